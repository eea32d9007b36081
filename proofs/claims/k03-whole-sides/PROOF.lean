import PyProof.Rows.All
import Wide.All
import OpenK.AllK
import Wide.FinOn
import HandS.ForMost
import HandS.WideBits
import HandS.Style
import HandS.IsInst
import HandS.EndBits
import HandS.Flow
import HandS.Conv
import HandS.Deep
import HandS.SortOrd
import HandS.SortRule
import HandS.CallRecv
import HandS.Codes
import HandS.CallLocal
import PySem.Challenge.RW_squaretree_k03_whole_sides
set_option Elab.async false
set_option linter.all false
set_option maxRecDepth 100000
set_option maxHeartbeats 4000000
/-! pairs, steps, rows: the plain law -/
namespace Sq
/-- no number but 1 goes into both -/
def Cop (a b : Int) : Prop := ∀ d : Int, d ∣ a → d ∣ b → d ∣ 1
theorem cop_iff {a b : Int} : Int.gcd a b = 1 ↔ Cop a b := by
  constructor
  · intro h d h1 h2
    have := Int.dvd_coe_gcd h1 h2
    rw [h] at this
    exact this
  · intro h
    have := h (Int.gcd a b) (Int.gcd_dvd_left a b) (Int.gcd_dvd_right a b)
    have h2 := Int.natAbs_dvd_natAbs.mpr this
    simpa using h2
abbrev Pr := Int × Int
def Good (p : Pr) : Prop := 0 < p.2 ∧ p.2 < p.1 ∧ (p.1 + p.2) % 2 = 1 ∧ Cop p.1 p.2
def S3 (s : Int) : Prop := s = 0 ∨ s = 1 ∨ s = 2
/-- one step -/
def st (s : Int) (p : Pr) : Pr := if s = 0 then (2 * p.1 - p.2, p.1) else if s = 2 then (p.1 + 2 * p.2, p.2) else (2 * p.1 + p.2, p.1)
def rep (s : Int) : Nat → Pr → Pr
  | 0, p => p
  | k + 1, p => st s (rep s k p)
/-- a step done so often -/
def led (p : Pr) (s o : Int) : Pr :=
  if s = 0 then (p.1 + o * (p.1 - p.2), p.2 + o * (p.1 - p.2)) else if s = 2 then (p.1 + 2 * o * p.2, p.2) else rep 1 o.toNat p
theorem rep0 (p : Pr) : ∀ k : Nat, rep 0 k p = (p.1 + k * (p.1 - p.2), p.2 + k * (p.1 - p.2))
  | 0 => by simp [rep]
  | k + 1 => by
    rw [rep, rep0 p k, st, if_pos rfl]
    refine Prod.ext ?_ ?_ <;> dsimp only <;> push_cast <;> grind
theorem rep2 (p : Pr) : ∀ k : Nat, rep 2 k p = (p.1 + 2 * k * p.2, p.2)
  | 0 => by simp [rep]
  | k + 1 => by
    rw [rep, rep2 p k, st, if_neg (by decide), if_pos rfl]
    refine Prod.ext ?_ ?_ <;> dsimp only <;> push_cast <;> grind
theorem led_rep {p : Pr} {s o : Int} (hs : S3 s) (ho : 0 ≤ o) : led p s o = rep s o.toNat p := by
  have e : ((o.toNat : Nat) : Int) = o := Int.toNat_of_nonneg ho
  unfold led
  rcases hs with rfl | rfl | rfl
  · rw [if_pos rfl, rep0, e]
  · rw [if_neg (by decide), if_neg (by decide)]
  · rw [if_neg (by decide), if_pos rfl, rep2, e]
theorem good_root : Good (2, 1) := ⟨by decide, by decide, by decide, fun d _ h => h⟩
theorem good_st {s : Int} {p : Pr} (hs : S3 s) (h : Good p) : Good (st s p) := by
  obtain ⟨m, n⟩ := p
  obtain ⟨h1, h2, h3, h4⟩ := h
  dsimp only at h1 h2 h3 h4
  rcases hs with rfl | rfl | rfl
  · rw [st, if_pos rfl]
    refine ⟨by dsimp only; omega, by dsimp only; omega, by dsimp only; omega, fun d ⟨a, ha⟩ ⟨b, hb⟩ => h4 d ⟨b, hb⟩ ⟨2 * b - a, ?_⟩⟩
    dsimp only at ha hb
    grind
  · rw [st, if_neg (by decide), if_neg (by decide)]
    refine ⟨by dsimp only; omega, by dsimp only; omega, by dsimp only; omega, fun d ⟨a, ha⟩ ⟨b, hb⟩ => h4 d ⟨b, hb⟩ ⟨a - 2 * b, ?_⟩⟩
    dsimp only at ha hb
    grind
  · rw [st, if_neg (by decide), if_pos rfl]
    refine ⟨by dsimp only; omega, by dsimp only; omega, by dsimp only; omega, fun d ⟨a, ha⟩ ⟨b, hb⟩ => h4 d ⟨a - 2 * b, ?_⟩ ⟨b, hb⟩⟩
    dsimp only at ha hb
    grind
theorem good_rep {s : Int} {p : Pr} (hs : S3 s) (h : Good p) : ∀ k, Good (rep s k p)
  | 0 => h
  | k + 1 => good_st hs (good_rep hs h k)
/-- a step leads to no root, and tells itself and the pair ahead -/
theorem st_root {s : Int} {p : Pr} (hs : S3 s) (h : Good p) : st s p ≠ (2, 1) := by
  obtain ⟨m, n⟩ := p
  obtain ⟨h1, h2, h3, h4⟩ := h
  dsimp only at h1 h2 h3 h4
  intro e
  rcases hs with rfl | rfl | rfl
  · rw [st, if_pos rfl] at e
    have := Prod.mk.inj e
    dsimp only at this
    omega
  · rw [st, if_neg (by decide), if_neg (by decide)] at e
    have := Prod.mk.inj e
    dsimp only at this
    omega
  · rw [st, if_neg (by decide), if_pos rfl] at e
    have := Prod.mk.inj e
    dsimp only at this
    omega
theorem st_inj {s t : Int} {p q : Pr} (hs : S3 s) (ht : S3 t) (hp : Good p) (hq : Good q) (e : st s p = st t q) : s = t ∧ p = q := by
  obtain ⟨m, n⟩ := p
  obtain ⟨k, l⟩ := q
  obtain ⟨h1, h2, _, _⟩ := hp
  obtain ⟨h3, h4, _, _⟩ := hq
  dsimp only at h1 h2 h3 h4
  rcases hs with rfl | rfl | rfl <;> rcases ht with rfl | rfl | rfl <;> simp [st] at e <;> simp [Prod.ext_iff] <;> omega
def walk (w : List Int) : Pr := w.foldl (fun p s => st s p) (2, 1)
def Steps (w : List Int) : Prop := ∀ s ∈ w, S3 s
theorem walk_snoc (w : List Int) (s : Int) : walk (w ++ [s]) = st s (walk w) := by simp [walk, List.foldl_append]
theorem foldl_good : ∀ (w : List Int) (p : Pr), Steps w → Good p → Good (w.foldl (fun p s => st s p) p)
  | [], _, _, h => h
  | s :: w, p, hs, h => foldl_good w (st s p) (fun x hx => hs x (List.mem_cons_of_mem _ hx)) (good_st (hs s List.mem_cons_self) h)
theorem walk_good {w : List Int} (h : Steps w) : Good (walk w) := foldl_good w _ h good_root
theorem walk_rep (w : List Int) (s : Int) : ∀ k, walk (w ++ List.replicate k s) = rep s k (walk w)
  | 0 => by simp [rep]
  | k + 1 => by rw [List.replicate_succ', ← List.append_assoc, walk_snoc, walk_rep w s k, rep]
theorem steps_app {a b : List Int} : Steps (a ++ b) ↔ Steps a ∧ Steps b := by
  unfold Steps
  constructor
  · intro h
    exact ⟨fun s hs => h s (List.mem_append_left _ hs), fun s hs => h s (List.mem_append_right _ hs)⟩
  · intro h s hs
    rcases List.mem_append.mp hs with q | q
    · exact h.1 s q
    · exact h.2 s q
/-- the last steps of a way, told by the pair ahead of them -/
theorem walk_back {s : Int} {q : Pr} (hs : S3 s) (hq : Good q) : ∀ (k : Nat) (w : List Int), Steps w → walk w = rep s k q → ∃ w', w = w' ++ List.replicate k s ∧ walk w' = q
  | 0, w, _, e => ⟨w, by simp, e⟩
  | k + 1, w, hw, e => by
    rcases List.eq_nil_or_concat w with rfl | ⟨v, t, rfl⟩
    · exact absurd e.symm (st_root hs (good_rep hs hq k))
    · rw [List.concat_eq_append] at e hw ⊢
      have hv := steps_app.mp hw
      rw [walk_snoc, rep] at e
      have ht : S3 t := hv.2 t (by simp)
      obtain ⟨rfl, e2⟩ := st_inj ht hs (walk_good hv.1) (good_rep hs hq k) e
      obtain ⟨w', rfl, e3⟩ := walk_back hs hq k v hv.1 e2
      exact ⟨w', by rw [List.replicate_succ', List.append_assoc], e3⟩
/-- the step back, how often it was done, and the pair ahead -/
def lastOf (p : Pr) : Int × Int × Pr :=
  if p.1 < 2 * p.2 then (0, (p.2 - 1) / (p.1 - p.2), (p.1 - (p.2 - 1) / (p.1 - p.2) * (p.1 - p.2), p.2 - (p.2 - 1) / (p.1 - p.2) * (p.1 - p.2)))
  else if p.1 < 3 * p.2 then (1, 1, (p.2, p.1 - 2 * p.2))
  else (2, (p.1 - p.2) / (2 * p.2), (p.1 - 2 * ((p.1 - p.2) / (2 * p.2)) * p.2, p.2))
/-- a pair but the first -/
theorem not_two {m n : Int} (h : Good (m, n)) (h0 : ((m, n) : Pr) ≠ (2, 1)) : m ≠ 2 * n := by
  intro e
  obtain ⟨h1, h2, h3, h4⟩ := h
  dsimp only at h1 h2 h3 h4
  have : n ∣ 1 := h4 n ⟨2, by omega⟩ ⟨1, by omega⟩
  have hn : n = 1 := by
    have := Int.le_of_dvd (by decide) this
    omega
  exact h0 (by rw [e, hn]; rfl)
theorem last_ok {p : Pr} (h : Good p) (h0 : p ≠ (2, 1)) : S3 (lastOf p).1 ∧ 1 ≤ (lastOf p).2.1 ∧ Good (lastOf p).2.2 ∧ led (lastOf p).2.2 (lastOf p).1 (lastOf p).2.1 = p := by
  obtain ⟨m, n⟩ := p
  have ne2 := not_two h h0
  obtain ⟨h1, h2, h3, h4⟩ := h
  dsimp only at h1 h2 h3 h4
  unfold lastOf
  dsimp only
  by_cases c : m < 2 * n
  · rw [if_pos c]
    dsimp only
    generalize ho : (n - 1) / (m - n) = o
    have hd : 0 < m - n := by omega
    have e1 := Int.mul_ediv_add_emod (n - 1) (m - n)
    have e2 := Int.emod_nonneg (n - 1) (show m - n ≠ 0 by omega)
    have e3 := Int.emod_lt_of_pos (n - 1) hd
    rw [ho] at e1
    have o1 : 1 ≤ o := by
      rw [← ho]
      exact (Int.le_ediv_iff_mul_le hd).mpr (by omega)
    have e4 : (m - n) * o = o * (m - n) := Int.mul_comm _ _
    refine ⟨.inl rfl, o1, ⟨?_, ?_, ?_, ?_⟩, ?_⟩
    · dsimp only
      omega
    · dsimp only
      omega
    · dsimp only
      omega
    · intro d ⟨a, ha⟩ ⟨b, hb⟩
      dsimp only at ha hb
      refine h4 d ⟨a + o * (a - b), ?_⟩ ⟨b + o * (a - b), ?_⟩ <;> grind
    · rw [led, if_pos rfl]
      refine Prod.ext ?_ ?_ <;> dsimp only <;> grind
  · rw [if_neg c]
    by_cases c2 : m < 3 * n
    · rw [if_pos c2]
      dsimp only
      refine ⟨.inr (.inl rfl), by decide, ⟨?_, ?_, ?_, ?_⟩, ?_⟩
      · dsimp only
        omega
      · dsimp only
        omega
      · dsimp only
        omega
      · intro d ⟨a, ha⟩ ⟨b, hb⟩
        dsimp only at ha hb
        exact h4 d ⟨2 * a + b, by grind⟩ ⟨a, by grind⟩
      · rw [led, if_neg (by decide), if_neg (by decide)]
        simp [rep, st]
        omega
    · rw [if_neg c2]
      dsimp only
      generalize ho : (m - n) / (2 * n) = o
      have hd : 0 < 2 * n := by omega
      have e1 := Int.mul_ediv_add_emod (m - n) (2 * n)
      have e2 := Int.emod_nonneg (m - n) (show 2 * n ≠ 0 by omega)
      have e3 := Int.emod_lt_of_pos (m - n) hd
      rw [ho] at e1
      have o1 : 1 ≤ o := by
        rw [← ho]
        exact (Int.le_ediv_iff_mul_le hd).mpr (by omega)
      have e4 : 2 * n * o = 2 * o * n := by grind
      have e5 : 2 * o * n = 2 * (o * n) := by grind
      have key : (m - n) % (2 * n) ≠ 0 := by
        intro z
        rw [z] at e1
        omega
      refine ⟨.inr (.inr rfl), o1, ⟨?_, ?_, ?_, ?_⟩, ?_⟩
      · dsimp only
        omega
      · dsimp only
        omega
      · dsimp only
        omega
      · intro d ⟨a, ha⟩ ⟨b, hb⟩
        dsimp only at ha hb
        refine h4 d ⟨a + 2 * o * b, ?_⟩ ⟨b, hb⟩
        grind
      · rw [led, if_neg (by decide), if_pos rfl]
        refine Prod.ext ?_ ?_ <;> dsimp only <;> grind
end Sq

/-! rows: the plain law -/
namespace Sq
abbrev PRow := List (Int × Int)
def ex : PRow → List Int
  | [] => []
  | x :: r => List.replicate x.2.toNat x.1 ++ ex r
def Pos (r : PRow) : Prop := ∀ x ∈ r, S3 x.1 ∧ 1 ≤ x.2
def Adj : PRow → Prop
  | [] => True
  | [_] => True
  | a :: b :: r => a.1 ≠ b.1 ∧ Adj (b :: r)
def behind (r : PRow) : Pr := r.foldl (fun p x => led p x.1 x.2) (2, 1)
theorem ex_app : ∀ a b : PRow, ex (a ++ b) = ex a ++ ex b
  | [], _ => rfl
  | x :: a, b => by
    show List.replicate x.2.toNat x.1 ++ ex (a ++ b) = (List.replicate x.2.toNat x.1 ++ ex a) ++ ex b
    rw [ex_app a b, List.append_assoc]
theorem pos_app {a b : PRow} : Pos (a ++ b) ↔ Pos a ∧ Pos b := by
  unfold Pos
  constructor
  · intro h
    exact ⟨fun s hs => h s (List.mem_append_left _ hs), fun s hs => h s (List.mem_append_right _ hs)⟩
  · intro h s hs
    rcases List.mem_append.mp hs with q | q
    · exact h.1 s q
    · exact h.2 s q
theorem pos_cons {x : Int × Int} {b : PRow} : Pos (x :: b) ↔ (S3 x.1 ∧ 1 ≤ x.2) ∧ Pos b := by
  unfold Pos
  exact List.forall_mem_cons
theorem ex_steps {r : PRow} (h : Pos r) : Steps (ex r) := by
  induction r with
  | nil => intro s hs; cases hs
  | cons x r ih =>
    have h2 := pos_cons.mp h
    exact steps_app.mpr ⟨fun s hs => by rw [List.eq_of_mem_replicate hs]; exact h2.1.1, ih h2.2⟩
theorem behind_snoc (r : PRow) (x : Int × Int) : behind (r ++ [x]) = led (behind r) x.1 x.2 := by simp [behind, List.foldl_append]
theorem snoc_ind {α : Type} {P : List α → Prop} (h0 : P []) (h1 : ∀ l x, P l → P (l ++ [x])) (l : List α) : P l := by
  have : ∀ n (l : List α), l.length = n → P l := by
    intro n
    induction n with
    | zero => intro l hl; rw [List.length_eq_zero_iff.mp hl]; exact h0
    | succ n ih =>
      intro l hl
      rcases List.eq_nil_or_concat l with rfl | ⟨v, t, rfl⟩
      · exact h0
      · rw [List.concat_eq_append] at hl ⊢
        rw [List.length_append, List.length_singleton] at hl
        exact h1 v t (ih v (by omega))
  exact this _ l rfl
theorem behind_walk (r : PRow) : Pos r → behind r = walk (ex r) := by
  refine snoc_ind (P := fun r => Pos r → behind r = walk (ex r)) (fun _ => rfl) (fun l x ih h => ?_) r
  have h2 := pos_app.mp h
  have h3 := h2.2 x (by simp)
  rw [behind_snoc, ex_app, led_rep h3.1 (by omega), ih h2.1]
  show rep x.1 x.2.toNat (walk (ex l)) = walk (ex l ++ (List.replicate x.2.toNat x.1 ++ []))
  rw [List.append_nil, walk_rep]
theorem behind_good {r : PRow} (h : Pos r) : Good (behind r) := by
  rw [behind_walk r h]
  exact walk_good (ex_steps h)
theorem adj_tail {x : Int × Int} {r : PRow} (h : Adj (x :: r)) : Adj r := by
  cases r with
  | nil => trivial
  | cons y r => exact h.2
/-- a row's way begins with its first step -/
theorem ex_head {x : Int × Int} {r : PRow} (h : 1 ≤ x.2) : ∃ w, ex (x :: r) = x.1 :: w := by
  have : ∃ k, x.2.toNat = k + 1 := ⟨x.2.toNat - 1, by omega⟩
  obtain ⟨k, e⟩ := this
  exact ⟨List.replicate k x.1 ++ ex r, by rw [ex, e, List.replicate_succ, List.cons_append]⟩
/-- behind its first step a row's way has another one -/
theorem ex_next {x : Int × Int} {r : PRow} (ha : Adj (x :: r)) (hp : Pos r) : ∀ w s, ex r = s :: w → s ≠ x.1 := by
  intro w s e
  cases r with
  | nil => cases e
  | cons y r =>
    obtain ⟨w', e'⟩ := ex_head (x := y) (r := r) (pos_cons.mp hp).1.2
    rw [e'] at e
    cases e
    exact fun z => ha.1 z.symm
theorem rep_split {s : Int} : ∀ {a b : Nat} {u v : List Int}, (∀ w t, u = t :: w → t ≠ s) → (∀ w t, v = t :: w → t ≠ s) → List.replicate a s ++ u = List.replicate b s ++ v → a = b ∧ u = v
  | 0, 0, _, _, _, _, e => ⟨rfl, e⟩
  | a + 1, 0, u, v, _, hv, e => absurd rfl (hv (List.replicate a s ++ u) s (by rw [← List.nil_append v, ← List.replicate_zero (a := s), ← e, List.replicate_succ, List.cons_append]))
  | 0, b + 1, u, v, hu, _, e => absurd rfl (hu (List.replicate b s ++ v) s (by rw [← List.nil_append u, ← List.replicate_zero (a := s), e, List.replicate_succ, List.cons_append]))
  | a + 1, b + 1, u, v, hu, hv, e => by
    rw [List.replicate_succ, List.replicate_succ, List.cons_append, List.cons_append] at e
    have e2 := (List.cons.inj e).2
    obtain ⟨h1, h2⟩ := rep_split hu hv e2
    exact ⟨by rw [h1], h2⟩
theorem ex_inj : ∀ {f r : PRow}, Pos f → Pos r → Adj f → Adj r → ex f = ex r → f = r
  | [], [], _, _, _, _, _ => rfl
  | [], y :: r, _, hr, _, _, e => by
    obtain ⟨w, e'⟩ := ex_head (x := y) (r := r) (pos_cons.mp hr).1.2
    rw [e'] at e
    cases e
  | x :: f, [], hf, _, _, _, e => by
    obtain ⟨w, e'⟩ := ex_head (x := x) (r := f) (pos_cons.mp hf).1.2
    rw [e'] at e
    cases e
  | x :: f, y :: r, hf, hr, af, ar, e => by
    have pf := pos_cons.mp hf
    have pr := pos_cons.mp hr
    obtain ⟨w, e1⟩ := ex_head (x := x) (r := f) pf.1.2
    obtain ⟨w', e2⟩ := ex_head (x := y) (r := r) pr.1.2
    have hs : x.1 = y.1 := by
      rw [e1, e2] at e
      exact (List.cons.inj e).1
    unfold ex at e
    rw [← hs] at e
    obtain ⟨h1, h2⟩ := rep_split (fun w t q => ex_next af pf.2 w t q) (fun w t q => by rw [hs]; exact ex_next ar pr.2 w t q) e
    have h3 : x = y := Prod.ext hs (by have := pf.1.2; have := pr.1.2; omega)
    rw [h3, ex_inj pf.2 pr.2 (adj_tail af) (adj_tail ar) h2]
/-- the end of a row's way, told by a row, is no longer -/
theorem ex_len : ∀ {r f : PRow} {w : List Int}, Pos f → Pos r → Adj f → Adj r → w ++ ex f = ex r → f.length ≤ r.length
  | [], f, w, hf, _, _, _, e => by
    cases f with
    | nil => exact Nat.le_refl _
    | cons x f =>
      obtain ⟨v, e'⟩ := ex_head (x := x) (r := f) (pos_cons.mp hf).1.2
      rw [e'] at e
      have := (List.append_eq_nil_iff.mp e).2
      cases this
  | y :: r, f, w, hf, hr, af, ar, e => by
    have pr := pos_cons.mp hr
    have e0 : w ++ ex f = List.replicate y.2.toNat y.1 ++ ex r := e
    by_cases c : y.2.toNat ≤ w.length
    · have e1 : ∃ v, w = List.replicate y.2.toNat y.1 ++ v ∧ v ++ ex f = ex r := by
        rcases List.append_eq_append_iff.mp e0 with ⟨a, h1, h2⟩ | ⟨a, h1, h2⟩
        · have : a = [] := by
            have := congrArg List.length h1
            rw [List.length_append, List.length_replicate] at this
            exact List.length_eq_zero_iff.mp (by omega)
          subst this
          rw [List.append_nil] at h1
          exact ⟨[], by rw [List.append_nil, h1], by rw [h2, List.nil_append, List.nil_append]⟩
        · exact ⟨a, h1, h2.symm⟩
      obtain ⟨v, _, e2⟩ := e1
      have := ex_len hf pr.2 af (adj_tail ar) e2
      rw [List.length_cons]
      omega
    · have hw : w = List.replicate w.length y.1 ∧ ex f = ex ((y.1, y.2 - w.length) :: r) := by
        rcases List.append_eq_append_iff.mp e0 with ⟨a, h1, h2⟩ | ⟨a, h1, h2⟩
        · have hl := congrArg List.length h1
          rw [List.length_append, List.length_replicate] at hl
          have hw : w = List.replicate w.length y.1 := List.eq_replicate_iff.mpr ⟨rfl, fun b hb => List.eq_of_mem_replicate (n := y.2.toNat) (by rw [h1]; exact List.mem_append_left _ hb)⟩
          have ha : a = List.replicate (y.2 - w.length).toNat y.1 := List.eq_replicate_iff.mpr ⟨by omega, fun b hb => List.eq_of_mem_replicate (n := y.2.toNat) (by rw [h1]; exact List.mem_append_right _ hb)⟩
          exact ⟨hw, by rw [h2]; show a ++ ex r = List.replicate (y.2 - w.length).toNat y.1 ++ ex r; rw [ha]⟩
        · have hl := congrArg List.length h1
          rw [List.length_append, List.length_replicate] at hl
          omega
      have pz : Pos ((y.1, y.2 - (w.length : Int)) :: r) := pos_cons.mpr ⟨⟨pr.1.1, by dsimp only; omega⟩, pr.2⟩
      have az : Adj ((y.1, y.2 - (w.length : Int)) :: r) := by
        cases r with
        | nil => trivial
        | cons z r => exact ar
      rw [ex_inj hf pz af az hw.2]
      exact Nat.le_refl _
/-- what row_of does with a step, told from the row's end: at the front -/
def front (s o : Int) : PRow → PRow
  | [] => [(s, o)]
  | x :: r => if x.1 = s then (s, x.2 + o) :: r else (s, o) :: x :: r
theorem front_eq {s o : Int} {x : Int × Int} {r : PRow} (h : x.1 = s) : front s o (x :: r) = (s, x.2 + o) :: r := if_pos h
theorem front_ne {s o : Int} {x : Int × Int} {r : PRow} (h : ¬ x.1 = s) : front s o (x :: r) = (s, o) :: x :: r := if_neg h
theorem front_ex {s o : Int} {r : PRow} (ho : 1 ≤ o) (hr : Pos r) : ex (front s o r) = List.replicate o.toNat s ++ ex r := by
  cases r with
  | nil => rfl
  | cons x r =>
    by_cases h : x.1 = s
    · have hx := (pos_cons.mp hr).1.2
      rw [front_eq h]
      show List.replicate (x.2 + o).toNat s ++ ex r = List.replicate o.toNat s ++ (List.replicate x.2.toNat x.1 ++ ex r)
      rw [h, ← List.append_assoc, List.replicate_append_replicate]
      congr 2
      omega
    · rw [front_ne h]
      rfl
theorem front_pos {s o : Int} {r : PRow} (hs : S3 s) (ho : 1 ≤ o) (hr : Pos r) : Pos (front s o r) := by
  cases r with
  | nil => exact pos_cons.mpr ⟨⟨hs, ho⟩, hr⟩
  | cons x r =>
    have hx := pos_cons.mp hr
    by_cases h : x.1 = s
    · rw [front_eq h]
      exact pos_cons.mpr ⟨⟨hs, by have := hx.1.2; dsimp only; omega⟩, hx.2⟩
    · rw [front_ne h]
      exact pos_cons.mpr ⟨⟨hs, ho⟩, hr⟩
theorem front_adj {s o : Int} {r : PRow} (hr : Adj r) : Adj (front s o r) := by
  cases r with
  | nil => trivial
  | cons x r =>
    by_cases h : x.1 = s
    · rw [front_eq h]
      cases r with
      | nil => trivial
      | cons y r => exact ⟨by rw [← h]; exact hr.1, hr.2⟩
    · rw [front_ne h]
      exact ⟨fun z => h z.symm, hr⟩
/-- THE LOOP of row_of: what holds between two turns. g: the row found so far (from its end), w: the way still ahead -/
structure Turns (R g : PRow) (p : Pr) (w : List Int) : Prop where
  st : Steps w
  at' : p = walk w
  all : w ++ ex g = ex R
  pos : Pos g
  adj : Adj g
theorem turns_start {R : PRow} (h : Pos R) : Turns R [] (behind R) (ex R) := ⟨ex_steps h, behind_walk R h, by simp [ex], (fun x hx => by cases hx), trivial⟩
theorem turns_next {R g : PRow} {p : Pr} {w : List Int} (t : Turns R g p w) (h0 : p ≠ (2, 1)) : ∃ w', w'.length < w.length ∧ Turns R (front (lastOf p).1 (lastOf p).2.1 g) (lastOf p).2.2 w' := by
  have gp : Good p := by rw [t.at']; exact walk_good t.st
  obtain ⟨h1, h2, h3, h4⟩ := last_ok gp h0
  rw [led_rep h1 (by omega)] at h4
  obtain ⟨w', e, e2⟩ := walk_back h1 h3 _ w t.st (t.at'.symm.trans h4.symm)
  refine ⟨w', ?_, ⟨?_, e2.symm, ?_, front_pos h1 h2 t.pos, front_adj t.adj⟩⟩
  · rw [e, List.length_append, List.length_replicate]
    omega
  · have := t.st
    rw [e] at this
    exact (steps_app.mp this).1
  · rw [front_ex h2 t.pos, ← List.append_assoc, ← e]
    exact t.all
theorem turns_end {R g : PRow} {w : List Int} (t : Turns R g (2, 1) w) (hR : Pos R) (aR : Adj R) : g = R := by
  have : w = [] := by
    rcases List.eq_nil_or_concat w with rfl | ⟨v, s, rfl⟩
    · rfl
    · have h := t.at'
      have hs := t.st
      rw [List.concat_eq_append] at h hs
      rw [walk_snoc] at h
      have h2 := steps_app.mp hs
      exact absurd h.symm (st_root (h2.2 s (by simp)) (walk_good h2.1))
  have e := t.all
  rw [this, List.nil_append] at e
  exact ex_inj t.pos hR t.adj aR e
theorem turns_len {R g : PRow} {p : Pr} {w : List Int} (t : Turns R g p w) (hR : Pos R) (aR : Adj R) : g.length ≤ R.length := ex_len t.pos hR t.adj aR t.all
theorem turns_good {R g : PRow} {p : Pr} {w : List Int} (t : Turns R g p w) : Good p := by rw [t.at']; exact walk_good t.st
end Sq

/-! triples, roots, sizes: the plain law -/
namespace Sq
theorem cop_mul {a b c : Int} (h1 : Cop a b) (h2 : Cop a c) : Cop a (b * c) := by
  have e1 : Nat.Coprime a.natAbs b.natAbs := cop_iff.mpr h1
  have e2 : Nat.Coprime a.natAbs c.natAbs := cop_iff.mpr h2
  have e3 : Nat.Coprime a.natAbs (b * c).natAbs := by
    rw [Int.natAbs_mul]
    exact Nat.Coprime.mul_right e1 e2
  exact cop_iff.mp e3
theorem cop_comm {a b : Int} (h : Cop a b) : Cop b a := fun d h1 h2 => h d h2 h1
abbrev Tr := Int × Int × Int
def tri (p : Pr) : Tr := (p.1 * p.1 - p.2 * p.2, 2 * p.1 * p.2, p.1 * p.1 + p.2 * p.2)
structure TriOk (t : Tr) : Prop where
  a : 0 < t.1
  b : 0 < t.2.1
  c : 0 < t.2.2
  odd : t.1 % 2 = 1
  even : t.2.1 % 2 = 0
  sq : t.1 * t.1 + t.2.1 * t.2.1 = t.2.2 * t.2.2
  cop : Int.gcd t.1 t.2.1 = 1
theorem sq_mod (m : Int) : (m * m) % 2 = m % 2 := by
  rw [Int.mul_emod]
  rcases Int.emod_two_eq m with h | h <;> rw [h] <;> rfl
theorem tri_ok {p : Pr} (h : Good p) : TriOk (tri p) := by
  obtain ⟨m, n⟩ := p
  obtain ⟨h1, h2, h3, h4⟩ := h
  dsimp only at h1 h2 h3 h4
  have k1 : n * n < m * m := Int.lt_trans (Int.mul_lt_mul_of_pos_right h2 h1) (Int.mul_lt_mul_of_pos_left h2 (by omega))
  have k2 : 0 < n * n := Int.mul_pos h1 h1
  have k3 : 0 < m * n := Int.mul_pos (by omega) h1
  have k4 : 2 * m * n = 2 * (m * n) := by grind
  have odd : (m * m - n * n) % 2 = 1 := by
    have := sq_mod m
    have := sq_mod n
    omega
  have cn : Cop n m := cop_comm h4
  refine ⟨by show 0 < m * m - n * n; omega, by show 0 < 2 * m * n; omega, by show 0 < m * m + n * n; omega, odd, by show (2 * m * n) % 2 = 0; omega, ?_, ?_⟩
  · show (m * m - n * n) * (m * m - n * n) + 2 * m * n * (2 * m * n) = (m * m + n * n) * (m * m + n * n)
    grind
  · refine cop_iff.mpr ?_
    show Cop (m * m - n * n) (2 * m * n)
    refine cop_mul (cop_mul ?_ ?_) ?_
    · intro d h5 ⟨e, he⟩
      have hd2 : d ∣ (2 : Int) := ⟨e, he⟩
      obtain ⟨f, hf⟩ := h5
      exact ⟨f - e * ((m * m - n * n) / 2), by
        have e1 := Int.mul_ediv_add_emod (m * m - n * n) 2
        rw [odd] at e1
        grind⟩
    · intro d ⟨e, he⟩ ⟨f, hf⟩
      exact cop_mul h4 h4 d ⟨f, hf⟩ ⟨f * m - e, by grind⟩
    · intro d ⟨e, he⟩ ⟨f, hf⟩
      exact cop_mul cn cn d ⟨f, hf⟩ ⟨f * n + e, by grind⟩
theorem tri_half1 (p : Pr) : ((tri p).2.2 + (tri p).1) / 2 = p.1 * p.1 := by
  show ((p.1 * p.1 + p.2 * p.2) + (p.1 * p.1 - p.2 * p.2)) / 2 = p.1 * p.1
  omega
theorem tri_half2 (p : Pr) : ((tri p).2.2 - (tri p).1) / 2 = p.2 * p.2 := by
  show ((p.1 * p.1 + p.2 * p.2) - (p.1 * p.1 - p.2 * p.2)) / 2 = p.2 * p.2
  omega
/-! ### roots -/
theorem root_uniq {r b n : Int} (h : 0 ≤ r) (h1 : r * r ≤ n) (h2 : n < (r + 1) * (r + 1)) (hb : 0 ≤ b) (h3 : b * b ≤ n) (h4 : n < (b + 1) * (b + 1)) : r = b := by
  rcases Int.lt_trichotomy r b with c | c | c
  · have : (r + 1) * (r + 1) ≤ b * b := Int.mul_le_mul (by omega) (by omega) (by omega) (by omega)
    omega
  · exact c
  · have : (b + 1) * (b + 1) ≤ r * r := Int.mul_le_mul (by omega) (by omega) (by omega) (by omega)
    omega
theorem root_sq {r m : Int} (h : 0 ≤ r) (h1 : r * r ≤ m * m) (h2 : m * m < (r + 1) * (r + 1)) (hm : 0 ≤ m) : r = m :=
  root_uniq h h1 h2 hm (Int.le_refl _) (by grind)
structure Newt (N x : Int) : Prop where
  nn : 0 ≤ x
  up : N < (x + 1) * (x + 1)
theorem newt_next {N x : Int} (hN : 0 ≤ N) (h : Newt N x) (hx : N < x * x) : 0 < x ∧ Newt N ((x + N / x) / 2) ∧ (x + N / x) / 2 < x := by
  have x0 : 0 < x := by
    rcases Int.lt_or_eq_of_le h.nn with c | c
    · exact c
    · rw [← c] at hx
      omega
  have e1 := Int.mul_ediv_add_emod N x
  have e2 := Int.emod_nonneg N (show x ≠ 0 by omega)
  have e3 := Int.emod_lt_of_pos N x0
  generalize hq : N / x = q at *
  have q0 : 0 ≤ q := by rw [← hq]; exact Int.ediv_nonneg hN h.nn
  have q1 : q < x := by
    rcases Int.lt_or_le q x with c | c
    · exact c
    · have : x * x ≤ x * q := Int.mul_le_mul_of_nonneg_left c h.nn
      omega
  have f1 := Int.mul_ediv_add_emod (x + q) 2
  generalize hr : (x + q) / 2 = r at *
  have r1 : x + q + 1 ≤ 2 * (r + 1) := by omega
  refine ⟨x0, ⟨by omega, ?_⟩, by omega⟩
  have g1 : 4 * N < 4 * ((q + 1) * x) := by
    have : (q + 1) * x = x * q + x := by grind
    omega
  have g2 : 4 * ((q + 1) * x) ≤ (x + q + 1) * (x + q + 1) := by
    have z : 0 ≤ (q + 1 - x) * (q + 1 - x) := by
      rcases Int.le_total 0 (q + 1 - x) with c | c
      · exact Int.mul_nonneg c c
      · exact Int.mul_nonneg_of_nonpos_of_nonpos c c
    have : (q + 1 - x) * (q + 1 - x) = (x + q + 1) * (x + q + 1) - 4 * ((q + 1) * x) := by grind
    omega
  have g3 : (x + q + 1) * (x + q + 1) ≤ (2 * (r + 1)) * (2 * (r + 1)) := Int.mul_le_mul r1 r1 (by omega) (by omega)
  have g4 : (2 * (r + 1)) * (2 * (r + 1)) = 4 * ((r + 1) * (r + 1)) := by grind
  omega
theorem newt_start {N : Int} {b : Nat} (hb : N < 2 ^ b) : Newt N (2 ^ ((b + 1) / 2)) := by
  have p0 : ∀ k : Nat, (0 : Int) < 2 ^ k := fun k => by
    have := Nat.two_pow_pos k
    exact_mod_cast this
  have z := p0 ((b + 1) / 2)
  refine ⟨by omega, ?_⟩
  have h1 : (2 : Int) ^ b ≤ 2 ^ ((b + 1) / 2) * 2 ^ ((b + 1) / 2) := by
    rw [← Int.pow_add]
    have : (2 : Nat) ^ b ≤ 2 ^ ((b + 1) / 2 + (b + 1) / 2) := Nat.pow_le_pow_right (by decide) (by omega)
    exact_mod_cast this
  have h2 : ((2 : Int) ^ ((b + 1) / 2) + 1) * (2 ^ ((b + 1) / 2) + 1) = 2 ^ ((b + 1) / 2) * 2 ^ ((b + 1) / 2) + 2 * 2 ^ ((b + 1) / 2) + 1 := by grind
  omega
/-! ### sizes -/
/-- fewer than k bits -/
def Bd (k : Nat) (x : Int) : Prop := x.natAbs < 2 ^ k
theorem Bd.mono {k l : Nat} {x : Int} (h : Bd k x) (e : k ≤ l) : Bd l x := Nat.lt_of_lt_of_le h (Nat.pow_le_pow_right (by decide) e)
theorem Bd.mul {k l : Nat} {x y : Int} (h : Bd k x) (h2 : Bd l y) : Bd (k + l) (x * y) := by
  unfold Bd at *
  rw [Int.natAbs_mul, Nat.pow_add]
  exact Nat.mul_lt_mul'' h h2
theorem Bd.add {k : Nat} {x y : Int} (h : Bd k x) (h2 : Bd k y) : Bd (k + 1) (x + y) := by
  unfold Bd at *
  have := Int.natAbs_add_le x y
  rw [Nat.pow_succ]
  omega
theorem Bd.neg {k : Nat} {x : Int} (h : Bd k x) : Bd k (-x) := by
  unfold Bd at *
  rw [Int.natAbs_neg]
  exact h
theorem Bd.sub {k : Nat} {x y : Int} (h : Bd k x) (h2 : Bd k y) : Bd (k + 1) (x - y) := by
  rw [Int.sub_eq_add_neg]
  exact Bd.add h h2.neg
theorem Bd.le {k : Nat} {x y : Int} (h : Bd k y) (h0 : 0 ≤ x) (h1 : x ≤ y) : Bd k x := Nat.lt_of_le_of_lt (by omega) h
theorem Bd.lt {k : Nat} {x : Int} (h : Bd k x) : x < 2 ^ k := by
  unfold Bd at h
  have : ((x.natAbs : Nat) : Int) < ((2 ^ k : Nat) : Int) := Int.ofNat_lt.mpr h
  rw [Int.natCast_pow] at this
  have e : x ≤ x.natAbs := Int.le_natAbs
  exact Int.lt_of_le_of_lt e this
theorem bd_of {k : Nat} {x : Int} (h0 : 0 ≤ x) (h : x < 2 ^ k) : Bd k x := by
  unfold Bd
  have e : ((x.natAbs : Nat) : Int) < ((2 ^ k : Nat) : Int) := by
    rw [Int.natCast_pow, Int.natAbs_of_nonneg h0]
    exact h
  exact Int.ofNat_lt.mp e
theorem bd_small {x : Int} {k : Nat} (h : x.natAbs < 2 ^ k) : Bd k x := h
theorem tri_bd {p : Pr} {k : Nat} (h : Good p) (hb : Bd k p.1) : Bd (k + k + 2) (tri p).1 ∧ Bd (k + k + 2) (tri p).2.1 ∧ Bd (k + k + 2) (tri p).2.2 := by
  obtain ⟨h1, h2, _, _⟩ := h
  have hn : Bd k p.2 := hb.le (by omega) (by omega)
  have e1 := hb.mul hb
  have e2 := hn.mul hn
  have e3 := hb.mul hn
  refine ⟨(e1.sub e2).mono (by omega), ?_, (e1.add e2).mono (by omega)⟩
  have : (tri p).2.1 = p.1 * p.2 + p.1 * p.2 := by
    show 2 * p.1 * p.2 = _
    grind
  rw [this]
  exact (e3.add e3).mono (by omega)
def PartOk (x : Int × Int) : Prop := S3 x.1 ∧ 1 ≤ x.2 ∧ x.2 ≤ 10 ^ 40 ∧ (x.1 = 1 → x.2 ≤ 1000)
theorem rep1_le {p : Pr} (h : Good p) : ∀ k : Nat, Bd b p.1 → Bd (b + 2 * k) (rep 1 k p).1
  | 0, hb => hb
  | k + 1, hb => by
    have ih := rep1_le h k hb
    have g := good_rep (s := 1) (.inr (.inl rfl)) h k
    obtain ⟨g1, g2, _, _⟩ := g
    rw [rep, st, if_neg (by decide), if_neg (by decide)]
    dsimp only
    have e : Bd (b + 2 * k) (rep 1 k p).2 := ih.le (by omega) (by omega)
    have : 2 * (rep 1 k p).1 + (rep 1 k p).2 = ((rep 1 k p).1 + (rep 1 k p).1) + (rep 1 k p).2 := by grind
    rw [this]
    exact ((ih.add ih).add (e.mono (by omega))).mono (by omega)
theorem led_bd {p : Pr} {x : Int × Int} {b : Nat} (h : Good p) (hx : PartOk x) (hb : Bd b p.1) : Bd (b + 2000) (led p x.1 x.2).1 := by
  obtain ⟨s, o⟩ := x
  obtain ⟨h1, h2, h3, h4⟩ := hx
  obtain ⟨g1, g2, _, _⟩ := id h
  dsimp only at h1 h2 h3 h4 ⊢
  have ho : Bd 140 o := Nat.lt_of_le_of_lt (show o.natAbs ≤ 10 ^ 40 by omega) (by decide +kernel)
  have hn : Bd b p.2 := hb.le (by omega) (by omega)
  rcases h1 with rfl | rfl | rfl
  · rw [led, if_pos rfl]
    dsimp only
    have e1 := hb.sub hn
    exact (((hb.mono (show b ≤ 140 + (b + 1) by omega)).add (ho.mul e1))).mono (by omega)
  · rw [led, if_neg (by decide), if_neg (by decide)]
    exact (rep1_le h o.toNat hb).mono (by have := h4 rfl; omega)
  · rw [led, if_neg (by decide), if_pos rfl]
    dsimp only
    have : 2 * o * p.2 = o * p.2 + o * p.2 := by grind
    rw [this]
    have e1 := ho.mul hn
    exact (((hb.mono (show b ≤ 140 + b + 1 by omega)).add (e1.add e1))).mono (by omega)
theorem rep1_succ (i : Nat) (p : Pr) : rep 1 (i + 1) p = (2 * (rep 1 i p).1 + (rep 1 i p).2, (rep 1 i p).1) := by
  rw [rep, st, if_neg (by decide), if_neg (by decide)]
theorem led_good {p : Pr} {s o : Int} (h : Good p) (hs : S3 s) (ho : 0 ≤ o) : Good (led p s o) := by
  rw [led_rep hs ho]
  exact good_rep hs h _
theorem parts_pos {r : PRow} (h : ∀ x ∈ r, PartOk x) : Pos r := fun x hx => ⟨(h x hx).1, (h x hx).2.1⟩
theorem behind_bd (r : PRow) : (∀ x ∈ r, PartOk x) → Bd (2000 * r.length + 2) (behind r).1 := by
  refine snoc_ind (P := fun r => (∀ x ∈ r, PartOk x) → Bd (2000 * r.length + 2) (behind r).1) (fun _ => by show (2 : Nat) < 2 ^ 2; decide) (fun l x ih h => ?_) r
  have h1 : ∀ y ∈ l, PartOk y := fun y hy => h y (List.mem_append_left _ hy)
  rw [behind_snoc, List.length_append, List.length_singleton]
  exact (led_bd (behind_good (parts_pos h1)) (h x (by simp)) (ih h1)).mono (by omega)
end Sq

/-! one step back; rows cut -/
namespace Sq
def backOf (p : Pr) : Int × Pr := if p.1 < 2 * p.2 then (0, (p.2, 2 * p.2 - p.1)) else if p.1 < 3 * p.2 then (1, (p.2, p.1 - 2 * p.2)) else (2, (p.1 - 2 * p.2, p.2))
theorem back_ok {p : Pr} (h : Good p) (h0 : p ≠ (2, 1)) : S3 (backOf p).1 ∧ Good (backOf p).2 ∧ p = st (backOf p).1 (backOf p).2 := by
  obtain ⟨m, n⟩ := p
  have ne2 := not_two h h0
  obtain ⟨h1, h2, h3, h4⟩ := h
  dsimp only at h1 h2 h3 h4
  unfold backOf
  dsimp only
  by_cases c : m < 2 * n
  · rw [if_pos c]
    refine ⟨.inl rfl, ⟨by dsimp only; omega, by dsimp only; omega, by dsimp only; omega, fun d ⟨a, ha⟩ ⟨b, hb⟩ => ?_⟩, ?_⟩
    · dsimp only at ha hb
      exact h4 d ⟨2 * a - b, by grind⟩ ⟨a, by grind⟩
    · rw [st, if_pos rfl]
      refine Prod.ext ?_ ?_ <;> dsimp only <;> omega
  · rw [if_neg c]
    by_cases c2 : m < 3 * n
    · rw [if_pos c2]
      refine ⟨.inr (.inl rfl), ⟨by dsimp only; omega, by dsimp only; omega, by dsimp only; omega, fun d ⟨a, ha⟩ ⟨b, hb⟩ => ?_⟩, ?_⟩
      · dsimp only at ha hb
        exact h4 d ⟨2 * a + b, by grind⟩ ⟨a, by grind⟩
      · show (m, n) = st 1 (n, m - 2 * n)
        rw [st, if_neg (by decide), if_neg (by decide)]
        refine Prod.ext ?_ ?_ <;> dsimp only <;> omega
    · rw [if_neg c2]
      refine ⟨.inr (.inr rfl), ⟨by dsimp only; omega, by dsimp only; omega, by dsimp only; omega, fun d ⟨a, ha⟩ ⟨b, hb⟩ => ?_⟩, ?_⟩
      · dsimp only at ha hb
        exact h4 d ⟨a + 2 * b, by grind⟩ ⟨b, by grind⟩
      · show (m, n) = st 2 (m - 2 * n, n)
        rw [st, if_neg (by decide), if_pos rfl]
        refine Prod.ext ?_ ?_ <;> dsimp only <;> omega
theorem back_st {s : Int} {p : Pr} (hs : S3 s) (h : Good p) : backOf (st s p) = (s, p) := by
  obtain ⟨h1, h2, h3⟩ := back_ok (good_st hs h) (st_root hs h)
  obtain ⟨e1, e2⟩ := st_inj hs h1 h h2 h3
  exact Prod.ext e1.symm e2.symm
theorem back_le {p : Pr} (h : Good p) : 0 ≤ (backOf p).2.1 ∧ (backOf p).2.1 ≤ p.1 ∧ -p.1 ≤ (backOf p).2.2 ∧ (backOf p).2.2 ≤ p.1 := by
  obtain ⟨h1, h2, _, _⟩ := h
  unfold backOf
  split
  · dsimp only
    omega
  · split <;> (dsimp only; omega)
theorem last_le {p : Pr} (h : Good p) (h0 : p ≠ (2, 1)) : (lastOf p).2.2.1 ≤ p.1 := by
  obtain ⟨h1, h2, h3, h4⟩ := last_ok h h0
  rw [led_rep h1 (by omega)] at h4
  have mono : ∀ k : Nat, (lastOf p).2.2.1 ≤ (rep (lastOf p).1 k (lastOf p).2.2).1 := by
    intro k
    induction k with
    | zero => exact Int.le_refl _
    | succ k ih =>
      have g := good_rep h1 h3 k
      refine Int.le_trans ih ?_
      obtain ⟨g1, g2, _, _⟩ := g
      rw [rep]
      rcases h1 with e | e | e <;> (rw [e] at g1 g2 ⊢; simp [st]; omega)
  have := mono (lastOf p).2.1.toNat
  rw [h4] at this
  exact this
theorem Bd.abs {k : Nat} {x y : Int} (h : Bd k y) (h0 : -y ≤ x) (h1 : x ≤ y) : Bd k x := Nat.lt_of_le_of_lt (by omega) h
theorem behind_take {r : PRow} {i : Nat} {x : Int × Int} (h : r[i]? = some x) : behind (r.take (i + 1)) = led (behind (r.take i)) x.1 x.2 := by
  rw [List.take_add_one, h]
  exact behind_snoc _ _
theorem adj_get : ∀ {r : PRow} {i : Nat} {x y : Int × Int}, Adj r → r[i]? = some x → r[i + 1]? = some y → x.1 ≠ y.1
  | [], _, _, _, _, h, _ => by simp at h
  | [_], 0, _, _, _, _, h => by simp at h
  | [_], _ + 1, _, _, _, h, _ => by simp at h
  | a :: b :: r, 0, x, y, ha, h, h2 => by
    have e1 : a = x := Option.some.inj h
    have e2 : b = y := Option.some.inj h2
    subst e1
    subst e2
    exact ha.1
  | a :: b :: r, i + 1, x, y, ha, h, h2 => adj_get (r := b :: r) (i := i) ha.2 h h2
theorem adj_take : ∀ {r : PRow} (n : Nat), Adj r → Adj (r.take n)
  | _, 0, _ => trivial
  | [], _ + 1, _ => trivial
  | [_], _ + 1, _ => by simp [Adj]
  | a :: b :: r, 1, _ => trivial
  | a :: b :: r, n + 2, h => ⟨h.1, adj_take (r := b :: r) (n + 1) h.2⟩
end Sq

/-! drawn rows -/
namespace Sq
theorem adj_snoc : ∀ {r : PRow} {x y : Int × Int}, Adj (r ++ [x]) → x.1 ≠ y.1 → Adj (r ++ [x] ++ [y])
  | [], _, _, _, h => ⟨h, trivial⟩
  | [a], x, y, ha, h => ⟨ha.1, h, trivial⟩
  | a :: b :: r, x, y, ha, h => ⟨ha.1, adj_snoc (r := b :: r) ha.2 h⟩
/-- a row grown, the step told last: 3 ahead of any -/
def LastIs (r : PRow) (l : Int) : Prop := (r = [] ∧ l = 3) ∨ ∃ r' x, r = r' ++ [x] ∧ l = x.1 ∧ S3 l
theorem next_ok {r : PRow} {l d s o : Int} (hl : LastIs r l) (h : ∀ x ∈ r, PartOk x) (ha : Adj r) (hs : s = if l = 3 then d % 3 else (l + 1 + d % 2) % 3) (h1 : 1 ≤ o) (h2 : o ≤ 10 ^ 40) (h3 : s = 1 → o ≤ 1000) :
    (∀ x ∈ r ++ [(s, o)], PartOk x) ∧ Adj (r ++ [(s, o)]) ∧ LastIs (r ++ [(s, o)]) s := by
  have s3 : S3 s := by
    unfold S3
    split at hs <;> omega
  refine ⟨fun x hx => ?_, ?_, .inr ⟨r, (s, o), rfl, rfl, s3⟩⟩
  · rcases List.mem_append.mp hx with q | q
    · exact h x q
    · rw [List.mem_singleton.mp q]
      exact ⟨s3, h1, h2, h3⟩
  · rcases hl with ⟨e, _⟩ | ⟨r', x, e, e2, l3⟩
    · rw [e]
      trivial
    · rw [e]
      refine adj_snoc (by rw [← e]; exact ha) ?_
      rw [← e2]
      unfold S3 at l3
      rw [if_neg (by omega)] at hs
      show l ≠ s
      omega
theorem often_ok {d m : Int} (hd : 0 ≤ d) (hm : 0 < m) (hm2 : m ≤ 10 ^ 40) : 1 ≤ 1 + d % m ∧ 1 + d % m ≤ 10 ^ 40 := by
  have := Int.emod_nonneg d (show m ≠ 0 by omega)
  have := Int.emod_lt_of_pos d hm
  omega
theorem partok_small {s o : Int} (hs : S3 s) (h1 : 1 ≤ o) (h2 : o ≤ 1000) : PartOk (s, o) := ⟨hs, h1, by dsimp only; omega, fun _ => h2⟩
end Sq

/-! a row's last step, taken back -/
namespace Sq
def shorter (s o : Int) : PRow := if 1 < o then [(s, o - 1)] else []
theorem shorter_ok {s o : Int} (h : PartOk (s, o)) : ∀ x ∈ shorter s o, PartOk x := by
  intro x hx
  unfold shorter at hx
  split at hx
  · rw [List.mem_singleton.mp hx]
    obtain ⟨h1, h2, h3, h4⟩ := h
    dsimp only at h1 h2 h3 h4
    exact ⟨h1, by dsimp only; omega, by dsimp only; omega, fun e => by have := h4 e; dsimp only; omega⟩
  · cases hx
theorem behind_app (a b : PRow) : behind (a ++ b) = b.foldl (fun p x => led p x.1 x.2) (behind a) := by simp [behind, List.foldl_append]
theorem last_step {r : PRow} {s o : Int} (hr : ∀ x ∈ r, PartOk x) (h : PartOk (s, o)) : behind (r ++ [(s, o)]) = st s (behind (r ++ shorter s o)) := by
  obtain ⟨h1, h2, h3, h4⟩ := h
  dsimp only at h1 h2 h3 h4
  rw [behind_app, behind_app]
  unfold shorter
  split
  · show led (behind r) s o = st s (led (behind r) s (o - 1))
    rw [led_rep h1 (by omega), led_rep h1 (by omega)]
    have : o.toNat = (o - 1).toNat + 1 := by omega
    rw [this, rep]
  · show led (behind r) s o = st s (behind r)
    have : o = 1 := by omega
    rw [this, led_rep h1 (by decide)]
    rfl
end Sq

/-! each pair's way and row; the pairs up to a number -/
namespace Sq
theorem way : ∀ (k : Nat) (p : Pr), Good p → p.1.toNat ≤ k → ∃ w : List Int, Steps w ∧ walk w = p ∧ (w.length : Int) + 2 ≤ p.1
  | 0, p, h, hk => by
    have := h.1
    have := h.2.1
    omega
  | k + 1, p, h, hk => by
    by_cases h0 : p = (2, 1)
    · subst h0
      exact ⟨[], (fun s hs => by cases hs), rfl, by decide⟩
    · obtain ⟨b1, b2, b3⟩ := back_ok h h0
      have lt : (backOf p).2.1 < p.1 := by
        have g := b2
        have e := b3
        obtain ⟨g1, g2, _, _⟩ := g
        generalize (backOf p).1 = s at *
        generalize (backOf p).2 = q at *
        rw [e]
        rcases b1 with z | z | z <;> (rw [z]; simp [st]; omega)
      have pos := b2.1
      have pos2 := b2.2.1
      obtain ⟨w, w1, w2, w3⟩ := way k (backOf p).2 b2 (by omega)
      refine ⟨w ++ [(backOf p).1], steps_app.mpr ⟨w1, fun s hs => by rw [List.mem_singleton.mp hs]; exact b1⟩, ?_, ?_⟩
      · rw [walk_snoc, w2]
        exact b3.symm
      · rw [List.length_append, List.length_singleton]
        omega
/-- a way as a row -/
def rle : List Int → PRow
  | [] => []
  | s :: w => front s 1 (rle w)
theorem rle_ok : ∀ w : List Int, Steps w → Pos (rle w) ∧ Adj (rle w) ∧ ex (rle w) = w ∧ (rle w).length ≤ w.length ∧ ∀ x ∈ rle w, x.2 ≤ w.length
  | [], _ => ⟨(fun x hx => by cases hx), trivial, rfl, Nat.le_refl _, (fun x hx => by cases hx)⟩
  | s :: w, h => by
    obtain ⟨h1, h2, h3, h4, h5⟩ := rle_ok w (fun x hx => h x (List.mem_cons_of_mem _ hx))
    have hs := h s List.mem_cons_self
    refine ⟨front_pos hs (by decide) h1, front_adj h2, ?_, ?_, ?_⟩
    · show ex (front s 1 (rle w)) = s :: w
      rw [front_ex (by decide) h1, h3]
      rfl
    · show (front s 1 (rle w)).length ≤ w.length + 1
      cases e : rle w with
      | nil => exact Nat.succ_le_succ (Nat.zero_le _)
      | cons x r =>
        rw [e] at h4
        by_cases c : x.1 = s
        · rw [front_eq c]
          rw [List.length_cons] at h4 ⊢
          omega
        · rw [front_ne c]
          rw [List.length_cons]
          omega
    · show ∀ x ∈ front s 1 (rle w), x.2 ≤ ((w.length + 1 : Nat) : Int)
      intro x hx
      cases e : rle w with
      | nil =>
        rw [e] at hx
        rw [List.mem_singleton.mp hx]
        dsimp only
        omega
      | cons y r =>
        rw [e] at hx h5
        have hy := h5 y List.mem_cons_self
        by_cases c : y.1 = s
        · rw [front_eq c] at hx
          rcases List.mem_cons.mp hx with z | z
          · rw [z]
            dsimp only
            omega
          · have := h5 x (List.mem_cons_of_mem _ z)
            omega
        · rw [front_ne c] at hx
          rcases List.mem_cons.mp hx with z | z
          · rw [z]
            dsimp only
            omega
          · have := h5 x z
            omega
/-- each pair has a row -/
theorem row_of_pair {p : Pr} (h : Good p) (hb : p.1 ≤ 900) : ∃ r : PRow, (∀ x ∈ r, PartOk x) ∧ Adj r ∧ behind r = p ∧ r.length ≤ 900 ∧ (r.length : Int) ≤ p.1 ∧ (ex r).length + 2 ≤ p.1 := by
  obtain ⟨w, w1, w2, w3⟩ := way _ p h (Nat.le_refl _)
  obtain ⟨h1, h2, h3, h4, h5⟩ := rle_ok w w1
  refine ⟨rle w, fun x hx => ?_, h2, ?_, by omega, by omega, by rw [h3]; omega⟩
  · have a := h1 x hx
    have b := h5 x hx
    exact ⟨a.1, a.2, by omega, fun _ => by omega⟩
  · rw [behind_walk _ h1, h3]
    exact w2
theorem tri_root {p : Pr} (h : Good p) (e1 : (tri p).1 = 3) (e2 : (tri p).2.2 = 5) : p = (2, 1) := by
  obtain ⟨h1, h2, h3, h4⟩ := h
  have a : p.1 * p.1 - p.2 * p.2 = 3 := e1
  have b : p.1 * p.1 + p.2 * p.2 = 5 := e2
  have c : p.1 * p.1 = 4 := by omega
  have d : p.2 * p.2 = 1 := by omega
  have x1 : p.1 = 2 := root_sq (m := 2) (by omega) (by omega) (by have := Int.mul_pos (show 0 < p.1 by omega) (show 0 < p.1 by omega); grind) (by decide)
  have x2 : p.2 = 1 := root_sq (m := 1) (by omega) (by omega) (by grind) (by decide)
  exact Prod.ext x1 x2
/-- the pairs (m, 1), .. (m, k) -/
def inner (m : Int) : Nat → List Pr
  | 0 => []
  | k + 1 => inner m k ++ (if (m + (k + 1)) % 2 = 1 ∧ Int.gcd m (k + 1) = 1 then [(m, (k : Int) + 1)] else [])
/-- all pairs up to the number i + 1 -/
def pairs : Nat → List Pr
  | 0 => []
  | i + 1 => pairs i ++ inner (i + 2) (i + 1)
theorem inner_mem {m : Int} : ∀ {k : Nat} {p : Pr}, p ∈ inner m k → p.1 = m ∧ 0 < p.2 ∧ p.2 ≤ k ∧ (p.1 + p.2) % 2 = 1 ∧ Cop p.1 p.2
  | 0, _, h => by cases h
  | k + 1, p, h => by
    rcases List.mem_append.mp h with z | z
    · obtain ⟨a, b, c, d⟩ := inner_mem z
      exact ⟨a, b, by omega, d⟩
    · split at z
      · rename_i c
        rw [List.mem_singleton.mp z]
        exact ⟨rfl, by dsimp only; omega, by dsimp only; omega, c.1, cop_iff.mp c.2⟩
      · cases z
theorem inner_nodup {m : Int} : ∀ k : Nat, (inner m k).Nodup
  | 0 => List.nodup_nil
  | k + 1 => by
    refine List.nodup_append.mpr ⟨inner_nodup k, ?_, ?_⟩
    · split <;> simp
    · intro a ha b hb e
      subst e
      split at hb
      · have := (inner_mem ha).2.2.1
        rw [List.mem_singleton.mp hb] at this
        dsimp only at this
        omega
      · cases hb
theorem pairs_mem : ∀ {i : Nat} {p : Pr}, p ∈ pairs i → Good p ∧ p.1 ≤ i + 1
  | 0, _, h => by cases h
  | i + 1, p, h => by
    rcases List.mem_append.mp h with z | z
    · obtain ⟨a, b⟩ := pairs_mem z
      exact ⟨a, by omega⟩
    · obtain ⟨a, b, c, d, e⟩ := inner_mem z
      exact ⟨⟨b, by omega, d, e⟩, by omega⟩
theorem pairs_nodup : ∀ i : Nat, (pairs i).Nodup
  | 0 => List.nodup_nil
  | i + 1 => by
    refine List.nodup_append.mpr ⟨pairs_nodup i, inner_nodup _, ?_⟩
    intro a ha b hb e
    subst e
    have := (pairs_mem ha).2
    have := (inner_mem hb).1
    omega
theorem pairs_len : ∀ i : Nat, (pairs i).length ≤ i * (i + 1)
  | 0 => Nat.le_refl _
  | i + 1 => by
    have inl : ∀ (m : Int) (k : Nat), (inner m k).length ≤ k := by
      intro m k
      induction k with
      | zero => exact Nat.le_refl _
      | succ k ih =>
        rw [inner, List.length_append]
        split <;> simp <;> omega
    have := pairs_len i
    have := inl (i + 2) (i + 1)
    rw [pairs, List.length_append]
    have e : (i + 1) * (i + 1 + 1) = i * (i + 1) + 2 * (i + 1) := by grind
    omega
theorem pairs_three : ∀ i : Nat, 3 ≤ i → ∃ l, pairs i = (2, 1) :: (3, 2) :: (4, 1) :: l
  | 0, h => by omega
  | 1, h => by omega
  | 2, h => by omega
  | 3, _ => ⟨[(4, 3)], by decide⟩
  | i + 4, _ => by
    obtain ⟨l, e⟩ := pairs_three (i + 3) (by omega)
    exact ⟨l ++ inner ((i + 3 : Nat) + 2) (i + 3 + 1), by rw [pairs, e]; rfl⟩
theorem behind_inj {r u : PRow} (hr : Pos r) (hu : Pos u) (ar : Adj r) (au : Adj u) (e : behind r = behind u) : r = u := by
  have h : ∀ (v w : List Int), Steps v → Steps w → walk v = walk w → v = w := by
    intro v
    refine snoc_ind (P := fun v => ∀ w, Steps v → Steps w → walk v = walk w → v = w) ?_ ?_ v
    · intro w _ hw e
      rcases List.eq_nil_or_concat w with z | ⟨w', s, z⟩
      · exact z.symm
      · subst z
        rw [List.concat_eq_append] at hw e
        have h2 := steps_app.mp hw
        rw [walk_snoc] at e
        exact absurd e.symm (st_root (h2.2 s (by simp)) (walk_good h2.1))
    · intro v s ih w hv hw e
      have hv2 := steps_app.mp hv
      rcases List.eq_nil_or_concat w with z | ⟨w', t, z⟩
      · subst z
        rw [walk_snoc] at e
        exact absurd e (st_root (hv2.2 s (by simp)) (walk_good hv2.1))
      · subst z
        rw [List.concat_eq_append] at hw e ⊢
        have hw2 := steps_app.mp hw
        rw [walk_snoc, walk_snoc] at e
        obtain ⟨e1, e2⟩ := st_inj (hv2.2 s (by simp)) (hw2.2 t (by simp)) (walk_good hv2.1) (walk_good hw2.1) e
        rw [e1, ih w' hv2.1 hw2.1 e2]
  rw [behind_walk r hr, behind_walk u hu] at e
  exact ex_inj hr hu ar au (h _ _ (ex_steps hr) (ex_steps hu) e)
end Sq

/-! triples in order: the plain law -/
namespace Sq
def lt3 (p q : Tr) : Bool := decide (p.1 < q.1 ∨ (p.1 = q.1 ∧ (p.2.1 < q.2.1 ∨ (p.2.1 = q.2.1 ∧ p.2.2 < q.2.2))))
theorem lt3_iff {p q : Tr} : lt3 p q = true ↔ p.1 < q.1 ∨ (p.1 = q.1 ∧ (p.2.1 < q.2.1 ∨ (p.2.1 = q.2.1 ∧ p.2.2 < q.2.2))) := decide_eq_true_iff
theorem lt3_no {p q : Tr} : lt3 p q = false ↔ ¬ (p.1 < q.1 ∨ (p.1 = q.1 ∧ (p.2.1 < q.2.1 ∨ (p.2.1 = q.2.1 ∧ p.2.2 < q.2.2)))) := decide_eq_false_iff_not
def le3 (p q : Tr) : Bool := !lt3 q p
theorem le3_iff {p q : Tr} : le3 p q = true ↔ lt3 q p = false := by
  unfold le3
  cases lt3 q p <;> simp
/-- the one sorted list of these -/
def srt (L : List Tr) : List Tr := L.mergeSort le3
theorem srt_perm (L : List Tr) : (srt L).Perm L := List.mergeSort_perm L le3
theorem srt_pw (L : List Tr) : (srt L).Pairwise fun x y => le3 x y = true := by
  refine List.pairwise_mergeSort (fun a b c h1 h2 => ?_) (fun a b => ?_) L
  · have h1 := lt3_no.mp (le3_iff.mp h1)
    have h2 := lt3_no.mp (le3_iff.mp h2)
    refine le3_iff.mpr (lt3_no.mpr ?_)
    omega
  · rcases Bool.eq_false_or_eq_true (lt3 b a) with h | h
    · have h' := lt3_iff.mp h
      have : le3 b a = true := le3_iff.mpr (lt3_no.mpr (by omega))
      rw [this, Bool.or_true]
    · rw [le3_iff.mpr h, Bool.true_or]
theorem srt_of {L M : List Tr} (hp : M.Perm L) (hs : M.Pairwise fun x y => lt3 y x = false) : M = srt L := by
  refine List.Perm.eq_of_pairwise (le := fun x y => le3 x y = true) (fun a b _ _ h1 h2 => ?_) (hs.imp fun {a b} h => le3_iff.mpr h) (srt_pw L) (hp.trans (srt_perm L).symm)
  have h1 := lt3_no.mp (le3_iff.mp h1)
  have h2 := lt3_no.mp (le3_iff.mp h2)
  obtain ⟨a1, a2, a3⟩ := a
  obtain ⟨b1, b2, b3⟩ := b
  dsimp only at h1 h2
  have e1 : a1 = b1 := by omega
  have e2 : a2 = b2 := by omega
  have e3 : a3 = b3 := by omega
  rw [e1, e2, e3]
end Sq

/-! the answers: the plain law -/
namespace Sq
/-- the whole root -/
def rt : Nat → Nat
  | 0 => 0
  | k + 1 => if (rt k + 1) * (rt k + 1) ≤ k + 1 then rt k + 1 else rt k
theorem rt_ok : ∀ k : Nat, rt k * rt k ≤ k ∧ k < (rt k + 1) * (rt k + 1)
  | 0 => ⟨Nat.le_refl _, by decide⟩
  | k + 1 => by
    obtain ⟨h1, h2⟩ := rt_ok k
    unfold rt
    generalize rt k = r at h1 h2
    by_cases c : (r + 1) * (r + 1) ≤ k + 1
    · rw [if_pos c]
      refine ⟨c, ?_⟩
      have : (r + 1 + 1) * (r + 1 + 1) = (r + 1) * (r + 1) + 2 * r + 3 := by grind
      omega
    · rw [if_neg c]
      exact ⟨by omega, by omega⟩
def rti (n : Int) : Int := (rt n.toNat : Nat)
theorem rti_pos (n : Int) : 0 ≤ rti n := Int.natCast_nonneg _
theorem rti_le {n : Int} (h : 0 ≤ n) : rti n * rti n ≤ n := by
  have q := (rt_ok n.toNat).1
  have e : ((n.toNat : Nat) : Int) = n := Int.toNat_of_nonneg h
  unfold rti
  rw [← Int.natCast_mul]
  omega
theorem rti_lt {n : Int} (h : 0 ≤ n) : n < (rti n + 1) * (rti n + 1) := by
  have q := (rt_ok n.toNat).2
  have e : ((n.toNat : Nat) : Int) = n := Int.toNat_of_nonneg h
  unfold rti
  have e2 : ((rt n.toNat : Nat) : Int) + 1 = ((rt n.toNat + 1 : Nat) : Int) := by omega
  rw [e2, ← Int.natCast_mul]
  omega
theorem sq_mono {a b : Int} (h0 : 0 ≤ a) (h : a ≤ b) : a * a ≤ b * b := Int.mul_le_mul h h h0 (by omega)
theorem le_of_sq {a b : Int} (hb : 0 ≤ b) (h : a * a ≤ b * b) : a ≤ b := by
  by_cases c : a ≤ b
  · exact c
  · have := sq_mono (a := b + 1) (b := a) (by omega) (by omega)
    have e : (b + 1) * (b + 1) = b * b + 2 * b + 1 := by grind
    omega
theorem lt_of_sq {a b : Int} (hb : 0 ≤ b) (h : a * a < b * b) : a < b := by
  by_cases c : a < b
  · exact c
  · have := sq_mono (a := b) (b := a) hb (by omega)
    omega
theorem rti_uniq {r n : Int} (h : 0 ≤ r) (h1 : r * r ≤ n) (h2 : n < (r + 1) * (r + 1)) : rti n = r := by
  have h0 : 0 ≤ n := Int.le_trans (Int.mul_nonneg h h) h1
  exact root_uniq (rti_pos n) (rti_le h0) (rti_lt h0) h h1 h2
theorem le_rti {a n : Int} (h0 : 0 ≤ n) (h : a * a ≤ n) : a ≤ rti n := by
  have h2 := rti_lt h0
  have := lt_of_sq (a := a) (b := rti n + 1) (by have := rti_pos n; omega) (by omega)
  omega
theorem rti_mono {a b : Int} (h0 : 0 ≤ a) (h : a ≤ b) : rti a ≤ rti b := le_rti (by omega) (by have := rti_le h0; omega)

/-! ### lists made turn by turn -/
def upto {α : Type} (f : Int → List α) : Nat → List α
  | 0 => []
  | k + 1 => upto f k ++ f (k + 1 : Nat)
theorem upto_more {α : Type} {f : Int → List α} {a : Nat} (h : ∀ i : Nat, a < i → f i = []) : ∀ d : Nat, upto f (a + d) = upto f a
  | 0 => rfl
  | d + 1 => by
    show upto f (a + d) ++ f (a + d + 1 : Nat) = upto f a
    rw [upto_more h d, h (a + d + 1) (by omega), List.append_nil]
theorem upto_eq {α : Type} {f : Int → List α} {a b : Nat} (hab : a ≤ b) (h : ∀ i : Nat, a < i → f i = []) : upto f b = upto f a := by
  obtain ⟨d, rfl⟩ := Nat.exists_eq_add_of_le hab
  exact upto_more h d
theorem upto_len {α : Type} {f : Int → List α} {c : Nat} (h : ∀ i, (f i).length ≤ c) : ∀ k : Nat, (upto f k).length ≤ c * k
  | 0 => by simp [upto]
  | k + 1 => by
    have q := upto_len h k
    have q2 := h (k + 1 : Nat)
    rw [upto, List.length_append, Nat.mul_succ]
    omega
theorem upto_nil {α : Type} {f : Int → List α} (h : ∀ i, f i = []) : ∀ k : Nat, upto f k = []
  | 0 => rfl
  | k + 1 => by rw [upto, upto_nil h k, h]; rfl
theorem upto_congr {α : Type} {f g : Int → List α} (h : ∀ i, f i = g i) : ∀ k : Nat, upto f k = upto g k
  | 0 => rfl
  | k + 1 => by rw [upto, upto, upto_congr h k, h]

/-! ### the longest side -/
def lgOk (N m n : Int) : Bool := decide (m * m + n * n = N) && decide ((m + n) % 2 = 1) && decide ((Int.gcd m n : Int) = 1)
def lgAt (N n : Int) : List Tr := if (decide (n < rti (N - n * n)) && lgOk N (rti (N - n * n)) n) = true then [tri (rti (N - n * n), n)] else []
def lgL (N : Int) : List Tr := upto (lgAt N) (rti N).toNat
theorem lgAt_nil {N n : Int} (h : N ≤ 2 * n * n) (hn : 0 ≤ n) : lgAt N n = [] := by
  refine if_neg fun c => ?_
  rw [Bool.and_eq_true] at c
  obtain ⟨c1, c2⟩ := c
  unfold lgOk at c2
  rw [Bool.and_eq_true, Bool.and_eq_true] at c2
  have c1 := of_decide_eq_true c1
  have c2 := of_decide_eq_true c2.1.1
  generalize rti (N - n * n) = m at c1 c2
  have := sq_mono (a := n + 1) (b := m) (by omega) (by omega)
  have e : (n + 1) * (n + 1) = n * n + 2 * n + 1 := by grind
  have e2 : 2 * n * n = 2 * (n * n) := by grind
  omega
theorem lgAt_len (N n : Int) : (lgAt N n).length ≤ 1 := by
  unfold lgAt
  split <;> simp
theorem lgL_upto {N : Int} {k : Nat} (hN : 0 ≤ N) (h : ∀ i : Int, 0 ≤ i → i ≤ k → i = 0 ∨ 2 * i * i < N) (h2 : N ≤ 2 * (k + 1 : Nat) * (k + 1 : Nat)) : upto (lgAt N) k = lgL N := by
  have hk : k ≤ (rti N).toNat := by
    by_cases c : k = 0
    · omega
    · have h3 := h k (by omega) (Int.le_refl _)
      have h4 : (k : Int) * k ≤ N := by
        have e2 : 2 * (k : Int) * k = 2 * ((k : Int) * k) := by grind
        have : 0 ≤ (k : Int) * k := Int.mul_nonneg (by omega) (by omega)
        omega
      have := le_rti hN h4
      omega
  refine (upto_eq hk fun i hi => lgAt_nil ?_ (by omega)).symm
  have := sq_mono (a := ((k + 1 : Nat) : Int)) (b := (i : Int)) (by omega) (by omega)
  have e2 : 2 * ((k + 1 : Nat) : Int) * (k + 1 : Nat) = 2 * (((k + 1 : Nat) : Int) * (k + 1 : Nat)) := by grind
  have e3 : 2 * (i : Int) * i = 2 * ((i : Int) * i) := by grind
  omega

/-! ### a leg -/
def leA (N p : Int) : List Tr := if (decide (N % p = 0) && decide (p < N / p) && decide ((Int.gcd p (N / p) : Int) = 1) && decide (N % 2 = 1)) = true then [tri ((N / p + p) / 2, (N / p - p) / 2)] else []
def leB (N p : Int) : List Tr := if (decide (N % 4 = 0) && decide (N / 2 % p = 0) && decide (p < N / 2 / p) && decide ((Int.gcd p (N / 2 / p) : Int) = 1)) = true then [tri (N / 2 / p, p)] else []
def leL (N : Int) : List Tr := upto (fun p => leA N p ++ leB N p) (rti N).toNat
theorem leA_even {N p : Int} (h : ¬ N % 2 = 1) : leA N p = [] := by
  refine if_neg fun c => ?_
  rw [Bool.and_eq_true] at c
  exact h (of_decide_eq_true c.2)
theorem leB_odd {N p : Int} (h : ¬ N % 4 = 0) : leB N p = [] := by
  refine if_neg fun c => ?_
  rw [Bool.and_eq_true, Bool.and_eq_true, Bool.and_eq_true] at c
  exact h (of_decide_eq_true c.1.1.1)
theorem part_lt {N p : Int} (hp : 0 < p) (h : N % p = 0) : p < N / p ↔ p * p < N := by
  have e := Int.mul_ediv_add_emod N p
  rw [h, Int.add_zero] at e
  constructor
  · intro c
    rw [← e]
    exact Int.mul_lt_mul_of_pos_left c hp
  · intro c
    rw [← e] at c
    exact Int.lt_of_mul_lt_mul_left c (by omega)
theorem leA_nil {N p : Int} (hp : 0 < p) (h : N ≤ p * p) : leA N p = [] := by
  refine if_neg fun c => ?_
  rw [Bool.and_eq_true, Bool.and_eq_true, Bool.and_eq_true] at c
  have := (part_lt hp (of_decide_eq_true c.1.1.1)).mp (of_decide_eq_true c.1.1.2)
  omega
theorem leB_nil {N p : Int} (hp : 0 < p) (h : N / 2 ≤ p * p) : leB N p = [] := by
  refine if_neg fun c => ?_
  rw [Bool.and_eq_true, Bool.and_eq_true, Bool.and_eq_true] at c
  have := (part_lt hp (of_decide_eq_true c.1.1.2)).mp (of_decide_eq_true c.1.2)
  omega
theorem upto_leA {N : Int} {k : Nat} (hN : 0 ≤ N) (h : (k : Int) = 0 ∨ (k : Int) * k < N) (h2 : N ≤ (k + 1 : Nat) * (k + 1 : Nat)) : upto (leA N) k = upto (leA N) (rti N).toNat := by
  have hk : k ≤ (rti N).toNat := by
    rcases h with h | h
    · omega
    · have := le_rti hN (show (k : Int) * k ≤ N by omega)
      omega
  refine (upto_eq hk fun i hi => leA_nil (by omega) ?_).symm
  have := sq_mono (a := ((k + 1 : Nat) : Int)) (b := (i : Int)) (by omega) (by omega)
  omega
theorem upto_leB {N : Int} {k : Nat} (hN : 0 ≤ N) (h : (k : Int) = 0 ∨ (k : Int) * k < N / 2) (h2 : N % 4 = 0 → N / 2 ≤ (k + 1 : Nat) * (k + 1 : Nat)) : upto (leB N) k = upto (leB N) (rti N).toNat := by
  have hk : k ≤ (rti N).toNat := by
    rcases h with h | h
    · omega
    · have := le_rti hN (show (k : Int) * k ≤ N by omega)
      omega
  refine (upto_eq hk fun i hi => ?_).symm
  by_cases c : N % 4 = 0
  · refine leB_nil (by omega) ?_
    have := sq_mono (a := ((k + 1 : Nat) : Int)) (b := (i : Int)) (by omega) (by omega)
    have := h2 c
    omega
  · exact leB_odd c
theorem leL_eq (N : Int) : upto (leA N) (rti N).toNat ++ upto (leB N) (rti N).toNat = leL N := by
  unfold leL
  by_cases c : N % 2 = 1
  · have e : ∀ i, leB N i = [] := fun i => leB_odd (by omega)
    rw [upto_nil e, List.append_nil]
    exact upto_congr (fun i => by rw [e, List.append_nil]) _
  · have e : ∀ i, leA N i = [] := fun i => leA_even c
    rw [upto_nil e, List.nil_append]
    exact upto_congr (fun i => by rw [e, List.nil_append]) _
theorem le_len (N p : Int) : (leA N p ++ leB N p).length ≤ 2 := by
  have h1 : (leA N p).length ≤ 1 := by unfold leA; split <;> simp
  have h2 : (leB N p).length ≤ 1 := by unfold leB; split <;> simp
  rw [List.length_append]
  omega
theorem leA_len (N p : Int) : (leA N p).length ≤ 1 := by unfold leA; split <;> simp
theorem leB_len (N p : Int) : (leB N p).length ≤ 1 := by unfold leB; split <;> simp

/-! ### barred -/
def noDiv (p : Int) : Bool := (List.range (rti p).toNat).all fun i => decide (i = 0) || decide (p % (i + 1 : Nat) ≠ 0)
theorem noDiv_iff {p : Int} (hp : 0 ≤ p) : noDiv p = true ↔ ∀ d : Int, 2 ≤ d → d * d ≤ p → p % d ≠ 0 := by
  unfold noDiv
  rw [List.all_eq_true]
  constructor
  · intro h d h2 h3 h4
    have h5 := le_rti hp h3
    have q := h (d.toNat - 1) (List.mem_range.mpr (by omega))
    have e : ((d.toNat - 1 + 1 : Nat) : Int) = d := by omega
    rw [e, Bool.or_eq_true] at q
    rcases q with q | q
    · have := of_decide_eq_true q
      omega
    · exact of_decide_eq_true q h4
  · intro h i hi
    rw [Bool.or_eq_true]
    have hi := List.mem_range.mp hi
    by_cases c : i = 0
    · exact .inl (decide_eq_true c)
    · refine .inr (decide_eq_true (h _ (by omega) ?_))
      have h1 := sq_mono (a := ((i + 1 : Nat) : Int)) (b := rti p) (by omega) (by omega)
      have h2 := rti_le hp
      omega
def brd (N p : Int) : Bool := decide (2 ≤ p) && decide (p ≤ N) && decide (N % p = 0) && noDiv p && (decide (p = 2) || decide (p % 4 = 3))
end Sq

/-! primes that leave 1 by 4 are sums of two squares (by two involutions): the plain law -/
namespace Sq
theorem even_of_invol {α : Type} [DecidableEq α] (f : α → α) : ∀ (n : Nat) (L : List α), L.length = n → L.Nodup → (∀ a ∈ L, f a ∈ L) → (∀ a ∈ L, f (f a) = a) → (∀ a ∈ L, f a ≠ a) → n % 2 = 0
  | 0, _, _, _, _, _, _ => rfl
  | 1, [a], _, _, h1, _, h3 => by
    have := h1 a List.mem_cons_self
    exact absurd (List.mem_singleton.mp this) (h3 a List.mem_cons_self)
  | n + 2, a :: L1, hl, hn, h1, h2, h3 => by
    have hn1 := List.nodup_cons.mp hn
    have hb : f a ∈ L1 := by
      rcases List.mem_cons.mp (h1 a List.mem_cons_self) with e | e
      · exact absurd e (h3 a List.mem_cons_self)
      · exact e
    have hl2 : (L1.erase (f a)).length = n := by
      rw [List.length_erase_of_mem hb]
      rw [List.length_cons] at hl
      omega
    have mem : ∀ x, x ∈ L1.erase (f a) ↔ x ≠ f a ∧ x ∈ L1 := fun x => hn1.2.mem_erase_iff
    have ih := even_of_invol f n (L1.erase (f a)) hl2 (hn1.2.erase _) (fun x hx => ?_) (fun x hx => ?_) (fun x hx => ?_)
    · omega
    · obtain ⟨x1, x2⟩ := (mem x).mp hx
      have x3 := List.mem_cons_of_mem a x2
      refine (mem _).mpr ⟨fun e => ?_, ?_⟩
      · have e2 := congrArg f e
        rw [h2 x x3, h2 a List.mem_cons_self] at e2
        exact hn1.1 (by rw [← e2]; exact x2)
      · rcases List.mem_cons.mp (h1 x x3) with e | e
        · have e2 := congrArg f e
          rw [h2 x x3] at e2
          exact absurd e2 x1
        · exact e
    · exact h2 x (List.mem_cons_of_mem a ((mem x).mp hx).2)
    · exact h3 x (List.mem_cons_of_mem a ((mem x).mp hx).2)
/-- the windmills of p -/
def mills (p : Nat) : List (Nat × Nat × Nat) := ((List.range (p + 1)).flatMap fun x => (List.range (p + 1)).flatMap fun y => (List.range (p + 1)).map fun z => (x, y, z)).filter fun t => decide (0 < t.1 ∧ 0 < t.2.1 ∧ 0 < t.2.2 ∧ t.1 * t.1 + 4 * t.2.1 * t.2.2 = p)
theorem mem_mills {p : Nat} {t : Nat × Nat × Nat} : t ∈ mills p ↔ 0 < t.1 ∧ 0 < t.2.1 ∧ 0 < t.2.2 ∧ t.1 * t.1 + 4 * t.2.1 * t.2.2 = p := by
  unfold mills
  rw [List.mem_filter, decide_eq_true_iff]
  refine ⟨fun h => h.2, fun h => ⟨?_, h⟩⟩
  obtain ⟨x, y, z⟩ := t
  obtain ⟨h1, h2, h3, h4⟩ := h
  dsimp only at h1 h2 h3 h4
  have a1 : x ≤ x * x := Nat.le_mul_of_pos_left x h1
  have a2 : y ≤ y * z := Nat.le_mul_of_pos_right y h3
  have a3 : z ≤ y * z := Nat.le_mul_of_pos_left z h2
  have a4 : 4 * y * z = 4 * (y * z) := Nat.mul_assoc 4 y z
  simp only [List.mem_flatMap, List.mem_range, List.mem_map]
  exact ⟨x, by omega, y, by omega, z, by omega, rfl⟩
theorem range_nodup (n : Nat) : (List.range n).Nodup := List.nodup_range
theorem mills_nodup (p : Nat) : (mills p).Nodup := by
  unfold mills
  refine List.Pairwise.filter _ ?_
  rw [List.pairwise_flatMap]
  refine ⟨fun x _ => ?_, (range_nodup _).imp fun {a b} hab u hu v hv e => ?_⟩
  · rw [List.pairwise_flatMap]
    refine ⟨fun y _ => ?_, (range_nodup _).imp fun {a b} hab u hu v hv e => ?_⟩
    · rw [List.pairwise_map]
      exact (range_nodup _).imp fun {a b} hab e => hab (by cases e; rfl)
    · obtain ⟨_, _, rfl⟩ := List.mem_map.mp hu
      obtain ⟨_, _, rfl⟩ := List.mem_map.mp hv
      cases e
      exact hab rfl
  · obtain ⟨_, _, hu⟩ := List.mem_flatMap.mp hu
    obtain ⟨_, _, hv⟩ := List.mem_flatMap.mp hv
    obtain ⟨_, _, rfl⟩ := List.mem_map.mp hu
    obtain ⟨_, _, rfl⟩ := List.mem_map.mp hv
    cases e
    exact hab rfl
def turn (t : Nat × Nat × Nat) : Nat × Nat × Nat :=
  if t.1 + t.2.2 < t.2.1 then (t.1 + 2 * t.2.2, t.2.2, t.2.1 - t.1 - t.2.2)
  else if t.1 < 2 * t.2.1 then (2 * t.2.1 - t.1, t.2.1, t.1 + t.2.2 - t.2.1)
  else (t.1 - 2 * t.2.1, t.1 + t.2.2 - t.2.1, t.2.1)
def Pm (p : Nat) : Prop := 2 ≤ p ∧ ∀ d : Nat, d ∣ p → d = 1 ∨ d = p
theorem turn_ok {p : Nat} (hp : Pm p) (h4 : p % 4 = 1) {t : Nat × Nat × Nat} (h : t ∈ mills p) : turn t ∈ mills p ∧ turn (turn t) = t := by
  obtain ⟨x, y, z⟩ := t
  have h' := mem_mills.mp h
  dsimp only at h'
  obtain ⟨h1, h2, h3, h5⟩ := h'
  by_cases c1 : x + z < y
  · have e : turn (x, y, z) = (x + 2 * z, z, y - x - z) := if_pos c1
    rw [e]
    obtain ⟨d, rfl⟩ := Nat.exists_eq_add_of_lt c1
    have e2 : x + z + d + 1 - x - z = d + 1 := by omega
    rw [e2]
    constructor
    · refine mem_mills.mpr ⟨by dsimp only; omega, h3, by dsimp only; omega, ?_⟩
      dsimp only
      rw [← h5]
      grind
    · unfold turn
      dsimp only
      rw [if_neg (by omega), if_neg (by omega)]
      exact Prod.ext (by dsimp only <;> omega) (Prod.ext (by dsimp only <;> omega) (by dsimp only <;> omega))
  · by_cases c2 : x < 2 * y
    · have e : turn (x, y, z) = (2 * y - x, y, x + z - y) := (if_neg c1).trans (if_pos c2)
      rw [e]
      have ne : x + z ≠ y := fun z1 => by
        subst z1
        have e3 : (x + 2 * z) * (x + 2 * z) = p := by
          rw [← h5]
          grind
        rcases hp.2 (x + 2 * z) ⟨_, e3.symm⟩ with q | q
        · omega
        · rw [q] at e3
          have := hp.1
          have : p * 2 ≤ p * p := Nat.mul_le_mul_left p this
          omega
      obtain ⟨d, hd⟩ : ∃ d, x + z = y + d := ⟨x + z - y, by omega⟩
      obtain ⟨u, hu⟩ : ∃ u, 2 * y = x + u := ⟨2 * y - x, by omega⟩
      rw [show x + z - y = d by omega, show 2 * y - x = u by omega]
      constructor
      · refine mem_mills.mpr ⟨by dsimp only; omega, h2, by dsimp only; omega, ?_⟩
        dsimp only
        rw [← h5]
        have hx : x = 2 * y - u := by omega
        grind
      · unfold turn
        dsimp only
        rw [if_neg (by omega), if_pos (by omega)]
        exact Prod.ext (by dsimp only <;> omega) (Prod.ext (by dsimp only <;> omega) (by dsimp only <;> omega))
    · have e : turn (x, y, z) = (x - 2 * y, x + z - y, y) := (if_neg c1).trans (if_neg c2)
      rw [e]
      have ne : x ≠ 2 * y := fun z1 => by
        subst z1
        have : 2 * y * (2 * y) + 4 * y * z = 2 * (2 * y * y + 2 * y * z) := by grind
        omega
      obtain ⟨d, rfl⟩ : ∃ d, x = 2 * y + d := ⟨x - 2 * y, by omega⟩
      rw [show 2 * y + d + z - y = y + d + z by omega, show 2 * y + d - 2 * y = d by omega]
      constructor
      · refine mem_mills.mpr ⟨by dsimp only; omega, by dsimp only; omega, h2, ?_⟩
        dsimp only
        rw [← h5]
        grind
      · unfold turn
        dsimp only
        rw [if_pos (by omega)]
        exact Prod.ext (by dsimp only <;> omega) (Prod.ext (by dsimp only <;> omega) (by dsimp only <;> omega))
theorem turn_fix {p : Nat} (hp : Pm p) {t : Nat × Nat × Nat} (h : t ∈ mills p) (e : turn t = t) : t = (1, 1, p / 4) := by
  obtain ⟨x, y, z⟩ := t
  have h' := mem_mills.mp h
  dsimp only at h'
  obtain ⟨h1, h2, h3, h5⟩ := h'
  unfold turn at e
  dsimp only at e
  have exy : x = y := by
    split at e
    · simp only [Prod.mk.injEq] at e
      omega
    · split at e
      · simp only [Prod.mk.injEq] at e
        omega
      · simp only [Prod.mk.injEq] at e
        omega
  subst exy
  have e3 : x * (x + 4 * z) = p := by
    rw [← h5]
    grind
  have hx : x = 1 := by
    rcases hp.2 x ⟨_, e3.symm⟩ with q | q
    · exact q
    · have : x * 2 ≤ x * (x + 4 * z) := Nat.mul_le_mul_left x (by omega)
      have := hp.1
      omega
  subst hx
  have : z = p / 4 := by omega
  rw [this]
theorem two_squares {p : Nat} (hp : Pm p) (h4 : p % 4 = 1) : ∃ a b : Nat, 0 < a ∧ 0 < b ∧ a * a + b * b = p := by
  have hp2 := hp.1
  have fm : ((1, 1, p / 4) : Nat × Nat × Nat) ∈ mills p := mem_mills.mpr ⟨Nat.one_pos, Nat.one_pos, by dsimp only; omega, by dsimp only; omega⟩
  have nd := mills_nodup p
  have odd : (mills p).length % 2 = 1 := by
    have mem : ∀ x, x ∈ (mills p).erase (1, 1, p / 4) ↔ x ≠ (1, 1, p / 4) ∧ x ∈ mills p := fun x => nd.mem_erase_iff
    have tf : turn (1, 1, p / 4) = (1, 1, p / 4) := by
      unfold turn
      dsimp only
      rw [if_neg (by omega), if_pos (by omega)]
      exact Prod.ext (by dsimp only) (Prod.ext rfl (by dsimp only; omega))
    have ev := even_of_invol turn _ ((mills p).erase (1, 1, p / 4)) rfl (nd.erase _) (fun x hx => ?_) (fun x hx => (turn_ok hp h4 ((mem x).mp hx).2).2) (fun x hx e => ((mem x).mp hx).1 (turn_fix hp ((mem x).mp hx).2 e))
    · rw [List.length_erase_of_mem fm] at ev
      have : 0 < (mills p).length := List.length_pos_of_mem fm
      omega
    · obtain ⟨x1, x2⟩ := (mem x).mp hx
      refine (mem _).mpr ⟨fun e => x1 ?_, (turn_ok hp h4 x2).1⟩
      have e2 := congrArg turn e
      rw [(turn_ok hp h4 x2).2, tf] at e2
      exact e2
  refine Classical.byContradiction fun no => ?_
  have ev := even_of_invol (fun t : Nat × Nat × Nat => (t.1, t.2.2, t.2.1)) _ (mills p) rfl nd (fun t ht => ?_) (fun t _ => rfl) (fun t ht e => no ?_)
  · omega
  · obtain ⟨x, y, z⟩ := t
    obtain ⟨h1, h2, h3, h5⟩ := mem_mills.mp ht
    refine mem_mills.mpr ⟨h1, h3, h2, ?_⟩
    dsimp only at h5 ⊢
    rw [← h5]
    grind
  · obtain ⟨x, y, z⟩ := t
    obtain ⟨h1, h2, h3, h5⟩ := mem_mills.mp ht
    simp only [Prod.mk.injEq] at e
    dsimp only at h1 h2 h3 h5
    obtain ⟨_, e1, e2⟩ := e
    subst e1
    exact ⟨x, 2 * z, h1, by omega, by rw [← h5]; grind⟩
end Sq

/-! numbers whose primes leave 1 by 4: the plain law -/
namespace Sq
theorem pm_cop {p a : Nat} (hp : Pm p) (h : ¬ p ∣ a) : Nat.Coprime p a := by
  rcases hp.2 (Nat.gcd p a) (Nat.gcd_dvd_left p a) with q | q
  · exact q
  · exact absurd (by rw [← q]; exact Nat.gcd_dvd_right p a) h
theorem euclid {p : Nat} (hp : Pm p) {x y : Int} (h : (p : Int) ∣ x * y) : (p : Int) ∣ x ∨ (p : Int) ∣ y := by
  by_cases c : p ∣ x.natAbs
  · exact .inl (Int.ofNat_dvd_left.mpr c)
  · have h2 : p ∣ x.natAbs * y.natAbs := by
      rw [← Int.natAbs_mul]
      exact Int.ofNat_dvd_left.mp h
    exact .inr (Int.ofNat_dvd_left.mpr ((pm_cop hp c).dvd_of_dvd_mul_left h2))
/-- a sum of two coprime squares -/
def Two (N : Int) : Prop := ∃ c d : Int, c * c + d * d = N ∧ Cop c d
theorem two_one : Two 1 := ⟨1, 0, rfl, fun _ h _ => h⟩
theorem two_mul {p : Nat} {N : Int} (hp : Pm p) (h4 : p % 4 = 1) (h : Two N) : Two (p * N) := by
  obtain ⟨a, b, ha, hb, hab⟩ := two_squares hp h4
  obtain ⟨c, d, hcd, cop⟩ := h
  have hab' : (a : Int) * a + (b : Int) * b = p := by
    rw [← hab]
    simp
  have ap : ¬ (p : Int) ∣ (a : Int) := fun z => by
    have z := Int.natCast_dvd_natCast.mp z
    have := Nat.le_of_dvd ha z
    have : a ≤ a * a := Nat.le_mul_of_pos_left a ha
    have : 0 < b * b := Nat.mul_pos hb hb
    omega
  have bp : ¬ (p : Int) ∣ (b : Int) := fun z => by
    have z := Int.natCast_dvd_natCast.mp z
    have := Nat.le_of_dvd hb z
    have : b ≤ b * b := Nat.le_mul_of_pos_left b hb
    have : 0 < a * a := Nat.mul_pos ha ha
    omega
  have tp : ¬ (p : Int) ∣ 2 := fun z => by
    have z := Int.natCast_dvd_natCast.mp (show (p : Int) ∣ ((2 : Nat) : Int) from z)
    have := Nat.le_of_dvd (by decide) z
    have := hp.1
    omega
  generalize (a : Int) = A at *
  generalize (b : Int) = B at *
  -- one of the two ways is coprime
  have one : ∀ X Y : Int, (∀ k : Int, k ∣ X → k ∣ Y → k ∣ p * c ∧ k ∣ p * d) → ¬ ((p : Int) ∣ X ∧ (p : Int) ∣ Y) → Cop X Y := fun X Y hk no => by
    refine cop_iff.mp ?_
    obtain ⟨k1, k2⟩ := hk (Int.gcd X Y : Nat) (Int.gcd_dvd_left ..) (Int.gcd_dvd_right ..)
    have k3 : Int.gcd X Y ∣ Int.gcd (p * c) (p * d) := Int.dvd_gcd k1 k2
    rw [Int.gcd_mul_left, cop_iff.mpr cop, Nat.mul_one] at k3
    have k4 : Int.gcd X Y ∣ p := k3
    rcases hp.2 _ k4 with q | q
    · exact q
    · refine absurd ⟨?_, ?_⟩ no
      · rw [← q]
        exact Int.gcd_dvd_left ..
      · rw [← q]
        exact Int.gcd_dvd_right ..
  by_cases z : (p : Int) ∣ A * c + B * d ∧ (p : Int) ∣ A * d - B * c
  · by_cases z2 : (p : Int) ∣ A * c - B * d ∧ (p : Int) ∣ A * d + B * c
    · exfalso
      have e1 : (p : Int) ∣ 2 * (A * c) := by
        have := Int.dvd_add z.1 z2.1
        rwa [show A * c + B * d + (A * c - B * d) = 2 * (A * c) by grind] at this
      have e2 : (p : Int) ∣ 2 * (B * d) := by
        have := Int.dvd_sub z.1 z2.1
        rwa [show A * c + B * d - (A * c - B * d) = 2 * (B * d) by grind] at this
      have e3 : (p : Int) ∣ c := ((euclid hp e1).resolve_left tp |> euclid hp).resolve_left ap
      have e4 : (p : Int) ∣ d := ((euclid hp e2).resolve_left tp |> euclid hp).resolve_left bp
      have e5 := cop _ e3 e4
      have e6 := Int.natCast_dvd_natCast.mp (show (p : Int) ∣ ((1 : Nat) : Int) from e5)
      have := Nat.le_of_dvd (by decide) e6
      have := hp.1
      omega
    · refine ⟨A * c - B * d, A * d + B * c, by rw [← hcd, ← hab']; grind, one _ _ (fun k k1 k2 => ⟨?_, ?_⟩) z2⟩
      · rw [← hab', show (A * A + B * B) * c = A * (A * c - B * d) + B * (A * d + B * c) by grind]
        exact Int.dvd_add (Int.dvd_trans k1 (Int.dvd_mul_left _ _)) (Int.dvd_trans k2 (Int.dvd_mul_left _ _))
      · rw [← hab', show (A * A + B * B) * d = A * (A * d + B * c) - B * (A * c - B * d) by grind]
        exact Int.dvd_sub (Int.dvd_trans k2 (Int.dvd_mul_left _ _)) (Int.dvd_trans k1 (Int.dvd_mul_left _ _))
  · refine ⟨A * c + B * d, A * d - B * c, by rw [← hcd, ← hab']; grind, one _ _ (fun k k1 k2 => ⟨?_, ?_⟩) z⟩
    · rw [← hab', show (A * A + B * B) * c = A * (A * c + B * d) - B * (A * d - B * c) by grind]
      exact Int.dvd_sub (Int.dvd_trans k1 (Int.dvd_mul_left _ _)) (Int.dvd_trans k2 (Int.dvd_mul_left _ _))
    · rw [← hab', show (A * A + B * B) * d = A * (A * d - B * c) + B * (A * c + B * d) by grind]
      exact Int.dvd_add (Int.dvd_trans k2 (Int.dvd_mul_left _ _)) (Int.dvd_trans k1 (Int.dvd_mul_left _ _))
/-- such an odd number has a primitive triple with it as the longest side -/
theorem two_lgL {N : Int} (h2 : 2 ≤ N) (ho : N % 2 = 1) (h : Two N) : lgL N ≠ [] := by
  obtain ⟨c, d, hcd, cop⟩ := h
  obtain ⟨m, n, hm, hn, hmn, hs, hg⟩ : ∃ m n : Int, 0 ≤ m ∧ 0 ≤ n ∧ n ≤ m ∧ m * m + n * n = N ∧ Int.gcd m n = 1 := by
    have sq : ∀ x : Int, (x.natAbs : Int) * (x.natAbs : Int) = x * x := fun x => Int.natAbs_mul_self' x
    have g := cop_iff.mpr cop
    have g2 : Int.gcd (c.natAbs : Int) (d.natAbs : Int) = 1 := g
    rcases Nat.le_total d.natAbs c.natAbs with q | q
    · exact ⟨c.natAbs, d.natAbs, by omega, by omega, by omega, by rw [sq, sq]; exact hcd, g2⟩
    · exact ⟨d.natAbs, c.natAbs, by omega, by omega, by omega, by rw [sq, sq, Int.add_comm]; exact hcd, by rw [Int.gcd_comm]; exact g2⟩
  have n0 : n ≠ 0 := fun z => by
    subst z
    rw [Int.gcd_zero_right] at hg
    have : m = 1 := by omega
    subst this
    omega
  have nm : n ≠ m := fun z => by
    subst z
    omega
  have lt : n < m := by omega
  have em : rti (N - n * n) = m := rti_uniq hm (by omega) (by
    have : (m + 1) * (m + 1) = m * m + 2 * m + 1 := by grind
    omega)
  have par : (m + n) % 2 = 1 := by
    have := sq_mod m
    have := sq_mod n
    omega
  have at1 : lgAt N n = [tri (m, n)] := by
    unfold lgAt lgOk
    rw [em, decide_eq_true lt, decide_eq_true hs, decide_eq_true par, decide_eq_true (show (Int.gcd m n : Int) = 1 by rw [hg]; rfl)]
    rfl
  have hr : n ≤ rti N := le_rti (by omega) (by
    have := sq_mono (a := 0) (b := m) (by decide) hm
    omega)
  obtain ⟨k, hk⟩ : ∃ k : Nat, n = ((k + 1 : Nat) : Int) := ⟨n.toNat - 1, by omega⟩
  have grow : ∀ (j : Nat), upto (lgAt N) (k + 1 + j) ≠ [] := fun j => by
    induction j with
    | zero =>
      show upto (lgAt N) k ++ lgAt N (k + 1 : Nat) ≠ []
      rw [← hk, at1]
      simp
    | succ j ih =>
      show upto (lgAt N) (k + 1 + j) ++ _ ≠ []
      exact fun z => ih (List.append_eq_nil_iff.mp z).1
  unfold lgL
  have := grow ((rti N).toNat - (k + 1))
  rwa [show k + 1 + ((rti N).toNat - (k + 1)) = (rti N).toNat by omega] at this
end Sq

/-! trial division of longest: the plain law -/
namespace Sq
structure Trial (N left prime : Int) : Prop where
  l2 : 2 ≤ left
  p2 : 2 ≤ prime
  no : ∀ d : Int, 2 ≤ d → d < prime → left % d ≠ 0
  ex : ∃ done : Int, N = left * done ∧ 1 ≤ done ∧ done % 2 = 1 ∧ Two done
theorem Trial.start {N : Int} (h : 2 ≤ N) : Trial N N 2 := ⟨h, by decide, fun d h1 h2 => by omega, 1, by omega, by decide, by decide, two_one⟩
theorem Trial.dvd {N l p : Int} (t : Trial N l p) : l ∣ N := by
  obtain ⟨e, he, _⟩ := t.ex
  exact ⟨e, he⟩
theorem pm_of {p : Int} (h2 : 2 ≤ p) (h : ∀ d : Int, 2 ≤ d → d < p → p % d ≠ 0) : Pm p.toNat := by
  refine ⟨by omega, fun d hd => ?_⟩
  have e : ((p.toNat : Nat) : Int) = p := by omega
  have h3 : (d : Int) ∣ p := by
    rw [← e]
    exact Int.natCast_dvd_natCast.mpr hd
  have h4 := Nat.le_of_dvd (by omega) hd
  have h5 : 0 < d := Nat.pos_of_dvd_of_pos hd (by omega)
  by_cases c : d = 1
  · exact .inl c
  · refine .inr (Classical.byContradiction fun c2 => h d (by omega) (by omega) (Int.emod_eq_zero_of_dvd h3))
/-- what is found has no smaller divisor -/
theorem Trial.least {N l p : Int} (t : Trial N l p) (h : l % p = 0) : ∀ d : Int, 2 ≤ d → d < p → p % d ≠ 0 := fun d d1 d2 d3 =>
  t.no d d1 d2 (Int.emod_eq_zero_of_dvd (Int.dvd_trans (Int.dvd_of_emod_eq_zero d3) (Int.dvd_of_emod_eq_zero h)))
theorem noDiv_of {p : Int} (h2 : 2 ≤ p) (h : ∀ d : Int, 2 ≤ d → d < p → p % d ≠ 0) : noDiv p = true := (noDiv_iff (by omega)).mpr fun d d1 d2 => h d d1 (by
  have : 2 * d ≤ d * d := Int.mul_le_mul_of_nonneg_right d1 (by omega)
  omega)
theorem Trial.next {N l p : Int} (t : Trial N l p) (h : l % p ≠ 0) : Trial N l (p + 1) := ⟨t.l2, by have := t.p2; omega, fun d d1 d2 => by
  by_cases c : d = p
  · rw [c]
    exact h
  · exact t.no d d1 (by omega), t.ex⟩
theorem brd_of {N p : Int} (h2 : 2 ≤ p) (hN : 1 ≤ N) (hd : p ∣ N) (hn : ∀ d : Int, 2 ≤ d → d < p → p % d ≠ 0) (h : p = 2 ∨ p % 4 = 3) : brd N p = true := by
  unfold brd
  rw [decide_eq_true h2, decide_eq_true (Int.le_of_dvd (by omega) hd), decide_eq_true (Int.emod_eq_zero_of_dvd hd), noDiv_of h2 hn]
  rcases h with h | h
  · rw [decide_eq_true h]
    rfl
  · rw [decide_eq_true h, Bool.or_true]
    rfl
theorem Trial.bar {N l p : Int} (t : Trial N l p) (hN : 1 ≤ N) (h : l % p = 0) (h3 : p = 2 ∨ p % 4 = 3) : brd N p = true :=
  brd_of t.p2 hN (Int.dvd_trans (Int.dvd_of_emod_eq_zero h) t.dvd) (t.least h) h3
theorem one_four {p : Int} (h2 : 2 ≤ p) (hn : ∀ d : Int, 2 ≤ d → d < p → p % d ≠ 0) (h : ¬ (p = 2 ∨ p % 4 = 3)) : p % 4 = 1 := by
  have : p % 2 ≠ 0 := fun z => hn 2 (by decide) (by omega) z
  omega
theorem two_mulI {p N : Int} (h2 : 2 ≤ p) (hn : ∀ d : Int, 2 ≤ d → d < p → p % d ≠ 0) (h4 : p % 4 = 1) (h : Two N) : Two (p * N) := by
  have q := two_mul (p := p.toNat) (pm_of h2 hn) (by omega) h
  rwa [show ((p.toNat : Nat) : Int) = p by omega] at q
theorem odd_mul {a b : Int} (h1 : a % 2 = 1) (h2 : b % 2 = 1) : (a * b) % 2 = 1 := by
  rw [Int.mul_emod, h1, h2]
  rfl
theorem Trial.down {N l p : Int} (t : Trial N l p) (h : l % p = 0) (hp : p * p ≤ l) (h3 : ¬ (p = 2 ∨ p % 4 = 3)) : Trial N (l / p) p := by
  have p2 := t.p2
  have h4 := one_four p2 (t.least h) h3
  have e := Int.mul_ediv_add_emod l p
  rw [h, Int.add_zero] at e
  have up : p ≤ l / p := by
    rw [← e] at hp
    exact Int.le_of_mul_le_mul_left hp (by omega)
  refine ⟨by omega, p2, fun d d1 d2 d3 => t.no d d1 d2 (Int.emod_eq_zero_of_dvd (Int.dvd_trans (Int.dvd_of_emod_eq_zero d3) ⟨p, by rw [Int.mul_comm]; exact e.symm⟩)), ?_⟩
  obtain ⟨done, a, b, c, d⟩ := t.ex
  refine ⟨p * done, ?_, ?_, odd_mul (by omega) c, two_mulI p2 (t.least h) h4 d⟩
  · rw [a]
    conv => lhs; rw [← e]
    grind
  · have : 1 * 1 ≤ p * done := Int.mul_le_mul (by omega) b (by decide) (by omega)
    omega
/-- at the end what is left is a prime -/
theorem Trial.last {N l p : Int} (t : Trial N l p) (hp : l < p * p) : ∀ d : Int, 2 ≤ d → d < l → l % d ≠ 0 := fun d d1 d2 d3 => by
  have p2 := t.p2
  by_cases c : d < p
  · exact t.no d d1 c d3
  · have e := Int.mul_ediv_add_emod l d
    rw [d3, Int.add_zero] at e
    have q1 : l / d < p := by
      by_cases z : l / d < p
      · exact z
      · have : p * p ≤ d * (l / d) := Int.mul_le_mul (by omega) (by omega) (by omega) (by omega)
        omega
    have q2 : 2 ≤ l / d := by
      have h0 : 0 ≤ l / d := Int.ediv_nonneg (by have := t.l2; omega) (by omega)
      by_cases z0 : l / d = 0
      · rw [z0] at e
        have := t.l2
        omega
      · by_cases z1 : l / d = 1
        · rw [z1] at e
          omega
        · omega
    exact t.no _ q2 q1 (Int.emod_eq_zero_of_dvd ⟨d, by rw [Int.mul_comm]; exact e.symm⟩)
theorem Trial.barL {N l p : Int} (t : Trial N l p) (hN : 1 ≤ N) (hp : l < p * p) (h3 : l = 2 ∨ l % 4 = 3) : brd N l = true := brd_of t.l2 hN t.dvd (t.last hp) h3
theorem Trial.found {N l p : Int} (t : Trial N l p) (hN : 2 ≤ N) (hp : l < p * p) (h3 : ¬ (l = 2 ∨ l % 4 = 3)) : lgL N ≠ [] := by
  have h4 := one_four t.l2 (t.last hp) h3
  obtain ⟨done, a, b, c, d⟩ := t.ex
  refine two_lgL hN ?_ ?_
  · rw [a]
    exact odd_mul (by omega) c
  · rw [a]
    exact two_mulI t.l2 (t.last hp) h4 d
/-- a leg is there -/
theorem leL_some {N : Int} (h : 3 ≤ N) (h4 : N % 4 ≠ 2) : leL N ≠ [] := by
  have h1 : leA N 1 ++ leB N 1 ≠ [] := by
    by_cases o : N % 2 = 1
    · have : leA N 1 = [tri ((N / 1 + 1) / 2, (N / 1 - 1) / 2)] := by
        unfold leA
        rw [decide_eq_true (Int.emod_one N), decide_eq_true (show (1 : Int) < N / 1 by omega), decide_eq_true o, decide_eq_true (show (Int.gcd 1 (N / 1) : Int) = 1 by rw [Int.gcd_one_left]; rfl)]
        rfl
      rw [this]
      simp
    · have : leB N 1 = [tri (N / 2 / 1, 1)] := by
        unfold leB
        rw [decide_eq_true (show N % 4 = 0 by omega), decide_eq_true (Int.emod_one _), decide_eq_true (show (1 : Int) < N / 2 / 1 by omega), decide_eq_true (show (Int.gcd 1 (N / 2 / 1) : Int) = 1 by rw [Int.gcd_one_left]; rfl)]
        rfl
      rw [this]
      simp
  have grow : ∀ (j : Nat), upto (fun p => leA N p ++ leB N p) (1 + j) ≠ [] := fun j => by
    induction j with
    | zero => exact h1
    | succ j ih => exact fun z => ih (List.append_eq_nil_iff.mp z).1
  have r1 : 1 ≤ rti N := le_rti (by omega) (by omega)
  have := grow ((rti N).toNat - 1)
  rwa [show 1 + ((rti N).toNat - 1) = (rti N).toNat by omega] at this
end Sq


/-! own rules, small words -/
namespace SqP
open PySem PySem.Spec PyProof.Rows L2 Sq
theorem Same.tup {K : PySem.W.Frag} {H H' : Hp} {a : Addr} {xs : List V} (e : Same H H') (h : SqT K H a xs) : SqT K H' a xs := by
  rcases h with (h | ⟨o, h⟩) | h
  · exact .inl (.inl (e _ _ h))
  · exact .inl (.inr ⟨o, e _ _ h⟩)
  · exact .inr h
theorem same_upd {H : Hp} {p : Addr} {o : HO} (h : H p = none) : Same H (upd H p o) := fun b x e => by
  rw [upd_ne (ne_of_none e h)]
  exact e
/-- a store to what is new leaves all else -/
theorem same_new {H H' : Hp} {p : Addr} {o : HO} (h : H p = none) (s : Same H H') : Same H (upd H' p o) := fun b x e => by
  rw [upd_ne (ne_of_none e h)]
  exact s _ _ e
theorem new_tup {K : PySem.W.Frag} {H : Hp} {xs : List V} {Q : V → Hp → Prop} (h : ∀ H1 p, Same H H1 → SqT K H1 p xs → Q (.ref p) H1) : ∀ p, H p = none → Q (.ref p) (upd H p (.tup xs)) := fun p hp => h _ p (same_upd hp) (SqT.of upd_same)
theorem new_lst {H : Hp} {xs : List V} {Q : V → Hp → Prop} (h : ∀ H1 p, Same H H1 → H p = none → H1 p = some (.lst xs) → Q (.ref p) H1) : ∀ p, H p = none → Q (.ref p) (upd H p (.lst xs)) := fun p hp => h _ p (same_upd hp) hp upd_same
/-- a def of the top as it stands; a def that keeps its promise -/
def Is (K : PySem.W.Frag) (mg : Str → Option Value) (x : Str) (st : Stmt) (ps : List Str) : Prop := ∃ (f : Addr) (fd : FuncData), Fun K x x st f fd ∧ Binds K fd ps [] ∧ mg x = some (.ref f)
def Has (P : Program) (w : World) (K : PySem.W.Frag) (mg : Str → Option Value) (base : Heap) (k : Nat) (x : Str) (ps : List Str) (sp : Sp) : Prop := ∃ (f : Addr) (fd : FuncData), FnOk P w K mg base CX0 k f fd ps sp ∧ PySem.W.keepIn K (.ref f) = true ∧ Binds K fd ps [] ∧ mg x = some (.ref f)
theorem bd_mul {i j : Int} {k l : Nat} (h : Bd k i) (h2 : Bd l j) (e : k + l ≤ 134217728) : CMulX i j := mulx_ok h h2 e
theorem len2 : 2 ≤ sizeLine := by decide
theorem len3 : 3 ≤ sizeLine := by decide
theorem if_t {c : Bool} {A B : Prop} (hc : c = true) (h : A) : if c = true then A else B := by
  rw [if_pos hc]
  exact h
theorem if_f {c : Bool} {A B : Prop} (hc : c = false) (h : B) : if c = true then A else B := by
  rw [hc, if_neg Bool.false_ne_true]
  exact h
theorem if_b {c : Bool} {A B : Prop} (h1 : c = true → A) (h2 : c = false → B) : if c = true then A else B := by
  cases c with
  | true => exact if_t rfl (h1 rfl)
  | false => exact if_f rfl (h2 rfl)
theorem tyx_tup {K : PySem.W.Frag} {H : Hp} {a : Addr} {xs : List V} (h : SqT K H a xs) : TyX K H (.ref a) (.type "tuple") := by
  rcases h with (h | ⟨o, h⟩) | ⟨o, its, n, h1, h2, _⟩
  · exact .base (.tup h)
  · exact .fTuple h
  · exact .kTuple h1 h2
theorem tyx_lst {K : PySem.W.Frag} {H : Hp} {a : Addr} {xs : List V} (h : SqL K H a xs) : TyX K H (.ref a) (.type "list") := by
  rcases h with (h | ⟨o, h⟩) | ⟨o, its, n, h1, h2, _⟩
  · exact .base (.lst h)
  · exact .base (.frz h)
  · exact .kList h1 h2
theorem kb_int_int : kitB "int" "int" = some true := by decide +kernel
theorem kb_int_bool : kitB "int" "bool" = some false := by decide +kernel
theorem kb_tup_tup : kitB "tuple" "tuple" = some true := by decide +kernel
theorem kb_lst_lst : kitB "list" "list" = some true := by decide +kernel
section
variable {X : Cx}
/-- // by any positive number -/
theorem op_fdivP {l : List Env} (hN : X.base.NoSeer) (ht : X.prog.given.tree = none) (hst : X.stack = X.env :: l) (hg : X.env.scope.isGenerator = false) (hco : X.env.scope.isCoroutine = false) (hd : X.A.depth + 100 < recursionLimit) :
    OpR X (binaryOp .FloorDiv) (rI (fun _ j => 0 < j) fun i j => .int (i / j)) := by
  intro pins s σ H x y v u Q I rx ry h
  obtain ⟨i, j, rfl, rfl, hc, q⟩ := h
  obtain ⟨t, rfl⟩ := rx
  obtain ⟨t', rfl⟩ := ry
  have hj : (0 : Int) < j := hc
  refine floordiv_int (by omega) ?_ (.inr (PySem.PylongRoom.of I.nolimit hd (PySem.SeerAt.of (hN.keeps I.bk) ht (by rw [I.ok.frames, hst]) hg hco I.ok.blt I.ok.glob)))
  rw [Int.fdiv_eq_ediv_of_nonneg i (by omega)]
  exact ⟨.int _, H, I.tok _, ⟨_, rfl⟩, q⟩
end
section
variable {X : Cx} {K : PySem.W.Frag}
/-- rules within a comprehension, the written part by its name -/
theorem ix_listK (e : X.K = K) : IxR X (rIxL K) := by
  subst e
  exact ix_list
theorem ix_tupK (e : X.K = K) : IxR X (rIxT K) := by
  subst e
  exact ix_tup
theorem op_eqDK (e : X.K = K) (hu : X.A.units + 64 < cLine) : OpR X (compareOp .Eq) (rEqD K) := by
  subst e
  exact op_eqD hu
end
/-! ### comprehensions that keep every item -/
theorem set_twice {α : Type} (l : List α) (i : Nat) (a b : α) : (l.set i a).set i b = l.set i b := by rw [List.set_set]
section
variable {K : PySem.W.Frag} {xs ys : List V} {j : Nat} {te : TE} {σ : L2.St} {H : Hp} {D : Addr} {Qd : Hp → Prop}
/-- what a turn of such a comprehension asks: the item x at a heap that holds what H holds, behind it the value y -/
def LcTurn (te : TE) (σ : L2.St) (j : Nat) (H : Hp) (x y : V) : Prop := ∀ H1, Same H H1 → ∀ R : V → Hp → Prop, (∀ H2, Same H1 H2 → R y H2) → te ((σ.set j none).set j (some x)) H1 R
theorem lc_turn {i : Nat} {x y : V} {H1 : Hp} (hD : H D = none) (h : LcTurn te σ j H x y) (hy : ys[i]? = some y) (hz : ys.length ≤ 16000000) (s1 : Same H H1) (d1 : H1 D = some (.lst (ys.take i))) :
    gName j x (wipe σ [j]) H1 fun σ2 H2 => wipe σ2 [j] = wipe σ [j] ∧ tYes σ2 H2 fun b H3 => if b = true then te σ2 H3 fun y H4 => ∃ acc, H4 D = some (.lst acc) ∧ acc.length < sizeLine ∧ (Same H (upd H4 D (.lst (acc ++ [y]))) ∧ (upd H4 D (.lst (acc ++ [y]))) D = some (.lst (ys.take (i + 1)))) else (Same H H3 ∧ H3 D = some (.lst (ys.take (i + 1)))) := by
  refine ⟨by show ((σ.set j none).set j (some x)).set j none = σ.set j none; rw [List.set_set, List.set_set], ?_⟩
  show if true = true then te ((σ.set j none).set j (some x)) H1 (fun y H4 => ∃ acc, H4 D = some (.lst acc) ∧ acc.length < sizeLine ∧ (Same H (upd H4 D (.lst (acc ++ [y]))) ∧ (upd H4 D (.lst (acc ++ [y]))) D = some (.lst (ys.take (i + 1))))) else (Same H H1 ∧ H1 D = some (.lst (ys.take (i + 1))))
  rw [if_pos rfl]
  refine h H1 s1 _ fun H2 s2 => ⟨_, s2 _ _ d1, ?_, same_new hD (fun b o e => s2 _ _ (s1 _ _ e)), ?_⟩
  · have := List.length_take_le' i ys
    rw [sizeLine_eq]
    omega
  · rw [upd_same, List.take_add_one, hy]
    rfl
theorem lc_over_tup {a : Addr} (hS : SqT K H a xs) (hD : H D = none) (hl : ys.length = xs.length) (hz : xs.length ≤ 16000000) (turn : ∀ (i : Nat) x y, xs[i]? = some x → ys[i]? = some y → LcTurn te σ j H x y) (done : ∀ H', Same H H' → H' D = some (.lst ys) → Qd H') :
    ∃ W : Nat → Nat → Hp → Prop, (∃ m, W 0 m (upd H D (.lst []))) ∧ ∀ i m H, W i m H →
      ((Itt K a).stop i H ∧ Qd H) ∨ ((Itt K a).go i H ∧ ∃ Nx : Hp → Prop, (∀ H', Nx H' → ∃ m', m' < m ∧ W (i + 1) m' H') ∧ ∀ x H', (Itt K a).yld i H x H' → gName j x (wipe σ [j]) H' fun σ2 H2 => wipe σ2 [j] = wipe σ [j] ∧ tYes σ2 H2 fun b H3 =>
        if b = true then te σ2 H3 fun y H4 => ∃ acc, H4 D = some (.lst acc) ∧ acc.length < sizeLine ∧ Nx (upd H4 D (.lst (acc ++ [y]))) else Nx H3) := by
  refine lc_tup (xs := xs) (fun i H' => Same H H' ∧ H' D = some (.lst (ys.take i))) ⟨same_upd hD, upd_same⟩ (fun i H' _ h => Same.tup h.1 hS) (fun i x H' hx h => ?_) (fun H' h => done H' h.1 (by rw [← hl] at h; rw [h.2, List.take_length]))
  have hi : i < ys.length := by rw [hl]; exact (List.getElem?_eq_some_iff.mp hx).1
  exact lc_turn hD (turn i x _ hx (List.getElem?_eq_getElem hi)) (List.getElem?_eq_getElem hi) (by omega) h.1 h.2
theorem lc_over_lst {a : Addr} (hS : SqL K H a xs) (hD : H D = none) (hl : ys.length = xs.length) (hz : xs.length ≤ 16000000) (turn : ∀ (i : Nat) x y, xs[i]? = some x → ys[i]? = some y → LcTurn te σ j H x y) (done : ∀ H', Same H H' → H' D = some (.lst ys) → Qd H') :
    ∃ W : Nat → Nat → Hp → Prop, (∃ m, W 0 m (upd H D (.lst []))) ∧ ∀ i m H, W i m H →
      ((Itl K a).stop i H ∧ Qd H) ∨ ((Itl K a).go i H ∧ ∃ Nx : Hp → Prop, (∀ H', Nx H' → ∃ m', m' < m ∧ W (i + 1) m' H') ∧ ∀ x H', (Itl K a).yld i H x H' → gName j x (wipe σ [j]) H' fun σ2 H2 => wipe σ2 [j] = wipe σ [j] ∧ tYes σ2 H2 fun b H3 =>
        if b = true then te σ2 H3 fun y H4 => ∃ acc, H4 D = some (.lst acc) ∧ acc.length < sizeLine ∧ Nx (upd H4 D (.lst (acc ++ [y]))) else Nx H3) := by
  refine lc_list (xs := xs) (fun i H' => Same H H' ∧ H' D = some (.lst (ys.take i))) ⟨same_upd hD, upd_same⟩ (fun i H' _ h => Same.seq h.1 hS) (fun i x H' hx h => ?_) (fun H' h => done H' h.1 (by rw [← hl] at h; rw [h.2, List.take_length]))
  have hi : i < ys.length := by rw [hl]; exact (List.getElem?_eq_some_iff.mp hx).1
  exact lc_turn hD (turn i x _ hx (List.getElem?_eq_getElem hi)) (List.getElem?_eq_getElem hi) (by omega) h.1 h.2
theorem lc_over_range {lo : Int} {n : Nat} (hD : H D = none) (hl : ys.length = n) (hz : n ≤ 16000000) (turn : ∀ (i : Nat) y, i < n → ys[i]? = some y → LcTurn te σ j H (.int (lo + i)) y) (done : ∀ H', Same H H' → H' D = some (.lst ys) → Qd H') :
    ∃ W : Nat → Nat → Hp → Prop, (∃ m, W 0 m (upd H D (.lst []))) ∧ ∀ i m H, W i m H →
      ((Itr lo n).stop i H ∧ Qd H) ∨ ((Itr lo n).go i H ∧ ∃ Nx : Hp → Prop, (∀ H', Nx H' → ∃ m', m' < m ∧ W (i + 1) m' H') ∧ ∀ x H', (Itr lo n).yld i H x H' → gName j x (wipe σ [j]) H' fun σ2 H2 => wipe σ2 [j] = wipe σ [j] ∧ tYes σ2 H2 fun b H3 =>
        if b = true then te σ2 H3 fun y H4 => ∃ acc, H4 D = some (.lst acc) ∧ acc.length < sizeLine ∧ Nx (upd H4 D (.lst (acc ++ [y]))) else Nx H3) := by
  refine lc_range (n := n) (fun i H' => Same H H' ∧ H' D = some (.lst (ys.take i))) ⟨same_upd hD, upd_same⟩ (fun i H' hx h => ?_) (fun H' h => done H' h.1 (by rw [← hl] at h; rw [h.2, List.take_length]))
  have hi : i < ys.length := by omega
  exact lc_turn hD (turn i _ hx (List.getElem?_eq_getElem hi)) (List.getElem?_eq_getElem hi) (by omega) h.1 h.2
end
/-- a list that changes is no tuple: tuples stand -/
theorem tup_keep {K : PySem.W.Frag} {H : Hp} {fo t : Addr} {xs ys zs : List V} (hfo : H fo = some (.lst xs)) (h : SqT K H t zs) : SqT K (upd H fo (.lst ys)) t zs := by
  rcases h with (h | ⟨o, h⟩) | h
  · exact .inl (.inl (by rw [upd_ne (fun e => by rw [e, hfo] at h; cases h)]; exact h))
  · exact .inl (.inr ⟨o, by rw [upd_ne (fun e => by rw [e, hfo] at h; cases h)]; exact h⟩)
  · exact .inr h
/-- for i, x in enumerate(a list that the body leaves as it is) -/
theorem for_enum {K : PySem.W.Frag} {a : Addr} {xs : List V} {g : TG} {tb : TS} {D : Ends} {σ : L2.St} {H : Hp} (Pv : Nat → L2.St → Hp → Prop) (h0 : Pv 0 σ H) (hl : ∀ i σ H, Pv i σ H → SqL K H a xs)
    (hs : ∀ (i : Nat) (x : V) (T : Addr) (σ : L2.St) (H : Hp), xs[i]? = some x → Pv i σ H → H T = none → g (.ref T) σ (upd H T (.tup [.int (i : Nat), x])) fun σ2 H2 => tb { D with nx := Pv (i + 1), ct := Pv (i + 1), bk := D.nx } σ2 H2) (hd : ∀ σ H, Pv xs.length σ H → D.nx σ H) :
    ∃ W : Nat → Nat → L2.St → Hp → Prop, (∃ m, W 0 m σ H) ∧ ∀ i m σ H, W i m σ H →
      ((Ite K a).stop i H ∧ D.nx σ H) ∨ ((Ite K a).go i H ∧ ∃ N : L2.St → Hp → Prop, (∀ σ' H', N σ' H' → ∃ m', m' < m ∧ W (i + 1) m' σ' H') ∧ ∀ v H', (Ite K a).yld i H v H' → g v σ H' fun σ2 H2 => tb { D with nx := N, ct := N, bk := D.nx } σ2 H2) := by
  refine ⟨fun i m σ H => m + i = xs.length ∧ Pv i σ H, ⟨xs.length, rfl, h0⟩, fun i m σ H ⟨e, p⟩ => ?_⟩
  have q := hl i σ H p
  by_cases c : i < xs.length
  · refine .inr ⟨⟨xs, xs[i], q, List.getElem?_eq_getElem c⟩, Pv (i + 1), fun σ' H' p' => ⟨m - 1, by omega, by omega, p'⟩, fun v H' y => ?_⟩
    obtain ⟨T, x, e1, n, e2, y⟩ := y
    subst e1
    subst e2
    exact hs i x T σ H (y xs q) p n
  · have e' : i = xs.length := by omega
    subst e'
    exact .inl ⟨⟨xs, q, Nat.le_refl _⟩, hd σ H p⟩
/-- a if t else b, where nothing is laid -/
theorem tif_mk {tt : TT} {ta tb : TE} {σ : L2.St} {H : Hp} {Q : VK} {c : Bool} {v : V} (h1 : ∀ R : Bool → Hp → Prop, R c H → tt σ H R) (h2 : c = true → ∀ R : VK, R v H → ta σ H R) (h3 : c = false → ∀ R : VK, R v H → tb σ H R) (q : Q v H) : tIf tt ta tb σ H Q :=
  h1 _ (if_b (fun e => h2 e _ q) (fun e => h3 e _ q))
/-- a part of a list of ints, sixteen from b on -/
theorem cut_ints (ns : List Int) (lo hi : Option Int) : ∃ cs : List Int, cutV (ns.map V.int) lo hi = cs.map V.int ∧ (∀ c ∈ cs, c ∈ ns) := by
  refine ⟨(ns.drop (HT.sIx ns.length 0 lo)).take (HT.sIx ns.length ns.length hi - HT.sIx ns.length 0 lo), ?_, fun c hc => List.mem_of_mem_drop (List.mem_of_mem_take hc)⟩
  unfold cutV
  rw [List.length_map, List.map_take, List.map_drop]
theorem cut_len (xs : List V) (a b : Nat) (h : a ≤ b) : (cutV xs (some (a : Int)) (some (b : Int))).length ≤ b - a := by
  unfold cutV
  rw [HT.sIx_nat, HT.sIx_nat, List.length_take]
  omega
/-- a if t else b, where something is laid -/
theorem tif_hp {tt : TT} {ta tb : TE} {σ : L2.St} {H : Hp} {Q : VK} {c : Bool} (R' : V → Hp → Prop) (h1 : ∀ R : Bool → Hp → Prop, R c H → tt σ H R) (h2 : c = true → ∀ R : VK, (∀ v H1, R' v H1 → R v H1) → ta σ H R) (h3 : c = false → ∀ R : VK, (∀ v H1, R' v H1 → R v H1) → tb σ H R) (q : ∀ v H1, R' v H1 → Q v H1) : tIf tt ta tb σ H Q :=
  h1 _ (if_b (fun e => h2 e _ q) (fun e => h3 e _ q))
/-- cuts -/
theorem cut_to (xs : List V) (n : Nat) : cutV xs none (some (n : Int)) = xs.take n := by
  unfold cutV
  rw [HT.sIx_nat, HT.sIx_none, List.drop_zero, Nat.sub_zero]
  rcases Nat.le_total n xs.length with h | h
  · rw [Nat.min_eq_left h]
  · rw [Nat.min_eq_right h, List.take_of_length_le (Nat.le_refl _), List.take_of_length_le h]
theorem cut_last (xs : List V) : cutV xs none (some (-1)) = xs.dropLast := by
  unfold cutV
  rw [HT.sIx_none, List.drop_zero, Nat.sub_zero, List.dropLast_eq_take]
  congr 1
  show (if (-1 : Int) < 0 then ((-1 : Int) + (xs.length : Int)).toNat else min (-1 : Int).toNat xs.length) = xs.length - 1
  rw [if_pos (by decide)]
  omega
theorem rgc_up {l c : Int} (hl : 0 ≤ l) (hl2 : l ≤ 1000000) (hc : 0 < c) (hc2 : c ≤ 1000000) : ∃ n : Nat, RgC 0 l c n ∧ ∀ i : Nat, i < n → (i : Int) * c < l := by
  have hsz : Builtin.Range.rangeSize 0 l c = if 0 < l then (l - 0 - 1) / c + 1 else 0 := by
    unfold Builtin.Range.rangeSize
    rw [if_pos (show c > 0 from hc)]
  have hq : 0 < l → 0 ≤ (l - 0 - 1) / c ∧ (l - 0 - 1) / c ≤ l - 0 - 1 := fun h => ⟨Int.ediv_nonneg (by omega) (by omega), Int.ediv_le_self _ (by omega)⟩
  have e := Int.mul_ediv_add_emod (l - 0 - 1) c
  have e2 := Int.emod_nonneg (l - 0 - 1) (show c ≠ 0 by omega)
  generalize (l - 0 - 1) / c = q at *
  refine ⟨(if 0 < l then q + 1 else 0).toNat, ⟨by omega, by omega, ?_, ?_⟩, fun i hi => ?_⟩
  · unfold Builtin.Range.small
    rw [hsz]
    simp only [Builtin.Range.rangeFitsLong, Bool.and_eq_true, Bool.or_eq_true, decide_eq_true_eq, beq_iff_eq, show c > 0 from hc, if_true]
    have e3 : c * q ≤ l := by
      rcases Int.lt_or_le 0 l with h | h
      · omega
      · have : c * q + (l - 0 - 1) % c = l - 0 - 1 := e
        omega
    have e4 : q * c = c * q := Int.mul_comm _ _
    split
    · have := hq (by assumption)
      refine ⟨?_, ?_⟩ <;> first | omega | (refine ⟨?_, ?_⟩ <;> first | omega | grind)
    · refine ⟨?_, ?_⟩ <;> first | omega | (refine ⟨?_, ?_⟩ <;> first | omega | grind)
  · rw [hsz]
    split
    · have := hq (by assumption)
      omega
    · rfl
  · have hi2 : 0 < l ∧ (i : Int) ≤ q := by
      split at hi <;> omega
    have := Int.mul_le_mul_of_nonneg_left hi2.2 (show 0 ≤ c by omega)
    have e3 : c * (i : Int) = i * c := Int.mul_comm _ _
    omega
end SqP

namespace SqP
open PySem PySem.Spec PyProof.Rows L2 Sq
/-! ### xs.count(y) of nested data; lists of ints as data -/
theorem room65 {k : Nat} {A : Around} (r : Room k A) : A.units + 65 < cLine := by
  have := r.un
  omega
def rCountD (K : PySem.W.Frag) : V → List V → Hp → VK → Prop := fun x vs H Q => ∃ (l : Addr) (y : V) (e : PyData) (es : List PyData), x = V.ref l ∧ vs = [y] ∧ Dp K H (V.ref l) (.list es) ∧ Dp K H y e ∧ SeqAt.shaped (.list es) = true ∧ SeqAt.shaped e = true ∧ Q (.int ((es.countP fun z => PyData.eqv z e : Nat) : Int)) H
theorem mt_countD {X : Cx} (hu : X.A.units + 65 < cLine) : MtR X "list.count" (rCountD X.K) := by
  intro pins st σ H x vs u ws Q I rx rvs h
  obtain ⟨l, y, e, es, rfl, rfl, hL, hY, sL, sE, q⟩ := h
  cases rx
  obtain ⟨uy, rfl, ry⟩ := Vals.one rvs
  obtain ⟨ys, readY⟩ := Dp.reads I e y uy hY ry
  have lay : PyData.canLayAll0 es = true := SeqAt.canLay_of_shaped sL
  cases hL with
  | lst hS hA =>
    obtain ⟨items, rv, ⟨⟨cls, dd, data, sls⟩, n, ho, hc, hn, hd⟩, hlen⟩ := I.list hS
    dsimp only at hc hd
    subst hc hd
    obtain ⟨zs, readL⟩ := Dp.readsAll I es _ items hA rv
    have hmap : items.map (SeqAt.readOf st.heap) = es := SeqAt.readsAll_map es items zs lay readL
    refine call_meets PySem.F.slot_list_count ⟨_, ho, rfl⟩ PySem.F.entry_list_count (PySem.F.args_list_count_2 _ _)
      (SeqAt.list_countAt l items.toArray n dd sls uy fun v => PyData.eqv (SeqAt.readOf st.heap v) e) ⟨ho, SeqAt.items_eqAt (vs := items.toArray) (show ReadsAll st.heap items.toArray.toList es zs from readL) readY lay (SeqAt.canLay_of_shaped sE) (room_in_shaped sE hu), ?_⟩
    have ec : items.toArray.toList.countP (fun v => PyData.eqv (SeqAt.readOf st.heap v) e) = es.countP fun z => PyData.eqv z e := by
      conv => rhs; rw [← hmap, List.countP_map]
      rfl
    refine ⟨.int ((es.countP fun z => PyData.eqv z e : Nat) : Int), H, I.tok (st.toks + 1), ⟨st.toks, ?_⟩, q⟩
    show Value.int ((items.toArray.toList.countP (fun v => PyData.eqv (SeqAt.readOf st.heap v) e) : Nat) : Int) st.toks = Value.int _ st.toks
    rw [ec]
theorem ints_lay : ∀ ns : List Int, PyData.canLayAll0 (ns.map PyData.int) = true
  | [] => by simp [PyData.canLayAll0]
  | n :: ns => by simp [PyData.canLayAll0, PyData.canLay0, ints_lay ns]
theorem ints_depth : ∀ ns : List Int, PyData.depthAll (ns.map PyData.int) ≤ 1
  | [] => by simp [PyData.depthAll]
  | n :: ns => by
    have h1 := ints_depth ns
    simp only [List.map_cons, PyData.depthAll, PyData.depth]
    omega
theorem ints_shaped (ns : List Int) : SeqAt.shaped (.list (ns.map PyData.int)) = true := by
  have h1 := ints_depth ns
  have h2 : PyData.depth (.list (ns.map PyData.int)) ≤ 64 := by
    simp only [PyData.depth]
    omega
  show (PyData.canLay0 (.list (ns.map PyData.int)) && decide (PyData.depth (.list (ns.map PyData.int)) ≤ 64)) = true
  rw [Bool.and_eq_true]
  exact ⟨by simp only [PyData.canLay0]; exact ints_lay ns, decide_eq_true h2⟩
theorem ints_dpa {K : PySem.W.Frag} {H : Hp} : ∀ ns : List Int, DpAll K H (ns.map V.int) (ns.map PyData.int)
  | [] => .nil
  | n :: ns => .cons (.int n) (ints_dpa ns)
theorem ints_dp {K : PySem.W.Frag} {H : Hp} {a : Addr} {ns : List Int} (h : SqL K H a (ns.map V.int)) : Dp K H (.ref a) (.list (ns.map PyData.int)) := .lst h (ints_dpa ns)
end SqP

/-! ### sorted, of triples of ints -/
namespace SqP
open PySem PySem.Spec PyProof.Rows L2 Sq
/-- the triple that stands at a reference -/
def trItems : List Value → Tr
  | [.int x _, .int y _, .int z _] => (x, y, z)
  | _ => (0, 0, 0)
def trData : Data → Tr
  | .seq items _ => trItems items.toList
  | _ => (0, 0, 0)
def trOf (h : Heap) : Value → Tr
  | .ref a => ((h.get? a).map fun o => trData o.data).getD (0, 0, 0)
  | _ => (0, 0, 0)
/-- three ints stand there, in a tuple -/
def Tri3 (h : Heap) (v : Value) : Prop := ∃ (a : Addr) (ob : Obj) (x y z : Int) (t1 t2 t3 : Tok) (nn : Nat), v = .ref a ∧ h.get? a = some ob ∧ ob.cls = .type "tuple" ∧ ob.data = .seq #[.int x t1, .int y t2, .int z t3] nn ∧ trOf h v = (x, y, z)
theorem tri3_of {h : Heap} {a : Addr} {ob : Obj} {x y z : Int} {t1 t2 t3 : Tok} {nn : Nat} (h1 : h.get? a = some ob) (h2 : ob.cls = .type "tuple") (h3 : ob.data = .seq #[.int x t1, .int y t2, .int z t3] nn) : Tri3 h (.ref a) := by
  refine ⟨a, ob, x, y, z, t1, t2, t3, nn, rfl, h1, h2, h3, ?_⟩
  show ((h.get? a).map fun o => trData o.data).getD (0, 0, 0) = (x, y, z)
  rw [h1]
  show trData ob.data = (x, y, z)
  rw [h3]
  rfl
theorem Tri3.keep {h h' : Heap} {v : Value} (q : Tri3 h v) (hk : ∀ (b : Addr) (o : Obj), h.get? b = some o → o.cls = .type "tuple" → h'.get? b = some o) : Tri3 h' v ∧ trOf h' v = trOf h v := by
  obtain ⟨a, ob, x, y, z, t1, t2, t3, nn, rfl, h1, h2, h3, h4⟩ := q
  have q2 := tri3_of (hk a ob h1 h2) h2 h3
  refine ⟨q2, ?_⟩
  obtain ⟨a', ob', x', y', z', t1', t2', t3', nn', e, g1, g2, g3, g4⟩ := q2
  cases e
  rw [hk a ob h1 h2] at g1
  cases g1
  rw [h3] at g3
  cases g3
  rw [g4, h4]
theorem swo3 {α : Type} (key : α → Tr) : SrtO.Swo fun a b => lt3 (key a) (key b) :=
  ⟨fun a b h => by
    have h1 := lt3_iff.mp h
    exact lt3_no.mpr (by omega), fun a b c h h' => by
    have h1 := lt3_no.mp h
    have h2 := lt3_no.mp h'
    exact lt3_no.mpr (by omega)⟩
section
variable {P : Program} {w : World} {A : Around} {E : Value → Shared → Prop} {s : Shared}
theorem cmp3 {vs : List Value} (hv : ∀ v ∈ vs, Tri3 s.heap v) : SrtO.Cmp P w A s (tuples' true) (fun p => p.1 ∈ vs) (SrtO.lt2 fun a b => lt3 (trOf s.heap a) (trOf s.heap b)) := by
  intro p q mp mq
  show wpAny (model P w) A (keyLt' (tuples' true) p.1 q.1) (fun r st => st = s ∧ r = lt3 (trOf s.heap p.1) (trOf s.heap q.1)) (fun _ _ => False) s
  have a1 := hv _ mp
  have a2 := hv _ mq
  obtain ⟨a, oa, x, y, z, t1, t2, t3, na, ea, ga, ca, da, ra⟩ := a1
  obtain ⟨b, ob, x', y', z', u1, u2, u3, nb, eb, gb, cb, db, rb⟩ := a2
  rw [ra, rb, ea, eb]
  refine PySem.W.kat_lt ga da gb db ?_
  show PySem.W.KatLex P w A true (decide (3 < 3)) _ [(.int x t1, .int x' u1), (.int y t2, .int y' u2), (.int z t3, .int z' u3)] 0 s
  refine PySem.W.kat_cons (SeqAt.EqAt.int_int x t1 x' u1 P w _ _ ?_)
  refine PySem.W.kat_go (fun c1 => ?_) (fun c1 => ?_)
  · have c1 : x = x' := of_decide_eq_true c1
    refine PySem.W.kat_yes (PySem.W.kat_cons (SeqAt.EqAt.int_int y t2 y' u2 P w _ _ ?_))
    refine PySem.W.kat_go (fun c2 => ?_) (fun c2 => ?_)
    · have c2 : y = y' := of_decide_eq_true c2
      refine PySem.W.kat_yes (PySem.W.kat_cons (SeqAt.EqAt.int_int z t3 z' u3 P w _ _ ?_))
      refine PySem.W.kat_go (fun c3 => ?_) (fun c3 => ?_)
      · have c3 : z = z' := of_decide_eq_true c3
        exact PySem.W.kat_yes (PySem.W.kat_nil ⟨rfl, (lt3_no.mpr (by dsimp only; omega)).symm⟩)
      · refine PySem.W.kat_no (PySem.W.kat_one _ _ (PyProof.Rows.lt_int ?_))
        refine (show s = s ∧ decide (z < z') = lt3 (x, y, z) (x', y', z') from ⟨rfl, ?_⟩)
        unfold lt3
        exact decide_eq_decide.mpr (by dsimp only; omega)
    · have c2 : ¬ y = y' := of_decide_eq_false c2
      refine PySem.W.kat_no (PySem.W.kat_one _ _ (PyProof.Rows.lt_int ?_))
      refine (show s = s ∧ decide (y < y') = lt3 (x, y, z) (x', y', z') from ⟨rfl, ?_⟩)
      unfold lt3
      exact decide_eq_decide.mpr (by dsimp only; omega)
  · have c1 : ¬ x = x' := of_decide_eq_false c1
    refine PySem.W.kat_no (oneLt_int ⟨rfl, ?_⟩)
    unfold lt3
    exact decide_eq_decide.mpr (by dsimp only; omega)
theorem heads3 {h : Heap} : ∀ {vs : List Value}, (∀ v ∈ vs, Tri3 h v) → ∃ fs : List Value, PySem.W.KatTups h vs fs ∧ fs.length = vs.length ∧ ∀ f ∈ fs, ∃ i t, f = Value.int i t
  | [], _ => ⟨[], PySem.W.KatTups.nil, rfl, fun _ hf => nomatch hf⟩
  | v :: vs, hv => by
    obtain ⟨fs, k1, k2, k3⟩ := heads3 fun u hu => hv u (List.mem_cons_of_mem _ hu)
    obtain ⟨a, ob, x, y, z, t1, t2, t3, nn, rfl, g1, g2, g3, _⟩ := hv v List.mem_cons_self
    refine ⟨.int x t1 :: fs, .cons g1 g2 g3 rfl k1, by simp [k2], fun f hf => ?_⟩
    rcases List.mem_cons.mp hf with rfl | hf
    · exact ⟨x, t1, rfl⟩
    · exact k3 f hf
theorem sortable3 {a : Addr} {vs : List Value} (hne : 0 < vs.length) (hv : ∀ v ∈ vs, Tri3 s.heap v) (hc : ∀ o, s.heap.get? a = some o → ¬ o.cls = .type "tuple") : SrtO.SortableO P w A s a vs fun x y => lt3 (trOf s.heap x) (trOf s.heap y) := by
  intro h2 hk
  have kp : ∀ v ∈ vs, Tri3 h2 v ∧ trOf h2 v = trOf s.heap v := fun v m => (hv v m).keep fun b o e c => hk b o (fun z => by
    rw [z] at e
    exact hc o e c) e
  obtain ⟨fs, k1, k2, k3⟩ := heads3 fun v m => (kp v m).1
  refine ⟨tuples' true, fun Q E hq => PySem.W.kat_kind (T := .type "int") k1 (by omega) (fun f m => ?_) (by rfl) ?_, fun p q mp mq => ?_⟩
  · obtain ⟨i, t, rfl⟩ := k3 f m
    exact PySem.W.Looks.now
  · rw [show (Value.type "int" != Value.type "tuple") = true by first | decide +kernel | rfl]
    exact hq
  · have c := cmp3 (P := P) (w := w) (A := A) (s := { s with heap := h2 }) (fun v m => (kp v m).1) p q mp mq
    have e1 := (kp p.1 mp).2
    have e2 := (kp q.1 mq).2
    show wpAny (model P w) A (keyLt' (tuples' true) p.1 q.1) (fun r st => st = { s with heap := h2 } ∧ r = lt3 (trOf s.heap p.1) (trOf s.heap q.1)) (fun _ _ => False) { s with heap := h2 }
    rw [← e1, ← e2]
    exact c
end
/-- references to these triples -/
inductive TrS (K : PySem.W.Frag) (H : Hp) : List V → List Tr → Prop
  | nil : TrS K H [] []
  | cons {a : Addr} {t : Tr} {xs : List V} {L : List Tr} (h : SqT K H a [.int t.1, .int t.2.1, .int t.2.2]) (r : TrS K H xs L) : TrS K H (.ref a :: xs) (t :: L)
theorem TrS.same {K : PySem.W.Frag} {H H' : Hp} (s : Same H H') : ∀ {xs : List V} {L : List Tr}, TrS K H xs L → TrS K H' xs L
  | _, _, .nil => .nil
  | _, _, .cons h r => .cons (Same.tup s h) (r.same s)
theorem TrS.len {K : PySem.W.Frag} {H : Hp} : ∀ {xs : List V} {L : List Tr}, TrS K H xs L → xs.length = L.length
  | _, _, .nil => rfl
  | _, _, .cons _ r => by rw [List.length_cons, List.length_cons, r.len]
theorem TrS.app {K : PySem.W.Frag} {H : Hp} : ∀ {xs ys : List V} {L M : List Tr}, TrS K H xs L → TrS K H ys M → TrS K H (xs ++ ys) (L ++ M)
  | _, _, _, _, .nil, h => h
  | _, _, _, _, .cons h r, q => .cons h (r.app q)
theorem TrS.rev {K : PySem.W.Frag} {H : Hp} : ∀ {xs : List V} {L : List Tr}, TrS K H xs L → TrS K H xs.reverse L.reverse
  | _, _, .nil => .nil
  | _, _, .cons h r => by
    rw [List.reverse_cons, List.reverse_cons]
    exact r.rev.app (.cons h .nil)
theorem TrS.drop {K : PySem.W.Frag} {H : Hp} : ∀ {xs : List V} {L : List Tr} (i : Nat), TrS K H xs L → TrS K H (xs.drop i) (L.drop i)
  | _, _, 0, h => by rw [List.drop_zero, List.drop_zero]; exact h
  | _, _, _ + 1, .nil => .nil
  | _, _, i + 1, .cons _ r => r.drop i
theorem TrS.take {K : PySem.W.Frag} {H : Hp} : ∀ {xs : List V} {L : List Tr} (i : Nat), TrS K H xs L → TrS K H (xs.take i) (L.take i)
  | _, _, 0, h => by rw [List.take_zero, List.take_zero]; exact .nil
  | _, _, _ + 1, .nil => .nil
  | _, _, i + 1, .cons h r => .cons h (r.take i)
section
variable {X : Cx} {pins : List (Addr × Obj)} {s : Shared} {σ : List (Option V)} {H : Hp}
theorem tri3_at (I : Inv X pins σ H s) {a : Addr} {t : Tr} (h : SqT X.K H a [.int t.1, .int t.2.1, .int t.2.2]) : Tri3 s.heap (.ref a) ∧ trOf s.heap (.ref a) = t := by
  obtain ⟨its, rv, ⟨ob, g1, g2, nn, g3⟩, _⟩ := I.tuple h
  cases rv with
  | cons r1 rv =>
    cases rv with
    | cons r2 rv =>
      cases rv with
      | cons r3 rv =>
        cases rv
        obtain ⟨t1, rfl⟩ := r1
        obtain ⟨t2, rfl⟩ := r2
        obtain ⟨t3, rfl⟩ := r3
        have q := tri3_of g1 g2 g3
        refine ⟨q, ?_⟩
        obtain ⟨a', ob', x', y', z', t1', t2', t3', nn', e, k1, k2, k3, k4⟩ := q
        cases e
        rw [g1] at k1
        cases k1
        rw [g3] at k3
        cases k3
        rw [k4]
/-- the values behind them -/
theorem trs_back (I : Inv X pins σ H s) : ∀ {xs : List V} {L : List Tr} {its : List Value}, TrS X.K H xs L → Vals xs its → L = its.map (trOf s.heap) ∧ xs = its.map backV ∧ ∀ u ∈ its, Tri3 s.heap u ∧ ∃ a, u = Value.ref a ∧ SqT X.K H a [.int (trOf s.heap u).1, .int (trOf s.heap u).2.1, .int (trOf s.heap u).2.2]
  | _, _, _, .nil, .nil => ⟨rfl, rfl, fun _ hu => nomatch hu⟩
  | _, _, _, .cons (a := a) (t := t) h r, .cons q rv => by
    obtain ⟨e1, e2, e3⟩ := trs_back I r rv
    cases q
    obtain ⟨k1, k2⟩ := tri3_at I h
    refine ⟨by rw [List.map_cons, k2, ← e1], by rw [List.map_cons, ← e2]; rfl, fun u hu => ?_⟩
    rcases List.mem_cons.mp hu with rfl | hu
    · exact ⟨k1, a, rfl, by rw [k2]; exact h⟩
    · exact e3 u hu
theorem trs_of {K : PySem.W.Frag} {H : Hp} {key : Value → Tr} : ∀ {us : List Value}, (∀ u ∈ us, ∃ a, u = Value.ref a ∧ SqT K H a [.int (key u).1, .int (key u).2.1, .int (key u).2.2]) → TrS K H (us.map backV) (us.map key)
  | [], _ => .nil
  | u :: us, h => by
    obtain ⟨a, e, k⟩ := h u List.mem_cons_self
    rw [List.map_cons, List.map_cons]
    have r := trs_of fun y hy => h y (List.mem_cons_of_mem _ hy)
    rw [e] at k ⊢
    exact .cons k r
def rSortedT (K : PySem.W.Frag) : List V → Hp → VK → Prop := fun vs H Q => ∃ (a : Addr) (xs : List V) (L : List Tr), vs = [V.ref a] ∧ SqL K H a xs ∧ TrS K H xs L ∧ ∀ ys p, TrS K H ys (srt L) → H p = none → Q (.ref p) (upd H p (.lst ys))
theorem cr_sortedT : CallR X (.builtin "sorted") (rSortedT X.K) := by
  intro pn st ρ H vs us Q I r h
  obtain ⟨a, xs, L, rfl, hS, hT, q⟩ := h
  obtain ⟨its, rv, pl, hz⟩ := I.list hS
  obtain ⟨u, rfl, ru⟩ := vals1 r
  obtain rfl : u = Value.ref a := ru
  obtain ⟨eL, eX, each⟩ := trs_back I hT rv
  refine SrtO.sorted_ord (ltv := fun x y => lt3 (trOf st.heap x) (trOf st.heap y)) (swo3 _) pl.isList (by rw [← rv.length]; exact hz) (fun two h₁ d hd kk => ?_) (fun out hs hb => ?_)
  · have kp : ∀ v ∈ its, Tri3 h₁ v ∧ trOf h₁ v = trOf st.heap v := fun v m => (each v m).1.keep fun b o e _ => (kk b o e).2
    have c := sortable3 (P := X.prog) (w := X.w) (A := X.A.in1.in1) (s := { st with heap := h₁ }) (a := d) (by omega) (fun v m => (kp v m).1) fun o e ec => by
      have e2 := Option.some.inj (e.symm.trans hd)
      rw [e2] at ec
      exact absurd (Value.type.inj ec) (by decide)
    intro h2 hk
    obtain ⟨κ, c1, c2⟩ := c h2 hk
    refine ⟨κ, c1, fun x y mx my => ?_⟩
    have c3 := c2 x y mx my
    have e1 := (kp x.1 mx).2
    have e2 := (kp y.1 my).2
    have e3 : SrtO.lt2 (fun x y => lt3 (trOf h₁ x) (trOf h₁ y)) x y = SrtO.lt2 (fun x y => lt3 (trOf st.heap x) (trOf st.heap y)) x y := by
      show lt3 (trOf h₁ x.1) (trOf h₁ y.1) = lt3 (trOf st.heap x.1) (trOf st.heap y.1)
      rw [e1, e2]
    rw [← e3]
    exact c3
  · have m : ∀ u ∈ out, u ∈ its := fun u hu => hb.perm.mem_iff.mp hu
    have eo : out.map (trOf st.heap) = srt L := srt_of (by rw [eL]; exact hb.perm.map _) (List.pairwise_map.mpr hs)
    have tr : TrS X.K H (out.map backV) (srt L) := by
      rw [← eo]
      exact trs_of fun u hu => (each u (m u hu)).2
    obtain ⟨nn, hn⟩ := PyProof.Rows.sortedAll_at st.heap its out.toArray
    refine ⟨.ref (st.heap.objs.size + 1), upd H _ (.lst (out.map backV)), I.laid (t' := st.toks) (fun b o e => PyProof.Rows.sortedAll_old e) (Nat.le_succ _) ⟨?_, out, nn, vals_back fun u hu => ?_, hn⟩, rfl, q _ _ tr (I.hok.fresh (Nat.le_succ _))⟩
    · rw [List.length_map, hb.perm.length_eq, ← rv.length]
      exact hz
    · obtain ⟨b, e, _⟩ := (each u (m u hu)).2
      exact ⟨b, e⟩
end
end SqP

namespace SqP
open PySem PySem.Spec PyProof.Rows L2 Sq
/-! ### classes of the text -/
structure KC (K : PySem.W.Frag) (mg : Str → Option Value) (x : Str) (C : Addr) : Prop where
  cl : Cls K C
  mg : mg x = some (.ref C)
  makes : PySem.W.makesIn K C = true
  kp : PySem.W.keepIn K (.ref C) = true
def IsM (K : PySem.W.Frag) (C : Addr) (m qual : Str) (st : Stmt) (ps : List Str) : Prop := ∃ (f : Addr) (fd : FuncData), Fun K m qual st f fd ∧ Binds K fd ps [] ∧ Meth K C m f
def HasM (P : Program) (w : World) (K : PySem.W.Frag) (mg : Str → Option Value) (base : Heap) (k : Nat) (C : Addr) (m : Str) (ps : List Str) (sp : Sp) : Prop := ∃ (f : Addr) (fd : FuncData), FnOk P w K mg base CX0 k f fd ps sp ∧ Binds K fd ps [] ∧ Meth K C m f
section
variable {X : Cx} {pins : List (Addr × Obj)} {σ : L2.St} {H : Hp} {s : Shared} {Q : VK} {C : Addr}
/-- C(): __init__ is object's -/
theorem run_bare (hm : PySem.W.makesIn X.K C = true) (hi : PySem.W.findIn X.K (.ref C) "__init__" = some (some (.builtin "object.__init__"))) (I : Inv X pins σ H s)
    (q : ∀ x dx, H x = none → H dx = none → dx ≠ x → Q (.ref x) (upd (upd H dx (.own x)) x (.ins C dx []))) : wpAny (model X.prog X.w) X.A (call (.ref C) []) (EP X pins σ Q) X.xe s := by
  have J := Inv.made (C := C) I
  refine wpAny_call (make_map0 I.kIn hm hi (fun self => PySem.W.Looks.of_pure (PySem.W.oi_bind self)) ?_)
  have Y := PySem.W.makes_of (M := model X.prog X.w) I.kIn hm
  have at1 : ((s.heap.push PySem.W.emptyDict).push (PySem.W.instObj C s.heap.objs.size)).get? (s.heap.objs.size + 1) = some (PySem.W.instObj C s.heap.objs.size) := by heap_get
  have t1 : PySem.W.Looks (model X.prog X.w) ((s.heap.push PySem.W.emptyDict).push (PySem.W.instObj C s.heap.objs.size)) (typeOf (.ref (s.heap.objs.size + 1))) (.ref C) := (PySem.W.Looks.ld at1).andThen .now
  have t2 : PySem.W.Looks (model X.prog X.w) ((s.heap.push PySem.W.emptyDict).push (PySem.W.instObj C s.heap.objs.size)) (isInstance (.ref (s.heap.objs.size + 1)) (.type "object")) true :=
    t1.andThen (Y.top.keeps fun b o e => Heap.get?_push_of_some _ (Heap.get?_push_of_some _ e))
  refine codeAny_call_builtin PySem.W.oi_plain PySem.W.entry_oi (@PySem.W.check_slot (model X.prog X.w) _ _ _ "object.__init__" "object" "__init__" (.ref (s.heap.objs.size + 1)) [] [] _ PySem.W.oi_kind PySem.W.oi_split t2 (PySem.W.oi_args (.ref (s.heap.objs.size + 1))) ?_)
  rw [PySem.W.oi_run]
  exact wpAny_pure (And.intro rfl ⟨V.ref (s.heap.objs.size + 1), _, J, rfl, q _ _ (I.hok.fresh (Nat.le_succ _)) (I.hok.fresh (Nat.le_refl _)) (Nat.ne_of_lt (Nat.lt_succ_self _))⟩)
def tBare (C : Addr) : TE := fun _ H Q => ∀ x dx, H x = none → H dx = none → dx ≠ x → Q (.ref x) (upd (upd H dx (.own x)) x (.ins C dx []))
theorem pe_bare {x : Str} {p pos : Pos} (hm : PySem.W.makesIn X.K C = true) (hk : PySem.W.keepIn X.K (.ref C) = true) (hi : PySem.W.findIn X.K (.ref C) "__init__" = some (some (.builtin "object.__init__"))) (hg : Gl X x) (hx : X.mg x = some (.ref C))
    (hdb : (x == ("__debug__" : Str)) = false := by decide) : PE X (.Call (.Name x p) [] [] pos) (tBare C) := by
  refine ⟨fun pn st ρ H Q I h => ?_⟩
  refine wpAny_Call_Name_kw (ld_glob I hg hx ?_ hdb)
  exact PySem.W.callWith_K0 I.kIn hk (run_bare hm hi I h)
end
theorem TrS.upd {K : PySem.W.Frag} {H : Hp} {fo : Addr} {zs ws : List V} (hf : H fo = some (.lst zs)) : ∀ {xs : List V} {L : List Tr}, TrS K H xs L → TrS K (upd H fo (.lst ws)) xs L
  | _, _, .nil => .nil
  | _, _, .cons h r => .cons (tup_keep hf h) (r.upd hf)
/-! ### triples as data -/
def trD (t : Tr) : PyData := .tuple [.int t.1, .int t.2.1, .int t.2.2]
theorem trs_dpa {K : PySem.W.Frag} {H : Hp} : ∀ {xs : List V} {L : List Tr}, TrS K H xs L → DpAll K H xs (L.map trD)
  | _, _, .nil => .nil
  | _, _, .cons h r => .cons (.tup h (.cons (.int _) (.cons (.int _) (.cons (.int _) .nil)))) (trs_dpa r)
theorem trs_dp {K : PySem.W.Frag} {H : Hp} {a : Addr} {xs : List V} {L : List Tr} (h : SqL K H a xs) (r : TrS K H xs L) : Dp K H (.ref a) (.list (L.map trD)) := .lst h (trs_dpa r)
theorem trd_lay (t : Tr) : (trD t).canLay0 = true := by simp [trD, PyData.canLay0, PyData.canLayAll0]
theorem trd_depth (t : Tr) : (trD t).depth = 1 := by simp [trD, PyData.depth, PyData.depthAll]
theorem trs_lay : ∀ L : List Tr, PyData.canLayAll0 (L.map trD) = true
  | [] => by simp [PyData.canLayAll0]
  | t :: L => by simp [PyData.canLayAll0, trd_lay t, trs_lay L]
theorem trs_depth : ∀ L : List Tr, PyData.depthAll (L.map trD) ≤ 2
  | [] => by simp [PyData.depthAll]
  | t :: L => by
    have h1 := trs_depth L
    have h2 := trd_depth t
    simp only [List.map_cons, PyData.depthAll]
    omega
theorem trs_shaped (L : List Tr) : SeqAt.shaped (.list (L.map trD)) = true := by
  have h1 := trs_depth L
  have h2 : PyData.depth (.list (L.map trD)) ≤ 64 := by
    simp only [PyData.depth]
    omega
  show (PyData.canLay0 (.list (L.map trD)) && decide (PyData.depth (.list (L.map trD)) ≤ 64)) = true
  rw [Bool.and_eq_true]
  exact ⟨by simp only [PyData.canLay0]; exact trs_lay L, decide_eq_true h2⟩
theorem trd_eqv (t u : Tr) : PyData.eqv (trD t) (trD u) = decide (t = u) := by
  obtain ⟨a, b, c⟩ := t
  obtain ⟨d, e, f⟩ := u
  have q : PyData.eqv (trD (a, b, c)) (trD (d, e, f)) = (decide (a = d) && (decide (b = e) && (decide (c = f) && true))) := by
    simp only [trD, PyData.eqv, PyData.eqvAll]
    rfl
  rw [q]
  by_cases h1 : a = d
  · by_cases h2 : b = e
    · by_cases h3 : c = f
      · subst h1 h2 h3
        simp
      · simp [h1, h2, h3]
    · simp [h1, h2]
  · simp [h1]
theorem trs_eqv : ∀ L M : List Tr, PyData.eqvAll (L.map trD) (M.map trD) = decide (L = M)
  | [], [] => by simp [PyData.eqvAll]
  | [], _ :: _ => by simp [PyData.eqvAll]
  | _ :: _, [] => by simp [PyData.eqvAll]
  | t :: L, u :: M => by
    simp only [List.map_cons, PyData.eqvAll, trd_eqv, trs_eqv L M]
    by_cases h1 : t = u
    · by_cases h2 : L = M
      · simp [h1, h2]
      · simp [h1, h2]
    · simp [h1]
theorem trl_eqv (L M : List Tr) : PyData.eqv (.list (L.map trD)) (.list (M.map trD)) = decide (L = M) := by
  rw [PyData.eqv]
  exact trs_eqv L M
end SqP

local macro_rules | `(tactic| walk_at "bd") => `(tactic| first | assumption | exact Sq.bd_small (k := 64) (by decide) | exact Sq.Bd.mul (by walk_at "bd") (by walk_at "bd") | exact Sq.Bd.sub (Sq.Bd.mono (l := 9000000) (by walk_at "bd") (by decide)) (Sq.Bd.mono (by walk_at "bd") (by decide)) | exact Sq.Bd.add (Sq.Bd.mono (l := 9000000) (by walk_at "bd") (by decide)) (Sq.Bd.mono (by walk_at "bd") (by decide)))
local macro_rules | `(tactic| walk_at "rd") => `(tactic| repeat (first | refine ⟨_, rfl, ?_⟩ | refine ⟨_, _, rfl, rfl, ?_⟩ | refine ⟨Or.inl ⟨by decide, by decide⟩, ?_⟩ | refine ⟨SqP.bd_mul (by walk_at "bd") (by walk_at "bd") (by decide), ?_⟩))

namespace SqP
open PySem
def topS (i : Nat) : Stmt := PySem.Challenge.pw_squaretree_k03_whole_sides.main.body.getD i (.Pass ⟨0, 0, 0, 0⟩)
end SqP

namespace SqP
open PySem PySem.Spec PyProof.Rows L2 Sq
/-- the names that stay the built-in ones -/
structure Bt (mg : Str → Option Value) : Prop where
  isi : mg "isinstance" = none
  int : mg "int" = none
  bool : mg "bool" = none
  list : mg "list" = none
  len : mg "len" = none
  all : mg "all" = none
  any : mg "any" = none
  range : mg "range" = none
  sorted : mg "sorted" = none
  max : mg "max" = none
  tuple : mg "tuple" = none
  min : mg "min" = none
abbrev PrAt (K : PySem.W.Frag) (H : Hp) (a : Addr) (p : Pr) : Prop := SqT K H a [.int p.1, .int p.2]
abbrev TrAt (K : PySem.W.Frag) (H : Hp) (a : Addr) (t : Tr) : Prop := SqT K H a [.int t.1, .int t.2.1, .int t.2.2]
abbrev s_is_whole : Stmt := topS 4
theorem sc_is_whole : FnScope ["thing"] ["thing"] (defScope s_is_whole) := ⟨rfl, rfl, rfl, by decide +kernel, rfl, by decide +kernel, by decide +kernel⟩
abbrev s_common : Stmt := topS 5
theorem sc_common : FnScope ["one", "other"] ["one", "other"] (defScope s_common) := ⟨rfl, rfl, rfl, by decide +kernel, rfl, by decide +kernel, by decide +kernel⟩
abbrev s_root_of : Stmt := topS 6
theorem sc_root_of : FnScope ["number", "now"] ["number"] (defScope s_root_of) := ⟨rfl, rfl, rfl, by decide +kernel, rfl, by decide +kernel, by decide +kernel⟩
abbrev s_triple_by : Stmt := topS 7
theorem sc_triple_by : FnScope ["pair", "m", "n"] ["pair"] (defScope s_triple_by) := ⟨rfl, rfl, rfl, by decide +kernel, rfl, by decide +kernel, by decide +kernel⟩
abbrev s_longest_of : Stmt := topS 10
theorem sc_longest_of : FnScope ["number", "found", "n", "m"] ["number"] (defScope s_longest_of) := ⟨rfl, rfl, rfl, by decide +kernel, rfl, by decide +kernel, by decide +kernel⟩
abbrev s_legs_of : Stmt := topS 11
theorem sc_legs_of : FnScope ["number", "found", "part", "half"] ["number"] (defScope s_legs_of) := ⟨rfl, rfl, rfl, by decide +kernel, rfl, by decide +kernel, by decide +kernel⟩
abbrev s__law_cell_at : Stmt := topS 22
theorem sc__law_cell_at : FnScope ["_law_script", "_law_k"] ["_law_script", "_law_k"] (defScope s__law_cell_at) := ⟨rfl, rfl, rfl, by decide +kernel, rfl, by decide +kernel, by decide +kernel⟩
abbrev s__law_draw : Stmt := topS 23
theorem sc__law_draw : FnScope ["_law_cell", "_law_k", "_law_many", "_law_primes"] ["_law_cell", "_law_k", "_law_many"] (defScope s__law_draw) := ⟨rfl, rfl, rfl, by decide +kernel, rfl, by decide +kernel, by decide +kernel⟩
abbrev s__law_value : Stmt := topS 24
theorem sc__law_value : FnScope ["_law_cell", "_law_k", "_law_limit"] ["_law_cell", "_law_k", "_law_limit"] (defScope s__law_value) := ⟨rfl, rfl, rfl, by decide +kernel, rfl, by decide +kernel, by decide +kernel⟩
abbrev s__law_triple : Stmt := topS 25
theorem sc__law_triple : FnScope ["_law_pair", "_law_m", "_law_n"] ["_law_pair"] (defScope s__law_triple) := ⟨rfl, rfl, rfl, by decide +kernel, rfl, by decide +kernel, by decide +kernel⟩
abbrev s__law_common : Stmt := topS 26
theorem sc__law_common : FnScope ["_law_one", "_law_other"] ["_law_one", "_law_other"] (defScope s__law_common) := ⟨rfl, rfl, rfl, by decide +kernel, rfl, by decide +kernel, by decide +kernel⟩
abbrev s__law_root : Stmt := topS 29
theorem sc__law_root : FnScope ["_law_number_here", "_law_low", "_law_high", "_law_middle"] ["_law_number_here"] (defScope s__law_root) := ⟨rfl, rfl, rfl, by decide +kernel, rfl, by decide +kernel, by decide +kernel⟩
abbrev s__law_longest : Stmt := topS 30
theorem sc__law_longest : FnScope ["_law_number_here", "_law_found", "_law_m", "_law_n"] ["_law_number_here"] (defScope s__law_longest) := ⟨rfl, rfl, rfl, by decide +kernel, rfl, by decide +kernel, by decide +kernel⟩
abbrev s__law_legs : Stmt := topS 31
theorem sc__law_legs : FnScope ["_law_number_here", "_law_found", "_law_part", "_law_other", "_law_half"] ["_law_number_here"] (defScope s__law_legs) := ⟨rfl, rfl, rfl, by decide +kernel, rfl, by decide +kernel, by decide +kernel⟩
section
variable {P : Program} {w : World} {K : PySem.W.Frag} {mg : Str → Option Value} {base : Heap}
/-! ### is_whole -/
def sp_is_whole (K : PySem.W.Frag) : Sp := fun vs H Q _ => ∃ (v : V) (T : String) (bi bb : Bool), vs = [v] ∧ TyX K H v (.type T) ∧ kitB T "int" = some bi ∧ kitB T "bool" = some bb ∧ Q (.bl (bi && !bb)) H
theorem ok_is_whole (B : Bt mg) (D : Is K mg "is_whole" s_is_whole ["thing"]) : Has P w K mg base 1 "is_whole" ["thing"] (sp_is_whole K) := by
  obtain ⟨f, fd, F, b, g⟩ := D
  refine ⟨f, fd, F.ok sc_is_whole (fun vs H Q E h => ?_) (fun cdv A outer s H vs Q E hr h => ?_), F.kp, b, g⟩
  · obtain ⟨v, T, bi, bb, rfl, _⟩ := h
    rfl
  · obtain ⟨v, T, bi, bb, rfl, ty, k1, k2, q⟩ := h
    refine ⟨_, (pss_one (ps_ret (pe_and (pe_callB call_isi (by rfl) B.isi (by decide +kernel) (pa_cons (pv 0) (pa_cons (pe_bltn (v := .ty "int") (by rfl) B.int (by decide +kernel) rfl) pa_nil))) (pe_one (pe_not (pe_callB call_isi (by rfl) B.isi (by decide +kernel) (pa_cons (pv 0) (pa_cons (pe_bltn (v := .ty "bool") (by rfl) B.bool (by decide +kernel) rfl) pa_nil)))))))), ?_⟩
    refine ⟨_, rfl, v, .ty "int", _, _, bi, rfl, .ty _, ty, kit_ty k1, bi, rfl, ?_⟩
    cases bi with
    | false => exact iteF q
    | true => exact iteT ⟨_, rfl, v, .ty "bool", _, _, bb, rfl, .ty _, ty, kit_ty k2, bb, rfl, q⟩
theorem whole_int {i : Int} {H : Hp} {Q : VK} {E : XK} (q : Q (.bl true) H) : sp_is_whole K [.int i] H Q E := ⟨.int i, "int", true, false, rfl, .base (.int i), kb_int_int, kb_int_bool, q⟩

/-! ### common -/
def sp_common : Sp := fun vs H Q _ => ∃ a b : Int, vs = [.int a, .int b] ∧ 0 ≤ a ∧ 0 ≤ b ∧ Q (.int (Int.gcd a b)) H
theorem ok_common (D : Is K mg "common" s_common ["one", "other"]) : Has P w K mg base 1 "common" ["one", "other"] sp_common := by
  obtain ⟨f, fd, F, b, g⟩ := D
  refine ⟨f, fd, F.ok sc_common (fun vs H Q E h => ?_) (fun cdv A outer s H vs Q E hr h => ?_), F.kp, b, g⟩
  · obtain ⟨a, b, rfl, _⟩ := h
    rfl
  · obtain ⟨a, b, rfl, ha, hb, q⟩ := h
    refine ⟨_, (pss_cons (ps_while PassesOwn.never (pt_cmpR op_gt (pv 1) pe_int (nomark _)) (pss_one (ps_par (i := 0) (j := 1) rfl sc_common.nd rfl rfl (by decide) rfl rfl (pa_cons (pv 1) (pa_cons (pe_op op_mod (pv 0) (pv 1)) pa_nil)) (by rfl)))) (pss_one (ps_ret (pv 0)))), ?_⟩
    refine ⟨fun m σ H' => ∃ x y : Int, σ = [some (.int x), some (.int y)] ∧ m = y.toNat ∧ 0 ≤ x ∧ 0 ≤ y ∧ Int.gcd x y = Int.gcd a b ∧ H' = H, ⟨_, a, b, rfl, rfl, ha, hb, rfl, rfl⟩, ?_⟩
    rintro m σ H' ⟨x, y, rfl, rfl, hx, hy, hg, rfl⟩
    refine ⟨_, rfl, _, _, rfl, rfl, _, rfl, if_b (fun c => ?_) (fun c => ?_)⟩
    · have c := of_decide_eq_true c
      refine ⟨fun σ' H2 => ∃ m', m' < y.toNat ∧ ∃ x1 y1 : Int, σ' = [some (.int x1), some (.int y1)] ∧ m' = y1.toNat ∧ 0 ≤ x1 ∧ 0 ≤ y1 ∧ Int.gcd x1 y1 = Int.gcd a b ∧ H2 = H', fun _ _ h => h, ?_⟩
      refine ⟨_, rfl, _, rfl, _, rfl, _, _, rfl, rfl, c, _, _, rfl, ?_⟩
      have e1 := Int.emod_nonneg x (show y ≠ 0 by omega)
      have e2 := Int.emod_lt_of_pos x c
      refine ⟨_, ?_, y, x % y, rfl, rfl, hy, e1, ?_, rfl⟩
      · omega
      · rw [← hg]
        have := Int.mul_ediv_add_emod x y
        rw [Int.gcd_comm x y]
        conv => rhs; rw [← this]
        rw [Int.add_comm, Int.gcd_add_mul_left_right]
    · have c := of_decide_eq_false c
      have e : y = 0 := by omega
      subst e
      refine ⟨_, rfl, ?_⟩
      rw [← hg, Int.gcd_zero_right] at q
      have e2 : ((x.natAbs : Nat) : Int) = x := Int.natAbs_of_nonneg hx
      rw [e2] at q
      exact q

/-! ### root_of -/
def sp_root_of : Sp := fun vs H Q _ => ∃ N : Int, vs = [.int N] ∧ 0 ≤ N ∧ Bd 2000010 N ∧ ∀ r : Int, 0 ≤ r → r * r ≤ N → N < (r + 1) * (r + 1) → Q (.int r) H
theorem bits_lt {N : Int} (h : 0 ≤ N) : N < 2 ^ (Builtin.Int.intBits N) := by
  have q : N.natAbs < 2 ^ (Builtin.Int.intBits N) := by
    unfold Builtin.Int.intBits
    split
    · rename_i e
      rw [beq_iff_eq.mp e]
      decide
    · exact Nat.lt_log2_self
  exact Bd.lt (k := Builtin.Int.intBits N) q
theorem bits_bd {N : Int} {k : Nat} (h : Bd k N) : Builtin.Int.intBits N ≤ k := PyProof.Rows.intBits_le h
theorem ok_root_of (hN : base.NoSeer) (ht : P.given.tree = none) (D : Is K mg "root_of" s_root_of ["number"]) : Has P w K mg base 33 "root_of" ["number"] sp_root_of := by
  obtain ⟨f, fd, F, b, g⟩ := D
  refine ⟨f, fd, F.ok sc_root_of (fun vs H Q E h => ?_) (fun cdv A outer s H vs Q E hr h => ?_), F.kp, b, g⟩
  · obtain ⟨N, rfl, _⟩ := h
    rfl
  · obtain ⟨N, rfl, h0, hb, q⟩ := h
    have hd : (A.deeper (envOfC "root_of" (defScope s_root_of) s.heap.objs.size f cdv)).depth + 100 < recursionLimit := by
      have := hr.dp
      omega
    refine ⟨_, (pss_cons (ps_set (i := 1) sc_root_of.nd rfl (Or.inl rfl) (pe_op op_oneShl pe_int (pe_op op_fdiv (pe_op op_add (pe_bits (pv 0)) pe_int) pe_int))) (pss_cons (ps_while PassesOwn.never (pt_cmpR op_gt (pe_op op_mulX (pv 1) (pv 1)) (pv 0) (nomark _)) (pss_one (ps_set (i := 1) sc_root_of.nd rfl (Or.inl rfl) (pe_op op_fdiv (pe_op op_add (pv 1) (pe_op (op_fdivP (l := outer) hN ht rfl rfl rfl hd) (pv 0) (pv 1))) pe_int)))) (pss_one (ps_ret (pv 1))))), ?_⟩
    have hbl := bits_bd hb
    have hlt := bits_lt h0
    generalize hB : Builtin.Int.intBits N = b at *
    have n0 := newt_start hlt
    refine ⟨_, rfl, N, rfl, _, _, rfl, rfl, _, _, rfl, rfl, ⟨by decide, by decide⟩, (b + 1) / 2, rfl, by rw [hB]; show V.int _ = V.int _; congr 1, by omega, ?_⟩
    have top : Bd ((b + 1) / 2 + 1) (2 ^ ((b + 1) / 2) : Int) := by
      refine bd_of n0.nn ?_
      rw [Int.pow_succ]
      have : (0 : Int) < 2 ^ ((b + 1) / 2) := by
        have := Nat.two_pow_pos ((b + 1) / 2)
        exact_mod_cast this
      omega
    generalize (2 ^ ((b + 1) / 2) : Int) = x0 at *
    refine ⟨fun m σ H' => ∃ x : Int, σ = [some (.int N), some (.int x)] ∧ m = x.toNat ∧ Newt N x ∧ x ≤ x0 ∧ H' = H, ⟨_, x0, rfl, rfl, n0, Int.le_refl _, rfl⟩, ?_⟩
    rintro m σ H' ⟨x, rfl, rfl, hn, hx, rfl⟩
    have xb : Bd ((b + 1) / 2 + 1) x := top.le hn.nn hx
    refine ⟨_, rfl, _, rfl, _, _, rfl, rfl, bd_mul xb xb (by omega), _, rfl, _, _, rfl, rfl, _, rfl, if_b (fun c => ?_) (fun c => ?_)⟩
    · have c := of_decide_eq_true c
      obtain ⟨x1, nx, lt⟩ := newt_next h0 hn c
      refine ⟨fun σ' H2 => ∃ m', m' < x.toNat ∧ ∃ y : Int, σ' = [some (.int N), some (.int y)] ∧ m' = y.toNat ∧ Newt N y ∧ y ≤ x0 ∧ H2 = H', fun _ _ h => h, ?_⟩
      refine ⟨_, rfl, _, rfl, _, rfl, _, _, rfl, rfl, x1, _, _, rfl, rfl, _, _, rfl, rfl, ⟨by decide, by decide⟩, _, ?_, _, rfl, rfl, nx, by omega, rfl⟩
      have := nx.nn
      omega
    · have c := of_decide_eq_false c
      exact ⟨_, rfl, q x hn.nn (by omega) hn.up⟩

/-! ### triple_by, triple_of -/
def sp_triple_by (K : PySem.W.Frag) : Sp := fun vs H Q _ => ∃ (a : Addr) (p : Pr), vs = [.ref a] ∧ PrAt K H a p ∧ Bd 1000000 p.1 ∧ Bd 1000000 p.2 ∧ ∀ H' q, Same H H' → TrAt K H' q (tri p) → Q (.ref q) H'
theorem ok_triple_by (D : Is K mg "triple_by" s_triple_by ["pair"]) : Has P w K mg base 1 "triple_by" ["pair"] (sp_triple_by K) := by
  obtain ⟨f, fd, F, b, g⟩ := D
  refine ⟨f, fd, F.ok sc_triple_by (fun vs H Q E h => ?_) (fun cdv A outer s H vs Q E hr h => ?_), F.kp, b, g⟩
  · obtain ⟨a, p, rfl, _⟩ := h
    rfl
  · obtain ⟨a, p, rfl, hS, hm, hn, q⟩ := h
    refine ⟨_, (pss_cons (ps_asg (pv 0) (pg_tup rfl (pgs_cons (pg_name (i := 1) sc_triple_by.nd rfl (Or.inl rfl)) (pgs_cons (pg_name (i := 2) sc_triple_by.nd rfl (Or.inl rfl)) pgs_nil)))) (pss_one (ps_ret (pe_tup (pa_cons (pe_op op_sub (pe_op op_mulX (pv 1) (pv 1)) (pe_op op_mulX (pv 2) (pv 2))) (pa_cons (pe_op op_mulX (pe_op op_mul pe_int (pv 1)) (pv 2)) (pa_cons (pe_op op_add (pe_op op_mulX (pv 1) (pv 1)) (pe_op op_mulX (pv 2) (pv 2))) pa_nil))))))), ?_⟩
    refine ⟨_, rfl, _, _, rfl, hS, rfl, _, _, rfl, _, _, rfl, rfl, ?_⟩
    walk_at "rd"
    refine ⟨len3, new_tup (K := K) fun H1 t s1 t1 => q _ _ s1 t1⟩

def sp_cell_at (K : PySem.W.Frag) : Sp := fun vs H Q _ => ∃ (a : Addr) (ns : List Int) (k : Nat), vs = [.ref a, .int k] ∧ SqL K H a (ns.map V.int) ∧ ns.length ≤ 1000 ∧ ∀ c : Int, (c ∈ ns ∨ c = 0) → Q (.int c) H
theorem ok__law_cell_at (B : Bt mg) (D : Is K mg "_law_cell_at" s__law_cell_at ["_law_script", "_law_k"]) : Has P w K mg base 1 "_law_cell_at" ["_law_script", "_law_k"] (sp_cell_at K) := by
  obtain ⟨f, fd, F, b, g⟩ := D
  refine ⟨f, fd, F.ok sc__law_cell_at (fun vs H Q E h => ?_) (fun cdv A outer s H vs Q E hr h => ?_), F.kp, b, g⟩
  · obtain ⟨a, ns, k, rfl, _⟩ := h
    rfl
  · obtain ⟨a, ns, k, rfl, hS, hl, q⟩ := h
    refine ⟨_, (pss_cons (ps_if (pt_cmpR op_lt (pv 1) (pe_callB call_len_seq (by rfl) B.len PySem.boot_len (pa_cons (pv 0) pa_nil)) (nomark _)) (pss_one (ps_ret (pe_ix ix_list (pv 0) (pv 1) (fun _ _ => rfl)))) pss_nil) (pss_one (ps_ret pe_int))), ?_⟩
    refine ⟨_, rfl, _, rfl, a, _, rfl, .inl hS, _, _, rfl, rfl, _, rfl, if_b (fun c => ?_) (fun c => ?_)⟩
    · have c := of_decide_eq_true c
      rw [List.length_map] at c
      have hk : k < ns.length := by omega
      refine ⟨_, rfl, _, rfl, a, _, _, _, rfl, rfl, hS, atI_nat (v := .int ns[k]) ?_, q _ (.inl (List.getElem_mem hk))⟩
      rw [List.getElem?_map, List.getElem?_eq_getElem hk]
      rfl
    · exact q 0 (.inr rfl)

/-! ### the law's draws -/
def sp_draw : Sp := fun vs H Q _ => ∃ c k m : Int, vs = [.int c, .int k, .int m] ∧ 0 < m ∧ ∀ H' r, Same H H' → 0 ≤ r → r < m → Q (.int r) H'
theorem ok__law_draw (D : Is K mg "_law_draw" s__law_draw ["_law_cell", "_law_k", "_law_many"]) : Has P w K mg base 1 "_law_draw" ["_law_cell", "_law_k", "_law_many"] sp_draw := by
  obtain ⟨f, fd, F, b, g⟩ := D
  refine ⟨f, fd, F.ok sc__law_draw (fun vs H Q E h => ?_) (fun cdv A outer s H vs Q E hr h => ?_), F.kp, b, g⟩
  · obtain ⟨c, k, m, rfl, _⟩ := h
    rfl
  · obtain ⟨c, k, m, rfl, hm, q⟩ := h
    refine ⟨_, (pss_cons (ps_set (i := 3) sc__law_draw.nd rfl (Or.inl rfl) (pe_tup (pa_cons pe_int (pa_cons pe_int (pa_cons pe_int (pa_cons pe_int (pa_cons pe_int (pa_cons pe_int (pa_cons pe_int (pa_cons pe_int (pa_cons pe_int (pa_cons pe_int (pa_cons pe_int (pa_cons pe_int (pa_cons pe_int (pa_cons pe_int (pa_cons pe_int (pa_cons pe_int pa_nil)))))))))))))))))) (pss_one (ps_ret (pe_op op_mod (pe_op op_mod (pe_op op_add (pe_op op_mul (pv 0) pe_int) (pe_op op_mul (pv 1) pe_int)) (pe_ix ix_tup (pv 3) (pe_op op_mod (pv 1) pe_int) (fun _ _ => rfl))) (pv 2))))), ?_⟩
    refine ⟨by show 16 ≤ sizeLine; decide, fun t ht => ?_⟩
    refine ⟨_, rfl, _, _, rfl, rfl, .inr ⟨by decide, by decide⟩, _, rfl, _, _, rfl, rfl, .inr ⟨by decide, by decide⟩, _, _, rfl, rfl, ?_⟩
    refine ⟨_, rfl, _, rfl, _, _, rfl, rfl, (by decide : (0 : Int) < 16), ?_⟩
    have e1 := Int.emod_nonneg k (show (16 : Int) ≠ 0 by decide)
    have e2 := Int.emod_lt_of_pos k (show (0 : Int) < 16 by decide)
    obtain ⟨j, hj⟩ : ∃ j : Nat, k % 16 = (j : Int) := ⟨(k % 16).toNat, by omega⟩
    have hj2 : j < 16 := by omega
    have hv : ∃ v : Int, ([.int 1000003, .int 1000033, .int 1000037, .int 1000039, .int 1000081, .int 1000099, .int 1000117, .int 1000121, .int 1000133, .int 1000151, .int 1000159, .int 1000171, .int 1000183, .int 1000187, .int 1000193, .int 1000199] : List V)[j]? = some (.int v) ∧ 0 < v := by
      match j, hj2 with
      | 0, _ => exact ⟨_, rfl, by decide⟩
      | 1, _ => exact ⟨_, rfl, by decide⟩
      | 2, _ => exact ⟨_, rfl, by decide⟩
      | 3, _ => exact ⟨_, rfl, by decide⟩
      | 4, _ => exact ⟨_, rfl, by decide⟩
      | 5, _ => exact ⟨_, rfl, by decide⟩
      | 6, _ => exact ⟨_, rfl, by decide⟩
      | 7, _ => exact ⟨_, rfl, by decide⟩
      | 8, _ => exact ⟨_, rfl, by decide⟩
      | 9, _ => exact ⟨_, rfl, by decide⟩
      | 10, _ => exact ⟨_, rfl, by decide⟩
      | 11, _ => exact ⟨_, rfl, by decide⟩
      | 12, _ => exact ⟨_, rfl, by decide⟩
      | 13, _ => exact ⟨_, rfl, by decide⟩
      | 14, _ => exact ⟨_, rfl, by decide⟩
      | 15, _ => exact ⟨_, rfl, by decide⟩
      | n + 16, h => omega
    obtain ⟨v, hv1, hv2⟩ := hv
    refine ⟨t, _, _, _, rfl, rfl, SqT.of upd_same, at_of hj hv1, _, _, rfl, rfl, hv2, _, rfl, _, _, rfl, rfl, hm, ?_⟩
    exact q _ _ (same_upd ht) (Int.emod_nonneg _ (by omega)) (Int.emod_lt_of_pos _ hm)

def sp_value : Sp := fun vs H Q _ => ∃ c k m : Int, vs = [.int c, .int k, .int m] ∧ 0 < m ∧ m ≤ 10 ^ 40 ∧ 0 ≤ k ∧ k ≤ 1000 ∧ Bd 1048577 c ∧ ∀ H' r, Same H H' → 0 ≤ r → r < 10 ^ 40 → Q (.int r) H'
theorem ok__law_value (D : Is K mg "_law_value" s__law_value ["_law_cell", "_law_k", "_law_limit"]) (H__law_draw : Has P w K mg base 1 "_law_draw" ["_law_cell", "_law_k", "_law_many"] sp_draw) : Has P w K mg base 2 "_law_value" ["_law_cell", "_law_k", "_law_limit"] sp_value := by
  obtain ⟨f, fd, F, b, g⟩ := D
  obtain ⟨f__law_draw, fd__law_draw, G__law_draw, k__law_draw, b__law_draw, g__law_draw⟩ := H__law_draw
  refine ⟨f, fd, F.ok sc__law_value (fun vs H Q E h => ?_) (fun cdv A outer s H vs Q E hr h => ?_), F.kp, b, g⟩
  · obtain ⟨c, k, m, rfl, _⟩ := h
    rfl
  · obtain ⟨c, k, m, rfl, hm, hm2, hk, hk2, hc, q⟩ := h
    refine ⟨_, (pss_cons (ps_if (pt_cmpR op_ge (pv 0) (pe_op op_pow pe_int pe_int) (nomark _)) (pss_one (ps_ret (pe_op op_mod (pe_op op_fdiv (pe_op op_sub (pv 0) (pe_op op_pow pe_int pe_int)) (pe_ix ix_tup (pe_tup (pa_cons pe_int (pa_cons pe_int (pa_cons pe_int (pa_cons pe_int pa_nil))))) (pe_op op_mod (pv 1) pe_int) (fun _ _ => rfl))) (pe_op op_pow pe_int pe_int)))) pss_nil) (pss_one (ps_ret (pe_call G__law_draw (hr.mono (by decide)) (by rfl) g__law_draw k__law_draw b__law_draw .nil pass0 (pa_cons (pe_op op_mulX (pe_op op_add (pv 0) (pe_op op_mul pe_int (pv 1))) (pe_op op_add (pe_op op_add (pv 0) (pe_op op_mul pe_int (pv 1))) pe_int)) (pa_cons (pe_op op_add (pe_op op_mod (pv 1) pe_int) pe_int) (pa_cons (pv 2) pa_nil))))))), ?_⟩
    refine ⟨_, rfl, _, _, rfl, rfl, ⟨by decide, by decide, by decide⟩, _, _, rfl, rfl, _, rfl, if_b (fun e => ?_) (fun e => ?_)⟩
    · have e1 := Int.emod_nonneg k (show (4 : Int) ≠ 0 by decide)
      have e2 := Int.emod_lt_of_pos k (show (0 : Int) < 4 by decide)
      obtain ⟨j, hj⟩ : ∃ j : Nat, k % 4 = (j : Int) := ⟨(k % 4).toNat, by omega⟩
      have hj2 : j < 4 := by omega
      have hv : ∃ v : Int, ([.int 1, .int 7, .int 49, .int 343] : List V)[j]? = some (.int v) ∧ 0 < v ∧ v < 1073741824 := by
        match j, hj2 with
        | 0, _ => exact ⟨_, rfl, by decide⟩
        | 1, _ => exact ⟨_, rfl, by decide⟩
        | 2, _ => exact ⟨_, rfl, by decide⟩
        | 3, _ => exact ⟨_, rfl, by decide⟩
        | n + 4, h => omega
      obtain ⟨v, hv1, hv2⟩ := hv
      refine ⟨_, rfl, _, _, rfl, rfl, ⟨by decide, by decide, by decide⟩, _, _, rfl, rfl, by show 4 ≤ sizeLine; decide, fun t ht => ?_⟩
      refine ⟨_, rfl, _, _, rfl, rfl, (by decide : (0 : Int) < 4), t, _, _, _, rfl, rfl, SqT.of upd_same, at_of hj hv1, _, _, rfl, rfl, hv2, _, _, rfl, rfl, ⟨by decide, by decide, by decide⟩, _, _, rfl, rfl, (by decide +kernel : (0 : Int) < 10 ^ (40 : Int).toNat), ?_⟩
      exact q _ _ (same_upd ht) (Int.emod_nonneg _ (by decide +kernel)) (Int.emod_lt_of_pos _ (by decide +kernel))
    · have hk9 := Int.emod_nonneg k (show (9 : Int) ≠ 0 by decide)
      have b1 : Bd 1048579 (c + 977 * k) := (hc.add ((bd_small (k := 64) (show (977 * k).natAbs < 2 ^ 64 by omega)).mono (by decide))).mono (by decide)
      have b2 : Bd 1048579 (c + 31 * k + 5) := ((hc.add ((bd_small (k := 64) (show (31 * k).natAbs < 2 ^ 64 by omega)).mono (by decide))).add (bd_small (k := 1048578) (Nat.lt_of_lt_of_le (show (5 : Int).natAbs < 2 ^ 64 by decide) (Nat.pow_le_pow_right (by decide) (by decide))))).mono (by decide)
      refine ⟨_, rfl, _, rfl, _, _, rfl, rfl, .inl ⟨by decide, by decide⟩, _, _, rfl, rfl, _, rfl, _, rfl, _, _, rfl, rfl, .inl ⟨by decide, by decide⟩, _, _, rfl, rfl, _, _, rfl, rfl, _, _, rfl, rfl, bd_mul b1 b2 (by decide), ?_⟩
      refine ⟨_, rfl, _, _, rfl, rfl, (by decide : (0 : Int) < 9), _, _, rfl, rfl, _, rfl, _, _, _, rfl, hm, fun H1 r s1 r0 r1 => q _ _ s1 r0 (by omega)⟩

theorem ok__law_triple (D : Is K mg "_law_triple" s__law_triple ["_law_pair"]) : Has P w K mg base 1 "_law_triple" ["_law_pair"] (sp_triple_by K) := by
  obtain ⟨f, fd, F, b, g⟩ := D
  refine ⟨f, fd, F.ok sc__law_triple (fun vs H Q E h => ?_) (fun cdv A outer s H vs Q E hr h => ?_), F.kp, b, g⟩
  · obtain ⟨a, p, rfl, _⟩ := h
    rfl
  · obtain ⟨a, p, rfl, hS, hm, hn, q⟩ := h
    refine ⟨_, (pss_cons (ps_asg (pv 0) (pg_tup rfl (pgs_cons (pg_name (i := 1) sc__law_triple.nd rfl (Or.inl rfl)) (pgs_cons (pg_name (i := 2) sc__law_triple.nd rfl (Or.inl rfl)) pgs_nil)))) (pss_one (ps_ret (pe_tup (pa_cons (pe_op op_sub (pe_op op_mulX (pv 1) (pv 1)) (pe_op op_mulX (pv 2) (pv 2))) (pa_cons (pe_op op_mulX (pe_op op_mul pe_int (pv 1)) (pv 2)) (pa_cons (pe_op op_add (pe_op op_mulX (pv 1) (pv 1)) (pe_op op_mulX (pv 2) (pv 2))) pa_nil))))))), ?_⟩
    refine ⟨_, rfl, _, _, rfl, hS, rfl, _, _, rfl, _, _, rfl, rfl, ?_⟩
    walk_at "rd"
    refine ⟨len3, new_tup (K := K) fun H1 t s1 t1 => q _ _ s1 t1⟩

theorem ok__law_common (D : Is K mg "_law_common" s__law_common ["_law_one", "_law_other"]) : Has P w K mg base 1 "_law_common" ["_law_one", "_law_other"] sp_common := by
  obtain ⟨f, fd, F, b, g⟩ := D
  refine ⟨f, fd, F.ok sc__law_common (fun vs H Q E h => ?_) (fun cdv A outer s H vs Q E hr h => ?_), F.kp, b, g⟩
  · obtain ⟨a, b, rfl, _⟩ := h
    rfl
  · obtain ⟨a, b, rfl, ha, hb, q⟩ := h
    refine ⟨_, (pss_cons (ps_while PassesOwn.never (pt_cmpR op_gt (pv 1) pe_int (nomark _)) (pss_one (ps_par (i := 0) (j := 1) rfl sc__law_common.nd rfl rfl (by decide) rfl rfl (pa_cons (pv 1) (pa_cons (pe_op op_mod (pv 0) (pv 1)) pa_nil)) (by rfl)))) (pss_one (ps_ret (pv 0)))), ?_⟩
    refine ⟨fun m σ H' => ∃ x y : Int, σ = [some (.int x), some (.int y)] ∧ m = y.toNat ∧ 0 ≤ x ∧ 0 ≤ y ∧ Int.gcd x y = Int.gcd a b ∧ H' = H, ⟨_, a, b, rfl, rfl, ha, hb, rfl, rfl⟩, ?_⟩
    rintro m σ H' ⟨x, y, rfl, rfl, hx, hy, hg, rfl⟩
    refine ⟨_, rfl, _, _, rfl, rfl, _, rfl, if_b (fun c => ?_) (fun c => ?_)⟩
    · have c := of_decide_eq_true c
      refine ⟨fun σ' H2 => ∃ m', m' < y.toNat ∧ ∃ x1 y1 : Int, σ' = [some (.int x1), some (.int y1)] ∧ m' = y1.toNat ∧ 0 ≤ x1 ∧ 0 ≤ y1 ∧ Int.gcd x1 y1 = Int.gcd a b ∧ H2 = H', fun _ _ h => h, ?_⟩
      refine ⟨_, rfl, _, rfl, _, rfl, _, _, rfl, rfl, c, _, _, rfl, ?_⟩
      have e1 := Int.emod_nonneg x (show y ≠ 0 by omega)
      have e2 := Int.emod_lt_of_pos x c
      refine ⟨_, ?_, y, x % y, rfl, rfl, hy, e1, ?_, rfl⟩
      · omega
      · rw [← hg]
        have := Int.mul_ediv_add_emod x y
        rw [Int.gcd_comm x y]
        conv => rhs; rw [← this]
        rw [Int.add_comm, Int.gcd_add_mul_left_right]
    · have c := of_decide_eq_false c
      have e : y = 0 := by omega
      subst e
      refine ⟨_, rfl, ?_⟩
      rw [← hg, Int.gcd_zero_right] at q
      have e2 : ((x.natAbs : Nat) : Int) = x := Int.natAbs_of_nonneg hx
      rw [e2] at q
      exact q

end
end SqP

namespace SqP
open PySem PySem.Spec PyProof.Rows L2 Sq
section
variable {P : Program} {w : World} {K : PySem.W.Frag} {mg : Str → Option Value} {base : Heap}
theorem dec_vint (a b : Int) : decide (V.int a = V.int b) = decide (a = b) := by
  by_cases c : a = b
  · rw [decide_eq_true c, decide_eq_true (by rw [c])]
  · rw [decide_eq_false c, decide_eq_false (fun z => c (V.int.inj z))]
/-- a list of triples of one's own, as found so far -/
structure FoundAt (K : PySem.W.Frag) (H H' : Hp) (fo : Addr) (xs : List V) (L : List Tr) : Prop where
  same : Same H H'
  new : H fo = none
  lst : H' fo = some (.lst xs)
  trs : TrS K H' xs L
theorem FoundAt.start {H : Hp} {fo : Addr} (h : H fo = none) : FoundAt K H (upd H fo (.lst [])) fo [] [] := ⟨same_upd h, h, upd_same, .nil⟩
theorem FoundAt.on {H H' H2 : Hp} {fo : Addr} {xs : List V} {L : List Tr} (h : FoundAt K H H' fo xs L) (s : Same H' H2) : FoundAt K H H2 fo xs L := ⟨h.same.trans s, h.new, s _ _ h.lst, h.trs.same s⟩
theorem FoundAt.add {H H' : Hp} {fo q : Addr} {xs : List V} {L : List Tr} {t : Tr} (h : FoundAt K H H' fo xs L) (ht : TrAt K H' q t) : FoundAt K H (upd H' fo (.lst (xs ++ [.ref q]))) fo (xs ++ [.ref q]) (L ++ [t]) :=
  ⟨same_new h.new h.same, h.new, upd_same, (h.trs.app (.cons ht .nil)).upd h.lst⟩
theorem mxs {i j : Int} (h : (-1000000000 ≤ i ∧ i ≤ 1000000000) ∧ (-1000000000 ≤ j ∧ j ≤ 1000000000)) : CMulX i j :=
  bd_mul (k := 64) (l := 64) (bd_small (k := 64) (show i.natAbs < 2 ^ 64 by omega)) (bd_small (k := 64) (show j.natAbs < 2 ^ 64 by omega)) (by decide)
theorem bds {x : Int} (h : -1000000000 ≤ x ∧ x ≤ 1000000000) : Bd 1000000 x := (bd_small (k := 64) (show x.natAbs < 2 ^ 64 by omega)).mono (by decide)
theorem rti_mono' {a b : Int} (h : a ≤ b) : rti a ≤ rti b := by
  by_cases h0 : 0 ≤ a
  · exact rti_mono h0 h
  · have e : rti a = 0 := by
      unfold rti
      rw [show a.toNat = 0 by omega]
      rfl
    have := rti_pos b
    omega
theorem sq_pos (n : Int) : 0 ≤ n * n := by
  rcases Int.le_total 0 n with h | h
  · exact Int.mul_nonneg h h
  · exact Int.mul_nonneg_of_nonpos_of_nonpos h h
/-- one step of m down -/
theorem down_m {N m n : Int} (hm : 0 ≤ m) (hr : rti (N - n * n) ≤ m) (h0 : 0 ≤ N - n * n) (c : N < m * m + n * n) : rti (N - n * n) ≤ m - 1 := by
  have h1 := rti_le h0
  have h2 := lt_of_sq (a := rti (N - n * n)) (b := m) hm (by omega)
  omega
theorem stop_m {N m n : Int} (hr : rti (N - n * n) ≤ m) (h0 : 0 ≤ N - n * n) (c : ¬ N < m * m + n * n) : m = rti (N - n * n) := by
  have := le_rti (a := m) h0 (by omega)
  omega
theorem rti_small {N : Int} (h0 : 0 ≤ N) (h : N ≤ 2000000) : rti N ≤ 2000 := by
  by_cases c : rti N ≤ 2000
  · exact c
  · have h1 := rti_le h0
    have h2 := sq_mono (a := 2001) (b := rti N) (by decide) (by omega)
    omega
theorem lgOk_iff {N m n : Int} : lgOk N m n = true ↔ m * m + n * n = N ∧ (m + n) % 2 = 1 ∧ (Int.gcd m n : Int) = 1 := by
  unfold lgOk
  rw [Bool.and_eq_true, Bool.and_eq_true, decide_eq_true_iff, decide_eq_true_iff, decide_eq_true_iff, and_assoc]
/-! ### longest_of -/
def sp_longest_of (K : PySem.W.Frag) : Sp := fun vs H Q _ => ∃ N : Int, vs = [.int N] ∧ 1 ≤ N ∧ N ≤ 2000000 ∧ ∀ H' p ys, Same H H' → H' p = some (.lst ys) → H p = none → TrS K H' ys (srt (lgL N)) → Q (.ref p) H'
theorem ok_longest_of (B : Bt mg) (D : Is K mg "longest_of" s_longest_of ["number"]) (H_root_of : Has P w K mg base 33 "root_of" ["number"] sp_root_of) (H_common : Has P w K mg base 1 "common" ["one", "other"] sp_common) (H_triple_by : Has P w K mg base 1 "triple_by" ["pair"] (sp_triple_by K)) :
    Has P w K mg base 34 "longest_of" ["number"] (sp_longest_of K) := by
  obtain ⟨f, fd, F, b, g⟩ := D
  obtain ⟨f_root_of, fd_root_of, G_root_of, k_root_of, b_root_of, g_root_of⟩ := H_root_of
  obtain ⟨f_common, fd_common, G_common, k_common, b_common, g_common⟩ := H_common
  obtain ⟨f_triple_by, fd_triple_by, G_triple_by, k_triple_by, b_triple_by, g_triple_by⟩ := H_triple_by
  refine ⟨f, fd, F.ok sc_longest_of (fun vs H Q E h => ?_) (fun cdv A outer s H vs Q E hr h => ?_), F.kp, b, g⟩
  · obtain ⟨N, rfl, _⟩ := h
    rfl
  · obtain ⟨N, rfl, h1, h2, q⟩ := h
    refine ⟨_, (pss_cons (ps_set (i := 1) sc_longest_of.nd rfl (Or.inl rfl) (pe_lst pa_nil)) (pss_cons (ps_set (i := 2) sc_longest_of.nd rfl (Or.inl rfl) pe_int) (pss_cons (ps_set (i := 3) sc_longest_of.nd rfl (Or.inl rfl) (pe_call G_root_of (hr.mono (by decide)) (by rfl) g_root_of k_root_of b_root_of .nil pass0 (pa_cons (pv 0) pa_nil))) (pss_cons (ps_while PassesOwn.never (pt_cmpR op_lt (pe_op op_mulX (pe_op op_mul pe_int (pv 2)) (pv 2)) (pv 0) (nomark _)) (pss_cons (ps_while PassesOwn.never (pt_cmpR op_gt (pe_op op_add (pe_op op_mulX (pv 3) (pv 3)) (pe_op op_mulX (pv 2) (pv 2))) (pv 0) (nomark _)) (pss_one (ps_aug (i := 3) sc_longest_of.nd rfl (Or.inl rfl) pe_int ip_sub))) (pss_cons (ps_if (PW.pt (pw_and (pt_cmpR op_eq (pe_op op_add (pe_op op_mulX (pv 3) (pv 3)) (pe_op op_mulX (pv 2) (pv 2))) (pv 0) (nomark _)) (pw_and (pt_cmpR op_eq (pe_op op_mod (pe_op op_add (pv 3) (pv 2)) pe_int) pe_int (nomark _)) (pw_and1 (pt_cmpR op_eq (pe_call G_common (hr.mono (by decide)) (by rfl) g_common k_common b_common .nil pass0 (pa_cons (pv 3) (pa_cons (pv 2) pa_nil))) pe_int (nomark _)))))) (pss_one (ps_expr (pe_bm PySem.F.plainAttrs_list PySem.F.slot_list_append PySem.F.type_list_append mt_append (pv 1) (pa_cons (pe_call G_triple_by (hr.mono (by decide)) (by rfl) g_triple_by k_triple_by b_triple_by .nil pass0 (pa_cons (pe_tup (pa_cons (pv 3) (pa_cons (pv 2) pa_nil))) pa_nil)) pa_nil)))) pss_nil) (pss_one (ps_aug (i := 2) sc_longest_of.nd rfl (Or.inl rfl) pe_int ip_add))))) (pss_one (ps_ret (pe_callB cr_sortedT (by rfl) B.sorted (by decide +kernel) (pa_cons (pv 1) pa_nil)))))))), ?_⟩
    refine ⟨Nat.zero_le _, fun fo nfo => ⟨_, rfl, N, rfl, by omega, (bds (by omega)).mono (by decide), fun r r0 r1 r2 => ?_⟩⟩
    have er : rti N = r := rti_uniq r0 r1 r2
    subst er
    have hs := rti_small (N := N) (by omega) h2
    refine ⟨fun k σ H' => ∃ (xs : List V) (n : Nat) (m : Int), σ = [some (.int N), some (.ref fo), some (.int (n + 1 : Nat)), some (.int m)] ∧ k = (N - n).toNat ∧ FoundAt K H H' fo xs (upto (lgAt N) n) ∧ (∀ i : Int, 0 ≤ i → i ≤ n → i = 0 ∨ 2 * i * i < N) ∧ (n : Int) ≤ 2000 ∧ rti (N - (n + 1 : Nat) * (n + 1 : Nat)) ≤ m ∧ 0 ≤ m ∧ m ≤ 2000, ⟨_, [], 0, rti N, rfl, rfl, .start nfo, fun i a b => .inl (by omega), by decide, rti_mono' (by show N - 1 * 1 ≤ N; omega), rti_pos N, hs⟩, ?_⟩
    rintro k σ H' ⟨xs, n, m, rfl, rfl, fa, up, hn, hr1, hm, hm2⟩
    refine ⟨_, rfl, _, _, rfl, rfl, .inl ⟨by decide, by decide⟩, _, rfl, _, _, rfl, rfl, mxs (by omega), _, rfl, _, _, rfl, rfl, _, rfl, if_b (fun c => ?_) (fun c => ?_)⟩
    · have c := of_decide_eq_true c
      have e2 : 2 * ((n + 1 : Nat) : Int) * (n + 1 : Nat) = 2 * (((n + 1 : Nat) : Int) * (n + 1 : Nat)) := by grind
      have sp := sq_pos ((n + 1 : Nat) : Int)
      have h0 : 0 ≤ N - ((n + 1 : Nat) : Int) * (n + 1 : Nat) := by omega
      have hn2 : ((n + 1 : Nat) : Int) ≤ 1000 := by
        by_cases z : ((n + 1 : Nat) : Int) ≤ 1000
        · exact z
        · have := sq_mono (a := 1001) (b := ((n + 1 : Nat) : Int)) (by decide) (by omega)
          omega
      generalize hd : ((n + 1 : Nat) : Int) = d at *
      refine ⟨fun σ' H2 => ∃ k', k' < (N - n).toNat ∧ ∃ (xs : List V) (n : Nat) (m : Int), σ' = [some (.int N), some (.ref fo), some (.int (n + 1 : Nat)), some (.int m)] ∧ k' = (N - n).toNat ∧ FoundAt K H H2 fo xs (upto (lgAt N) n) ∧ (∀ i : Int, 0 ≤ i → i ≤ n → i = 0 ∨ 2 * i * i < N) ∧ (n : Int) ≤ 2000 ∧ rti (N - (n + 1 : Nat) * (n + 1 : Nat)) ≤ m ∧ 0 ≤ m ∧ m ≤ 2000, fun _ _ h => h, ?_⟩
      -- while m * m + n * n > number: m -= 1
      refine ⟨fun k2 σ H2 => ∃ m : Int, σ = [some (.int N), some (.ref fo), some (.int d), some (.int m)] ∧ k2 = m.toNat ∧ H2 = H' ∧ rti (N - d * d) ≤ m ∧ 0 ≤ m ∧ m ≤ 2000, ⟨_, m, rfl, rfl, rfl, hr1, hm, hm2⟩, ?_⟩
      clear hr1 hm hm2
      rintro k2 σ H2 ⟨m, rfl, rfl, rfl, hr1, hm, hm2⟩
      refine ⟨_, rfl, _, rfl, _, _, rfl, rfl, mxs (by omega), _, rfl, _, rfl, _, _, rfl, rfl, mxs (by omega), _, _, rfl, rfl, _, rfl, _, _, rfl, rfl, _, rfl, if_b (fun c2 => ?_) (fun c2 => ?_)⟩
      · have c2 := of_decide_eq_true c2
        have d1 := down_m hm hr1 h0 c2
        have := rti_pos (N - d * d)
        exact ⟨fun σ' H3 => ∃ k3, k3 < m.toNat ∧ ∃ m1 : Int, σ' = [some (.int N), some (.ref fo), some (.int d), some (.int m1)] ∧ k3 = m1.toNat ∧ H3 = H2 ∧ rti (N - d * d) ≤ m1 ∧ 0 ≤ m1 ∧ m1 ≤ 2000, fun _ _ h => h, _, rfl, _, _, rfl, rfl, (m - 1).toNat, by omega, m - 1, rfl, rfl, rfl, d1, by omega, by omega⟩
      · have c2 := of_decide_eq_false c2
        have em := stop_m hr1 h0 c2
        have next : ∀ (H4 : Hp) (ys : List V), FoundAt K H H4 fo ys (upto (lgAt N) n ++ lgAt N d) → ∃ k', k' < (N - n).toNat ∧ ∃ (xs : List V) (n : Nat) (m2 : Int), [some (V.int N), some (.ref fo), some (.int (d + 1)), some (.int m)] = [some (V.int N), some (.ref fo), some (.int (n + 1 : Nat)), some (.int m2)] ∧ k' = (N - n).toNat ∧ FoundAt K H H4 fo xs (upto (lgAt N) n) ∧ (∀ i : Int, 0 ≤ i → i ≤ n → i = 0 ∨ 2 * i * i < N) ∧ (n : Int) ≤ 2000 ∧ rti (N - (n + 1 : Nat) * (n + 1 : Nat)) ≤ m2 ∧ 0 ≤ m2 ∧ m2 ≤ 2000 := fun H4 ys fa4 => by
          refine ⟨_, ?_, ys, n + 1, m, by rw [← hd]; rfl, rfl, by rw [upto, hd]; exact fa4, fun i i0 i1 => ?_, by omega, ?_, hm, hm2⟩
          · have : d ≤ d * d := by
              have := Int.mul_le_mul_of_nonneg_right (a := 1) (b := d) (c := d) (by omega) (by omega)
              omega
            omega
          · by_cases z : i ≤ n
            · exact up i i0 z
            · have : i = d := by omega
              rw [this]
              exact .inr c
          · refine Int.le_trans (rti_mono' ?_) hr1
            have := sq_mono (a := d) (b := ((n + 1 + 1 : Nat) : Int)) (by omega) (by omega)
            omega
        have skip : ¬ (m * m + d * d = N ∧ (m + d) % 2 = 1 ∧ (Int.gcd m d : Int) = 1) → lgAt N d = [] := fun z => by
          unfold lgAt
          rw [← em]
          refine if_neg fun y => ?_
          rw [Bool.and_eq_true] at y
          exact z (lgOk_iff.mp y.2)
        have fin : lgAt N d = [] → FoundAt K H H2 fo xs (upto (lgAt N) n ++ lgAt N d) := fun z => by
          rw [z, List.append_nil]
          exact fa
        refine ⟨_, rfl, _, rfl, _, _, rfl, rfl, mxs (by omega), _, rfl, _, rfl, _, _, rfl, rfl, mxs (by omega), _, _, rfl, rfl, _, rfl, rfl, _, rfl, ?_⟩
        rw [dec_vint]
        refine if_b (fun c3 => ?_) (fun c3 => iteF ⟨_, rfl, _, _, rfl, rfl, next _ _ (fin (skip fun z => of_decide_eq_false c3 z.1))⟩)
        have c3 := of_decide_eq_true c3
        refine ⟨_, rfl, _, rfl, _, _, rfl, rfl, _, _, rfl, rfl, (by decide : (0 : Int) < 2), rfl, _, rfl, ?_⟩
        rw [dec_vint]
        refine if_b (fun c4 => ?_) (fun c4 => iteF ⟨_, rfl, _, _, rfl, rfl, next _ _ (fin (skip fun z => of_decide_eq_false c4 z.2.1))⟩)
        have c4 := of_decide_eq_true c4
        refine ⟨_, rfl, _, rfl, m, d, rfl, hm, by omega, rfl, _, rfl, ?_⟩
        rw [dec_vint]
        refine if_b (fun c5 => ?_) (fun c5 => ⟨_, rfl, _, _, rfl, rfl, next _ _ (fin (skip fun z => of_decide_eq_false c5 z.2.2))⟩)
        have c5 := of_decide_eq_true c5
        have lt : d < m := by
          refine lt_of_sq hm ?_
          omega
        have eA : lgAt N d = [tri (m, d)] := by
          unfold lgAt
          rw [← em, lgOk_iff.mpr ⟨c3, c4, c5⟩, decide_eq_true lt]
          rfl
        refine ⟨_, rfl, .inl ⟨rfl, _, SqL.of fa.lst⟩, _, rfl, _, rfl, len2, fun t ht => ?_⟩
        refine ⟨t, (m, d), rfl, SqT.of upd_same, bds (by dsimp only; omega), bds (by dsimp only; omega), fun H5 ta s5 hta => ?_⟩
        have fa5 := fa.on ((same_upd (o := .tup [.int m, .int d]) ht).trans s5)
        have len := fa.trs.len
        have len2 := upto_len (f := lgAt N) (c := 1) (lgAt_len N) n
        refine ⟨fo, _, _, rfl, rfl, fa5.lst, by rw [sizeLine_eq]; omega, ?_⟩
        exact ⟨_, rfl, _, _, rfl, rfl, next _ _ (by rw [eA]; exact fa5.add hta)⟩
    · have c := of_decide_eq_false c
      have ef := lgL_upto (N := N) (k := n) (by omega) up (by omega)
      refine ⟨_, rfl, fo, xs, _, rfl, SqL.of fa.lst, fa.trs, fun ys p ht hp => ?_⟩
      rw [ef] at ht
      have np := fa.same.free hp
      exact q _ p ys (same_new np fa.same) upd_same np (ht.same (same_upd hp))
end
end SqP

namespace SqP
open PySem PySem.Spec PyProof.Rows L2 Sq
section
variable {P : Program} {w : World} {K : PySem.W.Frag} {mg : Str → Option Value} {base : Heap}
theorem found_end {H H' : Hp} {fo : Addr} {xs : List V} {L : List Tr} {Q : VK} (fa : FoundAt K H H' fo xs L) (q : ∀ H' p ys, Same H H' → H' p = some (.lst ys) → H p = none → TrS K H' ys (srt L) → Q (.ref p) H') : rSortedT K [.ref fo] H' Q := by
  refine ⟨fo, xs, L, rfl, SqL.of fa.lst, fa.trs, fun ys p ht hp => q _ p ys (same_new (fa.same.free hp) fa.same) upd_same (fa.same.free hp) (ht.same (same_upd hp))⟩
theorem leA_yes {N p : Int} (h1 : N % p = 0) (h2 : p < N / p) (h3 : (Int.gcd p (N / p) : Int) = 1) (h4 : N % 2 = 1) : leA N p = [tri ((N / p + p) / 2, (N / p - p) / 2)] := by
  unfold leA
  rw [decide_eq_true h1, decide_eq_true h2, decide_eq_true h3, decide_eq_true h4]
  rfl
theorem leA_no {N p : Int} (z : ¬ (N % p = 0 ∧ p < N / p ∧ (Int.gcd p (N / p) : Int) = 1 ∧ N % 2 = 1)) : leA N p = [] := by
  refine if_neg fun c => ?_
  rw [Bool.and_eq_true, Bool.and_eq_true, Bool.and_eq_true] at c
  exact z ⟨of_decide_eq_true c.1.1.1, of_decide_eq_true c.1.1.2, of_decide_eq_true c.1.2, of_decide_eq_true c.2⟩
theorem leB_yes {N p : Int} (h1 : N % 4 = 0) (h2 : N / 2 % p = 0) (h3 : p < N / 2 / p) (h4 : (Int.gcd p (N / 2 / p) : Int) = 1) : leB N p = [tri (N / 2 / p, p)] := by
  unfold leB
  rw [decide_eq_true h1, decide_eq_true h2, decide_eq_true h3, decide_eq_true h4]
  rfl
theorem leB_no {N p : Int} (z : ¬ (N % 4 = 0 ∧ N / 2 % p = 0 ∧ p < N / 2 / p ∧ (Int.gcd p (N / 2 / p) : Int) = 1)) : leB N p = [] := by
  refine if_neg fun c => ?_
  rw [Bool.and_eq_true, Bool.and_eq_true, Bool.and_eq_true] at c
  exact z ⟨of_decide_eq_true c.1.1.1, of_decide_eq_true c.1.1.2, of_decide_eq_true c.1.2, of_decide_eq_true c.2⟩
theorem div_rng {N p : Int} (h0 : 0 ≤ N) (hp : 0 < p) : 0 ≤ N / p ∧ N / p ≤ N := ⟨Int.ediv_nonneg h0 (by omega), Int.ediv_le_self p h0⟩
/-! ### legs_of -/
def sp_legs_of (K : PySem.W.Frag) : Sp := fun vs H Q _ => ∃ N : Int, vs = [.int N] ∧ 1 ≤ N ∧ N ≤ 2000000 ∧ ∀ H' p ys, Same H H' → H' p = some (.lst ys) → H p = none → TrS K H' ys (srt (leL N)) → Q (.ref p) H'
theorem ok_legs_of (B : Bt mg) (hN : base.NoSeer) (ht : P.given.tree = none) (D : Is K mg "legs_of" s_legs_of ["number"]) (H_common : Has P w K mg base 1 "common" ["one", "other"] sp_common) (H_triple_by : Has P w K mg base 1 "triple_by" ["pair"] (sp_triple_by K)) :
    Has P w K mg base 33 "legs_of" ["number"] (sp_legs_of K) := by
  obtain ⟨f, fd, F, b, g⟩ := D
  obtain ⟨f_common, fd_common, G_common, k_common, b_common, g_common⟩ := H_common
  obtain ⟨f_triple_by, fd_triple_by, G_triple_by, k_triple_by, b_triple_by, g_triple_by⟩ := H_triple_by
  refine ⟨f, fd, F.ok sc_legs_of (fun vs H Q E h => ?_) (fun cdv A outer s H vs Q E hr h => ?_), F.kp, b, g⟩
  · obtain ⟨N, rfl, _⟩ := h
    rfl
  · obtain ⟨N, rfl, h1, h2, q⟩ := h
    have hd : (A.deeper (envOfC "legs_of" (defScope s_legs_of) s.heap.objs.size f cdv)).depth + 100 < recursionLimit := by
      have := hr.dp
      omega
    refine ⟨_, (pss_cons (ps_set (i := 1) sc_legs_of.nd rfl (Or.inl rfl) (pe_lst pa_nil)) (pss_cons (ps_set (i := 2) sc_legs_of.nd rfl (Or.inl rfl) pe_int) (pss_cons (ps_while PassesOwn.never (pt_cmpR op_lt (pe_op op_mulX (pv 2) (pv 2)) (pv 0) (nomark _)) (pss_cons (ps_if (PW.pt (pw_and (pt_cmpR op_eq (pe_op op_mod (pv 0) (pv 2)) pe_int (nomark _)) (pw_and (pt_cmpR op_eq (pe_call G_common (hr.mono (by decide)) (by rfl) g_common k_common b_common .nil pass0 (pa_cons (pv 2) (pa_cons (pe_op (op_fdivP (l := outer) hN ht rfl rfl rfl hd) (pv 0) (pv 2)) pa_nil))) pe_int (nomark _)) (pw_and1 (pt_cmpR op_eq (pe_op op_mod (pv 0) pe_int) pe_int (nomark _)))))) (pss_one (ps_expr (pe_bm PySem.F.plainAttrs_list PySem.F.slot_list_append PySem.F.type_list_append mt_append (pv 1) (pa_cons (pe_call G_triple_by (hr.mono (by decide)) (by rfl) g_triple_by k_triple_by b_triple_by .nil pass0 (pa_cons (pe_tup (pa_cons (pe_op op_fdiv (pe_op op_add (pe_op (op_fdivP (l := outer) hN ht rfl rfl rfl hd) (pv 0) (pv 2)) (pv 2)) pe_int) (pa_cons (pe_op op_fdiv (pe_op op_sub (pe_op (op_fdivP (l := outer) hN ht rfl rfl rfl hd) (pv 0) (pv 2)) (pv 2)) pe_int) pa_nil))) pa_nil)) pa_nil)))) pss_nil) (pss_one (ps_aug (i := 2) sc_legs_of.nd rfl (Or.inl rfl) pe_int ip_add)))) (pss_cons (ps_set (i := 3) sc_legs_of.nd rfl (Or.inl rfl) (pe_op op_fdiv (pv 0) pe_int)) (pss_cons (ps_set (i := 2) sc_legs_of.nd rfl (Or.inl rfl) pe_int) (pss_cons (ps_while PassesOwn.never (PW.pt (pw_and (pt_cmpR op_lt (pe_op op_mulX (pv 2) (pv 2)) (pv 3) (nomark _)) (pw_and1 (pt_cmpR op_eq (pe_op op_mod (pv 0) pe_int) pe_int (nomark _))))) (pss_cons (ps_if (PW.pt (pw_and (pt_cmpR op_eq (pe_op op_mod (pv 3) (pv 2)) pe_int (nomark _)) (pw_and1 (pt_cmpR op_eq (pe_call G_common (hr.mono (by decide)) (by rfl) g_common k_common b_common .nil pass0 (pa_cons (pv 2) (pa_cons (pe_op (op_fdivP (l := outer) hN ht rfl rfl rfl hd) (pv 3) (pv 2)) pa_nil))) pe_int (nomark _))))) (pss_one (ps_expr (pe_bm PySem.F.plainAttrs_list PySem.F.slot_list_append PySem.F.type_list_append mt_append (pv 1) (pa_cons (pe_call G_triple_by (hr.mono (by decide)) (by rfl) g_triple_by k_triple_by b_triple_by .nil pass0 (pa_cons (pe_tup (pa_cons (pe_op (op_fdivP (l := outer) hN ht rfl rfl rfl hd) (pv 3) (pv 2)) (pa_cons (pv 2) pa_nil))) pa_nil)) pa_nil)))) pss_nil) (pss_one (ps_aug (i := 2) sc_legs_of.nd rfl (Or.inl rfl) pe_int ip_add)))) (pss_one (ps_ret (pe_callB cr_sortedT (by rfl) B.sorted (by decide +kernel) (pa_cons (pv 1) pa_nil)))))))))), ?_⟩
    have hs := rti_small (N := N) (by omega) h2
    refine ⟨Nat.zero_le _, fun fo nfo => ?_⟩
    refine ⟨fun k σ H' => ∃ (xs : List V) (n : Nat), σ = [some (.int N), some (.ref fo), some (.int (n + 1 : Nat)), none] ∧ k = (2001 - n : Int).toNat ∧ FoundAt K H H' fo xs (upto (leA N) n) ∧ ((n : Int) = 0 ∨ (n : Int) * n < N) ∧ (n : Int) ≤ 2000, ⟨_, [], 0, rfl, rfl, .start nfo, .inl rfl, by decide⟩, ?_⟩
    rintro k σ H' ⟨xs, n, rfl, rfl, fa, up, hn⟩
    refine ⟨_, rfl, _, rfl, _, _, rfl, rfl, mxs (by omega), _, rfl, _, _, rfl, rfl, _, rfl, if_b (fun c => ?_) (fun c => ?_)⟩
    · have c := of_decide_eq_true c
      have hn2 : ((n + 1 : Nat) : Int) ≤ 2000 := by
        have := le_rti (a := ((n + 1 : Nat) : Int)) (n := N) (by omega) (by omega)
        omega
      generalize hd : ((n + 1 : Nat) : Int) = d at *
      have d0 : 0 < d := by omega
      obtain ⟨o1, o2⟩ := div_rng (N := N) (p := d) (by omega) d0
      refine ⟨fun σ' H2 => ∃ k', k' < (2001 - n : Int).toNat ∧ ∃ (xs : List V) (n : Nat), σ' = [some (.int N), some (.ref fo), some (.int (n + 1 : Nat)), none] ∧ k' = (2001 - n : Int).toNat ∧ FoundAt K H H2 fo xs (upto (leA N) n) ∧ ((n : Int) = 0 ∨ (n : Int) * n < N) ∧ (n : Int) ≤ 2000, fun _ _ h => h, ?_⟩
      have next : ∀ (H4 : Hp) (ys : List V), FoundAt K H H4 fo ys (upto (leA N) n ++ leA N d) → ∃ k', k' < (2001 - n : Int).toNat ∧ ∃ (xs : List V) (n : Nat), [some (V.int N), some (.ref fo), some (.int (d + 1)), none] = [some (V.int N), some (.ref fo), some (.int (n + 1 : Nat)), none] ∧ k' = (2001 - n : Int).toNat ∧ FoundAt K H H4 fo xs (upto (leA N) n) ∧ ((n : Int) = 0 ∨ (n : Int) * n < N) ∧ (n : Int) ≤ 2000 := fun H4 ys fa4 =>
        ⟨_, by omega, ys, n + 1, by rw [← hd]; rfl, rfl, by rw [upto, hd]; exact fa4, .inr (by rw [hd]; exact c), by omega⟩
      have fin : leA N d = [] → FoundAt K H H' fo xs (upto (leA N) n ++ leA N d) := fun z => by
        rw [z, List.append_nil]
        exact fa
      refine ⟨_, rfl, _, rfl, _, _, rfl, rfl, d0, rfl, _, rfl, ?_⟩
      rw [dec_vint]
      refine if_b (fun c3 => ?_) (fun c3 => iteF ⟨_, rfl, _, _, rfl, rfl, next _ _ (fin (leA_no fun z => of_decide_eq_false c3 z.1))⟩)
      have c3 := of_decide_eq_true c3
      refine ⟨_, rfl, _, rfl, _, rfl, _, _, rfl, rfl, d0, d, N / d, rfl, by omega, o1, rfl, _, rfl, ?_⟩
      rw [dec_vint]
      refine if_b (fun c4 => ?_) (fun c4 => iteF ⟨_, rfl, _, _, rfl, rfl, next _ _ (fin (leA_no fun z => of_decide_eq_false c4 z.2.2.1))⟩)
      have c4 := of_decide_eq_true c4
      refine ⟨_, rfl, _, _, rfl, rfl, (by decide : (0 : Int) < 2), rfl, _, rfl, ?_⟩
      rw [dec_vint]
      refine if_b (fun c5 => ?_) (fun c5 => ⟨_, rfl, _, _, rfl, rfl, next _ _ (fin (leA_no fun z => of_decide_eq_false c5 z.2.2.2))⟩)
      have c5 := of_decide_eq_true c5
      have eA := leA_yes c3 ((part_lt d0 c3).mpr c) c4 c5
      refine ⟨_, rfl, .inl ⟨rfl, _, SqL.of fa.lst⟩, _, rfl, _, rfl, _, _, rfl, rfl, d0, _, rfl, _, _, rfl, rfl, _, _, rfl, rfl, ⟨by decide, by decide⟩, _, rfl, _, rfl, _, _, rfl, rfl, d0, _, rfl, _, _, rfl, rfl, _, _, rfl, rfl, ⟨by decide, by decide⟩, len2, fun t ht => ?_⟩
      refine ⟨t, ((N / d + d) / 2, (N / d - d) / 2), rfl, SqT.of upd_same, bds (by dsimp only; omega), bds (by dsimp only; omega), fun H5 ta s5 hta => ?_⟩
      have fa5 := fa.on ((same_upd (o := .tup [.int ((N / d + d) / 2), .int ((N / d - d) / 2)]) ht).trans s5)
      have len := fa.trs.len
      have len2 := upto_len (f := leA N) (c := 1) (leA_len N) n
      refine ⟨fo, _, _, rfl, rfl, fa5.lst, by rw [sizeLine_eq]; omega, ?_⟩
      exact ⟨_, rfl, _, _, rfl, rfl, next _ _ (by rw [eA]; exact fa5.add hta)⟩
    · have c := of_decide_eq_false c
      have ef := upto_leA (N := N) (k := n) (by omega) up (by omega)
      rw [ef] at fa
      clear ef up c hn
      refine ⟨_, rfl, _, _, rfl, rfl, ⟨by decide, by decide⟩, ?_⟩
      have hh : 0 ≤ N / 2 ∧ N / 2 ≤ N := by omega
      generalize eh : N / 2 = h at *
      refine ⟨fun k σ H' => ∃ (xs : List V) (n : Nat), σ = [some (.int N), some (.ref fo), some (.int (n + 1 : Nat)), some (.int h)] ∧ k = (2001 - n : Int).toNat ∧ FoundAt K H H' fo xs (upto (leA N) (rti N).toNat ++ upto (leB N) n) ∧ ((n : Int) = 0 ∨ (n : Int) * n < h) ∧ (n : Int) ≤ 2000, ⟨_, xs, 0, by rw [← eh]; rfl, rfl, by rw [upto, List.append_nil]; exact fa, .inl rfl, by decide⟩, ?_⟩
      clear fa
      rintro k σ H' ⟨xs, n, rfl, rfl, fa, up, hn⟩
      have out : (N % 4 = 0 → h ≤ ((n + 1 : Nat) : Int) * (n + 1 : Nat)) → rSortedT K [.ref fo] H' Q := fun z => by
        refine found_end fa ?_
        rw [upto_leB (N := N) (k := n) (by omega) (by rw [eh]; exact up) (by rw [eh]; exact z), leL_eq]
        exact q
      refine ⟨_, rfl, _, rfl, _, _, rfl, rfl, mxs (by omega), _, rfl, _, _, rfl, rfl, _, rfl, if_b (fun c => ?_) (fun c => iteF ⟨_, rfl, out fun _ => by have := of_decide_eq_false c; omega⟩)⟩
      have c := of_decide_eq_true c
      refine ⟨_, rfl, _, _, rfl, rfl, (by decide : (0 : Int) < 4), rfl, _, rfl, ?_⟩
      rw [dec_vint]
      refine if_b (fun c2 => ?_) (fun c2 => ⟨_, rfl, out fun z => absurd z (of_decide_eq_false c2)⟩)
      have c2 := of_decide_eq_true c2
      have hn2 : ((n + 1 : Nat) : Int) ≤ 2000 := by
        have := le_rti (a := ((n + 1 : Nat) : Int)) (n := N) (by omega) (by omega)
        omega
      clear out
      generalize hd : ((n + 1 : Nat) : Int) = d at *
      have d0 : 0 < d := by omega
      obtain ⟨o1, o2⟩ := div_rng (N := h) (p := d) (by omega) d0
      refine ⟨fun σ' H2 => ∃ k', k' < (2001 - n : Int).toNat ∧ ∃ (xs : List V) (n : Nat), σ' = [some (.int N), some (.ref fo), some (.int (n + 1 : Nat)), some (.int h)] ∧ k' = (2001 - n : Int).toNat ∧ FoundAt K H H2 fo xs (upto (leA N) (rti N).toNat ++ upto (leB N) n) ∧ ((n : Int) = 0 ∨ (n : Int) * n < h) ∧ (n : Int) ≤ 2000, fun _ _ h => h, ?_⟩
      have next : ∀ (H4 : Hp) (ys : List V), FoundAt K H H4 fo ys (upto (leA N) (rti N).toNat ++ upto (leB N) n ++ leB N d) → ∃ k', k' < (2001 - n : Int).toNat ∧ ∃ (xs : List V) (n : Nat), [some (V.int N), some (.ref fo), some (.int (d + 1)), some (.int h)] = [some (V.int N), some (.ref fo), some (.int (n + 1 : Nat)), some (.int h)] ∧ k' = (2001 - n : Int).toNat ∧ FoundAt K H H4 fo xs (upto (leA N) (rti N).toNat ++ upto (leB N) n) ∧ ((n : Int) = 0 ∨ (n : Int) * n < h) ∧ (n : Int) ≤ 2000 := fun H4 ys fa4 =>
        ⟨_, by omega, ys, n + 1, by rw [← hd]; rfl, rfl, by rw [upto, hd, ← List.append_assoc]; exact fa4, .inr (by rw [hd]; exact c), by omega⟩
      have fin : leB N d = [] → FoundAt K H H' fo xs (upto (leA N) (rti N).toNat ++ upto (leB N) n ++ leB N d) := fun z => by
        rw [z, List.append_nil]
        exact fa
      refine ⟨_, rfl, _, rfl, _, _, rfl, rfl, d0, rfl, _, rfl, ?_⟩
      rw [dec_vint]
      refine if_b (fun c3 => ?_) (fun c3 => iteF ⟨_, rfl, _, _, rfl, rfl, next _ _ (fin (leB_no fun z => of_decide_eq_false c3 (by rw [← eh]; exact z.2.1)))⟩)
      have c3 := of_decide_eq_true c3
      refine ⟨_, rfl, _, rfl, _, rfl, _, _, rfl, rfl, d0, d, h / d, rfl, by omega, o1, rfl, _, rfl, ?_⟩
      rw [dec_vint]
      refine if_b (fun c4 => ?_) (fun c4 => ⟨_, rfl, _, _, rfl, rfl, next _ _ (fin (leB_no fun z => of_decide_eq_false c4 (by rw [← eh]; exact z.2.2.2)))⟩)
      have c4 := of_decide_eq_true c4
      have eA := leB_yes (N := N) (p := d) c2 (by rw [eh]; exact c3) (by rw [eh]; exact (part_lt d0 c3).mpr c) (by rw [eh]; exact c4)
      rw [eh] at eA
      refine ⟨_, rfl, .inl ⟨rfl, _, SqL.of fa.lst⟩, _, rfl, _, rfl, _, _, rfl, rfl, d0, _, rfl, len2, fun t ht => ?_⟩
      refine ⟨t, (h / d, d), rfl, SqT.of upd_same, bds (by dsimp only; omega), bds (by dsimp only; omega), fun H5 ta s5 hta => ?_⟩
      have fa5 := fa.on ((same_upd (o := .tup [.int (h / d), .int d]) ht).trans s5)
      have len := fa.trs.len
      have l1 := upto_len (f := leB N) (c := 1) (leB_len N) n
      have l2 := upto_len (f := leA N) (c := 1) (leA_len N) (rti N).toNat
      rw [List.length_append] at len
      refine ⟨fo, _, _, rfl, rfl, fa5.lst, by rw [sizeLine_eq]; omega, ?_⟩
      exact ⟨_, rfl, _, _, rfl, rfl, next _ _ (by rw [eA]; exact fa5.add hta)⟩
/-! ### _law_root -/
def sp_law_root : Sp := fun vs H Q _ => ∃ N : Int, vs = [.int N] ∧ 0 ≤ N ∧ N ≤ 2000000 ∧ ∀ H', Same H H' → Q (.int (rti N)) H'
theorem ok__law_root (D : Is K mg "_law_root" s__law_root ["_law_number_here"]) : Has P w K mg base 1 "_law_root" ["_law_number_here"] sp_law_root := by
  obtain ⟨f, fd, F, b, g⟩ := D
  refine ⟨f, fd, F.ok sc__law_root (fun vs H Q E h => ?_) (fun cdv A outer s H vs Q E hr h => ?_), F.kp, b, g⟩
  · obtain ⟨N, rfl, _⟩ := h
    rfl
  · obtain ⟨N, rfl, h1, h2, q⟩ := h
    refine ⟨_, (pss_cons (ps_asg (pe_tup (pa_cons pe_int (pa_cons pe_int pa_nil))) (pg_tup rfl (pgs_cons (pg_name (i := 1) sc__law_root.nd rfl (Or.inl rfl)) (pgs_cons (pg_name (i := 2) sc__law_root.nd rfl (Or.inl rfl)) pgs_nil)))) (pss_cons (ps_while PassesOwn.never (pt_cmpR op_le (pe_op op_mulX (pv 2) (pv 2)) (pv 0) (nomark _)) (pss_one (ps_set (i := 2) sc__law_root.nd rfl (Or.inl rfl) (pe_op op_mul pe_int (pv 2))))) (pss_cons (ps_while PassesOwn.never (pt_cmpR op_gt (pe_op op_sub (pv 2) (pv 1)) pe_int (nomark _)) (pss_cons (ps_set (i := 3) sc__law_root.nd rfl (Or.inl rfl) (pe_op op_fdiv (pe_op op_add (pv 1) (pv 2)) pe_int)) (pss_one (ps_asg (pe_ifExp (pt_cmpR op_le (pe_op op_mulX (pv 3) (pv 3)) (pv 0) (nomark _)) (pe_tup (pa_cons (pv 3) (pa_cons (pv 2) pa_nil))) (pe_tup (pa_cons (pv 1) (pa_cons (pv 3) pa_nil)))) (pg_tup rfl (pgs_cons (pg_name (i := 1) sc__law_root.nd rfl (Or.inl rfl)) (pgs_cons (pg_name (i := 2) sc__law_root.nd rfl (Or.inl rfl)) pgs_nil))))))) (pss_one (ps_ret (pv 1)))))), ?_⟩
    have hs := rti_small (N := N) (by omega) h2
    refine ⟨len2, fun tt htt => ⟨_, _, rfl, SqT.of upd_same, rfl, _, _, rfl, _, _, rfl, rfl, ?_⟩⟩
    have s0 := same_upd (o := .tup [.int 0, .int 1]) htt
    generalize upd H tt (.tup [.int 0, .int 1]) = H0 at *
    refine ⟨fun k σ H' => ∃ hi : Int, σ = [some (.int N), some (.int 0), some (.int hi), none] ∧ k = (4001 - hi).toNat ∧ 1 ≤ hi ∧ hi ≤ 4000 ∧ H' = H0, ⟨_, 1, rfl, rfl, by decide, by decide, rfl⟩, ?_⟩
    rintro k σ H' ⟨hi, rfl, rfl, g1, g2, rfl⟩
    refine ⟨_, rfl, _, rfl, _, _, rfl, rfl, mxs (by omega), _, rfl, _, _, rfl, rfl, _, rfl, if_b (fun c => ?_) (fun c => ?_)⟩
    · have c := of_decide_eq_true c
      have := le_rti h1 c
      exact ⟨fun σ' H2 => ∃ k', k' < (4001 - hi).toNat ∧ ∃ hi : Int, σ' = [some (.int N), some (.int 0), some (.int hi), none] ∧ k' = (4001 - hi).toNat ∧ 1 ≤ hi ∧ hi ≤ 4000 ∧ H2 = H', fun _ _ h => h, _, rfl, _, _, rfl, rfl, .inl ⟨by decide, by decide⟩, (4001 - 2 * hi).toNat, by omega, 2 * hi, rfl, rfl, by omega, by omega, rfl⟩
    · have c := of_decide_eq_false c
      refine ⟨fun k σ H2 => ∃ (lo hi : Int) (x : Option V), σ = [some (.int N), some (.int lo), some (.int hi), x] ∧ k = (hi - lo).toNat ∧ 0 ≤ lo ∧ lo < hi ∧ hi ≤ 4000 ∧ lo * lo ≤ N ∧ N < hi * hi ∧ Same H' H2, ⟨_, 0, hi, none, rfl, rfl, by decide, by omega, g2, by omega, by omega, Same.refl _⟩, ?_⟩
      clear c g1 g2
      rintro k σ H2 ⟨lo, hi, x, rfl, rfl, g1, g2, g3, g4, g5, sm⟩
      refine ⟨_, rfl, _, rfl, _, _, rfl, rfl, _, _, rfl, rfl, _, rfl, if_b (fun c => ?_) (fun c => ?_)⟩
      · have c := of_decide_eq_true c
        refine ⟨fun σ' H3 => ∃ k', k' < (hi - lo).toNat ∧ ∃ (lo hi : Int) (x : Option V), σ' = [some (.int N), some (.int lo), some (.int hi), x] ∧ k' = (hi - lo).toNat ∧ 0 ≤ lo ∧ lo < hi ∧ hi ≤ 4000 ∧ lo * lo ≤ N ∧ N < hi * hi ∧ Same H' H3, fun _ _ h => h, ?_⟩
        refine ⟨_, rfl, _, rfl, _, _, rfl, rfl, _, _, rfl, rfl, ⟨by decide, by decide⟩, ?_⟩
        have hm : lo < (lo + hi) / 2 ∧ (lo + hi) / 2 < hi := by omega
        refine ⟨_, rfl, _, rfl, _, _, rfl, rfl, mxs (by omega), _, rfl, _, _, rfl, rfl, _, rfl, if_b (fun c2 => ?_) (fun c2 => ?_)⟩
        · have c2 := of_decide_eq_true c2
          exact ⟨_, rfl, _, rfl, len2, fun t ht => ⟨_, _, rfl, SqT.of upd_same, rfl, _, _, rfl, _, _, rfl, rfl, (hi - (lo + hi) / 2).toNat, by omega, (lo + hi) / 2, hi, _, rfl, rfl, by omega, by omega, g3, c2, g5, sm.trans (same_upd ht)⟩⟩
        · have c2 := of_decide_eq_false c2
          exact ⟨_, rfl, _, rfl, len2, fun t ht => ⟨_, _, rfl, SqT.of upd_same, rfl, _, _, rfl, _, _, rfl, rfl, ((lo + hi) / 2 - lo).toNat, by omega, lo, (lo + hi) / 2, _, rfl, rfl, by omega, by omega, by omega, g4, Int.not_le.mp c2, sm.trans (same_upd ht)⟩⟩
      · have c := of_decide_eq_false c
        have e : hi = lo + 1 := by omega
        subst e
        refine ⟨_, rfl, ?_⟩
        rw [← rti_uniq g1 g4 g5]
        exact q _ (s0.trans sm)
end
end SqP

namespace SqP
open PySem PySem.Spec PyProof.Rows L2 Sq
section
variable {P : Program} {w : World} {K : PySem.W.Frag} {mg : Str → Option Value} {base : Heap}
/-! ### _law_longest -/
theorem ok__law_longest (B : Bt mg) (D : Is K mg "_law_longest" s__law_longest ["_law_number_here"]) (H__law_root : Has P w K mg base 1 "_law_root" ["_law_number_here"] sp_law_root) (H__law_common : Has P w K mg base 1 "_law_common" ["_law_one", "_law_other"] sp_common) (H__law_triple : Has P w K mg base 1 "_law_triple" ["_law_pair"] (sp_triple_by K)) :
    Has P w K mg base 2 "_law_longest" ["_law_number_here"] (sp_longest_of K) := by
  obtain ⟨f, fd, F, b, g⟩ := D
  obtain ⟨f__law_root, fd__law_root, G__law_root, k__law_root, b__law_root, g__law_root⟩ := H__law_root
  obtain ⟨f__law_common, fd__law_common, G__law_common, k__law_common, b__law_common, g__law_common⟩ := H__law_common
  obtain ⟨f__law_triple, fd__law_triple, G__law_triple, k__law_triple, b__law_triple, g__law_triple⟩ := H__law_triple
  refine ⟨f, fd, F.ok sc__law_longest (fun vs H Q E h => ?_) (fun cdv A outer s H vs Q E hr h => ?_), F.kp, b, g⟩
  · obtain ⟨N, rfl, _⟩ := h
    rfl
  · obtain ⟨N, rfl, h1, h2, q⟩ := h
    refine ⟨_, (pss_cons (ps_par (i := 1) (j := 2) rfl sc__law_longest.nd rfl rfl (by decide) rfl rfl (pa_cons (pe_lst pa_nil) (pa_cons (pe_call G__law_root (hr.mono (by decide)) (by rfl) g__law_root k__law_root b__law_root .nil pass0 (pa_cons (pv 0) pa_nil)) pa_nil)) (by rfl)) (pss_cons (ps_for PassesOwn.never rfl (pi_range2 (by rfl) B.range (pa_cons pe_int (pa_cons (pe_op op_add (pv 2) pe_int) pa_nil))) (pg_name (i := 3) sc__law_longest.nd rfl (Or.inl rfl)) (pss_cons (ps_while PassesOwn.never (pt_cmpR op_gt (pe_op op_add (pe_op op_mulX (pv 2) (pv 2)) (pe_op op_mulX (pv 3) (pv 3))) (pv 0) (nomark _)) (pss_one (ps_set (i := 2) sc__law_longest.nd rfl (Or.inl rfl) (pe_op op_sub (pv 2) pe_int)))) (pss_one (ps_if (PW.pt (pw_and (pt_cmpR op_gt (pv 2) (pv 3) (nomark _)) (pw_and (pt_cmpR op_eq (pe_op op_add (pe_op op_mulX (pv 2) (pv 2)) (pe_op op_mulX (pv 3) (pv 3))) (pv 0) (nomark _)) (pw_and (pt_cmpR op_eq (pe_op op_mod (pe_op op_add (pv 2) (pv 3)) pe_int) pe_int (nomark _)) (pw_and1 (pt_cmpR op_eq (pe_call G__law_common (hr.mono (by decide)) (by rfl) g__law_common k__law_common b__law_common .nil pass0 (pa_cons (pv 2) (pa_cons (pv 3) pa_nil))) pe_int (nomark _))))))) (pss_one (ps_expr (pe_bm PySem.F.plainAttrs_list PySem.F.slot_list_append PySem.F.type_list_append mt_append (pv 1) (pa_cons (pe_call G__law_triple (hr.mono (by decide)) (by rfl) g__law_triple k__law_triple b__law_triple .nil pass0 (pa_cons (pe_tup (pa_cons (pv 2) (pa_cons (pv 3) pa_nil))) pa_nil)) pa_nil)))) pss_nil)))) (pss_one (ps_ret (pe_callB cr_sortedT (by rfl) B.sorted (by decide +kernel) (pa_cons (pv 1) pa_nil)))))), ?_⟩
    have hs := rti_small (N := N) (by omega) h2
    have rp := rti_pos N
    refine ⟨Nat.zero_le _, fun fo nfo => ⟨_, rfl, N, rfl, by omega, h2, fun H1 s1 => ?_⟩⟩
    have fa0 := (FoundAt.start (K := K) nfo).on s1
    refine ⟨_, _, rfl, _, rfl, _, _, rfl, rfl, 1, _, rfl, ⟨by decide, by decide, ?_, ?_⟩, ?_⟩
    · show (-(2 ^ 62) : Int) ≤ rti N + 1
      omega
    · show rti N + 1 < (2 ^ 62 : Int)
      omega
    show ∃ W : Nat → Nat → L2.St → Hp → Prop, _
    refine for_range (lo := 1) (n := (rti N + 1 - 1).toNat) (fun i σ H' => ∃ (xs : List V) (m : Int) (x : Option V), σ = [some (.int N), some (.ref fo), some (.int m), x] ∧ FoundAt K H H' fo xs (upto (lgAt N) i) ∧ rti (N - (i + 1 : Nat) * (i + 1 : Nat)) ≤ m ∧ 0 ≤ m ∧ m ≤ 2000) ⟨[], rti N, none, rfl, fa0, rti_mono' (by show N - 1 * 1 ≤ N; omega), rp, hs⟩ ?_ ?_
    · rintro i σ H' hi ⟨xs, m, x, rfl, fa, hr1, hm, hm2⟩
      have hi2 : ((i + 1 : Nat) : Int) ≤ rti N := by omega
      have e1 : (1 : Int) + (i : Int) = ((i + 1 : Nat) : Int) := by omega
      rw [e1]
      have h0 : 0 ≤ N - ((i + 1 : Nat) : Int) * (i + 1 : Nat) := by
        have a1 := sq_mono (a := ((i + 1 : Nat) : Int)) (b := rti N) (by omega) hi2
        have a2 := rti_le (n := N) (by omega)
        omega
      generalize hd : ((i + 1 : Nat) : Int) = d at *
      refine ⟨fun k2 σ H2 => ∃ m : Int, σ = [some (.int N), some (.ref fo), some (.int m), some (.int d)] ∧ k2 = m.toNat ∧ H2 = H' ∧ rti (N - d * d) ≤ m ∧ 0 ≤ m ∧ m ≤ 2000, ⟨_, m, rfl, rfl, rfl, hr1, hm, hm2⟩, ?_⟩
      clear hr1 hm hm2
      rintro k2 σ H2 ⟨m, rfl, rfl, rfl, hr1, hm, hm2⟩
      refine ⟨_, rfl, _, rfl, _, _, rfl, rfl, mxs (by omega), _, rfl, _, rfl, _, _, rfl, rfl, mxs (by omega), _, _, rfl, rfl, _, rfl, _, _, rfl, rfl, _, rfl, if_b (fun c2 => ?_) (fun c2 => ?_)⟩
      · have c2 := of_decide_eq_true c2
        have d1 := down_m hm hr1 h0 c2
        have := rti_pos (N - d * d)
        exact ⟨fun σ' H3 => ∃ k3, k3 < m.toNat ∧ ∃ m1 : Int, σ' = [some (.int N), some (.ref fo), some (.int m1), some (.int d)] ∧ k3 = m1.toNat ∧ H3 = H2 ∧ rti (N - d * d) ≤ m1 ∧ 0 ≤ m1 ∧ m1 ≤ 2000, fun _ _ h => h, _, rfl, _, _, rfl, rfl, (m - 1).toNat, by omega, m - 1, rfl, rfl, rfl, d1, by omega, by omega⟩
      · have c2 := of_decide_eq_false c2
        have em := stop_m hr1 h0 c2
        have next : ∀ (H4 : Hp) (ys : List V), FoundAt K H H4 fo ys (upto (lgAt N) i ++ lgAt N d) → ∃ (xs : List V) (m2 : Int) (x : Option V), [some (V.int N), some (.ref fo), some (.int m), some (.int d)] = [some (V.int N), some (.ref fo), some (.int m2), x] ∧ FoundAt K H H4 fo xs (upto (lgAt N) (i + 1)) ∧ rti (N - (i + 1 + 1 : Nat) * (i + 1 + 1 : Nat)) ≤ m2 ∧ 0 ≤ m2 ∧ m2 ≤ 2000 := fun H4 ys fa4 => by
          refine ⟨ys, m, _, rfl, by rw [upto, hd]; exact fa4, ?_, hm, hm2⟩
          refine Int.le_trans (rti_mono' ?_) hr1
          have := sq_mono (a := d) (b := ((i + 1 + 1 : Nat) : Int)) (by omega) (by omega)
          omega
        have skip : ¬ (d < m ∧ m * m + d * d = N ∧ (m + d) % 2 = 1 ∧ (Int.gcd m d : Int) = 1) → FoundAt K H H2 fo xs (upto (lgAt N) i ++ lgAt N d) := fun z => by
          have e : lgAt N d = [] := by
            unfold lgAt
            rw [← em]
            refine if_neg fun y => ?_
            rw [Bool.and_eq_true] at y
            exact z ⟨of_decide_eq_true y.1, lgOk_iff.mp y.2⟩
          rw [e, List.append_nil]
          exact fa
        refine ⟨_, rfl, _, rfl, _, _, rfl, rfl, _, rfl, if_b (fun c0 => ?_) (fun c0 => iteF (next _ _ (skip fun z => of_decide_eq_false c0 z.1)))⟩
        have lt := of_decide_eq_true c0
        refine ⟨_, rfl, _, rfl, _, _, rfl, rfl, mxs (by omega), _, rfl, _, rfl, _, _, rfl, rfl, mxs (by omega), _, _, rfl, rfl, _, rfl, rfl, _, rfl, ?_⟩
        rw [dec_vint]
        refine if_b (fun c3 => ?_) (fun c3 => iteF (next _ _ (skip fun z => of_decide_eq_false c3 z.2.1)))
        have c3 := of_decide_eq_true c3
        refine ⟨_, rfl, _, rfl, _, _, rfl, rfl, _, _, rfl, rfl, (by decide : (0 : Int) < 2), rfl, _, rfl, ?_⟩
        rw [dec_vint]
        refine if_b (fun c4 => ?_) (fun c4 => iteF (next _ _ (skip fun z => of_decide_eq_false c4 z.2.2.1)))
        have c4 := of_decide_eq_true c4
        refine ⟨_, rfl, _, rfl, m, d, rfl, hm, by omega, rfl, _, rfl, ?_⟩
        rw [dec_vint]
        refine if_b (fun c5 => ?_) (fun c5 => next _ _ (skip fun z => of_decide_eq_false c5 z.2.2.2))
        have c5 := of_decide_eq_true c5
        have eA : lgAt N d = [tri (m, d)] := by
          unfold lgAt
          rw [← em, lgOk_iff.mpr ⟨c3, c4, c5⟩, decide_eq_true lt]
          rfl
        refine ⟨_, rfl, .inl ⟨rfl, _, SqL.of fa.lst⟩, _, rfl, _, rfl, len2, fun t ht => ?_⟩
        refine ⟨t, (m, d), rfl, SqT.of upd_same, bds (by dsimp only; omega), bds (by dsimp only; omega), fun H5 ta s5 hta => ?_⟩
        have fa5 := fa.on ((same_upd (o := .tup [.int m, .int d]) ht).trans s5)
        have len := fa.trs.len
        have len2 := upto_len (f := lgAt N) (c := 1) (lgAt_len N) i
        refine ⟨fo, _, _, rfl, rfl, fa5.lst, by rw [sizeLine_eq]; omega, ?_⟩
        exact next _ _ (by rw [eA]; exact fa5.add hta)
    · rintro σ H' ⟨xs, m, x, rfl, fa, hr1, hm, hm2⟩
      rw [show (rti N + 1 - 1).toNat = (rti N).toNat by omega] at fa
      exact ⟨_, rfl, found_end fa q⟩
/-! ### _law_legs -/
theorem ok__law_legs (B : Bt mg) (hN : base.NoSeer) (ht : P.given.tree = none) (D : Is K mg "_law_legs" s__law_legs ["_law_number_here"]) (H__law_root : Has P w K mg base 1 "_law_root" ["_law_number_here"] sp_law_root) (H__law_common : Has P w K mg base 1 "_law_common" ["_law_one", "_law_other"] sp_common) (H__law_triple : Has P w K mg base 1 "_law_triple" ["_law_pair"] (sp_triple_by K)) :
    Has P w K mg base 33 "_law_legs" ["_law_number_here"] (sp_legs_of K) := by
  obtain ⟨f, fd, F, b, g⟩ := D
  obtain ⟨f__law_root, fd__law_root, G__law_root, k__law_root, b__law_root, g__law_root⟩ := H__law_root
  obtain ⟨f__law_common, fd__law_common, G__law_common, k__law_common, b__law_common, g__law_common⟩ := H__law_common
  obtain ⟨f__law_triple, fd__law_triple, G__law_triple, k__law_triple, b__law_triple, g__law_triple⟩ := H__law_triple
  refine ⟨f, fd, F.ok sc__law_legs (fun vs H Q E h => ?_) (fun cdv A outer s H vs Q E hr h => ?_), F.kp, b, g⟩
  · obtain ⟨N, rfl, _⟩ := h
    rfl
  · obtain ⟨N, rfl, h1, h2, q⟩ := h
    have hd : (A.deeper (envOfC "_law_legs" (defScope s__law_legs) s.heap.objs.size f cdv)).depth + 100 < recursionLimit := by
      have := hr.dp
      omega
    refine ⟨_, (pss_cons (ps_set (i := 1) sc__law_legs.nd rfl (Or.inl rfl) (pe_lst pa_nil)) (pss_cons (ps_for PassesOwn.never rfl (pi_range2 (by rfl) B.range (pa_cons pe_int (pa_cons (pe_op op_add (pe_call G__law_root (hr.mono (by decide)) (by rfl) g__law_root k__law_root b__law_root .nil pass0 (pa_cons (pv 0) pa_nil)) pe_int) pa_nil))) (pg_name (i := 2) sc__law_legs.nd rfl (Or.inl rfl)) (pss_cons (ps_set (i := 3) sc__law_legs.nd rfl (Or.inl rfl) (pe_op (op_fdivP (l := outer) hN ht rfl rfl rfl hd) (pv 0) (pv 2))) (C8.pss_cut (ps_if (PW.pt (pw_and (pt_cmpR op_eq (pe_op op_mod (pv 0) (pv 2)) pe_int (nomark _)) (pw_and (pt_cmpR op_lt (pv 2) (pv 3) (nomark _)) (pw_and (pt_cmpR op_eq (pe_call G__law_common (hr.mono (by decide)) (by rfl) g__law_common k__law_common b__law_common .nil pass0 (pa_cons (pv 2) (pa_cons (pv 3) pa_nil))) pe_int (nomark _)) (pw_and1 (pt_cmpR op_eq (pe_op op_mod (pv 0) pe_int) pe_int (nomark _))))))) (pss_one (ps_expr (pe_bm PySem.F.plainAttrs_list PySem.F.slot_list_append PySem.F.type_list_append mt_append (pv 1) (pa_cons (pe_call G__law_triple (hr.mono (by decide)) (by rfl) g__law_triple k__law_triple b__law_triple .nil pass0 (pa_cons (pe_tup (pa_cons (pe_op op_fdiv (pe_op op_add (pv 3) (pv 2)) pe_int) (pa_cons (pe_op op_fdiv (pe_op op_sub (pv 3) (pv 2)) pe_int) pa_nil))) pa_nil)) pa_nil)))) pss_nil) (pss_cons (ps_set (i := 4) sc__law_legs.nd rfl (Or.inl rfl) (pe_op (op_fdivP (l := outer) hN ht rfl rfl rfl hd) (pe_op op_fdiv (pv 0) pe_int) (pv 2))) (pss_one (ps_if (PW.pt (pw_and (pt_cmpR op_eq (pe_op op_mod (pv 0) pe_int) pe_int (nomark _)) (pw_and (pt_cmpR op_eq (pe_op op_mod (pe_op op_fdiv (pv 0) pe_int) (pv 2)) pe_int (nomark _)) (pw_and (pt_cmpR op_lt (pv 2) (pv 4) (nomark _)) (pw_and1 (pt_cmpR op_eq (pe_call G__law_common (hr.mono (by decide)) (by rfl) g__law_common k__law_common b__law_common .nil pass0 (pa_cons (pv 2) (pa_cons (pv 4) pa_nil))) pe_int (nomark _))))))) (pss_one (ps_expr (pe_bm PySem.F.plainAttrs_list PySem.F.slot_list_append PySem.F.type_list_append mt_append (pv 1) (pa_cons (pe_call G__law_triple (hr.mono (by decide)) (by rfl) g__law_triple k__law_triple b__law_triple .nil pass0 (pa_cons (pe_tup (pa_cons (pv 4) (pa_cons (pv 2) pa_nil))) pa_nil)) pa_nil)))) pss_nil)))))) (pss_one (ps_ret (pe_callB cr_sortedT (by rfl) B.sorted (by decide +kernel) (pa_cons (pv 1) pa_nil)))))), ?_⟩
    have hs := rti_small (N := N) (by omega) h2
    have rp := rti_pos N
    refine ⟨Nat.zero_le _, fun fo nfo => ⟨_, rfl, N, rfl, by omega, h2, fun H1 s1 => ?_⟩⟩
    have fa0 := (FoundAt.start (K := K) nfo).on s1
    refine ⟨_, _, rfl, rfl, 1, _, rfl, ⟨by decide, by decide, ?_, ?_⟩, ?_⟩
    · show (-(2 ^ 62) : Int) ≤ rti N + 1
      omega
    · show rti N + 1 < (2 ^ 62 : Int)
      omega
    show ∃ W : Nat → Nat → L2.St → Hp → Prop, _
    refine for_range (lo := 1) (n := (rti N + 1 - 1).toNat) (fun i σ H' => ∃ (xs : List V) (x y z : Option V), σ = [some (.int N), some (.ref fo), x, y, z] ∧ FoundAt K H H' fo xs (upto (fun p => leA N p ++ leB N p) i)) ⟨[], _, _, _, rfl, fa0⟩ ?_ ?_
    · rintro i σ H' hi ⟨xs, x, y, z, rfl, fa⟩
      have hi2 : ((i + 1 : Nat) : Int) ≤ rti N := by omega
      have e1 : (1 : Int) + (i : Int) = ((i + 1 : Nat) : Int) := by omega
      rw [e1]
      have next : ∀ (H4 : Hp) (ys : List V) (u v z : Option V), FoundAt K H H4 fo ys (upto (fun p => leA N p ++ leB N p) i ++ (leA N (i + 1 : Nat) ++ leB N (i + 1 : Nat))) → ∃ (xs : List V) (x y w : Option V), [some (V.int N), some (.ref fo), u, v, z] = [some (.int N), some (.ref fo), x, y, w] ∧ FoundAt K H H4 fo xs (upto (fun p => leA N p ++ leB N p) (i + 1)) := fun H4 ys u v z fa4 => ⟨ys, u, v, z, rfl, by rw [upto]; exact fa4⟩
      have len2 := upto_len (f := fun p => leA N p ++ leB N p) (c := 2) (le_len N) i
      generalize hd : ((i + 1 : Nat) : Int) = d at *
      have d0 : 0 < d := by omega
      obtain ⟨o1, o2⟩ := div_rng (N := N) (p := d) (by omega) d0
      obtain ⟨o3, o4⟩ := div_rng (N := N / 2) (p := d) (by omega) d0
      refine ⟨_, rfl, _, rfl, _, _, rfl, rfl, d0, ?_⟩
      have finA : leA N d = [] → FoundAt K H H' fo xs (upto (fun p => leA N p ++ leB N p) i ++ leA N d) := fun z => by
        rw [z, List.append_nil]
        exact fa
      refine ⟨fun σ H4 => ∃ ys, σ = [some (.int N), some (.ref fo), some (.int d), some (.int (N / d)), z] ∧ FoundAt K H H4 fo ys (upto (fun p => leA N p ++ leB N p) i ++ leA N d), ?_, ?_⟩
      · refine ⟨_, rfl, _, rfl, _, _, rfl, rfl, d0, rfl, _, rfl, ?_⟩
        rw [dec_vint]
        refine if_b (fun c1 => ?_) (fun c1 => iteF ⟨xs, rfl, finA (leA_no fun z => of_decide_eq_false c1 z.1)⟩)
        have c1 := of_decide_eq_true c1
        refine ⟨_, rfl, _, rfl, _, _, rfl, rfl, _, rfl, if_b (fun c2 => ?_) (fun c2 => iteF ⟨xs, rfl, finA (leA_no fun z => of_decide_eq_false c2 z.2.1)⟩)⟩
        have c2 := of_decide_eq_true c2
        refine ⟨_, rfl, _, rfl, d, N / d, rfl, by omega, o1, rfl, _, rfl, ?_⟩
        rw [dec_vint]
        refine if_b (fun c3 => ?_) (fun c3 => iteF ⟨xs, rfl, finA (leA_no fun z => of_decide_eq_false c3 z.2.2.1)⟩)
        have c3 := of_decide_eq_true c3
        refine ⟨_, rfl, _, _, rfl, rfl, (by decide : (0 : Int) < 2), rfl, _, rfl, ?_⟩
        rw [dec_vint]
        refine if_b (fun c4 => ?_) (fun c4 => ⟨xs, rfl, finA (leA_no fun z => of_decide_eq_false c4 z.2.2.2)⟩)
        have c4 := of_decide_eq_true c4
        have eA := leA_yes c1 c2 c3 c4
        refine ⟨_, rfl, .inl ⟨rfl, _, SqL.of fa.lst⟩, _, rfl, _, rfl, _, _, rfl, rfl, _, _, rfl, rfl, ⟨by decide, by decide⟩, _, rfl, _, rfl, _, _, rfl, rfl, _, _, rfl, rfl, ⟨by decide, by decide⟩, SqP.len2, fun t ht => ?_⟩
        refine ⟨t, ((N / d + d) / 2, (N / d - d) / 2), rfl, SqT.of upd_same, bds (by dsimp only; omega), bds (by dsimp only; omega), fun H5 ta s5 hta => ?_⟩
        have fa5 := fa.on ((same_upd (o := .tup [.int ((N / d + d) / 2), .int ((N / d - d) / 2)]) ht).trans s5)
        have len := fa.trs.len
        refine ⟨fo, _, _, rfl, rfl, fa5.lst, by rw [sizeLine_eq]; omega, xs ++ [.ref ta], rfl, ?_⟩
        rw [eA]
        exact fa5.add hta
      · clear finA fa xs
        rintro σ H4 ⟨xs, rfl, fa⟩
        have len := fa.trs.len
        have lA := leA_len N d
        rw [List.length_append] at len
        have finB : leB N d = [] → FoundAt K H H4 fo xs (upto (fun p => leA N p ++ leB N p) i ++ (leA N d ++ leB N d)) := fun z => by
          rw [z, List.append_nil]
          exact fa
        refine ⟨_, rfl, _, _, rfl, rfl, ⟨by decide, by decide⟩, _, rfl, _, _, rfl, rfl, d0, ?_⟩
        refine ⟨_, rfl, _, _, rfl, rfl, (by decide : (0 : Int) < 4), rfl, _, rfl, ?_⟩
        rw [dec_vint]
        refine if_b (fun c1 => ?_) (fun c1 => iteF (next _ xs _ _ _ (finB (leB_no fun z => of_decide_eq_false c1 z.1))))
        have c1 := of_decide_eq_true c1
        refine ⟨_, rfl, _, _, rfl, rfl, ⟨by decide, by decide⟩, _, rfl, _, _, rfl, rfl, d0, rfl, _, rfl, ?_⟩
        rw [dec_vint]
        refine if_b (fun c2 => ?_) (fun c2 => iteF (next _ xs _ _ _ (finB (leB_no fun z => of_decide_eq_false c2 z.2.1))))
        have c2 := of_decide_eq_true c2
        refine ⟨_, rfl, _, rfl, _, _, rfl, rfl, _, rfl, if_b (fun c3 => ?_) (fun c3 => iteF (next _ xs _ _ _ (finB (leB_no fun z => of_decide_eq_false c3 z.2.2.1))))⟩
        have c3 := of_decide_eq_true c3
        refine ⟨_, rfl, _, rfl, d, N / 2 / d, rfl, by omega, o3, rfl, _, rfl, ?_⟩
        rw [dec_vint]
        refine if_b (fun c4 => ?_) (fun c4 => next _ xs _ _ _ (finB (leB_no fun z => of_decide_eq_false c4 z.2.2.2)))
        have c4 := of_decide_eq_true c4
        have eB := leB_yes c1 c2 c3 c4
        refine ⟨_, rfl, .inl ⟨rfl, _, SqL.of fa.lst⟩, _, rfl, _, rfl, SqP.len2, fun t ht => ?_⟩
        refine ⟨t, (N / 2 / d, d), rfl, SqT.of upd_same, bds (by dsimp only; omega), bds (by dsimp only; omega), fun H5 ta s5 hta => ?_⟩
        have fa5 := fa.on ((same_upd (o := .tup [.int (N / 2 / d), .int d]) ht).trans s5)
        refine ⟨fo, _, _, rfl, rfl, fa5.lst, by rw [sizeLine_eq]; omega, next _ (xs ++ [.ref ta]) _ _ _ ?_⟩
        rw [eB, ← List.append_assoc]
        exact fa5.add hta
    · rintro σ H' ⟨xs, x, y, z, rfl, fa⟩
      rw [show (rti N + 1 - 1).toNat = (rti N).toNat by omega] at fa
      exact ⟨_, rfl, found_end fa q⟩
end
end SqP

namespace SqP
open PySem PySem.Spec PyProof.Rows L2 Sq
abbrev s_Longest_init : Stmt := inClass (topS 12) 0
theorem sc_Longest_init : FnScope ["self", "triples"] ["self", "triples"] (defScope s_Longest_init) := ⟨rfl, rfl, rfl, by decide +kernel, rfl, by decide +kernel, by decide +kernel⟩
abbrev s_Longest_shows : Stmt := inClass (topS 12) 1
theorem sc_Longest_shows : FnScope ["self", "number"] ["self", "number"] (defScope s_Longest_shows) := ⟨rfl, rfl, rfl, by decide +kernel, rfl, by decide +kernel, by decide +kernel⟩
abbrev s_Leg_init : Stmt := inClass (topS 13) 0
theorem sc_Leg_init : FnScope ["self", "triples"] ["self", "triples"] (defScope s_Leg_init) := ⟨rfl, rfl, rfl, by decide +kernel, rfl, by decide +kernel, by decide +kernel⟩
abbrev s_Leg_shows : Stmt := inClass (topS 13) 1
theorem sc_Leg_shows : FnScope ["self", "number"] ["self", "number"] (defScope s_Leg_shows) := ⟨rfl, rfl, rfl, by decide +kernel, rfl, by decide +kernel, by decide +kernel⟩
abbrev s_Barred_init : Stmt := inClass (topS 14) 0
theorem sc_Barred_init : FnScope ["self", "prime"] ["self", "prime"] (defScope s_Barred_init) := ⟨rfl, rfl, rfl, by decide +kernel, rfl, by decide +kernel, by decide +kernel⟩
abbrev s_Barred_shows : Stmt := inClass (topS 14) 1
theorem sc_Barred_shows : FnScope ["self", "number", "part"] ["self", "number"] (defScope s_Barred_shows) := ⟨rfl, rfl, rfl, by decide +kernel, rfl, by decide +kernel, by decide +kernel⟩
abbrev s_Halved_shows : Stmt := inClass (topS 15) 0
theorem sc_Halved_shows : FnScope ["self", "number"] ["self", "number"] (defScope s_Halved_shows) := ⟨rfl, rfl, rfl, by decide +kernel, rfl, by decide +kernel, by decide +kernel⟩
abbrev s__law_is_prime : Stmt := topS 32
theorem sc__law_is_prime : FnScope ["_law_number_here", "_law_part"] ["_law_number_here"] (defScope s__law_is_prime) := ⟨rfl, rfl, rfl, by decide +kernel, rfl, by decide +kernel, by decide +kernel⟩
abbrev s__law_bars : Stmt := topS 33
theorem sc__law_bars : FnScope ["_law_number_here", "_law_prime"] ["_law_number_here", "_law_prime"] (defScope s__law_bars) := ⟨rfl, rfl, rfl, by decide +kernel, rfl, by decide +kernel, by decide +kernel⟩
abbrev s__law_number : Stmt := topS 34
theorem sc__law_number : FnScope ["_law_script", "_law_k", "_law_cell", "_law_drawn", "_law_kind", "_law_found", "_law_turn"] ["_law_script", "_law_k"] (defScope s__law_number) := ⟨rfl, rfl, rfl, by decide +kernel, rfl, by decide +kernel, by decide +kernel⟩
abbrev s__law_says : Stmt := topS 35
theorem sc__law_says : FnScope ["_law_said", "_law_due_here"] ["_law_said", "_law_due_here"] (defScope s__law_says) := ⟨rfl, rfl, rfl, by decide +kernel, rfl, by decide +kernel, by decide +kernel⟩
section
variable {P : Program} {w : World} {K : PySem.W.Frag} {mg : Str → Option Value} {base : Heap}
/-! ### answers that keep a list -/
def sp_keeps (K : PySem.W.Frag) (C : Addr) : Sp := fun vs H Q _ => ∃ (p dx a : Addr) (xs : List V), vs = [.ref p, .ref a] ∧ H p = some (.ins C dx []) ∧ SqL K H a xs ∧ ∀ l, H l = none → Q .non (upd (upd H l (.lst xs)) p (.ins C dx [("triples", .ref l)]))
theorem ok_Longest_init (B : Bt mg) {C : Addr} (c : KC K mg "Longest" C) (nT : NoAttr K C "triples") (D : IsM K C "__init__" "Longest.__init__" s_Longest_init ["self", "triples"]) : HasM P w K mg base 1 C "__init__" ["self", "triples"] (sp_keeps K C) := by
  obtain ⟨f, fd, F, b, m⟩ := D
  refine ⟨f, fd, F.ok sc_Longest_init (fun vs H Q E h => ?_) (fun cdv A outer s H vs Q E hr h => ?_), b, m⟩
  · obtain ⟨p, dx, a, xs, rfl, _⟩ := h
    rfl
  · obtain ⟨p, dx, a, xs, rfl, hp, hS, q⟩ := h
    refine ⟨_, (pss_one (ps_fld (pv 0) (pe_callTy call_list_of (by rfl) B.list (by decide +kernel) (pa_cons (pv 1) pa_nil)) rfl)), ?_⟩
    refine ⟨_, rfl, a, xs, rfl, .inl hS, fun l hl => ?_⟩
    exact ⟨_, rfl, p, C, dx, [], rfl, by rw [upd_ne (ne_of_none hp hl)]; exact hp, c.cl, nT, by decide, q l hl⟩
theorem ok_Leg_init (B : Bt mg) {C : Addr} (c : KC K mg "Leg" C) (nT : NoAttr K C "triples") (D : IsM K C "__init__" "Leg.__init__" s_Leg_init ["self", "triples"]) : HasM P w K mg base 1 C "__init__" ["self", "triples"] (sp_keeps K C) := by
  obtain ⟨f, fd, F, b, m⟩ := D
  refine ⟨f, fd, F.ok sc_Leg_init (fun vs H Q E h => ?_) (fun cdv A outer s H vs Q E hr h => ?_), b, m⟩
  · obtain ⟨p, dx, a, xs, rfl, _⟩ := h
    rfl
  · obtain ⟨p, dx, a, xs, rfl, hp, hS, q⟩ := h
    refine ⟨_, (pss_one (ps_fld (pv 0) (pe_callTy call_list_of (by rfl) B.list (by decide +kernel) (pa_cons (pv 1) pa_nil)) rfl)), ?_⟩
    refine ⟨_, rfl, a, xs, rfl, .inl hS, fun l hl => ?_⟩
    exact ⟨_, rfl, p, C, dx, [], rfl, by rw [upd_ne (ne_of_none hp hl)]; exact hp, c.cl, nT, by decide, q l hl⟩
/-- an answer with a list, its triples -/
structure AnsAt (K : PySem.W.Frag) (H : Hp) (p C : Addr) (xs : List V) (L : List Tr) : Prop where
  ex : ∃ dx l, H p = some (.ins C dx [("triples", .ref l)]) ∧ H l = some (.lst xs)
  trs : TrS K H xs L
theorem AnsAt.on {H H' : Hp} {p C : Addr} {xs : List V} {L : List Tr} (h : AnsAt K H p C xs L) (s : Same H H') : AnsAt K H' p C xs L := by
  obtain ⟨⟨dx, l, h1, h2⟩, h3⟩ := h
  exact ⟨⟨dx, l, s _ _ h1, s _ _ h2⟩, h3.same s⟩
def sp_shows_list (K : PySem.W.Frag) (C : Addr) (g : Int → List Tr) : Sp := fun vs H Q _ => ∃ (p : Addr) (xs : List V) (L : List Tr) (N : Int), vs = [.ref p, .int N] ∧ AnsAt K H p C xs L ∧ 1 ≤ N ∧ N ≤ 2000000 ∧ ∀ H', Same H H' → Q (.bl (decide (L ≠ []) && decide (L = srt (g N)))) H'
theorem look_triples (l : Addr) : ([("triples", V.ref l)] : List (Str × V)).lookup ("triples" : Str) = some (.ref l) := by
  rw [List.lookup_cons_self]
theorem ok_Longest_shows (B : Bt mg) {C : Addr} (c : KC K mg "Longest" C) (nT : NoAttr K C "triples") (D : IsM K C "shows" "Longest.shows" s_Longest_shows ["self", "number"]) (H_longest_of : Has P w K mg base 34 "longest_of" ["number"] (sp_longest_of K)) : HasM P w K mg base 35 C "shows" ["self", "number"] (sp_shows_list K C lgL) := by
  obtain ⟨f, fd, F, b, m⟩ := D
  obtain ⟨f_longest_of, fd_longest_of, G_longest_of, k_longest_of, b_longest_of, g_longest_of⟩ := H_longest_of
  refine ⟨f, fd, F.ok sc_Longest_shows (fun vs H Q E h => ?_) (fun cdv A outer s H vs Q E hr h => ?_), b, m⟩
  · obtain ⟨p, xs, L, N, rfl, _⟩ := h
    rfl
  · obtain ⟨p, xs, L, N, rfl, ⟨⟨dx, l, h1, h2⟩, h3⟩, n1, n2, q⟩ := h
    refine ⟨_, (pss_one (ps_ret (pe_and (pe_cmpR op_gt (pe_callB call_len_seq (by rfl) B.len PySem.boot_len (pa_cons (pe_fld (pv 0) rfl) pa_nil)) pe_int (nomark _)) (pe_one (pe_cmpR (op_eqD hr.units) (pe_fld (pv 0) rfl) (pe_call G_longest_of (hr.mono (by decide)) (by rfl) g_longest_of k_longest_of b_longest_of .nil pass0 (pa_cons (pv 1) pa_nil)) (nomark _)))))), ?_⟩
    refine ⟨_, rfl, p, C, dx, _, _, rfl, h1, c.cl, nT, look_triples l, l, _, rfl, .inl (SqL.of h2), _, _, rfl, rfl, _, rfl, ?_⟩
    have el : decide ((0 : Int) < (xs.length : Int)) = decide (L ≠ []) := by
      rw [h3.len]
      cases L <;> simp
    rw [el]
    refine if_b (fun c1 => ?_) (fun c1 => ?_)
    · refine ⟨_, rfl, p, C, dx, _, _, rfl, h1, c.cl, nT, look_triples l, _, rfl, N, rfl, n1, n2, fun H1 r ys s1 hr _ ht => ?_⟩
      refine ⟨_, _, trs_dp (SqL.of (s1 _ _ h2)) (h3.same s1), trs_dp (SqL.of hr) ht, trs_shaped _, trs_shaped _, ?_⟩
      rw [trl_eqv]
      have := q H1 s1
      rw [c1, Bool.true_and] at this
      exact this
    · have := q H (Same.refl H)
      rw [c1, Bool.false_and] at this
      exact this
theorem ok_Leg_shows (B : Bt mg) {C : Addr} (c : KC K mg "Leg" C) (nT : NoAttr K C "triples") (D : IsM K C "shows" "Leg.shows" s_Leg_shows ["self", "number"]) (H_legs_of : Has P w K mg base 33 "legs_of" ["number"] (sp_legs_of K)) : HasM P w K mg base 35 C "shows" ["self", "number"] (sp_shows_list K C leL) := by
  obtain ⟨f, fd, F, b, m⟩ := D
  obtain ⟨f_legs_of, fd_legs_of, G_legs_of, k_legs_of, b_legs_of, g_legs_of⟩ := H_legs_of
  refine ⟨f, fd, F.ok sc_Leg_shows (fun vs H Q E h => ?_) (fun cdv A outer s H vs Q E hr h => ?_), b, m⟩
  · obtain ⟨p, xs, L, N, rfl, _⟩ := h
    rfl
  · obtain ⟨p, xs, L, N, rfl, ⟨⟨dx, l, h1, h2⟩, h3⟩, n1, n2, q⟩ := h
    refine ⟨_, (pss_one (ps_ret (pe_and (pe_cmpR op_gt (pe_callB call_len_seq (by rfl) B.len PySem.boot_len (pa_cons (pe_fld (pv 0) rfl) pa_nil)) pe_int (nomark _)) (pe_one (pe_cmpR (op_eqD hr.units) (pe_fld (pv 0) rfl) (pe_call G_legs_of (hr.mono (by decide)) (by rfl) g_legs_of k_legs_of b_legs_of .nil pass0 (pa_cons (pv 1) pa_nil)) (nomark _)))))), ?_⟩
    refine ⟨_, rfl, p, C, dx, _, _, rfl, h1, c.cl, nT, look_triples l, l, _, rfl, .inl (SqL.of h2), _, _, rfl, rfl, _, rfl, ?_⟩
    have el : decide ((0 : Int) < (xs.length : Int)) = decide (L ≠ []) := by
      rw [h3.len]
      cases L <;> simp
    rw [el]
    refine if_b (fun c1 => ?_) (fun c1 => ?_)
    · refine ⟨_, rfl, p, C, dx, _, _, rfl, h1, c.cl, nT, look_triples l, _, rfl, N, rfl, n1, n2, fun H1 r ys s1 hr _ ht => ?_⟩
      refine ⟨_, _, trs_dp (SqL.of (s1 _ _ h2)) (h3.same s1), trs_dp (SqL.of hr) ht, trs_shaped _, trs_shaped _, ?_⟩
      rw [trl_eqv]
      have := q H1 s1
      rw [c1, Bool.true_and] at this
      exact this
    · have := q H (Same.refl H)
      rw [c1, Bool.false_and] at this
      exact this
/-! ### Barred, Halved -/
def sp_barred (C : Addr) : Sp := fun vs H Q _ => ∃ (p dx : Addr) (v : V), vs = [.ref p, v] ∧ H p = some (.ins C dx []) ∧ Q .non (upd H p (.ins C dx [("prime", v)]))
theorem ok_Barred_init {C : Addr} (c : KC K mg "Barred" C) (nP : NoAttr K C "prime") (D : IsM K C "__init__" "Barred.__init__" s_Barred_init ["self", "prime"]) : HasM P w K mg base 1 C "__init__" ["self", "prime"] (sp_barred C) := by
  obtain ⟨f, fd, F, b, m⟩ := D
  refine ⟨f, fd, F.ok sc_Barred_init (fun vs H Q E h => ?_) (fun cdv A outer s H vs Q E hr h => ?_), b, m⟩
  · obtain ⟨p, dx, v, rfl, _⟩ := h
    rfl
  · obtain ⟨p, dx, v, rfl, hp, q⟩ := h
    refine ⟨_, (pss_one (ps_fld (pv 0) (pv 1) rfl)), ?_⟩
    exact ⟨_, rfl, _, rfl, p, C, dx, [], rfl, hp, c.cl, nP, by decide, q⟩
theorem look_prime (v : V) : ([("prime", v)] : List (Str × V)).lookup ("prime" : Str) = some v := by
  rw [List.lookup_cons_self]
def sp_shows_barred (C : Addr) : Sp := fun vs H Q _ => ∃ (p dx : Addr) (x N : Int), vs = [.ref p, .int N] ∧ H p = some (.ins C dx [("prime", .int x)]) ∧ 1 ≤ N ∧ N ≤ 2000000 ∧ Q (.bl (brd N x)) H
theorem brd_no {N p : Int} (z : ¬ (2 ≤ p ∧ p ≤ N ∧ N % p = 0 ∧ noDiv p = true ∧ (p = 2 ∨ p % 4 = 3))) : brd N p = false := by
  rcases Bool.eq_false_or_eq_true (brd N p) with h | h
  · unfold brd at h
    rw [Bool.and_eq_true, Bool.and_eq_true, Bool.and_eq_true, Bool.and_eq_true, Bool.or_eq_true, decide_eq_true_iff, decide_eq_true_iff, decide_eq_true_iff, decide_eq_true_iff, decide_eq_true_iff] at h
    exact absurd ⟨h.1.1.1.1, h.1.1.1.2, h.1.1.2, h.1.2, h.2⟩ z
  · exact h
theorem brd_yes {N p : Int} (h1 : 2 ≤ p) (h2 : p ≤ N) (h3 : N % p = 0) (h4 : noDiv p = true) : brd N p = (decide (p = 2) || decide (p % 4 = 3)) := by
  unfold brd
  rw [decide_eq_true h1, decide_eq_true h2, decide_eq_true h3, h4]
  rfl
theorem ok_Barred_shows {C : Addr} (c : KC K mg "Barred" C) (nP : NoAttr K C "prime") (D : IsM K C "shows" "Barred.shows" s_Barred_shows ["self", "number"]) (H_is_whole : Has P w K mg base 1 "is_whole" ["thing"] (sp_is_whole K)) : HasM P w K mg base 2 C "shows" ["self", "number"] (sp_shows_barred C) := by
  obtain ⟨f, fd, F, b, m⟩ := D
  obtain ⟨f_is_whole, fd_is_whole, G_is_whole, k_is_whole, b_is_whole, g_is_whole⟩ := H_is_whole
  refine ⟨f, fd, F.ok sc_Barred_shows (fun vs H Q E h => ?_) (fun cdv A outer s H vs Q E hr h => ?_), b, m⟩
  · obtain ⟨p, dx, x, N, rfl, _⟩ := h
    rfl
  · obtain ⟨p, dx, x, N, rfl, hp, n1, n2, q⟩ := h
    refine ⟨_, (pss_cons (ps_if (PW.pt (pw_or (pt_not (pt_val (pe_call G_is_whole (hr.mono (by decide)) (by rfl) g_is_whole k_is_whole b_is_whole .nil pass0 (pa_cons (pe_fld (pv 0) rfl) pa_nil)))) (pw_or (pt_not (pt_chain op_le op_le pe_int (pe_fld (pv 0) rfl) (pv 1))) (pw_or1 (pt_cmpR op_ne (pe_op op_mod (pv 1) (pe_fld (pv 0) rfl)) pe_int (nomark _)))))) (pss_one (ps_ret pe_bl)) pss_nil) (pss_cons (ps_set (i := 2) sc_Barred_shows.nd rfl (Or.inl rfl) pe_int) (pss_cons (ps_while PassesOwn.never (pt_cmpR op_le (pe_op op_mulX (pv 2) (pv 2)) (pe_fld (pv 0) rfl) (nomark _)) (pss_cons (ps_if (pt_cmpR op_eq (pe_op op_mod (pe_fld (pv 0) rfl) (pv 2)) pe_int (nomark _)) (pss_one (ps_ret pe_bl)) pss_nil) (pss_one (ps_aug (i := 2) sc_Barred_shows.nd rfl (Or.inl rfl) pe_int ip_add)))) (pss_one (ps_ret (pe_or (pe_cmpR op_eq (pe_fld (pv 0) rfl) pe_int (nomark _)) (pe_one (pe_cmpR op_eq (pe_op op_mod (pe_fld (pv 0) rfl) pe_int) pe_int (nomark _))))))))), ?_⟩
    have no : ¬ (2 ≤ x ∧ x ≤ N ∧ N % x = 0 ∧ noDiv x = true ∧ (x = 2 ∨ x % 4 = 3)) → Q (.bl false) H := fun z => by
      rw [brd_no z] at q
      exact q
    refine ⟨_, rfl, p, C, dx, _, _, rfl, hp, c.cl, nP, look_prime _, ⟨_, "int", true, false, rfl, .base (.int _), kb_int_int, kb_int_bool, true, rfl, iteF ?_⟩⟩
    refine ⟨_, rfl, p, C, dx, _, _, rfl, hp, c.cl, nP, look_prime _, _, _, rfl, rfl, _, rfl, if_b (fun c1 => ?_) (fun c1 => ⟨_, rfl, iteT (no fun z => of_decide_eq_false c1 z.1)⟩)⟩
    have c1 := of_decide_eq_true c1
    refine ⟨_, rfl, _, _, rfl, rfl, _, rfl, ?_⟩
    by_cases c2 : x ≤ N
    case neg =>
      rw [decide_eq_false c2]
      exact iteT (no fun z => c2 z.2.1)
    rw [decide_eq_true c2]
    refine iteF ⟨_, rfl, _, rfl, p, C, dx, _, _, rfl, hp, c.cl, nP, look_prime _, _, _, rfl, rfl, (show (0 : Int) < x by omega), rfl, _, rfl, ?_⟩
    rw [dec_vint]
    by_cases c3 : N % x = 0
    case neg =>
      rw [decide_eq_false c3]
      exact iteT (no fun z => c3 z.2.2.1)
    rw [decide_eq_true c3]
    refine iteF ?_
    refine ⟨fun k σ H' => ∃ d : Int, σ = [some (.ref p), some (.int N), some (.int d)] ∧ k = (x + 1 - d).toNat ∧ 2 ≤ d ∧ d ≤ x + 1 ∧ (∀ e : Int, 2 ≤ e → e < d → x % e ≠ 0) ∧ H' = H, ⟨_, 2, rfl, rfl, by decide, by omega, fun e e1 e2 => by omega, rfl⟩, ?_⟩
    rintro k σ H' ⟨d, rfl, rfl, d1, d2, dv, rfl⟩
    refine ⟨_, rfl, _, rfl, _, _, rfl, rfl, mxs (by omega), _, rfl, p, C, dx, _, _, rfl, hp, c.cl, nP, look_prime _, _, _, rfl, rfl, _, rfl, if_b (fun c4 => ?_) (fun c4 => ?_)⟩
    · have c4 := of_decide_eq_true c4
      refine ⟨fun σ' H2 => ∃ k', k' < (x + 1 - d).toNat ∧ ∃ d : Int, σ' = [some (.ref p), some (.int N), some (.int d)] ∧ k' = (x + 1 - d).toNat ∧ 2 ≤ d ∧ d ≤ x + 1 ∧ (∀ e : Int, 2 ≤ e → e < d → x % e ≠ 0) ∧ H2 = H', fun _ _ h => h, ?_⟩
      have dx2 : d ≤ x := by
        have := Int.mul_le_mul_of_nonneg_right (a := 1) (b := d) (c := d) (by omega) (by omega)
        omega
      refine ⟨_, rfl, p, C, dx, _, _, rfl, hp, c.cl, nP, look_prime _, _, rfl, _, _, rfl, rfl, (show (0 : Int) < d by omega), rfl, _, rfl, ?_⟩
      rw [dec_vint]
      refine if_b (fun c5 => ?_) (fun c5 => ?_)
      · have c5 := of_decide_eq_true c5
        exact no fun z => (noDiv_iff (by omega)).mp z.2.2.2.1 d d1 c4 c5
      · have c5 := of_decide_eq_false c5
        refine ⟨_, rfl, _, _, rfl, rfl, (x + 1 - (d + 1)).toNat, by omega, d + 1, rfl, rfl, by omega, by omega, fun e e1 e2 => ?_, rfl⟩
        by_cases z : e = d
        · rw [z]
          exact c5
        · exact dv e e1 (by omega)
    · have c4 := of_decide_eq_false c4
      have nd : noDiv x = true := (noDiv_iff (by omega)).mpr fun e e1 e2 => dv e e1 (lt_of_sq (by omega) (by omega))
      rw [brd_yes c1 c2 c3 nd] at q
      refine ⟨_, rfl, p, C, dx, _, _, rfl, hp, c.cl, nP, look_prime _, rfl, _, rfl, ?_⟩
      rw [dec_vint]
      refine if_b (fun c5 => ?_) (fun c5 => ?_)
      · rw [c5, Bool.true_or] at q
        exact q
      · refine ⟨_, rfl, p, C, dx, _, _, rfl, hp, c.cl, nP, look_prime _, _, _, rfl, rfl, (by decide : (0 : Int) < 4), rfl, ?_⟩
        rw [dec_vint]
        rw [c5, Bool.false_or] at q
        exact q
def sp_shows_halved (C : Addr) : Sp := fun vs H Q _ => ∃ (p : Addr) (N : Int), vs = [.ref p, .int N] ∧ Q (.bl (decide (N % 4 = 2))) H
theorem ok_Halved_shows {C : Addr} (D : IsM K C "shows" "Halved.shows" s_Halved_shows ["self", "number"]) : HasM P w K mg base 1 C "shows" ["self", "number"] (sp_shows_halved C) := by
  obtain ⟨f, fd, F, b, m⟩ := D
  refine ⟨f, fd, F.ok sc_Halved_shows (fun vs H Q E h => ?_) (fun cdv A outer s H vs Q E hr h => ?_), b, m⟩
  · obtain ⟨p, N, rfl, _⟩ := h
    rfl
  · obtain ⟨p, N, rfl, q⟩ := h
    refine ⟨_, (pss_one (ps_ret (pe_cmpR op_eq (pe_op op_mod (pv 1) pe_int) pe_int (nomark _)))), ?_⟩
    refine ⟨_, rfl, _, _, rfl, rfl, (by decide : (0 : Int) < 4), rfl, ?_⟩
    rw [dec_vint]
    exact q
/-! ### _law_says -/
def sp_says : Sp := fun vs H Q _ => ∃ a b : Bool, vs = [.bl a, .bl b] ∧ Q (.bl (a == b)) H
theorem dec_vbl (a b : Bool) : decide (V.bl a = V.bl b) = (a == b) := by
  cases a <;> cases b <;> rfl
theorem ok__law_says (B : Bt mg) (D : Is K mg "_law_says" s__law_says ["_law_said", "_law_due_here"]) : Has P w K mg base 1 "_law_says" ["_law_said", "_law_due_here"] sp_says := by
  obtain ⟨f, fd, F, b, g⟩ := D
  refine ⟨f, fd, F.ok sc__law_says (fun vs H Q E h => ?_) (fun cdv A outer s H vs Q E hr h => ?_), F.kp, b, g⟩
  · obtain ⟨a, b, rfl, _⟩ := h
    rfl
  · obtain ⟨x, y, rfl, q⟩ := h
    refine ⟨_, (pss_one (ps_ret (pe_and (pe_callB call_isi (by rfl) B.isi (by decide +kernel) (pa_cons (pv 0) (pa_cons (pe_bltn (v := .ty "bool") (by rfl) B.bool (by decide +kernel) rfl) pa_nil))) (pe_one (pe_cmpR op_eq (pv 0) (pv 1) (nomark _)))))), ?_⟩
    refine ⟨_, rfl, _, .ty "bool", _, _, true, rfl, .ty _, .base (.bl _), kit_ty (by decide +kernel), true, rfl, iteT ⟨_, rfl, _, rfl, rfl, ?_⟩⟩
    rw [dec_vbl]
    exact q
/-! ### _law_is_prime, _law_bars -/
def sp_is_prime : Sp := fun vs H Q _ => ∃ p : Int, vs = [.int p] ∧ 2 ≤ p ∧ p ≤ 2000000 ∧ ∀ H', Same H H' → Q (.bl (noDiv p)) H'
def sp_bars : Sp := fun vs H Q _ => ∃ N p : Int, vs = [.int N, .int p] ∧ 1 ≤ N ∧ N ≤ 2000000 ∧ ∀ H', Same H H' → Q (.bl (brd N p)) H'
theorem ok__law_bars (D : Is K mg "_law_bars" s__law_bars ["_law_number_here", "_law_prime"]) (H__law_is_prime : Has P w K mg base 2 "_law_is_prime" ["_law_number_here"] sp_is_prime) : Has P w K mg base 3 "_law_bars" ["_law_number_here", "_law_prime"] sp_bars := by
  obtain ⟨f, fd, F, b, g⟩ := D
  obtain ⟨f__law_is_prime, fd__law_is_prime, G__law_is_prime, k__law_is_prime, b__law_is_prime, g__law_is_prime⟩ := H__law_is_prime
  refine ⟨f, fd, F.ok sc__law_bars (fun vs H Q E h => ?_) (fun cdv A outer s H vs Q E hr h => ?_), F.kp, b, g⟩
  · obtain ⟨N, p, rfl, _⟩ := h
    rfl
  · obtain ⟨N, x, rfl, n1, n2, q⟩ := h
    refine ⟨_, (pss_cons (ps_if (PW.pt (pw_or (pt_cmpR op_lt (pv 1) pe_int (nomark _)) (pw_or (pt_cmpR op_gt (pv 1) (pv 0) (nomark _)) (pw_or (pt_cmpR op_gt (pe_op op_mod (pv 0) (pv 1)) pe_int (nomark _)) (pw_or1 (PW.pt (pw_and (pt_cmpR op_gt (pv 1) pe_int (nomark _)) (pw_and1 (pt_cmpR op_ne (pe_op op_mod (pv 1) pe_int) pe_int (nomark _)))))))))) (pss_one (ps_ret pe_bl)) pss_nil) (pss_one (ps_ret (pe_call G__law_is_prime (hr.mono (by decide)) (by rfl) g__law_is_prime k__law_is_prime b__law_is_prime .nil pass0 (pa_cons (pv 1) pa_nil))))), ?_⟩
    have no : ¬ (2 ≤ x ∧ x ≤ N ∧ N % x = 0 ∧ noDiv x = true ∧ (x = 2 ∨ x % 4 = 3)) → Q (.bl false) H := fun z => by
      have := q H (Same.refl H)
      rw [brd_no z] at this
      exact this
    refine ⟨_, rfl, _, _, rfl, rfl, _, rfl, if_b (fun c1 => ?_) (fun c1 => ?_)⟩
    · exact iteT (no fun z => by have := of_decide_eq_true c1; omega)
    have c1 := of_decide_eq_false c1
    refine ⟨_, rfl, _, rfl, _, _, rfl, rfl, _, rfl, if_b (fun c2 => ?_) (fun c2 => ?_)⟩
    · exact iteT (no fun z => by have := of_decide_eq_true c2; omega)
    have c2 := of_decide_eq_false c2
    refine ⟨_, rfl, _, rfl, _, _, rfl, rfl, (show (0 : Int) < x by omega), _, _, rfl, rfl, _, rfl, if_b (fun c3 => ?_) (fun c3 => ?_)⟩
    · exact iteT (no fun z => by have := of_decide_eq_true c3; omega)
    have c3 := of_decide_eq_false c3
    have c3 : N % x = 0 := by
      have := Int.emod_nonneg N (show x ≠ 0 by omega)
      omega
    have yes : (x = 2 ∨ x % 4 = 3) → ∃ p : Int, [V.int x] = [.int p] ∧ 2 ≤ p ∧ p ≤ 2000000 ∧ ∀ H', Same H H' → Q (.bl (noDiv p)) H' := fun z => by
      refine ⟨x, rfl, by omega, by omega, fun H1 s1 => ?_⟩
      have := q H1 s1
      rcases Bool.eq_false_or_eq_true (noDiv x) with e | e
      · rw [brd_yes (by omega) (by omega) c3 e] at this
        rw [e]
        have e2 : (decide (x = 2) || decide (x % 4 = 3)) = true := by
          rw [Bool.or_eq_true, decide_eq_true_iff, decide_eq_true_iff]
          exact z
        rw [e2] at this
        exact this
      · rw [brd_no (fun z => by rw [e] at z; exact absurd z.2.2.2.1 (by decide))] at this
        rw [e]
        exact this
    refine ⟨_, rfl, _, _, rfl, rfl, _, rfl, if_b (fun c4 => ?_) (fun c4 => iteF ⟨_, rfl, yes (.inl (by have := of_decide_eq_false c4; omega))⟩)⟩
    have c4 := of_decide_eq_true c4
    refine ⟨_, rfl, _, _, rfl, rfl, (by decide : (0 : Int) < 4), rfl, _, rfl, ?_⟩
    rw [dec_vint]
    by_cases c5 : x % 4 = 3
    · rw [decide_eq_true c5]
      exact iteF ⟨_, rfl, yes (.inr c5)⟩
    · rw [decide_eq_false c5]
      exact iteT (no fun z => by omega)
end
end SqP

namespace SqP
open PySem PySem.Spec PyProof.Rows L2 Sq
section
variable {P : Program} {w : World} {K : PySem.W.Frag} {mg : Str → Option Value} {base : Heap}
theorem any_div {x : Int} (h : 2 ≤ x) : ((List.range (rti x + 1 - 2).toNat).map fun i : Nat => decide (x % (2 + (i : Int)) = 0)).any id = !noDiv x := by
  rw [Bool.eq_iff_iff, List.any_eq_true, Bool.not_eq_true', ← Bool.not_eq_true, noDiv_iff (by omega)]
  constructor
  · rintro ⟨b, hb, e⟩ z
    obtain ⟨i, hi, rfl⟩ := List.mem_map.mp hb
    have hi := List.mem_range.mp hi
    have e := of_decide_eq_true (show decide (x % (2 + (i : Int)) = 0) = true from e)
    have h1 := sq_mono (a := 2 + (i : Int)) (b := rti x) (by omega) (by omega)
    have h2 := rti_le (n := x) (by omega)
    exact z (2 + i) (by omega) (by omega) e
  · intro z
    refine Classical.byContradiction fun no => z fun d d1 d2 d3 => no ?_
    have := le_rti (by omega) d2
    refine ⟨_, List.mem_map.mpr ⟨(d - 2).toNat, List.mem_range.mpr (by omega), rfl⟩, ?_⟩
    refine decide_eq_true ?_
    rw [show (2 : Int) + ((d - 2).toNat : Nat) = d by omega]
    exact d3
theorem ok__law_is_prime (B : Bt mg) (D : Is K mg "_law_is_prime" s__law_is_prime ["_law_number_here"]) (H__law_root : Has P w K mg base 1 "_law_root" ["_law_number_here"] sp_law_root) : Has P w K mg base 2 "_law_is_prime" ["_law_number_here"] sp_is_prime := by
  obtain ⟨f, fd, F, b, g⟩ := D
  obtain ⟨f__law_root, fd__law_root, G__law_root, k__law_root, b__law_root, g__law_root⟩ := H__law_root
  refine ⟨f, fd, F.ok sc__law_is_prime (fun vs H Q E h => ?_) (fun cdv A outer s H vs Q E hr h => ?_), F.kp, b, g⟩
  · obtain ⟨p, rfl, _⟩ := h
    rfl
  · obtain ⟨x, rfl, h1, h2, q⟩ := h
    refine ⟨_, (pss_cons (ps_if (pt_cmpR op_lt (pv 0) pe_int (nomark _)) (pss_one (ps_ret pe_bl)) pss_nil) (pss_one (ps_ret (pe_not (pe_callB (cr_any rfl) (by rfl) B.any (by decide +kernel) (pa_cons (pe_lc (own := [("_law_part", 1)]) (g := gName 1) (tt := tYes) rfl sc__law_is_prime.nd (pi_range2 (by rfl) B.range (pa_cons pe_int (pa_cons (pe_op op_add (pe_call G__law_root (hr.mono (by decide)) (by rfl) g__law_root k__law_root b__law_root .nil pass0 (pa_cons (pv 0) pa_nil)) pe_int) pa_nil))) (blkOk_by (N := ["_law_number_here", "_law_part"]) (sc := defScope s__law_is_prime) (by decide +kernel)) (fun _ _ _ _ _ => pg_name (i := 1) sc__law_is_prime.nd rfl (Or.inl rfl)) (fun _ _ _ _ _ => pts_nil) (fun _ _ _ _ _ => (pe_cmpR op_eq (pe_op op_mod (pv 0) (pv 1)) pe_int (nomark _)))) pa_nil)))))), ?_⟩
    have hs := rti_small (N := x) (by omega) h2
    have rp := rti_pos x
    refine ⟨_, rfl, _, _, rfl, rfl, _, rfl, ?_⟩
    rw [decide_eq_false (show ¬ x < 2 by omega)]
    refine iteF ⟨_, rfl, x, rfl, by omega, h2, fun H1 s1 => ⟨_, _, rfl, rfl, 2, _, rfl, ⟨by decide, by decide, by omega, by omega⟩, ?_⟩⟩
    refine fun D nD => lc_over_range (lo := 2) (n := (rti x + 1 - 2).toNat) (ys := ((List.range (rti x + 1 - 2).toNat).map fun i : Nat => decide (x % (2 + (i : Int)) = 0)).map V.bl) (j := 1) nD (by simp) (by omega) (fun i y hi hy => ?_) (fun H2 s2 d2 => ?_)
    · rw [List.getElem?_map, List.getElem?_map, List.getElem?_range hi] at hy
      obtain rfl := (Option.some.inj hy).symm
      intro H2 s2 R hR
      refine ⟨_, rfl, _, rfl, _, _, rfl, rfl, (show (0 : Int) < 2 + (i : Int) by omega), rfl, ?_⟩
      rw [dec_vint]
      exact hR _ (Same.refl _)
    · refine ⟨D, _, rfl, SqL.of d2, _, rfl, ?_⟩
      rw [any_div h1, Bool.not_not]
      exact q _ (s1.trans s2)
/-! ### _law_number -/
def sp_number (K : PySem.W.Frag) : Sp := fun vs H Q _ => ∃ (a : Addr) (ns : List Int) (k : Nat), vs = [.ref a, .int k] ∧ SqL K H a (ns.map V.int) ∧ ns.length ≤ 900 ∧ k ≤ 900 ∧ (∀ n ∈ ns, Bd 1048577 n) ∧ ∀ H' N, Same H H' → 2 ≤ N → N ≤ 1000000 → Q (.int N) H'
theorem ok__law_number (B : Bt mg) (D : Is K mg "_law_number" s__law_number ["_law_script", "_law_k"]) (H__law_cell_at : Has P w K mg base 1 "_law_cell_at" ["_law_script", "_law_k"] (sp_cell_at K)) (H__law_value : Has P w K mg base 2 "_law_value" ["_law_cell", "_law_k", "_law_limit"] sp_value) (H__law_draw : Has P w K mg base 1 "_law_draw" ["_law_cell", "_law_k", "_law_many"] sp_draw) : Has P w K mg base 3 "_law_number" ["_law_script", "_law_k"] (sp_number K) := by
  obtain ⟨f, fd, F, b, g⟩ := D
  obtain ⟨f__law_cell_at, fd__law_cell_at, G__law_cell_at, k__law_cell_at, b__law_cell_at, g__law_cell_at⟩ := H__law_cell_at
  obtain ⟨f__law_value, fd__law_value, G__law_value, k__law_value, b__law_value, g__law_value⟩ := H__law_value
  obtain ⟨f__law_draw, fd__law_draw, G__law_draw, k__law_draw, b__law_draw, g__law_draw⟩ := H__law_draw
  refine ⟨f, fd, F.ok sc__law_number (fun vs H Q E h => ?_) (fun cdv A outer s H vs Q E hr h => ?_), F.kp, b, g⟩
  · obtain ⟨a, ns, k, rfl, _⟩ := h
    rfl
  · obtain ⟨a, ns, k, rfl, hS, hl, hk, hb, q⟩ := h
    refine ⟨_, (pss_cons (ps_set (i := 2) sc__law_number.nd rfl (Or.inl rfl) (pe_call G__law_cell_at (hr.mono (by decide)) (by rfl) g__law_cell_at k__law_cell_at b__law_cell_at .nil pass0 (pa_cons (pv 0) (pa_cons (pv 1) pa_nil)))) (pss_cons (ps_set (i := 3) sc__law_number.nd rfl (Or.inl rfl) (pe_call G__law_value (hr.mono (by decide)) (by rfl) g__law_value k__law_value b__law_value .nil pass0 (pa_cons (pv 2) (pa_cons (pe_op op_add (pv 1) pe_int) (pa_cons pe_int pa_nil))))) (pss_cons (ps_set (i := 4) sc__law_number.nd rfl (Or.inl rfl) (pe_call G__law_draw (hr.mono (by decide)) (by rfl) g__law_draw k__law_draw b__law_draw .nil pass0 (pa_cons (pe_op op_add (pe_op op_mod (pv 2) (pe_op op_pow pe_int pe_int)) (pe_op op_mul pe_int (pv 1))) (pa_cons pe_int (pa_cons pe_int pa_nil))))) (pss_cons (ps_if (pt_cmpR op_eq (pv 4) pe_int (nomark _)) (pss_cons (ps_set (i := 5) sc__law_number.nd rfl (Or.inl rfl) pe_int) (pss_cons (ps_for PassesOwn.never rfl (pi_range1 (by rfl) B.range (pa_cons pe_int pa_nil)) (pg_name (i := 6) sc__law_number.nd rfl (Or.inl rfl)) (pss_one (ps_par (i := 5) (j := 3) rfl sc__law_number.nd rfl rfl (by decide) rfl rfl (pa_cons (pe_op op_mulX (pv 5) (pe_ix ix_tup (pe_tup (pa_cons pe_int (pa_cons pe_int (pa_cons pe_int (pa_cons pe_int (pa_cons pe_int (pa_cons pe_int (pa_cons pe_int pa_nil)))))))) (pe_op op_mod (pv 3) pe_int) (fun _ _ => rfl))) (pa_cons (pe_op op_fdiv (pv 3) pe_int) pa_nil)) (by rfl)))) (pss_one (ps_ret (pe_callB (call_max2 rfl) (by rfl) B.max (by decide +kernel) (pa_cons pe_int (pa_cons (pv 5) pa_nil))))))) pss_nil) (pss_one (ps_ret (pe_op op_add pe_int (pe_op op_mod (pv 3) (pe_ix ix_tup (pe_tup (pa_cons pe_int (pa_cons pe_int (pa_cons pe_int (pa_cons pe_int (pa_cons pe_int pa_nil)))))) (pv 4) (fun _ _ => rfl)))))))))), ?_⟩
    refine ⟨_, rfl, _, rfl, a, ns, k, rfl, hS, by omega, fun c hc => ?_⟩
    have bc : Bd 1048577 c := by
      rcases hc with hc | rfl
      · exact hb c hc
      · exact (bd_small (k := 64) (by decide)).mono (by decide)
    refine ⟨_, rfl, _, rfl, _, _, rfl, rfl, c, (k : Int) + 2, 999983, rfl, by decide, by decide +kernel, by omega, by omega, bc, fun H1 d s1 d0 d1 => ?_⟩
    refine ⟨_, rfl, _, _, rfl, rfl, ⟨by decide, by decide, by decide⟩, _, _, rfl, rfl, (by decide +kernel : (0 : Int) < 10 ^ (18 : Int).toNat), _, rfl, _, _, rfl, rfl, .inl ⟨by decide, by decide⟩, _, _, rfl, rfl, _, 6, 5, rfl, by decide, fun H2 kd s2 k0 k1 => ?_⟩
    refine ⟨_, rfl, rfl, _, rfl, ?_⟩
    rw [dec_vint]
    refine if_b (fun c1 => ?_) (fun c1 => ?_)
    · refine ⟨4, rfl, by decide, by decide, for_range (lo := 0) (n := (4 : Int).toNat) (fun i σ H' => ∃ (d fo : Int) (x : Option V), σ = [some (.ref a), some (.int k), some (.int c), some (.int d), some (.int kd), some (.int fo), x] ∧ 0 ≤ d ∧ 1 ≤ fo ∧ fo ≤ 29 ^ i ∧ Same H2 H') ⟨d, 1, none, rfl, d0, by decide, by decide, Same.refl _⟩ ?_ ?_⟩
      · rintro i σ H' hi ⟨d, fo, x, rfl, d0, f1, f2, sm⟩
        have hi : i < 4 := hi
        have e1 := Int.emod_nonneg d (show (7 : Int) ≠ 0 by decide)
        have e2 := Int.emod_lt_of_pos d (show (0 : Int) < 7 by decide)
        obtain ⟨j, hj⟩ : ∃ j : Nat, d % 7 = (j : Int) := ⟨(d % 7).toNat, by omega⟩
        have hj2 : j < 7 := by omega
        have hv : ∃ v : Int, ([.int 5, .int 13, .int 17, .int 29, .int 1, .int 1, .int 1] : List V)[j]? = some (.int v) ∧ 1 ≤ v ∧ v ≤ 29 := by
          match j, hj2 with
          | 0, _ => exact ⟨_, rfl, by decide⟩
          | 1, _ => exact ⟨_, rfl, by decide⟩
          | 2, _ => exact ⟨_, rfl, by decide⟩
          | 3, _ => exact ⟨_, rfl, by decide⟩
          | 4, _ => exact ⟨_, rfl, by decide⟩
          | 5, _ => exact ⟨_, rfl, by decide⟩
          | 6, _ => exact ⟨_, rfl, by decide⟩
          | n + 7, h => omega
        obtain ⟨v, hv1, hv2, hv3⟩ := hv
        have top : (29 : Int) ^ i ≤ 24389 := by
          match i, hi with
          | 0, _ => decide
          | 1, _ => decide
          | 2, _ => decide
          | 3, _ => decide
          | n + 4, h => omega
        have up : fo * v ≤ 29 ^ i * 29 := Int.mul_le_mul f2 hv3 (by omega) (by omega)
        have lo : 1 * 1 ≤ fo * v := Int.mul_le_mul f1 hv2 (by omega) (by omega)
        refine ⟨_, rfl, by show 7 ≤ sizeLine; decide, fun t ht => ?_⟩
        refine ⟨_, rfl, _, _, rfl, rfl, (by decide : (0 : Int) < 7), t, _, _, _, rfl, rfl, SqT.of upd_same, at_of hj hv1, _, _, rfl, rfl, mxs (by omega), _, rfl, _, _, rfl, rfl, ⟨by decide, by decide⟩, _, _, rfl, d / 7, fo * v, _, rfl, by omega, by omega, ?_, sm.trans (same_upd ht)⟩
        rw [Int.pow_succ]
        exact up
      · rintro σ H' ⟨d, fo, x, rfl, d0, f1, f2, sm⟩
        have f2 : fo ≤ 29 ^ 4 := f2
        have top2 : (29 : Int) ^ 4 = 707281 := by decide
        refine ⟨_, rfl, 5, fo, rfl, q _ _ (s1.trans (s2.trans sm)) ?_ ?_⟩
        · split <;> omega
        · split <;> omega
    · obtain ⟨j, hj⟩ : ∃ j : Nat, kd = (j : Int) := ⟨kd.toNat, by omega⟩
      have hj2 : j < 5 := by omega
      have hv : ∃ v : Int, ([.int 60, .int 999999, .int 1, .int 5000, .int 99999] : List V)[j]? = some (.int v) ∧ 1 ≤ v ∧ v ≤ 999999 := by
        match j, hj2 with
        | 0, _ => exact ⟨_, rfl, by decide⟩
        | 1, _ => exact ⟨_, rfl, by decide⟩
        | 2, _ => exact ⟨_, rfl, by decide⟩
        | 3, _ => exact ⟨_, rfl, by decide⟩
        | 4, _ => exact ⟨_, rfl, by decide⟩
        | n + 5, h => omega
      obtain ⟨v, hv1, hv2, hv3⟩ := hv
      have m1 := Int.emod_nonneg d (show v ≠ 0 by omega)
      have m2 := Int.emod_lt_of_pos d (show 0 < v by omega)
      refine ⟨_, rfl, by show 5 ≤ sizeLine; decide, fun t ht => ?_⟩
      exact ⟨_, rfl, t, _, _, _, rfl, rfl, SqT.of upd_same, at_of hj hv1, _, _, rfl, rfl, (show (0 : Int) < v by omega), _, _, rfl, rfl, q _ _ (s1.trans (s2.trans (same_upd ht))) (by omega) (by omega)⟩
theorem look_shows (l : Addr) : ([("triples", V.ref l)] : List (Str × V)).lookup ("shows" : Str) = none := by
  show (match (("shows" : Str) == ("triples" : Str)) with | true => some (V.ref l) | false => none) = none
  rw [show (("shows" : Str) == ("triples" : Str)) = false by decide +kernel]
theorem made {H : Hp} {x dx l C : Addr} {xs : List V} (nx : H x = none) (ndx : H dx = none) (nl : (upd (upd H dx (.own x)) x (.ins C dx [])) l = none) :
    Same H (upd (upd (upd (upd H dx (.own x)) x (.ins C dx [])) l (.lst xs)) x (.ins C dx [("triples", .ref l)])) ∧ (upd (upd (upd (upd H dx (.own x)) x (.ins C dx [])) l (.lst xs)) x (.ins C dx [("triples", .ref l)])) x = some (.ins C dx [("triples", .ref l)]) ∧ (upd (upd (upd (upd H dx (.own x)) x (.ins C dx [])) l (.lst xs)) x (.ins C dx [("triples", .ref l)])) l = some (.lst xs) ∧ H l = none := by
  have nxl : l ≠ x := fun z => by
    rw [z, upd_same] at nl
    cases nl
  have nl0 : H l = none := by
    by_cases z : l = dx
    · rw [z]
      exact ndx
    · rw [upd_ne nxl, upd_ne z] at nl
      exact nl
  exact ⟨same_new nx (same_new nl0 (same_new nx (same_upd ndx))), upd_same, by rw [upd_ne nxl, upd_same], nl0⟩
end
end SqP

namespace SqP
open PySem PySem.Spec PyProof.Rows L2 Sq
abbrev s_check_number : Stmt := topS 18
theorem sc_check_number : FnScope ["number"] ["number"] (defScope s_check_number) := ⟨rfl, rfl, rfl, by decide +kernel, rfl, by decide +kernel, by decide +kernel⟩
abbrev s_longest : Stmt := topS 19
theorem sc_longest : FnScope ["number", "left", "prime"] ["number"] (defScope s_longest) := ⟨rfl, rfl, rfl, by decide +kernel, rfl, by decide +kernel, by decide +kernel⟩
abbrev s_leg : Stmt := topS 20
theorem sc_leg : FnScope ["number"] ["number"] (defScope s_leg) := ⟨rfl, rfl, rfl, by decide +kernel, rfl, by decide +kernel, by decide +kernel⟩
section
variable {P : Program} {w : World} {K : PySem.W.Frag} {mg : Str → Option Value} {base : Heap}
theorem look_shows2 (v : V) : ([("prime", v)] : List (Str × V)).lookup ("shows" : Str) = none := by
  show (match (("shows" : Str) == ("prime" : Str)) with | true => some v | false => none) = none
  rw [show (("shows" : Str) == ("prime" : Str)) = false by decide +kernel]
theorem made_b {H : Hp} {x dx C : Addr} {v : V} (nx : H x = none) (ndx : H dx = none) : Same H (upd (upd (upd H dx (.own x)) x (.ins C dx [])) x (.ins C dx [("prime", v)])) := same_new nx (same_new nx (same_upd ndx))
/-! ### check_number, in its range -/
def sp_check_number : Sp := fun vs H Q _ => ∃ N : Int, vs = [.int N] ∧ 2 ≤ N ∧ N ≤ 1000000 ∧ Q .non H
theorem ok_check_number {tk : Tok} (g_MOST : mg "MOST" = some (.int 1000000 tk)) (D : Is K mg "check_number" s_check_number ["number"]) (H_is_whole : Has P w K mg base 1 "is_whole" ["thing"] (sp_is_whole K)) : Has P w K mg base 2 "check_number" ["number"] sp_check_number := by
  obtain ⟨f, fd, F, b, g⟩ := D
  obtain ⟨f_is_whole, fd_is_whole, G_is_whole, k_is_whole, b_is_whole, g_is_whole⟩ := H_is_whole
  refine ⟨f, fd, F.ok sc_check_number (fun vs H Q E h => ?_) (fun cdv A outer s H vs Q E hr h => ?_), F.kp, b, g⟩
  · obtain ⟨N, rfl, _⟩ := h
    rfl
  · obtain ⟨N, rfl, h1, h2, q⟩ := h
    refine ⟨_, (pss_one (ps_if (PW.pt (pw_or (pt_not (pt_val (pe_call G_is_whole (hr.mono (by decide)) (by rfl) g_is_whole k_is_whole b_is_whole .nil pass0 (pa_cons (pv 0) pa_nil)))) (pw_or1 (pt_not (pt_chain op_le op_le pe_int (pv 0) (pe_glob (v := .int 1000000) rfl g_MOST ⟨_, rfl⟩)))))) (pss_one ps_never) pss_nil)), ?_⟩
    refine ⟨_, rfl, _, "int", true, false, rfl, .base (.int _), kb_int_int, kb_int_bool, true, rfl, iteF ?_⟩
    refine ⟨_, rfl, _, _, rfl, rfl, _, rfl, ?_⟩
    rw [decide_eq_true h1]
    refine iteT ⟨_, _, rfl, rfl, _, rfl, ?_⟩
    rw [decide_eq_true h2]
    exact iteF q
/-- an answer: barred by a prime, or with the list that is due -/
def sp_longest (K : PySem.W.Frag) (CB CL : Addr) : Sp := fun vs H Q _ => ∃ N : Int, vs = [.int N] ∧ 2 ≤ N ∧ N ≤ 1000000 ∧ (∀ H' x dx p, Same H H' → H' x = some (.ins CB dx [("prime", .int p)]) → brd N p = true → Q (.ref x) H') ∧
  (∀ H' x dx l xs, Same H H' → H' x = some (.ins CL dx [("triples", .ref l)]) → H' l = some (.lst xs) → H l = none → TrS K H' xs (srt (lgL N)) → lgL N ≠ [] → Q (.ref x) H')
theorem ok_longest (B : Bt mg) (hN : base.NoSeer) (ht : P.given.tree = none) {CB CL : Addr} (c_Barred : KC K mg "Barred" CB) (c_Longest : KC K mg "Longest" CL) (D : Is K mg "longest" s_longest ["number"]) (H_check_number : Has P w K mg base 2 "check_number" ["number"] sp_check_number) (H_Barred_init : HasM P w K mg base 1 CB "__init__" ["self", "prime"] (sp_barred CB)) (H_Longest_init : HasM P w K mg base 1 CL "__init__" ["self", "triples"] (sp_keeps K CL)) (H_longest_of : Has P w K mg base 34 "longest_of" ["number"] (sp_longest_of K)) :
    Has P w K mg base 35 "longest" ["number"] (sp_longest K CB CL) := by
  obtain ⟨f, fd, F, b, g⟩ := D
  obtain ⟨f_check_number, fd_check_number, G_check_number, k_check_number, b_check_number, g_check_number⟩ := H_check_number
  obtain ⟨f_Barred_init, fd_Barred_init, G_Barred_init, b_Barred_init, m_Barred_init⟩ := H_Barred_init
  obtain ⟨f_Longest_init, fd_Longest_init, G_Longest_init, b_Longest_init, m_Longest_init⟩ := H_Longest_init
  obtain ⟨f_longest_of, fd_longest_of, G_longest_of, k_longest_of, b_longest_of, g_longest_of⟩ := H_longest_of
  refine ⟨f, fd, F.ok sc_longest (fun vs H Q E h => ?_) (fun cdv A outer s H vs Q E hr h => ?_), F.kp, b, g⟩
  · obtain ⟨N, rfl, _⟩ := h
    rfl
  · obtain ⟨N, rfl, h1, h2, qB, qL⟩ := h
    have hd : (A.deeper (envOfC "longest" (defScope s_longest) s.heap.objs.size f cdv)).depth + 100 < recursionLimit := by
      have := hr.dp
      omega
    refine ⟨_, (pss_cons (ps_expr (pe_call G_check_number (hr.mono (by decide)) (by rfl) g_check_number k_check_number b_check_number .nil pass0 (pa_cons (pv 0) pa_nil))) (pss_cons (ps_set (i := 1) sc_longest.nd rfl (Or.inl rfl) (pv 0)) (pss_cons (ps_set (i := 2) sc_longest.nd rfl (Or.inl rfl) pe_int) (pss_cons (ps_while PassesOwn.never (pt_cmpR op_le (pe_op op_mulX (pv 2) (pv 2)) (pv 1) (nomark _)) (pss_one (ps_if (pt_cmpR op_eq (pe_op op_mod (pv 1) (pv 2)) pe_int (nomark _)) (pss_cons (ps_if (PW.pt (pw_or (pt_cmpR op_eq (pv 2) pe_int (nomark _)) (pw_or1 (pt_cmpR op_eq (pe_op op_mod (pv 2) pe_int) pe_int (nomark _))))) (pss_one (ps_ret (pe_make ⟨c_Barred.makes, m_Barred_init.at_, m_Barred_init.fn, c_Barred.kp⟩ G_Barred_init (hr.mono (by decide)) (by rfl) c_Barred.mg b_Barred_init .nil pass0 (pa_cons (pv 2) pa_nil)))) pss_nil) (pss_one (ps_set (i := 1) sc_longest.nd rfl (Or.inl rfl) (pe_op (op_fdivP (l := outer) hN ht rfl rfl rfl hd) (pv 1) (pv 2))))) (pss_one (ps_aug (i := 2) sc_longest.nd rfl (Or.inl rfl) pe_int ip_add))))) (pss_cons (ps_if (PW.pt (pw_or (pt_cmpR op_eq (pv 1) pe_int (nomark _)) (pw_or1 (pt_cmpR op_eq (pe_op op_mod (pv 1) pe_int) pe_int (nomark _))))) (pss_one (ps_ret (pe_make ⟨c_Barred.makes, m_Barred_init.at_, m_Barred_init.fn, c_Barred.kp⟩ G_Barred_init (hr.mono (by decide)) (by rfl) c_Barred.mg b_Barred_init .nil pass0 (pa_cons (pv 1) pa_nil)))) pss_nil) (pss_one (ps_ret (pe_make ⟨c_Longest.makes, m_Longest_init.at_, m_Longest_init.fn, c_Longest.kp⟩ G_Longest_init (hr.mono (by decide)) (by rfl) c_Longest.mg b_Longest_init .nil pass0 (pa_cons (pe_call G_longest_of (hr.mono (by decide)) (by rfl) g_longest_of k_longest_of b_longest_of .nil pass0 (pa_cons (pv 0) pa_nil)) pa_nil))))))))), ?_⟩
    refine ⟨_, rfl, N, rfl, h1, h2, _, rfl, ?_⟩
    refine ⟨fun k σ H' => ∃ l p : Int, σ = [some (.int N), some (.int l), some (.int p)] ∧ k = (2 * l - p).toNat ∧ Trial N l p ∧ l ≤ N ∧ p ≤ l ∧ H' = H, ⟨_, N, 2, rfl, rfl, .start h1, Int.le_refl _, h1, rfl⟩, ?_⟩
    rintro k σ H' ⟨l, p, rfl, rfl, t, ln, pl, rfl⟩
    have l2 := t.l2
    have p2 := t.p2
    refine ⟨_, rfl, _, rfl, _, _, rfl, rfl, mxs (by omega), _, rfl, _, _, rfl, rfl, _, rfl, if_b (fun c => ?_) (fun c => ?_)⟩
    · have c := of_decide_eq_true c
      refine ⟨fun σ' H2 => ∃ k', k' < (2 * l - p).toNat ∧ ∃ l p : Int, σ' = [some (.int N), some (.int l), some (.int p)] ∧ k' = (2 * l - p).toNat ∧ Trial N l p ∧ l ≤ N ∧ p ≤ l ∧ H2 = H', fun _ _ h => h, ?_⟩
      refine ⟨_, rfl, _, rfl, _, _, rfl, rfl, (show (0 : Int) < p by omega), rfl, _, rfl, ?_⟩
      rw [dec_vint]
      have pp : 2 * p ≤ p * p := Int.mul_le_mul_of_nonneg_right p2 (by omega)
      refine if_b (fun c1 => ?_) (fun c1 => ?_)
      · have c1 := of_decide_eq_true c1
        have barred : (p = 2 ∨ p % 4 = 3) → ∀ x dx, H' x = none → H' dx = none → dx ≠ x → Q (.ref x) (upd (upd (upd H' dx (.own x)) x (.ins CB dx [])) x (.ins CB dx [("prime", .int p)])) := fun z x dx nx ndx _ => qB _ x dx p (made_b nx ndx) upd_same (t.bar (by omega) c1 z)
        refine ⟨_, rfl, rfl, _, rfl, ?_⟩
        rw [dec_vint]
        refine if_b (fun c2 => ?_) (fun c2 => ?_)
        · have c2 := of_decide_eq_true c2
          exact iteT ⟨_, rfl, fun x dx nx ndx ne => ⟨x, dx, .int p, rfl, upd_same, rfl, barred (.inl c2) x dx nx ndx ne⟩⟩
        have c2 := of_decide_eq_false c2
        refine ⟨_, rfl, _, _, rfl, rfl, (by decide : (0 : Int) < 4), rfl, _, rfl, ?_⟩
        rw [dec_vint]
        refine if_b (fun c3 => ?_) (fun c3 => ?_)
        · have c3 := of_decide_eq_true c3
          exact ⟨_, rfl, fun x dx nx ndx ne => ⟨x, dx, .int p, rfl, upd_same, rfl, barred (.inr c3) x dx nx ndx ne⟩⟩
        have c3 := of_decide_eq_false c3
        have td := t.down c1 c (fun z => z.elim c2 c3)
        have e := Int.mul_ediv_add_emod l p
        rw [c1, Int.add_zero] at e
        have up : p ≤ l / p := by
          rw [← e] at c
          exact Int.le_of_mul_le_mul_left c (by omega)
        have lt : 2 * (l / p) ≤ l := by
          have : 2 * (l / p) ≤ p * (l / p) := Int.mul_le_mul_of_nonneg_right p2 (by omega)
          omega
        refine ⟨_, rfl, _, rfl, _, _, rfl, rfl, (show (0 : Int) < p by omega), (2 * (l / p) - p).toNat, by omega, l / p, p, rfl, rfl, td, by omega, up, rfl⟩
      · have c1 := of_decide_eq_false c1
        exact ⟨_, rfl, _, _, rfl, rfl, (2 * l - (p + 1)).toNat, by omega, l, p + 1, rfl, rfl, t.next c1, ln, by omega, rfl⟩
    · have c := Int.not_le.mp (of_decide_eq_false c)
      have barred : (l = 2 ∨ l % 4 = 3) → ∀ x dx, H' x = none → H' dx = none → dx ≠ x → Q (.ref x) (upd (upd (upd H' dx (.own x)) x (.ins CB dx [])) x (.ins CB dx [("prime", .int l)])) := fun z x dx nx ndx _ => qB _ x dx l (made_b nx ndx) upd_same (t.barL (by omega) c z)
      refine ⟨_, rfl, rfl, _, rfl, ?_⟩
      rw [dec_vint]
      refine if_b (fun c2 => ?_) (fun c2 => ?_)
      · have c2 := of_decide_eq_true c2
        exact iteT ⟨_, rfl, fun x dx nx ndx ne => ⟨x, dx, .int l, rfl, upd_same, rfl, barred (.inl c2) x dx nx ndx ne⟩⟩
      have c2 := of_decide_eq_false c2
      refine ⟨_, rfl, _, _, rfl, rfl, (by decide : (0 : Int) < 4), rfl, _, rfl, ?_⟩
      rw [dec_vint]
      refine if_b (fun c3 => ?_) (fun c3 => ?_)
      · have c3 := of_decide_eq_true c3
        exact ⟨_, rfl, fun x dx nx ndx ne => ⟨x, dx, .int l, rfl, upd_same, rfl, barred (.inr c3) x dx nx ndx ne⟩⟩
      have c3 := of_decide_eq_false c3
      have some := t.found h1 c (fun z => z.elim c2 c3)
      refine ⟨_, rfl, N, rfl, by omega, by omega, fun H1 r ys s1 hr1 _ ht1 => fun x dx nx ndx ne => ⟨x, dx, r, ys, rfl, upd_same, SqL.of (same_new nx (same_upd ndx) _ _ hr1), fun l0 nl0 => ⟨rfl, ?_⟩⟩⟩
      obtain ⟨s2, a1, b1, z1⟩ := made (C := CL) (xs := ys) nx ndx nl0
      exact qL _ x dx l0 ys (s1.trans s2) a1 b1 (s1.free z1) (ht1.same s2) some
/-! ### leg -/
def sp_leg (K : PySem.W.Frag) (CH CG : Addr) : Sp := fun vs H Q _ => ∃ N : Int, vs = [.int N] ∧ 2 ≤ N ∧ N ≤ 1000000 ∧ (N % 4 = 2 → ∀ H' x dx, Same H H' → H' x = some (.ins CH dx []) → Q (.ref x) H') ∧
  (N % 4 ≠ 2 → ∀ H' x dx l xs, Same H H' → H' x = some (.ins CG dx [("triples", .ref l)]) → H' l = some (.lst xs) → H l = none → TrS K H' xs (srt (leL N)) → leL N ≠ [] → Q (.ref x) H')
theorem ok_leg (B : Bt mg) {CH CG : Addr} (c_Halved : KC K mg "Halved" CH) (i_Halved : PySem.W.findIn K (.ref CH) "__init__" = some (some (.builtin "object.__init__"))) (c_Leg : KC K mg "Leg" CG) (D : Is K mg "leg" s_leg ["number"]) (H_check_number : Has P w K mg base 2 "check_number" ["number"] sp_check_number) (H_Leg_init : HasM P w K mg base 1 CG "__init__" ["self", "triples"] (sp_keeps K CG)) (H_legs_of : Has P w K mg base 33 "legs_of" ["number"] (sp_legs_of K)) :
    Has P w K mg base 34 "leg" ["number"] (sp_leg K CH CG) := by
  obtain ⟨f, fd, F, b, g⟩ := D
  obtain ⟨f_check_number, fd_check_number, G_check_number, k_check_number, b_check_number, g_check_number⟩ := H_check_number
  obtain ⟨f_Leg_init, fd_Leg_init, G_Leg_init, b_Leg_init, m_Leg_init⟩ := H_Leg_init
  obtain ⟨f_legs_of, fd_legs_of, G_legs_of, k_legs_of, b_legs_of, g_legs_of⟩ := H_legs_of
  refine ⟨f, fd, F.ok sc_leg (fun vs H Q E h => ?_) (fun cdv A outer s H vs Q E hr h => ?_), F.kp, b, g⟩
  · obtain ⟨N, rfl, _⟩ := h
    rfl
  · obtain ⟨N, rfl, h1, h2, qH, qL⟩ := h
    refine ⟨_, (pss_cons (ps_expr (pe_call G_check_number (hr.mono (by decide)) (by rfl) g_check_number k_check_number b_check_number .nil pass0 (pa_cons (pv 0) pa_nil))) (pss_one (ps_ret (pe_ifExp (pt_cmpR op_eq (pe_op op_mod (pv 0) pe_int) pe_int (nomark _)) (pe_bare c_Halved.makes c_Halved.kp i_Halved (by rfl) c_Halved.mg) (pe_make ⟨c_Leg.makes, m_Leg_init.at_, m_Leg_init.fn, c_Leg.kp⟩ G_Leg_init (hr.mono (by decide)) (by rfl) c_Leg.mg b_Leg_init .nil pass0 (pa_cons (pe_call G_legs_of (hr.mono (by decide)) (by rfl) g_legs_of k_legs_of b_legs_of .nil pass0 (pa_cons (pv 0) pa_nil)) pa_nil)))))), ?_⟩
    refine ⟨_, rfl, N, rfl, h1, h2, _, rfl, _, _, rfl, rfl, (by decide : (0 : Int) < 4), rfl, _, rfl, ?_⟩
    rw [dec_vint]
    refine if_b (fun c => ?_) (fun c => ?_)
    · have c := of_decide_eq_true c
      exact fun x dx nx ndx ne => qH c _ x dx (same_new nx (same_upd ndx)) upd_same
    · have c := of_decide_eq_false c
      refine ⟨_, rfl, N, rfl, by omega, by omega, fun H1 r ys s1 hr1 _ ht1 => fun x dx nx ndx ne => ⟨x, dx, r, ys, rfl, upd_same, SqL.of (same_new nx (same_upd ndx) _ _ hr1), fun l0 nl0 => ⟨rfl, ?_⟩⟩⟩
      obtain ⟨s2, a1, b1, z1⟩ := made (C := CG) (xs := ys) nx ndx nl0
      exact qL c _ x dx l0 ys (s1.trans s2) a1 b1 (s1.free z1) (ht1.same s2) (leL_some (by omega) c)
end
end SqP

namespace SqP
open PySem PySem.Spec PyProof.Rows L2 Sq
/-! ### a method of an object whose class is known at the call only -/
def HeldM (P : Program) (w : World) (K : PySem.W.Frag) (mg : Str → Option Value) (base : Heap) (k : Nat) (C : Addr) (m : Str) (sp : Sp) : Prop := ∃ (ps : List Str), HasM P w K mg base k C m ps sp ∧ Cls K C
def tMethA (m : Str) (S : Addr → Option Sp) (to : TE) (tx : TA) : TE := fun ρ H Q => to ρ H fun y H1 => ∃ p C dx fs sp, y = .ref p ∧ H1 p = some (.ins C dx fs) ∧ fs.lookup m = none ∧ S C = some sp ∧ tx ρ H1 fun zs H2 => sp (.ref p :: zs) H2 Q fun _ _ _ => False
theorem pe_methA {X : Cx} {k : Nat} {m : Str} {S : Addr → Option Sp} {o e : Expr} {es : List Expr} {to : TE} {tx : TA} {ap pos : Pos} {pl : Sem Bool} (A : ∀ C sp, S C = some sp → HeldM X.prog X.w X.K X.mg X.base k C m sp) (hr : Room k X.A) (ho : PE X o to) (hx : PA X (e :: es) tx)
    (hs : starEach (e :: es) X.env = (false, eval e X.env) :: starEach es X.env := by rfl) (hp : (backTo pos (starEach es X.env)).any (·.1) = false := by rfl)
    (ht : eval (.Call (.Attribute o m ap) (e :: es) [] pos) X.env = (do
      let ov ← eval o X.env
      standAt ap.atName
      let (f, first) ← holding [ov] (getMethod ov m pl)
      callWith pos f first (backTo pos (starEach (e :: es) X.env)) (backToKw pos (keywordEach [] X.env))) := by rfl) : PE X (.Call (.Attribute o m ap) (e :: es) [] pos) (tMethA m S to tx) := by
  constructor
  intro pn st ρ H Q I h
  refine PySem.W.methodCall_KW (pl := pl) (thn (ho.run pn st ρ H _ I h) fun u st1 ⟨y, H1, J, ry, p, C, dx, fs, sp, ey, ep, no, hS, q⟩ => ?_) ht
  subst ey
  obtain rfl : u = Value.ref p := ry
  obtain ⟨ps, ⟨f, fd, G, b, mt⟩, cl⟩ := A C sp hS
  refine getmeth_ok J ep cl mt no ?_
  refine PySem.W.callWith_K (first := [.ref p]) (h₀ := X.base) J.ok.mod.kin mt.kp (thn (hx.run pos pn st1 ρ H1 _ J q) fun us st2 ⟨zs, H2, J2, rz, q2⟩ => ⟨J2.kIn, ?_⟩) hs hp
  exact run_fn (us := .ref p :: us) (vs := .ref p :: zs) (ds := []) (dvs := []) G hr b .nil pass0 J2 (.cons rfl rz) (by rw [List.append_nil]; exact q2)
end SqP

namespace SqP
open PySem PySem.Spec PyProof.Rows L2 Sq
abbrev s__law_whole : Stmt := topS 27
theorem sc__law_whole : FnScope ["_law_number_here"] ["_law_number_here"] (defScope s__law_whole) := ⟨rfl, rfl, rfl, by decide +kernel, rfl, by decide +kernel, by decide +kernel⟩
abbrev s__law_are : Stmt := topS 28
theorem sc__law_are : FnScope ["_law_found", "_law_many", "_law_one"] ["_law_found", "_law_many"] (defScope s__law_are) := ⟨rfl, rfl, rfl, by decide +kernel, rfl, by decide +kernel, by decide +kernel⟩
section
variable {P : Program} {w : World} {K : PySem.W.Frag} {mg : Str → Option Value} {base : Heap}
/-! ### _law_whole -/
theorem ok__law_whole (B : Bt mg) (D : Is K mg "_law_whole" s__law_whole ["_law_number_here"]) : Has P w K mg base 1 "_law_whole" ["_law_number_here"] (sp_is_whole K) := by
  obtain ⟨f, fd, F, b, g⟩ := D
  refine ⟨f, fd, F.ok sc__law_whole (fun vs H Q E h => ?_) (fun cdv A outer s H vs Q E hr h => ?_), F.kp, b, g⟩
  · obtain ⟨v, T, bi, bb, rfl, _⟩ := h
    rfl
  · obtain ⟨v, T, bi, bb, rfl, ty, k1, k2, q⟩ := h
    refine ⟨_, (pss_one (ps_ret (pe_and (pe_callB call_isi (by rfl) B.isi (by decide +kernel) (pa_cons (pv 0) (pa_cons (pe_bltn (v := .ty "int") (by rfl) B.int (by decide +kernel) rfl) pa_nil))) (pe_one (pe_not (pe_callB call_isi (by rfl) B.isi (by decide +kernel) (pa_cons (pv 0) (pa_cons (pe_bltn (v := .ty "bool") (by rfl) B.bool (by decide +kernel) rfl) pa_nil)))))))), ?_⟩
    refine ⟨_, rfl, v, .ty "int", _, _, bi, rfl, .ty _, ty, kit_ty k1, bi, rfl, ?_⟩
    cases bi with
    | false => exact iteF q
    | true => exact iteT ⟨_, rfl, v, .ty "bool", _, _, bb, rfl, .ty _, ty, kit_ty k2, bb, rfl, q⟩

/-! ### _law_are -/
def sp_are (K : PySem.W.Frag) : Sp := fun vs H Q _ => ∃ (a : Addr) (ns : List Int) (n : Int), vs = [.ref a, .int n] ∧ SqT K H a (ns.map V.int) ∧ ns.length ≤ 1000 ∧ (ns.length : Int) = n ∧ ∀ H', Same H H' → Q (.bl true) H'
theorem ok__law_are (B : Bt mg) (D : Is K mg "_law_are" s__law_are ["_law_found", "_law_many"]) (H__law_whole : Has P w K mg base 1 "_law_whole" ["_law_number_here"] (sp_is_whole K)) : Has P w K mg base 2 "_law_are" ["_law_found", "_law_many"] (sp_are K) := by
  obtain ⟨f, fd, F, b, g⟩ := D
  obtain ⟨f__law_whole, fd__law_whole, G__law_whole, k__law_whole, b__law_whole, g__law_whole⟩ := H__law_whole
  refine ⟨f, fd, F.ok sc__law_are (fun vs H Q E h => ?_) (fun cdv A outer s H vs Q E hr h => ?_), F.kp, b, g⟩
  · obtain ⟨a, ns, n, rfl, _⟩ := h
    rfl
  · obtain ⟨a, ns, n, rfl, hS, hl, hn, q⟩ := h
    refine ⟨_, (pss_one (ps_ret (pe_and (pe_callB call_isi (by rfl) B.isi (by decide +kernel) (pa_cons (pv 0) (pa_cons (pe_bltn (v := .ty "tuple") (by rfl) B.tuple (by decide +kernel) rfl) pa_nil))) (pe_and (pe_cmpR op_eq (pe_callB call_len_seq (by rfl) B.len PySem.boot_len (pa_cons (pv 0) pa_nil)) (pv 1) (nomark _)) (pe_one (pe_callB (cr_all rfl) (by rfl) B.all (by decide +kernel) (pa_cons (pe_lc (own := [("_law_one", 2)]) (g := gName 2) (tt := tYes) rfl sc__law_are.nd (pi_tup (pv 0)) (blkOk_by (N := ["_law_found", "_law_many", "_law_one"]) (sc := defScope s__law_are) (by decide +kernel)) (fun _ _ _ _ _ => pg_name (i := 2) sc__law_are.nd rfl (Or.inl rfl)) (fun _ _ _ _ _ => pts_nil) (fun _ _ _ _ _ => (pe_call G__law_whole (hr.mono (by decide)) (by rfl) g__law_whole k__law_whole b__law_whole .nil pass0 (pa_cons (pv 2) pa_nil)))) pa_nil))))))), ?_⟩
    refine ⟨_, rfl, _, _, _, _, true, rfl, .ty _, tyx_tup hS, kit_ty kb_tup_tup, true, rfl, iteT ?_⟩
    refine ⟨_, rfl, a, _, rfl, .inr hS, _, rfl, rfl, true, ?_, iteT ?_⟩
    · rw [List.length_map, dec_vint, decide_eq_true hn]
    refine ⟨_, rfl, a, rfl, ⟨_, hS⟩, fun D nD => lc_over_tup (xs := ns.map V.int) (ys := List.replicate ns.length (.bl true)) (j := 2) hS nD (by simp) (by rw [List.length_map]; omega) (fun i x y hx hy => ?_) (fun H' s1 d1 => ?_)⟩
    · have hi : i < ns.length := by
        have := (List.getElem?_eq_some_iff.mp hx).1
        rw [List.length_map] at this
        exact this
      rw [List.getElem?_map, List.getElem?_eq_getElem hi] at hx
      rw [List.getElem?_replicate, if_pos hi] at hy
      cases hx
      cases hy
      intro H1 s1 R hR
      exact ⟨_, rfl, .int _, "int", true, false, rfl, .base (.int _), kb_int_int, kb_int_bool, hR _ (Same.refl _)⟩
    · refine ⟨D, List.replicate ns.length true, rfl, SqL.of (by rw [d1, List.map_replicate]), ?_⟩
      rw [show (List.replicate ns.length true).all id = true by simp]
      exact q H' s1
/-- what isinstance asks of an own class, and its answers -/
structure InsF (K : PySem.W.Frag) (C : Addr) : Prop where
  cl : Cls K C
  ha : PySem.W.findIn K (.ref C) "__class__" = some (some (.builtin "object.__class__"))
  hn : PySem.W.specialIn K (.builtin "object.__class__") "__get__" = some (some (.builtin "getset_descriptor.__get__"))
  htk : PySem.W.takesIn K (.builtin "object.__class__") = some true
  hm : PySem.W.mroIn K C (.type "object") = some true
theorem InsF.ty {C p dx : Addr} {fs : List (Str × V)} {H : Hp} (i : InsF K C) (h : H p = some (.ins C dx fs)) : TyX K H (.ref p) (.ref C) := .base (.ins h i.cl i.ha i.hn i.htk i.hm)
end
end SqP

namespace SqP
open PySem PySem.Spec PyProof.Rows L2 Sq
abbrev s__law_due : Stmt := topS 36
theorem sc__law_due : FnScope ["_law_known", "_law_number_here", "_law_found"] ["_law_known", "_law_number_here", "_law_found"] (defScope s__law_due) := ⟨rfl, rfl, rfl, by decide +kernel, rfl, by decide +kernel, by decide +kernel⟩
section
variable {P : Program} {w : World} {K : PySem.W.Frag} {mg : Str → Option Value} {base : Heap}
def dueL (L M : List Tr) : Bool := decide (L ≠ []) && decide (L = M)
/-- what is known so far: of each number its two lists -/
def Known (K : PySem.W.Frag) (H : Hp) (kvs : List (Key × V)) (U : Addr → Prop) : Prop := ∀ (N : Int) (v : V), valV kvs (.inl N) = some v → ∃ (t a b : Addr) (xs ys : List V), v = .ref t ∧ SqT K H t [.ref a, .ref b] ∧ H a = some (.lst xs) ∧ H b = some (.lst ys) ∧ TrS K H xs (srt (lgL N)) ∧ TrS K H ys (srt (leL N)) ∧ U a ∧ U b
theorem Known.on {H H' : Hp} {kvs : List (Key × V)} {U : Addr → Prop} (h : Known K H kvs U) (s : Same H H') : Known K H' kvs U := fun N v e => by
  obtain ⟨t, a, b, xs, ys, e1, h1, h2, h3, h4, h5, h6⟩ := h N v e
  exact ⟨t, a, b, xs, ys, e1, Same.tup s h1, s _ _ h2, s _ _ h3, h4.same s, h5.same s, h6⟩
theorem Known.use {H : Hp} {kvs : List (Key × V)} {U V : Addr → Prop} (h : Known K H kvs U) (w : ∀ y, U y → V y) : Known K H kvs V := fun N v e => by
  obtain ⟨t, a, b, xs, ys, e1, h1, h2, h3, h4, h5, h6, h7⟩ := h N v e
  exact ⟨t, a, b, xs, ys, e1, h1, h2, h3, h4, h5, w a h6, w b h7⟩
theorem Known.here {H : Hp} {kvs : List (Key × V)} {U : Addr → Prop} (h : Known K H kvs U) : Known K H kvs (fun y => H y ≠ none) := fun N v e => by
  obtain ⟨t, a, b, xs, ys, e1, h1, h2, h3, h4, h5, h6, h7⟩ := h N v e
  exact ⟨t, a, b, xs, ys, e1, h1, h2, h3, h4, h5, (fun z => by rw [h2] at z; cases z), (fun z => by rw [h3] at z; cases z)⟩
/-- all kept but what stands at d -/
def Kept (d : Addr) (H H' : Hp) : Prop := ∀ b o, b ≠ d → H b = some o → H' b = some o
theorem Kept.of {d : Addr} {H H' : Hp} (s : Same H H') : Kept d H H' := fun b o _ e => s b o e
theorem Kept.trans {d : Addr} {H H1 H2 : Hp} (h : Kept d H H1) (g : Kept d H1 H2) : Kept d H H2 := fun b o n e => g b o n (h b o n e)
theorem Kept.tup {d t : Addr} {H H' : Hp} {zs : List V} {kvs : List (Key × V)} (hd : H d = some (.dK kvs)) (h : Kept d H H') (q : SqT K H t zs) : SqT K H' t zs := by
  rcases q with (e | ⟨o, e⟩) | h2
  · exact .inl (.inl (h _ _ (fun z => by rw [z, hd] at e; cases e) e))
  · exact .inl (.inr ⟨o, h _ _ (fun z => by rw [z, hd] at e; cases e) e⟩)
  · exact .inr h2
theorem Kept.trs {d : Addr} {H H' : Hp} {kvs : List (Key × V)} (hd : H d = some (.dK kvs)) (h : Kept d H H') : ∀ {xs : List V} {L : List Tr}, TrS K H xs L → TrS K H' xs L
  | _, _, .nil => .nil
  | _, _, .cons a r => .cons (h.tup hd a) (h.trs hd r)
theorem Kept.known {d : Addr} {H H' : Hp} {kvs ws : List (Key × V)} {U : Addr → Prop} (hd : H d = some (.dK kvs)) (h : Kept d H H') (k : Known K H ws U) : Known K H' ws U := fun N v e => by
  obtain ⟨t, a, b, xs, ys, e1, h1, h2, h3, h4, h5, h6⟩ := k N v e
  exact ⟨t, a, b, xs, ys, e1, h.tup hd h1, h _ _ (fun z => by rw [z, hd] at h2; cases h2) h2, h _ _ (fun z => by rw [z, hd] at h3; cases h3) h3, h.trs hd h4, h.trs hd h5, h6⟩
/-- the four kinds of an answer -/
inductive AK where
  | longest (L : List Tr) : AK
  | leg (L : List Tr) : AK
  | barred (p : Int) : AK
  | halved : AK
structure Cs where
  L : Addr
  G : Addr
  B : Addr
  H : Addr
def AK.due (N : Int) : AK → Bool
  | .longest L => SqP.dueL L (srt (lgL N))
  | .leg L => SqP.dueL L (srt (leL N))
  | .barred p => brd N p
  | .halved => decide (N % 4 = 2)
end
end SqP

namespace SqP
open PySem PySem.Spec PyProof.Rows L2 Sq
section
variable {P : Program} {w : World} {K : PySem.W.Frag} {mg : Str → Option Value} {base : Heap}
def AkAt (K : PySem.W.Frag) (c : Cs) (H : Hp) (x l : Addr) : AK → Prop
  | .longest L => ∃ dx xs, H x = some (.ins c.L dx [("triples", .ref l)]) ∧ H l = some (.lst xs) ∧ TrS K H xs L
  | .leg L => ∃ dx xs, H x = some (.ins c.G dx [("triples", .ref l)]) ∧ H l = some (.lst xs) ∧ TrS K H xs L
  | .barred p => ∃ dx, H x = some (.ins c.B dx [("prime", .int p)])
  | .halved => ∃ dx, H x = some (.ins c.H dx [])
theorem AkAt.kept {c : Cs} {d x l : Addr} {H H' : Hp} {kvs : List (Key × V)} (hd : H d = some (.dK kvs)) (h : Kept d H H') : ∀ {k : AK}, AkAt K c H x l k → AkAt K c H' x l k
  | .longest _, ⟨dx, xs, a, b, t⟩ => ⟨dx, xs, h _ _ (fun z => by rw [z, hd] at a; cases a) a, h _ _ (fun z => by rw [z, hd] at b; cases b) b, h.trs hd t⟩
  | .leg _, ⟨dx, xs, a, b, t⟩ => ⟨dx, xs, h _ _ (fun z => by rw [z, hd] at a; cases a) a, h _ _ (fun z => by rw [z, hd] at b; cases b) b, h.trs hd t⟩
  | .barred _, ⟨dx, a⟩ => ⟨dx, h _ _ (fun z => by rw [z, hd] at a; cases a) a⟩
  | .halved, ⟨dx, a⟩ => ⟨dx, h _ _ (fun z => by rw [z, hd] at a; cases a) a⟩
def sp_due (K : PySem.W.Frag) (c : Cs) : Sp := fun vs H Q _ => ∃ (kn x l : Addr) (kvs : List (Key × V)) (U : Addr → Prop) (N : Int) (k : AK), vs = [.ref kn, .int N, .ref x] ∧ H kn = some (.dK kvs) ∧ Known K H kvs U ∧ kvs.length ≤ 1000000 ∧ 2 ≤ N ∧ N ≤ 2000000 ∧ AkAt K c H x l k ∧
  ∀ H' ws U', Kept kn H H' → H' kn = some (.dK ws) → Known K H' ws U' → (∀ y, U' y → U y ∨ H y = none) → ws.length ≤ kvs.length + 1 → Q (.bl (k.due N)) H'
theorem putK_len (kvs : List (Key × V)) (k : Key) (v : V) : (putK kvs k v).length ≤ kvs.length + 1 := by
  unfold putK
  split <;> simp
/-- isinstance's answers among the classes -/
structure IsF (K : PySem.W.Frag) (c : Cs) : Prop where
  fL : InsF K c.L
  fG : InsF K c.G
  fB : InsF K c.B
  fH : InsF K c.H
  LL : PySem.W.kitOne K (.ref c.L) (.ref c.L) = some true
  GL : PySem.W.kitOne K (.ref c.G) (.ref c.L) = some false
  BL : PySem.W.kitOne K (.ref c.B) (.ref c.L) = some false
  HL : PySem.W.kitOne K (.ref c.H) (.ref c.L) = some false
  GG : PySem.W.kitOne K (.ref c.G) (.ref c.G) = some true
  BG : PySem.W.kitOne K (.ref c.B) (.ref c.G) = some false
  HG : PySem.W.kitOne K (.ref c.H) (.ref c.G) = some false
  BH : PySem.W.kitOne K (.ref c.B) (.ref c.H) = some false
  HH : PySem.W.kitOne K (.ref c.H) (.ref c.H) = some true
theorem ok__law_due (B : Bt mg) {c : Cs} (I : IsF K c) (c_Longest : KC K mg "Longest" c.L) (nT : NoAttr K c.L "triples") (c_Leg : KC K mg "Leg" c.G) (nT2 : NoAttr K c.G "triples") (c_Halved : KC K mg "Halved" c.H) (nP : NoAttr K c.B "prime") (D : Is K mg "_law_due" s__law_due ["_law_known", "_law_number_here", "_law_found"])
    (H__law_longest : Has P w K mg base 2 "_law_longest" ["_law_number_here"] (sp_longest_of K)) (H__law_legs : Has P w K mg base 33 "_law_legs" ["_law_number_here"] (sp_legs_of K)) (H__law_bars : Has P w K mg base 3 "_law_bars" ["_law_number_here", "_law_prime"] sp_bars) : Has P w K mg base 34 "_law_due" ["_law_known", "_law_number_here", "_law_found"] (sp_due K c) := by
  obtain ⟨f, fd, F, b, g⟩ := D
  obtain ⟨f__law_longest, fd__law_longest, G__law_longest, k__law_longest, b__law_longest, g__law_longest⟩ := H__law_longest
  obtain ⟨f__law_legs, fd__law_legs, G__law_legs, k__law_legs, b__law_legs, g__law_legs⟩ := H__law_legs
  obtain ⟨f__law_bars, fd__law_bars, G__law_bars, k__law_bars, b__law_bars, g__law_bars⟩ := H__law_bars
  refine ⟨f, fd, F.ok sc__law_due (fun vs H Q E h => ?_) (fun cdv A outer s H vs Q E hr h => ?_), F.kp, b, g⟩
  · obtain ⟨kn, x, l, kvs, U, N, k, rfl, _⟩ := h
    rfl
  · obtain ⟨kn, x, l, kvs, U, N, k, rfl, hk, kw, hl, n1, n2, ak, q⟩ := h
    refine ⟨_, (C8.pss_cut (ps_if (pt_cmp (pc_dnotin (Nat.lt_of_le_of_lt (Nat.add_le_add_left (by decide : 1 ≤ 64) _) hr.units) (pv 1) (pv 0))) (pss_one (ps_dput (Nat.lt_of_le_of_lt (Nat.add_le_add_left (by decide : 1 ≤ 64) _) hr.units) (pv 0) (pv 1) (pe_tup (pa_cons (pe_call G__law_longest (hr.mono (by decide)) (by rfl) g__law_longest k__law_longest b__law_longest .nil pass0 (pa_cons (pv 1) pa_nil)) (pa_cons (pe_call G__law_legs (hr.mono (by decide)) (by rfl) g__law_legs k__law_legs b__law_legs .nil pass0 (pa_cons (pv 1) pa_nil)) pa_nil))) rfl)) pss_nil) (pss_cons (ps_if (pt_val (pe_callB call_isi (by rfl) B.isi (by decide +kernel) (pa_cons (pv 2) (pa_cons (pe_glob (v := .ref c.L) (by rfl) c_Longest.mg rfl) pa_nil)))) (pss_one (ps_ret (pe_and (pe_cmpR (op_neD hr.units) (pe_fld (pv 2) rfl) (pe_lst pa_nil) (nomark _)) (pe_one (pe_cmpR (op_eqD hr.units) (pe_fld (pv 2) rfl) (pe_ix ix_tup (pe_dget (Nat.lt_of_le_of_lt (Nat.add_le_add_left (by decide : 1 ≤ 64) _) hr.units) (pv 0) (pv 1) (fun _ _ => rfl)) pe_int (fun _ _ => rfl)) (nomark _)))))) pss_nil) (pss_cons (ps_if (pt_val (pe_callB call_isi (by rfl) B.isi (by decide +kernel) (pa_cons (pv 2) (pa_cons (pe_glob (v := .ref c.G) (by rfl) c_Leg.mg rfl) pa_nil)))) (pss_one (ps_ret (pe_and (pe_cmpR (op_neD hr.units) (pe_fld (pv 2) rfl) (pe_lst pa_nil) (nomark _)) (pe_one (pe_cmpR (op_eqD hr.units) (pe_fld (pv 2) rfl) (pe_ix ix_tup (pe_dget (Nat.lt_of_le_of_lt (Nat.add_le_add_left (by decide : 1 ≤ 64) _) hr.units) (pv 0) (pv 1) (fun _ _ => rfl)) pe_int (fun _ _ => rfl)) (nomark _)))))) pss_nil) (pss_one (ps_ret (pe_ifExp (pt_val (pe_callB call_isi (by rfl) B.isi (by decide +kernel) (pa_cons (pv 2) (pa_cons (pe_glob (v := .ref c.H) (by rfl) c_Halved.mg rfl) pa_nil)))) (pe_cmpR op_eq (pe_op op_mod (pv 1) pe_int) pe_int (nomark _)) (pe_call G__law_bars (hr.mono (by decide)) (by rfl) g__law_bars k__law_bars b__law_bars .nil pass0 (pa_cons (pv 1) (pa_cons (pe_fld (pv 2) rfl) pa_nil))))))))), ?_⟩
    refine ⟨fun σ H' => σ = [some (.ref kn), some (.int N), some (.ref x)] ∧ ∃ ws v U', Kept kn H H' ∧ H' kn = some (.dK ws) ∧ Known K H' ws U' ∧ (∀ y, U' y → U y ∨ H y = none) ∧ ws.length ≤ kvs.length + 1 ∧ valV ws (.inl N) = some v, ?_, ?_⟩
    · refine ⟨_, rfl, _, rfl, kn, _, rfl, DGet.k (k := .inl N) hk, ?_⟩
      cases hv : valV kvs (.inl N) with
      | some v => exact ⟨_, rfl, iteF ⟨rfl, kvs, v, U, fun _ _ _ e => e, hk, kw, fun _ y => .inl y, by omega, hv⟩⟩
      | none =>
        refine ⟨_, rfl, iteT ?_⟩
        refine ⟨_, rfl, N, rfl, by omega, n2, fun H1 a xs s1 ha na ta => ⟨_, rfl, N, rfl, by omega, n2, fun H2 b ys s2 hb nb tb => ⟨len2, fun t nt => ?_⟩⟩⟩
        have s3 := same_upd (o := .tup [.ref a, .ref b]) nt
        have ht : SqT K (upd H2 t (.tup [.ref a, .ref b])) t [.ref a, .ref b] := SqT.of upd_same
        generalize upd H2 t (.tup [.ref a, .ref b]) = H3 at *
        have s13 := s1.trans (s2.trans s3)
        have hk3 := s13 _ _ hk
        refine ⟨_, rfl, _, rfl, kn, _, rfl, DPut.k (k := .inl N) hk3 (by rw [sizeLine_eq]; omega), rfl, putK kvs (.inl N) (.ref t), .ref t, fun y => U y ∨ H y = none, ?_, upd_same, ?_, fun _ y => y, putK_len _ _ _, by rw [valV_put, if_pos rfl]⟩
        · exact (Kept.of s13).trans fun b o ne e => by rw [upd_ne ne]; exact e
        · have kp : Kept kn H3 (upd H3 kn (.dK (putK kvs (.inl N) (.ref t)))) := fun b o ne e => by rw [upd_ne ne]; exact e
          intro M v e
          rw [valV_put] at e
          by_cases z : (Sum.inl M : Key) = .inl N
          · rw [if_pos z] at e
            cases e
            cases z
            have ha3 := (s2.trans s3) _ _ ha
            have hb3 := s3 _ _ hb
            exact ⟨t, a, b, xs, ys, rfl, kp.tup hk3 ht, kp _ _ (fun z => by rw [z, hk3] at ha3; cases ha3) ha3, kp _ _ (fun z => by rw [z, hk3] at hb3; cases hb3) hb3, kp.trs hk3 (ta.same (s2.trans s3)), kp.trs hk3 (tb.same s3), .inr na, .inr (s1.free nb)⟩
          · rw [if_neg z] at e
            exact kp.known hk3 ((kw.on s13).use fun _ y => .inl y) M v e
    · rintro σ H' ⟨rfl, ws, v, U2, kp, hw, kw2, hU, hl2, hv⟩
      obtain ⟨t, a, b, xs, ys, rfl, ht, ha, hb, ta, tb, _⟩ := kw2 N v hv
      have ak2 := ak.kept hk kp
      cases k with
      | longest L =>
        obtain ⟨dx, zs, h1, h2, h3⟩ := ak2
        refine ⟨_, rfl, _, .ref c.L, _, _, true, rfl, .own _, I.fL.ty h1, I.LL, true, rfl, iteT ?_⟩
        refine ⟨_, rfl, x, c.L, dx, _, _, rfl, h1, c_Longest.cl, nT, look_triples l, Nat.zero_le _, fun em nem => ?_⟩
        have s7 := same_upd (o := .lst []) nem
        have k7 := kp.trans (Kept.of (d := kn) s7)
        have e0 : SqL K (upd H' em (.lst [])) em [] := SqL.of upd_same
        generalize upd H' em (.lst []) = H7 at *
        have fin := q _ ws U2 k7 (s7 _ _ hw) (kw2.on s7) hU hl2
        refine ⟨_, _, trs_dp (SqL.of (s7 _ _ h2)) (h3.same s7), trs_dp (L := []) e0 .nil, trs_shaped _, trs_shaped _, _, rfl, ?_⟩
        rw [trl_eqv]
        by_cases z : L = []
        · rw [decide_eq_true z]
          rw [AK.due, dueL, decide_eq_false (fun y => y z)] at fin
          exact fin
        · rw [decide_eq_false z]
          refine iteT ⟨_, rfl, x, c.L, dx, _, _, rfl, s7 _ _ h1, c_Longest.cl, nT, look_triples l, _, rfl, _, rfl, kn, .ref t, rfl, by rw [← hv]; exact DGet.k (k := .inl N) (s7 _ _ hw), t, _, 0, _, rfl, rfl, Same.tup s7 ht, rfl, _, _, trs_dp (SqL.of (s7 _ _ h2)) (h3.same s7), trs_dp (SqL.of (s7 _ _ ha)) (ta.same s7), trs_shaped _, trs_shaped _, ?_⟩
          rw [trl_eqv]
          rw [AK.due, dueL, decide_eq_true z] at fin
          exact fin
      | leg L =>
        obtain ⟨dx, zs, h1, h2, h3⟩ := ak2
        refine ⟨_, rfl, _, .ref c.L, _, _, false, rfl, .own _, I.fG.ty h1, I.GL, false, rfl, iteF ⟨_, rfl, _, .ref c.G, _, _, true, rfl, .own _, I.fG.ty h1, I.GG, true, rfl, iteT ?_⟩⟩
        refine ⟨_, rfl, x, c.G, dx, _, _, rfl, h1, c_Leg.cl, nT2, look_triples l, Nat.zero_le _, fun em nem => ?_⟩
        have s7 := same_upd (o := .lst []) nem
        have k7 := kp.trans (Kept.of (d := kn) s7)
        have e0 : SqL K (upd H' em (.lst [])) em [] := SqL.of upd_same
        generalize upd H' em (.lst []) = H7 at *
        have fin := q _ ws U2 k7 (s7 _ _ hw) (kw2.on s7) hU hl2
        refine ⟨_, _, trs_dp (SqL.of (s7 _ _ h2)) (h3.same s7), trs_dp (L := []) e0 .nil, trs_shaped _, trs_shaped _, _, rfl, ?_⟩
        rw [trl_eqv]
        by_cases z : L = []
        · rw [decide_eq_true z]
          rw [AK.due, dueL, decide_eq_false (fun y => y z)] at fin
          exact fin
        · rw [decide_eq_false z]
          refine iteT ⟨_, rfl, x, c.G, dx, _, _, rfl, s7 _ _ h1, c_Leg.cl, nT2, look_triples l, _, rfl, _, rfl, kn, .ref t, rfl, by rw [← hv]; exact DGet.k (k := .inl N) (s7 _ _ hw), t, _, 1, _, rfl, rfl, Same.tup s7 ht, rfl, _, _, trs_dp (SqL.of (s7 _ _ h2)) (h3.same s7), trs_dp (SqL.of (s7 _ _ hb)) (tb.same s7), trs_shaped _, trs_shaped _, ?_⟩
          rw [trl_eqv]
          rw [AK.due, dueL, decide_eq_true z] at fin
          exact fin
      | barred p =>
        obtain ⟨dx, h1⟩ := ak2
        refine ⟨_, rfl, _, .ref c.L, _, _, false, rfl, .own _, I.fB.ty h1, I.BL, false, rfl, iteF ⟨_, rfl, _, .ref c.G, _, _, false, rfl, .own _, I.fB.ty h1, I.BG, false, rfl, iteF ⟨_, rfl, _, .ref c.H, _, _, false, rfl, .own _, I.fB.ty h1, I.BH, false, rfl, iteF ?_⟩⟩⟩
        exact ⟨_, rfl, _, rfl, x, c.B, dx, _, _, rfl, h1, I.fB.cl, nP, look_prime _, N, p, rfl, by omega, n2, fun H8 s8 => q _ ws U2 (kp.trans (Kept.of s8)) (s8 _ _ hw) (kw2.on s8) hU hl2⟩
      | halved =>
        obtain ⟨dx, h1⟩ := ak2
        refine ⟨_, rfl, _, .ref c.L, _, _, false, rfl, .own _, I.fH.ty h1, I.HL, false, rfl, iteF ⟨_, rfl, _, .ref c.G, _, _, false, rfl, .own _, I.fH.ty h1, I.HG, false, rfl, iteF ⟨_, rfl, _, .ref c.H, _, _, true, rfl, .own _, I.fH.ty h1, I.HH, true, rfl, iteT ?_⟩⟩⟩
        refine ⟨_, rfl, _, _, rfl, rfl, (by decide : (0 : Int) < 4), rfl, ?_⟩
        rw [dec_vint]
        exact q _ ws U2 kp hw kw2 hU hl2
end
end SqP

namespace SqP
open PySem PySem.Spec PyProof.Rows L2 Sq
abbrev s__law_told_right : Stmt := topS 37
theorem sc__law_told_right : FnScope ["_law_known", "_law_number_here", "_law_ask", "_law_good", "_law_others", "_law_again", "_law_found", "_law_kinds", "_law_other", "_law_due_here", "_law_triple_here"] ["_law_known", "_law_number_here", "_law_ask", "_law_good", "_law_others"] (defScope s__law_told_right) := ⟨rfl, rfl, rfl, by decide +kernel, rfl, by decide +kernel, by decide +kernel⟩
section
variable {P : Program} {w : World} {K : PySem.W.Frag} {mg : Str → Option Value} {base : Heap}
theorem upto_ne {α : Type} {f : Int → List α} : ∀ {n : Nat}, upto f n ≠ [] → ∃ i : Int, f i ≠ []
  | 0, h => absurd rfl h
  | n + 1, h => by
    by_cases z : f (n + 1 : Nat) = []
    · refine upto_ne (n := n) fun e => h ?_
      rw [upto, e, z]
      rfl
    · exact ⟨_, z⟩
/-- a longest side leaves 1 by 4 -/
theorem lgL_mod {N : Int} (h : lgL N ≠ []) : N % 4 = 1 := by
  obtain ⟨n, hn⟩ := upto_ne h
  by_cases z : (decide (n < rti (N - n * n)) && lgOk N (rti (N - n * n)) n) = true
  · rw [Bool.and_eq_true] at z
    obtain ⟨e, o, _⟩ := lgOk_iff.mp z.2
    generalize rti (N - n * n) = m at *
    have hm := Int.mul_ediv_add_emod m 2
    have hn := Int.mul_ediv_add_emod n 2
    have sq : ∀ a : Int, (2 * a) * (2 * a) = 4 * (a * a) := fun a => by grind
    have sq1 : ∀ a : Int, (2 * a + 1) * (2 * a + 1) = 4 * (a * a + a) + 1 := fun a => by grind
    rcases Int.emod_two_eq m with a | a <;> rcases Int.emod_two_eq n with b | b
    · omega
    · rw [a, Int.add_zero] at hm
      rw [b] at hn
      rw [← hm, ← hn, sq, sq1] at e
      omega
    · rw [a] at hm
      rw [b, Int.add_zero] at hn
      rw [← hm, ← hn, sq, sq1] at e
      omega
    · omega
  · exact absurd (show lgAt N n = [] from if_neg z) hn
/-! ### the kinds -/
def AK.isL : AK → Bool
  | .longest _ => true
  | _ => false
def AK.isB : AK → Bool
  | .barred _ => true
  | _ => false
def AK.isG : AK → Bool
  | .leg _ => true
  | _ => false
def AK.isH : AK → Bool
  | .halved => true
  | _ => false
def AK.cls (c : Cs) : AK → Addr
  | .longest _ => c.L
  | .leg _ => c.G
  | .barred _ => c.B
  | .halved => c.H
def AK.pos : AK → Nat
  | .longest _ => 0
  | .barred _ => 1
  | .leg _ => 2
  | .halved => 3
def AK.tags (k : AK) : List Bool := [k.isL, k.isB, k.isG, k.isH]
theorem AkAt.ins {c : Cs} {H : Hp} {x l : Addr} : ∀ {k : AK}, AkAt K c H x l k → ∃ dx fs, H x = some (.ins (k.cls c) dx fs)
  | .longest _, ⟨dx, xs, a, _⟩ => ⟨dx, _, a⟩
  | .leg _, ⟨dx, xs, a, _⟩ => ⟨dx, _, a⟩
  | .barred _, ⟨dx, a⟩ => ⟨dx, _, a⟩
  | .halved, ⟨dx, a⟩ => ⟨dx, _, a⟩
theorem AkAt.on {c : Cs} {H H' : Hp} {x l : Addr} (s : Same H H') : ∀ {k : AK}, AkAt K c H x l k → AkAt K c H' x l k
  | .longest _, ⟨dx, xs, a, b, t⟩ => ⟨dx, xs, s _ _ a, s _ _ b, t.same s⟩
  | .leg _, ⟨dx, xs, a, b, t⟩ => ⟨dx, xs, s _ _ a, s _ _ b, t.same s⟩
  | .barred _, ⟨dx, a⟩ => ⟨dx, s _ _ a⟩
  | .halved, ⟨dx, a⟩ => ⟨dx, s _ _ a⟩
/-- isinstance's answers among the classes, all of them -/
structure IsAll (K : PySem.W.Frag) (c : Cs) (CA : Addr) : Prop where
  f : ∀ k : AK, InsF K (k.cls c)
  l : ∀ k : AK, PySem.W.kitOne K (.ref (k.cls c)) (.ref c.L) = some k.isL
  b : ∀ k : AK, PySem.W.kitOne K (.ref (k.cls c)) (.ref c.B) = some k.isB
  g : ∀ k : AK, PySem.W.kitOne K (.ref (k.cls c)) (.ref c.G) = some k.isG
  h : ∀ k : AK, PySem.W.kitOne K (.ref (k.cls c)) (.ref c.H) = some k.isH
  a : ∀ k : AK, PySem.W.kitOne K (.ref (k.cls c)) (.ref CA) = some true
theorem IsAll.isF {c : Cs} {CA : Addr} (I : IsAll K c CA) : IsF K c := ⟨I.f (.longest []), I.f (.leg []), I.f (.barred 0), I.f .halved, I.l (.longest []), I.l (.leg []), I.l (.barred 0), I.l .halved, I.g (.leg []), I.g (.barred 0), I.g .halved, I.h (.barred 0), I.h .halved⟩
theorem IsAll.ne {c : Cs} {CA : Addr} (I : IsAll K c CA) : c.G ≠ c.L ∧ c.B ≠ c.L ∧ c.B ≠ c.G ∧ c.H ≠ c.L ∧ c.H ≠ c.G ∧ c.H ≠ c.B := by
  refine ⟨fun e => ?_, fun e => ?_, fun e => ?_, fun e => ?_, fun e => ?_, fun e => ?_⟩
  · have a := I.l (.leg [])
    have b := I.l (.longest [])
    rw [show (AK.leg []).cls c = (AK.longest []).cls c from e, b] at a
    cases a
  · have a := I.l (.barred 0)
    have b := I.l (.longest [])
    rw [show (AK.barred 0).cls c = (AK.longest []).cls c from e, b] at a
    cases a
  · have a := I.g (.barred 0)
    have b := I.g (.leg [])
    rw [show (AK.barred 0).cls c = (AK.leg []).cls c from e, b] at a
    cases a
  · have a := I.l .halved
    have b := I.l (.longest [])
    rw [show AK.halved.cls c = (AK.longest []).cls c from e, b] at a
    cases a
  · have a := I.g .halved
    have b := I.g (.leg [])
    rw [show AK.halved.cls c = (AK.leg []).cls c from e, b] at a
    cases a
  · have a := I.b .halved
    have b := I.b (.barred 0)
    rw [show AK.halved.cls c = (AK.barred 0).cls c from e, b] at a
    cases a
/-- the method's promise, by the class -/
noncomputable def showsOf (K : PySem.W.Frag) (c : Cs) (C : Addr) : Option Sp :=
  open Classical in if C = c.L then some (sp_shows_list K c.L lgL) else if C = c.G then some (sp_shows_list K c.G leL) else if C = c.B then some (sp_shows_barred c.B) else if C = c.H then some (sp_shows_halved c.H) else none
theorem HasM.held {k j : Nat} (hk : k ≤ j) {C : Addr} {m : Str} {ps : List Str} {sp : Sp} (h : HasM P w K mg base k C m ps sp) (cl : Cls K C) : HeldM P w K mg base j C m sp := by
  obtain ⟨f, fd, F, b, g⟩ := h
  exact ⟨ps, ⟨f, fd, ⟨F.len, fun A outer s H args us vs Q X hr e hb hv hs => F.run A outer s H args us vs Q X (hr.mono hk) e hb hv hs⟩, b, g⟩, cl⟩
theorem showsOf_held {c : Cs} {CA : Addr} (I : IsAll K c CA) (HL : HasM P w K mg base 35 c.L "shows" ["self", "number"] (sp_shows_list K c.L lgL)) (HG : HasM P w K mg base 35 c.G "shows" ["self", "number"] (sp_shows_list K c.G leL)) (HB : HasM P w K mg base 2 c.B "shows" ["self", "number"] (sp_shows_barred c.B)) (HH : HasM P w K mg base 1 c.H "shows" ["self", "number"] (sp_shows_halved c.H)) :
    ∀ C sp, showsOf K c C = some sp → HeldM P w K mg base 35 C "shows" sp := by
  intro C sp h
  unfold showsOf at h
  by_cases e1 : C = c.L
  · rw [if_pos e1] at h
    cases h
    exact e1 ▸ HL.held (j := 35) (by decide) (I.f (.longest [])).cl
  rw [if_neg e1] at h
  by_cases e2 : C = c.G
  · rw [if_pos e2] at h
    cases h
    exact e2 ▸ HG.held (j := 35) (by decide) (I.f (.leg [])).cl
  rw [if_neg e2] at h
  by_cases e3 : C = c.B
  · rw [if_pos e3] at h
    cases h
    exact e3 ▸ HB.held (j := 35) (by decide) (I.f (.barred 0)).cl
  rw [if_neg e3] at h
  by_cases e4 : C = c.H
  · rw [if_pos e4] at h
    cases h
    exact e4 ▸ HH.held (j := 35) (by decide) (I.f .halved).cl
  rw [if_neg e4] at h
  cases h
theorem showsOf_use {c : Cs} {CA : Addr} (I : IsAll K c CA) {H : Hp} {x l : Addr} {k : AK} {N : Int} {Q : VK} {E : XK} (h : AkAt K c H x l k) (n1 : 1 ≤ N) (n2 : N ≤ 2000000) (q : ∀ H', Same H H' → Q (.bl (k.due N)) H') :
    ∃ (C dx : Addr) (fs : List (Str × V)) (sp : Sp), H x = some (.ins C dx fs) ∧ fs.lookup ("shows" : Str) = none ∧ showsOf K c C = some sp ∧ sp [.ref x, .int N] H Q E := by
  obtain ⟨n1', n2', n3, n4, n5, n6⟩ := I.ne
  cases k with
  | longest L =>
    obtain ⟨dx, xs, a, b, t⟩ := h
    exact ⟨c.L, dx, _, _, a, look_shows l, if_pos rfl, x, xs, L, N, rfl, ⟨⟨dx, l, a, b⟩, t⟩, n1, n2, q⟩
  | leg L =>
    obtain ⟨dx, xs, a, b, t⟩ := h
    exact ⟨c.G, dx, _, _, a, look_shows l, (if_neg n1').trans (if_pos rfl), x, xs, L, N, rfl, ⟨⟨dx, l, a, b⟩, t⟩, n1, n2, q⟩
  | barred p =>
    obtain ⟨dx, a⟩ := h
    exact ⟨c.B, dx, _, _, a, look_shows2 _, (if_neg n2').trans ((if_neg n3).trans (if_pos rfl)), x, dx, p, N, rfl, a, n1, n2, q H (Same.refl H)⟩
  | halved =>
    obtain ⟨dx, a⟩ := h
    exact ⟨c.H, dx, _, _, a, rfl, (if_neg n4).trans ((if_neg n5).trans ((if_neg n6).trans (if_pos rfl))), x, N, rfl, q H (Same.refl H)⟩
/-- one asked for an answer: the one address, its promise -/
noncomputable def askS (f : Addr) (sp : Sp) (y : Addr) : Option Sp := open Classical in if y = f then some sp else none
theorem askS_held {k : Nat} {f : Addr} {sp : Sp} (h : Held P w K mg base k f sp) : ∀ y s, askS f sp y = some s → Held P w K mg base k y s := by
  intro y s e
  unfold askS at e
  by_cases z : y = f
  · rw [if_pos z] at e
    cases e
    exact z ▸ h
  · rw [if_neg z] at e
    cases e
theorem Has.held {k j : Nat} (hk : k ≤ j) {x : Str} {ps : List Str} {sp : Sp} {f : Addr} (h : Has P w K mg base k x ps sp) (g : mg x = some (.ref f)) : Held P w K mg base j f sp := by
  obtain ⟨f', fd, F, kp, b, g'⟩ := h
  rw [g] at g'
  cases g'
  exact ⟨fd, ps, ⟨F.len, fun A outer s H args us vs Q X hr e hb hv hs => F.run A outer s H args us vs Q X (hr.mono hk) e hb hv hs⟩, kp, b⟩
/-- what an asked one gives -/
def Gives (K : PySem.W.Frag) (c : Cs) (good : Nat) (sp : Sp) : Prop := ∀ (N : Int) (H : Hp) (Q : VK) (E : XK), 2 ≤ N → N ≤ 1000000 →
  (∀ H' x l k, Same H H' → AkAt K c H' x l k → k.due N = true → (k.pos = good ∧ H l = none ∨ k.pos = good + 1) → Q (.ref x) H') → sp [.int N] H Q E
theorem srt_ne {L : List Tr} (h : L ≠ []) : srt L ≠ [] := fun e => h (by
  have := (srt_perm L).length_eq
  rw [e] at this
  cases L with
  | nil => rfl
  | cons a b => cases this)
theorem longest_gives {c : Cs} : Gives K c 0 (sp_longest K c.B c.L) := fun N H Q E n1 n2 q =>
  ⟨N, rfl, n1, n2, fun H' x dx p s hx hb => q H' x x (.barred p) s ⟨dx, hx⟩ hb (.inr rfl), fun H' x dx l xs s hx hl nl ht ne => q H' x l (.longest _) s ⟨dx, xs, hx, hl, ht⟩ (by
    show dueL (srt (lgL N)) (srt (lgL N)) = true
    unfold dueL
    rw [decide_eq_true (srt_ne ne), decide_eq_true rfl]
    rfl) (.inl ⟨rfl, nl⟩)⟩
theorem leg_gives {c : Cs} : Gives K c 2 (sp_leg K c.H c.G) := fun N H Q E n1 n2 q =>
  ⟨N, rfl, n1, n2, fun hm H' x dx s hx => q H' x x .halved s ⟨dx, hx⟩ (decide_eq_true hm) (.inr rfl), fun _ H' x dx l xs s hx hl nl ht ne => q H' x l (.leg _) s ⟨dx, xs, hx, hl, ht⟩ (by
    show dueL (srt (leL N)) (srt (leL N)) = true
    unfold dueL
    rw [decide_eq_true (srt_ne ne), decide_eq_true rfl]
    rfl) (.inl ⟨rfl, nl⟩)⟩
end
end SqP

namespace SqP
open PySem PySem.Spec PyProof.Rows L2 Sq
section
variable {P : Program} {w : World} {K : PySem.W.Frag} {mg : Str → Option Value} {base : Heap}
/-! ### the answers with a list -/
def AK.ly : AK → Bool
  | .longest _ => true
  | .leg _ => true
  | _ => false
def AK.lst : AK → List Tr
  | .longest L => L
  | .leg L => L
  | _ => []
def AK.set (M : List Tr) : AK → AK
  | .longest _ => .longest M
  | .leg _ => .leg M
  | k => k
theorem AkAt.list {c : Cs} {H : Hp} {x l : Addr} : ∀ {k : AK}, AkAt K c H x l k → k.ly = true → ∃ dx xs, H x = some (.ins (k.cls c) dx [("triples", .ref l)]) ∧ H l = some (.lst xs) ∧ TrS K H xs k.lst
  | .longest _, ⟨dx, xs, a, b, t⟩, _ => ⟨dx, xs, a, b, t⟩
  | .leg _, ⟨dx, xs, a, b, t⟩, _ => ⟨dx, xs, a, b, t⟩
theorem AkAt.mk {c : Cs} {H : Hp} {x l dx : Addr} {xs : List V} {M : List Tr} : ∀ {k : AK}, k.ly = true → H x = some (.ins (k.cls c) dx [("triples", .ref l)]) → H l = some (.lst xs) → TrS K H xs M → AkAt K c H x l (k.set M)
  | .longest _, _, a, b, t => ⟨dx, xs, a, b, t⟩
  | .leg _, _, a, b, t => ⟨dx, xs, a, b, t⟩
theorem AK.ly_pos : ∀ {k : AK} {g : Nat}, k.ly = true → (g = 0 ∨ g = 2) → (k.pos = g ∨ k.pos = g + 1) → k.pos = g
  | .longest L, g, _, a, b => by
    have : (AK.longest L).pos = 0 := rfl
    omega
  | .leg L, g, _, a, b => by
    have : (AK.leg L).pos = 2 := rfl
    omega
theorem AK.ly_b : ∀ {k : AK}, k.ly = true → k.isB = false
  | .longest _, _ => rfl
  | .leg _, _ => rfl
theorem lgL_len {N : Int} (h : N ≤ 2000000) (h0 : 0 ≤ N) : (lgL N).length ≤ 4000 := by
  have hs := rti_small (N := N) h0 h
  have h3 := upto_len (f := lgAt N) (c := 1) (lgAt_len N) (rti N).toNat
  unfold lgL
  omega
theorem leL_len {N : Int} (h : N ≤ 2000000) (h0 : 0 ≤ N) : (leL N).length ≤ 4000 := by
  have hs := rti_small (N := N) h0 h
  have h3 := upto_len (f := fun p => leA N p ++ leB N p) (c := 2) (le_len N) (rti N).toNat
  unfold leL
  omega
theorem dueL_eq {L M : List Tr} (h : dueL L M = true) : L = M := by
  unfold dueL at h
  rw [Bool.and_eq_true] at h
  exact of_decide_eq_true h.2
theorem dueL_more {L M : List Tr} (h : dueL L M = true) (t : Tr) : dueL (L ++ [t]) M = false := by
  have e := dueL_eq h
  unfold dueL
  rw [decide_eq_false (p := L ++ [t] = M) (fun z => by
    have := congrArg List.length (z.trans e.symm)
    rw [List.length_append] at this
    exact absurd this (by show ¬ L.length + 1 = L.length; omega)), Bool.and_false]
theorem AK.due_len {N : Int} (h : N ≤ 2000000) (h0 : 0 ≤ N) : ∀ {k : AK}, k.ly = true → k.due N = true → k.lst.length ≤ 4000
  | .longest L, _, d => by
    have e := dueL_eq (L := L) d
    have := (srt_perm (lgL N)).length_eq
    have := lgL_len h h0
    show L.length ≤ 4000
    rw [e]
    omega
  | .leg L, _, d => by
    have e := dueL_eq (L := L) d
    have := (srt_perm (leL N)).length_eq
    have := leL_len h h0
    show L.length ≤ 4000
    rw [e]
    omega
theorem AK.due_more {N : Int} {t : Tr} : ∀ {k : AK}, k.ly = true → k.due N = true → (k.set (k.lst ++ [t])).due N = false
  | .longest L, _, d => dueL_more d t
  | .leg L, _, d => dueL_more d t
theorem tags_shaped (k : AK) : SeqAt.shaped (.list (k.tags.map PyData.bool)) = true := by
  cases k <;> simp [AK.tags, AK.isL, AK.isB, AK.isG, AK.isH, SeqAt.shaped, PyData.canLay0, PyData.canLayAll0, PyData.depth, PyData.depthAll]
theorem tags_count (k : AK) : ((k.tags.map PyData.bool).countP fun z => PyData.eqv z (.bool true)) = 1 := by
  cases k <;> simp [AK.tags, AK.isL, AK.isB, AK.isG, AK.isH, PyData.eqv]
theorem tags_dp {H : Hp} {t : Addr} {k : AK} (h : SqL K H t (k.tags.map V.bl)) : Dp K H (.ref t) (.list (k.tags.map PyData.bool)) := .lst h (.cons (.bl _) (.cons (.bl _) (.cons (.bl _) (.cons (.bl _) .nil))))
theorem tags_flat (k : AK) : (k.tags.map V.bl).all flatV = true := by
  cases k <;> rfl
theorem tags_at (k : AK) : (k.tags.map V.bl)[k.pos]? = some (.bl true) := by
  cases k <;> rfl
theorem tags_no (k : AK) : ∀ (m : Nat) (z : V), m < k.pos → (k.tags.map V.bl)[m]? = some z → eqV z (.bl true) = false := by
  intro m z h e
  cases k with
  | longest L => exact absurd h (Nat.not_lt_zero _)
  | barred p =>
    match m, h, e with
    | 0, _, e => cases e; rfl
    | n + 1, h, _ => exact absurd h (by show ¬ n + 1 < 1; omega)
  | leg L =>
    match m, h, e with
    | 0, _, e => cases e; rfl
    | 1, _, e => cases e; rfl
    | n + 2, h, _ => exact absurd h (by show ¬ n + 2 < 2; omega)
  | halved =>
    match m, h, e with
    | 0, _, e => cases e; rfl
    | 1, _, e => cases e; rfl
    | 2, _, e => cases e; rfl
    | n + 3, h, _ => exact absurd h (by show ¬ n + 3 < 3; omega)
/-! ### what stays -/
theorem Known.put {H : Hp} {kvs : List (Key × V)} {U : Addr → Prop} {l : Addr} {zs ws : List V} (h : Known K H kvs U) (hl : H l = some (.lst zs)) (nl : ¬ U l) : Known K (upd H l (.lst ws)) kvs U := fun N v e => by
  obtain ⟨t, a, b, xs, ys, e1, h1, h2, h3, h4, h5, h6, h7⟩ := h N v e
  exact ⟨t, a, b, xs, ys, e1, tup_keep hl h1, by rw [upd_ne (fun (z : a = l) => nl (z ▸ h6))]; exact h2, by rw [upd_ne (fun (z : b = l) => nl (z ▸ h7))]; exact h3, h4.upd hl, h5.upd hl, h6, h7⟩
theorem Kept.new {d l : Addr} {H H1 : Hp} {o : HO} (nl : H l = none) (h : Kept d H H1) : Kept d H (upd H1 l o) := fun b u n e => by
  rw [upd_ne (fun (z : b = l) => by rw [z, nl] at e; cases e)]
  exact h b u n e
theorem Kept.none {d l : Addr} {H H1 : Hp} {kvs : List (Key × V)} (hd : H1 d = some (.dK kvs)) (h : Kept d H H1) (n : H1 l = none) : H l = none := by
  cases e : H l with
  | none => rfl
  | some o =>
    by_cases z : l = d
    · rw [z, hd] at n
      cases n
    · rw [h l o z e] at n
      cases n
theorem Kept.seq {d t : Addr} {H H' : Hp} {zs : List V} {kvs : List (Key × V)} (hd : H d = some (.dK kvs)) (h : Kept d H H') (q : SqL K H t zs) : SqL K H' t zs := by
  rcases q with (e | ⟨o, e⟩) | h2
  · exact .inl (.inl (h _ _ (fun z => by rw [z, hd] at e; cases e) e))
  · exact .inl (.inr ⟨o, h _ _ (fun z => by rw [z, hd] at e; cases e) e⟩)
  · exact .inr h2
theorem showsOf_at {c : Cs} {CA : Addr} (I : IsAll K c CA) {H : Hp} {x l : Addr} {k : AK} (N : Int) (h : AkAt K c H x l k) (n1 : 1 ≤ N) (n2 : N ≤ 2000000) :
    ∃ (C dx : Addr) (fs : List (Str × V)) (sp : Sp), H x = some (.ins C dx fs) ∧ fs.lookup ("shows" : Str) = none ∧ showsOf K c C = some sp ∧ ∀ (Q : VK) (E : XK), (∀ H', Same H H' → Q (.bl (k.due N)) H') → sp [.ref x, .int N] H Q E := by
  obtain ⟨C, dx, fs, sp, a, b, d, _⟩ := showsOf_use (Q := fun _ _ => True) (E := fun _ _ _ => False) I h n1 n2 fun _ _ => trivial
  refine ⟨C, dx, fs, sp, a, b, d, fun Q E q => ?_⟩
  obtain ⟨C2, dx2, fs2, sp2, a2, b2, d2, r⟩ := showsOf_use (E := E) I h n1 n2 q
  rw [a] at a2
  cases a2
  rw [d] at d2
  cases d2
  exact r
end
end SqP

namespace SqP
open PySem PySem.Spec PyProof.Rows L2 Sq
section
variable {P : Program} {w : World} {K : PySem.W.Frag} {mg : Str → Option Value} {base : Heap}
/-! ### _law_told_right -/
def sp_told (K : PySem.W.Frag) (fL fG : Addr) : Sp := fun vs H Q _ => ∃ (kn f oth : Addr) (kvs : List (Key × V)) (N : Int) (good : Nat) (ns : List Int), vs = [.ref kn, .int N, .ref f, .int good, .ref oth] ∧ H kn = some (.dK kvs) ∧ Known K H kvs (fun _ => True) ∧ kvs.length ≤ 900000 ∧ 2 ≤ N ∧ N ≤ 1000000 ∧
  SqL K H oth (ns.map V.int) ∧ ns.length ≤ 2 ∧ (∀ n ∈ ns, 2 ≤ n ∧ n ≤ 1000000) ∧ (good = 0 ∧ f = fL ∨ good = 2 ∧ f = fG) ∧ ∀ H' ws, Kept kn H H' → H' kn = some (.dK ws) → Known K H' ws (fun _ => True) → ws.length ≤ kvs.length + 6 → Q (.bl true) H'
theorem TrS.at_ {H : Hp} : ∀ {xs : List V} {L : List Tr} {i : Nat} {y : V}, TrS K H xs L → xs[i]? = some y → ∃ (a : Addr) (t : Tr), y = .ref a ∧ SqT K H a [.int t.1, .int t.2.1, .int t.2.2]
  | _, _, 0, _, .cons h _, e => by
    cases e
    exact ⟨_, _, rfl, h⟩
  | _, _, i + 1, _, .cons _ r, e => r.at_ (i := i) e
theorem in2 {p good : Nat} (h : p = good ∨ p = good + 1) : inV (.int (p : Nat)) [.int good, .int ((good : Int) + 1)] = true := by
  rcases h with e | e
  · subst e
    simp [inV, eqV]
  · subst e
    simp [inV, eqV]
set_option maxHeartbeats 16000000 in
theorem ok__law_told_right (B : Bt mg) {c : Cs} {CA : Addr} (I : IsAll K c CA) (c_Answer : KC K mg "Answer" CA) (c_Longest : KC K mg "Longest" c.L) (c_Leg : KC K mg "Leg" c.G) (c_Barred : KC K mg "Barred" c.B) (c_Halved : KC K mg "Halved" c.H) (nT : ∀ k : AK, k.ly = true → NoAttr K (k.cls c) "triples") (nP : NoAttr K c.B "prime") {fL fG : Addr} (gL : mg "longest" = some (.ref fL)) (gG : mg "leg" = some (.ref fG))
    (D : Is K mg "_law_told_right" s__law_told_right ["_law_known", "_law_number_here", "_law_ask", "_law_good", "_law_others"])
    (H_longest : Has P w K mg base 35 "longest" ["number"] (sp_longest K c.B c.L)) (H_leg : Has P w K mg base 34 "leg" ["number"] (sp_leg K c.H c.G))
    (H_Longest_shows : HasM P w K mg base 35 c.L "shows" ["self", "number"] (sp_shows_list K c.L lgL)) (H_Leg_shows : HasM P w K mg base 35 c.G "shows" ["self", "number"] (sp_shows_list K c.G leL)) (H_Barred_shows : HasM P w K mg base 2 c.B "shows" ["self", "number"] (sp_shows_barred c.B)) (H_Halved_shows : HasM P w K mg base 1 c.H "shows" ["self", "number"] (sp_shows_halved c.H))
    (H__law_due : Has P w K mg base 34 "_law_due" ["_law_known", "_law_number_here", "_law_found"] (sp_due K c)) (H__law_says : Has P w K mg base 1 "_law_says" ["_law_said", "_law_due_here"] sp_says) (H__law_whole : Has P w K mg base 1 "_law_whole" ["_law_number_here"] (sp_is_whole K)) (H__law_are : Has P w K mg base 2 "_law_are" ["_law_found", "_law_many"] (sp_are K)) :
    Has P w K mg base 36 "_law_told_right" ["_law_known", "_law_number_here", "_law_ask", "_law_good", "_law_others"] (sp_told K fL fG) := by
  obtain ⟨f, fd, F, b, g⟩ := D
  obtain ⟨f__law_due, fd__law_due, G__law_due, k__law_due, b__law_due, g__law_due⟩ := H__law_due
  obtain ⟨f__law_says, fd__law_says, G__law_says, k__law_says, b__law_says, g__law_says⟩ := H__law_says
  obtain ⟨f__law_whole, fd__law_whole, G__law_whole, k__law_whole, b__law_whole, g__law_whole⟩ := H__law_whole
  obtain ⟨f__law_are, fd__law_are, G__law_are, k__law_are, b__law_are, g__law_are⟩ := H__law_are
  refine ⟨f, fd, F.ok sc__law_told_right (fun vs H Q E h => ?_) (fun cdv A outer s H vs Q E hr h => ?_), F.kp, b, g⟩
  · obtain ⟨kn, f, oth, kvs, N, good, ns, rfl, _⟩ := h
    rfl
  · obtain ⟨kn, f, oth, kvs, N, good, ns, rfl, hk, kw, hl, n1, n2, ho, hn, hns, hf, q⟩ := h
    obtain ⟨sp, hsp, gv⟩ : ∃ sp, Held P w K mg base 35 f sp ∧ Gives K c good sp := by
      rcases hf with ⟨rfl, rfl⟩ | ⟨rfl, rfl⟩
      · exact ⟨_, H_longest.held (Nat.le_refl _) gL, longest_gives⟩
      · exact ⟨_, H_leg.held (by decide) gG, leg_gives⟩
    have g02 : good = 0 ∨ good = 2 := hf.elim (fun z => .inl z.1) (fun z => .inr z.1)
    have AA := askS_held hsp
    have AS := showsOf_held I H_Longest_shows H_Leg_shows H_Barred_shows H_Halved_shows
    refine ⟨_, (pss_cons (ps_for PassesOwn.never rfl (pi_range1 (by rfl) B.range (pa_cons pe_int pa_nil)) (pg_name (i := 5) sc__law_told_right.nd rfl (Or.inl rfl)) (pss_cons (ps_set (i := 6) sc__law_told_right.nd rfl (Or.inl rfl) (pe_callA (i := 2) AA (hr.mono (by decide)) rfl (.inl rfl) (pa_cons (pv 1) pa_nil))) (pss_cons (ps_set (i := 7) sc__law_told_right.nd rfl (Or.inl rfl) (pe_lst (pa_cons (pe_callB call_isi (by rfl) B.isi (by decide +kernel) (pa_cons (pv 6) (pa_cons (pe_glob (v := .ref c.L) (by rfl) c_Longest.mg rfl) pa_nil))) (pa_cons (pe_callB call_isi (by rfl) B.isi (by decide +kernel) (pa_cons (pv 6) (pa_cons (pe_glob (v := .ref c.B) (by rfl) c_Barred.mg rfl) pa_nil))) pa_nil)))) (pss_cons (ps_set (i := 7) sc__law_told_right.nd rfl (Or.inl rfl) (pe_op op_cat (pv 7) (pe_lst (pa_cons (pe_callB call_isi (by rfl) B.isi (by decide +kernel) (pa_cons (pv 6) (pa_cons (pe_glob (v := .ref c.G) (by rfl) c_Leg.mg rfl) pa_nil))) (pa_cons (pe_callB call_isi (by rfl) B.isi (by decide +kernel) (pa_cons (pv 6) (pa_cons (pe_glob (v := .ref c.H) (by rfl) c_Halved.mg rfl) pa_nil))) pa_nil))))) (pss_cons (ps_if (PW.pt (pw_or (pt_not (pt_val (pe_callB call_isi (by rfl) B.isi (by decide +kernel) (pa_cons (pv 6) (pa_cons (pe_glob (v := .ref CA) (by rfl) c_Answer.mg rfl) pa_nil))))) (pw_or1 (pt_cmpR op_ne (pe_bm PySem.F.plainAttrs_list PySem.F.slot_list_count PySem.F.type_list_count (mt_countD (room65 hr)) (pv 7) (pa_cons pe_bl pa_nil)) pe_int (nomark _))))) (pss_one (ps_ret pe_bl)) pss_nil) (pss_cons (ps_if (pt_cmpR op_notIn_seq (pe_bm PySem.F.plainAttrs_list PySem.F.slot_list_index PySem.F.type_list_index mt_index (pv 7) (pa_cons pe_bl pa_nil)) (pe_tup (pa_cons (pv 3) (pa_cons (pe_op op_add (pv 3) pe_int) pa_nil))) rfl) (pss_one (ps_ret pe_bl)) pss_nil) (pss_cons (ps_if (PW.pt (pw_or (pt_not (pt_val (pe_call G__law_due (hr.mono (by decide)) (by rfl) g__law_due k__law_due b__law_due .nil pass0 (pa_cons (pv 0) (pa_cons (pv 1) (pa_cons (pv 6) pa_nil)))))) (pw_or1 (pt_cmpR op_notBl (pe_methA AS (hr.mono (by decide)) (pv 6) (pa_cons (pv 1) pa_nil)) pe_bl (nomark _))))) (pss_one (ps_ret pe_bl)) pss_nil) (pss_cons (ps_for PassesOwn.never rfl (pi_list (pv 4)) (pg_name (i := 8) sc__law_told_right.nd rfl (Or.inl rfl)) (pss_cons (ps_set (i := 9) sc__law_told_right.nd rfl (Or.inl rfl) (pe_call G__law_due (hr.mono (by decide)) (by rfl) g__law_due k__law_due b__law_due .nil pass0 (pa_cons (pv 0) (pa_cons (pv 8) (pa_cons (pv 6) pa_nil))))) (pss_one (ps_if (pt_not (pt_val (pe_call G__law_says (hr.mono (by decide)) (by rfl) g__law_says k__law_says b__law_says .nil pass0 (pa_cons (pe_methA AS (hr.mono (by decide)) (pv 6) (pa_cons (pv 8) pa_nil)) (pa_cons (pv 9) pa_nil))))) (pss_one (ps_ret pe_bl)) pss_nil)))) (pss_cons (ps_if (PW.pt (pw_and (pt_val (pe_ix ix_list (pv 7) pe_int (fun _ _ => rfl))) (pw_and1 (pt_not (pt_val (pe_call G__law_whole (hr.mono (by decide)) (by rfl) g__law_whole k__law_whole b__law_whole .nil pass0 (pa_cons (pe_fld (pv 6) rfl) pa_nil))))))) (pss_one (ps_ret pe_bl)) pss_nil) (pss_cons (ps_if (pt_cmpR op_eq (pe_bm PySem.F.plainAttrs_list PySem.F.slot_list_index PySem.F.type_list_index mt_index (pv 7) (pa_cons pe_bl pa_nil)) (pe_op op_add (pv 3) pe_int) (nomark _)) (pss_one (ps_ret pe_bl)) pss_nil) (pss_cons (ps_if (PW.pt (pw_or (pt_not (pt_val (pe_callB call_isi (by rfl) B.isi (by decide +kernel) (pa_cons (pe_fld (pv 6) rfl) (pa_cons (pe_bltn (v := .ty "list") (by rfl) B.list (by decide +kernel) rfl) pa_nil))))) (pw_or1 (pt_not (pt_val (pe_callB (cr_all rfl) (by rfl) B.all (by decide +kernel) (pa_cons (pe_lc (own := [("_law_triple_here", 10)]) (g := gName 10) (tt := tYes) rfl sc__law_told_right.nd (pi_list (pe_fld (pv 6) rfl)) (blkOk_by (N := ["_law_known", "_law_number_here", "_law_ask", "_law_good", "_law_others", "_law_again", "_law_found", "_law_kinds", "_law_other", "_law_due_here", "_law_triple_here"]) (sc := defScope s__law_told_right) (by decide +kernel)) (fun _ _ _ _ _ => pg_name (i := 10) sc__law_told_right.nd rfl (Or.inl rfl)) (fun _ _ _ _ _ => pts_nil) (fun _ _ _ _ _ => (pe_call G__law_are (hr.mono (by decide)) (by rfl) g__law_are k__law_are b__law_are .nil pass0 (pa_cons (pv 10) (pa_cons pe_int pa_nil))))) pa_nil))))))) (pss_one (ps_ret pe_bl)) pss_nil) (pss_cons (ps_expr (pe_bm PySem.F.plainAttrs_list PySem.F.slot_list_append PySem.F.type_list_append mt_append (pe_fld (pv 6) rfl) (pa_cons (pe_tup (pa_cons pe_int (pa_cons pe_int (pa_cons pe_int pa_nil)))) pa_nil))) (pss_one (ps_if (pt_cmpR op_notBl (pe_methA AS (hr.mono (by decide)) (pv 6) (pa_cons (pv 1) pa_nil)) pe_bl (nomark _)) (pss_one (ps_ret pe_bl)) pss_nil)))))))))))))) (pss_one (ps_ret pe_bl))), ?_⟩
    refine ⟨2, rfl, by decide, by decide, for_range (lo := 0) (n := (2 : Int).toNat) (fun i σ H' => ∃ (x5 x6 x7 x8 x9 x10 : Option V) (ws : List (Key × V)), σ = [some (.ref kn), some (.int N), some (.ref f), some (.int good), some (.ref oth), x5, x6, x7, x8, x9, x10] ∧ Kept kn H H' ∧ H' kn = some (.dK ws) ∧ Known K H' ws (fun _ => True) ∧ ws.length ≤ kvs.length + 3 * i) ⟨_, _, _, _, _, _, kvs, rfl, fun _ _ _ e => e, hk, kw, by omega⟩ ?_ ?_⟩
    · rintro i σ H1 hi ⟨x5, x6, x7, x8, x9, x10, ws, rfl, kp, hw, kw1, hl1⟩
      have hi : i < 2 := hi
      refine ⟨f, sp, rfl, if_pos rfl, _, rfl, gv N H1 _ _ n1 n2 fun H2 x l k s2 ak dN kpos => ?_⟩
      have nl1 : k.ly = true → H1 l = none := fun z => by
        rcases kpos with y | y
        · exact y.2
        · have := AK.ly_pos z g02 (.inr y)
          omega
      have kpos : k.pos = good ∨ k.pos = good + 1 := kpos.imp (fun z => z.1) id
      -- the four kinds
      obtain ⟨dx, fs, hx⟩ := ak.ins
      refine ⟨_, rfl, _, .ref c.L, _, _, k.isL, rfl, .own _, (I.f k).ty hx, I.l k, _, rfl, _, .ref c.B, _, _, k.isB, rfl, .own _, (I.f k).ty hx, I.b k, len2, fun t1 nt1 => ?_⟩
      have s3 := same_upd (o := .lst [.bl k.isL, .bl k.isB]) nt1
      have e3 : (upd H2 t1 (.lst [.bl k.isL, .bl k.isB])) t1 = some (.lst [.bl k.isL, .bl k.isB]) := upd_same
      generalize upd H2 t1 (.lst [.bl k.isL, .bl k.isB]) = H3 at *
      have hx3 := s3 _ _ hx
      refine ⟨_, rfl, _, rfl, _, .ref c.G, _, _, k.isG, rfl, .own _, (I.f k).ty hx3, I.g k, _, rfl, _, .ref c.H, _, _, k.isH, rfl, .own _, (I.f k).ty hx3, I.h k, len2, fun t2 nt2 => ?_⟩
      have s4 := same_upd (o := .lst [.bl k.isG, .bl k.isH]) nt2
      have e4 : (upd H3 t2 (.lst [.bl k.isG, .bl k.isH])) t2 = some (.lst [.bl k.isG, .bl k.isH]) := upd_same
      generalize upd H3 t2 (.lst [.bl k.isG, .bl k.isH]) = H4 at *
      refine ⟨t1, t2, _, _, rfl, rfl, s4 _ _ e3, e4, by show 4 ≤ sizeLine; decide, fun t3 nt3 => ?_⟩
      have s5 := same_upd (o := .lst ([.bl k.isL, .bl k.isB] ++ [.bl k.isG, .bl k.isH])) nt3
      have e5 : (upd H4 t3 (.lst ([.bl k.isL, .bl k.isB] ++ [.bl k.isG, .bl k.isH]))) t3 = some (.lst (k.tags.map V.bl)) := upd_same
      generalize upd H4 t3 (.lst ([.bl k.isL, .bl k.isB] ++ [.bl k.isG, .bl k.isH])) = H5 at *
      have s25 := s3.trans (s4.trans s5)
      have s15 := s2.trans s25
      refine ⟨_, rfl, _, .ref CA, _, _, true, rfl, .own _, (I.f k).ty (s25 _ _ hx), I.a k, true, rfl, iteF ?_⟩
      refine ⟨_, rfl, .inl ⟨rfl, _, SqL.of e5⟩, t3, .bl true, _, _, rfl, rfl, tags_dp (SqL.of e5), .bl true, tags_shaped k, rfl, rfl, _, rfl, ?_⟩
      rw [tags_count k]
      refine iteF ?_
      -- the index
      refine ⟨_, rfl, .inl ⟨rfl, _, SqL.of e5⟩, t3, _, .bl true, k.pos, _, rfl, rfl, SqL.of e5, rfl, tags_flat k, tags_at k, rfl, tags_no k, ?_⟩
      refine ⟨_, rfl, _, rfl, _, _, rfl, rfl, len2, fun t4 nt4 => ⟨t4, _, rfl, .inr (SqT.of upd_same), rfl, rfl, _, rfl, ?_⟩⟩
      have s6 := same_upd (o := .tup [.int good, .int ((good : Int) + 1)]) nt4
      generalize upd H5 t4 (.tup [.int good, .int ((good : Int) + 1)]) = H6 at *
      have s16 := s15.trans s6
      have e6 := s6 _ _ e5
      rw [show inV (.int (k.pos : Nat)) [.int good, .int ((good : Int) + 1)] = true from in2 kpos]
      refine iteF ?_
      -- due, shown
      have ak6 := ak.on (s25.trans s6)
      have kw6 := kw1.here.on s16
      have hw6 := s16 _ _ hw
      refine ⟨_, rfl, _, rfl, _, rfl, kn, x, l, ws, _, N, k, rfl, hw6, kw6, by omega, n1, by omega, ak6, fun H7 ws7 U7 kp7 hw7 kw7 hU7 hl7 => ⟨_, rfl, ?_⟩⟩
      rw [dN]
      refine iteF ?_
      have ak7 := ak6.kept hw6 kp7
      obtain ⟨C1, dz1, fz1, sz1, a1, b1, c1, d1⟩ := showsOf_at I N ak7 (by omega) (by omega)
      refine ⟨_, rfl, x, C1, dz1, fz1, sz1, rfl, a1, b1, c1, _, rfl, d1 _ _ fun H8 s8 => ?_⟩
      refine ⟨_, _, rfl, rfl, _, rfl, ?_⟩
      rw [dN]
      refine iteF ?_
      have kw8 := kw7.on s8
      have hw8 := s8 _ _ hw7
      have ak8 := ak7.on s8
      have e8 := s8 _ _ (kp7 _ _ (fun z => by rw [z, hw6] at e6; cases e6) e6)
      have ho8 := Same.seq s8 (kp7.seq hw6 (Same.seq s16 (kp.seq hk ho)))
      have nU7 : k.ly = true → ¬ U7 l := fun z u => by
        rcases hU7 l u with y | y
        · exact y (nl1 z)
        · obtain ⟨_, _, _, y2, _⟩ := ak6.list z
          rw [y] at y2
          cases y2
      have kp18 : Kept kn H1 H8 := (Kept.of s16).trans (kp7.trans (Kept.of s8))
      -- the others
      refine ⟨_, rfl, oth, rfl, ⟨_, ho8⟩, for_list (K := K) (a := oth) (xs := ns.map V.int) (fun j σ H9 => ∃ (x5 x8 x9 : Option V) (ws9 : List (Key × V)) (U9 : Addr → Prop), σ = [some (.ref kn), some (.int N), some (.ref f), some (.int good), some (.ref oth), x5, some (.ref x), some (.ref t3), x8, x9, x10] ∧ Kept kn H8 H9 ∧ H9 kn = some (.dK ws9) ∧ Known K H9 ws9 U9 ∧ (k.ly = true → ¬ U9 l) ∧ ws9.length ≤ ws7.length + j) ⟨_, _, _, ws7, U7, rfl, fun _ _ _ e => e, hw8, kw8, nU7, Nat.le_refl _⟩ (fun j σ H9 _ ⟨_, _, _, _, _, _, kp9, _⟩ => kp9.seq hw8 ho8) ?_ ?_⟩
      · rintro j y σ H9 hy ⟨x5, x8, x9, ws9, U9, rfl, kp9, hw9, kw9, nU9, hl9⟩
        obtain ⟨o, rfl, o1, o2⟩ : ∃ o : Int, y = .int o ∧ 2 ≤ o ∧ o ≤ 1000000 := by
          rw [List.getElem?_map] at hy
          cases z : ns[j]? with
          | none =>
            rw [z] at hy
            cases hy
          | some v =>
            rw [z] at hy
            exact ⟨v, (Option.some.inj hy).symm, hns v (List.mem_of_getElem? z)⟩
        have hj : j < ns.length := by
          have := (List.getElem?_eq_some_iff.mp hy).1
          rw [List.length_map] at this
          exact this
        have ak9 := ak8.kept hw8 kp9
        refine ⟨_, rfl, _, rfl, _, rfl, kn, x, l, ws9, U9, o, k, rfl, hw9, kw9, by omega, o1, by omega, ak9, fun H10 ws10 U10 kp10 hw10 kw10 hU10 hl10 => ?_⟩
        obtain ⟨C2, dz2, fz2, sz2, a2, b2, c2, d2⟩ := showsOf_at I o (ak9.kept hw9 kp10) (by omega) (by omega)
        refine ⟨_, rfl, x, C2, dz2, fz2, sz2, rfl, a2, b2, c2, _, rfl, d2 _ _ fun H11 s11 => ?_⟩
        refine ⟨_, rfl, k.due o, k.due o, rfl, _, rfl, ?_⟩
        rw [beq_self_eq_true]
        refine iteF ⟨_, _, _, ws10, U10, rfl, kp9.trans (kp10.trans (Kept.of s11)), s11 _ _ hw10, kw10.on s11, fun z u => ?_, by omega⟩
        rcases hU10 l u with y | y
        · exact nU9 z y
        · obtain ⟨_, _, _, y2, _⟩ := ak9.list z
          rw [y] at y2
          cases y2
      · rintro σ H9 ⟨x5, x8, x9, ws9, U9, rfl, kp9, hw9, kw9, nU9, hl9⟩
        rw [List.length_map] at hl9
        have ak9 := ak8.kept hw8 kp9
        have e9 := kp9 _ _ (fun z => by rw [z, hw8] at e8; cases e8) e8
        have kp19 := kp18.trans kp9
        have fin : k.ly = false → Q (.bl true) H9 := fun _ => q H9 ws9 (kp.trans kp19) hw9 (kw9.use fun _ _ => trivial) (by omega)
        refine ⟨_, rfl, t3, _, 1, _, rfl, rfl, SqL.of e9, rfl, k.isB, rfl, ?_⟩
        cases hly : k.ly with
        | true =>
          have hpos : k.pos = good := AK.ly_pos hly g02 kpos
          rw [AK.ly_b hly]
          refine iteF (iteF ?_)
          refine ⟨_, rfl, .inl ⟨rfl, _, SqL.of e9⟩, t3, _, .bl true, k.pos, _, rfl, rfl, SqL.of e9, rfl, tags_flat k, tags_at k, rfl, tags_no k, _, rfl, _, _, rfl, rfl, rfl, _, rfl, ?_⟩
          rw [dec_vint, decide_eq_false (show ¬ ((k.pos : Nat) : Int) = (good : Int) + 1 by omega)]
          refine iteF ?_
          obtain ⟨dx9, xs, hx9, hl9b, ht9⟩ := ak9.list hly
          have hlen : xs.length ≤ 4000 := by
            have := AK.due_len (by omega) (by omega) hly dN
            have := ht9.len
            omega
          refine ⟨_, rfl, x, k.cls c, dx9, _, _, rfl, hx9, (I.f k).cl, nT k hly, look_triples l, _, _, _, _, true, rfl, .ty _, tyx_lst (SqL.of hl9b), kit_ty kb_lst_lst, true, rfl, iteF ?_⟩
          refine ⟨_, rfl, x, k.cls c, dx9, _, _, rfl, hx9, (I.f k).cl, nT k hly, look_triples l, l, rfl, ⟨_, SqL.of hl9b⟩, fun D nD => lc_over_lst (xs := xs) (ys := List.replicate xs.length (.bl true)) (j := 10) (SqL.of hl9b) nD (by simp) (by omega) (fun m y z hy hz => ?_) (fun H10 s10 d10 => ?_)⟩
          · have hz2 : z = .bl true := by
              have := List.mem_of_getElem? hz
              rw [List.mem_replicate] at this
              exact this.2
            subst hz2
            obtain ⟨a, t, rfl, hat⟩ := ht9.at_ hy
            intro H10 s10 R hR
            exact ⟨_, rfl, a, [t.1, t.2.1, t.2.2], 3, rfl, Same.tup s10 hat, (by show 3 ≤ 1000; decide), rfl, fun H' s => hR _ s⟩
          · refine ⟨D, List.replicate xs.length true, rfl, SqL.of (by rw [d10, List.map_replicate]), _, rfl, ?_⟩
            rw [show (List.replicate xs.length true).all id = true by simp]
            refine iteF ?_
            have hx10 := s10 _ _ hx9
            have hl10 := s10 _ _ hl9b
            refine ⟨_, rfl, x, k.cls c, dx9, _, _, rfl, hx10, (I.f k).cl, nT k hly, look_triples l, .inl ⟨rfl, _, SqL.of hl10⟩, len3, fun t5 nt5 => ?_⟩
            have s11 := same_upd (o := .tup [.int 3, .int 4, .int 5]) nt5
            have e11 : SqT K (upd H10 t5 (.tup [.int 3, .int 4, .int 5])) t5 [.int ((3 : Int), (4 : Int), (5 : Int)).1, .int ((3 : Int), (4 : Int), (5 : Int)).2.1, .int ((3 : Int), (4 : Int), (5 : Int)).2.2] := SqT.of upd_same
            generalize upd H10 t5 (.tup [.int 3, .int 4, .int 5]) = H11 at *
            have s911 := s10.trans s11
            have hl11 := s11 _ _ hl10
            have hx11 := s11 _ _ hx10
            have hw11 := s911 _ _ hw9
            refine ⟨l, _, _, rfl, rfl, hl11, by rw [sizeLine_eq]; omega, ?_⟩
            have ak12 : AkAt K c (upd H11 l (.lst (xs ++ [.ref t5]))) x l (k.set (k.lst ++ [(3, 4, 5)])) := AkAt.mk hly (by rw [upd_ne (fun (z : x = l) => by rw [z, hl11] at hx11; cases hx11)]; exact hx11) upd_same (((ht9.same s911).app (.cons e11 .nil)).upd hl11)
            have kw12 := (kw9.on s911).put (ws := xs ++ [.ref t5]) hl11 (nU9 hly)
            have kp12 := Kept.new (o := .lst (xs ++ [.ref t5])) (nl1 hly) (kp19.trans (Kept.of (d := kn) s911))
            have hw12 : (upd H11 l (.lst (xs ++ [.ref t5]))) kn = some (.dK ws9) := by
              rw [upd_ne (fun (z : kn = l) => by rw [z, hl11] at hw11; cases hw11)]
              exact hw11
            generalize upd H11 l (.lst (xs ++ [.ref t5])) = H12 at *
            obtain ⟨C3, dz3, fz3, sz3, a3, b3, c3, d3⟩ := showsOf_at I N ak12 (by omega) (by omega)
            refine ⟨_, rfl, x, C3, dz3, fz3, sz3, rfl, a3, b3, c3, _, rfl, d3 _ _ fun H13 s13 => ?_⟩
            refine ⟨_, _, rfl, rfl, _, rfl, ?_⟩
            rw [AK.due_more hly dN]
            exact iteF ⟨_, _, _, _, _, _, ws9, rfl, kp.trans (kp12.trans (Kept.of s13)), s13 _ _ hw12, (kw12.on s13).use fun _ _ => trivial, by omega⟩
        | false =>
          cases k with
          | longest L => cases hly
          | leg L => cases hly
          | barred p =>
            obtain ⟨dx9, hx9⟩ := ak9
            refine iteT ⟨_, rfl, x, c.B, dx9, _, _, rfl, hx9, (I.f (.barred p)).cl, nP, look_prime _, _, "int", true, false, rfl, .base (.int p), kb_int_int, kb_int_bool, _, rfl, iteF ?_⟩
            refine ⟨_, rfl, .inl ⟨rfl, _, SqL.of e9⟩, t3, _, .bl true, _, _, rfl, rfl, SqL.of e9, rfl, tags_flat _, tags_at (.barred p), rfl, tags_no _, _, rfl, _, _, rfl, rfl, rfl, _, rfl, ?_⟩
            have kpos : 1 = good ∨ 1 = good + 1 := kpos
            rw [dec_vint, decide_eq_true (show (((AK.barred p).pos : Nat) : Int) = (good : Int) + 1 by show ((1 : Nat) : Int) = _; omega)]
            exact iteT (fin rfl)
          | halved =>
            refine iteF (iteF ?_)
            refine ⟨_, rfl, .inl ⟨rfl, _, SqL.of e9⟩, t3, _, .bl true, _, _, rfl, rfl, SqL.of e9, rfl, tags_flat _, tags_at .halved, rfl, tags_no _, _, rfl, _, _, rfl, rfl, rfl, _, rfl, ?_⟩
            have kpos : 3 = good ∨ 3 = good + 1 := kpos
            rw [dec_vint, decide_eq_true (show ((AK.halved.pos : Nat) : Int) = (good : Int) + 1 by show ((3 : Nat) : Int) = _; omega)]
            exact iteT (fin rfl)
    · rintro σ H' ⟨x5, x6, x7, x8, x9, x10, ws, rfl, kp, hw, kw1, hl1⟩
      have : (2 : Int).toNat = 2 := rfl
      exact q H' ws kp hw kw1 (by omega)
end
end SqP

namespace SqP
open PySem PySem.Spec PyProof.Rows L2 Sq
abbrev s_law : Stmt := topS 38
theorem sc_law : FnScope ["_law_script", "_law_known", "_law_k", "_law_number_here", "_law_some"] ["_law_script"] (defScope s_law) := ⟨rfl, rfl, rfl, by decide +kernel, rfl, by decide +kernel, by decide +kernel⟩
section
variable {P : Program} {w : World} {K : PySem.W.Frag} {mg : Str → Option Value} {base : Heap}
/-! ### law -/
theorem brd_in {N p : Int} (h : brd N p = true) : 2 ≤ p ∧ p ≤ N := by
  unfold brd at h
  rw [Bool.and_eq_true, Bool.and_eq_true, Bool.and_eq_true, Bool.and_eq_true, decide_eq_true_iff, decide_eq_true_iff] at h
  exact ⟨h.1.1.1.1, h.1.1.1.2⟩
theorem brd_none {N : Int} {n : Nat} (hn : N ≤ n) (h : ∀ q : Fin (n + 1), brd N ((q.val : Nat) : Int) = false) (p : Int) : brd N p = false := by
  cases e : brd N p with
  | false => rfl
  | true =>
    obtain ⟨a, b⟩ := brd_in e
    have := h ⟨p.toNat, by omega⟩
    rw [show ((p.toNat : Nat) : Int) = p by omega, e] at this
    cases this
theorem bd_mem {ns : List Int} {c : Int} (h : ∀ n ∈ ns, Bd 1048577 n) (hc : c ∈ ns ∨ c = 0) : Bd 1048577 c := by
  rcases hc with hc | rfl
  · exact h c hc
  · exact (bd_small (k := 64) (by decide)).mono (by decide)
/-- x.triples == [a told triple] -/
theorem one_tri {H : Hp} {Q : VK} {t : Tr} {xs : List V} {l : Addr} {σ : L2.St} (hl : H l = some (.lst xs)) (ht : TrS K H xs [t]) (q : ∀ H' l', Same H H' → Dp K H' (.ref l) (.list ([t].map trD)) → Dp K H' (.ref l') (.list ([t].map trD)) → Q (.ref l') H') : tLst (tCons (tTup (tCons (tC (V.int t.1)) (tCons (tC (V.int t.2.1)) (tCons (tC (V.int t.2.2)) tNil)))) tNil) σ H Q := by
  refine ⟨len3, fun a na => ?_⟩
  have s1 := same_upd (o := .tup [.int t.1, .int t.2.1, .int t.2.2]) na
  have ea : SqT K (upd H a (.tup [.int t.1, .int t.2.1, .int t.2.2])) a [.int t.1, .int t.2.1, .int t.2.2] := SqT.of upd_same
  generalize upd H a (.tup [.int t.1, .int t.2.1, .int t.2.2]) = H1 at *
  refine ⟨by show 1 ≤ sizeLine; decide, fun b nb => ?_⟩
  have s2 := same_upd (o := .lst [.ref a]) nb
  have eb : SqL K (upd H1 b (.lst [.ref a])) b [.ref a] := SqL.of upd_same
  exact q _ b (s1.trans s2) (trs_dp (SqL.of (s2 _ _ (s1 _ _ hl))) (ht.same (s1.trans s2))) (trs_dp eb (.cons (Same.tup s2 ea) .nil))
theorem trd_dp {H : Hp} {a : Addr} {t : Tr} (h : SqT K H a [.int t.1, .int t.2.1, .int t.2.2]) : Dp K H (.ref a) (trD t) := .tup h (.cons (.int _) (.cons (.int _) (.cons (.int _) .nil)))
theorem trd_shaped (t : Tr) : SeqAt.shaped (trD t) = true := by
  have h1 := trd_lay t
  have h2 := trd_depth t
  show (PyData.canLay0 (trD t) && decide (PyData.depth (trD t) ≤ 64)) = true
  rw [h1, h2]
  rfl
def sp_law (K : PySem.W.Frag) : Sp := fun vs H Q _ => ∃ (a : Addr) (ns : List Int), vs = [.ref a] ∧ SqL K H a (ns.map V.int) ∧ (∀ n ∈ ns, Bd 1048577 n) ∧ ns.length ≤ 63 ∧ ∀ H', Q (.bl true) H'
set_option maxHeartbeats 16000000 in
theorem ok_law (B : Bt mg) {c : Cs} {CA : Addr} (I : IsAll K c CA) (c_Longest : KC K mg "Longest" c.L) (c_Leg : KC K mg "Leg" c.G) (c_Barred : KC K mg "Barred" c.B) (c_Halved : KC K mg "Halved" c.H) (nT : ∀ k : AK, k.ly = true → NoAttr K (k.cls c) "triples") (nP : NoAttr K c.B "prime") {fL fG : Addr} (gL : mg "longest" = some (.ref fL)) (gG : mg "leg" = some (.ref fG)) {f : Addr} {fd : FuncData} (F : Fun K "law" "law" s_law f fd)
    (H__law_number : Has P w K mg base 3 "_law_number" ["_law_script", "_law_k"] (sp_number K)) (H_longest : Has P w K mg base 35 "longest" ["number"] (sp_longest K c.B c.L)) (H_leg : Has P w K mg base 34 "leg" ["number"] (sp_leg K c.H c.G)) (H__law_told_right : Has P w K mg base 36 "_law_told_right" ["_law_known", "_law_number_here", "_law_ask", "_law_good", "_law_others"] (sp_told K fL fG)) :
    FnOk P w K mg base CX0 37 f fd ["_law_script"] (sp_law K) := by
  obtain ⟨f__law_number, fd__law_number, G__law_number, k__law_number, b__law_number, g__law_number⟩ := H__law_number
  obtain ⟨f_longest, fd_longest, G_longest, k_longest, b_longest, g_longest⟩ := H_longest
  obtain ⟨f_leg, fd_leg, G_leg, k_leg, b_leg, g_leg⟩ := H_leg
  obtain ⟨f__law_told_right, fd__law_told_right, G__law_told_right, k__law_told_right, b__law_told_right, g__law_told_right⟩ := H__law_told_right
  have eL : f_longest = fL := by
    rw [gL] at g_longest
    cases g_longest
    rfl
  have eG : f_leg = fG := by
    rw [gG] at g_leg
    cases g_leg
    rfl
  have nL : NoAttr K c.L "triples" := nT (.longest []) rfl
  have nG : NoAttr K c.G "triples" := nT (.leg []) rfl
  refine F.ok sc_law (fun vs H Q E h => ?_) (fun cdv A outer s H vs Q E hr h => ?_)
  · obtain ⟨a, ns, rfl, _⟩ := h
    rfl
  · obtain ⟨a, ns, rfl, hS, hb, hl, q⟩ := h
    refine ⟨_, (pss_cons (ps_par (i := 0) (j := 1) rfl sc_law.nd rfl rfl (by decide) rfl rfl (pa_cons (pe_slice sl_list (pv 0) po_none (po_some pe_int)) (pa_cons pe_dnewK pa_nil)) (by rfl)) (pss_cons (ps_for PassesOwn.never rfl (pi_range3 (by rfl) B.range (pa_cons pe_int (pa_cons (pe_callB call_len_seq (by rfl) B.len PySem.boot_len (pa_cons (pv 0) pa_nil)) (pa_cons (pe_op op_add pe_int (pe_op op_fdiv (pe_callB call_len_seq (by rfl) B.len PySem.boot_len (pa_cons (pv 0) pa_nil)) pe_int)) pa_nil)))) (pg_name (i := 2) sc_law.nd rfl (Or.inl rfl)) (pss_cons (ps_set (i := 3) sc_law.nd rfl (Or.inl rfl) (pe_call G__law_number (hr.mono (by decide)) (by rfl) g__law_number k__law_number b__law_number .nil pass0 (pa_cons (pv 0) (pa_cons (pv 2) pa_nil)))) (pss_one (ps_for PassesOwn.never rfl (pi_tup (pe_tup (pa_cons (pv 3) (pa_cons (pe_op op_add (pv 3) pe_int) (pa_cons (pe_callB (call_min2 rfl) (by rfl) B.min (by decide +kernel) (pa_cons (pe_op op_mul pe_int (pv 3)) (pa_cons pe_int pa_nil))) pa_nil))))) (pg_name (i := 4) sc_law.nd rfl (Or.inl rfl)) (pss_cons (ps_set (i := 4) sc_law.nd rfl (Or.inl rfl) (pe_callB (call_min2 rfl) (by rfl) B.min (by decide +kernel) (pa_cons (pv 4) (pa_cons pe_int pa_nil)))) (pss_cons (ps_if (pt_not (pt_val (pe_call G__law_told_right (hr.mono (by decide)) (by rfl) g__law_told_right k__law_told_right b__law_told_right .nil pass0 (pa_cons (pv 1) (pa_cons (pv 4) (pa_cons (pe_glob (v := .ref fL) (by rfl) gL rfl) (pa_cons pe_int (pa_cons (pe_lst (pa_cons (pv 3) (pa_cons pe_int pa_nil))) pa_nil)))))))) (pss_one (ps_ret pe_bl)) pss_nil) (pss_one (ps_if (pt_not (pt_val (pe_call G__law_told_right (hr.mono (by decide)) (by rfl) g__law_told_right k__law_told_right b__law_told_right .nil pass0 (pa_cons (pv 1) (pa_cons (pv 4) (pa_cons (pe_glob (v := .ref fG) (by rfl) gG rfl) (pa_cons pe_int (pa_cons (pe_lst (pa_cons (pv 3) (pa_cons pe_int pa_nil))) pa_nil)))))))) (pss_one (ps_ret pe_bl)) pss_nil)))))))) (pss_cons (ps_if (PW.pt (pw_or (pt_cmpR (op_neD hr.units) (pe_fld (pe_call G_longest (hr.mono (by decide)) (by rfl) g_longest k_longest b_longest .nil pass0 (pa_cons pe_int pa_nil)) rfl) (pe_lst (pa_cons (pe_tup (pa_cons pe_int (pa_cons pe_int (pa_cons pe_int pa_nil)))) (pa_cons (pe_tup (pa_cons pe_int (pa_cons pe_int (pa_cons pe_int pa_nil)))) pa_nil))) (nomark _)) (pw_or1 (pt_cmpR (op_neD hr.units) (pe_ix ix_list (pe_fld (pe_call G_leg (hr.mono (by decide)) (by rfl) g_leg k_leg b_leg .nil pass0 (pa_cons pe_int pa_nil)) rfl) pe_int (fun _ _ => rfl)) (pe_tup (pa_cons pe_int (pa_cons pe_int (pa_cons pe_int pa_nil)))) (nomark _))))) (pss_one (ps_ret pe_bl)) pss_nil) (pss_cons (ps_if (PW.pt (pw_or (pt_not (pt_val (pe_callB call_isi (by rfl) B.isi (by decide +kernel) (pa_cons (pe_call G_longest (hr.mono (by decide)) (by rfl) g_longest k_longest b_longest .nil pass0 (pa_cons pe_int pa_nil)) (pa_cons (pe_glob (v := .ref c.B) (by rfl) c_Barred.mg rfl) pa_nil))))) (pw_or (pt_not (pt_val (pe_callB call_isi (by rfl) B.isi (by decide +kernel) (pa_cons (pe_call G_leg (hr.mono (by decide)) (by rfl) g_leg k_leg b_leg .nil pass0 (pa_cons pe_int pa_nil)) (pa_cons (pe_glob (v := .ref c.H) (by rfl) c_Halved.mg rfl) pa_nil))))) (pw_or1 (pt_cmpR op_ne (pe_callB call_len_seq (by rfl) B.len PySem.boot_len (pa_cons (pe_fld (pe_call G_leg (hr.mono (by decide)) (by rfl) g_leg k_leg b_leg .nil pass0 (pa_cons pe_int pa_nil)) rfl) pa_nil)) pe_int (nomark _)))))) (pss_one (ps_ret pe_bl)) pss_nil) (pss_cons (ps_if (PW.pt (pw_or (pt_cmpR (op_neD hr.units) (pe_fld (pe_call G_longest (hr.mono (by decide)) (by rfl) g_longest k_longest b_longest .nil pass0 (pa_cons pe_int pa_nil)) rfl) (pe_lst (pa_cons (pe_tup (pa_cons pe_int (pa_cons pe_int (pa_cons pe_int pa_nil)))) pa_nil)) (nomark _)) (pw_or1 (pt_cmpR op_ne (pe_fld (pe_call G_longest (hr.mono (by decide)) (by rfl) g_longest k_longest b_longest .nil pass0 (pa_cons pe_int pa_nil)) rfl) pe_int (nomark _))))) (pss_one (ps_ret pe_bl)) pss_nil) (pss_one (ps_ret (pe_and (pe_cmpR (op_eqD hr.units) (pe_fld (pe_call G_leg (hr.mono (by decide)) (by rfl) g_leg k_leg b_leg .nil pass0 (pa_cons pe_int pa_nil)) rfl) (pe_lst (pa_cons (pe_tup (pa_cons pe_int (pa_cons pe_int (pa_cons pe_int pa_nil)))) pa_nil)) (nomark _)) (pe_one (pe_cmpR (op_eqD hr.units) (pe_fld (pe_call G_longest (hr.mono (by decide)) (by rfl) g_longest k_longest b_longest .nil pass0 (pa_cons pe_int pa_nil)) rfl) (pe_lst (pa_cons (pe_tup (pa_cons pe_int (pa_cons pe_int (pa_cons pe_int pa_nil)))) pa_nil)) (nomark _))))))))))), ?_⟩
    refine ⟨_, rfl, 63, rfl, a, _, rfl, hS, fun sa nsa => ?_⟩
    obtain ⟨cs, e, hcs⟩ := cut_ints ns none (some 63)
    have hcl : cs.length ≤ 63 := by
      have := cut_to (ns.map V.int) 63
      rw [show ((63 : Nat) : Int) = 63 by rfl, e] at this
      have := congrArg List.length this
      rw [List.length_map, List.length_take, List.length_map] at this
      omega
    rw [e]
    have hcb : ∀ n ∈ cs, Bd 1048577 n := fun z hz => hb z (hcs z hz)
    have hsa : SqL K (upd H sa (.lst (cs.map V.int))) sa (cs.map V.int) := SqL.of upd_same
    generalize upd H sa (.lst (cs.map V.int)) = H0 at *
    refine fun kn nkn => ⟨_, _, rfl, ?_⟩
    have s1 := same_upd (o := .dK []) nkn
    have ek : (upd H0 kn (.dK [])) kn = some (.dK []) := upd_same
    have hsa := Same.seq s1 hsa
    generalize upd H0 kn (.dK []) = H1 at *
    have kw0 : Known K H1 [] (fun _ => True) := fun N v z => by cases z
    obtain ⟨st, hst⟩ : ∃ st : Int, st = 1 + ((cs.map V.int).length : Int) / 3 := ⟨_, rfl⟩
    have hst1 : 0 < st ∧ st ≤ 30 := by
      rw [List.length_map] at hst
      omega
    obtain ⟨n, hrg, hin⟩ := rgc_up (l := (cs.length : Int)) (c := st) (by omega) (by omega) hst1.1 (by omega)
    refine ⟨_, rfl, sa, _, rfl, .inl hsa, _, rfl, sa, _, rfl, .inl hsa, _, _, rfl, rfl, ⟨by decide, by decide⟩, _, _, rfl, rfl, 0, _, st, n, by rw [hst], by rw [List.length_map]; exact hrg, ?_⟩
    refine for_rangeC (lo := 0) (c := st) (n := n) (fun i σ H' => ∃ (v2 v3 v4 : Option V) (ws : List (Key × V)), σ = [some (.ref sa), some (.ref kn), v2, v3, v4] ∧ Kept kn H1 H' ∧ H' kn = some (.dK ws) ∧ Known K H' ws (fun _ => True) ∧ ws.length ≤ 36 * i) ⟨_, _, _, [], rfl, fun _ _ _ e => e, ek, kw0, Nat.zero_le _⟩ ?_ ?_
    · rintro i σ H' hi ⟨v2, v3, v4, ws, rfl, kp, hw, kw, hwl⟩
      have hi2 := hin i hi
      have hi0 : 0 ≤ (i : Int) * st := Int.mul_nonneg (by omega) (by omega)
      have hi3 : i ≤ 63 := by
        have : (i : Int) * 1 ≤ (i : Int) * st := Int.mul_le_mul_of_nonneg_left (by omega) (by omega)
        omega
      obtain ⟨k, hk⟩ : ∃ k : Nat, (0 : Int) + (i : Int) * st = (k : Int) := ⟨((i : Int) * st).toNat, by omega⟩
      rw [hk]
      have hsa1 := kp.seq ek hsa
      refine ⟨_, rfl, _, rfl, sa, cs, k, rfl, hsa1, by omega, by omega, hcb, fun H2 N s2 N1 N2 => ?_⟩
      -- the three numbers
      refine ⟨_, rfl, _, rfl, _, _, rfl, rfl, _, rfl, _, _, rfl, rfl, .inl ⟨by decide, by decide⟩, _, _, rfl, ?_⟩
      obtain ⟨M, hM, M1, M2⟩ : ∃ M : Int, M = (if (1000000 : Int) < 4 * N then 1000000 else 4 * N) ∧ 2 ≤ M ∧ M ≤ 1000000 := by
        refine ⟨_, rfl, ?_⟩
        by_cases z : (1000000 : Int) < 4 * N
        · rw [if_pos z]
          exact ⟨by decide, by decide⟩
        · rw [if_neg z]
          exact ⟨by omega, by omega⟩
      rw [← hM]
      refine ⟨len3, fun t3 nt3 => ⟨t3, rfl, ⟨_, SqT.of upd_same⟩, ?_⟩⟩
      have s3 := same_upd (o := .tup [.int N, .int (N + 1), .int M]) nt3
      have e3 : SqT K (upd H2 t3 (.tup [.int N, .int (N + 1), .int M])) t3 [.int N, .int (N + 1), .int M] := SqT.of upd_same
      generalize upd H2 t3 (.tup [.int N, .int (N + 1), .int M]) = H3 at *
      have s13 := s2.trans s3
      have hw3 := s13 _ _ hw
      refine for_tup (K := K) (a := t3) (xs := [.int N, .int (N + 1), .int M]) (fun j σ H9 => ∃ (v4 : Option V) (ws9 : List (Key × V)), σ = [some (.ref sa), some (.ref kn), some (.int k), some (.int N), v4] ∧ Kept kn H3 H9 ∧ H9 kn = some (.dK ws9) ∧ Known K H9 ws9 (fun _ => True) ∧ ws9.length ≤ 36 * i + 12 * j) ⟨_, ws, rfl, fun _ _ _ e => e, hw3, kw.on s13, by omega⟩ (fun j σ H9 _ ⟨_, _, _, kp9, _⟩ => kp9.tup hw3 e3) ?_ ?_
      · rintro j y σ H9 hy ⟨v4, ws9, rfl, kp9, hw9, kw9, hl9⟩
        obtain ⟨z, rfl, z1⟩ : ∃ z : Int, y = .int z ∧ 2 ≤ z := by
          match j, hy with
          | 0, hy => cases hy; exact ⟨_, rfl, N1⟩
          | 1, hy => cases hy; exact ⟨_, rfl, by omega⟩
          | 2, hy => cases hy; exact ⟨_, rfl, M1⟩
          | j + 3, hy => cases hy
        have hj : j < 3 := (List.getElem?_eq_some_iff.mp hy).1
        refine ⟨_, rfl, _, _, rfl, ?_⟩
        obtain ⟨S, hS2, S1, S2⟩ : ∃ S : Int, S = (if (1000000 : Int) < z then 1000000 else z) ∧ 2 ≤ S ∧ S ≤ 1000000 := by
          refine ⟨_, rfl, ?_⟩
          by_cases z : (1000000 : Int) < z
          · rw [if_pos z]
            exact ⟨by decide, by decide⟩
          · rw [if_neg z]
            exact ⟨by omega, by omega⟩
        rw [← hS2]
        refine ⟨_, rfl, _, rfl, _, rfl, len2, fun l1 nl1 => ?_⟩
        have s4 := same_upd (o := .lst [.int N, .int 25]) nl1
        have e4 : SqL K (upd H9 l1 (.lst [.int N, .int 25])) l1 ([N, 25].map V.int) := SqL.of upd_same
        generalize upd H9 l1 (.lst [.int N, .int 25]) = H4 at *
        refine ⟨kn, fL, l1, ws9, S, 0, [N, 25], rfl, s4 _ _ hw9, kw9.on s4, by omega, S1, S2, e4, (by show 2 ≤ 2; decide), fun n hn => ?_, .inl ⟨rfl, rfl⟩, fun H5 ws5 kp5 hw5 kw5 hl5 => ⟨_, rfl, iteF ?_⟩⟩
        · simp only [List.mem_cons, List.not_mem_nil, or_false] at hn
          rcases hn with rfl | rfl <;> omega
        refine ⟨_, rfl, _, rfl, _, rfl, len2, fun l2 nl2 => ?_⟩
        have s6 := same_upd (o := .lst [.int N, .int 60]) nl2
        have e6 : SqL K (upd H5 l2 (.lst [.int N, .int 60])) l2 ([N, 60].map V.int) := SqL.of upd_same
        generalize upd H5 l2 (.lst [.int N, .int 60]) = H6 at *
        refine ⟨kn, fG, l2, ws5, S, 2, [N, 60], rfl, s6 _ _ hw5, kw5.on s6, by omega, S1, S2, e6, (by show 2 ≤ 2; decide), fun n hn => ?_, .inr ⟨rfl, rfl⟩, fun H7 ws7 kp7 hw7 kw7 hl7 => ⟨_, rfl, iteF ?_⟩⟩
        · simp only [List.mem_cons, List.not_mem_nil, or_false] at hn
          rcases hn with rfl | rfl <;> omega
        exact ⟨_, ws7, rfl, kp9.trans ((Kept.of s4).trans (kp5.trans ((Kept.of s6).trans kp7))), hw7, kw7, by omega⟩
      · rintro σ H9 ⟨v4, ws9, rfl, kp9, hw9, kw9, hl9⟩
        have hl9 : ws9.length ≤ 36 * i + 12 * 3 := hl9
        exact ⟨_, _, _, ws9, rfl, kp.trans ((Kept.of s13).trans kp9), hw9, kw9, by omega⟩
    · rintro σ H' ⟨v2, v3, v4, ws, rfl, -⟩
      clear hsa hS kw0 hrg hin hst
      -- longest(65), leg(60)
      refine ⟨65, rfl, by decide, by decide, fun _ _ _ p _ _ h => absurd h (by rw [(brd_none (n := 65) (by decide) (by decide +kernel)) p]; decide), fun H1 x1 d1 l1 xs1 s1 hx1 hl1 _ ht0 _ => ?_⟩
      have ht1 : TrS K H1 xs1 [(33, 56, 65), (63, 16, 65)] := (show srt (lgL 65) = [(33, 56, 65), (63, 16, 65)] from (srt_of (by decide +kernel) (by decide +kernel)).symm) ▸ ht0
      refine ⟨x1, c.L, d1, _, _, rfl, hx1, c_Longest.cl, nL, look_triples l1, len3, fun a1 na1 => ?_⟩
      have s2 := same_upd (o := .tup [.int 33, .int 56, .int 65]) na1
      have e2 : SqT K (upd H1 a1 (.tup [.int 33, .int 56, .int 65])) a1 [.int ((33 : Int), (56 : Int), (65 : Int)).1, .int ((33 : Int), (56 : Int), (65 : Int)).2.1, .int ((33 : Int), (56 : Int), (65 : Int)).2.2] := SqT.of upd_same
      generalize upd H1 a1 (.tup [.int 33, .int 56, .int 65]) = H2 at *
      refine ⟨len3, fun a2 na2 => ?_⟩
      have s3 := same_upd (o := .tup [.int 63, .int 16, .int 65]) na2
      have e3 : SqT K (upd H2 a2 (.tup [.int 63, .int 16, .int 65])) a2 [.int ((63 : Int), (16 : Int), (65 : Int)).1, .int ((63 : Int), (16 : Int), (65 : Int)).2.1, .int ((63 : Int), (16 : Int), (65 : Int)).2.2] := SqT.of upd_same
      generalize upd H2 a2 (.tup [.int 63, .int 16, .int 65]) = H3 at *
      refine ⟨len2, fun a3 na3 => ?_⟩
      have s4 := same_upd (o := .lst [.ref a1, .ref a2]) na3
      have e4 : SqL K (upd H3 a3 (.lst [.ref a1, .ref a2])) a3 [.ref a1, .ref a2] := SqL.of upd_same
      generalize upd H3 a3 (.lst [.ref a1, .ref a2]) = H4 at *
      have s14 := s2.trans (s3.trans s4)
      refine ⟨_, _, trs_dp (SqL.of (s14 _ _ hl1)) (ht1.same s14), trs_dp e4 (.cons (Same.tup (s3.trans s4) e2) (.cons (Same.tup s4 e3) .nil)), trs_shaped _, trs_shaped _, _, rfl, ?_⟩
      rw [trl_eqv, decide_eq_true rfl]
      refine iteF ?_
      refine ⟨60, rfl, by decide, by decide, fun z => absurd z (by decide), fun _ H5 x2 d2 l2 xs2 s5 hx2 hl2 _ ht0 _ => ?_⟩
      have ht2 : TrS K H5 xs2 [(11, 60, 61), (91, 60, 109), (221, 60, 229), (899, 60, 901)] := (show srt (leL 60) = [(11, 60, 61), (91, 60, 109), (221, 60, 229), (899, 60, 901)] from (srt_of (by decide +kernel) (by decide +kernel)).symm) ▸ ht0
      cases ht2 with
      | @cons b1 _ ys _ hb1 _ =>
        refine ⟨x2, c.G, d2, _, _, rfl, hx2, c_Leg.cl, nG, look_triples l2, l2, _, (0 : Nat), .ref b1, rfl, rfl, SqL.of hl2, atI_nat rfl, len3, fun a4 na4 => ?_⟩
        have s6 := same_upd (o := .tup [.int 11, .int 60, .int 61]) na4
        have e6 : SqT K (upd H5 a4 (.tup [.int 11, .int 60, .int 61])) a4 [.int ((11 : Int), (60 : Int), (61 : Int)).1, .int ((11 : Int), (60 : Int), (61 : Int)).2.1, .int ((11 : Int), (60 : Int), (61 : Int)).2.2] := SqT.of upd_same
        generalize upd H5 a4 (.tup [.int 11, .int 60, .int 61]) = H6 at *
        refine ⟨_, _, trd_dp (Same.tup s6 hb1), trd_dp e6, trd_shaped _, trd_shaped _, _, rfl, ?_⟩
        rw [trd_eqv, decide_eq_true rfl]
        refine iteF ?_
        -- the classes
        refine ⟨999999, rfl, by decide, by decide, fun H7 x3 d3 p s7 hx3 hb => ?_, fun _ _ _ _ _ _ _ _ _ _ ne => absurd (lgL_mod ne) (by decide)⟩
        refine ⟨_, .ref c.B, _, _, true, rfl, .own _, (I.f (.barred p)).ty hx3, I.b (.barred p), true, rfl, iteF ?_⟩
        refine ⟨999998, rfl, by decide, by decide, fun _ H8 x4 d4 s8 hx4 => ?_, fun z => absurd (by decide) z⟩
        refine ⟨_, .ref c.H, _, _, true, rfl, .own _, (I.f .halved).ty hx4, I.h .halved, true, rfl, iteF ?_⟩
        refine ⟨60, rfl, by decide, by decide, fun z => absurd z (by decide), fun _ H9 x5 d5 l5 xs5 s9 hx5 hl5 _ ht0 _ => ?_⟩
        have ht5 : TrS K H9 xs5 [(11, 60, 61), (91, 60, 109), (221, 60, 229), (899, 60, 901)] := (show srt (leL 60) = [(11, 60, 61), (91, 60, 109), (221, 60, 229), (899, 60, 901)] from (srt_of (by decide +kernel) (by decide +kernel)).symm) ▸ ht0
        refine ⟨x5, c.G, d5, _, _, rfl, hx5, c_Leg.cl, nG, look_triples l5, l5, _, rfl, .inl (SqL.of hl5), rfl, _, rfl, ?_⟩
        rw [ht5.len, dec_vint]
        refine iteF ?_
        -- longest(25), longest(2)
        refine ⟨25, rfl, by decide, by decide, fun _ _ _ p _ _ h => absurd h (by rw [(brd_none (n := 25) (by decide) (by decide +kernel)) p]; decide), fun H10 x6 d6 l6 xs6 s10 hx6 hl6 _ ht0 _ => ?_⟩
        have ht6 : TrS K H10 xs6 [(7, 24, 25)] := (show srt (lgL 25) = [(7, 24, 25)] from (by decide +kernel)) ▸ ht0
        refine ⟨x6, c.L, d6, _, _, rfl, hx6, c_Longest.cl, nL, look_triples l6, one_tri (t := (7, 24, 25)) hl6 ht6 fun H11 l7 s11 dp1 dp2 => ?_⟩
        refine ⟨_, _, dp1, dp2, trs_shaped _, trs_shaped _, _, rfl, ?_⟩
        rw [trl_eqv, decide_eq_true rfl]
        refine iteF ?_
        refine ⟨2, rfl, by decide, by decide, fun H12 x7 d7 p7 s12 hx7 hb7 => ?_, fun _ _ _ _ _ _ _ _ _ _ ne => absurd (lgL_mod ne) (by decide)⟩
        have e7 : p7 = 2 := by
          have := brd_in hb7
          omega
        subst e7
        refine ⟨x7, c.B, d7, _, _, rfl, hx7, c_Barred.cl, nP, look_prime _, rfl, _, rfl, ?_⟩
        rw [dec_vint]
        refine iteF ?_
        -- leg(3), longest(5)
        refine ⟨3, rfl, by decide, by decide, fun z => absurd z (by decide), fun _ H13 x8 d8 l8 xs8 s13 hx8 hl8 _ ht0 _ => ?_⟩
        have ht8 : TrS K H13 xs8 [(3, 4, 5)] := (show srt (leL 3) = [(3, 4, 5)] from (by decide +kernel)) ▸ ht0
        refine ⟨x8, c.G, d8, _, _, rfl, hx8, c_Leg.cl, nG, look_triples l8, one_tri (t := (3, 4, 5)) hl8 ht8 fun H14 l9 s14 dp1 dp2 => ?_⟩
        refine ⟨_, _, dp1, dp2, trs_shaped _, trs_shaped _, _, rfl, ?_⟩
        rw [trl_eqv, decide_eq_true rfl]
        refine iteT ?_
        refine ⟨5, rfl, by decide, by decide, fun _ _ _ p _ _ h => absurd h (by rw [(brd_none (n := 5) (by decide) (by decide +kernel)) p]; decide), fun H15 x9 d9 l10 xs9 s15 hx9 hl9 _ ht0 _ => ?_⟩
        have ht9 : TrS K H15 xs9 [(3, 4, 5)] := (show srt (lgL 5) = [(3, 4, 5)] from (by decide +kernel)) ▸ ht0
        refine ⟨x9, c.L, d9, _, _, rfl, hx9, c_Longest.cl, nL, look_triples l10, one_tri (t := (3, 4, 5)) hl9 ht9 fun H16 l11 s16 dp1 dp2 => ?_⟩
        refine ⟨_, _, dp1, dp2, trs_shaped _, trs_shaped _, ?_⟩
        rw [trl_eqv, decide_eq_true rfl]
        exact q _
end
end SqP

namespace SqP
open PySem PySem.Spec PyProof.Rows L2 Sq
/-! ### the law's end, the built-in modules' names told too -/
theorem frag_mem {K : PySem.W.Frag} {a : Addr} {o : Obj} (h : (a, o) ∈ K) : ∃ o', K.lookup a = some o' := by
  induction K with
  | nil => cases h
  | cons p K ih =>
    obtain ⟨b, u⟩ := p
    by_cases e : a = b
    · exact ⟨u, by rw [e, List.lookup_cons_self]⟩
    · have hb : (a == b) = false := by simpa using e
      rcases List.mem_cons.mp h with z | z
      · exact absurd (Prod.mk.inj z).1 e
      · obtain ⟨o', h'⟩ := ih z
        exact ⟨o', by rw [List.lookup_cons, hb]; exact h'⟩
theorem frag_of {E : PySem.W.Frag} {a : Addr} {o : Obj} (h : E.lookup a = some o) : (a, o) ∈ E := by
  induction E with
  | nil => cases h
  | cons p E ih =>
    obtain ⟨b, u⟩ := p
    rw [List.lookup_cons] at h
    by_cases e : (a == b) = true
    · rw [e] at h
      have h : some u = some o := h
      cases h
      rw [beq_iff_eq.mp e]
      exact List.mem_cons_self
    · rw [Bool.not_eq_true] at e
      rw [e] at h
      exact List.mem_cons_of_mem _ (ih h)
theorem frag_app {K E : PySem.W.Frag} {a : Addr} {o : Obj} (h : (K ++ E).lookup a = some o) : K.lookup a = some o ∨ (K.lookup a = none ∧ (a, o) ∈ E) := by
  rw [List.lookup_append] at h
  cases e : K.lookup a with
  | some u =>
    rw [e] at h
    exact .inl h
  | none =>
    rw [e] at h
    have h : E.lookup a = some o := h
    exact .inr ⟨rfl, frag_of h⟩
theorem frag_left {K E : PySem.W.Frag} {a : Addr} {o : Obj} (h : K.lookup a = some o) : (K ++ E).lookup a = some o := by
  rw [List.lookup_append, h]
  rfl
theorem frag_in {K E : PySem.W.Frag} {h : Heap} (hK : K.In h) (hE : ∀ p ∈ E, h.get? p.1 = some p.2) : PySem.W.Frag.In (K ++ E) h := fun a o e => by
  rcases frag_app e with q | ⟨_, q⟩
  · exact hK a o q
  · exact hE _ q
theorem frag_at {K : PySem.W.Frag} {h base : Heap} {a : Addr} {o : Obj} (hK : K.In h) (hB : K.In base) (m : (a, o) ∈ K) (e : h.get? a = some o) : base.get? a = some o := by
  obtain ⟨o', l⟩ := frag_mem m
  have := hK a o' l
  rw [e] at this
  cases this
  exact hB a o l
theorem fn_more {P : Program} {w : World} {K E : PySem.W.Frag} {mg : Str → Option Value} {base : Heap} {CX : CXT} {k : Nat} {f : Addr} {fd : FuncData} {ps : List Str} {sp : Sp} (F : FnOk P w K mg base CX k f fd ps sp) : FnOk P w (K ++ E) mg base CX k f fd ps sp :=
  ⟨F.len, fun A outer s H args us vs Q X hr e hb hv hs => F.run A outer s H args us vs Q X hr ⟨e.frames, ⟨fun a o q => e.mod.kin a o (frag_left q), e.mod.glob, e.mod.blt, e.mod.nolimit⟩, e.bs, e.bsz, e.funs, e.frf, e.hok, e.bare⟩ hb hv hs⟩
theorem walk_ofS {l : PySem.W.OpenLaw} {n k : Nat} {q : Program} {loose : List Str} {XP : (Str → Option Value) → Heap → Prop} {YP : World → Heap → Prop} {d : DefRec} {K : Params → PySem.W.Frag} {sp : PySem.W.Frag → Sp} {x : Str}
    (hn : l.most = some n) (hn2 : n ≤ sizeLine) (hdf : d.params.defaults = []) (hr : Room k callerA) (hq : importsNone q = true)
    (hY : ∀ (w : World) (h : Heap), YP w h → (K w.params).In h)
    (F : ∀ (w : World) (mg : Str → Option Value) (fa : Addr) (h : Heap), (K w.params).In h → h.Ns mainGlobals mg → mg d.name = some (.ref fa) →
      ∃ fd : FuncData, (∀ (s : Shared) (u : Value), BindsTo s fd ⟨[u], []⟩ [(x, u)]) ∧
        ∀ base : Heap, (K w.params).In base → base.Ns mainGlobals mg → base.NoSeer → FnOk l.prog w (K w.params) mg base CX0 k fa fd [x] (sp (K w.params)))
    (hsp : ∀ (K : PySem.W.Frag) (H : Hp) (a : Addr) (ns : List Int), ns.length ≤ n → (∀ z ∈ ns, Bd 1048577 z) → SqL K H a (ns.map V.int) → sp K [.ref a] H (fun v _ => v = .bl true) fun _ _ _ => False) :
    PySem.W.WalkO q loose XP YP l.row.toRowW d [] (fun f vs => PySem.call f vs) := by
  refine Att.attach_callB hn hdf fun w s₀ s₁ mg mb fa o pm cd doc a vs ns G Y ho hd hcd hmg hobj hints hlen hbits hg => ?_
  have KX := hY w _ Y
  obtain ⟨fd, hb, hF⟩ := F w mg fa _ KX G.T.g hmg
  have seer := G.T.seer hq
  obtain ⟨mc, ⟨oc, ec, pc, c1, c2, c3, c4⟩, hc1, hc2⟩ := seer.statics
  obtain ⟨mm, ⟨om, em, pm', m1, m2, m3, m4⟩, hm1⟩ := seer.mods
  obtain ⟨mi, ⟨oi, ei, pi', i1, i2, i3, i4⟩, hi1⟩ := seer.imp
  obtain ⟨mz, bm, ob, ⟨oz, ez, pz, z1, z2, z3, z4⟩, hz1, hz2, hz3, hz4⟩ := seer.main
  have all : ∀ p ∈ ([(cStatics, oc), (sysModules, om), (builtinsNs, oi), (mainGlobals, oz), (bm, ob)] : PySem.W.Frag), s₁.heap.get? p.1 = some p.2 ∧ ((∃ es ep, p.2.data = .dict es ep) ∨ p.2.cls = .type "module") := by
    intro p hp
    simp only [List.mem_cons, List.not_mem_nil, or_false] at hp
    rcases hp with e | e | e | e | e <;> subst e
    · exact ⟨c1, .inl ⟨_, _, c2⟩⟩
    · exact ⟨m1, .inl ⟨_, _, m2⟩⟩
    · exact ⟨i1, .inl ⟨_, _, i2⟩⟩
    · exact ⟨z1, .inl ⟨_, _, z2⟩⟩
    · exact ⟨hz2, .inr hz3⟩
  have KX2 := frag_in KX fun p hp => (all p hp).1
  refine law_call (K := K w.params ++ [(cStatics, oc), (sysModules, om), (builtinsNs, oi), (mainGlobals, oz), (bm, ob)]) KX2 G.T.g G.T.b G.T.builtins G.T.nolimit hg hobj hints (Nat.le_trans hlen hn2) hr
    (fun base hB hN => fn_more (hF base (fun a o e => hB a o (frag_left e)) hN ?_)) hb (fun H hO hS => hsp (K w.params) H a ns hlen (fun z hz => (Sq.Bd.mono (k := 1048576) (PySem.intBits_le_iff.mp (hbits z hz)) (by decide))) ?_) (fun H e s' h => h)
  · have at' : ∀ {b : Addr} {u : Obj}, (b, u) ∈ ([(cStatics, oc), (sysModules, om), (builtinsNs, oi), (mainGlobals, oz), (bm, ob)] : PySem.W.Frag) → base.get? b = some u := fun m => frag_at KX2 hB (List.mem_append_right _ m) (all _ m).1
    exact ⟨⟨mc, ⟨oc, ec, pc, at' (by simp), c2, c3, c4⟩, hc1, hc2⟩, ⟨mm, ⟨om, em, pm', at' (by simp), m2, m3, m4⟩, hm1⟩, ⟨mi, ⟨oi, ei, pi', at' (by simp), i2, i3, i4⟩, hi1⟩, ⟨mz, bm, ob, ⟨oz, ez, pz, at' (by simp), z2, z3, z4⟩, hz1, at' (by simp), hz3, hz4⟩⟩
  · rcases hS with h | ⟨u, its, m, hk, h1, h2, h3, h4, h5⟩
    · exact .inl h
    · rcases frag_app hk with z | ⟨_, z⟩
      · exact .inr ⟨u, its, m, z, h1, h2, h3, h4, h5⟩
      · rcases (all _ z).2 with ⟨es, ep, e⟩ | e
        · rw [show (a, u).2.data = u.data from rfl, h3] at e
          cases e
        · rw [show (a, u).2.cls = u.cls from rfl, h1] at e
          exact absurd (Value.type.inj e) (by decide)
/-- a def that the top wrote -/
theorem is_mk {K : PySem.W.Frag} {h : Heap} {mg : Str → Option Value} {x : Str} {st : Stmt} {ps : List Str} {f : Addr} {oc : Value} {od an : Option Addr} {osl : Array (Option Value)} {kV doc pm cdv ct : Value} (X : K.In h) (G : h.Ns mainGlobals mg)
    (a : PySem.W.nsIn K mainGlobals x = some (some (.ref f))) (l : K.lookup f = some ⟨oc, od, .func (PySem.W.fnOf x x (defArgs st) (defBody st) (defScope st) .none kV doc pm an cdv ct), osl⟩) (c : PySem.W.codeIn K cdv x = true) (k : PySem.W.keepIn K (.ref f) = true)
    (hb : ∀ (kV doc pm : Value) (an : Option Addr) (cdv ct : Value) (us : List Value), us.length = ps.length → bindArgs (PySem.W.fnOf x x (defArgs st) (defBody st) (defScope st) .none kV doc pm an cdv ct) ⟨us, []⟩ = pure (ps.zip us)) : Is K mg x st ps :=
  ⟨f, _, fun_mk l c k, (fun_mk l c k).binds hb, PySem.W.mg_of X G a⟩
theorem with_is {C : Prop} {K : PySem.W.Frag} {h : Heap} {mg : Str → Option Value} {x : Str} {st : Stmt} {ps : List Str} {f : Addr} {oc : Value} {od an : Option Addr} {osl : Array (Option Value)} {kV doc pm cdv ct : Value} (X : K.In h) (G : h.Ns mainGlobals mg)
    (a : PySem.W.nsIn K mainGlobals x = some (some (.ref f))) (l : K.lookup f = some ⟨oc, od, .func (PySem.W.fnOf x x (defArgs st) (defBody st) (defScope st) .none kV doc pm an cdv ct), osl⟩) (c : PySem.W.codeIn K cdv x = true) (k : PySem.W.keepIn K (.ref f) = true)
    (hb : ∀ (kV doc pm : Value) (an : Option Addr) (cdv ct : Value) (us : List Value), us.length = ps.length → bindArgs (PySem.W.fnOf x x (defArgs st) (defBody st) (defScope st) .none kV doc pm an cdv ct) ⟨us, []⟩ = pure (ps.zip us)) (r : Is K mg x st ps → C) : C := r (is_mk X G a l c k hb)
theorem law_mk {K : PySem.W.Frag} {h : Heap} {mg : Str → Option Value} {x y : Str} {st : Stmt} {f fa : Addr} {oc : Value} {od an : Option Addr} {osl : Array (Option Value)} {kV doc pm cdv ct : Value} (X : K.In h) (G : h.Ns mainGlobals mg) (hfa : mg x = some (.ref fa))
    (a : PySem.W.nsIn K mainGlobals x = some (some (.ref f))) (l : K.lookup f = some ⟨oc, od, .func (PySem.W.fnOf x x (defArgs st) (defBody st) (defScope st) .none kV doc pm an cdv ct), osl⟩) (c : PySem.W.codeIn K cdv x = true) (k : PySem.W.keepIn K (.ref f) = true)
    (hb : ∀ (kV doc pm : Value) (an : Option Addr) (cdv ct : Value) (us : List Value), us.length = ([y] : List Str).length → bindArgs (PySem.W.fnOf x x (defArgs st) (defBody st) (defScope st) .none kV doc pm an cdv ct) ⟨us, []⟩ = pure (([y] : List Str).zip us)) :
    ∃ fd : FuncData, Fun K x x st fa fd ∧ ∀ (s : Shared) (u : Value), BindsTo s fd ⟨[u], []⟩ [(y, u)] := by
  have e := hfa.symm.trans (PySem.W.mg_of X G a)
  cases e
  exact ⟨_, fun_mk l c k, fun s u => .of_eq (hb kV doc pm an cdv ct [u] rfl)⟩
theorem with_law {C : Prop} {K : PySem.W.Frag} {h : Heap} {mg : Str → Option Value} {x y : Str} {st : Stmt} {f fa : Addr} {oc : Value} {od an : Option Addr} {osl : Array (Option Value)} {kV doc pm cdv ct : Value} (X : K.In h) (G : h.Ns mainGlobals mg) (hfa : mg x = some (.ref fa))
    (a : PySem.W.nsIn K mainGlobals x = some (some (.ref f))) (l : K.lookup f = some ⟨oc, od, .func (PySem.W.fnOf x x (defArgs st) (defBody st) (defScope st) .none kV doc pm an cdv ct), osl⟩) (c : PySem.W.codeIn K cdv x = true) (k : PySem.W.keepIn K (.ref f) = true)
    (hb : ∀ (kV doc pm : Value) (an : Option Addr) (cdv ct : Value) (us : List Value), us.length = ([y] : List Str).length → bindArgs (PySem.W.fnOf x x (defArgs st) (defBody st) (defScope st) .none kV doc pm an cdv ct) ⟨us, []⟩ = pure (([y] : List Str).zip us))
    (r : (∃ fd : FuncData, Fun K x x st fa fd ∧ ∀ (s : Shared) (u : Value), BindsTo s fd ⟨[u], []⟩ [(y, u)]) → C) : C := r (law_mk X G hfa a l c k hb)
end SqP

namespace SqP
open PySem PySem.Spec PyProof.Rows L2
theorem with_cls {C : Prop} {K : PySem.W.Frag} {h : Heap} {mg : Str → Option Value} {x : Str} {c : Addr} (X : K.In h) (G : h.Ns mainGlobals mg) (a : PySem.W.nsIn K mainGlobals x = some (some (.ref c))) (pg : PySem.W.plainGet K c Str.empty = true) (hd : PySem.W.hasDictIn K c = true) (po : PySem.W.plainOver K c = true)
    (sa : PySem.W.findIn K (.ref c) "__setattr__" = some (some (.builtin "object.__setattr__"))) (mk : PySem.W.makesIn K c = true) (kc : PySem.W.keepIn K (.ref c) = true) (r : KC K mg x c → C) : C := r ⟨⟨pg, hd, po, sa⟩, PySem.W.mg_of X G a, mk, kc⟩
theorem with_no {C : Prop} {K : PySem.W.Frag} {mg : Str → Option Value} {x fl : Str} {c : Addr} (_ : KC K mg x c) (n : PySem.W.findIn K (.ref c) fl = some none) (r : NoAttr K c fl → C) : C := r n
theorem with_oi {C : Prop} {K : PySem.W.Frag} {mg : Str → Option Value} {x : Str} {c : Addr} (_ : KC K mg x c) (n : PySem.W.findIn K (.ref c) "__init__" = some (some (.builtin "object.__init__"))) (r : PySem.W.findIn K (.ref c) "__init__" = some (some (.builtin "object.__init__")) → C) : C := r n
theorem with_ism {C : Prop} {K : PySem.W.Frag} {mg : Str → Option Value} {x m qual : Str} {c f : Addr} {st : Stmt} {ps : List Str} {oc : Value} {od an : Option Addr} {osl : Array (Option Value)} {kV doc pm cdv ct : Value} (_ : KC K mg x c)
    (a : PySem.W.findIn K (.ref c) m = some (some (.ref f))) (i : PySem.W.isFn K (.ref f) = true) (l : K.lookup f = some ⟨oc, od, .func (PySem.W.fnOf m qual (defArgs st) (defBody st) (defScope st) .none kV doc pm an cdv ct), osl⟩) (co : PySem.W.codeIn K cdv qual = true) (k : PySem.W.keepIn K (.ref f) = true)
    (hb : ∀ (kV doc pm : Value) (an : Option Addr) (cdv ct : Value) (us : List Value), us.length = ps.length → bindArgs (PySem.W.fnOf m qual (defArgs st) (defBody st) (defScope st) .none kV doc pm an cdv ct) ⟨us, []⟩ = pure (ps.zip us)) (r : IsM K c m qual st ps → C) : C :=
  r ⟨f, _, fun_mk l co k, (fun_mk l co k).binds hb, ⟨a, i, k⟩⟩
end SqP

namespace SqP
open PySem PySem.Spec PyProof.Rows L2
theorem nT_of {K : PySem.W.Frag} {c : Cs} {CA : Addr} (_ : IsAll K c CA) (a : NoAttr K c.L "triples") (b : NoAttr K c.G "triples") : ∀ k : AK, k.ly = true → NoAttr K (k.cls c) "triples"
  | .longest _, _ => a
  | .leg _, _ => b
theorem with_isall {C : Prop} {K : PySem.W.Frag} {mg : Str → Option Value} {CA CL CG CB CH : Addr} (_ : KC K mg "Answer" CA) (cL : KC K mg "Longest" CL) (cG : KC K mg "Leg" CG) (cB : KC K mg "Barred" CB) (cH : KC K mg "Halved" CH)
    (hn : PySem.W.specialIn K (.builtin "object.__class__") "__get__" = some (some (.builtin "getset_descriptor.__get__"))) (htk : PySem.W.takesIn K (.builtin "object.__class__") = some true)
    (aL : PySem.W.findIn K (.ref CL) "__class__" = some (some (.builtin "object.__class__"))) (mL : PySem.W.mroIn K CL (.type "object") = some true)
    (aG : PySem.W.findIn K (.ref CG) "__class__" = some (some (.builtin "object.__class__"))) (mG : PySem.W.mroIn K CG (.type "object") = some true)
    (aB : PySem.W.findIn K (.ref CB) "__class__" = some (some (.builtin "object.__class__"))) (mB : PySem.W.mroIn K CB (.type "object") = some true)
    (aH : PySem.W.findIn K (.ref CH) "__class__" = some (some (.builtin "object.__class__"))) (mH : PySem.W.mroIn K CH (.type "object") = some true)
    (LL : PySem.W.kitOne K (.ref CL) (.ref CL) = some true) (LG : PySem.W.kitOne K (.ref CL) (.ref CG) = some false) (LB : PySem.W.kitOne K (.ref CL) (.ref CB) = some false) (LH : PySem.W.kitOne K (.ref CL) (.ref CH) = some false) (LA : PySem.W.kitOne K (.ref CL) (.ref CA) = some true)
    (GL : PySem.W.kitOne K (.ref CG) (.ref CL) = some false) (GG : PySem.W.kitOne K (.ref CG) (.ref CG) = some true) (GB : PySem.W.kitOne K (.ref CG) (.ref CB) = some false) (GH : PySem.W.kitOne K (.ref CG) (.ref CH) = some false) (GA : PySem.W.kitOne K (.ref CG) (.ref CA) = some true)
    (BL : PySem.W.kitOne K (.ref CB) (.ref CL) = some false) (BG : PySem.W.kitOne K (.ref CB) (.ref CG) = some false) (BB : PySem.W.kitOne K (.ref CB) (.ref CB) = some true) (BH : PySem.W.kitOne K (.ref CB) (.ref CH) = some false) (BA : PySem.W.kitOne K (.ref CB) (.ref CA) = some true)
    (HL : PySem.W.kitOne K (.ref CH) (.ref CL) = some false) (HG : PySem.W.kitOne K (.ref CH) (.ref CG) = some false) (HB : PySem.W.kitOne K (.ref CH) (.ref CB) = some false) (HH : PySem.W.kitOne K (.ref CH) (.ref CH) = some true) (HA : PySem.W.kitOne K (.ref CH) (.ref CA) = some true)
    (r : IsAll K ⟨CL, CG, CB, CH⟩ CA → C) : C :=
  r ⟨fun | .longest _ => ⟨cL.cl, aL, hn, htk, mL⟩ | .leg _ => ⟨cG.cl, aG, hn, htk, mG⟩ | .barred _ => ⟨cB.cl, aB, hn, htk, mB⟩ | .halved => ⟨cH.cl, aH, hn, htk, mH⟩,
    fun | .longest _ => LL | .leg _ => GL | .barred _ => BL | .halved => HL,
    fun | .longest _ => LB | .leg _ => GB | .barred _ => BB | .halved => HB,
    fun | .longest _ => LG | .leg _ => GG | .barred _ => BG | .halved => HG,
    fun | .longest _ => LH | .leg _ => GH | .barred _ => BH | .halved => HH,
    fun | .longest _ => LA | .leg _ => GA | .barred _ => BA | .halved => HA⟩
end SqP

open PySem PySem.W PyProof.Rows in
set_option maxRecDepth 100000 in
set_option maxHeartbeats 0 in
theorem PySem.Challenge.cw_squaretree_k03_whole_sides_holds : PySem.Challenge.rw_squaretree_k03_whole_sides.Holds := by
  w_on; o_law; k_head; (case hw => w_witness2)
  k_fill
  refine SqP.walk_ofS (l := PySem.Challenge.rw_squaretree_k03_whole_sides) (n := 63) (k := 37) (x := "_law_script") (sp := SqP.sp_law) rfl (by decide) rfl ⟨rfl, by decide, by decide⟩ (by decide +kernel) (fun w h Y => PySem.W.kIn_of Y) ?F (fun K H a ns hl hb hS => ⟨a, ns, rfl, hS, hb, hl, fun _ => rfl⟩)
  case F =>
    intro w mg fa h KX G hmg
    have z_isi : mg "isinstance" = none := by
      refine' PySem.W.mg_none_of KX G ?z
      (case z => k_is)
    have z_int : mg "int" = none := by
      refine' PySem.W.mg_none_of KX G ?z
      (case z => k_is)
    have z_bool : mg "bool" = none := by
      refine' PySem.W.mg_none_of KX G ?z
      (case z => k_is)
    have z_list : mg "list" = none := by
      refine' PySem.W.mg_none_of KX G ?z
      (case z => k_is)
    have z_len : mg "len" = none := by
      refine' PySem.W.mg_none_of KX G ?z
      (case z => k_is)
    have z_all : mg "all" = none := by
      refine' PySem.W.mg_none_of KX G ?z
      (case z => k_is)
    have z_any : mg "any" = none := by
      refine' PySem.W.mg_none_of KX G ?z
      (case z => k_is)
    have z_range : mg "range" = none := by
      refine' PySem.W.mg_none_of KX G ?z
      (case z => k_is)
    have z_sorted : mg "sorted" = none := by
      refine' PySem.W.mg_none_of KX G ?z
      (case z => k_is)
    have z_max : mg "max" = none := by
      refine' PySem.W.mg_none_of KX G ?z
      (case z => k_is)
    have z_tuple : mg "tuple" = none := by
      refine' PySem.W.mg_none_of KX G ?z
      (case z => k_is)
    have z_min : mg "min" = none := by
      refine' PySem.W.mg_none_of KX G ?z
      (case z => k_is)
    have B : SqP.Bt mg := ⟨z_isi, z_int, z_bool, z_list, z_len, z_all, z_any, z_range, z_sorted, z_max, z_tuple, z_min⟩
    have c_MOST : ∃ v, mg "MOST" = some v ∧ ∃ tk, v = Value.int 1000000 tk := by
      refine' ⟨_, PySem.W.mg_of KX G ?a, ?b⟩
      (case a => k_is)
      (case b => exact ⟨_, rfl⟩)
    obtain ⟨v_MOST, g_MOST, tk_MOST, e_MOST⟩ := c_MOST
    subst e_MOST
    refine' SqP.with_cls (x := "Answer") KX G ?a_Answer ?pg_Answer ?hd_Answer ?po_Answer ?sa_Answer ?mk_Answer ?kc_Answer (fun c_Answer => ?r_Answer)
    (case a_Answer => k_is); (case pg_Answer => k_is); (case hd_Answer => k_is); (case po_Answer => k_is); (case sa_Answer => k_is); (case mk_Answer => k_is); (case kc_Answer => k_is)
    refine' SqP.with_oi c_Answer ?i_Answer (fun i_Answer => ?ri_Answer)
    (case i_Answer => k_is)
    refine' SqP.with_cls (x := "Longest") KX G ?a_Longest ?pg_Longest ?hd_Longest ?po_Longest ?sa_Longest ?mk_Longest ?kc_Longest (fun c_Longest => ?r_Longest)
    (case a_Longest => k_is); (case pg_Longest => k_is); (case hd_Longest => k_is); (case po_Longest => k_is); (case sa_Longest => k_is); (case mk_Longest => k_is); (case kc_Longest => k_is)
    refine' SqP.with_no (fl := "triples") c_Longest ?n_Longest_triples (fun n_Longest_triples => ?rn_Longest_triples)
    (case n_Longest_triples => k_is)
    refine' SqP.with_cls (x := "Leg") KX G ?a_Leg ?pg_Leg ?hd_Leg ?po_Leg ?sa_Leg ?mk_Leg ?kc_Leg (fun c_Leg => ?r_Leg)
    (case a_Leg => k_is); (case pg_Leg => k_is); (case hd_Leg => k_is); (case po_Leg => k_is); (case sa_Leg => k_is); (case mk_Leg => k_is); (case kc_Leg => k_is)
    refine' SqP.with_no (fl := "triples") c_Leg ?n_Leg_triples (fun n_Leg_triples => ?rn_Leg_triples)
    (case n_Leg_triples => k_is)
    refine' SqP.with_cls (x := "Barred") KX G ?a_Barred ?pg_Barred ?hd_Barred ?po_Barred ?sa_Barred ?mk_Barred ?kc_Barred (fun c_Barred => ?r_Barred)
    (case a_Barred => k_is); (case pg_Barred => k_is); (case hd_Barred => k_is); (case po_Barred => k_is); (case sa_Barred => k_is); (case mk_Barred => k_is); (case kc_Barred => k_is)
    refine' SqP.with_no (fl := "prime") c_Barred ?n_Barred_prime (fun n_Barred_prime => ?rn_Barred_prime)
    (case n_Barred_prime => k_is)
    refine' SqP.with_cls (x := "Halved") KX G ?a_Halved ?pg_Halved ?hd_Halved ?po_Halved ?sa_Halved ?mk_Halved ?kc_Halved (fun c_Halved => ?r_Halved)
    (case a_Halved => k_is); (case pg_Halved => k_is); (case hd_Halved => k_is); (case po_Halved => k_is); (case sa_Halved => k_is); (case mk_Halved => k_is); (case kc_Halved => k_is)
    refine' SqP.with_oi c_Halved ?i_Halved (fun i_Halved => ?ri_Halved)
    (case i_Halved => k_is)
    refine' SqP.with_isall c_Answer c_Longest c_Leg c_Barred c_Halved ?i_hn ?i_htk ?i_aLongest ?i_mLongest ?i_aLeg ?i_mLeg ?i_aBarred ?i_mBarred ?i_aHalved ?i_mHalved ?i_kLongestLongest ?i_kLongestLeg ?i_kLongestBarred ?i_kLongestHalved ?i_kLongestAnswer ?i_kLegLongest ?i_kLegLeg ?i_kLegBarred ?i_kLegHalved ?i_kLegAnswer ?i_kBarredLongest ?i_kBarredLeg ?i_kBarredBarred ?i_kBarredHalved ?i_kBarredAnswer ?i_kHalvedLongest ?i_kHalvedLeg ?i_kHalvedBarred ?i_kHalvedHalved ?i_kHalvedAnswer (fun I => ?rI)
    (case i_hn => k_is); (case i_htk => k_is); (case i_aLongest => k_is); (case i_mLongest => k_is); (case i_aLeg => k_is); (case i_mLeg => k_is); (case i_aBarred => k_is); (case i_mBarred => k_is); (case i_aHalved => k_is); (case i_mHalved => k_is); (case i_kLongestLongest => kit_is); (case i_kLongestLeg => kit_is); (case i_kLongestBarred => kit_is); (case i_kLongestHalved => kit_is); (case i_kLongestAnswer => kit_is); (case i_kLegLongest => kit_is); (case i_kLegLeg => kit_is); (case i_kLegBarred => kit_is); (case i_kLegHalved => kit_is); (case i_kLegAnswer => kit_is); (case i_kBarredLongest => kit_is); (case i_kBarredLeg => kit_is); (case i_kBarredBarred => kit_is); (case i_kBarredHalved => kit_is); (case i_kBarredAnswer => kit_is); (case i_kHalvedLongest => kit_is); (case i_kHalvedLeg => kit_is); (case i_kHalvedBarred => kit_is); (case i_kHalvedHalved => kit_is); (case i_kHalvedAnswer => kit_is)
    have nT := SqP.nT_of I n_Longest_triples n_Leg_triples
    refine' SqP.with_is (x := "is_whole") (st := SqP.s_is_whole) (ps := ["thing"]) KX G ?a_is_whole ?l_is_whole ?c_is_whole ?k_is_whole (fun _ _ _ _ _ _ us hl => match us, hl with | [_], _ => rfl) (fun D_is_whole => ?r_is_whole)
    (case a_is_whole => k_is); (case l_is_whole => k_is); (case c_is_whole => k_is); (case k_is_whole => k_is)
    refine' SqP.with_is (x := "common") (st := SqP.s_common) (ps := ["one", "other"]) KX G ?a_common ?l_common ?c_common ?k_common (fun _ _ _ _ _ _ us hl => match us, hl with | [_, _], _ => rfl) (fun D_common => ?r_common)
    (case a_common => k_is); (case l_common => k_is); (case c_common => k_is); (case k_common => k_is)
    refine' SqP.with_is (x := "root_of") (st := SqP.s_root_of) (ps := ["number"]) KX G ?a_root_of ?l_root_of ?c_root_of ?k_root_of (fun _ _ _ _ _ _ us hl => match us, hl with | [_], _ => rfl) (fun D_root_of => ?r_root_of)
    (case a_root_of => k_is); (case l_root_of => k_is); (case c_root_of => k_is); (case k_root_of => k_is)
    refine' SqP.with_is (x := "triple_by") (st := SqP.s_triple_by) (ps := ["pair"]) KX G ?a_triple_by ?l_triple_by ?c_triple_by ?k_triple_by (fun _ _ _ _ _ _ us hl => match us, hl with | [_], _ => rfl) (fun D_triple_by => ?r_triple_by)
    (case a_triple_by => k_is); (case l_triple_by => k_is); (case c_triple_by => k_is); (case k_triple_by => k_is)
    refine' SqP.with_is (x := "longest_of") (st := SqP.s_longest_of) (ps := ["number"]) KX G ?a_longest_of ?l_longest_of ?c_longest_of ?k_longest_of (fun _ _ _ _ _ _ us hl => match us, hl with | [_], _ => rfl) (fun D_longest_of => ?r_longest_of)
    (case a_longest_of => k_is); (case l_longest_of => k_is); (case c_longest_of => k_is); (case k_longest_of => k_is)
    refine' SqP.with_is (x := "legs_of") (st := SqP.s_legs_of) (ps := ["number"]) KX G ?a_legs_of ?l_legs_of ?c_legs_of ?k_legs_of (fun _ _ _ _ _ _ us hl => match us, hl with | [_], _ => rfl) (fun D_legs_of => ?r_legs_of)
    (case a_legs_of => k_is); (case l_legs_of => k_is); (case c_legs_of => k_is); (case k_legs_of => k_is)
    refine' SqP.with_ism (m := "__init__") (qual := "Longest.__init__") (st := SqP.s_Longest_init) (ps := ["self", "triples"]) c_Longest ?a_Longest_init ?i_Longest_init ?l_Longest_init ?c_Longest_init ?k_Longest_init (fun _ _ _ _ _ _ us hl => match us, hl with | [_, _], _ => rfl) (fun D_Longest_init => ?r_Longest_init)
    (case a_Longest_init => k_is); (case i_Longest_init => k_is); (case l_Longest_init => k_is); (case c_Longest_init => k_is); (case k_Longest_init => k_is)
    refine' SqP.with_ism (m := "shows") (qual := "Longest.shows") (st := SqP.s_Longest_shows) (ps := ["self", "number"]) c_Longest ?a_Longest_shows ?i_Longest_shows ?l_Longest_shows ?c_Longest_shows ?k_Longest_shows (fun _ _ _ _ _ _ us hl => match us, hl with | [_, _], _ => rfl) (fun D_Longest_shows => ?r_Longest_shows)
    (case a_Longest_shows => k_is); (case i_Longest_shows => k_is); (case l_Longest_shows => k_is); (case c_Longest_shows => k_is); (case k_Longest_shows => k_is)
    refine' SqP.with_ism (m := "__init__") (qual := "Leg.__init__") (st := SqP.s_Leg_init) (ps := ["self", "triples"]) c_Leg ?a_Leg_init ?i_Leg_init ?l_Leg_init ?c_Leg_init ?k_Leg_init (fun _ _ _ _ _ _ us hl => match us, hl with | [_, _], _ => rfl) (fun D_Leg_init => ?r_Leg_init)
    (case a_Leg_init => k_is); (case i_Leg_init => k_is); (case l_Leg_init => k_is); (case c_Leg_init => k_is); (case k_Leg_init => k_is)
    refine' SqP.with_ism (m := "shows") (qual := "Leg.shows") (st := SqP.s_Leg_shows) (ps := ["self", "number"]) c_Leg ?a_Leg_shows ?i_Leg_shows ?l_Leg_shows ?c_Leg_shows ?k_Leg_shows (fun _ _ _ _ _ _ us hl => match us, hl with | [_, _], _ => rfl) (fun D_Leg_shows => ?r_Leg_shows)
    (case a_Leg_shows => k_is); (case i_Leg_shows => k_is); (case l_Leg_shows => k_is); (case c_Leg_shows => k_is); (case k_Leg_shows => k_is)
    refine' SqP.with_ism (m := "__init__") (qual := "Barred.__init__") (st := SqP.s_Barred_init) (ps := ["self", "prime"]) c_Barred ?a_Barred_init ?i_Barred_init ?l_Barred_init ?c_Barred_init ?k_Barred_init (fun _ _ _ _ _ _ us hl => match us, hl with | [_, _], _ => rfl) (fun D_Barred_init => ?r_Barred_init)
    (case a_Barred_init => k_is); (case i_Barred_init => k_is); (case l_Barred_init => k_is); (case c_Barred_init => k_is); (case k_Barred_init => k_is)
    refine' SqP.with_ism (m := "shows") (qual := "Barred.shows") (st := SqP.s_Barred_shows) (ps := ["self", "number"]) c_Barred ?a_Barred_shows ?i_Barred_shows ?l_Barred_shows ?c_Barred_shows ?k_Barred_shows (fun _ _ _ _ _ _ us hl => match us, hl with | [_, _], _ => rfl) (fun D_Barred_shows => ?r_Barred_shows)
    (case a_Barred_shows => k_is); (case i_Barred_shows => k_is); (case l_Barred_shows => k_is); (case c_Barred_shows => k_is); (case k_Barred_shows => k_is)
    refine' SqP.with_ism (m := "shows") (qual := "Halved.shows") (st := SqP.s_Halved_shows) (ps := ["self", "number"]) c_Halved ?a_Halved_shows ?i_Halved_shows ?l_Halved_shows ?c_Halved_shows ?k_Halved_shows (fun _ _ _ _ _ _ us hl => match us, hl with | [_, _], _ => rfl) (fun D_Halved_shows => ?r_Halved_shows)
    (case a_Halved_shows => k_is); (case i_Halved_shows => k_is); (case l_Halved_shows => k_is); (case c_Halved_shows => k_is); (case k_Halved_shows => k_is)
    refine' SqP.with_is (x := "check_number") (st := SqP.s_check_number) (ps := ["number"]) KX G ?a_check_number ?l_check_number ?c_check_number ?k_check_number (fun _ _ _ _ _ _ us hl => match us, hl with | [_], _ => rfl) (fun D_check_number => ?r_check_number)
    (case a_check_number => k_is); (case l_check_number => k_is); (case c_check_number => k_is); (case k_check_number => k_is)
    refine' SqP.with_is (x := "longest") (st := SqP.s_longest) (ps := ["number"]) KX G ?a_longest ?l_longest ?c_longest ?k_longest (fun _ _ _ _ _ _ us hl => match us, hl with | [_], _ => rfl) (fun D_longest => ?r_longest)
    (case a_longest => k_is); (case l_longest => k_is); (case c_longest => k_is); (case k_longest => k_is)
    refine' SqP.with_is (x := "leg") (st := SqP.s_leg) (ps := ["number"]) KX G ?a_leg ?l_leg ?c_leg ?k_leg (fun _ _ _ _ _ _ us hl => match us, hl with | [_], _ => rfl) (fun D_leg => ?r_leg)
    (case a_leg => k_is); (case l_leg => k_is); (case c_leg => k_is); (case k_leg => k_is)
    refine' SqP.with_is (x := "_law_cell_at") (st := SqP.s__law_cell_at) (ps := ["_law_script", "_law_k"]) KX G ?a__law_cell_at ?l__law_cell_at ?c__law_cell_at ?k__law_cell_at (fun _ _ _ _ _ _ us hl => match us, hl with | [_, _], _ => rfl) (fun D__law_cell_at => ?r__law_cell_at)
    (case a__law_cell_at => k_is); (case l__law_cell_at => k_is); (case c__law_cell_at => k_is); (case k__law_cell_at => k_is)
    refine' SqP.with_is (x := "_law_draw") (st := SqP.s__law_draw) (ps := ["_law_cell", "_law_k", "_law_many"]) KX G ?a__law_draw ?l__law_draw ?c__law_draw ?k__law_draw (fun _ _ _ _ _ _ us hl => match us, hl with | [_, _, _], _ => rfl) (fun D__law_draw => ?r__law_draw)
    (case a__law_draw => k_is); (case l__law_draw => k_is); (case c__law_draw => k_is); (case k__law_draw => k_is)
    refine' SqP.with_is (x := "_law_value") (st := SqP.s__law_value) (ps := ["_law_cell", "_law_k", "_law_limit"]) KX G ?a__law_value ?l__law_value ?c__law_value ?k__law_value (fun _ _ _ _ _ _ us hl => match us, hl with | [_, _, _], _ => rfl) (fun D__law_value => ?r__law_value)
    (case a__law_value => k_is); (case l__law_value => k_is); (case c__law_value => k_is); (case k__law_value => k_is)
    refine' SqP.with_is (x := "_law_triple") (st := SqP.s__law_triple) (ps := ["_law_pair"]) KX G ?a__law_triple ?l__law_triple ?c__law_triple ?k__law_triple (fun _ _ _ _ _ _ us hl => match us, hl with | [_], _ => rfl) (fun D__law_triple => ?r__law_triple)
    (case a__law_triple => k_is); (case l__law_triple => k_is); (case c__law_triple => k_is); (case k__law_triple => k_is)
    refine' SqP.with_is (x := "_law_common") (st := SqP.s__law_common) (ps := ["_law_one", "_law_other"]) KX G ?a__law_common ?l__law_common ?c__law_common ?k__law_common (fun _ _ _ _ _ _ us hl => match us, hl with | [_, _], _ => rfl) (fun D__law_common => ?r__law_common)
    (case a__law_common => k_is); (case l__law_common => k_is); (case c__law_common => k_is); (case k__law_common => k_is)
    refine' SqP.with_is (x := "_law_whole") (st := SqP.s__law_whole) (ps := ["_law_number_here"]) KX G ?a__law_whole ?l__law_whole ?c__law_whole ?k__law_whole (fun _ _ _ _ _ _ us hl => match us, hl with | [_], _ => rfl) (fun D__law_whole => ?r__law_whole)
    (case a__law_whole => k_is); (case l__law_whole => k_is); (case c__law_whole => k_is); (case k__law_whole => k_is)
    refine' SqP.with_is (x := "_law_are") (st := SqP.s__law_are) (ps := ["_law_found", "_law_many"]) KX G ?a__law_are ?l__law_are ?c__law_are ?k__law_are (fun _ _ _ _ _ _ us hl => match us, hl with | [_, _], _ => rfl) (fun D__law_are => ?r__law_are)
    (case a__law_are => k_is); (case l__law_are => k_is); (case c__law_are => k_is); (case k__law_are => k_is)
    refine' SqP.with_is (x := "_law_root") (st := SqP.s__law_root) (ps := ["_law_number_here"]) KX G ?a__law_root ?l__law_root ?c__law_root ?k__law_root (fun _ _ _ _ _ _ us hl => match us, hl with | [_], _ => rfl) (fun D__law_root => ?r__law_root)
    (case a__law_root => k_is); (case l__law_root => k_is); (case c__law_root => k_is); (case k__law_root => k_is)
    refine' SqP.with_is (x := "_law_longest") (st := SqP.s__law_longest) (ps := ["_law_number_here"]) KX G ?a__law_longest ?l__law_longest ?c__law_longest ?k__law_longest (fun _ _ _ _ _ _ us hl => match us, hl with | [_], _ => rfl) (fun D__law_longest => ?r__law_longest)
    (case a__law_longest => k_is); (case l__law_longest => k_is); (case c__law_longest => k_is); (case k__law_longest => k_is)
    refine' SqP.with_is (x := "_law_legs") (st := SqP.s__law_legs) (ps := ["_law_number_here"]) KX G ?a__law_legs ?l__law_legs ?c__law_legs ?k__law_legs (fun _ _ _ _ _ _ us hl => match us, hl with | [_], _ => rfl) (fun D__law_legs => ?r__law_legs)
    (case a__law_legs => k_is); (case l__law_legs => k_is); (case c__law_legs => k_is); (case k__law_legs => k_is)
    refine' SqP.with_is (x := "_law_is_prime") (st := SqP.s__law_is_prime) (ps := ["_law_number_here"]) KX G ?a__law_is_prime ?l__law_is_prime ?c__law_is_prime ?k__law_is_prime (fun _ _ _ _ _ _ us hl => match us, hl with | [_], _ => rfl) (fun D__law_is_prime => ?r__law_is_prime)
    (case a__law_is_prime => k_is); (case l__law_is_prime => k_is); (case c__law_is_prime => k_is); (case k__law_is_prime => k_is)
    refine' SqP.with_is (x := "_law_bars") (st := SqP.s__law_bars) (ps := ["_law_number_here", "_law_prime"]) KX G ?a__law_bars ?l__law_bars ?c__law_bars ?k__law_bars (fun _ _ _ _ _ _ us hl => match us, hl with | [_, _], _ => rfl) (fun D__law_bars => ?r__law_bars)
    (case a__law_bars => k_is); (case l__law_bars => k_is); (case c__law_bars => k_is); (case k__law_bars => k_is)
    refine' SqP.with_is (x := "_law_number") (st := SqP.s__law_number) (ps := ["_law_script", "_law_k"]) KX G ?a__law_number ?l__law_number ?c__law_number ?k__law_number (fun _ _ _ _ _ _ us hl => match us, hl with | [_, _], _ => rfl) (fun D__law_number => ?r__law_number)
    (case a__law_number => k_is); (case l__law_number => k_is); (case c__law_number => k_is); (case k__law_number => k_is)
    refine' SqP.with_is (x := "_law_says") (st := SqP.s__law_says) (ps := ["_law_said", "_law_due_here"]) KX G ?a__law_says ?l__law_says ?c__law_says ?k__law_says (fun _ _ _ _ _ _ us hl => match us, hl with | [_, _], _ => rfl) (fun D__law_says => ?r__law_says)
    (case a__law_says => k_is); (case l__law_says => k_is); (case c__law_says => k_is); (case k__law_says => k_is)
    refine' SqP.with_is (x := "_law_due") (st := SqP.s__law_due) (ps := ["_law_known", "_law_number_here", "_law_found"]) KX G ?a__law_due ?l__law_due ?c__law_due ?k__law_due (fun _ _ _ _ _ _ us hl => match us, hl with | [_, _, _], _ => rfl) (fun D__law_due => ?r__law_due)
    (case a__law_due => k_is); (case l__law_due => k_is); (case c__law_due => k_is); (case k__law_due => k_is)
    refine' SqP.with_is (x := "_law_told_right") (st := SqP.s__law_told_right) (ps := ["_law_known", "_law_number_here", "_law_ask", "_law_good", "_law_others"]) KX G ?a__law_told_right ?l__law_told_right ?c__law_told_right ?k__law_told_right (fun _ _ _ _ _ _ us hl => match us, hl with | [_, _, _, _, _], _ => rfl) (fun D__law_told_right => ?r__law_told_right)
    (case a__law_told_right => k_is); (case l__law_told_right => k_is); (case c__law_told_right => k_is); (case k__law_told_right => k_is)
    refine' SqP.with_law (x := "law") (y := "_law_script") (st := SqP.s_law) KX G hmg ?a_law ?l_law ?c_law ?k_law (fun _ _ _ _ _ _ us hl => match us, hl with | [_], _ => rfl) (fun DL => ?r_law)
    (case a_law => k_is); (case l_law => k_is); (case c_law => k_is); (case k_law => k_is)
    obtain ⟨fd, FL, bL⟩ := DL
    obtain ⟨fL, fdL, FL1, bL1, gL⟩ := id D_longest
    obtain ⟨fG, fdG, FG1, bG1, gG⟩ := id D_leg
    refine ⟨fd, bL, fun base hB hN seer => ?_⟩
    have H_is_whole := SqP.ok_is_whole (P := PySem.Challenge.rw_squaretree_k03_whole_sides.prog) (w := w) (mg := mg) (base := base) B D_is_whole 
    have H_common := SqP.ok_common (P := PySem.Challenge.rw_squaretree_k03_whole_sides.prog) (w := w) (mg := mg) (base := base)  D_common 
    have H_root_of := SqP.ok_root_of (P := PySem.Challenge.rw_squaretree_k03_whole_sides.prog) (w := w) (mg := mg) (base := base) seer rfl D_root_of 
    have H_triple_by := SqP.ok_triple_by (P := PySem.Challenge.rw_squaretree_k03_whole_sides.prog) (w := w) (mg := mg) (base := base)  D_triple_by 
    have H_longest_of := SqP.ok_longest_of (P := PySem.Challenge.rw_squaretree_k03_whole_sides.prog) (w := w) (mg := mg) (base := base) B D_longest_of H_root_of H_common H_triple_by
    have H_legs_of := SqP.ok_legs_of (P := PySem.Challenge.rw_squaretree_k03_whole_sides.prog) (w := w) (mg := mg) (base := base) B seer rfl D_legs_of H_common H_triple_by
    have H_Longest_init := SqP.ok_Longest_init (P := PySem.Challenge.rw_squaretree_k03_whole_sides.prog) (w := w) (mg := mg) (base := base) B c_Longest n_Longest_triples D_Longest_init 
    have H_Longest_shows := SqP.ok_Longest_shows (P := PySem.Challenge.rw_squaretree_k03_whole_sides.prog) (w := w) (mg := mg) (base := base) B c_Longest n_Longest_triples D_Longest_shows H_longest_of
    have H_Leg_init := SqP.ok_Leg_init (P := PySem.Challenge.rw_squaretree_k03_whole_sides.prog) (w := w) (mg := mg) (base := base) B c_Leg n_Leg_triples D_Leg_init 
    have H_Leg_shows := SqP.ok_Leg_shows (P := PySem.Challenge.rw_squaretree_k03_whole_sides.prog) (w := w) (mg := mg) (base := base) B c_Leg n_Leg_triples D_Leg_shows H_legs_of
    have H_Barred_init := SqP.ok_Barred_init (P := PySem.Challenge.rw_squaretree_k03_whole_sides.prog) (w := w) (mg := mg) (base := base) c_Barred n_Barred_prime D_Barred_init 
    have H_Barred_shows := SqP.ok_Barred_shows (P := PySem.Challenge.rw_squaretree_k03_whole_sides.prog) (w := w) (mg := mg) (base := base) c_Barred n_Barred_prime D_Barred_shows H_is_whole
    have H_Halved_shows := SqP.ok_Halved_shows (P := PySem.Challenge.rw_squaretree_k03_whole_sides.prog) (w := w) (mg := mg) (base := base)  D_Halved_shows 
    have H_check_number := SqP.ok_check_number (P := PySem.Challenge.rw_squaretree_k03_whole_sides.prog) (w := w) (mg := mg) (base := base) g_MOST D_check_number H_is_whole
    have H_longest := SqP.ok_longest (P := PySem.Challenge.rw_squaretree_k03_whole_sides.prog) (w := w) (mg := mg) (base := base) B seer rfl c_Barred c_Longest D_longest H_check_number H_Barred_init H_Longest_init H_longest_of
    have H_leg := SqP.ok_leg (P := PySem.Challenge.rw_squaretree_k03_whole_sides.prog) (w := w) (mg := mg) (base := base) B c_Halved i_Halved c_Leg D_leg H_check_number H_Leg_init H_legs_of
    have H__law_cell_at := SqP.ok__law_cell_at (P := PySem.Challenge.rw_squaretree_k03_whole_sides.prog) (w := w) (mg := mg) (base := base) B D__law_cell_at 
    have H__law_draw := SqP.ok__law_draw (P := PySem.Challenge.rw_squaretree_k03_whole_sides.prog) (w := w) (mg := mg) (base := base)  D__law_draw 
    have H__law_value := SqP.ok__law_value (P := PySem.Challenge.rw_squaretree_k03_whole_sides.prog) (w := w) (mg := mg) (base := base)  D__law_value H__law_draw
    have H__law_triple := SqP.ok__law_triple (P := PySem.Challenge.rw_squaretree_k03_whole_sides.prog) (w := w) (mg := mg) (base := base)  D__law_triple 
    have H__law_common := SqP.ok__law_common (P := PySem.Challenge.rw_squaretree_k03_whole_sides.prog) (w := w) (mg := mg) (base := base)  D__law_common 
    have H__law_whole := SqP.ok__law_whole (P := PySem.Challenge.rw_squaretree_k03_whole_sides.prog) (w := w) (mg := mg) (base := base) B D__law_whole 
    have H__law_are := SqP.ok__law_are (P := PySem.Challenge.rw_squaretree_k03_whole_sides.prog) (w := w) (mg := mg) (base := base) B D__law_are H__law_whole
    have H__law_root := SqP.ok__law_root (P := PySem.Challenge.rw_squaretree_k03_whole_sides.prog) (w := w) (mg := mg) (base := base)  D__law_root 
    have H__law_longest := SqP.ok__law_longest (P := PySem.Challenge.rw_squaretree_k03_whole_sides.prog) (w := w) (mg := mg) (base := base) B D__law_longest H__law_root H__law_common H__law_triple
    have H__law_legs := SqP.ok__law_legs (P := PySem.Challenge.rw_squaretree_k03_whole_sides.prog) (w := w) (mg := mg) (base := base) B seer rfl D__law_legs H__law_root H__law_common H__law_triple
    have H__law_is_prime := SqP.ok__law_is_prime (P := PySem.Challenge.rw_squaretree_k03_whole_sides.prog) (w := w) (mg := mg) (base := base) B D__law_is_prime H__law_root
    have H__law_bars := SqP.ok__law_bars (P := PySem.Challenge.rw_squaretree_k03_whole_sides.prog) (w := w) (mg := mg) (base := base)  D__law_bars H__law_is_prime
    have H__law_number := SqP.ok__law_number (P := PySem.Challenge.rw_squaretree_k03_whole_sides.prog) (w := w) (mg := mg) (base := base) B D__law_number H__law_cell_at H__law_value H__law_draw
    have H__law_says := SqP.ok__law_says (P := PySem.Challenge.rw_squaretree_k03_whole_sides.prog) (w := w) (mg := mg) (base := base) B D__law_says 
    have H__law_due := SqP.ok__law_due (P := PySem.Challenge.rw_squaretree_k03_whole_sides.prog) (w := w) (mg := mg) (base := base) B I.isF c_Longest n_Longest_triples c_Leg n_Leg_triples c_Halved n_Barred_prime D__law_due H__law_longest H__law_legs H__law_bars
    have H__law_told_right := SqP.ok__law_told_right (P := PySem.Challenge.rw_squaretree_k03_whole_sides.prog) (w := w) (mg := mg) (base := base) B I c_Answer c_Longest c_Leg c_Barred c_Halved nT n_Barred_prime gL gG D__law_told_right H_longest H_leg H_Longest_shows H_Leg_shows H_Barred_shows H_Halved_shows H__law_due H__law_says H__law_whole H__law_are
    exact SqP.ok_law B I c_Longest c_Leg c_Barred c_Halved nT n_Barred_prime gL gG FL H__law_number H_longest H_leg H__law_told_right
