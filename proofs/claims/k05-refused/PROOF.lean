import PyProof.Rows.All
import Wide.All
import OpenK.AllK
import Wide.FinOn
import HandS.ForMost
import HandS.WideBits
import HandS.Style
import HandS.IsInst
import HandS.EndBits
import HandS.Flow
import HandS.Conv
import HandS.Deep
import HandS.ForExc
import HandS.ExcIs
import HandS.HotCalls
import HandS.CallLocal
import PySem.Challenge.RW_squaretree_k05_refused
set_option Elab.async false
set_option linter.all false
set_option maxRecDepth 100000
set_option maxHeartbeats 4000000
/-! pairs, steps, rows: the plain law -/
namespace Sq
/-- no number but 1 goes into both -/
def Cop (a b : Int) : Prop := ∀ d : Int, d ∣ a → d ∣ b → d ∣ 1
theorem cop_iff {a b : Int} : Int.gcd a b = 1 ↔ Cop a b := by
  constructor
  · intro h d h1 h2
    have := Int.dvd_coe_gcd h1 h2
    rw [h] at this
    exact this
  · intro h
    have := h (Int.gcd a b) (Int.gcd_dvd_left a b) (Int.gcd_dvd_right a b)
    have h2 := Int.natAbs_dvd_natAbs.mpr this
    simpa using h2
abbrev Pr := Int × Int
def Good (p : Pr) : Prop := 0 < p.2 ∧ p.2 < p.1 ∧ (p.1 + p.2) % 2 = 1 ∧ Cop p.1 p.2
def S3 (s : Int) : Prop := s = 0 ∨ s = 1 ∨ s = 2
/-- one step -/
def st (s : Int) (p : Pr) : Pr := if s = 0 then (2 * p.1 - p.2, p.1) else if s = 2 then (p.1 + 2 * p.2, p.2) else (2 * p.1 + p.2, p.1)
def rep (s : Int) : Nat → Pr → Pr
  | 0, p => p
  | k + 1, p => st s (rep s k p)
/-- a step done so often -/
def led (p : Pr) (s o : Int) : Pr :=
  if s = 0 then (p.1 + o * (p.1 - p.2), p.2 + o * (p.1 - p.2)) else if s = 2 then (p.1 + 2 * o * p.2, p.2) else rep 1 o.toNat p
theorem rep0 (p : Pr) : ∀ k : Nat, rep 0 k p = (p.1 + k * (p.1 - p.2), p.2 + k * (p.1 - p.2))
  | 0 => by simp [rep]
  | k + 1 => by
    rw [rep, rep0 p k, st, if_pos rfl]
    refine Prod.ext ?_ ?_ <;> dsimp only <;> push_cast <;> grind
theorem rep2 (p : Pr) : ∀ k : Nat, rep 2 k p = (p.1 + 2 * k * p.2, p.2)
  | 0 => by simp [rep]
  | k + 1 => by
    rw [rep, rep2 p k, st, if_neg (by decide), if_pos rfl]
    refine Prod.ext ?_ ?_ <;> dsimp only <;> push_cast <;> grind
theorem led_rep {p : Pr} {s o : Int} (hs : S3 s) (ho : 0 ≤ o) : led p s o = rep s o.toNat p := by
  have e : ((o.toNat : Nat) : Int) = o := Int.toNat_of_nonneg ho
  unfold led
  rcases hs with rfl | rfl | rfl
  · rw [if_pos rfl, rep0, e]
  · rw [if_neg (by decide), if_neg (by decide)]
  · rw [if_neg (by decide), if_pos rfl, rep2, e]
theorem good_root : Good (2, 1) := ⟨by decide, by decide, by decide, fun d _ h => h⟩
theorem good_st {s : Int} {p : Pr} (hs : S3 s) (h : Good p) : Good (st s p) := by
  obtain ⟨m, n⟩ := p
  obtain ⟨h1, h2, h3, h4⟩ := h
  dsimp only at h1 h2 h3 h4
  rcases hs with rfl | rfl | rfl
  · rw [st, if_pos rfl]
    refine ⟨by dsimp only; omega, by dsimp only; omega, by dsimp only; omega, fun d ⟨a, ha⟩ ⟨b, hb⟩ => h4 d ⟨b, hb⟩ ⟨2 * b - a, ?_⟩⟩
    dsimp only at ha hb
    grind
  · rw [st, if_neg (by decide), if_neg (by decide)]
    refine ⟨by dsimp only; omega, by dsimp only; omega, by dsimp only; omega, fun d ⟨a, ha⟩ ⟨b, hb⟩ => h4 d ⟨b, hb⟩ ⟨a - 2 * b, ?_⟩⟩
    dsimp only at ha hb
    grind
  · rw [st, if_neg (by decide), if_pos rfl]
    refine ⟨by dsimp only; omega, by dsimp only; omega, by dsimp only; omega, fun d ⟨a, ha⟩ ⟨b, hb⟩ => h4 d ⟨a - 2 * b, ?_⟩ ⟨b, hb⟩⟩
    dsimp only at ha hb
    grind
theorem good_rep {s : Int} {p : Pr} (hs : S3 s) (h : Good p) : ∀ k, Good (rep s k p)
  | 0 => h
  | k + 1 => good_st hs (good_rep hs h k)
/-- a step leads to no root, and tells itself and the pair ahead -/
theorem st_root {s : Int} {p : Pr} (hs : S3 s) (h : Good p) : st s p ≠ (2, 1) := by
  obtain ⟨m, n⟩ := p
  obtain ⟨h1, h2, h3, h4⟩ := h
  dsimp only at h1 h2 h3 h4
  intro e
  rcases hs with rfl | rfl | rfl
  · rw [st, if_pos rfl] at e
    have := Prod.mk.inj e
    dsimp only at this
    omega
  · rw [st, if_neg (by decide), if_neg (by decide)] at e
    have := Prod.mk.inj e
    dsimp only at this
    omega
  · rw [st, if_neg (by decide), if_pos rfl] at e
    have := Prod.mk.inj e
    dsimp only at this
    omega
theorem st_inj {s t : Int} {p q : Pr} (hs : S3 s) (ht : S3 t) (hp : Good p) (hq : Good q) (e : st s p = st t q) : s = t ∧ p = q := by
  obtain ⟨m, n⟩ := p
  obtain ⟨k, l⟩ := q
  obtain ⟨h1, h2, _, _⟩ := hp
  obtain ⟨h3, h4, _, _⟩ := hq
  dsimp only at h1 h2 h3 h4
  rcases hs with rfl | rfl | rfl <;> rcases ht with rfl | rfl | rfl <;> simp [st] at e <;> simp [Prod.ext_iff] <;> omega
def walk (w : List Int) : Pr := w.foldl (fun p s => st s p) (2, 1)
def Steps (w : List Int) : Prop := ∀ s ∈ w, S3 s
theorem walk_snoc (w : List Int) (s : Int) : walk (w ++ [s]) = st s (walk w) := by simp [walk, List.foldl_append]
theorem foldl_good : ∀ (w : List Int) (p : Pr), Steps w → Good p → Good (w.foldl (fun p s => st s p) p)
  | [], _, _, h => h
  | s :: w, p, hs, h => foldl_good w (st s p) (fun x hx => hs x (List.mem_cons_of_mem _ hx)) (good_st (hs s List.mem_cons_self) h)
theorem walk_good {w : List Int} (h : Steps w) : Good (walk w) := foldl_good w _ h good_root
theorem walk_rep (w : List Int) (s : Int) : ∀ k, walk (w ++ List.replicate k s) = rep s k (walk w)
  | 0 => by simp [rep]
  | k + 1 => by rw [List.replicate_succ', ← List.append_assoc, walk_snoc, walk_rep w s k, rep]
theorem steps_app {a b : List Int} : Steps (a ++ b) ↔ Steps a ∧ Steps b := by
  unfold Steps
  constructor
  · intro h
    exact ⟨fun s hs => h s (List.mem_append_left _ hs), fun s hs => h s (List.mem_append_right _ hs)⟩
  · intro h s hs
    rcases List.mem_append.mp hs with q | q
    · exact h.1 s q
    · exact h.2 s q
/-- the last steps of a way, told by the pair ahead of them -/
theorem walk_back {s : Int} {q : Pr} (hs : S3 s) (hq : Good q) : ∀ (k : Nat) (w : List Int), Steps w → walk w = rep s k q → ∃ w', w = w' ++ List.replicate k s ∧ walk w' = q
  | 0, w, _, e => ⟨w, by simp, e⟩
  | k + 1, w, hw, e => by
    rcases List.eq_nil_or_concat w with rfl | ⟨v, t, rfl⟩
    · exact absurd e.symm (st_root hs (good_rep hs hq k))
    · rw [List.concat_eq_append] at e hw ⊢
      have hv := steps_app.mp hw
      rw [walk_snoc, rep] at e
      have ht : S3 t := hv.2 t (by simp)
      obtain ⟨rfl, e2⟩ := st_inj ht hs (walk_good hv.1) (good_rep hs hq k) e
      obtain ⟨w', rfl, e3⟩ := walk_back hs hq k v hv.1 e2
      exact ⟨w', by rw [List.replicate_succ', List.append_assoc], e3⟩
/-- the step back, how often it was done, and the pair ahead -/
def lastOf (p : Pr) : Int × Int × Pr :=
  if p.1 < 2 * p.2 then (0, (p.2 - 1) / (p.1 - p.2), (p.1 - (p.2 - 1) / (p.1 - p.2) * (p.1 - p.2), p.2 - (p.2 - 1) / (p.1 - p.2) * (p.1 - p.2)))
  else if p.1 < 3 * p.2 then (1, 1, (p.2, p.1 - 2 * p.2))
  else (2, (p.1 - p.2) / (2 * p.2), (p.1 - 2 * ((p.1 - p.2) / (2 * p.2)) * p.2, p.2))
/-- a pair but the first -/
theorem not_two {m n : Int} (h : Good (m, n)) (h0 : ((m, n) : Pr) ≠ (2, 1)) : m ≠ 2 * n := by
  intro e
  obtain ⟨h1, h2, h3, h4⟩ := h
  dsimp only at h1 h2 h3 h4
  have : n ∣ 1 := h4 n ⟨2, by omega⟩ ⟨1, by omega⟩
  have hn : n = 1 := by
    have := Int.le_of_dvd (by decide) this
    omega
  exact h0 (by rw [e, hn]; rfl)
theorem last_ok {p : Pr} (h : Good p) (h0 : p ≠ (2, 1)) : S3 (lastOf p).1 ∧ 1 ≤ (lastOf p).2.1 ∧ Good (lastOf p).2.2 ∧ led (lastOf p).2.2 (lastOf p).1 (lastOf p).2.1 = p := by
  obtain ⟨m, n⟩ := p
  have ne2 := not_two h h0
  obtain ⟨h1, h2, h3, h4⟩ := h
  dsimp only at h1 h2 h3 h4
  unfold lastOf
  dsimp only
  by_cases c : m < 2 * n
  · rw [if_pos c]
    dsimp only
    generalize ho : (n - 1) / (m - n) = o
    have hd : 0 < m - n := by omega
    have e1 := Int.mul_ediv_add_emod (n - 1) (m - n)
    have e2 := Int.emod_nonneg (n - 1) (show m - n ≠ 0 by omega)
    have e3 := Int.emod_lt_of_pos (n - 1) hd
    rw [ho] at e1
    have o1 : 1 ≤ o := by
      rw [← ho]
      exact (Int.le_ediv_iff_mul_le hd).mpr (by omega)
    have e4 : (m - n) * o = o * (m - n) := Int.mul_comm _ _
    refine ⟨.inl rfl, o1, ⟨?_, ?_, ?_, ?_⟩, ?_⟩
    · dsimp only
      omega
    · dsimp only
      omega
    · dsimp only
      omega
    · intro d ⟨a, ha⟩ ⟨b, hb⟩
      dsimp only at ha hb
      refine h4 d ⟨a + o * (a - b), ?_⟩ ⟨b + o * (a - b), ?_⟩ <;> grind
    · rw [led, if_pos rfl]
      refine Prod.ext ?_ ?_ <;> dsimp only <;> grind
  · rw [if_neg c]
    by_cases c2 : m < 3 * n
    · rw [if_pos c2]
      dsimp only
      refine ⟨.inr (.inl rfl), by decide, ⟨?_, ?_, ?_, ?_⟩, ?_⟩
      · dsimp only
        omega
      · dsimp only
        omega
      · dsimp only
        omega
      · intro d ⟨a, ha⟩ ⟨b, hb⟩
        dsimp only at ha hb
        exact h4 d ⟨2 * a + b, by grind⟩ ⟨a, by grind⟩
      · rw [led, if_neg (by decide), if_neg (by decide)]
        simp [rep, st]
        omega
    · rw [if_neg c2]
      dsimp only
      generalize ho : (m - n) / (2 * n) = o
      have hd : 0 < 2 * n := by omega
      have e1 := Int.mul_ediv_add_emod (m - n) (2 * n)
      have e2 := Int.emod_nonneg (m - n) (show 2 * n ≠ 0 by omega)
      have e3 := Int.emod_lt_of_pos (m - n) hd
      rw [ho] at e1
      have o1 : 1 ≤ o := by
        rw [← ho]
        exact (Int.le_ediv_iff_mul_le hd).mpr (by omega)
      have e4 : 2 * n * o = 2 * o * n := by grind
      have e5 : 2 * o * n = 2 * (o * n) := by grind
      have key : (m - n) % (2 * n) ≠ 0 := by
        intro z
        rw [z] at e1
        omega
      refine ⟨.inr (.inr rfl), o1, ⟨?_, ?_, ?_, ?_⟩, ?_⟩
      · dsimp only
        omega
      · dsimp only
        omega
      · dsimp only
        omega
      · intro d ⟨a, ha⟩ ⟨b, hb⟩
        dsimp only at ha hb
        refine h4 d ⟨a + 2 * o * b, ?_⟩ ⟨b, hb⟩
        grind
      · rw [led, if_neg (by decide), if_pos rfl]
        refine Prod.ext ?_ ?_ <;> dsimp only <;> grind
end Sq

/-! rows: the plain law -/
namespace Sq
abbrev PRow := List (Int × Int)
def ex : PRow → List Int
  | [] => []
  | x :: r => List.replicate x.2.toNat x.1 ++ ex r
def Pos (r : PRow) : Prop := ∀ x ∈ r, S3 x.1 ∧ 1 ≤ x.2
def Adj : PRow → Prop
  | [] => True
  | [_] => True
  | a :: b :: r => a.1 ≠ b.1 ∧ Adj (b :: r)
def behind (r : PRow) : Pr := r.foldl (fun p x => led p x.1 x.2) (2, 1)
theorem ex_app : ∀ a b : PRow, ex (a ++ b) = ex a ++ ex b
  | [], _ => rfl
  | x :: a, b => by
    show List.replicate x.2.toNat x.1 ++ ex (a ++ b) = (List.replicate x.2.toNat x.1 ++ ex a) ++ ex b
    rw [ex_app a b, List.append_assoc]
theorem pos_app {a b : PRow} : Pos (a ++ b) ↔ Pos a ∧ Pos b := by
  unfold Pos
  constructor
  · intro h
    exact ⟨fun s hs => h s (List.mem_append_left _ hs), fun s hs => h s (List.mem_append_right _ hs)⟩
  · intro h s hs
    rcases List.mem_append.mp hs with q | q
    · exact h.1 s q
    · exact h.2 s q
theorem pos_cons {x : Int × Int} {b : PRow} : Pos (x :: b) ↔ (S3 x.1 ∧ 1 ≤ x.2) ∧ Pos b := by
  unfold Pos
  exact List.forall_mem_cons
theorem ex_steps {r : PRow} (h : Pos r) : Steps (ex r) := by
  induction r with
  | nil => intro s hs; cases hs
  | cons x r ih =>
    have h2 := pos_cons.mp h
    exact steps_app.mpr ⟨fun s hs => by rw [List.eq_of_mem_replicate hs]; exact h2.1.1, ih h2.2⟩
theorem behind_snoc (r : PRow) (x : Int × Int) : behind (r ++ [x]) = led (behind r) x.1 x.2 := by simp [behind, List.foldl_append]
theorem snoc_ind {α : Type} {P : List α → Prop} (h0 : P []) (h1 : ∀ l x, P l → P (l ++ [x])) (l : List α) : P l := by
  have : ∀ n (l : List α), l.length = n → P l := by
    intro n
    induction n with
    | zero => intro l hl; rw [List.length_eq_zero_iff.mp hl]; exact h0
    | succ n ih =>
      intro l hl
      rcases List.eq_nil_or_concat l with rfl | ⟨v, t, rfl⟩
      · exact h0
      · rw [List.concat_eq_append] at hl ⊢
        rw [List.length_append, List.length_singleton] at hl
        exact h1 v t (ih v (by omega))
  exact this _ l rfl
theorem behind_walk (r : PRow) : Pos r → behind r = walk (ex r) := by
  refine snoc_ind (P := fun r => Pos r → behind r = walk (ex r)) (fun _ => rfl) (fun l x ih h => ?_) r
  have h2 := pos_app.mp h
  have h3 := h2.2 x (by simp)
  rw [behind_snoc, ex_app, led_rep h3.1 (by omega), ih h2.1]
  show rep x.1 x.2.toNat (walk (ex l)) = walk (ex l ++ (List.replicate x.2.toNat x.1 ++ []))
  rw [List.append_nil, walk_rep]
theorem behind_good {r : PRow} (h : Pos r) : Good (behind r) := by
  rw [behind_walk r h]
  exact walk_good (ex_steps h)
theorem adj_tail {x : Int × Int} {r : PRow} (h : Adj (x :: r)) : Adj r := by
  cases r with
  | nil => trivial
  | cons y r => exact h.2
/-- a row's way begins with its first step -/
theorem ex_head {x : Int × Int} {r : PRow} (h : 1 ≤ x.2) : ∃ w, ex (x :: r) = x.1 :: w := by
  have : ∃ k, x.2.toNat = k + 1 := ⟨x.2.toNat - 1, by omega⟩
  obtain ⟨k, e⟩ := this
  exact ⟨List.replicate k x.1 ++ ex r, by rw [ex, e, List.replicate_succ, List.cons_append]⟩
/-- behind its first step a row's way has another one -/
theorem ex_next {x : Int × Int} {r : PRow} (ha : Adj (x :: r)) (hp : Pos r) : ∀ w s, ex r = s :: w → s ≠ x.1 := by
  intro w s e
  cases r with
  | nil => cases e
  | cons y r =>
    obtain ⟨w', e'⟩ := ex_head (x := y) (r := r) (pos_cons.mp hp).1.2
    rw [e'] at e
    cases e
    exact fun z => ha.1 z.symm
theorem rep_split {s : Int} : ∀ {a b : Nat} {u v : List Int}, (∀ w t, u = t :: w → t ≠ s) → (∀ w t, v = t :: w → t ≠ s) → List.replicate a s ++ u = List.replicate b s ++ v → a = b ∧ u = v
  | 0, 0, _, _, _, _, e => ⟨rfl, e⟩
  | a + 1, 0, u, v, _, hv, e => absurd rfl (hv (List.replicate a s ++ u) s (by rw [← List.nil_append v, ← List.replicate_zero (a := s), ← e, List.replicate_succ, List.cons_append]))
  | 0, b + 1, u, v, hu, _, e => absurd rfl (hu (List.replicate b s ++ v) s (by rw [← List.nil_append u, ← List.replicate_zero (a := s), e, List.replicate_succ, List.cons_append]))
  | a + 1, b + 1, u, v, hu, hv, e => by
    rw [List.replicate_succ, List.replicate_succ, List.cons_append, List.cons_append] at e
    have e2 := (List.cons.inj e).2
    obtain ⟨h1, h2⟩ := rep_split hu hv e2
    exact ⟨by rw [h1], h2⟩
theorem ex_inj : ∀ {f r : PRow}, Pos f → Pos r → Adj f → Adj r → ex f = ex r → f = r
  | [], [], _, _, _, _, _ => rfl
  | [], y :: r, _, hr, _, _, e => by
    obtain ⟨w, e'⟩ := ex_head (x := y) (r := r) (pos_cons.mp hr).1.2
    rw [e'] at e
    cases e
  | x :: f, [], hf, _, _, _, e => by
    obtain ⟨w, e'⟩ := ex_head (x := x) (r := f) (pos_cons.mp hf).1.2
    rw [e'] at e
    cases e
  | x :: f, y :: r, hf, hr, af, ar, e => by
    have pf := pos_cons.mp hf
    have pr := pos_cons.mp hr
    obtain ⟨w, e1⟩ := ex_head (x := x) (r := f) pf.1.2
    obtain ⟨w', e2⟩ := ex_head (x := y) (r := r) pr.1.2
    have hs : x.1 = y.1 := by
      rw [e1, e2] at e
      exact (List.cons.inj e).1
    unfold ex at e
    rw [← hs] at e
    obtain ⟨h1, h2⟩ := rep_split (fun w t q => ex_next af pf.2 w t q) (fun w t q => by rw [hs]; exact ex_next ar pr.2 w t q) e
    have h3 : x = y := Prod.ext hs (by have := pf.1.2; have := pr.1.2; omega)
    rw [h3, ex_inj pf.2 pr.2 (adj_tail af) (adj_tail ar) h2]
/-- the end of a row's way, told by a row, is no longer -/
theorem ex_len : ∀ {r f : PRow} {w : List Int}, Pos f → Pos r → Adj f → Adj r → w ++ ex f = ex r → f.length ≤ r.length
  | [], f, w, hf, _, _, _, e => by
    cases f with
    | nil => exact Nat.le_refl _
    | cons x f =>
      obtain ⟨v, e'⟩ := ex_head (x := x) (r := f) (pos_cons.mp hf).1.2
      rw [e'] at e
      have := (List.append_eq_nil_iff.mp e).2
      cases this
  | y :: r, f, w, hf, hr, af, ar, e => by
    have pr := pos_cons.mp hr
    have e0 : w ++ ex f = List.replicate y.2.toNat y.1 ++ ex r := e
    by_cases c : y.2.toNat ≤ w.length
    · have e1 : ∃ v, w = List.replicate y.2.toNat y.1 ++ v ∧ v ++ ex f = ex r := by
        rcases List.append_eq_append_iff.mp e0 with ⟨a, h1, h2⟩ | ⟨a, h1, h2⟩
        · have : a = [] := by
            have := congrArg List.length h1
            rw [List.length_append, List.length_replicate] at this
            exact List.length_eq_zero_iff.mp (by omega)
          subst this
          rw [List.append_nil] at h1
          exact ⟨[], by rw [List.append_nil, h1], by rw [h2, List.nil_append, List.nil_append]⟩
        · exact ⟨a, h1, h2.symm⟩
      obtain ⟨v, _, e2⟩ := e1
      have := ex_len hf pr.2 af (adj_tail ar) e2
      rw [List.length_cons]
      omega
    · have hw : w = List.replicate w.length y.1 ∧ ex f = ex ((y.1, y.2 - w.length) :: r) := by
        rcases List.append_eq_append_iff.mp e0 with ⟨a, h1, h2⟩ | ⟨a, h1, h2⟩
        · have hl := congrArg List.length h1
          rw [List.length_append, List.length_replicate] at hl
          have hw : w = List.replicate w.length y.1 := List.eq_replicate_iff.mpr ⟨rfl, fun b hb => List.eq_of_mem_replicate (n := y.2.toNat) (by rw [h1]; exact List.mem_append_left _ hb)⟩
          have ha : a = List.replicate (y.2 - w.length).toNat y.1 := List.eq_replicate_iff.mpr ⟨by omega, fun b hb => List.eq_of_mem_replicate (n := y.2.toNat) (by rw [h1]; exact List.mem_append_right _ hb)⟩
          exact ⟨hw, by rw [h2]; show a ++ ex r = List.replicate (y.2 - w.length).toNat y.1 ++ ex r; rw [ha]⟩
        · have hl := congrArg List.length h1
          rw [List.length_append, List.length_replicate] at hl
          omega
      have pz : Pos ((y.1, y.2 - (w.length : Int)) :: r) := pos_cons.mpr ⟨⟨pr.1.1, by dsimp only; omega⟩, pr.2⟩
      have az : Adj ((y.1, y.2 - (w.length : Int)) :: r) := by
        cases r with
        | nil => trivial
        | cons z r => exact ar
      rw [ex_inj hf pz af az hw.2]
      exact Nat.le_refl _
/-- what row_of does with a step, told from the row's end: at the front -/
def front (s o : Int) : PRow → PRow
  | [] => [(s, o)]
  | x :: r => if x.1 = s then (s, x.2 + o) :: r else (s, o) :: x :: r
theorem front_eq {s o : Int} {x : Int × Int} {r : PRow} (h : x.1 = s) : front s o (x :: r) = (s, x.2 + o) :: r := if_pos h
theorem front_ne {s o : Int} {x : Int × Int} {r : PRow} (h : ¬ x.1 = s) : front s o (x :: r) = (s, o) :: x :: r := if_neg h
theorem front_ex {s o : Int} {r : PRow} (ho : 1 ≤ o) (hr : Pos r) : ex (front s o r) = List.replicate o.toNat s ++ ex r := by
  cases r with
  | nil => rfl
  | cons x r =>
    by_cases h : x.1 = s
    · have hx := (pos_cons.mp hr).1.2
      rw [front_eq h]
      show List.replicate (x.2 + o).toNat s ++ ex r = List.replicate o.toNat s ++ (List.replicate x.2.toNat x.1 ++ ex r)
      rw [h, ← List.append_assoc, List.replicate_append_replicate]
      congr 2
      omega
    · rw [front_ne h]
      rfl
theorem front_pos {s o : Int} {r : PRow} (hs : S3 s) (ho : 1 ≤ o) (hr : Pos r) : Pos (front s o r) := by
  cases r with
  | nil => exact pos_cons.mpr ⟨⟨hs, ho⟩, hr⟩
  | cons x r =>
    have hx := pos_cons.mp hr
    by_cases h : x.1 = s
    · rw [front_eq h]
      exact pos_cons.mpr ⟨⟨hs, by have := hx.1.2; dsimp only; omega⟩, hx.2⟩
    · rw [front_ne h]
      exact pos_cons.mpr ⟨⟨hs, ho⟩, hr⟩
theorem front_adj {s o : Int} {r : PRow} (hr : Adj r) : Adj (front s o r) := by
  cases r with
  | nil => trivial
  | cons x r =>
    by_cases h : x.1 = s
    · rw [front_eq h]
      cases r with
      | nil => trivial
      | cons y r => exact ⟨by rw [← h]; exact hr.1, hr.2⟩
    · rw [front_ne h]
      exact ⟨fun z => h z.symm, hr⟩
/-- THE LOOP of row_of: what holds between two turns. g: the row found so far (from its end), w: the way still ahead -/
structure Turns (R g : PRow) (p : Pr) (w : List Int) : Prop where
  st : Steps w
  at' : p = walk w
  all : w ++ ex g = ex R
  pos : Pos g
  adj : Adj g
theorem turns_start {R : PRow} (h : Pos R) : Turns R [] (behind R) (ex R) := ⟨ex_steps h, behind_walk R h, by simp [ex], (fun x hx => by cases hx), trivial⟩
theorem turns_next {R g : PRow} {p : Pr} {w : List Int} (t : Turns R g p w) (h0 : p ≠ (2, 1)) : ∃ w', w'.length < w.length ∧ Turns R (front (lastOf p).1 (lastOf p).2.1 g) (lastOf p).2.2 w' := by
  have gp : Good p := by rw [t.at']; exact walk_good t.st
  obtain ⟨h1, h2, h3, h4⟩ := last_ok gp h0
  rw [led_rep h1 (by omega)] at h4
  obtain ⟨w', e, e2⟩ := walk_back h1 h3 _ w t.st (t.at'.symm.trans h4.symm)
  refine ⟨w', ?_, ⟨?_, e2.symm, ?_, front_pos h1 h2 t.pos, front_adj t.adj⟩⟩
  · rw [e, List.length_append, List.length_replicate]
    omega
  · have := t.st
    rw [e] at this
    exact (steps_app.mp this).1
  · rw [front_ex h2 t.pos, ← List.append_assoc, ← e]
    exact t.all
theorem turns_end {R g : PRow} {w : List Int} (t : Turns R g (2, 1) w) (hR : Pos R) (aR : Adj R) : g = R := by
  have : w = [] := by
    rcases List.eq_nil_or_concat w with rfl | ⟨v, s, rfl⟩
    · rfl
    · have h := t.at'
      have hs := t.st
      rw [List.concat_eq_append] at h hs
      rw [walk_snoc] at h
      have h2 := steps_app.mp hs
      exact absurd h.symm (st_root (h2.2 s (by simp)) (walk_good h2.1))
  have e := t.all
  rw [this, List.nil_append] at e
  exact ex_inj t.pos hR t.adj aR e
theorem turns_len {R g : PRow} {p : Pr} {w : List Int} (t : Turns R g p w) (hR : Pos R) (aR : Adj R) : g.length ≤ R.length := ex_len t.pos hR t.adj aR t.all
theorem turns_good {R g : PRow} {p : Pr} {w : List Int} (t : Turns R g p w) : Good p := by rw [t.at']; exact walk_good t.st
end Sq

/-! triples, roots, sizes: the plain law -/
namespace Sq
theorem cop_mul {a b c : Int} (h1 : Cop a b) (h2 : Cop a c) : Cop a (b * c) := by
  have e1 : Nat.Coprime a.natAbs b.natAbs := cop_iff.mpr h1
  have e2 : Nat.Coprime a.natAbs c.natAbs := cop_iff.mpr h2
  have e3 : Nat.Coprime a.natAbs (b * c).natAbs := by
    rw [Int.natAbs_mul]
    exact Nat.Coprime.mul_right e1 e2
  exact cop_iff.mp e3
theorem cop_comm {a b : Int} (h : Cop a b) : Cop b a := fun d h1 h2 => h d h2 h1
abbrev Tr := Int × Int × Int
def tri (p : Pr) : Tr := (p.1 * p.1 - p.2 * p.2, 2 * p.1 * p.2, p.1 * p.1 + p.2 * p.2)
structure TriOk (t : Tr) : Prop where
  a : 0 < t.1
  b : 0 < t.2.1
  c : 0 < t.2.2
  odd : t.1 % 2 = 1
  even : t.2.1 % 2 = 0
  sq : t.1 * t.1 + t.2.1 * t.2.1 = t.2.2 * t.2.2
  cop : Int.gcd t.1 t.2.1 = 1
theorem sq_mod (m : Int) : (m * m) % 2 = m % 2 := by
  rw [Int.mul_emod]
  rcases Int.emod_two_eq m with h | h <;> rw [h] <;> rfl
theorem tri_ok {p : Pr} (h : Good p) : TriOk (tri p) := by
  obtain ⟨m, n⟩ := p
  obtain ⟨h1, h2, h3, h4⟩ := h
  dsimp only at h1 h2 h3 h4
  have k1 : n * n < m * m := Int.lt_trans (Int.mul_lt_mul_of_pos_right h2 h1) (Int.mul_lt_mul_of_pos_left h2 (by omega))
  have k2 : 0 < n * n := Int.mul_pos h1 h1
  have k3 : 0 < m * n := Int.mul_pos (by omega) h1
  have k4 : 2 * m * n = 2 * (m * n) := by grind
  have odd : (m * m - n * n) % 2 = 1 := by
    have := sq_mod m
    have := sq_mod n
    omega
  have cn : Cop n m := cop_comm h4
  refine ⟨by show 0 < m * m - n * n; omega, by show 0 < 2 * m * n; omega, by show 0 < m * m + n * n; omega, odd, by show (2 * m * n) % 2 = 0; omega, ?_, ?_⟩
  · show (m * m - n * n) * (m * m - n * n) + 2 * m * n * (2 * m * n) = (m * m + n * n) * (m * m + n * n)
    grind
  · refine cop_iff.mpr ?_
    show Cop (m * m - n * n) (2 * m * n)
    refine cop_mul (cop_mul ?_ ?_) ?_
    · intro d h5 ⟨e, he⟩
      have hd2 : d ∣ (2 : Int) := ⟨e, he⟩
      obtain ⟨f, hf⟩ := h5
      exact ⟨f - e * ((m * m - n * n) / 2), by
        have e1 := Int.mul_ediv_add_emod (m * m - n * n) 2
        rw [odd] at e1
        grind⟩
    · intro d ⟨e, he⟩ ⟨f, hf⟩
      exact cop_mul h4 h4 d ⟨f, hf⟩ ⟨f * m - e, by grind⟩
    · intro d ⟨e, he⟩ ⟨f, hf⟩
      exact cop_mul cn cn d ⟨f, hf⟩ ⟨f * n + e, by grind⟩
theorem tri_half1 (p : Pr) : ((tri p).2.2 + (tri p).1) / 2 = p.1 * p.1 := by
  show ((p.1 * p.1 + p.2 * p.2) + (p.1 * p.1 - p.2 * p.2)) / 2 = p.1 * p.1
  omega
theorem tri_half2 (p : Pr) : ((tri p).2.2 - (tri p).1) / 2 = p.2 * p.2 := by
  show ((p.1 * p.1 + p.2 * p.2) - (p.1 * p.1 - p.2 * p.2)) / 2 = p.2 * p.2
  omega
/-! ### roots -/
theorem root_uniq {r b n : Int} (h : 0 ≤ r) (h1 : r * r ≤ n) (h2 : n < (r + 1) * (r + 1)) (hb : 0 ≤ b) (h3 : b * b ≤ n) (h4 : n < (b + 1) * (b + 1)) : r = b := by
  rcases Int.lt_trichotomy r b with c | c | c
  · have : (r + 1) * (r + 1) ≤ b * b := Int.mul_le_mul (by omega) (by omega) (by omega) (by omega)
    omega
  · exact c
  · have : (b + 1) * (b + 1) ≤ r * r := Int.mul_le_mul (by omega) (by omega) (by omega) (by omega)
    omega
theorem root_sq {r m : Int} (h : 0 ≤ r) (h1 : r * r ≤ m * m) (h2 : m * m < (r + 1) * (r + 1)) (hm : 0 ≤ m) : r = m :=
  root_uniq h h1 h2 hm (Int.le_refl _) (by grind)
structure Newt (N x : Int) : Prop where
  nn : 0 ≤ x
  up : N < (x + 1) * (x + 1)
theorem newt_next {N x : Int} (hN : 0 ≤ N) (h : Newt N x) (hx : N < x * x) : 0 < x ∧ Newt N ((x + N / x) / 2) ∧ (x + N / x) / 2 < x := by
  have x0 : 0 < x := by
    rcases Int.lt_or_eq_of_le h.nn with c | c
    · exact c
    · rw [← c] at hx
      omega
  have e1 := Int.mul_ediv_add_emod N x
  have e2 := Int.emod_nonneg N (show x ≠ 0 by omega)
  have e3 := Int.emod_lt_of_pos N x0
  generalize hq : N / x = q at *
  have q0 : 0 ≤ q := by rw [← hq]; exact Int.ediv_nonneg hN h.nn
  have q1 : q < x := by
    rcases Int.lt_or_le q x with c | c
    · exact c
    · have : x * x ≤ x * q := Int.mul_le_mul_of_nonneg_left c h.nn
      omega
  have f1 := Int.mul_ediv_add_emod (x + q) 2
  generalize hr : (x + q) / 2 = r at *
  have r1 : x + q + 1 ≤ 2 * (r + 1) := by omega
  refine ⟨x0, ⟨by omega, ?_⟩, by omega⟩
  have g1 : 4 * N < 4 * ((q + 1) * x) := by
    have : (q + 1) * x = x * q + x := by grind
    omega
  have g2 : 4 * ((q + 1) * x) ≤ (x + q + 1) * (x + q + 1) := by
    have z : 0 ≤ (q + 1 - x) * (q + 1 - x) := by
      rcases Int.le_total 0 (q + 1 - x) with c | c
      · exact Int.mul_nonneg c c
      · exact Int.mul_nonneg_of_nonpos_of_nonpos c c
    have : (q + 1 - x) * (q + 1 - x) = (x + q + 1) * (x + q + 1) - 4 * ((q + 1) * x) := by grind
    omega
  have g3 : (x + q + 1) * (x + q + 1) ≤ (2 * (r + 1)) * (2 * (r + 1)) := Int.mul_le_mul r1 r1 (by omega) (by omega)
  have g4 : (2 * (r + 1)) * (2 * (r + 1)) = 4 * ((r + 1) * (r + 1)) := by grind
  omega
theorem newt_start {N : Int} {b : Nat} (hb : N < 2 ^ b) : Newt N (2 ^ ((b + 1) / 2)) := by
  have p0 : ∀ k : Nat, (0 : Int) < 2 ^ k := fun k => by
    have := Nat.two_pow_pos k
    exact_mod_cast this
  have z := p0 ((b + 1) / 2)
  refine ⟨by omega, ?_⟩
  have h1 : (2 : Int) ^ b ≤ 2 ^ ((b + 1) / 2) * 2 ^ ((b + 1) / 2) := by
    rw [← Int.pow_add]
    have : (2 : Nat) ^ b ≤ 2 ^ ((b + 1) / 2 + (b + 1) / 2) := Nat.pow_le_pow_right (by decide) (by omega)
    exact_mod_cast this
  have h2 : ((2 : Int) ^ ((b + 1) / 2) + 1) * (2 ^ ((b + 1) / 2) + 1) = 2 ^ ((b + 1) / 2) * 2 ^ ((b + 1) / 2) + 2 * 2 ^ ((b + 1) / 2) + 1 := by grind
  omega
/-! ### sizes -/
/-- fewer than k bits -/
def Bd (k : Nat) (x : Int) : Prop := x.natAbs < 2 ^ k
theorem Bd.mono {k l : Nat} {x : Int} (h : Bd k x) (e : k ≤ l) : Bd l x := Nat.lt_of_lt_of_le h (Nat.pow_le_pow_right (by decide) e)
theorem Bd.mul {k l : Nat} {x y : Int} (h : Bd k x) (h2 : Bd l y) : Bd (k + l) (x * y) := by
  unfold Bd at *
  rw [Int.natAbs_mul, Nat.pow_add]
  exact Nat.mul_lt_mul'' h h2
theorem Bd.add {k : Nat} {x y : Int} (h : Bd k x) (h2 : Bd k y) : Bd (k + 1) (x + y) := by
  unfold Bd at *
  have := Int.natAbs_add_le x y
  rw [Nat.pow_succ]
  omega
theorem Bd.neg {k : Nat} {x : Int} (h : Bd k x) : Bd k (-x) := by
  unfold Bd at *
  rw [Int.natAbs_neg]
  exact h
theorem Bd.sub {k : Nat} {x y : Int} (h : Bd k x) (h2 : Bd k y) : Bd (k + 1) (x - y) := by
  rw [Int.sub_eq_add_neg]
  exact Bd.add h h2.neg
theorem Bd.le {k : Nat} {x y : Int} (h : Bd k y) (h0 : 0 ≤ x) (h1 : x ≤ y) : Bd k x := Nat.lt_of_le_of_lt (by omega) h
theorem Bd.lt {k : Nat} {x : Int} (h : Bd k x) : x < 2 ^ k := by
  unfold Bd at h
  have : ((x.natAbs : Nat) : Int) < ((2 ^ k : Nat) : Int) := Int.ofNat_lt.mpr h
  rw [Int.natCast_pow] at this
  have e : x ≤ x.natAbs := Int.le_natAbs
  exact Int.lt_of_le_of_lt e this
theorem bd_of {k : Nat} {x : Int} (h0 : 0 ≤ x) (h : x < 2 ^ k) : Bd k x := by
  unfold Bd
  have e : ((x.natAbs : Nat) : Int) < ((2 ^ k : Nat) : Int) := by
    rw [Int.natCast_pow, Int.natAbs_of_nonneg h0]
    exact h
  exact Int.ofNat_lt.mp e
theorem bd_small {x : Int} {k : Nat} (h : x.natAbs < 2 ^ k) : Bd k x := h
theorem tri_bd {p : Pr} {k : Nat} (h : Good p) (hb : Bd k p.1) : Bd (k + k + 2) (tri p).1 ∧ Bd (k + k + 2) (tri p).2.1 ∧ Bd (k + k + 2) (tri p).2.2 := by
  obtain ⟨h1, h2, _, _⟩ := h
  have hn : Bd k p.2 := hb.le (by omega) (by omega)
  have e1 := hb.mul hb
  have e2 := hn.mul hn
  have e3 := hb.mul hn
  refine ⟨(e1.sub e2).mono (by omega), ?_, (e1.add e2).mono (by omega)⟩
  have : (tri p).2.1 = p.1 * p.2 + p.1 * p.2 := by
    show 2 * p.1 * p.2 = _
    grind
  rw [this]
  exact (e3.add e3).mono (by omega)
def PartOk (x : Int × Int) : Prop := S3 x.1 ∧ 1 ≤ x.2 ∧ x.2 ≤ 10 ^ 40 ∧ (x.1 = 1 → x.2 ≤ 1000)
theorem rep1_le {p : Pr} (h : Good p) : ∀ k : Nat, Bd b p.1 → Bd (b + 2 * k) (rep 1 k p).1
  | 0, hb => hb
  | k + 1, hb => by
    have ih := rep1_le h k hb
    have g := good_rep (s := 1) (.inr (.inl rfl)) h k
    obtain ⟨g1, g2, _, _⟩ := g
    rw [rep, st, if_neg (by decide), if_neg (by decide)]
    dsimp only
    have e : Bd (b + 2 * k) (rep 1 k p).2 := ih.le (by omega) (by omega)
    have : 2 * (rep 1 k p).1 + (rep 1 k p).2 = ((rep 1 k p).1 + (rep 1 k p).1) + (rep 1 k p).2 := by grind
    rw [this]
    exact ((ih.add ih).add (e.mono (by omega))).mono (by omega)
theorem led_bd {p : Pr} {x : Int × Int} {b : Nat} (h : Good p) (hx : PartOk x) (hb : Bd b p.1) : Bd (b + 2000) (led p x.1 x.2).1 := by
  obtain ⟨s, o⟩ := x
  obtain ⟨h1, h2, h3, h4⟩ := hx
  obtain ⟨g1, g2, _, _⟩ := id h
  dsimp only at h1 h2 h3 h4 ⊢
  have ho : Bd 140 o := Nat.lt_of_le_of_lt (show o.natAbs ≤ 10 ^ 40 by omega) (by decide +kernel)
  have hn : Bd b p.2 := hb.le (by omega) (by omega)
  rcases h1 with rfl | rfl | rfl
  · rw [led, if_pos rfl]
    dsimp only
    have e1 := hb.sub hn
    exact (((hb.mono (show b ≤ 140 + (b + 1) by omega)).add (ho.mul e1))).mono (by omega)
  · rw [led, if_neg (by decide), if_neg (by decide)]
    exact (rep1_le h o.toNat hb).mono (by have := h4 rfl; omega)
  · rw [led, if_neg (by decide), if_pos rfl]
    dsimp only
    have : 2 * o * p.2 = o * p.2 + o * p.2 := by grind
    rw [this]
    have e1 := ho.mul hn
    exact (((hb.mono (show b ≤ 140 + b + 1 by omega)).add (e1.add e1))).mono (by omega)
theorem rep1_succ (i : Nat) (p : Pr) : rep 1 (i + 1) p = (2 * (rep 1 i p).1 + (rep 1 i p).2, (rep 1 i p).1) := by
  rw [rep, st, if_neg (by decide), if_neg (by decide)]
theorem led_good {p : Pr} {s o : Int} (h : Good p) (hs : S3 s) (ho : 0 ≤ o) : Good (led p s o) := by
  rw [led_rep hs ho]
  exact good_rep hs h _
theorem parts_pos {r : PRow} (h : ∀ x ∈ r, PartOk x) : Pos r := fun x hx => ⟨(h x hx).1, (h x hx).2.1⟩
theorem behind_bd (r : PRow) : (∀ x ∈ r, PartOk x) → Bd (2000 * r.length + 2) (behind r).1 := by
  refine snoc_ind (P := fun r => (∀ x ∈ r, PartOk x) → Bd (2000 * r.length + 2) (behind r).1) (fun _ => by show (2 : Nat) < 2 ^ 2; decide) (fun l x ih h => ?_) r
  have h1 : ∀ y ∈ l, PartOk y := fun y hy => h y (List.mem_append_left _ hy)
  rw [behind_snoc, List.length_append, List.length_singleton]
  exact (led_bd (behind_good (parts_pos h1)) (h x (by simp)) (ih h1)).mono (by omega)
end Sq

/-! one step back; rows cut -/
namespace Sq
def backOf (p : Pr) : Int × Pr := if p.1 < 2 * p.2 then (0, (p.2, 2 * p.2 - p.1)) else if p.1 < 3 * p.2 then (1, (p.2, p.1 - 2 * p.2)) else (2, (p.1 - 2 * p.2, p.2))
theorem back_ok {p : Pr} (h : Good p) (h0 : p ≠ (2, 1)) : S3 (backOf p).1 ∧ Good (backOf p).2 ∧ p = st (backOf p).1 (backOf p).2 := by
  obtain ⟨m, n⟩ := p
  have ne2 := not_two h h0
  obtain ⟨h1, h2, h3, h4⟩ := h
  dsimp only at h1 h2 h3 h4
  unfold backOf
  dsimp only
  by_cases c : m < 2 * n
  · rw [if_pos c]
    refine ⟨.inl rfl, ⟨by dsimp only; omega, by dsimp only; omega, by dsimp only; omega, fun d ⟨a, ha⟩ ⟨b, hb⟩ => ?_⟩, ?_⟩
    · dsimp only at ha hb
      exact h4 d ⟨2 * a - b, by grind⟩ ⟨a, by grind⟩
    · rw [st, if_pos rfl]
      refine Prod.ext ?_ ?_ <;> dsimp only <;> omega
  · rw [if_neg c]
    by_cases c2 : m < 3 * n
    · rw [if_pos c2]
      refine ⟨.inr (.inl rfl), ⟨by dsimp only; omega, by dsimp only; omega, by dsimp only; omega, fun d ⟨a, ha⟩ ⟨b, hb⟩ => ?_⟩, ?_⟩
      · dsimp only at ha hb
        exact h4 d ⟨2 * a + b, by grind⟩ ⟨a, by grind⟩
      · show (m, n) = st 1 (n, m - 2 * n)
        rw [st, if_neg (by decide), if_neg (by decide)]
        refine Prod.ext ?_ ?_ <;> dsimp only <;> omega
    · rw [if_neg c2]
      refine ⟨.inr (.inr rfl), ⟨by dsimp only; omega, by dsimp only; omega, by dsimp only; omega, fun d ⟨a, ha⟩ ⟨b, hb⟩ => ?_⟩, ?_⟩
      · dsimp only at ha hb
        exact h4 d ⟨a + 2 * b, by grind⟩ ⟨b, by grind⟩
      · show (m, n) = st 2 (m - 2 * n, n)
        rw [st, if_neg (by decide), if_pos rfl]
        refine Prod.ext ?_ ?_ <;> dsimp only <;> omega
theorem back_st {s : Int} {p : Pr} (hs : S3 s) (h : Good p) : backOf (st s p) = (s, p) := by
  obtain ⟨h1, h2, h3⟩ := back_ok (good_st hs h) (st_root hs h)
  obtain ⟨e1, e2⟩ := st_inj hs h1 h h2 h3
  exact Prod.ext e1.symm e2.symm
theorem back_le {p : Pr} (h : Good p) : 0 ≤ (backOf p).2.1 ∧ (backOf p).2.1 ≤ p.1 ∧ -p.1 ≤ (backOf p).2.2 ∧ (backOf p).2.2 ≤ p.1 := by
  obtain ⟨h1, h2, _, _⟩ := h
  unfold backOf
  split
  · dsimp only
    omega
  · split <;> (dsimp only; omega)
theorem last_le {p : Pr} (h : Good p) (h0 : p ≠ (2, 1)) : (lastOf p).2.2.1 ≤ p.1 := by
  obtain ⟨h1, h2, h3, h4⟩ := last_ok h h0
  rw [led_rep h1 (by omega)] at h4
  have mono : ∀ k : Nat, (lastOf p).2.2.1 ≤ (rep (lastOf p).1 k (lastOf p).2.2).1 := by
    intro k
    induction k with
    | zero => exact Int.le_refl _
    | succ k ih =>
      have g := good_rep h1 h3 k
      refine Int.le_trans ih ?_
      obtain ⟨g1, g2, _, _⟩ := g
      rw [rep]
      rcases h1 with e | e | e <;> (rw [e] at g1 g2 ⊢; simp [st]; omega)
  have := mono (lastOf p).2.1.toNat
  rw [h4] at this
  exact this
theorem Bd.abs {k : Nat} {x y : Int} (h : Bd k y) (h0 : -y ≤ x) (h1 : x ≤ y) : Bd k x := Nat.lt_of_le_of_lt (by omega) h
theorem behind_take {r : PRow} {i : Nat} {x : Int × Int} (h : r[i]? = some x) : behind (r.take (i + 1)) = led (behind (r.take i)) x.1 x.2 := by
  rw [List.take_add_one, h]
  exact behind_snoc _ _
theorem adj_get : ∀ {r : PRow} {i : Nat} {x y : Int × Int}, Adj r → r[i]? = some x → r[i + 1]? = some y → x.1 ≠ y.1
  | [], _, _, _, _, h, _ => by simp at h
  | [_], 0, _, _, _, _, h => by simp at h
  | [_], _ + 1, _, _, _, h, _ => by simp at h
  | a :: b :: r, 0, x, y, ha, h, h2 => by
    have e1 : a = x := Option.some.inj h
    have e2 : b = y := Option.some.inj h2
    subst e1
    subst e2
    exact ha.1
  | a :: b :: r, i + 1, x, y, ha, h, h2 => adj_get (r := b :: r) (i := i) ha.2 h h2
theorem adj_take : ∀ {r : PRow} (n : Nat), Adj r → Adj (r.take n)
  | _, 0, _ => trivial
  | [], _ + 1, _ => trivial
  | [_], _ + 1, _ => by simp [Adj]
  | a :: b :: r, 1, _ => trivial
  | a :: b :: r, n + 2, h => ⟨h.1, adj_take (r := b :: r) (n + 1) h.2⟩
end Sq

/-! drawn rows -/
namespace Sq
theorem adj_snoc : ∀ {r : PRow} {x y : Int × Int}, Adj (r ++ [x]) → x.1 ≠ y.1 → Adj (r ++ [x] ++ [y])
  | [], _, _, _, h => ⟨h, trivial⟩
  | [a], x, y, ha, h => ⟨ha.1, h, trivial⟩
  | a :: b :: r, x, y, ha, h => ⟨ha.1, adj_snoc (r := b :: r) ha.2 h⟩
/-- a row grown, the step told last: 3 ahead of any -/
def LastIs (r : PRow) (l : Int) : Prop := (r = [] ∧ l = 3) ∨ ∃ r' x, r = r' ++ [x] ∧ l = x.1 ∧ S3 l
theorem next_ok {r : PRow} {l d s o : Int} (hl : LastIs r l) (h : ∀ x ∈ r, PartOk x) (ha : Adj r) (hs : s = if l = 3 then d % 3 else (l + 1 + d % 2) % 3) (h1 : 1 ≤ o) (h2 : o ≤ 10 ^ 40) (h3 : s = 1 → o ≤ 1000) :
    (∀ x ∈ r ++ [(s, o)], PartOk x) ∧ Adj (r ++ [(s, o)]) ∧ LastIs (r ++ [(s, o)]) s := by
  have s3 : S3 s := by
    unfold S3
    split at hs <;> omega
  refine ⟨fun x hx => ?_, ?_, .inr ⟨r, (s, o), rfl, rfl, s3⟩⟩
  · rcases List.mem_append.mp hx with q | q
    · exact h x q
    · rw [List.mem_singleton.mp q]
      exact ⟨s3, h1, h2, h3⟩
  · rcases hl with ⟨e, _⟩ | ⟨r', x, e, e2, l3⟩
    · rw [e]
      trivial
    · rw [e]
      refine adj_snoc (by rw [← e]; exact ha) ?_
      rw [← e2]
      unfold S3 at l3
      rw [if_neg (by omega)] at hs
      show l ≠ s
      omega
theorem often_ok {d m : Int} (hd : 0 ≤ d) (hm : 0 < m) (hm2 : m ≤ 10 ^ 40) : 1 ≤ 1 + d % m ∧ 1 + d % m ≤ 10 ^ 40 := by
  have := Int.emod_nonneg d (show m ≠ 0 by omega)
  have := Int.emod_lt_of_pos d hm
  omega
theorem partok_small {s o : Int} (hs : S3 s) (h1 : 1 ≤ o) (h2 : o ≤ 1000) : PartOk (s, o) := ⟨hs, h1, by dsimp only; omega, fun _ => h2⟩
end Sq

/-! a row's last step, taken back -/
namespace Sq
def shorter (s o : Int) : PRow := if 1 < o then [(s, o - 1)] else []
theorem shorter_ok {s o : Int} (h : PartOk (s, o)) : ∀ x ∈ shorter s o, PartOk x := by
  intro x hx
  unfold shorter at hx
  split at hx
  · rw [List.mem_singleton.mp hx]
    obtain ⟨h1, h2, h3, h4⟩ := h
    dsimp only at h1 h2 h3 h4
    exact ⟨h1, by dsimp only; omega, by dsimp only; omega, fun e => by have := h4 e; dsimp only; omega⟩
  · cases hx
theorem behind_app (a b : PRow) : behind (a ++ b) = b.foldl (fun p x => led p x.1 x.2) (behind a) := by simp [behind, List.foldl_append]
theorem last_step {r : PRow} {s o : Int} (hr : ∀ x ∈ r, PartOk x) (h : PartOk (s, o)) : behind (r ++ [(s, o)]) = st s (behind (r ++ shorter s o)) := by
  obtain ⟨h1, h2, h3, h4⟩ := h
  dsimp only at h1 h2 h3 h4
  rw [behind_app, behind_app]
  unfold shorter
  split
  · show led (behind r) s o = st s (led (behind r) s (o - 1))
    rw [led_rep h1 (by omega), led_rep h1 (by omega)]
    have : o.toNat = (o - 1).toNat + 1 := by omega
    rw [this, rep]
  · show led (behind r) s o = st s (behind r)
    have : o = 1 := by omega
    rw [this, led_rep h1 (by decide)]
    rfl
end Sq

/-! each pair's way and row; the pairs up to a number -/
namespace Sq
theorem way : ∀ (k : Nat) (p : Pr), Good p → p.1.toNat ≤ k → ∃ w : List Int, Steps w ∧ walk w = p ∧ (w.length : Int) + 2 ≤ p.1
  | 0, p, h, hk => by
    have := h.1
    have := h.2.1
    omega
  | k + 1, p, h, hk => by
    by_cases h0 : p = (2, 1)
    · subst h0
      exact ⟨[], (fun s hs => by cases hs), rfl, by decide⟩
    · obtain ⟨b1, b2, b3⟩ := back_ok h h0
      have lt : (backOf p).2.1 < p.1 := by
        have g := b2
        have e := b3
        obtain ⟨g1, g2, _, _⟩ := g
        generalize (backOf p).1 = s at *
        generalize (backOf p).2 = q at *
        rw [e]
        rcases b1 with z | z | z <;> (rw [z]; simp [st]; omega)
      have pos := b2.1
      have pos2 := b2.2.1
      obtain ⟨w, w1, w2, w3⟩ := way k (backOf p).2 b2 (by omega)
      refine ⟨w ++ [(backOf p).1], steps_app.mpr ⟨w1, fun s hs => by rw [List.mem_singleton.mp hs]; exact b1⟩, ?_, ?_⟩
      · rw [walk_snoc, w2]
        exact b3.symm
      · rw [List.length_append, List.length_singleton]
        omega
/-- a way as a row -/
def rle : List Int → PRow
  | [] => []
  | s :: w => front s 1 (rle w)
theorem rle_ok : ∀ w : List Int, Steps w → Pos (rle w) ∧ Adj (rle w) ∧ ex (rle w) = w ∧ (rle w).length ≤ w.length ∧ ∀ x ∈ rle w, x.2 ≤ w.length
  | [], _ => ⟨(fun x hx => by cases hx), trivial, rfl, Nat.le_refl _, (fun x hx => by cases hx)⟩
  | s :: w, h => by
    obtain ⟨h1, h2, h3, h4, h5⟩ := rle_ok w (fun x hx => h x (List.mem_cons_of_mem _ hx))
    have hs := h s List.mem_cons_self
    refine ⟨front_pos hs (by decide) h1, front_adj h2, ?_, ?_, ?_⟩
    · show ex (front s 1 (rle w)) = s :: w
      rw [front_ex (by decide) h1, h3]
      rfl
    · show (front s 1 (rle w)).length ≤ w.length + 1
      cases e : rle w with
      | nil => exact Nat.succ_le_succ (Nat.zero_le _)
      | cons x r =>
        rw [e] at h4
        by_cases c : x.1 = s
        · rw [front_eq c]
          rw [List.length_cons] at h4 ⊢
          omega
        · rw [front_ne c]
          rw [List.length_cons]
          omega
    · show ∀ x ∈ front s 1 (rle w), x.2 ≤ ((w.length + 1 : Nat) : Int)
      intro x hx
      cases e : rle w with
      | nil =>
        rw [e] at hx
        rw [List.mem_singleton.mp hx]
        dsimp only
        omega
      | cons y r =>
        rw [e] at hx h5
        have hy := h5 y List.mem_cons_self
        by_cases c : y.1 = s
        · rw [front_eq c] at hx
          rcases List.mem_cons.mp hx with z | z
          · rw [z]
            dsimp only
            omega
          · have := h5 x (List.mem_cons_of_mem _ z)
            omega
        · rw [front_ne c] at hx
          rcases List.mem_cons.mp hx with z | z
          · rw [z]
            dsimp only
            omega
          · have := h5 x z
            omega
/-- each pair has a row -/
theorem row_of_pair {p : Pr} (h : Good p) (hb : p.1 ≤ 900) : ∃ r : PRow, (∀ x ∈ r, PartOk x) ∧ Adj r ∧ behind r = p ∧ r.length ≤ 900 ∧ (r.length : Int) ≤ p.1 ∧ (ex r).length + 2 ≤ p.1 := by
  obtain ⟨w, w1, w2, w3⟩ := way _ p h (Nat.le_refl _)
  obtain ⟨h1, h2, h3, h4, h5⟩ := rle_ok w w1
  refine ⟨rle w, fun x hx => ?_, h2, ?_, by omega, by omega, by rw [h3]; omega⟩
  · have a := h1 x hx
    have b := h5 x hx
    exact ⟨a.1, a.2, by omega, fun _ => by omega⟩
  · rw [behind_walk _ h1, h3]
    exact w2
theorem tri_root {p : Pr} (h : Good p) (e1 : (tri p).1 = 3) (e2 : (tri p).2.2 = 5) : p = (2, 1) := by
  obtain ⟨h1, h2, h3, h4⟩ := h
  have a : p.1 * p.1 - p.2 * p.2 = 3 := e1
  have b : p.1 * p.1 + p.2 * p.2 = 5 := e2
  have c : p.1 * p.1 = 4 := by omega
  have d : p.2 * p.2 = 1 := by omega
  have x1 : p.1 = 2 := root_sq (m := 2) (by omega) (by omega) (by have := Int.mul_pos (show 0 < p.1 by omega) (show 0 < p.1 by omega); grind) (by decide)
  have x2 : p.2 = 1 := root_sq (m := 1) (by omega) (by omega) (by grind) (by decide)
  exact Prod.ext x1 x2
/-- the pairs (m, 1), .. (m, k) -/
def inner (m : Int) : Nat → List Pr
  | 0 => []
  | k + 1 => inner m k ++ (if (m + (k + 1)) % 2 = 1 ∧ Int.gcd m (k + 1) = 1 then [(m, (k : Int) + 1)] else [])
/-- all pairs up to the number i + 1 -/
def pairs : Nat → List Pr
  | 0 => []
  | i + 1 => pairs i ++ inner (i + 2) (i + 1)
theorem inner_mem {m : Int} : ∀ {k : Nat} {p : Pr}, p ∈ inner m k → p.1 = m ∧ 0 < p.2 ∧ p.2 ≤ k ∧ (p.1 + p.2) % 2 = 1 ∧ Cop p.1 p.2
  | 0, _, h => by cases h
  | k + 1, p, h => by
    rcases List.mem_append.mp h with z | z
    · obtain ⟨a, b, c, d⟩ := inner_mem z
      exact ⟨a, b, by omega, d⟩
    · split at z
      · rename_i c
        rw [List.mem_singleton.mp z]
        exact ⟨rfl, by dsimp only; omega, by dsimp only; omega, c.1, cop_iff.mp c.2⟩
      · cases z
theorem inner_nodup {m : Int} : ∀ k : Nat, (inner m k).Nodup
  | 0 => List.nodup_nil
  | k + 1 => by
    refine List.nodup_append.mpr ⟨inner_nodup k, ?_, ?_⟩
    · split <;> simp
    · intro a ha b hb e
      subst e
      split at hb
      · have := (inner_mem ha).2.2.1
        rw [List.mem_singleton.mp hb] at this
        dsimp only at this
        omega
      · cases hb
theorem pairs_mem : ∀ {i : Nat} {p : Pr}, p ∈ pairs i → Good p ∧ p.1 ≤ i + 1
  | 0, _, h => by cases h
  | i + 1, p, h => by
    rcases List.mem_append.mp h with z | z
    · obtain ⟨a, b⟩ := pairs_mem z
      exact ⟨a, by omega⟩
    · obtain ⟨a, b, c, d, e⟩ := inner_mem z
      exact ⟨⟨b, by omega, d, e⟩, by omega⟩
theorem pairs_nodup : ∀ i : Nat, (pairs i).Nodup
  | 0 => List.nodup_nil
  | i + 1 => by
    refine List.nodup_append.mpr ⟨pairs_nodup i, inner_nodup _, ?_⟩
    intro a ha b hb e
    subst e
    have := (pairs_mem ha).2
    have := (inner_mem hb).1
    omega
theorem pairs_len : ∀ i : Nat, (pairs i).length ≤ i * (i + 1)
  | 0 => Nat.le_refl _
  | i + 1 => by
    have inl : ∀ (m : Int) (k : Nat), (inner m k).length ≤ k := by
      intro m k
      induction k with
      | zero => exact Nat.le_refl _
      | succ k ih =>
        rw [inner, List.length_append]
        split <;> simp <;> omega
    have := pairs_len i
    have := inl (i + 2) (i + 1)
    rw [pairs, List.length_append]
    have e : (i + 1) * (i + 1 + 1) = i * (i + 1) + 2 * (i + 1) := by grind
    omega
theorem pairs_three : ∀ i : Nat, 3 ≤ i → ∃ l, pairs i = (2, 1) :: (3, 2) :: (4, 1) :: l
  | 0, h => by omega
  | 1, h => by omega
  | 2, h => by omega
  | 3, _ => ⟨[(4, 3)], by decide⟩
  | i + 4, _ => by
    obtain ⟨l, e⟩ := pairs_three (i + 3) (by omega)
    exact ⟨l ++ inner ((i + 3 : Nat) + 2) (i + 3 + 1), by rw [pairs, e]; rfl⟩
theorem behind_inj {r u : PRow} (hr : Pos r) (hu : Pos u) (ar : Adj r) (au : Adj u) (e : behind r = behind u) : r = u := by
  have h : ∀ (v w : List Int), Steps v → Steps w → walk v = walk w → v = w := by
    intro v
    refine snoc_ind (P := fun v => ∀ w, Steps v → Steps w → walk v = walk w → v = w) ?_ ?_ v
    · intro w _ hw e
      rcases List.eq_nil_or_concat w with z | ⟨w', s, z⟩
      · exact z.symm
      · subst z
        rw [List.concat_eq_append] at hw e
        have h2 := steps_app.mp hw
        rw [walk_snoc] at e
        exact absurd e.symm (st_root (h2.2 s (by simp)) (walk_good h2.1))
    · intro v s ih w hv hw e
      have hv2 := steps_app.mp hv
      rcases List.eq_nil_or_concat w with z | ⟨w', t, z⟩
      · subst z
        rw [walk_snoc] at e
        exact absurd e (st_root (hv2.2 s (by simp)) (walk_good hv2.1))
      · subst z
        rw [List.concat_eq_append] at hw e ⊢
        have hw2 := steps_app.mp hw
        rw [walk_snoc, walk_snoc] at e
        obtain ⟨e1, e2⟩ := st_inj (hv2.2 s (by simp)) (hw2.2 t (by simp)) (walk_good hv2.1) (walk_good hw2.1) e
        rw [e1, ih w' hv2.1 hw2.1 e2]
  rw [behind_walk r hr, behind_walk u hu] at e
  exact ex_inj hr hu ar au (h _ _ (ex_steps hr) (ex_steps hu) e)
end Sq


/-! own rules, small words -/
namespace SqP
open PySem PySem.Spec PyProof.Rows L2 Sq
theorem Same.tup {K : PySem.W.Frag} {H H' : Hp} {a : Addr} {xs : List V} (e : Same H H') (h : SqT K H a xs) : SqT K H' a xs := by
  rcases h with (h | ⟨o, h⟩) | h
  · exact .inl (.inl (e _ _ h))
  · exact .inl (.inr ⟨o, e _ _ h⟩)
  · exact .inr h
theorem same_upd {H : Hp} {p : Addr} {o : HO} (h : H p = none) : Same H (upd H p o) := fun b x e => by
  rw [upd_ne (ne_of_none e h)]
  exact e
/-- a store to what is new leaves all else -/
theorem same_new {H H' : Hp} {p : Addr} {o : HO} (h : H p = none) (s : Same H H') : Same H (upd H' p o) := fun b x e => by
  rw [upd_ne (ne_of_none e h)]
  exact s _ _ e
theorem new_tup {K : PySem.W.Frag} {H : Hp} {xs : List V} {Q : V → Hp → Prop} (h : ∀ H1 p, Same H H1 → SqT K H1 p xs → Q (.ref p) H1) : ∀ p, H p = none → Q (.ref p) (upd H p (.tup xs)) := fun p hp => h _ p (same_upd hp) (SqT.of upd_same)
theorem new_lst {H : Hp} {xs : List V} {Q : V → Hp → Prop} (h : ∀ H1 p, Same H H1 → H p = none → H1 p = some (.lst xs) → Q (.ref p) H1) : ∀ p, H p = none → Q (.ref p) (upd H p (.lst xs)) := fun p hp => h _ p (same_upd hp) hp upd_same
/-- a def of the top as it stands; a def that keeps its promise -/
def Is (K : PySem.W.Frag) (mg : Str → Option Value) (x : Str) (st : Stmt) (ps : List Str) : Prop := ∃ (f : Addr) (fd : FuncData), Fun K x x st f fd ∧ Binds K fd ps [] ∧ mg x = some (.ref f)
def Has (P : Program) (w : World) (K : PySem.W.Frag) (mg : Str → Option Value) (base : Heap) (k : Nat) (x : Str) (ps : List Str) (sp : Sp) : Prop := ∃ (f : Addr) (fd : FuncData), FnOk P w K mg base CX0 k f fd ps sp ∧ PySem.W.keepIn K (.ref f) = true ∧ Binds K fd ps [] ∧ mg x = some (.ref f)
theorem bd_mul {i j : Int} {k l : Nat} (h : Bd k i) (h2 : Bd l j) (e : k + l ≤ 134217728) : CMulX i j := mulx_ok h h2 e
theorem len2 : 2 ≤ sizeLine := by decide
theorem len3 : 3 ≤ sizeLine := by decide
theorem if_t {c : Bool} {A B : Prop} (hc : c = true) (h : A) : if c = true then A else B := by
  rw [if_pos hc]
  exact h
theorem if_f {c : Bool} {A B : Prop} (hc : c = false) (h : B) : if c = true then A else B := by
  rw [hc, if_neg Bool.false_ne_true]
  exact h
theorem if_b {c : Bool} {A B : Prop} (h1 : c = true → A) (h2 : c = false → B) : if c = true then A else B := by
  cases c with
  | true => exact if_t rfl (h1 rfl)
  | false => exact if_f rfl (h2 rfl)
theorem tyx_tup {K : PySem.W.Frag} {H : Hp} {a : Addr} {xs : List V} (h : SqT K H a xs) : TyX K H (.ref a) (.type "tuple") := by
  rcases h with (h | ⟨o, h⟩) | ⟨o, its, n, h1, h2, _⟩
  · exact .base (.tup h)
  · exact .fTuple h
  · exact .kTuple h1 h2
theorem tyx_lst {K : PySem.W.Frag} {H : Hp} {a : Addr} {xs : List V} (h : SqL K H a xs) : TyX K H (.ref a) (.type "list") := by
  rcases h with (h | ⟨o, h⟩) | ⟨o, its, n, h1, h2, _⟩
  · exact .base (.lst h)
  · exact .base (.frz h)
  · exact .kList h1 h2
theorem kb_int_int : kitB "int" "int" = some true := by decide +kernel
theorem kb_int_bool : kitB "int" "bool" = some false := by decide +kernel
theorem kb_tup_tup : kitB "tuple" "tuple" = some true := by decide +kernel
theorem kb_lst_lst : kitB "list" "list" = some true := by decide +kernel
section
variable {X : Cx}
/-- // by any positive number -/
theorem op_fdivP {l : List Env} (hN : X.base.NoSeer) (ht : X.prog.given.tree = none) (hst : X.stack = X.env :: l) (hg : X.env.scope.isGenerator = false) (hco : X.env.scope.isCoroutine = false) (hd : X.A.depth + 100 < recursionLimit) :
    OpR X (binaryOp .FloorDiv) (rI (fun _ j => 0 < j) fun i j => .int (i / j)) := by
  intro pins s σ H x y v u Q I rx ry h
  obtain ⟨i, j, rfl, rfl, hc, q⟩ := h
  obtain ⟨t, rfl⟩ := rx
  obtain ⟨t', rfl⟩ := ry
  have hj : (0 : Int) < j := hc
  refine floordiv_int (by omega) ?_ (.inr (PySem.PylongRoom.of I.nolimit hd (PySem.SeerAt.of (hN.keeps I.bk) ht (by rw [I.ok.frames, hst]) hg hco I.ok.blt I.ok.glob)))
  rw [Int.fdiv_eq_ediv_of_nonneg i (by omega)]
  exact ⟨.int _, H, I.tok _, ⟨_, rfl⟩, q⟩
end
section
variable {X : Cx} {K : PySem.W.Frag}
/-- rules within a comprehension, the written part by its name -/
theorem ix_listK (e : X.K = K) : IxR X (rIxL K) := by
  subst e
  exact ix_list
theorem ix_tupK (e : X.K = K) : IxR X (rIxT K) := by
  subst e
  exact ix_tup
theorem op_eqDK (e : X.K = K) (hu : X.A.units + 64 < cLine) : OpR X (compareOp .Eq) (rEqD K) := by
  subst e
  exact op_eqD hu
end
/-! ### comprehensions that keep every item -/
theorem set_twice {α : Type} (l : List α) (i : Nat) (a b : α) : (l.set i a).set i b = l.set i b := by rw [List.set_set]
section
variable {K : PySem.W.Frag} {xs ys : List V} {j : Nat} {te : TE} {σ : L2.St} {H : Hp} {D : Addr} {Qd : Hp → Prop}
/-- what a turn of such a comprehension asks: the item x at a heap that holds what H holds, behind it the value y -/
def LcTurn (te : TE) (σ : L2.St) (j : Nat) (H : Hp) (x y : V) : Prop := ∀ H1, Same H H1 → ∀ R : V → Hp → Prop, (∀ H2, Same H1 H2 → R y H2) → te ((σ.set j none).set j (some x)) H1 R
theorem lc_turn {i : Nat} {x y : V} {H1 : Hp} (hD : H D = none) (h : LcTurn te σ j H x y) (hy : ys[i]? = some y) (hz : ys.length ≤ 16000000) (s1 : Same H H1) (d1 : H1 D = some (.lst (ys.take i))) :
    gName j x (wipe σ [j]) H1 fun σ2 H2 => wipe σ2 [j] = wipe σ [j] ∧ tYes σ2 H2 fun b H3 => if b = true then te σ2 H3 fun y H4 => ∃ acc, H4 D = some (.lst acc) ∧ acc.length < sizeLine ∧ (Same H (upd H4 D (.lst (acc ++ [y]))) ∧ (upd H4 D (.lst (acc ++ [y]))) D = some (.lst (ys.take (i + 1)))) else (Same H H3 ∧ H3 D = some (.lst (ys.take (i + 1)))) := by
  refine ⟨by show ((σ.set j none).set j (some x)).set j none = σ.set j none; rw [List.set_set, List.set_set], ?_⟩
  show if true = true then te ((σ.set j none).set j (some x)) H1 (fun y H4 => ∃ acc, H4 D = some (.lst acc) ∧ acc.length < sizeLine ∧ (Same H (upd H4 D (.lst (acc ++ [y]))) ∧ (upd H4 D (.lst (acc ++ [y]))) D = some (.lst (ys.take (i + 1))))) else (Same H H1 ∧ H1 D = some (.lst (ys.take (i + 1))))
  rw [if_pos rfl]
  refine h H1 s1 _ fun H2 s2 => ⟨_, s2 _ _ d1, ?_, same_new hD (fun b o e => s2 _ _ (s1 _ _ e)), ?_⟩
  · have := List.length_take_le' i ys
    rw [sizeLine_eq]
    omega
  · rw [upd_same, List.take_add_one, hy]
    rfl
theorem lc_over_tup {a : Addr} (hS : SqT K H a xs) (hD : H D = none) (hl : ys.length = xs.length) (hz : xs.length ≤ 16000000) (turn : ∀ (i : Nat) x y, xs[i]? = some x → ys[i]? = some y → LcTurn te σ j H x y) (done : ∀ H', Same H H' → H' D = some (.lst ys) → Qd H') :
    ∃ W : Nat → Nat → Hp → Prop, (∃ m, W 0 m (upd H D (.lst []))) ∧ ∀ i m H, W i m H →
      ((Itt K a).stop i H ∧ Qd H) ∨ ((Itt K a).go i H ∧ ∃ Nx : Hp → Prop, (∀ H', Nx H' → ∃ m', m' < m ∧ W (i + 1) m' H') ∧ ∀ x H', (Itt K a).yld i H x H' → gName j x (wipe σ [j]) H' fun σ2 H2 => wipe σ2 [j] = wipe σ [j] ∧ tYes σ2 H2 fun b H3 =>
        if b = true then te σ2 H3 fun y H4 => ∃ acc, H4 D = some (.lst acc) ∧ acc.length < sizeLine ∧ Nx (upd H4 D (.lst (acc ++ [y]))) else Nx H3) := by
  refine lc_tup (xs := xs) (fun i H' => Same H H' ∧ H' D = some (.lst (ys.take i))) ⟨same_upd hD, upd_same⟩ (fun i H' _ h => Same.tup h.1 hS) (fun i x H' hx h => ?_) (fun H' h => done H' h.1 (by rw [← hl] at h; rw [h.2, List.take_length]))
  have hi : i < ys.length := by rw [hl]; exact (List.getElem?_eq_some_iff.mp hx).1
  exact lc_turn hD (turn i x _ hx (List.getElem?_eq_getElem hi)) (List.getElem?_eq_getElem hi) (by omega) h.1 h.2
theorem lc_over_lst {a : Addr} (hS : SqL K H a xs) (hD : H D = none) (hl : ys.length = xs.length) (hz : xs.length ≤ 16000000) (turn : ∀ (i : Nat) x y, xs[i]? = some x → ys[i]? = some y → LcTurn te σ j H x y) (done : ∀ H', Same H H' → H' D = some (.lst ys) → Qd H') :
    ∃ W : Nat → Nat → Hp → Prop, (∃ m, W 0 m (upd H D (.lst []))) ∧ ∀ i m H, W i m H →
      ((Itl K a).stop i H ∧ Qd H) ∨ ((Itl K a).go i H ∧ ∃ Nx : Hp → Prop, (∀ H', Nx H' → ∃ m', m' < m ∧ W (i + 1) m' H') ∧ ∀ x H', (Itl K a).yld i H x H' → gName j x (wipe σ [j]) H' fun σ2 H2 => wipe σ2 [j] = wipe σ [j] ∧ tYes σ2 H2 fun b H3 =>
        if b = true then te σ2 H3 fun y H4 => ∃ acc, H4 D = some (.lst acc) ∧ acc.length < sizeLine ∧ Nx (upd H4 D (.lst (acc ++ [y]))) else Nx H3) := by
  refine lc_list (xs := xs) (fun i H' => Same H H' ∧ H' D = some (.lst (ys.take i))) ⟨same_upd hD, upd_same⟩ (fun i H' _ h => Same.seq h.1 hS) (fun i x H' hx h => ?_) (fun H' h => done H' h.1 (by rw [← hl] at h; rw [h.2, List.take_length]))
  have hi : i < ys.length := by rw [hl]; exact (List.getElem?_eq_some_iff.mp hx).1
  exact lc_turn hD (turn i x _ hx (List.getElem?_eq_getElem hi)) (List.getElem?_eq_getElem hi) (by omega) h.1 h.2
theorem lc_over_range {lo : Int} {n : Nat} (hD : H D = none) (hl : ys.length = n) (hz : n ≤ 16000000) (turn : ∀ (i : Nat) y, i < n → ys[i]? = some y → LcTurn te σ j H (.int (lo + i)) y) (done : ∀ H', Same H H' → H' D = some (.lst ys) → Qd H') :
    ∃ W : Nat → Nat → Hp → Prop, (∃ m, W 0 m (upd H D (.lst []))) ∧ ∀ i m H, W i m H →
      ((Itr lo n).stop i H ∧ Qd H) ∨ ((Itr lo n).go i H ∧ ∃ Nx : Hp → Prop, (∀ H', Nx H' → ∃ m', m' < m ∧ W (i + 1) m' H') ∧ ∀ x H', (Itr lo n).yld i H x H' → gName j x (wipe σ [j]) H' fun σ2 H2 => wipe σ2 [j] = wipe σ [j] ∧ tYes σ2 H2 fun b H3 =>
        if b = true then te σ2 H3 fun y H4 => ∃ acc, H4 D = some (.lst acc) ∧ acc.length < sizeLine ∧ Nx (upd H4 D (.lst (acc ++ [y]))) else Nx H3) := by
  refine lc_range (n := n) (fun i H' => Same H H' ∧ H' D = some (.lst (ys.take i))) ⟨same_upd hD, upd_same⟩ (fun i H' hx h => ?_) (fun H' h => done H' h.1 (by rw [← hl] at h; rw [h.2, List.take_length]))
  have hi : i < ys.length := by omega
  exact lc_turn hD (turn i _ hx (List.getElem?_eq_getElem hi)) (List.getElem?_eq_getElem hi) (by omega) h.1 h.2
end
/-- a list that changes is no tuple: tuples stand -/
theorem tup_keep {K : PySem.W.Frag} {H : Hp} {fo t : Addr} {xs ys zs : List V} (hfo : H fo = some (.lst xs)) (h : SqT K H t zs) : SqT K (upd H fo (.lst ys)) t zs := by
  rcases h with (h | ⟨o, h⟩) | h
  · exact .inl (.inl (by rw [upd_ne (fun e => by rw [e, hfo] at h; cases h)]; exact h))
  · exact .inl (.inr ⟨o, by rw [upd_ne (fun e => by rw [e, hfo] at h; cases h)]; exact h⟩)
  · exact .inr h
/-- for i, x in enumerate(a list that the body leaves as it is) -/
theorem for_enum {K : PySem.W.Frag} {a : Addr} {xs : List V} {g : TG} {tb : TS} {D : Ends} {σ : L2.St} {H : Hp} (Pv : Nat → L2.St → Hp → Prop) (h0 : Pv 0 σ H) (hl : ∀ i σ H, Pv i σ H → SqL K H a xs)
    (hs : ∀ (i : Nat) (x : V) (T : Addr) (σ : L2.St) (H : Hp), xs[i]? = some x → Pv i σ H → H T = none → g (.ref T) σ (upd H T (.tup [.int (i : Nat), x])) fun σ2 H2 => tb { D with nx := Pv (i + 1), ct := Pv (i + 1), bk := D.nx } σ2 H2) (hd : ∀ σ H, Pv xs.length σ H → D.nx σ H) :
    ∃ W : Nat → Nat → L2.St → Hp → Prop, (∃ m, W 0 m σ H) ∧ ∀ i m σ H, W i m σ H →
      ((Ite K a).stop i H ∧ D.nx σ H) ∨ ((Ite K a).go i H ∧ ∃ N : L2.St → Hp → Prop, (∀ σ' H', N σ' H' → ∃ m', m' < m ∧ W (i + 1) m' σ' H') ∧ ∀ v H', (Ite K a).yld i H v H' → g v σ H' fun σ2 H2 => tb { D with nx := N, ct := N, bk := D.nx } σ2 H2) := by
  refine ⟨fun i m σ H => m + i = xs.length ∧ Pv i σ H, ⟨xs.length, rfl, h0⟩, fun i m σ H ⟨e, p⟩ => ?_⟩
  have q := hl i σ H p
  by_cases c : i < xs.length
  · refine .inr ⟨⟨xs, xs[i], q, List.getElem?_eq_getElem c⟩, Pv (i + 1), fun σ' H' p' => ⟨m - 1, by omega, by omega, p'⟩, fun v H' y => ?_⟩
    obtain ⟨T, x, e1, n, e2, y⟩ := y
    subst e1
    subst e2
    exact hs i x T σ H (y xs q) p n
  · have e' : i = xs.length := by omega
    subst e'
    exact .inl ⟨⟨xs, q, Nat.le_refl _⟩, hd σ H p⟩
/-- a if t else b, where nothing is laid -/
theorem tif_mk {tt : TT} {ta tb : TE} {σ : L2.St} {H : Hp} {Q : VK} {c : Bool} {v : V} (h1 : ∀ R : Bool → Hp → Prop, R c H → tt σ H R) (h2 : c = true → ∀ R : VK, R v H → ta σ H R) (h3 : c = false → ∀ R : VK, R v H → tb σ H R) (q : Q v H) : tIf tt ta tb σ H Q :=
  h1 _ (if_b (fun e => h2 e _ q) (fun e => h3 e _ q))
/-- a part of a list of ints, sixteen from b on -/
theorem cut_ints (ns : List Int) (lo hi : Option Int) : ∃ cs : List Int, cutV (ns.map V.int) lo hi = cs.map V.int ∧ (∀ c ∈ cs, c ∈ ns) := by
  refine ⟨(ns.drop (HT.sIx ns.length 0 lo)).take (HT.sIx ns.length ns.length hi - HT.sIx ns.length 0 lo), ?_, fun c hc => List.mem_of_mem_drop (List.mem_of_mem_take hc)⟩
  unfold cutV
  rw [List.length_map, List.map_take, List.map_drop]
theorem cut_len (xs : List V) (a b : Nat) (h : a ≤ b) : (cutV xs (some (a : Int)) (some (b : Int))).length ≤ b - a := by
  unfold cutV
  rw [HT.sIx_nat, HT.sIx_nat, List.length_take]
  omega
/-- a if t else b, where something is laid -/
theorem tif_hp {tt : TT} {ta tb : TE} {σ : L2.St} {H : Hp} {Q : VK} {c : Bool} (R' : V → Hp → Prop) (h1 : ∀ R : Bool → Hp → Prop, R c H → tt σ H R) (h2 : c = true → ∀ R : VK, (∀ v H1, R' v H1 → R v H1) → ta σ H R) (h3 : c = false → ∀ R : VK, (∀ v H1, R' v H1 → R v H1) → tb σ H R) (q : ∀ v H1, R' v H1 → Q v H1) : tIf tt ta tb σ H Q :=
  h1 _ (if_b (fun e => h2 e _ q) (fun e => h3 e _ q))
/-- cuts -/
theorem cut_to (xs : List V) (n : Nat) : cutV xs none (some (n : Int)) = xs.take n := by
  unfold cutV
  rw [HT.sIx_nat, HT.sIx_none, List.drop_zero, Nat.sub_zero]
  rcases Nat.le_total n xs.length with h | h
  · rw [Nat.min_eq_left h]
  · rw [Nat.min_eq_right h, List.take_of_length_le (Nat.le_refl _), List.take_of_length_le h]
theorem cut_last (xs : List V) : cutV xs none (some (-1)) = xs.dropLast := by
  unfold cutV
  rw [HT.sIx_none, List.drop_zero, Nat.sub_zero, List.dropLast_eq_take]
  congr 1
  show (if (-1 : Int) < 0 then ((-1 : Int) + (xs.length : Int)).toNat else min (-1 : Int).toNat xs.length) = xs.length - 1
  rw [if_pos (by decide)]
  omega
theorem rgc_up {l c : Int} (hl : 0 ≤ l) (hl2 : l ≤ 1000000) (hc : 0 < c) (hc2 : c ≤ 1000000) : ∃ n : Nat, RgC 0 l c n ∧ ∀ i : Nat, i < n → (i : Int) * c < l := by
  have hsz : Builtin.Range.rangeSize 0 l c = if 0 < l then (l - 0 - 1) / c + 1 else 0 := by
    unfold Builtin.Range.rangeSize
    rw [if_pos (show c > 0 from hc)]
  have hq : 0 < l → 0 ≤ (l - 0 - 1) / c ∧ (l - 0 - 1) / c ≤ l - 0 - 1 := fun h => ⟨Int.ediv_nonneg (by omega) (by omega), Int.ediv_le_self _ (by omega)⟩
  have e := Int.mul_ediv_add_emod (l - 0 - 1) c
  have e2 := Int.emod_nonneg (l - 0 - 1) (show c ≠ 0 by omega)
  generalize (l - 0 - 1) / c = q at *
  refine ⟨(if 0 < l then q + 1 else 0).toNat, ⟨by omega, by omega, ?_, ?_⟩, fun i hi => ?_⟩
  · unfold Builtin.Range.small
    rw [hsz]
    simp only [Builtin.Range.rangeFitsLong, Bool.and_eq_true, Bool.or_eq_true, decide_eq_true_eq, beq_iff_eq, show c > 0 from hc, if_true]
    have e3 : c * q ≤ l := by
      rcases Int.lt_or_le 0 l with h | h
      · omega
      · have : c * q + (l - 0 - 1) % c = l - 0 - 1 := e
        omega
    have e4 : q * c = c * q := Int.mul_comm _ _
    split
    · have := hq (by assumption)
      refine ⟨?_, ?_⟩ <;> first | omega | (refine ⟨?_, ?_⟩ <;> first | omega | grind)
    · refine ⟨?_, ?_⟩ <;> first | omega | (refine ⟨?_, ?_⟩ <;> first | omega | grind)
  · rw [hsz]
    split
    · have := hq (by assumption)
      omega
    · rfl
  · have hi2 : 0 < l ∧ (i : Int) ≤ q := by
      split at hi <;> omega
    have := Int.mul_le_mul_of_nonneg_left hi2.2 (show 0 ≤ c by omega)
    have e3 : c * (i : Int) = i * c := Int.mul_comm _ _
    omega
end SqP

namespace SqP
open PySem PySem.Spec PyProof.Rows L2 Sq
/-! ### xs.count(y) of nested data; lists of ints as data -/
theorem room65 {k : Nat} {A : Around} (r : Room k A) : A.units + 65 < cLine := by
  have := r.un
  omega
def rCountD (K : PySem.W.Frag) : V → List V → Hp → VK → Prop := fun x vs H Q => ∃ (l : Addr) (y : V) (e : PyData) (es : List PyData), x = V.ref l ∧ vs = [y] ∧ Dp K H (V.ref l) (.list es) ∧ Dp K H y e ∧ SeqAt.shaped (.list es) = true ∧ SeqAt.shaped e = true ∧ Q (.int ((es.countP fun z => PyData.eqv z e : Nat) : Int)) H
theorem mt_countD {X : Cx} (hu : X.A.units + 65 < cLine) : MtR X "list.count" (rCountD X.K) := by
  intro pins st σ H x vs u ws Q I rx rvs h
  obtain ⟨l, y, e, es, rfl, rfl, hL, hY, sL, sE, q⟩ := h
  cases rx
  obtain ⟨uy, rfl, ry⟩ := Vals.one rvs
  obtain ⟨ys, readY⟩ := Dp.reads I e y uy hY ry
  have lay : PyData.canLayAll0 es = true := SeqAt.canLay_of_shaped sL
  cases hL with
  | lst hS hA =>
    obtain ⟨items, rv, ⟨⟨cls, dd, data, sls⟩, n, ho, hc, hn, hd⟩, hlen⟩ := I.list hS
    dsimp only at hc hd
    subst hc hd
    obtain ⟨zs, readL⟩ := Dp.readsAll I es _ items hA rv
    have hmap : items.map (SeqAt.readOf st.heap) = es := SeqAt.readsAll_map es items zs lay readL
    refine call_meets PySem.F.slot_list_count ⟨_, ho, rfl⟩ PySem.F.entry_list_count (PySem.F.args_list_count_2 _ _)
      (SeqAt.list_countAt l items.toArray n dd sls uy fun v => PyData.eqv (SeqAt.readOf st.heap v) e) ⟨ho, SeqAt.items_eqAt (vs := items.toArray) (show ReadsAll st.heap items.toArray.toList es zs from readL) readY lay (SeqAt.canLay_of_shaped sE) (room_in_shaped sE hu), ?_⟩
    have ec : items.toArray.toList.countP (fun v => PyData.eqv (SeqAt.readOf st.heap v) e) = es.countP fun z => PyData.eqv z e := by
      conv => rhs; rw [← hmap, List.countP_map]
      rfl
    refine ⟨.int ((es.countP fun z => PyData.eqv z e : Nat) : Int), H, I.tok (st.toks + 1), ⟨st.toks, ?_⟩, q⟩
    show Value.int ((items.toArray.toList.countP (fun v => PyData.eqv (SeqAt.readOf st.heap v) e) : Nat) : Int) st.toks = Value.int _ st.toks
    rw [ec]
theorem ints_lay : ∀ ns : List Int, PyData.canLayAll0 (ns.map PyData.int) = true
  | [] => by simp [PyData.canLayAll0]
  | n :: ns => by simp [PyData.canLayAll0, PyData.canLay0, ints_lay ns]
theorem ints_depth : ∀ ns : List Int, PyData.depthAll (ns.map PyData.int) ≤ 1
  | [] => by simp [PyData.depthAll]
  | n :: ns => by
    have h1 := ints_depth ns
    simp only [List.map_cons, PyData.depthAll, PyData.depth]
    omega
theorem ints_shaped (ns : List Int) : SeqAt.shaped (.list (ns.map PyData.int)) = true := by
  have h1 := ints_depth ns
  have h2 : PyData.depth (.list (ns.map PyData.int)) ≤ 64 := by
    simp only [PyData.depth]
    omega
  show (PyData.canLay0 (.list (ns.map PyData.int)) && decide (PyData.depth (.list (ns.map PyData.int)) ≤ 64)) = true
  rw [Bool.and_eq_true]
  exact ⟨by simp only [PyData.canLay0]; exact ints_lay ns, decide_eq_true h2⟩
theorem ints_dpa {K : PySem.W.Frag} {H : Hp} : ∀ ns : List Int, DpAll K H (ns.map V.int) (ns.map PyData.int)
  | [] => .nil
  | n :: ns => .cons (.int n) (ints_dpa ns)
theorem ints_dp {K : PySem.W.Frag} {H : Hp} {a : Addr} {ns : List Int} (h : SqL K H a (ns.map V.int)) : Dp K H (.ref a) (.list (ns.map PyData.int)) := .lst h (ints_dpa ns)
end SqP

namespace SqP
open PySem PySem.Spec PyProof.Rows L2 Sq
/-! ### defs that raise -/
def HasX (P : Program) (w : World) (K : PySem.W.Frag) (mg : Str → Option Value) (base : Heap) (k : Nat) (x : Str) (ps : List Str) (sp : Sp) : Prop :=
  ∃ (f : Addr) (fd : FuncData), FnOk P w K mg base (L2.CX P w) k f fd ps sp ∧ PySem.W.keepIn K (.ref f) = true ∧ Binds K fd ps [] ∧ mg x = some (.ref f)
/-- one of several defs that raise, by its address -/
structure HeldX (P : Program) (w : World) (K : PySem.W.Frag) (mg : Str → Option Value) (base : Heap) (k : Nat) (f : Addr) (sp : Sp) : Prop where
  ex : ∃ (fd : FuncData) (ps : List Str), FnOk P w K mg base (L2.CX P w) k f fd ps sp ∧ PySem.W.keepIn K (.ref f) = true ∧ Binds K fd ps []
def tAskS (i : Nat) (S : Addr → Option Sp) (E : L2.St → XK) (t : TA) : TE := fun σ H Q => ∃ f sp, σ[i]? = some (some (.ref f)) ∧ S f = some sp ∧ t σ H fun vs H1 => sp vs H1 Q (E σ)
section
variable {X : Cx} {k i : Nat} {E : L2.St → XK} {x : Str} {p pos : Pos} {e : Expr} {es : List Expr} {t : TA} {S : Addr → Option Sp}
theorem pe_askS (A : ∀ f sp, S f = some sp → HeldX X.prog X.w X.K X.mg X.base k f sp) (room : Room k X.A) (hN : X.N[i]? = some x) (hv : Vis X.env.scope x) (hx : ∀ σ, PassesAt (L2.CX X.prog X.w) X σ (E σ)) (args : PA X (e :: es) t)
    (d1 : (x == ("__debug__" : Str)) = false := by decide) (d2 : (x == ("__classdict__" : Str)) = false := by decide)
    (d3 : starEach (e :: es) X.env = (false, eval e X.env) :: starEach es X.env := by rfl) (d4 : (backTo pos (starEach es X.env)).any (·.1) = false := by rfl) : PE X (.Call (.Name x p) (e :: es) [] pos) (tAskS i S E t) := by
  constructor
  intro pn st ρ H Q I ⟨f, sp, hs, hS, ht⟩
  obtain ⟨fd, ps, G, kp, b⟩ := (A f sp hS).ex
  have name := (pe_var (pos := p) hN hv d1 d2).run pn st ρ H (fun v H1 => v = .ref f ∧ H1 = H) I ⟨.ref f, hs, rfl, rfl⟩
  refine wpAny_Call_Name_kw (thn name ?_)
  rintro u st1 ⟨v, H1, J, rv, rfl, rfl⟩
  cases rv
  refine PySem.W.callWith_K (h₀ := X.base) J.ok.mod.kin kp (thn (args.run pos pn st1 ρ H1 _ J ht) ?_) d3 d4
  rintro us st2 ⟨zs, H2, J2, rz, q2⟩
  exact ⟨J2.kIn, run_fnS G room b (hx ρ) J2 rz q2⟩
end
/-! ### a def to which the exception in hand is handed -/
/-- a promise of a def, told of the exception's address and class too -/
abbrev SpE := Addr → Addr → Sp
structure FnE (P : Program) (w : World) (K : PySem.W.Frag) (mg : Str → Option Value) (base : Heap) (k : Nat) (f : Addr) (fd : FuncData) (ps : List Str) (sp : SpE) : Prop where
  len : ∀ a D vs H Q, sp a D vs H Q E0 → vs.length = ps.length
  run : ∀ (A : Around) (outer : List Env) (s : Shared) (H : Hp) (us : List Value) (vs : List V) (Q : VK) (p : Addr × Obj) (D : Addr), L2H.RoomH k A → Zc (.ref D) none p.2 → (∃ fs, p.2.data = .fields fs) → L2H.PinOk outer H s p →
    Env0 P w K mg base A outer s H → BindsTo s fd ⟨us, []⟩ (ps.zip us) → Vals vs us → sp p.1 D vs H Q E0 → codeAny (model P w) A (.call (.ref f) ⟨us, []⟩) (CR CX0 outer P w H s Q E0) s
theorem fnE_of {P : Program} {w : World} {K : PySem.W.Frag} {mg : Str → Option Value} {base : Heap} {k : Nat} {x : Str} {st : Stmt} {f : Addr} {fd : FuncData} {N ps : List Str} {sp : SpE} (F : Fun K x x st f fd) (S : FnScope N ps (defScope st)) (len : ∀ a D vs H Q, sp a D vs H Q E0 → vs.length = ps.length)
    (body : ∀ (cdv : Value) (A : Around) (outer : List Env) (s : Shared) (H : Hp) (vs : List V) (Q : VK) (p : Addr × Obj) (D : Addr), Zc (.ref D) none p.2 → (∃ fs, p.2.data = .fields fs) → sp p.1 D vs H Q E0 →
      ∃ t, PSs (L2H.cxH CX0 P w K mg base N x (defScope st) f cdv A outer s H E0 p) (defBody st) t ∧ t { nx := fun _ H' => Q .non H', rt := Q } (L2.start N vs) H) : FnE P w K mg base (k + 1) f fd ps sp := by
  obtain ⟨oc, od, kV, doc, pm, an, cdv, ct, osl, rfl, lk, code⟩ := F.ex
  refine ⟨len, ?_⟩
  intro A outer s H us vs Q p D room zc flds pin e0 bind rv hs
  have two : vs.length = ps.length := len _ _ _ _ _ hs
  have low : ∀ b o, base.get? b = some o → s.heap.get? b = some o := fun b o e => (e0.bs b o e).1
  have inK := e0.mod.kin.keeps low
  have places : ∀ y ∈ ps.zip us, (defScope st).names.lookup y.1 = some .local ∨ ((defScope st).names.lookup y.1 = some .cell ∧ ((cellsFrom (s.heap.objs.size + 1) (defScope st).names []).lookup y.1).isSome = true) := by
    rintro ⟨y, u⟩ hy
    have := S.par y (List.of_mem_zip hy).1
    exact this.imp id fun c => ⟨c, PySem.W.cellsFrom_some _ _ _ (.inl c)⟩
  refine codeAny_call_function room.depth (inK _ _ lk) rfl S.co S.gen rfl (PySem.W.codeRec_of inK code) (bind _ _ _ _ (wpAny_newFunctionEnv_cells S.kind places ?_))
  rintro env rfl s1 laid
  refine ⟨(e0.mod.nolimit.keeps low).keeps laid.toInCall.keep, codeAny_func ?_⟩
  obtain ⟨t, ht, wish⟩ := body cdv A outer s H vs Q p D zc flds hs
  have start := L2H.inv_startH (CX := CX0) (E := E0) S pin e0 two rv laid
  refine wpAny_mono (ht.run [] s1 _ H _ start wish) ?_ fun _ _ z => z
  rintro fl s2 out
  have made : ∀ {σ2 : L2.St} {H2 : Hp} {v : V} {u : Value}, Inv (L2H.cxH CX0 P w K mg base N x (defScope st) f cdv A outer s H E0 p) [] σ2 H2 s2 → RelV v u → Q v H2 → CE outer P w H s Q u s2 := fun {_ H2 v _} J r q => ⟨v, H2, J.os, J.bare, J.base, J.hok, r, q⟩
  cases fl with
  | next =>
    obtain ⟨σ2, H2, J, q⟩ := out
    exact made (v := .non) (u := Value.none) J rfl q
  | ret u =>
    obtain ⟨v, σ2, H2, J, r, q⟩ := out
    exact made J r q
  | brk => exact out.choose_spec.choose_spec.2.elim
  | cont => exact out.choose_spec.choose_spec.2.elim
section
variable {X : Cx} {k : Nat} {f : Addr} {fd : FuncData} {ps : List Str} {sp : SpE} {x : Str} {q pos : Pos} {e : Expr} {es : List Expr} {t : TA} {a D : Addr} {oe : Obj}
theorem pe_callE (G : FnE X.prog X.w X.K X.mg X.base k f fd ps sp) (room : L2H.RoomH k X.A) (zc : Zc (.ref D) none oe) (flds : ∃ fs, oe.data = .fields fs) (hp : (a, oe) ∈ X.pn) (hg : Gl X x) (hm : X.mg x = some (.ref f)) (kp : PySem.W.keepIn X.K (.ref f) = true) (b : Binds X.K fd ps [])
    (args : PA X (e :: es) t) (d1 : (x == ("__debug__" : Str)) = false := by decide) (d3 : starEach (e :: es) X.env = (false, eval e X.env) :: starEach es X.env := by rfl) (d4 : (backTo pos (starEach es X.env)).any (·.1) = false := by rfl) :
    PE X (.Call (.Name x q) (e :: es) [] pos) (fun σ H Q => t σ H fun vs H1 => sp a D vs H1 Q E0) := by
  constructor
  intro pn st ρ H Q I h
  refine wpAny_Call_Name_kw (ld_glob I hg hm ?_ d1)
  refine PySem.W.callWith_K (h₀ := X.base) I.ok.mod.kin kp (thn (args.run pos pn st ρ H _ I h) ?_) d3 d4
  rintro us st1 ⟨zs, H1, J, rz, q1⟩
  refine ⟨J.kIn, ?_⟩
  have two : us.length = ps.length := rz.length.symm.trans (G.len _ _ _ _ _ q1)
  have bind := b st1 us J.kIn (by rw [List.append_nil]; exact two)
  rw [List.append_nil] at bind
  obtain ⟨p1, p2, p3, p4, p5⟩ := J.pin (a, oe) (List.mem_append_left _ hp)
  have pin : L2H.PinOk X.stack H1 st1 (a, oe) := ⟨p1, p2, fun z => (List.mem_cons.mp (J.stkSub a z)).elim p3 p4, p5⟩
  refine wpAny_call (codeAny_mono (G.run X.A X.stack st1 H1 us zs Q (a, oe) D room zc flds pin J.env0 bind rz q1) ?_)
  intro r st2 out
  cases r with
  | error u => exact False.elim out
  | ok fl =>
    cases fl with
    | ret u => exact J.after out
    | next => exact out.elim
    | brk => exact out.elim
    | cont => exact out.elim
/-- isinstance of the exception in hand -/
theorem call_isK (hp : (a, oe) ∈ X.pn) (C : ExcC X.K D) (zc : Zc (.ref D) none oe) (flds : ∃ fs, oe.data = .fields fs) : CallR X (.builtin "isinstance") (rIsE X.K D a) := by
  rintro pn st ρ H zs us Q I rz ⟨c, cv, b, rfl, only, kit, q⟩
  cases rz with
  | cons r1 rest =>
    cases rest with
    | cons r2 rest =>
      cases rest
      cases r1
      cases only _ r2
      have at1 := (I.pin (a, oe) (List.mem_append_left _ hp)).1
      have J : PySem.W.InstAt st.heap a oe D none := by
        obtain ⟨fs, e2⟩ := flds
        obtain ⟨c1, c2, c3, c4⟩ := oe
        obtain ⟨e3, e4⟩ := zc
        dsimp only at e2 e3 e4
        subst e2 e3 e4
        exact ⟨at1, rfl, rfl, trivial⟩
      have K1 := PySem.W.handS_kitx_exc (x := a) (ox := oe) C.hg C.hk C.hs C.hd C.ha C.hn C.ht C.hm
      exact PySem.W.kia_one K1 I.kIn J kit (fun z => nomatch z) fun tk => ⟨.bl b, H, I.kept (t' := tk) fun _ _ z => z, rfl, q⟩
end
end SqP

namespace SqP
open PySem PySem.Spec PyProof.Rows L2 Sq
/-! ### displays of things: what is true of the value, the heap only grown -/
def Y (σ : L2.St) (te : TE) (φ : Hp → V → Prop) : Prop := ∀ (H : Hp) (Q : VK), (∀ v H', Same H H' → φ H' v → Q v H') → te σ H Q
def Ys (σ : L2.St) (ta : TA) (n : Nat) (φ : Hp → V → Prop) : Prop := ∀ (H : Hp) (Q : List V → Hp → Prop), (∀ vs H', Same H H' → vs.length = n → (∀ x ∈ vs, φ H' x) → Q vs H') → ta σ H Q
def Pv (σ : L2.St) (te : TE) (v : V) : Prop := ∀ (H : Hp) (Q : VK), Q v H → te σ H Q
def Pvs (σ : L2.St) (ta : TA) (vs : List V) : Prop := ∀ (H : Hp) (Q : List V → Hp → Prop), Q vs H → ta σ H Q
/-- what stays true while the heap grows -/
def Stays (φ : Hp → V → Prop) : Prop := ∀ (H H' : Hp) (v : V), Same H H' → φ H v → φ H' v
def LstOf (φ : Hp → V → Prop) (n : Nat) (H : Hp) (v : V) : Prop := ∃ (a : Addr) (xs : List V), v = .ref a ∧ H a = some (.lst xs) ∧ xs.length = n ∧ ∀ x ∈ xs, φ H x
def TupOf (φ : Hp → V → Prop) (n : Nat) (H : Hp) (v : V) : Prop := ∃ (a : Addr) (xs : List V), v = .ref a ∧ H a = some (.tup xs) ∧ xs.length = n ∧ ∀ x ∈ xs, φ H x
section
variable {σ : L2.St} {te tb : TE} {ta : TA} {v : V} {vs : List V} {n : Nat} {φ : Hp → V → Prop} {i j : Int} {g : Int → Int → V} {C : Int → Int → Prop} {u : Int → V}
theorem pv_c : Pv σ (tC v) v := fun _ _ q => q
theorem pv_v {m : Nat} (h : σ[m]? = some (some v)) : Pv σ (tVar m) v := fun _ _ q => ⟨v, h, q⟩
theorem pv_0 (a : Pv σ te (.int i)) (b : Pv σ tb (.int j)) : Pv σ (tOp (rI0 g) te tb) (g i j) := fun _ _ q => a _ _ (b _ _ ⟨i, j, rfl, rfl, q⟩)
theorem pv_i (a : Pv σ te (.int i)) (b : Pv σ tb (.int j)) (c : C i j) : Pv σ (tOp (rI C g) te tb) (g i j) := fun _ _ q => a _ _ (b _ _ ⟨i, j, rfl, rfl, c, q⟩)
theorem pv_u (a : Pv σ te (.int i)) : Pv σ (tUn (rU u) te) (u i) := fun _ _ q => a _ _ ⟨i, rfl, q⟩
theorem pvs_nil : Pvs σ tNil [] := fun _ _ q => q
theorem pvs_cons (h : Pv σ te v) (r : Pvs σ ta vs) : Pvs σ (tCons te ta) (v :: vs) := fun _ _ q => h _ _ (r _ _ q)
theorem y_p (h : Pv σ te v) (f : ∀ H, φ H v) : Y σ te φ := fun H _ q => h _ _ (q _ _ (Same.refl H) (f H))
theorem le_line {m : Nat} (h : m ≤ 16) : m ≤ sizeLine := by
  rw [sizeLine_eq]
  omega
theorem y_tup (h : Pvs σ ta vs) (l : vs.length ≤ 16) (f : ∀ H a, H a = some (.tup vs) → φ H (.ref a)) : Y σ (tTup ta) φ := fun H _ q => h _ _ ⟨le_line l, fun p np => q _ _ (same_upd np) (f _ p upd_same)⟩
theorem y_lst (h : Pvs σ ta vs) (l : vs.length ≤ 16) (f : ∀ H a, H a = some (.lst vs) → φ H (.ref a)) : Y σ (tLst ta) φ := fun H _ q => h _ _ ⟨le_line l, fun p np => q _ _ (same_upd np) (f _ p upd_same)⟩
theorem y_dct (f : ∀ H a, H a = some (.dK []) → φ H (.ref a)) : Y σ tDNewK φ := fun H _ q => fun p np => q _ _ (same_upd np) (f _ p upd_same)
theorem ys_nil : Ys σ tNil 0 φ := fun H _ q => q [] H (Same.refl H) rfl fun x hx => by cases hx
theorem ys_cons (m : Stays φ) (h : Y σ te φ) (r : Ys σ ta n φ) : Ys σ (tCons te ta) (n + 1) φ := fun H _ q => h _ _ fun x H1 s1 hx => r _ _ fun xs H2 s2 hl hxs => q (x :: xs) H2 (s1.trans s2) (congrArg (· + 1) hl) fun y hy => by
  rcases List.mem_cons.mp hy with rfl | hy
  · exact m _ _ _ s2 hx
  · exact hxs y hy
theorem y_lsts (m : Stays φ) (h : Ys σ ta n φ) (l : n ≤ 16) : Y σ (tLst ta) (LstOf φ n) := fun H _ q => h _ _ fun xs H1 s1 hl hx => ⟨by rw [hl]; exact le_line l, fun p np => q _ _ (s1.trans (same_upd np)) ⟨p, xs, rfl, upd_same, hl, fun x h => m _ _ _ (same_upd np) (hx x h)⟩⟩
theorem y_tups (m : Stays φ) (h : Ys σ ta n φ) (l : n ≤ 16) : Y σ (tTup ta) (TupOf φ n) := fun H _ q => h _ _ fun xs H1 s1 hl hx => ⟨by rw [hl]; exact le_line l, fun p np => q _ _ (s1.trans (same_upd np)) ⟨p, xs, rfl, upd_same, hl, fun x h => m _ _ _ (same_upd np) (hx x h)⟩⟩
theorem y_imp {ψ : Hp → V → Prop} (h : Y σ te φ) (f : ∀ H v, φ H v → ψ H v) : Y σ te ψ := fun H Q q => h H Q fun v H' s hv => q v H' s (f _ _ hv)
end
def tY {ι : Type} (cond : ι → L2.St → Prop) (φ : ι → Hp → V → Prop) : TE := fun σ H Q => ∃ i, cond i σ ∧ ∀ v H', Same H H' → φ i H' v → Q v H'
theorem pe_y {X : Cx} {ι : Type} {cond : ι → L2.St → Prop} {φ : ι → Hp → V → Prop} {e : Expr} {t : TE} (h : PE X e t) (y : ∀ i σ, cond i σ → Y σ t (φ i)) : PE X e (tY cond φ) :=
  ⟨fun pins s σ H Q I ⟨i, c, q⟩ => h.run pins s σ H Q I (y i σ c H Q q)⟩
end SqP

local macro_rules | `(tactic| walk_at "bd") => `(tactic| first | assumption | exact Sq.bd_small (k := 64) (by decide) | exact Sq.Bd.mul (by walk_at "bd") (by walk_at "bd") | exact Sq.Bd.sub (Sq.Bd.mono (l := 9000000) (by walk_at "bd") (by decide)) (Sq.Bd.mono (by walk_at "bd") (by decide)) | exact Sq.Bd.add (Sq.Bd.mono (l := 9000000) (by walk_at "bd") (by decide)) (Sq.Bd.mono (by walk_at "bd") (by decide)))
local macro_rules | `(tactic| walk_at "rd") => `(tactic| repeat (first | refine ⟨_, rfl, ?_⟩ | refine ⟨_, _, rfl, rfl, ?_⟩ | refine ⟨Or.inl ⟨by decide, by decide⟩, ?_⟩ | refine ⟨SqP.bd_mul (by walk_at "bd") (by walk_at "bd") (by decide), ?_⟩))

namespace SqP
open PySem
def topS (i : Nat) : Stmt := PySem.Challenge.pw_squaretree_k05_refused.main.body.getD i (.Pass ⟨0, 0, 0, 0⟩)
end SqP

namespace SqP
open PySem PySem.Spec PyProof.Rows L2 Sq
/-- the names that stay the built-in ones -/
structure Bt (mg : Str → Option Value) : Prop where
  isi : mg "isinstance" = none
  int : mg "int" = none
  bool : mg "bool" = none
  tuple : mg "tuple" = none
  list : mg "list" = none
  len : mg "len" = none
  all : mg "all" = none
  any : mg "any" = none
  range : mg "range" = none
  enum : mg "enumerate" = none
abbrev s_is_whole : Stmt := topS 9
theorem sc_is_whole : FnScope ["thing"] ["thing"] (defScope s_is_whole) := ⟨rfl, rfl, rfl, by decide +kernel, rfl, by decide +kernel, by decide +kernel⟩
abbrev s_are_wholes : Stmt := topS 10
theorem sc_are_wholes : FnScope ["thing", "many", "one"] ["thing", "many"] (defScope s_are_wholes) := ⟨rfl, rfl, rfl, by decide +kernel, rfl, by decide +kernel, by decide +kernel⟩
abbrev s_common : Stmt := topS 11
theorem sc_common : FnScope ["one", "other"] ["one", "other"] (defScope s_common) := ⟨rfl, rfl, rfl, by decide +kernel, rfl, by decide +kernel, by decide +kernel⟩
abbrev s_is_triple : Stmt := topS 12
theorem sc_is_triple : FnScope ["thing"] ["thing"] (defScope s_is_triple) := ⟨rfl, rfl, rfl, by decide +kernel, rfl, by decide +kernel, by decide +kernel⟩
abbrev s_is_pair : Stmt := topS 13
theorem sc_is_pair : FnScope ["thing"] ["thing"] (defScope s_is_pair) := ⟨rfl, rfl, rfl, by decide +kernel, rfl, by decide +kernel, by decide +kernel⟩
abbrev s_check_triple : Stmt := topS 14
theorem sc_check_triple : FnScope ["triple"] ["triple"] (defScope s_check_triple) := ⟨rfl, rfl, rfl, by decide +kernel, rfl, by decide +kernel, by decide +kernel⟩
abbrev s_root_of : Stmt := topS 15
theorem sc_root_of : FnScope ["number", "now"] ["number"] (defScope s_root_of) := ⟨rfl, rfl, rfl, by decide +kernel, rfl, by decide +kernel, by decide +kernel⟩
abbrev s_pair_by : Stmt := topS 16
theorem sc_pair_by : FnScope ["triple"] ["triple"] (defScope s_pair_by) := ⟨rfl, rfl, rfl, by decide +kernel, rfl, by decide +kernel, by decide +kernel⟩
abbrev s_pair_of : Stmt := topS 17
theorem sc_pair_of : FnScope ["triple"] ["triple"] (defScope s_pair_of) := ⟨rfl, rfl, rfl, by decide +kernel, rfl, by decide +kernel, by decide +kernel⟩
abbrev s_triple_by : Stmt := topS 18
theorem sc_triple_by : FnScope ["pair", "m", "n"] ["pair"] (defScope s_triple_by) := ⟨rfl, rfl, rfl, by decide +kernel, rfl, by decide +kernel, by decide +kernel⟩
abbrev s_triple_of : Stmt := topS 19
theorem sc_triple_of : FnScope ["pair"] ["pair"] (defScope s_triple_of) := ⟨rfl, rfl, rfl, by decide +kernel, rfl, by decide +kernel, by decide +kernel⟩
section
variable {P : Program} {w : World} {K : PySem.W.Frag} {mg : Str → Option Value} {base : Heap}
/-! ### is_whole -/
def sp_is_whole (K : PySem.W.Frag) : Sp := fun vs H Q _ => ∃ (v : V) (T : String) (bi bb : Bool), vs = [v] ∧ TyX K H v (.type T) ∧ kitB T "int" = some bi ∧ kitB T "bool" = some bb ∧ Q (.bl (bi && !bb)) H
theorem ok_is_whole (B : Bt mg) (D : Is K mg "is_whole" s_is_whole ["thing"]) : Has P w K mg base 1 "is_whole" ["thing"] (sp_is_whole K) := by
  obtain ⟨f, fd, F, b, g⟩ := D
  refine ⟨f, fd, F.ok sc_is_whole (fun vs H Q E h => ?_) (fun cdv A outer s H vs Q E hr h => ?_), F.kp, b, g⟩
  · obtain ⟨v, T, bi, bb, rfl, _⟩ := h
    rfl
  · obtain ⟨v, T, bi, bb, rfl, ty, k1, k2, q⟩ := h
    refine ⟨_, (pss_one (ps_ret (pe_and (pe_callB call_isi (by rfl) B.isi (by decide +kernel) (pa_cons (pv 0) (pa_cons (pe_bltn (v := .ty "int") (by rfl) B.int (by decide +kernel) rfl) pa_nil))) (pe_one (pe_not (pe_callB call_isi (by rfl) B.isi (by decide +kernel) (pa_cons (pv 0) (pa_cons (pe_bltn (v := .ty "bool") (by rfl) B.bool (by decide +kernel) rfl) pa_nil)))))))), ?_⟩
    refine ⟨_, rfl, v, .ty "int", _, _, bi, rfl, .ty _, ty, kit_ty k1, bi, rfl, ?_⟩
    cases bi with
    | false => exact iteF q
    | true => exact iteT ⟨_, rfl, v, .ty "bool", _, _, bb, rfl, .ty _, ty, kit_ty k2, bb, rfl, q⟩
theorem whole_int {i : Int} {H : Hp} {Q : VK} {E : XK} (q : Q (.bl true) H) : sp_is_whole K [.int i] H Q E := ⟨.int i, "int", true, false, rfl, .base (.int i), kb_int_int, kb_int_bool, q⟩
/-! ### are_wholes, of tuples of ints -/
def sp_are_wholes (K : PySem.W.Frag) : Sp := fun vs H Q _ => ∃ (a : Addr) (ns : List Int) (n : Int), vs = [.ref a, .int n] ∧ SqT K H a (ns.map V.int) ∧ ns.length ≤ 1000 ∧ ∀ H', Same H H' → Q (.bl (decide ((ns.length : Int) = n) && ns.all fun z => decide (0 < z))) H'
theorem ok_are_wholes (B : Bt mg) (D : Is K mg "are_wholes" s_are_wholes ["thing", "many"]) (H_is_whole : Has P w K mg base 1 "is_whole" ["thing"] (sp_is_whole K)) : Has P w K mg base 2 "are_wholes" ["thing", "many"] (sp_are_wholes K) := by
  obtain ⟨f, fd, F, b, g⟩ := D
  obtain ⟨f_is_whole, fd_is_whole, G_is_whole, k_is_whole, b_is_whole, g_is_whole⟩ := H_is_whole
  refine ⟨f, fd, F.ok sc_are_wholes (fun vs H Q E h => ?_) (fun cdv A outer s H vs Q E hr h => ?_), F.kp, b, g⟩
  · obtain ⟨a, ns, n, rfl, _⟩ := h
    rfl
  · obtain ⟨a, ns, n, rfl, hS, hl, q⟩ := h
    refine ⟨_, (pss_cons (ps_if (PW.pt (pw_or (pt_not (pt_val (pe_callB call_isi (by rfl) B.isi (by decide +kernel) (pa_cons (pv 0) (pa_cons (pe_bltn (v := .ty "tuple") (by rfl) B.tuple (by decide +kernel) rfl) pa_nil))))) (pw_or1 (pt_cmpR op_ne (pe_callB call_len_seq (by rfl) B.len PySem.boot_len (pa_cons (pv 0) pa_nil)) (pv 1) (nomark _))))) (pss_one (ps_ret pe_bl)) pss_nil) (pss_one (ps_ret (pe_callB (cr_all rfl) (by rfl) B.all (by decide +kernel) (pa_cons (pe_lc (own := [("one", 2)]) (g := gName 2) (tt := tYes) rfl sc_are_wholes.nd (pi_tup (pv 0)) (blkOk_by (N := ["thing", "many", "one"]) (sc := defScope s_are_wholes) (by decide +kernel)) (fun _ _ _ _ _ => pg_name (i := 2) sc_are_wholes.nd rfl (Or.inl rfl)) (fun _ _ _ _ _ => pts_nil) (fun _ _ _ _ _ => (pe_and (pe_call G_is_whole (hr.mono (by decide)) (by rfl) g_is_whole k_is_whole b_is_whole .nil pass0 (pa_cons (pv 2) pa_nil)) (pe_one (pe_cmpR op_gt (pv 2) pe_int (nomark _)))))) pa_nil))))), ?_⟩
    refine ⟨_, rfl, _, _, _, _, true, rfl, .ty _, tyx_tup hS, kit_ty kb_tup_tup, true, rfl, ?_⟩
    refine iteF ⟨_, rfl, a, _, rfl, .inr hS, _, rfl, rfl, _, rfl, ?_⟩
    rw [List.length_map]
    have e : decide (V.int (ns.length : Int) = V.int n) = decide ((ns.length : Int) = n) := by
      by_cases c : (ns.length : Int) = n
      · rw [decide_eq_true c, decide_eq_true (by rw [c])]
      · rw [decide_eq_false c, decide_eq_false (fun z => c (V.int.inj z))]
    rw [e]
    by_cases c : (ns.length : Int) = n
    · rw [decide_eq_true c] at q ⊢
      refine iteF ?_
      refine ⟨_, rfl, a, rfl, ⟨_, hS⟩, fun D nD => lc_over_tup (xs := ns.map V.int) (ys := (ns.map fun z => decide (0 < z)).map V.bl) (j := 2) hS nD (by simp) (by rw [List.length_map]; omega) (fun i x y hx hy => ?_) (fun H' s1 d1 => ?_)⟩
      · rw [List.getElem?_map] at hx hy
        rw [List.getElem?_map] at hy
        cases hz : ns[i]? with
        | none =>
          rw [hz] at hx
          cases hx
        | some z =>
          rw [hz] at hx hy
          cases hx
          cases hy
          intro H1 s1 R hR
          refine ⟨_, rfl, .int z, "int", true, false, rfl, .base (.int z), kb_int_int, kb_int_bool, true, rfl, iteT ⟨_, rfl, _, _, rfl, rfl, hR _ (Same.refl _)⟩⟩
      · refine ⟨D, ns.map fun z => decide (0 < z), rfl, SqL.of d1, ?_⟩
        have e2 : (ns.map fun z => decide (0 < z)).all id = ns.all fun z => decide (0 < z) := by
          rw [List.all_map]
          rfl
        rw [e2]
        exact q H' s1
    · rw [decide_eq_false c] at q ⊢
      exact iteT (q H (Same.refl H))
/-! ### common -/
def sp_common : Sp := fun vs H Q _ => ∃ a b : Int, vs = [.int a, .int b] ∧ 0 ≤ a ∧ 0 ≤ b ∧ Q (.int (Int.gcd a b)) H
theorem ok_common (D : Is K mg "common" s_common ["one", "other"]) : Has P w K mg base 1 "common" ["one", "other"] sp_common := by
  obtain ⟨f, fd, F, b, g⟩ := D
  refine ⟨f, fd, F.ok sc_common (fun vs H Q E h => ?_) (fun cdv A outer s H vs Q E hr h => ?_), F.kp, b, g⟩
  · obtain ⟨a, b, rfl, _⟩ := h
    rfl
  · obtain ⟨a, b, rfl, ha, hb, q⟩ := h
    refine ⟨_, (pss_cons (ps_while PassesOwn.never (pt_cmpR op_gt (pv 1) pe_int (nomark _)) (pss_one (ps_par (i := 0) (j := 1) rfl sc_common.nd rfl rfl (by decide) rfl rfl (pa_cons (pv 1) (pa_cons (pe_op op_mod (pv 0) (pv 1)) pa_nil)) (by rfl)))) (pss_one (ps_ret (pv 0)))), ?_⟩
    refine ⟨fun m σ H' => ∃ x y : Int, σ = [some (.int x), some (.int y)] ∧ m = y.toNat ∧ 0 ≤ x ∧ 0 ≤ y ∧ Int.gcd x y = Int.gcd a b ∧ H' = H, ⟨_, a, b, rfl, rfl, ha, hb, rfl, rfl⟩, ?_⟩
    rintro m σ H' ⟨x, y, rfl, rfl, hx, hy, hg, rfl⟩
    refine ⟨_, rfl, _, _, rfl, rfl, _, rfl, if_b (fun c => ?_) (fun c => ?_)⟩
    · have c := of_decide_eq_true c
      refine ⟨fun σ' H2 => ∃ m', m' < y.toNat ∧ ∃ x1 y1 : Int, σ' = [some (.int x1), some (.int y1)] ∧ m' = y1.toNat ∧ 0 ≤ x1 ∧ 0 ≤ y1 ∧ Int.gcd x1 y1 = Int.gcd a b ∧ H2 = H', fun _ _ h => h, ?_⟩
      refine ⟨_, rfl, _, rfl, _, rfl, _, _, rfl, rfl, c, _, _, rfl, ?_⟩
      have e1 := Int.emod_nonneg x (show y ≠ 0 by omega)
      have e2 := Int.emod_lt_of_pos x c
      refine ⟨_, ?_, y, x % y, rfl, rfl, hy, e1, ?_, rfl⟩
      · omega
      · rw [← hg]
        have := Int.mul_ediv_add_emod x y
        rw [Int.gcd_comm x y]
        conv => rhs; rw [← this]
        rw [Int.add_comm, Int.gcd_add_mul_left_right]
    · have c := of_decide_eq_false c
      have e : y = 0 := by omega
      subst e
      refine ⟨_, rfl, ?_⟩
      rw [← hg, Int.gcd_zero_right] at q
      have e2 : ((x.natAbs : Nat) : Int) = x := Int.natAbs_of_nonneg hx
      rw [e2] at q
      exact q
/-! ### is_triple, is_pair: of tuples of ints -/
def isTri (x y z : Int) : Bool := (decide (0 < x) && decide (0 < y) && decide (0 < z)) && !decide (x % 2 = 0) && !decide (y % 2 = 1) && decide (x * x + y * y = z * z) && decide (Int.gcd x y = 1)
def isPr (m n : Int) : Bool := (decide (0 < m) && decide (0 < n)) && !decide (m ≤ n) && !decide ((m + n) % 2 = 0) && decide (Int.gcd m n = 1)
theorem dec_vint (a b : Int) : decide (V.int a = V.int b) = decide (a = b) := by
  by_cases c : a = b
  · rw [decide_eq_true c, decide_eq_true (by rw [c])]
  · rw [decide_eq_false c, decide_eq_false (fun z => c (V.int.inj z))]
def sp_is_triple (K : PySem.W.Frag) : Sp := fun vs H Q _ => ∃ (a : Addr) (x y z : Int), vs = [.ref a] ∧ SqT K H a [.int x, .int y, .int z] ∧ Bd 3000000 x ∧ Bd 3000000 y ∧ Bd 3000000 z ∧ ∀ H', Same H H' → Q (.bl (isTri x y z)) H'
theorem ok_is_triple (D : Is K mg "is_triple" s_is_triple ["thing"]) (H_are_wholes : Has P w K mg base 2 "are_wholes" ["thing", "many"] (sp_are_wholes K)) (H_common : Has P w K mg base 1 "common" ["one", "other"] sp_common) : Has P w K mg base 3 "is_triple" ["thing"] (sp_is_triple K) := by
  obtain ⟨f, fd, F, b, g⟩ := D
  obtain ⟨f_are_wholes, fd_are_wholes, G_are_wholes, k_are_wholes, b_are_wholes, g_are_wholes⟩ := H_are_wholes
  obtain ⟨f_common, fd_common, G_common, k_common, b_common, g_common⟩ := H_common
  refine ⟨f, fd, F.ok sc_is_triple (fun vs H Q E h => ?_) (fun cdv A outer s H vs Q E hr h => ?_), F.kp, b, g⟩
  · obtain ⟨a, x, y, z, rfl, _⟩ := h
    rfl
  · obtain ⟨a, x, y, z, rfl, hS, hx, hy, hz, q⟩ := h
    have hr1 := hr.mono (show 1 ≤ 2 by decide)
    have ix : ∀ (i : Nat), PlainIx (.Constant (.int i) 0 ⟨0, 0, 0, 0⟩) := fun _ _ _ => rfl
    refine ⟨_, (pss_cons (ps_if (PW.pt (pw_or (pt_not (pt_val (pe_call G_are_wholes (hr.mono (by decide)) (by rfl) g_are_wholes k_are_wholes b_are_wholes .nil pass0 (pa_cons (pv 0) (pa_cons pe_int pa_nil))))) (pw_or (pt_cmpR op_eq (pe_op op_mod (pe_ix ix_tup (pv 0) pe_int (fun _ _ => rfl)) pe_int) pe_int (nomark _)) (pw_or1 (pt_cmpR op_eq (pe_op op_mod (pe_ix ix_tup (pv 0) pe_int (fun _ _ => rfl)) pe_int) pe_int (nomark _)))))) (pss_one (ps_ret pe_bl)) pss_nil) (pss_one (ps_ret (pe_and (pe_cmpR op_eq (pe_op op_add (pe_op op_mulX (pe_ix ix_tup (pv 0) pe_int (fun _ _ => rfl)) (pe_ix ix_tup (pv 0) pe_int (fun _ _ => rfl))) (pe_op op_mulX (pe_ix ix_tup (pv 0) pe_int (fun _ _ => rfl)) (pe_ix ix_tup (pv 0) pe_int (fun _ _ => rfl)))) (pe_op op_mulX (pe_ix ix_tup (pv 0) pe_int (fun _ _ => rfl)) (pe_ix ix_tup (pv 0) pe_int (fun _ _ => rfl))) (nomark _)) (pe_one (pe_cmpR op_eq (pe_call G_common (hr.mono (by decide)) (by rfl) g_common k_common b_common .nil pass0 (pa_cons (pe_ix ix_tup (pv 0) pe_int (fun _ _ => rfl)) (pa_cons (pe_ix ix_tup (pv 0) pe_int (fun _ _ => rfl)) pa_nil))) pe_int (nomark _))))))), ?_⟩
    refine ⟨_, rfl, a, [x, y, z], 3, rfl, hS, (by show 3 ≤ 1000; decide), fun H1 s1 => ⟨_, rfl, ?_⟩⟩
    have hS1 := Same.tup s1 hS
    have e0 : (decide ((([x, y, z] : List Int).length : Int) = 3) && ([x, y, z] : List Int).all fun z => decide (0 < z)) = (decide (0 < x) && decide (0 < y) && decide (0 < z)) := by
      simp [Bool.and_assoc]
    rw [e0]
    have i0 : atI ([.int x, .int y, .int z] : List V) 0 = some (.int x) := rfl
    have i1 : atI ([.int x, .int y, .int z] : List V) 1 = some (.int y) := rfl
    have i2 : atI ([.int x, .int y, .int z] : List V) 2 = some (.int z) := rfl
    unfold isTri at q
    cases c0 : (decide (0 < x) && decide (0 < y) && decide (0 < z)) with
    | false =>
      rw [c0] at q
      exact iteT (iteT (q H1 s1))
    | true =>
      rw [c0] at q
      have p1 : 0 < x ∧ 0 < y ∧ 0 < z := by simpa [and_assoc] using c0
      refine iteF ⟨_, rfl, a, _, 0, _, rfl, rfl, hS1, i0, _, _, rfl, rfl, (by decide : (0 : Int) < 2), rfl, _, rfl, ?_⟩
      rw [dec_vint]
      cases c1 : decide (x % 2 = 0) with
      | true =>
        rw [c1] at q
        exact iteT (iteT (q H1 s1))
      | false =>
        rw [c1] at q
        refine iteF ⟨_, rfl, a, _, 1, _, rfl, rfl, hS1, i1, _, _, rfl, rfl, (by decide : (0 : Int) < 2), rfl, _, rfl, ?_⟩
        rw [dec_vint]
        cases c2 : decide (y % 2 = 1) with
        | true =>
          rw [c2] at q
          exact iteT (q H1 s1)
        | false =>
          rw [c2] at q
          refine iteF ?_
          refine ⟨_, rfl, a, _, 0, _, rfl, rfl, hS1, i0, _, rfl, a, _, 0, _, rfl, rfl, hS1, i0, _, _, rfl, rfl, bd_mul hx hx (by decide),
            _, rfl, a, _, 1, _, rfl, rfl, hS1, i1, _, rfl, a, _, 1, _, rfl, rfl, hS1, i1, _, _, rfl, rfl, bd_mul hy hy (by decide), _, _, rfl, rfl,
            _, rfl, a, _, 2, _, rfl, rfl, hS1, i2, _, rfl, a, _, 2, _, rfl, rfl, hS1, i2, _, _, rfl, rfl, bd_mul hz hz (by decide), rfl, _, rfl, ?_⟩
          rw [dec_vint]
          cases c3 : decide (x * x + y * y = z * z) with
          | false =>
            rw [c3] at q
            exact iteF (q H1 s1)
          | true =>
            rw [c3] at q
            refine iteT ⟨_, rfl, a, _, 0, _, rfl, rfl, hS1, i0, _, rfl, a, _, 1, _, rfl, rfl, hS1, i1, x, y, rfl, by omega, by omega, rfl, ?_⟩
            rw [dec_vint]
            have e3 : decide (((Int.gcd x y : Nat) : Int) = 1) = decide (Int.gcd x y = 1) := by
              by_cases c : Int.gcd x y = 1
              · rw [decide_eq_true c, decide_eq_true (by rw [c]; rfl)]
              · rw [decide_eq_false c, decide_eq_false (by omega)]
            rw [e3]
            exact q H1 s1
def sp_is_pair (K : PySem.W.Frag) : Sp := fun vs H Q _ => ∃ (a : Addr) (m n : Int), vs = [.ref a] ∧ SqT K H a [.int m, .int n] ∧ ∀ H', Same H H' → Q (.bl (isPr m n)) H'
theorem ok_is_pair (D : Is K mg "is_pair" s_is_pair ["thing"]) (H_are_wholes : Has P w K mg base 2 "are_wholes" ["thing", "many"] (sp_are_wholes K)) (H_common : Has P w K mg base 1 "common" ["one", "other"] sp_common) : Has P w K mg base 3 "is_pair" ["thing"] (sp_is_pair K) := by
  obtain ⟨f, fd, F, b, g⟩ := D
  obtain ⟨f_are_wholes, fd_are_wholes, G_are_wholes, k_are_wholes, b_are_wholes, g_are_wholes⟩ := H_are_wholes
  obtain ⟨f_common, fd_common, G_common, k_common, b_common, g_common⟩ := H_common
  refine ⟨f, fd, F.ok sc_is_pair (fun vs H Q E h => ?_) (fun cdv A outer s H vs Q E hr h => ?_), F.kp, b, g⟩
  · obtain ⟨a, m, n, rfl, _⟩ := h
    rfl
  · obtain ⟨a, m, n, rfl, hS, q⟩ := h
    have hr1 := hr.mono (show 1 ≤ 2 by decide)
    refine ⟨_, (pss_cons (ps_if (PW.pt (pw_or (pt_not (pt_val (pe_call G_are_wholes (hr.mono (by decide)) (by rfl) g_are_wholes k_are_wholes b_are_wholes .nil pass0 (pa_cons (pv 0) (pa_cons pe_int pa_nil))))) (pw_or (pt_cmpR op_le (pe_ix ix_tup (pv 0) pe_int (fun _ _ => rfl)) (pe_ix ix_tup (pv 0) pe_int (fun _ _ => rfl)) (nomark _)) (pw_or1 (pt_cmpR op_eq (pe_op op_mod (pe_op op_add (pe_ix ix_tup (pv 0) pe_int (fun _ _ => rfl)) (pe_ix ix_tup (pv 0) pe_int (fun _ _ => rfl))) pe_int) pe_int (nomark _)))))) (pss_one (ps_ret pe_bl)) pss_nil) (pss_one (ps_ret (pe_cmpR op_eq (pe_call G_common (hr.mono (by decide)) (by rfl) g_common k_common b_common .nil pass0 (pa_cons (pe_ix ix_tup (pv 0) pe_int (fun _ _ => rfl)) (pa_cons (pe_ix ix_tup (pv 0) pe_int (fun _ _ => rfl)) pa_nil))) pe_int (nomark _))))), ?_⟩
    refine ⟨_, rfl, a, [m, n], 2, rfl, hS, (by show 2 ≤ 1000; decide), fun H1 s1 => ⟨_, rfl, ?_⟩⟩
    have hS1 := Same.tup s1 hS
    have e0 : (decide ((([m, n] : List Int).length : Int) = 2) && ([m, n] : List Int).all fun z => decide (0 < z)) = (decide (0 < m) && decide (0 < n)) := by simp
    rw [e0]
    have i0 : atI ([.int m, .int n] : List V) 0 = some (.int m) := rfl
    have i1 : atI ([.int m, .int n] : List V) 1 = some (.int n) := rfl
    unfold isPr at q
    cases c0 : (decide (0 < m) && decide (0 < n)) with
    | false =>
      rw [c0] at q
      exact iteT (iteT (q H1 s1))
    | true =>
      rw [c0] at q
      have p1 : 0 < m ∧ 0 < n := by simpa using c0
      refine iteF ⟨_, rfl, a, _, 0, _, rfl, rfl, hS1, i0, _, rfl, a, _, 1, _, rfl, rfl, hS1, i1, _, _, rfl, rfl, _, rfl, ?_⟩
      cases c1 : decide (m ≤ n) with
      | true =>
        rw [c1] at q
        exact iteT (iteT (q H1 s1))
      | false =>
        rw [c1] at q
        refine iteF ⟨_, rfl, a, _, 0, _, rfl, rfl, hS1, i0, _, rfl, a, _, 1, _, rfl, rfl, hS1, i1, _, _, rfl, rfl, _, _, rfl, rfl, (by decide : (0 : Int) < 2), rfl, _, rfl, ?_⟩
        rw [dec_vint]
        cases c2 : decide ((m + n) % 2 = 0) with
        | true =>
          rw [c2] at q
          exact iteT (q H1 s1)
        | false =>
          rw [c2] at q
          refine iteF ⟨_, rfl, a, _, 0, _, rfl, rfl, hS1, i0, _, rfl, a, _, 1, _, rfl, rfl, hS1, i1, m, n, rfl, by omega, by omega, rfl, ?_⟩
          rw [dec_vint]
          have e3 : decide (((Int.gcd m n : Nat) : Int) = 1) = decide (Int.gcd m n = 1) := by
            by_cases c : Int.gcd m n = 1
            · rw [decide_eq_true c, decide_eq_true (by rw [c]; rfl)]
            · rw [decide_eq_false c, decide_eq_false (by omega)]
          rw [e3]
          exact q H1 s1
end
end SqP

namespace SqP
open PySem PySem.Spec PyProof.Rows L2 Sq
section
variable {P : Program} {w : World} {K : PySem.W.Frag} {mg : Str → Option Value} {base : Heap}
/-- a tuple of a pair, of a triple -/
abbrev PrAt (K : PySem.W.Frag) (H : Hp) (a : Addr) (p : Pr) : Prop := SqT K H a [.int p.1, .int p.2]
abbrev TrAt (K : PySem.W.Frag) (H : Hp) (a : Addr) (t : Tr) : Prop := SqT K H a [.int t.1, .int t.2.1, .int t.2.2]
theorem isTri_ok {t : Tr} (h : TriOk t) : isTri t.1 t.2.1 t.2.2 = true := by
  unfold isTri
  rw [decide_eq_true h.a, decide_eq_true h.b, decide_eq_true h.c, decide_eq_false (show ¬ t.1 % 2 = 0 by have := h.odd; omega), decide_eq_false (show ¬ t.2.1 % 2 = 1 by have := h.even; omega), decide_eq_true h.sq, decide_eq_true h.cop]
  rfl
theorem isPr_ok {p : Pr} (h : Good p) : isPr p.1 p.2 = true := by
  obtain ⟨h1, h2, h3, h4⟩ := h
  unfold isPr
  rw [decide_eq_true (show 0 < p.1 by omega), decide_eq_true h1, decide_eq_false (show ¬ p.1 ≤ p.2 by omega), decide_eq_false (show ¬ (p.1 + p.2) % 2 = 0 by omega), decide_eq_true (cop_iff.mpr h4)]
  rfl
/-! ### check_triple, of a triple -/
def sp_check_triple (K : PySem.W.Frag) : Sp := fun vs H Q _ => ∃ (a : Addr) (t : Tr), vs = [.ref a] ∧ TrAt K H a t ∧ TriOk t ∧ Bd 3000000 t.1 ∧ Bd 3000000 t.2.1 ∧ Bd 3000000 t.2.2 ∧ ∀ H', Same H H' → Q .non H'
theorem ok_check_triple (D : Is K mg "check_triple" s_check_triple ["triple"]) (H_is_triple : Has P w K mg base 3 "is_triple" ["thing"] (sp_is_triple K)) : Has P w K mg base 4 "check_triple" ["triple"] (sp_check_triple K) := by
  obtain ⟨f, fd, F, b, g⟩ := D
  obtain ⟨f_is_triple, fd_is_triple, G_is_triple, k_is_triple, b_is_triple, g_is_triple⟩ := H_is_triple
  refine ⟨f, fd, F.ok sc_check_triple (fun vs H Q E h => ?_) (fun cdv A outer s H vs Q E hr h => ?_), F.kp, b, g⟩
  · obtain ⟨a, t, rfl, _⟩ := h
    rfl
  · obtain ⟨a, t, rfl, hS, ht, h1, h2, h3, q⟩ := h
    refine ⟨_, (pss_one (ps_if (pt_not (pt_val (pe_call G_is_triple (hr.mono (by decide)) (by rfl) g_is_triple k_is_triple b_is_triple .nil pass0 (pa_cons (pv 0) pa_nil)))) (pss_one ps_never) pss_nil)), ?_⟩
    refine ⟨_, rfl, a, _, _, _, rfl, hS, h1, h2, h3, fun H1 s1 => ⟨_, rfl, ?_⟩⟩
    rw [isTri_ok ht]
    exact iteF (q H1 s1)
/-! ### root_of -/
def sp_root_of : Sp := fun vs H Q _ => ∃ N : Int, vs = [.int N] ∧ 0 ≤ N ∧ Bd 2000010 N ∧ ∀ r : Int, 0 ≤ r → r * r ≤ N → N < (r + 1) * (r + 1) → Q (.int r) H
theorem bits_lt {N : Int} (h : 0 ≤ N) : N < 2 ^ (Builtin.Int.intBits N) := by
  have q : N.natAbs < 2 ^ (Builtin.Int.intBits N) := by
    unfold Builtin.Int.intBits
    split
    · rename_i e
      rw [beq_iff_eq.mp e]
      decide
    · exact Nat.lt_log2_self
  exact Bd.lt (k := Builtin.Int.intBits N) q
theorem bits_bd {N : Int} {k : Nat} (h : Bd k N) : Builtin.Int.intBits N ≤ k := PyProof.Rows.intBits_le h
theorem ok_root_of (hN : base.NoSeer) (ht : P.given.tree = none) (D : Is K mg "root_of" s_root_of ["number"]) : Has P w K mg base 33 "root_of" ["number"] sp_root_of := by
  obtain ⟨f, fd, F, b, g⟩ := D
  refine ⟨f, fd, F.ok sc_root_of (fun vs H Q E h => ?_) (fun cdv A outer s H vs Q E hr h => ?_), F.kp, b, g⟩
  · obtain ⟨N, rfl, _⟩ := h
    rfl
  · obtain ⟨N, rfl, h0, hb, q⟩ := h
    have hd : (A.deeper (envOfC "root_of" (defScope s_root_of) s.heap.objs.size f cdv)).depth + 100 < recursionLimit := by
      have := hr.dp
      omega
    refine ⟨_, (pss_cons (ps_set (i := 1) sc_root_of.nd rfl (Or.inl rfl) (pe_op op_oneShl pe_int (pe_op op_fdiv (pe_op op_add (pe_bits (pv 0)) pe_int) pe_int))) (pss_cons (ps_while PassesOwn.never (pt_cmpR op_gt (pe_op op_mulX (pv 1) (pv 1)) (pv 0) (nomark _)) (pss_one (ps_set (i := 1) sc_root_of.nd rfl (Or.inl rfl) (pe_op op_fdiv (pe_op op_add (pv 1) (pe_op (op_fdivP (l := outer) hN ht rfl rfl rfl hd) (pv 0) (pv 1))) pe_int)))) (pss_one (ps_ret (pv 1))))), ?_⟩
    have hbl := bits_bd hb
    have hlt := bits_lt h0
    generalize hB : Builtin.Int.intBits N = b at *
    have n0 := newt_start hlt
    refine ⟨_, rfl, N, rfl, _, _, rfl, rfl, _, _, rfl, rfl, ⟨by decide, by decide⟩, (b + 1) / 2, rfl, by rw [hB]; show V.int _ = V.int _; congr 1, by omega, ?_⟩
    have top : Bd ((b + 1) / 2 + 1) (2 ^ ((b + 1) / 2) : Int) := by
      refine bd_of n0.nn ?_
      rw [Int.pow_succ]
      have : (0 : Int) < 2 ^ ((b + 1) / 2) := by
        have := Nat.two_pow_pos ((b + 1) / 2)
        exact_mod_cast this
      omega
    generalize (2 ^ ((b + 1) / 2) : Int) = x0 at *
    refine ⟨fun m σ H' => ∃ x : Int, σ = [some (.int N), some (.int x)] ∧ m = x.toNat ∧ Newt N x ∧ x ≤ x0 ∧ H' = H, ⟨_, x0, rfl, rfl, n0, Int.le_refl _, rfl⟩, ?_⟩
    rintro m σ H' ⟨x, rfl, rfl, hn, hx, rfl⟩
    have xb : Bd ((b + 1) / 2 + 1) x := top.le hn.nn hx
    refine ⟨_, rfl, _, rfl, _, _, rfl, rfl, bd_mul xb xb (by omega), _, rfl, _, _, rfl, rfl, _, rfl, if_b (fun c => ?_) (fun c => ?_)⟩
    · have c := of_decide_eq_true c
      obtain ⟨x1, nx, lt⟩ := newt_next h0 hn c
      refine ⟨fun σ' H2 => ∃ m', m' < x.toNat ∧ ∃ y : Int, σ' = [some (.int N), some (.int y)] ∧ m' = y.toNat ∧ Newt N y ∧ y ≤ x0 ∧ H2 = H', fun _ _ h => h, ?_⟩
      refine ⟨_, rfl, _, rfl, _, rfl, _, _, rfl, rfl, x1, _, _, rfl, rfl, _, _, rfl, rfl, ⟨by decide, by decide⟩, _, ?_, _, rfl, rfl, nx, by omega, rfl⟩
      have := nx.nn
      omega
    · have c := of_decide_eq_false c
      exact ⟨_, rfl, q x hn.nn (by omega) hn.up⟩
/-! ### pair_by, pair_of -/
def sp_pair_by (K : PySem.W.Frag) : Sp := fun vs H Q _ => ∃ (a : Addr) (p : Pr), vs = [.ref a] ∧ TrAt K H a (tri p) ∧ Good p ∧ Bd 1000000 p.1 ∧ ∀ H' q, Same H H' → PrAt K H' q p → Q (.ref q) H'
theorem ok_pair_by (D : Is K mg "pair_by" s_pair_by ["triple"]) (H_root_of : Has P w K mg base 33 "root_of" ["number"] sp_root_of) : Has P w K mg base 34 "pair_by" ["triple"] (sp_pair_by K) := by
  obtain ⟨f, fd, F, b, g⟩ := D
  obtain ⟨f_root_of, fd_root_of, G_root_of, k_root_of, b_root_of, g_root_of⟩ := H_root_of
  refine ⟨f, fd, F.ok sc_pair_by (fun vs H Q E h => ?_) (fun cdv A outer s H vs Q E hr h => ?_), F.kp, b, g⟩
  · obtain ⟨a, p, rfl, _⟩ := h
    rfl
  · obtain ⟨a, p, rfl, hS, hg, hb, q⟩ := h
    have hb2 : Bd 1000000 p.2 := hb.le (by have := hg.1; omega) (by have := hg.2.1; omega)
    refine ⟨_, (pss_one (ps_ret (pe_tup (pa_cons (pe_call G_root_of (hr.mono (by decide)) (by rfl) g_root_of k_root_of b_root_of .nil pass0 (pa_cons (pe_op op_fdiv (pe_op op_add (pe_ix ix_tup (pv 0) pe_int (fun _ _ => rfl)) (pe_ix ix_tup (pv 0) pe_int (fun _ _ => rfl))) pe_int) pa_nil)) (pa_cons (pe_call G_root_of (hr.mono (by decide)) (by rfl) g_root_of k_root_of b_root_of .nil pass0 (pa_cons (pe_op op_fdiv (pe_op op_sub (pe_ix ix_tup (pv 0) pe_int (fun _ _ => rfl)) (pe_ix ix_tup (pv 0) pe_int (fun _ _ => rfl))) pe_int) pa_nil)) pa_nil))))), ?_⟩
    have i0 : atI ([.int (tri p).1, .int (tri p).2.1, .int (tri p).2.2] : List V) 0 = some (.int (tri p).1) := rfl
    have i2 : atI ([.int (tri p).1, .int (tri p).2.1, .int (tri p).2.2] : List V) 2 = some (.int (tri p).2.2) := rfl
    refine ⟨_, rfl, a, _, 2, _, rfl, rfl, hS, i2, _, rfl, a, _, 0, _, rfl, rfl, hS, i0, _, _, rfl, rfl, _, _, rfl, rfl, ⟨by decide, by decide⟩, _, rfl, ?_⟩
    rw [tri_half1]
    refine ⟨Int.mul_nonneg (by have := hg.1; have := hg.2.1; omega) (by have := hg.1; have := hg.2.1; omega), (hb.mul hb).mono (by decide), fun r r0 r1 r2 => ?_⟩
    have er := root_sq r0 r1 r2 (by have := hg.1; have := hg.2.1; omega)
    subst er
    refine ⟨_, rfl, a, _, 2, _, rfl, rfl, hS, i2, _, rfl, a, _, 0, _, rfl, rfl, hS, i0, _, _, rfl, rfl, _, _, rfl, rfl, ⟨by decide, by decide⟩, _, rfl, ?_⟩
    rw [tri_half2]
    refine ⟨Int.mul_nonneg (by have := hg.1; omega) (by have := hg.1; omega), (hb2.mul hb2).mono (by decide), fun r3 r4 r5 r6 => ?_⟩
    have er := root_sq r4 r5 r6 (by have := hg.1; omega)
    subst er
    exact ⟨len2, new_tup (K := K) fun H1 t s1 t1 => q _ _ s1 t1⟩
def sp_pair_of := sp_pair_by
theorem ok_pair_of (D : Is K mg "pair_of" s_pair_of ["triple"]) (H_check_triple : Has P w K mg base 4 "check_triple" ["triple"] (sp_check_triple K)) (H_pair_by : Has P w K mg base 34 "pair_by" ["triple"] (sp_pair_by K)) : Has P w K mg base 35 "pair_of" ["triple"] (sp_pair_of K) := by
  obtain ⟨f, fd, F, b, g⟩ := D
  obtain ⟨f_check_triple, fd_check_triple, G_check_triple, k_check_triple, b_check_triple, g_check_triple⟩ := H_check_triple
  obtain ⟨f_pair_by, fd_pair_by, G_pair_by, k_pair_by, b_pair_by, g_pair_by⟩ := H_pair_by
  refine ⟨f, fd, F.ok sc_pair_of (fun vs H Q E h => ?_) (fun cdv A outer s H vs Q E hr h => ?_), F.kp, b, g⟩
  · obtain ⟨a, p, rfl, _⟩ := h
    rfl
  · obtain ⟨a, p, rfl, hS, hg, hb, q⟩ := h
    refine ⟨_, (pss_cons (ps_expr (pe_call G_check_triple (hr.mono (by decide)) (by rfl) g_check_triple k_check_triple b_check_triple .nil pass0 (pa_cons (pv 0) pa_nil))) (pss_one (ps_ret (pe_call G_pair_by (hr.mono (by decide)) (by rfl) g_pair_by k_pair_by b_pair_by .nil pass0 (pa_cons (pv 0) pa_nil))))), ?_⟩
    obtain ⟨c1, c2, c3⟩ := tri_bd hg hb
    refine ⟨_, rfl, a, _, rfl, hS, tri_ok hg, c1.mono (by decide), c2.mono (by decide), c3.mono (by decide), fun H1 s1 => ?_⟩
    exact ⟨_, rfl, a, p, rfl, Same.tup s1 hS, hg, hb, fun H2 t s2 t2 => q _ _ (s1.trans s2) t2⟩
/-! ### triple_by, triple_of -/
def sp_triple_by (K : PySem.W.Frag) : Sp := fun vs H Q _ => ∃ (a : Addr) (p : Pr), vs = [.ref a] ∧ PrAt K H a p ∧ Bd 1000000 p.1 ∧ Bd 1000000 p.2 ∧ ∀ H' q, Same H H' → TrAt K H' q (tri p) → Q (.ref q) H'
theorem ok_triple_by (D : Is K mg "triple_by" s_triple_by ["pair"]) : Has P w K mg base 1 "triple_by" ["pair"] (sp_triple_by K) := by
  obtain ⟨f, fd, F, b, g⟩ := D
  refine ⟨f, fd, F.ok sc_triple_by (fun vs H Q E h => ?_) (fun cdv A outer s H vs Q E hr h => ?_), F.kp, b, g⟩
  · obtain ⟨a, p, rfl, _⟩ := h
    rfl
  · obtain ⟨a, p, rfl, hS, hm, hn, q⟩ := h
    refine ⟨_, (pss_cons (ps_asg (pv 0) (pg_tup rfl (pgs_cons (pg_name (i := 1) sc_triple_by.nd rfl (Or.inl rfl)) (pgs_cons (pg_name (i := 2) sc_triple_by.nd rfl (Or.inl rfl)) pgs_nil)))) (pss_one (ps_ret (pe_tup (pa_cons (pe_op op_sub (pe_op op_mulX (pv 1) (pv 1)) (pe_op op_mulX (pv 2) (pv 2))) (pa_cons (pe_op op_mulX (pe_op op_mul pe_int (pv 1)) (pv 2)) (pa_cons (pe_op op_add (pe_op op_mulX (pv 1) (pv 1)) (pe_op op_mulX (pv 2) (pv 2))) pa_nil))))))), ?_⟩
    refine ⟨_, rfl, _, _, rfl, hS, rfl, _, _, rfl, _, _, rfl, rfl, ?_⟩
    walk_at "rd"
    refine ⟨len3, new_tup (K := K) fun H1 t s1 t1 => q _ _ s1 t1⟩
def sp_triple_of (K : PySem.W.Frag) : Sp := fun vs H Q _ => ∃ (a : Addr) (p : Pr), vs = [.ref a] ∧ PrAt K H a p ∧ Good p ∧ Bd 1000000 p.1 ∧ ∀ H' q, Same H H' → TrAt K H' q (tri p) → Q (.ref q) H'
theorem ok_triple_of (D : Is K mg "triple_of" s_triple_of ["pair"]) (H_is_pair : Has P w K mg base 3 "is_pair" ["thing"] (sp_is_pair K)) (H_triple_by : Has P w K mg base 1 "triple_by" ["pair"] (sp_triple_by K)) : Has P w K mg base 4 "triple_of" ["pair"] (sp_triple_of K) := by
  obtain ⟨f, fd, F, b, g⟩ := D
  obtain ⟨f_is_pair, fd_is_pair, G_is_pair, k_is_pair, b_is_pair, g_is_pair⟩ := H_is_pair
  obtain ⟨f_triple_by, fd_triple_by, G_triple_by, k_triple_by, b_triple_by, g_triple_by⟩ := H_triple_by
  refine ⟨f, fd, F.ok sc_triple_of (fun vs H Q E h => ?_) (fun cdv A outer s H vs Q E hr h => ?_), F.kp, b, g⟩
  · obtain ⟨a, p, rfl, _⟩ := h
    rfl
  · obtain ⟨a, p, rfl, hS, hg, hb, q⟩ := h
    have hb2 : Bd 1000000 p.2 := hb.le (by have := hg.1; omega) (by have := hg.2.1; omega)
    refine ⟨_, (pss_cons (ps_if (pt_not (pt_val (pe_call G_is_pair (hr.mono (by decide)) (by rfl) g_is_pair k_is_pair b_is_pair .nil pass0 (pa_cons (pv 0) pa_nil)))) (pss_one ps_never) pss_nil) (pss_one (ps_ret (pe_call G_triple_by (hr.mono (by decide)) (by rfl) g_triple_by k_triple_by b_triple_by .nil pass0 (pa_cons (pv 0) pa_nil))))), ?_⟩
    refine ⟨_, rfl, a, _, _, rfl, hS, fun H1 s1 => ⟨_, rfl, ?_⟩⟩
    rw [isPr_ok hg]
    refine iteF ?_
    exact ⟨_, rfl, a, p, rfl, Same.tup s1 hS, hb, hb2, fun H2 t s2 t2 => q _ _ (s1.trans s2) t2⟩
end
end SqP

namespace SqP
open PySem PySem.Spec PyProof.Rows L2 Sq
abbrev s_led : Stmt := topS 23
theorem sc_led : FnScope ["pair", "step", "often", "m", "n", "turn"] ["pair", "step", "often"] (defScope s_led) := ⟨rfl, rfl, rfl, by decide +kernel, rfl, by decide +kernel, by decide +kernel⟩
abbrev s_last_of : Stmt := topS 24
theorem sc_last_of : FnScope ["pair", "m", "n", "often"] ["pair"] (defScope s_last_of) := ⟨rfl, rfl, rfl, by decide +kernel, rfl, by decide +kernel, by decide +kernel⟩
abbrev s_back : Stmt := topS 26
theorem sc_back : FnScope ["triple", "m", "n"] ["triple"] (defScope s_back) := ⟨rfl, rfl, rfl, by decide +kernel, rfl, by decide +kernel, by decide +kernel⟩
abbrev s_is_part : Stmt := topS 27
theorem sc_is_part : FnScope ["thing", "one"] ["thing"] (defScope s_is_part) := ⟨rfl, rfl, rfl, by decide +kernel, rfl, by decide +kernel, by decide +kernel⟩
abbrev s_by_row : Stmt := topS 28
theorem sc_by_row : FnScope ["row", "pair", "step", "often", "part", "at"] ["row"] (defScope s_by_row) := ⟨rfl, rfl, rfl, by decide +kernel, rfl, by decide +kernel, by decide +kernel⟩
abbrev s_row_of : Stmt := topS 29
theorem sc_row_of : FnScope ["triple", "pair", "found", "step", "often"] ["triple"] (defScope s_row_of) := ⟨rfl, rfl, rfl, by decide +kernel, rfl, by decide +kernel, by decide +kernel⟩
/-- the parts of a row, each a tuple -/
def Parts (K : PySem.W.Frag) (H : Hp) : List Addr → PRow → Prop
  | [], [] => True
  | t :: ts, x :: r => SqT K H t [.int x.1, .int x.2] ∧ Parts K H ts r
  | [], _ :: _ => False
  | _ :: _, [] => False
theorem Parts.same {K : PySem.W.Frag} {H H' : Hp} (s : Same H H') : ∀ {ts : List Addr} {r : PRow}, Parts K H ts r → Parts K H' ts r
  | [], [], _ => trivial
  | _ :: _, _ :: _, h => ⟨Same.tup s h.1, Parts.same s h.2⟩
  | [], _ :: _, h => h.elim
  | _ :: _, [], h => h.elim
theorem Parts.length {K : PySem.W.Frag} {H : Hp} : ∀ {ts : List Addr} {r : PRow}, Parts K H ts r → ts.length = r.length
  | [], [], _ => rfl
  | _ :: _, _ :: _, h => by rw [List.length_cons, List.length_cons, Parts.length h.2]
  | [], _ :: _, h => h.elim
  | _ :: _, [], h => h.elim
theorem Parts.get {K : PySem.W.Frag} {H : Hp} : ∀ {ts : List Addr} {r : PRow} {i : Nat} {x : Int × Int}, Parts K H ts r → r[i]? = some x → ∃ t, ts[i]? = some t ∧ SqT K H t [.int x.1, .int x.2]
  | [], [], _, _, _, e => by simp at e
  | t :: _, y :: _, 0, x, h, e => by
    have e' : y = x := Option.some.inj e
    subst e'
    exact ⟨t, rfl, h.1⟩
  | _ :: _, _ :: _, i + 1, _, h, e => Parts.get (i := i) h.2 e
  | [], _ :: _, _, _, h, _ => h.elim
  | _ :: _, [], _, _, h, _ => h.elim
theorem Parts.snoc {K : PySem.W.Frag} {H : Hp} {t : Addr} {x : Int × Int} (hx : SqT K H t [.int x.1, .int x.2]) : ∀ {ts : List Addr} {r : PRow}, Parts K H ts r → Parts K H (ts ++ [t]) (r ++ [x])
  | [], [], _ => ⟨hx, trivial⟩
  | _ :: _, _ :: _, h => ⟨h.1, Parts.snoc hx h.2⟩
  | [], _ :: _, h => h.elim
  | _ :: _, [], h => h.elim
theorem Parts.app {K : PySem.W.Frag} {H : Hp} {bs : List Addr} {v : PRow} (h2 : Parts K H bs v) : ∀ {as : List Addr} {u : PRow}, Parts K H as u → Parts K H (as ++ bs) (u ++ v)
  | [], [], _ => h2
  | _ :: _, _ :: _, h => ⟨h.1, Parts.app h2 h.2⟩
  | [], _ :: _, h => h.elim
  | _ :: _, [], h => h.elim
theorem Parts.take {K : PySem.W.Frag} {H : Hp} : ∀ {ts : List Addr} {r : PRow} (n : Nat), Parts K H ts r → Parts K H (ts.take n) (r.take n)
  | _, _, 0, _ => trivial
  | [], [], _ + 1, _ => trivial
  | _ :: _, _ :: _, n + 1, h => ⟨h.1, Parts.take n h.2⟩
  | [], _ :: _, _, h => h.elim
  | _ :: _, [], _, h => h.elim
theorem parts_keep {K : PySem.W.Frag} {H : Hp} {fo : Addr} {xs ys : List V} (hfo : H fo = some (.lst xs)) : ∀ {ts : List Addr} {r : PRow}, Parts K H ts r → Parts K (upd H fo (.lst ys)) ts r
  | [], [], _ => trivial
  | _ :: _, _ :: _, h => ⟨tup_keep hfo h.1, parts_keep hfo h.2⟩
  | [], _ :: _, h => h.elim
  | _ :: _, [], h => h.elim
/-- a row in the heap: a list of tuples -/
def RowAt (K : PySem.W.Frag) (H : Hp) (a : Addr) (r : PRow) : Prop := ∃ ts : List Addr, SqL K H a (ts.map V.ref) ∧ Parts K H ts r
theorem RowAt.same {K : PySem.W.Frag} {H H' : Hp} {a : Addr} {r : PRow} (s : Same H H') (h : RowAt K H a r) : RowAt K H' a r := by
  obtain ⟨ts, h1, h2⟩ := h
  exact ⟨ts, Same.seq s h1, h2.same s⟩
/-- data: a pair, a triple -/
theorem two_shaped (a b : Int) : SeqAt.shaped (.tuple [.int a, .int b]) = true := rfl
theorem two_eqv (a b c d : Int) : PyData.eqv (.tuple [.int a, .int b]) (.tuple [.int c, .int d]) = (decide (a = c) && decide (b = d)) := by
  simp [PyData.eqv, PyData.eqvAll, Bool.beq_eq_decide_eq]
theorem two_dp {K : PySem.W.Frag} {H : Hp} {t : Addr} {a b : Int} (h : SqT K H t [.int a, .int b]) : Dp K H (.ref t) (.tuple [.int a, .int b]) := .tup h (.cons (.int _) (.cons (.int _) .nil))
theorem three_shaped (a b c : Int) : SeqAt.shaped (.tuple [.int a, .int b, .int c]) = true := rfl
theorem three_eqv (a b c x y z : Int) : PyData.eqv (.tuple [.int a, .int b, .int c]) (.tuple [.int x, .int y, .int z]) = (decide (a = x) && decide (b = y) && decide (c = z)) := by
  simp [PyData.eqv, PyData.eqvAll, Bool.and_assoc, Bool.beq_eq_decide_eq]
theorem three_dp {K : PySem.W.Frag} {H : Hp} {t : Addr} {a b c : Int} (h : SqT K H t [.int a, .int b, .int c]) : Dp K H (.ref t) (.tuple [.int a, .int b, .int c]) := .tup h (.cons (.int _) (.cons (.int _) (.cons (.int _) .nil)))
/-- a row as data -/
def partD (x : Int × Int) : PyData := .tuple [.int x.1, .int x.2]
def rowD (r : PRow) : PyData := .list (r.map partD)
theorem part_lay (x : Int × Int) : (partD x).canLay0 = true := by simp [partD, PyData.canLay0, PyData.canLayAll0]
theorem part_depth (x : Int × Int) : (partD x).depth = 1 := by simp [partD, PyData.depth, PyData.depthAll]
theorem parts_lay : ∀ r : PRow, PyData.canLayAll0 (r.map partD) = true
  | [] => by simp [PyData.canLayAll0]
  | x :: r => by simp [PyData.canLayAll0, part_lay x, parts_lay r]
theorem parts_depth : ∀ r : PRow, PyData.depthAll (r.map partD) ≤ 1
  | [] => by simp [PyData.depthAll]
  | x :: r => by
    have h1 := parts_depth r
    have h2 := part_depth x
    simp only [List.map_cons, PyData.depthAll]
    omega
theorem row_shaped (r : PRow) : SeqAt.shaped (rowD r) = true := by
  have h1 := parts_depth r
  have h2 : PyData.depth (rowD r) ≤ 64 := by
    simp only [rowD, PyData.depth]
    omega
  show (PyData.canLay0 (rowD r) && decide (PyData.depth (rowD r) ≤ 64)) = true
  rw [Bool.and_eq_true]
  exact ⟨by simp only [rowD, PyData.canLay0]; exact parts_lay r, decide_eq_true h2⟩
theorem eqv_self {d : PyData} (h : SeqAt.shaped d = true) : PyData.eqv d d = true := SeqAt.eqv_refl d (SeqAt.canLay_of_shaped h)
theorem parts_dp {K : PySem.W.Frag} {H : Hp} : ∀ {ts : List Addr} {r : PRow}, Parts K H ts r → DpAll K H (ts.map V.ref) (r.map partD)
  | [], [], _ => .nil
  | _ :: _, _ :: _, h => .cons (two_dp h.1) (parts_dp h.2)
  | [], _ :: _, h => h.elim
  | _ :: _, [], h => h.elim
theorem row_dp {K : PySem.W.Frag} {H : Hp} {a : Addr} {r : PRow} (h : RowAt K H a r) : Dp K H (.ref a) (rowD r) := by
  obtain ⟨ts, h1, h2⟩ := h
  exact .lst h1 (parts_dp h2)
section
variable {P : Program} {w : World} {K : PySem.W.Frag} {mg : Str → Option Value} {base : Heap}
/-! ### led -/
def sp_led (K : PySem.W.Frag) : Sp := fun vs H Q _ => ∃ (a : Addr) (p : Pr) (s o : Int), vs = [.ref a, .int s, .int o] ∧ PrAt K H a p ∧ S3 s ∧ 0 ≤ o ∧ Bd 1000 o ∧ (s = 1 → o ≤ 1000) ∧ Bd 1000000 p.1 ∧ Bd 1000000 p.2 ∧ ∀ H' q, Same H H' → PrAt K H' q (led p s o) → Q (.ref q) H'
theorem ok_led (B : Bt mg) (D : Is K mg "led" s_led ["pair", "step", "often"]) : Has P w K mg base 1 "led" ["pair", "step", "often"] (sp_led K) := by
  obtain ⟨f, fd, F, b, g⟩ := D
  refine ⟨f, fd, F.ok sc_led (fun vs H Q E h => ?_) (fun cdv A outer s H vs Q E hr h => ?_), F.kp, b, g⟩
  · obtain ⟨a, p, s, o, rfl, _⟩ := h
    rfl
  · obtain ⟨a, p, s, o, rfl, hS, hs, h0, ho, h1, hm, hn, q⟩ := h
    refine ⟨_, (pss_cons (ps_asg (pv 0) (pg_tup rfl (pgs_cons (pg_name (i := 3) sc_led.nd rfl (Or.inl rfl)) (pgs_cons (pg_name (i := 4) sc_led.nd rfl (Or.inl rfl)) pgs_nil)))) (pss_cons (ps_if (pt_cmpR op_eq (pv 1) pe_int (nomark _)) (pss_one (ps_ret (pe_tup (pa_cons (pe_op op_add (pv 3) (pe_op op_mulX (pv 2) (pe_op op_sub (pv 3) (pv 4)))) (pa_cons (pe_op op_add (pv 4) (pe_op op_mulX (pv 2) (pe_op op_sub (pv 3) (pv 4)))) pa_nil))))) pss_nil) (pss_cons (ps_if (pt_cmpR op_eq (pv 1) pe_int (nomark _)) (pss_one (ps_ret (pe_tup (pa_cons (pe_op op_add (pv 3) (pe_op op_mulX (pe_op op_mul pe_int (pv 2)) (pv 4))) (pa_cons (pv 4) pa_nil))))) pss_nil) (pss_cons (ps_for PassesOwn.never rfl (pi_range1 (by rfl) B.range (pa_cons (pv 2) pa_nil)) (pg_name (i := 5) sc_led.nd rfl (Or.inl rfl)) (pss_one (ps_par (i := 3) (j := 4) rfl sc_led.nd rfl rfl (by decide) rfl rfl (pa_cons (pe_op op_add (pe_op op_mul pe_int (pv 3)) (pv 4)) (pa_cons (pv 3) pa_nil)) (by rfl)))) (pss_one (ps_ret (pe_tup (pa_cons (pv 3) (pa_cons (pv 4) pa_nil))))))))), ?_⟩
    refine ⟨_, rfl, _, _, rfl, hS, rfl, _, _, rfl, _, _, rfl, rfl, ?_⟩
    refine ⟨_, rfl, rfl, _, rfl, ?_⟩
    rw [dec_vint]
    rcases hs with rfl | rfl | rfl
    · refine iteT ?_
      walk_at "rd"
      refine ⟨len2, new_tup (K := K) fun H1 t s1 t1 => q _ _ s1 ?_⟩
      rw [led, if_pos rfl]
      exact t1
    · refine iteF ⟨_, rfl, rfl, _, rfl, ?_⟩
      rw [dec_vint]
      refine iteF ?_
      have ho1 := h1 rfl
      refine ⟨_, rfl, o, rfl, by omega, by omega, for_range (lo := 0) (n := o.toNat) (fun i σ H' => ∃ v : Option V, σ = [some (.ref a), some (.int 1), some (.int o), some (.int (rep 1 i p).1), some (.int (rep 1 i p).2), v] ∧ H' = H) ⟨none, rfl, rfl⟩ ?_ ?_⟩
      · rintro i σ H' hi ⟨v, rfl, rfl⟩
        refine ⟨_, rfl, _, _, rfl, rfl, .inl ⟨by decide, by decide⟩, _, rfl, _, _, rfl, rfl, _, rfl, _, _, rfl, some (.int (0 + i)), ?_, rfl⟩
        rw [rep1_succ]
        rfl
      · rintro σ H' ⟨v, rfl, rfl⟩
        refine ⟨_, rfl, _, rfl, len2, new_tup (K := K) fun H1 t s1 t1 => q _ _ s1 ?_⟩
        rw [led, if_neg (by decide), if_neg (by decide)]
        exact t1
    · refine iteF ⟨_, rfl, rfl, _, rfl, ?_⟩
      rw [dec_vint]
      refine iteT ?_
      walk_at "rd"
      refine ⟨len2, new_tup (K := K) fun H1 t s1 t1 => q _ _ s1 ?_⟩
      rw [led, if_neg (by decide), if_pos rfl]
      exact t1
/-! ### last_of -/
def sp_last_of (K : PySem.W.Frag) : Sp := fun vs H Q _ => ∃ (a : Addr) (p : Pr), vs = [.ref a] ∧ PrAt K H a p ∧ 0 < p.2 ∧ p.2 < p.1 ∧ Bd 1000000 p.1 ∧
  ∀ H' q t, Same H H' → SqT K H' q [.int (lastOf p).1, .int (lastOf p).2.1, .ref t] → PrAt K H' t (lastOf p).2.2 → Q (.ref q) H'
theorem ok_last_of (hN : base.NoSeer) (ht : P.given.tree = none) (D : Is K mg "last_of" s_last_of ["pair"]) : Has P w K mg base 33 "last_of" ["pair"] (sp_last_of K) := by
  obtain ⟨f, fd, F, b, g⟩ := D
  refine ⟨f, fd, F.ok sc_last_of (fun vs H Q E h => ?_) (fun cdv A outer s H vs Q E hr h => ?_), F.kp, b, g⟩
  · obtain ⟨a, p, rfl, _⟩ := h
    rfl
  · obtain ⟨a, p, rfl, hS, h1, h2, hm, q⟩ := h
    have hn : Bd 1000000 p.2 := hm.le (by omega) (by omega)
    have hd : (A.deeper (envOfC "last_of" (defScope s_last_of) s.heap.objs.size f cdv)).depth + 100 < recursionLimit := by
      have := hr.dp
      omega
    refine ⟨_, (pss_cons (ps_asg (pv 0) (pg_tup rfl (pgs_cons (pg_name (i := 1) sc_last_of.nd rfl (Or.inl rfl)) (pgs_cons (pg_name (i := 2) sc_last_of.nd rfl (Or.inl rfl)) pgs_nil)))) (pss_cons (ps_if (pt_cmpR op_lt (pv 1) (pe_op op_mul pe_int (pv 2)) (nomark _)) (pss_cons (ps_set (i := 3) sc_last_of.nd rfl (Or.inl rfl) (pe_op (op_fdivP (l := outer) hN ht rfl rfl rfl hd) (pe_op op_sub (pv 2) pe_int) (pe_op op_sub (pv 1) (pv 2)))) (pss_one (ps_ret (pe_tup (pa_cons pe_int (pa_cons (pv 3) (pa_cons (pe_tup (pa_cons (pe_op op_sub (pv 1) (pe_op op_mulX (pv 3) (pe_op op_sub (pv 1) (pv 2)))) (pa_cons (pe_op op_sub (pv 2) (pe_op op_mulX (pv 3) (pe_op op_sub (pv 1) (pv 2)))) pa_nil))) pa_nil))))))) pss_nil) (pss_cons (ps_if (pt_cmpR op_lt (pv 1) (pe_op op_mul pe_int (pv 2)) (nomark _)) (pss_one (ps_ret (pe_tup (pa_cons pe_int (pa_cons pe_int (pa_cons (pe_tup (pa_cons (pv 2) (pa_cons (pe_op op_sub (pv 1) (pe_op op_mul pe_int (pv 2))) pa_nil))) pa_nil)))))) pss_nil) (pss_cons (ps_set (i := 3) sc_last_of.nd rfl (Or.inl rfl) (pe_op (op_fdivP (l := outer) hN ht rfl rfl rfl hd) (pe_op op_sub (pv 1) (pv 2)) (pe_op op_mul pe_int (pv 2)))) (pss_one (ps_ret (pe_tup (pa_cons pe_int (pa_cons (pv 3) (pa_cons (pe_tup (pa_cons (pe_op op_sub (pv 1) (pe_op op_mulX (pe_op op_mul pe_int (pv 3)) (pv 2))) (pa_cons (pv 2) pa_nil))) pa_nil)))))))))), ?_⟩
    refine ⟨_, rfl, _, _, rfl, hS, rfl, _, _, rfl, _, _, rfl, rfl, ?_⟩
    have b2 : Bd 64 2 := by show (2 : Nat) < 2 ^ 64; decide
    have b3 : Bd 64 3 := by show (3 : Nat) < 2 ^ 64; decide
    have ob : ∀ x d : Int, 0 ≤ x → x ≤ p.1 → 0 < d → Bd 1000000 (x / d) := fun x d h0 hx hd => hm.le (Int.ediv_nonneg h0 (by omega)) (Int.le_trans (Int.ediv_le_self _ h0) hx)
    refine ⟨_, rfl, _, rfl, _, _, rfl, rfl, .inl ⟨by decide, by decide⟩, _, _, rfl, rfl, _, rfl, if_b (fun c => ?_) (fun c => ?_)⟩
    · have c := of_decide_eq_true c
      have hob := ob (p.2 - 1) (p.1 - p.2) (by omega) (by omega) (by omega)
      refine ⟨_, rfl, _, _, rfl, rfl, _, rfl, _, rfl, _, _, rfl, rfl, _, _, rfl, rfl, (show (0 : Int) < p.1 - p.2 by omega), ?_⟩
      refine ⟨_, rfl, ?_⟩
      walk_at "rd"
      refine ⟨len2, fun t ht => ⟨len3, fun u hu => q _ u t ((same_upd ht).trans (same_upd hu)) ?_ ?_⟩⟩
      · rw [lastOf, if_pos c]
        exact SqT.of upd_same
      · rw [lastOf, if_pos c]
        exact Same.tup (same_upd hu) (SqT.of upd_same)
    · have c := of_decide_eq_false c
      refine ⟨_, rfl, _, rfl, _, _, rfl, rfl, .inl ⟨by decide, by decide⟩, _, _, rfl, rfl, _, rfl, if_b (fun c2 => ?_) (fun c2 => ?_)⟩
      · have c2 := of_decide_eq_true c2
        walk_at "rd"
        refine ⟨len2, fun t ht => ⟨len3, fun u hu => q _ u t ((same_upd ht).trans (same_upd hu)) ?_ ?_⟩⟩
        · rw [lastOf, if_neg c, if_pos c2]
          exact SqT.of upd_same
        · rw [lastOf, if_neg c, if_pos c2]
          exact Same.tup (same_upd hu) (SqT.of upd_same)
      · have c2 := of_decide_eq_false c2
        have hob := ob (p.1 - p.2) (2 * p.2) (by omega) (by omega) (by omega)
        refine ⟨_, rfl, _, rfl, _, _, rfl, rfl, _, rfl, _, _, rfl, rfl, .inl ⟨by decide, by decide⟩, _, _, rfl, rfl, (show (0 : Int) < 2 * p.2 by omega), ?_⟩
        refine ⟨_, rfl, ?_⟩
        walk_at "rd"
        refine ⟨len2, fun t ht => ⟨len3, fun u hu => q _ u t ((same_upd ht).trans (same_upd hu)) ?_ ?_⟩⟩
        · rw [lastOf, if_neg c, if_neg c2]
          exact SqT.of upd_same
        · rw [lastOf, if_neg c, if_neg c2]
          exact Same.tup (same_upd hu) (SqT.of upd_same)
end
end SqP

namespace SqP
open PySem PySem.Spec PyProof.Rows L2 Sq
section
variable {P : Program} {w : World} {K : PySem.W.Frag} {mg : Str → Option Value} {base : Heap}
/-! ### back -/
def sp_back (K : PySem.W.Frag) : Sp := fun vs H Q _ => ∃ (a : Addr) (p : Pr), vs = [.ref a] ∧ TrAt K H a (tri p) ∧ Good p ∧ Bd 1000000 p.1 ∧ (p = (2, 1) → ∀ H', Same H H' → Q .non H') ∧
  (p ≠ (2, 1) → ∀ H' q t, Same H H' → SqT K H' q [.ref t, .int (backOf p).1] → TrAt K H' t (tri (backOf p).2) → Q (.ref q) H')
theorem ok_back (D : Is K mg "back" s_back ["triple"]) (H_check_triple : Has P w K mg base 4 "check_triple" ["triple"] (sp_check_triple K)) (H_pair_by : Has P w K mg base 34 "pair_by" ["triple"] (sp_pair_by K)) (H_triple_by : Has P w K mg base 1 "triple_by" ["pair"] (sp_triple_by K)) : Has P w K mg base 35 "back" ["triple"] (sp_back K) := by
  obtain ⟨f, fd, F, b, g⟩ := D
  obtain ⟨f_check_triple, fd_check_triple, G_check_triple, k_check_triple, b_check_triple, g_check_triple⟩ := H_check_triple
  obtain ⟨f_pair_by, fd_pair_by, G_pair_by, k_pair_by, b_pair_by, g_pair_by⟩ := H_pair_by
  obtain ⟨f_triple_by, fd_triple_by, G_triple_by, k_triple_by, b_triple_by, g_triple_by⟩ := H_triple_by
  refine ⟨f, fd, F.ok sc_back (fun vs H Q E h => ?_) (fun cdv A outer s H vs Q E hr h => ?_), F.kp, b, g⟩
  · obtain ⟨a, p, rfl, _⟩ := h
    rfl
  · obtain ⟨a, p, rfl, hS, hg, hb, q0, q1⟩ := h
    obtain ⟨c1, c2, c3⟩ := tri_bd hg hb
    obtain ⟨l1, l2, l3, l4⟩ := back_le hg
    have bb1 : Bd 1000000 (backOf p).2.1 := hb.le l1 l2
    have bb2 : Bd 1000000 (backOf p).2.2 := hb.abs l3 l4
    have hr1 := hr.mono (show 1 ≤ 34 by decide)
    refine ⟨_, (pss_cons (ps_expr (pe_call G_check_triple (hr.mono (by decide)) (by rfl) g_check_triple k_check_triple b_check_triple .nil pass0 (pa_cons (pv 0) pa_nil))) (pss_cons (ps_asg (pe_call G_pair_by (hr.mono (by decide)) (by rfl) g_pair_by k_pair_by b_pair_by .nil pass0 (pa_cons (pv 0) pa_nil)) (pg_tup rfl (pgs_cons (pg_name (i := 1) sc_back.nd rfl (Or.inl rfl)) (pgs_cons (pg_name (i := 2) sc_back.nd rfl (Or.inl rfl)) pgs_nil)))) (pss_cons (ps_if (PW.pt (pw_and (pt_cmpR op_eq (pv 2) pe_int (nomark _)) (pw_and1 (pt_cmpR op_eq (pv 1) pe_int (nomark _))))) (pss_one (ps_ret pe_non)) pss_nil) (pss_cons (ps_if (pt_cmpR op_lt (pv 1) (pe_op op_mul pe_int (pv 2)) (nomark _)) (pss_one (ps_ret (pe_tup (pa_cons (pe_call G_triple_by (hr.mono (by decide)) (by rfl) g_triple_by k_triple_by b_triple_by .nil pass0 (pa_cons (pe_tup (pa_cons (pv 2) (pa_cons (pe_op op_sub (pe_op op_mul pe_int (pv 2)) (pv 1)) pa_nil))) pa_nil)) (pa_cons pe_int pa_nil))))) pss_nil) (pss_cons (ps_if (pt_cmpR op_lt (pv 1) (pe_op op_mul pe_int (pv 2)) (nomark _)) (pss_one (ps_ret (pe_tup (pa_cons (pe_call G_triple_by (hr.mono (by decide)) (by rfl) g_triple_by k_triple_by b_triple_by .nil pass0 (pa_cons (pe_tup (pa_cons (pv 2) (pa_cons (pe_op op_sub (pv 1) (pe_op op_mul pe_int (pv 2))) pa_nil))) pa_nil)) (pa_cons pe_int pa_nil))))) pss_nil) (pss_one (ps_ret (pe_tup (pa_cons (pe_call G_triple_by (hr.mono (by decide)) (by rfl) g_triple_by k_triple_by b_triple_by .nil pass0 (pa_cons (pe_tup (pa_cons (pe_op op_sub (pv 1) (pe_op op_mul pe_int (pv 2))) (pa_cons (pv 2) pa_nil))) pa_nil)) (pa_cons pe_int pa_nil)))))))))), ?_⟩
    refine ⟨_, rfl, a, _, rfl, hS, tri_ok hg, c1.mono (by decide), c2.mono (by decide), c3.mono (by decide), fun H1 s1 => ?_⟩
    refine ⟨_, rfl, a, p, rfl, Same.tup s1 hS, hg, hb, fun H2 pa s2 hp => ⟨_, _, rfl, hp, rfl, _, _, rfl, _, _, rfl, rfl, ?_⟩⟩
    have s12 := s1.trans s2
    have m2 : CMul 2 p.2 := .inl ⟨by decide, by decide⟩
    have m3 : CMul 3 p.2 := .inl ⟨by decide, by decide⟩
    by_cases h0 : p = (2, 1)
    · subst h0
      refine ⟨_, rfl, rfl, _, rfl, iteT ⟨_, rfl, rfl, _, rfl, iteT (q0 rfl _ s12)⟩⟩
    · have q1 := q1 h0
      have skip : ∀ (R : Bool → Hp → Prop), R false H2 → tAnd (tTest (tOp rEq (tVar 2) (tC (.int 1)))) (tTest (tOp rEq (tVar 1) (tC (.int 2)))) (((L2.start ["triple", "m", "n"] [V.ref a]).set 1 (some (.int p.1))).set 2 (some (.int p.2))) H2 R := fun R hR => by
        refine ⟨_, rfl, rfl, _, rfl, ?_⟩
        rw [dec_vint]
        refine if_b (fun c => ?_) (fun _ => hR)
        refine ⟨_, rfl, rfl, _, rfl, ?_⟩
        rw [dec_vint]
        have c := of_decide_eq_true c
        rw [decide_eq_false (fun z => h0 (Prod.ext z c))]
        exact hR
      refine skip _ (iteF ?_)
      refine ⟨_, rfl, _, rfl, _, _, rfl, rfl, m2, _, _, rfl, rfl, _, rfl, if_b (fun c => ?_) (fun c => ?_)⟩
      · have c := of_decide_eq_true c
        have e : backOf p = (0, (p.2, 2 * p.2 - p.1)) := by rw [backOf, if_pos c]
        rw [e] at bb1 bb2 q1
        refine ⟨_, rfl, _, rfl, _, _, rfl, rfl, m2, _, rfl, _, _, rfl, rfl, len2, fun t ht => ⟨t, (p.2, 2 * p.2 - p.1), rfl, SqT.of upd_same, bb1, bb2, fun H3 u s3 hu => ⟨len2, fun v hv => q1 _ v u (((s12.trans (same_upd ht)).trans s3).trans (same_upd hv)) (SqT.of upd_same) (Same.tup (same_upd hv) hu)⟩⟩⟩
      · have c := of_decide_eq_false c
        refine ⟨_, rfl, _, rfl, _, _, rfl, rfl, m3, _, _, rfl, rfl, _, rfl, if_b (fun c2 => ?_) (fun c2 => ?_)⟩
        · have c2 := of_decide_eq_true c2
          have e : backOf p = (1, (p.2, p.1 - 2 * p.2)) := by rw [backOf, if_neg c, if_pos c2]
          rw [e] at bb1 bb2 q1
          refine ⟨_, rfl, _, rfl, _, rfl, _, _, rfl, rfl, m2, _, _, rfl, rfl, len2, fun t ht => ⟨t, (p.2, p.1 - 2 * p.2), rfl, SqT.of upd_same, bb1, bb2, fun H3 u s3 hu => ⟨len2, fun v hv => q1 _ v u (((s12.trans (same_upd ht)).trans s3).trans (same_upd hv)) (SqT.of upd_same) (Same.tup (same_upd hv) hu)⟩⟩⟩
        · have c2 := of_decide_eq_false c2
          have e : backOf p = (2, (p.1 - 2 * p.2, p.2)) := by rw [backOf, if_neg c, if_neg c2]
          rw [e] at bb1 bb2 q1
          refine ⟨_, rfl, _, rfl, _, _, rfl, rfl, m2, _, _, rfl, rfl, _, rfl, len2, fun t ht => ⟨t, (p.1 - 2 * p.2, p.2), rfl, SqT.of upd_same, bb1, bb2, fun H3 u s3 hu => ⟨len2, fun v hv => q1 _ v u (((s12.trans (same_upd ht)).trans s3).trans (same_upd hv)) (SqT.of upd_same) (Same.tup (same_upd hv) hu)⟩⟩⟩
/-! ### is_part, of two ints -/
def isPart (s o : Int) : Bool := (decide (0 ≤ s) && decide (s ≤ 2)) && (decide (1 ≤ o) && (!decide (s = 1) || decide (o ≤ 1000)))
theorem isPart_ok {x : Int × Int} (h : PartOk x) : isPart x.1 x.2 = true := by
  obtain ⟨h1, h2, h3, h4⟩ := h
  unfold isPart
  rw [decide_eq_true (show 0 ≤ x.1 by rcases h1 with e | e | e <;> omega), decide_eq_true (show x.1 ≤ 2 by rcases h1 with e | e | e <;> omega), decide_eq_true h2]
  by_cases c : x.1 = 1
  · rw [decide_eq_true (h4 c)]
    simp
  · rw [decide_eq_false c]
    rfl
def sp_is_part (K : PySem.W.Frag) : Sp := fun vs H Q _ => ∃ (a : Addr) (s o : Int), vs = [.ref a] ∧ SqT K H a [.int s, .int o] ∧ ∀ H', Same H H' → Q (.bl (isPart s o)) H'
theorem ok_is_part (B : Bt mg) {tk : Tok} (g_OFTEN : mg "OFTEN" = some (.int 1000 tk)) (D : Is K mg "is_part" s_is_part ["thing"]) (H_is_whole : Has P w K mg base 1 "is_whole" ["thing"] (sp_is_whole K)) : Has P w K mg base 2 "is_part" ["thing"] (sp_is_part K) := by
  obtain ⟨f, fd, F, b, g⟩ := D
  obtain ⟨f_is_whole, fd_is_whole, G_is_whole, k_is_whole, b_is_whole, g_is_whole⟩ := H_is_whole
  refine ⟨f, fd, F.ok sc_is_part (fun vs H Q E h => ?_) (fun cdv A outer s H vs Q E hr h => ?_), F.kp, b, g⟩
  · obtain ⟨a, s, o, rfl, _⟩ := h
    rfl
  · obtain ⟨a, s', o, rfl, hS, q⟩ := h
    refine ⟨_, (pss_cons (ps_if (PW.pt (pw_or (pt_not (pt_val (pe_callB call_isi (by rfl) B.isi (by decide +kernel) (pa_cons (pv 0) (pa_cons (pe_bltn (v := .ty "tuple") (by rfl) B.tuple (by decide +kernel) rfl) pa_nil))))) (pw_or (pt_cmpR op_ne (pe_callB call_len_seq (by rfl) B.len PySem.boot_len (pa_cons (pv 0) pa_nil)) pe_int (nomark _)) (pw_or1 (pt_not (pt_val (pe_callB (cr_all rfl) (by rfl) B.all (by decide +kernel) (pa_cons (pe_lc (own := [("one", 1)]) (g := gName 1) (tt := tYes) rfl sc_is_part.nd (pi_tup (pv 0)) (blkOk_by (N := ["thing", "one"]) (sc := defScope s_is_part) (by decide +kernel)) (fun _ _ _ _ _ => pg_name (i := 1) sc_is_part.nd rfl (Or.inl rfl)) (fun _ _ _ _ _ => pts_nil) (fun _ _ _ _ _ => (pe_call G_is_whole (hr.mono (by decide)) (by rfl) g_is_whole k_is_whole b_is_whole .nil pass0 (pa_cons (pv 1) pa_nil)))) pa_nil)))))))) (pss_one (ps_ret pe_bl)) pss_nil) (pss_one (ps_ret (pe_and (pe_chain op_le op_le pe_int (pe_ix ix_tup (pv 0) pe_int (fun _ _ => rfl)) pe_int) (pe_and (pe_cmpR op_ge (pe_ix ix_tup (pv 0) pe_int (fun _ _ => rfl)) pe_int (nomark _)) (pe_one (pe_or (pe_cmpR op_ne (pe_ix ix_tup (pv 0) pe_int (fun _ _ => rfl)) pe_int (nomark _)) (pe_one (pe_cmpR op_le (pe_ix ix_tup (pv 0) pe_int (fun _ _ => rfl)) (pe_glob (v := .int 1000) rfl g_OFTEN ⟨_, rfl⟩) (nomark _)))))))))), ?_⟩
    have i0 : atI ([.int s', .int o] : List V) 0 = some (.int s') := rfl
    have i1 : atI ([.int s', .int o] : List V) 1 = some (.int o) := rfl
    refine ⟨_, rfl, _, _, _, _, true, rfl, .ty _, tyx_tup hS, kit_ty kb_tup_tup, true, rfl, iteF ?_⟩
    refine ⟨_, rfl, a, _, rfl, .inr hS, rfl, _, rfl, iteF ?_⟩
    refine ⟨_, rfl, a, rfl, ⟨_, hS⟩, fun D nD => lc_over_tup (xs := [.int s', .int o]) (ys := [.bl true, .bl true]) (j := 1) hS nD rfl (by show 2 ≤ 16000000; decide) (fun i x y hx hy => ?_) (fun H1 s1 d1 => ?_)⟩
    · have hz : ∃ z, x = .int z ∧ y = .bl true := by
        match i, hx, hy with
        | 0, hx, hy => exact ⟨s', (Option.some.inj hx).symm, (Option.some.inj hy).symm⟩
        | 1, hx, hy => exact ⟨o, (Option.some.inj hx).symm, (Option.some.inj hy).symm⟩
        | i + 2, hx, hy => simp at hx
      obtain ⟨z, rfl, rfl⟩ := hz
      intro H1 s1 R hR
      exact ⟨_, rfl, .int z, "int", true, false, rfl, .base (.int z), kb_int_int, kb_int_bool, hR _ (Same.refl _)⟩
    · refine ⟨D, [true, true], rfl, SqL.of d1, true, rfl, iteF ?_⟩
      have hS1 := Same.tup s1 hS
      have q := q H1 s1
      unfold isPart at q
      refine ⟨_, rfl, a, _, 0, _, rfl, rfl, hS1, i0, _, _, rfl, rfl, ?_⟩
      refine ⟨_, rfl, ?_⟩
      cases c1 : decide (0 ≤ s') with
      | false =>
        rw [c1] at q
        exact iteF ⟨_, rfl, iteF q⟩
      | true =>
        rw [c1] at q
        refine iteT ⟨_, _, rfl, rfl, ?_⟩
        refine ⟨_, rfl, ?_⟩
        cases c2 : decide (s' ≤ 2) with
        | false =>
          rw [c2] at q
          exact iteF q
        | true =>
          rw [c2] at q
          refine iteT ⟨_, rfl, a, _, 1, _, rfl, rfl, hS1, i1, _, _, rfl, rfl, _, rfl, ?_⟩
          cases c3 : decide (1 ≤ o) with
          | false =>
            rw [c3] at q
            exact iteF q
          | true =>
            rw [c3] at q
            refine iteT ⟨_, rfl, a, _, 0, _, rfl, rfl, hS1, i0, rfl, _, rfl, ?_⟩
            rw [dec_vint]
            cases c4 : decide (s' = 1) with
            | false =>
              rw [c4] at q
              exact iteT q
            | true =>
              rw [c4] at q
              exact iteF ⟨_, rfl, a, _, 1, _, rfl, rfl, hS1, i1, _, _, rfl, rfl, q⟩
end
end SqP

namespace SqP
open PySem PySem.Spec PyProof.Rows L2 Sq
section
variable {P : Program} {w : World} {K : PySem.W.Frag} {mg : Str → Option Value} {base : Heap}
/-! ### by_row, of a row -/
structure RowOk (r : PRow) : Prop where
  part : ∀ x ∈ r, PartOk x
  adj : Adj r
theorem RowOk.good {r : PRow} (h : RowOk r) : Good (behind r) := behind_good (parts_pos h.part)
theorem RowOk.bd {r : PRow} (h : RowOk r) (hl : r.length ≤ 200) : Bd 500000 (behind r).1 := (behind_bd r h.part).mono (by omega)
theorem RowOk.take {r : PRow} (h : RowOk r) (n : Nat) : RowOk (r.take n) := ⟨fun x hx => h.part x (List.mem_of_mem_take hx), adj_take n h.adj⟩
def sp_by_row (K : PySem.W.Frag) : Sp := fun vs H Q _ => ∃ (a : Addr) (r : PRow), vs = [.ref a] ∧ RowAt K H a r ∧ RowOk r ∧ r.length ≤ 200 ∧ ∀ H' q, Same H H' → TrAt K H' q (tri (behind r)) → Q (.ref q) H'
theorem ok_by_row (B : Bt mg) {tk : Tok} (g_MOST_rows : mg "MOST_rows" = some (.int 200 tk)) (D : Is K mg "by_row" s_by_row ["row"]) (H_is_part : Has P w K mg base 2 "is_part" ["thing"] (sp_is_part K)) (H_led : Has P w K mg base 1 "led" ["pair", "step", "often"] (sp_led K)) (H_triple_by : Has P w K mg base 1 "triple_by" ["pair"] (sp_triple_by K)) :
    Has P w K mg base 3 "by_row" ["row"] (sp_by_row K) := by
  obtain ⟨f, fd, F, b, g⟩ := D
  obtain ⟨f_is_part, fd_is_part, G_is_part, k_is_part, b_is_part, g_is_part⟩ := H_is_part
  obtain ⟨f_led, fd_led, G_led, k_led, b_led, g_led⟩ := H_led
  obtain ⟨f_triple_by, fd_triple_by, G_triple_by, k_triple_by, b_triple_by, g_triple_by⟩ := H_triple_by
  refine ⟨f, fd, F.ok sc_by_row (fun vs H Q E h => ?_) (fun cdv A outer s H vs Q E hr h => ?_), F.kp, b, g⟩
  · obtain ⟨a, r, rfl, _⟩ := h
    rfl
  · obtain ⟨a, r, rfl, ⟨ts, hL, hP⟩, ok, hl, q⟩ := h
    have hlt := hP.length
    refine ⟨_, (pss_cons (ps_if (PW.pt (pw_or (pt_not (pt_val (pe_callB call_isi (by rfl) B.isi (by decide +kernel) (pa_cons (pv 0) (pa_cons (pe_bltn (v := .ty "list") (by rfl) B.list (by decide +kernel) rfl) pa_nil))))) (pw_or (pt_cmpR op_gt (pe_callB call_len_seq (by rfl) B.len PySem.boot_len (pa_cons (pv 0) pa_nil)) (pe_glob (v := .int 200) rfl g_MOST_rows ⟨_, rfl⟩) (nomark _)) (pw_or1 (pt_not (pt_val (pe_callB (cr_all rfl) (by rfl) B.all (by decide +kernel) (pa_cons (pe_lc (own := [("part", 4)]) (g := gName 4) (tt := tYes) rfl sc_by_row.nd (pi_list (pv 0)) (blkOk_by (N := ["row", "pair", "step", "often", "part", "at"]) (sc := defScope s_by_row) (by decide +kernel)) (fun _ _ _ _ _ => pg_name (i := 4) sc_by_row.nd rfl (Or.inl rfl)) (fun _ _ _ _ _ => pts_nil) (fun _ _ _ _ _ => (pe_call G_is_part (hr.mono (by decide)) (by rfl) g_is_part k_is_part b_is_part .nil pass0 (pa_cons (pv 4) pa_nil)))) pa_nil)))))))) (pss_one ps_never) pss_nil) (pss_cons (ps_if (pt_val (pe_callB (cr_any rfl) (by rfl) B.any (by decide +kernel) (pa_cons (pe_lc (own := [("at", 5)]) (g := gName 5) (tt := tYes) rfl sc_by_row.nd (pi_range2 (by rfl) B.range (pa_cons pe_int (pa_cons (pe_callB call_len_seq (by rfl) B.len PySem.boot_len (pa_cons (pv 0) pa_nil)) pa_nil))) (blkOk_by (N := ["row", "pair", "step", "often", "part", "at"]) (sc := defScope s_by_row) (by decide +kernel)) (fun _ _ _ _ _ => pg_name (i := 5) sc_by_row.nd rfl (Or.inl rfl)) (fun _ _ _ _ _ => pts_nil) (fun _ _ _ _ _ => (pe_cmpR op_eq (pe_ix (ix_tupK (K := K) rfl) (pe_ix (ix_listK (K := K) rfl) (pv 0) (pe_op op_sub (pv 5) pe_int) (fun _ _ => rfl)) pe_int (fun _ _ => rfl)) (pe_ix (ix_tupK (K := K) rfl) (pe_ix (ix_listK (K := K) rfl) (pv 0) (pv 5) (fun _ _ => rfl)) pe_int (fun _ _ => rfl)) (nomark _)))) pa_nil))) (pss_one ps_never) pss_nil) (pss_cons (ps_set (i := 1) sc_by_row.nd rfl (Or.inl rfl) (pe_tup (pa_cons pe_int (pa_cons pe_int pa_nil)))) (pss_cons (ps_for PassesOwn.never rfl (pi_list (pv 0)) (pg_tup rfl (pgs_cons (pg_name (i := 2) sc_by_row.nd rfl (Or.inl rfl)) (pgs_cons (pg_name (i := 3) sc_by_row.nd rfl (Or.inl rfl)) pgs_nil))) (pss_one (ps_set (i := 1) sc_by_row.nd rfl (Or.inl rfl) (pe_call G_led (hr.mono (by decide)) (by rfl) g_led k_led b_led .nil pass0 (pa_cons (pv 1) (pa_cons (pv 2) (pa_cons (pv 3) pa_nil))))))) (pss_one (ps_ret (pe_call G_triple_by (hr.mono (by decide)) (by rfl) g_triple_by k_triple_by b_triple_by .nil pass0 (pa_cons (pv 1) pa_nil)))))))), ?_⟩
    refine ⟨_, rfl, _, _, _, _, true, rfl, .ty _, tyx_lst hL, kit_ty kb_lst_lst, true, rfl, iteF ?_⟩
    refine ⟨_, rfl, a, _, rfl, .inl hL, _, _, rfl, rfl, _, rfl, ?_⟩
    rw [List.length_map, decide_eq_false (show ¬ (200 : Int) < (ts.length : Int) by omega)]
    refine iteF ?_
    refine ⟨_, rfl, a, rfl, ⟨_, hL⟩, fun D nD => lc_over_lst (xs := ts.map V.ref) (ys := List.replicate ts.length (.bl true)) (j := 4) hL nD (by simp) (by rw [List.length_map]; omega) (fun i x y hx hy => ?_) (fun H1 s1 d1 => ?_)⟩
    · rw [List.getElem?_map] at hx
      have hi : i < ts.length := by
        rw [List.getElem?_replicate] at hy
        split at hy
        · assumption
        · cases hy
      have hy2 : y = .bl true := by
        rw [List.getElem?_replicate, if_pos hi] at hy
        exact (Option.some.inj hy).symm
      obtain ⟨t, ht, hS⟩ := hP.get (i := i) (List.getElem?_eq_getElem (by omega))
      rw [ht] at hx
      cases hx
      subst hy2
      intro H1 s1 R hR
      refine ⟨_, rfl, t, _, _, rfl, Same.tup s1 hS, fun H2 s2 => ?_⟩
      rw [isPart_ok (ok.part _ (List.getElem_mem _))]
      exact hR _ s2
    · refine ⟨D, List.replicate ts.length true, rfl, SqL.of (by rw [d1, List.map_replicate]), true, ?_, iteF ?_⟩
      · rw [show (List.replicate ts.length true).all id = true by simp]
      have hL1 := Same.seq s1 hL
      have hP1 := hP.same s1
      refine ⟨_, rfl, a, _, rfl, .inl hL1, 1, _, rfl, ⟨by omega, by omega, by omega, by rw [List.length_map]; omega⟩, ?_⟩
      rw [List.length_map]
      refine fun D2 nD2 => lc_over_range (lo := 1) (n := ((ts.length : Int) - 1).toNat) (ys := List.replicate ((ts.length : Int) - 1).toNat (.bl false)) (j := 5) nD2 (by simp) (by omega) (fun i y hi hy => ?_) (fun H2 s2 d2 => ?_)
      · have hy2 : y = .bl false := by
          rw [List.getElem?_replicate, if_pos hi] at hy
          exact (Option.some.inj hy).symm
        subst hy2
        intro H2 s2 R hR
        obtain ⟨t1, ht1, hS1⟩ := hP1.get (i := i) (List.getElem?_eq_getElem (by omega))
        obtain ⟨t2, ht2, hS2⟩ := hP1.get (i := i + 1) (List.getElem?_eq_getElem (by omega))
        have m1 : (ts.map V.ref)[i]? = some (.ref t1) := by rw [List.getElem?_map, ht1]; rfl
        have m2 : (ts.map V.ref)[i + 1]? = some (.ref t2) := by rw [List.getElem?_map, ht2]; rfl
        have hL2 := Same.seq s2 hL1
        refine ⟨_, rfl, _, rfl, _, _, rfl, rfl, a, _, _, _, rfl, rfl, hL2, at_of (j := i) (by omega) m1, t1, _, 0, _, rfl, rfl, Same.tup s2 hS1, rfl, ?_⟩
        refine ⟨_, rfl, _, rfl, a, _, _, _, rfl, rfl, hL2, at_of (j := i + 1) (by omega) m2, t2, _, 0, _, rfl, rfl, Same.tup s2 hS2, rfl, rfl, ?_⟩
        rw [dec_vint, decide_eq_false (adj_get ok.adj (List.getElem?_eq_getElem (by omega)) (List.getElem?_eq_getElem (by omega)))]
        exact hR _ (Same.refl _)
      · refine ⟨D2, List.replicate ((ts.length : Int) - 1).toNat false, rfl, SqL.of (by rw [d2, List.map_replicate]), false, ?_, iteF ?_⟩
        · rw [show (List.replicate ((ts.length : Int) - 1).toNat false).any id = false by simp]
        have s12 := s1.trans s2
        have hL2 := Same.seq s2 hL1
        have hP2 := hP1.same s2
        refine ⟨len2, fun t0 ht0 => ?_⟩
        have s3 := same_upd (o := .tup [.int 2, .int 1]) ht0
        refine ⟨_, rfl, a, rfl, ⟨_, Same.seq s3 hL2⟩, for_list (K := K) (a := a) (xs := ts.map V.ref) (fun i σ H' => ∃ (pa : Addr) (v2 v3 v4 v5 : Option V), σ = [some (.ref a), some (.ref pa), v2, v3, v4, v5] ∧ Same H2 H' ∧ PrAt K H' pa (behind (r.take i)))
          ⟨t0, _, _, _, _, rfl, s3, SqT.of upd_same⟩ (fun i σ H' _ ⟨_, _, _, _, _, _, s4, _⟩ => Same.seq s4 hL2) ?_ ?_⟩
        · rintro i x σ H' hx ⟨pa, v2, v3, v4, v5, rfl, s4, hpa⟩
          have hi : i < ts.length := by
            have := (List.getElem?_eq_some_iff.mp hx).1
            rw [List.length_map] at this
            exact this
          obtain ⟨t, ht, hS⟩ := hP2.get (i := i) (List.getElem?_eq_getElem (by omega))
          rw [List.getElem?_map, ht] at hx
          cases hx
          have hS4 := Same.tup s4 hS
          have pk := ok.part _ (List.getElem_mem (show i < r.length by omega))
          have okt := ok.take i
          have bt := okt.bd (by rw [List.length_take]; omega)
          have gt := okt.good
          refine ⟨_, _, rfl, hS4, rfl, _, _, rfl, _, _, rfl, rfl, ?_⟩
          refine ⟨_, rfl, _, rfl, _, rfl, pa, _, _, _, rfl, hpa, pk.1, by have := pk.2.1; omega, (Nat.lt_of_le_of_lt (show (r[i]).2.natAbs ≤ 10 ^ 40 by have := pk.2.1; have := pk.2.2.1; omega) (by decide +kernel)), pk.2.2.2, bt.mono (by decide), (bt.le (by have := gt.1; omega) (by have := gt.2.1; omega)).mono (by decide), fun H5 q5 s5 h5 => ?_⟩
          refine ⟨q5, _, _, _, _, rfl, s4.trans s5, ?_⟩
          rw [behind_take (List.getElem?_eq_getElem (show i < r.length by omega))]
          exact h5
        · rintro σ H' ⟨pa, v2, v3, v4, v5, rfl, s4, hpa⟩
          rw [List.length_map, hlt, List.take_length] at hpa
          have bt := ok.bd hl
          have gt := ok.good
          exact ⟨_, rfl, pa, _, rfl, hpa, bt.mono (by decide), (bt.le (by have := gt.1; omega) (by have := gt.2.1; omega)).mono (by decide), fun H5 q5 s5 h5 => q _ _ ((s12.trans s4).trans s5) h5⟩
/-! ### row_of -/
def sp_row_of (K : PySem.W.Frag) : Sp := fun vs H Q _ => ∃ (a : Addr) (r : PRow), vs = [.ref a] ∧ TrAt K H a (tri (behind r)) ∧ Pos r ∧ Adj r ∧ r.length ≤ 1000 ∧ Bd 1000000 (behind r).1 ∧
  ∀ H' q (ts : List Addr), Same H H' → H q = none → H' q = some (.lst (ts.map V.ref)) → Parts K H' ts r → Q (.ref q) H'
theorem set_end {α : Type} (l : List α) (x y : α) : (l ++ [x]).set l.length y = l ++ [y] := by
  rw [List.set_append_right _ _ (Nat.le_refl _), Nat.sub_self]
  rfl
theorem ixN_end {α : Type} (l : List α) (x : α) : ixN (l ++ [x]).length (-1) = some l.length := by
  unfold ixN
  rw [List.length_append, List.length_singleton, if_neg (by decide), if_pos (by omega)]
  congr 1
  omega
theorem ok_row_of (B : Bt mg) (D : Is K mg "row_of" s_row_of ["triple"]) (H_check_triple : Has P w K mg base 4 "check_triple" ["triple"] (sp_check_triple K)) (H_pair_by : Has P w K mg base 34 "pair_by" ["triple"] (sp_pair_by K)) (H_last_of : Has P w K mg base 33 "last_of" ["pair"] (sp_last_of K)) :
    Has P w K mg base 35 "row_of" ["triple"] (sp_row_of K) := by
  obtain ⟨f, fd, F, b, g⟩ := D
  obtain ⟨f_check_triple, fd_check_triple, G_check_triple, k_check_triple, b_check_triple, g_check_triple⟩ := H_check_triple
  obtain ⟨f_pair_by, fd_pair_by, G_pair_by, k_pair_by, b_pair_by, g_pair_by⟩ := H_pair_by
  obtain ⟨f_last_of, fd_last_of, G_last_of, k_last_of, b_last_of, g_last_of⟩ := H_last_of
  refine ⟨f, fd, F.ok sc_row_of (fun vs H Q E h => ?_) (fun cdv A outer s H vs Q E hr h => ?_), F.kp, b, g⟩
  · obtain ⟨a, r, rfl, _⟩ := h
    rfl
  · obtain ⟨a, r, rfl, hS, hp, ha, hl, hb, q⟩ := h
    have hg := behind_good hp
    obtain ⟨c1, c2, c3⟩ := tri_bd hg hb
    refine ⟨_, (pss_cons (ps_expr (pe_call G_check_triple (hr.mono (by decide)) (by rfl) g_check_triple k_check_triple b_check_triple .nil pass0 (pa_cons (pv 0) pa_nil))) (pss_cons (ps_set (i := 1) sc_row_of.nd rfl (Or.inl rfl) (pe_call G_pair_by (hr.mono (by decide)) (by rfl) g_pair_by k_pair_by b_pair_by .nil pass0 (pa_cons (pv 0) pa_nil))) (pss_cons (ps_set (i := 2) sc_row_of.nd rfl (Or.inl rfl) (pe_lst pa_nil)) (pss_cons (ps_while PassesOwn.never (pt_cmpR (op_neD hr.units) (pv 1) (pe_tup (pa_cons pe_int (pa_cons pe_int pa_nil))) (nomark _)) (pss_cons (ps_asg (pe_call G_last_of (hr.mono (by decide)) (by rfl) g_last_of k_last_of b_last_of .nil pass0 (pa_cons (pv 1) pa_nil)) (pg_tup rfl (pgs_cons (pg_name (i := 3) sc_row_of.nd rfl (Or.inl rfl)) (pgs_cons (pg_name (i := 4) sc_row_of.nd rfl (Or.inl rfl)) (pgs_cons (pg_name (i := 1) sc_row_of.nd rfl (Or.inl rfl)) pgs_nil))))) (pss_one (ps_if (PW.pt (pw_and (pt_cmpR op_gt (pe_callB call_len_seq (by rfl) B.len PySem.boot_len (pa_cons (pv 2) pa_nil)) pe_int (nomark _)) (pw_and1 (pt_cmpR op_eq (pe_ix ix_tup (pe_ix ix_list (pv 2) (pe_un un_neg pe_int) (fun _ _ => rfl)) pe_int (fun _ _ => rfl)) (pv 3) (nomark _))))) (pss_one (ps_asg (pe_tup (pa_cons (pv 3) (pa_cons (pe_op op_add (pe_ix ix_tup (pe_ix ix_list (pv 2) (pe_un un_neg pe_int) (fun _ _ => rfl)) pe_int (fun _ _ => rfl)) (pv 4)) pa_nil))) (pg_sub (pv 2) (pe_un un_neg pe_int) set_list))) (pss_one (ps_expr (pe_bm PySem.F.plainAttrs_list PySem.F.slot_list_append PySem.F.type_list_append mt_append (pv 2) (pa_cons (pe_tup (pa_cons (pv 3) (pa_cons (pv 4) pa_nil))) pa_nil)))))))) (pss_one (ps_ret (pe_revL (pv 2)))))))), ?_⟩
    refine ⟨_, rfl, a, _, rfl, hS, tri_ok hg, c1.mono (by decide), c2.mono (by decide), c3.mono (by decide), fun H1 s1 => ?_⟩
    refine ⟨_, rfl, a, _, rfl, Same.tup s1 hS, hg, hb, fun H2 pa s2 hpa => ?_⟩
    have s12 := s1.trans s2
    refine ⟨Nat.zero_le _, fun fo nfo => ?_⟩
    have nfo0 : H fo = none := s12.free nfo
    have s3 := same_upd (o := .lst []) nfo
    refine ⟨fun m σ H' => ∃ (pb : Addr) (sv ov : Option V) (p : Pr) (g : PRow) (w : List Int) (rs : List Addr), σ = [some (.ref a), some (.ref pb), some (.ref fo), sv, ov] ∧ m = w.length ∧ Turns r g p w ∧ Same H H' ∧ PrAt K H' pb p ∧ H' fo = some (.lst (rs.reverse.map V.ref)) ∧ Parts K H' rs g ∧ Bd 1000000 p.1,
      ⟨_, pa, none, none, behind r, [], ex r, [], rfl, rfl, turns_start hp, s12.trans s3, Same.tup s3 hpa, upd_same, trivial, hb⟩, ?_⟩
    rintro m σ H' ⟨pb, sv, ov, p, g, w', rs, rfl, rfl, tu, s4, hpb, hfo, hpt, hbp⟩
    refine ⟨_, rfl, len2, fun t0 ht0 => ?_⟩
    have s5 := same_upd (o := .tup [.int 2, .int 1]) ht0
    have hpb5 := Same.tup s5 hpb
    refine ⟨_, _, two_dp hpb5, two_dp (SqT.of upd_same), two_shaped _ _, two_shaped _ _, _, rfl, ?_⟩
    rw [two_eqv]
    have fin : ∀ (q' : Pr), Same H (upd H' t0 (.tup [.int 2, .int 1])) := fun _ => s4.trans s5
    have s45 := s4.trans s5
    have hfo5 := s5 _ _ hfo
    have hpt5 := hpt.same s5
    generalize upd H' t0 (.tup [.int 2, .int 1]) = H5 at *
    by_cases h0 : p = (2, 1)
    · subst h0
      rw [show (!(decide ((2 : Int) = 2) && decide ((1 : Int) = 1))) = false by decide]
      refine iteF ?_
      have eg := turns_end tu hp ha
      subst eg
      refine ⟨_, rfl, fo, _, rfl, SqL.of hfo5, fun z nz => ?_⟩
      refine q _ z rs (s45.trans (same_upd nz)) (s45.free nz) ?_ (hpt5.same (same_upd nz))
      rw [upd_same, ← List.map_reverse, List.reverse_reverse]
    · have e0 : (!(decide (p.1 = 2) && decide (p.2 = 1))) = true := by
        by_cases c1 : p.1 = 2
        · rw [decide_eq_false (show ¬ p.2 = 1 from fun c2 => h0 (Prod.ext c1 c2))]
          simp
        · rw [decide_eq_false c1]
          rfl
      rw [e0]
      refine iteT ?_
      have gp := turns_good tu
      obtain ⟨w2, lw, tu2⟩ := turns_next tu h0
      have bl2 : Bd 1000000 (lastOf p).2.2.1 := by
        obtain ⟨k1, k2, k3, k4⟩ := last_ok gp h0
        refine hbp.le (by have := k3.1; have := k3.2.1; omega) (last_le gp h0)
      refine ⟨fun σ' H2 => ∃ m', m' < w'.length ∧ ∃ (pb : Addr) (sv ov : Option V) (p : Pr) (g : PRow) (w : List Int) (rs : List Addr), σ' = [some (.ref a), some (.ref pb), some (.ref fo), sv, ov] ∧ m' = w.length ∧ Turns r g p w ∧ Same H H2 ∧ PrAt K H2 pb p ∧ H2 fo = some (.lst (rs.reverse.map V.ref)) ∧ Parts K H2 rs g ∧ Bd 1000000 p.1, fun _ _ h => h, ?_⟩
      refine ⟨_, rfl, pb, p, rfl, hpb5, gp.1, gp.2.1, hbp, fun H6 x y s6 hx hy => ?_⟩
      refine ⟨_, _, rfl, hx, rfl, _, _, rfl, _, _, rfl, _, _, rfl, rfl, ?_⟩
      have hfo6 := s6 _ _ hfo5
      have hpt6 := hpt5.same s6
      have s06 := s45.trans s6
      have hll := turns_len tu hp ha
      have hpl := hpt6.length
      refine ⟨_, rfl, fo, _, rfl, .inl (SqL.of hfo6), _, _, rfl, rfl, _, rfl, ?_⟩
      have app : g = [] ∨ (∃ z g', g = z :: g' ∧ ¬ z.1 = (lastOf p).1) → tDrop (tBM K "list" rAppend (tVar 2) (tCons (tTup (tCons (tVar 3) (tCons (tVar 4) tNil))) tNil)) { nx := fun σ' H2 => ∃ m', m' < w'.length ∧ ∃ (pb : Addr) (sv ov : Option V) (p : Pr) (g : PRow) (w : List Int) (rs : List Addr), σ' = [some (.ref a), some (.ref pb), some (.ref fo), sv, ov] ∧ m' = w.length ∧ Turns r g p w ∧ Same H H2 ∧ PrAt K H2 pb p ∧ H2 fo = some (.lst (rs.reverse.map V.ref)) ∧ Parts K H2 rs g ∧ Bd 1000000 p.1, rt := Q } [some (.ref a), some (.ref y), some (.ref fo), some (.int (lastOf p).1), some (.int (lastOf p).2.1)] H6 := fun hc => by
        refine ⟨_, rfl, .inl ⟨rfl, _, SqL.of hfo6⟩, _, rfl, _, rfl, len2, fun t ht => ?_⟩
        have s7 := same_upd (o := .tup [.int (lastOf p).1, .int (lastOf p).2.1]) ht
        refine ⟨fo, _, _, rfl, rfl, s7 _ _ hfo6, small1000 (by rw [List.length_map, List.length_reverse]; omega), ?_⟩
        have s8 : Same (upd H6 t (.tup [.int (lastOf p).1, .int (lastOf p).2.1])) (upd H6 t (.tup [.int (lastOf p).1, .int (lastOf p).2.1])) := Same.refl _
        refine ⟨_, lw, y, _, _, _, _, _, t :: rs, rfl, rfl, tu2, same_new nfo0 (s06.trans s7), ?_, ?_, ?_, bl2⟩
        · exact tup_keep (hfo := s7 _ _ hfo6) (Same.tup s7 hy)
        · rw [upd_same, List.reverse_cons, List.map_append]
          rfl
        · have ef : front (lastOf p).1 (lastOf p).2.1 g = ((lastOf p).1, (lastOf p).2.1) :: g := by
            rcases hc with e | ⟨z, g', e, ne⟩
            · rw [e]
              rfl
            · rw [e, front_ne ne]
          rw [ef]
          exact ⟨tup_keep (hfo := s7 _ _ hfo6) (SqT.of upd_same), parts_keep (hfo := s7 _ _ hfo6) (hpt6.same s7)⟩
      cases g with
      | nil =>
        cases rs with
        | cons _ _ => exact hpt.elim
        | nil =>
          refine iteF ?_
          exact app (.inl rfl)
      | cons z g' =>
        cases rs with
        | nil => exact hpt.elim
        | cons t rs' =>
          have hpos : decide ((0 : Int) < (((t :: rs').reverse.map V.ref).length : Int)) = true := decide_eq_true (by rw [List.length_map, List.length_reverse, List.length_cons]; omega)
          rw [hpos]
          refine iteT ?_
          have el : (t :: rs').reverse.map V.ref = rs'.reverse.map V.ref ++ [V.ref t] := by
            rw [List.reverse_cons, List.map_append]
            rfl
          rw [el] at hfo6
          have hz := hpt6.1
          refine ⟨_, rfl, _, rfl, fo, _, _, _, rfl, rfl, SqL.of hfo6, atI_last _ _, t, _, 0, _, rfl, rfl, hz, rfl, _, rfl, rfl, _, rfl, ?_⟩
          rw [dec_vint]
          by_cases c : z.1 = (lastOf p).1
          · rw [decide_eq_true c]
            refine iteT ?_
            refine ⟨_, rfl, _, rfl, _, rfl, fo, _, _, _, rfl, rfl, SqL.of hfo6, atI_last _ _, t, _, 1, _, rfl, rfl, hz, rfl, _, rfl, _, _, rfl, rfl, len2, fun t2 ht2 => ?_⟩
            have s7 := same_upd (o := .tup [.int (lastOf p).1, .int (z.2 + (lastOf p).2.1)]) ht2
            refine ⟨_, rfl, _, rfl, fo, _, _, _, rfl, rfl, s7 _ _ hfo6, ixN_end _ _, ?_⟩
            rw [set_end]
            refine ⟨_, lw, y, _, _, _, _, _, t2 :: rs', rfl, rfl, tu2, same_new nfo0 (s06.trans s7), tup_keep (hfo := s7 _ _ hfo6) (Same.tup s7 hy), ?_, ?_, bl2⟩
            · rw [upd_same, List.reverse_cons, List.map_append]
              rfl
            · rw [front_eq c]
              exact ⟨tup_keep (hfo := s7 _ _ hfo6) (SqT.of upd_same), parts_keep (hfo := s7 _ _ hfo6) (hpt6.2.same s7)⟩
          · rw [decide_eq_false c]
            refine iteF ?_
            rw [← el] at hfo6
            exact app (.inr ⟨z, g', rfl, c⟩)
end
end SqP

namespace SqP
open PySem PySem.Spec PyProof.Rows L2 Sq
abbrev s__law_cell_at : Stmt := topS 44
theorem sc__law_cell_at : FnScope ["_law_script", "_law_k"] ["_law_script", "_law_k"] (defScope s__law_cell_at) := ⟨rfl, rfl, rfl, by decide +kernel, rfl, by decide +kernel, by decide +kernel⟩
abbrev s__law_draw : Stmt := topS 45
theorem sc__law_draw : FnScope ["_law_cell", "_law_k", "_law_many", "_law_primes"] ["_law_cell", "_law_k", "_law_many"] (defScope s__law_draw) := ⟨rfl, rfl, rfl, by decide +kernel, rfl, by decide +kernel, by decide +kernel⟩
abbrev s__law_value : Stmt := topS 46
theorem sc__law_value : FnScope ["_law_cell", "_law_k", "_law_limit"] ["_law_cell", "_law_k", "_law_limit"] (defScope s__law_value) := ⟨rfl, rfl, rfl, by decide +kernel, rfl, by decide +kernel, by decide +kernel⟩
abbrev s__law_row : Stmt := topS 47
theorem sc__law_row : FnScope ["_law_script", "_law_begin", "_law_found", "_law_last", "_law_at", "_law_cell", "_law_drawn", "_law_step", "_law_often"] ["_law_script", "_law_begin"] (defScope s__law_row) := ⟨rfl, rfl, rfl, by decide +kernel, rfl, by decide +kernel, by decide +kernel⟩
abbrev s__law_led : Stmt := topS 48
theorem sc__law_led : FnScope ["_law_pair", "_law_step", "_law_often", "_law_m", "_law_n", "_law_turn"] ["_law_pair", "_law_step", "_law_often"] (defScope s__law_led) := ⟨rfl, rfl, rfl, by decide +kernel, rfl, by decide +kernel, by decide +kernel⟩
abbrev s__law_behind : Stmt := topS 49
theorem sc__law_behind : FnScope ["_law_row_here", "_law_found", "_law_step", "_law_often"] ["_law_row_here"] (defScope s__law_behind) := ⟨rfl, rfl, rfl, by decide +kernel, rfl, by decide +kernel, by decide +kernel⟩
abbrev s__law_triple : Stmt := topS 50
theorem sc__law_triple : FnScope ["_law_pair", "_law_m", "_law_n"] ["_law_pair"] (defScope s__law_triple) := ⟨rfl, rfl, rfl, by decide +kernel, rfl, by decide +kernel, by decide +kernel⟩
section
variable {P : Program} {w : World} {K : PySem.W.Frag} {mg : Str → Option Value} {base : Heap}
def sp_cell_at (K : PySem.W.Frag) : Sp := fun vs H Q _ => ∃ (a : Addr) (ns : List Int) (k : Nat), vs = [.ref a, .int k] ∧ SqL K H a (ns.map V.int) ∧ ns.length ≤ 1000 ∧ ∀ c : Int, (c ∈ ns ∨ c = 0) → Q (.int c) H
theorem ok__law_cell_at (B : Bt mg) (D : Is K mg "_law_cell_at" s__law_cell_at ["_law_script", "_law_k"]) : Has P w K mg base 1 "_law_cell_at" ["_law_script", "_law_k"] (sp_cell_at K) := by
  obtain ⟨f, fd, F, b, g⟩ := D
  refine ⟨f, fd, F.ok sc__law_cell_at (fun vs H Q E h => ?_) (fun cdv A outer s H vs Q E hr h => ?_), F.kp, b, g⟩
  · obtain ⟨a, ns, k, rfl, _⟩ := h
    rfl
  · obtain ⟨a, ns, k, rfl, hS, hl, q⟩ := h
    refine ⟨_, (pss_cons (ps_if (pt_cmpR op_lt (pv 1) (pe_callB call_len_seq (by rfl) B.len PySem.boot_len (pa_cons (pv 0) pa_nil)) (nomark _)) (pss_one (ps_ret (pe_ix ix_list (pv 0) (pv 1) (fun _ _ => rfl)))) pss_nil) (pss_one (ps_ret pe_int))), ?_⟩
    refine ⟨_, rfl, _, rfl, a, _, rfl, .inl hS, _, _, rfl, rfl, _, rfl, if_b (fun c => ?_) (fun c => ?_)⟩
    · have c := of_decide_eq_true c
      rw [List.length_map] at c
      have hk : k < ns.length := by omega
      refine ⟨_, rfl, _, rfl, a, _, _, _, rfl, rfl, hS, atI_nat (v := .int ns[k]) ?_, q _ (.inl (List.getElem_mem hk))⟩
      rw [List.getElem?_map, List.getElem?_eq_getElem hk]
      rfl
    · exact q 0 (.inr rfl)

/-! ### led -/
theorem ok__law_led (B : Bt mg) (D : Is K mg "_law_led" s__law_led ["_law_pair", "_law_step", "_law_often"]) : Has P w K mg base 1 "_law_led" ["_law_pair", "_law_step", "_law_often"] (sp_led K) := by
  obtain ⟨f, fd, F, b, g⟩ := D
  refine ⟨f, fd, F.ok sc__law_led (fun vs H Q E h => ?_) (fun cdv A outer s H vs Q E hr h => ?_), F.kp, b, g⟩
  · obtain ⟨a, p, s, o, rfl, _⟩ := h
    rfl
  · obtain ⟨a, p, s, o, rfl, hS, hs, h0, ho, h1, hm, hn, q⟩ := h
    refine ⟨_, (pss_cons (ps_asg (pv 0) (pg_tup rfl (pgs_cons (pg_name (i := 3) sc__law_led.nd rfl (Or.inl rfl)) (pgs_cons (pg_name (i := 4) sc__law_led.nd rfl (Or.inl rfl)) pgs_nil)))) (pss_cons (ps_if (pt_cmpR op_eq (pv 1) pe_int (nomark _)) (pss_one (ps_ret (pe_tup (pa_cons (pe_op op_add (pv 3) (pe_op op_mulX (pv 2) (pe_op op_sub (pv 3) (pv 4)))) (pa_cons (pe_op op_add (pv 4) (pe_op op_mulX (pv 2) (pe_op op_sub (pv 3) (pv 4)))) pa_nil))))) pss_nil) (pss_cons (ps_if (pt_cmpR op_eq (pv 1) pe_int (nomark _)) (pss_one (ps_ret (pe_tup (pa_cons (pe_op op_add (pv 3) (pe_op op_mulX (pe_op op_mul pe_int (pv 2)) (pv 4))) (pa_cons (pv 4) pa_nil))))) pss_nil) (pss_cons (ps_for PassesOwn.never rfl (pi_range1 (by rfl) B.range (pa_cons (pv 2) pa_nil)) (pg_name (i := 5) sc__law_led.nd rfl (Or.inl rfl)) (pss_one (ps_par (i := 3) (j := 4) rfl sc__law_led.nd rfl rfl (by decide) rfl rfl (pa_cons (pe_op op_add (pe_op op_mul pe_int (pv 3)) (pv 4)) (pa_cons (pv 3) pa_nil)) (by rfl)))) (pss_one (ps_ret (pe_tup (pa_cons (pv 3) (pa_cons (pv 4) pa_nil))))))))), ?_⟩
    refine ⟨_, rfl, _, _, rfl, hS, rfl, _, _, rfl, _, _, rfl, rfl, ?_⟩
    refine ⟨_, rfl, rfl, _, rfl, ?_⟩
    rw [dec_vint]
    rcases hs with rfl | rfl | rfl
    · refine iteT ?_
      walk_at "rd"
      refine ⟨len2, new_tup (K := K) fun H1 t s1 t1 => q _ _ s1 ?_⟩
      rw [led, if_pos rfl]
      exact t1
    · refine iteF ⟨_, rfl, rfl, _, rfl, ?_⟩
      rw [dec_vint]
      refine iteF ?_
      have ho1 := h1 rfl
      refine ⟨_, rfl, o, rfl, by omega, by omega, for_range (lo := 0) (n := o.toNat) (fun i σ H' => ∃ v : Option V, σ = [some (.ref a), some (.int 1), some (.int o), some (.int (rep 1 i p).1), some (.int (rep 1 i p).2), v] ∧ H' = H) ⟨none, rfl, rfl⟩ ?_ ?_⟩
      · rintro i σ H' hi ⟨v, rfl, rfl⟩
        refine ⟨_, rfl, _, _, rfl, rfl, .inl ⟨by decide, by decide⟩, _, rfl, _, _, rfl, rfl, _, rfl, _, _, rfl, some (.int (0 + i)), ?_, rfl⟩
        rw [rep1_succ]
        rfl
      · rintro σ H' ⟨v, rfl, rfl⟩
        refine ⟨_, rfl, _, rfl, len2, new_tup (K := K) fun H1 t s1 t1 => q _ _ s1 ?_⟩
        rw [led, if_neg (by decide), if_neg (by decide)]
        exact t1
    · refine iteF ⟨_, rfl, rfl, _, rfl, ?_⟩
      rw [dec_vint]
      refine iteT ?_
      walk_at "rd"
      refine ⟨len2, new_tup (K := K) fun H1 t s1 t1 => q _ _ s1 ?_⟩
      rw [led, if_neg (by decide), if_pos rfl]
      exact t1

theorem ok__law_triple (D : Is K mg "_law_triple" s__law_triple ["_law_pair"]) : Has P w K mg base 1 "_law_triple" ["_law_pair"] (sp_triple_by K) := by
  obtain ⟨f, fd, F, b, g⟩ := D
  refine ⟨f, fd, F.ok sc__law_triple (fun vs H Q E h => ?_) (fun cdv A outer s H vs Q E hr h => ?_), F.kp, b, g⟩
  · obtain ⟨a, p, rfl, _⟩ := h
    rfl
  · obtain ⟨a, p, rfl, hS, hm, hn, q⟩ := h
    refine ⟨_, (pss_cons (ps_asg (pv 0) (pg_tup rfl (pgs_cons (pg_name (i := 1) sc__law_triple.nd rfl (Or.inl rfl)) (pgs_cons (pg_name (i := 2) sc__law_triple.nd rfl (Or.inl rfl)) pgs_nil)))) (pss_one (ps_ret (pe_tup (pa_cons (pe_op op_sub (pe_op op_mulX (pv 1) (pv 1)) (pe_op op_mulX (pv 2) (pv 2))) (pa_cons (pe_op op_mulX (pe_op op_mul pe_int (pv 1)) (pv 2)) (pa_cons (pe_op op_add (pe_op op_mulX (pv 1) (pv 1)) (pe_op op_mulX (pv 2) (pv 2))) pa_nil))))))), ?_⟩
    refine ⟨_, rfl, _, _, rfl, hS, rfl, _, _, rfl, _, _, rfl, rfl, ?_⟩
    walk_at "rd"
    refine ⟨len3, new_tup (K := K) fun H1 t s1 t1 => q _ _ s1 t1⟩

/-! ### the law's draws -/
def sp_draw : Sp := fun vs H Q _ => ∃ c k m : Int, vs = [.int c, .int k, .int m] ∧ 0 < m ∧ ∀ H' r, Same H H' → 0 ≤ r → r < m → Q (.int r) H'
theorem ok__law_draw (D : Is K mg "_law_draw" s__law_draw ["_law_cell", "_law_k", "_law_many"]) : Has P w K mg base 1 "_law_draw" ["_law_cell", "_law_k", "_law_many"] sp_draw := by
  obtain ⟨f, fd, F, b, g⟩ := D
  refine ⟨f, fd, F.ok sc__law_draw (fun vs H Q E h => ?_) (fun cdv A outer s H vs Q E hr h => ?_), F.kp, b, g⟩
  · obtain ⟨c, k, m, rfl, _⟩ := h
    rfl
  · obtain ⟨c, k, m, rfl, hm, q⟩ := h
    refine ⟨_, (pss_cons (ps_set (i := 3) sc__law_draw.nd rfl (Or.inl rfl) (pe_tup (pa_cons pe_int (pa_cons pe_int (pa_cons pe_int (pa_cons pe_int (pa_cons pe_int (pa_cons pe_int (pa_cons pe_int (pa_cons pe_int (pa_cons pe_int (pa_cons pe_int (pa_cons pe_int (pa_cons pe_int (pa_cons pe_int (pa_cons pe_int (pa_cons pe_int (pa_cons pe_int pa_nil)))))))))))))))))) (pss_one (ps_ret (pe_op op_mod (pe_op op_mod (pe_op op_add (pe_op op_mul (pv 0) pe_int) (pe_op op_mul (pv 1) pe_int)) (pe_ix ix_tup (pv 3) (pe_op op_mod (pv 1) pe_int) (fun _ _ => rfl))) (pv 2))))), ?_⟩
    refine ⟨by show 16 ≤ sizeLine; decide, fun t ht => ?_⟩
    refine ⟨_, rfl, _, _, rfl, rfl, .inr ⟨by decide, by decide⟩, _, rfl, _, _, rfl, rfl, .inr ⟨by decide, by decide⟩, _, _, rfl, rfl, ?_⟩
    refine ⟨_, rfl, _, rfl, _, _, rfl, rfl, (by decide : (0 : Int) < 16), ?_⟩
    have e1 := Int.emod_nonneg k (show (16 : Int) ≠ 0 by decide)
    have e2 := Int.emod_lt_of_pos k (show (0 : Int) < 16 by decide)
    obtain ⟨j, hj⟩ : ∃ j : Nat, k % 16 = (j : Int) := ⟨(k % 16).toNat, by omega⟩
    have hj2 : j < 16 := by omega
    have hv : ∃ v : Int, ([.int 1000003, .int 1000033, .int 1000037, .int 1000039, .int 1000081, .int 1000099, .int 1000117, .int 1000121, .int 1000133, .int 1000151, .int 1000159, .int 1000171, .int 1000183, .int 1000187, .int 1000193, .int 1000199] : List V)[j]? = some (.int v) ∧ 0 < v := by
      match j, hj2 with
      | 0, _ => exact ⟨_, rfl, by decide⟩
      | 1, _ => exact ⟨_, rfl, by decide⟩
      | 2, _ => exact ⟨_, rfl, by decide⟩
      | 3, _ => exact ⟨_, rfl, by decide⟩
      | 4, _ => exact ⟨_, rfl, by decide⟩
      | 5, _ => exact ⟨_, rfl, by decide⟩
      | 6, _ => exact ⟨_, rfl, by decide⟩
      | 7, _ => exact ⟨_, rfl, by decide⟩
      | 8, _ => exact ⟨_, rfl, by decide⟩
      | 9, _ => exact ⟨_, rfl, by decide⟩
      | 10, _ => exact ⟨_, rfl, by decide⟩
      | 11, _ => exact ⟨_, rfl, by decide⟩
      | 12, _ => exact ⟨_, rfl, by decide⟩
      | 13, _ => exact ⟨_, rfl, by decide⟩
      | 14, _ => exact ⟨_, rfl, by decide⟩
      | 15, _ => exact ⟨_, rfl, by decide⟩
      | n + 16, h => omega
    obtain ⟨v, hv1, hv2⟩ := hv
    refine ⟨t, _, _, _, rfl, rfl, SqT.of upd_same, at_of hj hv1, _, _, rfl, rfl, hv2, _, rfl, _, _, rfl, rfl, hm, ?_⟩
    exact q _ _ (same_upd ht) (Int.emod_nonneg _ (by omega)) (Int.emod_lt_of_pos _ hm)

def sp_value : Sp := fun vs H Q _ => ∃ c k m : Int, vs = [.int c, .int k, .int m] ∧ 0 < m ∧ m ≤ 10 ^ 40 ∧ 0 ≤ k ∧ k ≤ 1000 ∧ Bd 1048577 c ∧ ∀ H' r, Same H H' → 0 ≤ r → r < 10 ^ 40 → Q (.int r) H'
theorem ok__law_value (D : Is K mg "_law_value" s__law_value ["_law_cell", "_law_k", "_law_limit"]) (H__law_draw : Has P w K mg base 1 "_law_draw" ["_law_cell", "_law_k", "_law_many"] sp_draw) : Has P w K mg base 2 "_law_value" ["_law_cell", "_law_k", "_law_limit"] sp_value := by
  obtain ⟨f, fd, F, b, g⟩ := D
  obtain ⟨f__law_draw, fd__law_draw, G__law_draw, k__law_draw, b__law_draw, g__law_draw⟩ := H__law_draw
  refine ⟨f, fd, F.ok sc__law_value (fun vs H Q E h => ?_) (fun cdv A outer s H vs Q E hr h => ?_), F.kp, b, g⟩
  · obtain ⟨c, k, m, rfl, _⟩ := h
    rfl
  · obtain ⟨c, k, m, rfl, hm, hm2, hk, hk2, hc, q⟩ := h
    refine ⟨_, (pss_cons (ps_if (pt_cmpR op_ge (pv 0) (pe_op op_pow pe_int pe_int) (nomark _)) (pss_one (ps_ret (pe_op op_mod (pe_op op_fdiv (pe_op op_sub (pv 0) (pe_op op_pow pe_int pe_int)) (pe_ix ix_tup (pe_tup (pa_cons pe_int (pa_cons pe_int (pa_cons pe_int (pa_cons pe_int pa_nil))))) (pe_op op_mod (pv 1) pe_int) (fun _ _ => rfl))) (pe_op op_pow pe_int pe_int)))) pss_nil) (pss_one (ps_ret (pe_call G__law_draw (hr.mono (by decide)) (by rfl) g__law_draw k__law_draw b__law_draw .nil pass0 (pa_cons (pe_op op_mulX (pe_op op_add (pv 0) (pe_op op_mul pe_int (pv 1))) (pe_op op_add (pe_op op_add (pv 0) (pe_op op_mul pe_int (pv 1))) pe_int)) (pa_cons (pe_op op_add (pe_op op_mod (pv 1) pe_int) pe_int) (pa_cons (pv 2) pa_nil))))))), ?_⟩
    refine ⟨_, rfl, _, _, rfl, rfl, ⟨by decide, by decide, by decide⟩, _, _, rfl, rfl, _, rfl, if_b (fun e => ?_) (fun e => ?_)⟩
    · have e1 := Int.emod_nonneg k (show (4 : Int) ≠ 0 by decide)
      have e2 := Int.emod_lt_of_pos k (show (0 : Int) < 4 by decide)
      obtain ⟨j, hj⟩ : ∃ j : Nat, k % 4 = (j : Int) := ⟨(k % 4).toNat, by omega⟩
      have hj2 : j < 4 := by omega
      have hv : ∃ v : Int, ([.int 1, .int 7, .int 49, .int 343] : List V)[j]? = some (.int v) ∧ 0 < v ∧ v < 1073741824 := by
        match j, hj2 with
        | 0, _ => exact ⟨_, rfl, by decide⟩
        | 1, _ => exact ⟨_, rfl, by decide⟩
        | 2, _ => exact ⟨_, rfl, by decide⟩
        | 3, _ => exact ⟨_, rfl, by decide⟩
        | n + 4, h => omega
      obtain ⟨v, hv1, hv2⟩ := hv
      refine ⟨_, rfl, _, _, rfl, rfl, ⟨by decide, by decide, by decide⟩, _, _, rfl, rfl, by show 4 ≤ sizeLine; decide, fun t ht => ?_⟩
      refine ⟨_, rfl, _, _, rfl, rfl, (by decide : (0 : Int) < 4), t, _, _, _, rfl, rfl, SqT.of upd_same, at_of hj hv1, _, _, rfl, rfl, hv2, _, _, rfl, rfl, ⟨by decide, by decide, by decide⟩, _, _, rfl, rfl, (by decide +kernel : (0 : Int) < 10 ^ (40 : Int).toNat), ?_⟩
      exact q _ _ (same_upd ht) (Int.emod_nonneg _ (by decide +kernel)) (Int.emod_lt_of_pos _ (by decide +kernel))
    · have hk9 := Int.emod_nonneg k (show (9 : Int) ≠ 0 by decide)
      have b1 : Bd 1048579 (c + 977 * k) := (hc.add ((bd_small (k := 64) (show (977 * k).natAbs < 2 ^ 64 by omega)).mono (by decide))).mono (by decide)
      have b2 : Bd 1048579 (c + 31 * k + 5) := ((hc.add ((bd_small (k := 64) (show (31 * k).natAbs < 2 ^ 64 by omega)).mono (by decide))).add (bd_small (k := 1048578) (Nat.lt_of_lt_of_le (show (5 : Int).natAbs < 2 ^ 64 by decide) (Nat.pow_le_pow_right (by decide) (by decide))))).mono (by decide)
      refine ⟨_, rfl, _, rfl, _, _, rfl, rfl, .inl ⟨by decide, by decide⟩, _, _, rfl, rfl, _, rfl, _, rfl, _, _, rfl, rfl, .inl ⟨by decide, by decide⟩, _, _, rfl, rfl, _, _, rfl, rfl, _, _, rfl, rfl, bd_mul b1 b2 (by decide), ?_⟩
      refine ⟨_, rfl, _, _, rfl, rfl, (by decide : (0 : Int) < 9), _, _, rfl, rfl, _, rfl, _, _, _, rfl, hm, fun H1 r s1 r0 r1 => q _ _ s1 r0 (by omega)⟩

end
end SqP
namespace SqP
open PySem PySem.Spec PyProof.Rows L2 Sq
section
variable {P : Program} {w : World} {K : PySem.W.Frag} {mg : Str → Option Value} {base : Heap}
/-! ### _law_row -/
/-- a row just made, in a list of its own -/
def NewRow (K : PySem.W.Frag) (H H' : Hp) (q : Addr) (r : PRow) : Prop := Same H H' ∧ H q = none ∧ ∃ ts : List Addr, H' q = some (.lst (ts.map V.ref)) ∧ Parts K H' ts r
def sp_row (K : PySem.W.Frag) : Sp := fun vs H Q _ => ∃ (a : Addr) (ns : List Int) (b : Nat), vs = [.ref a, .int b] ∧ SqL K H a (ns.map V.int) ∧ (∀ n ∈ ns, Bd 1048577 n) ∧ b ≤ 100 ∧ ∀ H' q r, NewRow K H H' q r → RowOk r → r.length ≤ 16 → Q (.ref q) H'
structure RowInv (K : PySem.W.Frag) (H : Hp) (a : Addr) (b : Nat) (fo c0 : Addr) (cs : List Int) (i : Nat) (σ : L2.St) (H' : Hp) : Prop where
  ex : ∃ (r : PRow) (l : Int) (ts : List Addr) (v4 v5 v6 v7 v8 : Option V), σ = [some (.ref a), some (.int b), some (.ref fo), some (.int l), v4, v5, v6, v7, v8] ∧ H' fo = some (.lst (ts.map V.ref)) ∧ Parts K H' ts r ∧ RowOk r ∧ LastIs r l ∧ r.length = i
  same : Same H H'
  cut : H' c0 = some (.lst (cs.map V.int))
theorem ok__law_row (B : Bt mg) (D : Is K mg "_law_row" s__law_row ["_law_script", "_law_begin"]) (H__law_value : Has P w K mg base 2 "_law_value" ["_law_cell", "_law_k", "_law_limit"] sp_value) : Has P w K mg base 3 "_law_row" ["_law_script", "_law_begin"] (sp_row K) := by
  obtain ⟨f, fd, F, b, g⟩ := D
  obtain ⟨f__law_value, fd__law_value, G__law_value, k__law_value, b__law_value, g__law_value⟩ := H__law_value
  refine ⟨f, fd, F.ok sc__law_row (fun vs H Q E h => ?_) (fun cdv A outer s H vs Q E hr h => ?_), F.kp, b, g⟩
  · obtain ⟨a, ns, b, rfl, _⟩ := h
    rfl
  · obtain ⟨a, ns, b, rfl, hS, hb, hbl, q⟩ := h
    refine ⟨_, (pss_cons (ps_par (i := 2) (j := 3) rfl sc__law_row.nd rfl rfl (by decide) rfl rfl (pa_cons (pe_lst pa_nil) (pa_cons pe_int pa_nil)) (by rfl)) (pss_cons (ps_for PassesOwn.never rfl (pi_enum (by rfl) B.enum (pa_cons (pe_slice sl_list (pv 0) (po_some (pv 1)) (po_some (pe_op op_add (pv 1) pe_int))) pa_nil)) (pg_tup rfl (pgs_cons (pg_name (i := 4) sc__law_row.nd rfl (Or.inl rfl)) (pgs_cons (pg_name (i := 5) sc__law_row.nd rfl (Or.inl rfl)) pgs_nil))) (pss_cons (ps_set (i := 6) sc__law_row.nd rfl (Or.inl rfl) (pe_call G__law_value (hr.mono (by decide)) (by rfl) g__law_value k__law_value b__law_value .nil pass0 (pa_cons (pv 5) (pa_cons (pe_op op_add (pv 4) (pv 1)) (pa_cons pe_int pa_nil))))) (pss_cons (ps_set (i := 7) sc__law_row.nd rfl (Or.inl rfl) (pe_ifExp (pt_cmpR op_eq (pv 3) pe_int (nomark _)) (pe_op op_mod (pv 6) pe_int) (pe_op op_mod (pe_op op_add (pe_op op_add (pv 3) pe_int) (pe_op op_mod (pv 6) pe_int)) pe_int))) (pss_cons (ps_set (i := 8) sc__law_row.nd rfl (Or.inl rfl) (pe_op op_add pe_int (pe_op op_mod (pe_op op_fdiv (pv 6) pe_int) (pe_ix ix_tup (pe_tup (pa_cons pe_int (pa_cons pe_int (pa_cons pe_int (pa_cons (pe_op op_pow pe_int pe_int) pa_nil))))) (pe_op op_mod (pe_op op_fdiv (pv 6) pe_int) pe_int) (fun _ _ => rfl))))) (pss_cons (ps_if (pt_cmpR op_eq (pv 7) pe_int (nomark _)) (pss_one (ps_set (i := 8) sc__law_row.nd rfl (Or.inl rfl) (pe_op op_add pe_int (pe_op op_mod (pe_op op_fdiv (pv 6) pe_int) (pe_ifExp (pt_cmpR op_gt (pe_op op_mod (pe_op op_fdiv (pv 6) pe_int) pe_int) pe_int (nomark _)) pe_int pe_int))))) pss_nil) (pss_cons (ps_expr (pe_bm PySem.F.plainAttrs_list PySem.F.slot_list_append PySem.F.type_list_append mt_append (pv 2) (pa_cons (pe_tup (pa_cons (pv 7) (pa_cons (pv 8) pa_nil))) pa_nil))) (pss_one (ps_set (i := 3) sc__law_row.nd rfl (Or.inl rfl) (pv 7))))))))) (pss_one (ps_ret (pv 2))))), ?_⟩
    refine ⟨Nat.zero_le _, fun fo nfo => ⟨_, _, rfl, ?_⟩⟩
    have s1 := same_upd (o := .lst []) nfo
    refine ⟨_, rfl, _, rfl, b, rfl, _, rfl, _, _, rfl, rfl, (b : Int) + 16, rfl, a, _, rfl, Same.seq s1 hS, fun c0 nc0 => ?_⟩
    obtain ⟨cs, e, hcs⟩ := cut_ints ns (some (b : Int)) (some ((b : Int) + 16))
    have hlen : cs.length ≤ 16 := by
      have := cut_len (ns.map V.int) b (b + 16) (by omega)
      rw [show (((b + 16 : Nat) : Int)) = (b : Int) + 16 by omega, e, List.length_map] at this
      omega
    rw [e]
    have s2 := same_upd (o := .lst (cs.map V.int)) nc0
    have ne0 : c0 ≠ fo := fun z => by
      rw [z, upd_same] at nc0
      cases nc0
    have nfc : H c0 = none := s1.free nc0
    refine ⟨c0, _, rfl, .inl (.inl upd_same), for_enum (K := K) (a := c0) (xs := cs.map V.int) (RowInv K H a b fo c0 cs) ⟨⟨[], 3, [], _, _, _, _, _, rfl, by rw [upd_ne ne0.symm, upd_same]; rfl, trivial, ⟨(fun x hx => by cases hx), trivial⟩, .inl ⟨rfl, rfl⟩, rfl⟩, s1.trans s2, upd_same⟩
      (fun i σ H' h => SqL.of h.cut) ?_ ?_⟩
    · rintro i x T σ H' hx ⟨⟨r, l, ts, v4, v5, v6, v7, v8, rfl, hfo, hpt, ok, hla, rfl⟩, s3, hc0⟩ nT
      rw [List.getElem?_map] at hx
      have hi : r.length < cs.length := by
        rcases Nat.lt_or_ge r.length cs.length with z | z
        · exact z
        · rw [List.getElem?_eq_none z] at hx
          cases hx
      rw [List.getElem?_eq_getElem hi] at hx
      cases hx
      have sT := same_upd (o := .tup [.int (r.length : Nat), .int cs[r.length]]) nT
      refine ⟨T, _, rfl, SqT.of upd_same, rfl, _, _, rfl, _, _, rfl, rfl, ?_⟩
      refine ⟨_, rfl, _, rfl, _, rfl, _, _, rfl, rfl, cs[r.length], (r.length : Int) + b, 900000, rfl, by decide, by decide +kernel, by omega, by omega, hb _ (hcs _ (List.getElem_mem hi)), fun H4 d s4 d0 d1 => ?_⟩
      have s34 := (sT.trans s4)
      show tIf (tTest (tOp rEq (tVar 3) (tC (.int 3)))) _ _ _ _ _
      refine tif_mk (c := decide (l = 3)) (v := .int (if l = 3 then d % 3 else (l + 1 + d % 2) % 3)) (fun R hR => ⟨_, rfl, rfl, _, rfl, by rw [dec_vint]; exact hR⟩)
        (fun e R hR => ⟨_, rfl, _, _, rfl, rfl, (show (0 : Int) < 3 by decide), by rw [if_pos (of_decide_eq_true e)] at hR; exact hR⟩)
        (fun e R hR => ⟨_, rfl, _, _, rfl, rfl, _, rfl, _, _, rfl, rfl, (show (0 : Int) < 2 by decide), _, _, rfl, rfl, _, _, rfl, rfl, (show (0 : Int) < 3 by decide), by rw [if_neg (of_decide_eq_false e)] at hR; exact hR⟩) ?_
      generalize hst : (if l = 3 then d % 3 else (l + 1 + d % 2) % 3) = st'
      refine ⟨_, rfl, _, _, rfl, rfl, ⟨by decide, by decide⟩, _, _, rfl, rfl, ⟨by decide, by decide, by decide⟩, by show 4 ≤ sizeLine; decide, fun t5 nt5 => ?_⟩
      have s5 := same_upd (o := .tup [.int 2, .int 7, .int 900000, .int (10 ^ (40 : Int).toNat)]) nt5
      have e1 := Int.emod_nonneg (d / 7) (show (4 : Int) ≠ 0 by decide)
      have e2 := Int.emod_lt_of_pos (d / 7) (show (0 : Int) < 4 by decide)
      obtain ⟨j, hj⟩ : ∃ j : Nat, d / 7 % 4 = (j : Int) := ⟨(d / 7 % 4).toNat, by omega⟩
      have hj2 : j < 4 := by omega
      have hv : ∃ v : Int, ([.int 2, .int 7, .int 900000, .int (10 ^ (40 : Int).toNat)] : List V)[j]? = some (.int v) ∧ 0 < v ∧ v ≤ 10 ^ 40 := by
        match j, hj2 with
        | 0, _ => exact ⟨_, rfl, by decide +kernel, by decide +kernel⟩
        | 1, _ => exact ⟨_, rfl, by decide +kernel, by decide +kernel⟩
        | 2, _ => exact ⟨_, rfl, by decide +kernel, by decide +kernel⟩
        | 3, _ => exact ⟨_, rfl, by decide +kernel, by decide +kernel⟩
        | n + 4, h => omega
      obtain ⟨v, hv1, hv2, hv3⟩ := hv
      refine ⟨_, rfl, _, _, rfl, rfl, ⟨by decide, by decide⟩, _, _, rfl, rfl, (show (0 : Int) < 4 by decide), t5, _, _, _, rfl, rfl, SqT.of upd_same, at_of hj hv1, _, _, rfl, rfl, hv2, _, _, rfl, rfl, ?_⟩
      obtain ⟨o1, o2⟩ := often_ok (d := d / 3) (m := v) (Int.ediv_nonneg d0 (by decide)) hv2 hv3
      have s35 := s34.trans s5
      have hpt5 := hpt.same s35
      have hfo5 := s35 _ _ hfo
      have hc05 := s35 _ _ hc0
      have s6 := s3.trans s35
      generalize upd H4 t5 (.tup [.int 2, .int 7, .int 900000, .int (10 ^ (40 : Int).toNat)]) = H5 at *
      have rest : ∀ o : Int, 1 ≤ o → o ≤ 10 ^ 40 → (st' = 1 → o ≤ 1000) → ∀ rt : VK, ∀ bk : L2.St → Hp → Prop, tSeq (tDrop (tBM K "list" rAppend (tVar 2) (tCons (tTup (tCons (tVar 7) (tCons (tVar 8) tNil))) tNil))) (tAsg (tVar 7) (gName 3)) { nx := RowInv K H a b fo c0 cs (r.length + 1), ct := RowInv K H a b fo c0 cs (r.length + 1), bk := bk, rt := rt } [some (.ref a), some (.int b), some (.ref fo), some (.int l), some (.int (r.length : Nat)), some (.int cs[r.length]), some (.int d), some (.int st'), some (.int o)] H5 := fun o o1 o2 o3 rt bk => by
        refine ⟨_, rfl, .inl ⟨rfl, _, SqL.of hfo5⟩, _, rfl, _, rfl, len2, fun t6 nt6 => ?_⟩
        have s7 := same_upd (o := .tup [.int st', .int o]) nt6
        refine ⟨fo, _, _, rfl, rfl, s7 _ _ hfo5, small1000 (by rw [List.length_map, hpt.length]; omega), ?_⟩
        obtain ⟨n1, n2, n3⟩ := next_ok hla ok.part ok.adj hst.symm o1 o2 o3
        refine ⟨_, rfl, ⟨⟨r ++ [(st', o)], st', ts ++ [t6], _, _, _, _, _, rfl, ?_, ?_, ⟨n1, n2⟩, n3, by rw [List.length_append]; rfl⟩, same_new nfo (s6.trans s7), ?_⟩⟩
        · rw [upd_same, List.map_append]
          rfl
        · exact Parts.snoc (x := (st', o)) (tup_keep (hfo := s7 _ _ hfo5) (SqT.of upd_same)) (parts_keep (hfo := s7 _ _ hfo5) (hpt5.same s7))
        · rw [upd_ne ne0]
          exact s7 _ _ hc05
      refine ⟨_, rfl, rfl, _, rfl, ?_⟩
      rw [dec_vint]
      refine if_b (fun c1 => ?_) (fun c1 => ?_)
      · refine ⟨_, rfl, _, _, rfl, rfl, ⟨by decide, by decide⟩, ?_⟩
        refine tif_mk (c := decide (0 < d / 11 % 40)) (v := .int (if 0 < d / 11 % 40 then 4 else 1000)) (fun R hR => ⟨_, rfl, _, _, rfl, rfl, ⟨by decide, by decide⟩, _, _, rfl, rfl, (show (0 : Int) < 40 by decide), _, _, rfl, rfl, _, rfl, hR⟩)
          (fun e R hR => by rw [if_pos (of_decide_eq_true e)] at hR; exact hR) (fun e R hR => by rw [if_neg (of_decide_eq_false e)] at hR; exact hR) ?_
        have hm : 0 < (if 0 < d / 11 % 40 then (4 : Int) else 1000) ∧ (if 0 < d / 11 % 40 then (4 : Int) else 1000) ≤ 1000 := by
          split <;> decide
        have p1 := Int.emod_nonneg (d / 5) (show (if 0 < d / 11 % 40 then (4 : Int) else 1000) ≠ 0 by omega)
        have p2 := Int.emod_lt_of_pos (d / 5) hm.1
        refine ⟨_, _, rfl, rfl, hm.1, _, _, rfl, rfl, ?_⟩
        exact rest _ (by omega) (by omega) (fun _ => by omega) _ _
      · exact rest _ o1 o2 (fun z => absurd z (of_decide_eq_false c1)) _ _
    · rintro σ H' ⟨⟨r, l, ts, v4, v5, v6, v7, v8, rfl, hfo, hpt, ok, hla, hrl⟩, s3, hc0⟩
      rw [List.length_map] at hrl
      exact ⟨_, rfl, q H' fo r ⟨s3, nfo, ts, hfo, hpt⟩ ok (by omega)⟩
/-! ### _law_behind -/
def sp_behind (K : PySem.W.Frag) : Sp := fun vs H Q _ => ∃ (a : Addr) (r : PRow), vs = [.ref a] ∧ RowAt K H a r ∧ (∀ x ∈ r, PartOk x) ∧ r.length ≤ 200 ∧ ∀ H' q, Same H H' → PrAt K H' q (behind r) → Q (.ref q) H'
theorem ok__law_behind (D : Is K mg "_law_behind" s__law_behind ["_law_row_here"]) (H__law_led : Has P w K mg base 1 "_law_led" ["_law_pair", "_law_step", "_law_often"] (sp_led K)) : Has P w K mg base 2 "_law_behind" ["_law_row_here"] (sp_behind K) := by
  obtain ⟨f, fd, F, b, g⟩ := D
  obtain ⟨f__law_led, fd__law_led, G__law_led, k__law_led, b__law_led, g__law_led⟩ := H__law_led
  refine ⟨f, fd, F.ok sc__law_behind (fun vs H Q E h => ?_) (fun cdv A outer s H vs Q E hr h => ?_), F.kp, b, g⟩
  · obtain ⟨a, r, rfl, _⟩ := h
    rfl
  · obtain ⟨a, r, rfl, ⟨ts, hL, hP⟩, ok, hl, q⟩ := h
    have hlt := hP.length
    refine ⟨_, (pss_cons (ps_set (i := 1) sc__law_behind.nd rfl (Or.inl rfl) (pe_tup (pa_cons pe_int (pa_cons pe_int pa_nil)))) (pss_cons (ps_for PassesOwn.never rfl (pi_list (pv 0)) (pg_tup rfl (pgs_cons (pg_name (i := 2) sc__law_behind.nd rfl (Or.inl rfl)) (pgs_cons (pg_name (i := 3) sc__law_behind.nd rfl (Or.inl rfl)) pgs_nil))) (pss_one (ps_set (i := 1) sc__law_behind.nd rfl (Or.inl rfl) (pe_call G__law_led (hr.mono (by decide)) (by rfl) g__law_led k__law_led b__law_led .nil pass0 (pa_cons (pv 1) (pa_cons (pv 2) (pa_cons (pv 3) pa_nil))))))) (pss_one (ps_ret (pv 1))))), ?_⟩
    refine ⟨len2, fun t0 ht0 => ?_⟩
    have s3 := same_upd (o := .tup [.int 2, .int 1]) ht0
    refine ⟨_, rfl, a, rfl, ⟨_, Same.seq s3 hL⟩, for_list (K := K) (a := a) (xs := ts.map V.ref) (fun i σ H' => ∃ (pa : Addr) (v2 v3 : Option V), σ = [some (.ref a), some (.ref pa), v2, v3] ∧ Same H H' ∧ PrAt K H' pa (behind (r.take i)))
      ⟨t0, _, _, rfl, s3, SqT.of upd_same⟩ (fun i σ H' _ ⟨_, _, _, _, s4, _⟩ => Same.seq s4 hL) ?_ ?_⟩
    · rintro i x σ H' hx ⟨pa, v2, v3, rfl, s4, hpa⟩
      have hi : i < ts.length := by
        have := (List.getElem?_eq_some_iff.mp hx).1
        rw [List.length_map] at this
        exact this
      obtain ⟨t, ht, hS⟩ := hP.get (i := i) (List.getElem?_eq_getElem (by omega))
      rw [List.getElem?_map, ht] at hx
      cases hx
      have hS4 := Same.tup s4 hS
      have pk := ok _ (List.getElem_mem (show i < r.length by omega))
      have okt : ∀ x ∈ r.take i, PartOk x := fun x hx => ok x (List.mem_of_mem_take hx)
      have bt : Bd 500000 (behind (r.take i)).1 := (behind_bd _ okt).mono (by rw [List.length_take]; omega)
      have gt := behind_good (parts_pos okt)
      refine ⟨_, _, rfl, hS4, rfl, _, _, rfl, _, _, rfl, rfl, ?_⟩
      refine ⟨_, rfl, _, rfl, _, rfl, pa, _, _, _, rfl, hpa, pk.1, by have := pk.2.1; omega, (Nat.lt_of_le_of_lt (show (r[i]).2.natAbs ≤ 10 ^ 40 by have := pk.2.1; have := pk.2.2.1; omega) (by decide +kernel)), pk.2.2.2, bt.mono (by decide), (bt.le (by have := gt.1; omega) (by have := gt.2.1; omega)).mono (by decide), fun H5 q5 s5 h5 => ?_⟩
      refine ⟨q5, _, _, rfl, s4.trans s5, ?_⟩
      rw [behind_take (List.getElem?_eq_getElem (show i < r.length by omega))]
      exact h5
    · rintro σ H' ⟨pa, v2, v3, rfl, s4, hpa⟩
      rw [List.length_map, hlt, List.take_length] at hpa
      exact ⟨_, rfl, q _ _ s4 hpa⟩
end
end SqP

namespace SqP
open PySem PySem.Spec PyProof.Rows L2 Sq
section
variable {P : Program} {w : World} {K : PySem.W.Frag} {mg : Str → Option Value} {base : Heap}
/-! ### values of any kind -/
inductive Knd (K : PySem.W.Frag) (H : Hp) : V → String → Prop
  | non : Knd K H .non "NoneType"
  | bl (b : Bool) : Knd K H (.bl b) "bool"
  | int (i : Int) : Knd K H (.int i) "int"
  | str (x : Str) : Knd K H (.str x) "str"
  | lst {a : Addr} {xs : List V} (h : H a = some (.lst xs)) : Knd K H (.ref a) "list"
  | dct {a : Addr} {kvs : List (Key × V)} (h : H a = some (.dK kvs)) : Knd K H (.ref a) "dict"
  | tup {a : Addr} {xs : List V} (h : H a = some (.tup xs)) : Knd K H (.ref a) "tuple"
theorem Knd.same {H H' : Hp} (s : Same H H') : ∀ {v : V} {T : String}, Knd K H v T → Knd K H' v T
  | _, _, .non => .non
  | _, _, .bl b => .bl b
  | _, _, .int i => .int i
  | _, _, .str x => .str x
  | _, _, .lst h => .lst (s _ _ h)
  | _, _, .dct h => .dct (s _ _ h)
  | _, _, .tup h => .tup (s _ _ h)
theorem Knd.ty {H : Hp} : ∀ {v : V} {T : String}, Knd K H v T → TyX K H v (.type T)
  | _, _, .non => .base .non
  | _, _, .bl b => .base (.bl b)
  | _, _, .int i => .base (.int i)
  | _, _, .str x => .base (.str x)
  | _, _, .lst h => .base (.lst h)
  | _, _, .dct h => .base (.dK h)
  | _, _, .tup h => .base (.tup h)
theorem Knd.noT {H : Hp} : ∀ {v : V} {T : String}, Knd K H v T → T ≠ "tuple" → kitB T "tuple" = some false
  | _, _, .non, _ => by decide +kernel
  | _, _, .bl _, _ => by decide +kernel
  | _, _, .int _, _ => by decide +kernel
  | _, _, .str _, _ => by decide +kernel
  | _, _, .lst _, _ => by decide +kernel
  | _, _, .dct _, _ => by decide +kernel
  | _, _, .tup _, n => absurd rfl n
theorem Knd.noL {H : Hp} : ∀ {v : V} {T : String}, Knd K H v T → T ≠ "list" → kitB T "list" = some false
  | _, _, .non, _ => by decide +kernel
  | _, _, .bl _, _ => by decide +kernel
  | _, _, .int _, _ => by decide +kernel
  | _, _, .str _, _ => by decide +kernel
  | _, _, .lst _, n => absurd rfl n
  | _, _, .dct _, _ => by decide +kernel
  | _, _, .tup _, _ => by decide +kernel
def whl : V → Bool
  | .int _ => true
  | _ => false
def psv : V → Bool
  | .int i => decide (0 < i)
  | _ => false
theorem whl_int {v : V} (h : whl v = true) : ∃ i, v = .int i := by
  cases v with
  | int i => exact ⟨i, rfl⟩
  | _ => cases h
theorem Knd.whole {H : Hp} : ∀ {v : V} {T : String}, Knd K H v T → ∃ bi bb, kitB T "int" = some bi ∧ kitB T "bool" = some bb ∧ (bi && !bb) = whl v
  | _, _, .non => ⟨false, false, by decide +kernel, by decide +kernel, rfl⟩
  | _, _, .bl _ => ⟨true, true, by decide +kernel, by decide +kernel, rfl⟩
  | _, _, .int _ => ⟨true, false, by decide +kernel, by decide +kernel, rfl⟩
  | _, _, .str _ => ⟨false, false, by decide +kernel, by decide +kernel, rfl⟩
  | _, _, .lst _ => ⟨false, false, by decide +kernel, by decide +kernel, rfl⟩
  | _, _, .dct _ => ⟨false, false, by decide +kernel, by decide +kernel, rfl⟩
  | _, _, .tup _ => ⟨false, false, by decide +kernel, by decide +kernel, rfl⟩
theorem whole_at {H : Hp} {v : V} {T : String} {Q : VK} {E : XK} (k : Knd K H v T) (q : Q (.bl (whl v)) H) : sp_is_whole K [v] H Q E := by
  obtain ⟨bi, bb, h1, h2, e⟩ := k.whole
  exact ⟨v, T, bi, bb, rfl, k.ty, h1, h2, e ▸ q⟩
/-- every item of a known kind -/
def Knds (K : PySem.W.Frag) (H : Hp) (xs : List V) : Prop := ∀ x ∈ xs, ∃ T, Knd K H x T
theorem Knds.same {H H' : Hp} {xs : List V} (s : Same H H') (h : Knds K H xs) : Knds K H' xs := fun x hx => (h x hx).imp fun _ k => k.same s
/-- no tuple of n whole numbers above 0 -/
inductive NotW (K : PySem.W.Frag) (H : Hp) (n : Int) : V → Prop
  | no {v : V} {T : String} (k : Knd K H v T) (h : T ≠ "tuple") : NotW K H n v
  | tup {a : Addr} {xs : List V} (h : SqT K H a xs) (l : xs.length ≤ 1000) (k : Knds K H xs) (e : (decide ((xs.length : Int) = n) && xs.all psv) = false) : NotW K H n (.ref a)
theorem NotW.same {H H' : Hp} {n : Int} (s : Same H H') : ∀ {v : V}, NotW K H n v → NotW K H' n v
  | _, .no k h => .no (k.same s) h
  | _, .tup h l k e => .tup (Same.tup s h) l (k.same s) e
def sp_are_no (K : PySem.W.Frag) : Sp := fun vs H Q _ => ∃ (v : V) (n : Int), vs = [v, .int n] ∧ NotW K H n v ∧ ∀ H', Same H H' → Q (.bl false) H'
theorem ok_are_no (B : Bt mg) (D : Is K mg "are_wholes" s_are_wholes ["thing", "many"]) (H_is_whole : Has P w K mg base 1 "is_whole" ["thing"] (sp_is_whole K)) : Has P w K mg base 2 "are_wholes" ["thing", "many"] (sp_are_no K) := by
  obtain ⟨f, fd, F, b, g⟩ := D
  obtain ⟨f_is_whole, fd_is_whole, G_is_whole, k_is_whole, b_is_whole, g_is_whole⟩ := H_is_whole
  refine ⟨f, fd, F.ok sc_are_wholes (fun vs H Q E h => ?_) (fun cdv A outer s H vs Q E hr h => ?_), F.kp, b, g⟩
  · obtain ⟨v, n, rfl, _⟩ := h
    rfl
  · obtain ⟨v, n, rfl, bad, q⟩ := h
    refine ⟨_, (pss_cons (ps_if (PW.pt (pw_or (pt_not (pt_val (pe_callB call_isi (by rfl) B.isi (by decide +kernel) (pa_cons (pv 0) (pa_cons (pe_bltn (v := .ty "tuple") (by rfl) B.tuple (by decide +kernel) rfl) pa_nil))))) (pw_or1 (pt_cmpR op_ne (pe_callB call_len_seq (by rfl) B.len PySem.boot_len (pa_cons (pv 0) pa_nil)) (pv 1) (nomark _))))) (pss_one (ps_ret pe_bl)) pss_nil) (pss_one (ps_ret (pe_callB (cr_all rfl) (by rfl) B.all (by decide +kernel) (pa_cons (pe_lc (own := [("one", 2)]) (g := gName 2) (tt := tYes) rfl sc_are_wholes.nd (pi_tup (pv 0)) (blkOk_by (N := ["thing", "many", "one"]) (sc := defScope s_are_wholes) (by decide +kernel)) (fun _ _ _ _ _ => pg_name (i := 2) sc_are_wholes.nd rfl (Or.inl rfl)) (fun _ _ _ _ _ => pts_nil) (fun _ _ _ _ _ => (pe_and (pe_call G_is_whole (hr.mono (by decide)) (by rfl) g_is_whole k_is_whole b_is_whole .nil pass0 (pa_cons (pv 2) pa_nil)) (pe_one (pe_cmpR op_gt (pv 2) pe_int (nomark _)))))) pa_nil))))), ?_⟩
    cases bad with
    | @no v T k nt => exact ⟨_, rfl, _, _, _, _, false, rfl, .ty _, k.ty, kit_ty (k.noT nt), false, rfl, iteT (q H (Same.refl H))⟩
    | @tup a xs hS hl kn e =>
      refine ⟨_, rfl, _, _, _, _, true, rfl, .ty _, tyx_tup hS, kit_ty kb_tup_tup, true, rfl, ?_⟩
      refine iteF ⟨_, rfl, a, _, rfl, .inr hS, _, rfl, rfl, _, rfl, ?_⟩
      rw [dec_vint]
      by_cases c : (xs.length : Int) = n
      · rw [decide_eq_true c, Bool.true_and] at e
        rw [decide_eq_true c]
        refine iteF ?_
        refine ⟨_, rfl, a, rfl, ⟨_, hS⟩, fun D nD => lc_over_tup (xs := xs) (ys := (xs.map psv).map V.bl) (j := 2) hS nD (by simp) (by omega) (fun i x y hx hy => ?_) (fun H' s1 d1 => ?_)⟩
        · have hm := List.mem_of_getElem? hx
          rw [List.getElem?_map, List.getElem?_map, hx] at hy
          cases hy
          intro H1 s1 R hR
          obtain ⟨T, k⟩ := kn x hm
          obtain ⟨bi, bb, h1, h2, e3⟩ := k.whole
          refine ⟨_, rfl, x, T, bi, bb, rfl, (k.same s1).ty, h1, h2, ⟨_, rfl, ?_⟩⟩
          rw [e3]
          cases x with
          | int i => exact iteT ⟨_, rfl, _, _, rfl, rfl, hR _ (Same.refl _)⟩
          | non => exact iteF (hR _ (Same.refl _))
          | bl z => exact iteF (hR _ (Same.refl _))
          | str z => exact iteF (hR _ (Same.refl _))
          | byt z => exact iteF (hR _ (Same.refl _))
          | flt z => exact iteF (hR _ (Same.refl _))
          | ref z => exact iteF (hR _ (Same.refl _))
          | ty z => exact iteF (hR _ (Same.refl _))
        · refine ⟨D, xs.map psv, rfl, SqL.of d1, ?_⟩
          rw [List.all_map, show (id ∘ psv) = psv from rfl, e]
          exact q H' s1
      · rw [decide_eq_false c]
        exact iteT (q H (Same.refl H))
/-! ### no triple, no pair -/
def sp_no (K : PySem.W.Frag) (n : Int) : Sp := fun vs H Q _ => ∃ v : V, vs = [v] ∧ NotW K H n v ∧ ∀ H', Same H H' → Q (.bl false) H'
theorem ok_is_triple_no (D : Is K mg "is_triple" s_is_triple ["thing"]) (H_are_wholes : Has P w K mg base 2 "are_wholes" ["thing", "many"] (sp_are_no K)) (H_common : Has P w K mg base 1 "common" ["one", "other"] sp_common) : Has P w K mg base 3 "is_triple" ["thing"] (sp_no K 3) := by
  obtain ⟨f, fd, F, b, g⟩ := D
  obtain ⟨f_are_wholes, fd_are_wholes, G_are_wholes, k_are_wholes, b_are_wholes, g_are_wholes⟩ := H_are_wholes
  obtain ⟨f_common, fd_common, G_common, k_common, b_common, g_common⟩ := H_common
  refine ⟨f, fd, F.ok sc_is_triple (fun vs H Q E h => ?_) (fun cdv A outer s H vs Q E hr h => ?_), F.kp, b, g⟩
  · obtain ⟨v, rfl, _⟩ := h
    rfl
  · obtain ⟨v, rfl, bad, q⟩ := h
    refine ⟨_, (pss_cons (ps_if (PW.pt (pw_or (pt_not (pt_val (pe_call G_are_wholes (hr.mono (by decide)) (by rfl) g_are_wholes k_are_wholes b_are_wholes .nil pass0 (pa_cons (pv 0) (pa_cons pe_int pa_nil))))) (pw_or (pt_cmpR op_eq (pe_op op_mod (pe_ix ix_tup (pv 0) pe_int (fun _ _ => rfl)) pe_int) pe_int (nomark _)) (pw_or1 (pt_cmpR op_eq (pe_op op_mod (pe_ix ix_tup (pv 0) pe_int (fun _ _ => rfl)) pe_int) pe_int (nomark _)))))) (pss_one (ps_ret pe_bl)) pss_nil) (pss_one (ps_ret (pe_and (pe_cmpR op_eq (pe_op op_add (pe_op op_mulX (pe_ix ix_tup (pv 0) pe_int (fun _ _ => rfl)) (pe_ix ix_tup (pv 0) pe_int (fun _ _ => rfl))) (pe_op op_mulX (pe_ix ix_tup (pv 0) pe_int (fun _ _ => rfl)) (pe_ix ix_tup (pv 0) pe_int (fun _ _ => rfl)))) (pe_op op_mulX (pe_ix ix_tup (pv 0) pe_int (fun _ _ => rfl)) (pe_ix ix_tup (pv 0) pe_int (fun _ _ => rfl))) (nomark _)) (pe_one (pe_cmpR op_eq (pe_call G_common (hr.mono (by decide)) (by rfl) g_common k_common b_common .nil pass0 (pa_cons (pe_ix ix_tup (pv 0) pe_int (fun _ _ => rfl)) (pa_cons (pe_ix ix_tup (pv 0) pe_int (fun _ _ => rfl)) pa_nil))) pe_int (nomark _))))))), ?_⟩
    exact ⟨_, rfl, v, 3, rfl, bad, fun H1 s1 => ⟨_, rfl, iteT (q H1 s1)⟩⟩
theorem ok_is_pair_no (D : Is K mg "is_pair" s_is_pair ["thing"]) (H_are_wholes : Has P w K mg base 2 "are_wholes" ["thing", "many"] (sp_are_no K)) (H_common : Has P w K mg base 1 "common" ["one", "other"] sp_common) : Has P w K mg base 3 "is_pair" ["thing"] (sp_no K 2) := by
  obtain ⟨f, fd, F, b, g⟩ := D
  obtain ⟨f_are_wholes, fd_are_wholes, G_are_wholes, k_are_wholes, b_are_wholes, g_are_wholes⟩ := H_are_wholes
  obtain ⟨f_common, fd_common, G_common, k_common, b_common, g_common⟩ := H_common
  refine ⟨f, fd, F.ok sc_is_pair (fun vs H Q E h => ?_) (fun cdv A outer s H vs Q E hr h => ?_), F.kp, b, g⟩
  · obtain ⟨v, rfl, _⟩ := h
    rfl
  · obtain ⟨v, rfl, bad, q⟩ := h
    refine ⟨_, (pss_cons (ps_if (PW.pt (pw_or (pt_not (pt_val (pe_call G_are_wholes (hr.mono (by decide)) (by rfl) g_are_wholes k_are_wholes b_are_wholes .nil pass0 (pa_cons (pv 0) (pa_cons pe_int pa_nil))))) (pw_or (pt_cmpR op_le (pe_ix ix_tup (pv 0) pe_int (fun _ _ => rfl)) (pe_ix ix_tup (pv 0) pe_int (fun _ _ => rfl)) (nomark _)) (pw_or1 (pt_cmpR op_eq (pe_op op_mod (pe_op op_add (pe_ix ix_tup (pv 0) pe_int (fun _ _ => rfl)) (pe_ix ix_tup (pv 0) pe_int (fun _ _ => rfl))) pe_int) pe_int (nomark _)))))) (pss_one (ps_ret pe_bl)) pss_nil) (pss_one (ps_ret (pe_cmpR op_eq (pe_call G_common (hr.mono (by decide)) (by rfl) g_common k_common b_common .nil pass0 (pa_cons (pe_ix ix_tup (pv 0) pe_int (fun _ _ => rfl)) (pa_cons (pe_ix ix_tup (pv 0) pe_int (fun _ _ => rfl)) pa_nil))) pe_int (nomark _))))), ?_⟩
    exact ⟨_, rfl, v, 2, rfl, bad, fun H1 s1 => ⟨_, rfl, iteT (q H1 s1)⟩⟩
end
end SqP

namespace SqP
open PySem PySem.Spec PyProof.Rows L2 Sq
section
variable {P : Program} {w : World} {K : PySem.W.Frag} {mg : Str → Option Value} {base : Heap}
/-! ### a class of refusals -/
structure ExK (K : PySem.W.Frag) (mg : Str → Option Value) (n : Str) (C : Addr) : Prop where
  g : mg n = some (.ref C)
  x : PySem.W.excIn K C [.type "ValueError", .type "Exception", .type "BaseException", .type "object"] "ValueError.__new__" = true
  k : PySem.W.keepIn K (.ref C) = true
  b : PySem.W.subIn K (.ref C) (.type "BaseException") = some true
  t : PySem.W.typeIn K (.ref C) = some (.type "type")
/-! ### no triple -/
inductive BadT (K : PySem.W.Frag) (H : Hp) : V → Prop
  | no {v : V} (h : NotW K H 3 v) : BadT K H v
  | tri {a : Addr} {x y z : Int} (h : SqT K H a [.int x, .int y, .int z]) (b1 : Bd 3000000 x) (b2 : Bd 3000000 y) (b3 : Bd 3000000 z) (e : isTri x y z = false) : BadT K H (.ref a)
theorem BadT.same {H H' : Hp} (s : Same H H') : ∀ {v : V}, BadT K H v → BadT K H' v
  | _, .no h => .no (h.same s)
  | _, .tri h b1 b2 b3 e => .tri (Same.tup s h) b1 b2 b3 e
def sp_check_no (K : PySem.W.Frag) (C : Addr) : Sp := fun vs H _ E => ∃ v : V, vs = [v] ∧ BadT K H v ∧ ∀ H', Same H H' → E (.ref C) none H'
theorem ok_check_triple_x {CB : Addr} (x_BadTriple : ExK K mg "BadTriple" CB) (D : Is K mg "check_triple" s_check_triple ["triple"]) (H1 : Has P w K mg base 3 "is_triple" ["thing"] (sp_is_triple K)) (H2 : Has P w K mg base 3 "is_triple" ["thing"] (sp_no K 3)) : HasX P w K mg base 4 "check_triple" ["triple"] (sp_check_no K CB) := by
  obtain ⟨f, fd, F, b, g⟩ := D
  refine ⟨f, fd, F.okX sc_check_triple (fun vs H Q E h => ?_) (fun cdv A outer s H vs Q E hr h => ?_), F.kp, b, g⟩
  · obtain ⟨v, rfl, _⟩ := h
    rfl
  · obtain ⟨v, rfl, bad, q⟩ := h
    cases bad with
    | no h =>
      obtain ⟨f_is_triple, fd_is_triple, G_is_triple, k_is_triple, b_is_triple, g_is_triple⟩ := H2
      refine ⟨_, (pss_one (ps_if (pt_not (pt_val (pe_call G_is_triple (hr.mono (by decide)) (by rfl) g_is_triple k_is_triple b_is_triple .nil pass0 (pa_cons (pv 0) pa_nil)))) (pss_one (ps_raise rfl (takes_of rfl rfl rfl rfl) (pmk_own PySem.F.excBase_ValueError x_BadTriple.x x_BadTriple.g x_BadTriple.k (raises_own x_BadTriple.b x_BadTriple.t) rfl))) pss_nil)), ?_⟩
      exact ⟨_, rfl, v, rfl, h, fun H1 s1 => ⟨_, rfl, iteT (q H1 s1)⟩⟩
    | @tri a x y z h b1 b2 b3 e =>
      obtain ⟨f_is_triple, fd_is_triple, G_is_triple, k_is_triple, b_is_triple, g_is_triple⟩ := H1
      refine ⟨_, (pss_one (ps_if (pt_not (pt_val (pe_call G_is_triple (hr.mono (by decide)) (by rfl) g_is_triple k_is_triple b_is_triple .nil pass0 (pa_cons (pv 0) pa_nil)))) (pss_one (ps_raise rfl (takes_of rfl rfl rfl rfl) (pmk_own PySem.F.excBase_ValueError x_BadTriple.x x_BadTriple.g x_BadTriple.k (raises_own x_BadTriple.b x_BadTriple.t) rfl))) pss_nil)), ?_⟩
      refine ⟨_, rfl, a, x, y, z, rfl, h, b1, b2, b3, fun H1 s1 => ⟨_, rfl, ?_⟩⟩
      rw [e]
      exact iteT (q H1 s1)
end
end SqP

namespace SqP
open PySem PySem.Spec PyProof.Rows L2 Sq
abbrev s_stepped : Stmt := topS 25
theorem sc_stepped : FnScope ["triple", "step"] ["triple", "step"] (defScope s_stepped) := ⟨rfl, rfl, rfl, by decide +kernel, rfl, by decide +kernel, by decide +kernel⟩
section
variable {P : Program} {w : World} {K : PySem.W.Frag} {mg : Str → Option Value} {base : Heap}
/-! ### the doors at which no triple is handed in -/
theorem ok_pair_of_x {CB : Addr} (D : Is K mg "pair_of" s_pair_of ["triple"]) (H_check_triple : HasX P w K mg base 4 "check_triple" ["triple"] (sp_check_no K CB)) : HasX P w K mg base 5 "pair_of" ["triple"] (sp_check_no K CB) := by
  obtain ⟨f, fd, F, b, g⟩ := D
  obtain ⟨f_check_triple, fd_check_triple, G_check_triple, k_check_triple, b_check_triple, g_check_triple⟩ := H_check_triple
  refine ⟨f, fd, F.okX sc_pair_of (fun vs H Q E h => ?_) (fun cdv A outer s H vs Q E hr h => ?_), F.kp, b, g⟩
  · obtain ⟨v, rfl, _⟩ := h
    rfl
  · obtain ⟨v, rfl, bad, q⟩ := h
    refine ⟨_, (pss_cons (ps_expr (pe_callS G_check_triple (hr.mono (by decide)) (by rfl) g_check_triple k_check_triple b_check_triple (fun σ => passAt (takes_of rfl rfl rfl rfl) σ) (pa_cons (pv 0) pa_nil))) (pss_one ps_never)), ?_⟩
    exact ⟨_, rfl, v, rfl, bad, q⟩
theorem ok_back_x {CB : Addr} (D : Is K mg "back" s_back ["triple"]) (H_check_triple : HasX P w K mg base 4 "check_triple" ["triple"] (sp_check_no K CB)) : HasX P w K mg base 5 "back" ["triple"] (sp_check_no K CB) := by
  obtain ⟨f, fd, F, b, g⟩ := D
  obtain ⟨f_check_triple, fd_check_triple, G_check_triple, k_check_triple, b_check_triple, g_check_triple⟩ := H_check_triple
  refine ⟨f, fd, F.okX sc_back (fun vs H Q E h => ?_) (fun cdv A outer s H vs Q E hr h => ?_), F.kp, b, g⟩
  · obtain ⟨v, rfl, _⟩ := h
    rfl
  · obtain ⟨v, rfl, bad, q⟩ := h
    refine ⟨_, (pss_cons (ps_expr (pe_callS G_check_triple (hr.mono (by decide)) (by rfl) g_check_triple k_check_triple b_check_triple (fun σ => passAt (takes_of rfl rfl rfl rfl) σ) (pa_cons (pv 0) pa_nil))) (pss_cons ps_never (pss_cons ps_never (pss_cons ps_never (pss_cons ps_never (pss_one ps_never)))))), ?_⟩
    exact ⟨_, rfl, v, rfl, bad, q⟩
theorem ok_row_of_x {CB : Addr} (D : Is K mg "row_of" s_row_of ["triple"]) (H_check_triple : HasX P w K mg base 4 "check_triple" ["triple"] (sp_check_no K CB)) : HasX P w K mg base 5 "row_of" ["triple"] (sp_check_no K CB) := by
  obtain ⟨f, fd, F, b, g⟩ := D
  obtain ⟨f_check_triple, fd_check_triple, G_check_triple, k_check_triple, b_check_triple, g_check_triple⟩ := H_check_triple
  refine ⟨f, fd, F.okX sc_row_of (fun vs H Q E h => ?_) (fun cdv A outer s H vs Q E hr h => ?_), F.kp, b, g⟩
  · obtain ⟨v, rfl, _⟩ := h
    rfl
  · obtain ⟨v, rfl, bad, q⟩ := h
    refine ⟨_, (pss_cons (ps_expr (pe_callS G_check_triple (hr.mono (by decide)) (by rfl) g_check_triple k_check_triple b_check_triple (fun σ => passAt (takes_of rfl rfl rfl rfl) σ) (pa_cons (pv 0) pa_nil))) (pss_cons ps_never (pss_cons ps_never (pss_cons ps_never (pss_one ps_never))))), ?_⟩
    exact ⟨_, rfl, v, rfl, bad, q⟩
/-! ### stepped: no triple; a triple, no step -/
def BadS (K : PySem.W.Frag) (H : Hp) (v : V) : Prop := ∃ T, Knd K H v T ∧ ∀ i, v = .int i → i < 0 ∨ 2 < i
theorem BadS.same {H H' : Hp} (s : Same H H') {v : V} (h : BadS K H v) : BadS K H' v := by
  obtain ⟨T, k, e⟩ := h
  exact ⟨T, k.same s, e⟩
def sp_stepped_x (K : PySem.W.Frag) (CT CS : Addr) : Sp := fun vs H _ E => (∃ v u : V, vs = [v, u] ∧ BadT K H v ∧ ∀ H', Same H H' → E (.ref CT) none H') ∨
  ∃ (a : Addr) (p : Pr) (u : V), vs = [.ref a, u] ∧ TrAt K H a (tri p) ∧ Good p ∧ Bd 900000 p.1 ∧ BadS K H u ∧ ∀ H', Same H H' → E (.ref CS) none H'
theorem ok_stepped_x (B : Bt mg) {CT CS : Addr} (x_BadStep : ExK K mg "BadStep" CS) (D : Is K mg "stepped" s_stepped ["triple", "step"]) (HX : HasX P w K mg base 4 "check_triple" ["triple"] (sp_check_no K CT)) (H0 : Has P w K mg base 4 "check_triple" ["triple"] (sp_check_triple K)) (H_is_whole : Has P w K mg base 1 "is_whole" ["thing"] (sp_is_whole K)) :
    HasX P w K mg base 5 "stepped" ["triple", "step"] (sp_stepped_x K CT CS) := by
  obtain ⟨f, fd, F, b, g⟩ := D
  obtain ⟨f_is_whole, fd_is_whole, G_is_whole, k_is_whole, b_is_whole, g_is_whole⟩ := H_is_whole
  refine ⟨f, fd, F.okX sc_stepped (fun vs H Q E h => ?_) (fun cdv A outer s H vs Q E hr h => ?_), F.kp, b, g⟩
  · rcases h with ⟨v, u, rfl, _⟩ | ⟨a, p, u, rfl, _⟩ <;> rfl
  · rcases h with ⟨v, u, rfl, bad, q⟩ | ⟨a, p, u, rfl, hS, hg, hb, bad, q⟩
    · obtain ⟨f_check_triple, fd_check_triple, G_check_triple, k_check_triple, b_check_triple, g_check_triple⟩ := HX
      refine ⟨_, (pss_cons (ps_expr (pe_callS G_check_triple (hr.mono (by decide)) (by rfl) g_check_triple k_check_triple b_check_triple (fun σ => passAt (takes_of rfl rfl rfl rfl) σ) (pa_cons (pv 0) pa_nil))) (pss_cons ps_never (pss_one ps_never))), ?_⟩
      exact ⟨_, rfl, v, rfl, bad, q⟩
    · obtain ⟨f_check_triple, fd_check_triple, G_check_triple, k_check_triple, b_check_triple, g_check_triple⟩ := H0
      obtain ⟨c1, c2, c3⟩ := tri_bd hg hb
      refine ⟨_, (pss_cons (ps_expr (pe_call G_check_triple (hr.mono (by decide)) (by rfl) g_check_triple k_check_triple b_check_triple .nil pass0 (pa_cons (pv 0) pa_nil))) (pss_cons (ps_if (PW.pt (pw_or (pt_not (pt_val (pe_call G_is_whole (hr.mono (by decide)) (by rfl) g_is_whole k_is_whole b_is_whole .nil pass0 (pa_cons (pv 1) pa_nil)))) (pw_or1 (pt_not (pt_chain op_le op_le pe_int (pv 1) pe_int))))) (pss_one (ps_raise rfl (takes_of rfl rfl rfl rfl) (pmk_own PySem.F.excBase_ValueError x_BadStep.x x_BadStep.g x_BadStep.k (raises_own x_BadStep.b x_BadStep.t) rfl))) pss_nil) (pss_one ps_never))), ?_⟩
      refine ⟨_, rfl, a, _, rfl, hS, tri_ok hg, c1.mono (by decide), c2.mono (by decide), c3.mono (by decide), fun H1 s1 => ?_⟩
      obtain ⟨T, k, no⟩ := bad
      have k := k.same s1
      obtain ⟨bi, bb, h1, h2, e⟩ := k.whole
      refine ⟨_, rfl, u, T, bi, bb, rfl, k.ty, h1, h2, ⟨_, rfl, ?_⟩⟩
      rw [e]
      cases hw : whl u with
      | false => exact iteT (q H1 s1)
      | true =>
        obtain ⟨i, rfl⟩ := whl_int hw
        refine iteF ⟨_, rfl, _, _, rfl, rfl, _, rfl, ?_⟩
        by_cases c : 0 ≤ i
        · rw [decide_eq_true c]
          refine iteT ⟨_, _, rfl, rfl, _, rfl, ?_⟩
          rw [decide_eq_false (show ¬ i ≤ 2 by have := no i rfl; omega)]
          exact iteT (q H1 s1)
        · rw [decide_eq_false c]
          exact iteF ⟨_, rfl, iteT (q H1 s1)⟩
/-! ### no pair -/
inductive BadP (K : PySem.W.Frag) (H : Hp) : V → Prop
  | no {v : V} (h : NotW K H 2 v) : BadP K H v
  | two {a : Addr} {m n : Int} (h : SqT K H a [.int m, .int n]) (e : isPr m n = false) : BadP K H (.ref a)
theorem BadP.same {H H' : Hp} (s : Same H H') : ∀ {v : V}, BadP K H v → BadP K H' v
  | _, .no h => .no (h.same s)
  | _, .two h e => .two (Same.tup s h) e
def sp_pair_x (K : PySem.W.Frag) (C : Addr) : Sp := fun vs H _ E => ∃ v : V, vs = [v] ∧ BadP K H v ∧ ∀ H', Same H H' → E (.ref C) none H'
theorem ok_triple_of_x {CB : Addr} (x_BadPair : ExK K mg "BadPair" CB) (D : Is K mg "triple_of" s_triple_of ["pair"]) (H1 : Has P w K mg base 3 "is_pair" ["thing"] (sp_is_pair K)) (H2 : Has P w K mg base 3 "is_pair" ["thing"] (sp_no K 2)) : HasX P w K mg base 4 "triple_of" ["pair"] (sp_pair_x K CB) := by
  obtain ⟨f, fd, F, b, g⟩ := D
  refine ⟨f, fd, F.okX sc_triple_of (fun vs H Q E h => ?_) (fun cdv A outer s H vs Q E hr h => ?_), F.kp, b, g⟩
  · obtain ⟨v, rfl, _⟩ := h
    rfl
  · obtain ⟨v, rfl, bad, q⟩ := h
    cases bad with
    | no h =>
      obtain ⟨f_is_pair, fd_is_pair, G_is_pair, k_is_pair, b_is_pair, g_is_pair⟩ := H2
      refine ⟨_, (pss_cons (ps_if (pt_not (pt_val (pe_call G_is_pair (hr.mono (by decide)) (by rfl) g_is_pair k_is_pair b_is_pair .nil pass0 (pa_cons (pv 0) pa_nil)))) (pss_one (ps_raise rfl (takes_of rfl rfl rfl rfl) (pmk_own PySem.F.excBase_ValueError x_BadPair.x x_BadPair.g x_BadPair.k (raises_own x_BadPair.b x_BadPair.t) rfl))) pss_nil) (pss_one ps_never)), ?_⟩
      exact ⟨_, rfl, v, rfl, h, fun H1 s1 => ⟨_, rfl, iteT (q H1 s1)⟩⟩
    | @two a m n h e =>
      obtain ⟨f_is_pair, fd_is_pair, G_is_pair, k_is_pair, b_is_pair, g_is_pair⟩ := H1
      refine ⟨_, (pss_cons (ps_if (pt_not (pt_val (pe_call G_is_pair (hr.mono (by decide)) (by rfl) g_is_pair k_is_pair b_is_pair .nil pass0 (pa_cons (pv 0) pa_nil)))) (pss_one (ps_raise rfl (takes_of rfl rfl rfl rfl) (pmk_own PySem.F.excBase_ValueError x_BadPair.x x_BadPair.g x_BadPair.k (raises_own x_BadPair.b x_BadPair.t) rfl))) pss_nil) (pss_one ps_never)), ?_⟩
      refine ⟨_, rfl, a, m, n, rfl, h, fun H1 s1 => ⟨_, rfl, ?_⟩⟩
      rw [e]
      exact iteT (q H1 s1)
end
end SqP

namespace SqP
open PySem PySem.Spec PyProof.Rows L2 Sq
abbrev s_check_number : Stmt := topS 40
theorem sc_check_number : FnScope ["number"] ["number"] (defScope s_check_number) := ⟨rfl, rfl, rfl, by decide +kernel, rfl, by decide +kernel, by decide +kernel⟩
abbrev s_longest : Stmt := topS 41
theorem sc_longest : FnScope ["number", "left", "prime"] ["number"] (defScope s_longest) := ⟨rfl, rfl, rfl, by decide +kernel, rfl, by decide +kernel, by decide +kernel⟩
abbrev s_leg : Stmt := topS 42
theorem sc_leg : FnScope ["number"] ["number"] (defScope s_leg) := ⟨rfl, rfl, rfl, by decide +kernel, rfl, by decide +kernel, by decide +kernel⟩
section
variable {P : Program} {w : World} {K : PySem.W.Frag} {mg : Str → Option Value} {base : Heap}
/-! ### a part of a row, of any kind -/
inductive PartK (K : PySem.W.Frag) (H : Hp) : V → Bool → Prop
  | no {v : V} {T : String} (k : Knd K H v T) (h : T ≠ "tuple") : PartK K H v false
  | tup {a : Addr} {xs : List V} (h : SqT K H a xs) (l : xs.length ≤ 1000) (k : Knds K H xs) (e : (decide ((xs.length : Int) = 2) && xs.all whl) = false) : PartK K H (.ref a) false
  | two {a : Addr} {s o : Int} (h : SqT K H a [.int s, .int o]) : PartK K H (.ref a) (isPart s o)
theorem PartK.same {H H' : Hp} (s : Same H H') : ∀ {v : V} {b : Bool}, PartK K H v b → PartK K H' v b
  | _, _, .no k h => .no (k.same s) h
  | _, _, .tup h l k e => .tup (Same.tup s h) l (k.same s) e
  | _, _, .two h => .two (Same.tup s h)
def sp_part (K : PySem.W.Frag) : Sp := fun vs H Q _ => ∃ (v : V) (r : Bool), vs = [v] ∧ PartK K H v r ∧ ∀ H', Same H H' → Q (.bl r) H'
theorem ok_is_part_all (B : Bt mg) {tk : Tok} (g_OFTEN : mg "OFTEN" = some (.int 1000 tk)) (D : Is K mg "is_part" s_is_part ["thing"]) (H_is_whole : Has P w K mg base 1 "is_whole" ["thing"] (sp_is_whole K)) : Has P w K mg base 2 "is_part" ["thing"] (sp_part K) := by
  obtain ⟨f, fd, F, b, g⟩ := D
  obtain ⟨f_is_whole, fd_is_whole, G_is_whole, k_is_whole, b_is_whole, g_is_whole⟩ := H_is_whole
  refine ⟨f, fd, F.ok sc_is_part (fun vs H Q E h => ?_) (fun cdv A outer s H vs Q E hr h => ?_), F.kp, b, g⟩
  · obtain ⟨v, r, rfl, _⟩ := h
    rfl
  · obtain ⟨v, r, rfl, pk, q⟩ := h
    refine ⟨_, (pss_cons (ps_if (PW.pt (pw_or (pt_not (pt_val (pe_callB call_isi (by rfl) B.isi (by decide +kernel) (pa_cons (pv 0) (pa_cons (pe_bltn (v := .ty "tuple") (by rfl) B.tuple (by decide +kernel) rfl) pa_nil))))) (pw_or (pt_cmpR op_ne (pe_callB call_len_seq (by rfl) B.len PySem.boot_len (pa_cons (pv 0) pa_nil)) pe_int (nomark _)) (pw_or1 (pt_not (pt_val (pe_callB (cr_all rfl) (by rfl) B.all (by decide +kernel) (pa_cons (pe_lc (own := [("one", 1)]) (g := gName 1) (tt := tYes) rfl sc_is_part.nd (pi_tup (pv 0)) (blkOk_by (N := ["thing", "one"]) (sc := defScope s_is_part) (by decide +kernel)) (fun _ _ _ _ _ => pg_name (i := 1) sc_is_part.nd rfl (Or.inl rfl)) (fun _ _ _ _ _ => pts_nil) (fun _ _ _ _ _ => (pe_call G_is_whole (hr.mono (by decide)) (by rfl) g_is_whole k_is_whole b_is_whole .nil pass0 (pa_cons (pv 1) pa_nil)))) pa_nil)))))))) (pss_one (ps_ret pe_bl)) pss_nil) (pss_one (ps_ret (pe_and (pe_chain op_le op_le pe_int (pe_ix ix_tup (pv 0) pe_int (fun _ _ => rfl)) pe_int) (pe_and (pe_cmpR op_ge (pe_ix ix_tup (pv 0) pe_int (fun _ _ => rfl)) pe_int (nomark _)) (pe_one (pe_or (pe_cmpR op_ne (pe_ix ix_tup (pv 0) pe_int (fun _ _ => rfl)) pe_int (nomark _)) (pe_one (pe_cmpR op_le (pe_ix ix_tup (pv 0) pe_int (fun _ _ => rfl)) (pe_glob (v := .int 1000) rfl g_OFTEN ⟨_, rfl⟩) (nomark _)))))))))), ?_⟩
    cases pk with
    | @no v T k nt => exact ⟨_, rfl, _, _, _, _, false, rfl, .ty _, k.ty, kit_ty (k.noT nt), false, rfl, iteT (q H (Same.refl H))⟩
    | @tup a xs hS hl kn e =>
      refine ⟨_, rfl, _, _, _, _, true, rfl, .ty _, tyx_tup hS, kit_ty kb_tup_tup, true, rfl, iteF ?_⟩
      refine ⟨_, rfl, a, _, rfl, .inr hS, rfl, _, rfl, ?_⟩
      rw [dec_vint]
      by_cases c : (xs.length : Int) = 2
      · rw [decide_eq_true c, Bool.true_and] at e
        rw [decide_eq_true c]
        refine iteF ?_
        refine ⟨_, rfl, a, rfl, ⟨_, hS⟩, fun D nD => lc_over_tup (xs := xs) (ys := (xs.map whl).map V.bl) (j := 1) hS nD (by simp) (by omega) (fun i x y hx hy => ?_) (fun H' s1 d1 => ?_)⟩
        · have hm := List.mem_of_getElem? hx
          rw [List.getElem?_map, List.getElem?_map, hx] at hy
          cases hy
          intro H1 s1 R hR
          obtain ⟨T, k⟩ := kn x hm
          obtain ⟨bi, bb, h1, h2, e3⟩ := k.whole
          refine ⟨_, rfl, x, T, bi, bb, rfl, (k.same s1).ty, h1, h2, ?_⟩
          rw [e3]
          exact hR _ (Same.refl _)
        · refine ⟨D, xs.map whl, rfl, SqL.of d1, _, rfl, ?_⟩
          rw [List.all_map, show (id ∘ whl) = whl from rfl, e]
          exact iteT (q H' s1)
      · rw [decide_eq_false c]
        exact iteT (q H (Same.refl H))
    | @two a s' o hS =>
      have i0 : atI ([.int s', .int o] : List V) 0 = some (.int s') := rfl
      have i1 : atI ([.int s', .int o] : List V) 1 = some (.int o) := rfl
      refine ⟨_, rfl, _, _, _, _, true, rfl, .ty _, tyx_tup hS, kit_ty kb_tup_tup, true, rfl, iteF ?_⟩
      refine ⟨_, rfl, a, _, rfl, .inr hS, rfl, _, rfl, iteF ?_⟩
      refine ⟨_, rfl, a, rfl, ⟨_, hS⟩, fun D nD => lc_over_tup (xs := [.int s', .int o]) (ys := [.bl true, .bl true]) (j := 1) hS nD rfl (by show 2 ≤ 16000000; decide) (fun i x y hx hy => ?_) (fun H1 s1 d1 => ?_)⟩
      · have hz : ∃ z, x = .int z ∧ y = .bl true := by
          match i, hx, hy with
          | 0, hx, hy => exact ⟨s', (Option.some.inj hx).symm, (Option.some.inj hy).symm⟩
          | 1, hx, hy => exact ⟨o, (Option.some.inj hx).symm, (Option.some.inj hy).symm⟩
          | i + 2, hx, hy => simp at hx
        obtain ⟨z, rfl, rfl⟩ := hz
        intro H1 s1 R hR
        exact ⟨_, rfl, .int z, "int", true, false, rfl, .base (.int z), kb_int_int, kb_int_bool, hR _ (Same.refl _)⟩
      · refine ⟨D, [true, true], rfl, SqL.of d1, true, rfl, iteF ?_⟩
        have hS1 := Same.tup s1 hS
        have q := q H1 s1
        unfold isPart at q
        refine ⟨_, rfl, a, _, 0, _, rfl, rfl, hS1, i0, _, _, rfl, rfl, ?_⟩
        refine ⟨_, rfl, ?_⟩
        cases c1 : decide (0 ≤ s') with
        | false =>
          rw [c1] at q
          exact iteF ⟨_, rfl, iteF q⟩
        | true =>
          rw [c1] at q
          refine iteT ⟨_, _, rfl, rfl, ?_⟩
          refine ⟨_, rfl, ?_⟩
          cases c2 : decide (s' ≤ 2) with
          | false =>
            rw [c2] at q
            exact iteF q
          | true =>
            rw [c2] at q
            refine iteT ⟨_, rfl, a, _, 1, _, rfl, rfl, hS1, i1, _, _, rfl, rfl, _, rfl, ?_⟩
            cases c3 : decide (1 ≤ o) with
            | false =>
              rw [c3] at q
              exact iteF q
            | true =>
              rw [c3] at q
              refine iteT ⟨_, rfl, a, _, 0, _, rfl, rfl, hS1, i0, rfl, _, rfl, ?_⟩
              rw [dec_vint]
              cases c4 : decide (s' = 1) with
              | false =>
                rw [c4] at q
                exact iteT q
              | true =>
                rw [c4] at q
                exact iteF ⟨_, rfl, a, _, 1, _, rfl, rfl, hS1, i1, _, _, rfl, rfl, q⟩
/-! ### no row -/
inductive BadRow (K : PySem.W.Frag) (H : Hp) : V → Prop
  | no {v : V} {T : String} (k : Knd K H v T) (h : T ≠ "list") : BadRow K H v
  | long {a : Addr} {xs : List V} (h : H a = some (.lst xs)) (l : 200 < xs.length) : BadRow K H (.ref a)
  | part {a : Addr} {xs : List V} (h : H a = some (.lst xs)) (l : xs.length ≤ 200) (rs : List Bool) (hl : rs.length = xs.length) (pk : ∀ (i : Nat) x r, xs[i]? = some x → rs[i]? = some r → PartK K H x r) (e : rs.all id = false) : BadRow K H (.ref a)
  | twin {a : Addr} {ts : List Addr} {r : PRow} (h : H a = some (.lst (ts.map V.ref))) (p : Parts K H ts r) (l : r.length ≤ 200) (ok : ∀ x ∈ r, isPart x.1 x.2 = true) (i : Nat) (x y : Int × Int) (hx : r[i]? = some x) (hy : r[i + 1]? = some y) (e : x.1 = y.1) : BadRow K H (.ref a)
theorem BadRow.same {H H' : Hp} (s : Same H H') : ∀ {v : V}, BadRow K H v → BadRow K H' v
  | _, .no k h => .no (k.same s) h
  | _, .long h l => .long (s _ _ h) l
  | _, .part h l rs hl pk e => .part (s _ _ h) l rs hl (fun i x r hx hr => (pk i x r hx hr).same s) e
  | _, .twin h p l ok i x y hx hy e => .twin (s _ _ h) (p.same s) l ok i x y hx hy e
def sp_row_x (K : PySem.W.Frag) (C : Addr) : Sp := fun vs H _ E => ∃ v : V, vs = [v] ∧ BadRow K H v ∧ ∀ H', Same H H' → E (.ref C) none H'
theorem ok_by_row_x (B : Bt mg) {tk : Tok} (g_MOST_rows : mg "MOST_rows" = some (.int 200 tk)) {CR : Addr} (x_BadRow : ExK K mg "BadRow" CR) (D : Is K mg "by_row" s_by_row ["row"]) (H_is_part : Has P w K mg base 2 "is_part" ["thing"] (sp_part K)) :
    HasX P w K mg base 3 "by_row" ["row"] (sp_row_x K CR) := by
  obtain ⟨f, fd, F, b, g⟩ := D
  obtain ⟨f_is_part, fd_is_part, G_is_part, k_is_part, b_is_part, g_is_part⟩ := H_is_part
  refine ⟨f, fd, F.okX sc_by_row (fun vs H Q E h => ?_) (fun cdv A outer s H vs Q E hr h => ?_), F.kp, b, g⟩
  · obtain ⟨v, rfl, _⟩ := h
    rfl
  · obtain ⟨v, rfl, bad, q⟩ := h
    refine ⟨_, (pss_cons (ps_if (PW.pt (pw_or (pt_not (pt_val (pe_callB call_isi (by rfl) B.isi (by decide +kernel) (pa_cons (pv 0) (pa_cons (pe_bltn (v := .ty "list") (by rfl) B.list (by decide +kernel) rfl) pa_nil))))) (pw_or (pt_cmpR op_gt (pe_callB call_len_seq (by rfl) B.len PySem.boot_len (pa_cons (pv 0) pa_nil)) (pe_glob (v := .int 200) rfl g_MOST_rows ⟨_, rfl⟩) (nomark _)) (pw_or1 (pt_not (pt_val (pe_callB (cr_all rfl) (by rfl) B.all (by decide +kernel) (pa_cons (pe_lc (own := [("part", 4)]) (g := gName 4) (tt := tYes) rfl sc_by_row.nd (pi_list (pv 0)) (blkOk_by (N := ["row", "pair", "step", "often", "part", "at"]) (sc := defScope s_by_row) (by decide +kernel)) (fun _ _ _ _ _ => pg_name (i := 4) sc_by_row.nd rfl (Or.inl rfl)) (fun _ _ _ _ _ => pts_nil) (fun _ _ _ _ _ => (pe_call G_is_part (hr.mono (by decide)) (by rfl) g_is_part k_is_part b_is_part .nil pass0 (pa_cons (pv 4) pa_nil)))) pa_nil)))))))) (pss_one (ps_raise rfl (takes_of rfl rfl rfl rfl) (pmk_own PySem.F.excBase_ValueError x_BadRow.x x_BadRow.g x_BadRow.k (raises_own x_BadRow.b x_BadRow.t) rfl))) pss_nil) (pss_cons (ps_if (pt_val (pe_callB (cr_any rfl) (by rfl) B.any (by decide +kernel) (pa_cons (pe_lc (own := [("at", 5)]) (g := gName 5) (tt := tYes) rfl sc_by_row.nd (pi_range2 (by rfl) B.range (pa_cons pe_int (pa_cons (pe_callB call_len_seq (by rfl) B.len PySem.boot_len (pa_cons (pv 0) pa_nil)) pa_nil))) (blkOk_by (N := ["row", "pair", "step", "often", "part", "at"]) (sc := defScope s_by_row) (by decide +kernel)) (fun _ _ _ _ _ => pg_name (i := 5) sc_by_row.nd rfl (Or.inl rfl)) (fun _ _ _ _ _ => pts_nil) (fun _ _ _ _ _ => (pe_cmpR op_eq (pe_ix (ix_tupK (K := K) rfl) (pe_ix (ix_listK (K := K) rfl) (pv 0) (pe_op op_sub (pv 5) pe_int) (fun _ _ => rfl)) pe_int (fun _ _ => rfl)) (pe_ix (ix_tupK (K := K) rfl) (pe_ix (ix_listK (K := K) rfl) (pv 0) (pv 5) (fun _ _ => rfl)) pe_int (fun _ _ => rfl)) (nomark _)))) pa_nil))) (pss_one (ps_raise rfl (takes_of rfl rfl rfl rfl) (pmk_own PySem.F.excBase_ValueError x_BadRow.x x_BadRow.g x_BadRow.k (raises_own x_BadRow.b x_BadRow.t) rfl))) pss_nil) (pss_cons ps_never (pss_cons ps_never (pss_one ps_never))))), ?_⟩
    cases bad with
    | @no v T k nt => exact ⟨_, rfl, _, _, _, _, false, rfl, .ty _, k.ty, kit_ty (k.noL nt), false, rfl, iteT (iteT (q H (Same.refl H)))⟩
    | @long a xs hL l =>
      have hL := SqL.of (K := K) hL
      refine ⟨_, rfl, _, _, _, _, true, rfl, .ty _, tyx_lst hL, kit_ty kb_lst_lst, true, rfl, iteF ?_⟩
      refine ⟨_, rfl, a, _, rfl, .inl hL, _, _, rfl, rfl, _, rfl, ?_⟩
      rw [decide_eq_true (show (200 : Int) < (xs.length : Int) by omega)]
      exact iteT (iteT (q H (Same.refl H)))
    | @part a xs hL l rs hl pk e =>
      have hL := SqL.of (K := K) hL
      refine ⟨_, rfl, _, _, _, _, true, rfl, .ty _, tyx_lst hL, kit_ty kb_lst_lst, true, rfl, iteF ?_⟩
      refine ⟨_, rfl, a, _, rfl, .inl hL, _, _, rfl, rfl, _, rfl, ?_⟩
      rw [decide_eq_false (show ¬ (200 : Int) < (xs.length : Int) by omega)]
      refine iteF ?_
      refine ⟨_, rfl, a, rfl, ⟨_, hL⟩, fun D nD => lc_over_lst (xs := xs) (ys := rs.map V.bl) (j := 4) hL nD (by rw [List.length_map]; exact hl) (by omega) (fun i x y hx hy => ?_) (fun H1 s1 d1 => ?_)⟩
      · rw [List.getElem?_map] at hy
        cases hr2 : rs[i]? with
        | none =>
          rw [hr2] at hy
          cases hy
        | some r =>
          rw [hr2] at hy
          cases hy
          intro H1 s1 R hR
          exact ⟨_, rfl, x, r, rfl, (pk i x r hx hr2).same s1, fun H2 s2 => hR _ s2⟩
      · refine ⟨D, rs, rfl, SqL.of d1, _, rfl, ?_⟩
        rw [e]
        exact iteT (q H1 s1)
    | @twin a ts r hL hP l ok i0 x0 y0 hx0 hy0 e0 =>
      have hL := SqL.of (K := K) hL
      have hlt := hP.length
      refine ⟨_, rfl, _, _, _, _, true, rfl, .ty _, tyx_lst hL, kit_ty kb_lst_lst, true, rfl, iteF ?_⟩
      refine ⟨_, rfl, a, _, rfl, .inl hL, _, _, rfl, rfl, _, rfl, ?_⟩
      rw [List.length_map, decide_eq_false (show ¬ (200 : Int) < (ts.length : Int) by omega)]
      refine iteF ?_
      refine ⟨_, rfl, a, rfl, ⟨_, hL⟩, fun D nD => lc_over_lst (xs := ts.map V.ref) (ys := List.replicate ts.length (.bl true)) (j := 4) hL nD (by simp) (by rw [List.length_map]; omega) (fun i x y hx hy => ?_) (fun H1 s1 d1 => ?_)⟩
      · rw [List.getElem?_map] at hx
        have hi : i < ts.length := by
          rw [List.getElem?_replicate] at hy
          split at hy
          · assumption
          · cases hy
        have hy2 : y = .bl true := by
          rw [List.getElem?_replicate, if_pos hi] at hy
          exact (Option.some.inj hy).symm
        obtain ⟨t, ht, hS⟩ := hP.get (i := i) (List.getElem?_eq_getElem (by omega))
        rw [ht] at hx
        cases hx
        subst hy2
        intro H1 s1 R hR
        refine ⟨_, rfl, .ref t, true, rfl, ?_, fun H2 s2 => hR _ s2⟩
        rw [← ok _ (List.getElem_mem (show i < r.length by omega))]
        exact .two (Same.tup s1 hS)
      · refine ⟨D, List.replicate ts.length true, rfl, SqL.of (by rw [d1, List.map_replicate]), true, ?_, iteF ?_⟩
        · rw [show (List.replicate ts.length true).all id = true by simp]
        have hL1 := Same.seq s1 hL
        have hP1 := hP.same s1
        refine ⟨_, rfl, a, _, rfl, .inl hL1, 1, _, rfl, ⟨by omega, by omega, by omega, by rw [List.length_map]; omega⟩, ?_⟩
        rw [List.length_map]
        refine fun D2 nD2 => lc_over_range (lo := 1) (n := ((ts.length : Int) - 1).toNat) (ys := ((List.range ((ts.length : Int) - 1).toNat).map fun i => decide ((r.getD i (0, 0)).1 = (r.getD (i + 1) (0, 0)).1)).map V.bl) (j := 5) nD2 (by simp) (by omega) (fun i y hi hy => ?_) (fun H2 s2 d2 => ?_)
        · rw [List.getElem?_map, List.getElem?_map, List.getElem?_range hi] at hy
          cases hy
          intro H2 s2 R hR
          obtain ⟨t1, ht1, hS1⟩ := hP1.get (i := i) (List.getElem?_eq_getElem (by omega))
          obtain ⟨t2, ht2, hS2⟩ := hP1.get (i := i + 1) (List.getElem?_eq_getElem (by omega))
          have m1 : (ts.map V.ref)[i]? = some (.ref t1) := by rw [List.getElem?_map, ht1]; rfl
          have m2 : (ts.map V.ref)[i + 1]? = some (.ref t2) := by rw [List.getElem?_map, ht2]; rfl
          have hL2 := Same.seq s2 hL1
          refine ⟨_, rfl, _, rfl, _, _, rfl, rfl, a, _, _, _, rfl, rfl, hL2, at_of (j := i) (by omega) m1, t1, _, 0, _, rfl, rfl, Same.tup s2 hS1, rfl, ?_⟩
          refine ⟨_, rfl, _, rfl, a, _, _, _, rfl, rfl, hL2, at_of (j := i + 1) (by omega) m2, t2, _, 0, _, rfl, rfl, Same.tup s2 hS2, rfl, rfl, ?_⟩
          rw [dec_vint]
          have g1 : r.getD i (0, 0) = r[i]'(by omega) := by
            rw [List.getD_eq_getElem?_getD, List.getElem?_eq_getElem (by omega)]
            rfl
          have g2 : r.getD (i + 1) (0, 0) = r[i + 1]'(by omega) := by
            rw [List.getD_eq_getElem?_getD, List.getElem?_eq_getElem (by omega)]
            rfl
          have hR2 : R (.bl (decide ((r.getD i (0, 0)).1 = (r.getD (i + 1) (0, 0)).1))) H2 := hR _ (Same.refl _)
          rw [g1, g2] at hR2
          exact hR2
        · refine ⟨D2, (List.range ((ts.length : Int) - 1).toNat).map fun i => decide ((r.getD i (0, 0)).1 = (r.getD (i + 1) (0, 0)).1), rfl, SqL.of d2, true, ?_, iteT (q _ (s1.trans s2))⟩
          have hi2 : i0 + 1 < r.length := (List.getElem?_eq_some_iff.mp hy0).1
          have z : ((List.range ((ts.length : Int) - 1).toNat).map fun i => decide ((r.getD i (0, 0)).1 = (r.getD (i + 1) (0, 0)).1)).any id = true := by
            rw [List.any_eq_true]
            refine ⟨true, List.mem_map.mpr ⟨i0, List.mem_range.mpr (by omega), ?_⟩, rfl⟩
            rw [List.getD_eq_getElem?_getD, List.getD_eq_getElem?_getD, hx0, hy0]
            exact decide_eq_true e0
          rw [z]
/-! ### no number of a side -/
def BadN (K : PySem.W.Frag) (H : Hp) (v : V) : Prop := ∃ T, Knd K H v T ∧ ∀ i, v = .int i → i < 2 ∨ 1000000 < i
theorem BadN.same {H H' : Hp} (s : Same H H') {v : V} (h : BadN K H v) : BadN K H' v := by
  obtain ⟨T, k, e⟩ := h
  exact ⟨T, k.same s, e⟩
def sp_num_x (K : PySem.W.Frag) (C : Addr) : Sp := fun vs H _ E => ∃ v : V, vs = [v] ∧ BadN K H v ∧ ∀ H', Same H H' → E (.ref C) none H'
theorem ok_check_number_x {tk : Tok} (g_MOST_sides : mg "MOST_sides" = some (.int 1000000 tk)) {CN : Addr} (x_BadNumber : ExK K mg "BadNumber" CN) (D : Is K mg "check_number" s_check_number ["number"]) (H_is_whole : Has P w K mg base 1 "is_whole" ["thing"] (sp_is_whole K)) : HasX P w K mg base 2 "check_number" ["number"] (sp_num_x K CN) := by
  obtain ⟨f, fd, F, b, g⟩ := D
  obtain ⟨f_is_whole, fd_is_whole, G_is_whole, k_is_whole, b_is_whole, g_is_whole⟩ := H_is_whole
  refine ⟨f, fd, F.okX sc_check_number (fun vs H Q E h => ?_) (fun cdv A outer s H vs Q E hr h => ?_), F.kp, b, g⟩
  · obtain ⟨v, rfl, _⟩ := h
    rfl
  · obtain ⟨v, rfl, ⟨T, k, no⟩, q⟩ := h
    refine ⟨_, (pss_one (ps_if (PW.pt (pw_or (pt_not (pt_val (pe_call G_is_whole (hr.mono (by decide)) (by rfl) g_is_whole k_is_whole b_is_whole .nil pass0 (pa_cons (pv 0) pa_nil)))) (pw_or1 (pt_not (pt_chain op_le op_le pe_int (pv 0) (pe_glob (v := .int 1000000) rfl g_MOST_sides ⟨_, rfl⟩)))))) (pss_one (ps_raise rfl (takes_of rfl rfl rfl rfl) (pmk_own PySem.F.excBase_ValueError x_BadNumber.x x_BadNumber.g x_BadNumber.k (raises_own x_BadNumber.b x_BadNumber.t) rfl))) pss_nil)), ?_⟩
    obtain ⟨bi, bb, h1, h2, e⟩ := k.whole
    refine ⟨_, rfl, v, T, bi, bb, rfl, k.ty, h1, h2, ⟨_, rfl, ?_⟩⟩
    rw [e]
    have q := q H (Same.refl H)
    cases hw : whl v with
    | false => exact iteT q
    | true =>
      obtain ⟨i, rfl⟩ := whl_int hw
      refine iteF ⟨_, rfl, _, _, rfl, rfl, _, rfl, ?_⟩
      by_cases c : 2 ≤ i
      · rw [decide_eq_true c]
        refine iteT ⟨_, _, rfl, rfl, _, rfl, ?_⟩
        rw [decide_eq_false (show ¬ i ≤ 1000000 by have := no i rfl; omega)]
        exact iteT q
      · rw [decide_eq_false c]
        exact iteF ⟨_, rfl, iteT q⟩
theorem ok_longest_x {CN : Addr} (D : Is K mg "longest" s_longest ["number"]) (H_check_number : HasX P w K mg base 2 "check_number" ["number"] (sp_num_x K CN)) : HasX P w K mg base 3 "longest" ["number"] (sp_num_x K CN) := by
  obtain ⟨f, fd, F, b, g⟩ := D
  obtain ⟨f_check_number, fd_check_number, G_check_number, k_check_number, b_check_number, g_check_number⟩ := H_check_number
  refine ⟨f, fd, F.okX sc_longest (fun vs H Q E h => ?_) (fun cdv A outer s H vs Q E hr h => ?_), F.kp, b, g⟩
  · obtain ⟨v, rfl, _⟩ := h
    rfl
  · obtain ⟨v, rfl, bad, q⟩ := h
    refine ⟨_, (pss_cons (ps_expr (pe_callS G_check_number (hr.mono (by decide)) (by rfl) g_check_number k_check_number b_check_number (fun σ => passAt (takes_of rfl rfl rfl rfl) σ) (pa_cons (pv 0) pa_nil))) (pss_cons ps_never (pss_cons ps_never (pss_cons ps_never (pss_cons ps_never (pss_one ps_never)))))), ?_⟩
    exact ⟨_, rfl, v, rfl, bad, q⟩
theorem ok_leg_x {CN : Addr} (D : Is K mg "leg" s_leg ["number"]) (H_check_number : HasX P w K mg base 2 "check_number" ["number"] (sp_num_x K CN)) : HasX P w K mg base 3 "leg" ["number"] (sp_num_x K CN) := by
  obtain ⟨f, fd, F, b, g⟩ := D
  obtain ⟨f_check_number, fd_check_number, G_check_number, k_check_number, b_check_number, g_check_number⟩ := H_check_number
  refine ⟨f, fd, F.okX sc_leg (fun vs H Q E h => ?_) (fun cdv A outer s H vs Q E hr h => ?_), F.kp, b, g⟩
  · obtain ⟨v, rfl, _⟩ := h
    rfl
  · obtain ⟨v, rfl, bad, q⟩ := h
    refine ⟨_, (pss_cons (ps_expr (pe_callS G_check_number (hr.mono (by decide)) (by rfl) g_check_number k_check_number b_check_number (fun σ => passAt (takes_of rfl rfl rfl rfl) σ) (pa_cons (pv 0) pa_nil))) (pss_one ps_never)), ?_⟩
    exact ⟨_, rfl, v, rfl, bad, q⟩
end
end SqP

namespace SqP
open PySem PySem.Spec PyProof.Rows L2 Sq
abbrev s__law_kinds : Stmt := topS 51
theorem sc__law_kinds : FnScope ["_law_error", "_law_found"] ["_law_error"] (defScope s__law_kinds) := ⟨rfl, rfl, rfl, by decide +kernel, rfl, by decide +kernel, by decide +kernel⟩
abbrev s__law_with_triple : Stmt := topS 52
theorem sc__law_with_triple : FnScope ["_law_door", "_law_triple_here"] ["_law_door", "_law_triple_here"] (defScope s__law_with_triple) := ⟨rfl, rfl, rfl, by decide +kernel, rfl, by decide +kernel, by decide +kernel⟩
abbrev s__law_with_pair : Stmt := topS 53
theorem sc__law_with_pair : FnScope ["_law_door", "_law_pair"] ["_law_door", "_law_pair"] (defScope s__law_with_pair) := ⟨rfl, rfl, rfl, by decide +kernel, rfl, by decide +kernel, by decide +kernel⟩
abbrev s__law_with_step : Stmt := topS 54
theorem sc__law_with_step : FnScope ["_law_triple_here", "_law_step"] ["_law_triple_here", "_law_step"] (defScope s__law_with_step) := ⟨rfl, rfl, rfl, by decide +kernel, rfl, by decide +kernel, by decide +kernel⟩
abbrev s__law_with_row : Stmt := topS 55
theorem sc__law_with_row : FnScope ["_law_door", "_law_row_here"] ["_law_door", "_law_row_here"] (defScope s__law_with_row) := ⟨rfl, rfl, rfl, by decide +kernel, rfl, by decide +kernel, by decide +kernel⟩
abbrev s__law_with_number : Stmt := topS 56
theorem sc__law_with_number : FnScope ["_law_door", "_law_number"] ["_law_door", "_law_number"] (defScope s__law_with_number) := ⟨rfl, rfl, rfl, by decide +kernel, rfl, by decide +kernel, by decide +kernel⟩
abbrev s__law_told : Stmt := topS 57
theorem sc__law_told : FnScope ["_law_ask", "_law_one", "_law_other", "_law_error"] ["_law_ask", "_law_one", "_law_other"] (defScope s__law_told) := ⟨rfl, rfl, rfl, by decide +kernel, rfl, by decide +kernel, by decide +kernel⟩
abbrev s__law_all : Stmt := topS 58
theorem sc__law_all : FnScope ["_law_ask", "_law_one", "_law_things", "_law_due", "_law_thing"] ["_law_ask", "_law_one", "_law_things", "_law_due"] (defScope s__law_all) := ⟨rfl, rfl, rfl, by decide +kernel, rfl, by decide +kernel, by decide +kernel⟩
section
variable {P : Program} {w : World} {K : PySem.W.Frag} {mg : Str → Option Value} {base : Heap}
/-! ### the kinds of a refusal -/
structure Es where
  T : Addr
  P : Addr
  S : Addr
  R : Addr
  N : Addr
  V : Addr
def kindL (i : Nat) : List Bool := [decide (i = 0), decide (i = 1), decide (i = 2), decide (i = 3), decide (i = 4), true]
/-- the class D is the i-th of the five -/
structure KindOf (K : PySem.W.Frag) (c : Es) (D : Addr) (i : Nat) : Prop where
  exc : ExcC K D
  t : PySem.W.kitOne K (.ref D) (.ref c.T) = some (decide (i = 0))
  p : PySem.W.kitOne K (.ref D) (.ref c.P) = some (decide (i = 1))
  s : PySem.W.kitOne K (.ref D) (.ref c.S) = some (decide (i = 2))
  r : PySem.W.kitOne K (.ref D) (.ref c.R) = some (decide (i = 3))
  n : PySem.W.kitOne K (.ref D) (.ref c.N) = some (decide (i = 4))
  v : PySem.W.kitOne K (.ref D) (.type "ValueError") = some true
  e : PySem.W.exmOne K (.ref D) (.ref c.V) = some true
def sp_kinds (K : PySem.W.Frag) (c : Es) : SpE := fun a D vs H Q _ => ∃ i : Nat, vs = [.ref a] ∧ KindOf K c D i ∧ ∀ H' l, Same H H' → H' l = some (.lst ((kindL i).map V.bl)) → Q (.ref l) H'
def HasE (P : Program) (w : World) (K : PySem.W.Frag) (mg : Str → Option Value) (base : Heap) (k : Nat) (x : Str) (ps : List Str) (sp : SpE) : Prop :=
  ∃ (f : Addr) (fd : FuncData), FnE P w K mg base k f fd ps sp ∧ PySem.W.keepIn K (.ref f) = true ∧ Binds K fd ps [] ∧ mg x = some (.ref f)
theorem ok__law_kinds (B : Bt mg) (z_verr : mg "ValueError" = none) {c : Es} (x_BadTriple : ExK K mg "BadTriple" c.T) (x_BadPair : ExK K mg "BadPair" c.P) (x_BadStep : ExK K mg "BadStep" c.S) (x_BadRow : ExK K mg "BadRow" c.R) (x_BadNumber : ExK K mg "BadNumber" c.N)
    (D : Is K mg "_law_kinds" s__law_kinds ["_law_error"]) : HasE P w K mg base 1 "_law_kinds" ["_law_error"] (sp_kinds K c) := by
  obtain ⟨f, fd, F, b, g⟩ := D
  refine ⟨f, fd, fnE_of F sc__law_kinds (fun a D vs H Q h => ?_) (fun cdv A outer s H vs Q p D zc flds h => ?_), F.kp, b, g⟩
  · obtain ⟨i, rfl, _⟩ := h
    rfl
  · obtain ⟨i, rfl, ko, q⟩ := h
    refine ⟨_, (pss_cons (ps_set (i := 1) sc__law_kinds.nd rfl (Or.inl rfl) (pe_lst (pa_cons (pe_callB (call_isK (a := p.1) (oe := p.2) List.mem_cons_self ko.exc zc flds) (by rfl) B.isi (by decide +kernel) (pa_cons (pv 0) (pa_cons (pe_glob (v := .ref c.T) (by rfl) x_BadTriple.g rfl) pa_nil))) (pa_cons (pe_callB (call_isK (a := p.1) (oe := p.2) List.mem_cons_self ko.exc zc flds) (by rfl) B.isi (by decide +kernel) (pa_cons (pv 0) (pa_cons (pe_glob (v := .ref c.P) (by rfl) x_BadPair.g rfl) pa_nil))) (pa_cons (pe_callB (call_isK (a := p.1) (oe := p.2) List.mem_cons_self ko.exc zc flds) (by rfl) B.isi (by decide +kernel) (pa_cons (pv 0) (pa_cons (pe_glob (v := .ref c.S) (by rfl) x_BadStep.g rfl) pa_nil))) pa_nil))))) (pss_one (ps_ret (pe_op op_cat (pv 1) (pe_lst (pa_cons (pe_callB (call_isK (a := p.1) (oe := p.2) List.mem_cons_self ko.exc zc flds) (by rfl) B.isi (by decide +kernel) (pa_cons (pv 0) (pa_cons (pe_glob (v := .ref c.R) (by rfl) x_BadRow.g rfl) pa_nil))) (pa_cons (pe_callB (call_isK (a := p.1) (oe := p.2) List.mem_cons_self ko.exc zc flds) (by rfl) B.isi (by decide +kernel) (pa_cons (pv 0) (pa_cons (pe_glob (v := .ref c.N) (by rfl) x_BadNumber.g rfl) pa_nil))) (pa_cons (pe_callB (call_isK (a := p.1) (oe := p.2) List.mem_cons_self ko.exc zc flds) (by rfl) B.isi (by decide +kernel) (pa_cons (pv 0) (pa_cons (pe_bltn (v := .ty "ValueError") (by rfl) z_verr (by decide +kernel) rfl) pa_nil))) pa_nil)))))))), ?_⟩
    refine ⟨_, rfl, .ref c.T, _, _, rfl, fun _ r => r, ko.t, _, rfl, .ref c.P, _, _, rfl, fun _ r => r, ko.p, _, rfl, .ref c.S, _, _, rfl, fun _ r => r, ko.s, len3, fun t1 nt1 => ?_⟩
    have s1 := same_upd (o := .lst [.bl (decide (i = 0)), .bl (decide (i = 1)), .bl (decide (i = 2))]) nt1
    have e1 : (upd H t1 (.lst [.bl (decide (i = 0)), .bl (decide (i = 1)), .bl (decide (i = 2))])) t1 = some (.lst [.bl (decide (i = 0)), .bl (decide (i = 1)), .bl (decide (i = 2))]) := upd_same
    generalize upd H t1 (.lst [.bl (decide (i = 0)), .bl (decide (i = 1)), .bl (decide (i = 2))]) = H1 at *
    refine ⟨_, rfl, _, rfl, .ref c.R, _, _, rfl, fun _ r => r, ko.r, _, rfl, .ref c.N, _, _, rfl, fun _ r => r, ko.n, _, rfl, .ty "ValueError", _, _, rfl, fun _ r => r, ko.v, len3, fun t2 nt2 => ?_⟩
    have s2 := same_upd (o := .lst [.bl (decide (i = 3)), .bl (decide (i = 4)), .bl true]) nt2
    have e2 : (upd H1 t2 (.lst [.bl (decide (i = 3)), .bl (decide (i = 4)), .bl true])) t2 = some (.lst [.bl (decide (i = 3)), .bl (decide (i = 4)), .bl true]) := upd_same
    generalize upd H1 t2 (.lst [.bl (decide (i = 3)), .bl (decide (i = 4)), .bl true]) = H2 at *
    exact ⟨t1, t2, _, _, rfl, rfl, s2 _ _ e1, e2, by show 6 ≤ sizeLine; decide, fun t3 nt3 => q _ t3 (s1.trans (s2.trans (same_upd nt3))) upd_same⟩
end
end SqP

namespace SqP
open PySem PySem.Spec PyProof.Rows L2 Sq
section
variable {P : Program} {w : World} {K : PySem.W.Frag} {mg : Str → Option Value} {base : Heap}
/-! ### the askers -/
def sp_with (K : PySem.W.Frag) (C : Addr) (Bad : Hp → V → V → Prop) : Sp := fun vs H _ E => ∃ u v : V, vs = [u, v] ∧ Bad H u v ∧ ∀ H', Same H H' → E (.ref C) none H'
def BadWT (K : PySem.W.Frag) (H : Hp) (u v : V) : Prop := (∃ d : Int, u = .int d ∧ 0 ≤ d ∧ d ≤ 3) ∧ BadT K H v
def BadWS (K : PySem.W.Frag) (H : Hp) (u v : V) : Prop := (∃ (a : Addr) (p : Pr), u = .ref a ∧ TrAt K H a (tri p) ∧ Good p ∧ Bd 900000 p.1) ∧ BadS K H v
def BadWN (K : PySem.W.Frag) (H : Hp) (u v : V) : Prop := (∃ d : Int, u = .int d) ∧ BadN K H v
theorem ok__law_with_triple_x {CT CS : Addr} (D : Is K mg "_law_with_triple" s__law_with_triple ["_law_door", "_law_triple_here"]) (H_pair_of : HasX P w K mg base 5 "pair_of" ["triple"] (sp_check_no K CT)) (H_stepped : HasX P w K mg base 5 "stepped" ["triple", "step"] (sp_stepped_x K CT CS)) (H_back : HasX P w K mg base 5 "back" ["triple"] (sp_check_no K CT)) (H_row_of : HasX P w K mg base 5 "row_of" ["triple"] (sp_check_no K CT)) :
    HasX P w K mg base 6 "_law_with_triple" ["_law_door", "_law_triple_here"] (sp_with K CT (BadWT K)) := by
  obtain ⟨f, fd, F, b, g⟩ := D
  obtain ⟨f_pair_of, fd_pair_of, G_pair_of, k_pair_of, b_pair_of, g_pair_of⟩ := H_pair_of
  obtain ⟨f_stepped, fd_stepped, G_stepped, k_stepped, b_stepped, g_stepped⟩ := H_stepped
  obtain ⟨f_back, fd_back, G_back, k_back, b_back, g_back⟩ := H_back
  obtain ⟨f_row_of, fd_row_of, G_row_of, k_row_of, b_row_of, g_row_of⟩ := H_row_of
  refine ⟨f, fd, F.okX sc__law_with_triple (fun vs H Q E h => ?_) (fun cdv A outer s H vs Q E hr h => ?_), F.kp, b, g⟩
  · obtain ⟨u, v, rfl, _⟩ := h
    rfl
  · obtain ⟨u, v, rfl, ⟨⟨d, rfl, d0, d3⟩, bad⟩, q⟩ := h
    refine ⟨_, (pss_cons (ps_if (pt_cmpR op_lt (pv 0) pe_int (nomark _)) (pss_one (ps_ret (pe_ifExp (pt_cmpR op_eq (pv 0) pe_int (nomark _)) (pe_callS G_pair_of (hr.mono (by decide)) (by rfl) g_pair_of k_pair_of b_pair_of (fun σ => passAt (takes_of rfl rfl rfl rfl) σ) (pa_cons (pv 1) pa_nil)) (pe_callS G_stepped (hr.mono (by decide)) (by rfl) g_stepped k_stepped b_stepped (fun σ => passAt (takes_of rfl rfl rfl rfl) σ) (pa_cons (pv 1) (pa_cons pe_non pa_nil)))))) pss_nil) (pss_one (ps_ret (pe_ifExp (pt_cmpR op_eq (pv 0) pe_int (nomark _)) (pe_callS G_back (hr.mono (by decide)) (by rfl) g_back k_back b_back (fun σ => passAt (takes_of rfl rfl rfl rfl) σ) (pa_cons (pv 1) pa_nil)) (pe_callS G_row_of (hr.mono (by decide)) (by rfl) g_row_of k_row_of b_row_of (fun σ => passAt (takes_of rfl rfl rfl rfl) σ) (pa_cons (pv 1) pa_nil)))))), ?_⟩
    refine ⟨_, rfl, _, _, rfl, rfl, _, rfl, if_b (fun c => ?_) (fun c => ?_)⟩
    · refine ⟨_, rfl, rfl, _, rfl, ?_⟩
      rw [dec_vint]
      refine if_b (fun c2 => ?_) (fun c2 => ?_)
      · exact ⟨_, rfl, v, rfl, bad, q⟩
      · exact ⟨_, rfl, .inl ⟨v, .non, rfl, bad, q⟩⟩
    · refine ⟨_, rfl, rfl, _, rfl, ?_⟩
      rw [dec_vint]
      refine if_b (fun c2 => ?_) (fun c2 => ?_)
      · exact ⟨_, rfl, v, rfl, bad, q⟩
      · exact ⟨_, rfl, v, rfl, bad, q⟩
theorem ok__law_with_pair_x {CP : Addr} (D : Is K mg "_law_with_pair" s__law_with_pair ["_law_door", "_law_pair"]) (H_triple_of : HasX P w K mg base 4 "triple_of" ["pair"] (sp_pair_x K CP)) : HasX P w K mg base 6 "_law_with_pair" ["_law_door", "_law_pair"] (sp_with K CP fun H _ v => BadP K H v) := by
  obtain ⟨f, fd, F, b, g⟩ := D
  obtain ⟨f_triple_of, fd_triple_of, G_triple_of, k_triple_of, b_triple_of, g_triple_of⟩ := H_triple_of
  refine ⟨f, fd, F.okX sc__law_with_pair (fun vs H Q E h => ?_) (fun cdv A outer s H vs Q E hr h => ?_), F.kp, b, g⟩
  · obtain ⟨u, v, rfl, _⟩ := h
    rfl
  · obtain ⟨u, v, rfl, bad, q⟩ := h
    refine ⟨_, (pss_one (ps_ret (pe_callS G_triple_of (hr.mono (by decide)) (by rfl) g_triple_of k_triple_of b_triple_of (fun σ => passAt (takes_of rfl rfl rfl rfl) σ) (pa_cons (pv 1) pa_nil)))), ?_⟩
    exact ⟨_, rfl, v, rfl, bad, q⟩
theorem ok__law_with_step_x {CT CS : Addr} (D : Is K mg "_law_with_step" s__law_with_step ["_law_triple_here", "_law_step"]) (H_stepped : HasX P w K mg base 5 "stepped" ["triple", "step"] (sp_stepped_x K CT CS)) : HasX P w K mg base 6 "_law_with_step" ["_law_triple_here", "_law_step"] (sp_with K CS (BadWS K)) := by
  obtain ⟨f, fd, F, b, g⟩ := D
  obtain ⟨f_stepped, fd_stepped, G_stepped, k_stepped, b_stepped, g_stepped⟩ := H_stepped
  refine ⟨f, fd, F.okX sc__law_with_step (fun vs H Q E h => ?_) (fun cdv A outer s H vs Q E hr h => ?_), F.kp, b, g⟩
  · obtain ⟨u, v, rfl, _⟩ := h
    rfl
  · obtain ⟨u, v, rfl, ⟨⟨a, p, rfl, hS, hg, hb⟩, bad⟩, q⟩ := h
    refine ⟨_, (pss_one (ps_ret (pe_callS G_stepped (hr.mono (by decide)) (by rfl) g_stepped k_stepped b_stepped (fun σ => passAt (takes_of rfl rfl rfl rfl) σ) (pa_cons (pv 0) (pa_cons (pv 1) pa_nil))))), ?_⟩
    exact ⟨_, rfl, _, rfl, .inr ⟨a, p, v, rfl, hS, hg, hb, bad, q⟩⟩
theorem ok__law_with_row_x {CR : Addr} (D : Is K mg "_law_with_row" s__law_with_row ["_law_door", "_law_row_here"]) (H_by_row : HasX P w K mg base 3 "by_row" ["row"] (sp_row_x K CR)) : HasX P w K mg base 6 "_law_with_row" ["_law_door", "_law_row_here"] (sp_with K CR fun H _ v => BadRow K H v) := by
  obtain ⟨f, fd, F, b, g⟩ := D
  obtain ⟨f_by_row, fd_by_row, G_by_row, k_by_row, b_by_row, g_by_row⟩ := H_by_row
  refine ⟨f, fd, F.okX sc__law_with_row (fun vs H Q E h => ?_) (fun cdv A outer s H vs Q E hr h => ?_), F.kp, b, g⟩
  · obtain ⟨u, v, rfl, _⟩ := h
    rfl
  · obtain ⟨u, v, rfl, bad, q⟩ := h
    refine ⟨_, (pss_one (ps_ret (pe_callS G_by_row (hr.mono (by decide)) (by rfl) g_by_row k_by_row b_by_row (fun σ => passAt (takes_of rfl rfl rfl rfl) σ) (pa_cons (pv 1) pa_nil)))), ?_⟩
    exact ⟨_, rfl, v, rfl, bad, q⟩
theorem ok__law_with_number_x {CN : Addr} (D : Is K mg "_law_with_number" s__law_with_number ["_law_door", "_law_number"]) (H_longest : HasX P w K mg base 3 "longest" ["number"] (sp_num_x K CN)) (H_leg : HasX P w K mg base 3 "leg" ["number"] (sp_num_x K CN)) : HasX P w K mg base 6 "_law_with_number" ["_law_door", "_law_number"] (sp_with K CN (BadWN K)) := by
  obtain ⟨f, fd, F, b, g⟩ := D
  obtain ⟨f_longest, fd_longest, G_longest, k_longest, b_longest, g_longest⟩ := H_longest
  obtain ⟨f_leg, fd_leg, G_leg, k_leg, b_leg, g_leg⟩ := H_leg
  refine ⟨f, fd, F.okX sc__law_with_number (fun vs H Q E h => ?_) (fun cdv A outer s H vs Q E hr h => ?_), F.kp, b, g⟩
  · obtain ⟨u, v, rfl, _⟩ := h
    rfl
  · obtain ⟨u, v, rfl, ⟨⟨d, rfl⟩, bad⟩, q⟩ := h
    refine ⟨_, (pss_one (ps_ret (pe_ifExp (pt_cmpR op_eq (pv 0) pe_int (nomark _)) (pe_callS G_longest (hr.mono (by decide)) (by rfl) g_longest k_longest b_longest (fun σ => passAt (takes_of rfl rfl rfl rfl) σ) (pa_cons (pv 1) pa_nil)) (pe_callS G_leg (hr.mono (by decide)) (by rfl) g_leg k_leg b_leg (fun σ => passAt (takes_of rfl rfl rfl rfl) σ) (pa_cons (pv 1) pa_nil))))), ?_⟩
    refine ⟨_, rfl, rfl, _, rfl, ?_⟩
    rw [dec_vint]
    refine if_b (fun c2 => ?_) (fun c2 => ?_)
    · exact ⟨_, rfl, v, rfl, bad, q⟩
    · exact ⟨_, rfl, v, rfl, bad, q⟩
/-! ### _law_told, _law_all -/
theorem pss_suite {X : Cx} {st : List Stmt} {cls : Value} {d : Option Addr} {t : Addr → TS} (h : ∀ D, cls = .ref D → d = none → PSs X st (t D)) : PSs X st (fun Dn σ H => ∃ D, cls = .ref D ∧ d = none ∧ t D Dn σ H) := by
  constructor
  rintro pn s σ H Dn I ⟨D, e1, e2, q⟩
  exact (h D e1 e2).run pn s σ H Dn I q
theorem room_hot {k : Nat} {A : Around} {x : Option Value} (h : Room k A) (hk : 1 ≤ k) : L2H.RoomH 1 (A.mark x) :=
  ⟨by have := h.dp; show A.depth + 3 * 1 + 5 < recursionLimit; omega, by have := h.un; show A.units + 16 * 1 + 200 < cLine; omega⟩
noncomputable def askX (f : Addr) (sp : Sp) (y : Addr) : Option Sp := open Classical in if y = f then some sp else none
theorem askX_held {k : Nat} {f : Addr} {sp : Sp} (h : HeldX P w K mg base k f sp) : ∀ y s, askX f sp y = some s → HeldX P w K mg base k y s := by
  intro y s e
  unfold askX at e
  by_cases z : y = f
  · rw [if_pos z] at e
    cases e
    exact z ▸ h
  · rw [if_neg z] at e
    cases e
/-- asked so, it refuses by the class D -/
def Refuses (H : Hp) (sp : Sp) (u v : V) (D : Addr) : Prop := ∀ (H1 : Hp) (Q : VK) (E : XK), Same H H1 → (∀ H', Same H1 H' → E (.ref D) none H') → sp [u, v] H1 Q E
def sp_told (P : Program) (w : World) (K : PySem.W.Frag) (mg : Str → Option Value) (base : Heap) (c : Es) : Sp := fun vs H Q _ => ∃ (f : Addr) (sp : Sp) (i : Nat) (D : Addr) (u v : V), vs = [.ref f, u, v] ∧ HeldX P w K mg base 6 f sp ∧ KindOf K c D i ∧ Refuses H sp u v D ∧ ∀ H' l, Same H H' → H' l = some (.lst ((kindL i).map V.bl)) → Q (.ref l) H'
theorem ok__law_told {c : Es} (x_TripleError : ExK K mg "TripleError" c.V) (D : Is K mg "_law_told" s__law_told ["_law_ask", "_law_one", "_law_other"]) (H__law_kinds : HasE P w K mg base 1 "_law_kinds" ["_law_error"] (sp_kinds K c)) : Has P w K mg base 7 "_law_told" ["_law_ask", "_law_one", "_law_other"] (sp_told P w K mg base c) := by
  obtain ⟨f, fd, F, b, g⟩ := D
  obtain ⟨f__law_kinds, fd__law_kinds, G__law_kinds, k__law_kinds, b__law_kinds, g__law_kinds⟩ := H__law_kinds
  refine ⟨f, fd, F.ok sc__law_told (fun vs H Q E h => ?_) (fun cdv A outer s H vs Q E hr h => ?_), F.kp, b, g⟩
  · obtain ⟨f, sp, i, D, u, v, rfl, _⟩ := h
    rfl
  · obtain ⟨f, sp, i, D, u, v, rfl, held, ko, ref, q⟩ := h
    have AA := askX_held held
    refine ⟨_, (pss_cons (ps_try_as (i := 3) rfl rfl sc__law_told.nd rfl rfl ⟨rfl, by decide, .inl x_TripleError.g⟩ takes0 (fun W pn xe tk _ => (pss_one (ps_expr (pe_askS (i := 0) AA (hr.mono (by decide)) rfl (.inl rfl) (fun σ => passAt tk σ) (pa_cons (pv 1) (pa_cons (pv 2) pa_nil)))))) (fun a oe cls d pn hz hf => pss_suite (cls := cls) (d := d) fun D e1 e2 => (pss_one (ps_ret (pe_callE (D := D) G__law_kinds (room_hot hr (by decide)) (by rw [e1, e2] at hz; exact hz) hf List.mem_cons_self (by rfl) g__law_kinds k__law_kinds b__law_kinds (pa_cons (pv 3) pa_nil)))))) (pss_one (ps_ret (pe_lst pa_nil)))), ?_⟩
    refine ⟨f, sp, rfl, if_pos rfl, _, rfl, _, rfl, ref H _ _ (Same.refl H) fun H1 s1 => ?_⟩
    exact ⟨true, ko.e, fun _ a na => ⟨D, rfl, rfl, _, rfl, i, rfl, ko, fun H2 l s2 hl => q H2 l (s1.trans s2) hl⟩, fun z => nomatch z⟩
theorem kind_shaped (i : Nat) : SeqAt.shaped (.list ((kindL i).map PyData.bool)) = true := by
  simp [kindL, SeqAt.shaped, PyData.canLay0, PyData.canLayAll0, PyData.depth, PyData.depthAll]
theorem kind_dp {H : Hp} {t : Addr} {i : Nat} (h : SqL K H t ((kindL i).map V.bl)) : Dp K H (.ref t) (.list ((kindL i).map PyData.bool)) := .lst h (.cons (.bl _) (.cons (.bl _) (.cons (.bl _) (.cons (.bl _) (.cons (.bl _) (.cons (.bl _) .nil))))))
theorem kind_eqv (i : Nat) : PyData.eqv (.list ((kindL i).map PyData.bool)) (.list ((kindL i).map PyData.bool)) = true := by
  simp [kindL, PyData.eqv, PyData.eqvAll]
def sp_all (P : Program) (w : World) (K : PySem.W.Frag) (mg : Str → Option Value) (base : Heap) (c : Es) : Sp := fun vs H Q _ => ∃ (f : Addr) (sp : Sp) (i : Nat) (D : Addr) (u : V) (a d : Addr) (xs : List V), vs = [.ref f, u, .ref a, .ref d] ∧ HeldX P w K mg base 6 f sp ∧ KindOf K c D i ∧ SqL K H a xs ∧ xs.length ≤ 1000 ∧ SqL K H d ((kindL i).map V.bl) ∧ (∀ x ∈ xs, Refuses H sp u x D) ∧ ∀ H', Same H H' → Q (.bl true) H'
theorem ok__law_all (B : Bt mg) {c : Es} (D : Is K mg "_law_all" s__law_all ["_law_ask", "_law_one", "_law_things", "_law_due"]) (H__law_told : Has P w K mg base 7 "_law_told" ["_law_ask", "_law_one", "_law_other"] (sp_told P w K mg base c)) : Has P w K mg base 8 "_law_all" ["_law_ask", "_law_one", "_law_things", "_law_due"] (sp_all P w K mg base c) := by
  obtain ⟨f, fd, F, b, g⟩ := D
  obtain ⟨f__law_told, fd__law_told, G__law_told, k__law_told, b__law_told, g__law_told⟩ := H__law_told
  refine ⟨f, fd, F.ok sc__law_all (fun vs H Q E h => ?_) (fun cdv A outer s H vs Q E hr h => ?_), F.kp, b, g⟩
  · obtain ⟨f, sp, i, D, u, a, d, xs, rfl, _⟩ := h
    rfl
  · obtain ⟨f, sp, i, D, u, a, d, xs, rfl, held, ko, hS, hl, hd, ref, q⟩ := h
    refine ⟨_, (pss_one (ps_ret (pe_callB (cr_all rfl) (by rfl) B.all (by decide +kernel) (pa_cons (pe_lc (own := [("_law_thing", 4)]) (g := gName 4) (tt := tYes) rfl sc__law_all.nd (pi_list (pv 2)) (blkOk_by (N := ["_law_ask", "_law_one", "_law_things", "_law_due", "_law_thing"]) (sc := defScope s__law_all) (by decide +kernel)) (fun _ _ _ _ _ => pg_name (i := 4) sc__law_all.nd rfl (Or.inl rfl)) (fun _ _ _ _ _ => pts_nil) (fun _ _ _ _ _ => (pe_cmpR (op_eqDK (K := K) rfl hr.units) (pe_call G__law_told (hr.mono (by decide)) (by rfl) g__law_told k__law_told b__law_told .nil pass0 (pa_cons (pv 0) (pa_cons (pv 1) (pa_cons (pv 4) pa_nil)))) (pv 3) (nomark _)))) pa_nil)))), ?_⟩
    refine ⟨_, rfl, a, rfl, ⟨_, hS⟩, fun D1 nD => lc_over_lst (xs := xs) (ys := List.replicate xs.length (.bl true)) (j := 4) hS nD (by simp) (by omega) (fun m x y hx hy => ?_) (fun H1 s1 d1 => ?_)⟩
    · have hy2 : y = .bl true := by
        have := List.mem_of_getElem? hy
        rw [List.mem_replicate] at this
        exact this.2
      subst hy2
      intro H1 s1 R hR
      refine ⟨_, rfl, _, rfl, _, rfl, f, sp, i, D, u, x, rfl, held, ko, fun H2 Q2 E2 s2 e2 => ref x (List.mem_of_getElem? hx) H2 Q2 E2 (s1.trans s2) e2, fun H2 l s2 hl2 => ?_⟩
      refine ⟨_, rfl, _, _, kind_dp (SqL.of hl2), kind_dp (Same.seq (s1.trans s2) hd), kind_shaped i, kind_shaped i, ?_⟩
      rw [kind_eqv i]
      exact hR _ s2
    · refine ⟨D1, List.replicate xs.length true, rfl, SqL.of (by rw [d1, List.map_replicate]), ?_⟩
      rw [show (List.replicate xs.length true).all id = true by simp]
      exact q H1 s1
end
end SqP

namespace SqP
open PySem PySem.Spec PyProof.Rows L2 Sq
abbrev s__law_bad_rows : Stmt := topS 59
theorem sc__law_bad_rows : FnScope ["_law_row_here", "_law_far", "_law_bad", "_law_at", "_law_part"] ["_law_row_here", "_law_far"] (defScope s__law_bad_rows) := ⟨rfl, rfl, rfl, by decide +kernel, rfl, by decide +kernel, by decide +kernel⟩
section
variable {P : Program} {w : World} {K : PySem.W.Frag} {mg : Str → Option Value} {base : Heap}
/-! ### items of the displays -/
def scV : V → Bool
  | .non => true
  | .bl _ => true
  | .int _ => true
  | .str _ => true
  | _ => false
theorem knds_sc {H : Hp} {xs : List V} (h : xs.all scV = true) : Knds K H xs := fun x hx => by
  have := List.all_eq_true.mp h x hx
  cases x with
  | non => exact ⟨_, .non⟩
  | bl b => exact ⟨_, .bl b⟩
  | int i => exact ⟨_, .int i⟩
  | str z => exact ⟨_, .str z⟩
  | byt z => cases this
  | flt z => cases this
  | ref z => cases this
  | ty z => cases this
theorem bdn {x : Int} (h : x.natAbs < 2 ^ 64) : Bd 3000000 x := (bd_small (k := 64) h).mono (by decide)
theorem badT_stays : Stays (BadT K) := fun _ _ _ s h => h.same s
theorem badP_stays : Stays (BadP K) := fun _ _ _ s h => h.same s
theorem badS_stays : Stays (BadS K) := fun _ _ _ s h => h.same s
theorem badN_stays : Stays (BadN K) := fun _ _ _ s h => h.same s
theorem badRow_stays : Stays (BadRow K) := fun _ _ _ s h => h.same s
theorem partF_stays : Stays (fun H v => PartK K H v false) := fun _ _ _ s h => h.same s
theorem PartK.twoF {H : Hp} {a : Addr} {s o : Int} (h : SqT K H a [.int s, .int o]) (e : isPart s o = false) : PartK K H (.ref a) false := e ▸ .two h
theorem part_neg {f : Int} (h : 0 ≤ f) : isPart 0 (-1 - f) = false := by
  unfold isPart
  rw [decide_eq_false (show ¬ 1 ≤ -1 - f by omega), Bool.false_and, Bool.and_false]
theorem part_far {f : Int} (h : 0 ≤ f) : isPart 1 (1001 + f) = false := by
  unfold isPart
  rw [decide_eq_false (show ¬ 1001 + f ≤ 1000 by omega), Bool.or_false]
  simp
theorem pr_far3 {f : Int} (h : 0 ≤ f) : isPr (5 + 2 * f) 3 = false := by
  unfold isPr
  rw [decide_eq_true (show (5 + 2 * f + 3) % 2 = 0 by omega)]
  simp
theorem pr_far6 {f : Int} (h : 0 ≤ f) : isPr (9 + 6 * f) 6 = false := by
  have d : (3 : Nat) ∣ Int.gcd (9 + 6 * f) 6 := Nat.dvd_gcd (show 3 ∣ (9 + 6 * f).natAbs by omega) (by decide)
  have e : ¬ Int.gcd (9 + 6 * f) 6 = 1 := fun z => by
    rw [z] at d
    exact absurd d (by decide)
  unfold isPr
  rw [decide_eq_false e, Bool.and_false]
/-- a row of parts that are none -/
theorem bad_of {n : Nat} {H : Hp} {v : V} (h : LstOf (fun H v => PartK K H v false) n H v) (h0 : 0 < n) (hn : n ≤ 16) : BadRow K H v := by
  obtain ⟨a, xs, rfl, ha, hl, hx⟩ := h
  refine .part ha (by omega) (List.replicate xs.length false) (by simp) (fun i x r h1 h2 => ?_) ?_
  · have e := List.mem_of_getElem? h2
    rw [List.mem_replicate] at e
    rw [e.2]
    exact hx x (List.mem_of_getElem? h1)
  · rw [hl]
    cases n with
    | zero => omega
    | succ m => rfl
/-! ### the kinds of parts of a list -/
inductive RK (K : PySem.W.Frag) (H : Hp) : List V → List Bool → Prop
  | nil : RK K H [] []
  | cons {v : V} {vs : List V} {r : Bool} {rs : List Bool} (h : PartK K H v r) (t : RK K H vs rs) : RK K H (v :: vs) (r :: rs)
theorem RK.len {H : Hp} : ∀ {vs : List V} {rs : List Bool}, RK K H vs rs → rs.length = vs.length
  | _, _, .nil => rfl
  | _, _, .cons _ t => congrArg (· + 1) t.len
theorem RK.at_ {H : Hp} : ∀ {vs : List V} {rs : List Bool} {i : Nat} {x : V} {r : Bool}, RK K H vs rs → vs[i]? = some x → rs[i]? = some r → PartK K H x r
  | _, _, 0, _, _, .cons h _, e1, e2 => by
    cases e1
    cases e2
    exact h
  | _, _, i + 1, _, _, .cons _ t, e1, e2 => t.at_ (i := i) e1 e2
theorem RK.app {H : Hp} {us : List V} {ss : List Bool} (b : RK K H us ss) : ∀ {vs : List V} {rs : List Bool}, RK K H vs rs → RK K H (vs ++ us) (rs ++ ss)
  | _, _, .nil => b
  | _, _, .cons h t => .cons h (RK.app b t)
theorem RK.all_ {H : Hp} : ∀ {vs : List V}, (∀ x ∈ vs, PartK K H x true) → RK K H vs (List.replicate vs.length true)
  | [], _ => .nil
  | v :: vs, h => .cons (h v List.mem_cons_self) (RK.all_ fun x hx => h x (List.mem_cons_of_mem _ hx))
theorem bad_mid {H : Hp} {a : Addr} {xs zs : List V} {p : V} (ha : H a = some (.lst (xs ++ [p] ++ zs))) (hx : ∀ x ∈ xs, PartK K H x true) (hp : PartK K H p false) (hz : ∀ x ∈ zs, PartK K H x true) (l : xs.length + zs.length ≤ 199) : BadRow K H (.ref a) := by
  have k := RK.app (RK.all_ hz) (RK.app (.cons hp .nil) (RK.all_ hx))
  refine .part ha (by rw [List.length_append, List.length_append]; show xs.length + 1 + zs.length ≤ 200; omega) _ k.len (fun i x r h1 h2 => k.at_ h1 h2) ?_
  simp
/-! ### two alike side by side -/
theorem y_twin2 {σ : L2.St} {ta tb : TA} {s o1 o2 : Int} (h1 : Pvs σ ta [.int s, .int o1]) (h2 : Pvs σ tb [.int s, .int o2]) (p1 : isPart s o1 = true) (p2 : isPart s o2 = true) : Y σ (tLst (tCons (tTup ta) (tCons (tTup tb) tNil))) (BadRow K) := fun H Q q => by
  refine h1 _ _ ⟨len2, fun a na => h2 _ _ ⟨len2, fun b nb => ⟨len2, fun l nl => ?_⟩⟩⟩
  have s1 := same_upd (o := .tup [.int s, .int o1]) na
  have s2 := same_upd (o := .tup [.int s, .int o2]) nb
  have s3 := same_upd (o := .lst [.ref a, .ref b]) nl
  refine q _ _ (s1.trans (s2.trans s3)) (.twin (ts := [a, b]) (r := [(s, o1), (s, o2)]) upd_same ⟨Same.tup (s2.trans s3) (SqT.of upd_same), Same.tup s3 (SqT.of upd_same), trivial⟩ (by show 2 ≤ 200; decide) (fun x hx => ?_) 0 (s, o1) (s, o2) rfl rfl rfl)
  simp only [List.mem_cons, List.not_mem_nil, or_false] at hx
  rcases hx with rfl | rfl
  · exact p1
  · exact p2
theorem y_twin3 {σ : L2.St} {tc ta tb : TA} {s0 o0 s o1 o2 : Int} (h0 : Pvs σ tc [.int s0, .int o0]) (h1 : Pvs σ ta [.int s, .int o1]) (h2 : Pvs σ tb [.int s, .int o2]) (p0 : isPart s0 o0 = true) (p1 : isPart s o1 = true) (p2 : isPart s o2 = true) : Y σ (tLst (tCons (tTup tc) (tCons (tTup ta) (tCons (tTup tb) tNil)))) (BadRow K) := fun H Q q => by
  refine h0 _ _ ⟨len2, fun c nc => h1 _ _ ⟨len2, fun a na => h2 _ _ ⟨len2, fun b nb => ⟨len3, fun l nl => ?_⟩⟩⟩⟩
  have s0' := same_upd (o := .tup [.int s0, .int o0]) nc
  have s1 := same_upd (o := .tup [.int s, .int o1]) na
  have s2 := same_upd (o := .tup [.int s, .int o2]) nb
  have s3 := same_upd (o := .lst [.ref c, .ref a, .ref b]) nl
  refine q _ _ (s0'.trans (s1.trans (s2.trans s3))) (.twin (ts := [c, a, b]) (r := [(s0, o0), (s, o1), (s, o2)]) upd_same ⟨Same.tup (s1.trans (s2.trans s3)) (SqT.of upd_same), Same.tup (s2.trans s3) (SqT.of upd_same), Same.tup s3 (SqT.of upd_same), trivial⟩ (by show 3 ≤ 200; decide) (fun x hx => ?_) 1 (s, o1) (s, o2) rfl rfl rfl)
  simp only [List.mem_cons, List.not_mem_nil, or_false] at hx
  rcases hx with rfl | rfl | rfl
  · exact p0
  · exact p1
  · exact p2
/-! ### rows made turn by turn -/
theorem lc_rows {lo : Int} {n j : Nat} {te : TE} {σ : L2.St} {H : Hp} {D : Addr} {Qd : Hp → Prop} (f : Nat → Int × Int) (hD : H D = none) (hz : n ≤ 1000)
    (turn : ∀ i, i < n → ∀ H1, Same H H1 → ∀ R : V → Hp → Prop, (∀ t H2, Same H1 H2 → SqT K H2 t [.int (f i).1, .int (f i).2] → R (.ref t) H2) → te ((σ.set j none).set j (some (.int (lo + i)))) H1 R)
    (done : ∀ H' (ts : List Addr), Same H H' → H' D = some (.lst (ts.map V.ref)) → Parts K H' ts ((List.range n).map f) → Qd H') :
    ∃ W : Nat → Nat → Hp → Prop, (∃ m, W 0 m (upd H D (.lst []))) ∧ ∀ i m H, W i m H →
      ((Itr lo n).stop i H ∧ Qd H) ∨ ((Itr lo n).go i H ∧ ∃ Nx : Hp → Prop, (∀ H', Nx H' → ∃ m', m' < m ∧ W (i + 1) m' H') ∧ ∀ x H', (Itr lo n).yld i H x H' → gName j x (wipe σ [j]) H' fun σ2 H2 => wipe σ2 [j] = wipe σ [j] ∧ tYes σ2 H2 fun b H3 =>
        if b = true then te σ2 H3 fun y H4 => ∃ acc, H4 D = some (.lst acc) ∧ acc.length < sizeLine ∧ Nx (upd H4 D (.lst (acc ++ [y]))) else Nx H3) := by
  refine lc_range (n := n) (fun i H' => Same H H' ∧ ∃ ts : List Addr, H' D = some (.lst (ts.map V.ref)) ∧ Parts K H' ts ((List.range i).map f)) ⟨same_upd hD, [], upd_same, trivial⟩ (fun i H' hi h => ?_) (fun H' h => ?_)
  · obtain ⟨s1, ts, d1, p1⟩ := h
    refine ⟨by show ((σ.set j none).set j (some (.int (lo + i)))).set j none = σ.set j none; rw [List.set_set, List.set_set], ?_⟩
    show if true = true then te ((σ.set j none).set j (some (.int (lo + i)))) H' (fun y H4 => ∃ acc, H4 D = some (.lst acc) ∧ acc.length < sizeLine ∧ (Same H (upd H4 D (.lst (acc ++ [y]))) ∧ ∃ ts : List Addr, (upd H4 D (.lst (acc ++ [y]))) D = some (.lst (ts.map V.ref)) ∧ Parts K (upd H4 D (.lst (acc ++ [y]))) ts ((List.range (i + 1)).map f))) else (Same H H' ∧ ∃ ts : List Addr, H' D = some (.lst (ts.map V.ref)) ∧ Parts K H' ts ((List.range (i + 1)).map f))
    rw [if_pos rfl]
    refine turn i hi H' s1 _ fun t H2 s2 ht => ?_
    have len := p1.length
    rw [List.length_map, List.length_range] at len
    refine ⟨_, s2 _ _ d1, by rw [List.length_map, sizeLine_eq]; omega, same_new hD (fun b o e => s2 _ _ (s1 _ _ e)), ts ++ [t], ?_, ?_⟩
    · rw [upd_same, List.map_append]
      rfl
    · rw [List.range_succ, List.map_append]
      exact Parts.snoc (tup_keep (s2 _ _ d1) ht) (parts_keep (s2 _ _ d1) (p1.same s2))
  · obtain ⟨s1, ts, d1, p1⟩ := h
    exact done H' ts s1 d1 p1
end
end SqP

namespace SqP
open PySem PySem.Spec PyProof.Rows L2 Sq
section
variable {P : Program} {w : World} {K : PySem.W.Frag} {mg : Str → Option Value} {base : Heap}
theorem slot_set {σ : L2.St} {v : V} (h : 3 < σ.length) : ((σ.set 3 none).set 3 (some v))[3]? = some (some v) := by
  rw [List.set_set, List.getElem?_set_self h]
/-! ### what stays when a list grows -/
theorem Knd.put {H : Hp} {l : Addr} {zs ws : List V} (hl : H l = some (.lst zs)) : ∀ {v : V} {T : String}, Knd K H v T → Knd K (upd H l (.lst ws)) v T
  | _, _, .non => .non
  | _, _, .bl b => .bl b
  | _, _, .int i => .int i
  | _, _, .str x => .str x
  | _, _, @Knd.lst _ _ a xs h => by
    by_cases e : a = l
    · subst e
      exact .lst upd_same
    · exact .lst (by rw [upd_ne e]; exact h)
  | _, _, .dct h => .dct (by rw [upd_ne (fun e => by rw [e, hl] at h; cases h)]; exact h)
  | _, _, .tup h => .tup (by rw [upd_ne (fun e => by rw [e, hl] at h; cases h)]; exact h)
theorem PartK.put {H : Hp} {l : Addr} {zs ws : List V} (hl : H l = some (.lst zs)) : ∀ {v : V} {b : Bool}, PartK K H v b → PartK K (upd H l (.lst ws)) v b
  | _, _, .no k h => .no (k.put hl) h
  | _, _, .tup h l2 k e => .tup (tup_keep hl h) l2 (fun x hx => (k x hx).imp fun _ z => z.put hl) e
  | _, _, .two h => .two (tup_keep hl h)
theorem BadRow.put {H : Hp} {l : Addr} {zs ws : List V} (hl : H l = some (.lst zs)) : ∀ {v : V}, v ≠ .ref l → BadRow K H v → BadRow K (upd H l (.lst ws)) v
  | _, _, .no k h => .no (k.put hl) h
  | _, n, .long h z => .long (by rw [upd_ne (fun e => n (congrArg V.ref e))]; exact h) z
  | _, n, .part h z rs hz pk e => .part (by rw [upd_ne (fun e => n (congrArg V.ref e))]; exact h) z rs hz (fun i x r a b => (pk i x r a b).put hl) e
  | _, n, .twin h p z ok i x y hx hy e => .twin (by rw [upd_ne (fun e => n (congrArg V.ref e))]; exact h) (parts_keep hl p) z ok i x y hx hy e
theorem BadRow.old {H : Hp} {l : Addr} (hl : H l = none) {v : V} (h : BadRow K H v) : v ≠ .ref l := fun e => by
  subst e
  cases h with
  | no k _ =>
    cases k with
    | lst h => rw [hl] at h; cases h
    | dct h => rw [hl] at h; cases h
    | tup h => rw [hl] at h; cases h
  | long h _ => rw [hl] at h; cases h
  | part h _ _ _ _ _ => rw [hl] at h; cases h
  | twin h _ _ _ _ _ _ _ _ _ => rw [hl] at h; cases h
theorem cutV_in {xs : List V} {lo hi : Option Int} {x : V} (h : x ∈ cutV xs lo hi) : x ∈ xs := by
  unfold cutV at h
  exact List.mem_of_mem_drop (List.mem_of_mem_take h)
theorem cutV_len {xs : List V} {lo hi : Option Int} : (cutV xs lo hi).length ≤ xs.length := by
  unfold cutV
  rw [List.length_take, List.length_drop]
  omega
theorem parts_all {H : Hp} : ∀ {ts : List Addr} {r : PRow}, Parts K H ts r → (∀ x ∈ r, PartOk x) → ∀ v ∈ ts.map V.ref, PartK K H v true
  | [], [], _, _, v, hv => by cases hv
  | t :: ts, x :: r, h, ok, v, hv => by
    rcases List.mem_cons.mp hv with rfl | hv
    · exact isPart_ok (ok x List.mem_cons_self) ▸ .two h.1
    · exact parts_all h.2 (fun y hy => ok y (List.mem_cons_of_mem _ hy)) v hv
  | [], _ :: _, h, _, _, _ => h.elim
  | _ :: _, [], h, _, _, _ => h.elim
/-! ### _law_bad_rows -/
def sp_bad_rows (K : PySem.W.Frag) : Sp := fun vs H Q _ => ∃ (a : Addr) (r : PRow) (f : Int), vs = [.ref a, .int f] ∧ RowAt K H a r ∧ RowOk r ∧ r.length ≤ 16 ∧ 0 ≤ f ∧ ∀ H' l xs, Same H H' → H' l = some (.lst xs) → xs.length ≤ 100 → (∀ x ∈ xs, BadRow K H' x) → Q (.ref l) H'
set_option maxHeartbeats 16000000 in
theorem ok__law_bad_rows (B : Bt mg) (D : Is K mg "_law_bad_rows" s__law_bad_rows ["_law_row_here", "_law_far"]) : Has P w K mg base 1 "_law_bad_rows" ["_law_row_here", "_law_far"] (sp_bad_rows K) := by
  obtain ⟨f, fd, F, b, g⟩ := D
  refine ⟨f, fd, F.ok sc__law_bad_rows (fun vs H Q E h => ?_) (fun cdv A outer s H vs Q E hr h => ?_), F.kp, b, g⟩
  · obtain ⟨a, r, f, rfl, _⟩ := h
    rfl
  · obtain ⟨a, r, fa, rfl, ⟨ts, hL, hP⟩, ok, hl, f0, q⟩ := h
    have hlt := hP.length
    refine ⟨_, (pss_cons (ps_set (i := 2) sc__law_bad_rows.nd rfl (Or.inl rfl) (pe_y (ι := Unit) (cond := fun _ _ => True) (φ := fun _ => LstOf (BadRow K) 14) (pe_lst (pa_cons pe_non (pa_cons (pe_tup pa_nil) (pa_cons (pe_tup (pa_cons (pe_tup (pa_cons pe_int (pa_cons pe_int pa_nil))) pa_nil)) (pa_cons pe_str (pa_cons pe_dnewK (pa_cons pe_int (pa_cons (pe_lst (pa_cons pe_non pa_nil)) (pa_cons (pe_lst (pa_cons pe_int pa_nil)) (pa_cons (pe_lst (pa_cons (pe_tup (pa_cons pe_int pa_nil)) pa_nil)) (pa_cons (pe_lst (pa_cons (pe_tup (pa_cons pe_int (pa_cons pe_int (pa_cons pe_int pa_nil)))) pa_nil)) (pa_cons (pe_lst (pa_cons (pe_lst (pa_cons pe_int (pa_cons pe_int pa_nil))) pa_nil)) (pa_cons (pe_lst (pa_cons (pe_tup (pa_cons pe_int (pa_cons pe_int pa_nil))) pa_nil)) (pa_cons (pe_lst (pa_cons (pe_tup (pa_cons (pe_un un_neg pe_int) (pa_cons pe_int pa_nil))) pa_nil)) (pa_cons (pe_lst (pa_cons (pe_tup (pa_cons pe_int (pa_cons pe_int pa_nil))) pa_nil)) pa_nil))))))))))))))) fun i σ hc => y_lsts badRow_stays (ys_cons badRow_stays (y_p pv_c fun H => .no .non (by decide)) (ys_cons badRow_stays (y_tup pvs_nil (Nat.le_of_ble_eq_true rfl) fun H a h => .no (.tup h) (by decide)) (ys_cons badRow_stays (y_imp (y_tups (φ := fun _ _ => True) (fun _ _ _ _ _ => trivial) (ys_cons (fun _ _ _ _ _ => trivial) (y_tup (pvs_cons pv_c (pvs_cons pv_c pvs_nil)) (Nat.le_of_ble_eq_true rfl) fun _ _ _ => trivial) ys_nil) (by decide)) fun H v ⟨a, xs, e, h, _⟩ => e ▸ .no (.tup h) (by decide)) (ys_cons badRow_stays (y_p pv_c fun H => .no (.str _) (by decide)) (ys_cons badRow_stays (y_dct fun H a h => .no (.dct h) (by decide)) (ys_cons badRow_stays (y_p pv_c fun H => .no (.int _) (by decide)) (ys_cons badRow_stays (y_imp (y_lsts partF_stays (ys_cons partF_stays (y_p pv_c fun H => .no .non (by decide)) ys_nil) (by decide)) fun H v h => bad_of h (by decide) (by decide)) (ys_cons badRow_stays (y_imp (y_lsts partF_stays (ys_cons partF_stays (y_p pv_c fun H => .no (.int _) (by decide)) ys_nil) (by decide)) fun H v h => bad_of h (by decide) (by decide)) (ys_cons badRow_stays (y_imp (y_lsts partF_stays (ys_cons partF_stays (y_tup (pvs_cons pv_c pvs_nil) (Nat.le_of_ble_eq_true rfl) fun H a h => (.tup (SqT.of h) (Nat.le_of_ble_eq_true rfl) (knds_sc rfl) (by decide))) ys_nil) (by decide)) fun H v h => bad_of h (by decide) (by decide)) (ys_cons badRow_stays (y_imp (y_lsts partF_stays (ys_cons partF_stays (y_tup (pvs_cons pv_c (pvs_cons pv_c (pvs_cons pv_c pvs_nil))) (Nat.le_of_ble_eq_true rfl) fun H a h => (.tup (SqT.of h) (Nat.le_of_ble_eq_true rfl) (knds_sc rfl) (by decide))) ys_nil) (by decide)) fun H v h => bad_of h (by decide) (by decide)) (ys_cons badRow_stays (y_imp (y_lsts partF_stays (ys_cons partF_stays (y_lst (pvs_cons pv_c (pvs_cons pv_c pvs_nil)) (Nat.le_of_ble_eq_true rfl) fun H a h => .no (.lst h) (by decide)) ys_nil) (by decide)) fun H v h => bad_of h (by decide) (by decide)) (ys_cons badRow_stays (y_imp (y_lsts partF_stays (ys_cons partF_stays (y_tup (pvs_cons pv_c (pvs_cons pv_c pvs_nil)) (Nat.le_of_ble_eq_true rfl) fun H a h => .twoF (SqT.of h) (by decide)) ys_nil) (by decide)) fun H v h => bad_of h (by decide) (by decide)) (ys_cons badRow_stays (y_imp (y_lsts partF_stays (ys_cons partF_stays (y_tup (pvs_cons (pv_u pv_c) (pvs_cons pv_c pvs_nil)) (Nat.le_of_ble_eq_true rfl) fun H a h => .twoF (SqT.of h) (by decide)) ys_nil) (by decide)) fun H v h => bad_of h (by decide) (by decide)) (ys_cons badRow_stays (y_imp (y_lsts partF_stays (ys_cons partF_stays (y_tup (pvs_cons pv_c (pvs_cons pv_c pvs_nil)) (Nat.le_of_ble_eq_true rfl) fun H a h => .twoF (SqT.of h) (by decide)) ys_nil) (by decide)) fun H v h => bad_of h (by decide) (by decide)) ys_nil)))))))))))))) (by decide))) (pss_cons (ps_set (i := 2) sc__law_bad_rows.nd rfl (Or.inl rfl) (pe_op op_cat (pv 2) (pe_y (ι := Int) (cond := fun f σ => σ[1]? = some (some (.int f)) ∧ 0 ≤ f) (φ := fun _ => LstOf (BadRow K) 7) (pe_lst (pa_cons (pe_lst (pa_cons (pe_tup (pa_cons pe_int (pa_cons (pe_op op_sub (pe_un un_neg pe_int) (pv 1)) pa_nil))) pa_nil)) (pa_cons (pe_lst (pa_cons (pe_tup (pa_cons pe_int (pa_cons pe_int pa_nil))) pa_nil)) (pa_cons (pe_lst (pa_cons (pe_tup (pa_cons pe_int (pa_cons (pe_op op_add pe_int (pv 1)) pa_nil))) pa_nil)) (pa_cons (pe_lst (pa_cons (pe_tup (pa_cons pe_bl (pa_cons pe_int pa_nil))) pa_nil)) (pa_cons (pe_lst (pa_cons (pe_tup (pa_cons pe_int (pa_cons pe_bl pa_nil))) pa_nil)) (pa_cons (pe_lst (pa_cons (pe_tup (pa_cons pe_str (pa_cons pe_int pa_nil))) pa_nil)) (pa_cons (pe_lst (pa_cons (pe_tup (pa_cons pe_int (pa_cons pe_non pa_nil))) pa_nil)) pa_nil)))))))) fun i σ hc => have hf := hc.2; y_lsts badRow_stays (ys_cons badRow_stays (y_imp (y_lsts partF_stays (ys_cons partF_stays (y_tup (pvs_cons pv_c (pvs_cons (pv_0 (pv_u pv_c) (pv_v hc.1)) pvs_nil)) (Nat.le_of_ble_eq_true rfl) fun H a h => .twoF (SqT.of h) (part_neg hf)) ys_nil) (by decide)) fun H v h => bad_of h (by decide) (by decide)) (ys_cons badRow_stays (y_imp (y_lsts partF_stays (ys_cons partF_stays (y_tup (pvs_cons pv_c (pvs_cons pv_c pvs_nil)) (Nat.le_of_ble_eq_true rfl) fun H a h => .twoF (SqT.of h) (by decide)) ys_nil) (by decide)) fun H v h => bad_of h (by decide) (by decide)) (ys_cons badRow_stays (y_imp (y_lsts partF_stays (ys_cons partF_stays (y_tup (pvs_cons pv_c (pvs_cons (pv_0 pv_c (pv_v hc.1)) pvs_nil)) (Nat.le_of_ble_eq_true rfl) fun H a h => .twoF (SqT.of h) (part_far hf)) ys_nil) (by decide)) fun H v h => bad_of h (by decide) (by decide)) (ys_cons badRow_stays (y_imp (y_lsts partF_stays (ys_cons partF_stays (y_tup (pvs_cons pv_c (pvs_cons pv_c pvs_nil)) (Nat.le_of_ble_eq_true rfl) fun H a h => (.tup (SqT.of h) (Nat.le_of_ble_eq_true rfl) (knds_sc rfl) (by decide))) ys_nil) (by decide)) fun H v h => bad_of h (by decide) (by decide)) (ys_cons badRow_stays (y_imp (y_lsts partF_stays (ys_cons partF_stays (y_tup (pvs_cons pv_c (pvs_cons pv_c pvs_nil)) (Nat.le_of_ble_eq_true rfl) fun H a h => (.tup (SqT.of h) (Nat.le_of_ble_eq_true rfl) (knds_sc rfl) (by decide))) ys_nil) (by decide)) fun H v h => bad_of h (by decide) (by decide)) (ys_cons badRow_stays (y_imp (y_lsts partF_stays (ys_cons partF_stays (y_tup (pvs_cons pv_c (pvs_cons pv_c pvs_nil)) (Nat.le_of_ble_eq_true rfl) fun H a h => (.tup (SqT.of h) (Nat.le_of_ble_eq_true rfl) (knds_sc rfl) (by decide))) ys_nil) (by decide)) fun H v h => bad_of h (by decide) (by decide)) (ys_cons badRow_stays (y_imp (y_lsts partF_stays (ys_cons partF_stays (y_tup (pvs_cons pv_c (pvs_cons pv_c pvs_nil)) (Nat.le_of_ble_eq_true rfl) fun H a h => (.tup (SqT.of h) (Nat.le_of_ble_eq_true rfl) (knds_sc rfl) (by decide))) ys_nil) (by decide)) fun H v h => bad_of h (by decide) (by decide)) ys_nil))))))) (by decide)))) (pss_cons (ps_set (i := 2) sc__law_bad_rows.nd rfl (Or.inl rfl) (pe_op op_cat (pv 2) (pe_y (ι := Unit) (cond := fun _ σ => 3 < σ.length) (φ := fun _ => LstOf (BadRow K) 3) (pe_lst (pa_cons (pe_lst (pa_cons (pe_tup (pa_cons pe_int (pa_cons pe_int pa_nil))) (pa_cons (pe_tup (pa_cons pe_int (pa_cons pe_int pa_nil))) pa_nil))) (pa_cons (pe_lst (pa_cons (pe_tup (pa_cons pe_int (pa_cons pe_int pa_nil))) (pa_cons (pe_tup (pa_cons pe_int (pa_cons pe_int pa_nil))) (pa_cons (pe_tup (pa_cons pe_int (pa_cons pe_int pa_nil))) pa_nil)))) (pa_cons (pe_lc (own := [("_law_at", 3)]) (g := gName 3) (tt := tYes) rfl sc__law_bad_rows.nd (pi_range1 (by rfl) B.range (pa_cons pe_int pa_nil)) (blkOk_by (N := ["_law_row_here", "_law_far", "_law_bad", "_law_at", "_law_part"]) (sc := defScope s__law_bad_rows) (by decide +kernel)) (fun _ _ _ _ _ => pg_name (i := 3) sc__law_bad_rows.nd rfl (Or.inl rfl)) (fun _ _ _ _ _ => pts_nil) (fun _ _ _ _ _ => (pe_tup (pa_cons (pe_op op_mul (pe_op op_mod (pv 3) pe_int) pe_int) (pa_cons pe_int pa_nil))))) pa_nil)))) fun i σ hc => y_lsts badRow_stays (ys_cons badRow_stays (y_twin2 (pvs_cons pv_c (pvs_cons pv_c pvs_nil)) (pvs_cons pv_c (pvs_cons pv_c pvs_nil)) (by decide) (by decide)) (ys_cons badRow_stays (y_twin3 (pvs_cons pv_c (pvs_cons pv_c pvs_nil)) (pvs_cons pv_c (pvs_cons pv_c pvs_nil)) (pvs_cons pv_c (pvs_cons pv_c pvs_nil)) (by decide) (by decide) (by decide)) (ys_cons badRow_stays (fun H Q q => ⟨201, rfl, by decide, by decide, fun D nD => lc_rows (K := K) (lo := 0) (n := (201 : Int).toNat) (fun i => ((0 + (i : Int)) % 2 * 2, 1)) nD (by decide) (fun i hi H1 s1 R hR => ⟨_, slot_set hc, _, _, rfl, rfl, (by decide : (0 : Int) < 2), _, _, rfl, rfl, .inr ⟨by decide, by decide⟩, len2, fun t nt => hR t _ (same_upd nt) (SqT.of upd_same)⟩) (fun H1 ts s1 d1 p1 => q _ _ s1 (.long d1 (by rw [List.length_map, p1.length, List.length_map, List.length_range]; decide)))⟩) ys_nil))) (by decide)))) (pss_cons (ps_set (i := 3) sc__law_bad_rows.nd rfl (Or.inl rfl) (pe_op op_mod (pv 1) (pe_op op_add (pe_callB call_len_seq (by rfl) B.len PySem.boot_len (pa_cons (pv 0) pa_nil)) pe_int))) (pss_cons (ps_for PassesOwn.never rfl (pi_tup (pe_y (ι := Int) (cond := fun f σ => σ[1]? = some (some (.int f)) ∧ 0 ≤ f) (φ := fun _ => TupOf (fun H v => PartK K H v false) 6) (pe_tup (pa_cons pe_non (pa_cons (pe_tup (pa_cons pe_int (pa_cons pe_int pa_nil))) (pa_cons (pe_tup (pa_cons pe_int (pa_cons pe_int pa_nil))) (pa_cons (pe_tup (pa_cons pe_int (pa_cons (pe_op op_add pe_int (pv 1)) pa_nil))) (pa_cons (pe_lst (pa_cons pe_int (pa_cons pe_int pa_nil))) (pa_cons (pe_tup (pa_cons pe_int (pa_cons pe_str pa_nil))) pa_nil))))))) fun i σ hc => have hf := hc.2; y_tups partF_stays (ys_cons partF_stays (y_p pv_c fun H => .no .non (by decide)) (ys_cons partF_stays (y_tup (pvs_cons pv_c (pvs_cons pv_c pvs_nil)) (Nat.le_of_ble_eq_true rfl) fun H a h => .twoF (SqT.of h) (by decide)) (ys_cons partF_stays (y_tup (pvs_cons pv_c (pvs_cons pv_c pvs_nil)) (Nat.le_of_ble_eq_true rfl) fun H a h => .twoF (SqT.of h) (by decide)) (ys_cons partF_stays (y_tup (pvs_cons pv_c (pvs_cons (pv_0 pv_c (pv_v hc.1)) pvs_nil)) (Nat.le_of_ble_eq_true rfl) fun H a h => .twoF (SqT.of h) (part_far hf)) (ys_cons partF_stays (y_lst (pvs_cons pv_c (pvs_cons pv_c pvs_nil)) (Nat.le_of_ble_eq_true rfl) fun H a h => .no (.lst h) (by decide)) (ys_cons partF_stays (y_tup (pvs_cons pv_c (pvs_cons pv_c pvs_nil)) (Nat.le_of_ble_eq_true rfl) fun H a h => (.tup (SqT.of h) (Nat.le_of_ble_eq_true rfl) (knds_sc rfl) (by decide))) ys_nil)))))) (by decide))) (pg_name (i := 4) sc__law_bad_rows.nd rfl (Or.inl rfl)) (pss_one (ps_expr (pe_bm PySem.F.plainAttrs_list PySem.F.slot_list_append PySem.F.type_list_append mt_append (pv 2) (pa_cons (pe_op op_cat (pe_op op_cat (pe_slice sl_list (pv 0) po_none (po_some (pv 3))) (pe_lst (pa_cons (pv 4) pa_nil))) (pe_slice sl_list (pv 0) (po_some (pv 3)) po_none)) pa_nil))))) (pss_one (ps_ret (pv 2)))))))), ?_⟩
    refine ⟨(), trivial, ?_⟩
    rintro v1 H1 s1 ⟨a1, xs1, rfl, h1, l1, b1⟩
    refine ⟨_, rfl, fa, ⟨rfl, f0⟩, ?_⟩
    rintro v2 H2 s2 ⟨a2, xs2, rfl, h2, l2, b2⟩
    refine ⟨a1, a2, xs1, xs2, rfl, rfl, s2 _ _ h1, h2, by rw [sizeLine_eq]; omega, fun a3 n3 => ?_⟩
    have s3 := same_upd (o := .lst (xs1 ++ xs2)) n3
    have h3 : (upd H2 a3 (.lst (xs1 ++ xs2))) a3 = some (.lst (xs1 ++ xs2)) := upd_same
    have b3 : ∀ x ∈ xs1 ++ xs2, BadRow K (upd H2 a3 (.lst (xs1 ++ xs2))) x := fun x hx => by
      rcases List.mem_append.mp hx with hx | hx
      · exact (b1 x hx).same (s2.trans s3)
      · exact (b2 x hx).same s3
    generalize upd H2 a3 (.lst (xs1 ++ xs2)) = H3 at *
    refine ⟨_, rfl, (), (by show 3 < 5; decide), ?_⟩
    rintro v4 H4 s4 ⟨a4, xs4, rfl, h4, l4, b4⟩
    refine ⟨a3, a4, _, xs4, rfl, rfl, s4 _ _ h3, h4, by rw [sizeLine_eq, List.length_append]; omega, fun l n5 => ?_⟩
    have s5 := same_upd (o := .lst (xs1 ++ xs2 ++ xs4)) n5
    have h5 : (upd H4 l (.lst (xs1 ++ xs2 ++ xs4))) l = some (.lst (xs1 ++ xs2 ++ xs4)) := upd_same
    have b5 : ∀ x ∈ xs1 ++ xs2 ++ xs4, x ≠ .ref l ∧ BadRow K (upd H4 l (.lst (xs1 ++ xs2 ++ xs4))) x := fun x hx => by
      rcases List.mem_append.mp hx with hx | hx
      · exact ⟨((b3 x hx).same s4).old n5, (b3 x hx).same (s4.trans s5)⟩
      · exact ⟨(b4 x hx).old n5, (b4 x hx).same s5⟩
    have s04 := s1.trans (s2.trans (s3.trans s4))
    have nl : H l = none := s04.free n5
    generalize upd H4 l (.lst (xs1 ++ xs2 ++ xs4)) = H5 at *
    have s05 := s04.trans s5
    have l5 : (xs1 ++ xs2 ++ xs4).length = 24 := by
      rw [List.length_append, List.length_append]
      omega
    generalize xs1 ++ xs2 ++ xs4 = xs5 at *
    -- the place
    refine ⟨_, rfl, _, rfl, a, _, rfl, .inl (Same.seq s05 hL), _, _, rfl, rfl, _, _, rfl, rfl, (by rw [List.length_map]; omega), ?_⟩
    refine ⟨fa, ⟨rfl, f0⟩, ?_⟩
    rintro v6 H6 s6 ⟨t, ps, rfl, ht, lp, bp⟩
    refine ⟨t, rfl, ⟨_, SqT.of ht⟩, for_tup (K := K) (a := t) (xs := ps) (fun j σ H9 => ∃ (pl : Int) (x4 : Option V) (xs : List V), σ = [some (.ref a), some (.int fa), some (.ref l), some (.int pl), x4] ∧ H9 l = some (.lst xs) ∧ xs.length = 24 + j ∧ (∀ x ∈ xs, x ≠ .ref l ∧ BadRow K H9 x) ∧ H9 t = some (.tup ps) ∧ (∀ x ∈ ps, PartK K H9 x false) ∧ Same H H9) ⟨_, _, xs5, rfl, s6 _ _ h5, l5, fun x hx => ⟨(b5 x hx).1, (b5 x hx).2.same s6⟩, ht, bp, s05.trans s6⟩ (fun j σ H9 _ ⟨_, _, _, _, _, _, _, h, _⟩ => SqT.of h) ?_ ?_⟩
    · rintro j y σ H9 hy ⟨pl, x4, xs, rfl, h9, l9, b9, ht9, bp9, s9⟩
      have hj : j < 6 := by
        have := (List.getElem?_eq_some_iff.mp hy).1
        omega
      have py := bp9 y (List.mem_of_getElem? hy)
      refine ⟨_, rfl, .inl ⟨rfl, _, SqL.of h9⟩, _, rfl, _, rfl, pl, rfl, a, _, rfl, Same.seq s9 hL, fun c1 n1 => ?_⟩
      have u1 := same_upd (o := .lst (cutV (ts.map V.ref) none (some pl))) n1
      have e1 : (upd H9 c1 (.lst (cutV (ts.map V.ref) none (some pl)))) c1 = some (.lst (cutV (ts.map V.ref) none (some pl))) := upd_same
      generalize upd H9 c1 (.lst (cutV (ts.map V.ref) none (some pl))) = G1 at *
      refine ⟨_, rfl, by show 1 ≤ sizeLine; decide, fun c2 n2 => ?_⟩
      have u2 := same_upd (o := .lst [y]) n2
      have e2 : (upd G1 c2 (.lst [y])) c2 = some (.lst [y]) := upd_same
      generalize upd G1 c2 (.lst [y]) = G2 at *
      have k1 := cutV_len (xs := ts.map V.ref) (lo := none) (hi := some pl)
      have k2 := cutV_len (xs := ts.map V.ref) (lo := some pl) (hi := none)
      rw [List.length_map] at k1 k2
      refine ⟨c1, c2, _, _, rfl, rfl, u2 _ _ e1, e2, by rw [sizeLine_eq]; show _ + 1 ≤ _; omega, fun c3 n3 => ?_⟩
      have u3 := same_upd (o := .lst (cutV (ts.map V.ref) none (some pl) ++ [y])) n3
      have e3 : (upd G2 c3 (.lst (cutV (ts.map V.ref) none (some pl) ++ [y]))) c3 = some (.lst (cutV (ts.map V.ref) none (some pl) ++ [y])) := upd_same
      generalize upd G2 c3 (.lst (cutV (ts.map V.ref) none (some pl) ++ [y])) = G3 at *
      have u13 := u1.trans (u2.trans u3)
      refine ⟨_, rfl, _, rfl, pl, rfl, a, _, rfl, Same.seq (s9.trans u13) hL, fun c4 n4 => ?_⟩
      have u4 := same_upd (o := .lst (cutV (ts.map V.ref) (some pl) none)) n4
      have e4 : (upd G3 c4 (.lst (cutV (ts.map V.ref) (some pl) none))) c4 = some (.lst (cutV (ts.map V.ref) (some pl) none)) := upd_same
      generalize upd G3 c4 (.lst (cutV (ts.map V.ref) (some pl) none)) = G4 at *
      refine ⟨c3, c4, _, _, rfl, rfl, u4 _ _ e3, e4, by rw [sizeLine_eq, List.length_append]; show _ + 1 + _ ≤ _; omega, fun c5 n5 => ?_⟩
      have u5 := same_upd (o := .lst (cutV (ts.map V.ref) none (some pl) ++ [y] ++ cutV (ts.map V.ref) (some pl) none)) n5
      have e5 : (upd G4 c5 (.lst (cutV (ts.map V.ref) none (some pl) ++ [y] ++ cutV (ts.map V.ref) (some pl) none))) c5 = some (.lst (cutV (ts.map V.ref) none (some pl) ++ [y] ++ cutV (ts.map V.ref) (some pl) none)) := upd_same
      have ne : c5 ≠ l := fun z => by
        rw [z] at n5
        rw [(u13.trans u4) _ _ h9] at n5
        cases n5
      generalize upd G4 c5 (.lst (cutV (ts.map V.ref) none (some pl) ++ [y] ++ cutV (ts.map V.ref) (some pl) none)) = G5 at *
      have u15 := u13.trans (u4.trans u5)
      have h95 := u15 _ _ h9
      have sG := s9.trans u15
      have good := parts_all (hP.same sG) ok.part
      have bad : BadRow K G5 (.ref c5) := bad_mid e5 (fun x hx => good x (cutV_in hx)) (py.same u15) (fun x hx => good x (cutV_in hx)) (by omega)
      refine ⟨l, _, _, rfl, rfl, h95, by rw [sizeLine_eq]; omega, ?_⟩
      refine ⟨_, _, xs ++ [.ref c5], rfl, upd_same, by rw [List.length_append]; show xs.length + 1 = _; omega, fun x hx => ?_, ?_, fun x hx => ((bp9 x hx).same u15).put h95, same_new nl sG⟩
      · rcases List.mem_append.mp hx with hx | hx
        · exact ⟨(b9 x hx).1, ((b9 x hx).2.same u15).put h95 (b9 x hx).1⟩
        · rw [List.mem_singleton.mp hx]
          exact ⟨fun z => ne (V.ref.inj z), bad.put h95 fun z => ne (V.ref.inj z)⟩
      · have := u15 _ _ ht9
        rw [upd_ne (fun z => by rw [z, h95] at this; cases this)]
        exact this
    · rintro σ H9 ⟨pl, x4, xs, rfl, h9, l9, b9, ht9, bp9, s9⟩
      exact ⟨_, rfl, q H9 l xs s9 h9 (by omega) fun x hx => (b9 x hx).2⟩
end
end SqP

namespace SqP
open PySem PySem.Spec PyProof.Rows L2 Sq
abbrev s_law : Stmt := topS 60
theorem sc_law : FnScope ["_law_script", "_law_far", "_law_due", "_law_k", "_law_row_here", "_law_kept", "_law_a", "_law_b", "_law_c", "_law_strange", "_law_bad", "_law_door", "_law_pairs", "_law_numbers", "_law_many", "_law_at"] ["_law_script"] (defScope s_law) := ⟨rfl, rfl, rfl, by decide +kernel, rfl, by decide +kernel, by decide +kernel⟩
section
variable {P : Program} {w : World} {K : PySem.W.Frag} {mg : Str → Option Value} {base : Heap}
/-! ### the triple that is bent -/
structure TriF (x : Int × Int × Int × Int) : Prop where
  ok : TriOk (x.1, x.2.1, x.2.2.1)
  f0 : 0 ≤ x.2.2.2
  b1 : Bd 2000000 x.1
  b2 : Bd 2000000 x.2.1
  b3 : Bd 2000000 x.2.2.1
  b4 : Bd 1000 x.2.2.2
structure ABC (x : Int × Int × Int × Int) (σ : L2.St) : Prop where
  a : σ[6]? = some (some (.int x.1))
  b : σ[7]? = some (some (.int x.2.1))
  c : σ[8]? = some (some (.int x.2.2.1))
  f : σ[1]? = some (some (.int x.2.2.2))
  ok : TriF x
theorem isTri_no {x y z : Int} (h : ¬ (0 < z ∧ x % 2 ≠ 0 ∧ x * x + y * y = z * z ∧ Int.gcd x y = 1)) : isTri x y z = false := by
  cases e : isTri x y z with
  | false => rfl
  | true =>
    unfold isTri at e
    simp only [Bool.and_eq_true, Bool.not_eq_true', decide_eq_true_iff, decide_eq_false_iff_not] at e
    exact absurd ⟨e.1.1.1.1.2, e.1.1.1.2, e.1.2, e.2⟩ h
theorem TriF.k1 {x : Int × Int × Int × Int} (k : TriF x) {H : Hp} {p : Addr} (h : SqT K H p [.int x.2.1, .int x.1, .int x.2.2.1]) : BadT K H (.ref p) :=
  .tri h (k.b2.mono (by decide)) (k.b1.mono (by decide)) (k.b3.mono (by decide)) (isTri_no fun z => z.2.1 k.ok.even)
theorem TriF.k2 {x : Int × Int × Int × Int} (k : TriF x) {H : Hp} {p : Addr} (h : SqT K H p [.int (3 * x.1), .int (3 * x.2.1), .int (3 * x.2.2.1)]) : BadT K H (.ref p) := by
  have b3 : Bd 64 3 := bd_small (k := 64) (by decide)
  refine .tri h ((b3.mul k.b1).mono (by decide)) ((b3.mul k.b2).mono (by decide)) ((b3.mul k.b3).mono (by decide)) (isTri_no fun z => ?_)
  have d : (3 : Nat) ∣ Int.gcd (3 * x.1) (3 * x.2.1) := Nat.dvd_gcd (show 3 ∣ (3 * x.1).natAbs by omega) (show 3 ∣ (3 * x.2.1).natAbs by omega)
  rw [z.2.2.2] at d
  exact absurd d (by decide)
theorem TriF.k3 {x : Int × Int × Int × Int} (k : TriF x) {H : Hp} {p : Addr} (h : SqT K H p [.int x.1, .int x.2.1, .int (x.2.2.1 + 1 + x.2.2.2)]) : BadT K H (.ref p) := by
  have b1 : Bd 2000000 1 := (bd_small (k := 64) (by decide)).mono (by decide)
  refine .tri h (k.b1.mono (by decide)) (k.b2.mono (by decide)) (((k.b3.add b1).add (k.b4.mono (by decide))).mono (by decide)) (isTri_no fun z => ?_)
  have s := k.ok.sq
  have z := z.2.2.1
  have c0 := k.ok.c
  have f0 := k.f0
  dsimp only at s c0
  have e : (x.2.2.1 + 1 + x.2.2.2) * (x.2.2.1 + 1 + x.2.2.2) = x.2.2.1 * x.2.2.1 + (1 + x.2.2.2) * (2 * x.2.2.1 + 1 + x.2.2.2) := by grind
  have := Int.mul_pos (show 0 < 1 + x.2.2.2 by omega) (show 0 < 2 * x.2.2.1 + 1 + x.2.2.2 by omega)
  omega
theorem TriF.k4 {x : Int × Int × Int × Int} (k : TriF x) {H : Hp} {p : Addr} (h : SqT K H p [.int x.1, .int x.2.1, .int (-x.2.2.1)]) : BadT K H (.ref p) :=
  .tri h (k.b1.mono (by decide)) (k.b2.mono (by decide)) (k.b3.neg.mono (by decide)) (isTri_no fun z => by
    have c0 := k.ok.c
    have z := z.1
    dsimp only at c0
    omega)
theorem TriF.k5 {x : Int × Int × Int × Int} (k : TriF x) {H : Hp} {p : Addr} (h : SqT K H p [.int (x.1 + 2), .int x.2.1, .int x.2.2.1]) : BadT K H (.ref p) := by
  have b1 : Bd 2000000 2 := (bd_small (k := 64) (by decide)).mono (by decide)
  refine .tri h ((k.b1.add b1).mono (by decide)) (k.b2.mono (by decide)) (k.b3.mono (by decide)) (isTri_no fun z => ?_)
  have s := k.ok.sq
  have z := z.2.2.1
  have a0 := k.ok.a
  dsimp only at s a0
  have e : (x.1 + 2) * (x.1 + 2) = x.1 * x.1 + 4 * x.1 + 4 := by grind
  omega
theorem HasX.held {k j : Nat} (hk : k ≤ j) {x : Str} {ps : List Str} {sp : Sp} {f : Addr} (h : HasX P w K mg base k x ps sp) (g : mg x = some (.ref f)) : HeldX P w K mg base j f sp := by
  obtain ⟨f', fd, F, kp, b, g'⟩ := h
  rw [g] at g'
  cases g'
  exact ⟨fd, ps, ⟨F.len, fun A outer s H args us vs Q X hr e hb hv hs => F.run A outer s H args us vs Q X (hr.mono hk) e hb hv hs⟩, kp, b⟩
theorem kindV (i : Nat) : [V.bl (decide (V.int (0 + (i : Int)) = V.int 0)), .bl (decide (V.int (0 + (i : Int)) = V.int 1)), .bl (decide (V.int (0 + (i : Int)) = V.int 2)), .bl (decide (V.int (0 + (i : Int)) = V.int 3)), .bl (decide (V.int (0 + (i : Int)) = V.int 4)), .bl true] = (kindL i).map V.bl := by
  have e : ∀ k : Nat, decide ((0 : Int) + (i : Int) = (k : Int)) = decide (i = k) := fun k => decide_eq_decide.mpr (by omega)
  rw [dec_vint, dec_vint, dec_vint, dec_vint, dec_vint]
  show [V.bl (decide ((0 : Int) + (i : Int) = ((0 : Nat) : Int))), .bl (decide ((0 : Int) + (i : Int) = ((1 : Nat) : Int))), .bl (decide ((0 : Int) + (i : Int) = ((2 : Nat) : Int))), .bl (decide ((0 : Int) + (i : Int) = ((3 : Nat) : Int))), .bl (decide ((0 : Int) + (i : Int) = ((4 : Nat) : Int))), .bl true] = _
  rw [e, e, e, e, e]
  rfl
theorem ne_kind {ds : List Addr} {j : Nat} (h : ds.map V.ref = (kindL j).map V.bl) : False := by
  cases ds with
  | nil => cases h
  | cons d ds => cases h
theorem five {ds : List Addr} (h : ds.length = 5) : ∃ d0 d1 d2 d3 d4, ds = [d0, d1, d2, d3, d4] := by
  match ds, h with
  | [d0, d1, d2, d3, d4], _ => exact ⟨d0, d1, d2, d3, d4, rfl⟩
theorem bd_mem {ns : List Int} {c : Int} (h : ∀ n ∈ ns, Bd 1048577 n) (hc : c ∈ ns ∨ c = 0) : Bd 1048577 c := by
  rcases hc with hc | rfl
  · exact h c hc
  · exact (bd_small (k := 64) (by decide)).mono (by decide)
def manyF (i : Nat) : Int × Int := ((0 + (i : Int)) % 2 * 2, 1)
def adjB : PRow → Bool
  | a :: b :: r => decide (a.1 ≠ b.1) && adjB (b :: r)
  | _ => true
theorem adj_of : ∀ {r : PRow}, adjB r = true → Adj r
  | [], _ => trivial
  | [_], _ => trivial
  | a :: b :: r, h => by
    have h : (decide (a.1 ≠ b.1) && adjB (b :: r)) = true := h
    rw [Bool.and_eq_true] at h
    exact ⟨of_decide_eq_true h.1, adj_of h.2⟩
theorem many_ok : RowOk ((List.range 200).map manyF) := by
  refine ⟨fun x hx => ?_, adj_of (by decide +kernel)⟩
  obtain ⟨i, _, rfl⟩ := List.mem_map.mp hx
  exact partok_small (show (0 + (i : Int)) % 2 * 2 = 0 ∨ (0 + (i : Int)) % 2 * 2 = 1 ∨ (0 + (i : Int)) % 2 * 2 = 2 by omega) (by decide) (by decide)
theorem thou_ok : RowOk [(1, 1000)] := ⟨fun x hx => by rw [List.mem_singleton.mp hx]; exact partok_small (.inr (.inl rfl)) (by decide) (by decide), trivial⟩
theorem thou : decide ((2 : Int) ^ 2400 < (tri (behind [(1, 1000)])).1) = true := by decide +kernel
def sp_law (K : PySem.W.Frag) : Sp := fun vs H Q _ => ∃ (a : Addr) (ns : List Int), vs = [.ref a] ∧ SqL K H a (ns.map V.int) ∧ (∀ n ∈ ns, Bd 1048577 n) ∧ ns.length ≤ 63 ∧ ∀ H', Q (.bl true) H'
set_option maxHeartbeats 16000000 in
theorem ok_law (B : Bt mg) {c : Es} (koT : KindOf K c c.T 0) (koP : KindOf K c c.P 1) (koS : KindOf K c c.S 2) (koR : KindOf K c c.R 3) (koN : KindOf K c c.N 4) {ftriple fpair fstep frow fnumber : Addr} (gtriple : mg "_law_with_triple" = some (.ref ftriple)) (gpair : mg "_law_with_pair" = some (.ref fpair)) (gstep : mg "_law_with_step" = some (.ref fstep)) (grow : mg "_law_with_row" = some (.ref frow)) (gnumber : mg "_law_with_number" = some (.ref fnumber)) {f : Addr} {fd : FuncData} (F : Fun K "law" "law" s_law f fd)
    (H__law_cell_at : Has P w K mg base 1 "_law_cell_at" ["_law_script", "_law_k"] (sp_cell_at K)) (H__law_value : Has P w K mg base 2 "_law_value" ["_law_cell", "_law_k", "_law_limit"] sp_value) (H__law_row : Has P w K mg base 3 "_law_row" ["_law_script", "_law_begin"] (sp_row K)) (H__law_behind : Has P w K mg base 2 "_law_behind" ["_law_row_here"] (sp_behind K)) (H__law_triple : Has P w K mg base 1 "_law_triple" ["_law_pair"] (sp_triple_by K))
    (H__law_all : Has P w K mg base 8 "_law_all" ["_law_ask", "_law_one", "_law_things", "_law_due"] (sp_all P w K mg base c)) (H__law_bad_rows : Has P w K mg base 1 "_law_bad_rows" ["_law_row_here", "_law_far"] (sp_bad_rows K)) (H_by_row : Has P w K mg base 3 "by_row" ["row"] (sp_by_row K)) (H_row_of : Has P w K mg base 35 "row_of" ["triple"] (sp_row_of K))
    (HT : HasX P w K mg base 6 "_law_with_triple" ["_law_door", "_law_triple_here"] (sp_with K c.T (BadWT K))) (HP : HasX P w K mg base 6 "_law_with_pair" ["_law_door", "_law_pair"] (sp_with K c.P fun H _ v => BadP K H v)) (HS : HasX P w K mg base 6 "_law_with_step" ["_law_triple_here", "_law_step"] (sp_with K c.S (BadWS K))) (HR : HasX P w K mg base 6 "_law_with_row" ["_law_door", "_law_row_here"] (sp_with K c.R fun H _ v => BadRow K H v)) (HN : HasX P w K mg base 6 "_law_with_number" ["_law_door", "_law_number"] (sp_with K c.N (BadWN K))) :
    FnOk P w K mg base CX0 36 f fd ["_law_script"] (sp_law K) := by
  obtain ⟨f__law_cell_at, fd__law_cell_at, G__law_cell_at, k__law_cell_at, b__law_cell_at, g__law_cell_at⟩ := H__law_cell_at
  obtain ⟨f__law_value, fd__law_value, G__law_value, k__law_value, b__law_value, g__law_value⟩ := H__law_value
  obtain ⟨f__law_row, fd__law_row, G__law_row, k__law_row, b__law_row, g__law_row⟩ := H__law_row
  obtain ⟨f__law_behind, fd__law_behind, G__law_behind, k__law_behind, b__law_behind, g__law_behind⟩ := H__law_behind
  obtain ⟨f__law_triple, fd__law_triple, G__law_triple, k__law_triple, b__law_triple, g__law_triple⟩ := H__law_triple
  obtain ⟨f__law_all, fd__law_all, G__law_all, k__law_all, b__law_all, g__law_all⟩ := H__law_all
  obtain ⟨f__law_bad_rows, fd__law_bad_rows, G__law_bad_rows, k__law_bad_rows, b__law_bad_rows, g__law_bad_rows⟩ := H__law_bad_rows
  obtain ⟨f_by_row, fd_by_row, G_by_row, k_by_row, b_by_row, g_by_row⟩ := H_by_row
  obtain ⟨f_row_of, fd_row_of, G_row_of, k_row_of, b_row_of, g_row_of⟩ := H_row_of
  have heT := HT.held (Nat.le_refl 6) gtriple
  have heP := HP.held (Nat.le_refl 6) gpair
  have heS := HS.held (Nat.le_refl 6) gstep
  have heR := HR.held (Nat.le_refl 6) grow
  have heN := HN.held (Nat.le_refl 6) gnumber
  refine F.ok sc_law (fun vs H Q E h => ?_) (fun cdv A outer s H vs Q E hr h => ?_)
  · obtain ⟨a, ns, rfl, _⟩ := h
    rfl
  · obtain ⟨a, ns, rfl, hS, hb, hl, q⟩ := h
    refine ⟨_, (pss_cons (ps_set (i := 0) sc_law.nd rfl (Or.inl rfl) (pe_slice sl_list (pv 0) po_none (po_some pe_int))) (pss_cons (ps_par (i := 1) (j := 2) rfl sc_law.nd rfl rfl (by decide) rfl rfl (pa_cons (pe_call G__law_value (hr.mono (by decide)) (by rfl) g__law_value k__law_value b__law_value .nil pass0 (pa_cons (pe_call G__law_cell_at (hr.mono (by decide)) (by rfl) g__law_cell_at k__law_cell_at b__law_cell_at .nil pass0 (pa_cons (pv 0) (pa_cons pe_int pa_nil))) (pa_cons pe_int (pa_cons pe_int pa_nil)))) (pa_cons (pe_lst pa_nil) pa_nil)) (by rfl)) (pss_cons (ps_for PassesOwn.never rfl (pi_range1 (by rfl) B.range (pa_cons pe_int pa_nil)) (pg_name (i := 3) sc_law.nd rfl (Or.inl rfl)) (pss_one (ps_expr (pe_bm PySem.F.plainAttrs_list PySem.F.slot_list_append PySem.F.type_list_append mt_append (pv 2) (pa_cons (pe_lst (pa_cons (pe_cmpR op_eq (pv 3) pe_int (nomark _)) (pa_cons (pe_cmpR op_eq (pv 3) pe_int (nomark _)) (pa_cons (pe_cmpR op_eq (pv 3) pe_int (nomark _)) (pa_cons (pe_cmpR op_eq (pv 3) pe_int (nomark _)) (pa_cons (pe_cmpR op_eq (pv 3) pe_int (nomark _)) (pa_cons pe_bl pa_nil))))))) pa_nil))))) (pss_cons (ps_set (i := 4) sc_law.nd rfl (Or.inl rfl) (pe_call G__law_row (hr.mono (by decide)) (by rfl) g__law_row k__law_row b__law_row .nil pass0 (pa_cons (pv 0) (pa_cons pe_int pa_nil)))) (pss_cons (ps_asg (pe_tup (pa_cons (pe_callTy call_list_of (by rfl) B.list (by decide +kernel) (pa_cons (pv 4) pa_nil)) (pa_cons (pe_call G__law_triple (hr.mono (by decide)) (by rfl) g__law_triple k__law_triple b__law_triple .nil pass0 (pa_cons (pe_call G__law_behind (hr.mono (by decide)) (by rfl) g__law_behind k__law_behind b__law_behind .nil pass0 (pa_cons (pv 4) pa_nil)) pa_nil)) pa_nil))) (pg_tup rfl (pgs_cons (pg_name (i := 5) sc_law.nd rfl (Or.inl rfl)) (pgs_cons (pg_tup rfl (pgs_cons (pg_name (i := 6) sc_law.nd rfl (Or.inl rfl)) (pgs_cons (pg_name (i := 7) sc_law.nd rfl (Or.inl rfl)) (pgs_cons (pg_name (i := 8) sc_law.nd rfl (Or.inl rfl)) pgs_nil)))) pgs_nil)))) (pss_cons (ps_set (i := 9) sc_law.nd rfl (Or.inl rfl) (pe_y (ι := Unit) (cond := fun _ _ => True) (φ := fun _ => LstOf (BadT K) 12) (pe_lst (pa_cons pe_non (pa_cons pe_str (pa_cons pe_bl (pa_cons (pe_lst (pa_cons pe_int pa_nil)) (pa_cons (pe_tup (pa_cons pe_int pa_nil)) (pa_cons pe_dnewK (pa_cons pe_int (pa_cons (pe_tup pa_nil) (pa_cons (pe_tup (pa_cons pe_int (pa_cons pe_int (pa_cons pe_int pa_nil)))) (pa_cons (pe_tup (pa_cons pe_int (pa_cons pe_int pa_nil))) (pa_cons (pe_tup (pa_cons pe_int (pa_cons pe_int (pa_cons pe_int (pa_cons pe_int pa_nil))))) (pa_cons (pe_lst (pa_cons pe_int (pa_cons pe_int (pa_cons pe_int pa_nil)))) pa_nil))))))))))))) fun i σ hc => y_lsts badT_stays (ys_cons badT_stays (y_p pv_c fun H => .no (.no .non (by decide))) (ys_cons badT_stays (y_p pv_c fun H => .no (.no (.str _) (by decide))) (ys_cons badT_stays (y_p pv_c fun H => .no (.no (.bl _) (by decide))) (ys_cons badT_stays (y_lst (pvs_cons pv_c pvs_nil) (Nat.le_of_ble_eq_true rfl) fun H a h => .no (.no (.lst h) (by decide))) (ys_cons badT_stays (y_tup (pvs_cons pv_c pvs_nil) (Nat.le_of_ble_eq_true rfl) fun H a h => .no (.tup (SqT.of h) (Nat.le_of_ble_eq_true rfl) (knds_sc rfl) (by decide))) (ys_cons badT_stays (y_dct fun H a h => .no (.no (.dct h) (by decide))) (ys_cons badT_stays (y_p pv_c fun H => .no (.no (.int _) (by decide))) (ys_cons badT_stays (y_tup pvs_nil (Nat.le_of_ble_eq_true rfl) fun H a h => .no (.tup (SqT.of h) (Nat.le_of_ble_eq_true rfl) (knds_sc rfl) (by decide))) (ys_cons badT_stays (y_tup (pvs_cons pv_c (pvs_cons pv_c (pvs_cons pv_c pvs_nil))) (Nat.le_of_ble_eq_true rfl) fun H a h => .tri (SqT.of h) (bdn (by decide)) (bdn (by decide)) (bdn (by decide)) (by decide +kernel)) (ys_cons badT_stays (y_tup (pvs_cons pv_c (pvs_cons pv_c pvs_nil)) (Nat.le_of_ble_eq_true rfl) fun H a h => .no (.tup (SqT.of h) (Nat.le_of_ble_eq_true rfl) (knds_sc rfl) (by decide))) (ys_cons badT_stays (y_tup (pvs_cons pv_c (pvs_cons pv_c (pvs_cons pv_c (pvs_cons pv_c pvs_nil)))) (Nat.le_of_ble_eq_true rfl) fun H a h => .no (.tup (SqT.of h) (Nat.le_of_ble_eq_true rfl) (knds_sc rfl) (by decide))) (ys_cons badT_stays (y_lst (pvs_cons pv_c (pvs_cons pv_c (pvs_cons pv_c pvs_nil))) (Nat.le_of_ble_eq_true rfl) fun H a h => .no (.no (.lst h) (by decide))) ys_nil)))))))))))) (by decide))) (pss_cons (ps_set (i := 10) sc_law.nd rfl (Or.inl rfl) (pe_op op_cat (pv 9) (pe_y (ι := Unit) (cond := fun _ _ => True) (φ := fun _ => LstOf (BadT K) 7) (pe_lst (pa_cons (pe_tup (pa_cons pe_str (pa_cons pe_int (pa_cons pe_int pa_nil)))) (pa_cons (pe_tup (pa_cons pe_int (pa_cons pe_non (pa_cons pe_int pa_nil)))) (pa_cons (pe_tup (pa_cons pe_int (pa_cons pe_int (pa_cons pe_int pa_nil)))) (pa_cons (pe_tup (pa_cons pe_int (pa_cons pe_int (pa_cons pe_int pa_nil)))) (pa_cons (pe_tup (pa_cons (pe_un un_neg pe_int) (pa_cons pe_int (pa_cons pe_int pa_nil)))) (pa_cons (pe_tup (pa_cons pe_int (pa_cons (pe_un un_neg pe_int) (pa_cons pe_int pa_nil)))) (pa_cons (pe_tup (pa_cons pe_int (pa_cons pe_int (pa_cons (pe_un un_neg pe_int) pa_nil)))) pa_nil)))))))) fun i σ hc => y_lsts badT_stays (ys_cons badT_stays (y_tup (pvs_cons pv_c (pvs_cons pv_c (pvs_cons pv_c pvs_nil))) (Nat.le_of_ble_eq_true rfl) fun H a h => .no (.tup (SqT.of h) (Nat.le_of_ble_eq_true rfl) (knds_sc rfl) (by decide))) (ys_cons badT_stays (y_tup (pvs_cons pv_c (pvs_cons pv_c (pvs_cons pv_c pvs_nil))) (Nat.le_of_ble_eq_true rfl) fun H a h => .no (.tup (SqT.of h) (Nat.le_of_ble_eq_true rfl) (knds_sc rfl) (by decide))) (ys_cons badT_stays (y_tup (pvs_cons pv_c (pvs_cons pv_c (pvs_cons pv_c pvs_nil))) (Nat.le_of_ble_eq_true rfl) fun H a h => .tri (SqT.of h) (bdn (by decide)) (bdn (by decide)) (bdn (by decide)) (by decide +kernel)) (ys_cons badT_stays (y_tup (pvs_cons pv_c (pvs_cons pv_c (pvs_cons pv_c pvs_nil))) (Nat.le_of_ble_eq_true rfl) fun H a h => .tri (SqT.of h) (bdn (by decide)) (bdn (by decide)) (bdn (by decide)) (by decide +kernel)) (ys_cons badT_stays (y_tup (pvs_cons (pv_u pv_c) (pvs_cons pv_c (pvs_cons pv_c pvs_nil))) (Nat.le_of_ble_eq_true rfl) fun H a h => .tri (SqT.of h) (bdn (by decide)) (bdn (by decide)) (bdn (by decide)) (by decide +kernel)) (ys_cons badT_stays (y_tup (pvs_cons pv_c (pvs_cons (pv_u pv_c) (pvs_cons pv_c pvs_nil))) (Nat.le_of_ble_eq_true rfl) fun H a h => .tri (SqT.of h) (bdn (by decide)) (bdn (by decide)) (bdn (by decide)) (by decide +kernel)) (ys_cons badT_stays (y_tup (pvs_cons pv_c (pvs_cons pv_c (pvs_cons (pv_u pv_c) pvs_nil))) (Nat.le_of_ble_eq_true rfl) fun H a h => .tri (SqT.of h) (bdn (by decide)) (bdn (by decide)) (bdn (by decide)) (by decide +kernel)) ys_nil))))))) (by decide)))) (pss_cons (ps_set (i := 10) sc_law.nd rfl (Or.inl rfl) (pe_op op_cat (pv 10) (pe_y (ι := Unit) (cond := fun _ _ => True) (φ := fun _ => LstOf (BadT K) 3) (pe_lst (pa_cons (pe_tup (pa_cons pe_int (pa_cons pe_int (pa_cons pe_int pa_nil)))) (pa_cons (pe_tup (pa_cons pe_int (pa_cons pe_int (pa_cons pe_int pa_nil)))) (pa_cons (pe_tup (pa_cons pe_int (pa_cons pe_int (pa_cons pe_int pa_nil)))) pa_nil)))) fun i σ hc => y_lsts badT_stays (ys_cons badT_stays (y_tup (pvs_cons pv_c (pvs_cons pv_c (pvs_cons pv_c pvs_nil))) (Nat.le_of_ble_eq_true rfl) fun H a h => .tri (SqT.of h) (bdn (by decide)) (bdn (by decide)) (bdn (by decide)) (by decide +kernel)) (ys_cons badT_stays (y_tup (pvs_cons pv_c (pvs_cons pv_c (pvs_cons pv_c pvs_nil))) (Nat.le_of_ble_eq_true rfl) fun H a h => .tri (SqT.of h) (bdn (by decide)) (bdn (by decide)) (bdn (by decide)) (by decide +kernel)) (ys_cons badT_stays (y_tup (pvs_cons pv_c (pvs_cons pv_c (pvs_cons pv_c pvs_nil))) (Nat.le_of_ble_eq_true rfl) fun H a h => .tri (SqT.of h) (bdn (by decide)) (bdn (by decide)) (bdn (by decide)) (by decide +kernel)) ys_nil))) (by decide)))) (pss_cons (ps_set (i := 10) sc_law.nd rfl (Or.inl rfl) (pe_op op_cat (pv 10) (pe_y (ι := Int × Int × Int × Int) (cond := ABC) (φ := fun _ => LstOf (BadT K) 6) (pe_lst (pa_cons (pe_tup (pa_cons (pv 7) (pa_cons (pv 6) (pa_cons (pv 8) pa_nil)))) (pa_cons (pe_tup (pa_cons (pe_op op_mul pe_int (pv 6)) (pa_cons (pe_op op_mul pe_int (pv 7)) (pa_cons (pe_op op_mul pe_int (pv 8)) pa_nil)))) (pa_cons (pe_tup (pa_cons (pv 6) (pa_cons (pv 7) (pa_cons (pe_op op_add (pe_op op_add (pv 8) pe_int) (pv 1)) pa_nil)))) (pa_cons (pe_tup (pa_cons (pv 6) (pa_cons (pv 7) (pa_cons (pe_un un_neg (pv 8)) pa_nil)))) (pa_cons (pe_tup (pa_cons (pe_op op_add (pv 6) pe_int) (pa_cons (pv 7) (pa_cons (pv 8) pa_nil)))) (pa_cons (pe_tup (pa_cons pe_bl (pa_cons pe_int (pa_cons pe_int pa_nil)))) pa_nil))))))) fun i σ hc => y_lsts badT_stays (ys_cons badT_stays (y_tup (pvs_cons (pv_v hc.b) (pvs_cons (pv_v hc.a) (pvs_cons (pv_v hc.c) pvs_nil))) (Nat.le_of_ble_eq_true rfl) fun H a h => hc.ok.k1 (SqT.of h)) (ys_cons badT_stays (y_tup (pvs_cons (pv_i pv_c (pv_v hc.a) (.inl ⟨by decide, by decide⟩)) (pvs_cons (pv_i pv_c (pv_v hc.b) (.inl ⟨by decide, by decide⟩)) (pvs_cons (pv_i pv_c (pv_v hc.c) (.inl ⟨by decide, by decide⟩)) pvs_nil))) (Nat.le_of_ble_eq_true rfl) fun H a h => hc.ok.k2 (SqT.of h)) (ys_cons badT_stays (y_tup (pvs_cons (pv_v hc.a) (pvs_cons (pv_v hc.b) (pvs_cons (pv_0 (pv_0 (pv_v hc.c) pv_c) (pv_v hc.f)) pvs_nil))) (Nat.le_of_ble_eq_true rfl) fun H a h => hc.ok.k3 (SqT.of h)) (ys_cons badT_stays (y_tup (pvs_cons (pv_v hc.a) (pvs_cons (pv_v hc.b) (pvs_cons (pv_u (pv_v hc.c)) pvs_nil))) (Nat.le_of_ble_eq_true rfl) fun H a h => hc.ok.k4 (SqT.of h)) (ys_cons badT_stays (y_tup (pvs_cons (pv_0 (pv_v hc.a) pv_c) (pvs_cons (pv_v hc.b) (pvs_cons (pv_v hc.c) pvs_nil))) (Nat.le_of_ble_eq_true rfl) fun H a h => hc.ok.k5 (SqT.of h)) (ys_cons badT_stays (y_tup (pvs_cons pv_c (pvs_cons pv_c (pvs_cons pv_c pvs_nil))) (Nat.le_of_ble_eq_true rfl) fun H a h => .no (.tup (SqT.of h) (Nat.le_of_ble_eq_true rfl) (knds_sc rfl) (by decide))) ys_nil)))))) (by decide)))) (pss_cons (ps_for PassesOwn.never rfl (pi_range1 (by rfl) B.range (pa_cons pe_int pa_nil)) (pg_name (i := 11) sc_law.nd rfl (Or.inl rfl)) (pss_one (ps_if (pt_not (pt_val (pe_call G__law_all (hr.mono (by decide)) (by rfl) g__law_all k__law_all b__law_all .nil pass0 (pa_cons (pe_glob (v := .ref ftriple) (by rfl) gtriple rfl) (pa_cons (pv 11) (pa_cons (pv 10) (pa_cons (pe_ix ix_list (pv 2) pe_int (fun _ _ => rfl)) pa_nil))))))) (pss_one (ps_ret pe_bl)) pss_nil))) (pss_cons (ps_set (i := 12) sc_law.nd rfl (Or.inl rfl) (pe_y (ι := Unit) (cond := fun _ _ => True) (φ := fun _ => LstOf (BadP K) 13) (pe_lst (pa_cons pe_non (pa_cons pe_str (pa_cons pe_int (pa_cons (pe_tup pa_nil) (pa_cons (pe_tup (pa_cons pe_int pa_nil)) (pa_cons (pe_tup (pa_cons pe_int (pa_cons pe_int (pa_cons pe_int pa_nil)))) (pa_cons (pe_lst (pa_cons pe_int (pa_cons pe_int pa_nil))) (pa_cons (pe_tup (pa_cons pe_int (pa_cons pe_int pa_nil))) (pa_cons (pe_tup (pa_cons pe_int (pa_cons pe_int pa_nil))) (pa_cons (pe_tup (pa_cons pe_int (pa_cons pe_int pa_nil))) (pa_cons (pe_tup (pa_cons pe_int (pa_cons pe_int pa_nil))) (pa_cons (pe_tup (pa_cons pe_int (pa_cons pe_int pa_nil))) (pa_cons (pe_tup (pa_cons pe_int (pa_cons pe_int pa_nil))) pa_nil)))))))))))))) fun i σ hc => y_lsts badP_stays (ys_cons badP_stays (y_p pv_c fun H => .no (.no .non (by decide))) (ys_cons badP_stays (y_p pv_c fun H => .no (.no (.str _) (by decide))) (ys_cons badP_stays (y_p pv_c fun H => .no (.no (.int _) (by decide))) (ys_cons badP_stays (y_tup pvs_nil (Nat.le_of_ble_eq_true rfl) fun H a h => .no (.tup (SqT.of h) (Nat.le_of_ble_eq_true rfl) (knds_sc rfl) (by decide))) (ys_cons badP_stays (y_tup (pvs_cons pv_c pvs_nil) (Nat.le_of_ble_eq_true rfl) fun H a h => .no (.tup (SqT.of h) (Nat.le_of_ble_eq_true rfl) (knds_sc rfl) (by decide))) (ys_cons badP_stays (y_tup (pvs_cons pv_c (pvs_cons pv_c (pvs_cons pv_c pvs_nil))) (Nat.le_of_ble_eq_true rfl) fun H a h => .no (.tup (SqT.of h) (Nat.le_of_ble_eq_true rfl) (knds_sc rfl) (by decide))) (ys_cons badP_stays (y_lst (pvs_cons pv_c (pvs_cons pv_c pvs_nil)) (Nat.le_of_ble_eq_true rfl) fun H a h => .no (.no (.lst h) (by decide))) (ys_cons badP_stays (y_tup (pvs_cons pv_c (pvs_cons pv_c pvs_nil)) (Nat.le_of_ble_eq_true rfl) fun H a h => .two (SqT.of h) (by decide +kernel)) (ys_cons badP_stays (y_tup (pvs_cons pv_c (pvs_cons pv_c pvs_nil)) (Nat.le_of_ble_eq_true rfl) fun H a h => .two (SqT.of h) (by decide +kernel)) (ys_cons badP_stays (y_tup (pvs_cons pv_c (pvs_cons pv_c pvs_nil)) (Nat.le_of_ble_eq_true rfl) fun H a h => .two (SqT.of h) (by decide +kernel)) (ys_cons badP_stays (y_tup (pvs_cons pv_c (pvs_cons pv_c pvs_nil)) (Nat.le_of_ble_eq_true rfl) fun H a h => .two (SqT.of h) (by decide +kernel)) (ys_cons badP_stays (y_tup (pvs_cons pv_c (pvs_cons pv_c pvs_nil)) (Nat.le_of_ble_eq_true rfl) fun H a h => .two (SqT.of h) (by decide +kernel)) (ys_cons badP_stays (y_tup (pvs_cons pv_c (pvs_cons pv_c pvs_nil)) (Nat.le_of_ble_eq_true rfl) fun H a h => .two (SqT.of h) (by decide +kernel)) ys_nil))))))))))))) (by decide))) (pss_cons (ps_set (i := 12) sc_law.nd rfl (Or.inl rfl) (pe_op op_cat (pv 12) (pe_y (ι := Int) (cond := fun f σ => σ[1]? = some (some (.int f)) ∧ 0 ≤ f) (φ := fun _ => LstOf (BadP K) 7) (pe_lst (pa_cons (pe_tup (pa_cons pe_int (pa_cons (pe_un un_neg pe_int) pa_nil))) (pa_cons (pe_tup (pa_cons (pe_un un_neg pe_int) (pa_cons (pe_un un_neg pe_int) pa_nil))) (pa_cons (pe_tup (pa_cons pe_int (pa_cons pe_bl pa_nil))) (pa_cons (pe_tup (pa_cons pe_str (pa_cons pe_int pa_nil))) (pa_cons (pe_tup (pa_cons pe_int (pa_cons pe_non pa_nil))) (pa_cons (pe_tup (pa_cons (pe_op op_add pe_int (pe_op op_mul pe_int (pv 1))) (pa_cons pe_int pa_nil))) (pa_cons (pe_tup (pa_cons (pe_op op_add pe_int (pe_op op_mul pe_int (pv 1))) (pa_cons pe_int pa_nil))) pa_nil)))))))) fun i σ hc => have hf := hc.2; y_lsts badP_stays (ys_cons badP_stays (y_tup (pvs_cons pv_c (pvs_cons (pv_u pv_c) pvs_nil)) (Nat.le_of_ble_eq_true rfl) fun H a h => .two (SqT.of h) (by decide +kernel)) (ys_cons badP_stays (y_tup (pvs_cons (pv_u pv_c) (pvs_cons (pv_u pv_c) pvs_nil)) (Nat.le_of_ble_eq_true rfl) fun H a h => .two (SqT.of h) (by decide +kernel)) (ys_cons badP_stays (y_tup (pvs_cons pv_c (pvs_cons pv_c pvs_nil)) (Nat.le_of_ble_eq_true rfl) fun H a h => .no (.tup (SqT.of h) (Nat.le_of_ble_eq_true rfl) (knds_sc rfl) (by decide))) (ys_cons badP_stays (y_tup (pvs_cons pv_c (pvs_cons pv_c pvs_nil)) (Nat.le_of_ble_eq_true rfl) fun H a h => .no (.tup (SqT.of h) (Nat.le_of_ble_eq_true rfl) (knds_sc rfl) (by decide))) (ys_cons badP_stays (y_tup (pvs_cons pv_c (pvs_cons pv_c pvs_nil)) (Nat.le_of_ble_eq_true rfl) fun H a h => .no (.tup (SqT.of h) (Nat.le_of_ble_eq_true rfl) (knds_sc rfl) (by decide))) (ys_cons badP_stays (y_tup (pvs_cons (pv_0 pv_c (pv_i pv_c (pv_v hc.1) (.inl ⟨by decide, by decide⟩))) (pvs_cons pv_c pvs_nil)) (Nat.le_of_ble_eq_true rfl) fun H a h => .two (SqT.of h) (pr_far6 hf)) (ys_cons badP_stays (y_tup (pvs_cons (pv_0 pv_c (pv_i pv_c (pv_v hc.1) (.inl ⟨by decide, by decide⟩))) (pvs_cons pv_c pvs_nil)) (Nat.le_of_ble_eq_true rfl) fun H a h => .two (SqT.of h) (pr_far3 hf)) ys_nil))))))) (by decide)))) (pss_cons (ps_if (pt_not (pt_val (pe_call G__law_all (hr.mono (by decide)) (by rfl) g__law_all k__law_all b__law_all .nil pass0 (pa_cons (pe_glob (v := .ref fpair) (by rfl) gpair rfl) (pa_cons pe_int (pa_cons (pv 12) (pa_cons (pe_ix ix_list (pv 2) pe_int (fun _ _ => rfl)) pa_nil))))))) (pss_one (ps_ret pe_bl)) pss_nil) (pss_cons (ps_if (pt_not (pt_val (pe_call G__law_all (hr.mono (by decide)) (by rfl) g__law_all k__law_all b__law_all .nil pass0 (pa_cons (pe_glob (v := .ref fstep) (by rfl) gstep rfl) (pa_cons (pe_tup (pa_cons (pv 6) (pa_cons (pv 7) (pa_cons (pv 8) pa_nil)))) (pa_cons (pe_y (ι := Int) (cond := fun f σ => σ[1]? = some (some (.int f)) ∧ 0 ≤ f) (φ := fun _ => LstOf (BadS K) 9) (pe_lst (pa_cons pe_non (pa_cons pe_str (pa_cons pe_bl (pa_cons pe_bl (pa_cons (pe_lst (pa_cons pe_int pa_nil)) (pa_cons (pe_un un_neg pe_int) (pa_cons (pe_op op_sub (pe_un un_neg pe_int) (pv 1)) (pa_cons pe_int (pa_cons (pe_op op_add pe_int (pv 1)) pa_nil)))))))))) fun i σ hc => have hf := hc.2; y_lsts badS_stays (ys_cons badS_stays (y_p pv_c fun H => ⟨_, .non, fun i e => nomatch e⟩) (ys_cons badS_stays (y_p pv_c fun H => ⟨_, (.str _), fun i e => nomatch e⟩) (ys_cons badS_stays (y_p pv_c fun H => ⟨_, (.bl _), fun i e => nomatch e⟩) (ys_cons badS_stays (y_p pv_c fun H => ⟨_, (.bl _), fun i e => nomatch e⟩) (ys_cons badS_stays (y_lst (pvs_cons pv_c pvs_nil) (Nat.le_of_ble_eq_true rfl) fun H a h => ⟨_, .lst h, fun i e => nomatch e⟩) (ys_cons badS_stays (y_p (pv_u pv_c) fun H => ⟨_, .int _, fun i e => by have z := V.int.inj e; omega⟩) (ys_cons badS_stays (y_p (pv_0 (pv_u pv_c) (pv_v hc.1)) fun H => ⟨_, .int _, fun i e => by have z := V.int.inj e; omega⟩) (ys_cons badS_stays (y_p pv_c fun H => ⟨_, .int _, fun i e => by have z := V.int.inj e; omega⟩) (ys_cons badS_stays (y_p (pv_0 pv_c (pv_v hc.1)) fun H => ⟨_, .int _, fun i e => by have z := V.int.inj e; omega⟩) ys_nil))))))))) (by decide)) (pa_cons (pe_ix ix_list (pv 2) pe_int (fun _ _ => rfl)) pa_nil))))))) (pss_one (ps_ret pe_bl)) pss_nil) (pss_cons (ps_if (pt_not (pt_val (pe_call G__law_all (hr.mono (by decide)) (by rfl) g__law_all k__law_all b__law_all .nil pass0 (pa_cons (pe_glob (v := .ref frow) (by rfl) grow rfl) (pa_cons pe_int (pa_cons (pe_call G__law_bad_rows (hr.mono (by decide)) (by rfl) g__law_bad_rows k__law_bad_rows b__law_bad_rows .nil pass0 (pa_cons (pv 4) (pa_cons (pv 1) pa_nil))) (pa_cons (pe_ix ix_list (pv 2) pe_int (fun _ _ => rfl)) pa_nil))))))) (pss_one (ps_ret pe_bl)) pss_nil) (pss_cons (ps_set (i := 13) sc_law.nd rfl (Or.inl rfl) (pe_y (ι := Int) (cond := fun f σ => σ[1]? = some (some (.int f)) ∧ 0 ≤ f) (φ := fun _ => LstOf (BadN K) 12) (pe_lst (pa_cons pe_non (pa_cons pe_str (pa_cons pe_bl (pa_cons (pe_lst (pa_cons pe_int pa_nil)) (pa_cons (pe_tup (pa_cons pe_int pa_nil)) (pa_cons pe_dnewK (pa_cons pe_int (pa_cons pe_int (pa_cons (pe_un un_neg pe_int) (pa_cons (pe_op op_sub (pe_un un_neg pe_int) (pv 1)) (pa_cons pe_int (pa_cons (pe_op op_add pe_int (pv 1)) pa_nil))))))))))))) fun i σ hc => have hf := hc.2; y_lsts badN_stays (ys_cons badN_stays (y_p pv_c fun H => ⟨_, .non, fun i e => nomatch e⟩) (ys_cons badN_stays (y_p pv_c fun H => ⟨_, (.str _), fun i e => nomatch e⟩) (ys_cons badN_stays (y_p pv_c fun H => ⟨_, (.bl _), fun i e => nomatch e⟩) (ys_cons badN_stays (y_lst (pvs_cons pv_c pvs_nil) (Nat.le_of_ble_eq_true rfl) fun H a h => ⟨_, .lst h, fun i e => nomatch e⟩) (ys_cons badN_stays (y_tup (pvs_cons pv_c pvs_nil) (Nat.le_of_ble_eq_true rfl) fun H a h => ⟨_, .tup h, fun i e => nomatch e⟩) (ys_cons badN_stays (y_dct fun H a h => ⟨_, .dct h, fun i e => nomatch e⟩) (ys_cons badN_stays (y_p pv_c fun H => ⟨_, .int _, fun i e => by have z := V.int.inj e; omega⟩) (ys_cons badN_stays (y_p pv_c fun H => ⟨_, .int _, fun i e => by have z := V.int.inj e; omega⟩) (ys_cons badN_stays (y_p (pv_u pv_c) fun H => ⟨_, .int _, fun i e => by have z := V.int.inj e; omega⟩) (ys_cons badN_stays (y_p (pv_0 (pv_u pv_c) (pv_v hc.1)) fun H => ⟨_, .int _, fun i e => by have z := V.int.inj e; omega⟩) (ys_cons badN_stays (y_p pv_c fun H => ⟨_, .int _, fun i e => by have z := V.int.inj e; omega⟩) (ys_cons badN_stays (y_p (pv_0 pv_c (pv_v hc.1)) fun H => ⟨_, .int _, fun i e => by have z := V.int.inj e; omega⟩) ys_nil)))))))))))) (by decide))) (pss_cons (ps_if (PW.pt (pw_or (pt_not (pt_val (pe_call G__law_all (hr.mono (by decide)) (by rfl) g__law_all k__law_all b__law_all .nil pass0 (pa_cons (pe_glob (v := .ref fnumber) (by rfl) gnumber rfl) (pa_cons pe_int (pa_cons (pv 13) (pa_cons (pe_ix ix_list (pv 2) pe_int (fun _ _ => rfl)) pa_nil))))))) (pw_or1 (pt_not (pt_val (pe_call G__law_all (hr.mono (by decide)) (by rfl) g__law_all k__law_all b__law_all .nil pass0 (pa_cons (pe_glob (v := .ref fnumber) (by rfl) gnumber rfl) (pa_cons pe_int (pa_cons (pv 13) (pa_cons (pe_ix ix_list (pv 2) pe_int (fun _ _ => rfl)) pa_nil)))))))))) (pss_one (ps_ret pe_bl)) pss_nil) (pss_cons (ps_setLc (i := 14) (own := [("_law_at", 15)]) (g := gName 15) (tt := tYes) rfl sc_law.nd rfl rfl (sw_true rfl rfl rfl (by decide +kernel)) (pi_range1 (by rfl) B.range (pa_cons pe_int pa_nil)) (blkOk_by (N := ["_law_script", "_law_far", "_law_due", "_law_k", "_law_row_here", "_law_kept", "_law_a", "_law_b", "_law_c", "_law_strange", "_law_bad", "_law_door", "_law_pairs", "_law_numbers", "_law_many", "_law_at"]) (sc := defScope s_law) (by decide +kernel)) (fun _ _ _ _ _ => pg_name (i := 15) sc_law.nd rfl (Or.inl rfl)) (fun _ _ _ _ _ => pts_nil) (fun _ _ _ _ _ => (pe_tup (pa_cons (pe_op op_mul (pe_op op_mod (pv 15) pe_int) pe_int) (pa_cons pe_int pa_nil))))) (pss_one (ps_ret (pe_and (pe_cmpR (op_eqD hr.units) (pv 4) (pv 5) (nomark _)) (pe_and (pe_cmpR (op_eqD hr.units) (pe_call G_row_of (hr.mono (by decide)) (by rfl) g_row_of k_row_of b_row_of .nil pass0 (pa_cons (pe_call G_by_row (hr.mono (by decide)) (by rfl) g_by_row k_by_row b_by_row .nil pass0 (pa_cons (pv 14) pa_nil)) pa_nil)) (pv 14) (nomark _)) (pe_one (pe_cmpR op_gt (pe_ix ix_tup (pe_call G_by_row (hr.mono (by decide)) (by rfl) g_by_row k_by_row b_by_row .nil pass0 (pa_cons (pe_lst (pa_cons (pe_tup (pa_cons pe_int (pa_cons pe_int pa_nil))) pa_nil)) pa_nil)) pe_int (fun _ _ => rfl)) (pe_op op_oneShl pe_int pe_int) (nomark _))))))))))))))))))))))))), ?_⟩
    refine ⟨_, rfl, 63, rfl, a, _, rfl, hS, fun sa nsa => ?_⟩
    obtain ⟨cs, e, hcs⟩ := cut_ints ns none (some 63)
    have hcl : cs.length ≤ 63 := by
      have := cut_to (ns.map V.int) 63
      rw [show ((63 : Nat) : Int) = 63 by rfl, e] at this
      have := congrArg List.length this
      rw [List.length_map, List.length_take, List.length_map] at this
      omega
    rw [e]
    have hcb : ∀ n ∈ cs, Bd 1048577 n := fun z hz => hb z (hcs z hz)
    have hsa : SqL K (upd H sa (.lst (cs.map V.int))) sa (cs.map V.int) := SqL.of upd_same
    generalize upd H sa (.lst (cs.map V.int)) = H1 at *
    refine ⟨_, rfl, sa, cs, 0, rfl, hsa, by omega, fun c0 hc0 => ⟨c0, 3, 900000, rfl, by decide, by decide +kernel, by decide, by decide, bd_mem hcb hc0, fun H2 fa s2 f0 f1 => ?_⟩⟩
    refine ⟨Nat.zero_le _, fun du ndu => ⟨_, _, rfl, ?_⟩⟩
    have s3 := same_upd (o := .lst []) ndu
    have h3 : (upd H2 du (.lst [])) du = some (.lst []) := upd_same
    generalize upd H2 du (.lst []) = H3 at *
    have s13 := s2.trans s3
    refine ⟨5, rfl, by decide, by decide, for_range (lo := 0) (n := (5 : Int).toNat) (fun i σ H' => ∃ (x3 : Option V) (ds : List Addr), σ = [some (.ref sa), some (.int fa), some (.ref du), x3, none, none, none, none, none, none, none, none, none, none, none, none] ∧ H' du = some (.lst (ds.map V.ref)) ∧ ds.length = i ∧ (∀ (j : Nat) (d : Addr), ds[j]? = some d → H' d = some (.lst ((kindL j).map V.bl))) ∧ Same H2 H') ⟨_, [], rfl, h3, rfl, (fun j d z => by cases z), s3⟩ ?_ ?_⟩
    · rintro i σ H4 hi ⟨x3, ds, rfl, h4, l4, k4, s4⟩
      refine ⟨_, rfl, .inl ⟨rfl, _, SqL.of h4⟩, _, rfl, rfl, _, rfl, rfl, _, rfl, rfl, _, rfl, rfl, _, rfl, rfl, by show 6 ≤ sizeLine; decide, fun d nd => ?_⟩
      rw [kindV i]
      have s5 := same_upd (o := .lst ((kindL i).map V.bl)) nd
      have h5 : (upd H4 d (.lst ((kindL i).map V.bl))) d = some (.lst ((kindL i).map V.bl)) := upd_same
      have ne : d ≠ du := fun z => by
        rw [z, h4] at nd
        cases nd
      generalize upd H4 d (.lst ((kindL i).map V.bl)) = H5 at *
      have h45 := s5 _ _ h4
      have hi : i < 5 := hi
      refine ⟨du, _, _, rfl, rfl, h45, by rw [sizeLine_eq, List.length_map]; omega, ?_⟩
      refine ⟨_, ds ++ [d], rfl, by rw [upd_same, List.map_append]; rfl, by rw [List.length_append]; show ds.length + 1 = _; omega, fun j d' hd => ?_, same_new ndu (s4.trans s5)⟩
      by_cases z : j < ds.length
      · rw [List.getElem?_append_left z] at hd
        have := s5 _ _ (k4 j d' hd)
        rw [upd_ne (fun y => by
          rw [y, h45] at this
          exact ne_kind (HO.lst.inj (Option.some.inj this)))]
        exact this
      · have hj := (List.getElem?_eq_some_iff.mp hd).1
        rw [List.length_append] at hj
        have hj : j = ds.length := by
          have : ([d] : List Addr).length = 1 := rfl
          omega
        rw [hj, List.getElem?_append_right (Nat.le_refl _), Nat.sub_self] at hd
        cases hd
        rw [upd_ne ne, hj, l4]
        exact h5
    · rintro σ H4 ⟨x3, ds, rfl, h4, l4, k4, s4⟩
      obtain ⟨d0, d1, d2, d3, d4, rfl⟩ := five l4
      have kd0 := k4 0 d0 rfl
      have kd1 := k4 1 d1 rfl
      have kd2 := k4 2 d2 rfl
      have kd3 := k4 3 d3 rfl
      have kd4 := k4 4 d4 rfl
      clear k4
      have hsa4 := Same.seq (s2.trans s4) hsa
      refine ⟨_, rfl, sa, cs, 0, rfl, hsa4, hcb, by decide, fun H5 ra r nw ok hrl => ?_⟩
      obtain ⟨s5, nra, ts, hra, hpt⟩ := nw
      -- the row's copy, its triple
      refine ⟨_, rfl, ra, _, rfl, .inl (SqL.of hra), fun ka nka => ?_⟩
      have s6 := same_upd (o := .lst (ts.map V.ref)) nka
      have hka : (upd H5 ka (.lst (ts.map V.ref))) ka = some (.lst (ts.map V.ref)) := upd_same
      generalize upd H5 ka (.lst (ts.map V.ref)) = H6 at *
      have gd := ok.good
      have bd := ok.bd (show r.length ≤ 200 by omega)
      have bd2 := bd.le (x := (behind r).2) (by have := gd.1; omega) (by have := gd.2.1; omega)
      refine ⟨_, rfl, ra, r, rfl, ⟨ts, SqL.of (s6 _ _ hra), hpt.same s6⟩, ok.part, by omega, fun H7 pa s7 hpa => ⟨pa, behind r, rfl, hpa, bd.mono (by decide), bd2.mono (by decide), fun H8 ta s8 hta => ?_⟩⟩
      refine ⟨len2, fun tt ntt => ⟨_, _, rfl, SqT.of upd_same, rfl, _, _, rfl, _, _, rfl, _, _, rfl, Same.tup (same_upd ntt) hta, rfl, _, _, rfl, _, _, rfl, _, _, rfl, rfl, rfl, ?_⟩⟩
      have s9 := same_upd (o := .tup [.ref ka, .ref ta]) ntt
      generalize upd H8 tt (.tup [.ref ka, .ref ta]) = H9 at *
      have s49 : Same H4 H9 := s5.trans (s6.trans (s7.trans (s8.trans s9)))
      have kd0 := s49 _ _ kd0
      have kd1 := s49 _ _ kd1
      have kd2 := s49 _ _ kd2
      have kd3 := s49 _ _ kd3
      have kd4 := s49 _ _ kd4
      have hdu := s49 _ _ h4
      have s69 := s7.trans (s8.trans s9)
      have hra9 := (s6.trans s69) _ _ hra
      have hka9 := s69 _ _ hka
      have hpt9 := hpt.same (s6.trans s69)
      obtain ⟨c1, c2, c3⟩ := tri_bd gd bd
      have tf : TriF ((tri (behind r)).1, (tri (behind r)).2.1, (tri (behind r)).2.2, fa) := ⟨tri_ok gd, f0, c1.mono (by decide), c2.mono (by decide), c3.mono (by decide), Nat.lt_of_lt_of_le (show fa.natAbs < 10 ^ 40 by omega) (by decide +kernel)⟩
      have bd9 : Bd 900000 (behind r).1 := bd.mono (by decide)
      generalize hp : behind r = p at *
      generalize htr : tri p = tr at *
      obtain ⟨A, Bb, C⟩ := tr
      dsimp only at tf ⊢
      clear hta s5 s6 s7 s8 s9 s49 s69 nra nka ntt hra hka h4 l4 s4 hpa
      -- no triples
      refine ⟨(), trivial, ?_⟩
      rintro v1 G1 u1 ⟨a1, xs1, rfl, e1, l1, b1⟩
      refine ⟨_, rfl, (), trivial, ?_⟩
      rintro v2 G2 u2 ⟨a2, xs2, rfl, e2, l2, b2⟩
      refine ⟨a1, a2, xs1, xs2, rfl, rfl, u2 _ _ e1, e2, by rw [sizeLine_eq]; omega, fun a3 n3 => ?_⟩
      have u3 := same_upd (o := .lst (xs1 ++ xs2)) n3
      have e3 : (upd G2 a3 (.lst (xs1 ++ xs2))) a3 = some (.lst (xs1 ++ xs2)) := upd_same
      generalize upd G2 a3 (.lst (xs1 ++ xs2)) = G3 at *
      refine ⟨_, rfl, (), trivial, ?_⟩
      rintro v4 G4 u4 ⟨a4, xs4, rfl, e4, l4, b4⟩
      refine ⟨a3, a4, _, xs4, rfl, rfl, u4 _ _ e3, e4, by rw [sizeLine_eq, List.length_append]; omega, fun a5 n5 => ?_⟩
      have u5 := same_upd (o := .lst (xs1 ++ xs2 ++ xs4)) n5
      have e5 : (upd G4 a5 (.lst (xs1 ++ xs2 ++ xs4))) a5 = some (.lst (xs1 ++ xs2 ++ xs4)) := upd_same
      generalize upd G4 a5 (.lst (xs1 ++ xs2 ++ xs4)) = G5 at *
      refine ⟨_, rfl, (A, Bb, C, fa), ⟨rfl, rfl, rfl, rfl, tf⟩, ?_⟩
      rintro v6 G6 u6 ⟨a6, xs6, rfl, e6, l6, b6⟩
      refine ⟨a5, a6, _, xs6, rfl, rfl, u6 _ _ e5, e6, by rw [sizeLine_eq, List.length_append, List.length_append]; omega, fun a7 n7 => ?_⟩
      have u7 := same_upd (o := .lst (xs1 ++ xs2 ++ xs4 ++ xs6)) n7
      have e7 : (upd G6 a7 (.lst (xs1 ++ xs2 ++ xs4 ++ xs6))) a7 = some (.lst (xs1 ++ xs2 ++ xs4 ++ xs6)) := upd_same
      have b7 : ∀ x ∈ xs1 ++ xs2 ++ xs4 ++ xs6, BadT K (upd G6 a7 (.lst (xs1 ++ xs2 ++ xs4 ++ xs6))) x := fun x hx => by
        rcases List.mem_append.mp hx with hx | hx
        · rcases List.mem_append.mp hx with hx | hx
          · rcases List.mem_append.mp hx with hx | hx
            · exact (b1 x hx).same (u2.trans (u3.trans (u4.trans (u5.trans (u6.trans u7)))))
            · exact (b2 x hx).same (u3.trans (u4.trans (u5.trans (u6.trans u7))))
          · exact (b4 x hx).same (u5.trans (u6.trans u7))
        · exact (b6 x hx).same u7
      have l7 : (xs1 ++ xs2 ++ xs4 ++ xs6).length = 28 := by
        rw [List.length_append, List.length_append, List.length_append]
        omega
      generalize upd G6 a7 (.lst (xs1 ++ xs2 ++ xs4 ++ xs6)) = G7 at *
      generalize xs1 ++ xs2 ++ xs4 ++ xs6 = xs7 at *
      have u17 := u1.trans (u2.trans (u3.trans (u4.trans (u5.trans (u6.trans u7)))))
      have kd0 := u17 _ _ kd0
      have kd1 := u17 _ _ kd1
      have kd2 := u17 _ _ kd2
      have kd3 := u17 _ _ kd3
      have kd4 := u17 _ _ kd4
      have hdu := u17 _ _ hdu
      have hra := u17 _ _ hra9
      have hka := u17 _ _ hka9
      have hpt := hpt9.same u17
      clear b1 b2 b4 b6 e1 e2 e3 e4 e5 e6 l1 l2 l4 l6 n3 n5 n7 u1 u2 u3 u4 u5 u6 u7 u17 hra9 hka9 hpt9
      -- the four doors
      refine ⟨4, rfl, by decide, by decide, for_range (lo := 0) (n := (4 : Int).toNat) (fun i σ H' => ∃ (x3 x11 : Option V), σ = [some (.ref sa), some (.int fa), some (.ref du), x3, some (.ref ra), some (.ref ka), some (.int A), some (.int Bb), some (.int C), some (.ref a1), some (.ref a7), x11, none, none, none, none] ∧ Same G7 H') ⟨_, _, rfl, Same.refl _⟩ ?_ ?_⟩
      · rintro i σ G8 hi ⟨x3, x11, rfl, u8⟩
        have hi : i < 4 := hi
        refine ⟨_, rfl, _, rfl, _, rfl, du, _, (0 : Nat), .ref d0, rfl, rfl, SqL.of (u8 _ _ hdu), atI_nat rfl, ?_⟩
        refine ⟨ftriple, _, 0, c.T, .int (0 + i), a7, d0, xs7, rfl, heT, koT, SqL.of (u8 _ _ e7), by omega, SqL.of (u8 _ _ kd0), fun x hx G9 Q1 E1 u9 h9 => ⟨_, x, rfl, ⟨⟨_, rfl, by omega, by omega⟩, (b7 x hx).same (u8.trans u9)⟩, h9⟩, fun G9 u9 => ⟨_, rfl, iteF ?_⟩⟩
        exact ⟨_, _, rfl, u8.trans u9⟩
      · rintro σ G8 ⟨x3, x11, rfl, u8⟩
        have kd1 := u8 _ _ kd1
        have kd2 := u8 _ _ kd2
        have kd3 := u8 _ _ kd3
        have kd4 := u8 _ _ kd4
        have hdu := u8 _ _ hdu
        have hra := u8 _ _ hra
        have hka := u8 _ _ hka
        have hpt := hpt.same u8
        clear b7 e7 u8 kd0
        -- no pairs
        refine ⟨(), trivial, ?_⟩
        rintro v1 G1 u1 ⟨p1, ys1, rfl, e1, l1, b1⟩
        refine ⟨_, rfl, fa, ⟨rfl, f0⟩, ?_⟩
        rintro v2 G2 u2 ⟨p2, ys2, rfl, e2, l2, b2⟩
        refine ⟨p1, p2, ys1, ys2, rfl, rfl, u2 _ _ e1, e2, by rw [sizeLine_eq]; omega, fun p3 n3 => ?_⟩
        have u3 := same_upd (o := .lst (ys1 ++ ys2)) n3
        have e3 : (upd G2 p3 (.lst (ys1 ++ ys2))) p3 = some (.lst (ys1 ++ ys2)) := upd_same
        have b3 : ∀ x ∈ ys1 ++ ys2, BadP K (upd G2 p3 (.lst (ys1 ++ ys2))) x := fun x hx => by
          rcases List.mem_append.mp hx with hx | hx
          · exact (b1 x hx).same (u2.trans u3)
          · exact (b2 x hx).same u3
        have l3 : (ys1 ++ ys2).length = 20 := by
          rw [List.length_append]
          omega
        generalize upd G2 p3 (.lst (ys1 ++ ys2)) = G3 at *
        generalize ys1 ++ ys2 = ys3 at *
        have u13 := u1.trans (u2.trans u3)
        refine ⟨_, rfl, _, rfl, du, _, (1 : Nat), .ref d1, rfl, rfl, SqL.of (u13 _ _ hdu), atI_nat rfl, ?_⟩
        refine ⟨fpair, _, 1, c.P, .int 0, p3, d1, ys3, rfl, heP, koP, SqL.of e3, by omega, SqL.of (u13 _ _ kd1), fun x hx G9 Q1 E1 u9 h9 => ⟨_, x, rfl, (b3 x hx).same u9, h9⟩, fun G4 u4 => ⟨_, rfl, iteF ?_⟩⟩
        have u14 := u13.trans u4
        clear b1 b2 b3 e1 e2 e3 u1 u2 u3 u4 u13 n3
        -- no steps
        refine ⟨_, rfl, _, rfl, _, rfl, len3, fun t0 nt0 => ?_⟩
        have v1 := same_upd (o := .tup [.int A, .int Bb, .int C]) nt0
        have et : SqT K (upd G4 t0 (.tup [.int A, .int Bb, .int C])) t0 [.int A, .int Bb, .int C] := SqT.of upd_same
        generalize upd G4 t0 (.tup [.int A, .int Bb, .int C]) = G5 at *
        refine ⟨fa, ⟨rfl, f0⟩, ?_⟩
        rintro w2 G6 v2 ⟨q1, zs1, rfl, e1, l1, b1⟩
        have u16 := u14.trans (v1.trans v2)
        have et6 := Same.tup v2 et
        refine ⟨_, rfl, du, _, (2 : Nat), .ref d2, rfl, rfl, SqL.of (u16 _ _ hdu), atI_nat rfl, ?_⟩
        refine ⟨fstep, _, 2, c.S, .ref t0, q1, d2, zs1, rfl, heS, koS, SqL.of e1, by omega, SqL.of (u16 _ _ kd2), fun x hx G9 Q1 E1 u9 h9 => ⟨_, x, rfl, ⟨⟨t0, p, rfl, by rw [htr]; exact Same.tup u9 et6, gd, bd9⟩, (b1 x hx).same u9⟩, h9⟩, fun G7 u7 => ⟨_, rfl, iteF ?_⟩⟩
        have u17 := u16.trans u7
        clear b1 e1 v1 v2 u7 u16 et et6 u14 nt0
        -- no rows
        refine ⟨_, rfl, _, rfl, ra, r, fa, rfl, ⟨ts, SqL.of (u17 _ _ hra), hpt.same u17⟩, ok, by omega, f0, fun G10 rl rs u10 e1 l1 b1 => ?_⟩
        have u18 := u17.trans u10
        refine ⟨_, rfl, du, _, (3 : Nat), .ref d3, rfl, rfl, SqL.of (u18 _ _ hdu), atI_nat rfl, ?_⟩
        refine ⟨frow, _, 3, c.R, .int 0, rl, d3, rs, rfl, heR, koR, SqL.of e1, by omega, SqL.of (u18 _ _ kd3), fun x hx G9 Q1 E1 u9 h9 => ⟨_, x, rfl, (b1 x hx).same u9, h9⟩, fun G11 u11 => ⟨_, rfl, iteF ?_⟩⟩
        have u19 := u18.trans u11
        clear b1 e1 u10 u11 u17 u18
        -- no numbers
        refine ⟨fa, ⟨rfl, f0⟩, ?_⟩
        rintro w4 G12 u12 ⟨q2, zs2, rfl, e1, l2, b1⟩
        have u20 := u19.trans u12
        refine ⟨_, rfl, _, rfl, du, _, (4 : Nat), .ref d4, rfl, rfl, SqL.of (u20 _ _ hdu), atI_nat rfl, ?_⟩
        refine ⟨fnumber, _, 4, c.N, .int 0, q2, d4, zs2, rfl, heN, koN, SqL.of e1, by omega, SqL.of (u20 _ _ kd4), fun x hx G9 Q1 E1 u9 h9 => ⟨_, x, rfl, ⟨⟨_, rfl⟩, (b1 x hx).same u9⟩, h9⟩, fun G13 u13 => ⟨_, rfl, iteF ?_⟩⟩
        have u21 := u20.trans u13
        refine ⟨_, rfl, _, rfl, du, _, (4 : Nat), .ref d4, rfl, rfl, SqL.of (u21 _ _ hdu), atI_nat rfl, ?_⟩
        refine ⟨fnumber, _, 4, c.N, .int 1, q2, d4, zs2, rfl, heN, koN, SqL.of (u13 _ _ e1), by omega, SqL.of (u21 _ _ kd4), fun x hx G9 Q1 E1 u9 h9 => ⟨_, x, rfl, ⟨⟨_, rfl⟩, (b1 x hx).same (u13.trans u9)⟩, h9⟩, fun G14 u14 => ⟨_, rfl, iteF ?_⟩⟩
        have u22 := u21.trans u14
        clear b1 e1 u12 u13 u14 u19 u20 u21
        -- many
        refine ⟨200, rfl, by decide, by decide, fun D nD => lc_rows (K := K) (lo := 0) (n := (200 : Int).toNat) manyF nD (by decide) (fun i hi H1 s1 R hR => ⟨_, rfl, _, _, rfl, rfl, (by decide : (0 : Int) < 2), _, _, rfl, rfl, .inr ⟨by decide, by decide⟩, len2, fun t nt => hR t _ (same_upd nt) (SqT.of upd_same)⟩) (fun G15 ms u15 e15 p15 => ?_)⟩
        have u23 := u22.trans u15
        have p15 : Parts K G15 ms ((List.range 200).map manyF) := p15
        -- the row as it was; many steps there and back; step 1 a thousand times
        refine ⟨_, rfl, _, rfl, _, _, row_dp ⟨ts, SqL.of (u23 _ _ hra), hpt.same u23⟩, row_dp ⟨ts, SqL.of (u23 _ _ hka), hpt.same u23⟩, row_shaped r, row_shaped r, _, rfl, ?_⟩
        rw [eqv_self (row_shaped r)]
        refine iteT ?_
        have ln : ((List.range 200).map manyF).length = 200 := by rw [List.length_map, List.length_range]
        refine ⟨_, rfl, D, _, rfl, ⟨ms, SqL.of e15, p15⟩, many_ok, (by show ((List.range 200).map manyF).length ≤ 200; omega), fun G16 t1 u16 ht1 => ⟨t1, (List.range 200).map manyF, rfl, ht1, parts_pos many_ok.part, many_ok.adj, by omega, (many_ok.bd (by omega)).mono (by decide), fun G17 q3 ts3 u17 nq hq3 pt3 => ?_⟩⟩
        refine ⟨_, rfl, _, _, row_dp ⟨ts3, SqL.of hq3, pt3⟩, row_dp ⟨ms, SqL.of ((u16.trans u17) _ _ e15), p15.same (u16.trans u17)⟩, row_shaped _, row_shaped _, _, rfl, ?_⟩
        rw [eqv_self (row_shaped _)]
        refine iteT ?_
        refine ⟨len2, fun t3 nt3 => ⟨by show 1 ≤ sizeLine; decide, fun l3 nl3 => ⟨l3, [(1, 1000)], rfl, ⟨[t3], SqL.of upd_same, ⟨Same.tup (same_upd nl3) (SqT.of upd_same), trivial⟩⟩, thou_ok, by decide, fun G18 q4 u18 hq4 => ⟨q4, _, 0, _, rfl, rfl, hq4, rfl, 2400, rfl, rfl, by decide, _, _, rfl, rfl, ?_⟩⟩⟩⟩
        show Q (.bl (decide ((2 : Int) ^ 2400 < (tri (behind [(1, 1000)])).1))) G18
        rw [thou]
        exact q _
end
end SqP

namespace SqP
open PySem PySem.Spec PyProof.Rows L2 Sq
/-! ### the law's end, the built-in modules' names told too -/
theorem frag_mem {K : PySem.W.Frag} {a : Addr} {o : Obj} (h : (a, o) ∈ K) : ∃ o', K.lookup a = some o' := by
  induction K with
  | nil => cases h
  | cons p K ih =>
    obtain ⟨b, u⟩ := p
    by_cases e : a = b
    · exact ⟨u, by rw [e, List.lookup_cons_self]⟩
    · have hb : (a == b) = false := by simpa using e
      rcases List.mem_cons.mp h with z | z
      · exact absurd (Prod.mk.inj z).1 e
      · obtain ⟨o', h'⟩ := ih z
        exact ⟨o', by rw [List.lookup_cons, hb]; exact h'⟩
theorem frag_of {E : PySem.W.Frag} {a : Addr} {o : Obj} (h : E.lookup a = some o) : (a, o) ∈ E := by
  induction E with
  | nil => cases h
  | cons p E ih =>
    obtain ⟨b, u⟩ := p
    rw [List.lookup_cons] at h
    by_cases e : (a == b) = true
    · rw [e] at h
      have h : some u = some o := h
      cases h
      rw [beq_iff_eq.mp e]
      exact List.mem_cons_self
    · rw [Bool.not_eq_true] at e
      rw [e] at h
      exact List.mem_cons_of_mem _ (ih h)
theorem frag_app {K E : PySem.W.Frag} {a : Addr} {o : Obj} (h : (K ++ E).lookup a = some o) : K.lookup a = some o ∨ (K.lookup a = none ∧ (a, o) ∈ E) := by
  rw [List.lookup_append] at h
  cases e : K.lookup a with
  | some u =>
    rw [e] at h
    exact .inl h
  | none =>
    rw [e] at h
    have h : E.lookup a = some o := h
    exact .inr ⟨rfl, frag_of h⟩
theorem frag_left {K E : PySem.W.Frag} {a : Addr} {o : Obj} (h : K.lookup a = some o) : (K ++ E).lookup a = some o := by
  rw [List.lookup_append, h]
  rfl
theorem frag_in {K E : PySem.W.Frag} {h : Heap} (hK : K.In h) (hE : ∀ p ∈ E, h.get? p.1 = some p.2) : PySem.W.Frag.In (K ++ E) h := fun a o e => by
  rcases frag_app e with q | ⟨_, q⟩
  · exact hK a o q
  · exact hE _ q
theorem frag_at {K : PySem.W.Frag} {h base : Heap} {a : Addr} {o : Obj} (hK : K.In h) (hB : K.In base) (m : (a, o) ∈ K) (e : h.get? a = some o) : base.get? a = some o := by
  obtain ⟨o', l⟩ := frag_mem m
  have := hK a o' l
  rw [e] at this
  cases this
  exact hB a o l
theorem fn_more {P : Program} {w : World} {K E : PySem.W.Frag} {mg : Str → Option Value} {base : Heap} {CX : CXT} {k : Nat} {f : Addr} {fd : FuncData} {ps : List Str} {sp : Sp} (F : FnOk P w K mg base CX k f fd ps sp) : FnOk P w (K ++ E) mg base CX k f fd ps sp :=
  ⟨F.len, fun A outer s H args us vs Q X hr e hb hv hs => F.run A outer s H args us vs Q X hr ⟨e.frames, ⟨fun a o q => e.mod.kin a o (frag_left q), e.mod.glob, e.mod.blt, e.mod.nolimit⟩, e.bs, e.bsz, e.funs, e.frf, e.hok, e.bare⟩ hb hv hs⟩
theorem walk_ofS {l : PySem.W.OpenLaw} {n k : Nat} {q : Program} {loose : List Str} {XP : (Str → Option Value) → Heap → Prop} {YP : World → Heap → Prop} {d : DefRec} {K : Params → PySem.W.Frag} {sp : PySem.W.Frag → Sp} {x : Str}
    (hn : l.most = some n) (hn2 : n ≤ sizeLine) (hdf : d.params.defaults = []) (hr : Room k callerA) (hq : importsNone q = true)
    (hY : ∀ (w : World) (h : Heap), YP w h → (K w.params).In h)
    (F : ∀ (w : World) (mg : Str → Option Value) (fa : Addr) (h : Heap), (K w.params).In h → h.Ns mainGlobals mg → mg d.name = some (.ref fa) →
      ∃ fd : FuncData, (∀ (s : Shared) (u : Value), BindsTo s fd ⟨[u], []⟩ [(x, u)]) ∧
        ∀ base : Heap, (K w.params).In base → base.Ns mainGlobals mg → base.NoSeer → FnOk l.prog w (K w.params) mg base CX0 k fa fd [x] (sp (K w.params)))
    (hsp : ∀ (K : PySem.W.Frag) (H : Hp) (a : Addr) (ns : List Int), ns.length ≤ n → (∀ z ∈ ns, Bd 1048577 z) → SqL K H a (ns.map V.int) → sp K [.ref a] H (fun v _ => v = .bl true) fun _ _ _ => False) :
    PySem.W.WalkO q loose XP YP l.row.toRowW d [] (fun f vs => PySem.call f vs) := by
  refine Att.attach_callB hn hdf fun w s₀ s₁ mg mb fa o pm cd doc a vs ns G Y ho hd hcd hmg hobj hints hlen hbits hg => ?_
  have KX := hY w _ Y
  obtain ⟨fd, hb, hF⟩ := F w mg fa _ KX G.T.g hmg
  have seer := G.T.seer hq
  obtain ⟨mc, ⟨oc, ec, pc, c1, c2, c3, c4⟩, hc1, hc2⟩ := seer.statics
  obtain ⟨mm, ⟨om, em, pm', m1, m2, m3, m4⟩, hm1⟩ := seer.mods
  obtain ⟨mi, ⟨oi, ei, pi', i1, i2, i3, i4⟩, hi1⟩ := seer.imp
  obtain ⟨mz, bm, ob, ⟨oz, ez, pz, z1, z2, z3, z4⟩, hz1, hz2, hz3, hz4⟩ := seer.main
  have all : ∀ p ∈ ([(cStatics, oc), (sysModules, om), (builtinsNs, oi), (mainGlobals, oz), (bm, ob)] : PySem.W.Frag), s₁.heap.get? p.1 = some p.2 ∧ ((∃ es ep, p.2.data = .dict es ep) ∨ p.2.cls = .type "module") := by
    intro p hp
    simp only [List.mem_cons, List.not_mem_nil, or_false] at hp
    rcases hp with e | e | e | e | e <;> subst e
    · exact ⟨c1, .inl ⟨_, _, c2⟩⟩
    · exact ⟨m1, .inl ⟨_, _, m2⟩⟩
    · exact ⟨i1, .inl ⟨_, _, i2⟩⟩
    · exact ⟨z1, .inl ⟨_, _, z2⟩⟩
    · exact ⟨hz2, .inr hz3⟩
  have KX2 := frag_in KX fun p hp => (all p hp).1
  refine law_call (K := K w.params ++ [(cStatics, oc), (sysModules, om), (builtinsNs, oi), (mainGlobals, oz), (bm, ob)]) KX2 G.T.g G.T.b G.T.builtins G.T.nolimit hg hobj hints (Nat.le_trans hlen hn2) hr
    (fun base hB hN => fn_more (hF base (fun a o e => hB a o (frag_left e)) hN ?_)) hb (fun H hO hS => hsp (K w.params) H a ns hlen (fun z hz => (Sq.Bd.mono (k := 1048576) (PySem.intBits_le_iff.mp (hbits z hz)) (by decide))) ?_) (fun H e s' h => h)
  · have at' : ∀ {b : Addr} {u : Obj}, (b, u) ∈ ([(cStatics, oc), (sysModules, om), (builtinsNs, oi), (mainGlobals, oz), (bm, ob)] : PySem.W.Frag) → base.get? b = some u := fun m => frag_at KX2 hB (List.mem_append_right _ m) (all _ m).1
    exact ⟨⟨mc, ⟨oc, ec, pc, at' (by simp), c2, c3, c4⟩, hc1, hc2⟩, ⟨mm, ⟨om, em, pm', at' (by simp), m2, m3, m4⟩, hm1⟩, ⟨mi, ⟨oi, ei, pi', at' (by simp), i2, i3, i4⟩, hi1⟩, ⟨mz, bm, ob, ⟨oz, ez, pz, at' (by simp), z2, z3, z4⟩, hz1, at' (by simp), hz3, hz4⟩⟩
  · rcases hS with h | ⟨u, its, m, hk, h1, h2, h3, h4, h5⟩
    · exact .inl h
    · rcases frag_app hk with z | ⟨_, z⟩
      · exact .inr ⟨u, its, m, z, h1, h2, h3, h4, h5⟩
      · rcases (all _ z).2 with ⟨es, ep, e⟩ | e
        · rw [show (a, u).2.data = u.data from rfl, h3] at e
          cases e
        · rw [show (a, u).2.cls = u.cls from rfl, h1] at e
          exact absurd (Value.type.inj e) (by decide)
/-- a def that the top wrote -/
theorem is_mk {K : PySem.W.Frag} {h : Heap} {mg : Str → Option Value} {x : Str} {st : Stmt} {ps : List Str} {f : Addr} {oc : Value} {od an : Option Addr} {osl : Array (Option Value)} {kV doc pm cdv ct : Value} (X : K.In h) (G : h.Ns mainGlobals mg)
    (a : PySem.W.nsIn K mainGlobals x = some (some (.ref f))) (l : K.lookup f = some ⟨oc, od, .func (PySem.W.fnOf x x (defArgs st) (defBody st) (defScope st) .none kV doc pm an cdv ct), osl⟩) (c : PySem.W.codeIn K cdv x = true) (k : PySem.W.keepIn K (.ref f) = true)
    (hb : ∀ (kV doc pm : Value) (an : Option Addr) (cdv ct : Value) (us : List Value), us.length = ps.length → bindArgs (PySem.W.fnOf x x (defArgs st) (defBody st) (defScope st) .none kV doc pm an cdv ct) ⟨us, []⟩ = pure (ps.zip us)) : Is K mg x st ps :=
  ⟨f, _, fun_mk l c k, (fun_mk l c k).binds hb, PySem.W.mg_of X G a⟩
theorem with_is {C : Prop} {K : PySem.W.Frag} {h : Heap} {mg : Str → Option Value} {x : Str} {st : Stmt} {ps : List Str} {f : Addr} {oc : Value} {od an : Option Addr} {osl : Array (Option Value)} {kV doc pm cdv ct : Value} (X : K.In h) (G : h.Ns mainGlobals mg)
    (a : PySem.W.nsIn K mainGlobals x = some (some (.ref f))) (l : K.lookup f = some ⟨oc, od, .func (PySem.W.fnOf x x (defArgs st) (defBody st) (defScope st) .none kV doc pm an cdv ct), osl⟩) (c : PySem.W.codeIn K cdv x = true) (k : PySem.W.keepIn K (.ref f) = true)
    (hb : ∀ (kV doc pm : Value) (an : Option Addr) (cdv ct : Value) (us : List Value), us.length = ps.length → bindArgs (PySem.W.fnOf x x (defArgs st) (defBody st) (defScope st) .none kV doc pm an cdv ct) ⟨us, []⟩ = pure (ps.zip us)) (r : Is K mg x st ps → C) : C := r (is_mk X G a l c k hb)
theorem law_mk {K : PySem.W.Frag} {h : Heap} {mg : Str → Option Value} {x y : Str} {st : Stmt} {f fa : Addr} {oc : Value} {od an : Option Addr} {osl : Array (Option Value)} {kV doc pm cdv ct : Value} (X : K.In h) (G : h.Ns mainGlobals mg) (hfa : mg x = some (.ref fa))
    (a : PySem.W.nsIn K mainGlobals x = some (some (.ref f))) (l : K.lookup f = some ⟨oc, od, .func (PySem.W.fnOf x x (defArgs st) (defBody st) (defScope st) .none kV doc pm an cdv ct), osl⟩) (c : PySem.W.codeIn K cdv x = true) (k : PySem.W.keepIn K (.ref f) = true)
    (hb : ∀ (kV doc pm : Value) (an : Option Addr) (cdv ct : Value) (us : List Value), us.length = ([y] : List Str).length → bindArgs (PySem.W.fnOf x x (defArgs st) (defBody st) (defScope st) .none kV doc pm an cdv ct) ⟨us, []⟩ = pure (([y] : List Str).zip us)) :
    ∃ fd : FuncData, Fun K x x st fa fd ∧ ∀ (s : Shared) (u : Value), BindsTo s fd ⟨[u], []⟩ [(y, u)] := by
  have e := hfa.symm.trans (PySem.W.mg_of X G a)
  cases e
  exact ⟨_, fun_mk l c k, fun s u => .of_eq (hb kV doc pm an cdv ct [u] rfl)⟩
theorem with_law {C : Prop} {K : PySem.W.Frag} {h : Heap} {mg : Str → Option Value} {x y : Str} {st : Stmt} {f fa : Addr} {oc : Value} {od an : Option Addr} {osl : Array (Option Value)} {kV doc pm cdv ct : Value} (X : K.In h) (G : h.Ns mainGlobals mg) (hfa : mg x = some (.ref fa))
    (a : PySem.W.nsIn K mainGlobals x = some (some (.ref f))) (l : K.lookup f = some ⟨oc, od, .func (PySem.W.fnOf x x (defArgs st) (defBody st) (defScope st) .none kV doc pm an cdv ct), osl⟩) (c : PySem.W.codeIn K cdv x = true) (k : PySem.W.keepIn K (.ref f) = true)
    (hb : ∀ (kV doc pm : Value) (an : Option Addr) (cdv ct : Value) (us : List Value), us.length = ([y] : List Str).length → bindArgs (PySem.W.fnOf x x (defArgs st) (defBody st) (defScope st) .none kV doc pm an cdv ct) ⟨us, []⟩ = pure (([y] : List Str).zip us))
    (r : (∃ fd : FuncData, Fun K x x st fa fd ∧ ∀ (s : Shared) (u : Value), BindsTo s fd ⟨[u], []⟩ [(y, u)]) → C) : C := r (law_mk X G hfa a l c k hb)
end SqP

namespace SqP
open PySem PySem.Spec PyProof.Rows L2
theorem with_exk {C : Prop} {K : PySem.W.Frag} {h : Heap} {mg : Str → Option Value} {n : Str} {c : Addr} (X : K.In h) (G : h.Ns mainGlobals mg) (a : PySem.W.nsIn K mainGlobals n = some (some (.ref c)))
    (x : PySem.W.excIn K c [.type "ValueError", .type "Exception", .type "BaseException", .type "object"] "ValueError.__new__" = true) (k : PySem.W.keepIn K (.ref c) = true) (b : PySem.W.subIn K (.ref c) (.type "BaseException") = some true) (t : PySem.W.typeIn K (.ref c) = some (.type "type")) (r : ExK K mg n c → C) : C := r ⟨PySem.W.mg_of X G a, x, k, b, t⟩
abbrev esC {K : PySem.W.Frag} {c : Es} {D : Addr} {i : Nat} (_ : KindOf K c D i) : Es := c
theorem with_kind {C : Prop} {K : PySem.W.Frag} {mg : Str → Option Value} {n : Str} {T P S R N V D : Addr} (i : Nat) (_ : ExK K mg "BadTriple" T) (_ : ExK K mg "BadPair" P) (_ : ExK K mg "BadStep" S) (_ : ExK K mg "BadRow" R) (_ : ExK K mg "BadNumber" N) (xV : ExK K mg "TripleError" V) (xD : ExK K mg n D)
    (hg : PySem.W.findIn K (.ref D) "__getattribute__" = some (some (.builtin "BaseException.__getattribute__"))) (hk : PySem.W.findIn K (.ref D) "__getattr__" = some none) (hd : PySem.W.hasDictIn K D = true) (ha : PySem.W.findIn K (.ref D) "__class__" = some (some (.builtin "object.__class__")))
    (hn : PySem.W.specialIn K (.builtin "object.__class__") "__get__" = some (some (.builtin "getset_descriptor.__get__"))) (ht : PySem.W.takesIn K (.builtin "object.__class__") = some true) (hm : PySem.W.mroIn K D (.type "object") = some true)
    (t : PySem.W.kitOne K (.ref D) (.ref T) = some (decide (i = 0))) (p : PySem.W.kitOne K (.ref D) (.ref P) = some (decide (i = 1))) (s : PySem.W.kitOne K (.ref D) (.ref S) = some (decide (i = 2))) (r : PySem.W.kitOne K (.ref D) (.ref R) = some (decide (i = 3))) (m : PySem.W.kitOne K (.ref D) (.ref N) = some (decide (i = 4))) (v : PySem.W.kitOne K (.ref D) (.type "ValueError") = some true)
    (dV : PySem.W.hasDictIn K V = true) (sV : PySem.W.subIn K (.ref D) (.ref V) = some true) (go : KindOf K ⟨T, P, S, R, N, V⟩ D i → C) : C :=
  go ⟨⟨hg, hk, xD.b, hd, ha, hn, ht, hm⟩, t, p, s, r, m, v, PySem.W.exm_ref xV.b dV xV.t sV⟩
end SqP

open PySem PySem.W PyProof.Rows in
set_option maxRecDepth 100000 in
set_option maxHeartbeats 0 in
theorem PySem.Challenge.cw_squaretree_k05_refused_holds : PySem.Challenge.rw_squaretree_k05_refused.Holds := by
  w_on; o_law; k_head; (case hw => w_witness2)
  k_fill
  refine SqP.walk_ofS (l := PySem.Challenge.rw_squaretree_k05_refused) (n := 63) (k := 36) (x := "_law_script") (sp := SqP.sp_law) rfl (by decide) rfl ⟨rfl, by decide, by decide⟩ (by decide +kernel) (fun w h Y => PySem.W.kIn_of Y) ?F (fun K H a ns hl hb hS => ⟨a, ns, rfl, hS, hb, hl, fun _ => rfl⟩)
  case F =>
    intro w mg fa h KX G hmg
    have z_isi : mg "isinstance" = none := by
      refine' PySem.W.mg_none_of KX G ?z
      (case z => k_is)
    have z_int : mg "int" = none := by
      refine' PySem.W.mg_none_of KX G ?z
      (case z => k_is)
    have z_bool : mg "bool" = none := by
      refine' PySem.W.mg_none_of KX G ?z
      (case z => k_is)
    have z_tuple : mg "tuple" = none := by
      refine' PySem.W.mg_none_of KX G ?z
      (case z => k_is)
    have z_list : mg "list" = none := by
      refine' PySem.W.mg_none_of KX G ?z
      (case z => k_is)
    have z_len : mg "len" = none := by
      refine' PySem.W.mg_none_of KX G ?z
      (case z => k_is)
    have z_all : mg "all" = none := by
      refine' PySem.W.mg_none_of KX G ?z
      (case z => k_is)
    have z_any : mg "any" = none := by
      refine' PySem.W.mg_none_of KX G ?z
      (case z => k_is)
    have z_range : mg "range" = none := by
      refine' PySem.W.mg_none_of KX G ?z
      (case z => k_is)
    have z_enum : mg "enumerate" = none := by
      refine' PySem.W.mg_none_of KX G ?z
      (case z => k_is)
    have z_verr : mg "ValueError" = none := by
      refine' PySem.W.mg_none_of KX G ?z
      (case z => k_is)
    have B : SqP.Bt mg := ⟨z_isi, z_int, z_bool, z_tuple, z_list, z_len, z_all, z_any, z_range, z_enum⟩
    have c_MOST_rows : ∃ v, mg "MOST_rows" = some v ∧ ∃ tk, v = Value.int 200 tk := by
      refine' ⟨_, PySem.W.mg_of KX G ?a, ?b⟩
      (case a => k_is)
      (case b => exact ⟨_, rfl⟩)
    obtain ⟨v_MOST_rows, g_MOST_rows, tk_MOST_rows, e_MOST_rows⟩ := c_MOST_rows
    subst e_MOST_rows
    have c_OFTEN : ∃ v, mg "OFTEN" = some v ∧ ∃ tk, v = Value.int 1000 tk := by
      refine' ⟨_, PySem.W.mg_of KX G ?a, ?b⟩
      (case a => k_is)
      (case b => exact ⟨_, rfl⟩)
    obtain ⟨v_OFTEN, g_OFTEN, tk_OFTEN, e_OFTEN⟩ := c_OFTEN
    subst e_OFTEN
    have c_MOST_sides : ∃ v, mg "MOST_sides" = some v ∧ ∃ tk, v = Value.int 1000000 tk := by
      refine' ⟨_, PySem.W.mg_of KX G ?a, ?b⟩
      (case a => k_is)
      (case b => exact ⟨_, rfl⟩)
    obtain ⟨v_MOST_sides, g_MOST_sides, tk_MOST_sides, e_MOST_sides⟩ := c_MOST_sides
    subst e_MOST_sides
    refine' SqP.with_exk (n := "BadTriple") KX G ?a_BadTriple ?x_BadTriple ?k_BadTriple ?b_BadTriple ?t_BadTriple (fun x_BadTriple => ?r_BadTriple)
    (case a_BadTriple => k_is); (case x_BadTriple => k_exc); (case k_BadTriple => k_is); (case b_BadTriple => k_is); (case t_BadTriple => k_is)
    refine' SqP.with_exk (n := "BadPair") KX G ?a_BadPair ?x_BadPair ?k_BadPair ?b_BadPair ?t_BadPair (fun x_BadPair => ?r_BadPair)
    (case a_BadPair => k_is); (case x_BadPair => k_exc); (case k_BadPair => k_is); (case b_BadPair => k_is); (case t_BadPair => k_is)
    refine' SqP.with_exk (n := "BadStep") KX G ?a_BadStep ?x_BadStep ?k_BadStep ?b_BadStep ?t_BadStep (fun x_BadStep => ?r_BadStep)
    (case a_BadStep => k_is); (case x_BadStep => k_exc); (case k_BadStep => k_is); (case b_BadStep => k_is); (case t_BadStep => k_is)
    refine' SqP.with_exk (n := "BadRow") KX G ?a_BadRow ?x_BadRow ?k_BadRow ?b_BadRow ?t_BadRow (fun x_BadRow => ?r_BadRow)
    (case a_BadRow => k_is); (case x_BadRow => k_exc); (case k_BadRow => k_is); (case b_BadRow => k_is); (case t_BadRow => k_is)
    refine' SqP.with_exk (n := "BadNumber") KX G ?a_BadNumber ?x_BadNumber ?k_BadNumber ?b_BadNumber ?t_BadNumber (fun x_BadNumber => ?r_BadNumber)
    (case a_BadNumber => k_is); (case x_BadNumber => k_exc); (case k_BadNumber => k_is); (case b_BadNumber => k_is); (case t_BadNumber => k_is)
    refine' SqP.with_exk (n := "TripleError") KX G ?a_TripleError ?x_TripleError ?k_TripleError ?b_TripleError ?t_TripleError (fun x_TripleError => ?r_TripleError)
    (case a_TripleError => k_is); (case x_TripleError => k_exc); (case k_TripleError => k_is); (case b_TripleError => k_is); (case t_TripleError => k_is)
    refine' SqP.with_kind 0 x_BadTriple x_BadPair x_BadStep x_BadRow x_BadNumber x_TripleError x_BadTriple ?hgT ?hkT ?hdT ?haT ?hnT ?htT ?hmT ?tT ?pT ?sT ?rT ?mT ?vT ?dVT ?sVT (fun koT => ?rkT)
    (case hgT => k_is); (case hkT => k_is); (case hdT => k_is); (case haT => k_is); (case hnT => k_is); (case htT => k_is); (case hmT => k_is); (case tT => kit_is); (case pT => kit_is); (case sT => kit_is); (case rT => kit_is); (case mT => kit_is); (case vT => kit_is); (case dVT => k_is); (case sVT => k_is)
    refine' SqP.with_kind 1 x_BadTriple x_BadPair x_BadStep x_BadRow x_BadNumber x_TripleError x_BadPair ?hgP ?hkP ?hdP ?haP ?hnP ?htP ?hmP ?tP ?pP ?sP ?rP ?mP ?vP ?dVP ?sVP (fun koP => ?rkP)
    (case hgP => k_is); (case hkP => k_is); (case hdP => k_is); (case haP => k_is); (case hnP => k_is); (case htP => k_is); (case hmP => k_is); (case tP => kit_is); (case pP => kit_is); (case sP => kit_is); (case rP => kit_is); (case mP => kit_is); (case vP => kit_is); (case dVP => k_is); (case sVP => k_is)
    refine' SqP.with_kind 2 x_BadTriple x_BadPair x_BadStep x_BadRow x_BadNumber x_TripleError x_BadStep ?hgS ?hkS ?hdS ?haS ?hnS ?htS ?hmS ?tS ?pS ?sS ?rS ?mS ?vS ?dVS ?sVS (fun koS => ?rkS)
    (case hgS => k_is); (case hkS => k_is); (case hdS => k_is); (case haS => k_is); (case hnS => k_is); (case htS => k_is); (case hmS => k_is); (case tS => kit_is); (case pS => kit_is); (case sS => kit_is); (case rS => kit_is); (case mS => kit_is); (case vS => kit_is); (case dVS => k_is); (case sVS => k_is)
    refine' SqP.with_kind 3 x_BadTriple x_BadPair x_BadStep x_BadRow x_BadNumber x_TripleError x_BadRow ?hgR ?hkR ?hdR ?haR ?hnR ?htR ?hmR ?tR ?pR ?sR ?rR ?mR ?vR ?dVR ?sVR (fun koR => ?rkR)
    (case hgR => k_is); (case hkR => k_is); (case hdR => k_is); (case haR => k_is); (case hnR => k_is); (case htR => k_is); (case hmR => k_is); (case tR => kit_is); (case pR => kit_is); (case sR => kit_is); (case rR => kit_is); (case mR => kit_is); (case vR => kit_is); (case dVR => k_is); (case sVR => k_is)
    refine' SqP.with_kind 4 x_BadTriple x_BadPair x_BadStep x_BadRow x_BadNumber x_TripleError x_BadNumber ?hgN ?hkN ?hdN ?haN ?hnN ?htN ?hmN ?tN ?pN ?sN ?rN ?mN ?vN ?dVN ?sVN (fun koN => ?rkN)
    (case hgN => k_is); (case hkN => k_is); (case hdN => k_is); (case haN => k_is); (case hnN => k_is); (case htN => k_is); (case hmN => k_is); (case tN => kit_is); (case pN => kit_is); (case sN => kit_is); (case rN => kit_is); (case mN => kit_is); (case vN => kit_is); (case dVN => k_is); (case sVN => k_is)
    refine' SqP.with_is (x := "is_whole") (st := SqP.s_is_whole) (ps := ["thing"]) KX G ?a_is_whole ?l_is_whole ?c_is_whole ?k_is_whole (fun _ _ _ _ _ _ us hl => match us, hl with | [_], _ => rfl) (fun D_is_whole => ?r_is_whole)
    (case a_is_whole => k_is); (case l_is_whole => k_is); (case c_is_whole => k_is); (case k_is_whole => k_is)
    refine' SqP.with_is (x := "are_wholes") (st := SqP.s_are_wholes) (ps := ["thing", "many"]) KX G ?a_are_wholes ?l_are_wholes ?c_are_wholes ?k_are_wholes (fun _ _ _ _ _ _ us hl => match us, hl with | [_, _], _ => rfl) (fun D_are_wholes => ?r_are_wholes)
    (case a_are_wholes => k_is); (case l_are_wholes => k_is); (case c_are_wholes => k_is); (case k_are_wholes => k_is)
    refine' SqP.with_is (x := "common") (st := SqP.s_common) (ps := ["one", "other"]) KX G ?a_common ?l_common ?c_common ?k_common (fun _ _ _ _ _ _ us hl => match us, hl with | [_, _], _ => rfl) (fun D_common => ?r_common)
    (case a_common => k_is); (case l_common => k_is); (case c_common => k_is); (case k_common => k_is)
    refine' SqP.with_is (x := "is_triple") (st := SqP.s_is_triple) (ps := ["thing"]) KX G ?a_is_triple ?l_is_triple ?c_is_triple ?k_is_triple (fun _ _ _ _ _ _ us hl => match us, hl with | [_], _ => rfl) (fun D_is_triple => ?r_is_triple)
    (case a_is_triple => k_is); (case l_is_triple => k_is); (case c_is_triple => k_is); (case k_is_triple => k_is)
    refine' SqP.with_is (x := "is_pair") (st := SqP.s_is_pair) (ps := ["thing"]) KX G ?a_is_pair ?l_is_pair ?c_is_pair ?k_is_pair (fun _ _ _ _ _ _ us hl => match us, hl with | [_], _ => rfl) (fun D_is_pair => ?r_is_pair)
    (case a_is_pair => k_is); (case l_is_pair => k_is); (case c_is_pair => k_is); (case k_is_pair => k_is)
    refine' SqP.with_is (x := "check_triple") (st := SqP.s_check_triple) (ps := ["triple"]) KX G ?a_check_triple ?l_check_triple ?c_check_triple ?k_check_triple (fun _ _ _ _ _ _ us hl => match us, hl with | [_], _ => rfl) (fun D_check_triple => ?r_check_triple)
    (case a_check_triple => k_is); (case l_check_triple => k_is); (case c_check_triple => k_is); (case k_check_triple => k_is)
    refine' SqP.with_is (x := "root_of") (st := SqP.s_root_of) (ps := ["number"]) KX G ?a_root_of ?l_root_of ?c_root_of ?k_root_of (fun _ _ _ _ _ _ us hl => match us, hl with | [_], _ => rfl) (fun D_root_of => ?r_root_of)
    (case a_root_of => k_is); (case l_root_of => k_is); (case c_root_of => k_is); (case k_root_of => k_is)
    refine' SqP.with_is (x := "pair_by") (st := SqP.s_pair_by) (ps := ["triple"]) KX G ?a_pair_by ?l_pair_by ?c_pair_by ?k_pair_by (fun _ _ _ _ _ _ us hl => match us, hl with | [_], _ => rfl) (fun D_pair_by => ?r_pair_by)
    (case a_pair_by => k_is); (case l_pair_by => k_is); (case c_pair_by => k_is); (case k_pair_by => k_is)
    refine' SqP.with_is (x := "pair_of") (st := SqP.s_pair_of) (ps := ["triple"]) KX G ?a_pair_of ?l_pair_of ?c_pair_of ?k_pair_of (fun _ _ _ _ _ _ us hl => match us, hl with | [_], _ => rfl) (fun D_pair_of => ?r_pair_of)
    (case a_pair_of => k_is); (case l_pair_of => k_is); (case c_pair_of => k_is); (case k_pair_of => k_is)
    refine' SqP.with_is (x := "triple_by") (st := SqP.s_triple_by) (ps := ["pair"]) KX G ?a_triple_by ?l_triple_by ?c_triple_by ?k_triple_by (fun _ _ _ _ _ _ us hl => match us, hl with | [_], _ => rfl) (fun D_triple_by => ?r_triple_by)
    (case a_triple_by => k_is); (case l_triple_by => k_is); (case c_triple_by => k_is); (case k_triple_by => k_is)
    refine' SqP.with_is (x := "triple_of") (st := SqP.s_triple_of) (ps := ["pair"]) KX G ?a_triple_of ?l_triple_of ?c_triple_of ?k_triple_of (fun _ _ _ _ _ _ us hl => match us, hl with | [_], _ => rfl) (fun D_triple_of => ?r_triple_of)
    (case a_triple_of => k_is); (case l_triple_of => k_is); (case c_triple_of => k_is); (case k_triple_of => k_is)
    refine' SqP.with_is (x := "led") (st := SqP.s_led) (ps := ["pair", "step", "often"]) KX G ?a_led ?l_led ?c_led ?k_led (fun _ _ _ _ _ _ us hl => match us, hl with | [_, _, _], _ => rfl) (fun D_led => ?r_led)
    (case a_led => k_is); (case l_led => k_is); (case c_led => k_is); (case k_led => k_is)
    refine' SqP.with_is (x := "last_of") (st := SqP.s_last_of) (ps := ["pair"]) KX G ?a_last_of ?l_last_of ?c_last_of ?k_last_of (fun _ _ _ _ _ _ us hl => match us, hl with | [_], _ => rfl) (fun D_last_of => ?r_last_of)
    (case a_last_of => k_is); (case l_last_of => k_is); (case c_last_of => k_is); (case k_last_of => k_is)
    refine' SqP.with_is (x := "back") (st := SqP.s_back) (ps := ["triple"]) KX G ?a_back ?l_back ?c_back ?k_back (fun _ _ _ _ _ _ us hl => match us, hl with | [_], _ => rfl) (fun D_back => ?r_back)
    (case a_back => k_is); (case l_back => k_is); (case c_back => k_is); (case k_back => k_is)
    refine' SqP.with_is (x := "is_part") (st := SqP.s_is_part) (ps := ["thing"]) KX G ?a_is_part ?l_is_part ?c_is_part ?k_is_part (fun _ _ _ _ _ _ us hl => match us, hl with | [_], _ => rfl) (fun D_is_part => ?r_is_part)
    (case a_is_part => k_is); (case l_is_part => k_is); (case c_is_part => k_is); (case k_is_part => k_is)
    refine' SqP.with_is (x := "by_row") (st := SqP.s_by_row) (ps := ["row"]) KX G ?a_by_row ?l_by_row ?c_by_row ?k_by_row (fun _ _ _ _ _ _ us hl => match us, hl with | [_], _ => rfl) (fun D_by_row => ?r_by_row)
    (case a_by_row => k_is); (case l_by_row => k_is); (case c_by_row => k_is); (case k_by_row => k_is)
    refine' SqP.with_is (x := "row_of") (st := SqP.s_row_of) (ps := ["triple"]) KX G ?a_row_of ?l_row_of ?c_row_of ?k_row_of (fun _ _ _ _ _ _ us hl => match us, hl with | [_], _ => rfl) (fun D_row_of => ?r_row_of)
    (case a_row_of => k_is); (case l_row_of => k_is); (case c_row_of => k_is); (case k_row_of => k_is)
    refine' SqP.with_is (x := "stepped") (st := SqP.s_stepped) (ps := ["triple", "step"]) KX G ?a_stepped ?l_stepped ?c_stepped ?k_stepped (fun _ _ _ _ _ _ us hl => match us, hl with | [_, _], _ => rfl) (fun D_stepped => ?r_stepped)
    (case a_stepped => k_is); (case l_stepped => k_is); (case c_stepped => k_is); (case k_stepped => k_is)
    refine' SqP.with_is (x := "check_number") (st := SqP.s_check_number) (ps := ["number"]) KX G ?a_check_number ?l_check_number ?c_check_number ?k_check_number (fun _ _ _ _ _ _ us hl => match us, hl with | [_], _ => rfl) (fun D_check_number => ?r_check_number)
    (case a_check_number => k_is); (case l_check_number => k_is); (case c_check_number => k_is); (case k_check_number => k_is)
    refine' SqP.with_is (x := "longest") (st := SqP.s_longest) (ps := ["number"]) KX G ?a_longest ?l_longest ?c_longest ?k_longest (fun _ _ _ _ _ _ us hl => match us, hl with | [_], _ => rfl) (fun D_longest => ?r_longest)
    (case a_longest => k_is); (case l_longest => k_is); (case c_longest => k_is); (case k_longest => k_is)
    refine' SqP.with_is (x := "leg") (st := SqP.s_leg) (ps := ["number"]) KX G ?a_leg ?l_leg ?c_leg ?k_leg (fun _ _ _ _ _ _ us hl => match us, hl with | [_], _ => rfl) (fun D_leg => ?r_leg)
    (case a_leg => k_is); (case l_leg => k_is); (case c_leg => k_is); (case k_leg => k_is)
    refine' SqP.with_is (x := "_law_cell_at") (st := SqP.s__law_cell_at) (ps := ["_law_script", "_law_k"]) KX G ?a__law_cell_at ?l__law_cell_at ?c__law_cell_at ?k__law_cell_at (fun _ _ _ _ _ _ us hl => match us, hl with | [_, _], _ => rfl) (fun D__law_cell_at => ?r__law_cell_at)
    (case a__law_cell_at => k_is); (case l__law_cell_at => k_is); (case c__law_cell_at => k_is); (case k__law_cell_at => k_is)
    refine' SqP.with_is (x := "_law_draw") (st := SqP.s__law_draw) (ps := ["_law_cell", "_law_k", "_law_many"]) KX G ?a__law_draw ?l__law_draw ?c__law_draw ?k__law_draw (fun _ _ _ _ _ _ us hl => match us, hl with | [_, _, _], _ => rfl) (fun D__law_draw => ?r__law_draw)
    (case a__law_draw => k_is); (case l__law_draw => k_is); (case c__law_draw => k_is); (case k__law_draw => k_is)
    refine' SqP.with_is (x := "_law_value") (st := SqP.s__law_value) (ps := ["_law_cell", "_law_k", "_law_limit"]) KX G ?a__law_value ?l__law_value ?c__law_value ?k__law_value (fun _ _ _ _ _ _ us hl => match us, hl with | [_, _, _], _ => rfl) (fun D__law_value => ?r__law_value)
    (case a__law_value => k_is); (case l__law_value => k_is); (case c__law_value => k_is); (case k__law_value => k_is)
    refine' SqP.with_is (x := "_law_row") (st := SqP.s__law_row) (ps := ["_law_script", "_law_begin"]) KX G ?a__law_row ?l__law_row ?c__law_row ?k__law_row (fun _ _ _ _ _ _ us hl => match us, hl with | [_, _], _ => rfl) (fun D__law_row => ?r__law_row)
    (case a__law_row => k_is); (case l__law_row => k_is); (case c__law_row => k_is); (case k__law_row => k_is)
    refine' SqP.with_is (x := "_law_led") (st := SqP.s__law_led) (ps := ["_law_pair", "_law_step", "_law_often"]) KX G ?a__law_led ?l__law_led ?c__law_led ?k__law_led (fun _ _ _ _ _ _ us hl => match us, hl with | [_, _, _], _ => rfl) (fun D__law_led => ?r__law_led)
    (case a__law_led => k_is); (case l__law_led => k_is); (case c__law_led => k_is); (case k__law_led => k_is)
    refine' SqP.with_is (x := "_law_behind") (st := SqP.s__law_behind) (ps := ["_law_row_here"]) KX G ?a__law_behind ?l__law_behind ?c__law_behind ?k__law_behind (fun _ _ _ _ _ _ us hl => match us, hl with | [_], _ => rfl) (fun D__law_behind => ?r__law_behind)
    (case a__law_behind => k_is); (case l__law_behind => k_is); (case c__law_behind => k_is); (case k__law_behind => k_is)
    refine' SqP.with_is (x := "_law_triple") (st := SqP.s__law_triple) (ps := ["_law_pair"]) KX G ?a__law_triple ?l__law_triple ?c__law_triple ?k__law_triple (fun _ _ _ _ _ _ us hl => match us, hl with | [_], _ => rfl) (fun D__law_triple => ?r__law_triple)
    (case a__law_triple => k_is); (case l__law_triple => k_is); (case c__law_triple => k_is); (case k__law_triple => k_is)
    refine' SqP.with_is (x := "_law_kinds") (st := SqP.s__law_kinds) (ps := ["_law_error"]) KX G ?a__law_kinds ?l__law_kinds ?c__law_kinds ?k__law_kinds (fun _ _ _ _ _ _ us hl => match us, hl with | [_], _ => rfl) (fun D__law_kinds => ?r__law_kinds)
    (case a__law_kinds => k_is); (case l__law_kinds => k_is); (case c__law_kinds => k_is); (case k__law_kinds => k_is)
    refine' SqP.with_is (x := "_law_with_triple") (st := SqP.s__law_with_triple) (ps := ["_law_door", "_law_triple_here"]) KX G ?a__law_with_triple ?l__law_with_triple ?c__law_with_triple ?k__law_with_triple (fun _ _ _ _ _ _ us hl => match us, hl with | [_, _], _ => rfl) (fun D__law_with_triple => ?r__law_with_triple)
    (case a__law_with_triple => k_is); (case l__law_with_triple => k_is); (case c__law_with_triple => k_is); (case k__law_with_triple => k_is)
    refine' SqP.with_is (x := "_law_with_pair") (st := SqP.s__law_with_pair) (ps := ["_law_door", "_law_pair"]) KX G ?a__law_with_pair ?l__law_with_pair ?c__law_with_pair ?k__law_with_pair (fun _ _ _ _ _ _ us hl => match us, hl with | [_, _], _ => rfl) (fun D__law_with_pair => ?r__law_with_pair)
    (case a__law_with_pair => k_is); (case l__law_with_pair => k_is); (case c__law_with_pair => k_is); (case k__law_with_pair => k_is)
    refine' SqP.with_is (x := "_law_with_step") (st := SqP.s__law_with_step) (ps := ["_law_triple_here", "_law_step"]) KX G ?a__law_with_step ?l__law_with_step ?c__law_with_step ?k__law_with_step (fun _ _ _ _ _ _ us hl => match us, hl with | [_, _], _ => rfl) (fun D__law_with_step => ?r__law_with_step)
    (case a__law_with_step => k_is); (case l__law_with_step => k_is); (case c__law_with_step => k_is); (case k__law_with_step => k_is)
    refine' SqP.with_is (x := "_law_with_row") (st := SqP.s__law_with_row) (ps := ["_law_door", "_law_row_here"]) KX G ?a__law_with_row ?l__law_with_row ?c__law_with_row ?k__law_with_row (fun _ _ _ _ _ _ us hl => match us, hl with | [_, _], _ => rfl) (fun D__law_with_row => ?r__law_with_row)
    (case a__law_with_row => k_is); (case l__law_with_row => k_is); (case c__law_with_row => k_is); (case k__law_with_row => k_is)
    refine' SqP.with_is (x := "_law_with_number") (st := SqP.s__law_with_number) (ps := ["_law_door", "_law_number"]) KX G ?a__law_with_number ?l__law_with_number ?c__law_with_number ?k__law_with_number (fun _ _ _ _ _ _ us hl => match us, hl with | [_, _], _ => rfl) (fun D__law_with_number => ?r__law_with_number)
    (case a__law_with_number => k_is); (case l__law_with_number => k_is); (case c__law_with_number => k_is); (case k__law_with_number => k_is)
    refine' SqP.with_is (x := "_law_told") (st := SqP.s__law_told) (ps := ["_law_ask", "_law_one", "_law_other"]) KX G ?a__law_told ?l__law_told ?c__law_told ?k__law_told (fun _ _ _ _ _ _ us hl => match us, hl with | [_, _, _], _ => rfl) (fun D__law_told => ?r__law_told)
    (case a__law_told => k_is); (case l__law_told => k_is); (case c__law_told => k_is); (case k__law_told => k_is)
    refine' SqP.with_is (x := "_law_all") (st := SqP.s__law_all) (ps := ["_law_ask", "_law_one", "_law_things", "_law_due"]) KX G ?a__law_all ?l__law_all ?c__law_all ?k__law_all (fun _ _ _ _ _ _ us hl => match us, hl with | [_, _, _, _], _ => rfl) (fun D__law_all => ?r__law_all)
    (case a__law_all => k_is); (case l__law_all => k_is); (case c__law_all => k_is); (case k__law_all => k_is)
    refine' SqP.with_is (x := "_law_bad_rows") (st := SqP.s__law_bad_rows) (ps := ["_law_row_here", "_law_far"]) KX G ?a__law_bad_rows ?l__law_bad_rows ?c__law_bad_rows ?k__law_bad_rows (fun _ _ _ _ _ _ us hl => match us, hl with | [_, _], _ => rfl) (fun D__law_bad_rows => ?r__law_bad_rows)
    (case a__law_bad_rows => k_is); (case l__law_bad_rows => k_is); (case c__law_bad_rows => k_is); (case k__law_bad_rows => k_is)
    refine' SqP.with_law (x := "law") (y := "_law_script") (st := SqP.s_law) KX G hmg ?a_law ?l_law ?c_law ?k_law (fun _ _ _ _ _ _ us hl => match us, hl with | [_], _ => rfl) (fun DL => ?r_law)
    (case a_law => k_is); (case l_law => k_is); (case c_law => k_is); (case k_law => k_is)
    obtain ⟨fd, FL, bL⟩ := DL
    obtain ⟨ftriple, fdtriple, Ftriple, btriple, gtriple⟩ := id D__law_with_triple
    obtain ⟨fpair, fdpair, Fpair, bpair, gpair⟩ := id D__law_with_pair
    obtain ⟨fstep, fdstep, Fstep, bstep, gstep⟩ := id D__law_with_step
    obtain ⟨frow, fdrow, Frow, brow, grow⟩ := id D__law_with_row
    obtain ⟨fnumber, fdnumber, Fnumber, bnumber, gnumber⟩ := id D__law_with_number
    refine ⟨fd, bL, fun base hB hN seer => ?_⟩
    have H_is_whole := SqP.ok_is_whole (P := PySem.Challenge.rw_squaretree_k05_refused.prog) (w := w) (mg := mg) (base := base) B D_is_whole
    have H_are_wholes := SqP.ok_are_wholes (P := PySem.Challenge.rw_squaretree_k05_refused.prog) (w := w) (mg := mg) (base := base) B D_are_wholes H_is_whole
    have H_common := SqP.ok_common (P := PySem.Challenge.rw_squaretree_k05_refused.prog) (w := w) (mg := mg) (base := base) D_common
    have H_is_triple := SqP.ok_is_triple (P := PySem.Challenge.rw_squaretree_k05_refused.prog) (w := w) (mg := mg) (base := base) D_is_triple H_are_wholes H_common
    have H_is_pair := SqP.ok_is_pair (P := PySem.Challenge.rw_squaretree_k05_refused.prog) (w := w) (mg := mg) (base := base) D_is_pair H_are_wholes H_common
    have H_check_triple := SqP.ok_check_triple (P := PySem.Challenge.rw_squaretree_k05_refused.prog) (w := w) (mg := mg) (base := base) D_check_triple H_is_triple
    have H_root_of := SqP.ok_root_of (P := PySem.Challenge.rw_squaretree_k05_refused.prog) (w := w) (mg := mg) (base := base) seer rfl D_root_of
    have H_pair_by := SqP.ok_pair_by (P := PySem.Challenge.rw_squaretree_k05_refused.prog) (w := w) (mg := mg) (base := base) D_pair_by H_root_of
    have H_triple_by := SqP.ok_triple_by (P := PySem.Challenge.rw_squaretree_k05_refused.prog) (w := w) (mg := mg) (base := base) D_triple_by
    have H_led := SqP.ok_led (P := PySem.Challenge.rw_squaretree_k05_refused.prog) (w := w) (mg := mg) (base := base) B D_led
    have H_last_of := SqP.ok_last_of (P := PySem.Challenge.rw_squaretree_k05_refused.prog) (w := w) (mg := mg) (base := base) seer rfl D_last_of
    have H_is_part := SqP.ok_is_part (P := PySem.Challenge.rw_squaretree_k05_refused.prog) (w := w) (mg := mg) (base := base) B g_OFTEN D_is_part H_is_whole
    have H_by_row := SqP.ok_by_row (P := PySem.Challenge.rw_squaretree_k05_refused.prog) (w := w) (mg := mg) (base := base) B g_MOST_rows D_by_row H_is_part H_led H_triple_by
    have H_row_of := SqP.ok_row_of (P := PySem.Challenge.rw_squaretree_k05_refused.prog) (w := w) (mg := mg) (base := base) B D_row_of H_check_triple H_pair_by H_last_of
    have H__law_cell_at := SqP.ok__law_cell_at (P := PySem.Challenge.rw_squaretree_k05_refused.prog) (w := w) (mg := mg) (base := base) B D__law_cell_at
    have H__law_draw := SqP.ok__law_draw (P := PySem.Challenge.rw_squaretree_k05_refused.prog) (w := w) (mg := mg) (base := base) D__law_draw
    have H__law_value := SqP.ok__law_value (P := PySem.Challenge.rw_squaretree_k05_refused.prog) (w := w) (mg := mg) (base := base) D__law_value H__law_draw
    have H__law_row := SqP.ok__law_row (P := PySem.Challenge.rw_squaretree_k05_refused.prog) (w := w) (mg := mg) (base := base) B D__law_row H__law_value
    have H__law_led := SqP.ok__law_led (P := PySem.Challenge.rw_squaretree_k05_refused.prog) (w := w) (mg := mg) (base := base) B D__law_led
    have H__law_behind := SqP.ok__law_behind (P := PySem.Challenge.rw_squaretree_k05_refused.prog) (w := w) (mg := mg) (base := base) D__law_behind H__law_led
    have H__law_triple := SqP.ok__law_triple (P := PySem.Challenge.rw_squaretree_k05_refused.prog) (w := w) (mg := mg) (base := base) D__law_triple
    have H_are_no := SqP.ok_are_no (P := PySem.Challenge.rw_squaretree_k05_refused.prog) (w := w) (mg := mg) (base := base) B D_are_wholes H_is_whole
    have H_is_triple_no := SqP.ok_is_triple_no (P := PySem.Challenge.rw_squaretree_k05_refused.prog) (w := w) (mg := mg) (base := base) D_is_triple H_are_no H_common
    have H_is_pair_no := SqP.ok_is_pair_no (P := PySem.Challenge.rw_squaretree_k05_refused.prog) (w := w) (mg := mg) (base := base) D_is_pair H_are_no H_common
    have H_check_triple_x := SqP.ok_check_triple_x (P := PySem.Challenge.rw_squaretree_k05_refused.prog) (w := w) (mg := mg) (base := base) x_BadTriple D_check_triple H_is_triple H_is_triple_no
    have H_pair_of_x := SqP.ok_pair_of_x (P := PySem.Challenge.rw_squaretree_k05_refused.prog) (w := w) (mg := mg) (base := base) D_pair_of H_check_triple_x
    have H_back_x := SqP.ok_back_x (P := PySem.Challenge.rw_squaretree_k05_refused.prog) (w := w) (mg := mg) (base := base) D_back H_check_triple_x
    have H_row_of_x := SqP.ok_row_of_x (P := PySem.Challenge.rw_squaretree_k05_refused.prog) (w := w) (mg := mg) (base := base) D_row_of H_check_triple_x
    have H_stepped_x := SqP.ok_stepped_x (P := PySem.Challenge.rw_squaretree_k05_refused.prog) (w := w) (mg := mg) (base := base) B x_BadStep D_stepped H_check_triple_x H_check_triple H_is_whole
    have H_triple_of_x := SqP.ok_triple_of_x (P := PySem.Challenge.rw_squaretree_k05_refused.prog) (w := w) (mg := mg) (base := base) x_BadPair D_triple_of H_is_pair H_is_pair_no
    have H_is_part_all := SqP.ok_is_part_all (P := PySem.Challenge.rw_squaretree_k05_refused.prog) (w := w) (mg := mg) (base := base) B g_OFTEN D_is_part H_is_whole
    have H_by_row_x := SqP.ok_by_row_x (P := PySem.Challenge.rw_squaretree_k05_refused.prog) (w := w) (mg := mg) (base := base) B g_MOST_rows x_BadRow D_by_row H_is_part_all
    have H_check_number_x := SqP.ok_check_number_x (P := PySem.Challenge.rw_squaretree_k05_refused.prog) (w := w) (mg := mg) (base := base) g_MOST_sides x_BadNumber D_check_number H_is_whole
    have H_longest_x := SqP.ok_longest_x (P := PySem.Challenge.rw_squaretree_k05_refused.prog) (w := w) (mg := mg) (base := base) D_longest H_check_number_x
    have H_leg_x := SqP.ok_leg_x (P := PySem.Challenge.rw_squaretree_k05_refused.prog) (w := w) (mg := mg) (base := base) D_leg H_check_number_x
    have H__law_kinds := SqP.ok__law_kinds (P := PySem.Challenge.rw_squaretree_k05_refused.prog) (w := w) (mg := mg) (base := base) (c := SqP.esC koT) B z_verr x_BadTriple x_BadPair x_BadStep x_BadRow x_BadNumber D__law_kinds
    have H_wt := SqP.ok__law_with_triple_x (P := PySem.Challenge.rw_squaretree_k05_refused.prog) (w := w) (mg := mg) (base := base) D__law_with_triple H_pair_of_x H_stepped_x H_back_x H_row_of_x
    have H_wp := SqP.ok__law_with_pair_x (P := PySem.Challenge.rw_squaretree_k05_refused.prog) (w := w) (mg := mg) (base := base) D__law_with_pair H_triple_of_x
    have H_ws := SqP.ok__law_with_step_x (P := PySem.Challenge.rw_squaretree_k05_refused.prog) (w := w) (mg := mg) (base := base) D__law_with_step H_stepped_x
    have H_wr := SqP.ok__law_with_row_x (P := PySem.Challenge.rw_squaretree_k05_refused.prog) (w := w) (mg := mg) (base := base) D__law_with_row H_by_row_x
    have H_wn := SqP.ok__law_with_number_x (P := PySem.Challenge.rw_squaretree_k05_refused.prog) (w := w) (mg := mg) (base := base) D__law_with_number H_longest_x H_leg_x
    have H__law_told := SqP.ok__law_told (P := PySem.Challenge.rw_squaretree_k05_refused.prog) (w := w) (mg := mg) (base := base) (c := SqP.esC koT) x_TripleError D__law_told H__law_kinds
    have H__law_all := SqP.ok__law_all (P := PySem.Challenge.rw_squaretree_k05_refused.prog) (w := w) (mg := mg) (base := base) (c := SqP.esC koT) B D__law_all H__law_told
    have H__law_bad_rows := SqP.ok__law_bad_rows (P := PySem.Challenge.rw_squaretree_k05_refused.prog) (w := w) (mg := mg) (base := base) B D__law_bad_rows
    exact SqP.ok_law (c := SqP.esC koT) B koT koP koS koR koN gtriple gpair gstep grow gnumber FL H__law_cell_at H__law_value H__law_row H__law_behind H__law_triple H__law_all H__law_bad_rows H_by_row H_row_of H_wt H_wp H_ws H_wr H_wn
