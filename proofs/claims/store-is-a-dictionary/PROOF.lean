import PyProof.Rows.All
import Wide.All
import OpenK.AllK
import Wide.FinOn
import HandS.ForMost
import HandS.Conv
import HandS.More
import HandS.Evl
import PySem.Challenge.RW_fewestlines_k40_whole_store_is_a_plain_d
set_option Elab.async false
set_option linter.all false
set_option maxRecDepth 100000
set_option maxHeartbeats 4000000
/-! The mathematics of the fitter: lines near points, hulls. Plain Lean. -/
namespace Fw
structure Cn where
  x : Int
  y : Int
  i : Int
abbrev Pt := Int × Int
theorem lin1 {A B b x u : Int} (hb : 0 ≤ A * b + B) (hx : 0 ≤ A * x + B) (h1 : b ≤ u) (h2 : u ≤ x) : 0 ≤ A * u + B := by
  by_cases hA : 0 ≤ A
  · have := Int.mul_le_mul_of_nonneg_left h1 hA
    omega
  · have := Int.mul_le_mul_of_nonpos_left (a := A) (by omega) h2
    omega
theorem lin2 {A B b x u : Int} (hb : 0 ≤ A * b + B) (hx : A * x + B ≤ 0) (h1 : b < x) (h2 : u ≤ b) : 0 ≤ A * u + B := by
  by_cases hA : 0 < A
  · have := Int.mul_lt_mul_of_pos_left h1 hA
    omega
  · have := Int.mul_le_mul_of_nonpos_left (a := A) (by omega) h2
    omega
theorem cancel {a b d : Int} (hd : 0 < d) (h : a * d ≤ b * d) : a ≤ b := Int.le_of_mul_le_mul_right h hd
/-- the line through two corners runs near the points -/
def Feas (e : Int) (a b : Cn) (pts : List Pt) : Prop :=
  a.x < b.x ∧ ∀ z ∈ pts, (z.2 - e) * (b.x - a.x) ≤ (b.y - a.y) * (z.1 - a.x) + a.y * (b.x - a.x) ∧
    (b.y - a.y) * (z.1 - a.x) + a.y * (b.x - a.x) ≤ (z.2 + e) * (b.x - a.x)
def IsTop (e : Int) (pts : List Pt) (c : Cn) : Prop := ∃ z ∈ pts, c.x = z.1 ∧ c.y = z.2 + e
def IsBot (e : Int) (pts : List Pt) (c : Cn) : Prop := ∃ z ∈ pts, c.x = z.1 ∧ c.y = z.2 - e
/-- rise_over(one, other) is below rise_over(..) : r1 / w1 < r2 / w2 -/
abbrev lt2 (r1 w1 r2 w2 : Int) : Prop := r1 * w2 < r2 * w1
structure HullB (e : Int) (pts : List Pt) (cs : List Cn) : Prop where
  ne : cs ≠ []
  len : cs.length ≤ pts.length
  mem : ∀ c ∈ cs, IsBot e pts c
  asc : cs.Pairwise (fun a b => a.x < b.x)
  cov : ∀ p q d : Int, 0 ≤ d → (∀ c ∈ cs, c.y * d ≤ p * c.x + q) → ∀ z ∈ pts, (z.2 - e) * d ≤ p * z.1 + q
structure HullT (e : Int) (pts : List Pt) (cs : List Cn) : Prop where
  ne : cs ≠ []
  len : cs.length ≤ pts.length
  mem : ∀ c ∈ cs, IsTop e pts c
  asc : cs.Pairwise (fun a b => a.x < b.x)
  cov : ∀ p q d : Int, 0 ≤ d → (∀ c ∈ cs, p * c.x + q ≤ c.y * d) → ∀ z ∈ pts, p * z.1 + q ≤ (z.2 + e) * d
/-! ### popping -/
structure PopB (e : Int) (pts : List Pt) (b : Cn) (cs : List Cn) : Prop where
  len : cs.length ≤ pts.length
  mem : ∀ c ∈ cs, IsBot e pts c
  asc : cs.Pairwise (fun a b => a.x < b.x)
  lt : ∀ c ∈ cs, c.x < b.x
  cov : ∀ p q d : Int, 0 ≤ d → (∀ c ∈ cs, c.y * d ≤ p * c.x + q) → b.y * d ≤ p * b.x + q → ∀ z ∈ pts, (z.2 - e) * d ≤ p * z.1 + q
structure PopT (e : Int) (pts : List Pt) (b : Cn) (cs : List Cn) : Prop where
  len : cs.length ≤ pts.length
  mem : ∀ c ∈ cs, IsTop e pts c
  asc : cs.Pairwise (fun a b => a.x < b.x)
  lt : ∀ c ∈ cs, c.x < b.x
  cov : ∀ p q d : Int, 0 ≤ d → (∀ c ∈ cs, p * c.x + q ≤ c.y * d) → p * b.x + q ≤ b.y * d → ∀ z ∈ pts, p * z.1 + q ≤ (z.2 + e) * d
/-- turn(two, one, b) -/
def turnI (a b c : Cn) : Int := (b.x - a.x) * (c.y - a.y) - (b.y - a.y) * (c.x - a.x)
theorem chordB {h1x h1y h2x h2y bx by_ d p q : Int} (h12 : h2x < h1x) (h1b : h1x < bx)
    (ht : 0 ≤ (h1x - h2x) * (by_ - h2y) - (h1y - h2y) * (bx - h2x))
    (hd : 0 ≤ d) (l2 : h2y * d ≤ p * h2x + q) (lb : by_ * d ≤ p * bx + q) : h1y * d ≤ p * h1x + q := by
  have a1 := Int.mul_le_mul_of_nonneg_left l2 (show 0 ≤ bx - h1x by omega)
  have a2 := Int.mul_le_mul_of_nonneg_left lb (show 0 ≤ h1x - h2x by omega)
  have a3 := Int.mul_nonneg ht hd
  have a4 : (bx - h2x) * (h1y * d) ≤ (bx - h2x) * (p * h1x + q) := by grind
  exact Int.le_of_mul_le_mul_left a4 (by omega)
theorem chordT {h1x h1y h2x h2y bx by_ d p q : Int} (h12 : h2x < h1x) (h1b : h1x < bx)
    (ht : (h1x - h2x) * (by_ - h2y) - (h1y - h2y) * (bx - h2x) ≤ 0)
    (hd : 0 ≤ d) (l2 : p * h2x + q ≤ h2y * d) (lb : p * bx + q ≤ by_ * d) : p * h1x + q ≤ h1y * d := by
  have a1 := Int.mul_le_mul_of_nonneg_left l2 (show 0 ≤ bx - h1x by omega)
  have a2 := Int.mul_le_mul_of_nonneg_left lb (show 0 ≤ h1x - h2x by omega)
  have a3 := Int.mul_le_mul_of_nonneg_right ht hd
  have a4 : (bx - h2x) * (p * h1x + q) ≤ (bx - h2x) * (h1y * d) := by grind
  exact Int.le_of_mul_le_mul_left a4 (by omega)
theorem pw_last {xs : List Cn} {a b : Cn} (h : (xs ++ [a, b]).Pairwise (fun a b => a.x < b.x)) : a.x < b.x := by
  have := (List.pairwise_append.mp h).2.1
  simp at this
  exact this
theorem pw_cut {xs : List Cn} {a b : Cn} (h : (xs ++ [a, b]).Pairwise (fun a b => a.x < b.x)) : (xs ++ [a]).Pairwise (fun a b => a.x < b.x) := by
  have e : xs ++ [a, b] = (xs ++ [a]) ++ [b] := by simp
  rw [e] at h
  exact (List.pairwise_append.mp h).1
theorem popB_step {e : Int} {pts : List Pt} {b h2 h1 : Cn} {xs : List Cn} (P : PopB e pts b (xs ++ [h2, h1])) (ht : 0 ≤ turnI h2 h1 b) : PopB e pts b (xs ++ [h2]) := by
  have hin : ∀ c ∈ xs ++ [h2], c ∈ xs ++ [h2, h1] := fun c hc => by simp at hc ⊢; rcases hc with h | h <;> simp [h]
  refine ⟨by have := P.len; simp at this ⊢; omega, fun c hc => P.mem c (hin c hc), pw_cut P.asc, fun c hc => P.lt c (hin c hc), fun p q d hd hl hb => P.cov p q d hd (fun c hc => ?_) hb⟩
  have : c ∈ xs ++ [h2] ∨ c = h1 := by simp at hc ⊢; rcases hc with h | h | h <;> simp [h]
  rcases this with h | h
  · exact hl c h
  · subst h
    exact chordB (pw_last P.asc) (P.lt c (by simp)) ht hd (hl h2 (by simp)) hb
theorem popT_step {e : Int} {pts : List Pt} {b h2 h1 : Cn} {xs : List Cn} (P : PopT e pts b (xs ++ [h2, h1])) (ht : turnI h2 h1 b ≤ 0) : PopT e pts b (xs ++ [h2]) := by
  have hin : ∀ c ∈ xs ++ [h2], c ∈ xs ++ [h2, h1] := fun c hc => by simp at hc ⊢; rcases hc with h | h <;> simp [h]
  refine ⟨by have := P.len; simp at this ⊢; omega, fun c hc => P.mem c (hin c hc), pw_cut P.asc, fun c hc => P.lt c (hin c hc), fun p q d hd hl hb => P.cov p q d hd (fun c hc => ?_) hb⟩
  have : c ∈ xs ++ [h2] ∨ c = h1 := by simp at hc ⊢; rcases hc with h | h | h <;> simp [h]
  rcases this with h | h
  · exact hl c h
  · subst h
    exact chordT (pw_last P.asc) (P.lt c (by simp)) ht hd (hl h2 (by simp)) hb
theorem HullB.start {e : Int} {pts : List Pt} {cs : List Cn} {b : Cn} (h : HullB e pts cs) (hb : ∀ z ∈ pts, z.1 < b.x) : PopB e pts b cs :=
  ⟨h.len, h.mem, h.asc, fun c hc => by obtain ⟨z, hz, e1, _⟩ := h.mem c hc; rw [e1]; exact hb z hz, fun p q d hd hl _ => h.cov p q d hd hl⟩
theorem HullT.start {e : Int} {pts : List Pt} {cs : List Cn} {b : Cn} (h : HullT e pts cs) (hb : ∀ z ∈ pts, z.1 < b.x) : PopT e pts b cs :=
  ⟨h.len, h.mem, h.asc, fun c hc => by obtain ⟨z, hz, e1, _⟩ := h.mem c hc; rw [e1]; exact hb z hz, fun p q d hd hl _ => h.cov p q d hd hl⟩
theorem PopB.done {e x y i : Int} {pts : List Pt} {cs : List Cn} (h : PopB e pts ⟨x, y - e, i⟩ cs) : HullB e (pts ++ [(x, y)]) (cs ++ [⟨x, y - e, i⟩]) := by
  refine ⟨by simp, by have := h.len; simp; omega, fun c hc => ?_, ?_, fun p q d hd hl z hz => ?_⟩
  · rcases List.mem_append.mp hc with h1 | h1
    · obtain ⟨z, hz, e1, e2⟩ := h.mem c h1
      exact ⟨z, List.mem_append.mpr (.inl hz), e1, e2⟩
    · have := List.mem_singleton.mp h1
      subst this
      exact ⟨(x, y), by simp, rfl, rfl⟩
  · refine List.pairwise_append.mpr ⟨h.asc, by simp, fun a ha b hb => ?_⟩
    have := List.mem_singleton.mp hb
    subst this
    exact h.lt a ha
  · have hlast := hl ⟨x, y - e, i⟩ (by simp)
    rcases List.mem_append.mp hz with h1 | h1
    · exact h.cov p q d hd (fun c hc => hl c (List.mem_append.mpr (.inl hc))) hlast z h1
    · have := List.mem_singleton.mp h1
      subst this
      exact hlast
theorem PopT.done {e x y i : Int} {pts : List Pt} {cs : List Cn} (h : PopT e pts ⟨x, y + e, i⟩ cs) : HullT e (pts ++ [(x, y)]) (cs ++ [⟨x, y + e, i⟩]) := by
  refine ⟨by simp, by have := h.len; simp; omega, fun c hc => ?_, ?_, fun p q d hd hl z hz => ?_⟩
  · rcases List.mem_append.mp hc with h1 | h1
    · obtain ⟨z, hz, e1, e2⟩ := h.mem c h1
      exact ⟨z, List.mem_append.mpr (.inl hz), e1, e2⟩
    · have := List.mem_singleton.mp h1
      subst this
      exact ⟨(x, y), by simp, rfl, rfl⟩
  · refine List.pairwise_append.mpr ⟨h.asc, by simp, fun a ha b hb => ?_⟩
    have := List.mem_singleton.mp hb
    subst this
    exact h.lt a ha
  · have hlast := hl ⟨x, y + e, i⟩ (by simp)
    rcases List.mem_append.mp hz with h1 | h1
    · exact h.cov p q d hd (fun c hc => hl c (List.mem_append.mpr (.inl hc))) hlast z h1
    · have := List.mem_singleton.mp h1
      subst this
      exact hlast
/-! ### the steepest line -/
theorem interp_lo {R0 D0 a0x a0y p d bx by_ x u : Int} (hbx : bx < x) (hd : 0 ≤ d) (hpd : d = x - bx)
    (h1 : by_ * D0 ≤ R0 * (bx - a0x) + a0y * D0) (h2 : R0 * (x - a0x) + a0y * D0 ≤ (by_ + p) * D0) (hu : u ≤ bx) :
    (p * (u - bx) + by_ * d) * D0 ≤ (R0 * (u - a0x) + a0y * D0) * d := by
  have g1 := Int.mul_le_mul_of_nonneg_right h1 hd
  have g2 := Int.mul_le_mul_of_nonneg_right h2 hd
  subst hpd
  have := lin2 (A := R0 * (x - bx) - p * D0) (B := (a0y * D0 - R0 * a0x) * (x - bx) - (by_ * (x - bx) - p * bx) * D0) (b := bx) (x := x) (u := u) (by grind) (by grind) hbx hu
  grind
theorem interp_hi {R0 D0 a0x a0y p d bx by_ x u : Int} (hd : 0 ≤ d) (hpd : d = x - bx)
    (h1 : by_ * D0 ≤ R0 * (bx - a0x) + a0y * D0) (h2 : (by_ + p) * D0 ≤ R0 * (x - a0x) + a0y * D0) (hu : bx ≤ u) (hx : u ≤ x) :
    (p * (u - bx) + by_ * d) * D0 ≤ (R0 * (u - a0x) + a0y * D0) * d := by
  have g1 := Int.mul_le_mul_of_nonneg_right h1 hd
  have g2 := Int.mul_le_mul_of_nonneg_right h2 hd
  subst hpd
  have := lin1 (A := R0 * (x - bx) - p * D0) (B := (a0y * D0 - R0 * a0x) * (x - bx) - (by_ * (x - bx) - p * bx) * D0) (b := bx) (x := x) (u := u) (by grind) (by grind) hu hx
  grind
theorem interp_loT {R0 D0 a0x a0y p d bx by_ x u : Int} (hbx : bx < x) (hd : 0 ≤ d) (hpd : d = x - bx)
    (h1 : R0 * (bx - a0x) + a0y * D0 ≤ by_ * D0) (h2 : (by_ + p) * D0 ≤ R0 * (x - a0x) + a0y * D0) (hu : u ≤ bx) :
    (R0 * (u - a0x) + a0y * D0) * d ≤ (p * (u - bx) + by_ * d) * D0 := by
  have g1 := Int.mul_le_mul_of_nonneg_right h1 hd
  have g2 := Int.mul_le_mul_of_nonneg_right h2 hd
  subst hpd
  have := lin2 (A := p * D0 - R0 * (x - bx)) (B := (by_ * (x - bx) - p * bx) * D0 - (a0y * D0 - R0 * a0x) * (x - bx)) (b := bx) (x := x) (u := u) (by grind) (by grind) hbx hu
  grind
theorem interp_hiT {R0 D0 a0x a0y p d bx by_ x u : Int} (hd : 0 ≤ d) (hpd : d = x - bx)
    (h1 : R0 * (bx - a0x) + a0y * D0 ≤ by_ * D0) (h2 : R0 * (x - a0x) + a0y * D0 ≤ (by_ + p) * D0) (hu : bx ≤ u) (hx : u ≤ x) :
    (R0 * (u - a0x) + a0y * D0) * d ≤ (p * (u - bx) + by_ * d) * D0 := by
  have g1 := Int.mul_le_mul_of_nonneg_right h1 hd
  have g2 := Int.mul_le_mul_of_nonneg_right h2 hd
  subst hpd
  have := lin1 (A := p * D0 - R0 * (x - bx)) (B := (by_ * (x - bx) - p * bx) * D0 - (a0y * D0 - R0 * a0x) * (x - bx)) (b := bx) (x := x) (u := u) (by grind) (by grind) hu hx
  grind
/-- the height of the flattest line is at most h over x, at x -/
abbrev Under (a b : Cn) (x h : Int) : Prop := (b.y - a.y) * (x - a.x) + a.y * (b.x - a.x) ≤ h * (b.x - a.x)
abbrev Above (a b : Cn) (x h : Int) : Prop := h * (b.x - a.x) ≤ (b.y - a.y) * (x - a.x) + a.y * (b.x - a.x)
theorem steep_new {e x y i : Int} {pts : List Pt} {bots : List Cn} {f0 f1 s0 s1 best : Cn} (he : 0 ≤ e) (hx : ∀ z ∈ pts, z.1 < x)
    (F : Feas e f0 f1 pts) (N1 : Under f0 f1 x (y + e)) (S : Feas e s0 s1 pts) (ch : Above s0 s1 x (y + e))
    (hB : HullB e pts bots) (hb : best ∈ bots) (hmin : ∀ c ∈ bots, (y + e - best.y) * (x - c.x) ≤ (y + e - c.y) * (x - best.x)) :
    Feas e best ⟨x, y + e, i⟩ (pts ++ [(x, y)]) := by
  obtain ⟨zb, hzb, ebx, eby⟩ := hB.mem best hb
  have hbx : best.x < x := by rw [ebx]; exact hx zb hzb
  refine ⟨hbx, fun z hz => ?_⟩
  show (z.2 - e) * (x - best.x) ≤ (y + e - best.y) * (z.1 - best.x) + best.y * (x - best.x) ∧ (y + e - best.y) * (z.1 - best.x) + best.y * (x - best.x) ≤ (z.2 + e) * (x - best.x)
  rcases List.mem_append.mp hz with h1 | h1
  · refine ⟨?_, ?_⟩
    · have := hB.cov (y + e - best.y) (best.y * (x - best.x) - (y + e - best.y) * best.x) (x - best.x) (by omega) (fun c hc => by
        have := hmin c hc
        grind) z h1
      grind
    · have hzx := hx z h1
      by_cases hu : z.1 ≤ best.x
      · obtain ⟨hD, hF⟩ := F
        have i1 := interp_lo (R0 := f1.y - f0.y) (D0 := f1.x - f0.x) (a0x := f0.x) (a0y := f0.y) (p := y + e - best.y) (d := x - best.x) (bx := best.x) (by_ := best.y) (x := x) (u := z.1) hbx (by omega) rfl
          (by have := (hF zb hzb).1; rw [← eby, ← ebx] at this; exact this) (by rw [show best.y + (y + e - best.y) = y + e by omega]; exact N1) hu
        have i2 := Int.mul_le_mul_of_nonneg_right (hF z h1).2 (show 0 ≤ x - best.x by omega)
        exact cancel (d := f1.x - f0.x) (by omega) (by grind)
      · obtain ⟨hD, hS⟩ := S
        have i1 := interp_hi (R0 := s1.y - s0.y) (D0 := s1.x - s0.x) (a0x := s0.x) (a0y := s0.y) (p := y + e - best.y) (d := x - best.x) (bx := best.x) (by_ := best.y) (x := x) (u := z.1) (by omega) rfl
          (by have := (hS zb hzb).1; rw [← eby, ← ebx] at this; exact this) (by rw [show best.y + (y + e - best.y) = y + e by omega]; exact ch) (by omega) (by omega)
        have i2 := Int.mul_le_mul_of_nonneg_right (hS z h1).2 (show 0 ≤ x - best.x by omega)
        exact cancel (d := s1.x - s0.x) (by omega) (by grind)
  · have := List.mem_singleton.mp h1
    subst this
    have := Int.mul_nonneg he (show 0 ≤ x - best.x by omega)
    refine ⟨by grind, by grind⟩
theorem flat_new {e x y i : Int} {pts : List Pt} {tops : List Cn} {f0 f1 s0 s1 best : Cn} (he : 0 ≤ e) (hx : ∀ z ∈ pts, z.1 < x)
    (S : Feas e s0 s1 pts) (N2 : Above s0 s1 x (y - e)) (F : Feas e f0 f1 pts) (ch : Under f0 f1 x (y - e))
    (hT : HullT e pts tops) (hb : best ∈ tops) (hmax : ∀ c ∈ tops, (y - e - c.y) * (x - best.x) ≤ (y - e - best.y) * (x - c.x)) :
    Feas e best ⟨x, y - e, i⟩ (pts ++ [(x, y)]) := by
  obtain ⟨zb, hzb, ebx, eby⟩ := hT.mem best hb
  have hbx : best.x < x := by rw [ebx]; exact hx zb hzb
  refine ⟨hbx, fun z hz => ?_⟩
  show (z.2 - e) * (x - best.x) ≤ (y - e - best.y) * (z.1 - best.x) + best.y * (x - best.x) ∧ (y - e - best.y) * (z.1 - best.x) + best.y * (x - best.x) ≤ (z.2 + e) * (x - best.x)
  rcases List.mem_append.mp hz with h1 | h1
  · refine ⟨?_, ?_⟩
    · have hzx := hx z h1
      by_cases hu : z.1 ≤ best.x
      · obtain ⟨hD, hS⟩ := S
        have i1 := interp_loT (R0 := s1.y - s0.y) (D0 := s1.x - s0.x) (a0x := s0.x) (a0y := s0.y) (p := y - e - best.y) (d := x - best.x) (bx := best.x) (by_ := best.y) (x := x) (u := z.1) hbx (by omega) rfl
          (by have := (hS zb hzb).2; rw [← eby, ← ebx] at this; exact this) (by rw [show best.y + (y - e - best.y) = y - e by omega]; exact N2) hu
        have i2 := Int.mul_le_mul_of_nonneg_right (hS z h1).1 (show 0 ≤ x - best.x by omega)
        exact cancel (d := s1.x - s0.x) (by omega) (by grind)
      · obtain ⟨hD, hF⟩ := F
        have i1 := interp_hiT (R0 := f1.y - f0.y) (D0 := f1.x - f0.x) (a0x := f0.x) (a0y := f0.y) (p := y - e - best.y) (d := x - best.x) (bx := best.x) (by_ := best.y) (x := x) (u := z.1) (by omega) rfl
          (by have := (hF zb hzb).2; rw [← eby, ← ebx] at this; exact this) (by rw [show best.y + (y - e - best.y) = y - e by omega]; exact ch) (by omega) (by omega)
        have i2 := Int.mul_le_mul_of_nonneg_right (hF z h1).1 (show 0 ≤ x - best.x by omega)
        exact cancel (d := f1.x - f0.x) (by omega) (by grind)
    · have := hT.cov (y - e - best.y) (best.y * (x - best.x) - (y - e - best.y) * best.x) (x - best.x) (by omega) (fun c hc => by
        have := hmax c hc
        grind) z h1
      grind
  · have := List.mem_singleton.mp h1
    subst this
    have := Int.mul_nonneg he (show 0 ≤ x - best.x by omega)
    refine ⟨by grind, by grind⟩
/-! ### the two lines, one point more -/
def StOk (e : Int) (pts : List Pt) (a b : Cn) : Prop := Feas e a b pts ∧ IsBot e pts a ∧ IsTop e pts b
def FlOk (e : Int) (pts : List Pt) (a b : Cn) : Prop := Feas e a b pts ∧ IsTop e pts a ∧ IsBot e pts b
theorem IsTop.more {e : Int} {pts : List Pt} {c : Cn} (z : Pt) (h : IsTop e pts c) : IsTop e (pts ++ [z]) c := by
  obtain ⟨w, hw, a, b⟩ := h
  exact ⟨w, List.mem_append.mpr (.inl hw), a, b⟩
theorem IsBot.more {e : Int} {pts : List Pt} {c : Cn} (z : Pt) (h : IsBot e pts c) : IsBot e (pts ++ [z]) c := by
  obtain ⟨w, hw, a, b⟩ := h
  exact ⟨w, List.mem_append.mpr (.inl hw), a, b⟩
theorem IsTop.new {e x y i : Int} {pts : List Pt} : IsTop e (pts ++ [(x, y)]) ⟨x, y + e, i⟩ := ⟨(x, y), by simp, rfl, rfl⟩
theorem IsBot.new {e x y i : Int} {pts : List Pt} : IsBot e (pts ++ [(x, y)]) ⟨x, y - e, i⟩ := ⟨(x, y), by simp, rfl, rfl⟩
theorem feas_keep {e x y : Int} {pts : List Pt} {a b : Cn} (h : Feas e a b pts) (h1 : Above a b x (y - e)) (h2 : Under a b x (y + e)) : Feas e a b (pts ++ [(x, y)]) := by
  refine ⟨h.1, fun z hz => ?_⟩
  rcases List.mem_append.mp hz with q | q
  · exact h.2 z q
  · have := List.mem_singleton.mp q
    subst this
    exact ⟨h1, h2⟩
/-- the three tests by their rises and widths -/
theorem under_of1 {a b : Cn} {x h : Int} (n : ¬ (h - b.y) * (b.x - a.x) < (b.y - a.y) * (x - b.x)) : Under a b x h := by
  show (b.y - a.y) * (x - a.x) + a.y * (b.x - a.x) ≤ h * (b.x - a.x)
  grind
theorem above_of1 {a b : Cn} {x h : Int} (n : ¬ (b.y - a.y) * (x - b.x) < (h - b.y) * (b.x - a.x)) : Above a b x h := by
  show h * (b.x - a.x) ≤ (b.y - a.y) * (x - a.x) + a.y * (b.x - a.x)
  grind
theorem above_of0 {a b : Cn} {x h : Int} (n : (h - a.y) * (b.x - a.x) < (b.y - a.y) * (x - a.x)) : Above a b x h := by
  show h * (b.x - a.x) ≤ (b.y - a.y) * (x - a.x) + a.y * (b.x - a.x)
  grind
theorem under_of0' {a b : Cn} {x h : Int} (n : ¬ (h - a.y) * (b.x - a.x) < (b.y - a.y) * (x - a.x)) : Under a b x h := by
  show (b.y - a.y) * (x - a.x) + a.y * (b.x - a.x) ≤ h * (b.x - a.x)
  grind
theorem under_lt0 {a b : Cn} {x h : Int} (n : (b.y - a.y) * (x - a.x) < (h - a.y) * (b.x - a.x)) : Under a b x h := by
  show (b.y - a.y) * (x - a.x) + a.y * (b.x - a.x) ≤ h * (b.x - a.x)
  grind
theorem above_ge0 {a b : Cn} {x h : Int} (n : ¬ (b.y - a.y) * (x - a.x) < (h - a.y) * (b.x - a.x)) : Above a b x h := by
  show h * (b.x - a.x) ≤ (b.y - a.y) * (x - a.x) + a.y * (b.x - a.x)
  grind
/-! ### the best corner -/
theorem frac_trans {r1 w1 r2 w2 r3 w3 : Int} (h1 : 0 < w1) (h2 : 0 < w2) (h3 : 0 < w3) (a : r1 * w2 < r2 * w1) (b : r2 * w3 ≤ r3 * w2) : r1 * w3 ≤ r3 * w1 := by
  have a' := Int.mul_le_mul_of_nonneg_right (Int.le_of_lt a) (Int.le_of_lt h3)
  have b' := Int.mul_le_mul_of_nonneg_right b (Int.le_of_lt h1)
  exact cancel (d := w2) h2 (by grind)
theorem frac_trans' {r1 w1 r2 w2 r3 w3 : Int} (h1 : 0 < w1) (h2 : 0 < w2) (h3 : 0 < w3) (a : r1 * w2 ≤ r2 * w1) (b : r2 * w3 < r3 * w2) : r1 * w3 ≤ r3 * w1 := by
  have a' := Int.mul_le_mul_of_nonneg_right a (Int.le_of_lt h3)
  have b' := Int.mul_le_mul_of_nonneg_right (Int.le_of_lt b) (Int.le_of_lt h1)
  exact cancel (d := w2) h2 (by grind)
/-- best has the least slope to t among cs -/
def MinOk (t best : Cn) (cs : List Cn) : Prop := ∀ c ∈ cs, (t.y - best.y) * (t.x - c.x) ≤ (t.y - c.y) * (t.x - best.x)
def MaxOk (t best : Cn) (cs : List Cn) : Prop := ∀ c ∈ cs, (t.y - c.y) * (t.x - best.x) ≤ (t.y - best.y) * (t.x - c.x)
theorem min_yes {t best c : Cn} {cs : List Cn} (hc : ∀ d ∈ cs, d.x < t.x) (hbx : best.x < t.x) (hcx : c.x < t.x) (h : MinOk t best cs)
    (lt : (t.y - c.y) * (t.x - best.x) < (t.y - best.y) * (t.x - c.x)) : MinOk t c (cs ++ [c]) := fun d hd => by
  rcases List.mem_append.mp hd with q | q
  · have := hc d q
    exact frac_trans (by omega) (show 0 < t.x - best.x by omega) (by omega) lt (h d q)
  · rw [List.mem_singleton.mp q]
    exact Int.le_refl _
theorem min_no {t best c : Cn} {cs : List Cn} (h : MinOk t best cs) (lt : ¬ (t.y - c.y) * (t.x - best.x) < (t.y - best.y) * (t.x - c.x)) : MinOk t best (cs ++ [c]) := fun d hd => by
  rcases List.mem_append.mp hd with q | q
  · exact h d q
  · rw [List.mem_singleton.mp q]
    omega
theorem max_yes {t best c : Cn} {cs : List Cn} (hc : ∀ d ∈ cs, d.x < t.x) (hbx : best.x < t.x) (hcx : c.x < t.x) (h : MaxOk t best cs)
    (lt : (t.y - best.y) * (t.x - c.x) < (t.y - c.y) * (t.x - best.x)) : MaxOk t c (cs ++ [c]) := fun d hd => by
  rcases List.mem_append.mp hd with q | q
  · have := hc d q
    exact frac_trans' (by omega) (show 0 < t.x - best.x by omega) (by omega) (h d q) lt
  · rw [List.mem_singleton.mp q]
    exact Int.le_refl _
theorem max_no {t best c : Cn} {cs : List Cn} (h : MaxOk t best cs) (lt : ¬ (t.y - best.y) * (t.x - c.x) < (t.y - c.y) * (t.x - best.x)) : MaxOk t best (cs ++ [c]) := fun d hd => by
  rcases List.mem_append.mp hd with q | q
  · exact h d q
  · rw [List.mem_singleton.mp q]
    omega
/-! ### what the fitter holds -/
/-- bounds: 2^28 -/
abbrev Bd (n : Int) : Prop := -268435456 ≤ n ∧ n ≤ 268435456
structure PtsOk (e : Int) (pts : List Pt) : Prop where
  e0 : 0 ≤ e
  e1 : e ≤ 1000000
  asc : pts.Pairwise (fun a b => a.1 < b.1 ∧ a.2 < b.2)
  bd : ∀ z ∈ pts, Bd z.1 ∧ 0 ≤ z.2 ∧ z.2 ≤ 1000000
  len : pts.length ≤ 1000
structure FOk (e : Int) (pts : List Pt) (tops bots : List Cn) (f0 f1 s0 s1 : Cn) : Prop where
  pts_ : PtsOk e pts
  nil_ : pts = [] → tops = [] ∧ bots = []
  hT : pts ≠ [] → HullT e pts tops
  hB : pts ≠ [] → HullB e pts bots
  two : 2 ≤ pts.length → FlOk e pts f0 f1 ∧ StOk e pts s0 s1
/-- a new point, right of all and higher than all -/
structure Next (e : Int) (pts : List Pt) (x y : Int) : Prop where
  xs : ∀ z ∈ pts, z.1 < x
  ys : ∀ z ∈ pts, z.2 < y
  bx : Bd x
  y0 : 0 ≤ y
  y1 : y ≤ 1000000
  room : pts.length < 1000
theorem PtsOk.snoc {e x y : Int} {pts : List Pt} (h : PtsOk e pts) (n : Next e pts x y) : PtsOk e (pts ++ [(x, y)]) := by
  refine ⟨h.e0, h.e1, ?_, fun z hz => ?_, by have := n.room; simp; omega⟩
  · refine List.pairwise_append.mpr ⟨h.asc, by simp, fun a ha b hb => ?_⟩
    have := List.mem_singleton.mp hb
    subst this
    exact ⟨n.xs a ha, n.ys a ha⟩
  · rcases List.mem_append.mp hz with q | q
    · exact h.bd z q
    · rw [List.mem_singleton.mp q]
      exact ⟨n.bx, n.y0, n.y1⟩
theorem one_top {e x y i : Int} : HullT e [(x, y)] [⟨x, y + e, i⟩] := by
  refine ⟨by simp, by simp, fun c hc => ?_, by simp, fun p q d hd hl z hz => ?_⟩
  · rw [List.mem_singleton.mp hc]
    exact ⟨(x, y), by simp, rfl, rfl⟩
  · rw [List.mem_singleton.mp hz]
    exact hl ⟨x, y + e, i⟩ (by simp)
theorem one_bot {e x y i : Int} : HullB e [(x, y)] [⟨x, y - e, i⟩] := by
  refine ⟨by simp, by simp, fun c hc => ?_, by simp, fun p q d hd hl z hz => ?_⟩
  · rw [List.mem_singleton.mp hc]
    exact ⟨(x, y), by simp, rfl, rfl⟩
  · rw [List.mem_singleton.mp hz]
    exact hl ⟨x, y - e, i⟩ (by simp)
/-- one point, then a second -/
theorem fl_two {e x0 y0 x y : Int} {c : Cn} {i : Int} (he : 0 ≤ e) (hx : x0 < x) (hy : y0 < y) (hc : IsTop e [(x0, y0)] c) : FlOk e [(x0, y0), (x, y)] c ⟨x, y - e, i⟩ := by
  obtain ⟨w, hw, a, b⟩ := hc
  have := List.mem_singleton.mp hw
  subst this
  refine ⟨⟨by rw [a]; exact hx, fun z hz => ?_⟩, ⟨(x0, y0), by simp, a, b⟩, ⟨(x, y), by simp, rfl, rfl⟩⟩
  show (z.2 - e) * (x - c.x) ≤ (y - e - c.y) * (z.1 - c.x) + c.y * (x - c.x) ∧ (y - e - c.y) * (z.1 - c.x) + c.y * (x - c.x) ≤ (z.2 + e) * (x - c.x)
  have g := Int.mul_nonneg he (show 0 ≤ x - x0 by omega)
  simp only [List.mem_cons, List.not_mem_nil, or_false] at hz
  rcases hz with rfl | rfl
  · rw [a, b]
    constructor <;> grind
  · rw [a, b]
    constructor <;> grind
theorem st_two {e x0 y0 x y : Int} {c : Cn} {i : Int} (he : 0 ≤ e) (hx : x0 < x) (hy : y0 < y) (hc : IsBot e [(x0, y0)] c) : StOk e [(x0, y0), (x, y)] c ⟨x, y + e, i⟩ := by
  obtain ⟨w, hw, a, b⟩ := hc
  have := List.mem_singleton.mp hw
  subst this
  refine ⟨⟨by rw [a]; exact hx, fun z hz => ?_⟩, ⟨(x0, y0), by simp, a, b⟩, ⟨(x, y), by simp, rfl, rfl⟩⟩
  show (z.2 - e) * (x - c.x) ≤ (y + e - c.y) * (z.1 - c.x) + c.y * (x - c.x) ∧ (y + e - c.y) * (z.1 - c.x) + c.y * (x - c.x) ≤ (z.2 + e) * (x - c.x)
  have g := Int.mul_nonneg he (show 0 ≤ x - x0 by omega)
  simp only [List.mem_cons, List.not_mem_nil, or_false] at hz
  rcases hz with rfl | rfl
  · rw [a, b]
    constructor <;> grind
  · rw [a, b]
    constructor <;> grind
/-! ### the line at the end -/
structure LineOk (e : Int) (pts : List Pt) (p q d : Int) : Prop where
  d0 : 0 < d
  d1 : d < 1073741824
  p0 : 0 ≤ p
  p1 : p < 1073741824
  near : ∀ z ∈ pts, (z.2 - e) * d ≤ p * z.1 + q ∧ p * z.1 + q ≤ (z.2 + e) * d
/-- q is the greatest of v * d - e * d - p * u -/
theorem line_of {e : Int} {pts : List Pt} {p d q : Int} (d0 : 0 < d) (d1 : d < 1073741824) (p0 : 0 ≤ p) (p1 : p < 1073741824)
    (hs : ∀ z ∈ pts, ∀ w ∈ pts, p * (z.1 - w.1) ≤ (z.2 - w.2 + 2 * e) * d)
    (hm : ∃ w ∈ pts, q = w.2 * d - e * d - p * w.1) (hq : ∀ z ∈ pts, z.2 * d - e * d - p * z.1 ≤ q) : LineOk e pts p q d := by
  refine ⟨d0, d1, p0, p1, fun z hz => ⟨?_, ?_⟩⟩
  · have := hq z hz
    grind
  · obtain ⟨w, hw, rfl⟩ := hm
    have := hs z hz w hw
    grind
theorem feas_pairs {e : Int} {pts : List Pt} {a b : Cn} (h : Feas e a b pts) : ∀ z ∈ pts, ∀ w ∈ pts, (b.y - a.y) * (z.1 - w.1) ≤ (z.2 - w.2 + 2 * e) * (b.x - a.x) := fun z hz w hw => by
  have h1 := (h.2 z hz).2
  have h2 := (h.2 w hw).1
  grind
/-- the flat slope reduced by g -/
theorem slope_flat {e g : Int} {pts : List Pt} {a b : Cn} {p d : Int} (h : Feas e a b pts) (hg : 0 < g) (hp : b.y - a.y = p * g) (hd : b.x - a.x = d * g) :
    ∀ z ∈ pts, ∀ w ∈ pts, p * (z.1 - w.1) ≤ (z.2 - w.2 + 2 * e) * d := fun z hz w hw => by
  have := feas_pairs h z hz w hw
  rw [hp, hd] at this
  exact cancel (d := g) hg (by grind)
theorem asc_pair {pts : List Pt} (h : pts.Pairwise (fun a b => a.1 < b.1 ∧ a.2 < b.2)) : ∀ z ∈ pts, ∀ w ∈ pts, z.1 ≤ w.1 → z.2 ≤ w.2 := by
  induction h with
  | nil => intro z hz; cases hz
  | @cons a l ha _ ih =>
    intro z hz w hw hzw
    rcases List.mem_cons.mp hz with e1 | hz1
    · subst e1
      rcases List.mem_cons.mp hw with e2 | hw1
      · rw [e2]
        exact Int.le_refl _
      · have := (ha w hw1).2
        omega
    · rcases List.mem_cons.mp hw with e2 | hw1
      · subst e2
        have := (ha z hz1).1
        omega
      · exact ih z hz1 w hw1 hzw
theorem slope_zero {e : Int} {pts : List Pt} {a b : Cn} (he : 0 ≤ e) (ha : pts.Pairwise (fun a b => a.1 < b.1 ∧ a.2 < b.2)) (h : Feas e a b pts) (hn : b.y - a.y ≤ 0) :
    ∀ z ∈ pts, ∀ w ∈ pts, (0 : Int) * (z.1 - w.1) ≤ (z.2 - w.2 + 2 * e) * 1 := fun z hz w hw => by
  by_cases q : w.1 ≤ z.1
  · have := asc_pair ha w hw z hz q
    omega
  · have h1 := feas_pairs h z hz w hw
    have h2 := Int.mul_nonneg_of_nonpos_of_nonpos (a := b.y - a.y) (b := z.1 - w.1) hn (by omega)
    have h3 : 0 * (b.x - a.x) ≤ (z.2 - w.2 + 2 * e) * (b.x - a.x) := by rw [Int.zero_mul]; omega
    have := cancel (d := b.x - a.x) (by have := h.1; omega) h3
    omega
/-- the steep line rises -/
theorem steep_rises {e : Int} {pts : List Pt} {a b : Cn} (he : 0 ≤ e) (ha : pts.Pairwise (fun a b => a.1 < b.1 ∧ a.2 < b.2)) (h : StOk e pts a b) : 0 ≤ b.y - a.y := by
  obtain ⟨⟨hx, _⟩, ⟨z, hz, z1, z2⟩, ⟨w, hw, w1, w2⟩⟩ := h
  have := asc_pair ha z hz w hw (by omega)
  omega
end Fw
/-! The mathematics of cuttings, levels and the index. Plain Lean. -/
namespace Fw
/-- a piece: its start, its line -/
structure Pc where
  s : Nat
  p : Int
  q : Int
  d : Int
/-- where a piece ends: at the next start, or at t -/
def nx (pcs : List Pc) (t j : Nat) : Nat := match pcs[j + 1]? with | some b => b.s | none => t
theorem nx_some {pcs : List Pc} {t j : Nat} {b : Pc} (h : pcs[j + 1]? = some b) : nx pcs t j = b.s := by unfold nx; rw [h]
theorem nx_none {pcs : List Pc} {t j : Nat} (h : pcs[j + 1]? = none) : nx pcs t j = t := by unfold nx; rw [h]
structure NearPc (e : Int) (pts : List Pt) (a : Pc) (t : Nat) : Prop where
  d0 : 0 < a.d
  d1 : a.d < 1073741824
  p0 : 0 ≤ a.p
  p1 : a.p < 1073741824
  near : ∀ (i : Nat) (z : Pt), a.s ≤ i → i < t → pts[i]? = some z → (z.2 - e) * a.d ≤ a.p * z.1 + a.q ∧ a.p * z.1 + a.q ≤ (z.2 + e) * a.d
structure Closed (e : Int) (pts : List Pt) (pcs : List Pc) (t : Nat) : Prop where
  nil_ : pcs = [] → t = 0
  first : ∀ a, pcs[0]? = some a → a.s = 0
  step : ∀ (j : Nat) (a : Pc), pcs[j]? = some a → a.s + 2 ≤ nx pcs t j
  near : ∀ (j : Nat) (a : Pc), pcs[j]? = some a → NearPc e pts a (nx pcs t j)
structure CutOk (e : Int) (pts : List Pt) (pcs : List Pc) : Prop where
  ne : pts ≠ [] → pcs ≠ []
  em : pts = [] → pcs = []
  first : ∀ a, pcs[0]? = some a → a.s = 0
  step : ∀ (j : Nat) (a : Pc), pcs[j]? = some a → a.s < nx pcs pts.length j
  step2 : ∀ (j : Nat) (a b : Pc), pcs[j]? = some a → pcs[j + 1]? = some b → a.s + 2 ≤ b.s
  near : ∀ (j : Nat) (a : Pc), pcs[j]? = some a → NearPc e pts a (nx pcs pts.length j)
theorem closed_nil (e : Int) (pts : List Pt) : Closed e pts [] 0 := ⟨fun _ => rfl, fun a h => by simp at h, fun j a h => by simp at h, fun j a h => by simp at h⟩
theorem get_snoc {α : Type} {xs : List α} {x y : α} {j : Nat} (h : (xs ++ [x])[j]? = some y) : (j < xs.length ∧ xs[j]? = some y) ∨ (j = xs.length ∧ y = x) := by
  by_cases hj : j < xs.length
  · rw [List.getElem?_append_left hj] at h
    exact .inl ⟨hj, h⟩
  · rw [List.getElem?_append_right (by omega)] at h
    have : j - xs.length = 0 := by
      cases q : j - xs.length with
      | zero => rfl
      | succ n => rw [q] at h; simp at h
    rw [this] at h
    simp at h
    exact .inr ⟨by omega, h.symm⟩
theorem nx_snoc {pcs : List Pc} {x : Pc} {t j : Nat} (hj : j < pcs.length) : nx (pcs ++ [x]) t j = nx pcs x.s j := by
  unfold nx
  by_cases h : j + 1 < pcs.length
  · rw [List.getElem?_append_left h, List.getElem?_eq_getElem h]
  · have : j + 1 = pcs.length := by omega
    rw [this, List.getElem?_append_right (Nat.le_refl _), List.getElem?_eq_none (Nat.le_refl _)]
    simp
theorem nx_last {pcs : List Pc} {x : Pc} {t : Nat} : nx (pcs ++ [x]) t pcs.length = t := by
  unfold nx
  rw [List.getElem?_eq_none (by simp)]
theorem closed_snoc {e : Int} {pts : List Pt} {pcs : List Pc} {t : Nat} {a : Pc} (h : Closed e pts pcs a.s) (ht : a.s + 2 ≤ t) (hn : NearPc e pts a t) : Closed e pts (pcs ++ [a]) t := by
  refine ⟨fun q => by simp at q, fun b hb => ?_, fun j b hb => ?_, fun j b hb => ?_⟩
  · rcases get_snoc hb with ⟨_, q⟩ | ⟨q, rfl⟩
    · exact h.first b q
    · exact h.nil_ (List.length_eq_zero_iff.mp q.symm)
  · rcases get_snoc hb with ⟨q1, q⟩ | ⟨rfl, rfl⟩
    · rw [nx_snoc q1]
      exact h.step j b q
    · rw [nx_last]
      exact ht
  · rcases get_snoc hb with ⟨q1, q⟩ | ⟨rfl, rfl⟩
    · rw [nx_snoc q1]
      exact h.near j b q
    · rw [nx_last]
      exact hn
theorem closed_done {e : Int} {pts : List Pt} {pcs : List Pc} {a : Pc} (h : Closed e pts pcs a.s) (ht : a.s < pts.length) (hn : NearPc e pts a pts.length) : CutOk e pts (pcs ++ [a]) := by
  refine ⟨fun _ => by simp, fun q => by rw [q] at ht; simp at ht, fun b hb => ?_, fun j b hb => ?_, fun j b c hb hc => ?_, fun j b hb => ?_⟩
  · rcases get_snoc hb with ⟨_, q⟩ | ⟨q, rfl⟩
    · exact h.first b q
    · exact h.nil_ (List.length_eq_zero_iff.mp q.symm)
  · rcases get_snoc hb with ⟨q1, q⟩ | ⟨rfl, rfl⟩
    · rw [nx_snoc q1]
      have := h.step j b q
      omega
    · rw [nx_last]
      exact ht
  · rcases get_snoc hb with ⟨q1, q⟩ | ⟨rfl, rfl⟩
    · have := h.step j b q
      rw [← nx_snoc (x := a) (t := 0) q1, nx_some hc] at this
      exact this
    · rw [List.getElem?_eq_none (by simp)] at hc
      cases hc
  · rcases get_snoc hb with ⟨q1, q⟩ | ⟨rfl, rfl⟩
    · rw [nx_snoc q1]
      exact h.near j b q
    · rw [nx_last]
      exact hn
theorem cut_nil (e : Int) : CutOk e [] [] := ⟨fun h => absurd rfl h, fun _ => rfl, fun a h => by simp at h, fun j a h => by simp at h, fun j a b h => by simp at h, fun j a h => by simp at h⟩
/-- a slice of the points -/
def slc {α : Type} (pts : List α) (s t : Nat) : List α := (pts.take t).drop s
theorem slc_get {α : Type} {pts : List α} {s t i : Nat} {z : α} (h1 : s ≤ i) (h2 : i < t) (h : pts[i]? = some z) : z ∈ slc pts s t := by
  refine List.mem_of_getElem? (i := i - s) ?_
  unfold slc
  rw [List.getElem?_drop, List.getElem?_take, if_pos (by omega), show s + (i - s) = i by omega]
  exact h
theorem slc_mem {α : Type} {pts : List α} {s t : Nat} {z : α} (h : z ∈ slc pts s t) : ∃ i, s ≤ i ∧ i < t ∧ pts[i]? = some z := by
  obtain ⟨j, hj⟩ := List.getElem?_of_mem h
  unfold slc at hj
  rw [List.getElem?_drop, List.getElem?_take] at hj
  split at hj
  · exact ⟨s + j, by omega, by assumption, hj⟩
  · cases hj
theorem slc_len {α : Type} {pts : List α} {s t : Nat} (h : t ≤ pts.length) : (slc pts s t).length = t - s := by
  unfold slc
  rw [List.length_drop, List.length_take]
  omega
theorem slc_snoc {α : Type} {pts : List α} {s t : Nat} {z : α} (hs : s ≤ t) (h : pts[t]? = some z) : slc pts s (t + 1) = slc pts s t ++ [z] := by
  have ht := (List.getElem?_eq_some_iff.mp h).1
  unfold slc
  rw [List.take_add_one, h, List.drop_append, List.length_take]
  rw [show s - min t pts.length = 0 by omega]
  rfl
theorem slc_self {α : Type} {pts : List α} {t : Nat} : slc pts t t = [] := by
  unfold slc
  rw [List.drop_eq_nil_iff, List.length_take]
  omega
theorem near_of {e : Int} {pts : List Pt} {s t : Nat} {p q d : Int} (h : LineOk e (slc pts s t) p q d) : NearPc e pts ⟨s, p, q, d⟩ t :=
  ⟨h.d0, h.d1, h.p0, h.p1, fun i z h1 h2 h3 => h.near z (slc_get h1 h2 h3)⟩
theorem cut_two {e : Int} {pts : List Pt} {pcs : List Pc} (h : CutOk e pts pcs) : ∀ (j : Nat) (a : Pc), pcs[j]? = some a → 2 * j ≤ a.s := by
  intro j
  induction j with
  | zero => intro a _; omega
  | succ j ih =>
    intro a ha
    have hj := (List.getElem?_eq_some_iff.mp ha).1
    have e1 : pcs[j]? = some pcs[j] := List.getElem?_eq_getElem (by omega)
    have := ih _ e1
    have := h.step2 j _ a e1 ha
    omega
theorem cut_count {e : Int} {pts : List Pt} {pcs : List Pc} (h : CutOk e pts pcs) : 2 * pcs.length ≤ pts.length + 1 := by
  by_cases h0 : pcs.length = 0
  · omega
  · have e1 : pcs[pcs.length - 1]? = some pcs[pcs.length - 1] := List.getElem?_eq_getElem (by omega)
    have h1 := cut_two h _ _ e1
    have h2 := h.step _ _ e1
    rw [nx_none (List.getElem?_eq_none (by omega))] at h2
    omega
theorem cut_lt {e : Int} {pts : List Pt} {pcs : List Pc} (h : CutOk e pts pcs) {j : Nat} {a : Pc} (ha : pcs[j]? = some a) : nx pcs pts.length j ≤ pts.length := by
  by_cases hj : j + 1 < pcs.length
  · have e1 : pcs[j + 1]? = some pcs[j + 1] := List.getElem?_eq_getElem hj
    rw [nx_some e1]
    -- the next starts rise up to the end
    have key : ∀ (k j : Nat) (a : Pc), pcs.length - j = k → pcs[j]? = some a → a.s < pts.length := by
      intro k
      induction k with
      | zero =>
        intro j a hk ha
        have := (List.getElem?_eq_some_iff.mp ha).1
        omega
      | succ k ih =>
        intro j a hk ha
        by_cases hj2 : j + 1 < pcs.length
        · have e2 : pcs[j + 1]? = some pcs[j + 1] := List.getElem?_eq_getElem hj2
          have := ih (j + 1) _ (by omega) e2
          have := h.step2 j a _ ha e2
          omega
        · have := h.step j a ha
          rw [nx_none (List.getElem?_eq_none (by omega))] at this
          exact this
    have := key _ (j + 1) _ rfl e1
    omega
  · rw [nx_none (List.getElem?_eq_none (by omega))]
    exact Nat.le_refl _
/-! ### levels -/
def mpts (marks : List Int) : List Pt := marks.mapIdx fun i k => (k, (i : Int))
theorem mpts_get {marks : List Int} {i : Nat} {k : Int} (h : marks[i]? = some k) : (mpts marks)[i]? = some (k, (i : Int)) := by
  unfold mpts
  rw [List.getElem?_mapIdx, h]
  rfl
theorem mpts_of {marks : List Int} {i : Nat} {z : Pt} (h : (mpts marks)[i]? = some z) : marks[i]? = some z.1 ∧ z.2 = (i : Int) := by
  unfold mpts at h
  rw [List.getElem?_mapIdx] at h
  cases e : marks[i]? with
  | none => rw [e] at h; cases h
  | some k =>
    rw [e] at h
    simp at h
    subst h
    exact ⟨rfl, rfl⟩
theorem mpts_len (marks : List Int) : (mpts marks).length = marks.length := by
  unfold mpts
  exact List.length_mapIdx
structure Lv where
  e : Int
  marks : List Int
  pcs : List Pc
structure MarksOk (marks : List Int) : Prop where
  asc : marks.Pairwise (· < ·)
  bd : ∀ k ∈ marks, Bd k
  len : marks.length ≤ 1000
structure LvOk (L : Lv) : Prop where
  e0 : 0 ≤ L.e
  e1 : L.e ≤ 1000000
  mo : MarksOk L.marks
  cut : CutOk L.e (mpts L.marks) L.pcs
theorem asc_get {marks : List Int} (h : marks.Pairwise (· < ·)) {i j : Nat} {a b : Int} (hi : marks[i]? = some a) (hj : marks[j]? = some b) (hij : i < j) : a < b := by
  obtain ⟨h1, rfl⟩ := List.getElem?_eq_some_iff.mp hi
  obtain ⟨h2, rfl⟩ := List.getElem?_eq_some_iff.mp hj
  exact List.pairwise_iff_getElem.mp h i j h1 h2 hij
/-- the last place whose key is not above x -/
def IsLast (marks : List Int) (x : Int) (t : Nat) : Prop := (∃ k, marks[t]? = some k ∧ k ≤ x) ∧ ∀ (i : Nat) (k : Int), t < i → marks[i]? = some k → x < k
/-- the piece in which x stands -/
def PieceAt (L : Lv) (x : Int) (j : Nat) : Prop := ∃ a k, L.pcs[j]? = some a ∧ L.marks[a.s]? = some k ∧ k ≤ x ∧ ∀ b k', L.pcs[j + 1]? = some b → L.marks[b.s]? = some k' → x < k'
theorem last_in {marks : List Int} {x : Int} {s : Nat} {k : Int} : ∀ (n : Nat), marks[s]? = some k → k ≤ x → s + n < marks.length → ∃ t, s ≤ t ∧ t ≤ s + n ∧ (∃ k, marks[t]? = some k ∧ k ≤ x) ∧ ∀ (i : Nat) (k : Int), t < i → i ≤ s + n → marks[i]? = some k → x < k
  | 0, h, hk, _ => ⟨s, Nat.le_refl _, Nat.le_refl _, ⟨k, h, hk⟩, fun i _ h1 h2 => by omega⟩
  | n + 1, h, hk, hl => by
    have e1 : marks[s + n + 1]? = some marks[s + n + 1] := List.getElem?_eq_getElem (by omega)
    by_cases q : marks[s + n + 1] ≤ x
    · exact ⟨s + n + 1, by omega, by omega, ⟨_, e1, q⟩, fun i _ h1 h2 => by omega⟩
    · obtain ⟨t, h1, h2, h3, h4⟩ := last_in n h hk (by omega)
      refine ⟨t, h1, by omega, h3, fun i k hi hi2 hik => ?_⟩
      by_cases z : i ≤ s + n
      · exact h4 i k hi z hik
      · have : i = s + n + 1 := by omega
        subst this
        rw [e1] at hik
        cases hik
        omega
structure FindAt (L : Lv) (x : Int) (a : Pc) (E t : Nat) : Prop where
  s0 : a.s ≤ t
  t1 : t < E
  le : E ≤ L.marks.length
  at_ : ∃ k, L.marks[t]? = some k ∧ k ≤ x
  above : ∀ (i : Nat) (k : Int), t < i → L.marks[i]? = some k → x < k
theorem find_at {L : Lv} {x : Int} {j : Nat} (h : LvOk L) (hp : PieceAt L x j) : ∃ a t, L.pcs[j]? = some a ∧ FindAt L x a (nx L.pcs L.marks.length j) t := by
  obtain ⟨a, k, ha, hk, hkx, hn⟩ := hp
  have hstep := h.cut.step j a ha
  have hle := cut_lt h.cut ha
  rw [mpts_len] at hstep hle
  obtain ⟨t, h1, h2, h3, h4⟩ := last_in (marks := L.marks) (x := x) (s := a.s) (nx L.pcs L.marks.length j - 1 - a.s) hk hkx (by omega)
  refine ⟨a, t, ha, ⟨h1, by omega, hle, h3, fun i k' hi hik => ?_⟩⟩
  by_cases z : i ≤ a.s + (nx L.pcs L.marks.length j - 1 - a.s)
  · exact h4 i k' hi z hik
  · by_cases hj : j + 1 < L.pcs.length
    · have e1 : L.pcs[j + 1]? = some L.pcs[j + 1] := List.getElem?_eq_getElem hj
      rw [nx_some e1] at z hle
      have hi2 := (List.getElem?_eq_some_iff.mp hik).1
      have hi3 : (L.pcs[j + 1]).s < L.marks.length := by omega
      have e2 : L.marks[(L.pcs[j + 1]).s]? = some L.marks[(L.pcs[j + 1]).s] := List.getElem?_eq_getElem (by omega)
      have := hn _ _ e1 e2
      by_cases e3 : i = (L.pcs[j + 1]).s
      · subst e3
        rw [e2] at hik
        cases hik
        exact this
      · have := asc_get h.mo.asc e2 hik (by omega)
        omega
    · rw [nx_none (List.getElem?_eq_none (by omega))] at z
      have hi2 := (List.getElem?_eq_some_iff.mp hik).1
      omega
theorem FindAt.isLast {L : Lv} {x : Int} {a : Pc} {E t : Nat} (h : FindAt L x a E t) : IsLast L.marks x t := ⟨h.at_, h.above⟩
/-- the search's bounds -/
theorem find_high {L : Lv} {x : Int} {j : Nat} {a : Pc} {t : Nat} (h : LvOk L) (ha : L.pcs[j]? = some a) (f : FindAt L x a (nx L.pcs L.marks.length j) t) : (t : Int) ≤ (a.p * x + a.q) / a.d + L.e := by
  obtain ⟨k, hk, hkx⟩ := f.at_
  have n := h.cut.near j a ha
  rw [mpts_len] at n
  have n1 := (n.near t (k, (t : Int)) f.s0 f.t1 (mpts_get hk)).1
  have n2 := Int.mul_le_mul_of_nonneg_left hkx n.p0
  have : (t : Int) - L.e ≤ (a.p * x + a.q) / a.d := (Int.le_ediv_iff_mul_le n.d0).mpr (by
    show ((t : Int) - L.e) * a.d ≤ a.p * x + a.q
    have : ((t : Int) - L.e) * a.d ≤ a.p * k + a.q := n1
    omega)
  omega
theorem find_low {L : Lv} {x : Int} {j : Nat} {a : Pc} {t : Nat} (h : LvOk L) (ha : L.pcs[j]? = some a) (f : FindAt L x a (nx L.pcs L.marks.length j) t) (ht : t + 1 < nx L.pcs L.marks.length j) :
    -(-(a.p * x + a.q) / a.d) - 1 - L.e ≤ (t : Int) := by
  have hlt : t + 1 < L.marks.length := by have := f.le; omega
  have e1 : L.marks[t + 1]? = some L.marks[t + 1] := List.getElem?_eq_getElem hlt
  have hx := f.above (t + 1) _ (by omega) e1
  have n := h.cut.near j a ha
  rw [mpts_len] at n
  have n1 := (n.near (t + 1) _ (by have := f.s0; omega) ht (mpts_get e1)).2
  have n2 := Int.mul_le_mul_of_nonneg_left (Int.le_of_lt hx) n.p0
  have : -((t : Int) + 1 + L.e) ≤ (-(a.p * x + a.q)) / a.d := (Int.le_ediv_iff_mul_le n.d0).mpr (by
    have n3 : a.p * L.marks[t + 1] + a.q ≤ (((t + 1 : Nat) : Int) + L.e) * a.d := n1
    have n4 : -((t : Int) + 1 + L.e) * a.d = -((((t + 1 : Nat) : Int) + L.e) * a.d) := by
      rw [Int.neg_mul]
      congr 2
    rw [n4]
    omega)
  omega
/-! ### the index -/
/-- the keys at which the pieces start -/
def firsts (L : Lv) : List Int := L.pcs.map fun a => L.marks.getD a.s 0
theorem firsts_get {L : Lv} {j : Nat} {a : Pc} (h : L.pcs[j]? = some a) : (firsts L)[j]? = some (L.marks.getD a.s 0) := by
  unfold firsts
  rw [List.getElem?_map, h]
  rfl
theorem start_get {L : Lv} (h : LvOk L) {j : Nat} {a : Pc} (ha : L.pcs[j]? = some a) : L.marks[a.s]? = some (L.marks.getD a.s 0) := by
  have h1 := h.cut.step j a ha
  have h2 := cut_lt h.cut ha
  rw [mpts_len] at h1 h2
  rw [List.getElem?_eq_getElem (by omega), List.getD_eq_getElem?_getD, List.getElem?_eq_getElem (by omega)]
  rfl
theorem pcs_len {L : Lv} (h : LvOk L) : 2 * L.pcs.length ≤ L.marks.length + 1 := by
  have := cut_count h.cut
  rw [mpts_len] at this
  exact this
theorem firsts_ok {L : Lv} (h : LvOk L) : MarksOk (firsts L) := by
  refine ⟨List.pairwise_iff_getElem.mpr fun i j hi hj hij => ?_, fun k hk => ?_, ?_⟩
  · have li : i < L.pcs.length := by unfold firsts at hi; rw [List.length_map] at hi; exact hi
    have lj : j < L.pcs.length := by unfold firsts at hj; rw [List.length_map] at hj; exact hj
    have e1 : L.pcs[i]? = some L.pcs[i] := List.getElem?_eq_getElem li
    have e2 : L.pcs[j]? = some L.pcs[j] := List.getElem?_eq_getElem lj
    have mono : ∀ (n i : Nat) (a b : Pc), L.pcs[i]? = some a → L.pcs[i + n + 1]? = some b → a.s < b.s := by
      intro n
      induction n with
      | zero =>
        intro i a b ha hb
        have := h.cut.step2 i a b ha hb
        omega
      | succ n ih =>
        intro i a b ha hb
        have hb1 := (List.getElem?_eq_some_iff.mp hb).1
        have e3 : L.pcs[i + n + 1]? = some L.pcs[i + n + 1] := List.getElem?_eq_getElem (by omega)
        have h1 := ih i a _ ha e3
        have h2 := h.cut.step2 (i + n + 1) _ b e3 (by rw [show i + n + 1 + 1 = i + (n + 1) + 1 by omega]; exact hb)
        omega
    have lt := mono (j - i - 1) i _ _ e1 (by rw [show i + (j - i - 1) + 1 = j by omega]; exact e2)
    have g1 := firsts_get e1
    have g2 := firsts_get e2
    have k1 : (firsts L)[i]'hi = L.marks.getD (L.pcs[i]).s 0 := by
      rw [List.getElem?_eq_getElem hi] at g1
      exact Option.some.inj g1
    have k2 : (firsts L)[j]'hj = L.marks.getD (L.pcs[j]).s 0 := by
      rw [List.getElem?_eq_getElem hj] at g2
      exact Option.some.inj g2
    rw [k1, k2]
    exact asc_get h.mo.asc (start_get h e1) (start_get h e2) lt
  · unfold firsts at hk
    obtain ⟨a, ha, rfl⟩ := List.mem_map.mp hk
    obtain ⟨j, hj⟩ := List.getElem?_of_mem ha
    exact h.mo.bd _ (List.mem_of_getElem? (start_get h hj))
  · have := pcs_len h
    have := h.mo.len
    unfold firsts
    rw [List.length_map]
    omega
structure IdxOk (keys : List Int) (Ls : List Lv) : Prop where
  zero : ∃ L, Ls[0]? = some L ∧ L.marks = keys
  ok : ∀ L ∈ Ls, LvOk L
  next : ∀ (i : Nat) (L L' : Lv), Ls[i]? = some L → Ls[i + 1]? = some L' → L'.marks = firsts L
  last : ∀ L, Ls[Ls.length - 1]? = some L → L.pcs.length ≤ 1
  len : Ls.length ≤ 1000
/-- the first keys of all levels are one -/
theorem idx_first {keys : List Int} {Ls : List Lv} (h : IdxOk keys Ls) {k0 : Int} (hk : keys[0]? = some k0) : ∀ (i : Nat) (L : Lv), Ls[i]? = some L → L.marks[0]? = some k0 := by
  intro i
  induction i with
  | zero =>
    intro L hL
    obtain ⟨L0, h0, e⟩ := h.zero
    rw [hL] at h0
    cases h0
    rw [e]
    exact hk
  | succ i ih =>
    intro L hL
    have hi := (List.getElem?_eq_some_iff.mp hL).1
    have e1 : Ls[i]? = some Ls[i] := List.getElem?_eq_getElem (by omega)
    have h1 := ih _ e1
    have ok1 := h.ok _ (List.mem_of_getElem? e1)
    have ne : (Ls[i]).pcs ≠ [] := ok1.cut.ne (fun z => by
      have := congrArg List.length z
      rw [mpts_len] at this
      rw [List.length_eq_zero_iff.mp this] at h1
      cases h1)
    obtain ⟨a, ha⟩ : ∃ a, (Ls[i]).pcs[0]? = some a := by
      cases hp : (Ls[i]).pcs with
      | nil => exact absurd hp ne
      | cons a r => exact ⟨a, rfl⟩
    rw [h.next i _ L e1 hL, firsts_get ha, ok1.cut.first a ha, List.getD_eq_getElem?_getD, h1]
    rfl
theorem piece_top {keys : List Int} {Ls : List Lv} (h : IdxOk keys Ls) {k0 x : Int} (hk : keys[0]? = some k0) (hx : k0 ≤ x) {L : Lv} (hL : Ls[Ls.length - 1]? = some L) : PieceAt L x 0 := by
  have h1 := idx_first h hk _ L hL
  have ok1 := h.ok _ (List.mem_of_getElem? hL)
  have ne : L.pcs ≠ [] := ok1.cut.ne (fun z => by
    have := congrArg List.length z
    rw [mpts_len] at this
    rw [List.length_eq_zero_iff.mp this] at h1
    cases h1)
  obtain ⟨a, ha⟩ : ∃ a, L.pcs[0]? = some a := by
    cases hp : L.pcs with
    | nil => exact absurd hp ne
    | cons a r => exact ⟨a, rfl⟩
  refine ⟨a, k0, ha, by rw [ok1.cut.first a ha]; exact h1, hx, fun b k' hb => ?_⟩
  have := (List.getElem?_eq_some_iff.mp hb).1
  have := h.last L hL
  omega
theorem piece_down {keys : List Int} {Ls : List Lv} (h : IdxOk keys Ls) {i t : Nat} {x : Int} {L L' : Lv} (hL : Ls[i]? = some L) (hL' : Ls[i + 1]? = some L') (f : IsLast L'.marks x t) : PieceAt L x t := by
  obtain ⟨⟨k, hk, hkx⟩, hab⟩ := f
  have ok1 := h.ok _ (List.mem_of_getElem? hL)
  have en := h.next i L L' hL hL'
  rw [en] at hk hab
  have ht := (List.getElem?_eq_some_iff.mp hk).1
  unfold firsts at ht
  rw [List.length_map] at ht
  have e1 : L.pcs[t]? = some L.pcs[t] := List.getElem?_eq_getElem ht
  have g1 := firsts_get e1
  rw [hk] at g1
  refine ⟨L.pcs[t], k, e1, ?_, hkx, fun b k' hb hk' => ?_⟩
  · rw [start_get ok1 e1]
    exact g1.symm
  · have g2 := firsts_get hb
    rw [start_get ok1 hb] at hk'
    cases hk'
    exact hab (t + 1) _ (by omega) g2
end Fw
/-! The mathematics of the store: merging sorted entries. Plain Lean. -/
namespace Fw
/-- an entry: a key, a value or none -/
abbrev En := Int × Option Int
def lk (k : Int) : List En → Option (Option Int)
  | [] => none
  | e :: r => if e.1 = k then some e.2 else lk k r
abbrev Srt (es : List En) : Prop := es.Pairwise (fun a b => a.1 < b.1)
def mrg : List En → List En → List En
  | [], os => os
  | e :: r, [] => e :: mrg r []
  | e :: r, o :: os => if o.1 < e.1 then o :: mrg (e :: r) os else if o.1 = e.1 then e :: mrg r os else e :: mrg r (o :: os)
termination_by n o => n.length + o.length
theorem mrg_nil (os : List En) : mrg [] os = os := by unfold mrg; rfl
theorem mrg_nil2 (e : En) (r : List En) : mrg (e :: r) [] = e :: mrg r [] := by
  conv => lhs; unfold mrg
theorem mrg_lt {e o : En} {r os : List En} (h : o.1 < e.1) : mrg (e :: r) (o :: os) = o :: mrg (e :: r) os := by
  conv => lhs; unfold mrg
  rw [if_pos h]
theorem mrg_eq {e o : En} {r os : List En} (h : o.1 = e.1) : mrg (e :: r) (o :: os) = e :: mrg r os := by
  conv => lhs; unfold mrg
  rw [if_neg (by omega), if_pos h]
theorem mrg_gt {e o : En} {r os : List En} (h : e.1 < o.1) : mrg (e :: r) (o :: os) = e :: mrg r (o :: os) := by
  conv => lhs; unfold mrg
  rw [if_neg (by omega), if_neg (by omega)]
theorem lk_none {k : Int} : ∀ {es : List En}, (∀ e ∈ es, e.1 ≠ k) → lk k es = none
  | [], _ => rfl
  | e :: r, h => by
    show (if e.1 = k then some e.2 else lk k r) = none
    rw [if_neg (h e (by simp)), lk_none fun x hx => h x (by simp [hx])]
theorem lk_some {k : Int} {c : Option Int} : ∀ {es : List En}, Srt es → (k, c) ∈ es → lk k es = some c
  | [], _, h => by cases h
  | e :: r, hs, h => by
    obtain ⟨h1, h2⟩ := List.pairwise_cons.mp hs
    show (if e.1 = k then some e.2 else lk k r) = some c
    rcases List.mem_cons.mp h with q | q
    · rw [← q, if_pos rfl]
    · have := h1 _ q
      rw [if_neg (by show ¬ e.1 = k; have : e.1 < k := this; omega)]
      exact lk_some h2 q
theorem lk_mem {k : Int} {c : Option Int} : ∀ {es : List En}, lk k es = some c → (k, c) ∈ es
  | [], h => by cases h
  | e :: r, h => by
    have h : (if e.1 = k then some e.2 else lk k r) = some c := h
    split at h
    · rename_i q
      have := Option.some.inj h
      rw [← q, ← this]
      simp
    · exact List.mem_cons_of_mem _ (lk_mem h)
theorem mrg_mem {x : En} : ∀ (n o : List En), x ∈ mrg n o → x ∈ n ∨ x ∈ o
  | [], os, h => by rw [mrg_nil] at h; exact .inr h
  | e :: r, [], h => by
    rw [mrg_nil2] at h
    rcases List.mem_cons.mp h with q | q
    · exact .inl (by simp [q])
    · rcases mrg_mem r [] q with z | z
      · exact .inl (by simp [z])
      · cases z
  | e :: r, o :: os, h => by
    by_cases h1 : o.1 < e.1
    · rw [mrg_lt h1] at h
      rcases List.mem_cons.mp h with q | q
      · exact .inr (by simp [q])
      · rcases mrg_mem (e :: r) os q with z | z
        · exact .inl z
        · exact .inr (by simp [z])
    · by_cases h2 : o.1 = e.1
      · rw [mrg_eq h2] at h
        rcases List.mem_cons.mp h with q | q
        · exact .inl (by simp [q])
        · rcases mrg_mem r os q with z | z
          · exact .inl (by simp [z])
          · exact .inr (by simp [z])
      · rw [mrg_gt (by omega)] at h
        rcases List.mem_cons.mp h with q | q
        · exact .inl (by simp [q])
        · rcases mrg_mem r (o :: os) q with z | z
          · exact .inl (by simp [z])
          · exact .inr z
termination_by n o => n.length + o.length
theorem mrg_len : ∀ (n o : List En), (mrg n o).length ≤ n.length + o.length
  | [], os => by rw [mrg_nil]; simp
  | e :: r, [] => by
    rw [mrg_nil2]
    have := mrg_len r []
    simp at this ⊢
    exact this
  | e :: r, o :: os => by
    by_cases h1 : o.1 < e.1
    · rw [mrg_lt h1]
      have := mrg_len (e :: r) os
      simp at this ⊢
      omega
    · by_cases h2 : o.1 = e.1
      · rw [mrg_eq h2]
        have := mrg_len r os
        simp at this ⊢
        omega
      · rw [mrg_gt (by omega)]
        have := mrg_len r (o :: os)
        simp at this ⊢
        omega
termination_by n o => n.length + o.length
theorem mrg_srt : ∀ (n o : List En), Srt n → Srt o → Srt (mrg n o)
  | [], os, _, h => by rw [mrg_nil]; exact h
  | e :: r, [], h, ho => by
    rw [mrg_nil2]
    obtain ⟨h1, h2⟩ := List.pairwise_cons.mp h
    refine List.pairwise_cons.mpr ⟨fun x hx => ?_, mrg_srt r [] h2 ho⟩
    rcases mrg_mem r [] hx with z | z
    · exact h1 x z
    · cases z
  | e :: r, o :: os, h, ho => by
    obtain ⟨h1, h2⟩ := List.pairwise_cons.mp h
    obtain ⟨o1, o2⟩ := List.pairwise_cons.mp ho
    by_cases q1 : o.1 < e.1
    · rw [mrg_lt q1]
      refine List.pairwise_cons.mpr ⟨fun x hx => ?_, mrg_srt (e :: r) os h o2⟩
      rcases mrg_mem (e :: r) os hx with z | z
      · rcases List.mem_cons.mp z with rfl | z
        · exact q1
        · have := h1 x z
          omega
      · exact o1 x z
    · by_cases q2 : o.1 = e.1
      · rw [mrg_eq q2]
        refine List.pairwise_cons.mpr ⟨fun x hx => ?_, mrg_srt r os h2 o2⟩
        rcases mrg_mem r os hx with z | z
        · exact h1 x z
        · have := o1 x z
          omega
      · rw [mrg_gt (by omega)]
        refine List.pairwise_cons.mpr ⟨fun x hx => ?_, mrg_srt r (o :: os) h2 ho⟩
        rcases mrg_mem r (o :: os) hx with z | z
        · exact h1 x z
        · rcases List.mem_cons.mp z with rfl | z
          · omega
          · have := o1 x z
            omega
termination_by n o => n.length + o.length
theorem mrg_lk (k : Int) : ∀ (n o : List En), Srt n → Srt o → lk k (mrg n o) = (lk k n).or (lk k o)
  | [], os, _, _ => by rw [mrg_nil]; simp [lk]
  | e :: r, [], h, ho => by
    rw [mrg_nil2]
    obtain ⟨h1, h2⟩ := List.pairwise_cons.mp h
    have ih := mrg_lk k r [] h2 ho
    show (if e.1 = k then some e.2 else lk k (mrg r [])) = (if e.1 = k then some e.2 else lk k r).or (lk k [])
    rw [ih]
    split <;> simp
  | e :: r, o :: os, h, ho => by
    obtain ⟨h1, h2⟩ := List.pairwise_cons.mp h
    obtain ⟨o1, o2⟩ := List.pairwise_cons.mp ho
    by_cases q1 : o.1 < e.1
    · rw [mrg_lt q1]
      have ih := mrg_lk k (e :: r) os h o2
      show (if o.1 = k then some o.2 else lk k (mrg (e :: r) os)) = (lk k (e :: r)).or (if o.1 = k then some o.2 else lk k os)
      rw [ih]
      by_cases z : o.1 = k
      · rw [if_pos z, if_pos z, lk_none (es := e :: r) fun x hx => ?_]
        · simp
        · rcases List.mem_cons.mp hx with rfl | hx
          · omega
          · have := h1 x hx
            omega
      · rw [if_neg z, if_neg z]
    · by_cases q2 : o.1 = e.1
      · rw [mrg_eq q2]
        have ih := mrg_lk k r os h2 o2
        show (if e.1 = k then some e.2 else lk k (mrg r os)) = (if e.1 = k then some e.2 else lk k r).or (if o.1 = k then some o.2 else lk k os)
        rw [ih, q2]
        split <;> simp
      · rw [mrg_gt (by omega)]
        have ih := mrg_lk k r (o :: os) h2 ho
        show (if e.1 = k then some e.2 else lk k (mrg r (o :: os))) = (if e.1 = k then some e.2 else lk k r).or (lk k (o :: os))
        rw [ih]
        split <;> simp
termination_by n o => n.length + o.length
/-- entries of keys that are there -/
def live (es : List En) : List En := es.filter fun e => e.2.isSome
theorem live_srt {es : List En} (h : Srt es) : Srt (live es) := h.sublist List.filter_sublist
theorem live_mem {es : List En} {e : En} : e ∈ live es ↔ e ∈ es ∧ e.2.isSome = true := List.mem_filter
theorem live_lk {es : List En} (h : Srt es) (k : Int) : (lk k (live es)).getD none = (lk k es).getD none := by
  cases e : lk k es with
  | none =>
    have : lk k (live es) = none := lk_none fun x hx q => by
      have := lk_some h (show (k, x.2) ∈ es by rw [← q]; exact (live_mem.mp hx).1)
      rw [e] at this
      cases this
    rw [this]
  | some c =>
    have hm := lk_mem e
    cases c with
    | none =>
      have : lk k (live es) = none := lk_none fun x hx q => by
        obtain ⟨h1, h2⟩ := live_mem.mp hx
        have := lk_some h (show (k, x.2) ∈ es by rw [← q]; exact h1)
        rw [e] at this
        rw [← Option.some.inj this] at h2
        cases h2
      rw [this]
      rfl
    | some v =>
      have : lk k (live es) = some (some v) := lk_some (live_srt h) (live_mem.mpr ⟨hm, rfl⟩)
      rw [this]
/-- two sorted lists of the same members -/
theorem srt_ext : ∀ {as bs : List En}, Srt as → Srt bs → (∀ x, x ∈ as ↔ x ∈ bs) → as = bs
  | [], [], _, _, _ => rfl
  | [], b :: bs, _, _, h => by have := (h b).mpr (by simp); cases this
  | a :: as, [], _, _, h => by have := (h a).mp (by simp); cases this
  | a :: as, b :: bs, ha, hb, h => by
    obtain ⟨a1, a2⟩ := List.pairwise_cons.mp ha
    obtain ⟨b1, b2⟩ := List.pairwise_cons.mp hb
    have e : a = b := by
      rcases List.mem_cons.mp ((h a).mp (by simp)) with q | q
      · exact q
      · rcases List.mem_cons.mp ((h b).mpr (by simp)) with z | z
        · exact z.symm
        · have := b1 a q
          have := a1 b z
          omega
    subst e
    rw [srt_ext a2 b2 fun x => ⟨fun hx => ?_, fun hx => ?_⟩]
    · rcases List.mem_cons.mp ((h x).mp (by simp [hx])) with q | q
      · have := a1 x hx
        rw [q] at this
        omega
      · exact q
    · rcases List.mem_cons.mp ((h x).mpr (by simp [hx])) with q | q
      · have := b1 x hx
        rw [q] at this
        omega
      · exact q
/-! ### the store -/
def runsLk (k : Int) : List (Option (List En)) → Option (Option Int)
  | [] => none
  | none :: r => runsLk k r
  | some es :: r => (lk k es).or (runsLk k r)
def semS (k : Int) (buf : List En) (runs : List (Option (List En))) : Option (Option Int) := (lk k buf).or (runsLk k runs)
def runLen : Option (List En) → Nat
  | none => 0
  | some es => es.length
def sizeS (buf : List En) (runs : List (Option (List En))) : Nat := buf.length + (runs.map runLen).sum
def RunOk (r : Option (List En)) : Prop := ∀ es, r = some es → Srt es ∧ es ≠ []
/-- the bounds of keys -/
def KeysIn (es : List En) : Prop := ∀ e ∈ es, -268435456 ≤ e.1 ∧ e.1 ≤ 268435456
structure StOkS (buf : List En) (runs : List (Option (List En))) (N : Nat) : Prop where
  sb : Srt buf
  sr : ∀ r ∈ runs, RunOk r
  kb : KeysIn buf
  kr : ∀ es, some es ∈ runs → KeysIn es
  size : sizeS buf runs ≤ N
  len : runs.length ≤ N
theorem runsLk_append (k : Int) : ∀ (a b : List (Option (List En))), runsLk k (a ++ b) = (runsLk k a).or (runsLk k b)
  | [], b => by simp [runsLk]
  | none :: r, b => by
    show runsLk k (r ++ b) = (runsLk k r).or (runsLk k b)
    exact runsLk_append k r b
  | some es :: r, b => by
    show (lk k es).or (runsLk k (r ++ b)) = ((lk k es).or (runsLk k r)).or (runsLk k b)
    rw [runsLk_append k r b, Option.or_assoc]
theorem runsLk_nones (k : Int) : ∀ (n : Nat), runsLk k (List.replicate n none) = none
  | 0 => rfl
  | n + 1 => by
    rw [List.replicate_succ]
    exact runsLk_nones k n
theorem runsLk_allnone (k : Int) : ∀ {rs : List (Option (List En))}, (∀ r ∈ rs, r = none) → runsLk k rs = none
  | [], _ => rfl
  | none :: rs, h => by
    show runsLk k rs = none
    exact runsLk_allnone k (rs := rs) fun x hx => h x (List.mem_cons_of_mem _ hx)
  | some es :: rs, h => by
    have := h (some es) (List.mem_cons_self ..)
    cases this
theorem mrgs_lk (k : Int) : ∀ (ss : List (List En)) (es : List En), Srt es → (∀ s ∈ ss, Srt s) → Srt (ss.foldl mrg es) ∧ lk k (ss.foldl mrg es) = (lk k es).or (runsLk k (ss.map some))
  | [], es, h, _ => ⟨h, by simp [runsLk]⟩
  | s :: ss, es, h, hs => by
    have h1 := mrg_srt es s h (hs s (by simp))
    obtain ⟨a, b⟩ := mrgs_lk k ss (mrg es s) h1 fun x hx => hs x (by simp [hx])
    refine ⟨a, ?_⟩
    show lk k (ss.foldl mrg (mrg es s)) = (lk k es).or ((lk k s).or (runsLk k (ss.map some)))
    rw [b, mrg_lk k es s h (hs s (by simp)), Option.or_assoc]
theorem mrgs_len : ∀ (ss : List (List En)) (es : List En), (ss.foldl mrg es).length ≤ es.length + (ss.map List.length).sum
  | [], es => by simp
  | s :: ss, es => by
    have h1 := mrgs_len ss (mrg es s)
    have h2 := mrg_len es s
    show (ss.foldl mrg (mrg es s)).length ≤ _
    simp
    omega
theorem mrgs_keys : ∀ (ss : List (List En)) (es : List En), KeysIn es → (∀ s ∈ ss, KeysIn s) → KeysIn (ss.foldl mrg es)
  | [], es, h, _ => h
  | s :: ss, es, h, hs => by
    refine mrgs_keys ss (mrg es s) (fun e he => ?_) fun x hx => hs x (by simp [hx])
    rcases mrg_mem es s he with q | q
    · exact h e q
    · exact hs s (by simp) e q
theorem live_keys {es : List En} (h : KeysIn es) : KeysIn (live es) := fun e he => h e (live_mem.mp he).1
theorem live_len (es : List En) : (live es).length ≤ es.length := List.length_filter_le _ _
end Fw
/-! The mathematics of the store's flush. Plain Lean. -/
namespace Fw
def valS (k : Int) (buf : List En) (runs : List (Option (List En))) : Option Int := (semS k buf runs).getD none
structure StOkS2 (buf : List En) (runs : List (Option (List En))) (A B : Nat) : Prop where
  sb : Srt buf
  sr : ∀ es, some es ∈ runs → Srt es ∧ es ≠ [] ∧ KeysIn es
  kb : KeysIn buf
  size : sizeS buf runs ≤ A
  len : runs.length ≤ B
theorem sum_somes : ∀ ss : List (List En), ((ss.map some).map runLen).sum = (ss.map List.length).sum
  | [] => rfl
  | s :: ss => by
    have := sum_somes ss
    simp only [List.map_cons, List.sum_cons, this]
    rfl
theorem sum_nones : ∀ n : Nat, ((List.replicate n (none : Option (List En))).map runLen).sum = 0
  | 0 => rfl
  | n + 1 => by
    have := sum_nones n
    rw [List.replicate_succ, List.map_cons, List.sum_cons, this]
    rfl
/-- the run that a flush makes -/
def mkRun (es : List En) : Option (List En) := if es = [] then none else some es
theorem mkRun_lk (k : Int) (es : List En) (r : List (Option (List En))) : runsLk k (mkRun es :: r) = (lk k es).or (runsLk k r) := by
  unfold mkRun
  split
  · rename_i h
    subst h
    show runsLk k r = (none : Option (Option Int)).or (runsLk k r)
    rfl
  · rfl
/-- the rest of the runs: none, or it begins without a run -/
def tailOf (rest : List (Option (List En))) : List (Option (List En)) := rest.tail
def RestOk (rest : List (Option (List En))) : Prop := rest = [] ∨ ∃ t, rest = none :: t
theorem rest_lk {rest : List (Option (List En))} (h : RestOk rest) (k : Int) : runsLk k rest = runsLk k rest.tail := by
  rcases h with rfl | ⟨t, rfl⟩
  · rfl
  · rfl
theorem any_rest {rest : List (Option (List En))} (h : rest.any (fun r => r.isSome) = false) : ∀ r ∈ rest, r = none := fun r hr => by
  have := List.any_eq_false.mp h r hr
  cases r with
  | none => rfl
  | some es => exact absurd rfl this
/-- the entries that a flush keeps -/
def keepE (rest : List (Option (List En))) (es : List En) : List En := if rest.any (fun r => r.isSome) = true then es else live es
theorem keepE_srt {rest : List (Option (List En))} {es : List En} (h : Srt es) : Srt (keepE rest es) := by
  unfold keepE
  split
  · exact h
  · exact live_srt h
theorem keepE_keys {rest : List (Option (List En))} {es : List En} (h : KeysIn es) : KeysIn (keepE rest es) := by
  unfold keepE
  split
  · exact h
  · exact live_keys h
theorem keepE_len (rest : List (Option (List En))) (es : List En) : (keepE rest es).length ≤ es.length := by
  unfold keepE
  split
  · exact Nat.le_refl _
  · exact live_len es
theorem keepE_val {rest : List (Option (List En))} {es : List En} (h : Srt es) (k : Int) : ((lk k (keepE rest es)).or (runsLk k rest)).getD none = ((lk k es).or (runsLk k rest)).getD none := by
  unfold keepE
  split
  · rfl
  · rename_i q
    have q : rest.any (fun r => r.isSome) = false := by
      cases z : rest.any (fun r => r.isSome) with
      | true => exact absurd z q
      | false => rfl
    rw [runsLk_allnone k (any_rest q), Option.or_none, Option.or_none]
    exact live_lk h k
def newRuns (n : Nat) (es : List En) (rest : List (Option (List En))) : List (Option (List En)) := List.replicate n none ++ mkRun es :: rest.tail
theorem flush_ok {buf : List En} {ss : List (List En)} {rest : List (Option (List En))} {A B : Nat} (h : StOkS2 buf (ss.map some ++ rest) A B) (hr : RestOk rest) :
    StOkS2 [] (newRuns ss.length (keepE rest (ss.foldl mrg buf)) rest) A (B + 1) ∧ ∀ k, valS k [] (newRuns ss.length (keepE rest (ss.foldl mrg buf)) rest) = valS k buf (ss.map some ++ rest) := by
  have hss : ∀ s ∈ ss, Srt s ∧ s ≠ [] ∧ KeysIn s := fun s hs => h.sr s (by simp [hs])
  have m := fun k => mrgs_lk k ss buf h.sb fun s hs => (hss s hs).1
  have ms := (m 0).1
  have mk := mrgs_keys ss buf h.kb fun s hs => (hss s hs).2.2
  have ml := mrgs_len ss buf
  have kl := keepE_len rest (ss.foldl mrg buf)
  have hsz := h.size
  unfold sizeS at hsz
  rw [List.map_append, List.sum_append, sum_somes] at hsz
  have hrt : (rest.tail.map runLen).sum = (rest.map runLen).sum ∧ rest.tail.length ≤ rest.length := by
    rcases hr with rfl | ⟨t, rfl⟩
    · exact ⟨rfl, Nat.le_refl _⟩
    · refine ⟨?_, by simp⟩
      show (t.map runLen).sum = 0 + (t.map runLen).sum
      omega
  refine ⟨⟨.nil, fun es he => ?_, (fun e he => nomatch he), ?_, ?_⟩, fun k => ?_⟩
  · rcases List.mem_append.mp he with q | q
    · have := (List.mem_replicate.mp q).2
      cases this
    · rcases List.mem_cons.mp q with q | q
      · unfold mkRun at q
        split at q
        · cases q
        · cases q
          rename_i hne
          exact ⟨keepE_srt ms, hne, keepE_keys mk⟩
      · exact h.sr es (List.mem_append.mpr (.inr (List.mem_of_mem_tail q)))
  · unfold sizeS newRuns
    rw [List.map_append, List.sum_append, sum_nones, List.map_cons, List.sum_cons, hrt.1]
    have : runLen (mkRun (keepE rest (ss.foldl mrg buf))) ≤ (keepE rest (ss.foldl mrg buf)).length := by
      unfold mkRun
      split
      · exact Nat.zero_le _
      · exact Nat.le_refl _
    simp only [List.length_nil]
    omega
  · unfold newRuns
    have := h.len
    rw [List.length_append, List.length_map] at this
    rw [List.length_append, List.length_replicate, List.length_cons]
    omega
  · unfold valS semS newRuns
    rw [runsLk_append, runsLk_nones, mkRun_lk]
    show ((none : Option (Option Int)).or ((none : Option (Option Int)).or ((lk k (keepE rest (ss.foldl mrg buf))).or (runsLk k rest.tail)))).getD none = ((lk k buf).or (runsLk k (ss.map some ++ rest))).getD none
    rw [Option.none_or, Option.none_or, ← rest_lk hr, keepE_val ms, (m k).2, runsLk_append, Option.or_assoc]
/-! ### a write -/
theorem write_val {buf : List En} {runs : List (Option (List En))} (h : Srt buf) (x : Int) (c : Option Int) (k : Int) : valS k (mrg [(x, c)] buf) runs = if k = x then c else valS k buf runs := by
  unfold valS semS
  rw [mrg_lk k [(x, c)] buf (by simp) h]
  show (((if x = k then some c else none).or (lk k buf)).or (runsLk k runs)).getD none = _
  by_cases q : k = x
  · rw [if_pos q.symm, if_pos q]
    rfl
  · rw [if_neg fun z => q z.symm, if_neg q]
    rfl
theorem write_ok {buf : List En} {runs : List (Option (List En))} {A B : Nat} (h : StOkS2 buf runs A B) {x : Int} {c : Option Int} (h0 : -268435456 ≤ x) (h1 : x ≤ 268435456) : StOkS2 (mrg [(x, c)] buf) runs (A + 1) B := by
  refine ⟨mrg_srt _ _ (by simp) h.sb, h.sr, fun e he => ?_, ?_, h.len⟩
  · rcases mrg_mem _ _ he with q | q
    · rw [List.mem_singleton.mp q]
      exact ⟨h0, h1⟩
    · exact h.kb e q
  · have := h.size
    have := mrg_len [(x, c)] buf
    unfold sizeS at *
    simp at this
    omega
/-! ### the contents -/
def addRun (acc : List En) : Option (List En) → List En
  | none => acc
  | some es => mrg acc es
theorem addRuns_lk (k : Int) : ∀ (rs : List (Option (List En))) (acc : List En), Srt acc → (∀ es, some es ∈ rs → Srt es) → Srt (rs.foldl addRun acc) ∧ lk k (rs.foldl addRun acc) = (lk k acc).or (runsLk k rs)
  | [], acc, h, _ => ⟨h, by simp [runsLk]⟩
  | none :: rs, acc, h, hs => addRuns_lk k rs acc h fun es he => hs es (List.mem_cons_of_mem _ he)
  | some es :: rs, acc, h, hs => by
    have h1 := mrg_srt acc es h (hs es (List.mem_cons_self ..))
    obtain ⟨a, b⟩ := addRuns_lk k rs (mrg acc es) h1 fun x hx => hs x (List.mem_cons_of_mem _ hx)
    refine ⟨a, ?_⟩
    show lk k (rs.foldl addRun (mrg acc es)) = (lk k acc).or ((lk k es).or (runsLk k rs))
    rw [b, mrg_lk k acc es h (hs es (List.mem_cons_self ..)), Option.or_assoc]
theorem addRuns_len : ∀ (rs : List (Option (List En))) (acc : List En), (rs.foldl addRun acc).length ≤ acc.length + (rs.map runLen).sum
  | [], acc => by simp
  | none :: rs, acc => by
    have := addRuns_len rs acc
    show (rs.foldl addRun acc).length ≤ acc.length + (0 + (rs.map runLen).sum)
    omega
  | some es :: rs, acc => by
    have h1 := addRuns_len rs (mrg acc es)
    have h2 := mrg_len acc es
    show (rs.foldl addRun (mrg acc es)).length ≤ acc.length + (es.length + (rs.map runLen).sum)
    omega
def contS (buf : List En) (runs : List (Option (List En))) : List En := live (runs.foldl addRun buf)
/-- a list that tells a dictionary -/
structure Tells (m : Int → Option Int) (cs : List En) : Prop where
  srt : Srt cs
  all : ∀ e ∈ cs, e.2.isSome = true
  mem : ∀ (k v : Int), (k, some v) ∈ cs ↔ m k = some v
theorem cont_tells {buf : List En} {runs : List (Option (List En))} {A B : Nat} (h : StOkS2 buf runs A B) : Tells (fun k => valS k buf runs) (contS buf runs) := by
  have m := fun k => addRuns_lk k runs buf h.sb fun es he => (h.sr es he).1
  refine ⟨live_srt (m 0).1, fun e he => (live_mem.mp he).2, fun k v => ?_⟩
  unfold valS semS
  rw [← (m k).2]
  constructor
  · intro hm
    rw [lk_some (m 0).1 (live_mem.mp hm).1]
    rfl
  · intro hv
    refine live_mem.mpr ⟨lk_mem ?_, rfl⟩
    cases q : lk k (runs.foldl addRun buf) with
    | none => rw [q] at hv; cases hv
    | some c =>
      rw [q] at hv
      have hv : c = some v := hv
      rw [hv]
theorem tells_eq {m m' : Int → Option Int} {as bs : List En} (ha : Tells m as) (hb : Tells m' bs) (h : ∀ k, m k = m' k) : as = bs := by
  refine srt_ext ha.srt hb.srt fun x => ?_
  obtain ⟨k, c⟩ := x
  constructor
  · intro hx
    cases c with
    | none => have := ha.all _ hx; cases this
    | some v => exact (hb.mem k v).mpr (by rw [← h]; exact (ha.mem k v).mp hx)
  · intro hx
    cases c with
    | none => have := hb.all _ hx; cases this
    | some v => exact (ha.mem k v).mpr (by rw [h]; exact (hb.mem k v).mp hx)
end Fw
namespace Fw
open PySem L2
/-! ### heaps: what is kept -/
/-- all but the cells of S is kept; nothing is lost -/
def Kp (S : List Addr) (H H' : Hp) : Prop := ∀ b o, H b = some o → (b ∉ S → H' b = some o) ∧ H' b ≠ none
theorem Kp.refl (S : List Addr) (H : Hp) : Kp S H H := fun b o h => ⟨fun _ => h, by rw [h]; exact fun q => by cases q⟩
theorem Kp.trans {S : List Addr} {H H1 H2 : Hp} (a : Kp S H H1) (b : Kp S H1 H2) : Kp S H H2 := fun c o h => by
  obtain ⟨a1, a2⟩ := a c o h
  cases e : H1 c with
  | none => exact absurd e a2
  | some u =>
    obtain ⟨b1, b2⟩ := b c u e
    refine ⟨fun n => ?_, b2⟩
    have q := a1 n
    rw [e] at q
    cases q
    exact b1 n
theorem Kp.mono {S T : List Addr} {H H' : Hp} (a : Kp S H H') (h : ∀ b ∈ S, b ∈ T) : Kp T H H' := fun c o e => ⟨fun n => (a c o e).1 fun q => n (h c q), (a c o e).2⟩
theorem Kp.same {H H' : Hp} (a : Kp [] H H') : Same H H' := fun b o h => (a b o h).1 (by simp)
theorem Kp.of {S : List Addr} {H H' : Hp} (a : Same H H') : Kp S H H' := fun b o h => ⟨fun _ => a b o h, by rw [a b o h]; exact fun q => by cases q⟩
theorem Kp.free {S : List Addr} {H H' : Hp} {b : Addr} (a : Kp S H H') (h : H' b = none) : H b = none := by
  cases e : H b with
  | none => rfl
  | some o => exact absurd h (a b o e).2
theorem Kp.upd {S : List Addr} {H H' : Hp} {p : Addr} {o : HO} (a : Kp S H H') (h : p ∈ S ∨ H p = none) : Kp S H (upd H' p o) := fun b u e => by
  obtain ⟨a1, a2⟩ := a b u e
  by_cases q : b = p
  · subst q
    refine ⟨fun n => ?_, by rw [upd_same]; exact fun z => by cases z⟩
    rcases h with h | h
    · exact absurd h n
    · rw [h] at e
      cases e
  · rw [upd_ne q]
    exact ⟨a1, a2⟩
theorem Kp.new {S : List Addr} {H : Hp} {p : Addr} {o : HO} (h : H p = none) : Kp S H (L2.upd H p o) := (Kp.refl S H).upd (.inr h)
theorem Same.new {H : Hp} {p : Addr} {o : HO} (h : H p = none) : Same H (L2.upd H p o) := fun b u e => by
  rw [upd_ne (ne_of_none e h)]
  exact e
theorem Same.upd {H H' : Hp} {p : Addr} {o : HO} (a : Same H H') (h : H p = none) : Same H (L2.upd H' p o) := fun b u e => by
  rw [upd_ne (ne_of_none e h)]
  exact a b u e
theorem upd_none {H : Hp} {p b : Addr} {o : HO} (h : L2.upd H p o b = none) : b ≠ p ∧ H b = none := by
  have n : b ≠ p := fun q => by subst q; rw [upd_same] at h; cases h
  rw [upd_ne n] at h
  exact ⟨n, h⟩
/-- what is kept of the cells outside S -/
theorem Kp.at {S : List Addr} {H H' : Hp} {b : Addr} {o : HO} (a : Kp S H H') (h : H b = some o) (n : b ∉ S) : H' b = some o := (a b o h).1 n
/-- cells dropped: new ones at H -/
theorem Kp.drop {S T : List Addr} {H H' : Hp} (a : Kp S H H') (h : ∀ b ∈ S, b ∈ T ∨ H b = none) : Kp T H H' := by
  intro c o e
  refine ⟨fun n => (a c o e).1 fun q => ?_, (a c o e).2⟩
  rcases h c q with z | z
  · exact n z
  · rw [z] at e
    cases e
/-- tuples are kept -/
def KT (H H' : Hp) : Prop := ∀ a xs, H a = some (.tup xs) → H' a = some (.tup xs)
theorem KT.refl (H : Hp) : KT H H := fun _ _ h => h
theorem KT.trans {H H1 H2 : Hp} (a : KT H H1) (b : KT H1 H2) : KT H H2 := fun c xs h => b c xs (a c xs h)
theorem KT.of {H H' : Hp} (a : Same H H') : KT H H' := fun b xs h => a b _ h
theorem KT.upd {H H' : Hp} {p : Addr} {o : HO} (a : KT H H') (h : ∀ xs, H p ≠ some (.tup xs)) : KT H (L2.upd H' p o) := fun b xs e => by
  have n : b ≠ p := fun q => by subst q; exact h xs e
  rw [upd_ne n]
  exact a b xs e
theorem KT.kp {S : List Addr} {H H' : Hp} (a : Kp S H H') (h : ∀ b ∈ S, ∀ xs, H b ≠ some (.tup xs)) : KT H H' := fun b xs e => (a b _ e).1 fun q => h b q xs e
theorem nt_ins {H : Hp} {p C dx : Addr} {fs : List (Str × V)} (h : H p = some (.ins C dx fs)) : ∀ xs, H p ≠ some (.tup xs) := fun xs q => by rw [h] at q; cases q
theorem nt_lst {H : Hp} {p : Addr} {ys : List V} (h : H p = some (.lst ys)) : ∀ xs, H p ≠ some (.tup xs) := fun xs q => by rw [h] at q; cases q
theorem nt_none {H : Hp} {p : Addr} (h : H p = none) : ∀ xs, H p ≠ some (.tup xs) := fun xs q => by rw [h] at q; cases q
/-! ### the heap without the cells M -/
def hid (H : Hp) (M : List Addr) : Hp := fun b => if b ∈ M then none else H b
theorem hid_out {H : Hp} {M : List Addr} {b : Addr} (h : b ∉ M) : hid H M b = H b := by unfold hid; rw [if_neg h]
theorem hid_in {H : Hp} {M : List Addr} {b : Addr} (h : b ∈ M) : hid H M b = none := by unfold hid; rw [if_pos h]
theorem hid_some {H : Hp} {M : List Addr} {b : Addr} {o : HO} (h : hid H M b = some o) : H b = some o ∧ b ∉ M := by
  by_cases q : b ∈ M
  · rw [hid_in q] at h; cases h
  · rw [hid_out q] at h; exact ⟨h, q⟩
theorem hid_same (H : Hp) (M : List Addr) : Same (hid H M) H := fun b o h => (hid_some h).1
theorem hid_mk {H : Hp} {M : List Addr} {b : Addr} {o : HO} (h : H b = some o) (n : b ∉ M) : hid H M b = some o := by rw [hid_out n]; exact h
theorem hid_kp {S M : List Addr} {H H' : Hp} (a : Kp S H H') (h : ∀ b ∈ S, b ∈ M) : Same (hid H M) (hid H' M) := fun b o e => by
  obtain ⟨e1, e2⟩ := hid_some e
  exact hid_mk ((a b o e1).1 fun q => e2 (h b q)) e2
theorem hid_sub {M M' : List Addr} {H : Hp} (h : ∀ b ∈ M, b ∈ M') : Same (hid H M') (hid H M) := fun b o e => by
  obtain ⟨e1, e2⟩ := hid_some e
  exact hid_mk e1 fun q => e2 (h b q)
/-- the cells of M are there -/
def Live (M : List Addr) (H : Hp) : Prop := ∀ b ∈ M, H b ≠ none
theorem Live.kp {S M : List Addr} {H H' : Hp} (l : Live M H) (a : Kp S H H') : Live M H' := fun b hb => by
  cases e : H b with
  | none => exact absurd e (l b hb)
  | some o => exact (a b o e).2
theorem Live.not {M : List Addr} {H : Hp} {b : Addr} (l : Live M H) (h : H b = none) : b ∉ M := fun q => l b q h
/-- a new cell beside those hidden -/
theorem hid_cons {M : List Addr} {H H' : Hp} {p : Addr} (a : Same H H') (h : H p = none) : Same (hid H M) (hid H' (p :: M)) := fun b o e => by
  obtain ⟨e1, e2⟩ := hid_some e
  refine hid_mk (a b o e1) fun q => ?_
  rcases List.mem_cons.mp q with z | z
  · subst z; rw [h] at e1; cases e1
  · exact e2 z
/-! ### lists of things, side by side -/
def All2 {α β : Type} (R : α → β → Prop) (xs : List α) (ys : List β) : Prop := xs.length = ys.length ∧ ∀ (i : Nat) (x : α) (y : β), xs[i]? = some x → ys[i]? = some y → R x y
section
variable {α β : Type} {R S : α → β → Prop} {xs xs' : List α} {ys ys' : List β} {x : α} {y : β}
theorem All2.nil : All2 R [] [] := ⟨rfl, fun i x y h => by simp at h⟩
theorem All2.mono (a : All2 R xs ys) (h : ∀ x y, R x y → S x y) : All2 S xs ys := ⟨a.1, fun i x y e1 e2 => h x y (a.2 i x y e1 e2)⟩
theorem All2.append (a : All2 R xs ys) (b : All2 R xs' ys') : All2 R (xs ++ xs') (ys ++ ys') := by
  refine ⟨by rw [List.length_append, List.length_append, a.1, b.1], fun i x y e1 e2 => ?_⟩
  by_cases hi : i < xs.length
  · rw [List.getElem?_append_left hi] at e1
    rw [List.getElem?_append_left (by rw [← a.1]; exact hi)] at e2
    exact a.2 i x y e1 e2
  · rw [List.getElem?_append_right (by omega)] at e1
    rw [List.getElem?_append_right (by rw [← a.1]; omega), ← a.1] at e2
    exact b.2 _ x y e1 e2
theorem All2.one (h : R x y) : All2 R [x] [y] := ⟨rfl, fun i x' y' e1 e2 => by
  cases i with
  | zero => simp at e1 e2; subst e1; subst e2; exact h
  | succ i => simp at e1⟩
theorem All2.snoc (a : All2 R xs ys) (h : R x y) : All2 R (xs ++ [x]) (ys ++ [y]) := a.append (.one h)
theorem All2.cons (a : All2 R xs ys) (h : R x y) : All2 R (x :: xs) (y :: ys) := (All2.one h).append a
theorem All2.left (a : All2 R xs ys) {i : Nat} (h : xs[i]? = some x) : ∃ y, ys[i]? = some y ∧ R x y := by
  have hi : i < ys.length := by rw [← a.1]; exact (List.getElem?_eq_some_iff.mp h).1
  exact ⟨ys[i], List.getElem?_eq_getElem hi, a.2 i x _ h (List.getElem?_eq_getElem hi)⟩
theorem All2.right (a : All2 R xs ys) {i : Nat} (h : ys[i]? = some y) : ∃ x, xs[i]? = some x ∧ R x y := by
  have hi : i < xs.length := by rw [a.1]; exact (List.getElem?_eq_some_iff.mp h).1
  exact ⟨xs[i], List.getElem?_eq_getElem hi, a.2 i _ y (List.getElem?_eq_getElem hi) h⟩
theorem All2.take (a : All2 R xs ys) (n : Nat) : All2 R (xs.take n) (ys.take n) := ⟨by rw [List.length_take, List.length_take, a.1], fun i x y e1 e2 => by
  rw [List.getElem?_take] at e1 e2
  split at e1
  · rename_i h
    rw [if_pos h] at e2
    exact a.2 i x y e1 e2
  · cases e1⟩
theorem All2.drop (a : All2 R xs ys) (n : Nat) : All2 R (xs.drop n) (ys.drop n) := ⟨by rw [List.length_drop, List.length_drop, a.1], fun i x y e1 e2 => by
  rw [List.getElem?_drop] at e1 e2
  exact a.2 _ x y e1 e2⟩
theorem All2.dropLast (a : All2 R xs ys) : All2 R xs.dropLast ys.dropLast := by
  rw [List.dropLast_eq_take, List.dropLast_eq_take, ← a.1]
  exact a.take _
theorem All2.nil_iff (a : All2 R xs ys) : xs = [] ↔ ys = [] := by
  rw [← List.length_eq_zero_iff, ← List.length_eq_zero_iff, a.1]
theorem All2.set (a : All2 R xs ys) (n : Nat) (h : R x y) : All2 R (xs.set n x) (ys.set n y) := ⟨by rw [List.length_set, List.length_set, a.1], fun i x' y' e1 e2 => by
  rw [List.getElem?_set] at e1 e2
  rw [a.1] at e1
  split at e1
  · rename_i q
    rw [if_pos q] at e2
    split at e1
    · rename_i q2
      rw [if_pos q2] at e2
      cases e1; cases e2; exact h
    · cases e1
  · rename_i q
    rw [if_neg q] at e2
    exact a.2 i x' y' e1 e2⟩
end
/-! ### tuples in a heap -/
def IsT (H : Hp) (v : V) (xs : List V) : Prop := ∃ a, v = .ref a ∧ H a = some (.tup xs)
theorem IsT.mono {H H' : Hp} {v : V} {xs : List V} (k : KT H H') (h : IsT H v xs) : IsT H' v xs := by
  obtain ⟨a, e, h⟩ := h
  exact ⟨a, e, k a xs h⟩
/-! ### numbers in bounds -/
abbrev B64 (n : Int) : Prop := -(2 ^ 64) < n ∧ n < 2 ^ 64
/-! ### callees by their names -/
section
variable (P : Program) (w : World) (K : PySem.W.Frag) (mg : Str → Option Value) (base : Heap)
def FnG (k : Nat) (x : Str) (ps : List Str) (sp : Sp) : Prop :=
  ∃ (f : Addr) (fd : FuncData), FnOk P w K mg base CX0 k f fd ps sp ∧ mg x = some (.ref f) ∧ PySem.W.keepIn K (.ref f) = true ∧ Binds K fd ps []
def ClG (k : Nat) (x : Str) (C : Addr) (ps : List Str) (sp : Sp) : Prop :=
  mg x = some (.ref C) ∧ ∃ (f : Addr) (fd : FuncData), Mk K C f ∧ FnOk P w K mg base CX0 k f fd ps sp ∧ Binds K fd ps []
def MeG (k : Nat) (C : Addr) (m : Str) (ps : List Str) (sp : Sp) : Prop :=
  ∃ (f : Addr) (fd : FuncData), Meth K C m f ∧ FnOk P w K mg base CX0 k f fd ps sp ∧ Binds K fd ps []
end
section
variable {X : Cx} {k : Nat} {x m : Str} {C : Addr} {ps : List Str} {sp : Sp} {p pos apos : Pos} {e o : Expr} {es : List Expr} {t : TA} {ta : TE}
theorem pe_callG (G : FnG X.prog X.w X.K X.mg X.base k x ps sp) (hr : Room k X.A) (hg : Gl X x) (ha : PA X (e :: es) t) (hd : (x == ("__debug__" : Str)) = false := by decide)
    (h1 : starEach (e :: es) X.env = (false, eval e X.env) :: starEach es X.env := by rfl) (h2 : ((backTo pos (starEach es X.env)).any fun x => x.fst) = false := by rfl) :
    PE X (.Call (.Name x p) (e :: es) [] pos) (tCall sp [] E0 t) := by
  obtain ⟨f, fd, F, hm, hk, hb⟩ := G
  exact pe_call F hr hg hm hk hb .nil pass0 ha hd h1 h2
theorem pe_makeG (G : ClG X.prog X.w X.K X.mg X.base k x C ps sp) (hr : Room (k + 1) X.A) (hg : Gl X x) (ha : PA X (e :: es) t) (hd : (x == ("__debug__" : Str)) = false := by decide)
    (h1 : starEach (e :: es) X.env = (false, eval e X.env) :: starEach es X.env := by rfl) (h2 : ((backTo pos (starEach es X.env)).any fun x => x.fst) = false := by rfl) :
    PE X (.Call (.Name x p) (e :: es) [] pos) (tMake C sp [] E0 t) := by
  obtain ⟨hm, f, fd, M, F, hb⟩ := G
  exact pe_make M F hr hg hm hb .nil pass0 ha hd h1 h2
theorem pe_make0G (G : ClG X.prog X.w X.K X.mg X.base k x C ps sp) (hr : Room (k + 1) X.A) (hg : Gl X x) (hd : (x == ("__debug__" : Str)) = false := by decide) :
    PE X (.Call (.Name x p) [] [] pos) (tMake C sp [] E0 tNil) := by
  obtain ⟨hm, f, fd, M, F, hb⟩ := G
  exact pe_make0 M F hr hg hm hb .nil pass0 hd
end
end Fw
namespace Fw
open PySem L2
def top (i : Nat) : Stmt := PySem.Challenge.pw_fewestlines_k40_whole_store_is_a_plain_d.main.body.getD i (.Pass ⟨0, 0, 0, 0⟩)
abbrev sCd : Stmt := top 2
abbrev sFloor : Stmt := top 3
abbrev sCeil : Stmt := top 4
abbrev sFrac : Stmt := top 6
abbrev sSlope : Stmt := top 7
abbrev sLws : Stmt := top 8
abbrev sTurn : Stmt := top 10
abbrev sRise : Stmt := top 11
abbrev sBelow : Stmt := top 12
/-! ### the greatest common divisor -/
theorem gcd_step {a b : Int} (hb : 0 < b) : Int.gcd b (a % b) = Int.gcd a b := by
  have h : a % b = a - (a / b) * b := by
    have := Int.emod_add_mul_ediv a b
    grind
  rw [h, Int.gcd_sub_mul_right_right, Int.gcd_comm]
section
variable {P : Program} {w : World} {K : PySem.W.Frag} {mg : Str → Option Value} {base : Heap}
def spCd : Sp := fun vs H Q _ => ∃ a b : Int, vs = [.int a, .int b] ∧ Q (.int (Int.gcd a b : Nat)) H
theorem scCd : FnScope ["one", "other", "first", "second"] ["one", "other"] (defScope sCd) := ⟨rfl, rfl, rfl, by decide +kernel, rfl, by decide +kernel, by decide +kernel⟩
theorem ok_cd {f : Addr} {fd : FuncData} (F : Fun K "common_divisor" "common_divisor" sCd f fd) (mA : mg "abs" = none) : FnOk P w K mg base CX0 1 f fd ["one", "other"] spCd := by
  refine F.ok scCd (fun vs H Q E h => ?_) (fun cdv A outer s H vs Q E hr h => ?_)
  · obtain ⟨a, b, rfl, _⟩ := h
    rfl
  · obtain ⟨a, b, rfl, k⟩ := h
    refine ⟨_, pss_cons (ps_set (i := 2) scCd.nd rfl (Or.inl rfl) (pe_callB call_abs (by rfl) mA (by decide +kernel) (pa_cons (pv 0) pa_nil)))
      (pss_cons (ps_set (i := 3) scCd.nd rfl (Or.inl rfl) (pe_callB call_abs (by rfl) mA (by decide +kernel) (pa_cons (pv 1) pa_nil)))
      (pss_cons (ps_while PassesOwn.never (pt_truth (pv 3) (by intro _; rfl)) (pss_one (ps_par (i := 2) (j := 3) rfl scCd.nd rfl rfl (by decide) rfl rfl (pa_cons (pv 3) (pa_cons (pe_op op_mod (pv 2) (pv 3)) pa_nil)) (by rfl))))
      (pss_one (ps_ret (pv 2))))), ?_⟩
    refine ⟨_, rfl, _, rfl, _, rfl, _, rfl, ?_⟩
    refine ⟨fun m σ H' => H' = H ∧ ∃ x y : Int, σ = [some (.int a), some (.int b), some (.int x), some (.int y)] ∧ 0 ≤ x ∧ 0 ≤ y ∧ Int.gcd x y = Int.gcd a b ∧ m = y.toNat, ⟨_, rfl, _, _, rfl, by split <;> omega, by split <;> omega, ?_, rfl⟩, ?_⟩
    · have e1 : ∀ z : Int, (if z < 0 then -z else z) = (z.natAbs : Int) := fun z => by split <;> omega
      rw [e1, e1]
      simp [Int.gcd]
    · rintro m σ H' ⟨rfl, x, y, rfl, hx, hy, hg, rfl⟩
      refine ⟨_, rfl, (y != 0), rfl, ?_⟩
      by_cases h0 : y = 0
      · subst h0
        refine iteF ⟨_, rfl, ?_⟩
        have : (Int.gcd a b : Int) = x := by
          rw [← hg, Int.gcd_zero_right]
          omega
        rw [← this]
        exact k
      · have e : (y != 0) = true := by simp [h0]
        rw [e]
        refine iteT ?_
        refine ⟨_, fun σ' H'' q => q, ?_⟩
        refine ⟨_, rfl, _, rfl, _, rfl, _, _, rfl, rfl, (show (0 : Int) < y by omega), _, _, rfl, ?_⟩
        have hm := Int.emod_lt_of_pos x (show 0 < y by omega)
        have hn := Int.emod_nonneg x (show y ≠ 0 by omega)
        refine ⟨(x % y).toNat, by omega, rfl, y, x % y, rfl, hy, hn, ?_, rfl⟩
        rw [gcd_step (by omega), hg]
/-! ### lines at a place -/
def spFloor : Sp := fun vs H Q _ => ∃ (a : Addr) (p q d x : Int), vs = [.ref a, .int x] ∧ H a = some (.tup [.int p, .int q, .int d]) ∧ B64 p ∧ 0 < d ∧ d < 1073741824 ∧ Q (.int ((p * x + q) / d)) H
theorem scFloor : FnScope ["line", "place", "p", "q", "d"] ["line", "place"] (defScope sFloor) := ⟨rfl, rfl, rfl, by decide +kernel, rfl, by decide +kernel, by decide +kernel⟩
theorem ok_floor {f : Addr} {fd : FuncData} (F : Fun K "floor_at" "floor_at" sFloor f fd) : FnOk P w K mg base CX0 1 f fd ["line", "place"] spFloor := by
  refine F.ok scFloor (fun vs H Q E h => ?_) (fun cdv A outer s H vs Q E hr h => ?_)
  · obtain ⟨a, p, q, d, x, rfl, _⟩ := h
    rfl
  · obtain ⟨a, p, q, d, x, rfl, ha, hp, d0, d1, k⟩ := h
    refine ⟨_, pss_cons (ps_asg (pv 0) (pg_tup (by rfl) (pgs_cons (pg_name (i := 2) scFloor.nd rfl (.inl rfl)) (pgs_cons (pg_name (i := 3) scFloor.nd rfl (.inl rfl)) (pgs_cons (pg_name (i := 4) scFloor.nd rfl (.inl rfl)) pgs_nil)))))
      (pss_one (ps_ret (pe_op op_fdiv (pe_op op_add (pe_op op_mul (pv 2) (pv 1)) (pv 3)) (pv 4)))), ?_⟩
    refine ⟨_, rfl, a, _, rfl, SqT.of ha, rfl, _, _, rfl, _, _, rfl, _, _, rfl, rfl, ?_⟩
    exact ⟨_, rfl, _, rfl, _, _, rfl, rfl, .inl hp, _, rfl, _, _, rfl, rfl, _, rfl, _, _, rfl, rfl, ⟨d0, d1⟩, k⟩
def spCeil : Sp := fun vs H Q _ => ∃ (a : Addr) (p q d x : Int), vs = [.ref a, .int x] ∧ H a = some (.tup [.int p, .int q, .int d]) ∧ B64 p ∧ 0 < d ∧ d < 1073741824 ∧ Q (.int (-(-(p * x + q) / d))) H
theorem scCeil : FnScope ["line", "place", "p", "q", "d"] ["line", "place"] (defScope sCeil) := ⟨rfl, rfl, rfl, by decide +kernel, rfl, by decide +kernel, by decide +kernel⟩
theorem ok_ceil {f : Addr} {fd : FuncData} (F : Fun K "ceiling_at" "ceiling_at" sCeil f fd) : FnOk P w K mg base CX0 1 f fd ["line", "place"] spCeil := by
  refine F.ok scCeil (fun vs H Q E h => ?_) (fun cdv A outer s H vs Q E hr h => ?_)
  · obtain ⟨a, p, q, d, x, rfl, _⟩ := h
    rfl
  · obtain ⟨a, p, q, d, x, rfl, ha, hp, d0, d1, k⟩ := h
    refine ⟨_, pss_cons (ps_asg (pv 0) (pg_tup (by rfl) (pgs_cons (pg_name (i := 2) scCeil.nd rfl (.inl rfl)) (pgs_cons (pg_name (i := 3) scCeil.nd rfl (.inl rfl)) (pgs_cons (pg_name (i := 4) scCeil.nd rfl (.inl rfl)) pgs_nil)))))
      (pss_one (ps_ret (pe_un un_neg (pe_op op_fdiv (pe_un un_neg (pe_op op_add (pe_op op_mul (pv 2) (pv 1)) (pv 3))) (pv 4))))), ?_⟩
    refine ⟨_, rfl, a, _, rfl, SqT.of ha, rfl, _, _, rfl, _, _, rfl, _, _, rfl, rfl, ?_⟩
    exact ⟨_, rfl, _, rfl, _, _, rfl, rfl, .inl hp, _, rfl, _, _, rfl, rfl, _, rfl, _, rfl, _, _, rfl, rfl, ⟨d0, d1⟩, _, rfl, k⟩
/-! ### fractions and slopes -/
def spFrac : Sp := fun vs H Q _ => ∃ (n d : Int), vs = [.int n, .int d] ∧ 0 < d ∧ d < 1073741824 ∧
  ∀ (H' : Hp) (t : Addr) (g n' d' : Int), Same H H' → H' t = some (.tup [.int n', .int d']) → 0 < g → n = n' * g → d = d' * g → Q (.ref t) H'
theorem scFrac : FnScope ["numerator", "denominator", "divisor"] ["numerator", "denominator"] (defScope sFrac) := ⟨rfl, rfl, rfl, by decide +kernel, rfl, by decide +kernel, by decide +kernel⟩
theorem ok_frac {f : Addr} {fd : FuncData} (F : Fun K "fraction" "fraction" sFrac f fd) (G : FnG P w K mg base 1 "common_divisor" ["one", "other"] spCd) : FnOk P w K mg base CX0 2 f fd ["numerator", "denominator"] spFrac := by
  refine F.ok scFrac (fun vs H Q E h => ?_) (fun cdv A outer s H vs Q E hr h => ?_)
  · obtain ⟨n, d, rfl, _⟩ := h
    rfl
  · obtain ⟨n, d, rfl, d0, d1, k⟩ := h
    refine ⟨_, pss_cons (ps_set (i := 2) scFrac.nd rfl (Or.inl rfl) (pe_callG G hr (by rfl) (pa_cons (pv 0) (pa_cons (pv 1) pa_nil))))
      (pss_one (ps_ret (pe_tup (pa_cons (pe_op op_fdiv (pv 0) (pv 2)) (pa_cons (pe_op op_fdiv (pv 1) (pv 2)) pa_nil))))), ?_⟩
    have hg : (0 : Int) < (Int.gcd n d : Nat) := by
      have : 0 < Int.gcd n d := Int.gcd_pos_of_ne_zero_right _ (by omega)
      omega
    have hn : ((Int.gcd n d : Nat) : Int) ∣ n := Int.gcd_dvd_left ..
    have hd : ((Int.gcd n d : Nat) : Int) ∣ d := Int.gcd_dvd_right ..
    have hl := Int.le_of_dvd d0 hd
    refine ⟨_, rfl, _, rfl, n, d, rfl, ?_⟩
    refine ⟨_, rfl, _, rfl, _, _, rfl, rfl, ⟨hg, by omega⟩, _, rfl, _, rfl, _, _, rfl, rfl, ⟨hg, by omega⟩, (by show 2 ≤ sizeLine; decide), fun p hp => ?_⟩
    exact k _ p _ _ _ (Same.new hp) upd_same hg (Int.ediv_mul_cancel hn).symm (Int.ediv_mul_cancel hd).symm
def spSlope : Sp := fun vs H Q _ => ∃ (a b : Addr) (n1 d1 n2 d2 : Int), vs = [.ref a, .ref b] ∧ H a = some (.tup [.int n1, .int d1]) ∧ H b = some (.tup [.int n2, .int d2]) ∧ 0 ≤ n2 ∧
  ∀ (H' : Hp) (t : Addr) (p d : Int), Same H H' → H' t = some (.tup [.int p, .int d]) → (0 < n1 ∧ p = n1 ∧ d = d1) ∨ (n1 ≤ 0 ∧ p = 0 ∧ d = 1) → Q (.ref t) H'
theorem scSlope : FnScope ["lower", "upper"] ["lower", "upper"] (defScope sSlope) := ⟨rfl, rfl, rfl, by decide +kernel, rfl, by decide +kernel, by decide +kernel⟩
theorem ok_slope {f : Addr} {fd : FuncData} (F : Fun K "slope_between" "slope_between" sSlope f fd) : FnOk P w K mg base CX0 1 f fd ["lower", "upper"] spSlope := by
  refine F.ok scSlope (fun vs H Q E h => ?_) (fun cdv A outer s H vs Q E hr h => ?_)
  · obtain ⟨a, b, n1, d1, n2, d2, rfl, _⟩ := h
    rfl
  · obtain ⟨a, b, n1, d1, n2, d2, rfl, ha, hb, hn, k⟩ := h
    refine ⟨_, pss_cons (ps_if (pt_cmpR op_gt (pe_ix ix_tup (pv 0) pe_int (fun _ _ => rfl)) pe_int (nomark _)) (pss_one (ps_ret (pv 0))) pss_nil)
      (pss_cons (ps_if (pt_cmpR op_lt (pe_ix ix_tup (pv 1) pe_int (fun _ _ => rfl)) pe_int (nomark _)) (pss_one (ps_ret (pv 1))) pss_nil)
      (pss_one (ps_ret (pe_tup (pa_cons pe_int (pa_cons pe_int pa_nil)))))), ?_⟩
    refine ⟨_, rfl, a, _, _, _, rfl, rfl, SqT.of ha, atI_nat (j := 0) rfl, _, _, rfl, rfl, _, rfl, ite2 (fun e => ?_) (fun e => ?_)⟩
    · exact ⟨_, rfl, k H a n1 d1 (Same.refl H) ha (.inl ⟨of_decide_eq_true e, rfl, rfl⟩)⟩
    · have e1 : n1 ≤ 0 := by
        have := mt decide_eq_true e
        omega
      refine ⟨_, rfl, b, _, _, _, rfl, rfl, SqT.of hb, atI_nat (j := 0) rfl, _, _, rfl, rfl, _, rfl, ite2 (fun e2 => ?_) (fun e2 => ?_)⟩
      · have := of_decide_eq_true e2
        omega
      · refine ⟨(by show 2 ≤ sizeLine; decide), fun p hp => ?_⟩
        exact k _ p _ _ (Same.new hp) upd_same (.inr ⟨e1, rfl, rfl⟩)
/-! ### corners -/
def spTurn : Sp := fun vs H Q _ => ∃ (a b c : Addr) (ax ay bx by_ cx cy : Int) (ra rb rc : List V), vs = [.ref a, .ref b, .ref c] ∧ H a = some (.tup (.int ax :: .int ay :: ra)) ∧ H b = some (.tup (.int bx :: .int by_ :: rb)) ∧
  H c = some (.tup (.int cx :: .int cy :: rc)) ∧ B64 (bx - ax) ∧ B64 (by_ - ay) ∧ Q (.int ((bx - ax) * (cy - ay) - (by_ - ay) * (cx - ax))) H
theorem scTurn : FnScope ["one", "two", "three"] ["one", "two", "three"] (defScope sTurn) := ⟨rfl, rfl, rfl, by decide +kernel, rfl, by decide +kernel, by decide +kernel⟩
theorem ok_turn {f : Addr} {fd : FuncData} (F : Fun K "turn" "turn" sTurn f fd) : FnOk P w K mg base CX0 1 f fd ["one", "two", "three"] spTurn := by
  refine F.ok scTurn (fun vs H Q E h => ?_) (fun cdv A outer s H vs Q E hr h => ?_)
  · obtain ⟨a, b, c, ax, ay, bx, by_, cx, cy, ra, rb, rc, rfl, _⟩ := h
    rfl
  · obtain ⟨a, b, c, ax, ay, bx, by_, cx, cy, ra, rb, rc, rfl, ha, hb, hc, h1, h2, k⟩ := h
    refine ⟨_, pss_one (ps_ret (pe_op op_sub
      (pe_op op_mul (pe_op op_sub (pe_ix ix_tup (pv 1) pe_int (fun _ _ => rfl)) (pe_ix ix_tup (pv 0) pe_int (fun _ _ => rfl))) (pe_op op_sub (pe_ix ix_tup (pv 2) pe_int (fun _ _ => rfl)) (pe_ix ix_tup (pv 0) pe_int (fun _ _ => rfl))))
      (pe_op op_mul (pe_op op_sub (pe_ix ix_tup (pv 1) pe_int (fun _ _ => rfl)) (pe_ix ix_tup (pv 0) pe_int (fun _ _ => rfl))) (pe_op op_sub (pe_ix ix_tup (pv 2) pe_int (fun _ _ => rfl)) (pe_ix ix_tup (pv 0) pe_int (fun _ _ => rfl)))))), ?_⟩
    refine ⟨_, rfl, b, _, _, _, rfl, rfl, SqT.of hb, atI_nat (j := 0) rfl, _, rfl, a, _, _, _, rfl, rfl, SqT.of ha, atI_nat (j := 0) rfl, _, _, rfl, rfl, ?_⟩
    refine ⟨_, rfl, c, _, _, _, rfl, rfl, SqT.of hc, atI_nat (j := 1) rfl, _, rfl, a, _, _, _, rfl, rfl, SqT.of ha, atI_nat (j := 1) rfl, _, _, rfl, rfl, _, _, rfl, rfl, .inl h1, ?_⟩
    refine ⟨_, rfl, b, _, _, _, rfl, rfl, SqT.of hb, atI_nat (j := 1) rfl, _, rfl, a, _, _, _, rfl, rfl, SqT.of ha, atI_nat (j := 1) rfl, _, _, rfl, rfl, ?_⟩
    exact ⟨_, rfl, c, _, _, _, rfl, rfl, SqT.of hc, atI_nat (j := 0) rfl, _, rfl, a, _, _, _, rfl, rfl, SqT.of ha, atI_nat (j := 0) rfl, _, _, rfl, rfl, _, _, rfl, rfl, .inl h2, _, _, rfl, rfl, k⟩
def spRise : Sp := fun vs H Q _ => ∃ (a b : Addr) (ax ay bx by_ : Int) (ra rb : List V), vs = [.ref a, .ref b] ∧ H a = some (.tup (.int ax :: .int ay :: ra)) ∧ H b = some (.tup (.int bx :: .int by_ :: rb)) ∧
  ∀ (H' : Hp) (t : Addr), Same H H' → H' t = some (.tup [.int (by_ - ay), .int (bx - ax)]) → Q (.ref t) H'
theorem scRise : FnScope ["one", "other"] ["one", "other"] (defScope sRise) := ⟨rfl, rfl, rfl, by decide +kernel, rfl, by decide +kernel, by decide +kernel⟩
theorem ok_rise {f : Addr} {fd : FuncData} (F : Fun K "rise_over" "rise_over" sRise f fd) : FnOk P w K mg base CX0 1 f fd ["one", "other"] spRise := by
  refine F.ok scRise (fun vs H Q E h => ?_) (fun cdv A outer s H vs Q E hr h => ?_)
  · obtain ⟨a, b, ax, ay, bx, by_, ra, rb, rfl, _⟩ := h
    rfl
  · obtain ⟨a, b, ax, ay, bx, by_, ra, rb, rfl, ha, hb, k⟩ := h
    refine ⟨_, pss_one (ps_ret (pe_tup (pa_cons (pe_op op_sub (pe_ix ix_tup (pv 1) pe_int (fun _ _ => rfl)) (pe_ix ix_tup (pv 0) pe_int (fun _ _ => rfl)))
      (pa_cons (pe_op op_sub (pe_ix ix_tup (pv 1) pe_int (fun _ _ => rfl)) (pe_ix ix_tup (pv 0) pe_int (fun _ _ => rfl))) pa_nil)))), ?_⟩
    refine ⟨_, rfl, b, _, _, _, rfl, rfl, SqT.of hb, atI_nat (j := 1) rfl, _, rfl, a, _, _, _, rfl, rfl, SqT.of ha, atI_nat (j := 1) rfl, _, _, rfl, rfl, ?_⟩
    refine ⟨_, rfl, b, _, _, _, rfl, rfl, SqT.of hb, atI_nat (j := 0) rfl, _, rfl, a, _, _, _, rfl, rfl, SqT.of ha, atI_nat (j := 0) rfl, _, _, rfl, rfl, (by show 2 ≤ sizeLine; decide), fun p hp => ?_⟩
    exact k _ p (Same.new hp) upd_same
def spBelow : Sp := fun vs H Q _ => ∃ (a b : Addr) (r1 w1 r2 w2 : Int), vs = [.ref a, .ref b] ∧ H a = some (.tup [.int r1, .int w1]) ∧ H b = some (.tup [.int r2, .int w2]) ∧ B64 r1 ∧ B64 r2 ∧ Q (.bl (decide (r1 * w2 < r2 * w1))) H
theorem scBelow : FnScope ["one", "other"] ["one", "other"] (defScope sBelow) := ⟨rfl, rfl, rfl, by decide +kernel, rfl, by decide +kernel, by decide +kernel⟩
theorem ok_below {f : Addr} {fd : FuncData} (F : Fun K "is_below" "is_below" sBelow f fd) : FnOk P w K mg base CX0 1 f fd ["one", "other"] spBelow := by
  refine F.ok scBelow (fun vs H Q E h => ?_) (fun cdv A outer s H vs Q E hr h => ?_)
  · obtain ⟨a, b, r1, w1, r2, w2, rfl, _⟩ := h
    rfl
  · obtain ⟨a, b, r1, w1, r2, w2, rfl, ha, hb, h1, h2, k⟩ := h
    refine ⟨_, pss_one (ps_ret (pe_cmpR op_lt (pe_op op_mul (pe_ix ix_tup (pv 0) pe_int (fun _ _ => rfl)) (pe_ix ix_tup (pv 1) pe_int (fun _ _ => rfl)))
      (pe_op op_mul (pe_ix ix_tup (pv 1) pe_int (fun _ _ => rfl)) (pe_ix ix_tup (pv 0) pe_int (fun _ _ => rfl))) (nomark _))), ?_⟩
    refine ⟨_, rfl, a, _, _, _, rfl, rfl, SqT.of ha, atI_nat (j := 0) rfl, _, rfl, b, _, _, _, rfl, rfl, SqT.of hb, atI_nat (j := 1) rfl, _, _, rfl, rfl, .inl h1, ?_⟩
    exact ⟨_, rfl, b, _, _, _, rfl, rfl, SqT.of hb, atI_nat (j := 0) rfl, _, rfl, a, _, _, _, rfl, rfl, SqT.of ha, atI_nat (j := 1) rfl, _, _, rfl, rfl, .inl h2, _, _, rfl, rfl, k⟩
end
end Fw
namespace Fw
open PySem L2
abbrev sFi : Stmt := inClass (top 13) 0
abbrev sFconf : Stmt := inClass (top 13) 1
abbrev sFadd : Stmt := inClass (top 13) 2
abbrev sFcor : Stmt := inClass (top 13) 3
abbrev sFlow : Stmt := inClass (top 13) 4
abbrev sFrai : Stmt := inClass (top 13) 5
abbrev sFline : Stmt := inClass (top 13) 7
structure FC (K : PySem.W.Frag) (C : Addr) : Prop where
  cl : Cls K C
  nE : NoAttr K C "error"
  nC : NoAttr K C "count"
  nP : NoAttr K C "_points"
  nT : NoAttr K C "_tops"
  nB : NoAttr K C "_bottoms"
  nF : NoAttr K C "_flat"
  nS : NoAttr K C "_steep"
def ffs (e n : Int) (lp lt lb : Addr) (vf vs : V) : List (Str × V) :=
  [("error", .int e), ("count", .int n), ("_points", .ref lp), ("_tops", .ref lt), ("_bottoms", .ref lb), ("_flat", vf), ("_steep", vs)]
theorem ffs_len (e n : Int) (lp lt lb : Addr) (vf vs : V) : (ffs e n lp lt lb vf vs).length < 1000 := by show 7 < 1000; decide
abbrev PtV (H : Hp) (v : V) (z : Pt) : Prop := IsT H v [.int z.1, .int z.2]
abbrev CnV (H : Hp) (v : V) (c : Cn) : Prop := IsT H v [.int c.x, .int c.y, .int c.i]
def PrV (H : Hp) (v : V) (a b : Cn) : Prop := ∃ va vb, IsT H v [va, vb] ∧ CnV H va a ∧ CnV H vb b
theorem PrV.mono {H H' : Hp} {v : V} {a b : Cn} (k : KT H H') (h : PrV H v a b) : PrV H' v a b := by
  obtain ⟨va, vb, h1, h2, h3⟩ := h
  exact ⟨va, vb, h1.mono k, h2.mono k, h3.mono k⟩
theorem pts_mono {H H' : Hp} {ys : List V} {pts : List Pt} (k : KT H H') (h : All2 (PtV H) ys pts) : All2 (PtV H') ys pts := h.mono fun _ _ q => q.mono k
theorem cns_mono {H H' : Hp} {ys : List V} {cs : List Cn} (k : KT H H') (h : All2 (CnV H) ys cs) : All2 (CnV H') ys cs := h.mono fun _ _ q => q.mono k
/-- the fitter's own cells -/
structure Ft (H : Hp) (C p lp lt lb : Addr) (e n : Int) (pts : List Pt) (tops bots : List Cn) (vf vs : V) : Prop where
  ob : ∃ dx, H p = some (.ins C dx (ffs e n lp lt lb vf vs))
  ps : ∃ ys, H lp = some (.lst ys) ∧ All2 (PtV H) ys pts
  ts : ∃ ys, H lt = some (.lst ys) ∧ All2 (CnV H) ys tops
  bs : ∃ ys, H lb = some (.lst ys) ∧ All2 (CnV H) ys bots
  n1 : lp ≠ lt
  n2 : lp ≠ lb
  n3 : lt ≠ lb
theorem Ft.same {H H' : Hp} {C p lp lt lb : Addr} {e n : Int} {pts : List Pt} {tops bots : List Cn} {vf vs : V} (s : Same H H') (h : Ft H C p lp lt lb e n pts tops bots vf vs) : Ft H' C p lp lt lb e n pts tops bots vf vs := by
  obtain ⟨⟨dx, h1⟩, ⟨y1, h2, h3⟩, ⟨y2, h4, h5⟩, ⟨y3, h6, h7⟩, n1, n2, n3⟩ := h
  exact ⟨⟨dx, s _ _ h1⟩, ⟨y1, s _ _ h2, pts_mono (KT.of s) h3⟩, ⟨y2, s _ _ h4, cns_mono (KT.of s) h5⟩, ⟨y3, s _ _ h6, cns_mono (KT.of s) h7⟩, n1, n2, n3⟩
theorem Ft.nt {H : Hp} {C p lp lt lb : Addr} {e n : Int} {pts : List Pt} {tops bots : List Cn} {vf vs : V} (h : Ft H C p lp lt lb e n pts tops bots vf vs) : ∀ b ∈ [p, lp, lt, lb], ∀ xs, H b ≠ some (.tup xs) := by
  obtain ⟨⟨dx, h1⟩, ⟨y1, h2, _⟩, ⟨y2, h4, _⟩, ⟨y3, h6, _⟩, _⟩ := h
  intro b hb
  simp only [List.mem_cons, List.not_mem_nil, or_false] at hb
  rcases hb with rfl | rfl | rfl | rfl
  · exact nt_ins h1
  · exact nt_lst h2
  · exact nt_lst h4
  · exact nt_lst h6
def FitS (H : Hp) (C p lp lt lb : Addr) (e : Int) (pts : List Pt) (f0 f1 s0 s1 : Cn) : Prop :=
  ∃ tops bots vf vs, Ft H C p lp lt lb e pts.length pts tops bots vf vs ∧ FOk e pts tops bots f0 f1 s0 s1 ∧ (2 ≤ pts.length → PrV H vf f0 f1 ∧ PrV H vs s0 s1)
theorem FitS.same {H H' : Hp} {C p lp lt lb : Addr} {e : Int} {pts : List Pt} {f0 f1 s0 s1 : Cn} (s : Same H H') (h : FitS H C p lp lt lb e pts f0 f1 s0 s1) : FitS H' C p lp lt lb e pts f0 f1 s0 s1 := by
  obtain ⟨tops, bots, vf, vs, h1, h2, h3⟩ := h
  exact ⟨tops, bots, vf, vs, h1.same s, h2, fun q => ⟨(h3 q).1.mono (KT.of s), (h3 q).2.mono (KT.of s)⟩⟩
/-- no conflict with a new point -/
def NoC (e : Int) (pts : List Pt) (f0 f1 s0 s1 : Cn) (x y : Int) : Prop :=
  2 ≤ pts.length → ¬ (y + e - f1.y) * (f1.x - f0.x) < (f1.y - f0.y) * (x - f1.x) ∧ ¬ (s1.y - s0.y) * (x - s1.x) < (y - e - s1.y) * (s1.x - s0.x)
/-! ### bounds of corners -/
structure CB (c : Cn) : Prop where
  x0 : -268435456 ≤ c.x
  x1 : c.x ≤ 268435456
  y0 : -1000000 ≤ c.y
  y1 : c.y ≤ 2000000
theorem top_cb {e : Int} {pts : List Pt} {c : Cn} (P : PtsOk e pts) (h : IsTop e pts c) : CB c := by
  obtain ⟨z, hz, h1, h2⟩ := h
  obtain ⟨⟨b1, b2⟩, b3, b4⟩ := P.bd z hz
  have := P.e0
  have := P.e1
  exact ⟨by omega, by omega, by omega, by omega⟩
theorem bot_cb {e : Int} {pts : List Pt} {c : Cn} (P : PtsOk e pts) (h : IsBot e pts c) : CB c := by
  obtain ⟨z, hz, h1, h2⟩ := h
  obtain ⟨⟨b1, b2⟩, b3, b4⟩ := P.bd z hz
  have := P.e0
  have := P.e1
  exact ⟨by omega, by omega, by omega, by omega⟩
theorem b64_of {n : Int} (h : -1000000000 ≤ n) (h' : n ≤ 1000000000) : B64 n := ⟨by omega, by omega⟩
section
variable {P : Program} {w : World} {K : PySem.W.Frag} {mg : Str → Option Value} {base : Heap}
/-! ### a new fitter -/
def spFi (C : Addr) : Sp := fun vs H Q _ => ∃ (p dx : Addr) (e : Int), vs = [.ref p, .int e] ∧ H p = some (.ins C dx []) ∧ 0 ≤ e ∧ e ≤ 1000000 ∧
  ∀ (H' : Hp) (lp lt lb : Addr), Kp [p] H H' → H lp = none → H lt = none → H lb = none → (∀ f0 f1 s0 s1, FitS H' C p lp lt lb e [] f0 f1 s0 s1) → Q .non H'
theorem scFi : FnScope ["self", "error"] ["self", "error"] (defScope sFi) := ⟨rfl, rfl, rfl, by decide +kernel, rfl, by decide +kernel, by decide +kernel⟩
theorem ok_fi {f C : Addr} {fd : FuncData} (F : Fun K "__init__" "Fitter.__init__" sFi f fd) (T : FC K C) : FnOk P w K mg base CX0 1 f fd ["self", "error"] (spFi C) := by
  refine F.ok scFi (fun vs H Q E h => ?_) (fun cdv A outer s H vs Q E hr h => ?_)
  · obtain ⟨p, dx, e, rfl, _⟩ := h
    rfl
  · obtain ⟨p, dx, e, rfl, hp, e0, e1, k⟩ := h
    refine ⟨_, pss_cons (ps_fld (pv 0) (pv 1) rfl) (pss_cons (ps_fld (pv 0) pe_int rfl) (pss_cons (ps_fld (pv 0) (pe_lst pa_nil) rfl) (pss_cons (ps_fld (pv 0) (pe_lst pa_nil) rfl)
      (pss_cons (ps_fld (pv 0) (pe_lst pa_nil) rfl) (pss_cons (ps_fld (pv 0) (pe_tup pa_nil) rfl) (pss_one (ps_fld (pv 0) (pe_tup pa_nil) rfl))))))), ?_⟩
    refine ⟨_, rfl, _, rfl, p, C, dx, _, rfl, hp, T.cl, T.nE, (by show 0 < 1000; decide), ?_⟩
    refine ⟨_, rfl, p, C, dx, _, rfl, upd_same, T.cl, T.nC, (by show 1 < 1000; decide), ?_⟩
    refine ⟨Nat.zero_le _, fun lp hlp => ?_⟩
    rw [upd_upd] at hlp ⊢
    obtain ⟨n1, f1⟩ := upd_none hlp
    refine ⟨_, rfl, p, C, dx, _, rfl, Eq.trans (upd_ne n1.symm) upd_same, T.cl, T.nP, (by show 2 < 1000; decide), ?_⟩
    refine ⟨Nat.zero_le _, fun lt hlt => ?_⟩
    obtain ⟨n2, hlt⟩ := upd_none hlt
    obtain ⟨n3, hlt⟩ := upd_none hlt
    obtain ⟨_, f2⟩ := upd_none hlt
    refine ⟨_, rfl, p, C, dx, _, rfl, Eq.trans (upd_ne n2.symm) upd_same, T.cl, T.nT, (by show 3 < 1000; decide), ?_⟩
    refine ⟨Nat.zero_le _, fun lb hlb => ?_⟩
    obtain ⟨n4, hlb⟩ := upd_none hlb
    obtain ⟨n5, hlb⟩ := upd_none hlb
    obtain ⟨_, hlb⟩ := upd_none hlb
    obtain ⟨n6, hlb⟩ := upd_none hlb
    obtain ⟨_, f3⟩ := upd_none hlb
    refine ⟨_, rfl, p, C, dx, _, rfl, Eq.trans (upd_ne n4.symm) upd_same, T.cl, T.nB, (by show 4 < 1000; decide), ?_⟩
    refine ⟨Nat.zero_le _, fun t1 ht1 => ?_⟩
    obtain ⟨m1, ht1⟩ := upd_none ht1
    obtain ⟨m2, ht1⟩ := upd_none ht1
    obtain ⟨_, ht1⟩ := upd_none ht1
    obtain ⟨m3, ht1⟩ := upd_none ht1
    obtain ⟨_, ht1⟩ := upd_none ht1
    obtain ⟨m4, ht1⟩ := upd_none ht1
    obtain ⟨_, ht1⟩ := upd_none ht1
    refine ⟨_, rfl, p, C, dx, _, rfl, Eq.trans (upd_ne m1.symm) upd_same, T.cl, T.nF, (by show 5 < 1000; decide), ?_⟩
    refine ⟨Nat.zero_le _, fun t2 ht2 => ?_⟩
    obtain ⟨m5, ht2⟩ := upd_none ht2
    obtain ⟨_, ht2⟩ := upd_none ht2
    obtain ⟨_, ht2⟩ := upd_none ht2
    obtain ⟨m7, ht2⟩ := upd_none ht2
    obtain ⟨_, ht2⟩ := upd_none ht2
    obtain ⟨m8, ht2⟩ := upd_none ht2
    obtain ⟨_, ht2⟩ := upd_none ht2
    obtain ⟨m9, ht2⟩ := upd_none ht2
    obtain ⟨_, ht2⟩ := upd_none ht2
    refine ⟨_, rfl, p, C, dx, _, rfl, Eq.trans (upd_ne m5.symm) upd_same, T.cl, T.nS, (by show 6 < 1000; decide), ?_⟩
    refine k _ lp lt lb ?_ f1 f2 f3 fun f0 f1 s0 s1 => ⟨[], [], .ref t1, .ref t2, ⟨⟨dx, upd_same⟩, ⟨[], ?_, .nil⟩, ⟨[], ?_, .nil⟩, ⟨[], ?_, .nil⟩, n3.symm, n6.symm, n5.symm⟩, ?_, fun q => by simp at q⟩
    · refine Kp.upd (Kp.upd (Kp.upd (Kp.upd (Kp.upd (Kp.upd (Kp.upd (Kp.upd (Kp.upd (Kp.upd (Kp.upd (Kp.refl _ _) ?_) ?_) ?_) ?_) ?_) ?_) ?_) ?_) ?_) ?_) ?_
      all_goals first | exact .inl (List.mem_singleton.mpr rfl) | exact .inr (by assumption)
    · rw [upd_ne n1, upd_ne m9.symm, upd_ne n1, upd_ne m4.symm, upd_ne n1, upd_ne n6.symm, upd_ne n1, upd_ne n3.symm, upd_ne n1, upd_same]
    · rw [upd_ne n2, upd_ne m8.symm, upd_ne n2, upd_ne m3.symm, upd_ne n2, upd_ne n5.symm, upd_ne n2, upd_same]
    · rw [upd_ne n4, upd_ne m7.symm, upd_ne n4, upd_ne m2.symm, upd_ne n4, upd_same]
    · exact ⟨⟨e0, e1, List.Pairwise.nil, (fun z hz => nomatch hz), Nat.zero_le _⟩, fun _ => ⟨rfl, rfl⟩, fun q => absurd rfl q, fun q => absurd rfl q, fun q => by simp at q⟩
end
end Fw
namespace Fw
open PySem L2
section
variable {P : Program} {w : World} {K : PySem.W.Frag} {mg : Str → Option Value} {base : Heap}
/-! ### conflict -/
def spConf (C : Addr) : Sp := fun vs H Q _ => ∃ (p lp lt lb : Addr) (e : Int) (pts : List Pt) (f0 f1 s0 s1 : Cn) (a : Addr) (x y : Int), vs = [.ref p, .ref a] ∧ FitS H C p lp lt lb e pts f0 f1 s0 s1 ∧
  H a = some (.tup [.int x, .int y]) ∧ Bd x ∧ 0 ≤ y ∧ y ≤ 1000000 ∧
  (∀ H', Same H H' → NoC e pts f0 f1 s0 s1 x y → Q .non H') ∧
  (∀ (H' : Hp) (t : Addr) (i j : Int), Same H H' → ¬ NoC e pts f0 f1 s0 s1 x y → H' t = some (.tup [.int i, .int j]) → Q (.ref t) H')
theorem scConf : FnScope ["self", "point", "place", "height"] ["self", "point"] (defScope sFconf) := ⟨rfl, rfl, rfl, by decide +kernel, rfl, by decide +kernel, by decide +kernel⟩
theorem ok_conf {f C : Addr} {fd : FuncData} (F : Fun K "conflict" "Fitter.conflict" sFconf f fd) (T : FC K C) (GR : FnG P w K mg base 1 "rise_over" ["one", "other"] spRise) (GB : FnG P w K mg base 1 "is_below" ["one", "other"] spBelow) :
    FnOk P w K mg base CX0 2 f fd ["self", "point"] (spConf C) := by
  refine F.ok scConf (fun vs H Q E h => ?_) (fun cdv A outer s H vs Q E hr h => ?_)
  · obtain ⟨p, lp, lt, lb, e, pts, f0, f1, s0, s1, a, x, y, rfl, _⟩ := h
    rfl
  · obtain ⟨p, lp, lt, lb, e, pts, f0, f1, s0, s1, a, x, y, rfl, hS, ha, hx, hy0, hy1, k1, k2⟩ := h
    obtain ⟨tops, bots, vf, vs, hF, hO, hP⟩ := hS
    obtain ⟨⟨dx, hob⟩, _⟩ := id hF
    refine ⟨_, pss_cons (ps_if (pt_cmpR op_lt (pe_fld (pv 0) rfl) pe_int (nomark _)) (pss_one (ps_ret pe_non)) pss_nil)
      (pss_cons (ps_asg (pv 1) (pg_tup (by rfl) (pgs_cons (pg_name (i := 2) scConf.nd rfl (.inl rfl)) (pgs_cons (pg_name (i := 3) scConf.nd rfl (.inl rfl)) pgs_nil))))
      (pss_cons (ps_if (pt_val (pe_callG GB hr (by rfl) (pa_cons (pe_callG GR hr (by rfl) (pa_cons (pe_ix ix_tup (pe_fld (pv 0) rfl) pe_int (fun _ _ => rfl)) (pa_cons (pe_tup (pa_cons (pv 2) (pa_cons (pe_op op_add (pv 3) (pe_fld (pv 0) rfl)) pa_nil))) pa_nil)))
          (pa_cons (pe_callG GR hr (by rfl) (pa_cons (pe_ix ix_tup (pe_fld (pv 0) rfl) pe_int (fun _ _ => rfl)) (pa_cons (pe_ix ix_tup (pe_fld (pv 0) rfl) pe_int (fun _ _ => rfl)) pa_nil))) pa_nil))))
        (pss_one (ps_ret (pe_tup (pa_cons (pe_ix ix_tup (pe_ix ix_tup (pe_fld (pv 0) rfl) pe_int (fun _ _ => rfl)) pe_int (fun _ _ => rfl)) (pa_cons (pe_ix ix_tup (pe_ix ix_tup (pe_fld (pv 0) rfl) pe_int (fun _ _ => rfl)) pe_int (fun _ _ => rfl)) pa_nil))))) pss_nil)
      (pss_cons (ps_if (pt_val (pe_callG GB hr (by rfl) (pa_cons (pe_callG GR hr (by rfl) (pa_cons (pe_ix ix_tup (pe_fld (pv 0) rfl) pe_int (fun _ _ => rfl)) (pa_cons (pe_ix ix_tup (pe_fld (pv 0) rfl) pe_int (fun _ _ => rfl)) pa_nil)))
          (pa_cons (pe_callG GR hr (by rfl) (pa_cons (pe_ix ix_tup (pe_fld (pv 0) rfl) pe_int (fun _ _ => rfl)) (pa_cons (pe_tup (pa_cons (pv 2) (pa_cons (pe_op op_sub (pv 3) (pe_fld (pv 0) rfl)) pa_nil))) pa_nil))) pa_nil))))
        (pss_one (ps_ret (pe_tup (pa_cons (pe_ix ix_tup (pe_ix ix_tup (pe_fld (pv 0) rfl) pe_int (fun _ _ => rfl)) pe_int (fun _ _ => rfl)) (pa_cons (pe_ix ix_tup (pe_ix ix_tup (pe_fld (pv 0) rfl) pe_int (fun _ _ => rfl)) pe_int (fun _ _ => rfl)) pa_nil))))) pss_nil)
      (pss_one (ps_ret pe_non))))), ?_⟩
    -- if self.count < 2
    refine ⟨_, rfl, p, C, dx, _, _, rfl, hob, T.cl, T.nC, rfl, _, _, rfl, rfl, _, rfl, ite2 (fun q => ?_) (fun q => ?_)⟩
    · have := of_decide_eq_true q
      exact k1 H (Same.refl H) fun z => by omega
    · have h2 : 2 ≤ pts.length := by
        have := mt decide_eq_true q
        omega
      obtain ⟨⟨va, vb, ⟨af, rfl, haf⟩, ⟨a0, rfl, ha0⟩, ⟨a1, rfl, ha1⟩⟩, ⟨vc, vd, ⟨as, rfl, has⟩, ⟨b0, rfl, hb0⟩, ⟨b1, rfl, hb1⟩⟩⟩ := hP h2
      obtain ⟨⟨hf, ht0, hf1⟩, ⟨hs, hs0, ht1⟩⟩ := hO.two h2
      obtain ⟨c1, c2, c3, c4⟩ := top_cb hO.pts_ ht0
      obtain ⟨c5, c6, c7, c8⟩ := bot_cb hO.pts_ hf1
      obtain ⟨d1, d2, d3, d4⟩ := bot_cb hO.pts_ hs0
      obtain ⟨d5, d6, d7, d8⟩ := top_cb hO.pts_ ht1
      have e0 := hO.pts_.e0
      have e1 := hO.pts_.e1
      -- place, height = point
      refine ⟨_, rfl, a, _, rfl, SqT.of ha, rfl, _, _, rfl, _, _, rfl, rfl, ?_⟩
      -- rise_over(self._flat[1], (place, height + self.error))
      refine ⟨_, rfl, p, C, dx, _, _, rfl, hob, T.cl, T.nF, rfl, af, _, _, _, rfl, rfl, SqT.of haf, atI_nat (j := 1) rfl, ?_⟩
      refine ⟨_, rfl, _, rfl, _, rfl, p, C, dx, _, _, rfl, hob, T.cl, T.nE, rfl, _, _, rfl, rfl, (by show 2 ≤ sizeLine; decide), fun t1 n1 => ?_⟩
      have r1 : Same H _ := Same.new (o := .tup [.int x, .int (y + e)]) n1
      refine ⟨a1, t1, f1.x, f1.y, x, y + e, _, _, rfl, r1 _ _ ha1, upd_same, fun H2 t2 r2 g2 => ?_⟩
      have r3 := r1.trans r2
      refine ⟨_, rfl, p, C, dx, _, _, rfl, r3 _ _ hob, T.cl, T.nF, rfl, af, _, _, _, rfl, rfl, SqT.of (r3 _ _ haf), atI_nat (j := 0) rfl, ?_⟩
      refine ⟨_, rfl, p, C, dx, _, _, rfl, r3 _ _ hob, T.cl, T.nF, rfl, af, _, _, _, rfl, rfl, SqT.of (r3 _ _ haf), atI_nat (j := 1) rfl, ?_⟩
      refine ⟨a0, a1, f0.x, f0.y, f1.x, f1.y, _, _, rfl, r3 _ _ ha0, r3 _ _ ha1, fun H3 t3 r4 g3 => ?_⟩
      have r5 := r3.trans r4
      refine ⟨t2, t3, _, _, _, _, rfl, r4 _ _ g2, g3, b64_of (by omega) (by omega), b64_of (by omega) (by omega), _, rfl, ?_⟩
      refine ite2 (fun q1 => ?_) (fun q1 => ?_)
      · have q1' := of_decide_eq_true q1
        refine ⟨_, rfl, p, C, dx, _, _, rfl, r5 _ _ hob, T.cl, T.nF, rfl, af, _, _, _, rfl, rfl, SqT.of (r5 _ _ haf), atI_nat (j := 0) rfl, a0, _, _, _, rfl, rfl, SqT.of (r5 _ _ ha0), atI_nat (j := 2) rfl, ?_⟩
        refine ⟨_, rfl, p, C, dx, _, _, rfl, r5 _ _ hob, T.cl, T.nF, rfl, af, _, _, _, rfl, rfl, SqT.of (r5 _ _ haf), atI_nat (j := 1) rfl, a1, _, _, _, rfl, rfl, SqT.of (r5 _ _ ha1), atI_nat (j := 2) rfl, (by show 2 ≤ sizeLine; decide), fun t4 n4 => ?_⟩
        exact k2 _ t4 _ _ (r5.trans (Same.new n4)) (fun z => (z h2).1 q1') upd_same
      · have q1' := mt decide_eq_true q1
        -- rise_over(self._steep[0], self._steep[1]); rise_over(self._steep[1], (place, height - self.error))
        refine ⟨_, rfl, p, C, dx, _, _, rfl, r5 _ _ hob, T.cl, T.nS, rfl, as, _, _, _, rfl, rfl, SqT.of (r5 _ _ has), atI_nat (j := 0) rfl, ?_⟩
        refine ⟨_, rfl, p, C, dx, _, _, rfl, r5 _ _ hob, T.cl, T.nS, rfl, as, _, _, _, rfl, rfl, SqT.of (r5 _ _ has), atI_nat (j := 1) rfl, ?_⟩
        refine ⟨b0, b1, s0.x, s0.y, s1.x, s1.y, _, _, rfl, r5 _ _ hb0, r5 _ _ hb1, fun H4 t4 r6 g4 => ?_⟩
        have r7 := r5.trans r6
        refine ⟨_, rfl, p, C, dx, _, _, rfl, r7 _ _ hob, T.cl, T.nS, rfl, as, _, _, _, rfl, rfl, SqT.of (r7 _ _ has), atI_nat (j := 1) rfl, ?_⟩
        refine ⟨_, rfl, _, rfl, _, rfl, p, C, dx, _, _, rfl, r7 _ _ hob, T.cl, T.nE, rfl, _, _, rfl, rfl, (by show 2 ≤ sizeLine; decide), fun t5 n5 => ?_⟩
        have r8 : Same H4 _ := Same.new (o := .tup [.int x, .int (y - e)]) n5
        refine ⟨b1, t5, s1.x, s1.y, x, y - e, _, _, rfl, r8 _ _ (r7 _ _ hb1), upd_same, fun H5 t6 r9 g6 => ?_⟩
        have r10 := r7.trans (r8.trans r9)
        refine ⟨t4, t6, _, _, _, _, rfl, r9 _ _ (r8 _ _ g4), g6, b64_of (by omega) (by omega), b64_of (by omega) (by omega), _, rfl, ?_⟩
        refine ite2 (fun q2 => ?_) (fun q2 => ?_)
        · have q2' := of_decide_eq_true q2
          refine ⟨_, rfl, p, C, dx, _, _, rfl, r10 _ _ hob, T.cl, T.nS, rfl, as, _, _, _, rfl, rfl, SqT.of (r10 _ _ has), atI_nat (j := 0) rfl, b0, _, _, _, rfl, rfl, SqT.of (r10 _ _ hb0), atI_nat (j := 2) rfl, ?_⟩
          refine ⟨_, rfl, p, C, dx, _, _, rfl, r10 _ _ hob, T.cl, T.nS, rfl, as, _, _, _, rfl, rfl, SqT.of (r10 _ _ has), atI_nat (j := 1) rfl, b1, _, _, _, rfl, rfl, SqT.of (r10 _ _ hb1), atI_nat (j := 2) rfl, (by show 2 ≤ sizeLine; decide), fun t7 n7 => ?_⟩
          exact k2 _ t7 _ _ (r10.trans (Same.new n7)) (fun z => (z h2).2 q2') upd_same
        · have q2' := mt decide_eq_true q2
          exact k1 H5 r10 fun _ => ⟨q1', q2'⟩
end
end Fw
namespace Fw
open PySem L2
theorem Ft.put {H : Hp} {C p lp lt lb dx : Addr} {e n n' : Int} {pts : List Pt} {tops bots : List Cn} {vf vs vf' vs' : V} {fs : List (Str × V)} (h : Ft H C p lp lt lb e n pts tops bots vf vs) (hob : H p = some (.ins C dx fs)) :
    Ft (upd H p (.ins C dx (ffs e n' lp lt lb vf' vs'))) C p lp lt lb e n' pts tops bots vf' vs' := by
  obtain ⟨_, ⟨y1, h2, h3⟩, ⟨y2, h4, h5⟩, ⟨y3, h6, h7⟩, n1, n2, n3⟩ := h
  have k : KT H (upd H p (.ins C dx (ffs e n' lp lt lb vf' vs'))) := (KT.refl H).upd (nt_ins hob)
  exact ⟨⟨dx, upd_same⟩, ⟨y1, by rw [upd_ne (ne_of h2 hob (by intro q; cases q))]; exact h2, pts_mono k h3⟩, ⟨y2, by rw [upd_ne (ne_of h4 hob (by intro q; cases q))]; exact h4, cns_mono k h5⟩,
    ⟨y3, by rw [upd_ne (ne_of h6 hob (by intro q; cases q))]; exact h6, cns_mono k h7⟩, n1, n2, n3⟩
theorem take_snoc {α : Type} {xs : List α} {i : Nat} {x : α} (h : xs[i]? = some x) : xs.take (i + 1) = xs.take i ++ [x] := by
  rw [List.take_add_one, h]
  rfl
theorem mem_take {α : Type} {xs : List α} {i : Nat} {x : α} (h : x ∈ xs.take i) : x ∈ xs := List.mem_of_mem_take h
section
variable {P : Program} {w : World} {K : PySem.W.Frag} {mg : Str → Option Value} {base : Heap}
/-! ### lower_steep -/
def spLow (C : Addr) : Sp := fun vs H Q _ => ∃ (p lp lt lb : Addr) (e n : Int) (pts : List Pt) (tops bots : List Cn) (vf vS : V) (a : Addr) (x y i : Int) (f0 f1 s0 s1 : Cn), vs = [.ref p, .ref a] ∧
  Ft H C p lp lt lb e n pts tops bots vf vS ∧ PrV H vS s0 s1 ∧ H a = some (.tup [.int x, .int (y + e), .int i]) ∧ PtsOk e pts ∧ Next e pts x y ∧ HullB e pts bots ∧
  Feas e f0 f1 pts ∧ Under f0 f1 x (y + e) ∧ StOk e pts s0 s1 ∧ Above s0 s1 x (y - e) ∧
  ∀ (H' : Hp) (vS' : V) (s0' s1' : Cn), Kp [p] H H' → Ft H' C p lp lt lb e n pts tops bots vf vS' → PrV H' vS' s0' s1' → StOk e (pts ++ [(x, y)]) s0' s1' → Q .non H'
theorem scLow : FnScope ["self", "top", "best", "corner"] ["self", "top"] (defScope sFlow) := ⟨rfl, rfl, rfl, by decide +kernel, rfl, by decide +kernel, by decide +kernel⟩
theorem ok_low {f C : Addr} {fd : FuncData} (F : Fun K "lower_steep" "Fitter.lower_steep" sFlow f fd) (T : FC K C) (GR : FnG P w K mg base 1 "rise_over" ["one", "other"] spRise) (GB : FnG P w K mg base 1 "is_below" ["one", "other"] spBelow) :
    FnOk P w K mg base CX0 2 f fd ["self", "top"] (spLow C) := by
  refine F.ok scLow (fun vs H Q E h => ?_) (fun cdv A outer s H vs Q E hr h => ?_)
  · obtain ⟨p, lp, lt, lb, e, n, pts, tops, bots, vf, vS, a, x, y, i, f0, f1, s0, s1, rfl, _⟩ := h
    rfl
  · obtain ⟨p, lp, lt, lb, e, n, pts, tops, bots, vf, vS, a, x, y, i, f0, f1, s0, s1, rfl, hF, hP, ha, hO, hN, hB, hfl, hun, hst, hab, k⟩ := h
    obtain ⟨⟨dx, hob⟩, _, _, ⟨ys, hlb, hys⟩, _⟩ := id hF
    obtain ⟨vc, vd, ⟨as, rfl, has⟩, ⟨b0, rfl, hb0⟩, ⟨b1, rfl, hb1⟩⟩ := hP
    obtain ⟨hs, hs0, ht1⟩ := id hst
    obtain ⟨d1, d2, d3, d4⟩ := bot_cb hO hs0
    obtain ⟨d5, d6, d7, d8⟩ := top_cb hO ht1
    have e0 := hO.e0
    have e1 := hO.e1
    have y0 := hN.y0
    have y1 := hN.y1
    refine ⟨_, pss_cons (ps_if (pt_not (pt_val (pe_callG GB hr (by rfl) (pa_cons (pe_callG GR hr (by rfl) (pa_cons (pe_ix ix_tup (pe_fld (pv 0) rfl) pe_int (fun _ _ => rfl)) (pa_cons (pv 1) pa_nil)))
          (pa_cons (pe_callG GR hr (by rfl) (pa_cons (pe_ix ix_tup (pe_fld (pv 0) rfl) pe_int (fun _ _ => rfl)) (pa_cons (pe_ix ix_tup (pe_fld (pv 0) rfl) pe_int (fun _ _ => rfl)) pa_nil))) pa_nil))))) (pss_one ps_retN) pss_nil)
      (pss_cons (ps_set (i := 2) scLow.nd rfl (.inl rfl) (pe_ix ix_list (pe_fld (pv 0) rfl) pe_int (fun _ _ => rfl)))
      (pss_cons (ps_for PassesOwn.never rfl (pi_list (pe_fld (pv 0) rfl)) (pg_name (i := 3) scLow.nd rfl (.inl rfl))
        (pss_one (ps_if (pt_val (pe_callG GB hr (by rfl) (pa_cons (pe_callG GR hr (by rfl) (pa_cons (pv 3) (pa_cons (pv 1) pa_nil))) (pa_cons (pe_callG GR hr (by rfl) (pa_cons (pv 2) (pa_cons (pv 1) pa_nil))) pa_nil))))
          (pss_one (ps_set (i := 2) scLow.nd rfl (.inl rfl) (pv 3))) pss_nil)))
      (pss_one (ps_fld (pv 0) (pe_tup (pa_cons (pv 2) (pa_cons (pv 1) pa_nil))) rfl)))), ?_⟩
    -- if not is_below(rise_over(self._steep[0], top), rise_over(self._steep[0], self._steep[1])): return
    refine ⟨_, rfl, p, C, dx, _, _, rfl, hob, T.cl, T.nS, rfl, as, _, _, _, rfl, rfl, SqT.of has, atI_nat (j := 0) rfl, _, rfl, ?_⟩
    refine ⟨b0, a, s0.x, s0.y, x, y + e, _, _, rfl, hb0, ha, fun H1 t1 r1 g1 => ?_⟩
    refine ⟨_, rfl, p, C, dx, _, _, rfl, r1 _ _ hob, T.cl, T.nS, rfl, as, _, _, _, rfl, rfl, SqT.of (r1 _ _ has), atI_nat (j := 0) rfl, ?_⟩
    refine ⟨_, rfl, p, C, dx, _, _, rfl, r1 _ _ hob, T.cl, T.nS, rfl, as, _, _, _, rfl, rfl, SqT.of (r1 _ _ has), atI_nat (j := 1) rfl, ?_⟩
    refine ⟨b0, b1, s0.x, s0.y, s1.x, s1.y, _, _, rfl, r1 _ _ hb0, r1 _ _ hb1, fun H2 t2 r2 g2 => ?_⟩
    have r3 := r1.trans r2
    refine ⟨t1, t2, _, _, _, _, rfl, r2 _ _ g1, g2, b64_of (by omega) (by omega), b64_of (by omega) (by omega), _, rfl, ?_⟩
    by_cases q : (y + e - s0.y) * (s1.x - s0.x) < (s1.y - s0.y) * (x - s0.x)
    · rw [decide_eq_true q]
      refine iteF ?_
      have hF2 := hF.same r3
      obtain ⟨w0, hw0⟩ : ∃ c0, bots[0]? = some c0 := by
        cases hbb : bots with
        | nil => exact absurd hbb hB.ne
        | cons c r => exact ⟨c, rfl⟩
      obtain ⟨v0, hv0, hc0⟩ := hys.right hw0
      -- best = self._bottoms[0]
      refine ⟨_, rfl, p, C, dx, _, _, rfl, r3 _ _ hob, T.cl, T.nB, rfl, lb, _, _, _, rfl, rfl, SqL.of (r3 _ _ hlb), atI_nat (j := 0) hv0, ?_⟩
      -- for corner in self._bottoms
      refine ⟨_, rfl, p, C, dx, _, _, rfl, r3 _ _ hob, T.cl, T.nB, rfl, lb, rfl, ⟨_, SqL.of (r3 _ _ hlb)⟩, for_list (K := K) (a := lb) (xs := ys) (fun j σ H' => ∃ (vb : V) (best : Cn) (vc : Option V), σ = [some (.ref p), some (.ref a), some vb, vc] ∧
          Same H2 H' ∧ CnV H vb best ∧ best ∈ bots ∧ MinOk ⟨x, y + e, i⟩ best (bots.take j)) ⟨v0, w0, none, rfl, Same.refl _, hc0, List.mem_of_getElem? hw0, fun c hc => by simp at hc⟩ (fun j σ H' _ ⟨_, _, _, _, s3, _⟩ => SqL.of (s3 _ _ (r3 _ _ hlb))) ?_ ?_⟩
      · rintro j v σ H' hj ⟨vb, best, vc, rfl, s3, hvb, hbm, hmin⟩
        obtain ⟨c, hc, ac, rfl, hac⟩ := hys.left hj
        obtain ⟨ab, rfl, hab2⟩ := hvb
        have q3 := r3.trans s3
        have hcm := List.mem_of_getElem? hc
        obtain ⟨k1, k2, k3, k4⟩ := bot_cb hO (hB.mem c hcm)
        obtain ⟨k5, k6, k7, k8⟩ := bot_cb hO (hB.mem best hbm)
        have lx : ∀ d ∈ bots, d.x < x := fun d hd => by
          obtain ⟨z, hz, ez, _⟩ := hB.mem d hd
          rw [ez]
          exact hN.xs z hz
        refine ⟨_, rfl, _, rfl, ac, a, c.x, c.y, x, y + e, _, _, rfl, q3 _ _ hac, q3 _ _ ha, fun H4 t4 r4 g4 => ?_⟩
        refine ⟨_, rfl, _, rfl, ab, a, best.x, best.y, x, y + e, _, _, rfl, r4 _ _ (q3 _ _ hab2), r4 _ _ (q3 _ _ ha), fun H5 t5 r5 g5 => ?_⟩
        refine ⟨t4, t5, _, _, _, _, rfl, r5 _ _ g4, g5, b64_of (by omega) (by omega), b64_of (by omega) (by omega), _, rfl, ?_⟩
        refine ite2 (fun z => ?_) (fun z => ?_)
        · have z' := of_decide_eq_true z
          refine ⟨_, rfl, _, c, _, rfl, s3.trans (r4.trans r5), ⟨ac, rfl, hac⟩, hcm, ?_⟩
          rw [take_snoc hc]
          exact min_yes (fun d hd => lx d (mem_take hd)) (lx best hbm) (lx c hcm) hmin z'
        · have z' := mt decide_eq_true z
          refine ⟨_, best, _, rfl, s3.trans (r4.trans r5), ⟨ab, rfl, hab2⟩, hbm, ?_⟩
          rw [take_snoc hc]
          exact min_no hmin z'
      · rintro σ H' ⟨vb, best, vc, rfl, s3, hvb, hbm, hmin⟩
        rw [hys.1, List.take_length] at hmin
        have q3 := r3.trans s3
        -- self._steep = (best, top)
        refine ⟨_, rfl, _, rfl, (by show 2 ≤ sizeLine; decide), fun t6 n6 => ?_⟩
        have q4 := q3.trans (Same.new (o := .tup [vb, .ref a]) n6)
        refine ⟨_, rfl, p, C, dx, _, rfl, q4 _ _ hob, T.cl, T.nS, (by show 7 < 1000; decide), ?_⟩
        have kt := (KT.of q4).upd (o := .ins C dx (ffs e n lp lt lb vf (.ref t6))) (nt_ins hob)
        refine k _ (.ref t6) best ⟨x, y + e, i⟩ ((Kp.of q4).upd (.inl (List.mem_singleton.mpr rfl))) ((hF.same q4).put (q4 _ _ hob)) ⟨vb, .ref a, ⟨t6, rfl, ?_⟩, hvb.mono kt, ⟨a, rfl, kt _ _ ha⟩⟩ ⟨?_, (hB.mem best hbm).more _, .new⟩
        · rw [upd_ne (ne_of_none (q3 _ _ hob) n6).symm]
          exact upd_same
        · exact steep_new e0 hN.xs hfl hun hs (above_of0 q) hB hbm hmin
    · rw [decide_eq_false q]
      refine iteT ?_
      exact k H2 _ s0 s1 (Kp.of r3) (hF.same r3) ⟨_, _, ⟨as, rfl, r3 _ _ has⟩, ⟨b0, rfl, r3 _ _ hb0⟩, ⟨b1, rfl, r3 _ _ hb1⟩⟩ ⟨feas_keep hs hab (under_of0' q), hs0.more _, ht1.more _⟩
/-! ### raise_flat -/
def spRai (C : Addr) : Sp := fun vs H Q _ => ∃ (p lp lt lb : Addr) (e n : Int) (pts : List Pt) (tops bots : List Cn) (vF vS : V) (a : Addr) (x y i : Int) (f0 f1 s0 s1 : Cn), vs = [.ref p, .ref a] ∧
  Ft H C p lp lt lb e n pts tops bots vF vS ∧ PrV H vF f0 f1 ∧ H a = some (.tup [.int x, .int (y - e), .int i]) ∧ PtsOk e pts ∧ Next e pts x y ∧ HullT e pts tops ∧
  Feas e s0 s1 pts ∧ Above s0 s1 x (y - e) ∧ FlOk e pts f0 f1 ∧ Under f0 f1 x (y + e) ∧
  ∀ (H' : Hp) (vF' : V) (f0' f1' : Cn), Kp [p] H H' → Ft H' C p lp lt lb e n pts tops bots vF' vS → PrV H' vF' f0' f1' → FlOk e (pts ++ [(x, y)]) f0' f1' → Q .non H'
theorem scRai : FnScope ["self", "bottom", "best", "corner"] ["self", "bottom"] (defScope sFrai) := ⟨rfl, rfl, rfl, by decide +kernel, rfl, by decide +kernel, by decide +kernel⟩
theorem ok_rai {f C : Addr} {fd : FuncData} (F : Fun K "raise_flat" "Fitter.raise_flat" sFrai f fd) (T : FC K C) (GR : FnG P w K mg base 1 "rise_over" ["one", "other"] spRise) (GB : FnG P w K mg base 1 "is_below" ["one", "other"] spBelow) :
    FnOk P w K mg base CX0 2 f fd ["self", "bottom"] (spRai C) := by
  refine F.ok scRai (fun vs H Q E h => ?_) (fun cdv A outer s H vs Q E hr h => ?_)
  · obtain ⟨p, lp, lt, lb, e, n, pts, tops, bots, vF, vS, a, x, y, i, f0, f1, s0, s1, rfl, _⟩ := h
    rfl
  · obtain ⟨p, lp, lt, lb, e, n, pts, tops, bots, vF, vS, a, x, y, i, f0, f1, s0, s1, rfl, hF, hP, ha, hO, hN, hT, hst, hab, hfl, hun, k⟩ := h
    obtain ⟨⟨dx, hob⟩, _, ⟨ys, hlt, hys⟩, _, _⟩ := id hF
    obtain ⟨vc, vd, ⟨as, rfl, has⟩, ⟨b0, rfl, hb0⟩, ⟨b1, rfl, hb1⟩⟩ := hP
    obtain ⟨hs, ht0, hs1⟩ := id hfl
    obtain ⟨d1, d2, d3, d4⟩ := top_cb hO ht0
    obtain ⟨d5, d6, d7, d8⟩ := bot_cb hO hs1
    have e0 := hO.e0
    have e1 := hO.e1
    have y0 := hN.y0
    have y1 := hN.y1
    refine ⟨_, pss_cons (ps_if (pt_not (pt_val (pe_callG GB hr (by rfl) (pa_cons (pe_callG GR hr (by rfl) (pa_cons (pe_ix ix_tup (pe_fld (pv 0) rfl) pe_int (fun _ _ => rfl)) (pa_cons (pe_ix ix_tup (pe_fld (pv 0) rfl) pe_int (fun _ _ => rfl)) pa_nil)))
          (pa_cons (pe_callG GR hr (by rfl) (pa_cons (pe_ix ix_tup (pe_fld (pv 0) rfl) pe_int (fun _ _ => rfl)) (pa_cons (pv 1) pa_nil))) pa_nil))))) (pss_one ps_retN) pss_nil)
      (pss_cons (ps_set (i := 2) scRai.nd rfl (.inl rfl) (pe_ix ix_list (pe_fld (pv 0) rfl) pe_int (fun _ _ => rfl)))
      (pss_cons (ps_for PassesOwn.never rfl (pi_list (pe_fld (pv 0) rfl)) (pg_name (i := 3) scRai.nd rfl (.inl rfl))
        (pss_one (ps_if (pt_val (pe_callG GB hr (by rfl) (pa_cons (pe_callG GR hr (by rfl) (pa_cons (pv 2) (pa_cons (pv 1) pa_nil))) (pa_cons (pe_callG GR hr (by rfl) (pa_cons (pv 3) (pa_cons (pv 1) pa_nil))) pa_nil))))
          (pss_one (ps_set (i := 2) scRai.nd rfl (.inl rfl) (pv 3))) pss_nil)))
      (pss_one (ps_fld (pv 0) (pe_tup (pa_cons (pv 2) (pa_cons (pv 1) pa_nil))) rfl)))), ?_⟩
    refine ⟨_, rfl, p, C, dx, _, _, rfl, hob, T.cl, T.nF, rfl, as, _, _, _, rfl, rfl, SqT.of has, atI_nat (j := 0) rfl, ?_⟩
    refine ⟨_, rfl, p, C, dx, _, _, rfl, hob, T.cl, T.nF, rfl, as, _, _, _, rfl, rfl, SqT.of has, atI_nat (j := 1) rfl, ?_⟩
    refine ⟨b0, b1, f0.x, f0.y, f1.x, f1.y, _, _, rfl, hb0, hb1, fun H1 t1 r1 g1 => ?_⟩
    refine ⟨_, rfl, p, C, dx, _, _, rfl, r1 _ _ hob, T.cl, T.nF, rfl, as, _, _, _, rfl, rfl, SqT.of (r1 _ _ has), atI_nat (j := 0) rfl, _, rfl, ?_⟩
    refine ⟨b0, a, f0.x, f0.y, x, y - e, _, _, rfl, r1 _ _ hb0, r1 _ _ ha, fun H2 t2 r2 g2 => ?_⟩
    have r3 := r1.trans r2
    refine ⟨t1, t2, _, _, _, _, rfl, r2 _ _ g1, g2, b64_of (by omega) (by omega), b64_of (by omega) (by omega), _, rfl, ?_⟩
    by_cases q : (f1.y - f0.y) * (x - f0.x) < (y - e - f0.y) * (f1.x - f0.x)
    · rw [decide_eq_true q]
      refine iteF ?_
      obtain ⟨w0, hw0⟩ : ∃ c0, tops[0]? = some c0 := by
        cases hbb : tops with
        | nil => exact absurd hbb hT.ne
        | cons c r => exact ⟨c, rfl⟩
      obtain ⟨v0, hv0, hc0⟩ := hys.right hw0
      refine ⟨_, rfl, p, C, dx, _, _, rfl, r3 _ _ hob, T.cl, T.nT, rfl, lt, _, _, _, rfl, rfl, SqL.of (r3 _ _ hlt), atI_nat (j := 0) hv0, ?_⟩
      refine ⟨_, rfl, p, C, dx, _, _, rfl, r3 _ _ hob, T.cl, T.nT, rfl, lt, rfl, ⟨_, SqL.of (r3 _ _ hlt)⟩, for_list (K := K) (a := lt) (xs := ys) (fun j σ H' => ∃ (vb : V) (best : Cn) (vc : Option V), σ = [some (.ref p), some (.ref a), some vb, vc] ∧
          Same H2 H' ∧ CnV H vb best ∧ best ∈ tops ∧ MaxOk ⟨x, y - e, i⟩ best (tops.take j)) ⟨v0, w0, none, rfl, Same.refl _, hc0, List.mem_of_getElem? hw0, fun c hc => by simp at hc⟩ (fun j σ H' _ ⟨_, _, _, _, s3, _⟩ => SqL.of (s3 _ _ (r3 _ _ hlt))) ?_ ?_⟩
      · rintro j v σ H' hj ⟨vb, best, vc, rfl, s3, hvb, hbm, hmin⟩
        obtain ⟨c, hc, ac, rfl, hac⟩ := hys.left hj
        obtain ⟨ab, rfl, hab2⟩ := hvb
        have q3 := r3.trans s3
        have hcm := List.mem_of_getElem? hc
        obtain ⟨k1, k2, k3, k4⟩ := top_cb hO (hT.mem c hcm)
        obtain ⟨k5, k6, k7, k8⟩ := top_cb hO (hT.mem best hbm)
        have lx : ∀ d ∈ tops, d.x < x := fun d hd => by
          obtain ⟨z, hz, ez, _⟩ := hT.mem d hd
          rw [ez]
          exact hN.xs z hz
        refine ⟨_, rfl, _, rfl, ab, a, best.x, best.y, x, y - e, _, _, rfl, q3 _ _ hab2, q3 _ _ ha, fun H4 t4 r4 g4 => ?_⟩
        refine ⟨_, rfl, _, rfl, ac, a, c.x, c.y, x, y - e, _, _, rfl, r4 _ _ (q3 _ _ hac), r4 _ _ (q3 _ _ ha), fun H5 t5 r5 g5 => ?_⟩
        refine ⟨t4, t5, _, _, _, _, rfl, r5 _ _ g4, g5, b64_of (by omega) (by omega), b64_of (by omega) (by omega), _, rfl, ?_⟩
        refine ite2 (fun z => ?_) (fun z => ?_)
        · have z' := of_decide_eq_true z
          refine ⟨_, rfl, _, c, _, rfl, s3.trans (r4.trans r5), ⟨ac, rfl, hac⟩, hcm, ?_⟩
          rw [take_snoc hc]
          exact max_yes (fun d hd => lx d (mem_take hd)) (lx best hbm) (lx c hcm) hmin z'
        · have z' := mt decide_eq_true z
          refine ⟨_, best, _, rfl, s3.trans (r4.trans r5), ⟨ab, rfl, hab2⟩, hbm, ?_⟩
          rw [take_snoc hc]
          exact max_no hmin z'
      · rintro σ H' ⟨vb, best, vc, rfl, s3, hvb, hbm, hmin⟩
        rw [hys.1, List.take_length] at hmin
        have q3 := r3.trans s3
        refine ⟨_, rfl, _, rfl, (by show 2 ≤ sizeLine; decide), fun t6 n6 => ?_⟩
        have q4 := q3.trans (Same.new (o := .tup [vb, .ref a]) n6)
        refine ⟨_, rfl, p, C, dx, _, rfl, q4 _ _ hob, T.cl, T.nF, (by show 7 < 1000; decide), ?_⟩
        have kt := (KT.of q4).upd (o := .ins C dx (ffs e n lp lt lb (.ref t6) vS)) (nt_ins hob)
        refine k _ (.ref t6) best ⟨x, y - e, i⟩ ((Kp.of q4).upd (.inl (List.mem_singleton.mpr rfl))) ((hF.same q4).put (q4 _ _ hob)) ⟨vb, .ref a, ⟨t6, rfl, ?_⟩, hvb.mono kt, ⟨a, rfl, kt _ _ ha⟩⟩ ⟨?_, (hT.mem best hbm).more _, .new⟩
        · rw [upd_ne (ne_of_none (q3 _ _ hob) n6).symm]
          exact upd_same
        · exact flat_new e0 hN.xs hst hab hs (under_lt0 q) hT hbm hmin
    · rw [decide_eq_false q]
      refine iteT ?_
      exact k H2 _ f0 f1 (Kp.of r3) (hF.same r3) ⟨_, _, ⟨as, rfl, r3 _ _ has⟩, ⟨b0, rfl, r3 _ _ hb0⟩, ⟨b1, rfl, r3 _ _ hb1⟩⟩ ⟨feas_keep hs (above_ge0 q) hun, ht0.more _, hs1.more _⟩
end
end Fw
namespace Fw
open PySem L2
theorem snoc2 {α : Type} {xs : List α} (h : 2 ≤ xs.length) : ∃ zs a b, xs = zs ++ [a, b] := by
  refine ⟨xs.take (xs.length - 2), xs[xs.length - 2], xs[xs.length - 1], ?_⟩
  have e1 : xs = xs.take (xs.length - 2) ++ xs.drop (xs.length - 2) := (List.take_append_drop _ _).symm
  have e2 : xs.drop (xs.length - 2) = [xs[xs.length - 2], xs[xs.length - 1]] := by
    rw [List.drop_eq_getElem_cons (by omega), List.drop_eq_getElem_cons (by omega), List.drop_eq_nil_of_le (by omega)]
    congr 3
    omega
  rw [← e2]
  exact e1
theorem atI_last1 {α : Type} (xs : List α) (u v : α) : atI (xs ++ [u, v]) (-1) = some v := by
  have : xs ++ [u, v] = (xs ++ [u]) ++ [v] := by simp
  rw [this]
  exact atI_last _ _
theorem atI_last2 {α : Type} (xs : List α) (u v : α) : atI (xs ++ [u, v]) (-2) = some u := by
  have hl : (xs ++ [u, v]).length = xs.length + 2 := by simp
  have e : ixN (xs ++ [u, v]).length (-2) = some xs.length := by
    unfold ixN
    rw [hl, if_neg (by decide), if_pos (by omega)]
    congr 1
    omega
  unfold atI
  rw [e]
  simp
theorem All2.last2 {α β : Type} {R : α → β → Prop} {xs : List α} {ys : List β} {a b : α} {c d : β} (h : All2 R (xs ++ [a, b]) (ys ++ [c, d])) : R a c ∧ R b d := by
  have hl : xs.length = ys.length := by
    have := h.1
    simp at this
    exact this
  refine ⟨h.2 xs.length a c (by simp) (by rw [hl]; simp), h.2 (xs.length + 1) b d ?_ ?_⟩
  · rw [List.getElem?_append_right (by omega)]
    simp
  · rw [List.getElem?_append_right (by omega), hl]
    simp
theorem dropLast2 {α : Type} (xs : List α) (a b : α) : (xs ++ [a, b]).dropLast = xs ++ [a] := by
  have : xs ++ [a, b] = (xs ++ [a]) ++ [b] := by simp
  rw [this, List.dropLast_concat]
/-- the tops, the bottoms, the points changed -/
theorem Ft.setT {H : Hp} {C p lp lt lb : Addr} {e n : Int} {pts : List Pt} {tops tops' bots : List Cn} {vf vs : V} {ys ys' : List V} (h : Ft H C p lp lt lb e n pts tops bots vf vs) (hl : H lt = some (.lst ys)) (h' : All2 (CnV H) ys' tops') :
    Ft (upd H lt (.lst ys')) C p lp lt lb e n pts tops' bots vf vs := by
  obtain ⟨⟨dx, h1⟩, ⟨y1, h2, h3⟩, _, ⟨y3, h6, h7⟩, n1, n2, n3⟩ := h
  have k : KT H (upd H lt (.lst ys')) := (KT.refl H).upd (nt_lst hl)
  exact ⟨⟨dx, by rw [upd_ne (ne_of h1 hl (by intro q; cases q))]; exact h1⟩, ⟨y1, by rw [upd_ne n1]; exact h2, pts_mono k h3⟩, ⟨ys', upd_same, cns_mono k h'⟩,
    ⟨y3, by rw [upd_ne n3.symm]; exact h6, cns_mono k h7⟩, n1, n2, n3⟩
theorem Ft.setB {H : Hp} {C p lp lt lb : Addr} {e n : Int} {pts : List Pt} {tops bots bots' : List Cn} {vf vs : V} {ys ys' : List V} (h : Ft H C p lp lt lb e n pts tops bots vf vs) (hl : H lb = some (.lst ys)) (h' : All2 (CnV H) ys' bots') :
    Ft (upd H lb (.lst ys')) C p lp lt lb e n pts tops bots' vf vs := by
  obtain ⟨⟨dx, h1⟩, ⟨y1, h2, h3⟩, ⟨y2, h4, h5⟩, _, n1, n2, n3⟩ := h
  have k : KT H (upd H lb (.lst ys')) := (KT.refl H).upd (nt_lst hl)
  exact ⟨⟨dx, by rw [upd_ne (ne_of h1 hl (by intro q; cases q))]; exact h1⟩, ⟨y1, by rw [upd_ne n2]; exact h2, pts_mono k h3⟩, ⟨y2, by rw [upd_ne n3]; exact h4, cns_mono k h5⟩,
    ⟨ys', upd_same, cns_mono k h'⟩, n1, n2, n3⟩
theorem Ft.setP {H : Hp} {C p lp lt lb : Addr} {e n : Int} {pts pts' : List Pt} {tops bots : List Cn} {vf vs : V} {ys ys' : List V} (h : Ft H C p lp lt lb e n pts tops bots vf vs) (hl : H lp = some (.lst ys)) (h' : All2 (PtV H) ys' pts') :
    Ft (upd H lp (.lst ys')) C p lp lt lb e n pts' tops bots vf vs := by
  obtain ⟨⟨dx, h1⟩, _, ⟨y2, h4, h5⟩, ⟨y3, h6, h7⟩, n1, n2, n3⟩ := h
  have k : KT H (upd H lp (.lst ys')) := (KT.refl H).upd (nt_lst hl)
  exact ⟨⟨dx, by rw [upd_ne (ne_of h1 hl (by intro q; cases q))]; exact h1⟩, ⟨ys', upd_same, pts_mono k h'⟩, ⟨y2, by rw [upd_ne n1.symm]; exact h4, cns_mono k h5⟩,
    ⟨y3, by rw [upd_ne n2.symm]; exact h6, cns_mono k h7⟩, n1, n2, n3⟩
section
variable {P : Program} {w : World} {K : PySem.W.Frag} {mg : Str → Option Value} {base : Heap}
/-! ### add_corners -/
def spCor (C : Addr) : Sp := fun vs H Q _ => ∃ (p lp lt lb : Addr) (e n : Int) (pts : List Pt) (tops bots : List Cn) (vF vS : V) (a b : Addr) (x y i j : Int), vs = [.ref p, .ref a, .ref b] ∧
  Ft H C p lp lt lb e n pts tops bots vF vS ∧ H a = some (.tup [.int x, .int (y + e), .int i]) ∧ H b = some (.tup [.int x, .int (y - e), .int j]) ∧ PtsOk e pts ∧ Next e pts x y ∧
  PopT e pts ⟨x, y + e, i⟩ tops ∧ PopB e pts ⟨x, y - e, j⟩ bots ∧
  ∀ (H' : Hp) (tops' bots' : List Cn), Kp [lt, lb] H H' → Ft H' C p lp lt lb e n pts tops' bots' vF vS → HullT e (pts ++ [(x, y)]) tops' → HullB e (pts ++ [(x, y)]) bots' → Q .non H'
theorem scCor : FnScope ["self", "top", "bottom"] ["self", "top", "bottom"] (defScope sFcor) := ⟨rfl, rfl, rfl, by decide +kernel, rfl, by decide +kernel, by decide +kernel⟩
theorem ok_cor {f C : Addr} {fd : FuncData} (F : Fun K "add_corners" "Fitter.add_corners" sFcor f fd) (T : FC K C) (GT : FnG P w K mg base 1 "turn" ["one", "two", "three"] spTurn) (mL : mg "len" = none) :
    FnOk P w K mg base CX0 2 f fd ["self", "top", "bottom"] (spCor C) := by
  refine F.ok scCor (fun vs H Q E h => ?_) (fun cdv A outer s H vs Q E hr h => ?_)
  · obtain ⟨p, lp, lt, lb, e, n, pts, tops, bots, vF, vS, a, b, x, y, i, j, rfl, _⟩ := h
    rfl
  · obtain ⟨p, lp, lt, lb, e, n, pts, tops, bots, vF, vS, a, b, x, y, i, j, rfl, hF, ha, hb, hO, hN, hT, hB, k⟩ := h
    refine ⟨_, Evl.pss_cut (ps_while PassesOwn.never (PW.pt (pw_and (pt_cmpR op_gt (pe_callB call_len_seq (by rfl) mL PySem.boot_len (pa_cons (pe_fld (pv 0) rfl) pa_nil)) pe_int (nomark _))
          (pw_and1 (pt_cmpR op_le (pe_callG GT hr (by rfl) (pa_cons (pe_ix ix_list (pe_fld (pv 0) rfl) (pe_un un_neg pe_int) (fun _ _ => rfl)) (pa_cons (pe_ix ix_list (pe_fld (pv 0) rfl) (pe_un un_neg pe_int) (fun _ _ => rfl)) (pa_cons (pv 1) pa_nil)))) pe_int (nomark _)))))
        (pss_one (ps_expr (pe_bm0 PySem.F.plainAttrs_list PySem.F.slot_list_pop PySem.F.type_list_pop mt_pop (pe_fld (pv 0) rfl)))))
      (pss_cons (ps_expr (pe_bm PySem.F.plainAttrs_list PySem.F.slot_list_append PySem.F.type_list_append mt_append (pe_fld (pv 0) rfl) (pa_cons (pv 1) pa_nil)))
      (Evl.pss_cut (ps_while PassesOwn.never (PW.pt (pw_and (pt_cmpR op_gt (pe_callB call_len_seq (by rfl) mL PySem.boot_len (pa_cons (pe_fld (pv 0) rfl) pa_nil)) pe_int (nomark _))
          (pw_and1 (pt_cmpR op_ge (pe_callG GT hr (by rfl) (pa_cons (pe_ix ix_list (pe_fld (pv 0) rfl) (pe_un un_neg pe_int) (fun _ _ => rfl)) (pa_cons (pe_ix ix_list (pe_fld (pv 0) rfl) (pe_un un_neg pe_int) (fun _ _ => rfl)) (pa_cons (pv 2) pa_nil)))) pe_int (nomark _)))))
        (pss_one (ps_expr (pe_bm0 PySem.F.plainAttrs_list PySem.F.slot_list_pop PySem.F.type_list_pop mt_pop (pe_fld (pv 0) rfl)))))
      (pss_one (ps_expr (pe_bm PySem.F.plainAttrs_list PySem.F.slot_list_append PySem.F.type_list_append mt_append (pe_fld (pv 0) rfl) (pa_cons (pv 2) pa_nil)))))), ?_⟩
    have pl := hO.len
    have y0 := hN.y0
    have y1 := hN.y1
    have e0 := hO.e0
    have e1 := hO.e1
    obtain ⟨x0, x1⟩ := hN.bx
    -- the tops
    refine ⟨fun σ H1 => σ = [some (.ref p), some (.ref a), some (.ref b)] ∧ ∃ tops', Kp [lt, lb] H H1 ∧ KT H H1 ∧ Ft H1 C p lp lt lb e n pts tops' bots vF vS ∧ PopT e pts ⟨x, y + e, i⟩ tops', ?_, ?_⟩
    · refine ⟨fun m σ H1 => σ = [some (.ref p), some (.ref a), some (.ref b)] ∧ ∃ tops', Kp [lt, lb] H H1 ∧ KT H H1 ∧ Ft H1 C p lp lt lb e n pts tops' bots vF vS ∧ PopT e pts ⟨x, y + e, i⟩ tops' ∧ m = tops'.length,
        ⟨_, rfl, tops, Kp.refl _ _, KT.refl _, hF, hT, rfl⟩, ?_⟩
      rintro m σ H1 ⟨rfl, tops', kp1, kt1, hF1, hT1, rfl⟩
      obtain ⟨⟨dx, hob⟩, _, ⟨ys, hlt, hys⟩, _, n1, n2, n3⟩ := id hF1
      refine ⟨_, rfl, p, C, dx, _, _, rfl, hob, T.cl, T.nT, rfl, lt, _, rfl, .inl (SqL.of hlt), _, _, rfl, rfl, _, rfl, ?_⟩
      refine ite2 (fun q => ?_) (fun q => ?_)
      · have q' : 1 < (ys.length : Int) := of_decide_eq_true q
        obtain ⟨zs, u2, u1, rfl⟩ := snoc2 (xs := ys) (by omega)
        obtain ⟨cs, h2, h1, rfl⟩ := snoc2 (xs := tops') (by rw [← hys.1]; omega)
        obtain ⟨⟨a2, rfl, g2⟩, ⟨a1, rfl, g1⟩⟩ := hys.last2
        obtain ⟨c1, c2, c3, c4⟩ := top_cb hO (hT1.mem h2 (by simp))
        obtain ⟨c5, c6, c7, c8⟩ := top_cb hO (hT1.mem h1 (by simp))
        refine ⟨_, rfl, p, C, dx, _, _, rfl, hob, T.cl, T.nT, rfl, 2, rfl, lt, _, _, _, rfl, rfl, SqL.of hlt, atI_last2 _ _ _, ?_⟩
        refine ⟨_, rfl, p, C, dx, _, _, rfl, hob, T.cl, T.nT, rfl, 1, rfl, lt, _, _, _, rfl, rfl, SqL.of hlt, atI_last1 _ _ _, _, rfl, ?_⟩
        refine ⟨a2, a1, a, h2.x, h2.y, h1.x, h1.y, x, y + e, _, _, _, rfl, g2, g1, kt1 _ _ ha, b64_of (by omega) (by omega), b64_of (by omega) (by omega), _, _, rfl, rfl, _, rfl, ?_⟩
        refine ite2 (fun z => ?_) (fun z => ?_)
        · have z' : turnI h2 h1 ⟨x, y + e, i⟩ ≤ 0 := of_decide_eq_true z
          refine ⟨_, fun σ' H' w => w, ?_⟩
          refine ⟨_, rfl, p, C, dx, _, _, rfl, hob, T.cl, T.nT, rfl, .inl ⟨rfl, _, SqL.of hlt⟩, lt, _, .ref a1, rfl, rfl, hlt, (by simp), ?_⟩
          have hd := hys.dropLast
          rw [dropLast2, dropLast2] at hd
          rw [dropLast2]
          exact ⟨(cs ++ [h2]).length, by simp, rfl, cs ++ [h2], kp1.upd (.inl (by simp)), kt1.trans ((KT.refl _).upd (nt_lst hlt)), hF1.setT hlt hd, popT_step hT1 z', rfl⟩
        · exact ⟨rfl, _, kp1, kt1, hF1, hT1⟩
      · exact ⟨rfl, _, kp1, kt1, hF1, hT1⟩
    · rintro σ H1 ⟨rfl, tops', kp1, kt1, hF1, hT1⟩
      obtain ⟨⟨dx, hob⟩, _, ⟨ys, hlt, hys⟩, _, n1, n2, n3⟩ := id hF1
      have ll := hT1.len
      -- self._tops.append(top)
      refine ⟨_, rfl, p, C, dx, _, _, rfl, hob, T.cl, T.nT, rfl, .inl ⟨rfl, _, SqL.of hlt⟩, _, rfl, lt, _, _, rfl, rfl, hlt, small1000 (by rw [hys.1]; omega), ?_⟩
      have hF2 := hF1.setT hlt (hys.snoc (x := .ref a) (y := ⟨x, y + e, i⟩) ⟨a, rfl, kt1 _ _ ha⟩)
      have kp2 : Kp [lt, lb] H (upd H1 lt (.lst (ys ++ [.ref a]))) := kp1.upd (.inl (by simp))
      have kt2 : KT H (upd H1 lt (.lst (ys ++ [.ref a]))) := kt1.trans ((KT.refl _).upd (nt_lst hlt))
      generalize upd H1 lt (.lst (ys ++ [.ref a])) = H2 at hF2 kp2 kt2
      have hT2 := hT1.done
      clear hob hlt hys
      refine ⟨fun σ H1 => σ = [some (.ref p), some (.ref a), some (.ref b)] ∧ ∃ bots', Kp [lt, lb] H H1 ∧ KT H H1 ∧ Ft H1 C p lp lt lb e n pts (tops' ++ [⟨x, y + e, i⟩]) bots' vF vS ∧ PopB e pts ⟨x, y - e, j⟩ bots', ?_, ?_⟩
      · refine ⟨fun m σ H1 => σ = [some (.ref p), some (.ref a), some (.ref b)] ∧ ∃ bots', Kp [lt, lb] H H1 ∧ KT H H1 ∧ Ft H1 C p lp lt lb e n pts (tops' ++ [⟨x, y + e, i⟩]) bots' vF vS ∧ PopB e pts ⟨x, y - e, j⟩ bots' ∧ m = bots'.length,
          ⟨_, rfl, bots, kp2, kt2, hF2, hB, rfl⟩, ?_⟩
        rintro m σ H3 ⟨rfl, bots', kp3, kt3, hF3, hB3, rfl⟩
        obtain ⟨⟨dx, hob⟩, _, _, ⟨ys, hlb, hys⟩, n1, n2, n3⟩ := id hF3
        refine ⟨_, rfl, p, C, dx, _, _, rfl, hob, T.cl, T.nB, rfl, lb, _, rfl, .inl (SqL.of hlb), _, _, rfl, rfl, _, rfl, ?_⟩
        refine ite2 (fun q => ?_) (fun q => ?_)
        · have q' : 1 < (ys.length : Int) := of_decide_eq_true q
          obtain ⟨zs, u2, u1, rfl⟩ := snoc2 (xs := ys) (by omega)
          obtain ⟨cs, h2, h1, rfl⟩ := snoc2 (xs := bots') (by rw [← hys.1]; omega)
          obtain ⟨⟨a2, rfl, g2⟩, ⟨a1, rfl, g1⟩⟩ := hys.last2
          obtain ⟨c1, c2, c3, c4⟩ := bot_cb hO (hB3.mem h2 (by simp))
          obtain ⟨c5, c6, c7, c8⟩ := bot_cb hO (hB3.mem h1 (by simp))
          refine ⟨_, rfl, p, C, dx, _, _, rfl, hob, T.cl, T.nB, rfl, 2, rfl, lb, _, _, _, rfl, rfl, SqL.of hlb, atI_last2 _ _ _, ?_⟩
          refine ⟨_, rfl, p, C, dx, _, _, rfl, hob, T.cl, T.nB, rfl, 1, rfl, lb, _, _, _, rfl, rfl, SqL.of hlb, atI_last1 _ _ _, _, rfl, ?_⟩
          refine ⟨a2, a1, b, h2.x, h2.y, h1.x, h1.y, x, y - e, _, _, _, rfl, g2, g1, kt3 _ _ hb, b64_of (by omega) (by omega), b64_of (by omega) (by omega), _, _, rfl, rfl, _, rfl, ?_⟩
          refine ite2 (fun z => ?_) (fun z => ?_)
          · have z' : 0 ≤ turnI h2 h1 ⟨x, y - e, j⟩ := of_decide_eq_true z
            refine ⟨_, fun σ' H' w => w, ?_⟩
            refine ⟨_, rfl, p, C, dx, _, _, rfl, hob, T.cl, T.nB, rfl, .inl ⟨rfl, _, SqL.of hlb⟩, lb, _, .ref a1, rfl, rfl, hlb, (by simp), ?_⟩
            have hd := hys.dropLast
            rw [dropLast2, dropLast2] at hd
            rw [dropLast2]
            exact ⟨(cs ++ [h2]).length, by simp, rfl, cs ++ [h2], kp3.upd (.inl (by simp)), kt3.trans ((KT.refl _).upd (nt_lst hlb)), hF3.setB hlb hd, popB_step hB3 z', rfl⟩
          · exact ⟨rfl, _, kp3, kt3, hF3, hB3⟩
        · exact ⟨rfl, _, kp3, kt3, hF3, hB3⟩
      · rintro σ H3 ⟨rfl, bots', kp3, kt3, hF3, hB3⟩
        obtain ⟨⟨dx, hob⟩, _, _, ⟨ys, hlb, hys⟩, n1, n2, n3⟩ := id hF3
        have ll := hB3.len
        refine ⟨_, rfl, p, C, dx, _, _, rfl, hob, T.cl, T.nB, rfl, .inl ⟨rfl, _, SqL.of hlb⟩, _, rfl, lb, _, _, rfl, rfl, hlb, small1000 (by rw [hys.1]; omega), ?_⟩
        exact k _ _ _ (kp3.upd (.inl (by simp))) (hF3.setB hlb (hys.snoc (x := .ref b) (y := ⟨x, y - e, j⟩) ⟨b, rfl, kt3 _ _ hb⟩)) hT2 hB3.done
/-! ### add -/
def spAdd (C : Addr) : Sp := fun vs H Q _ => ∃ (p lp lt lb : Addr) (e : Int) (pts : List Pt) (f0 f1 s0 s1 : Cn) (a : Addr) (x y : Int), vs = [.ref p, .ref a] ∧ FitS H C p lp lt lb e pts f0 f1 s0 s1 ∧
  H a = some (.tup [.int x, .int y]) ∧ Next e pts x y ∧ NoC e pts f0 f1 s0 s1 x y ∧
  ∀ (H' : Hp) (f0' f1' s0' s1' : Cn), Kp [p, lp, lt, lb] H H' → FitS H' C p lp lt lb e (pts ++ [(x, y)]) f0' f1' s0' s1' → Q (.bl true) H'
theorem scAdd : FnScope ["self", "point", "top", "bottom"] ["self", "point"] (defScope sFadd) := ⟨rfl, rfl, rfl, by decide +kernel, rfl, by decide +kernel, by decide +kernel⟩
theorem ok_add {f C : Addr} {fd : FuncData} (F : Fun K "add" "Fitter.add" sFadd f fd) (T : FC K C) (Gc : MeG P w K mg base 2 C "conflict" ["self", "point"] (spConf C)) (Gl : MeG P w K mg base 2 C "lower_steep" ["self", "top"] (spLow C))
    (Gr : MeG P w K mg base 2 C "raise_flat" ["self", "bottom"] (spRai C)) (Gk : MeG P w K mg base 2 C "add_corners" ["self", "top", "bottom"] (spCor C)) :
    FnOk P w K mg base CX0 3 f fd ["self", "point"] (spAdd C) := by
  obtain ⟨fc, fdc, mc, Fc, bc⟩ := Gc
  obtain ⟨fl, fdl, ml, Fl, bl⟩ := Gl
  obtain ⟨fr, fdr, mr, Fr, br⟩ := Gr
  obtain ⟨fk, fdk, mk, Fk, bk⟩ := Gk
  refine F.ok scAdd (fun vs H Q E h => ?_) (fun cdv A outer s H vs Q E hr h => ?_)
  · obtain ⟨p, lp, lt, lb, e, pts, f0, f1, s0, s1, a, x, y, rfl, _⟩ := h
    rfl
  · obtain ⟨p, lp, lt, lb, e, pts, f0, f1, s0, s1, a, x, y, rfl, hS, ha, hN, hC, k⟩ := h
    refine ⟨_, pss_cons (ps_if (pt_cmpR op_notN (pe_meth (pv 0) T.cl mc Fc hr bc .nil pass0 (pa_cons (pv 1) pa_nil)) pe_non (nomark _)) (pss_one (ps_ret pe_bl)) pss_nil)
      (pss_cons (ps_set (i := 2) scAdd.nd rfl (.inl rfl) (pe_tup (pa_cons (pe_ix ix_tup (pv 1) pe_int (fun _ _ => rfl)) (pa_cons (pe_op op_add (pe_ix ix_tup (pv 1) pe_int (fun _ _ => rfl)) (pe_fld (pv 0) rfl)) (pa_cons (pe_fld (pv 0) rfl) pa_nil)))))
      (pss_cons (ps_set (i := 3) scAdd.nd rfl (.inl rfl) (pe_tup (pa_cons (pe_ix ix_tup (pv 1) pe_int (fun _ _ => rfl)) (pa_cons (pe_op op_sub (pe_ix ix_tup (pv 1) pe_int (fun _ _ => rfl)) (pe_fld (pv 0) rfl)) (pa_cons (pe_fld (pv 0) rfl) pa_nil)))))
      (Evl.pss_cut (ps_if (pt_cmpR op_eq (pe_fld (pv 0) rfl) pe_int (nomark _))
          (pss_cons (ps_fld (pv 0) (pe_tup (pa_cons (pe_ix ix_list (pe_fld (pv 0) rfl) pe_int (fun _ _ => rfl)) (pa_cons (pv 3) pa_nil))) rfl)
          (pss_one (ps_fld (pv 0) (pe_tup (pa_cons (pe_ix ix_list (pe_fld (pv 0) rfl) pe_int (fun _ _ => rfl)) (pa_cons (pv 2) pa_nil))) rfl)))
          (pss_one (ps_if (pt_cmpR op_gt (pe_fld (pv 0) rfl) pe_int (nomark _))
            (pss_cons (ps_expr (pe_meth (pv 0) T.cl ml Fl hr bl .nil pass0 (pa_cons (pv 2) pa_nil)))
            (pss_one (ps_expr (pe_meth (pv 0) T.cl mr Fr hr br .nil pass0 (pa_cons (pv 3) pa_nil))))) pss_nil)))
      (pss_cons (ps_expr (pe_meth (pv 0) T.cl mk Fk hr bk .nil pass0 (pa_cons (pv 2) (pa_cons (pv 3) pa_nil))))
      (pss_cons (ps_expr (pe_bm PySem.F.plainAttrs_list PySem.F.slot_list_append PySem.F.type_list_append mt_append (pe_fld (pv 0) rfl) (pa_cons (pv 1) pa_nil)))
      (pss_cons (ps_fldaug (pv 0) pe_int in_add)
      (pss_one (ps_ret pe_bl)))))))), ?_⟩
    obtain ⟨tops, bots, vf, vs, hF, hO, hP⟩ := hS
    obtain ⟨⟨dx, hob⟩, _⟩ := id hF
    have y0 := hN.y0
    have y1 := hN.y1
    have e0 := hO.pts_.e0
    have e1 := hO.pts_.e1
    -- if self.conflict(point) is not None
    refine ⟨_, rfl, p, dx, _, rfl, hob, rfl, _, rfl, p, lp, lt, lb, e, pts, f0, f1, s0, s1, a, x, y, rfl, ⟨tops, bots, vf, vs, hF, hO, hP⟩, ha, hN.bx, hN.y0, hN.y1, fun H1 r1 _ => ?_, fun H1 t i j r1 nc => absurd hC nc⟩
    refine ⟨rfl, _, rfl, iteNS rfl ?_⟩
    -- top, bottom
    refine ⟨_, rfl, a, _, _, _, rfl, rfl, SqT.of (r1 _ _ ha), atI_nat (j := 0) rfl, _, rfl, a, _, _, _, rfl, rfl, SqT.of (r1 _ _ ha), atI_nat (j := 1) rfl, _, rfl, p, C, dx, _, _, rfl, r1 _ _ hob, T.cl, T.nE, rfl, _, _, rfl, rfl,
      _, rfl, p, C, dx, _, _, rfl, r1 _ _ hob, T.cl, T.nC, rfl, (by show 3 ≤ sizeLine; decide), fun t1 n1 => ?_⟩
    have r2 := r1.trans (Same.new (o := .tup [.int x, .int (y + e), .int pts.length]) n1)
    have g1 : upd H1 t1 (.tup [.int x, .int (y + e), .int pts.length]) t1 = some (.tup [.int x, .int (y + e), .int pts.length]) := upd_same
    generalize upd H1 t1 (.tup [.int x, .int (y + e), .int pts.length]) = H2 at r2 g1 ⊢
    refine ⟨_, rfl, a, _, _, _, rfl, rfl, SqT.of (r2 _ _ ha), atI_nat (j := 0) rfl, _, rfl, a, _, _, _, rfl, rfl, SqT.of (r2 _ _ ha), atI_nat (j := 1) rfl, _, rfl, p, C, dx, _, _, rfl, r2 _ _ hob, T.cl, T.nE, rfl, _, _, rfl, rfl,
      _, rfl, p, C, dx, _, _, rfl, r2 _ _ hob, T.cl, T.nC, rfl, (by show 3 ≤ sizeLine; decide), fun t2 n2 => ?_⟩
    have r3 := r2.trans (Same.new (o := .tup [.int x, .int (y - e), .int pts.length]) n2)
    have g1 := Same.new (o := .tup [.int x, .int (y - e), .int pts.length]) n2 _ _ g1
    have g2 : upd H2 t2 (.tup [.int x, .int (y - e), .int pts.length]) t2 = some (.tup [.int x, .int (y - e), .int pts.length]) := upd_same
    generalize upd H2 t2 (.tup [.int x, .int (y - e), .int pts.length]) = H3 at r3 g1 g2 ⊢
    have hF3 := hF.same r3
    have hob3 := r3 _ _ hob
    refine ⟨fun σ H4 => σ = [some (.ref p), some (.ref a), some (.ref t1), some (.ref t2)] ∧ ∃ (vF' vS' : V) (f0' f1' s0' s1' : Cn), Kp [p] H3 H4 ∧ Ft H4 C p lp lt lb e pts.length pts tops bots vF' vS' ∧
      (2 ≤ pts.length + 1 → PrV H4 vF' f0' f1' ∧ PrV H4 vS' s0' s1' ∧ FlOk e (pts ++ [(x, y)]) f0' f1' ∧ StOk e (pts ++ [(x, y)]) s0' s1'), ?_, ?_⟩
    · -- if self.count == 1
      refine ⟨_, rfl, p, C, dx, _, _, rfl, hob3, T.cl, T.nC, rfl, rfl, _, rfl, ite2 (fun q => ?_) (fun q => ?_)⟩
      · have q1 : pts.length = 1 := by
          have := V.int.inj (of_decide_eq_true q)
          omega
        obtain ⟨⟨x0, y0'⟩, rfl⟩ := List.length_eq_one_iff.mp q1
        have hT := hO.hT (by simp)
        have hB := hO.hB (by simp)
        obtain ⟨_, _, ⟨ys, hlt, hys⟩, ⟨zs, hlb, hzs⟩, _⟩ := id hF3
        obtain ⟨c0, hc0⟩ : ∃ c0, tops[0]? = some c0 := by
          cases hbb : tops with
          | nil => exact absurd hbb hT.ne
          | cons c r => exact ⟨c, rfl⟩
        obtain ⟨d0, hd0⟩ : ∃ c0, bots[0]? = some c0 := by
          cases hbb : bots with
          | nil => exact absurd hbb hB.ne
          | cons c r => exact ⟨c, rfl⟩
        obtain ⟨v0, hv0, hvc⟩ := hys.right hc0
        obtain ⟨w0, hw0, hwd⟩ := hzs.right hd0
        refine ⟨_, rfl, p, C, dx, _, _, rfl, hob3, T.cl, T.nT, rfl, lt, _, _, _, rfl, rfl, SqL.of hlt, atI_nat (j := 0) hv0, _, rfl, (by show 2 ≤ sizeLine; decide), fun t3 n3 => ?_⟩
        have r4 : Same H3 _ := Same.new (o := .tup [v0, .ref t2]) n3
        have g3 : upd H3 t3 (.tup [v0, .ref t2]) t3 = some (.tup [v0, .ref t2]) := upd_same
        generalize upd H3 t3 (.tup [v0, .ref t2]) = H4 at r4 g3 ⊢
        refine ⟨_, rfl, p, C, dx, _, rfl, r4 _ _ hob3, T.cl, T.nF, (by show 7 < 1000; decide), ?_⟩
        have hF4 := (hF3.same r4).put (n' := (([(x0, y0')] : List Pt).length : Int)) (vf' := .ref t3) (vs' := vs) (r4 _ _ hob3)
        have kp4 : Kp [p] H3 _ := (Kp.of r4).upd (p := p) (o := .ins C dx (ffs e (([(x0, y0')] : List Pt).length : Int) lp lt lb (.ref t3) vs)) (.inl (by simp))
        have kt4 : KT H4 _ := (KT.refl H4).upd (o := .ins C dx (ffs e (([(x0, y0')] : List Pt).length : Int) lp lt lb (.ref t3) vs)) (nt_ins (r4 _ _ hob3))
        have hob4 : upd H4 p (.ins C dx (ffs e (([(x0, y0')] : List Pt).length : Int) lp lt lb (.ref t3) vs)) p = some (.ins C dx (ffs e (([(x0, y0')] : List Pt).length : Int) lp lt lb (.ref t3) vs)) := upd_same
        have hlb4 := kp4.at hlb (by simp; exact ne_of hlb hob3 (by intro q; cases q))
        have e5 : putF "_flat" (V.ref t3) (ffs e (([(x0, y0')] : List Pt).length : Int) lp lt lb vf vs) = ffs e (([(x0, y0')] : List Pt).length : Int) lp lt lb (.ref t3) vs := rfl
        rw [e5]
        generalize upd H4 p (.ins C dx (ffs e (([(x0, y0')] : List Pt).length : Int) lp lt lb (.ref t3) vs)) = H5 at hF4 kp4 kt4 hob4 hlb4 ⊢
        refine ⟨_, rfl, p, C, dx, _, _, rfl, hob4, T.cl, T.nB, rfl, lb, _, _, _, rfl, rfl, SqL.of hlb4, atI_nat (j := 0) hw0, _, rfl, (by show 2 ≤ sizeLine; decide), fun t4 n4 => ?_⟩
        have r6 : Same H5 _ := Same.new (o := .tup [w0, .ref t1]) n4
        have g4 : upd H5 t4 (.tup [w0, .ref t1]) t4 = some (.tup [w0, .ref t1]) := upd_same
        generalize upd H5 t4 (.tup [w0, .ref t1]) = H6 at r6 g4 ⊢
        refine ⟨_, rfl, p, C, dx, _, rfl, r6 _ _ hob4, T.cl, T.nS, (by show 7 < 1000; decide), ?_⟩
        have kt6 : KT H6 _ := (KT.refl H6).upd (o := .ins C dx (ffs e (([(x0, y0')] : List Pt).length : Int) lp lt lb (.ref t3) (.ref t4))) (nt_ins (r6 _ _ hob4))
        have kt3 : KT H3 _ := (KT.of r4).trans (kt4.trans ((KT.of r6).trans kt6))
        have kt34 : KT H4 _ := kt4.trans ((KT.of r6).trans kt6)
        refine ⟨rfl, .ref t3, .ref t4, c0, ⟨x, y - e, _⟩, d0, ⟨x, y + e, _⟩, (kp4.trans (Kp.of r6)).upd (.inl (by simp)), (hF4.same r6).put (r6 _ _ hob4), fun _ => ⟨⟨v0, .ref t2, ⟨t3, rfl, kt34 _ _ g3⟩, hvc.mono kt3, ⟨t2, rfl, kt3 _ _ g2⟩⟩,
          ⟨w0, .ref t1, ⟨t4, rfl, kt6 _ _ g4⟩, hwd.mono kt3, ⟨t1, rfl, kt3 _ _ g1⟩⟩, ?_, ?_⟩⟩
        · exact fl_two e0 (hN.xs (x0, y0') (by simp)) (hN.ys (x0, y0') (by simp)) (hT.mem c0 (List.mem_of_getElem? hc0))
        · exact st_two e0 (hN.xs (x0, y0') (by simp)) (hN.ys (x0, y0') (by simp)) (hB.mem d0 (List.mem_of_getElem? hd0))
      · have q1 : pts.length ≠ 1 := fun z => q (decide_eq_true (by rw [z]; rfl))
        refine ⟨_, rfl, p, C, dx, _, _, rfl, hob3, T.cl, T.nC, rfl, _, _, rfl, rfl, _, rfl, ite2 (fun z => ?_) (fun z => ?_)⟩
        · have z1 := of_decide_eq_true z
          have h2 : 2 ≤ pts.length := by omega
          have hne : pts ≠ [] := fun w => by rw [w] at h2; simp at h2
          obtain ⟨pf, ps⟩ := hP h2
          obtain ⟨hfl, hst⟩ := hO.two h2
          obtain ⟨c1, c2⟩ := hC h2
          have un := under_of1 c1
          have ab := above_of1 c2
          refine ⟨_, rfl, p, dx, _, rfl, hob3, rfl, _, rfl, p, lp, lt, lb, e, _, pts, tops, bots, vf, vs, t1, x, y, _, f0, f1, s0, s1, rfl, hF3, ps.mono (KT.of r3), g1, hO.pts_, hN, hO.hB hne, hfl.1, un, hst, ab, fun H4 vS' s0' s1' kp4 hF4 hP4 hSt => ?_⟩
          obtain ⟨⟨dx4, hob4⟩, _⟩ := id hF4
          have kt4 : KT H3 H4 := KT.kp kp4 (fun b hb => by rw [List.mem_singleton.mp hb]; exact nt_ins hob3)
          refine ⟨_, rfl, p, dx4, _, rfl, hob4, rfl, _, rfl, p, lp, lt, lb, e, _, pts, tops, bots, vf, vS', t2, x, y, _, f0, f1, s0, s1, rfl, hF4, (pf.mono (KT.of r3)).mono kt4, kt4 _ _ g2, hO.pts_, hN, hO.hT hne, hst.1, ab, hfl, un, fun H5 vF' f0' f1' kp5 hF5 hP5 hFl => ?_⟩
          have kt5 : KT H4 H5 := KT.kp kp5 (fun b hb => by rw [List.mem_singleton.mp hb]; exact nt_ins hob4)
          exact ⟨rfl, vF', vS', f0', f1', s0', s1', kp4.trans kp5, hF5, fun _ => ⟨hP5, hP4.mono kt5, hFl, hSt⟩⟩
        · have z1 := mt decide_eq_true z
          exact ⟨rfl, vf, vs, f0, f1, s0, s1, Kp.refl _ _, hF3, fun w => by omega⟩
    · rintro σ H4 ⟨rfl, vF', vS', f0', f1', s0', s1', kp4, hF4, hP4⟩
      obtain ⟨⟨dx4, hob4⟩, _⟩ := id hF4
      have kt4 : KT H3 H4 := KT.kp kp4 (fun b hb => by rw [List.mem_singleton.mp hb]; exact nt_ins hob3)
      have pT : PopT e pts ⟨x, y + e, (pts.length : Int)⟩ tops := by
        by_cases q : pts = []
        · obtain ⟨z1, z2⟩ := hO.nil_ q
          subst q z1
          exact ⟨Nat.le_refl _, (fun c hc => nomatch hc), List.Pairwise.nil, (fun c hc => nomatch hc), (fun _ _ _ _ _ _ z hz => nomatch hz)⟩
        · exact (hO.hT q).start hN.xs
      have pB : PopB e pts ⟨x, y - e, (pts.length : Int)⟩ bots := by
        by_cases q : pts = []
        · obtain ⟨z1, z2⟩ := hO.nil_ q
          subst q z2
          exact ⟨Nat.le_refl _, (fun c hc => nomatch hc), List.Pairwise.nil, (fun c hc => nomatch hc), (fun _ _ _ _ _ _ z hz => nomatch hz)⟩
        · exact (hO.hB q).start hN.xs
      -- self.add_corners(top, bottom)
      refine ⟨_, rfl, p, dx4, _, rfl, hob4, rfl, _, rfl, _, rfl, p, lp, lt, lb, e, _, pts, tops, bots, vF', vS', t1, t2, x, y, _, _, rfl, hF4, kt4 _ _ g1, kt4 _ _ g2, hO.pts_, hN, pT, pB, fun H5 tops' bots' kp5 hF5 hT5 hB5 => ?_⟩
      obtain ⟨⟨dx5, hob5⟩, ⟨ys, hlp, hys⟩, _⟩ := id hF5
      obtain ⟨_, _, ⟨y2, h4t, _⟩, ⟨y3, h4b, _⟩, _⟩ := id hF4
      have kt5 : KT H4 H5 := KT.kp kp5 (fun b hb => by
        simp only [List.mem_cons, List.not_mem_nil, or_false] at hb
        rcases hb with rfl | rfl
        · exact nt_lst h4t
        · exact nt_lst h4b)
      have ktA := (KT.of r3).trans (kt4.trans kt5)
      have kpA : Kp [p, lp, lt, lb] H H5 := ((Kp.of r3).trans (kp4.mono (by simp))).trans (kp5.mono (by intro b hb; simp at hb ⊢; rcases hb with h | h <;> simp [h]))
      -- self._points.append(point)
      have rm := hN.room
      refine ⟨_, rfl, p, C, dx5, _, _, rfl, hob5, T.cl, T.nP, rfl, .inl ⟨rfl, _, SqL.of hlp⟩, _, rfl, lp, _, _, rfl, rfl, hlp, small1000 (by rw [hys.1]; omega), ?_⟩
      have hF6 := hF5.setP hlp (hys.snoc (x := .ref a) (y := (x, y)) ⟨a, rfl, ktA _ _ ha⟩)
      have kt6 : KT H5 _ := (KT.refl H5).upd (o := .lst (ys ++ [.ref a])) (nt_lst hlp)
      have kp6 : Kp [p, lp, lt, lb] H _ := kpA.upd (p := lp) (o := .lst (ys ++ [.ref a])) (.inl (by simp))
      generalize upd H5 lp (.lst (ys ++ [.ref a])) = H6 at hF6 kt6 kp6 ⊢
      obtain ⟨⟨dx6, hob6⟩, _⟩ := id hF6
      -- self.count += 1
      refine ⟨_, rfl, p, C, dx6, _, _, rfl, hob6, T.cl, T.nC, rfl, _, _, rfl, rfl, dx6, _, hob6, (by show 7 < 1000; decide), ?_⟩
      have hF7 := hF6.put (n' := (pts.length : Int) + 1) (vf' := vF') (vs' := vS') hob6
      have kt7 : KT H6 _ := (KT.refl H6).upd (o := .ins C dx6 (ffs e ((pts.length : Int) + 1) lp lt lb vF' vS')) (nt_ins hob6)
      have ln : ((pts ++ [(x, y)]).length : Int) = (pts.length : Int) + 1 := by simp
      have ln2 : (pts ++ [(x, y)]).length = pts.length + 1 := by simp
      refine k _ f0' f1' s0' s1' (kp6.upd (.inl (by simp))) ⟨tops', bots', vF', vS', ?_, ⟨hO.pts_.snoc hN, fun q => by simp at q, fun _ => hT5, fun _ => hB5, fun q => ?_⟩, fun q => ?_⟩
      · rw [ln]
        exact hF7
      · rw [ln2] at q
        exact ⟨(hP4 q).2.2.1, (hP4 q).2.2.2⟩
      · rw [ln2] at q
        obtain ⟨q1, q2, _⟩ := hP4 q
        exact ⟨q1.mono (kt5.trans (kt6.trans kt7)), q2.mono (kt5.trans (kt6.trans kt7))⟩
end
end Fw
namespace Fw
open PySem L2
section
variable {P : Program} {w : World} {K : PySem.W.Frag} {mg : Str → Option Value} {base : Heap}
/-! ### line_with_slope -/
def hts (e p d : Int) (pts : List Pt) : List Int := pts.map fun z => z.2 * d - e * d - p * z.1
def spLws (K : PySem.W.Frag) : Sp := fun vs H Q _ => ∃ (a b : Addr) (ys : List V) (e : Int) (pts : List Pt) (p d : Int), vs = [.ref a, .int e, .ref b] ∧ H a = some (.lst ys) ∧ All2 (PtV H) ys pts ∧ pts ≠ [] ∧
  H b = some (.tup [.int p, .int d]) ∧ PtsOk e pts ∧ B64 p ∧
  ∀ (H' : Hp) (t : Addr) (q : Int), Same H H' → H t = none → H' t = some (.tup [.int p, .int q, .int d]) → (∃ z ∈ pts, q = z.2 * d - e * d - p * z.1) → (∀ z ∈ pts, z.2 * d - e * d - p * z.1 ≤ q) → Q (.ref t) H'
abbrev nLws : List Str := ["points", "error", "slope", "p", "d", "place", "height"]
theorem scLws : FnScope nLws ["points", "error", "slope"] (defScope sLws) := ⟨rfl, rfl, rfl, by decide +kernel, rfl, by decide +kernel, by decide +kernel⟩
theorem ok_lws {f : Addr} {fd : FuncData} (F : Fun K "line_with_slope" "line_with_slope" sLws f fd) (mM : mg "max" = none) : FnOk P w K mg base CX0 1 f fd ["points", "error", "slope"] (spLws K) := by
  refine F.ok scLws (fun vs H Q E h => ?_) (fun cdv A outer s H vs Q E hr h => ?_)
  · obtain ⟨a, b, ys, e, pts, p, d, rfl, _⟩ := h
    rfl
  · obtain ⟨a, b, ys, e, pts, p, d, rfl, ha, hys, hne, hb, hO, hp, k⟩ := h
    refine ⟨_, pss_cons (ps_asg (pv 2) (pg_tup (by rfl) (pgs_cons (pg_name (i := 3) scLws.nd rfl (.inr rfl)) (pgs_cons (pg_name (i := 4) scLws.nd rfl (.inr rfl)) pgs_nil))))
      (pss_one (ps_ret (pe_tup (pa_cons (pv 3) (pa_cons (pe_callB (cr_max rfl) (by rfl) mM (by decide +kernel) (pa_cons
        (pe_lc (own := [("place", 5), ("height", 6)]) (g := gTup K 2 (gCons (gName 5) (gCons (gName 6) gNil))) (tt := tYes) rfl scLws.nd (pi_list (pv 0)) (blkOk_by (N := nLws) (sc := defScope sLws) (own := [("place", 5), ("height", 6)]) (by decide +kernel))
          (fun _ _ _ _ _ => pg_tup (by rfl) (pgs_cons (pg_name (i := 5) scLws.nd rfl (.inl rfl)) (pgs_cons (pg_name (i := 6) scLws.nd rfl (.inl rfl)) pgs_nil))) (fun _ _ _ _ _ => pts_nil)
          (fun _ _ _ _ _ => pe_op op_sub (pe_op op_sub (pe_op op_mul (pv 6) (pv 4)) (pe_op op_mul (pv 1) (pv 4))) (pe_op op_mul (pv 3) (pv 5)))) pa_nil)) (pa_cons (pv 4) pa_nil)))))), ?_⟩
    have e0 := hO.e0
    have e1 := hO.e1
    have hl := hO.len
    refine ⟨_, rfl, b, _, rfl, SqT.of hb, rfl, _, _, rfl, _, _, rfl, rfl, ?_⟩
    refine ⟨_, rfl, _, rfl, a, rfl, ⟨_, SqL.of ha⟩, fun D hD => lc_list (K := K) (a := a) (xs := ys) (fun i H' => Same H H' ∧ H' D = some (.lst ((hts e p d (pts.take i)).map V.int))) ⟨Same.new hD, upd_same⟩
      (fun i H' _ ⟨s1, _⟩ => SqL.of (s1 _ _ ha)) ?_ ?_⟩
    · rintro i v H' hi ⟨s1, hD1⟩
      obtain ⟨z, hz, az, rfl, haz⟩ := hys.left hi
      obtain ⟨⟨x0, x1⟩, y0, y1⟩ := hO.bd z (List.mem_of_getElem? hz)
      have hi' := (List.getElem?_eq_some_iff.mp hz).1
      refine ⟨az, _, rfl, SqT.of (s1 _ _ haz), rfl, _, _, rfl, _, _, rfl, rfl, rfl, ?_⟩
      refine ⟨_, rfl, _, rfl, _, _, rfl, rfl, .inl (b64_of (by omega) (by omega)), _, rfl, _, rfl, _, _, rfl, rfl, .inl (b64_of (by omega) (by omega)), _, _, rfl, rfl, _, rfl, _, rfl, _, _, rfl, rfl, .inl hp, _, _, rfl, rfl, _, hD1, small1000 ?_, ?_⟩
      · rw [List.length_map, hts, List.length_map, List.length_take]
        omega
      · refine ⟨Same.upd s1 hD, ?_⟩
        rw [upd_same, take_snoc hz, hts, hts, List.map_append, List.map_append]
        rfl
    · rintro H' ⟨s1, hD1⟩
      rw [hys.1, List.take_length] at hD1
      refine ⟨D, hts e p d pts, rfl, SqL.of hD1, ?_, fun m hm hle => ?_⟩
      · rw [hts, List.length_map]
        exact List.length_pos_iff.mpr hne
      · obtain ⟨z, hz, rfl⟩ := List.mem_map.mp hm
        refine ⟨_, rfl, (by show 3 ≤ sizeLine; decide), fun t ht => ?_⟩
        exact k _ t _ (s1.trans (Same.new ht)) (s1.free ht) upd_same ⟨z, hz, rfl⟩ fun z' hz' => hle _ (List.mem_map.mpr ⟨z', hz', rfl⟩)
/-! ### line -/
def spLine (C : Addr) : Sp := fun vs H Q _ => ∃ (p lp lt lb : Addr) (e : Int) (pts : List Pt) (f0 f1 s0 s1 : Cn), vs = [.ref p] ∧ FitS H C p lp lt lb e pts f0 f1 s0 s1 ∧ pts ≠ [] ∧
  ∀ (H' : Hp) (t : Addr) (p q d : Int), Same H H' → H t = none → H' t = some (.tup [.int p, .int q, .int d]) → LineOk e pts p q d → Q (.ref t) H'
theorem scLine : FnScope ["self", "lower", "upper", "slope"] ["self"] (defScope sFline) := ⟨rfl, rfl, rfl, by decide +kernel, rfl, by decide +kernel, by decide +kernel⟩
theorem ok_line {f C : Addr} {fd : FuncData} (F : Fun K "line" "Fitter.line" sFline f fd) (T : FC K C) (GR : FnG P w K mg base 1 "rise_over" ["one", "other"] spRise) (GF : FnG P w K mg base 2 "fraction" ["numerator", "denominator"] spFrac)
    (GS : FnG P w K mg base 1 "slope_between" ["lower", "upper"] spSlope) (GL : FnG P w K mg base 1 "line_with_slope" ["points", "error", "slope"] (spLws K)) : FnOk P w K mg base CX0 3 f fd ["self"] (spLine C) := by
  refine F.ok scLine (fun vs H Q E h => ?_) (fun cdv A outer s H vs Q E hr h => ?_)
  · obtain ⟨p, lp, lt, lb, e, pts, f0, f1, s0, s1, rfl, _⟩ := h
    rfl
  · obtain ⟨p, lp, lt, lb, e, pts, f0, f1, s0, s1, rfl, hS, hne, k⟩ := h
    obtain ⟨tops, bots, vf, vs, hF, hO, hP⟩ := hS
    obtain ⟨⟨dx, hob⟩, ⟨ys, hlp, hys⟩, _⟩ := id hF
    have hr1 : Room 1 _ := hr.mono (by decide)
    have e0 := hO.pts_.e0
    have e1 := hO.pts_.e1
    refine ⟨_, pss_cons (ps_if (pt_cmpR op_eq (pe_fld (pv 0) rfl) pe_int (nomark _)) (pss_one (ps_ret (pe_tup (pa_cons pe_int (pa_cons pe_int (pa_cons pe_int pa_nil)))))) pss_nil)
      (pss_cons (ps_if (pt_cmpR op_eq (pe_fld (pv 0) rfl) pe_int (nomark _)) (pss_one (ps_ret (pe_tup (pa_cons pe_int (pa_cons (pe_ix ix_tup (pe_ix ix_list (pe_fld (pv 0) rfl) pe_int (fun _ _ => rfl)) pe_int (fun _ _ => rfl)) (pa_cons pe_int pa_nil)))))) pss_nil)
      (pss_cons (ps_set (i := 1) scLine.nd rfl (.inl rfl) (pe_callG GR hr1 (by rfl) (pa_cons (pe_ix ix_tup (pe_fld (pv 0) rfl) pe_int (fun _ _ => rfl)) (pa_cons (pe_ix ix_tup (pe_fld (pv 0) rfl) pe_int (fun _ _ => rfl)) pa_nil))))
      (pss_cons (ps_set (i := 2) scLine.nd rfl (.inl rfl) (pe_callG GR hr1 (by rfl) (pa_cons (pe_ix ix_tup (pe_fld (pv 0) rfl) pe_int (fun _ _ => rfl)) (pa_cons (pe_ix ix_tup (pe_fld (pv 0) rfl) pe_int (fun _ _ => rfl)) pa_nil))))
      (pss_cons (ps_set (i := 3) scLine.nd rfl (.inl rfl) (pe_callG GS hr1 (by rfl) (pa_cons (pe_callG GF hr (by rfl) (pa_cons (pe_ix ix_tup (pv 1) pe_int (fun _ _ => rfl)) (pa_cons (pe_ix ix_tup (pv 1) pe_int (fun _ _ => rfl)) pa_nil)))
        (pa_cons (pe_callG GF hr (by rfl) (pa_cons (pe_ix ix_tup (pv 2) pe_int (fun _ _ => rfl)) (pa_cons (pe_ix ix_tup (pv 2) pe_int (fun _ _ => rfl)) pa_nil))) pa_nil))))
      (pss_one (ps_ret (pe_callG GL hr1 (by rfl) (pa_cons (pe_fld (pv 0) rfl) (pa_cons (pe_fld (pv 0) rfl) (pa_cons (pv 3) pa_nil)))))))))), ?_⟩
    refine ⟨_, rfl, p, C, dx, _, _, rfl, hob, T.cl, T.nC, rfl, rfl, _, rfl, ite2 (fun q => ?_) (fun q => ?_)⟩
    · have q1 := V.int.inj (of_decide_eq_true q)
      exact absurd (List.length_eq_zero_iff.mp (by omega)) hne
    · refine ⟨_, rfl, p, C, dx, _, _, rfl, hob, T.cl, T.nC, rfl, rfl, _, rfl, ite2 (fun q2 => ?_) (fun q2 => ?_)⟩
      · have q1 : pts.length = 1 := by
          have := V.int.inj (of_decide_eq_true q2)
          omega
        obtain ⟨⟨x0, y0'⟩, rfl⟩ := List.length_eq_one_iff.mp q1
        obtain ⟨v0, hv0, a0, rfl, ha0⟩ := hys.right (i := 0) (y := (x0, y0')) rfl
        refine ⟨_, rfl, p, C, dx, _, _, rfl, hob, T.cl, T.nP, rfl, lp, _, _, _, rfl, rfl, SqL.of hlp, atI_nat (j := 0) hv0, a0, _, _, _, rfl, rfl, SqT.of ha0, atI_nat (j := 1) rfl, (by show 3 ≤ sizeLine; decide), fun t ht => ?_⟩
        refine k _ t _ _ _ (Same.new ht) ht upd_same ⟨by decide, by decide, by decide, by decide, fun z hz => ?_⟩
        rw [List.mem_singleton.mp hz]
        show (y0' - e) * 1 ≤ 0 * x0 + y0' ∧ 0 * x0 + y0' ≤ (y0' + e) * 1
        omega
      · have h2 : 2 ≤ pts.length := by
          have h0 : pts.length ≠ 0 := fun z => hne (List.length_eq_zero_iff.mp z)
          have h1 : pts.length ≠ 1 := fun z => q2 (decide_eq_true (by rw [z]; rfl))
          omega
        obtain ⟨⟨va, vb, ⟨af, rfl, haf⟩, ⟨a0, rfl, ha0⟩, ⟨a1, rfl, ha1⟩⟩, ⟨vc, vd, ⟨as, rfl, has⟩, ⟨b0, rfl, hb0⟩, ⟨b1, rfl, hb1⟩⟩⟩ := hP h2
        obtain ⟨⟨hf, ht0, hf1⟩, hst⟩ := hO.two h2
        obtain ⟨hs, hs0, ht1⟩ := id hst
        obtain ⟨c1, c2, c3, c4⟩ := top_cb hO.pts_ ht0
        obtain ⟨c5, c6, c7, c8⟩ := bot_cb hO.pts_ hf1
        obtain ⟨d1, d2, d3, d4⟩ := bot_cb hO.pts_ hs0
        obtain ⟨d5, d6, d7, d8⟩ := top_cb hO.pts_ ht1
        have hf0 := hf.1
        have hs00 := hs.1
        have hrise := steep_rises e0 hO.pts_.asc hst
        -- lower, upper
        refine ⟨_, rfl, p, C, dx, _, _, rfl, hob, T.cl, T.nF, rfl, af, _, _, _, rfl, rfl, SqT.of haf, atI_nat (j := 0) rfl, ?_⟩
        refine ⟨_, rfl, p, C, dx, _, _, rfl, hob, T.cl, T.nF, rfl, af, _, _, _, rfl, rfl, SqT.of haf, atI_nat (j := 1) rfl, ?_⟩
        refine ⟨a0, a1, f0.x, f0.y, f1.x, f1.y, _, _, rfl, ha0, ha1, fun H1 t1 r1 g1 => ?_⟩
        refine ⟨_, rfl, p, C, dx, _, _, rfl, r1 _ _ hob, T.cl, T.nS, rfl, as, _, _, _, rfl, rfl, SqT.of (r1 _ _ has), atI_nat (j := 0) rfl, ?_⟩
        refine ⟨_, rfl, p, C, dx, _, _, rfl, r1 _ _ hob, T.cl, T.nS, rfl, as, _, _, _, rfl, rfl, SqT.of (r1 _ _ has), atI_nat (j := 1) rfl, ?_⟩
        refine ⟨b0, b1, s0.x, s0.y, s1.x, s1.y, _, _, rfl, r1 _ _ hb0, r1 _ _ hb1, fun H2 t2 r2 g2 => ?_⟩
        have g1 := r2 _ _ g1
        have r3 := r1.trans r2
        -- slope
        refine ⟨_, rfl, t1, _, _, _, rfl, rfl, SqT.of g1, atI_nat (j := 0) rfl, _, rfl, t1, _, _, _, rfl, rfl, SqT.of g1, atI_nat (j := 1) rfl, _, _, rfl, by omega, by omega, fun H3 t3 g n1 m1 r4 g3 gp en ed => ?_⟩
        have r5 := r3.trans r4
        refine ⟨_, rfl, t2, _, _, _, rfl, rfl, SqT.of (r4 _ _ g2), atI_nat (j := 0) rfl, _, rfl, t2, _, _, _, rfl, rfl, SqT.of (r4 _ _ g2), atI_nat (j := 1) rfl, _, _, rfl, by omega, by omega, fun H4 t4 g' n2 m2 r6 g4 gp' en' ed' => ?_⟩
        have r7 := r5.trans r6
        have n20 : 0 ≤ n2 := by
          by_cases z : 0 ≤ n2
          · exact z
          · have := Int.mul_neg_of_neg_of_pos (a := n2) (b := g') (by omega) gp'
            omega
        have m10 : 0 < m1 := by
          by_cases z : 0 < m1
          · exact z
          · have := Int.mul_nonpos_of_nonpos_of_nonneg (a := m1) (b := g) (by omega) (by omega)
            omega
        have m1l : m1 ≤ f1.x - f0.x := by
          rw [ed]
          have := Int.mul_le_mul_of_nonneg_left (a := 1) (b := g) (c := m1) (by omega) (by omega)
          omega
        refine ⟨t3, t4, n1, m1, n2, m2, rfl, r6 _ _ g3, g4, n20, fun H5 t5 pp dd r8 g5 hc => ?_⟩
        have r9 := r7.trans r8
        -- line_with_slope
        have hpl : 0 ≤ pp ∧ pp < 1073741824 ∧ 0 < dd ∧ dd < 1073741824 ∧ ∀ z ∈ pts, ∀ w ∈ pts, pp * (z.1 - w.1) ≤ (z.2 - w.2 + 2 * e) * dd := by
          rcases hc with ⟨z1, rfl, rfl⟩ | ⟨z1, rfl, rfl⟩
          · have n1l : pp ≤ f1.y - f0.y := by
              rw [en]
              have := Int.mul_le_mul_of_nonneg_left (a := 1) (b := g) (c := pp) (by omega) (by omega)
              omega
            exact ⟨by omega, by omega, m10, by omega, slope_flat hf gp en ed⟩
          · refine ⟨by decide, by decide, by decide, by decide, slope_zero e0 hO.pts_.asc hf ?_⟩
            rw [en]
            exact Int.mul_nonpos_of_nonpos_of_nonneg z1 (by omega)
        obtain ⟨p0, p1, dd0, dd1, hsl⟩ := hpl
        refine ⟨_, rfl, p, C, dx, _, _, rfl, r9 _ _ hob, T.cl, T.nP, rfl, _, rfl, p, C, dx, _, _, rfl, r9 _ _ hob, T.cl, T.nE, rfl, _, rfl, ?_⟩
        refine ⟨lp, t5, ys, e, pts, pp, dd, rfl, r9 _ _ hlp, pts_mono (KT.of r9) hys, hne, g5, hO.pts_, ⟨by omega, by omega⟩, fun H6 t6 q r10 f6 g6 hex hall => ?_⟩
        exact k H6 t6 pp q dd (r9.trans r10) (r9.free f6) g6 (line_of dd0 dd1 p0 p1 hsl hex hall)
end
end Fw
namespace Fw
open PySem L2
abbrev sCuI : Stmt := inClass (top 15) 0
abbrev sCut : Stmt := top 16
structure CC (K : PySem.W.Frag) (C : Addr) : Prop where
  cl : Cls K C
  nP : NoAttr K C "pieces"
  nR : NoAttr K C "reasons"
/-! ### more of heaps -/
theorem hid_kt {H H' : Hp} {M : List Addr} (k : KT H H') : KT (hid H M) (hid H' M) := fun b xs e => by
  obtain ⟨e1, e2⟩ := hid_some e
  exact hid_mk (k b xs e1) e2
theorem made_same {H H' : Hp} {x dx : Addr} {o o' : HO} (hx : H x = none) (hd : H dx = none) (k : Kp [x] (upd (upd H dx o) x o') H') : Same H H' := fun b u e => by
  have n1 : b ≠ x := ne_of_none e hx
  have n2 : b ≠ dx := ne_of_none e hd
  exact (k b u (by rw [upd_ne n1, upd_ne n2]; exact e)).1 (by simp; exact n1)
theorem made_free {H : Hp} {x dx b : Addr} {o o' : HO} (h : upd (upd H dx o) x o' b = none) : b ≠ x ∧ b ≠ dx ∧ H b = none := by
  obtain ⟨h1, h2⟩ := upd_none h
  obtain ⟨h3, h4⟩ := upd_none h2
  exact ⟨h1, h3, h4⟩
theorem same_kp {S : List Addr} {H H1 H2 : Hp} (a : Same H H1) (k : Kp S H1 H2) (n : ∀ m ∈ S, H m = none) : Same H H2 := fun b o e => (k b o (a b o e)).1 fun q => by
  rw [n b q] at e
  cases e
/-! ### pieces in a heap -/
def PcV (I : Hp) (v : V) (c : Pc) : Prop := ∃ vl, IsT I v [.int (c.s : Int), vl] ∧ IsT I vl [.int c.p, .int c.q, .int c.d]
theorem PcV.mono {I I' : Hp} {v : V} {c : Pc} (k : KT I I') (h : PcV I v c) : PcV I' v c := by
  obtain ⟨vl, h1, h2⟩ := h
  exact ⟨vl, h1.mono k, h2.mono k⟩
def CutV (C : Addr) (I : Hp) (r : Addr) (pcs : List Pc) : Prop := ∃ (dx lp lr : Addr) (vs : List V), I r = some (.ins C dx [("pieces", .ref lp), ("reasons", .ref lr)]) ∧ I lp = some (.lst vs) ∧ All2 (PcV I) vs pcs
/-- for a, b in enumerate(a list that stays) -/
theorem for_enum {K : PySem.W.Frag} {a : Addr} {xs : List V} {g : TG} {tb : TS} {D : Ends} {σ : St} {H : Hp} (Pv : Nat → St → Hp → Prop) (h0 : Pv 0 σ H) (hl : ∀ i σ H, i ≤ xs.length → Pv i σ H → SqL K H a xs)
    (hs : ∀ (i : Nat) (x : V) (T : Addr) σ H, xs[i]? = some x → H T = none → Pv i σ H → g (.ref T) σ (upd H T (.tup [.int (i : Nat), x])) fun σ2 H2 => tb { D with nx := Pv (i + 1), ct := Pv (i + 1), bk := D.nx } σ2 H2)
    (hd : ∀ σ H, Pv xs.length σ H → D.nx σ H) :
    ∃ W : Nat → Nat → St → Hp → Prop, (∃ m, W 0 m σ H) ∧ ∀ i m σ H, W i m σ H →
      ((Ite K a).stop i H ∧ D.nx σ H) ∨ ((Ite K a).go i H ∧ ∃ N : St → Hp → Prop, (∀ σ' H', N σ' H' → ∃ m', m' < m ∧ W (i + 1) m' σ' H') ∧ ∀ x H', (Ite K a).yld i H x H' → g x σ H' fun σ2 H2 => tb { D with nx := N, ct := N, bk := D.nx } σ2 H2) := by
  refine ⟨fun i m σ' H' => i + m = xs.length ∧ Pv i σ' H', ⟨xs.length, by omega, h0⟩, fun i m σ' H' hw => ?_⟩
  obtain ⟨em, p⟩ := hw
  have q := hl i σ' H' (by omega) p
  by_cases hi : i < xs.length
  · refine .inr ⟨⟨xs, xs[i], q, List.getElem?_eq_getElem hi⟩, Pv (i + 1), fun σ2 H2 p2 => ⟨m - 1, by omega, by omega, p2⟩, fun x H2 y => ?_⟩
    obtain ⟨T, x', rfl, nT, rfl, hx⟩ := y
    exact hs i x' T σ' H' (hx xs q) nT p
  · have e : i = xs.length := by omega
    subst e
    exact .inl ⟨⟨xs, q, Nat.le_refl _⟩, hd σ' H' p⟩
theorem closed_len {e : Int} {pts : List Pt} {pcs : List Pc} {t : Nat} (h : Closed e pts pcs t) : 2 * pcs.length ≤ t := by
  have key : ∀ (j : Nat) (a : Pc), pcs[j]? = some a → 2 * j ≤ a.s := by
    intro j
    induction j with
    | zero => intro a _; omega
    | succ j ih =>
      intro a ha
      have hj := (List.getElem?_eq_some_iff.mp ha).1
      have e1 : pcs[j]? = some pcs[j] := List.getElem?_eq_getElem (by omega)
      have h1 := ih _ e1
      have h2 := h.step j _ e1
      rw [nx_some ha] at h2
      omega
  by_cases h0 : pcs.length = 0
  · omega
  · have e1 : pcs[pcs.length - 1]? = some pcs[pcs.length - 1] := List.getElem?_eq_getElem (by omega)
    have h1 := key _ _ e1
    have h2 := h.step _ _ e1
    rw [nx_none (List.getElem?_eq_none (by omega))] at h2
    omega
theorem next_of {e : Int} {pts : List Pt} {s i : Nat} {z : Pt} (P : PtsOk e pts) (hz : pts[i]? = some z) : Next e (slc pts s i) z.1 z.2 := by
  have hi := (List.getElem?_eq_some_iff.mp hz).1
  have hl := P.len
  have lt : ∀ w ∈ slc pts s i, w.1 < z.1 ∧ w.2 < z.2 := fun w hw => by
    obtain ⟨j, _, hj, hw⟩ := slc_mem hw
    obtain ⟨h1, rfl⟩ := List.getElem?_eq_some_iff.mp hw
    obtain ⟨h2, rfl⟩ := List.getElem?_eq_some_iff.mp hz
    exact List.pairwise_iff_getElem.mp P.asc j i h1 h2 hj
  obtain ⟨b1, b2, b3⟩ := P.bd z (List.mem_of_getElem? hz)
  exact ⟨fun w hw => (lt w hw).1, fun w hw => (lt w hw).2, b1, b2, b3, by rw [slc_len (by omega)]; omega⟩
section
variable {P : Program} {w : World} {K : PySem.W.Frag} {mg : Str → Option Value} {base : Heap}
/-! ### a new cutting -/
def spCuI (C : Addr) : Sp := fun vs H Q _ => ∃ (p dx a b : Addr) (xs ys : List V), vs = [.ref p, .ref a, .ref b] ∧ H p = some (.ins C dx []) ∧ H a = some (.lst xs) ∧ H b = some (.lst ys) ∧
  ∀ (H' : Hp) (lp lr : Addr), Kp [p] H H' → H lp = none → H' p = some (.ins C dx [("pieces", .ref lp), ("reasons", .ref lr)]) → H' lp = some (.lst xs) → Q .non H'
theorem scCuI : FnScope ["self", "pieces", "reasons"] ["self", "pieces", "reasons"] (defScope sCuI) := ⟨rfl, rfl, rfl, by decide +kernel, rfl, by decide +kernel, by decide +kernel⟩
theorem ok_cui {f C : Addr} {fd : FuncData} (F : Fun K "__init__" "Cutting.__init__" sCuI f fd) (T : CC K C) (mL : mg "list" = none) : FnOk P w K mg base CX0 1 f fd ["self", "pieces", "reasons"] (spCuI C) := by
  refine F.ok scCuI (fun vs H Q E h => ?_) (fun cdv A outer s H vs Q E hr h => ?_)
  · obtain ⟨p, dx, a, b, xs, ys, rfl, _⟩ := h
    rfl
  · obtain ⟨p, dx, a, b, xs, ys, rfl, hp, ha, hb, k⟩ := h
    refine ⟨_, pss_cons (ps_fld (pv 0) (pe_callTy call_list_of (by rfl) mL (by decide +kernel) (pa_cons (pv 1) pa_nil)) rfl)
      (pss_one (ps_fld (pv 0) (pe_callTy call_list_of (by rfl) mL (by decide +kernel) (pa_cons (pv 2) pa_nil)) rfl)), ?_⟩
    refine ⟨_, rfl, a, xs, rfl, .inl (SqL.of ha), fun l1 n1 => ?_⟩
    have q1 : p ≠ l1 := ne_of_none hp n1
    refine ⟨_, rfl, p, C, dx, _, rfl, Eq.trans (upd_ne q1) hp, T.cl, T.nP, (by show 0 < 1000; decide), ?_⟩
    have q2 : b ≠ l1 := ne_of_none hb n1
    have q3 : b ≠ p := ne_of hb hp (by intro q; cases q)
    refine ⟨_, rfl, b, ys, rfl, .inl (SqL.of (by rw [upd_ne q3, upd_ne q2]; exact hb)), fun l2 n2 => ?_⟩
    obtain ⟨m1, n2⟩ := upd_none n2
    obtain ⟨m2, n2⟩ := upd_none n2
    refine ⟨_, rfl, p, C, dx, _, rfl, Eq.trans (upd_ne m1.symm) upd_same, T.cl, T.nR, (by show 1 < 1000; decide), ?_⟩
    refine k _ l1 l2 ?_ n1 upd_same ?_
    · exact Kp.upd (Kp.upd (Kp.upd (Kp.upd (Kp.refl _ _) (.inr n1)) (.inl (List.mem_singleton.mpr rfl))) (.inr n2)) (.inl (List.mem_singleton.mpr rfl))
    · rw [upd_ne q1.symm, upd_ne m2.symm, upd_ne q1.symm, upd_same]
/-! ### cut -/
structure CI (C : Addr) (M : List Addr) (H H' : Hp) (lpc lr p lp lt lb : Addr) (e : Int) (pts : List Pt) (pcs : List Pc) (s i : Nat) : Prop where
  same : Same H H'
  f1 : H lpc = none
  f2 : H lr = none
  f3 : ∀ m ∈ [p, lp, lt, lb], H m = none
  n0 : lpc ≠ lr
  n1 : lpc ∉ [p, lp, lt, lb]
  n2 : lr ∉ [p, lp, lt, lb]
  pc : ∃ vs, H' lpc = some (.lst vs) ∧ All2 (PcV (hid H' M)) vs pcs
  rs : ∃ vs, H' lr = some (.lst vs) ∧ vs.length ≤ pcs.length
  le : s ≤ i
  cl : Closed e pts pcs s
  fit : ∃ f0 f1 s0 s1, FitS H' C p lp lt lb e (slc pts s i) f0 f1 s0 s1
theorem CI.mono {C : Addr} {M : List Addr} {H H' H2 : Hp} {lpc lr p lp lt lb : Addr} {e : Int} {pts : List Pt} {pcs : List Pc} {s i : Nat} (c : CI C M H H' lpc lr p lp lt lb e pts pcs s i) (a : Same H' H2) : CI C M H H2 lpc lr p lp lt lb e pts pcs s i := by
  obtain ⟨c1, c2, c3, c4, c5, c6, c7, ⟨vs, c8, c9⟩, ⟨us, c10, c11⟩, c12, c14, ⟨f0, f1, s0, s1, c15⟩⟩ := c
  exact ⟨c1.trans a, c2, c3, c4, c5, c6, c7, ⟨vs, a _ _ c8, c9.mono fun _ _ q => q.mono (hid_kt (KT.of a))⟩, ⟨us, a _ _ c10, c11⟩, c12, c14, ⟨f0, f1, s0, s1, c15.same a⟩⟩
def spCut (C : Addr) : Sp := fun vs H Q _ => ∃ (M : List Addr) (a : Addr) (ys : List V) (e : Int) (pts : List Pt), vs = [.ref a, .int e] ∧ Live M H ∧ H a = some (.lst ys) ∧ All2 (PtV H) ys pts ∧ PtsOk e pts ∧
  ∀ (H' : Hp) (r : Addr) (pcs : List Pc), Same H H' → H r = none → CutV C (hid H' M) r pcs → CutOk e pts pcs → Q (.ref r) H'
abbrev nCut : List Str := ["points", "error", "pieces", "reasons", "start", "fitter", "position", "point", "found"]
theorem scCut : FnScope nCut ["points", "error"] (defScope sCut) := ⟨rfl, rfl, rfl, by decide +kernel, rfl, by decide +kernel, by decide +kernel⟩
theorem ok_cut {f C D : Addr} {fd : FuncData} (F : Fun K "cut" "cut" sCut f fd) (T : FC K C) (Gi : ClG P w K mg base 1 "Fitter" C ["self", "error"] (spFi C)) (Gc : MeG P w K mg base 2 C "conflict" ["self", "point"] (spConf C))
    (Ga : MeG P w K mg base 3 C "add" ["self", "point"] (spAdd C)) (Gl : MeG P w K mg base 3 C "line" ["self"] (spLine C)) (Gd : ClG P w K mg base 1 "Cutting" D ["self", "pieces", "reasons"] (spCuI D)) (mE : mg "enumerate" = none) :
    FnOk P w K mg base CX0 4 f fd ["points", "error"] (spCut D) := by
  obtain ⟨fc, fdc, mc, Fc, bc⟩ := Gc
  obtain ⟨fa, fda, ma, Fa, ba⟩ := Ga
  obtain ⟨fl, fdl, ml, Fl, bl⟩ := Gl
  refine F.ok scCut (fun vs H Q E h => ?_) (fun cdv A outer s H vs Q E hr h => ?_)
  · obtain ⟨M, a, ys, e, pts, rfl, _⟩ := h
    rfl
  · obtain ⟨M, a, ys, e, pts, rfl, hM, ha, hys, hO, k⟩ := h
    have hr2 : Room 2 _ := hr.mono (by decide)
    refine ⟨_, pss_cons (ps_set (i := 2) scCut.nd rfl (.inl rfl) (pe_lst pa_nil)) (pss_cons (ps_set (i := 3) scCut.nd rfl (.inl rfl) (pe_lst pa_nil)) (pss_cons (ps_set (i := 4) scCut.nd rfl (.inl rfl) pe_int)
      (pss_cons (ps_set (i := 5) scCut.nd rfl (.inl rfl) (pe_makeG Gi hr2 (by rfl) (pa_cons (pv 1) pa_nil)))
      (pss_cons (ps_for PassesOwn.never rfl (pi_enum (by rfl) mE (pa_cons (pv 0) pa_nil)) (pg_tup (by rfl) (pgs_cons (pg_name (i := 6) scCut.nd rfl (.inl rfl)) (pgs_cons (pg_name (i := 7) scCut.nd rfl (.inl rfl)) pgs_nil)))
        (Evl.pss_cut (ps_set (i := 8) scCut.nd rfl (.inl rfl) (pe_meth (pv 5) T.cl mc Fc hr2 bc .nil pass0 (pa_cons (pv 7) pa_nil)))
        (Evl.pss_cut (ps_if (pt_cmpR op_notN (pv 8) pe_non (nomark _))
            (pss_cons (ps_expr (pe_bm PySem.F.plainAttrs_list PySem.F.slot_list_append PySem.F.type_list_append mt_append (pv 2) (pa_cons (pe_tup (pa_cons (pv 4) (pa_cons (pe_meth0 (pv 5) T.cl ml Fl hr bl .nil pass0) pa_nil))) pa_nil)))
            (pss_cons (ps_expr (pe_bm PySem.F.plainAttrs_list PySem.F.slot_list_append PySem.F.type_list_append mt_append (pv 3) (pa_cons (pe_tup (pa_cons (pe_op op_add (pv 4) (pe_ix ix_tup (pv 8) pe_int (fun _ _ => rfl)))
              (pa_cons (pe_op op_add (pv 4) (pe_ix ix_tup (pv 8) pe_int (fun _ _ => rfl))) (pa_cons (pv 6) pa_nil)))) pa_nil)))
            (pss_cons (ps_set (i := 4) scCut.nd rfl (.inl rfl) (pv 6))
            (pss_one (ps_set (i := 5) scCut.nd rfl (.inl rfl) (pe_makeG Gi hr2 (by rfl) (pa_cons (pv 1) pa_nil))))))) pss_nil)
          (pss_one (ps_expr (pe_meth (pv 5) T.cl ma Fa hr ba .nil pass0 (pa_cons (pv 7) pa_nil)))))))
      (Evl.pss_cut (ps_if (pt_truth (pv 0) (by intro _; rfl))
          (pss_one (ps_expr (pe_bm PySem.F.plainAttrs_list PySem.F.slot_list_append PySem.F.type_list_append mt_append (pv 2) (pa_cons (pe_tup (pa_cons (pv 4) (pa_cons (pe_meth0 (pv 5) T.cl ml Fl hr bl .nil pass0) pa_nil))) pa_nil)))) pss_nil)
      (pss_one (ps_ret (pe_makeG Gd hr2 (by rfl) (pa_cons (pv 2) (pa_cons (pv 3) pa_nil)))))))))), ?_⟩
    have e0 := hO.e0
    have e1 := hO.e1
    have hn := hO.len
    -- pieces, reasons, start, fitter
    refine ⟨Nat.zero_le _, fun lpc q1 => ?_⟩
    refine ⟨Nat.zero_le _, fun lr q2 => ?_⟩
    obtain ⟨n0, q2'⟩ := upd_none q2
    refine ⟨_, rfl, fun x dx nx ndx nex => ?_⟩
    refine ⟨x, dx, e, rfl, upd_same, e0, e1, fun H1 lp lt lb kp m1 m2 m3 hfit => ⟨rfl, ?_⟩⟩
    have s1 : Same _ H1 := made_same nx ndx kp
    obtain ⟨_, _, m1⟩ := made_free m1
    obtain ⟨_, _, m2⟩ := made_free m2
    obtain ⟨_, _, m3⟩ := made_free m3
    have sH : Same H (upd (upd H lpc (.lst [])) lr (.lst [])) := (Same.new q1).trans (Same.new q2)
    have g1 : (upd (upd H lpc (.lst [])) lr (.lst [])) lpc = some (.lst []) := by rw [upd_ne n0.symm, upd_same]
    have g2 : (upd (upd H lpc (.lst [])) lr (.lst [])) lr = some (.lst []) := upd_same
    generalize upd (upd H lpc (.lst [])) lr (.lst []) = H0 at nx ndx kp s1 m1 m2 m3 sH g1 g2
    have c0 : CI C M H H1 lpc lr x lp lt lb e pts [] 0 0 := by
      refine ⟨sH.trans s1, q1, q2', fun m hm => ?_, n0.symm, fun hm => ?_, fun hm => ?_, ⟨[], s1 _ _ g1, .nil⟩, ⟨[], s1 _ _ g2, Nat.le_refl _⟩, Nat.le_refl _, closed_nil e pts, ⟨_, _, _, _, hfit ⟨0, 0, 0⟩ ⟨0, 0, 0⟩ ⟨0, 0, 0⟩ ⟨0, 0, 0⟩⟩⟩
      · simp only [List.mem_cons, List.not_mem_nil, or_false] at hm
        rcases hm with rfl | rfl | rfl | rfl
        · exact sH.free nx
        · exact sH.free m1
        · exact sH.free m2
        · exact sH.free m3
      · simp only [List.mem_cons, List.not_mem_nil, or_false] at hm
        rcases hm with rfl | rfl | rfl | rfl
        · rw [nx] at g1; cases g1
        · rw [m1] at g1; cases g1
        · rw [m2] at g1; cases g1
        · rw [m3] at g1; cases g1
      · simp only [List.mem_cons, List.not_mem_nil, or_false] at hm
        rcases hm with rfl | rfl | rfl | rfl
        · rw [nx] at g2; cases g2
        · rw [m1] at g2; cases g2
        · rw [m2] at g2; cases g2
        · rw [m3] at g2; cases g2
    clear hfit kp
    -- the loop
    refine ⟨_, rfl, a, ys, rfl, SqL.of ((sH.trans s1) _ _ ha), for_enum (K := K) (a := a) (xs := ys) (fun i σ H' => ∃ (pcs : List Pc) (s : Nat) (p lp lt lb : Addr) (v1 v2 v3 : Option V),
      σ = [some (.ref a), some (.int e), some (.ref lpc), some (.ref lr), some (.int (s : Nat)), some (.ref p), v1, v2, v3] ∧ CI C M H H' lpc lr p lp lt lb e pts pcs s i ∧ (0 < i → s < i))
      ⟨[], 0, x, lp, lt, lb, none, none, none, rfl, c0, fun q => absurd q (by decide)⟩ (fun i σ H' _ ⟨_, _, _, _, _, _, _, _, _, _, c, _⟩ => SqL.of (c.same _ _ ha)) ?_ ?_⟩
    · clear c0 s1 m1 m2 m3 nx ndx g1 g2
      rintro i v T σ H2 hi nT ⟨pcs, s, p, lp, lt, lb, v1, v2, v3, rfl, c, _⟩
      obtain ⟨z, hz, az, rfl, haz⟩ := hys.left hi
      have hil := (List.getElem?_eq_some_iff.mp hz).1
      have c := c.mono (Same.new (o := .tup [.int (i : Nat), .ref az]) nT)
      refine ⟨T, _, rfl, SqT.of upd_same, rfl, _, _, rfl, _, _, rfl, rfl, ?_⟩
      generalize upd H2 T (.tup [.int (i : Nat), .ref az]) = H3 at c ⊢
      obtain ⟨f0, f1, s0, s1, hS⟩ := c.fit
      have haz3 := c.same _ _ haz
      have nxt := next_of (s := s) hO hz
      obtain ⟨tops, bots, vf, vs, hF, _⟩ := id hS
      obtain ⟨⟨dxp, hob⟩, _⟩ := id hF
      have ni : (slc pts s i).length = i - s := slc_len (by omega)
      -- found = fitter.conflict(point)
      refine ⟨fun σ' H' => ∃ v8 : V, σ' = [some (.ref a), some (.int e), some (.ref lpc), some (.ref lr), some (.int (s : Nat)), some (.ref p), some (.int (i : Nat)), some (.ref az), some v8] ∧ CI C M H H' lpc lr p lp lt lb e pts pcs s i ∧ FitS H' C p lp lt lb e (slc pts s i) f0 f1 s0 s1 ∧
        ((v8 = .non ∧ NoC e (slc pts s i) f0 f1 s0 s1 z.1 z.2) ∨ ∃ (t : Addr) (j1 j2 : Int), v8 = .ref t ∧ ¬ NoC e (slc pts s i) f0 f1 s0 s1 z.1 z.2 ∧ H' t = some (.tup [.int j1, .int j2])), ?_, ?_⟩
      · refine ⟨_, rfl, p, dxp, _, rfl, hob, rfl, _, rfl, p, lp, lt, lb, e, slc pts s i, f0, f1, s0, s1, az, z.1, z.2, rfl, hS, haz3, nxt.bx, nxt.y0, nxt.y1, fun H4 r1 hno => ?_, fun H4 t j1 j2 r1 hco gt => ?_⟩
        · exact ⟨_, rfl, c.mono r1, hS.same r1, .inl ⟨rfl, hno⟩⟩
        · exact ⟨_, rfl, c.mono r1, hS.same r1, .inr ⟨t, j1, j2, rfl, hco, gt⟩⟩
      · clear c hS hF hob
        rintro σ H4 ⟨v8, rfl, c, hS, hv⟩
        obtain ⟨tops, bots, vf, vs, hF, _⟩ := id hS
        obtain ⟨⟨dxp, hob⟩, _⟩ := id hF
        -- if found is not None
        refine ⟨fun σ' H' => ∃ (pcs : List Pc) (s : Nat) (p lp lt lb : Addr) (f0 f1 s0 s1 : Cn) (v8 : V), σ' = [some (.ref a), some (.int e), some (.ref lpc), some (.ref lr), some (.int (s : Nat)), some (.ref p), some (.int (i : Nat)), some (.ref az), some v8] ∧
          CI C M H H' lpc lr p lp lt lb e pts pcs s i ∧ FitS H' C p lp lt lb e (slc pts s i) f0 f1 s0 s1 ∧ NoC e (slc pts s i) f0 f1 s0 s1 z.1 z.2, ?_, ?_⟩
        · rcases hv with ⟨rfl, hno⟩ | ⟨t, j1, j2, rfl, hco, gt⟩
          · refine ⟨_, rfl, rfl, _, rfl, iteNS rfl ?_⟩
            exact ⟨pcs, s, p, lp, lt, lb, f0, f1, s0, s1, _, rfl, c, hS, hno⟩
          · have h2 : 2 ≤ (slc pts s i).length := by
              by_cases q : 2 ≤ (slc pts s i).length
              · exact q
              · exact absurd (fun z => absurd z q) hco
            refine ⟨_, rfl, rfl, _, rfl, ?_⟩
            have nd : (!decide (V.ref t = V.non)) = true := by rw [decide_eq_false (by intro q; cases q)]; rfl
            rw [nd]
            refine iteT ?_
            obtain ⟨us, hpc, hus⟩ := c.pc
            have hpl := closed_len c.cl
            have hM4 := hM.kp (Kp.of (S := []) c.same)
            -- pieces.append((start, fitter.line()))
            refine ⟨_, rfl, .inl ⟨rfl, _, SqL.of hpc⟩, _, rfl, _, rfl, p, dxp, _, rfl, hob, rfl, p, lp, lt, lb, e, slc pts s i, f0, f1, s0, s1, rfl, hS, (fun q => by rw [q] at h2; simp at h2), fun H5 tl pp qq dd r2 n2 g2 hln => ?_⟩
            refine ⟨(by show 2 ≤ sizeLine; decide), fun tp n3 => ?_⟩
            have c5 := c.mono r2
            have r3 : Same H5 _ := Same.new (o := .tup [.int (s : Nat), .ref tl]) n3
            have hM5 := hM4.kp (Kp.of (S := []) r2)
            have vpc : PcV (hid (upd H5 tp (.tup [.int (s : Nat), .ref tl])) M) (.ref tp) ⟨s, pp, qq, dd⟩ := ⟨.ref tl, ⟨tp, rfl, hid_mk upd_same (hM5.not n3)⟩, ⟨tl, rfl, hid_mk (r3 _ _ g2) (hM4.not n2)⟩⟩
            have c6 := c5.mono r3
            have gt6 := r3 _ _ (r2 _ _ gt)
            have hpc6 := r3 _ _ (r2 _ _ hpc)
            generalize upd H5 tp (.tup [.int (s : Nat), .ref tl]) = H6 at r3 vpc c6 gt6 hpc6 ⊢
            refine ⟨lpc, us, .ref tp, rfl, rfl, hpc6, small1000 (by rw [hus.1]; have := c.le; omega), ?_⟩
            have hus6 := (hus.mono fun _ _ q => q.mono (hid_kt (KT.of (r2.trans r3)))).snoc vpc
            have kt7 : KT H6 _ := (KT.refl H6).upd (o := .lst (us ++ [.ref tp])) (nt_lst hpc6)
            have hsame7 : Same H _ := Same.upd (o := .lst (us ++ [.ref tp])) c6.same c.f1
            obtain ⟨rs, hrs, hrl⟩ := c6.rs
            have hrs7 : upd H6 lpc (.lst (us ++ [.ref tp])) lr = some (.lst rs) := by rw [upd_ne c.n0.symm]; exact hrs
            have hpc7 : upd H6 lpc (.lst (us ++ [.ref tp])) lpc = some (.lst (us ++ [.ref tp])) := upd_same
            have gt7 := kt7 _ _ gt6
            have hus7 := hus6.mono fun _ _ q => q.mono (hid_kt (M := M) kt7)
            generalize upd H6 lpc (.lst (us ++ [.ref tp])) = H7 at kt7 hsame7 hrs7 hpc7 gt7 hus7 ⊢
            -- reasons.append(..)
            refine ⟨_, rfl, .inl ⟨rfl, _, SqL.of hrs7⟩, _, rfl, _, rfl, t, _, _, _, rfl, rfl, SqT.of gt7, atI_nat (j := 0) rfl, _, _, rfl, rfl, _, rfl, _, rfl, t, _, _, _, rfl, rfl, SqT.of gt7, atI_nat (j := 1) rfl, _, _, rfl, rfl, _, rfl, (by show 3 ≤ sizeLine; decide), fun tr n4 => ?_⟩
            have r4 : Same H7 _ := Same.new (o := .tup [.int ((s : Nat) + j1), .int ((s : Nat) + j2), .int (i : Nat)]) n4
            have hrs8 := r4 _ _ hrs7
            have hpc8 := r4 _ _ hpc7
            have hus8 := hus7.mono fun _ _ q => q.mono (hid_kt (M := M) (KT.of r4))
            have hsame8 := hsame7.trans r4
            generalize upd H7 tr (.tup [.int ((s : Nat) + j1), .int ((s : Nat) + j2), .int (i : Nat)]) = H8 at r4 hrs8 hpc8 hus8 hsame8 ⊢
            refine ⟨lr, rs, .ref tr, rfl, rfl, hrs8, small1000 (by have := c.le; omega), ?_⟩
            have kt9 : KT H8 _ := (KT.refl H8).upd (o := .lst (rs ++ [.ref tr])) (nt_lst hrs8)
            have hsame9 : Same H _ := Same.upd (o := .lst (rs ++ [.ref tr])) hsame8 c.f2
            have hrs9 : upd H8 lr (.lst (rs ++ [.ref tr])) lr = some (.lst (rs ++ [.ref tr])) := upd_same
            have hpc9 : upd H8 lr (.lst (rs ++ [.ref tr])) lpc = some (.lst (us ++ [.ref tp])) := by rw [upd_ne c.n0]; exact hpc8
            have hus9 := hus8.mono fun _ _ q => q.mono (hid_kt (M := M) kt9)
            generalize upd H8 lr (.lst (rs ++ [.ref tr])) = H9 at kt9 hsame9 hrs9 hpc9 hus9 ⊢
            -- start = position; fitter = Fitter(error)
            refine ⟨_, rfl, ?_⟩
            refine ⟨_, rfl, fun x dx nx ndx nex => ?_⟩
            refine ⟨x, dx, e, rfl, upd_same, e0, e1, fun Ha lp2 lt2 lb2 kp m1 m2 m3 hfit => ⟨rfl, ?_⟩⟩
            have s9 : Same H9 Ha := made_same nx ndx kp
            obtain ⟨_, _, m1⟩ := made_free m1
            obtain ⟨_, _, m2⟩ := made_free m2
            obtain ⟨_, _, m3⟩ := made_free m3
            have fit0 : FitS Ha C x lp2 lt2 lb2 e (slc pts i i) ⟨0, 0, 0⟩ ⟨0, 0, 0⟩ ⟨0, 0, 0⟩ ⟨0, 0, 0⟩ := by rw [slc_self]; exact hfit _ _ _ _
            refine ⟨pcs ++ [⟨s, pp, qq, dd⟩], i, x, lp2, lt2, lb2, ⟨0, 0, 0⟩, ⟨0, 0, 0⟩, ⟨0, 0, 0⟩, ⟨0, 0, 0⟩, _, rfl, ?_, fit0, fun q => by rw [slc_self] at q; simp at q⟩
            refine ⟨hsame9.trans s9, c.f1, c.f2, fun m hm => ?_, c.n0, fun hm => ?_, fun hm => ?_, ⟨_, s9 _ _ hpc9, hus9.mono fun _ _ q => q.mono (hid_kt (M := M) (KT.of s9))⟩, ⟨_, s9 _ _ hrs9, ?_⟩, Nat.le_refl _, ?_, ⟨_, _, _, _, fit0⟩⟩
            · simp only [List.mem_cons, List.not_mem_nil, or_false] at hm
              rcases hm with rfl | rfl | rfl | rfl
              · exact hsame9.free nx
              · exact hsame9.free m1
              · exact hsame9.free m2
              · exact hsame9.free m3
            · simp only [List.mem_cons, List.not_mem_nil, or_false] at hm
              rcases hm with rfl | rfl | rfl | rfl
              · rw [nx] at hpc9; cases hpc9
              · rw [m1] at hpc9; cases hpc9
              · rw [m2] at hpc9; cases hpc9
              · rw [m3] at hpc9; cases hpc9
            · simp only [List.mem_cons, List.not_mem_nil, or_false] at hm
              rcases hm with rfl | rfl | rfl | rfl
              · rw [nx] at hrs9; cases hrs9
              · rw [m1] at hrs9; cases hrs9
              · rw [m2] at hrs9; cases hrs9
              · rw [m3] at hrs9; cases hrs9
            · simp
              exact hrl
            · exact closed_snoc (a := ⟨s, pp, qq, dd⟩) c.cl (by show s + 2 ≤ i; omega) (near_of hln)
        · clear c hS hF hob hv
          rintro σ H5 ⟨pcs, s, p, lp, lt, lb, f0, f1, s0, s1, v8, rfl, c, hS, hno⟩
          obtain ⟨tops, bots, vf, vs, hF, _⟩ := id hS
          obtain ⟨⟨dxp, hob⟩, _⟩ := id hF
          have nxt := next_of (s := s) hO hz
          -- fitter.add(point)
          refine ⟨_, rfl, p, dxp, _, rfl, hob, rfl, _, rfl, p, lp, lt, lb, e, slc pts s i, f0, f1, s0, s1, az, z.1, z.2, rfl, hS, c.same _ _ haz, nxt, hno, fun H6 f0' f1' s0' s1' kp6 hS6 => ?_⟩
          have kt6 : KT H5 H6 := KT.kp kp6 hF.nt
          have e6 : slc pts s (i + 1) = slc pts s i ++ [(z.1, z.2)] := slc_snoc c.le hz
          rw [← e6] at hS6
          obtain ⟨us, hpc, hus⟩ := c.pc
          obtain ⟨rs, hrs, hrl⟩ := c.rs
          exact ⟨pcs, s, p, lp, lt, lb, _, _, _, rfl, ⟨same_kp c.same kp6 c.f3, c.f1, c.f2, c.f3, c.n0, c.n1, c.n2, ⟨us, kp6.at hpc c.n1, hus.mono fun _ _ q => q.mono (hid_kt kt6)⟩, ⟨rs, kp6.at hrs c.n2, hrl⟩,
            Nat.le_succ_of_le c.le, c.cl, ⟨_, _, _, _, hS6⟩⟩, fun _ => Nat.lt_succ_of_le c.le⟩
    · rintro σ H2 ⟨pcs, s, p, lp, lt, lb, v1, v2, v3, rfl, c, cl⟩
      rw [hys.1] at c cl
      obtain ⟨us, hpc, hus⟩ := c.pc
      obtain ⟨rs, hrs, hrl⟩ := c.rs
      have hM2 := hM.kp (Kp.of (S := []) c.same)
      have hpl := closed_len c.cl
      -- if points
      refine ⟨fun σ' H' => ∃ (pcs' : List Pc) (us' : List V), σ' = [some (.ref a), some (.int e), some (.ref lpc), some (.ref lr), some (.int (s : Nat)), some (.ref p), v1, v2, v3] ∧ Same H H' ∧ H' lpc = some (.lst us') ∧ All2 (PcV (hid H' M)) us' pcs' ∧
        H' lr = some (.lst rs) ∧ CutOk e pts pcs', ?_, ?_⟩
      · refine ⟨_, rfl, !ys.isEmpty, .inl ⟨ys, SqL.of (c.same _ _ ha), rfl⟩, ?_⟩
        cases hy : ys with
        | nil =>
          refine iteF ?_
          have hp0 : pts = [] := (hys.nil_iff).mp hy
          subst hp0
          have s0 : s = 0 := by have := c.le; simpa using this
          have hp : pcs = [] := List.length_eq_zero_iff.mp (by omega)
          subst hp
          exact ⟨[], us, rfl, c.same, hpc, hus, hrs, cut_nil e⟩
        | cons y0 yr =>
          refine iteT ?_
          have hpos : 0 < pts.length := by rw [← hys.1, hy]; exact Nat.succ_pos _
          have hlt := cl hpos
          obtain ⟨f0, f1, s0, s1, hS⟩ := c.fit
          obtain ⟨tops, bots, vf, vs, hF, _⟩ := id hS
          obtain ⟨⟨dxp, hob⟩, _⟩ := id hF
          have nl : (slc pts s pts.length).length = pts.length - s := slc_len (Nat.le_refl _)
          refine ⟨_, rfl, .inl ⟨rfl, _, SqL.of hpc⟩, _, rfl, _, rfl, p, dxp, _, rfl, hob, rfl, p, lp, lt, lb, e, slc pts s pts.length, f0, f1, s0, s1, rfl, hS, (fun q => by rw [q] at nl; simp at nl; omega), fun H5 tl pp qq dd r2 n2 g2 hln => ?_⟩
          refine ⟨(by show 2 ≤ sizeLine; decide), fun tp n3 => ?_⟩
          have r3 : Same H5 _ := Same.new (o := .tup [.int (s : Nat), .ref tl]) n3
          have hM5 := hM2.kp (Kp.of (S := []) r2)
          have vpc : PcV (hid (upd H5 tp (.tup [.int (s : Nat), .ref tl])) M) (.ref tp) ⟨s, pp, qq, dd⟩ := ⟨.ref tl, ⟨tp, rfl, hid_mk upd_same (hM5.not n3)⟩, ⟨tl, rfl, hid_mk (r3 _ _ g2) (hM2.not n2)⟩⟩
          have hpc6 := r3 _ _ (r2 _ _ hpc)
          have hrs6 := r3 _ _ (r2 _ _ hrs)
          have sm6 := c.same.trans (r2.trans r3)
          generalize upd H5 tp (.tup [.int (s : Nat), .ref tl]) = H6 at r3 vpc hpc6 hrs6 sm6 ⊢
          refine ⟨lpc, us, .ref tp, rfl, rfl, hpc6, small1000 (by rw [hus.1]; omega), ?_⟩
          have hus6 := (hus.mono fun _ _ q => q.mono (hid_kt (KT.of (r2.trans r3)))).snoc vpc
          have kt7 : KT H6 _ := (KT.refl H6).upd (o := .lst (us ++ [.ref tp])) (nt_lst hpc6)
          exact ⟨pcs ++ [⟨s, pp, qq, dd⟩], _, rfl, Same.upd sm6 c.f1, upd_same, hus6.mono fun _ _ q => q.mono (hid_kt (M := M) kt7), by rw [upd_ne c.n0.symm]; exact hrs6, closed_done (a := ⟨s, pp, qq, dd⟩) c.cl hlt (near_of hln)⟩
      · clear hpc hus
        rintro σ H3 ⟨pcs', us', rfl, sm, hpc, hus, hrs3, hcut⟩
        -- return Cutting(pieces, reasons)
        refine ⟨_, rfl, _, rfl, fun x dx nx ndx nex => ?_⟩
        have sx : Same H3 _ := (Same.new (o := .own x) ndx).trans (Same.new (o := .ins D dx []) (by rw [upd_ne nex.symm]; exact nx))
        refine ⟨x, dx, lpc, lr, us', rs, rfl, upd_same, sx _ _ hpc, sx _ _ hrs3, fun H4 l1 l2 kp m1 g1 g2 => ⟨rfl, ?_⟩⟩
        have s4 : Same H3 H4 := made_same nx ndx kp
        obtain ⟨_, _, m1⟩ := made_free m1
        have hM3 := hM.kp (Kp.of (S := []) sm)
        exact k H4 x pcs' (sm.trans s4) (sm.free nx) ⟨dx, l1, l2, us', hid_mk g1 (hM3.not nx), hid_mk g2 (hM3.not m1), hus.mono fun _ _ q => q.mono (hid_kt (KT.of s4))⟩ hcut
end
end Fw
namespace Fw
open PySem L2
abbrev sLvI : Stmt := inClass (top 18) 0
abbrev sEnd : Stmt := inClass (top 18) 1
abbrev sFind : Stmt := inClass (top 18) 2
structure LC (K : PySem.W.Frag) (C : Addr) : Prop where
  cl : Cls K C
  nM : NoAttr K C "marks"
  nE : NoAttr K C "error"
  nP : NoAttr K C "pieces"
def LvV (C : Addr) (I : Hp) (a : Addr) (L : Lv) : Prop := ∃ (dx m q : Addr) (vs : List V), I a = some (.ins C dx [("marks", .ref m), ("error", .int L.e), ("pieces", .ref q)]) ∧ I m = some (.lst (L.marks.map V.int)) ∧ I q = some (.lst vs) ∧ All2 (PcV I) vs L.pcs
theorem LvV.mono {C : Addr} {I I' : Hp} {a : Addr} {L : Lv} (s : Same I I') (h : LvV C I a L) : LvV C I' a L := by
  obtain ⟨dx, m, q, vs, h1, h2, h3, h4⟩ := h
  exact ⟨dx, m, q, vs, s _ _ h1, s _ _ h2, s _ _ h3, h4.mono fun _ _ z => z.mono (KT.of s)⟩
/-- [.. for a, b in enumerate(a list)] -/
theorem lc_enum {K : PySem.W.Frag} {a : Addr} {xs : List V} {g : TG} {tt : TT} {te : TE} {vs : List Nat} {σ : St} {H1 : Hp} {D : Addr} {Qd : Hp → Prop} (Pv : Nat → Hp → Prop) (h0 : Pv 0 (upd H1 D (.lst []))) (hl : ∀ i H, i ≤ xs.length → Pv i H → SqL K H a xs)
    (hs : ∀ (i : Nat) (x : V) (T : Addr) H, xs[i]? = some x → H T = none → Pv i H → g (.ref T) (wipe σ vs) (upd H T (.tup [.int (i : Nat), x])) fun σ2 H2 => wipe σ2 vs = wipe σ vs ∧ tt σ2 H2 fun b H3 =>
      if b = true then te σ2 H3 fun y H4 => ∃ acc, H4 D = some (.lst acc) ∧ acc.length < sizeLine ∧ Pv (i + 1) (upd H4 D (.lst (acc ++ [y]))) else Pv (i + 1) H3) (hd : ∀ H, Pv xs.length H → Qd H) :
    ∃ W : Nat → Nat → Hp → Prop, (∃ m, W 0 m (upd H1 D (.lst []))) ∧ ∀ i m H, W i m H →
      ((Ite K a).stop i H ∧ Qd H) ∨ ((Ite K a).go i H ∧ ∃ Nx : Hp → Prop, (∀ H', Nx H' → ∃ m', m' < m ∧ W (i + 1) m' H') ∧ ∀ x H', (Ite K a).yld i H x H' → g x (wipe σ vs) H' fun σ2 H2 => wipe σ2 vs = wipe σ vs ∧ tt σ2 H2 fun b H3 =>
        if b = true then te σ2 H3 fun y H4 => ∃ acc, H4 D = some (.lst acc) ∧ acc.length < sizeLine ∧ Nx (upd H4 D (.lst (acc ++ [y]))) else Nx H3) := by
  refine ⟨fun i m H' => i + m = xs.length ∧ Pv i H', ⟨xs.length, by omega, h0⟩, fun i m H' hw => ?_⟩
  obtain ⟨em, p⟩ := hw
  have q := hl i H' (by omega) p
  by_cases hi : i < xs.length
  · refine .inr ⟨⟨xs, xs[i], q, List.getElem?_eq_getElem hi⟩, Pv (i + 1), fun H2 p2 => ⟨m - 1, by omega, by omega, p2⟩, fun x H2 y => ?_⟩
    obtain ⟨T, x', rfl, nT, rfl, hx⟩ := y
    exact hs i x' T H' (hx xs q) nT p
  · have e : i = xs.length := by omega
    subst e
    exact .inl ⟨⟨xs, q, Nat.le_refl _⟩, hd H' p⟩
theorem mpts_ok {marks : List Int} {e : Int} (h : MarksOk marks) (e0 : 0 ≤ e) (e1 : e ≤ 1000000) : PtsOk e (mpts marks) := by
  refine ⟨e0, e1, List.pairwise_iff_getElem.mpr fun i j hi hj hij => ?_, fun z hz => ?_, by rw [mpts_len]; exact h.len⟩
  · obtain ⟨a1, a2⟩ := mpts_of (List.getElem?_eq_getElem hi)
    obtain ⟨b1, b2⟩ := mpts_of (List.getElem?_eq_getElem hj)
    exact ⟨asc_get h.asc a1 b1 hij, by rw [a2, b2]; omega⟩
  · obtain ⟨i, hi⟩ := List.getElem?_of_mem hz
    obtain ⟨a1, a2⟩ := mpts_of hi
    have h1 := (List.getElem?_eq_some_iff.mp a1).1
    have h2 := h.len
    exact ⟨h.bd _ (List.mem_of_getElem? a1), by omega, by omega⟩
section
variable {P : Program} {w : World} {K : PySem.W.Frag} {mg : Str → Option Value} {base : Heap}
/-! ### a new level -/
def spLvI (C : Addr) : Sp := fun vs H Q _ => ∃ (M : List Addr) (p dx m : Addr) (e : Int) (marks : List Int), vs = [.ref p, .ref m, .int e] ∧ H p = some (.ins C dx []) ∧ Live M H ∧ p ∉ M ∧ hid H M m = some (.lst (marks.map V.int)) ∧
  MarksOk marks ∧ 0 ≤ e ∧ e ≤ 1000000 ∧ ∀ (H' : Hp) (L : Lv), Kp [p] H H' → L.e = e → L.marks = marks → LvOk L → LvV C (hid H' M) p L → Q .non H'
abbrev nLvI : List Str := ["self", "marks", "error", "position", "key"]
theorem scLvI : FnScope nLvI ["self", "marks", "error"] (defScope sLvI) := ⟨rfl, rfl, rfl, by decide +kernel, rfl, by decide +kernel, by decide +kernel⟩
theorem ok_lvi {f C D : Addr} {fd : FuncData} (F : Fun K "__init__" "Level.__init__" sLvI f fd) (T : LC K C) (TD : CC K D) (G : FnG P w K mg base 4 "cut" ["points", "error"] (spCut D)) (mE : mg "enumerate" = none) :
    FnOk P w K mg base CX0 5 f fd ["self", "marks", "error"] (spLvI C) := by
  refine F.ok scLvI (fun vs H Q E h => ?_) (fun cdv A outer s H vs Q E hr h => ?_)
  · obtain ⟨M, p, dx, m, e, marks, rfl, _⟩ := h
    rfl
  · obtain ⟨M, p, dx, m, e, marks, rfl, hp, hM, hpM, hm, hmk, e0, e1, k⟩ := h
    refine ⟨_, pss_cons (ps_fld (pv 0) (pv 1) rfl) (pss_cons (ps_fld (pv 0) (pv 2) rfl)
      (pss_one (ps_fld (pv 0) (pe_fld (pe_callG G hr (by rfl) (pa_cons
        (pe_lc (own := [("position", 3), ("key", 4)]) (g := gTup K 2 (gCons (gName 3) (gCons (gName 4) gNil))) (tt := tYes) rfl scLvI.nd (pi_enum (by rfl) mE (pa_cons (pv 1) pa_nil)) (blkOk_by (N := nLvI) (sc := defScope sLvI) (own := [("position", 3), ("key", 4)]) (by decide +kernel))
          (fun _ _ _ _ _ => pg_tup (by rfl) (pgs_cons (pg_name (i := 3) scLvI.nd rfl (.inl rfl)) (pgs_cons (pg_name (i := 4) scLvI.nd rfl (.inl rfl)) pgs_nil))) (fun _ _ _ _ _ => pts_nil)
          (fun _ _ _ _ _ => pe_tup (pa_cons (pv 4) (pa_cons (pv 3) pa_nil)))) (pa_cons (pv 2) pa_nil))) rfl) rfl))), ?_⟩
    obtain ⟨hm1, hmM⟩ := hid_some hm
    have nmp : m ≠ p := ne_of hm1 hp (by intro q; cases q)
    refine ⟨_, rfl, _, rfl, p, C, dx, _, rfl, hp, T.cl, T.nM, (by show 0 < 1000; decide), ?_⟩
    refine ⟨_, rfl, _, rfl, p, C, dx, _, rfl, upd_same, T.cl, T.nE, (by show 1 < 1000; decide), ?_⟩
    rw [upd_upd]
    have e2 : putF "error" (V.int e) (putF "marks" (V.ref m) []) = ([("marks", V.ref m), ("error", V.int e)] : List (Str × V)) := rfl
    rw [e2]
    have kp1 : Kp [p] H (upd H p (.ins C dx [("marks", V.ref m), ("error", V.int e)])) := (Kp.refl _ _).upd (.inl (List.mem_singleton.mpr rfl))
    have hp1 : upd H p (.ins C dx [("marks", V.ref m), ("error", V.int e)]) p = some (.ins C dx [("marks", V.ref m), ("error", V.int e)]) := upd_same
    generalize upd H p (.ins C dx [("marks", V.ref m), ("error", V.int e)]) = H1 at kp1 hp1 ⊢
    have hm2 := kp1.at hm1 (by simp; exact nmp)
    -- [(key, position) for position, key in enumerate(marks)]
    refine ⟨_, rfl, m, marks.map V.int, rfl, SqL.of hm2, fun D1 hD => lc_enum (K := K) (a := m) (xs := marks.map V.int) (fun i H' => Same H1 H' ∧ ∃ us, H' D1 = some (.lst us) ∧ All2 (PtV H') us ((mpts marks).take i)) ⟨Same.new hD, [], upd_same, .nil⟩
      (fun i H' _ ⟨s1, _⟩ => SqL.of (s1 _ _ hm2)) ?_ ?_⟩
    · rintro i v Tt H2 hi nT ⟨s1, us, hus, hal⟩
      rw [List.getElem?_map] at hi
      obtain ⟨kk, hk, rfl⟩ : ∃ kk, marks[i]? = some kk ∧ v = .int kk := by
        cases z : marks[i]? with
        | none => rw [z] at hi; cases hi
        | some kk => rw [z] at hi; exact ⟨kk, rfl, (Option.some.inj hi).symm⟩
      have hil := (List.getElem?_eq_some_iff.mp hk).1
      have hml := hmk.len
      have r1 : Same H2 _ := Same.new (o := .tup [.int (i : Nat), .int kk]) nT
      have hT : upd H2 Tt (.tup [.int (i : Nat), .int kk]) Tt = some (.tup [.int (i : Nat), .int kk]) := upd_same
      generalize upd H2 Tt (.tup [.int (i : Nat), .int kk]) = H3 at r1 hT ⊢
      refine ⟨Tt, _, rfl, SqT.of hT, rfl, _, _, rfl, _, _, rfl, rfl, rfl, ?_⟩
      refine ⟨_, rfl, _, rfl, (by show 2 ≤ sizeLine; decide), fun t nt => ?_⟩
      have r2 : Same H3 _ := Same.new (o := .tup [.int kk, .int (i : Nat)]) nt
      have hus3 := r2 _ _ (r1 _ _ hus)
      refine ⟨us, hus3, small1000 (by rw [hal.1, List.length_take, mpts_len]; omega), ?_⟩
      have kt : KT H3 _ := (KT.of r2).trans ((KT.refl _).upd (o := .lst (us ++ [.ref t])) (nt_lst hus3))
      refine ⟨Same.upd (s1.trans (r1.trans r2)) hD, _, upd_same, ?_⟩
      rw [take_snoc (mpts_get hk)]
      refine All2.snoc ((hal.mono fun _ _ q => q.mono (KT.of r1)).mono fun _ _ q => q.mono kt) ⟨t, rfl, ?_⟩
      rw [upd_ne (ne_of_none (r1 _ _ hus) nt).symm, upd_same]
    · rintro H2 ⟨s1, us, hus, hal⟩
      have em : (marks.map V.int).length = (mpts marks).length := by rw [List.length_map, mpts_len]
      rw [em, List.take_length] at hal
      have hpM2 : ∀ b ∈ p :: M, H b ≠ none := fun b hb => by
        rcases List.mem_cons.mp hb with rfl | hb
        · rw [hp]; exact fun q => by cases q
        · exact hM b hb
      have hM2 : Live (p :: M) H2 := Live.kp (S := [p]) (fun b hb => hpM2 b hb) (kp1.trans (Kp.of s1))
      -- cut(.., error).pieces
      refine ⟨_, rfl, p :: M, D1, us, e, mpts marks, rfl, hM2, hus, hal, mpts_ok hmk e0 e1, fun H3 r pcs s2 nr hcv hck => ?_⟩
      obtain ⟨dr, lp, lr, vs, h1, h2, h3⟩ := hcv
      refine ⟨r, D, dr, _, _, rfl, (hid_some h1).1, TD.cl, TD.nP, rfl, ?_⟩
      have hp3 := (s1.trans s2) _ _ hp1
      refine ⟨_, rfl, p, C, dx, _, rfl, hp3, T.cl, T.nP, (by show 2 < 1000; decide), ?_⟩
      have kp3 : Kp [p] H _ := ((kp1.trans (Kp.of s1)).trans (Kp.of s2)).upd (p := p) (o := .ins C dx [("marks", V.ref m), ("error", V.int e), ("pieces", V.ref lp)]) (.inl (List.mem_singleton.mpr rfl))
      have kq : Kp [p] H3 _ := (Kp.refl [p] H3).upd (p := p) (o := .ins C dx [("marks", V.ref m), ("error", V.int e), ("pieces", V.ref lp)]) (.inl (List.mem_singleton.mpr rfl))
      have hs3 : Same (hid H3 (p :: M)) (hid (upd H3 p (.ins C dx [("marks", V.ref m), ("error", V.int e), ("pieces", V.ref lp)])) M) := fun b o z => hid_sub (M := M) (M' := p :: M) (fun c hc => List.mem_cons_of_mem _ hc) _ _ (hid_kp kq (by simp) b o z)
      refine k _ ⟨e, marks, pcs⟩ kp3 rfl rfl ⟨e0, e1, hmk, hck⟩ ⟨dx, m, lp, vs, hid_mk upd_same hpM, hid_mk ?_ hmM, hs3 _ _ h2, h3.mono fun _ _ q => q.mono (KT.of hs3)⟩
      rw [upd_ne nmp]
      exact (s1.trans s2) _ _ hm2
/-! ### end_of -/
def spEnd (C : Addr) : Sp := fun vs H Q _ => ∃ (I : Hp) (p : Addr) (L : Lv) (j : Nat), vs = [.ref p, .int (j : Nat)] ∧ Same I H ∧ LvV C I p L ∧ LvOk L ∧ j < L.pcs.length ∧ Q (.int (nx L.pcs L.marks.length j : Nat)) H
theorem scEnd : FnScope ["self", "number"] ["self", "number"] (defScope sEnd) := ⟨rfl, rfl, rfl, by decide +kernel, rfl, by decide +kernel, by decide +kernel⟩
theorem ok_end {f C : Addr} {fd : FuncData} (F : Fun K "end_of" "Level.end_of" sEnd f fd) (T : LC K C) (mL : mg "len" = none) : FnOk P w K mg base CX0 1 f fd ["self", "number"] (spEnd C) := by
  refine F.ok scEnd (fun vs H Q E h => ?_) (fun cdv A outer s H vs Q E hr h => ?_)
  · obtain ⟨I, p, L, j, rfl, _⟩ := h
    rfl
  · obtain ⟨I, p, L, j, rfl, sI, hV, hL, hj, k⟩ := h
    obtain ⟨dx, m, q, vs, h1, h2, h3, h4⟩ := hV
    have g1 := sI _ _ h1
    have g2 := sI _ _ h2
    have g3 := sI _ _ h3
    refine ⟨_, pss_cons (ps_if (pt_cmpR op_lt (pe_op op_add (pv 1) pe_int) (pe_callB call_len_seq (by rfl) mL PySem.boot_len (pa_cons (pe_fld (pv 0) rfl) pa_nil)) (nomark _))
        (pss_one (ps_ret (pe_ix ix_tup (pe_ix ix_list (pe_fld (pv 0) rfl) (pe_op op_add (pv 1) pe_int) (fun _ _ => rfl)) pe_int (fun _ _ => rfl)))) pss_nil)
      (pss_one (ps_ret (pe_callB call_len_seq (by rfl) mL PySem.boot_len (pa_cons (pe_fld (pv 0) rfl) pa_nil)))), ?_⟩
    refine ⟨_, rfl, _, _, rfl, rfl, _, rfl, p, C, dx, _, _, rfl, g1, T.cl, T.nP, rfl, q, _, rfl, .inl (SqL.of g3), _, _, rfl, rfl, _, rfl, ite2 (fun z => ?_) (fun z => ?_)⟩
    · have z1 : (j : Int) + 1 < (vs.length : Int) := of_decide_eq_true z
      rw [h4.1] at z1
      have e1 : L.pcs[j + 1]? = some L.pcs[j + 1] := List.getElem?_eq_getElem (by omega)
      obtain ⟨v, hv, vl, ⟨a, rfl, ha⟩, _⟩ := h4.right e1
      refine ⟨_, rfl, p, C, dx, _, _, rfl, g1, T.cl, T.nP, rfl, _, rfl, _, _, rfl, rfl, q, _, _, _, rfl, rfl, SqL.of g3, at_of (j := j + 1) (by omega) hv, a, _, _, _, rfl, rfl, SqT.of (sI _ _ ha), atI_nat (j := 0) rfl, ?_⟩
      rw [nx_some e1] at k
      exact k
    · have z1 : ¬ (j : Int) + 1 < (vs.length : Int) := mt decide_eq_true z
      rw [h4.1] at z1
      refine ⟨_, rfl, p, C, dx, _, _, rfl, g1, T.cl, T.nM, rfl, m, _, rfl, .inl (SqL.of g2), ?_⟩
      rw [nx_none (List.getElem?_eq_none (by omega))] at k
      rw [List.length_map]
      exact k
/-! ### find -/
def spFind (C : Addr) : Sp := fun vs H Q _ => ∃ (I : Hp) (p : Addr) (L : Lv) (j : Nat) (x d : Int) (lk : Addr) (us : List V), vs = [.ref p, .int (j : Nat), .int x, .int d, .ref lk] ∧ Same I H ∧ LvV C I p L ∧ LvOk L ∧ PieceAt L x j ∧
  I lk = none ∧ H lk = some (.lst us) ∧ us.length ≤ 10000000 ∧
  ∀ (H' : Hp) (t : Nat) (us' : List V), Kp [lk] H H' → H' lk = some (.lst us') → us'.length ≤ us.length + 1000 → IsLast L.marks x t → Q (.int (t : Nat)) H'
abbrev nFind : List Str := ["self", "number", "x", "depth", "looks", "start", "line", "last", "low", "high", "middle"]
theorem scFind : FnScope nFind ["self", "number", "x", "depth", "looks"] (defScope sFind) := ⟨rfl, rfl, rfl, by decide +kernel, rfl, by decide +kernel, by decide +kernel⟩
theorem ok_find {f C : Addr} {fd : FuncData} (F : Fun K "find" "Level.find" sFind f fd) (T : LC K C) (Ge : MeG P w K mg base 1 C "end_of" ["self", "number"] (spEnd C)) (Gf : FnG P w K mg base 1 "floor_at" ["line", "place"] spFloor)
    (Gc : FnG P w K mg base 1 "ceiling_at" ["line", "place"] spCeil) (mI : mg "min" = none) (mX : mg "max" = none) : FnOk P w K mg base CX0 2 f fd ["self", "number", "x", "depth", "looks"] (spFind C) := by
  obtain ⟨fe, fde, me, Fe, be⟩ := Ge
  refine F.ok scFind (fun vs H Q E h => ?_) (fun cdv A outer s H vs Q E hr h => ?_)
  · obtain ⟨I, p, L, j, x, d, lk, us, rfl, _⟩ := h
    rfl
  · obtain ⟨I, p, L, j, x, d, lk, us, rfl, sI, hV, hL, hP, hlI, hlk, hul, k⟩ := h
    obtain ⟨a, t, haj, hf⟩ := find_at hL hP
    obtain ⟨dx, m, q, vs, h1, h2, h3, h4⟩ := id hV
    have g1 := sI _ _ h1
    have g2 := sI _ _ h2
    have g3 := sI _ _ h3
    have hj := (List.getElem?_eq_some_iff.mp haj).1
    obtain ⟨v, hv, vl, ⟨ap, rfl, hap⟩, ⟨al, rfl, hal⟩⟩ := h4.right haj
    have near := hL.cut.near j a haj
    have hi1 := find_high hL haj hf
    have lo1 := find_low hL haj hf
    have ts := hf.s0
    have te := hf.t1
    have tl := hf.le
    have ml := hL.mo.len
    refine ⟨_, pss_cons (ps_asg (pe_ix ix_list (pe_fld (pv 0) rfl) (pv 1) (fun _ _ => rfl)) (pg_tup (by rfl) (pgs_cons (pg_name (i := 5) scFind.nd rfl (.inl rfl)) (pgs_cons (pg_name (i := 6) scFind.nd rfl (.inl rfl)) pgs_nil))))
      (pss_cons (ps_set (i := 7) scFind.nd rfl (.inl rfl) (pe_op op_sub (pe_meth (pv 0) T.cl me Fe hr be .nil pass0 (pa_cons (pv 1) pa_nil)) pe_int))
      (pss_cons (ps_set (i := 8) scFind.nd rfl (.inl rfl) (pe_callB (call_min2 rfl) (by rfl) mI (by decide +kernel) (pa_cons (pv 7) (pa_cons (pe_callB (call_max2 rfl) (by rfl) mX (by decide +kernel) (pa_cons (pv 5)
        (pa_cons (pe_op op_sub (pe_op op_sub (pe_callG Gc hr (by rfl) (pa_cons (pv 6) (pa_cons (pv 2) pa_nil))) pe_int) (pe_fld (pv 0) rfl)) pa_nil))) pa_nil))))
      (pss_cons (ps_set (i := 9) scFind.nd rfl (.inl rfl) (pe_callB (call_min2 rfl) (by rfl) mI (by decide +kernel) (pa_cons (pv 7) (pa_cons (pe_op op_add (pe_callG Gf hr (by rfl) (pa_cons (pv 6) (pa_cons (pv 2) pa_nil))) (pe_fld (pv 0) rfl)) pa_nil))))
      (pss_cons (ps_while PassesOwn.never (pt_cmpR op_lt (pv 8) (pv 9) (nomark _))
        (pss_cons (ps_set (i := 10) scFind.nd rfl (.inl rfl) (pe_op op_fdiv (pe_op op_add (pe_op op_add (pv 8) (pv 9)) pe_int) pe_int))
        (pss_cons (ps_expr (pe_bm PySem.F.plainAttrs_list PySem.F.slot_list_append PySem.F.type_list_append mt_append (pv 4) (pa_cons (pe_tup (pa_cons (pv 3) (pa_cons (pv 10) pa_nil))) pa_nil)))
        (pss_one (ps_if (pt_cmpR op_le (pe_ix ix_list (pe_fld (pv 0) rfl) (pv 10) (fun _ _ => rfl)) (pv 2) (nomark _)) (pss_one (ps_set (i := 8) scFind.nd rfl (.inl rfl) (pv 10)))
          (pss_one (ps_set (i := 9) scFind.nd rfl (.inl rfl) (pe_op op_sub (pv 10) pe_int))))))))
      (pss_one (ps_ret (pv 8))))))), ?_⟩
    -- start, line = self.pieces[number]
    refine ⟨_, rfl, p, C, dx, _, _, rfl, g1, T.cl, T.nP, rfl, _, rfl, q, _, _, _, rfl, rfl, SqL.of g3, atI_nat hv, ap, _, rfl, SqT.of (sI _ _ hap), rfl, _, _, rfl, _, _, rfl, rfl, ?_⟩
    -- last
    refine ⟨_, rfl, p, dx, _, rfl, g1, rfl, _, rfl, I, p, L, j, rfl, sI, hV, hL, hj, _, _, rfl, rfl, ?_⟩
    have hp64 : B64 a.p := ⟨by have := near.p0; omega, by have := near.p1; omega⟩
    -- low
    refine ⟨_, rfl, _, rfl, _, rfl, _, rfl, al, _, _, _, x, rfl, sI _ _ hal, hp64, near.d0, near.d1, _, _, rfl, rfl, _, rfl, p, C, dx, _, _, rfl, g1, T.cl, T.nE, rfl, _, _, rfl, rfl, _, _, rfl, _, _, rfl, ?_⟩
    -- high
    refine ⟨_, rfl, _, rfl, _, rfl, al, _, _, _, x, rfl, sI _ _ hal, hp64, near.d0, near.d1, _, rfl, p, C, dx, _, _, rfl, g1, T.cl, T.nE, rfl, _, _, rfl, rfl, _, _, rfl, ?_⟩
    -- the search
    have lo2 : (a.s : Int) ≤ (if (if -(-(a.p * x + a.q) / a.d) - 1 - L.e > (a.s : Int) then -(-(a.p * x + a.q) / a.d) - 1 - L.e else (a.s : Int)) < ((nx L.pcs L.marks.length j : Nat) : Int) - 1 then (if -(-(a.p * x + a.q) / a.d) - 1 - L.e > (a.s : Int) then -(-(a.p * x + a.q) / a.d) - 1 - L.e else (a.s : Int)) else ((nx L.pcs L.marks.length j : Nat) : Int) - 1) ∧
        (if (if -(-(a.p * x + a.q) / a.d) - 1 - L.e > (a.s : Int) then -(-(a.p * x + a.q) / a.d) - 1 - L.e else (a.s : Int)) < ((nx L.pcs L.marks.length j : Nat) : Int) - 1 then (if -(-(a.p * x + a.q) / a.d) - 1 - L.e > (a.s : Int) then -(-(a.p * x + a.q) / a.d) - 1 - L.e else (a.s : Int)) else ((nx L.pcs L.marks.length j : Nat) : Int) - 1) ≤ (t : Int) := by
      generalize -(-(a.p * x + a.q) / a.d) - 1 - L.e = c at lo1
      by_cases z : t + 1 < nx L.pcs L.marks.length j
      · have := lo1 z
        constructor <;> (split <;> (try split) <;> omega)
      · constructor <;> (split <;> (try split) <;> omega)
    have hi2 : (t : Int) ≤ (if (a.p * x + a.q) / a.d + L.e < ((nx L.pcs L.marks.length j : Nat) : Int) - 1 then (a.p * x + a.q) / a.d + L.e else ((nx L.pcs L.marks.length j : Nat) : Int) - 1) ∧
        (if (a.p * x + a.q) / a.d + L.e < ((nx L.pcs L.marks.length j : Nat) : Int) - 1 then (a.p * x + a.q) / a.d + L.e else ((nx L.pcs L.marks.length j : Nat) : Int) - 1) < (nx L.pcs L.marks.length j : Nat) := by
      generalize (a.p * x + a.q) / a.d + L.e = c at hi1
      constructor <;> (split <;> omega)
    refine ⟨fun n σ H' => ∃ (lo hi : Int) (v10 : Option V) (us' : List V), σ = [some (.ref p), some (.int (j : Nat)), some (.int x), some (.int d), some (.ref lk), some (.int (a.s : Nat)), some (.ref al), some (.int (((nx L.pcs L.marks.length j : Nat) : Int) - 1)), some (.int lo), some (.int hi), v10] ∧
        (a.s : Int) ≤ lo ∧ lo ≤ (t : Int) ∧ (t : Int) ≤ hi ∧ hi < (nx L.pcs L.marks.length j : Nat) ∧ Kp [lk] H H' ∧ Same I H' ∧ H' lk = some (.lst us') ∧ n = (hi - lo).toNat ∧ us'.length + n ≤ us.length + 1000,
      ⟨_, _, _, none, us, rfl, lo2.1, lo2.2, hi2.1, hi2.2, Kp.refl _ _, sI, hlk, rfl, by omega⟩, ?_⟩
    clear lo2 hi2 lo1 hi1
    rintro n σ H' ⟨lo, hi, v10, us', rfl, b1, b2, b3, b4, kp, sI', hlk', rfl, hlen⟩
    refine ⟨_, rfl, _, rfl, _, _, rfl, rfl, _, rfl, ite2 (fun z => ?_) (fun z => ?_)⟩
    · have z1 : lo < hi := of_decide_eq_true z
      refine ⟨fun σ2 H2 => ∃ n', n' < (hi - lo).toNat ∧ ∃ (lo hi : Int) (v10 : Option V) (us' : List V), σ2 = [some (.ref p), some (.int (j : Nat)), some (.int x), some (.int d), some (.ref lk), some (.int (a.s : Nat)), some (.ref al), some (.int (((nx L.pcs L.marks.length j : Nat) : Int) - 1)), some (.int lo), some (.int hi), v10] ∧
        (a.s : Int) ≤ lo ∧ lo ≤ (t : Int) ∧ (t : Int) ≤ hi ∧ hi < (nx L.pcs L.marks.length j : Nat) ∧ Kp [lk] H H2 ∧ Same I H2 ∧ H2 lk = some (.lst us') ∧ n' = (hi - lo).toNat ∧ us'.length + n' ≤ us.length + 1000, fun σ2 H2 w => w, ?_⟩
      refine ⟨_, rfl, _, rfl, _, _, rfl, rfl, _, _, rfl, rfl, _, _, rfl, rfl, ⟨by decide, by decide⟩, ?_⟩
      refine ⟨_, rfl, .inl ⟨rfl, _, SqL.of hlk'⟩, _, rfl, _, rfl, (by show 2 ≤ sizeLine; decide), fun tt nt => ?_⟩
      have r1 : Same H' _ := Same.new (o := .tup [.int d, .int ((lo + hi + 1) / 2)]) nt
      refine ⟨lk, us', _, rfl, rfl, r1 _ _ hlk', Nat.lt_of_le_of_lt (show us'.length ≤ 10001000 by omega) (by decide), ?_⟩
      have kp2 : Kp [lk] H _ := (kp.trans (Kp.of r1)).upd (p := lk) (o := .lst (us' ++ [.ref tt])) (.inl (List.mem_singleton.mpr rfl))
      have sI2 : Same I _ := Same.upd (o := .lst (us' ++ [.ref tt])) (sI'.trans r1) hlI
      have hlk2 : upd (upd H' tt (.tup [.int d, .int ((lo + hi + 1) / 2)])) lk (.lst (us' ++ [.ref tt])) lk = some (.lst (us' ++ [.ref tt])) := upd_same
      generalize upd (upd H' tt (.tup [.int d, .int ((lo + hi + 1) / 2)])) lk (.lst (us' ++ [.ref tt])) = H2 at kp2 sI2 hlk2 ⊢
      have hmid : ((lo + hi + 1) / 2).toNat < L.marks.length := by omega
      obtain ⟨kk, hmk'⟩ : ∃ kk, L.marks[((lo + hi + 1) / 2).toNat]? = some kk := ⟨_, List.getElem?_eq_getElem hmid⟩
      have hmk : (L.marks.map V.int)[((lo + hi + 1) / 2).toNat]? = some (.int kk) := by
        rw [List.getElem?_map, hmk']
        rfl
      refine ⟨_, rfl, p, C, dx, _, _, rfl, sI2 _ _ h1, T.cl, T.nM, rfl, _, rfl, m, _, _, _, rfl, rfl, SqL.of (sI2 _ _ h2), at_of (j := ((lo + hi + 1) / 2).toNat) (by omega) hmk, _, rfl, _, _, rfl, rfl, _, rfl, ite2 (fun y => ?_) (fun y => ?_)⟩
      · have y1 := of_decide_eq_true y
        have : (lo + hi + 1) / 2 ≤ (t : Int) := by
          by_cases c : (lo + hi + 1) / 2 ≤ (t : Int)
          · exact c
          · have := hf.above _ _ (by omega) hmk'
            omega
        refine ⟨_, rfl, (hi - (lo + hi + 1) / 2).toNat, by omega, _, hi, _, _, rfl, by omega, this, b3, b4, kp2, sI2, hlk2, rfl, ?_⟩
        rw [List.length_append, List.length_singleton]
        omega
      · have y1 := mt decide_eq_true y
        have : (t : Int) < (lo + hi + 1) / 2 := by
          by_cases c : (t : Int) < (lo + hi + 1) / 2
          · exact c
          · obtain ⟨kt, hkt, hkx⟩ := hf.at_
            by_cases c2 : ((lo + hi + 1) / 2).toNat = t
            · rw [c2, hkt] at hmk'
              have := Option.some.inj hmk'
              omega
            · have := asc_get hL.mo.asc hmk' hkt (by omega)
              omega
        refine ⟨_, rfl, _, _, rfl, rfl, ((lo + hi + 1) / 2 - 1 - lo).toNat, by omega, lo, _, _, _, rfl, b1, b2, by omega, by omega, kp2, sI2, hlk2, rfl, ?_⟩
        rw [List.length_append, List.length_singleton]
        omega
    · have z1 := mt decide_eq_true z
      have : lo = (t : Int) := by omega
      refine ⟨_, rfl, ?_⟩
      rw [this]
      exact k H' t us' kp hlk' (by omega) hf.isLast
end
end Fw
namespace Fw
open PySem L2
abbrev sIxI : Stmt := inClass (top 19) 0
abbrev sLook : Stmt := inClass (top 19) 3
abbrev sRank : Stmt := inClass (top 19) 4
structure IC (K : PySem.W.Frag) (C : Addr) : Prop where
  cl : Cls K C
  nS : NoAttr K C "stored"
  nL : NoAttr K C "_levels"
def IdxV (C D : Addr) (I : Hp) (a : Addr) (keys : List Int) (Ls : List Lv) : Prop := ∃ (dx st lv : Addr) (vs : List V), I a = some (.ins C dx [("stored", .ref st), ("_levels", .ref lv)]) ∧ I st = some (.lst (keys.map V.int)) ∧ I lv = some (.lst vs) ∧
  All2 (fun v L => ∃ b, v = V.ref b ∧ LvV D I b L) vs Ls
theorem IdxV.mono {C D : Addr} {I I' : Hp} {a : Addr} {keys : List Int} {Ls : List Lv} (s : Same I I') (h : IdxV C D I a keys Ls) : IdxV C D I' a keys Ls := by
  obtain ⟨dx, st, lv, vs, h1, h2, h3, h4⟩ := h
  exact ⟨dx, st, lv, vs, s _ _ h1, s _ _ h2, s _ _ h3, h4.mono fun _ _ ⟨b, e, z⟩ => ⟨b, e, z.mono s⟩⟩
theorem All2.snoc_inv {α β : Type} {R : α → β → Prop} {xs : List α} {ys : List β} {y : β} (h : All2 R xs (ys ++ [y])) : ∃ xs' x, xs = xs' ++ [x] ∧ All2 R xs' ys ∧ R x y := by
  have hl : xs.length = ys.length + 1 := by rw [h.1]; simp
  have hne : xs ≠ [] := fun q => by rw [q] at hl; simp at hl
  have hd := h.dropLast
  rw [List.dropLast_concat] at hd
  refine ⟨xs.dropLast, xs.getLast hne, (List.dropLast_concat_getLast hne).symm, hd, ?_⟩
  refine h.2 ys.length _ _ ?_ (by simp)
  rw [← hd.1]
  have e : xs = xs.dropLast ++ [xs.getLast hne] := (List.dropLast_concat_getLast hne).symm
  rw [show xs[xs.dropLast.length]? = (xs.dropLast ++ [xs.getLast hne])[xs.dropLast.length]? by rw [← e]]
  simp
theorem firsts_take {L : Lv} {i : Nat} {a : Pc} (h : L.pcs[i]? = some a) : (firsts L).take (i + 1) = (firsts L).take i ++ [L.marks.getD a.s 0] := take_snoc (firsts_get h)
/-- the index while it is made: all but the last word -/
structure IdxP (keys : List Int) (Ls : List Lv) (L : Lv) : Prop where
  zero : ∃ L0, (Ls ++ [L])[0]? = some L0 ∧ L0.marks = keys
  ok : ∀ L' ∈ Ls ++ [L], LvOk L'
  next : ∀ (i : Nat) (L1 L2 : Lv), (Ls ++ [L])[i]? = some L1 → (Ls ++ [L])[i + 1]? = some L2 → L2.marks = firsts L1
  len : Ls.length + L.pcs.length ≤ 900
theorem IdxP.step {keys : List Int} {Ls : List Lv} {L L' : Lv} (h : IdxP keys Ls L) (h1 : 1 < L.pcs.length) (ok : LvOk L') (hm : L'.marks = firsts L) : IdxP keys (Ls ++ [L]) L' ∧ L'.pcs.length < L.pcs.length := by
  have hl := pcs_len ok
  have hf : (firsts L).length = L.pcs.length := by unfold firsts; rw [List.length_map]
  rw [hm, hf] at hl
  refine ⟨⟨?_, fun M hM => ?_, fun i L1 L2 a b => ?_, ?_⟩, by omega⟩
  · obtain ⟨L0, e, z⟩ := h.zero
    refine ⟨L0, ?_, z⟩
    rw [List.getElem?_append_left (by simp)]
    exact e
  · rcases List.mem_append.mp hM with q | q
    · exact h.ok M q
    · rw [List.mem_singleton.mp q]
      exact ok
  · rcases get_snoc b with ⟨q1, q⟩ | ⟨q1, q⟩
    · rw [List.getElem?_append_left (by omega)] at a
      exact h.next i L1 L2 a q
    · subst q
      have e : i = Ls.length := by simp at q1; exact q1
      subst e
      rw [List.getElem?_append_left (by simp)] at a
      simp at a
      rw [← a]
      exact hm
  · have := h.len
    simp
    omega
theorem IdxP.done {keys : List Int} {Ls : List Lv} {L : Lv} (h : IdxP keys Ls L) (h1 : L.pcs.length ≤ 1) : IdxOk keys (Ls ++ [L]) := by
  refine ⟨h.zero, h.ok, h.next, fun M hM => ?_, by have := h.len; simp; omega⟩
  rw [show (Ls ++ [L]).length - 1 = Ls.length by simp] at hM
  simp at hM
  rw [← hM]
  exact h1
section
variable {P : Program} {w : World} {K : PySem.W.Frag} {mg : Str → Option Value} {base : Heap}
/-! ### a new index -/
def spIxI (C D : Addr) : Sp := fun vs H Q _ => ∃ (M : List Addr) (p dx a : Addr) (e u : Int) (keys : List Int), vs = [.ref p, .ref a, .int e, .int u] ∧ H p = some (.ins C dx []) ∧ Live M H ∧ p ∉ M ∧ H a = some (.lst (keys.map V.int)) ∧
  MarksOk keys ∧ 0 ≤ e ∧ e ≤ 1000000 ∧ 0 ≤ u ∧ u ≤ 1000000 ∧ ∀ (H' : Hp) (Ls : List Lv), Kp [p] H H' → IdxOk keys Ls → IdxV C D (hid H' M) p keys Ls → Q .non H'
abbrev nIxI : List Str := ["self", "stored", "error", "upper", "below", "start", "line"]
theorem scIxI : FnScope nIxI ["self", "stored", "error", "upper"] (defScope sIxI) := ⟨rfl, rfl, rfl, by decide +kernel, rfl, by decide +kernel, by decide +kernel⟩
theorem ok_ixi {f C D : Addr} {fd : FuncData} (F : Fun K "__init__" "Index.__init__" sIxI f fd) (T : IC K C) (TD : LC K D) (G : ClG P w K mg base 5 "Level" D ["self", "marks", "error"] (spLvI D)) (mS : mg "list" = none) (mL : mg "len" = none) :
    FnOk P w K mg base CX0 7 f fd ["self", "stored", "error", "upper"] (spIxI C D) := by
  refine F.ok scIxI (fun vs H Q E h => ?_) (fun cdv A outer s H vs Q E hr h => ?_)
  · obtain ⟨M, p, dx, a, e, u, keys, rfl, _⟩ := h
    rfl
  · obtain ⟨M, p, dx, a, e, u, keys, rfl, hp, hM, hpM, ha, hmk, e0, e1, u0, u1, k⟩ := h
    refine ⟨_, pss_cons (ps_fld (pv 0) (pe_callTy call_list_of (by rfl) mS (by decide +kernel) (pa_cons (pv 1) pa_nil)) rfl)
      (pss_cons (ps_fld (pv 0) (pe_lst (pa_cons (pe_makeG G hr (by rfl) (pa_cons (pe_fld (pv 0) rfl) (pa_cons (pv 2) pa_nil))) pa_nil)) rfl)
      (pss_one (ps_while PassesOwn.never (pt_cmpR op_gt (pe_callB call_len_seq (by rfl) mL PySem.boot_len (pa_cons (pe_fld (pe_ix ix_list (pe_fld (pv 0) rfl) (pe_un un_neg pe_int) (fun _ _ => rfl)) rfl) pa_nil)) pe_int (nomark _))
        (pss_cons (ps_set (i := 4) scIxI.nd rfl (.inr rfl) (pe_ix ix_list (pe_fld (pv 0) rfl) (pe_un un_neg pe_int) (fun _ _ => rfl)))
        (pss_one (ps_expr (pe_bm PySem.F.plainAttrs_list PySem.F.slot_list_append PySem.F.type_list_append mt_append (pe_fld (pv 0) rfl) (pa_cons (pe_makeG G hr (by rfl) (pa_cons
          (pe_lc (own := [("start", 5), ("line", 6)]) (g := gTup K 2 (gCons (gName 5) (gCons (gName 6) gNil))) (tt := tYes) (te := tOp (rIxL K) (tFld K (tVar 4) "marks") (tVar 5)) rfl scIxI.nd (pi_list (pe_fld (pv 4) rfl)) (blkOk_by (N := nIxI) (sc := defScope sIxI) (own := [("start", 5), ("line", 6)]) (by decide +kernel))
            (fun _ _ _ _ _ => pg_tup (by rfl) (pgs_cons (pg_name (i := 5) scIxI.nd rfl (.inl rfl)) (pgs_cons (pg_name (i := 6) scIxI.nd rfl (.inl rfl)) pgs_nil))) (fun _ _ _ _ _ => pts_nil)
            (fun _ _ _ _ _ => pe_ix ix_list (pe_fld (pv 4) rfl) (pv 5) (fun _ _ => rfl))) (pa_cons (pv 3) pa_nil))) pa_nil)))))))), ?_⟩
    have hml := hmk.len
    -- self.stored = list(stored)
    refine ⟨_, rfl, a, _, rfl, .inl (SqL.of ha), fun st nst => ?_⟩
    have q1 : p ≠ st := ne_of_none hp nst
    refine ⟨_, rfl, p, C, dx, _, rfl, Eq.trans (upd_ne q1) hp, T.cl, T.nS, (by show 0 < 1000; decide), ?_⟩
    have kp1 : Kp [p] H (upd (upd H st (.lst (keys.map V.int))) p (.ins C dx [("stored", .ref st)])) := ((Kp.refl _ _).upd (.inr nst)).upd (.inl (List.mem_singleton.mpr rfl))
    have hp1 : upd (upd H st (.lst (keys.map V.int))) p (.ins C dx [("stored", .ref st)]) p = some (.ins C dx [("stored", .ref st)]) := upd_same
    have hst1 : upd (upd H st (.lst (keys.map V.int))) p (.ins C dx [("stored", .ref st)]) st = some (.lst (keys.map V.int)) := by rw [upd_ne q1.symm, upd_same]
    have e1' : putF "stored" (V.ref st) [] = ([("stored", .ref st)] : List (Str × V)) := rfl
    rw [e1']
    generalize upd (upd H st (.lst (keys.map V.int))) p (.ins C dx [("stored", .ref st)]) = H1 at kp1 hp1 hst1 ⊢
    have hM1 : Live M H1 := hM.kp kp1
    have hstM : st ∉ M := hM.not nst
    have hLp : Live (p :: M) H1 := fun b hb => by
      rcases List.mem_cons.mp hb with rfl | hb
      · rw [hp1]; exact fun q => by cases q
      · exact hM1 b hb
    -- Level(self.stored, error)
    refine ⟨_, rfl, p, C, dx, _, _, rfl, hp1, T.cl, T.nS, rfl, _, rfl, fun x dx1 nx ndx nex => ?_⟩
    have sx : Same H1 _ := (Same.new (o := .own x) ndx).trans (Same.new (o := .ins D dx1 []) (by rw [upd_ne nex.symm]; exact nx))
    refine ⟨p :: M, x, dx1, st, e, keys, rfl, upd_same, hLp.kp (Kp.of (S := []) sx), hLp.not nx, hid_mk (sx _ _ hst1) (by simp; exact ⟨q1.symm, hstM⟩), hmk, e0, e1, fun H2 L kp2 eLe eLm okL hLV => ⟨rfl, ?_⟩⟩
    have s2 : Same H1 H2 := made_same nx ndx kp2
    -- [..]
    refine ⟨(by show 1 ≤ sizeLine; decide), fun lv nlv => ?_⟩
    have n1 : p ≠ lv := ne_of_none (s2 _ _ hp1) nlv
    have n2 : st ≠ lv := ne_of_none (s2 _ _ hst1) nlv
    refine ⟨_, rfl, p, C, dx, _, rfl, Eq.trans (upd_ne n1) (s2 _ _ hp1), T.cl, T.nL, (by show 1 < 1000; decide), ?_⟩
    have e2' : putF "_levels" (V.ref lv) [("stored", .ref st)] = ([("stored", .ref st), ("_levels", .ref lv)] : List (Str × V)) := rfl
    rw [e2']
    have nlvH : H lv = none := (kp1.trans (Kp.of s2)).free nlv
    have lvM : lv ∉ p :: M := (hLp.kp (Kp.of (S := []) s2)).not nlv
    have hv3 : Same (hid H2 (p :: M)) (hid (upd (upd H2 lv (.lst [.ref x])) p (.ins C dx [("stored", .ref st), ("_levels", .ref lv)])) (lv :: p :: M)) := fun b o z => by
      have y := hid_cons (Same.new (o := .lst [V.ref x]) nlv) nlv b o z
      exact hid_kp (S := [p]) ((Kp.refl _ _).upd (.inl (List.mem_singleton.mpr rfl))) (by simp) b o y
    have kp3 : Kp [p] H (upd (upd H2 lv (.lst [.ref x])) p (.ins C dx [("stored", .ref st), ("_levels", .ref lv)])) := ((kp1.trans (Kp.of s2)).upd (.inr ((kp1.trans (Kp.of s2)).free nlv))).upd (.inl (List.mem_singleton.mpr rfl))
    have hp3 : upd (upd H2 lv (.lst [.ref x])) p (.ins C dx [("stored", .ref st), ("_levels", .ref lv)]) p = some (.ins C dx [("stored", .ref st), ("_levels", .ref lv)]) := upd_same
    have hlv3 : upd (upd H2 lv (.lst [.ref x])) p (.ins C dx [("stored", .ref st), ("_levels", .ref lv)]) lv = some (.lst [.ref x]) := by rw [upd_ne n1.symm, upd_same]
    have hst3 : upd (upd H2 lv (.lst [.ref x])) p (.ins C dx [("stored", .ref st), ("_levels", .ref lv)]) st = some (.lst (keys.map V.int)) := by rw [upd_ne q1.symm, upd_ne n2]; exact s2 _ _ hst1
    have hLV3 := hLV.mono hv3
    generalize upd (upd H2 lv (.lst [.ref x])) p (.ins C dx [("stored", .ref st), ("_levels", .ref lv)]) = H3 at kp3 hp3 hlv3 hst3 hLV3 ⊢
    clear hv3 hLV kp2 s2 sx nlv
    have pl0 := pcs_len okL
    rw [eLm] at pl0
    have P0 : IdxP keys [] L := by
      refine ⟨⟨L, rfl, eLm⟩, fun L' hL' => ?_, fun i L1 L2 a1 a2 => by simp at a2, by simp; omega⟩
      rw [List.mem_singleton.mp hL']
      exact okL
    -- the loop
    refine ⟨fun n σ H' => ∃ (Ls : List Lv) (L : Lv) (vs : List V) (vb : Option V), σ = [some (.ref p), some (.ref a), some (.int e), some (.int u), vb, none, none] ∧ Kp [p] H H' ∧ H' p = some (.ins C dx [("stored", .ref st), ("_levels", .ref lv)]) ∧ H' lv = some (.lst vs) ∧ H' st = some (.lst (keys.map V.int)) ∧
      All2 (fun v L => ∃ b, v = V.ref b ∧ LvV D (hid H' (lv :: p :: M)) b L) vs (Ls ++ [L]) ∧ IdxP keys Ls L ∧ n = L.pcs.length,
      ⟨_, [], L, [.ref x], none, rfl, kp3, hp3, hlv3, hst3, All2.one ⟨x, rfl, hLV3⟩, P0, rfl⟩, ?_⟩
    clear P0 pl0 hLV3 kp3 hp3 hlv3 hst3
    rintro n σ H4 ⟨Ls, L4, vs, vb, rfl, kp4, hp4, hlv4, hst4, hal, hP, rfl⟩
    obtain ⟨vs', v, rfl, hal', b, rfl, hb⟩ := hal.snoc_inv
    obtain ⟨dxb, m, q, us, g1, g2, g3, g4⟩ := id hb
    have g1' := (hid_some g1).1
    have g2' := (hid_some g2).1
    have g3' := (hid_some g3).1
    have okb : LvOk L4 := hP.ok L4 (by simp)
    refine ⟨_, rfl, p, C, dx, _, _, rfl, hp4, T.cl, T.nL, rfl, 1, rfl, lv, _, _, _, rfl, rfl, SqL.of hlv4, atI_last _ _, b, D, dxb, _, _, rfl, g1', TD.cl, TD.nP, rfl, q, _, rfl, .inl (SqL.of g3'), _, _, rfl, rfl, _, rfl, ite2 (fun z => ?_) (fun z => ?_)⟩
    · have z1 : 1 < (us.length : Int) := of_decide_eq_true z
      rw [g4.1] at z1
      have hMl : Live (lv :: p :: M) H4 := fun c hc => by
        rcases List.mem_cons.mp hc with rfl | hc
        · rw [hlv4]; exact fun q => by cases q
        · rcases List.mem_cons.mp hc with rfl | hc
          · rw [hp4]; exact fun q => by cases q
          · exact hM.kp kp4 c hc
      have hPl := hP.len
      refine ⟨_, fun σ' H' y => y, ?_⟩
      -- below = self._levels[-1]
      refine ⟨_, rfl, p, C, dx, _, _, rfl, hp4, T.cl, T.nL, rfl, 1, rfl, lv, _, _, _, rfl, rfl, SqL.of hlv4, atI_last _ _, ?_⟩
      -- self._levels.append(Level([below.marks[start] for start, line in below.pieces], upper))
      refine ⟨_, rfl, p, C, dx, _, _, rfl, hp4, T.cl, T.nL, rfl, .inl ⟨rfl, _, SqL.of hlv4⟩, ?_⟩
      refine ⟨_, rfl, b, D, dxb, _, _, rfl, g1', TD.cl, TD.nP, rfl, q, rfl, ⟨_, SqL.of g3'⟩, fun D1 hD1 => lc_list (K := K) (a := q) (xs := us) (fun i H' => Same H4 H' ∧ H' D1 = some (.lst (((firsts L4).take i).map V.int))) ⟨Same.new hD1, upd_same⟩
        (fun i H' _ ⟨s1, _⟩ => SqL.of (s1 _ _ g3')) ?_ ?_⟩
      · rintro i v H5 hi ⟨s1, hD5⟩
        obtain ⟨pc, hpc, vl, ⟨ap, rfl, hap⟩, _⟩ := g4.left hi
        have hil := (List.getElem?_eq_some_iff.mp hpc).1
        have hmg := start_get okb hpc
        refine ⟨ap, _, rfl, SqT.of (s1 _ _ (hid_some hap).1), rfl, _, _, rfl, _, _, rfl, rfl, rfl, ?_⟩
        refine ⟨_, rfl, b, D, dxb, _, _, rfl, s1 _ _ g1', TD.cl, TD.nM, rfl, _, rfl, m, _, _, _, rfl, rfl, SqL.of (s1 _ _ g2'), atI_nat (j := pc.s) (by rw [List.getElem?_map, hmg]; rfl), ?_⟩
        refine ⟨_, hD5, small1000 ?_, Same.upd s1 hD1, ?_⟩
        · rw [List.length_map, List.length_take]
          omega
        · rw [upd_same, firsts_take hpc, List.map_append]
          rfl
      · rintro H5 ⟨s1, hD5⟩
        have el : us.length = (firsts L4).length := by unfold firsts; rw [List.length_map, g4.1]
        rw [el, List.take_length] at hD5
        refine ⟨_, rfl, fun x5 dx5 nx5 ndx5 nex5 => ?_⟩
        have sx : Same H5 _ := (Same.new (o := .own x5) ndx5).trans (Same.new (o := .ins D dx5 []) (by rw [upd_ne nex5.symm]; exact nx5))
        have hMl5 := hMl.kp (Kp.of (S := []) s1)
        refine ⟨lv :: p :: M, x5, dx5, D1, u, firsts L4, rfl, upd_same, hMl5.kp (Kp.of (S := []) sx), hMl5.not nx5, hid_mk (sx _ _ hD5) (hMl.not hD1), firsts_ok okb, u0, u1, fun H6 L6 kp6 eLe6 eLm6 okL6 hLV6 => ⟨rfl, ?_⟩⟩
        have s6 : Same H5 H6 := made_same nx5 ndx5 kp6
        have s46 := s1.trans s6
        refine ⟨lv, _, _, rfl, rfl, s46 _ _ hlv4, ?_, ?_⟩
        · refine small1000 ?_
          rw [hal.1]
          simp
          omega
        · obtain ⟨hP6, hlt⟩ := hP.step (by omega) okL6 eLm6
          have kl : Kp [lv] H6 _ := (Kp.refl [lv] H6).upd (p := lv) (o := .lst ((vs' ++ [V.ref b]) ++ [V.ref x5])) (.inl (List.mem_singleton.mpr rfl))
          have hh : Same (hid H6 (lv :: p :: M)) (hid (upd H6 lv (.lst ((vs' ++ [V.ref b]) ++ [V.ref x5]))) (lv :: p :: M)) := hid_kp kl (by simp)
          have hh4 : Same (hid H4 (lv :: p :: M)) (hid (upd H6 lv (.lst ((vs' ++ [V.ref b]) ++ [V.ref x5]))) (lv :: p :: M)) := fun c o y => hh _ _ (hid_kp (Kp.of (S := []) s46) (by simp) _ _ y)
          refine ⟨L6.pcs.length, hlt, Ls ++ [L4], L6, _, _, rfl, (kp4.trans (Kp.of s46)).upd (.inr nlvH), ?_, upd_same, ?_, (hal.mono fun _ _ ⟨b, e, y⟩ => ⟨b, e, y.mono hh4⟩).snoc ⟨x5, rfl, hLV6.mono hh⟩, hP6, rfl⟩
          · rw [upd_ne n1]
            exact s46 _ _ hp4
          · rw [upd_ne n2]
            exact s46 _ _ hst4
    · have z1 : ¬ 1 < (us.length : Int) := mt decide_eq_true z
      rw [g4.1] at z1
      have hs : Same (hid H4 (lv :: p :: M)) (hid H4 M) := hid_sub fun c hc => List.mem_cons_of_mem _ (List.mem_cons_of_mem _ hc)
      refine k H4 _ kp4 (hP.done (by omega)) ⟨dx, st, lv, _, hid_mk hp4 hpM, hid_mk hst4 hstM, hid_mk hlv4 fun y => lvM (List.mem_cons_of_mem _ y), hal.mono fun _ _ ⟨b, e, y⟩ => ⟨b, e, y.mono hs⟩⟩
end
end Fw
namespace Fw
open PySem L2
/-- the number of keys that are not above x -/
def RankOf (keys : List Int) (x r : Int) : Prop := (r = 0 ∧ ∀ k ∈ keys, x < k) ∨ ∃ t : Nat, r = (t : Int) + 1 ∧ IsLast keys x t
section
variable {P : Program} {w : World} {K : PySem.W.Frag} {mg : Str → Option Value} {base : Heap}
/-! ### look_up -/
def spLook (C D : Addr) : Sp := fun vs H Q _ => ∃ (I : Hp) (p : Addr) (keys : List Int) (Ls : List Lv) (x : Int), vs = [.ref p, .int x] ∧ Same I H ∧ IdxV C D I p keys Ls ∧ IdxOk keys Ls ∧
  ∀ (H' : Hp) (t : Addr) (r : Int) (v : V), Same H H' → H' t = some (.tup [.int r, v]) → RankOf keys x r → Q (.ref t) H'
abbrev nLook : List Str := ["self", "x", "top", "looks", "position", "depth"]
theorem scLook : FnScope nLook ["self", "x"] (defScope sLook) := ⟨rfl, rfl, rfl, by decide +kernel, rfl, by decide +kernel, by decide +kernel⟩
theorem ok_look {f C D : Addr} {fd : FuncData} (F : Fun K "look_up" "Index.look_up" sLook f fd) (T : IC K C) (TD : LC K D) (G : MeG P w K mg base 2 D "find" ["self", "number", "x", "depth", "looks"] (spFind D)) (mL : mg "len" = none) (mR : mg "range" = none) :
    FnOk P w K mg base CX0 3 f fd ["self", "x"] (spLook C D) := by
  obtain ⟨ff, fdf, mf, Ff, bf⟩ := G
  refine F.ok scLook (fun vs H Q E h => ?_) (fun cdv A outer s H vs Q E hr h => ?_)
  · obtain ⟨I, p, keys, Ls, x, rfl, _⟩ := h
    rfl
  · obtain ⟨I, p, keys, Ls, x, rfl, sI, hV, hX, k⟩ := h
    obtain ⟨dx, st, lv, vs, h1, h2, h3, h4⟩ := id hV
    have g1 := sI _ _ h1
    have g2 := sI _ _ h2
    have g3 := sI _ _ h3
    refine ⟨_, pss_cons (ps_if (pt_not (pt_truth (pe_fld (pv 0) rfl) (by intro _; rfl))) (pss_one (ps_ret (pe_tup (pa_cons pe_int (pa_cons (pe_lst pa_nil) pa_nil))))) pss_nil)
      (pss_cons (ps_set (i := 2) scLook.nd rfl (.inl rfl) (pe_op op_sub (pe_callB call_len_seq (by rfl) mL PySem.boot_len (pa_cons (pe_fld (pv 0) rfl) pa_nil)) pe_int))
      (pss_cons (ps_set (i := 3) scLook.nd rfl (.inl rfl) (pe_lst (pa_cons (pe_tup (pa_cons (pv 2) (pa_cons pe_int pa_nil))) pa_nil)))
      (pss_cons (ps_if (pt_cmpR op_lt (pv 1) (pe_ix ix_list (pe_fld (pv 0) rfl) pe_int (fun _ _ => rfl)) (nomark _)) (pss_one (ps_ret (pe_tup (pa_cons pe_int (pa_cons (pv 3) pa_nil))))) pss_nil)
      (pss_cons (ps_set (i := 4) scLook.nd rfl (.inl rfl) pe_int)
      (pss_cons (ps_for PassesOwn.never rfl (pi_range3 (by rfl) mR (pa_cons (pv 2) (pa_cons (pe_un un_neg pe_int) (pa_cons (pe_un un_neg pe_int) pa_nil)))) (pg_name (i := 5) scLook.nd rfl (.inl rfl))
        (pss_one (ps_set (i := 4) scLook.nd rfl (.inl rfl) (pe_meth (pe_ix ix_list (pe_fld (pv 0) rfl) (pv 5) (fun _ _ => rfl)) TD.cl mf Ff hr bf .nil pass0 (pa_cons (pv 4) (pa_cons (pv 1) (pa_cons (pv 5) (pa_cons (pv 3) pa_nil))))))))
      (pss_one (ps_ret (pe_tup (pa_cons (pe_op op_add (pv 4) pe_int) (pa_cons (pv 3) pa_nil)))))))))), ?_⟩
    -- if not self.stored
    refine ⟨_, rfl, p, C, dx, _, _, rfl, g1, T.cl, T.nS, rfl, !(keys.map V.int).isEmpty, .inl ⟨_, SqL.of g2, rfl⟩, ?_⟩
    cases hk : keys with
    | nil =>
      refine iteT ?_
      refine ⟨Nat.zero_le _, fun l nl => ?_⟩
      refine ⟨(by show 2 ≤ sizeLine; decide), fun t nt => ?_⟩
      exact k _ t 0 _ ((Same.new nl).trans (Same.new nt)) upd_same (.inl ⟨rfl, fun k hk' => by rw [hk] at hk'; cases hk'⟩)
    | cons k0 kr =>
      refine iteF ?_
      rw [hk] at g2 h2 hV hX k
      -- top, looks
      refine ⟨_, rfl, p, C, dx, _, _, rfl, g1, T.cl, T.nL, rfl, lv, _, rfl, .inl (SqL.of g3), _, _, rfl, rfl, ?_⟩
      refine ⟨_, rfl, (by show 2 ≤ sizeLine; decide), fun t1 n1 => ?_⟩
      refine ⟨(by show 1 ≤ sizeLine; decide), fun lk nlk => ?_⟩
      have r0 : Same H _ := (Same.new (o := .tup [.int ((vs.length : Int) - 1), .int 0]) n1).trans (Same.new (o := .lst [.ref t1]) nlk)
      have nlkH : H lk = none := (upd_none nlk).2
      have hlk : upd (upd H t1 (.tup [.int ((vs.length : Int) - 1), .int 0])) lk (.lst [.ref t1]) lk = some (.lst [.ref t1]) := upd_same
      generalize upd (upd H t1 (.tup [.int ((vs.length : Int) - 1), .int 0])) lk (.lst [.ref t1]) = H1 at r0 hlk ⊢
      -- if x < self.stored[0]
      refine ⟨_, rfl, _, rfl, p, C, dx, _, _, rfl, r0 _ _ g1, T.cl, T.nS, rfl, st, _, _, _, rfl, rfl, SqL.of (r0 _ _ g2), atI_nat (j := 0) rfl, _, _, rfl, rfl, _, rfl, ite2 (fun z => ?_) (fun z => ?_)⟩
      · have z1 : x < k0 := of_decide_eq_true z
        refine ⟨_, rfl, (by show 2 ≤ sizeLine; decide), fun t nt => ?_⟩
        refine k _ t 0 _ (r0.trans (Same.new nt)) upd_same (.inl ⟨rfl, fun k hk' => ?_⟩)
        obtain ⟨L0, hL0, eL0⟩ := hX.zero
        have as := (hX.ok L0 (List.mem_of_getElem? hL0)).mo.asc
        rw [eL0] at as
        rcases List.mem_cons.mp hk' with rfl | hk'
        · exact z1
        · have := (List.pairwise_cons.mp as).1 k hk'
          omega
      · have z1 : ¬ x < k0 := mt decide_eq_true z
        have hn : vs.length = Ls.length := h4.1
        obtain ⟨L0, hL0, eL0⟩ := hX.zero
        have hpos : 0 < Ls.length := (List.getElem?_eq_some_iff.mp hL0).1
        have hlen := hX.len
        have rg : RgC ((vs.length : Int) - 1) (-1) (-1) Ls.length := by
          have := RgC.neg (i := (vs.length : Int) - 1) (j := -1) (by omega) (by omega) (by omega) (by omega)
          rw [show ((vs.length : Int) - 1 - -1).toNat = Ls.length by omega] at this
          exact this
        refine ⟨_, rfl, 1, rfl, 1, rfl, _, _, _, Ls.length, rfl, rg, for_rangeC (lo := (vs.length : Int) - 1) (c := -1) (n := Ls.length) (fun i σ H' => ∃ (pos : Nat) (us : List V) (v5 : Option V), σ = [some (.ref p), some (.int x), some (.int ((vs.length : Int) - 1)), some (.ref lk), some (.int (pos : Nat)), v5] ∧
          Same H H' ∧ H' lk = some (.lst us) ∧ us.length ≤ 1 + 1000 * i ∧ (∀ L, i < Ls.length → Ls[Ls.length - 1 - i]? = some L → PieceAt L x pos) ∧ (i = Ls.length → IsLast (k0 :: kr) x pos)) ⟨0, [.ref t1], none, rfl, r0, hlk, by simp, ?_, fun q => by omega⟩ ?_ ?_⟩
        · intro L _ hL
          exact piece_top hX (k0 := k0) rfl (by omega) hL
        · rintro i σ H2 hi ⟨pos, us, v5, rfl, s2, hl2, hul, hpc, _⟩
          obtain ⟨L, hL⟩ : ∃ L, Ls[Ls.length - 1 - i]? = some L := ⟨_, List.getElem?_eq_getElem (show Ls.length - 1 - i < Ls.length by omega)⟩
          obtain ⟨v, hv, b, rfl, hb⟩ := h4.right hL
          have okL := hX.ok L (List.mem_of_getElem? hL)
          obtain ⟨dxb, _, _, _, gb, _⟩ := id hb
          have sI2 := sI.trans s2
          refine ⟨_, rfl, p, C, dx, _, _, rfl, s2 _ _ g1, T.cl, T.nL, rfl, _, rfl, lv, _, _, _, rfl, rfl, SqL.of (s2 _ _ g3), at_of (j := Ls.length - 1 - i) (by omega) hv, b, dxb, _, rfl, sI2 _ _ gb, rfl, _, rfl, _, rfl, _, rfl, _, rfl,
            I, b, L, pos, x, _, lk, us, rfl, sI2, hb, okL, hpc L hi hL, sI.free nlkH, hl2, by omega, fun H3 t us' kp3 hl3 hul3 hlast => ?_⟩
          refine ⟨t, us', _, rfl, fun c o e => ?_, hl3, by omega, fun L' hi' hL' => ?_, fun hi' => ?_⟩
          · exact (kp3 c o (s2 _ _ e)).1 fun y => by
              rw [List.mem_singleton.mp y, nlkH] at e
              cases e
          · refine piece_down hX hL' ?_ hlast
            rw [show Ls.length - 1 - (i + 1) + 1 = Ls.length - 1 - i by omega]
            exact hL
          · rw [show Ls.length - 1 - i = 0 by omega, hL0] at hL
            cases hL
            rw [← eL0]
            exact hlast
        · rintro σ H2 ⟨pos, us, v5, rfl, s2, hl2, hul, _, hlast⟩
          refine ⟨_, rfl, _, _, rfl, rfl, _, rfl, (by show 2 ≤ sizeLine; decide), fun t nt => ?_⟩
          exact k _ t _ _ (s2.trans (Same.new nt)) upd_same (.inr ⟨pos, rfl, hlast rfl⟩)
/-! ### rank -/
def spRank (C D : Addr) : Sp := fun vs H Q _ => ∃ (I : Hp) (p : Addr) (keys : List Int) (Ls : List Lv) (x : Int), vs = [.ref p, .int x] ∧ Same I H ∧ IdxV C D I p keys Ls ∧ IdxOk keys Ls ∧
  ∀ (H' : Hp) (r : Int), Same H H' → RankOf keys x r → Q (.int r) H'
theorem scRank : FnScope ["self", "x"] ["self", "x"] (defScope sRank) := ⟨rfl, rfl, rfl, by decide +kernel, rfl, by decide +kernel, by decide +kernel⟩
theorem ok_rank {f C D : Addr} {fd : FuncData} (F : Fun K "rank" "Index.rank" sRank f fd) (T : IC K C) (G : MeG P w K mg base 3 C "look_up" ["self", "x"] (spLook C D)) : FnOk P w K mg base CX0 4 f fd ["self", "x"] (spRank C D) := by
  obtain ⟨ff, fdf, mf, Ff, bf⟩ := G
  refine F.ok scRank (fun vs H Q E h => ?_) (fun cdv A outer s H vs Q E hr h => ?_)
  · obtain ⟨I, p, keys, Ls, x, rfl, _⟩ := h
    rfl
  · obtain ⟨I, p, keys, Ls, x, rfl, sI, hV, hX, k⟩ := h
    obtain ⟨dx, st, lv, vs, h1, h2, h3, h4⟩ := id hV
    refine ⟨_, pss_one (ps_ret (pe_ix ix_tup (pe_meth (pv 0) T.cl mf Ff hr bf .nil pass0 (pa_cons (pv 1) pa_nil)) pe_int (fun _ _ => rfl))), ?_⟩
    refine ⟨_, rfl, p, dx, _, rfl, sI _ _ h1, rfl, _, rfl, I, p, keys, Ls, x, rfl, sI, hV, hX, fun H1 t r v r1 ht hrk => ?_⟩
    exact ⟨t, _, _, _, rfl, rfl, SqT.of ht, atI_nat (j := 0) rfl, k H1 r r1 hrk⟩
end
end Fw
namespace Fw
open PySem L2
abbrev sRunI : Stmt := inClass (top 22) 0
abbrev sEntry : Stmt := inClass (top 22) 1
abbrev sMrg : Stmt := top 23
structure RC (K : PySem.W.Frag) (C : Addr) : Prop where
  cl : Cls K C
  nE : NoAttr K C "entries"
  nI : NoAttr K C "index"
def ov : Option Int → V
  | none => .non
  | some z => .int z
abbrev EnV (I : Hp) (v : V) (e : En) : Prop := IsT I v [.int e.1, ov e.2]
abbrev keysOf (es : List En) : List Int := es.map fun e => e.1
def RunV (CR CI CL : Addr) (I : Hp) (a : Addr) (es : List En) : Prop := ∃ (dx l ix : Addr) (vs : List V) (Ls : List Lv), I a = some (.ins CR dx [("entries", .ref l), ("index", .ref ix)]) ∧ I l = some (.lst vs) ∧ All2 (EnV I) vs es ∧
  IdxV CI CL I ix (keysOf es) Ls ∧ IdxOk (keysOf es) Ls
theorem RunV.mono {CR CI CL : Addr} {I I' : Hp} {a : Addr} {es : List En} (s : Same I I') (h : RunV CR CI CL I a es) : RunV CR CI CL I' a es := by
  obtain ⟨dx, l, ix, vs, Ls, h1, h2, h3, h4, h5⟩ := h
  exact ⟨dx, l, ix, vs, Ls, s _ _ h1, s _ _ h2, h3.mono fun _ _ q => q.mono (KT.of s), h4.mono s, h5⟩
theorem keys_ok {es : List En} (h : Srt es) (hk : KeysIn es) (hl : es.length ≤ 1000) : MarksOk (keysOf es) := by
  refine ⟨List.pairwise_map.mpr h, fun k hk' => ?_, by rw [List.length_map]; exact hl⟩
  obtain ⟨e, he, rfl⟩ := List.mem_map.mp hk'
  exact hk e he
section
variable {P : Program} {w : World} {K : PySem.W.Frag} {mg : Str → Option Value} {base : Heap}
/-! ### a new run -/
def spRunI (C CI CL : Addr) : Sp := fun vs H Q _ => ∃ (M : List Addr) (p dx l : Addr) (e : Int) (us : List V) (es : List En), vs = [.ref p, .ref l, .int e] ∧ H p = some (.ins C dx []) ∧ Live M H ∧ p ∉ M ∧ hid H M l = some (.lst us) ∧
  All2 (EnV (hid H M)) us es ∧ MarksOk (keysOf es) ∧ 0 ≤ e ∧ e ≤ 1000000 ∧ ∀ H' : Hp, Kp [p] H H' → RunV C CI CL (hid H' M) p es → Q .non H'
abbrev nRunI : List Str := ["self", "entries", "error", "key", "value"]
theorem scRunI : FnScope nRunI ["self", "entries", "error"] (defScope sRunI) := ⟨rfl, rfl, rfl, by decide +kernel, rfl, by decide +kernel, by decide +kernel⟩
theorem ok_runi {f C CI CL : Addr} {fd : FuncData} {u : Tok} (F : Fun K "__init__" "Run.__init__" sRunI f fd) (T : RC K C) (G : ClG P w K mg base 7 "Index" CI ["self", "stored", "error", "upper"] (spIxI CI CL)) (mU : mg "UPPER" = some (.int 1 u)) :
    FnOk P w K mg base CX0 9 f fd ["self", "entries", "error"] (spRunI C CI CL) := by
  refine F.ok scRunI (fun vs H Q E h => ?_) (fun cdv A outer s H vs Q E hr h => ?_)
  · obtain ⟨M, p, dx, l, e, us, es, rfl, _⟩ := h
    rfl
  · obtain ⟨M, p, dx, l, e, us, es, rfl, hp, hM, hpM, hl, hes, hmk, e0, e1, k⟩ := h
    refine ⟨_, pss_cons (ps_fld (pv 0) (pv 1) rfl) (pss_one (ps_fld (pv 0) (pe_makeG G hr (by rfl) (pa_cons
        (pe_lc (own := [("key", 3), ("value", 4)]) (g := gTup K 2 (gCons (gName 3) (gCons (gName 4) gNil))) (tt := tYes) rfl scRunI.nd (pi_list (pv 1)) (blkOk_by (N := nRunI) (sc := defScope sRunI) (own := [("key", 3), ("value", 4)]) (by decide +kernel))
          (fun _ _ _ _ _ => pg_tup (by rfl) (pgs_cons (pg_name (i := 3) scRunI.nd rfl (.inl rfl)) (pgs_cons (pg_name (i := 4) scRunI.nd rfl (.inl rfl)) pgs_nil))) (fun _ _ _ _ _ => pts_nil)
          (fun _ _ _ _ _ => pv 3)) (pa_cons (pv 2) (pa_cons (pe_glob (v := .int 1) (by rfl) mU ⟨_, rfl⟩) pa_nil)))) rfl)), ?_⟩
    obtain ⟨hl1, hlM⟩ := hid_some hl
    have nlp : l ≠ p := ne_of hl1 hp (by intro q; cases q)
    have hml := hmk.len
    rw [List.length_map] at hml
    refine ⟨_, rfl, _, rfl, p, C, dx, _, rfl, hp, T.cl, T.nE, (by show 0 < 1000; decide), ?_⟩
    have e1' : putF "entries" (V.ref l) [] = ([("entries", .ref l)] : List (Str × V)) := rfl
    rw [e1']
    have kp1 : Kp [p] H (upd H p (.ins C dx [("entries", .ref l)])) := (Kp.refl _ _).upd (.inl (List.mem_singleton.mpr rfl))
    have hp1 : upd H p (.ins C dx [("entries", .ref l)]) p = some (.ins C dx [("entries", .ref l)]) := upd_same
    generalize upd H p (.ins C dx [("entries", .ref l)]) = H1 at kp1 hp1 ⊢
    have hl2 := kp1.at hl1 (by simp; exact nlp)
    have kt1 : KT H H1 := KT.kp kp1 (fun b hb => by rw [List.mem_singleton.mp hb]; exact nt_ins hp)
    -- [key for key, value in entries]
    refine ⟨_, rfl, l, rfl, ⟨_, SqL.of hl2⟩, fun D1 hD1 => lc_list (K := K) (a := l) (xs := us) (fun i H' => Same H1 H' ∧ H' D1 = some (.lst (((keysOf es).take i).map V.int))) ⟨Same.new hD1, upd_same⟩ (fun i H' _ ⟨s1, _⟩ => SqL.of (s1 _ _ hl2)) ?_ ?_⟩
    · rintro i v H2 hi ⟨s1, hD⟩
      obtain ⟨en, hen, ae, rfl, hae⟩ := hes.left hi
      have hil := (List.getElem?_eq_some_iff.mp hen).1
      refine ⟨ae, _, rfl, SqT.of (s1 _ _ (kt1 _ _ (hid_some hae).1)), rfl, _, _, rfl, _, _, rfl, rfl, rfl, ?_⟩
      refine ⟨_, rfl, _, hD, small1000 ?_, Same.upd s1 hD1, ?_⟩
      · rw [List.length_map, List.length_take, List.length_map]
        omega
      · rw [upd_same, take_snoc (x := en.1) (by rw [List.getElem?_map, hen]; rfl), List.map_append]
        rfl
    · rintro H2 ⟨s1, hD⟩
      rw [show us.length = (keysOf es).length by rw [List.length_map, hes.1], List.take_length] at hD
      refine ⟨_, rfl, fun x dx1 nx ndx nex => ?_⟩
      have sx : Same H2 _ := (Same.new (o := .own x) ndx).trans (Same.new (o := .ins CI dx1 []) (by rw [upd_ne nex.symm]; exact nx))
      have hMp : Live (p :: M) H2 := by
        have q : Live (p :: M) H := fun b hb => by
          rcases List.mem_cons.mp hb with rfl | hb
          · rw [hp]; exact fun q => by cases q
          · exact hM b hb
        exact q.kp (kp1.trans (Kp.of s1))
      refine ⟨p :: M, x, dx1, D1, e, 1, keysOf es, rfl, upd_same, hMp.kp (Kp.of (S := []) sx), hMp.not nx, sx _ _ hD, hmk, e0, e1, by decide, by decide, fun H3 Ls kp3 hX hV => ⟨rfl, ?_⟩⟩
      have s3 : Same H2 H3 := made_same nx ndx kp3
      have hp3 := (s1.trans s3) _ _ hp1
      refine ⟨_, rfl, p, C, dx, _, rfl, hp3, T.cl, T.nI, (by show 1 < 1000; decide), ?_⟩
      have kpA := (kp1.trans (Kp.of (s1.trans s3))).upd (p := p) (o := .ins C dx [("entries", V.ref l), ("index", V.ref x)]) (.inl (List.mem_singleton.mpr rfl))
      have kq : Kp [p] H3 _ := (Kp.refl [p] H3).upd (p := p) (o := .ins C dx [("entries", V.ref l), ("index", V.ref x)]) (.inl (List.mem_singleton.mpr rfl))
      have hs3 : Same (hid H3 (p :: M)) (hid (upd H3 p (.ins C dx [("entries", V.ref l), ("index", V.ref x)])) M) := fun b o z => hid_sub (M := M) (M' := p :: M) (fun c hc => List.mem_cons_of_mem _ hc) _ _ (hid_kp kq (by simp) b o z)
      have ktA : KT H (upd H3 p (.ins C dx [("entries", V.ref l), ("index", V.ref x)])) := KT.kp kpA (fun b hb => by rw [List.mem_singleton.mp hb]; exact nt_ins hp)
      refine k _ kpA ⟨dx, l, x, us, Ls, hid_mk upd_same hpM, hid_mk (kpA.at hl1 (by simp; exact nlp)) hlM, hes.mono fun _ _ q => q.mono (hid_kt ktA), hV.mono hs3, hX⟩
/-! ### entry -/
def spEntry (C CI CL : Addr) : Sp := fun vs H Q _ => ∃ (I : Hp) (p : Addr) (es : List En) (x : Int), vs = [.ref p, .int x] ∧ Same I H ∧ RunV C CI CL I p es ∧
  (∀ (H' : Hp) (v : V) (c : Option Int), Same H H' → (x, c) ∈ es → EnV I v (x, c) → Q v H') ∧ (∀ H' : Hp, Same H H' → (∀ e ∈ es, e.1 ≠ x) → Q .non H')
theorem scEntry : FnScope ["self", "key", "rank"] ["self", "key"] (defScope sEntry) := ⟨rfl, rfl, rfl, by decide +kernel, rfl, by decide +kernel, by decide +kernel⟩
theorem ok_entry {f C CI CL : Addr} {fd : FuncData} (F : Fun K "entry" "Run.entry" sEntry f fd) (T : RC K C) (TI : Cls K CI) (G : MeG P w K mg base 4 CI "rank" ["self", "x"] (spRank CI CL)) : FnOk P w K mg base CX0 5 f fd ["self", "key"] (spEntry C CI CL) := by
  obtain ⟨ff, fdf, mf, Ff, bf⟩ := G
  refine F.ok scEntry (fun vs H Q E h => ?_) (fun cdv A outer s H vs Q E hr h => ?_)
  · obtain ⟨I, p, es, x, rfl, _⟩ := h
    rfl
  · obtain ⟨I, p, es, x, rfl, sI, hV, k1, k2⟩ := h
    obtain ⟨dx, l, ix, vs, Ls, h1, h2, h3, h4, h5⟩ := hV
    obtain ⟨dxi, _, _, _, hix, _⟩ := id h4
    refine ⟨_, pss_cons (ps_set (i := 2) scEntry.nd rfl (.inl rfl) (pe_meth (pe_fld (pv 0) rfl) TI mf Ff hr bf .nil pass0 (pa_cons (pv 1) pa_nil)))
      (pss_cons (ps_if (PW.pt (pw_and (pt_cmpR op_gt (pv 2) pe_int (nomark _)) (pw_and1 (pt_cmpR op_eq (pe_ix ix_tup (pe_ix ix_list (pe_fld (pv 0) rfl) (pe_op op_sub (pv 2) pe_int) (fun _ _ => rfl)) pe_int (fun _ _ => rfl)) (pv 1) (nomark _)))))
        (pss_one (ps_ret (pe_ix ix_list (pe_fld (pv 0) rfl) (pe_op op_sub (pv 2) pe_int) (fun _ _ => rfl)))) pss_nil)
      (pss_one (ps_ret pe_non))), ?_⟩
    refine ⟨_, rfl, p, C, dx, _, _, rfl, sI _ _ h1, T.cl, T.nI, rfl, ix, dxi, _, rfl, sI _ _ hix, rfl, _, rfl, I, ix, keysOf es, Ls, x, rfl, sI, h4, h5, fun H1 r r1 hrk => ?_⟩
    have sI1 := sI.trans r1
    refine ⟨_, rfl, _, _, rfl, rfl, _, rfl, ite2 (fun z => ?_) (fun z => ?_)⟩
    · have z1 : 0 < r := of_decide_eq_true z
      rcases hrk with ⟨rfl, _⟩ | ⟨t, rfl, ⟨kk, hkk, hkx⟩, hab⟩
      · omega
      · rw [List.getElem?_map] at hkk
        obtain ⟨en, hen, rfl⟩ : ∃ en, es[t]? = some en ∧ kk = en.1 := by
          cases q : es[t]? with
          | none => rw [q] at hkk; cases hkk
          | some en => rw [q] at hkk; exact ⟨en, rfl, (Option.some.inj hkk).symm⟩
        obtain ⟨v, hv, ae, rfl, hae⟩ := h3.right hen
        refine ⟨_, rfl, p, C, dx, _, _, rfl, sI1 _ _ h1, T.cl, T.nE, rfl, _, rfl, _, _, rfl, rfl, l, _, _, _, rfl, rfl, SqL.of (sI1 _ _ h2), at_of (j := t) (by omega) hv, ae, _, _, _, rfl, rfl, SqT.of (sI1 _ _ hae), atI_nat (j := 0) rfl, _, rfl, rfl, _, rfl, ite2 (fun y => ?_) (fun y => ?_)⟩
        · have y1 : en.1 = x := V.int.inj (of_decide_eq_true y)
          refine ⟨_, rfl, p, C, dx, _, _, rfl, sI1 _ _ h1, T.cl, T.nE, rfl, _, rfl, _, _, rfl, rfl, l, _, _, _, rfl, rfl, SqL.of (sI1 _ _ h2), at_of (j := t) (by omega) hv, ?_⟩
          obtain ⟨e1, e2⟩ := en
          have y2 : e1 = x := y1
          subst y2
          exact k1 H1 _ e2 r1 (List.mem_of_getElem? hen) ⟨ae, rfl, hae⟩
        · have y1 : en.1 ≠ x := fun q => y (decide_eq_true (by rw [q]))
          refine k2 H1 r1 fun e he q => ?_
          obtain ⟨i, hi⟩ := List.getElem?_of_mem he
          have hik : (keysOf es)[i]? = some e.1 := by rw [List.getElem?_map, hi]; rfl
          have htk : (keysOf es)[t]? = some en.1 := by rw [List.getElem?_map, hen]; rfl
          obtain ⟨L0, hL0, eL0⟩ := h5.zero
          have as := (h5.ok L0 (List.mem_of_getElem? hL0)).mo.asc
          rw [eL0] at as
          rcases Nat.lt_trichotomy i t with c | c | c
          · have := asc_get as hik htk c
            omega
          · subst c
            rw [hi] at hen
            exact y1 (by rw [← Option.some.inj hen]; exact q)
          · have := hab i e.1 c hik
            omega
    · have z1 : ¬ 0 < r := mt decide_eq_true z
      rcases hrk with ⟨rfl, hall⟩ | ⟨t, rfl, _⟩
      · refine k2 H1 r1 fun e he q => ?_
        have := hall e.1 (List.mem_map.mpr ⟨e, he, rfl⟩)
        omega
      · omega
end
end Fw
namespace Fw
open PySem L2
theorem cutV_drop (xs : List V) (j : Nat) : cutV xs (some (j : Int)) none = xs.drop j := by
  unfold cutV
  rw [HT.sIx_nat, HT.sIx_none]
  by_cases h : j ≤ xs.length
  · rw [Nat.min_eq_left h]
    exact List.take_of_length_le (by rw [List.length_drop]; exact Nat.le_refl _)
  · rw [Nat.min_eq_right (by omega), List.drop_eq_nil_of_le (Nat.le_refl _), List.drop_eq_nil_of_le (show xs.length ≤ j by omega)]
    exact List.take_nil
theorem drop_cons {α : Type} {xs : List α} {i : Nat} {x : α} (h : xs[i]? = some x) : xs.drop i = x :: xs.drop (i + 1) := by
  obtain ⟨h1, rfl⟩ := List.getElem?_eq_some_iff.mp h
  exact List.drop_eq_getElem_cons h1
theorem small_e5 {n : Nat} (h : n ≤ 100000) : n < sizeLine := Nat.lt_of_le_of_lt h (by decide)
section
variable {P : Program} {w : World} {K : PySem.W.Frag} {mg : Str → Option Value} {base : Heap}
/-! ### merged -/
def spMrg : Sp := fun vs H Q _ => ∃ (F : Hp) (a b : Addr) (xs ys : List V) (newer older : List En), vs = [.ref a, .ref b] ∧ H a = some (.lst xs) ∧ H b = some (.lst ys) ∧ Same F H ∧ All2 (EnV F) xs newer ∧ All2 (EnV F) ys older ∧
  newer.length + older.length ≤ 99000 ∧ ∀ (H' : Hp) (p : Addr) (zs : List V), Same H H' → H p = none → H' p = some (.lst zs) → All2 (EnV F) zs (mrg newer older) → Q (.ref p) H'
abbrev nMrg : List Str := ["newer", "older", "entries", "position", "entry"]
theorem scMrg : FnScope nMrg ["newer", "older"] (defScope sMrg) := ⟨rfl, rfl, rfl, by decide +kernel, rfl, by decide +kernel, by decide +kernel⟩
theorem ok_mrg {f : Addr} {fd : FuncData} (F : Fun K "merged" "merged" sMrg f fd) (mL : mg "len" = none) : FnOk P w K mg base CX0 1 f fd ["newer", "older"] spMrg := by
  refine F.ok scMrg (fun vs H Q E h => ?_) (fun cdv A outer s H vs Q E hr h => ?_)
  · obtain ⟨Fz, a, b, xs, ys, newer, older, rfl, _⟩ := h
    rfl
  · obtain ⟨Fz, a, b, xs, ys, newer, older, rfl, ha, hb, sF, hx, hy, hsz, k⟩ := h
    refine ⟨_, pss_cons (ps_set (i := 2) scMrg.nd rfl (.inl rfl) (pe_lst pa_nil)) (pss_cons (ps_set (i := 3) scMrg.nd rfl (.inl rfl) pe_int)
      (pss_cons (ps_for PassesOwn.never rfl (pi_list (pv 0)) (pg_name (i := 4) scMrg.nd rfl (.inl rfl))
        (Evl.pss_cut (ps_while PassesOwn.never (PW.pt (pw_and (pt_cmpR op_lt (pv 3) (pe_callB call_len_seq (by rfl) mL PySem.boot_len (pa_cons (pv 1) pa_nil)) (nomark _))
            (pw_and1 (pt_cmpR op_lt (pe_ix ix_tup (pe_ix ix_list (pv 1) (pv 3) (fun _ _ => rfl)) pe_int (fun _ _ => rfl)) (pe_ix ix_tup (pv 4) pe_int (fun _ _ => rfl)) (nomark _)))))
          (pss_cons (ps_expr (pe_bm PySem.F.plainAttrs_list PySem.F.slot_list_append PySem.F.type_list_append mt_append (pv 2) (pa_cons (pe_ix ix_list (pv 1) (pv 3) (fun _ _ => rfl)) pa_nil)))
          (pss_one (ps_aug (i := 3) scMrg.nd rfl (.inl rfl) pe_int ip_add))))
        (Evl.pss_cut (ps_if (PW.pt (pw_and (pt_cmpR op_lt (pv 3) (pe_callB call_len_seq (by rfl) mL PySem.boot_len (pa_cons (pv 1) pa_nil)) (nomark _))
            (pw_and1 (pt_cmpR op_eq (pe_ix ix_tup (pe_ix ix_list (pv 1) (pv 3) (fun _ _ => rfl)) pe_int (fun _ _ => rfl)) (pe_ix ix_tup (pv 4) pe_int (fun _ _ => rfl)) (nomark _)))))
          (pss_one (ps_aug (i := 3) scMrg.nd rfl (.inl rfl) pe_int ip_add)) pss_nil)
        (pss_one (ps_expr (pe_bm PySem.F.plainAttrs_list PySem.F.slot_list_append PySem.F.type_list_append mt_append (pv 2) (pa_cons (pv 4) pa_nil)))))))
      (pss_one (ps_ret (pe_op op_cat (pv 2) (pe_slice sl_list (pv 1) (po_some (pv 3)) po_none)))))), ?_⟩
    refine ⟨Nat.zero_le _, fun l nl => ?_⟩
    refine ⟨_, rfl, a, rfl, ⟨_, SqL.of (Same.new nl _ _ ha)⟩, for_list (K := K) (a := a) (xs := xs) (fun i σ H' => ∃ (pos : Nat) (ve : Option V) (zs : List V) (out : List En), σ = [some (.ref a), some (.ref b), some (.ref l), some (.int (pos : Nat)), ve] ∧
      Same H H' ∧ H' l = some (.lst zs) ∧ All2 (EnV Fz) zs out ∧ out ++ mrg (newer.drop i) (older.drop pos) = mrg newer older ∧ pos ≤ older.length ∧ out.length ≤ i + pos)
      ⟨0, none, [], [], rfl, Same.new nl, upd_same, .nil, rfl, Nat.zero_le _, Nat.le_refl _⟩ (fun i σ H' _ ⟨_, _, _, _, _, s1, _⟩ => SqL.of (s1 _ _ ha)) ?_ ?_⟩
    · rintro i v H1 H' hi ⟨pos, ve, zs, out, rfl, s1, hl, hz, he, hp, ho⟩
      obtain ⟨en, hen, ae, rfl, hae⟩ := hx.left hi
      have hil := (List.getElem?_eq_some_iff.mp hen).1
      rw [drop_cons hen] at he
      -- the while
      refine ⟨fun σ H' => ∃ (pos : Nat) (zs : List V) (out : List En), σ = [some (.ref a), some (.ref b), some (.ref l), some (.int (pos : Nat)), some (.ref ae)] ∧
        Same H H' ∧ H' l = some (.lst zs) ∧ All2 (EnV Fz) zs out ∧ out ++ mrg (en :: newer.drop (i + 1)) (older.drop pos) = mrg newer older ∧ pos ≤ older.length ∧ out.length ≤ i + pos ∧ ∀ o, older[pos]? = some o → ¬ o.1 < en.1, ?_, ?_⟩
      · refine ⟨fun m σ H' => ∃ (pos : Nat) (zs : List V) (out : List En), σ = [some (.ref a), some (.ref b), some (.ref l), some (.int (pos : Nat)), some (.ref ae)] ∧
          Same H H' ∧ H' l = some (.lst zs) ∧ All2 (EnV Fz) zs out ∧ out ++ mrg (en :: newer.drop (i + 1)) (older.drop pos) = mrg newer older ∧ pos ≤ older.length ∧ out.length ≤ i + pos ∧ m = older.length - pos,
          ⟨_, pos, zs, out, rfl, s1, hl, hz, he, hp, ho, rfl⟩, ?_⟩
        clear hl hz he hp ho s1
        rintro m σ H2 ⟨pos, zs, out, rfl, s1, hl, hz, he, hp, ho, rfl⟩
        refine ⟨_, rfl, _, rfl, b, _, rfl, .inl (SqL.of (s1 _ _ hb)), _, _, rfl, rfl, _, rfl, ite2 (fun q => ?_) (fun q => ?_)⟩
        · have q1 : (pos : Int) < (ys.length : Int) := of_decide_eq_true q
          rw [hy.1] at q1
          obtain ⟨o, ho'⟩ : ∃ o, older[pos]? = some o := ⟨_, List.getElem?_eq_getElem (show pos < older.length by omega)⟩
          obtain ⟨v, hv, ao, rfl, hao⟩ := hy.right ho'
          refine ⟨_, rfl, _, rfl, b, _, _, _, rfl, rfl, SqL.of (s1 _ _ hb), atI_nat hv, ao, _, _, _, rfl, rfl, SqT.of (s1 _ _ (sF _ _ hao)), atI_nat (j := 0) rfl, _, rfl, ae, _, _, _, rfl, rfl, SqT.of (s1 _ _ (sF _ _ hae)), atI_nat (j := 0) rfl, _, _, rfl, rfl, _, rfl, ite2 (fun z => ?_) (fun z => ?_)⟩
          · have z1 : o.1 < en.1 := of_decide_eq_true z
            refine ⟨_, fun σ' H' y => y, ?_⟩
            refine ⟨_, rfl, .inl ⟨rfl, _, SqL.of hl⟩, _, rfl, _, rfl, b, _, _, _, rfl, rfl, SqL.of (s1 _ _ hb), atI_nat hv, l, _, _, rfl, rfl, hl, small_e5 (by rw [hz.1]; omega), ?_⟩
            refine ⟨_, rfl, _, _, rfl, rfl, ?_⟩
            rw [drop_cons ho', mrg_lt z1] at he
            refine ⟨older.length - (pos + 1), by omega, pos + 1, zs ++ [.ref ao], out ++ [o], rfl, Same.upd s1 nl, upd_same, hz.snoc ⟨ao, rfl, hao⟩, ?_, by omega, by rw [List.length_append, List.length_singleton]; omega, rfl⟩
            rw [← he, List.append_assoc]
            rfl
          · have z1 : ¬ o.1 < en.1 := mt decide_eq_true z
            exact ⟨pos, zs, out, rfl, s1, hl, hz, he, hp, ho, fun o2 h2 => by rw [ho'] at h2; rw [← Option.some.inj h2]; exact z1⟩
        · have q1 : ¬ (pos : Int) < (ys.length : Int) := mt decide_eq_true q
          rw [hy.1] at q1
          exact ⟨pos, zs, out, rfl, s1, hl, hz, he, hp, ho, fun o2 h2 => by have := (List.getElem?_eq_some_iff.mp h2).1; omega⟩
      · clear hl hz he hp ho s1
        rintro σ H2 ⟨pos, zs, out, rfl, s1, hl, hz, he, hp, ho, hge⟩
        -- the equal key
        refine ⟨fun σ H' => ∃ (pos : Nat), σ = [some (.ref a), some (.ref b), some (.ref l), some (.int (pos : Nat)), some (.ref ae)] ∧
          Same H H' ∧ H' l = some (.lst zs) ∧ out ++ (en :: mrg (newer.drop (i + 1)) (older.drop pos)) = mrg newer older ∧ pos ≤ older.length ∧ out.length ≤ i + pos, ?_, ?_⟩
        · refine ⟨_, rfl, _, rfl, b, _, rfl, .inl (SqL.of (s1 _ _ hb)), _, _, rfl, rfl, _, rfl, ite2 (fun q => ?_) (fun q => ?_)⟩
          · have q1 : (pos : Int) < (ys.length : Int) := of_decide_eq_true q
            rw [hy.1] at q1
            obtain ⟨o, ho'⟩ : ∃ o, older[pos]? = some o := ⟨_, List.getElem?_eq_getElem (show pos < older.length by omega)⟩
            obtain ⟨v, hv, ao, rfl, hao⟩ := hy.right ho'
            have hge' := hge o ho'
            refine ⟨_, rfl, _, rfl, b, _, _, _, rfl, rfl, SqL.of (s1 _ _ hb), atI_nat hv, ao, _, _, _, rfl, rfl, SqT.of (s1 _ _ (sF _ _ hao)), atI_nat (j := 0) rfl, _, rfl, ae, _, _, _, rfl, rfl, SqT.of (s1 _ _ (sF _ _ hae)), atI_nat (j := 0) rfl, rfl, _, rfl, ite2 (fun z => ?_) (fun z => ?_)⟩
            · have z1 : o.1 = en.1 := V.int.inj (of_decide_eq_true z)
              refine ⟨_, rfl, _, _, rfl, rfl, ?_⟩
              rw [drop_cons ho', mrg_eq z1] at he
              exact ⟨pos + 1, rfl, s1, hl, he, by omega, by omega⟩
            · have z1 : o.1 ≠ en.1 := fun y => z (decide_eq_true (by rw [y]))
              rw [drop_cons ho', mrg_gt (by omega), ← drop_cons ho'] at he
              exact ⟨pos, rfl, s1, hl, he, hp, ho⟩
          · have q1 : ¬ (pos : Int) < (ys.length : Int) := mt decide_eq_true q
            rw [hy.1] at q1
            have e0 : older.drop pos = [] := List.drop_eq_nil_of_le (by omega)
            rw [e0, mrg_nil2, ← e0] at he
            exact ⟨pos, rfl, s1, hl, he, hp, ho⟩
        · clear hl he hp ho s1
          rintro σ H3 ⟨pos, rfl, s1, hl, he, hp, ho⟩
          refine ⟨_, rfl, .inl ⟨rfl, _, SqL.of hl⟩, _, rfl, l, _, _, rfl, rfl, hl, small_e5 (by rw [hz.1]; omega), ?_⟩
          refine ⟨pos, _, zs ++ [.ref ae], out ++ [en], rfl, Same.upd s1 nl, upd_same, hz.snoc ⟨ae, rfl, hae⟩, ?_, hp, by rw [List.length_append, List.length_singleton]; omega⟩
          rw [← he, List.append_assoc]
          rfl
    · rintro σ H' ⟨pos, ve, zs, out, rfl, s1, hl, hz, he, hp, ho⟩
      rw [hx.1, List.drop_length, mrg_nil] at he
      -- return entries + older[position:]
      refine ⟨_, rfl, _, rfl, _, rfl, _, rfl, b, ys, rfl, SqL.of (s1 _ _ hb), fun p2 np2 => ?_⟩
      rw [cutV_drop]
      refine ⟨l, p2, zs, ys.drop pos, rfl, rfl, ?_, upd_same, ?_, fun p3 np3 => ?_⟩
      · rw [upd_ne (ne_of_none hl np2)]
        exact hl
      · rw [hz.1, List.length_drop, hy.1]
        exact Nat.le_of_lt (small_e5 (by rw [hx.1] at ho; omega))
      · refine k _ p3 (zs ++ ys.drop pos) ((s1.trans (Same.new np2)).trans (Same.new np3)) (s1.free (upd_none np3).2) upd_same ?_
        rw [← he]
        exact hz.append (hy.drop pos)
end
end Fw
namespace Fw
open PySem L2
abbrev sStI : Stmt := inClass (top 24) 0
abbrev sPut : Stmt := inClass (top 24) 1
abbrev sRem : Stmt := inClass (top 24) 2
abbrev sWri : Stmt := inClass (top 24) 3
abbrev sFlu : Stmt := inClass (top 24) 4
abbrev sGet : Stmt := inClass (top 24) 5
abbrev sCon : Stmt := inClass (top 24) 6
abbrev sBet : Stmt := inClass (top 24) 7
structure SC (K : PySem.W.Frag) (C : Addr) : Prop where
  cl : Cls K C
  nM : NoAttr K C "moves"
  nE : NoAttr K C "edits"
  nC : NoAttr K C "capacity"
  nR : NoAttr K C "error"
  nB : NoAttr K C "_buffer"
  nU : NoAttr K C "_runs"
def sfs (mv ed cap er : Int) (lb lr : Addr) : List (Str × V) := [("moves", .int mv), ("edits", .int ed), ("capacity", .int cap), ("error", .int er), ("_buffer", .ref lb), ("_runs", .ref lr)]
def RnV (CR CI CL : Addr) (I : Hp) (v : V) (r : Option (List En)) : Prop := match r with
  | none => v = .non
  | some es => ∃ a, v = .ref a ∧ RunV CR CI CL I a es
theorem RnV.mono {CR CI CL : Addr} {I I' : Hp} {v : V} {r : Option (List En)} (s : Same I I') (h : RnV CR CI CL I v r) : RnV CR CI CL I' v r := by
  cases r with
  | none => exact h
  | some es =>
    obtain ⟨a, e, h⟩ := h
    exact ⟨a, e, h.mono s⟩
theorem ens_mono {I I' : Hp} {us : List V} {es : List En} (s : Same I I') (h : All2 (EnV I) us es) : All2 (EnV I') us es := h.mono fun _ _ q => q.mono (KT.of s)
theorem rns_mono {CR CI CL : Addr} {I I' : Hp} {us : List V} {rs : List (Option (List En))} (s : Same I I') (h : All2 (RnV CR CI CL I) us rs) : All2 (RnV CR CI CL I') us rs := h.mono fun _ _ q => q.mono s
def StV (CS CR CI CL : Addr) (M : List Addr) (H : Hp) (p lr : Addr) (cap er ed : Int) (buf : List En) (runs : List (Option (List En))) : Prop :=
  ∃ (dx : Addr) (mv : Int) (lb : Addr) (us rs : List V), p ∈ M ∧ lr ∈ M ∧ H p = some (.ins CS dx (sfs mv ed cap er lb lr)) ∧ H lr = some (.lst rs) ∧ hid H M lb = some (.lst us) ∧ All2 (EnV (hid H M)) us buf ∧ All2 (RnV CR CI CL (hid H M)) rs runs
theorem StV.kp {CS CR CI CL : Addr} {M S : List Addr} {H H' : Hp} {p lr : Addr} {cap er ed : Int} {buf : List En} {runs : List (Option (List En))} (k : Kp S H H') (hs : ∀ b ∈ S, b ∈ M) (n1 : p ∉ S) (n2 : lr ∉ S)
    (h : StV CS CR CI CL M H p lr cap er ed buf runs) : StV CS CR CI CL M H' p lr cap er ed buf runs := by
  obtain ⟨dx, mv, lb, us, rs, m1, m2, h1, h2, h3, h4, h5⟩ := h
  have s := hid_kp k hs
  exact ⟨dx, mv, lb, us, rs, m1, m2, k.at h1 n1, k.at h2 n2, s _ _ h3, ens_mono s h4, rns_mono s h5⟩
theorem StV.same {CS CR CI CL : Addr} {M : List Addr} {H H' : Hp} {p lr : Addr} {cap er ed : Int} {buf : List En} {runs : List (Option (List En))} (k : Same H H')
    (h : StV CS CR CI CL M H p lr cap er ed buf runs) : StV CS CR CI CL M H' p lr cap er ed buf runs := h.kp (S := []) (Kp.of k) (by simp) (by simp) (by simp)
/-- the store within a flush -/
structure FlS (CS CR CI CL : Addr) (M : List Addr) (H H' : Hp) (p lr dx : Addr) (cap er ed : Int) (lb0 le : Addr) (rm : List (Option (List En))) (E : List En) : Prop where
  kp : Kp [p, lr] H H'
  ob : ∃ mv, H' p = some (.ins CS dx (sfs mv ed cap er lb0 lr))
  bf : hid H' M lb0 = some (.lst [])
  rn : ∃ rs, H' lr = some (.lst rs) ∧ All2 (RnV CR CI CL (hid H' M)) rs rm
  en : ∃ us, hid H' M le = some (.lst us) ∧ All2 (EnV (hid H' M)) us E
theorem FlS.same {CS CR CI CL : Addr} {M : List Addr} {H H' H2 : Hp} {p lr dx : Addr} {cap er ed : Int} {lb0 le : Addr} {rm : List (Option (List En))} {E : List En} (k : Same H' H2) (h : FlS CS CR CI CL M H H' p lr dx cap er ed lb0 le rm E) :
    FlS CS CR CI CL M H H2 p lr dx cap er ed lb0 le rm E := by
  obtain ⟨h1, ⟨mv, h2⟩, h3, ⟨rs, h4, h5⟩, ⟨us, h6, h7⟩⟩ := h
  have s : Same (hid H' M) (hid H2 M) := hid_kp (Kp.of (S := []) k) (by simp)
  exact ⟨h1.trans (Kp.of k), ⟨mv, k _ _ h2⟩, s _ _ h3, ⟨rs, k _ _ h4, rns_mono s h5⟩, ⟨us, s _ _ h6, ens_mono s h7⟩⟩
theorem FlS.setP {CS CR CI CL : Addr} {M : List Addr} {H H' : Hp} {p lr dx : Addr} {cap er ed mv' : Int} {lb0 le : Addr} {rm : List (Option (List En))} {E : List En} (hp : p ∈ M) (hne : lr ≠ p) (h : FlS CS CR CI CL M H H' p lr dx cap er ed lb0 le rm E) :
    FlS CS CR CI CL M H (upd H' p (.ins CS dx (sfs mv' ed cap er lb0 lr))) p lr dx cap er ed lb0 le rm E := by
  obtain ⟨h1, ⟨mv, h2⟩, h3, ⟨rs, h4, h5⟩, ⟨us, h6, h7⟩⟩ := h
  have k : Kp [p] H' (upd H' p (.ins CS dx (sfs mv' ed cap er lb0 lr))) := (Kp.refl _ _).upd (.inl (List.mem_singleton.mpr rfl))
  have s : Same (hid H' M) (hid (upd H' p (.ins CS dx (sfs mv' ed cap er lb0 lr))) M) := hid_kp k (by simp; exact hp)
  exact ⟨h1.upd (.inl (by simp)), ⟨mv', upd_same⟩, s _ _ h3, ⟨rs, by rw [upd_ne hne]; exact h4, rns_mono s h5⟩, ⟨us, s _ _ h6, ens_mono s h7⟩⟩
theorem FlS.setR {CS CR CI CL : Addr} {M : List Addr} {H H' : Hp} {p lr dx : Addr} {cap er ed : Int} {lb0 le : Addr} {rm rm' : List (Option (List En))} {E : List En} {rs' : List V} (hl : lr ∈ M) (hne : lr ≠ p)
    (h : FlS CS CR CI CL M H H' p lr dx cap er ed lb0 le rm E) (h' : All2 (RnV CR CI CL (hid H' M)) rs' rm') : FlS CS CR CI CL M H (upd H' lr (.lst rs')) p lr dx cap er ed lb0 le rm' E := by
  obtain ⟨h1, ⟨mv, h2⟩, h3, ⟨rs, h4, h5⟩, ⟨us, h6, h7⟩⟩ := h
  have k : Kp [lr] H' (upd H' lr (.lst rs')) := (Kp.refl _ _).upd (.inl (List.mem_singleton.mpr rfl))
  have s : Same (hid H' M) (hid (upd H' lr (.lst rs')) M) := hid_kp k (by simp; exact hl)
  exact ⟨h1.upd (.inl (by simp)), ⟨mv, by rw [upd_ne hne.symm]; exact h2⟩, s _ _ h3, ⟨rs', upd_same, rns_mono s h'⟩, ⟨us, s _ _ h6, ens_mono s h7⟩⟩
theorem rep_set {α : Type} (n : Nat) (x y : α) (r : List α) (z : α) : (List.replicate n z ++ x :: r).set n y = List.replicate n z ++ y :: r := by
  rw [List.set_append_right _ _ (by simp), List.length_replicate, Nat.sub_self]
  rfl
theorem rep_snoc {α : Type} (n : Nat) (z : α) (r : List α) : List.replicate n z ++ z :: r = List.replicate (n + 1) z ++ r := by
  rw [List.replicate_succ', List.append_assoc]
  rfl
theorem rep_get {α : Type} (n : Nat) (x z : α) (r : List α) : (List.replicate n z ++ x :: r)[n]? = some x := by
  rw [List.getElem?_append_right (by simp), List.length_replicate, Nat.sub_self]
  rfl
section
variable {P : Program} {w : World} {K : PySem.W.Frag} {mg : Str → Option Value} {base : Heap}
/-! ### a new store -/
def spStI (C : Addr) : Sp := fun vs H Q _ => ∃ (p dx : Addr) (cap er : Int), vs = [.ref p, .int cap, .int er] ∧ H p = some (.ins C dx []) ∧
  ∀ (H' : Hp) (lb lr : Addr), Kp [p] H H' → H lb = none → H lr = none → lb ≠ lr → H' p = some (.ins C dx (sfs 0 0 cap er lb lr)) → H' lb = some (.lst []) → H' lr = some (.lst []) → Q .non H'
theorem scStI : FnScope ["self", "capacity", "error"] ["self", "capacity", "error"] (defScope sStI) := ⟨rfl, rfl, rfl, by decide +kernel, rfl, by decide +kernel, by decide +kernel⟩
theorem ok_sti {f C : Addr} {fd : FuncData} (F : Fun K "__init__" "Store.__init__" sStI f fd) (T : SC K C) : FnOk P w K mg base CX0 1 f fd ["self", "capacity", "error"] (spStI C) := by
  refine F.ok scStI (fun vs H Q E h => ?_) (fun cdv A outer s H vs Q E hr h => ?_)
  · obtain ⟨p, dx, cap, er, rfl, _⟩ := h
    rfl
  · obtain ⟨p, dx, cap, er, rfl, hp, k⟩ := h
    refine ⟨_, pss_cons (ps_fld (pv 0) pe_int rfl) (pss_cons (ps_fld (pv 0) pe_int rfl) (pss_cons (ps_fld (pv 0) (pv 1) rfl) (pss_cons (ps_fld (pv 0) (pv 2) rfl)
      (pss_cons (ps_fld (pv 0) (pe_lst pa_nil) rfl) (pss_one (ps_fld (pv 0) (pe_lst pa_nil) rfl)))))), ?_⟩
    refine ⟨_, rfl, p, C, dx, _, rfl, hp, T.cl, T.nM, (by show 0 < 1000; decide), ?_⟩
    refine ⟨_, rfl, p, C, dx, _, rfl, upd_same, T.cl, T.nE, (by show 1 < 1000; decide), ?_⟩
    refine ⟨_, rfl, _, rfl, p, C, dx, _, rfl, upd_same, T.cl, T.nC, (by show 2 < 1000; decide), ?_⟩
    refine ⟨_, rfl, _, rfl, p, C, dx, _, rfl, upd_same, T.cl, T.nR, (by show 3 < 1000; decide), ?_⟩
    rw [upd_upd, upd_upd, upd_upd]
    refine ⟨Nat.zero_le _, fun lb nlb => ?_⟩
    obtain ⟨n1, m1⟩ := upd_none nlb
    refine ⟨_, rfl, p, C, dx, _, rfl, Eq.trans (upd_ne n1.symm) upd_same, T.cl, T.nB, (by show 4 < 1000; decide), ?_⟩
    refine ⟨Nat.zero_le _, fun lr nlr => ?_⟩
    obtain ⟨n2, nlr⟩ := upd_none nlr
    obtain ⟨n3, nlr⟩ := upd_none nlr
    obtain ⟨_, m2⟩ := upd_none nlr
    refine ⟨_, rfl, p, C, dx, _, rfl, Eq.trans (upd_ne n2.symm) upd_same, T.cl, T.nU, (by show 5 < 1000; decide), ?_⟩
    refine k _ lb lr ?_ m1 m2 n3.symm upd_same ?_ ?_
    · refine Kp.upd (Kp.upd (Kp.upd (Kp.upd (Kp.upd (Kp.refl _ _) ?_) ?_) ?_) ?_) ?_
      all_goals first | exact .inl (List.mem_singleton.mpr rfl) | exact .inr (by assumption)
    · rw [upd_ne n1, upd_ne n3.symm, upd_ne n1, upd_same]
    · rw [upd_ne n2, upd_same]
/-! ### flush -/
def spFlu (CS CR CI CL : Addr) : Sp := fun vs H Q _ => ∃ (M : List Addr) (p lr : Addr) (cap er ed : Int) (buf : List En) (runs : List (Option (List En))) (A B : Nat), vs = [.ref p] ∧ Live M H ∧ StV CS CR CI CL M H p lr cap er ed buf runs ∧ StOkS2 buf runs A B ∧
  A ≤ 900 ∧ B ≤ 900 ∧ 0 ≤ er ∧ er ≤ 1000000 ∧
  ∀ (H' : Hp) (buf' : List En) (runs' : List (Option (List En))), Kp [p, lr] H H' → StV CS CR CI CL M H' p lr cap er ed buf' runs' → StOkS2 buf' runs' A (B + 1) → (∀ k, valS k buf' runs' = valS k buf runs) → Q .non H'
abbrev nFlu : List Str := ["self", "entries", "level", "older", "run", "entry"]
theorem scFlu : FnScope nFlu ["self"] (defScope sFlu) := ⟨rfl, rfl, rfl, by decide +kernel, rfl, by decide +kernel, by decide +kernel⟩
theorem ok_flu {f CS CR CI CL : Addr} {fd : FuncData} (F : Fun K "flush" "Store.flush" sFlu f fd) (T : SC K CS) (TR : RC K CR) (GM : FnG P w K mg base 1 "merged" ["newer", "older"] spMrg) (GR : ClG P w K mg base 9 "Run" CR ["self", "entries", "error"] (spRunI CR CI CL))
    (mL : mg "len" = none) (mA : mg "any" = none) : FnOk P w K mg base CX0 11 f fd ["self"] (spFlu CS CR CI CL) := by
  refine F.ok scFlu (fun vs H Q E h => ?_) (fun cdv A0 outer s H vs Q E hr h => ?_)
  · obtain ⟨M, p, lr, cap, er, ed, buf, runs, A, B, rfl, _⟩ := h
    rfl
  · obtain ⟨M, p, lr, cap, er, ed, buf, runs, A, B, rfl, hM, hV, hO, hA, hB, er0, er1, k⟩ := h
    obtain ⟨dx, mv, lb, us, rs, pM, lM, hp, hlr, hlb, hus, hrs⟩ := hV
    have hr1 : Room 1 _ := hr.mono (by decide)
    refine ⟨_, pss_cons (ps_set (i := 1) scFlu.nd rfl (.inl rfl) (pe_fld (pv 0) rfl)) (pss_cons (ps_fld (pv 0) (pe_lst pa_nil) rfl)
      (pss_cons (ps_fldaug (pv 0) (pe_callB call_len_seq (by rfl) mL PySem.boot_len (pa_cons (pv 1) pa_nil)) in_add) (pss_cons (ps_set (i := 2) scFlu.nd rfl (.inl rfl) pe_int)
      (Evl.pss_cut (ps_while PassesOwn.never (PW.pt (pw_and (pt_cmpR op_lt (pv 2) (pe_callB call_len_seq (by rfl) mL PySem.boot_len (pa_cons (pe_fld (pv 0) rfl) pa_nil)) (nomark _))
          (pw_and1 (pt_cmpR op_notN (pe_ix ix_list (pe_fld (pv 0) rfl) (pv 2) (fun _ _ => rfl)) pe_non (nomark _)))))
        (pss_cons (ps_set (i := 3) scFlu.nd rfl (.inl rfl) (pe_fld (pe_ix ix_list (pe_fld (pv 0) rfl) (pv 2) (fun _ _ => rfl)) rfl))
        (pss_cons (ps_fldaug (pv 0) (pe_callB call_len_seq (by rfl) mL PySem.boot_len (pa_cons (pv 3) pa_nil)) in_add)
        (pss_cons (ps_set (i := 1) scFlu.nd rfl (.inl rfl) (pe_callG GM hr1 (by rfl) (pa_cons (pv 1) (pa_cons (pv 3) pa_nil))))
        (pss_cons (ps_asg pe_non (pg_sub (pe_fld (pv 0) rfl) (pv 2) set_list))
        (pss_one (ps_aug (i := 2) scFlu.nd rfl (.inl rfl) pe_int ip_add)))))))
      (Evl.pss_cut (ps_if (pt_not (pt_val (pe_callB (cr_any rfl) (by rfl) mA (by decide +kernel) (pa_cons
          (pe_lc (own := [("run", 4)]) (g := gName 4) (tt := tYes) (te := tOp (fun x y H Q => y = .non ∧ Q (.bl (!decide (x = .non))) H) (tVar 4) (tC .non)) rfl scFlu.nd (pi_list (pe_slice sl_list (pe_fld (pv 0) rfl) (po_some (pv 2)) po_none))
            (blkOk_by (N := nFlu) (sc := defScope sFlu) (own := [("run", 4)]) (by decide +kernel)) (fun _ _ _ _ _ => pg_name (i := 4) scFlu.nd rfl (.inl rfl)) (fun _ _ _ _ _ => pts_nil) (fun _ _ _ _ _ => pe_cmpR op_notN (pv 4) pe_non (nomark _))) pa_nil))))
          (pss_one (ps_setLc (i := 1) (own := [("entry", 5)]) (g := gName 5) (tt := tTest (tOp (fun x y H Q => y = .non ∧ Q (.bl (!decide (x = .non))) H) (tOp (rIxT K) (tVar 5) (tC (.int 1))) (tC .non))) (te := tVar 5) rfl scFlu.nd rfl rfl
            (sw_true rfl rfl rfl (by decide +kernel)) (pi_list (pv 1)) (blkOk_by (N := nFlu) (sc := defScope sFlu) (own := [("entry", 5)]) (by decide +kernel)) (fun _ _ _ _ _ => pg_name (i := 5) scFlu.nd rfl (.inl rfl))
            (fun _ _ _ _ _ => pts_one (pt_cmpR op_notN (pe_ix ix_tup (pv 5) pe_int (fun _ _ => rfl)) pe_non (nomark _))) (fun _ _ _ _ _ => pv 5))) pss_nil)
      (Evl.pss_cut (ps_if (pt_cmpR op_eq (pv 2) (pe_callB call_len_seq (by rfl) mL PySem.boot_len (pa_cons (pe_fld (pv 0) rfl) pa_nil)) (nomark _))
          (pss_one (ps_expr (pe_bm PySem.F.plainAttrs_list PySem.F.slot_list_append PySem.F.type_list_append mt_append (pe_fld (pv 0) rfl) (pa_cons pe_non pa_nil)))) pss_nil)
      (pss_one (ps_if (pt_truth (pv 1) (by intro _; rfl))
          (pss_one (ps_asg (pe_makeG GR hr (by rfl) (pa_cons (pv 1) (pa_cons (pe_fld (pv 0) rfl) pa_nil))) (pg_sub (pe_fld (pv 0) rfl) (pv 2) set_list))) pss_nil)))))))), ?_⟩
    have hne : lr ≠ p := ne_of hlr hp (by intro q; cases q)
    obtain ⟨hlb1, lbM⟩ := hid_some hlb
    -- entries = self._buffer; self._buffer = []
    refine ⟨_, rfl, p, CS, dx, _, _, rfl, hp, T.cl, T.nB, rfl, ?_⟩
    refine ⟨Nat.zero_le _, fun lb0 n0 => ?_⟩
    have np0 : p ≠ lb0 := ne_of_none hp n0
    refine ⟨_, rfl, p, CS, dx, _, rfl, Eq.trans (upd_ne np0) hp, T.cl, T.nB, (by show 6 < 1000; decide), ?_⟩
    have e1 : putF "_buffer" (V.ref lb0) (sfs mv ed cap er lb lr) = sfs mv ed cap er lb0 lr := rfl
    rw [e1]
    have F1 : FlS CS CR CI CL M H (upd (upd H lb0 (.lst [])) p (.ins CS dx (sfs mv ed cap er lb0 lr))) p lr dx cap er ed lb0 lb runs buf := by
      have kq : Kp [p] H (upd (upd H lb0 (.lst [])) p (.ins CS dx (sfs mv ed cap er lb0 lr))) := ((Kp.refl _ _).upd (.inr n0)).upd (.inl (List.mem_singleton.mpr rfl))
      have s : Same (hid H M) (hid (upd (upd H lb0 (.lst [])) p (.ins CS dx (sfs mv ed cap er lb0 lr))) M) := hid_kp kq (by simp; exact pM)
      exact ⟨kq.mono (by simp), ⟨mv, upd_same⟩, hid_mk (by rw [upd_ne np0.symm, upd_same]) (hM.not n0), ⟨rs, kq.at hlr (by simp; exact hne), rns_mono s hrs⟩, ⟨us, s _ _ hlb, ens_mono s hus⟩⟩
    generalize upd (upd H lb0 (.lst [])) p (.ins CS dx (sfs mv ed cap er lb0 lr)) = H1 at F1 ⊢
    -- self.moves += len(entries)
    obtain ⟨mv1, hp1⟩ := F1.ob
    obtain ⟨us1, hle1, _⟩ := F1.en
    refine ⟨_, rfl, p, CS, dx, _, _, rfl, hp1, T.cl, T.nM, rfl, _, rfl, lb, _, rfl, .inl (SqL.of (hid_some hle1).1), _, _, rfl, rfl, dx, _, hp1, (by show 6 < 1000; decide), ?_⟩
    have F2 := F1.setP (mv' := mv1 + (us1.length : Nat)) pM hne
    have e2 : putF "moves" (V.int (mv1 + (us1.length : Nat))) (sfs mv1 ed cap er lb0 lr) = sfs (mv1 + (us1.length : Nat)) ed cap er lb0 lr := rfl
    rw [e2]
    generalize upd H1 p (.ins CS dx (sfs (mv1 + (us1.length : Nat)) ed cap er lb0 lr)) = H2 at F2 ⊢
    clear F1 hp1 hle1
    have hsz := hO.size
    have hrl := hO.len
    -- the loop
    refine ⟨fun σ H' => ∃ (le : Addr) (ss : List (List En)) (rest : List (Option (List En))) (vo : Option V), σ = [some (.ref p), some (.ref le), some (.int (ss.length : Nat)), vo, none, none] ∧ runs = ss.map some ++ rest ∧ RestOk rest ∧
      FlS CS CR CI CL M H H' p lr dx cap er ed lb0 le (List.replicate ss.length none ++ rest) (ss.foldl mrg buf), ?_, ?_⟩
    · refine ⟨fun m σ H' => ∃ (le : Addr) (ss : List (List En)) (rest : List (Option (List En))) (vo : Option V), σ = [some (.ref p), some (.ref le), some (.int (ss.length : Nat)), vo, none, none] ∧ runs = ss.map some ++ rest ∧
        FlS CS CR CI CL M H H' p lr dx cap er ed lb0 le (List.replicate ss.length none ++ rest) (ss.foldl mrg buf) ∧ m = rest.length, ⟨_, lb, [], runs, none, rfl, rfl, F2, rfl⟩, ?_⟩
      clear F2
      rintro m σ H3 ⟨le, ss, rest, vo, rfl, hruns, F3, rfl⟩
      obtain ⟨mv3, hp3⟩ := F3.ob
      obtain ⟨rs3, hlr3, hrs3⟩ := F3.rn
      obtain ⟨us3, hle3, hus3⟩ := F3.en
      have rl : rs3.length = ss.length + rest.length := by rw [hrs3.1, List.length_append, List.length_replicate]
      refine ⟨_, rfl, _, rfl, p, CS, dx, _, _, rfl, hp3, T.cl, T.nU, rfl, lr, _, rfl, .inl (SqL.of hlr3), _, _, rfl, rfl, _, rfl, ite2 (fun q => ?_) (fun q => ?_)⟩
      · have q1 : ((ss.length : Nat) : Int) < (rs3.length : Int) := of_decide_eq_true q
        cases rest with
        | nil => rw [rl] at q1; simp at q1
        | cons r0 rt =>
          obtain ⟨v, hv, hrv⟩ := hrs3.right (rep_get ss.length r0 none rt)
          refine ⟨_, rfl, p, CS, dx, _, _, rfl, hp3, T.cl, T.nU, rfl, _, rfl, lr, _, _, _, rfl, rfl, SqL.of hlr3, atI_nat hv, rfl, _, rfl, ?_⟩
          cases r0 with
          | none =>
            have e : v = .non := hrv
            subst e
            refine iteNS rfl ?_
            exact ⟨le, ss, none :: rt, vo, rfl, hruns, .inr ⟨rt, rfl⟩, F3⟩
          | some es =>
            obtain ⟨ra, rfl, hra⟩ := hrv
            have nd : (!decide (V.ref ra = V.non)) = true := by rw [decide_eq_false (by intro q; cases q)]; rfl
            rw [nd]
            refine iteT ⟨_, fun σ' H' y => y, ?_⟩
            obtain ⟨dr, ll, ix, vs3, Ls, g1, g2, g3, g4, g5⟩ := id hra
            obtain ⟨g1', _⟩ := hid_some g1
            obtain ⟨g2', _⟩ := hid_some g2
            have hes := hO.sr es (by rw [hruns]; simp)
            -- older = self._runs[level].entries
            refine ⟨_, rfl, p, CS, dx, _, _, rfl, hp3, T.cl, T.nU, rfl, _, rfl, lr, _, _, _, rfl, rfl, SqL.of hlr3, atI_nat hv, ra, CR, dr, _, _, rfl, g1', TR.cl, TR.nE, rfl, ?_⟩
            -- self.moves += len(older)
            refine ⟨_, rfl, p, CS, dx, _, _, rfl, hp3, T.cl, T.nM, rfl, _, rfl, ll, _, rfl, .inl (SqL.of g2'), _, _, rfl, rfl, dx, _, hp3, (by show 6 < 1000; decide), ?_⟩
            have F4 := F3.setP (mv' := mv3 + (vs3.length : Nat)) pM hne
            have e4 : putF "moves" (V.int (mv3 + (vs3.length : Nat))) (sfs mv3 ed cap er lb0 lr) = sfs (mv3 + (vs3.length : Nat)) ed cap er lb0 lr := rfl
            rw [e4]
            have k4 : Kp [p] H3 (upd H3 p (.ins CS dx (sfs (mv3 + (vs3.length : Nat)) ed cap er lb0 lr))) := (Kp.refl _ _).upd (.inl (List.mem_singleton.mpr rfl))
            have s4 : Same (hid H3 M) (hid (upd H3 p (.ins CS dx (sfs (mv3 + (vs3.length : Nat)) ed cap er lb0 lr))) M) := hid_kp k4 (by simp; exact pM)
            have g24 := s4 _ _ g2
            have g34 := ens_mono s4 g3
            generalize upd H3 p (.ins CS dx (sfs (mv3 + (vs3.length : Nat)) ed cap er lb0 lr)) = H4 at F4 k4 s4 g24 g34 ⊢
            obtain ⟨us4, hle4, hus4⟩ := F4.en
            -- entries = merged(entries, older)
            have szE : (ss.foldl mrg buf).length + es.length ≤ A := by
              have h1 := mrgs_len ss buf
              unfold sizeS at hsz
              rw [hruns, List.map_append, List.sum_append, sum_somes] at hsz
              have : ((some es :: rt).map runLen).sum = es.length + (rt.map runLen).sum := rfl
              omega
            refine ⟨_, rfl, _, rfl, hid H4 M, le, ll, us4, vs3, ss.foldl mrg buf, es, rfl, (hid_some hle4).1, (hid_some g24).1, hid_same _ _, hus4, g34, by omega, fun H5 lm zs r5 nlm hlm hzs => ?_⟩
            have F5 := F4.same r5
            have s5 : Same (hid H4 M) (hid H5 M) := hid_kp (Kp.of (S := []) r5) (by simp)
            have hM5 : Live M H4 := hM.kp F4.kp
            have F5' : FlS CS CR CI CL M H H5 p lr dx cap er ed lb0 lm (List.replicate ss.length none ++ some es :: rt) (mrg (ss.foldl mrg buf) es) :=
              ⟨F5.kp, F5.ob, F5.bf, F5.rn, ⟨zs, hid_mk hlm (hM5.not nlm), ens_mono s5 hzs⟩⟩
            obtain ⟨mv5, hp5⟩ := F5'.ob
            obtain ⟨rs5, hlr5, hrs5⟩ := F5'.rn
            -- self._runs[level] = None
            refine ⟨_, rfl, p, CS, dx, _, _, rfl, hp5, T.cl, T.nU, rfl, _, rfl, lr, _, _, ss.length, rfl, rfl, hlr5, Evl.ixN_nat (by rw [hrs5.1, List.length_append, List.length_replicate]; simp), ?_⟩
            have h5 := hrs5.set ss.length (x := V.non) (y := (none : Option (List En))) rfl
            rw [rep_set, rep_snoc] at h5
            have F6 := F5'.setR lM hne h5
            -- level += 1
            refine ⟨_, rfl, _, _, rfl, rfl, ?_⟩
            refine ⟨rt.length, Nat.lt_succ_self _, lm, ss ++ [es], rt, some (.ref ll), ?_, ?_, ?_, rfl⟩
            · rw [List.length_append, List.length_singleton]
              rfl
            · rw [hruns, List.map_append, List.append_assoc]
              rfl
            · rw [List.length_append, List.length_singleton, List.foldl_append]
              exact F6
      · have q1 : ¬ ((ss.length : Nat) : Int) < (rs3.length : Int) := mt decide_eq_true q
        have r0 : rest = [] := List.length_eq_zero_iff.mp (by omega)
        subst r0
        exact ⟨le, ss, [], vo, rfl, hruns, .inl rfl, F3⟩
    · clear F2
      rintro σ H3 ⟨le, ss, rest, vo, rfl, hruns, hrest, F3⟩
      have szE : (ss.foldl mrg buf).length ≤ A := by
        have h1 := mrgs_len ss buf
        unfold sizeS at hsz
        rw [hruns, List.map_append, List.sum_append, sum_somes] at hsz
        omega
      have hsr : ss.length + rest.length ≤ B := by
        rw [hruns, List.length_append, List.length_map] at hrl
        exact hrl
      -- the entries that are kept
      refine ⟨fun σ H' => ∃ (le : Addr), σ = [some (.ref p), some (.ref le), some (.int (ss.length : Nat)), vo, none, none] ∧ FlS CS CR CI CL M H H' p lr dx cap er ed lb0 le (List.replicate ss.length none ++ rest) (keepE rest (ss.foldl mrg buf)), ?_, ?_⟩
      · obtain ⟨mv3, hp3⟩ := F3.ob
        obtain ⟨rs3, hlr3, hrs3⟩ := F3.rn
        refine ⟨_, rfl, p, CS, dx, _, _, rfl, hp3, T.cl, T.nU, rfl, _, rfl, _, rfl, lr, rs3, rfl, SqL.of hlr3, fun sl nsl => ?_⟩
        rw [cutV_drop]
        have hd : All2 (RnV CR CI CL (hid H3 M)) (rs3.drop ss.length) rest := by
          have := hrs3.drop ss.length
          rw [show (List.replicate ss.length (none : Option (List En)) ++ rest).drop ss.length = rest by simp [List.drop_append]] at this
          exact this
        have r4 : Same H3 _ := Same.new (o := .lst (rs3.drop ss.length)) nsl
        have hsl : upd H3 sl (.lst (rs3.drop ss.length)) sl = some (.lst (rs3.drop ss.length)) := upd_same
        generalize upd H3 sl (.lst (rs3.drop ss.length)) = H4 at r4 hsl ⊢
        refine ⟨sl, rfl, ⟨_, SqL.of hsl⟩, fun D1 hD1 => lc_list (K := K) (a := sl) (xs := rs3.drop ss.length) (fun i H' => Same H4 H' ∧ H' D1 = some (.lst (((rest.map fun r => r.isSome).take i).map V.bl))) ⟨Same.new hD1, upd_same⟩
          (fun i H' _ ⟨s1, _⟩ => SqL.of (s1 _ _ hsl)) ?_ ?_⟩
        · rintro i v H5 hi ⟨s1, hD⟩
          obtain ⟨r, hr', hrv⟩ := hd.left hi
          have hil := (List.getElem?_eq_some_iff.mp hr').1
          refine ⟨rfl, ?_⟩
          refine ⟨_, rfl, rfl, _, hD, small1000 ?_, Same.upd s1 hD1, ?_⟩
          · rw [List.length_map, List.length_take, List.length_map]
            omega
          · rw [upd_same, take_snoc (x := r.isSome) (by rw [List.getElem?_map, hr']; rfl), List.map_append]
            have ev : (!decide (v = V.non)) = r.isSome := by
              cases r with
              | none =>
                have e : v = .non := hrv
                subst e
                rfl
              | some es =>
                obtain ⟨ra, rfl, _⟩ := hrv
                rw [decide_eq_false (by intro q; cases q)]
                rfl
            rw [ev]
            rfl
        · rintro H5 ⟨s1, hD⟩
          rw [show (rs3.drop ss.length).length = (rest.map fun r => r.isSome).length by rw [hd.1, List.length_map], List.take_length] at hD
          refine ⟨D1, _, rfl, SqL.of hD, _, rfl, ?_⟩
          have F5 := F3.same (r4.trans s1)
          have ea : ((rest.map fun r => r.isSome).any id) = rest.any fun r => r.isSome := by
            rw [List.any_map]
            rfl
          rw [ea]
          cases hany : rest.any fun r => r.isSome with
          | true =>
            refine iteF ?_
            have e : keepE rest (ss.foldl mrg buf) = ss.foldl mrg buf := by unfold keepE; rw [if_pos hany]
            rw [← e] at F5
            exact ⟨le, rfl, F5⟩
          | false =>
            refine iteT ?_
            have e : keepE rest (ss.foldl mrg buf) = live (ss.foldl mrg buf) := by unfold keepE; rw [hany]; rfl
            obtain ⟨us5, hle5, hus5⟩ := F5.en
            obtain ⟨hle5', _⟩ := hid_some hle5
            -- entries = [entry for entry in entries if entry[1] is not None]
            refine ⟨_, rfl, le, rfl, ⟨_, SqL.of hle5'⟩, fun D2 hD2 => lc_list (K := K) (a := le) (xs := us5) (fun i H' => Same H5 H' ∧ ∃ zs, H' D2 = some (.lst zs) ∧ All2 (EnV (hid H5 M)) zs (live ((ss.foldl mrg buf).take i))) ⟨Same.new hD2, [], upd_same, .nil⟩
              (fun i H' _ ⟨s1, _⟩ => SqL.of (s1 _ _ hle5')) ?_ ?_⟩
            · rintro i v H6 hi ⟨s6, zs, hzs, hal⟩
              obtain ⟨en, hen, ae, rfl, hae⟩ := hus5.left hi
              have hil := (List.getElem?_eq_some_iff.mp hen).1
              refine ⟨rfl, ?_⟩
              refine ⟨_, rfl, ae, _, _, _, rfl, rfl, SqT.of (s6 _ _ (hid_some hae).1), atI_nat (j := 1) rfl, rfl, _, rfl, ?_⟩
              have et : live ((ss.foldl mrg buf).take (i + 1)) = live ((ss.foldl mrg buf).take i) ++ (if en.2.isSome = true then [en] else []) := by
                rw [take_snoc hen]
                unfold live
                rw [List.filter_append]
                congr 1
                split <;> simp_all
              obtain ⟨e1, e2⟩ := en
              cases e2 with
              | none =>
                refine iteNS rfl ?_
                refine ⟨s6, zs, hzs, ?_⟩
                rw [et]
                simp only [Option.isSome_none, Bool.false_eq_true, if_false, List.append_nil]
                exact hal
              | some z =>
                have nd : (!decide (ov (some z) = V.non)) = true := by rw [decide_eq_false (by intro q; cases q)]; rfl
                rw [nd]
                refine iteT ?_
                refine ⟨_, rfl, zs, hzs, small1000 ?_, Same.upd s6 hD2, _, upd_same, ?_⟩
                · rw [hal.1]
                  have := live_len ((ss.foldl mrg buf).take i)
                  rw [List.length_take] at this
                  omega
                · rw [et]
                  exact hal.snoc ⟨ae, rfl, hae⟩
            · rintro H6 ⟨s6, zs, hzs, hal⟩
              rw [hus5.1, List.take_length, ← e] at hal
              have F6 := F5.same s6
              have s56 : Same (hid H5 M) (hid H6 M) := hid_kp (Kp.of (S := []) s6) (by simp)
              exact ⟨D2, rfl, F6.kp, F6.ob, F6.bf, F6.rn, ⟨zs, hid_mk hzs ((hM.kp F5.kp).not hD2), ens_mono s56 hal⟩⟩
      · clear F3
        rintro σ H4 ⟨le, rfl, F4⟩
        have kl := keepE_len rest (ss.foldl mrg buf)
        -- a place for the run
        refine ⟨fun σ H' => σ = [some (.ref p), some (.ref le), some (.int (ss.length : Nat)), vo, none, none] ∧ FlS CS CR CI CL M H H' p lr dx cap er ed lb0 le (List.replicate ss.length none ++ none :: rest.tail) (keepE rest (ss.foldl mrg buf)), ?_, ?_⟩
        · obtain ⟨mv4, hp4⟩ := F4.ob
          obtain ⟨rs4, hlr4, hrs4⟩ := F4.rn
          have rl : rs4.length = ss.length + rest.length := by rw [hrs4.1, List.length_append, List.length_replicate]
          refine ⟨_, rfl, _, rfl, p, CS, dx, _, _, rfl, hp4, T.cl, T.nU, rfl, lr, _, rfl, .inl (SqL.of hlr4), rfl, _, rfl, ite2 (fun q => ?_) (fun q => ?_)⟩
          · have q1 := V.int.inj (of_decide_eq_true q)
            have r0 : rest = [] := List.length_eq_zero_iff.mp (by omega)
            refine ⟨_, rfl, p, CS, dx, _, _, rfl, hp4, T.cl, T.nU, rfl, .inl ⟨rfl, _, SqL.of hlr4⟩, lr, _, _, rfl, rfl, hlr4, small1000 (by omega), rfl, ?_⟩
            have h5 := hrs4.snoc (x := V.non) (y := (none : Option (List En))) rfl
            subst r0
            rw [List.append_nil] at h5
            exact F4.setR lM hne h5
          · have r0 : rest ≠ [] := fun z => by
              subst z
              exact q (decide_eq_true (by rw [rl]; rfl))
            obtain ⟨t, rfl⟩ := hrest.resolve_left r0
            exact ⟨rfl, F4⟩
        · clear F4
          rintro σ H5 ⟨rfl, F5⟩
          obtain ⟨mv5, hp5⟩ := F5.ob
          obtain ⟨rs5, hlr5, hrs5⟩ := F5.rn
          obtain ⟨us5, hle5, hus5⟩ := F5.en
          rw [hruns] at hO k
          obtain ⟨ok', val'⟩ := flush_ok hO hrest
          -- if entries
          refine ⟨_, rfl, !us5.isEmpty, .inl ⟨us5, SqL.of (hid_some hle5).1, rfl⟩, ?_⟩
          cases hu : us5 with
          | nil =>
            refine iteF ?_
            have hE : keepE rest (ss.foldl mrg buf) = [] := (hus5.nil_iff).mp hu
            refine k H5 [] _ F5.kp ⟨dx, mv5, lb0, [], rs5, pM, lM, hp5, hlr5, F5.bf, .nil, ?_⟩ ok' val'
            unfold newRuns
            rw [hE]
            exact hrs5
          | cons u0 ur =>
            refine iteT ?_
            have hE : keepE rest (ss.foldl mrg buf) ≠ [] := fun z => by
              have := (hus5.nil_iff).mpr z
              rw [hu] at this
              cases this
            have hks : Srt (keepE rest (ss.foldl mrg buf)) ∧ KeysIn (keepE rest (ss.foldl mrg buf)) :=
              ⟨keepE_srt (mrgs_lk 0 ss buf hO.sb fun s hs => (hO.sr s (by simp [hs])).1).1, keepE_keys (mrgs_keys ss buf hO.kb fun s hs => (hO.sr s (by simp [hs])).2.2)⟩
            -- self._runs[level] = Run(entries, self.error)
            refine ⟨_, rfl, _, rfl, p, CS, dx, _, _, rfl, hp5, T.cl, T.nR, rfl, fun x dx1 nx ndx nex => ?_⟩
            have sx : Same H5 _ := (Same.new (o := .own x) ndx).trans (Same.new (o := .ins CR dx1 []) (by rw [upd_ne nex.symm]; exact nx))
            have hM5 := hM.kp F5.kp
            have sxh := hid_kp (M := M) (Kp.of (S := []) sx) (by simp)
            refine ⟨M, x, dx1, le, er, us5, keepE rest (ss.foldl mrg buf), rfl, upd_same, hM5.kp (Kp.of (S := []) sx), hM5.not nx, sxh _ _ hle5, ens_mono sxh hus5, keys_ok hks.1 hks.2 (by omega), er0, er1, fun H6 kp6 hrv => ⟨rfl, ?_⟩⟩
            have s6 : Same H5 H6 := made_same nx ndx kp6
            have F6 := F5.same s6
            obtain ⟨mv6, hp6⟩ := F6.ob
            obtain ⟨rs6, hlr6, hrs6⟩ := F6.rn
            refine ⟨_, rfl, p, CS, dx, _, _, rfl, hp6, T.cl, T.nU, rfl, _, rfl, lr, _, _, ss.length, rfl, rfl, hlr6, Evl.ixN_nat (by rw [hrs6.1, List.length_append, List.length_replicate]; simp), ?_⟩
            have h7 := hrs6.set ss.length (x := V.ref x) (y := some (keepE rest (ss.foldl mrg buf))) ⟨x, rfl, hrv⟩
            rw [rep_set] at h7
            have F7 := F6.setR lM hne h7
            obtain ⟨mv7, hp7⟩ := F7.ob
            obtain ⟨rs7, hlr7, hrs7⟩ := F7.rn
            refine k _ [] _ F7.kp ⟨dx, mv7, lb0, [], rs7, pM, lM, hp7, hlr7, F7.bf, .nil, ?_⟩ ok' val'
            unfold newRuns mkRun
            rw [if_neg hE]
            exact hrs7
end
end Fw
namespace Fw
open PySem L2
theorem sizeS_run {buf : List En} {runs : List (Option (List En))} {A B : Nat} (h : StOkS2 buf runs A B) : buf.length ≤ A ∧ ∀ es, some es ∈ runs → es.length ≤ A := by
  have hs := h.size
  unfold sizeS at hs
  refine ⟨by omega, fun es he => ?_⟩
  have : ∀ rs : List (Option (List En)), some es ∈ rs → es.length ≤ (rs.map runLen).sum := by
    intro rs
    induction rs with
    | nil => intro q; cases q
    | cons r rs ih =>
      intro q
      rw [List.map_cons, List.sum_cons]
      rcases List.mem_cons.mp q with e | q
      · rw [← e]
        show es.length ≤ es.length + _
        omega
      · have := ih q
        omega
  have := this runs he
  omega
section
variable {P : Program} {w : World} {K : PySem.W.Frag} {mg : Str → Option Value} {base : Heap}
/-! ### write -/
def spWri (CS CR CI CL : Addr) : Sp := fun vs H Q _ => ∃ (M : List Addr) (p lr : Addr) (cap er ed : Int) (buf : List En) (runs : List (Option (List En))) (A B : Nat) (a : Addr) (x : Int) (c : Option Int), vs = [.ref p, .ref a] ∧ Live M H ∧ StV CS CR CI CL M H p lr cap er ed buf runs ∧
  StOkS2 buf runs A B ∧ hid H M a = some (.tup [.int x, ov c]) ∧ -268435456 ≤ x ∧ x ≤ 268435456 ∧ A ≤ 800 ∧ B ≤ 800 ∧ 0 ≤ er ∧ er ≤ 1000000 ∧
  ∀ (H' : Hp) (buf' : List En) (runs' : List (Option (List En))), Kp [p, lr] H H' → StV CS CR CI CL M H' p lr cap er (ed + 1) buf' runs' → StOkS2 buf' runs' (A + 1) (B + 1) → (∀ k, valS k buf' runs' = if k = x then c else valS k buf runs) → Q .non H'
theorem scWri : FnScope ["self", "entry"] ["self", "entry"] (defScope sWri) := ⟨rfl, rfl, rfl, by decide +kernel, rfl, by decide +kernel, by decide +kernel⟩
theorem ok_wri {f CS CR CI CL : Addr} {fd : FuncData} (F : Fun K "write" "Store.write" sWri f fd) (T : SC K CS) (GM : FnG P w K mg base 1 "merged" ["newer", "older"] spMrg) (GF : MeG P w K mg base 11 CS "flush" ["self"] (spFlu CS CR CI CL)) (mL : mg "len" = none) :
    FnOk P w K mg base CX0 12 f fd ["self", "entry"] (spWri CS CR CI CL) := by
  obtain ⟨ff, fdf, mf, Ff, bf⟩ := GF
  refine F.ok scWri (fun vs H Q E h => ?_) (fun cdv A0 outer s H vs Q E hr h => ?_)
  · obtain ⟨M, p, lr, cap, er, ed, buf, runs, A, B, a, x, c, rfl, _⟩ := h
    rfl
  · obtain ⟨M, p, lr, cap, er, ed, buf, runs, A, B, a, x, c, rfl, hM, hV, hO, ha, x0, x1, hA, hB, er0, er1, k⟩ := h
    obtain ⟨dx, mv, lb, us, rs, pM, lM, hp, hlr, hlb, hus, hrs⟩ := hV
    have hr1 : Room 1 _ := hr.mono (by decide)
    have hne : lr ≠ p := ne_of hlr hp (by intro q; cases q)
    refine ⟨_, pss_cons (ps_fldaug (pv 0) pe_int in_add) (pss_cons (ps_fld (pv 0) (pe_callG GM hr1 (by rfl) (pa_cons (pe_lst (pa_cons (pv 1) pa_nil)) (pa_cons (pe_fld (pv 0) rfl) pa_nil))) rfl)
      (pss_one (ps_if (pt_cmpR op_ge (pe_callB call_len_seq (by rfl) mL PySem.boot_len (pa_cons (pe_fld (pv 0) rfl) pa_nil)) (pe_fld (pv 0) rfl) (nomark _)) (pss_one (ps_expr (pe_meth0 (pv 0) T.cl mf Ff hr bf .nil pass0))) pss_nil))), ?_⟩
    -- self.edits += 1
    refine ⟨_, rfl, p, CS, dx, _, _, rfl, hp, T.cl, T.nE, rfl, _, _, rfl, rfl, dx, _, hp, (by show 6 < 1000; decide), ?_⟩
    have e1 : putF "edits" (V.int (ed + 1)) (sfs mv ed cap er lb lr) = sfs mv (ed + 1) cap er lb lr := rfl
    rw [e1]
    have k1 : Kp [p] H (upd H p (.ins CS dx (sfs mv (ed + 1) cap er lb lr))) := (Kp.refl _ _).upd (.inl (List.mem_singleton.mpr rfl))
    have hp1 : upd H p (.ins CS dx (sfs mv (ed + 1) cap er lb lr)) p = some (.ins CS dx (sfs mv (ed + 1) cap er lb lr)) := upd_same
    generalize upd H p (.ins CS dx (sfs mv (ed + 1) cap er lb lr)) = H1 at k1 hp1 ⊢
    have s1 := hid_kp (M := M) k1 (by simp; exact pM)
    -- self._buffer = merged([entry], self._buffer)
    refine ⟨_, rfl, (by show 1 ≤ sizeLine; decide), fun la nla => ?_⟩
    have s2 : Same H1 _ := Same.new (o := .lst [.ref a]) nla
    have hla : upd H1 la (.lst [.ref a]) la = some (.lst [.ref a]) := upd_same
    generalize upd H1 la (.lst [.ref a]) = H2 at s2 hla ⊢
    have s2h := hid_kp (M := M) (Kp.of (S := []) s2) (by simp)
    have bl := (sizeS_run hO).1
    refine ⟨_, rfl, p, CS, dx, _, _, rfl, s2 _ _ hp1, T.cl, T.nB, rfl, hid H2 M, la, lb, [.ref a], us, [(x, c)], buf, rfl, hla, (hid_some (s2h _ _ (s1 _ _ hlb))).1, hid_same _ _, All2.one ⟨a, rfl, s2h _ _ (s1 _ _ ha)⟩, ens_mono s2h (ens_mono s1 hus), by simp; omega, fun H3 lm zs s3 nlm hlm hzs => ?_⟩
    have s3h := hid_kp (M := M) (Kp.of (S := []) s3) (by simp)
    have hp3 := s3 _ _ (s2 _ _ hp1)
    refine ⟨_, rfl, p, CS, dx, _, rfl, hp3, T.cl, T.nB, (by show 6 < 1000; decide), ?_⟩
    have e2 : putF "_buffer" (V.ref lm) (sfs mv (ed + 1) cap er lb lr) = sfs mv (ed + 1) cap er lm lr := rfl
    rw [e2]
    have hnl : lm ≠ p := (ne_of hlm hp3 (by intro q; cases q))
    have k4 : Kp [p] H3 (upd H3 p (.ins CS dx (sfs mv (ed + 1) cap er lm lr))) := (Kp.refl _ _).upd (.inl (List.mem_singleton.mpr rfl))
    have hp4 : upd H3 p (.ins CS dx (sfs mv (ed + 1) cap er lm lr)) p = some (.ins CS dx (sfs mv (ed + 1) cap er lm lr)) := upd_same
    generalize upd H3 p (.ins CS dx (sfs mv (ed + 1) cap er lm lr)) = H4 at k4 hp4 ⊢
    have k14 : Kp [p] H H4 := ((k1.trans (Kp.of s2)).trans (Kp.of s3)).trans k4
    have s4h := hid_kp (M := M) k4 (by simp; exact pM)
    have s14 := hid_kp (M := M) k14 (by simp; exact pM)
    have hM2 : Live M H2 := hM.kp (k1.trans (Kp.of s2))
    have hlm4 : hid H4 M lm = some (.lst zs) := s4h _ _ (hid_mk hlm (hM2.not nlm))
    have V4 : StV CS CR CI CL M H4 p lr cap er (ed + 1) (mrg [(x, c)] buf) runs := ⟨dx, mv, lm, zs, rs, pM, lM, hp4, k14.at hlr (by simp; exact hne), hlm4, ens_mono s4h (ens_mono s3h hzs), rns_mono s14 hrs⟩
    have O4 := write_ok (x := x) (c := c) hO x0 x1
    have val4 := write_val hO.sb (runs := runs) x c
    -- if len(self._buffer) >= self.capacity: self.flush()
    refine ⟨_, rfl, p, CS, dx, _, _, rfl, hp4, T.cl, T.nB, rfl, lm, zs, rfl, .inl (SqL.of (hid_some hlm4).1), _, rfl, p, CS, dx, _, _, rfl, hp4, T.cl, T.nC, rfl, _, _, rfl, rfl, _, rfl, ite2 (fun z => ?_) (fun z => ?_)⟩
    · refine ⟨_, rfl, p, dx, _, rfl, hp4, rfl, M, p, lr, cap, er, ed + 1, mrg [(x, c)] buf, runs, A + 1, B, rfl, hM.kp k14, V4, O4, by omega, by omega, er0, er1, fun H5 buf' runs' k5 V5 O5 val5 => ?_⟩
      exact k H5 buf' runs' ((k14.mono (by simp)).trans k5) V5 O5 fun j => by rw [val5, val4]
    · exact k H4 _ runs (k14.mono (by simp)) V4 ⟨O4.sb, O4.sr, O4.kb, O4.size, Nat.le_succ_of_le O4.len⟩ val4
/-! ### put, remove -/
def spPut (CS CR CI CL : Addr) : Sp := fun vs H Q _ => ∃ (M : List Addr) (p lr : Addr) (cap er ed : Int) (buf : List En) (runs : List (Option (List En))) (A B : Nat) (x v : Int), vs = [.ref p, .int x, .int v] ∧ Live M H ∧ StV CS CR CI CL M H p lr cap er ed buf runs ∧
  StOkS2 buf runs A B ∧ -268435456 ≤ x ∧ x ≤ 268435456 ∧ A ≤ 800 ∧ B ≤ 800 ∧ 0 ≤ er ∧ er ≤ 1000000 ∧
  ∀ (H' : Hp) (buf' : List En) (runs' : List (Option (List En))), Kp [p, lr] H H' → StV CS CR CI CL M H' p lr cap er (ed + 1) buf' runs' → StOkS2 buf' runs' (A + 1) (B + 1) → (∀ k, valS k buf' runs' = if k = x then some v else valS k buf runs) → Q .non H'
theorem scPut : FnScope ["self", "key", "value"] ["self", "key", "value"] (defScope sPut) := ⟨rfl, rfl, rfl, by decide +kernel, rfl, by decide +kernel, by decide +kernel⟩
theorem ok_put {f CS CR CI CL : Addr} {fd : FuncData} (F : Fun K "put" "Store.put" sPut f fd) (T : SC K CS) (G : MeG P w K mg base 12 CS "write" ["self", "entry"] (spWri CS CR CI CL)) : FnOk P w K mg base CX0 13 f fd ["self", "key", "value"] (spPut CS CR CI CL) := by
  obtain ⟨ff, fdf, mf, Ff, bf⟩ := G
  refine F.ok scPut (fun vs H Q E h => ?_) (fun cdv A0 outer s H vs Q E hr h => ?_)
  · obtain ⟨M, p, lr, cap, er, ed, buf, runs, A, B, x, v, rfl, _⟩ := h
    rfl
  · obtain ⟨M, p, lr, cap, er, ed, buf, runs, A, B, x, v, rfl, hM, hV, hO, x0, x1, hA, hB, er0, er1, k⟩ := h
    obtain ⟨dx, mv, lb, us, rs, _, _, hp, _⟩ := id hV
    refine ⟨_, pss_one (ps_expr (pe_meth (pv 0) T.cl mf Ff hr bf .nil pass0 (pa_cons (pe_tup (pa_cons (pv 1) (pa_cons (pv 2) pa_nil))) pa_nil))), ?_⟩
    refine ⟨_, rfl, p, dx, _, rfl, hp, rfl, _, rfl, _, rfl, (by show 2 ≤ sizeLine; decide), fun t nt => ?_⟩
    have r1 : Same H _ := Same.new (o := .tup [.int x, .int v]) nt
    refine ⟨M, p, lr, cap, er, ed, buf, runs, A, B, t, x, some v, rfl, hM.kp (Kp.of (S := []) r1), hV.same r1, hO, hid_mk upd_same (hM.not nt), x0, x1, hA, hB, er0, er1, fun H' buf' runs' k' V' O' val' => ?_⟩
    exact k H' buf' runs' ((Kp.of r1).trans k') V' O' val'
def spRem (CS CR CI CL : Addr) : Sp := fun vs H Q _ => ∃ (M : List Addr) (p lr : Addr) (cap er ed : Int) (buf : List En) (runs : List (Option (List En))) (A B : Nat) (x : Int), vs = [.ref p, .int x] ∧ Live M H ∧ StV CS CR CI CL M H p lr cap er ed buf runs ∧
  StOkS2 buf runs A B ∧ -268435456 ≤ x ∧ x ≤ 268435456 ∧ A ≤ 800 ∧ B ≤ 800 ∧ 0 ≤ er ∧ er ≤ 1000000 ∧
  ∀ (H' : Hp) (buf' : List En) (runs' : List (Option (List En))), Kp [p, lr] H H' → StV CS CR CI CL M H' p lr cap er (ed + 1) buf' runs' → StOkS2 buf' runs' (A + 1) (B + 1) → (∀ k, valS k buf' runs' = if k = x then none else valS k buf runs) → Q .non H'
theorem scRem : FnScope ["self", "key"] ["self", "key"] (defScope sRem) := ⟨rfl, rfl, rfl, by decide +kernel, rfl, by decide +kernel, by decide +kernel⟩
theorem ok_rem {f CS CR CI CL : Addr} {fd : FuncData} (F : Fun K "remove" "Store.remove" sRem f fd) (T : SC K CS) (G : MeG P w K mg base 12 CS "write" ["self", "entry"] (spWri CS CR CI CL)) : FnOk P w K mg base CX0 13 f fd ["self", "key"] (spRem CS CR CI CL) := by
  obtain ⟨ff, fdf, mf, Ff, bf⟩ := G
  refine F.ok scRem (fun vs H Q E h => ?_) (fun cdv A0 outer s H vs Q E hr h => ?_)
  · obtain ⟨M, p, lr, cap, er, ed, buf, runs, A, B, x, rfl, _⟩ := h
    rfl
  · obtain ⟨M, p, lr, cap, er, ed, buf, runs, A, B, x, rfl, hM, hV, hO, x0, x1, hA, hB, er0, er1, k⟩ := h
    obtain ⟨dx, mv, lb, us, rs, _, _, hp, _⟩ := id hV
    refine ⟨_, pss_one (ps_expr (pe_meth (pv 0) T.cl mf Ff hr bf .nil pass0 (pa_cons (pe_tup (pa_cons (pv 1) (pa_cons pe_non pa_nil))) pa_nil))), ?_⟩
    refine ⟨_, rfl, p, dx, _, rfl, hp, rfl, _, rfl, (by show 2 ≤ sizeLine; decide), fun t nt => ?_⟩
    have r1 : Same H _ := Same.new (o := .tup [.int x, .non]) nt
    refine ⟨M, p, lr, cap, er, ed, buf, runs, A, B, t, x, none, rfl, hM.kp (Kp.of (S := []) r1), hV.same r1, hO, hid_mk upd_same (hM.not nt), x0, x1, hA, hB, er0, er1, fun H' buf' runs' k' V' O' val' => ?_⟩
    exact k H' buf' runs' ((Kp.of r1).trans k') V' O' val'
/-! ### get -/
def spGet (CS CR CI CL : Addr) : Sp := fun vs H Q _ => ∃ (M : List Addr) (p lr : Addr) (cap er ed : Int) (buf : List En) (runs : List (Option (List En))) (A B : Nat) (x : Int), vs = [.ref p, .int x] ∧ StV CS CR CI CL M H p lr cap er ed buf runs ∧
  StOkS2 buf runs A B ∧ ∀ H' : Hp, Same H H' → Q (ov (valS x buf runs)) H'
theorem scGet : FnScope ["self", "key", "entry", "run", "found"] ["self", "key"] (defScope sGet) := ⟨rfl, rfl, rfl, by decide +kernel, rfl, by decide +kernel, by decide +kernel⟩
theorem ok_get {f CS CR CI CL : Addr} {fd : FuncData} (F : Fun K "get" "Store.get" sGet f fd) (T : SC K CS) (TR : Cls K CR) (G : MeG P w K mg base 5 CR "entry" ["self", "key"] (spEntry CR CI CL)) : FnOk P w K mg base CX0 6 f fd ["self", "key"] (spGet CS CR CI CL) := by
  obtain ⟨ff, fdf, mf, Ff, bf⟩ := G
  refine F.ok scGet (fun vs H Q E h => ?_) (fun cdv A0 outer s H vs Q E hr h => ?_)
  · obtain ⟨M, p, lr, cap, er, ed, buf, runs, A, B, x, rfl, _⟩ := h
    rfl
  · obtain ⟨M, p, lr, cap, er, ed, buf, runs, A, B, x, rfl, hV, hO, k⟩ := h
    obtain ⟨dx, mv, lb, us, rs, pM, lM, hp, hlr, hlb, hus, hrs⟩ := hV
    obtain ⟨hlb1, _⟩ := hid_some hlb
    refine ⟨_, pss_cons (ps_for PassesOwn.never rfl (pi_list (pe_fld (pv 0) rfl)) (pg_name (i := 2) scGet.nd rfl (.inl rfl))
        (pss_one (ps_if (pt_cmpR op_eq (pe_ix ix_tup (pv 2) pe_int (fun _ _ => rfl)) (pv 1) (nomark _)) (pss_one (ps_ret (pe_ix ix_tup (pv 2) pe_int (fun _ _ => rfl)))) pss_nil)))
      (pss_cons (ps_for PassesOwn.never rfl (pi_list (pe_fld (pv 0) rfl)) (pg_name (i := 3) scGet.nd rfl (.inl rfl))
        (pss_one (ps_if (pt_cmpR op_notN (pv 3) pe_non (nomark _)) (pss_cons (ps_set (i := 4) scGet.nd rfl (.inl rfl) (pe_meth (pv 3) TR mf Ff hr bf .nil pass0 (pa_cons (pv 1) pa_nil)))
          (pss_one (ps_if (pt_cmpR op_notN (pv 4) pe_non (nomark _)) (pss_one (ps_ret (pe_ix ix_tup (pv 4) pe_int (fun _ _ => rfl)))) pss_nil))) pss_nil)))
      (pss_one (ps_ret pe_non))), ?_⟩
    refine ⟨_, rfl, p, CS, dx, _, _, rfl, hp, T.cl, T.nB, rfl, lb, rfl, ⟨_, SqL.of hlb1⟩, for_list (K := K) (a := lb) (xs := us) (fun i σ H' => ∃ v2 : Option V, σ = [some (.ref p), some (.int x), v2, none, none] ∧ Same H H' ∧ ∀ e ∈ buf.take i, e.1 ≠ x)
      ⟨none, rfl, Same.refl H, fun e he => by simp at he⟩ (fun i σ H' _ ⟨_, _, s1, _⟩ => SqL.of (s1 _ _ hlb1)) ?_ ?_⟩
    · rintro i v σ H1 hi ⟨v2, rfl, s1, hno⟩
      obtain ⟨en, hen, ae, rfl, hae⟩ := hus.left hi
      have hae1 := s1 _ _ (hid_some hae).1
      refine ⟨_, rfl, ae, _, _, _, rfl, rfl, SqT.of hae1, atI_nat (j := 0) rfl, _, rfl, rfl, _, rfl, ite2 (fun q => ?_) (fun q => ?_)⟩
      · have q1 : en.1 = x := V.int.inj (of_decide_eq_true q)
        refine ⟨_, rfl, ae, _, _, _, rfl, rfl, SqT.of hae1, atI_nat (j := 1) rfl, ?_⟩
        have e : valS x buf runs = en.2 := by
          unfold valS semS
          rw [lk_some hO.sb (c := en.2) (show (x, en.2) ∈ buf by rw [← q1]; exact List.mem_of_getElem? hen)]
          rfl
        rw [← e]
        exact k H1 s1
      · have q1 : en.1 ≠ x := fun z => q (decide_eq_true (by rw [z]))
        refine ⟨_, rfl, s1, fun e he => ?_⟩
        rw [take_snoc hen] at he
        rcases List.mem_append.mp he with z | z
        · exact hno e z
        · rw [List.mem_singleton.mp z]
          exact q1
    · rintro σ H1 ⟨v2, rfl, s1, hno⟩
      rw [hus.1, List.take_length] at hno
      refine ⟨_, rfl, p, CS, dx, _, _, rfl, s1 _ _ hp, T.cl, T.nU, rfl, lr, rfl, ⟨_, SqL.of (s1 _ _ hlr)⟩, for_list (K := K) (a := lr) (xs := rs) (fun i σ H' => ∃ v3 v4 : Option V, σ = [some (.ref p), some (.int x), v2, v3, v4] ∧ Same H H' ∧ runsLk x (runs.take i) = none)
        ⟨none, none, rfl, s1, rfl⟩ (fun i σ H' _ ⟨_, _, _, s1, _⟩ => SqL.of (s1 _ _ hlr)) ?_ ?_⟩
      · rintro i v σ H2 hi ⟨v3, v4, rfl, s2, hrl⟩
        obtain ⟨r, hr', hrv⟩ := hrs.left hi
        refine ⟨_, rfl, rfl, _, rfl, ?_⟩
        cases r with
        | none =>
          have e : v = .non := hrv
          subst e
          refine iteNS rfl ?_
          refine ⟨_, _, rfl, s2, ?_⟩
          rw [take_snoc hr', runsLk_append, hrl]
          rfl
        | some es =>
          obtain ⟨ra, rfl, hra⟩ := hrv
          have nd : (!decide (V.ref ra = V.non)) = true := by rw [decide_eq_false (by intro q; cases q)]; rfl
          rw [nd]
          refine iteT ?_
          obtain ⟨dr, ll, ix, vs3, Ls, g1, _⟩ := id hra
          have sI : Same (hid H M) H2 := fun c o z => s2 _ _ (hid_same _ _ _ _ z)
          have hes := hO.sr es (List.mem_of_getElem? hr')
          refine ⟨_, rfl, ra, dr, _, rfl, sI _ _ g1, rfl, _, rfl, hid H M, ra, es, x, rfl, sI, hra, fun H3 v c s3 hm hv => ?_, fun H3 s3 hn => ?_⟩
          · obtain ⟨ta, rfl, hta⟩ := hv
            refine ⟨_, rfl, rfl, _, rfl, ?_⟩
            have nd : (!decide (V.ref ta = V.non)) = true := by rw [decide_eq_false (by intro q; cases q)]; rfl
            rw [nd]
            refine iteT ?_
            refine ⟨_, rfl, ta, _, _, _, rfl, rfl, SqT.of ((s2.trans s3) _ _ (hid_some hta).1), atI_nat (j := 1) rfl, ?_⟩
            have e : valS x buf runs = c := by
              unfold valS semS
              have er : runs = runs.take i ++ some es :: runs.drop (i + 1) := by
                rw [← drop_cons hr', List.take_append_drop]
              rw [lk_none hno, er, runsLk_append, hrl]
              show ((none : Option (Option Int)).or ((none : Option (Option Int)).or ((lk x es).or (runsLk x (runs.drop (i + 1)))))).getD none = c
              rw [lk_some hes.1 hm]
              rfl
            show Q (ov c) H3
            rw [← e]
            exact k H3 (s2.trans s3)
          · refine ⟨_, rfl, rfl, _, rfl, iteNS rfl ?_⟩
            refine ⟨_, _, rfl, s2.trans s3, ?_⟩
            rw [take_snoc hr', runsLk_append, hrl]
            show (none : Option (Option Int)).or ((lk x es).or (runsLk x [])) = none
            rw [lk_none hn]
            rfl
      · rintro σ H2 ⟨v3, v4, rfl, s2, hrl⟩
        rw [hrs.1, List.take_length] at hrl
        have e : valS x buf runs = none := by
          unfold valS semS
          rw [lk_none hno, hrl]
          rfl
        have := k H2 s2
        rw [e] at this
        exact this
/-! ### contents -/
def spCon (CS CR CI CL : Addr) : Sp := fun vs H Q _ => ∃ (M : List Addr) (p lr : Addr) (cap er ed : Int) (buf : List En) (runs : List (Option (List En))) (A B : Nat), vs = [.ref p] ∧ Live M H ∧ StV CS CR CI CL M H p lr cap er ed buf runs ∧
  StOkS2 buf runs A B ∧ A ≤ 900 ∧ ∀ (H' : Hp) (r : Addr) (zs : List V), Same H H' → H r = none → H' r = some (.lst zs) → All2 (EnV (hid H' M)) zs (contS buf runs) → (contS buf runs).length ≤ A → Q (.ref r) H'
abbrev nCon : List Str := ["self", "entries", "run", "entry"]
theorem scCon : FnScope nCon ["self"] (defScope sCon) := ⟨rfl, rfl, rfl, by decide +kernel, rfl, by decide +kernel, by decide +kernel⟩
theorem ok_con {f CS CR CI CL : Addr} {fd : FuncData} (F : Fun K "contents" "Store.contents" sCon f fd) (T : SC K CS) (TR : RC K CR) (GM : FnG P w K mg base 1 "merged" ["newer", "older"] spMrg) : FnOk P w K mg base CX0 2 f fd ["self"] (spCon CS CR CI CL) := by
  refine F.ok scCon (fun vs H Q E h => ?_) (fun cdv A0 outer s H vs Q E hr h => ?_)
  · obtain ⟨M, p, lr, cap, er, ed, buf, runs, A, B, rfl, _⟩ := h
    rfl
  · obtain ⟨M, p, lr, cap, er, ed, buf, runs, A, B, rfl, hM, hV, hO, hA, k⟩ := h
    obtain ⟨dx, mv, lb, us, rs, pM, lM, hp, hlr, hlb, hus, hrs⟩ := hV
    refine ⟨_, pss_cons (ps_set (i := 1) scCon.nd rfl (.inl rfl) (pe_fld (pv 0) rfl))
      (pss_cons (ps_for PassesOwn.never rfl (pi_list (pe_fld (pv 0) rfl)) (pg_name (i := 2) scCon.nd rfl (.inl rfl))
        (pss_one (ps_if (pt_cmpR op_notN (pv 2) pe_non (nomark _)) (pss_one (ps_set (i := 1) scCon.nd rfl (.inl rfl) (pe_callG GM hr (by rfl) (pa_cons (pv 1) (pa_cons (pe_fld (pv 2) rfl) pa_nil))))) pss_nil)))
      (pss_one (ps_ret (pe_lc (own := [("entry", 3)]) (g := gName 3) (tt := tTest (tOp (fun x y H Q => y = .non ∧ Q (.bl (!decide (x = .non))) H) (tOp (rIxT K) (tVar 3) (tC (.int 1))) (tC .non))) (te := tVar 3) rfl scCon.nd (pi_list (pv 1))
        (blkOk_by (N := nCon) (sc := defScope sCon) (own := [("entry", 3)]) (by decide +kernel)) (fun _ _ _ _ _ => pg_name (i := 3) scCon.nd rfl (.inl rfl)) (fun _ _ _ _ _ => pts_one (pt_cmpR op_notN (pe_ix ix_tup (pv 3) pe_int (fun _ _ => rfl)) pe_non (nomark _))) (fun _ _ _ _ _ => pv 3))))), ?_⟩
    have hsz := hO.size
    unfold sizeS at hsz
    have szs : ∀ i, ((runs.take i).foldl addRun buf).length ≤ buf.length + ((runs.take i).map runLen).sum := fun i => addRuns_len _ _
    have sums : ∀ i, ((runs.take i).map runLen).sum ≤ (runs.map runLen).sum := fun i => by
      have : runs.map runLen = (runs.take i).map runLen ++ (runs.drop i).map runLen := by rw [← List.map_append, List.take_append_drop]
      rw [this, List.sum_append]
      omega
    refine ⟨_, rfl, p, CS, dx, _, _, rfl, hp, T.cl, T.nB, rfl, ?_⟩
    refine ⟨_, rfl, p, CS, dx, _, _, rfl, hp, T.cl, T.nU, rfl, lr, rfl, ⟨_, SqL.of hlr⟩, for_list (K := K) (a := lr) (xs := rs) (fun i σ H' => ∃ (le : Addr) (v2 : Option V) (zs : List V), σ = [some (.ref p), some (.ref le), v2, none] ∧ Same H H' ∧
      hid H' M le = some (.lst zs) ∧ All2 (EnV (hid H' M)) zs ((runs.take i).foldl addRun buf)) ⟨lb, none, us, rfl, Same.refl H, hlb, hus⟩ (fun i σ H' _ ⟨_, _, _, _, s1, _⟩ => SqL.of (s1 _ _ hlr)) ?_ ?_⟩
    · rintro i v σ H1 hi ⟨le, v2, zs, rfl, s1, hle, hzs⟩
      obtain ⟨r, hr', hrv⟩ := hrs.left hi
      have s1h := hid_kp (M := M) (Kp.of (S := []) s1) (by simp)
      have sz1 := szs i
      have sz2 := szs (i + 1)
      have sm1 := sums i
      have sm2 := sums (i + 1)
      rw [take_snoc hr', List.map_append, List.sum_append] at sm2
      refine ⟨_, rfl, rfl, _, rfl, ?_⟩
      cases r with
      | none =>
        have e : v = .non := hrv
        subst e
        refine iteNS rfl ?_
        refine ⟨le, _, zs, rfl, s1, hle, ?_⟩
        rw [take_snoc hr', List.foldl_append]
        exact hzs
      | some es =>
        obtain ⟨ra, rfl, hra⟩ := hrv
        have nd : (!decide (V.ref ra = V.non)) = true := by rw [decide_eq_false (by intro q; cases q)]; rfl
        rw [nd]
        refine iteT ?_
        obtain ⟨dr, ll, ix, vs3, Ls, g1, g2, g3, _⟩ := id (hra.mono s1h)
        have sm3 : (([some es] : List (Option (List En))).map runLen).sum = es.length := by simp [runLen]
        refine ⟨_, rfl, _, rfl, ra, CR, dr, _, _, rfl, (hid_some g1).1, TR.cl, TR.nE, rfl, hid H1 M, le, ll, zs, vs3, _, es, rfl, (hid_some hle).1, (hid_some g2).1, hid_same _ _, hzs, g3, by omega, fun H2 lm ws s2 nlm hlm hws => ?_⟩
        have s2h := hid_kp (M := M) (Kp.of (S := []) s2) (by simp)
        refine ⟨lm, _, ws, rfl, s1.trans s2, hid_mk hlm ((hM.kp (Kp.of (S := []) s1)).not nlm), ?_⟩
        rw [take_snoc hr', List.foldl_append]
        exact ens_mono s2h hws
    · rintro σ H1 ⟨le, v2, zs, rfl, s1, hle, hzs⟩
      have szA := szs rs.length
      have smA := sums rs.length
      rw [hrs.1, List.take_length] at hzs szA smA
      obtain ⟨hle', _⟩ := hid_some hle
      refine ⟨_, rfl, le, rfl, ⟨_, SqL.of hle'⟩, fun D2 hD2 => lc_list (K := K) (a := le) (xs := zs) (fun i H' => Same H1 H' ∧ ∃ ws, H' D2 = some (.lst ws) ∧ All2 (EnV (hid H1 M)) ws (live ((runs.foldl addRun buf).take i))) ⟨Same.new hD2, [], upd_same, .nil⟩
        (fun i H' _ ⟨s1, _⟩ => SqL.of (s1 _ _ hle')) ?_ ?_⟩
      · rintro i v H6 hi ⟨s6, ws, hws, hal⟩
        obtain ⟨en, hen, ae, rfl, hae⟩ := hzs.left hi
        have hil := (List.getElem?_eq_some_iff.mp hen).1
        refine ⟨rfl, ?_⟩
        refine ⟨_, rfl, ae, _, _, _, rfl, rfl, SqT.of (s6 _ _ (hid_some hae).1), atI_nat (j := 1) rfl, rfl, _, rfl, ?_⟩
        have et : live ((runs.foldl addRun buf).take (i + 1)) = live ((runs.foldl addRun buf).take i) ++ (if en.2.isSome = true then [en] else []) := by
          rw [take_snoc hen]
          unfold live
          rw [List.filter_append]
          congr 1
          split <;> simp_all
        obtain ⟨e1, e2⟩ := en
        cases e2 with
        | none =>
          refine iteNS rfl ?_
          refine ⟨s6, ws, hws, ?_⟩
          rw [et]
          simp only [Option.isSome_none, Bool.false_eq_true, if_false, List.append_nil]
          exact hal
        | some z =>
          have nd : (!decide (ov (some z) = V.non)) = true := by rw [decide_eq_false (by intro q; cases q)]; rfl
          rw [nd]
          refine iteT ?_
          refine ⟨_, rfl, ws, hws, small1000 ?_, Same.upd s6 hD2, _, upd_same, ?_⟩
          · rw [hal.1]
            have := live_len ((runs.foldl addRun buf).take i)
            rw [List.length_take] at this
            omega
          · rw [et]
            exact hal.snoc ⟨ae, rfl, hae⟩
      · rintro H6 ⟨s6, ws, hws, hal⟩
        rw [hzs.1, List.take_length] at hal
        have s6h := hid_kp (M := M) (Kp.of (S := []) s6) (by simp)
        refine k H6 D2 ws (s1.trans s6) (s1.free hD2) hws (ens_mono s6h hal) ?_
        have := live_len (runs.foldl addRun buf)
        unfold contS
        omega
/-! ### between -/
def spBet (CS CR CI CL : Addr) : Sp := fun vs H Q _ => ∃ (M : List Addr) (p lr : Addr) (cap er ed : Int) (buf : List En) (runs : List (Option (List En))) (A B : Nat) (x y : Int), vs = [.ref p, .int x, .int y] ∧ Live M H ∧ StV CS CR CI CL M H p lr cap er ed buf runs ∧
  StOkS2 buf runs A B ∧ A ≤ 900 ∧ ∀ (H' : Hp) (r : Addr) (zs : List V), Same H H' → H r = none → H' r = some (.lst zs) → All2 (EnV (hid H' M)) zs ((contS buf runs).filter fun e => decide (x ≤ e.1) && decide (e.1 ≤ y)) → Q (.ref r) H'
abbrev nBet : List Str := ["self", "a", "b", "entry"]
theorem scBet : FnScope nBet ["self", "a", "b"] (defScope sBet) := ⟨rfl, rfl, rfl, by decide +kernel, rfl, by decide +kernel, by decide +kernel⟩
theorem ok_bet {f CS CR CI CL : Addr} {fd : FuncData} (F : Fun K "between" "Store.between" sBet f fd) (T : SC K CS) (G : MeG P w K mg base 2 CS "contents" ["self"] (spCon CS CR CI CL)) : FnOk P w K mg base CX0 3 f fd ["self", "a", "b"] (spBet CS CR CI CL) := by
  obtain ⟨ff, fdf, mf, Ff, bf⟩ := G
  refine F.ok scBet (fun vs H Q E h => ?_) (fun cdv A0 outer s H vs Q E hr h => ?_)
  · obtain ⟨M, p, lr, cap, er, ed, buf, runs, A, B, x, y, rfl, _⟩ := h
    rfl
  · obtain ⟨M, p, lr, cap, er, ed, buf, runs, A, B, x, y, rfl, hM, hV, hO, hA, k⟩ := h
    obtain ⟨dx, mv, lb, us, rs, _, _, hp, _⟩ := id hV
    refine ⟨_, pss_one (ps_ret (pe_lc (own := [("entry", 3)]) (g := gName 3) (tt := tTest (tChain (rI0 fun i j => .bl (decide (i ≤ j))) (rI0 fun i j => .bl (decide (i ≤ j))) (tVar 1) (tOp (rIxT K) (tVar 3) (tC (.int 0))) (tVar 2))) (te := tVar 3) rfl scBet.nd
        (pi_list (pe_meth0 (pv 0) T.cl mf Ff hr bf .nil pass0))
        (blkOk_by (N := nBet) (sc := defScope sBet) (own := [("entry", 3)]) (by decide +kernel)) (fun _ _ _ _ _ => pg_name (i := 3) scBet.nd rfl (.inl rfl)) (fun _ _ _ _ _ => pts_one (pt_chain op_le op_le (pv 1) (pe_ix ix_tup (pv 3) pe_int (fun _ _ => rfl)) (pv 2))) (fun _ _ _ _ _ => pv 3))), ?_⟩
    refine ⟨_, rfl, p, dx, _, rfl, hp, rfl, M, p, lr, cap, er, ed, buf, runs, A, B, rfl, hM, hV, hO, hA, fun H1 lc zs s1 nlc hlc hzs hcl => ?_⟩
    refine ⟨lc, rfl, ⟨_, SqL.of hlc⟩, fun D2 hD2 => lc_list (K := K) (a := lc) (xs := zs) (fun i H' => Same H1 H' ∧ ∃ ws, H' D2 = some (.lst ws) ∧ All2 (EnV (hid H1 M)) ws (((contS buf runs).take i).filter fun e => decide (x ≤ e.1) && decide (e.1 ≤ y))) ⟨Same.new hD2, [], upd_same, .nil⟩
      (fun i H' _ ⟨s1, _⟩ => SqL.of (s1 _ _ hlc)) ?_ ?_⟩
    · rintro i v H6 hi ⟨s6, ws, hws, hal⟩
      obtain ⟨en, hen, ae, rfl, hae⟩ := hzs.left hi
      have hil := (List.getElem?_eq_some_iff.mp hen).1
      have et : ((contS buf runs).take (i + 1)).filter (fun e => decide (x ≤ e.1) && decide (e.1 ≤ y)) = ((contS buf runs).take i).filter (fun e => decide (x ≤ e.1) && decide (e.1 ≤ y)) ++ (if (decide (x ≤ en.1) && decide (en.1 ≤ y)) = true then [en] else []) := by
        rw [take_snoc hen, List.filter_append]
        congr 1
        split <;> simp_all
      have wl : ws.length ≤ 900 := by
        rw [hal.1]
        have := List.length_filter_le (fun e : En => decide (x ≤ e.1) && decide (e.1 ≤ y)) ((contS buf runs).take i)
        rw [List.length_take] at this
        omega
      have no : (decide (x ≤ en.1) && decide (en.1 ≤ y)) = false → Same H1 H6 ∧ ∃ ws, H6 D2 = some (.lst ws) ∧ All2 (EnV (hid H1 M)) ws (((contS buf runs).take (i + 1)).filter fun e => decide (x ≤ e.1) && decide (e.1 ≤ y)) := fun q => by
        refine ⟨s6, ws, hws, ?_⟩
        rw [et, q]
        simp only [Bool.false_eq_true, if_false, List.append_nil]
        exact hal
      refine ⟨rfl, ?_⟩
      refine ⟨_, rfl, _, rfl, ae, _, _, _, rfl, rfl, SqT.of (s6 _ _ (hid_some hae).1), atI_nat (j := 0) rfl, _, _, rfl, rfl, _, rfl, ite2 (fun q => ?_) (fun q => ?_)⟩
      · refine ⟨_, rfl, _, _, rfl, rfl, _, rfl, ite2 (fun q2 => ?_) (fun q2 => ?_)⟩
        · refine ⟨_, rfl, ws, hws, small1000 (by omega), Same.upd s6 hD2, _, upd_same, ?_⟩
          rw [et, q, q2]
          exact hal.snoc ⟨ae, rfl, hae⟩
        · refine no ?_
          rw [q]
          cases z : decide (en.1 ≤ y) with
          | true => exact absurd z q2
          | false => rfl
      · have q1 : decide (x ≤ en.1) = false := by
          cases z : decide (x ≤ en.1) with
          | true => exact absurd z q
          | false => rfl
        refine ⟨_, rfl, iteF (no ?_)⟩
        rw [q1]
        rfl
    · rintro H6 ⟨s6, ws, hws, hal⟩
      rw [hzs.1, List.take_length] at hal
      exact k H6 D2 ws (s1.trans s6) (s1.free hD2) hws (ens_mono (hid_kp (M := M) (Kp.of (S := []) s6) (by simp)) hal)
end
end Fw
namespace Fw
open PySem L2
abbrev sPI : Stmt := inClass (top 26) 0
abbrev sPP : Stmt := inClass (top 26) 1
abbrev sPR : Stmt := inClass (top 26) 2
abbrev sPG : Stmt := inClass (top 26) 3
abbrev sPC : Stmt := inClass (top 26) 4
structure PC (K : PySem.W.Frag) (C : Addr) : Prop where
  cl : Cls K C
  nV : NoAttr K C "_values"
/-! ### dicts that tell a function -/
abbrev Kv := List (Key × V)
/-- the dict of the plain store: the values of the keys that are there -/
structure PD (kvs : Kv) (m : Int → Option Int) (N : Nat) : Prop where
  nd : (kvs.map (·.1)).Nodup
  ks : ∃ ks : List Int, kvs.map (·.1) = ks.map Sum.inl
  at_ : ∀ k : Int, valV kvs (Sum.inl k : Key) = (m k).map V.int
  len : kvs.length ≤ N
theorem pd_nil {m : Int → Option Int} (h : ∀ k, m k = none) : PD [] m 0 := ⟨List.nodup_nil, ⟨[], rfl⟩, fun k => by rw [h]; rfl, Nat.le_refl _⟩
theorem putK_keys {kvs : Kv} {k : Key} {v : V} : (putK kvs k v).map (·.1) = if (valV kvs k).isSome = true then kvs.map (·.1) else kvs.map (·.1) ++ [k] := by
  unfold putK
  rw [valV_any]
  split
  · rw [List.map_map]
    refine List.map_congr_left fun p _ => ?_
    show (if p.1 = k then (p.1, v) else p).1 = p.1
    split <;> rfl
  · rw [List.map_append]
    rfl
theorem putK_len {kvs : Kv} {k : Key} {v : V} : (putK kvs k v).length ≤ kvs.length + 1 := by
  have := congrArg List.length (putK_keys (kvs := kvs) (k := k) (v := v))
  rw [List.length_map] at this
  rw [this]
  split <;> simp
theorem putK_nd {kvs : Kv} {k : Key} {v : V} (h : (kvs.map (·.1)).Nodup) : ((putK kvs k v).map (·.1)).Nodup := by
  rw [putK_keys]
  split
  · exact h
  · rename_i q
    have e : valV kvs k = none := by
      cases z : valV kvs k with
      | none => rfl
      | some v => rw [z] at q; exact absurd rfl q
    exact nd_snoc h (valV_not e)
theorem putK_ks {kvs : Kv} {k : Int} {v : V} (h : ∃ ks : List Int, kvs.map (·.1) = ks.map Sum.inl) : ∃ ks : List Int, (putK kvs (Sum.inl k : Key) v).map (·.1) = ks.map Sum.inl := by
  obtain ⟨ks, e⟩ := h
  rw [putK_keys]
  split
  · exact ⟨ks, e⟩
  · exact ⟨ks ++ [k], by rw [List.map_append, e]; rfl⟩
theorem pd_put {kvs : Kv} {m : Int → Option Int} {N : Nat} (h : PD kvs m N) (k v : Int) : PD (putK kvs (Sum.inl k : Key) (.int v)) (fun j => if j = k then some v else m j) (N + 1) := by
  refine ⟨putK_nd h.nd, putK_ks h.ks, fun j => ?_, by have := putK_len (kvs := kvs) (k := (Sum.inl k : Key)) (v := .int v); have := h.len; omega⟩
  rw [valV_put]
  by_cases q : j = k
  · subst q
    rw [if_pos rfl, if_pos rfl]
    rfl
  · rw [if_neg (fun z => q (Sum.inl.inj z)), if_neg q]
    exact h.at_ j
theorem valV_drop {kvs : Kv} {k j : Key} (hn : (kvs.map (·.1)).Nodup) : valV (dropK kvs k) j = if j = k then none else valV kvs j := by
  induction kvs with
  | nil => simp [dropK, valV_nil]
  | cons p r ih =>
    have hn' : (p.1 :: r.map (·.1)).Nodup := hn
    obtain ⟨h1, h2⟩ := List.nodup_cons.mp hn'
    by_cases e : p.1 = k
    · rw [dropK_pos e, ih h2]
      by_cases z : j = k
      · rw [if_pos z, if_pos z]
      · rw [if_neg z, if_neg z, valV_neg (fun y => z (by rw [← y, e]))]
    · rw [dropK_neg e]
      by_cases y : p.1 = j
      · rw [valV_pos y, valV_pos y, if_neg (fun z => e (by rw [y, z]))]
      · rw [valV_neg y, valV_neg y]
        exact ih h2
theorem pd_drop {kvs : Kv} {m : Int → Option Int} {N : Nat} (h : PD kvs m N) (k : Int) : PD (dropK kvs (Sum.inl k : Key)) (fun j => if j = k then none else m j) N := by
  refine ⟨nd_dropK h.nd, ?_, fun j => ?_, Nat.le_trans (dropK_le _ _) h.len⟩
  · obtain ⟨ks, e⟩ := h.ks
    have sub : ((dropK kvs (Sum.inl k : Key)).map (·.1)).Sublist (ks.map Sum.inl) := by
      rw [← e]
      exact List.filter_sublist.map _
    obtain ⟨l, _, hl⟩ := List.sublist_map_iff.mp sub
    exact ⟨l, hl⟩
  · rw [valV_drop h.nd]
    by_cases q : j = k
    · subst q
      rw [if_pos rfl, if_pos rfl]
      rfl
    · rw [if_neg (fun z => q (Sum.inl.inj z)), if_neg q]
      exact h.at_ j
/-- the found dict of the law: a value or none for each key -/
structure FD (kvs : Kv) (m : Int → Option Int) (N : Nat) : Prop where
  nd : (kvs.map (·.1)).Nodup
  ks : ∃ ks : List Int, kvs.map (·.1) = ks.map Sum.inl
  at_ : ∀ k : Int, (valV kvs (Sum.inl k : Key) = none ∧ m k = none) ∨ valV kvs (Sum.inl k : Key) = some (ov (m k))
  len : kvs.length ≤ N
theorem fd_nil {m : Int → Option Int} (h : ∀ k, m k = none) : FD [] m 0 := ⟨List.nodup_nil, ⟨[], rfl⟩, fun k => .inl ⟨rfl, h k⟩, Nat.le_refl _⟩
theorem fd_put {kvs : Kv} {m : Int → Option Int} {N : Nat} (h : FD kvs m N) (k : Int) (c : Option Int) : FD (putK kvs (Sum.inl k : Key) (ov c)) (fun j => if j = k then c else m j) (N + 1) := by
  refine ⟨putK_nd h.nd, putK_ks h.ks, fun j => ?_, by have := putK_len (kvs := kvs) (k := (Sum.inl k : Key)) (v := ov c); have := h.len; omega⟩
  rw [valV_put]
  by_cases q : j = k
  · subst q
    right
    rw [if_pos rfl]
    show some (ov c) = some (ov (if j = j then c else m j))
    rw [if_pos rfl]
  · rw [if_neg (fun z => q (Sum.inl.inj z))]
    show (valV kvs (Sum.inl j) = none ∧ (if j = k then c else m j) = none) ∨ valV kvs (Sum.inl j) = some (ov (if j = k then c else m j))
    rw [if_neg q]
    exact h.at_ j
theorem fd_get {kvs : Kv} {m : Int → Option Int} {N : Nat} (h : FD kvs m N) (k : Int) : (valV kvs (Sum.inl k : Key)).getD .non = ov (m k) := by
  rcases h.at_ k with ⟨a, b⟩ | a
  · rw [a, b]
    rfl
  · rw [a]
    rfl
theorem pd_get {kvs : Kv} {m : Int → Option Int} {N : Nat} (h : PD kvs m N) (k : Int) : (valV kvs (Sum.inl k : Key)).getD .non = ov (m k) := by
  rw [h.at_]
  cases m k <;> rfl
/-- the sorted keys with their values -/
theorem keys_tell {m : Int → Option Int} {ks ys : List Int} (hp : ys.Perm ks) (hs : ys.Pairwise (· ≤ ·)) (hn : ks.Nodup) (hk : ∀ k v, m k = some v → k ∈ ks) : Tells m (live (ys.map fun k => (k, m k))) := by
  have nd : ys.Nodup := hp.nodup_iff.mpr hn
  have st : Srt (ys.map fun k => (k, m k)) := by
    refine List.pairwise_map.mpr ?_
    refine (hs.and nd).imp ?_
    rintro a b ⟨h1, h2⟩
    show a < b
    omega
  refine ⟨live_srt st, fun e he => (live_mem.mp he).2, fun k v => ?_⟩
  rw [live_mem]
  constructor
  · rintro ⟨h, _⟩
    obtain ⟨k', _, e⟩ := List.mem_map.mp h
    have e1 : k' = k := congrArg Prod.fst e
    have e2 : m k' = some v := congrArg Prod.snd e
    rw [← e1]
    exact e2
  · intro h
    exact ⟨List.mem_map.mpr ⟨k, hp.mem_iff.mpr (hk k v h), by rw [h]⟩, rfl⟩
theorem map_nodup {ks : List Int} (h : (ks.map (Sum.inl : Int → Key)).Nodup) : ks.Nodup := List.Pairwise.of_map _ (fun a b (n : (Sum.inl a : Key) ≠ Sum.inl b) (e : a = b) => n (by rw [e])) h
theorem key_in {kvs : Kv} {ks : List Int} (e : kvs.map (·.1) = ks.map Sum.inl) {k : Int} {v : V} (h : valV kvs (Sum.inl k : Key) = some v) : k ∈ ks := by
  have := valV_in h
  rw [e] at this
  obtain ⟨j, hj, ej⟩ := List.mem_map.mp this
  rw [← Sum.inl.inj ej]
  exact hj
def PlV (C : Addr) (H : Hp) (p d : Addr) (kvs : Kv) : Prop := (∃ dx, H p = some (.ins C dx [("_values", .ref d)])) ∧ H d = some (.dK kvs)
section
variable {P : Program} {w : World} {K : PySem.W.Frag} {mg : Str → Option Value} {base : Heap}
/-! ### the plain store's methods -/
def spPI (C : Addr) : Sp := fun vs H Q _ => ∃ (p dx : Addr), vs = [.ref p] ∧ H p = some (.ins C dx []) ∧ ∀ (H' : Hp) (d : Addr), Kp [p] H H' → H d = none → PlV C H' p d [] → Q .non H'
theorem scPI : FnScope ["self"] ["self"] (defScope sPI) := ⟨rfl, rfl, rfl, by decide +kernel, rfl, by decide +kernel, by decide +kernel⟩
theorem ok_pi {f C : Addr} {fd : FuncData} (F : Fun K "__init__" "PlainStore.__init__" sPI f fd) (T : PC K C) : FnOk P w K mg base CX0 1 f fd ["self"] (spPI C) := by
  refine F.ok scPI (fun vs H Q E h => ?_) (fun cdv A outer s H vs Q E hr h => ?_)
  · obtain ⟨p, dx, rfl, _⟩ := h
    rfl
  · obtain ⟨p, dx, rfl, hp, k⟩ := h
    refine ⟨_, pss_one (ps_fld (pv 0) pe_dnewK rfl), ?_⟩
    intro d nd
    have n1 : p ≠ d := ne_of_none hp nd
    refine ⟨_, rfl, p, C, dx, _, rfl, Eq.trans (upd_ne n1) hp, T.cl, T.nV, (by show 0 < 1000; decide), ?_⟩
    exact k _ d (((Kp.refl _ _).upd (.inr nd)).upd (.inl (List.mem_singleton.mpr rfl))) nd ⟨⟨dx, upd_same⟩, by rw [upd_ne n1.symm, upd_same]⟩
def spPP (C : Addr) : Sp := fun vs H Q _ => ∃ (p d : Addr) (kvs : Kv) (x v : Int), vs = [.ref p, .int x, .int v] ∧ PlV C H p d kvs ∧ kvs.length ≤ 900 ∧ ∀ H' : Hp, Kp [d] H H' → PlV C H' p d (putK kvs (Sum.inl x : Key) (.int v)) → Q .non H'
theorem scPP : FnScope ["self", "key", "value"] ["self", "key", "value"] (defScope sPP) := ⟨rfl, rfl, rfl, by decide +kernel, rfl, by decide +kernel, by decide +kernel⟩
theorem ok_pp {f C : Addr} {fd : FuncData} (F : Fun K "put" "PlainStore.put" sPP f fd) (T : PC K C) : FnOk P w K mg base CX0 1 f fd ["self", "key", "value"] (spPP C) := by
  refine F.ok scPP (fun vs H Q E h => ?_) (fun cdv A outer s H vs Q E hr h => ?_)
  · obtain ⟨p, d, kvs, x, v, rfl, _⟩ := h
    rfl
  · obtain ⟨p, d, kvs, x, v, rfl, ⟨⟨dx, hp⟩, hd⟩, hl, k⟩ := h
    have hu := hu_of hr
    refine ⟨_, pss_one (ps_dput hu (pe_fld (pv 0) rfl) (pv 1) (pv 2) rfl), ?_⟩
    refine ⟨_, rfl, _, rfl, p, C, dx, _, _, rfl, hp, T.cl, T.nV, rfl, _, rfl, d, _, rfl, DPut.k (k := (Sum.inl x : Key)) hd (small1000 (by omega)), ?_⟩
    exact k _ ((Kp.refl _ _).upd (.inl (List.mem_singleton.mpr rfl))) ⟨⟨dx, by rw [upd_ne (ne_of hp hd (by intro q; cases q))]; exact hp⟩, upd_same⟩
def spPR (C : Addr) : Sp := fun vs H Q _ => ∃ (p d : Addr) (kvs : Kv) (x : Int), vs = [.ref p, .int x] ∧ PlV C H p d kvs ∧ (kvs.map (·.1)).Nodup ∧ ∀ H' : Hp, Kp [d] H H' → PlV C H' p d (dropK kvs (Sum.inl x : Key)) → Q .non H'
theorem scPR : FnScope ["self", "key"] ["self", "key"] (defScope sPR) := ⟨rfl, rfl, rfl, by decide +kernel, rfl, by decide +kernel, by decide +kernel⟩
theorem ok_pr {f C : Addr} {fd : FuncData} (F : Fun K "remove" "PlainStore.remove" sPR f fd) (T : PC K C) : FnOk P w K mg base CX0 1 f fd ["self", "key"] (spPR C) := by
  refine F.ok scPR (fun vs H Q E h => ?_) (fun cdv A outer s H vs Q E hr h => ?_)
  · obtain ⟨p, d, kvs, x, rfl, _⟩ := h
    rfl
  · obtain ⟨p, d, kvs, x, rfl, ⟨⟨dx, hp⟩, hd⟩, hnd, k⟩ := h
    have hu := hu_of hr
    refine ⟨_, pss_one (ps_if (pt_cmp (pc_din hu (pv 1) (pe_fld (pv 0) rfl))) (pss_one (ps_ddel (pe_fld (pv 0) rfl) (pv 1))) pss_nil), ?_⟩
    refine ⟨_, rfl, _, rfl, p, C, dx, _, _, rfl, hp, T.cl, T.nV, rfl, d, _, rfl, DGet.k (k := (Sum.inl x : Key)) hd, _, rfl, ?_⟩
    cases e : valV kvs (Sum.inl x : Key) with
    | none =>
      refine iteF ?_
      have e2 : dropK kvs (Sum.inl x : Key) = kvs := dropK_no (valV_not e)
      exact k H (Kp.refl _ _) ⟨⟨dx, hp⟩, by rw [e2]; exact hd⟩
    | some v =>
      refine iteT ?_
      refine ⟨_, rfl, p, C, dx, _, _, rfl, hp, T.cl, T.nV, rfl, _, rfl, d, kvs, (Sum.inl x : Key), rfl, hd, rfl, (by rw [e]; rfl), ?_⟩
      exact k _ ((Kp.refl _ _).upd (.inl (List.mem_singleton.mpr rfl))) ⟨⟨dx, by rw [upd_ne (ne_of hp hd (by intro q; cases q))]; exact hp⟩, upd_same⟩
def spPG (C : Addr) : Sp := fun vs H Q _ => ∃ (p d : Addr) (kvs : Kv) (x : Int), vs = [.ref p, .int x] ∧ PlV C H p d kvs ∧ Q ((valV kvs (Sum.inl x : Key)).getD .non) H
theorem scPG : FnScope ["self", "key"] ["self", "key"] (defScope sPG) := ⟨rfl, rfl, rfl, by decide +kernel, rfl, by decide +kernel, by decide +kernel⟩
theorem ok_pg {f C : Addr} {fd : FuncData} (F : Fun K "get" "PlainStore.get" sPG f fd) (T : PC K C) : FnOk P w K mg base CX0 1 f fd ["self", "key"] (spPG C) := by
  refine F.ok scPG (fun vs H Q E h => ?_) (fun cdv A outer s H vs Q E hr h => ?_)
  · obtain ⟨p, d, kvs, x, rfl, _⟩ := h
    rfl
  · obtain ⟨p, d, kvs, x, rfl, ⟨⟨dx, hp⟩, hd⟩, k⟩ := h
    have hu := hu_of hr
    refine ⟨_, pss_one (ps_ret (pe_dget1 hu (pe_fld (pv 0) rfl) (pv 1) ⟨rfl, rfl, rfl, rfl⟩)), ?_⟩
    exact ⟨_, rfl, p, C, dx, _, _, rfl, hp, T.cl, T.nV, rfl, d, rfl, .inl ⟨kvs, .inl hd⟩, _, rfl, _, DGet.k (k := (Sum.inl x : Key)) hd, k⟩
def spPC (C : Addr) : Sp := fun vs H Q _ => ∃ (M : List Addr) (p d : Addr) (kvs : Kv) (m : Int → Option Int) (N : Nat), vs = [.ref p] ∧ Live M H ∧ PlV C H p d kvs ∧ PD kvs m N ∧ N ≤ 60 ∧
  ∀ (H' : Hp) (r : Addr) (zs : List V) (cs : List En), Same H H' → H r = none → H' r = some (.lst zs) → All2 (EnV (hid H' M)) zs cs → Tells m cs → cs.length ≤ 60 → Q (.ref r) H'
abbrev nPC : List Str := ["self", "key"]
theorem scPC : FnScope nPC ["self"] (defScope sPC) := ⟨rfl, rfl, rfl, by decide +kernel, rfl, by decide +kernel, by decide +kernel⟩
theorem ok_pc {f C : Addr} {fd : FuncData} (F : Fun K "contents" "PlainStore.contents" sPC f fd) (T : PC K C) (mS : mg "sorted" = none) : FnOk P w K mg base CX0 1 f fd ["self"] (spPC C) := by
  refine F.ok scPC (fun vs H Q E h => ?_) (fun cdv A outer s H vs Q E hr h => ?_)
  · obtain ⟨M, p, d, kvs, m, N, rfl, _⟩ := h
    rfl
  · obtain ⟨M, p, d, kvs, m, N, rfl, hM, ⟨⟨dx, hp⟩, hd⟩, hP, hN, k⟩ := h
    have hu := hu_of hr
    refine ⟨_, pss_one (ps_ret (pe_lc (own := [("key", 1)]) (g := gName 1) (tt := tYes) (te := tTup (tCons (tVar 1) (tCons (tDGet (tFld K (tVar 0) "_values") (tVar 1)) tNil))) rfl scPC.nd
      (pi_list (pe_callB (call_sortedDI rfl) (by rfl) mS (by decide +kernel) (pa_cons (pe_fld (pv 0) rfl) pa_nil)))
      (blkOk_by (N := nPC) (sc := defScope sPC) (own := [("key", 1)]) (by decide +kernel)) (fun _ _ _ _ _ => pg_name (i := 1) scPC.nd rfl (.inl rfl)) (fun _ _ _ _ _ => pts_nil)
      (fun _ _ _ _ _ => pe_tup (pa_cons (pv 1) (pa_cons (pe_dget hu (pe_fld (pv 0) rfl) (pv 1) (fun _ _ => rfl)) pa_nil))))), ?_⟩
    obtain ⟨ks, hks⟩ := hP.ks
    have hkl : ks.length = kvs.length := by
      have := congrArg List.length hks
      rw [List.length_map, List.length_map] at this
      exact this.symm
    have hlen := hP.len
    have hkn : ks.Nodup := map_nodup (by rw [← hks]; exact hP.nd)
    refine ⟨_, rfl, p, C, dx, _, _, rfl, hp, T.cl, T.nV, rfl, d, kvs, ks, rfl, .inl hd, hks, by omega, fun ys l hperm hsrt nl => ?_⟩
    have r1 : Same H _ := Same.new (o := .lst (ys.map V.int)) nl
    have hl : upd H l (.lst (ys.map V.int)) l = some (.lst (ys.map V.int)) := upd_same
    generalize upd H l (.lst (ys.map V.int)) = H1 at r1 hl ⊢
    have hyl : ys.length ≤ 60 := by rw [hperm.length_eq]; omega
    have hM1 := hM.kp (Kp.of (S := []) r1)
    refine ⟨l, rfl, ⟨_, SqL.of hl⟩, fun D hD => lc_list (K := K) (a := l) (xs := ys.map V.int) (fun i H' => Same H1 H' ∧ ∃ zs, H' D = some (.lst zs) ∧ All2 (EnV (hid H' M)) zs ((ys.take i).map fun k => (k, m k))) ⟨Same.new hD, [], upd_same, .nil⟩
      (fun i H' _ ⟨s1, _⟩ => SqL.of (s1 _ _ hl)) ?_ ?_⟩
    · rintro i v H2 hi ⟨s1, zs, hzs, hal⟩
      rw [List.getElem?_map] at hi
      obtain ⟨kk, hk, rfl⟩ : ∃ kk, ys[i]? = some kk ∧ v = .int kk := by
        cases z : ys[i]? with
        | none => rw [z] at hi; cases hi
        | some kk => rw [z] at hi; exact ⟨kk, rfl, (Option.some.inj hi).symm⟩
      have hil := (List.getElem?_eq_some_iff.mp hk).1
      have hin : kk ∈ ks := hperm.mem_iff.mp (List.mem_of_getElem? hk)
      obtain ⟨vv, hvv⟩ : ∃ vv, m kk = some vv := by
        have h1 : (Sum.inl kk : Key) ∈ kvs.map (·.1) := by rw [hks]; exact List.mem_map.mpr ⟨kk, hin, rfl⟩
        cases z : m kk with
        | some vv => exact ⟨vv, rfl⟩
        | none =>
          have := hP.at_ kk
          rw [z] at this
          exact absurd h1 (valV_not this)
      have hval : valV kvs (Sum.inl kk : Key) = some (.int vv) := by rw [hP.at_, hvv]; rfl
      have s2 := r1.trans s1
      have dg : DGet H2 d (.int kk) (some (.int vv)) := by rw [← hval]; exact DGet.k (k := (Sum.inl kk : Key)) (s2 _ _ hd)
      refine ⟨rfl, ?_⟩
      refine ⟨_, rfl, _, rfl, p, C, dx, _, _, rfl, s2 _ _ hp, T.cl, T.nV, rfl, _, rfl, d, _, rfl, dg, (by show 2 ≤ sizeLine; decide), fun t nt => ?_⟩
      have r3 : Same H2 _ := Same.new (o := .tup [.int kk, .int vv]) nt
      have hM2 := hM1.kp (Kp.of (S := []) s1)
      have kt := (KT.of r3).trans ((KT.refl _).upd (p := D) (o := .lst (zs ++ [.ref t])) (nt_lst (r3 _ _ hzs)))
      have ntD : t ≠ D := (ne_of_none hzs nt).symm
      refine ⟨zs, r3 _ _ hzs, small1000 (by rw [hal.1, List.length_map, List.length_take]; omega), Same.upd (s1.trans r3) hD, _, upd_same, ?_⟩
      rw [take_snoc hk, List.map_append]
      refine All2.snoc (hal.mono fun _ _ q => q.mono (hid_kt kt)) ⟨t, rfl, hid_mk ?_ (hM2.not nt)⟩
      rw [upd_ne ntD, upd_same]
      show some (HO.tup [V.int kk, V.int vv]) = some (HO.tup [V.int kk, ov (m kk)])
      rw [hvv]
      rfl
    · rintro H2 ⟨s1, zs, hzs, hal⟩
      rw [List.length_map, List.take_length] at hal
      have el : live (ys.map fun k => (k, m k)) = ys.map fun k => (k, m k) := by
        unfold live
        refine List.filter_eq_self.mpr fun e he => ?_
        obtain ⟨kk, hk, rfl⟩ := List.mem_map.mp he
        have hin : kk ∈ ks := hperm.mem_iff.mp hk
        have h1 : (Sum.inl kk : Key) ∈ kvs.map (·.1) := by rw [hks]; exact List.mem_map.mpr ⟨kk, hin, rfl⟩
        show (m kk).isSome = true
        cases z : m kk with
        | some vv => rfl
        | none =>
          have := hP.at_ kk
          rw [z] at this
          exact absurd h1 (valV_not this)
      have tl : Tells m (ys.map fun k => (k, m k)) := by
        rw [← el]
        exact keys_tell hperm hsrt hkn fun k v h => key_in hks (v := .int v) (by rw [hP.at_, h]; rfl)
      exact k H2 D zs _ (r1.trans s1) (r1.free hD) hzs hal tl (by rw [List.length_map]; exact hyl)
end
end Fw
namespace Fw
open PySem L2
abbrev sCell : Stmt := top 28
abbrev sDig : Stmt := top 29
abbrev sEds : Stmt := top 30
abbrev sDone : Stmt := top 31
abbrev sEdit : Stmt := top 32
section
variable {P : Program} {w : World} {K : PySem.W.Frag} {mg : Str → Option Value} {base : Heap}
/-! ### a cell of the script -/
def spCe (K : PySem.W.Frag) : Sp := fun vs H Q _ => ∃ (a : Addr) (ns : List Int) (j : Nat), vs = [.ref a, .int (j : Nat)] ∧ SqL K H a (ns.map V.int) ∧ Q (.int (ns.getD j 0)) H
theorem scCe : FnScope ["_law_script", "_law_k"] ["_law_script", "_law_k"] (defScope sCell) := ⟨rfl, rfl, rfl, by decide +kernel, rfl, by decide +kernel, by decide +kernel⟩
theorem ok_ce {f : Addr} {fd : FuncData} (F : Fun K "_law_cell" "_law_cell" sCell f fd) (mL : mg "len" = none) : FnOk P w K mg base CX0 1 f fd ["_law_script", "_law_k"] (spCe K) := by
  refine F.ok scCe (fun vs H Q E h => ?_) (fun cdv A outer s H vs Q E hr h => ?_)
  · obtain ⟨a, ns, j, rfl, _⟩ := h
    rfl
  · obtain ⟨a, ns, j, rfl, ha, k⟩ := h
    refine ⟨_, pss_cons (ps_if (pt_cmpR op_lt (pv 1) (pe_callB call_len_seq (by rfl) mL PySem.boot_len (pa_cons (pv 0) pa_nil)) (nomark _)) (pss_one (ps_ret (pe_ix ix_list (pv 0) (pv 1) (fun _ _ => rfl)))) pss_nil)
      (pss_one (ps_ret pe_int)), ?_⟩
    refine ⟨_, rfl, _, rfl, a, _, rfl, .inl ha, _, _, rfl, rfl, _, rfl, ite2 (fun q => ?_) (fun q => ?_)⟩
    · have q1 : (j : Int) < ((ns.map V.int).length : Int) := of_decide_eq_true q
      rw [List.length_map] at q1
      have hj : (ns.map V.int)[j]? = some (.int (ns.getD j 0)) := by
        rw [List.getElem?_map, List.getD_eq_getElem?_getD, List.getElem?_eq_getElem (show j < ns.length by omega)]
        rfl
      exact ⟨_, rfl, _, rfl, a, _, _, _, rfl, rfl, ha, atI_nat hj, k⟩
    · have q1 : ¬ (j : Int) < ((ns.map V.int).length : Int) := mt decide_eq_true q
      rw [List.length_map] at q1
      rw [List.getD_eq_getElem?_getD, List.getElem?_eq_none (show ns.length ≤ j by omega)] at k
      exact k
/-! ### digits -/
def spDig : Sp := fun vs H Q _ => ∃ (c m n : Int), vs = [.int c, .int m, .int n] ∧ 0 < m ∧ m < 1073741824 ∧ 0 ≤ n ∧ n ≤ 100 ∧
  ∀ (H' : Hp) (r : Addr) (ds : List Int), Same H H' → H r = none → H' r = some (.lst (ds.map V.int)) → (ds.length : Int) = n → (∀ d ∈ ds, 0 ≤ d ∧ d < m) → Q (.ref r) H'
abbrev nDig : List Str := ["_law_cell_here", "_law_many", "_law_count", "_law_digits_here", "_law_rest", "_law_k", "_law_mixed"]
theorem scDig : FnScope nDig ["_law_cell_here", "_law_many", "_law_count"] (defScope sDig) := ⟨rfl, rfl, rfl, by decide +kernel, rfl, by decide +kernel, by decide +kernel⟩
theorem ok_dig {f : Addr} {fd : FuncData} (F : Fun K "_law_digits" "_law_digits" sDig f fd) (mR : mg "range" = none) (mI : mg "int" = none) : FnOk P w K mg base CX0 1 f fd ["_law_cell_here", "_law_many", "_law_count"] spDig := by
  refine F.ok scDig (fun vs H Q E h => ?_) (fun cdv A outer s H vs Q E hr h => ?_)
  · obtain ⟨c, m, n, rfl, _⟩ := h
    rfl
  · obtain ⟨c, m, n, rfl, m0, m1, n0, n1, k⟩ := h
    refine ⟨_, pss_cons (ps_set (i := 3) scDig.nd rfl (.inl rfl) (pe_lst pa_nil)) (pss_cons (ps_set (i := 4) scDig.nd rfl (.inl rfl) (pv 0))
      (pss_cons (ps_for PassesOwn.never rfl (pi_range1 (by rfl) mR (pa_cons (pv 2) pa_nil)) (pg_name (i := 5) scDig.nd rfl (.inl rfl))
        (pss_one (ps_if (pt_cmpR op_ge (pv 0) (pe_op op_pow pe_int pe_int) (nomark _))
          (pss_cons (ps_expr (pe_bm PySem.F.plainAttrs_list PySem.F.slot_list_append PySem.F.type_list_append mt_append (pv 3) (pa_cons (pe_op op_mod (pe_callTy call_int1 (by rfl) mI (by decide +kernel) (pa_cons (pv 4) pa_nil)) (pv 1)) pa_nil)))
          (pss_one (ps_set (i := 4) scDig.nd rfl (.inl rfl) (pe_op op_fdiv (pv 4) (pv 1)))))
          (pss_cons (ps_set (i := 6) scDig.nd rfl (.inl rfl) (pe_op op_mod (pe_callTy call_int1 (by rfl) mI (by decide +kernel) (pa_cons (pe_op op_add (pe_op op_add (pe_op op_mul (pv 0) pe_int) (pe_op op_mul (pv 5) pe_int)) pe_int) pa_nil)) pe_int))
          (pss_cons (ps_set (i := 6) scDig.nd rfl (.inl rfl) (pe_op op_mod (pe_callTy call_int1 (by rfl) mI (by decide +kernel) (pa_cons (pe_op op_add (pe_op op_add (pe_op op_mul (pv 6) (pv 6)) (pe_op op_mul pe_int (pv 6))) (pv 5)) pa_nil)) pe_int))
          (pss_one (ps_expr (pe_bm PySem.F.plainAttrs_list PySem.F.slot_list_append PySem.F.type_list_append mt_append (pv 3) (pa_cons (pe_op op_mod (pe_callTy call_int1 (by rfl) mI (by decide +kernel) (pa_cons (pe_op op_fdiv (pv 6) pe_int) pa_nil)) (pv 1)) pa_nil)))))))))
      (pss_one (ps_ret (pv 3))))), ?_⟩
    refine ⟨Nat.zero_le _, fun l nl => ?_⟩
    refine ⟨_, rfl, ?_⟩
    refine ⟨_, rfl, n, rfl, by omega, by omega, for_range (lo := 0) (n := n.toNat) (fun i σ H' => ∃ (rest : Int) (v5 v6 : Option V) (ds : List Int), σ = [some (.int c), some (.int m), some (.int n), some (.ref l), some (.int rest), v5, v6] ∧ Same H H' ∧
      H' l = some (.lst (ds.map V.int)) ∧ ds.length = i ∧ ∀ d ∈ ds, 0 ≤ d ∧ d < m) ⟨c, none, none, [], rfl, Same.new nl, upd_same, rfl, fun d hd => nomatch hd⟩ ?_ ?_⟩
    · rintro i σ H1 hi ⟨rest, v5, v6, ds, rfl, s1, hl, hlen, hds⟩
      have more : ∀ z : Int, ∀ d ∈ ds ++ [z % m], 0 ≤ d ∧ d < m := fun z d hd => by
        rcases List.mem_append.mp hd with q | q
        · exact hds d q
        · rw [List.mem_singleton.mp q]
          exact ⟨Int.emod_nonneg _ (by omega), Int.emod_lt_of_pos _ m0⟩
      have lz : (ds.map V.int).length < sizeLine := small1000 (by rw [List.length_map]; omega)
      refine ⟨_, rfl, _, _, rfl, rfl, ⟨by decide, by decide, by decide⟩, _, _, rfl, rfl, _, rfl, ite2 (fun q => ?_) (fun q => ?_)⟩
      · refine ⟨_, rfl, .inl ⟨rfl, _, SqL.of hl⟩, _, rfl, .inl ⟨_, rfl, _, rfl, _, _, rfl, rfl, m0, l, _, _, rfl, rfl, hl, lz, ?_⟩⟩
        refine ⟨_, rfl, _, rfl, _, _, rfl, rfl, ⟨m0, m1⟩, ?_⟩
        exact ⟨_, _, _, ds ++ [rest % m], rfl, Same.upd s1 nl, by rw [upd_same, List.map_append]; rfl, by rw [List.length_append, List.length_singleton, hlen], more rest⟩
      · have gb : ∀ g : Int, B64 (g % 2147483647) := fun g => by
          have g0 := Int.emod_nonneg g (show (2147483647 : Int) ≠ 0 by decide)
          have g1 := Int.emod_lt_of_pos g (show (0 : Int) < 2147483647 by decide)
          exact ⟨by omega, by omega⟩
        refine ⟨_, rfl, _, _, rfl, rfl, .inr ⟨by decide, by decide⟩, _, rfl, _, _, rfl, rfl, .inr ⟨by decide, by decide⟩, _, _, rfl, rfl, _, _, rfl, rfl, .inl ⟨_, rfl, _, _, rfl, rfl, (by show (0 : Int) < 2147483647; decide), ?_⟩⟩
        refine ⟨_, rfl, _, rfl, _, _, rfl, rfl, .inl (gb _), _, rfl, _, _, rfl, rfl, .inl ⟨by decide, by decide⟩, _, _, rfl, rfl, _, rfl, _, _, rfl, rfl, .inl ⟨_, rfl, _, _, rfl, rfl, (by show (0 : Int) < 2147483629; decide), ?_⟩⟩
        refine ⟨_, rfl, .inl ⟨rfl, _, SqL.of hl⟩, _, rfl, _, _, rfl, rfl, ⟨by decide, by decide⟩, .inl ⟨_, rfl, _, rfl, _, _, rfl, rfl, m0, l, _, _, rfl, rfl, hl, lz, ?_⟩⟩
        exact ⟨_, _, _, ds ++ [((c * 48271 + (0 + (i : Nat)) * 69621 + 1013) % 2147483647 * ((c * 48271 + (0 + (i : Nat)) * 69621 + 1013) % 2147483647) + 7 * ((c * 48271 + (0 + (i : Nat)) * 69621 + 1013) % 2147483647) + (0 + (i : Nat))) % 2147483629 / 31 % m], rfl, Same.upd s1 nl, by rw [upd_same, List.map_append]; rfl, by rw [List.length_append, List.length_singleton, hlen], more _⟩
    · rintro σ H1 ⟨rest, v5, v6, ds, rfl, s1, hl, hlen, hds⟩
      exact ⟨_, rfl, k H1 l ds s1 nl hl (by omega) hds⟩
end
end Fw
namespace Fw
open PySem L2
theorem pick4 {a b c d q : Int} (h0 : 0 ≤ q) (h1 : q < 4) : ∃ v : Int, atI [V.int a, V.int b, V.int c, V.int d] q = some (.int v) ∧ (v = a ∨ v = b ∨ v = c ∨ v = d) := by
  have : q = 0 ∨ q = 1 ∨ q = 2 ∨ q = 3 := by omega
  rcases this with rfl | rfl | rfl | rfl
  · exact ⟨a, atI_nat (j := 0) rfl, .inl rfl⟩
  · exact ⟨b, atI_nat (j := 1) rfl, .inr (.inl rfl)⟩
  · exact ⟨c, atI_nat (j := 2) rfl, .inr (.inr (.inl rfl))⟩
  · exact ⟨d, atI_nat (j := 3) rfl, .inr (.inr (.inr rfl))⟩
/-- the dictionary behind the edits -/
def mapOf (es : List En) : Int → Option Int := es.foldl (fun m e => fun j => if j = e.1 then e.2 else m j) (fun _ => none)
theorem mapOf_snoc (es : List En) (e : En) (j : Int) : mapOf (es ++ [e]) j = if j = e.1 then e.2 else mapOf es j := by
  unfold mapOf
  rw [List.foldl_append]
  rfl
theorem ens_same {H H' : Hp} {us : List V} {es : List En} (s : Same H H') (h : All2 (EnV H) us es) : All2 (EnV H') us es := h.mono fun _ _ q => q.mono (KT.of s)
section
variable {P : Program} {w : World} {K : PySem.W.Frag} {mg : Str → Option Value} {base : Heap}
/-! ### the edits -/
def spEds (K : PySem.W.Frag) : Sp := fun vs H Q _ => ∃ (a : Addr) (ns : List Int), vs = [.ref a, .int 1, .int 48] ∧ SqL K H a (ns.map V.int) ∧
  ∀ (H' : Hp) (r : Addr) (zs : List V) (es : List En), Same H H' → H r = none → H' r = some (.lst zs) → All2 (EnV H') zs es → es.length ≤ 48 → (∀ e ∈ es, -1000000 ≤ e.1 ∧ e.1 ≤ 1000000) → Q (.ref r) H'
abbrev nEds : List Str := ["_law_script", "_law_place", "_law_most", "_law_cell_here", "_law_count", "_law_many", "_law_rows", "_law_edits_here", "_law_k", "_law_key", "_law_value"]
theorem scEds : FnScope nEds ["_law_script", "_law_place", "_law_most"] (defScope sEds) := ⟨rfl, rfl, rfl, by decide +kernel, rfl, by decide +kernel, by decide +kernel⟩
theorem ok_eds {f : Addr} {fd : FuncData} (F : Fun K "_law_edits" "_law_edits" sEds f fd) (GC : FnG P w K mg base 1 "_law_cell" ["_law_script", "_law_k"] (spCe K)) (GD : FnG P w K mg base 1 "_law_digits" ["_law_cell_here", "_law_many", "_law_count"] spDig)
    (mR : mg "range" = none) (mI : mg "int" = none) : FnOk P w K mg base CX0 2 f fd ["_law_script", "_law_place", "_law_most"] (spEds K) := by
  refine F.ok scEds (fun vs H Q E h => ?_) (fun cdv A outer s H vs Q E hr h => ?_)
  · obtain ⟨a, ns, rfl, _⟩ := h
    rfl
  · obtain ⟨a, ns, rfl, ha, k⟩ := h
    refine ⟨_, pss_cons (ps_set (i := 3) scEds.nd rfl (.inl rfl) (pe_callG GC hr (by rfl) (pa_cons (pv 0) (pa_cons (pv 1) pa_nil))))
      (pss_cons (ps_set (i := 4) scEds.nd rfl (.inl rfl) (pe_op op_mod (pe_callTy call_int1 (by rfl) mI (by decide +kernel) (pa_cons (pv 3) pa_nil)) (pe_op op_add (pv 2) pe_int)))
      (pss_cons (ps_set (i := 5) scEds.nd rfl (.inl rfl) (pe_ix ix_list (pe_lst (pa_cons pe_int (pa_cons pe_int (pa_cons pe_int (pa_cons (pe_op op_pow pe_int pe_int) pa_nil)))))
        (pe_op op_mod (pe_callTy call_int1 (by rfl) mI (by decide +kernel) (pa_cons (pe_op op_fdiv (pv 3) (pe_op op_add (pv 2) pe_int)) pa_nil)) pe_int) (fun _ _ => rfl)))
      (pss_cons (ps_set (i := 6) scEds.nd rfl (.inl rfl) (pe_callG GD hr (by rfl) (pa_cons (pe_callG GC hr (by rfl) (pa_cons (pv 0) (pa_cons (pe_op op_add (pv 1) pe_int) pa_nil))) (pa_cons (pe_op op_pow pe_int pe_int) (pa_cons (pv 4) pa_nil)))))
      (pss_cons (ps_set (i := 7) scEds.nd rfl (.inl rfl) (pe_lst pa_nil))
      (pss_cons (ps_for PassesOwn.never rfl (pi_range1 (by rfl) mR (pa_cons (pv 4) pa_nil)) (pg_name (i := 8) scEds.nd rfl (.inl rfl))
        (pss_cons (ps_set (i := 9) scEds.nd rfl (.inl rfl) (pe_op op_sub (pe_op op_mod (pe_callTy call_int1 (by rfl) mI (by decide +kernel) (pa_cons (pe_ix ix_list (pv 6) (pv 8) (fun _ _ => rfl)) pa_nil)) (pv 5))
          (pe_ix ix_list (pe_lst (pa_cons pe_int (pa_cons pe_int (pa_cons pe_int (pa_cons pe_int pa_nil)))))
            (pe_op op_mod (pe_callTy call_int1 (by rfl) mI (by decide +kernel) (pa_cons (pe_op op_fdiv (pv 3) (pe_op op_add (pv 2) pe_int)) pa_nil)) pe_int) (fun _ _ => rfl))))
        (pss_cons (ps_set (i := 10) scEds.nd rfl (.inl rfl) (pe_op op_sub (pe_op op_mod (pe_callTy call_int1 (by rfl) mI (by decide +kernel) (pa_cons (pe_op op_fdiv (pe_ix ix_list (pv 6) (pv 8) (fun _ _ => rfl)) pe_int) pa_nil)) pe_int) pe_int))
        (pss_one (ps_if (pt_cmpR op_eq (pe_op op_mod (pe_callTy call_int1 (by rfl) mI (by decide +kernel) (pa_cons (pe_op op_fdiv (pe_ix ix_list (pv 6) (pv 8) (fun _ _ => rfl)) pe_int) pa_nil)) pe_int) pe_int (nomark _))
          (pss_one (ps_expr (pe_bm PySem.F.plainAttrs_list PySem.F.slot_list_append PySem.F.type_list_append mt_append (pv 7) (pa_cons (pe_tup (pa_cons (pv 9) (pa_cons pe_non pa_nil))) pa_nil))))
          (pss_one (ps_expr (pe_bm PySem.F.plainAttrs_list PySem.F.slot_list_append PySem.F.type_list_append mt_append (pv 7) (pa_cons (pe_tup (pa_cons (pv 9) (pa_cons (pv 10) pa_nil))) pa_nil)))))))))
      (pss_one (ps_ret (pv 7)))))))), ?_⟩
    -- the cell, the count
    refine ⟨_, rfl, _, rfl, a, ns, 1, rfl, ha, ?_⟩
    generalize ns.getD 1 0 = c
    refine ⟨_, rfl, .inl ⟨c, rfl, _, rfl, _, _, rfl, rfl, _, _, rfl, rfl, (by show (0 : Int) < 48 + 1; decide), ?_⟩⟩
    have c0 := Int.emod_nonneg c (show (48 + 1 : Int) ≠ 0 by decide)
    have c1 := Int.emod_lt_of_pos c (show (0 : Int) < 48 + 1 by decide)
    have q0 := Int.emod_nonneg (c / (48 + 1)) (show (4 : Int) ≠ 0 by decide)
    have q1 := Int.emod_lt_of_pos (c / (48 + 1)) (show (0 : Int) < 4 by decide)
    obtain ⟨many, hmany, hmv⟩ := pick4 (a := 3) (b := 8) (c := 30) (d := 10 ^ Int.toNat 6) q0 q1
    obtain ⟨off, hoff, hov⟩ := pick4 (a := 1) (b := 3) (c := 9) (d := 500000) q0 q1
    have e6 : (10 : Int) ^ Int.toNat 6 = 1000000 := by decide
    rw [e6] at hmv
    -- the number of keys
    refine ⟨_, _, rfl, rfl, ⟨by decide, by decide, by decide⟩, (by show 4 ≤ sizeLine; decide), fun l1 n1 => ?_⟩
    have r1 : Same H _ := Same.new (o := .lst [.int 3, .int 8, .int 30, .int (10 ^ Int.toNat 6)]) n1
    have hl1 : upd H l1 (.lst [.int 3, .int 8, .int 30, .int (10 ^ Int.toNat 6)]) l1 = some (.lst [.int 3, .int 8, .int 30, .int (10 ^ Int.toNat 6)]) := upd_same
    generalize upd H l1 (.lst [.int 3, .int 8, .int 30, .int (10 ^ Int.toNat 6)]) = H1 at r1 hl1 ⊢
    refine ⟨_, rfl, _, rfl, _, _, rfl, rfl, _, _, rfl, rfl, ⟨by show (0 : Int) < 48 + 1; decide, by show (48 + 1 : Int) < 1073741824; decide⟩, .inl ⟨_, rfl, _, _, rfl, rfl, (by show (0 : Int) < 4; decide), l1, _, _, _, rfl, rfl, SqL.of hl1, hmany, ?_⟩⟩
    -- the rows
    refine ⟨_, rfl, _, rfl, _, _, rfl, rfl, a, ns, 2, rfl, r1.seq ha, ?_⟩
    refine ⟨_, _, rfl, rfl, ⟨by decide, by decide, by decide⟩, _, rfl, _, _, _, rfl, (by show (0 : Int) < 10 ^ Int.toNat 7; decide), (by show (10 : Int) ^ Int.toNat 7 < 1073741824; decide), c0, by show c % (48 + 1) ≤ 100; omega, fun H2 lr ds r2 nlr hlr hdl hdb => ?_⟩
    have r12 := r1.trans r2
    refine ⟨Nat.zero_le _, fun le nle => ?_⟩
    have r3 : Same H2 _ := Same.new (o := .lst []) nle
    have hle : upd H2 le (.lst []) le = some (.lst []) := upd_same
    have nleH : H le = none := r12.free nle
    generalize upd H2 le (.lst []) = H3 at r3 hle ⊢
    have hdl' : (ds.length : Int) = c % (48 + 1) := hdl
    -- the loop
    refine ⟨_, rfl, c % (48 + 1), rfl, by omega, by omega, for_range (lo := 0) (n := (c % (48 + 1)).toNat) (fun i σ H' => ∃ (v8 v9 v10 : Option V) (zs : List V) (es : List En), σ = [some (.ref a), some (.int 1), some (.int 48), some (.int c), some (.int (c % (48 + 1))), some (.int many), some (.ref lr), some (.ref le), v8, v9, v10] ∧
      Same H H' ∧ H' lr = some (.lst (ds.map V.int)) ∧ H' le = some (.lst zs) ∧ All2 (EnV H') zs es ∧ es.length = i ∧ ∀ e ∈ es, -1000000 ≤ e.1 ∧ e.1 ≤ 1000000)
      ⟨none, none, none, [], [], rfl, r12.trans r3, r3 _ _ hlr, hle, .nil, rfl, fun e he => nomatch he⟩ ?_ ?_⟩
    · rintro i σ H4 hi ⟨v8, v9, v10, zs, es, rfl, s4, hlr4, hle4, hal, hel, hes⟩
      have hid : (ds.map V.int)[i]? = some (.int (ds.getD i 0)) := by
        rw [List.getElem?_map, List.getD_eq_getElem?_getD, List.getElem?_eq_getElem (show i < ds.length by omega)]
        rfl
      generalize ds.getD i 0 = dd at hid
      have g0 := Int.emod_nonneg dd (show many ≠ 0 by omega)
      have g1 := Int.emod_lt_of_pos dd (show 0 < many by omega)
      -- the key
      refine ⟨_, rfl, _, rfl, lr, _, _, _, rfl, rfl, SqL.of hlr4, at_of (j := i) (by omega) hid, .inl ⟨_, rfl, _, rfl, _, _, rfl, rfl, (by show (0 : Int) < many; omega), (by show 4 ≤ sizeLine; decide), fun l5 n5 => ?_⟩⟩
      have r5 : Same H4 _ := Same.new (o := .lst [.int 1, .int 3, .int 9, .int 500000]) n5
      have hl5 : upd H4 l5 (.lst [.int 1, .int 3, .int 9, .int 500000]) l5 = some (.lst [.int 1, .int 3, .int 9, .int 500000]) := upd_same
      generalize upd H4 l5 (.lst [.int 1, .int 3, .int 9, .int 500000]) = H5 at r5 hl5 ⊢
      refine ⟨_, rfl, _, rfl, _, _, rfl, rfl, _, _, rfl, rfl, ⟨by show (0 : Int) < 48 + 1; decide, by show (48 + 1 : Int) < 1073741824; decide⟩, .inl ⟨_, rfl, _, _, rfl, rfl, (by show (0 : Int) < 4; decide), l5, _, _, _, rfl, rfl, SqL.of hl5, hoff, _, _, rfl, rfl, ?_⟩⟩
      have hlr5 := r5 _ _ hlr4
      have hle5 := r5 _ _ hle4
      have hal5 := ens_same r5 hal
      have s5 := s4.trans r5
      -- the value
      refine ⟨_, rfl, _, rfl, lr, _, _, _, rfl, rfl, SqL.of hlr5, at_of (j := i) (by omega) hid, _, _, rfl, rfl, ⟨by decide, by decide⟩, .inl ⟨_, rfl, _, _, rfl, rfl, (by show (0 : Int) < 19; decide), _, _, rfl, rfl, ?_⟩⟩
      -- the test
      refine ⟨_, rfl, _, rfl, lr, _, _, _, rfl, rfl, SqL.of hlr5, at_of (j := i) (by omega) hid, _, _, rfl, rfl, ⟨by decide, by decide⟩, .inl ⟨_, rfl, _, _, rfl, rfl, (by show (0 : Int) < 4; decide), rfl, _, rfl, ite2 (fun q => ?_) (fun q => ?_)⟩⟩
      · refine ⟨_, rfl, .inl ⟨rfl, _, SqL.of hle5⟩, _, rfl, (by show 2 ≤ sizeLine; decide), fun t nt => ?_⟩
        have r6 : Same H5 _ := Same.new (o := .tup [.int (dd % many - off), .non]) nt
        have hle6 := r6 _ _ hle5
        refine ⟨le, zs, .ref t, rfl, rfl, hle6, small1000 (by rw [hal.1]; omega), ?_⟩
        have kt := (KT.of r6).trans ((KT.refl _).upd (p := le) (o := .lst (zs ++ [.ref t])) (nt_lst hle6))
        refine ⟨_, _, _, zs ++ [.ref t], es ++ [(dd % many - off, none)], rfl, Same.upd (s5.trans r6) nleH, ?_, upd_same, (hal5.mono fun _ _ z => z.mono kt).snoc ⟨t, rfl, ?_⟩, by rw [List.length_append, List.length_singleton, hel], fun e he => ?_⟩
        · rw [upd_ne (fun z => by subst z; rw [hlr] at nle; cases nle)]
          exact r6 _ _ hlr5
        · rw [upd_ne (ne_of_none hle5 nt).symm, upd_same]
          rfl
        · rcases List.mem_append.mp he with z | z
          · exact hes e z
          · rw [List.mem_singleton.mp z]
            show -1000000 ≤ dd % many - off ∧ dd % many - off ≤ 1000000
            omega
      · refine ⟨_, rfl, .inl ⟨rfl, _, SqL.of hle5⟩, _, rfl, _, rfl, (by show 2 ≤ sizeLine; decide), fun t nt => ?_⟩
        have r6 : Same H5 _ := Same.new (o := .tup [.int (dd % many - off), .int (dd / 7 % 19 - 9)]) nt
        have hle6 := r6 _ _ hle5
        refine ⟨le, zs, .ref t, rfl, rfl, hle6, small1000 (by rw [hal.1]; omega), ?_⟩
        have kt := (KT.of r6).trans ((KT.refl _).upd (p := le) (o := .lst (zs ++ [.ref t])) (nt_lst hle6))
        refine ⟨_, _, _, zs ++ [.ref t], es ++ [(dd % many - off, some (dd / 7 % 19 - 9))], rfl, Same.upd (s5.trans r6) nleH, ?_, upd_same, (hal5.mono fun _ _ z => z.mono kt).snoc ⟨t, rfl, ?_⟩, by rw [List.length_append, List.length_singleton, hel], fun e he => ?_⟩
        · rw [upd_ne (fun z => by subst z; rw [hlr] at nle; cases nle)]
          exact r6 _ _ hlr5
        · rw [upd_ne (ne_of_none hle5 nt).symm, upd_same]
          rfl
        · rcases List.mem_append.mp he with z | z
          · exact hes e z
          · rw [List.mem_singleton.mp z]
            show -1000000 ≤ dd % many - off ∧ dd % many - off ≤ 1000000
            omega
    · rintro σ H4 ⟨v8, v9, v10, zs, es, rfl, s4, hlr4, hle4, hal, hel, hes⟩
      exact ⟨_, rfl, k H4 le zs es s4 nleH hle4 hal (by omega) hes⟩
/-! ### what the edits leave -/
def spDone : Sp := fun vs H Q _ => ∃ (a : Addr) (zs : List V) (es : List En), vs = [.ref a] ∧ H a = some (.lst zs) ∧ All2 (EnV H) zs es ∧ es.length ≤ 60 ∧
  ∀ (H' : Hp) (r : Addr) (ws : List V) (cs : List En), Same H H' → H r = none → H' r = some (.lst ws) → All2 (EnV H') ws cs → Tells (mapOf es) cs → cs.length ≤ 60 → Q (.ref r) H'
abbrev nDone : List Str := ["_law_edits_here", "_law_found", "_law_key", "_law_value"]
theorem scDone : FnScope nDone ["_law_edits_here"] (defScope sDone) := ⟨rfl, rfl, rfl, by decide +kernel, rfl, by decide +kernel, by decide +kernel⟩
theorem ok_done {f : Addr} {fd : FuncData} (F : Fun K "_law_done" "_law_done" sDone f fd) (mS : mg "sorted" = none) (mL : mg "list" = none) : FnOk P w K mg base CX0 1 f fd ["_law_edits_here"] spDone := by
  refine F.ok scDone (fun vs H Q E h => ?_) (fun cdv A outer s H vs Q E hr h => ?_)
  · obtain ⟨a, zs, es, rfl, _⟩ := h
    rfl
  · obtain ⟨a, zs, es, rfl, ha, hal, hel, k⟩ := h
    have hu := hu_of hr
    refine ⟨_, pss_cons (ps_set (i := 1) scDone.nd rfl (.inr rfl) pe_dnewK)
      (pss_cons (ps_for PassesOwn.never rfl (pi_list (pv 0)) (pg_tup (by rfl) (pgs_cons (pg_name (i := 2) scDone.nd rfl (.inl rfl)) (pgs_cons (pg_name (i := 3) scDone.nd rfl (.inl rfl)) pgs_nil)))
        (pss_one (ps_dput hu (pv 1) (pv 2) (pv 3) rfl)))
      (pss_one (ps_ret (pe_lc (own := [("_law_key", 2)]) (g := gName 2) (tt := tTest (tOp (fun x y H Q => y = .non ∧ Q (.bl (!decide (x = .non))) H) (tDGet (tVar 1) (tVar 2)) (tC .non))) (te := tTup (tCons (tVar 2) (tCons (tDGet (tVar 1) (tVar 2)) tNil))) rfl scDone.nd
        (pi_list (pe_callB cr_sorted (by rfl) mS (by decide +kernel) (pa_cons (pe_callTy (call_list_dK rfl) (by rfl) mL (by decide +kernel) (pa_cons (pv 1) pa_nil)) pa_nil)))
        (blkOk_by (N := nDone) (sc := defScope sDone) (own := [("_law_key", 2)]) (by decide +kernel)) (fun _ _ _ _ _ => pg_name (i := 2) scDone.nd rfl (.inl rfl))
        (fun _ _ _ _ _ => pts_one (pt_cmpR op_notN (pe_dget hu (pv 1) (pv 2) (fun _ _ => rfl)) pe_non (nomark _)))
        (fun _ _ _ _ _ => pe_tup (pa_cons (pv 2) (pa_cons (pe_dget hu (pv 1) (pv 2) (fun _ _ => rfl)) pa_nil))))))), ?_⟩
    intro d nd
    have r1 : Same H _ := Same.new (o := .dK []) nd
    refine ⟨_, rfl, a, rfl, ⟨_, SqL.of (r1 _ _ ha)⟩, for_list (K := K) (a := a) (xs := zs) (fun i σ H' => ∃ (v2 v3 : Option V) (kvs : Kv), σ = [some (.ref a), some (.ref d), v2, v3] ∧ Same H H' ∧ H' d = some (.dK kvs) ∧ FD kvs (mapOf (es.take i)) i)
      ⟨none, none, [], rfl, r1, upd_same, fd_nil fun _ => rfl⟩ (fun i σ H' _ ⟨_, _, _, _, s1, _⟩ => SqL.of (s1 _ _ ha)) ?_ ?_⟩
    · rintro i v σ H1 hi ⟨v2, v3, kvs, rfl, s1, hd, hF⟩
      obtain ⟨en, hen, ae, rfl, hae⟩ := hal.left hi
      have hil := (List.getElem?_eq_some_iff.mp hen).1
      have hl := hF.len
      refine ⟨ae, _, rfl, SqT.of (s1 _ _ hae), rfl, _, _, rfl, _, _, rfl, rfl, ?_⟩
      refine ⟨_, rfl, _, rfl, _, rfl, d, _, rfl, DPut.k (k := (Sum.inl en.1 : Key)) hd (small1000 (by omega)), ?_⟩
      refine ⟨_, _, _, rfl, Same.upd s1 nd, upd_same, ?_⟩
      have := fd_put hF en.1 en.2
      rw [take_snoc hen]
      exact ⟨this.nd, this.ks, fun j => by rw [mapOf_snoc]; exact this.at_ j, this.len⟩
    · rintro σ H1 ⟨v2, v3, kvs, rfl, s1, hd, hF⟩
      rw [hal.1, List.take_length] at hF
      obtain ⟨ks, hks⟩ := hF.ks
      have hkl : ks.length = kvs.length := by
        have := congrArg List.length hks
        rw [List.length_map, List.length_map] at this
        exact this.symm
      have hlen := hF.len
      have hkn : ks.Nodup := map_nodup (by rw [← hks]; exact hF.nd)
      have hkv : (kvs.map fun kv => kV kv.1) = ks.map V.int := by
        have := congrArg (List.map kV) hks
        rw [List.map_map, List.map_map] at this
        exact this
      refine ⟨_, rfl, d, kvs, rfl, hd, fun l1 n1 => ?_⟩
      rw [hkv]
      have r2 : Same H1 _ := Same.new (o := .lst (ks.map V.int)) n1
      have hl1 : upd H1 l1 (.lst (ks.map V.int)) l1 = some (.lst (ks.map V.int)) := upd_same
      generalize upd H1 l1 (.lst (ks.map V.int)) = H2 at r2 hl1 ⊢
      refine ⟨l1, ks, rfl, SqL.of hl1, by omega, fun ys l hperm hsrt nl => ?_⟩
      have r3 : Same H2 _ := Same.new (o := .lst (ys.map V.int)) nl
      have hl : upd H2 l (.lst (ys.map V.int)) l = some (.lst (ys.map V.int)) := upd_same
      generalize upd H2 l (.lst (ys.map V.int)) = H3 at r3 hl ⊢
      have hyl : ys.length ≤ 60 := by rw [hperm.length_eq]; omega
      have s3 := s1.trans (r2.trans r3)
      have hd3 := r3 _ _ (r2 _ _ hd)
      refine ⟨l, rfl, ⟨_, SqL.of hl⟩, fun D hD => lc_list (K := K) (a := l) (xs := ys.map V.int) (fun i H' => Same H3 H' ∧ ∃ ws, H' D = some (.lst ws) ∧ All2 (EnV H') ws (live ((ys.take i).map fun k => (k, mapOf es k)))) ⟨Same.new hD, [], upd_same, .nil⟩
        (fun i H' _ ⟨s1, _⟩ => SqL.of (s1 _ _ hl)) ?_ ?_⟩
      · rintro i v H4 hi ⟨s4, ws, hws, hal4⟩
        rw [List.getElem?_map] at hi
        obtain ⟨kk, hk, rfl⟩ : ∃ kk, ys[i]? = some kk ∧ v = .int kk := by
          cases z : ys[i]? with
          | none => rw [z] at hi; cases hi
          | some kk => rw [z] at hi; exact ⟨kk, rfl, (Option.some.inj hi).symm⟩
        have hil := (List.getElem?_eq_some_iff.mp hk).1
        have hin : kk ∈ ks := hperm.mem_iff.mp (List.mem_of_getElem? hk)
        have hval : valV kvs (Sum.inl kk : Key) = some (ov (mapOf es kk)) := by
          rcases hF.at_ kk with ⟨z, _⟩ | z
          · have h1 : (Sum.inl kk : Key) ∈ kvs.map (·.1) := by rw [hks]; exact List.mem_map.mpr ⟨kk, hin, rfl⟩
            exact absurd h1 (valV_not z)
          · exact z
        have hd4 := s4 _ _ hd3
        have dg : DGet H4 d (.int kk) (some (ov (mapOf es kk))) := by rw [← hval]; exact DGet.k (k := (Sum.inl kk : Key)) hd4
        have wl : ws.length ≤ 60 := by
          rw [hal4.1]
          have := live_len ((ys.take i).map fun k => (k, mapOf es k))
          rw [List.length_map, List.length_take] at this
          omega
        have et : live ((ys.take (i + 1)).map fun k => (k, mapOf es k)) = live ((ys.take i).map fun k => (k, mapOf es k)) ++ (if (mapOf es kk).isSome = true then [(kk, mapOf es kk)] else []) := by
          rw [take_snoc hk, List.map_append]
          unfold live
          rw [List.filter_append]
          congr 1
          show List.filter (fun e : En => e.2.isSome) [(kk, mapOf es kk)] = _
          rw [List.filter_cons]
          rfl
        refine ⟨rfl, ?_⟩
        refine ⟨_, rfl, _, rfl, d, _, rfl, dg, rfl, _, rfl, ?_⟩
        cases hm : mapOf es kk with
        | none =>
          refine iteNS rfl ?_
          refine ⟨s4, ws, hws, ?_⟩
          rw [et, hm]
          simp only [Option.isSome_none, Bool.false_eq_true, if_false, List.append_nil]
          exact hal4
        | some vv =>
          rw [hm] at dg
          have nd' : (!decide (ov (some vv) = V.non)) = true := by rw [decide_eq_false (by intro q; cases q)]; rfl
          rw [nd']
          refine iteT ?_
          refine ⟨_, rfl, _, rfl, _, rfl, d, _, rfl, dg, (by show 2 ≤ sizeLine; decide), fun t nt => ?_⟩
          have r5 : Same H4 _ := Same.new (o := .tup [.int kk, ov (some vv)]) nt
          have kt := (KT.of r5).trans ((KT.refl _).upd (p := D) (o := .lst (ws ++ [.ref t])) (nt_lst (r5 _ _ hws)))
          refine ⟨ws, r5 _ _ hws, small1000 (by omega), Same.upd (s4.trans r5) hD, _, upd_same, ?_⟩
          rw [et, hm]
          refine All2.snoc (hal4.mono fun _ _ q => q.mono kt) ⟨t, rfl, ?_⟩
          rw [upd_ne (ne_of_none hws nt).symm, upd_same]
      · rintro H4 ⟨s4, ws, hws, hal4⟩
        rw [List.length_map, List.take_length] at hal4
        have hD3 : H1 D = none := (r2.trans r3).free hD
        refine k H4 D ws _ (s3.trans s4) (s1.free hD3) hws hal4 (keys_tell hperm hsrt hkn fun kk v h => ?_) ?_
        · rcases hF.at_ kk with ⟨_, z⟩ | z
          · rw [h] at z
            cases z
          · exact key_in hks z
        · have := live_len (ys.map fun k => (k, mapOf es k))
          rw [List.length_map] at this
          omega
end
end Fw
namespace Fw
open PySem L2
section
variable {P : Program} {w : World} {K : PySem.W.Frag} {mg : Str → Option Value} {base : Heap}
/-! ### one edit, at either store -/
def spEdS (CS CR CI CL : Addr) : Sp := fun vs H Q _ => ∃ (M : List Addr) (p lr : Addr) (cap er ed : Int) (buf : List En) (runs : List (Option (List En))) (A B : Nat) (a : Addr) (en : En), vs = [.ref p, .ref a] ∧ Live M H ∧ StV CS CR CI CL M H p lr cap er ed buf runs ∧
  StOkS2 buf runs A B ∧ H a = some (.tup [.int en.1, ov en.2]) ∧ -268435456 ≤ en.1 ∧ en.1 ≤ 268435456 ∧ A ≤ 800 ∧ B ≤ 800 ∧ 0 ≤ er ∧ er ≤ 1000000 ∧
  ∀ (H' : Hp) (buf' : List En) (runs' : List (Option (List En))), Kp [p, lr] H H' → StV CS CR CI CL M H' p lr cap er (ed + 1) buf' runs' → StOkS2 buf' runs' (A + 1) (B + 1) → (∀ k, valS k buf' runs' = if k = en.1 then en.2 else valS k buf runs) → Q .non H'
abbrev nEdit : List Str := ["_law_store", "_law_edit_here"]
theorem scEdit : FnScope nEdit ["_law_store", "_law_edit_here"] (defScope sEdit) := ⟨rfl, rfl, rfl, by decide +kernel, rfl, by decide +kernel, by decide +kernel⟩
theorem ok_edS {f CS CR CI CL : Addr} {fd : FuncData} (F : Fun K "_law_edit" "_law_edit" sEdit f fd) (T : SC K CS) (GP : MeG P w K mg base 13 CS "put" ["self", "key", "value"] (spPut CS CR CI CL)) (GR : MeG P w K mg base 13 CS "remove" ["self", "key"] (spRem CS CR CI CL)) :
    FnOk P w K mg base CX0 14 f fd ["_law_store", "_law_edit_here"] (spEdS CS CR CI CL) := by
  obtain ⟨fp, fdp, mp, Fp, bp⟩ := GP
  obtain ⟨fr, fdr, mr, Fr, br⟩ := GR
  refine F.ok scEdit (fun vs H Q E h => ?_) (fun cdv A0 outer s H vs Q E hr h => ?_)
  · obtain ⟨M, p, lr, cap, er, ed, buf, runs, A, B, a, en, rfl, _⟩ := h
    rfl
  · obtain ⟨M, p, lr, cap, er, ed, buf, runs, A, B, a, en, rfl, hM, hV, hO, ha, x0, x1, hA, hB, er0, er1, k⟩ := h
    obtain ⟨dx, mv, lb, us, rs, _, _, hp, _⟩ := id hV
    refine ⟨_, pss_cons (ps_if (pt_cmpR op_isN (pe_ix ix_tup (pv 1) pe_int (fun _ _ => rfl)) pe_non (nomark _))
        (pss_one (ps_ret (pe_meth (pv 0) T.cl mr Fr hr br .nil pass0 (pa_cons (pe_ix ix_tup (pv 1) pe_int (fun _ _ => rfl)) pa_nil)))) pss_nil)
      (pss_one (ps_ret (pe_meth (pv 0) T.cl mp Fp hr bp .nil pass0 (pa_cons (pe_ix ix_tup (pv 1) pe_int (fun _ _ => rfl)) (pa_cons (pe_ix ix_tup (pv 1) pe_int (fun _ _ => rfl)) pa_nil))))), ?_⟩
    obtain ⟨e1, e2⟩ := en
    refine ⟨_, rfl, a, _, _, _, rfl, rfl, SqT.of ha, atI_nat (j := 1) rfl, rfl, _, rfl, ?_⟩
    cases e2 with
    | none =>
      refine iteT ?_
      refine ⟨_, rfl, p, dx, _, rfl, hp, rfl, _, rfl, a, _, _, _, rfl, rfl, SqT.of ha, atI_nat (j := 0) rfl, ?_⟩
      exact ⟨M, p, lr, cap, er, ed, buf, runs, A, B, e1, rfl, hM, hV, hO, x0, x1, hA, hB, er0, er1, k⟩
    | some v =>
      rw [show decide (ov (some v) = V.non) = false from decide_eq_false (by intro q; cases q)]
      refine iteF ?_
      refine ⟨_, rfl, p, dx, _, rfl, hp, rfl, _, rfl, a, _, _, _, rfl, rfl, SqT.of ha, atI_nat (j := 0) rfl, _, rfl, a, _, _, _, rfl, rfl, SqT.of ha, atI_nat (j := 1) rfl, ?_⟩
      exact ⟨M, p, lr, cap, er, ed, buf, runs, A, B, e1, v, rfl, hM, hV, hO, x0, x1, hA, hB, er0, er1, k⟩
def spEdP (C : Addr) : Sp := fun vs H Q _ => ∃ (p d : Addr) (kvs : Kv) (m : Int → Option Int) (N : Nat) (a : Addr) (en : En), vs = [.ref p, .ref a] ∧ PlV C H p d kvs ∧ PD kvs m N ∧ N ≤ 60 ∧ H a = some (.tup [.int en.1, ov en.2]) ∧
  ∀ (H' : Hp) (kvs' : Kv), Kp [d] H H' → PlV C H' p d kvs' → PD kvs' (fun j => if j = en.1 then en.2 else m j) (N + 1) → Q .non H'
theorem ok_edP {f C : Addr} {fd : FuncData} (F : Fun K "_law_edit" "_law_edit" sEdit f fd) (T : PC K C) (GP : MeG P w K mg base 1 C "put" ["self", "key", "value"] (spPP C)) (GR : MeG P w K mg base 1 C "remove" ["self", "key"] (spPR C)) :
    FnOk P w K mg base CX0 2 f fd ["_law_store", "_law_edit_here"] (spEdP C) := by
  obtain ⟨fp, fdp, mp, Fp, bp⟩ := GP
  obtain ⟨fr, fdr, mr, Fr, br⟩ := GR
  refine F.ok scEdit (fun vs H Q E h => ?_) (fun cdv A0 outer s H vs Q E hr h => ?_)
  · obtain ⟨p, d, kvs, m, N, a, en, rfl, _⟩ := h
    rfl
  · obtain ⟨p, d, kvs, m, N, a, en, rfl, hV, hP, hN, ha, k⟩ := h
    obtain ⟨⟨dx, hp⟩, hd⟩ := id hV
    refine ⟨_, pss_cons (ps_if (pt_cmpR op_isN (pe_ix ix_tup (pv 1) pe_int (fun _ _ => rfl)) pe_non (nomark _))
        (pss_one (ps_ret (pe_meth (pv 0) T.cl mr Fr hr br .nil pass0 (pa_cons (pe_ix ix_tup (pv 1) pe_int (fun _ _ => rfl)) pa_nil)))) pss_nil)
      (pss_one (ps_ret (pe_meth (pv 0) T.cl mp Fp hr bp .nil pass0 (pa_cons (pe_ix ix_tup (pv 1) pe_int (fun _ _ => rfl)) (pa_cons (pe_ix ix_tup (pv 1) pe_int (fun _ _ => rfl)) pa_nil))))), ?_⟩
    obtain ⟨e1, e2⟩ := en
    have hl := hP.len
    refine ⟨_, rfl, a, _, _, _, rfl, rfl, SqT.of ha, atI_nat (j := 1) rfl, rfl, _, rfl, ?_⟩
    cases e2 with
    | none =>
      refine iteT ?_
      refine ⟨_, rfl, p, dx, _, rfl, hp, rfl, _, rfl, a, _, _, _, rfl, rfl, SqT.of ha, atI_nat (j := 0) rfl, ?_⟩
      refine ⟨p, d, kvs, e1, rfl, hV, hP.nd, fun H' k1 V' => k H' _ k1 V' ?_⟩
      have := pd_drop hP e1
      exact ⟨this.nd, this.ks, this.at_, Nat.le_succ_of_le this.len⟩
    | some v =>
      rw [show decide (ov (some v) = V.non) = false from decide_eq_false (by intro q; cases q)]
      refine iteF ?_
      refine ⟨_, rfl, p, dx, _, rfl, hp, rfl, _, rfl, a, _, _, _, rfl, rfl, SqT.of ha, atI_nat (j := 0) rfl, _, rfl, a, _, _, _, rfl, rfl, SqT.of ha, atI_nat (j := 1) rfl, ?_⟩
      exact ⟨p, d, kvs, e1, v, rfl, hV, by omega, fun H' k1 V' => k H' _ k1 V' (pd_put hP e1 v)⟩
end
end Fw
namespace Fw
open PySem L2
/-! ### lists of entries, compared -/
def oD : Option Int → PyData
  | none => .none
  | some v => .int v
def eD (e : En) : PyData := .tuple [.int e.1, oD e.2]
def esD (es : List En) : PyData := .list (es.map eD)
theorem dp_ov {K : PySem.W.Frag} {H : Hp} (c : Option Int) : Dp K H (ov c) (oD c) := by
  cases c with
  | none => exact .non
  | some v => exact .int v
theorem All2.uncons {α β : Type} {R : α → β → Prop} {x : α} {y : β} {xs : List α} {ys : List β} (h : All2 R (x :: xs) (y :: ys)) : R x y ∧ All2 R xs ys := by
  refine ⟨h.2 0 x y rfl rfl, ?_, fun i a b h1 h2 => h.2 (i + 1) a b (by simpa using h1) (by simpa using h2)⟩
  have := h.1
  rw [List.length_cons, List.length_cons] at this
  omega
theorem dp_all {K : PySem.W.Frag} {H I : Hp} (s : ∀ b xs, I b = some (.tup xs) → H b = some (.tup xs)) : ∀ (zs : List V) (es : List En), All2 (EnV I) zs es → DpAll K H zs (es.map eD)
  | [], [], _ => .nil
  | [], _ :: _, h => by have := h.1; simp at this
  | _ :: _, [], h => by have := h.1; simp at this
  | z :: zs, e :: es, h => by
    obtain ⟨⟨a, rfl, ha⟩, ht⟩ := h.uncons
    exact .cons (.tup (SqT.of (s _ _ ha)) (.cons (.int _) (.cons (dp_ov _) .nil))) (dp_all s zs es ht)
theorem dp_ens {K : PySem.W.Frag} {H I : Hp} {a : Addr} {zs : List V} {es : List En} (s : ∀ b xs, I b = some (.tup xs) → H b = some (.tup xs)) (h : H a = some (.lst zs)) (hz : All2 (EnV I) zs es) : Dp K H (.ref a) (esD es) := .lst (SqL.of h) (dp_all s zs es hz)
theorem lay_ens : ∀ es : List En, PyData.canLayAll0 (es.map eD) = true
  | [] => by simp [PyData.canLayAll0]
  | (x, none) :: r => by simp [PyData.canLayAll0, PyData.canLay0, eD, oD, lay_ens r]
  | (x, some v) :: r => by simp [PyData.canLayAll0, PyData.canLay0, eD, oD, lay_ens r]
theorem deep_ens : ∀ es : List En, PyData.depthAll (es.map eD) ≤ 10
  | [] => by simp [PyData.depthAll]
  | (x, none) :: r => by
    have := deep_ens r
    simp only [List.map_cons, PyData.depthAll, eD, oD, PyData.depth]
    omega
  | (x, some v) :: r => by
    have := deep_ens r
    simp only [List.map_cons, PyData.depthAll, eD, oD, PyData.depth]
    omega
theorem sh_ens (es : List En) : SeqAt.shaped (esD es) = true := by
  have h1 := deep_ens es
  have h2 : PyData.depth (esD es) ≤ 64 := by unfold esD; simp only [PyData.depth]; omega
  show (PyData.canLay0 (esD es) && decide (PyData.depth (esD es) ≤ 64)) = true
  rw [Bool.and_eq_true]
  exact ⟨by unfold esD; simp only [PyData.canLay0]; exact lay_ens es, decide_eq_true h2⟩
theorem eqv_ens (es : List En) : PyData.eqv (esD es) (esD es) = true := SeqAt.eqv_refl _ (SeqAt.canLay_of_shaped (sh_ens es))
theorem scal_ov (a b : Option Int) : scal (ov a) (ov b) = true := by cases a <;> cases b <;> rfl
theorem cutV_take (xs : List V) (j : Nat) : cutV xs none (some (j : Int)) = xs.take j := by
  unfold cutV
  rw [HT.sIx_nat, HT.sIx_none, List.drop_zero, Nat.sub_zero, List.take_eq_take_iff]
  omega
end Fw
namespace Fw
open PySem L2
/-! ### the law -/
theorem iteNE {b : Bool} {A B : Prop} (h : b = true) (hB : B) : if (!b) = true then A else B := by rw [h]; exact hB
abbrev sLaw : Stmt := top 33
structure LI (CS CR CI CL CP : Addr) (H1 : Hp) (p lr p2 d2 d3 la : Addr) (cap er : Int) (es : List En) (asked : List Int) (H : Hp) (k : Nat) (buf : List En) (runs : List (Option (List En))) (kvs2 kvs3 : Kv) : Prop where
  s1 : Same H1 H
  la : H la = some (.lst (asked.map V.int))
  st : StV CS CR CI CL [p, lr, p2, d2, d3] H p lr cap er (k : Int) buf runs
  ok : StOkS2 buf runs k k
  pl : PlV CP H p2 d2 kvs2
  pd : PD kvs2 (mapOf (es.take k)) k
  h3 : H d3 = some (.dK kvs3)
  fd : FD kvs3 (mapOf (es.take k)) k
  val : ∀ x, valS x buf runs = mapOf (es.take k) x
section
variable {CS CR CI CL CP : Addr} {H1 : Hp} {p lr p2 d2 d3 la : Addr} {cap er : Int} {es : List En} {asked : List Int} {H H' : Hp} {k : Nat} {buf : List En} {runs : List (Option (List En))} {kvs2 kvs3 : Kv}
theorem PlV.kp {S : List Addr} (a : Kp S H H') (n1 : p2 ∉ S) (n2 : d2 ∉ S) (h : PlV CP H p2 d2 kvs2) : PlV CP H' p2 d2 kvs2 := by
  obtain ⟨⟨dx, h1⟩, h2⟩ := h
  exact ⟨⟨dx, a.at h1 n1⟩, a.at h2 n2⟩
theorem LI.same (a : Same H H') (h : LI CS CR CI CL CP H1 p lr p2 d2 d3 la cap er es asked H k buf runs kvs2 kvs3) : LI CS CR CI CL CP H1 p lr p2 d2 d3 la cap er es asked H' k buf runs kvs2 kvs3 :=
  ⟨h.s1.trans a, a _ _ h.la, h.st.same a, h.ok, h.pl.kp (S := []) (Kp.of a) (by simp) (by simp), h.pd, a _ _ h.h3, h.fd, h.val⟩
theorem LI.live (h : LI CS CR CI CL CP H1 p lr p2 d2 d3 la cap er es asked H k buf runs kvs2 kvs3) : Live [p, lr, p2, d2, d3] H := by
  obtain ⟨dx, mv, lb, us, rs, _, _, g1, g2, _⟩ := h.st
  obtain ⟨⟨dx2, g3⟩, g4⟩ := h.pl
  have g5 := h.h3
  intro b hb
  simp only [List.mem_cons, List.not_mem_nil, or_false] at hb
  rcases hb with rfl | rfl | rfl | rfl | rfl
  · rw [g1]; exact fun q => by cases q
  · rw [g2]; exact fun q => by cases q
  · rw [g3]; exact fun q => by cases q
  · rw [g4]; exact fun q => by cases q
  · rw [g5]; exact fun q => by cases q
theorem LI.tells (h : LI CS CR CI CL CP H1 p lr p2 d2 d3 la cap er es asked H k buf runs kvs2 kvs3) {cs : List En} (t : Tells (mapOf (es.take k)) cs) : contS buf runs = cs := tells_eq (cont_tells h.ok) t h.val
/-- what the two stores' cells are, by their kinds -/
structure LD (H1 : Hp) (p lr p2 d2 d3 la : Addr) : Prop where
  fp : H1 p = none
  fl : H1 lr = none
  f2 : H1 d2 = none
  f3 : H1 d3 = none
  pp : p2 ≠ p
  ll : la ≠ lr
  dd : d3 ≠ d2
/-- the invariant behind one edit at both stores and in the found dict -/
theorem LI.step (D : LD H1 p lr p2 d2 d3 la) (h : LI CS CR CI CL CP H1 p lr p2 d2 d3 la cap er es asked H k buf runs kvs2 kvs3) {e : En} (he : es[k]? = some e) {Ha Hb : Hp} {buf' : List En} {runs' : List (Option (List En))} {kvs2' : Kv}
    (ka : Kp [p, lr] H Ha) (va : StV CS CR CI CL [p, lr, p2, d2, d3] Ha p lr cap er ((k : Int) + 1) buf' runs') (oa : StOkS2 buf' runs' (k + 1) (k + 1)) (wa : ∀ x, valS x buf' runs' = if x = e.1 then e.2 else valS x buf runs)
    (kb : Kp [d2] Ha Hb) (vb : PlV CP Hb p2 d2 kvs2') (pb : PD kvs2' (fun j => if j = e.1 then e.2 else mapOf (es.take k) j) (k + 1)) :
    Hb d3 = some (.dK kvs3) ∧ LI CS CR CI CL CP H1 p lr p2 d2 d3 la cap er es asked (upd Hb d3 (.dK (putK kvs3 (Sum.inl e.1 : Key) (ov e.2)))) (k + 1) buf' runs' kvs2' (putK kvs3 (Sum.inl e.1 : Key) (ov e.2)) := by
  obtain ⟨dx, mv, lb, us, rs, _, _, g1, g2, _⟩ := id h.st
  obtain ⟨⟨dx2, g3⟩, g4⟩ := id h.pl
  have g5 := h.h3
  have nd3 : d3 ∉ [p, lr] := by simp only [List.mem_cons, List.not_mem_nil, or_false, not_or]; exact ⟨ne_of g5 g1 (by intro q; cases q), ne_of g5 g2 (by intro q; cases q)⟩
  have nd2 : d2 ∉ [p, lr] := by simp only [List.mem_cons, List.not_mem_nil, or_false, not_or]; exact ⟨ne_of g4 g1 (by intro q; cases q), ne_of g4 g2 (by intro q; cases q)⟩
  have np2 : p2 ∉ [p, lr] := by simp only [List.mem_cons, List.not_mem_nil, or_false, not_or]; exact ⟨D.pp, ne_of g3 g2 (by intro q; cases q)⟩
  have nla : la ∉ [p, lr] := by simp only [List.mem_cons, List.not_mem_nil, or_false, not_or]; exact ⟨ne_of h.la g1 (by intro q; cases q), D.ll⟩
  have a3 := ka.at g5 nd3
  have al := ka.at h.la nla
  have as1 : Same H1 Ha := same_kp h.s1 ka (by simp only [List.mem_cons, List.not_mem_nil, or_false, forall_eq_or_imp, forall_eq]; exact ⟨D.fp, D.fl⟩)
  have b3 := kb.at a3 (by simp only [List.mem_cons, List.not_mem_nil, or_false]; exact D.dd)
  have bl := kb.at al (by simp only [List.mem_cons, List.not_mem_nil, or_false]; exact ne_of h.la g4 (by intro q; cases q))
  have bs1 : Same H1 Hb := same_kp as1 kb (by simp only [List.mem_cons, List.not_mem_nil, or_false, forall_eq]; exact D.f2)
  have bst := va.kp kb (by simp) (by simp only [List.mem_cons, List.not_mem_nil, or_false]; exact ne_of g1 g4 (by intro q; cases q)) (by simp only [List.mem_cons, List.not_mem_nil, or_false]; exact ne_of g2 g4 (by intro q; cases q))
  have kc : Kp [d3] Hb (upd Hb d3 (.dK (putK kvs3 (Sum.inl e.1 : Key) (ov e.2)))) := (Kp.refl _ _).upd (.inl (List.mem_singleton.mpr rfl))
  have ek : ((k + 1 : Nat) : Int) = (k : Int) + 1 := by omega
  have em : ∀ j, mapOf (es.take (k + 1)) j = if j = e.1 then e.2 else mapOf (es.take k) j := fun j => by rw [take_snoc he, mapOf_snoc]
  have em' : (fun j => if j = e.1 then e.2 else mapOf (es.take k) j) = mapOf (es.take (k + 1)) := funext fun j => (em j).symm
  refine ⟨b3, same_kp bs1 kc (by simp only [List.mem_cons, List.not_mem_nil, or_false, forall_eq]; exact D.f3), kc.at bl (by simp only [List.mem_cons, List.not_mem_nil, or_false]; exact ne_of h.la g5 (by intro q; cases q)), ?_, oa, ?_, ?_, upd_same, ?_, fun x => ?_⟩
  · rw [ek]
    exact bst.kp kc (by simp) (by simp only [List.mem_cons, List.not_mem_nil, or_false]; exact ne_of g1 g5 (by intro q; cases q)) (by simp only [List.mem_cons, List.not_mem_nil, or_false]; exact ne_of g2 g5 (by intro q; cases q))
  · exact vb.kp kc (by simp only [List.mem_cons, List.not_mem_nil, or_false]; exact ne_of g3 g5 (by intro q; cases q)) (by simp only [List.mem_cons, List.not_mem_nil, or_false]; exact D.dd.symm)
  · rw [← em']
    exact pb
  · rw [← em']
    exact fd_put h.fd e.1 e.2
  · rw [wa, em, h.val]
end
end Fw
namespace Fw
open PySem L2
/-! ### the law's walk -/
def spLaw (K : PySem.W.Frag) : Sp := fun vs H Q _ => ∃ (a : Addr) (ns : List Int), vs = [.ref a] ∧ SqL K H a (ns.map V.int) ∧ ∀ H', Q (.bl true) H'
abbrev nLaw : List Str := ["_law_script", "_law_capacity", "_law_error", "_law_edits_here", "_law_store", "_law_plain", "_law_asked", "_law_found", "_law_k", "_law_key", "_law_value", "_law_one", "_law_due", "_law_a", "_law_b", "_law_digit", "_law_pair"]
theorem scLaw : FnScope nLaw ["_law_script"] (defScope sLaw) := ⟨rfl, rfl, rfl, by decide +kernel, rfl, by decide +kernel, by decide +kernel⟩
section
variable {P : Program} {w : World} {K : PySem.W.Frag} {mg : Str → Option Value} {base : Heap}
theorem ok_law {f CS CR CI CL CP : Addr} {fd : FuncData} (F : Fun K "law" "law" sLaw f fd) (T : SC K CS) (TP : PC K CP)
    (GC : FnG P w K mg base 1 "_law_cell" ["_law_script", "_law_k"] (spCe K)) (GD : FnG P w K mg base 1 "_law_digits" ["_law_cell_here", "_law_many", "_law_count"] spDig)
    (GE : FnG P w K mg base 2 "_law_edits" ["_law_script", "_law_place", "_law_most"] (spEds K)) (GN : FnG P w K mg base 1 "_law_done" ["_law_edits_here"] spDone)
    (GX : FnG P w K mg base 14 "_law_edit" ["_law_store", "_law_edit_here"] (spEdS CS CR CI CL)) (GY : FnG P w K mg base 2 "_law_edit" ["_law_store", "_law_edit_here"] (spEdP CP))
    (GS : ClG P w K mg base 1 "Store" CS ["self", "capacity", "error"] (spStI CS)) (GP : ClG P w K mg base 1 "PlainStore" CP ["self"] (spPI CP))
    (Gg : MeG P w K mg base 6 CS "get" ["self", "key"] (spGet CS CR CI CL)) (Gc : MeG P w K mg base 2 CS "contents" ["self"] (spCon CS CR CI CL)) (Gb : MeG P w K mg base 3 CS "between" ["self", "a", "b"] (spBet CS CR CI CL))
    (Gpg : MeG P w K mg base 1 CP "get" ["self", "key"] (spPG CP)) (Gpc : MeG P w K mg base 1 CP "contents" ["self"] (spPC CP))
    (mL : mg "len" = none) (mI : mg "int" = none) (mR : mg "range" = none) : FnOk P w K mg base CX0 15 f fd ["_law_script"] (spLaw K) := by
  obtain ⟨fg, fdg, mg1, Fg, bg⟩ := Gg
  obtain ⟨fc, fdc, mc1, Fc, bc⟩ := Gc
  obtain ⟨fb, fdb, mb1, Fb, bb⟩ := Gb
  obtain ⟨fpg, fdpg, mpg, Fpg, bpg⟩ := Gpg
  obtain ⟨fpc, fdpc, mpc, Fpc, bpc⟩ := Gpc
  refine F.ok scLaw (fun vs H Q E h => ?_) (fun cdv A0 outer s H vs Q E hr h => ?_)
  · obtain ⟨a, ns, rfl, _⟩ := h
    rfl
  · obtain ⟨a, ns, rfl, ha, kq⟩ := h
    have hr1 : Room 1 _ := hr.mono (by decide)
    have hr2 : Room 2 _ := hr.mono (by decide)
    have hr3 : Room 3 _ := hr.mono (by decide)
    have hr6 : Room 6 _ := hr.mono (by decide)
    have hu := hu_of hr
    refine ⟨_, pss_cons (ps_set (i := 1) scLaw.nd rfl (.inl rfl) (pe_op op_add pe_int (pe_op op_mod (pe_callTy call_int1 (by rfl) mI (by decide +kernel) (pa_cons (pe_callG GC hr1 (by rfl) (pa_cons (pv 0) (pa_cons pe_int pa_nil))) pa_nil)) pe_int)))
      (pss_cons (ps_set (i := 2) scLaw.nd rfl (.inl rfl) (pe_op op_mod (pe_callTy call_int1 (by rfl) mI (by decide +kernel) (pa_cons (pe_op op_fdiv (pe_callG GC hr1 (by rfl) (pa_cons (pv 0) (pa_cons pe_int pa_nil))) pe_int) pa_nil)) pe_int))
      (pss_cons (ps_set (i := 3) scLaw.nd rfl (.inl rfl) (pe_callG GE hr2 (by rfl) (pa_cons (pv 0) (pa_cons pe_int (pa_cons pe_int pa_nil)))))
      (pss_cons (ps_set (i := 4) scLaw.nd rfl (.inl rfl) (pe_makeG GS hr2 (by rfl) (pa_cons (pv 1) (pa_cons (pv 2) pa_nil))))
      (pss_cons (ps_set (i := 5) scLaw.nd rfl (.inl rfl) (pe_make0G GP hr2 (by rfl)))
      (pss_cons (ps_if (PW.pt (pw_or (pt_cmpR op_ne (pe_fld (pv 4) rfl) (pv 1) (nomark _)) (pw_or (pt_cmpR op_ne (pe_fld (pv 4) rfl) (pv 2) (nomark _))
          (pw_or1 (pt_cmpR (op_neD hr.units) (pe_meth0 (pv 4) T.cl mc1 Fc hr2 bc .nil pass0) (pe_lst pa_nil) (nomark _)))))) (pss_one (ps_ret pe_bl)) pss_nil)
      (pss_cons (ps_setLc (i := 6) (own := [("_law_digit", 15)]) (g := gName 15) (tt := tYes) (te := tOp (rI0 fun i j => .int (i - j)) (tCB (fun xs H Q => (∃ i, xs = [.int i] ∧ Q (.int i) H) ∨ ∃ k, xs = [.bl k] ∧ Q (.int (if k then 1 else 0)) H) (tCons (tVar 15) tNil)) (tC (.int 10))) rfl scLaw.nd rfl rfl
        (sw_true rfl rfl rfl (by decide +kernel)) (pi_list (pe_callG GD hr1 (by rfl) (pa_cons (pe_callG GC hr1 (by rfl) (pa_cons (pv 0) (pa_cons pe_int pa_nil))) (pa_cons pe_int (pa_cons pe_int pa_nil)))))
        (blkOk_by (N := nLaw) (sc := defScope sLaw) (own := [("_law_digit", 15)]) (by decide +kernel)) (fun _ _ _ _ _ => pg_name (i := 15) scLaw.nd rfl (.inl rfl)) (fun _ _ _ _ _ => pts_nil)
        (fun _ _ _ _ _ => pe_op op_sub (pe_callTy call_int1 (by rfl) mI (by decide +kernel) (pa_cons (pv 15) pa_nil)) pe_int))
      (pss_cons (ps_set (i := 7) scLaw.nd rfl (.inl rfl) pe_dnewK)
      (pss_cons (ps_for PassesOwn.never rfl (pi_range1 (by rfl) mR (pa_cons (pe_callB call_len_seq (by rfl) mL PySem.boot_len (pa_cons (pv 3) pa_nil)) pa_nil)) (pg_name (i := 8) scLaw.nd rfl (.inl rfl))
        (pss_cons (ps_asg (pe_ix ix_list (pv 3) (pv 8) (fun _ _ => rfl)) (pg_tup (by rfl) (pgs_cons (pg_name (i := 9) scLaw.nd rfl (.inl rfl)) (pgs_cons (pg_name (i := 10) scLaw.nd rfl (.inl rfl)) pgs_nil))))
        (pss_cons (ps_if (PW.pt (pw_or (pt_cmpR op_notN (pe_callG GX hr (by rfl) (pa_cons (pv 4) (pa_cons (pe_ix ix_list (pv 3) (pv 8) (fun _ _ => rfl)) pa_nil))) pe_non (nomark _))
            (pw_or1 (pt_cmpR op_notN (pe_callG GY hr2 (by rfl) (pa_cons (pv 5) (pa_cons (pe_ix ix_list (pv 3) (pv 8) (fun _ _ => rfl)) pa_nil))) pe_non (nomark _))))) (pss_one (ps_ret pe_bl)) pss_nil)
        (pss_cons (ps_dput hu (pv 7) (pv 9) (pv 10) rfl)
        (pss_cons (ps_for PassesOwn.never rfl (pi_list (pe_op op_cat (pv 6) (pe_lst (pa_cons (pv 9) (pa_cons (pe_op op_add (pv 9) pe_int) pa_nil))))) (pg_name (i := 11) scLaw.nd rfl (.inl rfl))
          (pss_one (ps_if (PW.pt (pw_or (pt_cmpR op_ne (pe_meth (pv 4) T.cl mg1 Fg hr6 bg .nil pass0 (pa_cons (pv 11) pa_nil)) (pe_dget2 hu (pv 7) (pv 11) pe_non ⟨rfl, rfl, rfl, rfl⟩) (nomark _))
              (pw_or1 (pt_cmpR op_ne (pe_meth (pv 5) TP.cl mpg Fpg hr1 bpg .nil pass0 (pa_cons (pv 11) pa_nil)) (pe_dget2 hu (pv 7) (pv 11) pe_non ⟨rfl, rfl, rfl, rfl⟩) (nomark _))))) (pss_one (ps_ret pe_bl)) pss_nil)))
        (pss_one (ps_if (PW.pt (pw_or (pt_cmpR op_ne (pe_fld (pv 4) rfl) (pe_op op_add (pv 8) pe_int) (nomark _))
            (pw_or1 (PW.pt (pw_and (pt_cmpR op_eq (pe_op op_mod (pe_callTy call_int1 (by rfl) mI (by decide +kernel) (pa_cons (pv 8) pa_nil)) pe_int) pe_int (nomark _))
              (pw_and1 (pt_cmpR (op_neD hr.units) (pe_meth0 (pv 4) T.cl mc1 Fc hr2 bc .nil pass0) (pe_callG GN hr1 (by rfl) (pa_cons (pe_slice sl_list (pv 3) po_none (po_some (pe_op op_add (pv 8) pe_int))) pa_nil)) (nomark _))))))))
            (pss_one (ps_ret pe_bl)) pss_nil)))))))
      (pss_cons (ps_set (i := 12) scLaw.nd rfl (.inl rfl) (pe_callG GN hr1 (by rfl) (pa_cons (pv 3) pa_nil)))
      (pss_cons (ps_expr (pe_bm PySem.F.plainAttrs_list PySem.F.slot_list_append PySem.F.type_list_append mt_append (pe_meth0 (pv 4) T.cl mc1 Fc hr2 bc .nil pass0) (pa_cons (pe_tup (pa_cons pe_int (pa_cons pe_int pa_nil))) pa_nil)))
      (pss_cons (ps_if (PW.pt (pw_or (pt_cmpR (op_neD hr.units) (pe_meth0 (pv 4) T.cl mc1 Fc hr2 bc .nil pass0) (pv 12) (nomark _))
          (pw_or1 (pt_cmpR (op_neD hr.units) (pe_meth0 (pv 5) TP.cl mpc Fpc hr1 bpc .nil pass0) (pv 12) (nomark _))))) (pss_one (ps_ret pe_bl)) pss_nil)
      (pss_cons (ps_set (i := 13) scLaw.nd rfl (.inr rfl) (pe_op op_sub (pe_op op_mod (pe_callTy call_int1 (by rfl) mI (by decide +kernel) (pa_cons (pe_callG GC hr1 (by rfl) (pa_cons (pv 0) (pa_cons pe_int pa_nil))) pa_nil)) pe_int) pe_int))
      (pss_cons (ps_set (i := 14) scLaw.nd rfl (.inr rfl) (pe_op op_sub (pe_op op_add (pv 13) (pe_op op_mod (pe_callTy call_int1 (by rfl) mI (by decide +kernel) (pa_cons (pe_callG GC hr1 (by rfl) (pa_cons (pv 0) (pa_cons pe_int pa_nil))) pa_nil)) pe_int)) pe_int))
      (pss_one (ps_ret (pe_cmpR (op_eqD hr.units) (pe_meth (pv 4) T.cl mb1 Fb hr3 bb .nil pass0 (pa_cons (pv 13) (pa_cons (pv 14) pa_nil)))
        (pe_lc (own := [("_law_pair", 16)]) (g := gName 16) (tt := tTest (tChain (rI0 fun i j => .bl (decide (i ≤ j))) (rI0 fun i j => .bl (decide (i ≤ j))) (tVar 13) (tOp (rIxT K) (tVar 16) (tC (.int 0))) (tVar 14))) (te := tVar 16) rfl scLaw.nd
          (pi_list (pv 12)) (blkOk_by (N := nLaw) (sc := defScope sLaw) (own := [("_law_pair", 16)]) (by decide +kernel)) (fun _ _ _ _ _ => pg_name (i := 16) scLaw.nd rfl (.inl rfl)) (fun _ _ _ _ _ => pts_one (pt_chain op_le op_le (pv 13) (pe_ix ix_tup (pv 16) pe_int (fun _ _ => rfl)) (pv 14))) (fun _ _ _ _ _ => pv 16)) (nomark _))))))))))))))))), ?_⟩
    -- capacity, error, edits
    refine ⟨_, rfl, a, ns, 0, rfl, ha, .inl ⟨_, rfl, _, _, rfl, rfl, (by show (0 : Int) < 5; decide), _, _, rfl, rfl, ?_⟩⟩
    have er0 := Int.emod_nonneg (ns.getD 0 0 / 5) (show (4 : Int) ≠ 0 by decide)
    have er1 := Int.emod_lt_of_pos (ns.getD 0 0 / 5) (show (0 : Int) < 4 by decide)
    refine ⟨_, rfl, a, ns, 0, rfl, ha, ?_⟩
    refine ⟨_, _, rfl, rfl, ⟨by decide, by decide⟩, .inl ⟨_, rfl, _, _, rfl, rfl, (by show (0 : Int) < 4; decide), ?_⟩⟩
    refine ⟨_, rfl, a, ns, rfl, ha, fun H1 le zs es s01 nle hle hzs hel hkeys => ?_⟩
    have ha1 := s01.seq ha
    -- the two stores
    refine ⟨_, rfl, _, rfl, fun p dx np ndx nex => ⟨p, dx, 1 + ns.getD 0 0 % 5, ns.getD 0 0 / 5 % 4, rfl, upd_same, fun H2 lb lr k2 nlb nlr nbr hp hlb hlr => ⟨rfl, ?_⟩⟩⟩
    have s12 : Same H1 H2 := made_same np ndx k2
    obtain ⟨_, _, mlb⟩ := made_free nlb
    obtain ⟨_, _, mlr⟩ := made_free nlr
    refine fun p2 dx2 np2 ndx2 nex2 => ⟨p2, dx2, rfl, upd_same, fun H3 d2 k3 nd2 hPl => ⟨rfl, ?_⟩⟩
    have s23 : Same H2 H3 := made_same np2 ndx2 k3
    obtain ⟨_, _, md2⟩ := made_free nd2
    have s13 := s12.trans s23
    have hp3 := s23 _ _ hp
    have hlb3 := s23 _ _ hlb
    have hlr3 := s23 _ _ hlr
    obtain ⟨⟨dxp, hpp3⟩, hd23⟩ := id hPl
    have npp : p2 ≠ p := (ne_of_none hp np2).symm
    have nblr : lb ≠ p := ne_of hlb hp (by intro q; cases q)
    -- a new store is empty
    refine ⟨_, rfl, p, CS, dx, _, _, rfl, hp3, T.cl, T.nC, rfl, _, rfl, rfl, _, rfl, iteNS rfl ?_⟩
    refine ⟨_, rfl, p, CS, dx, _, _, rfl, hp3, T.cl, T.nR, rfl, _, rfl, rfl, _, rfl, iteNS rfl ?_⟩
    have ok0 : StOkS2 [] [] 0 0 := ⟨.nil, fun es h => (nomatch h), fun e h => (nomatch h), Nat.le_refl _, Nat.le_refl _⟩
    have hV3 : StV CS CR CI CL [p, lr] H3 p lr (1 + ns.getD 0 0 % 5) (ns.getD 0 0 / 5 % 4) 0 [] [] :=
      ⟨dx, 0, lb, [], [], by simp, by simp, hp3, hlr3, hid_mk hlb3 (by simp; exact ⟨nblr, nbr⟩), .nil, .nil⟩
    have hM3 : Live [p, lr] H3 := fun b hb => by
      simp only [List.mem_cons, List.not_mem_nil, or_false] at hb
      rcases hb with rfl | rfl
      · rw [hp3]; exact fun q => by cases q
      · rw [hlr3]; exact fun q => by cases q
    refine ⟨_, rfl, p, dx, _, rfl, hp3, rfl, [p, lr], p, lr, _, _, 0, [], [], 0, 0, rfl, hM3, hV3, ok0, by decide, fun H4 lc zs4 s34 nlc hlc hz4 hl4 => ?_⟩
    refine ⟨Nat.zero_le _, fun l5 n5 => ?_⟩
    have s45 : Same H4 _ := Same.new (o := .lst []) n5
    have hl5 : upd H4 l5 (.lst []) l5 = some (.lst []) := upd_same
    generalize upd H4 l5 (.lst []) = H5 at s45 hl5 ⊢
    refine ⟨esD [], esD [], dp_ens (fun b xs h => s45 _ _ (hid_some h).1) (s45 _ _ hlc) hz4, dp_ens (fun b xs h => h) hl5 (.nil (R := EnV H5)), sh_ens _, sh_ens _, _, rfl, iteNE (eqv_ens []) ?_⟩
    have s15 := s13.trans (s34.trans s45)
    have s35 := s34.trans s45
    -- the asked keys
    refine ⟨_, rfl, a, ns, 3, rfl, s15.seq ha1, _, 41, 3, rfl, by decide, by decide, by decide, by decide, fun H6 ld ds s56 nld hld hdl hdb => ?_⟩
    refine ⟨ld, rfl, ⟨_, SqL.of hld⟩, fun la hla0 => lc_list (K := K) (a := ld) (xs := ds.map V.int) (fun i H' => Same H6 H' ∧ ∃ ws : List Int, H' la = some (.lst (ws.map V.int)) ∧ ws.length = i) ⟨Same.new hla0, [], upd_same, rfl⟩ (fun i H' _ ⟨s1, _⟩ => SqL.of (s1 _ _ hld)) ?_ ?_⟩
    · rintro i v H' hi ⟨s6, ws, hws, hwl⟩
      rw [List.getElem?_map] at hi
      obtain ⟨dd, hd, rfl⟩ : ∃ dd, ds[i]? = some dd ∧ v = .int dd := by
        cases z : ds[i]? with
        | none => rw [z] at hi; cases hi
        | some kk => rw [z] at hi; exact ⟨kk, rfl, (Option.some.inj hi).symm⟩
      have hil := (List.getElem?_eq_some_iff.mp hd).1
      refine ⟨rfl, ?_⟩
      refine ⟨_, rfl, .inl ⟨_, rfl, _, _, rfl, rfl, ?_⟩⟩
      exact ⟨ws.map V.int, hws, small1000 (by rw [List.length_map]; omega), Same.upd s6 hla0, ws ++ [dd - 10], by rw [upd_same, List.map_append]; rfl, by rw [List.length_append, List.length_singleton, hwl]⟩
    rintro H7 ⟨s67, asked, hla, hal⟩
    rw [List.length_map] at hal
    have hdl' : ds.length = 3 := by omega
    -- the found dict
    intro d3 nd3
    have s78 : Same H7 _ := Same.new (o := .dK []) nd3
    have hd38 : upd H7 d3 (.dK []) d3 = some (.dK []) := upd_same
    generalize upd H7 d3 (.dK []) = H8 at s78 hd38 ⊢
    have s38 := s35.trans (s56.trans (s67.trans s78))
    have s18 := s13.trans s38
    have hlr6 := s56 _ _ (s35 _ _ hlr3)
    have hd27 := s67 _ _ (s56 _ _ (s35 _ _ hd23))
    have D0 : LD H1 p lr p2 d2 d3 la := ⟨np, mlr, s12.free md2, (s15.trans (s56.trans s67)).free nd3, npp, (ne_of_none hlr6 hla0).symm, (ne_of_none hd27 nd3).symm⟩
    have I0 : LI CS CR CI CL CP H1 p lr p2 d2 d3 la (1 + ns.getD 0 0 % 5) (ns.getD 0 0 / 5 % 4) es asked H8 0 [] [] [] [] := by
      refine ⟨s18, s78 _ _ hla, ⟨dx, 0, lb, [], [], by simp, by simp, s38 _ _ hp3, s38 _ _ hlr3, hid_mk (s38 _ _ hlb3) ?_, .nil, .nil⟩, ok0, ⟨⟨dxp, s38 _ _ hpp3⟩, s38 _ _ hd23⟩, pd_nil fun _ => rfl, hd38, fd_nil fun _ => rfl, fun x => rfl⟩
      simp only [List.mem_cons, List.not_mem_nil, or_false, not_or]
      exact ⟨nblr, nbr, ne_of hlb3 hpp3 (by intro q; cases q), ne_of hlb3 hd23 (by intro q; cases q), ne_of (s38 _ _ hlb3) hd38 (by intro q; cases q)⟩
    have hzl := hzs.1
    -- the loop over the edits
    refine ⟨_, rfl, le, zs, rfl, .inl (SqL.of (s18 _ _ hle)), (zs.length : Int), rfl, by omega, by omega, for_range (lo := 0) (n := zs.length) (fun i σ H' => ∃ (v8 v9 v10 v11 : Option V) (buf : List En) (runs : List (Option (List En))) (kvs2 kvs3 : Kv),
      σ = [some (.ref a), some (.int (1 + ns.getD 0 0 % 5)), some (.int (ns.getD 0 0 / 5 % 4)), some (.ref le), some (.ref p), some (.ref p2), some (.ref la), some (.ref d3), v8, v9, v10, v11, none, none, none, none, none] ∧
      LI CS CR CI CL CP H1 p lr p2 d2 d3 la (1 + ns.getD 0 0 % 5) (ns.getD 0 0 / 5 % 4) es asked H' i buf runs kvs2 kvs3) ⟨none, none, none, none, [], [], [], [], rfl, I0⟩ ?_ ?_⟩
    · rintro i σ H9 hi ⟨v8, v9, v10, v11, buf, runs, kvs2, kvs3, rfl, I9⟩
      obtain ⟨v, hv⟩ : ∃ v, zs[i]? = some v := ⟨_, List.getElem?_eq_getElem hi⟩
      obtain ⟨en, hen, ae, rfl, hae⟩ := hzs.left hv
      have hle9 := I9.s1 _ _ hle
      have hae9 := I9.s1 _ _ hae
      obtain ⟨kx0, kx1⟩ := hkeys en (List.mem_of_getElem? hen)
      -- the key and the value
      refine ⟨_, rfl, _, rfl, le, _, _, _, rfl, rfl, SqL.of hle9, at_of (j := i) (by omega) hv, ?_⟩
      refine ⟨ae, _, rfl, SqT.of hae9, rfl, _, _, rfl, _, _, rfl, rfl, ?_⟩
      -- the edit at the store
      obtain ⟨dx9, mv9, lb9, us9, rs9, _, _, hp9, _⟩ := id I9.st
      refine ⟨_, rfl, _, rfl, _, rfl, le, _, _, _, rfl, rfl, SqL.of hle9, at_of (j := i) (by omega) hv, ?_⟩
      refine ⟨[p, lr, p2, d2, d3], p, lr, _, _, _, buf, runs, i, i, ae, en, rfl, I9.live, I9.st, I9.ok, hae9, by omega, by omega, by omega, by omega, er0, by omega, fun Ha buf' runs' ka Va Oa vala => ?_⟩
      refine ⟨rfl, _, rfl, iteNS rfl ?_⟩
      -- the edit at the plain store
      obtain ⟨⟨dx10, hpp9⟩, hd29⟩ := id I9.pl
      have np2 : p2 ∉ [p, lr] := by
        obtain ⟨_, _, _, _, _, _, _, _, hlr9, _⟩ := id I9.st
        simp only [List.mem_cons, List.not_mem_nil, or_false, not_or]
        exact ⟨D0.pp, ne_of hpp9 hlr9 (by intro q; cases q)⟩
      have nd2' : d2 ∉ [p, lr] := by
        obtain ⟨_, _, _, _, _, _, _, _, hlr9, _⟩ := id I9.st
        simp only [List.mem_cons, List.not_mem_nil, or_false, not_or]
        exact ⟨ne_of hd29 hp9 (by intro q; cases q), ne_of hd29 hlr9 (by intro q; cases q)⟩
      have s1a : Same H1 Ha := same_kp I9.s1 ka (by simp only [List.mem_cons, List.not_mem_nil, or_false, forall_eq_or_imp, forall_eq]; exact ⟨D0.fp, D0.fl⟩)
      refine ⟨_, rfl, _, rfl, _, rfl, le, _, _, _, rfl, rfl, SqL.of (s1a _ _ hle), at_of (j := i) (by omega) hv, ?_⟩
      refine ⟨p2, d2, kvs2, mapOf (es.take i), i, ae, en, rfl, I9.pl.kp ka np2 nd2', I9.pd, by omega, s1a _ _ hae, fun Hb kvs2' kb Vb Pb => ?_⟩
      refine ⟨rfl, _, rfl, iteNS rfl ?_⟩
      -- the found dict
      obtain ⟨hb3, I10⟩ := I9.step D0 hen ka Va Oa vala kb Vb Pb
      have hl3 := I9.fd.len
      refine ⟨_, rfl, _, rfl, _, rfl, d3, _, rfl, DPut.k (k := (Sum.inl en.1 : Key)) hb3 (small1000 (by omega)), ?_⟩
      generalize putK kvs3 (Sum.inl en.1 : Key) (ov en.2) = kvs4 at I10 ⊢
      generalize upd Hb d3 (.dK kvs4) = Hc at I10 ⊢
      -- the keys asked
      have hla10 := I10.la
      refine ⟨_, rfl, _, rfl, _, rfl, _, _, rfl, rfl, (by show 2 ≤ sizeLine; decide), fun l11 n11 => ?_⟩
      have s11 : Same Hc _ := Same.new (o := .lst [.int en.1, .int (en.1 + 1)]) n11
      have hl11 : upd Hc l11 (.lst [.int en.1, .int (en.1 + 1)]) l11 = some (.lst [.int en.1, .int (en.1 + 1)]) := upd_same
      generalize upd Hc l11 (.lst [.int en.1, .int (en.1 + 1)]) = Hd at s11 hl11 ⊢
      refine ⟨la, l11, _, _, rfl, rfl, s11 _ _ hla10, hl11, (by rw [List.length_map, hal, hdl']; show 5 ≤ sizeLine; decide), fun l12 n12 => ?_⟩
      have s12 : Same Hd _ := Same.new (o := .lst (asked.map V.int ++ [.int en.1, .int (en.1 + 1)])) n12
      have hl12 : upd Hd l12 (.lst (asked.map V.int ++ [.int en.1, .int (en.1 + 1)])) l12 = some (.lst (asked.map V.int ++ [.int en.1, .int (en.1 + 1)])) := upd_same
      generalize upd Hd l12 (.lst (asked.map V.int ++ [.int en.1, .int (en.1 + 1)])) = He at s12 hl12 ⊢
      have hxs : ∀ (j : Nat) (v : V), (asked.map V.int ++ [V.int en.1, V.int (en.1 + 1)])[j]? = some v → ∃ x : Int, v = .int x := fun j v h => by
        have h := List.mem_of_getElem? h
        rcases List.mem_append.mp h with h | h
        · obtain ⟨x, _, e⟩ := List.mem_map.mp h
          exact ⟨x, e.symm⟩
        · simp only [List.mem_cons, List.not_mem_nil, or_false] at h
          rcases h with h | h
          · exact ⟨_, h⟩
          · exact ⟨_, h⟩
      have Ie := I10.same (s11.trans s12)
      refine ⟨l12, rfl, ⟨_, SqL.of hl12⟩, for_list (K := K) (a := l12) (xs := asked.map V.int ++ [V.int en.1, V.int (en.1 + 1)]) (fun j σ H' => ∃ w11 : Option V, σ = [some (.ref a), some (.int (1 + ns.getD 0 0 % 5)), some (.int (ns.getD 0 0 / 5 % 4)), some (.ref le), some (.ref p), some (.ref p2), some (.ref la), some (.ref d3), some (.int (0 + (i : Int))), some (.int en.1), some (ov en.2), w11, none, none, none, none, none] ∧ Same He H') ⟨_, rfl, Same.refl He⟩ (fun j σ H' _ ⟨_, _, sf⟩ => SqL.of (sf _ _ hl12)) ?_ ?_⟩
      · rintro j v σ Hf hj ⟨w11, rfl, sf⟩
        obtain ⟨x, rfl⟩ := hxs j v hj
        have I11 := Ie.same sf
        obtain ⟨dx11, mv11, lb11, us11, rs11, _, _, hp11, _⟩ := id I11.st
        refine ⟨_, rfl, p, dx11, _, rfl, hp11, rfl, _, rfl, [p, lr, p2, d2, d3], p, lr, _, _, _, buf', runs', i + 1, i + 1, x, rfl, I11.st, I11.ok, fun Hg sg => ?_⟩
        have I12 := I11.same sg
        refine ⟨_, rfl, d3, rfl, .inl ⟨kvs4, .inl I12.h3⟩, _, rfl, _, DGet.k (k := (Sum.inl x : Key)) I12.h3, ?_⟩
        refine ⟨by rw [fd_get I12.fd]; exact scal_ov _ _, _, rfl, iteNS (by rw [fd_get I12.fd, I12.val]) ?_⟩
        obtain ⟨⟨dx12, hpp12⟩, hd212⟩ := id I12.pl
        refine ⟨_, rfl, p2, dx12, _, rfl, hpp12, rfl, _, rfl, p2, d2, kvs2', x, rfl, I12.pl, ?_⟩
        refine ⟨_, rfl, d3, rfl, .inl ⟨kvs4, .inl I12.h3⟩, _, rfl, _, DGet.k (k := (Sum.inl x : Key)) I12.h3, ?_⟩
        refine ⟨by rw [pd_get I12.pd, fd_get I12.fd]; exact scal_ov _ _, _, rfl, iteNS (by rw [pd_get I12.pd, fd_get I12.fd]) ?_⟩
        exact ⟨_, rfl, sf.trans sg⟩
      rintro σ Hf ⟨w11, rfl, sf⟩
      have I13 := Ie.same sf
      obtain ⟨dx13, mv13, lb13, us13, rs13, _, _, hp13, _⟩ := id I13.st
      -- the count of edits
      refine ⟨_, rfl, p, CS, dx13, _, _, rfl, hp13, T.cl, T.nE, rfl, _, rfl, _, _, rfl, rfl, rfl, _, rfl, iteNS (congrArg V.int (by omega)) ?_⟩
      refine ⟨_, rfl, .inl ⟨_, rfl, _, _, rfl, rfl, (by show (0 : Int) < 7; decide), rfl, _, rfl, ite2 (fun q => ?_) (fun q => ?_)⟩⟩
      · refine ⟨_, rfl, p, dx13, _, rfl, hp13, rfl, [p, lr, p2, d2, d3], p, lr, _, _, _, buf', runs', i + 1, i + 1, rfl, I13.live, I13.st, I13.ok, by omega, fun Hg lc zc sg nlc hlc hzc hcl => ?_⟩
        have I14 := I13.same sg
        refine ⟨_, rfl, _, rfl, _, _, rfl, rfl, _, rfl, le, zs, rfl, SqL.of (I14.s1 _ _ hle), fun ls nls => ?_⟩
        have ecut : cutV zs none (some (0 + (i : Int) + 1)) = zs.take (i + 1) := by
          rw [show (0 + (i : Int) + 1) = ((i + 1 : Nat) : Int) by omega]
          exact cutV_take _ _
        have sl : Same Hg _ := Same.new (o := .lst (cutV zs none (some (0 + (i : Int) + 1)))) nls
        have hls : upd Hg ls (.lst (cutV zs none (some (0 + (i : Int) + 1)))) ls = some (.lst (zs.take (i + 1))) := by rw [upd_same, ecut]
        have I15 := I14.same sl
        refine ⟨ls, zs.take (i + 1), es.take (i + 1), rfl, hls, (ens_same I15.s1 hzs).take _, by rw [List.length_take]; omega, fun Hh r ws cs sh nr hr' hcs hT hl => ?_⟩
        have ecs := I15.tells hT
        subst ecs
        exact ⟨_, _, dp_ens (fun b xs h => sh _ _ (sl _ _ (hid_some h).1)) (sh _ _ (sl _ _ hlc)) hzc, dp_ens (fun b xs h => h) hr' hcs, sh_ens _, sh_ens _, _, rfl, iteNE (eqv_ens _) ⟨_, _, _, _, buf', runs', kvs2', kvs4, rfl, I15.same sh⟩⟩
      · exact iteF ⟨_, _, _, _, buf', runs', kvs2', kvs4, rfl, I13⟩
    · rintro σ H20 ⟨v8, v9, v10, v11, buf, runs, kvs2, kvs3, rfl, I20⟩
      have et : es.take zs.length = es := by rw [hzl, List.take_length]
      -- what is due
      refine ⟨_, rfl, le, zs, es, rfl, I20.s1 _ _ hle, ens_same I20.s1 hzs, by omega, fun H21 ldue ws cs s21 nldue hldue hcs hT hcl => ?_⟩
      have I21 := I20.same s21
      have hT' : Tells (mapOf (es.take zs.length)) cs := by rw [et]; exact hT
      have ecs := I21.tells hT'
      obtain ⟨dx21, mv21, lb21, us21, rs21, _, _, hp21, _⟩ := id I21.st
      -- the contents are a list of their own
      refine ⟨_, rfl, p, dx21, _, rfl, hp21, rfl, [p, lr, p2, d2, d3], p, lr, _, _, _, buf, runs, zs.length, zs.length, rfl, I21.live, I21.st, I21.ok, by omega, fun H22 lc zc s22 nlc hlc hzc hzl2 => ?_⟩
      refine ⟨.inl ⟨rfl, _, SqL.of hlc⟩, (by show 2 ≤ sizeLine; decide), fun t nt => ?_⟩
      have stt : Same H22 _ := Same.new (o := .tup [.int 0, .int 0]) nt
      refine ⟨lc, zc, .ref t, rfl, rfl, stt _ _ hlc, small1000 (by rw [hzc.1]; omega), ?_⟩
      have s23 : Same H21 _ := Same.upd (o := .lst (zc ++ [.ref t])) (s22.trans stt) nlc
      generalize upd (upd H22 t (.tup [.int 0, .int 0])) lc (.lst (zc ++ [.ref t])) = H23 at s23 ⊢
      have I23 := I21.same s23
      have hp23 := s23 _ _ hp21
      -- the contents
      refine ⟨_, rfl, p, dx21, _, rfl, hp23, rfl, [p, lr, p2, d2, d3], p, lr, _, _, _, buf, runs, zs.length, zs.length, rfl, I23.live, I23.st, I23.ok, by omega, fun H24 lc2 zc2 s24 nlc2 hlc2 hzc2 hzl3 => ?_⟩
      rw [ecs] at hzc2
      have s214 := s23.trans s24
      refine ⟨_, rfl, esD cs, esD cs, dp_ens (fun b xs h => (hid_some h).1) hlc2 hzc2, dp_ens (fun b xs h => s214 _ _ h) (s214 _ _ hldue) hcs, sh_ens _, sh_ens _, _, rfl, iteNE (eqv_ens _) ?_⟩
      have I24 := I23.same s24
      obtain ⟨⟨dx24, hpp24⟩, hd224⟩ := id I24.pl
      refine ⟨_, rfl, p2, dx24, _, rfl, hpp24, rfl, [p, lr, p2, d2, d3], p2, d2, kvs2, mapOf (es.take zs.length), zs.length, rfl, I24.live, I24.pl, I24.pd, by omega, fun H25 lp zp csp s25 nlp hlp hzp hTp hlp2 => ?_⟩
      have ecp : csp = cs := tells_eq hTp hT' fun _ => rfl
      rw [ecp] at hzp
      have s215 := s214.trans s25
      refine ⟨_, rfl, esD cs, esD cs, dp_ens (fun b xs h => (hid_some h).1) hlp hzp, dp_ens (fun b xs h => s215 _ _ h) (s215 _ _ hldue) hcs, sh_ens _, sh_ens _, _, rfl, iteNE (eqv_ens _) ?_⟩
      have I25 := I24.same s25
      have ha25 := I25.s1.seq ha1
      have hp25 := s215 _ _ hp21
      -- the bounds
      refine ⟨_, rfl, a, ns, 4, rfl, ha25, .inl ⟨_, rfl, _, _, rfl, rfl, (by show (0 : Int) < 41; decide), _, _, rfl, rfl, ?_⟩⟩
      refine ⟨_, rfl, _, rfl, a, ns, 5, rfl, ha25, .inl ⟨_, rfl, _, _, rfl, rfl, (by show (0 : Int) < 30; decide), _, _, rfl, rfl, _, _, rfl, rfl, ?_⟩⟩
      -- between
      refine ⟨_, rfl, p, dx21, _, rfl, hp25, rfl, _, rfl, _, rfl, [p, lr, p2, d2, d3], p, lr, _, _, _, buf, runs, zs.length, zs.length, (ns.getD 4 0 % 41 - 20), (ns.getD 4 0 % 41 - 20 + ns.getD 5 0 % 30 - 3), rfl, I25.live, I25.st, I25.ok, by omega, fun H26 lb2 zb s26 nlb2 hlb2 hzb => ?_⟩
      rw [ecs] at hzb
      have s216 := s215.trans s26
      have hldue6 := s216 _ _ hldue
      refine ⟨_, rfl, ldue, rfl, ⟨_, SqL.of hldue6⟩, fun lD hlD => lc_list (K := K) (a := ldue) (xs := ws) (fun i H' => Same H26 H' ∧ ∃ xs, H' lD = some (.lst xs) ∧ All2 (EnV H21) xs ((cs.take i).filter (fun e => decide ((ns.getD 4 0 % 41 - 20) ≤ e.1) && decide (e.1 ≤ (ns.getD 4 0 % 41 - 20 + ns.getD 5 0 % 30 - 3))))) ⟨Same.new hlD, [], upd_same, .nil⟩ (fun i H' _ ⟨s1, _⟩ => SqL.of (s1 _ _ hldue6)) ?_ ?_⟩
      · rintro i v H27 hi ⟨s27, xs, hxs, hal7⟩
        obtain ⟨en, hen, ae, rfl, hae⟩ := hcs.left hi
        have hil := (List.getElem?_eq_some_iff.mp hen).1
        have et2 : (cs.take (i + 1)).filter (fun e => decide ((ns.getD 4 0 % 41 - 20) ≤ e.1) && decide (e.1 ≤ (ns.getD 4 0 % 41 - 20 + ns.getD 5 0 % 30 - 3))) = (cs.take i).filter (fun e => decide ((ns.getD 4 0 % 41 - 20) ≤ e.1) && decide (e.1 ≤ (ns.getD 4 0 % 41 - 20 + ns.getD 5 0 % 30 - 3))) ++ (if (decide ((ns.getD 4 0 % 41 - 20) ≤ en.1) && decide (en.1 ≤ (ns.getD 4 0 % 41 - 20 + ns.getD 5 0 % 30 - 3))) = true then [en] else []) := by
          rw [take_snoc hen, List.filter_append]
          congr 1
          split <;> simp_all
        have wl : xs.length ≤ 900 := by
          rw [hal7.1]
          have := List.length_filter_le (fun e : En => decide ((ns.getD 4 0 % 41 - 20) ≤ e.1) && decide (e.1 ≤ (ns.getD 4 0 % 41 - 20 + ns.getD 5 0 % 30 - 3))) (cs.take i)
          rw [List.length_take] at this
          omega
        have no : (decide ((ns.getD 4 0 % 41 - 20) ≤ en.1) && decide (en.1 ≤ (ns.getD 4 0 % 41 - 20 + ns.getD 5 0 % 30 - 3))) = false → Same H26 H27 ∧ ∃ xs, H27 lD = some (.lst xs) ∧ All2 (EnV H21) xs ((cs.take (i + 1)).filter (fun e => decide ((ns.getD 4 0 % 41 - 20) ≤ e.1) && decide (e.1 ≤ (ns.getD 4 0 % 41 - 20 + ns.getD 5 0 % 30 - 3)))) := fun q => by
          refine ⟨s27, xs, hxs, ?_⟩
          rw [et2, q]
          simp only [Bool.false_eq_true, if_false, List.append_nil]
          exact hal7
        refine ⟨rfl, ?_⟩
        refine ⟨_, rfl, _, rfl, ae, _, _, _, rfl, rfl, SqT.of (s27 _ _ (s216 _ _ hae)), atI_nat (j := 0) rfl, _, _, rfl, rfl, _, rfl, ite2 (fun q => ?_) (fun q => ?_)⟩
        · refine ⟨_, rfl, _, _, rfl, rfl, _, rfl, ite2 (fun q2 => ?_) (fun q2 => ?_)⟩
          · refine ⟨_, rfl, xs, hxs, small1000 (by omega), Same.upd s27 hlD, _, upd_same, ?_⟩
            rw [et2, q, q2]
            exact hal7.snoc ⟨ae, rfl, hae⟩
          · refine no ?_
            rw [q]
            cases z : decide (en.1 ≤ (ns.getD 4 0 % 41 - 20 + ns.getD 5 0 % 30 - 3)) with
            | true => exact absurd z q2
            | false => rfl
        · have q1 : decide ((ns.getD 4 0 % 41 - 20) ≤ en.1) = false := by
            cases z : decide ((ns.getD 4 0 % 41 - 20) ≤ en.1) with
            | true => exact absurd z q
            | false => rfl
          refine ⟨_, rfl, iteF (no ?_)⟩
          rw [q1]
          rfl
      · rintro H27 ⟨s27, xs, hxs, hal7⟩
        rw [hcs.1, List.take_length] at hal7
        refine ⟨_, _, dp_ens (fun b xs h => s27 _ _ (hid_some h).1) (s27 _ _ hlb2) hzb, dp_ens (fun b xs h => s27 _ _ (s216 _ _ h)) hxs hal7, sh_ens _, sh_ens _, ?_⟩
        rw [eqv_ens]
        exact kq _
end
end Fw
namespace Fw
open PySem L2
/-! ### the facts of the written heap, in groups -/
def Fd (K : PySem.W.Frag) (x qual : Str) (st : Stmt) (f : Addr) : Prop := ∃ fd, Fun K x qual st f fd
theorem fd_mk {K : PySem.W.Frag} {x qual : Str} {st : Stmt} {f : Addr} {oc : Value} {od an : Option Addr} {osl : Array (Option Value)} {kV doc pm cdv ct : Value} (l : K.lookup f = some ⟨oc, od, .func (PySem.W.fnOf x qual (defArgs st) (defBody st) (defScope st) .none kV doc pm an cdv ct), osl⟩)
    (c : PySem.W.codeIn K cdv qual = true) (k : PySem.W.keepIn K (.ref f) = true) : Fd K x qual st f := ⟨_, fun_mk l c k⟩
structure Gd (K : PySem.W.Frag) (x : Str) (st : Stmt) (f : Addr) : Prop where
  ns : PySem.W.nsIn K mainGlobals x = some (some (.ref f))
  fd : Fd K x x st f
structure Md (K : PySem.W.Frag) (C : Addr) (x qual : Str) (st : Stmt) (f : Addr) : Prop where
  me : Meth K C x f
  fd : Fd K x qual st f
structure Cd (K : PySem.W.Frag) (C : Addr) (x : Str) : Prop where
  ns : PySem.W.nsIn K mainGlobals x = some (some (.ref C))
  cl : Cls K C
  ms : PySem.W.makesIn K C = true
  kp : PySem.W.keepIn K (.ref C) = true
theorem cd_mk {K : PySem.W.Frag} {C : Addr} {x : Str} (a : PySem.W.nsIn K mainGlobals x = some (some (.ref C))) (pg : PySem.W.plainGet K C Str.empty = true) (hd : PySem.W.hasDictIn K C = true) (po : PySem.W.plainOver K C = true)
    (sa : PySem.W.findIn K (.ref C) "__setattr__" = some (some (.builtin "object.__setattr__"))) (mk : PySem.W.makesIn K C = true) (kc : PySem.W.keepIn K (.ref C) = true) : Cd K C x := ⟨a, ⟨pg, hd, po, sa⟩, mk, kc⟩
theorem Md.mk' {K : PySem.W.Frag} {C f : Addr} {x qual : Str} {st : Stmt} (c : PySem.W.findIn K (.ref C) x = some (some (.ref f))) (i : PySem.W.isFn K (.ref f) = true) (k : PySem.W.keepIn K (.ref f) = true) (F : Fd K x qual st f) : Md K C x qual st f := ⟨⟨c, i, k⟩, F⟩
theorem all_mk {l : PySem.W.OpenLaw} {w : World} {K : PySem.W.Frag} {h : Heap} {mg : Str → Option Value} {fa fLaw : Addr} {u : Tok} {fCd fFl fCe fFr fSl fLw fTu fRi fBe fCu fMr fLc fLd fLe fLn fLx CFi CCg CLv CIx CRu CSt CPl fFiI fFiC fFiA fFiK fFiL fFiR fFiN fCgI fLvI fLvE fLvF fIxI fIxL fIxR fRuI fRuE fStI fStP fStR fStW fStF fStG fStC fStB fPlI fPlP fPlR fPlG fPlC : Addr} (X : K.In h) (G : h.Ns mainGlobals mg) (hfa : mg "law" = some (.ref fa))
    {odL anL : Option Addr} {slL : Array (Option Value)} {ocL kVL dcL pmL cdL ctL : Value}
    (gCd : Gd K "common_divisor" sCd fCd)
    (gFl : Gd K "floor_at" sFloor fFl)
    (gCe : Gd K "ceiling_at" sCeil fCe)
    (gFr : Gd K "fraction" sFrac fFr)
    (gSl : Gd K "slope_between" sSlope fSl)
    (gLw : Gd K "line_with_slope" sLws fLw)
    (gTu : Gd K "turn" sTurn fTu)
    (gRi : Gd K "rise_over" sRise fRi)
    (gBe : Gd K "is_below" sBelow fBe)
    (gCu : Gd K "cut" sCut fCu)
    (gMr : Gd K "merged" sMrg fMr)
    (gLc : Gd K "_law_cell" sCell fLc)
    (gLd : Gd K "_law_digits" sDig fLd)
    (gLe : Gd K "_law_edits" sEds fLe)
    (gLn : Gd K "_law_done" sDone fLn)
    (gLx : Gd K "_law_edit" sEdit fLx)
    (cFi : Cd K CFi "Fitter")
    (nFi0 : PySem.W.findIn K (.ref CFi) "error" = some none)
    (nFi1 : PySem.W.findIn K (.ref CFi) "count" = some none)
    (nFi2 : PySem.W.findIn K (.ref CFi) "_points" = some none)
    (nFi3 : PySem.W.findIn K (.ref CFi) "_tops" = some none)
    (nFi4 : PySem.W.findIn K (.ref CFi) "_bottoms" = some none)
    (nFi5 : PySem.W.findIn K (.ref CFi) "_flat" = some none)
    (nFi6 : PySem.W.findIn K (.ref CFi) "_steep" = some none)
    (cCg : Cd K CCg "Cutting")
    (nCg0 : PySem.W.findIn K (.ref CCg) "pieces" = some none)
    (nCg1 : PySem.W.findIn K (.ref CCg) "reasons" = some none)
    (cLv : Cd K CLv "Level")
    (nLv0 : PySem.W.findIn K (.ref CLv) "marks" = some none)
    (nLv1 : PySem.W.findIn K (.ref CLv) "error" = some none)
    (nLv2 : PySem.W.findIn K (.ref CLv) "pieces" = some none)
    (cIx : Cd K CIx "Index")
    (nIx0 : PySem.W.findIn K (.ref CIx) "stored" = some none)
    (nIx1 : PySem.W.findIn K (.ref CIx) "_levels" = some none)
    (cRu : Cd K CRu "Run")
    (nRu0 : PySem.W.findIn K (.ref CRu) "entries" = some none)
    (nRu1 : PySem.W.findIn K (.ref CRu) "index" = some none)
    (cSt : Cd K CSt "Store")
    (nSt0 : PySem.W.findIn K (.ref CSt) "moves" = some none)
    (nSt1 : PySem.W.findIn K (.ref CSt) "edits" = some none)
    (nSt2 : PySem.W.findIn K (.ref CSt) "capacity" = some none)
    (nSt3 : PySem.W.findIn K (.ref CSt) "error" = some none)
    (nSt4 : PySem.W.findIn K (.ref CSt) "_buffer" = some none)
    (nSt5 : PySem.W.findIn K (.ref CSt) "_runs" = some none)
    (cPl : Cd K CPl "PlainStore")
    (nPl0 : PySem.W.findIn K (.ref CPl) "_values" = some none)
    (mFiI : Md K CFi "__init__" "Fitter.__init__" sFi fFiI)
    (mFiC : Md K CFi "conflict" "Fitter.conflict" sFconf fFiC)
    (mFiA : Md K CFi "add" "Fitter.add" sFadd fFiA)
    (mFiK : Md K CFi "add_corners" "Fitter.add_corners" sFcor fFiK)
    (mFiL : Md K CFi "lower_steep" "Fitter.lower_steep" sFlow fFiL)
    (mFiR : Md K CFi "raise_flat" "Fitter.raise_flat" sFrai fFiR)
    (mFiN : Md K CFi "line" "Fitter.line" sFline fFiN)
    (mCgI : Md K CCg "__init__" "Cutting.__init__" sCuI fCgI)
    (mLvI : Md K CLv "__init__" "Level.__init__" sLvI fLvI)
    (mLvE : Md K CLv "end_of" "Level.end_of" sEnd fLvE)
    (mLvF : Md K CLv "find" "Level.find" sFind fLvF)
    (mIxI : Md K CIx "__init__" "Index.__init__" sIxI fIxI)
    (mIxL : Md K CIx "look_up" "Index.look_up" sLook fIxL)
    (mIxR : Md K CIx "rank" "Index.rank" sRank fIxR)
    (mRuI : Md K CRu "__init__" "Run.__init__" sRunI fRuI)
    (mRuE : Md K CRu "entry" "Run.entry" sEntry fRuE)
    (mStI : Md K CSt "__init__" "Store.__init__" sStI fStI)
    (mStP : Md K CSt "put" "Store.put" sPut fStP)
    (mStR : Md K CSt "remove" "Store.remove" sRem fStR)
    (mStW : Md K CSt "write" "Store.write" sWri fStW)
    (mStF : Md K CSt "flush" "Store.flush" sFlu fStF)
    (mStG : Md K CSt "get" "Store.get" sGet fStG)
    (mStC : Md K CSt "contents" "Store.contents" sCon fStC)
    (mStB : Md K CSt "between" "Store.between" sBet fStB)
    (mPlI : Md K CPl "__init__" "PlainStore.__init__" sPI fPlI)
    (mPlP : Md K CPl "put" "PlainStore.put" sPP fPlP)
    (mPlR : Md K CPl "remove" "PlainStore.remove" sPR fPlR)
    (mPlG : Md K CPl "get" "PlainStore.get" sPG fPlG)
    (mPlC : Md K CPl "contents" "PlainStore.contents" sPC fPlC)
    (zabs : PySem.W.nsIn K mainGlobals "abs" = some none)
    (zlen : PySem.W.nsIn K mainGlobals "len" = some none)
    (zmax : PySem.W.nsIn K mainGlobals "max" = some none)
    (zmin : PySem.W.nsIn K mainGlobals "min" = some none)
    (zlist : PySem.W.nsIn K mainGlobals "list" = some none)
    (zenumerate : PySem.W.nsIn K mainGlobals "enumerate" = some none)
    (zrange : PySem.W.nsIn K mainGlobals "range" = some none)
    (zany : PySem.W.nsIn K mainGlobals "any" = some none)
    (zsorted : PySem.W.nsIn K mainGlobals "sorted" = some none)
    (zint : PySem.W.nsIn K mainGlobals "int" = some none)
    (zU : PySem.W.nsIn K mainGlobals "UPPER" = some (some (.int 1 u)))
    (aL : PySem.W.nsIn K mainGlobals "law" = some (some (.ref fLaw))) (lL : K.lookup fLaw = some ⟨ocL, odL, .func (PySem.W.fnOf "law" "law" (defArgs sLaw) (defBody sLaw) (defScope sLaw) .none kVL dcL pmL anL cdL ctL), slL⟩) (kcL : PySem.W.codeIn K cdL "law" = true) (kpL : PySem.W.keepIn K (.ref fLaw) = true) :
    ∃ fd : FuncData, (∀ (s : Shared) (v : Value), BindsTo s fd ⟨[v], []⟩ [("_law_script", v)]) ∧ ∀ base : Heap, K.In base → base.Ns mainGlobals mg → FnOk l.prog w K mg base CX0 15 fa fd ["_law_script"] (spLaw K) := by
  have e := hfa.symm.trans (PySem.W.mg_of X G aL)
  cases e
  have yabs := PySem.W.mg_none_of X G zabs
  have ylen := PySem.W.mg_none_of X G zlen
  have ymax := PySem.W.mg_none_of X G zmax
  have ymin := PySem.W.mg_none_of X G zmin
  have ylist := PySem.W.mg_none_of X G zlist
  have yenumerate := PySem.W.mg_none_of X G zenumerate
  have yrange := PySem.W.mg_none_of X G zrange
  have yany := PySem.W.mg_none_of X G zany
  have ysorted := PySem.W.mg_none_of X G zsorted
  have yint := PySem.W.mg_none_of X G zint
  have yU := PySem.W.mg_of X G zU
  have TFi : FC K CFi := ⟨cFi.cl, nFi0, nFi1, nFi2, nFi3, nFi4, nFi5, nFi6⟩
  have TCg : CC K CCg := ⟨cCg.cl, nCg0, nCg1⟩
  have TLv : LC K CLv := ⟨cLv.cl, nLv0, nLv1, nLv2⟩
  have TIx : IC K CIx := ⟨cIx.cl, nIx0, nIx1⟩
  have TRu : RC K CRu := ⟨cRu.cl, nRu0, nRu1⟩
  have TSt : SC K CSt := ⟨cSt.cl, nSt0, nSt1, nSt2, nSt3, nSt4, nSt5⟩
  have TPl : PC K CPl := ⟨cPl.cl, nPl0⟩
  obtain ⟨dCd, FCd⟩ := gCd.fd
  have bCd := FCd.binds (ps := ["one", "other"]) fun _ _ _ _ _ _ us hl => match us, hl with | [_, _], _ => rfl
  have aCd := PySem.W.mg_of X G gCd.ns
  obtain ⟨dFl, FFl⟩ := gFl.fd
  have bFl := FFl.binds (ps := ["line", "place"]) fun _ _ _ _ _ _ us hl => match us, hl with | [_, _], _ => rfl
  have aFl := PySem.W.mg_of X G gFl.ns
  obtain ⟨dCe, FCe⟩ := gCe.fd
  have bCe := FCe.binds (ps := ["line", "place"]) fun _ _ _ _ _ _ us hl => match us, hl with | [_, _], _ => rfl
  have aCe := PySem.W.mg_of X G gCe.ns
  obtain ⟨dFr, FFr⟩ := gFr.fd
  have bFr := FFr.binds (ps := ["numerator", "denominator"]) fun _ _ _ _ _ _ us hl => match us, hl with | [_, _], _ => rfl
  have aFr := PySem.W.mg_of X G gFr.ns
  obtain ⟨dSl, FSl⟩ := gSl.fd
  have bSl := FSl.binds (ps := ["lower", "upper"]) fun _ _ _ _ _ _ us hl => match us, hl with | [_, _], _ => rfl
  have aSl := PySem.W.mg_of X G gSl.ns
  obtain ⟨dLw, FLw⟩ := gLw.fd
  have bLw := FLw.binds (ps := ["points", "error", "slope"]) fun _ _ _ _ _ _ us hl => match us, hl with | [_, _, _], _ => rfl
  have aLw := PySem.W.mg_of X G gLw.ns
  obtain ⟨dTu, FTu⟩ := gTu.fd
  have bTu := FTu.binds (ps := ["one", "two", "three"]) fun _ _ _ _ _ _ us hl => match us, hl with | [_, _, _], _ => rfl
  have aTu := PySem.W.mg_of X G gTu.ns
  obtain ⟨dRi, FRi⟩ := gRi.fd
  have bRi := FRi.binds (ps := ["one", "other"]) fun _ _ _ _ _ _ us hl => match us, hl with | [_, _], _ => rfl
  have aRi := PySem.W.mg_of X G gRi.ns
  obtain ⟨dBe, FBe⟩ := gBe.fd
  have bBe := FBe.binds (ps := ["one", "other"]) fun _ _ _ _ _ _ us hl => match us, hl with | [_, _], _ => rfl
  have aBe := PySem.W.mg_of X G gBe.ns
  obtain ⟨dCu, FCu⟩ := gCu.fd
  have bCu := FCu.binds (ps := ["points", "error"]) fun _ _ _ _ _ _ us hl => match us, hl with | [_, _], _ => rfl
  have aCu := PySem.W.mg_of X G gCu.ns
  obtain ⟨dMr, FMr⟩ := gMr.fd
  have bMr := FMr.binds (ps := ["newer", "older"]) fun _ _ _ _ _ _ us hl => match us, hl with | [_, _], _ => rfl
  have aMr := PySem.W.mg_of X G gMr.ns
  obtain ⟨dLc, FLc⟩ := gLc.fd
  have bLc := FLc.binds (ps := ["_law_script", "_law_k"]) fun _ _ _ _ _ _ us hl => match us, hl with | [_, _], _ => rfl
  have aLc := PySem.W.mg_of X G gLc.ns
  obtain ⟨dLd, FLd⟩ := gLd.fd
  have bLd := FLd.binds (ps := ["_law_cell_here", "_law_many", "_law_count"]) fun _ _ _ _ _ _ us hl => match us, hl with | [_, _, _], _ => rfl
  have aLd := PySem.W.mg_of X G gLd.ns
  obtain ⟨dLe, FLe⟩ := gLe.fd
  have bLe := FLe.binds (ps := ["_law_script", "_law_place", "_law_most"]) fun _ _ _ _ _ _ us hl => match us, hl with | [_, _, _], _ => rfl
  have aLe := PySem.W.mg_of X G gLe.ns
  obtain ⟨dLn, FLn⟩ := gLn.fd
  have bLn := FLn.binds (ps := ["_law_edits_here"]) fun _ _ _ _ _ _ us hl => match us, hl with | [_], _ => rfl
  have aLn := PySem.W.mg_of X G gLn.ns
  obtain ⟨dLx, FLx⟩ := gLx.fd
  have bLx := FLx.binds (ps := ["_law_store", "_law_edit_here"]) fun _ _ _ _ _ _ us hl => match us, hl with | [_, _], _ => rfl
  have aLx := PySem.W.mg_of X G gLx.ns
  obtain ⟨dFiI, FFiI⟩ := mFiI.fd
  have bFiI := FFiI.binds (ps := ["self", "error"]) fun _ _ _ _ _ _ us hl => match us, hl with | [_, _], _ => rfl
  obtain ⟨dFiC, FFiC⟩ := mFiC.fd
  have bFiC := FFiC.binds (ps := ["self", "point"]) fun _ _ _ _ _ _ us hl => match us, hl with | [_, _], _ => rfl
  obtain ⟨dFiA, FFiA⟩ := mFiA.fd
  have bFiA := FFiA.binds (ps := ["self", "point"]) fun _ _ _ _ _ _ us hl => match us, hl with | [_, _], _ => rfl
  obtain ⟨dFiK, FFiK⟩ := mFiK.fd
  have bFiK := FFiK.binds (ps := ["self", "top", "bottom"]) fun _ _ _ _ _ _ us hl => match us, hl with | [_, _, _], _ => rfl
  obtain ⟨dFiL, FFiL⟩ := mFiL.fd
  have bFiL := FFiL.binds (ps := ["self", "top"]) fun _ _ _ _ _ _ us hl => match us, hl with | [_, _], _ => rfl
  obtain ⟨dFiR, FFiR⟩ := mFiR.fd
  have bFiR := FFiR.binds (ps := ["self", "bottom"]) fun _ _ _ _ _ _ us hl => match us, hl with | [_, _], _ => rfl
  obtain ⟨dFiN, FFiN⟩ := mFiN.fd
  have bFiN := FFiN.binds (ps := ["self"]) fun _ _ _ _ _ _ us hl => match us, hl with | [_], _ => rfl
  obtain ⟨dCgI, FCgI⟩ := mCgI.fd
  have bCgI := FCgI.binds (ps := ["self", "pieces", "reasons"]) fun _ _ _ _ _ _ us hl => match us, hl with | [_, _, _], _ => rfl
  obtain ⟨dLvI, FLvI⟩ := mLvI.fd
  have bLvI := FLvI.binds (ps := ["self", "marks", "error"]) fun _ _ _ _ _ _ us hl => match us, hl with | [_, _, _], _ => rfl
  obtain ⟨dLvE, FLvE⟩ := mLvE.fd
  have bLvE := FLvE.binds (ps := ["self", "number"]) fun _ _ _ _ _ _ us hl => match us, hl with | [_, _], _ => rfl
  obtain ⟨dLvF, FLvF⟩ := mLvF.fd
  have bLvF := FLvF.binds (ps := ["self", "number", "x", "depth", "looks"]) fun _ _ _ _ _ _ us hl => match us, hl with | [_, _, _, _, _], _ => rfl
  obtain ⟨dIxI, FIxI⟩ := mIxI.fd
  have bIxI := FIxI.binds (ps := ["self", "stored", "error", "upper"]) fun _ _ _ _ _ _ us hl => match us, hl with | [_, _, _, _], _ => rfl
  obtain ⟨dIxL, FIxL⟩ := mIxL.fd
  have bIxL := FIxL.binds (ps := ["self", "x"]) fun _ _ _ _ _ _ us hl => match us, hl with | [_, _], _ => rfl
  obtain ⟨dIxR, FIxR⟩ := mIxR.fd
  have bIxR := FIxR.binds (ps := ["self", "x"]) fun _ _ _ _ _ _ us hl => match us, hl with | [_, _], _ => rfl
  obtain ⟨dRuI, FRuI⟩ := mRuI.fd
  have bRuI := FRuI.binds (ps := ["self", "entries", "error"]) fun _ _ _ _ _ _ us hl => match us, hl with | [_, _, _], _ => rfl
  obtain ⟨dRuE, FRuE⟩ := mRuE.fd
  have bRuE := FRuE.binds (ps := ["self", "key"]) fun _ _ _ _ _ _ us hl => match us, hl with | [_, _], _ => rfl
  obtain ⟨dStI, FStI⟩ := mStI.fd
  have bStI := FStI.binds (ps := ["self", "capacity", "error"]) fun _ _ _ _ _ _ us hl => match us, hl with | [_, _, _], _ => rfl
  obtain ⟨dStP, FStP⟩ := mStP.fd
  have bStP := FStP.binds (ps := ["self", "key", "value"]) fun _ _ _ _ _ _ us hl => match us, hl with | [_, _, _], _ => rfl
  obtain ⟨dStR, FStR⟩ := mStR.fd
  have bStR := FStR.binds (ps := ["self", "key"]) fun _ _ _ _ _ _ us hl => match us, hl with | [_, _], _ => rfl
  obtain ⟨dStW, FStW⟩ := mStW.fd
  have bStW := FStW.binds (ps := ["self", "entry"]) fun _ _ _ _ _ _ us hl => match us, hl with | [_, _], _ => rfl
  obtain ⟨dStF, FStF⟩ := mStF.fd
  have bStF := FStF.binds (ps := ["self"]) fun _ _ _ _ _ _ us hl => match us, hl with | [_], _ => rfl
  obtain ⟨dStG, FStG⟩ := mStG.fd
  have bStG := FStG.binds (ps := ["self", "key"]) fun _ _ _ _ _ _ us hl => match us, hl with | [_, _], _ => rfl
  obtain ⟨dStC, FStC⟩ := mStC.fd
  have bStC := FStC.binds (ps := ["self"]) fun _ _ _ _ _ _ us hl => match us, hl with | [_], _ => rfl
  obtain ⟨dStB, FStB⟩ := mStB.fd
  have bStB := FStB.binds (ps := ["self", "a", "b"]) fun _ _ _ _ _ _ us hl => match us, hl with | [_, _, _], _ => rfl
  obtain ⟨dPlI, FPlI⟩ := mPlI.fd
  have bPlI := FPlI.binds (ps := ["self"]) fun _ _ _ _ _ _ us hl => match us, hl with | [_], _ => rfl
  obtain ⟨dPlP, FPlP⟩ := mPlP.fd
  have bPlP := FPlP.binds (ps := ["self", "key", "value"]) fun _ _ _ _ _ _ us hl => match us, hl with | [_, _, _], _ => rfl
  obtain ⟨dPlR, FPlR⟩ := mPlR.fd
  have bPlR := FPlR.binds (ps := ["self", "key"]) fun _ _ _ _ _ _ us hl => match us, hl with | [_, _], _ => rfl
  obtain ⟨dPlG, FPlG⟩ := mPlG.fd
  have bPlG := FPlG.binds (ps := ["self", "key"]) fun _ _ _ _ _ _ us hl => match us, hl with | [_, _], _ => rfl
  obtain ⟨dPlC, FPlC⟩ := mPlC.fd
  have bPlC := FPlC.binds (ps := ["self"]) fun _ _ _ _ _ _ us hl => match us, hl with | [_], _ => rfl
  exact ⟨PySem.W.fnOf "law" "law" (defArgs sLaw) (defBody sLaw) (defScope sLaw) .none kVL dcL pmL anL cdL ctL, fun s v => .of_eq rfl, fun base _ _ => by
    have GCd : FnG l.prog w K mg base 1 "common_divisor" ["one", "other"] spCd := ⟨fCd, dCd, ok_cd FCd yabs, aCd, FCd.kp, bCd⟩
    have GFl : FnG l.prog w K mg base 1 "floor_at" ["line", "place"] spFloor := ⟨fFl, dFl, ok_floor FFl, aFl, FFl.kp, bFl⟩
    have GCe : FnG l.prog w K mg base 1 "ceiling_at" ["line", "place"] spCeil := ⟨fCe, dCe, ok_ceil FCe, aCe, FCe.kp, bCe⟩
    have GFr : FnG l.prog w K mg base 2 "fraction" ["numerator", "denominator"] spFrac := ⟨fFr, dFr, ok_frac FFr GCd, aFr, FFr.kp, bFr⟩
    have GSl : FnG l.prog w K mg base 1 "slope_between" ["lower", "upper"] spSlope := ⟨fSl, dSl, ok_slope FSl, aSl, FSl.kp, bSl⟩
    have GLw : FnG l.prog w K mg base 1 "line_with_slope" ["points", "error", "slope"] (spLws K) := ⟨fLw, dLw, ok_lws FLw ymax, aLw, FLw.kp, bLw⟩
    have GTu : FnG l.prog w K mg base 1 "turn" ["one", "two", "three"] spTurn := ⟨fTu, dTu, ok_turn FTu, aTu, FTu.kp, bTu⟩
    have GRi : FnG l.prog w K mg base 1 "rise_over" ["one", "other"] spRise := ⟨fRi, dRi, ok_rise FRi, aRi, FRi.kp, bRi⟩
    have GBe : FnG l.prog w K mg base 1 "is_below" ["one", "other"] spBelow := ⟨fBe, dBe, ok_below FBe, aBe, FBe.kp, bBe⟩
    have GFiI : ClG l.prog w K mg base 1 "Fitter" CFi ["self", "error"] (spFi CFi) := ⟨PySem.W.mg_of X G cFi.ns, fFiI, dFiI, ⟨cFi.ms, mFiI.me.at_, mFiI.me.fn, cFi.kp⟩, ok_fi FFiI TFi, bFiI⟩
    have GFiC : MeG l.prog w K mg base 2 CFi "conflict" ["self", "point"] (spConf CFi) := ⟨fFiC, dFiC, mFiC.me, ok_conf FFiC TFi GRi GBe, bFiC⟩
    have GFiL : MeG l.prog w K mg base 2 CFi "lower_steep" ["self", "top"] (spLow CFi) := ⟨fFiL, dFiL, mFiL.me, ok_low FFiL TFi GRi GBe, bFiL⟩
    have GFiR : MeG l.prog w K mg base 2 CFi "raise_flat" ["self", "bottom"] (spRai CFi) := ⟨fFiR, dFiR, mFiR.me, ok_rai FFiR TFi GRi GBe, bFiR⟩
    have GFiK : MeG l.prog w K mg base 2 CFi "add_corners" ["self", "top", "bottom"] (spCor CFi) := ⟨fFiK, dFiK, mFiK.me, ok_cor FFiK TFi GTu ylen, bFiK⟩
    have GFiA : MeG l.prog w K mg base 3 CFi "add" ["self", "point"] (spAdd CFi) := ⟨fFiA, dFiA, mFiA.me, ok_add FFiA TFi GFiC GFiL GFiR GFiK, bFiA⟩
    have GFiN : MeG l.prog w K mg base 3 CFi "line" ["self"] (spLine CFi) := ⟨fFiN, dFiN, mFiN.me, ok_line FFiN TFi GRi GFr GSl GLw, bFiN⟩
    have GCgI : ClG l.prog w K mg base 1 "Cutting" CCg ["self", "pieces", "reasons"] (spCuI CCg) := ⟨PySem.W.mg_of X G cCg.ns, fCgI, dCgI, ⟨cCg.ms, mCgI.me.at_, mCgI.me.fn, cCg.kp⟩, ok_cui FCgI TCg ylist, bCgI⟩
    have GCu : FnG l.prog w K mg base 4 "cut" ["points", "error"] (spCut CCg) := ⟨fCu, dCu, ok_cut FCu TFi GFiI GFiC GFiA GFiN GCgI yenumerate, aCu, FCu.kp, bCu⟩
    have GLvI : ClG l.prog w K mg base 5 "Level" CLv ["self", "marks", "error"] (spLvI CLv) := ⟨PySem.W.mg_of X G cLv.ns, fLvI, dLvI, ⟨cLv.ms, mLvI.me.at_, mLvI.me.fn, cLv.kp⟩, ok_lvi FLvI TLv TCg GCu yenumerate, bLvI⟩
    have GLvE : MeG l.prog w K mg base 1 CLv "end_of" ["self", "number"] (spEnd CLv) := ⟨fLvE, dLvE, mLvE.me, ok_end FLvE TLv ylen, bLvE⟩
    have GLvF : MeG l.prog w K mg base 2 CLv "find" ["self", "number", "x", "depth", "looks"] (spFind CLv) := ⟨fLvF, dLvF, mLvF.me, ok_find FLvF TLv GLvE GFl GCe ymin ymax, bLvF⟩
    have GIxI : ClG l.prog w K mg base 7 "Index" CIx ["self", "stored", "error", "upper"] (spIxI CIx CLv) := ⟨PySem.W.mg_of X G cIx.ns, fIxI, dIxI, ⟨cIx.ms, mIxI.me.at_, mIxI.me.fn, cIx.kp⟩, ok_ixi FIxI TIx TLv GLvI ylist ylen, bIxI⟩
    have GIxL : MeG l.prog w K mg base 3 CIx "look_up" ["self", "x"] (spLook CIx CLv) := ⟨fIxL, dIxL, mIxL.me, ok_look FIxL TIx TLv GLvF ylen yrange, bIxL⟩
    have GIxR : MeG l.prog w K mg base 4 CIx "rank" ["self", "x"] (spRank CIx CLv) := ⟨fIxR, dIxR, mIxR.me, ok_rank FIxR TIx GIxL, bIxR⟩
    have GRuI : ClG l.prog w K mg base 9 "Run" CRu ["self", "entries", "error"] (spRunI CRu CIx CLv) := ⟨PySem.W.mg_of X G cRu.ns, fRuI, dRuI, ⟨cRu.ms, mRuI.me.at_, mRuI.me.fn, cRu.kp⟩, ok_runi FRuI TRu GIxI yU, bRuI⟩
    have GRuE : MeG l.prog w K mg base 5 CRu "entry" ["self", "key"] (spEntry CRu CIx CLv) := ⟨fRuE, dRuE, mRuE.me, ok_entry FRuE TRu cIx.cl GIxR, bRuE⟩
    have GMr : FnG l.prog w K mg base 1 "merged" ["newer", "older"] spMrg := ⟨fMr, dMr, ok_mrg FMr ylen, aMr, FMr.kp, bMr⟩
    have GStI : ClG l.prog w K mg base 1 "Store" CSt ["self", "capacity", "error"] (spStI CSt) := ⟨PySem.W.mg_of X G cSt.ns, fStI, dStI, ⟨cSt.ms, mStI.me.at_, mStI.me.fn, cSt.kp⟩, ok_sti FStI TSt, bStI⟩
    have GStF : MeG l.prog w K mg base 11 CSt "flush" ["self"] (spFlu CSt CRu CIx CLv) := ⟨fStF, dStF, mStF.me, ok_flu FStF TSt TRu GMr GRuI ylen yany, bStF⟩
    have GStW : MeG l.prog w K mg base 12 CSt "write" ["self", "entry"] (spWri CSt CRu CIx CLv) := ⟨fStW, dStW, mStW.me, ok_wri FStW TSt GMr GStF ylen, bStW⟩
    have GStP : MeG l.prog w K mg base 13 CSt "put" ["self", "key", "value"] (spPut CSt CRu CIx CLv) := ⟨fStP, dStP, mStP.me, ok_put FStP TSt GStW, bStP⟩
    have GStR : MeG l.prog w K mg base 13 CSt "remove" ["self", "key"] (spRem CSt CRu CIx CLv) := ⟨fStR, dStR, mStR.me, ok_rem FStR TSt GStW, bStR⟩
    have GStG : MeG l.prog w K mg base 6 CSt "get" ["self", "key"] (spGet CSt CRu CIx CLv) := ⟨fStG, dStG, mStG.me, ok_get FStG TSt TRu.cl GRuE, bStG⟩
    have GStC : MeG l.prog w K mg base 2 CSt "contents" ["self"] (spCon CSt CRu CIx CLv) := ⟨fStC, dStC, mStC.me, ok_con FStC TSt TRu GMr, bStC⟩
    have GStB : MeG l.prog w K mg base 3 CSt "between" ["self", "a", "b"] (spBet CSt CRu CIx CLv) := ⟨fStB, dStB, mStB.me, ok_bet FStB TSt GStC, bStB⟩
    have GPlI : ClG l.prog w K mg base 1 "PlainStore" CPl ["self"] (spPI CPl) := ⟨PySem.W.mg_of X G cPl.ns, fPlI, dPlI, ⟨cPl.ms, mPlI.me.at_, mPlI.me.fn, cPl.kp⟩, ok_pi FPlI TPl, bPlI⟩
    have GPlP : MeG l.prog w K mg base 1 CPl "put" ["self", "key", "value"] (spPP CPl) := ⟨fPlP, dPlP, mPlP.me, ok_pp FPlP TPl, bPlP⟩
    have GPlR : MeG l.prog w K mg base 1 CPl "remove" ["self", "key"] (spPR CPl) := ⟨fPlR, dPlR, mPlR.me, ok_pr FPlR TPl, bPlR⟩
    have GPlG : MeG l.prog w K mg base 1 CPl "get" ["self", "key"] (spPG CPl) := ⟨fPlG, dPlG, mPlG.me, ok_pg FPlG TPl, bPlG⟩
    have GPlC : MeG l.prog w K mg base 1 CPl "contents" ["self"] (spPC CPl) := ⟨fPlC, dPlC, mPlC.me, ok_pc FPlC TPl ysorted, bPlC⟩
    have GLc : FnG l.prog w K mg base 1 "_law_cell" ["_law_script", "_law_k"] (spCe K) := ⟨fLc, dLc, ok_ce FLc ylen, aLc, FLc.kp, bLc⟩
    have GLd : FnG l.prog w K mg base 1 "_law_digits" ["_law_cell_here", "_law_many", "_law_count"] spDig := ⟨fLd, dLd, ok_dig FLd yrange yint, aLd, FLd.kp, bLd⟩
    have GLe : FnG l.prog w K mg base 2 "_law_edits" ["_law_script", "_law_place", "_law_most"] (spEds K) := ⟨fLe, dLe, ok_eds FLe GLc GLd yrange yint, aLe, FLe.kp, bLe⟩
    have GLn : FnG l.prog w K mg base 1 "_law_done" ["_law_edits_here"] spDone := ⟨fLn, dLn, ok_done FLn ysorted ylist, aLn, FLn.kp, bLn⟩
    have GLxS : FnG l.prog w K mg base 14 "_law_edit" ["_law_store", "_law_edit_here"] (spEdS CSt CRu CIx CLv) := ⟨fLx, dLx, ok_edS FLx TSt GStP GStR, aLx, FLx.kp, bLx⟩
    have GLxP : FnG l.prog w K mg base 2 "_law_edit" ["_law_store", "_law_edit_here"] (spEdP CPl) := ⟨fLx, dLx, ok_edP FLx TPl GPlP GPlR, aLx, FLx.kp, bLx⟩
    exact ok_law (fun_mk (st := sLaw) lL kcL kpL) TSt TPl GLc GLd GLe GLn GLxS GLxP GStI GPlI GStG GStC GStB GPlG GPlC ylen yint yrange⟩
theorem walk {l : PySem.W.OpenLaw} {q : Program} {loose : List Str} {XP : (Str → Option Value) → Heap → Prop} {YP : World → Heap → Prop} {d : DefRec} {K : Params → PySem.W.Frag} (hn : l.most = some 63) (hdf : d.params.defaults = [])
    (hY : ∀ (w : World) (h : Heap), YP w h → (K w.params).In h)
    (F : ∀ (w : World) (mg : Str → Option Value) (fa : Addr) (h : Heap), (K w.params).In h → h.Ns mainGlobals mg → mg d.name = some (.ref fa) →
      ∃ fd : FuncData, (∀ (s : Shared) (u : Value), BindsTo s fd ⟨[u], []⟩ [("_law_script", u)]) ∧ ∀ base : Heap, (K w.params).In base → base.Ns mainGlobals mg → FnOk l.prog w (K w.params) mg base CX0 15 fa fd ["_law_script"] (spLaw (K w.params))) :
    PySem.W.WalkO q loose XP YP l.row.toRowW d [] (fun f vs => PySem.call f vs) :=
  L2.walk_of (n := 63) (k := 15) (x := "_law_script") (CX := fun _ => CX0) (sp := fun w => spLaw (K w.params)) hn (by decide) hdf ⟨rfl, by decide, by decide⟩ hY F (fun _ _ a ns hl _ hS => ⟨a, ns, rfl, hS, fun _ => rfl⟩) fun _ _ _ _ _ z => z
end Fw
open PySem PySem.W PyProof.Rows
set_option maxRecDepth 100000 in
set_option maxHeartbeats 0 in
theorem PySem.Challenge.cw_fewestlines_k40_whole_store_is_a_plain_d_holds : PySem.Challenge.rw_fewestlines_k40_whole_store_is_a_plain_d.Holds := by
  w_on; o_law; k_head; (case hw => w_witness2)
  k_fill
  refine Fw.walk (l := PySem.Challenge.rw_fewestlines_k40_whole_store_is_a_plain_d) rfl rfl (fun w h Y => PySem.W.kIn_of Y) ?F
  case F =>
    intro w mg fa h KX G hmg
    refine' Fw.all_mk KX G hmg ?gCd ?gFl ?gCe ?gFr ?gSl ?gLw ?gTu ?gRi ?gBe ?gCu ?gMr ?gLc ?gLd ?gLe ?gLn ?gLx ?cFi ?nFi0 ?nFi1 ?nFi2 ?nFi3 ?nFi4 ?nFi5 ?nFi6 ?cCg ?nCg0 ?nCg1 ?cLv ?nLv0 ?nLv1 ?nLv2 ?cIx ?nIx0 ?nIx1 ?cRu ?nRu0 ?nRu1 ?cSt ?nSt0 ?nSt1 ?nSt2 ?nSt3 ?nSt4 ?nSt5 ?cPl ?nPl0 ?mFiI ?mFiC ?mFiA ?mFiK ?mFiL ?mFiR ?mFiN ?mCgI ?mLvI ?mLvE ?mLvF ?mIxI ?mIxL ?mIxR ?mRuI ?mRuE ?mStI ?mStP ?mStR ?mStW ?mStF ?mStG ?mStC ?mStB ?mPlI ?mPlP ?mPlR ?mPlG ?mPlC ?zabs ?zlen ?zmax ?zmin ?zlist ?zenumerate ?zrange ?zany ?zsorted ?zint ?zU ?aL ?lL ?kcL ?kpL
    (case gCd => refine' Fw.Gd.mk ?a (Fw.fd_mk ?l ?c ?k); (case a => k_is); (case l => k_is); (case c => k_is); (case k => k_is))
    (case gFl => refine' Fw.Gd.mk ?a (Fw.fd_mk ?l ?c ?k); (case a => k_is); (case l => k_is); (case c => k_is); (case k => k_is))
    (case gCe => refine' Fw.Gd.mk ?a (Fw.fd_mk ?l ?c ?k); (case a => k_is); (case l => k_is); (case c => k_is); (case k => k_is))
    (case gFr => refine' Fw.Gd.mk ?a (Fw.fd_mk ?l ?c ?k); (case a => k_is); (case l => k_is); (case c => k_is); (case k => k_is))
    (case gSl => refine' Fw.Gd.mk ?a (Fw.fd_mk ?l ?c ?k); (case a => k_is); (case l => k_is); (case c => k_is); (case k => k_is))
    (case gLw => refine' Fw.Gd.mk ?a (Fw.fd_mk ?l ?c ?k); (case a => k_is); (case l => k_is); (case c => k_is); (case k => k_is))
    (case gTu => refine' Fw.Gd.mk ?a (Fw.fd_mk ?l ?c ?k); (case a => k_is); (case l => k_is); (case c => k_is); (case k => k_is))
    (case gRi => refine' Fw.Gd.mk ?a (Fw.fd_mk ?l ?c ?k); (case a => k_is); (case l => k_is); (case c => k_is); (case k => k_is))
    (case gBe => refine' Fw.Gd.mk ?a (Fw.fd_mk ?l ?c ?k); (case a => k_is); (case l => k_is); (case c => k_is); (case k => k_is))
    (case gCu => refine' Fw.Gd.mk ?a (Fw.fd_mk ?l ?c ?k); (case a => k_is); (case l => k_is); (case c => k_is); (case k => k_is))
    (case gMr => refine' Fw.Gd.mk ?a (Fw.fd_mk ?l ?c ?k); (case a => k_is); (case l => k_is); (case c => k_is); (case k => k_is))
    (case gLc => refine' Fw.Gd.mk ?a (Fw.fd_mk ?l ?c ?k); (case a => k_is); (case l => k_is); (case c => k_is); (case k => k_is))
    (case gLd => refine' Fw.Gd.mk ?a (Fw.fd_mk ?l ?c ?k); (case a => k_is); (case l => k_is); (case c => k_is); (case k => k_is))
    (case gLe => refine' Fw.Gd.mk ?a (Fw.fd_mk ?l ?c ?k); (case a => k_is); (case l => k_is); (case c => k_is); (case k => k_is))
    (case gLn => refine' Fw.Gd.mk ?a (Fw.fd_mk ?l ?c ?k); (case a => k_is); (case l => k_is); (case c => k_is); (case k => k_is))
    (case gLx => refine' Fw.Gd.mk ?a (Fw.fd_mk ?l ?c ?k); (case a => k_is); (case l => k_is); (case c => k_is); (case k => k_is))
    (case cFi => refine' Fw.cd_mk ?a ?pg ?hd ?po ?sa ?mk ?kc; (case a => k_is); (case pg => k_is); (case hd => k_is); (case po => k_is); (case sa => k_is); (case mk => k_is); (case kc => k_is))
    (case nFi0 => k_is)
    (case nFi1 => k_is)
    (case nFi2 => k_is)
    (case nFi3 => k_is)
    (case nFi4 => k_is)
    (case nFi5 => k_is)
    (case nFi6 => k_is)
    (case cCg => refine' Fw.cd_mk ?a ?pg ?hd ?po ?sa ?mk ?kc; (case a => k_is); (case pg => k_is); (case hd => k_is); (case po => k_is); (case sa => k_is); (case mk => k_is); (case kc => k_is))
    (case nCg0 => k_is)
    (case nCg1 => k_is)
    (case cLv => refine' Fw.cd_mk ?a ?pg ?hd ?po ?sa ?mk ?kc; (case a => k_is); (case pg => k_is); (case hd => k_is); (case po => k_is); (case sa => k_is); (case mk => k_is); (case kc => k_is))
    (case nLv0 => k_is)
    (case nLv1 => k_is)
    (case nLv2 => k_is)
    (case cIx => refine' Fw.cd_mk ?a ?pg ?hd ?po ?sa ?mk ?kc; (case a => k_is); (case pg => k_is); (case hd => k_is); (case po => k_is); (case sa => k_is); (case mk => k_is); (case kc => k_is))
    (case nIx0 => k_is)
    (case nIx1 => k_is)
    (case cRu => refine' Fw.cd_mk ?a ?pg ?hd ?po ?sa ?mk ?kc; (case a => k_is); (case pg => k_is); (case hd => k_is); (case po => k_is); (case sa => k_is); (case mk => k_is); (case kc => k_is))
    (case nRu0 => k_is)
    (case nRu1 => k_is)
    (case cSt => refine' Fw.cd_mk ?a ?pg ?hd ?po ?sa ?mk ?kc; (case a => k_is); (case pg => k_is); (case hd => k_is); (case po => k_is); (case sa => k_is); (case mk => k_is); (case kc => k_is))
    (case nSt0 => k_is)
    (case nSt1 => k_is)
    (case nSt2 => k_is)
    (case nSt3 => k_is)
    (case nSt4 => k_is)
    (case nSt5 => k_is)
    (case cPl => refine' Fw.cd_mk ?a ?pg ?hd ?po ?sa ?mk ?kc; (case a => k_is); (case pg => k_is); (case hd => k_is); (case po => k_is); (case sa => k_is); (case mk => k_is); (case kc => k_is))
    (case nPl0 => k_is)
    (case mFiI => refine' Fw.Md.mk' ?a ?i ?k (Fw.fd_mk ?l ?c ?k2); (case a => k_is); (case i => k_is); (case k => k_is); (case l => k_is); (case c => k_is); (case k2 => k_is))
    (case mFiC => refine' Fw.Md.mk' ?a ?i ?k (Fw.fd_mk ?l ?c ?k2); (case a => k_is); (case i => k_is); (case k => k_is); (case l => k_is); (case c => k_is); (case k2 => k_is))
    (case mFiA => refine' Fw.Md.mk' ?a ?i ?k (Fw.fd_mk ?l ?c ?k2); (case a => k_is); (case i => k_is); (case k => k_is); (case l => k_is); (case c => k_is); (case k2 => k_is))
    (case mFiK => refine' Fw.Md.mk' ?a ?i ?k (Fw.fd_mk ?l ?c ?k2); (case a => k_is); (case i => k_is); (case k => k_is); (case l => k_is); (case c => k_is); (case k2 => k_is))
    (case mFiL => refine' Fw.Md.mk' ?a ?i ?k (Fw.fd_mk ?l ?c ?k2); (case a => k_is); (case i => k_is); (case k => k_is); (case l => k_is); (case c => k_is); (case k2 => k_is))
    (case mFiR => refine' Fw.Md.mk' ?a ?i ?k (Fw.fd_mk ?l ?c ?k2); (case a => k_is); (case i => k_is); (case k => k_is); (case l => k_is); (case c => k_is); (case k2 => k_is))
    (case mFiN => refine' Fw.Md.mk' ?a ?i ?k (Fw.fd_mk ?l ?c ?k2); (case a => k_is); (case i => k_is); (case k => k_is); (case l => k_is); (case c => k_is); (case k2 => k_is))
    (case mCgI => refine' Fw.Md.mk' ?a ?i ?k (Fw.fd_mk ?l ?c ?k2); (case a => k_is); (case i => k_is); (case k => k_is); (case l => k_is); (case c => k_is); (case k2 => k_is))
    (case mLvI => refine' Fw.Md.mk' ?a ?i ?k (Fw.fd_mk ?l ?c ?k2); (case a => k_is); (case i => k_is); (case k => k_is); (case l => k_is); (case c => k_is); (case k2 => k_is))
    (case mLvE => refine' Fw.Md.mk' ?a ?i ?k (Fw.fd_mk ?l ?c ?k2); (case a => k_is); (case i => k_is); (case k => k_is); (case l => k_is); (case c => k_is); (case k2 => k_is))
    (case mLvF => refine' Fw.Md.mk' ?a ?i ?k (Fw.fd_mk ?l ?c ?k2); (case a => k_is); (case i => k_is); (case k => k_is); (case l => k_is); (case c => k_is); (case k2 => k_is))
    (case mIxI => refine' Fw.Md.mk' ?a ?i ?k (Fw.fd_mk ?l ?c ?k2); (case a => k_is); (case i => k_is); (case k => k_is); (case l => k_is); (case c => k_is); (case k2 => k_is))
    (case mIxL => refine' Fw.Md.mk' ?a ?i ?k (Fw.fd_mk ?l ?c ?k2); (case a => k_is); (case i => k_is); (case k => k_is); (case l => k_is); (case c => k_is); (case k2 => k_is))
    (case mIxR => refine' Fw.Md.mk' ?a ?i ?k (Fw.fd_mk ?l ?c ?k2); (case a => k_is); (case i => k_is); (case k => k_is); (case l => k_is); (case c => k_is); (case k2 => k_is))
    (case mRuI => refine' Fw.Md.mk' ?a ?i ?k (Fw.fd_mk ?l ?c ?k2); (case a => k_is); (case i => k_is); (case k => k_is); (case l => k_is); (case c => k_is); (case k2 => k_is))
    (case mRuE => refine' Fw.Md.mk' ?a ?i ?k (Fw.fd_mk ?l ?c ?k2); (case a => k_is); (case i => k_is); (case k => k_is); (case l => k_is); (case c => k_is); (case k2 => k_is))
    (case mStI => refine' Fw.Md.mk' ?a ?i ?k (Fw.fd_mk ?l ?c ?k2); (case a => k_is); (case i => k_is); (case k => k_is); (case l => k_is); (case c => k_is); (case k2 => k_is))
    (case mStP => refine' Fw.Md.mk' ?a ?i ?k (Fw.fd_mk ?l ?c ?k2); (case a => k_is); (case i => k_is); (case k => k_is); (case l => k_is); (case c => k_is); (case k2 => k_is))
    (case mStR => refine' Fw.Md.mk' ?a ?i ?k (Fw.fd_mk ?l ?c ?k2); (case a => k_is); (case i => k_is); (case k => k_is); (case l => k_is); (case c => k_is); (case k2 => k_is))
    (case mStW => refine' Fw.Md.mk' ?a ?i ?k (Fw.fd_mk ?l ?c ?k2); (case a => k_is); (case i => k_is); (case k => k_is); (case l => k_is); (case c => k_is); (case k2 => k_is))
    (case mStF => refine' Fw.Md.mk' ?a ?i ?k (Fw.fd_mk ?l ?c ?k2); (case a => k_is); (case i => k_is); (case k => k_is); (case l => k_is); (case c => k_is); (case k2 => k_is))
    (case mStG => refine' Fw.Md.mk' ?a ?i ?k (Fw.fd_mk ?l ?c ?k2); (case a => k_is); (case i => k_is); (case k => k_is); (case l => k_is); (case c => k_is); (case k2 => k_is))
    (case mStC => refine' Fw.Md.mk' ?a ?i ?k (Fw.fd_mk ?l ?c ?k2); (case a => k_is); (case i => k_is); (case k => k_is); (case l => k_is); (case c => k_is); (case k2 => k_is))
    (case mStB => refine' Fw.Md.mk' ?a ?i ?k (Fw.fd_mk ?l ?c ?k2); (case a => k_is); (case i => k_is); (case k => k_is); (case l => k_is); (case c => k_is); (case k2 => k_is))
    (case mPlI => refine' Fw.Md.mk' ?a ?i ?k (Fw.fd_mk ?l ?c ?k2); (case a => k_is); (case i => k_is); (case k => k_is); (case l => k_is); (case c => k_is); (case k2 => k_is))
    (case mPlP => refine' Fw.Md.mk' ?a ?i ?k (Fw.fd_mk ?l ?c ?k2); (case a => k_is); (case i => k_is); (case k => k_is); (case l => k_is); (case c => k_is); (case k2 => k_is))
    (case mPlR => refine' Fw.Md.mk' ?a ?i ?k (Fw.fd_mk ?l ?c ?k2); (case a => k_is); (case i => k_is); (case k => k_is); (case l => k_is); (case c => k_is); (case k2 => k_is))
    (case mPlG => refine' Fw.Md.mk' ?a ?i ?k (Fw.fd_mk ?l ?c ?k2); (case a => k_is); (case i => k_is); (case k => k_is); (case l => k_is); (case c => k_is); (case k2 => k_is))
    (case mPlC => refine' Fw.Md.mk' ?a ?i ?k (Fw.fd_mk ?l ?c ?k2); (case a => k_is); (case i => k_is); (case k => k_is); (case l => k_is); (case c => k_is); (case k2 => k_is))
    (case zabs => k_is)
    (case zlen => k_is)
    (case zmax => k_is)
    (case zmin => k_is)
    (case zlist => k_is)
    (case zenumerate => k_is)
    (case zrange => k_is)
    (case zany => k_is)
    (case zsorted => k_is)
    (case zint => k_is)
    (case zU => k_is)
    (case aL => k_is)
    (case lL => k_is)
    (case kcL => k_is)
    (case kpL => k_is)
