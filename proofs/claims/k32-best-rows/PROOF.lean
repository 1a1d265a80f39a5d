import PyProof.Rows.All
import Wide.All
import OpenK.AllK
import Wide.FinOn
import HandS.ForMost
import HandS.Wide
import HandS.Style
import HandS.IsInst
import HandS.Defaults
import PyProof.ReprRoads
import PyProof.ReprLen
import PySem.Challenge.RW_livecopy_k32_whole_best_rows
set_option Elab.async false
set_option linter.all false
set_option maxRecDepth 100000
set_option maxHeartbeats 4000000
/-! The plain law: forward and backward counters of one patch, the costs of rows, and why the rows cut at zero are best. -/
namespace Lv

/-- the lesser and the greater as the program's built-ins choose them -/
def mn (m n : Int) : Int := if n < m then n else m
def mx (m n : Int) : Int := if n > m then n else m
/-- x cut to -t .. t -/
def cut (x t : Int) : Int := mx (-t) (mn t x)

theorem cut_spec {x t : Int} (ht : 0 ≤ t) : (x ≤ -t ∧ cut x t = -t) ∨ (-t ≤ x ∧ x ≤ t ∧ cut x t = x) ∨ (t ≤ x ∧ cut x t = t) := by
  unfold cut mx mn
  split <;> split <;> omega

/-- the first forward counter -/
def m1 (s : Bool) (t : Int) : Int := if s then t else -t
/-- the forward numbers -/
def fwd (t : Int) : Int → List Int → List Int
  | _, [] => []
  | m, v :: vs => (m + v) :: fwd t (cut (m + v) t) vs
/-- the first backward number -/
def bh (t l : Int) : List Int → Int
  | [] => l
  | v :: vs => cut (bh t l vs + v) t
/-- the backward numbers -/
def bwd (t l : Int) : List Int → List Int
  | [] => [l]
  | v :: vs => bh t l (v :: vs) :: bwd t l vs
/-- the sums -/
def sums (t l : Int) : Int → List Int → List Int
  | _, [] => []
  | m, v :: vs => (m + v + bh t l vs) :: sums t l (cut (m + v) t) vs

theorem fwd_len (t : Int) : ∀ (m : Int) (vs : List Int), (fwd t m vs).length = vs.length
  | _, [] => rfl
  | m, v :: vs => by
    show (fwd t _ vs).length + 1 = vs.length + 1
    rw [fwd_len t _ vs]
theorem sums_len (t l : Int) : ∀ (m : Int) (vs : List Int), (sums t l m vs).length = vs.length
  | _, [] => rfl
  | m, v :: vs => by
    show (sums t l _ vs).length + 1 = vs.length + 1
    rw [sums_len t l _ vs]
theorem bwd_len (t l : Int) : ∀ (vs : List Int), (bwd t l vs).length = vs.length + 1
  | [] => rfl
  | v :: vs => by
    show (bwd t l vs).length + 1 = vs.length + 1 + 1
    rw [bwd_len t l vs]
theorem bwd_zero (t l : Int) : ∀ (vs : List Int), (bwd t l vs)[0]? = some (bh t l vs)
  | [] => rfl
  | _ :: _ => rfl
theorem bwd_at (t l : Int) : ∀ (vs : List Int) (i : Nat), i ≤ vs.length → (bwd t l vs)[i]? = some (bh t l (vs.drop i))
  | vs, 0, _ => bwd_zero t l vs
  | [], i + 1, h => by simp at h
  | v :: vs, i + 1, h => by
    show (bwd t l vs)[i]? = some (bh t l (vs.drop i))
    exact bwd_at t l vs i (by simpa using h)
theorem bwd_cons (t l : Int) (vs : List Int) : bwd t l vs = bh t l vs :: (bwd t l vs).tail := by
  cases vs <;> rfl
/-- a sum is a forward number and the backward number behind it -/
theorem sums_at (t l : Int) : ∀ (m : Int) (vs : List Int) (i : Nat) (d u : Int), (fwd t m vs)[i]? = some d → (bwd t l vs)[i + 1]? = some u → (sums t l m vs)[i]? = some (d + u)
  | _, [], _, _, _, h, _ => by simp [fwd] at h
  | m, v :: vs, 0, d, u, h, h2 => by
    have e1 : m + v = d := Option.some.inj h
    have h3 : (bwd t l vs)[0]? = some u := h2
    rw [bwd_zero] at h3
    have e2 : bh t l vs = u := Option.some.inj h3
    show some (m + v + bh t l vs) = some (d + u)
    rw [e1, e2]
  | m, v :: vs, i + 1, d, u, h, h2 => sums_at t l (cut (m + v) t) vs i d u h h2

/-! ### costs -/
/-- a change's price -/
def tg (p : Int) (s b : Bool) : Int := if b = s then 0 else p
/-- what a side costs at a vote -/
def ag (w : Int) (b : Bool) : Int := if b then mx 0 (0 - w) else mx 0 w
theorem ag_diff (w : Int) : ag w false - ag w true = w := by
  show mx 0 w - mx 0 (0 - w) = w
  unfold mx
  split <;> split <;> omega
def cost (p : Int) : Bool → List Int → List Bool → Int
  | s, w :: ws, r :: rs => tg p s r + ag w r + cost p r ws rs
  | _, _, _ => 0
/-- the least cost from a side -/
def lo (p : Int) : Bool → List Int → Int
  | _, [] => 0
  | s, w :: ws => mn (tg p s false + ag w false + lo p false ws) (tg p s true + ag w true + lo p true ws)
theorem lo_le (p : Int) : ∀ (s : Bool) (ws : List Int) (r : List Bool), r.length = ws.length → lo p s ws ≤ cost p s ws r
  | _, [], _, _ => by simp [lo, cost]
  | _, _ :: _, [], h => by simp at h
  | s, w :: ws, b :: r, h => by
    have ih := lo_le p b ws r (by simpa using h)
    show mn _ _ ≤ tg p s b + ag w b + cost p b ws r
    unfold mn
    cases b <;> split <;> omega
theorem lo_ex (p : Int) : ∀ (s : Bool) (ws : List Int), ∃ r : List Bool, r.length = ws.length ∧ cost p s ws r = lo p s ws
  | _, [] => ⟨[], rfl, rfl⟩
  | s, w :: ws => by
    obtain ⟨rf, f1, f2⟩ := lo_ex p false ws
    obtain ⟨rt, t1, t2⟩ := lo_ex p true ws
    by_cases h : tg p s true + ag w true + lo p true ws < tg p s false + ag w false + lo p false ws
    · refine ⟨true :: rt, by simp [t1], ?_⟩
      show tg p s true + ag w true + cost p true ws rt = mn _ _
      rw [t2]
      unfold mn
      rw [if_pos h]
    · refine ⟨false :: rf, by simp [f1], ?_⟩
      show tg p s false + ag w false + cost p false ws rf = mn _ _
      rw [f2]
      unfold mn
      rw [if_neg h]
/-- the least cost from a side of the rows with side b at place i -/
def at_ (p : Int) : Bool → List Int → Nat → Bool → Int
  | _, [], _, _ => 0
  | s, w :: ws, 0, b => tg p s b + ag w b + lo p b ws
  | s, w :: ws, i + 1, b => mn (tg p s false + ag w false + at_ p false ws i b) (tg p s true + ag w true + at_ p true ws i b)
theorem at_le (p : Int) : ∀ (s : Bool) (ws : List Int) (r : List Bool) (i : Nat) (b : Bool), r.length = ws.length → r[i]? = some b → at_ p s ws i b ≤ cost p s ws r
  | _, [], [], _, _, _, h => by simp at h
  | _, [], _ :: _, _, _, h, _ => by simp at h
  | _, _ :: _, [], _, _, h, _ => by simp at h
  | s, w :: ws, c :: r, 0, b, h, h2 => by
    have e : c = b := Option.some.inj h2
    subst e
    have := lo_le p c ws r (by simpa using h)
    show tg p s c + ag w c + lo p c ws ≤ tg p s c + ag w c + cost p c ws r
    omega
  | s, w :: ws, c :: r, i + 1, b, h, h2 => by
    have ih := at_le p c ws r i b (by simpa using h) h2
    show mn _ _ ≤ tg p s c + ag w c + cost p c ws r
    unfold mn
    cases c <;> split <;> omega
theorem at_ex (p : Int) : ∀ (s : Bool) (ws : List Int) (i : Nat) (b : Bool), i < ws.length → ∃ r : List Bool, r.length = ws.length ∧ r[i]? = some b ∧ cost p s ws r = at_ p s ws i b
  | _, [], _, _, h => by simp at h
  | s, w :: ws, 0, b, _ => by
    obtain ⟨r, h1, h2⟩ := lo_ex p b ws
    refine ⟨b :: r, by simp [h1], rfl, ?_⟩
    show tg p s b + ag w b + cost p b ws r = tg p s b + ag w b + lo p b ws
    rw [h2]
  | s, w :: ws, i + 1, b, h => by
    have h' : i < ws.length := by simpa using h
    obtain ⟨rf, f1, f2, f3⟩ := at_ex p false ws i b h'
    obtain ⟨rt, t1, t2, t3⟩ := at_ex p true ws i b h'
    by_cases h : tg p s true + ag w true + at_ p true ws i b < tg p s false + ag w false + at_ p false ws i b
    · refine ⟨true :: rt, by simp [t1], t2, ?_⟩
      show tg p s true + ag w true + cost p true ws rt = mn _ _
      rw [t3]
      unfold mn
      rw [if_pos h]
    · refine ⟨false :: rf, by simp [f1], f2, ?_⟩
      show tg p s false + ag w false + cost p false ws rf = mn _ _
      rw [f3]
      unfold mn
      rw [if_neg h]
/-- another start costs at most one change more -/
theorem tg_tri {p : Int} (hp : 0 ≤ p) (s z b : Bool) : tg p s b ≤ p + tg p z b := by
  cases s <;> cases z <;> cases b <;> simp [tg] <;> omega
theorem lo_tri {p : Int} (hp : 0 ≤ p) (s z : Bool) : ∀ ws : List Int, lo p s ws ≤ p + lo p z ws
  | [] => by simp [lo]; exact hp
  | w :: ws => by
    have h1 := tg_tri hp s z false
    have h2 := tg_tri hp s z true
    show mn _ _ ≤ p + mn _ _
    unfold mn
    split <;> split <;> omega
theorem at_tri {p : Int} (hp : 0 ≤ p) (s z : Bool) : ∀ (ws : List Int) (i : Nat) (b : Bool), at_ p s ws i b ≤ p + at_ p z ws i b
  | [], _, _ => by simp [at_]; exact hp
  | w :: ws, 0, b => by
    have h1 := tg_tri hp s z b
    show tg p s b + ag w b + lo p b ws ≤ p + (tg p z b + ag w b + lo p b ws)
    omega
  | w :: ws, i + 1, b => by
    have h1 := tg_tri hp s z false
    have h2 := tg_tri hp s z true
    show mn _ _ ≤ p + mn _ _
    unfold mn
    split <;> split <;> omega

/-! ### two costs side by side -/
/-- a turn ahead -/
def lo2 (p x y w : Int) : Int := mn x (y + p) + ag w false
def to2 (p x y w : Int) : Int := mn y (x + p) + ag w true
theorem ahead_diff {p x y w : Int} (hp : 0 ≤ p) : lo2 p x y w - to2 p x y w = cut (x - y) p + w := by
  have h := ag_diff w
  have hc := cut_spec (x := x - y) hp
  unfold lo2 to2
  generalize ag w false = a at h ⊢
  generalize ag w true = b at h ⊢
  generalize cut (x - y) p = c at hc ⊢
  unfold mn
  split <;> split <;> omega
/-- the differences ahead, as the law walks them -/
def ahead (p : Int) : Int → Int → List Int → List Int
  | _, _, [] => []
  | x, y, w :: ws => (lo2 p x y w - to2 p x y w) :: ahead p (lo2 p x y w) (to2 p x y w) ws
/-- the least cost, as the law walks it -/
def solo (p : Int) : Int → Int → List Int → Int
  | x, y, [] => mn x y
  | x, y, w :: ws => solo p (lo2 p x y w) (to2 p x y w) ws

theorem behind_lo {p w : Int} {ws : List Int} : lo p false (w :: ws) = mn (lo p false ws + ag w false) (lo p true ws + ag w true + p) := by
  show mn (0 + ag w false + lo p false ws) (p + ag w true + lo p true ws) = _
  unfold mn
  split <;> split <;> omega
theorem behind_to {p w : Int} {ws : List Int} : lo p true (w :: ws) = mn (lo p true ws + ag w true) (lo p false ws + ag w false + p) := by
  show mn (p + ag w false + lo p false ws) (0 + ag w true + lo p true ws) = _
  unfold mn
  split <;> split <;> omega
theorem bh_lo {p : Int} (hp : 0 ≤ p) : ∀ ws : List Int, bh p 0 ws = lo p false ws - lo p true ws
  | [] => by simp [bh, lo]
  | w :: ws => by
    have ih := bh_lo hp ws
    have h := ag_diff w
    have hc := cut_spec (x := bh p 0 ws + w) hp
    rw [behind_lo, behind_to]
    show cut (bh p 0 ws + w) p = _
    generalize cut (bh p 0 ws + w) p = c at hc ⊢
    generalize ag w false = a at h ⊢
    generalize ag w true = b at h ⊢
    unfold mn
    split <;> split <;> omega
theorem ahead_len (p : Int) : ∀ (x y : Int) (ws : List Int), (ahead p x y ws).length = ws.length
  | _, _, [] => rfl
  | x, y, w :: ws => by
    show (ahead p _ _ ws).length + 1 = ws.length + 1
    rw [ahead_len p _ _ ws]
/-- the law's gap at a place is the program's sum there -/
theorem gaps_at {p : Int} (hp : 0 ≤ p) : ∀ (x y : Int) (ws : List Int) (i : Nat) (d : Int), (ahead p x y ws)[i]? = some d →
    (sums p 0 (cut (x - y) p) ws)[i]? = some (d + lo p false (ws.drop (i + 1)) - lo p true (ws.drop (i + 1)))
  | _, _, [], _, _, h => by simp [ahead] at h
  | x, y, w :: ws, 0, d, h => by
    have e1 : lo2 p x y w - to2 p x y w = d := Option.some.inj h
    have e2 := ahead_diff (x := x) (y := y) (w := w) hp
    have e3 := bh_lo hp ws
    show some (cut (x - y) p + w + bh p 0 ws) = some (d + lo p false ws - lo p true ws)
    congr 1
    omega
  | x, y, w :: ws, i + 1, d, h => by
    have e2 := ahead_diff (x := x) (y := y) (w := w) hp
    have ih := gaps_at hp (lo2 p x y w) (to2 p x y w) ws i d h
    rw [e2] at ih
    exact ih
theorem sums_gap {p : Int} (hp : 0 ≤ p) : ∀ (x y : Int) (ws : List Int) (i : Nat) (g : Int), (sums p 0 (cut (x - y) p) ws)[i]? = some g →
    g = mn (x + at_ p false ws i false) (y + at_ p true ws i false) - mn (x + at_ p false ws i true) (y + at_ p true ws i true)
  | _, _, [], _, _, h => by simp [sums] at h
  | x, y, w :: ws, 0, g, h => by
    have e1 : cut (x - y) p + w + bh p 0 ws = g := Option.some.inj h
    have e2 := ahead_diff (x := x) (y := y) (w := w) hp
    have e3 := bh_lo hp ws
    show g = mn (x + (0 + ag w false + lo p false ws)) (y + (p + ag w false + lo p false ws)) - mn (x + (p + ag w true + lo p true ws)) (y + (0 + ag w true + lo p true ws))
    unfold lo2 to2 at e2
    unfold mn at e2 ⊢
    split at e2 <;> split at e2 <;> split <;> split <;> omega
  | x, y, w :: ws, i + 1, g, h => by
    have e2 := ahead_diff (x := x) (y := y) (w := w) hp
    have h' : (sums p 0 (cut (cut (x - y) p + w) p) ws)[i]? = some g := h
    rw [← e2] at h'
    rw [sums_gap hp _ _ ws i g h']
    have key : ∀ b : Bool, mn (lo2 p x y w + at_ p false ws i b) (to2 p x y w + at_ p true ws i b) = mn (x + at_ p false (w :: ws) (i + 1) b) (y + at_ p true (w :: ws) (i + 1) b) := fun b => by
      show _ = mn (x + mn (0 + ag w false + at_ p false ws i b) (p + ag w true + at_ p true ws i b)) (y + mn (p + ag w false + at_ p false ws i b) (0 + ag w true + at_ p true ws i b))
      unfold lo2 to2
      generalize ag w false = a
      generalize ag w true = c
      generalize at_ p false ws i b = u
      generalize at_ p true ws i b = v
      unfold mn
      by_cases h1 : y + p < x <;> by_cases h2 : x + p < y <;> simp only [h1, h2, if_true, if_false] <;> split <;> split <;> split <;> split <;> omega
    rw [key false, key true]
theorem solo_lo {p : Int} : ∀ (x y : Int) (ws : List Int), solo p x y ws = mn (x + lo p false ws) (y + lo p true ws)
  | x, y, [] => by simp [solo, lo]
  | x, y, w :: ws => by
    show solo p (lo2 p x y w) (to2 p x y w) ws = _
    rw [solo_lo _ _ ws]
    show _ = mn (x + mn (0 + ag w false + lo p false ws) (p + ag w true + lo p true ws)) (y + mn (p + ag w false + lo p false ws) (0 + ag w true + lo p true ws))
    unfold lo2 to2
    generalize ag w false = a
    generalize ag w true = c
    generalize lo p false ws = u
    generalize lo p true ws = v
    unfold mn
    by_cases h1 : y + p < x <;> by_cases h2 : x + p < y <;> simp only [h1, h2, if_true, if_false] <;> split <;> split <;> split <;> split <;> omega

/-! ### from a start -/
def x1 (s : Bool) (p : Int) : Int := if s then p else 0
def y1 (s : Bool) (p : Int) : Int := if s then 0 else p
theorem cut_start {p : Int} (hp : 0 ≤ p) (s : Bool) : cut (x1 s p - y1 s p) p = m1 s p := by
  have hc := cut_spec (x := x1 s p - y1 s p) hp
  cases s
  · show cut (0 - p) p = -p
    have hc : _ := hc
    simp only [x1, y1, Bool.false_eq_true, if_false] at hc
    omega
  · show cut (p - 0) p = p
    simp only [x1, y1, if_true] at hc
    omega
theorem gap_start {p : Int} (hp : 0 ≤ p) (s : Bool) (ws : List Int) (i : Nat) (g : Int) (h : (sums p 0 (m1 s p) ws)[i]? = some g) : g = at_ p s ws i false - at_ p s ws i true := by
  rw [← cut_start hp] at h
  have e := sums_gap hp _ _ ws i g h
  have t1 := at_tri hp s (!s) ws i false
  have t2 := at_tri hp s (!s) ws i true
  cases s
  · simp only [x1, y1, Bool.false_eq_true, if_false, Bool.not_false] at e t1 t2
    unfold mn at e
    split at e <;> split at e <;> omega
  · simp only [x1, y1, if_true, Bool.not_true] at e t1 t2
    unfold mn at e
    split at e <;> split at e <;> omega
theorem solo_start {p : Int} (hp : 0 ≤ p) (s : Bool) (ws : List Int) : solo p (x1 s p) (y1 s p) ws = lo p s ws := by
  have e := solo_lo (p := p) (x1 s p) (y1 s p) ws
  have t := lo_tri hp s (!s) ws
  rw [e]
  cases s
  · simp only [x1, y1, Bool.false_eq_true, if_false, Bool.not_false] at t ⊢
    unfold mn
    split <;> omega
  · simp only [x1, y1, if_true, Bool.not_true] at t ⊢
    unfold mn
    split <;> omega
theorem at_lo {p : Int} : ∀ (s : Bool) (ws : List Int) (i : Nat), i < ws.length → lo p s ws = mn (at_ p s ws i false) (at_ p s ws i true)
  | _, [], _, h => by simp at h
  | _, _ :: _, 0, _ => rfl
  | s, w :: ws, i + 1, h => by
    have h' : i < ws.length := by simpa using h
    have f := at_lo (p := p) false ws i h'
    have t := at_lo (p := p) true ws i h'
    show mn (tg p s false + ag w false + lo p false ws) (tg p s true + ag w true + lo p true ws) =
      mn (mn (tg p s false + ag w false + at_ p false ws i false) (tg p s true + ag w true + at_ p true ws i false)) (mn (tg p s false + ag w false + at_ p false ws i true) (tg p s true + ag w true + at_ p true ws i true))
    rw [f, t]
    generalize tg p s false + ag w false = a
    generalize tg p s true + ag w true = c
    unfold mn
    repeat' split
    all_goals omega

/-! ### the two rows -/
def lrow (p : Int) (s : Bool) (ws : List Int) : List Bool := (sums p 0 (m1 s p) ws).map fun g => decide (0 < g)
def grow (p : Int) (s : Bool) (ws : List Int) : List Bool := (sums p 0 (m1 s p) ws).map fun g => decide (0 ≤ g)
theorem lrow_len (p : Int) (s : Bool) (ws : List Int) : (lrow p s ws).length = ws.length := by
  unfold lrow
  rw [List.length_map, sums_len]
theorem grow_len (p : Int) (s : Bool) (ws : List Int) : (grow p s ws).length = ws.length := by
  unfold grow
  rw [List.length_map, sums_len]
theorem lo_of {p : Int} {s b : Bool} {w : Int} {ws : List Int} (h : ∀ c, tg p s b + ag w b + lo p b ws ≤ tg p s c + ag w c + lo p c ws) : tg p s b + ag w b + lo p b ws = lo p s (w :: ws) := by
  have h1 := h false
  have h2 := h true
  show _ = mn _ _
  unfold mn
  cases b <;> split <;> omega
theorem lcost {p : Int} (hp : 0 ≤ p) : ∀ (s : Bool) (D : Int) (ws : List Int), ((s = true ∧ (0 < D + bh p 0 ws ∨ D = p)) ∨ (s = false ∧ (D + bh p 0 ws ≤ 0 ∨ D = -p))) →
    cost p s ws ((sums p 0 (cut D p) ws).map fun g => decide (0 < g)) = lo p s ws
  | _, _, [], _ => rfl
  | s, D, w :: ws, h => by
    have e3 := bh_lo hp ws
    have ha := ag_diff w
    have c1 := cut_spec (x := D) hp
    have c2 := cut_spec (x := bh p 0 ws + w) hp
    have h : (s = true ∧ (0 < D + cut (bh p 0 ws + w) p ∨ D = p)) ∨ (s = false ∧ (D + cut (bh p 0 ws + w) p ≤ 0 ∨ D = -p)) := h
    show tg p s (decide (0 < cut D p + w + bh p 0 ws)) + ag w (decide (0 < cut D p + w + bh p 0 ws)) + cost p (decide (0 < cut D p + w + bh p 0 ws)) ws ((sums p 0 (cut (cut D p + w) p) ws).map fun g => decide (0 < g)) = _
    by_cases hg : 0 < cut D p + w + bh p 0 ws
    · rw [decide_eq_true hg, lcost hp true (cut D p + w) ws (.inl ⟨rfl, .inl hg⟩)]
      refine lo_of fun c => ?_
      cases s <;> cases c <;> simp [tg] at h ⊢ <;> omega
    · rw [decide_eq_false hg, lcost hp false (cut D p + w) ws (.inr ⟨rfl, .inl (by omega)⟩)]
      refine lo_of fun c => ?_
      cases s <;> cases c <;> simp [tg] at h ⊢ <;> omega
theorem gcost {p : Int} (hp : 0 ≤ p) : ∀ (s : Bool) (D : Int) (ws : List Int), ((s = true ∧ (0 ≤ D + bh p 0 ws ∨ D = p)) ∨ (s = false ∧ (D + bh p 0 ws < 0 ∨ D = -p))) →
    cost p s ws ((sums p 0 (cut D p) ws).map fun g => decide (0 ≤ g)) = lo p s ws
  | _, _, [], _ => rfl
  | s, D, w :: ws, h => by
    have e3 := bh_lo hp ws
    have ha := ag_diff w
    have c1 := cut_spec (x := D) hp
    have c2 := cut_spec (x := bh p 0 ws + w) hp
    have h : (s = true ∧ (0 ≤ D + cut (bh p 0 ws + w) p ∨ D = p)) ∨ (s = false ∧ (D + cut (bh p 0 ws + w) p < 0 ∨ D = -p)) := h
    show tg p s (decide (0 ≤ cut D p + w + bh p 0 ws)) + ag w (decide (0 ≤ cut D p + w + bh p 0 ws)) + cost p (decide (0 ≤ cut D p + w + bh p 0 ws)) ws ((sums p 0 (cut (cut D p + w) p) ws).map fun g => decide (0 ≤ g)) = _
    by_cases hg : 0 ≤ cut D p + w + bh p 0 ws
    · rw [decide_eq_true hg, gcost hp true (cut D p + w) ws (.inl ⟨rfl, .inl hg⟩)]
      refine lo_of fun c => ?_
      cases s <;> cases c <;> simp [tg] at h ⊢ <;> omega
    · rw [decide_eq_false hg, gcost hp false (cut D p + w) ws (.inr ⟨rfl, .inl (by omega)⟩)]
      refine lo_of fun c => ?_
      cases s <;> cases c <;> simp [tg] at h ⊢ <;> omega
theorem m1_cut {p : Int} (hp : 0 ≤ p) (s : Bool) : cut (m1 s p) p = m1 s p := by
  have hc := cut_spec (x := m1 s p) hp
  cases s <;> simp only [m1, Bool.false_eq_true, if_false, if_true] at hc ⊢ <;> omega
theorem lrow_cost {p : Int} (hp : 0 ≤ p) (s : Bool) (ws : List Int) : cost p s ws (lrow p s ws) = lo p s ws := by
  have h := lcost hp s (m1 s p) ws (by cases s <;> simp [m1])
  rw [m1_cut hp] at h
  exact h
theorem grow_cost {p : Int} (hp : 0 ≤ p) (s : Bool) (ws : List Int) : cost p s ws (grow p s ws) = lo p s ws := by
  have h := gcost hp s (m1 s p) ws (by cases s <;> simp [m1])
  rw [m1_cut hp] at h
  exact h

/-! ### all rows -/
def lastOr (s : Bool) (r : List Bool) : Bool := (r.getLast?).getD s
def longer (s : Bool) (p w : Int) (b : Bool) (e : List Bool × Int) : List Bool × Int := (e.1 ++ [b], e.2 + (if b = lastOr s e.1 then 0 else p) + ag w b)
def grown (s : Bool) (p w : Int) (R : List (List Bool × Int)) : List (List Bool × Int) := R.map (longer s p w false) ++ R.map (longer s p w true)
def rowsFrom (s : Bool) (p : Int) : List (List Bool × Int) → List Int → List (List Bool × Int)
  | R, [] => R
  | R, w :: ws => rowsFrom s p (grown s p w R) ws
def rows (s : Bool) (p : Int) (ws : List Int) : List (List Bool × Int) := rowsFrom s p [([], 0)] ws
theorem cost_snoc (p : Int) : ∀ (s : Bool) (ws : List Int) (r : List Bool) (w : Int) (b : Bool), r.length = ws.length → cost p s (ws ++ [w]) (r ++ [b]) = cost p s ws r + (if b = lastOr s r then 0 else p) + ag w b
  | s, [], [], w, b, _ => by
    show tg p s b + ag w b + 0 = 0 + (if b = s then 0 else p) + ag w b
    unfold tg
    omega
  | _, [], _ :: _, _, _, h => by simp at h
  | _, _ :: _, [], _, _, h => by simp at h
  | s, v :: ws, c :: r, w, b, h => by
    have ih := cost_snoc p c ws r w b (by simpa using h)
    have e : lastOr s (c :: r) = lastOr c r := by
      unfold lastOr
      cases r with
      | nil => rfl
      | cons d r => simp [List.getLast?_cons]
    show tg p s c + ag v c + cost p c (ws ++ [w]) (r ++ [b]) = tg p s c + ag v c + cost p c ws r + (if b = lastOr s (c :: r) then 0 else p) + ag w b
    rw [ih, e]
    omega
/-- R holds just the rows over pre, with their costs -/
def AllOf (s : Bool) (p : Int) (pre : List Int) (R : List (List Bool × Int)) : Prop := ∀ e, e ∈ R ↔ e.1.length = pre.length ∧ e.2 = cost p s pre e.1
theorem grown_all {s : Bool} {p w : Int} {pre : List Int} {R : List (List Bool × Int)} (h : AllOf s p pre R) : AllOf s p (pre ++ [w]) (grown s p w R) := by
  rintro ⟨r, c⟩
  have one : ∀ b, (r, c) ∈ R.map (longer s p w b) ↔ ∃ r', r = r' ++ [b] ∧ r'.length = pre.length ∧ c = cost p s (pre ++ [w]) (r' ++ [b]) := fun b => by
    rw [List.mem_map]
    constructor
    · rintro ⟨⟨r', c'⟩, hm, e⟩
      obtain ⟨h1, h2⟩ := (h _).mp hm
      cases e
      refine ⟨r', rfl, h1, ?_⟩
      have h2 : c' = cost p s pre r' := h2
      rw [cost_snoc p s pre r' w b h1, ← h2]
    · rintro ⟨r', rfl, h1, rfl⟩
      refine ⟨(r', cost p s pre r'), (h _).mpr ⟨h1, rfl⟩, ?_⟩
      show (r' ++ [b], cost p s pre r' + (if b = lastOr s r' then 0 else p) + ag w b) = _
      rw [cost_snoc p s pre r' w b h1]
  unfold grown
  rw [List.mem_append, one, one]
  constructor
  · rintro (⟨r', rfl, h1, h2⟩ | ⟨r', rfl, h1, h2⟩)
    · exact ⟨by simp [h1], h2⟩
    · exact ⟨by simp [h1], h2⟩
  · rintro ⟨h1, h2⟩
    have h1 : r.length = (pre ++ [w]).length := h1
    have h2 : c = cost p s (pre ++ [w]) r := h2
    have hne : r ≠ [] := fun z => by
      subst z
      simp at h1
    have e := List.dropLast_concat_getLast hne
    have l : r.dropLast.length = pre.length := by
      rw [List.length_dropLast, h1]
      simp
    cases hb : r.getLast hne with
    | false =>
      rw [hb] at e
      exact .inl ⟨r.dropLast, e.symm, l, by rw [e]; exact h2⟩
    | true =>
      rw [hb] at e
      exact .inr ⟨r.dropLast, e.symm, l, by rw [e]; exact h2⟩
theorem rowsFrom_all {s : Bool} {p : Int} : ∀ (ws pre : List Int) (R : List (List Bool × Int)), AllOf s p pre R → AllOf s p (pre ++ ws) (rowsFrom s p R ws)
  | [], pre, R, h => by
    rw [List.append_nil]
    exact h
  | w :: ws, pre, R, h => by
    have := rowsFrom_all ws (pre ++ [w]) (grown s p w R) (grown_all h)
    rw [List.append_assoc] at this
    exact this
theorem rows_all (s : Bool) (p : Int) (ws : List Int) : AllOf s p ws (rows s p ws) := rowsFrom_all ws [] [([], 0)] (by
  rintro ⟨r, c⟩
  rw [List.mem_singleton]
  constructor
  · intro e
    cases e
    exact ⟨rfl, rfl⟩
  · rintro ⟨h1, h2⟩
    have h1 : r.length = 0 := h1
    have e : r = [] := List.length_eq_zero_iff.mp h1
    subst e
    have h2 : c = 0 := h2
    subst h2
    rfl)
theorem grown_len (s : Bool) (p w : Int) (R : List (List Bool × Int)) : (grown s p w R).length = 2 * R.length := by
  unfold grown
  rw [List.length_append, List.length_map, List.length_map]
  omega
theorem rowsFrom_len (s : Bool) (p : Int) : ∀ (ws : List Int) (R : List (List Bool × Int)), (rowsFrom s p R ws).length = 2 ^ ws.length * R.length
  | [], R => by simp [rowsFrom]
  | w :: ws, R => by
    show (rowsFrom s p (grown s p w R) ws).length = _
    rw [rowsFrom_len s p ws, grown_len, List.length_cons, Nat.pow_succ, Nat.mul_assoc]
/-- the rows of least cost -/
def best (s : Bool) (p : Int) (ws : List Int) : List (List Bool) := ((rows s p ws).filter fun e => decide (e.2 = lo p s ws)).map (·.1)
theorem mem_best {s : Bool} {p : Int} {ws : List Int} {r : List Bool} : r ∈ best s p ws ↔ r.length = ws.length ∧ cost p s ws r = lo p s ws := by
  unfold best
  rw [List.mem_map]
  constructor
  · rintro ⟨⟨r', c⟩, h, rfl⟩
    obtain ⟨h1, h2⟩ := List.mem_filter.mp h
    obtain ⟨h3, h4⟩ := (rows_all s p ws _).mp h1
    have h4 : c = cost p s ws r' := h4
    exact ⟨h3, by rw [← h4]; exact of_decide_eq_true h2⟩
  · rintro ⟨h1, h2⟩
    exact ⟨(r, cost p s ws r), List.mem_filter.mpr ⟨(rows_all s p ws _).mpr ⟨h1, rfl⟩, decide_eq_true h2⟩, rfl⟩
/-- the least cost is the least in the list -/
theorem least_of {s : Bool} {p : Int} {ws : List Int} {m : Int} (h1 : m ∈ (rows s p ws).map (·.2)) (h2 : ∀ x ∈ (rows s p ws).map (·.2), m ≤ x) : m = lo p s ws := by
  obtain ⟨⟨r, c⟩, h3, rfl⟩ := List.mem_map.mp h1
  obtain ⟨h4, h5⟩ := (rows_all s p ws _).mp h3
  have h5 : c = cost p s ws r := h5
  have a := lo_le p s ws r h4
  obtain ⟨q, q1, q2⟩ := lo_ex p s ws
  have b := h2 (cost p s ws q) (List.mem_map.mpr ⟨(q, cost p s ws q), (rows_all s p ws _).mpr ⟨q1, rfl⟩, rfl⟩)
  show c = _
  have b : c ≤ cost p s ws q := b
  omega
def everyAt (B : List (List Bool)) (i : Nat) : Bool := decide (((B.filter fun r => !(r.getD i false)).length : Int) = 0)
def someAt (B : List (List Bool)) (i : Nat) : Bool := decide ((0 : Int) < ((B.filter fun r => r.getD i false).length : Int))
theorem getD_of {r : List Bool} {i : Nat} {b : Bool} (h : r[i]? = some b) : r.getD i false = b := by
  rw [List.getD_eq_getElem?_getD, h]
  rfl
theorem at_some {r : List Bool} {i : Nat} (h : i < r.length) : r[i]? = some (r.getD i false) := by
  rw [List.getD_eq_getElem?_getD, List.getElem?_eq_getElem h]
  rfl
theorem every_is {p : Int} (hp : 0 ≤ p) (s : Bool) (ws : List Int) (i : Nat) (g : Int) (h : (sums p 0 (m1 s p) ws)[i]? = some g) : everyAt (best s p ws) i = decide (0 < g) := by
  have hi : i < ws.length := by
    have := (List.getElem?_eq_some_iff.mp h).1
    rw [sums_len] at this
    exact this
  have hg := gap_start hp s ws i g h
  have hl := at_lo (p := p) s ws i hi
  unfold everyAt
  by_cases h0 : 0 < g
  · rw [decide_eq_true h0]
    refine decide_eq_true ?_
    have e : ((best s p ws).filter fun r => !(r.getD i false)) = [] := by
      rw [List.filter_eq_nil_iff]
      intro r hr hn
      obtain ⟨h1, h2⟩ := mem_best.mp hr
      have hf : r.getD i false = false := by simpa using hn
      have q := at_some (r := r) (i := i) (by omega)
      rw [hf] at q
      have := at_le p s ws r i false h1 q
      unfold mn at hl
      split at hl <;> omega
    rw [e]
    rfl
  · rw [decide_eq_false h0]
    refine decide_eq_false fun z => ?_
    obtain ⟨r, h1, h2, h3⟩ := at_ex p s ws i false hi
    have hm : r ∈ (best s p ws).filter fun r => !(r.getD i false) := by
      refine List.mem_filter.mpr ⟨mem_best.mpr ⟨h1, ?_⟩, ?_⟩
      · unfold mn at hl
        split at hl <;> omega
      · rw [getD_of h2]
        rfl
    have := List.length_pos_of_mem hm
    omega
theorem some_is {p : Int} (hp : 0 ≤ p) (s : Bool) (ws : List Int) (i : Nat) (g : Int) (h : (sums p 0 (m1 s p) ws)[i]? = some g) : someAt (best s p ws) i = decide (0 ≤ g) := by
  have hi : i < ws.length := by
    have := (List.getElem?_eq_some_iff.mp h).1
    rw [sums_len] at this
    exact this
  have hg := gap_start hp s ws i g h
  have hl := at_lo (p := p) s ws i hi
  unfold someAt
  by_cases h0 : 0 ≤ g
  · rw [decide_eq_true h0]
    refine decide_eq_true ?_
    obtain ⟨r, h1, h2, h3⟩ := at_ex p s ws i true hi
    have hm : r ∈ (best s p ws).filter fun r => r.getD i false := by
      refine List.mem_filter.mpr ⟨mem_best.mpr ⟨h1, ?_⟩, getD_of h2⟩
      unfold mn at hl
      split at hl <;> omega
    have := List.length_pos_of_mem hm
    omega
  · rw [decide_eq_false h0]
    refine decide_eq_false fun z => ?_
    have e : ((best s p ws).filter fun r => r.getD i false) = [] := by
      rw [List.filter_eq_nil_iff]
      intro r hr hn
      obtain ⟨h1, h2⟩ := mem_best.mp hr
      have q := at_some (r := r) (i := i) (by omega)
      rw [hn] at q
      have := at_le p s ws r i true h1 q
      unfold mn at hl
      split at hl <;> omega
    rw [e] at z
    simp at z
end Lv
/-! The def calls of this text, in short. -/
namespace Lv
open PySem PySem.Spec PyProof.Rows L2
/-- the statements of the text's top -/
def tp (i : Nat) : Stmt := PySem.Challenge.pw_livecopy_k32_whole_best_rows.main.body.getD i (.Pass ⟨0, 0, 0, 0⟩)

/-- the built-ins are still the built-ins -/
structure Bl (mg : Str → Option Value) : Prop where
  len : mg "len" = none
  max : mg "max" = none
  min : mg "min" = none
  abs : mg "abs" = none
  int : mg "int" = none
  range : mg "range" = none
  isinstance : mg "isinstance" = none
  list : mg "list" = none
  bool : mg "bool" = none
  repr : mg "repr" = none

section
variable (P : Program) (w : World) (K : PySem.W.Frag) (mg : Str → Option Value) (base : Heap)
/-- a def of the module under the name x, all of whose parameters are given by place, keeps the promise sp -/
structure Cal (k : Nat) (x : Str) (ps : List Str) (sp : Sp) : Prop where
  ex : ∃ (f : Addr) (fd : FuncData), FnOk P w K mg base CX0 k f fd ps sp ∧ mg x = some (.ref f) ∧ PySem.W.keepIn K (.ref f) = true ∧ Binds K fd ps []
/-- the same, n by place and the others by the names ks -/
structure CalK (k : Nat) (x : Str) (ps : List Str) (n : Nat) (ks : List Str) (sp : Sp) : Prop where
  ex : ∃ (f : Addr) (fd : FuncData), FnOk P w K mg base CX0 k f fd ps sp ∧ mg x = some (.ref f) ∧ PySem.W.keepIn K (.ref f) = true ∧ KBn K fd ps n ks (fun us ws => us ++ ws) (fun vs zs => vs ++ zs)
end
section
variable {X : Cx} {k n : Nat} {x : Str} {ps ks : List Str} {sp : Sp} {p pos : Pos} {e : Expr} {es : List Expr} {kws : List Keyword} {t tk : TA}
theorem pe_cal (C : Cal X.prog X.w X.K X.mg X.base k x ps sp) (hr : Room k X.A) (hg : Gl X x) (ha : PA X (e :: es) t) (hdb : (x == ("__debug__" : Str)) = false := by decide)
    (he : starEach (e :: es) X.env = (false, eval e X.env) :: starEach es X.env := by rfl) (hpl : (backTo pos (starEach es X.env)).any (·.1) = false := by rfl) :
    PE X (.Call (.Name x p) (e :: es) [] pos) (tCall sp [] E0 t) := by
  obtain ⟨f, fd, F, hm, hk, hb⟩ := C.ex
  exact pe_call F hr hg hm hk hb .nil pass0 ha hdb he hpl
theorem pe_calK (C : CalK X.prog X.w X.K X.mg X.base k x ps n ks sp) (hr : Room k X.A) (hg : Gl X x) (ha : PA X (e :: es) t) (hkw : PK X kws tk)
    (hall : (backToKw pos (keywordEach kws X.env)).all (·.1.isSome) = true := by rfl) (hks : (backToKw pos (keywordEach kws X.env)).filterMap (·.1) = ks := by rfl) (hdb : (x == ("__debug__" : Str)) = false := by decide)
    (he : starEach (e :: es) X.env = (false, eval e X.env) :: starEach es X.env := by rfl) (hpl : ((backTo pos (starEach (e :: es) X.env)).any (·.1) || (backToKw pos (keywordEach kws X.env)).any (·.1.isNone)) = false := by rfl) :
    PE X (.Call (.Name x p) (e :: es) kws pos) (tCallN n ks.length sp (fun vs zs => vs ++ zs) E0 t tk) := by
  obtain ⟨f, fd, F, hm, hk, hb⟩ := C.ex
  exact pe_callN F hr hg hm hk hb pass0 ha hkw hall hks hdb he hpl
end

/-! ### rules whose reading names the written part outright (within a comprehension the context's own word for it would not do) -/
section
variable {X : Cx} {K : PySem.W.Frag}
theorem ix_l (h : X.K = K) : IxR X (rIxL K) := by
  subst h
  exact ix_list
theorem len_l (h : X.K = K) : CallR X (.builtin "len") (fun xs H Q => ∃ p ys, xs = [.ref p] ∧ (SqL K H p ys ∨ SqT K H p ys) ∧ Q (.int ys.length) H) := by
  subst h
  exact call_len_seq
theorem pi_l {tg l : Expr} {tl : TE} (h : X.K = K) (hl : PE X l tl) : PI X tg l (iList K tl) := by
  subst h
  exact pi_list hl
end

/-! ### heaps -/
theorem same_put {H H' : Hp} {o : Addr} {u : HO} (s : Same H H') (n : H o = none) : Same H (upd H' o u) := fun b z e => by
  rw [upd_ne (ne_of_none e n)]
  exact s b z e
theorem same_new {H : Hp} {o : Addr} {u : HO} (n : H o = none) : Same H (upd H o u) := same_put (Same.refl H) n
/-- a new list is handed back, all that was tracked stands -/
def NewL (H : Hp) (Q : VK) (xs : List V) : Prop := ∀ (H' : Hp) (p : Addr), Same H H' → H p = none → H' p = some (.lst xs) → Q (.ref p) H'
theorem item_int {ws : List Int} {i : Nat} {y : V} (h : (ws.map V.int)[i]? = some y) : ∃ v : Int, y = .int v ∧ ws[i]? = some v ∧ ws.drop i = v :: ws.drop (i + 1) ∧ i < ws.length := by
  rw [List.getElem?_map] at h
  cases e : ws[i]? with
  | none =>
    rw [e] at h
    cases h
  | some v =>
    rw [e] at h
    obtain ⟨hl, hv⟩ := List.getElem?_eq_some_iff.mp e
    refine ⟨v, (Option.some.inj h).symm, rfl, ?_, hl⟩
    rw [List.drop_eq_getElem_cons hl, hv]
theorem at_int {ws : List Int} {i : Nat} {v : Int} (h : ws[i]? = some v) : (ws.map V.int)[i]? = some (.int v) := by
  rw [List.getElem?_map, h]
  rfl
end Lv
/-! The program's defs: clip, forward, backward, counter_sums, row_between, least_row, greatest_row. -/
namespace Lv
open PySem PySem.Spec PyProof.Rows L2
abbrev sClip : Stmt := tp 1
abbrev sFwd : Stmt := tp 3
abbrev sBwd : Stmt := tp 4
abbrev sSums : Stmt := tp 5
abbrev sBetween : Stmt := tp 6
abbrev sLeast : Stmt := tp 7
abbrev sGreat : Stmt := tp 8
def spClip : Sp := fun vs H Q _ => ∃ x t : Int, vs = [.int x, .int t] ∧ Q (.int (cut x t)) H
def spFwd (K : PySem.W.Frag) : Sp := fun vs H Q _ => ∃ (s : Bool) (a : Addr) (ws : List Int) (t : Int), vs = [.bl s, .ref a, .int t] ∧ SqL K H a (ws.map V.int) ∧ ws.length ≤ 100 ∧ NewL H Q ((fwd t (m1 s t) ws).map V.int)
def spBwd (K : PySem.W.Frag) : Sp := fun vs H Q _ => ∃ (a : Addr) (ws : List Int) (t l : Int), vs = [.ref a, .int t, .int l] ∧ SqL K H a (ws.map V.int) ∧ ws.length ≤ 100 ∧ NewL H Q ((bwd t l ws).map V.int)
def spSums (K : PySem.W.Frag) : Sp := fun vs H Q _ => ∃ (s : Bool) (a : Addr) (ws : List Int) (t l : Int), vs = [.bl s, .ref a, .int t, .int l] ∧ SqL K H a (ws.map V.int) ∧ ws.length ≤ 100 ∧ NewL H Q ((sums t l (m1 s t) ws).map V.int)
def spBetween (K : PySem.W.Frag) : Sp := fun vs H Q _ => ∃ (s : Bool) (a : Addr) (ws : List Int) (t l : Int), vs = [.bl s, .ref a, .int t, .int l] ∧ SqL K H a (ws.map V.int) ∧ ws.length ≤ 100 ∧ NewL H Q (((sums t l (m1 s t) ws).map fun g => decide (0 < g)).map V.bl)
def spLeast (K : PySem.W.Frag) : Sp := fun vs H Q _ => ∃ (s : Bool) (a : Addr) (ws : List Int) (t : Int), vs = [.bl s, .ref a, .int t] ∧ SqL K H a (ws.map V.int) ∧ ws.length ≤ 100 ∧ NewL H Q ((lrow t s ws).map V.bl)
def spGreat (K : PySem.W.Frag) : Sp := fun vs H Q _ => ∃ (s : Bool) (a : Addr) (ws : List Int) (t : Int), vs = [.bl s, .ref a, .int t] ∧ SqL K H a (ws.map V.int) ∧ ws.length ≤ 100 ∧ NewL H Q ((grow t s ws).map V.bl)

section
variable {P : Program} {w : World} {K : PySem.W.Frag} {mg : Str → Option Value} {base : Heap}

/-! ### clip -/
theorem scClip : FnScope ["value", "band"] ["value", "band"] (defScope sClip) := ⟨rfl, rfl, rfl, by decide +kernel, rfl, by decide +kernel, by decide +kernel⟩
theorem ok_clip {f : Addr} {fd : FuncData} (F : Fun K "clip" "clip" sClip f fd) (B : Bl mg) : FnOk P w K mg base CX0 1 f fd ["value", "band"] spClip := by
  refine F.ok scClip (fun vs H Q E h => ?_) (fun cdv A outer s H vs Q E hr h => ?_)
  · obtain ⟨x, t, rfl, _⟩ := h
    rfl
  · obtain ⟨x, t, rfl, q⟩ := h
    refine ⟨_, (pss_one (ps_ret (pe_callB (call_max2 rfl) (by rfl) B.max (by decide +kernel) (pa_cons (pe_un un_neg (pv 1)) (pa_cons (pe_callB (call_min2 rfl) (by rfl) B.min (by decide +kernel) (pa_cons (pv 1) (pa_cons (pv 0) pa_nil))) pa_nil))))), ?_⟩
    exact ⟨.int t, rfl, t, rfl, .int t, rfl, .int x, rfl, t, x, rfl, _, _, rfl, q⟩

/-! ### forward -/
theorem if_m1 {σ : List (Option V)} {H : Hp} {Q : VK} {s : Bool} {t : Int} (h0 : σ[0]? = some (some (.bl s))) (h2 : σ[2]? = some (some (.int t))) (q : Q (.int (m1 s t)) H) : tIf (tB (tVar 0)) (tVar 2) (tUn (rU fun i => .int (-i)) (tVar 2)) σ H Q := by
  refine ⟨.bl s, h0, s, rfl, ?_⟩
  cases s
  · exact ⟨.int t, h2, t, rfl, q⟩
  · exact ⟨.int t, h2, q⟩
theorem scFwd : FnScope ["start", "votes", "toggle", "counter", "told", "vote"] ["start", "votes", "toggle"] (defScope sFwd) := ⟨rfl, rfl, rfl, by decide +kernel, rfl, by decide +kernel, by decide +kernel⟩
theorem ok_forward {f : Addr} {fd : FuncData} (F : Fun K "forward" "forward" sFwd f fd) (C_clip : Cal P w K mg base 1 "clip" ["value", "band"] spClip) : FnOk P w K mg base CX0 2 f fd ["start", "votes", "toggle"] (spFwd K) := by
  refine F.ok scFwd (fun vs H Q E h => ?_) (fun cdv A outer s H vs Q E hr h => ?_)
  · obtain ⟨s, a, ws, t, rfl, _⟩ := h
    rfl
  · obtain ⟨s, a, ws, t, rfl, hS, hlen, q⟩ := h
    refine ⟨_, (pss_cons (ps_set (i := 3) scFwd.nd rfl (.inl rfl) (pe_ifExp (pt_val (pv 0)) (pv 2) (pe_un un_neg (pv 2))))
      (pss_cons (ps_set (i := 4) scFwd.nd rfl (.inl rfl) (pe_lst pa_nil))
      (pss_cons (ps_for PassesOwn.never rfl (pi_l (K := K) rfl (pv 1)) (pg_name (i := 5) scFwd.nd rfl (.inl rfl)) (pss_cons (ps_expr (pe_bm PySem.F.plainAttrs_list PySem.F.slot_list_append PySem.F.type_list_append mt_append (pv 4) (pa_cons (pe_op op_add (pv 3) (pv 5)) pa_nil)))
      (pss_one (ps_set (i := 3) scFwd.nd rfl (.inl rfl) (pe_cal C_clip (hr.mono (by decide)) (by rfl) (pa_cons (pe_op op_add (pv 3) (pv 5)) (pa_cons (pv 2) pa_nil)))))))
      (pss_one (ps_ret (pv 4)))))), ?_⟩
    refine if_m1 rfl rfl ?_
    refine ⟨Nat.zero_le _, fun o no => ?_⟩
    refine ⟨.ref a, rfl, a, rfl, ⟨_, (same_new no).seq hS⟩, for_list (K := K) (a := a) (xs := ws.map V.int) (fun i σ H' => ∃ (m : Int) (got : List Int) (v : Option V), σ = [some (.bl s), some (.ref a), some (.int t), some (.int m), some (.ref o), v] ∧ Same H H' ∧
        H' o = some (.lst (got.map V.int)) ∧ got.length = i ∧ got ++ fwd t m (ws.drop i) = fwd t (m1 s t) ws)
      ⟨m1 s t, [], none, rfl, same_new no, upd_same, rfl, rfl⟩ (fun i σ H' _ ⟨_, _, _, _, sm, _⟩ => sm.seq hS) ?_ ?_⟩
    · rintro i y σ H' hi ⟨m, got, v, rfl, sm, ho, hl, he⟩
      obtain ⟨z, rfl, e1, e2, hlt⟩ := item_int hi
      rw [e2] at he
      refine ⟨.ref o, rfl, .inl ⟨rfl, _, .inl (.inl ho)⟩, .int m, rfl, .int z, rfl, m, z, rfl, rfl, o, _, _, rfl, rfl, ho, ?_, ?_⟩
      · rw [List.length_map, hl]
        exact small1000 (by omega)
      refine ⟨.int m, rfl, .int z, rfl, m, z, rfl, rfl, .int t, rfl, m + z, t, rfl, ?_⟩
      refine ⟨cut (m + z) t, got ++ [m + z], _, rfl, same_put sm no, ?_, ?_, ?_⟩
      · rw [upd_same, List.map_append]
        rfl
      · rw [List.length_append, hl]
        rfl
      · rw [List.append_assoc]
        exact he
    · rintro σ H' ⟨m, got, v, rfl, sm, ho, hl, he⟩
      rw [List.length_map, List.drop_length] at he
      have he : got ++ [] = fwd t (m1 s t) ws := he
      rw [List.append_nil] at he
      subst he
      exact ⟨.ref o, rfl, q _ _ sm no ho⟩

/-! ### backward -/
theorem scBwd : FnScope ["votes", "toggle", "last", "told", "vote"] ["votes", "toggle", "last"] (defScope sBwd) := ⟨rfl, rfl, rfl, by decide +kernel, rfl, by decide +kernel, by decide +kernel⟩
theorem bwd_last (t l : Int) (vs : List Int) : atI (((bwd t l vs).reverse).map V.int) (-1) = some (.int (bh t l vs)) := by
  rw [bwd_cons, List.reverse_cons, List.map_append]
  exact atI_last _ _
theorem ok_backward {f : Addr} {fd : FuncData} (F : Fun K "backward" "backward" sBwd f fd) (C_clip : Cal P w K mg base 1 "clip" ["value", "band"] spClip) : FnOk P w K mg base CX0 2 f fd ["votes", "toggle", "last"] (spBwd K) := by
  refine F.ok scBwd (fun vs H Q E h => ?_) (fun cdv A outer s H vs Q E hr h => ?_)
  · obtain ⟨a, ws, t, l, rfl, _⟩ := h
    rfl
  · obtain ⟨a, ws, t, l, rfl, hS, hlen, q⟩ := h
    refine ⟨_, (pss_cons (ps_set (i := 3) scBwd.nd rfl (.inl rfl) (pe_lst (pa_cons (pv 2) pa_nil)))
      (pss_cons (ps_for PassesOwn.never rfl (pi_l (K := K) rfl (pe_revL (pv 0))) (pg_name (i := 4) scBwd.nd rfl (.inl rfl)) (pss_one (ps_expr (pe_bm PySem.F.plainAttrs_list PySem.F.slot_list_append PySem.F.type_list_append mt_append (pv 3) (pa_cons (pe_cal C_clip (hr.mono (by decide)) (by rfl) (pa_cons (pe_op op_add (pe_ix (ix_l (K := K) rfl) (pv 3) (pe_un un_neg pe_int) (fun _ _ => rfl)) (pv 4)) (pa_cons (pv 1) pa_nil))) pa_nil)))))
      (pss_one (ps_ret (pe_revL (pv 3)))))), ?_⟩
    refine ⟨.int l, rfl, by show 1 ≤ sizeLine; decide, fun o no => ?_⟩
    have s1 : Same H (upd H o (.lst [.int l])) := same_new no
    refine ⟨.ref a, rfl, a, ws.map V.int, rfl, s1.seq hS, fun c nc => ?_⟩
    have s2 := same_new (u := .lst (ws.map V.int).reverse) nc
    have nco : c ≠ o := fun e => by
      rw [e, upd_same] at nc
      cases nc
    have erev : (ws.map V.int).reverse = ws.reverse.map V.int := List.map_reverse.symm
    refine ⟨c, rfl, ⟨_, .inl (.inl upd_same)⟩, for_list (K := K) (a := c) (xs := ws.reverse.map V.int) (fun i σ H' => ∃ (v : Option V), σ = [some (.ref a), some (.int t), some (.int l), some (.ref o), v] ∧ Same H H' ∧
        H' c = some (.lst (ws.reverse.map V.int)) ∧ H' o = some (.lst (((bwd t l (ws.reverse.take i).reverse).reverse).map V.int)))
      ⟨none, rfl, s1.trans s2, ?_, ?_⟩ (fun i σ H' _ ⟨_, _, _, hc, _⟩ => .inl (.inl hc)) ?_ ?_⟩
    · rw [upd_same, erev]
    · rw [upd_ne nco.symm, upd_same]
      rfl
    · rintro i y σ H' hi ⟨v, rfl, sm, hc, ho⟩
      obtain ⟨z, rfl, e1, e2, hlt⟩ := item_int hi
      have et : (ws.reverse.take (i + 1)).reverse = z :: (ws.reverse.take i).reverse := by
        rw [List.take_add_one, e1, List.reverse_append]
        rfl
      refine ⟨.ref o, rfl, .inl ⟨rfl, _, .inl (.inl ho)⟩, .ref o, rfl, 1, rfl, o, _, -1, _, rfl, rfl, .inl (.inl ho), bwd_last _ _ _, .int z, rfl, _, z, rfl, rfl, .int t, rfl, _, t, rfl, o, _, _, rfl, rfl, ho, ?_, ?_⟩
      · rw [List.length_reverse] at hlt
        rw [List.length_map, List.length_reverse, bwd_len, List.length_reverse, List.length_take]
        exact small1000 (by omega)
      refine ⟨_, rfl, same_put sm no, ?_, ?_⟩
      · rw [upd_ne nco]
        exact hc
      · rw [upd_same, et]
        show _ = some (HO.lst (((cut (bh t l (ws.reverse.take i).reverse + z) t :: bwd t l (ws.reverse.take i).reverse).reverse).map V.int))
        rw [List.reverse_cons, List.map_append]
        rfl
    · rintro σ H' ⟨v, rfl, sm, hc, ho⟩
      rw [List.length_map, List.take_length, List.reverse_reverse] at ho
      refine ⟨.ref o, rfl, o, _, rfl, .inl (.inl ho), fun p np => ?_⟩
      refine q _ _ (sm.trans (same_new np)) (sm.free np) ?_
      rw [upd_same, ← List.map_reverse, List.reverse_reverse]

/-! ### counter_sums -/
abbrev nSums : List Str := ["start", "votes", "toggle", "last", "ahead", "behind", "index"]
theorem scSums : FnScope nSums ["start", "votes", "toggle", "last"] (defScope sSums) := ⟨rfl, rfl, rfl, by decide +kernel, rfl, by decide +kernel, by decide +kernel⟩
theorem ok_sums {f : Addr} {fd : FuncData} (F : Fun K "counter_sums" "counter_sums" sSums f fd) (B : Bl mg) (C_forward : Cal P w K mg base 2 "forward" ["start", "votes", "toggle"] (spFwd K)) (C_backward : CalK P w K mg base 2 "backward" ["votes", "toggle", "last"] 2 ["last"] (spBwd K)) :
    FnOk P w K mg base CX0 3 f fd ["start", "votes", "toggle", "last"] (spSums K) := by
  refine F.ok scSums (fun vs H Q E h => ?_) (fun cdv A outer s H vs Q E hr h => ?_)
  · obtain ⟨s, a, ws, t, l, rfl, _⟩ := h
    rfl
  · obtain ⟨s, a, ws, t, l, rfl, hS, hlen, q⟩ := h
    refine ⟨_, (pss_cons (ps_set (i := 4) scSums.nd rfl (.inr rfl) (pe_cal C_forward (hr.mono (by decide)) (by rfl) (pa_cons (pv 0) (pa_cons (pv 1) (pa_cons (pv 2) pa_nil)))))
      (pss_cons (ps_set (i := 5) scSums.nd rfl (.inr rfl) (pe_calK C_backward (hr.mono (by decide)) (by rfl) (pa_cons (pv 1) (pa_cons (pv 2) pa_nil)) (pk_cons (pv 3) pk_nil)))
      (pss_one (ps_ret (pe_lc (own := [("index", 6)]) (g := gName 6) (tt := tYes) rfl scSums.nd (pi_range1 (by rfl) B.range (pa_cons (pe_callB (len_l (K := K) rfl) (by rfl) B.len (by decide +kernel) (pa_cons (pv 4) pa_nil)) pa_nil)) (blkOk_by (N := nSums) (sc := defScope sSums) (own := [("index", 6)]) (by decide +kernel)) (fun _ _ _ _ _ => pg_name (i := 6) scSums.nd rfl (.inl rfl)) (fun _ _ _ _ _ => pts_nil) (fun _ _ _ _ _ => (pe_op op_add (pe_ix (ix_l (K := K) rfl) (pv 4) (pv 6) (fun _ _ => rfl)) (pe_ix (ix_l (K := K) rfl) (pv 5) (pe_op op_add (pv 6) pe_int) (fun _ _ => rfl))))))))), ?_⟩
    refine ⟨.bl s, rfl, .ref a, rfl, .int t, rfl, s, a, ws, t, rfl, hS, hlen, fun H1 o1 sm1 n1 h1 => ?_⟩
    refine ⟨.ref a, rfl, .int t, rfl, .int l, rfl, rfl, rfl, a, ws, t, l, rfl, sm1.seq hS, hlen, fun H2 o2 sm2 n2 h2 => ?_⟩
    have h1' := sm2 _ _ h1
    refine ⟨.ref o1, rfl, o1, _, rfl, .inl (.inl (.inl h1')), _, rfl, ?_, ?_, fun D nD => ?_⟩
    · rw [List.length_map, fwd_len]
      omega
    · rw [List.length_map, fwd_len]
      omega
    have n1D : o1 ≠ D := ne_of_none h1' nD
    have n2D : o2 ≠ D := ne_of_none h2 nD
    have sm : Same H H2 := sm1.trans sm2
    refine lc_range (n := ((fwd t (m1 s t) ws).map V.int).length) (fun i H' => Same H H' ∧ H' o1 = some (.lst ((fwd t (m1 s t) ws).map V.int)) ∧ H' o2 = some (.lst ((bwd t l ws).map V.int)) ∧ H' D = some (.lst (((sums t l (m1 s t) ws).take i).map V.int)))
      ⟨sm.trans (same_new nD), by rw [upd_ne n1D]; exact h1', by rw [upd_ne n2D]; exact h2, upd_same⟩ ?_ ?_
    · rintro i H' hi ⟨sm', g1, g2, gD⟩
      rw [List.length_map, fwd_len] at hi
      have hf : i < (fwd t (m1 s t) ws).length := by
        rw [fwd_len]
        exact hi
      have e1 : (fwd t (m1 s t) ws)[i]? = some (fwd t (m1 s t) ws)[i] := List.getElem?_eq_getElem hf
      have e2 := bwd_at t l ws (i + 1) (by omega)
      have e3 := sums_at t l (m1 s t) ws i _ _ e1 e2
      refine ⟨rfl, .ref o1, rfl, .int (0 + (i : Int)), rfl, o1, _, _, _, rfl, rfl, .inl (.inl g1), (by rw [Int.zero_add]; exact atI_nat (at_int e1)), ?_⟩
      refine ⟨.ref o2, rfl, .int (0 + (i : Int)), rfl, _, 1, rfl, rfl, o2, _, _, _, rfl, rfl, .inl (.inl g2), (by rw [Int.zero_add]; exact atI_nat (j := i + 1) (at_int e2)), _, _, rfl, rfl, _, gD, ?_, ?_⟩
      · rw [List.length_map, List.length_take]
        exact small1000 (by omega)
      · refine ⟨?_, ?_, ?_, ?_⟩
        · exact same_put sm' (sm.free nD)
        · rw [upd_ne n1D]
          exact g1
        · rw [upd_ne n2D]
          exact g2
        · rw [upd_same, List.take_add_one, e3, List.map_append]
          rfl
    · rintro H' ⟨sm', g1, g2, gD⟩
      rw [List.length_map, fwd_len, List.take_of_length_le (by rw [sums_len]; exact Nat.le_refl _)] at gD
      exact q _ _ sm' (sm.free nD) gD

/-! ### a list of ints, each compared with 0 -/
/-- the reading of [x > 0 for x in xs], [x >= 0 for x in xs]: D the new list -/
theorem lc_signs {vs : List Nat} {j : Nat} {σ : List (Option V)} {H : Hp} {D c : Addr} {gs : List Int} {f : Int → Int → Bool} {Qd : Hp → Prop} (hj : ∀ g : Int, ((wipe σ vs).set j (some (V.int g)))[j]? = some (some (V.int g)) ∧ wipe ((wipe σ vs).set j (some (V.int g))) vs = wipe σ vs)
    (hc : H c = some (.lst (gs.map V.int))) (nD : H D = none) (hl : gs.length ≤ 100) (hd : ∀ H', Same H H' → H' D = some (.lst ((gs.map fun g => f g 0).map V.bl)) → Qd H') :
    ∃ W : Nat → Nat → Hp → Prop, (∃ m, W 0 m (upd H D (.lst []))) ∧ ∀ i m H, W i m H →
      ((Itl K c).stop i H ∧ Qd H) ∨ ((Itl K c).go i H ∧ ∃ Nx : Hp → Prop, (∀ H', Nx H' → ∃ m', m' < m ∧ W (i + 1) m' H') ∧ ∀ x H', (Itl K c).yld i H x H' → gName j x (wipe σ vs) H' fun σ2 H2 => wipe σ2 vs = wipe σ vs ∧ tYes σ2 H2 fun b H3 =>
        if b = true then tOp (rI0 fun i j => V.bl (f i j)) (tVar j) (tC (.int 0)) σ2 H3 fun y H4 => ∃ acc, H4 D = some (.lst acc) ∧ acc.length < sizeLine ∧ Nx (upd H4 D (.lst (acc ++ [y]))) else Nx H3) := by
  have ncD : c ≠ D := ne_of_none hc nD
  refine lc_list (K := K) (a := c) (xs := gs.map V.int) (fun i H' => Same H H' ∧ H' c = some (.lst (gs.map V.int)) ∧ H' D = some (.lst (((gs.take i).map fun g => f g 0).map V.bl)))
    ⟨same_new nD, by rw [upd_ne ncD]; exact hc, upd_same⟩ (fun i H' _ h => .inl (.inl h.2.1)) ?_ ?_
  · rintro i x H' hi ⟨sm, g1, gD⟩
    obtain ⟨g, rfl, e1, e2, hlt⟩ := item_int hi
    refine ⟨(hj g).2, ?_⟩
    refine ⟨.int g, (hj g).1, g, 0, rfl, rfl, _, gD, ?_, same_put sm nD, ?_, ?_⟩
    · rw [List.length_map, List.length_map, List.length_take]
      exact small1000 (by omega)
    · rw [upd_ne ncD]
      exact g1
    · rw [upd_same, List.take_add_one, e1, List.map_append, List.map_append]
      rfl
  · rintro H' ⟨sm, g1, gD⟩
    rw [List.length_map, List.take_length] at gD
    exact hd H' sm gD

/-! ### row_between -/
abbrev nBetween : List Str := ["start", "votes", "toggle", "last", "total"]
theorem scBetween : FnScope nBetween ["start", "votes", "toggle", "last"] (defScope sBetween) := ⟨rfl, rfl, rfl, by decide +kernel, rfl, by decide +kernel, by decide +kernel⟩
theorem ok_between {f : Addr} {fd : FuncData} (F : Fun K "row_between" "row_between" sBetween f fd) (C_counter_sums : Cal P w K mg base 3 "counter_sums" ["start", "votes", "toggle", "last"] (spSums K)) :
    FnOk P w K mg base CX0 4 f fd ["start", "votes", "toggle", "last"] (spBetween K) := by
  refine F.ok scBetween (fun vs H Q E h => ?_) (fun cdv A outer s H vs Q E hr h => ?_)
  · obtain ⟨s, a, ws, t, l, rfl, _⟩ := h
    rfl
  · obtain ⟨s, a, ws, t, l, rfl, hS, hlen, q⟩ := h
    refine ⟨_, (pss_one (ps_ret (pe_lc (own := [("total", 4)]) (g := gName 4) (tt := tYes) rfl scBetween.nd (pi_l (K := K) rfl (pe_cal C_counter_sums (hr.mono (by decide)) (by rfl) (pa_cons (pv 0) (pa_cons (pv 1) (pa_cons (pv 2) (pa_cons (pv 3) pa_nil)))))) (blkOk_by (N := nBetween) (sc := defScope sBetween) (own := [("total", 4)]) (by decide +kernel)) (fun _ _ _ _ _ => pg_name (i := 4) scBetween.nd rfl (.inl rfl)) (fun _ _ _ _ _ => pts_nil) (fun _ _ _ _ _ => (pe_cmpR op_gt (pv 4) pe_int (nomark _)))))), ?_⟩
    refine ⟨.bl s, rfl, .ref a, rfl, .int t, rfl, .int l, rfl, s, a, ws, t, l, rfl, hS, hlen, fun H1 c sm1 nc hc => ?_⟩
    refine ⟨c, rfl, ⟨_, .inl (.inl hc)⟩, fun D nD => ?_⟩
    exact lc_signs (f := fun i j => decide (j < i)) (fun g => ⟨rfl, rfl⟩) hc nD (by rw [sums_len]; exact hlen) fun H' sm hD => q _ _ (sm1.trans sm) (sm1.free nD) hD

/-! ### least_row, greatest_row -/
theorem scLeast : FnScope ["start", "votes", "toggle"] ["start", "votes", "toggle"] (defScope sLeast) := ⟨rfl, rfl, rfl, by decide +kernel, rfl, by decide +kernel, by decide +kernel⟩
theorem ok_least {f : Addr} {fd : FuncData} (F : Fun K "least_row" "least_row" sLeast f fd) (C_row_between : Cal P w K mg base 4 "row_between" ["start", "votes", "toggle", "last"] (spBetween K)) :
    FnOk P w K mg base CX0 5 f fd ["start", "votes", "toggle"] (spLeast K) := by
  refine F.ok scLeast (fun vs H Q E h => ?_) (fun cdv A outer s H vs Q E hr h => ?_)
  · obtain ⟨s, a, ws, t, rfl, _⟩ := h
    rfl
  · obtain ⟨s, a, ws, t, rfl, hS, hlen, q⟩ := h
    refine ⟨_, (pss_one (ps_ret (pe_cal C_row_between (hr.mono (by decide)) (by rfl) (pa_cons (pv 0) (pa_cons (pv 1) (pa_cons (pv 2) (pa_cons pe_int pa_nil))))))), ?_⟩
    exact ⟨.bl s, rfl, .ref a, rfl, .int t, rfl, s, a, ws, t, 0, rfl, hS, hlen, q⟩
abbrev nGreat : List Str := ["start", "votes", "toggle", "total"]
theorem scGreat : FnScope nGreat ["start", "votes", "toggle"] (defScope sGreat) := ⟨rfl, rfl, rfl, by decide +kernel, rfl, by decide +kernel, by decide +kernel⟩
theorem ok_great {f : Addr} {fd : FuncData} (F : Fun K "greatest_row" "greatest_row" sGreat f fd) (C_counter_sums : Cal P w K mg base 3 "counter_sums" ["start", "votes", "toggle", "last"] (spSums K)) :
    FnOk P w K mg base CX0 4 f fd ["start", "votes", "toggle"] (spGreat K) := by
  refine F.ok scGreat (fun vs H Q E h => ?_) (fun cdv A outer s H vs Q E hr h => ?_)
  · obtain ⟨s, a, ws, t, rfl, _⟩ := h
    rfl
  · obtain ⟨s, a, ws, t, rfl, hS, hlen, q⟩ := h
    refine ⟨_, (pss_one (ps_ret (pe_lc (own := [("total", 3)]) (g := gName 3) (tt := tYes) rfl scGreat.nd (pi_l (K := K) rfl (pe_cal C_counter_sums (hr.mono (by decide)) (by rfl) (pa_cons (pv 0) (pa_cons (pv 1) (pa_cons (pv 2) (pa_cons pe_int pa_nil)))))) (blkOk_by (N := nGreat) (sc := defScope sGreat) (own := [("total", 3)]) (by decide +kernel)) (fun _ _ _ _ _ => pg_name (i := 3) scGreat.nd rfl (.inl rfl)) (fun _ _ _ _ _ => pts_nil) (fun _ _ _ _ _ => (pe_cmpR op_ge (pv 3) pe_int (nomark _)))))), ?_⟩
    refine ⟨.bl s, rfl, .ref a, rfl, .int t, rfl, s, a, ws, t, 0, rfl, hS, hlen, fun H1 c sm1 nc hc => ?_⟩
    refine ⟨c, rfl, ⟨_, .inl (.inl hc)⟩, fun D nD => ?_⟩
    exact lc_signs (f := fun i j => decide (j ≤ i)) (fun g => ⟨rfl, rfl⟩) hc nD (by rw [sums_len]; exact hlen) fun H' sm hD => q _ _ (sm1.trans sm) (sm1.free nD) hD
end
end Lv
/-! The law's draws: _law_source, _law_draw, _law_price, _law_vote, _law_some. -/
namespace Lv
open PySem PySem.Spec PyProof.Rows L2
abbrev sSource : Stmt := tp 10
abbrev sDraw : Stmt := tp 11
abbrev sPrice : Stmt := tp 12
abbrev sVote : Stmt := tp 13
abbrev sSome : Stmt := tp 17
/-- three ints: a row of draws -/
abbrev tri (c l k : Int) : HO := .lst [.int c, .int l, .int k]
def Src (H : Hp) (a : Addr) : Prop := ∃ c l k : Int, H a = some (tri c l k)
/-- an int with p is handed back, the row of draws at a has changed, all else stands -/
def Drawn (H : Hp) (a : Addr) (Q : VK) (p : Int → Prop) : Prop := ∀ v c l k : Int, p v → Q (.int v) (upd H a (tri c l k))
def spSource (K : PySem.W.Frag) : Sp := fun vs H Q _ => ∃ (a : Addr) (ns : List Int) (i : Nat), vs = [.ref a, .int i] ∧ SqL K H a (ns.map V.int) ∧ ∀ c l : Int, NewL H Q [.int c, .int l, .int 0]
def spDraw : Sp := fun vs H Q _ => ∃ (a : Addr) (m : Int), vs = [.ref a, .int m] ∧ Src H a ∧ 0 < m ∧ m.natAbs < 2 ^ 200 ∧ Drawn H a Q fun v => 0 ≤ v ∧ v < m
def spPrice : Sp := fun vs H Q _ => ∃ a : Addr, vs = [.ref a] ∧ Src H a ∧ Drawn H a Q fun v => 0 ≤ v
def spVote : Sp := fun vs H Q _ => ∃ a : Addr, vs = [.ref a] ∧ Src H a ∧ Drawn H a Q fun v => v.natAbs < 10 ^ 31
def spSome : Sp := fun vs H Q _ => ∃ (a : Addr) (u : Int), vs = [.ref a, .int u] ∧ Src H a ∧ 0 ≤ u ∧ u ≤ 10 ^ 11 ∧ Drawn H a Q fun v => v.natAbs < 10 ^ 31

section
variable {P : Program} {w : World} {K : PySem.W.Frag} {mg : Str → Option Value} {base : Heap}

/-! ### _law_source -/
theorem scSource : FnScope ["_law_script", "_law_place", "_law_cell"] ["_law_script", "_law_place"] (defScope sSource) := ⟨rfl, rfl, rfl, by decide +kernel, rfl, by decide +kernel, by decide +kernel⟩
theorem ok_source {f : Addr} {fd : FuncData} (F : Fun K "_law_source" "_law_source" sSource f fd) (B : Bl mg) : FnOk P w K mg base CX0 1 f fd ["_law_script", "_law_place"] (spSource K) := by
  refine F.ok scSource (fun vs H Q E h => ?_) (fun cdv A outer s H vs Q E hr h => ?_)
  · obtain ⟨a, ns, i, rfl, _⟩ := h
    rfl
  · obtain ⟨a, ns, i, rfl, hS, q⟩ := h
    refine ⟨_, (pss_cons (ps_set (i := 2) scSource.nd rfl (.inl rfl) (pe_ifExp (pt_cmpR op_lt (pv 1) (pe_callB (len_l (K := K) rfl) (by rfl) B.len (by decide +kernel) (pa_cons (pv 0) pa_nil)) (nomark _)) (pe_callB call_abs (by rfl) B.abs (by decide +kernel) (pa_cons (pe_callTy call_int1 (by rfl) B.int (by decide +kernel) (pa_cons (pe_ix (ix_l (K := K) rfl) (pv 0) (pv 1) (fun _ _ => rfl)) pa_nil)) pa_nil)) (pe_op op_add (pe_op op_add pe_int (pe_op op_mul pe_int (pv 1))) (pe_op op_mul pe_int (pe_callB (len_l (K := K) rfl) (by rfl) B.len (by decide +kernel) (pa_cons (pv 0) pa_nil))))))
      (pss_one (ps_ret (pe_lst (pa_cons (pv 2) (pa_cons (pe_ifExp (pt_cmpR op_ge (pv 2) (pe_op op_pow pe_int pe_int) (nomark _)) (pv 2) pe_int) (pa_cons pe_int pa_nil))))))), ?_⟩
    refine ⟨.int i, rfl, .ref a, rfl, a, _, rfl, .inl hS, i, _, rfl, rfl, _, rfl, ite2 (fun hi => ?_) (fun hi => ?_)⟩
    · have hi : (i : Int) < ((ns.map V.int).length : Int) := of_decide_eq_true hi
      rw [List.length_map] at hi
      have hi2 : i < ns.length := by omega
      refine ⟨.ref a, rfl, .int i, rfl, a, _, _, .int ns[i], rfl, rfl, hS, atI_nat (at_int (List.getElem?_eq_getElem hi2)), .inl ⟨_, rfl, _, rfl, ?_⟩⟩
      refine ⟨_, rfl, _, rfl, 10, 18, rfl, rfl, ⟨by decide, by decide, by decide⟩, _, _, rfl, rfl, _, rfl, ite2 (fun _ => ⟨_, rfl, ?_⟩) (fun _ => ?_)⟩
      · exact ⟨by show 3 ≤ sizeLine; decide, fun p np => q _ _ _ p (same_new np) np upd_same⟩
      · exact ⟨by show 3 ≤ sizeLine; decide, fun p np => q _ _ _ p (same_new np) np upd_same⟩
    · refine ⟨.int i, rfl, 31, i, rfl, rfl, .inl ⟨by decide, by decide⟩, 7, _, rfl, rfl, .ref a, rfl, a, _, rfl, .inl hS, 1009, _, rfl, rfl, .inl ⟨by decide, by decide⟩, _, _, rfl, rfl, ?_⟩
      refine ⟨_, rfl, _, rfl, 10, 18, rfl, rfl, ⟨by decide, by decide, by decide⟩, _, _, rfl, rfl, _, rfl, ite2 (fun _ => ⟨_, rfl, ?_⟩) (fun _ => ?_)⟩
      · exact ⟨by show 3 ≤ sizeLine; decide, fun p np => q _ _ _ p (same_new np) np upd_same⟩
      · exact ⟨by show 3 ≤ sizeLine; decide, fun p np => q _ _ _ p (same_new np) np upd_same⟩

/-! ### _law_draw -/
theorem scDraw : FnScope ["_law_source_here", "_law_many", "_law_told", "_law_mixed"] ["_law_source_here", "_law_many"] (defScope sDraw) := ⟨rfl, rfl, rfl, by decide +kernel, rfl, by decide +kernel, by decide +kernel⟩
theorem ok_draw {f : Addr} {fd : FuncData} (F : Fun K "_law_draw" "_law_draw" sDraw f fd) (B : Bl mg) : FnOk P w K mg base CX0 1 f fd ["_law_source_here", "_law_many"] spDraw := by
  refine F.ok scDraw (fun vs H Q E h => ?_) (fun cdv A outer s H vs Q E hr h => ?_)
  · obtain ⟨a, m, rfl, _⟩ := h
    rfl
  · obtain ⟨a, m, rfl, ⟨c, l, k, h0⟩, hm, hm2, q⟩ := h
    refine ⟨_, (pss_cons (ps_asg (pe_op op_add (pe_ix (ix_l (K := K) rfl) (pv 0) pe_int (fun _ _ => rfl)) pe_int) (pg_sub (pv 0) pe_int set_list))
      (pss_cons (ps_if (pt_cmpR op_gt (pe_ix (ix_l (K := K) rfl) (pv 0) pe_int (fun _ _ => rfl)) pe_int (nomark _)) (pss_cons (ps_set (i := 2) scDraw.nd rfl (.inl rfl) (pe_op op_mod (pe_callTy call_int1 (by rfl) B.int (by decide +kernel) (pa_cons (pe_ix (ix_l (K := K) rfl) (pv 0) pe_int (fun _ _ => rfl)) pa_nil)) (pv 1)))
      (pss_cons (ps_asg (pe_op op_fdivW (pe_ix (ix_l (K := K) rfl) (pv 0) pe_int (fun _ _ => rfl)) (pv 1)) (pg_sub (pv 0) pe_int set_list))
      (pss_one (ps_ret (pv 2))))) pss_nil)
      (pss_cons (ps_set (i := 3) scDraw.nd rfl (.inl rfl) (pe_op op_mod (pe_callTy call_int1 (by rfl) B.int (by decide +kernel) (pa_cons (pe_op op_add (pe_op op_add (pe_ix (ix_l (K := K) rfl) (pv 0) pe_int (fun _ _ => rfl)) (pe_op op_mul pe_int (pe_ix (ix_l (K := K) rfl) (pv 0) pe_int (fun _ _ => rfl)))) pe_int) pa_nil)) pe_int))
      (pss_cons (ps_set (i := 3) scDraw.nd rfl (.inl rfl) (pe_op op_mod (pe_callTy call_int1 (by rfl) B.int (by decide +kernel) (pa_cons (pe_op op_mul (pv 3) (pe_op op_add (pv 3) pe_int)) pa_nil)) pe_int))
      (pss_cons (ps_set (i := 3) scDraw.nd rfl (.inl rfl) (pe_op op_mod (pe_callTy call_int1 (by rfl) B.int (by decide +kernel) (pa_cons (pe_op op_add (pe_op op_mul (pv 3) (pe_op op_add (pv 3) pe_int)) (pe_op op_mul pe_int (pe_ix (ix_l (K := K) rfl) (pv 0) pe_int (fun _ _ => rfl)))) pa_nil)) pe_int))
      (pss_one (ps_ret (pe_op op_mod (pe_callTy call_int1 (by rfl) B.int (by decide +kernel) (pa_cons (pe_op op_fdivW (pv 3) pe_int) pa_nil)) (pv 1))))))))), ?_⟩
    have bnd : ∀ x j : Int, 0 < j → j < 2 ^ 40 → CMul (x % j) (x % j + 48271) ∧ CMul (x % j) (x % j + 69621) := fun x j h1 h2 => by
      have a1 := Int.emod_nonneg x (show j ≠ 0 by omega)
      have a2 := Int.emod_lt_of_pos x h1
      exact ⟨.inl ⟨by omega, by omega⟩, .inl ⟨by omega, by omega⟩⟩
    have g1 : (upd H a (tri c l (k + 1))) a = some (tri c l (k + 1)) := upd_same
    refine ⟨.ref a, rfl, a, _, 2, .int k, rfl, rfl, .inl (.inl h0), atI_nat (j := 2) rfl, k, 1, rfl, rfl, .ref a, rfl, a, _, 2, 2, rfl, rfl, h0, rfl, ?_⟩
    refine ⟨.ref a, rfl, a, _, 1, .int l, rfl, rfl, .inl (.inl g1), atI_nat (j := 1) rfl, l, 0, rfl, rfl, _, rfl, ite2 (fun _ => ?_) (fun _ => ?_)⟩
    · refine ⟨.ref a, rfl, a, _, 1, .int l, rfl, rfl, .inl (.inl g1), atI_nat (j := 1) rfl, .inl ⟨l, rfl, .int m, rfl, l, m, rfl, rfl, hm, ?_⟩⟩
      refine ⟨.ref a, rfl, a, _, 1, .int l, rfl, rfl, .inl (.inl g1), atI_nat (j := 1) rfl, .int m, rfl, l, m, rfl, rfl, wide_div hm hm2 (by decide) (by decide), .ref a, rfl, a, _, 1, 1, rfl, rfl, g1, rfl, ?_⟩
      refine ⟨_, rfl, ?_⟩
      have e := q (l % m) c (l / m) (k + 1) ⟨Int.emod_nonneg l (by omega), Int.emod_lt_of_pos l hm⟩
      rw [← upd_upd (o := tri c l (k + 1))] at e
      exact e
    · refine ⟨.ref a, rfl, a, _, 0, .int c, rfl, rfl, .inl (.inl g1), atI_nat (j := 0) rfl, .ref a, rfl, a, _, 2, .int (k + 1), rfl, rfl, .inl (.inl g1), atI_nat (j := 2) rfl, 7919, _, rfl, rfl, .inl ⟨by decide, by decide⟩, c, _, rfl, rfl, _, 13, rfl, rfl, .inl ⟨_, rfl, _, 2147483647, rfl, rfl, (show (0 : Int) < 2147483647 by decide), ?_⟩⟩
      refine ⟨_, rfl, _, rfl, _, 48271, rfl, rfl, _, _, rfl, rfl, (bnd _ _ (by decide) (by decide)).1, .inl ⟨_, rfl, _, 2147483629, rfl, rfl, (show (0 : Int) < 2147483629 by decide), ?_⟩⟩
      refine ⟨_, rfl, _, rfl, _, 69621, rfl, rfl, _, _, rfl, rfl, (bnd _ _ (by decide) (by decide)).2, .ref a, rfl, a, _, 2, .int (k + 1), rfl, rfl, .inl (.inl g1), atI_nat (j := 2) rfl, 31, _, rfl, rfl, .inl ⟨by decide, by decide⟩, _, _, rfl, rfl, .inl ⟨_, rfl, _, 2147483647, rfl, rfl, (show (0 : Int) < 2147483647 by decide), ?_⟩⟩
      refine ⟨_, rfl, _, 9, rfl, rfl, wide_div (b := 10) (by decide) (by decide) (by decide) (by decide), .inl ⟨_, rfl, .int m, rfl, _, m, rfl, rfl, hm, ?_⟩⟩
      exact q _ c l (k + 1) ⟨Int.emod_nonneg _ (by omega), Int.emod_lt_of_pos _ hm⟩

/-! ### _law_price, _law_vote, _law_some -/
theorem Drawn.behind {H : Hp} {a : Addr} {Q : VK} {p : Int → Prop} (d : Drawn H a Q p) (u : HO) : Drawn (upd H a u) a Q p := fun v c l k h => by
  rw [upd_upd]
  exact d v c l k h
theorem src_behind {H : Hp} {a : Addr} {c l k : Int} : Src (upd H a (tri c l k)) a := ⟨c, l, k, upd_same⟩
theorem scPrice : FnScope ["_law_source_here", "_law_kind"] ["_law_source_here"] (defScope sPrice) := ⟨rfl, rfl, rfl, by decide +kernel, rfl, by decide +kernel, by decide +kernel⟩
theorem ok_price {f : Addr} {fd : FuncData} (F : Fun K "_law_price" "_law_price" sPrice f fd) (C__law_draw : Cal P w K mg base 1 "_law_draw" ["_law_source_here", "_law_many"] spDraw) : FnOk P w K mg base CX0 2 f fd ["_law_source_here"] spPrice := by
  refine F.ok scPrice (fun vs H Q E h => ?_) (fun cdv A outer s H vs Q E hr h => ?_)
  · obtain ⟨a, rfl, _⟩ := h
    rfl
  · obtain ⟨a, rfl, h0, q⟩ := h
    refine ⟨_, (pss_cons (ps_set (i := 1) scPrice.nd rfl (.inl rfl) (pe_cal C__law_draw (hr.mono (by decide)) (by rfl) (pa_cons (pv 0) (pa_cons pe_int pa_nil))))
      (pss_cons (ps_if (pt_cmpR op_eq (pv 1) pe_int (nomark _)) (pss_one (ps_ret pe_int)) pss_nil)
      (pss_cons (ps_if (pt_cmpR op_eq (pv 1) pe_int (nomark _)) (pss_one (ps_ret (pe_cal C__law_draw (hr.mono (by decide)) (by rfl) (pa_cons (pv 0) (pa_cons (pe_op op_add (pe_op op_pow pe_int pe_int) pe_int) pa_nil))))) pss_nil)
      (pss_cons (ps_if (pt_cmpR op_eq (pv 1) pe_int (nomark _)) (pss_one (ps_ret (pe_cal C__law_draw (hr.mono (by decide)) (by rfl) (pa_cons (pv 0) (pa_cons pe_int pa_nil))))) pss_nil)
      (pss_one (ps_ret (pe_cal C__law_draw (hr.mono (by decide)) (by rfl) (pa_cons (pv 0) (pa_cons pe_int pa_nil))))))))), ?_⟩
    refine ⟨.ref a, rfl, a, 6, rfl, h0, by decide, by decide +kernel, fun kind c1 l1 k1 hk => ?_⟩
    have q1 := q.behind (tri c1 l1 k1)
    refine ⟨.int kind, rfl, rfl, _, rfl, ite2 (fun _ => ?_) (fun _ => ?_)⟩
    · exact q 0 c1 l1 k1 (Int.le_refl 0)
    refine ⟨.int kind, rfl, rfl, _, rfl, ite2 (fun _ => ?_) (fun _ => ?_)⟩
    · exact ⟨.ref a, rfl, 10, 12, rfl, rfl, ⟨by decide, by decide, by decide⟩, _, 1, rfl, rfl, a, _, rfl, src_behind, by decide +kernel, by decide +kernel, fun v c l k hv => q1 v c l k hv.1⟩
    refine ⟨.int kind, rfl, rfl, _, rfl, ite2 (fun _ => ?_) (fun _ => ?_)⟩
    · exact ⟨.ref a, rfl, a, 61, rfl, src_behind, by decide, by decide +kernel, fun v c l k hv => q1 v c l k hv.1⟩
    · exact ⟨.ref a, rfl, a, 13, rfl, src_behind, by decide, by decide +kernel, fun v c l k hv => q1 v c l k hv.1⟩

theorem scVote : FnScope ["_law_source_here", "_law_kind", "_law_sign"] ["_law_source_here"] (defScope sVote) := ⟨rfl, rfl, rfl, by decide +kernel, rfl, by decide +kernel, by decide +kernel⟩
theorem signed {b r : Int} {n : Nat} (hb : 0 ≤ b ∧ b < 2) (h0 : 0 ≤ r) (hr : r < n) : ((1 - 2 * b) * r).natAbs < n := by
  have e : b = 0 ∨ b = 1 := by omega
  rcases e with rfl | rfl
  · rw [show (1 - 2 * 0 : Int) * r = r by rw [Int.mul_zero, Int.sub_zero, Int.one_mul]]
    omega
  · rw [show (1 - 2 * 1 : Int) * r = -r by rw [show (1 - 2 * 1 : Int) = -1 by decide, Int.neg_mul, Int.one_mul]]
    omega
theorem ok_vote {f : Addr} {fd : FuncData} (F : Fun K "_law_vote" "_law_vote" sVote f fd) (C__law_draw : Cal P w K mg base 1 "_law_draw" ["_law_source_here", "_law_many"] spDraw) : FnOk P w K mg base CX0 2 f fd ["_law_source_here"] spVote := by
  refine F.ok scVote (fun vs H Q E h => ?_) (fun cdv A outer s H vs Q E hr h => ?_)
  · obtain ⟨a, rfl, _⟩ := h
    rfl
  · obtain ⟨a, rfl, h0, q⟩ := h
    refine ⟨_, (pss_cons (ps_set (i := 1) scVote.nd rfl (.inl rfl) (pe_cal C__law_draw (hr.mono (by decide)) (by rfl) (pa_cons (pv 0) (pa_cons pe_int pa_nil))))
      (pss_cons (ps_set (i := 2) scVote.nd rfl (.inl rfl) (pe_op op_sub pe_int (pe_op op_mul pe_int (pe_cal C__law_draw (hr.mono (by decide)) (by rfl) (pa_cons (pv 0) (pa_cons pe_int pa_nil))))))
      (pss_cons (ps_if (pt_cmpR op_lt (pv 1) pe_int (nomark _)) (pss_one (ps_ret pe_int)) pss_nil)
      (pss_cons (ps_if (pt_cmpR op_eq (pv 1) pe_int (nomark _)) (pss_one (ps_ret (pe_op op_mul (pv 2) (pe_cal C__law_draw (hr.mono (by decide)) (by rfl) (pa_cons (pv 0) (pa_cons (pe_op op_add (pe_op op_pow pe_int pe_int) pe_int) pa_nil)))))) pss_nil)
      (pss_cons (ps_if (pt_cmpR op_lt (pv 1) pe_int (nomark _)) (pss_one (ps_ret (pe_op op_mul (pv 2) (pe_op op_add pe_int (pe_cal C__law_draw (hr.mono (by decide)) (by rfl) (pa_cons (pv 0) (pa_cons pe_int pa_nil))))))) pss_nil)
      (pss_one (ps_ret (pe_op op_mul (pv 2) (pe_op op_add pe_int (pe_cal C__law_draw (hr.mono (by decide)) (by rfl) (pa_cons (pv 0) (pa_cons pe_int pa_nil)))))))))))), ?_⟩
    refine ⟨.ref a, rfl, a, 12, rfl, h0, by decide, by decide +kernel, fun kind c1 l1 k1 hk => ?_⟩
    refine ⟨.ref a, rfl, a, 2, rfl, src_behind, by decide, by decide +kernel, fun b c2 l2 k2 hb => ⟨2, b, rfl, rfl, .inl ⟨by decide, by decide⟩, 1, _, rfl, rfl, ?_⟩⟩
    have q1 := (q.behind (tri c1 l1 k1))
    have q2 := q1.behind (tri c2 l2 k2)
    have hs : CMul (1 - 2 * b) 0 := .inl ⟨by omega, by omega⟩
    refine ⟨.int kind, rfl, kind, 2, rfl, rfl, _, rfl, ite2 (fun _ => ?_) (fun _ => ?_)⟩
    · exact q1 0 c2 l2 k2 (by decide +kernel)
    refine ⟨.int kind, rfl, rfl, _, rfl, ite2 (fun _ => ?_) (fun _ => ?_)⟩
    · refine ⟨_, rfl, .ref a, rfl, 10, 30, rfl, rfl, ⟨by decide, by decide, by decide⟩, _, 1000, rfl, rfl, a, _, rfl, src_behind, by decide +kernel, by decide +kernel, fun v c l k hv => ⟨_, v, rfl, rfl, .inl ⟨by omega, by omega⟩, q2 _ c l k (signed (n := 10 ^ 31) hb hv.1 (Int.lt_trans hv.2 (by decide +kernel)))⟩⟩
    refine ⟨.int kind, rfl, kind, 5, rfl, rfl, _, rfl, ite2 (fun _ => ?_) (fun _ => ?_)⟩
    · refine ⟨_, rfl, .ref a, rfl, a, 60, rfl, src_behind, by decide, by decide +kernel, fun v c l k hv => ⟨1, v, rfl, rfl, _, _, rfl, rfl, .inl ⟨by omega, by omega⟩, q2 _ c l k (signed (n := 10 ^ 31) hb (by omega) (Int.lt_trans (b := 61) (by omega) (by decide +kernel)))⟩⟩
    · refine ⟨_, rfl, .ref a, rfl, a, 4, rfl, src_behind, by decide, by decide +kernel, fun v c l k hv => ⟨1, v, rfl, rfl, _, _, rfl, rfl, .inl ⟨by omega, by omega⟩, q2 _ c l k (signed (n := 10 ^ 31) hb (by omega) (Int.lt_trans (b := 61) (by omega) (by decide +kernel)))⟩⟩

theorem scSome : FnScope ["_law_source_here", "_law_unit"] ["_law_source_here", "_law_unit"] (defScope sSome) := ⟨rfl, rfl, rfl, by decide +kernel, rfl, by decide +kernel, by decide +kernel⟩
theorem ok_some {f : Addr} {fd : FuncData} (F : Fun K "_law_some" "_law_some" sSome f fd) (C__law_draw : Cal P w K mg base 1 "_law_draw" ["_law_source_here", "_law_many"] spDraw) (C__law_vote : Cal P w K mg base 2 "_law_vote" ["_law_source_here"] spVote) :
    FnOk P w K mg base CX0 3 f fd ["_law_source_here", "_law_unit"] spSome := by
  refine F.ok scSome (fun vs H Q E h => ?_) (fun cdv A outer s H vs Q E hr h => ?_)
  · obtain ⟨a, u, rfl, _⟩ := h
    rfl
  · obtain ⟨a, u, rfl, h0, hu0, hu1, q⟩ := h
    refine ⟨_, (pss_cons (ps_if (pt_cmpR op_eq (pv 1) pe_int (nomark _)) (pss_one (ps_ret (pe_cal C__law_vote (hr.mono (by decide)) (by rfl) (pa_cons (pv 0) pa_nil)))) pss_nil)
      (pss_one (ps_ret (pe_op op_mul (pv 1) (pe_op op_sub (pe_cal C__law_draw (hr.mono (by decide)) (by rfl) (pa_cons (pv 0) (pa_cons pe_int pa_nil))) pe_int))))), ?_⟩
    refine ⟨.int u, rfl, rfl, _, rfl, ite2 (fun _ => ?_) (fun _ => ?_)⟩
    · exact ⟨.ref a, rfl, a, rfl, h0, fun v c l k hv => q v c l k hv⟩
    · refine ⟨.int u, rfl, .ref a, rfl, a, 7, rfl, h0, by decide, by decide +kernel, fun v c l k hv => ⟨v, 3, rfl, rfl, u, _, rfl, rfl, .inl ⟨by omega, by omega⟩, q _ c l k ?_⟩⟩
      have hv : 0 ≤ v ∧ v < 7 := hv
      show (u * (v - 3)).natAbs < 10 ^ 31
      rw [Int.natAbs_mul]
      have e1 : u.natAbs ≤ 10 ^ 11 := by omega
      have e2 : (v - 3).natAbs ≤ 3 := by omega
      exact Nat.lt_of_le_of_lt (Nat.mul_le_mul e1 e2) (by decide +kernel)
end
end Lv
/-! The law's reckonings: _law_sides, _law_solo, _law_gaps, _law_cost_of_row. -/
namespace Lv
open PySem PySem.Spec PyProof.Rows L2
abbrev sSides : Stmt := tp 14
abbrev sSolo : Stmt := tp 15
abbrev sGaps : Stmt := tp 16
abbrev sCost : Stmt := tp 18
def spSides (K : PySem.W.Frag) : Sp := fun vs H Q _ => ∃ (a b : Addr) (bs : List Bool), vs = [.ref a, .ref b] ∧ H a = some (.lst (bs.map V.bl)) ∧ H b = some (.lst (bs.map V.bl)) ∧ bs.length ≤ 100 ∧ Q (.bl true) H
def spSolo (K : PySem.W.Frag) : Sp := fun vs H Q _ => ∃ (s : Bool) (a : Addr) (ws : List Int) (p : Int), vs = [.bl s, .ref a, .int p] ∧ SqL K H a (ws.map V.int) ∧ Q (.int (solo p (x1 s p) (y1 s p) ws)) H
def spGaps (K : PySem.W.Frag) : Sp := fun vs H Q _ => ∃ (s : Bool) (a : Addr) (ws : List Int) (p : Int), vs = [.bl s, .ref a, .int p] ∧ SqL K H a (ws.map V.int) ∧ ws.length ≤ 100 ∧ 0 ≤ p ∧ NewL H Q ((sums p 0 (m1 s p) ws).map V.int)
def spCost (K : PySem.W.Frag) : Sp := fun vs H Q _ => ∃ (s : Bool) (a b : Addr) (ws : List Int) (p : Int) (bs : List Bool), vs = [.bl s, .ref a, .int p, .ref b] ∧ SqL K H a (ws.map V.int) ∧ SqL K H b (bs.map V.bl) ∧ bs.length = ws.length ∧ ws.length ≤ 100 ∧ Q (.int (cost p s ws bs)) H
/-- a conditional whose value is known is read once -/
theorem if_once {tA : TT} {ta tb : TE} {σ : List (Option V)} {H : Hp} {Q : VK} (x : V) (h : ∀ Q' : VK, Q' x H → tIf tA ta tb σ H Q') (q : Q x H) : tIf tA ta tb σ H Q := h Q q
/-- an if whose outcome is known is read once -/
theorem ifs_once {c : TT} {t u r : TS} {D : Ends} {σ : List (Option V)} {H : Hp} (σ' : List (Option V)) (h : ∀ D' : Ends, D'.nx σ' H → tIfS c t u D' σ H) (q : r D σ' H) : tSeq (tIfS c t u) r D σ H := h _ q
theorem at_bl {bs : List Bool} {i : Nat} {b : Bool} (h : bs[i]? = some b) : (bs.map V.bl)[i]? = some (.bl b) := by
  rw [List.getElem?_map, h]
  rfl

section
variable {P : Program} {w : World} {K : PySem.W.Frag} {mg : Str → Option Value} {base : Heap}

/-! ### _law_sides -/
theorem scSides : FnScope ["_law_thing", "_law_due", "_law_place"] ["_law_thing", "_law_due"] (defScope sSides) := ⟨rfl, rfl, rfl, by decide +kernel, rfl, by decide +kernel, by decide +kernel⟩
theorem ok_sides {f : Addr} {fd : FuncData} (F : Fun K "_law_sides" "_law_sides" sSides f fd) (B : Bl mg) : FnOk P w K mg base CX0 1 f fd ["_law_thing", "_law_due"] (spSides K) := by
  refine F.ok scSides (fun vs H Q E h => ?_) (fun cdv A outer s H vs Q E hr h => ?_)
  · obtain ⟨a, b, bs, rfl, _⟩ := h
    rfl
  · obtain ⟨a, b, bs, rfl, ha, hb, hlen, q⟩ := h
    refine ⟨_, (pss_cons (ps_if (PW.pt (pw_or (pt_not (pt_val (pe_callB call_isi (by rfl) B.isinstance (by decide +kernel) (pa_cons (pv 0) (pa_cons (pe_bltn (v := .ty "list") (by rfl) B.list (by decide +kernel) rfl) pa_nil))))) (pw_or1 (pt_cmpR op_ne (pe_callB (len_l (K := K) rfl) (by rfl) B.len (by decide +kernel) (pa_cons (pv 0) pa_nil)) (pe_callB (len_l (K := K) rfl) (by rfl) B.len (by decide +kernel) (pa_cons (pv 1) pa_nil)) (nomark _))))) (pss_one (ps_ret pe_bl)) pss_nil)
      (pss_cons (ps_for PassesOwn.never rfl (pi_range1 (by rfl) B.range (pa_cons (pe_callB (len_l (K := K) rfl) (by rfl) B.len (by decide +kernel) (pa_cons (pv 1) pa_nil)) pa_nil)) (pg_name (i := 2) scSides.nd rfl (.inl rfl)) (pss_one (ps_if (PW.pt (pw_or (pt_not (pt_val (pe_callB call_isi (by rfl) B.isinstance (by decide +kernel) (pa_cons (pe_ix (ix_l (K := K) rfl) (pv 0) (pv 2) (fun _ _ => rfl)) (pa_cons (pe_bltn (v := .ty "bool") (by rfl) B.bool (by decide +kernel) rfl) pa_nil))))) (pw_or1 (pt_cmpR op_ne (pe_ix (ix_l (K := K) rfl) (pv 0) (pv 2) (fun _ _ => rfl)) (pe_ix (ix_l (K := K) rfl) (pv 1) (pv 2) (fun _ _ => rfl)) (nomark _))))) (pss_one (ps_ret pe_bl)) pss_nil)))
      (pss_one (ps_ret pe_bl)))), ?_⟩
    refine ⟨.ref a, rfl, .ref a, .ty "list", .type "list", .type "list", true, rfl, .ty _, .base (.lst ha), kit_ty (by decide +kernel), true, rfl, iteF ?_⟩
    refine ⟨.ref a, rfl, a, _, rfl, .inl (.inl (.inl ha)), .ref b, rfl, b, _, rfl, .inl (.inl (.inl hb)), rfl, _, rfl, iteNS rfl ?_⟩
    refine ⟨.ref b, rfl, b, _, rfl, .inl (.inl (.inl hb)), _, rfl, ?_, ?_, ?_⟩
    · rw [List.length_map]
      omega
    · rw [List.length_map]
      omega
    refine for_range (n := (bs.map V.bl).length) (fun i σ H' => (∃ v, σ = [some (.ref a), some (.ref b), v]) ∧ H' = H) ⟨⟨none, rfl⟩, rfl⟩ ?_ ?_
    · rintro i σ H' hi ⟨⟨v, rfl⟩, rfl⟩
      rw [List.length_map] at hi
      have e := at_bl (List.getElem?_eq_getElem hi)
      have e1 : atI (bs.map V.bl) (0 + (i : Int)) = some (.bl bs[i]) := by
        rw [Int.zero_add]
        exact atI_nat e
      refine ⟨.ref a, rfl, .int (0 + i), rfl, a, _, _, _, rfl, rfl, .inl (.inl ha), e1, _, .ty "bool", .type "bool", .type "bool", true, rfl, .ty _, .base (.bl _), kit_ty (by decide +kernel), true, rfl, iteF ?_⟩
      exact ⟨.ref a, rfl, .int (0 + i), rfl, a, _, _, _, rfl, rfl, .inl (.inl ha), e1, .ref b, rfl, .int (0 + i), rfl, b, _, _, _, rfl, rfl, .inl (.inl hb), e1, rfl, _, rfl, iteNS rfl ⟨⟨_, rfl⟩, rfl⟩⟩
    · rintro σ H' ⟨⟨v, rfl⟩, rfl⟩
      exact q

/-! ### _law_solo -/
abbrev nSolo : List Str := ["_law_start", "_law_weights", "_law_price_here", "_law_off", "_law_on_side", "_law_weight", "_law_after_off", "_law_after_on"]
theorem scSolo : FnScope nSolo ["_law_start", "_law_weights", "_law_price_here"] (defScope sSolo) := ⟨rfl, rfl, rfl, by decide +kernel, rfl, by decide +kernel, by decide +kernel⟩
theorem if_x1 {σ : List (Option V)} {H : Hp} {Q : VK} {s : Bool} {t : Int} (h0 : σ[0]? = some (some (.bl s))) (h2 : σ[2]? = some (some (.int t))) (q : Q (.int (x1 s t)) H) : tIf (tB (tVar 0)) (tVar 2) (tC (.int 0)) σ H Q := by
  refine ⟨.bl s, h0, s, rfl, ?_⟩
  cases s
  · exact q
  · exact ⟨.int t, h2, q⟩
theorem if_y1 {σ : List (Option V)} {H : Hp} {Q : VK} {s : Bool} {t : Int} (h0 : σ[0]? = some (some (.bl s))) (h2 : σ[2]? = some (some (.int t))) (q : Q (.int (y1 s t)) H) : tIf (tB (tVar 0)) (tC (.int 0)) (tVar 2) σ H Q := by
  refine ⟨.bl s, h0, s, rfl, ?_⟩
  cases s
  · exact ⟨.int t, h2, q⟩
  · exact q
theorem ok_solo {f : Addr} {fd : FuncData} (F : Fun K "_law_solo" "_law_solo" sSolo f fd) (B : Bl mg) : FnOk P w K mg base CX0 1 f fd ["_law_start", "_law_weights", "_law_price_here"] (spSolo K) := by
  refine F.ok scSolo (fun vs H Q E h => ?_) (fun cdv A outer s H vs Q E hr h => ?_)
  · obtain ⟨s, a, ws, p, rfl, _⟩ := h
    rfl
  · obtain ⟨s, a, ws, p, rfl, hS, q⟩ := h
    refine ⟨_, (pss_cons (ps_set (i := 3) scSolo.nd rfl (.inl rfl) (pe_ifExp (pt_val (pv 0)) (pv 2) pe_int))
      (pss_cons (ps_set (i := 4) scSolo.nd rfl (.inl rfl) (pe_ifExp (pt_val (pv 0)) pe_int (pv 2)))
      (pss_cons (ps_for PassesOwn.never rfl (pi_l (K := K) rfl (pv 1)) (pg_name (i := 5) scSolo.nd rfl (.inl rfl)) (pss_cons (ps_set (i := 6) scSolo.nd rfl (.inl rfl) (pe_op op_add (pe_callB (call_min2 rfl) (by rfl) B.min (by decide +kernel) (pa_cons (pv 3) (pa_cons (pe_op op_add (pv 4) (pv 2)) pa_nil))) (pe_callB (call_max2 rfl) (by rfl) B.max (by decide +kernel) (pa_cons pe_int (pa_cons (pv 5) pa_nil)))))
      (pss_cons (ps_set (i := 7) scSolo.nd rfl (.inl rfl) (pe_op op_add (pe_callB (call_min2 rfl) (by rfl) B.min (by decide +kernel) (pa_cons (pv 4) (pa_cons (pe_op op_add (pv 3) (pv 2)) pa_nil))) (pe_callB (call_max2 rfl) (by rfl) B.max (by decide +kernel) (pa_cons pe_int (pa_cons (pe_op op_sub pe_int (pv 5)) pa_nil)))))
      (pss_cons (ps_set (i := 3) scSolo.nd rfl (.inl rfl) (pv 6))
      (pss_one (ps_set (i := 4) scSolo.nd rfl (.inl rfl) (pv 7)))))))
      (pss_one (ps_ret (pe_callB (call_min2 rfl) (by rfl) B.min (by decide +kernel) (pa_cons (pv 3) (pa_cons (pv 4) pa_nil)))))))), ?_⟩
    refine if_x1 rfl rfl (if_y1 rfl rfl ?_)
    refine ⟨.ref a, rfl, a, rfl, ⟨_, hS⟩, for_list (K := K) (a := a) (xs := ws.map V.int) (fun i σ H' => (∃ (x y : Int) (u v z : Option V), σ = [some (.bl s), some (.ref a), some (.int p), some (.int x), some (.int y), u, v, z] ∧ solo p x y (ws.drop i) = solo p (x1 s p) (y1 s p) ws) ∧ H' = H)
      ⟨⟨x1 s p, y1 s p, none, none, none, rfl, rfl⟩, rfl⟩ (fun i σ H' _ h => by rw [h.2]; exact hS) ?_ ?_⟩
    · rintro i y σ H' hi ⟨⟨x, y, u, v, z, rfl, he⟩, rfl⟩
      obtain ⟨g, rfl, e1, e2, hlt⟩ := item_int hi
      rw [e2] at he
      refine ⟨.int x, rfl, .int y, rfl, .int p, rfl, y, p, rfl, rfl, x, y + p, rfl, .int g, rfl, 0, g, rfl, _, _, rfl, rfl, ?_⟩
      refine ⟨.int y, rfl, .int x, rfl, .int p, rfl, x, p, rfl, rfl, y, x + p, rfl, .int g, rfl, 0, g, rfl, rfl, 0, 0 - g, rfl, _, _, rfl, rfl, ?_⟩
      exact ⟨_, rfl, _, rfl, ⟨lo2 p x y g, to2 p x y g, _, _, _, rfl, he⟩, rfl⟩
    · rintro σ H' ⟨⟨x, y, u, v, z, rfl, he⟩, rfl⟩
      rw [List.length_map, List.drop_length] at he
      have he : mn x y = solo p (x1 s p) (y1 s p) ws := he
      rw [← he] at q
      exact ⟨.int x, rfl, .int y, rfl, x, y, rfl, q⟩

/-! ### _law_cost_of_row -/
abbrev nCost : List Str := ["_law_start", "_law_weights", "_law_price_here", "_law_row", "_law_cost", "_law_here", "_law_place"]
theorem scCost : FnScope nCost ["_law_start", "_law_weights", "_law_price_here", "_law_row"] (defScope sCost) := ⟨rfl, rfl, rfl, by decide +kernel, rfl, by decide +kernel, by decide +kernel⟩
theorem ok_cost {f : Addr} {fd : FuncData} (F : Fun K "_law_cost_of_row" "_law_cost_of_row" sCost f fd) (B : Bl mg) : FnOk P w K mg base CX0 1 f fd ["_law_start", "_law_weights", "_law_price_here", "_law_row"] (spCost K) := by
  refine F.ok scCost (fun vs H Q E h => ?_) (fun cdv A outer s H vs Q E hr h => ?_)
  · obtain ⟨s, a, b, ws, p, bs, rfl, _⟩ := h
    rfl
  · obtain ⟨s, a, b, ws, p, bs, rfl, hA, hB, hl, hlen, q⟩ := h
    refine ⟨_, (pss_cons (ps_set (i := 4) scCost.nd rfl (.inl rfl) pe_int)
      (pss_cons (ps_set (i := 5) scCost.nd rfl (.inl rfl) (pv 0))
      (pss_cons (ps_for PassesOwn.never rfl (pi_range1 (by rfl) B.range (pa_cons (pe_callB (len_l (K := K) rfl) (by rfl) B.len (by decide +kernel) (pa_cons (pv 1) pa_nil)) pa_nil)) (pg_name (i := 6) scCost.nd rfl (.inl rfl)) (pss_cons (ps_if (pt_cmpR op_ne (pe_ix (ix_l (K := K) rfl) (pv 3) (pv 6) (fun _ _ => rfl)) (pv 5) (nomark _)) (pss_one (ps_set (i := 4) scCost.nd rfl (.inl rfl) (pe_op op_add (pv 4) (pv 2)))) pss_nil)
      (pss_cons (ps_set (i := 5) scCost.nd rfl (.inl rfl) (pe_ix (ix_l (K := K) rfl) (pv 3) (pv 6) (fun _ _ => rfl)))
      (pss_one (ps_set (i := 4) scCost.nd rfl (.inl rfl) (pe_op op_add (pv 4) (pe_ifExp (pt_val (pv 5)) (pe_callB (call_max2 rfl) (by rfl) B.max (by decide +kernel) (pa_cons pe_int (pa_cons (pe_op op_sub pe_int (pe_ix (ix_l (K := K) rfl) (pv 1) (pv 6) (fun _ _ => rfl))) pa_nil))) (pe_callB (call_max2 rfl) (by rfl) B.max (by decide +kernel) (pa_cons pe_int (pa_cons (pe_ix (ix_l (K := K) rfl) (pv 1) (pv 6) (fun _ _ => rfl)) pa_nil))))))))))
      (pss_one (ps_ret (pv 4)))))), ?_⟩
    refine ⟨.bl s, rfl, .ref a, rfl, a, _, rfl, .inl hA, _, rfl, ?_, ?_, ?_⟩
    · rw [List.length_map]
      omega
    · rw [List.length_map]
      omega
    refine for_range (n := (ws.map V.int).length) (fun i σ H' => (∃ (acc : Int) (here : Bool) (v : Option V), σ = [some (.bl s), some (.ref a), some (.int p), some (.ref b), some (.int acc), some (.bl here), v] ∧ acc + cost p here (ws.drop i) (bs.drop i) = cost p s ws bs) ∧ H' = H)
      ⟨⟨0, s, none, rfl, Int.zero_add _⟩, rfl⟩ ?_ ?_
    · rintro i σ H' hi ⟨⟨acc, here, v, rfl, he⟩, rfl⟩
      rw [List.length_map] at hi
      have hib : i < bs.length := by omega
      have eb : atI (bs.map V.bl) (0 + (i : Int)) = some (.bl bs[i]) := by
        rw [Int.zero_add]
        exact atI_nat (at_bl (List.getElem?_eq_getElem hib))
      have ew : atI (ws.map V.int) (0 + (i : Int)) = some (.int ws[i]) := by
        rw [Int.zero_add]
        exact atI_nat (at_int (List.getElem?_eq_getElem hi))
      rw [List.drop_eq_getElem_cons hi, List.drop_eq_getElem_cons hib] at he
      have he : acc + (tg p here bs[i] + ag ws[i] bs[i] + cost p bs[i] (ws.drop (i + 1)) (bs.drop (i + 1))) = cost p s ws bs := he
      refine ifs_once [some (.bl s), some (.ref a), some (.int p), some (.ref b), some (.int (acc + tg p here bs[i])), some (.bl here), some (.int (0 + i))] (fun D' q' => ?_) ?_
      · refine ⟨.ref b, rfl, .int (0 + i), rfl, b, _, _, _, rfl, rfl, hB, eb, .bl here, rfl, rfl, _, rfl, ite2 (fun e => ?_) (fun e => ?_)⟩
        · have ne : bs[i] ≠ here := fun z => by
            rw [z] at e
            simp at e
          have et : tg p here bs[i] = p := if_neg ne
          rw [et] at q'
          exact ⟨.int acc, rfl, .int p, rfl, acc, p, rfl, rfl, q'⟩
        · have ee : bs[i] = here := by
            cases h1 : bs[i] <;> cases h2 : here <;> simp [h1, h2] at e ⊢
          have et : tg p here bs[i] = 0 := if_pos ee
          rw [et, Int.add_zero] at q'
          exact q'
      refine ⟨.ref b, rfl, .int (0 + i), rfl, b, _, _, _, rfl, rfl, hB, eb, .int (acc + tg p here bs[i]), rfl, if_once (.int (ag ws[i] bs[i])) (fun Q' q' => ?_) ?_⟩
      · refine ⟨.bl bs[i], rfl, bs[i], rfl, ite2 (fun e => ?_) (fun e => ?_)⟩
        · rw [e] at q'
          exact ⟨.ref a, rfl, .int (0 + i), rfl, a, _, _, _, rfl, rfl, hA, ew, 0, _, rfl, rfl, 0, _, rfl, q'⟩
        · rw [Bool.eq_false_iff.mpr e] at q'
          exact ⟨.ref a, rfl, .int (0 + i), rfl, a, _, _, _, rfl, rfl, hA, ew, 0, _, rfl, q'⟩
      · exact ⟨_, _, rfl, rfl, ⟨_, _, _, rfl, by omega⟩, rfl⟩
    · rintro σ H' ⟨⟨acc, here, v, rfl, he⟩, rfl⟩
      rw [List.length_map, List.drop_length] at he
      have he : acc + 0 = cost p s ws bs := by
        rw [← he]
        cases bs.drop ws.length <;> rfl
      rw [Int.add_zero] at he
      rw [← he] at q
      exact ⟨.int acc, rfl, q⟩

/-! ### _law_gaps -/
abbrev nGaps : List Str := ["_law_start", "_law_weights", "_law_price_here", "_law_low", "_law_top", "_law_ahead", "_law_weight", "_law_after_low", "_law_after_top", "_law_gaps_here", "_law_place"]
theorem scGaps : FnScope nGaps ["_law_start", "_law_weights", "_law_price_here"] (defScope sGaps) := ⟨rfl, rfl, rfl, by decide +kernel, rfl, by decide +kernel, by decide +kernel⟩
theorem ok_gaps {f : Addr} {fd : FuncData} (F : Fun K "_law_gaps" "_law_gaps" sGaps f fd) (B : Bl mg) : FnOk P w K mg base CX0 1 f fd ["_law_start", "_law_weights", "_law_price_here"] (spGaps K) := by
  refine F.ok scGaps (fun vs H Q E h => ?_) (fun cdv A outer s H vs Q E hr h => ?_)
  · obtain ⟨s, a, ws, p, rfl, _⟩ := h
    rfl
  · obtain ⟨s, a, ws, p, rfl, hS, hlen, hp, q⟩ := h
    refine ⟨_, (pss_cons (ps_set (i := 3) scGaps.nd rfl (.inl rfl) (pe_ifExp (pt_val (pv 0)) (pv 2) pe_int))
      (pss_cons (ps_set (i := 4) scGaps.nd rfl (.inl rfl) (pe_ifExp (pt_val (pv 0)) pe_int (pv 2)))
      (pss_cons (ps_set (i := 5) scGaps.nd rfl (.inl rfl) (pe_lst pa_nil))
      (pss_cons (ps_for PassesOwn.never rfl (pi_l (K := K) rfl (pv 1)) (pg_name (i := 6) scGaps.nd rfl (.inl rfl)) (pss_cons (ps_set (i := 7) scGaps.nd rfl (.inl rfl) (pe_op op_add (pe_callB (call_min2 rfl) (by rfl) B.min (by decide +kernel) (pa_cons (pv 3) (pa_cons (pe_op op_add (pv 4) (pv 2)) pa_nil))) (pe_callB (call_max2 rfl) (by rfl) B.max (by decide +kernel) (pa_cons pe_int (pa_cons (pv 6) pa_nil)))))
      (pss_cons (ps_set (i := 8) scGaps.nd rfl (.inl rfl) (pe_op op_add (pe_callB (call_min2 rfl) (by rfl) B.min (by decide +kernel) (pa_cons (pv 4) (pa_cons (pe_op op_add (pv 3) (pv 2)) pa_nil))) (pe_callB (call_max2 rfl) (by rfl) B.max (by decide +kernel) (pa_cons pe_int (pa_cons (pe_op op_sub pe_int (pv 6)) pa_nil)))))
      (pss_cons (ps_set (i := 3) scGaps.nd rfl (.inl rfl) (pv 7))
      (pss_cons (ps_set (i := 4) scGaps.nd rfl (.inl rfl) (pv 8))
      (pss_one (ps_expr (pe_bm PySem.F.plainAttrs_list PySem.F.slot_list_append PySem.F.type_list_append mt_append (pv 5) (pa_cons (pe_op op_sub (pv 3) (pv 4)) pa_nil)))))))))
      (pss_cons (ps_set (i := 3) scGaps.nd rfl (.inl rfl) pe_int)
      (pss_cons (ps_set (i := 4) scGaps.nd rfl (.inl rfl) pe_int)
      (pss_cons (ps_set (i := 9) scGaps.nd rfl (.inl rfl) (pe_lst pa_nil))
      (pss_cons (ps_for PassesOwn.never rfl (pi_range3 (by rfl) B.range (pa_cons (pe_op op_sub (pe_callB (len_l (K := K) rfl) (by rfl) B.len (by decide +kernel) (pa_cons (pv 1) pa_nil)) pe_int) (pa_cons (pe_un un_neg pe_int) (pa_cons (pe_un un_neg pe_int) pa_nil)))) (pg_name (i := 10) scGaps.nd rfl (.inl rfl)) (pss_cons (ps_expr (pe_bm PySem.F.plainAttrs_list PySem.F.slot_list_append PySem.F.type_list_append mt_append (pv 9) (pa_cons (pe_op op_sub (pe_op op_add (pe_ix (ix_l (K := K) rfl) (pv 5) (pv 10) (fun _ _ => rfl)) (pv 3)) (pv 4)) pa_nil)))
      (pss_cons (ps_set (i := 7) scGaps.nd rfl (.inl rfl) (pe_op op_add (pv 3) (pe_callB (call_max2 rfl) (by rfl) B.max (by decide +kernel) (pa_cons pe_int (pa_cons (pe_ix (ix_l (K := K) rfl) (pv 1) (pv 10) (fun _ _ => rfl)) pa_nil)))))
      (pss_cons (ps_set (i := 8) scGaps.nd rfl (.inl rfl) (pe_op op_add (pv 4) (pe_callB (call_max2 rfl) (by rfl) B.max (by decide +kernel) (pa_cons pe_int (pa_cons (pe_op op_sub pe_int (pe_ix (ix_l (K := K) rfl) (pv 1) (pv 10) (fun _ _ => rfl))) pa_nil)))))
      (pss_cons (ps_set (i := 3) scGaps.nd rfl (.inl rfl) (pe_callB (call_min2 rfl) (by rfl) B.min (by decide +kernel) (pa_cons (pv 7) (pa_cons (pe_op op_add (pv 8) (pv 2)) pa_nil))))
      (pss_one (ps_set (i := 4) scGaps.nd rfl (.inl rfl) (pe_callB (call_min2 rfl) (by rfl) B.min (by decide +kernel) (pa_cons (pv 8) (pa_cons (pe_op op_add (pv 7) (pv 2)) pa_nil))))))))))
      (pss_one (ps_ret (pe_revL (pv 9)))))))))))), ?_⟩
    refine if_x1 rfl rfl (if_y1 rfl rfl ?_)
    -- the differences ahead
    refine ⟨Nat.zero_le _, fun o no => ?_⟩
    refine ⟨.ref a, rfl, a, rfl, ⟨_, (same_new no).seq hS⟩, for_list (K := K) (a := a) (xs := ws.map V.int) (fun i σ H' => ∃ (x y : Int) (got : List Int) (u v z : Option V), σ = [some (.bl s), some (.ref a), some (.int p), some (.int x), some (.int y), some (.ref o), u, v, z, none, none] ∧ Same H H' ∧
        H' o = some (.lst (got.map V.int)) ∧ got.length = i ∧ got ++ ahead p x y (ws.drop i) = ahead p (x1 s p) (y1 s p) ws)
      ⟨x1 s p, y1 s p, [], none, none, none, rfl, same_new no, upd_same, rfl, rfl⟩ (fun i σ H' _ ⟨_, _, _, _, _, _, _, sm, _⟩ => sm.seq hS) ?_ ?_⟩
    · rintro i y σ H' hi ⟨x, y, got, u, v, z, rfl, sm, ho, hl, he⟩
      obtain ⟨g, rfl, e1, e2, hlt⟩ := item_int hi
      rw [e2] at he
      have he : got ++ ((lo2 p x y g - to2 p x y g) :: ahead p (lo2 p x y g) (to2 p x y g) (ws.drop (i + 1))) = ahead p (x1 s p) (y1 s p) ws := he
      refine ⟨.int x, rfl, .int y, rfl, .int p, rfl, y, p, rfl, rfl, x, y + p, rfl, .int g, rfl, 0, g, rfl, _, _, rfl, rfl, ?_⟩
      refine ⟨.int y, rfl, .int x, rfl, .int p, rfl, x, p, rfl, rfl, y, x + p, rfl, .int g, rfl, 0, g, rfl, rfl, 0, 0 - g, rfl, _, _, rfl, rfl, ?_⟩
      refine ⟨_, rfl, _, rfl, .ref o, rfl, .inl ⟨rfl, _, .inl (.inl ho)⟩, .int (lo2 p x y g), rfl, .int (to2 p x y g), rfl, _, _, rfl, rfl, o, _, _, rfl, rfl, ho, ?_, ?_⟩
      · rw [List.length_map, hl]
        exact small1000 (by omega)
      refine ⟨lo2 p x y g, to2 p x y g, got ++ [lo2 p x y g - to2 p x y g], _, _, _, rfl, same_put sm no, ?_, ?_, ?_⟩
      · rw [upd_same, List.map_append]
        rfl
      · rw [List.length_append, hl]
        rfl
      · rw [List.append_assoc]
        exact he
    rintro σ H1 ⟨x, y, got, u, v, z, rfl, sm1, ho, hl, he⟩
    rw [List.length_map, List.drop_length] at he
    have he : got ++ [] = ahead p (x1 s p) (y1 s p) ws := he
    rw [List.append_nil] at he
    have hS1 := sm1.seq hS
    -- the costs behind
    refine ⟨Nat.zero_le _, fun g ng => ?_⟩
    have ngo : o ≠ g := ne_of_none ho ng
    have ho2 : (upd H1 g (.lst [])) o = some (.lst (got.map V.int)) := by
      rw [upd_ne ngo]
      exact ho
    refine ⟨.ref a, rfl, a, _, rfl, .inl ((same_new ng).seq hS1), _, 1, rfl, rfl, 1, rfl, 1, rfl, _, _, _, _, rfl, RgC.neg ?_ ?_ (by decide) (by decide), ?_⟩
    · rw [List.length_map]
      omega
    · rw [List.length_map]
      omega
    have en : (((ws.map V.int).length : Int) - 1 - -1).toNat = ws.length := by
      rw [List.length_map]
      omega
    rw [en]
    generalize hG : sums p 0 (m1 s p) ws = G at q
    have hGl : G.length = ws.length := by rw [← hG, sums_len]
    have gotl : got.length = ws.length := by rw [he, ahead_len]
    refine for_rangeC (fun i σ H' => ∃ (u v z t : Option V), σ = [some (.bl s), some (.ref a), some (.int p), some (.int (lo p false (ws.drop (ws.length - i)))), some (.int (lo p true (ws.drop (ws.length - i)))), some (.ref o), z, u, v, some (.ref g), t] ∧ Same H H' ∧
        H' o = some (.lst (got.map V.int)) ∧ H' g = some (.lst ((G.reverse.take i).map V.int))) ⟨v, z, u, none, ?_, sm1.trans (same_new ng), ho2, upd_same⟩ ?_ ?_
    · rw [Nat.sub_zero, List.drop_length]
      rfl
    · rintro i σ H' hi ⟨u', v', z', t', rfl, sm, ho', hg⟩
      have sm2 : ∀ w', Same H (upd H' g w') := fun w' => same_put sm (sm1.free ng)
      obtain ⟨j, hj⟩ : ∃ j, ws.length - i = j + 1 := ⟨ws.length - 1 - i, by omega⟩
      have hj2 : ws.length - (i + 1) = j := by omega
      have hjl : j < ws.length := by omega
      have ej : (((ws.map V.int).length : Int) - 1 + ((i : Nat) : Int) * -1) = (j : Int) := by
        rw [List.length_map]
        omega
      obtain ⟨d, ed⟩ : ∃ d, got[j]? = some d := ⟨_, List.getElem?_eq_getElem (show j < got.length by omega)⟩
      have ed2 := ed
      rw [he] at ed2
      have eg := gaps_at hp _ _ ws j _ ed2
      rw [cut_start hp, hG] at eg
      have er : G.reverse[i]? = some (d + lo p false (ws.drop (j + 1)) - lo p true (ws.drop (j + 1))) := by
        rw [List.getElem?_reverse (by omega), ← eg]
        congr 1
        omega
      have ew : ws[j]? = some ws[j] := List.getElem?_eq_getElem hjl
      have ea : atI (got.map V.int) (((ws.map V.int).length : Int) - 1 + ((i : Nat) : Int) * -1) = some (.int d) := by
        rw [ej]
        exact atI_nat (at_int ed)
      have ewa : atI (ws.map V.int) (((ws.map V.int).length : Int) - 1 + ((i : Nat) : Int) * -1) = some (.int ws[j]) := by
        rw [ej]
        exact atI_nat (at_int ew)
      rw [hj]
      refine ⟨.ref g, rfl, .inl ⟨rfl, _, .inl (.inl hg)⟩, .ref o, rfl, .int _, rfl, o, _, _, _, rfl, rfl, .inl (.inl ho'), ea, .int _, rfl, _, _, rfl, rfl, .int _, rfl, _, _, rfl, rfl, g, _, _, rfl, rfl, hg, ?_, ?_⟩
      · rw [List.length_map, List.length_take]
        exact small1000 (by omega)
      refine ⟨.int _, rfl, .ref a, rfl, .int _, rfl, a, _, _, _, rfl, rfl, (sm2 _).seq hS, ewa, 0, _, rfl, _, _, rfl, rfl, ?_⟩
      refine ⟨.int _, rfl, .ref a, rfl, .int _, rfl, a, _, _, _, rfl, rfl, (sm2 _).seq hS, ewa, 0, _, rfl, rfl, 0, _, rfl, _, _, rfl, rfl, ?_⟩
      refine ⟨.int _, rfl, .int _, rfl, .int p, rfl, _, p, rfl, rfl, _, _, rfl, ?_⟩
      refine ⟨.int _, rfl, .int _, rfl, .int p, rfl, _, p, rfl, rfl, _, _, rfl, ?_⟩
      refine ⟨some (.int (lo p false (ws.drop (j + 1)) + ag ws[j] false)), some (.int (lo p true (ws.drop (j + 1)) + ag ws[j] true)), z', some (.int (((ws.map V.int).length : Int) - 1 + ((i : Nat) : Int) * -1)), ?_, sm2 _, ?_, ?_⟩
      · rw [hj2, List.drop_eq_getElem_cons hjl, behind_lo, behind_to]
        rfl
      · rw [upd_ne ngo]
        exact ho'
      · rw [upd_same, List.take_add_one, er, List.map_append]
        rfl
    · rintro σ H' ⟨u', v', z', t', rfl, sm, ho', hg⟩
      rw [List.take_of_length_le (by rw [List.length_reverse]; omega)] at hg
      refine ⟨.ref g, rfl, g, _, rfl, .inl (.inl hg), fun r nr => q _ _ (sm.trans (same_new nr)) (sm.free nr) ?_⟩
      rw [upd_same, ← List.map_reverse, List.reverse_reverse]
end
end Lv
/-! The law's rows: _law_longer, _law_rows. -/
namespace Lv
open PySem PySem.Spec PyProof.Rows L2
abbrev sLonger : Stmt := tp 19
abbrev sRows : Stmt := tp 20
/-- an entry: a row of sides and its cost -/
def EntryAt (H : Hp) (e : Addr) (x : List Bool × Int) : Prop := ∃ r : Addr, H e = some (.lst [.ref r, .int x.2]) ∧ H r = some (.lst (x.1.map V.bl))
/-- the same, apart from D -/
def EntryOff (D : Addr) (H : Hp) (e : Addr) (x : List Bool × Int) : Prop := ∃ r : Addr, H e = some (.lst [.ref r, .int x.2]) ∧ H r = some (.lst (x.1.map V.bl)) ∧ e ≠ D ∧ r ≠ D
def RowsAt (H : Hp) (R : Addr) (rs : List (List Bool × Int)) : Prop := ∃ es : List Addr, H R = some (.lst (es.map V.ref)) ∧ Paired (EntryAt H) es rs
def spLonger (K : PySem.W.Frag) : Sp := fun vs H Q _ => ∃ (e : Addr) (b s : Bool) (g p : Int) (x : List Bool × Int), vs = [.ref e, .bl b, .bl s, .int g, .int p] ∧ EntryAt H e x ∧ x.1.length ≤ 100 ∧
  ∀ (H' : Hp) (e' r' : Addr), Same H H' → H e' = none → H r' = none → H' e' = some (.lst [.ref r', .int (longer s p g b x).2]) → H' r' = some (.lst ((longer s p g b x).1.map V.bl)) → Q (.ref e') H'
def spRows (K : PySem.W.Frag) : Sp := fun vs H Q _ => ∃ (s : Bool) (a : Addr) (ws : List Int) (p : Int), vs = [.bl s, .ref a, .int p] ∧ SqL K H a (ws.map V.int) ∧ ws.length ≤ 8 ∧
  ∀ (H' : Hp) (R : Addr), Same H H' → H R = none → RowsAt H' R (rows s p ws) → Q (.ref R) H'
theorem EntryAt.same {H H' : Hp} (sm : Same H H') {e : Addr} {x : List Bool × Int} (h : EntryAt H e x) : EntryAt H' e x := by
  obtain ⟨r, h1, h2⟩ := h
  exact ⟨r, sm _ _ h1, sm _ _ h2⟩
theorem EntryOff.same {D : Addr} {H H' : Hp} (sm : Same H H') {e : Addr} {x : List Bool × Int} (h : EntryOff D H e x) : EntryOff D H' e x := by
  obtain ⟨r, h1, h2, h3⟩ := h
  exact ⟨r, sm _ _ h1, sm _ _ h2, h3⟩
theorem EntryOff.put {D : Addr} {H : Hp} {u : HO} {e : Addr} {x : List Bool × Int} (h : EntryOff D H e x) : EntryOff D (upd H D u) e x := by
  obtain ⟨r, h1, h2, h3, h4⟩ := h
  exact ⟨r, by rw [upd_ne h3]; exact h1, by rw [upd_ne h4]; exact h2, h3, h4⟩
theorem EntryOff.at {D : Addr} {H : Hp} {e : Addr} {x : List Bool × Int} (h : EntryOff D H e x) : EntryAt H e x := by
  obtain ⟨r, h1, h2, _⟩ := h
  exact ⟨r, h1, h2⟩
theorem paired_app {α β : Type} {F : α → β → Prop} : ∀ {a c : List α} {b d : List β}, Paired F a b → Paired F c d → Paired F (a ++ c) (b ++ d)
  | _, _, _, _, .nil, h => h
  | _, _, _, _, .cons h t, g => .cons h (paired_app t g)
theorem paired_at {α β : Type} {F : α → β → Prop} : ∀ {a : List α} {b : List β} {i : Nat} {x : α}, Paired F a b → a[i]? = some x → ∃ y, b[i]? = some y ∧ F x y
  | _, _, _, _, .nil, h => by simp at h
  | _, _, 0, _, .cons h _, e => by
    cases e
    exact ⟨_, rfl, h⟩
  | _, _, i + 1, x, .cons _ t, e => paired_at (i := i) t e
theorem item_ref {es : List Addr} {i : Nat} {y : V} (h : (es.map V.ref)[i]? = some y) : ∃ e : Addr, y = .ref e ∧ es[i]? = some e ∧ i < es.length := by
  rw [List.getElem?_map] at h
  cases q : es[i]? with
  | none =>
    rw [q] at h
    cases h
  | some e =>
    rw [q] at h
    exact ⟨e, (Option.some.inj h).symm, rfl, (List.getElem?_eq_some_iff.mp q).1⟩
theorem last_at {s : Bool} {r : List Bool} (h : 0 < r.length) : atI (r.map V.bl) (((r.map V.bl).length : Int) - 1) = some (.bl (lastOr s r)) := by
  have hne : r ≠ [] := List.length_pos_iff.mp h
  have e : (((r.map V.bl).length : Int) - 1) = ((r.length - 1 : Nat) : Int) := by
    rw [List.length_map]
    omega
  rw [e]
  refine atI_nat (at_bl ?_)
  unfold lastOr
  rw [List.getLast?_eq_getElem?, List.getElem?_eq_getElem (by omega)]
  rfl
theorem last_nil {s : Bool} {r : List Bool} (h : ¬ 0 < r.length) : lastOr s r = s := by
  have e : r = [] := List.length_eq_zero_iff.mp (by omega)
  rw [e]
  rfl

/-- a conditional whose value is known, given to a name, is read once -/
theorem seq_once {tA : TT} {ta tb : TE} {i : Nat} {r : TS} {D : Ends} {σ : List (Option V)} {H : Hp} (x : V) (h : ∀ Q' : VK, Q' x H → tIf tA ta tb σ H Q') (q : r D (σ.set i (some x)) H) : tSeq (tAsg (tIf tA ta tb) (gName i)) r D σ H := h _ q

theorem g_then {i : Nat} {x : V} {σ : List (Option V)} {H : Hp} {Q : List (Option V) → Hp → Prop} (q : Q (σ.set i (some x)) H) : gName i x σ H Q := q
theorem seq_set {te : TE} {i : Nat} {r : TS} {D : Ends} {σ : List (Option V)} {H : Hp} (h : te σ H fun x H1 => r D (σ.set i (some x)) H1) : tSeq (tAsg te (gName i)) r D σ H := h

section
variable {P : Program} {w : World} {K : PySem.W.Frag} {mg : Str → Option Value} {base : Heap}

/-! ### _law_longer -/
abbrev nLonger : List Str := ["_law_entry", "_law_side", "_law_start", "_law_weight", "_law_price_here", "_law_here", "_law_against"]
abbrev pLonger : List Str := ["_law_entry", "_law_side", "_law_start", "_law_weight", "_law_price_here"]
theorem scLonger : FnScope nLonger pLonger (defScope sLonger) := ⟨rfl, rfl, rfl, by decide +kernel, rfl, by decide +kernel, by decide +kernel⟩
theorem ok_longer {f : Addr} {fd : FuncData} (F : Fun K "_law_longer" "_law_longer" sLonger f fd) (B : Bl mg) : FnOk P w K mg base CX0 1 f fd pLonger (spLonger K) := by
  refine F.ok scLonger (fun vs H Q E h => ?_) (fun cdv A outer sh H vs Q E hr h => ?_)
  · obtain ⟨e, b, s, g, p, x, rfl, _⟩ := h
    rfl
  · obtain ⟨e, b, s, g, p, ⟨rw_, c⟩, rfl, ⟨r, he, hrr⟩, hlen, q⟩ := h
    refine ⟨_, (pss_cons (ps_set (i := 5) scLonger.nd rfl (.inl rfl) (pe_ifExp (pt_cmpR op_gt (pe_callB (len_l (K := K) rfl) (by rfl) B.len (by decide +kernel) (pa_cons (pe_ix (ix_l (K := K) rfl) (pv 0) pe_int (fun _ _ => rfl)) pa_nil)) pe_int (nomark _)) (pe_ix (ix_l (K := K) rfl) (pe_ix (ix_l (K := K) rfl) (pv 0) pe_int (fun _ _ => rfl)) (pe_op op_sub (pe_callB (len_l (K := K) rfl) (by rfl) B.len (by decide +kernel) (pa_cons (pe_ix (ix_l (K := K) rfl) (pv 0) pe_int (fun _ _ => rfl)) pa_nil)) pe_int) (fun _ _ => rfl)) (pv 2)))
      (pss_cons (ps_set (i := 6) scLonger.nd rfl (.inl rfl) (pe_ifExp (pt_val (pv 1)) (pe_callB (call_max2 rfl) (by rfl) B.max (by decide +kernel) (pa_cons pe_int (pa_cons (pe_op op_sub pe_int (pv 3)) pa_nil))) (pe_callB (call_max2 rfl) (by rfl) B.max (by decide +kernel) (pa_cons pe_int (pa_cons (pv 3) pa_nil)))))
      (pss_one (ps_ret (pe_lst (pa_cons (pe_op op_cat (pe_ix (ix_l (K := K) rfl) (pv 0) pe_int (fun _ _ => rfl)) (pe_lst (pa_cons (pv 1) pa_nil))) (pa_cons (pe_op op_add (pe_op op_add (pe_ix (ix_l (K := K) rfl) (pv 0) pe_int (fun _ _ => rfl)) (pe_ifExp (pt_cmpR op_eq (pv 1) (pv 5) (nomark _)) pe_int (pv 4))) (pv 6)) pa_nil))))))), ?_⟩
    have a0 : atI [V.ref r, V.int c] 0 = some (.ref r) := atI_nat (j := 0) rfl
    have a1 : atI [V.ref r, V.int c] 1 = some (.int c) := atI_nat (j := 1) rfl
    refine seq_once (.bl (lastOr s rw_)) (fun Q' q' => ?_) ?_
    · refine ⟨.ref e, rfl, e, _, 0, .ref r, rfl, rfl, .inl (.inl he), a0, r, _, rfl, .inl (.inl (.inl hrr)), _, 0, rfl, rfl, _, rfl, ite2 (fun h => ?_) (fun h => ?_)⟩
      · have h := of_decide_eq_true h
        rw [List.length_map] at h
        exact ⟨.ref e, rfl, e, _, 0, .ref r, rfl, rfl, .inl (.inl he), a0, .ref e, rfl, e, _, 0, .ref r, rfl, rfl, .inl (.inl he), a0, r, _, rfl, .inl (.inl (.inl hrr)), _, 1, rfl, rfl, r, _, _, _, rfl, rfl, .inl (.inl hrr), last_at (by omega), q'⟩
      · have h : ¬ 0 < rw_.length := fun z => h (decide_eq_true (show (0 : Int) < ((rw_.map V.bl).length : Int) by rw [List.length_map]; omega))
        rw [last_nil h] at q'
        exact ⟨.bl s, rfl, q'⟩
    refine seq_once (.int (ag g b)) (fun Q' q' => ?_) ?_
    · refine ⟨.bl b, rfl, b, rfl, ite2 (fun e => ?_) (fun e => ?_)⟩
      · rw [e] at q'
        exact ⟨.int g, rfl, 0, g, rfl, rfl, 0, _, rfl, q'⟩
      · rw [Bool.eq_false_iff.mpr e] at q'
        exact ⟨.int g, rfl, 0, _, rfl, q'⟩
    refine ⟨.ref e, rfl, e, _, 0, .ref r, rfl, rfl, .inl (.inl he), a0, .bl b, rfl, by show 1 ≤ sizeLine; decide, fun t nt => ?_⟩
    have s1 : Same H (upd H t (.lst [.bl b])) := same_new nt
    refine ⟨r, t, _, _, rfl, rfl, s1 _ _ hrr, upd_same, ?_, fun r2 nr2 => ?_⟩
    · rw [List.length_map]
      exact Nat.le_of_lt (small1000 (show rw_.length + 1 ≤ 1000 by have : rw_.length ≤ 100 := hlen; omega))
    have s2 := s1.trans (same_new (u := .lst (rw_.map V.bl ++ [.bl b])) nr2)
    refine ⟨.ref e, rfl, e, _, 1, .int c, rfl, rfl, .inl (.inl (s2 _ _ he)), a1, if_once (.int (if b = lastOr s rw_ then 0 else p)) (fun Q' q' => ?_) ?_⟩
    · refine ⟨.bl b, rfl, .bl (lastOr s rw_), rfl, rfl, _, rfl, ite2 (fun h => ?_) (fun h => ?_)⟩
      · have h : b = lastOr s rw_ := V.bl.inj (of_decide_eq_true h)
        rw [if_pos h] at q'
        exact q'
      · have h : ¬ b = lastOr s rw_ := fun z => h (decide_eq_true (by rw [z]))
        rw [if_neg h] at q'
        exact ⟨.int p, rfl, q'⟩
    refine ⟨c, _, rfl, rfl, .int (ag g b), rfl, _, _, rfl, rfl, by show 2 ≤ sizeLine; decide, fun e2 ne2 => ?_⟩
    have ne : r2 ≠ e2 := fun z => by
      rw [← z, upd_same] at ne2
      cases ne2
    refine q _ e2 r2 (s2.trans (same_new ne2)) (s2.free ne2) (s1.free nr2) ?_ ?_
    · rw [upd_same]
      rfl
    · rw [upd_ne ne, upd_same]
      show some (HO.lst (rw_.map V.bl ++ [V.bl b])) = some (HO.lst ((rw_ ++ [b]).map V.bl))
      rw [List.map_append]
      rfl

/-! ### _law_rows -/
abbrev nRows : List Str := ["_law_start", "_law_weights", "_law_price_here", "_law_rows_here", "_law_weight", "_law_shorter", "_law_entry"]
theorem scRows : FnScope nRows ["_law_start", "_law_weights", "_law_price_here"] (defScope sRows) := ⟨rfl, rfl, rfl, by decide +kernel, rfl, by decide +kernel, by decide +kernel⟩
/-- every entry with one side more -/
theorem te_longer {s b : Bool} {a R : Addr} {p g : Int} {x3 x6 : Option V} {H : Hp} {es : List Addr} {rs : List (List Bool × Int)} {Q : VK} (hR : H R = some (.lst (es.map V.ref))) (hE : Paired (EntryAt H) es rs) (hl : ∀ x ∈ rs, x.1.length ≤ 100) (hz : rs.length ≤ 1000)
    (q : ∀ (H' : Hp) (D : Addr) (ds : List Addr), Same H H' → H D = none → H' D = some (.lst (ds.map V.ref)) → Paired (EntryAt H') ds (rs.map (longer s p g b)) → Q (.ref D) H') :
    tLc (iList K (tVar 5)) (gName 6) tYes (tCall (spLonger K) [] E0 (tCons (tVar 6) (tCons (tC (.bl b)) (tCons (tVar 0) (tCons (tVar 4) (tCons (tVar 2) tNil)))))) [6] [some (.bl s), some (.ref a), some (.int p), x3, some (.int g), some (.ref R), x6] H Q := by
  refine ⟨.ref R, rfl, R, rfl, ⟨_, .inl (.inl hR)⟩, fun D nD => ?_⟩
  have nRD : R ≠ D := ne_of_none hR nD
  have hlen := hE.length
  refine lc_list (K := K) (a := R) (xs := es.map V.ref) (fun i H' => Same H H' ∧ H' R = some (.lst (es.map V.ref)) ∧ ∃ ds : List Addr, H' D = some (.lst (ds.map V.ref)) ∧ Paired (EntryOff D H') ds ((rs.take i).map (longer s p g b)))
    ⟨same_new nD, by rw [upd_ne nRD]; exact hR, [], upd_same, .nil⟩ (fun i H' _ h => .inl (.inl h.2.1)) ?_ ?_
  · rintro i y H' hi ⟨sm, hR', ds, hD, hds⟩
    obtain ⟨e, rfl, ee, hlt⟩ := item_ref hi
    obtain ⟨x, ex, he⟩ := paired_at hE ee
    refine ⟨rfl, .ref e, rfl, .bl s, rfl, .int g, rfl, .int p, rfl, e, b, s, g, p, x, rfl, he.same sm, hl x (List.mem_of_getElem? ex), fun H2 e' r' sm2 ne nr h1 h2 => ?_⟩
    have dl := hds.length
    rw [List.length_map, List.length_take] at dl
    have n1 : e' ≠ D := fun z => by
      rw [z, hD] at ne
      cases ne
    have n2 : r' ≠ D := fun z => by
      rw [z, hD] at nr
      cases nr
    have nHD : H D = none := nD
    refine ⟨_, sm2 _ _ hD, ?_, same_put (sm.trans sm2) nHD, ?_, ds ++ [e'], ?_, ?_⟩
    · rw [List.length_map]
      exact small1000 (by omega)
    · rw [upd_ne nRD]
      exact sm2 _ _ hR'
    · rw [upd_same, List.map_append]
      rfl
    · rw [List.take_add_one, ex, List.map_append]
      exact paired_app (hds.mono fun _ _ h => (h.same sm2).put) (.cons ⟨r', by rw [upd_ne n1]; exact h1, by rw [upd_ne n2]; exact h2, n1, n2⟩ .nil)
  · rintro H' ⟨sm, hR', ds, hD, hds⟩
    rw [List.length_map, hlen, List.take_length] at hds
    exact q H' D ds sm nD hD (hds.mono fun _ _ h => h.at)
theorem ok_rows {f : Addr} {fd : FuncData} (F : Fun K "_law_rows" "_law_rows" sRows f fd) (C__law_longer : Cal P w K mg base 1 "_law_longer" pLonger (spLonger K)) : FnOk P w K mg base CX0 2 f fd ["_law_start", "_law_weights", "_law_price_here"] (spRows K) := by
  refine F.ok scRows (fun vs H Q E h => ?_) (fun cdv A outer sh H vs Q E hr h => ?_)
  · obtain ⟨s, a, ws, p, rfl, _⟩ := h
    rfl
  · obtain ⟨s, a, ws, p, rfl, hS, hlen, q⟩ := h
    refine ⟨_, (pss_cons (ps_set (i := 3) scRows.nd rfl (.inl rfl) (pe_lst (pa_cons (pe_lst (pa_cons (pe_lst pa_nil) (pa_cons pe_int pa_nil))) pa_nil)))
      (pss_cons (ps_for PassesOwn.never rfl (pi_l (K := K) rfl (pv 1)) (pg_name (i := 4) scRows.nd rfl (.inr rfl)) (pss_cons (ps_set (i := 5) scRows.nd rfl (.inl rfl) (pv 3))
      (pss_cons (ps_setLc (i := 3) (own := [("_law_entry", 6)]) (g := gName 6) (tt := tYes) rfl scRows.nd rfl rfl (sw_true rfl rfl rfl (by decide +kernel)) (pi_l (K := K) rfl (pv 5)) (blkOk_by (N := nRows) (sc := defScope sRows) (own := [("_law_entry", 6)]) (by decide +kernel)) (fun _ _ _ _ _ => pg_name (i := 6) scRows.nd rfl (.inl rfl)) (fun _ _ _ _ _ => pts_nil) (fun _ _ _ _ _ => (pe_cal C__law_longer (hr.mono (by decide)) (by rfl) (pa_cons (pv 6) (pa_cons pe_bl (pa_cons (pv 0) (pa_cons (pv 4) (pa_cons (pv 2) pa_nil))))))))
      (pss_one (ps_set (i := 3) scRows.nd rfl (.inl rfl) (pe_op op_cat (pv 3) (pe_lc (own := [("_law_entry", 6)]) (g := gName 6) (tt := tYes) rfl scRows.nd (pi_l (K := K) rfl (pv 5)) (blkOk_by (N := nRows) (sc := defScope sRows) (own := [("_law_entry", 6)]) (by decide +kernel)) (fun _ _ _ _ _ => pg_name (i := 6) scRows.nd rfl (.inl rfl)) (fun _ _ _ _ _ => pts_nil) (fun _ _ _ _ _ => (pe_cal C__law_longer (hr.mono (by decide)) (by rfl) (pa_cons (pv 6) (pa_cons pe_bl (pa_cons (pv 0) (pa_cons (pv 4) (pa_cons (pv 2) pa_nil))))))))))))))
      (pss_one (ps_ret (pv 3))))), ?_⟩
    -- [[[], 0]]
    refine ⟨Nat.zero_le _, fun o1 n1 => ⟨by show 2 ≤ sizeLine; decide, fun o2 n2 => ⟨by show 1 ≤ sizeLine; decide, fun o3 n3 => ?_⟩⟩⟩
    have s1 : Same H (upd H o1 (.lst [])) := same_new n1
    have s2 := s1.trans (same_new (u := .lst [.ref o1, .int 0]) n2)
    have s3 := s2.trans (same_new (u := .lst [.ref o2]) n3)
    have n12 : o1 ≠ o2 := fun z => by
      rw [← z, upd_same] at n2
      cases n2
    have n23 : o2 ≠ o3 := fun z => by
      rw [← z, upd_same] at n3
      cases n3
    have n13 : o1 ≠ o3 := fun z => by
      rw [← z, upd_ne n12, upd_same] at n3
      cases n3
    refine ⟨.ref a, rfl, a, rfl, ⟨_, s3.seq hS⟩, for_list (K := K) (a := a) (xs := ws.map V.int) (fun i σ H' => ∃ (R : Addr) (rs : List (List Bool × Int)) (u v : Option V), σ = [some (.bl s), some (.ref a), some (.int p), some (.ref R), u, v, none] ∧ Same H H' ∧ H R = none ∧ RowsAt H' R rs ∧
        AllOf s p (ws.take i) rs ∧ rs.length = 2 ^ i ∧ rowsFrom s p rs (ws.drop i) = rows s p ws)
      ⟨o3, [([], 0)], none, none, rfl, s3, s2.free n3, ⟨[o2], upd_same, .cons ⟨o1, ?_, ?_⟩ .nil⟩, rows_all s p [], rfl, rfl⟩ (fun i σ H' _ ⟨_, _, _, _, _, sm, _⟩ => sm.seq hS) ?_ ?_⟩
    · rw [upd_ne n23, upd_same]
    · rw [upd_ne n13, upd_ne n12, upd_same]
      rfl
    · rintro i y σ H' hi ⟨R, rs, u, v, rfl, sm, nR, ⟨es, hR, hE⟩, hA, hN, hF⟩
      obtain ⟨g, rfl, e1, e2, hlt⟩ := item_int hi
      have hi8 : i < 8 := by omega
      have hz : rs.length ≤ 128 := by
        rw [hN]
        exact Nat.pow_le_pow_right (by decide) (show i ≤ 7 by omega)
      have hl : ∀ x ∈ rs, x.1.length ≤ 100 := fun x hx => by
        have e := ((hA x).mp hx).1
        rw [List.length_take] at e
        omega
      rw [e2] at hF
      have hF : rowsFrom s p (grown s p g rs) (ws.drop (i + 1)) = rows s p ws := hF
      refine ⟨.ref R, rfl, ?_⟩
      refine g_then (seq_set (te_longer hR hE hl (by omega) fun H1 D1 ds1 sm1 nD1 hD1 hds1 => ?_))
      have hR1 := sm1 _ _ hR
      have hE1 : Paired (EntryAt H1) es rs := hE.mono fun _ _ h => h.same sm1
      refine ⟨.ref D1, rfl, ?_⟩
      refine te_longer hR1 hE1 hl (by omega) fun H2 D2 ds2 sm2 nD2 hD2 hds2 => ?_
      have l1 := hds1.length
      have l2 := hds2.length
      rw [List.length_map] at l1 l2
      refine ⟨D1, D2, _, _, rfl, rfl, sm2 _ _ hD1, hD2, ?_, fun R2 nR2 => ?_⟩
      · rw [List.length_map, List.length_map]
        exact Nat.le_of_lt (small1000 (by omega))
      have sm3 := (sm.trans sm1).trans sm2
      have sm4 := same_new (u := .lst (ds1.map V.ref ++ ds2.map V.ref)) nR2
      refine ⟨R2, grown s p g rs, _, _, rfl, sm3.trans sm4, sm3.free nR2, ⟨ds1 ++ ds2, by rw [upd_same, List.map_append], ?_⟩, ?_, ?_, hF⟩
      · exact paired_app (hds1.mono fun _ _ h => (h.same sm2).same sm4) (hds2.mono fun _ _ h => h.same sm4)
      · rw [List.take_add_one, e1]
        exact grown_all hA
      · rw [grown_len, hN, Nat.pow_succ]
        omega
    · rintro σ H' ⟨R, rs, u, v, rfl, sm, nR, hR, hA, hN, hF⟩
      rw [List.length_map, List.drop_length] at hF
      have hF : rs = rows s p ws := hF
      subst hF
      exact ⟨.ref R, rfl, q H' R sm nR hR⟩
end
end Lv
/-! The law's dues: _law_short (by all rows), _law_long (by costs from both ends). -/
namespace Lv
open PySem PySem.Spec PyProof.Rows L2
abbrev sShort : Stmt := tp 21
abbrev sLong : Stmt := tp 22
/-- the scope of the comprehension that a statement assigns -/
def lcScope (s : Stmt) : Scope := match s with
  | .Assign _ (.ListComp _ _ sc _) _ => sc
  | _ => { kind := .function, names := [], isGenerator := false, isCoroutine := false }
/-- what is due: the least cost, the row that is on where all best rows are, the row that is on where some is -/
def DueAt (H : Hp) (d : Addr) (L : Int) (E G : List Bool) : Prop := ∃ e g : Addr, H d = some (.lst [.int L, .ref e, .ref g]) ∧ H e = some (.lst (E.map V.bl)) ∧ H g = some (.lst (G.map V.bl))
def spShort (K : PySem.W.Frag) : Sp := fun vs H Q _ => ∃ (s : Bool) (a : Addr) (ws : List Int) (p : Int), vs = [.bl s, .ref a, .int p] ∧ SqL K H a (ws.map V.int) ∧ ws.length ≤ 8 ∧ 0 ≤ p ∧
  ∀ (H' : Hp) (d : Addr), Same H H' → H d = none → DueAt H' d (lo p s ws) (lrow p s ws) (grow p s ws) → Q (.ref d) H'
def spLong (K : PySem.W.Frag) : Sp := fun vs H Q _ => ∃ (s : Bool) (a : Addr) (ws : List Int) (p : Int), vs = [.bl s, .ref a, .int p] ∧ SqL K H a (ws.map V.int) ∧ ws.length ≤ 100 ∧ 0 ≤ p ∧
  ∀ (H' : Hp) (d : Addr), Same H H' → H d = none → DueAt H' d (lo p s ws) (lrow p s ws) (grow p s ws) → Q (.ref d) H'
theorem yes_then {te : TE} {σ : List (Option V)} {H : Hp} {R : V → Hp → Prop} {N : Hp → Prop} (h : te σ H R) : tYes σ H (fun b H3 => if b = true then te σ H3 R else N H3) := h
theorem cmp_call {te : TE} {r : R2} {rl : List V → Hp → VK → Prop} {c : V} {σ : List (Option V)} {H : Hp} {Q : VK} (h : te σ H fun x H1 => rl [x] H1 fun y H2 => r y c H2 Q) : tOp r (tCB rl (tCons te tNil)) (tC c) σ H Q := h
theorem seq_call {te : TE} {rl : List V → Hp → VK → Prop} {i : Nat} {r : TS} {D : Ends} {σ : List (Option V)} {H : Hp} (h : te σ H fun x H1 => rl [x] H1 fun y H2 => r D (σ.set i (some y)) H2) : tSeq (tAsg (tCB rl (tCons te tNil)) (gName i)) r D σ H := h
theorem dec_int (a b : Int) : decide (V.int a = V.int b) = decide (a = b) := by
  by_cases h : a = b
  · subst h
    simp
  · rw [decide_eq_false h]
    exact decide_eq_false fun z => h (V.int.inj z)

section
variable {P : Program} {w : World} {K : PySem.W.Frag} {mg : Str → Option Value} {base : Heap}

/-! ### the comprehensions of _law_short -/
/-- the entries' costs -/
theorem te_costs {σ : List (Option V)} {H : Hp} {R : Addr} {es : List Addr} {rs : List (List Bool × Int)} {Q : VK} (h3 : σ[3]? = some (some (.ref R))) (hj : ∀ v : V, ((wipe σ [8]).set 8 (some v))[8]? = some (some v) ∧ wipe ((wipe σ [8]).set 8 (some v)) [8] = wipe σ [8])
    (hR : H R = some (.lst (es.map V.ref))) (hE : Paired (EntryAt H) es rs) (hz : rs.length ≤ 1000) (q : ∀ (H' : Hp) (D : Addr), Same H H' → H D = none → H' D = some (.lst ((rs.map (·.2)).map V.int)) → Q (.ref D) H') :
    tLc (iList K (tVar 3)) (gName 8) tYes (tOp (rIxL K) (tVar 8) (tC (.int 1))) [8] σ H Q := by
  refine ⟨.ref R, h3, R, rfl, ⟨_, .inl (.inl hR)⟩, fun D nD => ?_⟩
  have nRD : R ≠ D := ne_of_none hR nD
  have hlen := hE.length
  refine lc_list (K := K) (a := R) (xs := es.map V.ref) (fun i H' => Same H H' ∧ H' R = some (.lst (es.map V.ref)) ∧ H' D = some (.lst (((rs.take i).map (·.2)).map V.int)))
    ⟨same_new nD, by rw [upd_ne nRD]; exact hR, upd_same⟩ (fun i H' _ h => .inl (.inl h.2.1)) ?_ ?_
  · rintro i y H' hi ⟨sm, hR', hD⟩
    obtain ⟨e, rfl, ee, hlt⟩ := item_ref hi
    obtain ⟨x, ex, r, he, hr⟩ := paired_at hE ee
    have he' := sm _ _ he
    refine ⟨(hj _).2, .ref e, (hj _).1, e, _, 1, .int x.2, rfl, rfl, .inl (.inl he'), atI_nat (j := 1) rfl, _, hD, ?_, same_put sm nD, ?_, ?_⟩
    · rw [List.length_map, List.length_map, List.length_take]
      exact small1000 (by omega)
    · rw [upd_ne nRD]
      exact hR'
    · rw [upd_same, List.take_add_one, ex, List.map_append, List.map_append]
      rfl
  · rintro H' ⟨sm, hR', hD⟩
    rw [List.length_map, hlen, List.take_length] at hD
    exact q H' D sm nD hD
def RowIs (H : Hp) (r : Addr) (x : List Bool) : Prop := H r = some (.lst (x.map V.bl))
/-- the rows of least cost -/
theorem te_best {σ : List (Option V)} {H : Hp} {R : Addr} {L : Int} {es : List Addr} {rs : List (List Bool × Int)} {Q : VK} (h3 : σ[3]? = some (some (.ref R))) (hj : ∀ v : V, ((wipe σ [8]).set 8 (some v))[8]? = some (some v) ∧ ((wipe σ [8]).set 8 (some v))[4]? = some (some (.int L)) ∧ wipe ((wipe σ [8]).set 8 (some v)) [8] = wipe σ [8])
    (hR : H R = some (.lst (es.map V.ref))) (hE : Paired (EntryAt H) es rs) (hz : rs.length ≤ 1000) (q : ∀ (H' : Hp) (D : Addr) (bs : List Addr), Same H H' → H D = none → H' D = some (.lst (bs.map V.ref)) → Paired (RowIs H') bs ((rs.filter fun e => decide (e.2 = L)).map (·.1)) → Q (.ref D) H') :
    tLc (iList K (tVar 3)) (gName 8) (tTest (tOp rEq (tOp (rIxL K) (tVar 8) (tC (.int 1))) (tVar 4))) (tOp (rIxL K) (tVar 8) (tC (.int 0))) [8] σ H Q := by
  refine ⟨.ref R, h3, R, rfl, ⟨_, .inl (.inl hR)⟩, fun D nD => ?_⟩
  have nRD : R ≠ D := ne_of_none hR nD
  have hlen := hE.length
  refine lc_list (K := K) (a := R) (xs := es.map V.ref) (fun i H' => Same H H' ∧ H' R = some (.lst (es.map V.ref)) ∧ ∃ bs : List Addr, H' D = some (.lst (bs.map V.ref)) ∧ bs.length ≤ i ∧ Paired (fun r x => H r = some (.lst (x.map V.bl))) bs (((rs.take i).filter fun e => decide (e.2 = L)).map (·.1)))
    ⟨same_new nD, by rw [upd_ne nRD]; exact hR, [], upd_same, Nat.zero_le _, .nil⟩ (fun i H' _ h => .inl (.inl h.2.1)) ?_ ?_
  · rintro i y H' hi ⟨sm, hR', bs, hD, hb, hP⟩
    obtain ⟨e, rfl, ee, hlt⟩ := item_ref hi
    obtain ⟨x, ex, r, he, hr⟩ := paired_at hE ee
    have he' := sm _ _ he
    refine ⟨(hj _).2.2, .ref e, (hj _).1, e, _, 1, .int x.2, rfl, rfl, .inl (.inl he'), atI_nat (j := 1) rfl, .int L, (hj _).2.1, rfl, _, rfl, ite2 (fun h => ?_) (fun h => ?_)⟩
    · rw [dec_int] at h
      refine ⟨.ref e, (hj _).1, e, _, 0, .ref r, rfl, rfl, .inl (.inl he'), atI_nat (j := 0) rfl, _, hD, ?_, same_put sm nD, ?_, bs ++ [r], ?_, ?_, ?_⟩
      · rw [List.length_map]
        exact small1000 (by omega)
      · rw [upd_ne nRD]
        exact hR'
      · rw [upd_same, List.map_append]
        rfl
      · rw [List.length_append]
        exact Nat.succ_le_succ hb
      · rw [List.take_add_one, ex, List.filter_append, List.map_append]
        refine paired_app hP ?_
        show Paired (fun (r : Addr) (x : List Bool) => H r = some (.lst (x.map V.bl))) [r] ((([x] : List (List Bool × Int)).filter fun e : List Bool × Int => decide (e.2 = L)).map fun z : List Bool × Int => z.1)
        rw [List.filter_cons, if_pos h]
        exact .cons hr .nil
    · rw [dec_int] at h
      refine ⟨sm, hR', bs, hD, by omega, ?_⟩
      rw [List.take_add_one, ex, List.filter_append]
      show Paired (fun (r : Addr) (x : List Bool) => H r = some (.lst (x.map V.bl))) bs (((rs.take i).filter (fun e : List Bool × Int => decide (e.2 = L)) ++ ([x] : List (List Bool × Int)).filter fun e : List Bool × Int => decide (e.2 = L)).map fun z : List Bool × Int => z.1)
      rw [List.filter_cons, if_neg h]
      show Paired (fun (r : Addr) (x : List Bool) => H r = some (.lst (x.map V.bl))) bs (((rs.take i).filter (fun e : List Bool × Int => decide (e.2 = L)) ++ []).map fun z : List Bool × Int => z.1)
      rw [List.append_nil]
      exact hP
  · rintro H' ⟨sm, hR', bs, hD, hb, hP⟩
    rw [List.length_map, hlen, List.take_length] at hP
    exact q H' D bs sm nD hD (hP.mono fun _ _ h => sm _ _ h)
/-- the rows with f -/
theorem te_count {tt : TT} {f : List Bool → Bool} {σ : List (Option V)} {H : Hp} {R : Addr} {bs : List Addr} {B : List (List Bool)} {Q : VK} (h5 : σ[5]? = some (some (.ref R))) (hj : ∀ v : V, ((wipe σ [9]).set 9 (some v))[9]? = some (some v) ∧ wipe ((wipe σ [9]).set 9 (some v)) [9] = wipe σ [9])
    (ht : ∀ (r : Addr) (x : List Bool) (H' : Hp) (Q' : Bool → Hp → Prop), H' r = some (.lst (x.map V.bl)) → x ∈ B → Q' (f x) H' → tt ((wipe σ [9]).set 9 (some (.ref r))) H' Q')
    (hR : H R = some (.lst (bs.map V.ref))) (hE : Paired (RowIs H) bs B) (hz : B.length ≤ 1000) (q : ∀ (H' : Hp) (D : Addr) (l : List V), Same H H' → H D = none → H' D = some (.lst l) → l.length = (B.filter f).length → Q (.ref D) H') :
    tLc (iList K (tVar 5)) (gName 9) tt (tVar 9) [9] σ H Q := by
  refine ⟨.ref R, h5, R, rfl, ⟨_, .inl (.inl hR)⟩, fun D nD => ?_⟩
  have nRD : R ≠ D := ne_of_none hR nD
  have hlen := hE.length
  refine lc_list (K := K) (a := R) (xs := bs.map V.ref) (fun i H' => Same H H' ∧ H' R = some (.lst (bs.map V.ref)) ∧ ∃ l : List V, H' D = some (.lst l) ∧ l.length ≤ i ∧ l.length = ((B.take i).filter f).length)
    ⟨same_new nD, by rw [upd_ne nRD]; exact hR, [], upd_same, Nat.zero_le _, rfl⟩ (fun i H' _ h => .inl (.inl h.2.1)) ?_ ?_
  · rintro i y H' hi ⟨sm, hR', l, hD, hl, hl2⟩
    obtain ⟨r, rfl, ee, hlt⟩ := item_ref hi
    obtain ⟨x, ex, hr⟩ := paired_at hE ee
    have hr' : H' r = some (.lst (x.map V.bl)) := sm _ _ hr
    refine ⟨(hj _).2, ht r x H' _ hr' (List.mem_of_getElem? ex) (ite2 (fun h => ?_) (fun h => ?_))⟩
    · refine ⟨.ref r, (hj _).1, l, hD, small1000 (by omega), same_put sm nD, ?_, l ++ [.ref r], upd_same, ?_, ?_⟩
      · rw [upd_ne nRD]
        exact hR'
      · rw [List.length_append]
        exact Nat.succ_le_succ hl
      · rw [List.take_add_one, ex, List.filter_append, List.length_append, List.length_append, hl2]
        show _ = _ + ([x].filter f).length
        rw [List.filter_cons, if_pos h]
        rfl
    · refine ⟨sm, hR', l, hD, by omega, ?_⟩
      rw [List.take_add_one, ex, List.filter_append, List.length_append, hl2]
      show _ = _ + ([x].filter f).length
      rw [List.filter_cons, if_neg h]
      rfl
  · rintro H' ⟨sm, hR', l, hD, hl, hl2⟩
    rw [List.length_map, hlen, List.take_length] at hl2
    exact q H' D l sm nD hD hl2

/-- a truth value for each place -/
theorem te_places {te : TE} {σ : List (Option V)} {H : Hp} {a : Addr} {ws : List Int} {E : List Bool} {Q : VK} (h1 : σ[1]? = some (some (.ref a))) (hw : ∀ v : V, wipe ((wipe σ [10]).set 10 (some v)) [10] = wipe σ [10]) (hS : SqL K H a (ws.map V.int)) (hlen : ws.length ≤ 100) (hE : E.length = ws.length)
    (turn : ∀ (i : Nat) (b : Bool) (H' : Hp) (Q' : VK), E[i]? = some b → Same H H' → (∀ H2 : Hp, Same H' H2 → Q' (.bl b) H2) → te ((wipe σ [10]).set 10 (some (.int (0 + (i : Int))))) H' Q')
    (q : ∀ (H' : Hp) (D : Addr), Same H H' → H D = none → H' D = some (.lst (E.map V.bl)) → Q (.ref D) H') :
    tLc (iRng1 (tCons (tCB (fun xs H Q => ∃ p ys, xs = [.ref p] ∧ (SqL K H p ys ∨ SqT K H p ys) ∧ Q (.int ys.length) H) (tCons (tVar 1) tNil)) tNil)) (gName 10) tYes te [10] σ H Q := by
  refine ⟨.ref a, h1, a, _, rfl, .inl hS, _, rfl, ?_, ?_, fun D nD => ?_⟩
  · rw [List.length_map]
    omega
  · rw [List.length_map]
    omega
  refine lc_range (n := (ws.map V.int).length) (fun i H' => Same H H' ∧ H' D = some (.lst ((E.take i).map V.bl))) ⟨same_new nD, upd_same⟩ ?_ ?_
  · rintro i H' hi ⟨sm, hD⟩
    rw [List.length_map] at hi
    have e : E[i]? = some E[i] := List.getElem?_eq_getElem (by omega)
    refine ⟨hw _, yes_then (turn i _ H' _ e sm fun H2 sm2 => ?_)⟩
    refine ⟨_, sm2 _ _ hD, ?_, same_put (sm.trans sm2) nD, ?_⟩
    · rw [List.length_map, List.length_take]
      exact small1000 (by omega)
    · rw [upd_same, List.take_add_one, e, List.map_append]
      rfl
  · rintro H' ⟨sm, hD⟩
    rw [List.length_map, ← hE, List.take_length] at hD
    exact q H' D sm nD hD

/-! ### _law_short -/
abbrev nShort : List Str := ["_law_start", "_law_weights", "_law_price_here", "_law_rows_here", "_law_least", "_law_best", "_law_every", "_law_some_here", "_law_entry", "_law_row", "_law_place"]
abbrev scEvery : Scope := relS (lcScope ((defBody sShort).getD 3 (.Pass ⟨0, 0, 0, 0⟩))) (defScope sShort)
abbrev scSomeHere : Scope := relS (lcScope ((defBody sShort).getD 4 (.Pass ⟨0, 0, 0, 0⟩))) (defScope sShort)
theorem scShort : FnScope nShort ["_law_start", "_law_weights", "_law_price_here"] (defScope sShort) := ⟨rfl, rfl, rfl, by decide +kernel, rfl, by decide +kernel, by decide +kernel⟩
theorem ok_short {f : Addr} {fd : FuncData} (F : Fun K "_law_short" "_law_short" sShort f fd) (B : Bl mg) (C__law_rows : Cal P w K mg base 2 "_law_rows" ["_law_start", "_law_weights", "_law_price_here"] (spRows K)) :
    FnOk P w K mg base CX0 3 f fd ["_law_start", "_law_weights", "_law_price_here"] (spShort K) := by
  refine F.ok scShort (fun vs H Q E h => ?_) (fun cdv A outer sh H vs Q E hr h => ?_)
  · obtain ⟨s, a, ws, p, rfl, _⟩ := h
    rfl
  · obtain ⟨s, a, ws, p, rfl, hS, hlen, hp, q⟩ := h
    refine ⟨_, (pss_cons (ps_set (i := 3) scShort.nd rfl (.inl rfl) (pe_cal C__law_rows (hr.mono (by decide)) (by rfl) (pa_cons (pv 0) (pa_cons (pv 1) (pa_cons (pv 2) pa_nil)))))
      (pss_cons (ps_set (i := 4) scShort.nd rfl (.inr rfl) (pe_callB (cr_min rfl) (by rfl) B.min (by decide +kernel) (pa_cons (pe_lc (own := [("_law_entry", 8)]) (g := gName 8) (tt := tYes) rfl scShort.nd (pi_l (K := K) rfl (pv 3)) (blkOk_by (N := nShort) (sc := defScope sShort) (own := [("_law_entry", 8)]) (by decide +kernel)) (fun _ _ _ _ _ => pg_name (i := 8) scShort.nd rfl (.inl rfl)) (fun _ _ _ _ _ => pts_nil) (fun _ _ _ _ _ => (pe_ix (ix_l (K := K) rfl) (pv 8) pe_int (fun _ _ => rfl)))) pa_nil)))
      (pss_cons (ps_set (i := 5) scShort.nd rfl (.inr rfl) (pe_lc (own := [("_law_entry", 8)]) (g := gName 8) rfl scShort.nd (pi_l (K := K) rfl (pv 3)) (blkOk_by (N := nShort) (sc := defScope sShort) (own := [("_law_entry", 8)]) (by decide +kernel)) (fun _ _ _ _ _ => pg_name (i := 8) scShort.nd rfl (.inl rfl)) (fun _ _ _ _ _ => pts_one (pt_cmpR op_eq (pe_ix (ix_l (K := K) rfl) (pv 8) pe_int (fun _ _ => rfl)) (pv 4) (nomark _))) (fun _ _ _ _ _ => (pe_ix (ix_l (K := K) rfl) (pv 8) pe_int (fun _ _ => rfl)))))
      (pss_cons (ps_setLc (i := 6) (own := [("_law_place", 10)]) (g := gName 10) (tt := tYes) rfl scShort.nd rfl rfl (sw_true rfl rfl rfl (by decide +kernel)) (pi_range1 (by rfl) B.range (pa_cons (pe_callB (len_l (K := K) rfl) (by rfl) B.len (by decide +kernel) (pa_cons (pv 1) pa_nil)) pa_nil)) (blkOk_by (N := nShort) (sc := defScope sShort) (own := [("_law_place", 10)]) (by decide +kernel)) (fun _ _ _ _ _ => pg_name (i := 10) scShort.nd rfl (.inr rfl)) (fun _ _ _ _ _ => pts_nil) (fun _ _ _ _ _ => (pe_cmpR op_eq (pe_callB (len_l (K := K) rfl) (by rfl) B.len (by decide +kernel) (pa_cons (pe_lc (own := [("_law_row", 9)]) (g := gName 9) rfl scShort.nd (pi_l (K := K) rfl (pv 5)) (blkOk_by (N := nShort) (sc := scEvery) (own := [("_law_row", 9)]) (by decide +kernel)) (fun _ _ _ _ _ => pg_name (i := 9) scShort.nd rfl (.inl rfl)) (fun _ _ _ _ _ => pts_one (pt_not (pt_val (pe_ix (ix_l (K := K) rfl) (pv 9) (pv 10) (fun _ _ => rfl))))) (fun _ _ _ _ _ => (pv 9))) pa_nil)) pe_int (nomark _))))
      (pss_cons (ps_setLc (i := 7) (own := [("_law_place", 10)]) (g := gName 10) (tt := tYes) rfl scShort.nd rfl rfl (sw_true rfl rfl rfl (by decide +kernel)) (pi_range1 (by rfl) B.range (pa_cons (pe_callB (len_l (K := K) rfl) (by rfl) B.len (by decide +kernel) (pa_cons (pv 1) pa_nil)) pa_nil)) (blkOk_by (N := nShort) (sc := defScope sShort) (own := [("_law_place", 10)]) (by decide +kernel)) (fun _ _ _ _ _ => pg_name (i := 10) scShort.nd rfl (.inr rfl)) (fun _ _ _ _ _ => pts_nil) (fun _ _ _ _ _ => (pe_cmpR op_gt (pe_callB (len_l (K := K) rfl) (by rfl) B.len (by decide +kernel) (pa_cons (pe_lc (own := [("_law_row", 9)]) (g := gName 9) rfl scShort.nd (pi_l (K := K) rfl (pv 5)) (blkOk_by (N := nShort) (sc := scSomeHere) (own := [("_law_row", 9)]) (by decide +kernel)) (fun _ _ _ _ _ => pg_name (i := 9) scShort.nd rfl (.inl rfl)) (fun _ _ _ _ _ => pts_one (pt_val (pe_ix (ix_l (K := K) rfl) (pv 9) (pv 10) (fun _ _ => rfl)))) (fun _ _ _ _ _ => (pv 9))) pa_nil)) pe_int (nomark _))))
      (pss_one (ps_ret (pe_lst (pa_cons (pv 4) (pa_cons (pv 6) (pa_cons (pv 7) pa_nil))))))))))), ?_⟩
    have hpow : (rows s p ws).length = 2 ^ ws.length := by
      unfold rows
      rw [rowsFrom_len]
      simp
    have hN : (rows s p ws).length ≤ 256 := by
      rw [hpow]
      exact Nat.pow_le_pow_right (by decide) (show ws.length ≤ 8 from hlen)
    have hN0 : 0 < (rows s p ws).length := by
      rw [hpow]
      exact Nat.pow_pos (by decide)
    refine ⟨.bl s, rfl, .ref a, rfl, .int p, rfl, s, a, ws, p, rfl, hS, hlen, fun H1 R sm1 nR ⟨es, hR, hE⟩ => ?_⟩
    -- the least cost
    refine g_then (seq_call (te_costs rfl (fun v => ⟨rfl, rfl⟩) hR hE (by omega) fun H2 D2 sm2 nD2 hD2 => ?_))
    refine ⟨D2, _, rfl, .inl (.inl hD2), by rw [List.length_map]; exact hN0, fun m hm hle => ?_⟩
    have em : m = lo p s ws := least_of hm hle
    subst em
    have hR2 := sm2 _ _ hR
    have hE2 : Paired (EntryAt H2) es (rows s p ws) := hE.mono fun _ _ h => h.same sm2
    -- the best rows
    refine seq_set (te_best (L := lo p s ws) rfl (fun v => ⟨rfl, rfl, rfl⟩) hR2 hE2 (by omega) fun H3 D3 bs sm3 nD3 hD3 hB3 => ?_)
    have sm13 := (sm1.trans sm2).trans sm3
    have hBz : (best s p ws).length ≤ 1000 := by
      have := List.length_filter_le (fun e : List Bool × Int => decide (e.2 = lo p s ws)) (rows s p ws)
      unfold best
      rw [List.length_map]
      omega
    have hB : Paired (RowIs H3) bs (best s p ws) := hB3
    have row_at : ∀ {x : List Bool} {i : Nat}, x ∈ best s p ws → i < ws.length → atI (x.map V.bl) (0 + (i : Int)) = some (.bl (x.getD i false)) := fun {x i} hx hi => by
      rw [Int.zero_add]
      exact atI_nat (at_bl (at_some (by rw [(mem_best.mp hx).1]; exact hi)))
    have sum_at : ∀ {i : Nat}, i < ws.length → ∃ g, (sums p 0 (m1 s p) ws)[i]? = some g := fun {i} hi => ⟨_, List.getElem?_eq_getElem (by rw [sums_len]; exact hi)⟩
    refine seq_set (te_places (E := lrow p s ws) rfl (fun v => rfl) (sm13.seq hS) (by omega) (lrow_len p s ws) (fun i b H' Q' ei sm' k => ?_) fun H4 D4 sm4 nD4 hD4 => ?_)
    · have hi : i < ws.length := by
        have := (List.getElem?_eq_some_iff.mp ei).1
        rw [lrow_len] at this
        exact this
      obtain ⟨g, eg⟩ := sum_at hi
      have eb : b = decide (0 < g) := by
        unfold lrow at ei
        rw [List.getElem?_map, eg] at ei
        exact (Option.some.inj ei).symm
      refine cmp_call (te_count (f := fun x => !(x.getD i false)) rfl (fun v => ⟨rfl, rfl⟩) (fun r x H2 Q2 hr hx q2 => ?_) (sm' _ _ hD3) (hB.mono fun _ _ h => sm' _ _ h) hBz fun H2 D l sm2 nD hD hl => ?_)
      · exact ⟨.ref r, rfl, .int (0 + i), rfl, r, _, _, _, rfl, rfl, .inl (.inl hr), row_at hx hi, _, rfl, q2⟩
      · refine ⟨D, l, rfl, .inl (.inl (.inl hD)), rfl, ?_⟩
        rw [dec_int, hl]
        have e := every_is hp s ws i g eg
        unfold everyAt at e
        rw [e, ← eb]
        exact k _ sm2
    have sm14 := sm13.trans sm4
    refine seq_set (te_places (E := grow p s ws) rfl (fun v => rfl) (sm14.seq hS) (by omega) (grow_len p s ws) (fun i b H' Q' ei sm' k => ?_) fun H5 D5 sm5 nD5 hD5 => ?_)
    · have hi : i < ws.length := by
        have := (List.getElem?_eq_some_iff.mp ei).1
        rw [grow_len] at this
        exact this
      obtain ⟨g, eg⟩ := sum_at hi
      have eb : b = decide (0 ≤ g) := by
        unfold grow at ei
        rw [List.getElem?_map, eg] at ei
        exact (Option.some.inj ei).symm
      refine cmp_call (te_count (f := fun x => x.getD i false) rfl (fun v => ⟨rfl, rfl⟩) (fun r x H2 Q2 hr hx q2 => ?_) (sm' _ _ (sm4 _ _ hD3)) (hB.mono fun _ _ h => sm' _ _ (sm4 _ _ h)) hBz fun H2 D l sm2 nD hD hl => ?_)
      · exact ⟨.ref r, rfl, .int (0 + i), rfl, r, _, _, _, rfl, rfl, .inl (.inl hr), row_at hx hi, _, rfl, q2⟩
      · refine ⟨D, l, rfl, .inl (.inl (.inl hD)), _, 0, rfl, rfl, ?_⟩
        have e := some_is hp s ws i g eg
        unfold someAt at e
        rw [hl]
        show Q' (V.bl (decide ((0 : Int) < _))) _
        rw [e, ← eb]
        exact k _ sm2
    refine ⟨.int (lo p s ws), rfl, .ref D4, rfl, .ref D5, rfl, by show 3 ≤ sizeLine; decide, fun d nd => ?_⟩
    have sm15 := sm14.trans sm5
    have sm6 := same_new (u := .lst [.int (lo p s ws), .ref D4, .ref D5]) nd
    exact q _ d (sm15.trans sm6) (sm15.free nd) ⟨D4, D5, upd_same, sm6 _ _ (sm5 _ _ hD4), sm6 _ _ hD5⟩

/-! ### _law_long -/
abbrev nLong : List Str := ["_law_start", "_law_weights", "_law_price_here", "_law_gaps_here", "_law_gap"]
theorem scLong : FnScope nLong ["_law_start", "_law_weights", "_law_price_here"] (defScope sLong) := ⟨rfl, rfl, rfl, by decide +kernel, rfl, by decide +kernel, by decide +kernel⟩
theorem ok_long {f : Addr} {fd : FuncData} (F : Fun K "_law_long" "_law_long" sLong f fd) (C__law_gaps : Cal P w K mg base 1 "_law_gaps" ["_law_start", "_law_weights", "_law_price_here"] (spGaps K)) (C__law_solo : Cal P w K mg base 1 "_law_solo" ["_law_start", "_law_weights", "_law_price_here"] (spSolo K)) :
    FnOk P w K mg base CX0 2 f fd ["_law_start", "_law_weights", "_law_price_here"] (spLong K) := by
  refine F.ok scLong (fun vs H Q E h => ?_) (fun cdv A outer sh H vs Q E hr h => ?_)
  · obtain ⟨s, a, ws, p, rfl, _⟩ := h
    rfl
  · obtain ⟨s, a, ws, p, rfl, hS, hlen, hp, q⟩ := h
    refine ⟨_, (pss_cons (ps_set (i := 3) scLong.nd rfl (.inl rfl) (pe_cal C__law_gaps (hr.mono (by decide)) (by rfl) (pa_cons (pv 0) (pa_cons (pv 1) (pa_cons (pv 2) pa_nil)))))
      (pss_one (ps_ret (pe_lst (pa_cons (pe_cal C__law_solo (hr.mono (by decide)) (by rfl) (pa_cons (pv 0) (pa_cons (pv 1) (pa_cons (pv 2) pa_nil)))) (pa_cons (pe_lc (own := [("_law_gap", 4)]) (g := gName 4) (tt := tYes) rfl scLong.nd (pi_l (K := K) rfl (pv 3)) (blkOk_by (N := nLong) (sc := defScope sLong) (own := [("_law_gap", 4)]) (by decide +kernel)) (fun _ _ _ _ _ => pg_name (i := 4) scLong.nd rfl (.inl rfl)) (fun _ _ _ _ _ => pts_nil) (fun _ _ _ _ _ => (pe_cmpR op_gt (pv 4) pe_int (nomark _)))) (pa_cons (pe_lc (own := [("_law_gap", 4)]) (g := gName 4) (tt := tYes) rfl scLong.nd (pi_l (K := K) rfl (pv 3)) (blkOk_by (N := nLong) (sc := defScope sLong) (own := [("_law_gap", 4)]) (by decide +kernel)) (fun _ _ _ _ _ => pg_name (i := 4) scLong.nd rfl (.inl rfl)) (fun _ _ _ _ _ => pts_nil) (fun _ _ _ _ _ => (pe_cmpR op_ge (pv 4) pe_int (nomark _)))) pa_nil))))))), ?_⟩
    refine ⟨.bl s, rfl, .ref a, rfl, .int p, rfl, s, a, ws, p, rfl, hS, hlen, hp, fun H1 c sm1 nc hc => ?_⟩
    have hg : (sums p 0 (m1 s p) ws).length ≤ 100 := by
      rw [sums_len]
      exact hlen
    refine ⟨.bl s, rfl, .ref a, rfl, .int p, rfl, s, a, ws, p, rfl, sm1.seq hS, ?_⟩
    rw [solo_start hp]
    refine ⟨.ref c, rfl, c, rfl, ⟨_, .inl (.inl hc)⟩, fun D2 nD2 => lc_signs (K := K) (f := fun i j => decide (j < i)) (fun g => ⟨rfl, rfl⟩) hc nD2 hg fun H2 sm2 hD2 => ?_⟩
    have hc2 := sm2 _ _ hc
    refine ⟨.ref c, rfl, c, rfl, ⟨_, .inl (.inl hc2)⟩, fun D3 nD3 => lc_signs (K := K) (f := fun i j => decide (j ≤ i)) (fun g => ⟨rfl, rfl⟩) hc2 nD3 hg fun H3 sm3 hD3 => ?_⟩
    refine ⟨by show 3 ≤ sizeLine; decide, fun d nd => ?_⟩
    have sm13 := (sm1.trans sm2).trans sm3
    have sm4 := same_new (u := .lst [.int (lo p s ws), .ref D2, .ref D3]) nd
    exact q _ d (sm13.trans sm4) (sm13.free nd) ⟨D2, D3, upd_same, sm4 _ _ (sm3 _ _ hD2), sm4 _ _ hD3⟩
end
end Lv
/-! repr of a list of ints, where no list's repr is under way; defs whose promise holds only there. -/
namespace Lv
open PySem PySem.Spec PyProof.Rows L2
/-- the text of a list of ints -/
def told (ns : List Int) : Str := PyData.shown (.list (ns.map PyData.int))
theorem told_ints : ∀ ns : List Int, PyData.shownAll (ns.map PyData.int) = ns.map fun n => (toString n : Str)
  | [] => rfl
  | n :: ns => by
    show PyData.shown (.int n) :: PyData.shownAll (ns.map PyData.int) = (toString n : Str) :: ns.map fun n => (toString n : Str)
    rw [told_ints ns]
    rfl
theorem ints_showable : ∀ ns : List Int, (∀ n ∈ ns, n.natAbs < 10 ^ 31) → PyData.showableAll (ns.map PyData.int) = true
  | [], _ => rfl
  | n :: ns, h => by
    have h1 := h n List.mem_cons_self
    have h2 : n.natAbs.log2 < 1920 := by
      by_cases z : n.natAbs = 0
      · rw [z]
        decide
      · refine (Nat.log2_lt z).mpr (Nat.lt_trans h1 ?_)
        exact Nat.lt_of_lt_of_le (show 10 ^ 31 < 2 ^ 110 by decide +kernel) (Nat.pow_le_pow_right (by decide) (by decide))
    show (decide (n.natAbs.log2 < 1920) && PyData.showableAll (ns.map PyData.int)) = true
    rw [decide_eq_true h2, ints_showable ns fun m hm => h m (List.mem_cons_of_mem _ hm)]
    rfl
theorem ints_noDict : ∀ ns : List Int, PyData.hasDictAll (ns.map PyData.int) = false
  | [] => rfl
  | n :: ns => by
    show (false || PyData.hasDictAll (ns.map PyData.int)) = false
    rw [ints_noDict ns]
    rfl
theorem sum_le_of {α : Type} (f : α → Nat) (c : Nat) : ∀ l : List α, (∀ x ∈ l, f x ≤ c) → (l.map f).sum ≤ l.length * c
  | [], _ => by simp
  | x :: l, h => by
    have h1 := h x List.mem_cons_self
    have h2 := sum_le_of f c l fun y hy => h y (List.mem_cons_of_mem _ hy)
    rw [List.map_cons, List.sum_cons, List.length_cons, Nat.succ_mul]
    omega
theorem told_len {ns : List Int} (hl : ns.length ≤ 100) (h : ∀ n ∈ ns, n.natAbs < 10 ^ 31) : (told ns).length ≤ sizeLine := by
  unfold told
  simp only [PyData.shown]
  rw [told_ints]
  have h1 := listText_len_le (ns.map fun n => (toString n : Str))
  have h2 := sum_le_of (fun n : Int => ((toString n : Str)).length) 32 ns fun n hn => by
    have e := int_text_length_le10 (k := 31) (by decide) (h n hn)
    show (Str.ofString (toString n)).length ≤ 32
    rw [PySem.ofString_length]
    exact e
  rw [List.map_map, List.length_map] at h1
  have h3 : (ns.map ((fun x : Str => x.length) ∘ fun n : Int => (toString n : Str))).sum = (ns.map fun n : Int => ((toString n : Str)).length).sum := rfl
  rw [sizeLine_eq]
  have h4 : ns.length * 32 ≤ 3200 := by omega
  omega
theorem ints_depth : ∀ ns : List Int, PyData.depthAll (ns.map PyData.int) = 0
  | [] => rfl
  | n :: ns => by
    show max 0 (PyData.depthAll (ns.map PyData.int)) = 0
    rw [ints_depth ns]
    rfl
section
variable {X : Cx}
theorem dp_ints {K : PySem.W.Frag} {H : Hp} : ∀ ns : List Int, DpAll K H (ns.map V.int) (ns.map PyData.int)
  | [] => .nil
  | n :: ns => .cons (.int n) (dp_ints ns)
def rRepr (K : PySem.W.Frag) : List V → Hp → VK → Prop := fun xs H Q => ∃ (a : Addr) (ns : List Int), xs = [.ref a] ∧ SqL K H a (ns.map V.int) ∧ ns.length ≤ 100 ∧ (∀ n ∈ ns, n.natAbs < 10 ^ 31) ∧ Q (.str (told ns)) H
theorem call_repr_ints (hg : X.A.guards = some []) (hu : X.A.units + 64 < cLine) : CallR X (.builtin "repr") (rRepr X.K) := by
  intro pins s σ H xs us Q I r h
  obtain ⟨a, ns, rfl, hs, hl, hb, q⟩ := h
  obtain ⟨as, rd⟩ := Dp.reads I (.list (ns.map PyData.int)) (.ref a) (.ref a) (.lst hs (dp_ints ns)) rfl
  rw [Vals.ref1 r]
  have hd := ints_depth ns
  refine repr_of_reads' rd (by simp only [PyData.showable]; exact ints_showable ns hb) (PyData.noDict_hsm (by simp only [PyData.hasDict]; exact ints_noDict ns)) hg ?_ (fun _ _ e => e) (fun h' u tk hk => ⟨.str (told ns), H, I.kept hk, ⟨u, rfl⟩, q⟩) (told_len hl hb)
  simp only [PyData.depth]
  omega
end
end Lv
/-! Defs whose promise holds where no list's repr is under way (A.guards = some []); their bodies, calls, and the law's end. -/
namespace Lv
open PySem PySem.Spec PyProof.Rows L2

section
variable (P : Program) (w : World) (K : PySem.W.Frag) (mg : Str → Option Value) (base : Heap)
/-- the promise sp, kept by the def at f wherever nothing guarded is under way -/
structure FnG (k : Nat) (f : Addr) (fd : FuncData) (ps : List Str) (sp : Sp) : Prop where
  len : ∀ vs H Q E, sp vs H Q E → vs.length = ps.length
  run : ∀ (A : Around) (outer : List Env) (s : Shared) (H : Hp) (args : Args) (us : List Value) (vs : List V) (Q : VK) (E : XK),
    A.guards = some [] → Room k A → Env0 P w K mg base A outer s H → BindsTo s fd args (ps.zip us) → Vals vs us → sp vs H Q E →
      codeAny (model P w) A (.call (.ref f) args) (CR CX0 outer P w H s Q E) s
structure CalG (k : Nat) (x : Str) (ps : List Str) (sp : Sp) : Prop where
  ex : ∃ (f : Addr) (fd : FuncData), FnG P w K mg base k f fd ps sp ∧ mg x = some (.ref f) ∧ PySem.W.keepIn K (.ref f) = true ∧ Binds K fd ps []
end

section
variable {P : Program} {w : World} {K : PySem.W.Frag} {mg : Str → Option Value} {base : Heap}
/-- a def's body keeps such a promise: the body is read with the knowledge that nothing guarded is under way -/
theorem FnG.of {x qual : Str} {st : Stmt} {f : Addr} {fd : FuncData} {N ps : List Str} {k : Nat} {sp : Sp} (F : Fun K x qual st f fd) (S : FnScope N ps (defScope st)) (len : ∀ vs H Q E, sp vs H Q E → vs.length = ps.length)
    (body : ∀ (cdv : Value) (A : Around) (outer : List Env) (s : Shared) (H : Hp) (vs : List V) (Q : VK) (E : XK), A.guards = some [] → Room k (A.deeper (envOfC qual (defScope st) s.heap.objs.size f cdv)) → sp vs H Q E →
      ∃ t, PSs (cxOf CX0 P w K mg base N qual (defScope st) f cdv A outer s H E).nox (defBody st) t ∧ t { nx := fun _ H' => Q .non H', rt := Q } (start N vs) H) :
    FnG P w K mg base (k + 1) f fd ps sp := by
  obtain ⟨oc, od, kV, doc, pm, an, cdv, ct, osl, rfl, lk, hcd⟩ := F.ex
  refine ⟨len, ?_⟩
  intro A outer s H args us vs Q E hg hr e0 hb hv hsp
  have hlen : vs.length = ps.length := len _ _ _ _ hsp
  -- what the module holds stands in this heap as well
  have kin : K.In s.heap := e0.mod.kin.keeps (fun b o z => (e0.bs b o z).1)
  have nolim : s.heap.NoLimit := e0.mod.nolimit.keeps (fun b o z => (e0.bs b o z).1)
  have kinds : ∀ y ∈ ps.zip us, (defScope st).names.lookup y.1 = some .local ∨
      ((defScope st).names.lookup y.1 = some .cell ∧ ((cellsFrom (s.heap.objs.size + 1) (defScope st).names []).lookup y.1).isSome = true) := by
    rintro ⟨n, v⟩ hy
    rcases S.par n (List.of_mem_zip hy).1 with z | z
    · exact Or.inl z
    · exact Or.inr ⟨z, PySem.W.cellsFrom_some _ _ _ (Or.inl z)⟩
  refine codeAny_call_function hr.depth (kin _ _ lk) rfl S.co S.gen rfl (PySem.W.codeRec_of kin hcd) (hb _ _ _ _ ?_)
  refine wpAny_newFunctionEnv_cells S.kind kinds ?_
  intro env henv s1 inC
  subst henv
  refine ⟨nolim.keeps inC.toInCall.keep, codeAny_func ?_⟩
  obtain ⟨t, ht, hq⟩ := body cdv A outer s H vs Q E hg (hr.deeper _) hsp
  have I := inv_start (CX := CX0) (E := E) S hr.hd e0 hlen hv inC
  refine wpAny_mono (ht.nox.run [] s1 (start N vs) H _ I hq) ?_ (fun e s' z => z)
  intro fl s' hs
  cases fl with
  | ret u =>
    obtain ⟨v, σ', H', J, rv, q⟩ := hs
    exact ⟨v, H', J.os, J.bare, J.base, J.hok, rv, q⟩
  | next =>
    obtain ⟨σ', H', J, q⟩ := hs
    exact ⟨V.non, H', J.os, J.bare, J.base, J.hok, rfl, q⟩
  | brk =>
    obtain ⟨_, _, _, z⟩ := hs
    exact z.elim
  | cont =>
    obtain ⟨_, _, _, z⟩ := hs
    exact z.elim
end

section
variable {X : Cx} {k : Nat} {x : Str} {ps : List Str} {sp : Sp} {p pos : Pos} {e : Expr} {es : List Expr} {t : TA}
/-- a call of such a def, from a body that knows that nothing guarded is under way -/
theorem pe_calG (C : CalG X.prog X.w X.K X.mg X.base k x ps sp) (hgd : X.A.guards = some []) (hr : Room k X.A) (hg : Gl X x) (ha : PA X (e :: es) t) (hdb : (x == ("__debug__" : Str)) = false := by decide)
    (he : starEach (e :: es) X.env = (false, eval e X.env) :: starEach es X.env := by rfl) (hpl : (backTo pos (starEach es X.env)).any (·.1) = false := by rfl) :
    PE X (.Call (.Name x p) (e :: es) [] pos) (tCall sp [] E0 t) := by
  obtain ⟨f, fd, F, hm, hk, hb⟩ := C.ex
  refine ⟨fun pins s σ H Q I h => wpAny_Call_Name_kw (ld_glob I hg hm ?_ hdb)⟩
  refine PySem.W.callWith_K (h₀ := X.base) I.ok.mod.kin hk (thn (ha.run pos pins s σ H _ I h) ?_) he hpl
  rintro us s1 ⟨vs, H1, I1, r, q⟩
  refine ⟨I1.kIn, ?_⟩
  have r2 : Vals (vs ++ []) (us ++ []) := r.append .nil
  have hl : (us ++ []).length = ps.length := r2.length.symm.trans (F.len _ _ _ _ q)
  refine wpAny_call (codeAny_mono (F.run X.A X.stack s1 H1 ⟨us, []⟩ (us ++ []) (vs ++ []) Q E0 hgd hr I1.env0 (hb s1 us I1.kIn hl) r2 q) ?_)
  intro res s' hq
  cases res with
  | error z => exact False.elim hq
  | ok fl =>
    cases fl with
    | ret u => exact I1.after hq
    | next => exact False.elim hq
    | brk => exact False.elim hq
    | cont => exact False.elim hq
end
end Lv
/-! _law_right: the program tells both rows, and again behind a change of its answers; both have the least cost. -/
namespace Lv
open PySem PySem.Spec PyProof.Rows L2
abbrev sRight : Stmt := tp 23
def spRight (K : PySem.W.Frag) : Sp := fun vs H Q _ => ∃ (s : Bool) (a : Addr) (ws : List Int) (p : Int) (d : Addr), vs = [.bl s, .ref a, .int p, .ref d] ∧ SqL K H a (ws.map V.int) ∧ ws.length ≤ 100 ∧ (∀ n ∈ ws, n.natAbs < 10 ^ 31) ∧ 0 ≤ p ∧
  DueAt H d (lo p s ws) (lrow p s ws) (grow p s ws) ∧ ∀ H' : Hp, Same H H' → Q (.bl true) H'
theorem ixN_zero {n : Nat} (h : 0 < n) : ixN n 0 = some 0 := by
  unfold ixN
  rw [if_pos (Int.le_refl 0), if_pos (by omega)]
  rfl
/-- a list that was appended to has a first item -/
theorem first_at {l : List Bool} {b : Bool} : ∃ c : Bool, atI (l.map V.bl ++ [V.bl b]) 0 = some (.bl c) ∧ ixN (l.map V.bl ++ [V.bl b]).length 0 = some 0 := by
  have h : 0 < (l.map V.bl ++ [V.bl b]).length := by
    rw [List.length_append, List.length_singleton]
    omega
  have e : ∃ c, (l.map V.bl ++ [V.bl b])[0]? = some (.bl c) := by
    cases l with
    | nil => exact ⟨b, rfl⟩
    | cons c l => exact ⟨c, rfl⟩
  obtain ⟨c, e⟩ := e
  exact ⟨c, atI_nat (j := 0) e, ixN_zero h⟩
section
variable {P : Program} {w : World} {K : PySem.W.Frag} {mg : Str → Option Value} {base : Heap}
abbrev nRight : List Str := ["_law_start", "_law_weights", "_law_price_here", "_law_due", "_law_mine", "_law_low", "_law_top", "_law_row"]
abbrev pRight : List Str := ["_law_start", "_law_weights", "_law_price_here", "_law_due"]
theorem scRight : FnScope nRight pRight (defScope sRight) := ⟨rfl, rfl, rfl, by decide +kernel, rfl, by decide +kernel, by decide +kernel⟩
theorem ok_right {f : Addr} {fd : FuncData} (F : Fun K "_law_right" "_law_right" sRight f fd) (B : Bl mg) (C_least_row : Cal P w K mg base 5 "least_row" ["start", "votes", "toggle"] (spLeast K)) (C_greatest_row : Cal P w K mg base 4 "greatest_row" ["start", "votes", "toggle"] (spGreat K))
    (C__law_sides : Cal P w K mg base 1 "_law_sides" ["_law_thing", "_law_due"] (spSides K)) (C__law_cost_of_row : Cal P w K mg base 1 "_law_cost_of_row" ["_law_start", "_law_weights", "_law_price_here", "_law_row"] (spCost K)) :
    FnG P w K mg base 6 f fd pRight (spRight K) := by
  refine FnG.of F scRight (fun vs H Q E h => ?_) (fun cdv A outer sh H vs Q E hgd hr h => ?_)
  · obtain ⟨s, a, ws, p, d, rfl, _⟩ := h
    rfl
  · obtain ⟨s, a, ws, p, d, rfl, hS, hlen, hb, hp, ⟨e, g, hd, he, hg⟩, q⟩ := h
    refine ⟨_, (pss_cons (ps_set (i := 4) scRight.nd rfl (.inl rfl) (pe_callTy call_list_of (by rfl) B.list (by decide +kernel) (pa_cons (pv 1) pa_nil)))
      (pss_cons (ps_set (i := 5) scRight.nd rfl (.inl rfl) (pe_cal C_least_row (hr.mono (by decide)) (by rfl) (pa_cons (pv 0) (pa_cons (pv 4) (pa_cons (pv 2) pa_nil)))))
      (pss_cons (ps_set (i := 6) scRight.nd rfl (.inl rfl) (pe_cal C_greatest_row (hr.mono (by decide)) (by rfl) (pa_cons (pv 0) (pa_cons (pv 4) (pa_cons (pv 2) pa_nil)))))
      (pss_cons (ps_if (PW.pt (pw_or (pt_not (pt_val (pe_cal C__law_sides (hr.mono (by decide)) (by rfl) (pa_cons (pv 5) (pa_cons (pe_ix (ix_l (K := K) rfl) (pv 3) pe_int (fun _ _ => rfl)) pa_nil))))) (pw_or1 (pt_not (pt_val (pe_cal C__law_sides (hr.mono (by decide)) (by rfl) (pa_cons (pv 6) (pa_cons (pe_ix (ix_l (K := K) rfl) (pv 3) pe_int (fun _ _ => rfl)) pa_nil)))))))) (pss_one (ps_ret pe_bl)) pss_nil)
      (pss_cons (ps_for PassesOwn.never rfl (pi_l (K := K) rfl (pe_lst (pa_cons (pv 5) (pa_cons (pv 6) pa_nil)))) (pg_name (i := 7) scRight.nd rfl (.inl rfl)) (pss_one (ps_if (pt_cmpR op_ne (pe_cal C__law_cost_of_row (hr.mono (by decide)) (by rfl) (pa_cons (pv 0) (pa_cons (pv 1) (pa_cons (pv 2) (pa_cons (pv 7) pa_nil))))) (pe_ix (ix_l (K := K) rfl) (pv 3) pe_int (fun _ _ => rfl)) (nomark _)) (pss_one (ps_ret pe_bl)) pss_nil)))
      (pss_cons (ps_expr (pe_bm PySem.F.plainAttrs_list PySem.F.slot_list_append PySem.F.type_list_append mt_append (pv 5) (pa_cons pe_bl pa_nil)))
      (pss_cons (ps_expr (pe_bm PySem.F.plainAttrs_list PySem.F.slot_list_append PySem.F.type_list_append mt_append (pv 6) (pa_cons pe_bl pa_nil)))
      (pss_cons (ps_asg (pe_not (pe_ix (ix_l (K := K) rfl) (pv 5) pe_int (fun _ _ => rfl))) (pg_sub (pv 5) pe_int set_list))
      (pss_cons (ps_asg (pe_not (pe_ix (ix_l (K := K) rfl) (pv 6) pe_int (fun _ _ => rfl))) (pg_sub (pv 6) pe_int set_list))
      (pss_cons (ps_if (pt_not (pt_val (pe_cal C__law_sides (hr.mono (by decide)) (by rfl) (pa_cons (pe_cal C_least_row (hr.mono (by decide)) (by rfl) (pa_cons (pv 0) (pa_cons (pv 4) (pa_cons (pv 2) pa_nil)))) (pa_cons (pe_ix (ix_l (K := K) rfl) (pv 3) pe_int (fun _ _ => rfl)) pa_nil))))) (pss_one (ps_ret pe_bl)) pss_nil)
      (pss_one (ps_ret (pe_and (pe_cal C__law_sides (hr.mono (by decide)) (by rfl) (pa_cons (pe_cal C_greatest_row (hr.mono (by decide)) (by rfl) (pa_cons (pv 0) (pa_cons (pv 4) (pa_cons (pv 2) pa_nil)))) (pa_cons (pe_ix (ix_l (K := K) rfl) (pv 3) pe_int (fun _ _ => rfl)) pa_nil))) (pe_one (pe_cmpR op_eq (pe_callB (call_repr_ints hgd hr.units) (by rfl) B.repr (by decide +kernel) (pa_cons (pv 4) pa_nil)) (pe_callB (call_repr_ints hgd hr.units) (by rfl) B.repr (by decide +kernel) (pa_cons (pv 1) pa_nil)) (nomark _)))))))))))))))), ?_⟩
    have d0 : atI [V.int (lo p s ws), V.ref e, V.ref g] 0 = some (.int (lo p s ws)) := atI_nat (j := 0) rfl
    have d1 : atI [V.int (lo p s ws), V.ref e, V.ref g] 1 = some (.ref e) := atI_nat (j := 1) rfl
    have d2 : atI [V.int (lo p s ws), V.ref e, V.ref g] 2 = some (.ref g) := atI_nat (j := 2) rfl
    have ll : (lrow p s ws).length ≤ 100 := by
      rw [lrow_len]
      exact hlen
    have lg : (grow p s ws).length ≤ 100 := by
      rw [grow_len]
      exact hlen
    -- mine = list(weights)
    refine ⟨.ref a, rfl, a, _, rfl, .inl hS, fun l nl => ?_⟩
    have s1 : Same H (upd H l (.lst (ws.map V.int))) := same_new nl
    have hl1 : (upd H l (.lst (ws.map V.int))) l = some (.lst (ws.map V.int)) := upd_same
    generalize hH1 : upd H l (.lst (ws.map V.int)) = H1 at s1 hl1
    -- low, top
    refine ⟨.bl s, rfl, .ref l, rfl, .int p, rfl, s, l, ws, p, rfl, .inl (.inl hl1), hlen, fun H2 x2 sm2 n2 h2 => ?_⟩
    refine ⟨.bl s, rfl, .ref l, rfl, .int p, rfl, s, l, ws, p, rfl, .inl (.inl (sm2 _ _ hl1)), hlen, fun H3 x3 sm3 n3 h3 => ?_⟩
    have n3' : H1 x3 = none := sm2.free n3
    have n23 : x2 ≠ x3 := ne_of_none h2 n3
    have s13 := sm2.trans sm3
    have h2' := sm3 _ _ h2
    have dAt : ∀ {H' : Hp}, Same H1 H' → H' d = some (.lst [.int (lo p s ws), .ref e, .ref g]) := fun sm => sm _ _ (s1 _ _ hd)
    have eAt : ∀ {H' : Hp}, Same H1 H' → H' e = some (.lst ((lrow p s ws).map V.bl)) := fun sm => sm _ _ (s1 _ _ he)
    have gAt : ∀ {H' : Hp}, Same H1 H' → H' g = some (.lst ((grow p s ws).map V.bl)) := fun sm => sm _ _ (s1 _ _ hg)
    have aAt : ∀ {H' : Hp}, Same H1 H' → SqL K H' a (ws.map V.int) := fun sm => sm.seq (s1.seq hS)
    have lAt : ∀ {H' : Hp}, Same H1 H' → SqL K H' l (ws.map V.int) := fun sm => .inl (.inl (sm _ _ hl1))
    -- both are just the due ones
    refine ⟨.ref x2, rfl, .ref d, rfl, d, _, 1, .ref e, rfl, rfl, .inl (.inl (dAt s13)), d1, x2, e, _, rfl, h2', eAt s13, ll, true, rfl, iteF ?_⟩
    refine ⟨.ref x3, rfl, .ref d, rfl, d, _, 2, .ref g, rfl, rfl, .inl (.inl (dAt s13)), d2, x3, g, _, rfl, h3, gAt s13, lg, true, rfl, iteF ?_⟩
    -- both have the least cost
    refine ⟨.ref x2, rfl, .ref x3, rfl, by show 2 ≤ sizeLine; decide, fun t nt => ?_⟩
    have s14 : Same H1 (upd H3 t (.lst [.ref x2, .ref x3])) := s13.trans (same_new nt)
    have ht4 : (upd H3 t (.lst [.ref x2, .ref x3])) t = some (.lst [.ref x2, .ref x3]) := upd_same
    have h24 : (upd H3 t (.lst [.ref x2, .ref x3])) x2 = some (.lst ((lrow p s ws).map V.bl)) := same_new nt _ _ h2'
    have h34 : (upd H3 t (.lst [.ref x2, .ref x3])) x3 = some (.lst ((grow p s ws).map V.bl)) := same_new nt _ _ h3
    generalize hH4 : upd H3 t (.lst [.ref x2, .ref x3]) = H4 at s14 ht4 h24 h34
    refine ⟨t, rfl, ⟨_, .inl (.inl ht4)⟩, for_list (K := K) (a := t) (xs := [.ref x2, .ref x3]) (fun i σ H' => (∃ v, σ = [some (.bl s), some (.ref a), some (.int p), some (.ref d), some (.ref l), some (.ref x2), some (.ref x3), v]) ∧ H' = H4)
      ⟨⟨none, rfl⟩, rfl⟩ (fun i σ H' _ h => by rw [h.2]; exact .inl (.inl ht4)) ?_ ?_⟩
    · rintro i y σ H' hi ⟨⟨v, rfl⟩, rfl⟩
      have hy : ∃ (x : Addr) (bs : List Bool), y = .ref x ∧ H' x = some (.lst (bs.map V.bl)) ∧ bs.length = ws.length ∧ cost p s ws bs = lo p s ws := by
        match i, hi with
        | 0, hi => exact ⟨x2, lrow p s ws, (Option.some.inj hi).symm, h24, lrow_len p s ws, lrow_cost hp s ws⟩
        | 1, hi => exact ⟨x3, grow p s ws, (Option.some.inj hi).symm, h34, grow_len p s ws, grow_cost hp s ws⟩
        | i + 2, hi => simp at hi
      obtain ⟨x, bs, rfl, hx, hbl, hc⟩ := hy
      exact ⟨.bl s, rfl, .ref a, rfl, .int p, rfl, .ref x, rfl, s, a, x, ws, p, bs, rfl, aAt s14, .inl (.inl hx), hbl, hlen, .ref d, rfl, d, _, 0, .int (lo p s ws), rfl, rfl, .inl (.inl (dAt s14)), d0, rfl, _, rfl, iteNS (by rw [hc]) ⟨⟨_, rfl⟩, rfl⟩⟩
    rintro σ H' ⟨⟨v, rfl⟩, rfl⟩
    -- the answers are changed
    refine ⟨.ref x2, rfl, .inl ⟨rfl, _, .inl (.inl h24)⟩, x2, _, _, rfl, rfl, h24, ?_, ?_⟩
    · rw [List.length_map]
      exact small1000 (by omega)
    have h35 : (upd H' x2 (.lst ((lrow p s ws).map V.bl ++ [.bl true]))) x3 = some (.lst ((grow p s ws).map V.bl)) := by
      rw [upd_ne n23.symm]
      exact h34
    refine ⟨.ref x3, rfl, .inl ⟨rfl, _, .inl (.inl h35)⟩, x3, _, _, rfl, rfl, h35, ?_, ?_⟩
    · rw [List.length_map]
      exact small1000 (by omega)
    obtain ⟨c2, f2, i2⟩ := first_at (l := lrow p s ws) (b := true)
    obtain ⟨c3, f3, i3⟩ := first_at (l := grow p s ws) (b := false)
    have h26 : (upd (upd H' x2 (.lst ((lrow p s ws).map V.bl ++ [.bl true]))) x3 (.lst ((grow p s ws).map V.bl ++ [.bl false]))) x2 = some (.lst ((lrow p s ws).map V.bl ++ [.bl true])) := by
      rw [upd_ne n23, upd_same]
    refine ⟨.ref x2, rfl, x2, _, 0, .bl c2, rfl, rfl, .inl (.inl h26), f2, c2, rfl, .ref x2, rfl, x2, _, 0, 0, rfl, rfl, h26, i2, ?_⟩
    have s17 : ∀ u v z : HO, Same H1 (upd (upd (upd H' x2 u) x3 v) x2 z) := fun u v z => same_put (same_put (same_put s14 n2) n3') n2
    have h37 : ∀ u z : HO, (upd (upd (upd H' x2 u) x3 (.lst ((grow p s ws).map V.bl ++ [.bl false]))) x2 z) x3 = some (.lst ((grow p s ws).map V.bl ++ [.bl false])) := fun u z => by
      rw [upd_ne n23.symm, upd_same]
    refine ⟨.ref x3, rfl, x3, _, 0, .bl c3, rfl, rfl, .inl (.inl (h37 _ _)), f3, c3, rfl, .ref x3, rfl, x3, _, 0, 0, rfl, rfl, h37 _ _, i3, ?_⟩
    have s18 := fun u v z y : HO => same_put (o := x3) (u := y) (s17 u v z) n3'
    -- the same calls return the same
    refine ⟨.bl s, rfl, .ref l, rfl, .int p, rfl, s, l, ws, p, rfl, lAt (s18 _ _ _ _), hlen, fun H9 x9 sm9 n9 h9 => ?_⟩
    have s19 := (s18 _ _ _ _).trans sm9
    refine ⟨.ref d, rfl, d, _, 1, .ref e, rfl, rfl, .inl (.inl (dAt s19)), d1, x9, e, _, rfl, h9, eAt s19, ll, true, rfl, iteF ?_⟩
    refine ⟨.bl s, rfl, .ref l, rfl, .int p, rfl, s, l, ws, p, rfl, lAt s19, hlen, fun H10 x10 sm10 n10 h10 => ?_⟩
    have s110 := s19.trans sm10
    refine ⟨.ref d, rfl, d, _, 2, .ref g, rfl, rfl, .inl (.inl (dAt s110)), d2, x10, g, _, rfl, h10, gAt s110, lg, true, rfl, iteT ?_⟩
    refine ⟨.ref l, rfl, l, ws, rfl, lAt s110, hlen, hb, .ref a, rfl, a, ws, rfl, aAt s110, hlen, hb, rfl, ?_⟩
    show Q (V.bl (decide (V.str (told ws) = V.str (told ws)))) H10
    rw [decide_eq_true rfl]
    exact q H10 (s1.trans s110)
end
end Lv
/-! The law's end, for a law whose promise holds where nothing guarded is under way: the caller's frame is such a place. -/
namespace Lv
open PySem PySem.Spec PyProof.Rows L2

/-- what is wanted behind the law's call -/
def Held (s₁ : Shared) (r : Result) (s' : Shared) : Prop := r = .ok (.ret (.bool true)) ∧ OldK s₁.heap s'.heap ∧ s'.os = s₁.os ∧ AllBare s'.gens

section
variable {P : Program} {w : World} {K : PySem.W.Frag} {mg mb : Str → Option Value} {k : Nat} {fa a : Addr} {fd : FuncData} {x : Str} {sp : Sp} {s₁ : Shared} {vs : List Value} {ns : List Int}
/-- from an abstract heap that tracks nothing, or the frozen script alone -/
theorem enter_from (KX : K.In s₁.heap) (hns : s₁.heap.Ns mainGlobals mg) (hb : s₁.heap.Ns builtinsNs mb) (hbb : ∀ y : Str, y ≠ "__name__" → mb y = bootBuiltins y) (hlim : s₁.heap.NoLimit) (hgen : s₁.gens = #[])
    (ha : s₁.heap.get? a = some { cls := .type "list", data := .seq vs.toArray }) (hr : Room k callerA)
    (F : ∀ b : Heap, K.In b → b.Ns mainGlobals mg → FnG P w K mg b k fa fd [x] sp) (hbind : ∀ (s : Shared) (u : Value), BindsTo s fd ⟨[u], []⟩ [(x, u)])
    {H : Hp} (hH : ∀ b, H b = none ∨ (b = a ∧ ∃ o ys, H b = some (.frz o (.lst ys)))) (hok : HOk P w H s₁.heap) (hK : H a ≠ none → K.lookup a = none)
    (hsp : sp [.ref a] H (fun v _ => v = .bl true) E0) : codeAny (model P w) callerA (.call (.ref fa) ⟨[.ref a], []⟩) (Held s₁) s₁ := by
  -- what is no list is not tracked
  have untracked : ∀ {b : Addr} {o : Obj} {es : Array DictEntry} {m : Nat}, s₁.heap.get? b = some o → o.data = .dict es m → H b = none := by
    intro b o es m h1 h2
    rcases hH b with z | ⟨rfl, _⟩
    · exact z
    · rw [ha] at h1
      cases h1
      cases h2
  have nsB : ∀ {b : Addr} {m : Str → Option Value}, s₁.heap.Ns b m → (hidT s₁.heap H).Ns b m := by
    rintro b m ⟨o, es, n, h1, h2, h3⟩
    exact ⟨o, es, n, hidT_get h1 (untracked h1 h2), h2, h3⟩
  have kinB : K.In (hidT s₁.heap H) := by
    intro b o h1
    refine hidT_get (KX b o h1) ?_
    rcases hH b with z | ⟨rfl, o', ys, z⟩
    · exact z
    · have := hK (by rw [z]; exact fun q => nomatch q)
      rw [h1] at this
      cases this
  have modB : Mod K mg (hidT s₁.heap H) := by
    refine ⟨kinB, nsB hns, ⟨mb, nsB hb, hbb⟩, ?_⟩
    obtain ⟨mc, h1, h2⟩ := hlim
    exact ⟨mc, nsB h1, h2⟩
  have e0 : Env0 P w K mg (hidT s₁.heap H) callerA [] s₁ H := by
    refine ⟨rfl, modB, fun b o z => of_hidT z, Nat.le_of_eq (hidT_size _ _), trivial, ?_, hok, .of_eq hgen⟩
    intro b z
    exact absurd (show b ∈ ([] : List Addr) from z) List.not_mem_nil
  have run := (F _ kinB (nsB hns)).run callerA [] s₁ H ⟨[.ref a], []⟩ [.ref a] [.ref a] _ _ rfl hr e0 (hbind s₁ (.ref a)) (.cons rfl .nil) hsp
  refine codeAny_mono run ?_
  intro r s' h
  cases r with
  | error z => exact False.elim h
  | ok fl =>
    cases fl with
    | next => exact False.elim h
    | brk => exact False.elim h
    | cont => exact False.elim h
    | ret u =>
      obtain ⟨v, H', os, bare, un, hok', rv, ev⟩ := h
      have ev : v = .bl true := ev
      subst ev
      obtain rfl : u = Value.bool true := rv
      refine ⟨rfl, OldK.of_keep ?_, os, bare⟩
      intro b o h1
      rcases hH b with z | ⟨rfl, o', ys, z⟩
      · exact un.keep b o h1 z (fun q => absurd (show b ∈ ([] : List Addr) from q) List.not_mem_nil) List.not_mem_nil
      · obtain ⟨e1, _⟩ := hok b _ z
        obtain ⟨e2, _⟩ := hok' b _ (un.frzs b o' _ z)
        rw [h1] at e1
        cases e1
        exact e2
theorem enter_G (KX : K.In s₁.heap) (hns : s₁.heap.Ns mainGlobals mg) (hb : s₁.heap.Ns builtinsNs mb) (hbb : ∀ y : Str, y ≠ "__name__" → mb y = bootBuiltins y) (hlim : s₁.heap.NoLimit) (hgen : s₁.gens = #[])
    (ha : s₁.heap.get? a = some { cls := .type "list", data := .seq vs.toArray }) (hi : IntsAre vs ns) (hl : ns.length ≤ sizeLine) (hr : Room k callerA)
    (F : ∀ b : Heap, K.In b → b.Ns mainGlobals mg → FnG P w K mg b k fa fd [x] sp) (hbind : ∀ (s : Shared) (u : Value), BindsTo s fd ⟨[u], []⟩ [(x, u)])
    (hsp : ∀ H : Hp, SqL K H a (ns.map V.int) → sp [.ref a] H (fun v _ => v = .bl true) E0) : codeAny (model P w) callerA (.call (.ref fa) ⟨[.ref a], []⟩) (Held s₁) s₁ := by
  have rv := vals_ints hi
  cases hk : K.lookup a with
  | some o =>
    have e := KX a o hk
    rw [ha] at e
    cases e
    have sq : SqL K (fun _ => none) a (ns.map V.int) := .inr ⟨_, vs.toArray, _, hk, rfl, rfl, rfl, (by rw [List.size_toArray, hi.length]; exact hl), by simpa using rv⟩
    exact enter_from KX hns hb hbb hlim hgen ha hr F hbind (H := fun _ => none) (fun b => .inl rfl) (fun b u z => nomatch z) (fun z => absurd rfl z) (hsp _ sq)
  | none =>
    have at_a : (fun b => if b = a then some (HO.frz { cls := .type "list", data := .seq vs.toArray } (.lst (ns.map V.int))) else none : Hp) a = some (.frz { cls := .type "list", data := .seq vs.toArray } (.lst (ns.map V.int))) := if_pos rfl
    refine enter_from KX hns hb hbb hlim hgen ha hr F hbind (H := fun b => if b = a then some (.frz { cls := .type "list", data := .seq vs.toArray } (.lst (ns.map V.int))) else none) ?_ ?_ (fun _ => hk) (hsp _ (.inl (.inr ⟨_, at_a⟩)))
    · intro b
      by_cases z : b = a
      · exact .inr ⟨z, _, _, if_pos z⟩
      · exact .inl (if_neg z)
    · intro b u z
      by_cases q : b = a
      · have z := (if_pos q).symm.trans z
        cases z
        subst q
        exact ⟨ha, (by rw [List.length_map]; exact hl), vs, _, rv, ha⟩
      · have z := (if_neg q).symm.trans z
        cases z
end
/-- the goal that k_head leaves, from the law's promise -/
theorem walk_G {l : PySem.W.OpenLaw} {n k : Nat} {q : Program} {loose : List Str} {XP : (Str → Option Value) → Heap → Prop} {YP : World → Heap → Prop} {d : DefRec} {K : Params → PySem.W.Frag} {sp : World → Sp} {x : Str}
    (hn : l.most = some n) (hn2 : n ≤ sizeLine) (hdf : d.params.defaults = []) (hr : Room k callerA) (hY : ∀ (w : World) (h : Heap), YP w h → (K w.params).In h)
    (F : ∀ (w : World) (mg : Str → Option Value) (fa : Addr) (h : Heap), (K w.params).In h → h.Ns mainGlobals mg → mg d.name = some (.ref fa) →
      ∃ fd : FuncData, (∀ (s : Shared) (u : Value), BindsTo s fd ⟨[u], []⟩ [(x, u)]) ∧ ∀ b : Heap, (K w.params).In b → b.Ns mainGlobals mg → FnG l.prog w (K w.params) mg b k fa fd [x] (sp w))
    (hsp : ∀ (w : World) (H : Hp) (a : Addr) (ns : List Int), ns.length ≤ n → SqL (K w.params) H a (ns.map V.int) → sp w [.ref a] H (fun v _ => v = .bl true) E0) :
    PySem.W.WalkO q loose XP YP l.row.toRowW d [] (fun f us => PySem.call f us) := by
  refine Att.attach_call hn hdf ?_
  intro w s₀ s₁ mg mb fa o pm cd doc a vs ns G Y ho hd hcd hmg hobj hints hlen hg
  have KX := hY w _ Y
  obtain ⟨fd, hb, hF⟩ := F w mg fa _ KX G.T.g hmg
  exact enter_G KX G.T.g G.T.b G.T.builtins G.T.nolimit hg hobj hints (Nat.le_trans hlen hn2) hr hF hb fun H hS => hsp w H a ns hlen hS
end Lv
/-! The law itself. -/
namespace Lv
open PySem PySem.Spec PyProof.Rows L2
abbrev sLaw : Stmt := tp 24
def spLaw (K : PySem.W.Frag) : Sp := fun vs H Q _ => ∃ (a : Addr) (ns : List Int), vs = [.ref a] ∧ SqL K H a (ns.map V.int) ∧ ns.length ≤ 63 ∧ ∀ H', Q (.bl true) H'
theorem unit_at {v : Int} (h : 0 ≤ v ∧ v < 6) : ∃ u : Int, atI [V.int 0, V.int 0, V.int 0, V.int 1, V.int 2, V.int (10 ^ (11 : Int).toNat)] v = some (.int u) ∧ 0 ≤ u ∧ u ≤ 10 ^ 11 := by
  have e : v = 0 ∨ v = 1 ∨ v = 2 ∨ v = 3 ∨ v = 4 ∨ v = 5 := by omega
  rcases e with rfl | rfl | rfl | rfl | rfl | rfl
  · exact ⟨_, atI_nat (j := 0) rfl, by decide +kernel, by decide +kernel⟩
  · exact ⟨_, atI_nat (j := 1) rfl, by decide +kernel, by decide +kernel⟩
  · exact ⟨_, atI_nat (j := 2) rfl, by decide +kernel, by decide +kernel⟩
  · exact ⟨_, atI_nat (j := 3) rfl, by decide +kernel, by decide +kernel⟩
  · exact ⟨_, atI_nat (j := 4) rfl, by decide +kernel, by decide +kernel⟩
  · exact ⟨_, atI_nat (j := 5) rfl, by decide +kernel, by decide +kernel⟩
/-- a conditional given to a name: whatever it may give -/
theorem seq_any {tA : TT} {ta tb : TE} {i : Nat} {r : TS} {D : Ends} {σ : List (Option V)} {H : Hp} (R : V → Hp → Prop) (h : ∀ Q' : VK, (∀ x H', R x H' → Q' x H') → tIf tA ta tb σ H Q') (q : ∀ x H', R x H' → r D (σ.set i (some x)) H') : tSeq (tAsg (tIf tA ta tb) (gName i)) r D σ H := h _ q
/-- an if that runs through -/
theorem ifs_false {c : TT} {t u r : TS} {D : Ends} {σ : List (Option V)} {H : Hp} (h : c σ H fun b H1 => if b = true then t { D with nx := r D } σ H1 else u { D with nx := r D } σ H1) : tSeq (tIfS c t u) r D σ H := h
/-- votes of a size that their texts fit -/
def Small (ws : List Int) : Prop := ∀ n ∈ ws, n.natAbs < 10 ^ 31
theorem Small.snoc {ws : List Int} {v : Int} (h : Small ws) (hv : v.natAbs < 10 ^ 31) : Small (ws ++ [v]) := fun n hn => by
  rcases List.mem_append.mp hn with z | z
  · exact h n z
  · rw [List.mem_singleton.mp z]
    exact hv
section
variable {P : Program} {w : World} {K : PySem.W.Frag} {mg : Str → Option Value} {base : Heap}
/-- some votes, drawn from the row of draws at o -/
theorem te_votes {σ : List (Option V)} {H0 H : Hp} {o : Addr} {m u : Int} {Q : VK} (h5 : σ[5]? = some (some (.ref o))) (hj : ∀ v : V, ((wipe σ [10]).set 10 (some v))[5]? = some (some (.ref o)) ∧ ((wipe σ [10]).set 10 (some v))[3]? = some (some (.int u)) ∧ wipe ((wipe σ [10]).set 10 (some v)) [10] = wipe σ [10])
    (sm0 : Same H0 H) (no : H0 o = none) (hs : Src H o) (hm0 : 0 < m) (hm1 : m ≤ 100) (hu0 : 0 ≤ u) (hu1 : u ≤ 10 ^ 11)
    (q : ∀ (H' : Hp) (D : Addr) (ws : List Int), Same H0 H' → H0 D = none → H' D = some (.lst (ws.map V.int)) → (ws.length : Int) < m → Small ws → Q (.ref D) H') :
    tLc (iRng1 (tCons (tCall spDraw [] E0 (tCons (tVar 5) (tCons (tC (.int m)) tNil))) tNil)) (gName 10) tYes (tCall spSome [] E0 (tCons (tVar 5) (tCons (tVar 3) tNil))) [10] σ H Q := by
  refine ⟨.ref o, h5, o, m, rfl, hs, hm0, Nat.lt_of_le_of_lt (show m.natAbs ≤ 100 by omega) (by decide +kernel), fun v c l k hv => ?_⟩
  have hv : 0 ≤ v ∧ v < m := hv
  refine ⟨v, rfl, by omega, by omega, fun D nD => ?_⟩
  have noD : o ≠ D := fun z => by
    rw [← z, upd_same] at nD
    cases nD
  have s1 : Same H0 (upd H o (tri c l k)) := same_put sm0 no
  have n0D := s1.free nD
  refine lc_range (n := v.toNat) (fun i H' => Same H0 H' ∧ Src H' o ∧ ∃ ws : List Int, ws.length = i ∧ Small ws ∧ H' D = some (.lst (ws.map V.int)))
    ⟨same_put s1 n0D, ⟨c, l, k, by rw [upd_ne noD, upd_same]⟩, [], rfl, fun _ h => (nomatch h), upd_same⟩ ?_ ?_
  · rintro i H' hi ⟨sm, hs', ws, hl, hb, hD⟩
    refine ⟨(hj _).2.2, yes_then ⟨.ref o, (hj _).1, .int u, (hj _).2.1, o, u, rfl, hs', hu0, hu1, fun x c' l' k' hx => ?_⟩⟩
    have hD' : (upd H' o (tri c' l' k')) D = some (.lst (ws.map V.int)) := by
      rw [upd_ne noD.symm]
      exact hD
    refine ⟨_, hD', ?_, same_put (same_put sm no) n0D, ⟨c', l', k', by rw [upd_ne noD, upd_same]⟩, ws ++ [x], ?_, hb.snoc hx, ?_⟩
    · rw [List.length_map]
      exact small1000 (by omega)
    · rw [List.length_append, hl]
      rfl
    · rw [upd_same, List.map_append]
      rfl
  · rintro H' ⟨sm, hs', ws, hl, hb, hD⟩
    exact q H' D ws sm n0D hD (by omega) hb

abbrev nLaw : List Str := ["_law_script", "_law_source_here", "_law_start", "_law_unit", "_law_price_here", "_law_draws", "_law_short_here", "_law_long_here", "_law_further", "_law_begin", "_law_turn"]
theorem scLaw : FnScope nLaw ["_law_script"] (defScope sLaw) := ⟨rfl, rfl, rfl, by decide +kernel, rfl, by decide +kernel, by decide +kernel⟩
theorem ok_law {f : Addr} {fd : FuncData} (F : Fun K "law" "law" sLaw f fd) (B : Bl mg) (C__law_source : Cal P w K mg base 1 "_law_source" ["_law_script", "_law_place"] (spSource K)) (C__law_draw : Cal P w K mg base 1 "_law_draw" ["_law_source_here", "_law_many"] spDraw)
    (C__law_price : Cal P w K mg base 2 "_law_price" ["_law_source_here"] spPrice) (C__law_some : Cal P w K mg base 3 "_law_some" ["_law_source_here", "_law_unit"] spSome) (C__law_right : CalG P w K mg base 6 "_law_right" pRight (spRight K))
    (C__law_short : Cal P w K mg base 3 "_law_short" ["_law_start", "_law_weights", "_law_price_here"] (spShort K)) (C__law_long : Cal P w K mg base 2 "_law_long" ["_law_start", "_law_weights", "_law_price_here"] (spLong K)) :
    FnG P w K mg base 7 f fd ["_law_script"] (spLaw K) := by
  refine FnG.of F scLaw (fun vs H Q E h => ?_) (fun cdv A outer sh H vs Q E hgd hr h => ?_)
  · obtain ⟨a, ns, rfl, _⟩ := h
    rfl
  · obtain ⟨a, ns, rfl, hS, hlen, q⟩ := h
    refine ⟨_, (pss_cons (ps_set (i := 1) scLaw.nd rfl (.inl rfl) (pe_cal C__law_source (hr.mono (by decide)) (by rfl) (pa_cons (pv 0) (pa_cons pe_int pa_nil))))
      (pss_cons (ps_set (i := 2) scLaw.nd rfl (.inl rfl) (pe_cmpR op_eq (pe_cal C__law_draw (hr.mono (by decide)) (by rfl) (pa_cons (pv 1) (pa_cons pe_int pa_nil))) pe_int (nomark _)))
      (pss_cons (ps_set (i := 3) scLaw.nd rfl (.inr rfl) (pe_ix (ix_l (K := K) rfl) (pe_lst (pa_cons pe_int (pa_cons pe_int (pa_cons pe_int (pa_cons pe_int (pa_cons pe_int (pa_cons (pe_op op_pow pe_int pe_int) pa_nil))))))) (pe_cal C__law_draw (hr.mono (by decide)) (by rfl) (pa_cons (pv 1) (pa_cons pe_int pa_nil))) (fun _ _ => rfl)))
      (pss_cons (ps_set (i := 4) scLaw.nd rfl (.inl rfl) (pe_ifExp (pt_cmpR op_gt (pv 3) pe_int (nomark _)) (pe_op op_mul (pv 3) (pe_cal C__law_draw (hr.mono (by decide)) (by rfl) (pa_cons (pv 1) (pa_cons pe_int pa_nil)))) (pe_cal C__law_price (hr.mono (by decide)) (by rfl) (pa_cons (pv 1) pa_nil))))
      (pss_cons (ps_set (i := 5) scLaw.nd rfl (.inr rfl) (pe_cal C__law_source (hr.mono (by decide)) (by rfl) (pa_cons (pv 0) (pa_cons pe_int pa_nil))))
      (pss_cons (ps_setLc (i := 6) (own := [("_law_turn", 10)]) (g := gName 10) (tt := tYes) rfl scLaw.nd rfl rfl (sw_true rfl rfl rfl (by decide +kernel)) (pi_range1 (by rfl) B.range (pa_cons (pe_cal C__law_draw (hr.mono (by decide)) (by rfl) (pa_cons (pv 5) (pa_cons pe_int pa_nil))) pa_nil)) (blkOk_by (N := nLaw) (sc := defScope sLaw) (own := [("_law_turn", 10)]) (by decide +kernel)) (fun _ _ _ _ _ => pg_name (i := 10) scLaw.nd rfl (.inl rfl)) (fun _ _ _ _ _ => pts_nil) (fun _ _ _ _ _ => (pe_cal C__law_some (hr.mono (by decide)) (by rfl) (pa_cons (pv 5) (pa_cons (pv 3) pa_nil)))))
      (pss_cons (ps_set (i := 5) scLaw.nd rfl (.inr rfl) (pe_cal C__law_source (hr.mono (by decide)) (by rfl) (pa_cons (pv 0) (pa_cons pe_int pa_nil))))
      (pss_cons (ps_setLc (i := 7) (own := [("_law_turn", 10)]) (g := gName 10) (tt := tYes) rfl scLaw.nd rfl rfl (sw_true rfl rfl rfl (by decide +kernel)) (pi_range1 (by rfl) B.range (pa_cons (pe_cal C__law_draw (hr.mono (by decide)) (by rfl) (pa_cons (pv 5) (pa_cons pe_int pa_nil))) pa_nil)) (blkOk_by (N := nLaw) (sc := defScope sLaw) (own := [("_law_turn", 10)]) (by decide +kernel)) (fun _ _ _ _ _ => pg_name (i := 10) scLaw.nd rfl (.inl rfl)) (fun _ _ _ _ _ => pts_nil) (fun _ _ _ _ _ => (pe_cal C__law_some (hr.mono (by decide)) (by rfl) (pa_cons (pv 5) (pa_cons (pv 3) pa_nil)))))
      (pss_cons (ps_for PassesOwn.never rfl (pi_range2 (by rfl) B.range (pa_cons pe_int (pa_cons (pe_callB (call_min2 rfl) (by rfl) B.min (by decide +kernel) (pa_cons (pe_callB (len_l (K := K) rfl) (by rfl) B.len (by decide +kernel) (pa_cons (pv 0) pa_nil)) (pa_cons pe_int pa_nil))) pa_nil))) (pg_name (i := 8) scLaw.nd rfl (.inl rfl)) (pss_one (ps_expr (pe_bm PySem.F.plainAttrs_list PySem.F.slot_list_append PySem.F.type_list_append mt_append (pv 7) (pa_cons (pe_cal C__law_some (hr.mono (by decide)) (by rfl) (pa_cons (pe_cal C__law_source (hr.mono (by decide)) (by rfl) (pa_cons (pv 0) (pa_cons (pv 8) pa_nil))) (pa_cons (pv 3) pa_nil))) pa_nil)))))
      (pss_cons (ps_for PassesOwn.never rfl (pi_l (K := K) rfl (pe_lst (pa_cons (pv 2) (pa_cons (pe_not (pv 2)) pa_nil)))) (pg_name (i := 9) scLaw.nd rfl (.inl rfl)) (pss_cons (ps_if (pt_not (pt_val (pe_calG C__law_right hgd (hr.mono (by decide)) (by rfl) (pa_cons (pv 9) (pa_cons (pv 6) (pa_cons (pv 4) (pa_cons (pe_cal C__law_short (hr.mono (by decide)) (by rfl) (pa_cons (pv 9) (pa_cons (pv 6) (pa_cons (pv 4) pa_nil)))) pa_nil))))))) (pss_one (ps_ret pe_bl)) pss_nil)
      (pss_cons (ps_if (pt_not (pt_val (pe_calG C__law_right hgd (hr.mono (by decide)) (by rfl) (pa_cons (pv 9) (pa_cons (pv 7) (pa_cons (pv 4) (pa_cons (pe_cal C__law_long (hr.mono (by decide)) (by rfl) (pa_cons (pv 9) (pa_cons (pv 7) (pa_cons (pv 4) pa_nil)))) pa_nil))))))) (pss_one (ps_ret pe_bl)) pss_nil)
      (pss_one (ps_if (pt_not (pt_val (pe_calG C__law_right hgd (hr.mono (by decide)) (by rfl) (pa_cons (pv 9) (pa_cons (pe_lst pa_nil) (pa_cons (pv 4) (pa_cons (pe_lst (pa_cons pe_int (pa_cons (pe_lst pa_nil) (pa_cons (pe_lst pa_nil) pa_nil)))) pa_nil))))))) (pss_one (ps_ret pe_bl)) pss_nil)))))
      (pss_one (ps_ret pe_bl)))))))))))), ?_⟩
    -- the side, the unit
    refine ⟨.ref a, rfl, a, ns, 0, rfl, hS, fun c0 l0 H1 o1 sm1 n1 h1 => ?_⟩
    refine ⟨.ref o1, rfl, o1, 2, rfl, ⟨_, _, _, h1⟩, by decide, by decide +kernel, fun v1 c1 l1 k1 hv1 => ⟨rfl, ?_⟩⟩
    generalize decide (V.int v1 = V.int 1) = b0
    have sm2 : Same H (upd H1 o1 (tri c1 l1 k1)) := same_put sm1 n1
    have g2 : (upd H1 o1 (tri c1 l1 k1)) o1 = some (tri c1 l1 k1) := upd_same
    generalize upd H1 o1 (tri c1 l1 k1) = H2 at sm2 g2
    refine ⟨10, 11, rfl, rfl, ⟨by decide, by decide, by decide⟩, by show 6 ≤ sizeLine; decide, fun t nt => ?_⟩
    have n1t : o1 ≠ t := ne_of_none g2 nt
    refine ⟨.ref o1, rfl, o1, 6, rfl, ⟨_, _, _, same_new nt _ _ g2⟩, by decide, by decide +kernel, fun v2 c2 l2 k2 hv2 => ?_⟩
    obtain ⟨u, eu, hu0, hu1⟩ := unit_at hv2
    have ht : ∀ z : HO, (upd (upd H2 t (.lst [.int 0, .int 0, .int 0, .int 1, .int 2, .int (10 ^ (11 : Int).toNat)])) o1 z) t = some (.lst [.int 0, .int 0, .int 0, .int 1, .int 2, .int (10 ^ (11 : Int).toNat)]) := fun z => by
      rw [upd_ne n1t.symm, upd_same]
    refine ⟨t, _, v2, .int u, rfl, rfl, .inl (.inl (ht _)), eu, ?_⟩
    have sm3 : ∀ z : HO, Same H (upd (upd H2 t z) o1 (tri c2 l2 k2)) := fun z => same_put (sm2.trans (same_new nt)) n1
    -- the price
    refine g_then ?_
    dsimp only
    refine seq_any (fun x H' => ∃ pr : Int, x = .int pr ∧ 0 ≤ pr ∧ Same H H') (fun Q' q' => ?_) ?_
    · refine ⟨.int u, rfl, u, 0, rfl, rfl, _, rfl, ite2 (fun _ => ?_) (fun _ => ?_)⟩
      · exact ⟨.int u, rfl, .ref o1, rfl, o1, 7, rfl, src_behind, by decide, by decide +kernel, fun v c l k hv => ⟨u, v, rfl, rfl, .inl ⟨by omega, by omega⟩, q' _ _ ⟨_, rfl, Int.mul_nonneg hu0 hv.1, same_put (sm3 _) n1⟩⟩⟩
      · exact ⟨.ref o1, rfl, o1, rfl, src_behind, fun v c l k hv => q' _ _ ⟨_, rfl, hv, same_put (sm3 _) n1⟩⟩
    rintro _ H4 ⟨pr, rfl, hpr, sm4⟩
    -- the short list
    refine ⟨.ref a, rfl, a, ns, 1, rfl, sm4.seq hS, fun c5 l5 H5 o5 sm5 n5 h5 => ?_⟩
    refine g_then (seq_set (te_votes (H0 := H4) (u := u) rfl (fun v => ⟨rfl, rfl, rfl⟩) sm5 n5 ⟨_, _, _, h5⟩ (by decide) (by decide) hu0 hu1 fun H6 D1 w1 sm6 nD1 hD1 hl1 hb1 => ?_))
    have sm06 := sm4.trans sm6
    -- the long list
    refine ⟨.ref a, rfl, a, ns, 2, rfl, sm06.seq hS, fun c7 l7 H7 o7 sm7 n7 h7 => ?_⟩
    refine g_then (seq_set (te_votes (H0 := H6) (u := u) rfl (fun v => ⟨rfl, rfl, rfl⟩) sm7 n7 ⟨_, _, _, h7⟩ (by decide) (by decide) hu0 hu1 fun H8 D2 w2 sm8 nD2 hD2 hl2 hb2 => ?_))
    have aAt : ∀ {H' : Hp}, Same H6 H' → SqL K H' a (ns.map V.int) := fun sm => (sm06.trans sm).seq hS
    -- one vote more from each of the cells behind
    obtain ⟨mm, hmm⟩ : ∃ mm : Int, (if (23 : Int) < ((ns.map V.int).length : Int) then (23 : Int) else ((ns.map V.int).length : Int)) = mm := ⟨_, rfl⟩
    have hmm1 : 0 ≤ mm ∧ mm ≤ 23 := by
      rw [← hmm]
      split <;> omega
    refine ⟨.ref a, rfl, a, _, rfl, .inl (aAt sm8), _, 23, rfl, 3, mm, by rw [hmm], ⟨by decide, by decide, by omega, by omega⟩, ?_⟩
    refine for_range (n := (mm - 3).toNat) (fun i σ H' => ∃ (ws : List Int) (v : Option V), σ = [some (.ref a), some (.ref o1), some (.bl b0), some (.int u), some (.int pr), some (.ref o7), some (.ref D1), some (.ref D2), v, none, none] ∧ Same H6 H' ∧
        H' D2 = some (.lst (ws.map V.int)) ∧ ws.length ≤ 20 + i ∧ Small ws) ⟨w2, none, rfl, sm8, hD2, by omega, hb2⟩ ?_ ?_
    · rintro i σ H' hi ⟨ws, v, rfl, sm, hD, hl, hb⟩
      refine ⟨.ref D2, rfl, .inl ⟨rfl, _, .inl (.inl hD)⟩, .ref a, rfl, .int (3 + (i : Int)), rfl, a, ns, 3 + i, ?_, aAt sm, fun c9 l9 H9 o9 sm9 n9 h9 => ?_⟩
      · rw [show (((3 + i : Nat)) : Int) = 3 + (i : Int) by omega]
        rfl
      refine ⟨.int u, rfl, o9, u, rfl, ⟨_, _, _, h9⟩, hu0, hu1, fun x c l k hx => ?_⟩
      have n9D : D2 ≠ o9 := ne_of_none hD n9
      have hD9 : (upd H9 o9 (tri c l k)) D2 = some (.lst (ws.map V.int)) := by
        rw [upd_ne n9D]
        exact sm9 _ _ hD
      refine ⟨D2, _, _, rfl, rfl, hD9, ?_, ws ++ [x], _, rfl, same_put (same_put (sm.trans sm9) (sm.free n9)) nD2, ?_, ?_, hb.snoc hx⟩
      · rw [List.length_map]
        exact small1000 (by omega)
      · rw [upd_same, List.map_append]
        rfl
      · rw [List.length_append]
        show ws.length + 1 ≤ 20 + (i + 1)
        omega
    rintro σ HA ⟨ws, v, rfl, smA, hDA, hlA, hbA⟩
    have hlA : ws.length ≤ 100 := by omega
    -- both starting sides
    refine ⟨.bl b0, rfl, .bl b0, rfl, b0, rfl, by show 2 ≤ sizeLine; decide, fun t9 nt9 => ?_⟩
    have smB := same_new (u := .lst [.bl b0, .bl (!b0)]) nt9
    have hDB := smB _ _ hDA
    have hD1B := smB _ _ (smA _ _ hD1)
    have htB : (upd HA t9 (.lst [.bl b0, .bl (!b0)])) t9 = some (.lst [.bl b0, .bl (!b0)]) := upd_same
    generalize upd HA t9 (.lst [.bl b0, .bl (!b0)]) = HB at smB hDB hD1B htB
    refine ⟨t9, rfl, ⟨_, .inl (.inl htB)⟩, for_list (K := K) (a := t9) (xs := [.bl b0, .bl (!b0)]) (fun i σ H' => (∃ v v' : Option V, σ = [some (.ref a), some (.ref o1), some (.bl b0), some (.int u), some (.int pr), some (.ref o7), some (.ref D1), some (.ref D2), v', v, none]) ∧ Same HB H')
      ⟨⟨none, _, rfl⟩, Same.refl _⟩ (fun i σ H' _ h => .inl (.inl (h.2 _ _ htB))) ?_ ?_⟩
    · rintro i y σ H' hi ⟨⟨v, v', rfl⟩, sm⟩
      obtain ⟨b, rfl⟩ : ∃ b : Bool, y = .bl b := by
        match i, hi with
        | 0, hi => exact ⟨_, (Option.some.inj hi).symm⟩
        | 1, hi => exact ⟨_, (Option.some.inj hi).symm⟩
        | i + 2, hi => simp at hi
      -- the short list
      refine ⟨.bl b, rfl, .ref D1, rfl, .int pr, rfl, .bl b, rfl, .ref D1, rfl, .int pr, rfl, b, D1, w1, pr, rfl, .inl (.inl (sm _ _ hD1B)), by omega, hpr, fun HC d smC nC hC => ?_⟩
      have sC := sm.trans smC
      refine ⟨b, D1, w1, pr, d, rfl, .inl (.inl (sC _ _ hD1B)), by omega, hb1, hpr, hC, fun HD smD => ⟨true, rfl, iteF ?_⟩⟩
      have sD := sC.trans smD
      -- the long list
      refine ⟨.bl b, rfl, .ref D2, rfl, .int pr, rfl, .bl b, rfl, .ref D2, rfl, .int pr, rfl, b, D2, ws, pr, rfl, .inl (.inl (sD _ _ hDB)), hlA, hpr, fun HE d2 smE nE hE => ?_⟩
      have sE := sD.trans smE
      refine ⟨b, D2, ws, pr, d2, rfl, .inl (.inl (sE _ _ hDB)), hlA, hbA, hpr, hE, fun HF smF => ⟨true, rfl, iteF ?_⟩⟩
      have sF := sE.trans smF
      -- no votes
      refine ⟨.bl b, rfl, Nat.zero_le _, fun e0 ne0 => ⟨.int pr, rfl, Nat.zero_le _, fun e1 ne1 => ⟨Nat.zero_le _, fun e2 ne2 => ⟨by show 3 ≤ sizeLine; decide, fun e3 ne3 => ?_⟩⟩⟩⟩
      have t1 := same_new (u := .lst []) ne1
      have t2 := same_new (u := .lst []) ne2
      have t3 := same_new (u := .lst [.int 0, .ref e1, .ref e2]) ne3
      exact ⟨b, e0, [], pr, e3, rfl, .inl (.inl (t3 _ _ (t2 _ _ (t1 _ _ upd_same)))), Nat.zero_le _, fun _ h => (nomatch h), hpr, ⟨e1, e2, upd_same, t3 _ _ (t2 _ _ upd_same), t3 _ _ upd_same⟩,
        fun HG smG => ⟨true, rfl, iteF ⟨⟨_, _, rfl⟩, (((sF.trans (same_new ne0)).trans t1).trans t2).trans (t3.trans smG)⟩⟩⟩
    · rintro σ H' ⟨⟨v, v', rfl⟩, sm⟩
      exact q H'
end
end Lv
/-! What the top has left, and the end. -/
namespace Lv
open PySem PySem.Spec PyProof.Rows L2
/-- the def st stands in the written part under its name -/
structure DefK (K : PySem.W.Frag) (x : Str) (st : Stmt) : Prop where
  ex : ∃ (f : Addr) (oc : Value) (od : Option Addr) (kV dc pm : Value) (an : Option Addr) (cd ct : Value) (sl : Array (Option Value)), PySem.W.nsIn K mainGlobals x = some (some (.ref f)) ∧
    K.lookup f = some ⟨oc, od, .func (PySem.W.fnOf x x (defArgs st) (defBody st) (defScope st) .none kV dc pm an cd ct), sl⟩ ∧ PySem.W.codeIn K cd x = true ∧ PySem.W.keepIn K (.ref f) = true
theorem def_mk {K : PySem.W.Frag} {x : Str} {st : Stmt} {f : Addr} {oc : Value} {od : Option Addr} {kV dc pm : Value} {an : Option Addr} {cd ct : Value} {sl : Array (Option Value)} (a : PySem.W.nsIn K mainGlobals x = some (some (.ref f)))
    (l : K.lookup f = some ⟨oc, od, .func (PySem.W.fnOf x x (defArgs st) (defBody st) (defScope st) .none kV dc pm an cd ct), sl⟩) (c : PySem.W.codeIn K cd x = true) (k : PySem.W.keepIn K (.ref f) = true) : DefK K x st :=
  ⟨⟨f, oc, od, kV, dc, pm, an, cd, ct, sl, a, l, c, k⟩⟩
/-- how a def without defaults binds -/
def BindsAll (x : Str) (st : Stmt) (ps : List Str) : Prop := ∀ (kV doc pm : Value) (an : Option Addr) (cdv ct : Value) (us : List Value), us.length = ps.length →
  bindArgs (PySem.W.fnOf x x (defArgs st) (defBody st) (defScope st) .none kV doc pm an cdv ct) ⟨us, []⟩ = pure (ps.zip us)
section
variable {P : Program} {w : World} {K : PySem.W.Frag} {mg : Str → Option Value} {base h : Heap} {x : Str} {st : Stmt} {ps : List Str} {k : Nat} {sp : Sp}
theorem DefK.cal (D : DefK K x st) (X : K.In h) (G : h.Ns mainGlobals mg) (hb : BindsAll x st ps) (ok : ∀ (f : Addr) (fd : FuncData), Fun K x x st f fd → FnOk P w K mg base CX0 k f fd ps sp) : Cal P w K mg base k x ps sp := by
  obtain ⟨f, oc, od, kV, dc, pm, an, cd, ct, sl, a, l, c, kp⟩ := D.ex
  have F := fun_mk (st := st) l c kp
  exact ⟨⟨f, _, ok f _ F, PySem.W.mg_of X G a, kp, F.binds hb⟩⟩
theorem DefK.calG (D : DefK K x st) (X : K.In h) (G : h.Ns mainGlobals mg) (hb : BindsAll x st ps) (ok : ∀ (f : Addr) (fd : FuncData), Fun K x x st f fd → FnG P w K mg base k f fd ps sp) : CalG P w K mg base k x ps sp := by
  obtain ⟨f, oc, od, kV, dc, pm, an, cd, ct, sl, a, l, c, kp⟩ := D.ex
  have F := fun_mk (st := st) l c kp
  exact ⟨⟨f, _, ok f _ F, PySem.W.mg_of X G a, kp, F.binds hb⟩⟩
theorem DefK.calK {n : Nat} {ks : List Str} (D : DefK K x st) (X : K.In h) (G : h.Ns mainGlobals mg) (hb : ∀ (kV doc pm : Value) (an : Option Addr) (cdv ct : Value) (us ws : List Value), us.length = n → ws.length = ks.length →
      bindArgs (PySem.W.fnOf x x (defArgs st) (defBody st) (defScope st) .none kV doc pm an cdv ct) ⟨us, ks.zip ws⟩ = pure (ps.zip (us ++ ws)))
    (ok : ∀ (f : Addr) (fd : FuncData), Fun K x x st f fd → FnOk P w K mg base CX0 k f fd ps sp) : CalK P w K mg base k x ps n ks sp := by
  obtain ⟨f, oc, od, kV, dc, pm, an, cd, ct, sl, a, l, c, kp⟩ := D.ex
  exact ⟨⟨f, _, ok f _ (fun_mk (st := st) l c kp), PySem.W.mg_of X G a, kp, ⟨fun s us ws _ h1 h2 => .of_eq (hb kV dc pm an cd ct us ws h1 h2), fun r1 r2 => r1.append r2⟩⟩⟩
end
theorem all_mk {l : PySem.W.OpenLaw} {w : World} {K : PySem.W.Frag} {h : Heap} {mg : Str → Option Value} {fa : Addr} (X : K.In h) (G : h.Ns mainGlobals mg) (hfa : mg "law" = some (.ref fa))
    (DClip : DefK K "clip" sClip)
    (DFwd : DefK K "forward" sFwd)
    (DBwd : DefK K "backward" sBwd)
    (DSums : DefK K "counter_sums" sSums)
    (DBetween : DefK K "row_between" sBetween)
    (DLeast : DefK K "least_row" sLeast)
    (DGreat : DefK K "greatest_row" sGreat)
    (DSource : DefK K "_law_source" sSource)
    (DDraw : DefK K "_law_draw" sDraw)
    (DPrice : DefK K "_law_price" sPrice)
    (DVote : DefK K "_law_vote" sVote)
    (DSides : DefK K "_law_sides" sSides)
    (DSolo : DefK K "_law_solo" sSolo)
    (DGaps : DefK K "_law_gaps" sGaps)
    (DSome : DefK K "_law_some" sSome)
    (DCost : DefK K "_law_cost_of_row" sCost)
    (DLonger : DefK K "_law_longer" sLonger)
    (DRows : DefK K "_law_rows" sRows)
    (DShort : DefK K "_law_short" sShort)
    (DLong : DefK K "_law_long" sLong)
    (DRight : DefK K "_law_right" sRight)
    (DLaw : DefK K "law" sLaw)
    (zlen : PySem.W.nsIn K mainGlobals "len" = some none)
    (zmax : PySem.W.nsIn K mainGlobals "max" = some none)
    (zmin : PySem.W.nsIn K mainGlobals "min" = some none)
    (zabs : PySem.W.nsIn K mainGlobals "abs" = some none)
    (zint : PySem.W.nsIn K mainGlobals "int" = some none)
    (zrange : PySem.W.nsIn K mainGlobals "range" = some none)
    (zisinstance : PySem.W.nsIn K mainGlobals "isinstance" = some none)
    (zlist : PySem.W.nsIn K mainGlobals "list" = some none)
    (zbool : PySem.W.nsIn K mainGlobals "bool" = some none)
    (zrepr : PySem.W.nsIn K mainGlobals "repr" = some none)
    : ∃ fd : FuncData, (∀ (s : Shared) (v : Value), BindsTo s fd ⟨[v], []⟩ [("_law_script", v)]) ∧ ∀ base : Heap, K.In base → base.Ns mainGlobals mg → FnG l.prog w K mg base 7 fa fd ["_law_script"] (spLaw K) := by
  have B : Bl mg := ⟨PySem.W.mg_none_of X G zlen, PySem.W.mg_none_of X G zmax, PySem.W.mg_none_of X G zmin, PySem.W.mg_none_of X G zabs, PySem.W.mg_none_of X G zint, PySem.W.mg_none_of X G zrange, PySem.W.mg_none_of X G zisinstance, PySem.W.mg_none_of X G zlist, PySem.W.mg_none_of X G zbool, PySem.W.mg_none_of X G zrepr⟩
  obtain ⟨f, oc, od, kV, dc, pm, an, cd, ct, sl, a, lk, c, kp⟩ := DLaw.ex
  have e := hfa.symm.trans (PySem.W.mg_of X G a)
  cases e
  refine ⟨PySem.W.fnOf "law" "law" (defArgs sLaw) (defBody sLaw) (defScope sLaw) .none kV dc pm an cd ct, fun s v => .of_eq rfl, fun base _ _ => ?_⟩
  have C_Clip := DClip.cal (P := l.prog) (w := w) (mg := mg) (base := base) X G (fun _ _ _ _ _ _ us hl => match us, hl with | [_, _], _ => rfl) fun f fd F => ok_clip F B
  have C_Fwd := DFwd.cal (P := l.prog) (w := w) (mg := mg) (base := base) X G (fun _ _ _ _ _ _ us hl => match us, hl with | [_, _, _], _ => rfl) fun f fd F => ok_forward F C_Clip
  have C_Bwd := DBwd.calK (P := l.prog) (w := w) (mg := mg) (base := base) (n := 2) (ks := ["last"]) X G (fun _ _ _ _ _ _ us ws h1 h2 => match us, ws, h1, h2 with | [_, _], [_], _, _ => rfl) fun f fd F => ok_backward F C_Clip
  have C_Sums := DSums.cal (P := l.prog) (w := w) (mg := mg) (base := base) X G (fun _ _ _ _ _ _ us hl => match us, hl with | [_, _, _, _], _ => rfl) fun f fd F => ok_sums F B C_Fwd C_Bwd
  have C_Between := DBetween.cal (P := l.prog) (w := w) (mg := mg) (base := base) X G (fun _ _ _ _ _ _ us hl => match us, hl with | [_, _, _, _], _ => rfl) fun f fd F => ok_between F C_Sums
  have C_Least := DLeast.cal (P := l.prog) (w := w) (mg := mg) (base := base) X G (fun _ _ _ _ _ _ us hl => match us, hl with | [_, _, _], _ => rfl) fun f fd F => ok_least F C_Between
  have C_Great := DGreat.cal (P := l.prog) (w := w) (mg := mg) (base := base) X G (fun _ _ _ _ _ _ us hl => match us, hl with | [_, _, _], _ => rfl) fun f fd F => ok_great F C_Sums
  have C_Source := DSource.cal (P := l.prog) (w := w) (mg := mg) (base := base) X G (fun _ _ _ _ _ _ us hl => match us, hl with | [_, _], _ => rfl) fun f fd F => ok_source F B
  have C_Draw := DDraw.cal (P := l.prog) (w := w) (mg := mg) (base := base) X G (fun _ _ _ _ _ _ us hl => match us, hl with | [_, _], _ => rfl) fun f fd F => ok_draw F B
  have C_Price := DPrice.cal (P := l.prog) (w := w) (mg := mg) (base := base) X G (fun _ _ _ _ _ _ us hl => match us, hl with | [_], _ => rfl) fun f fd F => ok_price F C_Draw
  have C_Vote := DVote.cal (P := l.prog) (w := w) (mg := mg) (base := base) X G (fun _ _ _ _ _ _ us hl => match us, hl with | [_], _ => rfl) fun f fd F => ok_vote F C_Draw
  have C_Sides := DSides.cal (P := l.prog) (w := w) (mg := mg) (base := base) X G (fun _ _ _ _ _ _ us hl => match us, hl with | [_, _], _ => rfl) fun f fd F => ok_sides F B
  have C_Solo := DSolo.cal (P := l.prog) (w := w) (mg := mg) (base := base) X G (fun _ _ _ _ _ _ us hl => match us, hl with | [_, _, _], _ => rfl) fun f fd F => ok_solo F B
  have C_Gaps := DGaps.cal (P := l.prog) (w := w) (mg := mg) (base := base) X G (fun _ _ _ _ _ _ us hl => match us, hl with | [_, _, _], _ => rfl) fun f fd F => ok_gaps F B
  have C_Some := DSome.cal (P := l.prog) (w := w) (mg := mg) (base := base) X G (fun _ _ _ _ _ _ us hl => match us, hl with | [_, _], _ => rfl) fun f fd F => ok_some F C_Draw C_Vote
  have C_Cost := DCost.cal (P := l.prog) (w := w) (mg := mg) (base := base) X G (fun _ _ _ _ _ _ us hl => match us, hl with | [_, _, _, _], _ => rfl) fun f fd F => ok_cost F B
  have C_Longer := DLonger.cal (P := l.prog) (w := w) (mg := mg) (base := base) X G (fun _ _ _ _ _ _ us hl => match us, hl with | [_, _, _, _, _], _ => rfl) fun f fd F => ok_longer F B
  have C_Rows := DRows.cal (P := l.prog) (w := w) (mg := mg) (base := base) X G (fun _ _ _ _ _ _ us hl => match us, hl with | [_, _, _], _ => rfl) fun f fd F => ok_rows F C_Longer
  have C_Short := DShort.cal (P := l.prog) (w := w) (mg := mg) (base := base) X G (fun _ _ _ _ _ _ us hl => match us, hl with | [_, _, _], _ => rfl) fun f fd F => ok_short F B C_Rows
  have C_Long := DLong.cal (P := l.prog) (w := w) (mg := mg) (base := base) X G (fun _ _ _ _ _ _ us hl => match us, hl with | [_, _, _], _ => rfl) fun f fd F => ok_long F C_Gaps C_Solo
  have C_Right := DRight.calG (P := l.prog) (w := w) (mg := mg) (base := base) X G (fun _ _ _ _ _ _ us hl => match us, hl with | [_, _, _, _], _ => rfl) fun f fd F => ok_right F B C_Least C_Great C_Sides C_Cost
  exact ok_law (fun_mk (st := sLaw) lk c kp) B C_Source C_Draw C_Price C_Some C_Right C_Short C_Long
end Lv

open PySem PySem.W PyProof.Rows in
set_option maxRecDepth 100000 in
set_option maxHeartbeats 0 in
theorem PySem.Challenge.cw_livecopy_k32_whole_best_rows_holds : PySem.Challenge.rw_livecopy_k32_whole_best_rows.Holds := by
  w_on; o_law; k_head; (case hw => w_witness2)
  k_fill
  refine Lv.walk_G (l := PySem.Challenge.rw_livecopy_k32_whole_best_rows) (n := 63) (k := 7) (x := "_law_script") (sp := fun w => Lv.spLaw _) rfl (by decide) rfl ⟨rfl, by decide, by decide⟩ (fun w h Y => PySem.W.kIn_of Y) ?F (fun _ _ a ns hl hS => ⟨a, ns, rfl, hS, hl, fun _ => rfl⟩)
  case F =>
    intro w mg fa h KX G hmg
    refine' Lv.all_mk KX G hmg ?DClip ?DFwd ?DBwd ?DSums ?DBetween ?DLeast ?DGreat ?DSource ?DDraw ?DPrice ?DVote ?DSides ?DSolo ?DGaps ?DSome ?DCost ?DLonger ?DRows ?DShort ?DLong ?DRight ?DLaw ?zlen ?zmax ?zmin ?zabs ?zint ?zrange ?zisinstance ?zlist ?zbool ?zrepr
    (case DClip => (refine' Lv.def_mk ?a ?l ?c ?k; (case a => k_is); (case l => k_is); (case c => k_is); (case k => k_is)))
    (case DFwd => (refine' Lv.def_mk ?a ?l ?c ?k; (case a => k_is); (case l => k_is); (case c => k_is); (case k => k_is)))
    (case DBwd => (refine' Lv.def_mk ?a ?l ?c ?k; (case a => k_is); (case l => k_is); (case c => k_is); (case k => k_is)))
    (case DSums => (refine' Lv.def_mk ?a ?l ?c ?k; (case a => k_is); (case l => k_is); (case c => k_is); (case k => k_is)))
    (case DBetween => (refine' Lv.def_mk ?a ?l ?c ?k; (case a => k_is); (case l => k_is); (case c => k_is); (case k => k_is)))
    (case DLeast => (refine' Lv.def_mk ?a ?l ?c ?k; (case a => k_is); (case l => k_is); (case c => k_is); (case k => k_is)))
    (case DGreat => (refine' Lv.def_mk ?a ?l ?c ?k; (case a => k_is); (case l => k_is); (case c => k_is); (case k => k_is)))
    (case DSource => (refine' Lv.def_mk ?a ?l ?c ?k; (case a => k_is); (case l => k_is); (case c => k_is); (case k => k_is)))
    (case DDraw => (refine' Lv.def_mk ?a ?l ?c ?k; (case a => k_is); (case l => k_is); (case c => k_is); (case k => k_is)))
    (case DPrice => (refine' Lv.def_mk ?a ?l ?c ?k; (case a => k_is); (case l => k_is); (case c => k_is); (case k => k_is)))
    (case DVote => (refine' Lv.def_mk ?a ?l ?c ?k; (case a => k_is); (case l => k_is); (case c => k_is); (case k => k_is)))
    (case DSides => (refine' Lv.def_mk ?a ?l ?c ?k; (case a => k_is); (case l => k_is); (case c => k_is); (case k => k_is)))
    (case DSolo => (refine' Lv.def_mk ?a ?l ?c ?k; (case a => k_is); (case l => k_is); (case c => k_is); (case k => k_is)))
    (case DGaps => (refine' Lv.def_mk ?a ?l ?c ?k; (case a => k_is); (case l => k_is); (case c => k_is); (case k => k_is)))
    (case DSome => (refine' Lv.def_mk ?a ?l ?c ?k; (case a => k_is); (case l => k_is); (case c => k_is); (case k => k_is)))
    (case DCost => (refine' Lv.def_mk ?a ?l ?c ?k; (case a => k_is); (case l => k_is); (case c => k_is); (case k => k_is)))
    (case DLonger => (refine' Lv.def_mk ?a ?l ?c ?k; (case a => k_is); (case l => k_is); (case c => k_is); (case k => k_is)))
    (case DRows => (refine' Lv.def_mk ?a ?l ?c ?k; (case a => k_is); (case l => k_is); (case c => k_is); (case k => k_is)))
    (case DShort => (refine' Lv.def_mk ?a ?l ?c ?k; (case a => k_is); (case l => k_is); (case c => k_is); (case k => k_is)))
    (case DLong => (refine' Lv.def_mk ?a ?l ?c ?k; (case a => k_is); (case l => k_is); (case c => k_is); (case k => k_is)))
    (case DRight => (refine' Lv.def_mk ?a ?l ?c ?k; (case a => k_is); (case l => k_is); (case c => k_is); (case k => k_is)))
    (case DLaw => (refine' Lv.def_mk ?a ?l ?c ?k; (case a => k_is); (case l => k_is); (case c => k_is); (case k => k_is)))
    (case zlen => k_is)
    (case zmax => k_is)
    (case zmin => k_is)
    (case zabs => k_is)
    (case zint => k_is)
    (case zrange => k_is)
    (case zisinstance => k_is)
    (case zlist => k_is)
    (case zbool => k_is)
    (case zrepr => k_is)
#print axioms PySem.Challenge.cw_livecopy_k32_whole_best_rows_holds
