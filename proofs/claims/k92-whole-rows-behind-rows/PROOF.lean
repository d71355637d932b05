import PyProof.Rows.All
import Wide.All
import OpenK.AllK
import Wide.FinOn
import HandS.ForMost
import HandS.Exc
import HandS.ExcOwn
import HandS.WordsExc
import HandS.Wide
import HandS.Style
import HandS.IsInst
import HandS.More
import HandS.DictComp
import KE.GoesComp
import KE.GoesRaise
import HandS.Walk
import HandS.DeepEq
import HandS.Iter
import HandS.WordsDict
import HandS.Comp
import PySem.Challenge.RW_boastrow_k92_whole_rows_behind_rows
set_option Elab.async false
set_option linter.all false
set_option maxRecDepth 100000
set_option maxHeartbeats 4000000
section
/-! Boastrow, the plain law: rows said over as a tree, what comes of them (F), what is wished of them (G), when both grow alike. No program here. -/
namespace Bo
/-- a long row (or its parts): sayings, and rows said so many times -/
inductive T where
  | nil
  | say (l : Int) (m : Option Int) (r : T)
  | rep (n : Nat) (b : T) (r : T)

/-- one person: what comes of c behind -/
def f1 (l : Int) (m : Option Int) (c : Int) : Int :=
  if c < l then c else match m with | none => c + 1 | some x => if c ≤ x then c + 1 else c
/-- one person: what is wished behind, of w -/
def g1 (l : Int) (m : Option Int) (w : Int) : Int :=
  match m with
  | some x => if w > x + 1 then w else if w > l then w - 1 else w
  | none => if w > l then w - 1 else w
def it (g : Int → Int) : Nat → Int → Int
  | 0, c => c
  | n + 1, c => it g n (g c)
def F : T → Int → Int
  | .nil, c => c
  | .say l m r, c => f1 l m (F r c)
  | .rep n b r, c => it (F b) n (F r c)
def G : T → Int → Int
  | .nil, w => w
  | .say l m r, w => G r (g1 l m w)
  | .rep n b r, w => G r (it (G b) n w)
def ppl : T → Nat
  | .nil => 0
  | .say _ _ r => 1 + ppl r
  | .rep n b r => n * ppl b + ppl r
/-- how many things stand in it, at all depths -/
def size : T → Nat
  | .nil => 0
  | .say _ _ r => 1 + size r
  | .rep _ b r => 1 + size b + size r
def len : T → Nat
  | .nil => 0
  | .say _ _ r => 1 + len r
  | .rep _ _ r => 1 + len r
def depth : T → Nat
  | .nil => 0
  | .say _ _ r => depth r
  | .rep _ b r => max (depth b + 1) (depth r)
def app : T → T → T
  | .nil, u => u
  | .say l m r, u => .say l m (app r u)
  | .rep n b r, u => .rep n b (app r u)
def slim : T → T
  | .nil => .nil
  | .say l m r => .say l m (slim r)
  | .rep n b r => if n = 1 then app (slim b) (slim r) else if 0 < n * ppl b then .rep n b (slim r) else slim r
/-- 2 ^ 104: more than any number that is written or multiplied here -/
def B : Int := 20282409603651670423947251286016
def ok : T → Prop
  | .nil => True
  | .say l m r => (0 ≤ l ∧ l < B ∧ ∀ x, m = some x → l ≤ x ∧ x < B) ∧ ok r
  | .rep n b r => ((n : Int) < B ∧ (ppl b : Int) < B ∧ ((n * ppl b : Nat) : Int) < B ∧ ok b) ∧ ok r

/-! ### again and again -/
theorem it_succ (g : Int → Int) : ∀ (n : Nat) (c : Int), it g (n + 1) c = g (it g n c)
  | 0, _ => rfl
  | n + 1, c => it_succ g n (g c)
theorem it_add (g : Int → Int) : ∀ (m n : Nat) (c : Int), it g (m + n) c = it g n (it g m c)
  | 0, n, c => by rw [Nat.zero_add]; rfl
  | m + 1, n, c => by
    rw [Nat.add_right_comm]
    exact it_add g m n (g c)
theorem it_id {g : Int → Int} (h : ∀ c, g c = c) : ∀ (n : Nat) (c : Int), it g n c = c
  | 0, _ => rfl
  | n + 1, c => by
    show it g n (g c) = c
    rw [h, it_id h n]
theorem it_congr {g h : Int → Int} (e : ∀ c, g c = h c) : ∀ (n : Nat) (c : Int), it g n c = it h n c
  | 0, _ => rfl
  | n + 1, c => by
    show it g n (g c) = it h n (h c)
    rw [e, it_congr e n]

/-! ### joined, slimmed -/
theorem F_app : ∀ (t u : T) (c : Int), F (app t u) c = F t (F u c)
  | .nil, _, _ => rfl
  | .say l m r, u, c => by
    show f1 l m (F (app r u) c) = f1 l m (F r (F u c))
    rw [F_app r u c]
  | .rep n b r, u, c => by
    show it (F b) n (F (app r u) c) = it (F b) n (F r (F u c))
    rw [F_app r u c]
theorem G_app : ∀ (t u : T) (w : Int), G (app t u) w = G u (G t w)
  | .nil, _, _ => rfl
  | .say _ _ r, u, _ => G_app r u _
  | .rep _ _ r, u, _ => G_app r u _
theorem app_nil : ∀ t : T, app t .nil = t
  | .nil => rfl
  | .say l m r => by show T.say l m (app r .nil) = _; rw [app_nil r]
  | .rep n b r => by show T.rep n b (app r .nil) = _; rw [app_nil r]
theorem app_assoc : ∀ t u v : T, app (app t u) v = app t (app u v)
  | .nil, _, _ => rfl
  | .say l m r, u, v => by show T.say l m (app (app r u) v) = _; rw [app_assoc r u v]; rfl
  | .rep n b r, u, v => by show T.rep n b (app (app r u) v) = _; rw [app_assoc r u v]; rfl
theorem ppl_app : ∀ t u : T, ppl (app t u) = ppl t + ppl u
  | .nil, u => by show ppl u = 0 + ppl u; omega
  | .say _ _ r, u => by
    have h := ppl_app r u
    show 1 + ppl (app r u) = 1 + ppl r + ppl u
    omega
  | .rep n b r, u => by
    have h := ppl_app r u
    show n * ppl b + ppl (app r u) = n * ppl b + ppl r + ppl u
    omega
theorem size_app : ∀ t u : T, size (app t u) = size t + size u
  | .nil, u => by show size u = 0 + size u; omega
  | .say _ _ r, u => by
    have h := size_app r u
    show 1 + size (app r u) = 1 + size r + size u
    omega
  | .rep n b r, u => by
    have h := size_app r u
    show 1 + size b + size (app r u) = 1 + size b + size r + size u
    omega
theorem depth_app : ∀ t u : T, depth (app t u) = max (depth t) (depth u)
  | .nil, u => by show depth u = max 0 (depth u); omega
  | .say _ _ r, u => depth_app r u
  | .rep n b r, u => by
    have h := depth_app r u
    show max (depth b + 1) (depth (app r u)) = max (max (depth b + 1) (depth r)) (depth u)
    omega
theorem ok_app : ∀ {t u : T}, ok t → ok u → ok (app t u)
  | .nil, _, _, h => h
  | .say _ _ r, _, h, h' => ⟨h.1, ok_app (t := r) h.2 h'⟩
  | .rep _ _ r, _, h, h' => ⟨h.1, ok_app (t := r) h.2 h'⟩
theorem F_none : ∀ (t : T), ppl t = 0 → ∀ c, F t c = c
  | .nil, _, _ => rfl
  | .say _ _ r, h, _ => by
    have h : 1 + ppl r = 0 := h
    omega
  | .rep n b r, h, c => by
    have h : n * ppl b + ppl r = 0 := h
    have h2 : ppl r = 0 := by omega
    have h1 : n * ppl b = 0 := by omega
    show it (F b) n (F r c) = c
    rw [F_none r h2]
    rcases Nat.mul_eq_zero.mp h1 with e | e
    · rw [e]; rfl
    · exact it_id (F_none b e) n c
theorem G_none : ∀ (t : T), ppl t = 0 → ∀ c, G t c = c
  | .nil, _, _ => rfl
  | .say _ _ r, h, _ => by
    have h : 1 + ppl r = 0 := h
    omega
  | .rep n b r, h, c => by
    have h : n * ppl b + ppl r = 0 := h
    have h2 : ppl r = 0 := by omega
    have h1 : n * ppl b = 0 := by omega
    show G r (it (G b) n c) = c
    rw [G_none r h2]
    rcases Nat.mul_eq_zero.mp h1 with e | e
    · rw [e]; rfl
    · exact it_id (G_none b e) n c
theorem slim_one {b r : T} : slim (.rep 1 b r) = app (slim b) (slim r) := if_pos rfl
theorem slim_rep {n : Nat} {b r : T} (h1 : n ≠ 1) (h2 : 0 < n * ppl b) : slim (.rep n b r) = .rep n b (slim r) := by
  show (if n = 1 then app (slim b) (slim r) else if 0 < n * ppl b then .rep n b (slim r) else slim r) = _
  rw [if_neg h1, if_pos h2]
theorem slim_no {n : Nat} {b r : T} (h1 : n ≠ 1) (h2 : ¬ 0 < n * ppl b) : slim (.rep n b r) = slim r := by
  show (if n = 1 then app (slim b) (slim r) else if 0 < n * ppl b then .rep n b (slim r) else slim r) = _
  rw [if_neg h1, if_neg h2]
/-- by the three ways of a rep -/
theorem slim_ind {P : T → T → Prop} (h0 : P .nil .nil) (h1 : ∀ l m r, P r (slim r) → P (.say l m r) (.say l m (slim r)))
    (h2 : ∀ b r, P b (slim b) → P r (slim r) → P (.rep 1 b r) (app (slim b) (slim r))) (h3 : ∀ n b r, n ≠ 1 → P r (slim r) → P (.rep n b r) (.rep n b (slim r)))
    (h4 : ∀ n b r, n * ppl b = 0 → P r (slim r) → P (.rep n b r) (slim r)) : ∀ t, P t (slim t)
  | .nil => h0
  | .say l m r => h1 l m r (slim_ind h0 h1 h2 h3 h4 r)
  | .rep n b r => by
    have ir := slim_ind h0 h1 h2 h3 h4 r
    by_cases e : n = 1
    · subst e
      rw [slim_one]
      exact h2 b r (slim_ind h0 h1 h2 h3 h4 b) ir
    · by_cases e2 : 0 < n * ppl b
      · rw [slim_rep e e2]
        exact h3 n b r e ir
      · rw [slim_no e e2]
        exact h4 n b r (by omega) ir
theorem F_slim (t : T) : ∀ c, F (slim t) c = F t c :=
  slim_ind (P := fun t u => ∀ c, F u c = F t c) (fun _ => rfl)
    (fun l m r h c => by show f1 l m (F (slim r) c) = f1 l m (F r c); rw [h])
    (fun b r hb hr c => by rw [F_app, hb, hr]; rfl)
    (fun n b r _ hr c => by show it (F b) n (F (slim r) c) = it (F b) n (F r c); rw [hr])
    (fun n b r e hr c => by
      rw [hr]
      show F r c = it (F b) n (F r c)
      rcases Nat.mul_eq_zero.mp e with e | e
      · rw [e]; rfl
      · rw [it_id (F_none b e)]) t
theorem G_slim (t : T) : ∀ c, G (slim t) c = G t c :=
  slim_ind (P := fun t u => ∀ c, G u c = G t c) (fun _ => rfl)
    (fun l m r h c => h _)
    (fun b r hb hr c => by rw [G_app, hb, hr]; rfl)
    (fun n b r _ hr c => hr _)
    (fun n b r e hr c => by
      rw [hr]
      show G r c = G r (it (G b) n c)
      rcases Nat.mul_eq_zero.mp e with e | e
      · rw [e]; rfl
      · rw [it_id (G_none b e)]) t
theorem ppl_slim (t : T) : ppl (slim t) = ppl t :=
  slim_ind (P := fun t u => ppl u = ppl t) rfl
    (fun l m r h => by show 1 + ppl (slim r) = 1 + ppl r; rw [h])
    (fun b r hb hr => by
      rw [ppl_app, hb, hr]
      show ppl b + ppl r = 1 * ppl b + ppl r
      omega)
    (fun n b r _ hr => by show n * ppl b + ppl (slim r) = n * ppl b + ppl r; rw [hr])
    (fun n b r e hr => by
      rw [hr]
      show ppl r = n * ppl b + ppl r
      omega) t
theorem size_slim (t : T) : size (slim t) ≤ size t :=
  slim_ind (P := fun t u => size u ≤ size t) (Nat.le_refl _)
    (fun l m r h => by show 1 + size (slim r) ≤ 1 + size r; omega)
    (fun b r hb hr => by
      rw [size_app]
      show _ ≤ 1 + size b + size r
      omega)
    (fun n b r _ hr => by show 1 + size b + size (slim r) ≤ 1 + size b + size r; omega)
    (fun n b r e hr => by
      show _ ≤ 1 + size b + size r
      omega) t
theorem depth_slim (t : T) : depth (slim t) ≤ depth t :=
  slim_ind (P := fun t u => depth u ≤ depth t) (Nat.le_refl _)
    (fun l m r h => h)
    (fun b r hb hr => by
      rw [depth_app]
      show _ ≤ max (depth b + 1) (depth r)
      omega)
    (fun n b r _ hr => by show max (depth b + 1) (depth (slim r)) ≤ max (depth b + 1) (depth r); omega)
    (fun n b r e hr => by
      show _ ≤ max (depth b + 1) (depth r)
      omega) t
theorem ok_slim (t : T) : ok t → ok (slim t) :=
  slim_ind (P := fun t u => ok t → ok u) (fun h => h)
    (fun l m r hr h => ⟨h.1, hr h.2⟩)
    (fun b r hb hr h => ok_app (hb h.1.2.2.2) (hr h.2))
    (fun n b r _ hr h => ⟨h.1, hr h.2⟩)
    (fun n b r e hr h => hr h.2) t
theorem len_le : ∀ t : T, len t ≤ size t
  | .nil => Nat.le_refl _
  | .say _ _ r => by
    have h := len_le r
    show 1 + len r ≤ 1 + size r
    omega
  | .rep _ b r => by
    have h := len_le r
    show 1 + len r ≤ 1 + size b + size r
    omega
theorem len_app : ∀ t u : T, len (app t u) = len t + len u
  | .nil, u => by show len u = 0 + len u; omega
  | .say _ _ r, u => by
    have h := len_app r u
    show 1 + len (app r u) = 1 + len r + len u
    omega
  | .rep n b r, u => by
    have h := len_app r u
    show 1 + len (app r u) = 1 + len r + len u
    omega

/-! ### the company and the wish answer one another -/
theorem gal1 (l : Int) (m : Option Int) (w c : Int) : w ≤ f1 l m c ↔ g1 l m w ≤ c := by
  unfold f1 g1
  cases m with
  | none =>
    dsimp only
    split <;> split <;> omega
  | some x =>
    dsimp only
    split <;> split <;> (try split) <;> (try split) <;> omega
theorem gal_it {f g : Int → Int} (h : ∀ w c, w ≤ f c ↔ g w ≤ c) : ∀ (n : Nat) (w c : Int), w ≤ it f n c ↔ it g n w ≤ c
  | 0, _, _ => Iff.rfl
  | n + 1, w, c => by
    rw [it_succ f, h]
    exact gal_it h n (g w) c
theorem gal : ∀ (t : T) (w c : Int), w ≤ F t c ↔ G t w ≤ c
  | .nil, _, _ => Iff.rfl
  | .say l m r, w, c => by
    show w ≤ f1 l m (F r c) ↔ G r (g1 l m w) ≤ c
    rw [gal1]
    exact gal r _ c
  | .rep n b r, w, c => by
    show w ≤ it (F b) n (F r c) ↔ G r (it (G b) n w) ≤ c
    rw [gal_it (gal b)]
    exact gal r _ c
theorem G_F (t : T) (c : Int) : G t (F t c) ≤ c := (gal t _ c).mp (Int.le_refl _)

/-! ### bounds -/
theorem f1_ge (l : Int) (m : Option Int) (c : Int) : c ≤ f1 l m c ∧ f1 l m c ≤ c + 1 := by
  unfold f1
  cases m with
  | none => dsimp only; split <;> omega
  | some x => dsimp only; split <;> (try split) <;> omega
theorem it_ge {f : Int → Int} {k : Nat} (h : ∀ c, c ≤ f c ∧ f c ≤ c + (k : Int)) : ∀ (n : Nat) (c : Int), c ≤ it f n c ∧ it f n c ≤ c + ((n * k : Nat) : Int)
  | 0, c => by
    show c ≤ c ∧ c ≤ c + ((0 * k : Nat) : Int)
    omega
  | n + 1, c => by
    have a := h c
    have b := it_ge h n (f c)
    have e : (((n + 1) * k : Nat) : Int) = ((n * k : Nat) : Int) + (k : Int) := by rw [Nat.add_mul, Nat.one_mul, Int.natCast_add]
    show c ≤ it f n (f c) ∧ it f n (f c) ≤ _
    rw [e]
    omega
theorem F_ge : ∀ (t : T) (c : Int), c ≤ F t c ∧ F t c ≤ c + (ppl t : Int)
  | .nil, c => by
    show c ≤ c ∧ c ≤ c + ((0 : Nat) : Int)
    omega
  | .say l m r, c => by
    have a := F_ge r c
    have b := f1_ge l m (F r c)
    show c ≤ f1 l m (F r c) ∧ f1 l m (F r c) ≤ c + ((1 + ppl r : Nat) : Int)
    omega
  | .rep n b r, c => by
    have a := F_ge r c
    have d := it_ge (fun c => F_ge b c) n (F r c)
    show c ≤ it (F b) n (F r c) ∧ it (F b) n (F r c) ≤ c + ((n * ppl b + ppl r : Nat) : Int)
    rw [Int.natCast_add]
    omega
theorem g1_le (l : Int) (m : Option Int) (w : Int) : g1 l m w ≤ w ∧ w - 1 ≤ g1 l m w := by
  unfold g1
  cases m with
  | none => dsimp only; split <;> omega
  | some x => dsimp only; split <;> (try split) <;> omega
theorem it_le {f : Int → Int} {k : Nat} (h : ∀ c, f c ≤ c ∧ c - (k : Int) ≤ f c) : ∀ (n : Nat) (c : Int), it f n c ≤ c ∧ c - ((n * k : Nat) : Int) ≤ it f n c
  | 0, c => by
    show c ≤ c ∧ c - ((0 * k : Nat) : Int) ≤ c
    omega
  | n + 1, c => by
    have a := h c
    have b := it_le h n (f c)
    have e : (((n + 1) * k : Nat) : Int) = ((n * k : Nat) : Int) + (k : Int) := by rw [Nat.add_mul, Nat.one_mul, Int.natCast_add]
    show it f n (f c) ≤ c ∧ _ ≤ it f n (f c)
    rw [e]
    omega
theorem G_le : ∀ (t : T) (w : Int), G t w ≤ w ∧ w - (ppl t : Int) ≤ G t w
  | .nil, c => by
    show c ≤ c ∧ c - ((0 : Nat) : Int) ≤ c
    omega
  | .say l m r, c => by
    have b := g1_le l m c
    have a := G_le r (g1 l m c)
    show G r (g1 l m c) ≤ c ∧ c - ((1 + ppl r : Nat) : Int) ≤ G r (g1 l m c)
    omega
  | .rep n b r, c => by
    have d := it_le (fun c => G_le b c) n c
    have a := G_le r (it (G b) n c)
    show G r (it (G b) n c) ≤ c ∧ c - ((n * ppl b + ppl r : Nat) : Int) ≤ G r (it (G b) n c)
    rw [Int.natCast_add]
    omega
theorem g1_nn {l : Int} {m : Option Int} {w : Int} (hl : 0 ≤ l) (h : 0 ≤ w) : 0 ≤ g1 l m w := by
  unfold g1
  cases m with
  | none => dsimp only; split <;> omega
  | some x => dsimp only; split <;> (try split) <;> omega
theorem it_nn {f : Int → Int} (h : ∀ c, 0 ≤ c → 0 ≤ f c) : ∀ (n : Nat) (c : Int), 0 ≤ c → 0 ≤ it f n c
  | 0, _, h0 => h0
  | n + 1, c, h0 => it_nn h n (f c) (h c h0)
theorem G_nn : ∀ (t : T), ok t → ∀ w, 0 ≤ w → 0 ≤ G t w
  | .nil, _, _, h => h
  | .say _ _ r, k, _, h => G_nn r k.2 _ (g1_nn k.1.1 h)
  | .rep n b r, k, _, h => G_nn r k.2 _ (it_nn (G_nn b k.1.2.2.2) n _ h)
theorem G_zero {t : T} (k : ok t) : G t 0 = 0 := by
  have a := G_nn t k 0 (Int.le_refl _)
  have b := (G_le t 0).1
  omega

/-! ### by how much more all would speak alike -/
/-- at c, and by up to so much more, g grows by as much -/
def Sl (g : Int → Int) (c : Int) (s : Option Int) : Prop := (∀ x, s = some x → 0 ≤ x) ∧ ∀ d, 0 ≤ d → (∀ x, s = some x → d ≤ x) → g (c + d) = g c + d
/-- .. and less -/
def Sm (g : Int → Int) (c : Int) (s : Option Int) : Prop := (∀ x, s = some x → 0 ≤ x) ∧ ∀ d, 0 ≤ d → (∀ x, s = some x → d ≤ x) → g (c - d) = g c - d
/-- the lesser of two, none the greatest -/
def les : Option Int → Option Int → Option Int
  | none, s => s
  | some x, none => some x
  | some x, some y => some (if y < x then y else x)
theorem les_some {a b : Option Int} {d : Int} : (∀ x, les a b = some x → d ≤ x) ↔ (∀ x, a = some x → d ≤ x) ∧ ∀ x, b = some x → d ≤ x := by
  cases a with
  | none => simp [les]
  | some x =>
    cases b with
    | none => simp [les]
    | some y =>
      simp only [les, Option.some.injEq, forall_eq']
      split <;> omega
theorem les_nn {a b : Option Int} (h : ∀ x, a = some x → 0 ≤ x) (h' : ∀ x, b = some x → 0 ≤ x) : ∀ x, les a b = some x → 0 ≤ x := les_some.mpr ⟨h, h'⟩
theorem Sl.comp {g h : Int → Int} {c : Int} {s u : Option Int} (a : Sl g c s) (b : Sl h (g c) u) : Sl (fun x => h (g x)) c (les s u) := by
  refine ⟨les_nn a.1 b.1, fun d h0 hd => ?_⟩
  obtain ⟨h1, h2⟩ := les_some.mp hd
  show h (g (c + d)) = h (g c) + d
  rw [a.2 d h0 h1, b.2 d h0 h2]
theorem Sm.comp {g h : Int → Int} {c : Int} {s u : Option Int} (a : Sm g c s) (b : Sm h (g c) u) : Sm (fun x => h (g x)) c (les s u) := by
  refine ⟨les_nn a.1 b.1, fun d h0 hd => ?_⟩
  obtain ⟨h1, h2⟩ := les_some.mp hd
  show h (g (c - d)) = h (g c) - d
  rw [a.2 d h0 h1, b.2 d h0 h2]
theorem Sl.id (c : Int) : Sl (fun x => x) c none := ⟨fun _ h => (nomatch h), fun _ _ _ => rfl⟩
theorem Sm.id (c : Int) : Sm (fun x => x) c none := ⟨fun _ h => (nomatch h), fun _ _ _ => rfl⟩
/-- word_of's second answer -/
def own1 (l : Int) (m : Option Int) (c : Int) : Option Int :=
  if c < l then some (l - 1 - c) else match m with | none => none | some x => if c ≤ x then some (x - c) else none
theorem own1_sl (l : Int) (m : Option Int) (c : Int) : Sl (f1 l m) c (own1 l m c) := by
  unfold own1 f1 Sl
  cases m with
  | none =>
    dsimp only
    by_cases h : c < l
    · rw [if_pos h]
      refine ⟨fun x e => by cases e; omega, fun d h0 hd => ?_⟩
      have hd := hd _ rfl
      rw [if_pos (by omega), if_pos h]
    · rw [if_neg h]
      refine ⟨fun x e => (nomatch e), fun d h0 hd => ?_⟩
      rw [if_neg (by omega), if_neg h]
      omega
  | some x =>
    dsimp only
    by_cases h : c < l
    · rw [if_pos h]
      refine ⟨fun x e => by cases e; omega, fun d h0 hd => ?_⟩
      have hd := hd _ rfl
      rw [if_pos (by omega), if_pos h]
    · rw [if_neg h]
      by_cases h2 : c ≤ x
      · rw [if_pos h2]
        refine ⟨fun x e => by cases e; omega, fun d h0 hd => ?_⟩
        have hd := hd _ rfl
        rw [if_neg (by omega), if_neg h, if_pos (by omega), if_pos h2]
        omega
      · rw [if_neg h2]
        refine ⟨fun x e => (nomatch e), fun d h0 hd => ?_⟩
        rw [if_neg (by omega), if_neg h, if_neg (by omega), if_neg h2]
/-- wished's own -/
def owd (l : Int) (m : Option Int) (w : Int) : Option Int :=
  match m with
  | some x => if w > x + 1 then some (w - x - 2) else if w > l then some (w - l - 1) else none
  | none => if w > l then some (w - l - 1) else none
theorem owd_sm (l : Int) (m : Option Int) (w : Int) : Sm (g1 l m) w (owd l m w) := by
  unfold owd g1 Sm
  cases m with
  | none =>
    dsimp only
    by_cases h : w > l
    · rw [if_pos h]
      refine ⟨fun x e => by cases e; omega, fun d h0 hd => ?_⟩
      have hd := hd _ rfl
      rw [if_pos (by omega), if_pos h]
      omega
    · rw [if_neg h]
      refine ⟨fun x e => (nomatch e), fun d h0 hd => ?_⟩
      rw [if_neg (by omega), if_neg h]
  | some x =>
    dsimp only
    by_cases h : w > x + 1
    · rw [if_pos h]
      refine ⟨fun x e => by cases e; omega, fun d h0 hd => ?_⟩
      have hd := hd _ rfl
      rw [if_pos (by omega), if_pos h]
    · rw [if_neg h]
      by_cases h2 : w > l
      · rw [if_pos h2]
        refine ⟨fun x e => by cases e; omega, fun d h0 hd => ?_⟩
        have hd := hd _ rfl
        rw [if_neg (by omega), if_neg h, if_pos (by omega), if_pos h2]
        omega
      · rw [if_neg h2]
        refine ⟨fun x e => (nomatch e), fun d h0 hd => ?_⟩
        rw [if_neg (by omega), if_neg h, if_neg (by omega), if_neg h2]
/-- k times more, all alike -/
theorem steps {g : Int → Int} {c gr : Int} {s : Option Int} (a : Sl g c s) (e : g c = c + gr) (h0 : 0 ≤ gr) : ∀ (k : Nat), (∀ x, s = some x → (k : Int) * gr ≤ x) →
    ∀ d, 0 ≤ d → (∀ x, s = some x → (k : Int) * gr + d ≤ x) → it g (k + 1) (c + d) = c + d + ((k : Int) + 1) * gr
  | 0, _, d, d0, hd => by
    show g (c + d) = _
    rw [a.2 d d0 (fun x q => by have := hd x q; simpa using this), e]
    simp
    omega
  | k + 1, hk, d, d0, hd => by
    have e1 : (((k + 1 : Nat) : Int)) * gr = (k : Int) * gr + gr := by rw [Int.natCast_add, Int.add_mul]; simp
    have kg : 0 ≤ (k : Int) * gr := Int.mul_nonneg (Int.natCast_nonneg _) h0
    have ih := steps a e h0 k (fun x q => by have := hk x q; rw [e1] at this; omega) d d0 (fun x q => by have := hd x q; rw [e1] at this; omega)
    rw [it_succ, ih]
    have e2 : ((k : Int) + 1) * gr = (k : Int) * gr + gr := by rw [Int.add_mul]; simp
    have e3 : (((k + 1 : Nat) : Int) + 1) * gr = (k : Int) * gr + gr + gr := by rw [Int.add_mul, e1]; simp
    have q := a.2 (d + ((k : Int) + 1) * gr) (by rw [e2]; omega) (fun x q => by have := hd x q; rw [e1] at this; rw [e2]; omega)
    rw [show c + d + ((k : Int) + 1) * gr = c + (d + ((k : Int) + 1) * gr) by omega, q, e, e3, e2]
    omega
theorem steps_m {g : Int → Int} {c gr : Int} {s : Option Int} (a : Sm g c s) (e : g c = c - gr) (h0 : 0 ≤ gr) : ∀ (k : Nat), (∀ x, s = some x → (k : Int) * gr ≤ x) →
    ∀ d, 0 ≤ d → (∀ x, s = some x → (k : Int) * gr + d ≤ x) → it g (k + 1) (c - d) = c - d - ((k : Int) + 1) * gr
  | 0, _, d, d0, hd => by
    show g (c - d) = _
    rw [a.2 d d0 (fun x q => by have := hd x q; simpa using this), e]
    simp
    omega
  | k + 1, hk, d, d0, hd => by
    have e1 : (((k + 1 : Nat) : Int)) * gr = (k : Int) * gr + gr := by rw [Int.natCast_add, Int.add_mul]; simp
    have kg : 0 ≤ (k : Int) * gr := Int.mul_nonneg (Int.natCast_nonneg _) h0
    have ih := steps_m a e h0 k (fun x q => by have := hk x q; rw [e1] at this; omega) d d0 (fun x q => by have := hd x q; rw [e1] at this; omega)
    rw [it_succ, ih]
    have e2 : ((k : Int) + 1) * gr = (k : Int) * gr + gr := by rw [Int.add_mul]; simp
    have e3 : (((k + 1 : Nat) : Int) + 1) * gr = (k : Int) * gr + gr + gr := by rw [Int.add_mul, e1]; simp
    have q := a.2 (d + ((k : Int) + 1) * gr) (by rw [e2]; omega) (fun x q => by have := hd x q; rw [e1] at this; rw [e2]; omega)
    rw [show c - d - ((k : Int) + 1) * gr = c - (d + ((k : Int) + 1) * gr) by omega, q, e, e3, e2]
    omega
/-- what is left of the slack -/
def lessBy (s : Option Int) (y : Int) : Option Int := s.map fun x => x - y
theorem many {g : Int → Int} {c gr : Int} {s : Option Int} (a : Sl g c s) (e : g c = c + gr) (h0 : 0 ≤ gr) {k : Nat} (hk : ∀ x, s = some x → (k : Int) * gr ≤ x) :
    it g (k + 1) c = g c + (k : Int) * gr ∧ Sl (it g (k + 1)) c (lessBy s ((k : Int) * gr)) := by
  have e2 : ((k : Int) + 1) * gr = (k : Int) * gr + gr := by rw [Int.add_mul]; simp
  have st := steps a e h0 k hk
  have z := st 0 (Int.le_refl _) (fun x q => by have := hk x q; omega)
  rw [Int.add_zero] at z
  refine ⟨by rw [z, e, e2]; omega, fun x q => ?_, fun d d0 hd => ?_⟩
  · cases s with
    | none => cases q
    | some y =>
      cases q
      have := hk y rfl
      show 0 ≤ y - (k : Int) * gr
      omega
  · rw [st d d0 (fun x q => ?_), z]
    · omega
    · subst q
      have := hd (x - (k : Int) * gr) rfl
      omega
theorem many_m {g : Int → Int} {c gr : Int} {s : Option Int} (a : Sm g c s) (e : g c = c - gr) (h0 : 0 ≤ gr) {k : Nat} (hk : ∀ x, s = some x → (k : Int) * gr ≤ x) :
    it g (k + 1) c = g c - (k : Int) * gr ∧ Sm (it g (k + 1)) c (lessBy s ((k : Int) * gr)) := by
  have e2 : ((k : Int) + 1) * gr = (k : Int) * gr + gr := by rw [Int.add_mul]; simp
  have st := steps_m a e h0 k hk
  have z := st 0 (Int.le_refl _) (fun x q => by have := hk x q; omega)
  rw [Int.sub_zero] at z
  refine ⟨by rw [z, e, e2]; omega, fun x q => ?_, fun d d0 hd => ?_⟩
  · cases s with
    | none => cases q
    | some y =>
      cases q
      have := hk y rfl
      show 0 ≤ y - (k : Int) * gr
      omega
  · rw [st d d0 (fun x q => ?_), z]
    · omega
    · subst q
      have := hd (x - (k : Int) * gr) rfl
      omega
/-- how many more times at once -/
def moreOf (left : Int) (s : Option Int) (gr : Int) : Int :=
  match s with
  | none => left - 1
  | some x => if gr = 0 then left - 1 else if x / gr < left - 1 then x / gr else left - 1
theorem moreOf_ok {left : Int} {s : Option Int} {gr : Int} (hl : 0 < left) (h0 : 0 ≤ gr) (hs : ∀ x, s = some x → 0 ≤ x) :
    0 ≤ moreOf left s gr ∧ moreOf left s gr ≤ left - 1 ∧ ∀ x, s = some x → moreOf left s gr * gr ≤ x := by
  unfold moreOf
  cases s with
  | none => exact ⟨by dsimp only; omega, by dsimp only; omega, fun _ h => nomatch h⟩
  | some x =>
    have x0 := hs x rfl
    dsimp only
    by_cases hg : gr = 0
    · rw [if_pos hg]
      refine ⟨by omega, by omega, fun y h => ?_⟩
      cases h
      rw [hg, Int.mul_zero]
      exact x0
    · rw [if_neg hg]
      have q0 : 0 ≤ x / gr := Int.ediv_nonneg x0 h0
      have q1 : x / gr * gr ≤ x := Int.ediv_mul_le x hg
      by_cases h2 : x / gr < left - 1
      · rw [if_pos h2]
        exact ⟨q0, by omega, fun y h => by cases h; exact q1⟩
      · rw [if_neg h2]
        refine ⟨by omega, by omega, fun y h => ?_⟩
        cases h
        exact Int.le_trans (Int.mul_le_mul_of_nonneg_right (by omega) h0) q1
end Bo
end
section
/-! Boastrow: rules that the hand layer lacks: an exception out of a list comprehension (its element a call that may raise), ** of great ints, a list compared with the empty one. -/
namespace L2
open PySem PySem.Spec PyProof.Rows

/-! ### ** of greater ints -/
def CPowW (i j : Int) : Prop := 0 ≤ j ∧ j ≤ 1000 ∧ i.natAbs.log2 < 100000
theorem CPowW.ok {i j : Int} (h : CPowW i j) : (Builtin.Int.intBits i : Int) * j ≤ 2 ^ 27 := by
  obtain ⟨h0, h1, h2⟩ := h
  have b : Builtin.Int.intBits i ≤ i.natAbs.log2 + 1 := by
    unfold Builtin.Int.intBits
    split <;> omega
  have b2 : (Builtin.Int.intBits i : Int) ≤ 100000 := by omega
  have b3 : (Builtin.Int.intBits i : Int) * j ≤ 100000 * 1000 := Int.le_trans (Int.mul_le_mul_of_nonneg_right b2 h0) (Int.mul_le_mul_of_nonneg_left h1 (by decide))
  exact Int.le_trans b3 (by decide)
theorem wide_pow {i j : Int} {a : Nat} (h0 : 0 ≤ j) (h1 : j ≤ 1000) (h : i.natAbs < 2 ^ a) (a0 : 0 < a) (ha : a ≤ 100000) : CPowW i j := ⟨h0, h1, Nat.lt_of_lt_of_le (PySem.Flt.log2_lt_of a0 h) ha⟩
section
variable {X : Cx}
theorem op_powW : OpR X (binaryOp .Pow) (rI CPowW fun i j => .int (i ^ j.toNat)) := opI fun _ _ _ _ _ _ _ hc q => pow_int hc.1 hc.ok q
end

/-! ### an exception out of a comprehension -/
section
variable {X : Cx}
theorem tracedZ_but {h h' base : Heap} {e C : Addr} {Z : Obj → Prop} {fl : Value} {m : Str → Option Value} (x : HandSPX.TracedZ h base e Z fl) (hn : h.Ns C m) (hs : Heap.SameBut C h h') (base' : Heap) (hb : ∀ b o, base'.get? b = some o → base.get? b = some o) :
    HandSPX.TracedZ h' base' e Z fl := by
  obtain ⟨oe, vs, T, oT, ts, he, hz, hd, h1, hnT, hTe, hT, hdT, h3⟩ := x
  obtain ⟨oL, es, ep, hoL, hdL, _⟩ := hn
  have neE : e ≠ C := fun q => by
    rw [q, hoL] at he
    have z := Option.some.inj he
    rw [← z, hdL] at hd
    cases hd
  have neT : T ≠ C := fun q => by
    rw [q, hoL] at hT
    have z := Option.some.inj hT
    rw [← z, hdL] at hdT
    cases hdT
  refine ⟨oe, vs, T, oT, ts, (hs.2 e neE).trans he, hz, hd, h1, ?_, hTe, (hs.2 T neT).trans hT, hdT, h3⟩
  cases q : base'.get? T with
  | none => rfl
  | some o =>
    have z := hb T o q
    rw [hnT] at z
    cases z

/-- [elt for target in iter if ..] whose element may let out what Eo wishes -/
theorem lc_coreX {pins : List (Addr × Obj)} {s : Shared} {σ : St} {H : Hp} {Q : VK} {Eo : XK} {elt tg iter : Expr} {ifs : List Expr} {scope : Scope} {own : List (Str × Nat)} {pos pos' : Pos} {wi : TI} {g : TG} {tt : TT} {te : TE} {use : Option (Value → Sem Unit)} {Qf : Value → Shared → Prop}
    (hc : X.calm = true) (hN : X.N.Nodup) (hs0 : X.stack = X.env :: X.outer) (hf0 : X.env.frame = some X.env.locals) (tk : Takes X fun cls d _ H => Eo cls d H) (I : Inv X pins σ H s) (hi : PI X tg iter wi) (ok : BlkOk X.N X.env.scope scope own)
    (hg : ∀ (s : Shared) (H : Hp) (C : Addr) (cl : List (Str × Addr)) (fp : List Addr), PG (X.blk s H scope (compEnvC scope cl C X.env) fp) tg g) (ht : ∀ (s : Shared) (H : Hp) (C : Addr) (cl : List (Str × Addr)) (fp : List Addr), PTs (X.blk s H scope (compEnvC scope cl C X.env) fp) ifs tt)
    (he : ∀ (s : Shared) (H : Hp) (C : Addr) (cl : List (Str × Addr)) (fp : List Addr) (xe : Value → Shared → Prop), Passes (L2.CX X.prog X.w) ((X.blk s H scope (compEnvC scope cl C X.env) fp).wish xe) Eo → PE ((X.blk s H scope (compEnvC scope cl C X.env) fp).wish xe) elt te) (hs : ∀ x, foldedSetIterable iter X.env x = pure x)
    (h : tLc wi g tt te (own.map (·.2)) σ H Q)
    (hRR : ∀ D (ce : Env) s' m H', Inv X pins σ H' s' → Q (.ref D) H' → s'.heap.Ns ce.locals m → FpOk X pins H' ce.locals → compEnds (model X.prog X.w) X.A X.xe use Qf (.ref D) ce (.ok .next) s') :
    wpAny (model X.prog X.w) X.A (comprehension (.ListComp elt [⟨tg, iter, ifs, 0⟩] scope pos) scope X.env pos' (newList []) false (eval iter X.env) use) Qf X.xe s := by
  have hfree : ∀ y ∈ scope.names, y.2 = .free → ∃ c, X.env.cells.lookup y.1 = some c := fun y hy e => by
    rcases ok.free y hy e with k | k
    · exact I.ok.has _ (.inl k)
    · exact I.ok.has _ (.inr k)
  refine comprehension_at (use := use) rfl hs (closure_ok hfree) ok.kind (fun y hy e => by rw [ok.uniq y hy, e])
    (thn (hi.run pins s σ H _ I h) fun xv s1 hx => thn hx fun itv s2 h2 => ?_)
  obtain ⟨it, fp, tn, J, H2, e, I2, T, st2, f2, q⟩ := h2
  subst e
  refine wpAny_newObj_type (newEnv_comp ?_) (by show 0 ≤ sizeLine; decide)
  generalize hD : s2.heap.objs.size = D
  have hDn : H2 D = none := I2.hok.fresh (Nat.le_of_eq hD)
  obtain ⟨W, ⟨m0, w0⟩, turn⟩ := q D hDn
  -- the new list
  generalize hs3 : ({ s2 with heap := s2.heap.push { cls := .type "list", data := .seq ([] : List Value).toArray } } : Shared) = s3
  have I3 : Inv X pins σ (upd H2 D (.lst [])) s3 := by
    rw [← hs3]
    refine I2.laid (t' := s2.toks) (fun b o e => Heap.get?_push_of_some _ e) (Nat.le_of_eq hD) ⟨Nat.zero_le _, [], 0, .nil, ?_⟩
    rw [← hD]
    exact Heap.get?_push_size _ rfl
  have h3 : s3.heap = s2.heap.push { cls := .type "list", data := .seq ([] : List Value).toArray } := by rw [← hs3]
  have sz : ∀ b ∈ fp, b < s2.heap.objs.size := fun b hb => by
    obtain ⟨o, e, _⟩ := T.obj _ _ st2 b hb
    exact Heap.lt_size e
  have f3 : ∀ b ∈ fp, FpOk X pins (upd H2 D (.lst [])) b ∧ b < s3.heap.objs.size := fun b hb => by
    have hlt := sz b hb
    refine ⟨⟨?_, (f2 b hb).2⟩, by rw [h3, Heap.size_push]; exact Nat.lt_succ_of_lt hlt⟩
    rw [upd_ne (by rw [← hD]; exact Nat.ne_of_lt hlt)]
    exact (f2 b hb).1
  have st3 : tn 0 s3.heap := T.keep _ _ _ st2 fun b _ o e => by rw [h3]; exact Heap.get?_push_of_some _ e
  have I4 := block_start I3 ok hN f3
  have pg := hg s3 (upd H2 D (.lst [])) s3.heap.objs.size (cellsFrom (s3.heap.objs.size + 1) scope.names (cloFrom X.env.cells scope.names [])) fp
  have pt := ht s3 (upd H2 D (.lst [])) s3.heap.objs.size (cellsFrom (s3.heap.objs.size + 1) scope.names (cloFrom X.env.cells scope.names [])) fp
  have pe := he s3 (upd H2 D (.lst [])) s3.heap.objs.size (cellsFrom (s3.heap.objs.size + 1) scope.names (cloFrom X.env.cells scope.names [])) fp
  show codeAny _ _ (.compStart (.ListComp elt [⟨tg, iter, ifs, 0⟩] scope pos) 0 (.ref it) (.ref D) (compEnvC scope (cellsFrom (s3.heap.objs.size + 1) scope.names (cloFrom X.env.cells scope.names [])) s3.heap.objs.size X.env)) (compEnds (model X.prog X.w) X.A X.xe use Qf (.ref D) (compEnvC scope (cellsFrom (s3.heap.objs.size + 1) scope.names (cloFrom X.env.cells scope.names [])) s3.heap.objs.size X.env)) { s3 with heap := pushCells (s3.heap.push { cls := .type "dict", data := .dict #[] }) scope.names }
  have nfp : ∀ b ∈ fp, (upd H2 D (.lst [])) b = none := fun b hb => (f3 b hb).1.1
  generalize hce : compEnvC scope (cellsFrom (s3.heap.objs.size + 1) scope.names (cloFrom X.env.cells scope.names [])) s3.heap.objs.size X.env = ce at I4 pg pt pe ⊢
  have cL : ce.locals = s3.heap.objs.size := by subst hce; rfl
  have cF : ce.frame = X.env.frame := by subst hce; rfl
  generalize hH3 : upd H2 D (.lst []) = H3 at I3 I4 pg pt pe w0 nfp f3
  generalize hs4 : ({ s3 with heap := pushCells (s3.heap.push { cls := .type "dict", data := .dict #[] }) scope.names } : Shared) = s4 at I4 ⊢
  have st4 : tn 0 s4.heap := T.keep _ _ _ st3 fun b _ o e => by rw [← hs4]; exact pushCells_keeps _ _ _ _ (Heap.get?_push_of_some _ e)
  have stat : ∀ {σ' : St} {H' : Hp} {s' : Shared}, Inv (X.blk s3 H3 scope ce fp) [] σ' H' s' → (∀ b ∈ fp, H' b = none) → ∀ b ∈ fp, FpOk (X.blk s3 H3 scope ce fp) [] H' b := fun {σ' H' s'} I' hn b hb =>
    ⟨hn b hb, (I'.ok.exf b hb).1, I'.ok.exfs b hb, .inl hb, fun x c e => (I'.ok.exf b hb).2 x c e, fun p hp => absurd (show p ∈ ([] : List (Addr × Obj)) ++ [] from hp) (by simp)⟩
  -- an exception of the element: noted, the block let go, then in the def's air
  have up : ∀ (pins5 : List (Addr × Obj)) (σ5 : St) (H5 : Hp) (s5 : Shared) (e : Value) (s6 : Shared), Inv (X.blk s3 H3 scope ce fp) pins5 σ5 H5 s5 → L2.CX X.prog X.w X.stack H5 s5 Eo e s6 →
      notedBy (model X.prog X.w) X.A ce (fun e s' => compEnds (model X.prog X.w) X.A X.xe use Qf (.ref D) ce (.error e) s') e s6 := fun pins5 σ5 H5 s5 e s6 I5 cx => by
    obtain ⟨a, B', H', cls', d', rfl, fl, hok, ub, na', os', ag', hE⟩ := cx
    -- the block's names
    obtain ⟨m6, hn6, _⟩ := I5.loc
    have hn5 : s5.heap.Ns s3.heap.objs.size m6 := by
      have z : s5.heap.Ns ce.locals m6 := hn6
      rw [cL] at z
      exact z
    have nC : H5 s3.heap.objs.size = none := by
      have z : H5 ce.locals = none := I5.free
      rw [cL] at z
      exact z
    have Cfr : s3.heap.objs.size ∉ frs X.stack := fun hm => by
      rcases List.mem_cons.mp (I3.stkSub _ hm) with z | z
      · exact absurd I3.lt (by rw [← z]; exact Nat.lt_irrefl _)
      · exact I3.nofs (Nat.le_refl _) z
    obtain ⟨oC, es, ep, hoC, hdC, rC⟩ := hn5
    have hC6 : B'.get? s3.heap.objs.size = some oC := ub.keep _ oC hoC nC Cfr
    have hn6' : s6.heap.Ns s3.heap.objs.size m6 := ⟨oC, es, ep, fl.1 _ _ hC6, hdC, rC⟩
    have nC' : H' s3.heap.objs.size = none := ub.free _ oC hoC nC
    -- the ground without the block
    obtain ⟨B2, g1, g2⟩ := restrict B' fun b => decide (b ≠ s3.heap.objs.size)
    have gB : ∀ b o, B2.get? b = some o → B'.get? b = some o ∧ b ≠ s3.heap.objs.size := fun b o e => by
      by_cases hb : b = s3.heap.objs.size
      · rw [g2 b (by simp [hb])] at e
        cases e
      · rw [g1 b (by simp [hb])] at e
        exact ⟨e, hb⟩
    have gB' : ∀ b o, b ≠ s3.heap.objs.size → B'.get? b = some o → B2.get? b = some o := fun b o hb e => by
      rw [g1 b (by simp [hb])]
      exact e
    have hfr : X.A.frames = some (X.env :: X.outer) := by rw [I3.ok.frames, hs0]
    have fl2 : HandSPX.FlyingZ B' (X.env :: X.outer) a (Zc cls' d') s6.heap := by rw [← hs0]; exact fl
    show wpAny (model X.prog X.w) X.A (noteFrame (.ref a) ce) _ _ s6
    rw [noteFrame_env (.ref a) cF]
    refine HandSPX.looks_onZ Zc.steady hfr hf0 fl2 fun h7 hh7 up7 => ?_
    have hn7 : h7.Ns s3.heap.objs.size m6 := by
      obtain ⟨sl, e7⟩ := up7 _ _ (fl.1 _ _ hC6) (fun vs z => by rw [hdC] at z; cases z)
      exact ⟨_, es, ep, e7, hdC, rC⟩
    show CompFails (model X.prog X.w) X.A X.xe ce (.ref a) { s6 with heap := h7 }
    refine ⟨m6, by rw [cL]; exact hn7, fun h8 m8 hn8 sb8 => ?_⟩
    rw [cL] at hn8 sb8
    obtain ⟨k1, k2, k3, k4⟩ := hh7
    have st8 : B2.StaysIn h8 := fun b o e => (sb8.2 b (gB b o e).2).trans (k1 b o (gB b o e).1)
    have na8 : B2.get? a = none := by
      cases q : B2.get? a with
      | none => rfl
      | some o =>
        have z := (gB a o q).1
        rw [k2] at z
        cases z
    have ff8 : h8.FunFrames B2 (X.env :: X.outer) := funFrames_none (Heap.FunFrames.sameBut sb8 hn8 k3) fun L hL => by
      obtain ⟨hB, _⟩ := k3.mem hL
      cases q : B2.get? L with
      | none => rfl
      | some o =>
        have z := (gB L o q).1
        rw [hB] at z
        cases z
    have tr8 := tracedZ_but (base' := B2) k4 hn7 sb8 fun b o e => (gB b o e).1
    obtain ⟨oe, vs, T8, oT, ts, he8, hz8, hd8, h18, hr8⟩ := id tr8
    unfold PySem.passOn
    refine wpAny_bind (wpAny_field he8 hd8 h18 ?_)
    rw [if_neg (show ¬ ((Value.ref T8 == Value.none) = true) from by simp)]
    refine wpAny_bind (HandSPX.setFlight_anyZ (fr := ce.frame) st8 ff8 tr8 fun h9 s9 f9 t9 up9 => wpAny_throw (tk _ _ ?_))
    rw [cF, hf0] at t9
    -- the state without the exception and the block
    obtain ⟨G, q1, q2⟩ := restrict s6.heap fun b => ((B'.get? b).isSome || decide (b ∈ frs X.stack)) && decide (b ≠ s3.heap.objs.size)
    have gG : ∀ b o, G.get? b = some o → s6.heap.get? b = some o ∧ ((B'.get? b).isSome = true ∨ b ∈ frs X.stack) ∧ b ≠ s3.heap.objs.size := fun b o e => by
      cases q : (((B'.get? b).isSome || decide (b ∈ frs X.stack)) && decide (b ≠ s3.heap.objs.size)) with
      | false => rw [q2 b q] at e; cases e
      | true =>
        rw [q1 b q] at e
        rw [Bool.and_eq_true, Bool.or_eq_true, decide_eq_true_eq, decide_eq_true_eq] at q
        exact ⟨e, q.1, q.2⟩
    have gI : ∀ b o, b ≠ s3.heap.objs.size → B'.get? b = some o → G.get? b = some o := fun b o hb e => by
      rw [q1 b (by simp [e, hb])]
      exact fl.1 b o e
    have gF : ∀ b, b ≠ s3.heap.objs.size → b ∈ frs X.stack → G.get? b = s6.heap.get? b := fun b hb hm => q1 b (by simp [hm, hb])
    have lt3 : ∀ b o, s3.heap.get? b = some o → b ≠ s3.heap.objs.size := fun b o e => Nat.ne_of_lt (Heap.lt_size e)
    have u5 : Un (frs X.stack) fp H3 H5 s3.heap s5.heap := I5.base
    have o5 : s5.os = s3.os := I5.os
    have I7 : Inv X pins σ H' { s6 with heap := G } := by
      refine I3.call' (ch := fp) (s' := { s6 with heap := G }) (os'.trans o5) ⟨fun b o e n hb hx => ?_, fun b o e n hb hx => ?_, fun b o e n hx => ?_, fun b o e hx => ?_, fun b xs e => ub.tups b xs (u5.tups b xs e), fun b ob xs e => ub.frzs b ob xs (u5.frzs b ob xs e), fun b ps e => ?_⟩ (fun b o e => ?_) ag'
        fun b hb => ⟨(f3 b hb).1.2.2.2.1, (f3 b hb).1.2.1, (f3 b hb).1.2.2.2.2.1, (f3 b hb).1.2.2.2.2.2⟩
      · exact gI b o (lt3 b o e) (ub.keep b o (u5.keep b o e n hb hx) (u5.free b o e n hx) hb)
      · obtain ⟨sl, e1⟩ := u5.slot b o e n hb hx
        obtain ⟨sl2, e2⟩ := ub.slot b _ e1 hb
        exact ⟨sl2, by rw [gF b (lt3 b o e) hb]; exact e2⟩
      · obtain ⟨o', e1⟩ := u5.there b o e hx
        exact ub.free b o' e1 (u5.free b o e n hx)
      · obtain ⟨o', e1⟩ := u5.there b o e hx
        by_cases hb : b ∈ frs X.stack
        · obtain ⟨sl2, e2⟩ := ub.slot b _ e1 hb
          exact ⟨_, by rw [gF b (lt3 b o e) hb]; exact e2⟩
        · obtain ⟨o2, e2⟩ := ub.there b o' e1 hb
          exact ⟨o2, gI b o2 (lt3 b o e) e2⟩
      · obtain ⟨m1, e1⟩ := u5.tbls b ps e
        obtain ⟨m2, e2⟩ := ub.tbls b _ e1
        exact ⟨m1 ++ m2, by rw [e2, Array.append_assoc]⟩
      · refine (hok b o e).stay (fun c u hc r => gI c u ?_ r) (fun _ r => r) fun _ _ r => r
        intro z
        subst z
        rcases hc with z | z
        · rw [z, e] at nC'; cases nC'
        · rw [z] at nC'; cases nC'
    have upG : G.UpToSlots h9 := fun b o e hnf => by
      obtain ⟨e6, _, hb⟩ := gG b o e
      obtain ⟨sl7, e7⟩ := up7 b o e6 hnf
      have e8 := (sb8.2 b hb).trans e7
      obtain ⟨sl9, e9⟩ := up9 b _ e8 hnf
      exact ⟨sl9, e9⟩
    refine ⟨a, B2, { s6 with heap := G }, pins, σ, H', cls', d', rfl, I7, fun b o e hb => ?_, upG, .inr (.inr ?_), na', rfl, ag', hE⟩
    · obtain ⟨e6, h6, hbC⟩ := gG b o e
      rcases h6 with h6 | h6
      · obtain ⟨o', q⟩ := Option.isSome_iff_exists.mp h6
        have z := fl.1 b o' q
        rw [e6] at z
        cases z
        exact gB' b _ hbC q
      · exact absurd h6 hb
    · rw [hs0]
      exact ⟨s9, na8, f9, t9⟩
  have loop : codeAny (model X.prog X.w) X.A (.compLoop (.ListComp elt [⟨tg, iter, ifs, 0⟩] scope pos) 0 (.ref it) (.ref D) ce) (compEnds (model X.prog X.w) X.A X.xe use Qf (.ref D) ce) s4 := by
    refine compLoop_any (fun n s' => ∃ i H', Inv (X.blk s3 H3 scope ce fp) [] (wipe σ (own.map (·.2))) H' s' ∧ tn i s'.heap ∧ (∀ b ∈ fp, H' b = none) ∧ W i n H') ?_ m0 ⟨0, H3, I4, st4, nfp, w0⟩
    rintro n s5 ⟨i, H5, I5, st5, n5, w5⟩
    rcases turn i n H5 w5 with ⟨stop, qq⟩ | ⟨go, Nx, hNx, step⟩
    · have td := T.done (X.blk s3 H3 scope ce fp) rfl rfl rfl hc i [] s5 _ H5 (fun _ _ => False) I5 (stat I5 n5) st5 stop
      refine thnF td fun r s6 ⟨hr, I6⟩ => ?_
      subst hr
      -- back in the def's context
      have I7 : Inv X pins σ H5 s6 := I3.call' (ch := fp) I6.os I6.base I6.hok I6.bare fun b hb => ⟨(f3 b hb).1.2.2.2.1, (f3 b hb).1.2.1, (f3 b hb).1.2.2.2.2.1, (f3 b hb).1.2.2.2.2.2⟩
      have nC : H5 s3.heap.objs.size = none := by
        have z : H5 ce.locals = none := I6.free
        rw [cL] at z
        exact z
      obtain ⟨m, hn, _⟩ := I6.loc
      have hn : s6.heap.Ns ce.locals m := hn
      exact hRR D ce s6 m H5 I7 qq hn (by rw [cL]; exact I3.fpOk (Nat.le_refl _) nC)
    · have ti := T.item (X.blk s3 H3 scope ce fp) rfl rfl rfl hc i [] s5 _ H5 (fun _ _ => False) I5 (stat I5 n5) st5 go
      refine thnF ti fun r s6 ⟨u, hr, h6⟩ => ?_
      subst hr
      refine thnF h6 fun _ s7 ⟨x, H7, I7, r7, y7, st7, n7⟩ => ?_
      have I7' := I7.pinned (stat I7 n7) (T.obj _ _ st7)
      refine thnF (pg.run _ s7 _ H7 x u _ I7' r7 (step x H7 y7)) fun _ s8 ⟨σ8, H8, I8, hw8, q8⟩ => ?_
      refine thnF (pt.run _ s8 σ8 H8 _ I8 q8) fun b s9 ⟨H9, I9, q9⟩ => ?_
      -- the turn's end
      have fin : ∀ {s' : Shared} {H' : Hp}, Inv (X.blk s3 H3 scope ce fp) ([] ++ pinsAt fp s7.heap) σ8 H' s' → Nx H' → ∃ m, m < n ∧ ∃ i H', Inv (X.blk s3 H3 scope ce fp) [] (wipe σ (own.map (·.2))) H' s' ∧ tn i s'.heap ∧ (∀ b ∈ fp, H' b = none) ∧ W i m H' := fun {s' H'} I' nx => by
        obtain ⟨m', hm, w'⟩ := hNx H' nx
        have pin' : ∀ b ∈ fp, ∀ o, s7.heap.get? b = some o → s'.heap.get? b = some o ∧ H' b = none := fun b hb o e =>
          let z := I'.pin (b, o) (List.mem_append_right _ (List.mem_append_right _ (mem_pinsAt hb e)))
          ⟨z.1, z.2.1⟩
        have hl : (wipe σ (own.map (·.2))).length = σ8.length := by rw [← hw8, wipe_length]
        refine ⟨m', hm, i + 1, H', (I'.unpinned (pins := [])).weak hl (fun j v e => ?_), T.keep _ _ _ st7 fun b hb o e => (pin' b hb o e).1, fun b hb => ?_, w'⟩
        · rw [← hw8] at e
          exact (wipe_some e).1
        · obtain ⟨o, e, _⟩ := T.obj _ _ st7 b hb
          exact (pin' b hb o e).2
      cases b with
      | false =>
        simp only [Bool.false_eq_true, if_false] at q9 ⊢
        exact fin I9 q9
      | true =>
        simp only [if_true] at q9 ⊢
        have pe1 := pe (notedBy (model X.prog X.w) X.A ce fun e s' => compEnds (model X.prog X.w) X.A X.xe use Qf (.ref D) ce (.error e) s') fun pins5 σ5 H5 s5 e s6 I5 cx => up pins5 σ5 H5 s5 e s6 I5.unwish cx
        refine wpAny_mono (pe1.run _ s9 σ8 H9 _ (I9.wish _) q9) (fun z s10 ⟨yv, H10, I10, r10, acc, hD10, hz10, nx⟩ => ?_) fun _ _ z => z
        exact app_ok (X := X.blk s3 H3 scope ce fp) I10.unwish hD10 hz10 r10 fun s11 I11 => fin I11 nx
  exact codeAny_compStart_list loop (T.self X.A 0 _ _ _ st4 loop)
/-- name = [..] on one line, the name a local; the element may let out what Eo wishes -/
theorem ps_setLcX {i : Nat} {y : Str} {py : Pos} {Eo : XK} {elt tg iter : Expr} {ifs : List Expr} {scope : Scope} {own : List (Str × Nat)} {pos spos : Pos} {wi : TI} {g : TG} {tt : TT} {te : TE} (hc : X.calm = true) (hN : X.N.Nodup) (hs0 : X.stack = X.env :: X.outer) (hf0 : X.env.frame = some X.env.locals)
    (tk : Takes X fun cls d _ H => Eo cls d H) (hy : X.N[i]? = some y) (hyl : X.env.scope.names.lookup y = some .local)
    (hsw : swapsWith (.ListComp elt [⟨tg, iter, ifs, 0⟩] scope pos) (some (.Name y py)) spos.line X.env = pure true) (hi : PI X tg iter wi) (ok : BlkOk X.N X.env.scope scope own)
    (hg : ∀ (s : Shared) (H : Hp) (C : Addr) (cl : List (Str × Addr)) (fp : List Addr), PG (X.blk s H scope (compEnvC scope cl C X.env) fp) tg g) (ht : ∀ (s : Shared) (H : Hp) (C : Addr) (cl : List (Str × Addr)) (fp : List Addr), PTs (X.blk s H scope (compEnvC scope cl C X.env) fp) ifs tt)
    (he : ∀ (s : Shared) (H : Hp) (C : Addr) (cl : List (Str × Addr)) (fp : List Addr) (xe : Value → Shared → Prop), Passes (L2.CX X.prog X.w) ((X.blk s H scope (compEnvC scope cl C X.env) fp).wish xe) Eo → PE ((X.blk s H scope (compEnvC scope cl C X.env) fp).wish xe) elt te) (hs : ∀ x, foldedSetIterable iter X.env x = pure x := by intro _; rfl) :
    PS X (.Assign [.Name y py] (.ListComp elt [⟨tg, iter, ifs, 0⟩] scope pos) spos) (tAsg (tLc wi g tt te (own.map (·.2))) (gName i)) := by
  refine ⟨fun pins s σ H D I h => ?_⟩
  rw [exec_Assign_Name_used _ _ _ _ hsw]
  refine wpAny_bind (wpAny_standAt (wpAny_bind ?_))
  show wpAny _ X.A (do let _ ← comprehension (.ListComp elt [⟨tg, iter, ifs, 0⟩] scope pos) scope X.env (firstIterPos [⟨tg, iter, ifs, 0⟩] pos) (newList []) false (eval iter X.env) (some (assign (.Name y py) X.env))) _ _ s
  have h : tLc wi g tt te (own.map (·.2)) σ H (fun x H1 => gName i x σ H1 D.nx) := h
  refine wpAny_bind (thn (lc_coreX (Qf := fun _ s' => SP X pins D .next s') hc hN hs0 hf0 tk I hi ok hg ht he hs h fun L ce s' m H' I' q hn f => ?_) fun _ s' hq => wpAny_pure (wpAny_pure hq))
  show wpAny _ _ (assign (.Name y py) X.env (.ref L)) _ _ _
  refine wpAny_assign_Name (store_ok2 (v := V.ref L) I' hN hy (.inl hyl) rfl (fun s2 I2 ⟨a, sb, ha⟩ => ?_) (.inr hyl))
  obtain ⟨f0, f1, f2, f3, f4, f5⟩ := f
  have haC : ce.locals ≠ a := by
    rcases ha with z | z
    · rw [z]; exact f1
    · exact fun e => f4 y a z e.symm
  refine ⟨m, hn.sameBut sb haC, fun h3 sb3 => ?_⟩
  exact ⟨_, H', I2.turned (t' := s2.toks) (fun b o hb e => (sb3.2 b hb).trans e) f0 f1 f3 f4 f5, q⟩
end

/-! ### a list compared with the empty one -/
section
variable {X : Cx}
def rEqNil (K : PySem.W.Frag) : R2 := fun x y H Q => ∃ a b xs, x = .ref a ∧ y = .ref b ∧ SqL K H a xs ∧ SqL K H b [] ∧ Q (.bl xs.isEmpty) H
theorem op_eqNil (hu : X.A.units < cLine) : OpR X (compareOp .Eq) (rEqNil X.K) := by
  intro pins s σ H x y v u Q I rx ry h
  obtain ⟨a, b, xs, rfl, rfl, ha, hb, q⟩ := h
  cases rx
  cases ry
  obtain ⟨its, r1, p1, _⟩ := I.list ha
  obtain ⟨its2, r2, p2, _⟩ := I.list hb
  cases r2
  cases r1 with
  | nil => exact SeqAt.eq_listAt (e := fun _ => true) p1.isList p2.isList rfl hu (fun j h1 _ => absurd h1 (Nat.not_lt_zero j)) (fin_bl I q rfl)
  | cons r t => exact SeqAt.eq_list_lengthsAt p1.isList p2.isList (by simp) hu (fin_bl I q rfl)
end

/-! ### o.m(..) where what is raised is wished for at the caller's slots -/
section
variable {X : Cx} {CX : CXT} {k : Nat} {f C : Addr} {fd : FuncData} {ps : List Str} {sp : Sp} {E : St → XK} {x m : Str} {p pos apos : Pos} {e o : Expr} {es : List Expr} {ta : TE} {t : TA}
def tMethSX (C : Addr) (m : Str) (sp : Sp) (E : St → XK) (ta : TE) (t : TA) : TE := fun σ H Q => ta σ H fun x H1 => ∃ a dx fs, x = .ref a ∧ H1 a = some (.ins C dx fs) ∧ fs.lookup m = none ∧
  t σ H1 fun vs H2 => sp (x :: vs) H2 Q (E σ)
theorem pe_methSX {pl : Sem Bool} (he : PE X o ta) (c : Cls X.K C) (hm : Meth X.K C m f) (F : FnOk X.prog X.w X.K X.mg X.base CX k f fd ps sp) (hr : Room k X.A) (hb : Binds X.K fd ps []) (hx : ∀ σ, PassesAt CX X σ (E σ)) (ha : PA X (e :: es) t)
    (hst : starEach (e :: es) X.env = (false, eval e X.env) :: starEach es X.env := by rfl) (hpl : (backTo pos (starEach es X.env)).any (·.1) = false := by rfl)
    (ht : eval (.Call (.Attribute o m apos) (e :: es) [] pos) X.env = (do
      let ov ← eval o X.env
      standAt apos.atName
      let (f, first) ← holding [ov] (getMethod ov m pl)
      callWith pos f first (backTo pos (starEach (e :: es) X.env)) (backToKw pos (keywordEach [] X.env))) := by rfl) :
    PE X (.Call (.Attribute o m apos) (e :: es) [] pos) (tMethSX C m sp E ta t) := by
  refine ⟨fun pins s σ H Q I h => ?_⟩
  refine PySem.W.methodCall_KW (pl := pl) (thn (he.run pins s σ H _ I h) fun u s1 ⟨x, H1, I1, rx, a, dx, fs, ex, ea, l, q⟩ => ?_) ht
  subst ex
  obtain rfl : u = Value.ref a := rx
  refine getmeth_ok I1 ea c hm l ?_
  refine PySem.W.callWith_K (first := [.ref a]) (h₀ := X.base) I.ok.mod.kin hm.kp (thn (ha.run pos pins s1 σ H1 _ I1 q) fun us s2 ⟨vs, H2, I2, r, q2⟩ => ⟨I2.kIn, ?_⟩) hst hpl
  exact run_fnS (us := .ref a :: us) (vs := .ref a :: vs) F hr hb (hx σ) I2 (.cons rfl r) q2
end

/-! ### the end, with what the head says of loose names -/
theorem walk_ofX {l : PySem.W.OpenLaw} {n k : Nat} {q : Program} {loose : List Str} {XP : (Str → Option Value) → Heap → Prop} {YP : World → Heap → Prop} {d : DefRec} {K : Params → PySem.W.Frag} {CX : World → CXT} {sp : World → Sp} {x : Str}
    (hn : l.most = some n) (hn2 : n ≤ sizeLine) (hdf : d.params.defaults = []) (hr : Room k callerA)
    (hY : ∀ (w : World) (h : Heap), YP w h → (K w.params).In h)
    (F : ∀ (w : World) (mg : Str → Option Value) (fa : Addr) (h : Heap), (K w.params).In h → h.Ns mainGlobals mg → XP mg h → mg d.name = some (.ref fa) →
      ∃ fd : FuncData, (∀ (s : Shared) (u : Value), BindsTo s fd ⟨[u], []⟩ [(x, u)]) ∧
        ∀ base : Heap, (K w.params).In base → base.Ns mainGlobals mg → FnOk l.prog w (K w.params) mg base (CX w) k fa fd [x] (sp w))
    (hsp : ∀ (w : World) (H : Hp) (a : Addr) (ns : List Int), ns.length ≤ n → Only H → SqL (K w.params) H a (ns.map V.int) → sp w [.ref a] H (fun v _ => v = .bl true) fun _ _ _ => False)
    (hCX : ∀ (w : World) (H : Hp) (s : Shared) (e : Value) (s' : Shared), CX w [] H s (fun _ _ _ => False) e s' → False) :
    PySem.W.WalkO q loose XP YP l.row.toRowW d [] (fun f vs => PySem.call f vs) := by
  refine Att.attach_call hn hdf fun w s₀ s₁ mg mb fa o pm cd doc a vs ns G Y ho hd hcd hmg hobj hints hlen hg => ?_
  have KX := hY w _ Y
  obtain ⟨fd, hb, hF⟩ := F w mg fa _ KX G.T.g G.X hmg
  exact law_call KX G.T.g G.T.b G.T.builtins G.T.nolimit hg hobj hints (Nat.le_trans hlen hn2) hr hF hb (fun H hO hS => hsp w H a ns hlen hO hS) fun H e s' => hCX w H s₁ e s'
end L2
end
section
/-! Boastrow: the text by places, what of it is asked, how rows lie in the heap. -/
namespace Bo
open PySem PySem.Spec L2

/-! ### the text by places -/
def top (i : Nat) : Stmt := PySem.Challenge.pw_boastrow_k92_whole_rows_behind_rows.main.body.getD i (.Pass ⟨0, 0, 0, 0⟩)

/-! ### a def where it stands -/
section
variable (P : Program) (w : World) (K : PySem.W.Frag) (mg : Str → Option Value) (base : Heap)
/-- a def of the module -/
def Here (x : Str) (st : Stmt) (ps : List Str) : Prop := ∃ f fd, Fun K x x st f fd ∧ mg x = some (.ref f) ∧ Binds K fd ps []
/-- a method of the class at C -/
def HereM (C : Addr) (m qual : Str) (st : Stmt) (ps : List Str) : Prop := ∃ f fd, Fun K m qual st f fd ∧ Meth K C m f ∧ Binds K fd ps []
/-- the __init__ of the class at C -/
def HereI (C : Addr) (qual : Str) (st : Stmt) (ps : List Str) : Prop := ∃ f fd, Fun K "__init__" qual st f fd ∧ Mk K C f ∧ Binds K fd ps []
/-- a def that keeps its promise -/
def Def (CX : CXT) (k : Nat) (x : Str) (ps : List Str) (sp : Sp) : Prop := ∃ f fd, mg x = some (.ref f) ∧ PySem.W.keepIn K (.ref f) = true ∧ Binds K fd ps [] ∧ FnOk P w K mg base CX k f fd ps sp
def DefM (CX : CXT) (k : Nat) (C : Addr) (m : Str) (ps : List Str) (sp : Sp) : Prop := ∃ f fd, Meth K C m f ∧ Binds K fd ps [] ∧ FnOk P w K mg base CX k f fd ps sp
def DefI (CX : CXT) (k : Nat) (C : Addr) (ps : List Str) (sp : Sp) : Prop := ∃ f fd, Mk K C f ∧ Binds K fd ps [] ∧ FnOk P w K mg base CX k f fd ps sp
end
section
variable {P : Program} {w : World} {K : PySem.W.Frag} {mg : Str → Option Value} {base : Heap}
/-- THE RULE for a def of the module that lets nothing out -/
theorem Here.ok {x : Str} {st : Stmt} {ps N : List Str} {k : Nat} {sp : Sp} (h : Here K mg x st ps) (S : FnScope N ps (defScope st)) (len : ∀ vs H Q E, sp vs H Q E → vs.length = ps.length)
    (hbody : ∀ (f : Addr) (cdv : Value) (A : Around) (outer : List Env) (s : Shared) (H : Hp) (vs : List V) (Q : VK) (E : XK), Room k (A.deeper (PyProof.Rows.envOfC x (defScope st) s.heap.objs.size f cdv)) → sp vs H Q E →
      ∃ t, PSs (cxOf CX0 P w K mg base N x (defScope st) f cdv A outer s H E).nox (defBody st) t ∧ t { nx := fun _ H' => Q .non H', rt := Q } (start N vs) H) : Def P w K mg base CX0 (k + 1) x ps sp := by
  obtain ⟨f, fd, F, m, b⟩ := h
  exact ⟨f, fd, m, F.kp, b, F.ok S len (hbody f)⟩
theorem Here.okX {x : Str} {st : Stmt} {ps N : List Str} {k : Nat} {sp : Sp} (h : Here K mg x st ps) (S : FnScope N ps (defScope st)) (len : ∀ vs H Q E, sp vs H Q E → vs.length = ps.length)
    (hbody : ∀ (f : Addr) (cdv : Value) (A : Around) (outer : List Env) (s : Shared) (H : Hp) (vs : List V) (Q : VK) (E : XK), Room k (A.deeper (PyProof.Rows.envOfC x (defScope st) s.heap.objs.size f cdv)) → sp vs H Q E →
      ∃ t, PSs (cxOf (L2.CX P w) P w K mg base N x (defScope st) f cdv A outer s H E) (defBody st) t ∧ t { nx := fun _ H' => Q .non H', rt := Q } (start N vs) H) : Def P w K mg base (L2.CX P w) (k + 1) x ps sp := by
  obtain ⟨f, fd, F, m, b⟩ := h
  exact ⟨f, fd, m, F.kp, b, F.okX S len (hbody f)⟩
theorem HereM.ok {C : Addr} {x qual : Str} {st : Stmt} {ps N : List Str} {k : Nat} {sp : Sp} (h : HereM K C x qual st ps) (S : FnScope N ps (defScope st)) (len : ∀ vs H Q E, sp vs H Q E → vs.length = ps.length)
    (hbody : ∀ (f : Addr) (cdv : Value) (A : Around) (outer : List Env) (s : Shared) (H : Hp) (vs : List V) (Q : VK) (E : XK), Room k (A.deeper (PyProof.Rows.envOfC qual (defScope st) s.heap.objs.size f cdv)) → sp vs H Q E →
      ∃ t, PSs (cxOf CX0 P w K mg base N qual (defScope st) f cdv A outer s H E).nox (defBody st) t ∧ t { nx := fun _ H' => Q .non H', rt := Q } (start N vs) H) : DefM P w K mg base CX0 (k + 1) C x ps sp := by
  obtain ⟨f, fd, F, m, b⟩ := h
  exact ⟨f, fd, m, b, F.ok S len (hbody f)⟩
theorem HereM.okX {C : Addr} {x qual : Str} {st : Stmt} {ps N : List Str} {k : Nat} {sp : Sp} (h : HereM K C x qual st ps) (S : FnScope N ps (defScope st)) (len : ∀ vs H Q E, sp vs H Q E → vs.length = ps.length)
    (hbody : ∀ (f : Addr) (cdv : Value) (A : Around) (outer : List Env) (s : Shared) (H : Hp) (vs : List V) (Q : VK) (E : XK), Room k (A.deeper (PyProof.Rows.envOfC qual (defScope st) s.heap.objs.size f cdv)) → sp vs H Q E →
      ∃ t, PSs (cxOf (L2.CX P w) P w K mg base N qual (defScope st) f cdv A outer s H E) (defBody st) t ∧ t { nx := fun _ H' => Q .non H', rt := Q } (start N vs) H) : DefM P w K mg base (L2.CX P w) (k + 1) C x ps sp := by
  obtain ⟨f, fd, F, m, b⟩ := h
  exact ⟨f, fd, m, b, F.okX S len (hbody f)⟩
theorem HereI.ok {C : Addr} {qual : Str} {st : Stmt} {ps N : List Str} {k : Nat} {sp : Sp} (h : HereI K C qual st ps) (S : FnScope N ps (defScope st)) (len : ∀ vs H Q E, sp vs H Q E → vs.length = ps.length)
    (hbody : ∀ (f : Addr) (cdv : Value) (A : Around) (outer : List Env) (s : Shared) (H : Hp) (vs : List V) (Q : VK) (E : XK), Room k (A.deeper (PyProof.Rows.envOfC qual (defScope st) s.heap.objs.size f cdv)) → sp vs H Q E →
      ∃ t, PSs (cxOf CX0 P w K mg base N qual (defScope st) f cdv A outer s H E).nox (defBody st) t ∧ t { nx := fun _ H' => Q .non H', rt := Q } (start N vs) H) : DefI P w K mg base CX0 (k + 1) C ps sp := by
  obtain ⟨f, fd, F, m, b⟩ := h
  exact ⟨f, fd, m, b, F.ok S len (hbody f)⟩
theorem Def.mono {CX : CXT} {j k : Nat} {x : Str} {ps : List Str} {sp : Sp} (D : Def P w K mg base CX j x ps sp) (h : j ≤ k) : Def P w K mg base CX k x ps sp := by
  obtain ⟨f, fd, m, kp, b, F⟩ := D
  exact ⟨f, fd, m, kp, b, F.mono h⟩
theorem Def.imp {CX : CXT} {k : Nat} {x : Str} {ps : List Str} {sp sp' : Sp} (D : Def P w K mg base CX k x ps sp) (h : ∀ vs H Q E, sp' vs H Q E → sp vs H Q E) : Def P w K mg base CX k x ps sp' := by
  obtain ⟨f, fd, m, kp, b, F⟩ := D
  exact ⟨f, fd, m, kp, b, F.imp h⟩
end

/-! ### calls of such defs -/
section
variable {X : Cx} {CX : CXT} {k : Nat} {C : Addr} {x m : Str} {ps : List Str} {sp : Sp} {E : XK} {p pos apos : Pos} {e o : Expr} {es : List Expr} {ta : TE} {t : TA}
theorem cd (D : Def X.prog X.w X.K X.mg X.base CX k x ps sp) (hr : Room k X.A) (hg : Gl X x) (hx : Passes CX X E) (ha : PA X (e :: es) t) (hdb : (x == ("__debug__" : Str)) = false := by decide)
    (he : starEach (e :: es) X.env = (false, eval e X.env) :: starEach es X.env := by rfl) (hpl : (backTo pos (starEach es X.env)).any (·.1) = false := by rfl) : PE X (.Call (.Name x p) (e :: es) [] pos) (tCall sp [] E t) := by
  obtain ⟨f, fd, mf, kp, b, F⟩ := D
  exact pe_call F hr hg mf kp b .nil hx ha hdb he hpl
theorem cm {pl : Sem Bool} (D : DefM X.prog X.w X.K X.mg X.base CX k C m ps sp) (ho : PE X o ta) (c : Cls X.K C) (hr : Room k X.A) (hx : Passes CX X E) (ha : PA X (e :: es) t)
    (hst : starEach (e :: es) X.env = (false, eval e X.env) :: starEach es X.env := by rfl) (hpl : (backTo pos (starEach es X.env)).any (·.1) = false := by rfl)
    (ht : eval (.Call (.Attribute o m apos) (e :: es) [] pos) X.env = (do
      let ov ← eval o X.env
      standAt apos.atName
      let (f, first) ← holding [ov] (getMethod ov m pl)
      callWith pos f first (backTo pos (starEach (e :: es) X.env)) (backToKw pos (keywordEach [] X.env))) := by rfl) :
    PE X (.Call (.Attribute o m apos) (e :: es) [] pos) (tMeth C m sp [] E ta t) := by
  obtain ⟨f, fd, mf, b, F⟩ := D
  exact pe_meth ho c mf F hr b .nil hx ha hst hpl ht
theorem cm0 {pl : Sem Bool} (D : DefM X.prog X.w X.K X.mg X.base CX k C m ps sp) (ho : PE X o ta) (c : Cls X.K C) (hr : Room k X.A) (hx : Passes CX X E)
    (ht : eval (.Call (.Attribute o m apos) [] [] pos) X.env = (do
      let ov ← eval o X.env
      standAt apos.atName
      let (f, first) ← holding [ov] (getMethod ov m pl)
      callWith pos f first (backTo pos (starEach [] X.env)) (backToKw pos (keywordEach [] X.env))) := by rfl) :
    PE X (.Call (.Attribute o m apos) [] [] pos) (tMeth C m sp [] E ta tNil) := by
  obtain ⟨f, fd, mf, b, F⟩ := D
  exact pe_meth0 ho c mf F hr b .nil hx ht
theorem cmS {E : St → XK} {pl : Sem Bool} (D : DefM X.prog X.w X.K X.mg X.base CX k C m ps sp) (ho : PE X o ta) (c : Cls X.K C) (hr : Room k X.A) (hx : ∀ σ, PassesAt CX X σ (E σ)) (ha : PA X (e :: es) t)
    (hst : starEach (e :: es) X.env = (false, eval e X.env) :: starEach es X.env := by rfl) (hpl : (backTo pos (starEach es X.env)).any (·.1) = false := by rfl)
    (ht : eval (.Call (.Attribute o m apos) (e :: es) [] pos) X.env = (do
      let ov ← eval o X.env
      standAt apos.atName
      let (f, first) ← holding [ov] (getMethod ov m pl)
      callWith pos f first (backTo pos (starEach (e :: es) X.env)) (backToKw pos (keywordEach [] X.env))) := by rfl) :
    PE X (.Call (.Attribute o m apos) (e :: es) [] pos) (tMethSX C m sp E ta t) := by
  obtain ⟨f, fd, mf, b, F⟩ := D
  exact pe_methSX ho c mf F hr b hx ha hst hpl ht
theorem ci (D : DefI X.prog X.w X.K X.mg X.base CX k C ps sp) (hr : Room (k + 1) X.A) (hg : Gl X x) (hm : X.mg x = some (.ref C)) (hx : Passes CX X E) (ha : PA X (e :: es) t) (hdb : (x == ("__debug__" : Str)) = false := by decide)
    (he : starEach (e :: es) X.env = (false, eval e X.env) :: starEach es X.env := by rfl) (hpl : (backTo pos (starEach es X.env)).any (·.1) = false := by rfl) : PE X (.Call (.Name x p) (e :: es) [] pos) (tMake C sp [] E t) := by
  obtain ⟨f, fd, mf, b, F⟩ := D
  exact pe_make mf F hr hg hm b .nil hx ha hdb he hpl
theorem ci0 (D : DefI X.prog X.w X.K X.mg X.base CX k C ps sp) (hr : Room (k + 1) X.A) (hg : Gl X x) (hm : X.mg x = some (.ref C)) (hx : Passes CX X E) (hdb : (x == ("__debug__" : Str)) = false := by decide) :
    PE X (.Call (.Name x p) [] [] pos) (tMake C sp [] E tNil) := by
  obtain ⟨f, fd, mf, b, F⟩ := D
  exact pe_make0 mf F hr hg hm b .nil hx hdb
end

/-! ### classes of instances that isinstance is asked of -/
structure Isi (K : PySem.W.Frag) (C : Addr) : Prop where
  cl : Cls K C
  ha : PySem.W.findIn K (.ref C) "__class__" = some (some (.builtin "object.__class__"))
  hn : PySem.W.specialIn K (.builtin "object.__class__") "__get__" = some (some (.builtin "getset_descriptor.__get__"))
  htk : PySem.W.takesIn K (.builtin "object.__class__") = some true
  hm : PySem.W.mroIn K C (.type "object") = some true
theorem Isi.ty {K : PySem.W.Frag} {H : Hp} {a C dx : Addr} {fs : List (Str × V)} (i : Isi K C) (e : H a = some (.ins C dx fs)) : TyX K H (.ref a) (.ref C) := .base (.ins e i.cl i.ha i.hn i.htk i.hm)

/-! ### how rows lie in the heap; R: a part of the heap in which nothing is changed -/
def mV : Option Int → V
  | none => .non
  | some x => .int x
/-- a long row's list, from outside -/
def Items (R : Hp) : T → List V → Prop
  | .nil, vs => vs = []
  | .say l m r, vs => ∃ p vs', vs = .ref p :: vs' ∧ R p = some (.tup [.int l, mV m]) ∧ Items R r vs'
  | .rep n b r, vs => ∃ p q bs vs', vs = .ref p :: vs' ∧ R p = some (.tup [.str "again", .int (n : Nat), .ref q]) ∧ R q = some (.lst bs) ∧ Items R b bs ∧ Items R r vs'
def spotF (t : Addr) (k : Int) : List (Str × V) := [("s8_said", .ref t), ("s8_number", .int k), ("s8_many", .int 1)]
def overF (n : Nat) (q : Addr) (o m : Nat) : List (Str × V) := [("s8_times", .int (n : Nat)), ("s8_parts", .ref q), ("s8_once", .int (o : Nat)), ("s8_many", .int (m : Nat))]
/-- a row's parts: instances of Spot (S) and Over (O) -/
def Parts (S O : Addr) (R : Hp) : T → List V → Prop
  | .nil, vs => vs = []
  | .say l m r, vs => ∃ p dx t k vs', vs = .ref p :: vs' ∧ R p = some (.ins S dx (spotF t k)) ∧ R t = some (.tup [.int l, mV m]) ∧ 0 ≤ k ∧ k < 1000 ∧ Parts S O R r vs'
  | .rep n b r, vs => ∃ p dx q bs vs', vs = .ref p :: vs' ∧ R p = some (.ins O dx (overF n q (ppl b) (n * ppl b))) ∧ R q = some (.lst bs) ∧ Parts S O R b bs ∧ Parts S O R r vs'
def tl : Nat → T → T
  | 0, t => t
  | _ + 1, .nil => .nil
  | i + 1, .say _ _ r => tl i r
  | i + 1, .rep _ _ r => tl i r
theorem tl_nil : ∀ i, tl i .nil = .nil
  | 0 => rfl
  | _ + 1 => rfl
section
variable {S O : Addr} {R R' : Hp}
theorem Items.len : ∀ {t : T} {vs : List V}, Items R t vs → vs.length = len t
  | .nil, vs, h => by
    have h : vs = [] := h
    subst h
    rfl
  | .say l m r, vs, ⟨p, vs', e, _, h⟩ => by
    subst e
    show vs'.length + 1 = 1 + Bo.len r
    rw [Items.len h, Nat.add_comm]
  | .rep n b r, vs, ⟨p, q, bs, vs', e, _, _, _, h⟩ => by
    subst e
    show vs'.length + 1 = 1 + Bo.len r
    rw [Items.len h, Nat.add_comm]
theorem Parts.len : ∀ {t : T} {vs : List V}, Parts S O R t vs → vs.length = len t
  | .nil, vs, h => by
    have h : vs = [] := h
    subst h
    rfl
  | .say l m r, vs, ⟨p, dx, t, k, vs', e, _, _, _, _, h⟩ => by
    subst e
    show vs'.length + 1 = 1 + Bo.len r
    rw [Parts.len h, Nat.add_comm]
  | .rep n b r, vs, ⟨p, dx, q, bs, vs', e, _, _, _, h⟩ => by
    subst e
    show vs'.length + 1 = 1 + Bo.len r
    rw [Parts.len h, Nat.add_comm]
theorem Items.mono (s : Same R R') : ∀ {t : T} {vs : List V}, Items R t vs → Items R' t vs
  | .nil, vs, h => h
  | .say l m r, vs, ⟨p, vs', e, h1, h⟩ => ⟨p, vs', e, s _ _ h1, Items.mono s h⟩
  | .rep n b r, vs, ⟨p, q, bs, vs', e, h1, h2, h3, h⟩ => ⟨p, q, bs, vs', e, s _ _ h1, s _ _ h2, Items.mono s h3, Items.mono s h⟩
theorem Parts.mono (s : Same R R') : ∀ {t : T} {vs : List V}, Parts S O R t vs → Parts S O R' t vs
  | .nil, vs, h => h
  | .say l m r, vs, ⟨p, dx, t, k, vs', e, h1, h2, k0, k1, h⟩ => ⟨p, dx, t, k, vs', e, s _ _ h1, s _ _ h2, k0, k1, Parts.mono s h⟩
  | .rep n b r, vs, ⟨p, dx, q, bs, vs', e, h1, h2, h3, h⟩ => ⟨p, dx, q, bs, vs', e, s _ _ h1, s _ _ h2, Parts.mono s h3, Parts.mono s h⟩
theorem Items.app : ∀ {t u : T} {vs ws : List V}, Items R t vs → Items R u ws → Items R (app t u) (vs ++ ws)
  | .nil, u, vs, ws, h, g => by
    have h : vs = [] := h
    subst h
    exact g
  | .say l m r, u, vs, ws, ⟨p, vs', e, h1, h⟩, g => by
    subst e
    exact ⟨p, vs' ++ ws, rfl, h1, Items.app h g⟩
  | .rep n b r, u, vs, ws, ⟨p, q, bs, vs', e, h1, h2, h3, h⟩, g => by
    subst e
    exact ⟨p, q, bs, vs' ++ ws, rfl, h1, h2, h3, Items.app h g⟩
theorem Parts.app : ∀ {t u : T} {vs ws : List V}, Parts S O R t vs → Parts S O R u ws → Parts S O R (app t u) (vs ++ ws)
  | .nil, u, vs, ws, h, g => by
    have h : vs = [] := h
    subst h
    exact g
  | .say l m r, u, vs, ws, ⟨p, dx, t, k, vs', e, h1, h2, k0, k1, h⟩, g => by
    subst e
    exact ⟨p, dx, t, k, vs' ++ ws, rfl, h1, h2, k0, k1, Parts.app h g⟩
  | .rep n b r, u, vs, ws, ⟨p, dx, q, bs, vs', e, h1, h2, h3, h⟩, g => by
    subst e
    exact ⟨p, dx, q, bs, vs' ++ ws, rfl, h1, h2, h3, Parts.app h g⟩
/-- the item at a place -/
theorem Items.at : ∀ {t : T} {vs : List V} {i : Nat} {x : V}, Items R t vs → vs[i]? = some x →
    (∃ l m p, tl i t = .say l m (tl (i + 1) t) ∧ x = .ref p ∧ R p = some (.tup [.int l, mV m])) ∨
      ∃ n b p q bs, tl i t = .rep n b (tl (i + 1) t) ∧ x = .ref p ∧ R p = some (.tup [.str "again", .int (n : Nat), .ref q]) ∧ R q = some (.lst bs) ∧ Items R b bs
  | .nil, vs, i, x, h, e => by
    have h : vs = [] := h
    subst h
    simp at e
  | .say l m r, vs, 0, x, ⟨p, vs', e1, h1, h⟩, e => by
    subst e1
    have e : V.ref p = x := Option.some.inj e
    exact .inl ⟨l, m, p, rfl, e.symm, h1⟩
  | .rep n b r, vs, 0, x, ⟨p, q, bs, vs', e1, h1, h2, h3, h⟩, e => by
    subst e1
    have e : V.ref p = x := Option.some.inj e
    exact .inr ⟨n, b, p, q, bs, rfl, e.symm, h1, h2, h3⟩
  | .say l m r, vs, i + 1, x, ⟨p, vs', e1, h1, h⟩, e => by
    subst e1
    exact Items.at (t := r) (vs := vs') (i := i) h (by simpa using e)
  | .rep n b r, vs, i + 1, x, ⟨p, q, bs, vs', e1, h1, h2, h3, h⟩, e => by
    subst e1
    exact Items.at (t := r) (vs := vs') (i := i) h (by simpa using e)
theorem Parts.at : ∀ {t : T} {vs : List V} {i : Nat} {x : V}, Parts S O R t vs → vs[i]? = some x →
    (∃ l m p dx ta k, tl i t = .say l m (tl (i + 1) t) ∧ x = .ref p ∧ R p = some (.ins S dx (spotF ta k)) ∧ R ta = some (.tup [.int l, mV m]) ∧ 0 ≤ k ∧ k < 1000) ∨
      ∃ n b p dx q bs, tl i t = .rep n b (tl (i + 1) t) ∧ x = .ref p ∧ R p = some (.ins O dx (overF n q (ppl b) (n * ppl b))) ∧ R q = some (.lst bs) ∧ Parts S O R b bs
  | .nil, vs, i, x, h, e => by
    have h : vs = [] := h
    subst h
    simp at e
  | .say l m r, vs, 0, x, ⟨p, dx, t, k, vs', e1, h1, h2, k0, k1, h⟩, e => by
    subst e1
    have e : V.ref p = x := Option.some.inj e
    exact .inl ⟨l, m, p, dx, t, k, rfl, e.symm, h1, h2, k0, k1⟩
  | .rep n b r, vs, 0, x, ⟨p, dx, q, bs, vs', e1, h1, h2, h3, h⟩, e => by
    subst e1
    have e : V.ref p = x := Option.some.inj e
    exact .inr ⟨n, b, p, dx, q, bs, rfl, e.symm, h1, h2, h3⟩
  | .say l m r, vs, i + 1, x, ⟨p, dx, t, k, vs', e1, h1, h2, k0, k1, h⟩, e => by
    subst e1
    exact Parts.at (t := r) (vs := vs') (i := i) h (by simpa using e)
  | .rep n b r, vs, i + 1, x, ⟨p, dx, q, bs, vs', e1, h1, h2, h3, h⟩, e => by
    subst e1
    exact Parts.at (t := r) (vs := vs') (i := i) h (by simpa using e)
theorem tl_len : ∀ t : T, tl (len t) t = .nil
  | .nil => rfl
  | .say _ _ r => by
    show tl (1 + len r) _ = _
    rw [Nat.add_comm]
    exact tl_len r
  | .rep _ _ r => by
    show tl (1 + len r) _ = _
    rw [Nat.add_comm]
    exact tl_len r
theorem ok_tl : ∀ {t : T} (i : Nat), ok t → ok (tl i t)
  | _, 0, h => h
  | .nil, _ + 1, h => h
  | .say _ _ r, i + 1, h => ok_tl (t := r) i h.2
  | .rep _ _ r, i + 1, h => ok_tl (t := r) i h.2
theorem size_tl : ∀ (t : T) (i : Nat), size (tl i t) ≤ size t
  | _, 0 => Nat.le_refl _
  | .nil, _ + 1 => Nat.le_refl _
  | .say _ _ r, i + 1 => by
    have h := size_tl r i
    show size (tl i r) ≤ 1 + size r
    omega
  | .rep _ b r, i + 1 => by
    have h := size_tl r i
    show size (tl i r) ≤ 1 + size b + size r
    omega
theorem depth_tl : ∀ (t : T) (i : Nat), depth (tl i t) ≤ depth t
  | _, 0 => Nat.le_refl _
  | .nil, _ + 1 => Nat.le_refl _
  | .say _ _ r, i + 1 => depth_tl r i
  | .rep _ b r, i + 1 => by
    have h := depth_tl r i
    show depth (tl i r) ≤ max (depth b + 1) (depth r)
    omega
end
/-- a row that a def may be handed: its numbers, its size -/
structure Fit (t : T) : Prop where
  ok : ok t
  sz : size t ≤ 1000
theorem Fit.tl {t : T} (h : Fit t) (i : Nat) : Fit (tl i t) := ⟨ok_tl i h.ok, Nat.le_trans (size_tl t i) h.sz⟩
theorem Fit.body {n : Nat} {b r : T} (h : Fit (.rep n b r)) : Fit b := ⟨h.ok.1.2.2.2, by
  have := h.sz
  have e : size (.rep n b r) = 1 + size b + size r := rfl
  omega⟩
theorem Fit.len {t : T} (h : Fit t) : len t ≤ 1000 := Nat.le_trans (len_le t) h.sz

/-! ### a quiet part that grows -/
structure Grow (R H R' H' : Hp) : Prop where
  rr : Same R R'
  rh : Same R' H'
  fr : ∀ b, R b = none → R' b ≠ none → H b = none
theorem Grow.refl {R H : Hp} (h : Same R H) : Grow R H R H := ⟨.refl R, h, fun b h1 h2 => absurd h1 h2⟩
theorem Grow.same {R H R' H' H2 : Hp} (g : Grow R H R' H') (s : Same H' H2) : Grow R H R' H2 := ⟨g.rr, g.rh.trans s, g.fr⟩
theorem Grow.trans {R H R1 H1 R2 H2 : Hp} (a : Grow R H R1 H1) (b : Grow R1 H1 R2 H2) (s : ∀ c, H1 c = none → H c = none) : Grow R H R2 H2 := by
  refine ⟨a.rr.trans b.rr, b.rh, fun c h1 h2 => ?_⟩
  cases q : R1 c with
  | none => exact s c (b.fr c q h2)
  | some o => exact a.fr c h1 (by rw [q]; exact fun z => nomatch z)
theorem Grow.add {R H R' H' : Hp} {p : Addr} {o : HO} (g : Grow R H R' H') (hp : H' p = some o) (hn : R' p = none) (h0 : H p = none) : Grow R H (upd R' p o) H' := by
  refine ⟨fun b u e => ?_, fun b u e => ?_, fun b h1 h2 => ?_⟩
  · have e' := g.rr b u e
    rw [upd_ne (ne_of_none e' hn)]
    exact e'
  · by_cases hb : b = p
    · subst hb
      rw [upd_same] at e
      cases e
      exact hp
    · rw [upd_ne hb] at e
      exact g.rh b u e
  · by_cases hb : b = p
    · rw [hb]; exact h0
    · rw [upd_ne hb] at h2
      exact g.fr b h1 h2
theorem Same.new {H : Hp} {p : Addr} (h : H p = none) (o : HO) : Same H (upd H p o) := fun b u q => by rw [upd_ne (ne_of_none q h)]; exact q
theorem small {n : Nat} (h : n ≤ 1000) : n ≤ sizeLine := Nat.le_of_lt (small1000 h)
end Bo
end
section
/-! Boastrow: what the walk asks of the written part. -/
namespace Bo
open PySem PySem.Spec L2
abbrev sHall : Stmt := top 48
structure Txt (K : PySem.W.Frag) (mg : Str → Option Value) (S O HC NN : Addr) : Prop where
  bIsi : mg "isinstance" = none
  bInt : mg "int" = none
  bBool : mg "bool" = none
  bTuple : mg "tuple" = none
  bList : mg "list" = none
  bStr : mg "str" = none
  bLen : mg "len" = none
  bSum : mg "sum" = none
  bMin : mg "min" = none
  bMax : mg "max" = none
  bAbs : mg "abs" = none
  bAll : mg "all" = none
  bRange : mg "range" = none
  bSorted : mg "sorted" = none
  bDict : mg "dict" = none
  bEnum : mg "enumerate" = none
  iS : Isi K S
  iO : Isi K O
  cH : Cls K HC
  gS : mg "Spot" = some (.ref S)
  gO : mg "Over" = some (.ref O)
  gH : mg "Hall" = some (.ref HC)
  kSS : PySem.W.kitOne K (.ref S) (.ref S) = some true
  kSO : PySem.W.kitOne K (.ref S) (.ref O) = some false
  kOS : PySem.W.kitOne K (.ref O) (.ref S) = some false
  kOO : PySem.W.kitOne K (.ref O) (.ref O) = some true
  nSs : NoAttr K S "s8_said"
  nSn : NoAttr K S "s8_number"
  nSm : NoAttr K S "s8_many"
  nOt : NoAttr K O "s8_times"
  nOp : NoAttr K O "s8_parts"
  nOo : NoAttr K O "s8_once"
  nOm : NoAttr K O "s8_many"
  nHr : NoAttr K HC "s10_rows"
  nHd : NoAttr K HC "s10_done"
  nHu : NoAttr K HC "s10_undone"
  gMost : ∃ t, mg "MOST_PEOPLE" = some (.int 999999999999999999999999999999 t)
  gAgain : ∃ t, mg "AGAIN" = some (.str "again" t)
  gFew : ∃ t, mg "FEW" = some (.int 0 t)
  gTrue : ∃ t, mg "TRUE" = some (.int 1 t)
  gLetters : ∃ t, mg "LETTERS" = some (.str "abcdefghijklmnopqrstuvwxyz" t)
  gMostL : ∃ t, mg "MOST_LETTERS" = some (.int 8 t)
  gP : mg "NoName" = some (.ref NN)
  xP : PySem.W.excIn K NN [.type "ValueError", .type "Exception", .type "BaseException", .type "object"] "ValueError.__new__" = true
  kP : PySem.W.keepIn K (.ref NN) = true
  bP : PySem.W.subIn K (.ref NN) (.type "BaseException") = some true
  tP : PySem.W.typeIn K (.ref NN) = some (.type "type")
  eP : PySem.W.exmOne K (.ref NN) (.ref NN) = some true
  h11 : Here K mg "is_number" (top 11) ["thing"]
  h12 : Here K mg "is_saying" (top 12) ["thing"]
  h13 : Here K mg "need_number" (top 13) ["thing"]
  hSpot : HereI K S "Spot.__init__" (inClass (top 18) 0) ["self", "saying", "number"]
  hOver : HereI K O "Over.__init__" (inClass (top 19) 0) ["self", "times", "parts"]
  h20 : Here K mg "laid_many" (top 20) ["parts"]
  h21 : Here K mg "people_said" (top 21) ["item"]
  h22 : Here K mg "people_of" (top 22) ["thing"]
  h23 : Here K mg "is_long" (top 23) ["thing"]
  h24 : Here K mg "need_long" (top 24) ["thing"]
  h25 : Here K mg "planted" (top 25) ["long", "first"]
  h26 : Here K mg "parts_of" (top 26) ["long"]
  h31 : Here K mg "lesser_slack" (top 31) ["one", "other"]
  h32 : Here K mg "word_of" (top 32) ["saying", "number"]
  h33 : Here K mg "add_counts" (top 33) ["counts", "more", "times"]
  h34 : Here K mg "through" (top 34) ["parts", "number"]
  h35 : Here K mg "through_over" (top 35) ["part", "number"]
  h36 : Here K mg "wished" (top 36) ["parts", "wish"]
  h37 : Here K mg "wished_over" (top 37) ["part", "wish"]
  h38 : Here K mg "total_of" (top 38) ["parts", "number"]
  h39 : Here K mg "far_total" (top 39) ["long", "company"]
  h43 : Here K mg "is_name" (top 43) ["thing"]
  h44 : Here K mg "need_name" (top 44) ["thing"]
  h45 : Here K mg "need_few" (top 45) ["many"]
  h46 : Here K mg "slim" (top 46) ["parts"]
  hHall : HereI K HC "Hall.__init__" (inClass sHall 0) ["self"]
  hParts : HereM K HC "s10_parts" "Hall.s10_parts" (inClass sHall 2) ["self", "name"]
  hFree : HereM K HC "s10_free" "Hall.s10_free" (inClass sHall 3) ["self", "name"]
  hKeep : HereM K HC "s10_keep" "Hall.s10_keep" (inClass sHall 4) ["self", "deed", "rows"]
  hBegin : HereM K HC "begin" "Hall.begin" (inClass sHall 5) ["self", "name", "long"]
  hJoin : HereM K HC "join_to" "Hall.join_to" (inClass sHall 10) ["self", "name", "other"]
  hUndo : HereM K HC "undo" "Hall.undo" (inClass sHall 14) ["self"]
  hNames : HereM K HC "names" "Hall.names" (inClass sHall 16) ["self"]
  hTotal : HereM K HC "total" "Hall.total" (inClass sHall 18) ["self", "name", "company"]
  hLeast : HereM K HC "least" "Hall.least" (inClass sHall 19) ["self", "name", "total"]
  hTogether : HereM K HC "together" "Hall.together" (inClass sHall 23) ["self", "names", "company"]
  h50 : Here K mg "_law_urn" (top 50) ["_law_script", "_law_k"]
  h51 : Here K mg "_law_ball" (top 51) ["_law_urn_here", "_law_many"]
  h52 : Here K mg "_law_saying" (top 52) ["_law_urn_here", "_law_wide"]
  h53 : Here K mg "_law_people" (top 53) ["_law_long_here"]
  h54 : Here K mg "_law_long" (top 54) ["_law_urn_here", "_law_plan", "_law_deep", "_law_room"]
  h55 : Here K mg "_law_sayings" (top 55) ["_law_long_here"]
  h56 : Here K mg "_law_company" (top 56) ["_law_urn_here", "_law_sayings_here"]
  h57 : Here K mg "_law_near_or_great" (top 57) ["_law_urn_here"]
  h58 : Here K mg "_law_refused" (top 58) ["_law_hall", "_law_names", "_law_company_here"]
  h59 : Here K mg "_law_joined_right" (top 59) ["_law_hall", "_law_names", "_law_rows", "_law_company_here"]
  h60 : Here K mg "law" (top 60) ["_law_script"]
/-- isinstance(x, T), T a built-in type: what its reading asks -/
theorem isi_b {K : PySem.W.Frag} {H : Hp} {Q : VK} {x : V} {a b : String} {r : Bool} (ty : TyX K H x (.type a)) (h : kitB a b = some r) (q : Q (.bl r) H) : rIsi K [x, .ty b] H Q :=
  ⟨x, .ty b, _, _, r, rfl, .ty b, ty, kit_ty h, q⟩
end Bo
end
section
/-! Boastrow: numbers, sayings, parts: the first defs. -/
namespace Bo
open PySem PySem.Spec L2
theorem ifT {c : Bool} {A B : Prop} (hc : c = true) (h : A) : if c = true then A else B := by
  rw [if_pos hc]
  exact h
theorem ifF {c : Bool} {A B : Prop} (hc : c = false) (h : B) : if c = true then A else B := by
  rw [hc, if_neg Bool.false_ne_true]
  exact h
theorem tYes_i {σ : St} {H : Hp} {A : Hp → Prop} {B : Hp → Prop} (h : A H) : tYes σ H fun b H3 => if b = true then A H3 else B H3 := by
  show (if true = true then A H else B H)
  rw [if_pos rfl]
  exact h
theorem lookup_hd {f : Str} {v : V} {r : List (Str × V)} : List.lookup f ((f, v) :: r) = some v := by simp [List.lookup]
theorem lookup_tl {f g : Str} {v : V} {r : List (Str × V)} (h : (g == f) = false) : List.lookup g ((f, v) :: r) = List.lookup g r := by simp [List.lookup, h]
theorem spot_said {t : Addr} {k : Int} : (spotF t k).lookup ("s8_said" : Str) = some (V.ref t) := lookup_hd
theorem spot_number {t : Addr} {k : Int} : (spotF t k).lookup ("s8_number" : Str) = some (V.int k) := by
  unfold spotF
  rw [lookup_tl (by decide +kernel)]
  exact lookup_hd
theorem spot_many {t : Addr} {k : Int} : (spotF t k).lookup ("s8_many" : Str) = some (V.int 1) := by
  unfold spotF
  rw [lookup_tl (by decide +kernel), lookup_tl (by decide +kernel)]
  exact lookup_hd
theorem over_times {n : Nat} {q : Addr} {o m : Nat} : (overF n q o m).lookup ("s8_times" : Str) = some (V.int (n : Nat)) := lookup_hd
theorem over_parts {n : Nat} {q : Addr} {o m : Nat} : (overF n q o m).lookup ("s8_parts" : Str) = some (V.ref q) := by
  unfold overF
  rw [lookup_tl (by decide +kernel)]
  exact lookup_hd
theorem over_once {n : Nat} {q : Addr} {o m : Nat} : (overF n q o m).lookup ("s8_once" : Str) = some (V.int (o : Nat)) := by
  unfold overF
  rw [lookup_tl (by decide +kernel), lookup_tl (by decide +kernel)]
  exact lookup_hd
theorem over_many {n : Nat} {q : Addr} {o m : Nat} : (overF n q o m).lookup ("s8_many" : Str) = some (V.int (m : Nat)) := by
  unfold overF
  rw [lookup_tl (by decide +kernel), lookup_tl (by decide +kernel), lookup_tl (by decide +kernel)]
  exact lookup_hd
theorem put_ne {f g : Str} {v x : V} {r : List (Str × V)} (h : ¬ g = f) : putF f v ((g, x) :: r) = (g, x) :: putF f v r := if_neg h
theorem sameOff {R H : Hp} {p : Addr} (h : Same R H) (n : R p = none) (o : HO) : Same R (upd H p o) := fun b u e => by
  rw [upd_ne (ne_of_none e n)]
  exact h b u e
theorem natB {n : Nat} (h : (n : Int) < B) : ((n : Int)).natAbs < 2 ^ 104 := by
  have e : B = ((2 ^ 104 : Nat) : Int) := by decide
  rw [e] at h
  rw [Int.natAbs_natCast]
  exact Int.ofNat_lt.mp h
theorem intB {x : Int} (h0 : 0 ≤ x) (h : x < B) : x.natAbs < 2 ^ 104 := by
  have e : B = ((2 ^ 104 : Nat) : Int) := by decide
  rw [e] at h
  omega
theorem mulB {x y : Int} (h0 : 0 ≤ x) (h : x < B) (k0 : 0 ≤ y) (k : y < B) : CMulW x y := wide_mul (intB h0 h) (intB k0 k) (by decide) (by decide) (by decide)
section
variable {P : Program} {w : World} {K : PySem.W.Frag} {mg : Str → Option Value} {base : Heap} {S O HC NN : Addr}

/-! ### is_number -/
def spIsNumber : Sp := fun vs H Q _ => ∃ n : Int, vs = [.int n] ∧ Q (.bl (decide (0 ≤ n))) H
theorem sc11 : FnScope ["thing"] ["thing"] (defScope (top 11)) := ⟨rfl, rfl, rfl, by decide +kernel, rfl, by decide +kernel, by decide +kernel⟩
theorem d11 (T : Txt K mg S O HC NN) : Def P w K mg base CX0 1 "is_number" ["thing"] spIsNumber := by
  refine T.h11.ok sc11 (fun vs H Q E h => ?_) (fun f cdv A outer s H vs Q E hr h => ?_)
  · obtain ⟨n, rfl, _⟩ := h
    rfl
  · obtain ⟨n, rfl, q⟩ := h
    refine ⟨_, pss_one (ps_ret (pe_and (pe_callB call_isi (by rfl) T.bIsi (by decide +kernel) (pa_cons (pv 0) (pa_cons (pe_bltn (v := .ty "int") (by rfl) T.bInt (by decide +kernel) rfl) pa_nil)))
      (pe_and (pe_not (pe_callB call_isi (by rfl) T.bIsi (by decide +kernel) (pa_cons (pv 0) (pa_cons (pe_bltn (v := .ty "bool") (by rfl) T.bBool (by decide +kernel) rfl) pa_nil))))
        (pe_one (pe_cmpR op_ge (pv 0) pe_int (nomark _)))))), ?_⟩
    refine ⟨_, rfl, _, _, _, _, true, rfl, .ty "int", .base (.int n), kit_ty (a := "int") (b := "int") (by decide +kernel), _, rfl, ?_⟩
    refine iteT ⟨_, rfl, _, _, _, _, false, rfl, .ty "bool", .base (.int n), kit_ty (a := "int") (b := "bool") (by decide +kernel), _, rfl, _, rfl, ?_⟩
    exact iteT ⟨_, rfl, _, _, rfl, rfl, q⟩

/-! ### is_saying -/
def spIsSaying : Sp := fun vs H Q _ => ∃ p : Addr, vs = [.ref p] ∧
  ((∃ (l : Int) (m : Option Int), H p = some (.tup [.int l, mV m]) ∧ 0 ≤ l ∧ (∀ x, m = some x → l ≤ x) ∧ Q (.bl true) H) ∨ ∃ x y z : V, H p = some (.tup [x, y, z]) ∧ Q (.bl false) H)
theorem sc12 : FnScope ["thing"] ["thing"] (defScope (top 12)) := ⟨rfl, rfl, rfl, by decide +kernel, rfl, by decide +kernel, by decide +kernel⟩
theorem d12 (T : Txt K mg S O HC NN) : Def P w K mg base CX0 2 "is_saying" ["thing"] spIsSaying := by
  have D11 : Def P w K mg base CX0 1 "is_number" ["thing"] spIsNumber := d11 T
  refine T.h12.ok sc12 (fun vs H Q E h => ?_) (fun f cdv A outer s H vs Q E hr h => ?_)
  · obtain ⟨p, rfl, _⟩ := h
    rfl
  · obtain ⟨p, rfl, h⟩ := h
    refine ⟨_, pss_cons (ps_if (PW.pt (pw_or (pt_not (pt_val (pe_callB call_isi (by rfl) T.bIsi (by decide +kernel) (pa_cons (pv 0) (pa_cons (pe_bltn (v := .ty "tuple") (by rfl) T.bTuple (by decide +kernel) rfl) pa_nil)))))
      (pw_or (pt_cmpR op_ne (pe_callB call_len_seq (by rfl) T.bLen (by decide +kernel) (pa_cons (pv 0) pa_nil)) pe_int (nomark _))
        (pw_or1 (pt_not (pt_val (cd D11 hr (by rfl) pass0 (pa_cons (pe_ix ix_tup (pv 0) pe_int (fun _ _ => rfl)) pa_nil))))))))
      (pss_one (ps_ret pe_bl)) pss_nil)
      (pss_one (ps_ret (pe_or (pe_cmpR op_isN (pe_ix ix_tup (pv 0) pe_int (fun _ _ => rfl)) pe_non (nomark _))
        (pe_one (pe_and (cd D11 hr (by rfl) pass0 (pa_cons (pe_ix ix_tup (pv 0) pe_int (fun _ _ => rfl)) pa_nil))
          (pe_one (pe_cmpR op_ge (pe_ix ix_tup (pv 0) pe_int (fun _ _ => rfl)) (pe_ix ix_tup (pv 0) pe_int (fun _ _ => rfl)) (nomark _)))))))), ?_⟩
    rcases h with ⟨l, m, hp, h0, hm, q⟩ | ⟨x, y, z, hp, q⟩
    · refine ⟨_, rfl, _, _, _, _, true, rfl, .ty "tuple", .base (.tup hp), kit_ty (a := "tuple") (b := "tuple") (by decide +kernel), _, rfl, ?_⟩
      refine iteF ⟨_, rfl, p, _, rfl, .inr (SqT.of hp), rfl, _, rfl, iteF ?_⟩
      refine ⟨_, rfl, p, _, _, _, rfl, rfl, SqT.of hp, at_of (j := 0) rfl rfl, l, rfl, _, rfl, ?_⟩
      rw [decide_eq_true h0]
      refine iteF ⟨_, rfl, p, _, _, _, rfl, rfl, SqT.of hp, at_of (j := 1) rfl rfl, rfl, _, rfl, ?_⟩
      cases m with
      | none => exact ifT (by decide) q
      | some x =>
        refine ifF (by simp [mV]) ⟨_, rfl, p, _, _, _, rfl, rfl, SqT.of hp, at_of (j := 1) rfl rfl, x, rfl, _, rfl, ?_⟩
        have hx := hm x rfl
        refine ifT (decide_eq_true (by omega)) ⟨_, rfl, p, _, _, _, rfl, rfl, SqT.of hp, at_of (j := 1) rfl rfl, _, rfl, p, _, _, _, rfl, rfl, SqT.of hp, at_of (j := 0) rfl rfl, _, _, rfl, rfl, ?_⟩
        show Q (V.bl (decide (l ≤ x))) H
        rw [decide_eq_true hx]
        exact q
    · refine ⟨_, rfl, _, _, _, _, true, rfl, .ty "tuple", .base (.tup hp), kit_ty (a := "tuple") (b := "tuple") (by decide +kernel), _, rfl, ?_⟩
      exact iteF ⟨_, rfl, p, _, rfl, .inr (SqT.of hp), rfl, _, rfl, iteT q⟩

/-! ### need_number -/
def spNeedNumber : Sp := fun vs H Q _ => ∃ n : Int, vs = [.int n] ∧ 0 ≤ n ∧ Q .non H
theorem sc13 : FnScope ["thing"] ["thing"] (defScope (top 13)) := ⟨rfl, rfl, rfl, by decide +kernel, rfl, by decide +kernel, by decide +kernel⟩
theorem d13 (T : Txt K mg S O HC NN) : Def P w K mg base CX0 2 "need_number" ["thing"] spNeedNumber := by
  have D11 : Def P w K mg base CX0 1 "is_number" ["thing"] spIsNumber := d11 T
  refine T.h13.ok sc13 (fun vs H Q E h => ?_) (fun f cdv A outer s H vs Q E hr h => ?_)
  · obtain ⟨n, rfl, _⟩ := h
    rfl
  · obtain ⟨n, rfl, h0, q⟩ := h
    refine ⟨_, pss_one (ps_if (pt_not (pt_val (cd D11 hr (by rfl) pass0 (pa_cons (pv 0) pa_nil)))) (pss_one ps_never) pss_nil), ?_⟩
    refine ⟨_, rfl, n, rfl, _, rfl, ?_⟩
    rw [decide_eq_true h0]
    exact iteF q

/-! ### Spot(..) -/
def spSpot (S : Addr) : Sp := fun vs H Q _ => ∃ (p dx t : Addr) (k : Int), vs = [.ref p, .ref t, .int k] ∧ H p = some (.ins S dx []) ∧ ∀ H' : Hp, H' p = some (.ins S dx (spotF t k)) → (∀ b, b ≠ p → H' b = H b) → Q .non H'
theorem scSpot : FnScope ["self", "saying", "number"] ["self", "saying", "number"] (defScope (inClass (top 18) 0)) := ⟨rfl, rfl, rfl, by decide +kernel, rfl, by decide +kernel, by decide +kernel⟩
theorem dSpot (T : Txt K mg S O HC NN) : DefI P w K mg base CX0 1 S ["self", "saying", "number"] (spSpot S) := by
  refine T.hSpot.ok scSpot (fun vs H Q E h => ?_) (fun f cdv A outer s H vs Q E hr h => ?_)
  · obtain ⟨p, dx, t, k, rfl, _⟩ := h
    rfl
  · obtain ⟨p, dx, t, k, rfl, hp, q⟩ := h
    refine ⟨_, pss_cons (ps_fld (pv 0) (pv 1) rfl) (pss_cons (ps_fld (pv 0) (pv 2) rfl) (pss_one (ps_fld (pv 0) pe_int rfl))), ?_⟩
    refine ⟨_, rfl, _, rfl, p, S, dx, [], rfl, hp, T.iS.cl, T.nSs, (by show 0 < 1000; decide), ?_⟩
    refine ⟨_, rfl, _, rfl, p, S, dx, _, rfl, upd_same, T.iS.cl, T.nSn, (by show 1 < 1000; decide), ?_⟩
    refine ⟨_, rfl, p, S, dx, _, rfl, upd_same, T.iS.cl, T.nSm, ?_, ?_⟩
    · rw [show putF "s8_said" (V.ref t) [] = [(("s8_said" : Str), V.ref t)] from rfl, put_ne (by decide +kernel)]
      show 2 < 1000
      decide
    · refine q _ ?_ fun b hb => by rw [upd_ne hb, upd_ne hb, upd_ne hb]
      rw [upd_same, show putF "s8_said" (V.ref t) [] = [(("s8_said" : Str), V.ref t)] from rfl, put_ne (by decide +kernel), put_ne (by decide +kernel),
        show putF "s8_number" (V.int k) [] = [(("s8_number" : Str), V.int k)] from rfl, put_ne (by decide +kernel)]
      rfl

/-! ### laid_many -/
def spLaidMany (S O : Addr) : Sp := fun vs H Q _ => ∃ (a : Addr) (xs : List V) (t : T), vs = [.ref a] ∧ H a = some (.lst xs) ∧ Parts S O H t xs ∧ len t ≤ 1000 ∧ ∀ H' : Hp, Same H H' → Q (.int (ppl t : Nat)) H'
theorem sc20 : FnScope ["parts", "part"] ["parts"] (defScope (top 20)) := ⟨rfl, rfl, rfl, by decide +kernel, rfl, by decide +kernel, by decide +kernel⟩
theorem d20 (T : Txt K mg S O HC NN) : Def P w K mg base CX0 1 "laid_many" ["parts"] (spLaidMany S O) := by
  refine T.h20.ok sc20 (fun vs H Q E h => ?_) (fun f cdv A outer s H vs Q E hr h => ?_)
  · obtain ⟨a, xs, t, rfl, _⟩ := h
    rfl
  · obtain ⟨a, xs, t, rfl, ha, hP, hl, q⟩ := h
    refine ⟨_, pss_one (ps_ret (pe_callB (cr_sum rfl) (by rfl) T.bSum (by decide +kernel) (pa_cons (pe_lc (own := [("part", 1)]) (g := gName 1) (tt := tYes) (te := tFld K (tVar 1) ("s8_many" : Str)) rfl sc20.nd (pi_list (pv 0))
      (blkOk_by (N := ["parts", "part"]) (sc := defScope (top 20)) (by decide +kernel)) (fun _ _ _ _ _ => pg_name (i := 1) sc20.nd rfl (Or.inl rfl)) (fun _ _ _ _ _ => pts_nil) (fun _ _ _ _ _ => pe_fld (pv 1) rfl)) pa_nil))), ?_⟩
    refine ⟨_, rfl, a, rfl, ⟨_, SqL.of ha⟩, fun D hD => lc_list (K := K) (a := a) (xs := xs)
      (fun i H' => ∃ ns : List Int, H' D = some (.lst (ns.map V.int)) ∧ Same H H' ∧ ns.sum + (ppl (tl i t) : Int) = ppl t ∧ ns.length = i) ?_ ?_ ?_ ?_⟩
    · exact ⟨[], upd_same, Same.new hD _, by simp [tl], rfl⟩
    · rintro i H' _ ⟨ns, _, sm, _⟩
      exact SqL.of (sm _ _ ha)
    · rintro i x H' hx ⟨ns, hd, sm, hs, hn⟩
      have hi : i < xs.length := (List.getElem?_eq_some_iff.mp hx).1
      rw [hP.len] at hi
      refine ⟨rfl, tYes_i ?_⟩
      have hz : (ns.map V.int).length < sizeLine := by rw [List.length_map]; exact small1000 (by omega)
      have fin : ∀ (k : Int), (ppl (tl i t) : Int) = k + ppl (tl (i + 1) t) → ∃ ms : List Int, (upd H' D (.lst (ns.map V.int ++ [V.int k]))) D = some (.lst (ms.map V.int)) ∧ Same H (upd H' D (.lst (ns.map V.int ++ [V.int k]))) ∧ ms.sum + (ppl (tl (i + 1) t) : Int) = ppl t ∧ ms.length = i + 1 := fun k hk => by
        refine ⟨ns ++ [k], by rw [upd_same, List.map_append] <;> rfl, fun b o e => ?_, ?_, by rw [List.length_append, hn] <;> rfl⟩
        · rw [upd_ne (ne_of_none e hD)]
          exact sm b o e
        · rw [List.sum_append]
          simp
          omega
      rcases hP.at hx with ⟨l, m, p, dx, ta, k, et, rfl, hp, _⟩ | ⟨n, b, p, dx, q', bs, et, rfl, hp, _⟩
      · refine ⟨_, rfl, p, S, dx, _, _, rfl, sm _ _ hp, T.iS.cl, T.nSm, spot_many, _, hd, hz, fin 1 ?_⟩
        rw [et]
        show ((1 + ppl (tl (i + 1) t) : Nat) : Int) = _
        omega
      · refine ⟨_, rfl, p, O, dx, _, _, rfl, sm _ _ hp, T.iO.cl, T.nOm, over_many, _, hd, hz, fin _ ?_⟩
        rw [et]
        show ((n * ppl b + ppl (tl (i + 1) t) : Nat) : Int) = _
        omega
    · rintro H' ⟨ns, hd, sm, hs, hn⟩
      refine ⟨D, ns, rfl, SqL.of hd, ?_⟩
      have e : ns.sum = ((ppl t : Nat) : Int) := by
        rw [hP.len, tl_len] at hs
        have z : ((ppl Bo.T.nil : Nat) : Int) = 0 := rfl
        omega
      rw [e]
      exact q H' sm

/-! ### Over(..) -/
def spOver (S O : Addr) : Sp := fun vs H Q _ => ∃ (p dx q : Addr) (n : Nat) (bs : List V) (b : T) (R : Hp), vs = [.ref p, .int (n : Nat), .ref q] ∧ H p = some (.ins O dx []) ∧ Same R H ∧ R p = none ∧ R q = some (.lst bs) ∧ Parts S O R b bs ∧ len b ≤ 1000 ∧ (n : Int) < B ∧ (ppl b : Int) < B ∧
  ∀ H' : Hp, H' p = some (.ins O dx (overF n q (ppl b) (n * ppl b))) → (∀ b o, b ≠ p → H b = some o → H' b = some o) → Q .non H'
theorem scOver : FnScope ["self", "times", "parts"] ["self", "times", "parts"] (defScope (inClass (top 19) 0)) := ⟨rfl, rfl, rfl, by decide +kernel, rfl, by decide +kernel, by decide +kernel⟩
theorem dOver (T : Txt K mg S O HC NN) : DefI P w K mg base CX0 2 O ["self", "times", "parts"] (spOver S O) := by
  have D20 : Def P w K mg base CX0 1 "laid_many" ["parts"] (spLaidMany S O) := d20 T
  refine T.hOver.ok scOver (fun vs H Q E h => ?_) (fun f cdv A outer s H vs Q E hr h => ?_)
  · obtain ⟨p, dx, q, n, bs, b, R, rfl, _⟩ := h
    rfl
  · obtain ⟨p, dx, q, n, bs, b, R, rfl, hp, hR, hRp, hq, hb, hl, hn, hB, k⟩ := h
    refine ⟨_, pss_cons (ps_fld (pv 0) (pv 1) rfl) (pss_cons (ps_fld (pv 0) (pv 2) rfl) (pss_cons (ps_fld (pv 0) (cd D20 hr (by rfl) pass0 (pa_cons (pv 2) pa_nil)) rfl)
      (pss_one (ps_fld (pv 0) (pe_op op_mulW (pv 1) (pe_fld (pv 0) rfl)) rfl)))), ?_⟩
    have e1 : putF "s8_times" (V.int (n : Nat)) [] = [(("s8_times" : Str), V.int (n : Nat))] := rfl
    have e2 : putF "s8_parts" (V.ref q) (putF "s8_times" (V.int (n : Nat)) []) = [(("s8_times" : Str), V.int (n : Nat)), ("s8_parts", V.ref q)] := by
      rw [e1, put_ne (by decide +kernel)]
      rfl
    have e3 : putF "s8_once" (V.int (ppl b : Nat)) (putF "s8_parts" (V.ref q) (putF "s8_times" (V.int (n : Nat)) [])) = [(("s8_times" : Str), V.int (n : Nat)), ("s8_parts", V.ref q), ("s8_once", V.int (ppl b : Nat))] := by
      rw [e2, put_ne (by decide +kernel), put_ne (by decide +kernel)]
      rfl
    have e4 : putF "s8_many" (V.int ((n : Int) * (ppl b : Int))) (putF "s8_once" (V.int (ppl b : Nat)) (putF "s8_parts" (V.ref q) (putF "s8_times" (V.int (n : Nat)) []))) = overF n q (ppl b) (n * ppl b) := by
      rw [e3, put_ne (by decide +kernel), put_ne (by decide +kernel), put_ne (by decide +kernel)]
      unfold overF
      rw [Int.natCast_mul]
      rfl
    refine ⟨_, rfl, _, rfl, p, O, dx, [], rfl, hp, T.iO.cl, T.nOt, (by show 0 < 1000; decide), ?_⟩
    refine ⟨_, rfl, _, rfl, p, O, dx, _, rfl, upd_same, T.iO.cl, T.nOp, (by rw [e1]; show 1 < 1000; decide), ?_⟩
    have sm0 : ∀ c o, c ≠ p → H c = some o → (upd (upd H p (.ins O dx (putF "s8_times" (V.int (n : Nat)) []))) p (.ins O dx (putF "s8_parts" (V.ref q) (putF "s8_times" (V.int (n : Nat)) [])))) c = some o := fun c o hc e => by
      rw [upd_ne hc, upd_ne hc]
      exact e
    have hR2 := sameOff (sameOff hR hRp (.ins O dx (putF "s8_times" (V.int (n : Nat)) []))) hRp (.ins O dx (putF "s8_parts" (V.ref q) (putF "s8_times" (V.int (n : Nat)) [])))
    refine ⟨_, rfl, q, bs, b, rfl, hR2 _ _ hq, hb.mono hR2, hl, fun H1 s1 => ?_⟩
    · have hp1 := s1 _ _ upd_same
      refine ⟨_, rfl, p, O, dx, _, rfl, hp1, T.iO.cl, T.nOo, (by rw [e2]; show 2 < 1000; decide), ?_⟩
      refine ⟨_, rfl, _, rfl, p, O, dx, _, _, rfl, upd_same, T.iO.cl, T.nOo, (by rw [e3, lookup_tl (by decide +kernel), lookup_tl (by decide +kernel)]; exact lookup_hd), _, _, rfl, rfl, mulB (Int.natCast_nonneg _) hn (Int.natCast_nonneg _) hB, ?_⟩
      refine ⟨_, rfl, p, O, dx, _, rfl, upd_same, T.iO.cl, T.nOm, (by rw [e3]; show 3 < 1000; decide), ?_⟩
      refine k _ ?_ fun c o hc e => by
        rw [upd_ne hc, upd_ne hc]
        exact s1 c o (sm0 c o hc e)
      rw [upd_same, e4]
end
end Bo
end
section
/-! Boastrow: long rows: how many people, planted. -/
namespace Bo
open PySem PySem.Spec L2
theorem ok_say {l : Int} {m : Option Int} {r : T} (h : ok (.say l m r)) : 0 ≤ l ∧ ∀ x, m = some x → l ≤ x := ⟨h.1.1, fun x e => (h.1.2.2 x e).1⟩
theorem depth_body {n : Nat} {b r : T} {d : Nat} (h : depth (.rep n b r) ≤ d) : depth b + 1 ≤ d := by
  have e : depth (.rep n b r) = max (depth b + 1) (depth r) := rfl
  omega
section
variable {P : Program} {w : World} {K : PySem.W.Frag} {mg : Str → Option Value} {base : Heap} {S O HC NN : Addr}

/-! ### people_said, people_of -/
def spPeopleSaid (d : Nat) : Sp := fun vs H Q _ => ∃ (p q : Addr) (n : Nat) (bs : List V) (b : T), vs = [.ref p] ∧ H p = some (.tup [.str "again", .int (n : Nat), .ref q]) ∧ H q = some (.lst bs) ∧ Items H b bs ∧ Fit b ∧ depth b + 1 ≤ d ∧
  (n : Int) < B ∧ (ppl b : Int) < B ∧ ∀ H' : Hp, Same H H' → Q (.int ((n * ppl b : Nat) : Int)) H'
def spPeopleOf (d : Nat) : Sp := fun vs H Q _ => ∃ (a : Addr) (xs : List V) (t : T), vs = [.ref a] ∧ H a = some (.lst xs) ∧ Items H t xs ∧ Fit t ∧ depth t ≤ d ∧ ∀ H' : Hp, Same H H' → Q (.int (ppl t : Nat)) H'
theorem sc21 : FnScope ["item", "inner"] ["item"] (defScope (top 21)) := ⟨rfl, rfl, rfl, by decide +kernel, rfl, by decide +kernel, by decide +kernel⟩
theorem sc22 : FnScope ["thing", "found", "item", "many"] ["thing"] (defScope (top 22)) := ⟨rfl, rfl, rfl, by decide +kernel, rfl, by decide +kernel, by decide +kernel⟩
theorem d21z (T : Txt K mg S O HC NN) (k : Nat) : Def P w K mg base CX0 (k + 1) "people_said" ["item"] (spPeopleSaid 0) := by
  refine T.h21.ok sc21 (fun vs H Q E h => ?_) (fun f cdv A outer s H vs Q E hr h => ?_)
  · obtain ⟨p, q, n, bs, b, _, _, _, _, _, h, _⟩ := h
    omega
  · obtain ⟨p, q, n, bs, b, _, _, _, _, _, h, _⟩ := h
    omega
theorem d21s (T : Txt K mg S O HC NN) {d k : Nat} (D22 : Def P w K mg base CX0 (k + 1) "people_of" ["thing"] (spPeopleOf d)) : Def P w K mg base CX0 (k + 2) "people_said" ["item"] (spPeopleSaid (d + 1)) := by
  have D11 : Def P w K mg base CX0 1 "is_number" ["thing"] spIsNumber := d11 T
  obtain ⟨ta, gA⟩ := T.gAgain
  refine T.h21.ok sc21 (fun vs H Q E h => ?_) (fun f cdv A outer s H vs Q E hr h => ?_)
  · obtain ⟨p, q, n, bs, b, rfl, _⟩ := h
    rfl
  · obtain ⟨p, q, n, bs, b, rfl, hp, hq, hI, hF, hd, hn, hB, k⟩ := h
    refine ⟨_, pss_cons (ps_if (PW.pt (pw_or (pt_not (pt_val (pe_callB call_isi (by rfl) T.bIsi (by decide +kernel) (pa_cons (pv 0) (pa_cons (pe_bltn (v := .ty "tuple") (by rfl) T.bTuple (by decide +kernel) rfl) pa_nil)))))
      (pw_or (pt_cmpR op_ne (pe_callB call_len_seq (by rfl) T.bLen (by decide +kernel) (pa_cons (pv 0) pa_nil)) pe_int (nomark _))
        (pw_or (pt_not (pt_val (pe_callB call_isi (by rfl) T.bIsi (by decide +kernel) (pa_cons (pe_ix ix_tup (pv 0) pe_int (fun _ _ => rfl)) (pa_cons (pe_bltn (v := .ty "str") (by rfl) T.bStr (by decide +kernel) rfl) pa_nil)))))
          (pw_or1 (pt_cmpR op_ne (pe_ix ix_tup (pv 0) pe_int (fun _ _ => rfl)) (pe_glob (v := .str "again") (by rfl) gA ⟨_, rfl⟩) (nomark _)))))))
      (pss_one (ps_ret pe_non)) pss_nil)
      (pss_cons (ps_set (i := 1) sc21.nd rfl (Or.inl rfl) (cd D22 (hr.mono (by omega)) (by rfl) pass0 (pa_cons (pe_ix ix_tup (pv 0) pe_int (fun _ _ => rfl)) pa_nil)))
      (pss_one (ps_ret (pe_ifExp (PW.pt (pw_and (pt_val (cd D11 (hr.mono (by omega)) (by rfl) pass0 (pa_cons (pe_ix ix_tup (pv 0) pe_int (fun _ _ => rfl)) pa_nil))) (pw_and1 (pt_cmpR op_notN (pv 1) pe_non (nomark _)))))
        (pe_op op_mulW (pe_ix ix_tup (pv 0) pe_int (fun _ _ => rfl)) (pv 1)) pe_non)))), ?_⟩
    refine ⟨_, rfl, _, _, _, _, true, rfl, .ty "tuple", .base (.tup hp), kit_ty (a := "tuple") (b := "tuple") (by decide +kernel), _, rfl, ?_⟩
    refine iteF ⟨_, rfl, p, _, rfl, .inr (SqT.of hp), rfl, _, rfl, iteF ?_⟩
    refine ⟨_, rfl, p, _, _, _, rfl, rfl, SqT.of hp, at_of (j := 0) rfl rfl, _, _, _, _, true, rfl, .ty "str", .base (.str _), kit_ty (a := "str") (b := "str") (by decide +kernel), _, rfl, iteF ?_⟩
    refine ⟨_, rfl, p, _, _, _, rfl, rfl, SqT.of hp, at_of (j := 0) rfl rfl, rfl, _, rfl, ifF (by simp) ?_⟩
    refine ⟨_, rfl, p, _, _, _, rfl, rfl, SqT.of hp, at_of (j := 2) rfl rfl, q, bs, b, rfl, hq, hI, hF, by omega, fun H' sm => ?_⟩
    have hp' := sm _ _ hp
    refine ⟨_, rfl, p, _, _, _, rfl, rfl, SqT.of hp', at_of (j := 1) rfl rfl, _, rfl, _, rfl, ifT (decide_eq_true (Int.natCast_nonneg _)) ?_⟩
    refine ⟨_, rfl, rfl, _, rfl, ifT (by simp) ?_⟩
    refine ⟨_, rfl, p, _, _, _, rfl, rfl, SqT.of hp', at_of (j := 1) rfl rfl, _, rfl, _, _, rfl, rfl, mulB (Int.natCast_nonneg _) hn (Int.natCast_nonneg _) hB, ?_⟩
    show Q (V.int ((n : Int) * (ppl b : Int))) H'
    rw [← Int.natCast_mul]
    exact k H' sm
theorem d22 (T : Txt K mg S O HC NN) {d k : Nat} (D21 : Def P w K mg base CX0 (k + 2) "people_said" ["item"] (spPeopleSaid d)) : Def P w K mg base CX0 (k + 3) "people_of" ["thing"] (spPeopleOf d) := by
  have D12 : Def P w K mg base CX0 2 "is_saying" ["thing"] spIsSaying := d12 T
  refine T.h22.ok sc22 (fun vs H Q E h => ?_) (fun f cdv A outer s H vs Q E hr h => ?_)
  · obtain ⟨a, xs, t, rfl, _⟩ := h
    rfl
  · obtain ⟨a, xs, t, rfl, ha, hI, hF, hd, q⟩ := h
    refine ⟨_, pss_cons (ps_if (pt_not (pt_val (pe_callB call_isiT (by rfl) T.bIsi (by decide +kernel) (pa_cons (pv 0) (pa_cons (pe_tup (pa_cons (pe_bltn (v := .ty "list") (by rfl) T.bList (by decide +kernel) rfl)
        (pa_cons (pe_bltn (v := .ty "tuple") (by rfl) T.bTuple (by decide +kernel) rfl) pa_nil))) pa_nil))))) (pss_one (ps_ret pe_non)) pss_nil)
      (pss_cons (ps_set (i := 1) sc22.nd rfl (Or.inl rfl) pe_int)
      (pss_cons (ps_for PassesOwn.never rfl (pi_list (pv 0)) (pg_name (i := 2) sc22.nd rfl (Or.inl rfl))
        (pss_cons (ps_set (i := 3) sc22.nd rfl (Or.inl rfl) (pe_ifExp (pt_val (cd D12 (hr.mono (by omega)) (by rfl) pass0 (pa_cons (pv 2) pa_nil))) pe_int (cd D21 hr (by rfl) pass0 (pa_cons (pv 2) pa_nil))))
        (pss_cons (ps_if (pt_cmpR op_isN (pv 3) pe_non (nomark _)) (pss_one (ps_ret pe_non)) pss_nil)
        (pss_one (ps_aug (i := 1) sc22.nd rfl (Or.inl rfl) (pv 3) ip_add)))))
      (pss_one (ps_ret (pv 1))))), ?_⟩
    refine ⟨_, rfl, (by show 2 ≤ sizeLine; decide), fun tp htp => ⟨_, tp, _, .type "list", _, true, rfl, upd_same, .cons (.ty "list") (.cons (.ty "tuple") .nil), .base (.lst (by rw [upd_ne (ne_of_none ha htp)]; exact ha)),
      kitAny_cons (b := true) (kit_ty (a := "list") (b := "list") (by decide +kernel)) (fun z => Bool.noConfusion z) (fun _ => rfl), _, rfl, iteF ?_⟩⟩
    have s0 : Same H (upd H tp (.tup [.ty "list", .ty "tuple"])) := Same.new htp _
    refine ⟨_, rfl, a, rfl, ⟨_, SqL.of (s0 _ _ ha)⟩, for_list (K := K) (a := a) (xs := xs)
      (fun i σ H' => ∃ (z : Int) (v2 v3 : Option V), σ = [some (.ref a), some (.int z), v2, v3] ∧ Same H H' ∧ z + (ppl (tl i t) : Int) = ppl t) ?_ ?_ ?_ ?_⟩
    · exact ⟨0, none, none, rfl, s0, by simp [tl]⟩
    · rintro i σ H' _ ⟨z, v2, v3, _, sm, _⟩
      exact SqL.of (sm _ _ ha)
    · rintro i x σ H' hx ⟨z, v2, v3, rfl, sm, hz⟩
      rcases (hI.mono sm).at hx with ⟨l, m, p, et, rfl, hp⟩ | ⟨n, b, p, q', bs, et, rfl, hp, hq, hb⟩
      · have hk := ok_tl i hF.ok
        rw [et] at hk
        obtain ⟨h0, hm⟩ := ok_say hk
        refine ⟨_, rfl, p, rfl, .inl ⟨l, m, hp, h0, hm, _, rfl, iteT ?_⟩⟩
        refine ⟨_, rfl, rfl, _, rfl, iteF ?_⟩
        refine ⟨_, rfl, _, rfl, _, _, rfl, rfl, z + 1, _, _, rfl, sm, ?_⟩
        rw [et] at hz
        have e : ppl (.say l m (tl (i + 1) t)) = 1 + ppl (tl (i + 1) t) := rfl
        omega
      · have hk := hF.tl i
        have hd2 : depth (tl i t) ≤ d := Nat.le_trans (depth_tl t i) hd
        rw [et] at hk hd2
        refine ⟨_, rfl, p, rfl, .inr ⟨_, _, _, hp, _, rfl, iteF ?_⟩⟩
        refine ⟨_, rfl, p, q', n, bs, b, rfl, hp, hq, hb, hk.body, depth_body hd2, hk.ok.1.1, hk.ok.1.2.1, fun H2 s2 => ?_⟩
        refine ⟨_, rfl, rfl, _, rfl, iteF ?_⟩
        refine ⟨_, rfl, _, rfl, _, _, rfl, rfl, z + ((n * ppl b : Nat) : Int), _, _, rfl, sm.trans s2, ?_⟩
        rw [et] at hz
        have e : ppl (.rep n b (tl (i + 1) t)) = n * ppl b + ppl (tl (i + 1) t) := rfl
        omega
    · rintro σ H' ⟨z, v2, v3, rfl, sm, hz⟩
      refine ⟨_, rfl, ?_⟩
      have e : z = ((ppl t : Nat) : Int) := by
        rw [hI.len, tl_len] at hz
        have z' : ((ppl Bo.T.nil : Nat) : Int) = 0 := rfl
        omega
      rw [e]
      exact q H' sm
theorem d22n (T : Txt K mg S O HC NN) : ∀ d : Nat, Def P w K mg base CX0 (2 * d + 3) "people_of" ["thing"] (spPeopleOf d)
  | 0 => d22 (k := 0) T (d21z T 1)
  | d + 1 => d22 (k := 2 * d + 2) T (d21s (k := 2 * d + 2) T (d22n T d))

/-! ### is_long, need_long -/
def spIsLong : Sp := fun vs H Q _ => ∃ (a : Addr) (xs : List V) (t : T), vs = [.ref a] ∧ H a = some (.lst xs) ∧ Items H t xs ∧ Fit t ∧ depth t ≤ 2 ∧ (ppl t : Int) ≤ 999999999999999999999999999999 ∧ ∀ H' : Hp, Same H H' → Q (.bl true) H'
theorem sc23 : FnScope ["thing", "many"] ["thing"] (defScope (top 23)) := ⟨rfl, rfl, rfl, by decide +kernel, rfl, by decide +kernel, by decide +kernel⟩
theorem d23 (T : Txt K mg S O HC NN) : Def P w K mg base CX0 8 "is_long" ["thing"] spIsLong := by
  have D22 : Def P w K mg base CX0 7 "people_of" ["thing"] (spPeopleOf 2) := d22n T 2
  obtain ⟨tm, gM⟩ := T.gMost
  refine T.h23.ok sc23 (fun vs H Q E h => ?_) (fun f cdv A outer s H vs Q E hr h => ?_)
  · obtain ⟨a, xs, t, rfl, _⟩ := h
    rfl
  · obtain ⟨a, xs, t, rfl, ha, hI, hF, hd, hm, q⟩ := h
    refine ⟨_, pss_cons (ps_set (i := 1) sc23.nd rfl (Or.inl rfl) (cd D22 hr (by rfl) pass0 (pa_cons (pv 0) pa_nil)))
      (pss_one (ps_ret (pe_and (pe_cmpR op_notN (pv 1) pe_non (nomark _)) (pe_one (pe_cmpR op_le (pv 1) (pe_glob (v := .int 999999999999999999999999999999) (by rfl) gM ⟨_, rfl⟩) (nomark _)))))), ?_⟩
    refine ⟨_, rfl, a, xs, t, rfl, ha, hI, hF, hd, fun H' sm => ?_⟩
    refine ⟨_, rfl, rfl, _, rfl, ifT (by simp) ⟨_, rfl, _, _, rfl, rfl, ?_⟩⟩
    show Q (V.bl (decide ((ppl t : Int) ≤ 999999999999999999999999999999))) H'
    rw [decide_eq_true hm]
    exact q H' sm
def spNeedLong : Sp := fun vs H Q _ => ∃ (a : Addr) (xs : List V) (t : T), vs = [.ref a] ∧ H a = some (.lst xs) ∧ Items H t xs ∧ Fit t ∧ depth t ≤ 2 ∧ (ppl t : Int) ≤ 999999999999999999999999999999 ∧ ∀ H' : Hp, Same H H' → Q .non H'
theorem sc24 : FnScope ["thing"] ["thing"] (defScope (top 24)) := ⟨rfl, rfl, rfl, by decide +kernel, rfl, by decide +kernel, by decide +kernel⟩
theorem d24 (T : Txt K mg S O HC NN) : Def P w K mg base CX0 9 "need_long" ["thing"] spNeedLong := by
  have D23 : Def P w K mg base CX0 8 "is_long" ["thing"] spIsLong := d23 T
  refine T.h24.ok sc24 (fun vs H Q E h => ?_) (fun f cdv A outer s H vs Q E hr h => ?_)
  · obtain ⟨a, xs, t, rfl, _⟩ := h
    rfl
  · obtain ⟨a, xs, t, rfl, ha, hI, hF, hd, hm, q⟩ := h
    refine ⟨_, pss_one (ps_if (pt_not (pt_val (cd D23 hr (by rfl) pass0 (pa_cons (pv 0) pa_nil)))) (pss_one ps_never) pss_nil), ?_⟩
    exact ⟨_, rfl, a, xs, t, rfl, ha, hI, hF, hd, hm, fun H' sm => ⟨_, rfl, iteF (q H' sm)⟩⟩

/-! ### planted -/
def spPlanted (S O : Addr) (d : Nat) : Sp := fun vs H Q _ => ∃ (a : Addr) (xs : List V) (t : T) (k : Int) (R : Hp), vs = [.ref a, .int k] ∧ Same R H ∧ R a = some (.lst xs) ∧ Items R t xs ∧ Fit t ∧ depth t ≤ d ∧ 0 ≤ k ∧ k + size t ≤ 1000 ∧
  ∀ (R' H' : Hp) (tp p : Addr) (ys : List V) (k' : Int), Same H H' → Grow R H R' H' → H' tp = some (.tup [.ref p, .int k']) → R' p = some (.lst ys) → Parts S O R' t ys → k ≤ k' → k' ≤ k + size t → Q (.ref tp) H'
theorem sc25 : FnScope ["long", "first", "parts", "item", "inner"] ["long", "first"] (defScope (top 25)) := ⟨rfl, rfl, rfl, by decide +kernel, rfl, by decide +kernel, by decide +kernel⟩
/-- the state between two turns -/
def PlantAt (S O : Addr) (R H0 : Hp) (a p : Addr) (t : T) (k : Int) (i : Nat) (σ : St) (H' : Hp) : Prop :=
  ∃ (R' : Hp) (k' : Int) (v3 v4 : Option V) (acc : List V) (ta : T), σ = [some (.ref a), some (.int k'), some (.ref p), v3, v4] ∧ Same H0 H' ∧ Grow R H0 R' H' ∧ R' p = none ∧ H' p = some (.lst acc) ∧ Parts S O R' ta acc ∧ app ta (tl i t) = t ∧
    k ≤ k' ∧ k' + size (tl i t) ≤ k + size t ∧ acc.length = i
theorem d25 (T : Txt K mg S O HC NN) {d k : Nat} (IH : ∀ e, e + 1 = d → Def P w K mg base CX0 (k + 3) "planted" ["long", "first"] (spPlanted S O e)) : Def P w K mg base CX0 (k + 4) "planted" ["long", "first"] (spPlanted S O d) := by
  have D12 : Def P w K mg base CX0 2 "is_saying" ["thing"] spIsSaying := d12 T
  have DS : DefI P w K mg base CX0 1 S ["self", "saying", "number"] (spSpot S) := dSpot T
  have DO : DefI P w K mg base CX0 2 O ["self", "times", "parts"] (spOver S O) := dOver T
  have DP : Def P w K mg base CX0 (k + 3) "planted" ["long", "first"] (fun vs H Q E => ∃ e, e + 1 = d ∧ spPlanted S O e vs H Q E) := by
    cases d with
    | zero =>
      refine T.h25.ok (k := k + 2) sc25 (fun vs H Q E h => ?_) (fun f cdv A outer s H vs Q E hr h => ?_)
      · obtain ⟨e, h, _⟩ := h
        omega
      · obtain ⟨e, h, _⟩ := h
        omega
    | succ d =>
      refine (IH d rfl).imp fun vs H Q E h => ?_
      obtain ⟨e, h1, h2⟩ := h
      cases h1
      exact h2
  refine T.h25.ok sc25 (fun vs H Q E h => ?_) (fun f cdv A outer s H vs Q E hr h => ?_)
  · obtain ⟨a, xs, t, k0, R, rfl, _⟩ := h
    rfl
  · obtain ⟨a, xs, t, k0, R, rfl, hR, ha, hI, hF, hd, k00, kk, q⟩ := h
    refine ⟨_, pss_cons (ps_set (i := 2) sc25.nd rfl (Or.inl rfl) (pe_lst pa_nil))
      (pss_cons (ps_for PassesOwn.never rfl (pi_list (pv 0)) (pg_name (i := 3) sc25.nd rfl (Or.inl rfl))
        (pss_one (ps_if (pt_val (cd D12 (hr.mono (by omega)) (by rfl) pass0 (pa_cons (pv 3) pa_nil)))
          (pss_cons (ps_expr (pe_bm PySem.F.plainAttrs_list PySem.F.slot_list_append PySem.F.type_list_append mt_append (pv 2) (pa_cons (ci DS (hr.mono (by omega)) (by rfl) T.gS pass0 (pa_cons (pv 3) (pa_cons (pv 1) pa_nil))) pa_nil)))
            (pss_one (ps_aug (i := 1) sc25.nd rfl (Or.inl rfl) pe_int ip_add)))
          (pss_cons (ps_asg (cd DP hr (by rfl) pass0 (pa_cons (pe_ix ix_tup (pv 3) pe_int (fun _ _ => rfl)) (pa_cons (pv 1) pa_nil)))
              (pg_tup (by rfl) (pgs_cons (pg_name (i := 4) sc25.nd rfl (Or.inl rfl)) (pgs_cons (pg_name (i := 1) sc25.nd rfl (Or.inl rfl)) pgs_nil))))
            (pss_one (ps_expr (pe_bm PySem.F.plainAttrs_list PySem.F.slot_list_append PySem.F.type_list_append mt_append (pv 2) (pa_cons (ci DO (hr.mono (by omega)) (by rfl) T.gO pass0 (pa_cons (pe_ix ix_tup (pv 3) pe_int (fun _ _ => rfl)) (pa_cons (pv 4) pa_nil))) pa_nil))))))))
      (pss_one (ps_ret (pe_tup (pa_cons (pv 2) (pa_cons (pv 1) pa_nil)))))), ?_⟩
    refine ⟨(by show 0 ≤ sizeLine; decide), fun p hp => ?_⟩
    have s0 : Same H (upd H p (.lst [])) := Same.new hp _
    have nR : R p = none := Same.free hR hp
    refine ⟨_, rfl, a, rfl, ⟨_, SqL.of (s0 _ _ (hR _ _ ha))⟩, for_list (K := K) (a := a) (xs := xs) (PlantAt S O R H a p t k0) ?_ ?_ ?_ ?_⟩
    · exact ⟨R, k0, none, none, [], .nil, rfl, s0, ⟨.refl R, sameOff hR nR _, fun b h1 h2 => absurd h1 h2⟩, nR, upd_same, rfl, rfl, Int.le_refl _, by simp [tl], rfl⟩
    · rintro i σ H' _ ⟨R', k', v3, v4, acc, ta, _, sm, _⟩
      exact SqL.of (sm _ _ (hR _ _ ha))
    · rintro i x σ H' hx ⟨R', k', v3, v4, acc, ta, rfl, sm, gr, nRp, hacc, hPa, eT, k1, k2, hlen⟩
      have hi : i < xs.length := (List.getElem?_eq_some_iff.mp hx).1
      have hl := hF.len
      rw [hI.len] at hi
      have hz : acc.length < sizeLine := small1000 (by omega)
      rcases ((hI.mono gr.rr).at hx) with ⟨l, m, ip, et, rfl, hip⟩ | ⟨n, b, ip, bq, bs, et, rfl, hip, hbq, hb⟩
      · -- a saying
        have hk := ok_tl i hF.ok
        rw [et] at hk
        obtain ⟨h0, hm⟩ := ok_say hk
        have esz : size (tl i t) = 1 + size (tl (i + 1) t) := by rw [et]; rfl
        refine ⟨_, rfl, ip, rfl, .inl ⟨l, m, gr.rh _ _ hip, h0, hm, _, rfl, iteT ?_⟩⟩
        refine ⟨_, rfl, .inl ⟨rfl, _, SqL.of hacc⟩, _, rfl, _, rfl, fun x dx nx ndx nex => ?_⟩
        refine ⟨x, dx, ip, k', rfl, upd_same, fun H2 hx2 ot => ⟨rfl, ?_⟩⟩
        have s2 : Same H' H2 := fun c o e => by
          rw [ot c (ne_of_none e nx), upd_ne (ne_of_none e nx), upd_ne (ne_of_none e ndx)]
          exact e
        have npx : p ≠ x := ne_of_none hacc nx
        refine ⟨p, acc, _, rfl, rfl, s2 _ _ hacc, hz, ?_⟩
        have nRx : R' x = none := Same.free gr.rh nx
        have g2 : Grow R H (upd R' x (.ins S dx (spotF ip k'))) (upd H2 p (.lst (acc ++ [.ref x]))) := by
          have g1 : Grow R H R' (upd H2 p (.lst (acc ++ [.ref x]))) := ⟨gr.rr, sameOff (gr.rh.trans s2) nRp _, gr.fr⟩
          exact g1.add (by rw [upd_ne npx.symm]; exact hx2) nRx (Same.free sm nx)
        refine ⟨_, rfl, _, _, rfl, rfl, ?_⟩
        refine ⟨upd R' x (.ins S dx (spotF ip k')), k' + 1, _, _, acc ++ [.ref x], app ta (.say l m .nil), rfl, fun c o e => ?_, g2, ?_, upd_same, ?_, ?_, by omega, by omega, by rw [List.length_append, hlen]; rfl⟩
        · rw [upd_ne (ne_of_none e hp)]
          exact s2 _ _ (sm c o e)
        · rw [upd_ne npx]
          exact nRp
        · have sR : Same R' (upd R' x (.ins S dx (spotF ip k'))) := Same.new nRx _
          exact (hPa.mono sR).app ⟨x, dx, ip, k', [], rfl, upd_same, sR _ _ hip, by omega, by omega, rfl⟩
        · rw [app_assoc]
          rw [et] at eT
          exact eT
      · -- said again
        have hk := hF.tl i
        have hd2 : depth (tl i t) ≤ d := Nat.le_trans (depth_tl t i) hd
        rw [et] at hk hd2
        have hd3 := depth_body hd2
        have esz : size (tl i t) = 1 + size b + size (tl (i + 1) t) := by rw [et]; rfl
        refine ⟨_, rfl, ip, rfl, .inr ⟨_, _, _, gr.rh _ _ hip, _, rfl, iteF ?_⟩⟩
        refine ⟨_, rfl, ip, _, _, _, rfl, rfl, SqT.of (gr.rh _ _ hip), at_of (j := 2) rfl rfl, _, rfl, d - 1, by omega, bq, bs, b, k', R', rfl, gr.rh, hbq, hb, hk.body, by omega, by omega, by omega, fun R2 H2 tp2 p2 ys k2' s2 g2 htp hp2 hPb ka kb => ?_⟩
        refine ⟨tp2, _, rfl, SqT.of htp, rfl, _, _, rfl, _, _, rfl, rfl, ?_⟩
        have nR2 : R2 p = none := by
          cases z : R2 p with
          | none => rfl
          | some o =>
            have z2 := g2.fr p nRp (by rw [z]; exact fun e => nomatch e)
            rw [hacc] at z2
            cases z2
        have hacc2 := s2 _ _ hacc
        have hip2 := s2 _ _ (gr.rh _ _ hip)
        refine ⟨_, rfl, .inl ⟨rfl, _, SqL.of hacc2⟩, _, rfl, ip, _, _, _, rfl, rfl, SqT.of hip2, at_of (j := 1) rfl rfl, _, rfl, fun x dx nx ndx nex => ?_⟩
        have nRx : R2 x = none := Same.free g2.rh nx
        have nRd : R2 dx = none := Same.free g2.rh ndx
        refine ⟨x, dx, p2, n, ys, b, R2, rfl, upd_same, sameOff (sameOff g2.rh nRd _) nRx _, nRx, hp2, hPb, hk.body.len, hk.ok.1.1, hk.ok.1.2.1, fun H3 hx3 ot => ⟨rfl, ?_⟩⟩
        have s3 : Same H2 H3 := fun c o e => ot c o (ne_of_none e nx) (by
          rw [upd_ne (ne_of_none e nx), upd_ne (ne_of_none e ndx)]
          exact e)
        have npx : p ≠ x := ne_of_none hacc2 nx
        refine ⟨p, acc, _, rfl, rfl, s3 _ _ hacc2, hz, ?_⟩
        have s03 : Same H H3 := (sm.trans s2).trans s3
        have g3 : Grow R H R2 (upd H3 p (.lst (acc ++ [.ref x]))) := by
          have g := gr.trans g2 fun c hc => Same.free sm hc
          exact ⟨g.rr, sameOff (g.rh.trans s3) nR2 _, g.fr⟩
        refine ⟨upd R2 x (.ins O dx (overF n p2 (ppl b) (n * ppl b))), k2', _, _, acc ++ [.ref x], app ta (.rep n b .nil), rfl, fun c o e => ?_, g3.add (by rw [upd_ne npx.symm]; exact hx3) nRx (Same.free (sm.trans s2) nx), ?_, upd_same, ?_, ?_, by omega, by omega, by rw [List.length_append, hlen]; rfl⟩
        · rw [upd_ne (ne_of_none e hp)]
          exact s03 c o e
        · rw [upd_ne npx]
          exact nR2
        · have sR : Same R2 (upd R2 x (.ins O dx (overF n p2 (ppl b) (n * ppl b)))) := Same.new nRx _
          exact (hPa.mono (g2.rr.trans sR)).app ⟨x, dx, p2, ys, [], rfl, upd_same, sR _ _ hp2, hPb.mono sR, rfl⟩
        · rw [app_assoc]
          rw [et] at eT
          exact eT
    · rintro σ H' ⟨R', k', v3, v4, acc, ta, rfl, sm, gr, nRp, hacc, hPa, eT, k1, k2, hlen⟩
      rw [hI.len, tl_len] at eT k2
      rw [app_nil] at eT
      subst eT
      refine ⟨_, rfl, _, rfl, (by show 2 ≤ sizeLine; decide), fun tp htp => ?_⟩
      have npt : p ≠ tp := ne_of_none hacc htp
      have g2 : Grow R H (upd R' p (.lst acc)) (upd H' tp (.tup [.ref p, .int k'])) := (gr.same (Same.new htp _)).add (by rw [upd_ne npt]; exact hacc) nRp hp
      have e0 : ((size Bo.T.nil : Nat) : Int) = 0 := rfl
      exact q (upd R' p (.lst acc)) _ tp p acc k' (sm.trans (Same.new htp _)) g2 upd_same upd_same (hPa.mono (Same.new nRp _)) k1 (by omega)
theorem d25n (T : Txt K mg S O HC NN) : ∀ d : Nat, Def P w K mg base CX0 (d + 4) "planted" ["long", "first"] (spPlanted S O d)
  | 0 => d25 (k := 0) T (fun e h => by omega)
  | d + 1 => d25 (k := d + 1) T (fun e h => by cases h; exact d25n T d)

/-! ### parts_of -/
def spPartsOf (S O : Addr) : Sp := fun vs H Q _ => ∃ (a : Addr) (xs : List V) (t : T) (R : Hp), vs = [.ref a] ∧ Same R H ∧ R a = some (.lst xs) ∧ Items R t xs ∧ Fit t ∧ depth t ≤ 2 ∧ (ppl t : Int) ≤ 999999999999999999999999999999 ∧
  ∀ (R' H' : Hp) (p : Addr) (ys : List V), Same H H' → Grow R H R' H' → R' p = some (.lst ys) → Parts S O R' t ys → Q (.ref p) H'
theorem sc26 : FnScope ["long"] ["long"] (defScope (top 26)) := ⟨rfl, rfl, rfl, by decide +kernel, rfl, by decide +kernel, by decide +kernel⟩
theorem d26 (T : Txt K mg S O HC NN) : Def P w K mg base CX0 10 "parts_of" ["long"] (spPartsOf S O) := by
  have D24 : Def P w K mg base CX0 9 "need_long" ["thing"] spNeedLong := d24 T
  have D25 : Def P w K mg base CX0 6 "planted" ["long", "first"] (spPlanted S O 2) := d25n T 2
  refine T.h26.ok sc26 (fun vs H Q E h => ?_) (fun f cdv A outer s H vs Q E hr h => ?_)
  · obtain ⟨a, xs, t, R, rfl, _⟩ := h
    rfl
  · obtain ⟨a, xs, t, R, rfl, hR, ha, hI, hF, hd, hm, q⟩ := h
    refine ⟨_, pss_cons (ps_expr (cd D24 hr (by rfl) pass0 (pa_cons (pv 0) pa_nil)))
      (pss_one (ps_ret (pe_ix ix_tup (cd D25 (hr.mono (by decide)) (by rfl) pass0 (pa_cons (pv 0) (pa_cons pe_int pa_nil))) pe_int (fun _ _ => rfl)))), ?_⟩
    refine ⟨_, rfl, a, xs, t, rfl, hR _ _ ha, hI.mono hR, hF, hd, hm, fun H1 s1 => ?_⟩
    have hz := hF.sz
    refine ⟨_, rfl, a, xs, t, 0, R, rfl, hR.trans s1, ha, hI, hF, hd, Int.le_refl _, by omega, fun R2 H2 tp p ys k' s2 g2 htp hp hP _ _ => ?_⟩
    exact ⟨tp, _, _, _, rfl, rfl, SqT.of htp, at_of (j := 0) rfl rfl, q R2 H2 p ys (s1.trans s2) ⟨g2.rr, g2.rh, fun b h1 h2 => Same.free s1 (g2.fr b h1 h2)⟩ hp hP⟩
end
end Bo
end
section
/-! Boastrow: what comes of a long row by whole times. -/
namespace Bo
open PySem PySem.Spec L2
/-! ### counts: a dict of pairs by numbers -/
theorem nodup_lt : ∀ (n : Nat) (l : List Nat), l.Nodup → (∀ x ∈ l, x < n) → l.length ≤ n
  | 0, l, _, h => by
    cases l with
    | nil => exact Nat.le_refl _
    | cons a r => exact absurd (h a List.mem_cons_self) (Nat.not_lt_zero a)
  | n + 1, l, hn, h => by
    by_cases hm : n ∈ l
    · have ih := nodup_lt n (l.erase n) (hn.erase n) fun x hx => by
        obtain ⟨h1, h2⟩ := (List.Nodup.mem_erase_iff hn).mp hx
        have := h x h2
        omega
      rw [List.length_erase_of_mem hm] at ih
      omega
    · have ih := nodup_lt n l hn fun x hx => by
        have h1 := h x hx
        have h2 : x ≠ n := fun e => hm (e ▸ hx)
        omega
      omega
theorem valV_mem {κ : Type} [DecidableEq κ] {kvs : List (κ × V)} {k : κ} {v : V} (h : valV kvs k = some v) : (k, v) ∈ kvs := by
  unfold valV at h
  cases e : kvs.find? fun kv => decide (kv.1 = k) with
  | none => rw [e] at h; cases h
  | some p =>
    rw [e] at h
    have h2 : p.2 = v := Option.some.inj h
    have h1 : p.1 = k := of_decide_eq_true (List.find?_some (p := fun kv : κ × V => decide (kv.1 = k)) e)
    have hm := List.mem_of_find?_eq_some e
    rw [← h1, ← h2]
    exact hm
theorem mem_putK {κ : Type} [DecidableEq κ] {kvs : List (κ × V)} {k : κ} {v : V} {p : κ × V} (h : p ∈ putK kvs k v) : p = (k, v) ∨ (p ∈ kvs ∧ p.1 ≠ k) := by
  unfold putK at h
  by_cases a : (kvs.any fun kv => decide (kv.1 = k)) = true
  · rw [if_pos a] at h
    obtain ⟨q, hq, e⟩ := List.mem_map.mp h
    by_cases hk : q.1 = k
    · rw [if_pos hk] at e
      rw [← e, hk]
      exact .inl rfl
    · rw [if_neg hk] at e
      rw [← e]
      exact .inr ⟨hq, hk⟩
  · rw [if_neg a] at h
    rcases List.mem_append.mp h with h | h
    · refine .inr ⟨h, fun e => a (List.any_eq_true.mpr ⟨p, h, decide_eq_true e⟩)⟩
    · exact .inl (List.mem_singleton.mp h)
theorem nd_put {κ : Type} [DecidableEq κ] {kvs : List (κ × V)} {k : κ} (v : V) (hn : (kvs.map (·.1)).Nodup) : ((putK kvs k v).map (·.1)).Nodup := by
  cases e : valV kvs k with
  | none => exact nd_putK v hn e
  | some u =>
    have a : (kvs.any fun kv => decide (kv.1 = k)) = true := by rw [valV_any, e]; rfl
    unfold putK
    rw [if_pos a, List.map_map]
    have z : ((fun x : κ × V => x.1) ∘ fun kv : κ × V => if kv.1 = k then (kv.1, v) else kv) = fun x : κ × V => x.1 := by
      funext kv
      show (if kv.1 = k then (kv.1, v) else kv).1 = kv.1
      split <;> rfl
    rw [z]
    exact hn
/-- keys below 1000, each with two numbers, at most f of the key -/
structure CK (H : Hp) (f : Int → Int) (kvs : List (Key × V)) : Prop where
  nd : (kvs.map (·.1)).Nodup
  each : ∀ p ∈ kvs, ∃ (k : Int) (a : Addr) (x y : Int), p = (Sum.inl k, V.ref a) ∧ 0 ≤ k ∧ k < 1000 ∧ H a = some (.lst [.int x, .int y]) ∧ 0 ≤ x ∧ x ≤ f k ∧ 0 ≤ y ∧ y ≤ f k
theorem CK.len {H : Hp} {f : Int → Int} {kvs : List (Key × V)} (c : CK H f kvs) : kvs.length ≤ 1000 := by
  have h := nodup_lt 1000 (kvs.map fun p => match p.1 with | .inl k => k.toNat | .inr _ => 0) ?_ ?_
  · rw [List.length_map] at h
    exact h
  · have each := c.each
    have nd := c.nd
    clear c
    induction kvs with
    | nil => exact List.nodup_nil
    | cons p r ih =>
      have nd : (p.1 :: r.map (·.1)).Nodup := nd
      obtain ⟨n1, n2⟩ := List.nodup_cons.mp nd
      rw [List.map_cons]
      refine List.nodup_cons.mpr ⟨fun m => ?_, ih (fun q hq => each q (List.mem_cons_of_mem _ hq)) n2⟩
      obtain ⟨q, hq, e⟩ := List.mem_map.mp m
      obtain ⟨k, a, x, y, e1, k0, _⟩ := each p List.mem_cons_self
      obtain ⟨k', a', x', y', e2, k0', _⟩ := each q (List.mem_cons_of_mem _ hq)
      subst e1 e2
      have e : k'.toNat = k.toNat := e
      have ek : k' = k := by omega
      subst ek
      exact n1 (List.mem_map.mpr ⟨_, hq, rfl⟩)
  · intro x hx
    obtain ⟨p, hp, rfl⟩ := List.mem_map.mp hx
    obtain ⟨k, a, x, y, rfl, k0, k1, _⟩ := c.each p hp
    show k.toNat < 1000
    omega
theorem CK.mono {H H' : Hp} {f g : Int → Int} {kvs : List (Key × V)} (c : CK H f kvs) (s : ∀ a x y, H a = some (.lst [.int x, .int y]) → H' a = some (.lst [.int x, .int y])) (h : ∀ k, f k ≤ g k) : CK H' g kvs :=
  ⟨c.nd, fun p hp => by
    obtain ⟨k, a, x, y, e, k0, k1, ha, x0, x1, y0, y1⟩ := c.each p hp
    exact ⟨k, a, x, y, e, k0, k1, s _ _ _ ha, x0, Int.le_trans x1 (h k), y0, Int.le_trans y1 (h k)⟩⟩
theorem CK.put {H : Hp} {f g : Int → Int} {kvs : List (Key × V)} (c : CK H f kvs) {k : Int} {a : Addr} {x y : Int} (h : ∀ j, f j ≤ g j) (k0 : 0 ≤ k) (k1 : k < 1000) (ha : H a = some (.lst [.int x, .int y])) (x0 : 0 ≤ x) (x1 : x ≤ g k) (y0 : 0 ≤ y) (y1 : y ≤ g k) :
    CK H g (putK kvs (Sum.inl k) (.ref a)) := by
  refine ⟨nd_put _ c.nd, fun p hp => ?_⟩
  rcases mem_putK hp with rfl | ⟨hp, _⟩
  · exact ⟨k, a, x, y, rfl, k0, k1, ha, x0, x1, y0, y1⟩
  · obtain ⟨k, a, x, y, e, k0, k1, ha, x0, x1, y0, y1⟩ := c.each p hp
    exact ⟨k, a, x, y, e, k0, k1, ha, x0, Int.le_trans x1 (h k), y0, Int.le_trans y1 (h k)⟩
theorem CK.nil {H : Hp} {f : Int → Int} : CK H f [] := ⟨List.nodup_nil, fun _ h => (nomatch h)⟩
/-- what stands at a key, or the new pair of noughts -/
theorem CK.old {H : Hp} {f : Int → Int} {kvs : List (Key × V)} (c : CK H f kvs) {k : Int} {l : Addr} (hl : H l = some (.lst [.int 0, .int 0])) (f0 : 0 ≤ f k) :
    ∃ (a : Addr) (x y : Int), (valV kvs (Sum.inl k)).getD (.ref l) = .ref a ∧ H a = some (.lst [.int x, .int y]) ∧ 0 ≤ x ∧ x ≤ f k ∧ 0 ≤ y ∧ y ≤ f k := by
  cases e : valV kvs (Sum.inl k) with
  | none => exact ⟨l, 0, 0, rfl, hl, Int.le_refl _, f0, Int.le_refl _, f0⟩
  | some v =>
    obtain ⟨k', a, x, y, e2, _, _, ha, x0, x1, y0, y1⟩ := c.each _ (valV_mem e)
    injection e2 with e3 e4
    injection e3 with e5
    subst e4 e5
    exact ⟨a, x, y, rfl, ha, x0, x1, y0, y1⟩
section
variable {P : Program} {w : World} {K : PySem.W.Frag} {mg : Str → Option Value} {base : Heap} {S O HC NN : Addr}

/-! ### lesser_slack -/
def spLesser : Sp := fun vs H Q _ => ∃ a b : Option Int, vs = [mV a, mV b] ∧ Q (mV (les a b)) H
theorem sc31 : FnScope ["one", "other"] ["one", "other"] (defScope (top 31)) := ⟨rfl, rfl, rfl, by decide +kernel, rfl, by decide +kernel, by decide +kernel⟩
theorem mV_some {x : Int} : decide (mV (some x) = V.non) = false := by simp [mV]
theorem d31 (T : Txt K mg S O HC NN) : Def P w K mg base CX0 1 "lesser_slack" ["one", "other"] spLesser := by
  refine T.h31.ok sc31 (fun vs H Q E h => ?_) (fun f cdv A outer s H vs Q E hr h => ?_)
  · obtain ⟨a, b, rfl, _⟩ := h
    rfl
  · obtain ⟨a, b, rfl, q⟩ := h
    refine ⟨_, pss_cons (ps_if (PW.pt (pw_or (pt_cmpR op_isN (pv 0) pe_non (nomark _)) (pw_or1 (pt_cmpR op_isN (pv 1) pe_non (nomark _)))))
      (pss_one (ps_ret (pe_ifExp (pt_cmpR op_isN (pv 0) pe_non (nomark _)) (pv 1) (pv 0)))) pss_nil)
      (pss_one (ps_ret (pe_callB (call_min2 rfl) (by rfl) T.bMin (by decide +kernel) (pa_cons (pv 0) (pa_cons (pv 1) pa_nil))))), ?_⟩
    cases a with
    | none => exact ⟨_, rfl, rfl, _, rfl, ifT (by decide) (ifT (by decide) ⟨_, rfl, rfl, _, rfl, ifT (by decide) ⟨_, rfl, q⟩⟩)⟩
    | some x =>
      cases b with
      | none => exact ⟨_, rfl, rfl, _, rfl, ifF mV_some ⟨_, rfl, rfl, _, rfl, ifT (by decide) ⟨_, rfl, rfl, _, rfl, ifF mV_some ⟨_, rfl, q⟩⟩⟩⟩
      | some y =>
        refine ⟨_, rfl, rfl, _, rfl, ifF mV_some ⟨_, rfl, rfl, _, rfl, ifF mV_some ⟨_, rfl, _, rfl, x, y, rfl, ?_⟩⟩⟩
        exact q

/-! ### word_of -/
def spWord : Sp := fun vs H Q _ => ∃ (t : Addr) (l : Int) (m : Option Int) (c : Int), vs = [.ref t, .int c] ∧ H t = some (.tup [.int l, mV m]) ∧
  ∀ (H' : Hp) (tp pr : Addr) (x y : Int), Same H H' → H' tp = some (.tup [.ref pr, mV (own1 l m c)]) → H' pr = some (.lst [.int x, .int y]) → 0 ≤ x → x ≤ 1 → 0 ≤ y → y ≤ 1 → f1 l m c = c + y → Q (.ref tp) H'
theorem sc32 : FnScope ["saying", "number", "least", "most"] ["saying", "number"] (defScope (top 32)) := ⟨rfl, rfl, rfl, by decide +kernel, rfl, by decide +kernel, by decide +kernel⟩
theorem d32 (T : Txt K mg S O HC NN) : Def P w K mg base CX0 1 "word_of" ["saying", "number"] spWord := by
  refine T.h32.ok sc32 (fun vs H Q E h => ?_) (fun f cdv A outer s H vs Q E hr h => ?_)
  · obtain ⟨t, l, m, c, rfl, _⟩ := h
    rfl
  · obtain ⟨t, l, m, c, rfl, ht, q⟩ := h
    refine ⟨_, pss_cons (ps_asg (pv 0) (pg_tup (by rfl) (pgs_cons (pg_name (i := 2) sc32.nd rfl (Or.inl rfl)) (pgs_cons (pg_name (i := 3) sc32.nd rfl (Or.inl rfl)) pgs_nil))))
      (pss_cons (ps_if (pt_cmpR op_lt (pv 1) (pv 2) (nomark _)) (pss_one (ps_ret (pe_tup (pa_cons (pe_lst (pa_cons pe_int (pa_cons pe_int pa_nil))) (pa_cons (pe_op op_sub (pe_op op_sub (pv 2) pe_int) (pv 1)) pa_nil))))) pss_nil)
      (pss_cons (ps_if (PW.pt (pw_or (pt_cmpR op_isN (pv 3) pe_non (nomark _)) (pw_or1 (pt_cmpR op_le (pv 1) (pv 3) (nomark _)))))
        (pss_one (ps_ret (pe_tup (pa_cons (pe_lst (pa_cons pe_int (pa_cons pe_int pa_nil))) (pa_cons (pe_ifExp (pt_cmpR op_isN (pv 3) pe_non (nomark _)) pe_non (pe_op op_sub (pv 3) (pv 1))) pa_nil))))) pss_nil)
      (pss_one (ps_ret (pe_tup (pa_cons (pe_lst (pa_cons pe_int (pa_cons pe_int pa_nil))) (pa_cons pe_non pa_nil))))))), ?_⟩
    have z2 : 2 ≤ sizeLine := by decide
    -- a way's end: the pair at pr, the tuple at tp
    have fin : ∀ (x y : Int) (o : Option Int) (pr : Addr), H pr = none → ∀ tp, (upd H pr (.lst [.int x, .int y])) tp = none → o = own1 l m c → 0 ≤ x → x ≤ 1 → 0 ≤ y → y ≤ 1 → f1 l m c = c + y →
        Q (.ref tp) (upd (upd H pr (.lst [.int x, .int y])) tp (.tup [.ref pr, mV o])) := fun x y o pr hpr tp htp eo x0 x1 y0 y1 ef => by
      subst eo
      refine q _ tp pr x y (L2.Same.trans (Same.new hpr _) (Same.new htp _)) upd_same ?_ x0 x1 y0 y1 ef
      rw [upd_ne (ne_of_none upd_same htp)]
      exact upd_same
    refine ⟨_, rfl, t, _, rfl, SqT.of ht, rfl, _, _, rfl, _, _, rfl, rfl, ?_⟩
    refine ⟨_, rfl, _, rfl, _, _, rfl, rfl, _, rfl, ?_⟩
    refine ite2 (fun h => ?_) (fun h => ?_)
    · have h : c < l := of_decide_eq_true h
      refine ⟨z2, fun pr hpr => ⟨_, rfl, _, _, rfl, rfl, _, rfl, _, _, rfl, rfl, z2, fun tp htp => ?_⟩⟩
      refine fin 1 0 (some (l - 1 - c)) pr hpr tp htp ?_ (by decide) (by decide) (by decide) (by decide) ?_
      · unfold own1
        rw [if_pos h]
      · unfold f1
        rw [if_pos h]
        omega
    · have h : ¬ c < l := of_decide_eq_false (Bool.eq_false_iff.mpr h)
      cases m with
      | none =>
        refine ⟨_, rfl, rfl, _, rfl, ifT (by decide) (ifT rfl ?_)⟩
        refine ⟨z2, fun pr hpr => ⟨_, rfl, rfl, _, rfl, ifT (by decide) ⟨z2, fun tp htp => ?_⟩⟩⟩
        refine fin 0 1 none pr hpr tp htp ?_ (by decide) (by decide) (by decide) (by decide) ?_
        · unfold own1
          rw [if_neg h]
        · unfold f1
          rw [if_neg h]
      | some x =>
        refine ⟨_, rfl, rfl, _, rfl, ifF mV_some ⟨_, rfl, _, rfl, _, _, rfl, rfl, _, rfl, ?_⟩⟩
        refine ite2 (fun h2 => ?_) (fun h2 => ?_)
        · have h2 : c ≤ x := of_decide_eq_true h2
          refine ⟨z2, fun pr hpr => ⟨_, rfl, rfl, _, rfl, ifF mV_some ⟨_, rfl, _, rfl, _, _, rfl, rfl, z2, fun tp htp => ?_⟩⟩⟩
          refine fin 0 1 (some (x - c)) pr hpr tp htp ?_ (by decide) (by decide) (by decide) (by decide) ?_
          · unfold own1
            rw [if_neg h]
            show some (x - c) = if c ≤ x then some (x - c) else none
            rw [if_pos h2]
          · unfold f1
            rw [if_neg h]
            show (if c ≤ x then c + 1 else c) = _
            rw [if_pos h2]
        · have h2 : ¬ c ≤ x := of_decide_eq_false (Bool.eq_false_iff.mpr h2)
          refine ⟨z2, fun pr hpr => ⟨z2, fun tp htp => ?_⟩⟩
          refine fin 0 0 none pr hpr tp htp ?_ (by decide) (by decide) (by decide) (by decide) ?_
          · unfold own1
            rw [if_neg h]
            show none = if c ≤ x then some (x - c) else none
            rw [if_neg h2]
          · unfold f1
            rw [if_neg h]
            show (if c ≤ x then c + 1 else c) = _
            rw [if_neg h2]
            omega

/-! ### add_counts -/
def spAdd : Sp := fun vs H Q _ => ∃ (d e : Addr) (kvs mvs : List (Key × V)) (ts b c : Int), vs = [.ref d, .ref e, .int ts] ∧ H d = some (.dK kvs) ∧ H e = some (.dK mvs) ∧ d ≠ e ∧ CK H (fun _ => b) kvs ∧ CK H (fun _ => c) mvs ∧ 0 ≤ b ∧ 0 ≤ c ∧ c < B ∧ 0 ≤ ts ∧ ts < B ∧
  ∀ (H' : Hp) (kvs' : List (Key × V)), H' d = some (.dK kvs') → CK H' (fun _ => b + c * ts) kvs' → (∀ q o, q ≠ d → H q = some o → H' q = some o) → Q .non H'
theorem sc33 : FnScope ["counts", "more", "times", "number", "pair", "old"] ["counts", "more", "times"] (defScope (top 33)) := ⟨rfl, rfl, rfl, by decide +kernel, rfl, by decide +kernel, by decide +kernel⟩
/-- a key that is in the list -/
def seen (l : List (Key × V)) (k : Int) : Bool := l.any fun p => decide (p.1 = Sum.inl k)
theorem seen_iff {l : List (Key × V)} {k : Int} : seen l k = true ↔ (Sum.inl k : Key) ∈ l.map (·.1) := by
  unfold seen
  rw [List.any_eq_true]
  constructor
  · rintro ⟨p, hp, e⟩
    exact List.mem_map.mpr ⟨p, hp, of_decide_eq_true e⟩
  · intro h
    obtain ⟨p, hp, e⟩ := List.mem_map.mp h
    exact ⟨p, hp, decide_eq_true e⟩
/-- between two turns: the keys of the first i are through -/
def AddAt (H0 : Hp) (od : Obj) (d e : Addr) (mvs : List (Key × V)) (ts b c : Int) (i : Nat) (σ : St) (H' : Hp) : Prop :=
  ∃ (v3 v4 v5 : Option V) (kvs : List (Key × V)), σ = [some (.ref d), some (.ref e), some (.int ts), v3, v4, v5] ∧ H' e = some (.frz od (.dK mvs)) ∧ H' d = some (.dK kvs) ∧
    CK H' (fun k => if seen (mvs.take i) k = true then b + c * ts else b) kvs ∧ ∀ q o, q ≠ d → q ≠ e → H0 q = some o → H' q = some o
theorem d33 (T : Txt K mg S O HC NN) : Def P w K mg base CX0 1 "add_counts" ["counts", "more", "times"] spAdd := by
  obtain ⟨t0, gF⟩ := T.gFew
  obtain ⟨t1, gT⟩ := T.gTrue
  refine T.h33.ok sc33 (fun vs H Q E h => ?_) (fun f cdv A outer s H vs Q E hr h => ?_)
  · obtain ⟨d, e, kvs, mvs, ts, b, c, rfl, _⟩ := h
    rfl
  · obtain ⟨d, e, kvs, mvs, ts, b, c, rfl, hd, he, nde, ck, cm, b0, c0, cB, ts0, tsB, q⟩ := h
    refine ⟨_, pss_one (ps_lock (ps_for PassesOwn.never rfl (pi_items (pv 1)) (pg_tup (by rfl) (pgs_cons (pg_name (i := 3) sc33.nd rfl (Or.inl rfl)) (pgs_cons (pg_name (i := 4) sc33.nd rfl (Or.inl rfl)) pgs_nil)))
      (pss_cons (ps_set (i := 5) sc33.nd rfl (Or.inl rfl) (pe_dget2 (hu_of hr) (pv 0) (pv 3) (pe_lst (pa_cons pe_int (pa_cons pe_int pa_nil))) ⟨rfl, rfl, rfl, rfl⟩))
      (pss_one (ps_dput (hu_of hr) (pv 0) (pv 3) (pe_lst (pa_cons
        (pe_op op_add (pe_ix ix_list (pv 5) (pe_glob (v := .int 0) (by rfl) gF ⟨_, rfl⟩) (fun _ _ => rfl)) (pe_op op_mulW (pe_ix ix_list (pv 4) (pe_glob (v := .int 0) (by rfl) gF ⟨_, rfl⟩) (fun _ _ => rfl)) (pv 2)))
        (pa_cons (pe_op op_add (pe_ix ix_list (pv 5) (pe_glob (v := .int 1) (by rfl) gT ⟨_, rfl⟩) (fun _ _ => rfl)) (pe_op op_mulW (pe_ix ix_list (pv 4) (pe_glob (v := .int 1) (by rfl) gT ⟨_, rfl⟩) (fun _ _ => rfl)) (pv 2))) pa_nil))) rfl))))), ?_⟩
    refine ⟨e, _, he, True.intro, fun od => ?_⟩
    have z2 : 2 ≤ sizeLine := by decide
    have cts : 0 ≤ c * ts := Int.mul_nonneg c0 ts0
    refine ⟨_, rfl, e, od, mvs, rfl, upd_same, for_it walk_items (AddAt H od d e mvs ts b c) ?_ ?_ ?_ ?_⟩
    · refine ⟨none, none, none, kvs, rfl, upd_same, by rw [upd_ne nde]; exact hd, ?_, fun q o h1 h2 h3 => by rw [upd_ne h2]; exact h3⟩
      refine ck.mono (fun a x y ha => ?_) (fun k => by show b ≤ if seen (mvs.take 0) k = true then b + c * ts else b; split <;> omega)
      rw [upd_ne (ne_of ha he (by intro z; cases z))]
      exact ha
    · rintro i σ H' _ ⟨v3, v4, v5, kvs', _, h, _⟩
      exact h
    · rintro i x σ H' H2 hi ⟨v3, v4, v5, kvs', rfl, he', hd', ck', sm⟩ ⟨Tp, kx, vx, rfl, nT, rfl, ek, ev⟩
      obtain ⟨p, hp⟩ : ∃ p, mvs[i]? = some p := ⟨mvs[i], List.getElem?_eq_getElem hi⟩
      change (mvs[i]?.map fun kv => kV kv.1) = some kx at ek
      change (mvs[i]?.map Prod.snd) = some vx at ev
      rw [hp] at ek ev
      obtain ⟨k, a, x, y, rfl, k0, k1, ha, x0, x1, y0, y1⟩ := cm.each p (List.mem_of_getElem? hp)
      cases Option.some.inj ek
      cases Option.some.inj ev
      have nin : ¬ seen (mvs.take i) k = true := fun hm => by
        have hm := seen_iff.mp hm
        obtain ⟨p', hp', e'⟩ := List.mem_map.mp hm
        obtain ⟨j, hj, ej⟩ := List.mem_iff_getElem.mp hp'
        rw [List.getElem_take] at ej
        rw [List.length_take] at hj
        have q1 : (mvs.map (·.1))[j]? = some (Sum.inl k) := by
          rw [List.getElem?_map, List.getElem?_eq_getElem (show j < mvs.length by omega), ej, Option.map_some, e']
        have q2 : (mvs.map (·.1))[i]? = some (Sum.inl k) := by
          rw [List.getElem?_map, hp]
          rfl
        have := nd_ix cm.nd q1 q2
        omega
      have nad : a ≠ d := ne_of ha hd (by intro z; cases z)
      have nae : a ≠ e := ne_of ha he (by intro z; cases z)
      have ha' : H' a = some (.lst [.int x, .int y]) := sm a _ nad nae ha
      have nTd : d ≠ Tp := ne_of_none hd' nT
      have nTe : e ≠ Tp := ne_of_none he' nT
      have nTa : a ≠ Tp := ne_of_none ha' nT
      refine ⟨Tp, _, rfl, SqT.of upd_same, rfl, _, _, rfl, _, _, rfl, rfl, ?_⟩
      have hd2 : (upd H' Tp (.tup [kV (Sum.inl k), V.ref a])) d = some (.dK kvs') := by rw [upd_ne nTd]; exact hd'
      refine ⟨_, rfl, d, rfl, .inl ⟨kvs', .inl hd2⟩, _, rfl, z2, fun l0 hl0 => ?_⟩
      have s2 : Same H' (upd (upd H' Tp (.tup [kV (Sum.inl k), V.ref a])) l0 (.lst [.int 0, .int 0])) := L2.Same.trans (Same.new nT _) (Same.new hl0 _)
      generalize hH3 : upd (upd H' Tp (.tup [kV (Sum.inl k), V.ref a])) l0 (.lst [.int 0, .int 0]) = H3 at s2
      have hl3 : H3 l0 = some (.lst [.int 0, .int 0]) := by rw [← hH3]; exact upd_same
      have hd3 := s2 _ _ hd'
      have ck3 : CK H3 (fun k => if seen (mvs.take i) k = true then b + c * ts else b) kvs' := ck'.mono (fun _ _ _ h => s2 _ _ h) fun _ => Int.le_refl _
      obtain ⟨ao, xo, yo, eo, hao, xo0, xo1, yo0, yo1⟩ := ck3.old (k := k) hl3 (by rw [if_neg nin]; exact b0)
      rw [if_neg nin] at xo1 yo1
      refine ⟨valV kvs' (Sum.inl k), DGet.k (k := Sum.inl k) hd3, ?_⟩
      rw [eo]
      have ha3 := s2 _ _ ha'
      have mx : x * ts ≤ c * ts := Int.mul_le_mul_of_nonneg_right x1 ts0
      have my : y * ts ≤ c * ts := Int.mul_le_mul_of_nonneg_right y1 ts0
      have mx0 : 0 ≤ x * ts := Int.mul_nonneg x0 ts0
      have my0 : 0 ≤ y * ts := Int.mul_nonneg y0 ts0
      refine ⟨_, rfl, ao, _, _, _, rfl, rfl, SqL.of hao, at_of (j := 0) rfl rfl, _, rfl, a, _, _, _, rfl, rfl, SqL.of ha3, at_of (j := 0) rfl rfl, _, rfl, _, _, rfl, rfl, mulB x0 (by omega) ts0 tsB, _, _, rfl, rfl, ?_⟩
      refine ⟨_, rfl, ao, _, _, _, rfl, rfl, SqL.of hao, at_of (j := 1) rfl rfl, _, rfl, a, _, _, _, rfl, rfl, SqL.of ha3, at_of (j := 1) rfl rfl, _, rfl, _, _, rfl, rfl, mulB y0 (by omega) ts0 tsB, _, _, rfl, rfl, ?_⟩
      refine ⟨z2, fun ln hln => ?_⟩
      have s3 : Same H3 (upd H3 ln (.lst [.int (xo + x * ts), .int (yo + y * ts)])) := Same.new hln _
      have hd4 := s3 _ _ hd3
      refine ⟨_, rfl, _, rfl, d, _, rfl, DPut.k (k := Sum.inl k) hd4 (small1000 ck'.len), ?_⟩
      have nld : ln ≠ d := fun z => by rw [z] at hln; rw [hd3] at hln; cases hln
      refine ⟨_, _, _, _, rfl, ?_, upd_same, ?_, fun q' o h1 h2 h3 => ?_⟩
      · rw [upd_ne (Ne.symm nde)]
        exact s3 _ _ (s2 _ _ he')
      · have c4 : CK (upd (upd H3 ln (.lst [.int (xo + x * ts), .int (yo + y * ts)])) d (.dK (putK kvs' (Sum.inl k) (.ref ln)))) (fun k => if seen (mvs.take i) k = true then b + c * ts else b) kvs' := by
          refine ck3.mono (fun a' x' y' h => ?_) fun _ => Int.le_refl _
          rw [upd_ne (ne_of h hd3 (by intro z; cases z))]
          exact s3 _ _ h
        have tk : mvs.take (i + 1) = mvs.take i ++ [((Sum.inl k : Key), V.ref a)] := by rw [List.take_add_one, hp]; rfl
        have ein : seen (mvs.take (i + 1)) k = true := by
          rw [seen_iff]
          rw [tk, List.map_append]
          exact List.mem_append.mpr (.inr (List.mem_singleton.mpr rfl))
        refine c4.put (x := xo + x * ts) (y := yo + y * ts) (fun j => ?_) k0 k1 (by rw [upd_ne nld]; exact upd_same) (by omega) ?_ (by omega) ?_
        · show (if seen (mvs.take i) j = true then b + c * ts else b) ≤ if seen (mvs.take (i + 1)) j = true then b + c * ts else b
          by_cases hj : seen (mvs.take i) j = true
          · have hj2 : seen (mvs.take (i + 1)) j = true := by
              rw [seen_iff] at hj ⊢
              rw [tk, List.map_append]
              exact List.mem_append.mpr (.inl hj)
            rw [if_pos hj, if_pos hj2]
            exact Int.le_refl _
          · rw [if_neg hj]
            split <;> omega
        · show xo + x * ts ≤ if seen (mvs.take (i + 1)) k = true then b + c * ts else b
          rw [if_pos ein]
          omega
        · show yo + y * ts ≤ if seen (mvs.take (i + 1)) k = true then b + c * ts else b
          rw [if_pos ein]
          omega
      · rw [upd_ne h1]
        exact s3 _ _ (s2 _ _ (sm q' o h1 h2 h3))
    · rintro σ H' ⟨v3, v4, v5, kvs', rfl, he', hd', ck', sm⟩
      refine ⟨he', q _ kvs' (by rw [upd_ne nde]; exact hd') ?_ fun q' o h1 h2 => ?_⟩
      · refine ck'.mono (fun a x y h => ?_) fun k => ?_
        · rw [upd_ne (ne_of h he' (by intro z; cases z))]
          exact h
        · show (if seen (mvs.take mvs.length) k = true then b + c * ts else b) ≤ b + c * ts
          split
          · exact Int.le_refl _
          · exact Int.le_add_of_nonneg_right cts
      · by_cases hqe : q' = e
        · subst hqe
          rw [he] at h2
          rw [upd_same]
          exact h2
        · rw [upd_ne hqe]
          exact sm q' o h1 hqe h2
end
end Bo
end
section
/-! Boastrow: through, through_over, total_of, far_total. -/
namespace Bo
open PySem PySem.Spec L2
theorem Sl.congr {g h : Int → Int} {c : Int} {s : Option Int} (a : Sl g c s) (e : ∀ x, h x = g x) : Sl h c s := ⟨a.1, fun d d0 hd => by rw [e, e]; exact a.2 d d0 hd⟩
theorem Sm.congr {g h : Int → Int} {c : Int} {s : Option Int} (a : Sm g c s) (e : ∀ x, h x = g x) : Sm h c s := ⟨a.1, fun d d0 hd => by rw [e, e]; exact a.2 d d0 hd⟩
theorem CK.weak {H H' : Hp} {b c : Int} {kvs : List (Key × V)} (k : CK H (fun _ => b) kvs) (s : Same H H') (h : b ≤ c) : CK H' (fun _ => c) kvs := k.mono (fun _ _ _ z => s _ _ z) fun _ => h
section
variable {P : Program} {w : World} {K : PySem.W.Frag} {mg : Str → Option Value} {base : Heap} {S O HC NN : Addr}
def spThrough (S O : Addr) (d : Nat) : Sp := fun vs H Q _ => ∃ (a : Addr) (xs : List V) (t : T) (c : Int), vs = [.ref a, .int c] ∧ H a = some (.lst xs) ∧ Parts S O H t xs ∧ Fit t ∧ depth t ≤ d ∧
  ∀ (H' : Hp) (tp cd : Addr) (s : Option Int) (kvs : List (Key × V)), Same H H' → H cd = none → H' tp = some (.tup [.int (F t c), mV s, .ref cd]) → Sl (F t) c s → H' cd = some (.dK kvs) → CK H' (fun _ => ((ppl t : Nat) : Int)) kvs → Q (.ref tp) H'
def spThroughOver (O : Addr) (S : Addr) (d : Nat) : Sp := fun vs H Q _ => ∃ (p dx q : Addr) (n : Nat) (bs : List V) (b : T) (c : Int), vs = [.ref p, .int c] ∧ H p = some (.ins O dx (overF n q (ppl b) (n * ppl b))) ∧ H q = some (.lst bs) ∧ Parts S O H b bs ∧ Fit b ∧ depth b + 1 ≤ d ∧
  (n : Int) < B ∧ (ppl b : Int) < B ∧ ∀ (H' : Hp) (tp cd : Addr) (s : Option Int) (kvs : List (Key × V)), Same H H' → H cd = none → H' tp = some (.tup [.int (it (F b) n c), mV s, .ref cd]) → Sl (it (F b) n) c s → H' cd = some (.dK kvs) → CK H' (fun _ => ((n * ppl b : Nat) : Int)) kvs → Q (.ref tp) H'
theorem sc34 : FnScope ["parts", "number", "slack", "counts", "part", "pair", "own", "more"] ["parts", "number"] (defScope (top 34)) := ⟨rfl, rfl, rfl, by decide +kernel, rfl, by decide +kernel, by decide +kernel⟩
theorem sc35 : FnScope ["part", "number", "slack", "counts", "left", "ahead", "own", "once", "grown", "more"] ["part", "number"] (defScope (top 35)) := ⟨rfl, rfl, rfl, by decide +kernel, rfl, by decide +kernel, by decide +kernel⟩
/-- through, between two turns: those from place j on are through -/
def ThrAt (S O : Addr) (H0 : Hp) (a cd : Addr) (t : T) (c : Int) (j : Nat) (σ : St) (H' : Hp) : Prop :=
  ∃ (v4 v5 v6 v7 : Option V) (s : Option Int) (kvs : List (Key × V)), σ = [some (.ref a), some (.int (F (tl j t) c)), some (mV s), some (.ref cd), v4, v5, v6, v7] ∧ Same H0 H' ∧ Sl (F (tl j t)) c s ∧ H' cd = some (.dK kvs) ∧ CK H' (fun _ => ((ppl (tl j t) : Nat) : Int)) kvs
theorem d34 (T : Txt K mg S O HC NN) {d k : Nat} (D35 : Def P w K mg base CX0 (k + 1) "through_over" ["part", "number"] (spThroughOver O S d)) : Def P w K mg base CX0 (k + 2) "through" ["parts", "number"] (spThrough S O d) := by
  obtain ⟨t1, gT⟩ := T.gTrue
  have D31 : Def P w K mg base CX0 1 "lesser_slack" ["one", "other"] spLesser := d31 T
  have D32 : Def P w K mg base CX0 1 "word_of" ["saying", "number"] spWord := d32 T
  have D33 : Def P w K mg base CX0 1 "add_counts" ["counts", "more", "times"] spAdd := d33 T
  refine T.h34.ok sc34 (fun vs H Q E h => ?_) (fun f cdv A outer s H vs Q E hr h => ?_)
  · obtain ⟨a, xs, t, c, rfl, _⟩ := h
    rfl
  · obtain ⟨a, xs, t, c, rfl, ha, hP, hF, hdp, q⟩ := h
    have hr1 : Room 1 _ := hr.mono (by omega)
    refine ⟨_, pss_cons (ps_set (i := 2) sc34.nd rfl (Or.inl rfl) pe_non)
      (pss_cons (ps_set (i := 3) sc34.nd rfl (Or.inl rfl) pe_dnewK)
      (pss_cons (ps_for PassesOwn.never rfl (pi_list (pe_revL (pv 0))) (pg_name (i := 4) sc34.nd rfl (Or.inl rfl))
        (pss_cons (ps_if (pt_val (pe_callB call_isi (by rfl) T.bIsi (by decide +kernel) (pa_cons (pv 4) (pa_cons (pe_glob (v := .ref S) (by rfl) T.gS rfl) pa_nil))))
            (pss_cons (ps_asg (cd D32 hr1 (by rfl) pass0 (pa_cons (pe_fld (pv 4) rfl) (pa_cons (pv 1) pa_nil))) (pg_tup (by rfl) (pgs_cons (pg_name (i := 5) sc34.nd rfl (Or.inl rfl)) (pgs_cons (pg_name (i := 6) sc34.nd rfl (Or.inl rfl)) pgs_nil))))
            (pss_cons (ps_aug (i := 1) sc34.nd rfl (Or.inl rfl) (pe_ix ix_list (pv 5) (pe_glob (v := .int 1) (by rfl) gT ⟨_, rfl⟩) (fun _ _ => rfl)) ip_add)
            (pss_one (ps_set (i := 7) sc34.nd rfl (Or.inl rfl) (pe_disp (pps_cons (pe_fld (pv 4) rfl) (pv 5) pps_nil) (by rfl) (by rfl) (fun z => by cases z) (by decide))))))
            (pss_one (ps_asg (cd D35 hr (by rfl) pass0 (pa_cons (pv 4) (pa_cons (pv 1) pa_nil))) (pg_tup (by rfl) (pgs_cons (pg_name (i := 1) sc34.nd rfl (Or.inl rfl)) (pgs_cons (pg_name (i := 6) sc34.nd rfl (Or.inl rfl)) (pgs_cons (pg_name (i := 7) sc34.nd rfl (Or.inl rfl)) pgs_nil)))))))
        (pss_cons (ps_expr (cd D33 hr1 (by rfl) pass0 (pa_cons (pv 3) (pa_cons (pv 7) (pa_cons pe_int pa_nil)))))
        (pss_one (ps_set (i := 2) sc34.nd rfl (Or.inl rfl) (cd D31 hr1 (by rfl) pass0 (pa_cons (pv 2) (pa_cons (pv 6) pa_nil))))))))
      (pss_one (ps_ret (pe_tup (pa_cons (pv 1) (pa_cons (pv 2) (pa_cons (pv 3) pa_nil)))))))), ?_⟩
    intro cd hcd
    have s0 : Same H (upd H cd (.dK [])) := Same.new hcd _
    have el := hP.len
    refine ⟨_, rfl, a, xs, rfl, SqL.of (s0 _ _ ha), fun rv hrv => ⟨rv, rfl, ⟨_, SqL.of upd_same⟩, for_list (K := K) (a := rv) (xs := xs.reverse)
      (fun i σ H' => H' rv = some (.lst xs.reverse) ∧ ThrAt S O H a cd t c (len t - i) σ H') ?_ ?_ ?_ ?_⟩⟩
    · have ncr : cd ≠ rv := fun z => by
        rw [← z, upd_same] at hrv
        cases hrv
      refine ⟨upd_same, none, none, none, none, none, [], ?_, s0.trans (Same.new hrv _), ?_, by rw [upd_ne ncr]; exact upd_same, CK.nil⟩
      · rw [Nat.sub_zero, tl_len]
        rfl
      · rw [Nat.sub_zero, tl_len]
        exact Sl.id c
    · rintro i σ H' _ ⟨h, _⟩
      exact SqL.of h
    · rintro i x σ H' hx ⟨hrv', v4, v5, v6, v7, sl, kvs, rfl, sm, hsl, hkv, ck⟩
      have hi : i < xs.reverse.length := (List.getElem?_eq_some_iff.mp hx).1
      rw [List.length_reverse, el] at hi
      obtain ⟨j, hj⟩ : ∃ j, len t - i = j + 1 := ⟨len t - i - 1, by omega⟩
      have hj2 : len t - (i + 1) = j := by omega
      rw [hj] at hsl ck ⊢
      rw [hj2]
      have hx' : xs[j]? = some x := by
        rw [List.getElem?_reverse (by rw [el]; omega), el] at hx
        rw [← hx]
        congr 1
        omega
      -- the turn's end, both ways
      have fin : ∀ (H2 : Hp) (md : Addr) (mvs : List (Key × V)) (sy : Option Int) (pb : Nat) (c2 : Int) (v5' : Option V), Same H' H2 → H2 md = some (.dK mvs) → cd ≠ md → CK H2 (fun _ => (pb : Int)) mvs → (pb : Int) < B →
          Sl (F (tl j t)) c (les sl sy) → c2 = F (tl j t) c → ppl (tl j t) = pb + ppl (tl (j + 1) t) →
          tSeq (tDrop (tCall spAdd [] E0 (tCons (tVar 3) (tCons (tVar 7) (tCons (tC (.int 1)) tNil))))) (tAsg (tCall spLesser [] E0 (tCons (tVar 2) (tCons (tVar 6) tNil))) (gName 2))
            { nx := fun σ' H'' => H'' rv = some (.lst xs.reverse) ∧ ThrAt S O H a cd t c j σ' H'', rt := Q, bk := fun _ _ => True, ct := fun _ _ => True } [some (.ref a), some (.int c2), some (mV sl), some (.ref cd), some x, v5', some (mV sy), some (.ref md)] H2 := by
        intro H2 md mvs sy pb c2 v5' s2 hmd ncm cm pB hsl2 ec2 epp
        subst ec2
        refine ⟨_, rfl, _, rfl, cd, md, kvs, mvs, 1, _, _, rfl, s2 _ _ hkv, hmd, ncm, ck.weak s2 (Int.le_refl _), cm, Int.natCast_nonneg _, Int.natCast_nonneg _, pB, by decide, by decide, fun H3 kvs3 hc3 ck3 k3 => ?_⟩
        refine ⟨_, rfl, _, rfl, sl, sy, rfl, ?_⟩
        refine ⟨k3 rv _ (ne_of (s2 _ _ hrv') (s2 _ _ hkv) (by intro z; cases z)) (s2 _ _ hrv'), _, _, _, _, les sl sy, kvs3, rfl, fun b o e => ?_, hsl2, hc3, ?_⟩
        · exact k3 b o (ne_of_none e hcd) (s2 _ _ (sm b o e))
        · refine ck3.mono (fun _ _ _ z => z) fun _ => ?_
          rw [epp]
          omega
      rcases (hP.mono sm).at hx' with ⟨l, m, p, dx, ta, kn, et, rfl, hp, hta, kn0, kn1⟩ | ⟨n, b, p, dx, bq, bs, et, rfl, hp, hbq, hb⟩
      · refine ⟨_, rfl, _, _, _, _, true, rfl, .own S, T.iS.ty hp, T.kSS, _, rfl, iteT ?_⟩
        refine ⟨_, rfl, p, S, dx, _, _, rfl, hp, T.iS.cl, T.nSs, spot_said, _, rfl, ta, l, m, _, rfl, hta, fun H2 tp pr x y s2 htp hpr x0 x1 y0 y1 ef => ?_⟩
        refine ⟨tp, _, rfl, SqT.of htp, rfl, _, _, rfl, _, _, rfl, rfl, ?_⟩
        refine ⟨_, rfl, _, rfl, pr, _, _, _, rfl, rfl, SqL.of hpr, at_of (j := 1) rfl rfl, _, _, rfl, rfl, ?_⟩
        refine fun md hmd => ⟨_, rfl, p, S, dx, _, _, rfl, by rw [upd_ne (ne_of_none (s2 _ _ hp) hmd)]; exact s2 _ _ hp, T.iS.cl, T.nSn, spot_number, _, rfl, upd_same, [(Sum.inl kn, V.ref pr)], rfl, (by show 1 ≤ 15; decide), ?_⟩
        rw [upd_upd]
        have em : mergeK [] [((Sum.inl kn : Key), V.ref pr)] = [(Sum.inl kn, V.ref pr)] := rfl
        rw [em]
        have s3 : Same H2 (upd H2 md (.dK [((Sum.inl kn : Key), V.ref pr)])) := Same.new hmd _
        refine fin _ md _ (own1 l m (F (tl (j + 1) t) c)) 1 _ _ (s2.trans s3) upd_same (ne_of_none (s2 _ _ hkv) hmd) ⟨by simp, fun q hq => ?_⟩ (by decide) ?_ ?_ (by rw [et]; rfl)
        · rw [List.mem_singleton.mp hq]
          exact ⟨kn, pr, x, y, rfl, kn0, kn1, s3 _ _ hpr, x0, x1, y0, y1⟩
        · rw [et]
          exact hsl.comp (own1_sl l m _)
        · rw [et]
          exact ef.symm
      · have hk := hF.tl j
        have hd2 : depth (tl j t) ≤ d := Nat.le_trans (depth_tl t j) hdp
        rw [et] at hk hd2
        refine ⟨_, rfl, _, _, _, _, false, rfl, .own S, T.iO.ty hp, T.kOS, _, rfl, iteF ?_⟩
        refine ⟨_, rfl, _, rfl, p, dx, bq, n, bs, b, _, rfl, hp, hbq, hb, hk.body, depth_body hd2, hk.ok.1.1, hk.ok.1.2.1, fun H2 tp md sy mvs s2 nmd htp hsy hmd cm => ?_⟩
        refine ⟨tp, _, rfl, SqT.of htp, rfl, _, _, rfl, _, _, rfl, _, _, rfl, rfl, ?_⟩
        refine fin H2 md mvs sy (n * ppl b) _ _ s2 hmd (ne_of_none hkv nmd) cm hk.ok.1.2.2.1 ?_ (by rw [et]; rfl) (by rw [et]; rfl)
        · rw [et]
          exact hsl.comp hsy
    · rintro σ H' ⟨_, v4, v5, v6, v7, sl, kvs, rfl, sm, hsl, hkv, ck⟩
      rw [List.length_reverse, el, Nat.sub_self] at hsl ck
      refine ⟨_, rfl, _, rfl, _, rfl, (by show 3 ≤ sizeLine; decide), fun tp htp => ?_⟩
      have s2 : Same H' (upd H' tp (.tup [.int (F (tl (len t - xs.reverse.length) t) c), mV sl, .ref cd])) := Same.new htp _
      refine q _ tp cd sl kvs (sm.trans s2) hcd ?_ hsl (s2 _ _ hkv) (ck.weak s2 (Int.le_refl _))
      rw [upd_same, List.length_reverse, el, Nat.sub_self]
      rfl

/-! ### through_over -/
theorem d35z (T : Txt K mg S O HC NN) (k : Nat) : Def P w K mg base CX0 (k + 1) "through_over" ["part", "number"] (spThroughOver O S 0) := by
  refine T.h35.ok sc35 (fun vs H Q E h => ?_) (fun f cdv A outer s H vs Q E hr h => ?_)
  · obtain ⟨p, dx, q, n, bs, b, c, _, _, _, _, _, h, _⟩ := h
    omega
  · obtain ⟨p, dx, q, n, bs, b, c, _, _, _, _, _, h, _⟩ := h
    omega
/-- through_over, between two turns: so many times are left -/
def OvrAt (H0 : Hp) (p cd : Addr) (n : Nat) (b : T) (c : Int) (lf : Nat) (σ : St) (H' : Hp) : Prop :=
  ∃ (v5 v6 v7 v8 v9 : Option V) (s : Option Int) (kvs : List (Key × V)), σ = [some (.ref p), some (.int (it (F b) (n - lf) c)), some (mV s), some (.ref cd), some (.int (lf : Nat)), v5, v6, v7, v8, v9] ∧ lf ≤ n ∧ Same H0 H' ∧ Sl (it (F b) (n - lf)) c s ∧ H' cd = some (.dK kvs) ∧
    CK H' (fun _ => (((n - lf) * ppl b : Nat) : Int)) kvs
theorem d35s (T : Txt K mg S O HC NN) {d k : Nat} (D34 : Def P w K mg base CX0 (k + 1) "through" ["parts", "number"] (spThrough S O d)) : Def P w K mg base CX0 (k + 2) "through_over" ["part", "number"] (spThroughOver O S (d + 1)) := by
  have D31 : Def P w K mg base CX0 1 "lesser_slack" ["one", "other"] spLesser := d31 T
  have D33 : Def P w K mg base CX0 1 "add_counts" ["counts", "more", "times"] spAdd := d33 T
  refine T.h35.ok sc35 (fun vs H Q E h => ?_) (fun f cdv A outer s H vs Q E hr h => ?_)
  · obtain ⟨p, dx, q, n, bs, b, c, rfl, _⟩ := h
    rfl
  · obtain ⟨p, dx, q, n, bs, b, c, rfl, hp, hq, hb, hF, hdp, hn, hB, k⟩ := h
    have hr1 : Room 1 _ := hr.mono (by omega)
    have nd := sc35.nd
    refine ⟨_, pss_cons (ps_set (i := 2) nd rfl (Or.inl rfl) pe_non)
      (pss_cons (ps_set (i := 3) nd rfl (Or.inl rfl) pe_dnewK)
      (pss_cons (ps_set (i := 4) nd rfl (Or.inl rfl) (pe_fld (pv 0) rfl))
      (pss_cons (ps_while PassesOwn.never (pt_cmpR op_gt (pv 4) pe_int (nomark _))
        (pss_cons (ps_set (i := 5) nd rfl (Or.inl rfl) (pv 1))
        (pss_cons (ps_asg (cd D34 hr (by rfl) pass0 (pa_cons (pe_fld (pv 0) rfl) (pa_cons (pv 1) pa_nil))) (pg_tup (by rfl) (pgs_cons (pg_name (i := 1) nd rfl (Or.inl rfl)) (pgs_cons (pg_name (i := 6) nd rfl (Or.inl rfl)) (pgs_cons (pg_name (i := 7) nd rfl (Or.inl rfl)) pgs_nil)))))
        (pss_cons (ps_set (i := 8) nd rfl (Or.inl rfl) (pe_op op_sub (pv 1) (pv 5)))
        (pss_cons (ps_set (i := 9) nd rfl (Or.inl rfl) (pe_ifExp (PW.pt (pw_or (pt_cmpR op_isN (pv 6) pe_non (nomark _)) (pw_or1 (pt_cmpR op_eq (pv 8) pe_int (nomark _))))) (pe_op op_sub (pv 4) pe_int)
          (pe_callB (call_min2 rfl) (by rfl) T.bMin (by decide +kernel) (pa_cons (pe_op op_sub (pv 4) pe_int) (pa_cons (pe_op op_fdivW (pv 6) (pv 8)) pa_nil)))))
        (pss_cons (ps_aug (i := 1) nd rfl (Or.inl rfl) (pe_op op_mulW (pv 9) (pv 8)) ip_add)
        (pss_cons (ps_set (i := 2) nd rfl (Or.inl rfl) (cd D31 hr1 (by rfl) pass0 (pa_cons (pv 2) (pa_cons (pe_ifExp (pt_cmpR op_isN (pv 6) pe_non (nomark _)) pe_non (pe_op op_sub (pv 6) (pe_op op_mulW (pv 9) (pv 8)))) pa_nil))))
        (pss_cons (ps_expr (cd D33 hr1 (by rfl) pass0 (pa_cons (pv 3) (pa_cons (pv 7) (pa_cons (pe_op op_add (pv 9) pe_int) pa_nil)))))
        (pss_one (ps_aug (i := 4) nd rfl (Or.inl rfl) (pe_op op_add (pv 9) pe_int) ip_sub))))))))))
      (pss_one (ps_ret (pe_tup (pa_cons (pv 1) (pa_cons (pv 2) (pa_cons (pv 3) pa_nil))))))))), ?_⟩
    intro cd hcd
    have s0 : Same H (upd H cd (.dK [])) := Same.new hcd _
    refine ⟨_, rfl, p, O, dx, _, _, rfl, s0 _ _ hp, T.iO.cl, T.nOt, over_times, ?_⟩
    refine ⟨OvrAt H p cd n b c, ⟨n, none, none, none, none, none, none, [], ?_, Nat.le_refl _, s0, ?_, upd_same, CK.nil⟩, ?_⟩
    · rw [Nat.sub_self]
      rfl
    · rw [Nat.sub_self]
      exact Sl.id c
    · rintro lf σ H' ⟨v5, v6, v7, v8, v9, sl, kvs, rfl, hlf, sm, hsl, hkv, ck⟩
      refine ⟨_, rfl, _, _, rfl, rfl, _, rfl, ?_⟩
      refine ite2 (fun h => ?_) (fun h => ?_)
      · have h : (0 : Int) < (lf : Int) := of_decide_eq_true h
        refine ⟨fun σ' H'' => ∃ m, m < lf ∧ OvrAt H p cd n b c m σ' H'', fun _ _ z => z, ?_⟩
        refine ⟨_, rfl, ?_⟩
        refine ⟨_, rfl, p, O, dx, _, _, rfl, sm _ _ hp, T.iO.cl, T.nOp, over_parts, _, rfl, q, bs, b, _, rfl, sm _ _ hq, hb.mono sm, hF, by omega, fun H2 tp md sy mvs s2 nmd htp hsy hmd cm => ?_⟩
        refine ⟨tp, _, rfl, SqT.of htp, rfl, _, _, rfl, _, _, rfl, _, _, rfl, rfl, ?_⟩
        generalize ec : it (F b) (n - lf) c = c1 at *
        have gge := F_ge b c1
        obtain ⟨gr, egr⟩ : ∃ gr, gr = F b c1 - c1 := ⟨_, rfl⟩
        have gr0 : 0 ≤ gr := by omega
        have grp : gr ≤ (ppl b : Int) := by omega
        have egr2 : F b c1 = c1 + gr := by omega
        obtain ⟨m0, m1, m2⟩ := moreOf_ok (left := (lf : Int)) (s := sy) h gr0 hsy.1
        refine ⟨_, rfl, _, rfl, _, _, rfl, rfl, ?_⟩
        show tSeq _ _ _ [some (.ref p), some (.int (F b c1)), some (mV sl), some (.ref cd), some (.int (lf : Nat)), some (.int c1), some (mV sy), some (.ref md), some (.int (F b c1 - c1)), v9] H2
        rw [← egr]
        generalize emo : moreOf (lf : Int) sy gr = mo at m0 m1 m2
        -- what follows, with more = mo
        have rest : tSeq (tAug 1 (tOp (rI CMulW fun i j => .int (i * j)) (tVar 9) (tVar 8)) (ipI fun i j => i + j)) (tSeq (tAsg (tCall spLesser [] E0 (tCons (tVar 2) (tCons (tIf (tTest (tOp (fun x y H Q => y = .non ∧ Q (.bl (decide (x = .non))) H) (tVar 6) (tC .non))) (tC .non) (tOp (rI0 fun i j => .int (i - j)) (tVar 6) (tOp (rI CMulW fun i j => .int (i * j)) (tVar 9) (tVar 8)))) tNil))) (gName 2))
            (tSeq (tDrop (tCall spAdd [] E0 (tCons (tVar 3) (tCons (tVar 7) (tCons (tOp (rI0 fun i j => .int (i + j)) (tVar 9) (tC (.int 1))) tNil))))) (tAug 4 (tOp (rI0 fun i j => .int (i + j)) (tVar 9) (tC (.int 1))) (ipI fun i j => i - j))))
            { nx := fun σ' H'' => ∃ m, m < lf ∧ OvrAt H p cd n b c m σ' H'', rt := Q, bk := fun _ _ => True, ct := fun _ _ => True } [some (.ref p), some (.int (F b c1)), some (mV sl), some (.ref cd), some (.int (lf : Nat)), some (.int c1), some (mV sy), some (.ref md), some (.int gr), some (.int mo)] H2 := by
          have mB : mo < B := by omega
          have gB : gr < B := by omega
          have cmul : CMulW mo gr := mulB m0 mB gr0 gB
          obtain ⟨kk, ekk⟩ : ∃ kk : Nat, mo = (kk : Int) := ⟨mo.toNat, by omega⟩
          subst ekk
          obtain ⟨mE, mS⟩ := many hsy egr2 gr0 m2
          refine ⟨_, rfl, _, rfl, _, rfl, _, _, rfl, rfl, cmul, _, _, rfl, rfl, ?_⟩
          -- slack
          have next : tSeq (tDrop (tCall spAdd [] E0 (tCons (tVar 3) (tCons (tVar 7) (tCons (tOp (rI0 fun i j => .int (i + j)) (tVar 9) (tC (.int 1))) tNil))))) (tAug 4 (tOp (rI0 fun i j => .int (i + j)) (tVar 9) (tC (.int 1))) (ipI fun i j => i - j))
              { nx := fun σ' H'' => ∃ m, m < lf ∧ OvrAt H p cd n b c m σ' H'', rt := Q, bk := fun _ _ => True, ct := fun _ _ => True } [some (.ref p), some (.int (F b c1 + (kk : Int) * gr)), some (mV (les sl (lessBy sy ((kk : Int) * gr)))), some (.ref cd), some (.int (lf : Nat)), some (.int c1), some (mV sy), some (.ref md), some (.int gr), some (.int (kk : Nat))] H2 := by
            refine ⟨_, rfl, _, rfl, _, rfl, _, _, rfl, rfl, cd, md, kvs, mvs, _, _, _, rfl, s2 _ _ hkv, hmd, ne_of_none hkv nmd, ck.weak s2 (Int.le_refl _), cm, Int.natCast_nonneg _, Int.natCast_nonneg _, hB, by omega, by omega, fun H3 kvs3 hc3 ck3 k3 => ?_⟩
            refine ⟨_, rfl, _, rfl, _, _, rfl, rfl, _, _, rfl, rfl, ?_⟩
            have e1 : n - (lf - (kk + 1)) = (n - lf) + (kk + 1) := by omega
            have e2 : ((lf : Int) - ((kk : Int) + 1)) = ((lf - (kk + 1) : Nat) : Int) := by omega
            have e3 : it (F b) (n - (lf - (kk + 1))) c = F b c1 + (kk : Int) * gr := by
              rw [e1, it_add, ec]
              exact mE
            refine ⟨lf - (kk + 1), by omega, some (.int c1), some (mV sy), some (.ref md), some (.int gr), some (.int (kk : Nat)), les sl (lessBy sy ((kk : Int) * gr)), kvs3, ?_, by omega, fun x o e => ?_, ?_, hc3, ?_⟩
            · rw [e3, ← e2]
              rfl
            · exact k3 x o (ne_of_none e hcd) (s2 _ _ (sm x o e))
            · refine Sl.congr (hsl.comp (by rw [ec]; exact mS)) fun x => ?_
              rw [e1, it_add]
            · refine ck3.mono (fun _ _ _ z => z) fun _ => ?_
              rw [e1, Nat.add_mul, Int.natCast_add, Int.natCast_mul (kk + 1), Int.natCast_add kk 1, Int.mul_comm]
              exact Int.le_refl _
          refine ⟨_, rfl, ?_⟩
          cases sy with
          | none => exact ⟨_, rfl, rfl, _, rfl, ifT (by decide) ⟨sl, none, rfl, next⟩⟩
          | some y => exact ⟨_, rfl, rfl, _, rfl, ifF mV_some ⟨_, rfl, _, rfl, _, rfl, _, _, rfl, rfl, cmul, _, _, rfl, rfl, sl, some (y - (kk : Int) * gr), rfl, next⟩⟩
        -- more
        cases sy with
        | none =>
          have em : mo = (lf : Int) - 1 := by rw [← emo]; rfl
          refine ⟨_, rfl, rfl, _, rfl, ifT (by decide) (ifT rfl ⟨_, rfl, _, _, rfl, rfl, ?_⟩)⟩
          rw [em] at rest
          exact rest
        | some y =>
          refine ⟨_, rfl, rfl, _, rfl, ifF mV_some ⟨_, rfl, rfl, _, rfl, ?_⟩⟩
          by_cases hg : gr = 0
          · have em : mo = (lf : Int) - 1 := by
              rw [← emo]
              show (if gr = 0 then (lf : Int) - 1 else _) = _
              rw [if_pos hg]
            refine ifT (decide_eq_true (by rw [hg])) ⟨_, rfl, _, _, rfl, rfl, ?_⟩
            rw [em] at rest
            exact rest
          · have em : mo = if y / gr < (lf : Int) - 1 then y / gr else (lf : Int) - 1 := by
              rw [← emo]
              show (if gr = 0 then (lf : Int) - 1 else if y / gr < (lf : Int) - 1 then y / gr else (lf : Int) - 1) = _
              rw [if_neg hg]
            refine ifF (decide_eq_false fun z => hg (V.int.inj z)) ⟨_, rfl, _, _, rfl, rfl, _, rfl, _, rfl, _, _, rfl, rfl, wide_div (by omega) (intB gr0 (by omega)) (by decide) (by decide), _, _, rfl, ?_⟩
            rw [em] at rest
            exact rest
      · have h : ¬ (0 : Int) < (lf : Int) := of_decide_eq_false (Bool.eq_false_iff.mpr h)
        obtain rfl : lf = 0 := by omega
        rw [Nat.sub_zero] at hsl ck ⊢
        refine ⟨_, rfl, _, rfl, _, rfl, (by show 3 ≤ sizeLine; decide), fun tp htp => ?_⟩
        have s2 : Same H' (upd H' tp (.tup [.int (it (F b) n c), mV sl, .ref cd])) := Same.new htp _
        exact k _ tp cd sl kvs (sm.trans s2) hcd upd_same hsl (s2 _ _ hkv) (ck.weak s2 (Int.le_refl _))
theorem d34n (T : Txt K mg S O HC NN) : ∀ d : Nat, Def P w K mg base CX0 (2 * d + 2) "through" ["parts", "number"] (spThrough S O d)
  | 0 => d34 (k := 0) T (d35z T 0)
  | d + 1 => d34 (k := 2 * d + 2) T (d35s (k := 2 * d + 1) T (d34n T d))

/-! ### total_of, far_total -/
def spTotalOf (S O : Addr) : Sp := fun vs H Q _ => ∃ (a : Addr) (xs : List V) (t : T) (c : Int), vs = [.ref a, .int c] ∧ H a = some (.lst xs) ∧ Parts S O H t xs ∧ Fit t ∧ depth t ≤ 2 ∧ ∀ H' : Hp, Same H H' → Q (.int (F t c)) H'
theorem sc38 : FnScope ["parts", "number"] ["parts", "number"] (defScope (top 38)) := ⟨rfl, rfl, rfl, by decide +kernel, rfl, by decide +kernel, by decide +kernel⟩
theorem d38 (T : Txt K mg S O HC NN) : Def P w K mg base CX0 7 "total_of" ["parts", "number"] (spTotalOf S O) := by
  have D34 : Def P w K mg base CX0 6 "through" ["parts", "number"] (spThrough S O 2) := d34n T 2
  refine T.h38.ok sc38 (fun vs H Q E h => ?_) (fun f cdv A outer s H vs Q E hr h => ?_)
  · obtain ⟨a, xs, t, c, rfl, _⟩ := h
    rfl
  · obtain ⟨a, xs, t, c, rfl, ha, hP, hF, hd, q⟩ := h
    refine ⟨_, pss_one (ps_ret (pe_ix ix_tup (cd D34 hr (by rfl) pass0 (pa_cons (pv 0) (pa_cons (pv 1) pa_nil))) pe_int (fun _ _ => rfl))), ?_⟩
    exact ⟨_, rfl, _, rfl, a, xs, t, c, rfl, ha, hP, hF, hd, fun H' tp cd sl kvs sm _ htp _ _ _ => ⟨tp, _, _, _, rfl, rfl, SqT.of htp, at_of (j := 0) rfl rfl, q H' sm⟩⟩
def spFarTotal : Sp := fun vs H Q _ => ∃ (a : Addr) (xs : List V) (t : T) (c : Int), vs = [.ref a, .int c] ∧ H a = some (.lst xs) ∧ Items H t xs ∧ Fit t ∧ depth t ≤ 2 ∧ (ppl t : Int) ≤ 999999999999999999999999999999 ∧ 0 ≤ c ∧ ∀ H' : Hp, Same H H' → Q (.int (F t c)) H'
theorem sc39 : FnScope ["long", "company", "parts"] ["long", "company"] (defScope (top 39)) := ⟨rfl, rfl, rfl, by decide +kernel, rfl, by decide +kernel, by decide +kernel⟩
theorem d39 (T : Txt K mg S O HC NN) : Def P w K mg base CX0 11 "far_total" ["long", "company"] spFarTotal := by
  have D26 : Def P w K mg base CX0 10 "parts_of" ["long"] (spPartsOf S O) := d26 T
  have D13 : Def P w K mg base CX0 2 "need_number" ["thing"] spNeedNumber := d13 T
  have D38 : Def P w K mg base CX0 7 "total_of" ["parts", "number"] (spTotalOf S O) := d38 T
  refine T.h39.ok sc39 (fun vs H Q E h => ?_) (fun f cdv A outer s H vs Q E hr h => ?_)
  · obtain ⟨a, xs, t, c, rfl, _⟩ := h
    rfl
  · obtain ⟨a, xs, t, c, rfl, ha, hI, hF, hd, hp, hc, q⟩ := h
    refine ⟨_, pss_cons (ps_set (i := 2) sc39.nd rfl (Or.inl rfl) (cd D26 hr (by rfl) pass0 (pa_cons (pv 0) pa_nil)))
      (pss_cons (ps_expr (cd D13 (hr.mono (by decide)) (by rfl) pass0 (pa_cons (pv 1) pa_nil)))
      (pss_one (ps_ret (cd D38 (hr.mono (by decide)) (by rfl) pass0 (pa_cons (pv 2) (pa_cons (pv 1) pa_nil)))))), ?_⟩
    refine ⟨_, rfl, a, xs, t, H, rfl, .refl H, ha, hI, hF, hd, hp, fun R' H' p ys sm gr hp' hP => ?_⟩
    refine ⟨_, rfl, c, rfl, hc, ?_⟩
    exact ⟨_, rfl, _, rfl, p, ys, t, c, rfl, gr.rh _ _ hp', hP.mono gr.rh, hF, hd, fun H2 s2 => q H2 (sm.trans s2)⟩
end
end Bo
end
section
/-! Boastrow: wished, wished_over. -/
namespace Bo
open PySem PySem.Spec L2
section
variable {P : Program} {w : World} {K : PySem.W.Frag} {mg : Str → Option Value} {base : Heap} {S O HC NN : Addr}
def spWished (S O : Addr) (d : Nat) : Sp := fun vs H Q _ => ∃ (a : Addr) (xs : List V) (t : T) (c : Int), vs = [.ref a, .int c] ∧ H a = some (.lst xs) ∧ Parts S O H t xs ∧ Fit t ∧ depth t ≤ d ∧
  ∀ (H' : Hp) (tp : Addr) (s : Option Int), Same H H' → H' tp = some (.tup [.int (G t c), mV s]) → Sm (G t) c s → Q (.ref tp) H'
def spWishedOver (O S : Addr) (d : Nat) : Sp := fun vs H Q _ => ∃ (p dx q : Addr) (n : Nat) (bs : List V) (b : T) (c : Int), vs = [.ref p, .int c] ∧ H p = some (.ins O dx (overF n q (ppl b) (n * ppl b))) ∧ H q = some (.lst bs) ∧ Parts S O H b bs ∧ Fit b ∧ depth b + 1 ≤ d ∧
  (n : Int) < B ∧ (ppl b : Int) < B ∧ ∀ (H' : Hp) (tp : Addr) (s : Option Int), Same H H' → H' tp = some (.tup [.int (it (G b) n c), mV s]) → Sm (it (G b) n) c s → Q (.ref tp) H'
theorem sc36 : FnScope ["parts", "wish", "slack", "part", "own", "least", "most"] ["parts", "wish"] (defScope (top 36)) := ⟨rfl, rfl, rfl, by decide +kernel, rfl, by decide +kernel, by decide +kernel⟩
theorem sc37 : FnScope ["part", "wish", "slack", "left", "ahead", "own", "fallen", "more"] ["part", "wish"] (defScope (top 37)) := ⟨rfl, rfl, rfl, by decide +kernel, rfl, by decide +kernel, by decide +kernel⟩
/-- from the wish c at t to the wish c' at what is left of it, all alike within the slack -/
def Goes (t u : T) (c c' : Int) (s : Option Int) : Prop := (∀ x, s = some x → 0 ≤ x) ∧ ∀ d, 0 ≤ d → (∀ x, s = some x → d ≤ x) → G t (c - d) = G u (c' - d)
theorem Goes.next {t u r : T} {c c' : Int} {s y : Option Int} {g : Int → Int} (h : Goes t u c c' s) (e : ∀ x, G u x = G r (g x)) (m : Sm g c' y) : Goes t r c (g c') (les s y) := by
  refine ⟨les_nn h.1 m.1, fun d h0 hd => ?_⟩
  obtain ⟨h1, h2⟩ := les_some.mp hd
  rw [h.2 d h0 h1, e, m.2 d h0 h2]
/-- wished, between two turns -/
def WshAt (H0 : Hp) (a : Addr) (t : T) (c : Int) (i : Nat) (σ : St) (H' : Hp) : Prop :=
  ∃ (v3 v4 v5 v6 : Option V) (s : Option Int) (c' : Int), σ = [some (.ref a), some (.int c'), some (mV s), v3, v4, v5, v6] ∧ Same H0 H' ∧ Goes t (tl i t) c c' s
theorem d36 (T : Txt K mg S O HC NN) {d k : Nat} (D37 : Def P w K mg base CX0 (k + 1) "wished_over" ["part", "wish"] (spWishedOver O S d)) : Def P w K mg base CX0 (k + 2) "wished" ["parts", "wish"] (spWished S O d) := by
  have D31 : Def P w K mg base CX0 1 "lesser_slack" ["one", "other"] spLesser := d31 T
  have nd := sc36.nd
  refine T.h36.ok sc36 (fun vs H Q E h => ?_) (fun f cdv A outer s H vs Q E hr h => ?_)
  · obtain ⟨a, xs, t, c, rfl, _⟩ := h
    rfl
  · obtain ⟨a, xs, t, c, rfl, ha, hP, hF, hdp, q⟩ := h
    have hr1 : Room 1 _ := hr.mono (by omega)
    refine ⟨_, pss_cons (ps_set (i := 2) nd rfl (Or.inl rfl) pe_non)
      (pss_cons (ps_for PassesOwn.never rfl (pi_list (pv 0)) (pg_name (i := 3) nd rfl (Or.inl rfl))
        (pss_cons (ps_set (i := 4) nd rfl (Or.inl rfl) pe_non)
        (pss_cons (ps_if (pt_not (pt_val (pe_callB call_isi (by rfl) T.bIsi (by decide +kernel) (pa_cons (pv 3) (pa_cons (pe_glob (v := .ref S) (by rfl) T.gS rfl) pa_nil)))))
            (pss_one (ps_asg (cd D37 hr (by rfl) pass0 (pa_cons (pv 3) (pa_cons (pv 1) pa_nil))) (pg_tup (by rfl) (pgs_cons (pg_name (i := 1) nd rfl (Or.inl rfl)) (pgs_cons (pg_name (i := 4) nd rfl (Or.inl rfl)) pgs_nil)))))
            (pss_cons (ps_asg (pe_fld (pv 3) rfl) (pg_tup (by rfl) (pgs_cons (pg_name (i := 5) nd rfl (Or.inl rfl)) (pgs_cons (pg_name (i := 6) nd rfl (Or.inl rfl)) pgs_nil))))
            (pss_one (ps_if (PW.pt (pw_and (pt_cmpR op_notN (pv 6) pe_non (nomark _)) (pw_and1 (pt_cmpR op_gt (pv 1) (pe_op op_add (pv 6) pe_int) (nomark _)))))
              (pss_one (ps_set (i := 4) nd rfl (Or.inl rfl) (pe_op op_sub (pe_op op_sub (pv 1) (pv 6)) pe_int)))
              (pss_one (ps_if (pt_cmpR op_gt (pv 1) (pv 5) (nomark _))
                (pss_cons (ps_set (i := 4) nd rfl (Or.inl rfl) (pe_op op_sub (pe_op op_sub (pv 1) (pv 5)) pe_int))
                (pss_one (ps_aug (i := 1) nd rfl (Or.inl rfl) pe_int ip_sub))) pss_nil))))))
        (pss_one (ps_set (i := 2) nd rfl (Or.inl rfl) (cd D31 hr1 (by rfl) pass0 (pa_cons (pv 2) (pa_cons (pv 4) pa_nil))))))))
      (pss_one (ps_ret (pe_tup (pa_cons (pv 1) (pa_cons (pv 2) pa_nil)))))), ?_⟩
    refine ⟨_, rfl, a, rfl, ⟨_, SqL.of ha⟩, for_list (K := K) (a := a) (xs := xs) (WshAt H a t c) ?_ ?_ ?_ ?_⟩
    · exact ⟨none, none, none, none, none, c, rfl, .refl H, fun _ z => (nomatch z), fun _ _ _ => rfl⟩
    · rintro i σ H' _ ⟨_, _, _, _, _, _, _, sm, _⟩
      exact SqL.of (sm _ _ ha)
    · rintro i x σ H' hx ⟨v3, v4, v5, v6, sl, c', rfl, sm, gs⟩
      -- the turn's end
      have fin : ∀ (H2 : Hp) (c2 : Int) (sy : Option Int) (v5 v6 : Option V), Same H H2 → Goes t (tl (i + 1) t) c c2 (les sl sy) →
          tAsg (tCall spLesser [] E0 (tCons (tVar 2) (tCons (tVar 4) tNil))) (gName 2) { nx := WshAt H a t c (i + 1), rt := Q, bk := fun _ _ => True, ct := fun _ _ => True } [some (.ref a), some (.int c2), some (mV sl), some x, some (mV sy), v5, v6] H2 := by
        intro H2 c2 sy v5 v6 s2 g2
        exact ⟨_, rfl, _, rfl, sl, sy, rfl, _, _, _, _, les sl sy, c2, rfl, s2, g2⟩
      rcases (hP.mono sm).at hx with ⟨l, m, p, dx, ta, kn, et, rfl, hp, hta, kn0, kn1⟩ | ⟨n, b, p, dx, bq, bs, et, rfl, hp, hbq, hb⟩
      · rw [et] at gs
        have g2 := gs.next (r := tl (i + 1) t) (g := g1 l m) (fun _ => rfl) (owd_sm l m c')
        refine ⟨_, rfl, _, _, _, _, true, rfl, .own S, T.iS.ty hp, T.kSS, _, rfl, iteF ?_⟩
        refine ⟨_, rfl, p, S, dx, _, _, rfl, hp, T.iS.cl, T.nSs, spot_said, ta, _, rfl, SqT.of hta, rfl, _, _, rfl, _, _, rfl, rfl, ?_⟩
        refine ⟨_, rfl, rfl, _, rfl, ?_⟩
        cases m with
        | none =>
          refine ifF (by simp [mV]) (ifF rfl ⟨_, rfl, _, rfl, _, _, rfl, rfl, _, rfl, ?_⟩)
          refine ite2 (fun h => ?_) (fun h => ?_)
          · have h : c' > l := of_decide_eq_true h
            refine ⟨_, rfl, _, rfl, _, _, rfl, rfl, _, _, rfl, rfl, _, rfl, _, _, rfl, rfl, ?_⟩
            have e1 : g1 l none c' = c' - 1 := if_pos h
            have e2 : owd l none c' = some (c' - l - 1) := if_pos h
            rw [e1, e2] at g2
            exact fin H' (c' - 1) (some (c' - l - 1)) _ _ sm g2
          · have h : ¬ c' > l := of_decide_eq_false (Bool.eq_false_iff.mpr h)
            have e1 : g1 l none c' = c' := if_neg h
            have e2 : owd l none c' = none := if_neg h
            rw [e1, e2] at g2
            exact fin H' c' none _ _ sm g2
        | some y =>
          refine ifT (by simp [mV]) ⟨_, rfl, _, rfl, _, _, rfl, rfl, _, _, rfl, rfl, _, rfl, ?_⟩
          refine ite2 (fun h => ?_) (fun h => ?_)
          · have h : c' > y + 1 := of_decide_eq_true h
            refine ⟨_, rfl, _, rfl, _, _, rfl, rfl, _, _, rfl, rfl, ?_⟩
            have e1 : g1 l (some y) c' = c' := if_pos h
            have e2 : owd l (some y) c' = some (c' - y - 2) := if_pos h
            rw [e1, e2] at g2
            exact fin H' c' (some (c' - y - 2)) _ _ sm g2
          · have h : ¬ c' > y + 1 := of_decide_eq_false (Bool.eq_false_iff.mpr h)
            refine ⟨_, rfl, _, rfl, _, _, rfl, rfl, _, rfl, ?_⟩
            refine ite2 (fun h2 => ?_) (fun h2 => ?_)
            · have h2 : c' > l := of_decide_eq_true h2
              refine ⟨_, rfl, _, rfl, _, _, rfl, rfl, _, _, rfl, rfl, _, rfl, _, _, rfl, rfl, ?_⟩
              have e1 : g1 l (some y) c' = c' - 1 := (if_neg h).trans (if_pos h2)
              have e2 : owd l (some y) c' = some (c' - l - 1) := (if_neg h).trans (if_pos h2)
              rw [e1, e2] at g2
              exact fin H' (c' - 1) (some (c' - l - 1)) _ _ sm g2
            · have h2 : ¬ c' > l := of_decide_eq_false (Bool.eq_false_iff.mpr h2)
              have e1 : g1 l (some y) c' = c' := (if_neg h).trans (if_neg h2)
              have e2 : owd l (some y) c' = none := (if_neg h).trans (if_neg h2)
              rw [e1, e2] at g2
              exact fin H' c' none _ _ sm g2
      · have hk := hF.tl i
        have hd2 : depth (tl i t) ≤ d := Nat.le_trans (depth_tl t i) hdp
        rw [et] at hk hd2 gs
        refine ⟨_, rfl, _, _, _, _, false, rfl, .own S, T.iO.ty hp, T.kOS, _, rfl, iteT ?_⟩
        refine ⟨_, rfl, _, rfl, p, dx, bq, n, bs, b, _, rfl, hp, hbq, hb, hk.body, depth_body hd2, hk.ok.1.1, hk.ok.1.2.1, fun H2 tp sy s2 htp hsy => ?_⟩
        refine ⟨tp, _, rfl, SqT.of htp, rfl, _, _, rfl, _, _, rfl, rfl, ?_⟩
        exact fin H2 _ sy _ _ (sm.trans s2) (gs.next (r := tl (i + 1) t) (g := it (G b) n) (fun _ => rfl) hsy)
    · rintro σ H' ⟨v3, v4, v5, v6, sl, c', rfl, sm, gs⟩
      rw [hP.len, tl_len] at gs
      have e0 : G t c = c' := by
        have h := gs.2 0 (Int.le_refl _) gs.1
        rw [Int.sub_zero, Int.sub_zero] at h
        exact h
      refine ⟨_, rfl, _, rfl, (by show 2 ≤ sizeLine; decide), fun tp htp => ?_⟩
      refine q _ tp sl (sm.trans (Same.new htp _)) (by rw [upd_same, e0]) ⟨gs.1, fun d h0 hd => ?_⟩
      rw [e0]
      exact gs.2 d h0 hd

/-! ### wished_over -/
theorem d37z (T : Txt K mg S O HC NN) (k : Nat) : Def P w K mg base CX0 (k + 1) "wished_over" ["part", "wish"] (spWishedOver O S 0) := by
  refine T.h37.ok sc37 (fun vs H Q E h => ?_) (fun f cdv A outer s H vs Q E hr h => ?_)
  · obtain ⟨p, dx, q, n, bs, b, c, _, _, _, _, _, h, _⟩ := h
    omega
  · obtain ⟨p, dx, q, n, bs, b, c, _, _, _, _, _, h, _⟩ := h
    omega
/-- wished_over, between two turns: so many times are left -/
def WovAt (H0 : Hp) (p : Addr) (n : Nat) (b : T) (c : Int) (lf : Nat) (σ : St) (H' : Hp) : Prop :=
  ∃ (v4 v5 v6 v7 : Option V) (s : Option Int), σ = [some (.ref p), some (.int (it (G b) (n - lf) c)), some (mV s), some (.int (lf : Nat)), v4, v5, v6, v7] ∧ lf ≤ n ∧ Same H0 H' ∧ Sm (it (G b) (n - lf)) c s
theorem d37s (T : Txt K mg S O HC NN) {d k : Nat} (D36 : Def P w K mg base CX0 (k + 1) "wished" ["parts", "wish"] (spWished S O d)) : Def P w K mg base CX0 (k + 2) "wished_over" ["part", "wish"] (spWishedOver O S (d + 1)) := by
  have D31 : Def P w K mg base CX0 1 "lesser_slack" ["one", "other"] spLesser := d31 T
  have nd := sc37.nd
  refine T.h37.ok sc37 (fun vs H Q E h => ?_) (fun f cdv A outer s H vs Q E hr h => ?_)
  · obtain ⟨p, dx, q, n, bs, b, c, rfl, _⟩ := h
    rfl
  · obtain ⟨p, dx, q, n, bs, b, c, rfl, hp, hq, hb, hF, hdp, hn, hB, k⟩ := h
    have hr1 : Room 1 _ := hr.mono (by omega)
    refine ⟨_, pss_cons (ps_set (i := 2) nd rfl (Or.inl rfl) pe_non)
      (pss_cons (ps_set (i := 3) nd rfl (Or.inl rfl) (pe_fld (pv 0) rfl))
      (pss_cons (ps_while PassesOwn.never (pt_cmpR op_gt (pv 3) pe_int (nomark _))
        (pss_cons (ps_set (i := 4) nd rfl (Or.inl rfl) (pv 1))
        (pss_cons (ps_asg (cd D36 hr (by rfl) pass0 (pa_cons (pe_fld (pv 0) rfl) (pa_cons (pv 1) pa_nil))) (pg_tup (by rfl) (pgs_cons (pg_name (i := 1) nd rfl (Or.inl rfl)) (pgs_cons (pg_name (i := 5) nd rfl (Or.inl rfl)) pgs_nil))))
        (pss_cons (ps_set (i := 6) nd rfl (Or.inl rfl) (pe_op op_sub (pv 4) (pv 1)))
        (pss_cons (ps_set (i := 7) nd rfl (Or.inl rfl) (pe_ifExp (PW.pt (pw_or (pt_cmpR op_isN (pv 5) pe_non (nomark _)) (pw_or1 (pt_cmpR op_eq (pv 6) pe_int (nomark _))))) (pe_op op_sub (pv 3) pe_int)
          (pe_callB (call_min2 rfl) (by rfl) T.bMin (by decide +kernel) (pa_cons (pe_op op_sub (pv 3) pe_int) (pa_cons (pe_op op_fdivW (pv 5) (pv 6)) pa_nil)))))
        (pss_cons (ps_aug (i := 1) nd rfl (Or.inl rfl) (pe_op op_mulW (pv 7) (pv 6)) ip_sub)
        (pss_cons (ps_set (i := 2) nd rfl (Or.inl rfl) (cd D31 hr1 (by rfl) pass0 (pa_cons (pv 2) (pa_cons (pe_ifExp (pt_cmpR op_isN (pv 5) pe_non (nomark _)) pe_non (pe_op op_sub (pv 5) (pe_op op_mulW (pv 7) (pv 6)))) pa_nil))))
        (pss_one (ps_aug (i := 3) nd rfl (Or.inl rfl) (pe_op op_add (pv 7) pe_int) ip_sub)))))))))
      (pss_one (ps_ret (pe_tup (pa_cons (pv 1) (pa_cons (pv 2) pa_nil))))))), ?_⟩
    refine ⟨_, rfl, p, O, dx, _, _, rfl, hp, T.iO.cl, T.nOt, over_times, ?_⟩
    refine ⟨WovAt H p n b c, ⟨n, none, none, none, none, none, ?_, Nat.le_refl _, .refl H, ?_⟩, ?_⟩
    · rw [Nat.sub_self]
      rfl
    · rw [Nat.sub_self]
      exact Sm.id c
    · rintro lf σ H' ⟨v4, v5, v6, v7, sl, rfl, hlf, sm, hsl⟩
      refine ⟨_, rfl, _, _, rfl, rfl, _, rfl, ?_⟩
      refine ite2 (fun h => ?_) (fun h => ?_)
      · have h : (0 : Int) < (lf : Int) := of_decide_eq_true h
        refine ⟨fun σ' H'' => ∃ m, m < lf ∧ WovAt H p n b c m σ' H'', fun _ _ z => z, ?_⟩
        refine ⟨_, rfl, ?_⟩
        refine ⟨_, rfl, p, O, dx, _, _, rfl, sm _ _ hp, T.iO.cl, T.nOp, over_parts, _, rfl, q, bs, b, _, rfl, sm _ _ hq, hb.mono sm, hF, by omega, fun H2 tp sy s2 htp hsy => ?_⟩
        refine ⟨tp, _, rfl, SqT.of htp, rfl, _, _, rfl, _, _, rfl, rfl, ?_⟩
        generalize ec : it (G b) (n - lf) c = c1 at *
        have gge := G_le b c1
        obtain ⟨gr, egr⟩ : ∃ gr, gr = c1 - G b c1 := ⟨_, rfl⟩
        have gr0 : 0 ≤ gr := by omega
        have grp : gr ≤ (ppl b : Int) := by omega
        have egr2 : G b c1 = c1 - gr := by omega
        obtain ⟨m0, m1, m2⟩ := moreOf_ok (left := (lf : Int)) (s := sy) h gr0 hsy.1
        refine ⟨_, rfl, _, rfl, _, _, rfl, rfl, ?_⟩
        show tSeq _ _ _ [some (.ref p), some (.int (G b c1)), some (mV sl), some (.int (lf : Nat)), some (.int c1), some (mV sy), some (.int (c1 - G b c1)), v7] H2
        rw [← egr]
        generalize emo : moreOf (lf : Int) sy gr = mo at m0 m1 m2
        -- what follows, with more = mo
        have rest : tSeq (tAug 1 (tOp (rI CMulW fun i j => .int (i * j)) (tVar 7) (tVar 6)) (ipI fun i j => i - j)) (tSeq (tAsg (tCall spLesser [] E0 (tCons (tVar 2) (tCons (tIf (tTest (tOp (fun x y H Q => y = .non ∧ Q (.bl (decide (x = .non))) H) (tVar 5) (tC .non))) (tC .non) (tOp (rI0 fun i j => .int (i - j)) (tVar 5) (tOp (rI CMulW fun i j => .int (i * j)) (tVar 7) (tVar 6)))) tNil))) (gName 2))
            (tAug 3 (tOp (rI0 fun i j => .int (i + j)) (tVar 7) (tC (.int 1))) (ipI fun i j => i - j)))
            { nx := fun σ' H'' => ∃ m, m < lf ∧ WovAt H p n b c m σ' H'', rt := Q, bk := fun _ _ => True, ct := fun _ _ => True } [some (.ref p), some (.int (G b c1)), some (mV sl), some (.int (lf : Nat)), some (.int c1), some (mV sy), some (.int gr), some (.int mo)] H2 := by
          have mB : mo < B := by omega
          have gB : gr < B := by omega
          have cmul : CMulW mo gr := mulB m0 mB gr0 gB
          obtain ⟨kk, ekk⟩ : ∃ kk : Nat, mo = (kk : Int) := ⟨mo.toNat, by omega⟩
          subst ekk
          obtain ⟨mE, mS⟩ := many_m hsy egr2 gr0 m2
          refine ⟨_, rfl, _, rfl, _, rfl, _, _, rfl, rfl, cmul, _, _, rfl, rfl, ?_⟩
          have next : tAug 3 (tOp (rI0 fun i j => .int (i + j)) (tVar 7) (tC (.int 1))) (ipI fun i j => i - j)
              { nx := fun σ' H'' => ∃ m, m < lf ∧ WovAt H p n b c m σ' H'', rt := Q, bk := fun _ _ => True, ct := fun _ _ => True } [some (.ref p), some (.int (G b c1 - (kk : Int) * gr)), some (mV (les sl (lessBy sy ((kk : Int) * gr)))), some (.int (lf : Nat)), some (.int c1), some (mV sy), some (.int gr), some (.int (kk : Nat))] H2 := by
            refine ⟨_, rfl, _, rfl, _, _, rfl, rfl, _, _, rfl, rfl, ?_⟩
            have e1 : n - (lf - (kk + 1)) = (n - lf) + (kk + 1) := by omega
            have e2 : ((lf : Int) - ((kk : Int) + 1)) = ((lf - (kk + 1) : Nat) : Int) := by omega
            have e3 : it (G b) (n - (lf - (kk + 1))) c = G b c1 - (kk : Int) * gr := by
              rw [e1, it_add, ec]
              exact mE
            refine ⟨lf - (kk + 1), by omega, some (.int c1), some (mV sy), some (.int gr), some (.int (kk : Nat)), les sl (lessBy sy ((kk : Int) * gr)), ?_, by omega, sm.trans s2, ?_⟩
            · rw [e3, ← e2]
              rfl
            · refine Sm.congr (hsl.comp (by rw [ec]; exact mS)) fun x => ?_
              rw [e1, it_add]
          refine ⟨_, rfl, ?_⟩
          cases sy with
          | none => exact ⟨_, rfl, rfl, _, rfl, ifT (by decide) ⟨sl, none, rfl, next⟩⟩
          | some y => exact ⟨_, rfl, rfl, _, rfl, ifF mV_some ⟨_, rfl, _, rfl, _, rfl, _, _, rfl, rfl, cmul, _, _, rfl, rfl, sl, some (y - (kk : Int) * gr), rfl, next⟩⟩
        -- more
        cases sy with
        | none =>
          have em : mo = (lf : Int) - 1 := by rw [← emo]; rfl
          refine ⟨_, rfl, rfl, _, rfl, ifT (by decide) (ifT rfl ⟨_, rfl, _, _, rfl, rfl, ?_⟩)⟩
          rw [em] at rest
          exact rest
        | some y =>
          refine ⟨_, rfl, rfl, _, rfl, ifF mV_some ⟨_, rfl, rfl, _, rfl, ?_⟩⟩
          by_cases hg : gr = 0
          · have em : mo = (lf : Int) - 1 := by
              rw [← emo]
              show (if gr = 0 then (lf : Int) - 1 else _) = _
              rw [if_pos hg]
            refine ifT (decide_eq_true (by rw [hg])) ⟨_, rfl, _, _, rfl, rfl, ?_⟩
            rw [em] at rest
            exact rest
          · have em : mo = if y / gr < (lf : Int) - 1 then y / gr else (lf : Int) - 1 := by
              rw [← emo]
              show (if gr = 0 then (lf : Int) - 1 else if y / gr < (lf : Int) - 1 then y / gr else (lf : Int) - 1) = _
              rw [if_neg hg]
            refine ifF (decide_eq_false fun z => hg (V.int.inj z)) ⟨_, rfl, _, _, rfl, rfl, _, rfl, _, rfl, _, _, rfl, rfl, wide_div (by omega) (intB gr0 (by omega)) (by decide) (by decide), _, _, rfl, ?_⟩
            rw [em] at rest
            exact rest
      · have h : ¬ (0 : Int) < (lf : Int) := of_decide_eq_false (Bool.eq_false_iff.mpr h)
        obtain rfl : lf = 0 := by omega
        rw [Nat.sub_zero] at hsl ⊢
        refine ⟨_, rfl, _, rfl, (by show 2 ≤ sizeLine; decide), fun tp htp => ?_⟩
        exact k _ tp sl (sm.trans (Same.new htp _)) upd_same hsl
theorem d36n (T : Txt K mg S O HC NN) : ∀ d : Nat, Def P w K mg base CX0 (2 * d + 2) "wished" ["parts", "wish"] (spWished S O d)
  | 0 => d36 (k := 0) T (d37z T 0)
  | d + 1 => d36 (k := 2 * d + 2) T (d37s (k := 2 * d + 1) T (d36n T d))
end
end Bo
end
section
/-! Boastrow: names, slim. -/
namespace Bo
open PySem PySem.Spec L2
/-- a name: one to eight small letters -/
structure NameOk (z : Str) : Prop where
  l1 : 1 ≤ z.length
  l8 : z.length ≤ 8
  abc : ∀ c ∈ z.cps.toList, c ∈ (("abcdefghijklmnopqrstuvwxyz" : Str)).cps.toList
theorem Fit.slim {t : T} (h : Fit t) : Fit (slim t) := ⟨ok_slim t h.ok, Nat.le_trans (size_slim t) h.sz⟩
section
variable {P : Program} {w : World} {K : PySem.W.Frag} {mg : Str → Option Value} {base : Heap} {S O HC NN : Addr}

/-! ### is_name, need_name, need_few -/
def spIsName : Sp := fun vs H Q _ => ∃ z : Str, vs = [.str z] ∧ ((NameOk z ∧ ∀ H' : Hp, Same H H' → Q (.bl true) H') ∨ (z.length = 0 ∧ ∀ H' : Hp, Same H H' → Q (.bl false) H'))
theorem sc43 : FnScope ["thing", "sign"] ["thing"] (defScope (top 43)) := ⟨rfl, rfl, rfl, by decide +kernel, rfl, by decide +kernel, by decide +kernel⟩
theorem d43 (T : Txt K mg S O HC NN) : Def P w K mg base CX0 1 "is_name" ["thing"] spIsName := by
  obtain ⟨t1, gL⟩ := T.gLetters
  obtain ⟨t2, gM⟩ := T.gMostL
  have nd := sc43.nd
  refine T.h43.ok sc43 (fun vs H Q E h => ?_) (fun f cdv A outer s H vs Q E hr h => ?_)
  · obtain ⟨z, rfl, _⟩ := h
    rfl
  · obtain ⟨z, rfl, h⟩ := h
    refine ⟨_, pss_cons (ps_if (PW.pt (pw_or (pt_not (pt_val (pe_callB call_isi (by rfl) T.bIsi (by decide +kernel) (pa_cons (pv 0) (pa_cons (pe_bltn (v := .ty "str") (by rfl) T.bStr (by decide +kernel) rfl) pa_nil)))))
        (pw_or1 (pt_not (pt_chain op_le op_le pe_int (pe_callB call_len_str (by rfl) T.bLen (by decide +kernel) (pa_cons (pv 0) pa_nil)) (pe_glob (v := .int 8) (by rfl) gM ⟨_, rfl⟩))))))
        (pss_one (ps_ret pe_bl)) pss_nil)
      (pss_one (ps_ret (pe_callB (cr_all rfl) (by rfl) T.bAll (by decide +kernel) (pa_cons (pe_lc (own := [("sign", 1)]) (g := gName 1) (tt := tYes)
        (te := tOp (fun x y H Q => ∃ (c : Nat) (z : Str), x = .str ⟨#[c]⟩ ∧ y = .str z ∧ Q (.bl (decide (c ∈ z.cps.toList))) H) (tVar 1) (tC (.str "abcdefghijklmnopqrstuvwxyz"))) rfl nd (pi_str (pv 0))
        (blkOk_by (N := ["thing", "sign"]) (sc := defScope (top 43)) (by decide +kernel)) (fun _ _ _ _ _ => pg_name (i := 1) nd rfl (Or.inl rfl)) (fun _ _ _ _ _ => pts_nil)
        (fun _ _ _ _ _ => pe_cmpR op_in_sign (pv 1) (pe_glob (v := .str "abcdefghijklmnopqrstuvwxyz") (by rfl) gL ⟨_, rfl⟩) rfl)) pa_nil)))), ?_⟩
    refine ⟨_, rfl, _, _, _, _, true, rfl, .ty "str", .base (.str z), kit_ty (a := "str") (b := "str") (by decide +kernel), _, rfl, iteF ?_⟩
    have l8 : z.length ≤ 8 := by
      rcases h with ⟨h, _⟩ | ⟨h, _⟩
      · exact h.l8
      · omega
    refine ⟨_, rfl, z, rfl, small (by omega), _, _, rfl, rfl, _, rfl, ?_⟩
    rcases h with ⟨h, q⟩ | ⟨h, q⟩
    · have l1 := h.l1
      refine ifT (decide_eq_true (by omega)) ⟨_, _, rfl, rfl, _, rfl, ?_⟩
      refine ifF (by rw [decide_eq_true (show (z.length : Int) ≤ 8 by omega)]; rfl) ?_
      refine ⟨_, rfl, z, rfl, fun D hD => lc_it walk_str (fun i H' => Same H H' ∧ H' D = some (.lst ((List.replicate i true).map V.bl))) ?_ (fun _ _ _ _ => True.intro) ?_ ?_⟩
      · exact ⟨Same.new hD _, upd_same⟩
      · rintro i x H' H2 hi ⟨sm, hd⟩ ⟨rfl, c, hc, rfl⟩
        refine ⟨rfl, tYes_i ?_⟩
        have hin : c ∈ (("abcdefghijklmnopqrstuvwxyz" : Str)).cps.toList := h.abc c (by
          have := Array.mem_of_getElem? hc
          exact Array.mem_toList_iff.mpr this)
        have hz : z.cps.size ≤ 8 := l8
        refine ⟨_, rfl, c, _, rfl, rfl, _, hd, (by rw [List.length_map, List.length_replicate]; exact small1000 (by omega)), fun b o e => ?_, ?_⟩
        · rw [upd_ne (ne_of_none e hD)]
          exact sm b o e
        · rw [upd_same, decide_eq_true hin, List.replicate_succ', List.map_append]
          rfl
      · rintro H' ⟨sm, hd⟩
        refine ⟨D, _, rfl, SqL.of hd, ?_⟩
        have e : (List.replicate z.cps.size true).all id = true := by
          rw [List.all_eq_true]
          intro x hx
          rw [(List.mem_replicate.mp hx).2]
          rfl
        rw [e]
        exact q H' sm
    · refine ifF (decide_eq_false (by omega)) ⟨_, rfl, ?_⟩
      exact iteT (q H (.refl H))
def spNeedName (NN : Addr) : Sp := fun vs H Q E => ∃ z : Str, vs = [.str z] ∧ ((NameOk z ∧ ∀ H' : Hp, Same H H' → Q .non H') ∨ (z.length = 0 ∧ ∀ H' : Hp, Same H H' → E (.ref NN) none H'))
theorem sc44 : FnScope ["thing"] ["thing"] (defScope (top 44)) := ⟨rfl, rfl, rfl, by decide +kernel, rfl, by decide +kernel, by decide +kernel⟩
theorem d44 (T : Txt K mg S O HC NN) : Def P w K mg base (L2.CX P w) 2 "need_name" ["thing"] (spNeedName NN) := by
  have D43 : Def P w K mg base CX0 1 "is_name" ["thing"] spIsName := d43 T
  refine T.h44.okX sc44 (fun vs H Q E h => ?_) (fun f cdv A outer s H vs Q E hr h => ?_)
  · obtain ⟨z, rfl, _⟩ := h
    rfl
  · obtain ⟨z, rfl, h⟩ := h
    refine ⟨_, pss_one (ps_if (pt_not (pt_val (cd D43 hr (by rfl) pass0 (pa_cons (pv 0) pa_nil)))) (pss_one (ps_raise rfl (takes_of rfl rfl rfl rfl) (pmk_own PySem.F.excBase_ValueError T.xP T.gP T.kP (raises_own T.bP T.tP) rfl))) pss_nil), ?_⟩
    rcases h with ⟨h, q⟩ | ⟨h, q⟩
    · exact ⟨_, rfl, z, rfl, .inl ⟨h, fun H' sm => ⟨_, rfl, iteF (q H' sm)⟩⟩⟩
    · exact ⟨_, rfl, z, rfl, .inr ⟨h, fun H' sm => ⟨_, rfl, iteT (q H' sm)⟩⟩⟩
def spNeedFew : Sp := fun vs H Q _ => ∃ n : Int, vs = [.int n] ∧ n ≤ 999999999999999999999999999999 ∧ Q .non H
theorem sc45 : FnScope ["many"] ["many"] (defScope (top 45)) := ⟨rfl, rfl, rfl, by decide +kernel, rfl, by decide +kernel, by decide +kernel⟩
theorem d45 (T : Txt K mg S O HC NN) : Def P w K mg base CX0 1 "need_few" ["many"] spNeedFew := by
  obtain ⟨t1, gM⟩ := T.gMost
  refine T.h45.ok sc45 (fun vs H Q E h => ?_) (fun f cdv A outer s H vs Q E hr h => ?_)
  · obtain ⟨n, rfl, _⟩ := h
    rfl
  · obtain ⟨n, rfl, hn, q⟩ := h
    refine ⟨_, pss_one (ps_if (pt_cmpR op_gt (pv 0) (pe_glob (v := .int 999999999999999999999999999999) (by rfl) gM ⟨_, rfl⟩) (nomark _)) (pss_one ps_never) pss_nil), ?_⟩
    exact ⟨_, rfl, _, _, rfl, rfl, _, rfl, ifF (decide_eq_false (by omega)) q⟩

/-! ### slim -/
def spSlim (S O : Addr) (d : Nat) : Sp := fun vs H Q _ => ∃ (a : Addr) (xs : List V) (t : T) (R : Hp), vs = [.ref a] ∧ Same R H ∧ R a = some (.lst xs) ∧ Parts S O R t xs ∧ Fit t ∧ depth t ≤ d ∧
  ∀ (R' H' : Hp) (p : Addr) (ys : List V), Same H H' → Grow R H R' H' → R' p = some (.lst ys) → Parts S O R' (slim t) ys → Q (.ref p) H'
theorem sc46 : FnScope ["parts", "found", "part"] ["parts"] (defScope (top 46)) := ⟨rfl, rfl, rfl, by decide +kernel, rfl, by decide +kernel, by decide +kernel⟩
/-- between two turns -/
def SlimAt (S O : Addr) (R H0 : Hp) (a p : Addr) (t : T) (i : Nat) (σ : St) (H' : Hp) : Prop :=
  ∃ (R' : Hp) (v2 : Option V) (acc : List V) (ta : T), σ = [some (.ref a), some (.ref p), v2] ∧ Same H0 H' ∧ Grow R H0 R' H' ∧ R' p = none ∧ H' p = some (.lst acc) ∧ Parts S O R' ta acc ∧ app ta (slim (tl i t)) = slim t
theorem d46 (T : Txt K mg S O HC NN) {d k : Nat} (IH : ∀ e, e + 1 = d → Def P w K mg base CX0 k "slim" ["parts"] (spSlim S O e)) : Def P w K mg base CX0 (k + 1) "slim" ["parts"] (spSlim S O d) := by
  have nd := sc46.nd
  have DP : Def P w K mg base CX0 (k) "slim" ["parts"] (fun vs H Q E => ∃ e, e + 1 = d ∧ spSlim S O e vs H Q E) := by
    cases d with
    | zero =>
      obtain ⟨f, fd, F, m, b⟩ := T.h46
      refine ⟨f, fd, m, F.kp, b, ⟨fun vs H Q E h => ?_, fun A outer s H args us vs Q E _ _ _ _ h => ?_⟩⟩
      · obtain ⟨e, h, _⟩ := h
        omega
      · obtain ⟨e, h, _⟩ := h
        omega
    | succ d =>
      refine (IH d rfl).imp fun vs H Q E h => ?_
      obtain ⟨e, h1, h2⟩ := h
      cases h1
      exact h2
  refine T.h46.ok sc46 (fun vs H Q E h => ?_) (fun f cdv A outer s H vs Q E hr h => ?_)
  · obtain ⟨a, xs, t, R, rfl, _⟩ := h
    rfl
  · obtain ⟨a, xs, t, R, rfl, hR, ha, hP, hF, hdp, q⟩ := h
    refine ⟨_, pss_cons (ps_set (i := 1) nd rfl (Or.inl rfl) (pe_lst pa_nil))
      (pss_cons (ps_for PassesOwn.never rfl (pi_list (pv 0)) (pg_name (i := 2) nd rfl (Or.inl rfl))
        (pss_one (ps_if (PW.pt (pw_and (pt_val (pe_callB call_isi (by rfl) T.bIsi (by decide +kernel) (pa_cons (pv 2) (pa_cons (pe_glob (v := .ref O) (by rfl) T.gO rfl) pa_nil)))) (pw_and1 (pt_cmpR op_eq (pe_fld (pv 2) rfl) pe_int (nomark _)))))
          (pss_one (ps_expr (pe_bm PySem.F.plainAttrs_list PySem.F.slot_list_extend PySem.F.type_list_extend mt_extend (pv 1) (pa_cons (cd DP hr (by rfl) pass0 (pa_cons (pe_fld (pv 2) rfl) pa_nil)) pa_nil))))
          (pss_one (ps_if (pt_cmpR op_gt (pe_fld (pv 2) rfl) pe_int (nomark _))
            (pss_one (ps_expr (pe_bm PySem.F.plainAttrs_list PySem.F.slot_list_append PySem.F.type_list_append mt_append (pv 1) (pa_cons (pv 2) pa_nil)))) pss_nil)))))
      (pss_one (ps_ret (pv 1)))), ?_⟩
    refine ⟨(by show 0 ≤ sizeLine; decide), fun p hp => ?_⟩
    have s0 : Same H (upd H p (.lst [])) := Same.new hp _
    have nR : R p = none := Same.free hR hp
    have lsl : len (slim t) ≤ 1000 := hF.slim.len
    refine ⟨_, rfl, a, rfl, ⟨_, SqL.of (s0 _ _ (hR _ _ ha))⟩, for_list (K := K) (a := a) (xs := xs) (SlimAt S O R H a p t) ?_ ?_ ?_ ?_⟩
    · exact ⟨R, none, [], .nil, rfl, s0, ⟨.refl R, sameOff hR nR _, fun b h1 h2 => absurd h1 h2⟩, nR, upd_same, rfl, rfl⟩
    · rintro i σ H' _ ⟨R', v2, acc, ta, _, sm, _⟩
      exact SqL.of (sm _ _ (hR _ _ ha))
    · rintro i x σ H' hx ⟨R', v2, acc, ta, rfl, sm, gr, nRp, hacc, hPa, eT⟩
      have elen : acc.length + len (slim (tl i t)) = len (slim t) := by rw [hPa.len, ← len_app, eT]
      rcases ((hP.mono gr.rr).at hx) with ⟨l, m, ip, dx, ta', kn, et, rfl, hip, hta, kn0, kn1⟩ | ⟨n, b, ip, dx, bq, bs, et, rfl, hip, hbq, hb⟩
      · have hip' := gr.rh _ _ hip
        rw [et] at eT elen
        have el2 : len (slim (.say l m (tl (i + 1) t))) = 1 + len (slim (tl (i + 1) t)) := rfl
        refine ⟨_, rfl, _, _, _, _, false, rfl, .own O, T.iS.ty hip', T.kSO, _, rfl, iteF ?_⟩
        refine ⟨_, rfl, ip, S, dx, _, _, rfl, hip', T.iS.cl, T.nSm, spot_many, _, _, rfl, rfl, _, rfl, ifT (by decide) ?_⟩
        refine ⟨_, rfl, .inl ⟨rfl, _, SqL.of hacc⟩, _, rfl, p, acc, _, rfl, rfl, hacc, small1000 (by omega), ?_⟩
        refine ⟨R', _, acc ++ [.ref ip], app ta (.say l m .nil), rfl, fun c o e => ?_, ⟨gr.rr, sameOff gr.rh nRp _, gr.fr⟩, nRp, upd_same, hPa.app ⟨ip, dx, ta', kn, [], rfl, hip, hta, kn0, kn1, rfl⟩, ?_⟩
        · rw [upd_ne (ne_of_none e hp)]
          exact sm c o e
        · rw [app_assoc]
          exact eT
      · have hip' := gr.rh _ _ hip
        have hk := hF.tl i
        have hd2 : depth (tl i t) ≤ d := Nat.le_trans (depth_tl t i) hdp
        rw [et] at hk hd2 eT elen
        have hd3 := depth_body hd2
        refine ⟨_, rfl, _, _, _, _, true, rfl, .own O, T.iO.ty hip', T.kOO, _, rfl, iteT ?_⟩
        refine ⟨_, rfl, ip, O, dx, _, _, rfl, hip', T.iO.cl, T.nOt, over_times, rfl, _, rfl, ?_⟩
        by_cases h1 : n = 1
        · subst h1
          rw [slim_one] at eT elen
          rw [len_app] at elen
          refine ifT (by simp) ?_
          refine ⟨_, rfl, .inl ⟨rfl, _, SqL.of hacc⟩, _, rfl, ip, O, dx, _, _, rfl, hip', T.iO.cl, T.nOp, over_parts, d - 1, by omega, bq, bs, b, R', rfl, gr.rh, hbq, hb, hk.body, by omega, fun R2 H2 p2 ys s2 g2 hp2 hPb => ?_⟩
          have nR2 : R2 p = none := by
            cases z : R2 p with
            | none => rfl
            | some o =>
              have z2 := g2.fr p nRp (by rw [z]; exact fun e => nomatch e)
              rw [hacc] at z2
              cases z2
          have eys := hPb.len
          refine ⟨p, p2, acc, ys, rfl, rfl, s2 _ _ hacc, g2.rh _ _ hp2, small (by omega), ?_⟩
          have g := gr.trans g2 fun c hc => Same.free sm hc
          refine ⟨R2, _, acc ++ ys, app ta (slim b), rfl, fun c o e => ?_, ⟨g.rr, sameOff g.rh nR2 _, g.fr⟩, nR2, upd_same, (hPa.mono g2.rr).app hPb, ?_⟩
          · rw [upd_ne (ne_of_none e hp)]
            exact s2 _ _ (sm c o e)
          · rw [app_assoc]
            exact eT
        · refine ifF (decide_eq_false fun z => h1 (by have := V.int.inj z; omega)) ?_
          refine ⟨_, rfl, ip, O, dx, _, _, rfl, hip', T.iO.cl, T.nOm, over_many, _, _, rfl, rfl, _, rfl, ?_⟩
          by_cases h2 : 0 < n * ppl b
          · rw [slim_rep h1 h2] at eT elen
            have el2 : len (.rep n b (slim (tl (i + 1) t))) = 1 + len (slim (tl (i + 1) t)) := rfl
            refine ifT (decide_eq_true (by omega)) ?_
            refine ⟨_, rfl, .inl ⟨rfl, _, SqL.of hacc⟩, _, rfl, p, acc, _, rfl, rfl, hacc, small1000 (by omega), ?_⟩
            refine ⟨R', _, acc ++ [.ref ip], app ta (.rep n b .nil), rfl, fun c o e => ?_, ⟨gr.rr, sameOff gr.rh nRp _, gr.fr⟩, nRp, upd_same, hPa.app ⟨ip, dx, bq, bs, [], rfl, hip, hbq, hb, rfl⟩, ?_⟩
            · rw [upd_ne (ne_of_none e hp)]
              exact sm c o e
            · rw [app_assoc]
              exact eT
          · rw [slim_no h1 h2] at eT elen
            refine ifF (decide_eq_false (by omega)) ?_
            exact ⟨R', _, acc, ta, rfl, sm, gr, nRp, hacc, hPa, eT⟩
    · rintro σ H' ⟨R', v2, acc, ta, rfl, sm, gr, nRp, hacc, hPa, eT⟩
      rw [hP.len, tl_len] at eT
      have eT : app ta .nil = slim t := eT
      rw [app_nil] at eT
      subst eT
      exact ⟨_, rfl, q (upd R' p (.lst acc)) H' p acc sm (gr.add hacc nRp hp) upd_same (hPa.mono (Same.new nRp _))⟩
theorem d46n (T : Txt K mg S O HC NN) : ∀ d : Nat, Def P w K mg base CX0 (d + 1) "slim" ["parts"] (spSlim S O d)
  | 0 => d46 (k := 0) T (fun e h => by omega)
  | d + 1 => d46 (k := d + 1) T (fun e h => by cases h; exact d46n T d)
end
end Bo
end
section
/-! Boastrow: the hall: its rows, what is kept. -/
namespace Bo
open PySem PySem.Spec L2
/-! ### rows by names -/
abbrev Rws := List (Str × T)
def getR (rows : Rws) (n : Str) : Option T := (rows.find? fun p => decide (p.1 = n)).map (·.2)
theorem getR_pos {p : Str × T} {r : Rws} {n : Str} (e : p.1 = n) : getR (p :: r) n = some p.2 := by simp [getR, List.find?_cons, e]
theorem getR_neg {p : Str × T} {r : Rws} {n : Str} (e : ¬ p.1 = n) : getR (p :: r) n = getR r n := by simp [getR, List.find?_cons, e]
def slimR (rows : Rws) : Rws := rows.map fun p => (p.1, slim p.2)
def setR (rows : Rws) (n : Str) (t : T) : Rws := rows.map fun p => if p.1 = n then (p.1, t) else p
def dropR (rows : Rws) (n : Str) : Rws := rows.filter fun p => decide (p.1 ≠ n)
structure RowsOk (rows : Rws) : Prop where
  nd : (rows.map (·.1)).Nodup
  few : rows.length ≤ 100
  each : ∀ p ∈ rows, Fit p.2 ∧ depth p.2 ≤ 2
theorem slimR_keys (rows : Rws) : (slimR rows).map (·.1) = rows.map (·.1) := by
  unfold slimR
  rw [List.map_map]
  rfl
theorem RowsOk.slim {rows : Rws} (h : RowsOk rows) : RowsOk (slimR rows) := by
  refine ⟨by rw [slimR_keys]; exact h.nd, by unfold slimR; rw [List.length_map]; exact h.few, fun p hp => ?_⟩
  obtain ⟨q, hq, rfl⟩ := List.mem_map.mp hp
  obtain ⟨h1, h2⟩ := h.each q hq
  exact ⟨h1.slim, Nat.le_trans (depth_slim q.2) h2⟩
theorem getR_mem {rows : Rws} {n : Str} {t : T} (h : getR rows n = some t) : (n, t) ∈ rows := by
  unfold getR at h
  cases e : rows.find? fun p => decide (p.1 = n) with
  | none => rw [e] at h; cases h
  | some p =>
    rw [e] at h
    have h2 : p.2 = t := Option.some.inj h
    have h1 : p.1 = n := of_decide_eq_true (List.find?_some (p := fun p : Str × T => decide (p.1 = n)) e)
    have hm := List.mem_of_find?_eq_some e
    rw [← h1, ← h2]
    exact hm
theorem getR_slim (rows : Rws) (n : Str) : getR (slimR rows) n = (getR rows n).map slim := by
  induction rows with
  | nil => rfl
  | cons p r ih =>
    show getR ((p.1, slim p.2) :: slimR r) n = _
    by_cases e : p.1 = n
    · rw [getR_pos (p := (p.1, slim p.2)) e, getR_pos e]
      rfl
    · rw [getR_neg (p := (p.1, slim p.2)) e, getR_neg e]
      exact ih
/-- an entry of a rows' dict -/
def Ent (S O : Addr) (R : Hp) (kv : Key × V) (p : Str × T) : Prop := kv.1 = Sum.inr p.1 ∧ ∃ a vs, kv.2 = .ref a ∧ R a = some (.lst vs) ∧ Parts S O R p.2 vs
theorem Ent.mono {S O : Addr} {R R' : Hp} (s : Same R R') {kv : Key × V} {p : Str × T} (h : Ent S O R kv p) : Ent S O R' kv p := by
  obtain ⟨e, a, vs, e2, h1, h2⟩ := h
  exact ⟨e, a, vs, e2, s _ _ h1, h2.mono s⟩
theorem ents_mono {S O : Addr} {R R' : Hp} (s : Same R R') {kvs : List (Key × V)} {rows : Rws} (h : Paired (Ent S O R) kvs rows) : Paired (Ent S O R') kvs rows := L2.Paired.mapP h fun _ _ z => z.mono s
theorem ents_keys {S O : Addr} {R : Hp} : ∀ {kvs : List (Key × V)} {rows : Rws}, Paired (Ent S O R) kvs rows → kvs.map (·.1) = rows.map fun p => Sum.inr p.1
  | _, _, .nil => rfl
  | _, _, .cons h t => by rw [List.map_cons, List.map_cons, h.1, ents_keys t]
theorem ents_get {S O : Addr} {R : Hp} {n : Str} : ∀ {kvs : List (Key × V)} {rows : Rws}, Paired (Ent S O R) kvs rows →
    (getR rows n = none ∧ valV kvs (Sum.inr n) = none) ∨ ∃ t a vs, getR rows n = some t ∧ valV kvs (Sum.inr n) = some (.ref a) ∧ R a = some (.lst vs) ∧ Parts S O R t vs
  | _, _, .nil => .inl ⟨rfl, rfl⟩
  | _, _, .cons (a := kv) (b := p) h t => by
    obtain ⟨e, a, vs, e2, h1, h2⟩ := h
    by_cases q : p.1 = n
    · refine .inr ⟨p.2, a, vs, getR_pos q, ?_, h1, h2⟩
      rw [valV_pos (by rw [e, q]), e2]
    · rw [getR_neg q, valV_neg (by rw [e]; exact fun z => q (Sum.inr.inj z))]
      exact ents_get t
theorem ents_snoc {S O : Addr} {R : Hp} {kvs : List (Key × V)} {rows : Rws} {n : Str} {t : T} {a : Addr} {vs : List V} (h : Paired (Ent S O R) kvs rows) (hn : getR rows n = none) (ha : R a = some (.lst vs)) (hP : Parts S O R t vs) :
    Paired (Ent S O R) (putK kvs (Sum.inr n) (.ref a)) (rows ++ [(n, t)]) := by
  rcases ents_get (n := n) h with ⟨_, hv⟩ | ⟨t', _, _, hg, _⟩
  · rw [putK_new _ hv]
    exact h.snoc ⟨rfl, a, vs, rfl, ha, hP⟩
  · rw [hn] at hg
    cases hg
/-- in a rows' dict -/
def RowsD (S O : Addr) (R : Hp) (r : Addr) (rows : Rws) : Prop := ∃ kvs, R r = some (.dK kvs) ∧ Paired (Ent S O R) kvs rows
theorem RowsD.mono {S O : Addr} {R R' : Hp} {r : Addr} {rows : Rws} (s : Same R R') (h : RowsD S O R r rows) : RowsD S O R' r rows := by
  obtain ⟨kvs, h1, h2⟩ := h
  exact ⟨kvs, s _ _ h1, ents_mono s h2⟩
def Don (S O : Addr) (R : Hp) (v : V) (rows : Rws) : Prop := ∃ (t : Addr) (dv : V) (r : Addr), v = .ref t ∧ R t = some (.tup [dv, .ref r]) ∧ RowsD S O R r rows
theorem dons_mono {S O : Addr} {R R' : Hp} (s : Same R R') {ds : List V} {hist : List Rws} (h : Paired (Don S O R) ds hist) : Paired (Don S O R') ds hist := L2.Paired.mapP h fun _ _ ⟨t, dv, r, e, h1, h2⟩ => ⟨t, dv, r, e, s _ _ h1, h2.mono s⟩
def hf (r d u : Addr) : List (Str × V) := [("s10_rows", .ref r), ("s10_done", .ref d), ("s10_undone", .ref u)]
theorem hf_rows {r d u : Addr} : (hf r d u).lookup ("s10_rows" : Str) = some (V.ref r) := lookup_hd
theorem hf_done {r d u : Addr} : (hf r d u).lookup ("s10_done" : Str) = some (V.ref d) := by
  unfold hf
  rw [lookup_tl (by decide +kernel)]
  exact lookup_hd
theorem hf_undone {r d u : Addr} : (hf r d u).lookup ("s10_undone" : Str) = some (V.ref u) := by
  unfold hf
  rw [lookup_tl (by decide +kernel), lookup_tl (by decide +kernel)]
  exact lookup_hd
theorem hf_no {r d u : Addr} {m : Str} (h1 : (m == ("s10_rows" : Str)) = false) (h2 : (m == ("s10_done" : Str)) = false) (h3 : (m == ("s10_undone" : Str)) = false) : (hf r d u).lookup m = none := by
  unfold hf
  rw [lookup_tl h1, lookup_tl h2, lookup_tl h3]
  rfl
theorem hf_setR {r d u x : Addr} : putF "s10_rows" (.ref x) (hf r d u) = hf x d u := if_pos rfl
theorem hf_setU {r d u x : Addr} : putF "s10_undone" (.ref x) (hf r d u) = hf r d x := by
  unfold hf
  rw [put_ne (by decide +kernel), put_ne (by decide +kernel)]
  rfl
/-- THE HALL: its rows now, and ahead of each deed -/
structure HallAt (S O HC : Addr) (R H : Hp) (h d u : Addr) (cur : Rws) (hist : List Rws) : Prop where
  sr : Same R H
  ob : ∃ dx r, H h = some (.ins HC dx (hf r d u)) ∧ RowsD S O R r cur
  dn : ∃ ds us, H d = some (.lst ds) ∧ Paired (Don S O R) ds hist ∧ H u = some (.lst us) ∧ ds.length + us.length ≤ 1000
  nh : R h = none
  nd : R d = none
  nu : R u = none
  du : d ≠ u
theorem HallAt.mono {S O HC : Addr} {R R' H H' : Hp} {h d u : Addr} {cur : Rws} {hist : List Rws} (x : HallAt S O HC R H h d u cur hist) (s : Same R R') (s' : Same R' H') (k : ∀ b o, b = h ∨ b = d ∨ b = u → H b = some o → H' b = some o)
    (n : ∀ b, H b ≠ none → R b = none → R' b = none) : HallAt S O HC R' H' h d u cur hist := by
  obtain ⟨dx, r, h1, h2⟩ := x.ob
  obtain ⟨ds, us, h3, h4, h5, h6⟩ := x.dn
  exact ⟨s', ⟨dx, r, k _ _ (.inl rfl) h1, h2.mono s⟩, ⟨ds, us, k _ _ (.inr (.inl rfl)) h3, dons_mono s h4, k _ _ (.inr (.inr rfl)) h5, h6⟩, n h (by rw [h1]; exact fun z => nomatch z) x.nh, n d (by rw [h3]; exact fun z => nomatch z) x.nd, n u (by rw [h5]; exact fun z => nomatch z) x.nu, x.du⟩
theorem HallAt.same {S O HC : Addr} {R H H' : Hp} {h d u : Addr} {cur : Rws} {hist : List Rws} (x : HallAt S O HC R H h d u cur hist) (s : Same H H') : HallAt S O HC R H' h d u cur hist :=
  x.mono (.refl R) (x.sr.trans s) (fun b o _ e => s b o e) fun _ _ n => n
section
variable {P : Program} {w : World} {K : PySem.W.Frag} {mg : Str → Option Value} {base : Heap} {S O HC NN : Addr}

/-! ### Hall() -/
def spHall (HC : Addr) : Sp := fun vs H Q _ => ∃ (h dx : Addr), vs = [.ref h] ∧ H h = some (.ins HC dx []) ∧ ∀ (H' : Hp) (r d u : Addr), H' h = some (.ins HC dx (hf r d u)) → H' r = some (.dK []) → H' d = some (.lst []) → H' u = some (.lst []) → d ≠ u →
  H r = none → H d = none → H u = none → (∀ b o, b ≠ h → H b = some o → H' b = some o) → Q .non H'
theorem scHall : FnScope ["self"] ["self"] (defScope (inClass sHall 0)) := ⟨rfl, rfl, rfl, by decide +kernel, rfl, by decide +kernel, by decide +kernel⟩
theorem dHall (T : Txt K mg S O HC NN) : DefI P w K mg base CX0 1 HC ["self"] (spHall HC) := by
  refine T.hHall.ok scHall (fun vs H Q E h => ?_) (fun f cdv A outer s H vs Q E hr h => ?_)
  · obtain ⟨h, dx, rfl, _⟩ := h
    rfl
  · obtain ⟨h, dx, rfl, hh, q⟩ := h
    refine ⟨_, pss_cons (ps_fld (pv 0) pe_dnewK rfl) (pss_cons (ps_fld (pv 0) (pe_lst pa_nil) rfl) (pss_one (ps_fld (pv 0) (pe_lst pa_nil) rfl))), ?_⟩
    intro r hr0
    have nhr : h ≠ r := ne_of_none hh hr0
    refine ⟨_, rfl, h, HC, dx, [], rfl, by rw [upd_ne nhr]; exact hh, T.cH, T.nHr, (by show 0 < 1000; decide), ?_⟩
    refine ⟨(by show 0 ≤ sizeLine; decide), fun d hd0 => ?_⟩
    have nhd : h ≠ d := ne_of_none upd_same hd0
    have nrd : r ≠ d := ne_of_none (show (upd (upd H r (.dK [])) h (.ins HC dx (putF "s10_rows" (.ref r) []))) r = some (.dK []) by rw [upd_ne nhr.symm]; exact upd_same) hd0
    refine ⟨_, rfl, h, HC, dx, _, rfl, by rw [upd_ne nhd]; exact upd_same, T.cH, T.nHd, (by show 1 < 1000; decide), ?_⟩
    refine ⟨(by show 0 ≤ sizeLine; decide), fun u hu0 => ?_⟩
    have e1 : putF "s10_rows" (V.ref r) [] = [(("s10_rows" : Str), V.ref r)] := rfl
    have e2 : putF "s10_done" (V.ref d) (putF "s10_rows" (V.ref r) []) = [(("s10_rows" : Str), V.ref r), ("s10_done", V.ref d)] := by
      rw [e1, put_ne (by decide +kernel)]
      rfl
    have e3 : putF "s10_undone" (V.ref u) (putF "s10_done" (V.ref d) (putF "s10_rows" (V.ref r) [])) = hf r d u := by
      rw [e2, put_ne (by decide +kernel), put_ne (by decide +kernel)]
      rfl
    have nhu : h ≠ u := ne_of_none upd_same hu0
    have ndu : d ≠ u := fun z => by
      rw [← z, upd_ne nhd.symm, upd_same] at hu0
      cases hu0
    have nru : r ≠ u := fun z => by
      rw [← z, upd_ne nhr.symm, upd_ne nrd, upd_ne nhr.symm, upd_same] at hu0
      cases hu0
    refine ⟨_, rfl, h, HC, dx, _, rfl, by rw [upd_ne nhu]; exact upd_same, T.cH, T.nHu, (by rw [e2]; show 2 < 1000; decide), ?_⟩
    have hd1 : H d = none := by
      rw [upd_ne nhd.symm, upd_ne nrd.symm] at hd0
      exact hd0
    have hu1 : H u = none := by
      rw [upd_ne nhu.symm, upd_ne ndu.symm, upd_ne nhu.symm, upd_ne nru.symm] at hu0
      exact hu0
    refine q _ r d u (by rw [upd_same, e3]) ?_ ?_ ?_ ndu hr0 hd1 hu1 fun b o hb e => ?_
    · rw [upd_ne nhr.symm, upd_ne nru, upd_ne nhr.symm, upd_ne nrd, upd_ne nhr.symm, upd_same]
    · rw [upd_ne nhd.symm, upd_ne ndu, upd_ne nhd.symm, upd_same]
    · rw [upd_ne nhu.symm, upd_same]
    · have br : b ≠ r := ne_of_none e hr0
      have bd : b ≠ d := ne_of_none e hd1
      have bu : b ≠ u := ne_of_none e hu1
      rw [upd_ne hb, upd_ne bu, upd_ne hb, upd_ne bd, upd_ne hb, upd_ne br]
      exact e

/-! ### s10_parts, s10_free -/
def spParts (S O HC NN : Addr) : Sp := fun vs H Q E => ∃ (h d u dx r : Addr) (n : Str) (R : Hp) (cur : Rws), vs = [.ref h, .str n] ∧ Same R H ∧ H h = some (.ins HC dx (hf r d u)) ∧ RowsD S O R r cur ∧
  ((∃ t, NameOk n ∧ getR cur n = some t ∧ ∀ (H' : Hp) (a : Addr) (xs : List V), Same H H' → R a = some (.lst xs) → Parts S O R t xs → Q (.ref a) H') ∨
    (NameOk n ∧ getR cur n = none ∧ ∀ H' : Hp, Same H H' → E (.ref NN) none H') ∨ (n.length = 0 ∧ ∀ H' : Hp, Same H H' → E (.ref NN) none H'))
theorem scParts : FnScope ["self", "name"] ["self", "name"] (defScope (inClass sHall 2)) := ⟨rfl, rfl, rfl, by decide +kernel, rfl, by decide +kernel, by decide +kernel⟩
theorem dParts (T : Txt K mg S O HC NN) : DefM P w K mg base (L2.CX P w) 3 HC "s10_parts" ["self", "name"] (spParts S O HC NN) := by
  have D44 : Def P w K mg base (L2.CX P w) 2 "need_name" ["thing"] (spNeedName NN) := d44 T
  refine T.hParts.okX scParts (fun vs H Q E h => ?_) (fun f cdv A outer s H vs Q E hr h => ?_)
  · obtain ⟨h, d, u, dx, r, n, R, cur, rfl, _⟩ := h
    rfl
  · obtain ⟨h, d, u, dx, r, n, R, cur, rfl, hR, hh, ⟨kvs, hkv, hen⟩, hw⟩ := h
    refine ⟨_, pss_cons (ps_expr (cd D44 hr (by rfl) (E := E) (passes_call (W := fun c d _ H => E c d H) (takes_of rfl rfl rfl rfl) (fun _ _ _ _ z => z)) (pa_cons (pv 1) pa_nil)))
      (pss_cons (ps_if (pt_cmp (pc_dnotin (hu_of hr) (pv 1) (pe_fld (pv 0) rfl))) (pss_one (ps_raise rfl (takes_of rfl rfl rfl rfl) (pmk_own PySem.F.excBase_ValueError T.xP T.gP T.kP (raises_own T.bP T.tP) rfl))) pss_nil)
      (pss_one (ps_ret (pe_dget (hu_of hr) (pe_fld (pv 0) rfl) (pv 1) (fun _ _ => rfl))))), ?_⟩
    have go : ∀ H' : Hp, Same H H' → (∃ t, getR cur n = some t ∧ ∀ (H' : Hp) (a : Addr) (xs : List V), Same H H' → R a = some (.lst xs) → Parts S O R t xs → Q (.ref a) H') ∨ (getR cur n = none ∧ ∀ H' : Hp, Same H H' → E (.ref NN) none H') →
        tSeq (tIfS (tB (tDNotIn (tVar 1) (tFld K (tVar 0) ("s10_rows" : Str)))) (fun _ σ H => E (.ref NN) none H) tNext) (tRet (tDGet (tFld K (tVar 0) ("s10_rows" : Str)) (tVar 1))) { nx := fun _ H' => Q .non H', rt := Q } [some (.ref h), some (.str n)] H' := by
      intro H' sm hw
      have hh' := sm _ _ hh
      have hkv' := sm _ _ (hR _ _ hkv)
      refine ⟨_, rfl, _, rfl, h, HC, dx, _, _, rfl, hh', T.cH, T.nHr, hf_rows, r, _, rfl, DGet.k (k := Sum.inr n) hkv', _, rfl, ?_⟩
      rcases ents_get (n := n) hen with ⟨g, v⟩ | ⟨t, a, xs, g, v, ha, hP⟩
      · rw [v]
        refine ifT rfl ?_
        rcases hw with ⟨t, g2, _⟩ | ⟨_, q⟩
        · rw [g] at g2
          cases g2
        · exact q H' sm
      · rw [v]
        refine ifF rfl ?_
        refine ⟨_, rfl, h, HC, dx, _, _, rfl, hh', T.cH, T.nHr, hf_rows, _, rfl, r, .ref a, rfl, ?_, ?_⟩
        · have z := DGet.k (k := Sum.inr n) hkv'
          rw [v] at z
          exact z
        · rcases hw with ⟨t2, g2, q⟩ | ⟨g2, _⟩
          · rw [g] at g2
            cases g2
            exact q H' a xs sm ha hP
          · rw [g] at g2
            cases g2
    rcases hw with ⟨t, hn, hg, q⟩ | ⟨hn, hg, q⟩ | ⟨hl, q⟩
    · exact ⟨_, rfl, n, rfl, .inl ⟨hn, fun H' sm => go H' sm (.inl ⟨t, hg, q⟩)⟩⟩
    · exact ⟨_, rfl, n, rfl, .inl ⟨hn, fun H' sm => go H' sm (.inr ⟨hg, q⟩)⟩⟩
    · exact ⟨_, rfl, n, rfl, .inr ⟨hl, q⟩⟩
def spFree (S O HC : Addr) : Sp := fun vs H Q _ => ∃ (h d u dx r : Addr) (n : Str) (R : Hp) (cur : Rws), vs = [.ref h, .str n] ∧ Same R H ∧ H h = some (.ins HC dx (hf r d u)) ∧ RowsD S O R r cur ∧ NameOk n ∧ getR cur n = none ∧ ∀ H' : Hp, Same H H' → Q .non H'
theorem scFree : FnScope ["self", "name"] ["self", "name"] (defScope (inClass sHall 3)) := ⟨rfl, rfl, rfl, by decide +kernel, rfl, by decide +kernel, by decide +kernel⟩
theorem dFree (T : Txt K mg S O HC NN) : DefM P w K mg base CX0 3 HC "s10_free" ["self", "name"] (spFree S O HC) := by
  have D44 : Def P w K mg base (L2.CX P w) 2 "need_name" ["thing"] (spNeedName NN) := d44 T
  refine T.hFree.ok scFree (fun vs H Q E h => ?_) (fun f cdv A outer s H vs Q E hr h => ?_)
  · obtain ⟨h, d, u, dx, r, n, R, cur, rfl, _⟩ := h
    rfl
  · obtain ⟨h, d, u, dx, r, n, R, cur, rfl, hR, hh, ⟨kvs, hkv, hen⟩, hn, hg, q⟩ := h
    refine ⟨_, pss_cons (ps_expr (cd D44 hr (by rfl) passL (pa_cons (pv 1) pa_nil)))
      (pss_one (ps_if (pt_cmp (pc_din (hu_of hr) (pv 1) (pe_fld (pv 0) rfl))) (pss_one ps_never) pss_nil)), ?_⟩
    refine ⟨_, rfl, n, rfl, .inl ⟨hn, fun H' sm => ?_⟩⟩
    refine ⟨_, rfl, _, rfl, h, HC, dx, _, _, rfl, sm _ _ hh, T.cH, T.nHr, hf_rows, r, _, rfl, DGet.k (k := Sum.inr n) (sm _ _ (hR _ _ hkv)), _, rfl, ?_⟩
    rcases ents_get (n := n) hen with ⟨g, v⟩ | ⟨t, a, xs, g, v, ha, hP⟩
    · rw [v]
      exact ifF rfl (q H' sm)
    · rw [hg] at g
      cases g
end
end Bo
end
section
/-! Boastrow: the hall's deeds: what is kept. -/
namespace Bo
open PySem PySem.Spec L2
/-- a dict comprehension over it -/
theorem dc_it {J : It} {n : Nat} {G : Hp → Prop} {Y : Nat → Hp → V → Hp → Prop} (w : Walk J n G Y) {g : TG} {tt : TT} {tk tv : TE} {vs : List Nat} {σ : St} {H1 : Hp} {D : Addr} {Qd : Hp → Prop} (Pv : Nat → Hp → Prop) (h0 : Pv 0 (upd H1 D (.dK []))) (hG : ∀ i H, i ≤ n → Pv i H → G H)
    (hs : ∀ i x H H', i < n → Pv i H → Y i H x H' → g x (wipe σ vs) H' fun σ2 H2 => wipe σ2 vs = wipe σ vs ∧ tt σ2 H2 fun b H3 =>
      if b = true then tk σ2 H3 fun y H4 => tv σ2 H4 fun z H5 => ∃ kvs k, y = kV k ∧ H5 D = some (.dK kvs) ∧ kvs.length < sizeLine ∧ Pv (i + 1) (upd H5 D (.dK (putK kvs k z))) else Pv (i + 1) H3) (hd : ∀ H, Pv n H → Qd H) :
    ∃ W : Nat → Nat → Hp → Prop, (∃ m, W 0 m (upd H1 D (.dK []))) ∧ ∀ i m H, W i m H →
      (J.stop i H ∧ Qd H) ∨ (J.go i H ∧ ∃ Nx : Hp → Prop, (∀ H', Nx H' → ∃ m', m' < m ∧ W (i + 1) m' H') ∧ ∀ x H', J.yld i H x H' → g x (wipe σ vs) H' fun σ2 H2 => wipe σ2 vs = wipe σ vs ∧ tt σ2 H2 fun b H3 =>
        if b = true then tk σ2 H3 fun y H4 => tv σ2 H4 fun z H5 => ∃ kvs k, y = kV k ∧ H5 D = some (.dK kvs) ∧ kvs.length < sizeLine ∧ Nx (upd H5 D (.dK (putK kvs k z))) else Nx H3) := by
  refine ⟨fun i m H => m = n - i ∧ i ≤ n ∧ Pv i H, ⟨n, by simp, Nat.zero_le _, h0⟩, ?_⟩
  rintro i m H ⟨rfl, hi, p⟩
  have q := hG i H hi p
  by_cases hlt : i < n
  · refine .inr ⟨w.goes i H hlt q, Pv (i + 1), fun H' p' => ⟨n - (i + 1), by omega, rfl, hlt, p'⟩, fun x H' y => hs i x H H' hlt p (w.yields i H x H' hlt q y)⟩
  · have e : i = n := by omega
    subst e
    exact .inl ⟨w.stops H q, hd H p⟩
theorem getR_not {n : Str} : ∀ {rows : Rws}, n ∉ rows.map (·.1) → getR rows n = none
  | [], _ => rfl
  | p :: r, h => by
    rw [getR_neg (fun e => h (by simp [e]))]
    exact getR_not fun z => h (by simp [z])
theorem take_next {α : Type} {l : List α} {i : Nat} {x : α} (h : l[i]? = some x) : l.take (i + 1) = l.take i ++ [x] := by
  rw [List.take_succ, h]
  rfl
theorem take_new {rows : Rws} {i : Nat} {p : Str × T} (nd : (rows.map (·.1)).Nodup) (h : rows[i]? = some p) : getR (slimR (rows.take i)) p.1 = none := by
  refine getR_not ?_
  rw [slimR_keys, List.map_take]
  intro hm
  obtain ⟨j, hj, e⟩ := List.mem_iff_getElem.mp hm
  rw [List.getElem_take] at e
  rw [List.length_take] at hj
  have hp : (rows.map (·.1))[i]? = some p.1 := by rw [List.getElem?_map, h]; rfl
  have hq : (rows.map (·.1))[j]? = some p.1 := by rw [List.getElem?_eq_getElem (by omega), e]
  have := nd_ix nd hp hq
  omega
theorem paired_at {α β : Type} {p : α → β → Prop} : ∀ {xs : List α} {ys : List β} {i : Nat} {x : α}, Paired p xs ys → xs[i]? = some x → ∃ y, ys[i]? = some y ∧ p x y
  | _, _, 0, x, .cons h t, e => ⟨_, rfl, by cases e; exact h⟩
  | _, _, i + 1, x, .cons h t, e => by
    have e : _ = some x := e
    rw [List.getElem?_cons_succ] at e
    obtain ⟨y, e2, h2⟩ := paired_at t e
    exact ⟨y, by rw [List.getElem?_cons_succ]; exact e2, h2⟩
theorem ents_len {S O : Addr} {R : Hp} {kvs : List (Key × V)} {rows : Rws} (h : Paired (Ent S O R) kvs rows) : kvs.length = rows.length := h.length
theorem Grow.off {R H R' H' : Hp} (g : Grow R H R' H') {b : Addr} {o : HO} (h1 : R b = none) (h2 : H b = some o) : R' b = none := by
  cases z : R' b with
  | none => rfl
  | some o' =>
    have := g.fr b h1 (by rw [z]; exact fun e => nomatch e)
    rw [h2] at this
    cases this
section
variable {P : Program} {w : World} {K : PySem.W.Frag} {mg : Str → Option Value} {base : Heap} {S O HC NN : Addr}
def Kept (S O HC : Addr) (R H : Hp) (h d u : Addr) (cur : Rws) (hist : List Rws) (Q : Hp → Prop) : Prop :=
  ∀ (R' H' : Hp) (u' : Addr), Grow R H R' H' → (H u' = none ∨ u' = u) → (∀ b o, b ≠ h → b ≠ d → b ≠ u → H b = some o → H' b = some o) → (∀ b, H b ≠ none → H' b ≠ none) → HallAt S O HC R' H' h d u' cur hist → Q H'
def spKeep (S O HC : Addr) : Sp := fun vs H Q _ => ∃ (h d u rd : Addr) (dv : V) (R : Hp) (cur new : Rws) (hist : List Rws) (kvs : List (Key × V)), vs = [.ref h, dv, .ref rd] ∧ HallAt S O HC R H h d u cur hist ∧ H rd = some (.dK kvs) ∧ Paired (Ent S O R) kvs new ∧ RowsOk new ∧ R rd = none ∧ hist.length < 1000 ∧
  Kept S O HC R H h d u (slimR new) (hist ++ [cur]) fun H' => Q .non H'
theorem scKeep : FnScope ["self", "deed", "rows", "name", "parts"] ["self", "deed", "rows"] (defScope (inClass sHall 4)) := ⟨rfl, rfl, rfl, by decide +kernel, rfl, by decide +kernel, by decide +kernel⟩
def KeepAt (S O : Addr) (R HL : Hp) (D : Addr) (new : Rws) (i : Nat) (H' : Hp) : Prop :=
  ∃ (R' : Hp) (kvs' : List (Key × V)), Same HL H' ∧ Grow R HL R' H' ∧ R' D = none ∧ H' D = some (.dK kvs') ∧ Paired (Ent S O R') kvs' (slimR (new.take i))
theorem dKeep (T : Txt K mg S O HC NN) : DefM P w K mg base CX0 4 HC "s10_keep" ["self", "deed", "rows"] (spKeep S O HC) := by
  have D46 : Def P w K mg base CX0 3 "slim" ["parts"] (spSlim S O 2) := d46n T 2
  have nd := scKeep.nd
  refine T.hKeep.ok scKeep (fun vs H Q E h => ?_) (fun f cdv A outer s H vs Q E hr h => ?_)
  · obtain ⟨h, d, u, rd, dv, R, cur, new, hist, kvs, rfl, _⟩ := h
    rfl
  · obtain ⟨h, d, u, rd, dv, R, cur, new, hist, kvs, rfl, hA, hrd, hen, hok, nR, hl, q⟩ := h
    refine ⟨_, pss_cons (ps_expr (pe_bm PySem.F.plainAttrs_list PySem.F.slot_list_append PySem.F.type_list_append mt_append (pe_fld (pv 0) rfl) (pa_cons (pe_tup (pa_cons (pv 1) (pa_cons (pe_fld (pv 0) rfl) pa_nil))) pa_nil)))
      (pss_cons (ps_fld (pv 0) (pe_lst pa_nil) rfl)
      (pss_one (ps_fld (pv 0) (pe_lock (pe_dc (own := [("name", 3), ("parts", 4)]) (g := gTup K 2 (gCons (gName 3) (gCons (gName 4) gNil))) (tt := tYes) (tk := tVar 3) (tv := tCall (spSlim S O 2) [] E0 (tCons (tVar 4) tNil)) rfl nd (pi_items (pv 2))
        (blkOk_by (N := ["self", "deed", "rows", "name", "parts"]) (sc := defScope (inClass sHall 4)) (by decide +kernel))
        (fun _ _ _ _ _ => pg_tup rfl (pgs_cons (pg_name (i := 3) nd rfl (Or.inl rfl)) (pgs_cons (pg_name (i := 4) nd rfl (Or.inl rfl)) pgs_nil))) (fun _ _ _ _ _ => pts_nil)
        (fun _ _ _ _ _ => pv 3) (fun _ _ _ _ _ => cd D46 hr (by rfl) pass0 (pa_cons (pv 4) pa_nil)))) rfl))), ?_⟩
    obtain ⟨dx, r, hh, hcur⟩ := hA.ob
    obtain ⟨ds, us, hd, hdon, hu, hlen⟩ := hA.dn
    have ldn := hdon.length
    have nhd : h ≠ d := ne_of hh hd (by intro z; cases z)
    have nhr : h ≠ rd := ne_of hh hrd (by intro z; cases z)
    have ndr : d ≠ rd := ne_of hd hrd (by intro z; cases z)
    refine ⟨_, rfl, h, HC, dx, _, _, rfl, hh, T.cH, T.nHd, hf_done, .inl ⟨rfl, _, SqL.of hd⟩, ?_⟩
    refine ⟨_, rfl, _, rfl, h, HC, dx, _, _, rfl, hh, T.cH, T.nHr, hf_rows, (by show 2 ≤ sizeLine; decide), fun tp htp => ?_⟩
    have nht : h ≠ tp := ne_of_none hh htp
    have ndt : d ≠ tp := ne_of_none hd htp
    have nrt : rd ≠ tp := ne_of_none hrd htp
    have nut : u ≠ tp := ne_of_none hu htp
    refine ⟨d, ds, _, rfl, rfl, by rw [upd_ne ndt]; exact hd, small1000 (by omega), ?_⟩
    generalize hH2 : upd (upd H tp (.tup [dv, .ref r])) d (.lst (ds ++ [.ref tp])) = H2
    have h2h : H2 h = some (.ins HC dx (hf r d u)) := by rw [← hH2, upd_ne nhd, upd_ne nht]; exact hh
    have h2d : H2 d = some (.lst (ds ++ [.ref tp])) := by rw [← hH2, upd_same]
    have h2t : H2 tp = some (.tup [dv, .ref r]) := by rw [← hH2, upd_ne ndt.symm, upd_same]
    have h2o : ∀ b o, b ≠ d → H b = some o → H2 b = some o := fun b o hb e => by
      rw [← hH2, upd_ne hb, upd_ne (ne_of_none e htp)]
      exact e
    refine ⟨(by show 0 ≤ sizeLine; decide), fun u' hu' => ?_⟩
    have nhu' : h ≠ u' := ne_of_none h2h hu'
    have ndu' : d ≠ u' := ne_of_none h2d hu'
    have nru' : rd ≠ u' := ne_of_none (h2o _ _ ndr.symm hrd) hu'
    have ntu' : tp ≠ u' := ne_of_none h2t hu'
    refine ⟨_, rfl, h, HC, dx, _, rfl, by rw [upd_ne nhu']; exact h2h, T.cH, T.nHu, (by show 3 < 1000; decide), ?_⟩
    rw [hf_setU]
    generalize hH4 : upd (upd H2 u' (.lst [])) h (.ins HC dx (hf r d u')) = H4
    have h4h : H4 h = some (.ins HC dx (hf r d u')) := by rw [← hH4, upd_same]
    have h4u : H4 u' = some (.lst []) := by rw [← hH4, upd_ne nhu'.symm, upd_same]
    have h4o : ∀ b o, b ≠ h → H2 b = some o → H4 b = some o := fun b o hb e => by
      rw [← hH4, upd_ne hb, upd_ne (ne_of_none e hu')]
      exact e
    have h4rd : H4 rd = some (.dK kvs) := h4o _ _ nhr.symm (h2o _ _ ndr.symm hrd)
    refine ⟨rd, _, h4rd, True.intro, fun od => ?_⟩
    generalize hHL : upd H4 rd (.frz od (.dK kvs)) = HL
    have hLo : ∀ b o, b ≠ h → b ≠ d → b ≠ rd → H b = some o → HL b = some o := fun b o h1 h2 h3 e => by
      rw [← hHL, upd_ne h3]
      exact h4o _ _ h1 (h2o _ _ h2 e)
    have hLr : HL rd = some (.frz od (.dK kvs)) := by rw [← hHL, upd_same]
    have hLh : HL h = some (.ins HC dx (hf r d u')) := by rw [← hHL, upd_ne nhr]; exact h4h
    have hLd : HL d = some (.lst (ds ++ [.ref tp])) := by rw [← hHL, upd_ne ndr]; exact h4o _ _ nhd.symm h2d
    have hLu : HL u' = some (.lst []) := by rw [← hHL, upd_ne nru'.symm]; exact h4u
    have hLt : HL tp = some (.tup [dv, .ref r]) := by rw [← hHL, upd_ne nrt.symm]; exact h4o _ _ nht.symm h2t
    have hLn : ∀ b, HL b = none → H b = none := fun b e => by
      cases z : H b with
      | none => rfl
      | some o =>
        by_cases e1 : b = h
        · rw [e1, hLh] at e; cases e
        · by_cases e2 : b = d
          · rw [e2, hLd] at e; cases e
          · by_cases e3 : b = rd
            · rw [e3, hLr] at e; cases e
            · rw [hLo b o e1 e2 e3 z] at e; cases e
    have nRt : R tp = none := Same.free hA.sr htp
    have sR0 : Same R (upd R tp (.tup [dv, .ref r])) := Same.new nRt _
    generalize hR0 : upd R tp (.tup [dv, .ref r]) = R0 at sR0
    have R0t : R0 tp = some (.tup [dv, .ref r]) := by rw [← hR0, upd_same]
    have R0n : ∀ b, b ≠ tp → R b = none → R0 b = none := fun b hb e => by rw [← hR0, upd_ne hb]; exact e
    have s0L : Same R0 HL := fun b o e => by
      by_cases hb : b = tp
      · rw [hb, R0t] at e
        cases e
        rw [hb]
        exact hLt
      · rw [← hR0, upd_ne hb] at e
        have ne : ∀ c, R c = none → b ≠ c := fun c hc => ne_of_none e hc
        exact hLo b o (ne _ hA.nh) (ne _ hA.nd) (ne _ nR) (hA.sr _ _ e)
    have en0 := ents_mono sR0 hen
    have R0u : R0 u' = none := R0n _ ntu'.symm (by
      cases z : R u' with
      | none => rfl
      | some o =>
        have z2 := h2o u' o (ndu'.symm) (hA.sr _ _ z)
        rw [hu'] at z2
        cases z2)
    refine ⟨_, rfl, rd, od, kvs, rfl, hLr, fun D hD => dc_it walk_items (KeepAt S O R0 HL D new) ?_ ?_ ?_ ?_⟩
    · have nRD : R0 D = none := Same.free s0L hD
      exact ⟨R0, [], Same.new hD _, ⟨.refl R0, sameOff s0L nRD _, fun b h1 h2 => absurd h1 h2⟩, nRD, upd_same, .nil⟩
    · rintro i H' _ ⟨_, _, sm, _⟩
      exact sm _ _ hLr
    · rintro i x H' H3 hi ⟨R', kvs', sm, gr, nRD, hDk, hP⟩ ⟨Tp, kx, vx, rfl, nT, rfl, ek, ev⟩
      obtain ⟨kv, hkv⟩ : ∃ p, kvs[i]? = some p := ⟨kvs[i], List.getElem?_eq_getElem hi⟩
      change (kvs[i]?.map fun kv => kV kv.1) = some kx at ek
      change (kvs[i]?.map Prod.snd) = some vx at ev
      rw [hkv] at ek ev
      cases Option.some.inj ek
      cases Option.some.inj ev
      obtain ⟨p, hp, hE⟩ := paired_at en0 hkv
      obtain ⟨e1, a, vs, e2, ha, hPt⟩ := hE
      obtain ⟨fit, dep⟩ := hok.each p (List.mem_of_getElem? hp)
      have sT : Same H' (upd H' Tp (.tup [kV kv.1, kv.2])) := Same.new nT _
      refine ⟨Tp, _, rfl, SqT.of upd_same, rfl, _, _, rfl, _, _, rfl, rfl, rfl, tYes_i ?_⟩
      refine ⟨_, rfl, _, rfl, a, vs, p.2, R', by rw [e2] <;> rfl, gr.rh.trans sT, gr.rr _ _ ha, hPt.mono gr.rr, fit, dep, fun R2 H2' p2 ys s2 g2 hp2 hPb => ?_⟩
      have sm2 : Same HL H2' := (sm.trans sT).trans s2
      have nDT : D ≠ Tp := ne_of_none hDk nT
      have hDk2 : H2' D = some (.dK kvs') := s2 _ _ (sT _ _ hDk)
      have nR2 : R2 D = none := g2.off nRD (sT _ _ hDk)
      have lk := hP.length
      have fk : (slimR (new.take i)).length ≤ 100 := by
        unfold slimR
        rw [List.length_map, List.length_take]
        have := hok.few
        omega
      refine ⟨kvs', Sum.inr p.1, by show kV kv.1 = _; rw [e1], hDk2, small1000 (by omega), R2, _, fun c o e => ?_, ?_, nR2, upd_same, ?_⟩
      · rw [upd_ne (ne_of_none e hD)]
        exact sm2 c o e
      · have g := (gr.same sT).trans g2 fun c hc => Same.free (sm.trans sT) hc
        exact ⟨g.rr, sameOff g.rh nR2 _, g.fr⟩
      · rw [take_next hp]
        unfold slimR
        rw [List.map_append]
        exact ents_snoc (ents_mono g2.rr hP) (take_new hok.nd hp) hp2 hPb
    · rintro H' ⟨R', kvs', sm, gr, nRD, hDk, hP⟩
      rw [ents_len hen, List.take_length] at hP
      refine ⟨sm _ _ hLr, ?_⟩
      have nDr : D ≠ rd := (ne_of_none hLr hD).symm
      have nDh : D ≠ h := (ne_of_none hLh hD).symm
      have nDd : D ≠ d := (ne_of_none hLd hD).symm
      have nDu : D ≠ u' := (ne_of_none hLu hD).symm
      have nDt : D ≠ tp := (ne_of_none hLt hD).symm
      refine ⟨_, rfl, h, HC, dx, _, rfl, by rw [upd_ne nhr]; exact sm _ _ hLh, T.cH, T.nHr, (by show 3 < 1000; decide), ?_⟩
      rw [hf_setR]
      generalize hHf : upd (upd H' rd (.dK kvs)) h (.ins HC dx (hf D d u')) = Hf
      have fo : ∀ b o, b ≠ rd → b ≠ h → H' b = some o → Hf b = some o := fun b o h1 h2 e => by
        rw [← hHf, upd_ne h2, upd_ne h1]
        exact e
      have fh : Hf h = some (.ins HC dx (hf D d u')) := by rw [← hHf, upd_same]
      have fr : Hf rd = some (.dK kvs) := by rw [← hHf, upd_ne nhr.symm, upd_same]
      have offR : ∀ b o, b ≠ tp → R b = none → HL b = some o → R' b = none := fun b o hb h1 h2 => gr.off (R0n b hb h1) h2
      have rh' := offR _ _ nht hA.nh hLh
      have rd' := offR _ _ ndt hA.nd hLd
      have rr' := offR _ _ nrt nR hLr
      have ru' : R' u' = none := gr.off R0u hLu
      have sRf : Same R' (upd R' D (.dK kvs')) := Same.new nRD _
      generalize hRf : upd R' D (.dK kvs') = Rf at sRf
      have srf : Same Rf Hf := fun b o e => by
        by_cases hb : b = D
        · rw [hb, ← hRf, upd_same] at e
          cases e
          rw [hb]
          exact fo _ _ nDr nDh hDk
        · rw [← hRf, upd_ne hb] at e
          exact fo _ _ (ne_of_none e rr') (ne_of_none e rh') (gr.rh _ _ e)
      have RfD : Rf D = some (.dK kvs') := by rw [← hRf, upd_same]
      have Rfn : ∀ b, b ≠ D → R' b = none → Rf b = none := fun b hb e => by rw [← hRf, upd_ne hb]; exact e
      have s1 : Same R Rf := (sR0.trans gr.rr).trans sRf
      refine q Rf Hf u' ⟨s1, srf, fun b h1 h2 => ?_⟩ (.inl ?_) (fun b o h1 h2 h3 e => ?_) (fun b e => ?_) ⟨srf, ⟨dx, D, fh, kvs', RfD, ents_mono sRf hP⟩, ⟨ds ++ [.ref tp], [], fo _ _ ndr nhd.symm (sm _ _ hLd), ?_, fo _ _ nru'.symm nhu'.symm (sm _ _ hLu), ?_⟩, Rfn _ nDh.symm rh', Rfn _ nDd.symm rd', Rfn _ nDu.symm ru', ndu'⟩
      · by_cases hb : b = D
        · rw [hb]
          exact hLn _ hD
        · rw [← hRf, upd_ne hb] at h2
          by_cases ht : b = tp
          · rw [ht]
            exact htp
          · exact hLn _ (gr.fr b (R0n b ht h1) h2)
      · cases z : H u' with
        | none => rfl
        | some o =>
          rw [h2o u' o ndu'.symm z] at hu'
          cases hu'
      · by_cases e3 : b = rd
        · rw [e3] at e ⊢
          rw [hrd] at e
          cases e
          exact fr
        · exact fo _ _ e3 h1 (sm _ _ (hLo b o h1 h2 e3 e))
      · by_cases e1 : b = h
        · rw [e1, fh]; exact fun z => nomatch z
        · by_cases e3 : b = rd
          · rw [e3, fr]; exact fun z => nomatch z
          · cases z : H' b with
            | none => exact absurd (hLn b (Same.free sm z)) e
            | some o => rw [fo b o e3 e1 z]; exact fun z => nomatch z
      · exact (dons_mono s1 hdon).snoc ⟨tp, dv, r, rfl, sRf _ _ (gr.rr _ _ R0t), hcur.mono s1⟩
      · rw [List.length_append]
        show ds.length + 1 + 0 ≤ 1000
        omega
end
end Bo
end
section
/-! Boastrow: the hall's deeds. -/
namespace Bo
open PySem PySem.Spec L2
theorem Kept.pre {S O HC : Addr} {R H R5 H5 : Hp} {h d u : Addr} {cur : Rws} {hist : List Rws} {Q : Hp → Prop} (q : Kept S O HC R H h d u cur hist Q) (g : Grow R H R5 H5) (s : Same H H5) : Kept S O HC R5 H5 h d u cur hist Q :=
  fun R2 H2 u' g2 hu k ne hA => q R2 H2 u' (g.trans g2 fun c hc => Same.free s hc) (hu.imp (fun z => Same.free s z) id) (fun b o h1 h2 h3 e => k b o h1 h2 h3 (s b o e)) (fun b e => ne b fun z => e (Same.free s z)) hA
theorem HallAt.go {S O HC : Addr} {R R' H H' : Hp} {h d u : Addr} {cur : Rws} {hist : List Rws} (x : HallAt S O HC R H h d u cur hist) (g : Grow R H R' H') (s : Same H H') : HallAt S O HC R' H' h d u cur hist :=
  x.mono g.rr g.rh (fun b o _ e => s b o e) fun b h1 h2 => by
    cases z : H b with
    | none => exact absurd z h1
    | some o => exact g.off h2 z
theorem RowsOk.snoc {cur : Rws} {n : Str} {t : T} (h : RowsOk cur) (hn : getR cur n = none) (hl : cur.length < 100) (hF : Fit t) (hd : depth t ≤ 2) : RowsOk (cur ++ [(n, t)]) := by
  refine ⟨?_, by rw [List.length_append]; exact hl, fun p hp => ?_⟩
  · rw [List.map_append]
    refine List.nodup_append.mpr ⟨h.nd, by simp, fun a ha b hb => ?_⟩
    have hb : b = n := by simpa using hb
    rw [hb]
    intro e
    rw [e] at ha
    obtain ⟨p, hp, e2⟩ := List.mem_map.mp ha
    clear hp
    have : ∀ {rows : Rws}, n ∈ rows.map (·.1) → getR rows n ≠ none := fun {rows} => by
      induction rows with
      | nil => intro z; cases z
      | cons p r ih =>
        intro z
        by_cases q : p.1 = n
        · rw [getR_pos q]; exact fun z => nomatch z
        · rw [getR_neg q]
          refine ih ?_
          rw [List.map_cons] at z
          rcases List.mem_cons.mp z with z | z
          · exact absurd z.symm q
          · exact z
    exact this ha hn
  · rcases List.mem_append.mp hp with hp | hp
    · exact h.each p hp
    · have hp : p = (n, t) := by simpa using hp
      rw [hp]
      exact ⟨hF, hd⟩
theorem ents_put {S O : Addr} {R : Hp} {n : Str} {t : T} {a : Addr} {vs : List V} (ha : R a = some (.lst vs)) (hP : Parts S O R t vs) : ∀ {kvs : List (Key × V)} {rows : Rws}, Paired (Ent S O R) kvs rows →
    Paired (Ent S O R) (kvs.map fun kv => if kv.1 = Sum.inr n then (kv.1, V.ref a) else kv) (setR rows n t)
  | _, _, .nil => .nil
  | _, _, .cons (a := kv) (b := p) h r => by
    show Paired _ ((if kv.1 = Sum.inr n then (kv.1, V.ref a) else kv) :: _) ((if p.1 = n then (p.1, t) else p) :: _)
    refine .cons ?_ (ents_put ha hP r)
    obtain ⟨e, b, ws, e2, h1, h2⟩ := h
    by_cases q : p.1 = n
    · rw [if_pos q, if_pos (by rw [e, q])]
      exact ⟨by rw [e], a, vs, rfl, ha, hP⟩
    · rw [if_neg q, if_neg (by rw [e]; exact fun z => q (Sum.inr.inj z))]
      exact ⟨e, b, ws, e2, h1, h2⟩
theorem ents_set {S O : Addr} {R : Hp} {kvs : List (Key × V)} {rows : Rws} {n : Str} {t t' : T} {a : Addr} {vs : List V} (h : Paired (Ent S O R) kvs rows) (hn : getR rows n = some t') (ha : R a = some (.lst vs)) (hP : Parts S O R t vs) :
    Paired (Ent S O R) (putK kvs (Sum.inr n) (.ref a)) (setR rows n t) := by
  rcases ents_get (n := n) h with ⟨hg, _⟩ | ⟨t2, _, _, _, hv, _⟩
  · rw [hn] at hg
    cases hg
  · unfold putK
    rw [if_pos (by rw [valV_any, hv]; rfl)]
    exact ents_put ha hP h
theorem ents_drop {S O : Addr} {R : Hp} {n : Str} : ∀ {kvs : List (Key × V)} {rows : Rws}, Paired (Ent S O R) kvs rows → Paired (Ent S O R) (dropK kvs (Sum.inr n)) (dropR rows n)
  | _, _, .nil => .nil
  | _, _, .cons (a := kv) (b := p) h r => by
    have ih := ents_drop (n := n) r
    unfold dropK dropR at ih ⊢
    rw [List.filter_cons, List.filter_cons]
    by_cases q : p.1 = n
    · rw [if_neg (by rw [h.1, q]; simp), if_neg (by rw [q]; simp)]
      exact ih
    · rw [if_pos (by rw [h.1]; exact decide_eq_true fun z => q (Sum.inr.inj z)), if_pos (decide_eq_true q)]
      exact .cons h ih
theorem setR_keys (rows : Rws) (n : Str) (t : T) : (setR rows n t).map (·.1) = rows.map (·.1) := by
  unfold setR
  rw [List.map_map]
  refine List.map_congr_left fun p _ => ?_
  show (if p.1 = n then (p.1, t) else p).1 = p.1
  split <;> rfl
theorem RowsOk.set {rows : Rws} {n : Str} {t : T} (h : RowsOk rows) (hF : Fit t) (hd : depth t ≤ 2) : RowsOk (setR rows n t) := by
  refine ⟨by rw [setR_keys]; exact h.nd, by unfold setR; rw [List.length_map]; exact h.few, fun p hp => ?_⟩
  obtain ⟨q, hq, rfl⟩ := List.mem_map.mp hp
  by_cases e : q.1 = n
  · rw [if_pos e]
    exact ⟨hF, hd⟩
  · rw [if_neg e]
    exact h.each q hq
theorem RowsOk.drop {rows : Rws} {n : Str} (h : RowsOk rows) : RowsOk (dropR rows n) :=
  ⟨(List.filter_sublist.map _).nodup h.nd, Nat.le_trans (List.length_filter_le _ _) h.few, fun p hp => h.each p (List.mem_filter.mp hp).1⟩
theorem getR_set {rows : Rws} {n m : Str} {t : T} : getR (setR rows n t) m = if m = n then (getR rows n).map fun _ => t else getR rows m := by
  induction rows with
  | nil => split <;> rfl
  | cons p r ih =>
    show getR ((if p.1 = n then (p.1, t) else p) :: setR r n t) m = _
    by_cases e : p.1 = n
    · rw [if_pos e]
      by_cases q : m = n
      · rw [if_pos q, getR_pos (p := (p.1, t)) (show p.1 = m by rw [e, q]), getR_pos e]
        rfl
      · rw [if_neg q, getR_neg (p := (p.1, t)) (show ¬ p.1 = m by rw [e]; exact fun z => q z.symm), getR_neg (by rw [e]; exact fun z => q z.symm), ih, if_neg q]
    · rw [if_neg e]
      by_cases q : p.1 = m
      · have q2 : ¬ m = n := by rw [← q]; exact e
        rw [getR_pos q, if_neg q2, getR_pos q]
      · rw [getR_neg q, ih]
        by_cases q2 : m = n
        · rw [if_pos q2, if_pos q2, getR_neg e]
        · rw [if_neg q2, if_neg q2, getR_neg q]
theorem getR_drop {rows : Rws} {n m : Str} : getR (dropR rows n) m = if m = n then none else getR rows m := by
  induction rows with
  | nil => split <;> rfl
  | cons p r ih =>
    unfold dropR at ih ⊢
    rw [List.filter_cons]
    by_cases e : p.1 = n
    · rw [if_neg (by rw [e]; simp), ih]
      by_cases q : m = n
      · rw [if_pos q, if_pos q]
      · rw [if_neg q, if_neg q, getR_neg (by rw [e]; exact fun z => q z.symm)]
    · rw [if_pos (decide_eq_true e)]
      by_cases q : p.1 = m
      · rw [getR_pos q, if_neg (by rw [← q]; exact e), getR_pos q]
      · rw [getR_neg q, ih]
        by_cases q2 : m = n
        · rw [if_pos q2, if_pos q2]
        · rw [if_neg q2, if_neg q2, getR_neg q]
section
variable {P : Program} {w : World} {K : PySem.W.Frag} {mg : Str → Option Value} {base : Heap} {S O HC NN : Addr}

/-! ### begin -/
def spBegin (S O HC : Addr) : Sp := fun vs H Q _ => ∃ (h d u a : Addr) (n : Str) (xs : List V) (t : T) (R : Hp) (cur : Rws) (hist : List Rws), vs = [.ref h, .str n, .ref a] ∧ HallAt S O HC R H h d u cur hist ∧ R a = some (.lst xs) ∧ Items R t xs ∧ NameOk n ∧ getR cur n = none ∧
  RowsOk cur ∧ cur.length < 100 ∧ Fit t ∧ depth t ≤ 2 ∧ (ppl t : Int) ≤ 999999999999999999999999999999 ∧ hist.length < 1000 ∧ Kept S O HC R H h d u (slimR (cur ++ [(n, t)])) (hist ++ [cur]) fun H' => Q .non H'
theorem scBegin : FnScope ["self", "name", "long", "parts", "rows"] ["self", "name", "long"] (defScope (inClass sHall 5)) := ⟨rfl, rfl, rfl, by decide +kernel, rfl, by decide +kernel, by decide +kernel⟩
theorem dBegin (T : Txt K mg S O HC NN) : DefM P w K mg base CX0 11 HC "begin" ["self", "name", "long"] (spBegin S O HC) := by
  have DF : DefM P w K mg base CX0 3 HC "s10_free" ["self", "name"] (spFree S O HC) := dFree T
  have D26 : Def P w K mg base CX0 10 "parts_of" ["long"] (spPartsOf S O) := d26 T
  have DK : DefM P w K mg base CX0 4 HC "s10_keep" ["self", "deed", "rows"] (spKeep S O HC) := dKeep T
  have nd := scBegin.nd
  refine T.hBegin.ok scBegin (fun vs H Q E h => ?_) (fun f cdv A outer s H vs Q E hr h => ?_)
  · obtain ⟨h, d, u, a, n, xs, t, R, cur, hist, rfl, _⟩ := h
    rfl
  · obtain ⟨h, d, u, a, n, xs, t, R, cur, hist, rfl, hA, ha, hI, hn, hg, hok, hcl, hF, hd, hm, hl, q⟩ := h
    refine ⟨_, pss_cons (ps_expr (cm DF (pv 0) T.cH (hr.mono (by decide)) pass0 (pa_cons (pv 1) pa_nil)))
      (pss_cons (ps_set (i := 3) nd rfl (Or.inl rfl) (cd D26 hr (by rfl) pass0 (pa_cons (pv 2) pa_nil)))
      (pss_cons (ps_set (i := 4) nd rfl (Or.inl rfl) (pe_callTy call_dictD (by rfl) T.bDict (by decide +kernel) (pa_cons (pe_fld (pv 0) rfl) pa_nil)))
      (pss_cons (ps_dput (hu_of hr) (pv 4) (pv 1) (pv 3) rfl)
      (pss_one (ps_expr (cm DK (pv 0) T.cH (hr.mono (by decide)) pass0 (pa_cons (pe_tup (pa_cons pe_str (pa_cons (pv 1) (pa_cons (pv 3) pa_nil)))) (pa_cons (pv 4) pa_nil)))))))), ?_⟩
    obtain ⟨dx, r, hh, hcur⟩ := hA.ob
    refine ⟨_, rfl, h, dx, _, rfl, hh, hf_no (by decide +kernel) (by decide +kernel) (by decide +kernel), _, rfl, h, d, u, dx, r, n, R, cur, rfl, hA.sr, hh, hcur, hn, hg, fun H1 s1 => ?_⟩
    refine ⟨_, rfl, a, xs, t, R, rfl, hA.sr.trans s1, ha, hI, hF, hd, hm, fun R2 H2 p ys s2 g2 hp hP => ?_⟩
    have g02 : Grow R H R2 H2 := ⟨g2.rr, g2.rh, fun b h1 h2 => Same.free s1 (g2.fr b h1 h2)⟩
    have hA2 := hA.go g02 (s1.trans s2)
    obtain ⟨dx2, r2, hh2, kvs, hkv, hen⟩ := hA2.ob
    refine ⟨_, rfl, h, HC, dx2, _, _, rfl, hh2, T.cH, T.nHr, hf_rows, r2, kvs, rfl, .inl (hA2.sr _ _ hkv), fun rd hrd => ?_⟩
    have s3 : Same H2 (upd H2 rd (.dK kvs)) := Same.new hrd _
    have nRd : R2 rd = none := Same.free hA2.sr hrd
    have lk := ents_len hen
    refine ⟨_, rfl, _, rfl, _, rfl, rd, _, rfl, DPut.k (k := Sum.inr n) upd_same (small1000 (by rw [lk]; omega)), ?_⟩
    rw [upd_upd]
    generalize hH4 : upd H2 rd (.dK (putK kvs (Sum.inr n) (.ref p))) = H4
    have s4 : Same H2 H4 := fun b o e => by rw [← hH4, upd_ne (ne_of_none e hrd)]; exact e
    have h4 : H4 rd = some (.dK (putK kvs (Sum.inr n) (.ref p))) := by rw [← hH4, upd_same]
    refine ⟨_, rfl, h, dx2, _, rfl, s4 _ _ hh2, hf_no (by decide +kernel) (by decide +kernel) (by decide +kernel), ?_⟩
    refine ⟨_, rfl, _, rfl, (by show 3 ≤ sizeLine; decide), fun tp htp => ?_⟩
    have s5 : Same H4 (upd H4 tp (.tup [.str "begin", .str n, .ref p])) := Same.new htp _
    have s25 := s4.trans s5
    have g5 : Grow R H R2 (upd H4 tp (.tup [.str "begin", .str n, .ref p])) := g02.same s25
    refine ⟨_, rfl, h, d, u, rd, _, R2, cur, cur ++ [(n, t)], hist, _, rfl, hA2.same s25, s5 _ _ h4, ents_snoc hen hg hp hP, hok.snoc hg hcl hF hd, nRd, hl, ?_⟩
    exact q.pre g5 ((s1.trans s2).trans s25)

/-! ### undo -/
def spUndo (S O HC : Addr) : Sp := fun vs H Q _ => ∃ (h d u : Addr) (R : Hp) (cur old : Rws) (hist : List Rws), vs = [.ref h] ∧ HallAt S O HC R H h d u cur (hist ++ [old]) ∧ Kept S O HC R H h d u old hist fun H' => Q .non H'
theorem scUndo : FnScope ["self", "deed", "ahead"] ["self"] (defScope (inClass sHall 14)) := ⟨rfl, rfl, rfl, by decide +kernel, rfl, by decide +kernel, by decide +kernel⟩
theorem paired_snoc {α β : Type} {p : α → β → Prop} {y : β} : ∀ {xs : List α} {ys : List β}, Paired p xs (ys ++ [y]) → ∃ xs' x, xs = xs' ++ [x] ∧ Paired p xs' ys ∧ p x y
  | _, [], .cons h .nil => ⟨[], _, rfl, .nil, h⟩
  | _, _ :: ys, .cons h t => by
    obtain ⟨xs', x, e, h1, h2⟩ := paired_snoc (ys := ys) t
    exact ⟨_ :: xs', x, by rw [e] <;> rfl, .cons h h1, h2⟩
theorem dUndo (T : Txt K mg S O HC NN) : DefM P w K mg base CX0 1 HC "undo" ["self"] (spUndo S O HC) := by
  have nd := scUndo.nd
  refine T.hUndo.ok scUndo (fun vs H Q E h => ?_) (fun f cdv A outer s H vs Q E hr h => ?_)
  · obtain ⟨h, d, u, R, cur, old, hist, rfl, _⟩ := h
    rfl
  · obtain ⟨h, d, u, R, cur, old, hist, rfl, hA, q⟩ := h
    refine ⟨_, pss_cons (ps_if (pt_cmpR (op_eqNil (Nat.lt_of_le_of_lt (Nat.le_add_right _ _) hr.units)) (pe_fld (pv 0) rfl) (pe_lst pa_nil) (nomark _)) (pss_one ps_never) pss_nil)
      (pss_cons (ps_asg (pe_bm0 PySem.F.plainAttrs_list PySem.F.slot_list_pop PySem.F.type_list_pop mt_pop (pe_fld (pv 0) rfl)) (pg_tup (by rfl) (pgs_cons (pg_name (i := 1) nd rfl (Or.inl rfl)) (pgs_cons (pg_name (i := 2) nd rfl (Or.inl rfl)) pgs_nil))))
      (pss_cons (ps_expr (pe_bm PySem.F.plainAttrs_list PySem.F.slot_list_append PySem.F.type_list_append mt_append (pe_fld (pv 0) rfl) (pa_cons (pe_tup (pa_cons (pv 1) (pa_cons (pe_fld (pv 0) rfl) pa_nil))) pa_nil)))
      (pss_one (ps_fld (pv 0) (pv 2) rfl)))), ?_⟩
    obtain ⟨dx, r, hh, hcur⟩ := hA.ob
    obtain ⟨ds, us, hd, hdon, hu, hlen⟩ := hA.dn
    obtain ⟨ds', x, rfl, hdon', tq, dv, ro, rfl, htq, hold⟩ := paired_snoc hdon
    have nhd : h ≠ d := ne_of hh hd (by intro z; cases z)
    have nhu : h ≠ u := ne_of hh hu (by intro z; cases z)
    rw [List.length_append] at hlen
    have hlen : ds'.length + 1 + us.length ≤ 1000 := hlen
    refine ⟨_, rfl, h, HC, dx, _, _, rfl, hh, T.cH, T.nHd, hf_done, (by show 0 ≤ sizeLine; decide), fun e he => ?_⟩
    have s1 : Same H (upd H e (.lst [])) := Same.new he _
    refine ⟨d, e, _, rfl, rfl, SqL.of (s1 _ _ hd), SqL.of upd_same, _, rfl, ifF (by simp) ?_⟩
    generalize hH1 : upd H e (.lst []) = H1 at s1
    have htq1 := s1 _ _ (hA.sr _ _ htq)
    refine ⟨_, rfl, h, HC, dx, _, _, rfl, s1 _ _ hh, T.cH, T.nHd, hf_done, .inl ⟨rfl, _, SqL.of (s1 _ _ hd)⟩, d, _, .ref tq, rfl, rfl, s1 _ _ hd, by simp, ?_⟩
    rw [List.dropLast_concat]
    have ntd : tq ≠ d := ne_of_none htq hA.nd
    refine ⟨tq, _, rfl, SqT.of (by rw [upd_ne ntd]; exact htq1), rfl, _, _, rfl, _, _, rfl, rfl, ?_⟩
    generalize hH2 : upd H1 d (.lst ds') = H2
    have h2o : ∀ b o, b ≠ d → H1 b = some o → H2 b = some o := fun b o hb e => by rw [← hH2, upd_ne hb]; exact e
    have h2d : H2 d = some (.lst ds') := by rw [← hH2, upd_same]
    have h2h := h2o _ _ nhd (s1 _ _ hh)
    have h2u := h2o _ _ hA.du.symm (s1 _ _ hu)
    refine ⟨_, rfl, h, HC, dx, _, _, rfl, h2h, T.cH, T.nHu, hf_undone, .inl ⟨rfl, _, SqL.of h2u⟩, ?_⟩
    refine ⟨_, rfl, _, rfl, h, HC, dx, _, _, rfl, h2h, T.cH, T.nHr, hf_rows, (by show 2 ≤ sizeLine; decide), fun tp htp => ?_⟩
    have nut : u ≠ tp := ne_of_none h2u htp
    have nht : h ≠ tp := ne_of_none h2h htp
    have ndt : d ≠ tp := ne_of_none h2d htp
    refine ⟨u, us, _, rfl, rfl, by rw [upd_ne nut]; exact h2u, small1000 (by omega), ?_⟩
    generalize hH3 : upd (upd H2 tp (.tup [dv, .ref r])) u (.lst (us ++ [.ref tp])) = H3
    have h3o : ∀ b o, b ≠ u → H2 b = some o → H3 b = some o := fun b o hb e => by rw [← hH3, upd_ne hb, upd_ne (ne_of_none e htp)]; exact e
    have h3u : H3 u = some (.lst (us ++ [.ref tp])) := by rw [← hH3, upd_same]
    refine ⟨_, rfl, _, rfl, h, HC, dx, _, rfl, h3o _ _ nhu h2h, T.cH, T.nHr, (by show 3 < 1000; decide), ?_⟩
    rw [hf_setR]
    generalize hHf : upd H3 h (.ins HC dx (hf ro d u)) = Hf
    have fo : ∀ b o, b ≠ h → b ≠ d → b ≠ u → H b = some o → Hf b = some o := fun b o h1 h2 h3 e => by
      rw [← hHf, upd_ne h1]
      exact h3o _ _ h3 (h2o _ _ h2 (s1 _ _ e))
    have fh : Hf h = some (.ins HC dx (hf ro d u)) := by rw [← hHf, upd_same]
    have fd : Hf d = some (.lst ds') := by rw [← hHf, upd_ne nhd.symm]; exact h3o _ _ hA.du h2d
    have fu : Hf u = some (.lst (us ++ [.ref tp])) := by rw [← hHf, upd_ne nhu.symm]; exact h3u
    have sf : Same R Hf := fun b o e => fo b o (ne_of_none e hA.nh) (ne_of_none e hA.nd) (ne_of_none e hA.nu) (hA.sr _ _ e)
    refine q R Hf u ⟨.refl R, sf, fun b h1 h2 => absurd h1 h2⟩ (.inr rfl) fo (fun b e => ?_) ⟨sf, ⟨dx, ro, fh, hold⟩, ⟨ds', _, fd, hdon', fu, by rw [List.length_append]; show ds'.length + (us.length + 1) ≤ 1000; omega⟩, hA.nh, hA.nd, hA.nu, hA.du⟩
    by_cases e1 : b = h
    · rw [e1, fh]; exact fun z => nomatch z
    · by_cases e2 : b = d
      · rw [e2, fd]; exact fun z => nomatch z
      · by_cases e3 : b = u
        · rw [e3, fu]; exact fun z => nomatch z
        · cases z : H b with
          | none => exact absurd z e
          | some o => rw [fo b o e1 e2 e3 z]; exact fun z => nomatch z

/-! ### names, total, least -/
def spNames (S O HC : Addr) : Sp := fun vs H Q _ => ∃ (h d u : Addr) (R : Hp) (cur : Rws) (hist : List Rws), vs = [.ref h] ∧ HallAt S O HC R H h d u cur hist ∧ cur.length < 64 ∧
  ∀ (ys : List Str) (p : Addr), ys.Perm (cur.map (·.1)) → PyProof.Rows.sortedS ys = true → H p = none → Q (.ref p) (upd H p (.lst (ys.map V.str)))
theorem scNames : FnScope ["self"] ["self"] (defScope (inClass sHall 16)) := ⟨rfl, rfl, rfl, by decide +kernel, rfl, by decide +kernel, by decide +kernel⟩
theorem dNames (T : Txt K mg S O HC NN) : DefM P w K mg base CX0 1 HC "names" ["self"] (spNames S O HC) := by
  refine T.hNames.ok scNames (fun vs H Q E h => ?_) (fun f cdv A outer s H vs Q E hr h => ?_)
  · obtain ⟨h, d, u, R, cur, hist, rfl, _⟩ := h
    rfl
  · obtain ⟨h, d, u, R, cur, hist, rfl, hA, hl, q⟩ := h
    refine ⟨_, pss_one (ps_ret (pe_callB (call_sortedD rfl) (by rfl) T.bSorted (by decide +kernel) (pa_cons (pe_fld (pv 0) rfl) pa_nil))), ?_⟩
    obtain ⟨dx, r, hh, kvs, hkv, hen⟩ := hA.ob
    refine ⟨_, rfl, h, HC, dx, _, _, rfl, hh, T.cH, T.nHr, hf_rows, r, kvs, cur.map (·.1), rfl, .inl (hA.sr _ _ hkv), ?_, by rw [List.length_map]; exact hl, fun ys p h1 h2 h3 => q ys p h1 h2 h3⟩
    rw [ents_keys hen, List.map_map]
    rfl
def spTotal (S O HC : Addr) : Sp := fun vs H Q _ => ∃ (h d u : Addr) (n : Str) (c : Int) (t : T) (R : Hp) (cur : Rws) (hist : List Rws), vs = [.ref h, .str n, .int c] ∧ HallAt S O HC R H h d u cur hist ∧ NameOk n ∧ getR cur n = some t ∧ Fit t ∧ depth t ≤ 2 ∧ 0 ≤ c ∧
  ∀ H' : Hp, Same H H' → Q (.int (F t c)) H'
theorem scTotal : FnScope ["self", "name", "company", "parts"] ["self", "name", "company"] (defScope (inClass sHall 18)) := ⟨rfl, rfl, rfl, by decide +kernel, rfl, by decide +kernel, by decide +kernel⟩
theorem dTotal (T : Txt K mg S O HC NN) : DefM P w K mg base CX0 8 HC "total" ["self", "name", "company"] (spTotal S O HC) := by
  have DP : DefM P w K mg base (L2.CX P w) 3 HC "s10_parts" ["self", "name"] (spParts S O HC NN) := dParts T
  have D13 : Def P w K mg base CX0 2 "need_number" ["thing"] spNeedNumber := d13 T
  have D38 : Def P w K mg base CX0 7 "total_of" ["parts", "number"] (spTotalOf S O) := d38 T
  have nd := scTotal.nd
  refine T.hTotal.ok scTotal (fun vs H Q E h => ?_) (fun f cdv A outer s H vs Q E hr h => ?_)
  · obtain ⟨h, d, u, n, c, t, R, cur, hist, rfl, _⟩ := h
    rfl
  · obtain ⟨h, d, u, n, c, t, R, cur, hist, rfl, hA, hn, hg, hF, hd, hc, q⟩ := h
    refine ⟨_, pss_cons (ps_set (i := 3) nd rfl (Or.inl rfl) (cm DP (pv 0) T.cH (hr.mono (by decide)) passL (pa_cons (pv 1) pa_nil)))
      (pss_cons (ps_expr (cd D13 (hr.mono (by decide)) (by rfl) pass0 (pa_cons (pv 2) pa_nil)))
      (pss_one (ps_ret (cd D38 hr (by rfl) pass0 (pa_cons (pv 3) (pa_cons (pv 2) pa_nil)))))), ?_⟩
    obtain ⟨dx, r, hh, hcur⟩ := hA.ob
    refine ⟨_, rfl, h, dx, _, rfl, hh, hf_no (by decide +kernel) (by decide +kernel) (by decide +kernel), _, rfl, h, d, u, dx, r, n, R, cur, rfl, hA.sr, hh, hcur, .inl ⟨t, hn, hg, fun H1 a xs s1 ha hP => ?_⟩⟩
    refine ⟨_, rfl, c, rfl, hc, ?_⟩
    exact ⟨_, rfl, _, rfl, a, xs, t, c, rfl, s1 _ _ (hA.sr _ _ ha), hP.mono (hA.sr.trans s1), hF, hd, fun H2 s2 => q H2 (s1.trans s2)⟩
def spLeast (S O HC : Addr) : Sp := fun vs H Q _ => ∃ (h d u : Addr) (n : Str) (c : Int) (t : T) (R : Hp) (cur : Rws) (hist : List Rws), vs = [.ref h, .str n, .int c] ∧ HallAt S O HC R H h d u cur hist ∧ NameOk n ∧ getR cur n = some t ∧ Fit t ∧ depth t ≤ 2 ∧ 0 ≤ c ∧
  ∀ H' : Hp, Same H H' → Q (.int (G t c)) H'
theorem scLeast : FnScope ["self", "name", "total", "parts"] ["self", "name", "total"] (defScope (inClass sHall 19)) := ⟨rfl, rfl, rfl, by decide +kernel, rfl, by decide +kernel, by decide +kernel⟩
theorem dLeast (T : Txt K mg S O HC NN) : DefM P w K mg base CX0 7 HC "least" ["self", "name", "total"] (spLeast S O HC) := by
  have DP : DefM P w K mg base (L2.CX P w) 3 HC "s10_parts" ["self", "name"] (spParts S O HC NN) := dParts T
  have D13 : Def P w K mg base CX0 2 "need_number" ["thing"] spNeedNumber := d13 T
  have D36 : Def P w K mg base CX0 6 "wished" ["parts", "wish"] (spWished S O 2) := d36n T 2
  have nd := scLeast.nd
  refine T.hLeast.ok scLeast (fun vs H Q E h => ?_) (fun f cdv A outer s H vs Q E hr h => ?_)
  · obtain ⟨h, d, u, n, c, t, R, cur, hist, rfl, _⟩ := h
    rfl
  · obtain ⟨h, d, u, n, c, t, R, cur, hist, rfl, hA, hn, hg, hF, hd, hc, q⟩ := h
    refine ⟨_, pss_cons (ps_set (i := 3) nd rfl (Or.inl rfl) (cm DP (pv 0) T.cH (hr.mono (by decide)) passL (pa_cons (pv 1) pa_nil)))
      (pss_cons (ps_expr (cd D13 (hr.mono (by decide)) (by rfl) pass0 (pa_cons (pv 2) pa_nil)))
      (pss_one (ps_ret (pe_ix ix_tup (cd D36 hr (by rfl) pass0 (pa_cons (pv 3) (pa_cons (pv 2) pa_nil))) pe_int (fun _ _ => rfl))))), ?_⟩
    obtain ⟨dx, r, hh, hcur⟩ := hA.ob
    refine ⟨_, rfl, h, dx, _, rfl, hh, hf_no (by decide +kernel) (by decide +kernel) (by decide +kernel), _, rfl, h, d, u, dx, r, n, R, cur, rfl, hA.sr, hh, hcur, .inl ⟨t, hn, hg, fun H1 a xs s1 ha hP => ?_⟩⟩
    refine ⟨_, rfl, c, rfl, hc, ?_⟩
    refine ⟨_, rfl, _, rfl, a, xs, t, c, rfl, s1 _ _ (hA.sr _ _ ha), hP.mono (hA.sr.trans s1), hF, hd, fun H2 tp s s2 htp _ => ?_⟩
    exact ⟨tp, _, _, _, rfl, rfl, SqT.of htp, at_of (j := 0) rfl rfl, q H2 (s1.trans s2)⟩
end
end Bo
end
section
/-! Boastrow: the hall's deeds: join_to, together. -/
namespace Bo
open PySem PySem.Spec L2
section
variable {P : Program} {w : World} {K : PySem.W.Frag} {mg : Str → Option Value} {base : Heap} {S O HC NN : Addr}
def spJoin (S O HC : Addr) : Sp := fun vs H Q _ => ∃ (h d u : Addr) (n m : Str) (t v : T) (R : Hp) (cur : Rws) (hist : List Rws), vs = [.ref h, .str n, .str m] ∧ HallAt S O HC R H h d u cur hist ∧ NameOk n ∧ NameOk m ∧ n ≠ m ∧ getR cur n = some t ∧ getR cur m = some v ∧
  RowsOk cur ∧ Fit (app t v) ∧ ((ppl t : Int) + ppl v ≤ 999999999999999999999999999999) ∧ hist.length < 1000 ∧ Kept S O HC R H h d u (slimR (dropR (setR cur n (app t v)) m)) (hist ++ [cur]) fun H' => Q .non H'
theorem scJoin : FnScope ["self", "name", "other", "parts", "more", "rows"] ["self", "name", "other"] (defScope (inClass sHall 10)) := ⟨rfl, rfl, rfl, by decide +kernel, rfl, by decide +kernel, by decide +kernel⟩
theorem dJoin (T : Txt K mg S O HC NN) : DefM P w K mg base CX0 5 HC "join_to" ["self", "name", "other"] (spJoin S O HC) := by
  have DP : DefM P w K mg base (L2.CX P w) 3 HC "s10_parts" ["self", "name"] (spParts S O HC NN) := dParts T
  have D20 : Def P w K mg base CX0 1 "laid_many" ["parts"] (spLaidMany S O) := d20 T
  have D45 : Def P w K mg base CX0 1 "need_few" ["many"] spNeedFew := d45 T
  have DK : DefM P w K mg base CX0 4 HC "s10_keep" ["self", "deed", "rows"] (spKeep S O HC) := dKeep T
  have nd := scJoin.nd
  refine T.hJoin.ok scJoin (fun vs H Q E h => ?_) (fun f cdv A outer s H vs Q E hr h => ?_)
  · obtain ⟨h, d, u, n, m, t, v, R, cur, hist, rfl, _⟩ := h
    rfl
  · obtain ⟨h, d, u, n, m, t, v, R, cur, hist, rfl, hA, hn, hm, nnm, hgt, hgv, hok, hF, hp, hl, q⟩ := h
    refine ⟨_, pss_cons (ps_par (i := 3) (j := 4) rfl nd rfl rfl (by decide) rfl rfl (pa_cons (cm DP (pv 0) T.cH (hr.mono (by decide)) passL (pa_cons (pv 1) pa_nil)) (pa_cons (cm DP (pv 0) T.cH (hr.mono (by decide)) passL (pa_cons (pv 2) pa_nil)) pa_nil)) (by rfl))
      (pss_cons (ps_if (pt_cmpR op_eq (pv 1) (pv 2) (nomark _)) (pss_one ps_never) pss_nil)
      (pss_cons (ps_expr (cd D45 (hr.mono (by decide)) (by rfl) pass0 (pa_cons (pe_op op_add (cd D20 (hr.mono (by decide)) (by rfl) pass0 (pa_cons (pv 3) pa_nil)) (cd D20 (hr.mono (by decide)) (by rfl) pass0 (pa_cons (pv 4) pa_nil))) pa_nil)))
      (pss_cons (ps_set (i := 5) nd rfl (Or.inl rfl) (pe_callTy call_dictD (by rfl) T.bDict (by decide +kernel) (pa_cons (pe_fld (pv 0) rfl) pa_nil)))
      (pss_cons (ps_dput (hu_of hr) (pv 5) (pv 1) (pe_op op_cat (pv 3) (pv 4)) rfl)
      (pss_cons (ps_expr (pe_dpop1 (pv 5) (pv 2) ⟨rfl, rfl, rfl, rfl⟩))
      (pss_one (ps_expr (cm DK (pv 0) T.cH hr pass0 (pa_cons (pe_tup (pa_cons pe_str (pa_cons (pv 1) (pa_cons (pv 2) pa_nil)))) (pa_cons (pv 5) pa_nil)))))))))), ?_⟩
    obtain ⟨dx, r, hh, hcur⟩ := hA.ob
    have no : ∀ {r d u : Addr}, (hf r d u).lookup ("s10_parts" : Str) = none := hf_no (by decide +kernel) (by decide +kernel) (by decide +kernel)
    have no2 : ∀ {r d u : Addr}, (hf r d u).lookup ("s10_keep" : Str) = none := hf_no (by decide +kernel) (by decide +kernel) (by decide +kernel)
    refine ⟨_, rfl, h, dx, _, rfl, hh, no, _, rfl, h, d, u, dx, r, n, R, cur, rfl, hA.sr, hh, hcur, .inl ⟨t, hn, hgt, fun H1 a xs s1 ha hPa => ?_⟩⟩
    have hR1 := hA.sr.trans s1
    refine ⟨_, rfl, h, dx, _, rfl, s1 _ _ hh, no, _, rfl, h, d, u, dx, r, m, R, cur, rfl, hR1, s1 _ _ hh, hcur, .inl ⟨v, hm, hgv, fun H2 b ys s2 hb hPb => ?_⟩⟩
    have s02 := s1.trans s2
    have hR2 := hA.sr.trans s02
    refine ⟨_, _, rfl, ?_⟩
    refine ⟨_, rfl, _, rfl, rfl, _, rfl, ifF (decide_eq_false fun z => nnm (V.str.inj z)) ?_⟩
    have hz := hF.sz
    rw [size_app] at hz
    have l1 := len_le t
    have l2 := len_le v
    refine ⟨_, rfl, a, xs, t, rfl, hR2 _ _ ha, hPa.mono hR2, by omega, fun H3 s3 => ?_⟩
    refine ⟨_, rfl, b, ys, v, rfl, s3 _ _ (hR2 _ _ hb), hPb.mono (hR2.trans s3), by omega, fun H4 s4 => ?_⟩
    refine ⟨_, _, rfl, rfl, _, rfl, hp, ?_⟩
    have s04 := (s02.trans s3).trans s4
    have hA4 := hA.same s04
    have hh4 := s04 _ _ hh
    obtain ⟨kvs, hkv, hen⟩ := hcur
    have lk := ents_len hen
    have few := hok.few
    refine ⟨_, rfl, h, HC, dx, _, _, rfl, hh4, T.cH, T.nHr, hf_rows, r, kvs, rfl, .inl (hA4.sr _ _ hkv), fun rd hrd => ?_⟩
    have nRd : R rd = none := Same.free hA4.sr hrd
    have s5 : Same H4 (upd H4 rd (.dK kvs)) := Same.new hrd _
    generalize hH5 : upd H4 rd (.dK kvs) = H5 at s5
    have h5 : H5 rd = some (.dK kvs) := by rw [← hH5, upd_same]
    have ha5 := s5 _ _ (hA4.sr _ _ ha)
    have hb5 := s5 _ _ (hA4.sr _ _ hb)
    have e1 := hPa.len
    have e2 := hPb.len
    refine ⟨_, rfl, _, rfl, a, b, xs, ys, rfl, rfl, ha5, hb5, small (by omega), fun p hp => ?_⟩
    have nrp : rd ≠ p := ne_of_none h5 hp
    have np4 : H4 p = none := Same.free s5 hp
    have nRp : R p = none := Same.free hA4.sr np4
    refine ⟨_, rfl, _, rfl, rd, _, rfl, DPut.k (k := Sum.inr n) (by rw [upd_ne nrp]; exact h5) (small1000 (by rw [lk]; omega)), ?_⟩
    refine ⟨_, rfl, rd, rfl, .inl ⟨_, .inl upd_same⟩, _, rfl, ?_⟩
    -- what the dict holds
    have sR : Same R (upd R p (.lst (xs ++ ys))) := Same.new nRp _
    generalize hR5 : upd R p (.lst (xs ++ ys)) = R5 at sR
    have R5p : R5 p = some (.lst (xs ++ ys)) := by rw [← hR5, upd_same]
    have R5r : R5 rd = none := by rw [← hR5, upd_ne nrp]; exact nRd
    have en5 : Paired (Ent S O R5) (putK kvs (Sum.inr n) (.ref p)) (setR cur n (app t v)) := ents_set (ents_mono sR hen) hgt R5p ((hPa.mono sR).app (hPb.mono sR))
    have en6 := ents_drop (n := m) en5
    rcases ents_get (n := m) en5 with ⟨hg, _⟩ | ⟨_, mv, _, _, hmv, _⟩
    · rw [getR_set, if_neg nnm.symm, hgv] at hg
      cases hg
    refine ⟨_, Sum.inr m, _, upd_same, rfl, hmv, ?_⟩
    rw [upd_upd]
    generalize hH6 : upd (upd H5 p (.lst (xs ++ ys))) rd (.dK (dropK (putK kvs (Sum.inr n) (.ref p)) (Sum.inr m))) = H6
    have s46 : Same H4 H6 := fun c o e => by
      rw [← hH6, upd_ne (ne_of_none e hrd), upd_ne (ne_of_none e np4)]
      exact s5 _ _ e
    have h6 : H6 rd = some (.dK (dropK (putK kvs (Sum.inr n) (.ref p)) (Sum.inr m))) := by rw [← hH6, upd_same]
    have h6p : H6 p = some (.lst (xs ++ ys)) := by rw [← hH6, upd_ne nrp.symm, upd_same]
    have s06 := s04.trans s46
    have g6 : Grow R H R5 H6 := by
      rw [← hR5]
      exact (Grow.refl hA.sr).same s06 |>.add h6p nRp (Same.free s04 np4)
    refine ⟨_, rfl, h, dx, _, rfl, s46 _ _ hh4, no2, ?_⟩
    refine ⟨_, rfl, _, rfl, (by show 3 ≤ sizeLine; decide), fun tp htp => ?_⟩
    have s7 : Same H6 (upd H6 tp (.tup [.str "join_to", .str n, .str m])) := Same.new htp _
    refine ⟨_, rfl, h, d, u, rd, _, R5, cur, dropR (setR cur n (app t v)) m, hist, _, rfl, (hA.go g6 s06).same s7, s7 _ _ h6, en6, (hok.set hF ?_).drop, R5r, hl, q.pre (g6.same s7) (s06.trans s7)⟩
    obtain ⟨_, d1⟩ := hok.each _ (getR_mem hgt)
    obtain ⟨_, d2⟩ := hok.each _ (getR_mem hgv)
    rw [depth_app]
    exact Nat.max_le.mpr ⟨d1, d2⟩
def Ftot (cur : Rws) (ns : List Str) (c : Int) : Int := ns.foldr (fun n x => F ((getR cur n).getD .nil) x) c
end
end Bo
end
section
/-! Boastrow: together. -/
namespace Bo
open PySem PySem.Spec L2
/-- either way of going over it -/
theorem pi_or {X : Cx} {tg e : Expr} {t1 t2 : TI} (h1 : PI X tg e t1) (h2 : PI X tg e t2) : PI X tg e (fun σ H R => t1 σ H R ∨ t2 σ H R) :=
  ⟨fun pins s σ H R I h => h.elim (h1.run pins s σ H R I) (h2.run pins s σ H R I)⟩
theorem paired_r {α β : Type} {p : α → β → Prop} : ∀ {xs : List α} {ys : List β} {i : Nat} {y : β}, Paired p xs ys → ys[i]? = some y → ∃ x, xs[i]? = some x ∧ p x y
  | _, _, 0, y, .cons h t, e => ⟨_, rfl, by cases e; exact h⟩
  | _, _, i + 1, y, .cons h t, e => by
    rw [List.getElem?_cons_succ] at e
    obtain ⟨x, e2, h2⟩ := paired_r t e
    exact ⟨x, by rw [List.getElem?_cons_succ]; exact e2, h2⟩
theorem or_go {K : PySem.W.Frag} {a : Addr} {xs : List V} {k : Nat} {σ : St} {H : Hp} {R : It → Hp → Prop} (hk : σ[k]? = some (some (.ref a))) (ha : H a = some (.lst xs) ∨ H a = some (.tup xs))
    (h : ∀ (J : It) (G : Hp → Prop), Walk J xs.length G (YAt xs) → (∀ H', Same H H' → G H') → R J H) : iList K (tVar k) σ H R ∨ iTup K (tVar k) σ H R := by
  rcases ha with ha | ha
  · exact .inl ⟨_, hk, a, rfl, ⟨xs, SqL.of ha⟩, h _ _ (walk_list (K := K) (a := a)) fun H' s => SqL.of (s _ _ ha)⟩
  · exact .inr ⟨_, hk, a, rfl, ⟨xs, SqT.of ha⟩, h _ _ (walk_tup (K := K) (a := a)) fun H' s => SqT.of (s _ _ ha)⟩
section
variable {P : Program} {w : World} {K : PySem.W.Frag} {mg : Str → Option Value} {base : Heap} {S O HC NN : Addr}
/-- a list or a tuple of names -/
def NamesAt (H : Hp) (a : Addr) (ns : List Str) : Prop := H a = some (.lst (ns.map V.str)) ∨ H a = some (.tup (ns.map V.str))
def Good (cur : Rws) (n : Str) : Prop := NameOk n ∧ ∃ t, getR cur n = some t
def spTogether (S O HC NN : Addr) : Sp := fun vs H Q E => ∃ (h d u a : Addr) (ns : List Str) (c : Int) (R : Hp) (cur : Rws) (hist : List Rws), vs = [.ref h, .ref a, .int c] ∧ HallAt S O HC R H h d u cur hist ∧ NamesAt R a ns ∧ ns.length ≤ 100 ∧ RowsOk cur ∧ (∀ n ∈ ns, NameOk n ∨ n.length = 0) ∧
  (((∀ n ∈ ns, Good cur n) ∧ 0 ≤ c ∧ ∀ H' : Hp, Same H H' → Q (.int (Ftot cur ns c)) H') ∨ ((∃ n ∈ ns, ¬ Good cur n) ∧ ∀ H' : Hp, Same H H' → E (.ref NN) none H'))
theorem scTogether : FnScope ["self", "names", "company", "rows", "found", "parts", "name"] ["self", "names", "company"] (defScope (inClass sHall 23)) := ⟨rfl, rfl, rfl, by decide +kernel, rfl, by decide +kernel, by decide +kernel⟩
theorem ftot_snoc (cur : Rws) (ns : List Str) (n : Str) (c : Int) : Ftot cur (ns ++ [n]) c = Ftot cur ns (F ((getR cur n).getD .nil) c) := by
  unfold Ftot
  rw [List.foldr_append]
  rfl
theorem ftot_app (cur : Rws) (ns ms : List Str) (c : Int) : Ftot cur (ns ++ ms) c = Ftot cur ns (Ftot cur ms c) := by
  unfold Ftot
  rw [List.foldr_append]
/-- a row's parts, by the row's name -/
def RowV (S O : Addr) (R : Hp) (cur : Rws) (v : V) (n : Str) : Prop := ∃ a xs t, v = .ref a ∧ NameOk n ∧ getR cur n = some t ∧ R a = some (.lst xs) ∧ Parts S O R t xs
def TogAt (S O : Addr) (R H0 : Hp) (D : Addr) (cur : Rws) (ns : List Str) (i : Nat) (H' : Hp) : Prop := ∃ vs, Same H0 H' ∧ H' D = some (.lst vs) ∧ Paired (RowV S O R cur) vs (ns.take i)
theorem dTogether (T : Txt K mg S O HC NN) : DefM P w K mg base (L2.CX P w) 8 HC "together" ["self", "names", "company"] (spTogether S O HC NN) := by
  have DP : DefM P w K mg base (L2.CX P w) 3 HC "s10_parts" ["self", "name"] (spParts S O HC NN) := dParts T
  have D13 : Def P w K mg base CX0 2 "need_number" ["thing"] spNeedNumber := d13 T
  have D38 : Def P w K mg base CX0 7 "total_of" ["parts", "number"] (spTotalOf S O) := d38 T
  have nd := scTogether.nd
  refine T.hTogether.okX scTogether (fun vs H Q E h => ?_) (fun f cdv A outer s H vs Q E hr h => ?_)
  · obtain ⟨h, d, u, a, ns, c, R, cur, hist, rfl, _⟩ := h
    rfl
  · obtain ⟨h, d, u, a, ns, c, R, cur, hist, rfl, hA, hN, hl, hok, hnm, hw⟩ := h
    refine ⟨_, pss_cons (ps_if (pt_not (pt_val (pe_callB call_isiT (by rfl) T.bIsi (by decide +kernel) (pa_cons (pv 1) (pa_cons (pe_tup (pa_cons (pe_bltn (v := .ty "list") (by rfl) T.bList (by decide +kernel) rfl)
        (pa_cons (pe_bltn (v := .ty "tuple") (by rfl) T.bTuple (by decide +kernel) rfl) pa_nil))) pa_nil))))) (pss_one ps_never) pss_nil)
      (pss_cons (ps_setLcX (i := 3) (Eo := E) (own := [("name", 6)]) (g := gName 6) (tt := tYes) (te := tMeth HC "s10_parts" (spParts S O HC NN) [] E (tVar 0) (tCons (tVar 6) tNil)) rfl nd rfl rfl (takes_of rfl rfl rfl rfl) rfl rfl (by rfl) (pi_or (pi_list (pv 1)) (pi_tup (pv 1)))
        (blkOk_by (N := ["self", "names", "company", "rows", "found", "parts", "name"]) (sc := defScope (inClass sHall 23)) (by decide +kernel)) (fun _ _ _ _ _ => pg_name (i := 6) nd rfl (Or.inl rfl)) (fun _ _ _ _ _ => pts_nil)
        (fun _ _ _ _ _ xe hx => cm DP (pv 0) T.cH (hr.mono (by decide)) hx (pa_cons (pv 6) pa_nil)))
      (pss_cons (ps_expr (cd D13 (hr.mono (by decide)) (by rfl) pass0 (pa_cons (pv 2) pa_nil)))
      (pss_cons (ps_set (i := 4) nd rfl (Or.inl rfl) (pv 2))
      (pss_cons (ps_for (passes_of rfl) rfl (pi_list (pe_revL (pv 3))) (pg_name (i := 5) nd rfl (Or.inl rfl)) (pss_one (ps_set (i := 4) nd rfl (Or.inl rfl) (cd D38 hr (by rfl) pass0 (pa_cons (pv 5) (pa_cons (pv 4) pa_nil))))))
      (pss_one (ps_ret (pv 4))))))), ?_⟩
    obtain ⟨dx, r, hh, hcur⟩ := hA.ob
    have no : ∀ {r d u : Addr}, (hf r d u).lookup ("s10_parts" : Str) = none := hf_no (by decide +kernel) (by decide +kernel) (by decide +kernel)
    have hNH : NamesAt H a ns := hN.imp (hA.sr _ _) (hA.sr _ _)
    refine ⟨_, rfl, (by show 2 ≤ sizeLine; decide), fun tp htp => ?_⟩
    have s0 : Same H (upd H tp (.tup [.ty "list", .ty "tuple"])) := Same.new htp _
    have hN1 : NamesAt (upd H tp (.tup [.ty "list", .ty "tuple"])) a ns := hNH.imp (s0 _ _) (s0 _ _)
    have hty : ∃ tv, TyX K (upd H tp (.tup [.ty "list", .ty "tuple"])) (.ref a) tv ∧ PySem.W.kitAny K tv [.type "list", .type "tuple"] = some true := by
      rcases hN1 with e | e
      · exact ⟨_, .base (.lst e), kitAny_cons (b := true) (kit_ty (a := "list") (b := "list") (by decide +kernel)) (fun z => Bool.noConfusion z) (fun _ => rfl)⟩
      · exact ⟨_, .base (.tup e), kitAny_cons (b := false) (kit_ty (a := "tuple") (b := "list") (by decide +kernel)) (fun _ => kitAny_cons (b := true) (kit_ty (a := "tuple") (b := "tuple") (by decide +kernel)) (fun z => Bool.noConfusion z) (fun _ => rfl)) (fun z => Bool.noConfusion z)⟩
    obtain ⟨tv, ht1, ht2⟩ := hty
    refine ⟨_, tp, _, tv, _, true, rfl, upd_same, .cons (.ty "list") (.cons (.ty "tuple") .nil), ht1, ht2, _, rfl, iteF ?_⟩
    generalize hH1 : upd H tp (.tup [.ty "list", .ty "tuple"]) = H1 at s0 hN1
    clear ht1
    have hR1 := hA.sr.trans s0
    refine or_go (K := K) (k := 1) (a := a) (σ := [some (.ref h), some (.ref a), some (.int c), none, none, none, none]) rfl hN1 fun J G wk hG D hD => ?_
    refine lc_it wk (TogAt S O R H1 D cur ns) ?_ ?_ ?_ ?_
    · exact ⟨[], Same.new hD _, upd_same, .nil⟩
    · rintro i H' _ ⟨vs, sm, _⟩
      exact hG H' sm
    · rintro i x H' H2 hi ⟨vs, sm, hd, hP⟩ ⟨rfl, hx⟩
      rw [List.getElem?_map] at hx
      obtain ⟨n, hn, rfl⟩ := Option.map_eq_some_iff.mp hx
      have hm : n ∈ ns := List.mem_of_getElem? hn
      refine ⟨rfl, tYes_i ?_⟩
      have sH := s0.trans sm
      have hRH := hA.sr.trans sH
      refine ⟨_, rfl, h, dx, _, rfl, sH _ _ hh, no, _, rfl, h, d, u, dx, r, n, R, cur, rfl, hRH, sH _ _ hh, hcur, ?_⟩
      by_cases hg : Good cur n
      · obtain ⟨hg1, t, hg2⟩ := hg
        refine .inl ⟨t, hg1, hg2, fun H3 b xs s3 hb hPb => ?_⟩
        have lv := hP.length
        rw [List.length_take] at lv
        refine ⟨vs, s3 _ _ hd, small1000 (by omega), vs ++ [.ref b], fun c o e => ?_, upd_same, ?_⟩
        · rw [upd_ne (ne_of_none e hD)]
          exact s3 _ _ (sm c o e)
        · rw [take_next hn]
          exact hP.snoc ⟨b, xs, t, rfl, hg1, hg2, hb, hPb⟩
      · rcases hw with ⟨hall, _⟩ | ⟨_, qE⟩
        · exact absurd (hall n hm) hg
        · refine .inr ?_
          rcases hnm n hm with hno | hlen
          · refine .inl ⟨hno, ?_, fun H3 s3 => qE H3 (sH.trans s3)⟩
            cases z : getR cur n with
            | none => rfl
            | some t => exact absurd ⟨hno, t, z⟩ hg
          · exact .inr ⟨hlen, fun H3 s3 => qE H3 (sH.trans s3)⟩
    · rintro H2 ⟨vs, sm, hd, hP⟩
      rw [List.length_map, List.take_length] at hP
      have sH := s0.trans sm
      have hRH := hA.sr.trans sH
      have hall : (∀ n ∈ ns, Good cur n) ∧ 0 ≤ c ∧ ∀ H' : Hp, Same H H' → Q (.int (Ftot cur ns c)) H' := by
        rcases hw with hw | ⟨⟨n, hm, hn⟩, _⟩
        · exact hw
        · obtain ⟨j, hj, e⟩ := List.mem_iff_getElem.mp hm
          obtain ⟨v, _, b, xs, t, _, h1, h2, _⟩ := paired_r hP (List.getElem?_eq_some_iff.mpr ⟨hj, e⟩)
          exact absurd ⟨h1, t, h2⟩ hn
      obtain ⟨hall, hc, q⟩ := hall
      refine ⟨_, rfl, c, rfl, hc, ?_⟩
      refine ⟨_, rfl, ?_⟩
      refine ⟨_, rfl, D, _, rfl, SqL.of hd, fun p hp => ?_⟩
      have lv := hP.length
      have sp : Same H2 (upd H2 p (.lst vs.reverse)) := Same.new hp _
      refine ⟨p, rfl, ⟨_, SqL.of upd_same⟩, for_list (K := K) (a := p) (xs := vs.reverse)
        (fun i σ H' => ∃ v5 v6, Same (upd H2 p (.lst vs.reverse)) H' ∧ σ = [some (.ref h), some (.ref a), some (.int c), some (.ref D), some (.int (Ftot cur (ns.drop (ns.length - i)) c)), v5, v6]) ?_ ?_ ?_ ?_⟩
      · refine ⟨none, none, .refl _, ?_⟩
        rw [Nat.sub_zero, List.drop_length]
        rfl
      · rintro i σ H' _ ⟨v5, v6, s, _⟩
        exact SqL.of (s _ _ upd_same)
      · rintro i x σ H' hx ⟨v5, v6, s, rfl⟩
        have hi : i < vs.length := by
          have := (List.getElem?_eq_some_iff.mp hx).1
          rwa [List.length_reverse] at this
        rw [List.getElem?_reverse hi] at hx
        obtain ⟨n, hn, b, xs, t, rfl, _, hg, hb, hPb⟩ := paired_at hP hx
        have hRp := (hRH.trans sp).trans s
        obtain ⟨fit, dep⟩ := hok.each _ (getR_mem hg)
        refine ⟨_, rfl, _, rfl, b, xs, t, _, rfl, hRp _ _ hb, hPb.mono hRp, fit, dep, fun H3 s3 => ?_⟩
        refine ⟨some (.ref b), v6, s.trans s3, ?_⟩
        have e : ns.drop (ns.length - (i + 1)) = n :: ns.drop (ns.length - i) := by
          have e1 : ns.length - (i + 1) = vs.length - 1 - i := by omega
          have e2 : ns.length - i = vs.length - 1 - i + 1 := by omega
          rw [e1, e2]
          obtain ⟨hj, e3⟩ := List.getElem?_eq_some_iff.mp hn
          rw [← e3, List.drop_eq_getElem_cons hj]
        rw [e]
        show _ = [_, _, _, _, some (V.int (F ((getR cur n).getD .nil) (Ftot cur (ns.drop (ns.length - i)) c))), _, _]
        rw [hg]
        rfl
      · rintro σ H' ⟨v5, v6, s, rfl⟩
        rw [List.length_reverse, lv, Nat.sub_self, List.drop_zero]
        exact ⟨_, rfl, q H' ((sH.trans sp).trans s)⟩
end
end Bo
end
section
/-! Boastrow: the law's urn, its sayings. -/
namespace Bo
open PySem PySem.Spec L2
/-! ### what is changed: all but X stays -/
structure Off (X : Addr → Prop) (H H' : Hp) : Prop where
  st : ∀ b o, ¬ X b → H b = some o → H' b = some o
  th : ∀ b, H' b = none → H b = none
theorem Off.refl {X : Addr → Prop} (H : Hp) : Off X H H := ⟨fun _ _ _ e => e, fun _ e => e⟩
theorem Off.trans {X : Addr → Prop} {H H1 H2 : Hp} (a : Off X H H1) (b : Off X H1 H2) : Off X H H2 := ⟨fun c o n e => b.st c o n (a.st c o n e), fun c e => a.th c (b.th c e)⟩
theorem Off.mono {X Y : Addr → Prop} {H H' : Hp} (a : Off X H H') (h : ∀ b, X b → Y b) : Off Y H H' := ⟨fun c o n e => a.st c o (fun z => n (h c z)) e, a.th⟩
theorem Off.of {X : Addr → Prop} {H H' : Hp} (s : Same H H') : Off X H H' := ⟨fun c o _ e => s c o e, fun c e => Same.free s e⟩
theorem Off.upd {X : Addr → Prop} {H H' : Hp} {u : Addr} {o : HO} (a : Off X H H') (h : X u) : Off X H (upd H' u o) := by
  refine ⟨fun c p n e => ?_, fun c e => ?_⟩
  · rw [upd_ne (fun z => n (by rw [z]; exact h))]
    exact a.st c p n e
  · by_cases q : c = u
    · rw [q, upd_same] at e; cases e
    · rw [upd_ne q] at e
      exact a.th c e
theorem Off.same {X : Addr → Prop} {H H' : Hp} (a : Off X H H') {R : Hp} (s : Same R H) (n : ∀ b, X b → R b = none) : Same R H' := fun b o e => a.st b o (fun z => ne_of_none e (n b z) rfl) (s b o e)
def M10 : Int := 100000000000000000000000000000
theorem pw10 {j : Int} (h0 : 0 ≤ j) (h1 : j ≤ 1000) : CPowW 10 j := wide_pow (a := 4) h0 h1 (by decide) (by decide) (by decide)
theorem mx0 (y : Int) : 0 ≤ if y > 0 then y else 0 := by split <;> omega
theorem na {x B : Int} {a : Nat} (h0 : 0 ≤ x) (h1 : x < B) (hB : B ≤ 2 ^ a) : x.natAbs < 2 ^ a := by
  have e := Int.natAbs_of_nonneg h0
  have h : ((x.natAbs : Nat) : Int) < ((2 ^ a : Nat) : Int) := by
    rw [e, Int.natCast_pow]
    exact Int.lt_of_lt_of_le h1 hB
  exact Int.ofNat_lt.mp h
/-! ### the urn -/
def UrnAt (H : Hp) (u : Addr) (n : Nat) : Prop := ∃ a b c : Int, H u = some (.lst [.int a, .int b, .int c]) ∧ 0 ≤ a ∧ 0 ≤ b ∧ b < 1000000000000000000000000000000000000000000000000 ∧ 0 ≤ c ∧ c + n ≤ 1000000000
theorem UrnAt.off {X : Addr → Prop} {H H' : Hp} {u : Addr} {n : Nat} (h : UrnAt H u n) (o : Off X H H') (hx : ¬ X u) : UrnAt H' u n := by
  obtain ⟨a, b, c, e, r⟩ := h
  exact ⟨a, b, c, o.st _ _ hx e, r⟩
theorem UrnAt.same {H H' : Hp} {u : Addr} {n : Nat} (h : UrnAt H u n) (o : Same H H') : UrnAt H' u n := by
  obtain ⟨a, b, c, e, r⟩ := h
  exact ⟨a, b, c, o _ _ e, r⟩
theorem UrnAt.le {H : Hp} {u : Addr} {n m : Nat} (h : UrnAt H u n) (l : m ≤ n) : UrnAt H u m := by
  obtain ⟨a, b, c, e, h1, h2, h3, h4, h5⟩ := h
  exact ⟨a, b, c, e, h1, h2, h3, h4, by omega⟩
theorem UrnAt.some {H : Hp} {u : Addr} {n : Nat} (h : UrnAt H u n) : H u ≠ none := by
  obtain ⟨a, b, c, e, _⟩ := h
  rw [e]
  exact fun z => nomatch z
section
variable {P : Program} {w : World} {K : PySem.W.Frag} {mg : Str → Option Value} {base : Heap} {S O HC NN : Addr}
def spUrn (K : PySem.W.Frag) : Sp := fun vs H Q _ => ∃ (a : Addr) (ns : List Int) (k : Nat), vs = [.ref a, .int (k : Nat)] ∧ SqL K H a (ns.map V.int) ∧ k < 4 ∧ ns.length ≤ 1000 ∧ ∀ (H' : Hp) (u : Addr), H u = none → Same H H' → UrnAt H' u 999999999 → Q (.ref u) H'
theorem sc50 : FnScope ["_law_script", "_law_k", "_law_cell"] ["_law_script", "_law_k"] (defScope (top 50)) := ⟨rfl, rfl, rfl, by decide +kernel, rfl, by decide +kernel, by decide +kernel⟩
theorem d50 (T : Txt K mg S O HC NN) : Def P w K mg base CX0 1 "_law_urn" ["_law_script", "_law_k"] (spUrn K) := by
  have nd := sc50.nd
  refine T.h50.ok sc50 (fun vs H Q E h => ?_) (fun f cdv A outer s H vs Q E hr h => ?_)
  · obtain ⟨a, ns, k, rfl, _⟩ := h
    rfl
  · obtain ⟨a, ns, k, rfl, ha, hk, hl, q⟩ := h
    refine ⟨_, pss_cons (ps_set (i := 2) nd rfl (Or.inl rfl) pe_int)
      (pss_cons (ps_if (pt_cmpR op_lt (pv 1) (pe_callB call_len_seq (by rfl) T.bLen (by decide +kernel) (pa_cons (pv 0) pa_nil)) (nomark _))
        (pss_one (ps_set (i := 2) nd rfl (Or.inl rfl) (pe_ix ix_list (pv 0) (pv 1) (fun _ _ => rfl)))) pss_nil)
      (pss_one (ps_ret (pe_lst (pa_cons (pe_callB (call_max2 rfl) (by rfl) T.bMax (by decide +kernel) (pa_cons pe_int (pa_cons (pe_op op_sub (pe_callB call_abs (by rfl) T.bAbs (by decide +kernel) (pa_cons (pv 2) pa_nil)) (pe_op op_powW pe_int pe_int)) pa_nil)))
        (pa_cons (pe_op op_add (pe_op op_add (pe_op op_mulW (pe_op op_mod (pv 2) (pe_op op_add (pe_op op_powW pe_int pe_int) pe_int)) pe_int) (pe_op op_mulW pe_int (pv 1))) pe_int)
        (pa_cons pe_int pa_nil))))))), ?_⟩
    have key : ∀ z : Int, tRet (tLst (tCons (tCB (fun xs H Q => ∃ i j, xs = [V.int i, V.int j] ∧ Q (.int (if j > i then j else i)) H) (tCons (tC (.int 0)) (tCons (tOp (rI0 fun i j => .int (i - j)) (tCB (fun xs H Q => ∃ i, xs = [V.int i] ∧ Q (.int (if i < 0 then -i else i)) H) (tCons (tVar 2) tNil)) (tOp (rI L2.CPowW fun i j => .int (i ^ j.toNat)) (tC (.int 10)) (tC (.int 18)))) tNil)))
        (tCons (tOp (rI0 fun i j => .int (i + j)) (tOp (rI0 fun i j => .int (i + j)) (tOp (rI CMulW fun i j => .int (i * j)) (tOp (rI (fun _ j => 0 < j) fun i j => .int (i % j)) (tVar 2) (tOp (rI0 fun i j => .int (i + j)) (tOp (rI L2.CPowW fun i j => .int (i ^ j.toNat)) (tC (.int 10)) (tC (.int 41))) (tC (.int 3)))) (tC (.int 128)))
          (tOp (rI CMulW fun i j => .int (i * j)) (tC (.int 3)) (tVar 1))) (tC (.int 1))) (tCons (tC (.int 0)) tNil)))) { nx := fun _ H' => Q .non H', rt := Q } [some (.ref a), some (.int (k : Nat)), some (.int z)] H := by
      intro z
      have hM : (10 : Int) ^ (41 : Int).toNat + 3 = 100000000000000000000000000000000000000003 := by decide +kernel
      have p41 : (0 : Int) < (10 : Int) ^ (41 : Int).toNat + 3 := by rw [hM]; decide
      have m0 := Int.emod_nonneg z (show (10 : Int) ^ (41 : Int).toNat + 3 ≠ 0 by omega)
      have m1 := Int.emod_lt_of_pos z p41
      refine ⟨_, rfl, z, rfl, _, _, rfl, rfl, pw10 (by decide) (by decide), _, _, rfl, rfl, _, _, rfl, ?_⟩
      refine ⟨_, rfl, _, _, rfl, rfl, pw10 (by decide) (by decide), _, _, rfl, rfl, _, _, rfl, rfl, p41, _, _, rfl, rfl, wide_mul (a := 150) (b := 8) (na m0 m1 (by rw [hM]; decide +kernel)) (by decide) (by decide) (by decide) (by decide), ?_⟩
      refine ⟨_, rfl, _, _, rfl, rfl, wide_mul (a := 2) (b := 8) (by decide) (na (Int.natCast_nonneg k) (show (k : Int) < 4 by omega) (by decide)) (by decide) (by decide) (by decide), _, _, rfl, rfl, _, _, rfl, rfl, ?_⟩
      refine ⟨(by show 3 ≤ sizeLine; decide), fun u hu => ?_⟩
      refine q _ u hu (Same.new hu _) ⟨_, _, _, upd_same, ?_, ?_, ?_, Int.le_refl _, by decide⟩
      · exact mx0 _
      · omega
      · rw [hM] at m1 m0 ⊢
        omega
    refine ⟨_, rfl, _, rfl, a, _, rfl, .inl ha, _, _, rfl, rfl, _, rfl, ?_⟩
    rw [List.length_map]
    by_cases hlt : (k : Int) < ns.length
    · refine ifT (decide_eq_true hlt) ?_
      have hk2 : k < ns.length := by omega
      refine ⟨_, rfl, _, rfl, a, _, _, _, rfl, rfl, ha, at_of (j := k) rfl (by rw [List.getElem?_map, List.getElem?_eq_getElem hk2] <;> rfl), ?_⟩
      exact key _
    · refine ifF (decide_eq_false hlt) ?_
      exact key 0

/-! ### a ball of the urn -/
def spBall : Sp := fun vs H Q _ => ∃ (u : Addr) (m : Int) (n : Nat), vs = [.ref u, .int m] ∧ UrnAt H u (n + 1) ∧ 0 < m ∧ m < 1000000000000000000000000000000000 ∧ ∀ (H' : Hp) (x : Int), 0 ≤ x → x < m → UrnAt H' u n → Off (· = u) H H' → Q (.int x) H'
theorem sc51 : FnScope ["_law_urn_here", "_law_many", "_law_found", "_law_mixed"] ["_law_urn_here", "_law_many"] (defScope (top 51)) := ⟨rfl, rfl, rfl, by decide +kernel, rfl, by decide +kernel, by decide +kernel⟩
theorem d51 (T : Txt K mg S O HC NN) : Def P w K mg base CX0 1 "_law_ball" ["_law_urn_here", "_law_many"] spBall := by
  have nd := sc51.nd
  refine T.h51.ok sc51 (fun vs H Q E h => ?_) (fun f cdv A outer s H vs Q E hr h => ?_)
  · obtain ⟨u, m, n, rfl, _⟩ := h
    rfl
  · obtain ⟨u, m, n, rfl, ⟨a, b, c, hu, a0, b0, b1, c0, c1⟩, m0, m1, q⟩ := h
    refine ⟨_, pss_cons (ps_if (pt_cmpR op_gt (pe_ix ix_list (pv 0) pe_int (fun _ _ => rfl)) pe_int (nomark _))
        (pss_cons (ps_set (i := 2) nd rfl (Or.inl rfl) (pe_op op_mod (pe_ix ix_list (pv 0) pe_int (fun _ _ => rfl)) (pv 1)))
        (pss_cons (ps_asg (pe_op op_fdivW (pe_ix ix_list (pv 0) pe_int (fun _ _ => rfl)) (pv 1)) (pg_sub (pv 0) pe_int set_list))
        (pss_one (ps_ret (pv 2))))) pss_nil)
      (pss_cons (ps_asg (pe_op op_add (pe_ix ix_list (pv 0) pe_int (fun _ _ => rfl)) pe_int) (pg_sub (pv 0) pe_int set_list))
      (pss_cons (ps_set (i := 3) nd rfl (Or.inl rfl) (pe_op op_mod (pe_op op_powW (pe_op op_add (pe_ix ix_list (pv 0) pe_int (fun _ _ => rfl)) (pe_op op_mulW pe_int (pe_ix ix_list (pv 0) pe_int (fun _ _ => rfl)))) pe_int) (pe_op op_add (pe_op op_powW pe_int pe_int) pe_int)))
      (pss_cons (ps_set (i := 3) nd rfl (Or.inl rfl) (pe_op op_mod (pe_op op_add (pe_op op_add (pe_op op_mulW (pv 3) (pv 3)) (pe_op op_mulW pe_int (pe_ix ix_list (pv 0) pe_int (fun _ _ => rfl)))) pe_int) (pe_op op_add (pe_op op_powW pe_int pe_int) pe_int)))
      (pss_one (ps_ret (pe_op op_mod (pe_op op_fdivW (pv 3) pe_int) (pv 1))))))), ?_⟩
    refine ⟨_, rfl, u, _, _, _, rfl, rfl, SqL.of hu, at_of (j := 0) rfl rfl, _, _, rfl, rfl, _, rfl, ?_⟩
    by_cases ha : 0 < a
    · refine ifT (decide_eq_true ha) ?_
      refine ⟨_, rfl, u, _, _, _, rfl, rfl, SqL.of hu, at_of (j := 0) rfl rfl, _, rfl, _, _, rfl, rfl, m0, ?_⟩
      refine ⟨_, rfl, u, _, _, _, rfl, rfl, SqL.of hu, at_of (j := 0) rfl rfl, _, rfl, _, _, rfl, rfl, wide_div (b := 120) m0 (na (Int.le_of_lt m0) m1 (by decide)) (by decide) (by decide), ?_⟩
      refine ⟨_, rfl, u, _, _, 0, rfl, rfl, hu, rfl, ?_⟩
      refine ⟨_, rfl, q _ _ (Int.emod_nonneg _ (by omega)) (Int.emod_lt_of_pos _ m0) ⟨_, _, _, upd_same, Int.ediv_nonneg a0 (Int.le_of_lt m0), b0, b1, c0, by omega⟩ ((Off.refl H).upd rfl)⟩
    · refine ifF (decide_eq_false ha) ?_
      refine ⟨_, rfl, u, _, _, _, rfl, rfl, SqL.of hu, at_of (j := 2) rfl rfl, _, _, rfl, rfl, ?_⟩
      refine ⟨_, rfl, u, _, _, 2, rfl, rfl, hu, rfl, ?_⟩
      generalize hH1 : upd H u (.lst ([V.int a, .int b, .int c].set 2 (.int (c + 1)))) = H1
      have h1 : H1 u = some (.lst [.int a, .int b, .int (c + 1)]) := by rw [← hH1, upd_same] <;> rfl
      have o1 : Off (· = u) H H1 := by rw [← hH1]; exact (Off.refl H).upd rfl
      have hM : (10 : Int) ^ (43 : Int).toNat + 61 = 10000000000000000000000000000000000000000061 := by decide +kernel
      have hL : (10 : Int) ^ (42 : Int).toNat + 11 = 1000000000000000000000000000000000000000011 := by decide +kernel
      have pM : (0 : Int) < (10 : Int) ^ (43 : Int).toNat + 61 := by rw [hM]; decide
      have pL : (0 : Int) < (10 : Int) ^ (42 : Int).toNat + 11 := by rw [hL]; decide
      refine ⟨_, rfl, u, _, _, _, rfl, rfl, SqL.of h1, at_of (j := 1) rfl rfl, _, rfl, u, _, _, _, rfl, rfl, SqL.of h1, at_of (j := 2) rfl rfl, _, _, rfl, rfl, wide_mul (a := 40) (b := 60) (by decide) (na (show 0 ≤ c + 1 by omega) (show c + 1 < 1000000000000 by omega) (by decide)) (by decide) (by decide) (by decide), ?_⟩
      refine ⟨_, _, rfl, rfl, _, _, rfl, rfl, wide_pow (a := 200) (by decide) (by decide) (na (show 0 ≤ b + 86028121 * (c + 1) by omega) (show b + 86028121 * (c + 1) < 10000000000000000000000000000000000000000000000000 by omega) (by decide)) (by decide) (by decide), ?_⟩
      refine ⟨_, _, rfl, rfl, pw10 (by decide) (by decide), _, _, rfl, rfl, _, _, rfl, rfl, pM, ?_⟩
      generalize hx : (b + 86028121 * (c + 1)) ^ (3 : Int).toNat = x
      have x0 := Int.emod_nonneg x (show (10 : Int) ^ (43 : Int).toNat + 61 ≠ 0 by omega)
      have x1 := Int.lt_of_lt_of_le (Int.emod_lt_of_pos x pM) (Int.le_of_eq hM)
      refine ⟨_, rfl, _, rfl, _, _, rfl, rfl, wide_mul (a := 150) (b := 150) (na x0 x1 (by decide)) (na x0 x1 (by decide)) (by decide) (by decide) (by decide), ?_⟩
      refine ⟨_, rfl, u, _, _, _, rfl, rfl, SqL.of h1, at_of (j := 2) rfl rfl, _, _, rfl, rfl, wide_mul (a := 40) (b := 60) (by decide) (na (show 0 ≤ c + 1 by omega) (show c + 1 < 1000000000000 by omega) (by decide)) (by decide) (by decide) (by decide), ?_⟩
      refine ⟨_, _, rfl, rfl, _, _, rfl, rfl, _, _, rfl, rfl, pw10 (by decide) (by decide), _, _, rfl, rfl, _, _, rfl, rfl, pL, ?_⟩
      refine ⟨_, rfl, _, _, rfl, rfl, wide_div (b := 40) (by decide) (by decide) (by decide) (by decide), _, rfl, _, _, rfl, rfl, m0, ?_⟩
      exact q _ _ (Int.emod_nonneg _ (by omega)) (Int.emod_lt_of_pos _ m0) ⟨_, _, _, h1, a0, b0, b1, by omega, by omega⟩ o1
end
end Bo
end
section
/-! Boastrow: the law's sayings, people, company. -/
namespace Bo
open PySem PySem.Spec L2
theorem Off.new {X : Addr → Prop} {H H' : Hp} {p : Addr} {o : HO} (a : Off X H H') (hp : H' p = none) : Off X H (L2.upd H' p o) := a.trans (Off.of (Same.new hp _))
theorem Off.own {X : Addr → Prop} {H H' : Hp} {p : Addr} {o : HO} (a : Off X H H') (hp : H p = none) : Off X H (L2.upd H' p o) := by
  refine ⟨fun c q n e => ?_, fun c e => ?_⟩
  · rw [upd_ne (ne_of_none e hp)]
    exact a.st c q n e
  · by_cases z : c = p
    · rw [z]; exact hp
    · rw [upd_ne z] at e
      exact a.th c e
theorem atI_at {xs : List Int} {j : Nat} {v : Int} (h : xs[j]? = some v) : atI (xs.map V.int) (j : Int) = some (.int v) := at_of (j := j) rfl (by rw [List.getElem?_map, h]; rfl)
theorem pick {xs : List Int} {x : Int} (h0 : 0 ≤ x) (h1 : x < xs.length) : ∃ v ∈ xs, atI (xs.map V.int) x = some (.int v) := by
  obtain ⟨j, rfl⟩ := Int.eq_ofNat_of_zero_le h0
  have hj : j < xs.length := by omega
  exact ⟨xs[j], List.getElem_mem hj, atI_at (List.getElem?_eq_getElem hj)⟩
section
variable {P : Program} {w : World} {K : PySem.W.Frag} {mg : Str → Option Value} {base : Heap} {S O HC NN : Addr}
/-! ### a saying -/
def spSaying : Sp := fun vs H Q _ => ∃ (u : Addr) (wd : Int) (n : Nat), vs = [.ref u, .int wd] ∧ UrnAt H u (n + 8) ∧ 0 < wd ∧ wd ≤ 100000000000000000000000000000 ∧
  ∀ (H' : Hp) (p : Addr) (l : Int) (m : Option Int), Off (· = u) H H' → H p = none → H' p = some (.tup [.int l, mV m]) → UrnAt H' u n → 0 ≤ l → l < B → (∀ x, m = some x → l ≤ x ∧ x < B) → Q (.ref p) H'
theorem sc52 : FnScope ["_law_urn_here", "_law_wide", "_law_least", "_law_way"] ["_law_urn_here", "_law_wide"] (defScope (top 52)) := ⟨rfl, rfl, rfl, by decide +kernel, rfl, by decide +kernel, by decide +kernel⟩
theorem d52 (T : Txt K mg S O HC NN) : Def P w K mg base CX0 2 "_law_saying" ["_law_urn_here", "_law_wide"] spSaying := by
  have D51 : Def P w K mg base CX0 1 "_law_ball" ["_law_urn_here", "_law_many"] spBall := d51 T
  have nd := sc52.nd
  refine T.h52.ok sc52 (fun vs H Q E h => ?_) (fun f cdv A outer s H vs Q E hr h => ?_)
  · obtain ⟨u, wd, n, rfl, _⟩ := h
    rfl
  · obtain ⟨u, wd, n, rfl, hu, w0, w1, q⟩ := h
    refine ⟨_, pss_cons (ps_set (i := 2) nd rfl (Or.inl rfl) (pe_ix ix_list (pe_lst (pa_cons pe_int (pa_cons (cd D51 hr (by rfl) pass0 (pa_cons (pv 0) (pa_cons pe_int pa_nil)))
        (pa_cons (cd D51 hr (by rfl) pass0 (pa_cons (pv 0) (pa_cons (pv 1) pa_nil))) (pa_cons (cd D51 hr (by rfl) pass0 (pa_cons (pv 0) (pa_cons (pv 1) pa_nil))) pa_nil)))))
        (cd D51 hr (by rfl) pass0 (pa_cons (pv 0) (pa_cons pe_int pa_nil))) (fun _ _ => rfl)))
      (pss_cons (ps_set (i := 3) nd rfl (Or.inl rfl) (cd D51 hr (by rfl) pass0 (pa_cons (pv 0) (pa_cons pe_int pa_nil))))
      (pss_cons (ps_if (pt_cmpR op_eq (pv 3) pe_int (nomark _)) (pss_one (ps_ret (pe_tup (pa_cons (pv 2) (pa_cons pe_non pa_nil))))) pss_nil)
      (pss_one (ps_ret (pe_tup (pa_cons (pv 2) (pa_cons (pe_op op_add (pv 2) (pe_ix ix_list (pe_lst (pa_cons pe_int (pa_cons (cd D51 hr (by rfl) pass0 (pa_cons (pv 0) (pa_cons pe_int pa_nil)))
        (pa_cons (cd D51 hr (by rfl) pass0 (pa_cons (pv 0) (pa_cons pe_int pa_nil))) (pa_cons (cd D51 hr (by rfl) pass0 (pa_cons (pv 0) (pa_cons (pv 1) pa_nil))) pa_nil))))) (pv 3) (fun _ _ => rfl))) pa_nil))))))), ?_⟩
    have z2 : 2 ≤ sizeLine := by decide
    have z4 : 4 ≤ sizeLine := by decide
    refine ⟨_, rfl, u, 4, n + 7, rfl, hu, by decide, by decide, fun H1 x1 a1 b1 u1 o1 => ?_⟩
    refine ⟨_, rfl, _, rfl, u, wd, n + 6, rfl, u1, w0, by omega, fun H2 x2 a2 b2 u2 o2 => ?_⟩
    refine ⟨_, rfl, _, rfl, u, wd, n + 5, rfl, u2, w0, by omega, fun H3 x3 a3 b3 u3 o3 => ?_⟩
    refine ⟨z4, fun p hp => ?_⟩
    have hup : u ≠ p := fun z => u3.some (by rw [z]; exact hp)
    have s4 : Same H3 (upd H3 p (.lst [.int 0, .int x1, .int x2, .int x3])) := Same.new hp _
    refine ⟨_, rfl, u, 4, n + 4, rfl, u3.same s4, by decide, by decide, fun H5 x4 a4 b4 u5 o5 => ?_⟩
    have hp5 := o5.st p _ (fun z => hup z.symm) upd_same
    obtain ⟨l, hl, el⟩ := pick (xs := [0, x1, x2, x3]) a4 b4
    have l0 : 0 ≤ l ∧ l < 100000000000000000000000000000 := by
      simp only [List.mem_cons, List.not_mem_nil, or_false] at hl
      rcases hl with rfl | rfl | rfl | rfl <;> omega
    refine ⟨p, _, _, _, rfl, rfl, SqL.of hp5, el, ?_⟩
    have o05 : Off (· = u) H H5 := ((((o1.trans o2).trans o3).trans (Off.of s4)).trans o5)
    refine ⟨_, rfl, u, 5, n + 3, rfl, u5, by decide, by decide, fun H6 x5 a5 b5 u6 o6 => ?_⟩
    have o06 := o05.trans o6
    have hB : B = 20282409603651670423947251286016 := rfl
    refine ⟨_, rfl, rfl, _, rfl, ?_⟩
    by_cases h4 : x5 = 4
    · refine ifT (decide_eq_true (by rw [h4])) ?_
      refine ⟨_, rfl, z2, fun t ht => ?_⟩
      have htu : u ≠ t := fun z => u6.some (by rw [z]; exact ht)
      refine q _ t l none (o06.new ht) (o06.th _ ht) upd_same ((u6.same (Same.new ht _)).le (by omega)) l0.1 (by rw [hB]; omega) fun x hx => nomatch hx
    · refine ifF (decide_eq_false fun z => h4 (V.int.inj z)) ?_
      refine ⟨_, rfl, _, rfl, _, rfl, u, 3, n + 2, rfl, u6, by decide, by decide, fun H7 y1 c1 e1 u7 o7 => ?_⟩
      refine ⟨_, rfl, u, 9, n + 1, rfl, u7, by decide, by decide, fun H8 y2 c2 e2 u8 o8 => ?_⟩
      refine ⟨_, rfl, _, rfl, u, wd, n, rfl, u8, w0, by omega, fun H9 y3 c3 e3 u9 o9 => ?_⟩
      refine ⟨z4, fun p2 hp2 => ?_⟩
      have s10 : Same H9 (upd H9 p2 (.lst [.int 0, .int y1, .int y2, .int y3])) := Same.new hp2 _
      obtain ⟨v, hv, ev⟩ := pick (xs := [0, y1, y2, y3]) a5 (show x5 < 4 by omega)
      have v0 : 0 ≤ v ∧ v < 100000000000000000000000000000 := by
        simp only [List.mem_cons, List.not_mem_nil, or_false] at hv
        rcases hv with rfl | rfl | rfl | rfl <;> omega
      refine ⟨_, rfl, p2, _, _, _, rfl, rfl, SqL.of upd_same, ev, _, _, rfl, rfl, ?_⟩
      refine ⟨z2, fun t ht => ?_⟩
      have o10 := (((o06.trans o7).trans o8).trans o9).trans (Off.of s10)
      refine q _ t l (some (l + v)) (o10.new ht) (o10.th _ ht) upd_same ((u9.same s10).same (Same.new ht _)) l0.1 (by rw [hB]; omega) fun x hx => ?_
      cases hx
      exact ⟨by omega, by rw [hB]; omega⟩

/-! ### how many people -/
def spPeople (d : Nat) : Sp := fun vs H Q _ => ∃ (a : Addr) (xs : List V) (t : T), vs = [.ref a] ∧ H a = some (.lst xs) ∧ Items H t xs ∧ ok t ∧ depth t ≤ d ∧ Q (.int (ppl t : Nat)) H
theorem sc53 : FnScope ["_law_long_here", "_law_found", "_law_item"] ["_law_long_here"] (defScope (top 53)) := ⟨rfl, rfl, rfl, by decide +kernel, rfl, by decide +kernel, by decide +kernel⟩
theorem d53 (T : Txt K mg S O HC NN) {d k : Nat} (IH : ∀ e, e + 1 = d → Def P w K mg base CX0 k "_law_people" ["_law_long_here"] (spPeople e)) : Def P w K mg base CX0 (k + 1) "_law_people" ["_law_long_here"] (spPeople d) := by
  have nd := sc53.nd
  have DP : Def P w K mg base CX0 k "_law_people" ["_law_long_here"] (fun vs H Q E => ∃ e, e + 1 = d ∧ spPeople e vs H Q E) := by
    cases d with
    | zero =>
      obtain ⟨f, fd, F, m, b⟩ := T.h53
      refine ⟨f, fd, m, F.kp, b, ⟨fun vs H Q E h => ?_, fun A outer s H args us vs Q E _ _ _ _ h => ?_⟩⟩
      · obtain ⟨e, h, _⟩ := h
        omega
      · obtain ⟨e, h, _⟩ := h
        omega
    | succ d =>
      refine (IH d rfl).imp fun vs H Q E h => ?_
      obtain ⟨e, h1, h2⟩ := h
      cases h1
      exact h2
  refine T.h53.ok sc53 (fun vs H Q E h => ?_) (fun f cdv A outer s H vs Q E hr h => ?_)
  · obtain ⟨a, xs, t, rfl, _⟩ := h
    rfl
  · obtain ⟨a, xs, t, rfl, ha, hI, hk, hd, q⟩ := h
    refine ⟨_, pss_cons (ps_set (i := 1) nd rfl (Or.inl rfl) pe_int)
      (pss_cons (ps_for PassesOwn.never rfl (pi_list (pv 0)) (pg_name (i := 2) nd rfl (Or.inl rfl))
        (pss_one (ps_set (i := 1) nd rfl (Or.inl rfl) (pe_op op_add (pv 1) (pe_ifExp (pt_cmpR op_eq (pe_ix ix_tup (pv 2) pe_int (fun _ _ => rfl)) pe_str (nomark _))
          (pe_op op_mulW (pe_ix ix_tup (pv 2) pe_int (fun _ _ => rfl)) (cd DP hr (by rfl) pass0 (pa_cons (pe_ix ix_tup (pv 2) pe_int (fun _ _ => rfl)) pa_nil))) pe_int)))))
      (pss_one (ps_ret (pv 1)))), ?_⟩
    refine ⟨_, rfl, a, rfl, ⟨_, SqL.of ha⟩, for_list (K := K) (a := a) (xs := xs)
      (fun i σ H' => ∃ (z : Int) (v2 : Option V), σ = [some (.ref a), some (.int z), v2] ∧ H' = H ∧ z + (ppl (tl i t) : Int) = ppl t) ?_ ?_ ?_ ?_⟩
    · exact ⟨0, none, rfl, rfl, by simp [tl]⟩
    · rintro i σ H' _ ⟨z, v2, _, rfl, _⟩
      exact SqL.of ha
    · rintro i x σ H' hx ⟨z, v2, rfl, rfl, hz⟩
      rcases hI.at hx with ⟨l, m, p, et, rfl, hp⟩ | ⟨n, b, p, q', bs, et, rfl, hp, hq, hb⟩
      · refine ⟨_, rfl, _, rfl, p, _, _, _, rfl, rfl, SqT.of hp, at_of (j := 0) rfl rfl, rfl, _, rfl, ifF (by simp) ?_⟩
        refine ⟨_, _, rfl, rfl, z + 1, _, rfl, rfl, ?_⟩
        rw [et] at hz
        have e : ppl (.say l m (tl (i + 1) t)) = 1 + ppl (tl (i + 1) t) := rfl
        omega
      · have hk2 := ok_tl i hk
        have hd2 : depth (tl i t) ≤ d := Nat.le_trans (depth_tl t i) hd
        rw [et] at hk2 hd2
        have hd3 := depth_body hd2
        refine ⟨_, rfl, _, rfl, p, _, _, _, rfl, rfl, SqT.of hp, at_of (j := 0) rfl rfl, rfl, _, rfl, ifT (by simp) ?_⟩
        refine ⟨_, rfl, p, _, _, _, rfl, rfl, SqT.of hp, at_of (j := 1) rfl rfl, _, rfl, p, _, _, _, rfl, rfl, SqT.of hp, at_of (j := 2) rfl rfl, d - 1, by omega, q', bs, b, rfl, hq, hb, hk2.1.2.2.2, by omega, ?_⟩
        refine ⟨_, _, rfl, rfl, mulB (Int.natCast_nonneg _) hk2.1.1 (Int.natCast_nonneg _) hk2.1.2.1, _, _, rfl, rfl, _, _, rfl, rfl, ?_⟩
        rw [et] at hz
        have e : ppl (.rep n b (tl (i + 1) t)) = n * ppl b + ppl (tl (i + 1) t) := rfl
        rw [e, Int.natCast_add, Int.natCast_mul] at hz
        rw [← hz]
        omega
    · rintro σ H' ⟨z, v2, rfl, rfl, hz⟩
      refine ⟨_, rfl, ?_⟩
      have e : z = ((ppl t : Nat) : Int) := by
        rw [hI.len, tl_len] at hz
        have z' : ((ppl Bo.T.nil : Nat) : Int) = 0 := rfl
        omega
      rw [e]
      exact q
theorem d53n (T : Txt K mg S O HC NN) : ∀ d : Nat, Def P w K mg base CX0 (d + 1) "_law_people" ["_law_long_here"] (spPeople d)
  | 0 => d53 (k := 0) T (fun e h => by omega)
  | d + 1 => d53 (k := d + 1) T (fun e h => by cases h; exact d53n T d)
end
end Bo
end
section
/-! Boastrow: the law's sayings, company. -/
namespace Bo
open PySem PySem.Spec L2
section
variable {P : Program} {w : World} {K : PySem.W.Frag} {mg : Str → Option Value} {base : Heap} {S O HC NN : Addr}
/-- a saying somewhere -/
def SayV (H : Hp) (v : V) : Prop := ∃ q l m, v = .ref q ∧ H q = some (.tup [.int l, mV m])
theorem SayV.mono {H H' : Hp} {v : V} (h : SayV H v) (s : Same H H') : SayV H' v := by
  obtain ⟨q, l, m, e, h⟩ := h
  exact ⟨q, l, m, e, s _ _ h⟩
def spSayings (d : Nat) : Sp := fun vs H Q _ => ∃ (a : Addr) (xs : List V) (t : T), vs = [.ref a] ∧ H a = some (.lst xs) ∧ Items H t xs ∧ size t ≤ 1000 ∧ depth t ≤ d ∧
  ∀ (H' : Hp) (p : Addr) (ps : List V), Same H H' → H p = none → H' p = some (.lst ps) → ps.length ≤ size t → (∀ v ∈ ps, SayV H' v) → Q (.ref p) H'
theorem sc55 : FnScope ["_law_long_here", "_law_found", "_law_item"] ["_law_long_here"] (defScope (top 55)) := ⟨rfl, rfl, rfl, by decide +kernel, rfl, by decide +kernel, by decide +kernel⟩
theorem d55 (T : Txt K mg S O HC NN) {d k : Nat} (IH : ∀ e, e + 1 = d → Def P w K mg base CX0 k "_law_sayings" ["_law_long_here"] (spSayings e)) : Def P w K mg base CX0 (k + 1) "_law_sayings" ["_law_long_here"] (spSayings d) := by
  have nd := sc55.nd
  have DP : Def P w K mg base CX0 k "_law_sayings" ["_law_long_here"] (fun vs H Q E => ∃ e, e + 1 = d ∧ spSayings e vs H Q E) := by
    cases d with
    | zero =>
      obtain ⟨f, fd, F, m, b⟩ := T.h55
      refine ⟨f, fd, m, F.kp, b, ⟨fun vs H Q E h => ?_, fun A outer s H args us vs Q E _ _ _ _ h => ?_⟩⟩
      · obtain ⟨e, h, _⟩ := h
        omega
      · obtain ⟨e, h, _⟩ := h
        omega
    | succ d =>
      refine (IH d rfl).imp fun vs H Q E h => ?_
      obtain ⟨e, h1, h2⟩ := h
      cases h1
      exact h2
  refine T.h55.ok sc55 (fun vs H Q E h => ?_) (fun f cdv A outer s H vs Q E hr h => ?_)
  · obtain ⟨a, xs, t, rfl, _⟩ := h
    rfl
  · obtain ⟨a, xs, t, rfl, ha, hI, hk, hd, q⟩ := h
    refine ⟨_, pss_cons (ps_set (i := 1) nd rfl (Or.inl rfl) (pe_lst pa_nil))
      (pss_cons (ps_for PassesOwn.never rfl (pi_list (pv 0)) (pg_name (i := 2) nd rfl (Or.inl rfl))
        (pss_one (ps_expr (pe_bm PySem.F.plainAttrs_list PySem.F.slot_list_extend PySem.F.type_list_extend mt_extend (pv 1) (pa_cons (pe_ifExp (pt_cmpR op_eq (pe_ix ix_tup (pv 2) pe_int (fun _ _ => rfl)) pe_str (nomark _))
          (cd DP hr (by rfl) pass0 (pa_cons (pe_ix ix_tup (pv 2) pe_int (fun _ _ => rfl)) pa_nil)) (pe_lst (pa_cons (pv 2) pa_nil))) pa_nil)))))
      (pss_one (ps_ret (pv 1)))), ?_⟩
    refine ⟨(by show 0 ≤ sizeLine; decide), fun p hp => ?_⟩
    have s0 : Same H (upd H p (.lst [])) := Same.new hp _
    refine ⟨_, rfl, a, rfl, ⟨_, SqL.of (s0 _ _ ha)⟩, for_list (K := K) (a := a) (xs := xs)
      (fun i σ H' => ∃ (v2 : Option V) (ps : List V), σ = [some (.ref a), some (.ref p), v2] ∧ Same H H' ∧ H' p = some (.lst ps) ∧ ps.length + size (tl i t) ≤ size t ∧ ∀ v ∈ ps, SayV H' v) ?_ ?_ ?_ ?_⟩
    · exact ⟨none, [], rfl, s0, upd_same, by simp [tl], fun v hv => by cases hv⟩
    · rintro i σ H' _ ⟨v2, ps, _, sm, _⟩
      exact SqL.of (sm _ _ ha)
    · rintro i x σ H' hx ⟨v2, ps, rfl, sm, hps, hz, hv⟩
      have next : ∀ (H2 : Hp) (b : Addr) (ys : List V) (z : Nat), Same H' H2 → p ≠ b → H2 b = some (.lst ys) → ys.length ≤ z → z + size (tl (i + 1) t) ≤ size (tl i t) → (∀ v ∈ ys, SayV H2 v) →
          rExtend (.ref p) [.ref b] H2 (fun _ H3 => ∃ (v2 : Option V) (ps : List V), [some (V.ref a), some (.ref p), some x] = [some (.ref a), some (.ref p), v2] ∧ Same H H3 ∧ H3 p = some (.lst ps) ∧ ps.length + size (tl (i + 1) t) ≤ size t ∧ ∀ v ∈ ps, SayV H3 v) := by
        intro H2 b ys z s2 npb hb hl hz2 hys
        refine ⟨p, b, ps, ys, rfl, rfl, s2 _ _ hps, hb, small (by omega), some x, ps ++ ys, rfl, fun c o e => ?_, upd_same, by rw [List.length_append]; omega, fun v h => ?_⟩
        · rw [upd_ne (ne_of_none e hp)]
          exact s2 _ _ (sm c o e)
        · have h2 : SayV H2 v := by
            rcases List.mem_append.mp h with h | h
            · exact (hv v h).mono s2
            · exact hys v h
          obtain ⟨q', l, m, e, h3⟩ := h2
          exact ⟨q', l, m, e, by rw [upd_ne (ne_of h3 (s2 _ _ hps) (by intro z; cases z))]; exact h3⟩
      rcases (hI.mono sm).at hx with ⟨l, m, q', et, rfl, hq⟩ | ⟨n, b, q', bq, bs, et, rfl, hq, hbq, hb⟩
      · refine ⟨_, rfl, .inl ⟨rfl, _, SqL.of hps⟩, _, rfl, q', _, _, _, rfl, rfl, SqT.of hq, at_of (j := 0) rfl rfl, rfl, _, rfl, ifF (by simp) ?_⟩
        refine ⟨_, rfl, (by show 1 ≤ sizeLine; decide), fun b hb => ?_⟩
        refine next _ b [.ref q'] 1 (Same.new hb _) (ne_of_none hps hb) upd_same (Nat.le_refl _) (by rw [et]; exact Nat.le_refl _) fun v h => ?_
        cases List.mem_singleton.mp h
        exact ⟨q', l, m, rfl, Same.new hb _ _ _ hq⟩
      · have hd2 : depth (tl i t) ≤ d := Nat.le_trans (depth_tl t i) hd
        have hz3 := size_tl t i
        rw [et] at hd2 hz3
        have hd3 := depth_body hd2
        have esz : size (.rep n b (tl (i + 1) t)) = 1 + size b + size (tl (i + 1) t) := rfl
        refine ⟨_, rfl, .inl ⟨rfl, _, SqL.of hps⟩, _, rfl, q', _, _, _, rfl, rfl, SqT.of hq, at_of (j := 0) rfl rfl, rfl, _, rfl, ifT (by simp) ?_⟩
        refine ⟨_, rfl, q', _, _, _, rfl, rfl, SqT.of hq, at_of (j := 2) rfl rfl, d - 1, by omega, bq, bs, b, rfl, hbq, hb, by omega, by omega, fun H2 b2 ys s2 nb2 hb2 hl2 hv2 => ?_⟩
        exact next H2 b2 ys (size b) s2 (ne_of_none hps nb2) hb2 hl2 (by rw [et, esz]; omega) hv2
    · rintro σ H' ⟨v2, ps, rfl, sm, hps, hz, hv⟩
      exact ⟨_, rfl, q H' p ps sm hp hps (by omega) hv⟩
theorem d55n (T : Txt K mg S O HC NN) : ∀ d : Nat, Def P w K mg base CX0 (d + 1) "_law_sayings" ["_law_long_here"] (spSayings d)
  | 0 => d55 (k := 0) T (fun e h => by omega)
  | d + 1 => d55 (k := d + 1) T (fun e h => by cases h; exact d55n T d)

/-! ### a company -/
def spCompany : Sp := fun vs H Q _ => ∃ (u p : Addr) (ps : List V) (n : Nat), vs = [.ref u, .ref p] ∧ UrnAt H u (n + 6) ∧ H p = some (.lst ps) ∧ p ≠ u ∧ ps.length ≤ 1000 ∧ (∀ v ∈ ps, SayV H v) ∧
  ∀ (H' : Hp) (c : Int), Off (· = u) H H' → UrnAt H' u n → 0 ≤ c → Q (.int c) H'
theorem sc56 : FnScope ["_law_urn_here", "_law_sayings_here", "_law_least", "_law_most", "_law_near"] ["_law_urn_here", "_law_sayings_here"] (defScope (top 56)) := ⟨rfl, rfl, rfl, by decide +kernel, rfl, by decide +kernel, by decide +kernel⟩
theorem d56 (T : Txt K mg S O HC NN) : Def P w K mg base CX0 2 "_law_company" ["_law_urn_here", "_law_sayings_here"] spCompany := by
  have D51 : Def P w K mg base CX0 1 "_law_ball" ["_law_urn_here", "_law_many"] spBall := d51 T
  have nd := sc56.nd
  refine T.h56.ok sc56 (fun vs H Q E h => ?_) (fun f cdv A outer s H vs Q E hr h => ?_)
  · obtain ⟨u, p, ps, n, rfl, _⟩ := h
    rfl
  · obtain ⟨u, p, ps, n, rfl, hu, hp, npu, hl, hv, q⟩ := h
    refine ⟨_, pss_cons (ps_if (pt_cmpR (op_eqNil (Nat.lt_of_le_of_lt (Nat.le_add_right _ _) hr.units)) (pv 1) (pe_lst pa_nil) (nomark _)) (pss_one (ps_ret (cd D51 hr (by rfl) pass0 (pa_cons (pv 0) (pa_cons pe_int pa_nil))))) pss_nil)
      (pss_cons (ps_asg (pe_ix ix_list (pv 1) (cd D51 hr (by rfl) pass0 (pa_cons (pv 0) (pa_cons (pe_callB call_len_seq (by rfl) T.bLen (by decide +kernel) (pa_cons (pv 1) pa_nil)) pa_nil))) (fun _ _ => rfl))
        (pg_tup (by rfl) (pgs_cons (pg_name (i := 2) nd rfl (Or.inl rfl)) (pgs_cons (pg_name (i := 3) nd rfl (Or.inl rfl)) pgs_nil))))
      (pss_cons (ps_set (i := 4) nd rfl (Or.inl rfl) (pe_callB (call_max2 rfl) (by rfl) T.bMax (by decide +kernel) (pa_cons pe_int (pa_cons (pe_op op_sub (pe_ifExp (pt_cmpR op_isN (pv 3) pe_non (nomark _)) (pv 2) (pv 3)) (cd D51 hr (by rfl) pass0 (pa_cons (pv 0) (pa_cons pe_int pa_nil)))) pa_nil))))
      (pss_one (ps_ret (pe_ix ix_list (pe_lst (pa_cons pe_int (pa_cons (cd D51 hr (by rfl) pass0 (pa_cons (pv 0) (pa_cons pe_int pa_nil))) (pa_cons (pv 4) (pa_cons (pe_op op_fdivW (pv 4) pe_int)
        (pa_cons (cd D51 hr (by rfl) pass0 (pa_cons (pv 0) (pa_cons (pe_op op_powW pe_int pe_int) pa_nil))) pa_nil)))))) (cd D51 hr (by rfl) pass0 (pa_cons (pv 0) (pa_cons pe_int pa_nil))) (fun _ _ => rfl)))))), ?_⟩
    refine ⟨_, rfl, (by show 0 ≤ sizeLine; decide), fun e he => ?_⟩
    have s0 : Same H (upd H e (.lst [])) := Same.new he _
    refine ⟨p, e, ps, rfl, rfl, SqL.of (s0 _ _ hp), SqL.of upd_same, _, rfl, ?_⟩
    generalize hH0 : upd H e (.lst []) = H0 at s0
    have hp0 := s0 _ _ hp
    cases ps with
    | nil =>
      refine ifT rfl ?_
      exact ⟨_, rfl, u, 99, n + 5, rfl, hu.same s0, by decide, by decide, fun H1 x h0 h1 u1 o1 => q H1 x ((Off.of s0).trans o1) (u1.le (by omega)) h0⟩
    | cons v0 vr =>
      refine ifF rfl ?_
      have lp : 0 < (v0 :: vr).length := by simp
      refine ⟨_, rfl, _, rfl, _, rfl, p, _, rfl, .inl (SqL.of hp0), u, _, n + 5, rfl, hu.same s0, by omega, by omega, fun H1 x h0 h1 u1 o1 => ?_⟩
      have hp1 := o1.st _ _ npu hp0
      obtain ⟨j, rfl⟩ := Int.eq_ofNat_of_zero_le h0
      have hj : j < (v0 :: vr).length := by omega
      obtain ⟨tq, l, m, ev, htq⟩ := hv _ (List.getElem_mem hj)
      obtain ⟨_, _, _, hut, _⟩ := id hu
      have ntu : tq ≠ u := ne_of htq hut (by intro z; cases z)
      have htq1 := o1.st _ _ ntu (s0 _ _ htq)
      refine ⟨p, _, _, _, rfl, rfl, SqL.of hp1, at_of (j := j) rfl (by rw [List.getElem?_eq_getElem hj, ev]), ?_⟩
      refine ⟨tq, _, rfl, SqT.of htq1, rfl, _, _, rfl, _, _, rfl, rfl, ?_⟩
      have fin : ∀ y : Int, tSeq (tAsg (tCB (fun xs H Q => ∃ i j, xs = [V.int i, V.int j] ∧ Q (.int (if j > i then j else i)) H) (tCons (tC (.int 0)) (tCons (tOp (rI0 fun i j => .int (i - j)) (tC (.int y)) (tCall spBall [] E0 (tCons (tVar 0) (tCons (tC (.int 9)) tNil)))) tNil))) (gName 4))
          (tRet (tOp (rIxL K) (tLst (tCons (tC (.int 0)) (tCons (tCall spBall [] E0 (tCons (tVar 0) (tCons (tC (.int 12)) tNil))) (tCons (tVar 4) (tCons (tOp (rI CDivW fun i j => .int (i / j)) (tVar 4) (tC (.int 2))) (tCons (tCall spBall [] E0 (tCons (tVar 0) (tCons (tOp (rI L2.CPowW fun i j => .int (i ^ j.toNat)) (tC (.int 10)) (tC (.int 29))) tNil))) tNil))))))
            (tCall spBall [] E0 (tCons (tVar 0) (tCons (tC (.int 5)) tNil))))) { nx := fun _ H' => Q .non H', rt := Q } [some (.ref u), some (.ref p), some (.int l), some (mV m), none] H1 := by
        intro y
        refine ⟨_, rfl, u, 9, n + 4, rfl, u1, by decide, by decide, fun H2 x2 a2 b2 u2 o2 => ?_⟩
        refine ⟨_, _, rfl, rfl, _, _, rfl, ?_⟩
        have nn := mx0 (y - x2)
        generalize (if y - x2 > 0 then y - x2 else 0) = near at nn
        refine ⟨_, rfl, u, 12, n + 3, rfl, u2, by decide, by decide, fun H3 x3 a3 b3 u3 o3 => ?_⟩
        refine ⟨_, rfl, _, rfl, _, _, rfl, rfl, wide_div (b := 4) (by decide) (by decide) (by decide) (by decide), ?_⟩
        have hT : (10 : Int) ^ (29 : Int).toNat = 100000000000000000000000000000 := by decide +kernel
        refine ⟨_, rfl, _, _, rfl, rfl, pw10 (by decide) (by decide), u, _, n + 2, rfl, u3, by rw [hT]; decide, by rw [hT]; decide, fun H4 x4 a4 b4 u4 o4 => ?_⟩
        refine ⟨(by show 5 ≤ sizeLine; decide), fun b hb => ?_⟩
        have s5 : Same H4 (upd H4 b (.lst [.int 0, .int x3, .int near, .int (near / 2), .int x4])) := Same.new hb _
        have nbu : b ≠ u := fun z => u4.some (by rw [← z]; exact hb)
        refine ⟨_, rfl, u, 5, n + 1, rfl, u4.same s5, by decide, by decide, fun H6 x6 a6 b6 u6 o6 => ?_⟩
        obtain ⟨c, hc, ec⟩ := pick (xs := [0, x3, near, near / 2, x4]) a6 b6
        refine ⟨b, _, _, _, rfl, rfl, SqL.of (o6.st _ _ nbu upd_same), ec, ?_⟩
        refine q H6 c ((((((Off.of s0).trans o1).trans o2).trans o3).trans o4).trans ((Off.of s5).trans o6)) (u6.le (by omega)) ?_
        simp only [List.mem_cons, List.not_mem_nil, or_false] at hc
        rcases hc with rfl | rfl | rfl | rfl | rfl <;> omega
      cases m with
      | none => exact ⟨_, rfl, rfl, _, rfl, ifT (by decide) ⟨_, rfl, fin l⟩⟩
      | some z => exact ⟨_, rfl, rfl, _, rfl, ifF (by simp [mV]) ⟨_, rfl, fin z⟩⟩
end
end Bo
end
section
/-! Boastrow: the law's long rows. -/
namespace Bo
open PySem PySem.Spec L2
section
variable {P : Program} {w : World} {K : PySem.W.Frag} {mg : Str → Option Value} {base : Heap} {S O HC NN : Addr}
def lc : Nat → Nat
  | 0 => 61
  | d + 1 => 61 + 5 * lc d
def pc : Nat → Nat
  | 0 => 0
  | d + 1 => lc d
theorem lc_eq (d : Nat) : lc d = 1 + 5 * (12 + pc d) := by
  cases d with
  | zero => rfl
  | succ d =>
    show 61 + 5 * lc d = 1 + 5 * (12 + lc d)
    omega
def UP (u pl : Addr) : Addr → Prop := fun b => b = u ∨ b = pl
def spLong (d : Nat) : Sp := fun vs H Q _ => ∃ (u pl : Addr) (room p1 p2 : Int) (m n : Nat) (R : Hp), vs = [.ref u, .ref pl, .int (d : Nat), .int room] ∧ 0 ≤ room ∧ room ≤ 100000000000000000000000000000 ∧ UrnAt H u (n + lc d) ∧ u ≠ pl ∧
  H pl = some (.lst [.int (m : Nat), .int p1, .int p2]) ∧ 0 ≤ p1 ∧ p1 ≤ 100000000000000000000000000000 ∧ 0 < p2 ∧ p2 ≤ 100000000000000000000000000000 ∧ m ≤ 10 ∧ Same R H ∧ R u = none ∧ R pl = none ∧
  ∀ (R' H' : Hp) (p : Addr) (xs : List V) (t : T) (m' : Nat), Off (UP u pl) H H' → Grow R H R' H' → R' p = some (.lst xs) → Items R' t xs → ok t → depth t ≤ d → (ppl t : Int) ≤ room → size t + m' ≤ m → UrnAt H' u n → H' pl = some (.lst [.int (m' : Nat), .int p1, .int p2]) → Q (.ref p) H'
theorem sc54 : FnScope ["_law_urn_here", "_law_plan", "_law_deep", "_law_room", "_law_found", "_law_k", "_law_again", "_law_inner", "_law_many"] ["_law_urn_here", "_law_plan", "_law_deep", "_law_room"] (defScope (top 54)) := ⟨rfl, rfl, rfl, by decide +kernel, rfl, by decide +kernel, by decide +kernel⟩
theorem Grow.move {X : Addr → Prop} {R H R' H' H2 : Hp} (g : Grow R H R' H') (o : Off X H' H2) (n : ∀ b, X b → R' b = none) : Grow R H R' H2 := ⟨g.rr, o.same g.rh n, g.fr⟩
theorem pc_eq {d : Nat} (h : 0 < d) : pc d = lc (d - 1) := by
  cases d with
  | zero => omega
  | succ d => rfl
theorem fits {mn mx rm : Int} {z : Nat} (h0 : 0 ≤ mn) (h1 : mn ≤ rm / mx) (hz : (z : Int) ≤ mx) (h3 : 0 < mx) : mn * (z : Int) ≤ rm := by
  have e1 : mn * (z : Int) ≤ mn * mx := Int.mul_le_mul_of_nonneg_left hz h0
  have e2 : mn * mx ≤ rm / mx * mx := Int.mul_le_mul_of_nonneg_right h1 (Int.le_of_lt h3)
  have e3 := Int.ediv_mul_le rm (show mx ≠ 0 by omega)
  omega
/-- between two turns, k of them still to come at most -/
def LongAt (R H0 : Hp) (u pl p : Addr) (d : Nat) (room p1 p2 : Int) (m n : Nat) (i : Nat) (σ : St) (H' : Hp) : Prop :=
  ∃ (R' : Hp) (rm : Int) (v5 v6 v7 v8 : Option V) (acc : List V) (ta : T) (m' : Nat), σ = [some (.ref u), some (.ref pl), some (.int (d : Nat)), some (.int rm), some (.ref p), v5, v6, v7, v8] ∧ Off (UP u pl) H0 H' ∧ Grow R H0 R' H' ∧ R' p = none ∧ H' p = some (.lst acc) ∧ Items R' ta acc ∧ ok ta ∧ depth ta ≤ d ∧
    (ppl ta : Int) + rm = room ∧ 0 ≤ rm ∧ size ta + m' ≤ m ∧ UrnAt H' u (n + (5 - i) * (12 + pc d)) ∧ H' pl = some (.lst [.int (m' : Nat), .int p1, .int p2])
theorem d54 (T : Txt K mg S O HC NN) {d k : Nat} (hk : d ≤ 100) (h2k : d + 2 ≤ k) (IH : ∀ e, e + 1 = d → Def P w K mg base CX0 k "_law_long" ["_law_urn_here", "_law_plan", "_law_deep", "_law_room"] (spLong e)) :
    Def P w K mg base CX0 (k + 1) "_law_long" ["_law_urn_here", "_law_plan", "_law_deep", "_law_room"] (spLong d) := by
  have nd := sc54.nd
  have D51 : Def P w K mg base CX0 1 "_law_ball" ["_law_urn_here", "_law_many"] spBall := d51 T
  have D52 : Def P w K mg base CX0 2 "_law_saying" ["_law_urn_here", "_law_wide"] spSaying := d52 T
  have D53 : Def P w K mg base CX0 (d + 1) "_law_people" ["_law_long_here"] (spPeople d) := d53n T d
  have DL : Def P w K mg base CX0 k "_law_long" ["_law_urn_here", "_law_plan", "_law_deep", "_law_room"] (fun vs H Q E => ∃ e, e + 1 = d ∧ spLong e vs H Q E) := by
    cases d with
    | zero =>
      obtain ⟨f, fd, F, m, b⟩ := T.h54
      refine ⟨f, fd, m, F.kp, b, ⟨fun vs H Q E h => ?_, fun A outer s H args us vs Q E _ _ _ _ h => ?_⟩⟩
      · obtain ⟨e, h, _⟩ := h
        omega
      · obtain ⟨e, h, _⟩ := h
        omega
    | succ d =>
      refine (IH d rfl).imp fun vs H Q E h => ?_
      obtain ⟨e, h1, h2⟩ := h
      cases h1
      exact h2
  refine T.h54.ok sc54 (fun vs H Q E h => ?_) (fun f cdv A outer s H vs Q E hr h => ?_)
  · obtain ⟨u, pl, room, p1, p2, m, n, R, rfl, _⟩ := h
    rfl
  · obtain ⟨u, pl, room, p1, p2, m, n, R, rfl, r0, r1, hu, nup, hpl, a0, a1, b0, b1, hm, hR, nRu, nRp, q⟩ := h
    have hr1 : ∀ {j : Nat}, j ≤ 2 → Room j _ := fun h => hr.mono (by omega)
    refine ⟨_, pss_cons (ps_set (i := 4) nd rfl (Or.inl rfl) (pe_lst pa_nil))
      (pss_cons (ps_for PassesOwn.never rfl (pi_range1 (by rfl) T.bRange (pa_cons (pe_ix ix_list (pe_lst (pa_cons pe_int (pa_cons pe_int (pa_cons pe_int (pa_cons pe_int (pa_cons pe_int (pa_cons pe_int pa_nil)))))))
          (cd D51 (hr.mono (by omega)) (by rfl) pass0 (pa_cons (pv 0) (pa_cons pe_int pa_nil))) (fun _ _ => rfl)) pa_nil)) (pg_name (i := 5) nd rfl (Or.inl rfl))
        (pss_cons (ps_set (i := 6) nd rfl (Or.inl rfl) (pe_and (pe_cmpR op_gt (pv 2) pe_int (nomark _)) (pe_one (pe_cmpR op_gt (cd D51 (hr.mono (by omega)) (by rfl) pass0 (pa_cons (pv 0) (pa_cons pe_int pa_nil))) pe_int (nomark _)))))
        (pss_one (ps_if (PW.pt (pw_and (pt_cmpR op_gt (pe_ix ix_list (pv 1) pe_int (fun _ _ => rfl)) pe_int (nomark _)) (pw_and1 (pt_cmpR op_gt (pv 3) pe_int (nomark _)))))
          (pss_cons (ps_asg (pe_op op_sub (pe_ix ix_list (pv 1) pe_int (fun _ _ => rfl)) pe_int) (pg_sub (pv 1) pe_int set_list))
          (pss_one (ps_if (pt_val (pv 6))
            (pss_cons (ps_set (i := 7) nd rfl (Or.inl rfl) (cd DL hr (by rfl) pass0 (pa_cons (pv 0) (pa_cons (pv 1) (pa_cons (pe_op op_sub (pv 2) pe_int) (pa_cons (pv 3) pa_nil))))))
            (pss_cons (ps_set (i := 8) nd rfl (Or.inl rfl) (pe_ix ix_list (pe_lst (pa_cons (cd D51 (hr.mono (by omega)) (by rfl) pass0 (pa_cons (pv 0) (pa_cons pe_int pa_nil)))
                (pa_cons (pe_op op_add pe_int (cd D51 (hr.mono (by omega)) (by rfl) pass0 (pa_cons (pv 0) (pa_cons pe_int pa_nil)))) (pa_cons (cd D51 (hr.mono (by omega)) (by rfl) pass0 (pa_cons (pv 0) (pa_cons (pe_op op_add (pe_ix ix_list (pv 1) pe_int (fun _ _ => rfl)) pe_int) pa_nil))) pa_nil))))
                (cd D51 (hr.mono (by omega)) (by rfl) pass0 (pa_cons (pv 0) (pa_cons pe_int pa_nil))) (fun _ _ => rfl)))
            (pss_cons (ps_set (i := 8) nd rfl (Or.inl rfl) (pe_callB (call_min2 rfl) (by rfl) T.bMin (by decide +kernel) (pa_cons (pv 8) (pa_cons (pe_op op_fdivW (pv 3)
                (pe_callB (call_max2 rfl) (by rfl) T.bMax (by decide +kernel) (pa_cons pe_int (pa_cons (cd D53 (hr.mono (by omega)) (by rfl) pass0 (pa_cons (pv 7) pa_nil)) pa_nil)))) pa_nil))))
            (pss_cons (ps_expr (pe_bm PySem.F.plainAttrs_list PySem.F.slot_list_append PySem.F.type_list_append mt_append (pv 4) (pa_cons (pe_tup (pa_cons pe_str (pa_cons (pv 8) (pa_cons (pv 7) pa_nil)))) pa_nil)))
            (pss_one (ps_set (i := 3) nd rfl (Or.inl rfl) (pe_op op_sub (pv 3) (pe_op op_mulW (pv 8) (cd D53 (hr.mono (by omega)) (by rfl) pass0 (pa_cons (pv 7) pa_nil))))))))))
            (pss_cons (ps_expr (pe_bm PySem.F.plainAttrs_list PySem.F.slot_list_append PySem.F.type_list_append mt_append (pv 4) (pa_cons (cd D52 (hr.mono (by omega)) (by rfl) pass0 (pa_cons (pv 0) (pa_cons (pe_ix ix_list (pv 1) pe_int (fun _ _ => rfl)) pa_nil))) pa_nil)))
            (pss_one (ps_set (i := 3) nd rfl (Or.inl rfl) (pe_op op_sub (pv 3) pe_int)))))))
          pss_nil))))
      (pss_one (ps_ret (pv 4)))), ?_⟩
    have nd0 : 0 ≤ sizeLine := by decide
    refine ⟨nd0, fun p hp => ?_⟩
    have npu : p ≠ u := fun z => hu.some (by rw [← z]; exact hp)
    have nplp : pl ≠ p := ne_of_none hpl hp
    have s0 : Same H (upd H p (.lst [])) := Same.new hp _
    generalize hH1 : upd H p (.lst []) = H1 at s0
    have h1p : H1 p = some (.lst []) := by rw [← hH1, upd_same]
    refine ⟨(by show 6 ≤ sizeLine; decide), fun lb hlb => ?_⟩
    have nlu : lb ≠ u := fun z => (hu.same s0).some (by rw [← z]; exact hlb)
    have s2 : Same H1 (upd H1 lb (.lst [.int 3, .int 1, .int 2, .int 4, .int 5, .int 0])) := Same.new hlb _
    have ec : lc d = 1 + 5 * (12 + pc d) := lc_eq d
    refine ⟨_, rfl, u, 6, n + 5 * (12 + pc d), rfl, ((hu.same s0).same s2).le (by omega), by decide, by decide, fun H3 x x0 x6 u3 o3 => ?_⟩
    obtain ⟨kk, hkk, ekk⟩ := pick (xs := [3, 1, 2, 4, 5, 0]) x0 x6
    have k5 : 0 ≤ kk ∧ kk ≤ 5 := by
      simp only [List.mem_cons, List.not_mem_nil, or_false] at hkk
      rcases hkk with rfl | rfl | rfl | rfl | rfl | rfl <;> omega
    refine ⟨lb, _, _, _, rfl, rfl, SqL.of (o3.st _ _ nlu upd_same), ekk, kk, rfl, by omega, by omega, ?_⟩
    have nXR : ∀ b, UP u pl b → R b = none := fun b e => e.elim (fun z => by rw [z]; exact nRu) fun z => by rw [z]; exact nRp
    have o03 : Off (UP u pl) H H3 := ((Off.of s0).trans (Off.of s2)).trans (o3.mono fun b e => .inl e)
    have nRa0 : R p = none := Same.free hR hp
    refine for_it (walk_range (lo := 0) (n := kk.toNat)) (LongAt R H u pl p d room p1 p2 m n) ?_ (fun _ _ _ _ _ => True.intro) ?_ ?_
    · exact ⟨R, room, none, none, none, none, [], .nil, m, rfl, o03, (Grow.refl hR).move o03 nXR, nRa0, o3.st _ _ npu (s2 _ _ h1p), rfl, True.intro, Nat.zero_le _, by show ((0 : Nat) : Int) + room = room; omega, r0, by show 0 + m ≤ m; omega, u3, o3.st _ _ nup.symm (s2 _ _ (s0 _ _ hpl))⟩
    · rintro i x σ H2 H' hi ⟨R', rm, v5, v6, v7, v8, acc, ta, m', rfl, o, g, nRa, hacc, hI, hok, hdp, hpp, hrm, hsz, hun, hpl'⟩ ⟨rfl, rfl⟩
      have hi5 : i < 5 := by omega
      have e5 : (5 - i) * (12 + pc d) = (5 - (i + 1)) * (12 + pc d) + (12 + pc d) := by
        have e : 5 - i = 5 - (i + 1) + 1 := by omega
        rw [e, Nat.succ_mul]
      rw [e5] at hun
      have nX : ∀ b, UP u pl b → R' b = none := fun b e => e.elim (fun z => by rw [z]; obtain ⟨_, _, _, e1, _⟩ := id hu; exact g.off nRu e1) fun z => by rw [z]; exact g.off nRp hpl
      have hrm2 : rm ≤ 100000000000000000000000000000 := by
        have := Int.natCast_nonneg (ppl ta)
        omega
      have hB : B = 20282409603651670423947251286016 := rfl
      refine ⟨_, rfl, _, _, rfl, rfl, _, rfl, ?_⟩
      by_cases hd0 : 0 < d
      · refine ifT (decide_eq_true (by omega)) ?_
        refine ⟨_, rfl, u, 5, n + (5 - (i + 1)) * (12 + pc d) + (11 + pc d), rfl, hun.le (by omega), by decide, by decide, fun Ha x x0 x5 ua oa => ?_⟩
        refine ⟨_, _, rfl, rfl, ?_⟩
        have hacca := oa.st p _ npu hacc
        have hpla := oa.st pl _ nup.symm hpl'
        have oa : Off (UP u pl) H' Ha := oa.mono fun b e => .inl e
        have ga := g.move oa nX

        refine ⟨_, rfl, pl, _, _, _, rfl, rfl, SqL.of hpla, at_of (j := 0) rfl rfl, _, _, rfl, rfl, _, rfl, ?_⟩
        have stop : LongAt R H u pl p d room p1 p2 m n (i + 1) [some (.ref u), some (.ref pl), some (.int (d : Nat)), some (.int rm), some (.ref p), some (.int (0 + (i : Nat))), some (.bl (decide (2 < x))), v7, v8] Ha :=
          ⟨R', rm, _, _, _, _, acc, ta, m', rfl, o.trans oa, ga, nRa, hacca, hI, hok, hdp, hpp, hrm, hsz, ua.le (by omega), hpla⟩
        by_cases hm1 : ¬ 0 < m'
        · exact ifF (decide_eq_false (by omega)) stop
        have hm0 : 0 < m' := by omega
        refine ifT (decide_eq_true (by omega)) ?_
        refine ⟨_, rfl, _, _, rfl, rfl, _, rfl, ?_⟩
        by_cases hr2 : ¬ 0 < rm
        · exact ifF (decide_eq_false hr2) stop
        have hr0 : 0 < rm := by omega
        refine ifT (decide_eq_true hr0) ?_
        refine ⟨_, rfl, pl, _, _, _, rfl, rfl, SqL.of hpla, at_of (j := 0) rfl rfl, _, _, rfl, rfl, ?_⟩
        refine ⟨_, rfl, pl, _, _, 0, rfl, rfl, hpla, rfl, ?_⟩
        generalize hHb : upd Ha pl (.lst ([V.int (m' : Nat), .int p1, .int p2].set 0 (.int ((m' : Nat) - 1)))) = Hb
        have hplb : Hb pl = some (.lst [.int ((m' - 1 : Nat) : Int), .int p1, .int p2]) := by
          rw [← hHb, upd_same]
          show some (HO.lst [.int ((m' : Nat) - 1), .int p1, .int p2]) = _
          rw [Int.ofNat_sub (show 1 ≤ m' by omega)]
          rfl
        have ob : Off (UP u pl) Ha Hb := by rw [← hHb]; exact (Off.refl Ha).upd (.inr rfl)
        have haccb : Hb p = some (.lst acc) := by rw [← hHb, upd_ne nplp.symm]; exact hacca
        have ub : UrnAt Hb u (n + (5 - (i + 1)) * (12 + pc d) + (11 + pc d)) := by
          refine ua.off (X := (· = pl)) ?_ nup
          rw [← hHb]
          exact (Off.refl Ha).upd rfl
        have gb : Grow R H R' Hb := ga.move ob nX
        have la := hI.len
        have ll := len_le ta

        refine ⟨_, rfl, _, rfl, ?_⟩
        by_cases hx : 2 < x
        · refine ifT (decide_eq_true hx) ?_
          have ud : UrnAt Hb u (n + (5 - (i + 1)) * (12 + pc d) + 10 + lc (d - 1)) := ub.le (by rw [pc_eq hd0]; omega)
          refine ⟨_, rfl, _, rfl, _, rfl, _, _, rfl, rfl, _, rfl, d - 1, by omega, u, pl, rm, p1, p2, m' - 1, _, R', ?_, hrm, hrm2, ud, nup, hplb, a0, a1, b0, b1, by omega, gb.rh, nX u (.inl rfl), nX pl (.inr rfl), fun R2 Hc pi xs tb m2 oc gc hpi hIb hkb hdb hpb hsb uc hplc => ?_⟩
          · rw [Int.ofNat_sub (show 1 ≤ d by omega)]
            rfl
          have nup3 : ¬ UP u pl p := fun e => e.elim npu fun z => nplp z.symm
          have haccc := oc.st p _ nup3 haccb
          have nX2 : ∀ b, UP u pl b → R2 b = none := fun b e => e.elim (fun z => by rw [z]; obtain ⟨_, _, _, e1, _⟩ := id ub; exact gc.off (nX u (.inl rfl)) e1) fun z => by rw [z]; exact gc.off (nX pl (.inr rfl)) hplb
          have nRa2 : R2 p = none := gc.off nRa haccb
          have npp : pl ≠ u := nup.symm
          refine ⟨_, rfl, u, 4, n + (5 - (i + 1)) * (12 + pc d) + 9, rfl, uc.le (by omega), by decide, by decide, fun Hd y1 c1 e1 ud1 od => ?_⟩
          refine ⟨_, rfl, u, 9, n + (5 - (i + 1)) * (12 + pc d) + 8, rfl, ud1, by decide, by decide, fun He y2 c2 e2 ue oe => ?_⟩
          have hple := oe.st pl _ npp (od.st pl _ npp hplc)
          refine ⟨_, _, rfl, rfl, _, rfl, _, rfl, pl, _, _, _, rfl, rfl, SqL.of hple, at_of (j := 1) rfl rfl, _, _, rfl, rfl, u, _, n + (5 - (i + 1)) * (12 + pc d) + 7, rfl, ue, by omega, by omega, fun Hf y3 c3 e3 uf og => ?_⟩
          refine ⟨(by show 3 ≤ sizeLine; decide), fun lb2 hlb2 => ?_⟩
          have nl2u : lb2 ≠ u := fun z => uf.some (by rw [← z]; exact hlb2)
          have s7 : Same Hf (upd Hf lb2 (.lst [.int y1, .int (2 + y2), .int y3])) := Same.new hlb2 _
          refine ⟨_, rfl, u, 3, n + (5 - (i + 1)) * (12 + pc d) + 6, rfl, uf.same s7, by decide, by decide, fun Hg y4 c4 e4 ug oh => ?_⟩
          obtain ⟨v, hv, ev⟩ := pick (xs := [y1, 2 + y2, y3]) c4 e4
          have v0 : 0 ≤ v := by
            simp only [List.mem_cons, List.not_mem_nil, or_false] at hv
            rcases hv with rfl | rfl | rfl <;> omega
          refine ⟨lb2, _, _, _, rfl, rfl, SqL.of (oh.st _ _ nl2u upd_same), ev, ?_⟩
          have ocg : Off (· = u) Hc Hg := (((od.trans oe).trans og).trans (Off.of s7)).trans oh
          have hplg := ocg.st pl _ npp hplc
          have haccg := ocg.st p _ npu haccc
          have gg : Grow R' Hb R2 Hg := gc.move ocg fun b e => nX2 b (.inl e)
          have hpig := gg.rh _ _ hpi
          refine ⟨_, rfl, _, rfl, _, rfl, pi, xs, tb, rfl, hpig, hIb.mono gg.rh, hkb, by omega, _, _, rfl, ?_⟩
          have hmx : ∃ mx : Int, (if ((ppl tb : Nat) : Int) > 1 then ((ppl tb : Nat) : Int) else 1) = mx ∧ 0 < mx ∧ (ppl tb : Int) ≤ mx ∧ mx ≤ 100000000000000000000000000000 := by
            refine ⟨_, rfl, ?_⟩
            by_cases z : ((ppl tb : Nat) : Int) > 1
            · rw [if_pos z]; omega
            · rw [if_neg z]; omega
          obtain ⟨mx, emx, mx0, mx1, mx2⟩ := hmx
          rw [emx]
          refine ⟨_, _, rfl, rfl, wide_div (b := 120) mx0 (na (Int.le_of_lt mx0) (show mx < 200000000000000000000000000000 by omega) (by decide)) (by decide) (by decide), _, _, rfl, ?_⟩
          have q0 : 0 ≤ rm / mx := Int.ediv_nonneg hrm (Int.le_of_lt mx0)
          have hmn : ∃ N : Nat, (if rm / mx < v then rm / mx else v) = ((N : Nat) : Int) ∧ (N : Int) ≤ rm / mx := by
            by_cases z : rm / mx < v
            · exact ⟨(rm / mx).toNat, by rw [if_pos z, Int.toNat_of_nonneg q0], by rw [Int.toNat_of_nonneg q0]; exact Int.le_refl _⟩
            · exact ⟨v.toNat, by rw [if_neg z, Int.toNat_of_nonneg v0], by rw [Int.toNat_of_nonneg v0]; omega⟩
          obtain ⟨N, eN, hN⟩ := hmn
          rw [eN]
          have hNp := fits (Int.natCast_nonneg N) hN mx1 mx0
          have hq : rm / mx ≤ rm := Int.ediv_le_self mx hrm
          refine ⟨_, rfl, .inl ⟨rfl, _, SqL.of haccg⟩, _, rfl, _, rfl, (by show 3 ≤ sizeLine; decide), fun tq nt => ?_⟩
          have npt : p ≠ tq := ne_of_none haccg nt
          have nplt : pl ≠ tq := ne_of_none hplg nt
          have nut : u ≠ tq := fun z => ug.some (by rw [z]; exact nt)
          have sT : Same Hg (upd Hg tq (.tup [.str "again", .int (N : Nat), .ref pi])) := Same.new nt _
          refine ⟨p, acc, _, rfl, rfl, sT _ _ haccg, small1000 (by omega), ?_⟩
          generalize hHh : upd (upd Hg tq (.tup [.str "again", .int (N : Nat), .ref pi])) p (.lst (acc ++ [.ref tq])) = Hh
          have hho : ∀ b o, b ≠ p → Hg b = some o → Hh b = some o := fun b o hb e => by rw [← hHh, upd_ne hb]; exact sT _ _ e
          have htq : Hh tq = some (.tup [.str "again", .int (N : Nat), .ref pi]) := by rw [← hHh, upd_ne npt.symm, upd_same]
          have npip : pi ≠ p := ne_of_none hpi nRa2
          have nR2q : R2 tq = none := Same.free gg.rh nt
          have s2h : Same R2 Hh := fun b o e => hho b o (ne_of_none e nRa2) (gg.rh _ _ e)
          refine ⟨_, rfl, _, rfl, _, rfl, pi, xs, tb, rfl, s2h _ _ hpi, hIb.mono s2h, hkb, by omega, _, _, rfl, rfl, ?_⟩
          have ppB : (ppl tb : Int) < B := by rw [hB]; omega
          have NB : (N : Int) < B := by rw [hB]; omega
          refine ⟨mulB (Int.natCast_nonneg _) NB (Int.natCast_nonneg _) ppB, _, _, rfl, rfl, ?_⟩
          have ob0 := ((o.trans oa).trans ob)
          have ocg' : Off (UP u pl) Hc Hg := ocg.mono fun b e => .inl e
          have oH : Off (UP u pl) H Hh := by
            rw [← hHh]
            exact ((((ob0.trans oc).trans ocg').trans (Off.of sT))).own hp
          have gA : Grow R H R2 Hh := by
            have z := gb.trans gg fun c hc => ob0.th c hc
            exact ⟨z.rr, s2h, z.fr⟩
          have ge := gA.add htq nR2q (((ob0.trans oc).trans ocg').th _ nt)
          have sE : Same R2 (upd R2 tq (.tup [.str "again", .int (N : Nat), .ref pi])) := Same.new nR2q _
          have hNN : ((N * ppl tb : Nat) : Int) = (N : Int) * (ppl tb : Int) := Int.natCast_mul _ _
          refine ⟨_, rm - (N : Int) * (ppl tb : Int), _, _, _, _, acc ++ [.ref tq], app ta (.rep N tb .nil), m2, rfl, oH, ge, by rw [upd_ne npt]; exact nRa2, by rw [← hHh, upd_same], ((hI.mono gg.rr).mono sE).app ⟨tq, pi, xs, [], rfl, upd_same, sE _ _ hpi, hIb.mono sE, rfl⟩, ok_app hok ⟨⟨NB, ppB, by rw [hNN, hB]; omega, hkb⟩, True.intro⟩, ?_, ?_, by omega, ?_, ?_, hho _ _ nplp hplg⟩
          · rw [depth_app]
            have e : depth (.rep N tb .nil) = max (depth tb + 1) 0 := rfl
            rw [e]
            omega
          · rw [ppl_app]
            have e : ppl (.rep N tb .nil) = N * ppl tb + 0 := rfl
            rw [e, Int.natCast_add, Int.natCast_add, hNN]
            omega
          · rw [size_app]
            have e : size (.rep N tb .nil) = 1 + size tb + 0 := rfl
            omega
          · obtain ⟨z1, z2, z3, z4, z5⟩ := ug.le (m := n + (5 - (i + 1)) * (12 + pc d)) (by omega)
            exact ⟨z1, z2, z3, hho _ _ npu.symm z4, z5⟩
        · refine ifF (decide_eq_false hx) ?_

          have un : UrnAt Hb u (n + (5 - (i + 1)) * (12 + pc d) + 8) := ub.le (by omega)
          refine ⟨_, rfl, .inl ⟨rfl, _, SqL.of haccb⟩, _, rfl, _, rfl, pl, _, _, _, rfl, rfl, SqL.of hplb, at_of (j := 2) rfl rfl, u, p2, _, rfl, un, b0, b1, fun Hc tq l mm oc nt ht uc l0 lB hmm => ?_⟩
          have haccc := oc.st p _ npu haccb
          have hplc := oc.st pl _ nup.symm hplb
          have npt : p ≠ tq := ne_of_none haccb nt
          refine ⟨p, acc, _, rfl, rfl, haccc, small1000 (by omega), ?_⟩
          refine ⟨_, rfl, _, _, rfl, rfl, ?_⟩
          have ob0 := ((o.trans oa).trans ob)
          have oc' : Off (UP u pl) Hb Hc := oc.mono fun b e => .inl e
          have nR'q : R' tq = none := Same.free gb.rh nt
          have gc : Grow R H R' Hc := gb.move oc' nX
          have gd : Grow R H R' (upd Hc p (.lst (acc ++ [.ref tq]))) := ⟨gc.rr, sameOff gc.rh nRa _, gc.fr⟩
          have htq : (upd Hc p (.lst (acc ++ [.ref tq]))) tq = some (.tup [.int l, mV mm]) := by rw [upd_ne npt.symm]; exact ht
          have ge := gd.add htq nR'q (ob0.th _ nt)
          have sE : Same R' (upd R' tq (.tup [.int l, mV mm])) := Same.new nR'q _
          refine ⟨_, rm - 1, _, _, _, _, acc ++ [.ref tq], app ta (.say l mm .nil), m' - 1, rfl, (ob0.trans oc').own hp, ge, by rw [upd_ne npt]; exact nRa, upd_same, (hI.mono sE).app ⟨tq, [], rfl, upd_same, rfl⟩, ok_app hok ⟨⟨l0, lB, hmm⟩, True.intro⟩, ?_, ?_, by omega, ?_, ?_, by rw [upd_ne nplp]; exact hplc⟩
          · rw [depth_app]
            exact Nat.max_le.mpr ⟨hdp, Nat.zero_le _⟩
          · rw [ppl_app]
            have e : ppl (.say l mm .nil) = 1 := rfl
            rw [e, Int.natCast_add]
            omega
          · rw [size_app]
            have e : size (.say l mm .nil) = 1 := rfl
            omega
          · exact uc.off (X := (· = p)) ((Off.refl Hc).upd rfl) npu.symm

      · refine ifF (decide_eq_false (by omega)) ?_
        have oa : Off (UP u pl) H' H' := Off.refl H'
        have ⟨Ha, hHa⟩ : ∃ Ha, Ha = H' := ⟨H', rfl⟩
        subst hHa
        have hacca := hacc
        have hpla := hpl'
        have ga := g
        have ua : UrnAt Ha u (n + (5 - (i + 1)) * (12 + pc d) + (11 + pc d)) := hun.le (by omega)

        refine ⟨_, rfl, pl, _, _, _, rfl, rfl, SqL.of hpla, at_of (j := 0) rfl rfl, _, _, rfl, rfl, _, rfl, ?_⟩
        have stop : LongAt R H u pl p d room p1 p2 m n (i + 1) [some (.ref u), some (.ref pl), some (.int (d : Nat)), some (.int rm), some (.ref p), some (.int (0 + (i : Nat))), some (.bl false), v7, v8] Ha :=
          ⟨R', rm, _, _, _, _, acc, ta, m', rfl, o.trans oa, ga, nRa, hacca, hI, hok, hdp, hpp, hrm, hsz, ua.le (by omega), hpla⟩
        by_cases hm1 : ¬ 0 < m'
        · exact ifF (decide_eq_false (by omega)) stop
        have hm0 : 0 < m' := by omega
        refine ifT (decide_eq_true (by omega)) ?_
        refine ⟨_, rfl, _, _, rfl, rfl, _, rfl, ?_⟩
        by_cases hr2 : ¬ 0 < rm
        · exact ifF (decide_eq_false hr2) stop
        have hr0 : 0 < rm := by omega
        refine ifT (decide_eq_true hr0) ?_
        refine ⟨_, rfl, pl, _, _, _, rfl, rfl, SqL.of hpla, at_of (j := 0) rfl rfl, _, _, rfl, rfl, ?_⟩
        refine ⟨_, rfl, pl, _, _, 0, rfl, rfl, hpla, rfl, ?_⟩
        generalize hHb : upd Ha pl (.lst ([V.int (m' : Nat), .int p1, .int p2].set 0 (.int ((m' : Nat) - 1)))) = Hb
        have hplb : Hb pl = some (.lst [.int ((m' - 1 : Nat) : Int), .int p1, .int p2]) := by
          rw [← hHb, upd_same]
          show some (HO.lst [.int ((m' : Nat) - 1), .int p1, .int p2]) = _
          rw [Int.ofNat_sub (show 1 ≤ m' by omega)]
          rfl
        have ob : Off (UP u pl) Ha Hb := by rw [← hHb]; exact (Off.refl Ha).upd (.inr rfl)
        have haccb : Hb p = some (.lst acc) := by rw [← hHb, upd_ne nplp.symm]; exact hacca
        have ub : UrnAt Hb u (n + (5 - (i + 1)) * (12 + pc d) + (11 + pc d)) := by
          refine ua.off (X := (· = pl)) ?_ nup
          rw [← hHb]
          exact (Off.refl Ha).upd rfl
        have gb : Grow R H R' Hb := ga.move ob nX
        have la := hI.len
        have ll := len_le ta

        refine ⟨_, rfl, _, rfl, iteF ?_⟩

        have un : UrnAt Hb u (n + (5 - (i + 1)) * (12 + pc d) + 8) := ub.le (by omega)
        refine ⟨_, rfl, .inl ⟨rfl, _, SqL.of haccb⟩, _, rfl, _, rfl, pl, _, _, _, rfl, rfl, SqL.of hplb, at_of (j := 2) rfl rfl, u, p2, _, rfl, un, b0, b1, fun Hc tq l mm oc nt ht uc l0 lB hmm => ?_⟩
        have haccc := oc.st p _ npu haccb
        have hplc := oc.st pl _ nup.symm hplb
        have npt : p ≠ tq := ne_of_none haccb nt
        refine ⟨p, acc, _, rfl, rfl, haccc, small1000 (by omega), ?_⟩
        refine ⟨_, rfl, _, _, rfl, rfl, ?_⟩
        have ob0 := ((o.trans oa).trans ob)
        have oc' : Off (UP u pl) Hb Hc := oc.mono fun b e => .inl e
        have nR'q : R' tq = none := Same.free gb.rh nt
        have gc : Grow R H R' Hc := gb.move oc' nX
        have gd : Grow R H R' (upd Hc p (.lst (acc ++ [.ref tq]))) := ⟨gc.rr, sameOff gc.rh nRa _, gc.fr⟩
        have htq : (upd Hc p (.lst (acc ++ [.ref tq]))) tq = some (.tup [.int l, mV mm]) := by rw [upd_ne npt.symm]; exact ht
        have ge := gd.add htq nR'q (ob0.th _ nt)
        have sE : Same R' (upd R' tq (.tup [.int l, mV mm])) := Same.new nR'q _
        refine ⟨_, rm - 1, _, _, _, _, acc ++ [.ref tq], app ta (.say l mm .nil), m' - 1, rfl, (ob0.trans oc').own hp, ge, by rw [upd_ne npt]; exact nRa, upd_same, (hI.mono sE).app ⟨tq, [], rfl, upd_same, rfl⟩, ok_app hok ⟨⟨l0, lB, hmm⟩, True.intro⟩, ?_, ?_, by omega, ?_, ?_, by rw [upd_ne nplp]; exact hplc⟩
        · rw [depth_app]
          exact Nat.max_le.mpr ⟨hdp, Nat.zero_le _⟩
        · rw [ppl_app]
          have e : ppl (.say l mm .nil) = 1 := rfl
          rw [e, Int.natCast_add]
          omega
        · rw [size_app]
          have e : size (.say l mm .nil) = 1 := rfl
          omega
        · exact uc.off (X := (· = p)) ((Off.refl Hc).upd rfl) npu.symm

    · rintro σ H' ⟨R', rm, v5, v6, v7, v8, acc, ta, m', rfl, o, g, nRa, hacc, hI, hok, hdp, hpp, hrm, hsz, hun, hpl'⟩
      exact ⟨_, rfl, q (upd R' p (.lst acc)) H' p acc ta m' o (g.add hacc nRa hp) upd_same (hI.mono (Same.new nRa _)) hok hdp (by omega) hsz (hun.le (by omega)) hpl'⟩
end
end Bo
end
section
/-! Boastrow: near or great, refused. -/
namespace Bo
open PySem PySem.Spec L2
section
variable {P : Program} {w : World} {K : PySem.W.Frag} {mg : Str → Option Value} {base : Heap} {S O HC NN : Addr}
theorem d54n (T : Txt K mg S O HC NN) : Def P w K mg base CX0 5 "_law_long" ["_law_urn_here", "_law_plan", "_law_deep", "_law_room"] (spLong 2) :=
  d54 (k := 4) T (by decide) (by decide) fun e h => by
    cases h
    exact d54 (k := 3) T (by decide) (by decide) fun e h => by
      cases h
      exact d54 (k := 2) T (by decide) (by decide) fun e h => by omega
theorem Off.less {X : Addr → Prop} {H H1 H2 : Hp} {pl : Addr} (a : Off X H H1) (b : Off (fun c => X c ∨ c = pl) H1 H2) (n : H pl = none) : Off X H H2 :=
  ⟨fun c o nx e => b.st c o (fun z => z.elim nx fun q => by rw [q, n] at e; cases e) (a.st c o nx e), fun c e => a.th c (b.th c e)⟩
/-! ### near or great -/
def spNear : Sp := fun vs H Q _ => ∃ (u : Addr) (n : Nat) (R : Hp), vs = [.ref u] ∧ UrnAt H u (n + 1894) ∧ Same R H ∧ R u = none ∧
  ∀ (R' H' : Hp) (p : Addr) (xs : List V) (t : T), Off (· = u) H H' → Grow R H R' H' → R' p = some (.lst xs) → Items R' t xs → ok t → size t ≤ 10 → depth t ≤ 2 → (ppl t : Int) ≤ 100000000000000000000000000000 → UrnAt H' u n → Q (.ref p) H'
theorem sc57 : FnScope ["_law_urn_here", "_law_wide"] ["_law_urn_here"] (defScope (top 57)) := ⟨rfl, rfl, rfl, by decide +kernel, rfl, by decide +kernel, by decide +kernel⟩
theorem d57 (T : Txt K mg S O HC NN) : Def P w K mg base CX0 6 "_law_near_or_great" ["_law_urn_here"] spNear := by
  have nd := sc57.nd
  have D51 : Def P w K mg base CX0 1 "_law_ball" ["_law_urn_here", "_law_many"] spBall := d51 T
  have D54 : Def P w K mg base CX0 5 "_law_long" ["_law_urn_here", "_law_plan", "_law_deep", "_law_room"] (spLong 2) := d54n T
  refine T.h57.ok sc57 (fun vs H Q E h => ?_) (fun f cdv A outer s H vs Q E hr h => ?_)
  · obtain ⟨u, n, R, rfl, _⟩ := h
    rfl
  · obtain ⟨u, n, R, rfl, hu, hR, nRu, q⟩ := h
    refine ⟨_, pss_cons (ps_set (i := 1) nd rfl (Or.inl rfl) (pe_ix ix_list (pe_lst (pa_cons pe_int (pa_cons pe_int (pa_cons (pe_op op_powW pe_int pe_int) (pa_cons (pe_op op_powW pe_int pe_int) pa_nil)))))
          (cd D51 (hr.mono (by omega)) (by rfl) pass0 (pa_cons (pv 0) (pa_cons pe_int pa_nil))) (fun _ _ => rfl)))
      (pss_one (ps_ret (cd D54 hr (by rfl) pass0 (pa_cons (pv 0) (pa_cons (pe_lst (pa_cons pe_int (pa_cons (pe_ix ix_list (pe_lst (pa_cons pe_int (pa_cons pe_int (pa_cons (pe_op op_powW pe_int pe_int) pa_nil))))
          (cd D51 (hr.mono (by omega)) (by rfl) pass0 (pa_cons (pv 0) (pa_cons pe_int pa_nil))) (fun _ _ => rfl)) (pa_cons (pv 1) pa_nil))))
          (pa_cons pe_int (pa_cons (pe_ix ix_list (pe_lst (pa_cons pe_int (pa_cons pe_int (pa_cons (pe_op op_powW pe_int pe_int) pa_nil))))
          (cd D51 (hr.mono (by omega)) (by rfl) pass0 (pa_cons (pv 0) (pa_cons pe_int pa_nil))) (fun _ _ => rfl)) pa_nil))))))), ?_⟩
    have hT : (10 : Int) ^ (29 : Int).toNat = 100000000000000000000000000000 := by decide +kernel
    have h6 : (10 : Int) ^ (6 : Int).toNat = 1000000 := by decide +kernel
    have z3 : 3 ≤ sizeLine := by decide
    refine ⟨_, _, rfl, rfl, pw10 (by decide) (by decide), _, _, rfl, rfl, pw10 (by decide) (by decide), (by show 4 ≤ sizeLine; decide), fun b hb => ?_⟩
    have nbu : b ≠ u := fun z => hu.some (by rw [← z]; exact hb)
    have s1 := Same.new hb (.lst [.int 4, .int 30, .int ((10 : Int) ^ (6 : Int).toNat), .int ((10 : Int) ^ (29 : Int).toNat)])
    refine ⟨_, rfl, u, 4, n + 1893, rfl, hu.same s1, by decide, by decide, fun H1 x x0 x4 u1 o1 => ?_⟩
    obtain ⟨p2, hp2, ep2⟩ := pick (xs := [4, 30, (10 : Int) ^ (6 : Int).toNat, (10 : Int) ^ (29 : Int).toNat]) x0 x4
    have b2 : 0 < p2 ∧ p2 ≤ 100000000000000000000000000000 := by
      simp only [List.mem_cons, List.not_mem_nil, or_false, hT, h6] at hp2
      rcases hp2 with rfl | rfl | rfl | rfl <;> omega
    refine ⟨b, _, _, _, rfl, rfl, SqL.of (o1.st _ _ nbu upd_same), ep2, ?_⟩
    refine ⟨_, rfl, _, _, rfl, rfl, pw10 (by decide) (by decide), z3, fun c hc => ?_⟩
    have ncu : c ≠ u := fun z => u1.some (by rw [← z]; exact hc)
    have s2 := Same.new hc (.lst [.int 3, .int 90, .int ((10 : Int) ^ (29 : Int).toNat)])
    refine ⟨_, rfl, u, 3, n + 1892, rfl, u1.same s2, by decide, by decide, fun H2 y y0 y3 u2 o2 => ?_⟩
    obtain ⟨p1, hp1, ep1⟩ := pick (xs := [3, 90, (10 : Int) ^ (29 : Int).toNat]) y0 y3
    have b1 : 0 < p1 ∧ p1 ≤ 100000000000000000000000000000 := by
      simp only [List.mem_cons, List.not_mem_nil, or_false, hT] at hp1
      rcases hp1 with rfl | rfl | rfl <;> omega
    refine ⟨c, _, _, _, rfl, rfl, SqL.of (o2.st _ _ ncu upd_same), ep1, ?_⟩
    refine ⟨_, rfl, z3, fun pl hpl => ?_⟩
    have npu : pl ≠ u := fun z => u2.some (by rw [← z]; exact hpl)
    have s3 := Same.new hpl (.lst [.int 10, .int p1, .int p2])
    refine ⟨_, _, rfl, rfl, pw10 (by decide) (by decide), z3, fun e he => ?_⟩
    have neu : e ≠ u := fun z => (u2.same s3).some (by rw [← z]; exact he)
    have s4 := Same.new he (.lst [.int 9, .int 300, .int ((10 : Int) ^ (29 : Int).toNat)])
    refine ⟨_, rfl, u, 3, n + 1891, rfl, (u2.same s3).same s4, by decide, by decide, fun H3 z z0 z3' u3 o3 => ?_⟩
    obtain ⟨rm, hrm, erm⟩ := pick (xs := [9, 300, (10 : Int) ^ (29 : Int).toNat]) z0 z3'
    have brm : 0 < rm ∧ rm ≤ 100000000000000000000000000000 := by
      simp only [List.mem_cons, List.not_mem_nil, or_false, hT] at hrm
      rcases hrm with rfl | rfl | rfl <;> omega
    refine ⟨e, _, _, _, rfl, rfl, SqL.of (o3.st _ _ neu upd_same), erm, ?_⟩
    have o02 : Off (· = u) H H2 := (((Off.of s1).trans o1).trans (Off.of s2)).trans o2
    have o03 : Off (· = u) H H3 := ((o02.trans (Off.of s3)).trans (Off.of s4)).trans o3
    have hplH := o02.th _ hpl
    have hR3 : Same R H3 := o03.same hR fun b z => by rw [z]; exact nRu
    refine ⟨u, pl, rm, p1, p2, 10, n, R, rfl, by omega, brm.2, u3, npu.symm, o3.st _ _ npu (s4 _ _ upd_same), by omega, b1.2, b2.1, b2.2, by decide, hR3, nRu, Same.free hR hplH, fun R' H' p xs t m' o g hp hI hok hdp hpp hsz hu' hpl' => ?_⟩
    exact q R' H' p xs t (o03.less o hplH) ⟨g.rr, g.rh, fun b h1 h2 => o03.th _ (g.fr b h1 h2)⟩ hp hI hok (by omega) hdp (by omega) hu'
end
end Bo
end
section
/-! Boastrow: refused. -/
namespace Bo
open PySem PySem.Spec L2
section
variable {P : Program} {w : World} {K : PySem.W.Frag} {mg : Str → Option Value} {base : Heap} {S O HC NN : Addr}
theorem no_m {m : Str} {r d u : Addr} (h1 : (m == ("s10_rows" : Str)) = false := by decide +kernel) (h2 : (m == ("s10_done" : Str)) = false := by decide +kernel) (h3 : (m == ("s10_undone" : Str)) = false := by decide +kernel) : (hf r d u).lookup m = none := hf_no h1 h2 h3
def spRefused (S O HC : Addr) : Sp := fun vs H Q _ => ∃ (h d u a : Addr) (ns : List Str) (c : Int) (R : Hp) (cur : Rws) (hist : List Rws), vs = [.ref h, .ref a, .int c] ∧ HallAt S O HC R H h d u cur hist ∧ NamesAt R a ns ∧ ns.length ≤ 100 ∧ RowsOk cur ∧ (∀ n ∈ ns, NameOk n ∨ n.length = 0) ∧
  (∃ n ∈ ns, ¬ Good cur n) ∧ ∀ H' : Hp, Same H H' → Q (.bl true) H'
theorem sc58 : FnScope ["_law_hall", "_law_names", "_law_company_here", "_law_caught", "e"] ["_law_hall", "_law_names", "_law_company_here"] (defScope (top 58)) := ⟨rfl, rfl, rfl, by decide +kernel, rfl, by decide +kernel, by decide +kernel⟩
theorem d58 (T : Txt K mg S O HC NN) : Def P w K mg base CX0 9 "_law_refused" ["_law_hall", "_law_names", "_law_company_here"] (spRefused S O HC) := by
  have nd := sc58.nd
  have DT : DefM P w K mg base (L2.CX P w) 8 HC "together" ["self", "names", "company"] (spTogether S O HC NN) := dTogether T
  refine T.h58.ok sc58 (fun vs H Q E h => ?_) (fun f cdv A outer s H vs Q E hr h => ?_)
  · obtain ⟨h, d, u, a, ns, c, R, cur, hist, rfl, _⟩ := h
    rfl
  · obtain ⟨h, d, u, a, ns, c, R, cur, hist, rfl, hA, hN, hl, hok, hnm, hb, q⟩ := h
    refine ⟨_, pss_cons (ps_set (i := 3) nd rfl (Or.inl rfl) pe_non)
      (pss_cons (ps_try_as (i := 4) rfl rfl nd rfl rfl ⟨rfl, by decide, .inl T.gP⟩ takes0 (fun W pn xe tk _ => pss_one (ps_expr (cmS DT (pv 0) T.cH hr (fun σ => passAt tk σ) (pa_cons (pv 1) (pa_cons (pv 2) pa_nil)))))
        (fun a oe cls d pn hz hf => pss_one (ps_set (i := 3) nd rfl (Or.inl rfl) (pv 4))))
      (pss_one (ps_ret (pe_cmpR op_notN (pv 3) pe_non (nomark _))))), ?_⟩
    obtain ⟨dx, r, hh, hcur⟩ := hA.ob
    refine ⟨_, rfl, h, dx, _, rfl, hh, no_m, _, rfl, _, rfl, h, d, u, a, ns, c, R, cur, hist, rfl, hA, hN, hl, hok, hnm, .inr ⟨hb, fun H' s' => ⟨true, T.eP, fun _ b hb => ?_, fun z => Bool.noConfusion z⟩⟩⟩
    refine ⟨_, rfl, ?_⟩
    exact ⟨_, rfl, rfl, q H' s'⟩
end
end Bo
end
section
/-! Boastrow: sorted names; rows alike; the line of rows. -/
namespace Bo
open PySem PySem.Spec L2
/-! ### sorted names are one -/
def leS (a b : Str) : Prop := a.cps.toList ≤ b.cps.toList
theorem leS_of {a b : Str} (h : (!ltCps b.cps.toList a.cps.toList) = true) : leS a b := by
  rw [PyProof.Rows.ltCps_eq] at h
  have h : ¬ b.cps.toList < a.cps.toList := by simpa using h
  exact List.not_lt.mp h
theorem rising_pw : ∀ (l : List Str) (p : Str), PyProof.Rows.risingS p l = true → (p :: l).Pairwise leS
  | [], p, _ => List.pairwise_singleton _ _
  | x :: r, p, h => by
    have h : (!ltCps x.cps.toList p.cps.toList && PyProof.Rows.risingS x r) = true := h
    rw [Bool.and_eq_true] at h
    have h1 := leS_of h.1
    have ih := rising_pw r x h.2
    refine List.Pairwise.cons (fun y hy => ?_) ih
    rcases List.mem_cons.mp hy with rfl | hy
    · exact h1
    · exact List.le_trans h1 ((List.pairwise_cons.mp ih).1 y hy)
theorem sorted_pw : ∀ (l : List Str), PyProof.Rows.sortedS l = true → l.Pairwise leS
  | [], _ => List.Pairwise.nil
  | x :: r, h => rising_pw r x h
theorem str_ext {a b : Str} (h : a.cps.toList = b.cps.toList) : a = b := by
  cases a with
  | mk x =>
    cases b with
    | mk y =>
      have h : x.toList = y.toList := h
      rw [Array.toList_inj.mp h]
theorem sorted_one {l k m : List Str} (h1 : l.Perm m) (h2 : k.Perm m) (s1 : PyProof.Rows.sortedS l = true) (s2 : PyProof.Rows.sortedS k = true) : l = k :=
  List.Perm.eq_of_pairwise (le := leS) (fun a b _ _ x y => str_ext (List.le_antisymm x y)) (sorted_pw l s1) (sorted_pw k s2) (h1.trans h2.symm)
/-! ### rows alike -/
structure Eqv (t t' : T) : Prop where
  f : ∀ c, F t c = F t' c
  g : ∀ c, G t c = G t' c
  p : ppl t = ppl t'
theorem Eqv.slim {t t' : T} (h : Eqv t t') : Eqv (slim t) t' := ⟨fun c => (F_slim t c).trans (h.f c), fun c => (G_slim t c).trans (h.g c), (ppl_slim t).trans h.p⟩
theorem Eqv.refl (t : T) : Eqv t t := ⟨fun _ => rfl, fun _ => rfl, rfl⟩
theorem Eqv.app {t t' u u' : T} (a : Eqv t t') (b : Eqv u u') : Eqv (Bo.app t u) (Bo.app t' u') :=
  ⟨fun c => by rw [F_app, F_app, b.f, a.f], fun c => by rw [G_app, G_app, a.g, b.g], by rw [ppl_app, ppl_app, a.p, b.p]⟩
def Rel (cur law : Rws) : Prop := Paired (fun p q => p.1 = q.1 ∧ Eqv p.2 q.2) cur law
theorem Rel.keys {cur law : Rws} (h : Rel cur law) : cur.map (·.1) = law.map (·.1) := by
  unfold Rel at h
  induction h with
  | nil => rfl
  | cons h t ih => rw [List.map_cons, List.map_cons, h.1, ih]
theorem Rel.slim {cur law : Rws} (h : Rel cur law) : Rel (slimR cur) law := by
  unfold Rel at h ⊢
  induction h with
  | nil => exact .nil
  | cons h t ih => exact .cons ⟨h.1, h.2.slim⟩ ih
theorem Rel.snoc {cur law : Rws} (h : Rel cur law) (n : Str) (t : T) : Rel (cur ++ [(n, t)]) (law ++ [(n, t)]) := by
  unfold Rel at h ⊢
  exact h.snoc ⟨rfl, Eqv.refl t⟩
theorem Rel.get {cur law : Rws} {n : Str} (h : Rel cur law) : (getR law n = none ∧ getR cur n = none) ∨ ∃ t t', getR law n = some t' ∧ getR cur n = some t ∧ Eqv t t' := by
  unfold Rel at h
  induction h with
  | nil => exact .inl ⟨rfl, rfl⟩
  | @cons p q _ _ h t ih =>
    by_cases e : q.1 = n
    · exact .inr ⟨p.2, q.2, getR_pos e, getR_pos (h.1.trans e), h.2⟩
    · rw [getR_neg e, getR_neg (fun z => e (h.1.symm.trans z))]
      exact ih
/-! ### the rows of some names, one behind the other -/
def Lof (law : Rws) (ns : List Str) : T := ns.foldr (fun n x => app ((getR law n).getD .nil) x) .nil
theorem Lof_snoc (law : Rws) (n : Str) : ∀ ns : List Str, Lof law (ns ++ [n]) = app (Lof law ns) ((getR law n).getD .nil)
  | [] => app_nil _
  | m :: ns => by
    show app _ (Lof law (ns ++ [n])) = app (app _ (Lof law ns)) _
    rw [Lof_snoc law n ns, app_assoc]
theorem Lof_F (law : Rws) (c : Int) : ∀ ns : List Str, F (Lof law ns) c = Ftot law ns c
  | [] => rfl
  | m :: ns => by
    show F (app _ (Lof law ns)) c = _
    rw [F_app, Lof_F law c ns]
    rfl
theorem Ftot_rel {cur law : Rws} (h : Rel cur law) (c : Int) : ∀ ns : List Str, Ftot cur ns c = Ftot law ns c
  | [] => rfl
  | m :: ns => by
    show F ((getR cur m).getD .nil) (Ftot cur ns c) = F ((getR law m).getD .nil) (Ftot law ns c)
    rw [Ftot_rel h c ns]
    rcases h.get (n := m) with ⟨e1, e2⟩ | ⟨t, t', e1, e2, e⟩
    · rw [e1, e2]
    · rw [e1, e2]
      exact e.f _
/-- a law's row -/
structure Row (t : T) : Prop where
  ok : ok t
  sz : size t ≤ 10
  dp : depth t ≤ 2
  pp : (ppl t : Int) ≤ 100000000000000000000000000000
theorem Row.nil : Row .nil := ⟨True.intro, by decide, by decide, by decide⟩
theorem Row.fit {t : T} (h : Row t) : Fit t := ⟨h.ok, Nat.le_trans h.sz (by decide)⟩
def RowsR (law : Rws) : Prop := ∀ p ∈ law, Row p.2
theorem RowsR.get {law : Rws} (h : RowsR law) (n : Str) : Row ((getR law n).getD .nil) := by
  cases e : getR law n with
  | none => exact Row.nil
  | some t => exact h _ (getR_mem e)
structure Line (k : Nat) (t : T) : Prop where
  ok : ok t
  sz : size t ≤ 10 * k
  dp : depth t ≤ 2
  pp : (ppl t : Int) ≤ 100000000000000000000000000000 * k
theorem Lof_line {law : Rws} (h : RowsR law) : ∀ ns : List Str, Line ns.length (Lof law ns)
  | [] => ⟨True.intro, Nat.le_refl _, Nat.zero_le _, by show ((0 : Nat) : Int) ≤ _; simp⟩
  | n :: ns => by
    have a := h.get n
    have b := Lof_line h ns
    have h1 := a.sz
    have h2 := b.sz
    have h3 := a.pp
    have h4 := b.pp
    refine ⟨ok_app a.ok b.ok, ?_, ?_, ?_⟩
    · show size (app _ (Lof law ns)) ≤ 10 * (ns.length + 1)
      rw [size_app]
      omega
    · show depth (app _ (Lof law ns)) ≤ 2
      rw [depth_app]
      exact Nat.max_le.mpr ⟨a.dp, b.dp⟩
    · show ((ppl (app _ (Lof law ns)) : Nat) : Int) ≤ 100000000000000000000000000000 * ((ns.length + 1 : Nat) : Int)
      rw [ppl_app]
      omega
end Bo
end
section
/-! Boastrow: joined right. -/
namespace Bo
open PySem PySem.Spec L2
/-! ### a hall's way -/
structure Moved (R H R' H' : Hp) (h d u u' : Addr) : Prop where
  gr : Grow R H R' H'
  un : H u' = none ∨ u' = u
  fr : ∀ b o, b ≠ h → b ≠ d → b ≠ u → H b = some o → H' b = some o
  th : ∀ b, H b ≠ none → H' b ≠ none
section
variable {R H R1 H1 R2 H2 : Hp} {h d u u1 u2 : Addr}
theorem Moved.free (m : Moved R H R1 H1 h d u u1) {b : Addr} (e : H1 b = none) : H b = none := by
  cases z : H b with
  | none => rfl
  | some o => exact absurd e (m.th b (by rw [z]; exact fun q => nomatch q))
theorem Moved.of (hR : Same R H) (s : Same H H1) : Moved R H R H1 h d u u :=
  ⟨(Grow.refl hR).same s, .inr rfl, fun b o _ _ _ e => s b o e, fun b e z => e (Same.free s z)⟩
theorem Moved.trans (a : Moved R H R1 H1 h d u u1) (b : Moved R1 H1 R2 H2 h d u1 u2) : Moved R H R2 H2 h d u u2 := by
  refine ⟨a.gr.trans b.gr fun c e => a.free e, ?_, fun c o n1 n2 n3 e => ?_, fun c e => b.th c (a.th c e)⟩
  · rcases b.un with z | z
    · exact .inl (a.free z)
    · rw [z]; exact a.un
  · refine b.fr c o n1 n2 (fun z => ?_) (a.fr c o n1 n2 n3 e)
    rcases a.un with q | q
    · rw [z, q] at e; cases e
    · exact n3 (z.trans q)
theorem Moved.same (a : Moved R H R1 H1 h d u u1) (s : Same H1 H2) : Moved R H R1 H2 h d u u1 := a.trans (.of a.gr.rh s)
end
theorem Kept.go {S O HC : Addr} {R H : Hp} {h d u : Addr} {cur : Rws} {hist : List Rws} {Q : Hp → Prop} (q : Kept S O HC R H h d u cur hist Q) {R' H' : Hp} {u' : Addr} (m : Moved R H R' H' h d u u') (hA : HallAt S O HC R' H' h d u' cur hist) : Q H' :=
  q R' H' u' m.gr m.un m.fr m.th hA
theorem kept_of {S O HC : Addr} {R H : Hp} {h d u : Addr} {cur : Rws} {hist : List Rws} {Q : Hp → Prop} (q : ∀ (R' H' : Hp) (u' : Addr), Moved R H R' H' h d u u' → HallAt S O HC R' H' h d u' cur hist → Q H') : Kept S O HC R H h d u cur hist Q :=
  fun R' H' u' g hu fr th hA => q R' H' u' ⟨g, hu, fr, th⟩ hA
/-! ### the law's dict of long rows -/
def EntI (R : Hp) (kv : Key × V) (p : Str × T) : Prop := kv.1 = Sum.inr p.1 ∧ ∃ a vs, kv.2 = .ref a ∧ R a = some (.lst vs) ∧ Items R p.2 vs
theorem EntI.mono {R R' : Hp} (s : Same R R') {kv : Key × V} {p : Str × T} (h : EntI R kv p) : EntI R' kv p := by
  obtain ⟨e, a, vs, e2, h1, h2⟩ := h
  exact ⟨e, a, vs, e2, s _ _ h1, h2.mono s⟩
theorem entsI_mono {R R' : Hp} (s : Same R R') {kvs : List (Key × V)} {rows : Rws} (h : Paired (EntI R) kvs rows) : Paired (EntI R') kvs rows := L2.Paired.mapP h fun _ _ z => z.mono s
theorem entsI_keys {R : Hp} : ∀ {kvs : List (Key × V)} {rows : Rws}, Paired (EntI R) kvs rows → kvs.map (·.1) = rows.map fun p => Sum.inr p.1
  | _, _, .nil => rfl
  | _, _, .cons h t => by rw [List.map_cons, List.map_cons, h.1, entsI_keys t]
theorem entsI_get {R : Hp} {n : Str} : ∀ {kvs : List (Key × V)} {rows : Rws}, Paired (EntI R) kvs rows →
    (getR rows n = none ∧ valV kvs (Sum.inr n) = none) ∨ ∃ t a vs, getR rows n = some t ∧ valV kvs (Sum.inr n) = some (.ref a) ∧ R a = some (.lst vs) ∧ Items R t vs
  | _, _, .nil => .inl ⟨rfl, rfl⟩
  | _, _, .cons (a := kv) (b := p) h t => by
    obtain ⟨e, a, vs, e2, h1, h2⟩ := h
    by_cases q : p.1 = n
    · refine .inr ⟨p.2, a, vs, getR_pos q, ?_, h1, h2⟩
      rw [valV_pos (by rw [e, q]), e2]
    · rw [getR_neg q, valV_neg (by rw [e]; exact fun z => q (Sum.inr.inj z))]
      exact entsI_get t
def LawD (R : Hp) (lr : Addr) (law : Rws) : Prop := ∃ kvs, R lr = some (.dK kvs) ∧ Paired (EntI R) kvs law
theorem LawD.mono {R R' : Hp} (s : Same R R') {lr : Addr} {law : Rws} (h : LawD R lr law) : LawD R' lr law := by
  obtain ⟨kvs, h1, h2⟩ := h
  exact ⟨kvs, s _ _ h1, entsI_mono s h2⟩
theorem atI_last {xs : List V} {x : V} : atI (xs ++ [x]) (-1) = some x := by
  unfold atI ixN
  rw [if_neg (by decide), if_pos (by rw [List.length_append]; show -((xs.length + 1 : Nat) : Int) ≤ -1; omega)]
  have e : ((-1 : Int) + ((xs ++ [x]).length : Int)).toNat = xs.length := by
    rw [List.length_append]
    show ((-1 : Int) + ((xs.length + 1 : Nat) : Int)).toNat = _
    omega
  rw [e]
  show (xs ++ [x])[xs.length]? = some x
  simp
theorem cut1 {x : V} {r : List V} : cutV (x :: r) (some 1) none = r := by
  unfold cutV
  have e1 : HT.sIx (x :: r).length 0 (some 1) = 1 := by
    unfold HT.sIx
    simp only
    rw [if_neg (by decide)]
    show min 1 (r.length + 1) = 1
    omega
  have e2 : HT.sIx (x :: r).length (x :: r).length none = r.length + 1 := rfl
  rw [e1, e2]
  show (List.take (r.length + 1 - 1) r) = r
  simp
theorem NameOk.pos {n : Str} (h : NameOk n) : n.length ≠ 0 := by
  have := h.l1
  omega
section
variable {P : Program} {w : World} {K : PySem.W.Frag} {mg : Str → Option Value} {base : Heap} {S O HC NN : Addr}
structure JoinIn (R : Hp) (cur law : Rws) (a lr : Addr) (ns : List Str) (hist : List Rws) : Prop where
  nm : R a = some (.lst (ns.map V.str))
  ld : LawD R lr law
  rl : Rel cur law
  rr : RowsR law
  ro : RowsOk cur
  sz : ∀ p ∈ cur, size p.2 ≤ 10
  lw : law.length ≤ 5
  n5 : ns.length ≤ 5
  nd : ns.Nodup
  ok : ∀ n ∈ ns, NameOk n ∧ ∃ t, getR law n = some t
  hs : hist.length ≤ 100
theorem strs_eqv {K : PySem.W.Frag} {H : Hp} : ∀ ys : List Str, Paired (EqV K H 1) (ys.map V.str) (ys.map V.str)
  | [] => .nil
  | y :: r => .cons (.inl ⟨rfl, rfl⟩) (strs_eqv r)
/-- joining, between two turns -/
def JoinAt (S O HC : Addr) (R H6 : Hp) (h d u a lr p : Addr) (n0 : Str) (tail : List Str) (c wh gl ws : Int) (cur law : Rws) (hist : List Rws) (j : Nat) (σ : St) (H' : Hp) : Prop :=
  ∃ (R' : Hp) (u' : Addr) (cur' : Rws) (st : List Rws) (v5 : Option V), σ = [some (.ref h), some (.ref a), some (.ref lr), some (.int c), some (.ref p), v5, some (.int wh), some (.int gl), some (.int ws)] ∧ Moved R H6 R' H' h d u u' ∧ HallAt S O HC R' H' h d u' cur' (hist ++ st) ∧
    st.length = j ∧ (st ++ [cur']).head? = some cur ∧ RowsOk cur' ∧ (∃ t, getR cur' n0 = some t ∧ Eqv t (Lof law (n0 :: tail.take j)) ∧ size t ≤ 10 * (j + 1)) ∧ ∀ m ∈ tail.drop j, ∃ v, getR cur' m = some v ∧ Eqv v ((getR law m).getD .nil) ∧ size v ≤ 10
/-- undoing, between two turns -/
def UndoAt (S O HC : Addr) (R H6 : Hp) (h d u a lr p : Addr) (c wh gl ws : Int) (k : Nat) (cur : Rws) (hist : List Rws) (j : Nat) (σ : St) (H' : Hp) : Prop :=
  ∃ (R' : Hp) (u' : Addr) (cur' : Rws) (st : List Rws) (v5 : Option V), σ = [some (.ref h), some (.ref a), some (.ref lr), some (.int c), some (.ref p), v5, some (.int wh), some (.int gl), some (.int ws)] ∧ Moved R H6 R' H' h d u u' ∧ HallAt S O HC R' H' h d u' cur' (hist ++ st) ∧
    st.length = k - j ∧ (st ++ [cur']).head? = some cur
def spJoined (S O HC : Addr) : Sp := fun vs H Q _ => ∃ (h d u a lr : Addr) (n0 : Str) (tail : List Str) (c : Int) (R : Hp) (cur law : Rws) (hist : List Rws), vs = [.ref h, .ref a, .ref lr, .int c] ∧ HallAt S O HC R H h d u cur hist ∧ JoinIn R cur law a lr (n0 :: tail) hist ∧ 0 ≤ c ∧
  Kept S O HC R H h d u cur hist fun H' => Q (.bl true) H'
theorem sc59 : FnScope ["_law_hall", "_law_names", "_law_rows", "_law_company_here", "_law_line", "_law_name", "_law_whole", "_law_goal", "_law_wish"] ["_law_hall", "_law_names", "_law_rows", "_law_company_here"] (defScope (top 59)) := ⟨rfl, rfl, rfl, by decide +kernel, rfl, by decide +kernel, by decide +kernel⟩
theorem d59 (T : Txt K mg S O HC NN) : Def P w K mg base CX0 12 "_law_joined_right" ["_law_hall", "_law_names", "_law_rows", "_law_company_here"] (spJoined S O HC) := by
  have nd := sc59.nd
  have DF : Def P w K mg base CX0 11 "far_total" ["long", "company"] spFarTotal := d39 T
  have DL : DefM P w K mg base CX0 7 HC "least" ["self", "name", "total"] (spLeast S O HC) := dLeast T
  have DT : DefM P w K mg base (L2.CX P w) 8 HC "together" ["self", "names", "company"] (spTogether S O HC NN) := dTogether T
  have DJ : DefM P w K mg base CX0 5 HC "join_to" ["self", "name", "other"] (spJoin S O HC) := dJoin T
  have DU : DefM P w K mg base CX0 1 HC "undo" ["self"] (spUndo S O HC) := dUndo T
  have DN : DefM P w K mg base CX0 1 HC "names" ["self"] (spNames S O HC) := dNames T
  have DX : DefM P w K mg base CX0 8 HC "total" ["self", "name", "company"] (spTotal S O HC) := dTotal T
  refine T.h59.ok sc59 (fun vs H Q E h => ?_) (fun f cdv A outer s H vs Q E hr h => ?_)
  · obtain ⟨h, d, u, a, lr, n0, tail, c, R, cur, law, hist, rfl, _⟩ := h
    rfl
  · obtain ⟨h, d, u, a, lr, n0, tail, c, R, cur, law, hist, rfl, hA, J, hc, q⟩ := h
    refine ⟨_, pss_cons (ps_set (i := 4) nd rfl (Or.inl rfl) (pe_lst pa_nil))
      (pss_cons (ps_for PassesOwn.never rfl (pi_list (pv 1)) (pg_name (i := 5) nd rfl (Or.inl rfl))
        (pss_one (ps_expr (pe_bm PySem.F.plainAttrs_list PySem.F.slot_list_extend PySem.F.type_list_extend mt_extend (pv 4) (pa_cons (pe_dget (hu_of hr) (pv 2) (pv 5) (fun _ _ => rfl)) pa_nil)))))
      (pss_cons (ps_set (i := 6) nd rfl (Or.inl rfl) (cd DF hr (by rfl) pass0 (pa_cons (pv 4) (pa_cons (pv 3) pa_nil))))
      (pss_cons (ps_set (i := 7) nd rfl (Or.inl rfl) (cm DL (pv 0) T.cH (hr.mono (by decide)) pass0 (pa_cons (pe_ix ix_list (pv 1) (pe_un un_neg pe_int) (fun _ _ => rfl)) (pa_cons pe_int pa_nil))))
      (pss_cons (ps_if (PW.pt (pw_or (pt_cmpR op_ne (pv 7) pe_int (nomark _)) (pw_or1 (pt_cmpR op_ne (cm DT (pv 0) T.cH (hr.mono (by decide)) passL (pa_cons (pv 1) (pa_cons (pv 3) pa_nil))) (pv 6) (nomark _))))) (pss_one (ps_ret pe_bl)) pss_nil)
      (pss_cons (ps_set (i := 8) nd rfl (Or.inl rfl) (pv 6))
      (pss_cons (ps_for PassesOwn.never rfl (pi_list (pv 1)) (pg_name (i := 5) nd rfl (Or.inl rfl)) (pss_one (ps_set (i := 8) nd rfl (Or.inl rfl) (cm DL (pv 0) T.cH (hr.mono (by decide)) pass0 (pa_cons (pv 5) (pa_cons (pv 8) pa_nil))))))
      (pss_cons (ps_for PassesOwn.never rfl (pi_list (pe_slice sl_list (pv 1) (po_some pe_int) po_none)) (pg_name (i := 5) nd rfl (Or.inl rfl)) (pss_one (ps_expr (cm DJ (pv 0) T.cH (hr.mono (by decide)) pass0 (pa_cons (pe_ix ix_list (pv 1) pe_int (fun _ _ => rfl)) (pa_cons (pv 5) pa_nil))))))
      (pss_cons (ps_if (PW.pt (pw_or (pt_cmpR op_ne (cm DX (pv 0) T.cH (hr.mono (by decide)) pass0 (pa_cons (pe_ix ix_list (pv 1) pe_int (fun _ _ => rfl)) (pa_cons (pv 3) pa_nil))) (pv 6) (nomark _))
          (pw_or (pt_cmpR op_ne (cm DL (pv 0) T.cH (hr.mono (by decide)) pass0 (pa_cons (pe_ix ix_list (pv 1) pe_int (fun _ _ => rfl)) (pa_cons (pv 6) pa_nil))) (pv 8) (nomark _)) (pw_or1 (pt_cmpR op_gt (pv 8) (pv 3) (nomark _)))))) (pss_one (ps_ret pe_bl)) pss_nil)
      (pss_cons (ps_for PassesOwn.never rfl (pi_list (pe_slice sl_list (pv 1) (po_some pe_int) po_none)) (pg_name (i := 5) nd rfl (Or.inl rfl)) (pss_one (ps_expr (cm0 DU (pv 0) T.cH (hr.mono (by decide)) pass0))))
      (pss_one (ps_ret (pe_cmpR (op_eqV hr.units) (cm0 DN (pv 0) T.cH (hr.mono (by decide)) pass0) (pe_callB (call_sortedD rfl) (by rfl) T.bSorted (by decide +kernel) (pa_cons (pv 2) pa_nil)) (nomark _))))))))))))), ?_⟩
    obtain ⟨dx, r, hh, _⟩ := id hA.ob
    obtain ⟨lkvs, hlr, hen⟩ := J.ld
    have inLaw : ∀ n ∈ n0 :: tail, ∃ t t', getR law n = some t' ∧ getR cur n = some t ∧ Eqv t t' ∧ Row t' ∧ size t ≤ 10 ∧ NameOk n ∧ Fit t ∧ depth t ≤ 2 := fun n hn => by
      obtain ⟨hno, t0, h0⟩ := J.ok n hn
      rcases J.rl.get (n := n) with ⟨e, _⟩ | ⟨t, t', e1, e2, e3⟩
      · rw [h0] at e; cases e
      · obtain ⟨f1, f2⟩ := J.ro.each _ (getR_mem e2)
        exact ⟨t, t', e1, e2, e3, J.rr _ (getR_mem e1), J.sz _ (getR_mem e2), hno, f1, f2⟩
    have hline := Lof_line J.rr (n0 :: tail)
    have l5 := J.n5
    have hLF : Fit (Lof law (n0 :: tail)) := ⟨hline.ok, by have := hline.sz; omega⟩
    have nmH : ∀ {H' : Hp}, Same H H' → H' a = some (.lst ((n0 :: tail).map V.str)) := fun s => s _ _ (hA.sr _ _ J.nm)
    refine ⟨(by show 0 ≤ sizeLine; decide), fun p hp => ?_⟩
    have s0 : Same H (upd H p (.lst [])) := Same.new hp _
    refine ⟨_, rfl, a, rfl, ⟨_, SqL.of (nmH s0)⟩, for_list (K := K) (a := a) (xs := (n0 :: tail).map V.str)
      (fun i σ H' => ∃ (v5 : Option V) (acc : List V), σ = [some (.ref h), some (.ref a), some (.ref lr), some (.int c), some (.ref p), v5, none, none, none] ∧ Same H H' ∧ H' p = some (.lst acc) ∧ Items R (Lof law ((n0 :: tail).take i)) acc) ?_ ?_ ?_ ?_⟩
    · exact ⟨none, [], rfl, s0, upd_same, rfl⟩
    · rintro i σ H' _ ⟨v5, acc, _, sm, _⟩
      exact SqL.of (nmH sm)
    · rintro i x σ H' hx ⟨v5, acc, rfl, sm, hacc, hI⟩
      rw [List.getElem?_map] at hx
      obtain ⟨n, hn, rfl⟩ := Option.map_eq_some_iff.mp hx
      have hm : n ∈ n0 :: tail := List.mem_of_getElem? hn
      obtain ⟨t, t', g1, _, _, hrow, _⟩ := inLaw n hm
      rcases entsI_get (n := n) hen with ⟨g, _⟩ | ⟨t2, b, ws, g, hv, hb, hIb⟩
      · rw [g1] at g; cases g
      rw [g1] at g
      cases g
      have hz := DGet.k (k := Sum.inr n) (sm _ _ (hA.sr _ _ hlr))
      rw [hv] at hz
      have la := hI.len
      have lb := hIb.len
      have ll := len_le t'
      have lt := (Lof_line J.rr ((n0 :: tail).take i)).sz
      have ll2 := len_le (Lof law ((n0 :: tail).take i))
      have lti : ((n0 :: tail).take i).length ≤ 5 := by
        have l5 : (n0 :: tail).length ≤ 5 := l5
        rw [List.length_take]
        omega
      have hsz := hrow.sz
      refine ⟨_, rfl, .inl ⟨rfl, _, SqL.of hacc⟩, _, rfl, _, rfl, lr, .ref b, rfl, hz, ?_⟩
      refine ⟨p, b, acc, ws, rfl, rfl, hacc, sm _ _ (hA.sr _ _ hb), small (by omega), ?_⟩
      refine ⟨_, acc ++ ws, rfl, fun c' o e => ?_, upd_same, ?_⟩
      · rw [upd_ne (ne_of_none e hp)]
        exact sm c' o e
      · rw [take_next hn, Lof_snoc, g1]
        exact hI.app hIb
    rintro σ H1 ⟨v5, acc, rfl, s1, hacc, hI⟩
    rw [List.length_map, List.take_length] at hI
    have hpp := hline.pp
    refine ⟨_, rfl, _, rfl, p, acc, Lof law (n0 :: tail), c, rfl, hacc, hI.mono (hA.sr.trans s1), hLF, hline.dp, by omega, hc, fun H2 s2 => ?_⟩
    have s02 := s1.trans s2
    clear s1 s2 hacc hI
    obtain ⟨init, nl, hlast⟩ : ∃ init nl, n0 :: tail = init ++ [nl] := ⟨_, _, (List.dropLast_concat_getLast (List.cons_ne_nil n0 tail)).symm⟩
    have hnl : nl ∈ n0 :: tail := by rw [hlast]; simp
    obtain ⟨tz, tz', _, gz, _, _, _, nokz, fitz, dpz⟩ := inLaw nl hnl
    have ez : atI ((n0 :: tail).map V.str) (-1) = some (.str nl) := by rw [hlast, List.map_append]; exact atI_last
    refine ⟨_, rfl, h, dx, _, rfl, s02 _ _ hh, no_m, _, rfl, _, rfl, a, _, _, _, rfl, rfl, SqL.of (nmH s02), ez, h, d, u, nl, 0, tz, R, cur, hist, rfl, hA.same s02, nokz, gz, fitz, dpz, Int.le_refl _, fun H3 s3 => ?_⟩
    have s03 := s02.trans s3
    clear s02 s3
    have e0 : G tz 0 = 0 := G_zero fitz.ok
    refine ⟨_, rfl, rfl, _, rfl, ifF (by rw [e0]; rfl) ?_⟩
    have ewh : F (Lof law (n0 :: tail)) c = Ftot cur (n0 :: tail) c := by rw [Lof_F, Ftot_rel J.rl]
    refine ⟨_, rfl, h, dx, _, rfl, s03 _ _ hh, no_m, _, rfl, _, rfl, h, d, u, a, n0 :: tail, c, R, cur, hist, rfl, hA.same s03, .inl J.nm, by omega, J.ro, fun n hn => .inl (J.ok n hn).1, .inl ⟨fun n hn => ⟨(J.ok n hn).1, let ⟨t, _, _, g, _⟩ := inLaw n hn; ⟨t, g⟩⟩, hc, fun H4 s4 => ?_⟩⟩
    have s04 := s03.trans s4
    clear s03 s4
    refine ⟨_, rfl, rfl, _, rfl, ifF (by rw [ewh]; simp) ?_⟩
    refine ⟨_, rfl, ?_⟩
    have wh0 : 0 ≤ F (Lof law (n0 :: tail)) c := Int.le_trans hc (F_ge _ c).1
    generalize hwh : F (Lof law (n0 :: tail)) c = wh at wh0 ewh
    refine ⟨_, rfl, a, rfl, ⟨_, SqL.of (nmH s04)⟩, for_list (K := K) (a := a) (xs := (n0 :: tail).map V.str)
      (fun i σ H' => ∃ v5 : Option V, σ = [some (.ref h), some (.ref a), some (.ref lr), some (.int c), some (.ref p), v5, some (.int wh), some (.int (G tz 0)), some (.int (G (Lof law ((n0 :: tail).take i)) wh))] ∧ Same H H') ?_ ?_ ?_ ?_⟩
    · exact ⟨_, rfl, s04⟩
    · rintro i σ H' _ ⟨v5, _, sm⟩
      exact SqL.of (nmH sm)
    · rintro i x σ H' hx ⟨v5, rfl, sm⟩
      rw [List.getElem?_map] at hx
      obtain ⟨n, hn, rfl⟩ := Option.map_eq_some_iff.mp hx
      have hm : n ∈ n0 :: tail := List.mem_of_getElem? hn
      obtain ⟨t, t', g1, g2, eqv, _, _, nok, fit, dp⟩ := inLaw n hm
      refine ⟨_, rfl, h, dx, _, rfl, sm _ _ hh, no_m, _, rfl, _, rfl, h, d, u, n, _, t, R, cur, hist, rfl, hA.same sm, nok, g2, fit, dp, G_nn _ (Lof_line J.rr _).ok _ wh0, fun H5 s5 => ?_⟩
      refine ⟨some (.str n), ?_, sm.trans s5⟩
      rw [take_next hn, Lof_snoc, g1, G_app, eqv.g]
      rfl
    rintro σ H5 ⟨v5, rfl, s05⟩
    rw [List.length_map, List.take_length]
    generalize hws : G (Lof law (n0 :: tail)) wh = ws
    have ecut : cutV ((n0 :: tail).map V.str) (some 1) none = tail.map V.str := cut1
    refine ⟨_, rfl, 1, rfl, a, (n0 :: tail).map V.str, rfl, SqL.of (nmH s05), fun sl hsl => ?_⟩
    rw [ecut]
    have s56 : Same H5 (upd H5 sl (.lst (tail.map V.str))) := Same.new hsl _
    have h6 : (upd H5 sl (.lst (tail.map V.str))) sl = some (.lst (tail.map V.str)) := upd_same
    generalize upd H5 sl (.lst (tail.map V.str)) = H6 at s56 h6
    have s06 := s05.trans s56
    have hA6 := hA.same s06
    have nslh : sl ≠ h := (ne_of_none (s05 _ _ hh) hsl).symm
    obtain ⟨ds0, us0, hd0, _, hu0, _⟩ := id hA.dn
    have nsld : sl ≠ d := (ne_of_none (s05 _ _ hd0) hsl).symm
    have nslu : sl ≠ u := (ne_of_none (s05 _ _ hu0) hsl).symm
    have nRR := hA6.sr
    refine ⟨sl, rfl, ⟨_, SqL.of h6⟩, for_list (K := K) (a := sl) (xs := tail.map V.str) (JoinAt S O HC R H6 h d u a lr p n0 tail c wh (G tz 0) ws cur law hist) ?_ ?_ ?_ ?_⟩
    · obtain ⟨t, t', g1, g2, eqv, _, sz, _⟩ := inLaw n0 List.mem_cons_self
      refine ⟨R, u, cur, [], v5, rfl, .of nRR (.refl H6), by rw [List.append_nil]; exact hA6, rfl, rfl, J.ro, ⟨t, g2, ?_, by omega⟩, fun m hm => ?_⟩
      · show Eqv t (app ((getR law n0).getD .nil) .nil)
        rw [app_nil, g1]
        exact eqv
      · obtain ⟨t, t', g1, g2, eqv, _, sz, _⟩ := inLaw m (List.mem_cons_of_mem _ hm)
        exact ⟨t, g2, by rw [g1]; exact eqv, sz⟩
    · rintro i σ H' _ ⟨R', u', cur', st, v5, _, mv, _⟩
      exact SqL.of (mv.fr _ _ nslh nsld nslu h6)
    · rintro j x σ H' hx ⟨R', u', cur', st, v5, rfl, mv, hA', hst, hhd, hro, ⟨t, g0, eq0, sz0⟩, hrest⟩
      rw [List.getElem?_map] at hx
      obtain ⟨m, hm, rfl⟩ := Option.map_eq_some_iff.mp hx
      have hmt : m ∈ tail := List.mem_of_getElem? hm
      obtain ⟨hj, hjm⟩ := List.getElem?_eq_some_iff.mp hm
      have hdrop : tail.drop j = m :: tail.drop (j + 1) := by rw [← hjm]; exact List.drop_eq_getElem_cons hj
      obtain ⟨v, gv, eqvv, szv⟩ := hrest m (by rw [hdrop]; exact List.mem_cons_self)
      obtain ⟨tm, tm', gl1, _, _, rowm, _, nokm, _⟩ := inLaw m (List.mem_cons_of_mem _ hmt)
      have nok0 := (J.ok n0 List.mem_cons_self).1
      obtain ⟨n0t, ndt⟩ := List.nodup_cons.mp J.nd
      have nne : n0 ≠ m := fun e => n0t (by rw [e]; exact hmt)
      obtain ⟨dx', r', hh', _⟩ := id hA'.ob
      obtain ⟨f0, d0⟩ := hro.each _ (getR_mem g0)
      obtain ⟨fv, dv⟩ := hro.each _ (getR_mem gv)
      have ljt : tail.length ≤ 4 := by simpa using l5
      have lli := Lof_line J.rr (n0 :: tail.take j)
      have l3 : (n0 :: tail.take j).length ≤ 4 := by
        rw [List.length_cons, List.length_take]
        omega
      have hpp0 := lli.pp
      have hppm := rowm.pp
      have ep0 := eq0.p
      have epv := eqvv.p
      rw [gl1] at epv
      have epv : ppl v = ppl tm' := epv
      have hna : H' a = some (.lst ((n0 :: tail).map V.str)) := hA'.sr _ _ (mv.gr.rr _ _ J.nm)
      have hFit : Fit (app t v) := ⟨ok_app f0.ok fv.ok, by rw [size_app]; omega⟩
      have hlen : (hist ++ st).length < 1000 := by
        have := J.hs
        rw [List.length_append]
        omega
      refine ⟨_, rfl, h, dx', _, rfl, hh', no_m, _, rfl, a, _, _, _, rfl, rfl, SqL.of hna, at_of (j := 0) rfl rfl, _, rfl, h, d, u', n0, m, t, v, R', cur', hist ++ st, rfl, hA', nok0, nokm, nne, g0, gv, hro, hFit, by omega, hlen, kept_of fun R2 H2 u2 mv2 hA2 => ?_⟩
      refine ⟨R2, u2, _, st ++ [cur'], _, rfl, mv.trans mv2, by rw [← List.append_assoc]; exact hA2, by rw [List.length_append, hst]; rfl, ?_, (hro.set hFit (by rw [depth_app]; exact Nat.max_le.mpr ⟨d0, dv⟩)).drop.slim, ⟨Bo.slim (app t v), ?_, ?_, ?_⟩, fun m2 hm2 => ?_⟩
      · rw [List.head?_append, hhd]
        rfl
      · rw [getR_slim, getR_drop, if_neg nne, getR_set, if_pos rfl, g0]
        rfl
      · refine Eqv.slim ?_
        rw [take_next hm]
        have e : Lof law (n0 :: (tail.take j ++ [m])) = app (Lof law (n0 :: tail.take j)) ((getR law m).getD .nil) := Lof_snoc law m (n0 :: tail.take j)
        rw [e]
        exact eq0.app eqvv
      · have z := size_slim (app t v)
        rw [size_app] at z
        omega
      · obtain ⟨v2, gv2, eqv2, sz2⟩ := hrest m2 (by rw [hdrop]; exact List.mem_cons_of_mem _ hm2)
        have hm2t : m2 ∈ tail := List.mem_of_mem_drop hm2
        have ne2 : m2 ≠ n0 := fun e => n0t (by rw [← e]; exact hm2t)
        have ndd : (m :: tail.drop (j + 1)).Nodup := by rw [← hdrop]; exact (List.drop_sublist j tail).nodup ndt
        have ne3 : m2 ≠ m := fun e => (List.nodup_cons.mp ndd).1 (by rw [← e]; exact hm2)
        refine ⟨Bo.slim v2, ?_, eqv2.slim, Nat.le_trans (size_slim v2) sz2⟩
        rw [getR_slim, getR_drop, if_neg ne3, getR_set, if_neg ne2, gv2]
        rfl
    rintro σ H7 ⟨R7, u7, cur7, st, v5, rfl, mv7, hA7, hst, hhd, hro7, ⟨t, g0, eq0, sz0⟩, _⟩
    rw [List.length_map] at hst
    rw [List.length_map, List.take_length] at eq0
    have nok0 := (J.ok n0 List.mem_cons_self).1
    obtain ⟨f0, d0⟩ := hro7.each _ (getR_mem g0)
    obtain ⟨dx7, r7, hh7, _⟩ := id hA7.ob
    have na7 : R7 a = some (.lst ((n0 :: tail).map V.str)) := mv7.gr.rr _ _ J.nm
    refine ⟨_, rfl, h, dx7, _, rfl, hh7, no_m, _, rfl, a, _, _, _, rfl, rfl, SqL.of (hA7.sr _ _ na7), at_of (j := 0) rfl rfl, _, rfl, h, d, u7, n0, c, t, R7, cur7, hist ++ st, rfl, hA7, nok0, g0, f0, d0, hc, fun H8 s8 => ?_⟩
    refine ⟨_, rfl, rfl, _, rfl, ifF (by rw [eq0.f, hwh]; simp) ?_⟩
    have hA8 := hA7.same s8
    refine ⟨_, rfl, h, dx7, _, rfl, s8 _ _ hh7, no_m, _, rfl, a, _, _, _, rfl, rfl, SqL.of (hA8.sr _ _ na7), at_of (j := 0) rfl rfl, _, rfl, h, d, u7, n0, wh, t, R7, cur7, hist ++ st, rfl, hA8, nok0, g0, f0, d0, wh0, fun H9 s9 => ?_⟩
    refine ⟨_, rfl, rfl, _, rfl, ifF (by rw [eq0.g, hws]; simp) ?_⟩
    have hle : ws ≤ c := by
      rw [← hws, ← hwh]
      exact G_F _ c
    refine ⟨_, rfl, _, rfl, _, _, rfl, rfl, _, rfl, ifF (decide_eq_false (by omega)) ?_⟩
    have s79 := s8.trans s9
    have hA9 := hA7.same s79
    have mv9 := mv7.same s79
    refine ⟨_, rfl, 1, rfl, a, (n0 :: tail).map V.str, rfl, SqL.of (hA9.sr _ _ na7), fun sl2 hsl2 => ?_⟩
    rw [ecut]
    have sA : Same H9 (upd H9 sl2 (.lst (tail.map V.str))) := Same.new hsl2 _
    have hs2 : (upd H9 sl2 (.lst (tail.map V.str))) sl2 = some (.lst (tail.map V.str)) := upd_same
    generalize upd H9 sl2 (.lst (tail.map V.str)) = HA at sA hs2
    have hAA := hA9.same sA
    have mvA := mv9.same sA
    obtain ⟨dx9, r9, hh9, _⟩ := id hA9.ob
    obtain ⟨ds9, us9, hd9, _, hu9, _⟩ := id hA9.dn
    have n2h : sl2 ≠ h := (ne_of_none hh9 hsl2).symm
    have n2d : sl2 ≠ d := (ne_of_none hd9 hsl2).symm
    have n2u : sl2 ≠ u7 := (ne_of_none hu9 hsl2).symm
    refine ⟨sl2, rfl, ⟨_, SqL.of hs2⟩, for_list (K := K) (a := sl2) (xs := tail.map V.str) (UndoAt S O HC R7 HA h d u7 a lr p c wh (G tz 0) ws tail.length cur hist) ?_ ?_ ?_ ?_⟩
    · exact ⟨R7, u7, cur7, st, _, rfl, .of hAA.sr (.refl HA), hAA, by rw [hst]; rfl, hhd⟩
    · rintro i σ H' _ ⟨R', u', cur', st', v5, _, mv, _⟩
      exact SqL.of (mv.fr _ _ n2h n2d n2u hs2)
    · rintro j x σ H' hx ⟨R', u', cur', st', v5, rfl, mv, hA', hst', hhd'⟩
      rw [List.getElem?_map] at hx
      obtain ⟨m, hm, rfl⟩ := Option.map_eq_some_iff.mp hx
      obtain ⟨hj, _⟩ := List.getElem?_eq_some_iff.mp hm
      obtain ⟨st2, old, rfl⟩ : ∃ st2 old, st' = st2 ++ [old] := by
        have : st' ≠ [] := fun e => by
          rw [e] at hst'
          have hst' : 0 = tail.length - j := hst'
          omega
        exact ⟨_, _, (List.dropLast_concat_getLast this).symm⟩
      obtain ⟨dx', r', hh', _⟩ := id hA'.ob
      refine ⟨_, rfl, h, dx', _, rfl, hh', no_m, h, d, u', R', cur', old, hist ++ st2, rfl, by rw [List.append_assoc]; exact hA', kept_of fun R2 H2 u2 mv2 hA2 => ?_⟩
      refine ⟨R2, u2, old, st2, _, rfl, mv.trans mv2, hA2, ?_, ?_⟩
      · rw [List.length_append] at hst'
        have hst' : st2.length + 1 = tail.length - j := hst'
        omega
      · cases st2 with
        | nil => exact hhd'
        | cons z r => exact hhd'
    rintro σ HB ⟨RB, uB, curB, stB, v5, rfl, mvB, hAB, hstB, hhdB⟩
    rw [List.length_map, Nat.sub_self] at hstB
    have hstB : stB = [] := List.length_eq_zero_iff.mp hstB
    subst hstB
    rw [List.append_nil] at hAB
    have ecB : curB = cur := Option.some.inj hhdB
    subst ecB
    have mvT : Moved R H RB HB h d u uB := (Moved.of hA.sr s06).trans (mvA.trans mvB)
    obtain ⟨dxB, rB, hhB, _⟩ := id hAB.ob
    have lw := J.lw
    have ekeys := J.rl.keys
    have lcur : curB.length = law.length := by
      have := congrArg List.length ekeys
      rw [List.length_map, List.length_map] at this
      exact this
    refine ⟨_, rfl, h, dxB, _, rfl, hhB, no_m, h, d, uB, RB, curB, hist, rfl, hAB, by omega, fun ys p1 hp1 hs1 hn1 => ?_⟩
    have sC : Same HB (upd HB p1 (.lst (ys.map V.str))) := Same.new hn1 _
    refine ⟨_, rfl, lr, lkvs, law.map (·.1), rfl, .inl (sC _ _ (hAB.sr _ _ (mvT.gr.rr _ _ hlr))), by rw [entsI_keys hen, List.map_map]; rfl, by rw [List.length_map]; omega, fun zs p2 hp2 hs2 hn2 => ?_⟩
    have sD : Same (upd HB p1 (.lst (ys.map V.str))) (upd (upd HB p1 (.lst (ys.map V.str))) p2 (.lst (zs.map V.str))) := Same.new hn2 _
    have eyz : ys = zs := sorted_one (by rw [← ekeys]; exact hp1) hp2 hs1 hs2
    subst eyz
    refine ⟨1, by decide, .inl ⟨p1, p2, _, _, rfl, rfl, SqL.of (sD _ _ upd_same), SqL.of upd_same, ?_⟩, q.go (mvT.same (sC.trans sD)) (hAB.same (sC.trans sD))⟩
    exact strs_eqv ys
end
end Bo
end
section
/-! Boastrow: what stands while the law goes on. -/
namespace Bo
open PySem PySem.Spec L2
theorem HallAt.add {S O HC : Addr} {R H : Hp} {h d u p : Addr} {o : HO} {cur : Rws} {hist : List Rws} (x : HallAt S O HC R H h d u cur hist) (hp : H p = some o) (hR : R p = none) (n1 : p ≠ h) (n2 : p ≠ d) (n3 : p ≠ u) : HallAt S O HC (upd R p o) H h d u cur hist := by
  have s : Same R (upd R p o) := Same.new hR _
  obtain ⟨dx, r, h1, h2⟩ := x.ob
  obtain ⟨ds, us, h3, h4, h5, h6⟩ := x.dn
  refine ⟨fun b v e => ?_, ⟨dx, r, h1, h2.mono s⟩, ⟨ds, us, h3, dons_mono s h4, h5, h6⟩, by rw [upd_ne n1.symm]; exact x.nh, by rw [upd_ne n2.symm]; exact x.nd, by rw [upd_ne n3.symm]; exact x.nu, x.du⟩
  by_cases q : b = p
  · rw [q, upd_same] at e
    cases e
    rw [q]
    exact hp
  · rw [upd_ne q] at e
    exact x.sr _ _ e
structure LawSt (S O HC : Addr) (H0 R H : Hp) (u h d un : Addr) (n : Nat) (cur law : Rws) (hist : List Rws) : Prop where
  same : Same H0 H
  urn : UrnAt H u n
  hall : HallAt S O HC R H h d un cur hist
  ud : u ≠ d
  uu : u ≠ un
  nu : R u = none
  rel : Rel cur law
  rr : RowsR law
  ro : RowsOk cur
  sz : ∀ p ∈ cur, size p.2 ≤ 10
  zu : H0 u = none
  zh : H0 h = none
  zd : H0 d = none
  zn : H0 un = none
section
variable {S O HC : Addr} {H0 R H R' H' : Hp} {u h d un un' : Addr} {n n' : Nat} {cur law cur' law' : Rws} {hist hist' : List Rws}
theorem LawSt.uh (x : LawSt S O HC H0 R H u h d un n cur law hist) : u ≠ h := by
  obtain ⟨a, b, c, e, _⟩ := x.urn
  obtain ⟨dx, r, h1, _⟩ := x.hall.ob
  exact ne_of e h1 (by intro z; cases z)
theorem LawSt.ball (x : LawSt S O HC H0 R H u h d un n cur law hist) (o : Off (· = u) H H') (g : Grow R H R' H') (uw : UrnAt H' u n') : LawSt S O HC H0 R' H' u h d un n' cur law hist := by
  have uh := x.uh
  obtain ⟨a, b, c, e, _⟩ := x.urn
  refine ⟨o.same x.same fun b e => by rw [e]; exact x.zu, uw, x.hall.mono g.rr g.rh (fun b o' hb e => o.st b o' (fun z => ?_) e) (fun b h1 h2 => ?_), x.ud, x.uu, g.off x.nu e, x.rel, x.rr, x.ro, x.sz, x.zu, x.zh, x.zd, x.zn⟩
  · rcases hb with q | q | q
    · exact uh (z.symm.trans q)
    · exact x.ud (z.symm.trans q)
    · exact x.uu (z.symm.trans q)
  · cases z : H b with
    | none => exact absurd z h1
    | some o => exact g.off h2 z
theorem LawSt.off (x : LawSt S O HC H0 R H u h d un n cur law hist) (o : Off (· = u) H H') (uw : UrnAt H' u n') : LawSt S O HC H0 R H' u h d un n' cur law hist :=
  x.ball o ((Grow.refl x.hall.sr).move o fun b e => by rw [e]; exact x.nu) uw
theorem LawSt.go (x : LawSt S O HC H0 R H u h d un n cur law hist) (s : Same H H') : LawSt S O HC H0 R H' u h d un n cur law hist := x.off (Off.of s) (x.urn.same s)
theorem LawSt.le (x : LawSt S O HC H0 R H u h d un n cur law hist) (l : n' ≤ n) : LawSt S O HC H0 R H u h d un n' cur law hist := x.off (Off.refl H) (x.urn.le l)
theorem LawSt.add {p : Addr} {o : HO} (x : LawSt S O HC H0 R H u h d un n cur law hist) (hp : H p = some o) (hR : R p = none) (n0 : p ≠ u) (n1 : p ≠ h) (n2 : p ≠ d) (n3 : p ≠ un) : LawSt S O HC H0 (upd R p o) H u h d un n cur law hist :=
  ⟨x.same, x.urn, x.hall.add hp hR n1 n2 n3, x.ud, x.uu, by rw [upd_ne n0.symm]; exact x.nu, x.rel, x.rr, x.ro, x.sz, x.zu, x.zh, x.zd, x.zn⟩
/-- a thing that was not there -/
theorem LawSt.fresh {p : Addr} (x : LawSt S O HC H0 R H u h d un n cur law hist) (hp : H p = none) : p ≠ u ∧ p ≠ h ∧ p ≠ d ∧ p ≠ un ∧ R p = none := by
  obtain ⟨a, b, c, e, _⟩ := x.urn
  obtain ⟨dx, r, h1, _⟩ := x.hall.ob
  obtain ⟨ds, us, h3, _, h5, _⟩ := x.hall.dn
  exact ⟨(ne_of_none e hp).symm, (ne_of_none h1 hp).symm, (ne_of_none h3 hp).symm, (ne_of_none h5 hp).symm, Same.free x.hall.sr hp⟩
/-- a thing is laid and stays -/
theorem LawSt.lay {p : Addr} {o : HO} (x : LawSt S O HC H0 R H u h d un n cur law hist) (hp : H p = none) : LawSt S O HC H0 (upd R p o) (upd H p o) u h d un n cur law hist := by
  obtain ⟨h1, h2, h3, h4, h5⟩ := x.fresh hp
  exact (x.go (Same.new hp o)).add upd_same h5 h1 h2 h3 h4
theorem LawSt.moved (x : LawSt S O HC H0 R H u h d un n cur law hist) (mv : Moved R H R' H' h d un un') (hA : HallAt S O HC R' H' h d un' cur' hist') (rel : Rel cur' law') (rr : RowsR law') (ro : RowsOk cur') (sz : ∀ p ∈ cur', size p.2 ≤ 10) :
    LawSt S O HC H0 R' H' u h d un' n cur' law' hist' := by
  have uh := x.uh
  obtain ⟨a, b, c, e, r⟩ := x.urn
  have e' := mv.fr _ _ uh x.ud x.uu e
  refine ⟨fun b o z => ?_, ⟨a, b, c, e', r⟩, hA, x.ud, ?_, mv.gr.off x.nu e, rel, rr, ro, sz, x.zu, x.zh, x.zd, ?_⟩
  · exact mv.fr b o (ne_of_none z x.zh) (ne_of_none z x.zd) (ne_of_none z x.zn) (x.same b o z)
  · rcases mv.un with q | q
    · exact ne_of_none e q
    · rw [q]; exact x.uu
  · rcases mv.un with q | q
    · exact Same.free x.same q
    · rw [q]; exact x.zn
end
/-! ### names -/
abbrev keys5 : List Str := ["a", "front", "c", "zz", "an"]
theorem ok5 : ∀ n ∈ keys5, NameOk n := by
  intro n hn
  simp only [keys5, List.mem_cons, List.not_mem_nil, or_false] at hn
  rcases hn with rfl | rfl | rfl | rfl | rfl
  all_goals exact ⟨by decide +kernel, by decide +kernel, by decide +kernel⟩
theorem okGone : NameOk "gone" := ⟨by decide +kernel, by decide +kernel, by decide +kernel⟩
theorem nd5 : keys5.Nodup := by decide +kernel
theorem gone5 : ("gone" : Str) ∉ keys5 := by decide +kernel
theorem len0 : (("" : Str)).length = 0 := by decide +kernel
theorem nodup_sub : ∀ {l m : List Str}, l.Nodup → (∀ x ∈ l, x ∈ m) → l.length ≤ m.length
  | [], _, _, _ => Nat.zero_le _
  | a :: l, m, nd, h => by
    obtain ⟨h1, h2⟩ := List.nodup_cons.mp nd
    have ha : a ∈ m := h a List.mem_cons_self
    obtain ⟨s, t, rfl⟩ := List.append_of_mem ha
    have ih := nodup_sub (m := s ++ t) h2 fun x hx => by
      have hm := h x (List.mem_cons_of_mem _ hx)
      rcases List.mem_append.mp hm with z | z
      · exact List.mem_append.mpr (.inl z)
      · rcases List.mem_cons.mp z with z | z
        · exact absurd (by rw [← z]; exact hx) h1
        · exact List.mem_append.mpr (.inr z)
    rw [List.length_append] at ih
    rw [List.length_append, List.length_cons, List.length_cons]
    omega
theorem inV_strs (n : Str) : ∀ ms : List Str, inV (.str n) (ms.map V.str) = decide (n ∈ ms)
  | [] => by
    show false = _
    simp
  | m :: ms => by
    show (eqV (.str m) (.str n) || inV (.str n) (ms.map V.str)) = _
    rw [inV_strs n ms]
    have e : eqV (.str m) (.str n) = decide (n = m) := by
      show (m == n) = _
      by_cases q : n = m
      · rw [q]; simp
      · rw [decide_eq_false q]
        exact beq_eq_false_iff_ne.mpr fun z => q z.symm
    rw [e]
    by_cases q : n = m
    · simp [q]
    · by_cases q2 : n ∈ ms
      · simp [q, q2]
      · simp [q, q2]
theorem flat_strs : ∀ ms : List Str, (ms.map V.str).all flatV = true
  | [] => rfl
  | m :: ms => by
    show (flatV (.str m) && (ms.map V.str).all flatV) = true
    rw [flat_strs ms]
    rfl
theorem cut_to {xs : List V} {v : Int} (h : 0 ≤ v) : cutV xs none (some v) = xs.take v.toNat := by
  unfold cutV
  have e1 : HT.sIx xs.length 0 none = 0 := rfl
  have e2 : HT.sIx xs.length xs.length (some v) = min v.toNat xs.length := by
    unfold HT.sIx
    simp only
    rw [if_neg (by omega)]
  rw [e1, e2, List.drop_zero, Nat.sub_zero]
  by_cases q : v.toNat ≤ xs.length
  · rw [Nat.min_eq_left q]
  · rw [Nat.min_eq_right (by omega), List.take_of_length_le (Nat.le_refl _), List.take_of_length_le (by omega)]
theorem Ftot_nn {law : Rws} {c : Int} (hc : 0 ≤ c) : ∀ ns : List Str, 0 ≤ Ftot law ns c
  | [] => hc
  | n :: ns => Int.le_trans (Ftot_nn hc ns) (F_ge _ _).1
end Bo
end
section
/-! Boastrow: the law. -/
namespace Bo
open PySem PySem.Spec L2
theorem ok5s : ∀ n ∈ keys5, SeqAt.shaped (.str n) = true := by
  intro n hn
  simp only [keys5, List.mem_cons, List.not_mem_nil, or_false] at hn
  rcases hn with rfl | rfl | rfl | rfl | rfl
  all_goals decide +kernel
theorem sqL_same {K : PySem.W.Frag} {H H' : Hp} {a : Addr} {xs : List V} (h : SqL K H a xs) (s : Same H H') : SqL K H' a xs :=
  h.elim (fun h => .inl (h.elim (fun h => .inl (s _ _ h)) fun ⟨o, h⟩ => .inr ⟨o, s _ _ h⟩)) fun h => .inr h
theorem LawSt.put {S O HC : Addr} {H0 R H : Hp} {u h d un p : Addr} {n : Nat} {cur law : Rws} {hist : List Rws} {o : HO} (x : LawSt S O HC H0 R H u h d un n cur law hist) (n0 : p ≠ u) (n1 : p ≠ h) (n2 : p ≠ d) (n3 : p ≠ un) (hR : R p = none) (hz : H0 p = none) :
    LawSt S O HC H0 R (upd H p o) u h d un n cur law hist := by
  refine ⟨fun b v e => ?_, x.urn.off (X := (· = p)) ((Off.refl H).upd rfl) n0.symm, x.hall.mono (.refl R) (sameOff x.hall.sr hR _) (fun b v hb e => ?_) (fun _ _ z => z), x.ud, x.uu, x.nu, x.rel, x.rr, x.ro, x.sz, x.zu, x.zh, x.zd, x.zn⟩
  · rw [upd_ne (ne_of_none e hz)]
    exact x.same b v e
  · refine (upd_ne ?_).trans e
    rcases hb with q | q | q
    · rw [q]; exact n1.symm
    · rw [q]; exact n2.symm
    · rw [q]; exact n3.symm
theorem getR_snoc {law : Rws} {n : Str} {t : T} (h : getR law n = none) : getR (law ++ [(n, t)]) n = some t := by
  induction law with
  | nil => exact getR_pos rfl
  | cons p r ih =>
    by_cases e : p.1 = n
    · rw [getR_pos e] at h; cases h
    · rw [getR_neg e] at h
      show getR (p :: (r ++ [(n, t)])) n = _
      rw [getR_neg e]
      exact ih h
theorem getR_key {law : Rws} {n : Str} (h : n ∈ law.map (·.1)) : ∃ t, getR law n = some t := by
  induction law with
  | nil => cases h
  | cons p r ih =>
    by_cases e : p.1 = n
    · exact ⟨_, getR_pos e⟩
    · rw [getR_neg e]
      rw [List.map_cons] at h
      rcases List.mem_cons.mp h with z | z
      · exact absurd z.symm e
      · exact ih z
theorem entsI_snoc {R : Hp} {kvs : List (Key × V)} {rows : Rws} {n : Str} {t : T} {a : Addr} {vs : List V} (h : Paired (EntI R) kvs rows) (hn : getR rows n = none) (ha : R a = some (.lst vs)) (hP : Items R t vs) :
    Paired (EntI R) (putK kvs (Sum.inr n) (.ref a)) (rows ++ [(n, t)]) := by
  rcases entsI_get (n := n) h with ⟨_, hv⟩ | ⟨t', _, _, hg, _⟩
  · rw [putK_new _ hv]
    exact h.snoc ⟨rfl, a, vs, rfl, ha, hP⟩
  · rw [hn] at hg
    cases hg
theorem depth_strs : ∀ ns : List Str, PyData.depthAll (ns.map PyData.str) = 0
  | [] => by simp [PyData.depthAll]
  | n :: ns => by
    rw [List.map_cons, PyData.depthAll, depth_strs ns]
    simp [PyData.depth]
theorem lay_strs : ∀ {ns : List Str}, (∀ n ∈ ns, n ∈ keys5) → PyData.canLayAll0 (ns.map PyData.str) = true
  | [], _ => rfl
  | n :: ns, h => by
    have h1 := lay_strs (ns := ns) fun m hm => h m (List.mem_cons_of_mem _ hm)
    have h3 := SeqAt.canLay_of_shaped (ok5s n (h n List.mem_cons_self))
    rw [List.map_cons, PyData.canLayAll0, h3, h1]
    rfl
theorem shaped_strs {ns : List Str} (h : ∀ n ∈ ns, n ∈ keys5) : SeqAt.shaped (.list (ns.map PyData.str)) = true := by
  unfold SeqAt.shaped
  rw [PyData.canLay0, lay_strs h, PyData.depth, depth_strs]
  rfl
theorem dp_strs {K : PySem.W.Frag} {H : Hp} : ∀ ns : List Str, DpAll K H (ns.map V.str) (ns.map PyData.str)
  | [] => .nil
  | n :: ns => .cons (.str n) (dp_strs ns)
section
variable {P : Program} {w : World} {K : PySem.W.Frag} {mg : Str → Option Value} {base : Heap} {S O HC NN : Addr}
def rSrt : List V → Hp → VK → Prop := fun xs H Q => ∃ (a : Addr) (kvs : List (Key × V)) (ks : List Str), xs = [.ref a] ∧ Rd H a (.dK kvs) ∧ kvs.map (·.1) = ks.map Sum.inr ∧ ks.length < 64 ∧
    ∀ ys p, ys.Perm ks → PyProof.Rows.sortedS ys = true → H p = none → Q (.ref p) (upd H p (.lst (ys.map V.str)))
def rLenD : List V → Hp → VK → Prop := fun xs H Q => ∃ a kvs, xs = [V.ref a] ∧ H a = some (.dK kvs) ∧ Q (.int kvs.length) H
def spLaw (K : PySem.W.Frag) : Sp := fun vs H Q _ => ∃ (a : Addr) (ns : List Int), vs = [.ref a] ∧ SqL K H a (ns.map V.int) ∧ ns.length ≤ 1000 ∧ ∀ H', Q (.bl true) H'
theorem sc60 : FnScope ["_law_script", "_law_k", "_law_urn_here", "_law_hall", "_law_rows", "_law_name", "_law_turn", "_law_names", "_law_company_here", "_law_here", "_law_unlike", "_law_step", "_law_at"] ["_law_script"] (defScope (top 60)) := ⟨rfl, rfl, rfl, by decide +kernel, rfl, by decide +kernel, by decide +kernel⟩
theorem d60 (T : Txt K mg S O HC NN) : ∃ f fd, Fun K "law" "law" (top 60) f fd ∧ mg "law" = some (.ref f) ∧ ∀ base : Heap, FnOk P w K mg base CX0 13 f fd ["_law_script"] (spLaw K) := by
  have nd := sc60.nd
  obtain ⟨f, fd, FF, mf, _⟩ := T.h60
  refine ⟨f, fd, FF, mf, fun base => ?_⟩
  have D50 : Def P w K mg base CX0 1 "_law_urn" ["_law_script", "_law_k"] (spUrn K) := d50 T
  have D51 : Def P w K mg base CX0 1 "_law_ball" ["_law_urn_here", "_law_many"] spBall := d51 T
  have D55 : Def P w K mg base CX0 3 "_law_sayings" ["_law_long_here"] (spSayings 2) := d55n T 2
  have D56 : Def P w K mg base CX0 2 "_law_company" ["_law_urn_here", "_law_sayings_here"] spCompany := d56 T
  have D57 : Def P w K mg base CX0 6 "_law_near_or_great" ["_law_urn_here"] spNear := d57 T
  have D58 : Def P w K mg base CX0 9 "_law_refused" ["_law_hall", "_law_names", "_law_company_here"] (spRefused S O HC) := d58 T
  have D59 : Def P w K mg base CX0 12 "_law_joined_right" ["_law_hall", "_law_names", "_law_rows", "_law_company_here"] (spJoined S O HC) := d59 T
  have DH : DefI P w K mg base CX0 1 HC ["self"] (spHall HC) := dHall T
  have DB : DefM P w K mg base CX0 11 HC "begin" ["self", "name", "long"] (spBegin S O HC) := dBegin T
  have DF : Def P w K mg base CX0 11 "far_total" ["long", "company"] spFarTotal := d39 T
  have DT : DefM P w K mg base (L2.CX P w) 8 HC "together" ["self", "names", "company"] (spTogether S O HC NN) := dTogether T
  have DX : DefM P w K mg base CX0 8 HC "total" ["self", "name", "company"] (spTotal S O HC) := dTotal T
  refine FF.ok sc60 (fun vs H Q E h => ?_) (fun cdv A outer s H vs Q E hr h => ?_)
  · obtain ⟨a, ns, rfl, _⟩ := h
    rfl
  · obtain ⟨a, ns, rfl, ha, hln, q⟩ := h
    have r1 : ∀ {j : Nat}, j ≤ 12 → Room j _ := fun h => hr.mono h
    have NSC : List Str := ["_law_script", "_law_k", "_law_urn_here", "_law_hall", "_law_rows", "_law_name", "_law_turn", "_law_names", "_law_company_here", "_law_here", "_law_unlike", "_law_step", "_law_at"]
    refine ⟨_, pss_cons (ps_for PassesOwn.never rfl (pi_range1 (by rfl) T.bRange (pa_cons (pe_callB (call_max2 rfl) (by rfl) T.bMax (by decide +kernel) (pa_cons pe_int (pa_cons (pe_callB (call_min2 rfl) (by rfl) T.bMin (by decide +kernel) (pa_cons pe_int (pa_cons (pe_callB call_len_seq (by rfl) T.bLen (by decide +kernel) (pa_cons (pv 0) pa_nil)) pa_nil))) pa_nil))) pa_nil)) (pg_name (i := 1) nd rfl (Or.inl rfl))
        (pss_cons (ps_set (i := 2) nd rfl (Or.inr rfl) (cd D50 (hr.mono (by decide)) (by rfl) pass0 (pa_cons (pv 0) (pa_cons (pv 1) pa_nil))))
        (pss_cons (ps_set (i := 3) nd rfl (Or.inl rfl) (ci0 DH (hr.mono (by decide)) (by rfl) T.gH pass0))
        (pss_cons (ps_set (i := 4) nd rfl (Or.inr rfl) pe_dnewK)
        (pss_cons (ps_for PassesOwn.never rfl (pi_list (pe_slice sl_list (pe_lst (pa_cons pe_str (pa_cons pe_str (pa_cons pe_str (pa_cons pe_str (pa_cons pe_str pa_nil)))))) po_none (po_some (pe_op op_add pe_int (cd D51 (hr.mono (by decide)) (by rfl) pass0 (pa_cons (pv 2) (pa_cons pe_int pa_nil))))))) (pg_name (i := 5) nd rfl (Or.inl rfl))
          (pss_cons (ps_dput (hu_of hr) (pv 4) (pv 5) (cd D57 (hr.mono (by decide)) (by rfl) pass0 (pa_cons (pv 2) pa_nil)) rfl)
          (pss_one (ps_expr (cm DB (pv 3) T.cH (hr.mono (by decide)) pass0 (pa_cons (pv 5) (pa_cons (pe_dget (hu_of hr) (pv 4) (pv 5) (fun _ _ => rfl)) pa_nil)))))))
        (pss_one (ps_for PassesOwn.never rfl (pi_range1 (by rfl) T.bRange (pa_cons pe_int pa_nil)) (pg_name (i := 6) nd rfl (Or.inl rfl))
          (pss_cons (ps_set (i := 7) nd rfl (Or.inr rfl) (pe_lc (own := [("_law_step", 11)]) (g := gName 11) (tt := tYes) (te := tOp (rIxL K) (tCB rSrt (tCons (tVar 4) tNil)) (tCall spBall [] E0 (tCons (tVar 2) (tCons (tCB rLenD (tCons (tVar 4) tNil)) tNil)))) rfl nd
              (pi_range1 (by rfl) T.bRange (pa_cons (cd D51 (hr.mono (by decide)) (by rfl) pass0 (pa_cons (pv 2) (pa_cons (pe_ix ix_list (pe_lst (pa_cons pe_int (pa_cons pe_int pa_nil))) (pe_op op_mod (pv 6) pe_int) (fun _ _ => rfl)) pa_nil))) pa_nil))
              (blkOk_by (N := ["_law_script", "_law_k", "_law_urn_here", "_law_hall", "_law_rows", "_law_name", "_law_turn", "_law_names", "_law_company_here", "_law_here", "_law_unlike", "_law_step", "_law_at"]) (sc := defScope (top 60)) (by decide +kernel)) (fun _ _ _ _ _ => pg_name (i := 11) nd rfl (Or.inl rfl)) (fun _ _ _ _ _ => pts_nil)
              (fun _ _ _ _ _ => pe_ix ix_list (pe_callB (call_sortedD rfl) (by rfl) T.bSorted (by decide +kernel) (pa_cons (pv 4) pa_nil)) (cd D51 (hr.mono (by decide)) (by rfl) pass0 (pa_cons (pv 2) (pa_cons (pe_callB call_lenD (by rfl) T.bLen (by decide +kernel) (pa_cons (pv 4) pa_nil)) pa_nil))) (fun _ _ => rfl))))
          (pss_cons (ps_set (i := 8) nd rfl (Or.inl rfl) (cd D56 (hr.mono (by decide)) (by rfl) pass0 (pa_cons (pv 2) (pa_cons (cd D55 (hr.mono (by decide)) (by rfl) pass0 (pa_cons (pe_op op_cat (pe_dget (hu_of hr) (pv 4) pe_str (fun _ _ => rfl)) (pe_dget (hu_of hr) (pv 4) pe_str (fun _ _ => rfl))) pa_nil)) pa_nil))))
          (pss_cons (ps_set (i := 9) nd rfl (Or.inl rfl) (pv 8))
          (pss_cons (ps_for PassesOwn.never rfl (pi_list (pe_revL (pv 7))) (pg_name (i := 5) nd rfl (Or.inl rfl))
            (pss_one (ps_set (i := 9) nd rfl (Or.inl rfl) (pe_ifExp (pt_cmpR op_lt (pv 9) (pe_op op_powW pe_int pe_int) (nomark _)) (cd DF (hr.mono (by decide)) (by rfl) pass0 (pa_cons (pe_dget (hu_of hr) (pv 4) (pv 5) (fun _ _ => rfl)) (pa_cons (pv 9) pa_nil)))
              (cm DX (pv 3) T.cH (hr.mono (by decide)) pass0 (pa_cons (pv 5) (pa_cons (pv 9) pa_nil)))))))
          (pss_cons (ps_if (pt_cmpR op_ne (cm DT (pv 3) T.cH (hr.mono (by decide)) passL (pa_cons (pe_ix ix_list (pe_lst (pa_cons (pv 7) (pa_cons (pe_callTy call_tuple_of (by rfl) T.bTuple (by decide +kernel) (pa_cons (pv 7) pa_nil)) pa_nil))) (pe_op op_mod (pv 6) pe_int) (fun _ _ => rfl)) (pa_cons (pv 8) pa_nil))) (pv 9) (nomark _)) (pss_one (ps_ret pe_bl)) pss_nil)
          (pss_cons (ps_if (PW.pt (pw_or (pt_not (pt_val (cd D58 (hr.mono (by decide)) (by rfl) pass0 (pa_cons (pv 3) (pa_cons (pe_op op_cat (pv 7) (pe_lst (pa_cons pe_str pa_nil))) (pa_cons (pv 8) pa_nil))))))
              (pw_or1 (pt_not (pt_val (cd D58 (hr.mono (by decide)) (by rfl) pass0 (pa_cons (pv 3) (pa_cons (pe_op op_cat (pe_lst (pa_cons pe_str (pa_cons pe_str pa_nil))) (pv 7)) (pa_cons (pv 8) pa_nil))))))))) (pss_one (ps_ret pe_bl)) pss_nil)
          (pss_cons (ps_setLc (i := 10) (own := [("_law_at", 12), ("_law_name", 5)]) (g := gTup K 2 (gCons (gName 12) (gCons (gName 5) gNil))) (tt := tTest (tOp (rIn K true) (tVar 5) (tSl (rSlL K) (tVar 7) tNoPart (tPart (tVar 12))))) (te := tVar 5) rfl nd rfl rfl (by rfl)
              (pi_enum (by rfl) T.bEnum (pa_cons (pv 7) pa_nil))
              (blkOk_by (N := ["_law_script", "_law_k", "_law_urn_here", "_law_hall", "_law_rows", "_law_name", "_law_turn", "_law_names", "_law_company_here", "_law_here", "_law_unlike", "_law_step", "_law_at"]) (sc := defScope (top 60)) (by decide +kernel))
              (fun _ _ _ _ _ => pg_tup rfl (pgs_cons (pg_name (i := 12) nd rfl (Or.inl rfl)) (pgs_cons (pg_name (i := 5) nd rfl (Or.inl rfl)) pgs_nil))) (fun _ _ _ _ _ => pts_one (pt_cmpR op_notIn_seq (pv 5) (pe_slice sl_list (pv 7) po_none (po_some (pv 12))) rfl))
              (fun _ _ _ _ _ => pv 5))
          (pss_one (ps_if (PW.pt (pw_and (pt_cmpR (op_neD hr.units) (pv 10) (pe_lst pa_nil) (nomark _)) (pw_and1 (pt_not (pt_val (cd D59 (hr.mono (by decide)) (by rfl) pass0 (pa_cons (pv 3) (pa_cons (pv 10) (pa_cons (pv 4) (pa_cons (pv 8) pa_nil)))))))))) (pss_one (ps_ret pe_bl)) pss_nil))))))))))))))))
      (pss_one (ps_ret pe_bl)), ?_⟩
    have hj : ∃ j : Int, (if (if ((ns.length : Nat) : Int) < 4 then ((ns.length : Nat) : Int) else 4) > 1 then (if ((ns.length : Nat) : Int) < 4 then ((ns.length : Nat) : Int) else 4) else 1) = j ∧ 1 ≤ j ∧ j ≤ 4 := by
      refine ⟨_, rfl, ?_⟩
      split <;> split <;> omega
    obtain ⟨jj, ejj, j1, j4⟩ := hj
    refine ⟨_, rfl, a, _, rfl, .inl ha, _, _, rfl, _, _, rfl, _, rfl, ?_, ?_, ?_⟩
    · rw [List.length_map, ejj]; omega
    · rw [List.length_map, ejj]; omega
    rw [List.length_map, ejj]
    refine for_it (walk_range (lo := 0) (n := jj.toNat)) (fun i σ H' => ∃ v1 v2 v3 v4 v5 v6 v7 v8 v9 v10 v11 v12 : Option V, σ = [some (.ref a), v1, v2, v3, v4, v5, v6, v7, v8, v9, v10, v11, v12] ∧ SqL K H' a (ns.map V.int)) ?_ (fun _ _ _ _ _ => True.intro) ?_ ?_
    · exact ⟨none, none, none, none, none, none, none, none, none, none, none, none, rfl, ha⟩
    · rintro i x σ Hz H0 hi ⟨v1, v2, v3, v4, v5, v6, v7, v8, v9, v10, v11, v12, rfl, ha0⟩ ⟨rfl, rfl⟩
      refine ⟨_, rfl, _, rfl, a, ns, i, by show [V.ref a, V.int (0 + (i : Int))] = _; rw [Int.zero_add], ha0, by omega, hln, fun H1 u hu s1 ur => ?_⟩
      intro h dx nh ndx nex
      refine ⟨h, dx, rfl, upd_same, fun H2 r d un hh hr0 hd0 hun0 ndu n1 n2 n3 fr => ⟨rfl, fun lr hlr => ?_⟩⟩
      have sm : Same H1 (upd (upd H1 dx (.own h)) h (.ins HC dx [])) := L2.Same.trans (Same.new ndx _) (Same.new (by rw [upd_ne nex.symm]; exact nh) _)
      have hmh : (upd (upd H1 dx (.own h)) h (.ins HC dx [])) h = some (.ins HC dx []) := upd_same
      generalize upd (upd H1 dx (.own h)) h (.ins HC dx []) = Hm at sm hmh n1 n2 n3 fr
      have fr1 : Same H1 H2 := fun b o e => fr b o (ne_of_none e nh) (sm b o e)
      have s12 : Same H0 H2 := s1.trans fr1
      obtain ⟨_, _, _, hu1, _⟩ := id ur
      have hum := sm _ _ hu1
      have nud : u ≠ d := ne_of_none hum n2
      have nuu : u ≠ un := ne_of_none hum n3
      have nhr : h ≠ r := ne_of_none hmh n1
      have nhd : h ≠ d := ne_of_none hmh n2
      have nhu : h ≠ un := ne_of_none hmh n3
      have nrd : r ≠ d := ne_of hr0 hd0 (by intro z; cases z)
      have nru : r ≠ un := ne_of hr0 hun0 (by intro z; cases z)
      have nhr2 : (upd (fun _ => none) r (.dK []) : Hp) h = none := by rw [upd_ne nhr]
      have zz : ∀ b, Hm b = none → H0 b = none := fun b e => Same.free s1 (Same.free sm e)
      have L0 : LawSt S O HC H0 (upd (fun _ => none) r (.dK [])) H2 u h d un 999999999 [] [] [] := by
        refine ⟨s12, ur.same fr1, ⟨fun b o e => ?_, ⟨dx, r, hh, [], upd_same, .nil⟩, ⟨[], [], hd0, .nil, hun0, by decide⟩, nhr2, by rw [upd_ne nrd.symm], by rw [upd_ne nru.symm], ndu⟩, nud, nuu, ?_, .nil, (fun p hp => by cases hp), ⟨List.nodup_nil, by decide, fun p hp => by cases hp⟩, (fun p hp => by cases hp), hu, Same.free s1 nh, zz _ n2, zz _ n3⟩
        · by_cases z : b = r
          · rw [z, upd_same] at e
            cases e
            rw [z]
            exact hr0
          · rw [upd_ne z] at e
            cases e
        · have nur : u ≠ r := ne_of_none hum n1
          rw [upd_ne nur]
      have z0 : H0 lr = none := Same.free s12 hlr
      obtain ⟨lu, lh, ld, lun, lR⟩ := L0.fresh hlr
      have L1 := L0.put (o := .dK []) lu lh ld lun lR z0
      have l1r : (upd H2 lr (.dK [])) lr = some (.dK []) := upd_same
      generalize upd H2 lr (.dK []) = H3 at L1 l1r
      clear L0 s12 fr1 hh hr0 hd0 hun0 sm hmh fr hum ur hu1
      generalize (upd (fun _ => none) r (.dK []) : Hp) = R at L1 lR
      -- the names
      refine ⟨(by show 5 ≤ sizeLine; decide), fun lb hlb => ?_⟩
      obtain ⟨bu, bh, bd, bun, bR⟩ := L1.fresh hlb
      have L2 := L1.go (Same.new hlb (.lst (keys5.map V.str)))
      have l2r : (upd H3 lb (.lst (keys5.map V.str))) lr = some (.dK []) := Same.new hlb _ _ _ l1r
      have l2b : (upd H3 lb (.lst (keys5.map V.str))) lb = some (.lst (keys5.map V.str)) := upd_same
      generalize hH4 : upd H3 lb (.lst (keys5.map V.str)) = H4 at L2 l2r l2b
      rw [show (upd H3 lb (.lst [V.str "a", .str "front", .str "c", .str "zz", .str "an"])) = H4 from hH4]
      refine ⟨_, rfl, u, 4, 999999998, rfl, L2.urn, by decide, by decide, fun H5 x x0 x4 u5 o5 => ?_⟩
      have L3 := L2.off o5 u5
      have l3r := o5.st lr _ lu l2r
      have l3b := o5.st lb _ bu l2b
      refine ⟨_, _, rfl, rfl, _, rfl, lb, _, rfl, SqL.of l3b, fun nl hnl => ?_⟩
      rw [cut_to (show 0 ≤ 2 + x by omega), ← List.map_take]
      have hkj : ∃ kj, (2 + x).toNat = kj ∧ 2 ≤ kj ∧ kj ≤ 5 := ⟨_, rfl, by omega, by omega⟩
      obtain ⟨kj, ekj, kj2, kj5⟩ := hkj
      rw [ekj]
      have hks : (keys5.take kj).length = kj := by
        rw [List.length_take]
        show min kj 5 = kj
        omega
      have L4 := (L3.lay (o := .lst ((keys5.take kj).map V.str)) hnl).le (n' := 200 + kj * 1894) (by omega)
      have l4r := Same.new hnl (.lst ((keys5.take kj).map V.str)) _ _ l3r
      have n4 : (upd R nl (.lst ((keys5.take kj).map V.str))) nl = some (.lst ((keys5.take kj).map V.str)) := upd_same
      have R4r : (upd R nl (.lst ((keys5.take kj).map V.str))) lr = none := by rw [upd_ne (ne_of_none l3r hnl)]; exact lR
      generalize upd R nl (.lst ((keys5.take kj).map V.str)) = R4 at L4 n4 R4r
      generalize upd H5 nl (.lst ((keys5.take kj).map V.str)) = H6 at L4 l4r
      generalize hgk : keys5.take kj = ks at hks L4 n4 l4r
      have ksub : ∀ n ∈ ks, n ∈ keys5 := fun n hn => by rw [← hgk] at hn; exact List.mem_of_mem_take hn
      have knd : ks.Nodup := by rw [← hgk]; exact (List.take_sublist kj keys5).nodup nd5
      refine ⟨nl, rfl, ⟨_, SqL.of (L4.hall.sr _ _ n4)⟩, for_list (K := K) (a := nl) (xs := ks.map V.str)
        (fun i2 σ H' => ∃ (R' : Hp) (un' : Addr) (cur law : Rws) (hist : List Rws) (lkvs : List (Key × V)) (v5 : Option V), σ = [some (.ref a), some (.int (0 + (i : Nat))), some (.ref u), some (.ref h), some (.ref lr), v5, v6, v7, v8, v9, v10, v11, v12] ∧ LawSt S O HC H0 R' H' u h d un' (200 + (kj - i2) * 1894) cur law hist ∧
          R' nl = some (.lst (ks.map V.str)) ∧ H' lr = some (.dK lkvs) ∧ Paired (EntI R') lkvs law ∧ R' lr = none ∧ law.map (·.1) = ks.take i2 ∧ hist.length = i2) ?_ ?_ ?_ ?_⟩
      · exact ⟨R4, un, [], [], [], [], v5, rfl, L4, n4, l4r, .nil, R4r, rfl, rfl⟩
      · rintro i2 σ H' _ ⟨R', un', cur, law, hist, lkvs, v5, _, LL, hn, _⟩
        exact SqL.of (LL.hall.sr _ _ hn)
      · rintro i2 x σ H' hx ⟨R', un', cur, law, hist, lkvs, v5, rfl, LL, hnn, hlr', en, hRlr, hkeys, hhl⟩
        rw [List.getElem?_map] at hx
        obtain ⟨n, hn, rfl⟩ := Option.map_eq_some_iff.mp hx
        have hnk : n ∈ ks := List.mem_of_getElem? hn
        have hi2 : i2 < kj := by
          have := (List.getElem?_eq_some_iff.mp hn).1
          omega
        have nin : n ∉ ks.take i2 := fun hm => by
          obtain ⟨j, hj, e⟩ := List.mem_iff_getElem.mp hm
          rw [List.getElem_take] at e
          rw [List.length_take] at hj
          have := nd_ix knd hn (show ks[j]? = some n by rw [List.getElem?_eq_getElem (by omega), e])
          omega
        have gl : getR law n = none := getR_not (by rw [hkeys]; exact nin)
        have gc : getR cur n = none := by
          rcases LL.rel.get (n := n) with ⟨_, z⟩ | ⟨_, _, z, _⟩
          · exact z
          · rw [gl] at z; cases z
        have elen : law.length = i2 := by
          have := congrArg List.length hkeys
          rw [List.length_map, List.length_take] at this
          omega
        have ekv : lkvs.length = law.length := en.length
        have ecur : cur.length = i2 := by
          have := congrArg List.length LL.rel.keys
          rw [List.length_map, List.length_map] at this
          omega
        have e5 : (kj - i2) * 1894 = (kj - (i2 + 1)) * 1894 + 1894 := by omega
        refine ⟨_, rfl, u, 200 + (kj - (i2 + 1)) * 1894, R', rfl, LL.urn.le (by omega), LL.hall.sr, LL.nu, fun R2 H7 p xs t o7 g7 hp hI hok hsz hdp hpp u7 => ?_⟩
        have LA := LL.ball o7 g7 u7
        have lr7 := o7.st lr _ lu hlr'
        refine ⟨_, rfl, _, rfl, lr, _, rfl, DPut.k (k := Sum.inr n) lr7 (small1000 (by omega)), ?_⟩
        have R2r : R2 lr = none := g7.off hRlr hlr'
        have nun' : lr ≠ un' := by
          obtain ⟨_, _, _, _, e, _⟩ := LA.hall.dn
          exact ne_of lr7 e (by intro z; cases z)
        have LB := LA.put (o := .dK (putK lkvs (Sum.inr n) (.ref p))) lu lh ld nun' R2r z0
        have lrB : (upd H7 lr (.dK (putK lkvs (Sum.inr n) (.ref p)))) lr = some (.dK (putK lkvs (Sum.inr n) (.ref p))) := upd_same
        generalize upd H7 lr (.dK (putK lkvs (Sum.inr n) (.ref p))) = H8 at LB lrB
        have en2 := entsI_snoc (entsI_mono g7.rr en) gl hp hI
        rcases entsI_get (n := n) en2 with ⟨g, _⟩ | ⟨t', pa, ys, gt, hv, hpa, hIa⟩
        · rw [getR_snoc gl] at g; cases g
        rw [getR_snoc gl] at gt
        cases gt
        obtain ⟨dx8, r8, hh8, _⟩ := id LB.hall.ob
        have hz := DGet.k (k := Sum.inr n) lrB
        rw [hv] at hz
        have hrow : Row t := ⟨hok, hsz, hdp, hpp⟩
        have ro' : RowsOk (slimR (cur ++ [(n, t)])) := (LL.ro.snoc gc (by omega) hrow.fit hdp).slim
        refine ⟨_, rfl, h, dx8, _, rfl, hh8, no_m, _, rfl, _, rfl, _, rfl, lr, .ref pa, rfl, hz, h, d, un', pa, n, ys, t, R2, cur, hist, rfl, LB.hall, hpa, hIa, ok5 n (ksub n hnk), gc, LB.ro, by omega, hrow.fit, hdp, by omega, by omega, kept_of fun R4 H9 u9 mv hA9 => ?_⟩
        refine ⟨R4, u9, _, law ++ [(n, t)], hist ++ [cur], _, _, rfl, LB.moved mv hA9 (Rel.snoc LB.rel n t).slim ?_ ro' ?_, mv.gr.rr _ _ (g7.rr _ _ hnn), mv.fr _ _ lh ld nun' lrB, entsI_mono mv.gr.rr en2, mv.gr.off R2r lrB, ?_, by rw [List.length_append, hhl]; rfl⟩
        · intro z hz
          rcases List.mem_append.mp hz with hz | hz
          · exact LL.rr z hz
          · rw [List.mem_singleton.mp hz]
            exact hrow
        · intro z hz
          obtain ⟨y, hy, rfl⟩ := List.mem_map.mp hz
          refine Nat.le_trans (size_slim y.2) ?_
          rcases List.mem_append.mp hy with hy | hy
          · exact LL.sz y hy
          · rw [List.mem_singleton.mp hy]
            exact hsz
        · rw [take_next hn, List.map_append, hkeys]
          rfl
      rintro σ H7 ⟨R5, un5, cur, law, hist, lkvs, v5', rfl, L5, hnn, hlr5, en5, hR5, hkeys, hhl⟩
      rw [List.length_map] at hkeys hhl
      rw [List.take_length] at hkeys
      clear L4 n4 l4r R4r L1 L2 L3 l1r l2r l2b l3r l3b hH4
      have nun5 : lr ≠ un5 := by
        obtain ⟨_, _, _, _, e, _⟩ := L5.hall.dn
        exact ne_of hlr5 e (by intro z; cases z)
      have L6 := (L5.add hlr5 hR5 lu lh ld nun5).le (n' := (4 - 0) * 40) (by omega)
      have ld6 : LawD (upd R5 lr (.dK lkvs)) lr law := ⟨lkvs, upd_same, entsI_mono (Same.new hR5 _) en5⟩
      generalize upd R5 lr (.dK lkvs) = R6 at L6 ld6
      clear L5 hnn hlr5 en5 hR5 nun5
      have elaw : law.length = kj := by
        have := congrArg List.length hkeys
        rw [List.length_map] at this
        omega
      have hhist : hist.length ≤ 5 := by omega
      refine ⟨4, rfl, by omega, by omega, ?_⟩
      refine for_it (walk_range (lo := 0) (n := 4)) (fun i3 σ H' => ∃ (R' : Hp) (un' : Addr) (v5 v6 v7 v8 v9 v10 v11 v12 : Option V), σ = [some (.ref a), some (.int (0 + (i : Nat))), some (.ref u), some (.ref h), some (.ref lr), v5, v6, v7, v8, v9, v10, v11, v12] ∧ LawSt S O HC H0 R' H' u h d un' ((4 - i3) * 40) cur law hist ∧ LawD R' lr law) ?_ (fun _ _ _ _ _ => True.intro) ?_ ?_
      · exact ⟨R6, un5, _, _, _, _, _, _, _, _, rfl, L6, ld6⟩
      · rintro i3 x σ Hz H' hi3 ⟨R', un', v5, v6, v7, v8, v9, v10, v11, v12, rfl, LL, lld⟩ ⟨rfl, rfl⟩
        have hk2 : ∃ fl, (4 - i3) * 40 = fl + 40 ∧ (4 - (i3 + 1)) * 40 = fl := ⟨_, by omega, rfl⟩
        obtain ⟨fl, ef, ef2⟩ := hk2
        rw [ef] at LL
        rw [ef2]
        obtain ⟨lkvs, hlr, hen⟩ := lld
        have ekv : lkvs.length = kj := by rw [hen.length, elaw]
        -- the names drawn
        refine ⟨_, rfl, (by show 2 ≤ sizeLine; decide), fun lb hlb => ?_⟩
        have LL1 := LL.go (Same.new hlb (.lst [.int 7, .int 25]))
        have l1b : (upd H' lb (.lst [.int 7, .int 25])) lb = some (.lst [.int 7, .int 25]) := upd_same
        obtain ⟨bu, _⟩ := LL.fresh hlb
        obtain ⟨v, hv, ev⟩ := pick (xs := [7, 25]) (x := (0 + (i3 : Int)) % 2) (by omega) (by show (0 + (i3 : Int)) % 2 < ((2 : Nat) : Int); omega)
        have v25 : 0 < v ∧ v ≤ 25 := by
          simp only [List.mem_cons, List.not_mem_nil, or_false] at hv
          rcases hv with rfl | rfl <;> omega
        refine ⟨_, rfl, _, _, rfl, rfl, (show (0 : Int) < 2 by decide), lb, _, _, _, rfl, rfl, SqL.of l1b, ev, u, v, fl + 39, rfl, LL1.urn, v25.1, by omega, fun H1 x x0 xv u1 o1 => ⟨x, rfl, by omega, by omega, fun D hD => ?_⟩⟩
        have LL2 := LL1.off o1 u1
        obtain ⟨Du, Dh, Dd, Dun, DR⟩ := LL2.fresh hD
        have D0 := Same.free LL2.same hD
        have LL3 := LL2.put (o := .lst []) Du Dh Dd Dun DR D0
        refine lc_it (walk_range (lo := 0) (n := x.toNat)) (fun j H' => ∃ ms : List Str, LawSt S O HC H0 R' H' u h d un' (fl + 15 + (24 - j)) cur law hist ∧ H' D = some (.lst (ms.map V.str)) ∧ ms.length = j ∧ ∀ m ∈ ms, m ∈ ks) ?_ (fun _ _ _ _ => True.intro) ?_ ?_
        · exact ⟨[], LL3.le (by omega), upd_same, rfl, fun m hm => by cases hm⟩
        · rintro j y Hw H2 hj ⟨ms, LM, hDm, hml, hms⟩ ⟨rfl, rfl⟩
          refine ⟨rfl, tYes_i ?_⟩
          have hlr2 := LM.hall.sr _ _ hlr
          refine ⟨_, rfl, lr, lkvs, law.map (·.1), rfl, .inl hlr2, by rw [entsI_keys hen, List.map_map]; rfl, by rw [List.length_map]; omega, fun ys p hpm hst hp => ?_⟩
          have LM2 := LM.go (Same.new hp (.lst (ys.map V.str)))
          have eys : ys.length = kj := by rw [hpm.length_eq, List.length_map, elaw]
          have hDm2 := Same.new hp (.lst (ys.map V.str)) _ _ hDm
          have hlr3 := Same.new hp (.lst (ys.map V.str)) _ _ hlr2
          have hpp : (upd H2 p (.lst (ys.map V.str))) p = some (.lst (ys.map V.str)) := upd_same
          obtain ⟨pu, _⟩ := LM.fresh hp
          refine ⟨_, rfl, _, rfl, lr, lkvs, rfl, hlr3, u, _, fl + 15 + (24 - (j + 1)), rfl, LM2.urn.le (by omega), by omega, by omega, fun H3 z z0 zl u3 o3 => ?_⟩
          obtain ⟨zj, rfl⟩ := Int.eq_ofNat_of_zero_le z0
          have hzj : zj < ys.length := by omega
          refine ⟨p, _, _, _, rfl, rfl, SqL.of (o3.st p _ pu hpp), at_of (j := zj) rfl (by rw [List.getElem?_map, List.getElem?_eq_getElem hzj] <;> rfl), ?_⟩
          refine ⟨_, o3.st D _ Du hDm2, small1000 (by rw [List.length_map]; omega), ms ++ [ys[zj]], (LM2.off o3 u3).put Du Dh Dd Dun DR D0, by rw [upd_same, List.map_append] <;> rfl, by rw [List.length_append, hml]; rfl, fun m hm => ?_⟩
          rcases List.mem_append.mp hm with hm | hm
          · exact hms m hm
          · rw [List.mem_singleton.mp hm, ← hkeys]
            exact hpm.mem_iff.mp (List.getElem_mem hzj)
        rintro H2 ⟨ms, LM, hDm, hml, hms⟩
        have LN := (LM.add hDm DR Du Dh Dd Dun).le (n' := fl + 15) (by omega)
        have sN : Same R' (upd R' D (.lst (ms.map V.str))) := Same.new DR _
        have nD : (upd R' D (.lst (ms.map V.str))) D = some (.lst (ms.map V.str)) := upd_same
        generalize upd R' D (.lst (ms.map V.str)) = R1 at LN sN nD
        have hlrN := sN _ _ hlr
        have henN := entsI_mono sN hen
        have mlen : ms.length ≤ 24 := by omega
        clear LL LL1 LL2 LL3 LM l1b hDm hlr hen u1 o1
        have look : ∀ n ∈ ks, ∃ t b vs, getR law n = some t ∧ valV lkvs (Sum.inr n) = some (.ref b) ∧ R1 b = some (.lst vs) ∧ Items R1 t vs ∧ Row t := fun n hn => by
          obtain ⟨t0, h0⟩ := getR_key (law := law) (n := n) (by rw [hkeys]; exact hn)
          rcases entsI_get (n := n) henN with ⟨g, _⟩ | ⟨t, b, vs, g, hv, hb, hI⟩
          · rw [h0] at g; cases g
          · exact ⟨t, b, vs, g, hv, hb, hI, LN.rr _ (getR_mem g)⟩
        have ka : ("a" : Str) ∈ ks ∧ ("front" : Str) ∈ ks := by
          rw [← hgk]
          obtain ⟨k2, rfl⟩ : ∃ k2, kj = k2 + 2 := ⟨kj - 2, by omega⟩
          exact ⟨List.mem_cons_self, List.mem_cons_of_mem _ List.mem_cons_self⟩
        obtain ⟨ta, pa, va, _, hva, hpa, hIa, rowa⟩ := look _ ka.1
        obtain ⟨tf, pf, vf, _, hvf, hpf, hIf, rowf⟩ := look _ ka.2
        have hza := DGet.k (k := Sum.inr "a") (LN.hall.sr _ _ hlrN)
        rw [hva] at hza
        have hzf := DGet.k (k := Sum.inr "front") (LN.hall.sr _ _ hlrN)
        rw [hvf] at hzf
        have z1 := hIa.len
        have z2 := hIf.len
        have z3 := len_le ta
        have z4 := len_le tf
        have z5 := rowa.sz
        have z6 := rowf.sz
        refine ⟨_, rfl, _, rfl, lr, .ref pa, rfl, hza, _, rfl, lr, .ref pf, rfl, hzf, pa, pf, va, vf, rfl, rfl, LN.hall.sr _ _ hpa, LN.hall.sr _ _ hpf, small (by omega), fun pc hpc => ?_⟩
        have LC1 := LN.go (Same.new hpc (.lst (va ++ vf)))
        refine ⟨pc, va ++ vf, app ta tf, rfl, upd_same, (hIa.mono LC1.hall.sr).app (hIf.mono LC1.hall.sr), by rw [size_app]; omega, by rw [depth_app]; exact Nat.max_le.mpr ⟨rowa.dp, rowf.dp⟩, fun H3 p3 ps s3 np3 hp3 hl3 hv3 => ?_⟩
        have LC2 := LC1.go s3
        rw [size_app] at hl3
        refine ⟨u, p3, ps, fl + 9, rfl, LC2.urn, hp3, (LC1.fresh np3).1, by omega, hv3, fun H4 c o4 u4 c0 => ?_⟩
        have LC := (LC2.off o4 u4).le (n' := fl) (by omega)
        clear LC1 LC2 LN hza hzf hv3 hp3 hIa hIf
        refine ⟨_, rfl, ?_⟩
        -- one row behind the other
        have lookc : ∀ n ∈ ks, ∃ t, getR cur n = some t ∧ Fit t ∧ depth t ≤ 2 ∧ ∀ c, F t c = F ((getR law n).getD .nil) c := fun n hn => by
          rcases LC.rel.get (n := n) with ⟨g, _⟩ | ⟨t, t', g1, g2, eqv⟩
          · obtain ⟨_, _, _, g0, _⟩ := look n hn
            rw [g0] at g; cases g
          · obtain ⟨f1, f2⟩ := LC.ro.each _ (getR_mem g2)
            exact ⟨t, g2, f1, f2, fun c => by rw [g1]; exact eqv.f c⟩
        have good : ∀ n ∈ ms, Good cur n := fun n hn => by
          obtain ⟨t, g, _⟩ := lookc n (hms n hn)
          exact ⟨ok5 n (ksub n (hms n hn)), t, g⟩
        refine ⟨_, rfl, D, ms.map V.str, rfl, SqL.of (LC.hall.sr _ _ nD), fun rv hrv => ?_⟩
        have hrr : (upd H4 rv (.lst (ms.map V.str).reverse)) rv = some (.lst (ms.map V.str).reverse) := upd_same
        have LR := LC.go (Same.new hrv (.lst (ms.map V.str).reverse))
        generalize upd H4 rv (.lst (ms.map V.str).reverse) = HR at hrr LR
        refine ⟨rv, rfl, ⟨_, SqL.of hrr⟩, for_list (K := K) (a := rv) (xs := (ms.map V.str).reverse)
          (fun i4 σ H' => ∃ v5 : Option V, σ = [some (.ref a), some (.int (0 + (i : Nat))), some (.ref u), some (.ref h), some (.ref lr), v5, some (.int (0 + (i3 : Nat))), some (.ref D), some (.int c), some (.int (Ftot law (ms.drop (ms.length - i4)) c)), v10, v11, v12] ∧ Same HR H') ?_ ?_ ?_ ?_⟩
        · refine ⟨v5, ?_, .refl HR⟩
          rw [Nat.sub_zero, List.drop_length]
          rfl
        · rintro i4 σ H' _ ⟨v5, _, sm⟩
          exact SqL.of (sm _ _ hrr)
        · rintro i4 x σ H' hx ⟨v5, rfl, sm⟩
          have hi4 : i4 < ms.length := by
            have := (List.getElem?_eq_some_iff.mp hx).1
            rwa [List.length_reverse, List.length_map] at this
          rw [List.getElem?_reverse (by rw [List.length_map]; exact hi4), List.length_map, List.getElem?_map] at hx
          obtain ⟨n, hn, rfl⟩ := Option.map_eq_some_iff.mp hx
          have hnk := hms n (List.mem_of_getElem? hn)
          have LS := LR.go sm
          have nn : 0 ≤ Ftot law (ms.drop (ms.length - i4)) c := Ftot_nn c0 _
          have edrop : ms.drop (ms.length - (i4 + 1)) = n :: ms.drop (ms.length - i4) := by
            have e1 : ms.length - (i4 + 1) = ms.length - 1 - i4 := by omega
            have e2 : ms.length - i4 = ms.length - 1 - i4 + 1 := by omega
            rw [e1, e2]
            obtain ⟨hj, e3⟩ := List.getElem?_eq_some_iff.mp hn
            rw [← e3, List.drop_eq_getElem_cons hj]
          have ef3 : Ftot law (ms.drop (ms.length - (i4 + 1))) c = F ((getR law n).getD .nil) (Ftot law (ms.drop (ms.length - i4)) c) := by
            rw [edrop]
            rfl
          refine ⟨_, rfl, _, _, rfl, rfl, pw10 (by decide) (by decide), _, _, rfl, rfl, _, rfl, ?_⟩
          by_cases hcmp : Ftot law (ms.drop (ms.length - i4)) c < (10 : Int) ^ (30 : Int).toNat
          · refine ifT (decide_eq_true hcmp) ?_
            obtain ⟨t, b, vs, g, hv, hb, hI, row⟩ := look n hnk
            have hz := DGet.k (k := Sum.inr n) (LS.hall.sr _ _ hlrN)
            rw [hv] at hz
            have hpp := row.pp
            refine ⟨_, rfl, _, rfl, lr, .ref b, rfl, hz, _, rfl, b, vs, t, _, rfl, LS.hall.sr _ _ hb, hI.mono LS.hall.sr, row.fit, row.dp, by omega, nn, fun H5 s5 => ?_⟩
            refine ⟨some (.str n), ?_, sm.trans s5⟩
            rw [ef3, g]
            rfl
          · refine ifF (decide_eq_false hcmp) ?_
            obtain ⟨t, g, fit, dp, ef⟩ := lookc n hnk
            obtain ⟨dxs, rs, hhs, _⟩ := id LS.hall.ob
            refine ⟨_, rfl, h, dxs, _, rfl, hhs, no_m, _, rfl, _, rfl, h, d, un', n, _, t, R1, cur, hist, rfl, LS.hall, ok5 n (ksub n hnk), g, fit, dp, nn, fun H5 s5 => ?_⟩
            refine ⟨some (.str n), ?_, sm.trans s5⟩
            rw [ef3, ef]
            rfl
        rintro σ H5 ⟨v5', rfl, s5⟩
        rw [List.length_reverse, List.length_map, Nat.sub_self, List.drop_zero]
        have L5 := LR.go s5
        clear LR LC hrr
        -- together
        obtain ⟨dx5, r5, hh5, _⟩ := id L5.hall.ob
        refine ⟨_, rfl, h, dx5, _, rfl, hh5, no_m, _, rfl, _, rfl, D, ms.map V.str, rfl, .inl ⟨SqL.of (L5.hall.sr _ _ nD), fun tp htp => ⟨(by show 2 ≤ sizeLine; decide), fun l2 hl2 => ?_⟩⟩⟩
        have L6 := L5.lay (o := .tup (ms.map V.str)) htp
        have s16 : Same R1 (upd R1 tp (.tup (ms.map V.str))) := Same.new (Same.free L5.hall.sr htp) _
        have n6t : (upd R1 tp (.tup (ms.map V.str))) tp = some (.tup (ms.map V.str)) := upd_same
        generalize upd R1 tp (.tup (ms.map V.str)) = R6 at L6 s16 n6t
        generalize upd H5 tp (.tup (ms.map V.str)) = H6 at L6 hl2
        have n6D := s16 _ _ nD
        have L7 := L6.go (Same.new hl2 (.lst [.ref D, .ref tp]))
        have hpick : ∃ X, atI [V.ref D, V.ref tp] ((0 + (i3 : Int)) % 2) = some (.ref X) ∧ NamesAt R6 X ms := by
          by_cases e : (0 + (i3 : Int)) % 2 = 0
          · exact ⟨D, by rw [e] <;> rfl, .inl n6D⟩
          · have e1 : (0 + (i3 : Int)) % 2 = 1 := by omega
            exact ⟨tp, by rw [e1] <;> rfl, .inr n6t⟩
        obtain ⟨X, eX, hX⟩ := hpick
        refine ⟨_, rfl, _, _, rfl, rfl, (show (0 : Int) < 2 by decide), l2, _, _, _, rfl, rfl, SqL.of upd_same, eX, _, rfl, h, d, un', X, ms, c, R6, cur, hist, rfl, L7.hall, hX, by omega, L7.ro, fun n hn => .inl (good n hn).1, .inl ⟨good, c0, fun H8 s8 => ?_⟩⟩
        refine ⟨_, rfl, rfl, _, rfl, ifF (by rw [Ftot_rel L7.rel]; simp) ?_⟩
        have L8 := L7.go s8
        clear L5 L6 L7 s8
        -- refused
        refine ⟨_, rfl, _, rfl, (by show 1 ≤ sizeLine; decide), fun g hg => ?_⟩
        have L9 := L8.go (Same.new hg (.lst [.str "gone"]))
        refine ⟨D, g, ms.map V.str, [.str "gone"], rfl, rfl, L9.hall.sr _ _ n6D, upd_same, small (by rw [List.length_map]; show ms.length + 1 ≤ 1000; omega), fun pg hpg => ?_⟩
        rw [show ms.map V.str ++ [V.str "gone"] = (ms ++ [("gone" : Str)]).map V.str by rw [List.map_append] <;> rfl]
        have La := L9.lay (o := .lst ((ms ++ [("gone" : Str)]).map V.str)) hpg
        have nogone : ¬ Good cur "gone" := fun z => by
          obtain ⟨_, t, g⟩ := z
          have hm : ("gone" : Str) ∈ cur.map (·.1) := List.mem_map.mpr ⟨_, getR_mem g, rfl⟩
          rw [L8.rel.keys, hkeys] at hm
          exact gone5 (ksub _ hm)
        refine ⟨_, rfl, h, d, un', pg, ms ++ [("gone" : Str)], c, _, cur, hist, rfl, La.hall, .inl upd_same, by rw [List.length_append]; show ms.length + 1 ≤ 100; omega, La.ro, fun n hn => ?_, ⟨"gone", by simp, nogone⟩, fun Hb sb => ⟨_, rfl, iteF ?_⟩⟩
        · rcases List.mem_append.mp hn with hn | hn
          · exact .inl (good n hn).1
          · rw [List.mem_singleton.mp hn]
            exact .inl okGone
        have Lb : LawSt S O HC H0 R6 Hb u h d un' fl cur law hist := (L9.go (Same.new hpg _)).go sb
        clear L8 L9 La sb hpg hg
        refine ⟨_, rfl, (by show 2 ≤ sizeLine; decide), fun g hg => ?_⟩
        have L9 := Lb.go (Same.new hg (.lst [.str "", .str "a"]))
        refine ⟨_, rfl, g, D, [.str "", .str "a"], ms.map V.str, rfl, rfl, upd_same, L9.hall.sr _ _ n6D, small (by rw [List.length_map]; show 2 + ms.length ≤ 1000; omega), fun pg hpg => ?_⟩
        rw [show [V.str "", V.str "a"] ++ ms.map V.str = (([("" : Str), "a"] : List Str) ++ ms).map V.str by rw [List.map_append] <;> rfl]
        have La := L9.lay (o := .lst ((([("" : Str), "a"] : List Str) ++ ms).map V.str)) hpg
        refine ⟨_, rfl, h, d, un', pg, ([("" : Str), "a"] : List Str) ++ ms, c, _, cur, hist, rfl, La.hall, .inl upd_same, by rw [List.length_append]; show 2 + ms.length ≤ 100; omega, La.ro, fun n hn => ?_, ⟨"", by simp, fun z => z.1.pos len0⟩, fun Hc sc => ⟨_, rfl, iteF ?_⟩⟩
        · rcases List.mem_append.mp hn with hn | hn
          · rcases List.mem_cons.mp hn with rfl | hn
            · exact .inr len0
            · rw [List.mem_singleton.mp hn]
              exact .inl (ok5 _ (ksub _ ka.1))
          · exact .inl (good n hn).1
        have Lc : LawSt S O HC H0 R6 Hc u h d un' fl cur law hist := (L9.go (Same.new hpg _)).go sc
        clear Lb L9 La sc hpg hg
        -- those unlike
        refine ⟨_, rfl, D, ms.map V.str, rfl, SqL.of (Lc.hall.sr _ _ n6D), fun D2 hD2 => lc_it (walk_enum (K := K) (a := D) (xs := ms.map V.str)) (fun j H' => ∃ us : List Str, Same Hc H' ∧ H' D2 = some (.lst (us.map V.str)) ∧ us.Nodup ∧ ∀ n, n ∈ us ↔ n ∈ ms.take j) ?_ ?_ ?_ ?_⟩
        · exact ⟨[], Same.new hD2 _, upd_same, List.nodup_nil, fun n => by simp⟩
        · rintro j H' _ ⟨us, sm, _⟩
          exact SqL.of (sm _ _ (Lc.hall.sr _ _ n6D))
        · rintro j y H' H2 hj ⟨us, sm, hD2', und, hus⟩ ⟨Tp, kx, vx, rfl, nT, rfl, ek, ev⟩
          cases Option.some.inj ek
          change (ms.map V.str)[j]? = some vx at ev
          rw [List.getElem?_map] at ev
          obtain ⟨n, hn, rfl⟩ := Option.map_eq_some_iff.mp ev
          have sT : Same H' (upd H' Tp (.tup [.int (j : Nat), .str n])) := Same.new nT _
          have ecut2 : cutV (ms.map V.str) none (some (j : Int)) = (ms.take j).map V.str := by
            rw [cut_to (Int.natCast_nonneg j), ← List.map_take]
            rfl
          refine ⟨Tp, _, rfl, SqT.of upd_same, rfl, _, _, rfl, _, _, rfl, rfl, rfl, ?_⟩
          refine ⟨_, rfl, _, rfl, _, rfl, _, rfl, D, ms.map V.str, rfl, SqL.of (sT _ _ (sm _ _ (Lc.hall.sr _ _ n6D))), fun sp hsp => ?_⟩
          rw [ecut2]
          refine ⟨sp, _, rfl, .inl (SqL.of upd_same), rfl, flat_strs _, _, rfl, ?_⟩
          have ss : Same H' (upd (upd H' Tp (.tup [.int (j : Nat), .str n])) sp (.lst ((ms.take j).map V.str))) := sT.trans (Same.new hsp _)
          have lus : us.length ≤ ms.length := nodup_sub und fun m hm => List.mem_of_mem_take ((hus m).mp hm)
          by_cases hm : n ∈ ms.take j
          · refine ifF (by rw [inV_strs, decide_eq_true hm] <;> rfl) ⟨us, sm.trans ss, ss _ _ hD2', und, fun m => ?_⟩
            rw [take_next hn, hus m]
            simp only [List.mem_append, List.mem_singleton]
            exact ⟨fun z => .inl z, fun z => z.elim id fun z => by rw [z]; exact hm⟩
          · refine ifT (by rw [inV_strs, decide_eq_false hm] <;> rfl) ⟨_, rfl, _, ss _ _ hD2', small1000 (by rw [List.length_map]; omega), us ++ [n], fun b o e => ?_, by rw [upd_same, List.map_append] <;> rfl, ?_, fun m => ?_⟩
            · rw [upd_ne (ne_of_none e hD2)]
              exact ss _ _ (sm b o e)
            · refine List.nodup_append.mpr ⟨und, by simp, fun x hx y hy => ?_⟩
              rw [List.mem_singleton.mp hy]
              exact fun e => hm ((hus n).mp (by rw [← e]; exact hx))
            · rw [take_next hn]
              simp only [List.mem_append, List.mem_singleton]
              rw [hus m]
        rintro Hd ⟨us, sm, hD2', und, hus⟩
        rw [List.length_map, List.take_length] at hus
        obtain ⟨e0, e1, e2, e3, e4⟩ := Lc.fresh hD2
        have Ld := (Lc.go sm).add hD2' e4 e0 e1 e2 e3
        have sR : Same R6 (upd R6 D2 (.lst (us.map V.str))) := Same.new e4 _
        have nD2 : (upd R6 D2 (.lst (us.map V.str))) D2 = some (.lst (us.map V.str)) := upd_same
        generalize upd R6 D2 (.lst (us.map V.str)) = R7 at Ld sR nD2
        have lld7 : LawD R7 lr law := ⟨lkvs, sR _ _ (s16 _ _ hlrN), entsI_mono (s16.trans sR) henN⟩
        have usk : ∀ n ∈ us, n ∈ ks := fun n hn => hms n ((hus n).mp hn)
        refine ⟨_, rfl, (by show 0 ≤ sizeLine; decide), fun e he => ?_⟩
        have Le := Ld.go (Same.new he (.lst []))
        have hDe := Same.new he (.lst []) _ _ hD2'
        have hee : (upd Hd e (.lst [])) e = some (.lst []) := upd_same
        generalize upd Hd e (.lst []) = He at Le hDe hee
        refine ⟨.list (us.map PyData.str), .list [], .lst (SqL.of hDe) (dp_strs us), .lst (SqL.of hee) .nil, shaped_strs fun n hn => ksub n (usk n hn), rfl, _, rfl, ?_⟩
        cases us with
        | nil =>
          refine ifF (by simp [PyData.eqv, PyData.eqvAll]) ?_
          exact ⟨R7, un', _, _, _, _, _, _, _, _, rfl, Le, lld7⟩
        | cons n0 tail =>
          refine ifT (by simp [PyData.eqv, PyData.eqvAll]) ?_
          have l5 : (n0 :: tail).length ≤ 5 := by
            have := nodup_sub und (m := ks) usk
            omega
          refine ⟨_, rfl, _, rfl, _, rfl, _, rfl, h, d, un', D2, lr, n0, tail, c, R7, cur, law, hist, rfl, Le.hall, ⟨nD2, lld7, Le.rel, Le.rr, Le.ro, Le.sz, by omega, l5, und, fun n hn => ⟨ok5 n (ksub n (usk n hn)), ?_⟩, by omega⟩, c0, kept_of fun R8 H8 u8 mv hA8 => ⟨_, rfl, iteF ?_⟩⟩
          · obtain ⟨t, _, _, g, _⟩ := look n (usk n hn)
            exact ⟨t, g⟩
          · exact ⟨R8, u8, _, _, _, _, _, _, _, _, rfl, Le.moved mv hA8 Le.rel Le.rr Le.ro Le.sz, lld7.mono mv.gr.rr⟩
      · rintro σ H' ⟨R', un', v5, v6, v7, v8, v9, v10, v11, v12, rfl, LL, _⟩
        exact ⟨_, _, _, _, _, _, _, _, _, _, _, _, rfl, sqL_same ha0 LL.same⟩
    · rintro σ H' ⟨v1, v2, v3, v4, v5, v6, v7, v8, v9, v10, v11, v12, rfl, _⟩
      exact q H'
end
end Bo
end
section
/-! Boastrow: the end. -/
namespace Bo
open PySem PySem.Spec L2
section
variable {K : PySem.W.Frag} {h : Heap} {mg : Str → Option Value} {f C : Addr} {fd : FuncData}
theorem here_mk {x : Str} {st : Stmt} {ps : List Str} {oc : Value} {od an : Option Addr} {osl : Array (Option Value)} {kV doc pm cdv ct : Value} (X : K.In h) (G : h.Ns mainGlobals mg) (a : PySem.W.nsIn K mainGlobals x = some (some (.ref f)))
    (l : K.lookup f = some ⟨oc, od, .func (PySem.W.fnOf x x (defArgs st) (defBody st) (defScope st) .none kV doc pm an cdv ct), osl⟩) (c : PySem.W.codeIn K cdv x = true) (k : PySem.W.keepIn K (.ref f) = true)
    (b : ∀ {K : PySem.W.Frag} {f : Addr} {fd : FuncData}, Fun K x x st f fd → Binds K fd ps []) : Here K mg x st ps := ⟨f, _, fun_mk l c k, PySem.W.mg_of X G a, b (fun_mk l c k)⟩
theorem hereM_mk {m qual : Str} {st : Stmt} {ps : List Str} {oc : Value} {od an : Option Addr} {osl : Array (Option Value)} {kV doc pm cdv ct : Value} (a : PySem.W.findIn K (.ref C) m = some (some (.ref f))) (i : PySem.W.isFn K (.ref f) = true)
    (l : K.lookup f = some ⟨oc, od, .func (PySem.W.fnOf m qual (defArgs st) (defBody st) (defScope st) .none kV doc pm an cdv ct), osl⟩) (c : PySem.W.codeIn K cdv qual = true) (k : PySem.W.keepIn K (.ref f) = true)
    (b : ∀ {K : PySem.W.Frag} {f : Addr} {fd : FuncData}, Fun K m qual st f fd → Binds K fd ps []) : HereM K C m qual st ps := ⟨f, _, fun_mk l c k, ⟨a, i, k⟩, b (fun_mk l c k)⟩
theorem hereI_mk {qual : Str} {st : Stmt} {ps : List Str} {oc : Value} {od an : Option Addr} {osl : Array (Option Value)} {kV doc pm cdv ct : Value} (mk : PySem.W.makesIn K C = true) (kc : PySem.W.keepIn K (.ref C) = true) (a : PySem.W.findIn K (.ref C) "__init__" = some (some (.ref f))) (i : PySem.W.isFn K (.ref f) = true)
    (l : K.lookup f = some ⟨oc, od, .func (PySem.W.fnOf "__init__" qual (defArgs st) (defBody st) (defScope st) .none kV doc pm an cdv ct), osl⟩) (c : PySem.W.codeIn K cdv qual = true) (k : PySem.W.keepIn K (.ref f) = true)
    (b : ∀ {K : PySem.W.Frag} {f : Addr} {fd : FuncData}, Fun K "__init__" qual st f fd → Binds K fd ps []) : HereI K C qual st ps := ⟨f, _, fun_mk l c k, ⟨mk, a, i, kc⟩, b (fun_mk l c k)⟩
end
theorem kit_self {K : PySem.W.Frag} {C : Addr} : PySem.W.kitOne K (.ref C) (.ref C) = some true := by
  unfold PySem.W.kitOne
  rw [if_pos (by simp)]
theorem kit_not {K : PySem.W.Frag} {C D : Addr} {r : Bool} (ne : C ≠ D) (h2 : PySem.W.isClsIn K D = true) (h3 : PySem.W.typeIn K (.ref D) = some (.type "type")) (h4 : PySem.W.subIn K (.ref C) (.ref D) = some r) : PySem.W.kitOne K (.ref C) (.ref D) = some r := by
  have e2 : ((PySem.W.clsIn K D).isSome && PySem.W.typeIn K (.ref D) == some (.type "type")) = true := by
    have h2' : (PySem.W.clsIn K D).isSome = true := h2
    rw [h2', h3] <;> rfl
  unfold PySem.W.kitOne
  rw [if_neg (by simpa using ne)]
  show (if ((PySem.W.clsIn K D).isSome && PySem.W.typeIn K (.ref D) == some (.type "type")) = true then PySem.W.subIn K (.ref C) (.ref D) else none) = some r
  rw [if_pos e2]
  exact h4
theorem exm_own {K : PySem.W.Frag} {S : Addr} (h1 : PySem.W.subIn K (.ref S) (.type "BaseException") = some true) (h2 : PySem.W.isClsIn K S = true) (h3 : PySem.W.typeIn K (.ref S) = some (.type "type")) (h4 : PySem.W.subIn K (.ref S) (.ref S) = some true) :
    PySem.W.exmOne K (.ref S) (.ref S) = some true := by
  have e1 : (PySem.W.subIn K (.ref S) (.type "BaseException") == some true) = true := by rw [h1] <;> rfl
  have e2 : ((PySem.W.clsIn K S).isSome && PySem.W.typeIn K (.ref S) == some (.type "type")) = true := by
    have h2' : (PySem.W.clsIn K S).isSome = true := h2
    rw [h2', h3] <;> rfl
  show (if (PySem.W.subIn K (.ref S) (.type "BaseException") == some true) = true then (if ((PySem.W.clsIn K S).isSome && PySem.W.typeIn K (.ref S) == some (.type "type")) = true then PySem.W.subIn K (.ref S) (.ref S) else none) else none) = some true
  rw [if_pos e1, if_pos e2]
  exact h4
/-! ### how each def's parameters are bound -/
theorem bd11 {K : PySem.W.Frag} {f : Addr} {fd : FuncData} (F : Fun K "is_number" "is_number" (top 11) f fd) : Binds K fd ["thing"] [] := F.binds (ps := ["thing"]) fun _ _ _ _ _ _ us hl => match us, hl with | [_], _ => rfl
theorem bd12 {K : PySem.W.Frag} {f : Addr} {fd : FuncData} (F : Fun K "is_saying" "is_saying" (top 12) f fd) : Binds K fd ["thing"] [] := F.binds (ps := ["thing"]) fun _ _ _ _ _ _ us hl => match us, hl with | [_], _ => rfl
theorem bd13 {K : PySem.W.Frag} {f : Addr} {fd : FuncData} (F : Fun K "need_number" "need_number" (top 13) f fd) : Binds K fd ["thing"] [] := F.binds (ps := ["thing"]) fun _ _ _ _ _ _ us hl => match us, hl with | [_], _ => rfl
theorem bd20 {K : PySem.W.Frag} {f : Addr} {fd : FuncData} (F : Fun K "laid_many" "laid_many" (top 20) f fd) : Binds K fd ["parts"] [] := F.binds (ps := ["parts"]) fun _ _ _ _ _ _ us hl => match us, hl with | [_], _ => rfl
theorem bd21 {K : PySem.W.Frag} {f : Addr} {fd : FuncData} (F : Fun K "people_said" "people_said" (top 21) f fd) : Binds K fd ["item"] [] := F.binds (ps := ["item"]) fun _ _ _ _ _ _ us hl => match us, hl with | [_], _ => rfl
theorem bd22 {K : PySem.W.Frag} {f : Addr} {fd : FuncData} (F : Fun K "people_of" "people_of" (top 22) f fd) : Binds K fd ["thing"] [] := F.binds (ps := ["thing"]) fun _ _ _ _ _ _ us hl => match us, hl with | [_], _ => rfl
theorem bd23 {K : PySem.W.Frag} {f : Addr} {fd : FuncData} (F : Fun K "is_long" "is_long" (top 23) f fd) : Binds K fd ["thing"] [] := F.binds (ps := ["thing"]) fun _ _ _ _ _ _ us hl => match us, hl with | [_], _ => rfl
theorem bd24 {K : PySem.W.Frag} {f : Addr} {fd : FuncData} (F : Fun K "need_long" "need_long" (top 24) f fd) : Binds K fd ["thing"] [] := F.binds (ps := ["thing"]) fun _ _ _ _ _ _ us hl => match us, hl with | [_], _ => rfl
theorem bd25 {K : PySem.W.Frag} {f : Addr} {fd : FuncData} (F : Fun K "planted" "planted" (top 25) f fd) : Binds K fd ["long", "first"] [] := F.binds (ps := ["long", "first"]) fun _ _ _ _ _ _ us hl => match us, hl with | [_, _], _ => rfl
theorem bd26 {K : PySem.W.Frag} {f : Addr} {fd : FuncData} (F : Fun K "parts_of" "parts_of" (top 26) f fd) : Binds K fd ["long"] [] := F.binds (ps := ["long"]) fun _ _ _ _ _ _ us hl => match us, hl with | [_], _ => rfl
theorem bd31 {K : PySem.W.Frag} {f : Addr} {fd : FuncData} (F : Fun K "lesser_slack" "lesser_slack" (top 31) f fd) : Binds K fd ["one", "other"] [] := F.binds (ps := ["one", "other"]) fun _ _ _ _ _ _ us hl => match us, hl with | [_, _], _ => rfl
theorem bd32 {K : PySem.W.Frag} {f : Addr} {fd : FuncData} (F : Fun K "word_of" "word_of" (top 32) f fd) : Binds K fd ["saying", "number"] [] := F.binds (ps := ["saying", "number"]) fun _ _ _ _ _ _ us hl => match us, hl with | [_, _], _ => rfl
theorem bd33 {K : PySem.W.Frag} {f : Addr} {fd : FuncData} (F : Fun K "add_counts" "add_counts" (top 33) f fd) : Binds K fd ["counts", "more", "times"] [] := F.binds (ps := ["counts", "more", "times"]) fun _ _ _ _ _ _ us hl => match us, hl with | [_, _, _], _ => rfl
theorem bd34 {K : PySem.W.Frag} {f : Addr} {fd : FuncData} (F : Fun K "through" "through" (top 34) f fd) : Binds K fd ["parts", "number"] [] := F.binds (ps := ["parts", "number"]) fun _ _ _ _ _ _ us hl => match us, hl with | [_, _], _ => rfl
theorem bd35 {K : PySem.W.Frag} {f : Addr} {fd : FuncData} (F : Fun K "through_over" "through_over" (top 35) f fd) : Binds K fd ["part", "number"] [] := F.binds (ps := ["part", "number"]) fun _ _ _ _ _ _ us hl => match us, hl with | [_, _], _ => rfl
theorem bd36 {K : PySem.W.Frag} {f : Addr} {fd : FuncData} (F : Fun K "wished" "wished" (top 36) f fd) : Binds K fd ["parts", "wish"] [] := F.binds (ps := ["parts", "wish"]) fun _ _ _ _ _ _ us hl => match us, hl with | [_, _], _ => rfl
theorem bd37 {K : PySem.W.Frag} {f : Addr} {fd : FuncData} (F : Fun K "wished_over" "wished_over" (top 37) f fd) : Binds K fd ["part", "wish"] [] := F.binds (ps := ["part", "wish"]) fun _ _ _ _ _ _ us hl => match us, hl with | [_, _], _ => rfl
theorem bd38 {K : PySem.W.Frag} {f : Addr} {fd : FuncData} (F : Fun K "total_of" "total_of" (top 38) f fd) : Binds K fd ["parts", "number"] [] := F.binds (ps := ["parts", "number"]) fun _ _ _ _ _ _ us hl => match us, hl with | [_, _], _ => rfl
theorem bd39 {K : PySem.W.Frag} {f : Addr} {fd : FuncData} (F : Fun K "far_total" "far_total" (top 39) f fd) : Binds K fd ["long", "company"] [] := F.binds (ps := ["long", "company"]) fun _ _ _ _ _ _ us hl => match us, hl with | [_, _], _ => rfl
theorem bd43 {K : PySem.W.Frag} {f : Addr} {fd : FuncData} (F : Fun K "is_name" "is_name" (top 43) f fd) : Binds K fd ["thing"] [] := F.binds (ps := ["thing"]) fun _ _ _ _ _ _ us hl => match us, hl with | [_], _ => rfl
theorem bd44 {K : PySem.W.Frag} {f : Addr} {fd : FuncData} (F : Fun K "need_name" "need_name" (top 44) f fd) : Binds K fd ["thing"] [] := F.binds (ps := ["thing"]) fun _ _ _ _ _ _ us hl => match us, hl with | [_], _ => rfl
theorem bd45 {K : PySem.W.Frag} {f : Addr} {fd : FuncData} (F : Fun K "need_few" "need_few" (top 45) f fd) : Binds K fd ["many"] [] := F.binds (ps := ["many"]) fun _ _ _ _ _ _ us hl => match us, hl with | [_], _ => rfl
theorem bd46 {K : PySem.W.Frag} {f : Addr} {fd : FuncData} (F : Fun K "slim" "slim" (top 46) f fd) : Binds K fd ["parts"] [] := F.binds (ps := ["parts"]) fun _ _ _ _ _ _ us hl => match us, hl with | [_], _ => rfl
theorem bd50 {K : PySem.W.Frag} {f : Addr} {fd : FuncData} (F : Fun K "_law_urn" "_law_urn" (top 50) f fd) : Binds K fd ["_law_script", "_law_k"] [] := F.binds (ps := ["_law_script", "_law_k"]) fun _ _ _ _ _ _ us hl => match us, hl with | [_, _], _ => rfl
theorem bd51 {K : PySem.W.Frag} {f : Addr} {fd : FuncData} (F : Fun K "_law_ball" "_law_ball" (top 51) f fd) : Binds K fd ["_law_urn_here", "_law_many"] [] := F.binds (ps := ["_law_urn_here", "_law_many"]) fun _ _ _ _ _ _ us hl => match us, hl with | [_, _], _ => rfl
theorem bd52 {K : PySem.W.Frag} {f : Addr} {fd : FuncData} (F : Fun K "_law_saying" "_law_saying" (top 52) f fd) : Binds K fd ["_law_urn_here", "_law_wide"] [] := F.binds (ps := ["_law_urn_here", "_law_wide"]) fun _ _ _ _ _ _ us hl => match us, hl with | [_, _], _ => rfl
theorem bd53 {K : PySem.W.Frag} {f : Addr} {fd : FuncData} (F : Fun K "_law_people" "_law_people" (top 53) f fd) : Binds K fd ["_law_long_here"] [] := F.binds (ps := ["_law_long_here"]) fun _ _ _ _ _ _ us hl => match us, hl with | [_], _ => rfl
theorem bd54 {K : PySem.W.Frag} {f : Addr} {fd : FuncData} (F : Fun K "_law_long" "_law_long" (top 54) f fd) : Binds K fd ["_law_urn_here", "_law_plan", "_law_deep", "_law_room"] [] := F.binds (ps := ["_law_urn_here", "_law_plan", "_law_deep", "_law_room"]) fun _ _ _ _ _ _ us hl => match us, hl with | [_, _, _, _], _ => rfl
theorem bd55 {K : PySem.W.Frag} {f : Addr} {fd : FuncData} (F : Fun K "_law_sayings" "_law_sayings" (top 55) f fd) : Binds K fd ["_law_long_here"] [] := F.binds (ps := ["_law_long_here"]) fun _ _ _ _ _ _ us hl => match us, hl with | [_], _ => rfl
theorem bd56 {K : PySem.W.Frag} {f : Addr} {fd : FuncData} (F : Fun K "_law_company" "_law_company" (top 56) f fd) : Binds K fd ["_law_urn_here", "_law_sayings_here"] [] := F.binds (ps := ["_law_urn_here", "_law_sayings_here"]) fun _ _ _ _ _ _ us hl => match us, hl with | [_, _], _ => rfl
theorem bd57 {K : PySem.W.Frag} {f : Addr} {fd : FuncData} (F : Fun K "_law_near_or_great" "_law_near_or_great" (top 57) f fd) : Binds K fd ["_law_urn_here"] [] := F.binds (ps := ["_law_urn_here"]) fun _ _ _ _ _ _ us hl => match us, hl with | [_], _ => rfl
theorem bd58 {K : PySem.W.Frag} {f : Addr} {fd : FuncData} (F : Fun K "_law_refused" "_law_refused" (top 58) f fd) : Binds K fd ["_law_hall", "_law_names", "_law_company_here"] [] := F.binds (ps := ["_law_hall", "_law_names", "_law_company_here"]) fun _ _ _ _ _ _ us hl => match us, hl with | [_, _, _], _ => rfl
theorem bd59 {K : PySem.W.Frag} {f : Addr} {fd : FuncData} (F : Fun K "_law_joined_right" "_law_joined_right" (top 59) f fd) : Binds K fd ["_law_hall", "_law_names", "_law_rows", "_law_company_here"] [] := F.binds (ps := ["_law_hall", "_law_names", "_law_rows", "_law_company_here"]) fun _ _ _ _ _ _ us hl => match us, hl with | [_, _, _, _], _ => rfl
theorem bd60 {K : PySem.W.Frag} {f : Addr} {fd : FuncData} (F : Fun K "law" "law" (top 60) f fd) : Binds K fd ["_law_script"] [] := F.binds (ps := ["_law_script"]) fun _ _ _ _ _ _ us hl => match us, hl with | [_], _ => rfl
theorem bd_hSpot {K : PySem.W.Frag} {f : Addr} {fd : FuncData} (F : Fun K "__init__" "Spot.__init__" (inClass (top 18) 0) f fd) : Binds K fd ["self", "saying", "number"] [] := F.binds (ps := ["self", "saying", "number"]) fun _ _ _ _ _ _ us hl => match us, hl with | [_, _, _], _ => rfl
theorem bd_hOver {K : PySem.W.Frag} {f : Addr} {fd : FuncData} (F : Fun K "__init__" "Over.__init__" (inClass (top 19) 0) f fd) : Binds K fd ["self", "times", "parts"] [] := F.binds (ps := ["self", "times", "parts"]) fun _ _ _ _ _ _ us hl => match us, hl with | [_, _, _], _ => rfl
theorem bd_hHall {K : PySem.W.Frag} {f : Addr} {fd : FuncData} (F : Fun K "__init__" "Hall.__init__" (inClass sHall 0) f fd) : Binds K fd ["self"] [] := F.binds (ps := ["self"]) fun _ _ _ _ _ _ us hl => match us, hl with | [_], _ => rfl
theorem bd_hParts {K : PySem.W.Frag} {f : Addr} {fd : FuncData} (F : Fun K "s10_parts" "Hall.s10_parts" (inClass sHall 2) f fd) : Binds K fd ["self", "name"] [] := F.binds (ps := ["self", "name"]) fun _ _ _ _ _ _ us hl => match us, hl with | [_, _], _ => rfl
theorem bd_hFree {K : PySem.W.Frag} {f : Addr} {fd : FuncData} (F : Fun K "s10_free" "Hall.s10_free" (inClass sHall 3) f fd) : Binds K fd ["self", "name"] [] := F.binds (ps := ["self", "name"]) fun _ _ _ _ _ _ us hl => match us, hl with | [_, _], _ => rfl
theorem bd_hKeep {K : PySem.W.Frag} {f : Addr} {fd : FuncData} (F : Fun K "s10_keep" "Hall.s10_keep" (inClass sHall 4) f fd) : Binds K fd ["self", "deed", "rows"] [] := F.binds (ps := ["self", "deed", "rows"]) fun _ _ _ _ _ _ us hl => match us, hl with | [_, _, _], _ => rfl
theorem bd_hBegin {K : PySem.W.Frag} {f : Addr} {fd : FuncData} (F : Fun K "begin" "Hall.begin" (inClass sHall 5) f fd) : Binds K fd ["self", "name", "long"] [] := F.binds (ps := ["self", "name", "long"]) fun _ _ _ _ _ _ us hl => match us, hl with | [_, _, _], _ => rfl
theorem bd_hJoin {K : PySem.W.Frag} {f : Addr} {fd : FuncData} (F : Fun K "join_to" "Hall.join_to" (inClass sHall 10) f fd) : Binds K fd ["self", "name", "other"] [] := F.binds (ps := ["self", "name", "other"]) fun _ _ _ _ _ _ us hl => match us, hl with | [_, _, _], _ => rfl
theorem bd_hUndo {K : PySem.W.Frag} {f : Addr} {fd : FuncData} (F : Fun K "undo" "Hall.undo" (inClass sHall 14) f fd) : Binds K fd ["self"] [] := F.binds (ps := ["self"]) fun _ _ _ _ _ _ us hl => match us, hl with | [_], _ => rfl
theorem bd_hNames {K : PySem.W.Frag} {f : Addr} {fd : FuncData} (F : Fun K "names" "Hall.names" (inClass sHall 16) f fd) : Binds K fd ["self"] [] := F.binds (ps := ["self"]) fun _ _ _ _ _ _ us hl => match us, hl with | [_], _ => rfl
theorem bd_hTotal {K : PySem.W.Frag} {f : Addr} {fd : FuncData} (F : Fun K "total" "Hall.total" (inClass sHall 18) f fd) : Binds K fd ["self", "name", "company"] [] := F.binds (ps := ["self", "name", "company"]) fun _ _ _ _ _ _ us hl => match us, hl with | [_, _, _], _ => rfl
theorem bd_hLeast {K : PySem.W.Frag} {f : Addr} {fd : FuncData} (F : Fun K "least" "Hall.least" (inClass sHall 19) f fd) : Binds K fd ["self", "name", "total"] [] := F.binds (ps := ["self", "name", "total"]) fun _ _ _ _ _ _ us hl => match us, hl with | [_, _, _], _ => rfl
theorem bd_hTogether {K : PySem.W.Frag} {f : Addr} {fd : FuncData} (F : Fun K "together" "Hall.together" (inClass sHall 23) f fd) : Binds K fd ["self", "names", "company"] [] := F.binds (ps := ["self", "names", "company"]) fun _ _ _ _ _ _ us hl => match us, hl with | [_, _, _], _ => rfl
theorem all_mk {P : Program} {w : World} {K : PySem.W.Frag} {h : Heap} {mg : Str → Option Value} {fa S O HC NN : Addr} {t1 t2 t3 t4 t5 : Tok} (X : K.In h) (G : h.Ns mainGlobals mg) (most : ∃ t, mg "MOST_PEOPLE" = some (.int 999999999999999999999999999999 t)) (hfa : mg "law" = some (.ref fa))
    (gS : PySem.W.nsIn K mainGlobals "Spot" = some (some (.ref S)))
    (gO : PySem.W.nsIn K mainGlobals "Over" = some (some (.ref O)))
    (gHC : PySem.W.nsIn K mainGlobals "Hall" = some (some (.ref HC)))
    (gN : PySem.W.nsIn K mainGlobals "NoName" = some (some (.ref NN)))
    (bIsi : PySem.W.nsIn K mainGlobals "isinstance" = some none)
    (bInt : PySem.W.nsIn K mainGlobals "int" = some none)
    (bBool : PySem.W.nsIn K mainGlobals "bool" = some none)
    (bTuple : PySem.W.nsIn K mainGlobals "tuple" = some none)
    (bList : PySem.W.nsIn K mainGlobals "list" = some none)
    (bStr : PySem.W.nsIn K mainGlobals "str" = some none)
    (bLen : PySem.W.nsIn K mainGlobals "len" = some none)
    (bSum : PySem.W.nsIn K mainGlobals "sum" = some none)
    (bMin : PySem.W.nsIn K mainGlobals "min" = some none)
    (bMax : PySem.W.nsIn K mainGlobals "max" = some none)
    (bAbs : PySem.W.nsIn K mainGlobals "abs" = some none)
    (bAll : PySem.W.nsIn K mainGlobals "all" = some none)
    (bRange : PySem.W.nsIn K mainGlobals "range" = some none)
    (bSorted : PySem.W.nsIn K mainGlobals "sorted" = some none)
    (bDict : PySem.W.nsIn K mainGlobals "dict" = some none)
    (bEnum : PySem.W.nsIn K mainGlobals "enumerate" = some none)
    (pgS : PySem.W.plainGet K S Str.empty = true)
    (hdS : PySem.W.hasDictIn K S = true)
    (poS : PySem.W.plainOver K S = true)
    (saS : PySem.W.findIn K (.ref S) "__setattr__" = some (some (.builtin "object.__setattr__")))
    (pgO : PySem.W.plainGet K O Str.empty = true)
    (hdO : PySem.W.hasDictIn K O = true)
    (poO : PySem.W.plainOver K O = true)
    (saO : PySem.W.findIn K (.ref O) "__setattr__" = some (some (.builtin "object.__setattr__")))
    (pgHC : PySem.W.plainGet K HC Str.empty = true)
    (hdHC : PySem.W.hasDictIn K HC = true)
    (poHC : PySem.W.plainOver K HC = true)
    (saHC : PySem.W.findIn K (.ref HC) "__setattr__" = some (some (.builtin "object.__setattr__")))
    (icS : PySem.W.findIn K (.ref S) "__class__" = some (some (.builtin "object.__class__")))
    (isS : PySem.W.specialIn K (.builtin "object.__class__") "__get__" = some (some (.builtin "getset_descriptor.__get__")))
    (itS : PySem.W.takesIn K (.builtin "object.__class__") = some true)
    (imS : PySem.W.mroIn K S (.type "object") = some true)
    (clS : PySem.W.isClsIn K S = true)
    (tyS : PySem.W.typeIn K (.ref S) = some (.type "type"))
    (icO : PySem.W.findIn K (.ref O) "__class__" = some (some (.builtin "object.__class__")))
    (isO : PySem.W.specialIn K (.builtin "object.__class__") "__get__" = some (some (.builtin "getset_descriptor.__get__")))
    (itO : PySem.W.takesIn K (.builtin "object.__class__") = some true)
    (imO : PySem.W.mroIn K O (.type "object") = some true)
    (clO : PySem.W.isClsIn K O = true)
    (tyO : PySem.W.typeIn K (.ref O) = some (.type "type"))
    (sSO : PySem.W.subIn K (.ref S) (.ref O) = some false)
    (sOS : PySem.W.subIn K (.ref O) (.ref S) = some false)
    (neSO : S ≠ O)
    (nSs : PySem.W.findIn K (.ref S) "s8_said" = some none)
    (nSn : PySem.W.findIn K (.ref S) "s8_number" = some none)
    (nSm : PySem.W.findIn K (.ref S) "s8_many" = some none)
    (nOt : PySem.W.findIn K (.ref O) "s8_times" = some none)
    (nOp : PySem.W.findIn K (.ref O) "s8_parts" = some none)
    (nOo : PySem.W.findIn K (.ref O) "s8_once" = some none)
    (nOm : PySem.W.findIn K (.ref O) "s8_many" = some none)
    (nHr : PySem.W.findIn K (.ref HC) "s10_rows" = some none)
    (nHd : PySem.W.findIn K (.ref HC) "s10_done" = some none)
    (nHu : PySem.W.findIn K (.ref HC) "s10_undone" = some none)
    (gAgain : PySem.W.nsIn K mainGlobals "AGAIN" = some (some (.str "again" t1)))
    (gFew : PySem.W.nsIn K mainGlobals "FEW" = some (some (.int 0 t2)))
    (gTrue : PySem.W.nsIn K mainGlobals "TRUE" = some (some (.int 1 t3)))
    (gLetters : PySem.W.nsIn K mainGlobals "LETTERS" = some (some (.str "abcdefghijklmnopqrstuvwxyz" t4)))
    (gMostL : PySem.W.nsIn K mainGlobals "MOST_LETTERS" = some (some (.int 8 t5)))
    (xP : PySem.W.excIn K NN [.type "ValueError", .type "Exception", .type "BaseException", .type "object"] "ValueError.__new__" = true)
    (kP : PySem.W.keepIn K (.ref NN) = true)
    (bP : PySem.W.subIn K (.ref NN) (.type "BaseException") = some true)
    (tP : PySem.W.typeIn K (.ref NN) = some (.type "type"))
    (iP : PySem.W.isClsIn K NN = true)
    (sP : PySem.W.subIn K (.ref NN) (.ref NN) = some true)
    (h11 : Here K mg "is_number" (top 11) ["thing"])
    (h12 : Here K mg "is_saying" (top 12) ["thing"])
    (h13 : Here K mg "need_number" (top 13) ["thing"])
    (h20 : Here K mg "laid_many" (top 20) ["parts"])
    (h21 : Here K mg "people_said" (top 21) ["item"])
    (h22 : Here K mg "people_of" (top 22) ["thing"])
    (h23 : Here K mg "is_long" (top 23) ["thing"])
    (h24 : Here K mg "need_long" (top 24) ["thing"])
    (h25 : Here K mg "planted" (top 25) ["long", "first"])
    (h26 : Here K mg "parts_of" (top 26) ["long"])
    (h31 : Here K mg "lesser_slack" (top 31) ["one", "other"])
    (h32 : Here K mg "word_of" (top 32) ["saying", "number"])
    (h33 : Here K mg "add_counts" (top 33) ["counts", "more", "times"])
    (h34 : Here K mg "through" (top 34) ["parts", "number"])
    (h35 : Here K mg "through_over" (top 35) ["part", "number"])
    (h36 : Here K mg "wished" (top 36) ["parts", "wish"])
    (h37 : Here K mg "wished_over" (top 37) ["part", "wish"])
    (h38 : Here K mg "total_of" (top 38) ["parts", "number"])
    (h39 : Here K mg "far_total" (top 39) ["long", "company"])
    (h43 : Here K mg "is_name" (top 43) ["thing"])
    (h44 : Here K mg "need_name" (top 44) ["thing"])
    (h45 : Here K mg "need_few" (top 45) ["many"])
    (h46 : Here K mg "slim" (top 46) ["parts"])
    (h50 : Here K mg "_law_urn" (top 50) ["_law_script", "_law_k"])
    (h51 : Here K mg "_law_ball" (top 51) ["_law_urn_here", "_law_many"])
    (h52 : Here K mg "_law_saying" (top 52) ["_law_urn_here", "_law_wide"])
    (h53 : Here K mg "_law_people" (top 53) ["_law_long_here"])
    (h54 : Here K mg "_law_long" (top 54) ["_law_urn_here", "_law_plan", "_law_deep", "_law_room"])
    (h55 : Here K mg "_law_sayings" (top 55) ["_law_long_here"])
    (h56 : Here K mg "_law_company" (top 56) ["_law_urn_here", "_law_sayings_here"])
    (h57 : Here K mg "_law_near_or_great" (top 57) ["_law_urn_here"])
    (h58 : Here K mg "_law_refused" (top 58) ["_law_hall", "_law_names", "_law_company_here"])
    (h59 : Here K mg "_law_joined_right" (top 59) ["_law_hall", "_law_names", "_law_rows", "_law_company_here"])
    (h60 : Here K mg "law" (top 60) ["_law_script"])
    (hSpot : HereI K S "Spot.__init__" (inClass (top 18) 0) ["self", "saying", "number"])
    (hOver : HereI K O "Over.__init__" (inClass (top 19) 0) ["self", "times", "parts"])
    (hHall : HereI K HC "Hall.__init__" (inClass sHall 0) ["self"])
    (hParts : HereM K HC "s10_parts" "Hall.s10_parts" (inClass sHall 2) ["self", "name"])
    (hFree : HereM K HC "s10_free" "Hall.s10_free" (inClass sHall 3) ["self", "name"])
    (hKeep : HereM K HC "s10_keep" "Hall.s10_keep" (inClass sHall 4) ["self", "deed", "rows"])
    (hBegin : HereM K HC "begin" "Hall.begin" (inClass sHall 5) ["self", "name", "long"])
    (hJoin : HereM K HC "join_to" "Hall.join_to" (inClass sHall 10) ["self", "name", "other"])
    (hUndo : HereM K HC "undo" "Hall.undo" (inClass sHall 14) ["self"])
    (hNames : HereM K HC "names" "Hall.names" (inClass sHall 16) ["self"])
    (hTotal : HereM K HC "total" "Hall.total" (inClass sHall 18) ["self", "name", "company"])
    (hLeast : HereM K HC "least" "Hall.least" (inClass sHall 19) ["self", "name", "total"])
    (hTogether : HereM K HC "together" "Hall.together" (inClass sHall 23) ["self", "names", "company"])
    : ∃ fd : FuncData, (∀ (s : Shared) (u : Value), BindsTo s fd ⟨[u], []⟩ [("_law_script", u)]) ∧ ∀ base : Heap, K.In base → base.Ns mainGlobals mg → FnOk P w K mg base CX0 13 fa fd ["_law_script"] (spLaw K) := by
  have T : Txt K mg S O HC NN := {
    bIsi := PySem.W.mg_none_of X G bIsi,
    bInt := PySem.W.mg_none_of X G bInt,
    bBool := PySem.W.mg_none_of X G bBool,
    bTuple := PySem.W.mg_none_of X G bTuple,
    bList := PySem.W.mg_none_of X G bList,
    bStr := PySem.W.mg_none_of X G bStr,
    bLen := PySem.W.mg_none_of X G bLen,
    bSum := PySem.W.mg_none_of X G bSum,
    bMin := PySem.W.mg_none_of X G bMin,
    bMax := PySem.W.mg_none_of X G bMax,
    bAbs := PySem.W.mg_none_of X G bAbs,
    bAll := PySem.W.mg_none_of X G bAll,
    bRange := PySem.W.mg_none_of X G bRange,
    bSorted := PySem.W.mg_none_of X G bSorted,
    bDict := PySem.W.mg_none_of X G bDict,
    bEnum := PySem.W.mg_none_of X G bEnum,
    iS := ⟨⟨pgS, hdS, poS, saS⟩, icS, isS, itS, imS⟩,
    iO := ⟨⟨pgO, hdO, poO, saO⟩, icO, isO, itO, imO⟩,
    cH := ⟨pgHC, hdHC, poHC, saHC⟩,
    gS := PySem.W.mg_of X G gS,
    gO := PySem.W.mg_of X G gO,
    gH := PySem.W.mg_of X G gHC,
    kSS := kit_self,
    kSO := kit_not neSO clO tyO sSO,
    kOS := kit_not (Ne.symm neSO) clS tyS sOS,
    kOO := kit_self,
    nSs := nSs,
    nSn := nSn,
    nSm := nSm,
    nOt := nOt,
    nOp := nOp,
    nOo := nOo,
    nOm := nOm,
    nHr := nHr,
    nHd := nHd,
    nHu := nHu,
    gMost := most,
    gAgain := ⟨_, PySem.W.mg_of X G gAgain⟩,
    gFew := ⟨_, PySem.W.mg_of X G gFew⟩,
    gTrue := ⟨_, PySem.W.mg_of X G gTrue⟩,
    gLetters := ⟨_, PySem.W.mg_of X G gLetters⟩,
    gMostL := ⟨_, PySem.W.mg_of X G gMostL⟩,
    gP := PySem.W.mg_of X G gN,
    xP := xP,
    kP := kP,
    bP := bP,
    tP := tP,
    eP := exm_own bP iP tP sP,
    h11 := h11,
    h12 := h12,
    h13 := h13,
    h20 := h20,
    h21 := h21,
    h22 := h22,
    h23 := h23,
    h24 := h24,
    h25 := h25,
    h26 := h26,
    h31 := h31,
    h32 := h32,
    h33 := h33,
    h34 := h34,
    h35 := h35,
    h36 := h36,
    h37 := h37,
    h38 := h38,
    h39 := h39,
    h43 := h43,
    h44 := h44,
    h45 := h45,
    h46 := h46,
    h50 := h50,
    h51 := h51,
    h52 := h52,
    h53 := h53,
    h54 := h54,
    h55 := h55,
    h56 := h56,
    h57 := h57,
    h58 := h58,
    h59 := h59,
    h60 := h60,
    hSpot := hSpot,
    hOver := hOver,
    hHall := hHall,
    hParts := hParts,
    hFree := hFree,
    hKeep := hKeep,
    hBegin := hBegin,
    hJoin := hJoin,
    hUndo := hUndo,
    hNames := hNames,
    hTotal := hTotal,
    hLeast := hLeast,
    hTogether := hTogether }
  obtain ⟨f, fd, F, mf, ok⟩ := d60 (P := P) (w := w) T
  cases hfa.symm.trans mf
  refine ⟨fd, fun s u => ?_, fun base _ _ => ok base⟩
  obtain ⟨oc, od, kV, doc, pm, an, cdv, ct, osl, rfl, _, _⟩ := F.ex
  exact .of_eq rfl
theorem most_of {p : Program} {mg : Str → Option Value} {h : Heap} (x : PySem.W.XL p [("MOST_PEOPLE", .int 999999999999999999999999999999)] mg h) : ∃ t, mg "MOST_PEOPLE" = some (.int 999999999999999999999999999999 t) := by
  obtain ⟨v, h1, h2⟩ := x.2.val _ List.mem_cons_self
  cases h2 with
  | int i t => exact ⟨t, h1⟩
end Bo
end
open PySem PySem.W PyProof.Rows
set_option maxRecDepth 100000 in
set_option maxHeartbeats 0 in
theorem PySem.Challenge.cw_boastrow_k92_whole_rows_behind_rows_holds : PySem.Challenge.rw_boastrow_k92_whole_rows_behind_rows.Holds := by
  w_on; o_law; k_head; (case hw => w_witness2)
  k_fill
  refine L2.walk_ofX (n := 63) (k := 13) (x := "_law_script") (CX := fun _ => L2.CX0) (sp := fun w => Bo.spLaw _) (l := PySem.Challenge.rw_boastrow_k92_whole_rows_behind_rows) rfl (by decide) rfl ⟨rfl, by decide, by decide⟩ (fun w h Y => PySem.W.kIn_of Y) ?F (fun _ _ a ns hl _ hS => ⟨a, ns, rfl, hS, Nat.le_trans hl (by decide), fun _ => rfl⟩) fun _ _ _ _ _ z => z
  case F =>
    intro w mg fa h KX G hX hmg
    refine' Bo.all_mk KX G (Bo.most_of hX) hmg ?gS ?gO ?gHC ?gN ?bIsi ?bInt ?bBool ?bTuple ?bList ?bStr ?bLen ?bSum ?bMin ?bMax ?bAbs ?bAll ?bRange ?bSorted ?bDict ?bEnum ?pgS ?hdS ?poS ?saS ?pgO ?hdO ?poO ?saO ?pgHC ?hdHC ?poHC ?saHC ?icS ?isS ?itS ?imS ?clS ?tyS ?icO ?isO ?itO ?imO ?clO ?tyO ?sSO ?sOS ?neSO ?nSs ?nSn ?nSm ?nOt ?nOp ?nOo ?nOm ?nHr ?nHd ?nHu ?gAgain ?gFew ?gTrue ?gLetters ?gMostL ?xP ?kP ?bP ?tP ?iP ?sP ?h11 ?h12 ?h13 ?h20 ?h21 ?h22 ?h23 ?h24 ?h25 ?h26 ?h31 ?h32 ?h33 ?h34 ?h35 ?h36 ?h37 ?h38 ?h39 ?h43 ?h44 ?h45 ?h46 ?h50 ?h51 ?h52 ?h53 ?h54 ?h55 ?h56 ?h57 ?h58 ?h59 ?h60 ?hSpot ?hOver ?hHall ?hParts ?hFree ?hKeep ?hBegin ?hJoin ?hUndo ?hNames ?hTotal ?hLeast ?hTogether
    (case gS => k_is)
    (case gO => k_is)
    (case gHC => k_is)
    (case gN => k_is)
    (case bIsi => k_is)
    (case bInt => k_is)
    (case bBool => k_is)
    (case bTuple => k_is)
    (case bList => k_is)
    (case bStr => k_is)
    (case bLen => k_is)
    (case bSum => k_is)
    (case bMin => k_is)
    (case bMax => k_is)
    (case bAbs => k_is)
    (case bAll => k_is)
    (case bRange => k_is)
    (case bSorted => k_is)
    (case bDict => k_is)
    (case bEnum => k_is)
    (case pgS => k_is)
    (case hdS => k_is)
    (case poS => k_is)
    (case saS => k_is)
    (case pgO => k_is)
    (case hdO => k_is)
    (case poO => k_is)
    (case saO => k_is)
    (case pgHC => k_is)
    (case hdHC => k_is)
    (case poHC => k_is)
    (case saHC => k_is)
    (case icS => k_is)
    (case isS => k_is)
    (case itS => k_is)
    (case imS => k_is)
    (case clS => k_is)
    (case tyS => k_is)
    (case icO => k_is)
    (case isO => k_is)
    (case itO => k_is)
    (case imO => k_is)
    (case clO => k_is)
    (case tyO => k_is)
    (case sSO => k_is)
    (case sOS => k_is)
    (case neSO => decide)
    (case nSs => k_is)
    (case nSn => k_is)
    (case nSm => k_is)
    (case nOt => k_is)
    (case nOp => k_is)
    (case nOo => k_is)
    (case nOm => k_is)
    (case nHr => k_is)
    (case nHd => k_is)
    (case nHu => k_is)
    (case gAgain => k_is)
    (case gFew => k_is)
    (case gTrue => k_is)
    (case gLetters => k_is)
    (case gMostL => k_is)
    (case xP => k_exc)
    (case kP => k_is)
    (case bP => k_is)
    (case tP => k_is)
    (case iP => k_is)
    (case sP => first | k_is | rfl)
    (case h11 => refine' Bo.here_mk KX G ?a ?l ?c ?k Bo.bd11; (case a => k_is); (case l => k_is); (case c => k_is); (case k => k_is))
    (case h12 => refine' Bo.here_mk KX G ?a ?l ?c ?k Bo.bd12; (case a => k_is); (case l => k_is); (case c => k_is); (case k => k_is))
    (case h13 => refine' Bo.here_mk KX G ?a ?l ?c ?k Bo.bd13; (case a => k_is); (case l => k_is); (case c => k_is); (case k => k_is))
    (case h20 => refine' Bo.here_mk KX G ?a ?l ?c ?k Bo.bd20; (case a => k_is); (case l => k_is); (case c => k_is); (case k => k_is))
    (case h21 => refine' Bo.here_mk KX G ?a ?l ?c ?k Bo.bd21; (case a => k_is); (case l => k_is); (case c => k_is); (case k => k_is))
    (case h22 => refine' Bo.here_mk KX G ?a ?l ?c ?k Bo.bd22; (case a => k_is); (case l => k_is); (case c => k_is); (case k => k_is))
    (case h23 => refine' Bo.here_mk KX G ?a ?l ?c ?k Bo.bd23; (case a => k_is); (case l => k_is); (case c => k_is); (case k => k_is))
    (case h24 => refine' Bo.here_mk KX G ?a ?l ?c ?k Bo.bd24; (case a => k_is); (case l => k_is); (case c => k_is); (case k => k_is))
    (case h25 => refine' Bo.here_mk KX G ?a ?l ?c ?k Bo.bd25; (case a => k_is); (case l => k_is); (case c => k_is); (case k => k_is))
    (case h26 => refine' Bo.here_mk KX G ?a ?l ?c ?k Bo.bd26; (case a => k_is); (case l => k_is); (case c => k_is); (case k => k_is))
    (case h31 => refine' Bo.here_mk KX G ?a ?l ?c ?k Bo.bd31; (case a => k_is); (case l => k_is); (case c => k_is); (case k => k_is))
    (case h32 => refine' Bo.here_mk KX G ?a ?l ?c ?k Bo.bd32; (case a => k_is); (case l => k_is); (case c => k_is); (case k => k_is))
    (case h33 => refine' Bo.here_mk KX G ?a ?l ?c ?k Bo.bd33; (case a => k_is); (case l => k_is); (case c => k_is); (case k => k_is))
    (case h34 => refine' Bo.here_mk KX G ?a ?l ?c ?k Bo.bd34; (case a => k_is); (case l => k_is); (case c => k_is); (case k => k_is))
    (case h35 => refine' Bo.here_mk KX G ?a ?l ?c ?k Bo.bd35; (case a => k_is); (case l => k_is); (case c => k_is); (case k => k_is))
    (case h36 => refine' Bo.here_mk KX G ?a ?l ?c ?k Bo.bd36; (case a => k_is); (case l => k_is); (case c => k_is); (case k => k_is))
    (case h37 => refine' Bo.here_mk KX G ?a ?l ?c ?k Bo.bd37; (case a => k_is); (case l => k_is); (case c => k_is); (case k => k_is))
    (case h38 => refine' Bo.here_mk KX G ?a ?l ?c ?k Bo.bd38; (case a => k_is); (case l => k_is); (case c => k_is); (case k => k_is))
    (case h39 => refine' Bo.here_mk KX G ?a ?l ?c ?k Bo.bd39; (case a => k_is); (case l => k_is); (case c => k_is); (case k => k_is))
    (case h43 => refine' Bo.here_mk KX G ?a ?l ?c ?k Bo.bd43; (case a => k_is); (case l => k_is); (case c => k_is); (case k => k_is))
    (case h44 => refine' Bo.here_mk KX G ?a ?l ?c ?k Bo.bd44; (case a => k_is); (case l => k_is); (case c => k_is); (case k => k_is))
    (case h45 => refine' Bo.here_mk KX G ?a ?l ?c ?k Bo.bd45; (case a => k_is); (case l => k_is); (case c => k_is); (case k => k_is))
    (case h46 => refine' Bo.here_mk KX G ?a ?l ?c ?k Bo.bd46; (case a => k_is); (case l => k_is); (case c => k_is); (case k => k_is))
    (case h50 => refine' Bo.here_mk KX G ?a ?l ?c ?k Bo.bd50; (case a => k_is); (case l => k_is); (case c => k_is); (case k => k_is))
    (case h51 => refine' Bo.here_mk KX G ?a ?l ?c ?k Bo.bd51; (case a => k_is); (case l => k_is); (case c => k_is); (case k => k_is))
    (case h52 => refine' Bo.here_mk KX G ?a ?l ?c ?k Bo.bd52; (case a => k_is); (case l => k_is); (case c => k_is); (case k => k_is))
    (case h53 => refine' Bo.here_mk KX G ?a ?l ?c ?k Bo.bd53; (case a => k_is); (case l => k_is); (case c => k_is); (case k => k_is))
    (case h54 => refine' Bo.here_mk KX G ?a ?l ?c ?k Bo.bd54; (case a => k_is); (case l => k_is); (case c => k_is); (case k => k_is))
    (case h55 => refine' Bo.here_mk KX G ?a ?l ?c ?k Bo.bd55; (case a => k_is); (case l => k_is); (case c => k_is); (case k => k_is))
    (case h56 => refine' Bo.here_mk KX G ?a ?l ?c ?k Bo.bd56; (case a => k_is); (case l => k_is); (case c => k_is); (case k => k_is))
    (case h57 => refine' Bo.here_mk KX G ?a ?l ?c ?k Bo.bd57; (case a => k_is); (case l => k_is); (case c => k_is); (case k => k_is))
    (case h58 => refine' Bo.here_mk KX G ?a ?l ?c ?k Bo.bd58; (case a => k_is); (case l => k_is); (case c => k_is); (case k => k_is))
    (case h59 => refine' Bo.here_mk KX G ?a ?l ?c ?k Bo.bd59; (case a => k_is); (case l => k_is); (case c => k_is); (case k => k_is))
    (case h60 => refine' Bo.here_mk KX G ?a ?l ?c ?k Bo.bd60; (case a => k_is); (case l => k_is); (case c => k_is); (case k => k_is))
    (case hSpot => refine' Bo.hereI_mk ?mk ?kc ?a ?i ?l ?c ?k Bo.bd_hSpot; (case mk => k_is); (case kc => k_is); (case a => k_is); (case i => k_is); (case l => k_is); (case c => k_is); (case k => k_is))
    (case hOver => refine' Bo.hereI_mk ?mk ?kc ?a ?i ?l ?c ?k Bo.bd_hOver; (case mk => k_is); (case kc => k_is); (case a => k_is); (case i => k_is); (case l => k_is); (case c => k_is); (case k => k_is))
    (case hHall => refine' Bo.hereI_mk ?mk ?kc ?a ?i ?l ?c ?k Bo.bd_hHall; (case mk => k_is); (case kc => k_is); (case a => k_is); (case i => k_is); (case l => k_is); (case c => k_is); (case k => k_is))
    (case hParts => refine' Bo.hereM_mk ?a ?i ?l ?c ?k Bo.bd_hParts; (case a => k_is); (case i => k_is); (case l => k_is); (case c => k_is); (case k => k_is))
    (case hFree => refine' Bo.hereM_mk ?a ?i ?l ?c ?k Bo.bd_hFree; (case a => k_is); (case i => k_is); (case l => k_is); (case c => k_is); (case k => k_is))
    (case hKeep => refine' Bo.hereM_mk ?a ?i ?l ?c ?k Bo.bd_hKeep; (case a => k_is); (case i => k_is); (case l => k_is); (case c => k_is); (case k => k_is))
    (case hBegin => refine' Bo.hereM_mk ?a ?i ?l ?c ?k Bo.bd_hBegin; (case a => k_is); (case i => k_is); (case l => k_is); (case c => k_is); (case k => k_is))
    (case hJoin => refine' Bo.hereM_mk ?a ?i ?l ?c ?k Bo.bd_hJoin; (case a => k_is); (case i => k_is); (case l => k_is); (case c => k_is); (case k => k_is))
    (case hUndo => refine' Bo.hereM_mk ?a ?i ?l ?c ?k Bo.bd_hUndo; (case a => k_is); (case i => k_is); (case l => k_is); (case c => k_is); (case k => k_is))
    (case hNames => refine' Bo.hereM_mk ?a ?i ?l ?c ?k Bo.bd_hNames; (case a => k_is); (case i => k_is); (case l => k_is); (case c => k_is); (case k => k_is))
    (case hTotal => refine' Bo.hereM_mk ?a ?i ?l ?c ?k Bo.bd_hTotal; (case a => k_is); (case i => k_is); (case l => k_is); (case c => k_is); (case k => k_is))
    (case hLeast => refine' Bo.hereM_mk ?a ?i ?l ?c ?k Bo.bd_hLeast; (case a => k_is); (case i => k_is); (case l => k_is); (case c => k_is); (case k => k_is))
    (case hTogether => refine' Bo.hereM_mk ?a ?i ?l ?c ?k Bo.bd_hTogether; (case a => k_is); (case i => k_is); (case l => k_is); (case c => k_is); (case k => k_is))
