import PyProof.Rows.All
import Wide.All
import OpenK.AllK
import Wide.FinOn
import HandS.ForMost
import HandS.IsInst
import HandS.Style
import HandS.Wide
import PySem.Challenge.RW_strokeonce_k02_whole_sums
import HandS.SetFor
import KE.GoesMore
set_option Elab.async false
set_option linter.all false
section
/-! the mathematics, no program in sight -/
namespace My
inductive Item where
  | l (n : Nat) | p | m | o | c
  deriving DecidableEq
abbrev Word := List Item
structure S where
  many : Int
  ex : Int
  ey : Int
  t : Int
  wx : Int
  wy : Int
  ar : Int
def rx (k x y : Int) : Int := if k % 4 = 0 then x else if k % 4 = 1 then -y else if k % 4 = 2 then -x else y
def ry (k x y : Int) : Int := if k % 4 = 0 then y else if k % 4 = 1 then x else if k % 4 = 2 then -y else -x
def S.thn (a b : S) : S :=
  ⟨a.many + b.many, a.ex + rx a.t b.ex b.ey, a.ey + ry a.t b.ex b.ey, a.t + b.t, a.wx + rx a.t b.wx b.wy, a.wy + ry a.t b.wx b.wy,
    a.ar + b.ar + a.ex * ry a.t b.wx b.wy - a.ey * rx a.t b.wx b.wy⟩
def S.turn (a : S) (d : Int) : S := ⟨a.many, a.ex, a.ey, a.t + d, a.wx, a.wy, a.ar⟩
def S.back (a g : S) : S := ⟨a.many, g.ex, g.ey, g.t, a.wx, a.wy, a.ar⟩
def S.zero : S := ⟨0, 0, 0, 0, 0, 0, 0⟩
def S.unit : S := ⟨1, 1, 0, 0, 1, 0, 0⟩
def step (f : Nat → S) : S × List S → Item → S × List S
  | (s, st), .l n => (s.thn (f n), st)
  | (s, st), .p => (s.turn 1, st)
  | (s, st), .m => (s.turn (-1), st)
  | (s, st), .o => (s, s :: st)
  | (s, g :: st), .c => (s.back g, st)
  | (s, []), .c => (s, [])
def run (f : Nat → S) (x : S × List S) (w : Word) : S × List S := w.foldl (step f) x
def joined (f : Nat → S) (w : Word) : S := (run f (S.zero, []) w).1
def bal : Nat → Word → Bool
  | d, [] => d == 0
  | d, .o :: w => bal (d + 1) w
  | 0, .c :: _ => false
  | d + 1, .c :: w => bal d w
  | d, .l _ :: w => bal d w
  | d, .p :: w => bal d w
  | d, .m :: w => bal d w

theorem thn_zero (g : S) : g.thn S.zero = g := by
  cases g
  simp only [S.thn, S.zero, rx, ry]
  simp
theorem zero_thn (g : S) : S.zero.thn g = g := by
  cases g
  simp only [S.thn, S.zero, rx, ry]
  simp
theorem mod4 (k : Int) : k % 4 = 0 ∨ k % 4 = 1 ∨ k % 4 = 2 ∨ k % 4 = 3 := by omega
theorem rx_add (a b x y : Int) : rx (a + b) x y = rx a (rx b x y) (ry b x y) := by
  unfold rx ry
  rcases mod4 a with ha | ha | ha | ha <;> rcases mod4 b with hb | hb | hb | hb <;> (have h : (a + b) % 4 = (a % 4 + b % 4) % 4 := by omega) <;> rw [ha, hb] at h <;> rw [h, ha, hb] <;> simp
theorem ry_add (a b x y : Int) : ry (a + b) x y = ry a (rx b x y) (ry b x y) := by
  unfold rx ry
  rcases mod4 a with ha | ha | ha | ha <;> rcases mod4 b with hb | hb | hb | hb <;> (have h : (a + b) % 4 = (a % 4 + b % 4) % 4 := by omega) <;> rw [ha, hb] at h <;> rw [h, ha, hb] <;> simp
theorem rx_lin (a x y x' y' : Int) : rx a (x + x') (y + y') = rx a x y + rx a x' y' := by
  unfold rx
  rcases mod4 a with ha | ha | ha | ha <;> rw [ha] <;> simp <;> omega
theorem ry_lin (a x y x' y' : Int) : ry a (x + x') (y + y') = ry a x y + ry a x' y' := by
  unfold ry
  rcases mod4 a with ha | ha | ha | ha <;> rw [ha] <;> simp <;> omega
theorem cross (a x y u v : Int) : rx a x y * ry a u v - ry a x y * rx a u v = x * v - y * u := by
  unfold rx ry
  rcases mod4 a with ha | ha | ha | ha <;> rw [ha] <;> simp <;> grind
theorem thn_assoc (a b c : S) : (a.thn b).thn c = a.thn (b.thn c) := by
  obtain ⟨am, ax, ay, at_, awx, awy, aa⟩ := a
  obtain ⟨bm, bx, b_y, bt, bwx, bwy, ba⟩ := b
  obtain ⟨cm, cx, cy, ct, cwx, cwy, ca⟩ := c
  simp only [S.thn, S.mk.injEq]
  refine ⟨by omega, ?_, ?_, by omega, ?_, ?_, ?_⟩
  · rw [rx_add, rx_lin]; omega
  · rw [ry_add, ry_lin]; omega
  · rw [rx_add, rx_lin]; omega
  · rw [ry_add, ry_lin]; omega
  · rw [rx_add, ry_add, rx_lin, ry_lin]
    have e := cross at_ bx b_y (rx bt cwx cwy) (ry bt cwx cwy)
    grind
theorem thn_turn (a b : S) (d : Int) : (a.thn b).turn d = a.thn (b.turn d) := by
  simp only [S.thn, S.turn, S.mk.injEq, true_and, and_true]
  omega
theorem thn_back (a b g : S) : (a.thn b).back (a.thn g) = a.thn (b.back g) := by
  simp only [S.thn, S.back]
/-- a balanced word behind a path -/
theorem run_thn (f : Nat → S) (g : S) (stk : List S) : ∀ (w : Word) (s : S) (st : List S), bal st.length w = true →
    run f (g.thn s, st.map g.thn ++ stk) w = (g.thn (run f (s, st) w).1, stk) ∧ (run f (s, st) w).2 = []
  | [], s, st, h => by
    have e : st = [] := List.length_eq_zero_iff.mp (by simpa [bal] using h)
    subst e
    exact ⟨rfl, rfl⟩
  | .l n :: w, s, st, h => by
    have ih := run_thn f g stk w (s.thn (f n)) st (by simpa [bal] using h)
    rw [← thn_assoc] at ih
    exact ih
  | .p :: w, s, st, h => by
    have ih := run_thn f g stk w (s.turn 1) st (by simpa [bal] using h)
    rw [← thn_turn] at ih
    exact ih
  | .m :: w, s, st, h => by
    have ih := run_thn f g stk w (s.turn (-1)) st (by simpa [bal] using h)
    rw [← thn_turn] at ih
    exact ih
  | .o :: w, s, st, h => run_thn f g stk w s (s :: st) (by simpa [bal] using h)
  | .c :: w, s, [], h => by simp [bal] at h
  | .c :: w, s, x :: st, h => by
    have ih := run_thn f g stk w (s.back x) st (by simpa [bal] using h)
    rw [← thn_back] at ih
    exact ih
theorem run_word (f : Nat → S) (g : S) (stk : List S) {w : Word} (h : bal 0 w = true) : run f (g, stk) w = (g.thn (joined f w), stk) := by
  have q := (run_thn f g stk w S.zero [] h).1
  rw [thn_zero] at q
  exact q
def wd (ws : List Word) (n : Nat) : Word := ws.getD n []
def sub1 (ws : List Word) : Item → Word
  | .l n => wd ws n
  | x => [x]
def sub (ws : List Word) (w : Word) : Word := w.flatMap (sub1 ws)
theorem run_append (f : Nat → S) (x : S × List S) (u w : Word) : run f x (u ++ w) = run f (run f x u) w := List.foldl_append
theorem run_sub (f : Nat → S) (ws : List Word) (hb : ∀ n, bal 0 (wd ws n) = true) : ∀ (w : Word) (x : S × List S), run f x (sub ws w) = run (fun n => joined f (wd ws n)) x w
  | [], x => rfl
  | .l n :: w, (s, st) => by
    show run f (s, st) (wd ws n ++ sub ws w) = _
    rw [run_append, run_word f s st (hb n)]
    exact run_sub f ws hb w _
  | .p :: w, (s, st) => run_sub f ws hb w _
  | .m :: w, (s, st) => run_sub f ws hb w _
  | .o :: w, (s, st) => run_sub f ws hb w _
  | .c :: w, (s, []) => run_sub f ws hb w _
  | .c :: w, (s, g :: st) => run_sub f ws hb w _
def grow (ws : List Word) : Nat → Word → Word
  | 0, w => w
  | n + 1, w => sub ws (grow ws n w)
def fOf (row : List S) (n : Nat) : S := row.getD n S.zero
def rows (ws : List Word) : Nat → List S
  | 0 => List.replicate ws.length S.unit
  | n + 1 => ws.map (joined (fOf (rows ws n)))
theorem fOf_map (ws : List Word) (g : Nat → S) (n : Nat) : fOf (ws.map (joined g)) n = joined g (wd ws n) := by
  unfold fOf wd
  by_cases h : n < ws.length
  · simp [List.getD_eq_getElem?_getD, List.getElem?_map, h]
  · have h' : ws.length ≤ n := by omega
    simp [List.getD_eq_getElem?_getD, List.getElem?_map, h', joined, run]
theorem joined_rows (ws : List Word) (hb : ∀ n, bal 0 (wd ws n) = true) (k : Nat) (w : Word) : joined (fOf (rows ws (k + 1))) w = joined (fOf (rows ws k)) (sub ws w) := by
  have e : fOf (rows ws (k + 1)) = fun n => joined (fOf (rows ws k)) (wd ws n) := funext fun n => fOf_map ws _ n
  unfold joined
  rw [e, run_sub _ _ hb]
theorem grow_sub (ws : List Word) (n : Nat) (w : Word) : grow ws n (sub ws w) = grow ws (n + 1) w := by
  induction n with
  | zero => rfl
  | succ n ih =>
    show sub ws (grow ws n (sub ws w)) = sub ws (grow ws (n + 1) w)
    rw [ih]
theorem joined_grow (ws : List Word) (hb : ∀ n, bal 0 (wd ws n) = true) (n : Nat) (w : Word) : joined (fOf (rows ws n)) w = joined (fOf (rows ws 0)) (grow ws n w) := by
  induction n generalizing w with
  | zero => rfl
  | succ n ih => rw [joined_rows ws hb, ih, grow_sub]
/-- letters below L -/
def lets (L : Nat) (w : Word) : Prop := ∀ n, Item.l n ∈ w → n < L
theorem run_congr {f g : Nat → S} {L : Nat} (h : ∀ n, n < L → f n = g n) : ∀ (w : Word) (x : S × List S), lets L w → run f x w = run g x w
  | [], x, _ => rfl
  | i :: w, x, hw => by
    have e : step f x i = step g x i := by
      obtain ⟨s, st⟩ := x
      cases i with
      | l n => simp only [step]; rw [h n (hw n (by simp))]
      | p => rfl
      | m => rfl
      | o => rfl
      | c => cases st <;> rfl
    show run f (step f x i) w = run g (step g x i) w
    rw [e]
    exact run_congr h w _ fun n hn => hw n (List.mem_cons_of_mem _ hn)
theorem lets_sub {L : Nat} {ws : List Word} (h : ∀ w ∈ ws, lets L w) : ∀ {w : Word}, lets L (sub ws w) := fun {w} n hn => by
  obtain ⟨i, _, hi⟩ := List.mem_flatMap.mp hn
  cases i with
  | l k =>
    have hk : Item.l n ∈ wd ws k := hi
    unfold wd at hk
    by_cases hl : k < ws.length
    · have e : ws.getD k [] = ws[k] := by simp [List.getD_eq_getElem?_getD, hl]
      rw [e] at hk
      exact h _ (List.getElem_mem hl) n hk
    · have hl' : ws.length ≤ k := by omega
      simp [List.getD_eq_getElem?_getD, hl'] at hk
  | p => simp [sub1] at hi
  | m => simp [sub1] at hi
  | o => simp [sub1] at hi
  | c => simp [sub1] at hi
theorem lets_grow {L : Nat} {ws : List Word} (h : ∀ w ∈ ws, lets L w) {w : Word} (hw : lets L w) : ∀ n, lets L (grow ws n w)
  | 0 => hw
  | n + 1 => lets_sub h
theorem fOf_unit {L n : Nat} (h : n < L) : fOf (List.replicate L S.unit) n = S.unit := by
  simp [fOf, List.getD_eq_getElem?_getD, List.getElem?_replicate, h]
/-- what an age comes to is what its word, drawn plainly, comes to -/
theorem whole_plain {ws : List Word} (hb : ∀ n, bal 0 (wd ws n) = true) (hl : ∀ w ∈ ws, lets ws.length w) {w : Word} (hw : lets ws.length w) (n : Nat) :
    joined (fOf (rows ws n)) w = joined (fun _ => S.unit) (grow ws n w) := by
  rw [joined_grow ws hb]
  unfold joined
  rw [run_congr (f := fOf (rows ws 0)) (g := fun _ => S.unit) (L := ws.length) (fun n hn => fOf_unit hn) _ _ (lets_grow hl hw n)]
end My
end
section
namespace My
/-! ### sizes -/
def S.Le (s : S) (M : Nat) : Prop := s.ex.natAbs ≤ M ∧ s.ey.natAbs ≤ M ∧ s.wx.natAbs ≤ M ∧ s.wy.natAbs ≤ M
theorem rx_abs (k x y : Int) {M : Nat} (h : x.natAbs ≤ M) (h' : y.natAbs ≤ M) : (rx k x y).natAbs ≤ M := by
  unfold rx
  split
  · exact h
  split
  · omega
  split <;> omega
theorem ry_abs (k x y : Int) {M : Nat} (h : x.natAbs ≤ M) (h' : y.natAbs ≤ M) : (ry k x y).natAbs ≤ M := by
  unfold ry
  split
  · exact h'
  split
  · omega
  split <;> omega
theorem S.Le.mono {s : S} {M N : Nat} (h : s.Le M) (hn : M ≤ N) : s.Le N := by
  unfold S.Le at *
  omega
theorem thn_le {a b : S} {A B : Nat} (ha : a.Le A) (hb : b.Le B) : (a.thn b).Le (A + B) := by
  obtain ⟨a1, a2, a3, a4⟩ := ha
  obtain ⟨b1, b2, b3, b4⟩ := hb
  have h1 := rx_abs a.t b.ex b.ey b1 b2
  have h2 := ry_abs a.t b.ex b.ey b1 b2
  have h3 := rx_abs a.t b.wx b.wy b3 b4
  have h4 := ry_abs a.t b.wx b.wy b3 b4
  exact ⟨Nat.le_trans (Int.natAbs_add_le _ _) (Nat.add_le_add a1 h1), Nat.le_trans (Int.natAbs_add_le _ _) (Nat.add_le_add a2 h2),
    Nat.le_trans (Int.natAbs_add_le _ _) (Nat.add_le_add a3 h3), Nat.le_trans (Int.natAbs_add_le _ _) (Nat.add_le_add a4 h4)⟩
theorem zero_le (M : Nat) : S.zero.Le M := by
  refine ⟨?_, ?_, ?_, ?_⟩ <;> simp [S.zero]
theorem unit_le : S.unit.Le 1 := by
  refine ⟨?_, ?_, ?_, ?_⟩ <;> simp [S.unit]
theorem step_le {f : Nat → S} {M N : Nat} (hf : ∀ n, (f n).Le M) {x : S × List S} (h1 : x.1.Le N) (h2 : ∀ g ∈ x.2, g.Le N) (i : Item) :
    (step f x i).1.Le (N + M) ∧ ∀ g ∈ (step f x i).2, g.Le (N + M) := by
  obtain ⟨s, st⟩ := x
  have hm : ∀ g ∈ st, g.Le (N + M) := fun g hg => (h2 g hg).mono (Nat.le_add_right _ _)
  have hs : s.Le (N + M) := S.Le.mono h1 (Nat.le_add_right _ _)
  cases i with
  | l n => exact ⟨thn_le h1 (hf n), hm⟩
  | p => exact ⟨hs, hm⟩
  | m => exact ⟨hs, hm⟩
  | o =>
    refine ⟨hs, fun g hg => ?_⟩
    rcases List.mem_cons.mp hg with e | e
    · rw [e]; exact hs
    · exact hm g e
  | c =>
    cases st with
    | nil => exact ⟨hs, hm⟩
    | cons g st =>
      have hg := hm g (by simp)
      exact ⟨⟨hg.1, hg.2.1, hs.2.2.1, hs.2.2.2⟩, fun u hu => hm u (List.mem_cons_of_mem _ hu)⟩
theorem run_le {f : Nat → S} {M : Nat} (hf : ∀ n, (f n).Le M) : ∀ (w : Word) {N : Nat} {x : S × List S}, x.1.Le N → (∀ g ∈ x.2, g.Le N) →
    (run f x w).1.Le (N + w.length * M) ∧ ∀ g ∈ (run f x w).2, g.Le (N + w.length * M)
  | [], N, x, h1, h2 => by
    have e : N + ([] : Word).length * M = N := by simp
    rw [e]
    exact ⟨h1, h2⟩
  | i :: w, N, x, h1, h2 => by
    obtain ⟨q1, q2⟩ := step_le hf h1 h2 i
    have ih := run_le hf w q1 q2
    have e : N + (i :: w).length * M = N + M + w.length * M := by
      rw [List.length_cons, Nat.succ_mul]
      omega
    rw [e]
    exact ih
theorem run_le0 {f : Nat → S} {M : Nat} (hf : ∀ n, (f n).Le M) (w : Word) : (run f (S.zero, []) w).1.Le (w.length * M) := by
  have h := (run_le hf w (zero_le 0) (x := (S.zero, [])) (fun g hg => by simp at hg)).1
  rw [Nat.zero_add] at h
  exact h
theorem fOf_le {row : List S} {M : Nat} (h : ∀ s ∈ row, s.Le M) (n : Nat) : (fOf row n).Le M := by
  unfold fOf
  by_cases hn : n < row.length
  · have e : row.getD n S.zero = row[n] := by simp [List.getD_eq_getElem?_getD, hn]
    rw [e]
    exact h _ (List.getElem_mem hn)
  · have hn' : row.length ≤ n := by omega
    have e : row.getD n S.zero = S.zero := by simp [List.getD_eq_getElem?_getD, hn']
    rw [e]
    exact zero_le M
theorem rows_le {ws : List Word} (h : ∀ w ∈ ws, w.length ≤ 40) : ∀ n, ∀ s ∈ rows ws n, s.Le (40 ^ n)
  | 0 => fun s hs => by
    have e := List.eq_of_mem_replicate hs
    rw [e]
    exact unit_le
  | n + 1 => fun s hs => by
    obtain ⟨w, hw, e⟩ := List.mem_map.mp hs
    subst e
    have q := run_le0 (fOf_le (rows_le h n)) w
    refine S.Le.mono q ?_
    rw [Nat.pow_succ, Nat.mul_comm (40 ^ n)]
    exact Nat.mul_le_mul_right _ (h w hw)
theorem rows_length (ws : List Word) : ∀ n, (rows ws n).length = ws.length
  | 0 => by simp [rows]
  | n + 1 => by simp [rows]
theorem pow40 {n : Nat} (h : n ≤ 1100) : 40 ^ n < 2 ^ 7000 := by
  have h1 : 40 ^ n ≤ (2 ^ 6) ^ n := Nat.pow_le_pow_left (by decide) n
  rw [← Nat.pow_mul] at h1
  have h2 : 2 ^ (6 * n) < 2 ^ 7000 := Nat.pow_lt_pow_right (by decide) (by omega)
  omega
/-! ### lengths of grown words -/
def isL : Item → Bool
  | .l _ => true
  | _ => false
def cnt (w : Word) : Nat := w.countP isL
theorem sub_length {ws : List Word} (h : ∀ n, (wd ws n).length ≤ 40) : ∀ w : Word, (sub ws w).length ≤ w.length + 40 * cnt w
  | [] => by simp [sub]
  | i :: w => by
    have ih := sub_length h w
    have e : (sub ws (i :: w)).length = (sub1 ws i).length + (sub ws w).length := by simp [sub]
    cases i with
    | l n =>
      have := h n
      have e2 : (sub1 ws (.l n)).length = (wd ws n).length := rfl
      have e3 : cnt (.l n :: w) = cnt w + 1 := by
        unfold cnt
        rw [List.countP_cons_of_pos (by rfl)]
      simp only [List.length_cons]
      omega
    | p =>
      have e2 : (sub1 ws .p).length = 1 := rfl
      have e3 : cnt (.p :: w) = cnt w := by
        unfold cnt
        rw [List.countP_cons_of_neg (by simp [isL])]
      simp only [List.length_cons]
      omega
    | m =>
      have e2 : (sub1 ws .m).length = 1 := rfl
      have e3 : cnt (.m :: w) = cnt w := by
        unfold cnt
        rw [List.countP_cons_of_neg (by simp [isL])]
      simp only [List.length_cons]
      omega
    | o =>
      have e2 : (sub1 ws .o).length = 1 := rfl
      have e3 : cnt (.o :: w) = cnt w := by
        unfold cnt
        rw [List.countP_cons_of_neg (by simp [isL])]
      simp only [List.length_cons]
      omega
    | c =>
      have e2 : (sub1 ws .c).length = 1 := rfl
      have e3 : cnt (.c :: w) = cnt w := by
        unfold cnt
        rw [List.countP_cons_of_neg (by simp [isL])]
      simp only [List.length_cons]
      omega
def Small (ws : List Word) (w : Word) (n : Nat) : Prop := ∀ i, i ≤ n → (grow ws i w).length ≤ 200000
theorem grow_len {ws : List Word} (h : ∀ n, (wd ws n).length ≤ 40) {w : Word} (hw : w.length ≤ 40) : ∀ n, (∀ i, i < n → cnt (grow ws i w) ≤ 300) → (grow ws n w).length ≤ 40 + n * 12000
  | 0, _ => by simpa [grow] using hw
  | n + 1, hc => by
    have ih := grow_len h hw n fun i hi => hc i (by omega)
    have q := sub_length h (grow ws n w)
    have c := hc n (by omega)
    show (sub ws (grow ws n w)).length ≤ _
    omega
theorem small_of {ws : List Word} (h : ∀ n, (wd ws n).length ≤ 40) {w : Word} (hw : w.length ≤ 40) {n : Nat} (hn : n ≤ 16) (hc : ∀ i, i < n → cnt (grow ws i w) ≤ 300) : Small ws w n := fun i hi => by
  have q := grow_len h hw i fun j hj => hc j (by omega)
  omega
theorem Small.mono {ws : List Word} {w : Word} {m n : Nat} (h : Small ws w n) (hm : m ≤ n) : Small ws w m := fun i hi => h i (by omega)
theorem cnt_le (w : Word) : cnt w ≤ w.length := List.countP_le_length
/-! ### the plain drawing -/
structure Dr where
  x : Int
  y : Int
  h : Int
  found : List (Int × Int × Int × Nat)
  stands : List (Int × Int × Int)
def dstep : Dr → Item → Dr
  | ⟨x, y, h, f, st⟩, .l n => ⟨x + rx h 1 0, y + ry h 1 0, h, f ++ [(x, y, h, n)], st⟩
  | ⟨x, y, h, f, st⟩, .p => ⟨x, y, (h + 1) % 4, f, st⟩
  | ⟨x, y, h, f, st⟩, .m => ⟨x, y, (h + 3) % 4, f, st⟩
  | ⟨x, y, h, f, st⟩, .o => ⟨x, y, h, f, (x, y, h) :: st⟩
  | ⟨_, _, _, f, (x, y, h) :: st⟩, .c => ⟨x, y, h, f, st⟩
  | ⟨x, y, h, f, []⟩, .c => ⟨x, y, h, f, []⟩
def drawn (w : Word) : Dr := w.foldl dstep ⟨0, 0, 0, [], []⟩
def aStep (a : Int) (q : Int × Int × Int × Nat) : Int := a + q.1 * (q.2.1 + ry q.2.2.1 1 0) - (q.1 + rx q.2.2.1 1 0) * q.2.1
def areaOf (l : List (Int × Int × Int × Nat)) : Int := l.foldl aStep 0
def Sim (s : S) (q : Int × Int × Int) : Prop := q.1 = s.ex ∧ q.2.1 = s.ey ∧ q.2.2 = s.t % 4
def Sims : List S → List (Int × Int × Int) → Prop
  | [], [] => True
  | s :: ss, q :: qs => Sim s q ∧ Sims ss qs
  | _, _ => False
structure Rel (x : S × List S) (d : Dr) : Prop where
  now : Sim x.1 (d.x, d.y, d.h)
  st : Sims x.2 d.stands
  many : x.1.many = d.found.length
  ar : x.1.ar = areaOf d.found
theorem rx4 (k x y : Int) : rx (k % 4) x y = rx k x y := by
  unfold rx
  rw [Int.emod_emod_of_dvd k (Int.dvd_refl 4)]
theorem ry4 (k x y : Int) : ry (k % 4) x y = ry k x y := by
  unfold ry
  rw [Int.emod_emod_of_dvd k (Int.dvd_refl 4)]
theorem rel_step {x : S × List S} {d : Dr} (r : Rel x d) (i : Item) : Rel (step (fun _ => S.unit) x i) (dstep d i) := by
  obtain ⟨s, st⟩ := x
  obtain ⟨dx, dy, dh, f, ds⟩ := d
  obtain ⟨⟨h1, h2, h3⟩, hst, hm, ha⟩ := r
  simp only at h1 h2 h3 hst hm ha
  subst h1 h2 h3
  cases i with
  | l n =>
    refine ⟨⟨?_, ?_, ?_⟩, hst, ?_, ?_⟩
    · simp only [step, dstep, S.thn, S.unit, rx4]
    · simp only [step, dstep, S.thn, S.unit, ry4]
    · simp only [step, dstep, S.thn, S.unit, Int.add_zero]
    · simp only [step, dstep, S.thn, S.unit, hm, List.length_append, List.length_singleton]
      omega
    · simp only [step, dstep, S.thn, S.unit, ha]
      unfold areaOf
      rw [List.foldl_append]
      simp only [List.foldl_cons, List.foldl_nil, aStep, rx4, ry4]
      grind
  | p =>
    refine ⟨⟨rfl, rfl, ?_⟩, hst, hm, ha⟩
    simp only [step, dstep, S.turn]
    omega
  | m =>
    refine ⟨⟨rfl, rfl, ?_⟩, hst, hm, ha⟩
    simp only [step, dstep, S.turn]
    omega
  | o => exact ⟨⟨rfl, rfl, rfl⟩, ⟨⟨rfl, rfl, rfl⟩, hst⟩, hm, ha⟩
  | c =>
    cases st with
    | nil =>
      cases ds with
      | nil => exact ⟨⟨rfl, rfl, rfl⟩, hst, hm, ha⟩
      | cons q ds => exact hst.elim
    | cons g st =>
      cases ds with
      | nil => exact hst.elim
      | cons q ds =>
        obtain ⟨⟨q1, q2, q3⟩, hst⟩ := hst
        obtain ⟨qx, qy, qh⟩ := q
        exact ⟨⟨q1, q2, q3⟩, hst, hm, ha⟩
theorem rel_run : ∀ (w : Word) {x : S × List S} {d : Dr}, Rel x d → Rel (run (fun _ => S.unit) x w) (w.foldl dstep d)
  | [], _, _, r => r
  | i :: w, _, _, r => rel_run w (rel_step r i)
theorem rel_drawn (w : Word) : Rel (run (fun _ => S.unit) (S.zero, []) w) (drawn w) :=
  rel_run w ⟨⟨rfl, rfl, rfl⟩, trivial, rfl, rfl⟩
/-! ### the items that stand in no branch -/
def mstep (x : Word × Int) (i : Item) : Word × Int :=
  let d := if i = .c then x.2 - 1 else x.2
  let f := if d = 0 ∧ i ≠ .o ∧ i ≠ .c then x.1 ++ [i] else x.1
  (f, if i = .o then d + 1 else d)
def mainOf (w : Word) : Word := (w.foldl mstep ([], 0)).1
def bot : S → List S → Int
  | s, [] => s.t
  | _, g :: st => bot g st
theorem bot_t {s s' : S} (h : s.t = s'.t) : ∀ st : List S, bot s st = bot s' st
  | [] => h
  | _ :: _ => rfl
structure RelM (x : S × List S) (y : Word × Int) : Prop where
  d : y.2 = x.2.length
  t : bot x.1 x.2 = (y.1.count .p : Int) - (y.1.count .m : Int)
theorem relM_step {f : Nat → S} (hf : ∀ n, (f n).t = 0) {x : S × List S} {y : Word × Int} {w : Word} (r : RelM x y) (i : Item) (hb : bal x.2.length (i :: w) = true) :
    RelM (step f x i) (mstep y i) ∧ bal (step f x i).2.length w = true := by
  obtain ⟨s, st⟩ := x
  obtain ⟨v, d⟩ := y
  obtain ⟨hd, ht⟩ := r
  simp only at hd ht hb
  subst hd
  have h0 : ((st.length : Nat) : Int) = 0 → st = [] := fun e => List.length_eq_zero_iff.mp (by omega)
  cases i with
  | l n =>
    refine ⟨⟨by simp [mstep, step], ?_⟩, by simpa [bal, step] using hb⟩
    have e : bot (s.thn (f n)) st = bot s st := bot_t (by simp [S.thn, hf]) st
    show bot (s.thn (f n)) st = _
    rw [e, ht]
    have k1 : ∀ (c : Prop) [Decidable c], List.count Item.p (if c then v ++ [Item.l n] else v) = List.count Item.p v := fun c _ => by split <;> simp
    have k2 : ∀ (c : Prop) [Decidable c], List.count Item.m (if c then v ++ [Item.l n] else v) = List.count Item.m v := fun c _ => by split <;> simp
    simp only [mstep, k1, k2]
  | p =>
    refine ⟨⟨by simp [mstep, step], ?_⟩, by simpa [bal, step] using hb⟩
    by_cases hz : st = []
    · subst hz
      simp [mstep, step, bot, S.turn] at ht ⊢
      omega
    · have hl : ((st.length : Nat) : Int) ≠ 0 := fun e => hz (h0 e)
      obtain ⟨g, r, e⟩ := List.exists_cons_of_ne_nil hz
      subst e
      simp only [mstep, step, bot] at ht ⊢
      simp only [reduceCtorEq, if_false, false_and, ne_eq, not_false_eq_true, and_true] at ht ⊢
      rw [if_neg hl]
      exact ht
  | m =>
    refine ⟨⟨by simp [mstep, step], ?_⟩, by simpa [bal, step] using hb⟩
    by_cases hz : st = []
    · subst hz
      simp [mstep, step, bot, S.turn] at ht ⊢
      omega
    · have hl : ((st.length : Nat) : Int) ≠ 0 := fun e => hz (h0 e)
      obtain ⟨g, r, e⟩ := List.exists_cons_of_ne_nil hz
      subst e
      simp only [mstep, step, bot] at ht ⊢
      simp only [reduceCtorEq, if_false, false_and, ne_eq, not_false_eq_true, and_true] at ht ⊢
      rw [if_neg hl]
      exact ht
  | o =>
    refine ⟨⟨by simp [mstep, step], ?_⟩, by simpa [bal, step] using hb⟩
    simp only [mstep, step, bot]
    simp
    omega
  | c =>
    cases st with
    | nil => simp [bal] at hb
    | cons g st =>
      refine ⟨⟨by simp [mstep, step], ?_⟩, by simpa [bal, step] using hb⟩
      simp only [mstep, step]
      simp
      have e : bot (s.back g) st = bot g st := bot_t (s := s.back g) (s' := g) rfl st
      rw [e]
      simp only [bot] at ht
      omega
theorem relM_run {f : Nat → S} (hf : ∀ n, (f n).t = 0) : ∀ (w : Word) {x : S × List S} {y : Word × Int}, RelM x y → bal x.2.length w = true →
    RelM (run f x w) (w.foldl mstep y) ∧ (run f x w).2 = []
  | [], x, y, r, hb => ⟨r, by
      show x.2 = []
      exact List.length_eq_zero_iff.mp (by simpa [bal] using hb)⟩
  | i :: w, x, y, r, hb => by
    obtain ⟨q1, q2⟩ := relM_step hf r i hb
    exact relM_run hf w q1 q2
theorem turns_main {f : Nat → S} (hf : ∀ n, (f n).t = 0) {w : Word} (hb : bal 0 w = true) : (joined f w).t = ((mainOf w).count .p : Int) - ((mainOf w).count .m : Int) := by
  obtain ⟨q1, q2⟩ := relM_run hf w (x := (S.zero, [])) (y := ([], 0)) ⟨rfl, by simp [bot, S.zero]⟩ hb
  have e := q1.t
  rw [q2] at e
  exact e
/-- a balanced word stays so -/
theorem bal_append : ∀ (u : Word) (d e : Nat) (v : Word), bal d u = true → bal (d + e) (u ++ v) = bal e v
  | [], d, e, v, h => by
    have : d = 0 := by simpa [bal] using h
    subst this
    simp
  | .l n :: u, d, e, v, h => by simpa [bal] using bal_append u d e v (by simpa [bal] using h)
  | .p :: u, d, e, v, h => by simpa [bal] using bal_append u d e v (by simpa [bal] using h)
  | .m :: u, d, e, v, h => by simpa [bal] using bal_append u d e v (by simpa [bal] using h)
  | .o :: u, d, e, v, h => by
    have ih := bal_append u (d + 1) e v (by simpa [bal] using h)
    have e1 : d + 1 + e = d + e + 1 := by omega
    rw [e1] at ih
    simpa [bal] using ih
  | .c :: u, 0, e, v, h => by simp [bal] at h
  | .c :: u, d + 1, e, v, h => by
    have ih := bal_append u d e v (by simpa [bal] using h)
    have e1 : d + 1 + e = d + e + 1 := by omega
    rw [e1]
    simpa [bal] using ih
theorem bal_sub {ws : List Word} (hb : ∀ n, bal 0 (wd ws n) = true) : ∀ (w : Word) (d : Nat), bal d (sub ws w) = bal d w
  | [], d => rfl
  | .l n :: w, d => by
    have q := bal_append (wd ws n) 0 d (sub ws w) (hb n)
    rw [Nat.zero_add] at q
    show bal d (wd ws n ++ sub ws w) = _
    rw [q, bal_sub hb w d]
    simp [bal]
  | .p :: w, d => by
    show bal d (.p :: sub ws w) = _
    simp only [bal]
    exact bal_sub hb w d
  | .m :: w, d => by
    show bal d (.m :: sub ws w) = _
    simp only [bal]
    exact bal_sub hb w d
  | .o :: w, d => by
    show bal d (.o :: sub ws w) = _
    simp only [bal]
    exact bal_sub hb w (d + 1)
  | .c :: w, 0 => rfl
  | .c :: w, d + 1 => by
    show bal (d + 1) (.c :: sub ws w) = _
    simp only [bal]
    exact bal_sub hb w d
theorem bal_grow {ws : List Word} (hb : ∀ n, bal 0 (wd ws n) = true) {w : Word} (hw : bal 0 w = true) : ∀ n, bal 0 (grow ws n w) = true
  | 0 => hw
  | n + 1 => by
    show bal 0 (sub ws (grow ws n w)) = true
    rw [bal_sub hb]
    exact bal_grow hb hw n
/-! ### the sums of a whole word once more -/
structure Fa where
  many : Int
  px : Int
  py : Int
  t : Int
  tw : Int
  stands : List (Int × Int × Int)
def fstep (f : Nat → S) : Fa → Item → Fa
  | ⟨m, x, y, t, a, st⟩, .l n => ⟨m + (f n).many, x + rx t (f n).ex (f n).ey, y + ry t (f n).ex (f n).ey, t + (f n).t,
      a + (f n).ar + x * ry t (f n).ex (f n).ey - y * rx t (f n).ex (f n).ey, st⟩
  | ⟨m, x, y, t, a, st⟩, .p => ⟨m, x, y, t + 1, a, st⟩
  | ⟨m, x, y, t, a, st⟩, .m => ⟨m, x, y, t + -1, a, st⟩
  | ⟨m, x, y, t, a, st⟩, .o => ⟨m, x, y, t, a, (x, y, t) :: st⟩
  | ⟨m, _, _, _, a, (x, y, t) :: st⟩, .c => ⟨m, x, y, t, a, st⟩
  | ⟨m, x, y, t, a, []⟩, .c => ⟨m, x, y, t, a, []⟩
def far (f : Nat → S) (w : Word) : Fa := w.foldl (fstep f) ⟨0, 0, 0, 0, 0, []⟩
def SimF (s : S) (q : Int × Int × Int) : Prop := q.1 = s.ex ∧ q.2.1 = s.ey ∧ q.2.2 = s.t
def SimFs : List S → List (Int × Int × Int) → Prop
  | [], [] => True
  | s :: ss, q :: qs => SimF s q ∧ SimFs ss qs
  | _, _ => False
structure RelF (x : S × List S) (d : Fa) : Prop where
  now : SimF x.1 (d.px, d.py, d.t)
  st : SimFs x.2 d.stands
  many : x.1.many = d.many
theorem relF_step {f : Nat → S} {x : S × List S} {d : Fa} (r : RelF x d) (i : Item) : RelF (step f x i) (fstep f d i) := by
  obtain ⟨s, st⟩ := x
  obtain ⟨m, dx, dy, dt, tw, ds⟩ := d
  obtain ⟨⟨h1, h2, h3⟩, hst, hm⟩ := r
  simp only at h1 h2 h3 hst hm
  subst h1 h2 h3 hm
  cases i with
  | l n => exact ⟨⟨rfl, rfl, rfl⟩, hst, rfl⟩
  | p => exact ⟨⟨rfl, rfl, rfl⟩, hst, rfl⟩
  | m => exact ⟨⟨rfl, rfl, rfl⟩, hst, rfl⟩
  | o => exact ⟨⟨rfl, rfl, rfl⟩, ⟨⟨rfl, rfl, rfl⟩, hst⟩, rfl⟩
  | c =>
    cases st with
    | nil =>
      cases ds with
      | nil => exact ⟨⟨rfl, rfl, rfl⟩, hst, rfl⟩
      | cons q ds => exact hst.elim
    | cons g st =>
      cases ds with
      | nil => exact hst.elim
      | cons q ds =>
        obtain ⟨⟨q1, q2, q3⟩, hst⟩ := hst
        obtain ⟨qx, qy, qh⟩ := q
        exact ⟨⟨q1, q2, q3⟩, hst, rfl⟩
theorem relF_run {f : Nat → S} : ∀ (w : Word) {x : S × List S} {d : Fa}, RelF x d → RelF (run f x w) (w.foldl (fstep f) d)
  | [], _, _, r => r
  | i :: w, _, _, r => relF_run w (relF_step r i)
theorem relF_far (f : Nat → S) (w : Word) : RelF (run f (S.zero, []) w) (far f w) := relF_run w ⟨⟨rfl, rfl, rfl⟩, trivial, rfl⟩
/-- no branch -/
def noB (w : Word) : Prop := Item.o ∉ w ∧ Item.c ∉ w
def S.Same (s : S) : Prop := s.wx = s.ex ∧ s.wy = s.ey
theorem same_step {f : Nat → S} (hf : ∀ n, (f n).Same) {s : S} (hs : s.Same) {i : Item} (ho : i ≠ .o) (hc : i ≠ .c) {st : List S} : (step f (s, st) i).1.Same ∧ (step f (s, st) i).2 = st := by
  obtain ⟨h1, h2⟩ := hs
  cases i with
  | l n =>
    obtain ⟨f1, f2⟩ := hf n
    refine ⟨⟨?_, ?_⟩, rfl⟩ <;> simp only [step, S.thn] <;> rw [f1, f2] <;> first | rw [h1] | rw [h2]
  | p => exact ⟨⟨h1, h2⟩, rfl⟩
  | m => exact ⟨⟨h1, h2⟩, rfl⟩
  | o => exact absurd rfl ho
  | c => exact absurd rfl hc
theorem tw_run {f : Nat → S} (hf : ∀ n, (f n).Same) : ∀ (w : Word) {s : S} {d : Fa}, noB w → s.Same → RelF (s, []) d → s.ar = d.tw → (run f (s, []) w).1.ar = (w.foldl (fstep f) d).tw
  | [], s, d, _, _, _, e => e
  | i :: w, s, d, hb, hs, r, e => by
    have ho : i ≠ .o := fun z => hb.1 (by simp [z])
    have hc : i ≠ .c := fun z => hb.2 (by simp [z])
    obtain ⟨q1, q2⟩ := same_step hf hs ho hc (st := [])
    have r2 := relF_step (f := f) r i
    have nb : noB w := ⟨fun z => hb.1 (List.mem_cons_of_mem _ z), fun z => hb.2 (List.mem_cons_of_mem _ z)⟩
    have ex : step f (s, []) i = ((step f (s, []) i).1, []) := Prod.ext rfl q2
    have e2 : (step f (s, []) i).1.ar = (fstep f d i).tw := by
      obtain ⟨m, dx, dy, dt, tw, ds⟩ := d
      obtain ⟨⟨h1, h2, h3⟩, hst, hm⟩ := r
      simp only at h1 h2 h3 hst hm e
      subst h1 h2 h3 hm e
      cases i with
      | l n =>
        obtain ⟨f1, f2⟩ := hf n
        simp only [step, fstep, S.thn]
        rw [f1, f2]
      | p => rfl
      | m => rfl
      | o => exact absurd rfl ho
      | c => exact absurd rfl hc
    show (run f (step f (s, []) i) w).1.ar = (w.foldl (fstep f) (fstep f d i)).tw
    rw [ex] at r2 ⊢
    exact tw_run hf w nb q1 r2 e2
theorem tw_far {f : Nat → S} (hf : ∀ n, (f n).Same) {w : Word} (hb : noB w) : (joined f w).ar = (far f w).tw :=
  tw_run hf w hb ⟨rfl, rfl⟩ ⟨⟨rfl, rfl, rfl⟩, trivial, rfl⟩ rfl
theorem same_run {f : Nat → S} (hf : ∀ n, (f n).Same) : ∀ (w : Word) {s : S}, noB w → s.Same → (run f (s, []) w).1.Same
  | [], s, _, hs => hs
  | i :: w, s, hb, hs => by
    have ho : i ≠ .o := fun z => hb.1 (by simp [z])
    have hc : i ≠ .c := fun z => hb.2 (by simp [z])
    obtain ⟨q1, q2⟩ := same_step hf hs ho hc (st := [])
    have ex : step f (s, []) i = ((step f (s, []) i).1, []) := Prod.ext rfl q2
    show (run f (step f (s, []) i) w).1.Same
    rw [ex]
    exact same_run hf w ⟨fun z => hb.1 (List.mem_cons_of_mem _ z), fun z => hb.2 (List.mem_cons_of_mem _ z)⟩ q1
theorem fOf_same {row : List S} (h : ∀ s ∈ row, s.Same) (n : Nat) : (fOf row n).Same := by
  unfold fOf
  by_cases hn : n < row.length
  · have e : row.getD n S.zero = row[n] := by simp [List.getD_eq_getElem?_getD, hn]
    rw [e]
    exact h _ (List.getElem_mem hn)
  · have hn' : row.length ≤ n := by omega
    have e : row.getD n S.zero = S.zero := by simp [List.getD_eq_getElem?_getD, hn']
    rw [e]
    exact ⟨rfl, rfl⟩
theorem rows_same {ws : List Word} (h : ∀ w ∈ ws, noB w) : ∀ n, ∀ s ∈ rows ws n, s.Same
  | 0 => fun s hs => by
    have e := List.eq_of_mem_replicate hs
    rw [e]
    exact ⟨rfl, rfl⟩
  | n + 1 => fun s hs => by
    obtain ⟨w, hw, e⟩ := List.mem_map.mp hs
    subst e
    exact same_run (fOf_same (rows_same h n)) w (h w hw) ⟨rfl, rfl⟩
theorem noB_of {w : Word} : ∀ {d : Nat}, bal d w = true → d = 0 → Item.o ∉ w → Item.c ∉ w := by
  induction w with
  | nil => intro d _ _ _; simp
  | cons i w ih =>
    intro d hb hd ho
    subst hd
    have ho2 : Item.o ∉ w := fun z => ho (List.mem_cons_of_mem _ z)
    cases i with
    | l n => simpa using ih (d := 0) (by simpa [bal] using hb) rfl ho2
    | p => simpa using ih (d := 0) (by simpa [bal] using hb) rfl ho2
    | m => simpa using ih (d := 0) (by simpa [bal] using hb) rfl ho2
    | o => exact absurd (by simp) ho
    | c => simp [bal] at hb
theorem noB_sub {ws : List Word} (h : ∀ n, noB (wd ws n)) {w : Word} (hw : noB w) : noB (sub ws w) := by
  constructor
  · intro z
    obtain ⟨i, hi, hz⟩ := List.mem_flatMap.mp z
    cases i with
    | l n => exact (h n).1 hz
    | p => simp [sub1] at hz
    | m => simp [sub1] at hz
    | o => exact hw.1 hi
    | c => exact hw.2 hi
  · intro z
    obtain ⟨i, hi, hz⟩ := List.mem_flatMap.mp z
    cases i with
    | l n => exact (h n).2 hz
    | p => simp [sub1] at hz
    | m => simp [sub1] at hz
    | o => exact hw.1 hi
    | c => exact hw.2 hi
end My
end
section
set_option maxRecDepth 100000
set_option maxHeartbeats 4000000
namespace My
open PySem L2
def top (i : Nat) : Stmt := PySem.Challenge.pw_strokeonce_k02_whole_sums.main.body.getD i (.Pass ⟨0, 0, 0, 0⟩)
abbrev s_is_in : Stmt := top 13
abbrev s_is_letter : Stmt := top 14
abbrev s_are_branches : Stmt := top 15
abbrev s_is_word : Stmt := top 16
abbrev s_need_book : Stmt := top 17
abbrev s_need_number : Stmt := top 18
abbrev s_quarters : Stmt := top 20
abbrev s_turned : Stmt := top 21
abbrev s_plus : Stmt := top 22
abbrev s_Sum_init : Stmt := inClass (top 24) 0
abbrev s_Sum_then : Stmt := inClass (top 24) 1
abbrev s_Sum_turning : Stmt := inClass (top 24) 2
abbrev s_Sum_back_at : Stmt := inClass (top 24) 3
abbrev s_nothing : Stmt := top 25
abbrev s_joined : Stmt := top 26
abbrev s_Ages_init : Stmt := inClass (top 27) 0
abbrev s_Ages_whole : Stmt := inClass (top 27) 1
abbrev s_need_age : Stmt := top 28
abbrev s_strokes_in : Stmt := top 29
abbrev s_end_at : Stmt := top 30
abbrev s_turns_at : Stmt := top 31
abbrev s_area_at : Stmt := top 32
abbrev s__law_taken : Stmt := top 34
abbrev s__law_pick : Stmt := top 35
abbrev s__law_branched : Stmt := top 36
abbrev s__law_word : Stmt := top 37
abbrev s__law_book : Stmt := top 38
abbrev s__law_kit : Stmt := top 39
abbrev s__law_even_word : Stmt := top 40
abbrev s__law_even_book : Stmt := top 41
abbrev s__law_grown : Stmt := top 42
abbrev s__law_age : Stmt := top 43
abbrev s__law_unit : Stmt := top 44
abbrev s__law_drawn : Stmt := top 45
abbrev s__law_main : Stmt := top 46
abbrev s__law_alike : Stmt := top 47
abbrev s__law_all : Stmt := top 48
abbrev s__law_quarter : Stmt := top 49
abbrev s_law : Stmt := top 50
theorem sc_is_in : FnScope ["value", "least", "most"] ["value", "least", "most"] (defScope s_is_in) := ⟨rfl, rfl, rfl, by decide +kernel, rfl, by decide +kernel, by decide +kernel⟩
theorem sc_is_letter : FnScope ["item"] ["item"] (defScope s_is_letter) := ⟨rfl, rfl, rfl, by decide +kernel, rfl, by decide +kernel, by decide +kernel⟩
theorem sc_are_branches : FnScope ["word", "depth", "item"] ["word"] (defScope s_are_branches) := ⟨rfl, rfl, rfl, by decide +kernel, rfl, by decide +kernel, by decide +kernel⟩
theorem sc_is_word : FnScope ["letters", "value", "item"] ["letters", "value"] (defScope s_is_word) := ⟨rfl, rfl, rfl, by decide +kernel, rfl, by decide +kernel, by decide +kernel⟩
theorem sc_need_book : FnScope ["book", "letter", "word"] ["book"] (defScope s_need_book) := ⟨rfl, rfl, rfl, by decide +kernel, rfl, by decide +kernel, by decide +kernel⟩
theorem sc_need_number : FnScope ["value", "least", "most"] ["value", "least", "most"] (defScope s_need_number) := ⟨rfl, rfl, rfl, by decide +kernel, rfl, by decide +kernel, by decide +kernel⟩
theorem sc_quarters : FnScope ["item"] ["item"] (defScope s_quarters) := ⟨rfl, rfl, rfl, by decide +kernel, rfl, by decide +kernel, by decide +kernel⟩
theorem sc_turned : FnScope ["place", "many", "x", "y"] ["place", "many"] (defScope s_turned) := ⟨rfl, rfl, rfl, by decide +kernel, rfl, by decide +kernel, by decide +kernel⟩
theorem sc_plus : FnScope ["one", "other"] ["one", "other"] (defScope s_plus) := ⟨rfl, rfl, rfl, by decide +kernel, rfl, by decide +kernel, by decide +kernel⟩
theorem sc_Sum_init : FnScope ["self", "many", "end", "turns", "ways", "area"] ["self", "many", "end", "turns", "ways", "area"] (defScope s_Sum_init) := ⟨rfl, rfl, rfl, by decide +kernel, rfl, by decide +kernel, by decide +kernel⟩
theorem sc_Sum_then : FnScope ["self", "other", "moved", "ways", "area", "end", "turns"] ["self", "other"] (defScope s_Sum_then) := ⟨rfl, rfl, rfl, by decide +kernel, rfl, by decide +kernel, by decide +kernel⟩
theorem sc_Sum_turning : FnScope ["self", "item", "turns"] ["self", "item"] (defScope s_Sum_turning) := ⟨rfl, rfl, rfl, by decide +kernel, rfl, by decide +kernel, by decide +kernel⟩
theorem sc_Sum_back_at : FnScope ["self", "stand"] ["self", "stand"] (defScope s_Sum_back_at) := ⟨rfl, rfl, rfl, by decide +kernel, rfl, by decide +kernel, by decide +kernel⟩
theorem sc_nothing : FnScope [] [] (defScope s_nothing) := ⟨rfl, rfl, rfl, by decide +kernel, rfl, by decide +kernel, by decide +kernel⟩
theorem sc_joined : FnScope ["sums", "word", "found", "stands", "item"] ["sums", "word"] (defScope s_joined) := ⟨rfl, rfl, rfl, by decide +kernel, rfl, by decide +kernel, by decide +kernel⟩
theorem sc_Ages_init : FnScope ["self", "book", "last", "age", "letter", "word"] ["self", "book", "last"] (defScope s_Ages_init) := ⟨rfl, rfl, rfl, by decide +kernel, rfl, by decide +kernel, by decide +kernel⟩
theorem sc_Ages_whole : FnScope ["self", "age"] ["self", "age"] (defScope s_Ages_whole) := ⟨rfl, rfl, rfl, by decide +kernel, rfl, by decide +kernel, by decide +kernel⟩
theorem sc_need_age : FnScope ["book", "age"] ["book", "age"] (defScope s_need_age) := ⟨rfl, rfl, rfl, by decide +kernel, rfl, by decide +kernel, by decide +kernel⟩
theorem sc_strokes_in : FnScope ["book", "age"] ["book", "age"] (defScope s_strokes_in) := ⟨rfl, rfl, rfl, by decide +kernel, rfl, by decide +kernel, by decide +kernel⟩
theorem sc_end_at : FnScope ["book", "age", "found"] ["book", "age"] (defScope s_end_at) := ⟨rfl, rfl, rfl, by decide +kernel, rfl, by decide +kernel, by decide +kernel⟩
theorem sc_turns_at : FnScope ["book", "age"] ["book", "age"] (defScope s_turns_at) := ⟨rfl, rfl, rfl, by decide +kernel, rfl, by decide +kernel, by decide +kernel⟩
theorem sc_area_at : FnScope ["book", "age"] ["book", "age"] (defScope s_area_at) := ⟨rfl, rfl, rfl, by decide +kernel, rfl, by decide +kernel, by decide +kernel⟩
theorem sc__law_taken : FnScope ["_law_row", "_law_many", "_law_found", "_law_cell"] ["_law_row", "_law_many"] (defScope s__law_taken) := ⟨rfl, rfl, rfl, by decide +kernel, rfl, by decide +kernel, by decide +kernel⟩
theorem sc__law_pick : FnScope ["_law_row", "_law_things"] ["_law_row", "_law_things"] (defScope s__law_pick) := ⟨rfl, rfl, rfl, by decide +kernel, rfl, by decide +kernel, by decide +kernel⟩
theorem sc__law_branched : FnScope ["_law_row", "_law_word_here", "_law_letters", "_law_found", "_law_at", "_law_turn"] ["_law_row", "_law_word_here", "_law_letters"] (defScope s__law_branched) := ⟨rfl, rfl, rfl, by decide +kernel, rfl, by decide +kernel, by decide +kernel⟩
theorem sc__law_word : FnScope ["_law_row", "_law_letters", "_law_most", "_law_found", "_law_turn"] ["_law_row", "_law_letters", "_law_most"] (defScope s__law_word) := ⟨rfl, rfl, rfl, by decide +kernel, rfl, by decide +kernel, by decide +kernel⟩
theorem sc__law_book : FnScope ["_law_row", "_law_letters", "_law_words", "_law_k"] ["_law_row"] (defScope s__law_book) := ⟨rfl, rfl, rfl, by decide +kernel, rfl, by decide +kernel, by decide +kernel⟩
theorem sc__law_kit : FnScope ["_law_row", "_law_dragon", "_law_square", "_law_levy", "_law_wide"] ["_law_row"] (defScope s__law_kit) := ⟨rfl, rfl, rfl, by decide +kernel, rfl, by decide +kernel, by decide +kernel⟩
theorem sc__law_even_word : FnScope ["_law_row", "_law_letters", "_law_move", "_law_steps", "_law_way", "_law_found", "_law_heading", "_law_step", "_law_many"] ["_law_row", "_law_letters", "_law_move"] (defScope s__law_even_word) := ⟨rfl, rfl, rfl, by decide +kernel, rfl, by decide +kernel, by decide +kernel⟩
theorem sc__law_even_book : FnScope ["_law_row", "_law_letters", "_law_move", "_law_words", "_law_start", "_law_k"] ["_law_row"] (defScope s__law_even_book) := ⟨rfl, rfl, rfl, by decide +kernel, rfl, by decide +kernel, by decide +kernel⟩
theorem sc__law_grown : FnScope ["_law_book_here", "_law_age_here", "_law_word_here", "_law_turn", "_law_found", "_law_item"] ["_law_book_here", "_law_age_here"] (defScope s__law_grown) := ⟨rfl, rfl, rfl, by decide +kernel, rfl, by decide +kernel, by decide +kernel⟩
theorem sc__law_age : FnScope ["_law_book_here", "_law_most", "_law_found", "_law_item"] ["_law_book_here", "_law_most"] (defScope s__law_age) := ⟨rfl, rfl, rfl, by decide +kernel, rfl, by decide +kernel, by decide +kernel⟩
theorem sc__law_unit : FnScope ["_law_heading"] ["_law_heading"] (defScope s__law_unit) := ⟨rfl, rfl, rfl, by decide +kernel, rfl, by decide +kernel, by decide +kernel⟩
theorem sc__law_drawn : FnScope ["_law_word_here", "_law_x", "_law_y", "_law_heading", "_law_found", "_law_stands", "_law_item"] ["_law_word_here"] (defScope s__law_drawn) := ⟨rfl, rfl, rfl, by decide +kernel, rfl, by decide +kernel, by decide +kernel⟩
theorem sc__law_main : FnScope ["_law_word_here", "_law_found", "_law_depth", "_law_item"] ["_law_word_here"] (defScope s__law_main) := ⟨rfl, rfl, rfl, by decide +kernel, rfl, by decide +kernel, by decide +kernel⟩
theorem sc__law_alike : FnScope ["_law_found", "_law_due", "_law_k"] ["_law_found", "_law_due"] (defScope s__law_alike) := ⟨rfl, rfl, rfl, by decide +kernel, rfl, by decide +kernel, by decide +kernel⟩
theorem sc__law_all : FnScope ["_law_book_here", "_law_age_here"] ["_law_book_here", "_law_age_here"] (defScope s__law_all) := ⟨rfl, rfl, rfl, by decide +kernel, rfl, by decide +kernel, by decide +kernel⟩
theorem sc__law_quarter : FnScope ["_law_place", "_law_many", "_law_x", "_law_y"] ["_law_place", "_law_many"] (defScope s__law_quarter) := ⟨rfl, rfl, rfl, by decide +kernel, rfl, by decide +kernel, by decide +kernel⟩
theorem sc_law : FnScope ["_law_script", "_law_row", "_law_book_here", "_law_age_here", "_law_word_here", "_law_strokes", "_law_end", "_law_area", "_law_x", "_law_y", "_law_heading", "_law_letter", "_law_unit_here", "_law_main_here", "_law_turns", "_law_far", "_law_many", "_law_place", "_law_turned", "_law_twice", "_law_stands", "_law_plain", "_law_item", "_law_part", "_law_way", "_law_told"] ["_law_script"] (defScope s_law) := ⟨rfl, rfl, rfl, by decide +kernel, rfl, by decide +kernel, by decide +kernel⟩
structure Adr where
  is_in : Addr
  d_is_in : FuncData
  is_letter : Addr
  d_is_letter : FuncData
  are_branches : Addr
  d_are_branches : FuncData
  is_word : Addr
  d_is_word : FuncData
  need_book : Addr
  d_need_book : FuncData
  need_number : Addr
  d_need_number : FuncData
  quarters : Addr
  d_quarters : FuncData
  turned : Addr
  d_turned : FuncData
  plus : Addr
  d_plus : FuncData
  Sum_init : Addr
  d_Sum_init : FuncData
  Sum_then : Addr
  d_Sum_then : FuncData
  Sum_turning : Addr
  d_Sum_turning : FuncData
  Sum_back_at : Addr
  d_Sum_back_at : FuncData
  nothing : Addr
  d_nothing : FuncData
  joined : Addr
  d_joined : FuncData
  Ages_init : Addr
  d_Ages_init : FuncData
  Ages_whole : Addr
  d_Ages_whole : FuncData
  need_age : Addr
  d_need_age : FuncData
  strokes_in : Addr
  d_strokes_in : FuncData
  end_at : Addr
  d_end_at : FuncData
  turns_at : Addr
  d_turns_at : FuncData
  area_at : Addr
  d_area_at : FuncData
  _law_taken : Addr
  d__law_taken : FuncData
  _law_pick : Addr
  d__law_pick : FuncData
  _law_branched : Addr
  d__law_branched : FuncData
  _law_word : Addr
  d__law_word : FuncData
  _law_book : Addr
  d__law_book : FuncData
  _law_kit : Addr
  d__law_kit : FuncData
  _law_even_word : Addr
  d__law_even_word : FuncData
  _law_even_book : Addr
  d__law_even_book : FuncData
  _law_grown : Addr
  d__law_grown : FuncData
  _law_age : Addr
  d__law_age : FuncData
  _law_unit : Addr
  d__law_unit : FuncData
  _law_drawn : Addr
  d__law_drawn : FuncData
  _law_main : Addr
  d__law_main : FuncData
  _law_alike : Addr
  d__law_alike : FuncData
  _law_all : Addr
  d__law_all : FuncData
  _law_quarter : Addr
  d__law_quarter : FuncData
  law : Addr
  d_law : FuncData
  Sum : Addr
  Ages : Addr
  hd : Addr
  h0 : Addr
  h1 : Addr
  h2 : Addr
  h3 : Addr
/-- a tuple that stands in the written part -/
def TupK (K : PySem.W.Frag) (a : Addr) (xs : List V) : Prop := ∃ (o : Obj) (its : Array Value) (n : Nat), K.lookup a = some o ∧ o.cls = .type "tuple" ∧ o.data = .seq its n ∧ its.size ≤ sizeLine ∧ Vals xs its.toList
/-- the facts of the text as its top has made it -/
structure Txt (K : PySem.W.Frag) (mg : Str → Option Value) (A : Adr) : Prop where
  F_is_in : Fun K "is_in" "is_in" s_is_in A.is_in A.d_is_in
  m_is_in : mg "is_in" = some (.ref A.is_in)
  F_is_letter : Fun K "is_letter" "is_letter" s_is_letter A.is_letter A.d_is_letter
  m_is_letter : mg "is_letter" = some (.ref A.is_letter)
  F_are_branches : Fun K "are_branches" "are_branches" s_are_branches A.are_branches A.d_are_branches
  m_are_branches : mg "are_branches" = some (.ref A.are_branches)
  F_is_word : Fun K "is_word" "is_word" s_is_word A.is_word A.d_is_word
  m_is_word : mg "is_word" = some (.ref A.is_word)
  F_need_book : Fun K "need_book" "need_book" s_need_book A.need_book A.d_need_book
  m_need_book : mg "need_book" = some (.ref A.need_book)
  F_need_number : Fun K "need_number" "need_number" s_need_number A.need_number A.d_need_number
  m_need_number : mg "need_number" = some (.ref A.need_number)
  F_quarters : Fun K "quarters" "quarters" s_quarters A.quarters A.d_quarters
  m_quarters : mg "quarters" = some (.ref A.quarters)
  F_turned : Fun K "turned" "turned" s_turned A.turned A.d_turned
  m_turned : mg "turned" = some (.ref A.turned)
  F_plus : Fun K "plus" "plus" s_plus A.plus A.d_plus
  m_plus : mg "plus" = some (.ref A.plus)
  F_Sum_init : Fun K "__init__" "Sum.__init__" s_Sum_init A.Sum_init A.d_Sum_init
  F_Sum_then : Fun K "then" "Sum.then" s_Sum_then A.Sum_then A.d_Sum_then
  me_Sum_then : Meth K A.Sum "then" A.Sum_then
  F_Sum_turning : Fun K "turning" "Sum.turning" s_Sum_turning A.Sum_turning A.d_Sum_turning
  me_Sum_turning : Meth K A.Sum "turning" A.Sum_turning
  F_Sum_back_at : Fun K "back_at" "Sum.back_at" s_Sum_back_at A.Sum_back_at A.d_Sum_back_at
  me_Sum_back_at : Meth K A.Sum "back_at" A.Sum_back_at
  F_nothing : Fun K "nothing" "nothing" s_nothing A.nothing A.d_nothing
  m_nothing : mg "nothing" = some (.ref A.nothing)
  F_joined : Fun K "joined" "joined" s_joined A.joined A.d_joined
  m_joined : mg "joined" = some (.ref A.joined)
  F_Ages_init : Fun K "__init__" "Ages.__init__" s_Ages_init A.Ages_init A.d_Ages_init
  F_Ages_whole : Fun K "whole" "Ages.whole" s_Ages_whole A.Ages_whole A.d_Ages_whole
  me_Ages_whole : Meth K A.Ages "whole" A.Ages_whole
  F_need_age : Fun K "need_age" "need_age" s_need_age A.need_age A.d_need_age
  m_need_age : mg "need_age" = some (.ref A.need_age)
  F_strokes_in : Fun K "strokes_in" "strokes_in" s_strokes_in A.strokes_in A.d_strokes_in
  m_strokes_in : mg "strokes_in" = some (.ref A.strokes_in)
  F_end_at : Fun K "end_at" "end_at" s_end_at A.end_at A.d_end_at
  m_end_at : mg "end_at" = some (.ref A.end_at)
  F_turns_at : Fun K "turns_at" "turns_at" s_turns_at A.turns_at A.d_turns_at
  m_turns_at : mg "turns_at" = some (.ref A.turns_at)
  F_area_at : Fun K "area_at" "area_at" s_area_at A.area_at A.d_area_at
  m_area_at : mg "area_at" = some (.ref A.area_at)
  F__law_taken : Fun K "_law_taken" "_law_taken" s__law_taken A._law_taken A.d__law_taken
  m__law_taken : mg "_law_taken" = some (.ref A._law_taken)
  F__law_pick : Fun K "_law_pick" "_law_pick" s__law_pick A._law_pick A.d__law_pick
  m__law_pick : mg "_law_pick" = some (.ref A._law_pick)
  F__law_branched : Fun K "_law_branched" "_law_branched" s__law_branched A._law_branched A.d__law_branched
  m__law_branched : mg "_law_branched" = some (.ref A._law_branched)
  F__law_word : Fun K "_law_word" "_law_word" s__law_word A._law_word A.d__law_word
  m__law_word : mg "_law_word" = some (.ref A._law_word)
  F__law_book : Fun K "_law_book" "_law_book" s__law_book A._law_book A.d__law_book
  m__law_book : mg "_law_book" = some (.ref A._law_book)
  F__law_kit : Fun K "_law_kit" "_law_kit" s__law_kit A._law_kit A.d__law_kit
  m__law_kit : mg "_law_kit" = some (.ref A._law_kit)
  F__law_even_word : Fun K "_law_even_word" "_law_even_word" s__law_even_word A._law_even_word A.d__law_even_word
  m__law_even_word : mg "_law_even_word" = some (.ref A._law_even_word)
  F__law_even_book : Fun K "_law_even_book" "_law_even_book" s__law_even_book A._law_even_book A.d__law_even_book
  m__law_even_book : mg "_law_even_book" = some (.ref A._law_even_book)
  F__law_grown : Fun K "_law_grown" "_law_grown" s__law_grown A._law_grown A.d__law_grown
  m__law_grown : mg "_law_grown" = some (.ref A._law_grown)
  F__law_age : Fun K "_law_age" "_law_age" s__law_age A._law_age A.d__law_age
  m__law_age : mg "_law_age" = some (.ref A._law_age)
  F__law_unit : Fun K "_law_unit" "_law_unit" s__law_unit A._law_unit A.d__law_unit
  m__law_unit : mg "_law_unit" = some (.ref A._law_unit)
  F__law_drawn : Fun K "_law_drawn" "_law_drawn" s__law_drawn A._law_drawn A.d__law_drawn
  m__law_drawn : mg "_law_drawn" = some (.ref A._law_drawn)
  F__law_main : Fun K "_law_main" "_law_main" s__law_main A._law_main A.d__law_main
  m__law_main : mg "_law_main" = some (.ref A._law_main)
  F__law_alike : Fun K "_law_alike" "_law_alike" s__law_alike A._law_alike A.d__law_alike
  m__law_alike : mg "_law_alike" = some (.ref A._law_alike)
  F__law_all : Fun K "_law_all" "_law_all" s__law_all A._law_all A.d__law_all
  m__law_all : mg "_law_all" = some (.ref A._law_all)
  F__law_quarter : Fun K "_law_quarter" "_law_quarter" s__law_quarter A._law_quarter A.d__law_quarter
  m__law_quarter : mg "_law_quarter" = some (.ref A._law_quarter)
  F_law : Fun K "law" "law" s_law A.law A.d_law
  m_law : mg "law" = some (.ref A.law)
  cl_Sum : Cls K A.Sum
  mk_Sum : Mk K A.Sum A.Sum_init
  m_Sum : mg "Sum" = some (.ref A.Sum)
  n_Sum_many : NoAttr K A.Sum "many"
  n_Sum_end : NoAttr K A.Sum "end"
  n_Sum_turns : NoAttr K A.Sum "turns"
  n_Sum_ways : NoAttr K A.Sum "ways"
  n_Sum_area : NoAttr K A.Sum "area"
  cl_Ages : Cls K A.Ages
  mk_Ages : Mk K A.Ages A.Ages_init
  m_Ages : mg "Ages" = some (.ref A.Ages)
  n_Ages_book : NoAttr K A.Ages "book"
  n_Ages_rows : NoAttr K A.Ages "rows"
  z_len : mg "len" = none
  z_isinstance : mg "isinstance" = none
  z_int : mg "int" = none
  z_bool : mg "bool" = none
  z_str : mg "str" = none
  z_tuple : mg "tuple" = none
  z_list : mg "list" = none
  z_abs : mg "abs" = none
  z_range : mg "range" = none
  z_enumerate : mg "enumerate" = none
  c_MOST_LETTERS : ∃ t, mg "MOST_LETTERS" = some (.int 8 t)
  c_MOST_WORD : ∃ t, mg "MOST_WORD" = some (.int 40 t)
  c_MOST_AGE : ∃ t, mg "MOST_AGE" = some (.int 1000 t)
  c_LEFT : ∃ t, mg "LEFT" = some (.str "+" t)
  c_RIGHT : ∃ t, mg "RIGHT" = some (.str "-" t)
  c_OUT : ∃ t, mg "OUT" = some (.str "[" t)
  c_BACK : ∃ t, mg "BACK" = some (.str "]" t)
  c_HEADINGS : mg "HEADINGS" = some (.ref A.hd)
  t_hd : TupK K A.hd [.ref A.h0, .ref A.h1, .ref A.h2, .ref A.h3]
  t_h0 : TupK K A.h0 [.int 1, .int 0]
section
variable {K : PySem.W.Frag} {mg : Str → Option Value} {A : Adr}
theorem b_is_in (T : Txt K mg A) : Binds K A.d_is_in ["value", "least", "most"] [] := T.F_is_in.binds fun _ _ _ _ _ _ us hl => match us, hl with | [_, _, _], _ => rfl
theorem b_is_letter (T : Txt K mg A) : Binds K A.d_is_letter ["item"] [] := T.F_is_letter.binds fun _ _ _ _ _ _ us hl => match us, hl with | [_], _ => rfl
theorem b_are_branches (T : Txt K mg A) : Binds K A.d_are_branches ["word"] [] := T.F_are_branches.binds fun _ _ _ _ _ _ us hl => match us, hl with | [_], _ => rfl
theorem b_is_word (T : Txt K mg A) : Binds K A.d_is_word ["letters", "value"] [] := T.F_is_word.binds fun _ _ _ _ _ _ us hl => match us, hl with | [_, _], _ => rfl
theorem b_need_book (T : Txt K mg A) : Binds K A.d_need_book ["book"] [] := T.F_need_book.binds fun _ _ _ _ _ _ us hl => match us, hl with | [_], _ => rfl
theorem b_need_number (T : Txt K mg A) : Binds K A.d_need_number ["value", "least", "most"] [] := T.F_need_number.binds fun _ _ _ _ _ _ us hl => match us, hl with | [_, _, _], _ => rfl
theorem b_quarters (T : Txt K mg A) : Binds K A.d_quarters ["item"] [] := T.F_quarters.binds fun _ _ _ _ _ _ us hl => match us, hl with | [_], _ => rfl
theorem b_turned (T : Txt K mg A) : Binds K A.d_turned ["place", "many"] [] := T.F_turned.binds fun _ _ _ _ _ _ us hl => match us, hl with | [_, _], _ => rfl
theorem b_plus (T : Txt K mg A) : Binds K A.d_plus ["one", "other"] [] := T.F_plus.binds fun _ _ _ _ _ _ us hl => match us, hl with | [_, _], _ => rfl
theorem b_Sum_init (T : Txt K mg A) : Binds K A.d_Sum_init ["self", "many", "end", "turns", "ways", "area"] [] := T.F_Sum_init.binds fun _ _ _ _ _ _ us hl => match us, hl with | [_, _, _, _, _, _], _ => rfl
theorem b_Sum_then (T : Txt K mg A) : Binds K A.d_Sum_then ["self", "other"] [] := T.F_Sum_then.binds fun _ _ _ _ _ _ us hl => match us, hl with | [_, _], _ => rfl
theorem b_Sum_turning (T : Txt K mg A) : Binds K A.d_Sum_turning ["self", "item"] [] := T.F_Sum_turning.binds fun _ _ _ _ _ _ us hl => match us, hl with | [_, _], _ => rfl
theorem b_Sum_back_at (T : Txt K mg A) : Binds K A.d_Sum_back_at ["self", "stand"] [] := T.F_Sum_back_at.binds fun _ _ _ _ _ _ us hl => match us, hl with | [_, _], _ => rfl
theorem b_nothing (T : Txt K mg A) : Binds K A.d_nothing [] [] := T.F_nothing.binds fun _ _ _ _ _ _ us hl => match us, hl with | [], _ => rfl
theorem b_joined (T : Txt K mg A) : Binds K A.d_joined ["sums", "word"] [] := T.F_joined.binds fun _ _ _ _ _ _ us hl => match us, hl with | [_, _], _ => rfl
theorem b_Ages_init (T : Txt K mg A) : Binds K A.d_Ages_init ["self", "book", "last"] [] := T.F_Ages_init.binds fun _ _ _ _ _ _ us hl => match us, hl with | [_, _, _], _ => rfl
theorem b_Ages_whole (T : Txt K mg A) : Binds K A.d_Ages_whole ["self", "age"] [] := T.F_Ages_whole.binds fun _ _ _ _ _ _ us hl => match us, hl with | [_, _], _ => rfl
theorem b_need_age (T : Txt K mg A) : Binds K A.d_need_age ["book", "age"] [] := T.F_need_age.binds fun _ _ _ _ _ _ us hl => match us, hl with | [_, _], _ => rfl
theorem b_strokes_in (T : Txt K mg A) : Binds K A.d_strokes_in ["book", "age"] [] := T.F_strokes_in.binds fun _ _ _ _ _ _ us hl => match us, hl with | [_, _], _ => rfl
theorem b_end_at (T : Txt K mg A) : Binds K A.d_end_at ["book", "age"] [] := T.F_end_at.binds fun _ _ _ _ _ _ us hl => match us, hl with | [_, _], _ => rfl
theorem b_turns_at (T : Txt K mg A) : Binds K A.d_turns_at ["book", "age"] [] := T.F_turns_at.binds fun _ _ _ _ _ _ us hl => match us, hl with | [_, _], _ => rfl
theorem b_area_at (T : Txt K mg A) : Binds K A.d_area_at ["book", "age"] [] := T.F_area_at.binds fun _ _ _ _ _ _ us hl => match us, hl with | [_, _], _ => rfl
theorem b__law_taken (T : Txt K mg A) : Binds K A.d__law_taken ["_law_row", "_law_many"] [] := T.F__law_taken.binds fun _ _ _ _ _ _ us hl => match us, hl with | [_, _], _ => rfl
theorem b__law_pick (T : Txt K mg A) : Binds K A.d__law_pick ["_law_row", "_law_things"] [] := T.F__law_pick.binds fun _ _ _ _ _ _ us hl => match us, hl with | [_, _], _ => rfl
theorem b__law_branched (T : Txt K mg A) : Binds K A.d__law_branched ["_law_row", "_law_word_here", "_law_letters"] [] := T.F__law_branched.binds fun _ _ _ _ _ _ us hl => match us, hl with | [_, _, _], _ => rfl
theorem b__law_word (T : Txt K mg A) : Binds K A.d__law_word ["_law_row", "_law_letters", "_law_most"] [] := T.F__law_word.binds fun _ _ _ _ _ _ us hl => match us, hl with | [_, _, _], _ => rfl
theorem b__law_book (T : Txt K mg A) : Binds K A.d__law_book ["_law_row"] [] := T.F__law_book.binds fun _ _ _ _ _ _ us hl => match us, hl with | [_], _ => rfl
theorem b__law_kit (T : Txt K mg A) : Binds K A.d__law_kit ["_law_row"] [] := T.F__law_kit.binds fun _ _ _ _ _ _ us hl => match us, hl with | [_], _ => rfl
theorem b__law_even_word (T : Txt K mg A) : Binds K A.d__law_even_word ["_law_row", "_law_letters", "_law_move"] [] := T.F__law_even_word.binds fun _ _ _ _ _ _ us hl => match us, hl with | [_, _, _], _ => rfl
theorem b__law_even_book (T : Txt K mg A) : Binds K A.d__law_even_book ["_law_row"] [] := T.F__law_even_book.binds fun _ _ _ _ _ _ us hl => match us, hl with | [_], _ => rfl
theorem b__law_grown (T : Txt K mg A) : Binds K A.d__law_grown ["_law_book_here", "_law_age_here"] [] := T.F__law_grown.binds fun _ _ _ _ _ _ us hl => match us, hl with | [_, _], _ => rfl
theorem b__law_age (T : Txt K mg A) : Binds K A.d__law_age ["_law_book_here", "_law_most"] [] := T.F__law_age.binds fun _ _ _ _ _ _ us hl => match us, hl with | [_, _], _ => rfl
theorem b__law_unit (T : Txt K mg A) : Binds K A.d__law_unit ["_law_heading"] [] := T.F__law_unit.binds fun _ _ _ _ _ _ us hl => match us, hl with | [_], _ => rfl
theorem b__law_drawn (T : Txt K mg A) : Binds K A.d__law_drawn ["_law_word_here"] [] := T.F__law_drawn.binds fun _ _ _ _ _ _ us hl => match us, hl with | [_], _ => rfl
theorem b__law_main (T : Txt K mg A) : Binds K A.d__law_main ["_law_word_here"] [] := T.F__law_main.binds fun _ _ _ _ _ _ us hl => match us, hl with | [_], _ => rfl
theorem b__law_alike (T : Txt K mg A) : Binds K A.d__law_alike ["_law_found", "_law_due"] [] := T.F__law_alike.binds fun _ _ _ _ _ _ us hl => match us, hl with | [_, _], _ => rfl
theorem b__law_all (T : Txt K mg A) : Binds K A.d__law_all ["_law_book_here", "_law_age_here"] [] := T.F__law_all.binds fun _ _ _ _ _ _ us hl => match us, hl with | [_, _], _ => rfl
theorem b__law_quarter (T : Txt K mg A) : Binds K A.d__law_quarter ["_law_place", "_law_many"] [] := T.F__law_quarter.binds fun _ _ _ _ _ _ us hl => match us, hl with | [_, _], _ => rfl
theorem b_law (T : Txt K mg A) : Binds K A.d_law ["_law_script"] [] := T.F_law.binds fun _ _ _ _ _ _ us hl => match us, hl with | [_], _ => rfl
end
end My
end
section
set_option maxRecDepth 100000
set_option maxHeartbeats 4000000
/-! words of our own over the hand layer -/
namespace My
open PySem L2
section
variable {X : Cx} {K : PySem.W.Frag} {H H' : Hp} {a : Addr} {xs : List V}
theorem pe_globI {x : Str} {n : Int} {pos : Pos} (hg : Gl X x) (hm : ∃ t, X.mg x = some (.int n t)) (hd : (x == ("__debug__" : Str)) = false := by decide) : PE X (.Name x pos) (tC (.int n)) := by
  obtain ⟨t, hm⟩ := hm
  exact pe_glob hg hm ⟨t, rfl⟩ hd
theorem pe_globS {x : Str} {z : Str} {pos : Pos} (hg : Gl X x) (hm : ∃ t, X.mg x = some (.str z t)) (hd : (x == ("__debug__" : Str)) = false := by decide) : PE X (.Name x pos) (tC (.str z)) := by
  obtain ⟨t, hm⟩ := hm
  exact pe_glob hg hm ⟨t, rfl⟩ hd
theorem tupK (h : TupK K a xs) : SqT K H a xs := .inr h
/-! ### heaps -/
theorem sTup (e : Same H H') (h : SqT K H a xs) : SqT K H' a xs := by
  rcases h with (h | ⟨o, h⟩) | h
  · exact .inl (.inl (e _ _ h))
  · exact .inl (.inr ⟨o, e _ _ h⟩)
  · exact .inr h
theorem sNew {o : HO} (h : H a = none) : Same H (upd H a o) := fun b u e => by
  rw [upd_ne (ne_of_none e h)]
  exact e
/-- a new tuple, a new list: only what they hold is kept -/
theorem newT {Q : VK} (k : ∀ p H', H p = none → Same H H' → H' p = some (.tup xs) → Q (.ref p) H') : ∀ p, H p = none → Q (.ref p) (upd H p (.tup xs)) := fun p hp => k p _ hp (sNew hp) upd_same
theorem newL {Q : VK} (k : ∀ p H', H p = none → Same H H' → H' p = some (.lst xs) → Q (.ref p) H') : ∀ p, H p = none → Q (.ref p) (upd H p (.lst xs)) := fun p hp => k p _ hp (sNew hp) upd_same
/-- an object that H does not know is changed -/
theorem sMut {H1 : Hp} {o : HO} (e : Same H H1) (h : H a = none) : Same H (upd H1 a o) := fun b u hb => by
  rw [upd_ne (ne_of_none hb h)]
  exact e b u hb
/-! ### isinstance -/
variable {Q : VK} {n : String} {b : Bool}
theorem isi_int {i : Int} (h : kitB "int" n = some b) (q : Q (.bl b) H) : rIsi K [.int i, .ty n] H Q := ⟨_, _, _, _, b, rfl, .ty n, .base (.int i), kit_ty h, q⟩
theorem isi_bl {i : Bool} (h : kitB "bool" n = some b) (q : Q (.bl b) H) : rIsi K [.bl i, .ty n] H Q := ⟨_, _, _, _, b, rfl, .ty n, .base (.bl i), kit_ty h, q⟩
theorem isi_str {z : Str} (h : kitB "str" n = some b) (q : Q (.bl b) H) : rIsi K [.str z, .ty n] H Q := ⟨_, _, _, _, b, rfl, .ty n, .base (.str z), kit_ty h, q⟩
theorem isi_tup (ha : H a = some (.tup xs)) (h : kitB "tuple" n = some b) (q : Q (.bl b) H) : rIsi K [.ref a, .ty n] H Q := ⟨_, _, _, _, b, rfl, .ty n, .base (.tup ha), kit_ty h, q⟩
theorem isi_lst (ha : H a = some (.lst xs)) (h : kitB "list" n = some b) (q : Q (.bl b) H) : rIsi K [.ref a, .ty n] H Q := ⟨_, _, _, _, b, rfl, .ty n, .base (.lst ha), kit_ty h, q⟩
end
/-! ### items as values -/
def itV : Item → V
  | .l n => .int n
  | .p => .str "+"
  | .m => .str "-"
  | .o => .str "["
  | .c => .str "]"
theorem flat_it (i : Item) : flatV (itV i) = true := by cases i <;> rfl
theorem flat_its (w : Word) : (w.map itV).all flatV = true := by
  rw [List.all_eq_true]
  intro v hv
  obtain ⟨i, _, e⟩ := List.mem_map.mp hv
  rw [← e]
  exact flat_it i
theorem scal_it (i : Item) (z : Str) : scal (itV i) (.str z) = true := by cases i <;> rfl
theorem it_o (i : Item) : decide (itV i = .str "[") = decide (i = .o) := by
  cases i with
  | l n => rfl
  | p => decide +kernel
  | m => decide +kernel
  | o => decide +kernel
  | c => decide +kernel
theorem it_c (i : Item) : decide (itV i = .str "]") = decide (i = .c) := by
  cases i with
  | l n => rfl
  | p => decide +kernel
  | m => decide +kernel
  | o => decide +kernel
  | c => decide +kernel
theorem it_p (i : Item) : decide (itV i = .str "+") = decide (i = .p) := by
  cases i with
  | l n => rfl
  | p => decide +kernel
  | m => decide +kernel
  | o => decide +kernel
  | c => decide +kernel
theorem it_get {w : Word} {i : Nat} {v : V} (h : (w.map itV)[i]? = some v) : ∃ x, w[i]? = some x ∧ v = itV x := by
  rw [List.getElem?_map] at h
  cases e : w[i]? with
  | none => rw [e] at h; cases h
  | some x => rw [e] at h; exact ⟨x, rfl, (Option.some.inj h).symm⟩
theorem isi_it {K : PySem.W.Frag} {H : Hp} {Q : VK} {i : Item} (q : Q (.bl (!isL i)) H) : rIsi K [itV i, .ty "str"] H Q := by
  cases i with
  | l n => exact isi_int (b := false) (by decide +kernel) q
  | p => exact isi_str (b := true) (by decide +kernel) q
  | m => exact isi_str (b := true) (by decide +kernel) q
  | o => exact isi_str (b := true) (by decide +kernel) q
  | c => exact isi_str (b := true) (by decide +kernel) q
theorem drop_get {α : Type} {w : List α} {i : Nat} {x : α} (h : w[i]? = some x) : w.drop i = x :: w.drop (i + 1) := by
  obtain ⟨hl, e⟩ := List.getElem?_eq_some_iff.mp h
  rw [← e]
  exact List.drop_eq_getElem_cons hl
theorem take_get {α : Type} {w : List α} {i : Nat} {x : α} (h : w[i]? = some x) : w.take (i + 1) = w.take i ++ [x] := by
  rw [List.take_add_one, h]
  rfl
theorem small_le {n : Nat} (h : n ≤ 1000000) : n ≤ sizeLine := Nat.le_trans h (by decide)
theorem small_lt {n : Nat} (h : n ≤ 1000000) : n < sizeLine := Nat.lt_of_le_of_lt h (by decide)
/-! ### list.count of flat things -/
section
variable {X : Cx}
def rCntV (K : PySem.W.Frag) : V → List V → Hp → VK → Prop := fun x vs H Q => ∃ (p : Addr) (xs : List V) (y : V), x = .ref p ∧ vs = [y] ∧ SqL K H p xs ∧ flatV y = true ∧ xs.all flatV = true ∧ Q (.int ((xs.countP fun z => eqV z y : Nat) : Int)) H
theorem countP_eqU {x : V} : ∀ {xs : List V} {us : List Value}, Vals xs us → xs.all flatV = true → us.countP (eqU x) = xs.countP fun y => eqV y x
  | _, _, .nil, _ => rfl
  | _, _, .cons (a := y) (b := u) (l₁ := ys) (l₂ := us) r t, h => by
    simp only [List.all_cons, Bool.and_eq_true] at h
    rw [List.countP_cons, List.countP_cons, countP_eqU t h.2, eqU_of r h.1]
theorem mt_lcountV : MtR X "list.count" (rCntV X.K) := by
  intro pins s σ H x vs v us Q I rx rxs h
  obtain ⟨p, xs, y, rfl, rfl, hs, fy, fxs, q⟩ := h
  cases rx
  obtain ⟨u, rfl, ru⟩ := rxs.one
  obtain ⟨its, rv, ⟨⟨cls, dd, data, sl⟩, n, ho, hc, hdn, hd⟩, hlen⟩ := I.list hs
  simp only at hc hd
  subst hc hd
  refine call_meets PySem.F.slot_list_count ⟨_, ho, rfl⟩ PySem.F.entry_list_count (PySem.F.args_list_count_2 _ _)
    (SeqAt.list_countAt p its.toArray n dd sl u (eqU y)) ⟨ho, fun z hz => mem_eqAt ru fy rv fxs z (by simpa using hz), ?_⟩
  refine ⟨.int ((xs.countP fun z => eqV z y : Nat) : Int), H, I.tok _, ⟨s.toks, ?_⟩, q⟩
  have e := countP_eqU (x := y) rv fxs
  show Value.int ((its.toArray.toList.countP (eqU y) : Nat) : Int) s.toks = Value.int ((xs.countP fun z => eqV z y : Nat) : Int) s.toks
  rw [← e]
end
end My
namespace My
open PySem L2
theorem ty_it (K : PySem.W.Frag) (H : Hp) (i : Item) : ∃ t, TyX K H (itV i) t ∧ PySem.W.kitOne K t (.type "str") = some (!isL i) := by
  cases i with
  | l n => exact ⟨_, .base (.int n), kit_ty (r := false) (by decide +kernel)⟩
  | p => exact ⟨_, .base (.str "+"), kit_ty (by decide +kernel)⟩
  | m => exact ⟨_, .base (.str "-"), kit_ty (by decide +kernel)⟩
  | o => exact ⟨_, .base (.str "["), kit_ty (by decide +kernel)⟩
  | c => exact ⟨_, .base (.str "]"), kit_ty (by decide +kernel)⟩
end My
end
section
set_option maxRecDepth 100000
set_option maxHeartbeats 4000000
/-! enumerate(t), t a tuple that stands in the heap -/
namespace PySem
open Sem (wp)
open AutoSeq1 (wpAny_loadPart')
theorem my_meets_enumT (l : Addr) (items : Array Value) (n : Nat) (dct : Option Addr) (sl : Array (Option Value)) :
    Meets (Builtin.«enumerate.__new__» ⟨[.type "enumerate", .ref l], []⟩) (fun _ R s => s.heap.get? l = some { cls := .type "tuple", dict := dct, data := .seq items n, slots := sl } ∧
      R (.ok (.ret (.ref (s.heap.push { cls := .type "tuple_iterator", data := .fields #[.ref l, .int 0 0] }).objs.size)))
        { s with heap := (s.heap.push { cls := .type "tuple_iterator", data := .fields #[.ref l, .int 0 0] }).push { cls := .type "enumerate", data := .fields #[.none, .bool false, .ref s.heap.objs.size, rawInt 0, .none, .none] } }) :=
  .of_wp fun prog w A R s h => by
    obtain ⟨hp, g, d, tk, os⟩ := s; obtain ⟨hl, h⟩ := h
    have hsub := sub_enumerate
    have hL : Heap.IsTuple (Shared.heap ⟨hp, g, d, tk, os⟩) l items := ⟨_, hl, rfl, n, rfl⟩
    wp_walk using wpAny_loadPart' hl
    refine wpAny_stack_any fun st => wpAny_pure ?_
    split
    · rename_i c _ _ _ _ _
      cases (c == Value.type "enumerate")
      · wp_walk using wpAny_loadPart' hl, wpAny_pyIter_tuple hL
        exact ⟨_, rfl, h⟩
      · wp_walk using wpAny_loadPart' hl, wpAny_pyIter_tuple hL
        exact ⟨_, rfl, h⟩
    · wp_walk using wpAny_loadPart' hl, wpAny_pyIter_tuple hL
      exact ⟨_, rfl, h⟩
section
variable {prog : Program} {w : World} {A : Around} {E : Value → Shared → Prop} {s : Shared}
theorem my_call_enumT {l : Addr} {items : Array Value} {Q : Value → Shared → Prop} (hL : s.heap.IsTuple l items)
    (h : ∀ h', IsEnum h' (s.heap.objs.size + 1) s.heap.objs.size 0 .none → h'.IsTupleIter s.heap.objs.size l 0 → h'.objs.size = s.heap.objs.size + 2 →
      (∀ b o, s.heap.get? b = some o → h'.get? b = some o) → Q (.ref (s.heap.objs.size + 1)) { s with heap := h' }) :
    wpAny (model prog w) A (call (.type "enumerate") [.ref l]) Q E s := by
  obtain ⟨⟨c, dct, dt, sl⟩, hl, hc, n, hd⟩ := hL
  replace hc : c = .type "tuple" := hc
  replace hd : dt = .seq items n := hd
  subst hc hd
  refine callType_new F.called_enumerate (by decide) (F.typeCall_enumerate_1 _) (F.newCall_enumerate_1 _) (fun obj => F.args_object_init_2 obj _) F.entry_enumerate_new
    (my_meets_enumT l items n dct sl) ⟨hl, ?_⟩
  have hz : (s.heap.push { cls := .type "tuple_iterator", data := .fields #[.ref l, .int 0 0] }).objs.size = s.heap.objs.size + 1 := Heap.size_push ..
  show _ ∧ _
  rw [hz]
  have he : IsEnum ((s.heap.push { cls := .type "tuple_iterator", data := .fields #[.ref l, .int 0 0] }).push
      { cls := .type "enumerate", data := .fields #[.none, .bool false, .ref s.heap.objs.size, rawInt 0, .none, .none] }) (s.heap.objs.size + 1) s.heap.objs.size 0 .none := by
    have := Heap.get?_push_size (s.heap.push { cls := .type "tuple_iterator", data := .fields #[.ref l, .int 0 0] })
      (o := { cls := .type "enumerate", data := .fields #[.none, .bool false, .ref s.heap.objs.size, rawInt 0, .none, .none] }) rfl
    rw [hz] at this; exact this
  refine ⟨⟨_, he, rfl⟩, h _ he ⟨_, Heap.get?_push_of_some _ (Heap.get?_push_size _ rfl), rfl, rfl⟩ (by rw [Heap.size_push, hz]) fun b o x => Heap.get?_push_of_some _ (Heap.get?_push_of_some _ x)⟩
end
end PySem
namespace My
open PySem PySem.Spec PyProof.Rows L2
def Iteu (a : Addr) : It :=
  ⟨fun i H => ∃ (xs : List V) (x : V), H a = some (.tup xs) ∧ xs[i]? = some x, fun i H v H' => ∃ T x, v = .ref T ∧ H T = none ∧ H' = upd H T (.tup [.int (i : Nat), x]) ∧ ∀ xs, H a = some (.tup xs) → xs[i]? = some x, fun i H => ∃ xs : List V, H a = some (.tup xs) ∧ xs.length = i⟩
theorem turn_enumT {P : Program} {w : World} {K : PySem.W.Frag} {elts : List Expr} {kk : Nat} {tpos : Pos} (a e it : Addr) :
    Turn P w K (.Tuple elts kk tpos) (Iteu a) [e, it] e (fun i h => (∃ old, IsEnum h e it ((i : Nat) : Int) old) ∧ h.IsTupleIter it a i ∧ e ≠ it) where
  mem := by simp
  obj := fun i h st b hb => by
    obtain ⟨⟨old, he⟩, ⟨o, ho, hc, hd⟩, _⟩ := st
    have e' : b = e ∨ b = it := by simpa using hb
    rcases e' with z | z
    · rw [z]; exact ⟨_, he, fun v q => nomatch q⟩
    · rw [z]; exact ⟨o, ho, fun v q => by rw [hd] at q; cases q⟩
  keep := fun i h h' st k => let ⟨⟨old, he⟩, hi, hne⟩ := st; ⟨⟨old, k e (by simp) _ he⟩, hi.at fun o q => k it (by simp) o q, hne⟩
  item := by
    intro X hP hw hK hc i pins s σ H E I hf st hg
    subst hP hw hK
    obtain ⟨⟨old, he⟩, hit, hne⟩ := st
    obtain ⟨xs, x, hq, hx⟩ := hg
    obtain ⟨its, rv, p, hz⟩ := I.tuple (xs := xs) (SqT.of hq)
    obtain ⟨u, hu, ru⟩ := rv.get hx
    have hel : e < s.heap.objs.size := Heap.lt_size he
    have hil : it < s.heap.objs.size := by obtain ⟨_, q, _⟩ := hit; exact Heap.lt_size q
    have nae : a ≠ e := ne_of_none hq (hf e (by simp)).1
    have nai : a ≠ it := ne_of_none hq (hf it (by simp)).1
    have hil2 : i < its.toArray.size := by
      have q := (List.getElem?_eq_some_iff.mp hu).1
      simpa using q
    refine wpAny_pyNext_enum_itemD (Draws.tuple (A := X.A.in1) (I.ok.hd hc) it a nai its.toArray) he ⟨hit, p⟩ hil2 hne (by simp [hne, nae.symm]) fun x' h' tk hP ho hs' hT hsz hk => ?_
    have ex : x' = u := by
      have q : its.toArray[i]? = some x' := hP
      rw [List.getElem?_toArray, hu] at q
      exact (Option.some.inj q).symm
    subst ex
    refine ⟨_, rfl, wpAny_letOwnedTupleGo_enum (s := { s with heap := h', toks := tk + 1 }) ho fun h'' he' sb => ?_⟩
    have hT2 : h''.get? s.heap.objs.size = some { cls := .type "tuple", data := .seq #[.int i tk, x'] } := (sb.2 _ (Nat.ne_of_gt hel)).trans hT
    have new : ObjOk X.prog X.w (upd H s.heap.objs.size (.tup [.int (i : Nat), x])) h'' s.heap.objs.size (.tup [.int (i : Nat), x]) :=
      ⟨by show 2 ≤ sizeLine; decide, [.int i tk, x'], .cons ⟨_, rfl⟩ (.cons ru .nil), ⟨_, hT2, rfl, _, rfl⟩⟩
    have I1 : Inv X pins σ (upd H s.heap.objs.size (.tup [.int (i : Nat), x])) { s with heap := h'', toks := tk + 1 } :=
      I.turnedNew (ch := [e, it]) (fun b ob hb q => (sb.2 b (fun z => hb (by simp [z]))).trans (hk b ob (fun z => hb (by simp [z])) (fun z => hb (by simp [z])) q)) hf (Nat.le_refl _) new
    refine ⟨.ref s.heap.objs.size, _, I1, rfl, ⟨_, x, rfl, I.hok.fresh (Nat.le_refl _), rfl, fun ys hy => by rw [I.tuple_inj (SqT.of hy) (SqT.of hq)]; exact hx⟩, ⟨⟨x', ?_⟩, hs'.1.at fun o q => (sb.2 it (Ne.symm hne)).trans q, hne⟩, fun b hb => ?_⟩
    · have e1 : ((i + 1 : Nat) : Int) = (i : Int) + 1 := by omega
      rw [e1]; exact he'
    · have hb' : b < s.heap.objs.size := by
        have e' : b = e ∨ b = it := by simpa using hb
        rcases e' with z | z
        · rw [z]; exact hel
        · rw [z]; exact hil
      rw [upd_ne (Nat.ne_of_lt hb')]
      exact (hf b hb).1
  done := by
    intro X hP hw hK hc i pins s σ H E I hf st hg
    subst hP hw hK
    obtain ⟨⟨old, he⟩, hit, hne⟩ := st
    obtain ⟨xs, hq, hx⟩ := hg
    obtain ⟨its, rv, p, hz⟩ := I.tuple (xs := xs) (SqT.of hq)
    obtain ⟨f0, f1, f2, f3, f4, f5⟩ := hf it (by simp)
    have nai : a ≠ it := ne_of_none hq (hf it (by simp)).1
    have hl := rv.length
    have hsz : its.toArray.size = i := by
      rw [List.size_toArray, ← hl]
      exact hx
    have hit2 : s.heap.IsTupleIter it a its.toArray.size := by rw [hsz]; exact hit
    exact wpAny_pyNext_enum_endD (Draws.tuple (A := X.A.in1) (I.ok.hd hc) it a nai its.toArray) he ⟨hit2, p⟩ fun h' eb => ⟨rfl, I.turned (t' := s.toks) (fun b o hb q => eb b o hb q) f0 f1 f3 f4 f5⟩
  self := fun A i s Q E st h => let ⟨⟨_, he⟩, _⟩ := st; wpAny_pyIter_enum he h
def iEnumT (ta : TA) : TI := fun σ H R => ta σ H fun vs H1 => ∃ a xs, vs = [.ref a] ∧ H1 a = some (.tup xs) ∧ R (Iteu a) H1
theorem pi_enumT {X : Cx} {e : Expr} {ta : TA} {p pos tpos : Pos} {elts : List Expr} {kk : Nat} (hg : Gl X "enumerate") (hm : X.mg "enumerate" = none) (ha : PA X [e] ta) (hs : starEach [e] X.env = [(false, eval e X.env)] := by rfl) :
    PI X (.Tuple elts kk tpos) (.Call (.Name "enumerate" p) [e] [] pos) (iEnumT ta) := by
  refine ⟨fun pins s σ H R I h => ?_⟩
  refine Call_ (ld_blt I hg hm boot_enumerate (PyProof.Rows.callWith_type1 (thn (ha.run pos pins s σ H _ I h) fun us s1 ⟨vs, H1, I1, r1, q1⟩ => ?_) hs rfl))
  obtain ⟨a, xs, ex, hq, q⟩ := q1
  subst ex
  cases r1 with
  | cons r rr =>
    cases rr
    cases r
    obtain ⟨its, rv, p', hz⟩ := I1.tuple (xs := xs) (SqT.of hq)
    refine my_call_enumT p' fun h' he hit hsz hk => wpAny_pyIter_enum he ?_
    have I2 : Inv X pins σ H1 { s1 with heap := h' } := I1.kept (t' := s1.toks) hk
    refine ⟨s1.heap.objs.size + 1, [s1.heap.objs.size + 1, s1.heap.objs.size], _, _, H1, rfl, I2, turn_enumT a (s1.heap.objs.size + 1) s1.heap.objs.size, ⟨⟨.none, he⟩, hit, Nat.succ_ne_self _⟩, fun b hb => ?_, q⟩
    have e' : b = s1.heap.objs.size + 1 ∨ b = s1.heap.objs.size := by simpa using hb
    have hle : s1.heap.objs.size ≤ b := by
      rcases e' with z | z
      · rw [z]; exact Nat.le_add_right _ _
      · rw [z]; exact Nat.le_refl _
    exact I1.fpOk hle (I1.hok.fresh hle)
theorem for_enumT {a : Addr} {xs : List V} {g : TG} {tb : TS} {D : Ends} {σ : L2.St} {H : Hp} (Pv : Nat → L2.St → Hp → Prop) (h0 : Pv 0 σ H) (hl : ∀ i σ H, i ≤ xs.length → Pv i σ H → H a = some (.tup xs))
    (hs : ∀ i x σ H T H', xs[i]? = some x → Pv i σ H → H T = none → H' = upd H T (.tup [.int (i : Nat), x]) → g (.ref T) σ H' fun σ2 H2 => tb { D with nx := Pv (i + 1), ct := Pv (i + 1), bk := D.nx } σ2 H2) (hd : ∀ σ H, Pv xs.length σ H → D.nx σ H) :
    ∃ W : Nat → Nat → L2.St → Hp → Prop, (∃ m, W 0 m σ H) ∧ ∀ i m σ H, W i m σ H →
      ((Iteu a).stop i H ∧ D.nx σ H) ∨ ((Iteu a).go i H ∧ ∃ N : L2.St → Hp → Prop, (∀ σ' H', N σ' H' → ∃ m', m' < m ∧ W (i + 1) m' σ' H') ∧ ∀ x H', (Iteu a).yld i H x H' → g x σ H' fun σ2 H2 => tb { D with nx := N, ct := N, bk := D.nx } σ2 H2) := by
  refine ⟨fun i m σ H => m = xs.length - i ∧ i ≤ xs.length ∧ Pv i σ H, ⟨xs.length, by simp, Nat.zero_le _, h0⟩, ?_⟩
  rintro i m σ H ⟨rfl, hi, p⟩
  have q := hl i σ H hi p
  by_cases hlt : i < xs.length
  · refine .inr ⟨⟨xs, xs[i], q, by simp [hlt]⟩, Pv (i + 1), fun σ' H' p' => ⟨xs.length - (i + 1), by omega, rfl, hlt, p'⟩, fun x H' y => ?_⟩
    obtain ⟨T, x', e1, hT, e2, y⟩ := y
    subst e1
    exact hs i x' σ H T H' (y xs q) p hT e2
  · have e : i = xs.length := by omega
    subst e
    exact .inl ⟨⟨xs, q, rfl⟩, hd σ H p⟩
end My
end
section
set_option maxRecDepth 100000
set_option maxHeartbeats 4000000
/-! a list beside the void list; a walk over a list or a tuple -/
namespace My
open PySem L2
section
variable {K : PySem.W.Frag} {H : Hp}
def DatN (K : PySem.W.Frag) (H : Hp) (n : Nat) (v : V) : Prop := ∃ d, Dp K H v d ∧ d.canLay0 = true ∧ d.depth ≤ n
theorem dat_all {n : Nat} : ∀ {xs : List V}, (∀ v ∈ xs, DatN K H n v) → ∃ ds, DpAll K H xs ds ∧ PyData.canLayAll0 ds = true ∧ PyData.depthAll ds ≤ n ∧ ds.length = xs.length
  | [], _ => ⟨[], .nil, rfl, Nat.zero_le _, rfl⟩
  | v :: xs, h => by
    obtain ⟨d, h1, h2, h3⟩ := h v (by simp)
    obtain ⟨ds, k1, k2, k3, k4⟩ := dat_all (xs := xs) fun u hu => h u (by simp [hu])
    refine ⟨d :: ds, .cons h1 k1, ?_, ?_, by simp [k4]⟩
    · show (d.canLay0 && PyData.canLayAll0 ds) = true
      rw [h2, k2]
      rfl
    · show max d.depth (PyData.depthAll ds) ≤ n
      exact Nat.max_le.mpr ⟨h3, k3⟩
theorem dat_int (n : Nat) (i : Int) : DatN K H n (.int i) := ⟨_, .int i, rfl, Nat.zero_le _⟩
theorem dat_it (n : Nat) (i : Item) : DatN K H n (itV i) := by
  cases i with
  | l k => exact ⟨_, .int _, rfl, Nat.zero_le _⟩
  | p => exact ⟨_, .str _, by decide +kernel, Nat.zero_le _⟩
  | m => exact ⟨_, .str _, by decide +kernel, Nat.zero_le _⟩
  | o => exact ⟨_, .str _, by decide +kernel, Nat.zero_le _⟩
  | c => exact ⟨_, .str _, by decide +kernel, Nat.zero_le _⟩
theorem dat_tup {n : Nat} {a : Addr} {xs : List V} (h : SqT K H a xs) (hx : ∀ v ∈ xs, DatN K H n v) : DatN K H (n + 1) (.ref a) := by
  obtain ⟨ds, k1, k2, k3, _⟩ := dat_all hx
  exact ⟨.tuple ds, .tup h k1, k2, Nat.succ_le_succ k3⟩
theorem dat_word {a : Addr} {u : Word} (h : SqT K H a (u.map itV)) : DatN K H 1 (.ref a) := dat_tup (n := 0) h fun v hv => by
  obtain ⟨i, _, e⟩ := List.mem_map.mp hv
  rw [← e]
  exact dat_it 0 i
theorem cmpNil {n : Nat} (hn : n ≤ 60) {a q : Addr} {xs : List V} (hl : SqL K H a xs) (hx : ∀ v ∈ xs, DatN K H n v) (hq : SqL K H q []) :
    ∃ d e, Dp K H (.ref a) d ∧ Dp K H (.ref q) e ∧ SeqAt.shaped d = true ∧ SeqAt.shaped e = true ∧ PyData.eqv d e = xs.isEmpty := by
  obtain ⟨ds, k1, k2, k3, k4⟩ := dat_all hx
  refine ⟨.list ds, .list [], .lst hl k1, .lst hq .nil, ?_, rfl, ?_⟩
  · unfold SeqAt.shaped
    rw [Bool.and_eq_true]
    refine ⟨k2, decide_eq_true ?_⟩
    show PyData.depthAll ds + 1 ≤ 64
    omega
  · cases xs with
    | nil =>
      cases ds with
      | nil => rfl
      | cons d ds => simp at k4
    | cons v xs =>
      cases ds with
      | nil => simp at k4
      | cons d ds => rfl
end
section
variable {X : Cx} {tg : Expr}
/-- what a for walks is a list or a tuple -/
def iSeq (K : PySem.W.Frag) (tl : TE) : TI := fun σ H R => tl σ H fun x H1 => ∃ a, x = .ref a ∧ (((∃ xs, SqL K H1 a xs) ∧ R (Itl K a) H1) ∨ ((∃ xs, SqT K H1 a xs) ∧ R (Itt K a) H1))
theorem pi_seq {l : Expr} {tl : TE} (hl : PE X l tl) : PI X tg l (iSeq X.K tl) := by
  refine ⟨fun pins s σ H R I h => ?_⟩
  refine thn (hl.run pins s σ H _ I h) fun v s1 ⟨x, H1, I1, r1, q1⟩ => ?_
  obtain ⟨a, e, q⟩ := q1
  subst e
  cases r1
  rcases q with ⟨⟨xs, hq⟩, q⟩ | ⟨⟨xs, hq⟩, q⟩
  · obtain ⟨its, rv, p, hz⟩ := I1.list hq
    refine wpAny_pyIter_list p.isList ?_
    refine ⟨s1.heap.objs.size, [s1.heap.objs.size], _, _, H1, rfl, I1.kept (t' := s1.toks) fun b o e => Heap.get?_push_of_some _ e, turn_list a _, ⟨_, Heap.get?_push_size _ rfl, rfl, rfl⟩, fun b hb => ?_, q⟩
    have e : b = s1.heap.objs.size := by simpa using hb
    subst e
    exact I1.fpOk (Nat.le_refl _) (I1.hok.fresh (Nat.le_refl _))
  · obtain ⟨its, rv, p, hz⟩ := I1.tuple hq
    refine wpAny_pyIter_tuple (show s1.heap.IsTuple a its.toArray from p) ?_
    refine ⟨s1.heap.objs.size, [s1.heap.objs.size], _, _, H1, rfl, I1.kept (t' := s1.toks) fun b o e => Heap.get?_push_of_some _ e, turn_tuple a _, ⟨_, Heap.get?_push_size _ rfl, rfl, rfl⟩, fun b hb => ?_, q⟩
    have e : b = s1.heap.objs.size := by simpa using hb
    subst e
    exact I1.fpOk (Nat.le_refl _) (I1.hok.fresh (Nat.le_refl _))
end
theorem ne_no {i j : Int} (h : i = j) : V.bl (!decide (V.int i = V.int j)) = V.bl false := by
  subst h
  rw [decide_eq_true rfl]
  rfl
structure WOk (L : Nat) (u : Word) : Prop where
  len : u.length ≤ 40
  lets : lets L u
  bal : bal 0 u = true
  has : ∃ n, Item.l n ∈ u
theorem WOk.pos {L : Nat} {u : Word} (h : WOk L u) : 1 ≤ u.length := by
  obtain ⟨n, hn⟩ := h.has
  cases u with
  | nil => simp at hn
  | cons _ _ => simp
/-- words and the tuple of the words' places -/
def WordsAt (H : Hp) : List V → List Word → Prop
  | [], [] => True
  | v :: vs, u :: us => (∃ a, v = .ref a ∧ H a = some (.tup (u.map itV))) ∧ WordsAt H vs us
  | _, _ => False
theorem WordsAt.len {H : Hp} : ∀ {vs : List V} {us : List Word}, WordsAt H vs us → vs.length = us.length
  | [], [], _ => rfl
  | v :: vs, u :: us, h => by simp [WordsAt.len h.2]
  | [], _ :: _, h => h.elim
  | _ :: _, [], h => h.elim
theorem WordsAt.get {H : Hp} : ∀ {vs : List V} {us : List Word} {i : Nat} {v : V}, WordsAt H vs us → vs[i]? = some v → ∃ a u, v = .ref a ∧ us[i]? = some u ∧ H a = some (.tup (u.map itV))
  | v :: vs, u :: us, 0, x, h, e => by
    have e' : v = x := Option.some.inj e
    subst e'
    obtain ⟨⟨a, e1, h1⟩, _⟩ := h
    exact ⟨a, u, e1, rfl, h1⟩
  | v :: vs, u :: us, i + 1, x, h, e => by
    obtain ⟨a, u', e1, e2, h1⟩ := WordsAt.get (i := i) h.2 (by simpa using e)
    exact ⟨a, u', e1, by simpa using e2, h1⟩
  | [], _, i, x, _, e => by simp at e
  | _ :: _, [], _, _, h, _ => h.elim
theorem WordsAt.same {H H' : Hp} (s : ∀ a xs, H a = some (.tup xs) → H' a = some (.tup xs)) : ∀ {vs : List V} {us : List Word}, WordsAt H vs us → WordsAt H' vs us
  | [], [], _ => trivial
  | v :: vs, u :: us, ⟨⟨a, e1, h1⟩, h⟩ => ⟨⟨a, e1, s _ _ h1⟩, WordsAt.same s h⟩
  | [], _ :: _, h => h.elim
  | _ :: _, [], h => h.elim
theorem WordsAt.app {H : Hp} : ∀ {vs : List V} {us : List Word} {v : V} {u : Word}, WordsAt H vs us → (∃ a, v = .ref a ∧ H a = some (.tup (u.map itV))) → WordsAt H (vs ++ [v]) (us ++ [u])
  | [], [], _, _, _, h => ⟨h, trivial⟩
  | _ :: _, _ :: _, _, _, h, h' => ⟨h.1, WordsAt.app h.2 h'⟩
  | [], _ :: _, _, _, h, _ => h.elim
  | _ :: _, [], _, _, h, _ => h.elim
/-- a book -/
structure BOk (ws : List Word) (st : Word) : Prop where
  one : 1 ≤ ws.length
  eight : ws.length ≤ 8
  all : ∀ u ∈ ws, WOk ws.length u
  st : WOk ws.length st
def BookAt (H : Hp) (b : Addr) (ws : List Word) (st : Word) : Prop := ∃ (pw ps : Addr) (vs : List V), H b = some (.tup [.ref pw, .ref ps]) ∧ H pw = some (.tup vs) ∧ WordsAt H vs ws ∧ H ps = some (.tup (st.map itV))
theorem BookAt.same {H H' : Hp} {b : Addr} {ws : List Word} {st : Word} (h : BookAt H b ws st) (s : ∀ a xs, H a = some (.tup xs) → H' a = some (.tup xs)) : BookAt H' b ws st := by
  obtain ⟨pw, ps, vs, h1, h2, h3, h4⟩ := h
  exact ⟨pw, ps, vs, s _ _ h1, s _ _ h2, h3.same s, s _ _ h4⟩
theorem tups_of {H H' : Hp} (s : Same H H') : ∀ a xs, H a = some (.tup xs) → H' a = some (.tup xs) := fun _ _ h => s _ _ h
end My
end
section
set_option maxRecDepth 100000
set_option maxHeartbeats 4000000
/-! the looks at a book -/
namespace My
open PySem L2
section
variable {P : Program} {w : World} {K : PySem.W.Frag} {mg : Str → Option Value} {base : Heap} {A : Adr}
def spIsIn : Sp := fun vs H Q _ => ∃ (v : V) (lo hi : Int), vs = [v, .int lo, .int hi] ∧ ((∃ i, v = .int i ∧ Q (.bl (decide (lo ≤ i) && decide (i ≤ hi))) H) ∨ (∃ z, v = .str z ∧ Q (.bl false) H))
theorem ok_is_in (T : Txt K mg A) : FnOk P w K mg base CX0 1 A.is_in A.d_is_in ["value", "least", "most"] spIsIn := by
  refine T.F_is_in.ok sc_is_in (fun vs H Q E h => ?_) (fun cdv A' outer s H vs Q E hr h => ?_)
  · obtain ⟨v, lo, hi, rfl, _⟩ := h
    rfl
  · obtain ⟨v, lo, hi, rfl, h⟩ := h
    refine ⟨_, (pss_one (ps_ret (pe_and (pe_callB call_isi (by rfl) T.z_isinstance (by decide +kernel) (pa_cons (pv 0) (pa_cons (pe_bltn (v := .ty "int") (by rfl) T.z_int (by decide +kernel) rfl) pa_nil))) (pe_and (pe_not (pe_callB call_isi (by rfl) T.z_isinstance (by decide +kernel) (pa_cons (pv 0) (pa_cons (pe_bltn (v := .ty "bool") (by rfl) T.z_bool (by decide +kernel) rfl) pa_nil)))) (pe_one (pe_chain op_le op_le (pv 1) (pv 0) (pv 2))))))), ?_⟩
    rcases h with ⟨i, rfl, k⟩ | ⟨z, rfl, k⟩
    · refine ⟨_, rfl, _, _, _, _, true, rfl, .ty "int", .base (.int i), kit_ty (by decide +kernel), true, rfl, iteT ?_⟩
      refine ⟨_, rfl, _, _, _, _, false, rfl, .ty "bool", .base (.int i), kit_ty (by decide +kernel), false, rfl, true, rfl, iteT ?_⟩
      refine ⟨_, rfl, _, rfl, lo, i, rfl, rfl, _, rfl, ite2 (fun h => ⟨_, rfl, i, hi, rfl, rfl, ?_⟩) (fun h => ?_)⟩
      · rw [h, Bool.true_and] at k
        exact k
      · rw [eq_false_of_ne_true h, Bool.false_and] at k
        exact k
    · exact ⟨_, rfl, _, _, _, _, false, rfl, .ty "int", .base (.str z), kit_ty (by decide +kernel), false, rfl, iteF k⟩
def spIsLetter : Sp := fun vs H Q _ => ∃ (i : Item), vs = [itV i] ∧ Q (.bl (isL i)) H
theorem ok_is_letter (T : Txt K mg A) : FnOk P w K mg base CX0 1 A.is_letter A.d_is_letter ["item"] spIsLetter := by
  refine T.F_is_letter.ok sc_is_letter (fun vs H Q E h => ?_) (fun cdv A' outer s H vs Q E hr h => ?_)
  · obtain ⟨i, rfl, _⟩ := h
    rfl
  · obtain ⟨i, rfl, k⟩ := h
    refine ⟨_, (pss_one (ps_ret (pe_not (pe_callB call_isi (by rfl) T.z_isinstance (by decide +kernel) (pa_cons (pv 0) (pa_cons (pe_bltn (v := .ty "str") (by rfl) T.z_str (by decide +kernel) rfl) pa_nil)))))), ?_⟩
    obtain ⟨t, ty, e⟩ := ty_it K H i
    refine ⟨_, rfl, _, _, t, _, _, rfl, .ty "str", ty, e, _, rfl, ?_⟩
    rw [Bool.not_not]
    exact k
def spBranches (K : PySem.W.Frag) : Sp := fun vs H Q _ => ∃ (a : Addr) (u : Word), vs = [.ref a] ∧ SqT K H a (u.map itV) ∧ bal 0 u = true ∧ ∀ H', Same H H' → Q (.bl true) H'
theorem bl_len {b c : Bool} : decide (V.bl b = V.bl c) = (b == c) := dec_bl
theorem ok_are_branches (T : Txt K mg A) : FnOk P w K mg base CX0 2 A.are_branches A.d_are_branches ["word"] (spBranches K) := by
  have G_is_letter : FnOk P w K mg base CX0 1 A.is_letter A.d_is_letter ["item"] spIsLetter := ok_is_letter T
  refine T.F_are_branches.ok sc_are_branches (fun vs H Q E h => ?_) (fun cdv A' outer s H vs Q E hr h => ?_)
  · obtain ⟨a, u, rfl, _⟩ := h
    rfl
  · obtain ⟨a, u, rfl, hT, hb, k⟩ := h
    refine ⟨_, (pss_cons (ps_set (i := 1) sc_are_branches.nd rfl (Or.inl rfl) pe_int)
    (pss_cons (ps_for PassesOwn.never rfl (pi_tup (pv 0)) (pg_name (i := 2) sc_are_branches.nd rfl (Or.inl rfl))
      (pss_cons (ps_if (PW.pt (pw_and (pt_not (pt_val (pe_call G_is_letter (hr.mono (by decide)) (by rfl) T.m_is_letter T.F_is_letter.kp (b_is_letter T) .nil pass0 (pa_cons (pv 2) pa_nil)))) (pw_and1 (pt_cmpR op_in_seq (pv 2) (pe_tup (pa_cons (pe_globS (by rfl) T.c_OUT) (pa_cons (pe_globS (by rfl) T.c_BACK) pa_nil))) rfl)))) (pss_one (ps_aug (i := 1) sc_are_branches.nd rfl (Or.inl rfl) (pe_ifExp (pt_cmpR op_eq (pv 2) (pe_globS (by rfl) T.c_OUT) (nomark _)) pe_int (pe_un un_neg pe_int)) ip_add)) pss_nil)
      (pss_one (ps_if (pt_cmpR op_lt (pv 1) pe_int (nomark _)) (pss_one (ps_ret pe_bl)) pss_nil))))
    (pss_one (ps_ret (pe_cmpR op_eq (pv 1) pe_int (nomark _)))))), ?_⟩
    refine ⟨_, rfl, a, rfl, ⟨_, hT⟩, for_tup (K := K) (a := a) (xs := u.map itV) (fun i σ H' => ∃ (d : Nat) (v : Option V), σ = [some (.ref a), some (.int d), v] ∧ Same H H' ∧ bal d (u.drop i) = true)
      ⟨0, none, rfl, Same.refl _, hb⟩ (fun i σ H' _ ⟨_, _, _, s1, _⟩ => sTup s1 hT) ?_ ?_⟩
    · rintro i y σ H' hi ⟨d, v, rfl, s1, hd⟩
      obtain ⟨x, hx, rfl⟩ := it_get hi
      rw [drop_get hx] at hd
      refine ⟨_, rfl, x, rfl, _, rfl, ?_⟩
      cases x with
      | l n =>
        refine iteF ⟨_, rfl, _, _, rfl, rfl, _, rfl, ?_⟩
        rw [decide_eq_false (by omega : ¬ ((d : Nat) : Int) < 0)]
        exact iteF ⟨d, _, rfl, s1, by simpa [bal] using hd⟩
      | p =>
        refine iteT ⟨_, rfl, by show 2 ≤ sizeLine; decide, fun p hp => ?_⟩
        refine ⟨p, _, rfl, .inr (SqT.of upd_same), rfl, rfl, false, by decide +kernel, iteF ?_⟩
        refine ⟨_, rfl, _, _, rfl, rfl, _, rfl, ?_⟩
        rw [decide_eq_false (by omega : ¬ ((d : Nat) : Int) < 0)]
        exact iteF ⟨d, _, rfl, s1.trans (sNew hp), by simpa [bal] using hd⟩
      | m =>
        refine iteT ⟨_, rfl, by show 2 ≤ sizeLine; decide, fun p hp => ?_⟩
        refine ⟨p, _, rfl, .inr (SqT.of upd_same), rfl, rfl, false, by decide +kernel, iteF ?_⟩
        refine ⟨_, rfl, _, _, rfl, rfl, _, rfl, ?_⟩
        rw [decide_eq_false (by omega : ¬ ((d : Nat) : Int) < 0)]
        exact iteF ⟨d, _, rfl, s1.trans (sNew hp), by simpa [bal] using hd⟩
      | o =>
        refine iteT ⟨_, rfl, by show 2 ≤ sizeLine; decide, fun p hp => ?_⟩
        refine ⟨p, _, rfl, .inr (SqT.of upd_same), rfl, rfl, true, by decide +kernel, iteT ?_⟩
        refine ⟨_, rfl, _, rfl, rfl, true, by decide +kernel, iteT ?_⟩
        refine ⟨_, _, rfl, rfl, ?_⟩
        refine ⟨_, rfl, _, _, rfl, rfl, _, rfl, ?_⟩
        rw [decide_eq_false (by omega : ¬ ((d : Nat) : Int) + 1 < 0)]
        exact iteF ⟨d + 1, _, rfl, s1.trans (sNew hp), by simpa [bal] using hd⟩
      | c =>
        cases d with
        | zero => simp [bal] at hd
        | succ d =>
          refine iteT ⟨_, rfl, by show 2 ≤ sizeLine; decide, fun p hp => ?_⟩
          refine ⟨p, _, rfl, .inr (SqT.of upd_same), rfl, rfl, true, by decide +kernel, iteT ?_⟩
          refine ⟨_, rfl, _, rfl, rfl, false, by decide +kernel, iteF ?_⟩
          refine ⟨_, rfl, _, _, rfl, rfl, ?_⟩
          refine ⟨_, rfl, _, _, rfl, rfl, _, rfl, ?_⟩
          have e : (((d + 1 : Nat) : Int) + -1) = ((d : Nat) : Int) := by omega
          show ite (decide ((((d + 1 : Nat) : Int) + -1) < 0) = true) _ _
          rw [decide_eq_false (by omega : ¬ (((d + 1 : Nat) : Int) + -1) < 0)]
          exact iteF ⟨d, _, by rw [← e]; rfl, s1.trans (sNew hp), by simpa [bal] using hd⟩
    · rintro σ H' ⟨d, v, rfl, s1, hd⟩
      rw [List.length_map, List.drop_length] at hd
      have e : d = 0 := by simpa [bal] using hd
      subst e
      exact ⟨_, rfl, rfl, k _ s1⟩
end
end My
end
section
set_option maxRecDepth 100000
set_option maxHeartbeats 4000000
namespace My
open PySem L2
section
variable {P : Program} {w : World} {K : PySem.W.Frag} {mg : Str → Option Value} {base : Heap} {A : Adr}
def spIsWord : Sp := fun vs H Q _ => ∃ (L : Nat) (a : Addr) (u : Word), vs = [.int L, .ref a] ∧ H a = some (.tup (u.map itV)) ∧ WOk L u ∧ ∀ H', Same H H' → Q (.bl true) H'
theorem ok_is_word (T : Txt K mg A) : FnOk P w K mg base CX0 3 A.is_word A.d_is_word ["letters", "value"] spIsWord := by
  have G_is_letter : FnOk P w K mg base CX0 1 A.is_letter A.d_is_letter ["item"] spIsLetter := ok_is_letter T
  have G_is_in : FnOk P w K mg base CX0 1 A.is_in A.d_is_in ["value", "least", "most"] spIsIn := ok_is_in T
  have G_are_branches : FnOk P w K mg base CX0 2 A.are_branches A.d_are_branches ["word"] (spBranches K) := ok_are_branches T
  refine T.F_is_word.ok sc_is_word (fun vs H Q E h => ?_) (fun cdv A' outer s H vs Q E hr h => ?_)
  · obtain ⟨L, a, u, rfl, _⟩ := h
    rfl
  · obtain ⟨L, a, u, rfl, hT, ok, k⟩ := h
    refine ⟨_, (pss_cons (ps_if (PW.pt (pw_or (pt_not (pt_val (pe_callB call_isi (by rfl) T.z_isinstance (by decide +kernel) (pa_cons (pv 1) (pa_cons (pe_bltn (v := .ty "tuple") (by rfl) T.z_tuple (by decide +kernel) rfl) pa_nil))))) (pw_or1 (pt_not (pt_chain op_le op_le pe_int (pe_callB call_len_seq (by rfl) T.z_len PySem.boot_len (pa_cons (pv 1) pa_nil)) (pe_globI (by rfl) T.c_MOST_WORD)))))) (pss_one (ps_ret pe_bl)) pss_nil)
    (pss_cons (ps_for PassesOwn.never rfl (pi_tup (pv 1)) (pg_name (i := 2) sc_is_word.nd rfl (Or.inl rfl))
      (pss_one (ps_if (pt_not (PW.pt (pw_or (pt_val (pe_call G_is_in (hr.mono (by decide)) (by rfl) T.m_is_in T.F_is_in.kp (b_is_in T) .nil pass0 (pa_cons (pv 2) (pa_cons pe_int (pa_cons (pe_op op_sub (pv 0) pe_int) pa_nil))))) (pw_or1 (PW.pt (pw_and (pt_val (pe_callB call_isi (by rfl) T.z_isinstance (by decide +kernel) (pa_cons (pv 2) (pa_cons (pe_bltn (v := .ty "str") (by rfl) T.z_str (by decide +kernel) rfl) pa_nil)))) (pw_and1 (pt_cmpR op_in_seq (pv 2) (pe_tup (pa_cons (pe_globS (by rfl) T.c_LEFT) (pa_cons (pe_globS (by rfl) T.c_RIGHT) (pa_cons (pe_globS (by rfl) T.c_OUT) (pa_cons (pe_globS (by rfl) T.c_BACK) pa_nil))))) rfl)))))))) (pss_one (ps_ret pe_bl)) pss_nil)))
    (pss_one (ps_ret (pe_and (pe_call G_are_branches (hr.mono (by decide)) (by rfl) T.m_are_branches T.F_are_branches.kp (b_are_branches T) .nil pass0 (pa_cons (pv 1) pa_nil)) (pe_one (pe_cmpR (op_neD hr.units) (pe_lc (own := [("item", 2)]) (g := gName 2)  rfl sc_is_word.nd (pi_tup (pv 1)) (blkOk_by (own := [("item", 2)]) (N := ["letters", "value", "item"]) (sc := defScope s_is_word) (by decide +kernel)) (fun _ _ _ _ _ => pg_name (i := 2) sc_is_word.nd rfl (Or.inl rfl)) (fun _ _ _ _ _ => (pts_one (pt_val (pe_call G_is_letter (hr.mono (by decide)) (by rfl) T.m_is_letter T.F_is_letter.kp (b_is_letter T) .nil pass0 (pa_cons (pv 2) pa_nil))))) (fun _ _ _ _ _ => (pv 2))) (pe_lst pa_nil) (nomark _)))))))), ?_⟩
    have e1 : decide ((1 : Int) ≤ (((u.map itV).length : Nat) : Int)) = true := by
      have := ok.pos
      rw [List.length_map]
      exact decide_eq_true (by omega)
    have e2 : decide ((((u.map itV).length : Nat) : Int) ≤ 40) = true := by
      have := ok.len
      rw [List.length_map]
      exact decide_eq_true (by omega)
    refine ⟨_, rfl, _, _, _, _, true, rfl, .ty "tuple", .base (.tup hT), kit_ty (by decide +kernel), true, rfl, iteF ?_⟩
    refine ⟨_, rfl, a, _, rfl, .inr (SqT.of hT), 1, _, rfl, rfl, true, congrArg V.bl e1, iteT ⟨_, _, rfl, rfl, true, congrArg V.bl e2, iteF ?_⟩⟩
    refine ⟨_, rfl, a, rfl, ⟨_, SqT.of hT⟩, for_tup (K := K) (a := a) (xs := u.map itV) (fun i σ H' => ∃ (v : Option V), σ = [some (.int L), some (.ref a), v] ∧ Same H H')
      ⟨none, rfl, Same.refl _⟩ (fun i σ H' _ ⟨_, _, s1⟩ => SqT.of (s1 _ _ hT)) ?_ ?_⟩
    · rintro i y σ H' hi ⟨v, rfl, s1⟩
      obtain ⟨x, hx, rfl⟩ := it_get hi
      cases x with
      | l n =>
        have hn : n < L := ok.lets n (List.mem_of_getElem? hx)
        have e3 : (decide ((0 : Int) ≤ (n : Nat)) && decide (((n : Nat) : Int) ≤ (L : Int) - 1)) = true := by
          rw [decide_eq_true (by omega), decide_eq_true (by omega)]
          rfl
        exact ⟨_, rfl, _, rfl, _, _, rfl, rfl, _, _, _, rfl, .inl ⟨n, rfl, true, congrArg V.bl e3, iteT (iteF ⟨_, rfl, s1⟩)⟩⟩
      | p =>
        refine ⟨_, rfl, _, rfl, _, _, rfl, rfl, _, _, _, rfl, .inr ⟨_, rfl, false, rfl, iteF ?_⟩⟩
        refine ⟨_, rfl, _, _, _, _, true, rfl, .ty "str", .base (.str "+"), kit_ty (by decide +kernel), true, rfl, iteT ?_⟩
        refine ⟨_, rfl, by show 4 ≤ sizeLine; decide, fun p hp => ?_⟩
        exact ⟨p, _, rfl, .inr (SqT.of upd_same), rfl, rfl, true, by decide +kernel, iteF ⟨_, rfl, s1.trans (sNew hp)⟩⟩
      | m =>
        refine ⟨_, rfl, _, rfl, _, _, rfl, rfl, _, _, _, rfl, .inr ⟨_, rfl, false, rfl, iteF ?_⟩⟩
        refine ⟨_, rfl, _, _, _, _, true, rfl, .ty "str", .base (.str "-"), kit_ty (by decide +kernel), true, rfl, iteT ?_⟩
        refine ⟨_, rfl, by show 4 ≤ sizeLine; decide, fun p hp => ?_⟩
        exact ⟨p, _, rfl, .inr (SqT.of upd_same), rfl, rfl, true, by decide +kernel, iteF ⟨_, rfl, s1.trans (sNew hp)⟩⟩
      | o =>
        refine ⟨_, rfl, _, rfl, _, _, rfl, rfl, _, _, _, rfl, .inr ⟨_, rfl, false, rfl, iteF ?_⟩⟩
        refine ⟨_, rfl, _, _, _, _, true, rfl, .ty "str", .base (.str "["), kit_ty (by decide +kernel), true, rfl, iteT ?_⟩
        refine ⟨_, rfl, by show 4 ≤ sizeLine; decide, fun p hp => ?_⟩
        exact ⟨p, _, rfl, .inr (SqT.of upd_same), rfl, rfl, true, by decide +kernel, iteF ⟨_, rfl, s1.trans (sNew hp)⟩⟩
      | c =>
        refine ⟨_, rfl, _, rfl, _, _, rfl, rfl, _, _, _, rfl, .inr ⟨_, rfl, false, rfl, iteF ?_⟩⟩
        refine ⟨_, rfl, _, _, _, _, true, rfl, .ty "str", .base (.str "]"), kit_ty (by decide +kernel), true, rfl, iteT ?_⟩
        refine ⟨_, rfl, by show 4 ≤ sizeLine; decide, fun p hp => ?_⟩
        exact ⟨p, _, rfl, .inr (SqT.of upd_same), rfl, rfl, true, by decide +kernel, iteF ⟨_, rfl, s1.trans (sNew hp)⟩⟩
    · rintro σ H1 ⟨v, rfl, s1⟩
      refine ⟨_, rfl, a, u, rfl, SqT.of (s1 _ _ hT), ok.bal, fun H2 s2 => ⟨true, rfl, iteT ?_⟩⟩
      have s12 := s1.trans s2
      refine ⟨_, rfl, a, rfl, ⟨_, SqT.of (s12 _ _ hT)⟩, fun D hD => lc_tup (K := K) (a := a) (xs := u.map itV) (fun i H' => Same H2 H' ∧ H' D = some (.lst (((u.take i).filter isL).map itV)))
        ⟨sNew hD, by rw [upd_same]; rfl⟩ (fun i H' _ ⟨s3, _⟩ => SqT.of (s3 _ _ (s12 _ _ hT))) ?_ ?_⟩
      · rintro i y H' hi ⟨s3, h3⟩
        obtain ⟨x, hx, rfl⟩ := it_get hi
        refine ⟨rfl, _, rfl, x, rfl, _, rfl, ?_⟩
        cases hl : isL x with
        | true =>
          refine iteT ⟨_, rfl, _, h3, small_lt ?_, sMut s3 hD, ?_⟩
          · have := List.length_filter_le isL (u.take i)
            have := ok.len
            rw [List.length_map]
            have : (u.take i).length ≤ u.length := List.length_take_le' ..
            omega
          · rw [upd_same, take_get hx, List.filter_append, List.map_append]
            simp [hl]
        | false =>
          refine iteF ⟨s3, ?_⟩
          rw [h3, take_get hx, List.filter_append]
          simp [hl]
      · rintro H3 ⟨s3, h3⟩
        refine ⟨Nat.zero_le _, fun q hq => ?_⟩
        have h4 : (upd H3 q (.lst [])) D = some (.lst ((u.filter isL).map itV)) := by
          rw [upd_ne (ne_of_none h3 hq), h3, List.length_map, List.take_length]
        obtain ⟨d, e, k1, k2, k3, k4, k5⟩ := cmpNil (K := K) (n := 0) (by decide) (SqL.of h4) (fun v hv => by
          obtain ⟨i, _, e⟩ := List.mem_map.mp hv
          rw [← e]
          exact dat_it 0 i) (SqL.of upd_same)
        refine ⟨d, e, k1, k2, k3, k4, ?_⟩
        have e5 : ((u.filter isL).map itV).isEmpty = false := by
          obtain ⟨n, hn⟩ := ok.has
          have hm : itV (.l n) ∈ (u.filter isL).map itV := List.mem_map.mpr ⟨_, List.mem_filter.mpr ⟨hn, rfl⟩, rfl⟩
          cases e : (u.filter isL).map itV with
          | nil => rw [e] at hm; simp at hm
          | cons _ _ => rfl
        rw [k5, e5]
        exact k _ ((s12.trans s3).trans (sNew hq))
def spNeedBook : Sp := fun vs H Q _ => ∃ (b : Addr) (ws : List Word) (st : Word), vs = [.ref b] ∧ BookAt H b ws st ∧ BOk ws st ∧ ∀ H', Same H H' → Q .non H'
theorem ok_need_book (T : Txt K mg A) : FnOk P w K mg base CX0 4 A.need_book A.d_need_book ["book"] spNeedBook := by
  have G_is_word : FnOk P w K mg base CX0 3 A.is_word A.d_is_word ["letters", "value"] spIsWord := ok_is_word T
  refine T.F_need_book.ok sc_need_book (fun vs H Q E h => ?_) (fun cdv A' outer s H vs Q E hr h => ?_)
  · obtain ⟨b, ws, st, rfl, _⟩ := h
    rfl
  · obtain ⟨b, ws, st, rfl, ⟨pw, ps, vs, h1, h2, h3, h4⟩, ok, k⟩ := h
    refine ⟨_, (pss_cons (ps_if (PW.pt (pw_or (pt_not (pt_val (pe_callB call_isi (by rfl) T.z_isinstance (by decide +kernel) (pa_cons (pv 0) (pa_cons (pe_bltn (v := .ty "tuple") (by rfl) T.z_tuple (by decide +kernel) rfl) pa_nil))))) (pw_or (pt_cmpR op_ne (pe_callB call_len_seq (by rfl) T.z_len PySem.boot_len (pa_cons (pv 0) pa_nil)) pe_int (nomark _)) (pw_or1 (pt_not (pt_val (pe_callB call_isi (by rfl) T.z_isinstance (by decide +kernel) (pa_cons (pe_ix ix_tup (pv 0) pe_int (fun _ _ => rfl)) (pa_cons (pe_bltn (v := .ty "tuple") (by rfl) T.z_tuple (by decide +kernel) rfl) pa_nil))))))))) (pss_one ps_never) pss_nil)
    (pss_cons (ps_if (pt_not (pt_chain op_le op_le pe_int (pe_callB call_len_seq (by rfl) T.z_len PySem.boot_len (pa_cons (pe_ix ix_tup (pv 0) pe_int (fun _ _ => rfl)) pa_nil)) (pe_globI (by rfl) T.c_MOST_LETTERS))) (pss_one ps_never) pss_nil)
    (pss_cons (ps_for PassesOwn.never rfl (pi_enumT (by rfl) T.z_enumerate (pa_cons (pe_ix ix_tup (pv 0) pe_int (fun _ _ => rfl)) pa_nil)) (pg_tup rfl (pgs_cons (pg_name (i := 1) sc_need_book.nd rfl (Or.inl rfl)) (pgs_cons (pg_name (i := 2) sc_need_book.nd rfl (Or.inl rfl)) pgs_nil)))
      (pss_one (ps_if (pt_not (pt_val (pe_call G_is_word (hr.mono (by decide)) (by rfl) T.m_is_word T.F_is_word.kp (b_is_word T) .nil pass0 (pa_cons (pe_callB call_len_seq (by rfl) T.z_len PySem.boot_len (pa_cons (pe_ix ix_tup (pv 0) pe_int (fun _ _ => rfl)) pa_nil)) (pa_cons (pv 2) pa_nil))))) (pss_one ps_never) pss_nil)))
    (pss_one (ps_if (pt_not (pt_val (pe_call G_is_word (hr.mono (by decide)) (by rfl) T.m_is_word T.F_is_word.kp (b_is_word T) .nil pass0 (pa_cons (pe_callB call_len_seq (by rfl) T.z_len PySem.boot_len (pa_cons (pe_ix ix_tup (pv 0) pe_int (fun _ _ => rfl)) pa_nil)) (pa_cons (pe_ix ix_tup (pv 0) pe_int (fun _ _ => rfl)) pa_nil))))) (pss_one ps_never) pss_nil))))), ?_⟩
    have e1 : decide ((1 : Int) ≤ ((vs.length : Nat) : Int)) = true := by
      have := ok.one
      rw [h3.len]
      exact decide_eq_true (by omega)
    have e2 : decide (((vs.length : Nat) : Int) ≤ 8) = true := by
      have := ok.eight
      rw [h3.len]
      exact decide_eq_true (by omega)
    refine ⟨_, rfl, _, _, _, _, true, rfl, .ty "tuple", .base (.tup h1), kit_ty (by decide +kernel), true, rfl, iteF ?_⟩
    refine ⟨_, rfl, b, _, rfl, .inr (SqT.of h1), rfl, false, ne_no rfl, iteF ?_⟩
    refine ⟨_, rfl, b, _, _, _, rfl, rfl, SqT.of h1, atI_nat (j := 0) rfl, _, _, _, _, true, rfl, .ty "tuple", .base (.tup h2), kit_ty (by decide +kernel), true, rfl, iteF ?_⟩
    refine ⟨_, rfl, b, _, _, _, rfl, rfl, SqT.of h1, atI_nat (j := 0) rfl, pw, _, rfl, .inr (SqT.of h2), 1, _, rfl, rfl, true, congrArg V.bl e1, iteT ⟨_, _, rfl, rfl, true, congrArg V.bl e2, iteF ?_⟩⟩
    refine ⟨_, rfl, b, _, _, _, rfl, rfl, SqT.of h1, atI_nat (j := 0) rfl, pw, vs, rfl, h2, for_enumT (a := pw) (xs := vs) (fun i σ H' => ∃ (v v' : Option V), σ = [some (.ref b), v, v'] ∧ Same H H')
      ⟨none, none, rfl, Same.refl _⟩ (fun i σ H' _ ⟨_, _, _, s1⟩ => s1 _ _ h2) ?_ ?_⟩
    · rintro i y σ H1 t H2 hi ⟨v, v', rfl, s1⟩ ht rfl
      obtain ⟨a, u, rfl, hu, ha⟩ := h3.get hi
      have s2 := s1.trans (sNew (o := .tup [.int (i : Nat), .ref a]) ht)
      refine ⟨t, _, rfl, SqT.of upd_same, rfl, _, _, rfl, _, _, rfl, rfl, ?_⟩
      refine ⟨_, rfl, b, _, _, _, rfl, rfl, SqT.of (s2 _ _ h1), atI_nat (j := 0) rfl, pw, _, rfl, .inr (SqT.of (s2 _ _ h2)), _, rfl, ?_⟩
      refine ⟨ws.length, a, u, by rw [h3.len]; rfl, s2 _ _ ha, ok.all u (List.mem_of_getElem? hu), fun H3 s3 => ⟨true, rfl, iteF ⟨_, _, rfl, s2.trans s3⟩⟩⟩
    · rintro σ H1 ⟨v, v', rfl, s1⟩
      refine ⟨_, rfl, b, _, _, _, rfl, rfl, SqT.of (s1 _ _ h1), atI_nat (j := 0) rfl, pw, _, rfl, .inr (SqT.of (s1 _ _ h2)), _, rfl, b, _, _, _, rfl, rfl, SqT.of (s1 _ _ h1), atI_nat (j := 1) rfl, ?_⟩
      exact ⟨ws.length, ps, st, by rw [h3.len]; rfl, s1 _ _ h4, ok.st, fun H3 s3 => ⟨true, rfl, iteF (k _ (s1.trans s3))⟩⟩
def spNeedNumber : Sp := fun vs H Q _ => ∃ (i lo hi : Int), vs = [.int i, .int lo, .int hi] ∧ lo ≤ i ∧ i ≤ hi ∧ Q .non H
theorem ok_need_number (T : Txt K mg A) : FnOk P w K mg base CX0 2 A.need_number A.d_need_number ["value", "least", "most"] spNeedNumber := by
  have G_is_in : FnOk P w K mg base CX0 1 A.is_in A.d_is_in ["value", "least", "most"] spIsIn := ok_is_in T
  refine T.F_need_number.ok sc_need_number (fun vs H Q E h => ?_) (fun cdv A' outer s H vs Q E hr h => ?_)
  · obtain ⟨i, lo, hi, rfl, _⟩ := h
    rfl
  · obtain ⟨i, lo, hi, rfl, h1, h2, k⟩ := h
    refine ⟨_, (pss_one (ps_if (pt_not (pt_val (pe_call G_is_in (hr.mono (by decide)) (by rfl) T.m_is_in T.F_is_in.kp (b_is_in T) .nil pass0 (pa_cons (pv 0) (pa_cons (pv 1) (pa_cons (pv 2) pa_nil)))))) (pss_one ps_never) pss_nil)), ?_⟩
    have e : (decide (lo ≤ i) && decide (i ≤ hi)) = true := by
      rw [decide_eq_true h1, decide_eq_true h2]
      rfl
    exact ⟨_, rfl, _, rfl, _, rfl, _, _, _, rfl, .inl ⟨i, rfl, true, congrArg V.bl e, iteF k⟩⟩
end
end My
end
section
set_option maxRecDepth 100000
set_option maxHeartbeats 4000000
namespace My
open PySem L2
def sumF (m : Int) (e : Addr) (t : Int) (w : Addr) (ar : Int) : List (Str × V) := [("many", .int m), ("end", .ref e), ("turns", .int t), ("ways", .ref w), ("area", .int ar)]
theorem sumF_put (m : Int) (e : Addr) (t : Int) (w : Addr) (ar : Int) : putF "area" (.int ar) (putF "ways" (.ref w) (putF "turns" (.int t) (putF "end" (.ref e) (putF "many" (.int m) [])))) = sumF m e t w ar := by kernel_rfl
/-- a Sum stands at a -/
def SumAt (K : PySem.W.Frag) (C : Addr) (H : Hp) (a : Addr) (s : S) : Prop := ∃ dx pe pw : Addr, H a = some (.ins C dx (sumF s.many pe s.t pw s.ar)) ∧ SqT K H pe [.int s.ex, .int s.ey] ∧ SqT K H pw [.int s.wx, .int s.wy]
theorem SumAt.same {K : PySem.W.Frag} {C : Addr} {H H' : Hp} {a : Addr} {s : S} (h : SumAt K C H a s) (e : Same H H') : SumAt K C H' a s := by
  obtain ⟨dx, pe, pw, h1, h2, h3⟩ := h
  exact ⟨dx, pe, pw, e _ _ h1, sTup e h2, sTup e h3⟩
def S.Sm (s : S) : Prop := ∃ M, s.Le M ∧ M < 2 ^ 7000
theorem mulW {i j : Int} {M N : Nat} (hi : i.natAbs ≤ M) (hM : M < 2 ^ 7000) (hj : j.natAbs ≤ N) (hN : N < 2 ^ 7000) : CMulW i j :=
  wide_mul (a := 7000) (b := 7000) (Nat.lt_of_le_of_lt hi hM) (Nat.lt_of_le_of_lt hj hN) (by decide) (by decide) (by decide)
section
variable {P : Program} {w : World} {K : PySem.W.Frag} {mg : Str → Option Value} {base : Heap} {A : Adr}
def spQuarters : Sp := fun vs H Q _ => ∃ (i : Item), vs = [itV i] ∧ (i = .p ∨ i = .m) ∧ Q (.int (if i = .p then 1 else 3)) H
theorem ok_quarters (T : Txt K mg A) : FnOk P w K mg base CX0 1 A.quarters A.d_quarters ["item"] spQuarters := by
  refine T.F_quarters.ok sc_quarters (fun vs H Q E h => ?_) (fun cdv A' outer s H vs Q E hr h => ?_)
  · obtain ⟨i, rfl, _⟩ := h
    rfl
  · obtain ⟨i, rfl, hi, k⟩ := h
    refine ⟨_, (pss_one (ps_ret (pe_ifExp (pt_cmpR op_eq (pv 0) (pe_globS (by rfl) T.c_LEFT) (nomark _)) pe_int pe_int))), ?_⟩
    rcases hi with rfl | rfl
    · exact ⟨_, rfl, rfl, true, by decide +kernel, iteT k⟩
    · exact ⟨_, rfl, rfl, false, by decide +kernel, iteF k⟩
def spTurned (K : PySem.W.Frag) : Sp := fun vs H Q _ => ∃ (a : Addr) (x y k : Int), vs = [.ref a, .int k] ∧ SqT K H a [.int x, .int y] ∧
  ∀ p H', Same H H' → H' p = some (.tup [.int (rx k x y), .int (ry k x y)]) → Q (.ref p) H'
theorem ok_turned (T : Txt K mg A) : FnOk P w K mg base CX0 1 A.turned A.d_turned ["place", "many"] (spTurned K) := by
  refine T.F_turned.ok sc_turned (fun vs H Q E h => ?_) (fun cdv A' outer s H vs Q E hr h => ?_)
  · obtain ⟨a, x, y, k, rfl, _⟩ := h
    rfl
  · obtain ⟨a, x, y, n, rfl, hT, k⟩ := h
    refine ⟨_, (pss_cons (ps_asg (pv 0) (pg_tup rfl (pgs_cons (pg_name (i := 2) sc_turned.nd rfl (Or.inl rfl)) (pgs_cons (pg_name (i := 3) sc_turned.nd rfl (Or.inl rfl)) pgs_nil))))
    (pss_one (ps_ret (pe_ix ix_tup (pe_tup (pa_cons (pe_tup (pa_cons (pv 2) (pa_cons (pv 3) pa_nil))) (pa_cons (pe_tup (pa_cons (pe_un un_neg (pv 3)) (pa_cons (pv 2) pa_nil))) (pa_cons (pe_tup (pa_cons (pe_un un_neg (pv 2)) (pa_cons (pe_un un_neg (pv 3)) pa_nil))) (pa_cons (pe_tup (pa_cons (pv 3) (pa_cons (pe_un un_neg (pv 2)) pa_nil))) pa_nil))))) (pe_op op_mod (pv 1) pe_int) (fun _ _ => rfl))))), ?_⟩
    refine ⟨_, rfl, a, _, rfl, hT, rfl, _, _, rfl, _, _, rfl, rfl, ?_⟩
    refine ⟨_, rfl, _, rfl, by show 2 ≤ sizeLine; decide, fun p1 n1 => ?_⟩
    refine ⟨_, rfl, y, rfl, _, rfl, by show 2 ≤ sizeLine; decide, fun p2 n2 => ?_⟩
    refine ⟨_, rfl, x, rfl, _, rfl, y, rfl, by show 2 ≤ sizeLine; decide, fun p3 n3 => ?_⟩
    refine ⟨_, rfl, _, rfl, x, rfl, by show 2 ≤ sizeLine; decide, fun p4 n4 => ?_⟩
    refine ⟨by show 4 ≤ sizeLine; decide, fun p n5 => ?_⟩
    have s5 := sNew (o := .tup [.ref p1, .ref p2, .ref p3, .ref p4]) n5
    have s4 := (sNew (o := .tup [.int y, .int (-x)]) n4).trans s5
    have s3 := (sNew (o := .tup [.int (-x), .int (-y)]) n3).trans s4
    have s2 := (sNew (o := .tup [.int (-y), .int x]) n2).trans s3
    have s1 := (sNew (o := .tup [.int x, .int y]) n1).trans s2
    rcases mod4 n with e | e | e | e
    · refine ⟨_, rfl, _, _, rfl, rfl, (by show (0 : Int) < 4; decide), p, _, _, .ref p1, rfl, rfl, SqT.of upd_same, at_of (j := 0) e rfl, k _ _ s1 ?_⟩
      rw [show rx n x y = x by simp [rx, e], show ry n x y = y by simp [ry, e]]
      exact s2 _ _ upd_same
    · refine ⟨_, rfl, _, _, rfl, rfl, (by show (0 : Int) < 4; decide), p, _, _, .ref p2, rfl, rfl, SqT.of upd_same, at_of (j := 1) e rfl, k _ _ s1 ?_⟩
      rw [show rx n x y = -y by simp [rx, e], show ry n x y = x by simp [ry, e]]
      exact s3 _ _ upd_same
    · refine ⟨_, rfl, _, _, rfl, rfl, (by show (0 : Int) < 4; decide), p, _, _, .ref p3, rfl, rfl, SqT.of upd_same, at_of (j := 2) e rfl, k _ _ s1 ?_⟩
      rw [show rx n x y = -x by simp [rx, e], show ry n x y = -y by simp [ry, e]]
      exact s4 _ _ upd_same
    · refine ⟨_, rfl, _, _, rfl, rfl, (by show (0 : Int) < 4; decide), p, _, _, .ref p4, rfl, rfl, SqT.of upd_same, at_of (j := 3) e rfl, k _ _ s1 ?_⟩
      rw [show rx n x y = y by simp [rx, e], show ry n x y = -x by simp [ry, e]]
      exact s5 _ _ upd_same
def spPlus (K : PySem.W.Frag) : Sp := fun vs H Q _ => ∃ (a b : Addr) (x y u v : Int), vs = [.ref a, .ref b] ∧ SqT K H a [.int x, .int y] ∧ SqT K H b [.int u, .int v] ∧
  ∀ p H', Same H H' → H' p = some (.tup [.int (x + u), .int (y + v)]) → Q (.ref p) H'
theorem ok_plus (T : Txt K mg A) : FnOk P w K mg base CX0 1 A.plus A.d_plus ["one", "other"] (spPlus K) := by
  refine T.F_plus.ok sc_plus (fun vs H Q E h => ?_) (fun cdv A' outer s H vs Q E hr h => ?_)
  · obtain ⟨a, b, x, y, u, v, rfl, _⟩ := h
    rfl
  · obtain ⟨a, b, x, y, u, v, rfl, h1, h2, k⟩ := h
    refine ⟨_, (pss_one (ps_ret (pe_tup (pa_cons (pe_op op_add (pe_ix ix_tup (pv 0) pe_int (fun _ _ => rfl)) (pe_ix ix_tup (pv 1) pe_int (fun _ _ => rfl))) (pa_cons (pe_op op_add (pe_ix ix_tup (pv 0) pe_int (fun _ _ => rfl)) (pe_ix ix_tup (pv 1) pe_int (fun _ _ => rfl))) pa_nil))))), ?_⟩
    refine ⟨_, rfl, a, _, _, _, rfl, rfl, h1, atI_nat (j := 0) rfl, _, rfl, b, _, _, _, rfl, rfl, h2, atI_nat (j := 0) rfl, _, _, rfl, rfl, ?_⟩
    refine ⟨_, rfl, a, _, _, _, rfl, rfl, h1, atI_nat (j := 1) rfl, _, rfl, b, _, _, _, rfl, rfl, h2, atI_nat (j := 1) rfl, _, _, rfl, rfl, ?_⟩
    exact ⟨by show 2 ≤ sizeLine; decide, fun p hp => k _ _ (sNew hp) upd_same⟩
def spSumInit (C : Addr) : Sp := fun vs H Q _ => ∃ (p dx : Addr) (m : Int) (e : Addr) (t : Int) (w : Addr) (ar : Int), vs = [.ref p, .int m, .ref e, .int t, .ref w, .int ar] ∧ H p = some (.ins C dx []) ∧
  ∀ H' : Hp, H' p = some (.ins C dx (sumF m e t w ar)) → (∀ b o, H b = some o → b ≠ p → H' b = some o) → Q .non H'
theorem ok_Sum_init (T : Txt K mg A) : FnOk P w K mg base CX0 1 A.Sum_init A.d_Sum_init ["self", "many", "end", "turns", "ways", "area"] (spSumInit A.Sum) := by
  refine T.F_Sum_init.ok sc_Sum_init (fun vs H Q E h => ?_) (fun cdv A' outer s H vs Q E hr h => ?_)
  · obtain ⟨p, dx, m, e, t, w, ar, rfl, _⟩ := h
    rfl
  · obtain ⟨p, dx, m, e, t, w, ar, rfl, hp, k⟩ := h
    refine ⟨_, (pss_cons (ps_fld (pv 0) (pv 1) rfl)
    (pss_cons (ps_fld (pv 0) (pv 2) rfl)
    (pss_cons (ps_fld (pv 0) (pv 3) rfl)
    (pss_cons (ps_fld (pv 0) (pv 4) rfl)
    (pss_one (ps_fld (pv 0) (pv 5) rfl)))))), ?_⟩
    refine ⟨_, rfl, _, rfl, p, A.Sum, dx, [], rfl, hp, T.cl_Sum, T.n_Sum_many, (by show 0 < 1000; decide), ?_⟩
    refine ⟨_, rfl, _, rfl, p, A.Sum, dx, _, rfl, upd_same, T.cl_Sum, T.n_Sum_end, (by show 1 < 1000; decide), ?_⟩
    refine ⟨_, rfl, _, rfl, p, A.Sum, dx, _, rfl, upd_same, T.cl_Sum, T.n_Sum_turns, (by show 2 < 1000; decide), ?_⟩
    refine ⟨_, rfl, _, rfl, p, A.Sum, dx, _, rfl, upd_same, T.cl_Sum, T.n_Sum_ways, (by show 3 < 1000; decide), ?_⟩
    refine ⟨_, rfl, _, rfl, p, A.Sum, dx, _, rfl, upd_same, T.cl_Sum, T.n_Sum_area, (by show 4 < 1000; decide), ?_⟩
    refine k _ (Eq.trans upd_same (congrArg (fun q => some (HO.ins A.Sum dx q)) (sumF_put m e t w ar))) fun b o e hb => ?_
    rw [upd_ne hb, upd_ne hb, upd_ne hb, upd_ne hb, upd_ne hb]
    exact e
/-- a new Sum -/
theorem madeSum {C : Addr} {H H1 : Hp} {x dx : Addr} {s : S} {pe pw : Addr} (nx : H x = none) (nd : H dx = none) (h : H1 x = some (.ins C dx (sumF s.many pe s.t pw s.ar)))
    (k : ∀ b o, (upd (upd H dx (.own x)) x (.ins C dx [])) b = some o → b ≠ x → H1 b = some o) (he : SqT K H pe [.int s.ex, .int s.ey]) (hw : SqT K H pw [.int s.wx, .int s.wy]) : Same H H1 ∧ SumAt K C H1 x s := by
  have s1 : Same H H1 := Same.made nx nd k
  exact ⟨s1, dx, pe, pw, h, sTup s1 he, sTup s1 hw⟩
def spNothing (K : PySem.W.Frag) (C : Addr) : Sp := fun vs H Q _ => vs = [] ∧ ∀ p H', Same H H' → SumAt K C H' p S.zero → Q (.ref p) H'
theorem ok_nothing (T : Txt K mg A) : FnOk P w K mg base CX0 3 A.nothing A.d_nothing [] (spNothing K A.Sum) := by
  have G_Sum_init : FnOk P w K mg base CX0 1 A.Sum_init A.d_Sum_init ["self", "many", "end", "turns", "ways", "area"] (spSumInit A.Sum) := ok_Sum_init T
  refine T.F_nothing.ok sc_nothing (fun vs H Q E h => ?_) (fun cdv A' outer s H vs Q E hr h => ?_)
  · obtain ⟨rfl, _⟩ := h
    rfl
  · obtain ⟨rfl, k⟩ := h
    refine ⟨_, (pss_one (ps_ret (pe_make T.mk_Sum G_Sum_init (hr.mono (by decide)) (by rfl) T.m_Sum (b_Sum_init T) .nil pass0 (pa_cons pe_int (pa_cons (pe_tup (pa_cons pe_int (pa_cons pe_int pa_nil))) (pa_cons pe_int (pa_cons (pe_tup (pa_cons pe_int (pa_cons pe_int pa_nil))) (pa_cons pe_int pa_nil)))))))), ?_⟩
    refine ⟨by show 2 ≤ sizeLine; decide, fun p1 n1 => ⟨by show 2 ≤ sizeLine; decide, fun p2 n2 => ?_⟩⟩
    intro x dx nx nd ne
    refine ⟨x, dx, 0, p1, 0, p2, 0, rfl, upd_same, fun H1 h1 k1 => ⟨rfl, ?_⟩⟩
    have s1 := sNew (o := .tup [.int 0, .int 0]) n1
    have s2 := sNew (o := .tup [.int 0, .int 0]) n2
    obtain ⟨s3, h3⟩ := madeSum (K := K) (s := S.zero) nx nd h1 k1 (SqT.of (s2 _ _ upd_same)) (SqT.of upd_same)
    exact k x H1 ((s1.trans s2).trans s3) h3
def spThen (K : PySem.W.Frag) (C : Addr) : Sp := fun vs H Q _ => ∃ (a b : Addr) (x y : S), vs = [.ref a, .ref b] ∧ SumAt K C H a x ∧ SumAt K C H b y ∧ x.Sm ∧ y.Sm ∧ ∀ p H', Same H H' → SumAt K C H' p (x.thn y) → Q (.ref p) H'
theorem ok_Sum_then (T : Txt K mg A) : FnOk P w K mg base CX0 3 A.Sum_then A.d_Sum_then ["self", "other"] (spThen K A.Sum) := by
  have G_Sum_init : FnOk P w K mg base CX0 1 A.Sum_init A.d_Sum_init ["self", "many", "end", "turns", "ways", "area"] (spSumInit A.Sum) := ok_Sum_init T
  have G_turned : FnOk P w K mg base CX0 1 A.turned A.d_turned ["place", "many"] (spTurned K) := ok_turned T
  have G_plus : FnOk P w K mg base CX0 1 A.plus A.d_plus ["one", "other"] (spPlus K) := ok_plus T
  refine T.F_Sum_then.ok sc_Sum_then (fun vs H Q E h => ?_) (fun cdv A' outer s H vs Q E hr h => ?_)
  · obtain ⟨a, b, x, y, rfl, _⟩ := h
    rfl
  · obtain ⟨a, b, x, y, rfl, ha, hb, ⟨M, hM, hM2⟩, ⟨N, hN, hN2⟩, k⟩ := h
    refine ⟨_, (pss_cons (ps_par (i := 2) (j := 3) rfl sc_Sum_then.nd rfl rfl (by decide) rfl rfl (pa_cons (pe_call G_turned (hr.mono (by decide)) (by rfl) T.m_turned T.F_turned.kp (b_turned T) .nil pass0 (pa_cons (pe_fld (pv 1) rfl) (pa_cons (pe_fld (pv 0) rfl) pa_nil))) (pa_cons (pe_call G_turned (hr.mono (by decide)) (by rfl) T.m_turned T.F_turned.kp (b_turned T) .nil pass0 (pa_cons (pe_fld (pv 1) rfl) (pa_cons (pe_fld (pv 0) rfl) pa_nil))) pa_nil)) (by rfl))
    (pss_cons (ps_set (i := 4) sc_Sum_then.nd rfl (Or.inl rfl) (pe_op op_sub (pe_op op_add (pe_op op_add (pe_fld (pv 0) rfl) (pe_fld (pv 1) rfl)) (pe_op op_mulW (pe_ix ix_tup (pe_fld (pv 0) rfl) pe_int (fun _ _ => rfl)) (pe_ix ix_tup (pv 3) pe_int (fun _ _ => rfl)))) (pe_op op_mulW (pe_ix ix_tup (pe_fld (pv 0) rfl) pe_int (fun _ _ => rfl)) (pe_ix ix_tup (pv 3) pe_int (fun _ _ => rfl)))))
    (pss_cons (ps_par (i := 5) (j := 6) rfl sc_Sum_then.nd rfl rfl (by decide) rfl rfl (pa_cons (pe_call G_plus (hr.mono (by decide)) (by rfl) T.m_plus T.F_plus.kp (b_plus T) .nil pass0 (pa_cons (pe_fld (pv 0) rfl) (pa_cons (pv 2) pa_nil))) (pa_cons (pe_op op_add (pe_fld (pv 0) rfl) (pe_fld (pv 1) rfl)) pa_nil)) (by rfl))
    (pss_one (ps_ret (pe_make T.mk_Sum G_Sum_init (hr.mono (by decide)) (by rfl) T.m_Sum (b_Sum_init T) .nil pass0 (pa_cons (pe_op op_add (pe_fld (pv 0) rfl) (pe_fld (pv 1) rfl)) (pa_cons (pv 5) (pa_cons (pv 6) (pa_cons (pe_call G_plus (hr.mono (by decide)) (by rfl) T.m_plus T.F_plus.kp (b_plus T) .nil pass0 (pa_cons (pe_fld (pv 0) rfl) (pa_cons (pv 3) pa_nil))) (pa_cons (pv 4) pa_nil))))))))))), ?_⟩
    obtain ⟨dxb, eb, wb, hb1, hb2, hb3⟩ := hb
    obtain ⟨dxa, ea, wa, ha1, ha2, ha3⟩ := ha
    refine ⟨_, rfl, b, A.Sum, dxb, _, _, rfl, hb1, T.cl_Sum, T.n_Sum_end, rfl, _, rfl, a, A.Sum, dxa, _, _, rfl, ha1, T.cl_Sum, T.n_Sum_turns, rfl, eb, y.ex, y.ey, x.t, rfl, hb2, fun p1 H1 s1 h1 => ?_⟩
    refine ⟨_, rfl, b, A.Sum, dxb, _, _, rfl, s1 _ _ hb1, T.cl_Sum, T.n_Sum_ways, rfl, _, rfl, a, A.Sum, dxa, _, _, rfl, s1 _ _ ha1, T.cl_Sum, T.n_Sum_turns, rfl, wb, y.wx, y.wy, x.t, rfl, sTup s1 hb3, fun p2 H2 s2 h2 => ?_⟩
    have s12 := s1.trans s2
    refine ⟨_, _, rfl, ?_⟩
    -- area
    refine ⟨_, rfl, a, A.Sum, dxa, _, _, rfl, s12 _ _ ha1, T.cl_Sum, T.n_Sum_area, rfl, _, rfl, b, A.Sum, dxb, _, _, rfl, s12 _ _ hb1, T.cl_Sum, T.n_Sum_area, rfl, _, _, rfl, rfl, ?_⟩
    refine ⟨_, rfl, a, A.Sum, dxa, _, _, rfl, s12 _ _ ha1, T.cl_Sum, T.n_Sum_end, rfl, ea, _, _, _, rfl, rfl, sTup s12 ha2, atI_nat (j := 0) rfl, _, rfl, p2, _, _, _, rfl, rfl, SqT.of h2, atI_nat (j := 1) rfl, _, _, rfl, rfl, mulW hM.1 hM2 (ry_abs _ _ _ hN.2.2.1 hN.2.2.2) hN2, _, _, rfl, rfl, ?_⟩
    refine ⟨_, rfl, a, A.Sum, dxa, _, _, rfl, s12 _ _ ha1, T.cl_Sum, T.n_Sum_end, rfl, ea, _, _, _, rfl, rfl, sTup s12 ha2, atI_nat (j := 1) rfl, _, rfl, p2, _, _, _, rfl, rfl, SqT.of h2, atI_nat (j := 0) rfl, _, _, rfl, rfl, mulW hM.2.1 hM2 (rx_abs _ _ _ hN.2.2.1 hN.2.2.2) hN2, _, _, rfl, rfl, ?_⟩
    -- end, turns
    refine ⟨_, rfl, a, A.Sum, dxa, _, _, rfl, s12 _ _ ha1, T.cl_Sum, T.n_Sum_end, rfl, _, rfl, ea, p1, x.ex, x.ey, _, _, rfl, sTup s12 ha2, SqT.of (s2 _ _ h1), fun p3 H3 s3 h3 => ?_⟩
    have s13 := s12.trans s3
    refine ⟨_, rfl, a, A.Sum, dxa, _, _, rfl, s13 _ _ ha1, T.cl_Sum, T.n_Sum_turns, rfl, _, rfl, b, A.Sum, dxb, _, _, rfl, s13 _ _ hb1, T.cl_Sum, T.n_Sum_turns, rfl, _, _, rfl, rfl, ?_⟩
    refine ⟨_, _, rfl, ?_⟩
    -- return
    refine ⟨_, rfl, a, A.Sum, dxa, _, _, rfl, s13 _ _ ha1, T.cl_Sum, T.n_Sum_many, rfl, _, rfl, b, A.Sum, dxb, _, _, rfl, s13 _ _ hb1, T.cl_Sum, T.n_Sum_many, rfl, _, _, rfl, rfl, ?_⟩
    refine ⟨_, rfl, _, rfl, ?_⟩
    refine ⟨_, rfl, a, A.Sum, dxa, _, _, rfl, s13 _ _ ha1, T.cl_Sum, T.n_Sum_ways, rfl, _, rfl, wa, p2, x.wx, x.wy, _, _, rfl, sTup s13 ha3, SqT.of (s3 _ _ h2), fun p4 H4 s4 h4 => ?_⟩
    refine ⟨_, rfl, ?_⟩
    intro o dx nx nd ne
    refine ⟨o, dx, _, p3, _, p4, _, rfl, upd_same, fun H5 h5 k5 => ⟨rfl, ?_⟩⟩
    obtain ⟨s5, q5⟩ := madeSum (K := K) (s := x.thn y) nx nd h5 k5 (SqT.of (s4 _ _ h3)) (SqT.of h4)
    exact k o H5 ((s13.trans s4).trans s5) q5
def spTurning (K : PySem.W.Frag) (C : Addr) : Sp := fun vs H Q _ => ∃ (a : Addr) (i : Item) (x : S), vs = [.ref a, itV i] ∧ (i = .p ∨ i = .m) ∧ SumAt K C H a x ∧ ∀ p H', Same H H' → SumAt K C H' p (x.turn (if i = .p then 1 else -1)) → Q (.ref p) H'
theorem ok_Sum_turning (T : Txt K mg A) : FnOk P w K mg base CX0 3 A.Sum_turning A.d_Sum_turning ["self", "item"] (spTurning K A.Sum) := by
  have G_Sum_init : FnOk P w K mg base CX0 1 A.Sum_init A.d_Sum_init ["self", "many", "end", "turns", "ways", "area"] (spSumInit A.Sum) := ok_Sum_init T
  have G_quarters : FnOk P w K mg base CX0 1 A.quarters A.d_quarters ["item"] spQuarters := ok_quarters T
  refine T.F_Sum_turning.ok sc_Sum_turning (fun vs H Q E h => ?_) (fun cdv A' outer s H vs Q E hr h => ?_)
  · obtain ⟨a, i, x, rfl, _⟩ := h
    rfl
  · obtain ⟨a, i, x, rfl, hi, ha, k⟩ := h
    refine ⟨_, (pss_cons (ps_set (i := 2) sc_Sum_turning.nd rfl (Or.inl rfl) (pe_op op_add (pe_fld (pv 0) rfl) (pe_ifExp (pt_cmpR op_eq (pe_call G_quarters (hr.mono (by decide)) (by rfl) T.m_quarters T.F_quarters.kp (b_quarters T) .nil pass0 (pa_cons (pv 1) pa_nil)) pe_int (nomark _)) pe_int (pe_un un_neg pe_int))))
    (pss_one (ps_ret (pe_make T.mk_Sum G_Sum_init (hr.mono (by decide)) (by rfl) T.m_Sum (b_Sum_init T) .nil pass0 (pa_cons (pe_fld (pv 0) rfl) (pa_cons (pe_fld (pv 0) rfl) (pa_cons (pv 2) (pa_cons (pe_fld (pv 0) rfl) (pa_cons (pe_fld (pv 0) rfl) pa_nil))))))))), ?_⟩
    obtain ⟨dxa, ea, wa, ha1, ha2, ha3⟩ := ha
    have fin : ∀ d : Int, (∀ p H', Same H H' → SumAt K A.Sum H' p (x.turn d) → Q (.ref p) H') → True := fun _ _ => trivial
    rcases hi with rfl | rfl
    · refine ⟨_, rfl, a, A.Sum, dxa, _, _, rfl, ha1, T.cl_Sum, T.n_Sum_turns, rfl, _, rfl, .p, rfl, .inl rfl, rfl, true, by decide +kernel, iteT ⟨_, _, rfl, rfl, ?_⟩⟩
      refine ⟨_, rfl, a, A.Sum, dxa, _, _, rfl, ha1, T.cl_Sum, T.n_Sum_many, rfl, _, rfl, a, A.Sum, dxa, _, _, rfl, ha1, T.cl_Sum, T.n_Sum_end, rfl, _, rfl, _, rfl, a, A.Sum, dxa, _, _, rfl, ha1, T.cl_Sum, T.n_Sum_ways, rfl, _, rfl, a, A.Sum, dxa, _, _, rfl, ha1, T.cl_Sum, T.n_Sum_area, rfl, ?_⟩
      intro o dx nx nd ne
      refine ⟨o, dx, _, ea, _, wa, _, rfl, upd_same, fun H5 h5 k5 => ⟨rfl, ?_⟩⟩
      obtain ⟨s5, q5⟩ := madeSum (K := K) (s := x.turn 1) nx nd h5 k5 ha2 ha3
      exact k o H5 s5 q5
    · refine ⟨_, rfl, a, A.Sum, dxa, _, _, rfl, ha1, T.cl_Sum, T.n_Sum_turns, rfl, _, rfl, .m, rfl, .inr rfl, rfl, false, by decide +kernel, iteF ⟨_, rfl, _, _, rfl, rfl, ?_⟩⟩
      refine ⟨_, rfl, a, A.Sum, dxa, _, _, rfl, ha1, T.cl_Sum, T.n_Sum_many, rfl, _, rfl, a, A.Sum, dxa, _, _, rfl, ha1, T.cl_Sum, T.n_Sum_end, rfl, _, rfl, _, rfl, a, A.Sum, dxa, _, _, rfl, ha1, T.cl_Sum, T.n_Sum_ways, rfl, _, rfl, a, A.Sum, dxa, _, _, rfl, ha1, T.cl_Sum, T.n_Sum_area, rfl, ?_⟩
      intro o dx nx nd ne
      refine ⟨o, dx, _, ea, _, wa, _, rfl, upd_same, fun H5 h5 k5 => ⟨rfl, ?_⟩⟩
      obtain ⟨s5, q5⟩ := madeSum (K := K) (s := x.turn (-1)) nx nd h5 k5 ha2 ha3
      exact k o H5 s5 q5
def spBackAt (K : PySem.W.Frag) (C : Addr) : Sp := fun vs H Q _ => ∃ (a b : Addr) (x y : S), vs = [.ref a, .ref b] ∧ SumAt K C H a x ∧ SumAt K C H b y ∧ ∀ p H', Same H H' → SumAt K C H' p (x.back y) → Q (.ref p) H'
theorem ok_Sum_back_at (T : Txt K mg A) : FnOk P w K mg base CX0 3 A.Sum_back_at A.d_Sum_back_at ["self", "stand"] (spBackAt K A.Sum) := by
  have G_Sum_init : FnOk P w K mg base CX0 1 A.Sum_init A.d_Sum_init ["self", "many", "end", "turns", "ways", "area"] (spSumInit A.Sum) := ok_Sum_init T
  refine T.F_Sum_back_at.ok sc_Sum_back_at (fun vs H Q E h => ?_) (fun cdv A' outer s H vs Q E hr h => ?_)
  · obtain ⟨a, b, x, y, rfl, _⟩ := h
    rfl
  · obtain ⟨a, b, x, y, rfl, ⟨dxa, ea, wa, ha1, ha2, ha3⟩, ⟨dxb, eb, wb, hb1, hb2, hb3⟩, k⟩ := h
    refine ⟨_, (pss_one (ps_ret (pe_make T.mk_Sum G_Sum_init (hr.mono (by decide)) (by rfl) T.m_Sum (b_Sum_init T) .nil pass0 (pa_cons (pe_fld (pv 0) rfl) (pa_cons (pe_fld (pv 1) rfl) (pa_cons (pe_fld (pv 1) rfl) (pa_cons (pe_fld (pv 0) rfl) (pa_cons (pe_fld (pv 0) rfl) pa_nil)))))))), ?_⟩
    refine ⟨_, rfl, a, A.Sum, dxa, _, _, rfl, ha1, T.cl_Sum, T.n_Sum_many, rfl, _, rfl, b, A.Sum, dxb, _, _, rfl, hb1, T.cl_Sum, T.n_Sum_end, rfl, _, rfl, b, A.Sum, dxb, _, _, rfl, hb1, T.cl_Sum, T.n_Sum_turns, rfl, _, rfl, a, A.Sum, dxa, _, _, rfl, ha1, T.cl_Sum, T.n_Sum_ways, rfl, _, rfl, a, A.Sum, dxa, _, _, rfl, ha1, T.cl_Sum, T.n_Sum_area, rfl, ?_⟩
    intro o dx nx nd ne
    refine ⟨o, dx, _, eb, _, wa, _, rfl, upd_same, fun H5 h5 k5 => ⟨rfl, ?_⟩⟩
    obtain ⟨s5, q5⟩ := madeSum (K := K) (s := x.back y) nx nd h5 k5 hb2 ha3
    exact k o H5 s5 q5
end
end My
end
section
set_option maxRecDepth 100000
set_option maxHeartbeats 4000000
namespace My
open PySem L2
/-! ### what is no list is kept -/
def NL (H H' : Hp) : Prop := ∀ b o, H b = some o → (∀ xs, o ≠ .lst xs) → H' b = some o
theorem nlS {H H' : Hp} (s : Same H H') : NL H H' := fun b o h _ => s b o h
theorem NL.trans {H H1 H2 : Hp} (a : NL H H1) (b : NL H1 H2) : NL H H2 := fun c o h n => b c o (a c o h n) n
theorem nlU {H : Hp} {p : Addr} {xs ys : List V} (h : H p = some (.lst xs)) : NL H (upd H p (.lst ys)) := fun b o hb n => by
  have e : b ≠ p := fun z => by
    rw [z, h] at hb
    exact n xs (Option.some.inj hb).symm
  rw [upd_ne e]
  exact hb
theorem nlTup {K : PySem.W.Frag} {H H' : Hp} {a : Addr} {xs : List V} (s : NL H H') (h : SqT K H a xs) : SqT K H' a xs := by
  rcases h with (h | ⟨o, h⟩) | h
  · exact .inl (.inl (s _ _ h fun _ z => by cases z))
  · exact .inl (.inr ⟨o, s _ _ h fun _ z => by cases z⟩)
  · exact .inr h
theorem SumAt.nl {K : PySem.W.Frag} {C : Addr} {H H' : Hp} {a : Addr} {s : S} (h : SumAt K C H a s) (e : NL H H') : SumAt K C H' a s := by
  obtain ⟨dx, pe, pw, h1, h2, h3⟩ := h
  exact ⟨dx, pe, pw, e _ _ h1 fun _ z => (by cases z), nlTup e h2, nlTup e h3⟩
/-- the sums that stand at vs -/
def SumsAt (K : PySem.W.Frag) (C : Addr) (H : Hp) (vs : List V) (row : List S) : Prop := vs.length = row.length ∧ ∀ (i : Nat) (s : S), row[i]? = some s → ∃ a, vs[i]? = some (.ref a) ∧ SumAt K C H a s
section
variable {K : PySem.W.Frag} {C : Addr} {H H' : Hp} {vs : List V} {row : List S}
theorem SumsAt.nl (h : SumsAt K C H vs row) (e : NL H H') : SumsAt K C H' vs row := ⟨h.1, fun i s hi => let ⟨a, h1, h2⟩ := h.2 i s hi; ⟨a, h1, h2.nl e⟩⟩
theorem SumsAt.nil : SumsAt K C H [] [] := ⟨rfl, fun i s h => by simp at h⟩
theorem SumsAt.app {v : V} {s : S} (h : SumsAt K C H vs row) (hv : ∃ a, v = .ref a ∧ SumAt K C H a s) : SumsAt K C H (vs ++ [v]) (row ++ [s]) := by
  refine ⟨by simp [h.1], fun i t hi => ?_⟩
  by_cases hl : i < row.length
  · rw [List.getElem?_append_left hl] at hi
    obtain ⟨a, h1, h2⟩ := h.2 i t hi
    exact ⟨a, by rw [List.getElem?_append_left (by rw [h.1]; exact hl)]; exact h1, h2⟩
  · have hle : row.length ≤ i := by omega
    rw [List.getElem?_append_right hle] at hi
    obtain ⟨a, e, ha⟩ := hv
    by_cases h0 : i - row.length = 0
    · rw [h0] at hi
      have et : s = t := Option.some.inj hi
      subst et
      refine ⟨a, ?_, ha⟩
      rw [List.getElem?_append_right (by rw [h.1]; exact hle), h.1, h0, e]
      rfl
    · have : 1 ≤ i - row.length := by omega
      simp [List.getElem?_eq_none (l := [s]) (i := i - row.length) (by simpa using this)] at hi
theorem SumsAt.pop {s : S} (h : SumsAt K C H vs (row ++ [s])) : (∃ a, vs[vs.length - 1]? = some (.ref a) ∧ SumAt K C H a s) ∧ SumsAt K C H vs.dropLast row := by
  have hl : vs.length = row.length + 1 := by simpa using h.1
  refine ⟨?_, by simp [hl], fun i t hi => ?_⟩
  · obtain ⟨a, h1, h2⟩ := h.2 row.length s (by simp)
    refine ⟨a, ?_, h2⟩
    rw [hl]
    exact h1
  · have hlt : i < row.length := (List.getElem?_eq_some_iff.mp hi).1
    obtain ⟨a, h1, h2⟩ := h.2 i t (by rw [List.getElem?_append_left hlt]; exact hi)
    refine ⟨a, ?_, h2⟩
    rw [List.getElem?_dropLast, if_pos (by omega)]
    exact h1
end
theorem atI_neg1 {α : Type} {xs : List α} {k : Nat} {v : α} (hl : xs.length = k + 1) (h : xs[k]? = some v) : atI xs (-1) = some v := by
  unfold atI ixN
  rw [if_neg (by decide), if_pos (by omega)]
  have e : ((-1 : Int) + (xs.length : Nat)).toNat = k := by omega
  show xs[((-1 : Int) + (xs.length : Nat)).toNat]? = some v
  rw [e]
  exact h
theorem run_bal {f : Nat → S} : ∀ (w : Word) (s : S) (st : List S) (v : Word), bal st.length (w ++ v) = true → bal (run f (s, st) w).2.length v = true
  | [], s, st, v, h => h
  | .l n :: w, s, st, v, h => run_bal w _ st v (by simpa [bal] using h)
  | .p :: w, s, st, v, h => run_bal w _ st v (by simpa [bal] using h)
  | .m :: w, s, st, v, h => run_bal w _ st v (by simpa [bal] using h)
  | .o :: w, s, st, v, h => run_bal w s (s :: st) v (by simpa [bal] using h)
  | .c :: w, s, [], v, h => by simp [bal] at h
  | .c :: w, s, g :: st, v, h => run_bal w _ st v (by simpa [bal] using h)
theorem run_take {f : Nat → S} {x : S × List S} {w : Word} {i : Nat} {y : Item} (h : w[i]? = some y) : run f x (w.take (i + 1)) = step f (run f x (w.take i)) y := by
  rw [take_get h, run_append]
  rfl
theorem run_len {f : Nat → S} : ∀ (w : Word) (s : S) (st : List S), (run f (s, st) w).2.length ≤ st.length + w.length
  | [], s, st => Nat.le_refl _
  | .l n :: w, s, st => by have := run_len (f := f) w (s.thn (f n)) st; simp only [List.length_cons]; show (run f (s.thn (f n), st) w).2.length ≤ _; omega
  | .p :: w, s, st => by have := run_len (f := f) w (s.turn 1) st; simp only [List.length_cons]; show (run f (s.turn 1, st) w).2.length ≤ _; omega
  | .m :: w, s, st => by have := run_len (f := f) w (s.turn (-1)) st; simp only [List.length_cons]; show (run f (s.turn (-1), st) w).2.length ≤ _; omega
  | .o :: w, s, st => by have := run_len (f := f) w s (s :: st); simp only [List.length_cons] at *; show (run f (s, s :: st) w).2.length ≤ _; omega
  | .c :: w, s, [] => by have := run_len (f := f) w s []; simp only [List.length_cons] at *; show (run f (s, []) w).2.length ≤ _; omega
  | .c :: w, s, g :: st => by have := run_len (f := f) w (s.back g) st; simp only [List.length_cons] at *; show (run f (s.back g, st) w).2.length ≤ _; omega
section
variable {P : Program} {w : World} {K : PySem.W.Frag} {mg : Str → Option Value} {base : Heap} {A : Adr}
def spJoined (K : PySem.W.Frag) (C : Addr) : Sp := fun vs H Q _ => ∃ (a b : Addr) (us : List V) (row : List S) (u : Word) (M : Nat), vs = [.ref a, .ref b] ∧ H a = some (.lst us) ∧ SumsAt K C H us row ∧ SqT K H b (u.map itV) ∧
  lets row.length u ∧ bal 0 u = true ∧ u.length ≤ 100000 ∧ (∀ s ∈ row, s.Le M) ∧ M < 2 ^ 7000 ∧ u.length * M < 2 ^ 7000 ∧ ∀ p H', Same H H' → SumAt K C H' p (joined (fOf row) u) → Q (.ref p) H'
theorem ok_joined (T : Txt K mg A) : FnOk P w K mg base CX0 4 A.joined A.d_joined ["sums", "word"] (spJoined K A.Sum) := by
  have G_is_letter : FnOk P w K mg base CX0 1 A.is_letter A.d_is_letter ["item"] spIsLetter := ok_is_letter T
  have G_nothing : FnOk P w K mg base CX0 3 A.nothing A.d_nothing [] (spNothing K A.Sum) := ok_nothing T
  have G_Sum_then : FnOk P w K mg base CX0 3 A.Sum_then A.d_Sum_then ["self", "other"] (spThen K A.Sum) := ok_Sum_then T
  have G_Sum_turning : FnOk P w K mg base CX0 3 A.Sum_turning A.d_Sum_turning ["self", "item"] (spTurning K A.Sum) := ok_Sum_turning T
  have G_Sum_back_at : FnOk P w K mg base CX0 3 A.Sum_back_at A.d_Sum_back_at ["self", "stand"] (spBackAt K A.Sum) := ok_Sum_back_at T
  refine T.F_joined.ok sc_joined (fun vs H Q E h => ?_) (fun cdv A' outer s H vs Q E hr h => ?_)
  · obtain ⟨a, b, us, row, u, M, rfl, _⟩ := h
    rfl
  · obtain ⟨a, b, us, row, u, M, rfl, ha, hus, hb, hlt, hbal, hlen, hM, hM0, hM2, k⟩ := h
    refine ⟨_, (pss_cons (ps_par (i := 2) (j := 3) rfl sc_joined.nd rfl rfl (by decide) rfl rfl (pa_cons (pe_call0 G_nothing (hr.mono (by decide)) (by rfl) T.m_nothing T.F_nothing.kp (b_nothing T) .nil pass0) (pa_cons (pe_lst pa_nil) pa_nil)) (by rfl))
    (pss_cons (ps_for PassesOwn.never rfl (pi_tup (pv 1)) (pg_name (i := 4) sc_joined.nd rfl (Or.inl rfl))
      (pss_one (ps_if (pt_val (pe_call G_is_letter (hr.mono (by decide)) (by rfl) T.m_is_letter T.F_is_letter.kp (b_is_letter T) .nil pass0 (pa_cons (pv 4) pa_nil))) (pss_one (ps_set (i := 2) sc_joined.nd rfl (Or.inl rfl) (pe_meth (pv 2) T.cl_Sum T.me_Sum_then G_Sum_then (hr.mono (by decide)) (b_Sum_then T) .nil pass0 (pa_cons (pe_ix ix_list (pv 0) (pv 4) (fun _ _ => rfl)) pa_nil)))) (pss_one (ps_if (pt_cmpR op_eq (pv 4) (pe_globS (by rfl) T.c_OUT) (nomark _)) (pss_one (ps_expr (pe_bm PySem.F.plainAttrs_list PySem.F.slot_list_append PySem.F.type_list_append mt_append (pv 3) (pa_cons (pv 2) pa_nil)))) (pss_one (ps_if (pt_cmpR op_eq (pv 4) (pe_globS (by rfl) T.c_BACK) (nomark _)) (pss_one (ps_set (i := 2) sc_joined.nd rfl (Or.inl rfl) (pe_meth (pv 2) T.cl_Sum T.me_Sum_back_at G_Sum_back_at (hr.mono (by decide)) (b_Sum_back_at T) .nil pass0 (pa_cons (pe_bm0 PySem.F.plainAttrs_list PySem.F.slot_list_pop PySem.F.type_list_pop mt_pop (pv 3)) pa_nil)))) (pss_one (ps_set (i := 2) sc_joined.nd rfl (Or.inl rfl) (pe_meth (pv 2) T.cl_Sum T.me_Sum_turning G_Sum_turning (hr.mono (by decide)) (b_Sum_turning T) .nil pass0 (pa_cons (pv 4) pa_nil)))))))))))
    (pss_one (ps_ret (pv 2))))), ?_⟩
    refine ⟨rfl, fun f0 H1 s1 hf0 => ⟨Nat.zero_le _, fun ps nps => ⟨_, _, rfl, ?_⟩⟩⟩
    have nps0 : H ps = none := s1.free nps
    have hf : ∀ n, (fOf row n).Le M := fOf_le hM
    refine ⟨_, rfl, b, rfl, ⟨_, sTup (s1.trans (sNew nps)) hb⟩, for_tup (K := K) (a := b) (xs := u.map itV) (fun i σ H' => ∃ (fp : Addr) (v : Option V) (st : List V), σ = [some (.ref a), some (.ref b), some (.ref fp), some (.ref ps), v] ∧ Same H H' ∧
        SumAt K A.Sum H' fp (run (fOf row) (S.zero, []) (u.take i)).1 ∧ H' ps = some (.lst st) ∧ SumsAt K A.Sum H' st (run (fOf row) (S.zero, []) (u.take i)).2.reverse)
      ⟨f0, none, [], rfl, s1.trans (sNew nps), hf0.nl (nlS (sNew nps)), upd_same, SumsAt.nil⟩ (fun i σ H' _ ⟨_, _, _, _, s2, _⟩ => sTup s2 hb) ?_ ?_⟩
    · rintro i y σ H' hi ⟨fp, v, st, rfl, s2, hfp, hst, hss⟩
      obtain ⟨x, hx, rfl⟩ := it_get hi
      have hiu : i < u.length := (List.getElem?_eq_some_iff.mp hx).1
      have sm : (run (fOf row) (S.zero, []) (u.take i)).1.Sm := by
        refine ⟨_, run_le0 hf (u.take i), Nat.lt_of_le_of_lt (Nat.mul_le_mul_right _ ?_) hM2⟩
        exact List.length_take_le' ..
      have hbl : bal (run (fOf row) (S.zero, []) (u.take i)).2.length (x :: u.drop (i + 1)) = true := by
        refine run_bal (u.take i) S.zero [] _ ?_
        rw [← drop_get hx, List.take_append_drop]
        exact hbal
      have hsl : st.length ≤ 100000 := by
        have h1 := hss.1
        have h2 := run_len (f := fOf row) (u.take i) S.zero []
        have h3 : (u.take i).length ≤ u.length := List.length_take_le' ..
        rw [List.length_reverse] at h1
        simp only [List.length_nil] at h2
        omega
      have er := run_take (f := fOf row) (x := (S.zero, [])) hx
      generalize run (fOf row) (S.zero, []) (u.take i) = r at *
      obtain ⟨rs, rst⟩ := r
      simp only at hfp hss sm hbl
      obtain ⟨dxf, ef, wf, hf1, hf2, hf3⟩ := id hfp
      refine ⟨_, rfl, x, rfl, _, rfl, ?_⟩
      cases x with
      | l n =>
        have hn : n < row.length := hlt n (List.mem_of_getElem? hx)
        obtain ⟨b', hb1, hb2⟩ := hus.2 n (fOf row n) (by unfold fOf; simp [List.getD_eq_getElem?_getD, hn])
        refine iteT ⟨_, rfl, fp, dxf, _, rfl, hf1, rfl, _, rfl, _, rfl, a, us, _, .ref b', rfl, rfl, SqL.of (s2 _ _ ha), atI_nat hb1, ?_⟩
        refine ⟨fp, b', rs, fOf row n, rfl, hfp, hb2.nl (nlS s2), sm, ⟨M, hf n, hM0⟩, fun p H2 s3 hp => ?_⟩
        rw [er]
        exact ⟨p, _, st, rfl, s2.trans s3, hp, s3 _ _ hst, hss.nl (nlS s3)⟩
      | p =>
        refine iteF ⟨_, rfl, rfl, false, by decide +kernel, iteF ⟨_, rfl, rfl, false, by decide +kernel, iteF ?_⟩⟩
        refine ⟨_, rfl, fp, dxf, _, rfl, hf1, rfl, _, rfl, fp, .p, rs, rfl, .inl rfl, hfp, fun p H2 s3 hp => ?_⟩
        rw [er]
        exact ⟨p, _, st, rfl, s2.trans s3, hp, s3 _ _ hst, hss.nl (nlS s3)⟩
      | m =>
        refine iteF ⟨_, rfl, rfl, false, by decide +kernel, iteF ⟨_, rfl, rfl, false, by decide +kernel, iteF ?_⟩⟩
        refine ⟨_, rfl, fp, dxf, _, rfl, hf1, rfl, _, rfl, fp, .m, rs, rfl, .inr rfl, hfp, fun p H2 s3 hp => ?_⟩
        rw [er]
        exact ⟨p, _, st, rfl, s2.trans s3, hp, s3 _ _ hst, hss.nl (nlS s3)⟩
      | o =>
        refine iteF ⟨_, rfl, rfl, true, by decide +kernel, iteT ?_⟩
        refine ⟨_, rfl, .inl ⟨rfl, _, SqL.of hst⟩, _, rfl, ps, st, _, rfl, rfl, hst, small_lt (by omega), ?_⟩
        rw [er]
        have q := nlU (ys := st ++ [.ref fp]) hst
        refine ⟨fp, _, st ++ [.ref fp], rfl, sMut s2 nps0, hfp.nl q, upd_same, ?_⟩
        show SumsAt K A.Sum _ _ (rs :: rst).reverse
        rw [List.reverse_cons]
        exact (hss.nl q).app ⟨fp, rfl, hfp.nl q⟩
      | c =>
        cases rst with
        | nil => simp [bal] at hbl
        | cons g rst =>
          rw [List.reverse_cons] at hss
          obtain ⟨⟨g', hg1, hg2⟩, hss'⟩ := hss.pop
          refine iteF ⟨_, rfl, rfl, false, by decide +kernel, iteF ⟨_, rfl, rfl, true, by decide +kernel, iteT ?_⟩⟩
          have q := nlU (ys := st.dropLast) hst
          refine ⟨_, rfl, fp, dxf, _, rfl, hf1, rfl, _, rfl, .inl ⟨rfl, _, SqL.of hst⟩, ps, st, .ref g', rfl, rfl, hst, hg1, ?_⟩
          refine ⟨fp, g', rs, g, rfl, hfp.nl q, hg2.nl q, fun p H2 s3 hp => ?_⟩
          rw [er]
          exact ⟨p, _, st.dropLast, rfl, (sMut s2 nps0).trans s3, hp, s3 _ _ upd_same, (hss'.nl q).nl (nlS s3)⟩
    · rintro σ H' ⟨fp, v, st, rfl, s2, hfp, hst, hss⟩
      rw [List.length_map, List.take_length] at hfp
      exact ⟨_, rfl, k fp H' s2 hfp⟩
def ageF (b r : Addr) : List (Str × V) := [("book", .ref b), ("rows", .ref r)]
theorem ageF_put (b r : Addr) : putF "rows" (.ref r) (putF "book" (.ref b) []) = ageF b r := by kernel_rfl
def RowAt (K : PySem.W.Frag) (C : Addr) (H : Hp) (v : V) (row : List S) : Prop := ∃ a us, v = .ref a ∧ H a = some (.lst us) ∧ SumsAt K C H us row
def RowsAt (K : PySem.W.Frag) (C : Addr) (H : Hp) (rvs : List V) (ws : List Word) (n : Nat) : Prop := rvs.length = n + 1 ∧ ∀ i, i ≤ n → ∃ v, rvs[i]? = some v ∧ RowAt K C H v (rows ws i)
theorem RowAt.same {C : Addr} {H H' : Hp} {v : V} {row : List S} (h : RowAt K C H v row) (s : Same H H') : RowAt K C H' v row := by
  obtain ⟨a, us, e, h1, h2⟩ := h
  exact ⟨a, us, e, s _ _ h1, h2.nl (nlS s)⟩
/-- rows are kept where what is kept is all but one object that is no list of theirs -/
theorem RowAt.but {C : Addr} {H H' : Hp} {v : V} {row : List S} {q : Addr} (h : RowAt K C H v row) (s : ∀ b o, H b = some o → b ≠ q → H' b = some o) (n : NL H H') (hv : v ≠ .ref q) : RowAt K C H' v row := by
  obtain ⟨a, us, e, h1, h2⟩ := h
  exact ⟨a, us, e, s _ _ h1 fun z => hv (by rw [e, z]), h2.nl n⟩
def AgesAt (K : PySem.W.Frag) (A : Adr) (H : Hp) (p b : Addr) (ws : List Word) (n : Nat) : Prop := ∃ (dx pr : Addr) (rvs : List V), H p = some (.ins A.Ages dx (ageF b pr)) ∧ H pr = some (.lst rvs) ∧ RowsAt K A.Sum H rvs ws n
end
end My
namespace My
open PySem L2
theorem pe_fldK {X : Cx} (K : PySem.W.Frag) {e : Expr} {ta : TE} {f : Str} {pos : Pos} (h : X.K = K) (he : PE X e ta) (hb : attributeBase e f X.env (eval e X.env) = eval e X.env) : PE X (.Attribute e f pos) (tFld K ta f) := by
  subst h
  exact pe_fld he hb
theorem ix_listK {X : Cx} (K : PySem.W.Frag) (h : X.K = K) : IxR X (rIxL K) := by
  subst h
  exact ix_list
theorem ix_tupK {X : Cx} (K : PySem.W.Frag) (h : X.K = K) : IxR X (rIxT K) := by
  subst h
  exact ix_tup
end My
end
section
set_option maxRecDepth 100000
set_option maxHeartbeats 4000000
namespace My
open PySem L2
/-- all but what stands at r is kept -/
def SameX (r : Addr) (H H' : Hp) : Prop := ∀ b o, H b = some o → b ≠ r → H' b = some o
section
variable {r q : Addr} {H H1 H2 : Hp} {o : HO}
theorem SameX.refl (r : Addr) (H : Hp) : SameX r H H := fun _ _ h _ => h
theorem SameX.trans (a : SameX r H H1) (b : SameX r H1 H2) : SameX r H H2 := fun c u h n => b c u (a c u h n) n
theorem SameX.of (s : Same H H1) : SameX r H H1 := fun c u h _ => s c u h
theorem SameX.self (a : SameX r H H1) : SameX r H (upd H1 r o) := fun c u h n => by
  rw [upd_ne n]
  exact a c u h n
theorem SameX.mut (a : SameX r H H1) (h : H q = none) : SameX r H (upd H1 q o) := fun c u hc n => by
  rw [upd_ne (ne_of_none hc h)]
  exact a c u hc n
theorem SameX.free (a : SameX r H H1) (hr : q ≠ r) (h : H1 q = none) : H q = none := by
  cases e : H q with
  | none => rfl
  | some u =>
    rw [a q u e hr] at h
    cases h
theorem SameX.same (a : SameX r H H1) (h : H r = none) : Same H H1 := fun c u hc => a c u hc (ne_of_none hc h)
end
section
variable {P : Program} {w : World} {K : PySem.W.Frag} {mg : Str → Option Value} {base : Heap} {A : Adr}
def spAgesInit (K : PySem.W.Frag) (A : Adr) : Sp := fun vs H Q _ => ∃ (p dx b : Addr) (ws : List Word) (st : Word) (n : Nat), vs = [.ref p, .ref b, .int n] ∧ H p = some (.ins A.Ages dx []) ∧ BookAt H b ws st ∧ BOk ws st ∧ n ≤ 1000 ∧
  ∀ H', SameX p H H' → AgesAt K A H' p b ws n → Q .non H'
theorem ok_Ages_init (T : Txt K mg A) : FnOk P w K mg base CX0 5 A.Ages_init A.d_Ages_init ["self", "book", "last"] (spAgesInit K A) := by
  have G_Sum_init : FnOk P w K mg base CX0 1 A.Sum_init A.d_Sum_init ["self", "many", "end", "turns", "ways", "area"] (spSumInit A.Sum) := ok_Sum_init T
  have G_joined : FnOk P w K mg base CX0 4 A.joined A.d_joined ["sums", "word"] (spJoined K A.Sum) := ok_joined T
  refine T.F_Ages_init.ok sc_Ages_init (fun vs H Q E h => ?_) (fun cdv A' outer s H vs Q E hr h => ?_)
  · obtain ⟨p, dx, b, ws, st, n, rfl, _⟩ := h
    rfl
  · obtain ⟨p, dx, b, ws, st, n, rfl, hp, ⟨pw, ps, bvs, hb1, hb2, hb3, hb4⟩, ok, hn, k⟩ := h
    refine ⟨_, (pss_cons (ps_fld (pv 0) (pv 1) rfl)
    (pss_cons (ps_fld (pv 0) (pe_lst (pa_cons (pe_lc (own := [("letter", 4)]) (g := gName 4) (tt := tYes) rfl sc_Ages_init.nd (pi_range1 (by rfl) T.z_range (pa_cons (pe_callB call_len_seq (by rfl) T.z_len PySem.boot_len (pa_cons (pe_ix ix_tup (pv 1) pe_int (fun _ _ => rfl)) pa_nil)) pa_nil)) (blkOk_by (own := [("letter", 4)]) (N := ["self", "book", "last", "age", "letter", "word"]) (sc := defScope s_Ages_init) (by decide +kernel)) (fun _ _ _ _ _ => pg_name (i := 4) sc_Ages_init.nd rfl (Or.inl rfl)) (fun _ _ _ _ _ => pts_nil) (fun _ _ _ _ _ => (pe_make T.mk_Sum G_Sum_init (hr.mono (by decide)) (by rfl) T.m_Sum (b_Sum_init T) .nil pass0 (pa_cons pe_int (pa_cons (pe_ix (ix_tupK K rfl) (pe_glob (v := .ref A.hd) (by rfl) T.c_HEADINGS rfl) pe_int (fun _ _ => rfl)) (pa_cons pe_int (pa_cons (pe_ix (ix_tupK K rfl) (pe_glob (v := .ref A.hd) (by rfl) T.c_HEADINGS rfl) pe_int (fun _ _ => rfl)) (pa_cons pe_int pa_nil)))))))) pa_nil)) rfl)
    (pss_one (ps_for PassesOwn.never rfl (pi_range1 (by rfl) T.z_range (pa_cons (pv 2) pa_nil)) (pg_name (i := 3) sc_Ages_init.nd rfl (Or.inl rfl))
      (pss_one (ps_expr (pe_bm PySem.F.plainAttrs_list PySem.F.slot_list_append PySem.F.type_list_append mt_append (pe_fld (pv 0) rfl) (pa_cons (pe_lc (own := [("word", 5)]) (g := gName 5) (tt := tYes) rfl sc_Ages_init.nd (pi_tup (pe_ix ix_tup (pv 1) pe_int (fun _ _ => rfl))) (blkOk_by (own := [("word", 5)]) (N := ["self", "book", "last", "age", "letter", "word"]) (sc := defScope s_Ages_init) (by decide +kernel)) (fun _ _ _ _ _ => pg_name (i := 5) sc_Ages_init.nd rfl (Or.inl rfl)) (fun _ _ _ _ _ => pts_nil) (fun _ _ _ _ _ => (pe_call G_joined (hr.mono (by decide)) (by rfl) T.m_joined T.F_joined.kp (b_joined T) .nil pass0 (pa_cons (pe_ix (ix_listK K rfl) (pe_fldK K rfl (pv 0) rfl) (pe_un un_neg pe_int) (fun _ _ => rfl)) (pa_cons (pv 5) pa_nil))))) pa_nil)))))))), ?_⟩
    have npb : b ≠ p := ne_of hb1 hp (by intro q; cases q)
    have npw : pw ≠ p := ne_of hb2 hp (by intro q; cases q)
    refine ⟨_, rfl, _, rfl, p, A.Ages, dx, [], rfl, hp, T.cl_Ages, T.n_Ages_book, (by show 0 < 1000; decide), ?_⟩
    -- the first row
    have x0 : SameX p H (upd H p (.ins A.Ages dx (putF "book" (.ref b) []))) := (SameX.refl p H).self
    generalize hH0 : upd H p (.ins A.Ages dx (putF "book" (.ref b) [])) = H0 at x0
    have hp0 : H0 p = some (.ins A.Ages dx (putF "book" (.ref b) [])) := by rw [← hH0]; exact upd_same
    have hb10 := x0 _ _ hb1 npb
    have hb20 := x0 _ _ hb2 npw
    refine ⟨_, rfl, b, _, _, _, rfl, rfl, SqT.of hb10, atI_nat (j := 0) rfl, pw, _, rfl, .inr (SqT.of hb20), _, rfl, (by have := hb3.len; have := ok.eight; show -(2 ^ 62) ≤ ((bvs.length : Nat) : Int); omega), (by have := hb3.len; have := ok.eight; show ((bvs.length : Nat) : Int) < 2 ^ 62; omega), fun D hD => ?_⟩
    refine lc_range (lo := 0) (n := ((bvs.length : Nat) : Int).toNat) (fun i H' => Same H0 H' ∧ ∃ us, H' D = some (.lst us) ∧ SumsAt K A.Sum H' us (List.replicate i S.unit)) ⟨sNew hD, [], upd_same, SumsAt.nil⟩ ?_ ?_
    · rintro i H1 hi ⟨s1, us, hus, hss⟩
      have hi8 : i < 8 := by
        have := hb3.len
        have := ok.eight
        have e : ((bvs.length : Nat) : Int).toNat = bvs.length := rfl
        omega
      refine ⟨rfl, A.hd, _, _, _, rfl, rfl, tupK T.t_hd, atI_nat (j := 0) rfl, A.hd, _, _, _, rfl, rfl, tupK T.t_hd, atI_nat (j := 0) rfl, ?_⟩
      intro x dy nx nd ne
      refine ⟨x, dy, 1, A.h0, 0, A.h0, 0, rfl, upd_same, fun H2 h2 k2 => ⟨rfl, ?_⟩⟩
      obtain ⟨s2, q2⟩ := madeSum (K := K) (s := S.unit) nx nd h2 k2 (tupK T.t_h0) (tupK T.t_h0)
      have hus2 := s2 _ _ hus
      have q := nlU (ys := us ++ [.ref x]) hus2
      refine ⟨us, hus2, small_lt ?_, sMut (s1.trans s2) hD, us ++ [.ref x], upd_same, ?_⟩
      · have := hss.1
        rw [List.length_replicate] at this
        omega
      · rw [List.replicate_succ']
        exact ((hss.nl (nlS s2)).nl q).app ⟨x, rfl, q2.nl q⟩
    · rintro H1 ⟨s1, us, hus, hss⟩
      have e : ((bvs.length : Nat) : Int).toNat = ws.length := hb3.len
      rw [e] at hss
      refine ⟨by show 1 ≤ sizeLine; decide, fun l hl => ?_⟩
      have s2 := sNew (o := .lst [.ref D]) hl
      have np : p ≠ l := ne_of_none (s1 _ _ hp0) hl
      have nD : D ≠ l := ne_of_none hus hl
      have hp1 : (upd H1 l (.lst [.ref D])) p = some (.ins A.Ages dx (putF "book" (.ref b) [])) := s2 _ _ (s1 _ _ hp0)
      refine ⟨_, rfl, p, A.Ages, dx, _, rfl, hp1, T.cl_Ages, T.n_Ages_rows, (by show 1 < 1000; decide), ?_⟩
      rw [ageF_put]
      have hl0 : H l = none := by
        have h1 : H0 l = none := (s1.free hl)
        rw [← hH0, upd_ne np.symm] at h1
        exact h1
      have x2 : SameX p H (upd (upd H1 l (.lst [.ref D])) p (.ins A.Ages dx (ageF b l))) := ((x0.trans (SameX.of s1)).mut hl0).self
      have r0 : RowAt K A.Sum (upd (upd H1 l (.lst [.ref D])) p (.ins A.Ages dx (ageF b l))) (.ref D) (rows ws 0) := by
        have npD : D ≠ p := ne_of_none (by rw [← hH0] at hD; exact hp0) hD |>.symm
        refine ⟨D, us, rfl, by rw [upd_ne npD, upd_ne nD]; exact hus, ?_⟩
        have nl1 := nlS s2
        refine ⟨hss.1, fun i t hi => ?_⟩
        obtain ⟨a, g1, dz, pe, pz, g2, g3, g4⟩ := hss.2 i t hi
        have nap : a ≠ p := fun z => by
          rw [z] at g2
          rw [s1 _ _ hp0] at g2
          have e1 := Option.some.inj g2
          have e2 : putF "book" (.ref b) [] = sumF t.many pe t.t pz t.ar := by injection e1
          have e3 := congrArg List.length e2
          simp [sumF, putF] at e3
        have keepT : ∀ c xs, SqT K H1 c xs → SqT K (upd (upd H1 l (.lst [.ref D])) p (.ins A.Ages dx (ageF b l))) c xs := fun c xs hc => by
          rcases sTup s2 hc with (hc | ⟨o, hc⟩) | hc
          · exact .inl (.inl (by rw [upd_ne (ne_of hc hp1 (by intro z; cases z))]; exact hc))
          · exact .inl (.inr ⟨o, by rw [upd_ne (ne_of hc hp1 (by intro z; cases z))]; exact hc⟩)
          · exact .inr hc
        exact ⟨a, g1, dz, pe, pz, by rw [upd_ne nap]; exact s2 _ _ g2, keepT _ _ g3, keepT _ _ g4⟩
      have nDl : V.ref D ≠ V.ref l := fun z => nD (by injection z)
      have hl2 : (upd (upd H1 l (.lst [.ref D])) p (.ins A.Ages dx (ageF b l))) l = some (.lst [.ref D]) := by rw [upd_ne np.symm]; exact upd_same
      have hp2 : (upd (upd H1 l (.lst [.ref D])) p (.ins A.Ages dx (ageF b l))) p = some (.ins A.Ages dx (ageF b l)) := upd_same
      generalize upd (upd H1 l (.lst [.ref D])) p (.ins A.Ages dx (ageF b l)) = H2 at *
      -- the other rows
      refine ⟨_, rfl, _, rfl, (by omega), (by omega), for_range (lo := 0) (n := ((n : Nat) : Int).toNat) (fun i σ H' => ∃ (v : Option V) (rvs : List V), σ = [some (.ref p), some (.ref b), some (.int n), v, none, none] ∧ SameX p H H' ∧ H' p = some (.ins A.Ages dx (ageF b l)) ∧ H' l = some (.lst rvs) ∧
          rvs.length = i + 1 ∧ ∀ j, j ≤ i → ∃ v, rvs[j]? = some v ∧ RowAt K A.Sum H' v (rows ws j) ∧ v ≠ .ref l)
        ⟨none, [.ref D], rfl, x2, hp2, hl2, rfl, fun j hj => ⟨.ref D, by rw [Nat.le_zero.mp hj]; rfl, by rw [Nat.le_zero.mp hj]; exact r0, nDl⟩⟩ ?_ ?_⟩
      · rintro i σ H3 hi ⟨v, rvs, rfl, x3, hp3, hl3, hrl, hrs⟩
        have hin : i < n := by
          have e : ((n : Nat) : Int).toNat = n := rfl
          omega
        have hb13 := x3 _ _ hb1 npb
        have hb23 := x3 _ _ hb2 npw
        refine ⟨_, rfl, p, A.Ages, dx, _, _, rfl, hp3, T.cl_Ages, T.n_Ages_rows, rfl, .inl ⟨rfl, _, SqL.of hl3⟩, ?_⟩
        refine ⟨_, rfl, b, _, _, _, rfl, rfl, SqT.of hb13, atI_nat (j := 0) rfl, pw, rfl, ⟨_, SqT.of hb23⟩, fun D2 hD2 => lc_tup (K := K) (a := pw) (xs := bvs) (fun m H' => Same H3 H' ∧ ∃ us, H' D2 = some (.lst us) ∧ SumsAt K A.Sum H' us ((ws.take m).map (joined (fOf (rows ws i)))))
          ⟨sNew hD2, [], upd_same, SumsAt.nil⟩ (fun m H' _ ⟨s4, _⟩ => SqT.of (s4 _ _ hb23)) ?_ ?_⟩
        · rintro m y H4 hm ⟨s4, us4, hus4, hss4⟩
          obtain ⟨pu, u, rfl, hu, hpu⟩ := hb3.get hm
          obtain ⟨v5, hv5, ⟨ra, rus, rfl, hra, hrss⟩, _⟩ := hrs i (Nat.le_refl _)
          have okU := ok.all u (List.mem_of_getElem? hu)
          have h6 : u.length * 40 ^ i < 2 ^ 7000 := by
            refine Nat.lt_of_le_of_lt (Nat.mul_le_mul_right _ okU.len) ?_
            rw [Nat.mul_comm, ← Nat.pow_succ]
            exact pow40 (by omega)
          refine ⟨rfl, _, rfl, p, A.Ages, dx, _, _, rfl, s4 _ _ hp3, T.cl_Ages, T.n_Ages_rows, rfl, 1, rfl, l, rvs, -1, .ref ra, rfl, rfl, SqL.of (s4 _ _ hl3), atI_neg1 hrl hv5, _, rfl, ?_⟩
          refine ⟨ra, pu, rus, rows ws i, u, 40 ^ i, rfl, s4 _ _ hra, hrss.nl (nlS s4), SqT.of (s4 _ _ (x3 _ _ hpu (ne_of hpu hp (by intro q; cases q)))), by rw [rows_length]; exact okU.lets, okU.bal, (by have := okU.len; omega), rows_le (fun w hw => (ok.all w hw).len) i, pow40 (by omega), h6, fun x H5 s5 hx => ?_⟩
          have hus5 := s5 _ _ hus4
          have q := nlU (ys := us4 ++ [.ref x]) hus5
          refine ⟨us4, hus5, small_lt ?_, sMut (s4.trans s5) hD2, us4 ++ [.ref x], upd_same, ?_⟩
          · have h1 := hss4.1
            have h2 := ok.eight
            have h3 : (ws.take m).length ≤ ws.length := List.length_take_le' ..
            rw [List.length_map] at h1
            omega
          · rw [take_get hu, List.map_append]
            exact ((hss4.nl (nlS s5)).nl q).app ⟨x, rfl, hx.nl q⟩
        · rintro H4 ⟨s4, us4, hus4, hss4⟩
          rw [hb3.len, List.take_length] at hss4
          have hl4 := s4 _ _ hl3
          have nlD : l ≠ D2 := ne_of_none hl3 hD2
          have q := nlU (ys := rvs ++ [.ref D2]) hl4
          refine ⟨l, rvs, .ref D2, rfl, rfl, hl4, small_lt (by omega), ?_⟩
          have npl : p ≠ l := ne_of hp3 hl3 (by intro z; cases z)
          refine ⟨_, rvs ++ [.ref D2], rfl, (x3.trans (SameX.of s4)).mut hl0, by rw [upd_ne npl]; exact s4 _ _ hp3, upd_same, by simp [hrl], fun j hj => ?_⟩
          by_cases hji : j ≤ i
          · obtain ⟨v5, hv5, hr5, hne⟩ := hrs j hji
            refine ⟨v5, by rw [List.getElem?_append_left (by omega)]; exact hv5, (hr5.same s4).but (q := l) (fun c o hc hn => by rw [upd_ne hn]; exact hc) q hne, hne⟩
          · have ej : j = i + 1 := by omega
            subst ej
            refine ⟨.ref D2, ?_, ⟨D2, us4, rfl, by rw [upd_ne nlD.symm]; exact hus4, hss4.nl q⟩, fun z => nlD (by injection z with z; exact z.symm)⟩
            rw [List.getElem?_append_right (by omega), hrl, Nat.sub_self]
            rfl
      · rintro σ H3 ⟨v, rvs, rfl, x3, hp3, hl3, hrl, hrs⟩
        have e : ((n : Nat) : Int).toNat = n := rfl
        rw [e] at hrl hrs
        exact k H3 x3 ⟨dx, l, rvs, hp3, hl3, hrl, fun j hj => let ⟨v, h1, h2, _⟩ := hrs j hj; ⟨v, h1, h2⟩⟩
end
end My
end
section
set_option maxRecDepth 100000
set_option maxHeartbeats 4000000
namespace My
open PySem L2
def tot (ws : List Word) (st : Word) (n : Nat) : S := joined (fOf (rows ws n)) st
section
variable {P : Program} {w : World} {K : PySem.W.Frag} {mg : Str → Option Value} {base : Heap} {A : Adr}
theorem AgesAt.same {H H' : Hp} {p b : Addr} {ws : List Word} {n : Nat} (h : AgesAt K A H p b ws n) (s : Same H H') : AgesAt K A H' p b ws n := by
  obtain ⟨dx, pr, rvs, h1, h2, h3, h4⟩ := h
  exact ⟨dx, pr, rvs, s _ _ h1, s _ _ h2, h3, fun i hi => let ⟨v, k1, k2⟩ := h4 i hi; ⟨v, k1, k2.same s⟩⟩
def spWhole (K : PySem.W.Frag) (A : Adr) : Sp := fun vs H Q _ => ∃ (p b : Addr) (ws : List Word) (st : Word) (n k : Nat), vs = [.ref p, .int k] ∧ AgesAt K A H p b ws n ∧ BookAt H b ws st ∧ BOk ws st ∧ k ≤ n ∧ n ≤ 1000 ∧
  ∀ q H', Same H H' → SumAt K A.Sum H' q (tot ws st k) → Q (.ref q) H'
theorem ok_Ages_whole (T : Txt K mg A) : FnOk P w K mg base CX0 5 A.Ages_whole A.d_Ages_whole ["self", "age"] (spWhole K A) := by
  have G_joined : FnOk P w K mg base CX0 4 A.joined A.d_joined ["sums", "word"] (spJoined K A.Sum) := ok_joined T
  refine T.F_Ages_whole.ok sc_Ages_whole (fun vs H Q E h => ?_) (fun cdv A' outer s H vs Q E hr h => ?_)
  · obtain ⟨p, b, ws, st, n, k, rfl, _⟩ := h
    rfl
  · obtain ⟨p, b, ws, st, n, m, rfl, ⟨dx, pr, rvs, hp, hpr, hrl, hrs⟩, ⟨pw, ps, bvs, hb1, hb2, hb3, hb4⟩, ok, hm, hn, k⟩ := h
    refine ⟨_, (pss_one (ps_ret (pe_call G_joined (hr.mono (by decide)) (by rfl) T.m_joined T.F_joined.kp (b_joined T) .nil pass0 (pa_cons (pe_ix ix_list (pe_fld (pv 0) rfl) (pv 1) (fun _ _ => rfl)) (pa_cons (pe_ix ix_tup (pe_fld (pv 0) rfl) pe_int (fun _ _ => rfl)) pa_nil))))), ?_⟩
    obtain ⟨v, hv, ra, rus, rfl, hra, hrss⟩ := hrs m hm
    have h6 : st.length * 40 ^ m < 2 ^ 7000 := by
      refine Nat.lt_of_le_of_lt (Nat.mul_le_mul_right _ ok.st.len) ?_
      rw [Nat.mul_comm, ← Nat.pow_succ]
      exact pow40 (by omega)
    refine ⟨_, rfl, p, A.Ages, dx, _, _, rfl, hp, T.cl_Ages, T.n_Ages_rows, rfl, _, rfl, pr, rvs, _, .ref ra, rfl, rfl, SqL.of hpr, atI_nat hv, ?_⟩
    refine ⟨_, rfl, p, A.Ages, dx, _, _, rfl, hp, T.cl_Ages, T.n_Ages_book, rfl, b, _, _, _, rfl, rfl, SqT.of hb1, atI_nat (j := 1) rfl, ?_⟩
    exact ⟨ra, ps, rus, rows ws m, st, 40 ^ m, rfl, hra, hrss, SqT.of hb4, by rw [rows_length]; exact ok.st.lets, ok.st.bal, (by have := ok.st.len; omega), rows_le (fun w hw => (ok.all w hw).len) m, pow40 (by omega), h6, k⟩
def spNeedAge (K : PySem.W.Frag) (A : Adr) : Sp := fun vs H Q _ => ∃ (b : Addr) (ws : List Word) (st : Word) (n : Nat), vs = [.ref b, .int n] ∧ BookAt H b ws st ∧ BOk ws st ∧ n ≤ 1000 ∧
  ∀ p H', Same H H' → AgesAt K A H' p b ws n → Q (.ref p) H'
theorem ok_need_age (T : Txt K mg A) : FnOk P w K mg base CX0 7 A.need_age A.d_need_age ["book", "age"] (spNeedAge K A) := by
  have G_need_book : FnOk P w K mg base CX0 4 A.need_book A.d_need_book ["book"] spNeedBook := ok_need_book T
  have G_need_number : FnOk P w K mg base CX0 2 A.need_number A.d_need_number ["value", "least", "most"] spNeedNumber := ok_need_number T
  have G_Ages_init : FnOk P w K mg base CX0 5 A.Ages_init A.d_Ages_init ["self", "book", "last"] (spAgesInit K A) := ok_Ages_init T
  refine T.F_need_age.ok sc_need_age (fun vs H Q E h => ?_) (fun cdv A' outer s H vs Q E hr h => ?_)
  · obtain ⟨b, ws, st, n, rfl, _⟩ := h
    rfl
  · obtain ⟨b, ws, st, n, rfl, hB, ok, hn, k⟩ := h
    refine ⟨_, (pss_cons (ps_expr (pe_call G_need_book (hr.mono (by decide)) (by rfl) T.m_need_book T.F_need_book.kp (b_need_book T) .nil pass0 (pa_cons (pv 0) pa_nil)))
    (pss_cons (ps_expr (pe_call G_need_number (hr.mono (by decide)) (by rfl) T.m_need_number T.F_need_number.kp (b_need_number T) .nil pass0 (pa_cons (pv 1) (pa_cons pe_int (pa_cons (pe_globI (by rfl) T.c_MOST_AGE) pa_nil)))))
    (pss_one (ps_ret (pe_make T.mk_Ages G_Ages_init (hr.mono (by decide)) (by rfl) T.m_Ages (b_Ages_init T) .nil pass0 (pa_cons (pv 0) (pa_cons (pv 1) pa_nil))))))), ?_⟩
    refine ⟨_, rfl, b, ws, st, rfl, hB, ok, fun H1 s1 => ?_⟩
    refine ⟨_, rfl, n, 0, 1000, rfl, (by omega), (by omega), ?_⟩
    refine ⟨_, rfl, _, rfl, ?_⟩
    intro x dx nx nd ne
    have s2 : Same H1 (upd (upd H1 dx (.own x)) x (.ins A.Ages dx [])) := fun c o hc => by
      rw [upd_ne (ne_of_none hc nx), upd_ne (ne_of_none hc nd)]
      exact hc
    refine ⟨x, dx, b, ws, st, n, rfl, upd_same, hB.same (tups_of (s1.trans s2)), ok, hn, fun H3 x3 hA => ⟨rfl, ?_⟩⟩
    exact k x H3 (s1.trans (Same.made nx nd x3)) hA
def spAt (f : S → Int) : Sp := fun vs H Q _ => ∃ (b : Addr) (ws : List Word) (st : Word) (n : Nat), vs = [.ref b, .int n] ∧ BookAt H b ws st ∧ BOk ws st ∧ n ≤ 1000 ∧
  ∀ H', Same H H' → Q (.int (f (tot ws st n))) H'
theorem ok_strokes_in (T : Txt K mg A) : FnOk P w K mg base CX0 8 A.strokes_in A.d_strokes_in ["book", "age"] (spAt S.many) := by
  have G_need_age : FnOk P w K mg base CX0 7 A.need_age A.d_need_age ["book", "age"] (spNeedAge K A) := ok_need_age T
  have G_Ages_whole : FnOk P w K mg base CX0 5 A.Ages_whole A.d_Ages_whole ["self", "age"] (spWhole K A) := ok_Ages_whole T
  refine T.F_strokes_in.ok sc_strokes_in (fun vs H Q E h => ?_) (fun cdv A' outer s H vs Q E hr h => ?_)
  · obtain ⟨b, ws, st, n, rfl, _⟩ := h
    rfl
  · obtain ⟨b, ws, st, n, rfl, hB, ok, hn, k⟩ := h
    refine ⟨_, (pss_one (ps_ret (pe_fld (pe_meth (pe_call G_need_age (hr.mono (by decide)) (by rfl) T.m_need_age T.F_need_age.kp (b_need_age T) .nil pass0 (pa_cons (pv 0) (pa_cons (pv 1) pa_nil))) T.cl_Ages T.me_Ages_whole G_Ages_whole (hr.mono (by decide)) (b_Ages_whole T) .nil pass0 (pa_cons (pv 1) pa_nil)) rfl))), ?_⟩
    refine ⟨_, rfl, _, rfl, b, ws, st, n, rfl, hB, ok, hn, fun p H1 s1 hA => ?_⟩
    obtain ⟨dx, pr, rvs, h1, h2, h3⟩ := id hA
    refine ⟨p, dx, _, rfl, h1, rfl, _, rfl, p, b, ws, st, n, n, rfl, hA, hB.same (tups_of s1), ok, Nat.le_refl _, hn, fun q H2 s2 hq => ?_⟩
    obtain ⟨dy, pe, pz, k1, _⟩ := hq
    exact ⟨q, A.Sum, dy, _, _, rfl, k1, T.cl_Sum, T.n_Sum_many, rfl, k _ (s1.trans s2)⟩
theorem ok_turns_at (T : Txt K mg A) : FnOk P w K mg base CX0 8 A.turns_at A.d_turns_at ["book", "age"] (spAt S.t) := by
  have G_need_age : FnOk P w K mg base CX0 7 A.need_age A.d_need_age ["book", "age"] (spNeedAge K A) := ok_need_age T
  have G_Ages_whole : FnOk P w K mg base CX0 5 A.Ages_whole A.d_Ages_whole ["self", "age"] (spWhole K A) := ok_Ages_whole T
  refine T.F_turns_at.ok sc_turns_at (fun vs H Q E h => ?_) (fun cdv A' outer s H vs Q E hr h => ?_)
  · obtain ⟨b, ws, st, n, rfl, _⟩ := h
    rfl
  · obtain ⟨b, ws, st, n, rfl, hB, ok, hn, k⟩ := h
    refine ⟨_, (pss_one (ps_ret (pe_fld (pe_meth (pe_call G_need_age (hr.mono (by decide)) (by rfl) T.m_need_age T.F_need_age.kp (b_need_age T) .nil pass0 (pa_cons (pv 0) (pa_cons (pv 1) pa_nil))) T.cl_Ages T.me_Ages_whole G_Ages_whole (hr.mono (by decide)) (b_Ages_whole T) .nil pass0 (pa_cons (pv 1) pa_nil)) rfl))), ?_⟩
    refine ⟨_, rfl, _, rfl, b, ws, st, n, rfl, hB, ok, hn, fun p H1 s1 hA => ?_⟩
    obtain ⟨dx, pr, rvs, h1, h2, h3⟩ := id hA
    refine ⟨p, dx, _, rfl, h1, rfl, _, rfl, p, b, ws, st, n, n, rfl, hA, hB.same (tups_of s1), ok, Nat.le_refl _, hn, fun q H2 s2 hq => ?_⟩
    obtain ⟨dy, pe, pz, k1, _⟩ := hq
    exact ⟨q, A.Sum, dy, _, _, rfl, k1, T.cl_Sum, T.n_Sum_turns, rfl, k _ (s1.trans s2)⟩
theorem ok_area_at (T : Txt K mg A) : FnOk P w K mg base CX0 8 A.area_at A.d_area_at ["book", "age"] (spAt S.ar) := by
  have G_need_age : FnOk P w K mg base CX0 7 A.need_age A.d_need_age ["book", "age"] (spNeedAge K A) := ok_need_age T
  have G_Ages_whole : FnOk P w K mg base CX0 5 A.Ages_whole A.d_Ages_whole ["self", "age"] (spWhole K A) := ok_Ages_whole T
  refine T.F_area_at.ok sc_area_at (fun vs H Q E h => ?_) (fun cdv A' outer s H vs Q E hr h => ?_)
  · obtain ⟨b, ws, st, n, rfl, _⟩ := h
    rfl
  · obtain ⟨b, ws, st, n, rfl, hB, ok, hn, k⟩ := h
    refine ⟨_, (pss_one (ps_ret (pe_fld (pe_meth (pe_call G_need_age (hr.mono (by decide)) (by rfl) T.m_need_age T.F_need_age.kp (b_need_age T) .nil pass0 (pa_cons (pv 0) (pa_cons (pv 1) pa_nil))) T.cl_Ages T.me_Ages_whole G_Ages_whole (hr.mono (by decide)) (b_Ages_whole T) .nil pass0 (pa_cons (pv 1) pa_nil)) rfl))), ?_⟩
    refine ⟨_, rfl, _, rfl, b, ws, st, n, rfl, hB, ok, hn, fun p H1 s1 hA => ?_⟩
    obtain ⟨dx, pr, rvs, h1, h2, h3⟩ := id hA
    refine ⟨p, dx, _, rfl, h1, rfl, _, rfl, p, b, ws, st, n, n, rfl, hA, hB.same (tups_of s1), ok, Nat.le_refl _, hn, fun q H2 s2 hq => ?_⟩
    obtain ⟨dy, pe, pz, k1, _⟩ := hq
    exact ⟨q, A.Sum, dy, _, _, rfl, k1, T.cl_Sum, T.n_Sum_area, rfl, k _ (s1.trans s2)⟩
def spEndAt : Sp := fun vs H Q _ => ∃ (b : Addr) (ws : List Word) (st : Word) (n : Nat), vs = [.ref b, .int n] ∧ BookAt H b ws st ∧ BOk ws st ∧ n ≤ 1000 ∧
  ∀ p H', Same H H' → H' p = some (.tup [.int (tot ws st n).ex, .int (tot ws st n).ey, .int ((tot ws st n).t % 4)]) → Q (.ref p) H'
theorem ok_end_at (T : Txt K mg A) : FnOk P w K mg base CX0 8 A.end_at A.d_end_at ["book", "age"] spEndAt := by
  have G_need_age : FnOk P w K mg base CX0 7 A.need_age A.d_need_age ["book", "age"] (spNeedAge K A) := ok_need_age T
  have G_Ages_whole : FnOk P w K mg base CX0 5 A.Ages_whole A.d_Ages_whole ["self", "age"] (spWhole K A) := ok_Ages_whole T
  refine T.F_end_at.ok sc_end_at (fun vs H Q E h => ?_) (fun cdv A' outer s H vs Q E hr h => ?_)
  · obtain ⟨b, ws, st, n, rfl, _⟩ := h
    rfl
  · obtain ⟨b, ws, st, n, rfl, hB, ok, hn, k⟩ := h
    refine ⟨_, (pss_cons (ps_set (i := 2) sc_end_at.nd rfl (Or.inl rfl) (pe_meth (pe_call G_need_age (hr.mono (by decide)) (by rfl) T.m_need_age T.F_need_age.kp (b_need_age T) .nil pass0 (pa_cons (pv 0) (pa_cons (pv 1) pa_nil))) T.cl_Ages T.me_Ages_whole G_Ages_whole (hr.mono (by decide)) (b_Ages_whole T) .nil pass0 (pa_cons (pv 1) pa_nil)))
    (pss_one (ps_ret (pe_op op_catT (pe_fld (pv 2) rfl) (pe_tup (pa_cons (pe_op op_mod (pe_fld (pv 2) rfl) pe_int) pa_nil)))))), ?_⟩
    refine ⟨_, rfl, _, rfl, b, ws, st, n, rfl, hB, ok, hn, fun p H1 s1 hA => ?_⟩
    obtain ⟨dx, pr, rvs, h1, h2, h3⟩ := id hA
    refine ⟨p, dx, _, rfl, h1, rfl, _, rfl, p, b, ws, st, n, n, rfl, hA, hB.same (tups_of s1), ok, Nat.le_refl _, hn, fun q H2 s2 hq => ?_⟩
    obtain ⟨dy, pe, pz, k1, k2, k3⟩ := hq
    refine ⟨_, rfl, q, A.Sum, dy, _, _, rfl, k1, T.cl_Sum, T.n_Sum_end, rfl, _, rfl, q, A.Sum, dy, _, _, rfl, k1, T.cl_Sum, T.n_Sum_turns, rfl, _, _, rfl, rfl, (by show (0 : Int) < 4; decide), by show 1 ≤ sizeLine; decide, fun r hr' => ?_⟩
    refine ⟨pe, r, _, _, rfl, rfl, sTup (sNew hr') k2, SqT.of upd_same, by simp, by show 3 ≤ sizeLine; decide, fun z => by simp at z, fun _ t ht => ?_⟩
    exact k t _ (((s1.trans s2).trans (sNew hr')).trans (sNew ht)) upd_same
end
end My
end
section
set_option maxRecDepth 100000
set_option maxHeartbeats 4000000
/-! the law's draws -/
namespace My
open PySem L2
/-- the script: locked, or of the written part -/
def Scr (K : PySem.W.Frag) (H : Hp) (a : Addr) (xs : List V) : Prop := (∃ o, H a = some (.frz o (.lst xs))) ∨
  ∃ (o : Obj) (its : Array Value) (n : Nat), K.lookup a = some o ∧ o.cls = .type "list" ∧ o.dict = none ∧ o.data = .seq its n ∧ its.size ≤ sizeLine ∧ Vals xs its.toList
theorem Scr.sq {K : PySem.W.Frag} {H : Hp} {a : Addr} {xs : List V} (h : Scr K H a xs) : SqL K H a xs := by
  rcases h with ⟨o, h⟩ | h
  · exact .inl (.inr ⟨o, h⟩)
  · exact .inr h
theorem Scr.keep {K : PySem.W.Frag} {H H' : Hp} {a : Addr} {xs : List V} (h : Scr K H a xs) (s : ∀ o u, H a = some (.frz o u) → H' a = some (.frz o u)) : Scr K H' a xs := by
  rcases h with ⟨o, h⟩ | h
  · exact .inl ⟨o, s _ _ h⟩
  · exact .inr h
/-- the law's row stands at r -/
def RowR (K : PySem.W.Frag) (H : Hp) (r : Addr) : Prop := ∃ (a : Addr) (ns : List Int) (i s q : Int), H r = some (.lst [.ref a, .int i, .int s, .int q]) ∧ Scr K H a (ns.map V.int) ∧ 0 ≤ i
section
variable {K : PySem.W.Frag} {H H' : Hp} {r l : Addr} {o : HO} {xs : List V}
theorem RowR.same (h : RowR K H r) (s : Same H H') : RowR K H' r := by
  obtain ⟨a, ns, i, z, q, h1, h2, h3⟩ := h
  exact ⟨a, ns, i, z, q, s _ _ h1, h2.keep fun o u e => s _ _ e, h3⟩
theorem RowR.upd (h : RowR K H r) (hl : H l = some (.lst xs)) (n : l ≠ r) : RowR K (upd H l o) r := by
  obtain ⟨a, ns, i, z, q, h1, h2, h3⟩ := h
  exact ⟨a, ns, i, z, q, by rw [upd_ne n.symm]; exact h1, h2.keep fun o u e => by rw [upd_ne (ne_of e hl (by intro z; cases z))]; exact e, h3⟩
theorem RowR.new (h : RowR K H r) (hl : H l = none) : RowR K (L2.upd H l o) r := h.same (sNew hl)
theorem RowR.ne (h : RowR K H r) (hl : H l = none) : l ≠ r := by
  obtain ⟨a, ns, i, z, q, h1, _⟩ := h
  exact (ne_of_none h1 hl).symm
/-- the row's numbers changed -/
theorem rowSet {a : Addr} {ns : List Int} {i s q i' s' q' : Int} (h1 : H r = some (.lst [.ref a, .int i, .int s, .int q])) (h2 : Scr K H a (ns.map V.int)) (h3 : 0 ≤ i') : RowR K (L2.upd H r (.lst [.ref a, .int i', .int s', .int q'])) r :=
  ⟨a, ns, i', s', q', upd_same, h2.keep fun o u e => by rw [upd_ne (ne_of e h1 (by intro z; cases z))]; exact e, h3⟩
theorem scrSet {a : Addr} {vs zs ys : List V} (h1 : H r = some (.lst vs)) (h2 : Scr K H a ys) : Scr K (L2.upd H r (.lst zs)) a ys :=
  h2.keep fun o u e => by rw [upd_ne (ne_of e h1 (by intro z; cases z))]; exact e
end
section
variable {P : Program} {w : World} {K : PySem.W.Frag} {mg : Str → Option Value} {base : Heap} {A : Adr}
def spTaken (K : PySem.W.Frag) : Sp := fun vs H Q _ => ∃ (r : Addr) (m : Int), vs = [.ref r, .int m] ∧ RowR K H r ∧ 1 ≤ m ∧ m < 1073741824 ∧ ∀ H' v, SameX r H H' → RowR K H' r → 0 ≤ v → v < m → Q (.int v) H'
theorem ok_taken (T : Txt K mg A) : FnOk P w K mg base CX0 1 A._law_taken A.d__law_taken ["_law_row", "_law_many"] (spTaken K) := by
  refine T.F__law_taken.ok sc__law_taken (fun vs H Q E h => ?_) (fun cdv A' outer s H vs Q E hr h => ?_)
  · obtain ⟨r, m, rfl, _⟩ := h
    rfl
  · obtain ⟨r, m, rfl, ⟨a, ns, i, z, q, hR, hS, hi⟩, h1, h2, k⟩ := h
    refine ⟨_, (pss_cons (ps_if (pt_cmpR op_gt (pe_ix ix_list (pv 0) pe_int (fun _ _ => rfl)) pe_int (nomark _)) (pss_cons (ps_set (i := 2) sc__law_taken.nd rfl (Or.inl rfl) (pe_op op_mod (pe_callTy call_int1 (by rfl) T.z_int (by decide +kernel) (pa_cons (pe_ix ix_list (pv 0) pe_int (fun _ _ => rfl)) pa_nil)) (pv 1)))
      (pss_cons (ps_asg (pe_op op_fdiv (pe_ix ix_list (pv 0) pe_int (fun _ _ => rfl)) (pv 1)) (pg_sub (pv 0) pe_int set_list))
      (pss_one (ps_ret (pv 2))))) pss_nil)
    (pss_cons (ps_asg (pe_op op_add (pe_ix ix_list (pv 0) pe_int (fun _ _ => rfl)) pe_int) (pg_sub (pv 0) pe_int set_list))
    (pss_cons (ps_if (pt_cmpR op_gt (pe_ix ix_list (pv 0) pe_int (fun _ _ => rfl)) (pe_callB call_len_seq (by rfl) T.z_len PySem.boot_len (pa_cons (pe_ix ix_list (pv 0) pe_int (fun _ _ => rfl)) pa_nil)) (nomark _)) (pss_cons (ps_asg (pe_op op_mod (pe_callTy call_int1 (by rfl) T.z_int (by decide +kernel) (pa_cons (pe_op op_add (pe_op op_mul (pe_ix ix_list (pv 0) pe_int (fun _ _ => rfl)) pe_int) pe_int) pa_nil)) pe_int) (pg_sub (pv 0) pe_int set_list))
      (pss_one (ps_ret (pe_op op_mod (pe_callTy call_int1 (by rfl) T.z_int (by decide +kernel) (pa_cons (pe_op op_fdiv (pe_ix ix_list (pv 0) pe_int (fun _ _ => rfl)) pe_int) pa_nil)) (pv 1))))) pss_nil)
    (pss_cons (ps_set (i := 3) sc__law_taken.nd rfl (Or.inl rfl) (pe_ix ix_list (pe_ix ix_list (pv 0) pe_int (fun _ _ => rfl)) (pe_op op_sub (pe_ix ix_list (pv 0) pe_int (fun _ _ => rfl)) pe_int) (fun _ _ => rfl)))
    (pss_cons (ps_asg (pe_op op_mod (pe_callTy call_int1 (by rfl) T.z_int (by decide +kernel) (pa_cons (pe_op op_add (pe_op op_add (pe_op op_mul (pe_ix ix_list (pv 0) pe_int (fun _ _ => rfl)) pe_int) (pv 3)) pe_int) pa_nil)) pe_int) (pg_sub (pv 0) pe_int set_list))
    (pss_cons (ps_if (pt_cmpR op_ge (pv 3) (pe_op op_pow pe_int pe_int) (nomark _)) (pss_one (ps_asg (pe_op op_fdiv (pv 3) (pv 1)) (pg_sub (pv 0) pe_int set_list))) pss_nil)
    (pss_one (ps_ret (pe_op op_mod (pe_callTy call_int1 (by rfl) T.z_int (by decide +kernel) (pa_cons (pv 3) pa_nil)) (pv 1)))))))))), ?_⟩
    have m0 : (0 : Int) < m := by omega
    have fin : ∀ (H' : Hp) (y : Int), SameX r H H' → RowR K H' r → Q (.int (y % m)) H' := fun H' y x R => k H' _ x R (Int.emod_nonneg _ (by omega)) (Int.emod_lt_of_pos _ m0)
    refine ⟨_, rfl, r, _, _, _, rfl, rfl, SqL.of hR, atI_nat (j := 3) rfl, _, _, rfl, rfl, _, rfl, ite2 (fun _ => ?_) (fun _ => ?_)⟩
    · refine ⟨_, rfl, r, _, _, _, rfl, rfl, SqL.of hR, atI_nat (j := 3) rfl, .inl ⟨_, rfl, _, rfl, _, _, rfl, rfl, m0, ?_⟩⟩
      refine ⟨_, rfl, r, _, _, _, rfl, rfl, SqL.of hR, atI_nat (j := 3) rfl, _, rfl, _, _, rfl, rfl, ⟨m0, h2⟩, _, rfl, r, _, 3, 3, rfl, rfl, hR, rfl, ?_⟩
      exact ⟨_, rfl, fin _ _ (SameX.refl r H).self (rowSet hR hS hi)⟩
    · refine ⟨_, rfl, r, _, _, _, rfl, rfl, SqL.of hR, atI_nat (j := 1) rfl, _, _, rfl, rfl, _, rfl, r, _, 1, 1, rfl, rfl, hR, rfl, ?_⟩
      have hR1 : (upd H r (.lst [.ref a, .int (i + 1), .int z, .int q])) r = some (.lst [.ref a, .int (i + 1), .int z, .int q]) := upd_same
      have hS1 : Scr K (upd H r (.lst [.ref a, .int (i + 1), .int z, .int q])) a (ns.map V.int) := scrSet hR hS
      have x1 : SameX r H (upd H r (.lst [.ref a, .int (i + 1), .int z, .int q])) := (SameX.refl r H).self
      show tSeq _ _ _ _ (upd H r (.lst [.ref a, .int (i + 1), .int z, .int q]))
      generalize upd H r (.lst [.ref a, .int (i + 1), .int z, .int q]) = H1 at *
      refine ⟨_, rfl, r, _, _, _, rfl, rfl, SqL.of hR1, atI_nat (j := 1) rfl, _, rfl, r, _, _, _, rfl, rfl, SqL.of hR1, atI_nat (j := 0) rfl, a, _, rfl, .inl hS1.sq, _, _, rfl, rfl, _, rfl, ite2 (fun _ => ?_) (fun hlt => ?_)⟩
      · refine ⟨_, rfl, r, _, _, _, rfl, rfl, SqL.of hR1, atI_nat (j := 2) rfl, _, _, rfl, rfl, .inr ⟨by decide, by decide⟩, _, _, rfl, rfl, .inl ⟨_, rfl, _, _, rfl, rfl, (by show (0 : Int) < 2147483647; decide), _, rfl, r, _, 2, 2, rfl, rfl, hR1, rfl, ?_⟩⟩
        have hR2 : ∀ y, (upd H1 r (.lst [.ref a, .int (i + 1), .int y, .int q])) r = some (.lst [.ref a, .int (i + 1), .int y, .int q]) := fun y => upd_same
        refine ⟨_, rfl, r, _, _, _, rfl, rfl, SqL.of (hR2 _), atI_nat (j := 2) rfl, _, _, rfl, rfl, ⟨by decide, by decide⟩, .inl ⟨_, rfl, _, rfl, _, _, rfl, rfl, m0, ?_⟩⟩
        exact fin _ _ x1.self (rowSet hR1 hS1 (by omega))
      · have hlt' : i < ((ns.map V.int).length : Nat) := by
          have := of_decide_eq_false (eq_false_of_ne_true hlt)
          omega
        have hil : i.toNat < ns.length := by
          rw [List.length_map] at hlt'
          omega
        have hget : (ns.map V.int)[i.toNat]? = some (.int ns[i.toNat]) := by
          rw [List.getElem?_map, List.getElem?_eq_getElem hil]
          rfl
        refine ⟨_, rfl, r, _, _, _, rfl, rfl, SqL.of hR1, atI_nat (j := 0) rfl, _, rfl, r, _, _, _, rfl, rfl, SqL.of hR1, atI_nat (j := 1) rfl, _, _, rfl, rfl, a, _, _, _, rfl, rfl, hS1.sq, at_of (j := i.toNat) (by omega) hget, ?_⟩
        refine ⟨_, rfl, r, _, _, _, rfl, rfl, SqL.of hR1, atI_nat (j := 2) rfl, _, _, rfl, rfl, .inr ⟨by decide, by decide⟩, _, rfl, _, _, rfl, rfl, _, _, rfl, rfl, .inl ⟨_, rfl, _, _, rfl, rfl, (by show (0 : Int) < 2147483647; decide), _, rfl, r, _, 2, 2, rfl, rfl, hR1, rfl, ?_⟩⟩
        have hR2 : ∀ y, (upd H1 r (.lst [.ref a, .int (i + 1), .int y, .int q])) r = some (.lst [.ref a, .int (i + 1), .int y, .int q]) := fun y => upd_same
        have hS2 : ∀ y, Scr K (upd H1 r (.lst [.ref a, .int (i + 1), .int y, .int q])) a (ns.map V.int) := fun y => scrSet hR1 hS1
        refine ⟨_, rfl, _, _, rfl, rfl, ⟨by decide, by decide, by decide⟩, _, _, rfl, rfl, _, rfl, ite2 (fun _ => ?_) (fun _ => ?_)⟩
        · refine ⟨_, rfl, _, rfl, _, _, rfl, rfl, ⟨m0, h2⟩, _, rfl, r, _, 3, 3, rfl, rfl, hR2 _, rfl, ?_⟩
          exact ⟨_, rfl, .inl ⟨_, rfl, _, rfl, _, _, rfl, rfl, m0, fin _ _ x1.self.self (rowSet (hR2 _) (hS2 _) (by omega))⟩⟩
        · exact ⟨_, rfl, .inl ⟨_, rfl, _, rfl, _, _, rfl, rfl, m0, fin _ _ x1.self (rowSet hR1 hS1 (by omega))⟩⟩
def spPick (K : PySem.W.Frag) : Sp := fun vs H Q _ => ∃ (r l : Addr) (xs : List V), vs = [.ref r, .ref l] ∧ RowR K H r ∧ H l = some (.lst xs) ∧ l ≠ r ∧ 1 ≤ xs.length ∧ xs.length ≤ 1000 ∧ ∀ H' v, SameX r H H' → RowR K H' r → v ∈ xs → Q v H'
theorem ok_pick (T : Txt K mg A) : FnOk P w K mg base CX0 2 A._law_pick A.d__law_pick ["_law_row", "_law_things"] (spPick K) := by
  have G__law_taken : FnOk P w K mg base CX0 1 A._law_taken A.d__law_taken ["_law_row", "_law_many"] (spTaken K) := ok_taken T
  refine T.F__law_pick.ok sc__law_pick (fun vs H Q E h => ?_) (fun cdv A' outer s H vs Q E hr h => ?_)
  · obtain ⟨r, l, xs, rfl, _⟩ := h
    rfl
  · obtain ⟨r, l, xs, rfl, hR, hl, hne, h1, h2, k⟩ := h
    refine ⟨_, (pss_one (ps_ret (pe_ix ix_list (pv 1) (pe_call G__law_taken (hr.mono (by decide)) (by rfl) T.m__law_taken T.F__law_taken.kp (b__law_taken T) .nil pass0 (pa_cons (pv 0) (pa_cons (pe_callB call_len_seq (by rfl) T.z_len PySem.boot_len (pa_cons (pv 1) pa_nil)) pa_nil))) (fun _ _ => rfl)))), ?_⟩
    refine ⟨_, rfl, _, rfl, _, rfl, l, _, rfl, .inl (SqL.of hl), r, _, rfl, hR, (by omega), (by omega), fun H' v x1 R1 h3 h4 => ?_⟩
    have hv : v.toNat < xs.length := by omega
    exact ⟨l, xs, v, xs[v.toNat], rfl, rfl, SqL.of (x1 _ _ hl hne), at_of (j := v.toNat) (by omega) (List.getElem?_eq_getElem hv), k H' _ x1 R1 (List.getElem_mem hv)⟩
end
end My
end
section
set_option maxRecDepth 100000
set_option maxHeartbeats 4000000
/-! the law's books -/
namespace My
open PySem L2
/-! ### words -/
theorem bal_ins {X : Word} (hX : ∀ d v, bal d (X ++ v) = bal d v) (B : Word) : ∀ (A : Word) (d : Nat), bal d (A ++ (X ++ B)) = bal d (A ++ B)
  | [], d => hX d B
  | .l n :: A, d => by simpa [bal] using bal_ins hX B A d
  | .p :: A, d => by simpa [bal] using bal_ins hX B A d
  | .m :: A, d => by simpa [bal] using bal_ins hX B A d
  | .o :: A, d => by simpa [bal] using bal_ins hX B A (d + 1)
  | .c :: A, 0 => by simp [bal]
  | .c :: A, d + 1 => by simpa [bal] using bal_ins hX B A d
theorem bal_free : ∀ (u : Word), noB u → ∀ d v, bal d (u ++ v) = bal d v
  | [], _, d, v => rfl
  | .l n :: u, h, d, v => by simpa [bal] using bal_free u ⟨fun z => h.1 (by simp [z]), fun z => h.2 (by simp [z])⟩ d v
  | .p :: u, h, d, v => by simpa [bal] using bal_free u ⟨fun z => h.1 (by simp [z]), fun z => h.2 (by simp [z])⟩ d v
  | .m :: u, h, d, v => by simpa [bal] using bal_free u ⟨fun z => h.1 (by simp [z]), fun z => h.2 (by simp [z])⟩ d v
  | .o :: u, h, d, v => absurd (by simp) h.1
  | .c :: u, h, d, v => absurd (by simp) h.2
theorem bal_noB {u : Word} (h : noB u) : bal 0 u = true := by
  have e := bal_free u h 0 []
  rw [List.append_nil] at e
  rw [e]
  rfl
theorem bal_branch {t : Word} (h : noB t) (d : Nat) (v : Word) : bal d ((.o :: t ++ [.c]) ++ v) = bal d v := by
  show bal d (.o :: ((t ++ [.c]) ++ v)) = bal d v
  simp only [bal]
  rw [List.append_assoc, bal_free t h]
  rfl
def brW (u : Word) (k : Nat) (t : Word) (n : Nat) : Word := u.take k ++ [.o] ++ t ++ [.l n] ++ [.c] ++ u.drop k
/-- a word with a branch put in -/
theorem branch_ok {L : Nat} {u t : Word} {n k : Nat} (hu : WOk L u) (h36 : u.length ≤ 36) (ht : noB t) (ht1 : t.length ≤ 1) (htl : lets L t) (hn : n < L) (hk : k ≤ u.length) :
    WOk L (brW u k t n) := by
  unfold brW
  have e : u.take k ++ [.o] ++ t ++ [.l n] ++ [.c] ++ u.drop k = u.take k ++ ((.o :: (t ++ [.l n]) ++ [.c]) ++ u.drop k) := by simp
  refine ⟨?_, ?_, ?_, ?_⟩
  · simp only [List.length_append, List.length_take, List.length_drop, List.length_singleton]
    omega
  · intro m hm
    simp only [List.mem_append, List.mem_singleton] at hm
    rcases hm with ((((hm | hm) | hm) | hm) | hm) | hm
    · exact hu.lets m (List.mem_of_mem_take hm)
    · cases hm
    · exact htl m hm
    · cases hm
      exact hn
    · cases hm
    · exact hu.lets m (List.mem_of_mem_drop hm)
  · have nb : noB (t ++ [.l n]) := ⟨fun z => by simp at z; exact ht.1 z, fun z => by simp at z; exact ht.2 z⟩
    rw [e, bal_ins (fun d v => bal_branch nb d v), List.take_append_drop]
    exact hu.bal
  · exact ⟨n, by simp⟩
theorem cut_take {xs : List V} {k : Nat} (h : k ≤ xs.length) : cutV xs none (some (k : Int)) = xs.take k := by
  unfold cutV
  rw [HT.sIx_none, HT.sIx_nat, Nat.min_eq_left h]
  rfl
theorem cut_drop {xs : List V} {k : Nat} (h : k ≤ xs.length) : cutV xs (some (k : Int)) none = xs.drop k := by
  unfold cutV
  rw [HT.sIx_none, HT.sIx_nat, Nat.min_eq_left h]
  rw [List.take_of_length_le (by simp)]
theorem nw {H : Hp} {p : Addr} (o : HO) (h : H p = none) : ∃ H', H' = upd H p o ∧ Same H H' ∧ H' p = some o := ⟨_, rfl, sNew h, upd_same⟩
section
variable {P : Program} {w : World} {K : PySem.W.Frag} {mg : Str → Option Value} {base : Heap} {A : Adr}
def spBranched (K : PySem.W.Frag) : Sp := fun vs H Q _ => ∃ (r a : Addr) (u : Word) (L : Nat), vs = [.ref r, .ref a, .int L] ∧ RowR K H r ∧ H a = some (.tup (u.map itV)) ∧ WOk L u ∧ u.length ≤ 36 ∧ 1 ≤ L ∧ L ≤ 8 ∧
  ∀ H' p u', SameX r H H' → RowR K H' r → H' p = some (.tup (u'.map itV)) → WOk L u' → Q (.ref p) H'
theorem ok_branched (T : Txt K mg A) : FnOk P w K mg base CX0 3 A._law_branched A.d__law_branched ["_law_row", "_law_word_here", "_law_letters"] (spBranched K) := by
  have G__law_taken : FnOk P w K mg base CX0 1 A._law_taken A.d__law_taken ["_law_row", "_law_many"] (spTaken K) := ok_taken T
  have G__law_pick : FnOk P w K mg base CX0 2 A._law_pick A.d__law_pick ["_law_row", "_law_things"] (spPick K) := ok_pick T
  refine T.F__law_branched.ok sc__law_branched (fun vs H Q E h => ?_) (fun cdv A' outer s H vs Q E hr h => ?_)
  · obtain ⟨r, a, u, L, rfl, _⟩ := h
    rfl
  · obtain ⟨r, a, u, L, rfl, hR, ha, ok, h36, hL1, hL8, k⟩ := h
    refine ⟨_, (pss_cons (ps_set (i := 3) sc__law_branched.nd rfl (Or.inl rfl) (pe_callTy call_list_of (by rfl) T.z_list (by decide +kernel) (pa_cons (pv 1) pa_nil)))
    (pss_cons (ps_if (pt_cmpR op_eq (pe_call G__law_taken (hr.mono (by decide)) (by rfl) T.m__law_taken T.F__law_taken.kp (b__law_taken T) .nil pass0 (pa_cons (pv 0) (pa_cons pe_int pa_nil))) pe_int (nomark _)) (pss_cons (ps_par (i := 4) (j := 5) rfl sc__law_branched.nd rfl rfl (by decide) rfl rfl (pa_cons (pe_call G__law_taken (hr.mono (by decide)) (by rfl) T.m__law_taken T.F__law_taken.kp (b__law_taken T) .nil pass0 (pa_cons (pv 0) (pa_cons (pe_op op_add (pe_callB call_len_seq (by rfl) T.z_len PySem.boot_len (pa_cons (pv 3) pa_nil)) pe_int) pa_nil))) (pa_cons (pe_call G__law_pick (hr.mono (by decide)) (by rfl) T.m__law_pick T.F__law_pick.kp (b__law_pick T) .nil pass0 (pa_cons (pv 0) (pa_cons (pe_lst (pa_cons (pe_lst (pa_cons pe_str pa_nil)) (pa_cons (pe_lst (pa_cons pe_str pa_nil)) (pa_cons (pe_lst pa_nil) pa_nil)))) pa_nil))) pa_nil)) (by rfl))
      (pss_one (ps_set (i := 3) sc__law_branched.nd rfl (Or.inl rfl) (pe_op op_cat (pe_op op_cat (pe_op op_cat (pe_op op_cat (pe_op op_cat (pe_slice sl_list (pv 3) po_none (po_some (pv 4))) (pe_lst (pa_cons pe_str pa_nil))) (pv 5)) (pe_lst (pa_cons (pe_call G__law_taken (hr.mono (by decide)) (by rfl) T.m__law_taken T.F__law_taken.kp (b__law_taken T) .nil pass0 (pa_cons (pv 0) (pa_cons (pv 2) pa_nil))) pa_nil))) (pe_lst (pa_cons pe_str pa_nil))) (pe_slice sl_list (pv 3) (po_some (pv 4)) po_none))))) pss_nil)
    (pss_one (ps_ret (pe_callTy call_tuple_of (by rfl) T.z_tuple (by decide +kernel) (pa_cons (pv 3) pa_nil)))))), ?_⟩
    refine ⟨_, rfl, a, _, rfl, .inr (SqT.of ha), fun l nl => ?_⟩
    obtain ⟨H1, e1, s1, hl1⟩ := nw (.lst (u.map itV)) nl
    rw [← e1]
    have R1 := hR.same s1
    have nlr := hR.ne nl
    refine ⟨_, rfl, r, 3, rfl, R1, (by decide), (by decide), fun H2 v2 x2 R2 _ _ => ⟨rfl, _, rfl, ite2 (fun _ => ?_) (fun _ => ?_)⟩⟩
    · have hl2 := x2 _ _ hl1 nlr
      refine ⟨_, rfl, _, rfl, l, _, rfl, .inl (SqL.of hl2), _, _, rfl, rfl, r, _, rfl, R2, ?_, ?_, fun H3 v3 x3 R3 v30 v31 => ?_⟩
      · rw [List.length_map]; omega
      · rw [List.length_map]; omega
      rw [List.length_map] at v31
      have hl3 := x3 _ _ hl2 nlr
      refine ⟨_, rfl, (by show 1 ≤ sizeLine; decide), fun p1 n1 => ?_⟩
      obtain ⟨H4, e4, s4, h4⟩ := nw (.lst [.str "+"]) n1
      rw [← e4]
      refine ⟨(by show 1 ≤ sizeLine; decide), fun p2 n2 => ?_⟩
      obtain ⟨H5, e5, s5, h5⟩ := nw (.lst [.str "-"]) n2
      rw [← e5]
      refine ⟨Nat.zero_le _, fun p3 n3 => ?_⟩
      obtain ⟨H6, e6, s6, h6⟩ := nw (.lst []) n3
      rw [← e6]
      refine ⟨(by show 3 ≤ sizeLine; decide), fun pl npl => ?_⟩
      obtain ⟨H7, e7, s7, h7⟩ := nw (.lst [.ref p1, .ref p2, .ref p3]) npl
      rw [← e7]
      have s37 := ((s4.trans s5).trans s6).trans s7
      have R7 := R3.same s37
      have R4 := R3.same s4
      have R5 := R4.same s5
      have R6 := R5.same s6
      refine ⟨r, pl, _, rfl, R7, h7, R6.ne npl, (by show 1 ≤ 3; decide), (by show 3 ≤ 1000; decide), fun H8 v8 x8 R8 hm => ?_⟩
      have hl8 := x8 _ _ (s37 _ _ hl3) nlr
      have x18 : SameX r H H8 := ((((SameX.of s1).trans x2).trans x3).trans (SameX.of s37)).trans x8
      obtain ⟨t, q, ht, ht1, htl, rfl, hq⟩ : ∃ (t : Word) (q : Addr), noB t ∧ t.length ≤ 1 ∧ lets L t ∧ v8 = .ref q ∧ H8 q = some (.lst (t.map itV)) := by
        simp only [List.mem_cons, List.not_mem_nil, or_false] at hm
        rcases hm with rfl | rfl | rfl
        · exact ⟨[.p], p1, by simp [noB], by simp, fun n hn => by simp at hn, rfl, x8 _ _ (s7 _ _ (s6 _ _ (s5 _ _ h4))) (R3.ne n1)⟩
        · exact ⟨[.m], p2, by simp [noB], by simp, fun n hn => by simp at hn, rfl, x8 _ _ (s7 _ _ (s6 _ _ h5)) (R4.ne n2)⟩
        · exact ⟨[], p3, by simp [noB], by simp, fun n hn => by simp at hn, rfl, x8 _ _ (s7 _ _ h6) (R5.ne n3)⟩
      refine ⟨_, _, rfl, ?_⟩
      obtain ⟨kk, rfl⟩ : ∃ kk : Nat, v3 = (kk : Int) := ⟨v3.toNat, by omega⟩
      have hkk : kk ≤ u.length := by omega
      have hkk' : kk ≤ (u.map itV).length := by rw [List.length_map]; exact hkk
      have hun : (u.map itV).length ≤ 36 := by rw [List.length_map]; exact h36
      have htn : (t.map itV).length ≤ 1 := by rw [List.length_map]; exact ht1
      -- found[:at] + ['[']
      refine ⟨_, rfl, _, rfl, _, rfl, l, _, rfl, SqL.of hl8, fun q1 nq1 => ?_⟩
      rw [cut_take hkk']
      obtain ⟨H9, e9, s9, h9⟩ := nw (.lst ((u.map itV).take kk)) nq1
      rw [← e9]
      refine ⟨(by show 1 ≤ sizeLine; decide), fun q2 nq2 => ?_⟩
      obtain ⟨H10, e10, s10, h10⟩ := nw (.lst [.str "["]) nq2
      rw [← e10]
      have tk : ((u.map itV).take kk).length ≤ 36 := Nat.le_trans (List.length_take_le' ..) hun
      refine ⟨q1, q2, _, _, rfl, rfl, s10 _ _ h9, h10, small_le (by rw [List.length_singleton]; omega), fun q3 nq3 => ?_⟩
      obtain ⟨H11, e11, s11, h11⟩ := nw (.lst ((u.map itV).take kk ++ [.str "["])) nq3
      rw [← e11]
      have s811 := (s9.trans s10).trans s11
      refine ⟨_, rfl, q3, q, _, _, rfl, rfl, h11, s811 _ _ hq, small_le (by simp only [List.length_append, List.length_singleton]; omega), fun q4 nq4 => ?_⟩
      obtain ⟨H12, e12, s12, h12⟩ := nw (.lst ((u.map itV).take kk ++ [.str "["] ++ t.map itV)) nq4
      rw [← e12]
      have s812 := s811.trans s12
      have R12 := R8.same s812
      refine ⟨_, rfl, _, rfl, r, L, rfl, R12, (by omega), (by omega), fun H13 v13 x13 R13 v130 v131 => ?_⟩
      obtain ⟨nn, rfl⟩ : ∃ nn : Nat, v13 = (nn : Int) := ⟨v13.toNat, by omega⟩
      refine ⟨(by show 1 ≤ sizeLine; decide), fun q5 nq5 => ?_⟩
      obtain ⟨H14, e14, s14, h14⟩ := nw (.lst [.int (nn : Int)]) nq5
      rw [← e14]
      have R11 := R8.same s811
      refine ⟨q4, q5, _, _, rfl, rfl, s14 _ _ (x13 _ _ h12 (R11.ne nq4)), h14, small_le (by simp only [List.length_append, List.length_singleton]; omega), fun q6 nq6 => ?_⟩
      obtain ⟨H15, e15, s15, h15⟩ := nw (.lst ((u.map itV).take kk ++ [.str "["] ++ t.map itV ++ [.int (nn : Int)])) nq6
      rw [← e15]
      refine ⟨(by show 1 ≤ sizeLine; decide), fun q7 nq7 => ?_⟩
      obtain ⟨H16, e16, s16, h16⟩ := nw (.lst [.str "]"]) nq7
      rw [← e16]
      refine ⟨q6, q7, _, _, rfl, rfl, s16 _ _ h15, h16, small_le (by simp only [List.length_append, List.length_singleton]; omega), fun q8 nq8 => ?_⟩
      obtain ⟨H17, e17, s17, h17⟩ := nw (.lst ((u.map itV).take kk ++ [.str "["] ++ t.map itV ++ [.int (nn : Int)] ++ [.str "]"])) nq8
      rw [← e17]
      have s1317 := ((s14.trans s15).trans s16).trans s17
      have hl17 := s1317 _ _ (x13 _ _ (s812 _ _ hl8) nlr)
      refine ⟨_, rfl, _, rfl, _, rfl, l, _, rfl, SqL.of hl17, fun q9 nq9 => ?_⟩
      rw [cut_drop hkk']
      obtain ⟨H18, e18, s18, h18⟩ := nw (.lst ((u.map itV).drop kk)) nq9
      rw [← e18]
      have dk : ((u.map itV).drop kk).length ≤ 36 := by rw [List.length_drop]; omega
      refine ⟨q8, q9, _, _, rfl, rfl, s18 _ _ h17, h18, small_le (by simp only [List.length_append, List.length_singleton]; omega), fun q10 nq10 => ?_⟩
      obtain ⟨H19, e19, s19, h19⟩ := nw (.lst ((u.map itV).take kk ++ [.str "["] ++ t.map itV ++ [.int (nn : Int)] ++ [.str "]"] ++ (u.map itV).drop kk)) nq10
      rw [← e19]
      refine ⟨_, rfl, q10, _, rfl, .inl ⟨SqL.of h19, fun p np => ?_⟩⟩
      have s1319 := ((s1317.trans s18).trans s19).trans (sNew (o := .tup ((u.map itV).take kk ++ [.str "["] ++ t.map itV ++ [.int (nn : Int)] ++ [.str "]"] ++ (u.map itV).drop kk)) np)
      have ee : (u.map itV).take kk ++ [.str "["] ++ t.map itV ++ [.int (nn : Int)] ++ [.str "]"] ++ (u.map itV).drop kk = (brW u kk t nn).map itV := by
        unfold brW
        simp [itV, List.map_append, List.map_take, List.map_drop]
      refine k _ p (brW u kk t nn) (((x18.trans (SameX.of s812)).trans x13).trans (SameX.of s1319)) (R13.same s1319) ?_ (branch_ok ok h36 ht ht1 htl (by omega) hkk)
      exact upd_same.trans (by rw [ee])
    · refine ⟨_, rfl, l, _, rfl, .inl ⟨SqL.of (x2 _ _ hl1 nlr), fun p np => ?_⟩⟩
      exact k _ p u (((SameX.of s1).trans x2).trans (SameX.of (sNew np))) (R2.new np) upd_same ok
def spWord (K : PySem.W.Frag) : Sp := fun vs H Q _ => ∃ (r : Addr) (L m : Nat), vs = [.ref r, .int L, .int m] ∧ RowR K H r ∧ 1 ≤ L ∧ L ≤ 8 ∧ 1 ≤ m ∧ m ≤ 10 ∧
  ∀ H' p u', SameX r H H' → RowR K H' r → H' p = some (.tup (u'.map itV)) → WOk L u' → u'.length ≤ 36 → Q (.ref p) H'
theorem rot_ok {L : Nat} {u : Word} (hb : noB u) (hl : lets L u) (hh : ∃ n, Item.l n ∈ u) (h36 : u.length ≤ 36) : WOk L u ∧ WOk L (u.drop 1 ++ u.take 1) ∧ (u.drop 1 ++ u.take 1).length ≤ 36 := by
  have hm : ∀ x, x ∈ u.drop 1 ++ u.take 1 ↔ x ∈ u := fun x => by
    have e : u = u.take 1 ++ u.drop 1 := (List.take_append_drop 1 u).symm
    constructor
    · intro h
      rw [e]
      simp only [List.mem_append] at h ⊢
      exact h.symm
    · intro h
      rw [e] at h
      simp only [List.mem_append] at h ⊢
      exact h.symm
  have hlen : (u.drop 1 ++ u.take 1).length = u.length := by
    simp only [List.length_append, List.length_drop, List.length_take]
    omega
  obtain ⟨n, hn⟩ := hh
  exact ⟨⟨by omega, hl, bal_noB hb, n, hn⟩, ⟨by omega, fun m h => hl m ((hm _).mp h), bal_noB ⟨fun z => hb.1 ((hm _).mp z), fun z => hb.2 ((hm _).mp z)⟩, n, (hm _).mpr hn⟩, by omega⟩
theorem ok_word (T : Txt K mg A) : FnOk P w K mg base CX0 3 A._law_word A.d__law_word ["_law_row", "_law_letters", "_law_most"] (spWord K) := by
  have G__law_taken : FnOk P w K mg base CX0 1 A._law_taken A.d__law_taken ["_law_row", "_law_many"] (spTaken K) := ok_taken T
  have G__law_pick : FnOk P w K mg base CX0 2 A._law_pick A.d__law_pick ["_law_row", "_law_things"] (spPick K) := ok_pick T
  refine T.F__law_word.ok sc__law_word (fun vs H Q E h => ?_) (fun cdv A' outer s H vs Q E hr h => ?_)
  · obtain ⟨r, L, m, rfl, _⟩ := h
    rfl
  · obtain ⟨r, L, m, rfl, hR, hL1, hL8, hm1, hm10, k⟩ := h
    refine ⟨_, (pss_cons (ps_set (i := 3) sc__law_word.nd rfl (Or.inl rfl) (pe_lst pa_nil))
    (pss_cons (ps_for PassesOwn.never rfl (pi_range1 (by rfl) T.z_range (pa_cons (pe_op op_add pe_int (pe_call G__law_taken (hr.mono (by decide)) (by rfl) T.m__law_taken T.F__law_taken.kp (b__law_taken T) .nil pass0 (pa_cons (pv 0) (pa_cons (pv 2) pa_nil)))) pa_nil)) (pg_name (i := 4) sc__law_word.nd rfl (Or.inl rfl))
      (pss_cons (ps_expr (pe_bm PySem.F.plainAttrs_list PySem.F.slot_list_append PySem.F.type_list_append mt_append (pv 3) (pa_cons (pe_call G__law_taken (hr.mono (by decide)) (by rfl) T.m__law_taken T.F__law_taken.kp (b__law_taken T) .nil pass0 (pa_cons (pv 0) (pa_cons (pv 1) pa_nil))) pa_nil)))
      (pss_one (ps_if (pt_cmpR op_eq (pe_call G__law_taken (hr.mono (by decide)) (by rfl) T.m__law_taken T.F__law_taken.kp (b__law_taken T) .nil pass0 (pa_cons (pv 0) (pa_cons pe_int pa_nil))) pe_int (nomark _)) (pss_one (ps_expr (pe_bm PySem.F.plainAttrs_list PySem.F.slot_list_append PySem.F.type_list_append mt_append (pv 3) (pa_cons (pe_call G__law_pick (hr.mono (by decide)) (by rfl) T.m__law_pick T.F__law_pick.kp (b__law_pick T) .nil pass0 (pa_cons (pv 0) (pa_cons (pe_lst (pa_cons pe_str (pa_cons pe_str pa_nil))) pa_nil))) pa_nil)))) pss_nil))))
    (pss_one (ps_ret (pe_ifExp (pt_cmpR op_eq (pe_call G__law_taken (hr.mono (by decide)) (by rfl) T.m__law_taken T.F__law_taken.kp (b__law_taken T) .nil pass0 (pa_cons (pv 0) (pa_cons pe_int pa_nil))) pe_int (nomark _)) (pe_callTy call_tuple_of (by rfl) T.z_tuple (by decide +kernel) (pa_cons (pe_op op_cat (pe_slice sl_list (pv 3) (po_some pe_int) po_none) (pe_slice sl_list (pv 3) po_none (po_some pe_int))) pa_nil)) (pe_callTy call_tuple_of (by rfl) T.z_tuple (by decide +kernel) (pa_cons (pv 3) pa_nil))))))), ?_⟩
    refine ⟨Nat.zero_le _, fun l nl => ?_⟩
    obtain ⟨H1, e1, s1, hl1⟩ := nw (.lst []) nl
    rw [← e1]
    have R1 := hR.same s1
    have nlr := hR.ne nl
    refine ⟨_, rfl, _, rfl, r, m, rfl, R1, (by omega), (by omega), fun H2 v2 x2 R2 v20 v21 => ?_⟩
    refine ⟨_, _, rfl, rfl, _, rfl, (by show -(2 ^ 62) ≤ 1 + v2; omega), (by show 1 + v2 < 2 ^ 62; omega), ?_⟩
    obtain ⟨cc, rfl⟩ : ∃ cc : Nat, v2 = (cc : Int) := ⟨v2.toNat, by omega⟩
    have hcc : cc < 10 := by omega
    have ecc : (1 + (cc : Int)).toNat = cc + 1 := by omega
    refine for_range (lo := 0) (n := (1 + (cc : Int)).toNat) (fun i σ H' => ∃ (v : Option V) (u : Word), σ = [some (.ref r), some (.int L), some (.int m), some (.ref l), v] ∧ SameX r H H' ∧ RowR K H' r ∧ H' l = some (.lst (u.map itV)) ∧
        noB u ∧ lets L u ∧ u.length ≤ 2 * i ∧ (1 ≤ i → ∃ n, Item.l n ∈ u))
      ⟨none, [], rfl, (SameX.of s1).trans x2, R2, x2 _ _ hl1 nlr, ⟨by simp, by simp⟩, fun n hn => by simp at hn, Nat.le_refl _, fun h => by omega⟩ ?_ ?_
    · rintro i σ H3 hi ⟨v, u, rfl, x3, R3, hl3, hb, hlt, hlen, hh⟩
      have hi11 : i ≤ 10 := by omega
      refine ⟨_, rfl, .inl ⟨rfl, _, SqL.of hl3⟩, _, rfl, _, rfl, r, L, rfl, R3, (by omega), (by omega), fun H4 v4 x4 R4 v40 v41 => ?_⟩
      have hl4 := x4 _ _ hl3 nlr
      obtain ⟨nn, rfl⟩ : ∃ nn : Nat, v4 = (nn : Int) := ⟨v4.toNat, by omega⟩
      have hn : nn < L := by omega
      refine ⟨l, _, _, rfl, rfl, hl4, small_lt (by rw [List.length_map]; omega), ?_⟩
      have R5 : RowR K (upd H4 l (.lst (u.map itV ++ [.int (nn : Int)]))) r := R4.upd hl4 nlr
      have x5 : SameX r H (upd H4 l (.lst (u.map itV ++ [.int (nn : Int)]))) := (x3.trans x4).mut nl
      have hl5 : (upd H4 l (.lst (u.map itV ++ [.int (nn : Int)]))) l = some (.lst (List.map itV (u ++ [.l nn]))) := by
        rw [upd_same, List.map_append]
        rfl
      generalize upd H4 l _ = H5 at *
      have hb5 : noB (u ++ [.l nn]) := ⟨fun z => by simp at z; exact hb.1 z, fun z => by simp at z; exact hb.2 z⟩
      have hlt5 : lets L (u ++ [.l nn]) := fun n h => by
        simp at h
        rcases h with h | h
        · exact hlt n h
        · omega
      refine ⟨_, rfl, r, 2, rfl, R5, (by decide), (by decide), fun H6 v6 x6 R6 _ _ => ⟨rfl, _, rfl, ite2 (fun _ => ?_) (fun _ => ?_)⟩⟩
      · have hl6 := x6 _ _ hl5 nlr
        refine ⟨_, rfl, .inl ⟨rfl, _, SqL.of hl6⟩, _, rfl, (by show 2 ≤ sizeLine; decide), fun pl npl => ?_⟩
        obtain ⟨H7, e7, s7, h7⟩ := nw (.lst [.str "+", .str "-"]) npl
        rw [← e7]
        refine ⟨r, pl, _, rfl, R6.same s7, h7, R6.ne npl, (by show 1 ≤ 2; decide), (by show 2 ≤ 1000; decide), fun H8 v8 x8 R8 hm8 => ?_⟩
        have hl8 := x8 _ _ (s7 _ _ hl6) nlr
        obtain ⟨t, rfl, ht1, ht2, ht3⟩ : ∃ t : Item, v8 = itV t ∧ t ≠ .o ∧ t ≠ .c ∧ isL t = false := by
          simp only [List.mem_cons, List.not_mem_nil, or_false] at hm8
          rcases hm8 with rfl | rfl
          · exact ⟨.p, rfl, by simp, by simp, rfl⟩
          · exact ⟨.m, rfl, by simp, by simp, rfl⟩
        refine ⟨l, _, _, rfl, rfl, hl8, small_lt (by rw [List.length_map]; simp only [List.length_append, List.length_singleton]; omega), ?_⟩
        refine ⟨_, u ++ [.l nn] ++ [t], rfl, (((x5.trans x6).trans (SameX.of s7)).trans x8).mut nl, R8.upd hl8 nlr, ?_, ⟨fun z => ?_, fun z => ?_⟩, fun n h => ?_, ?_, fun _ => ⟨nn, by simp⟩⟩
        · rw [upd_same]
          simp
        · rcases List.mem_append.mp z with z | z
          · exact hb5.1 z
          · exact ht1 (List.mem_singleton.mp z).symm
        · rcases List.mem_append.mp z with z | z
          · exact hb5.2 z
          · exact ht2 (List.mem_singleton.mp z).symm
        · rcases List.mem_append.mp h with z | z
          · exact hlt5 n z
          · rw [← List.mem_singleton.mp z] at ht3
            cases ht3
        · simp only [List.length_append, List.length_singleton]
          omega
      · exact ⟨_, u ++ [.l nn], rfl, x5.trans x6, R6, x6 _ _ hl5 nlr, hb5, hlt5, by simp only [List.length_append, List.length_singleton]; omega, fun _ => ⟨nn, by simp⟩⟩
    · rintro σ H3 ⟨v, u, rfl, x3, R3, hl3, hb, hlt, hlen, hh⟩
      rw [ecc] at hlen hh
      have h36 : u.length ≤ 36 := by omega
      obtain ⟨o1, o2, o3⟩ := rot_ok hb hlt (hh (by omega)) h36
      have hu1 : 1 ≤ (u.map itV).length := by rw [List.length_map]; exact o1.pos
      refine ⟨_, rfl, r, 3, rfl, R3, (by decide), (by decide), fun H4 v4 x4 R4 _ _ => ⟨rfl, _, rfl, ite2 (fun _ => ?_) (fun _ => ?_)⟩⟩
      · have hl4 := x4 _ _ hl3 nlr
        refine ⟨_, rfl, _, rfl, l, _, rfl, SqL.of hl4, fun q1 n1 => ?_⟩
        obtain ⟨H5, e5, s5, h5⟩ := nw (.lst (cutV (u.map itV) (some 1) none)) n1
        rw [← e5]
        refine ⟨_, rfl, _, rfl, l, _, rfl, SqL.of (s5 _ _ hl4), fun q2 n2 => ?_⟩
        obtain ⟨H6, e6, s6, h6⟩ := nw (.lst (cutV (u.map itV) none (some 1))) n2
        rw [← e6]
        have c1 : cutV (u.map itV) (some 1) none = (u.map itV).drop 1 := cut_drop (k := 1) hu1
        have c2 : cutV (u.map itV) none (some 1) = (u.map itV).take 1 := cut_take (k := 1) hu1
        rw [c1] at h5
        rw [c2] at h6
        have lu : ((u.drop 1 ++ u.take 1).map itV).length ≤ 36 := by rw [List.length_map]; exact o3
        have em : (u.map itV).drop 1 ++ (u.map itV).take 1 = (u.drop 1 ++ u.take 1).map itV := by rw [List.map_append, List.map_drop, List.map_take]
        refine ⟨q1, q2, _, _, rfl, rfl, s6 _ _ h5, h6, small_le (by rw [← List.length_append, em]; omega), fun q3 n3 => ?_⟩
        rw [em]
        obtain ⟨H7, e7, s7, h7⟩ := nw (.lst ((u.drop 1 ++ u.take 1).map itV)) n3
        rw [← e7]
        refine ⟨q3, _, rfl, .inl ⟨SqL.of h7, fun p np => ?_⟩⟩
        have s47 := ((s5.trans s6).trans s7).trans (sNew (o := .tup ((u.drop 1 ++ u.take 1).map itV)) np)
        exact k _ p _ ((x3.trans x4).trans (SameX.of s47)) (R4.same s47) upd_same o2 o3
      · refine ⟨_, rfl, l, _, rfl, .inl ⟨SqL.of (x4 _ _ hl3 nlr), fun p np => ?_⟩⟩
        exact k _ p u ((x3.trans x4).trans (SameX.of (sNew np))) (R4.new np) upd_same o1 h36
def spBook (K : PySem.W.Frag) : Sp := fun vs H Q _ => ∃ (r : Addr), vs = [.ref r] ∧ RowR K H r ∧ ∀ H' p ws st, SameX r H H' → RowR K H' r → BookAt H' p ws st → BOk ws st → Q (.ref p) H'
theorem tups_x {r : Addr} {H H' : Hp} (s : SameX r H H') (h : RowR K H r) : ∀ a xs, H a = some (.tup xs) → H' a = some (.tup xs) := fun a xs e => by
  obtain ⟨_, _, _, _, _, h1, _⟩ := h
  exact s _ _ e (ne_of e h1 (by intro z; cases z))
theorem ok_book (T : Txt K mg A) : FnOk P w K mg base CX0 4 A._law_book A.d__law_book ["_law_row"] (spBook K) := by
  have G__law_taken : FnOk P w K mg base CX0 1 A._law_taken A.d__law_taken ["_law_row", "_law_many"] (spTaken K) := ok_taken T
  have G__law_word : FnOk P w K mg base CX0 3 A._law_word A.d__law_word ["_law_row", "_law_letters", "_law_most"] (spWord K) := ok_word T
  have G__law_branched : FnOk P w K mg base CX0 3 A._law_branched A.d__law_branched ["_law_row", "_law_word_here", "_law_letters"] (spBranched K) := ok_branched T
  refine T.F__law_book.ok sc__law_book (fun vs H Q E h => ?_) (fun cdv A' outer s H vs Q E hr h => ?_)
  · obtain ⟨r, rfl, _⟩ := h
    rfl
  · obtain ⟨r, rfl, hR, k⟩ := h
    refine ⟨_, (pss_cons (ps_set (i := 1) sc__law_book.nd rfl (Or.inr rfl) (pe_op op_add pe_int (pe_call G__law_taken (hr.mono (by decide)) (by rfl) T.m__law_taken T.F__law_taken.kp (b__law_taken T) .nil pass0 (pa_cons (pv 0) (pa_cons pe_int pa_nil)))))
    (pss_cons (ps_set (i := 2) sc__law_book.nd rfl (Or.inl rfl) (pe_callTy call_tuple_of (by rfl) T.z_tuple (by decide +kernel) (pa_cons (pe_lc (own := [("_law_k", 3)]) (g := gName 3) (tt := tYes) rfl sc__law_book.nd (pi_range1 (by rfl) T.z_range (pa_cons (pv 1) pa_nil)) (blkOk_by (own := [("_law_k", 3)]) (N := ["_law_row", "_law_letters", "_law_words", "_law_k"]) (sc := defScope s__law_book) (by decide +kernel)) (fun _ _ _ _ _ => pg_name (i := 3) sc__law_book.nd rfl (Or.inl rfl)) (fun _ _ _ _ _ => pts_nil) (fun _ _ _ _ _ => (pe_call G__law_branched (hr.mono (by decide)) (by rfl) T.m__law_branched T.F__law_branched.kp (b__law_branched T) .nil pass0 (pa_cons (pv 0) (pa_cons (pe_call G__law_word (hr.mono (by decide)) (by rfl) T.m__law_word T.F__law_word.kp (b__law_word T) .nil pass0 (pa_cons (pv 0) (pa_cons (pv 1) (pa_cons pe_int pa_nil)))) (pa_cons (pv 1) pa_nil)))))) pa_nil)))
    (pss_one (ps_ret (pe_tup (pa_cons (pv 2) (pa_cons (pe_call G__law_branched (hr.mono (by decide)) (by rfl) T.m__law_branched T.F__law_branched.kp (b__law_branched T) .nil pass0 (pa_cons (pv 0) (pa_cons (pe_call G__law_word (hr.mono (by decide)) (by rfl) T.m__law_word T.F__law_word.kp (b__law_word T) .nil pass0 (pa_cons (pv 0) (pa_cons (pv 1) (pa_cons pe_int pa_nil)))) (pa_cons (pv 1) pa_nil)))) pa_nil))))))), ?_⟩
    refine ⟨_, rfl, r, 3, rfl, hR, (by decide), (by decide), fun H1 v1 x1 R1 v10 v11 => ?_⟩
    obtain ⟨cc, rfl⟩ : ∃ cc : Nat, v1 = (cc : Int) := ⟨v1.toNat, by omega⟩
    have hcc : cc < 3 := by omega
    have ecc : (1 : Int) + (cc : Int) = ((cc + 1 : Nat) : Int) := by omega
    refine ⟨_, _, rfl, rfl, ?_⟩
    have en : (1 + (cc : Int)).toNat = cc + 1 := by omega
    have eL : ∀ m : Nat, [V.ref r, V.int (1 + (cc : Int)), V.int m] = [V.ref r, V.int ((cc + 1 : Nat) : Int), V.int m] := fun m => by rw [ecc]
    have eB : ∀ p : Addr, [V.ref r, V.ref p, V.int (1 + (cc : Int))] = [V.ref r, V.ref p, V.int ((cc + 1 : Nat) : Int)] := fun p => by rw [ecc]
    refine ⟨_, rfl, _, rfl, (by show -(2 ^ 62) ≤ 1 + (cc : Int); omega), (by show 1 + (cc : Int) < 2 ^ 62; omega), fun D hD => ?_⟩
    have nDr := R1.ne hD
    have hD0 : H D = none := x1.free nDr hD
    refine lc_range (lo := 0) (n := (1 + (cc : Int)).toNat) (fun i H' => SameX r H H' ∧ RowR K H' r ∧ ∃ (vs : List V) (ws : List Word), H' D = some (.lst vs) ∧ WordsAt H' vs ws ∧ ws.length = i ∧ ∀ u ∈ ws, WOk (cc + 1) u)
      ⟨x1.trans (SameX.of (sNew hD)), R1.new hD, [], [], upd_same, trivial, rfl, fun u hu => by simp at hu⟩ ?_ ?_
    · rintro i H2 hi ⟨x2, R2, vs, ws, hD2, hws, hwl, hok⟩
      refine ⟨rfl, _, rfl, _, rfl, _, rfl, r, cc + 1, 3, eL 3, R2, (by omega), (by omega), (by decide), (by decide), fun H3 p3 u3 x3 R3 hp3 ok3 h363 => ?_⟩
      refine ⟨_, rfl, r, p3, u3, cc + 1, eB p3, R3, hp3, ok3, h363, (by omega), (by omega), fun H4 p4 u4 x4 R4 hp4 ok4 => ?_⟩
      have x24 := x3.trans x4
      have hD4 := x24 _ _ hD2 nDr
      have t5 : ∀ a xs, H4 a = some (.tup xs) → (upd H4 D (.lst (vs ++ [.ref p4]))) a = some (.tup xs) := fun a xs h => by
        rw [upd_ne (ne_of h hD4 (by intro z; cases z))]
        exact h
      refine ⟨vs, hD4, small_lt (by rw [hws.len]; omega), (x2.trans x24).mut hD0, R4.upd hD4 nDr, vs ++ [.ref p4], ws ++ [u4], upd_same, ((hws.same (tups_x x24 R2)).same t5).app ⟨p4, rfl, t5 _ _ hp4⟩, by simp [hwl], fun u hu => ?_⟩
      rcases List.mem_append.mp hu with hu | hu
      · exact hok u hu
      · rw [List.mem_singleton.mp hu]
        exact ok4
    · rintro H2 ⟨x2, R2, vs, ws, hD2, hws, hwl, hok⟩
      rw [en] at hwl
      refine ⟨D, _, rfl, .inl ⟨SqL.of hD2, fun pw npw => ?_⟩⟩
      obtain ⟨H3, e3, s3, hpw⟩ := nw (.tup vs) npw
      rw [← e3]
      have R3 := R2.same s3
      refine ⟨_, rfl, _, rfl, _, rfl, _, rfl, r, cc + 1, 3, eL 3, R3, (by omega), (by omega), (by decide), (by decide), fun H4 p4 u4 x4 R4 hp4 ok4 h364 => ?_⟩
      refine ⟨_, rfl, r, p4, u4, cc + 1, eB p4, R4, hp4, ok4, h364, (by omega), (by omega), fun H5 p5 u5 x5 R5 hp5 ok5 => ?_⟩
      refine ⟨(by show 2 ≤ sizeLine; decide), fun p np => ?_⟩
      have s6 := sNew (o := .tup [.ref pw, .ref p5]) np
      have x35 := x4.trans x5
      refine k _ p ws u5 (((x2.trans (SameX.of s3)).trans x35).trans (SameX.of s6)) (R5.same s6) ⟨pw, p5, vs, upd_same, s6 _ _ (tups_x x35 R3 _ _ hpw), ((hws.same (tups_of s3)).same (tups_x x35 R3)).same (tups_of s6), s6 _ _ hp5⟩ ?_
      exact ⟨by omega, by omega, fun u hu => by rw [hwl]; exact hok u hu, by rw [hwl]; exact ok5⟩
end
end My
end
section
set_option maxRecDepth 100000
set_option maxHeartbeats 4000000
namespace My
open PySem L2
/-- behind a statement that goes on by more than one way -/
theorem seq_cut {t u : TS} {D : Ends} {σ : St} {H : Hp} (Pm : St → Hp → Prop) (h1 : ∀ nx : St → Hp → Prop, (∀ σ' H', Pm σ' H' → nx σ' H') → t { D with nx := nx } σ H) (h2 : ∀ σ' H', Pm σ' H' → u D σ' H') : tSeq t u D σ H :=
  h1 (u D) h2
theorem rep_map {k : Nat} {c : Int} : (List.replicate k [V.int c]).flatten = (List.replicate k c).map V.int := by
  rw [List.flatten_replicate_singleton, List.map_replicate]
theorem rep_str {k : Nat} : (List.replicate k [V.str "+"]).flatten = (List.replicate k Item.p).map itV := by
  rw [List.flatten_replicate_singleton, List.map_replicate]
  rfl
section
variable {P : Program} {w : World} {K : PySem.W.Frag} {mg : Str → Option Value} {base : Heap} {A : Adr}
def spEvenWord (K : PySem.W.Frag) : Sp := fun vs H Q _ => ∃ (r a : Addr) (L : Nat) (mx my : Int), vs = [.ref r, .int L, .ref a] ∧ RowR K H r ∧ H a = some (.tup [.int mx, .int my]) ∧ 1 ≤ L ∧ L ≤ 8 ∧ mx.natAbs ≤ 3 ∧ my.natAbs ≤ 3 ∧ (mx ≠ 0 ∨ my ≠ 0) ∧
  ∀ H' p u', SameX r H H' → RowR K H' r → H' p = some (.tup (u'.map itV)) → WOk L u' → u'.length ≤ 36 → Q (.ref p) H'
theorem turn_ok {L n : Nat} {u t : Word} (hu : noB u ∧ lets L u) (ht : noB t ∧ lets 0 t) (hn : n < L) : noB (u ++ t ++ [.l n]) ∧ lets L (u ++ t ++ [.l n]) := by
  refine ⟨⟨fun z => ?_, fun z => ?_⟩, fun m hm => ?_⟩
  · simp at z
    exact z.elim hu.1.1 ht.1.1
  · simp at z
    exact z.elim hu.1.2 ht.1.2
  · simp at hm
    rcases hm with hm | hm | hm
    · exact hu.2 m hm
    · exact absurd (ht.2 m hm) (Nat.not_lt_zero _)
    · omega
theorem plus_ok (k : Nat) : noB (List.replicate k Item.p) ∧ lets 0 (List.replicate k Item.p) := by
  refine ⟨⟨fun z => ?_, fun z => ?_⟩, fun m z => ?_⟩
  · cases List.eq_of_mem_replicate z
  · cases List.eq_of_mem_replicate z
  · cases List.eq_of_mem_replicate z
theorem minus_ok : noB [Item.m] ∧ lets 0 [Item.m] := ⟨⟨by simp, by simp⟩, fun m z => by simp at z⟩
theorem ok_even_word (T : Txt K mg A) : FnOk P w K mg base CX0 2 A._law_even_word A.d__law_even_word ["_law_row", "_law_letters", "_law_move"] (spEvenWord K) := by
  have G__law_taken : FnOk P w K mg base CX0 1 A._law_taken A.d__law_taken ["_law_row", "_law_many"] (spTaken K) := ok_taken T
  refine T.F__law_even_word.ok sc__law_even_word (fun vs H Q E h => ?_) (fun cdv A' outer s H vs Q E hr h => ?_)
  · obtain ⟨r, a, L, mx, my, rfl, _⟩ := h
    rfl
  · obtain ⟨r, a, L, mx, my, rfl, hR, ha, hL1, hL8, hx3, hy3, hne, k⟩ := h
    refine ⟨_, (pss_cons (ps_set (i := 3) sc__law_even_word.nd rfl (Or.inl rfl) (pe_ifExp (pt_cmpR op_gt (pe_ix ix_tup (pv 2) pe_int (fun _ _ => rfl)) pe_int (nomark _)) (pe_op op_rep (pe_lst (pa_cons pe_int pa_nil)) (pe_callB call_abs (by rfl) T.z_abs (by decide +kernel) (pa_cons (pe_ix ix_tup (pv 2) pe_int (fun _ _ => rfl)) pa_nil))) (pe_op op_rep (pe_lst (pa_cons pe_int pa_nil)) (pe_callB call_abs (by rfl) T.z_abs (by decide +kernel) (pa_cons (pe_ix ix_tup (pv 2) pe_int (fun _ _ => rfl)) pa_nil)))))
    (pss_cons (ps_set (i := 3) sc__law_even_word.nd rfl (Or.inl rfl) (pe_op op_cat (pv 3) (pe_ifExp (pt_cmpR op_gt (pe_ix ix_tup (pv 2) pe_int (fun _ _ => rfl)) pe_int (nomark _)) (pe_op op_rep (pe_lst (pa_cons pe_int pa_nil)) (pe_callB call_abs (by rfl) T.z_abs (by decide +kernel) (pa_cons (pe_ix ix_tup (pv 2) pe_int (fun _ _ => rfl)) pa_nil))) (pe_op op_rep (pe_lst (pa_cons pe_int pa_nil)) (pe_callB call_abs (by rfl) T.z_abs (by decide +kernel) (pa_cons (pe_ix ix_tup (pv 2) pe_int (fun _ _ => rfl)) pa_nil))))))
    (pss_cons (ps_if (pt_cmpR op_eq (pe_call G__law_taken (hr.mono (by decide)) (by rfl) T.m__law_taken T.F__law_taken.kp (b__law_taken T) .nil pass0 (pa_cons (pv 0) (pa_cons pe_int pa_nil))) pe_int (nomark _)) (pss_cons (ps_set (i := 4) sc__law_even_word.nd rfl (Or.inl rfl) (pe_call G__law_taken (hr.mono (by decide)) (by rfl) T.m__law_taken T.F__law_taken.kp (b__law_taken T) .nil pass0 (pa_cons (pv 0) (pa_cons pe_int pa_nil))))
      (pss_one (ps_set (i := 3) sc__law_even_word.nd rfl (Or.inl rfl) (pe_op op_cat (pv 3) (pe_lst (pa_cons (pv 4) (pa_cons (pe_op op_mod (pe_callTy call_int1 (by rfl) T.z_int (by decide +kernel) (pa_cons (pe_op op_add (pv 4) pe_int) pa_nil)) pe_int) pa_nil))))))) pss_nil)
    (pss_cons (ps_par (i := 5) (j := 6) rfl sc__law_even_word.nd rfl rfl (by decide) rfl rfl (pa_cons (pe_lst pa_nil) (pa_cons pe_int pa_nil)) (by rfl))
    (pss_cons (ps_while PassesOwn.never (pt_cmpR (op_neD hr.units) (pv 3) (pe_lst pa_nil) (nomark _))
      (pss_cons (ps_set (i := 7) sc__law_even_word.nd rfl (Or.inl rfl) (pe_bm PySem.F.plainAttrs_list PySem.F.slot_list_pop PySem.F.type_list_pop mt_popAt (pv 3) (pa_cons (pe_call G__law_taken (hr.mono (by decide)) (by rfl) T.m__law_taken T.F__law_taken.kp (b__law_taken T) .nil pass0 (pa_cons (pv 0) (pa_cons (pe_callB call_len_seq (by rfl) T.z_len PySem.boot_len (pa_cons (pv 3) pa_nil)) pa_nil))) pa_nil)))
      (pss_cons (ps_set (i := 8) sc__law_even_word.nd rfl (Or.inl rfl) (pe_op op_mod (pe_callTy call_int1 (by rfl) T.z_int (by decide +kernel) (pa_cons (pe_op op_sub (pv 7) (pv 6)) pa_nil)) pe_int))
      (pss_cons (ps_set (i := 5) sc__law_even_word.nd rfl (Or.inl rfl) (pe_op op_cat (pe_op op_cat (pv 5) (pe_ifExp (pt_cmpR op_eq (pv 8) pe_int (nomark _)) (pe_lst (pa_cons pe_str pa_nil)) (pe_op op_rep (pe_lst (pa_cons pe_str pa_nil)) (pv 8)))) (pe_lst (pa_cons (pe_call G__law_taken (hr.mono (by decide)) (by rfl) T.m__law_taken T.F__law_taken.kp (b__law_taken T) .nil pass0 (pa_cons (pv 0) (pa_cons (pv 1) pa_nil))) pa_nil))))
      (pss_one (ps_set (i := 6) sc__law_even_word.nd rfl (Or.inl rfl) (pv 7)))))))
    (pss_cons (ps_set (i := 8) sc__law_even_word.nd rfl (Or.inl rfl) (pe_op op_mod (pe_callTy call_int1 (by rfl) T.z_int (by decide +kernel) (pa_cons (pe_op op_sub pe_int (pv 6)) pa_nil)) pe_int))
    (pss_one (ps_ret (pe_callTy call_tuple_of (by rfl) T.z_tuple (by decide +kernel) (pa_cons (pe_op op_cat (pv 5) (pe_ifExp (pt_cmpR op_eq (pv 8) pe_int (nomark _)) (pe_lst (pa_cons pe_str pa_nil)) (pe_op op_rep (pe_lst (pa_cons pe_str pa_nil)) (pv 8)))) pa_nil)))))))))), ?_⟩
    refine seq_cut (fun σ H1 => ∃ (p : Addr) (ss : List Int), σ = [some (.ref r), some (.int L), some (.ref a), some (.ref p), none, none, none, none, none] ∧ H p = none ∧ Same H H1 ∧ H1 p = some (.lst (ss.map V.int)) ∧ ss.length = mx.natAbs) (fun nx hnx => ?_) ?_
    · have fin : ∀ (c : Int) (q : Addr) (H1 : Hp), H q = none → Same H H1 → H1 q = some (.lst [.int c]) →
          rRep (.ref q) (.int (if mx < 0 then -mx else mx)) H1 (fun x H2 => nx ([some (.ref r), some (.int L), some (.ref a), some x, none, none, none, none, none]) H2) := fun c q H1 nq s1 hq => by
        have e : (if mx < 0 then -mx else mx) = (mx.natAbs : Int) := by split <;> omega
        refine ⟨q, _, _, rfl, rfl, hq, by rw [e]; omega, by rw [e]; omega, small_le (by rw [e]; simp; omega), fun p np => hnx _ _ ⟨p, List.replicate mx.natAbs c, rfl, s1.free np, s1.trans (sNew np), ?_, by simp⟩⟩
        rw [upd_same, e, Int.toNat_natCast, rep_map]
      refine ⟨_, rfl, a, _, _, _, rfl, rfl, SqT.of ha, atI_nat (j := 0) rfl, mx, 0, rfl, rfl, _, rfl, ite2 (fun _ => ?_) (fun _ => ?_)⟩
      · refine ⟨by show 1 ≤ sizeLine; decide, fun q nq => ?_⟩
        obtain ⟨H1, e1, s1, hq⟩ := nw (.lst [.int 0]) nq
        rw [← e1]
        exact ⟨_, rfl, a, _, _, _, rfl, rfl, SqT.of (s1 _ _ ha), atI_nat (j := 0) rfl, mx, rfl, fin 0 q H1 nq s1 hq⟩
      · refine ⟨by show 1 ≤ sizeLine; decide, fun q nq => ?_⟩
        obtain ⟨H1, e1, s1, hq⟩ := nw (.lst [.int 2]) nq
        rw [← e1]
        exact ⟨_, rfl, a, _, _, _, rfl, rfl, SqT.of (s1 _ _ ha), atI_nat (j := 0) rfl, mx, rfl, fin 2 q H1 nq s1 hq⟩
    rintro σ H1 ⟨p1, ss1, rfl, np1, s1, hp1, hl1⟩
    refine seq_cut (fun σ H2 => ∃ (p : Addr) (ss : List Int), σ = [some (.ref r), some (.int L), some (.ref a), some (.ref p), none, none, none, none, none] ∧ H p = none ∧ Same H H2 ∧ H2 p = some (.lst (ss.map V.int)) ∧ ss.length = mx.natAbs + my.natAbs) (fun nx hnx => ?_) ?_
    · have fin : ∀ (c : Int) (q : Addr) (H2 : Hp), Same H1 H2 → H2 q = some (.lst [.int c]) →
          rRep (.ref q) (.int (if my < 0 then -my else my)) H2 (fun x H3 => rCat (.ref p1) x H3 (fun x H4 => nx ([some (.ref r), some (.int L), some (.ref a), some x, none, none, none, none, none]) H4)) := fun c q H2 s2 hq => by
        have e : (if my < 0 then -my else my) = (my.natAbs : Int) := by split <;> omega
        refine ⟨q, _, _, rfl, rfl, hq, by rw [e]; omega, by rw [e]; omega, small_le (by rw [e]; simp; omega), fun p np => ?_⟩
        rw [e, Int.toNat_natCast, rep_map]
        obtain ⟨H3, e3, s3, hp⟩ := nw (.lst ((List.replicate my.natAbs c).map V.int)) np
        rw [← e3]
        refine ⟨p1, p, _, _, rfl, rfl, s3 _ _ (s2 _ _ hp1), hp, small_le (by simp; omega), fun p2 np2 => hnx _ _ ⟨p2, ss1 ++ List.replicate my.natAbs c, rfl, ((s1.trans s2).trans s3).free np2, ((s1.trans s2).trans s3).trans (sNew np2), ?_, by simp [hl1]⟩⟩
        rw [upd_same, List.map_append]
      refine ⟨_, rfl, _, rfl, a, _, _, _, rfl, rfl, SqT.of (s1 _ _ ha), atI_nat (j := 1) rfl, my, 0, rfl, rfl, _, rfl, ite2 (fun _ => ?_) (fun _ => ?_)⟩
      · refine ⟨by show 1 ≤ sizeLine; decide, fun q nq => ?_⟩
        obtain ⟨H2, e2, s2, hq⟩ := nw (.lst [.int 1]) nq
        rw [← e2]
        exact ⟨_, rfl, a, _, _, _, rfl, rfl, SqT.of (s2 _ _ (s1 _ _ ha)), atI_nat (j := 1) rfl, my, rfl, fin 1 q H2 s2 hq⟩
      · refine ⟨by show 1 ≤ sizeLine; decide, fun q nq => ?_⟩
        obtain ⟨H2, e2, s2, hq⟩ := nw (.lst [.int 3]) nq
        rw [← e2]
        exact ⟨_, rfl, a, _, _, _, rfl, rfl, SqT.of (s2 _ _ (s1 _ _ ha)), atI_nat (j := 1) rfl, my, rfl, fin 3 q H2 s2 hq⟩
    rintro σ H2 ⟨p2, ss2, rfl, np2, s2, hp2, hl2⟩
    have R2 := hR.same s2
    refine seq_cut (fun σ H3 => ∃ (p : Addr) (ss : List Int) (v : Option V), σ = [some (.ref r), some (.int L), some (.ref a), some (.ref p), v, none, none, none, none] ∧ H p = none ∧ SameX r H H3 ∧ RowR K H3 r ∧ H3 p = some (.lst (ss.map V.int)) ∧ 1 ≤ ss.length ∧ ss.length ≤ 8) (fun nx hnx => ?_) ?_
    · have np2r : p2 ≠ r := hR.ne np2
      refine ⟨_, rfl, r, 3, rfl, R2, (by decide), (by decide), fun H3 v3 x3 R3 _ _ => ⟨rfl, _, rfl, ite2 (fun _ => ?_) (fun _ => ?_)⟩⟩
      · refine ⟨_, rfl, r, 4, rfl, R3, (by decide), (by decide), fun H4 v4 x4 R4 _ _ => ?_⟩
        have hp4 := x4 _ _ (x3 _ _ hp2 np2r) np2r
        refine ⟨_, rfl, _, rfl, _, rfl, _, _, rfl, rfl, .inl ⟨_, rfl, _, _, rfl, rfl, (by show (0 : Int) < 4; decide), (by show 2 ≤ sizeLine; decide), fun q nq => ?_⟩⟩
        obtain ⟨H5, e5, s5, hq⟩ := nw (.lst [.int v4, .int ((v4 + 2) % 4)]) nq
        rw [← e5]
        refine ⟨p2, q, _, _, rfl, rfl, s5 _ _ hp4, hq, small_le (by simp; omega), fun p np => ?_⟩
        have x5 : SameX r H H5 := (((SameX.of s2).trans x3).trans x4).trans (SameX.of s5)
        have R5 := R4.same s5
        refine hnx _ _ ⟨p, ss2 ++ [v4, (v4 + 2) % 4], _, rfl, x5.free (R5.ne np) np, x5.trans (SameX.of (sNew np)), R5.new np, ?_, by simp, by simp; omega⟩
        rw [upd_same, List.map_append]
        rfl
      · exact hnx _ _ ⟨p2, ss2, _, rfl, np2, (SameX.of s2).trans x3, R3, x3 _ _ hp2 np2r, by omega, by omega⟩
    rintro σ H3 ⟨p3, ss3, v3, rfl, np3, x3, R3, hp3, hl3, hl3'⟩
    refine ⟨Nat.zero_le _, fun f0 nf0 => ?_⟩
    obtain ⟨H4, e4, s4, hf0⟩ := nw (.lst []) nf0
    rw [← e4]
    refine ⟨_, _, rfl, ?_⟩
    have np3r : p3 ≠ r := hR.ne np3
    refine ⟨fun m σ H' => ∃ (ss : List Int) (u : Word) (hd : Int) (pf : Addr) (v7 v8 : Option V), σ = [some (.ref r), some (.int L), some (.ref a), some (.ref p3), v3, some (.ref pf), some (.int hd), v7, v8] ∧ SameX r H H' ∧ RowR K H' r ∧
        H' p3 = some (.lst (ss.map V.int)) ∧ H' pf = some (.lst (u.map itV)) ∧ pf ≠ p3 ∧ pf ≠ r ∧ ss.length = m ∧ m ≤ 8 ∧ noB u ∧ lets L u ∧ u.length + 3 * m ≤ 24 ∧ ((∃ n, Item.l n ∈ u) ∨ 1 ≤ m),
      ⟨ss3.length, ss3, [], 0, f0, none, none, rfl, x3.trans (SameX.of s4), R3.same s4, s4 _ _ hp3, hf0, (ne_of_none hp3 nf0).symm, R3.ne nf0, rfl, hl3', ⟨by simp, by simp⟩, fun n h => by simp at h, by simp; omega, .inr hl3⟩, ?_⟩
    rintro m σ H5 ⟨ss, u, hd, pf, v7, v8, rfl, x5, R5, hp5, hf5, npf, nfr, rfl, hm8, hnb, hlt, hlen, hor⟩
    refine ⟨_, rfl, Nat.zero_le _, fun q nq => ?_⟩
    obtain ⟨H6, e6, s6, hq⟩ := nw (.lst []) nq
    rw [← e6]
    obtain ⟨d, e, k1, k2, k3, k4, k5⟩ := cmpNil (K := K) (n := 0) (by decide) (SqL.of (s6 _ _ hp5)) (fun v hv => by
      obtain ⟨i, _, e⟩ := List.mem_map.mp hv
      rw [← e]
      exact dat_int 0 i) (SqL.of hq)
    refine ⟨d, e, k1, k2, k3, k4, _, rfl, ?_⟩
    rw [k5]
    have x6 := x5.trans (SameX.of s6)
    have R6 := R5.same s6
    have hp6 := s6 _ _ hp5
    have hf6 := s6 _ _ hf5
    cases ss with
    | nil =>
      have hh : ∃ n, Item.l n ∈ u := by
        rcases hor with h | h
        · exact h
        · simp at h
      refine ⟨_, rfl, _, _, rfl, rfl, .inl ⟨_, rfl, _, _, rfl, rfl, (by show (0 : Int) < 4; decide), ?_⟩⟩
      have fin : ∀ (t : Word) (qt : Addr) (H7 : Hp), noB t → lets 0 t → t.length ≤ 3 → Same H6 H7 → H7 qt = some (.lst (t.map itV)) →
          rCat (.ref pf) (.ref qt) H7 (fun x H8 => tNil [] H8 (fun xs H9 => (∃ p ys, (x :: xs) = [.ref p] ∧ ((SqL K H9 p ys ∧ ∀ l, H9 l = none → Q (.ref l) (upd H9 l (.tup ys))) ∨ (SqT K H9 p ys ∧ Q (.ref p) H9))))) := fun t qt H7 tb tl tn s7 hqt => by
        refine ⟨pf, qt, _, _, rfl, rfl, s7 _ _ hf6, hqt, small_le (by simp; omega), fun pr npr => ?_⟩
        rw [← List.map_append]
        obtain ⟨H8, e8, s8, hpr⟩ := nw (.lst ((u ++ t).map itV)) npr
        rw [← e8]
        refine ⟨pr, _, rfl, .inl ⟨SqL.of hpr, fun p np => ?_⟩⟩
        have s68 := (s7.trans s8).trans (sNew (o := .tup ((u ++ t).map itV)) np)
        have nb : noB (u ++ t) := ⟨fun z => (List.mem_append.mp z).elim hnb.1 tb.1, fun z => (List.mem_append.mp z).elim hnb.2 tb.2⟩
        obtain ⟨n, hn⟩ := hh
        exact k _ p (u ++ t) (x6.trans (SameX.of s68)) (R6.same s68) upd_same ⟨by simp; simp at hlen; omega, fun m hm => (List.mem_append.mp hm).elim (hlt m) fun z => absurd (tl m z) (Nat.not_lt_zero _), bal_noB nb, n, by simp [hn]⟩ (by simp; simp at hlen; omega)
      have hmod : 0 ≤ (0 - hd) % 4 ∧ (0 - hd) % 4 < 4 := ⟨Int.emod_nonneg _ (by decide), Int.emod_lt_of_pos _ (by decide)⟩
      refine ⟨_, rfl, _, rfl, rfl, _, rfl, ite2 (fun _ => ?_) (fun _ => ?_)⟩
      · refine ⟨by show 1 ≤ sizeLine; decide, fun qt nqt => ?_⟩
        obtain ⟨H7, e7, s7, hqt⟩ := nw (.lst [.str "-"]) nqt
        rw [← e7]
        exact fin [.m] qt H7 minus_ok.1 minus_ok.2 (by simp) s7 hqt
      · refine ⟨by show 1 ≤ sizeLine; decide, fun q1 nq1 => ?_⟩
        obtain ⟨H7, e7, s7, hq1⟩ := nw (.lst [.str "+"]) nq1
        rw [← e7]
        refine ⟨_, rfl, q1, _, _, rfl, rfl, hq1, by omega, by omega, small_le (by simp; omega), fun qt nqt => ?_⟩
        rw [rep_str]
        obtain ⟨H8, e8, s8, hqt⟩ := nw (.lst ((List.replicate ((0 - hd) % 4).toNat Item.p).map itV)) nqt
        rw [← e8]
        exact fin _ qt H8 (plus_ok _).1 (plus_ok _).2 (by simp; omega) (s7.trans s8) hqt
    | cons s0 ss' =>
      refine ⟨_, fun σ' H' hw => ⟨ss'.length, by simp, hw⟩, ?_⟩
      have hlen1 : (s0 :: ss').length = ss'.length + 1 := rfl
      refine ⟨_, rfl, .inl ⟨rfl, _, SqL.of hp6⟩, _, rfl, _, rfl, p3, _, rfl, .inl (SqL.of hp6), r, _, rfl, R6, (by rw [List.length_map]; omega), (by rw [List.length_map]; omega), fun H7 v x7 R7 v70 v71 => ?_⟩
      rw [List.length_map] at v71
      have hp7 := x7 _ _ hp6 np3r
      have hf7 := x7 _ _ hf6 nfr
      have hvl : v.toNat < (s0 :: ss').length := by omega
      have hsi : seqIndex? v ((s0 :: ss').map V.int).length = some v.toNat := by
        unfold seqIndex?
        rw [List.length_map]
        simp only [if_neg (by omega : ¬ v < 0)]
        rw [if_pos (by simp; constructor <;> omega)]
      refine ⟨p3, _, v, v.toNat, .int ((s0 :: ss')[v.toNat]), rfl, rfl, hp7, by omega, by omega, hsi, by rw [List.getElem?_map, List.getElem?_eq_getElem hvl]; rfl, ?_⟩
      rw [erase_mapI]
      have hel : ((s0 :: ss').eraseIdx v.toNat).length = ss'.length := by
        rw [List.length_eraseIdx, if_pos hvl]
        omega
      generalize (s0 :: ss')[v.toNat] = z at *
      generalize (s0 :: ss').eraseIdx v.toNat = es at *
      have x8 : SameX r H (upd H7 p3 (.lst (es.map V.int))) := (x6.trans x7).mut np3
      have R8 : RowR K (upd H7 p3 (.lst (es.map V.int))) r := R7.upd hp7 np3r
      have hp8 : (upd H7 p3 (.lst (es.map V.int))) p3 = some (.lst (es.map V.int)) := upd_same
      have hf8 : (upd H7 p3 (.lst (es.map V.int))) pf = some (.lst (u.map itV)) := by rw [upd_ne npf]; exact hf7
      generalize upd H7 p3 _ = H8 at *
      refine ⟨_, rfl, _, rfl, _, _, rfl, rfl, .inl ⟨_, rfl, _, _, rfl, rfl, (by show (0 : Int) < 4; decide), ?_⟩⟩
      have hmod : 0 ≤ (z - hd) % 4 ∧ (z - hd) % 4 < 4 := ⟨Int.emod_nonneg _ (by decide), Int.emod_lt_of_pos _ (by decide)⟩
      dsimp only [gName]
      refine seq_cut (fun σ' H' => ∃ (pg : Addr) (u' : Word), σ' = [some (.ref r), some (.int L), some (.ref a), some (.ref p3), v3, some (.ref pg), some (.int hd), some (.int z), some (.int ((z - hd) % 4))] ∧ SameX r H H' ∧ RowR K H' r ∧
        H' p3 = some (.lst (es.map V.int)) ∧ H' pg = some (.lst (u'.map itV)) ∧ pg ≠ p3 ∧ pg ≠ r ∧ noB u' ∧ lets L u' ∧ u'.length ≤ u.length + 3 ∧ ∃ n, Item.l n ∈ u') (fun nx hnx => ?_) ?_
      · have fin : ∀ (t : Word) (qt : Addr) (H9 : Hp), noB t → lets 0 t → t.length ≤ 2 → Same H8 H9 → H9 qt = some (.lst (t.map itV)) →
            rCat (.ref pf) (.ref qt) H9 (fun x H10 => tLst (tCons (tCall (spTaken K) [] E0 (tCons (tVar 0) (tCons (tVar 1) tNil))) tNil) [some (.ref r), some (.int L), some (.ref a), some (.ref p3), v3, some (.ref pf), some (.int hd), some (.int z), some (.int ((z - hd) % 4))] H10 (fun y H11 =>
              rCat x y H11 (fun x' H12 => nx [some (.ref r), some (.int L), some (.ref a), some (.ref p3), v3, some x', some (.int hd), some (.int z), some (.int ((z - hd) % 4))] H12))) := fun t qt H9 tb tl tn s9 hqt => by
          refine ⟨pf, qt, _, _, rfl, rfl, s9 _ _ hf8, hqt, small_le (by simp; omega), fun p10 np10 => ?_⟩
          rw [← List.map_append]
          obtain ⟨H10, e10, s10, hp10⟩ := nw (.lst ((u ++ t).map itV)) np10
          rw [← e10]
          have R9 := R8.same s9
          have R10 := R9.same s10
          refine ⟨_, rfl, _, rfl, r, L, rfl, R10, (by omega), (by omega), fun H11 v11 x11 R11 v110 v111 => ?_⟩
          obtain ⟨nn, rfl⟩ : ∃ nn : Nat, v11 = (nn : Int) := ⟨v11.toNat, by omega⟩
          refine ⟨(by show 1 ≤ sizeLine; decide), fun p12 np12 => ?_⟩
          obtain ⟨H12, e12, s12, hp12⟩ := nw (.lst [.int (nn : Int)]) np12
          rw [← e12]
          have hp10' := s12 _ _ (x11 _ _ hp10 (R9.ne np10))
          refine ⟨p10, p12, _, _, rfl, rfl, hp10', hp12, small_le (by simp; omega), fun p13 np13 => ?_⟩
          have x12 : SameX r H H12 := (((x8.trans (SameX.of s9)).trans (SameX.of s10)).trans x11).trans (SameX.of s12)
          have R12 := R11.same s12
          have hp3' : H12 p3 = some (.lst (es.map V.int)) := s12 _ _ (x11 _ _ (s10 _ _ (s9 _ _ hp8)) np3r)
          obtain ⟨q1, q2⟩ := turn_ok (L := L) (n := nn) ⟨hnb, hlt⟩ ⟨tb, tl⟩ (by omega)
          refine hnx _ _ ⟨p13, u ++ t ++ [.l nn], rfl, x12.trans (SameX.of (sNew np13)), R12.new np13, (sNew np13) _ _ hp3', ?_, (ne_of_none hp3' np13).symm, R12.ne np13, q1, q2, by simp; omega, nn, by simp⟩
          rw [upd_same]
          simp [itV]
        refine ⟨_, rfl, _, rfl, rfl, _, rfl, ite2 (fun _ => ?_) (fun _ => ?_)⟩
        · refine ⟨by show 1 ≤ sizeLine; decide, fun qt nqt => ?_⟩
          obtain ⟨H9, e9, s9, hqt⟩ := nw (.lst [.str "-"]) nqt
          rw [← e9]
          exact fin [.m] qt H9 minus_ok.1 minus_ok.2 (by simp) s9 hqt
        · rename_i hne3
          have hne3' : (z - hd) % 4 ≠ 3 := fun e => hne3 (by rw [e]; exact decide_eq_true rfl)
          refine ⟨by show 1 ≤ sizeLine; decide, fun q1 nq1 => ?_⟩
          obtain ⟨H9, e9, s9, hq1⟩ := nw (.lst [.str "+"]) nq1
          rw [← e9]
          refine ⟨_, rfl, q1, _, _, rfl, rfl, hq1, by omega, by omega, small_le (by simp; omega), fun qt nqt => ?_⟩
          rw [rep_str]
          obtain ⟨H10, e10, s10, hqt⟩ := nw (.lst ((List.replicate ((z - hd) % 4).toNat Item.p).map itV)) nqt
          rw [← e10]
          exact fin _ qt H10 (plus_ok _).1 (plus_ok _).2 (by simp; omega) (s9.trans s10) hqt
      · rintro σ' H9 ⟨pg, u', rfl, x9, R9, hp9, hg9, npg, nrg, nb', hl', hlen', hh'⟩
        exact ⟨_, rfl, es, u', z, pg, _, _, rfl, x9, R9, hp9, hg9, npg, nrg, hel, by omega, nb', hl', by omega, .inl hh'⟩
end
end My
end
section
set_option maxRecDepth 100000
set_option maxHeartbeats 4000000
namespace My
open PySem L2
def wokB (L : Nat) (u : Word) : Bool := decide (u.length ≤ 40) && (u.all fun i => match i with | .l n => decide (n < L) | _ => true) && bal 0 u && u.any isL
theorem wok_of {L : Nat} {u : Word} (h : wokB L u = true) : WOk L u := by
  unfold wokB at h
  simp only [Bool.and_eq_true, decide_eq_true_eq, List.all_eq_true, List.any_eq_true] at h
  obtain ⟨⟨⟨h1, h2⟩, h3⟩, i, hi, hl⟩ := h
  refine ⟨h1, fun n hn => by simpa using h2 _ hn, h3, ?_⟩
  cases i with
  | l n => exact ⟨n, hi⟩
  | p => cases hl
  | m => cases hl
  | o => cases hl
  | c => cases hl
def bokB (ws : List Word) (st : Word) : Bool := decide (1 ≤ ws.length) && decide (ws.length ≤ 8) && ws.all (wokB ws.length) && wokB ws.length st
theorem bok_of {ws : List Word} {st : Word} (h : bokB ws st = true) : BOk ws st := by
  unfold bokB at h
  simp only [Bool.and_eq_true, decide_eq_true_eq, List.all_eq_true] at h
  exact ⟨h.1.1.1, h.1.1.2, fun u hu => wok_of (h.1.2 u hu), wok_of h.2⟩
section
variable {P : Program} {w : World} {K : PySem.W.Frag} {mg : Str → Option Value} {base : Heap} {A : Adr}
theorem ok_kit (T : Txt K mg A) : FnOk P w K mg base CX0 3 A._law_kit A.d__law_kit ["_law_row"] (spBook K) := by
  have G__law_pick : FnOk P w K mg base CX0 2 A._law_pick A.d__law_pick ["_law_row", "_law_things"] (spPick K) := ok_pick T
  refine T.F__law_kit.ok sc__law_kit (fun vs H Q E h => ?_) (fun cdv A' outer s H vs Q E hr h => ?_)
  · obtain ⟨r, rfl, _⟩ := h
    rfl
  · obtain ⟨r, rfl, hR, k⟩ := h
    refine ⟨_, (pss_cons (ps_set (i := 1) sc__law_kit.nd rfl (Or.inl rfl) (pe_tup (pa_cons (pe_tup (pa_cons pe_int (pa_cons pe_str (pa_cons pe_int (pa_cons pe_str pa_nil))))) (pa_cons (pe_tup (pa_cons pe_str (pa_cons pe_int (pa_cons pe_str (pa_cons pe_int pa_nil))))) pa_nil))))
    (pss_cons (ps_set (i := 2) sc__law_kit.nd rfl (Or.inl rfl) (pe_tup (pa_cons (pe_tup (pa_cons pe_int (pa_cons pe_str (pa_cons pe_int (pa_cons pe_str (pa_cons pe_int (pa_cons pe_str (pa_cons pe_int (pa_cons pe_str (pa_cons pe_int pa_nil)))))))))) pa_nil)))
    (pss_cons (ps_asg (pe_tup (pa_cons (pe_tup (pa_cons (pe_tup (pa_cons pe_int (pa_cons pe_str (pa_cons pe_int (pa_cons pe_str pa_nil))))) pa_nil)) (pa_cons (pe_tup (pa_cons (pe_tup (pa_cons pe_int (pa_cons pe_str (pa_cons pe_int (pa_cons pe_str (pa_cons pe_str (pa_cons pe_int (pa_cons pe_str (pa_cons pe_int (pa_cons pe_int pa_nil)))))))))) pa_nil)) pa_nil))) (pg_tup rfl (pgs_cons (pg_name (i := 3) sc__law_kit.nd rfl (Or.inl rfl)) (pgs_cons (pg_name (i := 4) sc__law_kit.nd rfl (Or.inl rfl)) pgs_nil))))
    (pss_one (ps_ret (pe_call G__law_pick (hr.mono (by decide)) (by rfl) T.m__law_pick T.F__law_pick.kp (b__law_pick T) .nil pass0 (pa_cons (pv 0) (pa_cons (pe_lst (pa_cons (pe_tup (pa_cons (pv 1) (pa_cons (pe_tup (pa_cons pe_int pa_nil)) pa_nil))) (pa_cons (pe_tup (pa_cons (pv 2) (pa_cons (pe_tup (pa_cons pe_int pa_nil)) pa_nil))) (pa_cons (pe_tup (pa_cons (pv 3) (pa_cons (pe_tup (pa_cons pe_int pa_nil)) pa_nil))) (pa_cons (pe_tup (pa_cons (pv 1) (pa_cons (pe_tup (pa_cons pe_int (pa_cons pe_str (pa_cons pe_int pa_nil)))) pa_nil))) (pa_cons (pe_tup (pa_cons (pv 2) (pa_cons (pe_tup (pa_cons pe_int (pa_cons pe_str (pa_cons pe_int pa_nil)))) pa_nil))) (pa_cons (pe_tup (pa_cons (pv 4) (pa_cons (pe_tup (pa_cons pe_int pa_nil)) pa_nil))) pa_nil))))))) pa_nil)))))))), ?_⟩
    refine ⟨(by show 4 ≤ sizeLine; decide), fun dr0 ndr0 => ?_⟩
    obtain ⟨K1, e1, s1, hdr0⟩ := nw (.tup [.int 0, .str "+", .int 1, .str "-"]) ndr0
    rw [← e1]
    refine ⟨(by show 4 ≤ sizeLine; decide), fun dr1 ndr1 => ?_⟩
    obtain ⟨K2, e2, s2, hdr1⟩ := nw (.tup [.str "+", .int 0, .str "-", .int 1]) ndr1
    rw [← e2]
    refine ⟨(by show 2 ≤ sizeLine; decide), fun dr ndr => ?_⟩
    obtain ⟨K3, e3, s3, hdr⟩ := nw (.tup [.ref dr0, .ref dr1]) ndr
    rw [← e3]
    refine ⟨(by show 9 ≤ sizeLine; decide), fun sq0 nsq0 => ?_⟩
    obtain ⟨K4, e4, s4, hsq0⟩ := nw (.tup [.int 0, .str "+", .int 0, .str "-", .int 0, .str "-", .int 0, .str "+", .int 0]) nsq0
    rw [← e4]
    refine ⟨(by show 1 ≤ sizeLine; decide), fun sq nsq => ?_⟩
    obtain ⟨K5, e5, s5, hsq⟩ := nw (.tup [.ref sq0]) nsq
    rw [← e5]
    refine ⟨(by show 4 ≤ sizeLine; decide), fun le0 nle0 => ?_⟩
    obtain ⟨K6, e6, s6, hle0⟩ := nw (.tup [.int 0, .str "+", .int 0, .str "-"]) nle0
    rw [← e6]
    refine ⟨(by show 1 ≤ sizeLine; decide), fun le nle => ?_⟩
    obtain ⟨K7, e7, s7, hle⟩ := nw (.tup [.ref le0]) nle
    rw [← e7]
    refine ⟨(by show 9 ≤ sizeLine; decide), fun wi0 nwi0 => ?_⟩
    obtain ⟨K8, e8, s8, hwi0⟩ := nw (.tup [.int 0, .str "+", .int 0, .str "-", .str "-", .int 0, .str "+", .int 0, .int 0]) nwi0
    rw [← e8]
    refine ⟨(by show 1 ≤ sizeLine; decide), fun wi nwi => ?_⟩
    obtain ⟨K9, e9, s9, hwi⟩ := nw (.tup [.ref wi0]) nwi
    rw [← e9]
    refine ⟨(by show 2 ≤ sizeLine; decide), fun lw nlw => ?_⟩
    obtain ⟨K10, e10, s10, hlw⟩ := nw (.tup [.ref le, .ref wi]) nlw
    rw [← e10]
    refine ⟨lw, _, rfl, SqT.of hlw, rfl, _, _, rfl, _, _, rfl, rfl, ?_⟩
    refine ⟨_, rfl, ?_⟩
    refine ⟨_, rfl, ?_⟩
    refine ⟨(by show 1 ≤ sizeLine; decide), fun st0 nst0 => ?_⟩
    obtain ⟨K11, e11, s11, hst0⟩ := nw (.tup [.int 0]) nst0
    rw [← e11]
    refine ⟨(by show 2 ≤ sizeLine; decide), fun bk0 nbk0 => ?_⟩
    obtain ⟨K12, e12, s12, hbk0⟩ := nw (.tup [.ref dr, .ref st0]) nbk0
    rw [← e12]
    refine ⟨_, rfl, ?_⟩
    refine ⟨(by show 1 ≤ sizeLine; decide), fun st1 nst1 => ?_⟩
    obtain ⟨K13, e13, s13, hst1⟩ := nw (.tup [.int 0]) nst1
    rw [← e13]
    refine ⟨(by show 2 ≤ sizeLine; decide), fun bk1 nbk1 => ?_⟩
    obtain ⟨K14, e14, s14, hbk1⟩ := nw (.tup [.ref sq, .ref st1]) nbk1
    rw [← e14]
    refine ⟨_, rfl, ?_⟩
    refine ⟨(by show 1 ≤ sizeLine; decide), fun st2 nst2 => ?_⟩
    obtain ⟨K15, e15, s15, hst2⟩ := nw (.tup [.int 0]) nst2
    rw [← e15]
    refine ⟨(by show 2 ≤ sizeLine; decide), fun bk2 nbk2 => ?_⟩
    obtain ⟨K16, e16, s16, hbk2⟩ := nw (.tup [.ref le, .ref st2]) nbk2
    rw [← e16]
    refine ⟨_, rfl, ?_⟩
    refine ⟨(by show 3 ≤ sizeLine; decide), fun st3 nst3 => ?_⟩
    obtain ⟨K17, e17, s17, hst3⟩ := nw (.tup [.int 1, .str "+", .int 0]) nst3
    rw [← e17]
    refine ⟨(by show 2 ≤ sizeLine; decide), fun bk3 nbk3 => ?_⟩
    obtain ⟨K18, e18, s18, hbk3⟩ := nw (.tup [.ref dr, .ref st3]) nbk3
    rw [← e18]
    refine ⟨_, rfl, ?_⟩
    refine ⟨(by show 3 ≤ sizeLine; decide), fun st4 nst4 => ?_⟩
    obtain ⟨K19, e19, s19, hst4⟩ := nw (.tup [.int 0, .str "-", .int 0]) nst4
    rw [← e19]
    refine ⟨(by show 2 ≤ sizeLine; decide), fun bk4 nbk4 => ?_⟩
    obtain ⟨K20, e20, s20, hbk4⟩ := nw (.tup [.ref sq, .ref st4]) nbk4
    rw [← e20]
    refine ⟨_, rfl, ?_⟩
    refine ⟨(by show 1 ≤ sizeLine; decide), fun st5 nst5 => ?_⟩
    obtain ⟨K21, e21, s21, hst5⟩ := nw (.tup [.int 0]) nst5
    rw [← e21]
    refine ⟨(by show 2 ≤ sizeLine; decide), fun bk5 nbk5 => ?_⟩
    obtain ⟨K22, e22, s22, hbk5⟩ := nw (.tup [.ref wi, .ref st5]) nbk5
    rw [← e22]
    refine ⟨(by show 6 ≤ sizeLine; decide), fun pl npl => ?_⟩
    obtain ⟨K23, e23, s23, hpl⟩ := nw (.lst [.ref bk0, .ref bk1, .ref bk2, .ref bk3, .ref bk4, .ref bk5]) npl
    rw [← e23]
    have u23 : Same K23 K23 := Same.refl _
    have u22 : Same K22 K23 := s23.trans u23
    have u21 : Same K21 K23 := s22.trans u22
    have u20 : Same K20 K23 := s21.trans u21
    have u19 : Same K19 K23 := s20.trans u20
    have u18 : Same K18 K23 := s19.trans u19
    have u17 : Same K17 K23 := s18.trans u18
    have u16 : Same K16 K23 := s17.trans u17
    have u15 : Same K15 K23 := s16.trans u16
    have u14 : Same K14 K23 := s15.trans u15
    have u13 : Same K13 K23 := s14.trans u14
    have u12 : Same K12 K23 := s13.trans u13
    have u11 : Same K11 K23 := s12.trans u12
    have u10 : Same K10 K23 := s11.trans u11
    have u9 : Same K9 K23 := s10.trans u10
    have u8 : Same K8 K23 := s9.trans u9
    have u7 : Same K7 K23 := s8.trans u8
    have u6 : Same K6 K23 := s7.trans u7
    have u5 : Same K5 K23 := s6.trans u6
    have u4 : Same K4 K23 := s5.trans u5
    have u3 : Same K3 K23 := s4.trans u4
    have u2 : Same K2 K23 := s3.trans u3
    have u1 : Same K1 K23 := s2.trans u2
    have tdr0 := u1 _ _ hdr0
    have tdr1 := u2 _ _ hdr1
    have tdr := u3 _ _ hdr
    have tsq0 := u4 _ _ hsq0
    have tsq := u5 _ _ hsq
    have tle0 := u6 _ _ hle0
    have tle := u7 _ _ hle
    have twi0 := u8 _ _ hwi0
    have twi := u9 _ _ hwi
    have tlw := u10 _ _ hlw
    have tst0 := u11 _ _ hst0
    have tbk0 := u12 _ _ hbk0
    have tst1 := u13 _ _ hst1
    have tbk1 := u14 _ _ hbk1
    have tst2 := u15 _ _ hst2
    have tbk2 := u16 _ _ hbk2
    have tst3 := u17 _ _ hst3
    have tbk3 := u18 _ _ hbk3
    have tst4 := u19 _ _ hst4
    have tbk4 := u20 _ _ hbk4
    have tst5 := u21 _ _ hst5
    have tbk5 := u22 _ _ hbk5
    have tpl := u23 _ _ hpl
    have u0 := s1.trans u1
    have Rl := hR.same u0
    have np : pl ≠ r := (hR.same ((((((((((((((((((((((s1).trans s2).trans s3).trans s4).trans s5).trans s6).trans s7).trans s8).trans s9).trans s10).trans s11).trans s12).trans s13).trans s14).trans s15).trans s16).trans s17).trans s18).trans s19).trans s20).trans s21).trans s22)).ne npl
    refine ⟨r, pl, _, rfl, Rl, tpl, np, (by show 1 ≤ 6; decide), (by show 6 ≤ 1000; decide), fun H' v x' R' hm => ?_⟩
    have tx := tups_x x' Rl
    have x0 : SameX r H H' := (SameX.of u0).trans x'
    simp only [List.mem_cons, List.not_mem_nil, or_false] at hm
    rcases hm with rfl | rfl | rfl | rfl | rfl | rfl
    · exact k H' _ [[.l 0, .p, .l 1, .m], [.p, .l 0, .m, .l 1]] [.l 0] x0 R' ⟨dr, st0, _, tx _ _ tbk0, tx _ _ tdr, ⟨⟨_, rfl, tx _ _ tdr0⟩, ⟨_, rfl, tx _ _ tdr1⟩, trivial⟩, tx _ _ tst0⟩ (bok_of (by decide))
    · exact k H' _ [[.l 0, .p, .l 0, .m, .l 0, .m, .l 0, .p, .l 0]] [.l 0] x0 R' ⟨sq, st1, _, tx _ _ tbk1, tx _ _ tsq, ⟨⟨_, rfl, tx _ _ tsq0⟩, trivial⟩, tx _ _ tst1⟩ (bok_of (by decide))
    · exact k H' _ [[.l 0, .p, .l 0, .m]] [.l 0] x0 R' ⟨le, st2, _, tx _ _ tbk2, tx _ _ tle, ⟨⟨_, rfl, tx _ _ tle0⟩, trivial⟩, tx _ _ tst2⟩ (bok_of (by decide))
    · exact k H' _ [[.l 0, .p, .l 1, .m], [.p, .l 0, .m, .l 1]] [.l 1, .p, .l 0] x0 R' ⟨dr, st3, _, tx _ _ tbk3, tx _ _ tdr, ⟨⟨_, rfl, tx _ _ tdr0⟩, ⟨_, rfl, tx _ _ tdr1⟩, trivial⟩, tx _ _ tst3⟩ (bok_of (by decide))
    · exact k H' _ [[.l 0, .p, .l 0, .m, .l 0, .m, .l 0, .p, .l 0]] [.l 0, .m, .l 0] x0 R' ⟨sq, st4, _, tx _ _ tbk4, tx _ _ tsq, ⟨⟨_, rfl, tx _ _ tsq0⟩, trivial⟩, tx _ _ tst4⟩ (bok_of (by decide))
    · exact k H' _ [[.l 0, .p, .l 0, .m, .m, .l 0, .p, .l 0, .l 0]] [.l 0] x0 R' ⟨wi, st5, _, tx _ _ tbk5, tx _ _ twi, ⟨⟨_, rfl, tx _ _ twi0⟩, trivial⟩, tx _ _ tst5⟩ (bok_of (by decide))
def spEvenBook (K : PySem.W.Frag) : Sp := fun vs H Q _ => ∃ (r : Addr), vs = [.ref r] ∧ RowR K H r ∧ ∀ H' p b m ws st, SameX r H H' → RowR K H' r → H' p = some (.tup [.ref b, .ref m]) → BookAt H' b ws st → BOk ws st → Q (.ref p) H'
theorem ok_even_book (T : Txt K mg A) : FnOk P w K mg base CX0 4 A._law_even_book A.d__law_even_book ["_law_row"] (spEvenBook K) := by
  have G__law_taken : FnOk P w K mg base CX0 1 A._law_taken A.d__law_taken ["_law_row", "_law_many"] (spTaken K) := ok_taken T
  have G__law_pick : FnOk P w K mg base CX0 2 A._law_pick A.d__law_pick ["_law_row", "_law_things"] (spPick K) := ok_pick T
  have G__law_even_word : FnOk P w K mg base CX0 2 A._law_even_word A.d__law_even_word ["_law_row", "_law_letters", "_law_move"] (spEvenWord K) := ok_even_word T
  have G__law_branched : FnOk P w K mg base CX0 3 A._law_branched A.d__law_branched ["_law_row", "_law_word_here", "_law_letters"] (spBranched K) := ok_branched T
  refine T.F__law_even_book.ok sc__law_even_book (fun vs H Q E h => ?_) (fun cdv A' outer s H vs Q E hr h => ?_)
  · obtain ⟨r, rfl, _⟩ := h
    rfl
  · obtain ⟨r, rfl, hR, k⟩ := h
    refine ⟨_, (pss_cons (ps_asg (pe_tup (pa_cons (pe_op op_add pe_int (pe_call G__law_taken (hr.mono (by decide)) (by rfl) T.m__law_taken T.F__law_taken.kp (b__law_taken T) .nil pass0 (pa_cons (pv 0) (pa_cons pe_int pa_nil)))) (pa_cons (pe_call G__law_pick (hr.mono (by decide)) (by rfl) T.m__law_pick T.F__law_pick.kp (b__law_pick T) .nil pass0 (pa_cons (pv 0) (pa_cons (pe_lst (pa_cons (pe_tup (pa_cons pe_int (pa_cons pe_int pa_nil))) (pa_cons (pe_tup (pa_cons pe_int (pa_cons pe_int pa_nil))) (pa_cons (pe_tup (pa_cons pe_int (pa_cons pe_int pa_nil))) (pa_cons (pe_tup (pa_cons pe_int (pa_cons pe_int pa_nil))) (pa_cons (pe_tup (pa_cons pe_int (pa_cons (pe_un un_neg pe_int) pa_nil))) (pa_cons (pe_tup (pa_cons (pe_un un_neg pe_int) (pa_cons pe_int pa_nil))) (pa_cons (pe_tup (pa_cons pe_int (pa_cons pe_int pa_nil))) (pa_cons (pe_tup (pa_cons pe_int (pa_cons pe_int pa_nil))) (pa_cons (pe_tup (pa_cons pe_int (pa_cons pe_int pa_nil))) pa_nil)))))))))) pa_nil))) pa_nil))) (pg_tup rfl (pgs_cons (pg_name (i := 1) sc__law_even_book.nd rfl (Or.inr rfl)) (pgs_cons (pg_name (i := 2) sc__law_even_book.nd rfl (Or.inr rfl)) pgs_nil))))
    (pss_cons (ps_set (i := 3) sc__law_even_book.nd rfl (Or.inl rfl) (pe_callTy call_tuple_of (by rfl) T.z_tuple (by decide +kernel) (pa_cons (pe_lc (own := [("_law_k", 5)]) (g := gName 5) (tt := tYes) rfl sc__law_even_book.nd (pi_range1 (by rfl) T.z_range (pa_cons (pv 1) pa_nil)) (blkOk_by (own := [("_law_k", 5)]) (N := ["_law_row", "_law_letters", "_law_move", "_law_words", "_law_start", "_law_k"]) (sc := defScope s__law_even_book) (by decide +kernel)) (fun _ _ _ _ _ => pg_name (i := 5) sc__law_even_book.nd rfl (Or.inl rfl)) (fun _ _ _ _ _ => pts_nil) (fun _ _ _ _ _ => (pe_call G__law_branched (hr.mono (by decide)) (by rfl) T.m__law_branched T.F__law_branched.kp (b__law_branched T) .nil pass0 (pa_cons (pv 0) (pa_cons (pe_call G__law_even_word (hr.mono (by decide)) (by rfl) T.m__law_even_word T.F__law_even_word.kp (b__law_even_word T) .nil pass0 (pa_cons (pv 0) (pa_cons (pv 1) (pa_cons (pv 2) pa_nil)))) (pa_cons (pv 1) pa_nil)))))) pa_nil)))
    (pss_cons (ps_set (i := 4) sc__law_even_book.nd rfl (Or.inl rfl) (pe_call G__law_pick (hr.mono (by decide)) (by rfl) T.m__law_pick T.F__law_pick.kp (b__law_pick T) .nil pass0 (pa_cons (pv 0) (pa_cons (pe_lst (pa_cons (pe_tup (pa_cons pe_int pa_nil)) (pa_cons (pe_tup (pa_cons pe_int pa_nil)) (pa_cons (pe_tup (pa_cons pe_int (pa_cons pe_str (pa_cons pe_int pa_nil)))) (pa_cons (pe_tup (pa_cons pe_int (pa_cons pe_str (pa_cons pe_int (pa_cons pe_str (pa_cons pe_int (pa_cons pe_str (pa_cons pe_int pa_nil)))))))) (pa_cons (pe_tup (pa_cons (pe_op op_sub (pv 1) pe_int) (pa_cons pe_int pa_nil))) pa_nil)))))) pa_nil))))
    (pss_one (ps_ret (pe_tup (pa_cons (pe_tup (pa_cons (pv 3) (pa_cons (pv 4) pa_nil))) (pa_cons (pv 2) pa_nil)))))))), ?_⟩
    refine ⟨_, rfl, r, 2, rfl, hR, (by decide), (by decide), fun H1 v1 x1 R1 v10 v11 => ?_⟩
    obtain ⟨cc, rfl⟩ : ∃ cc : Nat, v1 = (cc : Int) := ⟨v1.toNat, by omega⟩
    have hcc : cc < 2 := by omega
    have ecc : (1 : Int) + (cc : Int) = ((cc + 1 : Nat) : Int) := by omega
    refine ⟨_, _, rfl, rfl, _, rfl, ?_⟩
    refine ⟨(by show 2 ≤ sizeLine; decide), fun mv0 nmv0 => ?_⟩
    obtain ⟨K1, e1, s1, hmv0⟩ := nw (.tup [.int 1, .int 1]) nmv0
    rw [← e1]
    refine ⟨(by show 2 ≤ sizeLine; decide), fun mv1 nmv1 => ?_⟩
    obtain ⟨K2, e2, s2, hmv1⟩ := nw (.tup [.int 1, .int 1]) nmv1
    rw [← e2]
    refine ⟨(by show 2 ≤ sizeLine; decide), fun mv2 nmv2 => ?_⟩
    obtain ⟨K3, e3, s3, hmv2⟩ := nw (.tup [.int 2, .int 0]) nmv2
    rw [← e3]
    refine ⟨(by show 2 ≤ sizeLine; decide), fun mv3 nmv3 => ?_⟩
    obtain ⟨K4, e4, s4, hmv3⟩ := nw (.tup [.int 2, .int 1]) nmv3
    rw [← e4]
    refine ⟨1, rfl, (by show 2 ≤ sizeLine; decide), fun mv4 nmv4 => ?_⟩
    obtain ⟨K5, e5, s5, hmv4⟩ := nw (.tup [.int 1, .int (-1)]) nmv4
    rw [← e5]
    refine ⟨1, rfl, (by show 2 ≤ sizeLine; decide), fun mv5 nmv5 => ?_⟩
    obtain ⟨K6, e6, s6, hmv5⟩ := nw (.tup [.int (-1), .int 1]) nmv5
    rw [← e6]
    refine ⟨(by show 2 ≤ sizeLine; decide), fun mv6 nmv6 => ?_⟩
    obtain ⟨K7, e7, s7, hmv6⟩ := nw (.tup [.int 0, .int 2]) nmv6
    rw [← e7]
    refine ⟨(by show 2 ≤ sizeLine; decide), fun mv7 nmv7 => ?_⟩
    obtain ⟨K8, e8, s8, hmv7⟩ := nw (.tup [.int 1, .int 2]) nmv7
    rw [← e8]
    refine ⟨(by show 2 ≤ sizeLine; decide), fun mv8 nmv8 => ?_⟩
    obtain ⟨K9, e9, s9, hmv8⟩ := nw (.tup [.int 3, .int 0]) nmv8
    rw [← e9]
    refine ⟨(by show 9 ≤ sizeLine; decide), fun ml nml => ?_⟩
    obtain ⟨K10, e10, s10, hml⟩ := nw (.lst [.ref mv0, .ref mv1, .ref mv2, .ref mv3, .ref mv4, .ref mv5, .ref mv6, .ref mv7, .ref mv8]) nml
    rw [← e10]
    have u10 : Same K10 K10 := Same.refl _
    have u9 : Same K9 K10 := s10.trans u10
    have u8 : Same K8 K10 := s9.trans u9
    have u7 : Same K7 K10 := s8.trans u8
    have u6 : Same K6 K10 := s7.trans u7
    have u5 : Same K5 K10 := s6.trans u6
    have u4 : Same K4 K10 := s5.trans u5
    have u3 : Same K3 K10 := s4.trans u4
    have u2 : Same K2 K10 := s3.trans u3
    have u1 : Same K1 K10 := s2.trans u2
    have tmv0 := u1 _ _ hmv0
    have tmv1 := u2 _ _ hmv1
    have tmv2 := u3 _ _ hmv2
    have tmv3 := u4 _ _ hmv3
    have tmv4 := u5 _ _ hmv4
    have tmv5 := u6 _ _ hmv5
    have tmv6 := u7 _ _ hmv6
    have tmv7 := u8 _ _ hmv7
    have tmv8 := u9 _ _ hmv8
    have tml := u10 _ _ hml
    have u0 := s1.trans u1
    have np : ml ≠ r := (R1.same (((((((((s1).trans s2).trans s3).trans s4).trans s5).trans s6).trans s7).trans s8).trans s9)).ne nml
    have Rl := R1.same u0
    refine ⟨r, ml, _, rfl, Rl, tml, np, (by show 1 ≤ 9; decide), (by show 9 ≤ 1000; decide), fun H2 vm x2 R2 hm => ?_⟩
    have tx := tups_x x2 Rl
    obtain ⟨am, mx, my, rfl, ham, hx3, hy3, hne⟩ : ∃ (am : Addr) (mx my : Int), vm = .ref am ∧ H2 am = some (.tup [.int mx, .int my]) ∧ mx.natAbs ≤ 3 ∧ my.natAbs ≤ 3 ∧ (mx ≠ 0 ∨ my ≠ 0) := by
      simp only [List.mem_cons, List.not_mem_nil, or_false] at hm
      rcases hm with rfl | rfl | rfl | rfl | rfl | rfl | rfl | rfl | rfl
      · exact ⟨mv0, _, _, rfl, tx _ _ tmv0, by decide, by decide, by decide⟩
      · exact ⟨mv1, _, _, rfl, tx _ _ tmv1, by decide, by decide, by decide⟩
      · exact ⟨mv2, _, _, rfl, tx _ _ tmv2, by decide, by decide, by decide⟩
      · exact ⟨mv3, _, _, rfl, tx _ _ tmv3, by decide, by decide, by decide⟩
      · exact ⟨mv4, _, _, rfl, tx _ _ tmv4, by decide, by decide, by decide⟩
      · exact ⟨mv5, _, _, rfl, tx _ _ tmv5, by decide, by decide, by decide⟩
      · exact ⟨mv6, _, _, rfl, tx _ _ tmv6, by decide, by decide, by decide⟩
      · exact ⟨mv7, _, _, rfl, tx _ _ tmv7, by decide, by decide, by decide⟩
      · exact ⟨mv8, _, _, rfl, tx _ _ tmv8, by decide, by decide, by decide⟩
    refine ⟨(by show 2 ≤ sizeLine; decide), fun tp ntp => ?_⟩
    obtain ⟨H3, e3, s3, htp⟩ := nw (.tup [.int (1 + (cc : Int)), .ref am]) ntp
    rw [← e3]
    refine ⟨tp, _, rfl, SqT.of htp, rfl, _, _, rfl, _, _, rfl, rfl, ?_⟩
    have x13 : SameX r H H3 := ((x1.trans (SameX.of u0)).trans x2).trans (SameX.of s3)
    have R3 := R2.same s3
    have ham3 := s3 _ _ ham
    have en : (1 + (cc : Int)).toNat = cc + 1 := by omega
    have eL : ∀ m : Addr, [V.ref r, V.int (1 + (cc : Int)), V.ref m] = [V.ref r, V.int ((cc + 1 : Nat) : Int), V.ref m] := fun m => by rw [ecc]
    have eB : ∀ p : Addr, [V.ref r, V.ref p, V.int (1 + (cc : Int))] = [V.ref r, V.ref p, V.int ((cc + 1 : Nat) : Int)] := fun p => by rw [ecc]
    refine ⟨_, rfl, _, rfl, (by show -(2 ^ 62) ≤ 1 + (cc : Int); omega), (by show 1 + (cc : Int) < 2 ^ 62; omega), fun D hD => ?_⟩
    have nDr := R3.ne hD
    have hD0 : H D = none := x13.free nDr hD
    refine lc_range (lo := 0) (n := (1 + (cc : Int)).toNat) (fun i H' => SameX r H H' ∧ RowR K H' r ∧ H' am = some (.tup [.int mx, .int my]) ∧ ∃ (vs : List V) (ws : List Word), H' D = some (.lst vs) ∧ WordsAt H' vs ws ∧ ws.length = i ∧ ∀ u ∈ ws, WOk (cc + 1) u)
      ⟨x13.trans (SameX.of (sNew hD)), R3.new hD, (sNew hD) _ _ ham3, [], [], upd_same, trivial, rfl, fun u hu => by simp at hu⟩ ?_ ?_
    · rintro i H4 hi ⟨x4, R4, ham4, vs, ws, hD4, hws, hwl, hok⟩
      refine ⟨rfl, _, rfl, _, rfl, _, rfl, _, rfl, r, am, cc + 1, mx, my, eL am, R4, ham4, (by omega), (by omega), hx3, hy3, hne, fun H5 p5 u5 x5 R5 hp5 ok5 h365 => ?_⟩
      refine ⟨_, rfl, r, p5, u5, cc + 1, eB p5, R5, hp5, ok5, h365, (by omega), (by omega), fun H6 p6 u6 x6 R6 hp6 ok6 => ?_⟩
      have x46 := x5.trans x6
      have hD6 := x46 _ _ hD4 nDr
      have t7 : ∀ a xs, H6 a = some (.tup xs) → (upd H6 D (.lst (vs ++ [.ref p6]))) a = some (.tup xs) := fun a xs h => by
        rw [upd_ne (ne_of h hD6 (by intro z; cases z))]
        exact h
      refine ⟨vs, hD6, small_lt (by rw [hws.len]; omega), (x4.trans x46).mut hD0, R6.upd hD6 nDr, t7 _ _ (tups_x x46 R4 _ _ ham4), vs ++ [.ref p6], ws ++ [u6], upd_same, ((hws.same (tups_x x46 R4)).same t7).app ⟨p6, rfl, t7 _ _ hp6⟩, by simp [hwl], fun u hu => ?_⟩
      rcases List.mem_append.mp hu with hu | hu
      · exact hok u hu
      · rw [List.mem_singleton.mp hu]
        exact ok6
    rintro H4 ⟨x4, R4, ham4, vs, ws, hD4, hws, hwl, hok⟩
    rw [en] at hwl
    refine ⟨D, _, rfl, .inl ⟨SqL.of hD4, fun pw npw => ?_⟩⟩
    obtain ⟨H5, e5', s5', hpw⟩ := nw (.tup vs) npw
    rw [← e5']
    have R5 := R4.same s5'
    refine ⟨_, rfl, ?_⟩
    refine ⟨(by show 1 ≤ sizeLine; decide), fun so0 nso0 => ?_⟩
    obtain ⟨K31, e31, s31, hso0⟩ := nw (.tup [.int 0]) nso0
    rw [← e31]
    refine ⟨(by show 1 ≤ sizeLine; decide), fun so1 nso1 => ?_⟩
    obtain ⟨K32, e32, s32, hso1⟩ := nw (.tup [.int 0]) nso1
    rw [← e32]
    refine ⟨(by show 3 ≤ sizeLine; decide), fun so2 nso2 => ?_⟩
    obtain ⟨K33, e33, s33, hso2⟩ := nw (.tup [.int 0, .str "+", .int 0]) nso2
    rw [← e33]
    refine ⟨(by show 7 ≤ sizeLine; decide), fun so3 nso3 => ?_⟩
    obtain ⟨K34, e34, s34, hso3⟩ := nw (.tup [.int 0, .str "+", .int 0, .str "+", .int 0, .str "+", .int 0]) nso3
    rw [← e34]
    refine ⟨_, rfl, _, _, rfl, rfl, ?_⟩
    refine ⟨(by show 2 ≤ sizeLine; decide), fun so4 nso4 => ?_⟩
    obtain ⟨K35, e35, s35, hso4⟩ := nw (.tup [.int (1 + (cc : Int) - 1), .int 0]) nso4
    rw [← e35]
    refine ⟨(by show 5 ≤ sizeLine; decide), fun sl nsl => ?_⟩
    obtain ⟨K36, e36, s36, hsl⟩ := nw (.lst [.ref so0, .ref so1, .ref so2, .ref so3, .ref so4]) nsl
    rw [← e36]
    have u36 : Same K36 K36 := Same.refl _
    have u35 : Same K35 K36 := s36.trans u36
    have u34 : Same K34 K36 := s35.trans u35
    have u33 : Same K33 K36 := s34.trans u34
    have u32 : Same K32 K36 := s33.trans u33
    have u31 : Same K31 K36 := s32.trans u32
    have tso0 := u31 _ _ hso0
    have tso1 := u32 _ _ hso1
    have tso2 := u33 _ _ hso2
    have tso3 := u34 _ _ hso3
    have tso4 := u35 _ _ hso4
    have tsl := u36 _ _ hsl
    have u0 := s31.trans u31
    have npl : sl ≠ r := (R5.same (((((s31).trans s32).trans s33).trans s34).trans s35)).ne nsl
    have Rk := R5.same u0
    refine ⟨r, sl, _, rfl, Rk, tsl, npl, (by show 1 ≤ 5; decide), (by show 5 ≤ 1000; decide), fun H6 vs6 x6 R6 hm6 => ?_⟩
    have tx6 := tups_x x6 Rk
    obtain ⟨as, st, rfl, has, okst⟩ : ∃ (as : Addr) (st : Word), vs6 = .ref as ∧ H6 as = some (.tup (st.map itV)) ∧ WOk (cc + 1) st := by
      simp only [List.mem_cons, List.not_mem_nil, or_false] at hm6
      have wk : ∀ st : Word, (∀ n, Item.l n ∈ st → n = 0) → bal 0 st = true → Item.l 0 ∈ st → st.length ≤ 40 → WOk (cc + 1) st := fun st h1 h2 h3 h4 => ⟨h4, fun n hn => by rw [h1 n hn]; omega, h2, 0, h3⟩
      rcases hm6 with rfl | rfl | rfl | rfl | rfl
      · exact ⟨so0, [.l 0], rfl, tx6 _ _ tso0, wk _ (by simp) (by decide) (by simp) (by decide)⟩
      · exact ⟨so1, [.l 0], rfl, tx6 _ _ tso1, wk _ (by simp) (by decide) (by simp) (by decide)⟩
      · exact ⟨so2, [.l 0, .p, .l 0], rfl, tx6 _ _ tso2, wk _ (by simp) (by decide) (by simp) (by decide)⟩
      · exact ⟨so3, [.l 0, .p, .l 0, .p, .l 0, .p, .l 0], rfl, tx6 _ _ tso3, wk _ (by simp) (by decide) (by simp) (by decide)⟩
      · refine ⟨so4, [.l cc, .l 0], rfl, ?_, ⟨by simp, fun n hn => ?_, by rfl, 0, by simp⟩⟩
        · have e := tx6 _ _ tso4
          rw [show (1 : Int) + (cc : Int) - 1 = (cc : Int) by omega] at e
          exact e
        · simp at hn
          omega
    have x56 : SameX r H5 H6 := (SameX.of u0).trans x6
    refine ⟨_, rfl, _, rfl, (by show 2 ≤ sizeLine; decide), fun b nb => ?_⟩
    obtain ⟨H7, e7', s7', hb⟩ := nw (.tup [.ref pw, .ref as]) nb
    rw [← e7']
    refine ⟨_, rfl, (by show 2 ≤ sizeLine; decide), fun p np => ?_⟩
    have s8' := sNew (o := .tup [.ref b, .ref am]) np
    have s78 := s7'.trans s8'
    have hws6 := (hws.same (tups_of s5')).same (tups_x x56 R5)
    refine k _ p b am ws st ((((x4.trans (SameX.of s5')).trans x56).trans (SameX.of s78))) (R6.same s78) upd_same ⟨pw, as, vs, s8' _ _ hb, s78 _ _ (tups_x x56 R5 _ _ hpw), hws6.same (tups_of s78), s78 _ _ has⟩ ?_
    exact ⟨by omega, by omega, fun u hu => by rw [hwl]; exact hok u hu, by rw [hwl]; exact okst⟩
end
end My
end
section
set_option maxRecDepth 100000
set_option maxHeartbeats 4000000
namespace My
open PySem L2
theorem call_isiKf {X : Cx} (K : PySem.W.Frag) (h : X.K = K) : CallR X (.builtin "isinstance") (rIsi K) := by
  subst h
  exact call_isi
/-- a list (k = true) or a tuple -/
def Sq (K : PySem.W.Frag) (k : Bool) (H : Hp) (a : Addr) (xs : List V) : Prop := match k with
  | true => SqL K H a xs
  | false => SqT K H a xs
theorem for_seq {K : PySem.W.Frag} {k : Bool} {a : Addr} {xs : List V} {g : TG} {tb : TS} {D : Ends} {σ : St} {H : Hp} (Pv : Nat → St → Hp → Prop) (h0 : Pv 0 σ H) (hl : ∀ i σ H, i ≤ xs.length → Pv i σ H → Sq K k H a xs)
    (hs : ∀ i x σ H, xs[i]? = some x → Pv i σ H → g x σ H fun σ2 H2 => tb { D with nx := Pv (i + 1), ct := Pv (i + 1), bk := D.nx } σ2 H2) (hd : ∀ σ H, Pv xs.length σ H → D.nx σ H) :
    ((∃ xs, SqL K H a xs) ∧ ∃ W : Nat → Nat → St → Hp → Prop, (∃ m, W 0 m σ H) ∧ ∀ i m σ H, W i m σ H →
      ((Itl K a).stop i H ∧ D.nx σ H) ∨ ((Itl K a).go i H ∧ ∃ N : St → Hp → Prop, (∀ σ' H', N σ' H' → ∃ m', m' < m ∧ W (i + 1) m' σ' H') ∧ ∀ x H', (Itl K a).yld i H x H' → g x σ H' fun σ2 H2 => tb { D with nx := N, ct := N, bk := D.nx } σ2 H2)) ∨
    ((∃ xs, SqT K H a xs) ∧ ∃ W : Nat → Nat → St → Hp → Prop, (∃ m, W 0 m σ H) ∧ ∀ i m σ H, W i m σ H →
      ((Itt K a).stop i H ∧ D.nx σ H) ∨ ((Itt K a).go i H ∧ ∃ N : St → Hp → Prop, (∀ σ' H', N σ' H' → ∃ m', m' < m ∧ W (i + 1) m' σ' H') ∧ ∀ x H', (Itt K a).yld i H x H' → g x σ H' fun σ2 H2 => tb { D with nx := N, ct := N, bk := D.nx } σ2 H2)) := by
  cases k with
  | true => exact .inl ⟨⟨xs, hl 0 σ H (Nat.zero_le _) h0⟩, for_list Pv h0 hl hs hd⟩
  | false => exact .inr ⟨⟨xs, hl 0 σ H (Nat.zero_le _) h0⟩, for_tup Pv h0 hl hs hd⟩
theorem Sq.same {K : PySem.W.Frag} {k : Bool} {H H' : Hp} {a : Addr} {xs : List V} (h : Sq K k H a xs) (s : Same H H') : Sq K k H' a xs := by
  cases k with
  | true => exact s.seq h
  | false => exact sTup s h
theorem sub_app (ws : List Word) (u v : Word) : sub ws (u ++ v) = sub ws u ++ sub ws v := List.flatMap_append
theorem sub_one (ws : List Word) (i : Item) : sub ws [i] = sub1 ws i := by simp [sub]
theorem sub_le (ws : List Word) (u : Word) (i : Nat) : (sub ws (u.take i)).length ≤ (sub ws u).length := by
  have e : u = u.take i ++ u.drop i := (List.take_append_drop i u).symm
  have h : (sub ws u).length = (sub ws (u.take i)).length + (sub ws (u.drop i)).length := by
    rw [← List.length_append, ← sub_app, ← e]
  omega
theorem BOk.lets {ws : List Word} {st : Word} (ok : BOk ws st) (n : Nat) : lets ws.length (grow ws n st) := lets_grow (fun w hw => (ok.all w hw).lets) ok.st.lets n
theorem BOk.wd {ws : List Word} {st : Word} (ok : BOk ws st) {n : Nat} (h : n < ws.length) : WOk ws.length (wd ws n) := by
  have e : My.wd ws n = ws[n] := by simp [My.wd, List.getD_eq_getElem?_getD, h]
  rw [e]
  exact ok.all _ (List.getElem_mem h)
theorem wd_none {ws : List Word} {n : Nat} (h : ¬ n < ws.length) : wd ws n = [] := by
  simp [wd, List.getD_eq_getElem?_getD, Nat.le_of_not_lt h]
theorem BOk.wlen {ws : List Word} {st : Word} (ok : BOk ws st) (n : Nat) : (My.wd ws n).length ≤ 40 := by
  by_cases h : n < ws.length
  · exact (ok.wd h).len
  · rw [wd_none h]
    simp
theorem BOk.wbal {ws : List Word} {st : Word} (ok : BOk ws st) (n : Nat) : bal 0 (My.wd ws n) = true := by
  by_cases h : n < ws.length
  · exact (ok.wd h).bal
  · rw [wd_none h]
    rfl
section
variable {P : Program} {w : World} {K : PySem.W.Frag} {mg : Str → Option Value} {base : Heap} {A : Adr}
def spGrown : Sp := fun vs H Q _ => ∃ (b : Addr) (ws : List Word) (st : Word) (n : Nat), vs = [.ref b, .int n] ∧ BookAt H b ws st ∧ BOk ws st ∧ n ≤ 100 ∧ Small ws st n ∧
  ∀ H' l, H l = none → Same H H' → H' l = some (.lst ((grow ws n st).map itV)) → Q (.ref l) H'
theorem ok_grown (T : Txt K mg A) : FnOk P w K mg base CX0 1 A._law_grown A.d__law_grown ["_law_book_here", "_law_age_here"] spGrown := by
  refine T.F__law_grown.ok sc__law_grown (fun vs H Q E h => ?_) (fun cdv A' outer s H vs Q E hr h => ?_)
  · obtain ⟨b, ws, st, n, rfl, _⟩ := h
    rfl
  · obtain ⟨b, ws, st, n, rfl, ⟨pw, ps, bvs, hb1, hb2, hb3, hb4⟩, ok, hn, sm, k⟩ := h
    refine ⟨_, (pss_cons (ps_set (i := 2) sc__law_grown.nd rfl (Or.inl rfl) (pe_ix ix_tup (pv 0) pe_int (fun _ _ => rfl)))
    (pss_cons (ps_for PassesOwn.never rfl (pi_range1 (by rfl) T.z_range (pa_cons (pv 1) pa_nil)) (pg_name (i := 3) sc__law_grown.nd rfl (Or.inl rfl))
      (pss_cons (ps_set (i := 4) sc__law_grown.nd rfl (Or.inl rfl) (pe_lst pa_nil))
      (pss_cons (ps_for PassesOwn.never rfl (pi_seq (pv 2)) (pg_name (i := 5) sc__law_grown.nd rfl (Or.inl rfl))
        (pss_one (ps_set (i := 4) sc__law_grown.nd rfl (Or.inl rfl) (pe_op op_cat (pv 4) (pe_ifExp (pt_not (pt_val (pe_callB call_isi (by rfl) T.z_isinstance (by decide +kernel) (pa_cons (pv 5) (pa_cons (pe_bltn (v := .ty "str") (by rfl) T.z_str (by decide +kernel) rfl) pa_nil))))) (pe_callTy call_list_of (by rfl) T.z_list (by decide +kernel) (pa_cons (pe_ix ix_tup (pe_ix ix_tup (pv 0) pe_int (fun _ _ => rfl)) (pv 5) (fun _ _ => rfl)) pa_nil)) (pe_lst (pa_cons (pv 5) pa_nil)))))))
      (pss_one (ps_set (i := 2) sc__law_grown.nd rfl (Or.inl rfl) (pv 4))))))
    (pss_one (ps_ret (pe_callTy call_list_of (by rfl) T.z_list (by decide +kernel) (pa_cons (pv 2) pa_nil)))))), ?_⟩
    refine ⟨_, rfl, b, _, _, _, rfl, rfl, SqT.of hb1, atI_nat (j := 1) rfl, ?_⟩
    have en : ((n : Nat) : Int).toNat = n := rfl
    refine ⟨_, rfl, _, rfl, (by omega), (by omega), for_range (lo := 0) (n := ((n : Nat) : Int).toNat) (fun i σ H' => ∃ (wp : Addr) (kd : Bool) (v3 v4 v5 : Option V), σ = [some (.ref b), some (.int n), some (.ref wp), v3, v4, v5] ∧ Same H H' ∧ Sq K kd H' wp ((grow ws i st).map itV))
      ⟨ps, false, none, none, none, rfl, Same.refl _, SqT.of hb4⟩ ?_ ?_⟩
    · rintro i σ H1 hi ⟨wp, kd, v3, v4, v5, rfl, s1, hw⟩
      have hin : i < n := by omega
      refine ⟨Nat.zero_le _, fun f0 nf0 => ?_⟩
      obtain ⟨H2, e2, s2, hf0⟩ := nw (.lst []) nf0
      rw [← e2]
      refine ⟨_, rfl, wp, rfl, for_seq (K := K) (k := kd) (a := wp) (xs := (grow ws i st).map itV) (fun j σ H' => ∃ (pf : Addr) (v5 : Option V), σ = [some (.ref b), some (.int n), some (.ref wp), some (.int (0 + (i : Int))), some (.ref pf), v5] ∧ Same H2 H' ∧ H' pf = some (.lst ((sub ws ((grow ws i st).take j)).map itV)))
        ⟨f0, _, rfl, Same.refl _, hf0⟩ (fun j σ H' _ ⟨_, _, _, s3, _⟩ => (hw.same s2).same s3) ?_ ?_⟩
      · rintro j y σ H3 hj ⟨pf, v5, rfl, s3, hpf⟩
        obtain ⟨x, hx, rfl⟩ := it_get hj
        obtain ⟨t, ty, et⟩ := ty_it K H3 x
        have s03 := (s1.trans s2).trans s3
        have lenS : (sub ws ((grow ws i st).take j)).length ≤ 200000 := Nat.le_trans (sub_le ws _ j) (sm (i + 1) (by omega))
        have fin : ∀ (q : Addr) (H4 : Hp), Same H3 H4 → H4 q = some (.lst ((sub1 ws x).map itV)) → (sub1 ws x).length ≤ 40 →
            rCat (.ref pf) (.ref q) H4 (fun z H5 => ∃ (pf : Addr) (v5 : Option V), [some (.ref b), some (.int n), some (.ref wp), some (.int (0 + (i : Int))), some z, some (itV x)] = [some (.ref b), some (.int n), some (.ref wp), some (.int (0 + (i : Int))), some (.ref pf), v5] ∧ Same H2 H5 ∧ H5 pf = some (.lst ((sub ws ((grow ws i st).take (j + 1))).map itV))) := fun q H4 s4 hq hl => by
          refine ⟨pf, q, _, _, rfl, rfl, s4 _ _ hpf, hq, small_le (by rw [List.length_map, List.length_map]; omega), fun p np => ⟨p, _, rfl, (s3.trans s4).trans (sNew np), ?_⟩⟩
          rw [upd_same, take_get hx, sub_app, sub_one, List.map_append]
        refine ⟨_, rfl, _, rfl, _, _, t, _, _, rfl, .ty "str", ty, et, _, rfl, ?_⟩
        cases x with
        | l m =>
          have hm : m < ws.length := ok.lets i m (List.mem_of_getElem? hx)
          obtain ⟨a, u, e, hu, ha⟩ := hb3.get (i := m) (v := bvs[m]'(by rw [hb3.len]; exact hm)) (List.getElem?_eq_getElem _)
          have eu : u = wd ws m := by simp [wd, List.getD_eq_getElem?_getD, hu]
          refine ⟨_, rfl, b, _, _, _, rfl, rfl, SqT.of (s03 _ _ hb1), atI_nat (j := 0) rfl, _, rfl, pw, _, _, .ref a, rfl, rfl, SqT.of (s03 _ _ hb2), atI_nat (j := m) (by rw [← e]; exact List.getElem?_eq_getElem _), a, _, rfl, .inr (SqT.of (s03 _ _ ha)), fun q nq => ?_⟩
          exact fin q _ (sNew nq) (by rw [upd_same, eu]; rfl) (ok.wlen m)
        | p => exact ⟨_, rfl, (by show 1 ≤ sizeLine; decide), fun q nq => fin q _ (sNew nq) upd_same (by simp [sub1])⟩
        | m => exact ⟨_, rfl, (by show 1 ≤ sizeLine; decide), fun q nq => fin q _ (sNew nq) upd_same (by simp [sub1])⟩
        | o => exact ⟨_, rfl, (by show 1 ≤ sizeLine; decide), fun q nq => fin q _ (sNew nq) upd_same (by simp [sub1])⟩
        | c => exact ⟨_, rfl, (by show 1 ≤ sizeLine; decide), fun q nq => fin q _ (sNew nq) upd_same (by simp [sub1])⟩
      · rintro σ H3 ⟨pf, v5, rfl, s3, hpf⟩
        rw [List.length_map, List.take_length] at hpf
        exact ⟨_, rfl, pf, true, _, _, _, rfl, (s1.trans s2).trans s3, SqL.of hpf⟩
    · rintro σ H1 ⟨wp, kd, v3, v4, v5, rfl, s1, hw⟩
      rw [en] at hw
      refine ⟨_, rfl, wp, _, rfl, (by cases kd with | true => exact .inl hw | false => exact .inr hw), fun l nl => ?_⟩
      exact k _ l (s1.free nl) (s1.trans (sNew nl)) upd_same
def spAge : Sp := fun vs H Q _ => ∃ (b : Addr) (ws : List Word) (st : Word), vs = [.ref b, .int 300] ∧ BookAt H b ws st ∧ BOk ws st ∧
  ∀ H' (k : Nat), Same H H' → k ≤ 8 → (∀ j, j ≤ k → cnt (grow ws j st) ≤ 300) → Q (.int k) H'
theorem ok_age (T : Txt K mg A) : FnOk P w K mg base CX0 2 A._law_age A.d__law_age ["_law_book_here", "_law_most"] spAge := by
  have G__law_grown : FnOk P w K mg base CX0 1 A._law_grown A.d__law_grown ["_law_book_here", "_law_age_here"] spGrown := ok_grown T
  refine T.F__law_age.ok sc__law_age (fun vs H Q E h => ?_) (fun cdv A' outer s H vs Q E hr h => ?_)
  · obtain ⟨b, ws, st, rfl, _⟩ := h
    rfl
  · obtain ⟨b, ws, st, rfl, hB, ok, k⟩ := h
    refine ⟨_, (pss_cons (ps_set (i := 2) sc__law_age.nd rfl (Or.inl rfl) pe_int)
    (pss_cons (ps_while PassesOwn.never (PW.pt (pw_and (pt_cmpR op_lt (pv 2) pe_int (nomark _)) (pw_and1 (pt_cmpR op_le (pe_callB call_len_seq (by rfl) T.z_len PySem.boot_len (pa_cons (pe_lc (own := [("_law_item", 3)]) (g := gName 3)  rfl sc__law_age.nd (pi_list (pe_call G__law_grown (hr.mono (by decide)) (by rfl) T.m__law_grown T.F__law_grown.kp (b__law_grown T) .nil pass0 (pa_cons (pv 0) (pa_cons (pe_op op_add (pv 2) pe_int) pa_nil)))) (blkOk_by (own := [("_law_item", 3)]) (N := ["_law_book_here", "_law_most", "_law_found", "_law_item"]) (sc := defScope s__law_age) (by decide +kernel)) (fun _ _ _ _ _ => pg_name (i := 3) sc__law_age.nd rfl (Or.inl rfl)) (fun _ _ _ _ _ => (pts_one (pt_not (pt_val (pe_callB (call_isiKf K rfl) (by rfl) T.z_isinstance (by decide +kernel) (pa_cons (pv 3) (pa_cons (pe_bltn (v := .ty "str") (by rfl) T.z_str (by decide +kernel) rfl) pa_nil))))))) (fun _ _ _ _ _ => (pv 3))) pa_nil)) (pv 1) (nomark _)))))
      (pss_one (ps_set (i := 2) sc__law_age.nd rfl (Or.inl rfl) (pe_op op_add (pv 2) pe_int))))
    (pss_one (ps_ret (pv 2))))), ?_⟩
    refine ⟨fun m σ H' => ∃ (n : Nat) (v : Option V), σ = [some (.ref b), some (.int 300), some (.int n), v] ∧ Same H H' ∧ n ≤ 8 ∧ m = 8 - n ∧ ∀ j, j ≤ n → cnt (grow ws j st) ≤ 300,
      ⟨8, 0, none, rfl, Same.refl _, by omega, rfl, fun j hj => ?_⟩, ?_⟩
    · rw [Nat.le_zero.mp hj]
      have h1 := cnt_le st
      have h2 := ok.st.len
      show cnt st ≤ 300
      omega
    rintro m σ H1 ⟨n, v, rfl, s1, hn, rfl, hc⟩
    refine ⟨_, rfl, _, _, rfl, rfl, _, rfl, ?_⟩
    by_cases h8 : n < 8
    · rw [decide_eq_true (by omega : ((n : Nat) : Int) < 8)]
      have sm : Small ws st (n + 1) := small_of ok.wlen ok.st.len (by omega) fun i hi => hc i (by omega)
      refine iteT ?_
      refine ⟨_, rfl, _, rfl, _, _, rfl, rfl, b, ws, st, n + 1, rfl, hB.same (tups_of s1), ok, by omega, sm, fun H2 l nl s2 hl => ?_⟩
      refine ⟨l, rfl, ⟨_, SqL.of hl⟩, fun D nD => ?_⟩
      refine lc_list (K := K) (a := l) (xs := (grow ws (n + 1) st).map itV) (fun i H' => Same H2 H' ∧ H' D = some (.lst ((((grow ws (n + 1) st).take i).filter isL).map itV)))
        ⟨sNew nD, by rw [upd_same]; rfl⟩ (fun i H' _ ⟨s3, _⟩ => SqL.of (s3 _ _ hl)) ?_ ?_
      · rintro i y H3 hi ⟨s3, h3⟩
        obtain ⟨x, hx, rfl⟩ := it_get hi
        obtain ⟨t, ty, et⟩ := ty_it K H3 x
        refine ⟨rfl, _, rfl, _, _, t, _, _, rfl, .ty "str", ty, et, _, rfl, ?_⟩
        have hlen := sm (n + 1) (Nat.le_refl _)
        cases hL : isL x with
        | true =>
          refine ⟨_, rfl, _, h3, small_lt ?_, sMut s3 nD, ?_⟩
          · have h5 := List.length_filter_le isL ((grow ws (n + 1) st).take i)
            have h6 : ((grow ws (n + 1) st).take i).length ≤ (grow ws (n + 1) st).length := List.length_take_le' ..
            rw [List.length_map]
            omega
          · rw [upd_same, take_get hx, List.filter_append, List.map_append]
            simp [hL]
        | false =>
          refine ⟨s3, ?_⟩
          rw [h3, take_get hx, List.filter_append]
          simp [hL]
      · rintro H3 ⟨s3, h3⟩
        rw [List.length_map, List.take_length] at h3
        refine ⟨D, _, rfl, .inl (SqL.of h3), _, rfl, _, _, rfl, rfl, _, rfl, ?_⟩
        have e4 : (((grow ws (n + 1) st).filter isL).map itV).length = cnt (grow ws (n + 1) st) := by
          rw [List.length_map]
          exact List.countP_eq_length_filter.symm
        rw [e4]
        have s13 := (s1.trans s2).trans s3
        refine ite2 (fun hle => ?_) (fun _ => ⟨_, rfl, k H3 n s13 hn hc⟩)
        have hle' := of_decide_eq_true hle
        refine ⟨_, fun σ' H' hw => ⟨8 - (n + 1), by omega, hw⟩, ?_⟩
        refine ⟨_, rfl, _, _, rfl, rfl, ?_⟩
        refine ⟨n + 1, _, rfl, s13, by omega, rfl, fun j hj => ?_⟩
        by_cases hj2 : j ≤ n
        · exact hc j hj2
        · have ej : j = n + 1 := by omega
          subst ej
          omega
    · rw [decide_eq_false (by omega : ¬ ((n : Nat) : Int) < 8)]
      refine iteF ?_
      exact ⟨_, rfl, k H1 n s1 hn hc⟩
def spUnit : Sp := fun vs H Q _ => ∃ (h : Int), vs = [.int h] ∧ ∀ p H', Same H H' → H' p = some (.tup [.int (rx h 1 0), .int (ry h 1 0)]) → Q (.ref p) H'
theorem ok_unit (T : Txt K mg A) : FnOk P w K mg base CX0 1 A._law_unit A.d__law_unit ["_law_heading"] spUnit := by
  refine T.F__law_unit.ok sc__law_unit (fun vs H Q E h => ?_) (fun cdv A' outer s H vs Q E hr h => ?_)
  · obtain ⟨h, rfl, _⟩ := h
    rfl
  · obtain ⟨n, rfl, k⟩ := h
    refine ⟨_, (pss_one (ps_ret (pe_ix ix_list (pe_lst (pa_cons (pe_tup (pa_cons pe_int (pa_cons pe_int pa_nil))) (pa_cons (pe_tup (pa_cons pe_int (pa_cons pe_int pa_nil))) (pa_cons (pe_tup (pa_cons (pe_un un_neg pe_int) (pa_cons pe_int pa_nil))) (pa_cons (pe_tup (pa_cons pe_int (pa_cons (pe_un un_neg pe_int) pa_nil))) pa_nil))))) (pe_op op_mod (pe_callTy call_int1 (by rfl) T.z_int (by decide +kernel) (pa_cons (pv 0) pa_nil)) pe_int) (fun _ _ => rfl)))), ?_⟩
    refine ⟨by show 2 ≤ sizeLine; decide, fun p1 n1 => ⟨by show 2 ≤ sizeLine; decide, fun p2 n2 => ⟨1, rfl, by show 2 ≤ sizeLine; decide, fun p3 n3 => ⟨1, rfl, by show 2 ≤ sizeLine; decide, fun p4 n4 => ⟨by show 4 ≤ sizeLine; decide, fun p n5 => ?_⟩⟩⟩⟩⟩
    have s5 := sNew (o := .lst [.ref p1, .ref p2, .ref p3, .ref p4]) n5
    have s4 := (sNew (o := .tup [.int 0, .int (-1)]) n4).trans s5
    have s3 := (sNew (o := .tup [.int (-1), .int 0]) n3).trans s4
    have s2 := (sNew (o := .tup [.int 0, .int 1]) n2).trans s3
    have s1 := (sNew (o := .tup [.int 1, .int 0]) n1).trans s2
    rcases mod4 n with e | e | e | e
    · refine ⟨_, rfl, .inl ⟨_, rfl, _, _, rfl, rfl, (by show (0 : Int) < 4; decide), p, _, _, .ref p1, rfl, rfl, SqL.of upd_same, at_of (j := 0) e rfl, k _ _ s1 ?_⟩⟩
      rw [show rx n 1 0 = 1 by simp [rx, e], show ry n 1 0 = 0 by simp [ry, e]]
      exact s2 _ _ upd_same
    · refine ⟨_, rfl, .inl ⟨_, rfl, _, _, rfl, rfl, (by show (0 : Int) < 4; decide), p, _, _, .ref p2, rfl, rfl, SqL.of upd_same, at_of (j := 1) e rfl, k _ _ s1 ?_⟩⟩
      rw [show rx n 1 0 = 0 by simp [rx, e], show ry n 1 0 = 1 by simp [ry, e]]
      exact s3 _ _ upd_same
    · refine ⟨_, rfl, .inl ⟨_, rfl, _, _, rfl, rfl, (by show (0 : Int) < 4; decide), p, _, _, .ref p3, rfl, rfl, SqL.of upd_same, at_of (j := 2) e rfl, k _ _ s1 ?_⟩⟩
      rw [show rx n 1 0 = -1 by simp [rx, e], show ry n 1 0 = 0 by simp [ry, e]]
      exact s4 _ _ upd_same
    · refine ⟨_, rfl, .inl ⟨_, rfl, _, _, rfl, rfl, (by show (0 : Int) < 4; decide), p, _, _, .ref p4, rfl, rfl, SqL.of upd_same, at_of (j := 3) e rfl, k _ _ s1 ?_⟩⟩
      rw [show rx n 1 0 = 0 by simp [rx, e], show ry n 1 0 = -1 by simp [ry, e]]
      exact s5 _ _ upd_same
theorem ok_quarter (T : Txt K mg A) : FnOk P w K mg base CX0 1 A._law_quarter A.d__law_quarter ["_law_place", "_law_many"] (spTurned K) := by
  refine T.F__law_quarter.ok sc__law_quarter (fun vs H Q E h => ?_) (fun cdv A' outer s H vs Q E hr h => ?_)
  · obtain ⟨a, x, y, k, rfl, _⟩ := h
    rfl
  · obtain ⟨a, x, y, n, rfl, hT, k⟩ := h
    refine ⟨_, (pss_cons (ps_asg (pv 0) (pg_tup rfl (pgs_cons (pg_name (i := 2) sc__law_quarter.nd rfl (Or.inl rfl)) (pgs_cons (pg_name (i := 3) sc__law_quarter.nd rfl (Or.inl rfl)) pgs_nil))))
    (pss_one (ps_ret (pe_ix ix_list (pe_lst (pa_cons (pe_tup (pa_cons (pv 2) (pa_cons (pv 3) pa_nil))) (pa_cons (pe_tup (pa_cons (pe_op op_sub pe_int (pv 3)) (pa_cons (pv 2) pa_nil))) (pa_cons (pe_tup (pa_cons (pe_op op_sub pe_int (pv 2)) (pa_cons (pe_op op_sub pe_int (pv 3)) pa_nil))) (pa_cons (pe_tup (pa_cons (pv 3) (pa_cons (pe_op op_sub pe_int (pv 2)) pa_nil))) pa_nil))))) (pe_op op_mod (pe_callTy call_int1 (by rfl) T.z_int (by decide +kernel) (pa_cons (pv 1) pa_nil)) pe_int) (fun _ _ => rfl))))), ?_⟩
    refine ⟨_, rfl, a, _, rfl, hT, rfl, _, _, rfl, _, _, rfl, rfl, ?_⟩
    refine ⟨_, rfl, _, rfl, by show 2 ≤ sizeLine; decide, fun p1 n1 => ?_⟩
    refine ⟨_, rfl, _, _, rfl, rfl, _, rfl, by show 2 ≤ sizeLine; decide, fun p2 n2 => ?_⟩
    refine ⟨_, rfl, _, _, rfl, rfl, _, rfl, _, _, rfl, rfl, by show 2 ≤ sizeLine; decide, fun p3 n3 => ?_⟩
    refine ⟨_, rfl, _, rfl, _, _, rfl, rfl, by show 2 ≤ sizeLine; decide, fun p4 n4 => ?_⟩
    refine ⟨by show 4 ≤ sizeLine; decide, fun p n5 => ?_⟩
    have s5 := sNew (o := .lst [.ref p1, .ref p2, .ref p3, .ref p4]) n5
    have s4 := (sNew (o := .tup [.int y, .int (0 - x)]) n4).trans s5
    have s3 := (sNew (o := .tup [.int (0 - x), .int (0 - y)]) n3).trans s4
    have s2 := (sNew (o := .tup [.int (0 - y), .int x]) n2).trans s3
    have s1 := (sNew (o := .tup [.int x, .int y]) n1).trans s2
    rcases mod4 n with e | e | e | e
    · refine ⟨_, rfl, .inl ⟨_, rfl, _, _, rfl, rfl, (by show (0 : Int) < 4; decide), p, _, _, .ref p1, rfl, rfl, SqL.of upd_same, at_of (j := 0) e rfl, k _ _ s1 ?_⟩⟩
      rw [show rx n x y = x by simp [rx, e], show ry n x y = y by simp [ry, e]]
      exact s2 _ _ upd_same
    · refine ⟨_, rfl, .inl ⟨_, rfl, _, _, rfl, rfl, (by show (0 : Int) < 4; decide), p, _, _, .ref p2, rfl, rfl, SqL.of upd_same, at_of (j := 1) e rfl, k _ _ s1 ?_⟩⟩
      rw [show rx n x y = 0 - y by simp [rx, e], show ry n x y = x by simp [ry, e]]
      exact s3 _ _ upd_same
    · refine ⟨_, rfl, .inl ⟨_, rfl, _, _, rfl, rfl, (by show (0 : Int) < 4; decide), p, _, _, .ref p3, rfl, rfl, SqL.of upd_same, at_of (j := 2) e rfl, k _ _ s1 ?_⟩⟩
      rw [show rx n x y = 0 - x by simp [rx, e], show ry n x y = 0 - y by simp [ry, e]]
      exact s4 _ _ upd_same
    · refine ⟨_, rfl, .inl ⟨_, rfl, _, _, rfl, rfl, (by show (0 : Int) < 4; decide), p, _, _, .ref p4, rfl, rfl, SqL.of upd_same, at_of (j := 3) e rfl, k _ _ s1 ?_⟩⟩
      rw [show rx n x y = y by simp [rx, e], show ry n x y = 0 - x by simp [ry, e]]
      exact s5 _ _ upd_same
end
end My
end
section
set_option maxRecDepth 100000
set_option maxHeartbeats 4000000
namespace My
open PySem L2
/-- the places vs of tuples, what they hold -/
def TupsAt (H : Hp) (vs : List V) (ts : List (List V)) : Prop := vs.length = ts.length ∧ ∀ (i : Nat) (t : List V), ts[i]? = some t → ∃ a, vs[i]? = some (.ref a) ∧ H a = some (.tup t)
section
variable {H H' : Hp} {vs : List V} {ts : List (List V)}
theorem TupsAt.keep (h : TupsAt H vs ts) (s : ∀ a xs, H a = some (.tup xs) → H' a = some (.tup xs)) : TupsAt H' vs ts := ⟨h.1, fun i t hi => let ⟨a, h1, h2⟩ := h.2 i t hi; ⟨a, h1, s _ _ h2⟩⟩
theorem TupsAt.nil : TupsAt H [] [] := ⟨rfl, fun i t h => by simp at h⟩
theorem TupsAt.app {v : V} {t : List V} (h : TupsAt H vs ts) (hv : ∃ a, v = .ref a ∧ H a = some (.tup t)) : TupsAt H (vs ++ [v]) (ts ++ [t]) := by
  refine ⟨by simp [h.1], fun i u hi => ?_⟩
  by_cases hl : i < ts.length
  · rw [List.getElem?_append_left hl] at hi
    obtain ⟨a, h1, h2⟩ := h.2 i u hi
    exact ⟨a, by rw [List.getElem?_append_left (by rw [h.1]; exact hl)]; exact h1, h2⟩
  · have hle : ts.length ≤ i := by omega
    rw [List.getElem?_append_right hle] at hi
    obtain ⟨a, e, ha⟩ := hv
    by_cases h0 : i - ts.length = 0
    · rw [h0] at hi
      have et : t = u := Option.some.inj hi
      subst et
      refine ⟨a, ?_, ha⟩
      rw [List.getElem?_append_right (by rw [h.1]; exact hle), h.1, h0, e]
      rfl
    · have : 1 ≤ i - ts.length := by omega
      simp [List.getElem?_eq_none (l := [t]) (i := i - ts.length) (by simpa using this)] at hi
theorem TupsAt.pop {t : List V} (h : TupsAt H vs (ts ++ [t])) : (∃ a, vs[vs.length - 1]? = some (.ref a) ∧ H a = some (.tup t)) ∧ TupsAt H vs.dropLast ts := by
  have hl : vs.length = ts.length + 1 := by simpa using h.1
  refine ⟨?_, by simp [hl], fun i u hi => ?_⟩
  · obtain ⟨a, h1, h2⟩ := h.2 ts.length t (by simp)
    refine ⟨a, ?_, h2⟩
    rw [hl]
    exact h1
  · have hlt : i < ts.length := (List.getElem?_eq_some_iff.mp hi).1
    obtain ⟨a, h1, h2⟩ := h.2 i u (by rw [List.getElem?_append_left hlt]; exact hi)
    refine ⟨a, ?_, h2⟩
    rw [List.getElem?_dropLast, if_pos (by omega)]
    exact h1
theorem tups_l {p : Addr} {xs ys : List V} (h : H p = some (.lst xs)) : ∀ a zs, H a = some (.tup zs) → (upd H p (.lst ys)) a = some (.tup zs) := fun a zs e => by
  rw [upd_ne (ne_of e h (by intro z; cases z))]
  exact e
end
def sV (q : Int × Int × Int × Nat) : List V := [.int q.1, .int q.2.1, .int q.2.2.1, .int q.2.2.2]
def tV (q : Int × Int × Int) : List V := [.int q.1, .int q.2.1, .int q.2.2]
theorem dstep_len (d : Dr) (i : Item) : (dstep d i).found.length ≤ d.found.length + 1 ∧ (dstep d i).stands.length ≤ d.stands.length + 1 := by
  obtain ⟨x, y, h, f, st⟩ := d
  cases i with
  | l n => simp [dstep]
  | p => simp [dstep]
  | m => simp [dstep]
  | o => simp [dstep]
  | c =>
    cases st with
    | nil => simp [dstep]
    | cons q st => obtain ⟨a, b, c⟩ := q; simp [dstep]; omega
theorem drawn_len : ∀ (w : Word) (d : Dr), (w.foldl dstep d).found.length ≤ d.found.length + w.length ∧ (w.foldl dstep d).stands.length ≤ d.stands.length + w.length
  | [], d => ⟨Nat.le_refl _, Nat.le_refl _⟩
  | i :: w, d => by
    have h1 := dstep_len d i
    have h2 := drawn_len w (dstep d i)
    simp only [List.foldl_cons, List.length_cons]
    omega
theorem drawn_bal : ∀ (w : Word) (d : Dr) (v : Word), bal d.stands.length (w ++ v) = true → bal (w.foldl dstep d).stands.length v = true
  | [], d, v, h => h
  | .l n :: w, ⟨x, y, k, f, st⟩, v, h => drawn_bal w _ v (by simpa [bal, dstep] using h)
  | .p :: w, ⟨x, y, k, f, st⟩, v, h => drawn_bal w _ v (by simpa [bal, dstep] using h)
  | .m :: w, ⟨x, y, k, f, st⟩, v, h => drawn_bal w _ v (by simpa [bal, dstep] using h)
  | .o :: w, ⟨x, y, k, f, st⟩, v, h => drawn_bal w _ v (by simpa [bal, dstep] using h)
  | .c :: w, ⟨x, y, k, f, []⟩, v, h => by simp [bal] at h
  | .c :: w, ⟨x, y, k, f, (a, b, c) :: st⟩, v, h => drawn_bal w _ v (by simpa [bal, dstep] using h)
theorem drawn_take {w : Word} {i : Nat} {y : Item} (h : w[i]? = some y) : drawn (w.take (i + 1)) = dstep (drawn (w.take i)) y := by
  unfold drawn
  rw [take_get h, List.foldl_append]
  rfl
section
variable {P : Program} {w : World} {K : PySem.W.Frag} {mg : Str → Option Value} {base : Heap} {A : Adr}
def spDrawn : Sp := fun vs H Q _ => ∃ (a : Addr) (u : Word), vs = [.ref a] ∧ H a = some (.lst (u.map itV)) ∧ bal 0 u = true ∧ u.length ≤ 200000 ∧
  ∀ H' p ql pe qs, Same H H' → H' p = some (.tup [.ref ql, .ref pe]) → H' ql = some (.lst qs) → TupsAt H' qs ((drawn u).found.map sV) → H' pe = some (.tup (tV ((drawn u).x, (drawn u).y, (drawn u).h))) → Q (.ref p) H'
theorem ok_drawn (T : Txt K mg A) : FnOk P w K mg base CX0 2 A._law_drawn A.d__law_drawn ["_law_word_here"] spDrawn := by
  have G__law_unit : FnOk P w K mg base CX0 1 A._law_unit A.d__law_unit ["_law_heading"] spUnit := ok_unit T
  refine T.F__law_drawn.ok sc__law_drawn (fun vs H Q E h => ?_) (fun cdv A' outer s H vs Q E hr h => ?_)
  · obtain ⟨a, u, rfl, _⟩ := h
    rfl
  · obtain ⟨a, u, rfl, ha, hb, hlen, k⟩ := h
    refine ⟨_, (pss_cons (ps_asg (pe_tup (pa_cons pe_int (pa_cons pe_int (pa_cons pe_int (pa_cons (pe_lst pa_nil) (pa_cons (pe_lst pa_nil) pa_nil)))))) (pg_tup rfl (pgs_cons (pg_name (i := 1) sc__law_drawn.nd rfl (Or.inl rfl)) (pgs_cons (pg_name (i := 2) sc__law_drawn.nd rfl (Or.inl rfl)) (pgs_cons (pg_name (i := 3) sc__law_drawn.nd rfl (Or.inl rfl)) (pgs_cons (pg_name (i := 4) sc__law_drawn.nd rfl (Or.inl rfl)) (pgs_cons (pg_name (i := 5) sc__law_drawn.nd rfl (Or.inl rfl)) pgs_nil)))))))
    (pss_cons (ps_for PassesOwn.never rfl (pi_list (pv 0)) (pg_name (i := 6) sc__law_drawn.nd rfl (Or.inl rfl))
      (pss_one (ps_if (pt_cmpR op_eq (pv 6) pe_str (nomark _)) (pss_one (ps_expr (pe_bm PySem.F.plainAttrs_list PySem.F.slot_list_append PySem.F.type_list_append mt_append (pv 5) (pa_cons (pe_tup (pa_cons (pv 1) (pa_cons (pv 2) (pa_cons (pv 3) pa_nil)))) pa_nil)))) (pss_one (ps_if (pt_cmpR op_eq (pv 6) pe_str (nomark _)) (pss_one (ps_asg (pe_bm0 PySem.F.plainAttrs_list PySem.F.slot_list_pop PySem.F.type_list_pop mt_pop (pv 5)) (pg_tup rfl (pgs_cons (pg_name (i := 1) sc__law_drawn.nd rfl (Or.inl rfl)) (pgs_cons (pg_name (i := 2) sc__law_drawn.nd rfl (Or.inl rfl)) (pgs_cons (pg_name (i := 3) sc__law_drawn.nd rfl (Or.inl rfl)) pgs_nil)))))) (pss_one (ps_if (pt_val (pe_callB call_isi (by rfl) T.z_isinstance (by decide +kernel) (pa_cons (pv 6) (pa_cons (pe_bltn (v := .ty "str") (by rfl) T.z_str (by decide +kernel) rfl) pa_nil)))) (pss_one (ps_set (i := 3) sc__law_drawn.nd rfl (Or.inl rfl) (pe_op op_mod (pe_callTy call_int1 (by rfl) T.z_int (by decide +kernel) (pa_cons (pe_op op_add (pv 3) (pe_ifExp (pt_cmpR op_eq (pv 6) pe_str (nomark _)) pe_int pe_int)) pa_nil)) pe_int))) (pss_cons (ps_expr (pe_bm PySem.F.plainAttrs_list PySem.F.slot_list_append PySem.F.type_list_append mt_append (pv 4) (pa_cons (pe_tup (pa_cons (pv 1) (pa_cons (pv 2) (pa_cons (pv 3) (pa_cons (pv 6) pa_nil))))) pa_nil)))
            (pss_one (ps_par (i := 1) (j := 2) rfl sc__law_drawn.nd rfl rfl (by decide) rfl rfl (pa_cons (pe_op op_add (pv 1) (pe_ix ix_tup (pe_call G__law_unit (hr.mono (by decide)) (by rfl) T.m__law_unit T.F__law_unit.kp (b__law_unit T) .nil pass0 (pa_cons (pv 3) pa_nil)) pe_int (fun _ _ => rfl))) (pa_cons (pe_op op_add (pv 2) (pe_ix ix_tup (pe_call G__law_unit (hr.mono (by decide)) (by rfl) T.m__law_unit T.F__law_unit.kp (b__law_unit T) .nil pass0 (pa_cons (pv 3) pa_nil)) pe_int (fun _ _ => rfl))) pa_nil)) (by rfl)))))))))))
    (pss_one (ps_ret (pe_tup (pa_cons (pv 4) (pa_cons (pe_tup (pa_cons (pv 1) (pa_cons (pv 2) (pa_cons (pv 3) pa_nil)))) pa_nil))))))), ?_⟩
    refine ⟨Nat.zero_le _, fun ql nql => ?_⟩
    obtain ⟨H1, e1, s1, hql⟩ := nw (.lst []) nql
    rw [← e1]
    refine ⟨Nat.zero_le _, fun qs nqs => ?_⟩
    obtain ⟨H2, e2, s2, hqs⟩ := nw (.lst []) nqs
    rw [← e2]
    refine ⟨(by show 5 ≤ sizeLine; decide), fun pt npt => ?_⟩
    obtain ⟨H3, e3, s3, hpt⟩ := nw (.tup [.int 0, .int 0, .int 0, .ref ql, .ref qs]) npt
    rw [← e3]
    refine ⟨pt, _, rfl, SqT.of hpt, rfl, _, _, rfl, _, _, rfl, _, _, rfl, _, _, rfl, _, _, rfl, rfl, ?_⟩
    have s03 := (s1.trans s2).trans s3
    have nql0 : H ql = none := nql
    have nqs0 : H qs = none := s1.free nqs
    have nqq : ql ≠ qs := ne_of_none hql nqs
    refine ⟨_, rfl, a, rfl, ⟨_, SqL.of (s03 _ _ ha)⟩, for_list (K := K) (a := a) (xs := u.map itV) (fun i σ H' => ∃ (d : Dr) (v : Option V) (vl vst : List V), d = drawn (u.take i) ∧
        σ = [some (.ref a), some (.int d.x), some (.int d.y), some (.int d.h), some (.ref ql), some (.ref qs), v] ∧ Same H H' ∧ H' ql = some (.lst vl) ∧ TupsAt H' vl (d.found.map sV) ∧ H' qs = some (.lst vst) ∧ TupsAt H' vst (d.stands.reverse.map tV))
      ⟨_, none, [], [], rfl, rfl, s03, s3 _ _ (s2 _ _ hql), TupsAt.nil, s3 _ _ hqs, TupsAt.nil⟩ (fun i σ H' _ ⟨_, _, _, _, _, _, s4, _⟩ => SqL.of (s4 _ _ ha)) ?_ ?_⟩
    · rintro i z σ H4 hi ⟨d, v, vl, vst, hd, rfl, s4, hvl, htl, hvs, hts⟩
      obtain ⟨it, hx, rfl⟩ := it_get hi
      have er := drawn_take hx
      have hbl : bal d.stands.length (it :: u.drop (i + 1)) = true := by
        rw [hd]
        refine drawn_bal (u.take i) ⟨0, 0, 0, [], []⟩ _ ?_
        rw [← drop_get hx, List.take_append_drop]
        exact hb
      have hl2 : d.found.length ≤ 200000 ∧ d.stands.length ≤ 200000 := by
        have h1 := drawn_len (u.take i) ⟨0, 0, 0, [], []⟩
        have h3 : (u.take i).length ≤ u.length := List.length_take_le' ..
        rw [hd]
        unfold drawn
        simp only [List.length_nil] at h1
        omega
      rw [← hd] at er
      clear hd
      obtain ⟨x, y, hh, fo, st⟩ := d
      simp only at hl2 hbl htl hts
      have vll : vl.length ≤ 200000 := by
        have := htl.1
        rw [List.length_map] at this
        omega
      have vsl : vst.length ≤ 200000 := by
        have := hts.1
        rw [List.length_map, List.length_reverse] at this
        omega
      cases it with
      | l n =>
        refine ⟨_, rfl, rfl, false, rfl, iteF ⟨_, rfl, rfl, false, rfl, iteF ?_⟩⟩
        refine ⟨_, rfl, _, _, _, _, false, rfl, .ty "str", .base (.int n), kit_ty (by decide +kernel), false, rfl, iteF ?_⟩
        refine ⟨_, rfl, .inl ⟨rfl, _, SqL.of hvl⟩, _, rfl, _, rfl, _, rfl, _, rfl, (by show 4 ≤ sizeLine; decide), fun p np => ?_⟩
        obtain ⟨H5, e5, s5, hp⟩ := nw (.tup [.int x, .int y, .int hh, .int n]) np
        have e5' : upd H4 p (.tup [.int (Dr.mk x y hh fo st).x, .int (Dr.mk x y hh fo st).y, .int (Dr.mk x y hh fo st).h, itV (.l n)]) = H5 := e5.symm
        rw [e5']
        refine ⟨ql, _, _, rfl, rfl, s5 _ _ hvl, small_lt (by omega), ?_⟩
        have k6 := tups_l (ys := vl ++ [.ref p]) (s5 _ _ hvl)
        have s6 : Same H (upd H5 ql (.lst (vl ++ [.ref p]))) := sMut (s4.trans s5) nql0
        have hvl6 : (upd H5 ql (.lst (vl ++ [.ref p]))) ql = some (.lst (vl ++ [.ref p])) := upd_same
        have hvs6 : (upd H5 ql (.lst (vl ++ [.ref p]))) qs = some (.lst vst) := by rw [upd_ne nqq.symm]; exact s5 _ _ hvs
        have htl6 := ((htl.keep (tups_of s5)).keep k6).app ⟨p, rfl, k6 _ _ hp⟩
        have hts6 := (hts.keep (tups_of s5)).keep k6
        generalize upd H5 ql _ = H6 at *
        refine ⟨_, rfl, _, rfl, hh, rfl, fun p7 H7 s7 hp7 => ⟨p7, _, _, _, rfl, rfl, SqT.of hp7, atI_nat (j := 0) rfl, _, _, rfl, rfl, ?_⟩⟩
        refine ⟨_, rfl, _, rfl, hh, rfl, fun p8 H8 s8 hp8 => ⟨p8, _, _, _, rfl, rfl, SqT.of hp8, atI_nat (j := 1) rfl, _, _, rfl, rfl, ?_⟩⟩
        refine ⟨_, _, rfl, ?_⟩
        have s78 := s7.trans s8
        refine ⟨_, some (itV (.l n)), _, vst, rfl, ?_, s6.trans s78, s78 _ _ hvl6, ?_, s78 _ _ hvs6, ?_⟩
        · rw [er]
          rfl
        · rw [er]
          have q := htl6.keep (tups_of s78)
          simp only [dstep, List.map_append, List.map_cons, List.map_nil]
          exact q
        · rw [er]
          exact hts6.keep (tups_of s78)
      | p =>
        refine ⟨_, rfl, rfl, false, by decide +kernel, iteF ⟨_, rfl, rfl, false, by decide +kernel, iteF ?_⟩⟩
        refine ⟨_, rfl, _, _, _, _, true, rfl, .ty "str", .base (.str "+"), kit_ty (by decide +kernel), true, rfl, iteT ?_⟩
        refine ⟨_, rfl, _, rfl, rfl, true, by decide +kernel, iteT ⟨_, _, rfl, rfl, .inl ⟨_, rfl, _, _, rfl, rfl, (by show (0 : Int) < 4; decide), ?_⟩⟩⟩
        exact ⟨_, _, vl, vst, rfl, by rw [er]; rfl, s4, hvl, by rw [er]; exact htl, hvs, by rw [er]; exact hts⟩
      | m =>
        refine ⟨_, rfl, rfl, false, by decide +kernel, iteF ⟨_, rfl, rfl, false, by decide +kernel, iteF ?_⟩⟩
        refine ⟨_, rfl, _, _, _, _, true, rfl, .ty "str", .base (.str "-"), kit_ty (by decide +kernel), true, rfl, iteT ?_⟩
        refine ⟨_, rfl, _, rfl, rfl, false, by decide +kernel, iteF ⟨_, _, rfl, rfl, .inl ⟨_, rfl, _, _, rfl, rfl, (by show (0 : Int) < 4; decide), ?_⟩⟩⟩
        exact ⟨_, _, vl, vst, rfl, by rw [er]; rfl, s4, hvl, by rw [er]; exact htl, hvs, by rw [er]; exact hts⟩
      | o =>
        refine ⟨_, rfl, rfl, true, by decide +kernel, iteT ?_⟩
        refine ⟨_, rfl, .inl ⟨rfl, _, SqL.of hvs⟩, _, rfl, _, rfl, _, rfl, (by show 3 ≤ sizeLine; decide), fun p np => ?_⟩
        obtain ⟨H5, e5, s5, hp⟩ := nw (.tup [.int x, .int y, .int hh]) np
        have e5' : upd H4 p (.tup [.int (Dr.mk x y hh fo st).x, .int (Dr.mk x y hh fo st).y, .int (Dr.mk x y hh fo st).h]) = H5 := e5.symm
        rw [e5']
        refine ⟨qs, _, _, rfl, rfl, s5 _ _ hvs, small_lt (by omega), ?_⟩
        have k6 := tups_l (ys := vst ++ [.ref p]) (s5 _ _ hvs)
        refine ⟨_, _, vl, vst ++ [.ref p], rfl, by rw [er]; rfl, sMut (s4.trans s5) nqs0, by rw [upd_ne nqq]; exact s5 _ _ hvl, ?_, upd_same, ?_⟩
        · rw [er]
          exact (htl.keep (tups_of s5)).keep k6
        · rw [er]
          have q := ((hts.keep (tups_of s5)).keep k6).app ⟨p, rfl, k6 _ _ hp⟩
          simp only [dstep, List.reverse_cons, List.map_append, List.map_cons, List.map_nil]
          exact q
      | c =>
        cases st with
        | nil => simp [bal] at hbl
        | cons g st =>
          obtain ⟨gx, gy, gh⟩ := g
          simp only [List.reverse_cons, List.map_append, List.map_cons, List.map_nil] at hts
          obtain ⟨⟨g', hg1, hg2⟩, hts'⟩ := hts.pop
          refine ⟨_, rfl, rfl, false, by decide +kernel, iteF ⟨_, rfl, rfl, true, by decide +kernel, iteT ?_⟩⟩
          have k6 := tups_l (ys := vst.dropLast) hvs
          refine ⟨_, rfl, .inl ⟨rfl, _, SqL.of hvs⟩, qs, vst, .ref g', rfl, rfl, hvs, hg1, ?_⟩
          refine ⟨g', _, rfl, SqT.of (k6 _ _ hg2), rfl, _, _, rfl, _, _, rfl, _, _, rfl, rfl, ?_⟩
          refine ⟨_, _, vl, vst.dropLast, rfl, by rw [er]; rfl, sMut s4 nqs0, by rw [upd_ne nqq]; exact hvl, ?_, upd_same, ?_⟩
          · rw [er]
            exact htl.keep k6
          · rw [er]
            exact hts'.keep k6
    · rintro σ H4 ⟨d, v, vl, vst, hd, rfl, s4, hvl, htl, hvs, hts⟩
      rw [List.length_map, List.take_length] at hd
      subst hd
      refine ⟨_, rfl, _, rfl, _, rfl, _, rfl, (by show 3 ≤ sizeLine; decide), fun pe npe => ?_⟩
      obtain ⟨H5, e5, s5, hpe⟩ := nw (.tup (tV ((drawn u).x, (drawn u).y, (drawn u).h))) npe
      have e5' : upd H4 pe (.tup [.int (drawn u).x, .int (drawn u).y, .int (drawn u).h]) = H5 := e5.symm
      rw [e5']
      refine ⟨(by show 2 ≤ sizeLine; decide), fun p np => ?_⟩
      have s6 := sNew (o := .tup [.ref ql, .ref pe]) np
      exact k _ p ql pe vl ((s4.trans s5).trans s6) upd_same (s6 _ _ (s5 _ _ hvl)) ((htl.keep (tups_of s5)).keep (tups_of s6)) (s6 _ _ hpe)
def spMain : Sp := fun vs H Q _ => ∃ (a : Addr) (u : Word), vs = [.ref a] ∧ H a = some (.lst (u.map itV)) ∧ u.length ≤ 200000 ∧ ∀ H' l, Same H H' → H' l = some (.lst ((mainOf u).map itV)) → Q (.ref l) H'
theorem mstep_len (x : Word × Int) (i : Item) : (mstep x i).1.length ≤ x.1.length + 1 := by
  unfold mstep
  simp only
  split <;> split <;> simp
theorem main_len : ∀ (w : Word) (x : Word × Int), (w.foldl mstep x).1.length ≤ x.1.length + w.length
  | [], x => Nat.le_refl _
  | i :: w, x => by
    have h1 := mstep_len x i
    have h2 := main_len w (mstep x i)
    simp only [List.foldl_cons, List.length_cons]
    omega
theorem main_take {w : Word} {x : Word × Int} {i : Nat} {y : Item} (h : w[i]? = some y) : (w.take (i + 1)).foldl mstep x = mstep ((w.take i).foldl mstep x) y := by
  rw [take_get h, List.foldl_append]
  rfl
theorem it_notin (i : Item) : (!inV (itV i) [.str "[", .str "]"]) = decide (i ≠ .o ∧ i ≠ .c) := by
  cases i with
  | l n => simp [inV, itV, eqV]
  | p => decide +kernel
  | m => decide +kernel
  | o => decide +kernel
  | c => decide +kernel
theorem ok_main (T : Txt K mg A) : FnOk P w K mg base CX0 1 A._law_main A.d__law_main ["_law_word_here"] spMain := by
  refine T.F__law_main.ok sc__law_main (fun vs H Q E h => ?_) (fun cdv A' outer s H vs Q E hr h => ?_)
  · obtain ⟨a, u, rfl, _⟩ := h
    rfl
  · obtain ⟨a, u, rfl, ha, hlen, k⟩ := h
    refine ⟨_, (pss_cons (ps_par (i := 1) (j := 2) rfl sc__law_main.nd rfl rfl (by decide) rfl rfl (pa_cons (pe_lst pa_nil) (pa_cons pe_int pa_nil)) (by rfl))
    (pss_cons (ps_for PassesOwn.never rfl (pi_list (pv 0)) (pg_name (i := 3) sc__law_main.nd rfl (Or.inl rfl))
      (pss_cons (ps_set (i := 2) sc__law_main.nd rfl (Or.inl rfl) (pe_ifExp (pt_cmpR op_eq (pv 3) pe_str (nomark _)) (pe_op op_sub (pv 2) pe_int) (pv 2)))
      (pss_cons (ps_set (i := 1) sc__law_main.nd rfl (Or.inl rfl) (pe_ifExp (PW.pt (pw_and (pt_cmpR op_eq (pv 2) pe_int (nomark _)) (pw_and1 (pt_cmpR op_notIn_seq (pv 3) (pe_lst (pa_cons pe_str (pa_cons pe_str pa_nil))) rfl)))) (pe_op op_cat (pv 1) (pe_lst (pa_cons (pv 3) pa_nil))) (pv 1)))
      (pss_one (ps_set (i := 2) sc__law_main.nd rfl (Or.inl rfl) (pe_ifExp (pt_cmpR op_eq (pv 3) pe_str (nomark _)) (pe_op op_add (pv 2) pe_int) (pv 2)))))))
    (pss_one (ps_ret (pv 1))))), ?_⟩
    refine ⟨Nat.zero_le _, fun f0 nf0 => ?_⟩
    obtain ⟨H1, e1, s1, hf0⟩ := nw (.lst []) nf0
    rw [← e1]
    refine ⟨_, _, rfl, ?_⟩
    refine ⟨_, rfl, a, rfl, ⟨_, SqL.of (s1 _ _ ha)⟩, for_list (K := K) (a := a) (xs := u.map itV) (fun i σ H' => ∃ (f : Word) (d : Int) (v : Option V) (pf : Addr), (f, d) = (u.take i).foldl mstep ([], 0) ∧
        σ = [some (.ref a), some (.ref pf), some (.int d), v] ∧ Same H H' ∧ H' pf = some (.lst (f.map itV)))
      ⟨[], 0, none, f0, rfl, rfl, s1, hf0⟩ (fun i σ H' _ ⟨_, _, _, _, _, _, s4, _⟩ => SqL.of (s4 _ _ ha)) ?_ ?_⟩
    · rintro i z σ H4 hi ⟨f, d, v, pf, hd, rfl, s4, hpf⟩
      obtain ⟨it, hx, rfl⟩ := it_get hi
      have er := main_take (x := ([], 0)) hx
      have hfl : f.length ≤ 200000 := by
        have h1 := main_len (u.take i) ([], 0)
        have h3 : (u.take i).length ≤ u.length := List.length_take_le' ..
        rw [← hd] at h1
        simp only [List.length_nil] at h1
        omega
      rw [← hd] at er
      clear hd
      refine seq_cut (fun σ' H' => H' = H4 ∧ σ' = [some (.ref a), some (.ref pf), some (.int (if it = .c then d - 1 else d)), some (itV it)]) (fun nx hnx => ?_) ?_
      · refine ⟨_, rfl, scal_it it _, _, rfl, ?_⟩
        rw [it_c]
        refine ite2 (fun h => ?_) (fun h => ?_)
        · have h' : it = .c := of_decide_eq_true h
          exact ⟨_, rfl, _, _, rfl, rfl, hnx _ _ ⟨rfl, by rw [if_pos h']; rfl⟩⟩
        · have h' : ¬ it = .c := fun e => h (decide_eq_true e)
          exact ⟨_, rfl, hnx _ _ ⟨rfl, by rw [if_neg h']; rfl⟩⟩
      rintro σ' H' ⟨rfl, rfl⟩
      have em : mstep (f, d) it = (if (if it = .c then d - 1 else d) = 0 ∧ it ≠ .o ∧ it ≠ .c then f ++ [it] else f, if it = .o then (if it = .c then d - 1 else d) + 1 else (if it = .c then d - 1 else d)) := rfl
      generalize (if it = .c then d - 1 else d) = d' at *
      refine seq_cut (fun σ' H5 => ∃ (pg : Addr) (g : Word), g = (if d' = 0 ∧ it ≠ .o ∧ it ≠ .c then f ++ [it] else f) ∧ Same H' H5 ∧ σ' = [some (.ref a), some (.ref pg), some (.int d'), some (itV it)] ∧ H5 pg = some (.lst (g.map itV))) (fun nx hnx => ?_) ?_
      · refine ⟨_, rfl, rfl, _, rfl, ?_⟩
        by_cases h0 : d' = 0
        · rw [decide_eq_true (by rw [h0] : V.int d' = V.int 0)]
          refine iteT ⟨_, rfl, (by show 2 ≤ sizeLine; decide), fun q nq => ?_⟩
          obtain ⟨H5, e5, s5, hq⟩ := nw (.lst [.str "[", .str "]"]) nq
          rw [← e5]
          refine ⟨q, _, rfl, .inl (SqL.of hq), flat_it it, rfl, _, rfl, ?_⟩
          show ite ((!inV (itV it) [.str "[", .str "]"]) = true) _ _
          rw [it_notin]
          refine ite2 (fun h => ?_) (fun h => ?_)
          · have h' := of_decide_eq_true h
            refine ⟨_, rfl, _, rfl, (by show 1 ≤ sizeLine; decide), fun r nr => ?_⟩
            obtain ⟨H6, e6, s6, hr'⟩ := nw (.lst [itV it]) nr
            rw [← e6]
            refine ⟨pf, r, _, _, rfl, rfl, s6 _ _ (s5 _ _ hpf), hr', small_le (by rw [List.length_map, List.length_singleton]; omega), fun p np => hnx _ _ ⟨p, f ++ [it], by rw [if_pos ⟨h0, h'⟩], (s5.trans s6).trans (sNew np), rfl, ?_⟩⟩
            rw [upd_same, List.map_append]
            rfl
          · exact ⟨_, rfl, hnx _ _ ⟨pf, f, by rw [if_neg fun z => h (decide_eq_true z.2)], s5, rfl, s5 _ _ hpf⟩⟩
        · have hne : ¬ V.int d' = V.int 0 := fun e => h0 (by injection e)
          rw [decide_eq_false hne]
          exact iteF (iteF ⟨_, rfl, hnx _ _ ⟨pf, f, by rw [if_neg fun z => h0 z.1], Same.refl _, rfl, hpf⟩⟩)
      rintro σ' H5 ⟨pg, g, hg, s5, rfl, hpg⟩
      refine ⟨_, rfl, scal_it it _, _, rfl, ?_⟩
      rw [it_o]
      refine ite2 (fun h => ?_) (fun h => ?_)
      · have h' : it = .o := of_decide_eq_true h
        exact ⟨_, rfl, _, _, rfl, rfl, g, d' + 1, _, pg, by rw [er, em, if_pos h', ← hg], rfl, s4.trans s5, hpg⟩
      · have h' : ¬ it = .o := fun e => h (decide_eq_true e)
        exact ⟨_, rfl, g, d', _, pg, by rw [er, em, if_neg h', ← hg], rfl, s4.trans s5, hpg⟩
    · rintro σ H4 ⟨f, d, v, pf, hd, rfl, s4, hpf⟩
      rw [List.length_map, List.take_length] at hd
      refine ⟨_, rfl, k H4 pf s4 ?_⟩
      unfold mainOf
      rw [← hd]
      exact hpf
end
end My
end
section
set_option maxRecDepth 100000
set_option maxHeartbeats 4000000
namespace My
open PySem L2
theorem ix_seqK {X : Cx} (K : PySem.W.Frag) (h : X.K = K) : IxR X (rIx K) := by
  subst h
  exact ix_seq
theorem kit2 {K : PySem.W.Frag} {n : String} {b1 b2 : Bool} (h1 : kitB n "tuple" = some b1) (h2 : kitB n "list" = some b2) : PySem.W.kitAny K (.type n) [.type "tuple", .type "list"] = some (b1 || b2) := by
  refine kitAny_cons (kit_ty h1) (fun e => ?_) (fun e => by rw [e]; rfl)
  subst e
  exact kitAny_cons (kit_ty h2) (fun e => by rw [e]; exact kitAny_nil) (fun e => by rw [e]; rfl)
theorem clsTL : Paired ClsV [V.ty "tuple", V.ty "list"] [Value.type "tuple", Value.type "list"] := .cons (.ty _) (.cons (.ty _) .nil)
/-- two values alike, n deep -/
def Alk (H : Hp) : Nat → V → V → Prop
  | 0, v, u => ∃ i, v = .int i ∧ u = .int i
  | n + 1, v, u => (∃ i, v = .int i ∧ u = .int i) ∨
      (∃ (a b : Addr) (xs ys : List V), v = .ref a ∧ u = .ref b ∧ H a = some (.tup xs) ∧ H b = some (.tup ys) ∧ xs.length = ys.length ∧ ys.length ≤ 100 ∧ ∀ (i : Nat) x y, xs[i]? = some x → ys[i]? = some y → Alk H n x y) ∨
      (∃ (a b : Addr) (xs ys : List V), v = .ref a ∧ u = .ref b ∧ H a = some (.lst xs) ∧ H b = some (.lst ys) ∧ xs.length = ys.length ∧ ys.length ≤ 100 ∧ ∀ (i : Nat) x y, xs[i]? = some x → ys[i]? = some y → Alk H n x y)
theorem Alk.same {H H' : Hp} (s : Same H H') : ∀ {n : Nat} {v u : V}, Alk H n v u → Alk H' n v u
  | 0, _, _, h => h
  | n + 1, v, u, h => by
    rcases h with h | ⟨a, b, xs, ys, e1, e2, h1, h2, h3, h4, h5⟩ | ⟨a, b, xs, ys, e1, e2, h1, h2, h3, h4, h5⟩
    · exact .inl h
    · exact .inr (.inl ⟨a, b, xs, ys, e1, e2, s _ _ h1, s _ _ h2, h3, h4, fun i x y hx hy => (h5 i x y hx hy).same s⟩)
    · exact .inr (.inr ⟨a, b, xs, ys, e1, e2, s _ _ h1, s _ _ h2, h3, h4, fun i x y hx hy => (h5 i x y hx hy).same s⟩)
section
variable {P : Program} {w : World} {K : PySem.W.Frag} {mg : Str → Option Value} {base : Heap} {A : Adr}
def spAlike (n : Nat) : Sp := fun vs H Q _ => ∃ (v u : V), vs = [v, u] ∧ Alk H n v u ∧ ∀ H', Same H H' → Q (.bl true) H'
theorem ok_alike0 (T : Txt K mg A) : FnOk P w K mg base CX0 1 A._law_alike A.d__law_alike ["_law_found", "_law_due"] (spAlike 0) := by
  refine T.F__law_alike.ok sc__law_alike (fun vs H Q E h => ?_) (fun cdv A' outer s H vs Q E hr h => ?_)
  · obtain ⟨v, u, rfl, _⟩ := h
    rfl
  · obtain ⟨v, u, rfl, ⟨i, rfl, rfl⟩, k⟩ := h
    refine ⟨_, (pss_cons (ps_if (pt_val (pe_callB call_isiT (by rfl) T.z_isinstance (by decide +kernel) (pa_cons (pv 1) (pa_cons (pe_tup (pa_cons (pe_bltn (v := .ty "tuple") (by rfl) T.z_tuple (by decide +kernel) rfl) (pa_cons (pe_bltn (v := .ty "list") (by rfl) T.z_list (by decide +kernel) rfl) pa_nil))) pa_nil)))) pss_never pss_nil)
    (pss_cons (ps_if (PW.pt (pw_or (pt_cmpR op_isN (pv 1) pe_non (nomark _)) (pw_or1 (pt_val (pe_callB call_isi (by rfl) T.z_isinstance (by decide +kernel) (pa_cons (pv 1) (pa_cons (pe_bltn (v := .ty "str") (by rfl) T.z_str (by decide +kernel) rfl) pa_nil))))))) (pss_one (ps_ret (pe_and (pe_cmpR op_eq (pv 0) (pv 1) (nomark _)) (pe_one (pe_cmpR op_eq (pe_callB call_isi (by rfl) T.z_isinstance (by decide +kernel) (pa_cons (pv 0) (pa_cons (pe_bltn (v := .ty "str") (by rfl) T.z_str (by decide +kernel) rfl) pa_nil))) (pe_callB call_isi (by rfl) T.z_isinstance (by decide +kernel) (pa_cons (pv 1) (pa_cons (pe_bltn (v := .ty "str") (by rfl) T.z_str (by decide +kernel) rfl) pa_nil))) (nomark _)))))) pss_nil)
    (pss_one (ps_ret (pe_and (pe_callB call_isi (by rfl) T.z_isinstance (by decide +kernel) (pa_cons (pv 0) (pa_cons (pe_bltn (v := .ty "int") (by rfl) T.z_int (by decide +kernel) rfl) pa_nil))) (pe_and (pe_cmpR op_eq (pe_callB call_isi (by rfl) T.z_isinstance (by decide +kernel) (pa_cons (pv 0) (pa_cons (pe_bltn (v := .ty "bool") (by rfl) T.z_bool (by decide +kernel) rfl) pa_nil))) (pe_callB call_isi (by rfl) T.z_isinstance (by decide +kernel) (pa_cons (pv 1) (pa_cons (pe_bltn (v := .ty "bool") (by rfl) T.z_bool (by decide +kernel) rfl) pa_nil))) (nomark _)) (pe_one (pe_cmpR op_eq (pv 0) (pv 1) (nomark _))))))))), ?_⟩
    · skip
      refine ⟨_, rfl, (by show 2 ≤ sizeLine; decide), fun tp ntp => ?_⟩
      refine ⟨_, tp, _, _, _, _, rfl, upd_same, clsTL, .base (.int i), kit2 (b1 := false) (b2 := false) (by decide +kernel) (by decide +kernel), false, rfl, iteF ?_⟩
      refine ⟨_, rfl, rfl, false, rfl, iteF ?_⟩
      refine ⟨_, rfl, _, _, _, _, false, rfl, .ty "str", .base (.int i), kit_ty (by decide +kernel), false, rfl, iteF ?_⟩
      refine ⟨_, rfl, _, _, _, _, true, rfl, .ty "int", .base (.int i), kit_ty (by decide +kernel), true, rfl, iteT ?_⟩
      refine ⟨_, rfl, _, _, _, _, false, rfl, .ty "bool", .base (.int i), kit_ty (by decide +kernel), ?_⟩
      refine ⟨_, rfl, _, _, _, _, false, rfl, .ty "bool", .base (.int i), kit_ty (by decide +kernel), rfl, true, by decide +kernel, iteT ?_⟩
      refine ⟨_, rfl, _, rfl, rfl, ?_⟩
      rw [decide_eq_true rfl]
      exact k _ (sNew ntp)
theorem ok_alikeS (T : Txt K mg A) {n : Nat} (G__law_alike : FnOk P w K mg base CX0 (n + 1) A._law_alike A.d__law_alike ["_law_found", "_law_due"] (spAlike n)) :
    FnOk P w K mg base CX0 (n + 2) A._law_alike A.d__law_alike ["_law_found", "_law_due"] (spAlike (n + 1)) := by
  refine T.F__law_alike.ok sc__law_alike (fun vs H Q E h => ?_) (fun cdv A' outer s H vs Q E hr h => ?_)
  · obtain ⟨v, u, rfl, _⟩ := h
    rfl
  · obtain ⟨v, u, rfl, hal, k⟩ := h
    refine ⟨_, (pss_cons (ps_if (pt_val (pe_callB call_isiT (by rfl) T.z_isinstance (by decide +kernel) (pa_cons (pv 1) (pa_cons (pe_tup (pa_cons (pe_bltn (v := .ty "tuple") (by rfl) T.z_tuple (by decide +kernel) rfl) (pa_cons (pe_bltn (v := .ty "list") (by rfl) T.z_list (by decide +kernel) rfl) pa_nil))) pa_nil)))) (pss_cons (ps_if (PW.pt (pw_or (pt_not (pt_val (pe_callB call_isiT (by rfl) T.z_isinstance (by decide +kernel) (pa_cons (pv 0) (pa_cons (pe_tup (pa_cons (pe_bltn (v := .ty "tuple") (by rfl) T.z_tuple (by decide +kernel) rfl) (pa_cons (pe_bltn (v := .ty "list") (by rfl) T.z_list (by decide +kernel) rfl) pa_nil))) pa_nil))))) (pw_or1 (pt_cmpR op_ne (pe_callB call_isi (by rfl) T.z_isinstance (by decide +kernel) (pa_cons (pv 0) (pa_cons (pe_bltn (v := .ty "list") (by rfl) T.z_list (by decide +kernel) rfl) pa_nil))) (pe_callB call_isi (by rfl) T.z_isinstance (by decide +kernel) (pa_cons (pv 1) (pa_cons (pe_bltn (v := .ty "list") (by rfl) T.z_list (by decide +kernel) rfl) pa_nil))) (nomark _))))) (pss_one (ps_ret pe_bl)) pss_nil)
      (pss_cons (ps_if (pt_cmpR op_ne (pe_callB call_len_seq (by rfl) T.z_len PySem.boot_len (pa_cons (pv 0) pa_nil)) (pe_callB call_len_seq (by rfl) T.z_len PySem.boot_len (pa_cons (pv 1) pa_nil)) (nomark _)) (pss_one (ps_ret pe_bl)) pss_nil)
      (pss_one (ps_ret (pe_cmpR (op_eqD hr.units) (pe_lc (own := [("_law_k", 2)]) (g := gName 2)  rfl sc__law_alike.nd (pi_range1 (by rfl) T.z_range (pa_cons (pe_callB call_len_seq (by rfl) T.z_len PySem.boot_len (pa_cons (pv 1) pa_nil)) pa_nil)) (blkOk_by (own := [("_law_k", 2)]) (N := ["_law_found", "_law_due", "_law_k"]) (sc := defScope s__law_alike) (by decide +kernel)) (fun _ _ _ _ _ => pg_name (i := 2) sc__law_alike.nd rfl (Or.inl rfl)) (fun _ _ _ _ _ => (pts_one (pt_not (pt_val (pe_call G__law_alike hr (by rfl) T.m__law_alike T.F__law_alike.kp (b__law_alike T) .nil pass0 (pa_cons (pe_ix (ix_seqK K rfl) (pv 0) (pv 2) (fun _ _ => rfl)) (pa_cons (pe_ix (ix_seqK K rfl) (pv 1) (pv 2) (fun _ _ => rfl)) pa_nil))))))) (fun _ _ _ _ _ => (pv 2))) (pe_lst pa_nil) (nomark _)))))) pss_nil)
    (pss_cons (ps_if (PW.pt (pw_or (pt_cmpR op_isN (pv 1) pe_non (nomark _)) (pw_or1 (pt_val (pe_callB call_isi (by rfl) T.z_isinstance (by decide +kernel) (pa_cons (pv 1) (pa_cons (pe_bltn (v := .ty "str") (by rfl) T.z_str (by decide +kernel) rfl) pa_nil))))))) (pss_one (ps_ret (pe_and (pe_cmpR op_eq (pv 0) (pv 1) (nomark _)) (pe_one (pe_cmpR op_eq (pe_callB call_isi (by rfl) T.z_isinstance (by decide +kernel) (pa_cons (pv 0) (pa_cons (pe_bltn (v := .ty "str") (by rfl) T.z_str (by decide +kernel) rfl) pa_nil))) (pe_callB call_isi (by rfl) T.z_isinstance (by decide +kernel) (pa_cons (pv 1) (pa_cons (pe_bltn (v := .ty "str") (by rfl) T.z_str (by decide +kernel) rfl) pa_nil))) (nomark _)))))) pss_nil)
    (pss_one (ps_ret (pe_and (pe_callB call_isi (by rfl) T.z_isinstance (by decide +kernel) (pa_cons (pv 0) (pa_cons (pe_bltn (v := .ty "int") (by rfl) T.z_int (by decide +kernel) rfl) pa_nil))) (pe_and (pe_cmpR op_eq (pe_callB call_isi (by rfl) T.z_isinstance (by decide +kernel) (pa_cons (pv 0) (pa_cons (pe_bltn (v := .ty "bool") (by rfl) T.z_bool (by decide +kernel) rfl) pa_nil))) (pe_callB call_isi (by rfl) T.z_isinstance (by decide +kernel) (pa_cons (pv 1) (pa_cons (pe_bltn (v := .ty "bool") (by rfl) T.z_bool (by decide +kernel) rfl) pa_nil))) (nomark _)) (pe_one (pe_cmpR op_eq (pv 0) (pv 1) (nomark _))))))))), ?_⟩
    rcases hal with ⟨i, rfl, rfl⟩ | ⟨a, b, xs, ys, rfl, rfl, ha, hb, hl, hl100, hall⟩ | ⟨a, b, xs, ys, rfl, rfl, ha, hb, hl, hl100, hall⟩
    · skip
      refine ⟨_, rfl, (by show 2 ≤ sizeLine; decide), fun tp ntp => ?_⟩
      refine ⟨_, tp, _, _, _, _, rfl, upd_same, clsTL, .base (.int i), kit2 (b1 := false) (b2 := false) (by decide +kernel) (by decide +kernel), false, rfl, iteF ?_⟩
      refine ⟨_, rfl, rfl, false, rfl, iteF ?_⟩
      refine ⟨_, rfl, _, _, _, _, false, rfl, .ty "str", .base (.int i), kit_ty (by decide +kernel), false, rfl, iteF ?_⟩
      refine ⟨_, rfl, _, _, _, _, true, rfl, .ty "int", .base (.int i), kit_ty (by decide +kernel), true, rfl, iteT ?_⟩
      refine ⟨_, rfl, _, _, _, _, false, rfl, .ty "bool", .base (.int i), kit_ty (by decide +kernel), ?_⟩
      refine ⟨_, rfl, _, _, _, _, false, rfl, .ty "bool", .base (.int i), kit_ty (by decide +kernel), rfl, true, by decide +kernel, iteT ?_⟩
      refine ⟨_, rfl, _, rfl, rfl, ?_⟩
      rw [decide_eq_true rfl]
      exact k _ (sNew ntp)
    · refine ⟨_, rfl, (by show 2 ≤ sizeLine; decide), fun tp ntp => ?_⟩
      obtain ⟨H1, e1, s1, htp⟩ := nw (.tup [.ty "tuple", .ty "list"]) ntp
      rw [← e1]
      refine ⟨_, tp, _, _, _, _, rfl, htp, clsTL, .base (.tup (s1 _ _ hb)), kit2 (b1 := true) (b2 := false) (by decide +kernel) (by decide +kernel), true, rfl, iteT ?_⟩
      refine ⟨_, rfl, (by show 2 ≤ sizeLine; decide), fun tq ntq => ?_⟩
      obtain ⟨H2, e2, s2, htq⟩ := nw (.tup [.ty "tuple", .ty "list"]) ntq
      rw [← e2]
      have s12 := s1.trans s2
      refine ⟨_, tq, _, _, _, _, rfl, htq, clsTL, .base (.tup (s12 _ _ ha)), kit2 (b1 := true) (b2 := false) (by decide +kernel) (by decide +kernel), true, rfl, iteF ?_⟩
      refine ⟨_, rfl, _, _, _, _, false, rfl, .ty "list", .base (.tup (s12 _ _ ha)), kit_ty (by decide +kernel), ?_⟩
      refine ⟨_, rfl, _, _, _, _, false, rfl, .ty "list", .base (.tup (s12 _ _ hb)), kit_ty (by decide +kernel), rfl, false, by decide +kernel, iteF ?_⟩
      refine ⟨_, rfl, a, _, rfl, .inr (SqT.of (s12 _ _ ha)), _, rfl, b, _, rfl, .inr (SqT.of (s12 _ _ hb)), rfl, false, ne_no (by rw [hl]), iteF ?_⟩
      refine ⟨_, rfl, b, _, rfl, .inr (SqT.of (s12 _ _ hb)), _, rfl, (by omega), (by omega), fun D nD => ?_⟩
      refine lc_range (lo := 0) (n := ((ys.length : Nat) : Int).toNat) (fun i H' => Same H2 H' ∧ H' D = some (.lst [])) ⟨sNew nD, upd_same⟩ ?_ ?_
      · rintro i H3 hi ⟨s3, h3⟩
        have hiy : i < ys.length := hi
        have s13 := s12.trans s3
        have gx : xs[i]? = some xs[i] := List.getElem?_eq_getElem _
        have gy : ys[i]? = some ys[i] := List.getElem?_eq_getElem _
        refine ⟨rfl, _, rfl, _, rfl, .inr (.inl ⟨a, _, _, _, rfl, rfl, SqT.of (s13 _ _ ha), at_of (j := i) (by omega) gx, _, rfl, _, rfl, .inr (.inl ⟨b, _, _, _, rfl, rfl, SqT.of (s13 _ _ hb), at_of (j := i) (by omega) gy, ?_⟩)⟩)⟩
        refine ⟨_, _, rfl, (hall i _ _ gx gy).same s13, fun H4 s4 => ⟨true, rfl, ?_⟩⟩
        exact ⟨s3.trans s4, s4 _ _ h3⟩
      · rintro H3 ⟨s3, h3⟩
        refine ⟨Nat.zero_le _, fun q nq => ?_⟩
        have h4 := (sNew (o := .lst []) nq) _ _ h3
        obtain ⟨d, e, k1, k2, k3, k4, k5⟩ := cmpNil (K := K) (n := 0) (by decide) (SqL.of h4) (fun v hv => by simp at hv) (SqL.of upd_same)
        refine ⟨d, e, k1, k2, k3, k4, ?_⟩
        rw [k5]
        exact k _ ((s12.trans s3).trans (sNew nq))
    · refine ⟨_, rfl, (by show 2 ≤ sizeLine; decide), fun tp ntp => ?_⟩
      obtain ⟨H1, e1, s1, htp⟩ := nw (.tup [.ty "tuple", .ty "list"]) ntp
      rw [← e1]
      refine ⟨_, tp, _, _, _, _, rfl, htp, clsTL, .base (.lst (s1 _ _ hb)), kit2 (b1 := false) (b2 := true) (by decide +kernel) (by decide +kernel), true, rfl, iteT ?_⟩
      refine ⟨_, rfl, (by show 2 ≤ sizeLine; decide), fun tq ntq => ?_⟩
      obtain ⟨H2, e2, s2, htq⟩ := nw (.tup [.ty "tuple", .ty "list"]) ntq
      rw [← e2]
      have s12 := s1.trans s2
      refine ⟨_, tq, _, _, _, _, rfl, htq, clsTL, .base (.lst (s12 _ _ ha)), kit2 (b1 := false) (b2 := true) (by decide +kernel) (by decide +kernel), true, rfl, iteF ?_⟩
      refine ⟨_, rfl, _, _, _, _, true, rfl, .ty "list", .base (.lst (s12 _ _ ha)), kit_ty (by decide +kernel), ?_⟩
      refine ⟨_, rfl, _, _, _, _, true, rfl, .ty "list", .base (.lst (s12 _ _ hb)), kit_ty (by decide +kernel), rfl, false, by decide +kernel, iteF ?_⟩
      refine ⟨_, rfl, a, _, rfl, .inl (SqL.of (s12 _ _ ha)), _, rfl, b, _, rfl, .inl (SqL.of (s12 _ _ hb)), rfl, false, ne_no (by rw [hl]), iteF ?_⟩
      refine ⟨_, rfl, b, _, rfl, .inl (SqL.of (s12 _ _ hb)), _, rfl, (by omega), (by omega), fun D nD => ?_⟩
      refine lc_range (lo := 0) (n := ((ys.length : Nat) : Int).toNat) (fun i H' => Same H2 H' ∧ H' D = some (.lst [])) ⟨sNew nD, upd_same⟩ ?_ ?_
      · rintro i H3 hi ⟨s3, h3⟩
        have hiy : i < ys.length := hi
        have s13 := s12.trans s3
        have gx : xs[i]? = some xs[i] := List.getElem?_eq_getElem _
        have gy : ys[i]? = some ys[i] := List.getElem?_eq_getElem _
        refine ⟨rfl, _, rfl, _, rfl, .inl ⟨a, _, _, _, rfl, rfl, SqL.of (s13 _ _ ha), at_of (j := i) (by omega) gx, _, rfl, _, rfl, .inl ⟨b, _, _, _, rfl, rfl, SqL.of (s13 _ _ hb), at_of (j := i) (by omega) gy, ?_⟩⟩⟩
        refine ⟨_, _, rfl, (hall i _ _ gx gy).same s13, fun H4 s4 => ⟨true, rfl, ?_⟩⟩
        exact ⟨s3.trans s4, s4 _ _ h3⟩
      · rintro H3 ⟨s3, h3⟩
        refine ⟨Nat.zero_le _, fun q nq => ?_⟩
        have h4 := (sNew (o := .lst []) nq) _ _ h3
        obtain ⟨d, e, k1, k2, k3, k4, k5⟩ := cmpNil (K := K) (n := 0) (by decide) (SqL.of h4) (fun v hv => by simp at hv) (SqL.of upd_same)
        refine ⟨d, e, k1, k2, k3, k4, ?_⟩
        rw [k5]
        exact k _ ((s12.trans s3).trans (sNew nq))
def spAll : Sp := fun vs H Q _ => ∃ (b : Addr) (ws : List Word) (st : Word) (n : Nat), vs = [.ref b, .int n] ∧ BookAt H b ws st ∧ BOk ws st ∧ n ≤ 1000 ∧
  ∀ H' l pe, Same H H' → H' l = some (.lst [.int (tot ws st n).many, .ref pe, .int (tot ws st n).t, .int (tot ws st n).ar]) → H' pe = some (.tup [.int (tot ws st n).ex, .int (tot ws st n).ey, .int ((tot ws st n).t % 4)]) → Q (.ref l) H'
theorem ok_all (T : Txt K mg A) : FnOk P w K mg base CX0 9 A._law_all A.d__law_all ["_law_book_here", "_law_age_here"] spAll := by
  have G_strokes_in : FnOk P w K mg base CX0 8 A.strokes_in A.d_strokes_in ["book", "age"] (spAt S.many) := ok_strokes_in T
  have G_turns_at : FnOk P w K mg base CX0 8 A.turns_at A.d_turns_at ["book", "age"] (spAt S.t) := ok_turns_at T
  have G_area_at : FnOk P w K mg base CX0 8 A.area_at A.d_area_at ["book", "age"] (spAt S.ar) := ok_area_at T
  have G_end_at : FnOk P w K mg base CX0 8 A.end_at A.d_end_at ["book", "age"] spEndAt := ok_end_at T
  refine T.F__law_all.ok sc__law_all (fun vs H Q E h => ?_) (fun cdv A' outer s H vs Q E hr h => ?_)
  · obtain ⟨b, ws, st, n, rfl, _⟩ := h
    rfl
  · obtain ⟨b, ws, st, n, rfl, hB, ok, hn, k⟩ := h
    refine ⟨_, (pss_one (ps_ret (pe_lst (pa_cons (pe_call G_strokes_in (hr.mono (by decide)) (by rfl) T.m_strokes_in T.F_strokes_in.kp (b_strokes_in T) .nil pass0 (pa_cons (pv 0) (pa_cons (pv 1) pa_nil))) (pa_cons (pe_call G_end_at (hr.mono (by decide)) (by rfl) T.m_end_at T.F_end_at.kp (b_end_at T) .nil pass0 (pa_cons (pv 0) (pa_cons (pv 1) pa_nil))) (pa_cons (pe_call G_turns_at (hr.mono (by decide)) (by rfl) T.m_turns_at T.F_turns_at.kp (b_turns_at T) .nil pass0 (pa_cons (pv 0) (pa_cons (pv 1) pa_nil))) (pa_cons (pe_call G_area_at (hr.mono (by decide)) (by rfl) T.m_area_at T.F_area_at.kp (b_area_at T) .nil pass0 (pa_cons (pv 0) (pa_cons (pv 1) pa_nil))) pa_nil))))))), ?_⟩
    refine ⟨_, rfl, _, rfl, b, ws, st, n, rfl, hB, ok, hn, fun H1 s1 => ?_⟩
    refine ⟨_, rfl, _, rfl, b, ws, st, n, rfl, hB.same (tups_of s1), ok, hn, fun pe H2 s2 hpe => ?_⟩
    have s12 := s1.trans s2
    refine ⟨_, rfl, _, rfl, b, ws, st, n, rfl, hB.same (tups_of s12), ok, hn, fun H3 s3 => ?_⟩
    have s13 := s12.trans s3
    refine ⟨_, rfl, _, rfl, b, ws, st, n, rfl, hB.same (tups_of s13), ok, hn, fun H4 s4 => ⟨(by show 4 ≤ sizeLine; decide), fun l nl => ?_⟩⟩
    have s5 := sNew (o := .lst [.int (tot ws st n).many, .ref pe, .int (tot ws st n).t, .int (tot ws st n).ar]) nl
    exact k _ l pe ((s13.trans s4).trans s5) upd_same (((s3.trans s4).trans s5) _ _ hpe)
end
end My
end
section
set_option maxRecDepth 100000
set_option maxHeartbeats 4000000
/-! what the law asks, in plain words -/
namespace My
theorem all_bal {ws : List Word} {st : Word} (ok : BOk ws st) : ∀ n, bal 0 (wd ws n) = true := ok.wbal
theorem near {ws : List Word} {st : Word} (ok : BOk ws st) (n : Nat) : Rel (run (fun _ => S.unit) (S.zero, []) (grow ws n st)) (drawn (grow ws n st)) ∧ tot ws st n = (run (fun _ => S.unit) (S.zero, []) (grow ws n st)).1 :=
  ⟨rel_drawn _, whole_plain (all_bal ok) (fun w hw => (ok.all w hw).lets) ok.st.lets n⟩
theorem near_many {ws : List Word} {st : Word} (ok : BOk ws st) (n : Nat) : (tot ws st n).many = ((drawn (grow ws n st)).found.length : Int) := by
  obtain ⟨r, e⟩ := near ok n
  rw [e]
  exact r.many
theorem near_x {ws : List Word} {st : Word} (ok : BOk ws st) (n : Nat) : (tot ws st n).ex = (drawn (grow ws n st)).x := by
  obtain ⟨r, e⟩ := near ok n
  rw [e]
  exact r.now.1.symm
theorem near_y {ws : List Word} {st : Word} (ok : BOk ws st) (n : Nat) : (tot ws st n).ey = (drawn (grow ws n st)).y := by
  obtain ⟨r, e⟩ := near ok n
  rw [e]
  exact r.now.2.1.symm
theorem near_h {ws : List Word} {st : Word} (ok : BOk ws st) (n : Nat) : (tot ws st n).t % 4 = (drawn (grow ws n st)).h := by
  obtain ⟨r, e⟩ := near ok n
  rw [e]
  exact r.now.2.2.symm
theorem near_ar {ws : List Word} {st : Word} (ok : BOk ws st) (n : Nat) : (tot ws st n).ar = areaOf (drawn (grow ws n st)).found := by
  obtain ⟨r, e⟩ := near ok n
  rw [e]
  exact r.ar
theorem near_t {ws : List Word} {st : Word} (ok : BOk ws st) (n : Nat) : (tot ws st n).t = ((mainOf (grow ws n st)).count .p : Int) - ((mainOf (grow ws n st)).count .m : Int) := by
  obtain ⟨r, e⟩ := near ok n
  rw [e]
  exact turns_main (f := fun _ => S.unit) (fun _ => rfl) (bal_grow (all_bal ok) ok.st.bal n)
def farF (ws : List Word) (m : Nat) : Nat → S := fOf (rows ws m)
theorem tot_far {ws : List Word} {st : Word} (ok : BOk ws st) (m : Nat) : tot ws st (m + 1) = (run (farF ws m) (S.zero, []) (grow ws 1 st)).1 := joined_rows ws (all_bal ok) m st
theorem tot_one {ws : List Word} (m n : Nat) : tot ws [.l n] m = farF ws m n := by
  show S.zero.thn (fOf (rows ws m) n) = _
  exact zero_thn _
theorem far_rel {ws : List Word} {st : Word} (ok : BOk ws st) (m : Nat) : SimF (tot ws st (m + 1)) ((far (farF ws m) (grow ws 1 st)).px, (far (farF ws m) (grow ws 1 st)).py, (far (farF ws m) (grow ws 1 st)).t) ∧ (tot ws st (m + 1)).many = (far (farF ws m) (grow ws 1 st)).many := by
  have r := relF_far (farF ws m) (grow ws 1 st)
  rw [tot_far ok]
  exact ⟨r.now, r.many⟩
theorem far_ar {ws : List Word} {st : Word} (ok : BOk ws st) (m : Nat) (hp : ∀ u ∈ ws ++ [st], Item.o ∉ u) : (tot ws st (m + 1)).ar = (far (farF ws m) (grow ws 1 st)).tw := by
  have nbw : ∀ u ∈ ws, noB u := fun u hu => ⟨hp u (by simp [hu]), noB_of (ok.all u hu).bal rfl (hp u (by simp [hu]))⟩
  have nbs : noB st := ⟨hp st (by simp), noB_of ok.st.bal rfl (hp st (by simp))⟩
  have nbn : ∀ n, noB (wd ws n) := fun n => by
    by_cases h : n < ws.length
    · have e : wd ws n = ws[n] := by simp [wd, List.getD_eq_getElem?_getD, h]
      rw [e]
      exact nbw _ (List.getElem_mem h)
    · rw [wd_none h]
      exact ⟨by simp, by simp⟩
  rw [tot_far ok]
  exact tw_far (fOf_same (rows_same nbw m)) (noB_sub nbn nbs)
theorem far_bound {ws : List Word} {st : Word} (ok : BOk ws st) {m : Nat} (hm : m ≤ 1000) {u : Word} (hu : u.length ≤ 200000) {d : Fa} (hd : d = far (farF ws m) u) :
    ∃ M, M < 2 ^ 7000 ∧ d.px.natAbs ≤ M ∧ d.py.natAbs ≤ M := by
  have r := relF_far (farF ws m) u
  have h := run_le0 (fOf_le (rows_le (fun w hw => (ok.all w hw).len) m)) u
  refine ⟨u.length * 40 ^ m, ?_, ?_, ?_⟩
  · refine Nat.lt_of_le_of_lt ?_ (pow40 (n := m + 4) (by omega))
    rw [Nat.pow_add, Nat.mul_comm]
    exact Nat.mul_le_mul_left _ (by omega)
  · rw [hd]
    have e : (far (farF ws m) u).px = (run (farF ws m) (S.zero, []) u).1.ex := r.now.1
    rw [e]
    exact h.1
  · rw [hd]
    have e : (far (farF ws m) u).py = (run (farF ws m) (S.zero, []) u).1.ey := r.now.2.1
    rw [e]
    exact h.2.1
theorem farF_le {ws : List Word} {st : Word} (ok : BOk ws st) {m : Nat} (hm : m ≤ 1000) (n : Nat) : ∃ M, M < 2 ^ 7000 ∧ (farF ws m n).ex.natAbs ≤ M ∧ (farF ws m n).ey.natAbs ≤ M := by
  have h := fOf_le (rows_le (fun w hw => (ok.all w hw).len) m) n
  exact ⟨40 ^ m, pow40 (by omega), h.1, h.2.1⟩
theorem far_take {f : Nat → S} {w : Word} {i : Nat} {y : Item} (h : w[i]? = some y) : far f (w.take (i + 1)) = fstep f (far f (w.take i)) y := by
  unfold far
  rw [take_get h, List.foldl_append]
  rfl
theorem far_bal {f : Nat → S} : ∀ (w : Word) (d : Fa) (v : Word), bal d.stands.length (w ++ v) = true → bal (w.foldl (fstep f) d).stands.length v = true
  | [], d, v, h => h
  | .l n :: w, ⟨m, x, y, k, t, st⟩, v, h => far_bal w _ v (by simpa [bal, fstep] using h)
  | .p :: w, ⟨m, x, y, k, t, st⟩, v, h => far_bal w _ v (by simpa [bal, fstep] using h)
  | .m :: w, ⟨m, x, y, k, t, st⟩, v, h => far_bal w _ v (by simpa [bal, fstep] using h)
  | .o :: w, ⟨m, x, y, k, t, st⟩, v, h => far_bal w _ v (by simpa [bal, fstep] using h)
  | .c :: w, ⟨m, x, y, k, t, []⟩, v, h => by simp [bal] at h
  | .c :: w, ⟨m, x, y, k, t, (a, b, c) :: st⟩, v, h => far_bal w _ v (by simpa [bal, fstep] using h)
theorem fstep_len (f : Nat → S) (d : Fa) (i : Item) : (fstep f d i).stands.length ≤ d.stands.length + 1 := by
  obtain ⟨m, x, y, k, t, st⟩ := d
  cases i with
  | l n => simp [fstep]
  | p => simp [fstep]
  | m => simp [fstep]
  | o => simp [fstep]
  | c =>
    cases st with
    | nil => simp [fstep]
    | cons q st => obtain ⟨a, b, c⟩ := q; simp [fstep]; omega
theorem far_len (f : Nat → S) : ∀ (w : Word) (d : Fa), (w.foldl (fstep f) d).stands.length ≤ d.stands.length + w.length
  | [], d => Nat.le_refl _
  | i :: w, d => by
    have h1 := fstep_len f d i
    have h2 := far_len f w (fstep f d i)
    simp only [List.foldl_cons, List.length_cons]
    omega
/-- the places of a drawing -/
theorem drawn_abs : ∀ (w : Word) (d : Dr) (M : Nat), d.x.natAbs ≤ M → d.y.natAbs ≤ M → (∀ q ∈ d.found, q.1.natAbs ≤ M ∧ q.2.1.natAbs ≤ M) → (∀ q ∈ d.stands, q.1.natAbs ≤ M ∧ q.2.1.natAbs ≤ M) →
    ∀ q ∈ (w.foldl dstep d).found, q.1.natAbs ≤ M + w.length ∧ q.2.1.natAbs ≤ M + w.length
  | [], d, M, _, _, h, _ => h
  | i :: w, ⟨x, y, k, f, st⟩, M, hx, hy, hf, hs => by
    have up : ∀ q : Int × Int × Int × Nat, q.1.natAbs ≤ M ∧ q.2.1.natAbs ≤ M → q.1.natAbs ≤ M + 1 ∧ q.2.1.natAbs ≤ M + 1 := fun q h => ⟨by omega, by omega⟩
    have ups : ∀ q : Int × Int × Int, q.1.natAbs ≤ M ∧ q.2.1.natAbs ≤ M → q.1.natAbs ≤ M + 1 ∧ q.2.1.natAbs ≤ M + 1 := fun q h => ⟨by omega, by omega⟩
    have e : M + (i :: w).length = M + 1 + w.length := by simp only [List.length_cons]; omega
    rw [e]
    simp only at hx hy hf hs
    cases i with
    | l n =>
      refine drawn_abs w _ (M + 1) ?_ ?_ ?_ fun q hq => ups q (hs q hq)
      · have h1 : (rx k 1 0).natAbs ≤ 1 := rx_abs k 1 0 (by decide) (by decide)
        exact Nat.le_trans (Int.natAbs_add_le _ _) (Nat.add_le_add hx h1)
      · have h1 : (ry k 1 0).natAbs ≤ 1 := ry_abs k 1 0 (by decide) (by decide)
        exact Nat.le_trans (Int.natAbs_add_le _ _) (Nat.add_le_add hy h1)
      · intro q hq
        rcases List.mem_append.mp hq with hq | hq
        · exact up q (hf q hq)
        · rw [List.mem_singleton.mp hq]
          exact ⟨by show x.natAbs ≤ M + 1; omega, by show y.natAbs ≤ M + 1; omega⟩
    | p => exact drawn_abs w _ (M + 1) (by show x.natAbs ≤ M + 1; omega) (by show y.natAbs ≤ M + 1; omega) (fun q hq => up q (hf q hq)) fun q hq => ups q (hs q hq)
    | m => exact drawn_abs w _ (M + 1) (by show x.natAbs ≤ M + 1; omega) (by show y.natAbs ≤ M + 1; omega) (fun q hq => up q (hf q hq)) fun q hq => ups q (hs q hq)
    | o =>
      refine drawn_abs w _ (M + 1) (by show x.natAbs ≤ M + 1; omega) (by show y.natAbs ≤ M + 1; omega) (fun q hq => up q (hf q hq)) fun q hq => ?_
      rcases List.mem_cons.mp hq with hq | hq
      · rw [hq]
        exact ⟨by show x.natAbs ≤ M + 1; omega, by show y.natAbs ≤ M + 1; omega⟩
      · exact ups q (hs q hq)
    | c =>
      cases st with
      | nil => exact drawn_abs w _ (M + 1) (by show x.natAbs ≤ M + 1; omega) (by show y.natAbs ≤ M + 1; omega) (fun q hq => up q (hf q hq)) fun q hq => ups q (hs q hq)
      | cons g st =>
        obtain ⟨a, b, c⟩ := g
        have hg := hs (a, b, c) (by simp)
        simp only at hg
        exact drawn_abs w _ (M + 1) (by show a.natAbs ≤ M + 1; omega) (by show b.natAbs ≤ M + 1; omega) (fun q hq => up q (hf q hq)) fun q hq => ups q (hs q (List.mem_cons_of_mem _ hq))
theorem drawn_small {w : Word} (h : w.length ≤ 200000) : ∀ q ∈ (drawn w).found, q.1.natAbs ≤ 200000 ∧ q.2.1.natAbs ≤ 200000 := fun q hq => by
  have := drawn_abs w ⟨0, 0, 0, [], []⟩ 0 (by simp) (by simp) (fun q hq => by simp at hq) (fun q hq => by simp at hq) q hq
  omega
end My
end
section
set_option maxRecDepth 100000
set_option maxHeartbeats 16000000
/-! the law -/
namespace My
open PySem L2
theorem op_in_seqK {X : Cx} (K : PySem.W.Frag) (h : X.K = K) : OpR X (compareOp .In) (rIn K false) := by
  subst h
  exact op_in_seq
/-- the places vs of things -/
def ListAt {α : Type} (G : V → α → Prop) (vs : List V) (xs : List α) : Prop := vs.length = xs.length ∧ ∀ (i : Nat) (x : α), xs[i]? = some x → ∃ v, vs[i]? = some v ∧ G v x
section
variable {α : Type} {G G' : V → α → Prop} {vs : List V} {xs : List α}
theorem ListAt.nil : ListAt G [] [] := ⟨rfl, fun i x h => by simp at h⟩
theorem ListAt.imp (h : ListAt G vs xs) (g : ∀ v x, G v x → G' v x) : ListAt G' vs xs := ⟨h.1, fun i x hi => let ⟨v, h1, h2⟩ := h.2 i x hi; ⟨v, h1, g _ _ h2⟩⟩
theorem ListAt.app {v : V} {x : α} (h : ListAt G vs xs) (hv : G v x) : ListAt G (vs ++ [v]) (xs ++ [x]) := by
  refine ⟨by simp [h.1], fun i u hi => ?_⟩
  by_cases hl : i < xs.length
  · rw [List.getElem?_append_left hl] at hi
    obtain ⟨a, h1, h2⟩ := h.2 i u hi
    exact ⟨a, by rw [List.getElem?_append_left (by rw [h.1]; exact hl)]; exact h1, h2⟩
  · have hle : xs.length ≤ i := by omega
    rw [List.getElem?_append_right hle] at hi
    by_cases h0 : i - xs.length = 0
    · rw [h0] at hi
      have et : x = u := Option.some.inj hi
      subst et
      refine ⟨v, ?_, hv⟩
      rw [List.getElem?_append_right (by rw [h.1]; exact hle), h.1, h0]
      rfl
    · have : 1 ≤ i - xs.length := by omega
      simp [List.getElem?_eq_none (l := [x]) (i := i - xs.length) (by simpa using this)] at hi
theorem ListAt.pop {x : α} (h : ListAt G vs (xs ++ [x])) : (∃ v, vs[vs.length - 1]? = some v ∧ G v x) ∧ ListAt G vs.dropLast xs := by
  have hl : vs.length = xs.length + 1 := by simpa using h.1
  refine ⟨?_, by simp [hl], fun i u hi => ?_⟩
  · obtain ⟨a, h1, h2⟩ := h.2 xs.length x (by simp)
    refine ⟨a, ?_, h2⟩
    rw [hl]
    exact h1
  · have hlt : i < xs.length := (List.getElem?_eq_some_iff.mp hi).1
    obtain ⟨a, h1, h2⟩ := h.2 i u (by rw [List.getElem?_append_left hlt]; exact hi)
    refine ⟨a, ?_, h2⟩
    rw [List.getElem?_dropLast, if_pos (by omega)]
    exact h1
end
/-- a stand of the far drawing: its place, its turns -/
def StV (H : Hp) (v : V) (q : Int × Int × Int) : Prop := ∃ a pl : Addr, v = .ref a ∧ H a = some (.tup [.ref pl, .int q.2.2]) ∧ H pl = some (.tup [.int q.1, .int q.2.1])
theorem StV.keep {H H' : Hp} (s : ∀ a xs, H a = some (.tup xs) → H' a = some (.tup xs)) {v : V} {q : Int × Int × Int} (h : StV H v q) : StV H' v q := by
  obtain ⟨a, pl, e, h1, h2⟩ := h
  exact ⟨a, pl, e, s _ _ h1, s _ _ h2⟩
theorem alk_int {H : Hp} {n : Nat} {i j : Int} (e : i = j) : Alk H (n + 1) (.int i) (.int j) := .inl ⟨i, rfl, by rw [e]⟩
theorem alk_int0 {H : Hp} {i j : Int} (e : i = j) : Alk H 0 (.int i) (.int j) := ⟨i, rfl, by rw [e]⟩
theorem alk_all {H : Hp} {l m p q : Addr} {a a' b b' c c' x x' y y' t t' : Int} (hl : H l = some (.lst [.int a, .ref p, .int b, .int c])) (hm : H m = some (.lst [.int a', .ref q, .int b', .int c'])) (hp : H p = some (.tup [.int x, .int y, .int t])) (hq : H q = some (.tup [.int x', .int y', .int t']))
    (ea : a = a') (eb : b = b') (ec : c = c') (ex : x = x') (ey : y = y') (et : t = t') : Alk H 2 (.ref l) (.ref m) := by
  refine .inr (.inr ⟨l, m, _, _, rfl, rfl, hl, hm, rfl, by show 4 ≤ 100; decide, fun i u v hu hv => ?_⟩)
  match i, hu, hv with
  | 0, hu, hv =>
    cases hu; cases hv
    exact alk_int ea
  | 1, hu, hv =>
    cases hu; cases hv
    refine .inr (.inl ⟨p, q, _, _, rfl, rfl, hp, hq, rfl, by show 3 ≤ 100; decide, fun j u v hu hv => ?_⟩)
    match j, hu, hv with
    | 0, hu, hv =>
      cases hu; cases hv
      exact alk_int0 ex
    | 1, hu, hv =>
      cases hu; cases hv
      exact alk_int0 ey
    | 2, hu, hv =>
      cases hu; cases hv
      exact alk_int0 et
    | j + 3, hu, hv => simp at hu
  | 2, hu, hv =>
    cases hu; cases hv
    exact alk_int eb
  | 3, hu, hv =>
    cases hu; cases hv
    exact alk_int ec
  | i + 4, hu, hv => simp at hu
theorem cnt_p : ∀ u : Word, ((u.map itV).countP fun z => eqV z (.str "+")) = u.count .p
  | [] => rfl
  | i :: u => by
    have ih := cnt_p u
    rw [List.map_cons, List.countP_cons, List.count_cons, ih]
    cases i with
    | l n => rfl
    | p => rfl
    | m => rfl
    | o => rfl
    | c => rfl
theorem cnt_m : ∀ u : Word, ((u.map itV).countP fun z => eqV z (.str "-")) = u.count .m
  | [] => rfl
  | i :: u => by
    have ih := cnt_m u
    rw [List.map_cons, List.countP_cons, List.count_cons, ih]
    cases i with
    | l n => rfl
    | p => rfl
    | m => rfl
    | o => rfl
    | c => rfl
theorem inV_o : ∀ u : Word, inV (.str "[") (u.map itV) = decide (Item.o ∈ u)
  | [] => rfl
  | i :: u => by
    have ih := inV_o u
    unfold inV at ih ⊢
    rw [List.map_cons, List.any_cons, ih]
    have e : eqV (itV i) (.str "[") = decide (i = .o) := by
      cases i with
      | l n => rfl
      | p => decide +kernel
      | m => decide +kernel
      | o => decide +kernel
      | c => decide +kernel
    rw [e]
    by_cases h : i = .o
    · subst h
      simp
    · have h' : ¬ Item.o = i := fun z => h z.symm
      simp [h, h']
/-- the law's names within the far loop -/
def LSt (b ps : Addr) (fr : Nat) (plain : Bool) (d : Fa) (pl : Addr) (σ : St) : Prop := ∃ o0 o1 o3 o4 o5 o6 o7 o8 o9 o10 o11 o12 o13 o14 o22 o23 o24 : Option V,
  σ = [o0, o1, some (.ref b), o3, o4, o5, o6, o7, o8, o9, o10, o11, o12, o13, o14, some (.int fr), some (.int d.many), some (.ref pl), some (.int d.t), some (.int d.tw), some (.ref ps), some (.bl plain), o22, o23, o24, none]
theorem bok_one {ws : List Word} {st : Word} (ok : BOk ws st) {n : Nat} (h : n < ws.length) : BOk ws [.l n] :=
  ⟨ok.one, ok.eight, ok.all, by simp, fun m hm => by simp at hm; omega, by rfl, n, by simp⟩
section
variable {P : Program} {w : World} {K : PySem.W.Frag} {mg : Str → Option Value} {base : Heap} {A : Adr}
def spLaw (K : PySem.W.Frag) : Sp := fun vs H Q _ => ∃ (a : Addr) (ns : List Int), vs = [.ref a] ∧ Scr K H a (ns.map V.int) ∧ ∀ H', Q (.bl true) H'
theorem ok_law (T : Txt K mg A) : FnOk P w K mg base CX0 10 A.law A.d_law ["_law_script"] (spLaw K) := by
  have G__law_taken : FnOk P w K mg base CX0 1 A._law_taken A.d__law_taken ["_law_row", "_law_many"] (spTaken K) := ok_taken T
  have G__law_pick : FnOk P w K mg base CX0 2 A._law_pick A.d__law_pick ["_law_row", "_law_things"] (spPick K) := ok_pick T
  have G__law_book : FnOk P w K mg base CX0 4 A._law_book A.d__law_book ["_law_row"] (spBook K) := ok_book T
  have G__law_kit : FnOk P w K mg base CX0 3 A._law_kit A.d__law_kit ["_law_row"] (spBook K) := ok_kit T
  have G__law_even_book : FnOk P w K mg base CX0 4 A._law_even_book A.d__law_even_book ["_law_row"] (spEvenBook K) := ok_even_book T
  have G__law_age : FnOk P w K mg base CX0 2 A._law_age A.d__law_age ["_law_book_here", "_law_most"] spAge := ok_age T
  have G__law_grown : FnOk P w K mg base CX0 1 A._law_grown A.d__law_grown ["_law_book_here", "_law_age_here"] spGrown := ok_grown T
  have G__law_drawn : FnOk P w K mg base CX0 2 A._law_drawn A.d__law_drawn ["_law_word_here"] spDrawn := ok_drawn T
  have G__law_unit : FnOk P w K mg base CX0 1 A._law_unit A.d__law_unit ["_law_heading"] spUnit := ok_unit T
  have G__law_main : FnOk P w K mg base CX0 1 A._law_main A.d__law_main ["_law_word_here"] spMain := ok_main T
  have G__law_alike : FnOk P w K mg base CX0 3 A._law_alike A.d__law_alike ["_law_found", "_law_due"] (spAlike 2) := ok_alikeS T (ok_alikeS T (ok_alike0 T))
  have G__law_all : FnOk P w K mg base CX0 9 A._law_all A.d__law_all ["_law_book_here", "_law_age_here"] spAll := ok_all T
  have G__law_quarter : FnOk P w K mg base CX0 1 A._law_quarter A.d__law_quarter ["_law_place", "_law_many"] (spTurned K) := ok_quarter T
  refine T.F_law.ok sc_law (fun vs H Q E h => ?_) (fun cdv A' outer s H vs Q E hr h => ?_)
  · obtain ⟨a, ns, rfl, _⟩ := h
    rfl
  · obtain ⟨a, ns, rfl, hS, k⟩ := h
    refine ⟨_, (pss_cons (ps_set (i := 1) sc_law.nd rfl (Or.inl rfl) (pe_lst (pa_cons (pv 0) (pa_cons pe_int (pa_cons pe_int (pa_cons pe_int pa_nil))))))
    (pss_cons (ps_set (i := 2) sc_law.nd rfl (Or.inl rfl) (pe_call G__law_pick (hr.mono (by decide)) (by rfl) T.m__law_pick T.F__law_pick.kp (b__law_pick T) .nil pass0 (pa_cons (pv 1) (pa_cons (pe_lst (pa_cons (pe_call G__law_book (hr.mono (by decide)) (by rfl) T.m__law_book T.F__law_book.kp (b__law_book T) .nil pass0 (pa_cons (pv 1) pa_nil)) (pa_cons (pe_call G__law_kit (hr.mono (by decide)) (by rfl) T.m__law_kit T.F__law_kit.kp (b__law_kit T) .nil pass0 (pa_cons (pv 1) pa_nil)) (pa_cons (pe_ix ix_tup (pe_call G__law_even_book (hr.mono (by decide)) (by rfl) T.m__law_even_book T.F__law_even_book.kp (b__law_even_book T) .nil pass0 (pa_cons (pv 1) pa_nil)) pe_int (fun _ _ => rfl)) pa_nil)))) pa_nil))))
    (pss_cons (ps_set (i := 3) sc_law.nd rfl (Or.inl rfl) (pe_call G__law_taken (hr.mono (by decide)) (by rfl) T.m__law_taken T.F__law_taken.kp (b__law_taken T) .nil pass0 (pa_cons (pv 1) (pa_cons (pe_op op_add pe_int (pe_call G__law_age (hr.mono (by decide)) (by rfl) T.m__law_age T.F__law_age.kp (b__law_age T) .nil pass0 (pa_cons (pv 2) (pa_cons pe_int pa_nil)))) pa_nil))))
    (pss_cons (ps_set (i := 4) sc_law.nd rfl (Or.inl rfl) (pe_call G__law_grown (hr.mono (by decide)) (by rfl) T.m__law_grown T.F__law_grown.kp (b__law_grown T) .nil pass0 (pa_cons (pv 2) (pa_cons (pv 3) pa_nil))))
    (pss_cons (ps_asg (pe_call G__law_drawn (hr.mono (by decide)) (by rfl) T.m__law_drawn T.F__law_drawn.kp (b__law_drawn T) .nil pass0 (pa_cons (pv 4) pa_nil)) (pg_tup rfl (pgs_cons (pg_name (i := 5) sc_law.nd rfl (Or.inl rfl)) (pgs_cons (pg_name (i := 6) sc_law.nd rfl (Or.inl rfl)) pgs_nil))))
    (pss_cons (ps_set (i := 7) sc_law.nd rfl (Or.inl rfl) pe_int)
    (pss_cons (ps_for PassesOwn.never rfl (pi_list (pv 5)) (pg_tup rfl (pgs_cons (pg_name (i := 8) sc_law.nd rfl (Or.inl rfl)) (pgs_cons (pg_name (i := 9) sc_law.nd rfl (Or.inl rfl)) (pgs_cons (pg_name (i := 10) sc_law.nd rfl (Or.inl rfl)) (pgs_cons (pg_name (i := 11) sc_law.nd rfl (Or.inl rfl)) pgs_nil)))))
      (pss_cons (ps_set (i := 12) sc_law.nd rfl (Or.inl rfl) (pe_call G__law_unit (hr.mono (by decide)) (by rfl) T.m__law_unit T.F__law_unit.kp (b__law_unit T) .nil pass0 (pa_cons (pv 10) pa_nil)))
      (pss_one (ps_set (i := 7) sc_law.nd rfl (Or.inl rfl) (pe_op op_sub (pe_op op_add (pv 7) (pe_op op_mul (pv 8) (pe_op op_add (pv 9) (pe_ix ix_tup (pv 12) pe_int (fun _ _ => rfl))))) (pe_op op_mul (pe_op op_add (pv 8) (pe_ix ix_tup (pv 12) pe_int (fun _ _ => rfl))) (pv 9)))))))
    (pss_cons (ps_set (i := 13) sc_law.nd rfl (Or.inl rfl) (pe_call G__law_main (hr.mono (by decide)) (by rfl) T.m__law_main T.F__law_main.kp (b__law_main T) .nil pass0 (pa_cons (pv 4) pa_nil)))
    (pss_cons (ps_set (i := 14) sc_law.nd rfl (Or.inl rfl) (pe_op op_sub (pe_bm PySem.F.plainAttrs_list PySem.F.slot_list_count PySem.F.type_list_count mt_lcountV (pv 13) (pa_cons pe_str pa_nil)) (pe_bm PySem.F.plainAttrs_list PySem.F.slot_list_count PySem.F.type_list_count mt_lcountV (pv 13) (pa_cons pe_str pa_nil))))
    (pss_cons (ps_if (pt_not (pt_val (pe_call G__law_alike (hr.mono (by decide)) (by rfl) T.m__law_alike T.F__law_alike.kp (b__law_alike T) .nil pass0 (pa_cons (pe_call G__law_all (hr.mono (by decide)) (by rfl) T.m__law_all T.F__law_all.kp (b__law_all T) .nil pass0 (pa_cons (pv 2) (pa_cons (pv 3) pa_nil))) (pa_cons (pe_lst (pa_cons (pe_callB call_len_seq (by rfl) T.z_len PySem.boot_len (pa_cons (pv 5) pa_nil)) (pa_cons (pv 6) (pa_cons (pv 14) (pa_cons (pv 7) pa_nil))))) pa_nil))))) (pss_one (ps_ret pe_bl)) pss_nil)
    (pss_cons (ps_set (i := 15) sc_law.nd rfl (Or.inl rfl) (pe_call G__law_taken (hr.mono (by decide)) (by rfl) T.m__law_taken T.F__law_taken.kp (b__law_taken T) .nil pass0 (pa_cons (pv 1) (pa_cons (pe_call G__law_pick (hr.mono (by decide)) (by rfl) T.m__law_pick T.F__law_pick.kp (b__law_pick T) .nil pass0 (pa_cons (pv 1) (pa_cons (pe_lst (pa_cons pe_int (pa_cons pe_int pa_nil))) pa_nil))) pa_nil))))
    (pss_cons (ps_asg (pe_tup (pa_cons pe_int (pa_cons (pe_tup (pa_cons pe_int (pa_cons pe_int pa_nil))) (pa_cons pe_int (pa_cons pe_int (pa_cons (pe_lst pa_nil) pa_nil)))))) (pg_tup rfl (pgs_cons (pg_name (i := 16) sc_law.nd rfl (Or.inl rfl)) (pgs_cons (pg_name (i := 17) sc_law.nd rfl (Or.inl rfl)) (pgs_cons (pg_name (i := 18) sc_law.nd rfl (Or.inl rfl)) (pgs_cons (pg_name (i := 19) sc_law.nd rfl (Or.inl rfl)) (pgs_cons (pg_name (i := 20) sc_law.nd rfl (Or.inl rfl)) pgs_nil)))))))
    (pss_cons (ps_set (i := 21) sc_law.nd rfl (Or.inl rfl) (pe_cmpR (op_eqD hr.units) (pe_lc (own := [("_law_word_here", 4)]) (g := gName 4)  rfl sc_law.nd (pi_tup (pe_op op_catT (pe_ix ix_tup (pv 2) pe_int (fun _ _ => rfl)) (pe_tup (pa_cons (pe_ix ix_tup (pv 2) pe_int (fun _ _ => rfl)) pa_nil)))) (blkOk_by (own := [("_law_word_here", 4)]) (N := ["_law_script", "_law_row", "_law_book_here", "_law_age_here", "_law_word_here", "_law_strokes", "_law_end", "_law_area", "_law_x", "_law_y", "_law_heading", "_law_letter", "_law_unit_here", "_law_main_here", "_law_turns", "_law_far", "_law_many", "_law_place", "_law_turned", "_law_twice", "_law_stands", "_law_plain", "_law_item", "_law_part", "_law_way", "_law_told"]) (sc := defScope s_law) (by decide +kernel)) (fun _ _ _ _ _ => pg_name (i := 4) sc_law.nd rfl (Or.inl rfl)) (fun _ _ _ _ _ => (pts_one (pt_cmpR (op_in_seqK K rfl) pe_str (pv 4) rfl))) (fun _ _ _ _ _ => (pv 4))) (pe_lst pa_nil) (nomark _)))
    (pss_cons (ps_for PassesOwn.never rfl (pi_list (pe_call G__law_grown (hr.mono (by decide)) (by rfl) T.m__law_grown T.F__law_grown.kp (b__law_grown T) .nil pass0 (pa_cons (pv 2) (pa_cons pe_int pa_nil)))) (pg_name (i := 22) sc_law.nd rfl (Or.inl rfl))
      (pss_one (ps_if (pt_cmpR op_eq (pv 22) pe_str (nomark _)) (pss_one (ps_expr (pe_bm PySem.F.plainAttrs_list PySem.F.slot_list_append PySem.F.type_list_append mt_append (pv 20) (pa_cons (pe_tup (pa_cons (pv 17) (pa_cons (pv 18) pa_nil))) pa_nil)))) (pss_one (ps_if (pt_cmpR op_eq (pv 22) pe_str (nomark _)) (pss_one (ps_asg (pe_bm0 PySem.F.plainAttrs_list PySem.F.slot_list_pop PySem.F.type_list_pop mt_pop (pv 20)) (pg_tup rfl (pgs_cons (pg_name (i := 17) sc_law.nd rfl (Or.inl rfl)) (pgs_cons (pg_name (i := 18) sc_law.nd rfl (Or.inl rfl)) pgs_nil))))) (pss_one (ps_if (pt_val (pe_callB call_isi (by rfl) T.z_isinstance (by decide +kernel) (pa_cons (pv 22) (pa_cons (pe_bltn (v := .ty "str") (by rfl) T.z_str (by decide +kernel) rfl) pa_nil)))) (pss_one (ps_set (i := 18) sc_law.nd rfl (Or.inl rfl) (pe_op op_add (pv 18) (pe_ifExp (pt_cmpR op_eq (pv 22) pe_str (nomark _)) pe_int (pe_un un_neg pe_int))))) (pss_cons (ps_set (i := 23) sc_law.nd rfl (Or.inl rfl) (pe_call G__law_all (hr.mono (by decide)) (by rfl) T.m__law_all T.F__law_all.kp (b__law_all T) .nil pass0 (pa_cons (pe_tup (pa_cons (pe_ix ix_tup (pv 2) pe_int (fun _ _ => rfl)) (pa_cons (pe_tup (pa_cons (pv 22) pa_nil)) pa_nil))) (pa_cons (pv 15) pa_nil))))
            (pss_cons (ps_set (i := 24) sc_law.nd rfl (Or.inl rfl) (pe_call G__law_quarter (hr.mono (by decide)) (by rfl) T.m__law_quarter T.F__law_quarter.kp (b__law_quarter T) .nil pass0 (pa_cons (pe_slice sl_tup (pe_ix ix_list (pv 23) pe_int (fun _ _ => rfl)) po_none (po_some pe_int)) (pa_cons (pv 18) pa_nil))))
            (pss_cons (ps_set (i := 19) sc_law.nd rfl (Or.inl rfl) (pe_op op_sub (pe_op op_add (pe_op op_add (pv 19) (pe_ix ix_list (pv 23) pe_int (fun _ _ => rfl))) (pe_op op_mulW (pe_ix ix_tup (pv 17) pe_int (fun _ _ => rfl)) (pe_ix ix_tup (pv 24) pe_int (fun _ _ => rfl)))) (pe_op op_mulW (pe_ix ix_tup (pv 17) pe_int (fun _ _ => rfl)) (pe_ix ix_tup (pv 24) pe_int (fun _ _ => rfl)))))
            (pss_one (ps_par3 (i := 16) (j := 17) (l := 18) rfl sc_law.nd rfl rfl rfl (by decide) (by decide) (by decide) rfl rfl rfl (pa_cons (pe_op op_add (pv 16) (pe_ix ix_list (pv 23) pe_int (fun _ _ => rfl))) (pa_cons (pe_tup (pa_cons (pe_op op_add (pe_ix ix_tup (pv 17) pe_int (fun _ _ => rfl)) (pe_ix ix_tup (pv 24) pe_int (fun _ _ => rfl))) (pa_cons (pe_op op_add (pe_ix ix_tup (pv 17) pe_int (fun _ _ => rfl)) (pe_ix ix_tup (pv 24) pe_int (fun _ _ => rfl))) pa_nil))) (pa_cons (pe_op op_add (pv 18) (pe_ix ix_list (pv 23) pe_int (fun _ _ => rfl))) pa_nil))) (by rfl)))))))))))))
    (pss_cons (ps_set (i := 25) sc_law.nd rfl (Or.inl rfl) (pe_call G__law_all (hr.mono (by decide)) (by rfl) T.m__law_all T.F__law_all.kp (b__law_all T) .nil pass0 (pa_cons (pv 2) (pa_cons (pe_op op_add (pv 15) pe_int) pa_nil))))
    (pss_one (ps_ret (pe_call G__law_alike (hr.mono (by decide)) (by rfl) T.m__law_alike T.F__law_alike.kp (b__law_alike T) .nil pass0 (pa_cons (pv 25) (pa_cons (pe_lst (pa_cons (pv 16) (pa_cons (pe_op op_catT (pv 17) (pe_tup (pa_cons (pe_op op_mod (pe_callTy call_int1 (by rfl) T.z_int (by decide +kernel) (pa_cons (pv 18) pa_nil)) pe_int) pa_nil))) (pa_cons (pv 18) (pa_cons (pe_ifExp (pt_val (pv 21)) (pv 19) (pe_ix ix_list (pv 25) pe_int (fun _ _ => rfl))) pa_nil))))) pa_nil)))))))))))))))))))), ?_⟩
    -- the row
    refine ⟨_, rfl, (by show 4 ≤ sizeLine; decide), fun r nr => ?_⟩
    obtain ⟨H1, e1, s1, hr1⟩ := nw (.lst [.ref a, .int 0, .int 11302, .int 0]) nr
    rw [← e1]
    have R1 : RowR K H1 r := ⟨a, ns, 0, 11302, 0, hr1, hS.keep fun o u e => s1 _ _ e, Int.le_refl 0⟩
    -- the book
    refine ⟨_, rfl, _, rfl, r, rfl, R1, fun H2 p2 ws2 st2 x2 R2 hB2 ok2 => ?_⟩
    refine ⟨_, rfl, r, rfl, R2, fun H3 p3 ws3 st3 x3 R3 hB3 ok3 => ?_⟩
    refine ⟨_, rfl, r, rfl, R3, fun H4 p4 b4 m4 ws4 st4 x4 R4 hp4 hB4 ok4 => ?_⟩
    refine ⟨p4, _, _, _, rfl, rfl, SqT.of hp4, atI_nat (j := 0) rfl, (by show 3 ≤ sizeLine; decide), fun l5 nl5 => ?_⟩
    obtain ⟨H5, e5, s5, hl5⟩ := nw (.lst [.ref p2, .ref p3, .ref b4]) nl5
    rw [← e5]
    refine ⟨r, l5, _, rfl, R4.same s5, hl5, R4.ne nl5, (by show 1 ≤ 3; decide), (by show 3 ≤ 1000; decide), fun H6 v6 x6 R6 hm6 => ?_⟩
    obtain ⟨b, ws, st, rfl, hB, ok⟩ : ∃ (b : Addr) (ws : List Word) (st : Word), v6 = .ref b ∧ BookAt H6 b ws st ∧ BOk ws st := by
      have t6 := tups_x x6 (R4.same s5)
      have t5 := tups_of s5
      have t4 := tups_x x4 R3
      have t3 := tups_x x3 R2
      simp only [List.mem_cons, List.not_mem_nil, or_false] at hm6
      rcases hm6 with rfl | rfl | rfl
      · exact ⟨p2, ws2, st2, rfl, (((hB2.same t3).same t4).same t5).same t6, ok2⟩
      · exact ⟨p3, ws3, st3, rfl, ((hB3.same t4).same t5).same t6, ok3⟩
      · exact ⟨b4, ws4, st4, rfl, (hB4.same t5).same t6, ok4⟩
    clear hB2 hB3 hB4 ok2 ok3 ok4
    -- the age
    refine ⟨_, rfl, _, rfl, b, ws, st, rfl, hB, ok, fun H7 kk s7 hk8 hc => ?_⟩
    have R7 := R6.same s7
    refine ⟨_, _, rfl, rfl, r, _, rfl, R7, (by omega), (by omega), fun H8 v8 x8 R8 v80 v81 => ?_⟩
    obtain ⟨n, rfl⟩ : ∃ n : Nat, v8 = (n : Int) := ⟨v8.toNat, by omega⟩
    have hnk : n ≤ kk := by omega
    have hB8 := (hB.same (tups_of s7)).same (tups_x x8 R7)
    have sm : Small ws st n := small_of ok.wlen ok.st.len (by omega) fun i hi => hc i (by omega)
    have sm1 : Small ws st 1 := small_of ok.wlen ok.st.len (by omega) fun i hi => by
      have e0 : i = 0 := by omega
      subst e0
      have h1 := cnt_le st
      have h2 := ok.st.len
      show cnt st ≤ 300
      omega
    have hwn := sm n (Nat.le_refl _)
    have hbn := bal_grow (all_bal ok) ok.st.bal n
    refine ⟨_, rfl, _, rfl, b, ws, st, n, rfl, hB8, ok, (by omega), sm, fun H9 lw nlw s9 hlw => ?_⟩
    -- strokes, end
    refine ⟨_, rfl, lw, grow ws n st, rfl, hlw, hbn, hwn, fun H10 p10 ql pe qs s10 hp10 hql hqs hpe => ?_⟩
    refine ⟨p10, _, rfl, SqT.of hp10, rfl, _, _, rfl, _, _, rfl, rfl, ?_⟩
    -- the area
    refine ⟨_, rfl, ql, rfl, ⟨_, SqL.of hql⟩, for_list (K := K) (a := ql) (xs := qs) (fun i σ H' => ∃ (v8 v9 v10 v11 v12 : Option V), σ = [some (.ref a), some (.ref r), some (.ref b), some (.int n), some (.ref lw), some (.ref ql), some (.ref pe), some (.int (((drawn (grow ws n st)).found.take i).foldl aStep 0)), v8, v9, v10, v11, v12, none, none, none, none, none, none, none, none, none, none, none, none, none] ∧ Same H10 H')
      ⟨none, none, none, none, none, rfl, Same.refl _⟩ (fun i σ H' _ ⟨_, _, _, _, _, _, s11⟩ => SqL.of (s11 _ _ hql)) ?_ ?_⟩
    · rintro i y σ H11 hi ⟨v8, v9, v10, v11, v12, rfl, s11⟩
      have hif : i < (drawn (grow ws n st)).found.length := by
        have h1 := (List.getElem?_eq_some_iff.mp hi).1
        have h2 := hqs.1
        rw [List.length_map] at h2
        omega
      have gi : (drawn (grow ws n st)).found[i]? = some (drawn (grow ws n st)).found[i] := List.getElem?_eq_getElem hif
      obtain ⟨a', ha1, ha2⟩ := hqs.2 i (sV (drawn (grow ws n st)).found[i]) (by rw [List.getElem?_map, gi]; rfl)
      rw [hi] at ha1
      cases ha1
      obtain ⟨b1, b2⟩ := drawn_small hwn _ (List.getElem_mem hif)
      rw [take_get gi, List.foldl_append]
      generalize (drawn (grow ws n st)).found[i] = q at *
      obtain ⟨qx, qy, qh, qn⟩ := q
      generalize ((drawn (grow ws n st)).found.take i).foldl aStep 0 = acc at *
      refine ⟨a', _, rfl, SqT.of (s11 _ _ ha2), rfl, _, _, rfl, _, _, rfl, _, _, rfl, _, _, rfl, rfl, ?_⟩
      refine ⟨_, rfl, qh, rfl, fun p12 H12 s12 hp12 => ?_⟩
      have r1 : (ry qh 1 0).natAbs ≤ 1 := ry_abs _ _ _ (by decide) (by decide)
      have r2 : (rx qh 1 0).natAbs ≤ 1 := rx_abs _ _ _ (by decide) (by decide)
      simp only at b1 b2
      refine ⟨_, rfl, _, rfl, _, rfl, _, rfl, p12, _, _, _, rfl, rfl, SqT.of hp12, atI_nat (j := 1) rfl, _, _, rfl, rfl, _, _, rfl, rfl, .inl ⟨by show -(2 ^ 64) < qx; omega, by show qx < 2 ^ 64; omega⟩, _, _, rfl, rfl, ?_⟩
      refine ⟨_, rfl, _, rfl, p12, _, _, _, rfl, rfl, SqT.of hp12, atI_nat (j := 0) rfl, _, _, rfl, rfl, _, rfl, _, _, rfl, rfl, .inr ⟨by show -(2 ^ 64) < qy; omega, by show qy < 2 ^ 64; omega⟩, _, _, rfl, rfl, ?_⟩
      exact ⟨_, _, _, _, _, rfl, s11.trans s12⟩
    rintro σ H11 ⟨v8, v9, v10, v11, v12, rfl, s11⟩
    have eqs : qs.length = (drawn (grow ws n st)).found.length := by
      have h2 := hqs.1
      rw [List.length_map] at h2
      exact h2
    rw [eqs, List.take_length]
    have s910 := s10.trans s11
    -- the turns
    refine ⟨_, rfl, lw, grow ws n st, rfl, s910 _ _ hlw, hwn, fun H12 lm s12 hlm => ?_⟩
    refine ⟨_, rfl, .inl ⟨rfl, _, SqL.of hlm⟩, lm, _, _, rfl, rfl, SqL.of hlm, rfl, flat_its _, _, rfl, .inl ⟨rfl, _, SqL.of hlm⟩, lm, _, _, rfl, rfl, SqL.of hlm, rfl, flat_its _, _, _, rfl, rfl, ?_⟩
    rw [cnt_p, cnt_m]
    -- the near part is alike
    have s812 := ((s9.trans s10).trans s11).trans s12
    have hB12 := hB8.same (tups_of s812)
    refine ⟨_, rfl, _, rfl, b, ws, st, n, rfl, hB12, ok, (by omega), fun H13 l13 pe13 s13 hl13 hpe13 => ?_⟩
    have s1013 := (s11.trans s12).trans s13
    refine ⟨_, rfl, ql, _, rfl, .inl (SqL.of (s1013 _ _ hql)), _, rfl, _, rfl, _, rfl, (by show 4 ≤ sizeLine; decide), fun l14 nl14 => ?_⟩
    obtain ⟨H14, e14, s14, hl14⟩ := nw (.lst [.int ((qs.length : Nat) : Int), .ref pe, .int (((mainOf (grow ws n st)).count .p : Int) - ((mainOf (grow ws n st)).count .m : Int)), .int ((drawn (grow ws n st)).found.foldl aStep 0)]) nl14
    have e14' : upd H13 l14 (.lst [.int ((qs.length : Nat) : Int), .ref pe, .int ((fun i j => i - j) (((mainOf (grow ws n st)).count .p : Nat) : Int) (((mainOf (grow ws n st)).count .m : Nat) : Int)), .int ((drawn (grow ws n st)).found.foldl aStep 0)]) = H14 := e14.symm
    have al : Alk H14 2 (.ref l13) (.ref l14) := alk_all (s14 _ _ hl13) hl14 (s14 _ _ hpe13) (s14 _ _ (s1013 _ _ hpe)) (by rw [near_many ok, eqs]) (near_t ok n) (near_ar ok n) (near_x ok n) (near_y ok n) (near_h ok n)
    refine ⟨_, _, rfl, (by rw [← e14]; exact al), fun H15 s15 => ⟨true, rfl, iteF ?_⟩⟩
    have s815 : Same H8 H15 := (s812.trans s13).trans (((e14 ▸ s14 : Same H13 (upd H13 l14 _))).trans s15)
    have R15 := R8.same s815
    have hB15 := hB8.same (tups_of s815)
    clear al s15 e14' e14 hl14 s14 nl14
    -- how far
    refine ⟨_, rfl, _, rfl, (by show 2 ≤ sizeLine; decide), fun lp nlp => ?_⟩
    obtain ⟨H16, e16, s16, hlp⟩ := nw (.lst [.int 60, .int 300]) nlp
    rw [← e16]
    refine ⟨r, lp, _, rfl, R15.same s16, hlp, R15.ne nlp, (by show 1 ≤ 2; decide), (by show 2 ≤ 1000; decide), fun H17 v17 x17 R17 hm17 => ?_⟩
    obtain ⟨mm, rfl, hmm1, hmm2⟩ : ∃ mm : Int, v17 = .int mm ∧ 1 ≤ mm ∧ mm ≤ 300 := by
      simp only [List.mem_cons, List.not_mem_nil, or_false] at hm17
      rcases hm17 with rfl | rfl
      · exact ⟨60, rfl, by decide, by decide⟩
      · exact ⟨300, rfl, by decide, by decide⟩
    refine ⟨r, mm, rfl, R17, hmm1, by omega, fun H18 v18 x18 R18 v180 v181 => ?_⟩
    obtain ⟨fr, rfl⟩ : ∃ fr : Nat, v18 = (fr : Int) := ⟨v18.toNat, by omega⟩
    have hfr : fr < 300 := by omega
    have hB18 := ((hB15.same (tups_of s16)).same (tups_x x17 (R15.same s16))).same (tups_x x18 R17)
    -- many, place, turned, twice, stands
    refine ⟨(by show 2 ≤ sizeLine; decide), fun pp npp => ?_⟩
    obtain ⟨H19, e19, s19, hpp⟩ := nw (.tup [.int 0, .int 0]) npp
    rw [← e19]
    refine ⟨Nat.zero_le _, fun ps nps => ?_⟩
    obtain ⟨H20, e20, s20, hps⟩ := nw (.lst []) nps
    rw [← e20]
    refine ⟨(by show 5 ≤ sizeLine; decide), fun pt npt => ?_⟩
    obtain ⟨H21, e21, s21, hpt⟩ := nw (.tup [.int 0, .ref pp, .int 0, .int 0, .ref ps]) npt
    rw [← e21]
    refine ⟨pt, _, rfl, SqT.of hpt, rfl, _, _, rfl, _, _, rfl, _, _, rfl, _, _, rfl, _, _, rfl, rfl, ?_⟩
    have hB21 := hB18.same (tups_of ((s19.trans s20).trans s21))
    have hpp21 := s21 _ _ (s20 _ _ hpp)
    have hps21 := s21 _ _ hps
    -- plain
    obtain ⟨pw, ps0, bvs, hb1, hb2, hb3, hb4⟩ := id hB21
    refine ⟨_, rfl, b, _, _, _, rfl, rfl, SqT.of hb1, atI_nat (j := 0) rfl, _, rfl, b, _, _, _, rfl, rfl, SqT.of hb1, atI_nat (j := 1) rfl, (by show 1 ≤ sizeLine; decide), fun q nq => ?_⟩
    obtain ⟨H22, e22, s22, hq⟩ := nw (.tup [.ref ps0]) nq
    rw [← e22]
    have hbl := hb3.len
    have hw1 := ok.one
    have hw8 := ok.eight
    refine ⟨pw, q, bvs, _, rfl, rfl, SqT.of (s22 _ _ hb2), SqT.of hq, (fun z => by rw [z] at hbl; simp at hbl; omega), small_le (by simp; omega), (fun z => by simp at z), fun _ pc npc => ?_⟩
    obtain ⟨H23, e23, s23, hpc⟩ := nw (.tup (bvs ++ [.ref ps0])) npc
    rw [← e23]
    have s2123 := s22.trans s23
    have hwall : WordsAt H23 (bvs ++ [.ref ps0]) (ws ++ [st]) := (hb3.same (tups_of s2123)).app ⟨ps0, rfl, s2123 _ _ hb4⟩
    refine ⟨pc, rfl, ⟨_, SqT.of hpc⟩, fun D nD => ?_⟩
    refine lc_tup (K := K) (a := pc) (xs := bvs ++ [.ref ps0]) (fun i H' => Same H23 H' ∧ ∃ xs : List V, H' D = some (.lst xs) ∧ xs.length ≤ i ∧ (∀ v ∈ xs, ∃ (c : Addr) (u : Word), v = .ref c ∧ H23 c = some (.tup (u.map itV))) ∧ (xs.isEmpty = true → ∀ j u, j < i → (ws ++ [st])[j]? = some u → Item.o ∉ u))
      ⟨sNew nD, [], upd_same, Nat.le_refl _, fun v hv => by simp at hv, fun _ j u hj => by omega⟩ (fun i H' _ ⟨s24, _⟩ => SqT.of (s24 _ _ hpc)) ?_ ?_
    · rintro i y H24 hi ⟨s24, xs, hxs, hxl, hxv, hxe⟩
      have hi10 : i < 10 := by
        have h1 := (List.getElem?_eq_some_iff.mp hi).1
        simp at h1
        omega
      obtain ⟨c, u, rfl, hu, hc⟩ := hwall.get hi
      by_cases ho : Item.o ∈ u
      · have e : inV (.str "[") (u.map itV) = true := by
          rw [inV_o]
          exact decide_eq_true ho
        refine ⟨rfl, _, rfl, c, _, rfl, .inr (SqT.of (s24 _ _ hc)), rfl, flat_its u, true, congrArg V.bl e, ?_⟩
        refine ⟨_, rfl, xs, hxs, small_lt (by omega), sMut s24 nD, xs ++ [.ref c], upd_same, by simp; omega, fun v hv => ?_, fun z => by simp at z⟩
        rcases List.mem_append.mp hv with hv | hv
        · exact hxv v hv
        · rw [List.mem_singleton.mp hv]
          exact ⟨c, u, rfl, hc⟩
      · have e : inV (.str "[") (u.map itV) = false := by
          rw [inV_o]
          exact decide_eq_false ho
        refine ⟨rfl, _, rfl, c, _, rfl, .inr (SqT.of (s24 _ _ hc)), rfl, flat_its u, false, congrArg V.bl e, ?_⟩
        refine ⟨s24, xs, hxs, by omega, hxv, fun z j u' hj hu' => ?_⟩
        by_cases hji : j < i
        · exact hxe z j u' hji hu'
        · have ej : j = i := by omega
          subst ej
          rw [hu] at hu'
          cases hu'
          exact ho
    rintro H24 ⟨s24, xs, hxs, hxl, hxv, hxe⟩
    have hplain : xs.isEmpty = true → ∀ u ∈ ws ++ [st], Item.o ∉ u := fun z u hu => by
      obtain ⟨j, hj⟩ := List.getElem?_of_mem hu
      have hjl := (List.getElem?_eq_some_iff.mp hj).1
      refine hxe z j u ?_ hj
      simp only [List.length_append, List.length_singleton] at hjl ⊢
      omega
    refine ⟨Nat.zero_le _, fun q2 nq2 => ?_⟩
    obtain ⟨H25, e25, s25, hq25⟩ := nw (.lst []) nq2
    rw [← e25]
    have s2325 := s24.trans s25
    obtain ⟨dd, ee, k1, k2, k3, k4, k5⟩ := cmpNil (K := K) (n := 1) (by decide) (SqL.of (s25 _ _ hxs)) (fun v hv => by
      obtain ⟨c, u, rfl, hc⟩ := hxv v hv
      exact dat_word (SqT.of (s2325 _ _ hc))) (SqL.of hq25)
    refine ⟨dd, ee, k1, k2, k3, k4, ?_⟩
    rw [k5]
    generalize xs.isEmpty = plain at *
    have s2125 := s2123.trans s2325
    have hB25 := hB21.same (tups_of s2125)
    -- the far part
    refine ⟨_, rfl, b, ws, st, 1, rfl, hB25, ok, (by decide), sm1, fun H26 lg nlg s26 hlg => ?_⟩
    have s2126 := s2125.trans s26
    have hps26 := s2126 _ _ hps21
    have nlgp : lg ≠ ps := fun z => by
      rw [z, s2125 _ _ hps21] at nlg
      cases nlg
    have hg1 := sm1 1 (Nat.le_refl _)
    have hgb := bal_grow (all_bal ok) ok.st.bal 1
    have hgl := ok.lets 1
    have tb : ∀ (H' : Hp), SameX ps H26 H' → ∀ c xs, H26 c = some (.tup xs) → H' c = some (.tup xs) := fun H' x c xs h => x _ _ h (ne_of h hps26 (by intro z; cases z))
    refine ⟨lg, rfl, ⟨_, SqL.of hlg⟩, for_list (K := K) (a := lg) (xs := (grow ws 1 st).map itV) (fun i σ H' => ∃ (d : Fa) (pl : Addr) (vst : List V), d = far (farF ws fr) ((grow ws 1 st).take i) ∧ LSt b ps fr plain d pl σ ∧ SameX ps H26 H' ∧
        H' pl = some (.tup [.int d.px, .int d.py]) ∧ H' ps = some (.lst vst) ∧ ListAt (StV H') vst d.stands.reverse)
      ⟨_, pp, [], rfl, ⟨_, _, _, _, _, _, _, _, _, _, _, _, _, _, _, _, _, rfl⟩, SameX.refl _ _, s2126 _ _ hpp21, hps26, ListAt.nil⟩ (fun i σ H' _ ⟨_, _, _, _, _, x, _⟩ => SqL.of (x _ _ hlg nlgp)) ?_ ?_⟩
    · rintro i z σ H27 hi ⟨d, pl, vst, hd, ⟨o0, o1, o3, o4, o5, o6, o7, o8, o9, o10, o11, o12, o13, o14, o22, o23, o24, rfl⟩, x27, hpl, hvs, hst⟩
      obtain ⟨it, hx, rfl⟩ := it_get hi
      have er := far_take (f := farF ws fr) hx
      have hti : ((grow ws 1 st).take i).length ≤ 200000 := Nat.le_trans (List.length_take_le' ..) hg1
      have hbl' : bal d.stands.length (it :: (grow ws 1 st).drop (i + 1)) = true := by
        rw [hd]
        refine far_bal ((grow ws 1 st).take i) ⟨0, 0, 0, 0, 0, []⟩ _ ?_
        rw [← drop_get hx, List.take_append_drop]
        exact hgb
      have hl2 : d.stands.length ≤ 200000 := by
        have h1 := far_len (farF ws fr) ((grow ws 1 st).take i) ⟨0, 0, 0, 0, 0, []⟩
        rw [hd]
        unfold far
        simp only [List.length_nil] at h1
        omega
      obtain ⟨M, hM, bx, by'⟩ := far_bound ok (by omega : fr ≤ 1000) hti hd
      rw [← hd] at er
      clear hd
      obtain ⟨dm, dx, dy, dt, dw, dst⟩ := d
      simp only at hl2 hbl' hpl hst bx by'
      have vsl : vst.length ≤ 200000 := by
        have := hst.1
        rw [List.length_reverse] at this
        omega
      cases it with
      | l nn =>
        have hnn : nn < ws.length := hgl nn (List.mem_of_getElem? hx)
        have x2127 : ∀ c xs, H21 c = some (.tup xs) → H27 c = some (.tup xs) := fun c xs h => tb H27 x27 c xs (s2126 _ _ h)
        refine ⟨_, rfl, rfl, false, rfl, iteF ⟨_, rfl, rfl, false, rfl, iteF ?_⟩⟩
        refine ⟨_, rfl, _, _, _, _, false, rfl, .ty "str", .base (.int nn), kit_ty (by decide +kernel), false, rfl, iteF ?_⟩
        -- part
        refine ⟨_, rfl, b, _, _, _, rfl, rfl, SqT.of (x2127 _ _ hb1), atI_nat (j := 0) rfl, _, rfl, (by show 1 ≤ sizeLine; decide), fun q1 nq1 => ?_⟩
        obtain ⟨H28, e28, s28, hq1⟩ := nw (.tup [.int (nn : Int)]) nq1
        have e28' : upd H27 q1 (.tup [itV (.l nn)]) = H28 := e28.symm
        rw [e28']
        refine ⟨(by show 2 ≤ sizeLine; decide), fun q2 nq2 => ?_⟩
        obtain ⟨H29, e29, s29, hq2⟩ := nw (.tup [.ref pw, .ref q1]) nq2
        rw [← e29]
        have s2729 := s28.trans s29
        refine ⟨_, rfl, q2, ws, [.l nn], fr, rfl, ⟨pw, q1, bvs, hq2, s2729 _ _ (x2127 _ _ hb2), (hb3.same x2127).same (tups_of s2729), s29 _ _ hq1⟩, bok_one ok hnn, (by omega), fun H30 lq pq s30 hlq hpq => ?_⟩
        rw [tot_one] at hlq hpq
        obtain ⟨N, hN, hN1, hN2⟩ := farF_le ok (by omega : fr ≤ 1000) nn
        have s2730 := s2729.trans s30
        -- way
        refine ⟨_, rfl, lq, _, _, _, rfl, rfl, SqL.of hlq, atI_nat (j := 1) rfl, 2, rfl, pq, _, rfl, SqT.of hpq, (by show ¬ (HT.sIx 3 0 none = 0 ∧ HT.sIx 3 3 (some 2) = 3); decide), fun q3 nq3 => ?_⟩
        obtain ⟨H31, e31, s31, hq3⟩ := nw (.tup [.int (farF ws fr nn).ex, .int (farF ws fr nn).ey]) nq3
        have e31' : upd H30 q3 (.tup (cutV [.int (farF ws fr nn).ex, .int (farF ws fr nn).ey, .int ((farF ws fr nn).t % 4)] none (some 2))) = H31 := e31.symm
        rw [e31']
        refine ⟨_, rfl, q3, _, _, dt, rfl, SqT.of hq3, fun pz H32 s32 hpz => ?_⟩
        have s3032 := s31.trans s32
        have s2732 := s2730.trans s3032
        have hlq' := s3032 _ _ hlq
        have hpl' := s2732 _ _ hpl
        have b1 := rx_abs dt (farF ws fr nn).ex (farF ws fr nn).ey hN1 hN2
        have b2 := ry_abs dt (farF ws fr nn).ex (farF ws fr nn).ey hN1 hN2
        -- twice
        refine ⟨_, rfl, _, rfl, lq, _, _, _, rfl, rfl, SqL.of hlq', atI_nat (j := 3) rfl, _, _, rfl, rfl, ?_⟩
        refine ⟨_, rfl, pl, _, _, _, rfl, rfl, SqT.of hpl', atI_nat (j := 0) rfl, _, rfl, pz, _, _, _, rfl, rfl, SqT.of hpz, atI_nat (j := 1) rfl, _, _, rfl, rfl, mulW bx hM b2 hN, _, _, rfl, rfl, ?_⟩
        refine ⟨_, rfl, pl, _, _, _, rfl, rfl, SqT.of hpl', atI_nat (j := 1) rfl, _, rfl, pz, _, _, _, rfl, rfl, SqT.of hpz, atI_nat (j := 0) rfl, _, _, rfl, rfl, mulW by' hM b1 hN, _, _, rfl, rfl, ?_⟩
        -- many, place, turned
        refine ⟨_, rfl, _, rfl, lq, _, _, _, rfl, rfl, SqL.of hlq', atI_nat (j := 0) rfl, _, _, rfl, rfl, ?_⟩
        refine ⟨_, rfl, pl, _, _, _, rfl, rfl, SqT.of hpl', atI_nat (j := 0) rfl, _, rfl, pz, _, _, _, rfl, rfl, SqT.of hpz, atI_nat (j := 0) rfl, _, _, rfl, rfl, ?_⟩
        refine ⟨_, rfl, pl, _, _, _, rfl, rfl, SqT.of hpl', atI_nat (j := 1) rfl, _, rfl, pz, _, _, _, rfl, rfl, SqT.of hpz, atI_nat (j := 1) rfl, _, _, rfl, rfl, (by show 2 ≤ sizeLine; decide), fun pn npn => ?_⟩
        have s33 := sNew (o := .tup [.int (dx + rx dt (farF ws fr nn).ex (farF ws fr nn).ey), .int (dy + ry dt (farF ws fr nn).ex (farF ws fr nn).ey)]) npn
        refine ⟨_, rfl, _, rfl, lq, _, _, _, rfl, rfl, SqL.of (s33 _ _ hlq'), atI_nat (j := 2) rfl, _, _, rfl, rfl, _, _, _, rfl, ?_⟩
        have s2733 := s2732.trans s33
        refine ⟨_, pn, vst, rfl, ?_, x27.trans (SameX.of s2733), ?_, s2733 _ _ hvs, ?_⟩
        · rw [er]
          exact ⟨_, _, _, _, _, _, _, _, _, _, _, _, _, _, _, _, _, rfl⟩
        · rw [er]
          exact upd_same
        · rw [er]
          exact hst.imp fun v q h => h.keep (tups_of s2733)
      | p =>
        refine ⟨_, rfl, rfl, false, by decide +kernel, iteF ⟨_, rfl, rfl, false, by decide +kernel, iteF ?_⟩⟩
        refine ⟨_, rfl, _, _, _, _, true, rfl, .ty "str", .base (.str "+"), kit_ty (by decide +kernel), true, rfl, iteT ?_⟩
        refine ⟨_, rfl, _, rfl, rfl, true, by decide +kernel, iteT ⟨_, _, rfl, rfl, ?_⟩⟩
        refine ⟨_, pl, vst, rfl, ?_, x27, by rw [er]; exact hpl, hvs, by rw [er]; exact hst⟩
        rw [er]
        exact ⟨_, _, _, _, _, _, _, _, _, _, _, _, _, _, _, _, _, rfl⟩
      | m =>
        refine ⟨_, rfl, rfl, false, by decide +kernel, iteF ⟨_, rfl, rfl, false, by decide +kernel, iteF ?_⟩⟩
        refine ⟨_, rfl, _, _, _, _, true, rfl, .ty "str", .base (.str "-"), kit_ty (by decide +kernel), true, rfl, iteT ?_⟩
        refine ⟨_, rfl, _, rfl, rfl, false, by decide +kernel, iteF ⟨1, rfl, _, _, rfl, rfl, ?_⟩⟩
        refine ⟨_, pl, vst, rfl, ?_, x27, by rw [er]; exact hpl, hvs, by rw [er]; exact hst⟩
        rw [er]
        exact ⟨_, _, _, _, _, _, _, _, _, _, _, _, _, _, _, _, _, rfl⟩
      | o =>
        refine ⟨_, rfl, rfl, true, by decide +kernel, iteT ?_⟩
        refine ⟨_, rfl, .inl ⟨rfl, _, SqL.of hvs⟩, _, rfl, _, rfl, (by show 2 ≤ sizeLine; decide), fun p np => ?_⟩
        obtain ⟨H28, e28, s28, hp⟩ := nw (.tup [.ref pl, .int dt]) np
        have e28' : upd H27 p (.tup [.ref pl, .int (Fa.mk dm dx dy dt dw dst).t]) = H28 := e28.symm
        rw [e28']
        refine ⟨ps, _, _, rfl, rfl, s28 _ _ hvs, small_lt (by omega), ?_⟩
        have k6 := tups_l (ys := vst ++ [.ref p]) (s28 _ _ hvs)
        refine ⟨_, pl, vst ++ [.ref p], rfl, ?_, (x27.trans (SameX.of s28)).self, ?_, upd_same, ?_⟩
        · rw [er]
          exact ⟨_, _, _, _, _, _, _, _, _, _, _, _, _, _, _, _, _, rfl⟩
        · rw [er]
          exact k6 _ _ (s28 _ _ hpl)
        · rw [er]
          simp only [fstep, List.reverse_cons]
          exact (hst.imp fun v q h => (h.keep (tups_of s28)).keep k6).app ⟨p, pl, rfl, k6 _ _ hp, k6 _ _ (s28 _ _ hpl)⟩
      | c =>
        cases dst with
        | nil => simp [bal] at hbl'
        | cons g dst =>
          obtain ⟨gx, gy, gt⟩ := g
          simp only [List.reverse_cons] at hst
          obtain ⟨⟨gv, hg1', g', gpl, rfl, hg2, hg3⟩, hst'⟩ := hst.pop
          refine ⟨_, rfl, rfl, false, by decide +kernel, iteF ⟨_, rfl, rfl, true, by decide +kernel, iteT ?_⟩⟩
          have k6 := tups_l (ys := vst.dropLast) hvs
          refine ⟨_, rfl, .inl ⟨rfl, _, SqL.of hvs⟩, ps, vst, .ref g', rfl, rfl, hvs, hg1', ?_⟩
          refine ⟨g', _, rfl, SqT.of (k6 _ _ hg2), rfl, _, _, rfl, _, _, rfl, rfl, ?_⟩
          refine ⟨_, gpl, vst.dropLast, rfl, ?_, x27.self, ?_, upd_same, ?_⟩
          · rw [er]
            exact ⟨_, _, _, _, _, _, _, _, _, _, _, _, _, _, _, _, _, rfl⟩
          · rw [er]
            exact k6 _ _ hg3
          · rw [er]
            exact hst'.imp fun v q h => h.keep k6
    rintro σ H27 ⟨d, pl, vst, hd, ⟨o0, o1, o3, o4, o5, o6, o7, o8, o9, o10, o11, o12, o13, o14, o22, o23, o24, rfl⟩, x27, hpl, hvs, hst⟩
    rw [List.length_map, List.take_length] at hd
    have hB27 : BookAt H27 b ws st := (hB25.same (tups_of s26)).same (tb H27 x27)
    -- the far word once more
    refine ⟨_, rfl, _, rfl, _, _, rfl, rfl, b, ws, st, fr + 1, rfl, hB27, ok, (by omega), fun H28 lt pe28 s28 hlt hpe28 => ?_⟩
    refine ⟨_, rfl, _, rfl, _, rfl, _, rfl, .inl ⟨_, rfl, _, _, rfl, rfl, (by show (0 : Int) < 4; decide), (by show 1 ≤ sizeLine; decide), fun q3 nq3 => ?_⟩⟩
    obtain ⟨H29, e29, s29, hq3⟩ := nw (.tup [.int (d.t % 4)]) nq3
    rw [← e29]
    refine ⟨pl, q3, _, _, rfl, rfl, SqT.of (s29 _ _ (s28 _ _ hpl)), SqT.of hq3, (fun z => by simp at z), (by show 3 ≤ sizeLine; decide), (fun z => by simp at z), fun _ q4 nq4 => ?_⟩
    obtain ⟨H30, e30, s30, hq4⟩ := nw (.tup [.int d.px, .int d.py, .int (d.t % 4)]) nq4
    have e30' : upd H29 q4 (.tup ([.int d.px, .int d.py] ++ [.int (d.t % 4)])) = H30 := e30.symm
    rw [e30']
    have s2830 := s29.trans s30
    obtain ⟨⟨f1, f2, f3⟩, f4⟩ := far_rel ok fr
    rw [← hd] at f1 f2 f3 f4
    simp only at f1 f2 f3
    have fin : ∀ (z : Int), (tot ws st (fr + 1)).ar = z → ∀ l5, H30 l5 = none → spAlike 2 [.ref lt, .ref l5] (upd H30 l5 (.lst [.int d.many, .ref q4, .int d.t, .int z])) Q E := fun z hz l5 nl5 => by
      have s31 := sNew (o := .lst [.int d.many, .ref q4, .int d.t, .int z]) nl5
      have s2831 := s2830.trans s31
      exact ⟨_, _, rfl, alk_all (s2831 _ _ hlt) upd_same (s2831 _ _ hpe28) (s31 _ _ hq4) f4 f3.symm hz f1.symm f2.symm (by rw [f3]), fun H' _ => k H'⟩
    refine ⟨_, rfl, _, rfl, plain, rfl, ?_⟩
    cases plain with
    | true =>
      refine ⟨_, rfl, (by show 4 ≤ sizeLine; decide), fun l5 nl5 => ?_⟩
      exact fin d.tw (by rw [hd]; exact far_ar ok fr (hplain rfl)) l5 nl5
    | false =>
      refine ⟨_, rfl, lt, _, _, _, rfl, rfl, SqL.of (s2830 _ _ hlt), atI_nat (j := 3) rfl, (by show 4 ≤ sizeLine; decide), fun l5 nl5 => ?_⟩
      exact fin _ rfl l5 nl5
end
end My
end
set_option maxRecDepth 100000
set_option maxHeartbeats 4000000
namespace My
open PySem L2
theorem txt_mk {K : PySem.W.Frag} {h : Heap} {mg : Str → Option Value} {a_Sum : Addr} {a_Ages : Addr} {a_is_in : Addr} {od_is_in an_is_in : Option Addr} {sl_is_in : Array (Option Value)} {oc_is_in kV_is_in dc_is_in pm_is_in cd_is_in ct_is_in : Value} {a_is_letter : Addr} {od_is_letter an_is_letter : Option Addr} {sl_is_letter : Array (Option Value)} {oc_is_letter kV_is_letter dc_is_letter pm_is_letter cd_is_letter ct_is_letter : Value} {a_are_branches : Addr} {od_are_branches an_are_branches : Option Addr} {sl_are_branches : Array (Option Value)} {oc_are_branches kV_are_branches dc_are_branches pm_are_branches cd_are_branches ct_are_branches : Value} {a_is_word : Addr} {od_is_word an_is_word : Option Addr} {sl_is_word : Array (Option Value)} {oc_is_word kV_is_word dc_is_word pm_is_word cd_is_word ct_is_word : Value} {a_need_book : Addr} {od_need_book an_need_book : Option Addr} {sl_need_book : Array (Option Value)} {oc_need_book kV_need_book dc_need_book pm_need_book cd_need_book ct_need_book : Value} {a_need_number : Addr} {od_need_number an_need_number : Option Addr} {sl_need_number : Array (Option Value)} {oc_need_number kV_need_number dc_need_number pm_need_number cd_need_number ct_need_number : Value} {a_quarters : Addr} {od_quarters an_quarters : Option Addr} {sl_quarters : Array (Option Value)} {oc_quarters kV_quarters dc_quarters pm_quarters cd_quarters ct_quarters : Value} {a_turned : Addr} {od_turned an_turned : Option Addr} {sl_turned : Array (Option Value)} {oc_turned kV_turned dc_turned pm_turned cd_turned ct_turned : Value} {a_plus : Addr} {od_plus an_plus : Option Addr} {sl_plus : Array (Option Value)} {oc_plus kV_plus dc_plus pm_plus cd_plus ct_plus : Value} {a_Sum_init : Addr} {od_Sum_init an_Sum_init : Option Addr} {sl_Sum_init : Array (Option Value)} {oc_Sum_init kV_Sum_init dc_Sum_init pm_Sum_init cd_Sum_init ct_Sum_init : Value} {a_Sum_then : Addr} {od_Sum_then an_Sum_then : Option Addr} {sl_Sum_then : Array (Option Value)} {oc_Sum_then kV_Sum_then dc_Sum_then pm_Sum_then cd_Sum_then ct_Sum_then : Value} {a_Sum_turning : Addr} {od_Sum_turning an_Sum_turning : Option Addr} {sl_Sum_turning : Array (Option Value)} {oc_Sum_turning kV_Sum_turning dc_Sum_turning pm_Sum_turning cd_Sum_turning ct_Sum_turning : Value} {a_Sum_back_at : Addr} {od_Sum_back_at an_Sum_back_at : Option Addr} {sl_Sum_back_at : Array (Option Value)} {oc_Sum_back_at kV_Sum_back_at dc_Sum_back_at pm_Sum_back_at cd_Sum_back_at ct_Sum_back_at : Value} {a_nothing : Addr} {od_nothing an_nothing : Option Addr} {sl_nothing : Array (Option Value)} {oc_nothing kV_nothing dc_nothing pm_nothing cd_nothing ct_nothing : Value} {a_joined : Addr} {od_joined an_joined : Option Addr} {sl_joined : Array (Option Value)} {oc_joined kV_joined dc_joined pm_joined cd_joined ct_joined : Value} {a_Ages_init : Addr} {od_Ages_init an_Ages_init : Option Addr} {sl_Ages_init : Array (Option Value)} {oc_Ages_init kV_Ages_init dc_Ages_init pm_Ages_init cd_Ages_init ct_Ages_init : Value} {a_Ages_whole : Addr} {od_Ages_whole an_Ages_whole : Option Addr} {sl_Ages_whole : Array (Option Value)} {oc_Ages_whole kV_Ages_whole dc_Ages_whole pm_Ages_whole cd_Ages_whole ct_Ages_whole : Value} {a_need_age : Addr} {od_need_age an_need_age : Option Addr} {sl_need_age : Array (Option Value)} {oc_need_age kV_need_age dc_need_age pm_need_age cd_need_age ct_need_age : Value} {a_strokes_in : Addr} {od_strokes_in an_strokes_in : Option Addr} {sl_strokes_in : Array (Option Value)} {oc_strokes_in kV_strokes_in dc_strokes_in pm_strokes_in cd_strokes_in ct_strokes_in : Value} {a_end_at : Addr} {od_end_at an_end_at : Option Addr} {sl_end_at : Array (Option Value)} {oc_end_at kV_end_at dc_end_at pm_end_at cd_end_at ct_end_at : Value} {a_turns_at : Addr} {od_turns_at an_turns_at : Option Addr} {sl_turns_at : Array (Option Value)} {oc_turns_at kV_turns_at dc_turns_at pm_turns_at cd_turns_at ct_turns_at : Value} {a_area_at : Addr} {od_area_at an_area_at : Option Addr} {sl_area_at : Array (Option Value)} {oc_area_at kV_area_at dc_area_at pm_area_at cd_area_at ct_area_at : Value} {a__law_taken : Addr} {od__law_taken an__law_taken : Option Addr} {sl__law_taken : Array (Option Value)} {oc__law_taken kV__law_taken dc__law_taken pm__law_taken cd__law_taken ct__law_taken : Value} {a__law_pick : Addr} {od__law_pick an__law_pick : Option Addr} {sl__law_pick : Array (Option Value)} {oc__law_pick kV__law_pick dc__law_pick pm__law_pick cd__law_pick ct__law_pick : Value} {a__law_branched : Addr} {od__law_branched an__law_branched : Option Addr} {sl__law_branched : Array (Option Value)} {oc__law_branched kV__law_branched dc__law_branched pm__law_branched cd__law_branched ct__law_branched : Value} {a__law_word : Addr} {od__law_word an__law_word : Option Addr} {sl__law_word : Array (Option Value)} {oc__law_word kV__law_word dc__law_word pm__law_word cd__law_word ct__law_word : Value} {a__law_book : Addr} {od__law_book an__law_book : Option Addr} {sl__law_book : Array (Option Value)} {oc__law_book kV__law_book dc__law_book pm__law_book cd__law_book ct__law_book : Value} {a__law_kit : Addr} {od__law_kit an__law_kit : Option Addr} {sl__law_kit : Array (Option Value)} {oc__law_kit kV__law_kit dc__law_kit pm__law_kit cd__law_kit ct__law_kit : Value} {a__law_even_word : Addr} {od__law_even_word an__law_even_word : Option Addr} {sl__law_even_word : Array (Option Value)} {oc__law_even_word kV__law_even_word dc__law_even_word pm__law_even_word cd__law_even_word ct__law_even_word : Value} {a__law_even_book : Addr} {od__law_even_book an__law_even_book : Option Addr} {sl__law_even_book : Array (Option Value)} {oc__law_even_book kV__law_even_book dc__law_even_book pm__law_even_book cd__law_even_book ct__law_even_book : Value} {a__law_grown : Addr} {od__law_grown an__law_grown : Option Addr} {sl__law_grown : Array (Option Value)} {oc__law_grown kV__law_grown dc__law_grown pm__law_grown cd__law_grown ct__law_grown : Value} {a__law_age : Addr} {od__law_age an__law_age : Option Addr} {sl__law_age : Array (Option Value)} {oc__law_age kV__law_age dc__law_age pm__law_age cd__law_age ct__law_age : Value} {a__law_unit : Addr} {od__law_unit an__law_unit : Option Addr} {sl__law_unit : Array (Option Value)} {oc__law_unit kV__law_unit dc__law_unit pm__law_unit cd__law_unit ct__law_unit : Value} {a__law_drawn : Addr} {od__law_drawn an__law_drawn : Option Addr} {sl__law_drawn : Array (Option Value)} {oc__law_drawn kV__law_drawn dc__law_drawn pm__law_drawn cd__law_drawn ct__law_drawn : Value} {a__law_main : Addr} {od__law_main an__law_main : Option Addr} {sl__law_main : Array (Option Value)} {oc__law_main kV__law_main dc__law_main pm__law_main cd__law_main ct__law_main : Value} {a__law_alike : Addr} {od__law_alike an__law_alike : Option Addr} {sl__law_alike : Array (Option Value)} {oc__law_alike kV__law_alike dc__law_alike pm__law_alike cd__law_alike ct__law_alike : Value} {a__law_all : Addr} {od__law_all an__law_all : Option Addr} {sl__law_all : Array (Option Value)} {oc__law_all kV__law_all dc__law_all pm__law_all cd__law_all ct__law_all : Value} {a__law_quarter : Addr} {od__law_quarter an__law_quarter : Option Addr} {sl__law_quarter : Array (Option Value)} {oc__law_quarter kV__law_quarter dc__law_quarter pm__law_quarter cd__law_quarter ct__law_quarter : Value} {a_law : Addr} {od_law an_law : Option Addr} {sl_law : Array (Option Value)} {oc_law kV_law dc_law pm_law cd_law ct_law : Value} {t_MOST_LETTERS : Tok} {t_MOST_WORD : Tok} {t_MOST_AGE : Tok} {t_LEFT : Tok} {t_RIGHT : Tok} {t_OUT : Tok} {t_BACK : Tok} {hd h0 h1 h2 h3 : Addr} {od1 od2 : Option Addr} {n1 n2 : Nat} {sl1 sl2 : Array (Option Value)} {t1 t2 : Tok} (X : K.In h) (G : h.Ns mainGlobals mg)
    (q_Sum : PySem.W.nsIn K mainGlobals "Sum" = some (some (.ref a_Sum)))
    (q_Ages : PySem.W.nsIn K mainGlobals "Ages" = some (some (.ref a_Ages)))
    (q_is_in : PySem.W.nsIn K mainGlobals "is_in" = some (some (.ref a_is_in)))
    (l_is_in : K.lookup a_is_in = some ⟨oc_is_in, od_is_in, .func (PySem.W.fnOf "is_in" "is_in" (defArgs s_is_in) (defBody s_is_in) (defScope s_is_in) .none kV_is_in dc_is_in pm_is_in an_is_in cd_is_in ct_is_in), sl_is_in⟩)
    (c_is_in : PySem.W.codeIn K cd_is_in "is_in" = true)
    (k_is_in : PySem.W.keepIn K (.ref a_is_in) = true)
    (q_is_letter : PySem.W.nsIn K mainGlobals "is_letter" = some (some (.ref a_is_letter)))
    (l_is_letter : K.lookup a_is_letter = some ⟨oc_is_letter, od_is_letter, .func (PySem.W.fnOf "is_letter" "is_letter" (defArgs s_is_letter) (defBody s_is_letter) (defScope s_is_letter) .none kV_is_letter dc_is_letter pm_is_letter an_is_letter cd_is_letter ct_is_letter), sl_is_letter⟩)
    (c_is_letter : PySem.W.codeIn K cd_is_letter "is_letter" = true)
    (k_is_letter : PySem.W.keepIn K (.ref a_is_letter) = true)
    (q_are_branches : PySem.W.nsIn K mainGlobals "are_branches" = some (some (.ref a_are_branches)))
    (l_are_branches : K.lookup a_are_branches = some ⟨oc_are_branches, od_are_branches, .func (PySem.W.fnOf "are_branches" "are_branches" (defArgs s_are_branches) (defBody s_are_branches) (defScope s_are_branches) .none kV_are_branches dc_are_branches pm_are_branches an_are_branches cd_are_branches ct_are_branches), sl_are_branches⟩)
    (c_are_branches : PySem.W.codeIn K cd_are_branches "are_branches" = true)
    (k_are_branches : PySem.W.keepIn K (.ref a_are_branches) = true)
    (q_is_word : PySem.W.nsIn K mainGlobals "is_word" = some (some (.ref a_is_word)))
    (l_is_word : K.lookup a_is_word = some ⟨oc_is_word, od_is_word, .func (PySem.W.fnOf "is_word" "is_word" (defArgs s_is_word) (defBody s_is_word) (defScope s_is_word) .none kV_is_word dc_is_word pm_is_word an_is_word cd_is_word ct_is_word), sl_is_word⟩)
    (c_is_word : PySem.W.codeIn K cd_is_word "is_word" = true)
    (k_is_word : PySem.W.keepIn K (.ref a_is_word) = true)
    (q_need_book : PySem.W.nsIn K mainGlobals "need_book" = some (some (.ref a_need_book)))
    (l_need_book : K.lookup a_need_book = some ⟨oc_need_book, od_need_book, .func (PySem.W.fnOf "need_book" "need_book" (defArgs s_need_book) (defBody s_need_book) (defScope s_need_book) .none kV_need_book dc_need_book pm_need_book an_need_book cd_need_book ct_need_book), sl_need_book⟩)
    (c_need_book : PySem.W.codeIn K cd_need_book "need_book" = true)
    (k_need_book : PySem.W.keepIn K (.ref a_need_book) = true)
    (q_need_number : PySem.W.nsIn K mainGlobals "need_number" = some (some (.ref a_need_number)))
    (l_need_number : K.lookup a_need_number = some ⟨oc_need_number, od_need_number, .func (PySem.W.fnOf "need_number" "need_number" (defArgs s_need_number) (defBody s_need_number) (defScope s_need_number) .none kV_need_number dc_need_number pm_need_number an_need_number cd_need_number ct_need_number), sl_need_number⟩)
    (c_need_number : PySem.W.codeIn K cd_need_number "need_number" = true)
    (k_need_number : PySem.W.keepIn K (.ref a_need_number) = true)
    (q_quarters : PySem.W.nsIn K mainGlobals "quarters" = some (some (.ref a_quarters)))
    (l_quarters : K.lookup a_quarters = some ⟨oc_quarters, od_quarters, .func (PySem.W.fnOf "quarters" "quarters" (defArgs s_quarters) (defBody s_quarters) (defScope s_quarters) .none kV_quarters dc_quarters pm_quarters an_quarters cd_quarters ct_quarters), sl_quarters⟩)
    (c_quarters : PySem.W.codeIn K cd_quarters "quarters" = true)
    (k_quarters : PySem.W.keepIn K (.ref a_quarters) = true)
    (q_turned : PySem.W.nsIn K mainGlobals "turned" = some (some (.ref a_turned)))
    (l_turned : K.lookup a_turned = some ⟨oc_turned, od_turned, .func (PySem.W.fnOf "turned" "turned" (defArgs s_turned) (defBody s_turned) (defScope s_turned) .none kV_turned dc_turned pm_turned an_turned cd_turned ct_turned), sl_turned⟩)
    (c_turned : PySem.W.codeIn K cd_turned "turned" = true)
    (k_turned : PySem.W.keepIn K (.ref a_turned) = true)
    (q_plus : PySem.W.nsIn K mainGlobals "plus" = some (some (.ref a_plus)))
    (l_plus : K.lookup a_plus = some ⟨oc_plus, od_plus, .func (PySem.W.fnOf "plus" "plus" (defArgs s_plus) (defBody s_plus) (defScope s_plus) .none kV_plus dc_plus pm_plus an_plus cd_plus ct_plus), sl_plus⟩)
    (c_plus : PySem.W.codeIn K cd_plus "plus" = true)
    (k_plus : PySem.W.keepIn K (.ref a_plus) = true)
    (q_Sum_init : PySem.W.findIn K (.ref a_Sum) "__init__" = some (some (.ref a_Sum_init)))
    (i_Sum_init : PySem.W.isFn K (.ref a_Sum_init) = true)
    (l_Sum_init : K.lookup a_Sum_init = some ⟨oc_Sum_init, od_Sum_init, .func (PySem.W.fnOf "__init__" "Sum.__init__" (defArgs s_Sum_init) (defBody s_Sum_init) (defScope s_Sum_init) .none kV_Sum_init dc_Sum_init pm_Sum_init an_Sum_init cd_Sum_init ct_Sum_init), sl_Sum_init⟩)
    (c_Sum_init : PySem.W.codeIn K cd_Sum_init "Sum.__init__" = true)
    (k_Sum_init : PySem.W.keepIn K (.ref a_Sum_init) = true)
    (q_Sum_then : PySem.W.findIn K (.ref a_Sum) "then" = some (some (.ref a_Sum_then)))
    (i_Sum_then : PySem.W.isFn K (.ref a_Sum_then) = true)
    (l_Sum_then : K.lookup a_Sum_then = some ⟨oc_Sum_then, od_Sum_then, .func (PySem.W.fnOf "then" "Sum.then" (defArgs s_Sum_then) (defBody s_Sum_then) (defScope s_Sum_then) .none kV_Sum_then dc_Sum_then pm_Sum_then an_Sum_then cd_Sum_then ct_Sum_then), sl_Sum_then⟩)
    (c_Sum_then : PySem.W.codeIn K cd_Sum_then "Sum.then" = true)
    (k_Sum_then : PySem.W.keepIn K (.ref a_Sum_then) = true)
    (q_Sum_turning : PySem.W.findIn K (.ref a_Sum) "turning" = some (some (.ref a_Sum_turning)))
    (i_Sum_turning : PySem.W.isFn K (.ref a_Sum_turning) = true)
    (l_Sum_turning : K.lookup a_Sum_turning = some ⟨oc_Sum_turning, od_Sum_turning, .func (PySem.W.fnOf "turning" "Sum.turning" (defArgs s_Sum_turning) (defBody s_Sum_turning) (defScope s_Sum_turning) .none kV_Sum_turning dc_Sum_turning pm_Sum_turning an_Sum_turning cd_Sum_turning ct_Sum_turning), sl_Sum_turning⟩)
    (c_Sum_turning : PySem.W.codeIn K cd_Sum_turning "Sum.turning" = true)
    (k_Sum_turning : PySem.W.keepIn K (.ref a_Sum_turning) = true)
    (q_Sum_back_at : PySem.W.findIn K (.ref a_Sum) "back_at" = some (some (.ref a_Sum_back_at)))
    (i_Sum_back_at : PySem.W.isFn K (.ref a_Sum_back_at) = true)
    (l_Sum_back_at : K.lookup a_Sum_back_at = some ⟨oc_Sum_back_at, od_Sum_back_at, .func (PySem.W.fnOf "back_at" "Sum.back_at" (defArgs s_Sum_back_at) (defBody s_Sum_back_at) (defScope s_Sum_back_at) .none kV_Sum_back_at dc_Sum_back_at pm_Sum_back_at an_Sum_back_at cd_Sum_back_at ct_Sum_back_at), sl_Sum_back_at⟩)
    (c_Sum_back_at : PySem.W.codeIn K cd_Sum_back_at "Sum.back_at" = true)
    (k_Sum_back_at : PySem.W.keepIn K (.ref a_Sum_back_at) = true)
    (q_nothing : PySem.W.nsIn K mainGlobals "nothing" = some (some (.ref a_nothing)))
    (l_nothing : K.lookup a_nothing = some ⟨oc_nothing, od_nothing, .func (PySem.W.fnOf "nothing" "nothing" (defArgs s_nothing) (defBody s_nothing) (defScope s_nothing) .none kV_nothing dc_nothing pm_nothing an_nothing cd_nothing ct_nothing), sl_nothing⟩)
    (c_nothing : PySem.W.codeIn K cd_nothing "nothing" = true)
    (k_nothing : PySem.W.keepIn K (.ref a_nothing) = true)
    (q_joined : PySem.W.nsIn K mainGlobals "joined" = some (some (.ref a_joined)))
    (l_joined : K.lookup a_joined = some ⟨oc_joined, od_joined, .func (PySem.W.fnOf "joined" "joined" (defArgs s_joined) (defBody s_joined) (defScope s_joined) .none kV_joined dc_joined pm_joined an_joined cd_joined ct_joined), sl_joined⟩)
    (c_joined : PySem.W.codeIn K cd_joined "joined" = true)
    (k_joined : PySem.W.keepIn K (.ref a_joined) = true)
    (q_Ages_init : PySem.W.findIn K (.ref a_Ages) "__init__" = some (some (.ref a_Ages_init)))
    (i_Ages_init : PySem.W.isFn K (.ref a_Ages_init) = true)
    (l_Ages_init : K.lookup a_Ages_init = some ⟨oc_Ages_init, od_Ages_init, .func (PySem.W.fnOf "__init__" "Ages.__init__" (defArgs s_Ages_init) (defBody s_Ages_init) (defScope s_Ages_init) .none kV_Ages_init dc_Ages_init pm_Ages_init an_Ages_init cd_Ages_init ct_Ages_init), sl_Ages_init⟩)
    (c_Ages_init : PySem.W.codeIn K cd_Ages_init "Ages.__init__" = true)
    (k_Ages_init : PySem.W.keepIn K (.ref a_Ages_init) = true)
    (q_Ages_whole : PySem.W.findIn K (.ref a_Ages) "whole" = some (some (.ref a_Ages_whole)))
    (i_Ages_whole : PySem.W.isFn K (.ref a_Ages_whole) = true)
    (l_Ages_whole : K.lookup a_Ages_whole = some ⟨oc_Ages_whole, od_Ages_whole, .func (PySem.W.fnOf "whole" "Ages.whole" (defArgs s_Ages_whole) (defBody s_Ages_whole) (defScope s_Ages_whole) .none kV_Ages_whole dc_Ages_whole pm_Ages_whole an_Ages_whole cd_Ages_whole ct_Ages_whole), sl_Ages_whole⟩)
    (c_Ages_whole : PySem.W.codeIn K cd_Ages_whole "Ages.whole" = true)
    (k_Ages_whole : PySem.W.keepIn K (.ref a_Ages_whole) = true)
    (q_need_age : PySem.W.nsIn K mainGlobals "need_age" = some (some (.ref a_need_age)))
    (l_need_age : K.lookup a_need_age = some ⟨oc_need_age, od_need_age, .func (PySem.W.fnOf "need_age" "need_age" (defArgs s_need_age) (defBody s_need_age) (defScope s_need_age) .none kV_need_age dc_need_age pm_need_age an_need_age cd_need_age ct_need_age), sl_need_age⟩)
    (c_need_age : PySem.W.codeIn K cd_need_age "need_age" = true)
    (k_need_age : PySem.W.keepIn K (.ref a_need_age) = true)
    (q_strokes_in : PySem.W.nsIn K mainGlobals "strokes_in" = some (some (.ref a_strokes_in)))
    (l_strokes_in : K.lookup a_strokes_in = some ⟨oc_strokes_in, od_strokes_in, .func (PySem.W.fnOf "strokes_in" "strokes_in" (defArgs s_strokes_in) (defBody s_strokes_in) (defScope s_strokes_in) .none kV_strokes_in dc_strokes_in pm_strokes_in an_strokes_in cd_strokes_in ct_strokes_in), sl_strokes_in⟩)
    (c_strokes_in : PySem.W.codeIn K cd_strokes_in "strokes_in" = true)
    (k_strokes_in : PySem.W.keepIn K (.ref a_strokes_in) = true)
    (q_end_at : PySem.W.nsIn K mainGlobals "end_at" = some (some (.ref a_end_at)))
    (l_end_at : K.lookup a_end_at = some ⟨oc_end_at, od_end_at, .func (PySem.W.fnOf "end_at" "end_at" (defArgs s_end_at) (defBody s_end_at) (defScope s_end_at) .none kV_end_at dc_end_at pm_end_at an_end_at cd_end_at ct_end_at), sl_end_at⟩)
    (c_end_at : PySem.W.codeIn K cd_end_at "end_at" = true)
    (k_end_at : PySem.W.keepIn K (.ref a_end_at) = true)
    (q_turns_at : PySem.W.nsIn K mainGlobals "turns_at" = some (some (.ref a_turns_at)))
    (l_turns_at : K.lookup a_turns_at = some ⟨oc_turns_at, od_turns_at, .func (PySem.W.fnOf "turns_at" "turns_at" (defArgs s_turns_at) (defBody s_turns_at) (defScope s_turns_at) .none kV_turns_at dc_turns_at pm_turns_at an_turns_at cd_turns_at ct_turns_at), sl_turns_at⟩)
    (c_turns_at : PySem.W.codeIn K cd_turns_at "turns_at" = true)
    (k_turns_at : PySem.W.keepIn K (.ref a_turns_at) = true)
    (q_area_at : PySem.W.nsIn K mainGlobals "area_at" = some (some (.ref a_area_at)))
    (l_area_at : K.lookup a_area_at = some ⟨oc_area_at, od_area_at, .func (PySem.W.fnOf "area_at" "area_at" (defArgs s_area_at) (defBody s_area_at) (defScope s_area_at) .none kV_area_at dc_area_at pm_area_at an_area_at cd_area_at ct_area_at), sl_area_at⟩)
    (c_area_at : PySem.W.codeIn K cd_area_at "area_at" = true)
    (k_area_at : PySem.W.keepIn K (.ref a_area_at) = true)
    (q__law_taken : PySem.W.nsIn K mainGlobals "_law_taken" = some (some (.ref a__law_taken)))
    (l__law_taken : K.lookup a__law_taken = some ⟨oc__law_taken, od__law_taken, .func (PySem.W.fnOf "_law_taken" "_law_taken" (defArgs s__law_taken) (defBody s__law_taken) (defScope s__law_taken) .none kV__law_taken dc__law_taken pm__law_taken an__law_taken cd__law_taken ct__law_taken), sl__law_taken⟩)
    (c__law_taken : PySem.W.codeIn K cd__law_taken "_law_taken" = true)
    (k__law_taken : PySem.W.keepIn K (.ref a__law_taken) = true)
    (q__law_pick : PySem.W.nsIn K mainGlobals "_law_pick" = some (some (.ref a__law_pick)))
    (l__law_pick : K.lookup a__law_pick = some ⟨oc__law_pick, od__law_pick, .func (PySem.W.fnOf "_law_pick" "_law_pick" (defArgs s__law_pick) (defBody s__law_pick) (defScope s__law_pick) .none kV__law_pick dc__law_pick pm__law_pick an__law_pick cd__law_pick ct__law_pick), sl__law_pick⟩)
    (c__law_pick : PySem.W.codeIn K cd__law_pick "_law_pick" = true)
    (k__law_pick : PySem.W.keepIn K (.ref a__law_pick) = true)
    (q__law_branched : PySem.W.nsIn K mainGlobals "_law_branched" = some (some (.ref a__law_branched)))
    (l__law_branched : K.lookup a__law_branched = some ⟨oc__law_branched, od__law_branched, .func (PySem.W.fnOf "_law_branched" "_law_branched" (defArgs s__law_branched) (defBody s__law_branched) (defScope s__law_branched) .none kV__law_branched dc__law_branched pm__law_branched an__law_branched cd__law_branched ct__law_branched), sl__law_branched⟩)
    (c__law_branched : PySem.W.codeIn K cd__law_branched "_law_branched" = true)
    (k__law_branched : PySem.W.keepIn K (.ref a__law_branched) = true)
    (q__law_word : PySem.W.nsIn K mainGlobals "_law_word" = some (some (.ref a__law_word)))
    (l__law_word : K.lookup a__law_word = some ⟨oc__law_word, od__law_word, .func (PySem.W.fnOf "_law_word" "_law_word" (defArgs s__law_word) (defBody s__law_word) (defScope s__law_word) .none kV__law_word dc__law_word pm__law_word an__law_word cd__law_word ct__law_word), sl__law_word⟩)
    (c__law_word : PySem.W.codeIn K cd__law_word "_law_word" = true)
    (k__law_word : PySem.W.keepIn K (.ref a__law_word) = true)
    (q__law_book : PySem.W.nsIn K mainGlobals "_law_book" = some (some (.ref a__law_book)))
    (l__law_book : K.lookup a__law_book = some ⟨oc__law_book, od__law_book, .func (PySem.W.fnOf "_law_book" "_law_book" (defArgs s__law_book) (defBody s__law_book) (defScope s__law_book) .none kV__law_book dc__law_book pm__law_book an__law_book cd__law_book ct__law_book), sl__law_book⟩)
    (c__law_book : PySem.W.codeIn K cd__law_book "_law_book" = true)
    (k__law_book : PySem.W.keepIn K (.ref a__law_book) = true)
    (q__law_kit : PySem.W.nsIn K mainGlobals "_law_kit" = some (some (.ref a__law_kit)))
    (l__law_kit : K.lookup a__law_kit = some ⟨oc__law_kit, od__law_kit, .func (PySem.W.fnOf "_law_kit" "_law_kit" (defArgs s__law_kit) (defBody s__law_kit) (defScope s__law_kit) .none kV__law_kit dc__law_kit pm__law_kit an__law_kit cd__law_kit ct__law_kit), sl__law_kit⟩)
    (c__law_kit : PySem.W.codeIn K cd__law_kit "_law_kit" = true)
    (k__law_kit : PySem.W.keepIn K (.ref a__law_kit) = true)
    (q__law_even_word : PySem.W.nsIn K mainGlobals "_law_even_word" = some (some (.ref a__law_even_word)))
    (l__law_even_word : K.lookup a__law_even_word = some ⟨oc__law_even_word, od__law_even_word, .func (PySem.W.fnOf "_law_even_word" "_law_even_word" (defArgs s__law_even_word) (defBody s__law_even_word) (defScope s__law_even_word) .none kV__law_even_word dc__law_even_word pm__law_even_word an__law_even_word cd__law_even_word ct__law_even_word), sl__law_even_word⟩)
    (c__law_even_word : PySem.W.codeIn K cd__law_even_word "_law_even_word" = true)
    (k__law_even_word : PySem.W.keepIn K (.ref a__law_even_word) = true)
    (q__law_even_book : PySem.W.nsIn K mainGlobals "_law_even_book" = some (some (.ref a__law_even_book)))
    (l__law_even_book : K.lookup a__law_even_book = some ⟨oc__law_even_book, od__law_even_book, .func (PySem.W.fnOf "_law_even_book" "_law_even_book" (defArgs s__law_even_book) (defBody s__law_even_book) (defScope s__law_even_book) .none kV__law_even_book dc__law_even_book pm__law_even_book an__law_even_book cd__law_even_book ct__law_even_book), sl__law_even_book⟩)
    (c__law_even_book : PySem.W.codeIn K cd__law_even_book "_law_even_book" = true)
    (k__law_even_book : PySem.W.keepIn K (.ref a__law_even_book) = true)
    (q__law_grown : PySem.W.nsIn K mainGlobals "_law_grown" = some (some (.ref a__law_grown)))
    (l__law_grown : K.lookup a__law_grown = some ⟨oc__law_grown, od__law_grown, .func (PySem.W.fnOf "_law_grown" "_law_grown" (defArgs s__law_grown) (defBody s__law_grown) (defScope s__law_grown) .none kV__law_grown dc__law_grown pm__law_grown an__law_grown cd__law_grown ct__law_grown), sl__law_grown⟩)
    (c__law_grown : PySem.W.codeIn K cd__law_grown "_law_grown" = true)
    (k__law_grown : PySem.W.keepIn K (.ref a__law_grown) = true)
    (q__law_age : PySem.W.nsIn K mainGlobals "_law_age" = some (some (.ref a__law_age)))
    (l__law_age : K.lookup a__law_age = some ⟨oc__law_age, od__law_age, .func (PySem.W.fnOf "_law_age" "_law_age" (defArgs s__law_age) (defBody s__law_age) (defScope s__law_age) .none kV__law_age dc__law_age pm__law_age an__law_age cd__law_age ct__law_age), sl__law_age⟩)
    (c__law_age : PySem.W.codeIn K cd__law_age "_law_age" = true)
    (k__law_age : PySem.W.keepIn K (.ref a__law_age) = true)
    (q__law_unit : PySem.W.nsIn K mainGlobals "_law_unit" = some (some (.ref a__law_unit)))
    (l__law_unit : K.lookup a__law_unit = some ⟨oc__law_unit, od__law_unit, .func (PySem.W.fnOf "_law_unit" "_law_unit" (defArgs s__law_unit) (defBody s__law_unit) (defScope s__law_unit) .none kV__law_unit dc__law_unit pm__law_unit an__law_unit cd__law_unit ct__law_unit), sl__law_unit⟩)
    (c__law_unit : PySem.W.codeIn K cd__law_unit "_law_unit" = true)
    (k__law_unit : PySem.W.keepIn K (.ref a__law_unit) = true)
    (q__law_drawn : PySem.W.nsIn K mainGlobals "_law_drawn" = some (some (.ref a__law_drawn)))
    (l__law_drawn : K.lookup a__law_drawn = some ⟨oc__law_drawn, od__law_drawn, .func (PySem.W.fnOf "_law_drawn" "_law_drawn" (defArgs s__law_drawn) (defBody s__law_drawn) (defScope s__law_drawn) .none kV__law_drawn dc__law_drawn pm__law_drawn an__law_drawn cd__law_drawn ct__law_drawn), sl__law_drawn⟩)
    (c__law_drawn : PySem.W.codeIn K cd__law_drawn "_law_drawn" = true)
    (k__law_drawn : PySem.W.keepIn K (.ref a__law_drawn) = true)
    (q__law_main : PySem.W.nsIn K mainGlobals "_law_main" = some (some (.ref a__law_main)))
    (l__law_main : K.lookup a__law_main = some ⟨oc__law_main, od__law_main, .func (PySem.W.fnOf "_law_main" "_law_main" (defArgs s__law_main) (defBody s__law_main) (defScope s__law_main) .none kV__law_main dc__law_main pm__law_main an__law_main cd__law_main ct__law_main), sl__law_main⟩)
    (c__law_main : PySem.W.codeIn K cd__law_main "_law_main" = true)
    (k__law_main : PySem.W.keepIn K (.ref a__law_main) = true)
    (q__law_alike : PySem.W.nsIn K mainGlobals "_law_alike" = some (some (.ref a__law_alike)))
    (l__law_alike : K.lookup a__law_alike = some ⟨oc__law_alike, od__law_alike, .func (PySem.W.fnOf "_law_alike" "_law_alike" (defArgs s__law_alike) (defBody s__law_alike) (defScope s__law_alike) .none kV__law_alike dc__law_alike pm__law_alike an__law_alike cd__law_alike ct__law_alike), sl__law_alike⟩)
    (c__law_alike : PySem.W.codeIn K cd__law_alike "_law_alike" = true)
    (k__law_alike : PySem.W.keepIn K (.ref a__law_alike) = true)
    (q__law_all : PySem.W.nsIn K mainGlobals "_law_all" = some (some (.ref a__law_all)))
    (l__law_all : K.lookup a__law_all = some ⟨oc__law_all, od__law_all, .func (PySem.W.fnOf "_law_all" "_law_all" (defArgs s__law_all) (defBody s__law_all) (defScope s__law_all) .none kV__law_all dc__law_all pm__law_all an__law_all cd__law_all ct__law_all), sl__law_all⟩)
    (c__law_all : PySem.W.codeIn K cd__law_all "_law_all" = true)
    (k__law_all : PySem.W.keepIn K (.ref a__law_all) = true)
    (q__law_quarter : PySem.W.nsIn K mainGlobals "_law_quarter" = some (some (.ref a__law_quarter)))
    (l__law_quarter : K.lookup a__law_quarter = some ⟨oc__law_quarter, od__law_quarter, .func (PySem.W.fnOf "_law_quarter" "_law_quarter" (defArgs s__law_quarter) (defBody s__law_quarter) (defScope s__law_quarter) .none kV__law_quarter dc__law_quarter pm__law_quarter an__law_quarter cd__law_quarter ct__law_quarter), sl__law_quarter⟩)
    (c__law_quarter : PySem.W.codeIn K cd__law_quarter "_law_quarter" = true)
    (k__law_quarter : PySem.W.keepIn K (.ref a__law_quarter) = true)
    (q_law : PySem.W.nsIn K mainGlobals "law" = some (some (.ref a_law)))
    (l_law : K.lookup a_law = some ⟨oc_law, od_law, .func (PySem.W.fnOf "law" "law" (defArgs s_law) (defBody s_law) (defScope s_law) .none kV_law dc_law pm_law an_law cd_law ct_law), sl_law⟩)
    (c_law : PySem.W.codeIn K cd_law "law" = true)
    (k_law : PySem.W.keepIn K (.ref a_law) = true)
    (pg_Sum : PySem.W.plainGet K a_Sum Str.empty = true)
    (hd_Sum : PySem.W.hasDictIn K a_Sum = true)
    (po_Sum : PySem.W.plainOver K a_Sum = true)
    (sa_Sum : PySem.W.findIn K (.ref a_Sum) "__setattr__" = some (some (.builtin "object.__setattr__")))
    (mk_Sum : PySem.W.makesIn K a_Sum = true)
    (kc_Sum : PySem.W.keepIn K (.ref a_Sum) = true)
    (n_Sum_many : PySem.W.findIn K (.ref a_Sum) "many" = some none)
    (n_Sum_end : PySem.W.findIn K (.ref a_Sum) "end" = some none)
    (n_Sum_turns : PySem.W.findIn K (.ref a_Sum) "turns" = some none)
    (n_Sum_ways : PySem.W.findIn K (.ref a_Sum) "ways" = some none)
    (n_Sum_area : PySem.W.findIn K (.ref a_Sum) "area" = some none)
    (pg_Ages : PySem.W.plainGet K a_Ages Str.empty = true)
    (hd_Ages : PySem.W.hasDictIn K a_Ages = true)
    (po_Ages : PySem.W.plainOver K a_Ages = true)
    (sa_Ages : PySem.W.findIn K (.ref a_Ages) "__setattr__" = some (some (.builtin "object.__setattr__")))
    (mk_Ages : PySem.W.makesIn K a_Ages = true)
    (kc_Ages : PySem.W.keepIn K (.ref a_Ages) = true)
    (n_Ages_book : PySem.W.findIn K (.ref a_Ages) "book" = some none)
    (n_Ages_rows : PySem.W.findIn K (.ref a_Ages) "rows" = some none)
    (z_len : PySem.W.nsIn K mainGlobals "len" = some none)
    (z_isinstance : PySem.W.nsIn K mainGlobals "isinstance" = some none)
    (z_int : PySem.W.nsIn K mainGlobals "int" = some none)
    (z_bool : PySem.W.nsIn K mainGlobals "bool" = some none)
    (z_str : PySem.W.nsIn K mainGlobals "str" = some none)
    (z_tuple : PySem.W.nsIn K mainGlobals "tuple" = some none)
    (z_list : PySem.W.nsIn K mainGlobals "list" = some none)
    (z_abs : PySem.W.nsIn K mainGlobals "abs" = some none)
    (z_range : PySem.W.nsIn K mainGlobals "range" = some none)
    (z_enumerate : PySem.W.nsIn K mainGlobals "enumerate" = some none)
    (g_MOST_LETTERS : PySem.W.nsIn K mainGlobals "MOST_LETTERS" = some (some (.int 8 t_MOST_LETTERS)))
    (g_MOST_WORD : PySem.W.nsIn K mainGlobals "MOST_WORD" = some (some (.int 40 t_MOST_WORD)))
    (g_MOST_AGE : PySem.W.nsIn K mainGlobals "MOST_AGE" = some (some (.int 1000 t_MOST_AGE)))
    (g_LEFT : PySem.W.nsIn K mainGlobals "LEFT" = some (some (.str "+" t_LEFT)))
    (g_RIGHT : PySem.W.nsIn K mainGlobals "RIGHT" = some (some (.str "-" t_RIGHT)))
    (g_OUT : PySem.W.nsIn K mainGlobals "OUT" = some (some (.str "[" t_OUT)))
    (g_BACK : PySem.W.nsIn K mainGlobals "BACK" = some (some (.str "]" t_BACK)))
    (g_HEADINGS : PySem.W.nsIn K mainGlobals "HEADINGS" = some (some (.ref hd)))
    (g_hd : K.lookup hd = some ⟨.type "tuple", od1, .seq #[.ref h0, .ref h1, .ref h2, .ref h3] n1, sl1⟩)
    (g_h0 : K.lookup h0 = some ⟨.type "tuple", od2, .seq #[.int 1 t1, .int 0 t2] n2, sl2⟩) :
    Txt K mg ⟨a_is_in, (PySem.W.fnOf "is_in" "is_in" (defArgs s_is_in) (defBody s_is_in) (defScope s_is_in) .none kV_is_in dc_is_in pm_is_in an_is_in cd_is_in ct_is_in), a_is_letter, (PySem.W.fnOf "is_letter" "is_letter" (defArgs s_is_letter) (defBody s_is_letter) (defScope s_is_letter) .none kV_is_letter dc_is_letter pm_is_letter an_is_letter cd_is_letter ct_is_letter), a_are_branches, (PySem.W.fnOf "are_branches" "are_branches" (defArgs s_are_branches) (defBody s_are_branches) (defScope s_are_branches) .none kV_are_branches dc_are_branches pm_are_branches an_are_branches cd_are_branches ct_are_branches), a_is_word, (PySem.W.fnOf "is_word" "is_word" (defArgs s_is_word) (defBody s_is_word) (defScope s_is_word) .none kV_is_word dc_is_word pm_is_word an_is_word cd_is_word ct_is_word), a_need_book, (PySem.W.fnOf "need_book" "need_book" (defArgs s_need_book) (defBody s_need_book) (defScope s_need_book) .none kV_need_book dc_need_book pm_need_book an_need_book cd_need_book ct_need_book), a_need_number, (PySem.W.fnOf "need_number" "need_number" (defArgs s_need_number) (defBody s_need_number) (defScope s_need_number) .none kV_need_number dc_need_number pm_need_number an_need_number cd_need_number ct_need_number), a_quarters, (PySem.W.fnOf "quarters" "quarters" (defArgs s_quarters) (defBody s_quarters) (defScope s_quarters) .none kV_quarters dc_quarters pm_quarters an_quarters cd_quarters ct_quarters), a_turned, (PySem.W.fnOf "turned" "turned" (defArgs s_turned) (defBody s_turned) (defScope s_turned) .none kV_turned dc_turned pm_turned an_turned cd_turned ct_turned), a_plus, (PySem.W.fnOf "plus" "plus" (defArgs s_plus) (defBody s_plus) (defScope s_plus) .none kV_plus dc_plus pm_plus an_plus cd_plus ct_plus), a_Sum_init, (PySem.W.fnOf "__init__" "Sum.__init__" (defArgs s_Sum_init) (defBody s_Sum_init) (defScope s_Sum_init) .none kV_Sum_init dc_Sum_init pm_Sum_init an_Sum_init cd_Sum_init ct_Sum_init), a_Sum_then, (PySem.W.fnOf "then" "Sum.then" (defArgs s_Sum_then) (defBody s_Sum_then) (defScope s_Sum_then) .none kV_Sum_then dc_Sum_then pm_Sum_then an_Sum_then cd_Sum_then ct_Sum_then), a_Sum_turning, (PySem.W.fnOf "turning" "Sum.turning" (defArgs s_Sum_turning) (defBody s_Sum_turning) (defScope s_Sum_turning) .none kV_Sum_turning dc_Sum_turning pm_Sum_turning an_Sum_turning cd_Sum_turning ct_Sum_turning), a_Sum_back_at, (PySem.W.fnOf "back_at" "Sum.back_at" (defArgs s_Sum_back_at) (defBody s_Sum_back_at) (defScope s_Sum_back_at) .none kV_Sum_back_at dc_Sum_back_at pm_Sum_back_at an_Sum_back_at cd_Sum_back_at ct_Sum_back_at), a_nothing, (PySem.W.fnOf "nothing" "nothing" (defArgs s_nothing) (defBody s_nothing) (defScope s_nothing) .none kV_nothing dc_nothing pm_nothing an_nothing cd_nothing ct_nothing), a_joined, (PySem.W.fnOf "joined" "joined" (defArgs s_joined) (defBody s_joined) (defScope s_joined) .none kV_joined dc_joined pm_joined an_joined cd_joined ct_joined), a_Ages_init, (PySem.W.fnOf "__init__" "Ages.__init__" (defArgs s_Ages_init) (defBody s_Ages_init) (defScope s_Ages_init) .none kV_Ages_init dc_Ages_init pm_Ages_init an_Ages_init cd_Ages_init ct_Ages_init), a_Ages_whole, (PySem.W.fnOf "whole" "Ages.whole" (defArgs s_Ages_whole) (defBody s_Ages_whole) (defScope s_Ages_whole) .none kV_Ages_whole dc_Ages_whole pm_Ages_whole an_Ages_whole cd_Ages_whole ct_Ages_whole), a_need_age, (PySem.W.fnOf "need_age" "need_age" (defArgs s_need_age) (defBody s_need_age) (defScope s_need_age) .none kV_need_age dc_need_age pm_need_age an_need_age cd_need_age ct_need_age), a_strokes_in, (PySem.W.fnOf "strokes_in" "strokes_in" (defArgs s_strokes_in) (defBody s_strokes_in) (defScope s_strokes_in) .none kV_strokes_in dc_strokes_in pm_strokes_in an_strokes_in cd_strokes_in ct_strokes_in), a_end_at, (PySem.W.fnOf "end_at" "end_at" (defArgs s_end_at) (defBody s_end_at) (defScope s_end_at) .none kV_end_at dc_end_at pm_end_at an_end_at cd_end_at ct_end_at), a_turns_at, (PySem.W.fnOf "turns_at" "turns_at" (defArgs s_turns_at) (defBody s_turns_at) (defScope s_turns_at) .none kV_turns_at dc_turns_at pm_turns_at an_turns_at cd_turns_at ct_turns_at), a_area_at, (PySem.W.fnOf "area_at" "area_at" (defArgs s_area_at) (defBody s_area_at) (defScope s_area_at) .none kV_area_at dc_area_at pm_area_at an_area_at cd_area_at ct_area_at), a__law_taken, (PySem.W.fnOf "_law_taken" "_law_taken" (defArgs s__law_taken) (defBody s__law_taken) (defScope s__law_taken) .none kV__law_taken dc__law_taken pm__law_taken an__law_taken cd__law_taken ct__law_taken), a__law_pick, (PySem.W.fnOf "_law_pick" "_law_pick" (defArgs s__law_pick) (defBody s__law_pick) (defScope s__law_pick) .none kV__law_pick dc__law_pick pm__law_pick an__law_pick cd__law_pick ct__law_pick), a__law_branched, (PySem.W.fnOf "_law_branched" "_law_branched" (defArgs s__law_branched) (defBody s__law_branched) (defScope s__law_branched) .none kV__law_branched dc__law_branched pm__law_branched an__law_branched cd__law_branched ct__law_branched), a__law_word, (PySem.W.fnOf "_law_word" "_law_word" (defArgs s__law_word) (defBody s__law_word) (defScope s__law_word) .none kV__law_word dc__law_word pm__law_word an__law_word cd__law_word ct__law_word), a__law_book, (PySem.W.fnOf "_law_book" "_law_book" (defArgs s__law_book) (defBody s__law_book) (defScope s__law_book) .none kV__law_book dc__law_book pm__law_book an__law_book cd__law_book ct__law_book), a__law_kit, (PySem.W.fnOf "_law_kit" "_law_kit" (defArgs s__law_kit) (defBody s__law_kit) (defScope s__law_kit) .none kV__law_kit dc__law_kit pm__law_kit an__law_kit cd__law_kit ct__law_kit), a__law_even_word, (PySem.W.fnOf "_law_even_word" "_law_even_word" (defArgs s__law_even_word) (defBody s__law_even_word) (defScope s__law_even_word) .none kV__law_even_word dc__law_even_word pm__law_even_word an__law_even_word cd__law_even_word ct__law_even_word), a__law_even_book, (PySem.W.fnOf "_law_even_book" "_law_even_book" (defArgs s__law_even_book) (defBody s__law_even_book) (defScope s__law_even_book) .none kV__law_even_book dc__law_even_book pm__law_even_book an__law_even_book cd__law_even_book ct__law_even_book), a__law_grown, (PySem.W.fnOf "_law_grown" "_law_grown" (defArgs s__law_grown) (defBody s__law_grown) (defScope s__law_grown) .none kV__law_grown dc__law_grown pm__law_grown an__law_grown cd__law_grown ct__law_grown), a__law_age, (PySem.W.fnOf "_law_age" "_law_age" (defArgs s__law_age) (defBody s__law_age) (defScope s__law_age) .none kV__law_age dc__law_age pm__law_age an__law_age cd__law_age ct__law_age), a__law_unit, (PySem.W.fnOf "_law_unit" "_law_unit" (defArgs s__law_unit) (defBody s__law_unit) (defScope s__law_unit) .none kV__law_unit dc__law_unit pm__law_unit an__law_unit cd__law_unit ct__law_unit), a__law_drawn, (PySem.W.fnOf "_law_drawn" "_law_drawn" (defArgs s__law_drawn) (defBody s__law_drawn) (defScope s__law_drawn) .none kV__law_drawn dc__law_drawn pm__law_drawn an__law_drawn cd__law_drawn ct__law_drawn), a__law_main, (PySem.W.fnOf "_law_main" "_law_main" (defArgs s__law_main) (defBody s__law_main) (defScope s__law_main) .none kV__law_main dc__law_main pm__law_main an__law_main cd__law_main ct__law_main), a__law_alike, (PySem.W.fnOf "_law_alike" "_law_alike" (defArgs s__law_alike) (defBody s__law_alike) (defScope s__law_alike) .none kV__law_alike dc__law_alike pm__law_alike an__law_alike cd__law_alike ct__law_alike), a__law_all, (PySem.W.fnOf "_law_all" "_law_all" (defArgs s__law_all) (defBody s__law_all) (defScope s__law_all) .none kV__law_all dc__law_all pm__law_all an__law_all cd__law_all ct__law_all), a__law_quarter, (PySem.W.fnOf "_law_quarter" "_law_quarter" (defArgs s__law_quarter) (defBody s__law_quarter) (defScope s__law_quarter) .none kV__law_quarter dc__law_quarter pm__law_quarter an__law_quarter cd__law_quarter ct__law_quarter), a_law, (PySem.W.fnOf "law" "law" (defArgs s_law) (defBody s_law) (defScope s_law) .none kV_law dc_law pm_law an_law cd_law ct_law), a_Sum, a_Ages, hd, h0, h1, h2, h3⟩ := by
  exact ⟨fun_mk (st := s_is_in) l_is_in c_is_in k_is_in,
    PySem.W.mg_of X G q_is_in,
    fun_mk (st := s_is_letter) l_is_letter c_is_letter k_is_letter,
    PySem.W.mg_of X G q_is_letter,
    fun_mk (st := s_are_branches) l_are_branches c_are_branches k_are_branches,
    PySem.W.mg_of X G q_are_branches,
    fun_mk (st := s_is_word) l_is_word c_is_word k_is_word,
    PySem.W.mg_of X G q_is_word,
    fun_mk (st := s_need_book) l_need_book c_need_book k_need_book,
    PySem.W.mg_of X G q_need_book,
    fun_mk (st := s_need_number) l_need_number c_need_number k_need_number,
    PySem.W.mg_of X G q_need_number,
    fun_mk (st := s_quarters) l_quarters c_quarters k_quarters,
    PySem.W.mg_of X G q_quarters,
    fun_mk (st := s_turned) l_turned c_turned k_turned,
    PySem.W.mg_of X G q_turned,
    fun_mk (st := s_plus) l_plus c_plus k_plus,
    PySem.W.mg_of X G q_plus,
    fun_mk (st := s_Sum_init) l_Sum_init c_Sum_init k_Sum_init,
    fun_mk (st := s_Sum_then) l_Sum_then c_Sum_then k_Sum_then,
    ⟨q_Sum_then, i_Sum_then, k_Sum_then⟩,
    fun_mk (st := s_Sum_turning) l_Sum_turning c_Sum_turning k_Sum_turning,
    ⟨q_Sum_turning, i_Sum_turning, k_Sum_turning⟩,
    fun_mk (st := s_Sum_back_at) l_Sum_back_at c_Sum_back_at k_Sum_back_at,
    ⟨q_Sum_back_at, i_Sum_back_at, k_Sum_back_at⟩,
    fun_mk (st := s_nothing) l_nothing c_nothing k_nothing,
    PySem.W.mg_of X G q_nothing,
    fun_mk (st := s_joined) l_joined c_joined k_joined,
    PySem.W.mg_of X G q_joined,
    fun_mk (st := s_Ages_init) l_Ages_init c_Ages_init k_Ages_init,
    fun_mk (st := s_Ages_whole) l_Ages_whole c_Ages_whole k_Ages_whole,
    ⟨q_Ages_whole, i_Ages_whole, k_Ages_whole⟩,
    fun_mk (st := s_need_age) l_need_age c_need_age k_need_age,
    PySem.W.mg_of X G q_need_age,
    fun_mk (st := s_strokes_in) l_strokes_in c_strokes_in k_strokes_in,
    PySem.W.mg_of X G q_strokes_in,
    fun_mk (st := s_end_at) l_end_at c_end_at k_end_at,
    PySem.W.mg_of X G q_end_at,
    fun_mk (st := s_turns_at) l_turns_at c_turns_at k_turns_at,
    PySem.W.mg_of X G q_turns_at,
    fun_mk (st := s_area_at) l_area_at c_area_at k_area_at,
    PySem.W.mg_of X G q_area_at,
    fun_mk (st := s__law_taken) l__law_taken c__law_taken k__law_taken,
    PySem.W.mg_of X G q__law_taken,
    fun_mk (st := s__law_pick) l__law_pick c__law_pick k__law_pick,
    PySem.W.mg_of X G q__law_pick,
    fun_mk (st := s__law_branched) l__law_branched c__law_branched k__law_branched,
    PySem.W.mg_of X G q__law_branched,
    fun_mk (st := s__law_word) l__law_word c__law_word k__law_word,
    PySem.W.mg_of X G q__law_word,
    fun_mk (st := s__law_book) l__law_book c__law_book k__law_book,
    PySem.W.mg_of X G q__law_book,
    fun_mk (st := s__law_kit) l__law_kit c__law_kit k__law_kit,
    PySem.W.mg_of X G q__law_kit,
    fun_mk (st := s__law_even_word) l__law_even_word c__law_even_word k__law_even_word,
    PySem.W.mg_of X G q__law_even_word,
    fun_mk (st := s__law_even_book) l__law_even_book c__law_even_book k__law_even_book,
    PySem.W.mg_of X G q__law_even_book,
    fun_mk (st := s__law_grown) l__law_grown c__law_grown k__law_grown,
    PySem.W.mg_of X G q__law_grown,
    fun_mk (st := s__law_age) l__law_age c__law_age k__law_age,
    PySem.W.mg_of X G q__law_age,
    fun_mk (st := s__law_unit) l__law_unit c__law_unit k__law_unit,
    PySem.W.mg_of X G q__law_unit,
    fun_mk (st := s__law_drawn) l__law_drawn c__law_drawn k__law_drawn,
    PySem.W.mg_of X G q__law_drawn,
    fun_mk (st := s__law_main) l__law_main c__law_main k__law_main,
    PySem.W.mg_of X G q__law_main,
    fun_mk (st := s__law_alike) l__law_alike c__law_alike k__law_alike,
    PySem.W.mg_of X G q__law_alike,
    fun_mk (st := s__law_all) l__law_all c__law_all k__law_all,
    PySem.W.mg_of X G q__law_all,
    fun_mk (st := s__law_quarter) l__law_quarter c__law_quarter k__law_quarter,
    PySem.W.mg_of X G q__law_quarter,
    fun_mk (st := s_law) l_law c_law k_law,
    PySem.W.mg_of X G q_law,
    ⟨pg_Sum, hd_Sum, po_Sum, sa_Sum⟩,
    ⟨mk_Sum, q_Sum_init, i_Sum_init, kc_Sum⟩,
    PySem.W.mg_of X G q_Sum,
    n_Sum_many,
    n_Sum_end,
    n_Sum_turns,
    n_Sum_ways,
    n_Sum_area,
    ⟨pg_Ages, hd_Ages, po_Ages, sa_Ages⟩,
    ⟨mk_Ages, q_Ages_init, i_Ages_init, kc_Ages⟩,
    PySem.W.mg_of X G q_Ages,
    n_Ages_book,
    n_Ages_rows,
    PySem.W.mg_none_of X G z_len,
    PySem.W.mg_none_of X G z_isinstance,
    PySem.W.mg_none_of X G z_int,
    PySem.W.mg_none_of X G z_bool,
    PySem.W.mg_none_of X G z_str,
    PySem.W.mg_none_of X G z_tuple,
    PySem.W.mg_none_of X G z_list,
    PySem.W.mg_none_of X G z_abs,
    PySem.W.mg_none_of X G z_range,
    PySem.W.mg_none_of X G z_enumerate,
    ⟨_, PySem.W.mg_of X G g_MOST_LETTERS⟩,
    ⟨_, PySem.W.mg_of X G g_MOST_WORD⟩,
    ⟨_, PySem.W.mg_of X G g_MOST_AGE⟩,
    ⟨_, PySem.W.mg_of X G g_LEFT⟩,
    ⟨_, PySem.W.mg_of X G g_RIGHT⟩,
    ⟨_, PySem.W.mg_of X G g_OUT⟩,
    ⟨_, PySem.W.mg_of X G g_BACK⟩,
    PySem.W.mg_of X G g_HEADINGS,
    ⟨_, _, _, g_hd, rfl, rfl, (by show 4 ≤ sizeLine; decide), .cons rfl (.cons rfl (.cons rfl (.cons rfl .nil)))⟩,
    ⟨_, _, _, g_h0, rfl, rfl, (by show 2 ≤ sizeLine; decide), .cons ⟨_, rfl⟩ (.cons ⟨_, rfl⟩ .nil)⟩⟩
theorem scr_of {K : PySem.W.Frag} {H : Hp} {a : Addr} {xs : List V} (hO : Only H) (h : SqL K H a xs) : Scr K H a xs := by
  rcases h with (h | h) | h
  · rcases hO a with e | ⟨o, ys, e⟩
    · rw [e] at h; cases h
    · rw [e] at h; cases h
  · exact .inl h
  · exact .inr h
theorem all_mk {l : PySem.W.OpenLaw} {w : World} {K : PySem.W.Frag} {h : Heap} {mg : Str → Option Value} {fa : Addr} {A : Adr} (X : K.In h) (G : h.Ns mainGlobals mg) (hfa : mg "law" = some (.ref fa)) (T : Txt K mg A) :
    ∃ fd : FuncData, (∀ (s : Shared) (v : Value), BindsTo s fd ⟨[v], []⟩ [("_law_script", v)]) ∧ ∀ base : Heap, K.In base → base.Ns mainGlobals mg → FnOk l.prog w K mg base CX0 10 fa fd ["_law_script"] (spLaw K) := by
  have e := hfa.symm.trans T.m_law
  cases e
  refine ⟨A.d_law, fun s v => ?_, fun base _ _ => ok_law T⟩
  obtain ⟨oc, od, kV, doc, pm, an, cdv, ct, osl, hd, lk, hcd⟩ := T.F_law.ex
  rw [hd]
  exact .of_eq rfl
theorem walk {l : PySem.W.OpenLaw} {q : Program} {loose : List Str} {XP : (Str → Option Value) → Heap → Prop} {YP : World → Heap → Prop} {d : DefRec} {K : Params → PySem.W.Frag} (hn : l.most = some 63) (hdf : d.params.defaults = [])
    (hY : ∀ (w : World) (h : Heap), YP w h → (K w.params).In h)
    (F : ∀ (w : World) (mg : Str → Option Value) (fa : Addr) (h : Heap), (K w.params).In h → h.Ns mainGlobals mg → mg d.name = some (.ref fa) →
      ∃ fd : FuncData, (∀ (s : Shared) (u : Value), BindsTo s fd ⟨[u], []⟩ [("_law_script", u)]) ∧ ∀ base : Heap, (K w.params).In base → base.Ns mainGlobals mg → FnOk l.prog w (K w.params) mg base CX0 10 fa fd ["_law_script"] (spLaw (K w.params))) :
    PySem.W.WalkO q loose XP YP l.row.toRowW d [] (fun f vs => PySem.call f vs) :=
  L2.walk_of (n := 63) (k := 10) (x := "_law_script") (CX := fun _ => CX0) (sp := fun w => spLaw (K w.params)) hn (by decide) hdf ⟨rfl, by decide, by decide⟩ hY F (fun _ _ a ns hl hO hS => ⟨a, ns, rfl, scr_of hO hS, fun _ => rfl⟩) fun _ _ _ _ _ z => z
end My
open PySem PySem.W PyProof.Rows in
set_option maxRecDepth 100000 in
set_option maxHeartbeats 0 in
theorem PySem.Challenge.cw_strokeonce_k02_whole_sums_holds : PySem.Challenge.rw_strokeonce_k02_whole_sums.Holds := by
  w_on; o_law; k_head; (case hw => w_witness2)
  k_fill
  refine My.walk (l := PySem.Challenge.rw_strokeonce_k02_whole_sums) rfl rfl (fun w h Y => PySem.W.kIn_of Y) ?F
  case F =>
    intro w mg fa h KX G hmg
    refine' My.all_mk KX G hmg (My.txt_mk KX G ?q_Sum ?q_Ages ?q_is_in ?l_is_in ?c_is_in ?k_is_in ?q_is_letter ?l_is_letter ?c_is_letter ?k_is_letter ?q_are_branches ?l_are_branches ?c_are_branches ?k_are_branches ?q_is_word ?l_is_word ?c_is_word ?k_is_word ?q_need_book ?l_need_book ?c_need_book ?k_need_book ?q_need_number ?l_need_number ?c_need_number ?k_need_number ?q_quarters ?l_quarters ?c_quarters ?k_quarters ?q_turned ?l_turned ?c_turned ?k_turned ?q_plus ?l_plus ?c_plus ?k_plus ?q_Sum_init ?i_Sum_init ?l_Sum_init ?c_Sum_init ?k_Sum_init ?q_Sum_then ?i_Sum_then ?l_Sum_then ?c_Sum_then ?k_Sum_then ?q_Sum_turning ?i_Sum_turning ?l_Sum_turning ?c_Sum_turning ?k_Sum_turning ?q_Sum_back_at ?i_Sum_back_at ?l_Sum_back_at ?c_Sum_back_at ?k_Sum_back_at ?q_nothing ?l_nothing ?c_nothing ?k_nothing ?q_joined ?l_joined ?c_joined ?k_joined ?q_Ages_init ?i_Ages_init ?l_Ages_init ?c_Ages_init ?k_Ages_init ?q_Ages_whole ?i_Ages_whole ?l_Ages_whole ?c_Ages_whole ?k_Ages_whole ?q_need_age ?l_need_age ?c_need_age ?k_need_age ?q_strokes_in ?l_strokes_in ?c_strokes_in ?k_strokes_in ?q_end_at ?l_end_at ?c_end_at ?k_end_at ?q_turns_at ?l_turns_at ?c_turns_at ?k_turns_at ?q_area_at ?l_area_at ?c_area_at ?k_area_at ?q__law_taken ?l__law_taken ?c__law_taken ?k__law_taken ?q__law_pick ?l__law_pick ?c__law_pick ?k__law_pick ?q__law_branched ?l__law_branched ?c__law_branched ?k__law_branched ?q__law_word ?l__law_word ?c__law_word ?k__law_word ?q__law_book ?l__law_book ?c__law_book ?k__law_book ?q__law_kit ?l__law_kit ?c__law_kit ?k__law_kit ?q__law_even_word ?l__law_even_word ?c__law_even_word ?k__law_even_word ?q__law_even_book ?l__law_even_book ?c__law_even_book ?k__law_even_book ?q__law_grown ?l__law_grown ?c__law_grown ?k__law_grown ?q__law_age ?l__law_age ?c__law_age ?k__law_age ?q__law_unit ?l__law_unit ?c__law_unit ?k__law_unit ?q__law_drawn ?l__law_drawn ?c__law_drawn ?k__law_drawn ?q__law_main ?l__law_main ?c__law_main ?k__law_main ?q__law_alike ?l__law_alike ?c__law_alike ?k__law_alike ?q__law_all ?l__law_all ?c__law_all ?k__law_all ?q__law_quarter ?l__law_quarter ?c__law_quarter ?k__law_quarter ?q_law ?l_law ?c_law ?k_law ?pg_Sum ?hd_Sum ?po_Sum ?sa_Sum ?mk_Sum ?kc_Sum ?n_Sum_many ?n_Sum_end ?n_Sum_turns ?n_Sum_ways ?n_Sum_area ?pg_Ages ?hd_Ages ?po_Ages ?sa_Ages ?mk_Ages ?kc_Ages ?n_Ages_book ?n_Ages_rows ?z_len ?z_isinstance ?z_int ?z_bool ?z_str ?z_tuple ?z_list ?z_abs ?z_range ?z_enumerate ?g_MOST_LETTERS ?g_MOST_WORD ?g_MOST_AGE ?g_LEFT ?g_RIGHT ?g_OUT ?g_BACK ?g_HEADINGS ?g_hd ?g_h0)
    (case q_Sum => k_is)
    (case q_Ages => k_is)
    (case q_is_in => k_is)
    (case l_is_in => k_is)
    (case c_is_in => k_is)
    (case k_is_in => k_is)
    (case q_is_letter => k_is)
    (case l_is_letter => k_is)
    (case c_is_letter => k_is)
    (case k_is_letter => k_is)
    (case q_are_branches => k_is)
    (case l_are_branches => k_is)
    (case c_are_branches => k_is)
    (case k_are_branches => k_is)
    (case q_is_word => k_is)
    (case l_is_word => k_is)
    (case c_is_word => k_is)
    (case k_is_word => k_is)
    (case q_need_book => k_is)
    (case l_need_book => k_is)
    (case c_need_book => k_is)
    (case k_need_book => k_is)
    (case q_need_number => k_is)
    (case l_need_number => k_is)
    (case c_need_number => k_is)
    (case k_need_number => k_is)
    (case q_quarters => k_is)
    (case l_quarters => k_is)
    (case c_quarters => k_is)
    (case k_quarters => k_is)
    (case q_turned => k_is)
    (case l_turned => k_is)
    (case c_turned => k_is)
    (case k_turned => k_is)
    (case q_plus => k_is)
    (case l_plus => k_is)
    (case c_plus => k_is)
    (case k_plus => k_is)
    (case q_Sum_init => k_is)
    (case i_Sum_init => k_is)
    (case l_Sum_init => k_is)
    (case c_Sum_init => k_is)
    (case k_Sum_init => k_is)
    (case q_Sum_then => k_is)
    (case i_Sum_then => k_is)
    (case l_Sum_then => k_is)
    (case c_Sum_then => k_is)
    (case k_Sum_then => k_is)
    (case q_Sum_turning => k_is)
    (case i_Sum_turning => k_is)
    (case l_Sum_turning => k_is)
    (case c_Sum_turning => k_is)
    (case k_Sum_turning => k_is)
    (case q_Sum_back_at => k_is)
    (case i_Sum_back_at => k_is)
    (case l_Sum_back_at => k_is)
    (case c_Sum_back_at => k_is)
    (case k_Sum_back_at => k_is)
    (case q_nothing => k_is)
    (case l_nothing => k_is)
    (case c_nothing => k_is)
    (case k_nothing => k_is)
    (case q_joined => k_is)
    (case l_joined => k_is)
    (case c_joined => k_is)
    (case k_joined => k_is)
    (case q_Ages_init => k_is)
    (case i_Ages_init => k_is)
    (case l_Ages_init => k_is)
    (case c_Ages_init => k_is)
    (case k_Ages_init => k_is)
    (case q_Ages_whole => k_is)
    (case i_Ages_whole => k_is)
    (case l_Ages_whole => k_is)
    (case c_Ages_whole => k_is)
    (case k_Ages_whole => k_is)
    (case q_need_age => k_is)
    (case l_need_age => k_is)
    (case c_need_age => k_is)
    (case k_need_age => k_is)
    (case q_strokes_in => k_is)
    (case l_strokes_in => k_is)
    (case c_strokes_in => k_is)
    (case k_strokes_in => k_is)
    (case q_end_at => k_is)
    (case l_end_at => k_is)
    (case c_end_at => k_is)
    (case k_end_at => k_is)
    (case q_turns_at => k_is)
    (case l_turns_at => k_is)
    (case c_turns_at => k_is)
    (case k_turns_at => k_is)
    (case q_area_at => k_is)
    (case l_area_at => k_is)
    (case c_area_at => k_is)
    (case k_area_at => k_is)
    (case q__law_taken => k_is)
    (case l__law_taken => k_is)
    (case c__law_taken => k_is)
    (case k__law_taken => k_is)
    (case q__law_pick => k_is)
    (case l__law_pick => k_is)
    (case c__law_pick => k_is)
    (case k__law_pick => k_is)
    (case q__law_branched => k_is)
    (case l__law_branched => k_is)
    (case c__law_branched => k_is)
    (case k__law_branched => k_is)
    (case q__law_word => k_is)
    (case l__law_word => k_is)
    (case c__law_word => k_is)
    (case k__law_word => k_is)
    (case q__law_book => k_is)
    (case l__law_book => k_is)
    (case c__law_book => k_is)
    (case k__law_book => k_is)
    (case q__law_kit => k_is)
    (case l__law_kit => k_is)
    (case c__law_kit => k_is)
    (case k__law_kit => k_is)
    (case q__law_even_word => k_is)
    (case l__law_even_word => k_is)
    (case c__law_even_word => k_is)
    (case k__law_even_word => k_is)
    (case q__law_even_book => k_is)
    (case l__law_even_book => k_is)
    (case c__law_even_book => k_is)
    (case k__law_even_book => k_is)
    (case q__law_grown => k_is)
    (case l__law_grown => k_is)
    (case c__law_grown => k_is)
    (case k__law_grown => k_is)
    (case q__law_age => k_is)
    (case l__law_age => k_is)
    (case c__law_age => k_is)
    (case k__law_age => k_is)
    (case q__law_unit => k_is)
    (case l__law_unit => k_is)
    (case c__law_unit => k_is)
    (case k__law_unit => k_is)
    (case q__law_drawn => k_is)
    (case l__law_drawn => k_is)
    (case c__law_drawn => k_is)
    (case k__law_drawn => k_is)
    (case q__law_main => k_is)
    (case l__law_main => k_is)
    (case c__law_main => k_is)
    (case k__law_main => k_is)
    (case q__law_alike => k_is)
    (case l__law_alike => k_is)
    (case c__law_alike => k_is)
    (case k__law_alike => k_is)
    (case q__law_all => k_is)
    (case l__law_all => k_is)
    (case c__law_all => k_is)
    (case k__law_all => k_is)
    (case q__law_quarter => k_is)
    (case l__law_quarter => k_is)
    (case c__law_quarter => k_is)
    (case k__law_quarter => k_is)
    (case q_law => k_is)
    (case l_law => k_is)
    (case c_law => k_is)
    (case k_law => k_is)
    (case pg_Sum => k_is)
    (case hd_Sum => k_is)
    (case po_Sum => k_is)
    (case sa_Sum => k_is)
    (case mk_Sum => k_is)
    (case kc_Sum => k_is)
    (case n_Sum_many => k_is)
    (case n_Sum_end => k_is)
    (case n_Sum_turns => k_is)
    (case n_Sum_ways => k_is)
    (case n_Sum_area => k_is)
    (case pg_Ages => k_is)
    (case hd_Ages => k_is)
    (case po_Ages => k_is)
    (case sa_Ages => k_is)
    (case mk_Ages => k_is)
    (case kc_Ages => k_is)
    (case n_Ages_book => k_is)
    (case n_Ages_rows => k_is)
    (case z_len => k_is)
    (case z_isinstance => k_is)
    (case z_int => k_is)
    (case z_bool => k_is)
    (case z_str => k_is)
    (case z_tuple => k_is)
    (case z_list => k_is)
    (case z_abs => k_is)
    (case z_range => k_is)
    (case z_enumerate => k_is)
    (case g_MOST_LETTERS => k_is)
    (case g_MOST_WORD => k_is)
    (case g_MOST_AGE => k_is)
    (case g_LEFT => k_is)
    (case g_RIGHT => k_is)
    (case g_OUT => k_is)
    (case g_BACK => k_is)
    (case g_HEADINGS => k_is)
    (case g_hd => k_is)
    (case g_h0 => k_is)
