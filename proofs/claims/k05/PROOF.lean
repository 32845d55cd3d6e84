import PyProof.Rows.All
import Wide.All
import OpenK.AllK
import Wide.FinOn
import HandS.ForMost
import HandS.Walk
import HandS.Zip
import HandS.TupAny
import HandS.Style
import HandS.Wide
import HandS.IsInst
import HandS.EndBits
import HandS.Star
import HandS.Codes
import PySem.Challenge.RW_coilnets_k05_whole_roots_on_the_left
set_option Elab.async false
set_option linter.all false
set_option maxRecDepth 100000
set_option maxHeartbeats 4000000
namespace K5
/-! ### determinants by Laplace -/
def lap : (List Nat → Int) → (Nat → Int) → List Nat → Int
  | _, _, [] => 0
  | f, x, c :: cs => x c * f cs - lap (fun l => f (c :: l)) x cs
theorem lap_add (x y : Nat → Int) (a b : Int) : ∀ (cs : List Nat) (f : List Nat → Int), lap f (fun j => a * x j + b * y j) cs = a * lap f x cs + b * lap f y cs
  | [], f => by simp [lap]
  | c :: cs, f => by
    simp only [lap]
    rw [lap_add x y a b cs]
    grind
theorem lap_lin (x : Nat → Int) (a b : Int) : ∀ (cs : List Nat) (f g : List Nat → Int), lap (fun l => a * f l + b * g l) x cs = a * lap f x cs + b * lap g x cs
  | [], f, g => by simp [lap]
  | c :: cs, f, g => by
    simp only [lap]
    rw [lap_lin x a b cs (fun l => f (c :: l)) (fun l => g (c :: l))]
    grind
theorem lap_smul (x : Nat → Int) (a : Int) (cs : List Nat) (f : List Nat → Int) : lap (fun l => a * f l) x cs = a * lap f x cs := by
  have h := lap_lin x a 0 cs f f
  simp only [Int.zero_mul, Int.add_zero] at h
  exact h
theorem lap_f0 (x : Nat → Int) : ∀ (cs : List Nat), lap (fun _ => 0) x cs = 0
  | [] => rfl
  | c :: cs => by
    simp only [lap]
    rw [lap_f0 x cs]
    simp
theorem lap_van (x : Nat → Int) : ∀ (cs : List Nat) (f : List Nat → Int), (∀ c ∈ cs, x c = 0) → lap f x cs = 0
  | [], f, _ => rfl
  | c :: cs, f, h => by
    simp only [lap]
    rw [lap_van x cs _ (fun d hd => h d (List.mem_cons_of_mem _ hd)), h c List.mem_cons_self]
    simp
theorem lap_swap (x y : Nat → Int) : ∀ (cs : List Nat) (f : List Nat → Int), lap (lap f y) x cs = - lap (lap f x) y cs
  | [], f => by simp [lap]
  | c :: cs, f => by
    have e : ∀ (x y : Nat → Int), lap (lap f y) x (c :: cs) = x c * lap f y cs - (y c * lap f x cs - lap (lap (fun l => f (c :: l)) y) x cs) := by
      intro x y
      have h : (fun l => lap f y (c :: l)) = fun l => y c * f l + (-1) * lap (fun l => f (c :: l)) y l := by
        funext l
        simp only [lap]
        grind
      show x c * lap f y cs - lap (fun l => lap f y (c :: l)) x cs = _
      rw [h, lap_lin]
      grind
    rw [e x y, e y x, lap_swap x y cs (fun l => f (c :: l))]
    grind
def det : List (Nat → Int) → List Nat → Int
  | [], cs => if cs = [] then 1 else 0
  | x :: R, cs => lap (det R) x cs
theorem det_swap (x y : Nat → Int) (R : List (Nat → Int)) (cs : List Nat) : det (x :: y :: R) cs = - det (y :: x :: R) cs := by
  show lap (det (y :: R)) x cs = - lap (det (x :: R)) y cs
  exact lap_swap x y cs (det R)
theorem det_mem : ∀ (R : List (Nat → Int)) (r : Nat → Int) (cs : List Nat), r ∈ R → det (r :: R) cs = 0
  | [], r, cs, h => by cases h
  | s :: R, r, cs, h => by
    rcases List.mem_cons.mp h with e | e
    · subst e
      have := det_swap r r R cs
      omega
    · rw [det_swap]
      show - lap (det (r :: R)) s cs = 0
      have h0 : det (r :: R) = fun _ => 0 := by
        funext l
        exact det_mem R r l e
      rw [h0, lap_f0]
      rfl
theorem det_add (x y : Nat → Int) (a b : Int) (R : List (Nat → Int)) (cs : List Nat) : det ((fun j => a * x j + b * y j) :: R) cs = a * det (x :: R) cs + b * det (y :: R) cs := lap_add x y a b cs (det R)
theorem det_van1 {x : Nat → Int} {R : List (Nat → Int)} {C : List Nat} (h : ∀ c ∈ C, x c = 0) (j : Nat) : det (x :: R) (j :: C) = x j * det R C := by
  show x j * det R C - lap (fun l => det R (j :: l)) x C = _
  rw [lap_van x C _ h]
  simp
theorem det_van2 {x y : Nat → Int} {R : List (Nat → Int)} {C : List Nat} (hx : ∀ c ∈ C, x c = 0) (hy : ∀ c ∈ C, y c = 0) (v u : Nat) :
    det (y :: x :: R) (v :: u :: C) = (y v * x u - y u * x v) * det R C := by
  show y v * det (x :: R) (u :: C) - (y u * det (x :: R) (v :: C) - lap (fun l => det (x :: R) (v :: u :: l)) y C) = _
  rw [lap_van y C _ hy, det_van1 hx, det_van1 hx]
  grind
/-- x may be brought to a row that vanishes on C by rows of R -/
def Red (R : List (Nat → Int)) (C : List Nat) (x : Nat → Int) : Prop := ∃ (m : Int) (x' : Nat → Int), m ≠ 0 ∧ (∀ c ∈ C, x' c = 0) ∧ ∀ cs, det (x' :: R) cs = m * det (x :: R) cs
theorem red_nil (x : Nat → Int) : Red [] [] x := ⟨1, x, by decide, fun _ h => (nomatch h), fun cs => (Int.one_mul _).symm⟩
theorem det_under {x x' : Nat → Int} {R : List (Nat → Int)} {m : Int} (h : ∀ cs, det (x' :: R) cs = m * det (x :: R) cs) (s : Nat → Int) (cs : List Nat) : det (x' :: s :: R) cs = m * det (x :: s :: R) cs := by
  rw [det_swap, det_swap x]
  show - lap (det (x' :: R)) s cs = m * - lap (det (x :: R)) s cs
  have e : det (x' :: R) = fun l => m * det (x :: R) l := funext h
  rw [e, lap_smul]
  grind
theorem red_step {R : List (Nat → Int)} {C : List Nat} {s : Nat → Int} {u : Nat} (h : ∀ x, Red R C x) (hd : det (s :: R) (u :: C) ≠ 0) (x : Nat → Int) : Red (s :: R) (u :: C) x := by
  obtain ⟨m, x', m0, hx, ex⟩ := h x
  obtain ⟨ms, s', ms0, hs, es⟩ := h s
  have su : s' u ≠ 0 := by
    intro z
    have e1 := es (u :: C)
    rw [det_van1 hs, z, Int.zero_mul] at e1
    rcases Int.mul_eq_zero.mp e1.symm with q | q
    · exact ms0 q
    · exact hd q
  refine ⟨s' u * m, fun j => s' u * x' j + (- x' u) * s' j, Int.mul_ne_zero su m0, fun c hc => ?_, fun cs => ?_⟩
  · rcases List.mem_cons.mp hc with e | e
    · subst e
      grind
    · simp only
      rw [hx c e, hs c e]
      simp
  · rw [det_add, det_under ex, det_under es, det_mem (s :: R) s cs List.mem_cons_self]
    grind
theorem sylvester {R : List (Nat → Int)} {C : List Nat} {x y : Nat → Int} {u v : Nat} (hx : Red R C x) (hy : Red R C y) :
    det (y :: x :: R) (v :: u :: C) * det R C = det (x :: R) (u :: C) * det (y :: R) (v :: C) - det (y :: R) (u :: C) * det (x :: R) (v :: C) := by
  obtain ⟨m, x', m0, vx, ex⟩ := hx
  obtain ⟨k, y', k0, vy, ey⟩ := hy
  have e1 := ex (u :: C)
  have e2 := ex (v :: C)
  have e3 := ey (u :: C)
  have e4 := ey (v :: C)
  rw [det_van1 vx] at e1 e2
  rw [det_van1 vy] at e3 e4
  have e5 : det (y' :: x' :: R) (v :: u :: C) = k * (m * det (y :: x :: R) (v :: u :: C)) := by
    rw [det_under ey, det_swap y x', det_under ex, det_swap x y]
    grind
  rw [det_van2 vx vy] at e5
  have km : k * m ≠ 0 := Int.mul_ne_zero k0 m0
  apply Int.eq_of_mul_eq_mul_left km
  grind
/-! ### the elimination of the law -/
def rowsK (A : Nat → Nat → Int) : Nat → List (Nat → Int)
  | 0 => []
  | k + 1 => A k :: rowsK A k
def colsK : Nat → List Nat
  | 0 => []
  | k + 1 => k :: colsK k
def bstep (k : Nat) (M : Nat → Nat → Int) (d : Int) : Nat → Nat → Int := fun i j => if k < i ∧ k < j then (M i j * M k k - M i k * M k j) / d else M i j
def Mb (A : Nat → Nat → Int) : Nat → (Nat → Nat → Int) × Int
  | 0 => (A, 1)
  | k + 1 => (bstep k (Mb A k).1 (Mb A k).2, (Mb A k).1 k k)
def Dm (A : Nat → Nat → Int) (k : Nat) : Int := det (rowsK A k) (colsK k)
theorem red_all {A : Nat → Nat → Int} : ∀ k, (∀ l, l < k → Dm A (l + 1) ≠ 0) → ∀ x, Red (rowsK A k) (colsK k) x
  | 0, _, x => red_nil x
  | k + 1, h, x => red_step (red_all k fun l hl => h l (Nat.lt_succ_of_lt hl)) (h k (Nat.lt_succ_self k)) x
theorem bare (A : Nat → Nat → Int) : ∀ k, (∀ l, l < k → Dm A (l + 1) ≠ 0) → (Mb A k).2 = Dm A k ∧ ∀ i j, k ≤ i → k ≤ j → (Mb A k).1 i j = det (A i :: rowsK A k) (j :: colsK k)
  | 0, _ => ⟨rfl, fun i j _ _ => by simp [Mb, rowsK, colsK, det, lap]⟩
  | k + 1, h => by
    have h' : ∀ l, l < k → Dm A (l + 1) ≠ 0 := fun l hl => h l (Nat.lt_succ_of_lt hl)
    obtain ⟨e1, e2⟩ := bare A k h'
    refine ⟨e2 k k (Nat.le_refl k) (Nat.le_refl k), fun i j hi hj => ?_⟩
    show (if k < i ∧ k < j then ((Mb A k).1 i j * (Mb A k).1 k k - (Mb A k).1 i k * (Mb A k).1 k j) / (Mb A k).2 else _) = _
    rw [if_pos ⟨hi, hj⟩, e1, e2 i j (by omega) (by omega), e2 k k (by omega) (by omega), e2 i k (by omega) (by omega), e2 k j (by omega) (by omega)]
    have sy := sylvester (u := k) (v := j) (red_all k h' (A k)) (red_all k h' (A i))
    have D0 : Dm A k ≠ 0 := by
      cases k with
      | zero => simp [Dm, rowsK, colsK, det]
      | succ k => exact h k (by omega)
    have e3 : det (A i :: rowsK A k) (j :: colsK k) * det (A k :: rowsK A k) (k :: colsK k) - det (A i :: rowsK A k) (k :: colsK k) * det (A k :: rowsK A k) (j :: colsK k) = det (A i :: A k :: rowsK A k) (j :: k :: colsK k) * Dm A k := by
      show _ = _ * det (rowsK A k) (colsK k)
      rw [sy]
      grind
    rw [e3, Int.mul_ediv_cancel _ D0]
    rfl
/-- all pivots are positive exactly if all leading minors are -/
theorem pivots (A : Nat → Nat → Int) (n : Nat) : (∀ k, k < n → 0 < (Mb A k).1 k k) ↔ ∀ k, k < n → 0 < Dm A (k + 1) := by
  constructor
  · intro h k
    induction k using Nat.strongRecOn with
    | _ k ih =>
      intro hk
      have e := (bare A k fun l hl => Int.ne_of_gt (ih l hl (by omega))).2 k k (by omega) (by omega)
      have := h k hk
      rw [e] at this
      exact this
  · intro h k hk
    have e := (bare A k fun l hl => Int.ne_of_gt (h l (by omega))).2 k k (by omega) (by omega)
    rw [e]
    exact h k hk
/-! ### the table of coefficients -/
def shr (r : Nat → Int) : Nat → Int
  | 0 => 0
  | j + 1 => r j
def hur (f s : Nat → Int) : Nat → Nat → Int
  | 0 => s
  | 1 => f
  | i + 2 => shr (hur f s i)
/-- the next row of Routh's table -/
def nxt (f s : Nat → Int) : Nat → Int := fun j => s 0 * f (j + 1) - f 0 * s (j + 1)
def RS : Nat → (Nat → Int) → (Nat → Int) → Prop
  | 0, f, _ => 0 < f 0
  | n + 1, f, s => 0 < f 0 ∧ 0 < s 0 ∧ RS n s (nxt f s)
theorem shr_lin (a b : Int) (x y : Nat → Int) : (fun j => a * shr x j + b * shr y j) = shr (fun j => a * x j + b * y j) := by
  funext j
  cases j <;> simp [shr]
theorem hur_even (f s : Nat → Int) : ∀ k, hur f s (2 * k + 2) = shr (hur s (nxt f s) (2 * k + 1))
  | 0 => rfl
  | k + 1 => by
    show shr (hur f s (2 * k + 2)) = shr (shr (hur s (nxt f s) (2 * k + 1)))
    rw [hur_even f s k]
theorem hur_odd (f s : Nat → Int) : ∀ k, (fun j => s 0 * hur f s (2 * k + 1) j + (- f 0) * hur f s (2 * k) j) = shr (hur s (nxt f s) (2 * k))
  | 0 => by
    funext j
    show s 0 * f j + (- f 0) * s j = shr (nxt f s) j
    cases j with
    | zero => simp [shr]; grind
    | succ j => simp [shr, nxt]; grind
  | k + 1 => by
    show (fun j => s 0 * shr (hur f s (2 * k + 1)) j + (- f 0) * shr (hur f s (2 * k)) j) = shr (shr (hur s (nxt f s) (2 * k)))
    rw [shr_lin, hur_odd f s k]
/-- rows shifted, above the row of the last -/
def shRows (g : Nat → Nat → Int) (r : Nat → Int) : Nat → List (Nat → Int)
  | 0 => [r]
  | k + 1 => shr (g k) :: shRows g r k
theorem mem_rowsK (A : Nat → Nat → Int) : ∀ k l, l < k → A l ∈ rowsK A k
  | k + 1, l, h => by
    rcases Nat.lt_succ_iff_lt_or_eq.mp h with q | q
    · exact List.mem_cons_of_mem _ (mem_rowsK A k l q)
    · subst q
      exact List.mem_cons_self
theorem rows_scaled (f s : Nat → Int) (hs : 0 < s 0) : ∀ k, ∃ c : Int, 0 < c ∧ ∀ cs, det (shRows (hur s (nxt f s)) s k) cs = c * det (rowsK (hur f s) (k + 1)) cs
  | 0 => ⟨1, by decide, fun cs => by simp [shRows, rowsK, hur]⟩
  | k + 1 => by
    obtain ⟨c, hc, e⟩ := rows_scaled f s hs k
    have e' : det (shRows (hur s (nxt f s)) s k) = fun l => c * det (rowsK (hur f s) (k + 1)) l := funext e
    have step : ∀ (x : Nat → Int) cs, det (x :: shRows (hur s (nxt f s)) s k) cs = c * det (x :: rowsK (hur f s) (k + 1)) cs := by
      intro x cs
      show lap (det (shRows (hur s (nxt f s)) s k)) x cs = c * lap (det (rowsK (hur f s) (k + 1))) x cs
      rw [e', lap_smul]
    rcases Nat.mod_two_eq_zero_or_one k with q | q
    · -- k even: the row k + 1 is odd
      obtain ⟨m, rfl⟩ : ∃ m, k = 2 * m := ⟨k / 2, by omega⟩
      refine ⟨c * s 0, Int.mul_pos hc hs, fun cs => ?_⟩
      show det (shr (hur s (nxt f s) (2 * m)) :: shRows (hur s (nxt f s)) s (2 * m)) cs = _
      rw [← hur_odd f s m, step, det_add, det_mem _ _ cs (mem_rowsK (hur f s) (2 * m + 1) (2 * m) (by omega))]
      show _ = c * s 0 * det (hur f s (2 * m + 1) :: rowsK (hur f s) (2 * m + 1)) cs
      grind
    · obtain ⟨m, rfl⟩ : ∃ m, k = 2 * m + 1 := ⟨k / 2, by omega⟩
      refine ⟨c, hc, fun cs => ?_⟩
      show det (shr (hur s (nxt f s) (2 * m + 1)) :: shRows (hur s (nxt f s)) s (2 * m + 1)) cs = _
      rw [← hur_even f s m, step]
      rfl
theorem lap_snoc0 {x : Nat → Int} (h : x 0 = 0) : ∀ (cs : List Nat) (f : List Nat → Int), lap f x (cs ++ [0]) = lap (fun l => f (l ++ [0])) x cs
  | [], f => by simp [lap, h]
  | c :: cs, f => by
    show x c * f (cs ++ [0]) - lap (fun l => f (c :: l)) x (cs ++ [0]) = _
    rw [lap_snoc0 h cs]
    rfl
theorem lap_map (x : Nat → Int) : ∀ (cs : List Nat) (f : List Nat → Int), lap f (shr x) (cs.map (· + 1)) = lap (fun l => f (l.map (· + 1))) x cs
  | [], f => by simp [lap]
  | c :: cs, f => by
    show x c * f (cs.map (· + 1)) - lap (fun l => f ((c + 1) :: l)) (shr x) (cs.map (· + 1)) = _
    rw [lap_map x cs]
    rfl
theorem lap_one (x : Nat → Int) (cs : List Nat) : lap (det []) x cs = match cs with | [c] => x c | _ => 0 := by
  match cs with
  | [] => rfl
  | [c] => simp [lap, det]
  | c :: d :: r =>
    have h : (fun l => det [] (c :: l)) = fun _ => 0 := by
      funext l
      simp [det]
    show x c * det [] (d :: r) - lap (fun l => det [] (c :: l)) x (d :: r) = 0
    rw [h, lap_f0]
    simp [det]
theorem det_shRows (g : Nat → Nat → Int) (r : Nat → Int) : ∀ k cs, det (shRows g r k) (cs.map (· + 1) ++ [0]) = r 0 * det (rowsK g k) cs
  | 0, cs => by
    show lap (det []) r (cs.map (· + 1) ++ [0]) = _
    rw [lap_one]
    match cs with
    | [] => simp [rowsK, det]
    | [c] => simp [rowsK, det]
    | c :: d :: cs => simp [rowsK, det]
  | k + 1, cs => by
    show lap (det (shRows g r k)) (shr (g k)) (cs.map (· + 1) ++ [0]) = r 0 * lap (det (rowsK g k)) (g k) cs
    rw [lap_snoc0 (by rfl), lap_map, ← lap_smul]
    congr 1
    funext l
    exact det_shRows g r k l
theorem cols_map : ∀ k, colsK (k + 1) = (colsK k).map (· + 1) ++ [0]
  | 0 => rfl
  | k + 1 => by
    show (k + 1) :: colsK (k + 1) = (k + 1) :: ((colsK k).map (· + 1) ++ [0])
    rw [cols_map k]
theorem minors_step (f s : Nat → Int) (hs : 0 < s 0) (k : Nat) : 0 < Dm (hur f s) (k + 1) ↔ 0 < Dm (hur s (nxt f s)) k := by
  obtain ⟨c, hc, e⟩ := rows_scaled f s hs k
  have e1 := e (colsK (k + 1))
  rw [cols_map k, det_shRows, ← cols_map k] at e1
  show 0 < det (rowsK (hur f s) (k + 1)) (colsK (k + 1)) ↔ 0 < det (rowsK (hur s (nxt f s)) k) (colsK k)
  constructor
  · intro h
    have : 0 < s 0 * det (rowsK (hur s (nxt f s)) k) (colsK k) := by
      rw [e1]
      exact Int.mul_pos hc h
    exact Int.pos_of_mul_pos_right this hs
  · intro h
    have : 0 < c * det (rowsK (hur f s) (k + 1)) (colsK (k + 1)) := by
      rw [← e1]
      exact Int.mul_pos hs h
    exact Int.pos_of_mul_pos_right this hc
theorem minors_RS : ∀ (n : Nat) (f s : Nat → Int), RS n f s ↔ (0 < f 0 ∧ ∀ k, k < n → 0 < Dm (hur f s) (k + 1))
  | 0, f, s => ⟨fun h => ⟨h, fun k hk => absurd hk (Nat.not_lt_zero k)⟩, fun h => h.1⟩
  | n + 1, f, s => by
    have d1 : Dm (hur f s) 1 = s 0 := by simp [Dm, rowsK, colsK, det, lap, hur]
    have ih := minors_RS n s (nxt f s)
    show (0 < f 0 ∧ 0 < s 0 ∧ RS n s (nxt f s)) ↔ _
    rw [ih]
    constructor
    · rintro ⟨hf, hs, _, h⟩
      refine ⟨hf, fun k hk => ?_⟩
      cases k with
      | zero =>
        rw [d1]
        exact hs
      | succ k => exact (minors_step f s hs (k + 1)).mpr (h k (by omega))
    · rintro ⟨hf, h⟩
      have hs : 0 < s 0 := by
        have := h 0 (by omega)
        rw [d1] at this
        exact this
      exact ⟨hf, hs, hs, fun k hk => (minors_step f s hs (k + 1)).mp (h (k + 1) (by omega))⟩
/-- the law's minors are positive exactly if Routh's table is -/
theorem bareiss_RS (n : Nat) (f s : Nat → Int) (hf : 0 < f 0) : (∀ k, k < n → 0 < (Mb (hur f s) k).1 k k) ↔ RS n f s := by
  rw [pivots, minors_RS]
  exact ⟨fun h => ⟨hf, h⟩, fun h => h.2⟩
end K5
namespace K5
/-! ### forms on sequences -/
abbrev Sq := Nat → Int
def S (u : Sq) : Sq := fun i => u (i + 1)
def e1 (k : Nat) : Sq := fun i => if i = k then 1 else 0
def Fe : Nat → (Nat → Int) → Sq → Int
  | 0, f, u => f 0 * u 0
  | 1, f, u => f 0 * u 1
  | n + 2, f, u => Fe n (fun j => f (j + 1)) u + f 0 * u (n + 2)
def Ge : Nat → (Nat → Int) → Sq → Int
  | 0, _, _ => 0
  | n + 1, s, u => Fe n s u
theorem Fe_u : ∀ (n : Nat) (f : Nat → Int) (a b : Int) (u v : Sq), Fe n f (fun i => a * u i + b * v i) = a * Fe n f u + b * Fe n f v
  | 0, f, a, b, u, v => by simp only [Fe]; grind
  | 1, f, a, b, u, v => by simp only [Fe]; grind
  | n + 2, f, a, b, u, v => by
    simp only [Fe]
    rw [Fe_u n]
    grind
theorem Fe_f : ∀ (n : Nat) (f g : Nat → Int) (a b : Int) (u : Sq), Fe n (fun j => a * f j + b * g j) u = a * Fe n f u + b * Fe n g u
  | 0, f, g, a, b, u => by simp only [Fe]; grind
  | 1, f, g, a, b, u => by simp only [Fe]; grind
  | n + 2, f, g, a, b, u => by
    simp only [Fe]
    rw [Fe_f n]
    grind
theorem Fe_dep : ∀ (n : Nat) (f : Nat → Int) (u v : Sq), (∀ i, i ≤ n → u i = v i) → Fe n f u = Fe n f v
  | 0, f, u, v, h => by simp only [Fe]; rw [h 0 (by omega)]
  | 1, f, u, v, h => by simp only [Fe]; rw [h 1 (by omega)]
  | n + 2, f, u, v, h => by
    simp only [Fe]
    rw [Fe_dep n _ u v fun i hi => h i (by omega), h (n + 2) (by omega)]
theorem Fe_zero (n : Nat) (f : Nat → Int) : Fe n f (fun _ => 0) = 0 := by
  have h := Fe_u n f 0 0 (fun _ => 0) (fun _ => 0)
  simpa using h
theorem Fe_far {n : Nat} (f : Nat → Int) {u : Sq} (h : ∀ i, i ≤ n → u i = 0) : Fe n f u = 0 := by
  rw [Fe_dep n f u (fun _ => 0) h, Fe_zero]
theorem Fe_top : ∀ (n : Nat) (f : Nat → Int) (u : Sq), (∀ i, i < n → u i = 0) → Fe n f u = f 0 * u n
  | 0, f, u, h => rfl
  | 1, f, u, h => rfl
  | n + 2, f, u, h => by
    simp only [Fe]
    rw [Fe_far _ fun i hi => h i (by omega)]
    simp
theorem Fe_shift : ∀ (n : Nat) (s : Nat → Int) (u : Sq), (∀ j, n < 2 * j → s j = 0) → Fe (n + 1) s u = Fe n s (S u)
  | 0, s, u, h => rfl
  | 1, s, u, h => by
    simp only [Fe, S]
    rw [h 1 (by omega)]
    simp
  | n + 2, s, u, h => by
    show Fe (n + 1) (fun j => s (j + 1)) u + s 0 * u (n + 3) = Fe n (fun j => s (j + 1)) (S u) + s 0 * u (n + 3)
    rw [Fe_shift n _ u fun j hj => h (j + 1) (by omega)]
theorem Fe_step {n : Nat} {f s : Nat → Int} (hs : ∀ j, n + 1 < 2 * j + 1 → s j = 0) (u : Sq) : s 0 * Fe (n + 1) f u = f 0 * Fe n s (S u) + Ge n (nxt f s) u := by
  cases n with
  | zero => simp only [Fe, Ge, S]; grind
  | succ m =>
    rw [← Fe_shift (m + 1) s u fun j hj => hs j (by omega)]
    show s 0 * (Fe m (fun j => f (j + 1)) u + f 0 * u (m + 2)) = f 0 * (Fe m (fun j => s (j + 1)) u + s 0 * u (m + 2)) + Fe m (nxt f s) u
    have h : nxt f s = fun j => s 0 * f (j + 1) + (- f 0) * s (j + 1) := by
      funext j
      simp only [nxt]
      grind
    rw [h, Fe_f m (fun j => f (j + 1)) (fun j => s (j + 1))]
    grind
structure Bil (n : Nat) (β : Sq → Sq → Int) : Prop where
  addl : ∀ (a b : Int) (u u' v : Sq), β (fun i => a * u i + b * u' i) v = a * β u v + b * β u' v
  addr : ∀ (a b : Int) (u v v' : Sq), β u (fun i => a * v i + b * v' i) = a * β u v + b * β u v'
  dep : ∀ (u u' v v' : Sq), (∀ i, i < n → u i = u' i) → (∀ i, i < n → v i = v' i) → β u v = β u' v'
theorem Bil.zl {n : Nat} {β : Sq → Sq → Int} (B : Bil n β) (v : Sq) : β (fun _ => 0) v = 0 := by
  have h := B.addl 0 0 (fun _ => 0) (fun _ => 0) v
  simpa using h
theorem Bil.zr {n : Nat} {β : Sq → Sq → Int} (B : Bil n β) (u : Sq) : β u (fun _ => 0) = 0 := by
  have h := B.addr 0 0 u (fun _ => 0) (fun _ => 0)
  simpa using h
theorem Bil.farl {n : Nat} {β : Sq → Sq → Int} (B : Bil n β) {u : Sq} (h : ∀ i, i < n → u i = 0) (v : Sq) : β u v = 0 := by
  rw [B.dep u (fun _ => 0) v v h fun _ _ => rfl, B.zl]
theorem Bil.farr {n : Nat} {β : Sq → Sq → Int} (B : Bil n β) {v : Sq} (h : ∀ i, i < n → v i = 0) (u : Sq) : β u v = 0 := by
  rw [B.dep u u v (fun _ => 0) (fun _ _ => rfl) h, B.zr]
structure Form (n : Nat) (f s : Nat → Int) (β : Sq → Sq → Int) : Prop extends Bil n β where
  eqn : ∀ u v, β (S u) v + β u (S v) = 2 * (Fe n f u * Ge n s v + Ge n s u * Fe n f v)
def PD (n : Nat) (β : Sq → Sq → Int) : Prop := ∀ v : Sq, (∃ i, i < n ∧ v i ≠ 0) → 0 < β v v
theorem S_e1 (k : Nat) : S (e1 (k + 1)) = e1 k := by
  funext i
  simp [S, e1]
def lower (n : Nat) (f s : Nat → Int) (β : Sq → Sq → Int) : Sq → Sq → Int := fun u v => s 0 * β u v - 2 * (f 0 * (Fe n s u * Fe n s v))
theorem Form.lower {n : Nat} {f s : Nat → Int} {β : Sq → Sq → Int} (B : Form (n + 1) f s β) (hs : ∀ j, n + 1 < 2 * j + 1 → s j = 0) : Form n s (nxt f s) (lower n f s β) := by
  have el : ∀ (a b : Int) (u u' v : Sq), K5.lower n f s β (fun i => a * u i + b * u' i) v = a * K5.lower n f s β u v + b * K5.lower n f s β u' v := by
    intro a b u u' v
    simp only [K5.lower]
    rw [B.addl, Fe_u]
    grind
  have er : ∀ (a b : Int) (u v v' : Sq), K5.lower n f s β u (fun i => a * v i + b * v' i) = a * K5.lower n f s β u v + b * K5.lower n f s β u v' := by
    intro a b u v v'
    simp only [K5.lower]
    rw [B.addr, Fe_u]
    grind
  have eq : ∀ u v, K5.lower n f s β (S u) v + K5.lower n f s β u (S v) = 2 * (Fe n s u * Ge n (nxt f s) v + Ge n (nxt f s) u * Fe n s v) := by
    intro u v
    have h := B.eqn u v
    have h1 := Fe_step (f := f) hs u
    have h2 := Fe_step (f := f) hs v
    have h3 : Ge (n + 1) s u = Fe n s u := rfl
    have h4 : Ge (n + 1) s v = Fe n s v := rfl
    rw [h3, h4] at h
    simp only [K5.lower]
    grind
  have d1 : ∀ (u u' v v' : Sq), (∀ i, i < n + 1 → u i = u' i) → (∀ i, i < n + 1 → v i = v' i) → K5.lower n f s β u v = K5.lower n f s β u' v' := by
    intro u u' v v' hu hv
    simp only [K5.lower]
    rw [B.dep u u' v v' hu hv, Fe_dep n s u u' fun i hi => hu i (by omega), Fe_dep n s v v' fun i hi => hv i (by omega)]
  have B1 : Bil (n + 1) (K5.lower n f s β) := ⟨el, er, d1⟩
  have far1 : ∀ i, i < n + 1 → e1 (n + 1) i = 0 := fun i hi => by
    simp only [e1]
    rw [if_neg (by omega)]
  have gz : Fe n s (e1 (n + 1)) = 0 := Fe_far s fun i hi => far1 i (by omega)
  have hz : Ge n (nxt f s) (e1 (n + 1)) = 0 := by
    cases n with
    | zero => rfl
    | succ m => exact Fe_far _ fun i hi => far1 i (by omega)
  have zl : ∀ v, K5.lower n f s β (e1 n) v = 0 := by
    intro v
    have h := eq (e1 (n + 1)) v
    rw [S_e1, gz, hz, B1.farl far1] at h
    grind
  have zr : ∀ u, K5.lower n f s β u (e1 n) = 0 := by
    intro u
    have h := eq u (e1 (n + 1))
    rw [S_e1, gz, hz, B1.farr far1] at h
    grind
  refine ⟨⟨el, er, fun u u' v v' hu hv => ?_⟩, eq⟩
  have cut : ∀ u v, K5.lower n f s β u v = K5.lower n f s β (fun i => 1 * u i + (- u n) * e1 n i) (fun i => 1 * v i + (- v n) * e1 n i) := by
    intro u v
    rw [el, er, er, zl, zr, zl]
    grind
  have hc : ∀ (u u' : Sq), (∀ i, i < n → u i = u' i) → ∀ i, i < n + 1 → 1 * u i + (- u n) * e1 n i = 1 * u' i + (- u' n) * e1 n i := by
    intro u u' h i hi
    by_cases q : i = n
    · subst q
      simp only [e1, if_pos rfl]
      grind
    · rw [h i (by omega)]
      simp only [e1, if_neg q]
      grind
  rw [cut u v, cut u' v']
  exact d1 _ _ _ _ (hc u u' hu) (hc v v' hv)
theorem sq_nonneg (x : Int) : 0 ≤ x * x := by
  rcases Int.le_total 0 x with h | h
  · exact Int.mul_nonneg h h
  · exact Int.mul_nonneg_of_nonpos_of_nonpos h h
theorem sq_pos {x : Int} (h : x ≠ 0) : 0 < x * x := by
  rcases Int.lt_or_gt_of_ne h with q | q
  · exact Int.mul_pos_of_neg_of_neg q q
  · exact Int.mul_pos q q
theorem RS_PD : ∀ (n : Nat) (f s : Nat → Int) (β : Sq → Sq → Int), (∀ j, n < 2 * j → f j = 0) → (∀ j, n < 2 * j + 1 → s j = 0) → 0 < f 0 → Form n f s β → (RS n f s ↔ PD n β)
  | 0, f, s, β, _, _, h0, _ => ⟨fun _ v ⟨i, hi, _⟩ => absurd hi (Nat.not_lt_zero i), fun _ => h0⟩
  | n + 1, f, s, β, hf, hs, h0, B => by
    have L := B.lower hs
    have hn : ∀ j, n < 2 * j + 1 → nxt f s j = 0 := fun j hj => by
      simp only [nxt]
      rw [hf (j + 1) (by omega), hs (j + 1) (by omega)]
      simp
    have ih := RS_PD n s (nxt f s) (lower n f s β) (fun j hj => hs j (by omega)) hn
    constructor
    · rintro ⟨_, h1, h2⟩ v ⟨i, hi, hv⟩
      have pd := (ih h1 L).mp h2
      have e : s 0 * β v v = lower n f s β v v + 2 * (f 0 * (Fe n s v * Fe n s v)) := by
        simp only [lower]
        grind
      have g0 := Int.mul_nonneg (Int.le_of_lt h0) (sq_nonneg (Fe n s v))
      have : 0 < s 0 * β v v := by
        by_cases q : ∃ i, i < n ∧ v i ≠ 0
        · have := pd v q
          omega
        · have vz : ∀ i, i < n → v i = 0 := fun i hi => Classical.byContradiction fun z => q ⟨i, hi, z⟩
          have vn : v n ≠ 0 := by
            have : i = n := by
              by_cases z : i < n
              · exact absurd (vz i z) hv
              · omega
            rw [← this]
            exact hv
          have gt := Fe_top n s v vz
          have : Fe n s v ≠ 0 := by
            rw [gt]
            exact Int.mul_ne_zero (by omega) vn
          have := Int.mul_pos h0 (sq_pos this)
          have l0 : lower n f s β v v = 0 := L.toBil.farl vz v
          omega
      exact Int.pos_of_mul_pos_right this h1
    · intro pd
      have far1 : ∀ i, i < n + 1 → e1 (n + 1) i = 0 := fun i hi => by
        simp only [e1]
        rw [if_neg (by omega)]
      have k1 : β (e1 n) (e1 n) = 2 * (f 0 * s 0) := by
        have h := B.eqn (e1 (n + 1)) (e1 n)
        have a1 : Fe (n + 1) f (e1 (n + 1)) = f 0 := by
          rw [Fe_top _ _ _ far1]
          simp [e1]
        have a2 : Ge (n + 1) s (e1 (n + 1)) = 0 := Fe_far s fun i hi => far1 i (by omega)
        have a3 : Ge (n + 1) s (e1 n) = s 0 := by
          show Fe n s (e1 n) = s 0
          rw [Fe_top]
          · simp [e1]
          · intro i hi
            simp only [e1]
            rw [if_neg (by omega)]
        rw [S_e1, B.toBil.farl far1, a1, a2, a3] at h
        grind
      have h1 : 0 < s 0 := by
        have := pd (e1 n) ⟨n, by omega, by simp [e1]⟩
        rw [k1] at this
        have : 0 < f 0 * s 0 := by omega
        exact Int.pos_of_mul_pos_right this h0
      refine ⟨h0, h1, (ih h1 L).mpr fun v ⟨i, hi, hv⟩ => ?_⟩
      have zl : ∀ v, lower n f s β (e1 n) v = 0 := fun v => L.toBil.farl (fun i hi => by simp only [e1]; rw [if_neg (by omega)]) v
      have zr : ∀ u, lower n f s β u (e1 n) = 0 := fun u => L.toBil.farr (fun i hi => by simp only [e1]; rw [if_neg (by omega)]) u
      have ge : Fe n s (e1 n) = s 0 := by
        rw [Fe_top]
        · simp [e1]
        · intro i hi
          simp only [e1]
          rw [if_neg (by omega)]
      have c1 : lower n f s β (fun i => s 0 * v i + (- Fe n s v) * e1 n i) (fun i => s 0 * v i + (- Fe n s v) * e1 n i) = s 0 * s 0 * lower n f s β v v := by
        rw [L.addl, L.addr, L.addr, zl, zr, zl]
        grind
      have c2 : lower n f s β (fun i => s 0 * v i + (- Fe n s v) * e1 n i) (fun i => s 0 * v i + (- Fe n s v) * e1 n i) = s 0 * β (fun i => s 0 * v i + (- Fe n s v) * e1 n i) (fun i => s 0 * v i + (- Fe n s v) * e1 n i) := by
        have : Fe n s (fun i => s 0 * v i + (- Fe n s v) * e1 n i) = 0 := by
          rw [Fe_u, ge]
          grind
        simp only [lower]
        rw [this]
        simp
      have p1 := pd (fun i => s 0 * v i + (- Fe n s v) * e1 n i) ⟨i, by omega, by
        simp only [e1]
        rw [if_neg (by omega)]
        have := Int.mul_ne_zero (show s 0 ≠ 0 by omega) hv
        simpa using this⟩
      have p2 := Int.mul_pos h1 p1
      rw [← c2, c1] at p2
      exact Int.pos_of_mul_pos_right p2 (Int.mul_pos h1 h1)
end K5
namespace K5
/-! ### products of factors -/
structure Fac where
  c : Int
  b : Int
  a : Int
  d : Nat
def act (q : Fac) (u : Sq) : Sq := fun i => q.c * u i + q.b * u (i + 1) + q.a * u (i + 2)
def acm (q : Fac) (u : Sq) : Sq := fun i => q.c * u i - q.b * u (i + 1) + q.a * u (i + 2)
def sgn (i : Nat) : Int := if i % 2 = 0 then 1 else -1
theorem sgn_s (i : Nat) : sgn (i + 1) = - sgn i := by
  unfold sgn
  split <;> split <;> omega
theorem sgn_sq (i : Nat) : sgn i * sgn i = 1 := by
  unfold sgn
  split <;> rfl
def sg (u : Sq) : Sq := fun i => sgn i * u i
theorem act_sg (q : Fac) (u : Sq) : act q (sg u) = sg (acm q u) := by
  funext i
  simp only [act, acm, sg]
  rw [sgn_s (i + 1), sgn_s i]
  grind
def Pf (k : Int) : List Fac → Sq → Int
  | [], u => k * u 0
  | q :: qs, u => Pf k qs (act q u)
def dg : List Fac → Nat
  | [] => 0
  | q :: qs => dg qs + q.d
theorem act_lin (q : Fac) (a b : Int) (u v : Sq) : act q (fun i => a * u i + b * v i) = fun i => a * act q u i + b * act q v i := by
  funext i
  simp only [act]
  grind
theorem acm_lin (q : Fac) (a b : Int) (u v : Sq) : acm q (fun i => a * u i + b * v i) = fun i => a * acm q u i + b * acm q v i := by
  funext i
  simp only [acm]
  grind
theorem Pf_lin (k : Int) : ∀ (qs : List Fac) (a b : Int) (u v : Sq), Pf k qs (fun i => a * u i + b * v i) = a * Pf k qs u + b * Pf k qs v
  | [], a, b, u, v => by simp only [Pf]; grind
  | q :: qs, a, b, u, v => by
    simp only [Pf]
    rw [act_lin, Pf_lin k qs]
theorem Pf_act (k : Int) (qs : List Fac) (q : Fac) (u : Sq) : Pf k qs (act q u) = q.c * Pf k qs u + q.b * Pf k qs (S u) + q.a * Pf k qs (S (S u)) := by
  have h : act q u = fun i => 1 * (fun i => q.c * u i + q.b * S u i) i + q.a * S (S u) i := by
    funext i
    simp only [act, S]
    grind
  rw [h, Pf_lin, Pf_lin]
  grind
theorem Pf_acm (k : Int) (qs : List Fac) (q : Fac) (u : Sq) : Pf k qs (acm q u) = q.c * Pf k qs u - q.b * Pf k qs (S u) + q.a * Pf k qs (S (S u)) := by
  have h : acm q u = fun i => 1 * (fun i => q.c * u i + (- q.b) * S u i) i + q.a * S (S u) i := by
    funext i
    simp only [acm, S]
    grind
  rw [h, Pf_lin, Pf_lin]
  grind
theorem act_comm (p q : Fac) (u : Sq) : act p (act q u) = act q (act p u) := by
  funext i
  simp only [act]
  grind
theorem Pf_swap (k : Int) (p q : Fac) (qs : List Fac) : Pf k (p :: q :: qs) = Pf k (q :: p :: qs) := by
  funext u
  simp only [Pf]
  rw [act_comm]
theorem Pf_mid (k : Int) (q : Fac) : ∀ (l r : List Fac), Pf k (l ++ q :: r) = Pf k (q :: (l ++ r))
  | [], r => rfl
  | p :: l, r => by
    have ih := Pf_mid k q l r
    funext u
    show Pf k (l ++ q :: r) (act p u) = Pf k (q :: p :: (l ++ r)) u
    rw [ih, Pf_swap]
    rfl
theorem dg_mid (q : Fac) : ∀ (l r : List Fac), dg (l ++ q :: r) = dg (q :: (l ++ r))
  | [], r => rfl
  | p :: l, r => by
    have ih := dg_mid q l r
    simp only [dg, List.cons_append] at *
    omega
/-- a factor of degree one or two -/
def Fac.ok (q : Fac) : Prop := (q.d = 1 ∧ q.a = 0) ∨ q.d = 2
theorem act_dep {q : Fac} (hq : q.ok) {n : Nat} {u v : Sq} (h : ∀ i, i < n + q.d → u i = v i) : ∀ i, i < n → act q u i = act q v i := by
  intro i hi
  simp only [act]
  rcases hq with ⟨e, z⟩ | e
  · rw [z, h i (by omega), h (i + 1) (by omega)]
    simp
  · rw [h i (by omega), h (i + 1) (by omega), h (i + 2) (by omega)]
theorem acm_dep {q : Fac} (hq : q.ok) {n : Nat} {u v : Sq} (h : ∀ i, i < n + q.d → u i = v i) : ∀ i, i < n → acm q u i = acm q v i := by
  intro i hi
  simp only [acm]
  rcases hq with ⟨e, z⟩ | e
  · rw [z, h i (by omega), h (i + 1) (by omega)]
    simp
  · rw [h i (by omega), h (i + 1) (by omega), h (i + 2) (by omega)]
theorem Pf_dep (k : Int) : ∀ (qs : List Fac) (u v : Sq), (∀ q ∈ qs, q.ok) → (∀ i, i < dg qs + 1 → u i = v i) → Pf k qs u = Pf k qs v
  | [], u, v, _, h => by
    simp only [Pf]
    rw [h 0 (by simp [dg])]
  | q :: qs, u, v, ho, h => by
    simp only [Pf]
    refine Pf_dep k qs _ _ (fun p hp => ho p (List.mem_cons_of_mem _ hp)) (act_dep (ho q List.mem_cons_self) fun i hi => h i ?_)
    simp only [dg]
    omega
structure PF (n : Nat) (P : Sq → Int) (β : Sq → Sq → Int) : Prop extends Bil n β where
  eqn : ∀ u v, β (S u) v + β u (S v) = P u * P v - P (sg u) * P (sg v)
def up (q : Fac) (P : Sq → Int) (β : Sq → Sq → Int) : Sq → Sq → Int := fun u v => 2 * (q.b * (q.a * (P (S u) * P (S v)) + q.c * (P u * P v))) + β (acm q u) (acm q v)
theorem PF.up {k : Int} {qs : List Fac} {q : Fac} {β : Sq → Sq → Int} (ho : ∀ p ∈ qs, p.ok) (hq : q.ok) (B : PF (dg qs) (Pf k qs) β) : PF (dg (q :: qs)) (Pf k (q :: qs)) (up q (Pf k qs) β) := by
  refine ⟨⟨fun a b u u' v => ?_, fun a b u v v' => ?_, fun u u' v v' hu hv => ?_⟩, fun u v => ?_⟩
  · simp only [K5.up]
    rw [acm_lin, B.addl]
    have h : S (fun i => a * u i + b * u' i) = fun i => a * S u i + b * S u' i := rfl
    rw [h, Pf_lin, Pf_lin]
    grind
  · simp only [K5.up]
    rw [acm_lin, B.addr]
    have h : S (fun i => a * v i + b * v' i) = fun i => a * S v i + b * S v' i := rfl
    rw [h, Pf_lin, Pf_lin]
    grind
  · have hd : dg (q :: qs) = dg qs + q.d := rfl
    rw [hd] at hu hv
    have d0 : 1 ≤ q.d := by
      rcases hq with ⟨e, _⟩ | e <;> omega
    simp only [K5.up]
    rw [B.dep (acm q u) (acm q u') (acm q v) (acm q v') (acm_dep hq hu) (acm_dep hq hv)]
    rw [Pf_dep k qs u u' ho fun i hi => hu i (by omega), Pf_dep k qs v v' ho fun i hi => hv i (by omega)]
    rcases hq with ⟨e, z⟩ | e
    · rw [z]
      grind
    · rw [Pf_dep k qs (S u) (S u') ho fun i hi => hu (i + 1) (by omega), Pf_dep k qs (S v) (S v') ho fun i hi => hv (i + 1) (by omega)]
  · have e := B.eqn (acm q u) (acm q v)
    have s1 : ∀ u, S (acm q u) = acm q (S u) := fun u => rfl
    rw [s1, s1] at e
    simp only [K5.up, Pf]
    rw [act_sg, act_sg]
    rw [Pf_acm, Pf_acm] at e
    rw [Pf_act, Pf_act]
    grind
theorem PF.base (k : Int) : PF 0 (Pf k []) (fun _ _ => 0) := by
  refine ⟨⟨fun _ _ _ _ _ => by simp, fun _ _ _ _ _ => by simp, fun _ _ _ _ _ _ => rfl⟩, fun u v => ?_⟩
  simp [Pf, sg, sgn]
theorem PF.any (k : Int) : ∀ (qs : List Fac), (∀ q ∈ qs, q.ok) → ∃ β, PF (dg qs) (Pf k qs) β
  | [], _ => ⟨_, PF.base k⟩
  | q :: qs, h => by
    obtain ⟨β, B⟩ := PF.any k qs fun p hp => h p (List.mem_cons_of_mem _ hp)
    exact ⟨_, B.up (fun p hp => h p (List.mem_cons_of_mem _ hp)) (h q List.mem_cons_self)⟩
/-- a factor whose roots lie on the left -/
def Fac.good (q : Fac) : Prop := 0 < q.c ∧ 0 < q.b ∧ ((q.d = 1 ∧ q.a = 0) ∨ (q.d = 2 ∧ 0 < q.a))
theorem Fac.good.ok {q : Fac} (h : q.good) : q.ok := by
  rcases h.2.2 with e | e
  · exact .inl e
  · exact .inr e.1
/-- one factor's sequences are not killed by others: a factor of degree one -/
theorem cop1 {k : Int} (hk : k ≠ 0) {c b : Int} (hc : 0 < c) (hb : 0 < b) : ∀ (qs : List Fac) (w : Sq), (∀ q ∈ qs, q.good) → (∀ i, i < dg qs → c * w i = b * w (i + 1)) → Pf k qs w = 0 → w 0 = 0
  | [], w, _, _, h => by
    rcases Int.mul_eq_zero.mp h with q | q
    · exact absurd q hk
    · exact q
  | q :: qs, w, hg, hr, h => by
    obtain ⟨gc, gb, gd⟩ := hg q List.mem_cons_self
    have hd : dg (q :: qs) = dg qs + q.d := rfl
    rw [hd] at hr
    have z : act q w 0 = 0 := by
      refine cop1 hk hc hb qs (act q w) (fun p hp => hg p (List.mem_cons_of_mem _ hp)) (fun i hi => ?_) h
      simp only [act]
      rcases gd with ⟨e, ea⟩ | ⟨e, ea⟩
      · have h0 := hr i (by omega)
        have h1 := hr (i + 1) (by omega)
        rw [ea]
        grind
      · have h0 := hr i (by omega)
        have h1 := hr (i + 1) (by omega)
        have h2 := hr (i + 2) (by omega)
        grind
    simp only [act, Nat.zero_add] at z
    rcases gd with ⟨e, ea⟩ | ⟨e, ea⟩
    · have h0 := hr 0 (by omega)
      simp only [Nat.zero_add] at h0
      rw [ea] at z
      have : (b * q.c + c * q.b) * w 0 = 0 := by grind
      rcases Int.mul_eq_zero.mp this with r | r
      · have := Int.mul_pos hb gc
        have := Int.mul_pos hc gb
        omega
      · exact r
    · have h0 := hr 0 (by omega)
      have h1 := hr 1 (by omega)
      simp only [Nat.zero_add] at h0
      have : (b * b * q.c + b * c * q.b + c * c * q.a) * w 0 = 0 := by grind
      rcases Int.mul_eq_zero.mp this with r | r
      · have := Int.mul_pos (Int.mul_pos hb hb) gc
        have := Int.mul_pos (Int.mul_pos hb hc) gb
        have := Int.mul_pos (Int.mul_pos hc hc) ea
        omega
      · exact r
/-- .. of degree two -/
theorem cop2 {k : Int} (hk : k ≠ 0) {c b a : Int} (hc : 0 < c) (hb : 0 < b) (ha : 0 < a) : ∀ (qs : List Fac) (w : Sq), (∀ q ∈ qs, q.good) → (∀ i, i < dg qs → a * w (i + 2) = b * w (i + 1) - c * w i) → Pf k qs w = 0 → Pf k qs (S w) = 0 → w 0 = 0 ∧ w 1 = 0
  | [], w, _, _, h, h' => by
    constructor
    · rcases Int.mul_eq_zero.mp h with q | q
      · exact absurd q hk
      · exact q
    · rcases Int.mul_eq_zero.mp h' with q | q
      · exact absurd q hk
      · exact q
  | q :: qs, w, hg, hr, h, h' => by
    obtain ⟨gc, gb, gd⟩ := hg q List.mem_cons_self
    have hd : dg (q :: qs) = dg qs + q.d := rfl
    rw [hd] at hr
    have z : act q w 0 = 0 ∧ act q w 1 = 0 := by
      refine cop2 hk hc hb ha qs (act q w) (fun p hp => hg p (List.mem_cons_of_mem _ hp)) (fun i hi => ?_) h h'
      simp only [act]
      rcases gd with ⟨e, ea⟩ | ⟨e, ea⟩
      · have h0 := hr i (by omega)
        have h1 := hr (i + 1) (by omega)
        rw [ea]
        grind
      · have h0 := hr i (by omega)
        have h1 := hr (i + 1) (by omega)
        have h2 := hr (i + 2) (by omega)
        grind
    obtain ⟨z0, z1⟩ := z
    simp only [act, Nat.zero_add] at z0 z1
    rcases gd with ⟨e, ea⟩ | ⟨e, ea⟩
    · have h0 := hr 0 (by omega)
      simp only [Nat.zero_add] at h0
      rw [ea] at z0 z1
      have w1 : (a * (q.c * q.c) + b * (q.c * q.b) + c * (q.b * q.b)) * w 1 = 0 := by grind
      have w1 : w 1 = 0 := by
        rcases Int.mul_eq_zero.mp w1 with r | r
        · have := Int.mul_pos ha (Int.mul_pos gc gc)
          have := Int.mul_pos hb (Int.mul_pos gc gb)
          have := Int.mul_pos hc (Int.mul_pos gb gb)
          omega
        · exact r
      rw [w1] at z0
      have : q.c * w 0 = 0 := by grind
      rcases Int.mul_eq_zero.mp this with r | r
      · omega
      · exact ⟨r, w1⟩
    · have h0 := hr 0 (by omega)
      have h1 := hr 1 (by omega)
      simp only [Nat.zero_add] at h0
      have y0 : (a * q.c - q.a * c) * w 0 + (a * q.b + q.a * b) * w 1 = 0 := by grind
      have y1 : (- c * (a * q.b + q.a * b)) * w 0 + (a * (a * q.c - q.a * c) + b * (a * q.b + q.a * b)) * w 1 = 0 := by grind
      have Y0 : 0 < a * q.b + q.a * b := by
        have := Int.mul_pos ha gb
        have := Int.mul_pos ea hb
        omega
      generalize eX : a * q.c - q.a * c = X at y0 y1
      generalize eY : a * q.b + q.a * b = Y at y0 y1 Y0
      have res : (a * X * X + b * X * Y + c * Y * Y) * w 1 = 0 := by grind
      have pos : a * X * X + b * X * Y + c * Y * Y = a * (X * X + Y * (q.b * c + b * q.c)) := by
        rw [← eX, ← eY]
        grind
      have w1 : w 1 = 0 := by
        rcases Int.mul_eq_zero.mp res with r | r
        · rw [pos] at r
          have t1 := sq_nonneg X
          have t2 : 0 < Y * (q.b * c + b * q.c) := by
            refine Int.mul_pos Y0 ?_
            have := Int.mul_pos gb hc
            have := Int.mul_pos hb gc
            omega
          have := Int.mul_pos ha (show 0 < X * X + Y * (q.b * c + b * q.c) by omega)
          omega
        · exact r
      rw [w1] at y1
      have : (c * Y) * w 0 = 0 := by grind
      rcases Int.mul_eq_zero.mp this with r | r
      · have := Int.mul_pos hc Y0
        omega
      · exact ⟨r, w1⟩
theorem PD.up {k : Int} (hk : k ≠ 0) {qs : List Fac} {q : Fac} {β : Sq → Sq → Int} (ho : ∀ p ∈ qs, p.good) (hq : q.good) (B : PF (dg qs) (Pf k qs) β) (pd : PD (dg qs) β) : PD (dg (q :: qs)) (up q (Pf k qs) β) := by
  rintro v ⟨i, hi, hv⟩
  have hd : dg (q :: qs) = dg qs + q.d := rfl
  rw [hd] at hi
  obtain ⟨gc, gb, gd⟩ := hq
  have n0 : 0 ≤ β (acm q v) (acm q v) := by
    by_cases h : ∃ i, i < dg qs ∧ acm q v i ≠ 0
    · exact Int.le_of_lt (pd _ h)
    · rw [B.toBil.farl (fun i hi => Classical.byContradiction fun z => h ⟨i, hi, z⟩)]
      exact Int.le_refl 0
  have zero : β (acm q v) (acm q v) = 0 → ∀ i, i < dg qs → acm q v i = 0 := by
    intro h i hi
    apply Classical.byContradiction
    intro z
    have := pd _ ⟨i, hi, z⟩
    omega
  have p0 := sq_nonneg (Pf k qs v)
  have p1 := sq_nonneg (Pf k qs (S v))
  have t0 := Int.mul_nonneg (Int.le_of_lt gc) p0
  show 0 < 2 * (q.b * (q.a * (Pf k qs (S v) * Pf k qs (S v)) + q.c * (Pf k qs v * Pf k qs v))) + β (acm q v) (acm q v)
  apply Classical.byContradiction
  intro hn
  rcases gd with ⟨e, ea⟩ | ⟨e, ea⟩
  · rw [ea, Int.zero_mul, Int.zero_add] at hn
    have t1 := Int.mul_nonneg (Int.le_of_lt gb) t0
    have b0 : β (acm q v) (acm q v) = 0 := by omega
    have q0 : Pf k qs v = 0 := by
      apply Classical.byContradiction
      intro z
      have := Int.mul_pos gb (Int.mul_pos gc (sq_pos z))
      omega
    have hrec : ∀ i, i < dg qs → q.c * v i = q.b * v (i + 1) := by
      intro i hi
      have := zero b0 i hi
      simp only [acm] at this
      rw [ea] at this
      omega
    have v0 := cop1 hk gc gb qs v ho hrec q0
    have all : ∀ i, i < dg qs + 1 → v i = 0 := by
      intro i
      induction i with
      | zero => exact fun _ => v0
      | succ i ih =>
        intro hi
        have h1 := hrec i (by omega)
        rw [ih (by omega)] at h1
        have : q.b * v (i + 1) = 0 := by omega
        rcases Int.mul_eq_zero.mp this with r | r
        · omega
        · exact r
    exact hv (all i (by omega))
  · have t2 := Int.mul_nonneg (Int.le_of_lt ea) p1
    have t3 := Int.mul_nonneg (Int.le_of_lt gb) (show 0 ≤ q.a * (Pf k qs (S v) * Pf k qs (S v)) + q.c * (Pf k qs v * Pf k qs v) by omega)
    have b0 : β (acm q v) (acm q v) = 0 := by omega
    have q0 : Pf k qs v = 0 := by
      apply Classical.byContradiction
      intro z
      have := Int.mul_pos gc (sq_pos z)
      have := Int.mul_pos gb (show 0 < q.a * (Pf k qs (S v) * Pf k qs (S v)) + q.c * (Pf k qs v * Pf k qs v) by omega)
      omega
    have q1 : Pf k qs (S v) = 0 := by
      apply Classical.byContradiction
      intro z
      have := Int.mul_pos ea (sq_pos z)
      have := Int.mul_pos gb (show 0 < q.a * (Pf k qs (S v) * Pf k qs (S v)) + q.c * (Pf k qs v * Pf k qs v) by omega)
      omega
    have hrec : ∀ i, i < dg qs → q.a * v (i + 2) = q.b * v (i + 1) - q.c * v i := by
      intro i hi
      have := zero b0 i hi
      simp only [acm] at this
      omega
    obtain ⟨v0, v1⟩ := cop2 hk gc gb ea qs v ho hrec q0 q1
    have all : ∀ i, i < dg qs + 2 → v i = 0 := by
      intro i
      induction i using Nat.strongRecOn with
      | _ i ih =>
        intro hi
        match i with
        | 0 => exact v0
        | 1 => exact v1
        | i + 2 =>
          have h1 := hrec i (by omega)
          rw [ih i (by omega) (by omega), ih (i + 1) (by omega) (by omega)] at h1
          have : q.a * v (i + 2) = 0 := by omega
          rcases Int.mul_eq_zero.mp this with r | r
          · omega
          · exact r
    exact hv (all i (by omega))
theorem good_PD {k : Int} (hk : k ≠ 0) : ∀ (qs : List Fac), (∀ q ∈ qs, q.good) → ∃ β, PF (dg qs) (Pf k qs) β ∧ PD (dg qs) β
  | [], _ => ⟨_, PF.base k, fun v ⟨i, hi, _⟩ => absurd hi (Nat.not_lt_zero i)⟩
  | q :: qs, h => by
    have h' : ∀ p ∈ qs, p.good := fun p hp => h p (List.mem_cons_of_mem _ hp)
    obtain ⟨β, B, pd⟩ := good_PD hk qs h'
    exact ⟨_, B.up (fun p hp => (h' p hp).ok) (h q List.mem_cons_self).ok, PD.up hk h' (h q List.mem_cons_self) B pd⟩
/-- a factor with a root that is not on the left -/
def Fac.bad (q : Fac) : Prop := q.b * q.a ≤ 0 ∧ q.b * q.c ≤ 0 ∧ ((q.d = 1 ∧ q.a = 0 ∧ q.b = 1) ∨ (q.d = 2 ∧ q.a = 1))
theorem Fac.bad.ok {q : Fac} (h : q.bad) : q.ok := by
  rcases h.2.2 with e | e
  · exact .inl ⟨e.1, e.2.1⟩
  · exact .inr e.1
def lin2 (c b : Int) : Nat → Int × Int
  | 0 => (1, 0)
  | i + 1 => ((lin2 c b i).2, b * (lin2 c b i).2 - c * (lin2 c b i).1)
theorem bad_seq {q : Fac} (h : q.bad) : ∃ v : Sq, v 0 = 1 ∧ ∀ i, acm q v i = 0 := by
  rcases h.2.2 with ⟨e, ea, eb⟩ | ⟨e, ea⟩
  · refine ⟨fun i => q.c ^ i, by simp, fun i => ?_⟩
    simp only [acm]
    rw [ea, eb, Int.pow_succ]
    grind
  · refine ⟨fun i => (lin2 q.c q.b i).1, rfl, fun i => ?_⟩
    simp only [acm, lin2]
    rw [ea]
    grind
theorem bad_PD (k : Int) (qs : List Fac) (ho : ∀ q ∈ qs, q.ok) {q : Fac} (hm : q ∈ qs) (hb : q.bad) : ∃ β, PF (dg qs) (Pf k qs) β ∧ ¬ PD (dg qs) β := by
  obtain ⟨l, r, rfl⟩ := List.append_of_mem hm
  rw [Pf_mid, dg_mid]
  have ho' : ∀ p ∈ l ++ r, p.ok := by
    intro p hp
    apply ho
    rcases List.mem_append.mp hp with h | h
    · exact List.mem_append_left _ h
    · exact List.mem_append_right _ (List.mem_cons_of_mem _ h)
  obtain ⟨β, B⟩ := PF.any k (l ++ r) ho'
  refine ⟨_, B.up ho' hb.ok, fun pd => ?_⟩
  obtain ⟨v, v0, hv⟩ := bad_seq hb
  have d0 : 1 ≤ q.d := by
    rcases hb.ok with ⟨e, _⟩ | e <;> omega
  have h := pd v ⟨0, by simp only [dg]; omega, by rw [v0]; decide⟩
  have b0 : β (acm q v) (acm q v) = 0 := B.toBil.farl (fun i _ => hv i) _
  have e : up q (Pf k (l ++ r)) β v v = 2 * ((q.b * q.a) * (Pf k (l ++ r) (S v) * Pf k (l ++ r) (S v)) + (q.b * q.c) * (Pf k (l ++ r) v * Pf k (l ++ r) v)) := by
    simp only [up]
    rw [b0]
    grind
  rw [e] at h
  have h1 := Int.mul_nonneg (show 0 ≤ - (q.b * q.a) by have := hb.1; omega) (sq_nonneg (Pf k (l ++ r) (S v)))
  have h2 := Int.mul_nonneg (show 0 ≤ - (q.b * q.c) by have := hb.2.1; omega) (sq_nonneg (Pf k (l ++ r) v))
  rw [Int.neg_mul] at h1 h2
  omega
end K5
namespace K5
/-! ### lists -/
def lst (l : List Int) : Int := l.getLastD 0
def trim (l : List Int) : List Int := (l.reverse.dropWhile (· == 0)).reverse
def evens : List Int → List Int
  | [] => []
  | [a] => [a]
  | a :: _ :: l => a :: evens l
def odds : List Int → List Int
  | [] => []
  | [_] => []
  | _ :: b :: l => b :: odds l
def neg (l : List Int) : List Int := l.map fun a => -a
def moved (second : List Int) (sh : Bool) : List Int := if sh then 0 :: second else second
def rest0 (first second : List Int) (sh : Bool) : List Int := List.zipWith (fun a b => a * lst second - b * lst first) first (moved second sh)
def lessLead (first second : List Int) (sh : Bool) : List Int := trim (if lst second < 0 then neg (rest0 first second sh) else rest0 first second sh)
/-- the length that the second one must have -/
def wantLen (first : List Int) (sh : Bool) : Nat := if sh then first.length - 1 else first.length
def loop : Nat → List Int → List Int → Bool → Bool
  | 0, _, _, _ => false
  | k + 1, first, second, sh => if second = [] then decide (first.length = 1) else if second.length ≠ wantLen first sh ∨ lst first * lst second ≤ 0 then false else loop k second (lessLead first second sh) (!sh)
def odd (l : List Int) : Bool := l.length % 2 == 1
def firstOf (p : List Int) : List Int := if odd p then trim (evens p) else trim (odds p)
def secondOf (p : List Int) : List Int := if odd p then trim (odds p) else trim (evens p)
def onLeft (p : List Int) : Bool := if p.any (fun a => decide (a * lst p ≤ 0)) then false else loop (p.length + 1) (firstOf p) (secondOf p) (odd p)
theorem lst_snoc (l : List Int) (x : Int) : lst (l ++ [x]) = x := by simp [lst]
theorem snoc_of : ∀ (l : List Int), l ≠ [] → l = l.dropLast ++ [lst l]
  | [], h => absurd rfl h
  | a :: l, _ => by
    unfold lst
    rw [List.getLastD_cons, ← List.getLast_eq_getLastD (List.cons_ne_nil a l), List.dropLast_concat_getLast]
theorem trim_nil : trim [] = [] := rfl
theorem trim_zero (l : List Int) : trim (l ++ [0]) = trim l := by
  unfold trim
  rw [List.reverse_append]
  simp
theorem trim_snoc (l : List Int) {x : Int} (h : x ≠ 0) : trim (l ++ [x]) = l ++ [x] := by
  unfold trim
  rw [List.reverse_append]
  simp [h]
theorem trim_len (l : List Int) : (trim l).length ≤ l.length := by
  unfold trim
  rw [List.length_reverse]
  have h := List.IsSuffix.length_le (List.dropWhile_suffix (l := l.reverse) (· == 0))
  rw [List.length_reverse] at h
  exact h
theorem trim_idem {l : List Int} (h : l = [] ∨ lst l ≠ 0) : trim l = l := by
  rcases h with h | h
  · rw [h]
    rfl
  · by_cases e : l = []
    · rw [e]
      rfl
    · have := snoc_of l e
      rw [this]
      exact trim_snoc _ h
theorem trim_last (l : List Int) : trim l = [] ∨ lst (trim l) ≠ 0 := by
  induction h : l.length generalizing l with
  | zero =>
    left
    rw [List.eq_nil_of_length_eq_zero h]
    rfl
  | succ n ih =>
    have e := snoc_of l (fun z => by rw [z] at h; cases h)
    by_cases z : lst l = 0
    · rw [e, z, trim_zero]
      apply ih
      rw [List.length_dropLast, h]
      rfl
    · right
      rw [e, trim_snoc _ z, lst_snoc]
      exact z
theorem trim_mem {l : List Int} {x : Int} (h : x ∈ trim l) : x ∈ l := by
  unfold trim at h
  rw [List.mem_reverse] at h
  exact List.mem_reverse.mp ((List.dropWhile_suffix _).subset h)
theorem neg_nil : neg [] = [] := rfl
theorem neg_snoc (l : List Int) (x : Int) : neg (l ++ [x]) = neg l ++ [-x] := by simp [neg]
theorem neg_len (l : List Int) : (neg l).length = l.length := by simp [neg]
theorem neg_neg (l : List Int) : neg (neg l) = l := by
  induction l with
  | nil => rfl
  | cons a l ih =>
    show - - a :: neg (neg l) = a :: l
    rw [ih, Int.neg_neg]
theorem lst_neg (l : List Int) : lst (neg l) = - lst l := by
  by_cases e : l = []
  · rw [e]
    rfl
  · have h := snoc_of l e
    have h2 : lst (neg l) = lst (neg (l.dropLast ++ [lst l])) := by rw [← h]
    rw [h2, neg_snoc, lst_snoc]
theorem trim_neg (l : List Int) : trim (neg l) = neg (trim l) := by
  induction h : l.length generalizing l with
  | zero =>
    rw [List.eq_nil_of_length_eq_zero h]
    rfl
  | succ n ih =>
    have e := snoc_of l (fun z => by rw [z] at h; cases h)
    rw [e]
    by_cases z : lst l = 0
    · rw [z, neg_snoc, trim_zero]
      show trim (neg _ ++ [0]) = _
      rw [trim_zero]
      apply ih
      rw [List.length_dropLast, h]
      rfl
    · rw [neg_snoc, trim_snoc _ z, trim_snoc _ (show -lst l ≠ 0 by omega), neg_snoc]
theorem evens_neg : ∀ (l : List Int), evens (neg l) = neg (evens l)
  | [] => rfl
  | [a] => rfl
  | a :: b :: l => by
    show -a :: evens (neg l) = -a :: neg (evens l)
    rw [evens_neg l]
theorem odds_neg : ∀ (l : List Int), odds (neg l) = neg (odds l)
  | [] => rfl
  | [a] => rfl
  | a :: b :: l => by
    show -b :: odds (neg l) = -b :: neg (odds l)
    rw [odds_neg l]
theorem moved_neg (l : List Int) (sh : Bool) : moved (neg l) sh = neg (moved l sh) := by
  cases sh <;> rfl
theorem zip_neg (x y : Int) : ∀ (l m : List Int), List.zipWith (fun a b => a * -x - b * -y) (neg l) (neg m) = List.zipWith (fun a b => a * x - b * y) l m
  | [], _ => by simp [neg]
  | _ :: _, [] => by simp [neg]
  | a :: l, b :: m => by
    show (-a * -x - -b * -y) :: List.zipWith (fun a b => a * -x - b * -y) (neg l) (neg m) = (a * x - b * y) :: List.zipWith (fun a b => a * x - b * y) l m
    rw [zip_neg x y l m]
    congr 1
    grind
theorem rest0_neg (first second : List Int) (sh : Bool) : rest0 (neg first) (neg second) sh = rest0 first second sh := by
  unfold rest0
  rw [lst_neg, lst_neg, moved_neg, zip_neg]
theorem lessLead_neg (first second : List Int) (sh : Bool) (h : lst second ≠ 0) : lessLead (neg first) (neg second) sh = neg (lessLead first second sh) := by
  unfold lessLead
  rw [rest0_neg, lst_neg, ← trim_neg]
  congr 1
  by_cases q : lst second < 0
  · rw [if_neg (by omega), if_pos q, neg_neg]
  · rw [if_pos (by omega), if_neg q]
theorem neg_eq_nil (l : List Int) : neg l = [] ↔ l = [] := by simp [neg]
theorem loop_neg : ∀ (k : Nat) (first second : List Int) (sh : Bool), loop k (neg first) (neg second) sh = loop k first second sh
  | 0, _, _, _ => rfl
  | k + 1, first, second, sh => by
    have e : lst (neg first) * lst (neg second) = lst first * lst second := by
      rw [lst_neg, lst_neg]
      grind
    have w : wantLen (neg first) sh = wantLen first sh := by
      unfold wantLen
      rw [neg_len]
    simp only [loop, neg_eq_nil, neg_len, e, w]
    by_cases h1 : second = []
    · rw [if_pos h1, if_pos h1]
    · rw [if_neg h1, if_neg h1]
      by_cases h2 : second.length ≠ wantLen first sh ∨ lst first * lst second ≤ 0
      · rw [if_pos h2, if_pos h2]
      · rw [if_neg h2, if_neg h2]
        have : lst second ≠ 0 := by
          intro z
          rw [z, Int.mul_zero] at h2
          omega
        rw [lessLead_neg _ _ _ this, loop_neg k]
theorem any_neg (l : List Int) (x : Int) : (neg l).any (fun a => decide (a * -x ≤ 0)) = l.any (fun a => decide (a * x ≤ 0)) := by
  induction l with
  | nil => rfl
  | cons a l ih =>
    show (decide (-a * -x ≤ 0) || (neg l).any fun a => decide (a * -x ≤ 0)) = (decide (a * x ≤ 0) || l.any fun a => decide (a * x ≤ 0))
    rw [ih, Int.neg_mul_neg]
theorem odd_neg (l : List Int) : odd (neg l) = odd l := by
  unfold odd
  rw [neg_len]
theorem onLeft_neg (p : List Int) : onLeft (neg p) = onLeft p := by
  unfold onLeft
  have f : firstOf (neg p) = neg (firstOf p) := by
    unfold firstOf
    rw [odd_neg, evens_neg, odds_neg, trim_neg, trim_neg]
    split <;> rfl
  have s : secondOf (neg p) = neg (secondOf p) := by
    unfold secondOf
    rw [odd_neg, evens_neg, odds_neg, trim_neg, trim_neg]
    split <;> rfl
  rw [lst_neg, any_neg, f, s, loop_neg, odd_neg, neg_len]
/-! ### ascending lists of descending functions -/
def asc : Nat → (Nat → Int) → List Int
  | 0, _ => []
  | m + 1, f => asc m (fun j => f (j + 1)) ++ [f 0]
theorem asc_len : ∀ (m : Nat) (f : Nat → Int), (asc m f).length = m
  | 0, _ => rfl
  | m + 1, f => by
    show (asc m _ ++ [f 0]).length = m + 1
    rw [List.length_append, asc_len m]
    rfl
theorem asc_zip (g : Int → Int → Int) : ∀ (m : Nat) (f s : Nat → Int), List.zipWith g (asc m f) (asc m s) = asc m (fun j => g (f j) (s j))
  | 0, _, _ => rfl
  | m + 1, f, s => by
    show List.zipWith g (asc m _ ++ [f 0]) (asc m _ ++ [s 0]) = asc m _ ++ [g (f 0) (s 0)]
    rw [List.zipWith_append (by rw [asc_len, asc_len]), asc_zip g m]
    rfl
theorem asc_zero : ∀ (m : Nat) (s : Nat → Int), s m = 0 → 0 :: asc m s = asc (m + 1) s
  | 0, s, h => by
    show [0] = [] ++ [s 0]
    rw [h]
    rfl
  | m + 1, s, h => by
    show (0 :: asc m (fun j => s (j + 1))) ++ [s 0] = asc (m + 1) (fun j => s (j + 1)) ++ [s 0]
    rw [asc_zero m (fun j => s (j + 1)) h]
theorem asc_of : ∀ (p : List Int), p = asc p.length (fun j => p.reverse.getD j 0) := by
  intro p
  induction h : p.length generalizing p with
  | zero =>
    rw [List.eq_nil_of_length_eq_zero h]
    rfl
  | succ n ih =>
    have e := snoc_of p (fun z => by rw [z] at h; cases h)
    have l : p.dropLast.length = n := by
      rw [List.length_dropLast, h]
      rfl
    have i := ih p.dropLast l
    have r : p.reverse = lst p :: p.dropLast.reverse := by
      rw [e, List.reverse_append, ← e]
      rfl
    show p = asc n (fun j => p.reverse.getD (j + 1) 0) ++ [p.reverse.getD 0 0]
    rw [r]
    show p = asc n (fun j => p.dropLast.reverse.getD j 0) ++ [lst p]
    rw [← i, ← e]
theorem evens_snoc : ∀ (l : List Int) (x : Int), evens (l ++ [x]) = if l.length % 2 = 0 then evens l ++ [x] else evens l
  | [], x => rfl
  | [a], x => rfl
  | a :: b :: l, x => by
    have e : (a :: b :: l).length % 2 = l.length % 2 := by
      rw [List.length_cons, List.length_cons]
      omega
    rw [e]
    show a :: evens (l ++ [x]) = if l.length % 2 = 0 then a :: evens l ++ [x] else a :: evens l
    rw [evens_snoc l x]
    split <;> rfl
theorem odds_snoc : ∀ (l : List Int) (x : Int), odds (l ++ [x]) = if l.length % 2 = 0 then odds l else odds l ++ [x]
  | [], x => rfl
  | [a], x => rfl
  | a :: b :: l, x => by
    have e : (a :: b :: l).length % 2 = l.length % 2 := by
      rw [List.length_cons, List.length_cons]
      omega
    rw [e]
    show b :: odds (l ++ [x]) = if l.length % 2 = 0 then b :: odds l else b :: odds l ++ [x]
    rw [odds_snoc l x]
    split <;> rfl
/-- the parts of a polynomial -/
theorem parts : ∀ (n : Nat) (b : Nat → Int), (if n % 2 = 0 then evens (asc (n + 1) b) else odds (asc (n + 1) b)) = asc (n / 2 + 1) (fun j => b (2 * j)) ∧ (if n % 2 = 0 then odds (asc (n + 1) b) else evens (asc (n + 1) b)) = asc ((n + 1) / 2) (fun j => b (2 * j + 1))
  | 0, b => ⟨rfl, rfl⟩
  | n + 1, b => by
    obtain ⟨h1, h2⟩ := parts n (fun j => b (j + 1))
    have u : asc (n + 1 + 1) b = asc (n + 1) (fun j => b (j + 1)) ++ [b 0] := rfl
    rw [u, evens_snoc, odds_snoc, asc_len]
    have v : asc ((n + 1) / 2 + 1) (fun j => b (2 * j)) = asc ((n + 1) / 2) (fun j => b (2 * j + 1 + 1)) ++ [b 0] := rfl
    rw [v]
    have w : (n + 1 + 1) / 2 = n / 2 + 1 := by omega
    rw [w]
    rcases Nat.mod_two_eq_zero_or_one n with q | q
    · rw [if_pos q] at h1 h2
      have q1 : (n + 1) % 2 ≠ 0 := by omega
      rw [if_neg q1, if_neg q1, if_neg q1, if_neg q1, h1, h2]
      exact ⟨rfl, rfl⟩
    · have q0 : n % 2 ≠ 0 := by omega
      rw [if_neg q0] at h1 h2
      have q1 : (n + 1) % 2 = 0 := by omega
      rw [if_pos q1, if_pos q1, if_pos q1, if_pos q1, h1, h2]
      exact ⟨rfl, rfl⟩
theorem asc_congr : ∀ (m : Nat) (f g : Nat → Int), (∀ j, j < m → f j = g j) → asc m f = asc m g
  | 0, _, _, _ => rfl
  | m + 1, f, g, h => by
    show asc m _ ++ [f 0] = asc m _ ++ [g 0]
    rw [h 0 (by omega), asc_congr m (fun j => f (j + 1)) (fun j => g (j + 1)) fun j hj => h (j + 1) (by omega)]
theorem loop_RS : ∀ (n k : Nat) (f s : Nat → Int), 0 < f 0 → (∀ j, n < 2 * j → f j = 0) → (∀ j, n < 2 * j + 1 → s j = 0) → 0 < (if n % 2 = 0 then f (n / 2) else s (n / 2)) → n < k →
    (loop k (asc (n / 2 + 1) f) (trim (asc ((n + 1) / 2) s)) (n % 2 == 0) = true ↔ RS n f s)
  | _, 0, _, _, _, _, _, _, h => absurd h (Nat.not_lt_zero _)
  | 0, k + 1, f, s, h0, _, _, _, _ => by
    show (decide ((asc 1 f).length = 1) = true) ↔ 0 < f 0
    rw [asc_len]
    exact ⟨fun _ => h0, fun _ => rfl⟩
  | n + 1, k + 1, f, s, h0, hf, hs, hc, hk => by
    have a2 : asc ((n + 1 + 1) / 2) s = asc (n / 2) (fun j => s (j + 1)) ++ [s 0] := by
      rw [show (n + 1 + 1) / 2 = n / 2 + 1 by omega]
      rfl
    have a1 : asc ((n + 1) / 2 + 1) f = asc ((n + 1) / 2) (fun j => f (j + 1)) ++ [f 0] := rfl
    have l1 : lst (asc ((n + 1) / 2 + 1) f) = f 0 := by rw [a1, lst_snoc]
    by_cases z : s 0 = 0
    · have tz : trim (asc ((n + 1 + 1) / 2) s) = trim (asc (n / 2) (fun j => s (j + 1))) := by rw [a2, z, trim_zero]
      have tl := trim_len (asc (n / 2) (fun j => s (j + 1)))
      rw [asc_len] at tl
      have no : ¬ RS (n + 1) f s := fun h => by
        have := h.2.1
        omega
      refine ⟨fun h => absurd h ?_, fun h => absurd h no⟩
      rw [tz]
      simp only [loop]
      by_cases e : trim (asc (n / 2) (fun j => s (j + 1))) = []
      · rw [if_pos e, asc_len]
        by_cases n0 : n = 0
        · subst n0
          simp at hc
          omega
        · rw [decide_eq_false (by omega)]
          exact Bool.false_ne_true
      · rw [if_neg e, if_pos]
        · exact Bool.false_ne_true
        · left
          unfold wantLen
          rw [asc_len]
          by_cases q : (n + 1) % 2 = 0
          · rw [if_pos (by simp [q])]
            omega
          · rw [if_neg (by simp [q])]
            omega
    · have ts : trim (asc ((n + 1 + 1) / 2) s) = asc ((n + 1 + 1) / 2) s := by rw [a2, trim_snoc _ z]
      have l2 : lst (asc ((n + 1 + 1) / 2) s) = s 0 := by rw [a2, lst_snoc]
      have w : (asc ((n + 1 + 1) / 2) s).length = wantLen (asc ((n + 1) / 2 + 1) f) ((n + 1) % 2 == 0) := by
        unfold wantLen
        rw [asc_len, asc_len]
        by_cases q : (n + 1) % 2 = 0
        · rw [if_pos (by simp [q])]
          omega
        · rw [if_neg (by simp [q])]
          omega
      have ne : asc ((n + 1 + 1) / 2) s ≠ [] := by
        rw [a2]
        simp
      rw [ts]
      simp only [loop]
      rw [if_neg ne, l1, l2]
      by_cases p : 0 < s 0
      · have pp := Int.mul_pos h0 p
        rw [if_neg (by
          rintro (h | h)
          · exact h w
          · omega)]
        have ll : lessLead (asc ((n + 1) / 2 + 1) f) (asc ((n + 1 + 1) / 2) s) ((n + 1) % 2 == 0) = trim (asc ((n + 1) / 2) (nxt f s)) := by
          unfold lessLead
          rw [l2, if_neg (by omega)]
          have mv : moved (asc ((n + 1 + 1) / 2) s) ((n + 1) % 2 == 0) = asc ((n + 1) / 2 + 1) s := by
            unfold moved
            by_cases q : (n + 1) % 2 = 0
            · rw [if_pos (by simp [q]), asc_zero _ _ (hs _ (by omega))]
              congr 1
              omega
            · rw [if_neg (by simp [q])]
              congr 1
              omega
          unfold rest0
          rw [mv, l1, l2, asc_zip]
          show trim (asc ((n + 1) / 2) _ ++ [f 0 * s 0 - s 0 * f 0]) = _
          rw [show f 0 * s 0 - s 0 * f 0 = 0 by grind, trim_zero]
          congr 2
          funext j
          simp only [nxt]
          grind
        rw [ll]
        have sh : (!((n + 1) % 2 == 0)) = (n % 2 == 0) := by
          rcases Nat.mod_two_eq_zero_or_one n with q | q
          · rw [show (n + 1) % 2 = 1 by omega, q]
            rfl
          · rw [show (n + 1) % 2 = 0 by omega, q]
            rfl
        rw [sh, show (n + 1 + 1) / 2 = n / 2 + 1 by omega]
        have ih := loop_RS n k s (nxt f s) p (fun j hj => hs j (by omega)) (fun j hj => by
          simp only [nxt]
          rw [hf (j + 1) (by omega), hs (j + 1) (by omega)]
          simp) (by
          rcases Nat.mod_two_eq_zero_or_one n with q | q
          · rw [if_pos q]
            rw [if_neg (by omega), show (n + 1) / 2 = n / 2 by omega] at hc
            exact hc
          · rw [if_neg (by omega)]
            rw [if_pos (by omega), show (n + 1) / 2 = n / 2 + 1 by omega] at hc
            simp only [nxt]
            rw [hs (n / 2 + 1) (by omega)]
            have := Int.mul_pos p hc
            omega) (by omega)
        rw [ih]
        exact ⟨fun h => ⟨h0, p, h⟩, fun h => h.2.2⟩
      · rw [if_pos (Or.inr (by
          have := Int.mul_nonneg (Int.le_of_lt h0) (show 0 ≤ - s 0 by omega)
          rw [Int.mul_neg] at this
          omega))]
        exact ⟨fun h => absurd h Bool.false_ne_true, fun h => absurd h.2.1 p⟩
theorem RS_pos : ∀ (n : Nat) (f s : Nat → Int), (∀ j, n < 2 * j → f j = 0) → (∀ j, n < 2 * j + 1 → s j = 0) → RS n f s → (∀ j, 2 * j ≤ n → 0 < f j) ∧ ∀ j, 2 * j + 1 ≤ n → 0 < s j
  | 0, f, s, _, _, h => ⟨fun j hj => by
      have : j = 0 := by omega
      subst this
      exact h, fun j hj => by omega⟩
  | n + 1, f, s, hf, hs, ⟨h0, h1, h2⟩ => by
    obtain ⟨p1, p2⟩ := RS_pos n s (nxt f s) (fun j hj => hs j (by omega)) (fun j hj => by
      simp only [nxt]
      rw [hf (j + 1) (by omega), hs (j + 1) (by omega)]
      simp) h2
    refine ⟨fun j hj => ?_, fun j hj => p1 j (by omega)⟩
    cases j with
    | zero => exact h0
    | succ j =>
      have e := p2 j (by omega)
      simp only [nxt] at e
      have s0 : 0 ≤ s (j + 1) := by
        by_cases q : 2 * (j + 1) ≤ n
        · exact Int.le_of_lt (p1 (j + 1) q)
        · rw [hs (j + 1) (by omega)]
          exact Int.le_refl 0
      have := Int.mul_nonneg (Int.le_of_lt h0) s0
      exact Int.pos_of_mul_pos_right (show 0 < s 0 * f (j + 1) by omega) h1
theorem asc_mem : ∀ (m : Nat) (b : Nat → Int) (x : Int), x ∈ asc m b ↔ ∃ j, j < m ∧ b j = x
  | 0, b, x => ⟨fun h => (nomatch h), fun ⟨j, hj, _⟩ => absurd hj (Nat.not_lt_zero j)⟩
  | m + 1, b, x => by
    show x ∈ asc m _ ++ [b 0] ↔ _
    rw [List.mem_append, asc_mem m]
    constructor
    · rintro (⟨j, hj, e⟩ | h)
      · exact ⟨j + 1, by omega, e⟩
      · exact ⟨0, by omega, (List.mem_singleton.mp h).symm⟩
    · rintro ⟨j, hj, e⟩
      cases j with
      | zero => exact .inr (List.mem_singleton.mpr e.symm)
      | succ j => exact .inl ⟨j, by omega, e⟩
/-- is_on_left of a polynomial with a positive lead -/
theorem onLeft_RS (n : Nat) (b : Nat → Int) (h0 : 0 < b 0) (hb : ∀ j, n < j → b j = 0) : onLeft (asc (n + 1) b) = true ↔ RS n (fun j => b (2 * j)) (fun j => b (2 * j + 1)) := by
  have l : lst (asc (n + 1) b) = b 0 := lst_snoc _ _
  unfold onLeft
  rw [l]
  by_cases h : (asc (n + 1) b).any (fun a => decide (a * b 0 ≤ 0)) = true
  · rw [if_pos h]
    refine ⟨fun e => absurd e Bool.false_ne_true, fun r => ?_⟩
    obtain ⟨p1, p2⟩ := RS_pos n _ _ (fun j hj => hb _ (by omega)) (fun j hj => hb _ (by omega)) r
    rw [List.any_eq_true] at h
    obtain ⟨x, hx, hd⟩ := h
    obtain ⟨j, hj, e⟩ := (asc_mem _ _ _).mp hx
    have hd := of_decide_eq_true hd
    have bj : 0 < b j := by
      rcases Nat.mod_two_eq_zero_or_one j with q | q
      · have := p1 (j / 2) (by omega)
        rw [show 2 * (j / 2) = j by omega] at this
        exact this
      · have := p2 (j / 2) (by omega)
        rw [show 2 * (j / 2) + 1 = j by omega] at this
        exact this
    rw [← e] at hd
    have := Int.mul_pos bj h0
    omega
  · rw [if_neg h]
    have pos : ∀ j, j < n + 1 → 0 < b j := by
      intro j hj
      apply Classical.byContradiction
      intro z
      apply h
      rw [List.any_eq_true]
      refine ⟨b j, (asc_mem _ _ _).mpr ⟨j, hj, rfl⟩, decide_eq_true ?_⟩
      have := Int.mul_nonneg (show 0 ≤ - b j by omega) (Int.le_of_lt h0)
      rw [Int.neg_mul] at this
      omega
    obtain ⟨q1, q2⟩ := parts n b
    have od : odd (asc (n + 1) b) = (n % 2 == 0) := by
      unfold odd
      rw [asc_len]
      rcases Nat.mod_two_eq_zero_or_one n with q | q
      · rw [show (n + 1) % 2 = 1 by omega, q]
        rfl
      · rw [show (n + 1) % 2 = 0 by omega, q]
        rfl
    have e1 : firstOf (asc (n + 1) b) = asc (n / 2 + 1) (fun j => b (2 * j)) := by
      have t : trim (asc (n / 2 + 1) (fun j => b (2 * j))) = asc (n / 2 + 1) (fun j => b (2 * j)) := trim_snoc _ (by show b (2 * 0) ≠ 0; simp; omega)
      unfold firstOf
      rw [od, ← q1] at *
      by_cases q : n % 2 = 0
      · rw [if_pos (by simp [q])]
        rw [if_pos q] at t q1 ⊢
        exact t
      · rw [if_neg (by simp [q])]
        rw [if_neg q] at t q1 ⊢
        exact t
    have e2 : secondOf (asc (n + 1) b) = trim (asc ((n + 1) / 2) (fun j => b (2 * j + 1))) := by
      unfold secondOf
      rw [od, ← q2]
      by_cases q : n % 2 = 0
      · rw [if_pos (by simp [q]), if_pos q]
      · rw [if_neg (by simp [q]), if_neg q]
    rw [e1, e2, od, asc_len]
    refine loop_RS n (n + 1 + 1) _ _ h0 (fun j hj => hb _ (by omega)) (fun j hj => hb _ (by omega)) ?_ (by omega)
    split
    · exact pos _ (by omega)
    · exact pos _ (by omega)
/-! ### the law's minors -/
def hurB (b : Nat → Int) (i j : Nat) : Int := if i ≤ 2 * j + 1 then b (2 * j + 1 - i) else 0
theorem hurB_eq (b : Nat → Int) : ∀ i, hurB b i = hur (fun j => b (2 * j)) (fun j => b (2 * j + 1)) i
  | 0 => by
    funext j
    simp [hurB, hur]
  | 1 => by
    funext j
    simp [hurB, hur]
  | i + 2 => by
    funext j
    show hurB b (i + 2) j = shr (hur (fun j => b (2 * j)) (fun j => b (2 * j + 1)) i) j
    rw [← hurB_eq b i]
    cases j with
    | zero =>
      simp only [hurB, shr]
      rw [if_neg (by omega)]
    | succ j =>
      simp only [hurB, shr]
      by_cases q : i ≤ 2 * j + 1
      · rw [if_pos q, if_pos (by omega)]
        congr 1
        omega
      · rw [if_neg q, if_neg (by omega)]
def dn (p : List Int) : Nat → Int := fun j => p.reverse.getD j 0
def norm (p : List Int) : List Int := if lst p < 0 then neg p else p
def minors (p : List Int) : Bool := decide (∀ k, k < (norm p).length - 1 → 0 < (Mb (hurB (dn (norm p))) k).1 k k)
theorem dn_zero {p : List Int} (h : p ≠ []) : dn p 0 = lst p := by
  have e := snoc_of p h
  unfold dn
  have r : p.reverse = lst p :: p.dropLast.reverse := by
    rw [e, List.reverse_append, ← e]
    rfl
  rw [r]
  rfl
theorem dn_far {p : List Int} {j : Nat} (h : p.length ≤ j) : dn p j = 0 := by
  unfold dn
  rw [List.getD_eq_getElem?_getD, List.getElem?_eq_none (by rw [List.length_reverse]; exact h)]
  rfl
theorem onLeft_of {p : List Int} (h : 0 < lst p) : onLeft p = true ↔ RS (p.length - 1) (fun j => dn p (2 * j)) (fun j => dn p (2 * j + 1)) := by
  have ne : p ≠ [] := fun z => by
    rw [z] at h
    exact absurd h (by decide)
  have pl : 0 < p.length := List.length_pos_iff.mpr ne
  have e := onLeft_RS (p.length - 1) (dn p) (by rw [dn_zero ne]; exact h) (fun j hj => dn_far (by omega))
  have a : asc (p.length - 1 + 1) (dn p) = p := by
    rw [Nat.sub_add_cancel pl]
    exact (asc_of p).symm
  rw [a] at e
  exact e
theorem minors_of {p : List Int} (h : 0 < lst p) : minors p = true ↔ RS (p.length - 1) (fun j => dn p (2 * j)) (fun j => dn p (2 * j + 1)) := by
  have ne : p ≠ [] := fun z => by
    rw [z] at h
    exact absurd h (by decide)
  unfold minors norm
  rw [if_neg (by omega), decide_eq_true_iff]
  have e : hurB (dn p) = hur (fun j => dn p (2 * j)) (fun j => dn p (2 * j + 1)) := funext (hurB_eq (dn p))
  rw [e]
  exact bareiss_RS (p.length - 1) _ _ (by
    show 0 < dn p (2 * 0)
    rw [Nat.mul_zero, dn_zero ne]
    exact h)
/-- the program's answer is the law's -/
theorem onLeft_minors (p : List Int) (h : lst p ≠ 0) : onLeft p = minors p := by
  rcases Int.lt_or_gt_of_ne h with q | q
  · have h' : 0 < lst (neg p) := by
      rw [lst_neg]
      omega
    have e1 := onLeft_of h'
    have e2 := minors_of h'
    have m : minors (neg p) = minors p := by
      unfold minors norm
      rw [if_neg (by omega), if_pos q]
    rw [onLeft_neg] at e1
    rw [m] at e2
    exact Bool.eq_iff_iff.mpr (e1.trans e2.symm)
  · exact Bool.eq_iff_iff.mpr ((onLeft_of q).trans (minors_of q).symm)
end K5
namespace K5
/-! ### a polynomial as a functional -/
def ev : List Int → Sq → Int
  | [], _ => 0
  | a :: l, u => a * u 0 + ev l (S u)
theorem ev_snoc : ∀ (l : List Int) (x : Int) (u : Sq), ev (l ++ [x]) u = ev l u + x * u l.length
  | [], x, u => by simp [ev]
  | a :: l, x, u => by
    show a * u 0 + ev (l ++ [x]) (S u) = a * u 0 + ev l (S u) + x * u (l.length + 1)
    rw [ev_snoc l x (S u)]
    simp only [S]
    omega
theorem ev_asc : ∀ (n : Nat) (b : Nat → Int) (u : Sq), ev (asc (n + 1) b) u = Fe n (fun j => b (2 * j)) u + Ge n (fun j => b (2 * j + 1)) u
  | 0, b, u => by simp [asc, ev, Fe, Ge]
  | n + 1, b, u => by
    show ev (asc (n + 1) (fun j => b (j + 1)) ++ [b 0]) u = _
    rw [ev_snoc, asc_len, ev_asc n (fun j => b (j + 1)) u]
    have g : Ge (n + 1) (fun j => b (2 * j + 1)) u = Fe n (fun j => b (2 * j + 1)) u := rfl
    rw [g]
    cases n with
    | zero => simp [Fe, Ge]; omega
    | succ m =>
      have h : Fe (m + 2) (fun j => b (2 * j)) u = Fe m (fun j => b (2 * j + 1 + 1)) u + b 0 * u (m + 2) := rfl
      have h2 : Ge (m + 1) (fun j => b (2 * j + 1 + 1)) u = Fe m (fun j => b (2 * j + 1 + 1)) u := rfl
      rw [h, h2, show m + 1 + 1 = m + 2 from rfl]
      omega
theorem sgn_s2 (i : Nat) : sgn (i + 2) = sgn i := by
  rw [sgn_s, sgn_s, Int.neg_neg]
theorem Fe_sg : ∀ (n : Nat) (f : Nat → Int) (u : Sq), Fe n f (sg u) = sgn n * Fe n f u
  | 0, f, u => by simp only [Fe, sg]; grind
  | 1, f, u => by simp only [Fe, sg]; grind
  | n + 2, f, u => by
    simp only [Fe]
    rw [Fe_sg n, sgn_s2]
    simp only [sg]
    rw [sgn_s2]
    grind
theorem Ge_sg (n : Nat) (s : Nat → Int) (u : Sq) : Ge n s (sg u) = - sgn n * Ge n s u := by
  cases n with
  | zero => simp [Ge]
  | succ n =>
    simp only [Ge]
    rw [Fe_sg, sgn_s, Int.neg_neg]
theorem PF.form {n : Nat} {f s : Nat → Int} {P : Sq → Int} {β : Sq → Sq → Int} (B : PF n P β) (h : ∀ u, P u = Fe n f u + Ge n s u) : Form n f s β := by
  refine ⟨B.toBil, fun u v => ?_⟩
  rw [B.eqn, h, h, h, h, Fe_sg, Fe_sg, Ge_sg, Ge_sg]
  have := sgn_sq n
  grind
theorem Pf_neg (k : Int) : ∀ (qs : List Fac) (u : Sq), Pf (-k) qs u = - Pf k qs u
  | [], u => Int.neg_mul k (u 0)
  | q :: qs, u => Pf_neg k qs (act q u)
theorem ev_neg : ∀ (l : List Int) (u : Sq), ev (neg l) u = - ev l u
  | [], u => rfl
  | a :: l, u => by
    show -a * u 0 + ev (neg l) (S u) = - (a * u 0 + ev l (S u))
    rw [ev_neg l, Int.neg_mul]
    omega
theorem pos_onLeft {p : List Int} {k : Int} {qs : List Fac} (hk : k ≠ 0) (h0 : 0 < lst p) (hl : p.length = dg qs + 1) (he : ∀ u, ev p u = Pf k qs u) (ho : ∀ q ∈ qs, q.ok) :
    ((∀ q ∈ qs, q.good) → onLeft p = true) ∧ ((∃ q, q ∈ qs ∧ q.bad) → onLeft p = false) := by
  have ne : p ≠ [] := fun z => by
    rw [z] at h0
    exact absurd h0 (by decide)
  have e1 := onLeft_of h0
  have e2 : p.length - 1 = dg qs := by omega
  rw [e2] at e1
  have hP : ∀ u, Pf k qs u = Fe (dg qs) (fun j => dn p (2 * j)) u + Ge (dg qs) (fun j => dn p (2 * j + 1)) u := by
    intro u
    rw [← he, ← ev_asc (dg qs) (dn p) u, ← hl]
    congr 1
    exact asc_of p
  have key : ∀ β, PF (dg qs) (Pf k qs) β → (onLeft p = true ↔ PD (dg qs) β) := by
    intro β B
    rw [e1]
    refine RS_PD (dg qs) _ _ β (fun j hj => dn_far (by omega)) (fun j hj => dn_far (by omega)) ?_ (B.form hP)
    show 0 < dn p (2 * 0)
    rw [Nat.mul_zero, dn_zero ne]
    exact h0
  constructor
  · intro hg
    obtain ⟨β, B, pd⟩ := good_PD hk qs hg
    exact (key β B).mpr pd
  · rintro ⟨q, hq, hb⟩
    obtain ⟨β, B, pd⟩ := bad_PD k qs ho hq hb
    cases e : onLeft p with
    | false => rfl
    | true => exact absurd ((key β B).mp e) pd
theorem prod_onLeft {p : List Int} {k : Int} {qs : List Fac} (h0 : 0 < k * lst p) (hl : p.length = dg qs + 1) (he : ∀ u, ev p u = Pf k qs u) (ho : ∀ q ∈ qs, q.ok) :
    ((∀ q ∈ qs, q.good) → onLeft p = true) ∧ ((∃ q, q ∈ qs ∧ q.bad) → onLeft p = false) := by
  have hk : k ≠ 0 := fun z => by
    rw [z, Int.zero_mul] at h0
    omega
  have h1 : lst p ≠ 0 := fun z => by
    rw [z, Int.mul_zero] at h0
    omega
  rcases Int.lt_or_gt_of_ne h1 with q | q
  · rw [← onLeft_neg]
    refine pos_onLeft (k := -k) (by omega) (by rw [lst_neg]; omega) (by rw [neg_len]; exact hl) (fun u => ?_) ho
    rw [ev_neg, he, Pf_neg]
  · exact pos_onLeft hk q hl he ho
/-! ### the law's product -/
def bump (l : List Int) (k : Nat) (x : Int) : List Int := l.set k (l.getD k 0 + x)
def tIn (l : List Int) (t : Nat) (a : Int) (other : List Int) : Nat → List Int
  | 0 => l
  | j + 1 => bump (tIn l t a other j) (t + j) (a * other.getD j 0)
def tOut (l one other : List Int) : Nat → List Int
  | 0 => l
  | i + 1 => tIn (tOut l one other i) i (one.getD i 0) other other.length
def times (one other : List Int) : List Int := if one = [] ∨ other = [] then [] else trim (tOut (List.replicate (one.length + other.length - 1) 0) one other one.length)
theorem bump_len (l : List Int) (k : Nat) (x : Int) : (bump l k x).length = l.length := by simp [bump]
theorem tIn_len (l : List Int) (t : Nat) (a : Int) (other : List Int) : ∀ j, (tIn l t a other j).length = l.length
  | 0 => rfl
  | j + 1 => by
    show (bump _ _ _).length = _
    rw [bump_len, tIn_len l t a other j]
theorem tOut_len (l one other : List Int) : ∀ i, (tOut l one other i).length = l.length
  | 0 => rfl
  | i + 1 => by
    show (tIn _ _ _ _ _).length = _
    rw [tIn_len, tOut_len l one other i]
theorem bump_ev : ∀ (l : List Int) (k : Nat) (x : Int) (u : Sq), k < l.length → ev (bump l k x) u = ev l u + x * u k
  | [], k, x, u, h => absurd h (Nat.not_lt_zero k)
  | a :: l, 0, x, u, h => by
    show (a + x) * u 0 + ev l (S u) = a * u 0 + ev l (S u) + x * u 0
    grind
  | a :: l, k + 1, x, u, h => by
    show a * u 0 + ev (bump l k x) (S u) = a * u 0 + ev l (S u) + x * u (k + 1)
    rw [bump_ev l k x (S u) (Nat.lt_of_succ_lt_succ h)]
    simp only [S]
    omega
theorem take_snoc (l : List Int) (j : Nat) (h : j < l.length) : l.take (j + 1) = l.take j ++ [l.getD j 0] := by
  rw [List.take_add_one, List.getD_eq_getElem?_getD, List.getElem?_eq_getElem h]
  rfl
theorem tIn_ev (l : List Int) (t : Nat) (a : Int) (other : List Int) (u : Sq) : ∀ j, j ≤ other.length → t + j ≤ l.length → ev (tIn l t a other j) u = ev l u + a * ev (other.take j) (fun x => u (x + t))
  | 0, _, _ => by simp [tIn, ev]
  | j + 1, h, h2 => by
    show ev (bump _ _ _) u = _
    rw [bump_ev _ _ _ _ (by rw [tIn_len]; omega), tIn_ev l t a other u j (by omega) (by omega), take_snoc other j (by omega), ev_snoc, List.length_take, Nat.min_eq_left (by omega), Nat.add_comm j t]
    grind
theorem tOut_ev (l one other : List Int) (u : Sq) : ∀ i, i ≤ one.length → i + other.length ≤ l.length + 1 → ev (tOut l one other i) u = ev l u + ev (one.take i) (fun t => ev other (fun x => u (x + t)))
  | 0, _, _ => by simp [tOut, ev]
  | i + 1, h, h2 => by
    show ev (tIn _ _ _ _ _) u = _
    rw [tIn_ev _ _ _ _ _ _ (Nat.le_refl _) (by rw [tOut_len]; omega), tOut_ev l one other u i (by omega) (by omega), take_snoc one i (by omega), ev_snoc, List.length_take, Nat.min_eq_left (by omega), List.take_length]
    omega
theorem ev_rep : ∀ (n : Nat) (u : Sq), ev (List.replicate n 0) u = 0
  | 0, u => rfl
  | n + 1, u => by
    show 0 * u 0 + ev (List.replicate n 0) (S u) = 0
    rw [ev_rep n]
    omega
theorem ev_far : ∀ (l : List Int) (u : Sq), (∀ i, i < l.length → u i = 0) → ev l u = 0
  | [], u, _ => rfl
  | a :: l, u, h => by
    show a * u 0 + ev l (S u) = 0
    rw [h 0 (by simp), ev_far l (S u) fun i hi => h (i + 1) (by simpa using hi)]
    omega
theorem ev_last {l : List Int} (h : l ≠ []) {u : Sq} (hu : ∀ i, i + 1 < l.length → u i = 0) : ev l u = lst l * u (l.length - 1) := by
  have e := snoc_of l h
  have ll : l.dropLast.length = l.length - 1 := List.length_dropLast
  have pl := List.length_pos_iff.mpr h
  have : ev l u = ev (l.dropLast ++ [lst l]) u := by rw [← e]
  rw [this, ev_snoc, ll, ev_far _ u fun i hi => hu i (by omega)]
  omega
/-- the sum of the sizes -/
def nrm : List Int → Nat
  | [] => 0
  | a :: l => a.natAbs + nrm l
theorem nrm_mem : ∀ (l : List Int) (x : Int), x ∈ l → x.natAbs ≤ nrm l
  | a :: l, x, h => by
    rcases List.mem_cons.mp h with e | e
    · subst e
      exact Nat.le_add_right _ _
    · exact Nat.le_trans (nrm_mem l x e) (Nat.le_add_left _ _)
theorem nrm_snoc : ∀ (l : List Int) (x : Int), nrm (l ++ [x]) = nrm l + x.natAbs
  | [], x => by simp [nrm]
  | a :: l, x => by
    show a.natAbs + nrm (l ++ [x]) = a.natAbs + nrm l + x.natAbs
    rw [nrm_snoc l x]
    omega
theorem nrm_bump : ∀ (l : List Int) (k : Nat) (x : Int), nrm (bump l k x) ≤ nrm l + x.natAbs
  | [], k, x => by simp [bump, nrm]
  | a :: l, 0, x => by
    show (a + x).natAbs + nrm l ≤ a.natAbs + nrm l + x.natAbs
    have := Int.natAbs_add_le a x
    omega
  | a :: l, k + 1, x => by
    show a.natAbs + nrm (bump l k x) ≤ a.natAbs + nrm l + x.natAbs
    have := nrm_bump l k x
    omega
theorem nrm_tIn (l : List Int) (t : Nat) (a : Int) (other : List Int) : ∀ j, j ≤ other.length → nrm (tIn l t a other j) ≤ nrm l + a.natAbs * nrm (other.take j)
  | 0, _ => Nat.le_add_right _ _
  | j + 1, h => by
    show nrm (bump _ _ _) ≤ _
    have h1 := nrm_bump (tIn l t a other j) (t + j) (a * other.getD j 0)
    have h2 := nrm_tIn l t a other j (by omega)
    rw [take_snoc other j (by omega), nrm_snoc, Nat.mul_add]
    rw [Int.natAbs_mul] at h1
    omega
theorem nrm_tOut (l one other : List Int) : ∀ i, i ≤ one.length → nrm (tOut l one other i) ≤ nrm l + nrm (one.take i) * nrm other
  | 0, _ => Nat.le_add_right _ _
  | i + 1, h => by
    show nrm (tIn _ _ _ _ _) ≤ _
    have h1 := nrm_tIn (tOut l one other i) i (one.getD i 0) other other.length (Nat.le_refl _)
    have h2 := nrm_tOut l one other i (by omega)
    rw [take_snoc one i (by omega), nrm_snoc, Nat.add_mul]
    rw [List.take_length] at h1
    omega
theorem nrm_rep : ∀ (n : Nat), nrm (List.replicate n 0) = 0
  | 0 => rfl
  | n + 1 => by
    show 0 + nrm (List.replicate n 0) = 0
    rw [nrm_rep n]
theorem times_facts {one other : List Int} (h1 : lst one ≠ 0) (h2 : lst other ≠ 0) :
    (times one other).length = one.length + other.length - 1 ∧ lst (times one other) = lst one * lst other ∧ (∀ u, ev (times one other) u = ev one (fun t => ev other (fun x => u (x + t)))) ∧ nrm (times one other) ≤ nrm one * nrm other := by
  have n1 : one ≠ [] := fun z => h1 (by rw [z]; rfl)
  have n2 : other ≠ [] := fun z => h2 (by rw [z]; rfl)
  have l1 := List.length_pos_iff.mpr n1
  have l2 := List.length_pos_iff.mpr n2
  generalize hr : tOut (List.replicate (one.length + other.length - 1) 0) one other one.length = r
  have len : r.length = one.length + other.length - 1 := by rw [← hr, tOut_len, List.length_replicate]
  have hev : ∀ u, ev r u = ev one (fun t => ev other (fun x => u (x + t))) := by
    intro u
    rw [← hr, tOut_ev _ _ _ _ _ (Nat.le_refl _) (by rw [List.length_replicate]; omega), ev_rep, List.take_length]
    omega
  have rne : r ≠ [] := fun z => by
    rw [z] at len
    simp at len
    omega
  have last : lst r = lst one * lst other := by
    have e := ev_last rne (u := e1 (r.length - 1)) fun i hi => by
      simp only [e1]
      rw [if_neg (by omega)]
    have e' : e1 (r.length - 1) (r.length - 1) = 1 := by simp [e1]
    rw [e', Int.mul_one] at e
    rw [← e, hev, ev_last n1]
    · rw [ev_last n2]
      · rw [show e1 (r.length - 1) (other.length - 1 + (one.length - 1)) = 1 by
          simp only [e1]
          rw [if_pos (by omega)], Int.mul_one]
      · intro i hi
        simp only [e1]
        rw [if_neg (by omega)]
    · intro i hi
      apply ev_far
      intro j hj
      simp only [e1]
      rw [if_neg (by omega)]
  have tr : times one other = r := by
    unfold times
    rw [if_neg (by
      rintro (h | h)
      · exact n1 h
      · exact n2 h), hr]
    exact trim_idem (.inr (by rw [last]; exact Int.mul_ne_zero h1 h2))
  rw [tr]
  refine ⟨len, last, hev, ?_⟩
  have h := nrm_tOut (List.replicate (one.length + other.length - 1) 0) one other one.length (Nat.le_refl _)
  rw [hr, nrm_rep, List.take_length] at h
  omega
/-- the factor of a list of two or three coefficients -/
def facOf : List Int → Fac
  | [c, b] => ⟨c, b, 0, 1⟩
  | [c, b, a] => ⟨c, b, a, 2⟩
  | _ => ⟨1, 0, 0, 1⟩
theorem fac_act {other : List Int} (h : (∃ c b, other = [c, b]) ∨ ∃ c b a, other = [c, b, a]) (u : Sq) : (fun t => ev other (fun x => u (x + t))) = act (facOf other) u := by
  funext t
  rcases h with ⟨c, b, rfl⟩ | ⟨c, b, a, rfl⟩
  · simp only [facOf, act, ev, S]
    rw [Nat.zero_add, Nat.zero_add, Nat.add_comm 1 t]
    omega
  · simp only [facOf, act, ev, S]
    rw [Nat.zero_add, Nat.zero_add, Nat.add_comm 1 t, Nat.add_comm (1 + 1) t, show t + (1 + 1) = t + 2 from rfl]
    omega
/-- what the law has built behind t turns -/
structure Made (t : Nat) (p : List Int) (due : Bool) (k : Int) (qs : List Fac) : Prop where
  sign : 0 < k * lst p
  len : p.length = dg qs + 1
  evs : ∀ u, ev p u = Pf k qs u
  ok : ∀ q ∈ qs, q.ok
  due_ : (due = true ∧ ∀ q ∈ qs, q.good) ∨ (due = false ∧ ∃ q, q ∈ qs ∧ q.bad)
  deg : dg qs ≤ 2 * t
  size : nrm p ≤ 2 * 11 ^ t
theorem Made.onLeft {t : Nat} {p : List Int} {due : Bool} {k : Int} {qs : List Fac} (M : Made t p due k qs) : onLeft p = due := by
  obtain ⟨h1, h2⟩ := prod_onLeft M.sign M.len M.evs M.ok
  rcases M.due_ with ⟨e, h⟩ | ⟨e, h⟩
  · rw [h1 h, e]
  · rw [h2 h, e]
theorem Made.last {t : Nat} {p : List Int} {due : Bool} {k : Int} {qs : List Fac} (M : Made t p due k qs) : lst p ≠ 0 := fun z => by
  have := M.sign
  rw [z, Int.mul_zero] at this
  omega
theorem made0 {k : Int} (h0 : k ≠ 0) (h2 : k.natAbs ≤ 2) : Made 0 [k] true k [] where
  sign := sq_pos h0
  len := rfl
  evs := fun u => by simp [ev, Pf]
  ok := fun q h => (nomatch h)
  due_ := .inl ⟨rfl, fun q h => (nomatch h)⟩
  deg := Nat.le_refl 0
  size := by simpa [nrm] using h2
theorem Made.step {t : Nat} {p : List Int} {due : Bool} {k : Int} {qs : List Fac} (M : Made t p due k qs) {other : List Int} (ho : (∃ c b, other = [c, b]) ∨ ∃ c b a, other = [c, b, a]) (hp : 0 < lst other) (hn : nrm other ≤ 11) :
    ((facOf other).good → Made (t + 1) (times p other) due k (facOf other :: qs)) ∧ ((facOf other).bad → Made (t + 1) (times p other) false k (facOf other :: qs)) := by
  obtain ⟨f1, f2, f3, f4⟩ := times_facts M.last (show lst other ≠ 0 by omega)
  have fd : (facOf other).d = other.length - 1 ∧ (facOf other).d ≤ 2 ∧ 2 ≤ other.length := by
    rcases ho with ⟨c, b, rfl⟩ | ⟨c, b, a, rfl⟩
    · exact ⟨rfl, by simp [facOf], by simp⟩
    · exact ⟨rfl, by simp [facOf], by simp⟩
  have hsign : 0 < k * lst (times p other) := by
    rw [f2, ← Int.mul_assoc]
    exact Int.mul_pos M.sign hp
  have hlen : (times p other).length = dg (facOf other :: qs) + 1 := by
    have h := M.len
    simp only [dg]
    omega
  have hevs : ∀ u, ev (times p other) u = Pf k (facOf other :: qs) u := by
    intro u
    rw [f3, fac_act ho, M.evs]
    rfl
  have hdeg : dg (facOf other :: qs) ≤ 2 * (t + 1) := by
    have h := M.deg
    simp only [dg]
    omega
  have hsize : nrm (times p other) ≤ 2 * 11 ^ (t + 1) := by
    have h := Nat.mul_le_mul M.size hn
    rw [Nat.pow_succ]
    omega
  constructor
  · intro hg
    refine ⟨hsign, hlen, hevs, fun q hq => ?_, ?_, hdeg, hsize⟩
    · rcases List.mem_cons.mp hq with e | e
      · rw [e]
        exact hg.ok
      · exact M.ok q e
    · rcases M.due_ with ⟨e, h⟩ | ⟨e, q, hq, hb⟩
      · refine .inl ⟨e, fun q hq => ?_⟩
        rcases List.mem_cons.mp hq with e | e
        · rw [e]
          exact hg
        · exact h q e
      · exact .inr ⟨e, q, List.mem_cons_of_mem _ hq, hb⟩
  · intro hb
    refine ⟨hsign, hlen, hevs, fun q hq => ?_, .inr ⟨rfl, _, List.mem_cons_self, hb⟩, hdeg, hsize⟩
    rcases List.mem_cons.mp hq with e | e
    · rw [e]
      exact hb.ok
    · exact M.ok q e
end K5

namespace K5W
open PySem PySem.Spec PyProof.Rows L2
/-! ### the text -/
def topS (i : Nat) : Stmt := PySem.Challenge.pw_coilnets_k05_whole_roots_on_the_left.main.body.getD i (.Pass ⟨0, 0, 0, 0⟩)
/-- a def that may be called -/
def Use (P : Program) (w : World) (K : PySem.W.Frag) (mg : Str → Option Value) (base : Heap) (x : Str) (k : Nat) (ps : List Str) (sp : Sp) : Prop :=
  ∃ (f : Addr) (fd : FuncData), FnOk P w K mg base CX0 k f fd ps sp ∧ mg x = some (.ref f) ∧ PySem.W.keepIn K (.ref f) = true ∧ Binds K fd ps []
/-- names that are still the built-in ones -/
structure Blt (mg : Str → Option Value) : Prop where
  isinstance : mg "isinstance" = none
  int : mg "int" = none
  bool : mg "bool" = none
  tuple : mg "tuple" = none
  list : mg "list" = none
  len : mg "len" = none
  all : mg "all" = none
  any : mg "any" = none
  zip : mg "zip" = none
  range : mg "range" = none
theorem pe_use {X : Cx} {x : Str} {k : Nat} {ps : List Str} {sp : Sp} {e : Expr} {es : List Expr} {t : TA} {p pos : Pos} (D : Use X.prog X.w X.K X.mg X.base x k ps sp) (hr : Room k X.A) (hg : Gl X x) (ha : PA X (e :: es) t)
    (he : starEach (e :: es) X.env = (false, eval e X.env) :: starEach es X.env := by rfl) (hpl : (backTo pos (starEach es X.env)).any (·.1) = false := by rfl) (hd : (x == ("__debug__" : Str)) = false := by decide) :
    PE X (.Call (.Name x p) (e :: es) [] pos) (tCall sp [] E0 t) := by
  obtain ⟨f, fd, G, g, kp, b⟩ := D
  exact pe_call G hr hg g kp b .nil pass0 ha hd he hpl
theorem same_upd {H : Hp} {p : Addr} {o : HO} (h : H p = none) : Same H (upd H p o) := fun b x e => by
  rw [upd_ne (ne_of_none e h)]
  exact e
/-! ### data -/
abbrev I (ns : List Int) : List V := ns.map V.int
theorem dp_ints {K : PySem.W.Frag} {H : Hp} : ∀ ns : List Int, DpAll K H (I ns) (ns.map PyData.int)
  | [] => .nil
  | n :: r => .cons (.int n) (dp_ints r)
theorem lay_ints : ∀ ns : List Int, PyData.canLayAll0 (ns.map PyData.int) = true
  | [] => rfl
  | n :: r => by
    show (true && PyData.canLayAll0 (r.map PyData.int)) = true
    rw [lay_ints r]
    rfl
theorem dep_ints : ∀ ns : List Int, PyData.depthAll (ns.map PyData.int) = 0
  | [] => rfl
  | n :: r => by
    show max 0 (PyData.depthAll (r.map PyData.int)) = 0
    rw [dep_ints r]
    rfl
theorem shaped_tup (ns : List Int) : SeqAt.shaped (.tuple (ns.map PyData.int)) = true := by
  show (PyData.canLayAll0 (ns.map PyData.int) && decide (PyData.depthAll (ns.map PyData.int) + 1 ≤ 64)) = true
  rw [lay_ints, dep_ints]
  rfl
theorem shaped_lst (ns : List Int) : SeqAt.shaped (.list (ns.map PyData.int)) = true := by
  show (PyData.canLayAll0 (ns.map PyData.int) && decide (PyData.depthAll (ns.map PyData.int) + 1 ≤ 64)) = true
  rw [lay_ints, dep_ints]
  rfl
theorem eqv_nilT (ns : List Int) : PyData.eqv (.tuple (ns.map PyData.int)) (.tuple []) = decide (ns = []) := by
  cases ns with
  | nil => rfl
  | cons n r =>
    rw [decide_eq_false (List.cons_ne_nil n r)]
    rfl
theorem eqv_nilL (ns : List Int) : PyData.eqv (.list (ns.map PyData.int)) (.list []) = decide (ns = []) := by
  cases ns with
  | nil => rfl
  | cons n r =>
    rw [decide_eq_false (List.cons_ne_nil n r)]
    rfl
/-- a comprehension's turn without a test -/
theorem yesT {σ : L2.St} {H : Hp} {A B : Hp → Prop} (h : A H) : tYes σ H fun b H3 => if b = true then A H3 else B H3 := by
  show if true = true then A H else B H
  exact iteT h
theorem yesT' {σ : L2.St} {H : Hp} {Q : Bool → Hp → Prop} (h : Q true H) : tYes σ H Q := h
/-- within a comprehension: the written part by its own name -/
theorem ixT {X : Cx} (K : PySem.W.Frag) (h : X.K = K := by rfl) : IxR X (rIxT K) := h ▸ ix_tup
theorem ixL {X : Cx} (K : PySem.W.Frag) (h : X.K = K := by rfl) : IxR X (rIxL K) := h ▸ ix_list
theorem listK {X : Cx} (K : PySem.W.Frag) (h : X.K = K := by rfl) : CallR X (.type "list") (fun xs H Q => ∃ p ys, xs = [.ref p] ∧ (SqL K H p ys ∨ SqT K H p ys) ∧ ∀ l, H l = none → Q (.ref l) (upd H l (.lst ys))) := h ▸ call_list_of
/-- a conditional expression whose ways meet -/
theorem if_meet {sh : Bool} {v : V} {ta tb : TE} {σ : L2.St} {H : Hp} {Q : VK} (ht : sh = true → ∀ Q : VK, Q v H → ta σ H Q) (hf : sh = false → ∀ Q : VK, Q v H → tb σ H Q) (h : Q v H) : if sh = true then ta σ H Q else tb σ H Q := by
  cases sh with
  | true => exact iteT (ht rfl Q h)
  | false => exact iteF (hf rfl Q h)
theorem small {n : Nat} (h : n ≤ 1000) : n ≤ sizeLine := Nat.le_of_lt (small1000 h)
theorem at_last {ns : List Int} (h : ns ≠ []) : atI (I ns) (-1) = some (.int (K5.lst ns)) := by
  have e := K5.snoc_of ns h
  have : atI (I (ns.dropLast ++ [K5.lst ns])) (-1) = some (.int (K5.lst ns)) := by
    rw [I, List.map_append]
    exact atI_last _ _
  rw [← e] at this
  exact this
theorem walk_zipT {K : PySem.W.Frag} {a b : Addr} {xs ys : List V} {n : Nat} (hn : n = min xs.length ys.length) : Walk (RZ.ItzT K a b) n (fun H => SqT K H a xs ∧ SqT K H b ys) (YPair (fun i => xs[i]?) (fun i => ys[i]?)) where
  goes := fun i H hi q => by
    have ix : xs[i]? = some (xs[i]'(by omega)) := List.getElem?_eq_getElem _
    have iy : ys[i]? = some (ys[i]'(by omega)) := List.getElem?_eq_getElem _
    exact ⟨_, _, _, _, q.1, q.2, ix, iy⟩
  stops := fun H q => ⟨_, _, q.1, q.2, by omega⟩
  yields := fun i H v H' hi q y => by
    obtain ⟨p, u, v', e, hp, eH, fx, fy⟩ := y
    exact ⟨p, u, v', e, hp, eH, fx xs q.1, fy ys q.2⟩
/-- all numbers below 2 ^ n in size -/
def Bd (n : Nat) (l : List Int) : Prop := ∀ x ∈ l, x.natAbs < 2 ^ n
theorem getI {ns : List Int} {i : Nat} (h : i < ns.length) : (I ns)[i]? = some (.int (ns.getD i 0)) := by
  rw [List.getElem?_map, List.getD_eq_getElem?_getD, List.getElem?_eq_getElem h]
  rfl
theorem getI_of {ns : List Int} {i : Nat} {x : V} (h : (I ns)[i]? = some x) : ∃ n, ns[i]? = some n ∧ x = .int n := by
  rw [List.getElem?_map] at h
  cases e : ns[i]? with
  | none =>
    rw [e] at h
    cases h
  | some n =>
    rw [e] at h
    exact ⟨n, rfl, (Option.some.inj h).symm⟩
theorem atI_of {ns : List Int} {i : Nat} {z : Int} (hz : z = (i : Int)) (h : i < ns.length) : atI (I ns) z = some (.int (ns.getD i 0)) := by
  subst hz
  exact atI_nat (getI h)
theorem lst_ne {ns : List Int} (h : K5.lst ns ≠ 0) : ns ≠ [] := fun z => h (by rw [z]; rfl)
end K5W

namespace K5W
open PySem PySem.Spec PyProof.Rows L2
section
variable {P : Program} {w : World} {K : PySem.W.Frag} {mg : Str → Option Value} {base : Heap}
/-! ### is_int, is_in -/
abbrev sIsInt : Stmt := topS 5
theorem scIsInt : FnScope ["value"] ["value"] (defScope sIsInt) := ⟨rfl, rfl, rfl, by decide +kernel, rfl, by decide +kernel, by decide +kernel⟩
def spIsInt : Sp := fun vs H Q _ => ∃ i : Int, vs = [.int i] ∧ Q (.bl true) H
theorem ok_is_int {f : Addr} {fd : FuncData} (F : Fun K "is_int" "is_int" sIsInt f fd) (B : Blt mg) : FnOk P w K mg base CX0 1 f fd ["value"] spIsInt := by
  refine F.ok scIsInt (fun vs H Q E h => ?_) (fun cdv A outer s H vs Q E hr h => ?_)
  · obtain ⟨i, rfl, _⟩ := h
    rfl
  · obtain ⟨i, rfl, q⟩ := h
    refine ⟨_, pss_one (ps_ret (pe_and (pe_callB call_isi (by rfl) B.isinstance PyProof.Rows.boot_isinstance (pa_cons (pv 0) (pa_cons (pe_bltn (v := .ty "int") (by rfl) B.int PyProof.Rows.boot_int rfl) pa_nil)))
      (pe_one (pe_not (pe_callB call_isi (by rfl) B.isinstance PyProof.Rows.boot_isinstance (pa_cons (pv 0) (pa_cons (pe_bltn (v := .ty "bool") (by rfl) B.bool PyProof.Rows.boot_bool rfl) pa_nil))))))), ?_⟩
    refine ⟨_, rfl, _, _, _, _, true, rfl, .ty _, .base (.int i), kit_ty (by decide +kernel), true, rfl, iteT ?_⟩
    exact ⟨_, rfl, _, _, _, _, false, rfl, .ty _, .base (.int i), kit_ty (by decide +kernel), false, rfl, q⟩
abbrev sIsIn : Stmt := topS 6
theorem scIsIn : FnScope ["value", "least", "most"] ["value", "least", "most"] (defScope sIsIn) := ⟨rfl, rfl, rfl, by decide +kernel, rfl, by decide +kernel, by decide +kernel⟩
def spIsIn : Sp := fun vs H Q _ => ∃ i a b : Int, vs = [.int i, .int a, .int b] ∧ a ≤ i ∧ i ≤ b ∧ Q (.bl true) H
theorem ok_is_in {f : Addr} {fd : FuncData} (F : Fun K "is_in" "is_in" sIsIn f fd) (D : Use P w K mg base "is_int" 1 ["value"] spIsInt) : FnOk P w K mg base CX0 2 f fd ["value", "least", "most"] spIsIn := by
  refine F.ok scIsIn (fun vs H Q E h => ?_) (fun cdv A outer s H vs Q E hr h => ?_)
  · obtain ⟨i, a, b, rfl, _⟩ := h
    rfl
  · obtain ⟨i, a, b, rfl, h1, h2, q⟩ := h
    refine ⟨_, pss_one (ps_ret (pe_and (pe_use D hr (by rfl) (pa_cons (pv 0) pa_nil)) (pe_one (pe_chain op_le op_le (pv 1) (pv 0) (pv 2))))), ?_⟩
    refine ⟨_, rfl, i, rfl, true, rfl, iteT ?_⟩
    refine ⟨_, rfl, _, rfl, _, _, rfl, rfl, _, rfl, ?_⟩
    rw [decide_eq_true h1]
    refine iteT ⟨_, rfl, _, _, rfl, rfl, ?_⟩
    show Q (V.bl (decide (i ≤ b))) H
    rw [decide_eq_true h2]
    exact q
end
end K5W

namespace K5W
open PySem PySem.Spec PyProof.Rows L2 HT
/-! ### t[::2], t[1::2] of a tuple -/
def every {α : Type} : List α → List α
  | [] => []
  | [a] => [a]
  | a :: _ :: l => a :: every l
theorem every_evens : ∀ ns : List Int, every (I ns) = I (K5.evens ns)
  | [] => rfl
  | [_] => rfl
  | a :: b :: r => by
    show V.int a :: every (I r) = V.int a :: I (K5.evens r)
    rw [every_evens r]
theorem every_odds : ∀ ns : List Int, every ((I ns).drop 1) = I (K5.odds ns)
  | [] => rfl
  | [_] => rfl
  | [_, _] => rfl
  | a :: b :: c :: r => by
    show V.int b :: every (I r) = V.int b :: I (K5.odds (c :: r))
    have h := every_odds (c :: r)
    rw [← h]
    rfl
theorem every_vals : ∀ {xs : List V} {us : List Value}, Vals xs us → Vals (every xs) (every us)
  | _, _, .nil => .nil
  | _, _, .cons r .nil => .cons r .nil
  | _, _, .cons r (.cons _ t) => .cons r (every_vals t)
theorem every_len {α : Type} : ∀ l : List α, (every l).length ≤ l.length
  | [] => Nat.le_refl _
  | [_] => Nat.le_refl _
  | a :: b :: l => by
    show (every l).length + 1 ≤ l.length + 1 + 1
    have := every_len l
    omega
theorem every_pick {α : Type} : ∀ l : List α, (List.range ((l.length + 1) / 2)).filterMap (fun m => l[2 * m]?) = every l
  | [] => by simp [every]
  | [a] => by
    have e : ([a].length + 1) / 2 = 1 := by simp
    rw [e, List.range_succ_eq_map]
    simp [every]
  | a :: b :: l => by
    have e : ((a :: b :: l).length + 1) / 2 = (l.length + 1) / 2 + 1 := by
      simp only [List.length_cons]
      omega
    rw [e, List.range_succ_eq_map, List.filterMap_cons]
    show a :: _ = a :: every l
    rw [← every_pick l, List.filterMap_map]
    congr 1
section
variable {prog : Program} {w : World} {A : Around} {E : Value → Shared → Prop} {s : Shared}
theorem places2 (d n : Nat) (hd : d ≤ n) : Builtin.Slice.slicePlaces (d : Int) (n : Int) 2 = (n - d + 1) / 2 := by
  unfold Builtin.Slice.slicePlaces
  have h1 : (2 : Int) > 0 := by omega
  simp only [h1, if_true]
  split <;> omega
theorem pick2 (xs : Array Value) (d : Nat) (hd : d ≤ xs.size) : ((List.range ((xs.size - d + 1) / 2)).filterMap fun (m : Nat) => xs[((d : Int) + (m : Int) * 2).toNat]?) = every (xs.toList.drop d) := by
  rw [← every_pick]
  have e : (xs.toList.drop d).length = xs.size - d := by rw [List.length_drop, Array.length_toList]
  rw [e]
  congr 1
  funext m
  have : ((d : Int) + (m : Int) * 2).toNat = d + 2 * m := by omega
  rw [this, List.getElem?_drop, Array.getElem?_toList]
theorem sliceApplied_two {sl : Addr} {vl vs : Value} {lo : Option Int} {n d : Nat} {Q : Int × Int × Nat → Shared → Prop} (hs : s.heap.IsSliceOf sl vl .none vs) (pl : IsPart vl lo) (ps : IsPart vs (some 2))
    (hlo : (lo = none ∧ d = 0) ∨ (lo = some 1 ∧ d = min 1 n)) (h : Q ((d : Int), 2, (n - d + 1) / 2) s) : wpAny (model prog w) A (Builtin.Slice.sliceApplied (.ref sl) (pure (n : Int))) Q E s := by
  obtain ⟨o, ho, _, hf⟩ := id hs
  unfold Builtin.Slice.sliceApplied
  unfold Builtin.Slice.sliceFields
  refine wpAny_bind (wpAny_bind (wpAny_field ho hf (x := vl) rfl (wpAny_bind (wpAny_field ho hf (x := .none) rfl (wpAny_bind (wpAny_field ho hf (x := vs) rfl (wpAny_pure ?_)))))))
  refine wpAny_bind (slicePart_ ps ?_)
  show wpAny _ _ (if ((2 : Int) == 0) = true then _ else _) _ _ s
  rw [if_neg (by decide)]
  refine wpAny_bind (slicePart_ pl (wpAny_bind (slicePart_none (wpAny_bind (wpAny_pure ?_)))))
  have e : Builtin.Slice.sliceAdjust lo none 2 (n : Int) = ((d : Int), (n : Int)) := by
    unfold Builtin.Slice.sliceAdjust
    have h1 : ¬ ((2 : Int) < 0) := by omega
    simp only [h1, if_false]
    rcases hlo with ⟨rfl, rfl⟩ | ⟨rfl, rfl⟩
    · rfl
    · refine Prod.ext ?_ rfl
      show (if (1 : Int) < 0 then max (1 + (n : Int)) 0 else min 1 (n : Int)) = ((min 1 n : Nat) : Int)
      rw [if_neg (by omega)]
      omega
  show wpAny _ _ (match Builtin.Slice.sliceAdjust lo none 2 (n : Int) with | (lo, hi) => pure (lo, (2 : Int), Builtin.Slice.slicePlaces lo hi 2)) _ _ s
  rw [e]
  show wpAny _ _ (pure ((d : Int), (2 : Int), Builtin.Slice.slicePlaces (d : Int) (n : Int) 2)) _ _ s
  have hd : d ≤ n := by
    rcases hlo with ⟨_, e⟩ | ⟨_, e⟩ <;> omega
  rw [places2 d n hd]
  exact wpAny_pure h
theorem getItem_tuple_two {t sl : Addr} {items : Array Value} {vl vs : Value} {lo : Option Int} {d : Nat} {Q : Value → Shared → Prop} (ht : IsTup s.heap t items) (hs : s.heap.IsSliceOf sl vl .none vs) (pl : IsPart vl lo) (ps : IsPart vs (some 2))
    (hlo : (lo = none ∧ d = 0) ∨ (lo = some 1 ∧ d = min 1 items.size))
    (h : Q (.ref s.heap.objs.size) { s with heap := s.heap.push { cls := .type "tuple", data := .seq (every (items.toList.drop d)).toArray } })
    (hsz : items.size ≤ sizeLine) : wpAny (model prog w) A (getItem (.ref t) (.ref sl)) Q E s := by
  have hd : d ≤ items.size := by
    rcases hlo with ⟨_, e⟩ | ⟨_, e⟩ <;> omega
  have htake : sizeOk (.seq (every (items.toList.drop d)).toArray) := by
    show (every (items.toList.drop d)).toArray.size ≤ sizeLine
    rw [List.size_toArray]
    refine Nat.le_trans (every_len (items.toList.drop d)) ?_
    rw [List.length_drop, Array.length_toList]
    omega
  have sliceIs : s.TypeIs (.ref sl) "slice" := by
    obtain ⟨o, h1, h2, _⟩ := id hs
    exact ⟨o, h1, h2⟩
  have step2 : ((d : Int) == 0 && (2 : Int) == 1 && (items.size - d + 1) / 2 == items.size) = false := by
    rw [show ((2 : Int) == 1) = false from rfl, Bool.and_false, Bool.false_and]
  unfold getItem
  refine wpAny_holding (wpAny_bind (wpAny_sequenceKey ht.typeIs (by decide) (wpAny_bind (wpAny_callSpecial?_slot (name := Str.ofString "__getitem__") ht.typeIs PyProof.Rows.slot_tuple_getitem
    (wpAny_call_entry PyProof.Rows.slot_tuple_getitem ht.typeIs entry_tuple_getitem ?body (args_tuple_getitem _ _))))))
  case body =>
    change wpAny _ _ (Builtin.Tuple.tupleItemsOf _ >>= _) _ _ _
    refine wpAny_bind (tupleItemsOf_ ht (wpAny_bind (wpAny_typeOf sliceIs ?_)))
    rw [if_pos (by decide)]
    refine wpAny_bind (sliceApplied_two hs pl ps hlo ?_)
    change wpAny _ _ (if ((d : Int) == 0 && (2 : Int) == 1 && (items.size - d + 1) / 2 == items.size) = true then _ else _) _ _ _
    rw [step2, if_neg Bool.false_ne_true, pick2 items d hd]
    have fin : wpAny (model prog w) A.in1 (Builtin.Tuple.tupleExact (every (items.toList.drop d)).toArray) (fun v s' => v = .ref s.heap.objs.size ∧ s' = { s with heap := s.heap.push { cls := .type "tuple", data := .seq (every (items.toList.drop d)).toArray } }) E s := wpAny_newObj_type ⟨rfl, rfl⟩ htake
    refine wpAny_bind (wpAny_mono fin (fun v s' hv => ?_) fun _ _ e => e)
    rw [hv.1, hv.2]
    exact wpAny_pure ⟨_, rfl, wpAny_pure h⟩
end
section
variable {X : Cx}
/-- t[lo::2] -/
def tTwo (K : PySem.W.Frag) (te : TE) (tl : TO) : TE := fun σ H Q => te σ H fun x H1 => tl σ H1 fun o H2 => ∃ a xs, x = .ref a ∧ SqT K H2 a xs ∧ (o = none ∨ o = some 1) ∧ ∀ p, H2 p = none → Q (.ref p) (upd H2 p (.tup (every (if o = none then xs else xs.drop 1))))
theorem pe_two {e : Expr} {te : TE} {tl : TO} {lo : Option Expr} {k : Nat} {p1 p3 pos : Pos} (he : PE X e te) (hl : PO X lo tl) : PE X (.Subscript e (.Slice lo none (some (.Constant (.int 2) k p1)) p3) pos) (tTwo X.K te tl) := by
  refine ⟨fun pins s σ H Q I0 h => ?_⟩
  refine Subscript_ (thn (he.run pins s σ H _ I0 h) fun v s1 ⟨x, H1, I1, r1, q1⟩ => ?_)
  have hst : PO X (some (.Constant (.int 2) k p1)) (tPart (tC (.int 2))) := po_some pe_int
  refine wpAny_Slice (thn (hl.run pins s1 σ H1 _ I1 q1) fun vl s2 ⟨o, H2, I2, pl, q2⟩ => ?_)
  have noHi : tNoPart σ H2 fun p H3 => p = none ∧ H3 = H2 := ⟨rfl, rfl⟩
  refine thn (po_none.run pins s2 σ H2 _ I2 noHi) fun vu s3 ⟨u, H3, I3, pu, eu, e3⟩ => ?_
  subst eu e3
  refine thn (hst.run pins s3 σ H3 (fun o H4 => o = some 2 ∧ H4 = H3) I3 ⟨2, rfl, rfl, rfl⟩) fun vs s4 ⟨o', H4, I4, ps, eo, e4⟩ => ?_
  subst eo e4
  obtain ⟨a, xs, ex, hx, ho, q⟩ := q2
  subst ex
  cases r1
  cases pu
  have I5 : Inv X pins σ H4 { s4 with heap := s4.heap.push { cls := .type "slice", data := .fields #[vl, .none, vs] } } := I4.kept (t' := s4.toks) fun b ob q => Heap.get?_push_of_some _ q
  obtain ⟨its, r, ht, hz⟩ := I5.tuple hx
  have hlen := r.length
  show wpAny (model X.prog X.w) X.A (subscriptTail e (.Slice lo none (some (.Constant (.int 2) k p1)) p3) (.ref a) (.ref s4.heap.objs.size)) (EP X pins σ Q) X.xe { s4 with heap := s4.heap.push { cls := .type "slice", data := .fields #[vl, .none, vs] } }
  refine tail_any (ops := [.ref a, .ref s4.heap.objs.size]) ht.typeIs (PyProof.Rows.slot_tuple_getitem.lookup) ?_ (by with_unfolding_all rfl)
  have key : ∀ d, (o = none ∧ d = 0) ∨ (o = some 1 ∧ d = min 1 its.toArray.size) → every (if o = none then xs else xs.drop 1) = every (xs.drop d) := by
    intro d hd
    rcases hd with ⟨e1, e2⟩ | ⟨e1, e2⟩
    · rw [if_pos e1, e2, List.drop_zero]
    · rw [if_neg (by rw [e1]; exact fun z => nomatch z), e2]
      rw [List.size_toArray, ← hlen]
      cases xs with
      | nil => rfl
      | cons y ys =>
        rw [show min 1 (y :: ys).length = 1 by
          rw [List.length_cons]
          omega]
  obtain ⟨d, hd⟩ : ∃ d, (o = none ∧ d = 0) ∨ (o = some 1 ∧ d = min 1 its.toArray.size) := by
    rcases ho with e | e
    · exact ⟨0, .inl ⟨e, rfl⟩⟩
    · exact ⟨_, .inr ⟨e, rfl⟩⟩
  rw [key d hd] at q
  refine getItem_tuple_two ht (Heap.IsSliceOf.new _ vl .none vs) pl ps hd ?_ (by rw [List.size_toArray]; omega)
  refine ⟨.ref _, _, I5.laid (t' := s4.toks) (o := .tup (every (xs.drop d))) (fun b ob q => Heap.get?_push_of_some _ q) (Nat.le_refl _) ?_, rfl, q _ (I5.hok.fresh (Nat.le_refl _))⟩
  refine ⟨?_, every (its.drop d), every_vals (r.drop d), ?_⟩
  · have := every_len (xs.drop d)
    rw [List.length_drop] at this
    omega
  · exact IsTup.new _ _
end
end K5W

namespace K5W
open PySem PySem.Spec PyProof.Rows L2
section
variable {P : Program} {w : World} {K : PySem.W.Frag} {mg : Str → Option Value} {base : Heap}
/-! ### is_poly, need_poly, need_nonzero -/
abbrev sIsPoly : Stmt := topS 9
theorem scIsPoly : FnScope ["value", "one"] ["value"] (defScope sIsPoly) := ⟨rfl, rfl, rfl, by decide +kernel, rfl, by decide +kernel, by decide +kernel⟩
/-- a polynomial of the kind that the law builds, at p -/
structure Pol (H : Hp) (p : Addr) (ns : List Int) : Prop where
  at_ : H p = some (.tup (I ns))
  len : ns.length ≤ 13
  low : ∀ n ∈ ns, -(10 ^ 60) ≤ n ∧ n ≤ 10 ^ 60
  last : K5.lst ns ≠ 0
theorem Pol.same {H H' : Hp} {p : Addr} {ns : List Int} (h : Pol H p ns) (s : Same H H') : Pol H' p ns := ⟨s _ _ h.at_, h.len, h.low, h.last⟩
def spIsPoly : Sp := fun vs H Q _ => ∃ (p : Addr) (ns : List Int), vs = [.ref p] ∧ Pol H p ns ∧ ∀ H', Same H H' → Q (.bl true) H'
theorem all_true (n : Nat) : ((List.replicate n true).all id) = true := by simp
theorem ok_is_poly {f : Addr} {fd : FuncData} {t1 t2 : Tok} (F : Fun K "is_poly" "is_poly" sIsPoly f fd) (B : Blt mg) (gS : mg "MOST_SIZE" = some (.int (10 ^ 60) t1)) (gD : mg "MOST_DEGREE" = some (.int 12 t2))
    (D : Use P w K mg base "is_in" 2 ["value", "least", "most"] spIsIn) : FnOk P w K mg base CX0 3 f fd ["value"] spIsPoly := by
  refine F.ok scIsPoly (fun vs H Q E h => ?_) (fun cdv A outer s H vs Q E hr h => ?_)
  · obtain ⟨p, ns, rfl, _⟩ := h
    rfl
  · obtain ⟨p, ns, rfl, hp, q⟩ := h
    refine ⟨_, pss_cons (ps_if (PW.pt (pw_or (pt_not (pt_val (pe_callB call_isi (by rfl) B.isinstance PyProof.Rows.boot_isinstance (pa_cons (pv 0) (pa_cons (pe_bltn (v := .ty "tuple") (by rfl) B.tuple PyProof.Rows.boot_tuple rfl) pa_nil)))))
          (pw_or1 (pt_cmpR op_gt (pe_callB call_len_seq (by rfl) B.len PySem.boot_len (pa_cons (pv 0) pa_nil)) (pe_op op_add (pe_glob (v := .int 12) (by rfl) gD ⟨_, rfl⟩) pe_int) (nomark _)))))
        (pss_one (ps_ret pe_bl)) pss_nil)
      (pss_cons (ps_if (pt_not (pt_val (pe_callB (cr_all rfl) (by rfl) B.all (by decide +kernel) (pa_cons
          (pe_lc (own := [("one", 1)]) (g := gName 1) (tt := tYes) (by rfl) scIsPoly.nd (pi_tup (pv 0)) (blkOk_by (own := [("one", 1)]) (N := ["value", "one"]) (sc := defScope sIsPoly) (by decide +kernel)) (fun _ _ _ _ _ => pg_name (i := 1) scIsPoly.nd rfl (Or.inl rfl)) (fun _ _ _ _ _ => pts_nil)
            (fun _ _ _ _ _ => pe_use D hr (by rfl) (pa_cons (pv 1) (pa_cons (pe_un un_neg (pe_glob (v := .int (10 ^ 60)) (by rfl) gS ⟨_, rfl⟩)) (pa_cons (pe_glob (v := .int (10 ^ 60)) (by rfl) gS ⟨_, rfl⟩) pa_nil)))))
          pa_nil))))
        (pss_one (ps_ret pe_bl)) pss_nil)
      (pss_one (ps_ret (pe_or (pe_cmpR (op_eqD hr.units) (pv 0) (pe_tup pa_nil) (nomark _)) (pe_one (pe_cmpR op_ne (pe_ix ix_tup (pv 0) (pe_un un_neg pe_int) (fun _ _ => rfl)) pe_int (nomark _))))))), ?_⟩
    -- not isinstance(value, tuple) or len(value) > MOST_DEGREE + 1
    refine ⟨_, rfl, _, _, _, _, true, rfl, .ty _, .base (.tup hp.at_), kit_ty (by decide +kernel), true, rfl, iteF ?_⟩
    refine ⟨_, rfl, p, I ns, rfl, .inr (SqT.of hp.at_), _, _, rfl, rfl, _, _, rfl, rfl, _, rfl, ?_⟩
    have hl : decide ((12 : Int) + 1 < (I ns).length) = false := decide_eq_false (by
      have := hp.len
      rw [List.length_map]
      omega)
    show (if decide ((12 : Int) + 1 < (I ns).length) = true then _ else _)
    rw [hl]
    refine iteF ?_
    -- all([..])
    refine ⟨_, rfl, p, rfl, ⟨_, SqT.of hp.at_⟩, fun D hD => ?_⟩
    refine lc_tup (xs := I ns) (fun i H1 => Same H H1 ∧ H1 D = some (.lst ((List.replicate i true).map V.bl))) ⟨same_upd hD, upd_same⟩ (fun i H1 _ h1 => SqT.of (h1.1 _ _ hp.at_)) (fun i x H1 hx h1 => ?_) (fun H1 h1 => ?_)
    · refine ⟨rfl, yesT ?_⟩
      obtain ⟨n, hn, rfl⟩ : ∃ n, ns[i]? = some n ∧ V.int n = x := by
        rw [List.getElem?_map] at hx
        cases e : ns[i]? with
        | none =>
          rw [e] at hx
          cases hx
        | some n =>
          rw [e] at hx
          exact ⟨n, rfl, Option.some.inj hx⟩
      obtain ⟨l1, l2⟩ := hp.low n (List.mem_of_getElem? hn)
      refine ⟨_, rfl, 10 ^ 60, rfl, n, -(10 ^ 60), 10 ^ 60, rfl, l1, l2, _, h1.2, ?_, ?_, ?_⟩
      · rw [List.length_map, List.length_replicate]
        have := (List.getElem?_eq_some_iff.mp hn).1
        have := hp.len
        exact small1000 (by omega)
      · exact fun b o e => by
          rw [upd_ne (ne_of_none e hD)]
          exact h1.1 _ _ e
      · rw [upd_same, List.replicate_succ', List.map_append]
        rfl
    · refine ⟨D, _, rfl, SqL.of h1.2, true, by rw [all_true], iteF ?_⟩
      -- value == () or value[-1] != 0
      have hp1 := h1.1 _ _ hp.at_
      refine ⟨_, rfl, small (Nat.zero_le _), fun e he => ?_⟩
      have s2 : Same H1 (upd H1 e (.tup [])) := same_upd he
      have ne := lst_ne hp.last
      refine ⟨.tuple (ns.map PyData.int), .tuple [], .tup (SqT.of (s2 _ _ hp1)) (dp_ints ns), .tup (SqT.of upd_same) .nil, shaped_tup ns, by decide, _, rfl, ?_⟩
      rw [eqv_nilT, decide_eq_false ne]
      refine iteF ?_
      refine ⟨_, rfl, 1, rfl, p, I ns, -1, _, rfl, rfl, SqT.of (s2 _ _ hp1), at_last ne, rfl, ?_⟩
      have z : decide (V.int (K5.lst ns) = V.int 0) = false := decide_eq_false fun z => hp.last (V.int.inj z)
      show Q (.bl (!decide (V.int (K5.lst ns) = V.int 0))) _
      rw [z]
      exact q _ (h1.1.trans s2)
abbrev sNeedPoly : Stmt := topS 10
theorem scNeedPoly : FnScope ["value"] ["value"] (defScope sNeedPoly) := ⟨rfl, rfl, rfl, by decide +kernel, rfl, by decide +kernel, by decide +kernel⟩
def spNeed : Sp := fun vs H Q _ => ∃ (p : Addr) (ns : List Int), vs = [.ref p] ∧ Pol H p ns ∧ ∀ H', Same H H' → Q .non H'
theorem ok_need_poly {f : Addr} {fd : FuncData} (F : Fun K "need_poly" "need_poly" sNeedPoly f fd) (D : Use P w K mg base "is_poly" 3 ["value"] spIsPoly) : FnOk P w K mg base CX0 4 f fd ["value"] spNeed := by
  refine F.ok scNeedPoly (fun vs H Q E h => ?_) (fun cdv A outer s H vs Q E hr h => ?_)
  · obtain ⟨p, ns, rfl, _⟩ := h
    rfl
  · obtain ⟨p, ns, rfl, hp, q⟩ := h
    refine ⟨_, pss_one (ps_if (pt_not (pt_val (pe_use D hr (by rfl) (pa_cons (pv 0) pa_nil)))) pss_never pss_nil), ?_⟩
    exact ⟨_, rfl, p, ns, rfl, hp, fun H' s => ⟨true, rfl, iteF (q _ s)⟩⟩
abbrev sNeedNz : Stmt := topS 15
theorem scNeedNz : FnScope ["value"] ["value"] (defScope sNeedNz) := ⟨rfl, rfl, rfl, by decide +kernel, rfl, by decide +kernel, by decide +kernel⟩
theorem ok_need_nonzero {f : Addr} {fd : FuncData} (F : Fun K "need_nonzero" "need_nonzero" sNeedNz f fd) (D : Use P w K mg base "need_poly" 4 ["value"] spNeed) : FnOk P w K mg base CX0 5 f fd ["value"] spNeed := by
  refine F.ok scNeedNz (fun vs H Q E h => ?_) (fun cdv A outer s H vs Q E hr h => ?_)
  · obtain ⟨p, ns, rfl, _⟩ := h
    rfl
  · obtain ⟨p, ns, rfl, hp, q⟩ := h
    refine ⟨_, pss_cons (ps_expr (pe_use D hr (by rfl) (pa_cons (pv 0) pa_nil)))
      (pss_one (ps_if (pt_cmpR (op_eqD hr.units) (pv 0) (pe_tup pa_nil) (nomark _)) pss_never pss_nil)), ?_⟩
    refine ⟨_, rfl, p, ns, rfl, hp, fun H1 s1 => ?_⟩
    refine ⟨_, rfl, small (Nat.zero_le _), fun e he => ?_⟩
    have s2 : Same H1 (upd H1 e (.tup [])) := same_upd he
    refine ⟨.tuple (ns.map PyData.int), .tuple [], .tup (SqT.of (s2 _ _ (s1 _ _ hp.at_))) (dp_ints ns), .tup (SqT.of upd_same) .nil, shaped_tup ns, by decide, _, rfl, ?_⟩
    rw [eqv_nilT, decide_eq_false (lst_ne hp.last)]
    exact iteF (q _ (s1.trans s2))
end
end K5W

namespace K5W
open PySem PySem.Spec PyProof.Rows L2
section
variable {P : Program} {w : World} {K : PySem.W.Frag} {mg : Str → Option Value} {base : Heap}
/-! ### trimmed, even_part, odd_part -/
abbrev sTrim : Stmt := topS 11
theorem scTrim : FnScope ["some", "many"] ["some"] (defScope sTrim) := ⟨rfl, rfl, rfl, by decide +kernel, rfl, by decide +kernel, by decide +kernel⟩
def spTrim : Sp := fun vs H Q _ => ∃ (p : Addr) (ns : List Int), vs = [.ref p] ∧ H p = some (.tup (I ns)) ∧ ns.length ≤ 1000 ∧ ∀ H' q, Same H H' → H' q = some (.tup (I (K5.trim ns))) → Q (.ref q) H'
/-- a tuple's first many, as an object of its own or the tuple itself -/
theorem cut_to {H : Hp} {p : Addr} {ns : List Int} {m : Nat} {Q : VK} (hp : H p = some (.tup (I ns))) (hm : m ≤ ns.length) (h : ∀ H' q, Same H H' → H' q = some (.tup (I (ns.take m))) → Q (.ref q) H') :
    rSlA K (.ref p) none (some (m : Int)) H Q := by
  refine ⟨p, I ns, rfl, SqT.of hp, fun hw => ?_, fun hw q hq => ?_⟩
  · rw [HT.sIx_nat, List.length_map] at hw
    have e : ns.take m = ns := List.take_of_length_le (by omega)
    exact h H p (Same.refl H) (by rw [e]; exact hp)
  · refine h _ q (same_upd hq) ?_
    have e : cutV (I ns) none (some (m : Int)) = I (ns.take m) := by
      unfold cutV
      rw [HT.sIx_nat, HT.sIx_none, List.length_map, List.drop_zero, Nat.sub_zero, Nat.min_eq_left hm, I, I, List.map_take]
    rw [e]
    exact upd_same
theorem ok_trimmed {f : Addr} {fd : FuncData} (F : Fun K "trimmed" "trimmed" sTrim f fd) (B : Blt mg) : FnOk P w K mg base CX0 1 f fd ["some"] spTrim := by
  refine F.ok scTrim (fun vs H Q E h => ?_) (fun cdv A outer s H vs Q E hr h => ?_)
  · obtain ⟨p, ns, rfl, _⟩ := h
    rfl
  · obtain ⟨p, ns, rfl, hp, hl, q⟩ := h
    refine ⟨_, pss_cons (ps_set (i := 1) scTrim.nd rfl (.inl rfl) (pe_callB call_len_seq (by rfl) B.len PySem.boot_len (pa_cons (pv 0) pa_nil)))
      (pss_cons (ps_while PassesOwn.never (PW.pt (pw_and (pt_cmpR op_gt (pv 1) pe_int (nomark _)) (pw_and1 (pt_cmpR op_eq (pe_ix ix_tup (pv 0) (pe_op op_sub (pv 1) pe_int) (fun _ _ => rfl)) pe_int (nomark _)))))
        (pss_one (ps_aug (i := 1) scTrim.nd rfl (.inl rfl) pe_int ip_sub)))
      (pss_one (ps_ret (pe_callTy call_tuple_of (by rfl) B.tuple PyProof.Rows.boot_tuple (pa_cons (pe_slice sl_tupA (pv 0) po_none (po_some (pv 1))) pa_nil))))), ?_⟩
    refine ⟨_, rfl, p, I ns, rfl, .inr (SqT.of hp), ?_⟩
    have done : ∀ m : Nat, m ≤ ns.length → ns.take m = K5.trim ns → rSlA K (.ref p) none (some (m : Int)) H fun x H1 => ∃ p' ys, [x] = [V.ref p'] ∧ ((SqL K H1 p' ys ∧ ∀ l, H1 l = none → Q (.ref l) (upd H1 l (.tup ys))) ∨ (SqT K H1 p' ys ∧ Q (.ref p') H1)) := by
      intro m hm e
      refine cut_to hp hm fun H' t sm ht => ?_
      rw [e] at ht
      exact ⟨t, _, rfl, .inr ⟨SqT.of ht, q H' t sm ht⟩⟩
    refine ⟨fun m σ H1 => σ = [some (.ref p), some (.int (m : Int))] ∧ H1 = H ∧ m ≤ ns.length ∧ K5.trim (ns.take m) = K5.trim ns, ⟨ns.length, ?_, rfl, Nat.le_refl _, by rw [List.take_length]⟩, ?_⟩
    · show [some (V.ref p), some (V.int ((I ns).length : Int))] = _
      rw [List.length_map]
    · rintro m σ H1 ⟨rfl, rfl, hm, et⟩
      refine ⟨_, rfl, _, _, rfl, rfl, _, rfl, ite2 (fun h0 => ?_) (fun h0 => ?_)⟩
      · have h0 : (0 : Int) < m := of_decide_eq_true h0
        obtain ⟨j, rfl⟩ : ∃ j, m = j + 1 := ⟨m - 1, by omega⟩
        have ts := K5.take_snoc ns j (by omega)
        refine ⟨_, rfl, _, rfl, _, _, rfl, rfl, p, I ns, _, _, rfl, rfl, SqT.of hp, atI_of (i := j) (by omega) (by omega), rfl, _, rfl, ite2 (fun hz => ?_) (fun hz => ?_)⟩
        · have hz : ns.getD j 0 = 0 := V.int.inj (of_decide_eq_true hz)
          refine ⟨fun σ' H' => σ' = [some (.ref p), some (.int (j : Int))] ∧ H' = H1, fun σ' H' h => ⟨j, Nat.lt_succ_self j, h.1, h.2, by omega, ?_⟩, ?_⟩
          · rw [ts, hz, K5.trim_zero] at et
            exact et
          · refine ⟨_, rfl, _, _, rfl, rfl, ?_, rfl⟩
            show [some (V.ref p), some (V.int (((j + 1 : Nat) : Int) - 1))] = _
            rw [show ((j + 1 : Nat) : Int) - 1 = (j : Int) by omega]
        · have hz : ns.getD j 0 ≠ 0 := fun z => hz (decide_eq_true (by rw [z]))
          rw [ts, K5.trim_snoc _ hz, ← ts] at et
          exact ⟨_, rfl, _, rfl, _, rfl, done _ hm et⟩
      · have h0 : m = 0 := by
          have : ¬ (0 : Int) < m := fun z => h0 (decide_eq_true z)
          omega
        subst h0
        exact ⟨_, rfl, _, rfl, _, rfl, done 0 hm (by rw [← et]; rfl)⟩
abbrev sEven : Stmt := topS 12
theorem scEven : FnScope ["one"] ["one"] (defScope sEven) := ⟨rfl, rfl, rfl, by decide +kernel, rfl, by decide +kernel, by decide +kernel⟩
def spEven : Sp := fun vs H Q _ => ∃ (p : Addr) (ns : List Int), vs = [.ref p] ∧ H p = some (.tup (I ns)) ∧ ns.length ≤ 1000 ∧ ∀ H' q, Same H H' → H' q = some (.tup (I (K5.trim (K5.evens ns)))) → Q (.ref q) H'
theorem evens_len (ns : List Int) : (K5.evens ns).length ≤ ns.length := by
  have := every_len (I ns)
  rw [every_evens, List.length_map, List.length_map] at this
  exact this
theorem odds_len (ns : List Int) : (K5.odds ns).length ≤ ns.length := by
  have := every_len ((I ns).drop 1)
  rw [every_odds, List.length_map, List.length_drop, List.length_map] at this
  omega
theorem ok_even {f : Addr} {fd : FuncData} (F : Fun K "even_part" "even_part" sEven f fd) (D : Use P w K mg base "trimmed" 1 ["some"] spTrim) : FnOk P w K mg base CX0 2 f fd ["one"] spEven := by
  refine F.ok scEven (fun vs H Q E h => ?_) (fun cdv A outer s H vs Q E hr h => ?_)
  · obtain ⟨p, ns, rfl, _⟩ := h
    rfl
  · obtain ⟨p, ns, rfl, hp, hl, q⟩ := h
    refine ⟨_, pss_one (ps_ret (pe_use D hr (by rfl) (pa_cons (pe_two (pv 0) po_none) pa_nil))), ?_⟩
    refine ⟨_, rfl, p, I ns, rfl, SqT.of hp, .inl rfl, fun t ht => ?_⟩
    refine ⟨t, K5.evens ns, rfl, ?_, ?_, fun H' r sm hr' => q H' r ((same_upd ht).trans sm) hr'⟩
    · rw [if_pos rfl, every_evens]
      exact upd_same
    · have := evens_len ns
      omega
abbrev sOdd : Stmt := topS 13
theorem scOdd : FnScope ["one"] ["one"] (defScope sOdd) := ⟨rfl, rfl, rfl, by decide +kernel, rfl, by decide +kernel, by decide +kernel⟩
def spOdd : Sp := fun vs H Q _ => ∃ (p : Addr) (ns : List Int), vs = [.ref p] ∧ H p = some (.tup (I ns)) ∧ ns.length ≤ 1000 ∧ ∀ H' q, Same H H' → H' q = some (.tup (I (K5.trim (K5.odds ns)))) → Q (.ref q) H'
theorem ok_odd {f : Addr} {fd : FuncData} (F : Fun K "odd_part" "odd_part" sOdd f fd) (D : Use P w K mg base "trimmed" 1 ["some"] spTrim) : FnOk P w K mg base CX0 2 f fd ["one"] spOdd := by
  refine F.ok scOdd (fun vs H Q E h => ?_) (fun cdv A outer s H vs Q E hr h => ?_)
  · obtain ⟨p, ns, rfl, _⟩ := h
    rfl
  · obtain ⟨p, ns, rfl, hp, hl, q⟩ := h
    refine ⟨_, pss_one (ps_ret (pe_use D hr (by rfl) (pa_cons (pe_two (pv 0) (po_some pe_int)) pa_nil))), ?_⟩
    refine ⟨_, rfl, 1, rfl, p, I ns, rfl, SqT.of hp, .inr rfl, fun t ht => ?_⟩
    refine ⟨t, K5.odds ns, rfl, ?_, ?_, fun H' r sm hr' => q H' r ((same_upd ht).trans sm) hr'⟩
    · rw [if_neg (fun z => nomatch z), every_odds]
      exact upd_same
    · have := odds_len ns
      omega
end
end K5W

namespace K5W
open PySem PySem.Spec PyProof.Rows L2
section
variable {P : Program} {w : World} {K : PySem.W.Frag} {mg : Str → Option Value} {base : Heap}
/-! ### less_lead -/
abbrev sLess : Stmt := topS 17
abbrev nLess : List Str := ["first", "second", "shifted", "moved", "rest", "a", "b"]
theorem scLess : FnScope nLess ["first", "second", "shifted"] (defScope sLess) := ⟨rfl, rfl, rfl, by decide +kernel, rfl, by decide +kernel, by decide +kernel⟩
def spLess : Sp := fun vs H Q _ => ∃ (p1 p2 : Addr) (ns ms : List Int) (sh : Bool) (B : Nat), vs = [.ref p1, .ref p2, .bl sh] ∧ H p1 = some (.tup (I ns)) ∧ H p2 = some (.tup (I ms)) ∧ ns ≠ [] ∧ ms ≠ [] ∧ ns.length ≤ 999 ∧ ms.length ≤ 999 ∧
  Bd B ns ∧ Bd B ms ∧ 0 < B ∧ B ≤ 100000 ∧ ∀ H' q, Same H H' → H' q = some (.tup (I (K5.lessLead ns ms sh))) → Q (.ref q) H'
theorem lst_mem {ns : List Int} (h : ns ≠ []) : K5.lst ns ∈ ns := by
  have e := K5.snoc_of ns h
  have : K5.lst ns ∈ ns.dropLast ++ [K5.lst ns] := List.mem_append_right _ List.mem_cons_self
  rw [← e] at this
  exact this
theorem bd_moved {B : Nat} {ms : List Int} (h : Bd B ms) (sh : Bool) : Bd B (K5.moved ms sh) := by
  intro x hx
  cases sh with
  | false => exact h x hx
  | true =>
    rcases List.mem_cons.mp hx with e | e
    · rw [e]
      exact Nat.two_pow_pos B
    · exact h x e
theorem mul_ok {B : Nat} {x y : Int} (hx : x.natAbs < 2 ^ B) (hy : y.natAbs < 2 ^ B) (h0 : 0 < B) (h1 : B ≤ 100000) : CMulW x y := wide_mul hx hy h0 h0 (by omega)
/-- the rest as a list's places -/
theorem zip_at (g : Int → Int → Int) (l m : List Int) (i : Nat) (a b : Int) (ha : l[i]? = some a) (hb : m[i]? = some b) : (List.zipWith g l m).take (i + 1) = (List.zipWith g l m).take i ++ [g a b] := by
  have e : (List.zipWith g l m)[i]? = some (g a b) := by
    rw [List.getElem?_zipWith, ha, hb]
  rw [List.take_add_one, e]
  rfl
theorem neg_at (l : List Int) (i : Nat) (a : Int) (ha : l[i]? = some a) : (K5.neg l).take (i + 1) = (K5.neg l).take i ++ [-a] := by
  have e : (K5.neg l)[i]? = some (-a) := by
    unfold K5.neg
    rw [List.getElem?_map, ha]
    rfl
  rw [List.take_add_one, e]
  rfl
theorem ok_less {f : Addr} {fd : FuncData} (F : Fun K "less_lead" "less_lead" sLess f fd) (B : Blt mg) : FnOk P w K mg base CX0 1 f fd ["first", "second", "shifted"] spLess := by
  refine F.ok scLess (fun vs H Q E h => ?_) (fun cdv A outer s H vs Q E hr h => ?_)
  · obtain ⟨p1, p2, ns, ms, sh, b, rfl, _⟩ := h
    rfl
  · obtain ⟨p1, p2, ns, ms, sh, b, rfl, h1, h2, n1, n2, l1, l2, b1, b2, b0, b9, q⟩ := h
    refine ⟨_, C8.pss_cut (ps_set (i := 3) scLess.nd rfl (.inl rfl) (pe_ifExp (pt_val (pv 2)) (pe_tup (pa_cons pe_int (StX.pa_star (pv 1) pa_nil))) (pv 1)))
      (pss_cons (ps_setLc (i := 4) (own := [("a", 5), ("b", 6)]) (g := gTup K 2 (gCons (gName 5) (gCons (gName 6) gNil))) (tt := tYes) rfl scLess.nd rfl rfl (sw_true rfl rfl rfl (by decide +kernel)) (RZ.pi_zipA (by rfl) B.zip (pa_cons (pv 0) (pa_cons (pv 3) pa_nil)))
          (blkOk_by (own := [("a", 5), ("b", 6)]) (N := nLess) (sc := defScope sLess) (by decide +kernel)) (fun _ _ _ _ _ => pg_tup rfl (pgs_cons (pg_name (i := 5) scLess.nd rfl (Or.inl rfl)) (pgs_cons (pg_name (i := 6) scLess.nd rfl (Or.inl rfl)) pgs_nil)))
          (fun _ _ _ _ _ => pts_nil) (fun _ _ _ _ _ => pe_op op_sub (pe_op op_mulW (pv 5) (pe_ix (ixT K) (pv 1) (pe_un un_neg pe_int) (fun _ _ => rfl))) (pe_op op_mulW (pv 6) (pe_ix (ixT K) (pv 0) (pe_un un_neg pe_int) (fun _ _ => rfl)))))
      (C8.pss_cut (ps_if (pt_cmpR op_lt (pe_ix ix_tup (pv 1) (pe_un un_neg pe_int) (fun _ _ => rfl)) pe_int (nomark _))
          (pss_one (ps_setLc (i := 4) (own := [("a", 5)]) (g := gName 5) (tt := tYes) rfl scLess.nd rfl rfl (sw_true rfl rfl rfl (by decide +kernel)) (pi_list (pv 4))
            (blkOk_by (own := [("a", 5)]) (N := nLess) (sc := defScope sLess) (by decide +kernel)) (fun _ _ _ _ _ => pg_name (i := 5) scLess.nd rfl (Or.inl rfl)) (fun _ _ _ _ _ => pts_nil) (fun _ _ _ _ _ => pe_un un_neg (pv 5)))) pss_nil)
      (pss_cons (ps_while PassesOwn.never (PW.pt (pw_and (pt_cmpR (op_neD hr.units) (pv 4) (pe_lst pa_nil) (nomark _)) (pw_and1 (pt_cmpR op_eq (pe_ix ix_list (pv 4) (pe_un un_neg pe_int) (fun _ _ => rfl)) pe_int (nomark _)))))
          (pss_one (ps_expr (pe_bm0 PySem.F.plainAttrs_list PySem.F.slot_list_pop PySem.F.type_list_pop mt_pop (pv 4)))))
      (pss_one (ps_ret (pe_callTy call_tuple_of (by rfl) B.tuple PyProof.Rows.boot_tuple (pa_cons (pv 4) pa_nil))))))), ?_⟩
    have m1 := lst_mem n1
    have m2 := lst_mem n2
    -- moved = ..
    refine ⟨fun σ H1 => ∃ pm, σ = [some (.ref p1), some (.ref p2), some (.bl sh), some (.ref pm), none, none, none] ∧ Same H H1 ∧ H1 pm = some (.tup (I (K5.moved ms sh))), ?_, ?_⟩
    · refine ⟨_, rfl, sh, rfl, ?_⟩
      cases sh with
      | true =>
        refine iteT ⟨_, rfl, p2, I ms, rfl, .inl (SqT.of h2), ?_, fun e he => ⟨e, rfl, same_upd he, ?_⟩⟩
        · show (V.int 0 :: (I ms ++ [])).length ≤ sizeLine
          rw [List.append_nil, List.length_cons, List.length_map]
          exact small (by omega)
        · rw [List.append_nil]
          exact upd_same
      | false => exact iteF ⟨_, rfl, p2, rfl, Same.refl H, h2⟩
    rintro σ H1 ⟨pm, rfl, s1, hm⟩
    -- rest = [..]
    refine ⟨.ref p1, rfl, .ref pm, rfl, p1, pm, I ns, I (K5.moved ms sh), rfl, .inr ⟨SqT.of (s1 _ _ h1), SqT.of hm, fun D hD => ?_⟩⟩
    have hD0 : H D = none := s1.free hD
    refine lc_it (walk_zipT rfl) (fun i H2 => Same H1 H2 ∧ H2 D = some (.lst (I ((K5.rest0 ns ms sh).take i)))) ⟨same_upd hD, upd_same⟩ (fun i H2 _ h => ⟨SqT.of (h.1 _ _ (s1 _ _ h1)), SqT.of (h.1 _ _ hm)⟩) (fun i x H2 H3 hi h hy => ?_) (fun H2 h => ?_)
    · obtain ⟨T, x1, x2, rfl, hT, rfl, g1, g2⟩ := hy
      obtain ⟨a1, ga, rfl⟩ := getI_of g1
      obtain ⟨a2, gb, rfl⟩ := getI_of g2
      have s2 : Same H2 (upd H2 T (.tup [.int a1, .int a2])) := same_upd hT
      refine ⟨T, [.int a1, .int a2], rfl, SqT.of upd_same, rfl, _, _, rfl, _, _, rfl, rfl, rfl, yesT ?_⟩
      have i1 := SqT.of (K := K) (s2 _ _ (h.1 _ _ (s1 _ _ h1)))
      have i2 := SqT.of (K := K) (s2 _ _ (h.1 _ _ (s1 _ _ h2)))
      refine ⟨.int a1, rfl, .ref p2, rfl, 1, rfl, p2, I ms, -1, _, rfl, rfl, i2, at_last n2, a1, K5.lst ms, rfl, rfl, mul_ok (b1 _ (List.mem_of_getElem? ga)) (b2 _ m2) b0 b9, ?_⟩
      refine ⟨.int a2, rfl, .ref p1, rfl, 1, rfl, p1, I ns, -1, _, rfl, rfl, i1, at_last n1, a2, K5.lst ns, rfl, rfl, mul_ok (bd_moved b2 sh _ (List.mem_of_getElem? gb)) (b1 _ m1) b0 b9, ?_⟩
      refine ⟨_, _, rfl, rfl, _, s2 _ _ h.2, ?_, ?_, ?_⟩
      · rw [List.length_map, List.length_take]
        have : (K5.rest0 ns ms sh).length ≤ ns.length := by
          unfold K5.rest0
          rw [List.length_zipWith]
          omega
        exact small1000 (by omega)
      · intro c o e
        rw [upd_ne (ne_of_none e hD)]
        exact s2 _ _ (h.1 _ _ e)
      · rw [upd_same]
        unfold K5.rest0
        rw [zip_at _ _ _ _ _ _ ga gb, I, I, List.map_append]
        rfl
    · have hlen : (K5.rest0 ns ms sh).take (min (I ns).length (I (K5.moved ms sh)).length) = K5.rest0 ns ms sh := List.take_of_length_le (by
        unfold K5.rest0
        rw [List.length_zipWith, List.length_map, List.length_map]
        exact Nat.le_refl _)
      rw [hlen] at h
      have s2 := s1.trans h.1
      have rl : (K5.rest0 ns ms sh).length ≤ 999 := by
        unfold K5.rest0
        rw [List.length_zipWith]
        omega
      -- if second[-1] < 0
      refine ⟨fun σ H3 => ∃ r s5 s6, σ = [some (.ref p1), some (.ref p2), some (.bl sh), some (.ref pm), some (.ref r), s5, s6] ∧ Same H H3 ∧ H r = none ∧ H3 r = some (.lst (I (if K5.lst ms < 0 then K5.neg (K5.rest0 ns ms sh) else K5.rest0 ns ms sh))), ?_, ?_⟩
      · refine ⟨_, rfl, 1, rfl, p2, I ms, -1, _, rfl, rfl, SqT.of (s2 _ _ h2), at_last n2, _, _, rfl, rfl, _, rfl, ite2 (fun c => ?_) (fun c => ?_)⟩
        · have c : K5.lst ms < 0 := of_decide_eq_true c
          rw [if_pos c]
          refine ⟨_, rfl, D, rfl, ⟨_, SqL.of h.2⟩, fun G hG => ?_⟩
          refine lc_it (walk_list (xs := I (K5.rest0 ns ms sh))) (fun i H3 => Same H2 H3 ∧ H3 G = some (.lst (I ((K5.neg (K5.rest0 ns ms sh)).take i)))) ⟨same_upd hG, upd_same⟩ (fun i H3 _ h3 => SqL.of (h3.1 _ _ h.2)) (fun i x H3 H4 hi h3 hy => ?_) (fun H3 h3 => ?_)
          · obtain ⟨rfl, gx⟩ := hy
            obtain ⟨a1, ga, rfl⟩ := getI_of gx
            refine ⟨rfl, yesT ⟨_, rfl, a1, rfl, _, h3.2, ?_, ?_, ?_⟩⟩
            · rw [List.length_map, List.length_take, K5.neg_len]
              exact small1000 (by omega)
            · intro c o e
              rw [upd_ne (ne_of_none e hG)]
              exact h3.1 _ _ e
            · rw [upd_same, neg_at _ _ _ ga, I, I, List.map_append]
              rfl
          · rw [List.length_map, List.take_of_length_le (by rw [K5.neg_len]; exact Nat.le_refl _)] at h3
            exact ⟨G, _, _, rfl, s2.trans h3.1, s2.free hG, h3.2⟩
        · have c : ¬ K5.lst ms < 0 := fun z => c (decide_eq_true z)
          rw [if_neg c]
          exact ⟨D, _, _, rfl, s2, hD0, h.2⟩
      -- while rest != [] and rest[-1] == 0
      rintro σ H3 ⟨r, s5, s6, rfl, s3, hr0, hR⟩
      have el : K5.lessLead ns ms sh = K5.trim (if K5.lst ms < 0 then K5.neg (K5.rest0 ns ms sh) else K5.rest0 ns ms sh) := rfl
      rw [el] at q
      generalize (if K5.lst ms < 0 then K5.neg (K5.rest0 ns ms sh) else K5.rest0 ns ms sh) = R at q hR
      refine ⟨fun m σ H4 => ∃ l, σ = [some (.ref p1), some (.ref p2), some (.bl sh), some (.ref pm), some (.ref r), s5, s6] ∧ m = l.length ∧ Same H H4 ∧ H4 r = some (.lst (I l)) ∧ K5.trim l = K5.trim R, ⟨R.length, R, rfl, rfl, s3, hR, rfl⟩, ?_⟩
      rintro m σ H4 ⟨l, rfl, rfl, s4, hl, et⟩
      refine ⟨_, rfl, small (Nat.zero_le _), fun e he => ?_⟩
      have s5' : Same H4 (upd H4 e (.lst [])) := same_upd he
      refine ⟨.list (l.map PyData.int), .list [], .lst (SqL.of (s5' _ _ hl)) (dp_ints l), .lst (SqL.of upd_same) .nil, shaped_lst l, by decide, _, rfl, ?_⟩
      rw [eqv_nilL]
      have fin : K5.trim l = l → tRet (tCB (fun xs H Q => ∃ p ys, xs = [V.ref p] ∧ ((SqL K H p ys ∧ ∀ l, H l = none → Q (.ref l) (upd H l (.tup ys))) ∨ (SqT K H p ys ∧ Q (.ref p) H))) (tCons (tVar 4) tNil)) { nx := fun x H' => Q V.non H', rt := Q } [some (.ref p1), some (.ref p2), some (.bl sh), some (.ref pm), some (.ref r), s5, s6] (upd H4 e (.lst [])) := by
        intro e1
        refine ⟨_, rfl, r, I l, rfl, .inl ⟨SqL.of (s5' _ _ hl), fun t ht => ?_⟩⟩
        refine q _ t ((s4.trans s5').trans (same_upd ht)) ?_
        rw [← et, e1]
        exact upd_same
      by_cases hn : l = []
      · rw [decide_eq_true hn]
        refine iteF ?_
        exact iteF (fin (by rw [hn]; rfl))
      · rw [decide_eq_false hn]
        refine iteT ?_
        refine ⟨_, rfl, 1, rfl, r, I l, -1, _, rfl, rfl, SqL.of (s5' _ _ hl), at_last hn, rfl, _, rfl, ite2 (fun hz => ?_) (fun hz => ?_)⟩
        · have hz : K5.lst l = 0 := V.int.inj (of_decide_eq_true hz)
          have sn := K5.snoc_of l hn
          refine ⟨fun σ' H' => ∃ l', σ' = [some (.ref p1), some (.ref p2), some (.bl sh), some (.ref pm), some (.ref r), s5, s6] ∧ l'.length < l.length ∧ Same H H' ∧ H' r = some (.lst (I l')) ∧ K5.trim l' = K5.trim R, ?_, ?_⟩
          · rintro σ' H' ⟨l', e1, e2, e3, e4, e5⟩
            exact ⟨l'.length, e2, l', e1, rfl, e3, e4, e5⟩
          · refine ⟨.ref r, rfl, .inl ⟨rfl, _, SqL.of (s5' _ _ hl)⟩, r, I l, .int (K5.lst l), rfl, rfl, s5' _ _ hl, ?_, l.dropLast, rfl, ?_, ?_, ?_, ?_⟩
            · have := at_last hn
              have e3 : (I l)[(I l).length - 1]? = some (V.int (l.getD (l.length - 1) 0)) := by
                rw [List.length_map]
                exact getI (by
                  have := List.length_pos_iff.mpr hn
                  omega)
              rw [e3]
              congr 2
              unfold K5.lst
              rw [List.getD_eq_getElem?_getD, ← List.getLast?_eq_getElem?, List.getLastD_eq_getLast?]
            · rw [List.length_dropLast]
              have := List.length_pos_iff.mpr hn
              omega
            · intro c o e1
              rw [upd_ne (ne_of_none e1 hr0)]
              exact s5' _ _ (s4 _ _ e1)
            · rw [upd_same, I, I, List.map_dropLast]
            · rw [← et, sn, hz, K5.trim_zero, List.dropLast_concat]
        · have hz : K5.lst l ≠ 0 := fun z => hz (decide_eq_true (by rw [z]))
          exact fin (K5.trim_idem (.inr hz))
end
end K5W

namespace K5W
open PySem PySem.Spec PyProof.Rows L2
/-! ### sizes in the loop of is_on_left -/
theorem zip_snoc0 (fs ss : List Int) (sh : Bool) (hf : fs ≠ []) (hs : ss ≠ []) (hl : ss.length = K5.wantLen fs sh) : ∃ Z : List Int, K5.rest0 fs ss sh = Z ++ [0] ∧ Z.length + 1 = fs.length := by
  have ef := K5.snoc_of fs hf
  have lf := List.length_pos_iff.mpr hf
  have mne : K5.moved ss sh ≠ [] := by
    unfold K5.moved
    split
    · exact List.cons_ne_nil _ _
    · exact hs
  have em := K5.snoc_of (K5.moved ss sh) mne
  have ml : K5.lst (K5.moved ss sh) = K5.lst ss := by
    cases sh with
    | false => rfl
    | true =>
      have e := K5.snoc_of ss hs
      show K5.lst (0 :: ss) = K5.lst ss
      have : K5.lst (0 :: ss) = K5.lst ((0 :: ss.dropLast) ++ [K5.lst ss]) := by
        rw [List.cons_append, ← e]
      rw [this, K5.lst_snoc]
  have len : (K5.moved ss sh).length = fs.length := by
    unfold K5.wantLen at hl
    cases sh with
    | false => exact hl
    | true =>
      show ss.length + 1 = fs.length
      rw [if_pos rfl] at hl
      omega
  refine ⟨List.zipWith (fun a b => a * K5.lst ss - b * K5.lst fs) fs.dropLast (K5.moved ss sh).dropLast, ?_, ?_⟩
  · unfold K5.rest0
    have : List.zipWith (fun a b => a * K5.lst ss - b * K5.lst fs) fs (K5.moved ss sh) = List.zipWith (fun a b => a * K5.lst ss - b * K5.lst fs) (fs.dropLast ++ [K5.lst fs]) ((K5.moved ss sh).dropLast ++ [K5.lst ss]) := by
      rw [← ef]
      rw [ml] at em
      rw [← em]
    rw [this, List.zipWith_append (by rw [List.length_dropLast, List.length_dropLast, len])]
    congr 1
    show [K5.lst fs * K5.lst ss - K5.lst ss * K5.lst fs] = [0]
    rw [Int.mul_comm, Int.sub_self]
  · rw [List.length_zipWith, List.length_dropLast, List.length_dropLast, len]
    omega
theorem less_len (fs ss : List Int) (sh : Bool) (hf : fs ≠ []) (hs : ss ≠ []) (hl : ss.length = K5.wantLen fs sh) : (K5.lessLead fs ss sh).length < fs.length := by
  obtain ⟨Z, e, lz⟩ := zip_snoc0 fs ss sh hf hs hl
  unfold K5.lessLead
  rw [e]
  split
  · rw [K5.neg_snoc]
    show (K5.trim (K5.neg Z ++ [0])).length < _
    rw [K5.trim_zero]
    have := K5.trim_len (K5.neg Z)
    rw [K5.neg_len] at this
    omega
  · rw [K5.trim_zero]
    have := K5.trim_len Z
    omega
theorem bd_rest {B : Nat} {fs ss : List Int} {sh : Bool} (hf : fs ≠ []) (hs : ss ≠ []) (b1 : Bd B fs) (b2 : Bd B ss) : Bd (2 * B + 1) (K5.rest0 fs ss sh) := by
  intro x hx
  obtain ⟨i, hi⟩ := List.mem_iff_getElem?.mp hx
  unfold K5.rest0 at hi
  rw [List.getElem?_zipWith] at hi
  cases ea : fs[i]? with
  | none => rw [ea] at hi; cases hi
  | some a =>
    cases eb : (K5.moved ss sh)[i]? with
    | none => rw [ea, eb] at hi; cases hi
    | some b =>
      rw [ea, eb] at hi
      obtain rfl := Option.some.inj hi
      have h1 := wide_lt (b1 a (List.mem_of_getElem? ea)) (b2 _ (lst_mem hs))
      have h2 := wide_lt (bd_moved b2 sh b (List.mem_of_getElem? eb)) (b1 _ (lst_mem hf))
      have e2 : 2 ^ (2 * B + 1) = 2 ^ (B + B) + 2 ^ (B + B) := by
        rw [Nat.pow_succ, show 2 * B = B + B by omega]
        omega
      rw [e2]
      have := Int.natAbs_sub_le (a * K5.lst ss) (b * K5.lst fs)
      omega
theorem bd_less {B : Nat} {fs ss : List Int} {sh : Bool} (hf : fs ≠ []) (hs : ss ≠ []) (b1 : Bd B fs) (b2 : Bd B ss) : Bd (2 * B + 1) (K5.lessLead fs ss sh) := by
  intro x hx
  have h := bd_rest (sh := sh) hf hs b1 b2
  unfold K5.lessLead at hx
  have hx := K5.trim_mem hx
  split at hx
  · unfold K5.neg at hx
    obtain ⟨y, hy, rfl⟩ := List.mem_map.mp hx
    rw [Int.natAbs_neg]
    exact h y hy
  · exact h x hx
theorem bd_mono {B C : Nat} {l : List Int} (h : Bd B l) (hc : B ≤ C) : Bd C l := fun x hx => Nat.lt_of_lt_of_le (h x hx) (Nat.pow_le_pow_right (by decide) hc)
theorem mem_evens : ∀ (l : List Int) (x : Int), x ∈ K5.evens l → x ∈ l
  | [a], x, h => h
  | a :: b :: l, x, h => by
    rcases List.mem_cons.mp h with e | e
    · rw [e]
      exact List.mem_cons_self
    · exact List.mem_cons_of_mem _ (List.mem_cons_of_mem _ (mem_evens l x e))
theorem mem_odds : ∀ (l : List Int) (x : Int), x ∈ K5.odds l → x ∈ l
  | a :: b :: l, x, h => by
    rcases List.mem_cons.mp h with e | e
    · rw [e]
      exact List.mem_cons_of_mem _ List.mem_cons_self
    · exact List.mem_cons_of_mem _ (List.mem_cons_of_mem _ (mem_odds l x e))
theorem parts_len : ∀ (l : List Int), (K5.evens l).length + (K5.odds l).length = l.length
  | [] => rfl
  | [_] => rfl
  | a :: b :: l => by
    show (K5.evens l).length + 1 + ((K5.odds l).length + 1) = l.length + 1 + 1
    have := parts_len l
    omega
/-- the first of the two parts is not empty -/
theorem first_ne {p : List Int} (h : K5.lst p ≠ 0) : K5.firstOf p ≠ [] := by
  have ne := lst_ne h
  have pl := List.length_pos_iff.mpr ne
  obtain ⟨q1, _⟩ := K5.parts (p.length - 1) (fun j => p.reverse.getD j 0)
  have e : K5.asc (p.length - 1 + 1) (fun j => p.reverse.getD j 0) = p := by
    rw [Nat.sub_add_cancel pl]
    exact (K5.asc_of p).symm
  rw [e] at q1
  have d0 : p.reverse.getD (2 * 0) 0 = K5.lst p := K5.dn_zero ne
  have nz : K5.trim (K5.asc ((p.length - 1) / 2 + 1) (fun j => p.reverse.getD (2 * j) 0)) ≠ [] := by
    show K5.trim (K5.asc ((p.length - 1) / 2) _ ++ [p.reverse.getD (2 * 0) 0]) ≠ []
    rw [d0, K5.trim_snoc _ h]
    simp
  unfold K5.firstOf K5.odd
  rcases Nat.mod_two_eq_zero_or_one p.length with q | q
  · rw [if_neg (by omega)] at q1
    rw [q]
    show K5.trim (K5.odds p) ≠ []
    rw [q1]
    exact nz
  · rw [if_pos (by omega)] at q1
    rw [q]
    show K5.trim (K5.evens p) ≠ []
    rw [q1]
    exact nz
section
variable {P : Program} {w : World} {K : PySem.W.Frag} {mg : Str → Option Value} {base : Heap}
/-! ### is_on_left, is_left -/
abbrev sOn : Stmt := topS 16
abbrev nOn : List Str := ["one", "first", "second", "shifted", "a"]
theorem scOn : FnScope nOn ["one"] (defScope sOn) := ⟨rfl, rfl, rfl, by decide +kernel, rfl, by decide +kernel, by decide +kernel⟩
def spOn : Sp := fun vs H Q _ => ∃ (p : Addr) (ns : List Int), vs = [.ref p] ∧ H p = some (.tup (I ns)) ∧ K5.lst ns ≠ 0 ∧ ns.length ≤ 9 ∧ Bd 20 ns ∧ ∀ H', Same H H' → Q (.bl (K5.onLeft ns)) H'
theorem ok_on {f : Addr} {fd : FuncData} (F : Fun K "is_on_left" "is_on_left" sOn f fd) (B : Blt mg) (DE : Use P w K mg base "even_part" 2 ["one"] spEven) (DO : Use P w K mg base "odd_part" 2 ["one"] spOdd)
    (DL : Use P w K mg base "less_lead" 1 ["first", "second", "shifted"] spLess) : FnOk P w K mg base CX0 3 f fd ["one"] spOn := by
  refine F.ok scOn (fun vs H Q E h => ?_) (fun cdv A outer s H vs Q E hr h => ?_)
  · obtain ⟨p, ns, rfl, _⟩ := h
    rfl
  · obtain ⟨p, ns, rfl, hp, h0, hl, hb, q⟩ := h
    refine ⟨_, pss_cons (ps_if (pt_val (pe_callB (cr_any rfl) (by rfl) B.any (by decide +kernel) (pa_cons
          (pe_lc (own := [("a", 4)]) (g := gName 4) (tt := tYes) (by rfl) scOn.nd (pi_tup (pv 0)) (blkOk_by (own := [("a", 4)]) (N := nOn) (sc := defScope sOn) (by decide +kernel)) (fun _ _ _ _ _ => pg_name (i := 4) scOn.nd rfl (Or.inl rfl)) (fun _ _ _ _ _ => pts_nil)
            (fun _ _ _ _ _ => pe_cmpR op_le (pe_op op_mulW (pv 4) (pe_ix (ixT K) (pv 0) (pe_un un_neg pe_int) (fun _ _ => rfl))) pe_int (nomark _))) pa_nil)))
        (pss_one (ps_ret pe_bl)) pss_nil)
      (C8.pss_cut (ps_asg (pe_ifExp (pt_cmpR op_eq (pe_op op_mod (pe_callB call_len_seq (by rfl) B.len PySem.boot_len (pa_cons (pv 0) pa_nil)) pe_int) pe_int (nomark _))
            (pe_tup (pa_cons (pe_use DE hr (by rfl) (pa_cons (pv 0) pa_nil)) (pa_cons (pe_use DO hr (by rfl) (pa_cons (pv 0) pa_nil)) pa_nil)))
            (pe_tup (pa_cons (pe_use DO hr (by rfl) (pa_cons (pv 0) pa_nil)) (pa_cons (pe_use DE hr (by rfl) (pa_cons (pv 0) pa_nil)) pa_nil))))
          (pg_tup rfl (pgs_cons (pg_name (i := 1) scOn.nd rfl (Or.inl rfl)) (pgs_cons (pg_name (i := 2) scOn.nd rfl (Or.inl rfl)) pgs_nil))))
      (pss_cons (ps_set (i := 3) scOn.nd rfl (.inl rfl) (pe_cmpR op_eq (pe_op op_mod (pe_callB call_len_seq (by rfl) B.len PySem.boot_len (pa_cons (pv 0) pa_nil)) pe_int) pe_int (nomark _)))
      (pss_cons (ps_while PassesOwn.never (pt_cmpR (op_neD hr.units) (pv 2) (pe_tup pa_nil) (nomark _))
          (pss_cons (ps_if (PW.pt (pw_or (pt_cmpR op_ne (pe_callB call_len_seq (by rfl) B.len PySem.boot_len (pa_cons (pv 2) pa_nil))
                (pe_ifExp (pt_val (pv 3)) (pe_op op_sub (pe_callB call_len_seq (by rfl) B.len PySem.boot_len (pa_cons (pv 1) pa_nil)) pe_int) (pe_callB call_len_seq (by rfl) B.len PySem.boot_len (pa_cons (pv 1) pa_nil))) (nomark _))
              (pw_or1 (pt_cmpR op_le (pe_op op_mulW (pe_ix ix_tup (pv 1) (pe_un un_neg pe_int) (fun _ _ => rfl)) (pe_ix ix_tup (pv 2) (pe_un un_neg pe_int) (fun _ _ => rfl))) pe_int (nomark _)))))
            (pss_one (ps_ret pe_bl)) pss_nil)
          (pss_one (ps_par3 (i := 1) (j := 2) (l := 3) rfl scOn.nd rfl rfl rfl (by decide) (by decide) (by decide) rfl rfl rfl (pa_cons (pv 2) (pa_cons (pe_use DL (hr.mono (by decide)) (by rfl) (pa_cons (pv 1) (pa_cons (pv 2) (pa_cons (pv 3) pa_nil)))) (pa_cons (pe_not (pv 3)) pa_nil))) rfl))))
      (pss_one (ps_ret (pe_cmpR op_eq (pe_callB call_len_seq (by rfl) B.len PySem.boot_len (pa_cons (pv 1) pa_nil)) pe_int (nomark _))))))), ?_⟩
    have ne := lst_ne h0
    have pl := List.length_pos_iff.mpr ne
    -- any([..])
    refine ⟨_, rfl, p, rfl, ⟨_, SqT.of hp⟩, fun D hD => ?_⟩
    refine lc_it (walk_tup (xs := I ns)) (fun i H1 => Same H H1 ∧ H1 D = some (.lst (((ns.map fun a => decide (a * K5.lst ns ≤ 0)).take i).map V.bl))) ⟨same_upd hD, upd_same⟩ (fun i H1 _ h1 => SqT.of (h1.1 _ _ hp)) (fun i x H1 H2 hi h1 hy => ?_) (fun H1 h1 => ?_)
    · obtain ⟨rfl, gx⟩ := hy
      obtain ⟨a, ga, rfl⟩ := getI_of gx
      refine ⟨rfl, yesT ?_⟩
      refine ⟨.int a, rfl, .ref p, rfl, 1, rfl, p, I ns, -1, _, rfl, rfl, SqT.of (h1.1 _ _ hp), at_last ne, a, K5.lst ns, rfl, rfl, mul_ok (hb _ (List.mem_of_getElem? ga)) (hb _ (lst_mem ne)) (by decide) (by decide), ?_⟩
      refine ⟨_, _, rfl, rfl, _, h1.2, ?_, ?_, ?_⟩
      · rw [List.length_map, List.length_take, List.length_map]
        exact small1000 (by omega)
      · intro c o e
        rw [upd_ne (ne_of_none e hD)]
        exact h1.1 _ _ e
      · rw [upd_same, List.take_add_one, List.getElem?_map, ga, List.map_append]
        rfl
    · rw [List.length_map, List.take_of_length_le (by rw [List.length_map]; exact Nat.le_refl _)] at h1
      refine ⟨D, _, rfl, SqL.of h1.2, _, rfl, ?_⟩
      have an : (ns.map fun a => decide (a * K5.lst ns ≤ 0)).any id = ns.any fun a => decide (a * K5.lst ns ≤ 0) := by
        rw [List.any_map]
        rfl
      rw [an]
      have q' : ∀ H', Same H H' → Q (.bl (if ns.any (fun a => decide (a * K5.lst ns ≤ 0)) = true then false else K5.loop (ns.length + 1) (K5.firstOf ns) (K5.secondOf ns) (K5.odd ns))) H' := q
      refine ite2 (fun c => ?_) (fun c => ?_)
      · have q2 := q' H1 h1.1
        rw [if_pos c] at q2
        exact q2
      · rw [if_neg c] at q'
        have s1 := h1.1
        have o1 : decide (V.int ((ns.length : Int) % 2) = V.int 1) = K5.odd ns := by
          unfold K5.odd
          rcases Nat.mod_two_eq_zero_or_one ns.length with z | z
          · rw [z]
            exact decide_eq_false fun e => by
              have := V.int.inj e
              omega
          · rw [z]
            exact decide_eq_true (by
              congr 1
              omega)
        have hlen : ∀ H2, Same H H2 → ∀ (Q2 : VK), Q2 (.int ((I ns).length : Int)) H2 → ∃ p' ys, [V.ref p] = [V.ref p'] ∧ (SqL K H2 p' ys ∨ SqT K H2 p' ys) ∧ Q2 (.int (ys.length : Int)) H2 := fun H2 s2 Q2 z => ⟨p, I ns, rfl, .inr (SqT.of (s2 _ _ hp)), z⟩
        -- first, second = ..
        refine ⟨fun σ H2 => ∃ p1 p2, σ = [some (.ref p), some (.ref p1), some (.ref p2), none, none] ∧ Same H H2 ∧ H2 p1 = some (.tup (I (K5.firstOf ns))) ∧ H2 p2 = some (.tup (I (K5.secondOf ns))), ?_, ?_⟩
        · refine ⟨.ref p, rfl, p, I ns, rfl, .inr (SqT.of (s1 _ _ hp)), _, _, rfl, rfl, (by show (0 : Int) < 2; decide), rfl, _, rfl, ?_⟩
          have o2 : decide (V.int (((I ns).length : Int) % 2) = V.int 1) = K5.odd ns := by
            rw [List.length_map]
            exact o1
          show (if decide (V.int (((I ns).length : Int) % 2) = V.int 1) = true then _ else _)
          rw [o2]
          refine ite2 (fun co => ?_) (fun co => ?_)
          · refine ⟨.ref p, rfl, p, ns, rfl, s1 _ _ hp, by omega, fun H2 r1 s2 hr1 => ?_⟩
            refine ⟨.ref p, rfl, p, ns, rfl, s2 _ _ (s1 _ _ hp), by omega, fun H3 r2 s3 hr2 => ?_⟩
            refine ⟨small (by simp), fun t ht => ?_⟩
            have s4 : Same H3 (upd H3 t (.tup [.ref r1, .ref r2])) := same_upd ht
            refine ⟨t, [.ref r1, .ref r2], rfl, SqT.of upd_same, rfl, _, _, rfl, _, _, rfl, rfl, r1, r2, rfl, ((s1.trans s2).trans s3).trans s4, ?_, ?_⟩
            · unfold K5.firstOf
              rw [if_pos co]
              exact s4 _ _ (s3 _ _ hr1)
            · unfold K5.secondOf
              rw [if_pos co]
              exact s4 _ _ hr2
          · refine ⟨.ref p, rfl, p, ns, rfl, s1 _ _ hp, by omega, fun H2 r1 s2 hr1 => ?_⟩
            refine ⟨.ref p, rfl, p, ns, rfl, s2 _ _ (s1 _ _ hp), by omega, fun H3 r2 s3 hr2 => ?_⟩
            refine ⟨small (by simp), fun t ht => ?_⟩
            have s4 : Same H3 (upd H3 t (.tup [.ref r1, .ref r2])) := same_upd ht
            refine ⟨t, [.ref r1, .ref r2], rfl, SqT.of upd_same, rfl, _, _, rfl, _, _, rfl, rfl, r1, r2, rfl, ((s1.trans s2).trans s3).trans s4, ?_, ?_⟩
            · unfold K5.firstOf
              rw [if_neg co]
              exact s4 _ _ (s3 _ _ hr1)
            · unfold K5.secondOf
              rw [if_neg co]
              exact s4 _ _ hr2
        rintro σ H2 ⟨p1, p2, rfl, s2, hp1, hp2⟩
        -- shifted = ..
        refine ⟨.ref p, rfl, p, I ns, rfl, .inr (SqT.of (s2 _ _ hp)), _, _, rfl, rfl, (by show (0 : Int) < 2; decide), rfl, ?_⟩
        have o2 : decide (V.int (((I ns).length : Int) % 2) = V.int 1) = K5.odd ns := by
          rw [List.length_map]
          exact o1
        rw [o2]
        -- while
        have tl : (K5.firstOf ns).length + (K5.secondOf ns).length ≤ ns.length := by
          have := parts_len ns
          have := K5.trim_len (K5.evens ns)
          have := K5.trim_len (K5.odds ns)
          unfold K5.firstOf K5.secondOf
          split <;> omega
        have bf : Bd 20 (K5.firstOf ns) := by
          intro x hx
          unfold K5.firstOf at hx
          split at hx
          · exact hb x (mem_evens ns x (K5.trim_mem hx))
          · exact hb x (mem_odds ns x (K5.trim_mem hx))
        have bs : Bd 20 (K5.secondOf ns) := by
          intro x hx
          unfold K5.secondOf at hx
          split at hx
          · exact hb x (mem_odds ns x (K5.trim_mem hx))
          · exact hb x (mem_evens ns x (K5.trim_mem hx))
        refine ⟨fun k σ H3 => ∃ r1 r2 fs ss sh C, σ = [some (.ref p), some (.ref r1), some (.ref r2), some (.bl sh), none] ∧ Same H H3 ∧ H3 r1 = some (.tup (I fs)) ∧ H3 r2 = some (.tup (I ss)) ∧ fs ≠ [] ∧ fs.length + ss.length < k ∧ fs.length + ss.length ≤ 9 ∧
            K5.loop k fs ss sh = K5.loop (ns.length + 1) (K5.firstOf ns) (K5.secondOf ns) (K5.odd ns) ∧ Bd C fs ∧ Bd C ss ∧ 0 < C ∧ (C + 1) * 2 ^ (fs.length + ss.length) ≤ 21 * 2 ^ 9,
          ⟨ns.length + 1, p1, p2, _, _, _, 20, rfl, s2, hp1, hp2, first_ne h0, by omega, by omega, rfl, bf, bs, by decide, Nat.mul_le_mul_left 21 (Nat.pow_le_pow_right (by decide) (by omega))⟩, ?_⟩
        rintro k σ H3 ⟨r1, r2, fs, ss, sh, C, rfl, s3, hr1, hr2, nf, hk, h9, el, bf, bs, c0, hC⟩
        obtain ⟨k, rfl⟩ : ∃ j, k = j + 1 := ⟨k - 1, by omega⟩
        have C9 : C ≤ 100000 := by
          have : (C + 1) * 1 ≤ (C + 1) * 2 ^ (fs.length + ss.length) := Nat.mul_le_mul_left _ (Nat.one_le_two_pow)
          have : 21 * 2 ^ 9 = 10752 := by decide
          omega
        refine ⟨_, rfl, small (Nat.zero_le _), fun e he => ?_⟩
        have s4 : Same H3 (upd H3 e (.tup [])) := same_upd he
        refine ⟨.tuple (ss.map PyData.int), .tuple [], .tup (SqT.of (s4 _ _ hr2)) (dp_ints ss), .tup (SqT.of upd_same) .nil, shaped_tup ss, by decide, _, rfl, ?_⟩
        rw [eqv_nilT]
        by_cases hn : ss = []
        · rw [decide_eq_true hn]
          refine iteF ?_
          subst hn
          refine ⟨.ref r1, rfl, r1, I fs, rfl, .inr (SqT.of (s4 _ _ hr1)), rfl, ?_⟩
          have z : decide (V.int ((I fs).length : Int) = V.int 1) = K5.loop (k + 1) fs [] sh := by
            show _ = decide (fs.length = 1)
            rw [List.length_map]
            by_cases e1 : fs.length = 1
            · rw [decide_eq_true e1]
              exact decide_eq_true (by rw [e1]; rfl)
            · rw [decide_eq_false e1]
              exact decide_eq_false fun z => e1 (by
                have := V.int.inj z
                omega)
          have q2 := q' _ (s3.trans s4)
          rw [← el, ← z] at q2
          exact q2
        · rw [decide_eq_false hn]
          refine iteT ?_
          have i1 := SqT.of (K := K) (s4 _ _ hr1)
          have i2 := SqT.of (K := K) (s4 _ _ hr2)
          have lz : K5.loop (k + 1) fs ss sh = if ss.length ≠ K5.wantLen fs sh ∨ K5.lst fs * K5.lst ss ≤ 0 then false else K5.loop k ss (K5.lessLead fs ss sh) (!sh) := by
            simp only [K5.loop]
            rw [if_neg hn]
          have fpos := List.length_pos_iff.mpr nf
          have no : (ss.length ≠ K5.wantLen fs sh ∨ K5.lst fs * K5.lst ss ≤ 0) → Q (.bl false) (upd H3 e (.tup [])) := by
            intro bad
            have q2 := q' _ (s3.trans s4)
            rw [← el, lz, if_pos bad] at q2
            exact q2
          -- len(second) != ..
          refine ⟨fun σ' H' => ∃ r1 r2 fs' ss' sh' C', σ' = [some (.ref p), some (.ref r1), some (.ref r2), some (.bl sh'), none] ∧ Same H H' ∧ H' r1 = some (.tup (I fs')) ∧ H' r2 = some (.tup (I ss')) ∧ fs' ≠ [] ∧ fs'.length + ss'.length < k ∧ fs'.length + ss'.length ≤ 9 ∧
            K5.loop k fs' ss' sh' = K5.loop (ns.length + 1) (K5.firstOf ns) (K5.secondOf ns) (K5.odd ns) ∧ Bd C' fs' ∧ Bd C' ss' ∧ 0 < C' ∧ (C' + 1) * 2 ^ (fs'.length + ss'.length) ≤ 21 * 2 ^ 9, fun σ' H' h => ⟨k, Nat.lt_succ_self k, h⟩, ?_⟩
          refine ⟨.ref r2, rfl, r2, I ss, rfl, .inr i2, _, rfl, sh, rfl, ?_⟩
          refine if_meet (v := .int ((K5.wantLen fs sh : Nat) : Int)) (fun e5 Q5 z => ?_) (fun e5 Q5 z => ?_) ?_
          · refine ⟨.ref r1, rfl, r1, I fs, rfl, .inr i1, _, _, rfl, rfl, ?_⟩
            have ev : ((I fs).length : Int) - 1 = ((K5.wantLen fs sh : Nat) : Int) := by
              unfold K5.wantLen
              rw [List.length_map, if_pos e5]
              omega
            rw [← ev] at z
            exact z
          · refine ⟨.ref r1, rfl, r1, I fs, rfl, .inr i1, ?_⟩
            have ev : ((I fs).length : Int) = ((K5.wantLen fs sh : Nat) : Int) := by
              unfold K5.wantLen
              rw [List.length_map, if_neg (by rw [e5]; decide)]
            rw [← ev] at z
            exact z
          refine ⟨rfl, _, rfl, ?_⟩
          refine ite2 (fun c1 => ?_) (fun c1 => ?_)
          · refine iteT ?_
            refine no (.inl fun z => ?_)
            rw [List.length_map, decide_eq_true (by rw [z])] at c1
            exact Bool.false_ne_true c1
          · have c1 : ss.length = K5.wantLen fs sh := by
              rw [List.length_map] at c1
              by_cases z : ss.length = K5.wantLen fs sh
              · exact z
              · rw [decide_eq_false (fun y => z (by
                  have := V.int.inj y
                  omega))] at c1
                exact absurd rfl c1
            refine ⟨.ref r1, rfl, 1, rfl, r1, I fs, -1, _, rfl, rfl, i1, at_last nf, .ref r2, rfl, 1, rfl, r2, I ss, -1, _, rfl, rfl, i2, at_last hn, _, _, rfl, rfl, mul_ok (bf _ (lst_mem nf)) (bs _ (lst_mem hn)) c0 C9, _, _, rfl, rfl, _, rfl, ?_⟩
            refine ite2 (fun c2 => no (.inr (of_decide_eq_true c2))) (fun c2 => ?_)
            have c2 : ¬ K5.lst fs * K5.lst ss ≤ 0 := fun z => c2 (decide_eq_true z)
            -- first, second, shifted = ..
            have ll := less_len fs ss sh nf hn c1
            refine ⟨.ref r2, rfl, .ref r1, rfl, .ref r2, rfl, .bl sh, rfl, r1, r2, fs, ss, sh, C, rfl, s4 _ _ hr1, s4 _ _ hr2, nf, hn, by omega, by omega, bf, bs, c0, C9, fun H5 r3 s5 hr3 => ?_⟩
            refine ⟨.bl sh, rfl, sh, rfl, _, _, _, rfl, r2, r3, ss, K5.lessLead fs ss sh, !sh, 2 * C + 1, rfl, (s3.trans s4).trans s5, s5 _ _ (s4 _ _ hr2), hr3, hn, by omega, by omega, ?_, bd_mono bs (by omega), bd_less nf hn bf bs, by omega, ?_⟩
            · rw [← el, lz, if_neg (by
                rintro (z | z)
                · exact z c1
                · exact c2 z)]
            · have e2 : 2 * C + 1 + 1 = (C + 1) * 2 := by omega
              rw [e2, Nat.mul_assoc, Nat.mul_comm 2, ← Nat.pow_succ]
              exact Nat.le_trans (Nat.mul_le_mul_left _ (Nat.pow_le_pow_right (by decide) (by omega))) hC
abbrev sIsLeft : Stmt := topS 18
theorem scIsLeft : FnScope ["one"] ["one"] (defScope sIsLeft) := ⟨rfl, rfl, rfl, by decide +kernel, rfl, by decide +kernel, by decide +kernel⟩
theorem big20 {x : Int} (h : x.natAbs < 2 ^ 20) : -(10 ^ 60) ≤ x ∧ x ≤ 10 ^ 60 := by
  have : (2 : Nat) ^ 20 = 1048576 := by decide
  have e : (10 : Int) ^ 60 = 1000000000000000000000000000000000000000000000000000000000000 := by decide
  rw [e]
  omega
theorem ok_is_left {f : Addr} {fd : FuncData} (F : Fun K "is_left" "is_left" sIsLeft f fd) (DN : Use P w K mg base "need_nonzero" 5 ["value"] spNeed) (DO : Use P w K mg base "is_on_left" 3 ["one"] spOn) : FnOk P w K mg base CX0 6 f fd ["one"] spOn := by
  refine F.ok scIsLeft (fun vs H Q E h => ?_) (fun cdv A outer s H vs Q E hr h => ?_)
  · obtain ⟨p, ns, rfl, _⟩ := h
    rfl
  · obtain ⟨p, ns, rfl, hp, h0, hl, hb, q⟩ := h
    refine ⟨_, pss_cons (ps_expr (pe_use DN hr (by rfl) (pa_cons (pv 0) pa_nil))) (pss_one (ps_ret (pe_use DO (hr.mono (by decide)) (by rfl) (pa_cons (pv 0) pa_nil)))), ?_⟩
    refine ⟨_, rfl, p, ns, rfl, ⟨hp, by omega, fun n hn => big20 (hb n hn), h0⟩, fun H1 s1 => ?_⟩
    exact ⟨_, rfl, p, ns, rfl, s1 _ _ hp, h0, hl, hb, fun H2 s2 => q H2 (s1.trans s2)⟩
end
end K5W

namespace K5W
open PySem PySem.Spec PyProof.Rows L2
section
variable {P : Program} {w : World} {K : PySem.W.Frag} {mg : Str → Option Value} {base : Heap}
/-! ### _law_taken, _law_pick, _law_is -/
/-- the law's row, at r: the script (at a), the place, the mixed number, the rest of a great cell -/
def KSq (K : PySem.W.Frag) (a : Addr) (xs : List V) : Prop := ∃ (o : Obj) (its : Array Value) (n : Nat), K.lookup a = some o ∧ o.cls = .type "list" ∧ o.dict = none ∧ o.data = .seq its n ∧ its.size ≤ sizeLine ∧ Vals xs its.toList
def Row (K : PySem.W.Frag) (a : Addr) (H : Hp) (r : Addr) : Prop :=
  ∃ (ns : List Int) (k s d : Int), H r = some (.lst [.ref a, .int k, .int s, .int d]) ∧ SqL K H a (I ns) ∧ (a ≠ r ∨ KSq K a (I ns)) ∧ 0 ≤ k ∧ 0 ≤ s ∧ s < 2147483647
theorem Row.same {a : Addr} {H H' : Hp} {r : Addr} (h : Row K a H r) (s : Same H H') : Row K a H' r := by
  obtain ⟨ns, k, x, d, h1, h2, h3⟩ := h
  exact ⟨ns, k, x, d, s _ _ h1, s.seq h2, h3⟩
theorem Row.ne {a : Addr} {H : Hp} {r D : Addr} (h : Row K a H r) (hD : H D = none) : D ≠ r := by
  obtain ⟨ns, k, x, d, h1, _⟩ := h
  exact (ne_of_none h1 hD).symm
/-- a new object is written -/
theorem Row.upd {a : Addr} {H1 H : Hp} {r D : Addr} {o : HO} (h1 : Row K a H1 r) (hD : H1 D = none) (h : Row K a H r) : Row K a (upd H D o) r := by
  have nr := h1.ne hD
  obtain ⟨ns, k, x, d, e, q, n, z⟩ := h
  obtain ⟨ns1, _, _, _, _, q1, _⟩ := h1
  have e' : (L2.upd H D o) r = some (.lst [.ref a, .int k, .int x, .int d]) := by
    rw [upd_ne nr.symm]
    exact e
  rcases q1 with q1 | q1
  · have na : a ≠ D := by
      rcases q1 with y | ⟨o', y⟩
      · exact ne_of_none y hD
      · exact ne_of_none y hD
    refine ⟨ns, k, x, d, e', ?_, n, z⟩
    rcases q with (y | ⟨o', y⟩) | y
    · exact .inl (.inl (by rw [upd_ne na]; exact y))
    · exact .inl (.inr ⟨o', by rw [upd_ne na]; exact y⟩)
    · exact .inr y
  · exact ⟨ns1, k, x, d, e', .inr q1, .inr q1, z⟩
/-- all but the row is as it was -/
def SameB (r : Addr) (H H' : Hp) : Prop := ∀ b o, b ≠ r → H b = some o → H' b = some o
theorem SameB.refl (r : Addr) (H : Hp) : SameB r H H := fun _ _ _ h => h
theorem SameB.trans {r : Addr} {H H1 H2 : Hp} (a : SameB r H H1) (b : SameB r H1 H2) : SameB r H H2 := fun c o n h => b c o n (a c o n h)
theorem SameB.of {r : Addr} {H H' : Hp} (h : Same H H') : SameB r H H' := fun b o _ e => h b o e
theorem SameB.row {r : Addr} {H : Hp} {o : HO} : SameB r H (upd H r o) := fun b o' n e => by
  rw [upd_ne n]
  exact e
theorem seq_upd {H : Hp} {a r : Addr} {xs : List V} {o : HO} (h : SqL K H a xs) (n : a ≠ r ∨ KSq K a xs) : SqL K (upd H r o) a xs := by
  rcases n with n | n
  · rcases h with (h | ⟨o', h⟩) | h
    · exact .inl (.inl (by rw [upd_ne n]; exact h))
    · exact .inl (.inr ⟨o', by rw [upd_ne n]; exact h⟩)
    · exact .inr h
  · exact .inr n
/-- the row as the law makes it -/
theorem Row.make {a : Addr} {H : Hp} {r : Addr} {ns : List Int} (h : SqL K H a (I ns)) (hr : H r = none) : Row K a (L2.upd H r (.lst [.ref a, .int 0, .int 3305, .int 0])) r := by
  have n : a ≠ r ∨ KSq K a (I ns) := by
    rcases h with (h | ⟨o', h⟩) | h
    · exact .inl (ne_of_none h hr)
    · exact .inl (ne_of_none h hr)
    · exact .inr h
  exact ⟨ns, 0, 3305, 0, upd_same, seq_upd h n, n, by decide, by decide, by decide⟩
abbrev sTaken : Stmt := topS 20
abbrev nTaken : List Str := ["_law_row", "_law_many", "_law_found", "_law_cell"]
theorem scTaken : FnScope nTaken ["_law_row", "_law_many"] (defScope sTaken) := ⟨rfl, rfl, rfl, by decide +kernel, rfl, by decide +kernel, by decide +kernel⟩
def spTaken (K : PySem.W.Frag) : Sp := fun vs H Q _ => ∃ (r : Addr) (m : Int) (a : Addr), vs = [.ref r, .int m] ∧ 0 < m ∧ m < 1073741824 ∧ Row K a H r ∧ ∀ (x : Int) (o : HO), 0 ≤ x → x < m → Row K a (upd H r o) r → Q (.int x) (upd H r o)
theorem ok_taken {f : Addr} {fd : FuncData} (F : Fun K "_law_taken" "_law_taken" sTaken f fd) (B : Blt mg) : FnOk P w K mg base CX0 1 f fd ["_law_row", "_law_many"] (spTaken K) := by
  refine F.ok scTaken (fun vs H Q E h => ?_) (fun cdv A outer s H vs Q E hr h => ?_)
  · obtain ⟨r, m, a, rfl, _⟩ := h
    rfl
  · obtain ⟨r, m, a, rfl, m0, m9, hrow, q⟩ := h
    obtain ⟨ns, k, z, d, hR, hS, hne, k0, z0, z9⟩ := hrow
    refine ⟨_, pss_cons (ps_if (pt_cmpR op_gt (pe_ix ix_list (pv 0) pe_int (fun _ _ => rfl)) pe_int (nomark _))
        (pss_cons (ps_set (i := 2) scTaken.nd rfl (.inl rfl) (pe_op op_mod (pe_callTy call_int1 (by rfl) B.int PyProof.Rows.boot_int (pa_cons (pe_ix ix_list (pv 0) pe_int (fun _ _ => rfl)) pa_nil)) (pv 1)))
        (pss_cons (ps_asg (pe_op op_fdivW (pe_ix ix_list (pv 0) pe_int (fun _ _ => rfl)) (pv 1)) (pg_sub (pv 0) pe_int set_list))
        (pss_one (ps_ret (pv 2))))) pss_nil)
      (pss_cons (ps_asg (pe_op op_add (pe_ix ix_list (pv 0) pe_int (fun _ _ => rfl)) pe_int) (pg_sub (pv 0) pe_int set_list))
      (pss_cons (ps_if (pt_cmpR op_gt (pe_ix ix_list (pv 0) pe_int (fun _ _ => rfl)) (pe_callB call_len_seq (by rfl) B.len PySem.boot_len (pa_cons (pe_ix ix_list (pv 0) pe_int (fun _ _ => rfl)) pa_nil)) (nomark _))
        (pss_cons (ps_asg (pe_op op_mod (pe_callTy call_int1 (by rfl) B.int PyProof.Rows.boot_int (pa_cons (pe_op op_add (pe_op op_mul (pe_ix ix_list (pv 0) pe_int (fun _ _ => rfl)) pe_int) pe_int) pa_nil)) pe_int) (pg_sub (pv 0) pe_int set_list))
        (pss_one (ps_ret (pe_op op_mod (pe_callTy call_int1 (by rfl) B.int PyProof.Rows.boot_int (pa_cons (pe_op op_fdiv (pe_ix ix_list (pv 0) pe_int (fun _ _ => rfl)) pe_int) pa_nil)) (pv 1))))) pss_nil)
      (pss_cons (ps_set (i := 3) scTaken.nd rfl (.inl rfl) (pe_ix ix_list (pe_ix ix_list (pv 0) pe_int (fun _ _ => rfl)) (pe_op op_sub (pe_ix ix_list (pv 0) pe_int (fun _ _ => rfl)) pe_int) (fun _ _ => rfl)))
      (pss_cons (ps_asg (pe_op op_mod (pe_callTy call_int1 (by rfl) B.int PyProof.Rows.boot_int (pa_cons (pe_op op_add (pe_op op_add (pe_op op_mul (pe_ix ix_list (pv 0) pe_int (fun _ _ => rfl)) pe_int) (pv 3)) pe_int) pa_nil)) pe_int) (pg_sub (pv 0) pe_int set_list))
      (C8.pss_cut (ps_if (pt_cmpR op_ge (pv 3) (pe_op op_pow pe_int pe_int) (nomark _)) (pss_one (ps_asg (pe_op op_fdivW (pv 3) (pv 1)) (pg_sub (pv 0) pe_int set_list))) pss_nil)
      (pss_one (ps_ret (pe_op op_mod (pe_callTy call_int1 (by rfl) B.int PyProof.Rows.boot_int (pa_cons (pv 3) pa_nil)) (pv 1))))))))), ?_⟩
    have md : CDivW 0 m := wide_div (b := 30) m0 (by omega) (by decide) (by decide)
    have at3 : ∀ (H' : Hp) (x0 x1 x2 x3 : V), H' r = some (.lst [x0, x1, x2, x3]) → SqL K H' r [x0, x1, x2, x3] := fun H' x0 x1 x2 x3 h => SqL.of h
    -- if row[3] > 0
    refine ⟨_, rfl, r, _, 3, _, rfl, rfl, SqL.of hR, rfl, _, _, rfl, rfl, _, rfl, ite2 (fun c => ?_) (fun c => ?_)⟩
    · refine ⟨_, rfl, r, _, 3, _, rfl, rfl, SqL.of hR, rfl, .inl ⟨d, rfl, .int m, rfl, _, _, rfl, rfl, m0, ?_⟩⟩
      refine ⟨_, rfl, r, _, 3, _, rfl, rfl, SqL.of hR, rfl, .int m, rfl, d, m, rfl, rfl, md, .ref r, rfl, r, _, 3, 3, rfl, rfl, hR, rfl, ?_⟩
      refine ⟨_, rfl, ?_⟩
      refine q (d % m) _ (Int.emod_nonneg _ (by omega)) (Int.emod_lt_of_pos _ m0) ?_
      exact ⟨ns, k, z, d / m, upd_same, seq_upd hS hne, hne, k0, z0, z9⟩
    · -- row[1] = row[1] + 1
      refine ⟨_, rfl, r, _, 1, _, rfl, rfl, SqL.of hR, rfl, k, 1, rfl, rfl, .ref r, rfl, r, _, 1, 1, rfl, rfl, hR, rfl, ?_⟩
      have hR1 : (upd H r (.lst [.ref a, .int (k + 1), .int z, .int d])) r = some (.lst [.ref a, .int (k + 1), .int z, .int d]) := upd_same
      have hS1 : SqL K (upd H r (.lst [.ref a, .int (k + 1), .int z, .int d])) a (I ns) := seq_upd hS hne
      refine ⟨_, rfl, r, _, 1, _, rfl, rfl, SqL.of hR1, rfl, _, rfl, r, _, 0, .ref a, rfl, rfl, SqL.of hR1, rfl, a, I ns, rfl, .inl hS1, _, _, rfl, rfl, _, rfl, ite2 (fun c2 => ?_) (fun c2 => ?_)⟩
      · refine ⟨_, rfl, r, _, 2, _, rfl, rfl, SqL.of hR1, rfl, z, 48271, rfl, rfl, .inl ⟨by omega, by omega⟩, _, 11, rfl, rfl, .inl ⟨_, rfl, _, 2147483647, rfl, rfl, (by show (0 : Int) < 2147483647; decide), .ref r, rfl, r, _, 2, 2, rfl, rfl, hR1, rfl, ?_⟩⟩
        rw [upd_upd]
        have hR2 : (upd H r (.lst [.ref a, .int (k + 1), .int ((z * 48271 + 11) % 2147483647), .int d])) r = some (.lst [.ref a, .int (k + 1), .int ((z * 48271 + 11) % 2147483647), .int d]) := upd_same
        refine ⟨_, rfl, r, _, 2, _, rfl, rfl, SqL.of hR2, rfl, _, 7, rfl, rfl, ⟨by decide, by decide⟩, .inl ⟨_, rfl, .int m, rfl, _, _, rfl, rfl, m0, ?_⟩⟩
        refine q _ _ (Int.emod_nonneg _ (by omega)) (Int.emod_lt_of_pos _ m0) ?_
        exact ⟨ns, k + 1, _, d, upd_same, seq_upd hS hne, hne, by omega, Int.emod_nonneg _ (by decide), Int.emod_lt_of_pos _ (by decide)⟩
      · have c2 : ¬ ((I ns).length : Int) < k + 1 := fun y => c2 (decide_eq_true y)
        rw [List.length_map] at c2
        obtain ⟨j, rfl⟩ : ∃ j : Nat, k = (j : Int) := ⟨k.toNat, by omega⟩
        have hj : j < ns.length := by omega
        -- cell
        refine ⟨_, rfl, r, _, 0, .ref a, rfl, rfl, SqL.of hR1, rfl, _, rfl, r, _, 1, _, rfl, rfl, SqL.of hR1, rfl, _, 1, rfl, rfl, a, I ns, _, _, rfl, rfl, hS1, atI_of (i := j) (by omega) hj, ?_⟩
        generalize ns.getD j 0 = c3
        -- row[2] = ..
        refine ⟨_, rfl, r, _, 2, _, rfl, rfl, SqL.of hR1, rfl, z, 48271, rfl, rfl, .inl ⟨by omega, by omega⟩, .int c3, rfl, _, c3, rfl, rfl, _, 11, rfl, rfl, .inl ⟨_, rfl, _, 2147483647, rfl, rfl, (by show (0 : Int) < 2147483647; decide), .ref r, rfl, r, _, 2, 2, rfl, rfl, hR1, rfl, ?_⟩⟩
        rw [upd_upd]
        have hR2 : (upd H r (.lst [.ref a, .int ((j : Int) + 1), .int ((z * 48271 + c3 + 11) % 2147483647), .int d])) r = some (.lst [.ref a, .int ((j : Int) + 1), .int ((z * 48271 + c3 + 11) % 2147483647), .int d]) := upd_same
        -- if cell >= 10 ** 18
        refine ⟨fun σ H2 => ∃ o, σ = [some (.ref r), some (.int m), none, some (.int c3)] ∧ H2 = upd H r o ∧ Row K a (upd H r o) r, ?_, ?_⟩
        · refine ⟨_, rfl, 10, 18, rfl, rfl, ⟨by decide, by decide, by decide⟩, _, _, rfl, rfl, _, rfl, ite2 (fun c4 => ?_) (fun c4 => ?_)⟩
          · refine ⟨_, rfl, .int m, rfl, c3, m, rfl, rfl, md, .ref r, rfl, r, _, 3, 3, rfl, rfl, hR2, rfl, ?_⟩
            rw [upd_upd]
            exact ⟨_, rfl, rfl, ns, (j : Int) + 1, _, c3 / m, upd_same, seq_upd hS hne, hne, by omega, Int.emod_nonneg _ (by decide), Int.emod_lt_of_pos _ (by decide)⟩
          · exact ⟨_, rfl, rfl, ns, (j : Int) + 1, _, d, upd_same, seq_upd hS hne, hne, by omega, Int.emod_nonneg _ (by decide), Int.emod_lt_of_pos _ (by decide)⟩
        · rintro σ H2 ⟨o, rfl, rfl, hrow⟩
          refine ⟨.int c3, rfl, .inl ⟨c3, rfl, .int m, rfl, _, _, rfl, rfl, m0, ?_⟩⟩
          exact q _ _ (Int.emod_nonneg _ (by omega)) (Int.emod_lt_of_pos _ m0) hrow
abbrev sPick : Stmt := topS 21
theorem scPick : FnScope ["_law_row", "_law_things"] ["_law_row", "_law_things"] (defScope sPick) := ⟨rfl, rfl, rfl, by decide +kernel, rfl, by decide +kernel, by decide +kernel⟩
def spPick (K : PySem.W.Frag) : Sp := fun vs H Q _ => ∃ (r l : Addr) (xs : List V) (a : Addr), vs = [.ref r, .ref l] ∧ H l = some (.lst xs) ∧ l ≠ r ∧ 0 < xs.length ∧ xs.length ≤ 1000 ∧ Row K a H r ∧ ∀ (i : Nat) (x : V) (o : HO), xs[i]? = some x → Row K a (upd H r o) r → Q x (upd H r o)
theorem ok_pick {f : Addr} {fd : FuncData} (F : Fun K "_law_pick" "_law_pick" sPick f fd) (B : Blt mg) (D : Use P w K mg base "_law_taken" 1 ["_law_row", "_law_many"] (spTaken K)) : FnOk P w K mg base CX0 2 f fd ["_law_row", "_law_things"] (spPick K) := by
  refine F.ok scPick (fun vs H Q E h => ?_) (fun cdv A outer s H vs Q E hr h => ?_)
  · obtain ⟨r, l, xs, a, rfl, _⟩ := h
    rfl
  · obtain ⟨r, l, xs, a, rfl, hl, nl, x0, x9, hrow, q⟩ := h
    refine ⟨_, pss_one (ps_ret (pe_ix ix_list (pv 1) (pe_use D hr (by rfl) (pa_cons (pv 0) (pa_cons (pe_callB call_len_seq (by rfl) B.len PySem.boot_len (pa_cons (pv 1) pa_nil)) pa_nil))) (fun _ _ => rfl))), ?_⟩
    refine ⟨_, rfl, _, rfl, .ref l, rfl, l, xs, rfl, .inl (SqL.of hl), r, _, a, rfl, by omega, by omega, hrow, fun x o h0 h1 hrow' => ?_⟩
    obtain ⟨i, rfl⟩ : ∃ i : Nat, x = (i : Int) := ⟨x.toNat, by omega⟩
    have hi : i < xs.length := by omega
    have hx : xs[i]? = some xs[i] := List.getElem?_eq_getElem hi
    exact ⟨l, xs, _, _, rfl, rfl, SqL.of (by rw [upd_ne nl]; exact hl), atI_nat hx, q i _ o hx hrow'⟩
abbrev sLawIs : Stmt := topS 22
theorem scLawIs : FnScope ["_law_found", "_law_due"] ["_law_found", "_law_due"] (defScope sLawIs) := ⟨rfl, rfl, rfl, by decide +kernel, rfl, by decide +kernel, by decide +kernel⟩
def spLawIs : Sp := fun vs H Q _ => ∃ a b : Bool, vs = [.bl a, .bl b] ∧ Q (.bl (decide (a = b))) H
theorem ok_law_is {f : Addr} {fd : FuncData} (F : Fun K "_law_is" "_law_is" sLawIs f fd) (B : Blt mg) : FnOk P w K mg base CX0 1 f fd ["_law_found", "_law_due"] spLawIs := by
  refine F.ok scLawIs (fun vs H Q E h => ?_) (fun cdv A outer s H vs Q E hr h => ?_)
  · obtain ⟨a, b, rfl, _⟩ := h
    rfl
  · obtain ⟨a, b, rfl, q⟩ := h
    refine ⟨_, pss_one (ps_ret (pe_and (pe_callB call_isi (by rfl) B.isinstance PyProof.Rows.boot_isinstance (pa_cons (pv 0) (pa_cons (pe_bltn (v := .ty "bool") (by rfl) B.bool PyProof.Rows.boot_bool rfl) pa_nil)))
      (pe_one (pe_cmpR op_eq (pv 0) (pv 1) (nomark _))))), ?_⟩
    refine ⟨_, rfl, _, _, _, _, true, rfl, .ty _, .base (.bl a), kit_ty (by decide +kernel), true, rfl, iteT ?_⟩
    refine ⟨_, rfl, _, rfl, rfl, ?_⟩
    have e : decide (V.bl a = V.bl b) = decide (a = b) := by
      by_cases z : a = b
      · rw [z, decide_eq_true rfl, decide_eq_true rfl]
      · rw [decide_eq_false z, decide_eq_false fun y => z (V.bl.inj y)]
    show Q (.bl (decide (V.bl a = V.bl b))) H
    rw [e]
    exact q
end
end K5W

namespace K5W
open PySem PySem.Spec PyProof.Rows L2
section
variable {P : Program} {w : World} {K : PySem.W.Frag} {mg : Str → Option Value} {base : Heap}
/-! ### _law_trim, _law_times -/
abbrev sLTrim : Stmt := topS 23
abbrev nLTrim : List Str := ["_law_some_here", "_law_many", "_law_turn"]
theorem scLTrim : FnScope nLTrim ["_law_some_here"] (defScope sLTrim) := ⟨rfl, rfl, rfl, by decide +kernel, rfl, by decide +kernel, by decide +kernel⟩
def spLTrim : Sp := fun vs H Q _ => ∃ (p : Addr) (ns : List Int), vs = [.ref p] ∧ H p = some (.lst (I ns)) ∧ ns.length ≤ 1000 ∧ ∀ H' q, Same H H' → H' q = some (.tup (I (K5.trim ns))) → Q (.ref q) H'
theorem cutV_take (ns : List Int) (m : Nat) (hm : m ≤ ns.length) : cutV (I ns) none (some (m : Int)) = I (ns.take m) := by
  unfold cutV
  rw [HT.sIx_nat, HT.sIx_none, List.length_map, List.drop_zero, Nat.sub_zero, Nat.min_eq_left hm, I, I, List.map_take]
theorem lt62 {n : Nat} (h : n ≤ 1000) : -(2 ^ 62) ≤ (n : Int) ∧ (n : Int) < 2 ^ 62 := by
  have : (2 : Int) ^ 62 = 4611686018427387904 := by decide
  rw [this]
  omega
theorem ok_ltrim {f : Addr} {fd : FuncData} (F : Fun K "_law_trim" "_law_trim" sLTrim f fd) (B : Blt mg) : FnOk P w K mg base CX0 1 f fd ["_law_some_here"] spLTrim := by
  refine F.ok scLTrim (fun vs H Q E h => ?_) (fun cdv A outer s H vs Q E hr h => ?_)
  · obtain ⟨p, ns, rfl, _⟩ := h
    rfl
  · obtain ⟨p, ns, rfl, hp, hl, q⟩ := h
    refine ⟨_, pss_cons (ps_set (i := 1) scLTrim.nd rfl (.inl rfl) (pe_callB call_len_seq (by rfl) B.len PySem.boot_len (pa_cons (pv 0) pa_nil)))
      (pss_cons (ps_for PassesOwn.never rfl (pi_range1 (by rfl) B.range (pa_cons (pe_callB call_len_seq (by rfl) B.len PySem.boot_len (pa_cons (pv 0) pa_nil)) pa_nil)) (pg_name (i := 2) scLTrim.nd rfl (Or.inl rfl))
        (pss_one (ps_if (PW.pt (pw_and (pt_cmpR op_gt (pv 1) pe_int (nomark _)) (pw_and1 (pt_cmpR op_eq (pe_ix ix_list (pv 0) (pe_op op_sub (pv 1) pe_int) (fun _ _ => rfl)) pe_int (nomark _)))))
          (pss_one (ps_set (i := 1) scLTrim.nd rfl (.inl rfl) (pe_op op_sub (pv 1) pe_int))) pss_nil)))
      (pss_one (ps_ret (pe_callTy call_tuple_of (by rfl) B.tuple PyProof.Rows.boot_tuple (pa_cons (pe_slice sl_list (pv 0) po_none (po_some (pv 1))) pa_nil))))), ?_⟩
    refine ⟨_, rfl, p, I ns, rfl, .inl (SqL.of hp), ?_⟩
    refine ⟨_, rfl, p, I ns, rfl, .inl (SqL.of hp), _, rfl, ?_, ?_, ?_⟩
    · rw [List.length_map]
      exact (lt62 hl).1
    · rw [List.length_map]
      exact (lt62 hl).2
    refine for_range (lo := 0) (n := ((I ns).length : Int).toNat) (fun i σ H1 => ∃ (m : Nat) (s2 : Option V), σ = [some (.ref p), some (.int (m : Int)), s2] ∧ H1 = H ∧ m ≤ ns.length ∧ K5.trim (ns.take m) = K5.trim ns ∧ (m + i = ns.length ∨ m = 0 ∨ ns.getD (m - 1) 0 ≠ 0)) ?_ ?_ ?_
    · refine ⟨ns.length, none, ?_, rfl, Nat.le_refl _, by rw [List.take_length], .inl rfl⟩
      show [some (V.ref p), some (V.int ((I ns).length : Int)), none] = _
      rw [List.length_map]
    · rintro i σ H1 hi ⟨m, s2, rfl, rfl, hm, et, hc⟩
      refine ⟨_, rfl, _, _, rfl, rfl, _, rfl, ite2 (fun h0 => ?_) (fun h0 => ?_)⟩
      · have h0 : (0 : Int) < m := of_decide_eq_true h0
        obtain ⟨j, rfl⟩ : ∃ j, m = j + 1 := ⟨m - 1, by omega⟩
        refine ⟨_, rfl, _, rfl, _, _, rfl, rfl, p, I ns, _, _, rfl, rfl, SqL.of hp, atI_of (i := j) (by omega) (by omega), rfl, _, rfl, ite2 (fun hz => ?_) (fun hz => ?_)⟩
        · have hz : ns.getD j 0 = 0 := V.int.inj (of_decide_eq_true hz)
          refine ⟨_, rfl, _, _, rfl, rfl, j, some (.int (0 + (i : Int))), ?_, rfl, by omega, ?_, ?_⟩
          · show [some (V.ref p), some (V.int (((j + 1 : Nat) : Int) - 1)), some (V.int (0 + (i : Int)))] = _
            rw [show ((j + 1 : Nat) : Int) - 1 = (j : Int) by omega]
          · rw [K5.take_snoc ns j (by omega), hz, K5.trim_zero] at et
            exact et
          · rcases hc with z | z | z
            · exact .inl (by omega)
            · omega
            · rw [Nat.add_sub_cancel] at z
              exact absurd hz z
        · have hz : ns.getD j 0 ≠ 0 := fun z => hz (decide_eq_true (by rw [z]))
          exact ⟨j + 1, _, rfl, rfl, hm, et, .inr (.inr (by rw [Nat.add_sub_cancel]; exact hz))⟩
      · have h0 : m = 0 := by
          have : ¬ (0 : Int) < m := fun z => h0 (decide_eq_true z)
          omega
        exact ⟨m, _, rfl, rfl, hm, et, .inr (.inl h0)⟩
    · rintro σ H1 ⟨m, s2, rfl, rfl, hm, et, hc⟩
      refine ⟨_, rfl, _, rfl, m, rfl, p, I ns, rfl, SqL.of hp, fun c hc' => ?_⟩
      refine ⟨c, _, rfl, .inl ⟨SqL.of upd_same, fun t ht => ?_⟩⟩
      refine q _ t ((same_upd hc').trans (same_upd ht)) ?_
      rw [upd_same, cutV_take _ _ hm]
      congr 3
      rw [List.length_map] at hc
      have nz : m = 0 ∨ ns.getD (m - 1) 0 ≠ 0 := by
        rcases hc with z | z
        · exact .inl (by omega)
        · exact z
      rw [← et]
      symm
      rcases nz with z | z
      · rw [z]
        rfl
      · cases m with
        | zero => rfl
        | succ j =>
          rw [Nat.add_sub_cancel] at z
          rw [K5.take_snoc ns j (by omega), K5.trim_snoc _ z]
abbrev sTimes : Stmt := topS 24
abbrev nTimes : List Str := ["_law_one", "_law_other", "_law_found", "_law_at", "_law_place"]
theorem scTimes : FnScope nTimes ["_law_one", "_law_other"] (defScope sTimes) := ⟨rfl, rfl, rfl, by decide +kernel, rfl, by decide +kernel, by decide +kernel⟩
def spTimes : Sp := fun vs H Q _ => ∃ (p1 p2 : Addr) (ns ms : List Int), vs = [.ref p1, .ref p2] ∧ H p1 = some (.tup (I ns)) ∧ H p2 = some (.tup (I ms)) ∧ ns ≠ [] ∧ ms ≠ [] ∧ ns.length ≤ 100 ∧ ms.length ≤ 100 ∧ Bd 60 ns ∧
  ∀ H' q, Same H H' → H' q = some (.tup (I (K5.times ns ms))) → Q (.ref q) H'
theorem flat_rep (x : V) : ∀ n : Nat, (List.replicate n [x]).flatten = List.replicate n x
  | 0 => rfl
  | n + 1 => by
    rw [List.replicate_succ, List.flatten_cons, flat_rep x n]
    rfl
theorem bd60 {x : Int} (h : x.natAbs < 2 ^ 60) : -(2 ^ 64) < x ∧ x < 2 ^ 64 := by
  have : (2 : Nat) ^ 60 = 1152921504606846976 := by decide
  have e : (2 : Int) ^ 64 = 18446744073709551616 := by decide
  rw [e]
  omega
theorem getD_mem {ns : List Int} {i : Nat} (h : i < ns.length) : ns.getD i 0 ∈ ns := by
  rw [List.getD_eq_getElem?_getD, List.getElem?_eq_getElem h]
  exact List.getElem_mem h
theorem ixN_of {n j : Nat} {z : Int} (hz : z = (j : Int)) (h : j < n) : ixN n z = some j := by
  subst hz
  unfold ixN
  rw [if_pos (by omega), if_pos (by omega), Int.toNat_natCast]
theorem ok_times {f : Addr} {fd : FuncData} (F : Fun K "_law_times" "_law_times" sTimes f fd) (B : Blt mg) (D : Use P w K mg base "_law_trim" 1 ["_law_some_here"] spLTrim) : FnOk P w K mg base CX0 2 f fd ["_law_one", "_law_other"] spTimes := by
  refine F.ok scTimes (fun vs H Q E h => ?_) (fun cdv A outer s H vs Q E hr h => ?_)
  · obtain ⟨p1, p2, ns, ms, rfl, _⟩ := h
    rfl
  · obtain ⟨p1, p2, ns, ms, rfl, h1, h2, n1, n2, l1, l2, bd, q⟩ := h
    refine ⟨_, pss_cons (ps_if (PW.pt (pw_or (pt_cmpR (op_eqD hr.units) (pv 0) (pe_tup pa_nil) (nomark _)) (pw_or1 (pt_cmpR (op_eqD hr.units) (pv 1) (pe_tup pa_nil) (nomark _))))) (pss_one (ps_ret (pe_tup pa_nil))) pss_nil)
      (pss_cons (ps_set (i := 2) scTimes.nd rfl (.inl rfl) (pe_op op_rep (pe_lst (pa_cons pe_int pa_nil)) (pe_op op_sub (pe_op op_add (pe_callB call_len_seq (by rfl) B.len PySem.boot_len (pa_cons (pv 0) pa_nil)) (pe_callB call_len_seq (by rfl) B.len PySem.boot_len (pa_cons (pv 1) pa_nil))) pe_int)))
      (pss_cons (ps_for PassesOwn.never rfl (pi_range1 (by rfl) B.range (pa_cons (pe_callB call_len_seq (by rfl) B.len PySem.boot_len (pa_cons (pv 0) pa_nil)) pa_nil)) (pg_name (i := 3) scTimes.nd rfl (Or.inl rfl))
        (pss_one (ps_for PassesOwn.never rfl (pi_range1 (by rfl) B.range (pa_cons (pe_callB call_len_seq (by rfl) B.len PySem.boot_len (pa_cons (pv 1) pa_nil)) pa_nil)) (pg_name (i := 4) scTimes.nd rfl (Or.inl rfl))
          (pss_one (ps_asg (pe_op op_add (pe_ix ix_list (pv 2) (pe_op op_add (pv 3) (pv 4)) (fun _ _ => rfl)) (pe_op op_mul (pe_ix ix_tup (pv 0) (pv 3) (fun _ _ => rfl)) (pe_ix ix_tup (pv 1) (pv 4) (fun _ _ => rfl)))) (pg_sub (pv 2) (pe_op op_add (pv 3) (pv 4)) set_list))))))
      (pss_one (ps_ret (pe_use D hr (by rfl) (pa_cons (pv 2) pa_nil)))))), ?_⟩
    have lp1 := List.length_pos_iff.mpr n1
    have lp2 := List.length_pos_iff.mpr n2
    -- one == () or other == ()
    refine ⟨_, rfl, small (Nat.zero_le _), fun e he => ?_⟩
    have s1 : Same H (upd H e (.tup [])) := same_upd he
    refine ⟨.tuple (ns.map PyData.int), .tuple [], .tup (SqT.of (s1 _ _ h1)) (dp_ints ns), .tup (SqT.of upd_same) .nil, shaped_tup ns, by decide, _, rfl, ?_⟩
    rw [eqv_nilT, decide_eq_false n1]
    refine iteF ⟨_, rfl, small (Nat.zero_le _), fun e' he' => ?_⟩
    have s2 : Same (upd H e (.tup [])) (upd (upd H e (.tup [])) e' (.tup [])) := same_upd he'
    refine ⟨.tuple (ms.map PyData.int), .tuple [], .tup (SqT.of (s2 _ _ (s1 _ _ h2))) (dp_ints ms), .tup (SqT.of upd_same) .nil, shaped_tup ms, by decide, _, rfl, ?_⟩
    rw [eqv_nilT, decide_eq_false n2]
    refine iteF ?_
    have s3 := s1.trans s2
    generalize (upd (upd H e (.tup [])) e' (.tup [])) = H0 at s3
    have g1 := s3 _ _ h1
    have g2 := s3 _ _ h2
    -- found = [0] * (..)
    refine ⟨small (by simp), fun l hl => ?_⟩
    have s4 : Same H0 (upd H0 l (.lst [.int 0])) := same_upd hl
    have kl : ((I ns).length : Int) + ((I ms).length : Int) - 1 = ((ns.length + ms.length - 1 : Nat) : Int) := by
      rw [List.length_map, List.length_map]
      omega
    refine ⟨_, rfl, p1, I ns, rfl, .inr (SqT.of (s4 _ _ g1)), _, rfl, p2, I ms, rfl, .inr (SqT.of (s4 _ _ g2)), _, _, rfl, rfl, _, 1, rfl, rfl, l, _, [.int 0], rfl, rfl, upd_same, ?_, ?_, ?_, fun d hd => ?_⟩
    · rw [kl]
      have : (2 : Int) ^ 63 = 9223372036854775808 := by decide
      rw [this]
      omega
    · rw [kl]
      have : (2 : Int) ^ 63 = 9223372036854775808 := by decide
      rw [this]
      omega
    · rw [kl, Int.toNat_natCast]
      exact small (by simp; omega)
    rw [kl, Int.toNat_natCast, flat_rep]
    have rep : List.replicate (ns.length + ms.length - 1) (V.int 0) = I (List.replicate (ns.length + ms.length - 1) 0) := by
      rw [I, List.map_replicate]
    rw [rep]
    have s5 : Same H0 (upd (upd H0 l (.lst [.int 0])) d (.lst (I (List.replicate (ns.length + ms.length - 1) 0)))) := s4.trans (same_upd hd)
    have hd0 : H0 d = none := s4.free hd
    -- for at in range(len(one))
    have q1 := s5 _ _ g1
    refine ⟨_, rfl, p1, I ns, rfl, .inr (SqT.of q1), _, rfl, ?_, ?_, ?_⟩
    · rw [List.length_map]
      exact (lt62 (by omega)).1
    · rw [List.length_map]
      exact (lt62 (by omega)).2
    refine for_range (lo := 0) (n := ((I ns).length : Int).toNat) (fun i σ H1 => ∃ (s3 s4 : Option V), σ = [some (.ref p1), some (.ref p2), some (.ref d), s3, s4] ∧ Same H0 H1 ∧ H1 d = some (.lst (I (K5.tOut (List.replicate (ns.length + ms.length - 1) 0) ns ms i)))) ⟨none, none, rfl, s5, upd_same⟩ ?_ ?_
    · rintro i σ H1 hi ⟨x3, x4, rfl, s6, hd1⟩
      rw [List.length_map, Int.toNat_natCast] at hi
      refine ⟨_, rfl, p2, I ms, rfl, .inr (SqT.of (s6 _ _ g2)), _, rfl, ?_, ?_, ?_⟩
      · rw [List.length_map]
        exact (lt62 (by omega)).1
      · rw [List.length_map]
        exact (lt62 (by omega)).2
      refine for_range (lo := 0) (n := ((I ms).length : Int).toNat) (fun j σ H2 => ∃ (s4 : Option V), σ = [some (.ref p1), some (.ref p2), some (.ref d), some (.int (0 + (i : Int))), s4] ∧ Same H0 H2 ∧ H2 d = some (.lst (I (K5.tIn (K5.tOut (List.replicate (ns.length + ms.length - 1) 0) ns ms i) i (ns.getD i 0) ms j)))) ⟨x4, rfl, s6, hd1⟩ ?_ ?_
      · rintro j σ H2 hj ⟨y4, rfl, s7, hd2⟩
        rw [List.length_map, Int.toNat_natCast] at hj
        have tl : (K5.tIn (K5.tOut (List.replicate (ns.length + ms.length - 1) 0) ns ms i) i (ns.getD i 0) ms j).length = ns.length + ms.length - 1 := by
          rw [K5.tIn_len, K5.tOut_len, List.length_replicate]
        have hk : i + j < (K5.tIn (K5.tOut (List.replicate (ns.length + ms.length - 1) 0) ns ms i) i (ns.getD i 0) ms j).length := by omega
        have b1 := bd60 (bd _ (getD_mem hi))
        refine ⟨.ref d, rfl, _, rfl, _, rfl, _, _, rfl, rfl, d, _, _, _, rfl, rfl, SqL.of hd2, atI_of (i := i + j) (by omega) hk, ?_⟩
        refine ⟨.ref p1, rfl, _, rfl, p1, I ns, _, _, rfl, rfl, SqT.of (s7 _ _ g1), atI_of (i := i) (by omega) hi, .ref p2, rfl, _, rfl, p2, I ms, _, _, rfl, rfl, SqT.of (s7 _ _ g2), atI_of (i := j) (by omega) hj, _, _, rfl, rfl, .inl b1, _, _, rfl, rfl, ?_⟩
        refine ⟨.ref d, rfl, _, rfl, _, rfl, _, _, rfl, rfl, d, _, _, i + j, rfl, rfl, hd2, ixN_of (by omega) (by rw [List.length_map]; exact hk), _, rfl, ?_, ?_⟩
        · intro c o e
          rw [upd_ne (ne_of_none e hd0)]
          exact s7 _ _ e
        · rw [upd_same, I, I, ← List.map_set]
          rfl
      · rintro σ H2 ⟨y4, rfl, s7, hd2⟩
        rw [List.length_map, Int.toNat_natCast] at hd2
        exact ⟨_, _, rfl, s7, hd2⟩
    · rintro σ H1 ⟨x3, x4, rfl, s6, hd1⟩
      rw [List.length_map, Int.toNat_natCast] at hd1
      refine ⟨_, rfl, d, _, rfl, hd1, ?_, fun H' t s7 ht => ?_⟩
      · rw [K5.tOut_len, List.length_replicate]
        omega
      · refine q H' t ((s3.trans s6).trans s7) ?_
        have e : K5.times ns ms = K5.trim (K5.tOut (List.replicate (ns.length + ms.length - 1) 0) ns ms ns.length) := by
          unfold K5.times
          rw [if_neg (by
            rintro (z | z)
            · exact n1 z
            · exact n2 z)]
        rw [e]
        exact ht
end
end K5W

namespace K5W
open PySem PySem.Spec PyProof.Rows L2
section
variable {P : Program} {w : World} {K : PySem.W.Frag} {mg : Str → Option Value} {base : Heap}
/-! ### _law_poly, _law_some -/
abbrev sPoly : Stmt := topS 25
abbrev nPoly : List Str := ["_law_row", "_law_most", "_law_size", "_law_at"]
theorem scPoly : FnScope nPoly ["_law_row", "_law_most", "_law_size"] (defScope sPoly) := ⟨rfl, rfl, rfl, by decide +kernel, rfl, by decide +kernel, by decide +kernel⟩
def spPoly (K : PySem.W.Frag) : Sp := fun vs H Q _ => ∃ (r a : Addr) (most size : Int), vs = [.ref r, .int most, .int size] ∧ Row K a H r ∧ 0 ≤ most ∧ most ≤ 100 ∧ 0 ≤ size ∧ size ≤ 1000 ∧
  ∀ (H' : Hp) (q : Addr) (l : List Int), SameB r H H' → Row K a H' r → H' q = some (.tup (I (K5.trim l))) → (l.length : Int) ≤ most + 1 → (∀ x ∈ l, -size ≤ x ∧ x ≤ size) → Q (.ref q) H'
theorem ok_poly {f : Addr} {fd : FuncData} (F : Fun K "_law_poly" "_law_poly" sPoly f fd) (B : Blt mg) (DT : Use P w K mg base "_law_taken" 1 ["_law_row", "_law_many"] (spTaken K)) (DR : Use P w K mg base "_law_trim" 1 ["_law_some_here"] spLTrim) :
    FnOk P w K mg base CX0 2 f fd ["_law_row", "_law_most", "_law_size"] (spPoly K) := by
  refine F.ok scPoly (fun vs H Q E h => ?_) (fun cdv A outer s H vs Q E hr h => ?_)
  · obtain ⟨r, a, most, size, rfl, _⟩ := h
    rfl
  · obtain ⟨r, a, most, size, rfl, hrow, m0, m9, z0, z9, q⟩ := h
    refine ⟨_, pss_one (ps_ret (pe_use DR hr (by rfl) (pa_cons
      (pe_lc (own := [("_law_at", 3)]) (g := gName 3) (tt := tYes) (by rfl) scPoly.nd (pi_range1 (by rfl) B.range (pa_cons (pe_use DT hr (by rfl) (pa_cons (pv 0) (pa_cons (pe_op op_add (pv 1) pe_int) pa_nil))) pa_nil))
        (blkOk_by (own := [("_law_at", 3)]) (N := nPoly) (sc := defScope sPoly) (by decide +kernel)) (fun _ _ _ _ _ => pg_name (i := 3) scPoly.nd rfl (Or.inl rfl)) (fun _ _ _ _ _ => pts_nil)
        (fun _ _ _ _ _ => pe_op op_sub (pe_use DT hr (by rfl) (pa_cons (pv 0) (pa_cons (pe_op op_add (pe_op op_mul pe_int (pv 2)) pe_int) pa_nil))) (pv 2))) pa_nil))), ?_⟩
    refine ⟨_, rfl, .int most, rfl, most, 2, rfl, rfl, r, most + 2, a, rfl, by omega, by omega, hrow, fun n o n0 n1 hrow1 => ?_⟩
    refine ⟨n, rfl, ?_, ?_, fun D hD => ?_⟩
    · have : (2 : Int) ^ 62 = 4611686018427387904 := by decide
      rw [this]
      omega
    · have : (2 : Int) ^ 62 = 4611686018427387904 := by decide
      rw [this]
      omega
    have nD := hrow1.ne hD
    have sB0 : SameB r H (upd H r o) := SameB.row
    refine lc_range (lo := 0) (n := n.toNat) (fun i H2 => ∃ l : List Int, l.length = i ∧ H2 D = some (.lst (I l)) ∧ Row K a H2 r ∧ SameB r (upd H r o) H2 ∧ ∀ x ∈ l, -size ≤ x ∧ x ≤ size) ⟨[], rfl, upd_same, hrow1.upd hD hrow1, SameB.of (same_upd hD), fun x h => (nomatch h)⟩ (fun i H2 hi h => ?_) (fun H2 h => ?_)
    · obtain ⟨l, rfl, hl, hrow2, sB, hb⟩ := h
      refine ⟨rfl, yesT ?_⟩
      refine ⟨.ref r, rfl, .int size, rfl, 2, size, rfl, rfl, .inl ⟨by decide, by decide⟩, _, 1, rfl, rfl, r, 2 * size + 1, a, rfl, by omega, by omega, hrow2, fun x o2 x0 x1 hrow3 => ?_⟩
      refine ⟨.int size, rfl, x, size, rfl, rfl, I l, ?_, ?_, l ++ [x - size], ?_, ?_, ?_, ?_, ?_⟩
      · rw [upd_ne nD]
        exact hl
      · rw [List.length_map]
        exact small1000 (by omega)
      · rw [List.length_append]
        rfl
      · rw [upd_same, I, I, List.map_append]
        rfl
      · exact hrow1.upd hD hrow3
      · intro c o3 nc e
        rw [upd_ne (ne_of_none e hD), upd_ne nc]
        exact sB c o3 nc e
      · intro y hy
        rcases List.mem_append.mp hy with z | z
        · exact hb y z
        · have := List.mem_singleton.mp z
          omega
    · obtain ⟨l, hlen, hl, hrow2, sB, hb⟩ := h
      refine ⟨D, l, rfl, hl, by omega, fun H3 t s3 ht => ?_⟩
      exact q H3 t l ((sB0.trans sB).trans (SameB.of s3)) (hrow2.same s3) ht (by omega) hb
abbrev sSome : Stmt := topS 26
abbrev nSome : List Str := ["_law_row", "_law_most", "_law_size", "_law_one"]
theorem scSome : FnScope nSome ["_law_row", "_law_most", "_law_size"] (defScope sSome) := ⟨rfl, rfl, rfl, by decide +kernel, rfl, by decide +kernel, by decide +kernel⟩
def spSome (K : PySem.W.Frag) : Sp := fun vs H Q _ => ∃ (r a : Addr) (most size : Int), vs = [.ref r, .int most, .int size] ∧ Row K a H r ∧ 0 ≤ most ∧ most ≤ 100 ∧ 1 ≤ size ∧ size ≤ 1000 ∧
  ∀ (H' : Hp) (q : Addr) (l : List Int), H' q = some (.tup (I l)) → K5.lst l ≠ 0 → (l.length : Int) ≤ most + 1 → (∀ x ∈ l, -size ≤ x ∧ x ≤ size) → Q (.ref q) H'
theorem ok_some {f : Addr} {fd : FuncData} (F : Fun K "_law_some" "_law_some" sSome f fd) (DT : Use P w K mg base "_law_taken" 1 ["_law_row", "_law_many"] (spTaken K)) (DP : Use P w K mg base "_law_poly" 2 ["_law_row", "_law_most", "_law_size"] (spPoly K)) :
    FnOk P w K mg base CX0 3 f fd ["_law_row", "_law_most", "_law_size"] (spSome K) := by
  refine F.ok scSome (fun vs H Q E h => ?_) (fun cdv A outer s H vs Q E hr h => ?_)
  · obtain ⟨r, a, most, size, rfl, _⟩ := h
    rfl
  · obtain ⟨r, a, most, size, rfl, hrow, m0, m9, z0, z9, q⟩ := h
    refine ⟨_, pss_cons (ps_set (i := 3) scSome.nd rfl (.inl rfl) (pe_use DP hr (by rfl) (pa_cons (pv 0) (pa_cons (pv 1) (pa_cons (pv 2) pa_nil)))))
      (pss_one (ps_ret (pe_ifExp (pt_cmpR (op_neD hr.units) (pv 3) (pe_tup pa_nil) (nomark _)) (pv 3) (pe_tup (pa_cons (pe_op op_add pe_int (pe_use DT (hr.mono (by decide)) (by rfl) (pa_cons (pv 0) (pa_cons (pv 2) pa_nil)))) pa_nil))))), ?_⟩
    refine ⟨_, rfl, _, rfl, _, rfl, r, a, most, size, rfl, hrow, m0, m9, by omega, z9, fun H1 p l sB hrow1 hp hl hb => ?_⟩
    refine ⟨_, rfl, small (Nat.zero_le _), fun e he => ?_⟩
    have s1 : Same H1 (upd H1 e (.tup [])) := same_upd he
    refine ⟨.tuple ((K5.trim l).map PyData.int), .tuple [], .tup (SqT.of (s1 _ _ hp)) (dp_ints _), .tup (SqT.of upd_same) .nil, shaped_tup _, by decide, _, rfl, ?_⟩
    rw [eqv_nilT]
    by_cases hn : K5.trim l = []
    · rw [decide_eq_true hn]
      refine iteF ?_
      refine ⟨_, rfl, _, rfl, r, size, a, rfl, by omega, by omega, hrow1.same s1, fun x o x0 x1 hrow2 => ?_⟩
      refine ⟨1, x, rfl, rfl, small (by simp), fun t ht => ?_⟩
      refine q _ t [1 + x] upd_same ?_ ?_ ?_
      · show 1 + x ≠ 0
        omega
      · show (1 : Int) ≤ most + 1
        omega
      · intro y hy
        have := List.mem_singleton.mp hy
        omega
    · rw [decide_eq_false hn]
      refine iteT ⟨_, rfl, ?_⟩
      refine q _ p (K5.trim l) (s1 _ _ hp) ?_ ?_ fun y hy => hb y (K5.trim_mem hy)
      · rcases K5.trim_last l with z | z
        · exact absurd z hn
        · exact z
      · have := K5.trim_len l
        omega
end
end K5W

namespace K5W
open PySem PySem.Spec PyProof.Rows L2
/-! ### the table of the law's minors -/
/-- one row of n numbers -/
def rw1 (n : Nat) (f : Nat → Int) : List Int := (List.range n).map f
theorem rw1_len (n : Nat) (f : Nat → Int) : (rw1 n f).length = n := by simp [rw1]
theorem rw1_getD {n : Nat} {f : Nat → Int} {j : Nat} (h : j < n) : (rw1 n f).getD j 0 = f j := by
  unfold rw1
  rw [List.getD_eq_getElem?_getD, List.getElem?_map, List.getElem?_range h]
  rfl
theorem rw1_at {n : Nat} {f : Nat → Int} {z : Int} {j : Nat} (hz : z = (j : Int)) (h : j < n) : atI (I (rw1 n f)) z = some (.int (f j)) := by
  rw [atI_of hz (by rw [rw1_len]; exact h), rw1_getD h]
theorem rw1_congr {n : Nat} {f g : Nat → Int} (h : ∀ j, j < n → f j = g j) : rw1 n f = rw1 n g := by
  unfold rw1
  apply List.map_congr_left
  intro j hj
  exact h j (List.mem_range.mp hj)
theorem rw1_get {n : Nat} {f : Nat → Int} {i : Nat} (h : i < (rw1 n f).length) : (rw1 n f)[i] = f i := by simp [rw1]
theorem rw1_set {n : Nat} {f g : Nat → Int} {j : Nat} {v : Int} (hv : g j = v) (hg : ∀ i, i < n → i ≠ j → g i = f i) : (rw1 n f).set j v = rw1 n g := by
  apply List.ext_getElem
  · rw [List.length_set, rw1_len, rw1_len]
  · intro i h1 h2
    have h3 : i < n := by
      rw [rw1_len] at h2
      exact h2
    rw [List.getElem_set]
    by_cases e : j = i
    · rw [if_pos e, rw1_get, ← e, hv]
    · rw [if_neg e, rw1_get, rw1_get, hg i h3 (fun z => e z.symm)]
theorem rw1_snoc (n : Nat) (f : Nat → Int) : rw1 (n + 1) f = rw1 n f ++ [f n] := by
  unfold rw1
  rw [List.range_succ, List.map_append]
  rfl
theorem ref_at {bs : List Addr} {z : Int} {t : Nat} {b : Addr} (hz : z = (t : Int)) (h : bs[t]? = some b) : atI (bs.map V.ref) z = some (.ref b) := by
  subst hz
  exact atI_nat (by rw [List.getElem?_map, h]; rfl)
/-- one stage of the elimination, done up to a place -/
def part (k : Nat) (M : Nat → Nat → Int) (d : Int) (place more : Nat) : Nat → Nat → Int := fun i j => if k < j ∧ k < i ∧ (i < place ∨ (i = place ∧ j < more)) then (M i j * M k k - M i k * M k j) / d else M i j
theorem part_start (k : Nat) (M : Nat → Nat → Int) (d : Int) (i j : Nat) : part k M d (k + 1) (k + 1) i j = M i j := by
  unfold part
  rw [if_neg (by omega)]
theorem part_next (k n : Nat) (M : Nat → Nat → Int) (d : Int) (place i j : Nat) (hj : j < n) : part k M d place n i j = part k M d (place + 1) (k + 1) i j := by
  unfold part
  by_cases h : k < j ∧ k < i ∧ (i < place ∨ (i = place ∧ j < n))
  · rw [if_pos h, if_pos (by omega)]
  · rw [if_neg h, if_neg (by omega)]
theorem part_end (k n : Nat) (M : Nat → Nat → Int) (d : Int) (i j : Nat) (hi : i < n) : part k M d n (k + 1) i j = K5.bstep k M d i j := by
  unfold part K5.bstep
  by_cases h : k < i ∧ k < j
  · rw [if_pos h, if_pos (by omega)]
  · rw [if_neg h, if_neg (by omega)]
theorem part_row (k : Nat) (M : Nat → Nat → Int) (d : Int) (place more i j : Nat) (h : j ≤ k ∨ i ≤ k ∨ (i = place ∧ more ≤ j)) : part k M d place more i j = M i j := by
  unfold part
  rw [if_neg (by omega)]
theorem part_step (k : Nat) (M : Nat → Nat → Int) (d : Int) (place more : Nat) (hp : k < place) (hm : k < more) : part k M d place (more + 1) place more = (M place more * M k k - M place k * M k more) / d := by
  unfold part
  rw [if_pos (by omega)]
theorem part_other (k : Nat) (M : Nat → Nat → Int) (d : Int) (place more i j : Nat) (h : ¬ (i = place ∧ j = more)) : part k M d place (more + 1) i j = part k M d place more i j := by
  unfold part
  by_cases c : k < j ∧ k < i ∧ (i < place ∨ (i = place ∧ j < more))
  · rw [if_pos c, if_pos (by omega)]
  · rw [if_neg c, if_neg (by omega)]
theorem ediv_le (x d : Int) : (x / d).natAbs ≤ x.natAbs := Int.natAbs_ediv_le_natAbs x d
/-- sizes -/
theorem mb_bd {A : Nat → Nat → Int} (h : ∀ i j, (A i j).natAbs < 2 ^ 20) : ∀ k, (∀ i j, ((K5.Mb A k).1 i j).natAbs < 2 ^ (21 * 2 ^ k - 1)) ∧ ((K5.Mb A k).2).natAbs < 2 ^ (21 * 2 ^ k - 1)
  | 0 => ⟨h, by
    show (1 : Int).natAbs < 2 ^ 20
    decide⟩
  | k + 1 => by
    obtain ⟨h1, h2⟩ := mb_bd h k
    have p : 1 ≤ 2 ^ k := Nat.one_le_two_pow
    have e : 21 * 2 ^ (k + 1) - 1 = (21 * 2 ^ k - 1) + (21 * 2 ^ k - 1) + 1 := by
      rw [Nat.pow_succ]
      omega
    have up : 2 ^ (21 * 2 ^ k - 1) ≤ 2 ^ (21 * 2 ^ (k + 1) - 1) := Nat.pow_le_pow_right (by decide) (by omega)
    refine ⟨fun i j => ?_, Nat.lt_of_lt_of_le (h1 k k) up⟩
    show (K5.bstep k (K5.Mb A k).1 (K5.Mb A k).2 i j).natAbs < _
    unfold K5.bstep
    split
    · refine Nat.lt_of_le_of_lt (ediv_le _ _) ?_
      have a1 := wide_lt (h1 i j) (h1 k k)
      have a2 := wide_lt (h1 i k) (h1 k j)
      have := Int.natAbs_sub_le ((K5.Mb A k).1 i j * (K5.Mb A k).1 k k) ((K5.Mb A k).1 i k * (K5.Mb A k).1 k j)
      rw [e, Nat.pow_succ]
      omega
    · exact Nat.lt_of_lt_of_le (h1 i j) up
theorem stage_bd {k : Nat} (h : k ≤ 8) : 0 < 21 * 2 ^ k - 1 ∧ 21 * 2 ^ k - 1 ≤ 8000 := by
  have h1 : 2 ^ k ≤ 2 ^ 8 := Nat.pow_le_pow_right (by decide) h
  have h2 : 1 ≤ 2 ^ k := Nat.one_le_two_pow
  have h3 : (2 : Nat) ^ 8 = 256 := by decide
  omega
theorem dn_bd {q : List Int} (h : Bd 20 q) (t : Nat) : (K5.dn q t).natAbs < 2 ^ 20 := by
  unfold K5.dn
  by_cases c : t < q.reverse.length
  · rw [List.getD_eq_getElem?_getD, List.getElem?_eq_getElem c]
    exact h _ (List.mem_reverse.mp (List.getElem_mem c))
  · rw [List.getD_eq_getElem?_getD, List.getElem?_eq_none (by omega)]
    decide
theorem hurB_bd {q : List Int} (h : Bd 20 q) (i j : Nat) : (K5.hurB (K5.dn q) i j).natAbs < 2 ^ 20 := by
  unfold K5.hurB
  split
  · exact dn_bd h _
  · decide
/-- an entry of the law's table -/
theorem table_at {q : List Int} {n i j : Nat} (hn : q.length = n + 1) {z : Int} (hz : z = 2 * (1 + (j : Int)) - (1 + (i : Int))) :
    (0 ≤ z ∧ z ≤ n → atI (I q.reverse) z = some (.int (K5.hurB (K5.dn q) i j))) ∧ (¬ (0 ≤ z ∧ z ≤ n) → K5.hurB (K5.dn q) i j = 0) := by
  constructor
  · rintro ⟨h1, h2⟩
    have e : z = ((2 * j + 1 - i : Nat) : Int) := by omega
    rw [atI_of e (by rw [List.length_reverse]; omega)]
    unfold K5.hurB K5.dn
    rw [if_pos (by omega)]
  · intro h
    unfold K5.hurB
    split
    · exact K5.dn_far (by omega)
    · rfl
theorem norm_len (ns : List Int) : (K5.norm ns).length = ns.length := by
  unfold K5.norm
  split
  · exact K5.neg_len ns
  · rfl
theorem norm_bd {B : Nat} {ns : List Int} (h : Bd B ns) : Bd B (K5.norm ns) := by
  unfold K5.norm
  split
  · intro x hx
    unfold K5.neg at hx
    obtain ⟨y, hy, rfl⟩ := List.mem_map.mp hx
    rw [Int.natAbs_neg]
    exact h y hy
  · exact h
end K5W

namespace K5W
open PySem PySem.Spec PyProof.Rows L2
/-! ### _law_minors -/
abbrev sMin : Stmt := topS 27
abbrev nMin : List Str := ["_law_one", "_law_many", "_law_down", "_law_table", "_law_at", "_law_place", "_law_places", "_law_rows", "_law_shared", "_law_more", "_law_number", "_law_told"]
theorem scMin : FnScope nMin ["_law_one"] (defScope sMin) := ⟨rfl, rfl, rfl, by decide +kernel, rfl, by decide +kernel, by decide +kernel⟩
def spMin : Sp := fun vs H Q _ => ∃ (p : Addr) (ns : List Int), vs = [.ref p] ∧ H p = some (.tup (I ns)) ∧ K5.lst ns ≠ 0 ∧ ns.length ≤ 9 ∧ Bd 20 ns ∧ ∀ H', Same H H' → Q (.bl (K5.minors ns)) H'
/-- the rows at bs, in the list at R, hold n columns of f -/
structure El (H : Hp) (R : Addr) (bs : List Addr) (n : Nat) (f : Nat → Nat → Int) (H' : Hp) : Prop where
  same : Same H H'
  top : H' R = some (.lst (bs.map V.ref))
  row : ∀ (t : Nat) (b : Addr), bs[t]? = some b → H' b = some (.lst (I (rw1 n (f t))))
theorem El.same' {H H1 : Hp} {R : Addr} {bs : List Addr} {n : Nat} {f g : Nat → Nat → Int} (e : El H R bs n f H1) (h : ∀ t j, t < bs.length → j < n → f t j = g t j) : El H R bs n g H1 :=
  ⟨e.same, e.top, fun t b hb => by
    rw [e.row t b hb]
    congr 3
    exact rw1_congr fun j hj => h t j (List.getElem?_eq_some_iff.mp hb).1 hj⟩
theorem El.set {H H1 : Hp} {R : Addr} {bs : List Addr} {n : Nat} {f g : Nat → Nat → Int} {t : Nat} {b : Addr} {l : List Int} (e : El H R bs n f H1) (nd : bs.Nodup) (fr : ∀ b ∈ bs, H b = none ∧ b ≠ R) (hb : bs[t]? = some b)
    (hl : l = rw1 n (g t)) (hg : ∀ i, i ≠ t → ∀ j, j < n → g i j = f i j) : El H R bs n g (upd H1 b (.lst (I l))) := by
  obtain ⟨f1, f2⟩ := fr b (List.mem_of_getElem? hb)
  refine ⟨fun c o h => ?_, ?_, fun i c hc => ?_⟩
  · rw [upd_ne (ne_of_none h f1)]
    exact e.same c o h
  · rw [upd_ne f2.symm]
    exact e.top
  · by_cases z : i = t
    · subst z
      rw [hb] at hc
      cases hc
      rw [upd_same, hl]
    · have nc : c ≠ b := by
        intro y
        subst y
        obtain ⟨h2, _⟩ := List.getElem?_eq_some_iff.mp hc
        exact z ((List.getElem?_inj h2 nd).mp (hc.trans hb.symm))
      rw [upd_ne nc, e.row i c hc]
      congr 3
      exact (rw1_congr fun j hj => hg i z j hj).symm
theorem neg_row (l : List Int) (i : Nat) (a : Int) (ha : l[i]? = some a) : (K5.neg l).take (i + 1) = (K5.neg l).take i ++ [-a] := neg_at l i a ha
section
variable {P : Program} {w : World} {K : PySem.W.Frag} {mg : Str → Option Value} {base : Heap}
theorem ok_min {f : Addr} {fd : FuncData} (F : Fun K "_law_minors" "_law_minors" sMin f fd) (B : Blt mg) : FnOk P w K mg base CX0 1 f fd ["_law_one"] spMin := by
  refine F.ok scMin (fun vs H Q E h => ?_) (fun cdv A outer s H vs Q E hr h => ?_)
  · obtain ⟨p, ns, rfl, _⟩ := h
    rfl
  · obtain ⟨p, ns, rfl, hp, h0, hl, hb, q⟩ := h
    refine ⟨_, C8.pss_cut (ps_if (pt_cmpR op_lt (pe_ix ix_tup (pv 0) (pe_un un_neg pe_int) (fun _ _ => rfl)) pe_int (nomark _)) (pss_one (ps_set (i := 0) scMin.nd rfl (.inl rfl) (pe_callTy call_tuple_of (by rfl) B.tuple PyProof.Rows.boot_tuple (pa_cons
          (pe_lc (own := [("_law_number", 10)]) (g := gName 10) (tt := tYes) (by rfl) scMin.nd (pi_tup (pv 0)) (blkOk_by (own := [("_law_number", 10)]) (N := nMin) (sc := defScope sMin) (by decide +kernel)) (fun _ _ _ _ _ => pg_name (i := 10) scMin.nd rfl (Or.inl rfl)) (fun _ _ _ _ _ => pts_nil)
            (fun _ _ _ _ _ => pe_un un_neg (pv 10))) pa_nil)))) pss_nil)
      (pss_cons (ps_set (i := 1) scMin.nd rfl (.inr rfl) (pe_op op_sub (pe_callB call_len_seq (by rfl) B.len PySem.boot_len (pa_cons (pv 0) pa_nil)) pe_int))
      (pss_cons (ps_set (i := 2) scMin.nd rfl (.inr rfl) (pe_revL (pe_callTy call_list_of (by rfl) B.list PyProof.Rows.boot_list (pa_cons (pv 0) pa_nil))))
      (C8.pss_cut (ps_set (i := 3) scMin.nd rfl (.inl rfl) (pe_lst pa_nil))
      (C8.pss_cut (ps_for PassesOwn.never rfl (pi_range2 (by rfl) B.range (pa_cons pe_int (pa_cons (pe_op op_add (pv 1) pe_int) pa_nil))) (pg_name (i := 4) scMin.nd rfl (.inr rfl))
        (pss_cons (ps_setLc (i := 6) (own := [("_law_place", 5)]) (g := gName 5) (tt := tYes) rfl scMin.nd rfl rfl (sw_true rfl rfl rfl (by decide +kernel)) (pi_range2 (by rfl) B.range (pa_cons pe_int (pa_cons (pe_op op_add (pv 1) pe_int) pa_nil)))
          (blkOk_by (own := [("_law_place", 5)]) (N := nMin) (sc := defScope sMin) (by decide +kernel)) (fun _ _ _ _ _ => pg_name (i := 5) scMin.nd rfl (Or.inl rfl)) (fun _ _ _ _ _ => pts_nil) (fun _ _ _ _ _ => pe_op op_sub (pe_op op_mul pe_int (pv 5)) (pv 4)))
        (pss_one (ps_expr (pe_bm PySem.F.plainAttrs_list PySem.F.slot_list_append PySem.F.type_list_append mt_append (pv 3) (pa_cons
          (pe_lc (own := [("_law_place", 5)]) (g := gName 5) (tt := tYes) (by rfl) scMin.nd (pi_list (pv 6)) (blkOk_by (own := [("_law_place", 5)]) (N := nMin) (sc := defScope sMin) (by decide +kernel)) (fun _ _ _ _ _ => pg_name (i := 5) scMin.nd rfl (Or.inl rfl)) (fun _ _ _ _ _ => pts_nil)
            (fun _ _ _ _ _ => pe_ifExp (pt_chain op_le op_le pe_int (pv 5) (pv 1)) (pe_ix (ixL K) (pv 2) (pv 5) (fun _ _ => rfl)) pe_int)) pa_nil))))))
      (pss_cons (ps_par (i := 7) (j := 8) rfl scMin.nd rfl rfl (by decide) rfl rfl (pa_cons
          (pe_lc (own := [("_law_told", 11)]) (g := gName 11) (tt := tYes) (by rfl) scMin.nd (pi_list (pv 3)) (blkOk_by (own := [("_law_told", 11)]) (N := nMin) (sc := defScope sMin) (by decide +kernel)) (fun _ _ _ _ _ => pg_name (i := 11) scMin.nd rfl (Or.inl rfl)) (fun _ _ _ _ _ => pts_nil)
            (fun _ _ _ _ _ => pe_callTy (listK K) (by rfl) B.list PyProof.Rows.boot_list (pa_cons (pv 11) pa_nil))) (pa_cons pe_int pa_nil)) rfl)
      (pss_cons (ps_for PassesOwn.never rfl (pi_range1 (by rfl) B.range (pa_cons (pv 1) pa_nil)) (pg_name (i := 4) scMin.nd rfl (.inr rfl))
        (pss_cons (ps_if (pt_cmpR op_le (pe_ix ix_list (pe_ix ix_list (pv 7) (pv 4) (fun _ _ => rfl)) (pv 4) (fun _ _ => rfl)) pe_int (nomark _)) (pss_one (ps_ret pe_bl)) pss_nil)
        (C8.pss_cut (ps_for PassesOwn.never rfl (pi_range2 (by rfl) B.range (pa_cons (pe_op op_add (pv 4) pe_int) (pa_cons (pv 1) pa_nil))) (pg_name (i := 5) scMin.nd rfl (.inl rfl))
          (pss_one (ps_for PassesOwn.never rfl (pi_range2 (by rfl) B.range (pa_cons (pe_op op_add (pv 4) pe_int) (pa_cons (pv 1) pa_nil))) (pg_name (i := 9) scMin.nd rfl (.inl rfl))
            (C8.pss_cut (ps_asg (pe_op op_sub (pe_op op_mulW (pe_ix ix_list (pe_ix ix_list (pv 7) (pv 5) (fun _ _ => rfl)) (pv 9) (fun _ _ => rfl)) (pe_ix ix_list (pe_ix ix_list (pv 7) (pv 4) (fun _ _ => rfl)) (pv 4) (fun _ _ => rfl)))
                (pe_op op_mulW (pe_ix ix_list (pe_ix ix_list (pv 7) (pv 5) (fun _ _ => rfl)) (pv 4) (fun _ _ => rfl)) (pe_ix ix_list (pe_ix ix_list (pv 7) (pv 4) (fun _ _ => rfl)) (pv 9) (fun _ _ => rfl)))) (pg_sub (pe_ix ix_list (pv 7) (pv 5) (fun _ _ => rfl)) (pv 9) set_list))
            (pss_one (ps_asg (pe_op op_fdivW (pe_ix ix_list (pe_ix ix_list (pv 7) (pv 5) (fun _ _ => rfl)) (pv 9) (fun _ _ => rfl)) (pv 8)) (pg_sub (pe_ix ix_list (pv 7) (pv 5) (fun _ _ => rfl)) (pv 9) set_list)))))))
        (pss_one (ps_set (i := 8) scMin.nd rfl (.inl rfl) (pe_ix ix_list (pe_ix ix_list (pv 7) (pv 4) (fun _ _ => rfl)) (pv 4) (fun _ _ => rfl)))))))
      (pss_one (ps_ret pe_bl)))))))), ?_⟩
    have ne := lst_ne h0
    have pl := List.length_pos_iff.mpr ne
    -- the sign of the lead
    refine ⟨fun σ H1 => ∃ p', σ = [some (.ref p'), none, none, none, none, none, none, none, none, none, none, none] ∧ Same H H1 ∧ H1 p' = some (.tup (I (K5.norm ns))), ?_, ?_⟩
    · refine ⟨_, rfl, 1, rfl, p, I ns, -1, _, rfl, rfl, SqT.of hp, at_last ne, _, _, rfl, rfl, _, rfl, ite2 (fun c => ?_) (fun c => ?_)⟩
      · have c : K5.lst ns < 0 := of_decide_eq_true c
        have en : K5.norm ns = K5.neg ns := by
          unfold K5.norm
          rw [if_pos c]
        rw [en]
        refine ⟨_, rfl, p, rfl, ⟨_, SqT.of hp⟩, fun D hD => ?_⟩
        refine lc_it (walk_tup (xs := I ns)) (fun i H1 => Same H H1 ∧ H1 D = some (.lst (I ((K5.neg ns).take i)))) ⟨same_upd hD, upd_same⟩ (fun i H1 _ h1 => SqT.of (h1.1 _ _ hp)) (fun i x H1 H2 hi h1 hy => ?_) (fun H1 h1 => ?_)
        · obtain ⟨rfl, gx⟩ := hy
          obtain ⟨a, ga, rfl⟩ := getI_of gx
          refine ⟨rfl, yesT ⟨_, rfl, a, rfl, _, h1.2, ?_, ?_, ?_⟩⟩
          · rw [List.length_map, List.length_take, K5.neg_len]
            exact small1000 (by omega)
          · intro c o e
            rw [upd_ne (ne_of_none e hD)]
            exact h1.1 _ _ e
          · rw [upd_same, neg_row _ _ _ ga, I, I, List.map_append]
            rfl
        · rw [List.length_map, List.take_of_length_le (by rw [K5.neg_len]; exact Nat.le_refl _)] at h1
          refine ⟨D, _, rfl, .inl ⟨SqL.of h1.2, fun t ht => ⟨t, rfl, h1.1.trans (same_upd ht), upd_same⟩⟩⟩
      · have c : ¬ K5.lst ns < 0 := fun z => c (decide_eq_true z)
        have en : K5.norm ns = ns := by
          unfold K5.norm
          rw [if_neg c]
        rw [en]
        exact ⟨p, rfl, Same.refl H, hp⟩
    rintro σ H1 ⟨p', rfl, s1, hp1⟩
    have qd : ∀ H', Same H H' → Q (.bl (decide (∀ k, k < (K5.norm ns).length - 1 → 0 < (K5.Mb (K5.hurB (K5.dn (K5.norm ns))) k).1 k k))) H' := q
    have bq : Bd 20 (K5.norm ns) := norm_bd hb
    have lq : (K5.norm ns).length = (ns.length - 1) + 1 := by
      rw [norm_len]
      omega
    have l8 : ns.length - 1 ≤ 8 := by omega
    clear q
    generalize K5.norm ns = q' at hp1 qd bq lq
    generalize ns.length - 1 = n at lq l8
    rw [show q'.length - 1 = n by omega] at qd
    have bA : ∀ i j, (K5.hurB (K5.dn q') i j).natAbs < 2 ^ 20 := hurB_bd bq
    have r62 : ∀ z : Int, 0 ≤ z → z ≤ 1000 → -(2 ^ 62) ≤ z ∧ z < 2 ^ 62 := by
      intro z z1 z2
      have : (2 : Int) ^ 62 = 4611686018427387904 := by decide
      rw [this]
      omega
    -- many, down, table
    refine ⟨_, rfl, p', I q', rfl, .inr (SqT.of hp1), _, 1, rfl, rfl, ?_⟩
    refine ⟨_, rfl, p', I q', rfl, .inr (SqT.of hp1), fun e he => ?_⟩
    have s2 : Same H1 (upd H1 e (.lst (I q'))) := same_upd he
    refine ⟨e, I q', rfl, SqL.of upd_same, fun d hd => ?_⟩
    have s3 := s2.trans (same_upd (o := .lst (I q').reverse) hd)
    have hd1 : (upd (upd H1 e (.lst (I q'))) d (.lst (I q').reverse)) d = some (.lst (I q'.reverse)) := by
      rw [upd_same, I, I, List.map_reverse]
    generalize (upd (upd H1 e (.lst (I q'))) d (.lst (I q').reverse)) = H2 at s3 hd1
    have sH2 := s1.trans s3
    refine ⟨fun σ H4 => ∃ T, σ = [some (.ref p'), some (.int (n : Int)), some (.ref d), some (.ref T), none, none, none, none, none, none, none, none] ∧ Same H2 H4 ∧ H2 T = none ∧ H4 T = some (.lst []), ?_, ?_⟩
    · refine ⟨small (Nat.zero_le _), fun T hT => ⟨T, ?_, same_upd hT, hT, upd_same⟩⟩
      show [some (V.ref p'), some (V.int (((I q').length : Int) - 1)), some (V.ref d), some (V.ref T), none, none, none, none, none, none, none, none] = _
      rw [List.length_map, show ((q'.length : Int) - 1) = (n : Int) by omega]
    rintro σ H4 ⟨T, rfl, s4, hT0, hT⟩
    have hd4 := s4 _ _ hd1
    -- the table
    refine ⟨fun σ H5 => ∃ (s4 s6 : Option V) (as : List Addr), σ = [some (.ref p'), some (.int (n : Int)), some (.ref d), some (.ref T), s4, none, s6, none, none, none, none, none] ∧ Same H2 H5 ∧ H5 T = some (.lst (as.map V.ref)) ∧ as.length = n ∧
      ∀ t a, as[t]? = some a → H5 a = some (.lst (I (rw1 n (K5.hurB (K5.dn q') t)))), ?_, ?_⟩
    · refine ⟨_, rfl, _, 1, rfl, rfl, 1, (n : Int) + 1, rfl, ⟨(r62 1 (by decide) (by decide)).1, (r62 1 (by decide) (by decide)).2, (r62 _ (by omega) (by omega)).1, (r62 _ (by omega) (by omega)).2⟩, ?_⟩
      refine for_range (lo := 1) (n := ((n : Int) + 1 - 1).toNat) (fun i σ H5 => ∃ (s4 s6 : Option V) (as : List Addr), σ = [some (.ref p'), some (.int (n : Int)), some (.ref d), some (.ref T), s4, none, s6, none, none, none, none, none] ∧ Same H2 H5 ∧ H5 T = some (.lst (as.map V.ref)) ∧ as.length = i ∧
        ∀ t a, as[t]? = some a → H5 a = some (.lst (I (rw1 n (K5.hurB (K5.dn q') t))))) ⟨none, none, [], rfl, s4, hT, rfl, fun t a h => by simp at h⟩ ?_ ?_
      · rintro i σ H5 hi ⟨x4, x6, as, rfl, s5, hT5, la, ha⟩
        have hi : i < n := by omega
        -- places
        refine ⟨_, rfl, _, 1, rfl, rfl, 1, (n : Int) + 1, rfl, ⟨(r62 1 (by decide) (by decide)).1, (r62 1 (by decide) (by decide)).2, (r62 _ (by omega) (by omega)).1, (r62 _ (by omega) (by omega)).2⟩, fun L hL => ?_⟩
        refine lc_range (lo := 1) (n := ((n : Int) + 1 - 1).toNat) (fun j H6 => Same H5 H6 ∧ H6 L = some (.lst (I (rw1 j fun j => 2 * (1 + (j : Int)) - (1 + (i : Int)))))) ⟨same_upd hL, upd_same⟩ (fun j H6 hj h6 => ?_) (fun H6 h6 => ?_)
        · refine ⟨rfl, yesT ?_⟩
          refine ⟨_, rfl, 2, _, rfl, rfl, .inl ⟨by decide, by decide⟩, _, rfl, _, _, rfl, rfl, _, h6.2, ?_, ?_, ?_⟩
          · rw [List.length_map, rw1_len]
            exact small1000 (by omega)
          · intro c o e
            rw [upd_ne (ne_of_none e hL)]
            exact h6.1 _ _ e
          · rw [upd_same, rw1_snoc, I, I, List.map_append]
            rfl
        · rw [show ((n : Int) + 1 - 1).toNat = n by omega] at h6
          obtain ⟨s6, hL6⟩ := h6
          have hT6 := s6 _ _ hT5
          have hd6 := s6 _ _ (s5 _ _ hd1)
          -- table.append([..])
          refine ⟨_, rfl, .inl ⟨rfl, _, SqL.of hT6⟩, .ref L, rfl, L, rfl, ⟨_, SqL.of hL6⟩, fun G hG => ?_⟩
          refine lc_it (walk_list (xs := I (rw1 n fun j => 2 * (1 + (j : Int)) - (1 + (i : Int))))) (fun j H7 => Same H6 H7 ∧ H7 G = some (.lst (I (rw1 j (K5.hurB (K5.dn q') i))))) ⟨same_upd hG, upd_same⟩ (fun j H7 _ h7 => SqL.of (h7.1 _ _ hL6)) (fun j x H7 H8 hj h7 hy => ?_) (fun H7 h7 => ?_)
          · obtain ⟨rfl, gx⟩ := hy
            rw [List.length_map, rw1_len] at hj
            have gx2 := getI (ns := rw1 n fun j => 2 * (1 + (j : Int)) - (1 + (i : Int))) (i := j) (by rw [rw1_len]; exact hj)
            rw [rw1_getD hj] at gx2
            rw [gx2] at gx
            obtain rfl := Option.some.inj gx
            obtain ⟨ta1, ta2⟩ := table_at (q := q') (n := n) (i := i) (j := j) lq rfl
            refine ⟨rfl, yesT ?_⟩
            have fin : ∃ acc, H8 G = some (.lst acc) ∧ acc.length < sizeLine ∧ Same H6 (upd H8 G (.lst (acc ++ [.int (K5.hurB (K5.dn q') i j)]))) ∧ (upd H8 G (.lst (acc ++ [.int (K5.hurB (K5.dn q') i j)]))) G = some (.lst (I (rw1 (j + 1) (K5.hurB (K5.dn q') i)))) := by
              refine ⟨_, h7.2, ?_, ?_, ?_⟩
              · rw [List.length_map, rw1_len]
                exact small1000 (by omega)
              · intro c o e
                rw [upd_ne (ne_of_none e hG)]
                exact h7.1 _ _ e
              · rw [upd_same, rw1_snoc, I, I, List.map_append]
                rfl
            refine ⟨_, rfl, 0, _, rfl, rfl, _, rfl, ite2 (fun c1 => ?_) (fun c1 => ?_)⟩
            · have c1 := of_decide_eq_true c1
              refine ⟨_, rfl, _, _, rfl, rfl, _, rfl, ite2 (fun c2 => ?_) (fun c2 => ?_)⟩
              · have c2 := of_decide_eq_true c2
                exact ⟨_, rfl, _, rfl, d, _, _, _, rfl, rfl, SqL.of (h7.1 _ _ hd6), ta1 ⟨c1, c2⟩, fin⟩
              · have e0 := ta2 fun z => c2 (decide_eq_true z.2)
                rw [e0] at fin
                exact fin
            · refine ⟨_, rfl, iteF ?_⟩
              have e0 := ta2 fun z => c1 (decide_eq_true z.1)
              rw [e0] at fin
              exact fin
          · rw [List.length_map, rw1_len] at h7
            obtain ⟨s7, hG7⟩ := h7
            refine ⟨T, _, _, rfl, rfl, s7 _ _ hT6, ?_, _, _, as ++ [G], rfl, ?_, ?_, ?_, ?_⟩
            · rw [List.length_map]
              exact small1000 (by omega)
            · intro c o e
              rw [upd_ne (ne_of_none e hT0)]
              exact s7 _ _ (s6 _ _ (s5 _ _ e))
            · rw [upd_same, List.map_append]
              rfl
            · rw [List.length_append, la]
              rfl
            · intro t a hta
              have nG : ∀ l : List Int, 0 < l.length → H7 G = some (.lst (I l)) → True := fun _ _ _ => trivial
              by_cases z : t < i
              · rw [List.getElem?_append_left (by omega)] at hta
                have h1 := ha t a hta
                have nT : a ≠ T := by
                  intro y
                  subst y
                  rw [hT5] at h1
                  have h2 := HO.lst.inj (Option.some.inj h1)
                  cases as with
                  | nil => simp at hta
                  | cons a0 as0 =>
                    have : 0 < n := by omega
                    have e3 : (I (rw1 n (K5.hurB (K5.dn q') t)))[0]? = some (.int _) := getI (by rw [rw1_len]; exact this)
                    rw [← h2] at e3
                    simp at e3
                rw [upd_ne nT]
                exact s7 _ _ (s6 _ _ h1)
              · rw [List.getElem?_append_right (by omega)] at hta
                have : t = i := by
                  have := (List.getElem?_eq_some_iff.mp hta).1
                  simp at this
                  omega
                subst this
                rw [la, Nat.sub_self] at hta
                obtain rfl : G = a := by
                  simpa using hta
                have nT : G ≠ T := (ne_of_none hT6 hG).symm
                rw [upd_ne nT]
                exact hG7
      · rintro σ H5 ⟨x4, x6, as, rfl, s5, hT5, la, ha⟩
        exact ⟨x4, x6, as, rfl, s5, hT5, by omega, ha⟩
    rintro σ H5 ⟨x4, x6, as, rfl, s5, hT5, la, ha⟩
    have sH5 := sH2.trans s5
    -- rows, shared
    refine ⟨_, rfl, T, rfl, ⟨_, SqL.of hT5⟩, fun R hR => ?_⟩
    refine lc_it (walk_list (xs := as.map V.ref)) (fun i H6 => ∃ bs : List Addr, Same H5 H6 ∧ H6 R = some (.lst (bs.map V.ref)) ∧ bs.length = i ∧ bs.Nodup ∧ (∀ b ∈ bs, H5 b = none ∧ b ≠ R) ∧ ∀ t b, bs[t]? = some b → H6 b = some (.lst (I (rw1 n (K5.hurB (K5.dn q') t)))))
      ⟨[], same_upd hR, upd_same, rfl, List.nodup_nil, fun b h => (nomatch h), fun t b h => by simp at h⟩ (fun i H6 _ h6 => SqL.of (h6.choose_spec.1 _ _ hT5)) (fun i x H6 H7 hi h6 hy => ?_) (fun H6 h6 => ?_)
    · obtain ⟨rfl, gx⟩ := hy
      obtain ⟨bs, s6, hR6, lb, nd, fr, hbs⟩ := h6
      rw [List.length_map] at hi
      obtain ⟨a, hta, rfl⟩ : ∃ a, as[i]? = some a ∧ V.ref a = x := by
        rw [List.getElem?_map] at gx
        cases e : as[i]? with
        | none =>
          rw [e] at gx
          cases gx
        | some a =>
          rw [e] at gx
          exact ⟨a, rfl, Option.some.inj gx⟩
      refine ⟨rfl, yesT ⟨_, rfl, a, _, rfl, .inl (SqL.of (s6 _ _ (ha i a hta))), fun l hl => ?_⟩⟩
      have nlR : l ≠ R := (ne_of_none hR6 hl).symm
      have hlb : ∀ b ∈ bs, b ≠ l := by
        intro b hb2
        obtain ⟨t, ht⟩ := List.mem_iff_getElem?.mp hb2
        exact ne_of_none (hbs t b ht) hl
      refine ⟨bs.map V.ref, ?_, ?_, bs ++ [l], ?_, ?_, ?_, ?_, ?_, ?_⟩
      · rw [upd_ne nlR.symm]
        exact hR6
      · rw [List.length_map]
        exact small1000 (by omega)
      · intro c o e
        rw [upd_ne (ne_of_none e hR), upd_ne (ne_of_none (s6 _ _ e) hl)]
        exact s6 _ _ e
      · rw [upd_same, List.map_append]
        rfl
      · rw [List.length_append, lb]
        rfl
      · rw [List.nodup_append]
        refine ⟨nd, by simp, fun b hb2 c hc => ?_⟩
        rw [List.mem_singleton.mp hc]
        exact hlb b hb2
      · intro b hb2
        rcases List.mem_append.mp hb2 with z | z
        · exact fr b z
        · rw [List.mem_singleton.mp z]
          exact ⟨s6.free hl, nlR⟩
      · intro t b htb
        by_cases z : t < i
        · rw [List.getElem?_append_left (by omega)] at htb
          have m1 := List.mem_of_getElem? htb
          rw [upd_ne (fr b m1).2, upd_ne (hlb b m1)]
          exact hbs t b htb
        · rw [List.getElem?_append_right (by omega)] at htb
          have : t = i := by
            have := (List.getElem?_eq_some_iff.mp htb).1
            simp at this
            omega
          subst this
          rw [lb, Nat.sub_self] at htb
          obtain rfl : l = b := by
            simpa using htb
          rw [upd_ne nlR, upd_same]
    · obtain ⟨bs, s6, hR6, lb, nd, fr, hbs⟩ := h6
      rw [List.length_map, la] at lb
      refine ⟨_, _, rfl, ?_⟩
      have fr' : ∀ b ∈ bs, H b = none ∧ b ≠ R := fun b hb2 => ⟨sH5.free (fr b hb2).1, (fr b hb2).2⟩
      have E0 : El H R bs n (K5.hurB (K5.dn q')) H6 := ⟨sH5.trans s6, hR6, hbs⟩
      generalize K5.hurB (K5.dn q') = A at qd bA E0
      clear hbs s6 hR6
      -- the elimination
      refine ⟨_, rfl, (n : Int), rfl, (r62 _ (by omega) (by omega)).1, (r62 _ (by omega) (by omega)).2, ?_⟩
      refine for_range (lo := 0) (n := (n : Int).toNat) (fun k σ H7 => ∃ (s4 s5 s9 : Option V), σ = [some (.ref p'), some (.int (n : Int)), some (.ref d), some (.ref T), s4, s5, x6, some (.ref R), some (.int (K5.Mb A k).2), s9, none, none] ∧ El H R bs n (K5.Mb A k).1 H7 ∧ ∀ l, l < k → 0 < (K5.Mb A l).1 l l)
        ⟨x4, none, none, rfl, E0, fun l hl2 => absurd hl2 (Nat.not_lt_zero l)⟩ ?_ ?_
      · rintro k σ H7 hk ⟨y4, y5, y9, rfl, E7, pos⟩
        have hk : k < n := by omega
        obtain ⟨bk, hbk⟩ : ∃ b, bs[k]? = some b := ⟨_, List.getElem?_eq_getElem (by omega)⟩
        obtain ⟨bd1, bd2⟩ := mb_bd bA k
        obtain ⟨st1, st2⟩ := stage_bd (k := k) (by omega)
        -- if rows[at][at] <= 0
        refine ⟨_, rfl, _, rfl, R, _, _, .ref bk, rfl, rfl, SqL.of E7.top, ref_at (by omega) hbk, _, rfl, bk, _, _, _, rfl, rfl, SqL.of (E7.row k bk hbk), rw1_at (j := k) (by omega) hk, _, _, rfl, rfl, _, rfl, ite2 (fun c => ?_) (fun c => ?_)⟩
        · have c := of_decide_eq_true c
          have qf := qd H7 E7.same
          rw [decide_eq_false (fun z => by
            have := z k hk
            omega)] at qf
          exact qf
        · have c : ¬ (K5.Mb A k).1 k k ≤ 0 := fun z => c (decide_eq_true z)
          have dpos : 0 < (K5.Mb A k).2 := by
            cases k with
            | zero =>
              show (0 : Int) < 1
              decide
            | succ j => exact pos j (Nat.lt_succ_self j)
          have cdiv : ∀ x : Int, CDivW x (K5.Mb A k).2 := fun x => wide_div dpos bd2 st1 (by omega)
          have cmul : ∀ i j i' j', CMulW ((K5.Mb A k).1 i j) ((K5.Mb A k).1 i' j') := fun i j i' j' => wide_mul (bd1 i j) (bd1 i' j') st1 st1 (by omega)
          refine ⟨fun σ H8 => ∃ (s5 s9 : Option V), σ = [some (.ref p'), some (.int (n : Int)), some (.ref d), some (.ref T), some (.int (0 + (k : Int))), s5, x6, some (.ref R), some (.int (K5.Mb A k).2), s9, none, none] ∧ El H R bs n (K5.Mb A (k + 1)).1 H8, ?_, ?_⟩
          · -- for place
            refine ⟨_, rfl, _, 1, rfl, rfl, _, rfl, 0 + (k : Int) + 1, (n : Int), rfl, ⟨(r62 _ (by omega) (by omega)).1, (r62 _ (by omega) (by omega)).2, (r62 _ (by omega) (by omega)).1, (r62 _ (by omega) (by omega)).2⟩, ?_⟩
            refine for_range (lo := 0 + (k : Int) + 1) (n := ((n : Int) - (0 + (k : Int) + 1)).toNat) (fun pp σ H8 => ∃ (s5 s9 : Option V), σ = [some (.ref p'), some (.int (n : Int)), some (.ref d), some (.ref T), some (.int (0 + (k : Int))), s5, x6, some (.ref R), some (.int (K5.Mb A k).2), s9, none, none] ∧
              El H R bs n (part k (K5.Mb A k).1 (K5.Mb A k).2 (k + 1 + pp) (k + 1)) H8) ⟨y5, y9, rfl, E7.same' fun t j _ _ => (part_start k _ _ t j).symm⟩ ?_ ?_
            · rintro pp σ H8 hpp ⟨z5, z9, rfl, E8⟩
              have hpn : k + 1 + pp < n := by omega
              obtain ⟨bp, hbp⟩ : ∃ b, bs[k + 1 + pp]? = some b := ⟨_, List.getElem?_eq_getElem (by omega)⟩
              refine ⟨_, rfl, _, 1, rfl, rfl, _, rfl, 0 + (k : Int) + 1, (n : Int), rfl, ⟨(r62 _ (by omega) (by omega)).1, (r62 _ (by omega) (by omega)).2, (r62 _ (by omega) (by omega)).1, (r62 _ (by omega) (by omega)).2⟩, ?_⟩
              refine for_range (lo := 0 + (k : Int) + 1) (n := ((n : Int) - (0 + (k : Int) + 1)).toNat) (fun mm σ H9 => ∃ (s9 : Option V), σ = [some (.ref p'), some (.int (n : Int)), some (.ref d), some (.ref T), some (.int (0 + (k : Int))), some (.int (0 + (k : Int) + 1 + (pp : Int))), x6, some (.ref R), some (.int (K5.Mb A k).2), s9, none, none] ∧
                El H R bs n (part k (K5.Mb A k).1 (K5.Mb A k).2 (k + 1 + pp) (k + 1 + mm)) H9) ⟨z9, rfl, E8⟩ ?_ ?_
              · rintro mm σ H9 hmm ⟨w9, rfl, E9⟩
                have hmn : k + 1 + mm < n := by omega
                generalize hpl : k + 1 + pp = place at hpn hbp E9
                generalize hmo : k + 1 + mm = more at hmn E9
                have kp : k < place := by omega
                have km : k < more := by omega
                have zp : (0 + (k : Int) + 1 + (pp : Int)) = (place : Int) := by omega
                have zm : (0 + (k : Int) + 1 + (mm : Int)) = (more : Int) := by omega
                have tR := SqL.of (K := K) E9.top
                have rP := E9.row place bp hbp
                have rK := E9.row k bk hbk
                have sP := SqL.of (K := K) rP
                have sK := SqL.of (K := K) rK
                have v1 : part k (K5.Mb A k).1 (K5.Mb A k).2 place more place more = (K5.Mb A k).1 place more := part_row _ _ _ _ _ _ _ (.inr (.inr ⟨rfl, Nat.le_refl _⟩))
                have v2 : part k (K5.Mb A k).1 (K5.Mb A k).2 place more k k = (K5.Mb A k).1 k k := part_row _ _ _ _ _ _ _ (.inl (Nat.le_refl _))
                have v3 : part k (K5.Mb A k).1 (K5.Mb A k).2 place more place k = (K5.Mb A k).1 place k := part_row _ _ _ _ _ _ _ (.inl (Nat.le_refl _))
                have v4 : part k (K5.Mb A k).1 (K5.Mb A k).2 place more k more = (K5.Mb A k).1 k more := part_row _ _ _ _ _ _ _ (.inr (.inl (Nat.le_refl _)))
                have a1 := rw1_at (f := part k (K5.Mb A k).1 (K5.Mb A k).2 place more place) zm hmn
                rw [v1] at a1
                have a2 := rw1_at (f := part k (K5.Mb A k).1 (K5.Mb A k).2 place more k) (show (0 + (k : Int)) = (k : Int) by omega) hk
                rw [v2] at a2
                have a3 := rw1_at (f := part k (K5.Mb A k).1 (K5.Mb A k).2 place more place) (show (0 + (k : Int)) = (k : Int) by omega) hk
                rw [v3] at a3
                have a4 := rw1_at (f := part k (K5.Mb A k).1 (K5.Mb A k).2 place more k) zm hmn
                rw [v4] at a4
                have nbR : R ≠ bp := (fr' bp (List.mem_of_getElem? hbp)).2.symm
                generalize hv : (K5.Mb A k).1 place more * (K5.Mb A k).1 k k - (K5.Mb A k).1 place k * (K5.Mb A k).1 k more = v
                have hv2 : (I (rw1 n (part k (K5.Mb A k).1 (K5.Mb A k).2 place more place))).set more (.int ((K5.Mb A k).1 place more * (K5.Mb A k).1 k k - (K5.Mb A k).1 place k * (K5.Mb A k).1 k more)) = I ((rw1 n (part k (K5.Mb A k).1 (K5.Mb A k).2 place more place)).set more v) := by
                  rw [I, I, List.map_set, hv]
                -- rows[place][more] = .. - ..
                refine ⟨fun σ H10 => σ = [some (.ref p'), some (.int (n : Int)), some (.ref d), some (.ref T), some (.int (0 + (k : Int))), some (.int (0 + (k : Int) + 1 + (pp : Int))), x6, some (.ref R), some (.int (K5.Mb A k).2), some (.int (0 + (k : Int) + 1 + (mm : Int))), none, none] ∧
                  H10 = upd H9 bp (.lst (I ((rw1 n (part k (K5.Mb A k).1 (K5.Mb A k).2 place more place)).set more v))), ?_, ?_⟩
                rotate_left
                · rintro σ H10 ⟨rfl, rfl⟩
                  have tR2 : (upd H9 bp (.lst (I ((rw1 n (part k (K5.Mb A k).1 (K5.Mb A k).2 place more place)).set more v)))) R = some (.lst (bs.map V.ref)) := by
                    rw [upd_ne nbR]
                    exact E9.top
                  have rP2 : (upd H9 bp (.lst (I ((rw1 n (part k (K5.Mb A k).1 (K5.Mb A k).2 place more place)).set more v)))) bp = some (.lst (I ((rw1 n (part k (K5.Mb A k).1 (K5.Mb A k).2 place more place)).set more v))) := upd_same
                  have gl : ((rw1 n (part k (K5.Mb A k).1 (K5.Mb A k).2 place more place)).set more v).length = n := by
                    rw [List.length_set, rw1_len]
                  have gv : ((rw1 n (part k (K5.Mb A k).1 (K5.Mb A k).2 place more place)).set more v).getD more 0 = v := by
                    rw [List.getD_eq_getElem?_getD, List.getElem?_set_self (by rw [rw1_len]; exact hmn)]
                    rfl
                  have a5 := atI_of (ns := (rw1 n (part k (K5.Mb A k).1 (K5.Mb A k).2 place more place)).set more v) zm (by rw [gl]; exact hmn)
                  rw [gv] at a5
                  -- rows[place][more] = rows[place][more] // shared
                  refine ⟨_, rfl, _, rfl, R, _, _, .ref bp, rfl, rfl, SqL.of tR2, ref_at zp hbp, _, rfl, bp, _, _, _, rfl, rfl, SqL.of rP2, a5, _, rfl, _, _, rfl, rfl, cdiv v, ?_⟩
                  refine ⟨_, rfl, _, rfl, R, _, _, .ref bp, rfl, rfl, SqL.of tR2, ref_at zp hbp, _, rfl, bp, _, _, more, rfl, rfl, rP2, ixN_of zm (by rw [List.length_map, gl]; exact hmn), _, rfl, ?_⟩
                  have hv3 : (I ((rw1 n (part k (K5.Mb A k).1 (K5.Mb A k).2 place more place)).set more v)).set more (.int (v / (K5.Mb A k).2)) = I ((rw1 n (part k (K5.Mb A k).1 (K5.Mb A k).2 place more place)).set more (v / (K5.Mb A k).2)) := by
                    rw [I, I, ← List.map_set, List.set_set]
                  show El H R bs n _ (upd (upd H9 bp _) bp (.lst ((I ((rw1 n (part k (K5.Mb A k).1 (K5.Mb A k).2 place more place)).set more v)).set more (.int (v / (K5.Mb A k).2)))))
                  rw [upd_upd, hv3]
                  rw [show k + 1 + (mm + 1) = more + 1 by omega]
                  refine E9.set nd fr' hbp ?_ fun i hi2 j _ => part_other _ _ _ _ _ _ _ (fun z => hi2 z.1)
                  refine rw1_set ?_ fun i _ hi2 => part_other _ _ _ _ _ _ _ (fun z => hi2 z.2)
                  rw [part_step _ _ _ _ _ kp km, hv]
                refine ⟨_, rfl, _, rfl, R, _, _, .ref bp, rfl, rfl, tR, ref_at zp hbp, _, rfl, bp, _, _, _, rfl, rfl, sP, a1, ?_⟩
                refine ⟨_, rfl, _, rfl, R, _, _, .ref bk, rfl, rfl, tR, ref_at (by omega) hbk, _, rfl, bk, _, _, _, rfl, rfl, sK, a2, _, _, rfl, rfl, cmul _ _ _ _, ?_⟩
                refine ⟨_, rfl, _, rfl, R, _, _, .ref bp, rfl, rfl, tR, ref_at zp hbp, _, rfl, bp, _, _, _, rfl, rfl, sP, a3, ?_⟩
                refine ⟨_, rfl, _, rfl, R, _, _, .ref bk, rfl, rfl, tR, ref_at (by omega) hbk, _, rfl, bk, _, _, _, rfl, rfl, sK, a4, _, _, rfl, rfl, cmul _ _ _ _, _, _, rfl, rfl, ?_⟩
                refine ⟨_, rfl, _, rfl, R, _, _, .ref bp, rfl, rfl, tR, ref_at zp hbp, _, rfl, bp, _, _, more, rfl, rfl, rP, ixN_of zm (by rw [List.length_map, rw1_len]; exact hmn), ?_⟩
                exact ⟨rfl, congrArg (fun x => upd H9 bp (.lst x)) hv2⟩
              · rintro σ H9 ⟨w9, rfl, E9⟩
                refine ⟨_, w9, rfl, E9.same' fun t j ht hj => ?_⟩
                rw [show k + 1 + ((n : Int) - (0 + (k : Int) + 1)).toNat = n by omega]
                exact part_next k n _ _ _ t j hj
            · rintro σ H8 ⟨z5, z9, rfl, E8⟩
              refine ⟨z5, z9, rfl, E8.same' fun t j ht hj => ?_⟩
              rw [show k + 1 + ((n : Int) - (0 + (k : Int) + 1)).toNat = n by omega]
              exact part_end k n _ _ t j (by omega)
          · rintro σ H8 ⟨z5, z9, rfl, E8⟩
            -- shared = rows[at][at]
            have e8 : (K5.Mb A (k + 1)).1 k k = (K5.Mb A k).1 k k := by
              show K5.bstep k (K5.Mb A k).1 (K5.Mb A k).2 k k = _
              unfold K5.bstep
              rw [if_neg (by omega)]
            have a8 := rw1_at (f := (K5.Mb A (k + 1)).1 k) (show (0 + (k : Int)) = (k : Int) by omega) hk
            rw [e8] at a8
            refine ⟨_, rfl, _, rfl, R, _, _, .ref bk, rfl, rfl, SqL.of E8.top, ref_at (by omega) hbk, _, rfl, bk, _, _, _, rfl, rfl, SqL.of (E8.row k bk hbk), a8, _, z5, z9, rfl, E8, fun l hl2 => ?_⟩
            rcases Nat.lt_succ_iff_lt_or_eq.mp hl2 with z | z
            · exact pos l z
            · subst z
              omega
      · rintro σ H7 ⟨y4, y5, y9, rfl, E7, pos⟩
        have qt := qd H7 E7.same
        rw [decide_eq_true (fun l hl2 => pos l (by omega))] at qt
        exact qt
end
end K5W

namespace K5W
open PySem PySem.Spec PyProof.Rows L2
/-! ### the law -/
abbrev sLaw : Stmt := topS 28
abbrev nLaw : List Str := ["_law_script", "_law_row", "_law_one", "_law_due", "_law_turn", "_law_way", "_law_more", "_law_other"]
theorem scLaw : FnScope nLaw ["_law_script"] (defScope sLaw) := ⟨rfl, rfl, rfl, by decide +kernel, rfl, by decide +kernel, by decide +kernel⟩
def spLaw (K : PySem.W.Frag) : Sp := fun vs H Q _ => ∃ (a : Addr) (ns : List Int), vs = [.ref a] ∧ SqL K H a (I ns) ∧ ∀ H', Q (.bl true) H'
theorem made_bd {t : Nat} {p : List Int} {due : Bool} {k : Int} {qs : List K5.Fac} (M : K5.Made t p due k qs) (ht : t ≤ 4) : Bd 20 p ∧ p.length ≤ 9 := by
  constructor
  · intro x hx
    have h1 := K5.nrm_mem p x hx
    have h2 := M.size
    have h3 : 11 ^ t ≤ 11 ^ 4 := Nat.pow_le_pow_right (by decide) ht
    have h4 : (11 : Nat) ^ 4 = 14641 := by decide
    have h5 : (2 : Nat) ^ 20 = 1048576 := by decide
    omega
  · have := M.len
    have := M.deg
    omega
/-- the law's factors -/
theorem good1 {x y : Int} (hx : 0 ≤ x) (hx4 : x < 5) (hy : 0 ≤ y) (hy2 : y < 3) : (∃ c b, [1 + x, 1 + y] = [c, b]) ∧ 0 < K5.lst [1 + x, 1 + y] ∧ K5.nrm [1 + x, 1 + y] ≤ 11 ∧ (K5.facOf [1 + x, 1 + y]).good := by
  refine ⟨⟨_, _, rfl⟩, ?_, ?_, ?_, ?_, .inl ⟨rfl, rfl⟩⟩
  · show 0 < 1 + y
    omega
  · show (1 + x).natAbs + ((1 + y).natAbs + 0) ≤ 11
    omega
  · show 0 < 1 + x
    omega
  · show 0 < 1 + y
    omega
theorem good2 {x y z : Int} (hx : 0 ≤ x) (hx4 : x < 5) (hy : 0 ≤ y) (hy2 : y < 4) (hz : 0 ≤ z) (hz2 : z < 2) : (∃ c b a, [1 + x, 1 + y, 1 + z] = [c, b, a]) ∧ 0 < K5.lst [1 + x, 1 + y, 1 + z] ∧ K5.nrm [1 + x, 1 + y, 1 + z] ≤ 11 ∧ (K5.facOf [1 + x, 1 + y, 1 + z]).good := by
  refine ⟨⟨_, _, _, rfl⟩, ?_, ?_, ?_, ?_, .inr ⟨rfl, ?_⟩⟩
  · show 0 < 1 + z
    omega
  · show (1 + x).natAbs + ((1 + y).natAbs + ((1 + z).natAbs + 0)) ≤ 11
    omega
  · show 0 < 1 + x
    omega
  · show 0 < 1 + y
    omega
  · show 0 < 1 + z
    omega
/-- what a factor off the left is -/
structure BadL (ms : List Int) : Prop where
  shape : (∃ c b, ms = [c, b]) ∨ ∃ c b a, ms = [c, b, a]
  last : 0 < K5.lst ms
  size : K5.nrm ms ≤ 11
  bad : (K5.facOf ms).bad
theorem bad1 {c : Int} (h : c ≤ 0) (h2 : -10 ≤ c) : BadL [c, 1] := by
  refine ⟨.inl ⟨_, _, rfl⟩, (by show (0 : Int) < 1; decide), ?_, ?_, ?_, .inl ⟨rfl, rfl, rfl⟩⟩
  · show c.natAbs + (1 + 0) ≤ 11
    omega
  · show (1 : Int) * 0 ≤ 0
    decide
  · show 1 * c ≤ 0
    omega
theorem bad2 {c b : Int} (h : b ≤ 0) (h2 : b * c ≤ 0) (h3 : c.natAbs + b.natAbs ≤ 10) : BadL [c, b, 1] := by
  refine ⟨.inr ⟨_, _, _, rfl⟩, (by show (0 : Int) < 1; decide), ?_, ?_, h2, .inr ⟨rfl, rfl⟩⟩
  · show c.natAbs + (b.natAbs + (1 + 0)) ≤ 11
    omega
  · show b * 1 ≤ 0
    omega
section
variable {P : Program} {w : World} {K : PySem.W.Frag} {mg : Str → Option Value} {base : Heap}
theorem ok_law {f : Addr} {fd : FuncData} (F : Fun K "law" "law" sLaw f fd) (B : Blt mg) (DT : Use P w K mg base "_law_taken" 1 ["_law_row", "_law_many"] (spTaken K)) (DP : Use P w K mg base "_law_pick" 2 ["_law_row", "_law_things"] (spPick K))
    (DX : Use P w K mg base "_law_times" 2 ["_law_one", "_law_other"] spTimes) (DI : Use P w K mg base "_law_is" 1 ["_law_found", "_law_due"] spLawIs) (DL : Use P w K mg base "is_left" 6 ["one"] spOn) (DM : Use P w K mg base "_law_minors" 1 ["_law_one"] spMin)
    (DS : Use P w K mg base "_law_some" 3 ["_law_row", "_law_most", "_law_size"] (spSome K)) : FnOk P w K mg base CX0 7 f fd ["_law_script"] (spLaw K) := by
  refine F.ok scLaw (fun vs H Q E h => ?_) (fun cdv A outer s H vs Q E hr h => ?_)
  · obtain ⟨a, ns, rfl, _⟩ := h
    rfl
  · obtain ⟨a, ns, rfl, hS, q⟩ := h
    refine ⟨_, pss_cons (ps_set (i := 1) scLaw.nd rfl (.inl rfl) (pe_lst (pa_cons (pv 0) (pa_cons pe_int (pa_cons pe_int (pa_cons pe_int pa_nil))))))
      (pss_cons (ps_par (i := 2) (j := 3) rfl scLaw.nd rfl rfl (by decide) rfl rfl (pa_cons (pe_tup (pa_cons (pe_use DP (hr.mono (by decide)) (by rfl) (pa_cons (pv 1) (pa_cons (pe_lst (pa_cons pe_int (pa_cons pe_int (pa_cons (pe_un un_neg pe_int) pa_nil)))) pa_nil))) pa_nil)) (pa_cons pe_bl pa_nil)) rfl)
      (C8.pss_cut (ps_for PassesOwn.never rfl (pi_range1 (by rfl) B.range (pa_cons (pe_use DT (hr.mono (by decide)) (by rfl) (pa_cons (pv 1) (pa_cons pe_int pa_nil))) pa_nil)) (pg_name (i := 4) scLaw.nd rfl (.inl rfl))
        (pss_cons (ps_set (i := 5) scLaw.nd rfl (.inl rfl) (pe_use DT (hr.mono (by decide)) (by rfl) (pa_cons (pv 1) (pa_cons pe_int pa_nil))))
        (pss_one (ps_if (pt_cmpR op_lt (pv 5) pe_int (nomark _))
          (pss_one (ps_set (i := 2) scLaw.nd rfl (.inl rfl) (pe_use DX (hr.mono (by decide)) (by rfl) (pa_cons (pv 2) (pa_cons (pe_tup (pa_cons (pe_op op_add pe_int (pe_use DT (hr.mono (by decide)) (by rfl) (pa_cons (pv 1) (pa_cons pe_int pa_nil))))
            (pa_cons (pe_op op_add pe_int (pe_use DT (hr.mono (by decide)) (by rfl) (pa_cons (pv 1) (pa_cons pe_int pa_nil)))) pa_nil))) pa_nil)))))
          (pss_one (ps_if (pt_cmpR op_lt (pv 5) pe_int (nomark _))
            (pss_one (ps_set (i := 2) scLaw.nd rfl (.inl rfl) (pe_use DX (hr.mono (by decide)) (by rfl) (pa_cons (pv 2) (pa_cons (pe_tup (pa_cons (pe_op op_add pe_int (pe_use DT (hr.mono (by decide)) (by rfl) (pa_cons (pv 1) (pa_cons pe_int pa_nil))))
              (pa_cons (pe_op op_add pe_int (pe_use DT (hr.mono (by decide)) (by rfl) (pa_cons (pv 1) (pa_cons pe_int pa_nil)))) (pa_cons (pe_op op_add pe_int (pe_use DT (hr.mono (by decide)) (by rfl) (pa_cons (pv 1) (pa_cons pe_int pa_nil)))) pa_nil)))) pa_nil)))))
            (pss_cons (ps_set (i := 6) scLaw.nd rfl (.inl rfl) (pe_use DP (hr.mono (by decide)) (by rfl) (pa_cons (pv 1) (pa_cons (pe_lst (pa_cons (pe_tup (pa_cons pe_int (pa_cons pe_int pa_nil))) (pa_cons (pe_tup (pa_cons pe_int (pa_cons pe_int (pa_cons pe_int pa_nil))))
                (pa_cons (pe_tup (pa_cons (pe_un un_neg pe_int) (pa_cons pe_int pa_nil))) (pa_cons (pe_tup (pa_cons pe_int (pa_cons (pe_un un_neg pe_int) (pa_cons pe_int pa_nil)))) (pa_cons (pe_tup (pa_cons (pe_un un_neg pe_int) (pa_cons pe_int (pa_cons pe_int pa_nil))))
                (pa_cons (pe_tup (pa_cons pe_int (pa_cons pe_int (pa_cons pe_int pa_nil)))) pa_nil))))))) pa_nil))))
            (pss_one (ps_par (i := 2) (j := 3) rfl scLaw.nd rfl rfl (by decide) rfl rfl (pa_cons (pe_use DX (hr.mono (by decide)) (by rfl) (pa_cons (pv 2) (pa_cons (pv 6) pa_nil))) (pa_cons pe_bl pa_nil)) rfl)))))))))
      (pss_cons (ps_if (PW.pt (pw_or (pt_not (pt_val (pe_use DI (hr.mono (by decide)) (by rfl) (pa_cons (pe_use DL hr (by rfl) (pa_cons (pv 2) pa_nil)) (pa_cons (pv 3) pa_nil))))) (pw_or1 (pt_cmpR op_ne (pe_use DM (hr.mono (by decide)) (by rfl) (pa_cons (pv 2) pa_nil)) (pv 3) (nomark _)))))
        (pss_one (ps_ret pe_bl)) pss_nil)
      (pss_cons (ps_set (i := 7) scLaw.nd rfl (.inl rfl) (pe_use DS (hr.mono (by decide)) (by rfl) (pa_cons (pv 1) (pa_cons pe_int (pa_cons pe_int pa_nil)))))
      (pss_one (ps_ret (pe_use DI (hr.mono (by decide)) (by rfl) (pa_cons (pe_use DL hr (by rfl) (pa_cons (pv 7) pa_nil)) (pa_cons (pe_use DM (hr.mono (by decide)) (by rfl) (pa_cons (pv 7) pa_nil)) pa_nil))))))))), ?_⟩
    -- row
    refine ⟨_, rfl, small (by simp), fun r hr0 => ?_⟩
    have hrow := Row.make hS hr0
    generalize (upd H r (.lst [.ref a, .int 0, .int 3305, .int 0])) = H1 at hrow
    -- one, due
    refine ⟨_, rfl, 1, rfl, small (by simp), fun l hl => ?_⟩
    refine ⟨r, l, _, a, rfl, upd_same, hrow.ne hl, by simp, by simp, hrow.upd hl hrow, fun i x o hx hrow2 => ?_⟩
    obtain ⟨k, rfl, k0, k2⟩ : ∃ k : Int, x = .int k ∧ k ≠ 0 ∧ k.natAbs ≤ 2 := by
      match i, hx with
      | 0, hx => exact ⟨1, (Option.some.inj hx).symm, by decide, by decide⟩
      | 1, hx => exact ⟨2, (Option.some.inj hx).symm, by decide, by decide⟩
      | 2, hx => exact ⟨-1, (Option.some.inj hx).symm, by decide, by decide⟩
      | i + 3, hx => simp at hx
    refine ⟨small (by simp), fun p1 hp1 => ?_⟩
    have hrow3 := Row.upd (o := .tup [.int k]) hrow2 hp1 hrow2
    have hp2 : (upd (upd (upd H1 l (.lst [.int 1, .int 2, .int (-1)])) r o) p1 (.tup [.int k])) p1 = some (.tup (I [k])) := upd_same
    refine ⟨_, _, rfl, ?_⟩
    -- the loop
    have tne : ∀ {H' : Hp} {p : Addr} {xs : List V}, Row K a H' r → H' p = some (.tup xs) → p ≠ r := by
      intro H' p xs h1 h2
      obtain ⟨ns', k', z', d', e, _⟩ := h1
      exact ne_of h2 e (fun y => by cases y)
    refine ⟨fun σ H3 => ∃ (p : Addr) (ms : List Int) (due : Bool) (k : Int) (qs : List K5.Fac) (t : Nat) (s4 s5 s6 : Option V), σ = [some (.ref a), some (.ref r), some (.ref p), some (.bl due), s4, s5, s6, none] ∧ Row K a H3 r ∧ H3 p = some (.tup (I ms)) ∧ K5.Made t ms due k qs ∧ t ≤ 4, ?_, ?_⟩
    · refine ⟨_, rfl, r, 5, a, rfl, by decide, by decide, hrow3, fun n o1 n0 n5 hrow4 => ?_⟩
      refine ⟨n, rfl, ?_, ?_, ?_⟩
      · have : (2 : Int) ^ 62 = 4611686018427387904 := by decide
        rw [this]
        omega
      · have : (2 : Int) ^ 62 = 4611686018427387904 := by decide
        rw [this]
        omega
      refine for_range (lo := 0) (n := n.toNat) (fun t σ H3 => ∃ (p : Addr) (ms : List Int) (due : Bool) (k : Int) (qs : List K5.Fac) (s4 s5 s6 : Option V), σ = [some (.ref a), some (.ref r), some (.ref p), some (.bl due), s4, s5, s6, none] ∧ Row K a H3 r ∧ H3 p = some (.tup (I ms)) ∧ K5.Made t ms due k qs) ?_ ?_ ?_
      · refine ⟨p1, [k], true, k, [], none, none, none, rfl, hrow4, ?_, K5.made0 k0 k2⟩
        rw [upd_ne (tne hrow3 hp2)]
        exact hp2
      · rintro t σ H3 ht ⟨p, ms, due, k, qs, s4, s5, s6, rfl, hw, hp, M⟩
        have ht4 : t ≤ 3 := by omega
        obtain ⟨bd, len⟩ := made_bd M (by omega)
        have mne := lst_ne M.last
        have b60 : Bd 60 ms := bd_mono bd (by decide)
        -- way
        refine ⟨_, rfl, r, 8, a, rfl, by decide, by decide, hw, fun x o2 x0 x8 hw2 => ?_⟩
        have hp2' : (upd H3 r o2) p = some (.tup (I ms)) := by
          rw [upd_ne (tne hw hp)]
          exact hp
        generalize upd H3 r o2 = H4 at hw2 hp2'
        refine ⟨_, rfl, x, 3, rfl, rfl, _, rfl, ite2 (fun c => ?_) (fun c => ?_)⟩
        · refine ⟨_, rfl, _, rfl, r, 5, a, rfl, by decide, by decide, hw2, fun y1 o3 a0 a5 hw3 => ?_⟩
          have hp3 : (upd H4 r o3) p = some (.tup (I ms)) := by
            rw [upd_ne (tne hw2 hp2')]
            exact hp2'
          generalize upd H4 r o3 = H5 at hw3 hp3
          refine ⟨1, y1, rfl, rfl, _, rfl, r, 3, a, rfl, by decide, by decide, hw3, fun y2 o4 b0 b3 hw4 => ?_⟩
          have hp4 : (upd H5 r o4) p = some (.tup (I ms)) := by
            rw [upd_ne (tne hw3 hp3)]
            exact hp3
          generalize upd H5 r o4 = H6 at hw4 hp4
          refine ⟨1, y2, rfl, rfl, small (by simp), fun e he => ?_⟩
          have s1 : Same H6 (upd H6 e (.tup [.int (1 + y1), .int (1 + y2)])) := same_upd he
          obtain ⟨g1, g2, g3, g4⟩ := good1 a0 a5 b0 b3
          refine ⟨p, e, ms, [1 + y1, 1 + y2], rfl, s1 _ _ hp4, upd_same, mne, List.cons_ne_nil _ _, by omega, by simp, b60, fun H7 q7 s7 hq7 => ?_⟩
          exact ⟨q7, _, due, k, _, _, _, _, rfl, (hw4.same s1).same s7, hq7, (M.step (.inl g1) g2 g3).1 g4⟩
        · refine ⟨_, rfl, x, 6, rfl, rfl, _, rfl, ite2 (fun c2 => ?_) (fun c2 => ?_)⟩
          · refine ⟨_, rfl, _, rfl, r, 5, a, rfl, by decide, by decide, hw2, fun y1 o3 a0 a5 hw3 => ?_⟩
            have hp3 : (upd H4 r o3) p = some (.tup (I ms)) := by
              rw [upd_ne (tne hw2 hp2')]
              exact hp2'
            generalize upd H4 r o3 = H5 at hw3 hp3
            refine ⟨1, y1, rfl, rfl, _, rfl, r, 4, a, rfl, by decide, by decide, hw3, fun y2 o4 b0 b3 hw4 => ?_⟩
            have hp4 : (upd H5 r o4) p = some (.tup (I ms)) := by
              rw [upd_ne (tne hw3 hp3)]
              exact hp3
            generalize upd H5 r o4 = H6 at hw4 hp4
            refine ⟨1, y2, rfl, rfl, _, rfl, r, 2, a, rfl, by decide, by decide, hw4, fun y3 o5 c0 c3 hw5 => ?_⟩
            have hp5 : (upd H6 r o5) p = some (.tup (I ms)) := by
              rw [upd_ne (tne hw4 hp4)]
              exact hp4
            generalize upd H6 r o5 = H7 at hw5 hp5
            refine ⟨1, y3, rfl, rfl, small (by simp), fun e he => ?_⟩
            have s1 : Same H7 (upd H7 e (.tup [.int (1 + y1), .int (1 + y2), .int (1 + y3)])) := same_upd he
            obtain ⟨g1, g2, g3, g4⟩ := good2 a0 a5 b0 b3 c0 c3
            refine ⟨p, e, ms, [1 + y1, 1 + y2, 1 + y3], rfl, s1 _ _ hp5, upd_same, mne, List.cons_ne_nil _ _, by omega, by simp, b60, fun H8 q8 s8 hq8 => ?_⟩
            exact ⟨q8, _, due, k, _, _, _, _, rfl, (hw5.same s1).same s8, hq8, (M.step (.inr g1) g2 g3).1 g4⟩
          · refine ⟨_, rfl, small (by simp), fun e1 h1 => ⟨small (by simp), fun e2 h2 => ⟨2, rfl, small (by simp), fun e3 h3 => ⟨1, rfl, small (by simp), fun e4 h4 => ⟨1, rfl, small (by simp), fun e5 h5 => ⟨small (by simp), fun e6 h6 => ⟨small (by simp), fun l2 hl2 => ?_⟩⟩⟩⟩⟩⟩⟩
            have t1 := same_upd (o := HO.tup [.int 0, .int 1]) h1
            have t2 := same_upd (o := HO.tup [.int 1, .int 0, .int 1]) h2
            have t3 := same_upd (o := HO.tup [.int (-2), .int 1]) h3
            have t4 := same_upd (o := HO.tup [.int 5, .int (-1), .int 1]) h4
            have t5 := same_upd (o := HO.tup [.int (-1), .int 0, .int 1]) h5
            have t6 := same_upd (o := HO.tup [.int 4, .int 0, .int 1]) h6
            have tl := same_upd (o := HO.lst [.ref e1, .ref e2, .ref e3, .ref e4, .ref e5, .ref e6]) hl2
            have f6 := t6.trans tl
            have f5 := t5.trans f6
            have f4 := t4.trans f5
            have f3 := t3.trans f4
            have f2 := t2.trans f3
            have f1 := t1.trans f2
            have hw3 := hw2.same f1
            have hp3 := f1 _ _ hp2'
            refine ⟨r, l2, _, a, rfl, upd_same, ?_, by simp, by simp, hw3, fun i x2 o3 hx2 hw4 => ?_⟩
            · obtain ⟨ns', k', z', d', e, _⟩ := hw3
              intro y
              rw [y, upd_same] at e
              have := HO.lst.inj (Option.some.inj e)
              simp at this
            obtain ⟨e, ms2, rfl, he, bad⟩ : ∃ (e : Addr) (ms2 : List Int), x2 = .ref e ∧ (upd (upd (upd (upd (upd (upd (upd H4 e1 (.tup [.int 0, .int 1])) e2 (.tup [.int 1, .int 0, .int 1])) e3 (.tup [.int (-2), .int 1])) e4 (.tup [.int 5, .int (-1), .int 1])) e5 (.tup [.int (-1), .int 0, .int 1])) e6 (.tup [.int 4, .int 0, .int 1])) l2 (.lst [.ref e1, .ref e2, .ref e3, .ref e4, .ref e5, .ref e6])) e = some (.tup (I ms2)) ∧ BadL ms2 := by
              match i, hx2 with
              | 0, hx => exact ⟨e1, [0, 1], (Option.some.inj hx).symm, f2 _ _ upd_same, bad1 (by decide) (by decide)⟩
              | 1, hx => exact ⟨e2, [1, 0, 1], (Option.some.inj hx).symm, f3 _ _ upd_same, bad2 (by decide) (by decide) (by decide)⟩
              | 2, hx => exact ⟨e3, [-2, 1], (Option.some.inj hx).symm, f4 _ _ upd_same, bad1 (by decide) (by decide)⟩
              | 3, hx => exact ⟨e4, [5, -1, 1], (Option.some.inj hx).symm, f5 _ _ upd_same, bad2 (by decide) (by decide) (by decide)⟩
              | 4, hx => exact ⟨e5, [-1, 0, 1], (Option.some.inj hx).symm, f6 _ _ upd_same, bad2 (by decide) (by decide) (by decide)⟩
              | 5, hx => exact ⟨e6, [4, 0, 1], (Option.some.inj hx).symm, tl _ _ upd_same, bad2 (by decide) (by decide) (by decide)⟩
              | i + 6, hx => simp at hx
            have ne1 := tne hw3 he
            have ne2 := tne hw3 hp3
            have m2 : ms2 ≠ [] := lst_ne (by have := bad.last; omega)
            have l3 : ms2.length ≤ 3 := by
              rcases bad.shape with ⟨c, b, rfl⟩ | ⟨c, b, a', rfl⟩ <;> simp
            refine ⟨_, rfl, _, rfl, p, e, ms, ms2, rfl, ?_, ?_, mne, m2, by omega, by omega, b60, fun H8 q8 s8 hq8 => ?_⟩
            · rw [upd_ne ne2]
              exact hp3
            · rw [upd_ne ne1]
              exact he
            · exact ⟨_, _, rfl, q8, _, false, k, _, _, _, _, rfl, hw4.same s8, hq8, (M.step bad.shape bad.last bad.size).2 bad.bad⟩
      · rintro σ H3 ⟨p, ms, due, k, qs, s4, s5, s6, rfl, hw, hp, M⟩
        exact ⟨p, ms, due, k, qs, _, s4, s5, s6, rfl, hw, hp, M, by omega⟩
    -- the first answer
    rintro σ H3 ⟨p, ms, due, k, qs, t, s4, s5, s6, rfl, hw, hp, M, ht⟩
    obtain ⟨bd, len⟩ := made_bd M ht
    refine ⟨_, rfl, p, ms, rfl, hp, M.last, len, bd, fun H4 s4' => ?_⟩
    refine ⟨_, rfl, _, due, rfl, _, rfl, ?_⟩
    rw [M.onLeft, decide_eq_true rfl]
    refine iteF ?_
    refine ⟨_, rfl, p, ms, rfl, s4' _ _ hp, M.last, len, bd, fun H5 s5' => ?_⟩
    refine ⟨_, rfl, rfl, _, rfl, ?_⟩
    rw [← K5.onLeft_minors ms M.last, M.onLeft, decide_eq_true rfl]
    refine iteF ?_
    -- the other
    refine ⟨_, rfl, r, a, 4, 5, rfl, (hw.same s4').same s5', by decide, by decide, by decide, by decide, fun H6 p6 l6 hp6 h60 hl6 hb6 => ?_⟩
    have b6 : Bd 20 l6 := by
      intro x hx
      obtain ⟨z1, z2⟩ := hb6 x hx
      have : (2 : Nat) ^ 20 = 1048576 := by decide
      rw [this]
      omega
    refine ⟨_, rfl, p6, l6, rfl, hp6, h60, by omega, b6, fun H7 s7 => ?_⟩
    refine ⟨_, rfl, p6, l6, rfl, s7 _ _ hp6, h60, by omega, b6, fun H8 s8 => ?_⟩
    refine ⟨_, _, rfl, ?_⟩
    rw [K5.onLeft_minors l6 h60, decide_eq_true rfl]
    exact q H8
end
end K5W

namespace K5W
open PySem PySem.Spec PyProof.Rows L2
/-! ### what the top has written -/
structure DefAt (K : PySem.W.Frag) (x : Str) (st : Stmt) (f : Addr) : Prop where
  ns : PySem.W.nsIn K mainGlobals x = some (some (.ref f))
  fn : ∃ fd, Fun K x x st f fd
theorem def_at {K : PySem.W.Frag} {x : Str} {st : Stmt} {f : Addr} {oc : Value} {od an : Option Addr} {sl : Array (Option Value)} {kV dc pm cd ct : Value} (a : PySem.W.nsIn K mainGlobals x = some (some (.ref f)))
    (l : K.lookup f = some ⟨oc, od, .func (PySem.W.fnOf x x (defArgs st) (defBody st) (defScope st) .none kV dc pm an cd ct), sl⟩) (c : PySem.W.codeIn K cd x = true) (k : PySem.W.keepIn K (.ref f) = true) : DefAt K x st f := ⟨a, _, fun_mk (st := st) l c k⟩
theorem use_of {P : Program} {w : World} {K : PySem.W.Frag} {mg : Str → Option Value} {base : Heap} {x : Str} {k : Nat} {ps : List Str} {sp : Sp} {st : Stmt} {f : Addr} {h : Heap} (X : K.In h) (G : h.Ns mainGlobals mg) (D : DefAt K x st f)
    (ok : ∀ fd, Fun K x x st f fd → FnOk P w K mg base CX0 k f fd ps sp)
    (b : ∀ (kV doc pm : Value) (an : Option Addr) (cdv ct : Value) (us : List Value), us.length = ps.length → bindArgs (PySem.W.fnOf x x (defArgs st) (defBody st) (defScope st) .none kV doc pm an cdv ct) ⟨us, []⟩ = pure (ps.zip us)) :
    Use P w K mg base x k ps sp := by
  obtain ⟨a, fd, F⟩ := D
  exact ⟨f, fd, ok fd F, PySem.W.mg_of X G a, F.kp, F.binds b⟩
theorem all_mk {l : PySem.W.OpenLaw} {w : World} {K : PySem.W.Frag} {h : Heap} {mg : Str → Option Value} {fa f1 f2 f3 f4 f5 f6 f7 f8 f9 f10 f11 f12 f13 f14 f15 f16 f17 f18 f19 f20 : Addr} {t1 t2 : Tok} (X : K.In h) (G : h.Ns mainGlobals mg) (hfa : mg "law" = some (.ref fa))
    {od20 an20 : Option Addr} {sl20 : Array (Option Value)} {oc20 kV20 dc20 pm20 cd20 ct20 : Value}
    (d1 : DefAt K "is_int" sIsInt f1)
    (d2 : DefAt K "is_in" sIsIn f2)
    (d3 : DefAt K "is_poly" sIsPoly f3)
    (d4 : DefAt K "need_poly" sNeedPoly f4)
    (d5 : DefAt K "trimmed" sTrim f5)
    (d6 : DefAt K "even_part" sEven f6)
    (d7 : DefAt K "odd_part" sOdd f7)
    (d8 : DefAt K "need_nonzero" sNeedNz f8)
    (d9 : DefAt K "is_on_left" sOn f9)
    (d10 : DefAt K "less_lead" sLess f10)
    (d11 : DefAt K "is_left" sIsLeft f11)
    (d12 : DefAt K "_law_taken" sTaken f12)
    (d13 : DefAt K "_law_pick" sPick f13)
    (d14 : DefAt K "_law_is" sLawIs f14)
    (d15 : DefAt K "_law_trim" sLTrim f15)
    (d16 : DefAt K "_law_times" sTimes f16)
    (d17 : DefAt K "_law_poly" sPoly f17)
    (d18 : DefAt K "_law_some" sSome f18)
    (d19 : DefAt K "_law_minors" sMin f19)
    (a20 : PySem.W.nsIn K mainGlobals "law" = some (some (.ref f20))) (l20 : K.lookup f20 = some ⟨oc20, od20, .func (PySem.W.fnOf "law" "law" (defArgs sLaw) (defBody sLaw) (defScope sLaw) .none kV20 dc20 pm20 an20 cd20 ct20), sl20⟩) (c20 : PySem.W.codeIn K cd20 "law" = true) (k20 : PySem.W.keepIn K (.ref f20) = true)
    (m1 : PySem.W.nsIn K mainGlobals "MOST_SIZE" = some (some (.int 1000000000000000000000000000000000000000000000000000000000000 t1))) (m2 : PySem.W.nsIn K mainGlobals "MOST_DEGREE" = some (some (.int 12 t2)))
    (z1 : PySem.W.nsIn K mainGlobals "isinstance" = some none)
    (z2 : PySem.W.nsIn K mainGlobals "int" = some none)
    (z3 : PySem.W.nsIn K mainGlobals "bool" = some none)
    (z4 : PySem.W.nsIn K mainGlobals "tuple" = some none)
    (z5 : PySem.W.nsIn K mainGlobals "list" = some none)
    (z6 : PySem.W.nsIn K mainGlobals "len" = some none)
    (z7 : PySem.W.nsIn K mainGlobals "all" = some none)
    (z8 : PySem.W.nsIn K mainGlobals "any" = some none)
    (z9 : PySem.W.nsIn K mainGlobals "zip" = some none)
    (z10 : PySem.W.nsIn K mainGlobals "range" = some none) :
    ∃ fd : FuncData, (∀ (s : Shared) (v : Value), BindsTo s fd ⟨[v], []⟩ [("_law_script", v)]) ∧ ∀ base : Heap, K.In base → base.Ns mainGlobals mg → FnOk l.prog w K mg base CX0 7 fa fd ["_law_script"] (spLaw K) := by
  have e := hfa.symm.trans (PySem.W.mg_of X G a20)
  cases e
  have FL := fun_mk (st := sLaw) l20 c20 k20
  have B : Blt mg := ⟨PySem.W.mg_none_of X G z1, PySem.W.mg_none_of X G z2, PySem.W.mg_none_of X G z3, PySem.W.mg_none_of X G z4, PySem.W.mg_none_of X G z5, PySem.W.mg_none_of X G z6, PySem.W.mg_none_of X G z7, PySem.W.mg_none_of X G z8, PySem.W.mg_none_of X G z9, PySem.W.mg_none_of X G z10⟩
  have gS : mg "MOST_SIZE" = some (.int (10 ^ 60) t1) := by
    rw [PySem.W.mg_of X G m1, show (10 : Int) ^ 60 = 1000000000000000000000000000000000000000000000000000000000000 by decide]
  have gD : mg "MOST_DEGREE" = some (.int 12 t2) := PySem.W.mg_of X G m2
  refine ⟨PySem.W.fnOf "law" "law" (defArgs sLaw) (defBody sLaw) (defScope sLaw) .none kV20 dc20 pm20 an20 cd20 ct20, fun s v => .of_eq rfl, fun base _ _ => ?_⟩
  have Uis_int : Use l.prog w K mg base "is_int" 1 ["value"] spIsInt := use_of X G d1 (fun fd F => ok_is_int F B) fun _ _ _ _ _ _ us hl => match us, hl with | [_], _ => rfl
  have Uis_in : Use l.prog w K mg base "is_in" 2 ["value", "least", "most"] spIsIn := use_of X G d2 (fun fd F => ok_is_in F Uis_int) fun _ _ _ _ _ _ us hl => match us, hl with | [_, _, _], _ => rfl
  have Uis_poly : Use l.prog w K mg base "is_poly" 3 ["value"] spIsPoly := use_of X G d3 (fun fd F => ok_is_poly F B gS gD Uis_in) fun _ _ _ _ _ _ us hl => match us, hl with | [_], _ => rfl
  have Uneed_poly : Use l.prog w K mg base "need_poly" 4 ["value"] spNeed := use_of X G d4 (fun fd F => ok_need_poly F Uis_poly) fun _ _ _ _ _ _ us hl => match us, hl with | [_], _ => rfl
  have Uneed_nonzero : Use l.prog w K mg base "need_nonzero" 5 ["value"] spNeed := use_of X G d8 (fun fd F => ok_need_nonzero F Uneed_poly) fun _ _ _ _ _ _ us hl => match us, hl with | [_], _ => rfl
  have Utrimmed : Use l.prog w K mg base "trimmed" 1 ["some"] spTrim := use_of X G d5 (fun fd F => ok_trimmed F B) fun _ _ _ _ _ _ us hl => match us, hl with | [_], _ => rfl
  have Ueven_part : Use l.prog w K mg base "even_part" 2 ["one"] spEven := use_of X G d6 (fun fd F => ok_even F Utrimmed) fun _ _ _ _ _ _ us hl => match us, hl with | [_], _ => rfl
  have Uodd_part : Use l.prog w K mg base "odd_part" 2 ["one"] spOdd := use_of X G d7 (fun fd F => ok_odd F Utrimmed) fun _ _ _ _ _ _ us hl => match us, hl with | [_], _ => rfl
  have Uless_lead : Use l.prog w K mg base "less_lead" 1 ["first", "second", "shifted"] spLess := use_of X G d10 (fun fd F => ok_less F B) fun _ _ _ _ _ _ us hl => match us, hl with | [_, _, _], _ => rfl
  have Uis_on_left : Use l.prog w K mg base "is_on_left" 3 ["one"] spOn := use_of X G d9 (fun fd F => ok_on F B Ueven_part Uodd_part Uless_lead) fun _ _ _ _ _ _ us hl => match us, hl with | [_], _ => rfl
  have Uis_left : Use l.prog w K mg base "is_left" 6 ["one"] spOn := use_of X G d11 (fun fd F => ok_is_left F Uneed_nonzero Uis_on_left) fun _ _ _ _ _ _ us hl => match us, hl with | [_], _ => rfl
  have U_law_taken : Use l.prog w K mg base "_law_taken" 1 ["_law_row", "_law_many"] (spTaken K) := use_of X G d12 (fun fd F => ok_taken F B) fun _ _ _ _ _ _ us hl => match us, hl with | [_, _], _ => rfl
  have U_law_pick : Use l.prog w K mg base "_law_pick" 2 ["_law_row", "_law_things"] (spPick K) := use_of X G d13 (fun fd F => ok_pick F B U_law_taken) fun _ _ _ _ _ _ us hl => match us, hl with | [_, _], _ => rfl
  have U_law_is : Use l.prog w K mg base "_law_is" 1 ["_law_found", "_law_due"] spLawIs := use_of X G d14 (fun fd F => ok_law_is F B) fun _ _ _ _ _ _ us hl => match us, hl with | [_, _], _ => rfl
  have U_law_trim : Use l.prog w K mg base "_law_trim" 1 ["_law_some_here"] spLTrim := use_of X G d15 (fun fd F => ok_ltrim F B) fun _ _ _ _ _ _ us hl => match us, hl with | [_], _ => rfl
  have U_law_times : Use l.prog w K mg base "_law_times" 2 ["_law_one", "_law_other"] spTimes := use_of X G d16 (fun fd F => ok_times F B U_law_trim) fun _ _ _ _ _ _ us hl => match us, hl with | [_, _], _ => rfl
  have U_law_poly : Use l.prog w K mg base "_law_poly" 2 ["_law_row", "_law_most", "_law_size"] (spPoly K) := use_of X G d17 (fun fd F => ok_poly F B U_law_taken U_law_trim) fun _ _ _ _ _ _ us hl => match us, hl with | [_, _, _], _ => rfl
  have U_law_some : Use l.prog w K mg base "_law_some" 3 ["_law_row", "_law_most", "_law_size"] (spSome K) := use_of X G d18 (fun fd F => ok_some F U_law_taken U_law_poly) fun _ _ _ _ _ _ us hl => match us, hl with | [_, _, _], _ => rfl
  have U_law_minors : Use l.prog w K mg base "_law_minors" 1 ["_law_one"] spMin := use_of X G d19 (fun fd F => ok_min F B) fun _ _ _ _ _ _ us hl => match us, hl with | [_], _ => rfl
  exact ok_law FL B U_law_taken U_law_pick U_law_times U_law_is Uis_left U_law_minors U_law_some
end K5W

section
open PySem PySem.W PyProof.Rows
set_option maxHeartbeats 0 in
theorem PySem.Challenge.cw_coilnets_k05_whole_roots_on_the_left_holds : PySem.Challenge.rw_coilnets_k05_whole_roots_on_the_left.Holds := by
  w_on; o_law; k_head; (case hw => w_witness2)
  k_fill
  refine L2.walk_of (l := PySem.Challenge.rw_coilnets_k05_whole_roots_on_the_left) (n := 63) (k := 7) (x := "_law_script") (CX := fun _ => L2.CX0) (sp := fun w => K5W.spLaw _) rfl (by decide) rfl ⟨rfl, by decide, by decide⟩ (fun w h Y => PySem.W.kIn_of Y) ?F (fun _ _ a ns hl _ hS => ⟨a, ns, rfl, hS, fun _ => rfl⟩) (fun _ _ _ _ _ h => h)
  case F =>
    intro w mg fa h KX G hmg
    refine' K5W.all_mk KX G hmg (K5W.def_at ?a1 ?l1 ?c1 ?k1) (K5W.def_at ?a2 ?l2 ?c2 ?k2) (K5W.def_at ?a3 ?l3 ?c3 ?k3) (K5W.def_at ?a4 ?l4 ?c4 ?k4) (K5W.def_at ?a5 ?l5 ?c5 ?k5) (K5W.def_at ?a6 ?l6 ?c6 ?k6) (K5W.def_at ?a7 ?l7 ?c7 ?k7) (K5W.def_at ?a8 ?l8 ?c8 ?k8) (K5W.def_at ?a9 ?l9 ?c9 ?k9) (K5W.def_at ?a10 ?l10 ?c10 ?k10) (K5W.def_at ?a11 ?l11 ?c11 ?k11) (K5W.def_at ?a12 ?l12 ?c12 ?k12) (K5W.def_at ?a13 ?l13 ?c13 ?k13) (K5W.def_at ?a14 ?l14 ?c14 ?k14) (K5W.def_at ?a15 ?l15 ?c15 ?k15) (K5W.def_at ?a16 ?l16 ?c16 ?k16) (K5W.def_at ?a17 ?l17 ?c17 ?k17) (K5W.def_at ?a18 ?l18 ?c18 ?k18) (K5W.def_at ?a19 ?l19 ?c19 ?k19) ?a ?l ?c ?k ?m1 ?m2 ?z1 ?z2 ?z3 ?z4 ?z5 ?z6 ?z7 ?z8 ?z9 ?z10
    (case a1 => k_is); (case l1 => k_is); (case c1 => k_is); (case k1 => k_is)
    (case a2 => k_is); (case l2 => k_is); (case c2 => k_is); (case k2 => k_is)
    (case a3 => k_is); (case l3 => k_is); (case c3 => k_is); (case k3 => k_is)
    (case a4 => k_is); (case l4 => k_is); (case c4 => k_is); (case k4 => k_is)
    (case a5 => k_is); (case l5 => k_is); (case c5 => k_is); (case k5 => k_is)
    (case a6 => k_is); (case l6 => k_is); (case c6 => k_is); (case k6 => k_is)
    (case a7 => k_is); (case l7 => k_is); (case c7 => k_is); (case k7 => k_is)
    (case a8 => k_is); (case l8 => k_is); (case c8 => k_is); (case k8 => k_is)
    (case a9 => k_is); (case l9 => k_is); (case c9 => k_is); (case k9 => k_is)
    (case a10 => k_is); (case l10 => k_is); (case c10 => k_is); (case k10 => k_is)
    (case a11 => k_is); (case l11 => k_is); (case c11 => k_is); (case k11 => k_is)
    (case a12 => k_is); (case l12 => k_is); (case c12 => k_is); (case k12 => k_is)
    (case a13 => k_is); (case l13 => k_is); (case c13 => k_is); (case k13 => k_is)
    (case a14 => k_is); (case l14 => k_is); (case c14 => k_is); (case k14 => k_is)
    (case a15 => k_is); (case l15 => k_is); (case c15 => k_is); (case k15 => k_is)
    (case a16 => k_is); (case l16 => k_is); (case c16 => k_is); (case k16 => k_is)
    (case a17 => k_is); (case l17 => k_is); (case c17 => k_is); (case k17 => k_is)
    (case a18 => k_is); (case l18 => k_is); (case c18 => k_is); (case k18 => k_is)
    (case a19 => k_is); (case l19 => k_is); (case c19 => k_is); (case k19 => k_is)
    (case a => k_is); (case l => k_is); (case c => k_is); (case k => k_is)
    (case m1 => k_is); (case m2 => k_is)
    (case z1 => k_is); (case z2 => k_is); (case z3 => k_is); (case z4 => k_is); (case z5 => k_is); (case z6 => k_is); (case z7 => k_is); (case z8 => k_is); (case z9 => k_is); (case z10 => k_is)
end
