import PyProof.Rows.All
import Wide.All
import OpenK.AllK
import Wide.FinOn
import HandS.ForMost
import HandS.Wide
import HandS.Zip
import HandS.Style
import HandS.IsInst
import HandS.Deep
import HandS.Star
import HandS.Flow
import HandS.Walk
import KE.IntBitsLaws
import KE.GoesMore
import KE.GoesEnum
import KE.KDictZip
import KE.DatumOrd
import HandS.TupAny
import PySem.Challenge.RW_temperworks_k17_whole_classes_of_maps
set_option Elab.async false
set_option linter.all false
section
set_option autoImplicit false
/-! KLin: sums, determinants by the first row, their laws; spans of vectors. Plain Lean. -/
namespace K17

abbrev Vec := Nat → Int

/-! ### finite sums -/
def sumN : Nat → (Nat → Int) → Int
  | 0, _ => 0
  | n + 1, f => sumN n f + f n
theorem sumN_congr {n : Nat} {f g : Nat → Int} (h : ∀ i, i < n → f i = g i) : sumN n f = sumN n g := by
  induction n with
  | zero => rfl
  | succ n ih =>
    simp only [sumN]
    rw [ih fun i hi => h i (by omega), h n (by omega)]
theorem sumN_add (n : Nat) (f g : Nat → Int) : sumN n (fun i => f i + g i) = sumN n f + sumN n g := by
  induction n with
  | zero => rfl
  | succ n ih => simp only [sumN]; rw [ih]; omega
theorem sumN_mul (n : Nat) (k : Int) (f : Nat → Int) : sumN n (fun i => k * f i) = k * sumN n f := by
  induction n with
  | zero => simp [sumN]
  | succ n ih => simp only [sumN]; rw [ih, Int.mul_add]
theorem sumN_zero {n : Nat} {f : Nat → Int} (h : ∀ i, i < n → f i = 0) : sumN n f = 0 := by
  induction n with
  | zero => rfl
  | succ n ih => simp only [sumN]; rw [ih fun i hi => h i (by omega), h n (by omega)]; rfl
theorem sumN_neg (n : Nat) (f : Nat → Int) : sumN n (fun i => - f i) = - sumN n f := by
  induction n with
  | zero => rfl
  | succ n ih => simp only [sumN]; rw [ih]; omega
theorem sumN_dvd {n : Nat} {f : Nat → Int} {d : Int} (h : ∀ i, i < n → d ∣ f i) : d ∣ sumN n f := by
  induction n with
  | zero => exact Int.dvd_zero d
  | succ n ih => exact Int.dvd_add (ih fun i hi => h i (by omega)) (h n (by omega))
theorem sumN_one {n : Nat} {f : Nat → Int} {k : Nat} (hk : k < n) (h : ∀ i, i < n → i ≠ k → f i = 0) : sumN n f = f k := by
  induction n with
  | zero => omega
  | succ n ih =>
    simp only [sumN]
    by_cases e : k = n
    · subst e
      rw [sumN_zero fun i hi => h i (by omega) (by omega)]; omega
    · rw [ih (by omega) fun i hi ne => h i (by omega) ne, h n (by omega) (by omega)]; omega
theorem sumN_swap (n m : Nat) (F : Nat → Nat → Int) : sumN n (fun i => sumN m fun j => F i j) = sumN m (fun j => sumN n fun i => F i j) := by
  induction n with
  | zero => exact (sumN_zero fun _ _ => rfl).symm
  | succ n ih => simp only [sumN]; rw [ih, ← sumN_add]

/-! ### determinants -/
def skip (j k : Nat) : Nat := if k < j then k else k + 1
def sgn (j : Nat) : Int := if j % 2 = 0 then 1 else -1
theorem sgn_succ (j : Nat) : sgn (j + 1) = - sgn j := by
  unfold sgn
  by_cases h : j % 2 = 0
  · rw [if_pos h, if_neg (by omega)]
  · rw [if_neg h, if_pos (by omega)]; rfl
theorem skip_lt {j k n : Nat} (h : k < n) : skip j k < n + 1 := by unfold skip; split <;> omega
theorem skip_mono {j a b : Nat} (h : a < b) : skip j a < skip j b := by unfold skip; split <;> split <;> omega
/-- two columns left out, in either order -/
theorem skip_skip {a b : Nat} (h : a ≤ b) (l : Nat) : skip a (skip b l) = skip (b + 1) (skip a l) := by
  unfold skip
  repeat' split
  all_goals omega

def detF : Nat → (Nat → Nat → Int) → Int
  | 0, _ => 1
  | r + 1, M => sumN (r + 1) fun j => sgn j * (M 0 j * detF r fun i k => M (i + 1) (skip j k))

theorem detF_congr : ∀ {r : Nat} {M M' : Nat → Nat → Int}, (∀ i j, i < r → j < r → M i j = M' i j) → detF r M = detF r M'
  | 0, _, _, _ => rfl
  | r + 1, M, M', h => by
    simp only [detF]
    refine sumN_congr fun j hj => ?_
    rw [h 0 j (by omega) hj, detF_congr (r := r) fun i k hi hk => h (i + 1) (skip j k) (by omega) (skip_lt hk)]

/-- row i replaced -/
def setR (M : Nat → Vec) (i : Nat) (v : Vec) : Nat → Vec := fun k => if k = i then v else M k
theorem setR_same (M : Nat → Vec) (i : Nat) (v : Vec) : setR M i v i = v := if_pos rfl
theorem setR_ne (M : Nat → Vec) {i k : Nat} (v : Vec) (h : k ≠ i) : setR M i v k = M k := if_neg h

/-- linear in each row -/
theorem detF_lin : ∀ {r : Nat} (i : Nat) (_ : i < r) (M : Nat → Vec) (a b : Vec) (k : Int),
    detF r (setR M i fun j => a j + k * b j) = detF r (setR M i a) + k * detF r (setR M i b)
  | 0, _, h, _, _, _, _ => by omega
  | r + 1, 0, _, M, a, b, k => by
    simp only [detF]
    rw [← sumN_mul, ← sumN_add]
    refine sumN_congr fun j hj => ?_
    have e : ∀ v : Vec, (fun i k => setR M 0 v (i + 1) (skip j k)) = fun i k => M (i + 1) (skip j k) := fun v => by
      funext i k; rw [setR_ne M v (by omega)]
    rw [e, e, e, setR_same, setR_same, setR_same]
    simp only [Int.add_mul, Int.mul_add, Int.mul_assoc, Int.mul_left_comm]
  | r + 1, i + 1, h, M, a, b, k => by
    simp only [detF]
    rw [← sumN_mul, ← sumN_add]
    refine sumN_congr fun j hj => ?_
    have e : ∀ v : Vec, (fun i' k => setR M (i + 1) v (i' + 1) (skip j k)) = setR (fun i' k => M (i' + 1) (skip j k)) i fun k => v (skip j k) := fun v => by
      funext i' k
      by_cases q : i' = i
      · subst q; rw [setR_same, setR_same]
      · rw [setR_ne _ _ (by omega), setR_ne _ _ q]
    rw [e, e, e, setR_ne M _ (show (0 : Nat) ≠ i + 1 by omega), setR_ne M _ (show (0 : Nat) ≠ i + 1 by omega), setR_ne M _ (show (0 : Nat) ≠ i + 1 by omega)]
    rw [detF_lin i (by omega) (fun i' k => M (i' + 1) (skip j k)) (fun k => a (skip j k)) (fun k => b (skip j k)) k]
    simp only [Int.mul_add, Int.mul_left_comm]

/-- a double sum whose terms cancel in pairs -/
theorem pairs_zero {F : Nat → Nat → Int} : ∀ n : Nat, (∀ a k, a ≤ k → k < n → F a k = - F (k + 1) a) → sumN (n + 1) (fun j => sumN n fun k => F j k) = 0
  | 0, _ => rfl
  | n + 1, h => by
    have ih := pairs_zero n fun a k h1 h2 => h a k h1 (by omega)
    have e1 : sumN (n + 2) (fun j => sumN (n + 1) fun k => F j k) = sumN (n + 1) (fun j => sumN n (fun k => F j k) + F j n) + sumN (n + 1) fun k => F (n + 1) k := rfl
    rw [e1, sumN_add, ih]
    have e2 : sumN (n + 1) (fun j => F j n) = - sumN (n + 1) fun k => F (n + 1) k := by
      rw [← sumN_neg]
      exact sumN_congr fun j hj => h j n (by omega) (by omega)
    rw [e2]; omega

/-- rows i, i + 1 equal: 0 -/
theorem detF_adj : ∀ {r : Nat} (i : Nat) (_ : i + 1 < r) (M : Nat → Vec) (_ : ∀ j, j < r → M i j = M (i + 1) j), detF r M = 0
  | 0, _, h, _, _ => by omega
  | 1, _, h, _, _ => by omega
  | r + 2, 0, _, M, e => by
    have q := pairs_zero (F := fun j k => sgn j * (M 0 j * (sgn k * (M 1 (skip j k) * detF r fun i l => M (i + 2) (skip j (skip k l)))))) (r + 1) (fun a k hak hk => ?_)
    · simp only [detF]
      rw [← q]
      refine sumN_congr fun j hj => ?_
      rw [← sumN_mul, ← sumN_mul]
    · have s1 : skip a k = k + 1 := by unfold skip; rw [if_neg (by omega)]
      have s2 : skip (k + 1) a = a := by unfold skip; rw [if_pos (by omega)]
      have e1 := e a (by omega)
      have e2 := e (k + 1) (by omega)
      have d : (fun i l => M (i + 2) (skip (k + 1) (skip a l))) = fun i l => M (i + 2) (skip a (skip k l)) := by
        funext i l; rw [skip_skip hak]
      simp only [s1, s2, d, sgn_succ]
      rw [← e1, e2]
      grind
  | r + 2, i + 1, h, M, e => by
    simp only [detF]
    refine sumN_zero fun j hj => ?_
    have z := detF_adj (r := r + 1) i (by omega) (fun i' k => M (i' + 1) (skip j k)) fun k hk => e (skip j k) (skip_lt hk)
    simp only [detF] at z
    rw [z]; simp

theorem setR_setR (M : Nat → Vec) (i : Nat) (a b : Vec) : setR (setR M i a) i b = setR M i b := by
  funext k; unfold setR; split <;> rfl
theorem setR_comm (M : Nat → Vec) {i j : Nat} (a b : Vec) (h : i ≠ j) : setR (setR M i a) j b = setR (setR M j b) i a := by
  funext k; unfold setR; repeat' split
  all_goals first | rfl | omega
theorem setR_self (M : Nat → Vec) (i : Nat) : setR M i (M i) = M := by
  funext k; unfold setR; split
  · rename_i h; rw [h]
  · rfl
/-- rows i, i + 1 changed -/
theorem detF_swap {r i : Nat} (h : i + 1 < r) (M : Nat → Vec) (a b : Vec) : detF r (setR (setR M i a) (i + 1) b) = - detF r (setR (setR M i b) (i + 1) a) := by
  have ne : i ≠ i + 1 := by omega
  have z : ∀ v : Vec, detF r (setR (setR M i v) (i + 1) v) = 0 := fun v => detF_adj i h _ fun j _ => by
    rw [setR_same, setR_ne _ _ ne, setR_same]
  have l := detF_lin (i + 1) h (setR M i fun j => a j + 1 * b j) a b 1
  have z0 := z (fun j => a j + 1 * b j)
  rw [z0, setR_comm M _ a ne, setR_comm M _ b ne, detF_lin i (by omega) (setR M (i + 1) a) a b 1, detF_lin i (by omega) (setR M (i + 1) b) a b 1] at l
  rw [← setR_comm M a a ne, ← setR_comm M b a ne, ← setR_comm M a b ne, ← setR_comm M b b ne, z a, z b] at l
  omega
/-- rows i, i + 1 + d equal: 0 -/
theorem detF_eq : ∀ (d : Nat) {r i : Nat} (_ : i + 1 + d < r) (M : Nat → Vec) (_ : M i = M (i + 1 + d)), detF r M = 0
  | 0, r, i, h, M, e => detF_adj i h M fun j _ => by rw [e]
  | d + 1, r, i, h, M, e => by
    have s := detF_swap (r := r) (i := i + 1 + d) (by omega) M (M (i + 1 + d)) (M (i + 1 + d + 1))
    rw [setR_self, setR_self] at s
    rw [s]
    have z := detF_eq d (r := r) (i := i) (by omega) (setR (setR M (i + 1 + d) (M (i + 1 + d + 1))) (i + 1 + d + 1) (M (i + 1 + d))) (by
      rw [setR_ne _ _ (by omega), setR_ne _ _ (by omega), setR_ne _ _ (by omega), setR_same]; exact e)
    rw [z]; rfl
theorem detF_two {r i j : Nat} (hi : i < r) (hj : j < r) (ne : i ≠ j) (M : Nat → Vec) (e : M i = M j) : detF r M = 0 := by
  rcases Nat.lt_or_gt_of_ne ne with h | h
  · obtain ⟨d, rfl⟩ : ∃ d, j = i + 1 + d := ⟨j - i - 1, by omega⟩
    exact detF_eq d hj M e
  · obtain ⟨d, rfl⟩ : ∃ d, i = j + 1 + d := ⟨i - j - 1, by omega⟩
    exact detF_eq d hi M e.symm

/-! ### spans -/
inductive Sp (G : List Vec) : Vec → Prop
  | zero : Sp G fun _ => 0
  | step {v g : Vec} (k : Int) (hg : g ∈ G) (h : Sp G v) : Sp G fun j => v j + k * g j
theorem Sp.of_eq {G : List Vec} {u v : Vec} (h : Sp G u) (e : ∀ j, u j = v j) : Sp G v := by
  have q : u = v := funext e
  rw [← q]; exact h
theorem Sp.mem {G : List Vec} {g : Vec} (h : g ∈ G) : Sp G g := (Sp.step 1 h .zero).of_eq fun j => by omega
theorem Sp.addMul {G : List Vec} {u v : Vec} (hu : Sp G u) (k : Int) (hv : Sp G v) : Sp G fun j => u j + k * v j := by
  induction hv with
  | zero => exact hu.of_eq fun j => by simp
  | step l hg _ ih => exact (Sp.step (k * l) hg ih).of_eq fun j => by rw [Int.mul_add, Int.mul_assoc]; omega
theorem Sp.add {G : List Vec} {u v : Vec} (hu : Sp G u) (hv : Sp G v) : Sp G fun j => u j + v j := (hu.addMul 1 hv).of_eq fun j => by omega
theorem Sp.smul {G : List Vec} {v : Vec} (k : Int) (hv : Sp G v) : Sp G fun j => k * v j := (Sp.zero.addMul k hv).of_eq fun j => by omega
theorem Sp.trans {G G' : List Vec} (h : ∀ g ∈ G, Sp G' g) {v : Vec} (hv : Sp G v) : Sp G' v := by
  induction hv with
  | zero => exact .zero
  | step k hg _ ih => exact ih.addMul k (h _ hg)
theorem Sp.mono {G G' : List Vec} (h : ∀ g ∈ G, g ∈ G') {v : Vec} (hv : Sp G v) : Sp G' v := hv.trans fun g hg => .mem (h g hg)
theorem Sp.nil {v : Vec} (h : Sp [] v) : ∀ j, v j = 0 := by
  cases h with
  | zero => exact fun _ => rfl
  | step k hg _ => cases hg
theorem Sp.cons {g : Vec} {G : List Vec} {v : Vec} (h : Sp (g :: G) v) : ∃ (k : Int) (u : Vec), Sp G u ∧ ∀ j, v j = k * g j + u j := by
  induction h with
  | zero => exact ⟨0, _, .zero, fun j => by simp⟩
  | step k hg _ ih =>
    obtain ⟨l, u, hu, e⟩ := ih
    rcases List.mem_cons.mp hg with rfl | hg
    · exact ⟨l + k, u, hu, fun j => by show _ + _ = _; rw [e, Int.add_mul]; omega⟩
    · exact ⟨l, _, hu.addMul k (.mem hg), fun j => by show _ + _ = _; rw [e]; omega⟩

/-- ascending choices of r things below n -/
def Asc (r n : Nat) (s : Nat → Nat) : Prop := (∀ i, i < r → s i < n) ∧ ∀ i, i + 1 < r → s i < s (i + 1)
def row (G : List Vec) (i : Nat) : Vec := G.getD i fun _ => 0
theorem row_mem {G : List Vec} {i : Nat} (h : i < G.length) : row G i ∈ G := by
  unfold row
  rw [List.getD_eq_getElem?_getD, List.getElem?_eq_getElem h]
  exact List.getElem_mem h
theorem mem_row {G : List Vec} {g : Vec} (h : g ∈ G) : ∃ i, i < G.length ∧ row G i = g := by
  obtain ⟨i, hi, e⟩ := List.mem_iff_getElem.mp h
  refine ⟨i, hi, ?_⟩
  unfold row
  rw [List.getD_eq_getElem?_getD, List.getElem?_eq_getElem hi]; exact e

def sumT : Nat → (Nat → Nat) → Nat
  | 0, _ => 0
  | n + 1, f => sumT n f + f n
theorem sumT_congr {n : Nat} {f g : Nat → Nat} (h : ∀ i, i < n → f i = g i) : sumT n f = sumT n g := by
  induction n with
  | zero => rfl
  | succ n ih =>
    simp only [sumT]
    rw [ih fun i hi => h i (by omega), h n (by omega)]
/-- two neighbours that fall, changed: a weighted sum falls -/
theorem sumT_lt {f g : Nat → Nat} {i : Nat} (h : f i + f (i + 1) < g i + g (i + 1)) (e : ∀ k, k ≠ i → k ≠ i + 1 → f k = g k) : ∀ {n : Nat}, i + 1 < n → sumT n f < sumT n g
  | 0, hn => by omega
  | n + 1, hn => by
    simp only [sumT]
    by_cases q : i + 1 = n
    · subst q
      simp only [sumT]
      rw [sumT_congr fun k hk => e k (by omega) (by omega)]; omega
    · have := sumT_lt h e (n := n) (by omega)
      rw [e n (by omega) (by omega)]; omega
def setF (s : Nat → Nat) (i v : Nat) : Nat → Nat := fun k => if k = i then v else s k
/-- a divisor of the minors of ascending rows divides those of any rows -/
theorem dvd_any {G : List Vec} {r : Nat} {c : Nat → Nat} {d : Int} (h : ∀ s, Asc r G.length s → d ∣ detF r fun i j => row G (s i) (c j)) :
    ∀ (m : Nat) (s : Nat → Nat), sumT r (fun i => (r - i) * s i) ≤ m → (∀ i, i < r → s i < G.length) → d ∣ detF r fun i j => row G (s i) (c j) := by
  intro m
  induction m using Nat.strongRecOn with
  | _ m ih =>
  intro s hm hs
  by_cases ha : ∀ i, i + 1 < r → s i < s (i + 1)
  · exact h s ⟨hs, ha⟩
  · obtain ⟨i, ha⟩ := Classical.not_forall.mp ha
    obtain ⟨hi, ha⟩ := Classical.not_imp.mp ha
    by_cases he : s i = s (i + 1)
    · rw [detF_adj i hi _ fun j _ => by rw [he]]
      exact Int.dvd_zero d
    · have hlt : s (i + 1) < s i := by omega
      let s' := setF (setF s i (s (i + 1))) (i + 1) (s i)
      have e0 : s' i = s (i + 1) := by simp [s', setF]
      have e1 : s' (i + 1) = s i := by simp [s', setF]
      have e2 : ∀ k, k ≠ i → k ≠ i + 1 → s' k = s k := fun k h1 h2 => by simp [s', setF, h1, h2]
      have hs' : ∀ k, k < r → s' k < G.length := fun k hk => by
        by_cases h1 : k = i
        · subst h1; rw [e0]; exact hs _ (by omega)
        · by_cases h2 : k = i + 1
          · subst h2; rw [e1]; exact hs _ (by omega)
          · rw [e2 k h1 h2]; exact hs k hk
      have lt : sumT r (fun k => (r - k) * s' k) < sumT r (fun k => (r - k) * s k) := by
        refine sumT_lt (i := i) ?_ (fun k h1 h2 => by show (r - k) * s' k = (r - k) * s k; rw [e2 k h1 h2]) hi
        show (r - i) * s' i + (r - (i + 1)) * s' (i + 1) < (r - i) * s i + (r - (i + 1)) * s (i + 1)
        rw [e0, e1]
        obtain ⟨q, hq⟩ : ∃ q, r - i = q + 1 := ⟨r - i - 1, by omega⟩
        have hq2 : r - (i + 1) = q := by omega
        rw [hq, hq2, Nat.add_mul, Nat.add_mul]; omega
      have z := ih _ (Nat.lt_of_lt_of_le lt hm) s' (Nat.le_refl _) hs'
      have sw := detF_swap (r := r) (i := i) hi (fun i j => row G (s i) (c j)) (fun j => row G (s i) (c j)) (fun j => row G (s (i + 1)) (c j))
      have q1 : setR (setR (fun i j => row G (s i) (c j)) i fun j => row G (s i) (c j)) (i + 1) (fun j => row G (s (i + 1)) (c j)) = fun i j => row G (s i) (c j) := by
        funext k j; unfold setR; repeat' split
        all_goals first | rfl | (rename_i h1; rw [h1]) | (rename_i _ h1; rw [h1])
      have q2 : setR (setR (fun i j => row G (s i) (c j)) i fun j => row G (s (i + 1)) (c j)) (i + 1) (fun j => row G (s i) (c j)) = fun i j => row G (s' i) (c j) := by
        funext k j; unfold setR
        by_cases h1 : k = i + 1
        · subst h1; rw [if_pos rfl, e1]
        · rw [if_neg h1]
          by_cases h2 : k = i
          · subst h2; rw [if_pos rfl, e0]
          · rw [if_neg h2, e2 k h2 h1]
      rw [q1, q2] at sw
      rw [sw]
      exact Int.dvd_neg.mpr z

theorem detF_zero {r i : Nat} (h : i < r) (M : Nat → Vec) : detF r (setR M i fun _ => 0) = 0 := by
  have l := detF_lin i h M (fun _ => 0) (fun _ => 0) 1
  have e : (fun j : Nat => (0 : Int) + 1 * 0) = fun _ => 0 := by funext j; rfl
  rw [e] at l; omega
/-- .. and of any vectors of the span -/
theorem dvd_span {G : List Vec} {r : Nat} {c : Nat → Nat} {d : Int} (h : ∀ s, Asc r G.length s → d ∣ detF r fun i j => row G (s i) (c j)) {R : Nat → Vec} (hR : ∀ i, i < r → Sp G (R i)) :
    d ∣ detF r fun i j => R i (c j) := by
  have main : ∀ k, k ≤ r → ∀ R : Nat → Vec, (∀ i, i < k → Sp G (R i)) → (∀ i, k ≤ i → i < r → R i ∈ G) → d ∣ detF r fun i j => R i (c j) := by
    intro k
    induction k with
    | zero =>
      intro _ R _ hg
      have ex : ∀ i, ∃ l, i < r → (l < G.length ∧ row G l = R i) := fun i => by
        by_cases hi : i < r
        · obtain ⟨l, a, b⟩ := mem_row (hg i (Nat.zero_le _) hi)
          exact ⟨l, fun _ => ⟨a, b⟩⟩
        · exact ⟨0, fun z => absurd z hi⟩
      obtain ⟨s, hs⟩ := Classical.axiomOfChoice ex
      have z := dvd_any h _ s (Nat.le_refl _) fun i hi => (hs i hi).1
      rw [detF_congr fun i j hi _ => by rw [(hs i hi).2]] at z
      exact z
    | succ k ih =>
      intro hk R hs hg
      have gen : ∀ v, Sp G v → d ∣ detF r fun i j => setR R k v i (c j) := by
        intro v hv
        have eqv : ∀ v : Vec, (fun i j => setR R k v i (c j)) = setR (fun i j => R i (c j)) k fun j => v (c j) := fun v => by
          funext i j; unfold setR; split <;> rfl
        induction hv with
        | zero => rw [eqv, detF_zero (by omega)]; exact Int.dvd_zero d
        | step l hg' _ ih2 =>
          rename_i v' g' _
          rw [eqv, detF_lin k (by omega)]
          rw [eqv] at ih2
          refine Int.dvd_add ih2 (Int.dvd_mul_of_dvd_right ?_)
          rw [← eqv]
          refine ih (by omega) (setR R k g') (fun i hi => ?_) fun i h1 h2 => ?_
          · rw [setR_ne _ _ (by omega)]; exact hs i (by omega)
          · by_cases q : i = k
            · subst q; rw [setR_same]; exact hg'
            · rw [setR_ne _ _ q]; exact hg i (by omega) h2
      have z := gen (R k) (hs k (by omega))
      rw [setR_self] at z
      exact z
  exact main r (Nat.le_refl _) R hR fun i h1 h2 => by omega

/-- a divisor of the minors of the last rows, of ascending columns, divides the determinant -/
theorem dvd_laplace {r : Nat} {d : Int} : ∀ (n : Nat) (M : Nat → Vec), (∀ c, Asc r (n + r) c → d ∣ detF r fun i k => M (n + i) (c k)) → d ∣ detF (n + r) M
  | 0, M, h => by
    have z := h (fun k => k) ⟨fun i hi => by show i < _; omega, fun i _ => by show i < i + 1; omega⟩
    rw [Nat.zero_add]
    rw [detF_congr (M' := M) fun i j _ _ => by rw [Nat.zero_add]] at z
    exact z
  | n + 1, M, h => by
    have e : n + 1 + r = n + r + 1 := by omega
    rw [e]
    simp only [detF]
    refine sumN_dvd fun j hj => Int.dvd_mul_of_dvd_right (Int.dvd_mul_of_dvd_right ?_)
    refine dvd_laplace n _ fun c hc => ?_
    have z := h (fun k => skip j (c k)) ⟨fun i hi => by have := skip_lt (j := j) (hc.1 i hi); show skip j (c i) < _; omega, fun i hi => skip_mono (hc.2 i hi)⟩
    rw [detF_congr (M' := fun i k => M (n + i + 1) (skip j (c k))) fun i k _ _ => by rw [show n + 1 + i = n + i + 1 by omega]] at z
    exact z

theorem detF_id : ∀ w : Nat, detF w (fun i j => if i = j then 1 else 0) = 1
  | 0 => rfl
  | w + 1 => by
    simp only [detF]
    rw [sumN_one (k := 0) (by omega) fun j _ hj => by rw [if_neg (by omega)]; simp]
    have e : detF w (fun i k => if i + 1 = skip 0 k then (1 : Int) else 0) = 1 := by
      refine Eq.trans (detF_congr fun i j _ _ => ?_) (detF_id w)
      show (if i + 1 = j + 1 then (1 : Int) else 0) = if i = j then 1 else 0
      by_cases q : i = j
      · rw [if_pos (by omega), if_pos q]
      · rw [if_neg (by omega), if_neg q]
    rw [e]; rfl
/-- the unit vectors -/
def unitV (i : Nat) : Vec := fun j => if i = j then 1 else 0
/-- generators of everything have the determinant 1 or -1 -/
theorem det_unit {w : Nat} {G : List Vec} (hl : G.length = w) (h : ∀ i, i < w → ∃ v, Sp G v ∧ ∀ j, j < w → v j = unitV i j) : detF w (row G) ∣ 1 := by
  have ex : ∀ i, ∃ v, i < w → Sp G v ∧ ∀ j, j < w → v j = unitV i j := fun i => by
    by_cases hi : i < w
    · obtain ⟨v, a⟩ := h i hi
      exact ⟨v, fun _ => a⟩
    · exact ⟨fun _ => 0, fun z => absurd z hi⟩
  obtain ⟨R, hR⟩ := Classical.axiomOfChoice ex
  have z := dvd_span (G := G) (r := w) (c := fun j => j) (d := detF w (row G)) (fun s hs => ?_) fun i hi => (hR i hi).1
  · rw [detF_congr fun i j hi hj => (hR i hi).2 j hj] at z
    rw [show detF w (fun i j => unitV i j) = 1 from detF_id w] at z
    exact z
  · rw [hl] at hs
    have id : ∀ i, i < w → s i = i := by
      have lo : ∀ i, i < w → i ≤ s i := by
        intro i
        induction i with
        | zero => intro _; omega
        | succ i ih => intro hi; have := ih (by omega); have := hs.2 i hi; omega
      have hi2 : ∀ d i, i + d + 1 = w → s i ≤ i := by
        intro d
        induction d with
        | zero => intro i e; have := hs.1 i (by omega); omega
        | succ d ih => intro i e; have a := ih (i + 1) (by omega); have b := hs.2 i (by omega); omega
      intro i hi
      have a := lo i hi
      have b := hi2 (w - 1 - i) i (by omega)
      omega
    have e : detF w (fun i j => row G (s i) j) = detF w (row G) := detF_congr fun i j hi _ => by rw [id i hi]
    rw [e]
    exact Int.dvd_refl _
/-- fewer generators than rows: 0 -/
theorem det_few {G : List Vec} {r : Nat} (h : G.length < r) {c : Nat → Nat} {R : Nat → Vec} (hR : ∀ i, i < r → Sp G (R i)) : detF r (fun i j => R i (c j)) = 0 := by
  refine Int.zero_dvd.mp (dvd_span (d := 0) (fun s hs => ?_) hR)
  have lo : ∀ i, i < r → i ≤ s i := by
    intro i
    induction i with
    | zero => intro _; omega
    | succ i ih => intro hi; have := ih (by omega); have := hs.2 i hi; omega
  have := lo (r - 1) (by omega)
  have := hs.1 (r - 1) (by omega)
  omega
end K17
end
section
set_option autoImplicit false
/-! KForm: the form of rows, by steps of Euclid, and what holds of it. Plain Lean. -/
namespace K17

/-! ### remainders -/
theorem fm_def (x h : Int) : x - x.fdiv h * h = x.fmod h := by
  have := Int.fdiv_mul_add_fmod x h; omega
theorem fm_pos {x h : Int} (hp : 0 < h) : 0 ≤ x.fmod h ∧ x.fmod h < h := ⟨Int.fmod_nonneg_of_pos x hp, Int.fmod_lt_of_pos x hp⟩
theorem fm_neg {x h : Int} (hp : h < 0) : h < x.fmod h ∧ x.fmod h ≤ 0 := by
  have a := fm_pos (x := -x) (h := -h) (by omega)
  rw [Int.neg_fmod_neg] at a; omega
theorem fm_lt {x h : Int} (hp : h ≠ 0) : (x.fmod h).natAbs < h.natAbs := by
  rcases Int.lt_or_gt_of_ne hp with h1 | h1
  · have := fm_neg (x := x) h1; omega
  · have := fm_pos (x := x) h1; omega

def lessV (a b : Vec) (f : Int) : Vec := fun j => a j - f * b j
def negV (a : Vec) : Vec := fun j => - a j
/-- the index of the first least -/
def amin (f : Vec → Nat) : List Vec → Nat
  | [] => 0
  | v :: r => if r = [] then 0 else if f v ≤ f (row r (amin f r)) then 0 else amin f r + 1
theorem row_zero (v : Vec) (r : List Vec) : row (v :: r) 0 = v := rfl
theorem row_succ (v : Vec) (r : List Vec) (i : Nat) : row (v :: r) (i + 1) = row r i := rfl
theorem amin_spec (f : Vec → Nat) : ∀ {l : List Vec}, l ≠ [] → amin f l < l.length ∧ (∀ v ∈ l, f (row l (amin f l)) ≤ f v) ∧ ∀ i, i < amin f l → f (row l (amin f l)) < f (row l i)
  | [], h => absurd rfl h
  | v :: r, _ => by
    unfold amin
    by_cases hr : r = []
    · subst hr
      rw [if_pos rfl]
      exact ⟨by simp, fun u hu => by simp at hu; rw [hu, row_zero]; exact Nat.le_refl _, fun i hi => by omega⟩
    · rw [if_neg hr]
      obtain ⟨a, b, c⟩ := amin_spec f hr
      by_cases q : f v ≤ f (row r (amin f r))
      · rw [if_pos q]
        refine ⟨by simp, fun u hu => ?_, fun i hi => by omega⟩
        rcases List.mem_cons.mp hu with rfl | hu
        · exact Nat.le_refl _
        · exact Nat.le_trans q (b u hu)
      · rw [if_neg q]
        refine ⟨by simpa using a, fun u hu => ?_, fun i hi => ?_⟩
        · rw [row_succ]
          rcases List.mem_cons.mp hu with rfl | hu
          · omega
          · exact b u hu
        · rw [row_succ]
          cases i with
          | zero => rw [row_zero]; omega
          | succ i => rw [row_succ]; exact c i (by omega)
/-- the same index by its properties -/
theorem amin_uniq (f : Vec → Nat) {l : List Vec} {p : Nat} (h1 : p < l.length) (h2 : ∀ v ∈ l, f (row l p) ≤ f v) (h3 : ∀ i, i < p → f (row l i) ≠ f (row l p)) : p = amin f l := by
  have hl : l ≠ [] := by rintro rfl; simp at h1
  obtain ⟨a, b, c⟩ := amin_spec f hl
  have e : f (row l p) = f (row l (amin f l)) := Nat.le_antisymm (h2 _ (row_mem a)) (b _ (row_mem h1))
  rcases Nat.lt_trichotomy p (amin f l) with h | h | h
  · have := c p h; omega
  · exact h
  · exact absurd e.symm (h3 _ h)

def sumA (f : Vec → Nat) (l : List Vec) : Nat := (l.map f).sum
theorem sumA_erase (f : Vec → Nat) : ∀ {l : List Vec} {p : Nat}, p < l.length → sumA f l = f (row l p) + sumA f (l.eraseIdx p)
  | [], p, h => by simp at h
  | v :: r, 0, _ => by simp [sumA, row_zero]
  | v :: r, p + 1, h => by
    have ih := sumA_erase f (l := r) (p := p) (by simpa using h)
    simp only [sumA, List.map_cons, List.sum_cons, List.eraseIdx_cons_succ] at ih ⊢
    rw [row_succ]; omega
theorem sumA_filter (f : Vec → Nat) (q : Vec → Bool) : ∀ l : List Vec, sumA f (l.filter q) ≤ sumA f l
  | [] => Nat.le_refl _
  | v :: r => by
    have ih := sumA_filter f q r
    simp only [sumA, List.filter_cons, List.map_cons, List.sum_cons] at ih ⊢
    split
    · simp only [List.map_cons, List.sum_cons]; omega
    · omega
theorem sumA_map_lt (f : Vec → Nat) (g : Vec → Vec) : ∀ {l : List Vec}, l ≠ [] → (∀ v ∈ l, f (g v) < f v) → sumA f (l.map g) < sumA f l
  | [], h, _ => absurd rfl h
  | [v], _, h => by simp [sumA]; exact h v (by simp)
  | v :: u :: r, _, h => by
    have ih := sumA_map_lt f g (l := u :: r) (by simp) fun x hx => h x (List.mem_cons_of_mem _ hx)
    have hv := h v (by simp)
    simp only [sumA, List.map_cons, List.sum_cons] at ih ⊢
    omega
theorem mem_eraseIdx {α : Type} {l : List α} {p : Nat} {x : α} (h : x ∈ l.eraseIdx p) : x ∈ l := List.mem_of_mem_eraseIdx h
theorem mem_of_ne {l : List Vec} {p : Nat} {v : Vec} (h : v ∈ l) : v = row l p ∨ v ∈ l.eraseIdx p := by
  obtain ⟨i, hi, rfl⟩ := mem_row h
  by_cases e : i = p
  · exact .inl (by rw [e])
  · refine .inr ?_
    rw [List.mem_eraseIdx_iff_getElem]
    refine ⟨i, hi, e, ?_⟩
    unfold row
    rw [List.getD_eq_getElem?_getD, List.getElem?_eq_getElem hi]; rfl

/-! ### steps of Euclid at a column -/
def absAt (c : Nat) (v : Vec) : Nat := (v c).natAbs
def euHead (c : Nat) (heads : List Vec) : Vec := row heads (amin (absAt c) heads)
def euTold (c : Nat) (heads : List Vec) : List Vec := (heads.eraseIdx (amin (absAt c) heads)).map fun v => lessV v (euHead c heads) ((v c).fdiv (euHead c heads c))
def euH (c : Nat) (heads : List Vec) : List Vec := euHead c heads :: (euTold c heads).filter fun v => v c ≠ 0
def euR (c : Nat) (heads rest : List Vec) : List Vec := rest ++ (euTold c heads).filter fun v => v c = 0
theorem lessV_mod (v h : Vec) (c : Nat) : lessV v h ((v c).fdiv (h c)) c = (v c).fmod (h c) := fm_def _ _
theorem euHead_mem {c : Nat} {heads : List Vec} (h : heads ≠ []) : euHead c heads ∈ heads := row_mem (amin_spec _ h).1
theorem euTold_lt {c : Nat} {heads : List Vec} (h : ∀ v ∈ heads, v c ≠ 0) {v : Vec} (hv : v ∈ heads) : absAt c (lessV v (euHead c heads) ((v c).fdiv (euHead c heads c))) < absAt c (euHead c heads) := by
  unfold absAt
  rw [lessV_mod]
  exact fm_lt (h _ (euHead_mem (List.ne_nil_of_mem hv)))
theorem eu_less {c : Nat} {heads : List Vec} (h1 : 1 < heads.length) (h2 : ∀ v ∈ heads, v c ≠ 0) : sumA (absAt c) (euH c heads) < sumA (absAt c) heads := by
  have hne : heads ≠ [] := by rintro rfl; simp at h1
  obtain ⟨a, b, _⟩ := amin_spec (absAt c) hne
  rw [sumA_erase (absAt c) a]
  have e : sumA (absAt c) (euH c heads) = absAt c (euHead c heads) + sumA (absAt c) ((euTold c heads).filter fun v => v c ≠ 0) := rfl
  rw [e]
  have q1 := sumA_filter (absAt c) (fun v => v c ≠ 0) (euTold c heads)
  have q2 : sumA (absAt c) (euTold c heads) < sumA (absAt c) (heads.eraseIdx (amin (absAt c) heads)) := by
    refine sumA_map_lt _ _ (fun z => ?_) fun v hv => ?_
    · have := List.length_eraseIdx_of_lt a
      rw [z] at this; simp at this; omega
    · have hv' := mem_eraseIdx hv
      exact Nat.lt_of_lt_of_le (euTold_lt h2 hv') (b v hv')
  show absAt c (euHead c heads) + _ < absAt c (euHead c heads) + _
  omega
def euRun (c : Nat) (heads rest : List Vec) : List Vec × List Vec :=
  if h : 1 < heads.length ∧ ∀ v ∈ heads, v c ≠ 0 then euRun c (euH c heads) (euR c heads rest) else (heads, rest)
termination_by sumA (absAt c) heads
decreasing_by exact eu_less h.1 h.2
theorem euRun_more {c : Nat} {heads rest : List Vec} (h1 : 1 < heads.length) (h2 : ∀ v ∈ heads, v c ≠ 0) : euRun c heads rest = euRun c (euH c heads) (euR c heads rest) := by
  rw [euRun, dif_pos ⟨h1, h2⟩]
theorem euRun_done {c : Nat} {heads rest : List Vec} (h : ¬ 1 < heads.length) : euRun c heads rest = (heads, rest) := by
  rw [euRun, dif_neg fun z => h z.1]
theorem euRun_ind {c : Nat} {J : List Vec → List Vec → Prop} (step : ∀ heads rest, 1 < heads.length → (∀ v ∈ heads, v c ≠ 0) → J heads rest → J (euH c heads) (euR c heads rest)) :
    ∀ heads rest, J heads rest → J (euRun c heads rest).1 (euRun c heads rest).2 := by
  intro heads rest
  induction heads, rest using euRun.induct c with
  | case1 heads rest h ih =>
    intro j
    rw [euRun_more h.1 h.2]
    exact ih (step heads rest h.1 h.2 j)
  | case2 heads rest h =>
    intro j
    rw [euRun, dif_neg h]; exact j
theorem euH_ne {c : Nat} {heads : List Vec} (h1 : 1 < heads.length) (h2 : ∀ v ∈ heads, v c ≠ 0) : ∀ v ∈ euH c heads, v c ≠ 0 := fun v hv => by
  rcases List.mem_cons.mp hv with rfl | hv
  · exact h2 _ (euHead_mem (by rintro rfl; simp at h1))
  · simpa using (List.mem_filter.mp hv).2
theorem euRun_ne {c : Nat} {heads rest : List Vec} (h : ∀ v ∈ heads, v c ≠ 0) : ∀ v ∈ (euRun c heads rest).1, v c ≠ 0 :=
  euRun_ind (J := fun hs _ => ∀ v ∈ hs, v c ≠ 0) (fun _ _ h1 h2 _ => euH_ne h1 h2) heads rest h
theorem euRun_len {c : Nat} : ∀ {heads rest : List Vec}, (∀ v ∈ heads, v c ≠ 0) → (euRun c heads rest).1.length ≤ 1 := by
  intro heads rest
  induction heads, rest using euRun.induct c with
  | case1 heads rest h ih =>
    intro _
    rw [euRun_more h.1 h.2]
    exact ih (euH_ne h.1 h.2)
  | case2 heads rest h =>
    intro j
    rw [euRun, dif_neg h]
    show heads.length ≤ 1
    exact Nat.le_of_not_lt fun z => h ⟨z, j⟩

/-! ### one column -/
def signed (c : Nat) (v : Vec) : Vec := if 0 < v c then v else negV v
def colFound (c : Nat) (hd : Vec) (found : List Vec) : List Vec := found.map (fun v => lessV v hd ((v c).fdiv (hd c))) ++ [hd]
def colRun (c : Nat) (left : List Vec) : List Vec × List Vec := euRun c (left.filter fun v => v c ≠ 0) (left.filter fun v => v c = 0)
def colStep (c : Nat) (s : List Vec × List Vec) : List Vec × List Vec :=
  ((colRun c s.1).2, if (colRun c s.1).1 = [] then s.2 else colFound c (signed c (row (colRun c s.1).1 0)) s.2)
/-- (what is left, what is found) behind so many columns -/
def formUp (rows : List Vec) : Nat → List Vec × List Vec
  | 0 => (rows, [])
  | c + 1 => colStep c (formUp rows c)
def formF (w : Nat) (rows : List Vec) : List Vec := (formUp rows w).2

/-! ### the span stays -/
def Eqv (G G' : List Vec) : Prop := (∀ g ∈ G, Sp G' g) ∧ ∀ g ∈ G', Sp G g
theorem Eqv.sp {G G' : List Vec} (h : Eqv G G') {v : Vec} : Sp G v ↔ Sp G' v := ⟨fun x => x.trans h.1, fun x => x.trans h.2⟩
theorem Eqv.refl (G : List Vec) : Eqv G G := ⟨fun _ h => .mem h, fun _ h => .mem h⟩
theorem Eqv.symm {G G' : List Vec} (h : Eqv G G') : Eqv G' G := ⟨h.2, h.1⟩
theorem Eqv.trans {G G' G'' : List Vec} (h : Eqv G G') (k : Eqv G' G'') : Eqv G G'' := ⟨fun g hg => k.sp.mp (h.1 g hg), fun g hg => h.sp.mpr (k.2 g hg)⟩
theorem Eqv.of_mem {G G' : List Vec} (h : ∀ v, v ∈ G ↔ v ∈ G') : Eqv G G' := ⟨fun g hg => .mem ((h g).mp hg), fun g hg => .mem ((h g).mpr hg)⟩
theorem Eqv.left {A B C : List Vec} (h : Eqv A B) : Eqv (C ++ A) (C ++ B) :=
  ⟨fun g hg => (List.mem_append.mp hg).elim (fun x => .mem (List.mem_append_left _ x)) fun x => (h.1 g x).mono fun _ y => List.mem_append_right _ y,
   fun g hg => (List.mem_append.mp hg).elim (fun x => .mem (List.mem_append_left _ x)) fun x => (h.2 g x).mono fun _ y => List.mem_append_right _ y⟩
theorem Sp.less {G : List Vec} {u v : Vec} (hu : Sp G u) (hv : Sp G v) (f : Int) : Sp G (lessV u v f) := (hu.addMul (-f) hv).of_eq fun j => by
  show u j + -f * v j = u j - f * v j
  rw [Int.neg_mul]; omega
theorem Sp.unless {G : List Vec} {u v : Vec} {f : Int} (hl : Sp G (lessV u v f)) (hv : Sp G v) : Sp G u := (hl.addMul f hv).of_eq fun j => by
  show u j - f * v j + f * v j = u j
  omega
theorem Sp.neg {G : List Vec} {u : Vec} (hu : Sp G u) : Sp G (negV u) := (hu.smul (-1)).of_eq fun j => by
  show -1 * u j = - u j
  omega
theorem Sp.unneg {G : List Vec} {u : Vec} (hu : Sp G (negV u)) : Sp G u := hu.neg.of_eq fun j => by
  show - - u j = u j
  omega
theorem eu_eqv {c : Nat} {heads : List Vec} (rest : List Vec) (h1 : 1 < heads.length) : Eqv (heads ++ rest) (euH c heads ++ euR c heads rest) := by
  have hne : heads ≠ [] := by rintro rfl; simp at h1
  have hm : euHead c heads ∈ euH c heads ++ euR c heads rest := List.mem_append_left _ (List.mem_cons_self ..)
  constructor
  · intro g hg
    rcases List.mem_append.mp hg with hg | hg
    · rcases mem_of_ne (p := amin (absAt c) heads) hg with rfl | hg
      · exact .mem hm
      · refine Sp.unless (f := (g c).fdiv (euHead c heads c)) (.mem ?_) (.mem hm)
        have ht : lessV g (euHead c heads) ((g c).fdiv (euHead c heads c)) ∈ euTold c heads := List.mem_map.mpr ⟨g, hg, rfl⟩
        by_cases z : lessV g (euHead c heads) ((g c).fdiv (euHead c heads c)) c = 0
        · exact List.mem_append_right _ (List.mem_append_right _ (List.mem_filter.mpr ⟨ht, by simpa using z⟩))
        · exact List.mem_append_left _ (List.mem_cons_of_mem _ (List.mem_filter.mpr ⟨ht, by simpa using z⟩))
    · exact .mem (List.mem_append_right _ (List.mem_append_left _ hg))
  · have told : ∀ g ∈ euTold c heads, Sp (heads ++ rest) g := fun g hg => by
      obtain ⟨v, hv, rfl⟩ := List.mem_map.mp hg
      exact Sp.less (.mem (List.mem_append_left _ (mem_eraseIdx hv))) (.mem (List.mem_append_left _ (euHead_mem hne))) _
    intro g hg
    rcases List.mem_append.mp hg with hg | hg
    · rcases List.mem_cons.mp hg with rfl | hg
      · exact .mem (List.mem_append_left _ (euHead_mem hne))
      · exact told g (List.mem_filter.mp hg).1
    · rcases List.mem_append.mp hg with hg | hg
      · exact .mem (List.mem_append_right _ hg)
      · exact told g (List.mem_filter.mp hg).1
theorem euRun_eqv {c : Nat} (heads rest : List Vec) : Eqv (heads ++ rest) ((euRun c heads rest).1 ++ (euRun c heads rest).2) :=
  euRun_ind (J := fun hs rs => Eqv (heads ++ rest) (hs ++ rs)) (fun hs rs h1 _ j => j.trans (eu_eqv rs h1)) heads rest (.refl _)
theorem colRun_eqv (c : Nat) (left : List Vec) : Eqv left ((colRun c left).1 ++ (colRun c left).2) :=
  Eqv.trans (Eqv.of_mem fun v => by
    rw [List.mem_append, List.mem_filter, List.mem_filter]
    by_cases h : v c = 0 <;> simp [h]) (euRun_eqv _ _)
theorem colRun_ne {c : Nat} {left : List Vec} : ∀ v ∈ (colRun c left).1, v c ≠ 0 := euRun_ne fun v hv => by simpa using (List.mem_filter.mp hv).2
theorem colRun_len {c : Nat} {left : List Vec} : (colRun c left).1.length ≤ 1 := euRun_len fun v hv => by simpa using (List.mem_filter.mp hv).2
/-- either no head, or one -/
theorem colRun_cases (c : Nat) (left : List Vec) : (colRun c left).1 = [] ∨ ∃ v, (colRun c left).1 = [v] ∧ v c ≠ 0 := by
  have l := colRun_len (c := c) (left := left)
  have n := colRun_ne (c := c) (left := left)
  generalize (colRun c left).1 = hs at l n
  match hs, l, n with
  | [], _, _ => exact .inl rfl
  | [v], _, n => exact .inr ⟨v, rfl, n v (by simp)⟩
  | _ :: _ :: _, l, _ => simp at l
theorem signed_eqv (c : Nat) (v : Vec) : Eqv [v] [signed c v] := by
  unfold signed
  split
  · exact .refl _
  · constructor
    · intro g hg
      have e : g = v := by simpa using hg
      subst e
      exact Sp.unneg (.mem (by simp))
    · intro g hg
      have e : g = negV v := by simpa using hg
      subst e
      exact Sp.neg (.mem (by simp))
theorem signed_pos {c : Nat} {v : Vec} (h : v c ≠ 0) : 0 < signed c v c := by
  unfold signed
  split
  · assumption
  · show 0 < - v c
    omega
theorem colFound_eqv (c : Nat) (hd : Vec) (found : List Vec) : Eqv (found ++ [hd]) (colFound c hd found) := by
  have hm : hd ∈ colFound c hd found := List.mem_append_right _ (by simp)
  constructor
  · intro g hg
    rcases List.mem_append.mp hg with hg | hg
    · exact Sp.unless (f := (g c).fdiv (hd c)) (.mem (List.mem_append_left _ (List.mem_map.mpr ⟨g, hg, rfl⟩))) (.mem hm)
    · have e : g = hd := by simpa using hg
      subst e; exact .mem hm
  · intro g hg
    rcases List.mem_append.mp hg with hg | hg
    · obtain ⟨v, hv, rfl⟩ := List.mem_map.mp hg
      exact Sp.less (.mem (List.mem_append_left _ hv)) (.mem (List.mem_append_right _ (by simp))) _
    · exact .mem (List.mem_append_right _ hg)
theorem Eqv.right {A B C : List Vec} (h : Eqv A B) : Eqv (A ++ C) (B ++ C) :=
  ⟨fun g hg => (List.mem_append.mp hg).elim (fun x => (h.1 g x).mono fun _ y => List.mem_append_left _ y) fun x => .mem (List.mem_append_right _ x),
   fun g hg => (List.mem_append.mp hg).elim (fun x => (h.2 g x).mono fun _ y => List.mem_append_left _ y) fun x => .mem (List.mem_append_right _ x)⟩
theorem colStep_eqv (c : Nat) (s : List Vec × List Vec) : Eqv (s.2 ++ s.1) ((colStep c s).2 ++ (colStep c s).1) := by
  have a := (colRun_eqv c s.1).left (C := s.2)
  unfold colStep
  rcases colRun_cases c s.1 with e | ⟨v, e, hv⟩
  · rw [e] at a ⊢
    rw [if_pos rfl]
    exact a
  · rw [e] at a ⊢
    rw [if_neg (by simp)]
    refine a.trans ?_
    rw [← List.append_assoc]
    refine Eqv.right ?_
    exact (signed_eqv c v).left.trans (colFound_eqv c _ _)
theorem formUp_eqv (rows : List Vec) : ∀ c, Eqv rows ((formUp rows c).2 ++ (formUp rows c).1)
  | 0 => by simpa [formUp] using Eqv.refl rows
  | c + 1 => (formUp_eqv rows c).trans (colStep_eqv c _)

/-! ### echelon -/
/-- rows with heads at ascending places below c, positive, what is above a head at least 0 and less -/
structure EchP (E : List Vec) (ps : Nat → Nat) (c : Nat) : Prop where
  lt : ∀ i, i < E.length → ps i < c
  up : ∀ i k, i < k → k < E.length → ps i < ps k
  zero : ∀ i, i < E.length → ∀ j, j < ps i → row E i j = 0
  pos : ∀ i, i < E.length → 0 < row E i (ps i)
  red : ∀ i k, i < k → k < E.length → 0 ≤ row E i (ps k) ∧ row E i (ps k) < row E k (ps k)
def Zeros (c : Nat) (G : List Vec) : Prop := ∀ v ∈ G, ∀ j, j < c → v j = 0
theorem euRun_zeros {c : Nat} {heads rest : List Vec} (h1 : Zeros c heads) (h2 : Zeros (c + 1) rest) : Zeros c (euRun c heads rest).1 ∧ Zeros (c + 1) (euRun c heads rest).2 := by
  refine euRun_ind (J := fun hs rs => Zeros c hs ∧ Zeros (c + 1) rs) (fun hs rs l n j => ?_) heads rest ⟨h1, h2⟩
  have hne : hs ≠ [] := by rintro rfl; simp at l
  have told : Zeros c (euTold c hs) := fun v hv k hk => by
    obtain ⟨u, hu, rfl⟩ := List.mem_map.mp hv
    show u k - _ * euHead c hs k = 0
    rw [j.1 u (mem_eraseIdx hu) k hk, j.1 _ (euHead_mem hne) k hk]; simp
  refine ⟨fun v hv k hk => ?_, fun v hv k hk => ?_⟩
  · rcases List.mem_cons.mp hv with rfl | hv
    · exact j.1 _ (euHead_mem hne) k hk
    · exact told v (List.mem_filter.mp hv).1 k hk
  · rcases List.mem_append.mp hv with hv | hv
    · exact j.2 v hv k hk
    · obtain ⟨a, b⟩ := List.mem_filter.mp hv
      by_cases e : k = c
      · subst e; simpa using b
      · exact told v a k (by omega)
theorem colRun_zeros {c : Nat} {left : List Vec} (h : Zeros c left) : Zeros c (colRun c left).1 ∧ Zeros (c + 1) (colRun c left).2 :=
  euRun_zeros (fun v hv => h v (List.mem_filter.mp hv).1) fun v hv k hk => by
    obtain ⟨a, b⟩ := List.mem_filter.mp hv
    by_cases e : k = c
    · subst e; simpa using b
    · exact h v a k (by omega)
theorem row_append_left {A B : List Vec} {i : Nat} (h : i < A.length) : row (A ++ B) i = row A i := by
  unfold row
  rw [List.getD_eq_getElem?_getD, List.getD_eq_getElem?_getD, List.getElem?_append_left h]
theorem row_append_right {A B : List Vec} {i : Nat} (h : A.length ≤ i) : row (A ++ B) i = row B (i - A.length) := by
  unfold row
  rw [List.getD_eq_getElem?_getD, List.getD_eq_getElem?_getD, List.getElem?_append_right h]
theorem row_map {A : List Vec} {f : Vec → Vec} {i : Nat} (h : i < A.length) : row (A.map f) i = f (row A i) := by
  unfold row
  rw [List.getD_eq_getElem?_getD, List.getD_eq_getElem?_getD, List.getElem?_map, List.getElem?_eq_getElem h]; rfl
theorem signed_zeros {c : Nat} {v : Vec} (h : ∀ j, j < c → v j = 0) : ∀ j, j < c → signed c v j = 0 := fun j hj => by
  unfold signed
  split
  · exact h j hj
  · show - v j = 0
    rw [h j hj]; rfl
theorem colFound_ech {c : Nat} {hd : Vec} {found : List Vec} {ps : Nat → Nat} (E : EchP found ps c) (z : ∀ j, j < c → hd j = 0) (p : 0 < hd c) :
    EchP (colFound c hd found) (fun i => if i < found.length then ps i else c) (c + 1) := by
  have len : (colFound c hd found).length = found.length + 1 := by simp [colFound]
  have ro : ∀ i, i < found.length → row (colFound c hd found) i = lessV (row found i) hd ((row found i c).fdiv (hd c)) := fun i hi => by
    unfold colFound
    rw [row_append_left (by simpa using hi), row_map hi]
  have rl : row (colFound c hd found) found.length = hd := by
    unfold colFound
    rw [row_append_right (by simp)]
    simp [row]
  have en : ∀ i, i < found.length → ∀ j, j < c → row (colFound c hd found) i j = row found i j := fun i hi j hj => by
    rw [ro i hi]
    show row found i j - _ * hd j = _
    rw [z j hj]; simp
  refine ⟨fun i hi => ?_, fun i k hik hk => ?_, fun i hi j hj => ?_, fun i hi => ?_, fun i k hik hk => ?_⟩
  · split
    · rename_i h; have := E.lt i h; omega
    · omega
  · rw [len] at hk
    rw [if_pos (by omega)]
    split
    · rename_i h; exact E.up i k hik h
    · exact E.lt i (by omega)
  · rw [len] at hi
    by_cases h : i < found.length
    · rw [if_pos h] at hj
      rw [en i h j (by have := E.lt i h; omega)]
      exact E.zero i h j hj
    · rw [if_neg h] at hj
      obtain rfl : i = found.length := by omega
      rw [rl]; exact z j hj
  · rw [len] at hi
    by_cases h : i < found.length
    · rw [if_pos h, en i h _ (E.lt i h)]
      exact E.pos i h
    · rw [if_neg h]
      obtain rfl : i = found.length := by omega
      rw [rl]; exact p
  · rw [len] at hk
    by_cases h : k < found.length
    · rw [if_pos h, en i (by omega) _ (E.lt k h), en k h _ (E.lt k h)]
      exact E.red i k hik h
    · rw [if_neg h]
      obtain rfl : k = found.length := by omega
      rw [rl, ro i hik, lessV_mod]
      exact fm_pos p
theorem EchP.mono {E : List Vec} {ps : Nat → Nat} {c d : Nat} (h : EchP E ps c) (hd : c ≤ d) : EchP E ps d :=
  ⟨fun i hi => Nat.lt_of_lt_of_le (h.lt i hi) hd, h.up, h.zero, h.pos, h.red⟩
theorem formUp_ech (rows : List Vec) : ∀ c, (∃ ps, EchP (formUp rows c).2 ps c) ∧ Zeros c (formUp rows c).1
  | 0 => ⟨⟨fun _ => 0, ⟨fun i hi => by simp [formUp] at hi, fun i k _ hk => by simp [formUp] at hk, fun i hi => by simp [formUp] at hi, fun i hi => by simp [formUp] at hi, fun i k _ hk => by simp [formUp] at hk⟩⟩, fun v _ j hj => by omega⟩
  | c + 1 => by
    obtain ⟨⟨ps, E⟩, Z⟩ := formUp_ech rows c
    obtain ⟨z1, z2⟩ := colRun_zeros (c := c) Z
    refine ⟨?_, z2⟩
    show ∃ qs, EchP (colStep c (formUp rows c)).2 qs (c + 1)
    unfold colStep
    rcases colRun_cases c (formUp rows c).1 with e | ⟨v, e, hv⟩
    · rw [e, if_pos rfl]
      exact ⟨ps, E.mono (by omega)⟩
    · rw [e] at z1
      rw [e, if_neg (by simp)]
      exact ⟨_, colFound_ech E (signed_zeros (z1 v (by simp))) (signed_pos hv)⟩

/-- all entries from w on are 0 -/
def Supp (w : Nat) (G : List Vec) : Prop := ∀ v ∈ G, ∀ j, w ≤ j → v j = 0
theorem Sp.supp {w : Nat} {G : List Vec} (h : Supp w G) {v : Vec} (hv : Sp G v) : ∀ j, w ≤ j → v j = 0 := by
  induction hv with
  | zero => exact fun _ _ => rfl
  | step k hg _ ih =>
    intro j hj
    show _ + k * _ = (0 : Int)
    rw [ih j hj, h _ hg j hj]; simp
theorem formF_eqv {w : Nat} {rows : List Vec} (h : Supp w rows) : Eqv rows (formF w rows) := by
  have e := formUp_eqv rows w
  have z := (formUp_ech rows w).2
  refine ⟨fun g hg => (e.1 g hg).trans fun v hv => ?_, fun g hg => e.2 g (List.mem_append_left _ hg)⟩
  rcases List.mem_append.mp hv with hv | hv
  · exact .mem hv
  · have s : Sp rows v := e.2 v (List.mem_append_right _ hv)
    refine Sp.zero.of_eq fun j => ?_
    by_cases q : j < w
    · exact (z v hv j q).symm
    · exact (s.supp h j (by omega)).symm
theorem formF_ech (w : Nat) (rows : List Vec) : ∃ ps, EchP (formF w rows) ps w := (formUp_ech rows w).1
theorem formF_supp {w : Nat} {rows : List Vec} (h : Supp w rows) : Supp w (formF w rows) := fun v hv => ((formF_eqv h).2 v hv).supp h
theorem formUp_len (rows : List Vec) : ∀ c, (formUp rows c).2.length + (formUp rows c).1.length = rows.length
  | 0 => by simp [formUp]
  | c + 1 => by
    have ih := formUp_len rows c
    rw [← ih]
    show (colStep c (formUp rows c)).2.length + (colStep c (formUp rows c)).1.length = _
    have run : (colRun c (formUp rows c).1).1.length + (colRun c (formUp rows c).1).2.length = (formUp rows c).1.length := by
      unfold colRun
      refine euRun_ind (J := fun hs rs => hs.length + rs.length = (formUp rows c).1.length) (fun hs rs l n j => ?_) _ _ ?_
      · rw [← j]
        have t : ∀ l : List Vec, (l.filter fun v => v c ≠ 0).length + (l.filter fun v => v c = 0).length = l.length := fun l => by
          induction l with
          | nil => rfl
          | cons v r ih => by_cases e : v c = 0 <;> simp [e] at ih ⊢ <;> omega
        have ht := t (euTold c hs)
        have hl : (euTold c hs).length = hs.length - 1 := by
          unfold euTold
          rw [List.length_map, List.length_eraseIdx_of_lt (amin_spec _ (by rintro rfl; simp at l)).1]
        unfold euH euR
        rw [List.length_cons, List.length_append]; omega
      · generalize (formUp rows c).1 = l
        induction l with
        | nil => rfl
        | cons v r ih => by_cases e : v c = 0 <;> simp [e] at ih ⊢ <;> omega
    unfold colStep
    rcases colRun_cases c (formUp rows c).1 with e | ⟨v, e, hv⟩
    · rw [e] at run ⊢
      rw [if_pos rfl]; simp at run ⊢; omega
    · rw [e] at run ⊢
      rw [if_neg (by simp)]
      simp [colFound] at run ⊢; omega
theorem formF_len (w : Nat) (rows : List Vec) : (formF w rows).length ≤ rows.length := by
  have := formUp_len rows w
  unfold formF; omega
end K17
end
section
set_option autoImplicit false
/-! KEch: heads of two forms, classes by the product of the heads' quotients, minors. Plain Lean. -/
namespace K17

/-- coefficients -/
theorem Sp.coef : ∀ {E : List Vec} {v : Vec}, Sp E v → ∃ a : Nat → Int, ∀ j, v j = sumN E.length fun i => a i * row E i j
  | [], v, h => ⟨fun _ => 0, fun j => h.nil j⟩
  | g :: G, v, h => by
    obtain ⟨k, u, hu, e⟩ := h.cons
    obtain ⟨a, ha⟩ := hu.coef
    refine ⟨fun i => match i with | 0 => k | i + 1 => a i, fun j => ?_⟩
    have sh : ∀ (n : Nat) (f : Nat → Int), sumN (n + 1) f = f 0 + sumN n fun i => f (i + 1) := fun n f => by
      induction n with
      | zero => simp [sumN]
      | succ n ih => rw [sumN, ih, sumN]; omega
    rw [List.length_cons, sh, e, ha]
    rfl
theorem least_ne {a : Nat → Int} : ∀ {n i : Nat}, i < n → a i ≠ 0 → ∃ k, k < n ∧ a k ≠ 0 ∧ ∀ l, l < k → a l = 0
  | 0, _, h, _ => by omega
  | n + 1, i, h, ha => by
    by_cases q : ∃ l, l < n ∧ a l ≠ 0
    · obtain ⟨l, hl, hn⟩ := q
      obtain ⟨k, h1, h2, h3⟩ := least_ne hl hn
      exact ⟨k, by omega, h2, h3⟩
    · have z : ∀ l, l < n → a l = 0 := fun l hl => Classical.byContradiction fun hn => q ⟨l, hl, hn⟩
      have e : i = n := by
        rcases Nat.lt_or_ge i n with h1 | h1
        · exact absurd (z i h1) ha
        · omega
      subst e
      exact ⟨i, by omega, ha, z⟩
/-- the first coefficient that is not 0 stands at the head of the vector -/
theorem EchP.lead {E : List Vec} {ps : Nat → Nat} {c : Nat} (h : EchP E ps c) {a : Nat → Int} {v : Vec} (hv : ∀ j, v j = sumN E.length fun i => a i * row E i j) {k : Nat} (hk : k < E.length)
    (hz : ∀ l, l < k → a l = 0) : (∀ j, j < ps k → v j = 0) ∧ v (ps k) = a k * row E k (ps k) := by
  constructor
  · intro j hj
    rw [hv]
    refine sumN_zero fun i hi => ?_
    rcases Nat.lt_or_ge i k with q | q
    · rw [hz i q]; simp
    · rw [h.zero i hi j (by rcases Nat.eq_or_lt_of_le q with e | q; · rw [← e]; exact hj
                            · have := h.up k i q hi; omega)]; simp
  · rw [hv]
    refine sumN_one hk fun i hi ne => ?_
    rcases Nat.lt_or_gt_of_ne ne with q | q
    · rw [hz i q]; simp
    · rw [h.zero i hi _ (h.up k i q hi)]; simp
def Lead (v : Vec) (c : Nat) : Prop := (∀ j, j < c → v j = 0) ∧ v c ≠ 0
theorem Lead.uniq {v : Vec} {c d : Nat} (h : Lead v c) (k : Lead v d) : c = d := by
  rcases Nat.lt_trichotomy c d with q | q | q
  · exact absurd (k.1 c q) h.2
  · exact q
  · exact absurd (h.1 d q) k.2
theorem EchP.head {E : List Vec} {ps : Nat → Nat} {c : Nat} (h : EchP E ps c) {i : Nat} (hi : i < E.length) : Lead (row E i) (ps i) := ⟨h.zero i hi, by have := h.pos i hi; omega⟩
/-- a vector of the span has its head where a row has it, and is divisible there -/
theorem EchP.lead_of {E : List Vec} {ps : Nat → Nat} {c : Nat} (h : EchP E ps c) {v : Vec} (hv : Sp E v) {d : Nat} (l : Lead v d) : ∃ k, k < E.length ∧ ps k = d ∧ ∃ a : Nat → Int, (∀ j, v j = sumN E.length fun i => a i * row E i j) ∧ (∀ l, l < k → a l = 0) ∧ v d = a k * row E k d := by
  obtain ⟨a, ha⟩ := hv.coef
  by_cases q : ∃ i, i < E.length ∧ a i ≠ 0
  · obtain ⟨i, hi, hn⟩ := q
    obtain ⟨k, hk, kn, kz⟩ := least_ne hi hn
    obtain ⟨z, e⟩ := h.lead ha hk kz
    have lv : Lead v (ps k) := ⟨z, by
      rw [e]
      exact Int.mul_ne_zero kn (by have := h.pos k hk; omega)⟩
    have eq := lv.uniq l
    refine ⟨k, hk, eq, a, ha, kz, ?_⟩
    rw [← eq]; exact e
  · refine absurd ?_ l.2
    rw [ha]
    refine sumN_zero fun i hi => ?_
    have z : a i = 0 := Classical.byContradiction fun hn => q ⟨i, hi, hn⟩
    rw [z]; simp
/-- ascending sequences of the same things -/
theorem asc_eq {n m : Nat} {p q : Nat → Nat} (hp : ∀ i k, i < k → k < n → p i < p k) (hq : ∀ i k, i < k → k < m → q i < q k) (h1 : ∀ i, i < n → ∃ k, k < m ∧ q k = p i) (h2 : ∀ i, i < m → ∃ k, k < n ∧ p k = q i) :
    n = m ∧ ∀ i, i < n → p i = q i := by
  have key : ∀ i, (i < n → i < m ∧ p i = q i) ∧ (i < m → i < n) := by
    intro i
    induction i using Nat.strongRecOn with
    | _ i ih =>
      have a : i < n → i < m ∧ q i ≤ p i := fun hi => by
        obtain ⟨k, hk, e⟩ := h1 i hi
        have hik : i ≤ k := by
          rcases Nat.lt_or_ge k i with z | z
          · have := (ih k z).2 hk
            have e2 := ((ih k z).1 this).2
            have := hp k i z hi
            omega
          · exact z
        refine ⟨by omega, ?_⟩
        rcases Nat.eq_or_lt_of_le hik with z | z
        · subst z; omega
        · have := hq i k z hk; omega
      have b : i < m → i < n ∧ p i ≤ q i := fun hi => by
        obtain ⟨k, hk, e⟩ := h2 i hi
        have hik : i ≤ k := by
          rcases Nat.lt_or_ge k i with z | z
          · have e2 := ((ih k z).1 hk).2
            have := hq k i z hi
            omega
          · exact z
        refine ⟨by omega, ?_⟩
        rcases Nat.eq_or_lt_of_le hik with z | z
        · subst z; omega
        · have := hp i k z hk; omega
      refine ⟨fun hi => ?_, fun hi => (b hi).1⟩
      obtain ⟨x, y⟩ := a hi
      have := (b x).2
      exact ⟨x, by omega⟩
  refine ⟨?_, fun i hi => ((key i).1 hi).2⟩
  rcases Nat.lt_trichotomy n m with q' | q' | q'
  · have := (key n).2 q'; omega
  · exact q'
  · have := ((key m).1 q').1; omega
/-- two forms, one within the other one, of one rank: the same places of heads; and triangular coefficients -/
theorem EchP.within {E W : List Vec} {ps qs : Nat → Nat} {c d : Nat} (hE : EchP E ps c) (hW : EchP W qs d) (h1 : ∀ v ∈ E, Sp W v) (h2 : ∀ v ∈ W, ∃ k : Int, k ≠ 0 ∧ Sp E fun j => k * v j) :
    E.length = W.length ∧ (∀ i, i < E.length → ps i = qs i) ∧
    ∀ i, i < E.length → ∃ a : Nat → Int, (∀ j, row E i j = sumN W.length fun k => a k * row W k j) ∧ (∀ l, l < i → a l = 0) ∧ row E i (ps i) = a i * row W i (ps i) := by
  have f1 : ∀ i, i < E.length → ∃ k, k < W.length ∧ qs k = ps i := fun i hi => by
    obtain ⟨k, hk, e, _⟩ := hW.lead_of (h1 _ (row_mem hi)) (hE.head hi)
    exact ⟨k, hk, e⟩
  have f2 : ∀ i, i < W.length → ∃ k, k < E.length ∧ ps k = qs i := fun i hi => by
    obtain ⟨m, hm, hs⟩ := h2 _ (row_mem hi)
    obtain ⟨k, hk, e, _⟩ := hE.lead_of (d := qs i) hs ⟨fun j hj => by show m * row W i j = 0; rw [hW.zero i hi j hj]; simp, Int.mul_ne_zero hm (hW.head hi).2⟩
    exact ⟨k, hk, e⟩
  obtain ⟨len, eq⟩ := asc_eq hE.up hW.up f1 f2
  refine ⟨len, eq, fun i hi => ?_⟩
  obtain ⟨k, hk, e, a, ha, az, ae⟩ := hW.lead_of (h1 _ (row_mem hi)) (hE.head hi)
  have ki : k = i := by
    have e2 := eq i hi
    rcases Nat.lt_trichotomy k i with z | z | z
    · have := hW.up k i z (by omega); omega
    · exact z
    · have := hW.up i k z hk; omega
  subst ki
  exact ⟨a, ha, az, ae⟩

/-! ### determinants of triangular sums -/
/-- the product of the first n numbers -/
def prodN : Nat → (Nat → Int) → Int
  | 0, _ => 1
  | n + 1, q => prodN n q * q n
/-- rows of A, the last m of them those of W -/
def mixR (A W : Nat → Vec) (k : Nat) : Nat → Vec := fun i => if i < k then A i else W i
theorem mix_step {A W : Nat → Vec} {k : Nat} : mixR A W (k + 1) = setR (mixR A W k) k (A k) := by
  funext i; unfold mixR setR
  by_cases h : i = k
  · subst h; rw [if_pos (by omega), if_pos rfl]
  · rw [if_neg h]
    by_cases q : i < k
    · rw [if_pos (by omega)]; exact (if_pos q).symm
    · rw [if_neg (by omega)]; exact (if_neg q).symm
theorem detF_sum {r i : Nat} (hi : i < r) (M : Nat → Vec) (a : Nat → Int) (G : Nat → Vec) : ∀ n, detF r (setR M i fun j => sumN n fun k => a k * G k j) = sumN n fun k => a k * detF r (setR M i (G k))
  | 0 => detF_zero hi M
  | n + 1 => by
    have l := detF_lin i hi M (fun j => sumN n fun k => a k * G k j) (G n) (a n)
    have ih := detF_sum hi M a G n
    simp only [sumN]
    rw [l, ih]
/-- det of triangular sums of W: the product of the diagonal times det W -/
theorem det_tri {r : Nat} {A W : Nat → Vec} {q : Nat → Int} (c : Nat → Nat) (h : ∀ i, i < r → ∃ a : Nat → Int, (∀ j, A i j = sumN r fun k => a k * W k j) ∧ (∀ l, l < i → a l = 0) ∧ a i = q i) :
    ∀ k, k ≤ r → detF r (fun i j => mixR A W k i (c j)) = prodN k q * detF r fun i j => W i (c j)
  | 0, _ => by
    have e : mixR A W 0 = W := by funext i; unfold mixR; rw [if_neg (by omega)]
    rw [e]; simp [prodN]
  | k + 1, hk => by
    have ih := det_tri c h k (by omega)
    obtain ⟨a, ha, az, aq⟩ := h k (by omega)
    have eqv : ∀ v : Vec, (fun i j => setR (mixR A W k) k v i (c j)) = setR (fun i j => mixR A W k i (c j)) k fun j => v (c j) := fun v => by
      funext i j; unfold setR; split <;> rfl
    rw [mix_step, eqv]
    have e1 : (fun j => A k (c j)) = fun j => sumN r fun l => a l * W l (c j) := by funext j; exact ha (c j)
    rw [e1, detF_sum (by omega) (fun i j => mixR A W k i (c j)) a (fun l j => W l (c j)) r, sumN_one (k := k) (by omega) fun l hl ne => ?_]
    · have e2 : setR (fun i j => mixR A W k i (c j)) k (fun j => W k (c j)) = fun i j => mixR A W k i (c j) := by
        rw [← eqv]
        have e3 : setR (mixR A W k) k (W k) = mixR A W k := by
          have e4 : mixR A W k k = W k := by unfold mixR; rw [if_neg (by omega)]
          rw [← e4]
          exact setR_self _ _
        rw [e3]
      rw [e2, ih, aq, prodN]
      rw [← Int.mul_assoc, Int.mul_comm (q k)]
    · rcases Nat.lt_or_gt_of_ne ne with z | z
      · rw [az l z]; simp
      · rw [← eqv, detF_two (i := k) (j := l) (by omega) hl (by omega) _ ?_]
        · simp
        · funext j
          rw [setR_same, setR_ne _ _ (by omega)]
          unfold mixR
          rw [if_neg (by omega)]
theorem det_tri' {r : Nat} {A W : Nat → Vec} {q : Nat → Int} (c : Nat → Nat) (h : ∀ i, i < r → ∃ a : Nat → Int, (∀ j, A i j = sumN r fun k => a k * W k j) ∧ (∀ l, l < i → a l = 0) ∧ a i = q i) :
    detF r (fun i j => A i (c j)) = prodN r q * detF r fun i j => W i (c j) := by
  rw [← det_tri c h r (Nat.le_refl _)]
  refine detF_congr fun i j hi _ => ?_
  unfold mixR
  rw [if_pos hi]
end K17
end
section
set_option autoImplicit false
/-! KMin: the lists of minors as the law makes them, their greatest common divisor, classes. Plain Lean. -/
namespace K17

/-! ### ascending choices, listed -/
def nextLo (t : List Nat) : Nat := match t.getLast? with | none => 0 | some x => x + 1
def nextCols (w : Nat) (t : List Nat) : List (List Nat) := (List.range' (nextLo t) (w - nextLo t)).map fun x => t ++ [x]
def colsF (w : Nat) : Nat → List (List Nat)
  | 0 => [[]]
  | k + 1 => (colsF w k).flatMap (nextCols w)
def at0 (t : List Nat) (i : Nat) : Nat := t.getD i 0
theorem at0_left {t u : List Nat} {i : Nat} (h : i < t.length) : at0 (t ++ u) i = at0 t i := by
  unfold at0; rw [List.getD_eq_getElem?_getD, List.getD_eq_getElem?_getD, List.getElem?_append_left h]
theorem at0_last (t : List Nat) (x : Nat) : at0 (t ++ [x]) t.length = x := by
  unfold at0; rw [List.getD_eq_getElem?_getD, List.getElem?_append_right (Nat.le_refl _)]; simp
theorem nextLo_eq {t : List Nat} {k : Nat} (h : t.length = k + 1) : nextLo t = at0 t k + 1 := by
  unfold nextLo at0
  rw [List.getLast?_eq_getElem?, h, List.getD_eq_getElem?_getD]
  simp only [Nat.add_sub_cancel]
  rw [List.getElem?_eq_getElem (by omega)]; rfl
theorem mem_nextCols {w : Nat} {t u : List Nat} : u ∈ nextCols w t ↔ ∃ x, u = t ++ [x] ∧ nextLo t ≤ x ∧ x < w := by
  unfold nextCols
  rw [List.mem_map]
  constructor
  · rintro ⟨x, hx, rfl⟩
    rw [List.mem_range'] at hx
    obtain ⟨i, hi, e⟩ := hx
    exact ⟨x, rfl, by omega, by omega⟩
  · rintro ⟨x, rfl, h1, h2⟩
    refine ⟨x, ?_, rfl⟩
    rw [List.mem_range']
    exact ⟨x - nextLo t, by omega, by omega⟩
theorem mem_cols {w : Nat} : ∀ {k : Nat} {t : List Nat}, t ∈ colsF w k → t.length = k ∧ Asc k w (at0 t)
  | 0, t, h => by
    have e : t = [] := by simpa [colsF] using h
    subst e
    exact ⟨rfl, fun i hi => by omega, fun i hi => by omega⟩
  | k + 1, t, h => by
    obtain ⟨u, hu, ht⟩ := List.mem_flatMap.mp h
    obtain ⟨x, rfl, h1, h2⟩ := mem_nextCols.mp ht
    obtain ⟨len, a, b⟩ := mem_cols hu
    refine ⟨by simp [len], fun i hi => ?_, fun i hi => ?_⟩
    · by_cases q : i < k
      · rw [at0_left (by omega)]; exact a i q
      · obtain rfl : i = u.length := by omega
        rw [at0_last]; exact h2
    · by_cases q : i + 1 < k
      · rw [at0_left (by omega), at0_left (by omega)]; exact b i q
      · have e : u.length = i + 1 := by omega
        rw [← e, at0_last, at0_left (by omega)]
        have := nextLo_eq e
        omega
def listOf (s : Nat → Nat) : Nat → List Nat
  | 0 => []
  | k + 1 => listOf s k ++ [s k]
theorem listOf_len (s : Nat → Nat) : ∀ k, (listOf s k).length = k
  | 0 => rfl
  | k + 1 => by simp [listOf, listOf_len s k]
theorem listOf_at (s : Nat → Nat) : ∀ {k i : Nat}, i < k → at0 (listOf s k) i = s i
  | 0, _, h => by omega
  | k + 1, i, h => by
    unfold listOf
    by_cases q : i < k
    · rw [at0_left (by rw [listOf_len]; exact q)]; exact listOf_at s q
    · obtain rfl : i = k := by omega
      have := at0_last (listOf s i) (s i)
      rw [listOf_len] at this; exact this
theorem cols_of {w : Nat} {s : Nat → Nat} : ∀ {k : Nat}, Asc k w s → listOf s k ∈ colsF w k
  | 0, _ => by simp [colsF, listOf]
  | k + 1, h => by
    unfold colsF listOf
    refine List.mem_flatMap.mpr ⟨listOf s k, cols_of ⟨fun i hi => h.1 i (by omega), fun i hi => h.2 i (by omega)⟩, mem_nextCols.mpr ⟨s k, rfl, ?_, h.1 k (by omega)⟩⟩
    cases k with
    | zero => exact Nat.zero_le _
    | succ k =>
      rw [nextLo_eq (listOf_len s (k + 1)), listOf_at s (by omega)]
      exact h.2 k (by omega)

/-! ### greatest common divisors -/
def gcdI (a b : Int) : Int := (Int.gcd a b : Int)
def gcdL (l : List Int) : Int := l.foldl gcdI 0
theorem gcdI_left (a b : Int) : gcdI a b ∣ a := Int.gcd_dvd_left a b
theorem gcdI_right (a b : Int) : gcdI a b ∣ b := Int.gcd_dvd_right a b
theorem dvd_gcdI {d a b : Int} (h1 : d ∣ a) (h2 : d ∣ b) : d ∣ gcdI a b := Int.dvd_coe_gcd h1 h2
theorem gcdI_nonneg (a b : Int) : 0 ≤ gcdI a b := Int.natCast_nonneg _
theorem foldl_gcd (l : List Int) : ∀ a : Int, l.foldl gcdI a ∣ a ∧ ∀ x ∈ l, l.foldl gcdI a ∣ x := by
  induction l with
  | nil => exact fun a => ⟨Int.dvd_refl a, fun x hx => by simp at hx⟩
  | cons y r ih =>
    intro a
    obtain ⟨h1, h2⟩ := ih (gcdI a y)
    refine ⟨Int.dvd_trans h1 (gcdI_left a y), fun x hx => ?_⟩
    rcases List.mem_cons.mp hx with rfl | hx
    · exact Int.dvd_trans h1 (gcdI_right a x)
    · exact h2 x hx
theorem dvd_foldl_gcd {d : Int} (l : List Int) : ∀ a : Int, d ∣ a → (∀ x ∈ l, d ∣ x) → d ∣ l.foldl gcdI a := by
  induction l with
  | nil => exact fun a h _ => h
  | cons y r ih => exact fun a h hx => ih _ (dvd_gcdI h (hx y (by simp))) fun x hx' => hx x (List.mem_cons_of_mem _ hx')
theorem foldl_gcd_nonneg (l : List Int) : ∀ a : Int, 0 ≤ a → 0 ≤ l.foldl gcdI a := by
  induction l with
  | nil => exact fun a h => h
  | cons y r ih => exact fun a _ => ih _ (gcdI_nonneg a y)
theorem gcdL_dvd {l : List Int} {x : Int} (h : x ∈ l) : gcdL l ∣ x := (foldl_gcd l 0).2 x h
theorem dvd_gcdL {l : List Int} {d : Int} (h : ∀ x ∈ l, d ∣ x) : d ∣ gcdL l := dvd_foldl_gcd l 0 (Int.dvd_zero d) h
theorem gcdL_nonneg (l : List Int) : 0 ≤ gcdL l := foldl_gcd_nonneg l 0 (Int.le_refl 0)
theorem foldl_gcd_mul {q : Int} (hq : 0 ≤ q) (l : List Int) : ∀ a : Int, (l.map fun x => q * x).foldl gcdI (q * a) = q * l.foldl gcdI a := by
  induction l with
  | nil => exact fun a => rfl
  | cons y r ih =>
    intro a
    have e : gcdI (q * a) (q * y) = q * gcdI a y := by
      unfold gcdI
      rw [Int.gcd_mul_left, Int.natCast_mul, Int.natAbs_of_nonneg hq]
    simp only [List.map_cons, List.foldl_cons]
    rw [e]
    exact ih _
theorem gcdL_mul {q : Int} (hq : 0 ≤ q) (l : List Int) : gcdL (l.map fun x => q * x) = q * gcdL l := by
  have := foldl_gcd_mul hq l 0
  rw [Int.mul_zero] at this; exact this
theorem nonneg_dvd_eq {a b : Int} (ha : 0 ≤ a) (hb : 0 ≤ b) (h1 : a ∣ b) (h2 : b ∣ a) : a = b := by
  have e := Nat.dvd_antisymm (Int.natAbs_dvd_natAbs.mpr h1) (Int.natAbs_dvd_natAbs.mpr h2)
  omega

/-! ### minors -/
def minorsF (G : List Vec) (r w : Nat) : List Int := (colsF G.length r).flatMap fun ls => (colsF w r).map fun cs => detF r fun i j => row G (at0 ls i) (at0 cs j)
def sharedF (G : List Vec) (w r : Nat) : Int := gcdL (if 0 < r then minorsF G r w else [1])
/-- what divides the minors in the list divides those of any vectors of the span -/
theorem dvd_minors {G : List Vec} {r w : Nat} {d : Int} (h : ∀ x ∈ minorsF G r w, d ∣ x) {R : Nat → Vec} (hR : ∀ i, i < r → Sp G (R i)) {c : Nat → Nat} (hc : Asc r w c) : d ∣ detF r fun i j => R i (c j) := by
  refine dvd_span (fun s hs => ?_) hR
  have m : detF r (fun i j => row G (at0 (listOf s r) i) (at0 (listOf c r) j)) ∈ minorsF G r w :=
    List.mem_flatMap.mpr ⟨_, cols_of hs, List.mem_map.mpr ⟨_, cols_of hc, rfl⟩⟩
  have z := h _ m
  rw [detF_congr (M' := fun i j => row G (s i) (c j)) fun i j hi hj => by rw [listOf_at s hi, listOf_at c hj]] at z
  exact z
theorem minors_of {G : List Vec} {r w : Nat} {x : Int} (h : x ∈ minorsF G r w) : ∃ (R : Nat → Vec) (c : Nat → Nat), (∀ i, i < r → Sp G (R i)) ∧ Asc r w c ∧ x = detF r fun i j => R i (c j) := by
  obtain ⟨ls, h1, h2⟩ := List.mem_flatMap.mp h
  obtain ⟨cs, h3, rfl⟩ := List.mem_map.mp h2
  obtain ⟨_, a⟩ := mem_cols h1
  exact ⟨fun i => row G (at0 ls i), at0 cs, fun i hi => .mem (row_mem (a.1 i hi)), (mem_cols h3).2, rfl⟩
/-- the minors of W have no common divisor -/
def Prim (W : List Vec) (w : Nat) : Prop := ∀ d : Int, (∀ c, Asc W.length w c → d ∣ detF W.length fun i j => row W i (c j)) → d ∣ 1

theorem prodN_nonneg {n : Nat} {q : Nat → Int} (h : ∀ i, i < n → 0 ≤ q i) : 0 ≤ prodN n q := by
  induction n with
  | zero => simp [prodN]
  | succ n ih => exact Int.mul_nonneg (ih fun i hi => h i (by omega)) (h n (by omega))
/-- THE LAW OF CLASSES: rows A within W, of one rank, W without a common divisor of its minors: the common divisor of A's minors is the product of the quotients of heads -/
theorem shared_eq {A T W : List Vec} {ps qs : Nat → Nat} {w : Nat} (hA : Eqv A T) (hT : EchP T ps w) (hW : EchP W qs w) (h1 : ∀ v ∈ A, Sp W v) (h2 : ∀ v ∈ W, ∃ k : Int, k ≠ 0 ∧ Sp A fun j => k * v j) (prim : Prim W w) :
    T.length = W.length ∧ (∀ i, i < T.length → ps i = qs i) ∧ ∃ q : Nat → Int, (∀ i, i < T.length → 0 < q i ∧ row T i (ps i) = q i * row W i (ps i)) ∧ sharedF A w T.length = prodN T.length q := by
  obtain ⟨len, eq, tri⟩ := hT.within hW (fun v hv => (hA.2 v hv).trans h1) fun v hv => by
    obtain ⟨k, hk, s⟩ := h2 v hv
    exact ⟨k, hk, hA.sp.mp s⟩
  refine ⟨len, eq, ?_⟩
  have ex : ∀ i, ∃ a : Nat → Int, i < T.length → (∀ j, row T i j = sumN W.length fun k => a k * row W k j) ∧ (∀ l, l < i → a l = 0) ∧ row T i (ps i) = a i * row W i (ps i) := fun i => by
    by_cases hi : i < T.length
    · obtain ⟨a, ha⟩ := tri i hi
      exact ⟨a, fun _ => ha⟩
    · exact ⟨fun _ => 0, fun z => absurd z hi⟩
  obtain ⟨a, ha⟩ := Classical.axiomOfChoice ex
  have qpos : ∀ i, i < T.length → 0 < a i i := fun i hi => by
    have e := (ha i hi).2.2
    have p1 := hT.pos i hi
    have p2 := hW.pos i (by omega)
    rw [← eq i hi] at p2
    rw [e] at p1
    exact Int.pos_of_mul_pos_left p1 p2
  refine ⟨fun i => a i i, fun i hi => ⟨qpos i hi, (ha i hi).2.2⟩, ?_⟩
  have qn : 0 ≤ prodN T.length fun i => a i i := prodN_nonneg fun i hi => Int.le_of_lt (qpos i hi)
  -- the minors of T are those of W times the product
  have dt : ∀ c : Nat → Nat, detF T.length (fun i j => row T i (c j)) = prodN T.length (fun i => a i i) * detF T.length fun i j => row W i (c j) := fun c =>
    det_tri' c fun i hi => ⟨a i, fun j => by rw [(ha i hi).1, len], (ha i hi).2.1, rfl⟩
  unfold sharedF
  by_cases r0 : 0 < T.length
  · rw [if_pos r0]
    refine nonneg_dvd_eq (gcdL_nonneg _) qn ?_ ?_
    · -- the gcd divides the product
      have g1 : ∀ c, Asc T.length w c → gcdL (minorsF A T.length w) ∣ detF T.length fun i j => row T i (c j) := fun c hc =>
        dvd_minors (fun x hx => gcdL_dvd hx) (fun i hi => hA.2 _ (row_mem hi)) hc
      -- the list of W's minors
      let L := (colsF w T.length).map fun cs => detF T.length fun i j => row W i (at0 cs j)
      have gl : gcdL L = 1 := by
        refine nonneg_dvd_eq (gcdL_nonneg _) (by decide) (prim _ fun c hc => ?_) (Int.one_dvd _)
        rw [← len] at hc
        have m : detF T.length (fun i j => row W i (at0 (listOf c T.length) j)) ∈ L := List.mem_map.mpr ⟨_, cols_of hc, rfl⟩
        have z := gcdL_dvd m
        rw [detF_congr (M' := fun i j => row W i (c j)) fun i j _ hj => by rw [listOf_at c hj], len] at z
        rw [len] at *
        exact z
      have gm := gcdL_mul qn L
      rw [gl, Int.mul_one] at gm
      rw [← gm]
      refine dvd_gcdL fun x hx => ?_
      obtain ⟨y, hy, rfl⟩ := List.mem_map.mp hx
      obtain ⟨cs, hcs, rfl⟩ := List.mem_map.mp hy
      rw [← dt]
      exact g1 _ (mem_cols hcs).2
    · refine dvd_gcdL fun x hx => ?_
      obtain ⟨R, c, hR, hc, rfl⟩ := minors_of hx
      refine dvd_span (G := T) (fun s hs => ?_) fun i hi => hA.sp.mp (hR i hi)
      have lo : ∀ i, i < T.length → i ≤ s i := by
        intro i
        induction i with
        | zero => intro _; omega
        | succ i ih => intro hi; have := ih (by omega); have := hs.2 i hi; omega
      have hi2 : ∀ d i, i + d + 1 = T.length → s i ≤ i := by
        intro d
        induction d with
        | zero => intro i e; have := hs.1 i (by omega); omega
        | succ d ih => intro i e; have a := ih (i + 1) (by omega); have b := hs.2 i (by omega); omega
      rw [detF_congr (M' := fun i j => row T i (c j)) fun i j hi _ => by
        have := lo i hi
        have := hi2 (T.length - 1 - i) i (by omega)
        rw [show s i = i by omega], dt]
      exact Int.dvd_mul_right _ _
  · rw [if_neg r0]
    have z : T.length = 0 := by omega
    rw [z]; rfl

/-! ### classes as the program reckons them -/
/-- the first place below w that is not 0 (w if there is none) -/
def headP (w : Nat) (v : Vec) : Nat := ((List.range w).find? fun j => v j ≠ 0).getD w
theorem headP_eq {w : Nat} {v : Vec} {c : Nat} (h : Lead v c) (hc : c < w) : headP w v = c := by
  unfold headP
  have e : (List.range w).find? (fun j => decide (v j ≠ 0)) = some c := by
    rw [List.find?_eq_some_iff_getElem]
    refine ⟨by simpa using h.2, c, by simpa using hc, by simp, fun j hj => ?_⟩
    simp [h.1 j hj]
  rw [e]; rfl
def hdV (w : Nat) (v : Vec) : Int := v (headP w v)
def classesF (w : Nat) : List Vec → List Vec → Int → Int
  | i :: is, o :: os, c => classesF w is os ((c * hdV w i).fdiv (hdV w o))
  | _, _, c => c
theorem classes_eq {w : Nat} {q : Nat → Int} : ∀ {T W : List Vec} (k : Nat) (c : Int) (len : T.length = W.length) (h : ∀ i, i < T.length → hdV w (row W i) ≠ 0 ∧ hdV w (row T i) = q (k + i) * hdV w (row W i)),
    c = prodN k q → classesF w T W c = prodN (k + T.length) q
  | [], [], k, c, _, _, e => by simpa [classesF] using e
  | i :: is, o :: os, k, c, len, h, e => by
    obtain ⟨h0, h1⟩ := h 0 (by simp)
    have h0' : hdV w o ≠ 0 := h0
    have h1' : hdV w i = q k * hdV w o := h1
    unfold classesF
    rw [h1', ← Int.mul_assoc, Int.mul_fdiv_cancel _ h0']
    have r := classes_eq (T := is) (W := os) (q := q) (k + 1) (c * q k) (by simpa using len) (fun l hl => by
      have z := h (l + 1) (by simpa using hl)
      rw [row_succ, row_succ] at z
      rw [show k + 1 + l = k + (l + 1) by omega]; exact z) (by rw [prodN, e])
    rw [r, List.length_cons, show k + 1 + is.length = k + (is.length + 1) by omega]
  | [], _ :: _, _, _, len, _, _ => by simp at len
  | _ :: _, [], _, _, len, _, _ => by simp at len
/-- .. is the common divisor of the minors -/
theorem classes_shared {A T W : List Vec} {ps qs : Nat → Nat} {w : Nat} (hA : Eqv A T) (hT : EchP T ps w) (hW : EchP W qs w) (h1 : ∀ v ∈ A, Sp W v) (h2 : ∀ v ∈ W, ∃ k : Int, k ≠ 0 ∧ Sp A fun j => k * v j) (prim : Prim W w) :
    classesF w T W 1 = sharedF A w T.length := by
  obtain ⟨len, eq, q, hq, e⟩ := shared_eq hA hT hW h1 h2 prim
  have z := classes_eq (w := w) (q := q) (T := T) (W := W) 0 1 len (fun i hi => by
    have lT := headP_eq (hT.head hi) (hT.lt i hi)
    have lW := headP_eq (hW.head (i := i) (by omega)) (hW.lt i (by omega))
    unfold hdV
    rw [lT, lW, ← eq i hi, Nat.zero_add]
    refine ⟨?_, (hq i hi).2⟩
    have := hW.pos i (by omega)
    rw [← eq i hi] at this
    omega) rfl
  rw [z, Nat.zero_add, e]
end K17
end
section
set_option autoImplicit false
/-! KSmith: the steps towards the diagonal, what stays by them, kernels. Plain Lean. -/
namespace K17

abbrev Mat := Nat → Vec
/-! ### products -/
def dot (w : Nat) (u v : Vec) : Int := sumN w fun i => u i * v i
theorem dot_comm (w : Nat) (u v : Vec) : dot w u v = dot w v u := sumN_congr fun i _ => Int.mul_comm _ _
theorem dot_addMul (w : Nat) (u a b : Vec) (k : Int) : dot w u (fun j => a j + k * b j) = dot w u a + k * dot w u b := by
  unfold dot
  rw [← sumN_mul, ← sumN_add]
  exact sumN_congr fun i _ => by rw [Int.mul_add, Int.mul_left_comm]
theorem addMul_dot (w : Nat) (u a b : Vec) (k : Int) : dot w (fun j => a j + k * b j) u = dot w a u + k * dot w b u := by
  rw [dot_comm, dot_addMul, dot_comm w u a, dot_comm w u b]
theorem dot_congr {w : Nat} {u u' v v' : Vec} (h1 : ∀ i, i < w → u i = u' i) (h2 : ∀ i, i < w → v i = v' i) : dot w u v = dot w u' v' := sumN_congr fun i hi => by rw [h1 i hi, h2 i hi]
theorem dot_zero (w : Nat) (u : Vec) : dot w u (fun _ => 0) = 0 := sumN_zero fun i _ => Int.mul_zero _
theorem dot_unit {w k : Nat} (h : k < w) (u : Vec) : dot w u (unitV k) = u k := by
  unfold dot
  rw [sumN_one (k := k) h fun i _ ne => by unfold unitV; rw [if_neg (Ne.symm ne)]; simp]
  unfold unitV
  rw [if_pos rfl, Int.mul_one]
/-- a product that is 0 for generators is 0 for the span -/
theorem dot_span {w : Nat} {u : Vec} {G : List Vec} (h : ∀ g ∈ G, dot w u g = 0) {v : Vec} (hv : Sp G v) : dot w u v = 0 := by
  induction hv with
  | zero => exact dot_zero w u
  | step k hg _ ih => rw [dot_addMul, ih, h _ hg]; simp

/-! ### columns -/
def colV (w : Nat) (R : Mat) (j : Nat) : Vec := fun i => if i < w then R i j else 0
def colsV (w : Nat) (R : Mat) : List Vec := (List.range w).map (colV w R)
theorem colsV_len (w : Nat) (R : Mat) : (colsV w R).length = w := by simp [colsV]
theorem colsV_row {w : Nat} {R : Mat} {j : Nat} (h : j < w) : row (colsV w R) j = colV w R j := by
  unfold row colsV
  rw [List.getD_eq_getElem?_getD, List.getElem?_map, List.getElem?_range h]; rfl
theorem colsV_mem {w : Nat} {R : Mat} {j : Nat} (h : j < w) : colV w R j ∈ colsV w R := List.mem_map.mpr ⟨j, by simpa using h, rfl⟩
theorem mem_colsV {w : Nat} {R : Mat} {v : Vec} (h : v ∈ colsV w R) : ∃ j, j < w ∧ v = colV w R j := by
  obtain ⟨j, hj, e⟩ := List.mem_map.mp h
  exact ⟨j, by simpa using hj, e.symm⟩
theorem colV_supp {w : Nat} {R : Mat} {j : Nat} : ∀ i, w ≤ i → colV w R j i = 0 := fun i hi => by unfold colV; rw [if_neg (by omega)]

/-! ### the steps -/
structure SM where
  T : Mat
  L : Mat
  R : Mat
  a : Nat
def swN (a r i : Nat) : Nat := if i = a then r else if i = r then a else i
theorem swN_lt {a r i n : Nat} (ha : a < n) (hr : r < n) (hi : i < n) : swN a r i < n := by unfold swN; repeat' split
                                                                                            all_goals assumption
theorem swN_swN (a r i : Nat) : swN a r (swN a r i) = i := by
  unfold swN
  repeat' split
  all_goals first | omega | simp_all
def swapR (M : Mat) (a r : Nat) : Mat := fun i => M (swN a r i)
def swapC (M : Mat) (a c : Nat) : Mat := fun i j => M i (swN a c j)
/-- the factor of row i, of column j -/
def facR (T : Mat) (a i : Nat) : Int := if a < i then (T i a).fdiv (T a a) else 0
def facC (T : Mat) (a j : Nat) : Int := if a < j then (T a j).fdiv (T a a) else 0
def sweepR (T X : Mat) (a : Nat) : Mat := fun i j => X i j - facR T a i * X a j
def sweepC (T X : Mat) (a : Nat) : Mat := fun i j => X i j - facC T a j * X i a
def lexLe (x r c y r' c' : Nat) : Prop := x < y ∨ (x = y ∧ (r < r' ∨ (r = r' ∧ c ≤ c')))
/-- the place of the least entry -/
structure Pick (h w : Nat) (T : Mat) (a r c : Nat) : Prop where
  r0 : a ≤ r
  r1 : r < h
  c0 : a ≤ c
  c1 : c < w
  ne : T r c ≠ 0
  least : ∀ r' c', a ≤ r' → r' < h → a ≤ c' → c' < w → T r' c' ≠ 0 → lexLe (T r c).natAbs r c (T r' c').natAbs r' c'
theorem Pick.uniq {h w : Nat} {T : Mat} {a r c r' c' : Nat} (p : Pick h w T a r c) (q : Pick h w T a r' c') : r = r' ∧ c = c' := by
  have x := p.least r' c' q.r0 q.r1 q.c0 q.c1 q.ne
  have y := q.least r c p.r0 p.r1 p.c0 p.c1 p.ne
  unfold lexLe at x y
  omega
def swT (s : SM) (r c : Nat) : Mat := swapC (swapR s.T s.a r) s.a c
/-- behind the change and both sweeps -/
def mid (s : SM) (r c : Nat) : SM where
  T := sweepC (swT s r c) (sweepR (swT s r c) (swT s r c) s.a) s.a
  L := sweepR (swT s r c) (swapR s.L s.a r) s.a
  R := sweepC (swT s r c) (swapC s.R s.a c) s.a
  a := s.a
def Clean (h w : Nat) (s : SM) : Prop := (∀ i, s.a < i → i < h → s.T i s.a = 0) ∧ ∀ j, s.a < j → j < w → s.T s.a j = 0
/-- row i is not divisible by the pivot -/
def BadRow (w : Nat) (s : SM) (i : Nat) : Prop := ∃ j, s.a < j ∧ j < w ∧ (s.T i j).fmod (s.T s.a s.a) ≠ 0
structure Unfit (h w : Nat) (s : SM) (i : Nat) : Prop where
  lo : s.a < i
  hi : i < h
  bad : BadRow w s i
  first : ∀ k, s.a < k → k < i → ¬ BadRow w s k
def addRow (s : SM) (i : Nat) : SM := { s with T := setR s.T s.a fun j => s.T s.a j - -1 * s.T i j, L := setR s.L s.a fun j => s.L s.a j - -1 * s.L i j }
inductive Stp (h w : Nat) : SM → SM → Prop
  | go {s : SM} {r c : Nat} (p : Pick h w s.T s.a r c) (n : ¬ Clean h w (mid s r c)) : Stp h w s (mid s r c)
  | add {s : SM} {r c i : Nat} (p : Pick h w s.T s.a r c) (n : Clean h w (mid s r c)) (u : Unfit h w (mid s r c) i) : Stp h w s (addRow (mid s r c) i)
  | next {s : SM} {r c : Nat} (p : Pick h w s.T s.a r c) (n : Clean h w (mid s r c)) (u : ∀ i, s.a < i → i < h → ¬ BadRow w (mid s r c) i) : Stp h w s { mid s r c with a := s.a + 1 }
def Done (h w : Nat) (s : SM) : Prop := ∀ i j, s.a ≤ i → i < h → s.a ≤ j → j < w → s.T i j = 0
theorem Unfit.uniq {h w : Nat} {s : SM} {i k : Nat} (p : Unfit h w s i) (q : Unfit h w s k) : i = k := by
  rcases Nat.lt_trichotomy i k with z | z | z
  · exact absurd p.bad (q.first i p.lo z)
  · exact z
  · exact absurd q.bad (p.first k q.lo z)
theorem Stp.uniq {h w : Nat} {s t u : SM} (x : Stp h w s t) (y : Stp h w s u) : t = u := by
  cases x with
  | go p n =>
    cases y with
    | go q m => obtain ⟨rfl, rfl⟩ := p.uniq q; rfl
    | add q m _ => obtain ⟨rfl, rfl⟩ := p.uniq q; exact absurd m n
    | next q m _ => obtain ⟨rfl, rfl⟩ := p.uniq q; exact absurd m n
  | add p n f =>
    cases y with
    | go q m => obtain ⟨rfl, rfl⟩ := p.uniq q; exact absurd n m
    | add q m g => obtain ⟨rfl, rfl⟩ := p.uniq q; obtain rfl := f.uniq g; rfl
    | next q m g => obtain ⟨rfl, rfl⟩ := p.uniq q; exact absurd f.bad (g _ f.lo f.hi)
  | next p n f =>
    cases y with
    | go q m => obtain ⟨rfl, rfl⟩ := p.uniq q; exact absurd n m
    | add q m g => obtain ⟨rfl, rfl⟩ := p.uniq q; exact absurd g.bad (f _ g.lo g.hi)
    | next q m g => obtain ⟨rfl, rfl⟩ := p.uniq q; rfl
theorem Stp.not_done {h w : Nat} {s t : SM} (x : Stp h w s t) (d : Done h w s) : False := by
  cases x with
  | go p _ => exact p.ne (d _ _ p.r0 p.r1 p.c0 p.c1)
  | add p _ _ => exact p.ne (d _ _ p.r0 p.r1 p.c0 p.c1)
  | next p _ _ => exact p.ne (d _ _ p.r0 p.r1 p.c0 p.c1)
/-- a run to the end, with P at each loop head -/
inductive SmRun (P : SM → Prop) (h w : Nat) : SM → SM → Prop
  | done {s : SM} (p : P s) (d : Done h w s) : SmRun P h w s s
  | more {s t u : SM} (p : P s) (x : Stp h w s t) (r : SmRun P h w t u) : SmRun P h w s u
theorem SmRun.uniq {P Q : SM → Prop} {h w : Nat} {s t u : SM} (x : SmRun P h w s t) (y : SmRun Q h w s u) : t = u := by
  induction x with
  | done _ d =>
    cases y with
    | done _ _ => rfl
    | more _ x _ => exact (x.not_done d).elim
  | more _ x _ ih =>
    cases y with
    | done _ d => exact (x.not_done d).elim
    | more _ z r => obtain rfl := x.uniq z; exact ih r

/-! ### what stays -/
theorem sumN_sub_one {w a : Nat} (ha : a < w) (f : Nat → Int) (x : Int) : sumN w (fun j => f j - if j = a then x else 0) = sumN w f - x := by
  have e : sumN w (fun j => f j - if j = a then x else 0) = sumN w f + sumN w fun j => -(if j = a then x else 0) := by
    rw [← sumN_add]; exact sumN_congr fun j _ => Int.sub_eq_add_neg
  have e2 : sumN w (fun j => -(if j = a then x else 0)) = -(if a = a then x else 0) := sumN_one (f := fun j => -(if j = a then x else 0)) ha fun j _ ne => by
    show -(if j = a then x else 0) = 0
    rw [if_neg ne]; rfl
  rw [e, e2, if_pos rfl, Int.sub_eq_add_neg]
theorem sumN_sw {w a c : Nat} (ha : a < w) (hc : c < w) (f : Nat → Int) : sumN w (fun j => f (swN a c j)) = sumN w f := by
  by_cases e : a = c
  · subst e
    exact sumN_congr fun j _ => by congr 1; unfold swN; split <;> simp_all
  · have h1 := sumN_sub_one ha (fun j => f j - if j = c then f c else 0) (f a)
    rw [sumN_sub_one hc] at h1
    have h2 := sumN_sub_one ha (fun j => f (swN a c j) - if j = c then f a else 0) (f c)
    rw [sumN_sub_one hc] at h2
    have h3 : sumN w (fun j => f (swN a c j) - (if j = c then f a else 0) - if j = a then f c else 0) = sumN w fun j => f j - (if j = c then f c else 0) - if j = a then f a else 0 := by
      refine sumN_congr fun j _ => ?_
      unfold swN
      by_cases h : j = a
      · subst h; rw [if_pos rfl, if_neg e, if_pos rfl, if_neg e, if_pos rfl]; omega
      · by_cases q : j = c
        · subst q; rw [if_neg h, if_pos rfl, if_pos rfl, if_neg h, if_pos rfl, if_neg h]; omega
        · rw [if_neg h, if_neg q, if_neg q, if_neg h, if_neg q, if_neg h]
    omega
structure Lat (h w : Nat) (A : List Vec) (T R : Mat) : Prop where
  gen : ∀ k, k < w → Sp (colsV w R) (unitV k)
  from_ : ∀ i, i < h → ∃ u, Sp A u ∧ ∀ j, j < w → T i j = dot w u (colV w R j)
  to_ : ∀ c : Vec, (∀ i, i < h → dot w (T i) c = 0) → ∀ v ∈ A, dot w (fun j => dot w v (colV w R j)) c = 0
section
variable {h w : Nat} {A : List Vec} {T R : Mat}
theorem Lat.rowSwap (l : Lat h w A T R) {a r : Nat} (ha : a < h) (hr : r < h) : Lat h w A (swapR T a r) R where
  gen := l.gen
  from_ := fun i hi => l.from_ _ (swN_lt ha hr hi)
  to_ := fun c hc => l.to_ c fun i hi => by
    have z := hc (swN a r i) (swN_lt ha hr hi)
    unfold swapR at z
    rw [swN_swN] at z; exact z
theorem colV_swap {a c j : Nat} : colV w (swapC R a c) j = colV w R (swN a c j) := rfl
theorem Lat.colSwap (l : Lat h w A T R) {a c : Nat} (ha : a < w) (hc : c < w) : Lat h w A (swapC T a c) (swapC R a c) where
  gen := fun k hk => (l.gen k hk).mono fun g hg => by
    obtain ⟨j, hj, rfl⟩ := mem_colsV hg
    have z := colsV_mem (R := swapC R a c) (swN_lt ha hc hj)
    rw [colV_swap, swN_swN] at z; exact z
  from_ := fun i hi => by
    obtain ⟨u, hu, e⟩ := l.from_ i hi
    exact ⟨u, hu, fun j hj => e _ (swN_lt ha hc hj)⟩
  to_ := fun x hx v hv => by
    have z := l.to_ (fun j => x (swN a c j)) (fun i hi => by
      rw [← hx i hi]
      unfold dot
      rw [← sumN_sw ha hc]
      exact sumN_congr fun j _ => by
        show T i (swN a c j) * x (swN a c (swN a c j)) = T i (swN a c j) * x j
        rw [swN_swN]) v hv
    rw [← z]
    unfold dot
    rw [← sumN_sw ha hc]
    exact sumN_congr fun j _ => by
      show dot w v (colV w R (swN a c (swN a c j))) * x (swN a c j) = dot w v (colV w R j) * x (swN a c j)
      rw [swN_swN]
theorem Lat.rowSweep (l : Lat h w A T R) {a : Nat} (ha : a < h) {f : Nat → Int} (fa : f a = 0) : Lat h w A (fun i j => T i j - f i * T a j) R where
  gen := l.gen
  from_ := fun i hi => by
    obtain ⟨u, hu, e⟩ := l.from_ i hi
    obtain ⟨v, hv, e'⟩ := l.from_ a ha
    refine ⟨_, hu.addMul (- f i) hv, fun j hj => ?_⟩
    rw [addMul_dot, e j hj, e' j hj, Int.neg_mul]; omega
  to_ := fun c hc => l.to_ c fun i hi => by
    have z0 := hc a ha
    have e : ∀ i, dot w (fun j => T i j - f i * T a j) c = dot w (T i) c + - f i * dot w (T a) c := fun i => by
      rw [← addMul_dot]
      exact dot_congr (fun j _ => by rw [Int.neg_mul]; omega) fun _ _ => rfl
    rw [e, fa] at z0
    have z1 := hc i hi
    rw [e] at z1
    have z2 : dot w (T a) c = 0 := by simpa using z0
    rw [z2] at z1; simpa using z1
theorem colV_sweep {g : Nat → Int} {a j : Nat} : ∀ i, colV w (fun i j => R i j - g j * R i a) j i = colV w R j i + - g j * colV w R a i := fun i => by
  unfold colV
  split
  · show R i j - g j * R i a = R i j + - g j * R i a
    rw [Int.neg_mul]; omega
  · simp
theorem Lat.colSweep (l : Lat h w A T R) {a : Nat} (ha : a < w) {g : Nat → Int} (ga : g a = 0) : Lat h w A (fun i j => T i j - g j * T i a) fun i j => R i j - g j * R i a where
  gen := fun k hk => (l.gen k hk).trans fun x hx => by
    obtain ⟨j, hj, rfl⟩ := mem_colsV hx
    have ea : ∀ i, colV w (fun i j => R i j - g j * R i a) a i = colV w R a i := fun i => by rw [colV_sweep, ga]; simp
    refine ((Sp.mem (colsV_mem (R := fun i j => R i j - g j * R i a) hj)).addMul (g j) (.mem (colsV_mem ha))).of_eq fun i => ?_
    rw [ea, colV_sweep, Int.neg_mul]; omega
  from_ := fun i hi => by
    obtain ⟨u, hu, e⟩ := l.from_ i hi
    refine ⟨u, hu, fun j hj => ?_⟩
    rw [show colV w (fun i j => R i j - g j * R i a) j = fun i => colV w R j i + - g j * colV w R a i from funext colV_sweep, dot_addMul, ← e j hj, ← e a ha, Int.neg_mul]; omega
  to_ := fun c hc v hv => by
    have key : ∀ t : Vec, dot w (fun j => t j - g j * t a) c = dot w t fun j => c j - if j = a then dot w g c else 0 := fun t => by
      have e1 : dot w (fun j => t j - g j * t a) c = dot w t c + - t a * dot w g c := by
        rw [← addMul_dot]
        exact dot_congr (fun j _ => by rw [Int.neg_mul, Int.mul_comm (t a)]; omega) fun _ _ => rfl
      have e2 : dot w t (fun j => c j - if j = a then dot w g c else 0) = sumN w (fun j => t j * c j - if j = a then t a * dot w g c else 0) := sumN_congr fun j _ => by
        show t j * (c j - if j = a then dot w g c else 0) = t j * c j - if j = a then t a * dot w g c else 0
        by_cases q : j = a
        · subst q; rw [if_pos rfl, if_pos rfl, Int.mul_sub]
        · rw [if_neg q, if_neg q, Int.mul_sub]; simp
      rw [e1, e2, sumN_sub_one ha, Int.neg_mul]
      show dot w t c + _ = dot w t c - _
      omega
    have z := l.to_ (fun j => c j - if j = a then dot w g c else 0) (fun i hi => by rw [← key]; exact hc i hi) v hv
    rw [← key] at z
    rw [← z]
    refine dot_congr (fun j hj => ?_) fun _ _ => rfl
    rw [show colV w (fun i j => R i j - g j * R i a) j = fun i => colV w R j i + - g j * colV w R a i from funext colV_sweep, dot_addMul, Int.neg_mul]; omega
theorem Lat.addRow (l : Lat h w A T R) {a k : Nat} (ha : a < h) (hk : k < h) (ne : a ≠ k) : Lat h w A (setR T a fun j => T a j - -1 * T k j) R where
  gen := l.gen
  from_ := fun i hi => by
    by_cases q : i = a
    · subst q
      obtain ⟨u, hu, e⟩ := l.from_ i hi
      obtain ⟨v, hv, e'⟩ := l.from_ k hk
      refine ⟨_, hu.addMul 1 hv, fun j hj => ?_⟩
      rw [setR_same, addMul_dot, e j hj, e' j hj]; omega
    · rw [setR_ne _ _ q]; exact l.from_ i hi
  to_ := fun c hc => l.to_ c fun i hi => by
    have zk := hc k hk
    rw [setR_ne _ _ (Ne.symm ne)] at zk
    by_cases q : i = a
    · subst q
      have z := hc i hi
      rw [setR_same] at z
      have e : dot w (fun j => T i j - -1 * T k j) c = dot w (T i) c + 1 * dot w (T k) c := by
        rw [← addMul_dot]
        exact dot_congr (fun j _ => by omega) fun _ _ => rfl
      rw [e, zk] at z; omega
    · have z := hc i hi
      rw [setR_ne _ _ q] at z; exact z
end
structure Good (h w : Nat) (A : List Vec) (s : SM) : Prop where
  lat : Lat h w A s.T s.R
  dia : ∀ i j, i < h → j < w → i < s.a ∨ j < s.a → i ≠ j → s.T i j = 0
  pos : ∀ i, i < s.a → i < h ∧ i < w ∧ s.T i i ≠ 0
theorem facR_self (T : Mat) (a : Nat) : facR T a a = 0 := if_neg (by omega)
theorem facC_self (T : Mat) (a : Nat) : facC T a a = 0 := if_neg (by omega)
theorem swN_low {a r i : Nat} (h : i < a) (hr : a ≤ r) : swN a r i = i := by unfold swN; rw [if_neg (by omega), if_neg (by omega)]
theorem swN_high {a r i : Nat} (h : a ≤ i) (hr : a ≤ r) : a ≤ swN a r i := by unfold swN; repeat' split
                                                                              all_goals omega
theorem mid_pivot (s : SM) (r c : Nat) : (mid s r c).T s.a s.a = s.T r c := by
  have e : swT s r c s.a s.a = s.T r c := by
    unfold swT swapC swapR swN
    rw [if_pos rfl, if_pos rfl]
  show (swT s r c s.a s.a - facR (swT s r c) s.a s.a * _) - facC (swT s r c) s.a s.a * _ = _
  rw [facR_self, facC_self, e]; simp
theorem Good.midG {h w : Nat} {A : List Vec} {s : SM} (g : Good h w A s) {r c : Nat} (p : Pick h w s.T s.a r c) : Good h w A (mid s r c) := by
  have ha : s.a < h := Nat.lt_of_le_of_lt p.r0 p.r1
  have hb : s.a < w := Nat.lt_of_le_of_lt p.c0 p.c1
  have lo : ∀ i j, i < h → j < w → i < s.a → swT s r c i j = if i = j then s.T i i else 0 := fun i j hi hj hl => by
    unfold swT swapC swapR
    rw [swN_low hl p.r0]
    by_cases q : i = j
    · subst q; rw [if_pos rfl, swN_low hl p.c0]
    · rw [if_neg q]
      refine g.dia i _ hi (swN_lt hb p.c1 hj) (.inl hl) fun z => q ?_
      have : swN s.a c (swN s.a c j) = swN s.a c i := by rw [← z]
      rw [swN_swN, swN_low hl p.c0] at this; exact this.symm
  have lo2 : ∀ i j, i < h → j < w → s.a ≤ i → j < s.a → swT s r c i j = 0 := fun i j hi hj hl hm => by
    unfold swT swapC swapR
    rw [swN_low hm p.c0]
    have := swN_high hl p.r0
    exact g.dia _ j (swN_lt ha p.r1 hi) hj (.inr hm) (by omega)
  -- the entries of the new T in what is done
  have nT : ∀ i j, i < h → j < w → i < s.a ∨ j < s.a → (mid s r c).T i j = swT s r c i j := fun i j hi hj hl => by
    show (swT s r c i j - facR (swT s r c) s.a i * swT s r c s.a j) - facC (swT s r c) s.a j * (swT s r c i s.a - facR (swT s r c) s.a i * swT s r c s.a s.a) = _
    by_cases q : i < s.a
    · have z : facR (swT s r c) s.a i = 0 := if_neg (by omega)
      rw [z, lo i s.a hi hb q, if_neg (by omega)]; simp
    · have hj2 : j < s.a := by omega
      have z : facC (swT s r c) s.a j = 0 := if_neg (by omega)
      rw [z, lo2 s.a j ha hj (Nat.le_refl _) hj2]; simp
  refine ⟨?_, fun i j hi hj hl ne => ?_, fun i hi => ?_⟩
  · have l1 : Lat h w A (swT s r c) (swapC s.R s.a c) := (g.lat.rowSwap ha p.r1).colSwap hb p.c1
    exact (l1.rowSweep ha (facR_self _ _)).colSweep hb (facC_self _ _)
  · have hl' : i < s.a ∨ j < s.a := hl
    rw [nT i j hi hj hl']
    by_cases q : i < s.a
    · rw [lo i j hi hj q, if_neg ne]
    · exact lo2 i j hi hj (by omega) (by omega)
  · have hi' : i < s.a := hi
    obtain ⟨a, b, z⟩ := g.pos i hi'
    refine ⟨a, b, ?_⟩
    rw [nT i i a b (.inl hi'), lo i i a b hi', if_pos rfl]; exact z
theorem Good.step {h w : Nat} {A : List Vec} {s t : SM} (g : Good h w A s) (x : Stp h w s t) : Good h w A t := by
  cases x with
  | go p _ => exact g.midG p
  | add p n u =>
    rename_i r c i
    have m := g.midG p
    have ha : s.a < h := Nat.lt_of_le_of_lt p.r0 p.r1
    have lo : s.a < i := u.lo
    refine ⟨m.lat.addRow ha u.hi (show s.a ≠ i by omega), fun k j hk hj hl ne => ?_, fun k hk => ?_⟩
    · show setR (mid s r c).T s.a _ k j = 0
      by_cases q : k = s.a
      · subst q
        have hl' : s.a < s.a ∨ j < s.a := hl
        rw [setR_same]
        show (mid s r c).T s.a j - -1 * (mid s r c).T i j = 0
        rw [m.dia s.a j hk hj hl ne, m.dia i j u.hi hj (.inr (show j < s.a by omega)) (by omega)]; simp
      · rw [setR_ne _ _ q]; exact m.dia k j hk hj hl ne
    · have hk' : k < s.a := hk
      obtain ⟨a, b, z⟩ := m.pos k hk'
      refine ⟨a, b, ?_⟩
      show setR (mid s r c).T s.a _ k k ≠ 0
      rw [setR_ne _ _ (by omega)]; exact z
  | next p n u =>
    rename_i r c
    have m := g.midG p
    have ha : s.a < h := Nat.lt_of_le_of_lt p.r0 p.r1
    have hb : s.a < w := Nat.lt_of_le_of_lt p.c0 p.c1
    refine ⟨m.lat, fun k j hk hj hl ne => ?_, fun k hk => ?_⟩
    · have hl' : k < s.a + 1 ∨ j < s.a + 1 := hl
      by_cases q : k < s.a ∨ j < s.a
      · exact m.dia k j hk hj q ne
      · rcases hl' with z | z
        · obtain rfl : k = s.a := by omega
          exact n.2 j (show s.a < j by omega) hj
        · obtain rfl : j = s.a := by omega
          exact n.1 k (show s.a < k by omega) hk
    · have hk' : k < s.a + 1 := hk
      by_cases q : k < s.a
      · exact m.pos k q
      · obtain rfl : k = s.a := by omega
        exact ⟨ha, hb, by
          show (mid s r c).T s.a s.a ≠ 0
          rw [mid_pivot]; exact p.ne⟩
theorem SmRun.good {P : SM → Prop} {h w : Nat} {A : List Vec} {s t : SM} (x : SmRun P h w s t) : Good h w A s → Good h w A t ∧ Done h w t := by
  induction x with
  | done _ d => exact fun g => ⟨g, d⟩
  | more _ x _ ih => exact fun g => ih (g.step x)

/-! ### kernels -/
/-- A as a matrix: its rows, then zeros -/
def initM (A : List Vec) : SM where
  T := row A
  L := unitV
  R := unitV
  a := 0
theorem row_out {A : List Vec} {i : Nat} (h : A.length ≤ i) : row A i = fun _ => 0 := by
  unfold row
  rw [List.getD_eq_getElem?_getD, List.getElem?_eq_none h]; rfl
theorem unitV_comm (i j : Nat) : unitV i j = unitV j i := by
  unfold unitV
  by_cases h : i = j
  · rw [if_pos h, if_pos h.symm]
  · rw [if_neg h, if_neg (Ne.symm h)]
theorem colV_unit {w j : Nat} (h : j < w) : colV w unitV j = unitV j := by
  funext i
  unfold colV
  by_cases q : i < w
  · rw [if_pos q, unitV_comm]
  · rw [if_neg q]
    unfold unitV
    rw [if_neg (by omega)]
theorem initM_good {w : Nat} (A : List Vec) : Good A.length w A (initM A) where
  lat := {
    gen := fun k hk => by
      have z := colsV_mem (R := unitV) hk
      rw [colV_unit hk] at z
      exact .mem z
    from_ := fun i hi => ⟨row A i, .mem (row_mem hi), fun j hj => by
      show row A i j = dot w (row A i) (colV w unitV j)
      rw [colV_unit hj, dot_unit hj]⟩
    to_ := fun c hc v hv => by
      obtain ⟨i, hi, rfl⟩ := mem_row hv
      rw [← hc i hi]
      refine dot_congr (fun j hj => ?_) fun _ _ => rfl
      show dot w (row A i) (colV w unitV j) = row A i j
      rw [colV_unit hj, dot_unit hj] }
  dia := fun i j _ _ hl => by
    have : i < 0 ∨ j < 0 := hl
    omega
  pos := fun i hi => by
    have : i < 0 := hi
    omega
/-- the rows of the null form of A of width w, P at each loop head of the steps -/
def Null (P : SM → Prop) (w : Nat) (A N : List Vec) : Prop :=
  (A = [] ∧ N = (List.range w).map unitV) ∨ (A ≠ [] ∧ ∃ t, SmRun P A.length w (initM A) t ∧ N = formF w ((List.range' t.a (w - t.a)).map (colV w t.R)))
theorem Null.uniq {P Q : SM → Prop} {w : Nat} {A N M : List Vec} (x : Null P w A N) (y : Null Q w A M) : N = M := by
  rcases x with ⟨e, rfl⟩ | ⟨n, t, r, rfl⟩
  · rcases y with ⟨_, rfl⟩ | ⟨n, _⟩
    · rfl
    · exact absurd e n
  · rcases y with ⟨e, _⟩ | ⟨_, u, q, rfl⟩
    · exact absurd e n
    · rw [r.uniq q]
/-- what is true of null rows -/
structure NullP (w : Nat) (A N : List Vec) : Prop where
  supp : Supp w N
  zero : ∀ x ∈ N, ∀ v ∈ A, dot w v x = 0
  all : ∀ x : Vec, (∀ j, w ≤ j → x j = 0) → (∀ v ∈ A, dot w v x = 0) → Sp N x
  back : ∀ y : Vec, (∀ j, w ≤ j → y j = 0) → (∀ x ∈ N, dot w y x = 0) → ∃ k : Int, k ≠ 0 ∧ Sp A fun j => k * y j
  prim : Prim N w
  ech : ∃ ps, EchP N ps w
theorem asc_id {r : Nat} {s : Nat → Nat} (h : Asc r r s) : ∀ i, i < r → s i = i := by
  have lo : ∀ i, i < r → i ≤ s i := by
    intro i
    induction i with
    | zero => intro _; omega
    | succ i ih => intro hi; have := ih (by omega); have := h.2 i hi; omega
  have hi2 : ∀ d i, i + d + 1 = r → s i ≤ i := by
    intro d
    induction d with
    | zero => intro i e; have := h.1 i (by omega); omega
    | succ d ih => intro i e; have a := ih (i + 1) (by omega); have b := h.2 i (by omega); omega
  intro i hi
  have a := lo i hi
  have b := hi2 (r - 1 - i) i (by omega)
  omega
/-- a vector as the sum of unit vectors -/
theorem sp_units {w : Nat} {G : List Vec} (h : ∀ k, k < w → Sp G (unitV k)) {x : Vec} (hx : ∀ j, w ≤ j → x j = 0) : Sp G x := by
  have main : ∀ n, n ≤ w → Sp G fun j => if j < n then x j else 0 := by
    intro n
    induction n with
    | zero => exact fun _ => Sp.zero.of_eq fun j => (if_neg (by omega)).symm
    | succ n ih =>
      intro hn
      refine ((ih (by omega)).addMul (x n) (h n (by omega))).of_eq fun j => ?_
      unfold unitV
      by_cases e : n = j
      · subst e; rw [if_neg (by omega), if_pos rfl, if_pos (by omega)]; omega
      · rw [if_neg e]
        by_cases q : j < n
        · rw [if_pos q, if_pos (by omega)]; omega
        · rw [if_neg q, if_neg (by omega)]; omega
  refine (main w (Nat.le_refl _)).of_eq fun j => ?_
  by_cases q : j < w
  · rw [if_pos q]
  · rw [if_neg q, hx j (by omega)]
theorem row_range {w i : Nat} (h : i < w) : row ((List.range w).map unitV) i = unitV i := by
  unfold row
  rw [List.getD_eq_getElem?_getD, List.getElem?_map, List.getElem?_range h]; rfl
theorem unit_ech (w : Nat) : EchP ((List.range w).map unitV) (fun i => i) w := by
  have len : ((List.range w).map unitV).length = w := by simp
  refine ⟨fun i hi => ?_, fun i k hik _ => hik, fun i hi j hj => ?_, fun i hi => ?_, fun i k hik hk => ?_⟩
  · rw [len] at hi; exact hi
  · rw [len] at hi
    rw [row_range hi]
    unfold unitV
    have hj' : j < i := hj
    rw [if_neg (by omega)]
  · rw [len] at hi
    rw [row_range hi]
    unfold unitV
    rw [if_pos rfl]; decide
  · rw [len] at hk
    rw [row_range (by omega), row_range hk]
    unfold unitV
    rw [if_neg (by omega), if_pos rfl]
    exact ⟨Int.le_refl _, by decide⟩
theorem null_unit (w : Nat) : NullP w [] ((List.range w).map unitV) where
  supp := fun v hv j hj => by
    obtain ⟨i, hi, rfl⟩ := List.mem_map.mp hv
    have : i < w := by simpa using hi
    unfold unitV
    rw [if_neg (by omega)]
  zero := fun _ _ v hv => by simp at hv
  all := fun x hx _ => sp_units (fun k hk => .mem (List.mem_map.mpr ⟨k, by simpa using hk, rfl⟩)) hx
  back := fun y hy hz => ⟨1, by decide, Sp.zero.of_eq fun j => by
    by_cases q : j < w
    · have z := hz (unitV j) (List.mem_map.mpr ⟨j, by simpa using q, rfl⟩)
      rw [dot_unit q] at z
      rw [z]; rfl
    · rw [hy j (by omega)]; rfl⟩
  prim := fun d hd => by
    have len : ((List.range w).map unitV).length = w := by simp
    rw [len] at hd
    have z := hd (fun j => j) ⟨fun i hi => hi, fun i _ => by show i < i + 1; omega⟩
    rw [detF_congr (M' := fun i j => if i = j then 1 else 0) fun i j hi _ => by rw [row_range hi]; rfl, detF_id] at z
    exact z
  ech := ⟨_, unit_ech w⟩
/-- the columns from a on -/
def tailC (w : Nat) (t : SM) : List Vec := (List.range' t.a (w - t.a)).map (colV w t.R)
theorem mem_tailC {w : Nat} {t : SM} {v : Vec} : v ∈ tailC w t ↔ ∃ j, t.a ≤ j ∧ j < w ∧ v = colV w t.R j := by
  unfold tailC
  rw [List.mem_map]
  constructor
  · rintro ⟨j, hj, rfl⟩
    rw [List.mem_range'_1] at hj
    exact ⟨j, hj.1, by omega, rfl⟩
  · rintro ⟨j, h1, h2, rfl⟩
    exact ⟨j, by rw [List.mem_range'_1]; omega, rfl⟩
theorem tailC_supp (w : Nat) (t : SM) : Supp w (tailC w t) := fun v hv i hi => by
  obtain ⟨j, _, _, rfl⟩ := mem_tailC.mp hv
  exact colV_supp i hi
theorem tailC_len (w : Nat) (t : SM) : (tailC w t).length = w - t.a := by simp [tailC]
theorem dot_mul (w : Nat) (u v : Vec) (k : Int) : dot w (fun j => k * u j) v = k * dot w u v := by
  unfold dot
  rw [← sumN_mul]
  exact sumN_congr fun i _ => Int.mul_assoc _ _ _
theorem dot_self_unit {w j : Nat} (h : j < w) (t : Vec) : dot w t (fun i => if i = j then 1 else 0) = t j := by
  rw [← dot_unit h t]
  exact dot_congr (fun _ _ => rfl) fun i _ => by
    unfold unitV
    by_cases q : i = j
    · rw [if_pos q, if_pos q.symm]
    · rw [if_neg q, if_neg (Ne.symm q)]
section
variable {h w : Nat} {A : List Vec} {t : SM}
theorem Good.diag (g : Good h w A t) (d : Done h w t) {i j : Nat} (hi : i < h) (hj : j < w) (ne : i ≠ j ∨ t.a ≤ i) : t.T i j = 0 := by
  by_cases q : i < t.a ∨ j < t.a
  · rcases ne with ne | ne
    · exact g.dia i j hi hj q ne
    · exact g.dia i j hi hj q (by omega)
  · exact d i j (by omega) hi (by omega) hj
theorem Good.le (g : Good h w A t) : t.a ≤ w := by
  rcases Nat.lt_or_ge w t.a with z | z
  · have := (g.pos w z).2.1; omega
  · exact z
theorem Good.tail_zero (g : Good h w A t) (d : Done h w t) {j : Nat} (h1 : t.a ≤ j) (h2 : j < w) : ∀ v ∈ A, dot w v (colV w t.R j) = 0 := fun v hv => by
  have z := g.lat.to_ (fun i => if i = j then 1 else 0) (fun i hi => by
    rw [dot_self_unit h2]
    exact g.diag d hi h2 (by by_cases q : i = j; · right; omega
                             · left; exact q)) v hv
  rw [dot_self_unit h2] at z
  exact z
theorem Good.tail_all (g : Good h w A t) (d : Done h w t) {x : Vec} (hx : ∀ j, w ≤ j → x j = 0) (hz : ∀ v ∈ A, dot w v x = 0) : Sp (tailC w t) x := by
  have sx : Sp (colsV w t.R) x := sp_units g.lat.gen hx
  obtain ⟨c, hc⟩ := sx.coef
  rw [colsV_len] at hc
  have zero : ∀ i, i < t.a → c i = 0 := fun i hi => by
    obtain ⟨a, b, ne⟩ := g.pos i hi
    obtain ⟨u, hu, e⟩ := g.lat.from_ i a
    have z : dot w u x = 0 := by
      rw [dot_comm]
      exact dot_span (fun v hv => by rw [dot_comm]; exact hz v hv) hu
    have e2 : dot w u x = sumN w fun k => c k * dot w u (colV w t.R k) := by
      rw [show x = fun j => sumN w fun k => c k * row (colsV w t.R) k j from funext hc]
      unfold dot
      have : ∀ j, u j * sumN w (fun k => c k * row (colsV w t.R) k j) = sumN w fun k => c k * (u j * row (colsV w t.R) k j) := fun j => by
        rw [← sumN_mul]
        exact sumN_congr fun k _ => by rw [Int.mul_left_comm]
      rw [sumN_congr fun j _ => this j, sumN_swap]
      exact sumN_congr fun k hk => by rw [sumN_mul, colsV_row hk]
    rw [e2, sumN_one (k := i) b fun k hk ne' => by rw [← e k hk, g.diag d a hk (.inl (Ne.symm ne'))]; simp, ← e i b] at z
    rcases Int.mul_eq_zero.mp z with z | z
    · exact z
    · exact absurd z ne
  have main : ∀ n, n ≤ w → Sp (tailC w t) fun j => sumN n fun k => c k * colV w t.R k j := by
    intro n
    induction n with
    | zero => exact fun _ => Sp.zero
    | succ n ih =>
      intro hn
      by_cases q : n < t.a
      · exact (ih (by omega)).of_eq fun j => by simp only [sumN]; rw [zero n q]; simp
      · exact (ih (by omega)).addMul (c n) (.mem (mem_tailC.mpr ⟨n, by omega, by omega, rfl⟩))
  refine (main w (Nat.le_refl _)).of_eq fun j => ?_
  rw [hc j]
  exact sumN_congr fun k hk => by rw [colsV_row hk]
theorem Good.tail_back (g : Good h w A t) (hA : Supp w A) (d : Done h w t) {y : Vec} (hy : ∀ j, w ≤ j → y j = 0) (hz : ∀ j, t.a ≤ j → j < w → dot w y (colV w t.R j) = 0) : ∃ k : Int, k ≠ 0 ∧ Sp A fun j => k * y j := by
  have main : ∀ m, m ≤ t.a → ∃ (k : Int) (u : Vec), k ≠ 0 ∧ Sp A u ∧ ∀ j, j < w → j < m ∨ t.a ≤ j → dot w (fun i => k * y i + -1 * u i) (colV w t.R j) = 0 := by
    intro m
    induction m with
    | zero =>
      intro _
      refine ⟨1, fun _ => 0, by decide, .zero, fun j hj hl => ?_⟩
      refine Eq.trans ?_ (hz j (by omega) hj)
      exact dot_congr (fun i _ => by simp) fun _ _ => rfl
    | succ m ih =>
      intro hm
      obtain ⟨k, u, hk, hu, e⟩ := ih (by omega)
      obtain ⟨a, b, ne⟩ := g.pos m (by omega)
      obtain ⟨v, hv, e'⟩ := g.lat.from_ m a
      let x := dot w (fun i => k * y i + -1 * u i) (colV w t.R m)
      refine ⟨t.T m m * k, _, Int.mul_ne_zero ne hk, (hu.smul (t.T m m)).addMul x hv, fun j hj hl => ?_⟩
      have e2 : dot w (fun i => t.T m m * k * y i + -1 * (t.T m m * u i + x * v i)) (colV w t.R j) = t.T m m * dot w (fun i => k * y i + -1 * u i) (colV w t.R j) + -x * dot w v (colV w t.R j) := by
        rw [← dot_mul, ← addMul_dot]
        exact dot_congr (fun i _ => by grind) fun _ _ => rfl
      rw [e2, ← e' j hj]
      by_cases q : j = m
      · subst q
        show t.T j j * x + -x * t.T j j = 0
        grind
      · rw [e j hj (by omega), g.diag d a hj (.inl (Ne.symm q))]; simp
  obtain ⟨k, u, hk, hu, e⟩ := main t.a (Nat.le_refl _)
  refine ⟨k, hk, hu.of_eq fun j => ?_⟩
  by_cases q : j < w
  · have z := dot_span (u := fun i => k * y i + -1 * u i) (fun v hv => by
      obtain ⟨l, hl, rfl⟩ := mem_colsV hv
      exact e l hl (by omega)) (g.lat.gen j q)
    rw [dot_unit q] at z
    omega
  · rw [hu.supp hA j (by omega), hy j (by omega)]; simp
/-- the form of the tail has as many rows -/
theorem Good.tail_len (g : Good h w A t) : (formF w (tailC w t)).length = w - t.a := by
  have le := formF_len w (tailC w t)
  rw [tailC_len] at le
  rcases Nat.eq_or_lt_of_le le with e | lt
  · exact e
  · have ev := formF_eqv (tailC_supp w t)
    have unitD : detF w (row (colsV w t.R)) ∣ 1 := det_unit (colsV_len w t.R) fun i hi => ⟨unitV i, g.lat.gen i hi, fun j _ => rfl⟩
    have z : (0 : Int) ∣ detF (t.a + (w - t.a)) (row (colsV w t.R)) := dvd_laplace t.a _ fun c hc => by
      rw [det_few (G := formF w (tailC w t)) lt (R := fun i => row (colsV w t.R) (t.a + i)) fun i hi => ?_]
      · exact Int.dvd_refl 0
      · rw [colsV_row (by omega)]
        exact ev.1 _ (mem_tailC.mpr ⟨t.a + i, by omega, by omega, rfl⟩)
    have hl := g.le
    rw [show t.a + (w - t.a) = w by omega] at z
    have z2 := Int.zero_dvd.mp z
    rw [z2] at unitD
    exact absurd (Int.zero_dvd.mp unitD) (by decide)
theorem Good.tail_prim (g : Good h w A t) : Prim (formF w (tailC w t)) w := fun d hd => by
  have len := g.tail_len
  have ev := formF_eqv (tailC_supp w t)
  have unitD : detF w (row (colsV w t.R)) ∣ 1 := det_unit (colsV_len w t.R) fun i hi => ⟨unitV i, g.lat.gen i hi, fun j _ => rfl⟩
  refine Int.dvd_trans ?_ unitD
  have hl := g.le
  have e : t.a + (w - t.a) = w := by omega
  have z : d ∣ detF (t.a + (w - t.a)) (row (colsV w t.R)) := dvd_laplace t.a _ fun c hc => by
    rw [e] at hc
    refine dvd_span (G := formF w (tailC w t)) (R := fun i => row (colsV w t.R) (t.a + i)) (fun s hs => ?_) fun i hi => ?_
    · rw [len] at hs hd
      have id := asc_id hs
      rw [detF_congr (M' := fun i j => row (formF w (tailC w t)) i (c j)) fun i j hi _ => by rw [id i hi]]
      exact hd c hc
    · rw [colsV_row (by omega)]
      exact ev.1 _ (mem_tailC.mpr ⟨t.a + i, by omega, by omega, rfl⟩)
  rw [e] at z; exact z
theorem Good.null (g : Good h w A t) (hA : Supp w A) (d : Done h w t) : NullP w A (formF w (tailC w t)) := by
  have ev := formF_eqv (tailC_supp w t)
  refine ⟨formF_supp (tailC_supp w t), fun x hx v hv => ?_, fun x hx hz => ev.sp.mp (g.tail_all d hx hz), fun y hy hz => g.tail_back hA d hy fun j h1 h2 => ?_, g.tail_prim, formF_ech w _⟩
  · refine dot_span (fun u hu => ?_) (ev.2 x hx)
    obtain ⟨j, h1, h2, rfl⟩ := mem_tailC.mp hu
    exact g.tail_zero d h1 h2 v hv
  · exact dot_span hz (ev.1 _ (mem_tailC.mpr ⟨j, h1, h2, rfl⟩))
end
theorem Null.facts {P : SM → Prop} {w : Nat} {A N : List Vec} (x : Null P w A N) (hA : Supp w A) : NullP w A N := by
  rcases x with ⟨rfl, rfl⟩ | ⟨_, t, r, rfl⟩
  · exact null_unit w
  · obtain ⟨g, d⟩ := r.good (initM_good A)
    exact g.null hA d

/-! ### filled -/
structure FillP (w : Nat) (A W : List Vec) : Prop where
  supp : Supp w W
  over : ∀ v ∈ A, Sp W v
  back : ∀ v ∈ W, ∃ k : Int, k ≠ 0 ∧ Sp A fun j => k * v j
  full : ∀ (v : Vec) (k : Int), k ≠ 0 → (∀ j, w ≤ j → v j = 0) → Sp W (fun j => k * v j) → Sp W v
  prim : Prim W w
  ech : ∃ ps, EchP W ps w
theorem filled_facts {w : Nat} {A N W : List Vec} (hA : Supp w A) (n : NullP w A N) (m : NullP w N W) : FillP w A W where
  supp := m.supp
  over := fun v hv => m.all v (hA v hv) fun x hx => by rw [dot_comm]; exact n.zero x hx v hv
  back := fun v hv => n.back v (m.supp v hv) fun x hx => by rw [dot_comm]; exact m.zero v hv x hx
  full := fun v k hk hs h => m.all v hs fun x hx => by
    have z := dot_span (w := w) (u := x) (fun u hu => m.zero u hu x hx) h
    rw [dot_comm, dot_mul, dot_comm] at z
    rcases Int.mul_eq_zero.mp z with z | z
    · exact absurd z hk
    · exact z
  prim := m.prim
  ech := m.ech
end K17
end
section
set_option autoImplicit false
/-! KLawF: the law's own form, its rank; the law's equalities. Plain Lean. -/
namespace K17

/-! ### the law's form: the rows stay where they are -/
def nzs (c : Nat) (left : List Vec) : List Vec := left.filter fun v => v c ≠ 0
/-- the size of the least entry that is not 0, the first row that has it -/
def lzMin (c : Nat) (left : List Vec) : Nat := absAt c (euHead c (nzs c left))
def lzP (c : Nat) (left : List Vec) : Nat := left.findIdx fun v => absAt c v = lzMin c left
def lzStep (c : Nat) (left : List Vec) : List Vec := left.mapIdx fun i v => if i = lzP c left then v else lessV v (row left (lzP c left)) ((v c).fdiv (row left (lzP c left) c))
theorem lz_spec {c : Nat} {left : List Vec} (h : nzs c left ≠ []) : lzP c left < left.length ∧ absAt c (row left (lzP c left)) = lzMin c left ∧ lzMin c left ≠ 0 ∧ (∀ v ∈ left, v c ≠ 0 → lzMin c left ≤ absAt c v) ∧ ∀ i, i < lzP c left → absAt c (row left i) ≠ lzMin c left := by
  have hm := euHead_mem (c := c) h
  have hm2 := List.mem_filter.mp hm
  have ex : ∃ v ∈ left, decide (absAt c v = lzMin c left) = true := ⟨_, hm2.1, by simp [lzMin]⟩
  have lt : lzP c left < left.length := List.findIdx_lt_length.mpr ex
  have gp := List.findIdx_getElem (w := lt)
  refine ⟨lt, ?_, ?_, fun v hv hn => ?_, fun i hi => ?_⟩
  · unfold row
    rw [List.getD_eq_getElem?_getD, List.getElem?_eq_getElem lt]
    exact of_decide_eq_true gp
  · have n : euHead c (nzs c left) c ≠ 0 := by simpa using hm2.2
    unfold lzMin absAt
    omega
  · exact (amin_spec (absAt c) h).2.1 v (List.mem_filter.mpr ⟨hv, by simpa using hn⟩)
  · have np := List.not_of_lt_findIdx hi
    unfold row
    rw [List.getD_eq_getElem?_getD, List.getElem?_eq_getElem (by omega)]
    simpa using np
theorem lzStep_len (c : Nat) (left : List Vec) : (lzStep c left).length = left.length := by simp [lzStep]
theorem lzStep_row {c : Nat} {left : List Vec} {i : Nat} (h : i < left.length) : row (lzStep c left) i = if i = lzP c left then row left i else lessV (row left i) (row left (lzP c left)) ((row left i c).fdiv (row left (lzP c left) c)) := by
  have e : row left i = left[i] := by
    unfold row
    rw [List.getD_eq_getElem?_getD, List.getElem?_eq_getElem h]; rfl
  rw [e]
  unfold lzStep
  rw [row, List.getD_eq_getElem?_getD, List.getElem?_mapIdx, List.getElem?_eq_getElem h]
  rfl
theorem sumA_le_lt (f : Vec → Nat) : ∀ {l m : List Vec}, l.length = m.length → (∀ i, i < l.length → f (row l i) ≤ f (row m i)) → (∃ i, i < l.length ∧ f (row l i) < f (row m i)) → sumA f l < sumA f m
  | [], _, _, _, ⟨i, hi, _⟩ => by simp at hi
  | _ :: _, [], h, _, _ => by simp at h
  | v :: l, u :: m, h, hle, ⟨i, hi, hlt⟩ => by
    have le : ∀ {l m : List Vec}, l.length = m.length → (∀ i, i < l.length → f (row l i) ≤ f (row m i)) → sumA f l ≤ sumA f m := by
      intro l
      induction l with
      | nil => intro m _ _; simp [sumA]
      | cons v l ih =>
        intro m h hle
        cases m with
        | nil => simp at h
        | cons u m =>
          have a := hle 0 (by simp)
          have b := ih (m := m) (by simpa using h) fun i hi => hle (i + 1) (by simpa using hi)
          rw [row_zero, row_zero] at a
          simp only [sumA, List.map_cons, List.sum_cons] at b ⊢
          omega
    have a := hle 0 (by simp)
    rw [row_zero, row_zero] at a
    have tl : l.length = m.length := by simpa using h
    cases i with
    | zero =>
      rw [row_zero, row_zero] at hlt
      have b := le tl fun i hi => hle (i + 1) (by simpa using hi)
      simp only [sumA, List.map_cons, List.sum_cons] at b ⊢
      omega
    | succ i =>
      have b := sumA_le_lt f tl (fun i hi => hle (i + 1) (by simpa using hi)) ⟨i, by simpa using hi, hlt⟩
      simp only [sumA, List.map_cons, List.sum_cons] at b ⊢
      omega
theorem two_nz {c : Nat} : ∀ {left : List Vec}, 1 < (nzs c left).length → ∀ p : Nat, ∃ i, i < left.length ∧ i ≠ p ∧ row left i c ≠ 0
  | [], h, _ => by simp [nzs] at h
  | v :: r, h, p => by
    by_cases q : v c = 0
    · have h' : 1 < (nzs c r).length := by simpa [nzs, q] using h
      cases p with
      | zero =>
        obtain ⟨i, a, _, b⟩ := two_nz h' (r.length)
        exact ⟨i + 1, by simpa using a, by omega, b⟩
      | succ p =>
        obtain ⟨i, a, n, b⟩ := two_nz h' p
        exact ⟨i + 1, by simpa using a, by omega, b⟩
    · cases p with
      | zero =>
        have h' : 0 < (nzs c r).length := by simpa [nzs, q] using h
        obtain ⟨u, hu⟩ := List.exists_mem_of_length_pos h'
        obtain ⟨a, b⟩ := List.mem_filter.mp hu
        obtain ⟨i, hi, rfl⟩ := mem_row a
        exact ⟨i + 1, by simpa using hi, by omega, by rw [row_succ]; simpa using b⟩
      | succ p => exact ⟨0, by simp, by omega, q⟩
theorem lz_less {c : Nat} {left : List Vec} (h : 1 < (nzs c left).length) : sumA (absAt c) (lzStep c left) < sumA (absAt c) left := by
  have hne : nzs c left ≠ [] := by intro z; rw [z] at h; simp at h
  obtain ⟨lt, e, n0, least, _⟩ := lz_spec hne
  have hd : row left (lzP c left) c ≠ 0 := by unfold absAt at e; omega
  have each : ∀ i, i < left.length → i ≠ lzP c left → absAt c (row (lzStep c left) i) < lzMin c left := fun i hi ne => by
    rw [lzStep_row hi, if_neg ne, ← e]
    unfold absAt
    rw [lessV_mod]
    exact fm_lt hd
  refine sumA_le_lt _ (lzStep_len c left) (fun i hi => ?_) ?_
  · rw [lzStep_len] at hi
    by_cases q : i = lzP c left
    · rw [lzStep_row hi, if_pos q]; exact Nat.le_refl _
    · by_cases z : row left i c = 0
      · rw [lzStep_row hi, if_neg q]
        unfold absAt
        rw [lessV_mod, z, Int.zero_fmod]; exact Nat.le_refl _
      · have := each i hi q
        have := least _ (row_mem hi) z
        omega
  · obtain ⟨i, a, b, z⟩ := two_nz h (lzP c left)
    have := each i a b
    have := least _ (row_mem a) z
    exact ⟨i, by rw [lzStep_len]; exact a, by omega⟩
def lzRun (c : Nat) (left : List Vec) : List Vec := if h : 1 < (nzs c left).length then lzRun c (lzStep c left) else left
termination_by sumA (absAt c) left
decreasing_by exact lz_less h
theorem lzRun_more {c : Nat} {left : List Vec} (h : 1 < (nzs c left).length) : lzRun c left = lzRun c (lzStep c left) := by rw [lzRun, dif_pos h]
theorem lzRun_done {c : Nat} {left : List Vec} (h : ¬ 1 < (nzs c left).length) : lzRun c left = left := by rw [lzRun, dif_neg h]
theorem lzRun_ind {c : Nat} {J : List Vec → Prop} (step : ∀ left, 1 < (nzs c left).length → J left → J (lzStep c left)) : ∀ left, J left → J (lzRun c left) := by
  intro left
  induction left using lzRun.induct c with
  | case1 left h ih => intro j; rw [lzRun_more h]; exact ih (step left h j)
  | case2 left h => intro j; rw [lzRun_done h]; exact j
theorem lzRun_len {c : Nat} : ∀ left : List Vec, (nzs c (lzRun c left)).length ≤ 1 := by
  intro left
  induction left using lzRun.induct c with
  | case1 left h ih => rw [lzRun_more h]; exact ih
  | case2 left h => rw [lzRun_done h]; omega
def lzCol (c : Nat) (s : List Vec × List Vec) : List Vec × List Vec :=
  if nzs c (lzRun c s.1) = [] then (lzRun c s.1, s.2) else ((lzRun c s.1).filter fun v => v c = 0, colFound c (signed c (row (nzs c (lzRun c s.1)) 0)) s.2)
def lzUp (rows : List Vec) : Nat → List Vec × List Vec
  | 0 => (rows, [])
  | c + 1 => lzCol c (lzUp rows c)
def lawF (w : Nat) (rows : List Vec) : List Vec := (lzUp rows w).2
theorem lz_eqv {c : Nat} {left : List Vec} (h : 1 < (nzs c left).length) : Eqv left (lzStep c left) := by
  have hne : nzs c left ≠ [] := by intro z; rw [z] at h; simp at h
  obtain ⟨lt, _⟩ := lz_spec hne
  have hm : row left (lzP c left) ∈ lzStep c left := by
    have := row_mem (G := lzStep c left) (i := lzP c left) (by rw [lzStep_len]; exact lt)
    rw [lzStep_row lt, if_pos rfl] at this; exact this
  constructor
  · intro g hg
    obtain ⟨i, hi, rfl⟩ := mem_row hg
    by_cases q : i = lzP c left
    · rw [q]; exact .mem hm
    · refine Sp.unless (f := (row left i c).fdiv (row left (lzP c left) c)) (.mem ?_) (.mem hm)
      have := row_mem (G := lzStep c left) (i := i) (by rw [lzStep_len]; exact hi)
      rw [lzStep_row hi, if_neg q] at this; exact this
  · intro g hg
    obtain ⟨i, hi, rfl⟩ := mem_row hg
    rw [lzStep_len] at hi
    rw [lzStep_row hi]
    split
    · exact .mem (row_mem hi)
    · exact Sp.less (.mem (row_mem hi)) (.mem (row_mem lt)) _
theorem lzRun_eqv (c : Nat) (left : List Vec) : Eqv left (lzRun c left) := lzRun_ind (J := fun l => Eqv left l) (fun l h j => j.trans (lz_eqv h)) left (.refl _)
theorem Sp.zeros {c : Nat} {G : List Vec} (h : Zeros c G) {v : Vec} (hv : Sp G v) : ∀ j, j < c → v j = 0 := by
  induction hv with
  | zero => exact fun _ _ => rfl
  | step k hg _ ih =>
    intro j hj
    show _ + k * _ = (0 : Int)
    rw [ih j hj, h _ hg j hj]; simp
theorem lzRun_zeros {c : Nat} {left : List Vec} (h : Zeros c left) : Zeros c (lzRun c left) := fun v hv => ((lzRun_eqv c left).2 v hv).zeros h
theorem lz_cases (c : Nat) (left : List Vec) : nzs c (lzRun c left) = [] ∨ ∃ v, nzs c (lzRun c left) = [v] ∧ v c ≠ 0 ∧ v ∈ lzRun c left := by
  have l := lzRun_len (c := c) left
  have n : ∀ v ∈ nzs c (lzRun c left), v c ≠ 0 ∧ v ∈ lzRun c left := fun v hv => by
    obtain ⟨a, b⟩ := List.mem_filter.mp hv
    exact ⟨by simpa using b, a⟩
  generalize nzs c (lzRun c left) = hs at l n
  match hs, l, n with
  | [], _, _ => exact .inl rfl
  | [v], _, n => exact .inr ⟨v, rfl, n v (by simp)⟩
  | _ :: _ :: _, l, _ => simp at l
theorem lzCol_eqv (c : Nat) (s : List Vec × List Vec) : Eqv (s.2 ++ s.1) ((lzCol c s).2 ++ (lzCol c s).1) := by
  have a := (lzRun_eqv c s.1).left (C := s.2)
  unfold lzCol
  rcases lz_cases c s.1 with e | ⟨v, e, hv, hm⟩
  · rw [if_pos e]; exact a
  · rw [if_neg (by rw [e]; simp), e]
    refine a.trans ?_
    have b : Eqv (lzRun c s.1) ([v] ++ (lzRun c s.1).filter fun v => v c = 0) := Eqv.of_mem fun u => by
      rw [List.mem_append, List.mem_filter]
      constructor
      · intro hu
        by_cases z : u c = 0
        · exact .inr ⟨hu, by simpa using z⟩
        · have : u ∈ nzs c (lzRun c s.1) := List.mem_filter.mpr ⟨hu, by simpa using z⟩
          rw [e] at this; exact .inl this
      · rintro (z | z)
        · have : u = v := by simpa using z
          rw [this]; exact hm
        · exact z.1
    refine b.left.trans ?_
    rw [← List.append_assoc]
    exact Eqv.right ((signed_eqv c v).left.trans (colFound_eqv c _ _))
theorem lzUp_eqv (rows : List Vec) : ∀ c, Eqv rows ((lzUp rows c).2 ++ (lzUp rows c).1)
  | 0 => by simpa [lzUp] using Eqv.refl rows
  | c + 1 => (lzUp_eqv rows c).trans (lzCol_eqv c _)
theorem lzUp_ech (rows : List Vec) : ∀ c, (∃ ps, EchP (lzUp rows c).2 ps c) ∧ Zeros c (lzUp rows c).1
  | 0 => ⟨⟨fun _ => 0, ⟨fun i hi => by simp [lzUp] at hi, fun i k _ hk => by simp [lzUp] at hk, fun i hi => by simp [lzUp] at hi, fun i hi => by simp [lzUp] at hi, fun i k _ hk => by simp [lzUp] at hk⟩⟩, fun v _ j hj => by omega⟩
  | c + 1 => by
    obtain ⟨⟨ps, E⟩, Z⟩ := lzUp_ech rows c
    have zr := lzRun_zeros (c := c) Z
    show (∃ qs, EchP (lzCol c (lzUp rows c)).2 qs (c + 1)) ∧ Zeros (c + 1) (lzCol c (lzUp rows c)).1
    unfold lzCol
    rcases lz_cases c (lzUp rows c).1 with e | ⟨v, e, hv, hm⟩
    · rw [if_pos e]
      refine ⟨⟨ps, E.mono (by omega)⟩, fun u hu j hj => ?_⟩
      by_cases q : j = c
      · subst q
        refine Classical.byContradiction fun z => ?_
        have : u ∈ nzs j (lzRun j (lzUp rows j).1) := List.mem_filter.mpr ⟨hu, by simpa using z⟩
        rw [e] at this; simp at this
      · exact zr u hu j (by omega)
    · rw [if_neg (by rw [e]; simp), e]
      refine ⟨⟨_, colFound_ech E (signed_zeros (zr v hm)) (signed_pos hv)⟩, fun u hu j hj => ?_⟩
      obtain ⟨a, b⟩ := List.mem_filter.mp hu
      by_cases q : j = c
      · subst q; simpa using b
      · exact zr u a j (by omega)
theorem lawF_eqv {w : Nat} {rows : List Vec} (h : Supp w rows) : Eqv rows (lawF w rows) := by
  have e := lzUp_eqv rows w
  have z := (lzUp_ech rows w).2
  refine ⟨fun g hg => (e.1 g hg).trans fun v hv => ?_, fun g hg => e.2 g (List.mem_append_left _ hg)⟩
  rcases List.mem_append.mp hv with hv | hv
  · exact .mem hv
  · have s : Sp rows v := e.2 v (List.mem_append_right _ hv)
    refine Sp.zero.of_eq fun j => ?_
    by_cases q : j < w
    · exact (z v hv j q).symm
    · exact (s.supp h j (by omega)).symm
/-- the law's rank is the number of rows of the form -/
theorem lawF_len {w : Nat} {rows : List Vec} (h : Supp w rows) : (lawF w rows).length = (formF w rows).length := by
  obtain ⟨ps, E⟩ := (lzUp_ech rows w).1
  obtain ⟨qs, F⟩ := formF_ech w rows
  have e := lawF_eqv h
  have f := formF_eqv h
  have z := EchP.within E F (fun v hv => (e.2 v hv).trans f.1) fun v hv => ⟨1, by decide, ((f.2 v hv).trans e.1).of_eq fun j => by omega⟩
  exact z.1

/-! ### the law's equalities -/
/-- two null forms, one behind the other -/
def Fill (P : SM → Prop) (w : Nat) (A W : List Vec) : Prop := ∃ N, Null P w A N ∧ Null P w N W
theorem Fill.uniq {P Q : SM → Prop} {w : Nat} {A W V : List Vec} (x : Fill P w A W) (y : Fill Q w A V) : W = V := by
  obtain ⟨N, a, b⟩ := x
  obtain ⟨M, c, d⟩ := y
  obtain rfl := a.uniq c
  exact b.uniq d
theorem Fill.facts {P : SM → Prop} {w : Nat} {A W : List Vec} (x : Fill P w A W) (hA : Supp w A) : FillP w A W := by
  obtain ⟨N, a, b⟩ := x
  have n := a.facts hA
  exact filled_facts hA n (b.facts n.supp)
/-- contorted, made_by: the classes of the sums of rows -/
theorem contorted_eq {w : Nat} {A W : List Vec} (hA : Supp w A) (f : FillP w A W) : classesF w (formF w A) W 1 = sharedF A w (lawF w A).length := by
  obtain ⟨ps, hT⟩ := formF_ech w A
  obtain ⟨qs, hW⟩ := f.ech
  rw [lawF_len hA]
  exact classes_shared (formF_eqv hA) hT hW f.over f.back f.prim
theorem Supp.append {w : Nat} {A B : List Vec} (a : Supp w A) (b : Supp w B) : Supp w (A ++ B) := fun v hv => (List.mem_append.mp hv).elim (a v) (b v)
/-- parts_of -/
theorem parts_eq {w : Nat} {A B V1 V2 W : List Vec} (hA : Supp w A) (hB : Supp w B) (f1 : FillP w A V1) (f2 : FillP w B V2) (f : FillP w (A ++ B) W) :
    classesF w (formF w (V1 ++ V2)) W 1 = sharedF (V1 ++ V2) w (lawF w (V1 ++ V2)).length ∧ (∀ v ∈ V1 ++ V2, Sp W v) ∧ ∀ v ∈ W, ∃ k : Int, k ≠ 0 ∧ Sp (V1 ++ V2) fun j => k * v j := by
  have hs := f1.supp.append f2.supp
  have over : ∀ v ∈ V1 ++ V2, Sp W v := fun v hv => by
    rcases List.mem_append.mp hv with q | q
    · obtain ⟨k, hk, s⟩ := f1.back v q
      exact f.full v k hk (hs v hv) (s.trans fun u hu => f.over u (List.mem_append_left _ hu))
    · obtain ⟨k, hk, s⟩ := f2.back v q
      exact f.full v k hk (hs v hv) (s.trans fun u hu => f.over u (List.mem_append_right _ hu))
  have back : ∀ v ∈ W, ∃ k : Int, k ≠ 0 ∧ Sp (V1 ++ V2) fun j => k * v j := fun v hv => by
    obtain ⟨k, hk, s⟩ := f.back v hv
    refine ⟨k, hk, s.trans fun u hu => ?_⟩
    rcases List.mem_append.mp hu with q | q
    · exact (f1.over u q).mono fun _ h => List.mem_append_left _ h
    · exact (f2.over u q).mono fun _ h => List.mem_append_right _ h
  refine ⟨?_, over, back⟩
  obtain ⟨ps, hT⟩ := formF_ech w (V1 ++ V2)
  obtain ⟨qs, hW⟩ := f.ech
  rw [lawF_len hs]
  exact classes_shared (formF_eqv hs) hT hW over back f.prim
/-- parts_of of the same twice -/
theorem parts_same {w : Nat} {A V W : List Vec} (hA : Supp w A) (f1 : FillP w A V) (f : FillP w (A ++ A) W) : classesF w (formF w (V ++ V)) W 1 = 1 := by
  obtain ⟨e, over, back⟩ := parts_eq hA hA f1 f1 f
  have hs := f1.supp.append f1.supp
  rw [e, lawF_len hs]
  obtain ⟨ps, hT⟩ := formF_ech w (V ++ V)
  obtain ⟨qs, hW⟩ := f.ech
  obtain ⟨len, _⟩ := EchP.within hT hW (fun v hv => ((formF_eqv hs).2 v hv).trans over) fun v hv => by
    obtain ⟨k, hk, s⟩ := back v hv
    exact ⟨k, hk, (formF_eqv hs).sp.mp s⟩
  -- W lies in the span of V
  have inV : ∀ v ∈ W, Sp (V ++ V) v := fun v hv => by
    obtain ⟨k, hk, s⟩ := f.back v hv
    have s2 : Sp V v := f1.full v k hk (f.supp v hv) (s.trans fun u hu => f1.over u ((List.mem_append.mp hu).elim id id))
    exact s2.mono fun _ h => List.mem_append_left _ h
  have d1 : sharedF (V ++ V) w (formF w (V ++ V)).length ∣ 1 := by
    unfold sharedF
    split
    · refine f.prim _ fun c hc => ?_
      rw [← len] at hc ⊢
      exact dvd_minors (fun x hx => gcdL_dvd hx) (fun i hi => inV _ (row_mem (by omega))) hc
    · exact Int.dvd_refl 1
  exact nonneg_dvd_eq (gcdL_nonneg _) (by decide) d1 (Int.one_dvd _)
/-- three times the rows -/
def tripleV (v : Vec) : Vec := fun j => 3 * v j
theorem detF_scale (k : Int) : ∀ (r : Nat) (M : Nat → Nat → Int), detF r (fun i j => k * M i j) = k ^ r * detF r M
  | 0, _ => by simp [detF]
  | r + 1, M => by
    simp only [detF]
    rw [← sumN_mul]
    refine sumN_congr fun j _ => ?_
    rw [detF_scale k r (fun i l => M (i + 1) (skip j l)), Int.pow_succ]
    grind
theorem triple_len {w : Nat} {A : List Vec} (hA : Supp w A) : (formF w (A.map tripleV)).length = (formF w A).length := by
  have hB : Supp w (A.map tripleV) := fun v hv j hj => by
    obtain ⟨u, hu, rfl⟩ := List.mem_map.mp hv
    show 3 * u j = 0
    rw [hA u hu j hj]; rfl
  obtain ⟨ps, E⟩ := formF_ech w (A.map tripleV)
  obtain ⟨qs, F⟩ := formF_ech w A
  have e := formF_eqv hB
  have f := formF_eqv hA
  have up : ∀ v, Sp A v → Sp (A.map tripleV) fun j => 3 * v j := fun v hv => by
    induction hv with
    | zero => exact Sp.zero.of_eq fun j => rfl
    | step k hg _ ih =>
      rename_i v' g' _
      exact (Sp.step k (List.mem_map.mpr ⟨g', hg, rfl⟩) ih).of_eq fun j => by
        show 3 * v' j + k * (3 * g' j) = 3 * (v' j + k * g' j)
        grind
  exact (EchP.within E F (fun v hv => (e.2 v hv).trans fun u hu => by
    obtain ⟨x, hx, rfl⟩ := List.mem_map.mp hu
    exact (Sp.smul 3 (f.1 x hx))) fun v hv => ⟨3, by decide, (up v (f.2 v hv)).trans e.1⟩).1
theorem row_triple (A : List Vec) (i : Nat) (j : Nat) : row (A.map tripleV) i j = 3 * row A i j := by
  by_cases h : i < A.length
  · rw [row_map h]; rfl
  · rw [row_out (by simpa using h), row_out (by omega)]; rfl
theorem shared_triple (A : List Vec) (w r : Nat) : sharedF (A.map tripleV) w r = 3 ^ r * sharedF A w r := by
  unfold sharedF
  by_cases h : 0 < r
  · rw [if_pos h, if_pos h, ← gcdL_mul (by exact Int.pow_nonneg (by decide))]
    congr 1
    unfold minorsF
    rw [List.map_flatMap, List.length_map]
    congr 1
    funext ls
    rw [List.map_map]
    congr 1
    funext cs
    show detF r _ = 3 ^ r * detF r _
    rw [← detF_scale]
    exact detF_congr fun i j _ _ => row_triple A _ _
  · rw [if_neg h, if_neg h]
    have e : r = 0 := by omega
    subst e; rfl
theorem contorted_triple {w : Nat} {A W V : List Vec} (hA : Supp w A) (f : FillP w A W) (g : FillP w (A.map tripleV) V) :
    classesF w (formF w (A.map tripleV)) V 1 = 3 ^ (lawF w A).length * classesF w (formF w A) W 1 := by
  have hB : Supp w (A.map tripleV) := fun v hv j hj => by
    obtain ⟨u, hu, rfl⟩ := List.mem_map.mp hv
    show 3 * u j = 0
    rw [hA u hu j hj]; rfl
  rw [contorted_eq hB g, contorted_eq hA f, lawF_len hB, lawF_len hA, triple_len hA, shared_triple]
end K17
end
section
set_option autoImplicit false
/-! KSize0: sizes of the entries in one step towards the diagonal. Plain Lean. -/
namespace K17

theorem fdiv_le {x p : Int} (hp : p ≠ 0) : (x.fdiv p).natAbs ≤ x.natAbs := by
  have e := fm_def x p
  have l := fm_lt (x := x) hp
  have m : ((x.fdiv p) * p).natAbs = (x.fdiv p).natAbs * p.natAbs := Int.natAbs_mul _ _
  have h1 : ((x.fdiv p) * p).natAbs ≤ x.natAbs + (x.fmod p).natAbs := by omega
  rw [m] at h1
  have p1 : 1 ≤ p.natAbs := by omega
  refine Classical.byContradiction fun z => ?_
  have h2 : (x.natAbs + 1) * p.natAbs ≤ (x.fdiv p).natAbs * p.natAbs := Nat.mul_le_mul_right _ (by omega)
  have h3 : x.natAbs * 1 ≤ x.natAbs * p.natAbs := Nat.mul_le_mul_left _ p1
  rw [Nat.add_mul] at h2
  omega
/-- what the sweeps bring, by entries -/
structure Swept (a : Nat) (T U : Mat) : Prop where
  ne : T a a ≠ 0
  piv : U a a = T a a
  col : ∀ i, a < i → U i a = (T i a).fmod (T a a)
  row : ∀ j, a < j → U a j = (T a j).fmod (T a a)
  rest : ∀ i j, a < i → a < j → T a a * U i j = T a a * T i j - T i a * T a j + U i a * U a j
theorem swT_pivot (s : SM) (r c : Nat) : swT s r c s.a s.a = s.T r c := by
  unfold swT swapC swapR swN
  rw [if_pos rfl, if_pos rfl]
theorem mid_swept {h w : Nat} {s : SM} {r c : Nat} (p : Pick h w s.T s.a r c) : Swept s.a (swT s r c) (mid s r c).T := by
  have hp : swT s r c s.a s.a ≠ 0 := by rw [swT_pivot]; exact p.ne
  have fR : ∀ i, s.a < i → facR (swT s r c) s.a i = (swT s r c i s.a).fdiv (swT s r c s.a s.a) := fun i hi => if_pos hi
  have fC : ∀ j, s.a < j → facC (swT s r c) s.a j = (swT s r c s.a j).fdiv (swT s r c s.a s.a) := fun j hj => if_pos hj
  have def_ : ∀ i j, (mid s r c).T i j = (swT s r c i j - facR (swT s r c) s.a i * swT s r c s.a j) - facC (swT s r c) s.a j * (swT s r c i s.a - facR (swT s r c) s.a i * swT s r c s.a s.a) := fun _ _ => rfl
  have cc : ∀ i, s.a < i → (mid s r c).T i s.a = (swT s r c i s.a).fmod (swT s r c s.a s.a) := fun i hi => by
    rw [def_, facC_self, fR i hi, ← fm_def]; omega
  have rr : ∀ j, s.a < j → (mid s r c).T s.a j = (swT s r c s.a j).fmod (swT s r c s.a s.a) := fun j hj => by
    rw [def_, facR_self, fC j hj, ← fm_def, Int.zero_mul, Int.zero_mul, Int.sub_zero, Int.sub_zero]
  refine ⟨hp, ?_, cc, rr, fun i j hi hj => ?_⟩
  · rw [def_, facC_self, facR_self]; omega
  · rw [cc i hi, rr j hj, def_, fR i hi, fC j hj, ← fm_def, ← fm_def]
    generalize (swT s r c i s.a).fdiv (swT s r c s.a s.a) = f
    generalize (swT s r c s.a j).fdiv (swT s r c s.a s.a) = g
    grind
section
variable {a : Nat} {T U : Mat}
theorem Swept.col_lt (x : Swept a T U) {i : Nat} (h : a < i) : (U i a).natAbs < (T a a).natAbs := by rw [x.col i h]; exact fm_lt x.ne
theorem Swept.row_lt (x : Swept a T U) {j : Nat} (h : a < j) : (U a j).natAbs < (T a a).natAbs := by rw [x.row j h]; exact fm_lt x.ne
end
/-- entries of the rest that are left -/
def EB (a h w : Nat) (T : Mat) (E : Nat) : Prop := ∀ i j, a ≤ i → i < h → a ≤ j → j < w → (T i j).natAbs ≤ E
theorem EB.mono {a h w : Nat} {T : Mat} {E F : Nat} (x : EB a h w T E) (h' : E ≤ F) : EB a h w T F := fun i j h1 h2 h3 h4 => Nat.le_trans (x i j h1 h2 h3 h4) h'
theorem EB.swap {h w : Nat} {s : SM} {r c E : Nat} (x : EB s.a h w s.T E) (p : Pick h w s.T s.a r c) : EB s.a h w (swT s r c) E := fun i j h1 h2 h3 h4 => by
  have ha : s.a < h := Nat.lt_of_le_of_lt p.r0 p.r1
  have hb : s.a < w := Nat.lt_of_le_of_lt p.c0 p.c1
  exact x _ _ (swN_high h1 p.r0) (swN_lt ha p.r1 h2) (swN_high h3 p.c0) (swN_lt hb p.c1 h4)
/-- a bound by squares: what is p times the new entry -/
theorem Swept.rest_le {a h w : Nat} {T U : Mat} (x : Swept a T U) {E : Nat} (e : EB a h w T E) (ha : a < h) (hb : a < w) {i j : Nat} (hi : a < i) (hi2 : i < h) (hj : a < j) (hj2 : j < w) :
    (T a a).natAbs * (U i j).natAbs ≤ (T a a).natAbs * E + E * E + ((T a a).natAbs - 1) * ((T a a).natAbs - 1) := by
  have r := x.rest i j hi hj
  have e1 := e i j (by omega) hi2 (by omega) hj2
  have e2 := e i a (by omega) hi2 (by omega) hb
  have e3 := e a j (by omega) ha (by omega) hj2
  have l1 := x.col_lt hi
  have l2 := x.row_lt hj
  have n1 : (T a a).natAbs * (U i j).natAbs = (T a a * T i j - T i a * T a j + U i a * U a j).natAbs := by rw [← Int.natAbs_mul, r]
  have n2 : (T a a * T i j).natAbs ≤ (T a a).natAbs * E := by rw [Int.natAbs_mul]; exact Nat.mul_le_mul_left _ e1
  have n3 : (T i a * T a j).natAbs ≤ E * E := by rw [Int.natAbs_mul]; exact Nat.mul_le_mul e2 e3
  have n4 : (U i a * U a j).natAbs ≤ ((T a a).natAbs - 1) * ((T a a).natAbs - 1) := by rw [Int.natAbs_mul]; exact Nat.mul_le_mul (by omega) (by omega)
  rw [n1]
  omega
/-- L and R grow by a factor at a step -/
def MB (n : Nat) (M : Mat) (B : Nat) : Prop := ∀ i j, i < n → j < n → (M i j).natAbs ≤ B
theorem facR_le {T : Mat} {a i E : Nat} (hp : T a a ≠ 0) (h : (T i a).natAbs ≤ E) : (facR T a i).natAbs ≤ E := by
  unfold facR
  split
  · exact Nat.le_trans (fdiv_le hp) h
  · simp
theorem facC_le {T : Mat} {a j E : Nat} (hp : T a a ≠ 0) (h : (T a j).natAbs ≤ E) : (facC T a j).natAbs ≤ E := by
  unfold facC
  split
  · exact Nat.le_trans (fdiv_le hp) h
  · simp
theorem sub_mul_le {x f y : Int} {B E : Nat} (hx : x.natAbs ≤ B) (hf : f.natAbs ≤ E) (hy : y.natAbs ≤ B) : (x - f * y).natAbs ≤ (E + 1) * B := by
  have m : (f * y).natAbs ≤ E * B := by rw [Int.natAbs_mul]; exact Nat.mul_le_mul hf hy
  rw [Nat.add_mul, Nat.one_mul]
  omega
theorem facR_zero {T : Mat} {a i : Nat} (h : ¬ a < i) : facR T a i = 0 := if_neg h
theorem facC_zero {T : Mat} {a j : Nat} (h : ¬ a < j) : facC T a j = 0 := if_neg h
theorem mid_L {h w : Nat} {s : SM} {r c E B : Nat} (p : Pick h w s.T s.a r c) (e : EB s.a h w s.T E) (l : MB h s.L B) : MB h (mid s r c).L ((E + 1) * B) := fun i j hi hj => by
  have ha : s.a < h := Nat.lt_of_le_of_lt p.r0 p.r1
  have hb : s.a < w := Nat.lt_of_le_of_lt p.c0 p.c1
  have hp : swT s r c s.a s.a ≠ 0 := by rw [swT_pivot]; exact p.ne
  refine sub_mul_le (l _ _ (swN_lt ha p.r1 hi) hj) ?_ (l _ _ (swN_lt ha p.r1 ha) hj)
  by_cases q : s.a < i
  · exact facR_le hp (e.swap p i s.a (by omega) hi (Nat.le_refl _) hb)
  · rw [facR_zero q]; simp
theorem mid_R {h w : Nat} {s : SM} {r c E B : Nat} (p : Pick h w s.T s.a r c) (e : EB s.a h w s.T E) (l : MB w s.R B) : MB w (mid s r c).R ((E + 1) * B) := fun i j hi hj => by
  have ha : s.a < h := Nat.lt_of_le_of_lt p.r0 p.r1
  have hb : s.a < w := Nat.lt_of_le_of_lt p.c0 p.c1
  have hp : swT s r c s.a s.a ≠ 0 := by rw [swT_pivot]; exact p.ne
  refine sub_mul_le (l _ _ hi (swN_lt hb p.c1 hj)) ?_ (l _ _ hi (swN_lt hb p.c1 hb))
  by_cases q : s.a < j
  · exact facC_le hp (e.swap p s.a j (Nat.le_refl _) ha (by omega) hj)
  · rw [facC_zero q]; simp
theorem add_L {h : Nat} {s : SM} {i B : Nat} (ha : s.a < h) (hi : i < h) (l : MB h s.L B) : MB h (addRow s i).L (2 * B) := fun k j hk hj => by
  show (setR s.L s.a _ k j).natAbs ≤ _
  by_cases q : k = s.a
  · subst q
    rw [setR_same]
    have := l s.a j ha hj
    have := l i j hi hj
    omega
  · rw [setR_ne _ _ q]
    have := l k j hk hj
    omega
/-- .. in all: L and R at the next loop head -/
theorem Stp.grows {h w : Nat} {s t : SM} {E B : Nat} (x : Stp h w s t) (e : EB s.a h w s.T E) (l : MB h s.L B) (m : MB w s.R B) : MB h t.L (2 * ((E + 1) * B)) ∧ MB w t.R (2 * ((E + 1) * B)) := by
  have up : ∀ {n : Nat} {M : Mat} {B : Nat}, MB n M B → MB n M (2 * B) := fun x i j hi hj => Nat.le_trans (x i j hi hj) (by omega)
  cases x with
  | go p _ => exact ⟨up (mid_L p e l), up (mid_R p e m)⟩
  | add p _ u => exact ⟨add_L (Nat.lt_of_le_of_lt p.r0 p.r1) u.hi (mid_L p e l), up (mid_R p e m)⟩
  | next p _ _ => exact ⟨up (mid_L p e l), up (mid_R p e m)⟩
end K17
end
section
set_option autoImplicit false
/-! KSize1: minors of the rest that is left, by one step. Plain Lean. -/
namespace K17

def m2 (T : Mat) (i k j l : Nat) : Int := T i j * T k l - T i l * T k j
def det3 (T : Mat) (i k m j l n : Nat) : Int := T i j * (T k l * T m n - T k n * T m l) - T i l * (T k j * T m n - T k n * T m j) + T i n * (T k j * T m l - T k l * T m j)
def KB (a h w : Nat) (T : Mat) (K : Nat) : Prop := ∀ i k j l, a ≤ i → i < h → a ≤ k → k < h → a ≤ j → j < w → a ≤ l → l < w → (m2 T i k j l).natAbs ≤ K
def DB (a h w : Nat) (T : Mat) (D : Nat) : Prop := ∀ i k m j l n, a ≤ i → i < h → a ≤ k → k < h → a ≤ m → m < h → a ≤ j → j < w → a ≤ l → l < w → a ≤ n → n < w → (det3 T i k m j l n).natAbs ≤ D
theorem KB.mono {a h w : Nat} {T : Mat} {K F : Nat} (x : KB a h w T K) (h' : K ≤ F) : KB a h w T F := fun i k j l h1 h2 h3 h4 h5 h6 h7 h8 => Nat.le_trans (x i k j l h1 h2 h3 h4 h5 h6 h7 h8) h'
theorem KB.swap {h w : Nat} {s : SM} {r c K : Nat} (x : KB s.a h w s.T K) (p : Pick h w s.T s.a r c) : KB s.a h w (swT s r c) K := fun i k j l h1 h2 h3 h4 h5 h6 h7 h8 => by
  have ha : s.a < h := Nat.lt_of_le_of_lt p.r0 p.r1
  have hb : s.a < w := Nat.lt_of_le_of_lt p.c0 p.c1
  exact x _ _ _ _ (swN_high h1 p.r0) (swN_lt ha p.r1 h2) (swN_high h3 p.r0) (swN_lt ha p.r1 h4) (swN_high h5 p.c0) (swN_lt hb p.c1 h6) (swN_high h7 p.c0) (swN_lt hb p.c1 h8)
theorem DB.swap {h w : Nat} {s : SM} {r c K : Nat} (x : DB s.a h w s.T K) (p : Pick h w s.T s.a r c) : DB s.a h w (swT s r c) K := fun i k m j l n h1 h2 h3 h4 h5 h6 h7 h8 h9 h10 h11 h12 => by
  have ha : s.a < h := Nat.lt_of_le_of_lt p.r0 p.r1
  have hb : s.a < w := Nat.lt_of_le_of_lt p.c0 p.c1
  exact x _ _ _ _ _ _ (swN_high h1 p.r0) (swN_lt ha p.r1 h2) (swN_high h3 p.r0) (swN_lt ha p.r1 h4) (swN_high h5 p.r0) (swN_lt ha p.r1 h6) (swN_high h7 p.c0) (swN_lt hb p.c1 h8) (swN_high h9 p.c0) (swN_lt hb p.c1 h10) (swN_high h11 p.c0) (swN_lt hb p.c1 h12)
section
variable {a : Nat} {T U : Mat}
/-- minors with the pivot stay -/
theorem Swept.m_piv (x : Swept a T U) {i j : Nat} (hi : a < i) (hj : a < j) : m2 U a i a j = m2 T a i a j := by
  have r := x.rest i j hi hj
  unfold m2
  rw [x.piv, r]
  grind
theorem Swept.m_row (x : Swept a T U) {i j l : Nat} (hi : a < i) (hj : a < j) (hl : a < l) : T a a * m2 U a i j l = U a j * m2 T a i a l - U a l * m2 T a i a j := by
  have r1 := x.m_piv hi hj
  have r2 := x.m_piv hi hl
  rw [← r1, ← r2]
  unfold m2
  rw [x.piv]
  grind
theorem Swept.m_col (x : Swept a T U) {i k j : Nat} (hi : a < i) (hk : a < k) (hj : a < j) : T a a * m2 U i k a j = U i a * m2 T a k a j - U k a * m2 T a i a j := by
  have r1 := x.m_piv hi hj
  have r2 := x.m_piv hk hj
  rw [← r1, ← r2]
  unfold m2
  rw [x.piv]
  grind
/-- the minor of minors (J. Sylvester) -/
theorem sylv (T : Mat) (a i k j l : Nat) : m2 T a i a j * m2 T a k a l - m2 T a i a l * m2 T a k a j = T a a * det3 T a i k a j l := by
  unfold m2 det3
  grind
theorem Swept.m_rest (x : Swept a T U) {i k j l : Nat} (hi : a < i) (hk : a < k) (hj : a < j) (hl : a < l) :
    T a a * (T a a * m2 U i k j l) = T a a * det3 T a i k a j l + (U k a * U a l * m2 T a i a j + U i a * U a j * m2 T a k a l - U k a * U a j * m2 T a i a l - U i a * U a l * m2 T a k a j) := by
  rw [← sylv, ← x.m_piv hi hj, ← x.m_piv hi hl, ← x.m_piv hk hj, ← x.m_piv hk hl]
  unfold m2
  rw [← x.piv]
  grind
theorem Swept.det3_eq (x : Swept a T U) {i k j l : Nat} (hi : a < i) (hk : a < k) (hj : a < j) (hl : a < l) : det3 U a i k a j l = det3 T a i k a j l := by
  have s1 := sylv T a i k j l
  have s2 := sylv U a i k j l
  rw [x.m_piv hi hj, x.m_piv hi hl, x.m_piv hk hj, x.m_piv hk hl, x.piv, s1] at s2
  exact (Int.eq_of_mul_eq_mul_left x.ne s2).symm
theorem m2_swap (T : Mat) (i k j l : Nat) : m2 T i k j l = - m2 T k i j l := by unfold m2; grind
theorem m2_swapC (T : Mat) (i k j l : Nat) : m2 T i k j l = - m2 T i k l j := by unfold m2; grind
theorem m2_eqR (T : Mat) (i j l : Nat) : m2 T i i j l = 0 := by unfold m2; grind
theorem m2_eqC (T : Mat) (i k j : Nat) : m2 T i k j j = 0 := by unfold m2; grind
end
theorem natAbs_sub_le (x y : Int) : (x - y).natAbs ≤ x.natAbs + y.natAbs := by omega
/-- |p| m ≤ 2 (|p| - 1) K: m ≤ 2 K -/
theorem bound_two {p m x y u v : Int} {K : Nat} (hp : p ≠ 0) (e : p * m = x * u - y * v) (hx : x.natAbs < p.natAbs) (hy : y.natAbs < p.natAbs) (hu : u.natAbs ≤ K) (hv : v.natAbs ≤ K) : m.natAbs ≤ 2 * K := by
  have e1 : p.natAbs * m.natAbs = (x * u - y * v).natAbs := by rw [← Int.natAbs_mul, e]
  have b1 : (x * u).natAbs ≤ p.natAbs * K := by rw [Int.natAbs_mul]; exact Nat.mul_le_mul (by omega) hu
  have b2 : (y * v).natAbs ≤ p.natAbs * K := by rw [Int.natAbs_mul]; exact Nat.mul_le_mul (by omega) hv
  have b3 : p.natAbs * m.natAbs ≤ p.natAbs * (2 * K) := by
    rw [e1, Nat.mul_left_comm]
    have := natAbs_sub_le (x * u) (y * v)
    omega
  exact Nat.le_of_mul_le_mul_left b3 (by omega)
theorem prod_lt {x y p : Int} (hx : x.natAbs < p.natAbs) (hy : y.natAbs < p.natAbs) {u : Int} {K : Nat} (hu : u.natAbs ≤ K) : (x * y * u).natAbs ≤ p.natAbs * (p.natAbs * K) := by
  rw [Int.natAbs_mul, Int.natAbs_mul, Nat.mul_assoc]
  exact Nat.mul_le_mul (by omega) (Nat.mul_le_mul (by omega) hu)
section
variable {a h w : Nat} {T U : Mat} {K D E : Nat}
theorem Swept.kb (x : Swept a T U) (ha : a < h) (hb : a < w) (k : KB a h w T K) (d : ∀ i k j l, a < i → i < h → a < k → k < h → a < j → j < w → a < l → l < w → (det3 T a i k a j l).natAbs ≤ D) : KB a h w U (4 * K + D) := by
  have kp : ∀ i j, a < i → i < h → a < j → j < w → (m2 T a i a j).natAbs ≤ K := fun i j h1 h2 h3 h4 => k a i a j (Nat.le_refl _) ha (by omega) h2 (Nat.le_refl _) hb (by omega) h4
  -- rows a and i, any columns
  have rowA : ∀ i j l, a < i → i < h → a ≤ j → j < w → a ≤ l → l < w → (m2 U a i j l).natAbs ≤ 4 * K + D := fun i j l h1 h2 h3 h4 h5 h6 => by
    by_cases q : j = a
    · subst q
      by_cases q2 : l = j
      · subst q2; rw [m2_eqC]; simp
      · rw [x.m_piv h1 (show j < l by omega)]
        have := kp i l h1 h2 (by omega) h6
        omega
    · by_cases q2 : l = a
      · subst q2
        rw [m2_swapC, x.m_piv h1 (show l < j by omega)]
        have := kp i j h1 h2 (by omega) h4
        omega
      · have := bound_two x.ne (x.m_row h1 (show a < j by omega) (show a < l by omega)) (x.row_lt (by omega)) (x.row_lt (by omega)) (kp i l h1 h2 (by omega) h6) (kp i j h1 h2 (by omega) h4)
        omega
  intro i k' j l h1 h2 h3 h4 h5 h6 h7 h8
  by_cases q : i = a
  · subst q
    by_cases q2 : k' = i
    · subst q2; rw [m2_eqR]; simp
    · exact rowA k' j l (by omega) h4 h5 h6 h7 h8
  · by_cases q2 : k' = a
    · subst q2
      rw [m2_swap]
      have := rowA i j l (by omega) h2 h5 h6 h7 h8
      omega
    · -- both below
      by_cases c1 : j = a
      · subst c1
        by_cases c2 : l = j
        · subst c2; rw [m2_eqC]; simp
        · have := bound_two x.ne (x.m_col (show j < i by omega) (show j < k' by omega) (show j < l by omega)) (x.col_lt (by omega)) (x.col_lt (by omega)) (kp k' l (by omega) h4 (by omega) h8) (kp i l (by omega) h2 (by omega) h8)
          omega
      · by_cases c2 : l = a
        · subst c2
          rw [m2_swapC]
          have := bound_two x.ne (x.m_col (show l < i by omega) (show l < k' by omega) (show l < j by omega)) (x.col_lt (by omega)) (x.col_lt (by omega)) (kp k' j (by omega) h4 (by omega) h6) (kp i j (by omega) h2 (by omega) h6)
          omega
        · have e := x.m_rest (show a < i by omega) (show a < k' by omega) (show a < j by omega) (show a < l by omega)
          have dd := d i k' j l (by omega) h2 (by omega) h4 (by omega) h6 (by omega) h8
          have b1 := prod_lt (x.col_lt (show a < k' by omega)) (x.row_lt (show a < l by omega)) (kp i j (by omega) h2 (by omega) h6)
          have b2 := prod_lt (x.col_lt (show a < i by omega)) (x.row_lt (show a < j by omega)) (kp k' l (by omega) h4 (by omega) h8)
          have b3 := prod_lt (x.col_lt (show a < k' by omega)) (x.row_lt (show a < j by omega)) (kp i l (by omega) h2 (by omega) h8)
          have b4 := prod_lt (x.col_lt (show a < i by omega)) (x.row_lt (show a < l by omega)) (kp k' j (by omega) h4 (by omega) h6)
          have p1 : 1 ≤ (T a a).natAbs := by have := x.ne; omega
          have n1 : (T a a).natAbs * ((T a a).natAbs * (m2 U i k' j l).natAbs) = (T a a * (T a a * m2 U i k' j l)).natAbs := by rw [Int.natAbs_mul, Int.natAbs_mul]
          have n2 : (T a a * det3 T a i k' a j l).natAbs ≤ (T a a).natAbs * ((T a a).natAbs * D) := by
            rw [Int.natAbs_mul]
            refine Nat.mul_le_mul_left _ (Nat.le_trans dd ?_)
            have := Nat.mul_le_mul_right D p1
            omega
          have n3 : (T a a).natAbs * ((T a a).natAbs * (m2 U i k' j l).natAbs) ≤ (T a a).natAbs * ((T a a).natAbs * (4 * K + D)) := by
            have e5 : (T a a).natAbs * ((T a a).natAbs * (4 * K + D)) = 4 * ((T a a).natAbs * ((T a a).natAbs * K)) + (T a a).natAbs * ((T a a).natAbs * D) := by
              rw [Nat.mul_add, Nat.mul_add]
              congr 1
              rw [Nat.mul_left_comm (T a a).natAbs 4, Nat.mul_left_comm (T a a).natAbs 4]
            rw [n1, e, e5]
            omega
          exact Nat.le_of_mul_le_mul_left (Nat.le_of_mul_le_mul_left n3 (by omega)) (by omega)
/-- in a clean step -/
theorem Swept.kb_clean (x : Swept a T U) (ha : a < h) (hb : a < w) (k : KB a h w T K) (d : ∀ i k j l, a < i → i < h → a < k → k < h → a < j → j < w → a < l → l < w → (det3 T a i k a j l).natAbs ≤ D)
    (c1 : ∀ i, a < i → i < h → U i a = 0) (c2 : ∀ j, a < j → j < w → U a j = 0) : KB (a + 1) h w U D ∧ (D ≤ K → KB a h w U K) := by
  have kp : ∀ i j, a < i → i < h → a < j → j < w → (m2 T a i a j).natAbs ≤ K := fun i j h1 h2 h3 h4 => k a i a j (Nat.le_refl _) ha (by omega) h2 (Nat.le_refl _) hb (by omega) h4
  have p1 : 1 ≤ (T a a).natAbs := by have := x.ne; omega
  have rest : KB (a + 1) h w U D := fun i k' j l h1 h2 h3 h4 h5 h6 h7 h8 => by
    have e := x.m_rest (show a < i by omega) (show a < k' by omega) (show a < j by omega) (show a < l by omega)
    have dd := d i k' j l (by omega) h2 (by omega) h4 (by omega) h6 (by omega) h8
    rw [c1 i (by omega) h2, c1 k' (by omega) h4] at e
    have e2 : T a a * (T a a * m2 U i k' j l) = T a a * det3 T a i k' a j l := by rw [e]; simp
    have e3 := Int.eq_of_mul_eq_mul_left x.ne e2
    have n1 : (T a a).natAbs * (m2 U i k' j l).natAbs = (det3 T a i k' a j l).natAbs := by rw [← Int.natAbs_mul, e3]
    have := Nat.mul_le_mul_right (m2 U i k' j l).natAbs p1
    omega
  refine ⟨rest, fun dk i k' j l h1 h2 h3 h4 h5 h6 h7 h8 => ?_⟩
  have rowA : ∀ i j l, a < i → i < h → a ≤ j → j < w → a ≤ l → l < w → (m2 U a i j l).natAbs ≤ K := fun i j l h1 h2 h3 h4 h5 h6 => by
    by_cases q : j = a
    · subst q
      by_cases q2 : l = j
      · subst q2; rw [m2_eqC]; simp
      · rw [x.m_piv h1 (show j < l by omega)]
        exact kp i l h1 h2 (by omega) h6
    · by_cases q2 : l = a
      · subst q2
        rw [m2_swapC, x.m_piv h1 (show l < j by omega)]
        have := kp i j h1 h2 (by omega) h4
        omega
      · have z : m2 U a i j l = 0 := by
          unfold m2
          rw [c2 j (by omega) h4, c2 l (by omega) h6]; simp
        rw [z]; simp
  by_cases q : i = a
  · subst q
    by_cases q2 : k' = i
    · subst q2; rw [m2_eqR]; simp
    · exact rowA k' j l (by omega) h4 h5 h6 h7 h8
  · by_cases q2 : k' = a
    · subst q2
      rw [m2_swap]
      have := rowA i j l (by omega) h2 h5 h6 h7 h8
      omega
    · by_cases z1 : j = a
      · have z : m2 U i k' j l = 0 := by
          unfold m2
          rw [z1, c1 i (by omega) h2, c1 k' (by omega) h4]; simp
        rw [z]; simp
      · by_cases z2 : l = a
        · have z : m2 U i k' j l = 0 := by
            unfold m2
            rw [z2, c1 i (by omega) h2, c1 k' (by omega) h4]; simp
          rw [z]; simp
        · exact Nat.le_trans (rest i k' j l (by omega) h2 (by omega) h4 (by omega) h6 (by omega) h8) dk
/-- entries by the minors -/
theorem Swept.eb (x : Swept a T U) (ha : a < h) (hb : a < w) (k : KB a h w T K) : EB a h w U (K + (T a a).natAbs) := fun i j h1 h2 h3 h4 => by
  by_cases q : i = a
  · subst q
    by_cases q2 : j = i
    · subst q2; rw [x.piv]; omega
    · have := x.row_lt (show i < j by omega); omega
  · by_cases q2 : j = a
    · subst q2
      have := x.col_lt (show j < i by omega); omega
    · have e := x.rest i j (by omega) (by omega)
      have kk := k a i a j (Nat.le_refl _) ha (by omega) h2 (Nat.le_refl _) hb (by omega) h4
      have l1 := x.col_lt (show a < i by omega)
      have l2 := x.row_lt (show a < j by omega)
      have p1 : 1 ≤ (T a a).natAbs := by have := x.ne; omega
      have e2 : T a a * U i j = m2 T a i a j + U i a * U a j := by rw [e]; unfold m2; grind
      have n1 : (T a a).natAbs * (U i j).natAbs = (m2 T a i a j + U i a * U a j).natAbs := by rw [← Int.natAbs_mul, e2]
      have n2 : (U i a * U a j).natAbs ≤ (T a a).natAbs * (T a a).natAbs := by rw [Int.natAbs_mul]; exact Nat.mul_le_mul (by omega) (by omega)
      have n3 : (T a a).natAbs * (U i j).natAbs ≤ (T a a).natAbs * (K + (T a a).natAbs) := by
        rw [n1, Nat.mul_add]
        have := Nat.mul_le_mul_right K p1
        omega
      exact Nat.le_of_mul_le_mul_left n3 (by omega)
end
/-! ### three by three -/
theorem det3_rows (T : Mat) {x y z j l n i k m : Nat} (hi : i = x ∨ i = y ∨ i = z) (hk : k = x ∨ k = y ∨ k = z) (hm : m = x ∨ m = y ∨ m = z) : (det3 T i k m j l n).natAbs ≤ (det3 T x y z j l n).natAbs := by
  have zero : ∀ {d : Int} {N : Nat}, d = 0 → d.natAbs ≤ N := fun h => by rw [h]; simp
  have same : ∀ {d e : Int}, d = e → d.natAbs ≤ e.natAbs := fun h => by rw [h]; exact Nat.le_refl _
  have opp : ∀ {d e : Int}, d = - e → d.natAbs ≤ e.natAbs := fun h => by rw [h, Int.natAbs_neg]; exact Nat.le_refl _
  rcases hi with rfl | rfl | rfl <;> rcases hk with rfl | rfl | rfl <;> rcases hm with rfl | rfl | rfl <;>
    first
    | (refine zero ?_; unfold det3; grind; done)
    | (refine same ?_; unfold det3; grind; done)
    | (refine opp ?_; unfold det3; grind; done)
theorem det3_cols (T : Mat) {x y z j l n i k m : Nat} (hi : i = x ∨ i = y ∨ i = z) (hk : k = x ∨ k = y ∨ k = z) (hm : m = x ∨ m = y ∨ m = z) : (det3 T j l n i k m).natAbs ≤ (det3 T j l n x y z).natAbs := by
  have tr : ∀ i k m, det3 T j l n i k m = det3 (fun p q => T q p) i k m j l n := fun i k m => by unfold det3; grind
  rw [tr, tr]
  exact det3_rows _ hi hk hm
/-- rests of which all 3-minors are known by the first one -/
def Shape (a h w : Nat) : Prop := h ≤ a + 2 ∨ w ≤ a + 2 ∨ (h ≤ a + 3 ∧ w ≤ a + 3)
theorem det3_few {T : Mat} {a h w : Nat} {D : Nat} (s : Shape a h w) (d : a + 2 < h → a + 2 < w → (det3 T a (a + 1) (a + 2) a (a + 1) (a + 2)).natAbs ≤ D) : DB a h w T D := fun i k m j l n h1 h2 h3 h4 h5 h6 h7 h8 h9 h10 h11 h12 => by
  by_cases f : a + 2 < h ∧ a + 2 < w
  · have sh : h = a + 3 ∧ w = a + 3 := by unfold Shape at s; omega
    refine Nat.le_trans (det3_rows T (x := a) (y := a + 1) (z := a + 2) (by omega) (by omega) (by omega)) ?_
    exact Nat.le_trans (det3_cols T (x := a) (y := a + 1) (z := a + 2) (by omega) (by omega) (by omega)) (d f.1 f.2)
  · have z : det3 T i k m j l n = 0 := by
      rcases Nat.lt_or_ge (a + 2) h with q | q
      · have e : j = l ∨ j = n ∨ l = n := by omega
        rcases e with rfl | rfl | rfl <;> (unfold det3; grind)
      · have e : i = k ∨ i = m ∨ k = m := by omega
        rcases e with rfl | rfl | rfl <;> (unfold det3; grind)
    rw [z]; simp
theorem Swept.db {a h w : Nat} {T U : Mat} {D : Nat} (x : Swept a T U) (s : Shape a h w) (d : DB a h w T D) : DB a h w U D := det3_few s fun h1 h2 => by
  rw [x.det3_eq (by omega) (by omega) (by omega) (by omega)]
  exact d _ _ _ _ _ _ (by omega) (by omega) (by omega) (by omega) (by omega) (by omega) (by omega) (by omega) (by omega) (by omega) (by omega) (by omega)
end K17
end
section
set_option autoImplicit false
/-! KSize2: runs, a stage by minors (the pivot falls at each step). Plain Lean. -/
namespace K17

/-! ### there is a step -/
theorem exists_least (f : Nat → Nat → Nat) (P : Nat → Nat → Prop) (h : ∃ i j, P i j) : ∃ i j, P i j ∧ ∀ i' j', P i' j' → f i j ≤ f i' j' := by
  obtain ⟨i, j, p⟩ := h
  have main : ∀ n i j, P i j → f i j ≤ n → ∃ i j, P i j ∧ ∀ i' j', P i' j' → f i j ≤ f i' j' := by
    intro n
    induction n with
    | zero => exact fun i j p e => ⟨i, j, p, fun _ _ _ => by omega⟩
    | succ n ih =>
      intro i j p e
      by_cases q : ∃ i' j', P i' j' ∧ f i' j' < f i j
      · obtain ⟨i', j', p', lt⟩ := q
        exact ih i' j' p' (by omega)
      · exact ⟨i, j, p, fun i' j' p' => Nat.le_of_not_lt fun z => q ⟨i', j', p', z⟩⟩
  exact main _ i j p (Nat.le_refl _)
theorem pick_exists {h w : Nat} {T : Mat} {a : Nat} (n : ∃ i j, a ≤ i ∧ i < h ∧ a ≤ j ∧ j < w ∧ T i j ≠ 0) : ∃ r c, Pick h w T a r c := by
  obtain ⟨r, c, ⟨h1, h2, h3, h4, h5⟩, least⟩ := exists_least (fun i j => ((T i j).natAbs * h + i) * w + j) (fun i j => a ≤ i ∧ i < h ∧ a ≤ j ∧ j < w ∧ T i j ≠ 0) n
  refine ⟨r, c, h1, h2, h3, h4, h5, fun r' c' g1 g2 g3 g4 g5 => ?_⟩
  have l := least r' c' ⟨g1, g2, g3, g4, g5⟩
  have l' : ((T r c).natAbs * h + r) * w + c ≤ ((T r' c').natAbs * h + r') * w + c' := l
  have key : ∀ {x y p q n : Nat}, p < n → q < n → x * n + p ≤ y * n + q → x < y ∨ (x = y ∧ p ≤ q) := fun {x y p q n} hp hq e => by
    rcases Nat.lt_trichotomy x y with z | z | z
    · exact .inl z
    · subst z; exact .inr ⟨rfl, by omega⟩
    · have : (y + 1) * n ≤ x * n := Nat.mul_le_mul_right _ z
      rw [Nat.add_mul] at this
      omega
  unfold lexLe
  rcases key h4 g4 l' with z | ⟨z, zc⟩
  · rcases key h2 g2 (Nat.le_of_lt z) with y | ⟨y, yc⟩
    · exact .inl y
    · exact .inr ⟨y, by
        rcases Nat.eq_or_lt_of_le yc with u | u
        · rw [y, u] at z; omega
        · exact .inl u⟩
  · rcases key h2 g2 (Nat.le_of_eq z) with y | ⟨y, yc⟩
    · exact .inl y
    · rw [y] at z
      exact .inr ⟨y, by omega⟩
theorem stp_exists {h w : Nat} {s : SM} (n : ¬ Done h w s) : ∃ t, Stp h w s t := by
  have ne : ∃ i j, s.a ≤ i ∧ i < h ∧ s.a ≤ j ∧ j < w ∧ s.T i j ≠ 0 := Classical.byContradiction fun z => n fun i j h1 h2 h3 h4 => Classical.byContradiction fun y => z ⟨i, j, h1, h2, h3, h4, y⟩
  obtain ⟨r, c, p⟩ := pick_exists ne
  by_cases cl : Clean h w (mid s r c)
  · by_cases b : ∃ i, s.a < i ∧ i < h ∧ BadRow w (mid s r c) i
    · obtain ⟨i, _, ⟨h1, h2, h3⟩, least⟩ := exists_least (fun i _ => i) (fun i _ => s.a < i ∧ i < h ∧ BadRow w (mid s r c) i) (by obtain ⟨i, hi⟩ := b; exact ⟨i, 0, hi⟩)
      exact ⟨_, .add p cl ⟨h1, h2, h3, fun k k1 k2 k3 => by have := least k 0 ⟨k1, by omega, k3⟩; omega⟩⟩
    · exact ⟨_, .next p cl fun i h1 h2 h3 => b ⟨i, h1, h2, h3⟩⟩
  · exact ⟨_, .go p cl⟩
/-! ### runs in parts -/
inductive SmTo (P : SM → Prop) (h w : Nat) : SM → SM → Prop
  | refl {s : SM} : SmTo P h w s s
  | step {s t u : SM} (p : P s) (x : Stp h w s t) (r : SmTo P h w t u) : SmTo P h w s u
theorem SmTo.trans {P : SM → Prop} {h w : Nat} {s t u : SM} (x : SmTo P h w s t) (y : SmTo P h w t u) : SmTo P h w s u := by
  induction x with
  | refl => exact y
  | step p x _ ih => exact .step p x (ih y)
theorem SmTo.run {P : SM → Prop} {h w : Nat} {s t u : SM} (x : SmTo P h w s t) (y : SmRun P h w t u) : SmRun P h w s u := by
  induction x with
  | refl => exact y
  | step p x _ ih => exact .more p x (ih y)
/-- what the machine wants at each loop head: T below 2 ^ 8990, L and R below 2 ^ b with b at most 134,000,000 -/
structure Fit (h w : Nat) (s : SM) : Prop where
  t : ∀ i j, i < h → j < w → (s.T i j).natAbs < 2 ^ 8990
  lr : ∃ b, b ≤ 134000000 ∧ MB h s.L (2 ^ b) ∧ MB w s.R (2 ^ b)
/-- rows and columns that are done: off the diagonal 0, on it at most Z -/
structure DoneB (h w : Nat) (s : SM) (Z : Nat) : Prop where
  off : ∀ i j, i < h → j < w → i < s.a ∨ j < s.a → i ≠ j → s.T i j = 0
  on : ∀ i, i < s.a → i < h → i < w → (s.T i i).natAbs ≤ Z
theorem DoneB.mono {h w : Nat} {s : SM} {Z Y : Nat} (x : DoneB h w s Z) (q : Z ≤ Y) : DoneB h w s Y := ⟨x.off, fun i h1 h2 h3 => Nat.le_trans (x.on i h1 h2 h3) q⟩
theorem fit_of {h w : Nat} {s : SM} {E b : Nat} (d : DoneB h w s E) (e : EB s.a h w s.T E) (hE : E < 2 ^ 8990) (hb : b ≤ 134000000) (l : MB h s.L (2 ^ b)) (m : MB w s.R (2 ^ b)) : Fit h w s :=
  ⟨fun i j hi hj => by
    by_cases q : i < s.a ∨ j < s.a
    · by_cases ne : i = j
      · subst ne
        exact Nat.lt_of_le_of_lt (d.on i (by omega) hi hj) hE
      · rw [d.off i j hi hj q ne]
        exact Nat.lt_of_le_of_lt (Nat.zero_le _) hE
    · exact Nat.lt_of_le_of_lt (e i j (by omega) hi (by omega) hj) hE, b, hb, l, m⟩
/-- .. stays by steps -/
theorem mid_done {h w : Nat} {s : SM} {r c Z : Nat} (d : DoneB h w s Z) (p : Pick h w s.T s.a r c) : DoneB h w (mid s r c) Z := by
  have ha : s.a < h := Nat.lt_of_le_of_lt p.r0 p.r1
  have hb : s.a < w := Nat.lt_of_le_of_lt p.c0 p.c1
  have lo : ∀ i j, i < h → j < w → i < s.a → swT s r c i j = if i = j then s.T i i else 0 := fun i j hi hj hl => by
    unfold swT swapC swapR
    rw [swN_low hl p.r0]
    by_cases q : i = j
    · subst q; rw [if_pos rfl, swN_low hl p.c0]
    · rw [if_neg q]
      refine d.off i _ hi (swN_lt hb p.c1 hj) (.inl hl) fun z => q ?_
      have : swN s.a c (swN s.a c j) = swN s.a c i := by rw [← z]
      rw [swN_swN, swN_low hl p.c0] at this; exact this.symm
  have lo2 : ∀ i j, i < h → j < w → s.a ≤ i → j < s.a → swT s r c i j = 0 := fun i j hi hj hl hm => by
    unfold swT swapC swapR
    rw [swN_low hm p.c0]
    have := swN_high hl p.r0
    exact d.off _ j (swN_lt ha p.r1 hi) hj (.inr hm) (by omega)
  have nT : ∀ i j, i < h → j < w → i < s.a ∨ j < s.a → (mid s r c).T i j = swT s r c i j := fun i j hi hj hl => by
    show (swT s r c i j - facR (swT s r c) s.a i * swT s r c s.a j) - facC (swT s r c) s.a j * (swT s r c i s.a - facR (swT s r c) s.a i * swT s r c s.a s.a) = _
    by_cases q : i < s.a
    · have z : facR (swT s r c) s.a i = 0 := if_neg (by omega)
      rw [z, lo i s.a hi hb q, if_neg (by omega)]; simp
    · have hj2 : j < s.a := by omega
      have z : facC (swT s r c) s.a j = 0 := if_neg (by omega)
      rw [z, lo2 s.a j ha hj (Nat.le_refl _) hj2]; simp
  refine ⟨fun i j hi hj hl ne => ?_, fun i hl hi hj => ?_⟩
  · have hl' : i < s.a ∨ j < s.a := hl
    rw [nT i j hi hj hl']
    by_cases q : i < s.a
    · rw [lo i j hi hj q, if_neg ne]
    · exact lo2 i j hi hj (by omega) (by omega)
  · have hl' : i < s.a := hl
    rw [nT i i hi hj (.inl hl'), lo i i hi hj hl', if_pos rfl]
    exact d.on i hl' hi hj
theorem Stp.done {h w : Nat} {s t : SM} {Z E : Nat} (x : Stp h w s t) (d : DoneB h w s Z) (e : EB s.a h w s.T E) (hZ : Z ≤ E) : DoneB h w t E := by
  cases x with
  | go p _ => exact (mid_done d p).mono hZ
  | add p n u =>
    rename_i r c i
    have m := mid_done d p
    have lo : s.a < i := u.lo
    refine ⟨fun k j hk hj hl ne => ?_, fun k hl hk hj => ?_⟩
    · show setR (mid s r c).T s.a _ k j = 0
      by_cases q : k = s.a
      · subst q
        have hl' : s.a < s.a ∨ j < s.a := hl
        rw [setR_same]
        show (mid s r c).T s.a j - -1 * (mid s r c).T i j = 0
        rw [m.off s.a j hk hj hl ne, m.off i j u.hi hj (.inr (show j < s.a by omega)) (by omega)]; simp
      · rw [setR_ne _ _ q]; exact m.off k j hk hj hl ne
    · have hl' : k < s.a := hl
      show (setR (mid s r c).T s.a _ k k).natAbs ≤ E
      rw [setR_ne _ _ (by omega)]
      exact Nat.le_trans (m.on k hl' hk hj) hZ
  | next p n u =>
    rename_i r c
    have m := mid_done d p
    refine ⟨fun k j hk hj hl ne => ?_, fun k hl hk hj => ?_⟩
    · have hl' : k < s.a + 1 ∨ j < s.a + 1 := hl
      by_cases q : k < s.a ∨ j < s.a
      · exact m.off k j hk hj q ne
      · rcases hl' with z | z
        · obtain rfl : k = s.a := by omega
          exact n.2 j (show s.a < j by omega) hj
        · obtain rfl : j = s.a := by omega
          exact n.1 k (show s.a < k by omega) hk
    · have hl' : k < s.a + 1 := hl
      by_cases q : k < s.a
      · exact Nat.le_trans (m.on k q hk hj) hZ
      · obtain rfl : k = s.a := by omega
        show ((mid s r c).T s.a s.a).natAbs ≤ E
        rw [mid_pivot]
        exact e _ _ p.r0 p.r1 p.c0 p.c1
end K17
end
section
set_option autoImplicit false
/-! KSize3: a stage by minors: the pivot falls at each second step at least. Plain Lean. -/
namespace K17

section
variable {a h w i : Nat} {U : Mat} {K D E : Nat}
def addT (U : Mat) (a i : Nat) : Mat := setR U a fun j => U a j - -1 * U i j
theorem addT_a (U : Mat) (a i j : Nat) : addT U a i a j = U a j + U i j := by
  unfold addT
  rw [setR_same]; omega
theorem addT_ne (U : Mat) {a i k : Nat} (j : Nat) (h : k ≠ a) : addT U a i k j = U k j := by
  unfold addT
  rw [setR_ne _ _ h]
theorem add_eb (hi : a < i) (hi2 : i < h) (e : EB a h w U E) (c1 : ∀ i, a < i → i < h → U i a = 0) (c2 : ∀ j, a < j → j < w → U a j = 0) : EB a h w (addT U a i) E := fun k j h1 h2 h3 h4 => by
  by_cases q : k = a
  · subst q
    rw [addT_a]
    by_cases q2 : j = k
    · subst q2
      rw [c1 i hi hi2, Int.add_zero]
      exact e _ _ h1 h2 h3 h4
    · rw [c2 j (by omega) h4, Int.zero_add]
      exact e i j (by omega) hi2 h3 h4
  · rw [addT_ne _ _ q]
    exact e k j h1 h2 h3 h4
theorem add_kb (hi : a < i) (hi2 : i < h) (ha : a < h) (kb : KB a h w U K) (c1 : ∀ i, a < i → i < h → U i a = 0) (c2 : ∀ j, a < j → j < w → U a j = 0) : KB a h w (addT U a i) K := by
  have rowA : ∀ k j l, a < k → k < h → a ≤ j → j < w → a ≤ l → l < w → (m2 (addT U a i) a k j l).natAbs ≤ K := fun k j l h1 h2 h3 h4 h5 h6 => by
    have e : m2 (addT U a i) a k j l = m2 U a k j l + m2 U i k j l := by
      unfold m2
      rw [addT_a, addT_a, addT_ne _ _ (show k ≠ a by omega), addT_ne _ _ (show k ≠ a by omega)]
      grind
    rw [e]
    by_cases q : j = a ∨ l = a
    · have z : m2 U i k j l = 0 := by
        unfold m2
        rcases q with q | q
        · rw [q, c1 i hi hi2, c1 k h1 h2]; simp
        · rw [q, c1 i hi hi2, c1 k h1 h2]; simp
      rw [z, Int.add_zero]
      exact kb a k j l (Nat.le_refl _) ha (by omega) h2 h3 h4 h5 h6
    · have z : m2 U a k j l = 0 := by
        unfold m2
        rw [c2 j (by omega) h4, c2 l (by omega) h6]; simp
      rw [z, Int.zero_add]
      exact kb i k j l (by omega) hi2 (by omega) h2 h3 h4 h5 h6
  intro k m j l h1 h2 h3 h4 h5 h6 h7 h8
  by_cases q : k = a
  · subst q
    by_cases q2 : m = k
    · subst q2; rw [m2_eqR]; simp
    · exact rowA m j l (by omega) h4 h5 h6 h7 h8
  · by_cases q2 : m = a
    · subst q2
      rw [m2_swap]
      have := rowA k j l (by omega) h2 h5 h6 h7 h8
      omega
    · have e : m2 (addT U a i) k m j l = m2 U k m j l := by
        unfold m2
        rw [addT_ne _ _ q, addT_ne _ _ q, addT_ne _ _ q2, addT_ne _ _ q2]
      rw [e]
      exact kb k m j l h1 h2 h3 h4 h5 h6 h7 h8
theorem add_db (hi : a < i) (hi2 : i < h) (s : Shape a h w) (db : DB a h w U D) : DB a h w (addT U a i) D := det3_few s fun h1 h2 => by
  have i3 : i = a + 1 ∨ i = a + 2 := by unfold Shape at s; omega
  have e : det3 (addT U a i) a (a + 1) (a + 2) a (a + 1) (a + 2) = det3 U a (a + 1) (a + 2) a (a + 1) (a + 2) + det3 U i (a + 1) (a + 2) a (a + 1) (a + 2) := by
    unfold det3
    simp only [addT_a, addT_ne U _ (show a + 1 ≠ a by omega), addT_ne U _ (show a + 2 ≠ a by omega)]
    grind
  have z : det3 U i (a + 1) (a + 2) a (a + 1) (a + 2) = 0 := by
    rcases i3 with rfl | rfl <;> (unfold det3; grind)
  rw [e, z, Int.add_zero]
  exact db _ _ _ _ _ _ (by omega) (by omega) (by omega) (by omega) (by omega) (by omega) (by omega) (by omega) (by omega) (by omega) (by omega) (by omega)
end
/-- the pivot's row is not divisible by it -/
def Ready (a w : Nat) (T : Mat) : Prop := ∃ j, a < j ∧ j < w ∧ (T a j).fmod (T a a) ≠ 0
theorem swN_self (a i : Nat) : swN a a i = i := by
  unfold swN
  split
  · rename_i h; exact h.symm
  · rfl
theorem swT_self (s : SM) : swT s s.a s.a = s.T := by
  funext i j
  unfold swT swapC swapR
  rw [swN_self, swN_self]
theorem not_clean {h w : Nat} {s : SM} (n : ¬ Clean h w s) (ha : s.a < h) (hb : s.a < w) : ∃ i j, s.a ≤ i ∧ i < h ∧ s.a ≤ j ∧ j < w ∧ s.T i j ≠ 0 ∧ ((i = s.a ∧ s.a < j) ∨ (j = s.a ∧ s.a < i)) := Classical.byContradiction fun z => n ⟨fun i h1 h2 => Classical.byContradiction fun y => z ⟨i, s.a, by omega, h2, Nat.le_refl _, hb, y, .inr ⟨rfl, h1⟩⟩,
  fun j h1 h2 => Classical.byContradiction fun y => z ⟨s.a, j, Nat.le_refl _, ha, by omega, h2, y, .inl ⟨rfl, h1⟩⟩⟩
/-- behind a step that is not clean the pivot is less -/
theorem go_less {h w : Nat} {s : SM} {r c r' c' : Nat} (p : Pick h w s.T s.a r c) (n : ¬ Clean h w (mid s r c)) (p' : Pick h w (mid s r c).T s.a r' c') : ((mid s r c).T r' c').natAbs < (s.T r c).natAbs := by
  have x := mid_swept p
  have ha : s.a < h := Nat.lt_of_le_of_lt p.r0 p.r1
  have hb : s.a < w := Nat.lt_of_le_of_lt p.c0 p.c1
  obtain ⟨i, j, h1, h2, h3, h4, h5, h6⟩ := not_clean n ha hb
  have l := p'.least i j h1 h2 h3 h4 h5
  have lt : ((mid s r c).T i j).natAbs < (swT s r c s.a s.a).natAbs := by
    rcases h6 with ⟨e, q⟩ | ⟨e, q⟩
    · subst e; exact x.row_lt q
    · subst e; exact x.col_lt q
  rw [swT_pivot] at lt
  unfold lexLe at l
  omega
theorem pow5_step {K K' v v' C : Nat} (h : K * 5 ^ v ≤ C) (hK : K' ≤ 5 * K) (hv : v' < v) : K' * 5 ^ v' ≤ C := by
  obtain ⟨u, rfl⟩ : ∃ u, v = u + 1 := ⟨v - 1, by omega⟩
  have h1 : 5 ^ v' ≤ 5 ^ u := Nat.pow_le_pow_right (by decide) (by omega)
  have h2 := Nat.mul_le_mul hK h1
  have h3 : K * 5 ^ (u + 1) = 5 * K * 5 ^ u := by rw [Nat.pow_succ]; grind
  omega
theorem pow5_same {K v v' C : Nat} (h : K * 5 ^ v ≤ C) (hv : v' ≤ v) : K * 5 ^ v' ≤ C := Nat.le_trans (Nat.mul_le_mul_left _ (Nat.pow_le_pow_right (by decide) hv)) h
theorem grow_pow {E e b : Nat} (h : E + 1 ≤ 2 ^ e) : 2 * ((E + 1) * 2 ^ b) ≤ 2 ^ (b + (e + 1)) := by
  have := Nat.mul_le_mul_right (2 ^ b) h
  have e2 : 2 ^ (b + (e + 1)) = 2 * (2 ^ e * 2 ^ b) := by
    rw [Nat.pow_add, Nat.pow_succ]; grind
  omega
theorem MB.mono {n : Nat} {M : Mat} {B C : Nat} (x : MB n M B) (h : B ≤ C) : MB n M C := fun i j hi hj => Nat.le_trans (x i j hi hj) h
/-- THE STAGE: to the next place of the diagonal, or to the end -/
theorem beta {a h w : Nat} (sh : Shape a h w) {C P E D e top : Nat} (hC : C + P ≤ E) (hE : E < 2 ^ 8990) (he : E + 1 ≤ 2 ^ e) (htop : top ≤ 134000000) :
    ∀ (n : Nat) (s : SM) (K b : Nat), s.a = a → DoneB h w s E → EB a h w s.T E → KB a h w s.T K → DB a h w s.T D → D ≤ K →
      (∀ r c, Pick h w s.T a r c → (s.T r c).natAbs ≤ P ∧ K * 5 ^ (s.T r c).natAbs ≤ C ∧ (2 * (s.T r c).natAbs + 1 ≤ n ∨ (2 * (s.T r c).natAbs ≤ n ∧ r = a ∧ c = a ∧ Ready a w s.T))) →
      MB h s.L (2 ^ b) → MB w s.R (2 ^ b) → b + n * (e + 1) ≤ top →
      ∃ t, SmTo (Fit h w) h w s t ∧ (Done h w t ∨ (t.a = a + 1 ∧ KB (a + 1) h w t.T D)) ∧ DoneB h w t E ∧ EB t.a h w t.T E ∧ MB h t.L (2 ^ top) ∧ MB w t.R (2 ^ top) := by
  intro n
  induction n with
  | zero =>
    intro s K b sa d eb kb db dk pk l r tp
    have dn : Done h w s := Classical.byContradiction fun z => by
      obtain ⟨i, j, hij⟩ : ∃ i j, s.a ≤ i ∧ i < h ∧ s.a ≤ j ∧ j < w ∧ s.T i j ≠ 0 := Classical.byContradiction fun y => z fun i j h1 h2 h3 h4 => Classical.byContradiction fun x => y ⟨i, j, h1, h2, h3, h4, x⟩
      obtain ⟨r', c', p⟩ := pick_exists (a := a) ⟨i, j, by omega, hij.2.1, by omega, hij.2.2.2.1, hij.2.2.2.2⟩
      have := (pk r' c' p).2.2
      have := p.ne
      omega
    have up : (2 : Nat) ^ b ≤ 2 ^ top := Nat.pow_le_pow_right (by decide) (by omega)
    exact ⟨s, .refl, .inl dn, d, by rw [sa]; exact eb, l.mono up, r.mono up⟩
  | succ n ih =>
    intro s K b sa d eb kb db dk pk l r tp
    subst sa
    have up : (2 : Nat) ^ b ≤ 2 ^ top := Nat.pow_le_pow_right (by decide) (by omega)
    by_cases dn : Done h w s
    · exact ⟨s, .refl, .inl dn, d, eb, l.mono up, r.mono up⟩
    · obtain ⟨t, st⟩ := stp_exists dn
      have fit : Fit h w s := fit_of d eb hE (show b ≤ 134000000 by omega) l r
      have d' := st.done d eb (Nat.le_refl _)
      obtain ⟨l', r'⟩ := st.grows eb l r
      have gp := grow_pow (b := b) he
      have l2 := l'.mono gp
      have r2 := r'.mono gp
      have tp' : b + (e + 1) + n * (e + 1) ≤ top := by
        rw [Nat.add_mul] at tp; omega
      cases st with
      | go p nc =>
        rename_i pr pc
        obtain ⟨q1, q2, q3⟩ := pk _ _ p
        have ha : s.a < h := Nat.lt_of_le_of_lt p.r0 p.r1
        have hb : s.a < w := Nat.lt_of_le_of_lt p.c0 p.c1
        have x := mid_swept p
        have kbs := kb.swap p
        have dbs := db.swap p
        have eb' : EB s.a h w (mid s pr pc).T E := (x.eb ha hb kbs).mono (by
          rw [swT_pivot]
          have : K ≤ K * 5 ^ (s.T pr pc).natAbs := Nat.le_mul_of_pos_right _ (Nat.pow_pos (by decide))
          omega)
        have kb' := x.kb ha hb kbs (D := D) fun i k j l h1 h2 h3 h4 h5 h6 h7 h8 => dbs _ _ _ _ _ _ (Nat.le_refl _) ha (by omega) h2 (by omega) h4 (Nat.le_refl _) hb (by omega) h6 (by omega) h8
        obtain ⟨t, a1, a2, a3, a4, a5, a6⟩ := ih (mid s pr pc) (4 * K + D) (b + (e + 1)) rfl d' eb' kb' (x.db sh dbs) (by omega) (fun r' c' p' => by
          have lt := go_less p nc p'
          exact ⟨by omega, pow5_step q2 (by omega) lt, .inl (by omega)⟩) l2 r2 tp'
        exact ⟨t, .step fit (.go p nc) a1, a2, a3, a4, a5, a6⟩
      | add p cl u =>
        rename_i pr pc k
        obtain ⟨q1, q2, q3⟩ := pk _ _ p
        have ha : s.a < h := Nat.lt_of_le_of_lt p.r0 p.r1
        have hb : s.a < w := Nat.lt_of_le_of_lt p.c0 p.c1
        have x := mid_swept p
        have kbs := kb.swap p
        have dbs := db.swap p
        have klo : s.a < k := u.lo
        have n2 : 2 * (s.T pr pc).natAbs ≤ n := by
          rcases q3 with z | ⟨z, rfl, rfl, j, j1, j2, j3⟩
          · omega
          · refine absurd (cl.2 j j1 j2) ?_
            show (mid s s.a s.a).T s.a j ≠ 0
            rw [x.row j j1, swT_self]; exact j3
        have c1 : ∀ i, s.a < i → i < h → (mid s pr pc).T i s.a = 0 := cl.1
        have c2 : ∀ j, s.a < j → j < w → (mid s pr pc).T s.a j = 0 := cl.2
        have eb' : EB s.a h w (mid s pr pc).T E := (x.eb ha hb kbs).mono (by
          rw [swT_pivot]
          have : K ≤ K * 5 ^ (s.T pr pc).natAbs := Nat.le_mul_of_pos_right _ (Nat.pow_pos (by decide))
          omega)
        have kbc := (x.kb_clean ha hb kbs (D := D) (fun i k j l h1 h2 h3 h4 h5 h6 h7 h8 => dbs _ _ _ _ _ _ (Nat.le_refl _) ha (by omega) h2 (by omega) h4 (Nat.le_refl _) hb (by omega) h6 (by omega) h8) c1 c2).2 dk
        have taa : addT (mid s pr pc).T s.a k s.a s.a = s.T pr pc := by
          rw [addT_a, c1 k klo u.hi, Int.add_zero, mid_pivot]
        obtain ⟨t, a1, a2, a3, a4, a5, a6⟩ := ih (addRow (mid s pr pc) k) K (b + (e + 1)) rfl d' (add_eb klo u.hi eb' c1 c2) (add_kb klo u.hi ha kbc c1 c2) (add_db klo u.hi sh (x.db sh dbs)) dk (fun r' c' p' => by
          have lst := p'.least s.a s.a (Nat.le_refl _) ha (Nat.le_refl _) hb (by
            show addT (mid s pr pc).T s.a k s.a s.a ≠ 0
            rw [taa]; exact p.ne)
          have lst' : lexLe ((addRow (mid s pr pc) k).T r' c').natAbs r' c' (addT (mid s pr pc).T s.a k s.a s.a).natAbs s.a s.a := lst
          rw [taa] at lst'
          unfold lexLe at lst'
          have r0 := p'.r0
          have c0 := p'.c0
          refine ⟨by omega, pow5_same q2 (by omega), ?_⟩
          by_cases lt : ((addRow (mid s pr pc) k).T r' c').natAbs < (s.T pr pc).natAbs
          · exact .inl (by omega)
          · refine .inr ⟨by omega, by omega, by omega, ?_⟩
            obtain ⟨j, j1, j2, j3⟩ := u.bad
            refine ⟨j, j1, j2, ?_⟩
            show (addT (mid s pr pc).T s.a k s.a j).fmod (addT (mid s pr pc).T s.a k s.a s.a) ≠ 0
            have j1' : s.a < j := j1
            have j3' : ((mid s pr pc).T k j).fmod ((mid s pr pc).T s.a s.a) ≠ 0 := j3
            rw [addT_a, addT_a, c2 j j1' j2, c1 k klo u.hi, Int.zero_add, Int.add_zero]
            exact j3') l2 r2 tp'
        exact ⟨t, .step fit (.add p cl u) a1, a2, a3, a4, a5, a6⟩
      | next p cl u =>
        rename_i pr pc
        obtain ⟨q1, q2, q3⟩ := pk _ _ p
        have ha : s.a < h := Nat.lt_of_le_of_lt p.r0 p.r1
        have hb : s.a < w := Nat.lt_of_le_of_lt p.c0 p.c1
        have x := mid_swept p
        have kbs := kb.swap p
        have dbs := db.swap p
        have eb' : EB s.a h w (mid s pr pc).T E := (x.eb ha hb kbs).mono (by
          rw [swT_pivot]
          have : K ≤ K * 5 ^ (s.T pr pc).natAbs := Nat.le_mul_of_pos_right _ (Nat.pow_pos (by decide))
          omega)
        have kbc := (x.kb_clean ha hb kbs (D := D) (fun i k j l h1 h2 h3 h4 h5 h6 h7 h8 => dbs _ _ _ _ _ _ (Nat.le_refl _) ha (by omega) h2 (by omega) h4 (Nat.le_refl _) hb (by omega) h6 (by omega) h8) cl.1 cl.2).1
        have up2 : (2 : Nat) ^ (b + (e + 1)) ≤ 2 ^ top := Nat.pow_le_pow_right (by decide) (by omega)
        exact ⟨_, .step fit (.next p cl u) .refl, .inr ⟨rfl, kbc⟩, d', fun i j h1 h2 h3 h4 => eb' i j (by have : s.a + 1 ≤ i := h1; omega) h2 (by have : s.a + 1 ≤ j := h3; omega) h4, l2.mono up2, r2.mono up2⟩
end K17
end
section
set_option autoImplicit false
/-! KSize4: rests of one rank and rests of one row: the right matrix stays small. Plain Lean. -/
namespace K17

theorem fdiv_le2 {x p : Int} (hp : p ≠ 0) : p.natAbs * (x.fdiv p).natAbs ≤ x.natAbs + p.natAbs := by
  have e := fm_def x p
  have l := fm_lt (x := x) hp
  have m : ((x.fdiv p) * p).natAbs = (x.fdiv p).natAbs * p.natAbs := Int.natAbs_mul _ _
  rw [Nat.mul_comm, ← m]
  omega
/-- R at the next loop head, finely -/
theorem mid_R2 {h w : Nat} {s : SM} {r c X B : Nat} (p : Pick h w s.T s.a r c) (e : EB s.a h w s.T X) (l : MB w s.R B) : MB w (mid s r c).R (3 * X * B / (s.T r c).natAbs) := fun i j hi hj => by
  have ha : s.a < h := Nat.lt_of_le_of_lt p.r0 p.r1
  have hb : s.a < w := Nat.lt_of_le_of_lt p.c0 p.c1
  have hp : swT s r c s.a s.a ≠ 0 := by rw [swT_pivot]; exact p.ne
  have v0 : 0 < (s.T r c).natAbs := by have := p.ne; omega
  have vX : (s.T r c).natAbs ≤ X := e r c p.r0 p.r1 p.c0 p.c1
  rw [Nat.le_div_iff_mul_le v0]
  show (s.R i (swN s.a c j) - facC (swT s r c) s.a j * s.R i (swN s.a c s.a)).natAbs * _ ≤ _
  have x1 := l _ _ hi (swN_lt hb p.c1 hj)
  have x2 := l _ _ hi (swN_lt hb p.c1 hb)
  have g : (s.T r c).natAbs * (facC (swT s r c) s.a j).natAbs ≤ X + (s.T r c).natAbs := by
    by_cases q : s.a < j
    · have y := e.swap p s.a j (Nat.le_refl _) ha (by omega) hj
      have z := fdiv_le2 (x := swT s r c s.a j) hp
      rw [swT_pivot] at z
      have f : facC (swT s r c) s.a j = (swT s r c s.a j).fdiv (s.T r c) := by
        unfold facC
        rw [if_pos q, swT_pivot]
      rw [f]; omega
    · rw [facC_zero q]; simp
  have m : (facC (swT s r c) s.a j * s.R i (swN s.a c s.a)).natAbs ≤ (facC (swT s r c) s.a j).natAbs * B := by rw [Int.natAbs_mul]; exact Nat.mul_le_mul_left _ x2
  have t : (s.R i (swN s.a c j) - facC (swT s r c) s.a j * s.R i (swN s.a c s.a)).natAbs ≤ B + (facC (swT s r c) s.a j).natAbs * B := by
    have := natAbs_sub_le (s.R i (swN s.a c j)) (facC (swT s r c) s.a j * s.R i (swN s.a c s.a))
    omega
  have t2 := Nat.mul_le_mul_right (s.T r c).natAbs t
  have t3 : (B + (facC (swT s r c) s.a j).natAbs * B) * (s.T r c).natAbs = (s.T r c).natAbs * B + (s.T r c).natAbs * (facC (swT s r c) s.a j).natAbs * B := by grind
  have t4 := Nat.mul_le_mul_right B g
  have t5 := Nat.mul_le_mul_right B vX
  have t6 : (X + (s.T r c).natAbs) * B = X * B + (s.T r c).natAbs * B := Nat.add_mul _ _ _
  have t7 : 3 * X * B = X * B + X * B + X * B := by grind
  omega
theorem MB.next {w : Nat} {s : SM} {r c B : Nat} {a' : Nat} (x : MB w (mid s r c).R B) : MB w ({ mid s r c with a := a' } : SM).R B := x
/-- THE STAGE of a rest of rank one: the entries fall below the pivot -/
theorem beta0 {a h w : Nat} {E e top C : Nat} (hE : E < 2 ^ 8990) (he : E + 1 ≤ 2 ^ e) (htop : top ≤ 134000000) (hC : C ≤ 2 ^ top) :
    ∀ (n : Nat) (s : SM) (X B b : Nat), s.a = a → DoneB h w s E → EB a h w s.T X → X ≤ E → KB a h w s.T 0 → DB a h w s.T 0 →
      (∀ r c, Pick h w s.T a r c → (s.T r c).natAbs ≤ n ∧ B * X * 3 ^ (s.T r c).natAbs ≤ C) → B ≤ C →
      MB h s.L (2 ^ b) → MB w s.R B → b + n * (e + 1) ≤ top →
      ∃ t, SmTo (Fit h w) h w s t ∧ Done h w t ∧ t.a ≤ a + 1 ∧ DoneB h w t E ∧ EB t.a h w t.T E ∧ MB h t.L (2 ^ top) ∧ MB w t.R C := by
  intro n
  induction n with
  | zero =>
    intro s X B b sa d eb hX kb db pk hB l r tp
    have dn : Done h w s := Classical.byContradiction fun z => by
      obtain ⟨i, j, hij⟩ : ∃ i j, s.a ≤ i ∧ i < h ∧ s.a ≤ j ∧ j < w ∧ s.T i j ≠ 0 := Classical.byContradiction fun y => z fun i j h1 h2 h3 h4 => Classical.byContradiction fun x => y ⟨i, j, h1, h2, h3, h4, x⟩
      obtain ⟨r', c', p⟩ := pick_exists (a := a) ⟨i, j, by omega, hij.2.1, by omega, hij.2.2.2.1, hij.2.2.2.2⟩
      have := (pk r' c' p).1
      have := p.ne
      omega
    have up : (2 : Nat) ^ b ≤ 2 ^ top := Nat.pow_le_pow_right (by decide) (by omega)
    exact ⟨s, .refl, dn, by omega, d, by rw [sa]; exact eb.mono hX, l.mono up, r.mono hB⟩
  | succ n ih =>
    intro s X B b sa d eb hX kb db pk hB l r tp
    subst sa
    have up : (2 : Nat) ^ b ≤ 2 ^ top := Nat.pow_le_pow_right (by decide) (by omega)
    by_cases dn : Done h w s
    · exact ⟨s, .refl, dn, by omega, d, eb.mono hX, l.mono up, r.mono hB⟩
    · obtain ⟨t, st⟩ := stp_exists dn
      have rT : MB w s.R (2 ^ top) := r.mono (Nat.le_trans hB hC)
      have fit : Fit h w s := fit_of d (eb.mono hX) hE htop (l.mono up) rT
      have d' := st.done d (eb.mono hX) (Nat.le_refl _)
      have gp := grow_pow (b := b) he
      have tp' : b + (e + 1) + n * (e + 1) ≤ top := by
        rw [Nat.add_mul] at tp; omega
      have up2 : (2 : Nat) ^ (b + (e + 1)) ≤ 2 ^ top := Nat.pow_le_pow_right (by decide) (by omega)
      -- what all steps have in common
      have common : ∀ {pr pc : Nat} (p : Pick h w s.T s.a pr pc), EB s.a h w (mid s pr pc).T (s.T pr pc).natAbs ∧ KB s.a h w (mid s pr pc).T 0 ∧ MB h (mid s pr pc).L (2 ^ (b + (e + 1))) ∧ 1 ≤ (s.T pr pc).natAbs ∧
          3 * X * B / (s.T pr pc).natAbs * (s.T pr pc).natAbs ≤ 3 * X * B ∧ 3 * X * B ≤ C ∧ 3 * X * B / (s.T pr pc).natAbs ≤ C ∧ (Clean h w (mid s pr pc) → ∀ i j, s.a < i → i < h → s.a < j → j < w → (mid s pr pc).T i j = 0) := fun {pr pc} p => by
        obtain ⟨q1, q2⟩ := pk _ _ p
        have ha : s.a < h := Nat.lt_of_le_of_lt p.r0 p.r1
        have hb : s.a < w := Nat.lt_of_le_of_lt p.c0 p.c1
        have x := mid_swept p
        have kbs := kb.swap p
        have dbs := db.swap p
        have v1 : 1 ≤ (s.T pr pc).natAbs := by have := p.ne; omega
        have eb' := x.eb ha hb kbs
        rw [swT_pivot, Nat.zero_add] at eb'
        have kb' := x.kb ha hb kbs (D := 0) fun i k j l h1 h2 h3 h4 h5 h6 h7 h8 => dbs _ _ _ _ _ _ (Nat.le_refl _) ha (by omega) h2 (by omega) h4 (Nat.le_refl _) hb (by omega) h6 (by omega) h8
        have l' := mid_L p (eb.mono hX) l
        have b3 : 3 * X * B ≤ C := by
          have : 3 ^ 1 ≤ 3 ^ (s.T pr pc).natAbs := Nat.pow_le_pow_right (by decide) v1
          have := Nat.mul_le_mul_left (B * X) this
          have e2 : 3 * X * B = B * X * 3 ^ 1 := by grind
          omega
        refine ⟨eb', kb', l'.mono (by have := gp; omega), v1, Nat.div_mul_le_self _ _, b3, Nat.le_trans (Nat.div_le_self _ _) b3, fun cl i j h1 h2 h3 h4 => ?_⟩
        have e := x.rest i j h1 h3
        have m0 := kbs s.a i s.a j (Nat.le_refl _) ha (by omega) h2 (Nat.le_refl _) hb (by omega) h4
        have z1 : (mid s pr pc).T i s.a = 0 := cl.1 i h1 h2
        rw [z1] at e
        have m0' : m2 (swT s pr pc) s.a i s.a j = 0 := by omega
        unfold m2 at m0'
        have e2 : swT s pr pc s.a s.a * (mid s pr pc).T i j = 0 := by rw [e]; grind
        rcases Int.mul_eq_zero.mp e2 with z | z
        · exact absurd z x.ne
        · exact z
      cases st with
      | go p nc =>
        rename_i pr pc
        obtain ⟨q1, q2⟩ := pk _ _ p
        obtain ⟨eb', kb', l', v1, m1, b3, m2', _⟩ := common p
        have vE : (s.T pr pc).natAbs ≤ E := Nat.le_trans (eb _ _ p.r0 p.r1 p.c0 p.c1) hX
        have ha : s.a < h := Nat.lt_of_le_of_lt p.r0 p.r1
        have hb : s.a < w := Nat.lt_of_le_of_lt p.c0 p.c1
        have db' : DB s.a h w (mid s pr pc).T 0 := fun i k m j l n h1 h2 h3 h4 h5 h6 h7 h8 h9 h10 h11 h12 => by
          have z1 := kb' k m l n h3 h4 h5 h6 h9 h10 h11 h12
          have z2 := kb' k m j n h3 h4 h5 h6 h7 h8 h11 h12
          have z3 := kb' k m j l h3 h4 h5 h6 h7 h8 h9 h10
          have z1' : m2 (mid s pr pc).T k m l n = 0 := by omega
          have z2' : m2 (mid s pr pc).T k m j n = 0 := by omega
          have z3' : m2 (mid s pr pc).T k m j l = 0 := by omega
          have e : det3 (mid s pr pc).T i k m j l n = (mid s pr pc).T i j * m2 (mid s pr pc).T k m l n - (mid s pr pc).T i l * m2 (mid s pr pc).T k m j n + (mid s pr pc).T i n * m2 (mid s pr pc).T k m j l := by unfold det3 m2; grind
          rw [e, z1', z2', z3']; simp
        obtain ⟨t, a1, a2, a3, a4, a5, a6, a7⟩ := ih (mid s pr pc) (s.T pr pc).natAbs (3 * X * B / (s.T pr pc).natAbs) (b + (e + 1)) rfl d' eb' vE kb' db' (fun r' c' p' => by
          have lt := go_less p nc p'
          refine ⟨by omega, ?_⟩
          obtain ⟨u, hu⟩ : ∃ u, (s.T pr pc).natAbs = u + 1 := ⟨(s.T pr pc).natAbs - 1, by omega⟩
          have h1 : 3 ^ ((mid s pr pc).T r' c').natAbs ≤ 3 ^ u := Nat.pow_le_pow_right (by decide) (by omega)
          have h2 := Nat.mul_le_mul m1 h1
          rw [hu] at q2
          have h3 : B * X * 3 ^ (u + 1) = 3 * X * B * 3 ^ u := by rw [Nat.pow_succ]; grind
          omega) m2' l' (mid_R2 p eb r) tp'
        exact ⟨t, .step fit (.go p nc) a1, a2, a3, a4, a5, a6, a7⟩
      | add p cl u =>
        rename_i pr pc k
        obtain ⟨_, _, _, _, _, _, _, z⟩ := common p
        obtain ⟨j, j1, j2, j3⟩ := u.bad
        refine absurd ?_ j3
        have klo : s.a < k := u.lo
        rw [z cl k j klo u.hi j1 j2]
        exact Int.zero_fmod _
      | next p cl u =>
        rename_i pr pc
        obtain ⟨eb', kb', l', v1, m1, b3, m2', z⟩ := common p
        have vE : (s.T pr pc).natAbs ≤ E := Nat.le_trans (eb _ _ p.r0 p.r1 p.c0 p.c1) hX
        exact ⟨_, .step fit (.next p cl u) .refl, fun i j h1 h2 h3 h4 => z cl i j h1 h2 h3 h4, Nat.le_refl _, d', fun i j h1 h2 h3 h4 => (eb'.mono vE) i j (by have : s.a + 1 ≤ i := h1; omega) h2 (by have : s.a + 1 ≤ j := h3; omega) h4, l'.mono up2, (mid_R2 p eb r).mono m2'⟩

/-! ### a rest of one row: Euclid's steps -/
theorem fm_sign {x p : Int} : 0 ≤ p * x.fmod p := by
  rcases Int.lt_trichotomy p 0 with h | h | h
  · have := fm_neg (x := x) h
    exact Int.mul_nonneg_of_nonpos_of_nonpos (by omega) this.2
  · subst h; simp
  · have := fm_pos (x := x) h
    exact Int.mul_nonneg (by omega) this.1
/-- of one sign, not less: the remainder is 0, or what is taken off leaves it -/
theorem fm_half {x p : Int} (hp : p ≠ 0) (hs : 0 ≤ x * p) (hx : p.natAbs ≤ x.natAbs) : (x.fmod p).natAbs + p.natAbs ≤ x.natAbs := by
  have e := fm_def x p
  have l := fm_lt (x := x) hp
  rcases Int.lt_or_gt_of_ne hp with h | h
  · have f := fm_neg (x := x) h
    have x0 : x < 0 := by
      refine Classical.byContradiction fun z => ?_
      have : x * p < 0 := Int.mul_neg_of_pos_of_neg (by omega) h
      omega
    have q : 1 ≤ x.fdiv p := by
      refine Classical.byContradiction fun z => ?_
      have : 0 ≤ x.fdiv p * p := Int.mul_nonneg_of_nonpos_of_nonpos (by omega) (by omega)
      omega
    have := Int.mul_le_mul_of_nonpos_right q (show p ≤ 0 by omega)
    omega
  · have f := fm_pos (x := x) h
    have x0 : 0 < x := by
      refine Classical.byContradiction fun z => ?_
      have : x * p < 0 := Int.mul_neg_of_neg_of_pos (by omega) h
      omega
    have q : 1 ≤ x.fdiv p := by
      refine Classical.byContradiction fun z => ?_
      have : x.fdiv p * p ≤ 0 := Int.mul_nonpos_of_nonpos_of_nonneg (by omega) (by omega)
      omega
    have := Int.mul_le_mul_of_nonneg_right q (show 0 ≤ p by omega)
    omega
theorem same_sign {p x y : Int} (hp : p ≠ 0) (hx : 0 ≤ p * x) (hy : 0 ≤ p * y) : 0 ≤ x * y := by
  rcases Int.lt_or_gt_of_ne hp with h | h
  · have x0 : x ≤ 0 := by
      refine Classical.byContradiction fun z => ?_
      have : p * x < 0 := Int.mul_neg_of_neg_of_pos h (by omega)
      omega
    have y0 : y ≤ 0 := by
      refine Classical.byContradiction fun z => ?_
      have : p * y < 0 := Int.mul_neg_of_neg_of_pos h (by omega)
      omega
    exact Int.mul_nonneg_of_nonpos_of_nonpos x0 y0
  · have x0 : 0 ≤ x := by
      refine Classical.byContradiction fun z => ?_
      have : p * x < 0 := Int.mul_neg_of_pos_of_neg h (by omega)
      omega
    have y0 : 0 ≤ y := by
      refine Classical.byContradiction fun z => ?_
      have : p * y < 0 := Int.mul_neg_of_pos_of_neg h (by omega)
      omega
    exact Int.mul_nonneg x0 y0
theorem mid_L1 {w : Nat} {s : SM} {r c B : Nat} (p : Pick (s.a + 1) w s.T s.a r c) (l : MB (s.a + 1) s.L B) : MB (s.a + 1) (mid s r c).L B := fun i j hi hj => by
  have er : r = s.a := by have := p.r0; have := p.r1; omega
  show (s.L (swN s.a r i) j - facR (swT s r c) s.a i * _).natAbs ≤ B
  rw [facR_zero (show ¬ s.a < i by omega), er, swN_self, Int.zero_mul, Int.sub_zero]
  exact l i j hi hj
/-- behind a step: of one sign, the pivot the greatest -/
structure RowP (a w : Nat) (T : Mat) (X : Nat) : Prop where
  top : ∃ j, a ≤ j ∧ j < w ∧ (T a j).natAbs = X
  sign : ∀ j l, a ≤ j → j < w → a ≤ l → l < w → 0 ≤ T a j * T a l
theorem mid_rowP {w : Nat} {s : SM} {r c : Nat} (p : Pick (s.a + 1) w s.T s.a r c) : EB s.a (s.a + 1) w (mid s r c).T (s.T r c).natAbs ∧ RowP s.a w (mid s r c).T (s.T r c).natAbs := by
  have hb : s.a < w := Nat.lt_of_le_of_lt p.c0 p.c1
  have x := mid_swept p
  have hp : s.T r c ≠ 0 := p.ne
  have sg : ∀ j, s.a ≤ j → 0 ≤ s.T r c * (mid s r c).T s.a j := fun j h => by
    by_cases q : j = s.a
    · subst q
      rw [mid_pivot]
      rcases Int.le_total 0 (s.T r c) with z | z
      · exact Int.mul_nonneg z z
      · exact Int.mul_nonneg_of_nonpos_of_nonpos z z
    · rw [x.row j (by omega), swT_pivot]
      exact fm_sign
  refine ⟨fun i j h1 h2 h3 h4 => ?_, ⟨s.a, Nat.le_refl _, hb, by rw [mid_pivot]⟩, fun j l h1 h2 h3 h4 => same_sign hp (sg j h1) (sg l h3)⟩
  have ei : i = s.a := by omega
  subst ei
  by_cases q : j = s.a
  · subst q; rw [mid_pivot]; exact Nat.le_refl _
  · have := x.row_lt (show s.a < j by omega)
    rw [swT_pivot] at this; omega
theorem clean_row {w : Nat} {s : SM} {r c : Nat} (n : Clean (s.a + 1) w (mid s r c)) : Done (s.a + 1) w ({ mid s r c with a := s.a + 1 } : SM) := fun i j h1 h2 h3 h4 => by
  have : s.a + 1 ≤ i := h1
  omega
theorem gamma1' {a w : Nat} {E b : Nat} (hE : E < 2 ^ 8990) (hb : b ≤ 134000000) {C : Nat} (hC : 3 * C ≤ 2 ^ b) :
    ∀ (n : Nat) (s : SM) (X B : Nat), s.a = a → DoneB (a + 1) w s E → EB a (a + 1) w s.T X → X ≤ E → RowP a w s.T X → B ≤ C →
      (∀ r c, Pick (a + 1) w s.T a r c → (s.T r c).natAbs ≤ n ∧ B * X * ((X * (s.T r c).natAbs) * (X * (s.T r c).natAbs)) ≤ C) →
      MB (a + 1) s.L (2 ^ b) → MB w s.R B →
      ∃ t, SmTo (Fit (a + 1) w) (a + 1) w s t ∧ Done (a + 1) w t ∧ MB (a + 1) t.L (2 ^ b) ∧ MB w t.R (3 * C) ∧ Fit (a + 1) w t := by
  intro n
  induction n with
  | zero =>
    intro s X B sa d eb hX rp hB pk l r
    have dn : Done (a + 1) w s := Classical.byContradiction fun z => by
      obtain ⟨i, j, hij⟩ : ∃ i j, s.a ≤ i ∧ i < a + 1 ∧ s.a ≤ j ∧ j < w ∧ s.T i j ≠ 0 := Classical.byContradiction fun y => z fun i j h1 h2 h3 h4 => Classical.byContradiction fun x => y ⟨i, j, h1, h2, h3, h4, x⟩
      obtain ⟨r', c', p⟩ := pick_exists (a := a) ⟨i, j, by omega, hij.2.1, by omega, hij.2.2.2.1, hij.2.2.2.2⟩
      have := (pk r' c' p).1
      have := p.ne
      omega
    subst sa
    exact ⟨s, .refl, dn, l, r.mono (by omega), fit_of d (eb.mono hX) hE hb l (r.mono (by omega))⟩
  | succ n ih =>
    intro s X B sa d eb hX rp hB pk l r
    subst sa
    have fit : Fit (s.a + 1) w s := fit_of d (eb.mono hX) hE hb l (r.mono (by omega))
    by_cases dn : Done (s.a + 1) w s
    · exact ⟨s, .refl, dn, l, r.mono (by omega), fit⟩
    · obtain ⟨t, st⟩ := stp_exists dn
      have d' := st.done d (eb.mono hX) (Nat.le_refl _)
      have common : ∀ {pr pc : Nat} (p : Pick (s.a + 1) w s.T s.a pr pc), 1 ≤ (s.T pr pc).natAbs ∧ (s.T pr pc).natAbs ≤ X ∧ 3 * X * B / (s.T pr pc).natAbs * (s.T pr pc).natAbs ≤ 3 * X * B ∧ 3 * X * B ≤ 3 * C ∧ 3 * X * B / (s.T pr pc).natAbs ≤ 3 * C := fun {pr pc} p => by
        obtain ⟨q1, q2⟩ := pk _ _ p
        have v1 : 1 ≤ (s.T pr pc).natAbs := by have := p.ne; omega
        have vX : (s.T pr pc).natAbs ≤ X := eb _ _ p.r0 p.r1 p.c0 p.c1
        have b3 : 3 * X * B ≤ 3 * C := by
          have y : 1 ≤ X * (s.T pr pc).natAbs := Nat.mul_pos (by omega) (by omega)
          have y2 : 1 ≤ (X * (s.T pr pc).natAbs) * (X * (s.T pr pc).natAbs) := Nat.mul_pos (by omega) (by omega)
          have y3 := Nat.le_mul_of_pos_right (B * X) y2
          have e2 : 3 * X * B = 3 * (B * X) := by grind
          omega
        exact ⟨v1, vX, Nat.div_mul_le_self _ _, b3, Nat.le_trans (Nat.div_le_self _ _) b3⟩
      cases st with
      | go p nc =>
        rename_i pr pc
        obtain ⟨q1, q2⟩ := pk _ _ p
        obtain ⟨v1, vX, m1, b3, m2'⟩ := common p
        obtain ⟨eb', rp'⟩ := mid_rowP p
        have x := mid_swept p
        have hb' : s.a < w := Nat.lt_of_le_of_lt p.c0 p.c1
        have er : pr = s.a := by have := p.r0; have := p.r1; omega
        obtain ⟨j0, j1, j2, j3⟩ := rp.top
        -- the pivot is less than the greatest
        have half : ∀ r' c', Pick (s.a + 1) w (mid s pr pc).T s.a r' c' → 2 * ((mid s pr pc).T r' c').natAbs ≤ X := fun r' c' p' => by
          have lt := go_less p nc p'
          -- where the old greatest stands now
          have jj : swT s pr pc s.a (swN s.a pc j0) = s.T s.a j0 := by
            unfold swT swapC swapR
            rw [swN_swN, er, swN_self]
          have sgn0 : 0 ≤ s.T s.a j0 * s.T pr pc := by rw [er]; exact rp.sign j0 pc j1 j2 p.c0 p.c1
          by_cases q : swN s.a pc j0 = s.a
          · -- it is the pivot: all are equal, clean
            have ej : s.T pr pc = s.T s.a j0 := by rw [← jj, q, swT_pivot]
            have vXe : (s.T pr pc).natAbs = X := by rw [ej]; exact j3
            obtain ⟨i, j, h1, h2, h3, h4, h5, h6⟩ := not_clean nc (show (mid s pr pc).a < s.a + 1 from Nat.lt_succ_self _) hb'
            have h3' : s.a ≤ j := h3
            have h1' : s.a ≤ i := h1
            rcases h6 with ⟨e, g⟩ | ⟨e, g⟩
            · have g' : s.a < j := g
              have e' : i = s.a := e
              subst e'
              rw [x.row j g', swT_pivot] at h5
              have y := eb.swap p s.a j (Nat.le_refl _) (Nat.lt_succ_self _) h3' h4
              have z0 : swT s pr pc s.a j ≠ 0 := fun z => h5 (by rw [z]; exact Int.zero_fmod _)
              have vle : (s.T pr pc).natAbs ≤ (swT s pr pc s.a j).natAbs := by
                have l2 := p.least (swN s.a pr s.a) (swN s.a pc j) (swN_high (Nat.le_refl _) p.r0) (swN_lt (Nat.lt_succ_self _) p.r1 (Nat.lt_succ_self _)) (swN_high h3' p.c0) (swN_lt hb' p.c1 h4) z0
                unfold lexLe at l2
                unfold swT swapC swapR
                omega
              have sg : 0 ≤ swT s pr pc s.a j * s.T pr pc := by
                unfold swT swapC swapR
                rw [er, swN_self]
                exact rp.sign _ _ (swN_high h3' p.c0) (swN_lt hb' p.c1 h4) p.c0 p.c1
              have hf := fm_half p.ne sg vle
              omega
            · have g' : s.a < i := g
              omega
          · have jlo : s.a < swN s.a pc j0 := by
              have := swN_high (a := s.a) (r := pc) j1 p.c0
              omega
            have jhi : swN s.a pc j0 < w := swN_lt hb' p.c1 j2
            have rm := x.row _ jlo
            rw [jj, swT_pivot] at rm
            have hf := fm_half (x := s.T s.a j0) p.ne sgn0 (by omega)
            by_cases z : (mid s pr pc).T s.a (swN s.a pc j0) = 0
            · -- divisible: the pivot is at most half
              rw [z] at rm
              have dv := Int.dvd_of_fmod_eq_zero rm.symm
              obtain ⟨k, hk⟩ := dv
              have kn : (s.T s.a j0).natAbs = (s.T pr pc).natAbs * k.natAbs := by rw [hk, Int.natAbs_mul]
              rcases Nat.lt_or_ge k.natAbs 2 with k2 | k2
              · -- k = 0 or 1: the pivot is the greatest
                have vXe : (s.T pr pc).natAbs = X ∨ X = 0 := by
                  rcases (show k.natAbs = 0 ∨ k.natAbs = 1 by omega) with k3 | k3
                  · rw [k3] at kn; omega
                  · rw [k3] at kn; omega
                rcases vXe with vXe | vXe
                · -- then all entries are 0 or as great: clean
                  obtain ⟨i, j, h1, h2, h3, h4, h5, h6⟩ := not_clean nc (show (mid s pr pc).a < s.a + 1 from Nat.lt_succ_self _) hb'
                  have h3' : s.a ≤ j := h3
                  have h1' : s.a ≤ i := h1
                  rcases h6 with ⟨e, g⟩ | ⟨e, g⟩
                  · have g' : s.a < j := g
                    have e' : i = s.a := e
                    subst e'
                    rw [x.row j g', swT_pivot] at h5
                    have y := eb.swap p s.a j (Nat.le_refl _) (Nat.lt_succ_self _) h3' h4
                    have z0 : swT s pr pc s.a j ≠ 0 := fun z => h5 (by rw [z]; exact Int.zero_fmod _)
                    have vle : (s.T pr pc).natAbs ≤ (swT s pr pc s.a j).natAbs := by
                      have l2 := p.least (swN s.a pr s.a) (swN s.a pc j) (swN_high (Nat.le_refl _) p.r0) (swN_lt (Nat.lt_succ_self _) p.r1 (Nat.lt_succ_self _)) (swN_high h3' p.c0) (swN_lt hb' p.c1 h4) z0
                      unfold lexLe at l2
                      unfold swT swapC swapR
                      omega
                    have sg : 0 ≤ swT s pr pc s.a j * s.T pr pc := by
                      unfold swT swapC swapR
                      rw [er, swN_self]
                      exact rp.sign _ _ (swN_high h3' p.c0) (swN_lt hb' p.c1 h4) p.c0 p.c1
                    have hf := fm_half p.ne sg vle
                    omega
                  · have g' : s.a < i := g
                    omega
                · omega
              · have := Nat.mul_le_mul_left (s.T pr pc).natAbs k2
                omega
            · have l2 := p'.least s.a _ (Nat.le_refl _) (Nat.lt_succ_self _) (Nat.le_of_lt jlo) jhi z
              unfold lexLe at l2
              rw [← rm] at hf
              omega
        obtain ⟨t, a1, a2, a3, a4, a5⟩ := ih (mid s pr pc) (s.T pr pc).natAbs (3 * X * B / (s.T pr pc).natAbs) rfl d' eb' (by omega) rp' (by
            -- B' ≤ C
            have y : 2 ≤ X := by
              obtain ⟨i, j, h1, h2, h3, h4, h5, h6⟩ := not_clean nc (show (mid s pr pc).a < s.a + 1 from Nat.lt_succ_self _) hb'
              obtain ⟨r', c', p'⟩ := pick_exists (a := s.a) ⟨i, j, h1, h2, h3, h4, h5⟩
              have := half r' c' p'
              have := p'.ne
              omega
            have y1 : 2 ≤ X * (s.T pr pc).natAbs := Nat.le_trans y (Nat.le_mul_of_pos_right _ (by omega))
            have y2 : 4 ≤ (X * (s.T pr pc).natAbs) * (X * (s.T pr pc).natAbs) := Nat.mul_le_mul y1 y1
            have y3 := Nat.mul_le_mul_left (B * X) y2
            have e2 : 3 * X * B = 3 * (B * X) := by grind
            exact Nat.le_trans (Nat.div_le_self _ _) (by omega)) (fun r' c' p' => by
          have lt := go_less p nc p'
          have hv := half r' c' p'
          refine ⟨by omega, ?_⟩
          -- the potential
          have w1 : 2 * ((s.T pr pc).natAbs * ((mid s pr pc).T r' c').natAbs) ≤ X * (s.T pr pc).natAbs := by
            have := Nat.mul_le_mul_left (s.T pr pc).natAbs hv
            have e2 : (s.T pr pc).natAbs * (2 * ((mid s pr pc).T r' c').natAbs) = 2 * ((s.T pr pc).natAbs * ((mid s pr pc).T r' c').natAbs) := by grind
            rw [Nat.mul_comm X]
            omega
          have w2 := Nat.mul_le_mul w1 w1
          have w3 : 4 * (((s.T pr pc).natAbs * ((mid s pr pc).T r' c').natAbs) * ((s.T pr pc).natAbs * ((mid s pr pc).T r' c').natAbs)) ≤ (X * (s.T pr pc).natAbs) * (X * (s.T pr pc).natAbs) := by
            refine Nat.le_trans (Nat.le_of_eq ?_) w2
            grind
          generalize ((s.T pr pc).natAbs * ((mid s pr pc).T r' c').natAbs) * ((s.T pr pc).natAbs * ((mid s pr pc).T r' c').natAbs) = Y at w3 ⊢
          generalize (X * (s.T pr pc).natAbs) * (X * (s.T pr pc).natAbs) = Z at w3 q2
          have w4 := Nat.mul_le_mul_right Y m1
          have w5 : 3 * X * B * Y ≤ 4 * (X * B * Y) := by
            have : 3 * X * B * Y = 3 * (X * B * Y) := by grind
            omega
          have w6 := Nat.mul_le_mul_left (B * X) w3
          have w7 : B * X * (4 * Y) = 4 * (X * B * Y) := by grind
          omega) (mid_L1 p l) (mid_R2 p eb r)
        exact ⟨t, .step fit (.go p nc) a1, a2, a3, a4, a5⟩
      | add p cl u =>
        rename_i pr pc k
        have klo : s.a < k := u.lo
        have := u.hi
        omega
      | next p cl u =>
        rename_i pr pc
        obtain ⟨v1, vX, m1, b3, m2'⟩ := common p
        have dn' := clean_row cl
        have l' := mid_L1 p l
        have r' : MB w (mid s pr pc).R (3 * C) := (mid_R2 p eb r).mono m2'
        exact ⟨_, .step fit (.next p cl u) .refl, dn', l', r', fit_of d' (fun i j h1 h2 h3 h4 => by have : s.a + 1 ≤ i := h1; omega) hE hb l' (r'.mono hC)⟩
/-- .. from any row -/
theorem gamma1 {a w : Nat} {E b B : Nat} (hE : E < 2 ^ 8990) (h1 : 1 ≤ E) (hb : b ≤ 134000000) (hC : 9 * (B * E * (E * E) * (E * E)) ≤ 2 ^ b) (s : SM) (sa : s.a = a) (d : DoneB (a + 1) w s E) (eb : EB a (a + 1) w s.T E)
    (l : MB (a + 1) s.L (2 ^ b)) (r : MB w s.R B) : ∃ t, SmTo (Fit (a + 1) w) (a + 1) w s t ∧ Done (a + 1) w t ∧ MB (a + 1) t.L (2 ^ b) ∧ MB w t.R (9 * (B * E * (E * E) * (E * E))) ∧ Fit (a + 1) w t := by
  subst sa
  have p1 : 1 ≤ E * E := Nat.mul_pos h1 h1
  have b1 : B * E ≤ B * E * (E * E) * (E * E) := by
    have := Nat.le_mul_of_pos_right (B * E) p1
    have := Nat.le_mul_of_pos_right (B * E * (E * E)) p1
    omega
  have b0 : B ≤ B * E := Nat.le_mul_of_pos_right _ h1
  have fit : Fit (s.a + 1) w s := fit_of d eb hE hb l (r.mono (by omega))
  by_cases dn : Done (s.a + 1) w s
  · exact ⟨s, .refl, dn, l, r.mono (by omega), fit⟩
  · obtain ⟨t, st⟩ := stp_exists dn
    have d' := st.done d eb (Nat.le_refl _)
    cases st with
    | go p nc =>
      rename_i pr pc
      obtain ⟨eb', rp'⟩ := mid_rowP p
      have vE : (s.T pr pc).natAbs ≤ E := eb _ _ p.r0 p.r1 p.c0 p.c1
      have e3 : 3 * E * B = 3 * (B * E) := by grind
      obtain ⟨t, a1, a2, a3, a4, a5⟩ := gamma1' hE hb (C := 3 * (B * E * (E * E) * (E * E))) (by omega) (s.T pr pc).natAbs (mid s pr pc) (s.T pr pc).natAbs (3 * E * B / (s.T pr pc).natAbs) rfl d' eb' vE rp' (Nat.le_trans (Nat.div_le_self _ _) (by omega)) (fun r' c' p' => by
        have lt := go_less p nc p'
        refine ⟨by omega, ?_⟩
        have m1 := Nat.div_mul_le_self (3 * E * B) (s.T pr pc).natAbs
        have w1 : (s.T pr pc).natAbs * ((mid s pr pc).T r' c').natAbs ≤ E * E := Nat.mul_le_mul vE (by omega)
        have w2 := Nat.mul_le_mul m1 (Nat.mul_le_mul w1 w1)
        have w3 : 3 * E * B * (E * E * (E * E)) = 3 * (B * E * (E * E) * (E * E)) := by grind
        omega) (mid_L1 p l) (mid_R2 p eb r)
      exact ⟨t, .step fit (.go p nc) a1, a2, a3, a4.mono (by omega), a5⟩
    | add p cl u =>
      rename_i pr pc k
      have klo : s.a < k := u.lo
      have := u.hi
      omega
    | next p cl u =>
      rename_i pr pc
      have e3 : 3 * E * B = 3 * (B * E) := by grind
      have l' := mid_L1 p l
      have r' : MB w (mid s pr pc).R (9 * (B * E * (E * E) * (E * E))) := (mid_R2 p eb r).mono (Nat.le_trans (Nat.div_le_self _ _) (by omega))
      exact ⟨_, .step fit (.next p cl u) .refl, clean_row cl, l', r', fit_of d' (fun i j h1 h2 h3 h4 => by have : s.a + 1 ≤ i := h1; omega) hE hb l' (r'.mono hC)⟩
end K17
end
section
set_option autoImplicit false
/-! KSize5: rests of two rows and two columns: the pivot halves within a few steps. Plain Lean. -/
namespace K17

/-! ### a stage by a number that falls -/
theorem stage {a h w E e top : Nat} {J : Nat → SM → Prop} (hE : E < 2 ^ 8990) (he : E + 1 ≤ 2 ^ e) (htop : top ≤ 134000000)
    (inv : ∀ n s, J n s → s.a = a ∧ EB a h w s.T E)
    (step : ∀ n s t, J n s → Stp h w s t → (t.a = a + 1 ∧ EB (a + 1) h w t.T E) ∨ ∃ m, m < n ∧ J m t) :
    ∀ (n : Nat) (s : SM) (b : Nat), J n s → DoneB h w s E → MB h s.L (2 ^ b) → MB w s.R (2 ^ b) → b + (n + 1) * (e + 1) ≤ top →
      ∃ t, SmTo (Fit h w) h w s t ∧ (Done h w t ∨ t.a = a + 1) ∧ DoneB h w t E ∧ EB t.a h w t.T E ∧ MB h t.L (2 ^ top) ∧ MB w t.R (2 ^ top) := by
  intro n
  induction n using Nat.strongRecOn with
  | _ n ih =>
    intro s b j d l r tp
    obtain ⟨sa, eb⟩ := inv n s j
    have up : (2 : Nat) ^ b ≤ 2 ^ top := Nat.pow_le_pow_right (by decide) (by omega)
    by_cases dn : Done h w s
    · exact ⟨s, .refl, .inl dn, d, by rw [sa]; exact eb, l.mono up, r.mono up⟩
    · obtain ⟨t, st⟩ := stp_exists dn
      have eb' : EB s.a h w s.T E := by rw [sa]; exact eb
      have fit : Fit h w s := fit_of d eb' hE (show b ≤ 134000000 by omega) l r
      have d' := st.done d eb' (Nat.le_refl _)
      obtain ⟨l', r'⟩ := st.grows eb' l r
      have gp := grow_pow (b := b) he
      have l2 := l'.mono gp
      have r2 := r'.mono gp
      rcases step n s t j st with ⟨ta, te⟩ | ⟨m, lt, jm⟩
      · have up2 : (2 : Nat) ^ (b + (e + 1)) ≤ 2 ^ top := Nat.pow_le_pow_right (by decide) (by
          have : (n + 1) * (e + 1) = n * (e + 1) + (e + 1) := by rw [Nat.add_mul, Nat.one_mul]
          omega)
        exact ⟨t, .step fit st .refl, .inr ta, d', by rw [ta]; exact te, l2.mono up2, r2.mono up2⟩
      · have tp' : b + (e + 1) + (m + 1) * (e + 1) ≤ top := by
          have h1 : (m + 1) * (e + 1) ≤ n * (e + 1) := Nat.mul_le_mul_right _ lt
          have : (n + 1) * (e + 1) = n * (e + 1) + (e + 1) := by rw [Nat.add_mul, Nat.one_mul]
          omega
        obtain ⟨u, a1, a2, a3, a4, a5, a6⟩ := ih m lt t (b + (e + 1)) jm d' l2 r2 tp'
        exact ⟨u, .step fit st a1, a2, a3, a4, a5, a6⟩
/-! ### T is 0 outside -/
def Out (h w : Nat) (T : Mat) : Prop := ∀ i j, h ≤ i ∨ w ≤ j → T i j = 0
theorem Out.midO {h w : Nat} {s : SM} {r c : Nat} (o : Out h w s.T) (p : Pick h w s.T s.a r c) : Out h w (mid s r c).T := by
  have ha : s.a < h := Nat.lt_of_le_of_lt p.r0 p.r1
  have hb : s.a < w := Nat.lt_of_le_of_lt p.c0 p.c1
  have r1 := p.r1
  have c1 := p.c1
  have o1 : Out h w (swT s r c) := fun i j hij => by
    unfold swT swapC swapR
    refine o _ _ ?_
    rcases hij with q | q
    · left
      unfold swN
      rw [if_neg (by omega), if_neg (by omega)]; exact q
    · right
      unfold swN
      rw [if_neg (by omega), if_neg (by omega)]; exact q
  intro i j hij
  show (swT s r c i j - facR (swT s r c) s.a i * swT s r c s.a j) - facC (swT s r c) s.a j * (swT s r c i s.a - facR (swT s r c) s.a i * swT s r c s.a s.a) = 0
  rcases hij with q | q
  · have f : facR (swT s r c) s.a i = 0 := by
      unfold facR
      split
      · rw [o1 i s.a (.inl q)]; exact Int.zero_fdiv _
      · rfl
    rw [f, o1 i j (.inl q), o1 i s.a (.inl q)]; simp
  · have f : facC (swT s r c) s.a j = 0 := by
      unfold facC
      split
      · rw [o1 s.a j (.inr q)]; exact Int.zero_fdiv _
      · rfl
    rw [f, o1 i j (.inr q), o1 s.a j (.inr q)]; simp
theorem Out.step {h w : Nat} {s t : SM} (o : Out h w s.T) (x : Stp h w s t) : Out h w t.T := by
  cases x with
  | go p _ => exact o.midO p
  | add p n u =>
    rename_i r c i
    have m := o.midO p
    intro k j hk
    show addT (mid s r c).T s.a i k j = 0
    by_cases q : k = s.a
    · subst q
      have ha : s.a < h := Nat.lt_of_le_of_lt p.r0 p.r1
      rw [addT_a, m s.a j hk, m i j (.inr (by omega))]; rfl
    · rw [addT_ne _ _ q]; exact m k j hk
  | next p _ _ => exact o.midO p
/-! ### two by two -/
section
variable {a h w : Nat}
/-- behind a step that is not clean: the pivot p, what is beside and below it of its sign and less, not both 0; p times the next pivot below 2 ^ n -/
structure Post (a h w : Nat) (T : Mat) (n : Nat) : Prop where
  row : (T a (a + 1)).natAbs < (T a a).natAbs ∧ 0 ≤ T a a * T a (a + 1)
  col : (T (a + 1) a).natAbs < (T a a).natAbs ∧ 0 ≤ T a a * T (a + 1) a
  ne : T a (a + 1) ≠ 0 ∨ T (a + 1) a ≠ 0
  prod : ∀ r c, Pick h w T a r c → (T a a).natAbs * (T r c).natAbs < 2 ^ n
/-- behind an addition of rows -/
structure Uni (a : Nat) (T : Mat) (n : Nat) : Prop where
  pne : T a a ≠ 0
  row : T a (a + 1) = T (a + 1) (a + 1)
  col : T (a + 1) a = 0
  bad : (T a (a + 1)).fmod (T a a) ≠ 0
  prod : (T a a).natAbs * (T a a).natAbs < 2 ^ n
theorem two_of {i : Nat} (h1 : a ≤ i) (h2 : i < a + 2) : i = a ∨ i = a + 1 := by omega
theorem out_lt {T : Mat} (o : Out h w T) {i j : Nat} (n : T i j ≠ 0) : i < h ∧ j < w := by
  by_cases q : h ≤ i ∨ w ≤ j
  · exact absurd (o i j q) n
  · omega
theorem half_pow {x y n : Nat} (h : 2 * x ≤ y) (hy : y < 2 ^ n) (x1 : 1 ≤ x) : ∃ m, n = m + 1 ∧ x < 2 ^ m := by
  cases n with
  | zero => simp at hy; omega
  | succ m =>
    refine ⟨m, rfl, ?_⟩
    rw [Nat.pow_succ] at hy; omega
/-- the entries behind a step, from those ahead -/
structure Ent (s : SM) (U : Mat) (p y x q : Int) : Prop where
  ne : p ≠ 0
  piv : U s.a s.a = p
  row : U s.a (s.a + 1) = y.fmod p
  col : U (s.a + 1) s.a = x.fmod p
  rest : p * U (s.a + 1) (s.a + 1) = p * q - x * y + U (s.a + 1) s.a * U s.a (s.a + 1)
theorem swN_two (a : Nat) : swN a (a + 1) a = a + 1 ∧ swN a (a + 1) (a + 1) = a := by
  unfold swN
  rw [if_pos rfl, if_neg (by omega), if_pos rfl]
  exact ⟨rfl, rfl⟩
theorem ent {s : SM} {r c : Nat} (p : Pick h w s.T s.a r c) : Ent s (mid s r c).T (s.T r c) (swT s r c s.a (s.a + 1)) (swT s r c (s.a + 1) s.a) (swT s r c (s.a + 1) (s.a + 1)) := by
  have x := mid_swept p
  refine ⟨p.ne, mid_pivot s r c, ?_, ?_, ?_⟩
  · rw [x.row _ (Nat.lt_succ_self _), swT_pivot]
  · rw [x.col _ (Nat.lt_succ_self _), swT_pivot]
  · have := x.rest (s.a + 1) (s.a + 1) (Nat.lt_succ_self _) (Nat.lt_succ_self _)
    rw [swT_pivot] at this; exact this
theorem ent_aa {s : SM} (p : Pick h w s.T s.a s.a s.a) : Ent s (mid s s.a s.a).T (s.T s.a s.a) (s.T s.a (s.a + 1)) (s.T (s.a + 1) s.a) (s.T (s.a + 1) (s.a + 1)) := by
  have e := ent p
  rw [swT_self] at e; exact e
theorem ent_ab {s : SM} (p : Pick h w s.T s.a s.a (s.a + 1)) : Ent s (mid s s.a (s.a + 1)).T (s.T s.a (s.a + 1)) (s.T s.a s.a) (s.T (s.a + 1) (s.a + 1)) (s.T (s.a + 1) s.a) := by
  have e := ent p
  obtain ⟨t1, t2⟩ := swN_two s.a
  have z : ∀ i j, swT s s.a (s.a + 1) i j = s.T i (swN s.a (s.a + 1) j) := fun i j => by unfold swT swapC swapR; rw [swN_self]
  rw [z, z, z, t1, t2] at e; exact e
theorem ent_ba {s : SM} (p : Pick h w s.T s.a (s.a + 1) s.a) : Ent s (mid s (s.a + 1) s.a).T (s.T (s.a + 1) s.a) (s.T (s.a + 1) (s.a + 1)) (s.T s.a s.a) (s.T s.a (s.a + 1)) := by
  have e := ent p
  obtain ⟨t1, t2⟩ := swN_two s.a
  have z : ∀ i j, swT s (s.a + 1) s.a i j = s.T (swN s.a (s.a + 1) i) j := fun i j => by unfold swT swapC swapR; rw [swN_self]
  rw [z, z, z, t1, t2] at e; exact e
theorem ent_bb {s : SM} (p : Pick h w s.T s.a (s.a + 1) (s.a + 1)) : Ent s (mid s (s.a + 1) (s.a + 1)).T (s.T (s.a + 1) (s.a + 1)) (s.T (s.a + 1) s.a) (s.T s.a (s.a + 1)) (s.T s.a s.a) := by
  have e := ent p
  obtain ⟨t1, t2⟩ := swN_two s.a
  have z : ∀ i j, swT s (s.a + 1) (s.a + 1) i j = s.T (swN s.a (s.a + 1) i) (swN s.a (s.a + 1) j) := fun i j => rfl
  rw [z, z, z, t1, t2] at e; exact e
/-- what a step that is not clean leaves -/
theorem Ent.post {s : SM} {U : Mat} {p y x q : Int} {n : Nat} (e : Ent s U p y x q) (nc : U s.a (s.a + 1) ≠ 0 ∨ U (s.a + 1) s.a ≠ 0) (pr : ∀ r c, Pick h w U s.a r c → p.natAbs * (U r c).natAbs < 2 ^ n) : Post s.a h w U n where
  row := by rw [e.row, e.piv]; exact ⟨fm_lt e.ne, fm_sign⟩
  col := by rw [e.col, e.piv]; exact ⟨fm_lt e.ne, fm_sign⟩
  ne := nc
  prod := fun r c k => by rw [e.piv]; exact pr r c k
theorem nc_two {s : SM} {r c : Nat} (hh : h ≤ s.a + 2) (hw : w ≤ s.a + 2) (p : Pick h w s.T s.a r c) (n : ¬ Clean h w (mid s r c)) : (mid s r c).T s.a (s.a + 1) ≠ 0 ∨ (mid s r c).T (s.a + 1) s.a ≠ 0 := by
  obtain ⟨i, j, h1, h2, h3, h4, h5, h6⟩ := not_clean n (Nat.lt_of_le_of_lt p.r0 p.r1) (Nat.lt_of_le_of_lt p.c0 p.c1)
  rcases h6 with ⟨e, g⟩ | ⟨e, g⟩
  · have e' : i = s.a := e
    have g' : s.a < j := g
    obtain rfl : j = s.a + 1 := by omega
    subst e'; exact .inl h5
  · have e' : j = s.a := e
    have g' : s.a < i := g
    obtain rfl : i = s.a + 1 := by omega
    subst e'; exact .inr h5
theorem cl_two {s : SM} {r c : Nat} (o : Out h w s.T) (p : Pick h w s.T s.a r c) (n : Clean h w (mid s r c)) : (mid s r c).T s.a (s.a + 1) = 0 ∧ (mid s r c).T (s.a + 1) s.a = 0 := by
  have om := o.midO p
  constructor
  · by_cases q : s.a + 1 < w
    · exact n.2 _ (Nat.lt_succ_self _) q
    · exact om _ _ (.inr (by omega))
  · by_cases q : s.a + 1 < h
    · exact n.1 _ (Nat.lt_succ_self _) q
    · exact om _ _ (.inl (by omega))
theorem dbl {z p : Int} (lt : p.natAbs < z.natAbs) (h0 : z.fmod p = 0) : 2 * p.natAbs ≤ z.natAbs := by
  obtain ⟨k, hk⟩ := Int.dvd_of_fmod_eq_zero h0
  have kn : z.natAbs = p.natAbs * k.natAbs := by rw [hk, Int.natAbs_mul]
  rcases Nat.lt_or_ge k.natAbs 2 with k2 | k2
  · rcases (show k.natAbs = 0 ∨ k.natAbs = 1 by omega) with k3 | k3
    · rw [k3] at kn; omega
    · rw [k3] at kn; omega
  · have := Nat.mul_le_mul_left p.natAbs k2
    omega
/-- of an entry beside the pivot, of its sign, greater: what a step does -/
theorem typeA {s : SM} {U : Mat} {p y x q z : Int} {n : Nat} (e : Ent s U p y x q) (hz : z = y ∨ z = x) (sg : 0 ≤ z * p) (lt : p.natAbs < z.natAbs) (pr : z.natAbs * p.natAbs < 2 ^ n) :
    (U s.a (s.a + 1) = 0 → U (s.a + 1) s.a = 0 → ∃ m, n = m + 1 ∧ p.natAbs * p.natAbs < 2 ^ m) ∧
    ((∀ r c, Pick h w U s.a r c → (U r c).natAbs < p.natAbs) → (∀ r c, Pick h w U s.a r c → ∀ i j, s.a ≤ i → s.a ≤ j → i < s.a + 2 → j < s.a + 2 → U i j ≠ 0 → (U r c).natAbs ≤ (U i j).natAbs) → (∃ r c, Pick h w U s.a r c) → ∃ m, n = m + 1 ∧ ∀ r c, Pick h w U s.a r c → p.natAbs * (U r c).natAbs < 2 ^ m) := by
  have hf := fm_half e.ne sg (Nat.le_of_lt lt)
  constructor
  · intro z1 z2
    have h0 : z.fmod p = 0 := by
      rcases hz with rfl | rfl
      · rw [← e.row]; exact z1
      · rw [← e.col]; exact z2
    have d := dbl lt h0
    have p1 : 1 ≤ p.natAbs := by have := e.ne; omega
    refine half_pow (y := z.natAbs * p.natAbs) ?_ pr (Nat.mul_pos p1 p1)
    have := Nat.mul_le_mul_right p.natAbs d
    grind
  · intro lt' least ⟨r0, c0, p0⟩
    have each : ∀ r c, Pick h w U s.a r c → 2 * (p.natAbs * (U r c).natAbs) ≤ z.natAbs * p.natAbs := fun r c pk => by
      have l1 := lt' r c pk
      have l2 : 2 * (U r c).natAbs ≤ z.natAbs := by
        by_cases h0 : z.fmod p = 0
        · have := dbl lt h0; omega
        · have l3 : (U r c).natAbs ≤ (z.fmod p).natAbs := by
            rcases hz with rfl | rfl
            · rw [← e.row] at h0 ⊢
              exact least r c pk s.a (s.a + 1) (by omega) (by omega) (by omega) (by omega) h0
            · rw [← e.col] at h0 ⊢
              exact least r c pk (s.a + 1) s.a (by omega) (by omega) (by omega) (by omega) h0
          omega
      have := Nat.mul_le_mul_right p.natAbs l2
      grind
    have one : ∀ r c, Pick h w U s.a r c → 1 ≤ p.natAbs * (U r c).natAbs := fun r c pk => Nat.mul_pos (by have := e.ne; omega) (by have := pk.ne; omega)
    obtain ⟨m, hm, _⟩ := half_pow (each r0 c0 p0) pr (one _ _ p0)
    refine ⟨m, hm, fun r c pk => ?_⟩
    obtain ⟨m', hm', z'⟩ := half_pow (each r c pk) pr (one _ _ pk)
    obtain rfl : m = m' := by omega
    exact z'
theorem kb_two {T U : Mat} {K : Nat} (x : Swept a T U) (hh : h ≤ a + 2) (hw : w ≤ a + 2) (kb : KB a h w T K) : KB a h w U K := fun i k j l h1 h2 h3 h4 h5 h6 h7 h8 => by
  have base : a + 1 < h → a + 1 < w → (m2 U a (a + 1) a (a + 1)).natAbs ≤ K := fun q1 q2 => by
    rw [x.m_piv (Nat.lt_succ_self _) (Nat.lt_succ_self _)]
    exact kb _ _ _ _ (by omega) (by omega) (by omega) (by omega) (by omega) (by omega) (by omega) (by omega)
  by_cases e1 : i = k
  · rw [e1, m2_eqR]; simp
  · by_cases e2 : j = l
    · rw [e2, m2_eqC]; simp
    · have b := base (by omega) (by omega)
      have f1 : m2 U (a + 1) a a (a + 1) = - m2 U a (a + 1) a (a + 1) := m2_swap ..
      have f2 : m2 U a (a + 1) (a + 1) a = - m2 U a (a + 1) a (a + 1) := m2_swapC ..
      have f3 : m2 U (a + 1) a (a + 1) a = m2 U a (a + 1) a (a + 1) := by rw [m2_swap, f2]; omega
      have hi := two_of h1 (by omega)
      have hj := two_of h5 (by omega)
      have hk := two_of h3 (by omega)
      have hl := two_of h7 (by omega)
      have cases4 : (i = a ∧ k = a + 1 ∧ j = a ∧ l = a + 1) ∨ (i = a + 1 ∧ k = a ∧ j = a ∧ l = a + 1) ∨ (i = a ∧ k = a + 1 ∧ j = a + 1 ∧ l = a) ∨ (i = a + 1 ∧ k = a ∧ j = a + 1 ∧ l = a) := by omega
      rcases cases4 with ⟨q1, q2, q3, q4⟩ | ⟨q1, q2, q3, q4⟩ | ⟨q1, q2, q3, q4⟩ | ⟨q1, q2, q3, q4⟩
      · rw [q1, q2, q3, q4]; exact b
      · rw [q1, q2, q3, q4, f1, Int.natAbs_neg]; exact b
      · rw [q1, q2, q3, q4, f2, Int.natAbs_neg]; exact b
      · rw [q1, q2, q3, q4, f3]; exact b
/-- the loop heads of the stage -/
structure J2 (a h w E0 e0 K E : Nat) (n : Nat) (s : SM) : Prop where
  at_ : s.a = a
  out : Out h w s.T
  eb : EB a h w s.T E
  kb : KB a h w s.T K
  pk : ∀ r c, Pick h w s.T a r c → (s.T r c).natAbs ≤ E0
  ty : 6 * e0 + 3 ≤ n ∨ (∃ k, Post a h w s.T k ∧ (3 * k + 1 ≤ n ∨ (3 * k ≤ n ∧ ∀ r c, Pick h w s.T a r c → ¬ (r = a + 1 ∧ c = a + 1)))) ∨ ∃ k, Uni a s.T k ∧ 3 * k + 2 ≤ n
theorem least_two {T : Mat} (o : Out h w T) {r c : Nat} (p : Pick h w T a r c) {i j : Nat} (h1 : a ≤ i) (h2 : a ≤ j) (n : T i j ≠ 0) : lexLe (T r c).natAbs r c (T i j).natAbs i j := by
  obtain ⟨q1, q2⟩ := out_lt o n
  exact p.least i j h1 q1 h2 q2 n
theorem gamma2_step {E0 e0 K E n : Nat} (hh : h ≤ a + 2) (hw : w ≤ a + 2) (hE : K + E0 ≤ E) (h0 : E0 < 2 ^ e0) {s t : SM} (j : J2 a h w E0 e0 K E n s) (st : Stp h w s t) :
    (t.a = a + 1 ∧ EB (a + 1) h w t.T E) ∨ ∃ m, m < n ∧ J2 a h w E0 e0 K E m t := by
  obtain ⟨sa, out, eb, kb, pk, ty⟩ := j
  subst sa
  have out' := out.step st
  -- facts of mid
  have midF : ∀ {r c : Nat}, Pick h w s.T s.a r c → EB s.a h w (mid s r c).T E ∧ KB s.a h w (mid s r c).T K := fun {r c} p => by
    have ha : s.a < h := Nat.lt_of_le_of_lt p.r0 p.r1
    have hb : s.a < w := Nat.lt_of_le_of_lt p.c0 p.c1
    have x := mid_swept p
    have k1 := kb.swap p
    refine ⟨(x.eb ha hb k1).mono ?_, kb_two x hh hw k1⟩
    rw [swT_pivot]
    have := pk r c p
    omega
  have v2 : ∀ {r c : Nat}, Pick h w s.T s.a r c → (s.T r c).natAbs * (s.T r c).natAbs < 2 ^ (2 * e0) := fun {r c} p => by
    have := pk r c p
    rw [Nat.two_mul, Nat.pow_add]
    exact Nat.mul_lt_mul'' (by omega) (by omega)
  cases st with
  | next p cl u =>
    left
    refine ⟨rfl, fun i j h1 h2 h3 h4 => (midF p).1 i j ?_ h2 ?_ h4⟩
    · have : s.a + 1 ≤ i := h1; omega
    · have : s.a + 1 ≤ j := h3; omega
  | go p nc =>
    rename_i r c
    right
    obtain ⟨eb', kb'⟩ := midF p
    have nz := nc_two hh hw p nc
    have less : ∀ r' c', Pick h w (mid s r c).T s.a r' c' → ((mid s r c).T r' c').natAbs < (s.T r c).natAbs := fun r' c' p' => go_less p nc p'
    have om : Out h w (mid s r c).T := out.midO p
    have lst : ∀ r' c', Pick h w (mid s r c).T s.a r' c' → ∀ i j, s.a ≤ i → s.a ≤ j → i < s.a + 2 → j < s.a + 2 → (mid s r c).T i j ≠ 0 → ((mid s r c).T r' c').natAbs ≤ ((mid s r c).T i j).natAbs := fun r' c' p' i j h1 h2 _ _ h5 => by
      have l := least_two om p' h1 h2 h5
      unfold lexLe at l; omega
    obtain ⟨r0, c0, p0⟩ : ∃ r' c', Pick h w (mid s r c).T s.a r' c' := by
      rcases nz with z | z
      · obtain ⟨q1, q2⟩ := out_lt om z
        exact pick_exists ⟨_, _, by omega, q1, by omega, q2, z⟩
      · obtain ⟨q1, q2⟩ := out_lt om z
        exact pick_exists ⟨_, _, by omega, q1, by omega, q2, z⟩
    have pk' : ∀ r' c', Pick h w (mid s r c).T s.a r' c' → ((mid s r c).T r' c').natAbs ≤ E0 := fun r' c' p' => by
      have := less r' c' p'
      have := pk r c p
      omega
    have e0' := ent p
    -- the next loop head, from Post
    have fin : ∀ m k, m < n → Post s.a h w (mid s r c).T k → (3 * k + 1 ≤ m ∨ (3 * k ≤ m ∧ ∀ r' c', Pick h w (mid s r c).T s.a r' c' → ¬ (r' = s.a + 1 ∧ c' = s.a + 1))) → ∃ m, m < n ∧ J2 s.a h w E0 e0 K E m (mid s r c) := fun m k hm po hk =>
      ⟨m, hm, ⟨rfl, om, eb', kb', pk', .inr (.inl ⟨k, po, hk⟩)⟩⟩
    -- by an entry z beside the pivot, of its sign, greater
    have viaA : ∀ {y x q z : Int} {k : Nat}, Ent s (mid s r c).T (s.T r c) y x q → (z = y ∨ z = x) → 0 ≤ z * s.T r c → (s.T r c).natAbs < z.natAbs → z.natAbs * (s.T r c).natAbs < 2 ^ k → 3 * k ≤ n → ∃ m, m < n ∧ J2 s.a h w E0 e0 K E m (mid s r c) := fun {y x q z k} e hz sg lt pr hk => by
      obtain ⟨m, rfl, hm⟩ := (typeA (h := h) (w := w) e hz sg lt pr).2 less lst ⟨r0, c0, p0⟩
      exact fin (3 * m + 1) m (by omega) (e.post nz hm) (.inl (Nat.le_refl _))
    rcases ty with big | ⟨k, po, hk⟩ | ⟨k, un, hk⟩
    · refine fin (6 * e0 + 1) (2 * e0) (by omega) (e0'.post nz fun r' c' p' => ?_) (.inl (by omega))
      have := v2 p
      have := less r' c' p'
      exact Nat.lt_of_le_of_lt (Nat.mul_le_mul_left _ (by omega)) (v2 p)
    · have pr := po.prod r c p
      have hk3 : 3 * k ≤ n := by omega
      rcases two_of p.r0 (by have := p.r1; omega) with rr | rr <;> rcases two_of p.c0 (by have := p.c1; omega) with cc | cc
      · -- (a, a): something beside it is less
        subst rr; subst cc
        exfalso
        rcases po.ne with z | z
        · have l := least_two out p (by omega) (by omega) z
          have := po.row.1
          unfold lexLe at l; omega
        · have l := least_two out p (by omega) (by omega) z
          have := po.col.1
          unfold lexLe at l; omega
      · subst rr; subst cc
        exact viaA (ent_ab p) (.inl rfl) po.row.2 po.row.1 pr hk3
      · subst rr; subst cc
        exact viaA (ent_ba p) (.inr rfl) po.col.2 po.col.1 pr hk3
      · subst rr; subst cc
        have e := ent_bb p
        have pp : s.T s.a s.a ≠ 0 := by have := po.row.1; omega
        have sr : s.T s.a (s.a + 1) ≠ 0 → (s.T (s.a + 1) (s.a + 1)).natAbs < (s.T s.a (s.a + 1)).natAbs := fun z => by
          have l := least_two out p (by omega) (by omega) z
          unfold lexLe at l; omega
        have sc : s.T (s.a + 1) s.a ≠ 0 → (s.T (s.a + 1) (s.a + 1)).natAbs < (s.T (s.a + 1) s.a).natAbs := fun z => by
          have l := least_two out p (by omega) (by omega) z
          unfold lexLe at l; omega
        by_cases sg : 0 ≤ s.T s.a s.a * s.T (s.a + 1) (s.a + 1)
        · rcases po.ne with z | z
          · refine viaA e (.inr rfl) (same_sign pp po.row.2 sg) (sr z) (Nat.lt_of_le_of_lt ?_ pr) hk3
            exact Nat.mul_le_mul_right _ (by have := po.row.1; omega)
          · refine viaA e (.inl rfl) (same_sign pp po.col.2 sg) (sc z) (Nat.lt_of_le_of_lt ?_ pr) hk3
            exact Nat.mul_le_mul_right _ (by have := po.col.1; omega)
        · -- of the other sign: the corner is great
          have hk1 : 3 * k + 1 ≤ n := by
            rcases hk with z | ⟨_, z⟩
            · exact z
            · exact absurd ⟨rfl, rfl⟩ (z _ _ p)
          have xy : 0 ≤ s.T s.a (s.a + 1) * s.T (s.a + 1) s.a := same_sign pp po.row.2 po.col.2
          have u1 : ((mid s (s.a + 1) (s.a + 1)).T s.a (s.a + 1)).natAbs ≤ (s.T (s.a + 1) s.a).natAbs := by
            rw [e.row]
            by_cases z : s.T (s.a + 1) s.a = 0
            · rw [z, Int.zero_fmod]; exact Nat.le_refl _
            · have := sc z
              have := fm_lt (x := s.T (s.a + 1) s.a) e.ne
              omega
          have u2 : ((mid s (s.a + 1) (s.a + 1)).T (s.a + 1) s.a).natAbs ≤ (s.T s.a (s.a + 1)).natAbs := by
            rw [e.col]
            by_cases z : s.T s.a (s.a + 1) = 0
            · rw [z, Int.zero_fmod]; exact Nat.le_refl _
            · have := sr z
              have := fm_lt (x := s.T s.a (s.a + 1)) e.ne
              omega
          have u3 : ((mid s (s.a + 1) (s.a + 1)).T (s.a + 1) s.a * (mid s (s.a + 1) (s.a + 1)).T s.a (s.a + 1)).natAbs ≤ (s.T s.a (s.a + 1) * s.T (s.a + 1) s.a).natAbs := by
            rw [Int.natAbs_mul, Int.natAbs_mul]
            exact Nat.mul_le_mul u2 u1
          have rest := e.rest
          have corner : (s.T (s.a + 1) (s.a + 1)).natAbs * (s.T s.a s.a).natAbs ≤ (s.T (s.a + 1) (s.a + 1)).natAbs * ((mid s (s.a + 1) (s.a + 1)).T (s.a + 1) (s.a + 1)).natAbs := by
            rw [← Int.natAbs_mul, ← Int.natAbs_mul, rest]
            have c1 : s.T (s.a + 1) (s.a + 1) * s.T s.a s.a < 0 := by rw [Int.mul_comm]; omega
            generalize s.T (s.a + 1) (s.a + 1) * s.T s.a s.a = A at c1 ⊢
            generalize (mid s (s.a + 1) (s.a + 1)).T (s.a + 1) s.a * (mid s (s.a + 1) (s.a + 1)).T s.a (s.a + 1) = B at u3 ⊢
            generalize s.T s.a (s.a + 1) * s.T (s.a + 1) s.a = C at xy u3 ⊢
            omega
          have corner2 : (s.T s.a s.a).natAbs ≤ ((mid s (s.a + 1) (s.a + 1)).T (s.a + 1) (s.a + 1)).natAbs := Nat.le_of_mul_le_mul_left corner (by have := e.ne; omega)
          refine fin (3 * k) k (by omega) (e.post nz fun r' c' p' => ?_) (.inr ⟨Nat.le_refl _, fun r' c' p' hrc => ?_⟩)
          · have l1 := less r' c' p'
            refine Nat.lt_of_le_of_lt ?_ pr
            rw [Nat.mul_comm (s.T s.a s.a).natAbs]
            refine Nat.mul_le_mul_left _ ?_
            rcases po.ne with z | z
            · have := sr z; have := po.row.1; omega
            · have := sc z; have := po.col.1; omega
          · obtain ⟨rfl, rfl⟩ := hrc
            have l1 := less _ _ p'
            rcases po.ne with z | z
            · have := sr z; have := po.row.1; omega
            · have := sc z; have := po.col.1; omega
    · -- behind an addition
      have gne : s.T s.a (s.a + 1) ≠ 0 := fun z => un.bad (by rw [z]; exact Int.zero_fmod _)
      rcases two_of p.r0 (by have := p.r1; omega) with rr | rr <;> rcases two_of p.c0 (by have := p.c1; omega) with cc | cc
      · subst rr; subst cc
        have e := ent_aa p
        refine fin (3 * k + 1) k (by omega) (e.post nz fun r' c' p' => ?_) (.inl (Nat.le_refl _))
        have := less r' c' p'
        exact Nat.lt_of_le_of_lt (Nat.mul_le_mul_left _ (by omega)) un.prod
      · subst rr; subst cc
        have e := ent_ab p
        have l0 := least_two out p (Nat.le_refl _) (Nat.le_refl _) un.pne
        refine fin (3 * k + 1) k (by omega) (e.post nz fun r' c' p' => ?_) (.inl (Nat.le_refl _))
        have := less r' c' p'
        unfold lexLe at l0
        exact Nat.lt_of_le_of_lt (Nat.mul_le_mul (by omega) (by omega)) un.prod
      · subst rr; subst cc
        exact absurd un.col p.ne
      · subst rr; subst cc
        exfalso
        have l0 := least_two out p (by omega) (by omega) gne
        rw [un.row] at l0
        unfold lexLe at l0; omega
  | add p cl u =>
    rename_i r c i
    right
    obtain ⟨eb', kb'⟩ := midF p
    have ilo : s.a < i := u.lo
    have ihi := u.hi
    obtain rfl : i = s.a + 1 := by omega
    have ha : s.a < h := Nat.lt_of_le_of_lt p.r0 p.r1
    obtain ⟨z1, z2⟩ := cl_two out p cl
    have c1 : ∀ i, s.a < i → i < h → (mid s r c).T i s.a = 0 := cl.1
    have c2 : ∀ j, s.a < j → j < w → (mid s r c).T s.a j = 0 := cl.2
    have e0' := ent p
    have t1 : addT (mid s r c).T s.a (s.a + 1) s.a s.a = s.T r c := by rw [addT_a, z2, Int.add_zero, mid_pivot]
    have t2 : addT (mid s r c).T s.a (s.a + 1) s.a (s.a + 1) = (mid s r c).T (s.a + 1) (s.a + 1) := by rw [addT_a, z1, Int.zero_add]
    have t3 : addT (mid s r c).T s.a (s.a + 1) (s.a + 1) s.a = 0 := by rw [addT_ne _ _ (by omega)]; exact z2
    have t4 : addT (mid s r c).T s.a (s.a + 1) (s.a + 1) (s.a + 1) = (mid s r c).T (s.a + 1) (s.a + 1) := addT_ne _ _ (by omega)
    have bad : ((mid s r c).T (s.a + 1) (s.a + 1)).fmod (s.T r c) ≠ 0 := by
      obtain ⟨j, j1, j2, j3⟩ := u.bad
      have j1' : s.a < j := j1
      obtain rfl : j = s.a + 1 := by omega
      have j3' : ((mid s r c).T (s.a + 1) (s.a + 1)).fmod ((mid s r c).T s.a s.a) ≠ 0 := j3
      rw [mid_pivot] at j3'; exact j3'
    have uni : ∀ k, (s.T r c).natAbs * (s.T r c).natAbs < 2 ^ k → Uni s.a (addT (mid s r c).T s.a (s.a + 1)) k := fun k hk =>
      ⟨by rw [t1]; exact p.ne, by rw [t2, t4], t3, by rw [t1, t2]; exact bad, by rw [t1]; exact hk⟩
    have fin : ∀ m k, m < n → (s.T r c).natAbs * (s.T r c).natAbs < 2 ^ k → 3 * k + 2 ≤ m → ∃ m, m < n ∧ J2 s.a h w E0 e0 K E m (addRow (mid s r c) (s.a + 1)) := fun m k hm hk hk2 =>
      ⟨m, hm, ⟨rfl, out', add_eb ilo ihi eb' c1 c2, add_kb ilo ihi ha kb' c1 c2, fun r' c' p' => by
        have l : lexLe ((addRow (mid s r c) (s.a + 1)).T r' c').natAbs r' c' (addT (mid s r c).T s.a (s.a + 1) s.a s.a).natAbs s.a s.a := least_two out' p' (Nat.le_refl _) (Nat.le_refl _) (by
          show addT (mid s r c).T s.a (s.a + 1) s.a s.a ≠ 0
          rw [t1]; exact p.ne)
        rw [t1] at l
        have := pk r c p
        unfold lexLe at l; omega, .inr (.inr ⟨k, uni k hk, hk2⟩)⟩⟩
    have viaA : ∀ {y x q z : Int} {k : Nat}, Ent s (mid s r c).T (s.T r c) y x q → (z = y ∨ z = x) → (s.T r c).natAbs < z.natAbs → z.natAbs * (s.T r c).natAbs < 2 ^ k → 3 * k ≤ n → ∃ m, m < n ∧ J2 s.a h w E0 e0 K E m (addRow (mid s r c) (s.a + 1)) := fun {y x q z k} e hz lt pr hk => by
      have h0 : z.fmod (s.T r c) = 0 := by
        rcases hz with rfl | rfl
        · rw [← e.row]; exact z1
        · rw [← e.col]; exact z2
      have d := dbl lt h0
      have p1 : 1 ≤ (s.T r c).natAbs := by have := p.ne; omega
      obtain ⟨m, rfl, hm⟩ := half_pow (x := (s.T r c).natAbs * (s.T r c).natAbs) (y := z.natAbs * (s.T r c).natAbs) (by
        have := Nat.mul_le_mul_right (s.T r c).natAbs d
        grind) pr (Nat.mul_pos p1 p1)
      exact fin (3 * m + 2) m (by omega) hm (Nat.le_refl _)
    rcases ty with big | ⟨k, po, hk⟩ | ⟨k, un, hk⟩
    · exact fin (6 * e0 + 2) (2 * e0) (by omega) (v2 p) (by omega)
    · have pr := po.prod r c p
      have hk3 : 3 * k ≤ n := by omega
      rcases two_of p.r0 (by have := p.r1; omega) with rr | rr <;> rcases two_of p.c0 (by have := p.c1; omega) with cc | cc
      · subst rr; subst cc
        exfalso
        rcases po.ne with z | z
        · have l := least_two out p (by omega) (by omega) z
          have := po.row.1
          unfold lexLe at l; omega
        · have l := least_two out p (by omega) (by omega) z
          have := po.col.1
          unfold lexLe at l; omega
      · subst rr; subst cc
        exact viaA (ent_ab p) (.inl rfl) po.row.1 pr hk3
      · subst rr; subst cc
        exact viaA (ent_ba p) (.inr rfl) po.col.1 pr hk3
      · subst rr; subst cc
        have e := ent_bb p
        rcases po.ne with z | z
        · have l := least_two out p (by omega) (by omega) z
          refine viaA e (.inr rfl) (by unfold lexLe at l; omega) (Nat.lt_of_le_of_lt ?_ pr) hk3
          exact Nat.mul_le_mul_right _ (by have := po.row.1; omega)
        · have l := least_two out p (by omega) (by omega) z
          refine viaA e (.inl rfl) (by unfold lexLe at l; omega) (Nat.lt_of_le_of_lt ?_ pr) hk3
          exact Nat.mul_le_mul_right _ (by have := po.col.1; omega)
    · exfalso
      have gne : s.T s.a (s.a + 1) ≠ 0 := fun z => un.bad (by rw [z]; exact Int.zero_fmod _)
      rcases two_of p.r0 (by have := p.r1; omega) with rr | rr <;> rcases two_of p.c0 (by have := p.c1; omega) with cc | cc
      · subst rr; subst cc
        have e := ent_aa p
        refine un.bad ?_
        rw [← e.row]; exact z1
      · subst rr; subst cc
        have e := ent_ab p
        have dv : (s.T s.a s.a).fmod (s.T s.a (s.a + 1)) = 0 := by rw [← e.row]; exact z1
        have rest := e.rest
        rw [z1, z2, un.col, ← un.row] at rest
        have r2 : s.T s.a (s.a + 1) * (mid s s.a (s.a + 1)).T (s.a + 1) (s.a + 1) = s.T s.a (s.a + 1) * - s.T s.a s.a := by rw [rest]; grind
        have r3 := Int.eq_of_mul_eq_mul_left gne r2
        refine bad ?_
        rw [r3]
        exact Int.fmod_eq_zero_of_dvd (Int.dvd_neg.mpr (Int.dvd_of_fmod_eq_zero dv))
      · subst rr; subst cc
        exact absurd un.col p.ne
      · subst rr; subst cc
        have l0 := least_two out p (by omega) (by omega) gne
        rw [un.row] at l0
        unfold lexLe at l0; omega
/-- THE STAGE -/
theorem gamma2 {E0 e0 K E e b top : Nat} (ha : a < h) (hb : a < w) (hh : h ≤ a + 2) (hw : w ≤ a + 2) (hK : K + E0 ≤ E) (h0 : E0 < 2 ^ e0) (hE : E < 2 ^ 8990) (he : E + 1 ≤ 2 ^ e) (htop : top ≤ 134000000) (s : SM) (sa : s.a = a) (out : Out h w s.T)
    (d : DoneB h w s E) (eb : EB a h w s.T E) (eb0 : EB a h w s.T E0) (kb : KB a h w s.T K) (l : MB h s.L (2 ^ b)) (r : MB w s.R (2 ^ b)) (tp : b + (6 * e0 + 4) * (e + 1) ≤ top) :
    ∃ t, SmTo (Fit h w) h w s t ∧ (Done h w t ∨ t.a = a + 1) ∧ DoneB h w t E ∧ EB t.a h w t.T E ∧ MB h t.L (2 ^ top) ∧ MB w t.R (2 ^ top) :=
  stage (J := J2 a h w E0 e0 K E) hE he htop (fun _ _ j => ⟨j.at_, j.eb⟩) (fun _ _ _ j st => gamma2_step hh hw hK h0 j st) (6 * e0 + 3) s b
    ⟨sa, out, eb, kb, fun r c p => eb0 r c p.r0 p.r1 p.c0 p.c1, .inl (Nat.le_refl _)⟩ d l r tp
end
end K17
end
section
set_option autoImplicit false
/-! KSize6: the first stage from entries of at most 6. Plain Lean. -/
namespace K17

theorem stageX {a h w E e top : Nat} {J : Nat → SM → Prop} {X : SM → Prop} (hE : E < 2 ^ 8990) (he : E + 1 ≤ 2 ^ e) (htop : top ≤ 134000000)
    (inv : ∀ n s, J n s → s.a = a ∧ EB a h w s.T E)
    (step : ∀ n s t, J n s → Stp h w s t → (t.a = a + 1 ∧ EB (a + 1) h w t.T E ∧ X t) ∨ ∃ m, m < n ∧ J m t) :
    ∀ (n : Nat) (s : SM) (b : Nat), J n s → DoneB h w s E → MB h s.L (2 ^ b) → MB w s.R (2 ^ b) → b + (n + 1) * (e + 1) ≤ top →
      ∃ t, SmTo (Fit h w) h w s t ∧ (Done h w t ∨ (t.a = a + 1 ∧ X t)) ∧ DoneB h w t E ∧ EB t.a h w t.T E ∧ MB h t.L (2 ^ top) ∧ MB w t.R (2 ^ top) := by
  intro n
  induction n using Nat.strongRecOn with
  | _ n ih =>
    intro s b j d l r tp
    obtain ⟨sa, eb⟩ := inv n s j
    have up : (2 : Nat) ^ b ≤ 2 ^ top := Nat.pow_le_pow_right (by decide) (by omega)
    by_cases dn : Done h w s
    · exact ⟨s, .refl, .inl dn, d, by rw [sa]; exact eb, l.mono up, r.mono up⟩
    · obtain ⟨t, st⟩ := stp_exists dn
      have eb' : EB s.a h w s.T E := by rw [sa]; exact eb
      have fit : Fit h w s := fit_of d eb' hE (show b ≤ 134000000 by omega) l r
      have d' := st.done d eb' (Nat.le_refl _)
      obtain ⟨l', r'⟩ := st.grows eb' l r
      have gp := grow_pow (b := b) he
      have l2 := l'.mono gp
      have r2 := r'.mono gp
      rcases step n s t j st with ⟨ta, te, tx⟩ | ⟨m, lt, jm⟩
      · have up2 : (2 : Nat) ^ (b + (e + 1)) ≤ 2 ^ top := Nat.pow_le_pow_right (by decide) (by
          have : (n + 1) * (e + 1) = n * (e + 1) + (e + 1) := by rw [Nat.add_mul, Nat.one_mul]
          omega)
        exact ⟨t, .step fit st .refl, .inr ⟨ta, tx⟩, d', by rw [ta]; exact te, l2.mono up2, r2.mono up2⟩
      · have tp' : b + (e + 1) + (m + 1) * (e + 1) ≤ top := by
          have h1 : (m + 1) * (e + 1) ≤ n * (e + 1) := Nat.mul_le_mul_right _ lt
          have : (n + 1) * (e + 1) = n * (e + 1) + (e + 1) := by rw [Nat.add_mul, Nat.one_mul]
          omega
        obtain ⟨u, a1, a2, a3, a4, a5, a6⟩ := ih m lt t (b + (e + 1)) jm d' l2 r2 tp'
        exact ⟨u, .step fit st a1, a2, a3, a4, a5, a6⟩
/-! ### small numbers -/
def L13 : List Int := [-6, -5, -4, -3, -2, -1, 0, 1, 2, 3, 4, 5, 6]
theorem mem13 {x : Int} (h : x.natAbs ≤ 6) : x ∈ L13 := by
  have : x = -6 ∨ x = -5 ∨ x = -4 ∨ x = -3 ∨ x = -2 ∨ x = -1 ∨ x = 0 ∨ x = 1 ∨ x = 2 ∨ x = 3 ∨ x = 4 ∨ x = 5 ∨ x = 6 := by omega
  unfold L13
  rcases this with rfl | rfl | rfl | rfl | rfl | rfl | rfl | rfl | rfl | rfl | rfl | rfl | rfl <;> decide
/-- what becomes of an entry S with x in its row and y in its column, P the pivot -/
def newS (P x y S : Int) : Int := (S - x.fdiv P * y) - y.fdiv P * x.fmod P
def dom (v : Nat) (x : Int) : Bool := x == 0 || decide (v ≤ x.natAbs)
/-- remainders by 4 and 5 -/
theorem dec1 : ∀ P ∈ ([4, -4, 5, -5] : List Int), ∀ x ∈ L13, dom P.natAbs x = true → (x.fmod P).natAbs ≤ 2 ∨ (x.fmod P).natAbs + 1 = P.natAbs := by decide +kernel
theorem dec2 : ∀ P ∈ ([4, -4, 5, -5] : List Int), ∀ x ∈ L13, dom P.natAbs x = true → ∀ y ∈ L13, dom P.natAbs y = true → ∀ S ∈ L13, dom P.natAbs S = true →
    ((x.fmod P).natAbs == 1 || (x.fmod P).natAbs == 2 || (y.fmod P).natAbs == 1 || (y.fmod P).natAbs == 2 || decide ((newS P x y S).natAbs ≤ 2) || decide (P.natAbs ≤ (newS P x y S).natAbs) || (decide ((newS P x y S).natAbs + 1 = P.natAbs) && decide (y.fmod P ≠ 0))) = true := by decide +kernel
theorem dec3 : ∀ P ∈ ([4, -4, 5, -5] : List Int), ∀ x ∈ L13, dom P.natAbs x = true → ∀ y ∈ L13, dom P.natAbs y = true → ∀ S ∈ L13, dom P.natAbs S = true →
    (x.fmod P != 0 || y.fmod P != 0 || (decide ((newS P x y S).natAbs ≤ 2 ∨ P.natAbs ≤ (newS P x y S).natAbs) && decide (((newS P x y S).fmod P).natAbs ≤ 2 ∨ ((newS P x y S).fmod P).natAbs + 1 = P.natAbs))) = true := by decide +kernel
theorem dec6 : ∀ P ∈ ([6, -6] : List Int), ∀ x ∈ L13, dom 6 x = true → ∀ y ∈ L13, dom 6 y = true → ∀ S ∈ L13, dom 6 S = true → (decide (x.fmod P = 0) && decide ((newS P x y S).fmod P = 0)) = true := by decide +kernel

section
variable {a h w : Nat}
/-- entries behind a step -/
theorem eb_sweep {s : SM} {r c E F : Nat} (p : Pick h w s.T s.a r c) (eb : EB s.a h w s.T E) (hF : E ≤ F) (hv : (s.T r c).natAbs * E + E * E + ((s.T r c).natAbs - 1) * ((s.T r c).natAbs - 1) < (s.T r c).natAbs * (F + 1)) : EB s.a h w (mid s r c).T F := fun i j h1 h2 h3 h4 => by
  have x := mid_swept p
  have ha : s.a < h := Nat.lt_of_le_of_lt p.r0 p.r1
  have hb : s.a < w := Nat.lt_of_le_of_lt p.c0 p.c1
  have vE : (s.T r c).natAbs ≤ E := eb r c p.r0 p.r1 p.c0 p.c1
  by_cases q : i = s.a
  · subst q
    by_cases q2 : j = s.a
    · subst q2
      rw [mid_pivot]; omega
    · have := x.row_lt (show s.a < j by omega)
      rw [swT_pivot] at this; omega
  · by_cases q2 : j = s.a
    · subst q2
      have := x.col_lt (show s.a < i by omega)
      rw [swT_pivot] at this; omega
    · have l := x.rest_le (eb.swap p) ha hb (show s.a < i by omega) h2 (show s.a < j by omega) h4
      rw [swT_pivot] at l
      have := Nat.lt_of_mul_lt_mul_left (Nat.lt_of_le_of_lt l hv)
      omega
theorem fmod_one {x p : Int} (hp : p.natAbs = 1) : x.fmod p = 0 := by
  have := fm_lt (x := x) (h := p) (by omega)
  omega
theorem one_clean {s : SM} {r c : Nat} (p : Pick h w s.T s.a r c) (v : (s.T r c).natAbs = 1) : Clean h w (mid s r c) := by
  have x := mid_swept p
  refine ⟨fun i h1 _ => ?_, fun j h1 _ => ?_⟩
  · have h1' : s.a < i := h1
    show (mid s r c).T i s.a = 0
    rw [x.col i h1', swT_pivot]; exact fmod_one v
  · have h1' : s.a < j := h1
    show (mid s r c).T s.a j = 0
    rw [x.row j h1', swT_pivot]; exact fmod_one v
theorem one_fit {s : SM} {r c : Nat} (v : (s.T r c).natAbs = 1) (i : Nat) : ¬ BadRow w (mid s r c) i := fun ⟨j, _, _, b⟩ => b (by
  show ((mid s r c).T i j).fmod ((mid s r c).T s.a s.a) = 0
  rw [mid_pivot]; exact fmod_one v)
/-- at another place of the row or column of a place -/
def Beside (a h w : Nat) (T : Mat) (r c : Nat) (z : Int) : Prop := (∃ c', a ≤ c' ∧ c' < w ∧ c' ≠ c ∧ z = T r c') ∨ ∃ r', a ≤ r' ∧ r' < h ∧ r' ≠ r ∧ z = T r' c
theorem swN_ne {a r i : Nat} (h : i ≠ r) : swN a r i ≠ a := by
  unfold swN
  repeat' split
  all_goals omega
theorem beside_rem {s : SM} {r c : Nat} {z : Int} (p : Pick h w s.T s.a r c) (b : Beside s.a h w s.T r c z) : ∃ i j, s.a ≤ i ∧ i < h ∧ s.a ≤ j ∧ j < w ∧ ((i = s.a ∧ s.a < j) ∨ (j = s.a ∧ s.a < i)) ∧ (mid s r c).T i j = z.fmod (s.T r c) := by
  have x := mid_swept p
  have ha : s.a < h := Nat.lt_of_le_of_lt p.r0 p.r1
  have hb : s.a < w := Nat.lt_of_le_of_lt p.c0 p.c1
  rcases b with ⟨c', h1, h2, h3, rfl⟩ | ⟨r', h1, h2, h3, rfl⟩
  · have hi := swN_high (a := s.a) (r := c) h1 p.c0
    have hn := swN_ne (a := s.a) h3
    refine ⟨s.a, swN s.a c c', Nat.le_refl _, ha, hi, swN_lt hb p.c1 h2, .inl ⟨rfl, by omega⟩, ?_⟩
    rw [x.row _ (by omega), swT_pivot]
    have e : swT s r c s.a (swN s.a c c') = s.T r c' := by
      unfold swT swapC swapR
      rw [swN_swN]
      unfold swN
      rw [if_pos rfl]
    rw [e]
  · have hi := swN_high (a := s.a) (r := r) h1 p.r0
    have hn := swN_ne (a := s.a) h3
    refine ⟨swN s.a r r', s.a, hi, swN_lt ha p.r1 h2, Nat.le_refl _, hb, .inr ⟨rfl, by omega⟩, ?_⟩
    rw [x.col _ (by omega), swT_pivot]
    have e : swT s r c (swN s.a r r') s.a = s.T r' c := by
      unfold swT swapC swapR
      rw [swN_swN]
      unfold swN
      rw [if_pos rfl]
    rw [e]
/-- one more than the pivot, of its sign: the remainder is 1 -/
theorem succ_rem {z p : Int} (hz : z.natAbs = p.natAbs + 1) (sg : 0 ≤ z * p) (hp : 2 ≤ p.natAbs) : (z.fmod p).natAbs = 1 := by
  have hf := fm_half (x := z) (p := p) (by omega) sg (by omega)
  have n0 : z.fmod p ≠ 0 := fun q => by
    have := dbl (z := z) (p := p) (by omega) q
    omega
  omega
structure S1P (a h w : Nat) (T : Mat) : Prop where
  eb : EB a h w T 24
  q : ∀ r c, Pick h w T a r c → (T r c).natAbs ≤ 5 ∧ ((T r c).natAbs ≤ 2 ∨ ∃ z, Beside a h w T r c z ∧ z.natAbs = (T r c).natAbs + 1 ∧ 0 ≤ z * T r c)
structure U1P (a h w : Nat) (T : Mat) : Prop where
  eb : EB a h w T 24
  col : ∀ i, a < i → i < h → T i a = 0
  five : (T a a).natAbs ≤ 5
  bad : Ready a w T
  q : ∀ r c, Pick h w T a r c → (T r c).natAbs ≤ 2 ∨ ((r = a ∧ c = a) ∧ ((T a a).natAbs ≤ 3 ∨ ((∀ j, a < j → j < w → ((T a j).fmod (T a a)).natAbs ≤ 2 ∨ ((T a j).fmod (T a a)).natAbs + 1 = (T a a).natAbs) ∧ ∀ i j, a < i → i < h → a < j → j < w → (T i j).natAbs ≤ 2 ∨ (T a a).natAbs ≤ (T i j).natAbs)))
structure S2P (a h w : Nat) (T : Mat) : Prop where
  eb : EB a h w T 312
  ne : T a a ≠ 0
  row : ∀ j, a < j → (T a j).natAbs < (T a a).natAbs
  col : ∀ i, a < i → (T i a).natAbs < (T a a).natAbs
  m : ∀ i j, a < i → i < h → a < j → j < w → (m2 T a i a j).natAbs ≤ 696
  one : ∀ r c, Pick h w T a r c → (T r c).natAbs = 1
structure U2P (a h w : Nat) (T : Mat) : Prop where
  eb : EB a h w T 312
  two : (T a a).natAbs = 2
  col : ∀ i, a < i → i < h → T i a = 0
  bad : Ready a w T
  m : ∀ i j, a < i → i < h → a < j → j < w → (T a a * T i j).natAbs ≤ 696
  same : ∃ i, a < i ∧ i < h ∧ ∀ j, a < j → j < w → T a j = T i j
def J0 (a h w n : Nat) (s : SM) : Prop := s.a = a ∧ ((5 ≤ n ∧ EB a h w s.T 6) ∨ (4 ≤ n ∧ U1P a h w s.T) ∨ (3 ≤ n ∧ S1P a h w s.T) ∨ (2 ≤ n ∧ U2P a h w s.T) ∨ (1 ≤ n ∧ S2P a h w s.T))
def X0 (a h w : Nat) (s : SM) : Prop := ∀ r c, Pick h w s.T (a + 1) r c → (s.T r c).natAbs ≤ 1392
theorem eb_next {s : SM} {r c E F : Nat} (e : EB s.a h w (mid s r c).T E) (hF : E ≤ F) : EB (s.a + 1) h w ({ mid s r c with a := s.a + 1 } : SM).T F := fun i j h1 h2 h3 h4 => Nat.le_trans (e i j (by omega) h2 (by omega) h4) hF
theorem x_next {s : SM} {r c E : Nat} (e : EB s.a h w (mid s r c).T E) (hF : E ≤ 1392) : X0 s.a h w ({ mid s r c with a := s.a + 1 } : SM) := fun r' c' p' => Nat.le_trans (e r' c' (by have := p'.r0; omega) p'.r1 (by have := p'.c0; omega) p'.c1) hF
/-- the minors with the pivot, from entries -/
theorem m_le {s : SM} {r c : Nat} (p : Pick h w s.T s.a r c) (eb : EB s.a h w s.T 24) (v5 : (s.T r c).natAbs ≤ 5) {i j : Nat} (h1 : s.a < i) (h2 : i < h) (h3 : s.a < j) (h4 : j < w) : (m2 (mid s r c).T s.a i s.a j).natAbs ≤ 696 := by
  have x := mid_swept p
  have ha : s.a < h := Nat.lt_of_le_of_lt p.r0 p.r1
  have hb : s.a < w := Nat.lt_of_le_of_lt p.c0 p.c1
  have es := eb.swap p
  rw [x.m_piv h1 h3]
  unfold m2
  rw [swT_pivot]
  have n1 : (s.T r c * swT s r c i j).natAbs ≤ 5 * 24 := by rw [Int.natAbs_mul]; exact Nat.mul_le_mul v5 (es i j (by omega) h2 (by omega) h4)
  have n2 : (swT s r c s.a j * swT s r c i s.a).natAbs ≤ 24 * 24 := by rw [Int.natAbs_mul]; exact Nat.mul_le_mul (es _ _ (Nat.le_refl _) ha (by omega) h4) (es _ _ (by omega) h2 (Nat.le_refl _) hb)
  have := natAbs_sub_le (s.T r c * swT s r c i j) (swT s r c s.a j * swT s r c i s.a)
  omega
/-- behind a step with a pivot from 2 to 5, not clean -/
theorem to_S2 {s : SM} {r c : Nat} (p : Pick h w s.T s.a r c) (nc : ¬ Clean h w (mid s r c)) (e' : EB s.a h w (mid s r c).T 312) (m : ∀ i j, s.a < i → i < h → s.a < j → j < w → (m2 (mid s r c).T s.a i s.a j).natAbs ≤ 696)
    (one : (s.T r c).natAbs ≤ 2 ∨ ∃ i j, s.a ≤ i ∧ i < h ∧ s.a ≤ j ∧ j < w ∧ ((mid s r c).T i j).natAbs = 1) : S2P s.a h w (mid s r c).T := by
  have x := mid_swept p
  refine ⟨e', by rw [mid_pivot]; exact p.ne, fun j hj => by rw [mid_pivot]; have := x.row_lt hj; rw [swT_pivot] at this; exact this, fun i hi => by rw [mid_pivot]; have := x.col_lt hi; rw [swT_pivot] at this; exact this, m, fun r' c' p' => ?_⟩
  have n0 := p'.ne
  rcases one with q | ⟨i, j, h1, h2, h3, h4, h5⟩
  · have := go_less p nc p'
    omega
  · have l := p'.least i j h1 h2 h3 h4 (by omega)
    unfold lexLe at l; omega
/-- behind an addition with the pivot 2 -/
theorem to_U2 {s : SM} {r c i : Nat} (p : Pick h w s.T s.a r c) (cl : Clean h w (mid s r c)) (u : Unfit h w (mid s r c) i) (v2 : (s.T r c).natAbs = 2) (e' : EB s.a h w (mid s r c).T 312) (m : ∀ i j, s.a < i → i < h → s.a < j → j < w → (m2 (mid s r c).T s.a i s.a j).natAbs ≤ 696) :
    U2P s.a h w (addRow (mid s r c) i).T := by
  have c1 : ∀ i, s.a < i → i < h → (mid s r c).T i s.a = 0 := cl.1
  have c2 : ∀ j, s.a < j → j < w → (mid s r c).T s.a j = 0 := cl.2
  have ilo : s.a < i := u.lo
  have t1 : addT (mid s r c).T s.a i s.a s.a = s.T r c := by rw [addT_a, c1 i ilo u.hi, Int.add_zero, mid_pivot]
  refine ⟨add_eb ilo u.hi e' c1 c2, ?_, fun k h1 h2 => ?_, ?_, fun k j h1 h2 h3 h4 => ?_, ⟨i, ilo, u.hi, fun j h1 h2 => ?_⟩⟩
  · show (addT (mid s r c).T s.a i s.a s.a).natAbs = 2
    rw [t1]; exact v2
  · show addT (mid s r c).T s.a i k s.a = 0
    rw [addT_ne _ _ (by omega)]; exact c1 k h1 h2
  · obtain ⟨j, j1, j2, j3⟩ := u.bad
    have j1' : s.a < j := j1
    refine ⟨j, j1', j2, ?_⟩
    show (addT (mid s r c).T s.a i s.a j).fmod (addT (mid s r c).T s.a i s.a s.a) ≠ 0
    rw [t1, addT_a, c2 j j1' j2, Int.zero_add]
    have j3' : ((mid s r c).T i j).fmod ((mid s r c).T s.a s.a) ≠ 0 := j3
    rw [mid_pivot] at j3'; exact j3'
  · show (addT (mid s r c).T s.a i s.a s.a * addT (mid s r c).T s.a i k j).natAbs ≤ 696
    rw [t1, addT_ne _ _ (by omega)]
    have z := m k j h1 h2 h3 h4
    unfold m2 at z
    rw [mid_pivot, c2 j h3 h4] at z
    simpa using z
  · show addT (mid s r c).T s.a i s.a j = addT (mid s r c).T s.a i i j
    rw [addT_a, addT_ne _ _ (by omega), c2 j h1 h2, Int.zero_add]
theorem swN_r (a r : Nat) : swN a r r = a := by
  unfold swN
  split
  · assumption
  · rw [if_pos rfl]
theorem swN_ne2 {a r i : Nat} (h : i ≠ a) : swN a r i ≠ r := by
  unfold swN
  repeat' split
  all_goals omega
/-- the entries of the rest behind a clean step with the pivot 1 or -1 -/
theorem one_val {s : SM} {r c : Nat} (p : Pick h w s.T s.a r c) (v : (s.T r c).natAbs = 1) {i j : Nat} (hi : s.a < i) (hi2 : i < h) (hj : s.a < j) (hj2 : j < w) : ((mid s r c).T i j).natAbs = (m2 s.T r (swN s.a r i) c (swN s.a c j)).natAbs := by
  have x := mid_swept p
  have cl := one_clean p v
  have e := x.m_piv hi hj
  have z : (mid s r c).T s.a j = 0 := cl.2 j hj hj2
  have e2 : m2 (mid s r c).T s.a i s.a j = s.T r c * (mid s r c).T i j := by
    unfold m2
    rw [mid_pivot, z]; simp
  have e3 : m2 (swT s r c) s.a i s.a j = m2 s.T r (swN s.a r i) c (swN s.a c j) := by
    unfold m2 swT swapC swapR
    have q1 : swN s.a r s.a = r := if_pos rfl
    have q2 : swN s.a c s.a = c := if_pos rfl
    rw [q1, q2]
  rw [e2, e3] at e
  rw [← e, Int.natAbs_mul, v, Nat.one_mul]
/-- one more step from S2: some entry of the rest is small -/
theorem olg {s : SM} {r c : Nat} (q : S2P s.a h w s.T) (p : Pick h w s.T s.a r c) : X0 s.a h w ({ mid s r c with a := s.a + 1 } : SM) := fun r' c' p' => by
  have v := q.one r c p
  have ha : s.a < h := Nat.lt_of_le_of_lt p.r0 p.r1
  have hb : s.a < w := Nat.lt_of_le_of_lt p.c0 p.c1
  have r0' : s.a < r' := p'.r0
  have c0' : s.a < c' := p'.c0
  have r1' : r' < h := p'.r1
  have c1' : c' < w := p'.c1
  have pne : s.T s.a s.a ≠ 0 := q.ne
  have small : ∀ i j, s.a < i → i < h → s.a < j → j < w → (mid s r c).T i j ≠ 0 → ((mid s r c).T i j).natAbs ≤ 1392 → ((mid s r c).T r' c').natAbs ≤ 1392 := fun i j h1 h2 h3 h4 h5 h6 => by
    have l : lexLe ((mid s r c).T r' c').natAbs r' c' ((mid s r c).T i j).natAbs i j := p'.least i j h1 h2 h3 h4 h5
    unfold lexLe at l; omega
  show ((mid s r c).T r' c').natAbs ≤ 1392
  -- the three kinds that are bounded by the minors with the old pivot
  have mm : ∀ {R C : Nat}, s.a < R → R < h → s.a < C → C < w → (m2 s.T s.a R s.a C).natAbs ≤ 696 := fun h1 h2 h3 h4 => q.m _ _ h1 h2 h3 h4
  have rowK : ∀ {R k C : Nat}, s.a < R → R < h → s.a < k → k < w → s.a < C → C < w → (m2 s.T s.a R k C).natAbs ≤ 1392 := fun {R k C} h1 h2 h3 h4 h5 h6 => by
    have e : s.T s.a s.a * m2 s.T s.a R k C = s.T s.a k * m2 s.T s.a R s.a C - s.T s.a C * m2 s.T s.a R s.a k := by unfold m2; grind
    exact bound_two pne e (q.row _ h3) (q.row _ h5) (mm h1 h2 h5 h6) (mm h1 h2 h3 h4)
  have colK : ∀ {l R C : Nat}, s.a < l → l < h → s.a < R → R < h → s.a < C → C < w → (m2 s.T l R s.a C).natAbs ≤ 1392 := fun {l R C} h1 h2 h3 h4 h5 h6 => by
    have e : s.T s.a s.a * m2 s.T l R s.a C = s.T l s.a * m2 s.T s.a R s.a C - s.T R s.a * m2 s.T s.a l s.a C := by unfold m2; grind
    exact bound_two pne e (q.col _ h1) (q.col _ h3) (mm h3 h4 h5 h6) (mm h1 h2 h5 h6)
  have hR := swN_ne2 (a := s.a) (r := r) (i := r') (by omega)
  have hC := swN_ne2 (a := s.a) (r := c) (i := c') (by omega)
  have R1 := swN_lt (a := s.a) (r := r) ha p.r1 r1'
  have C1 := swN_lt (a := s.a) (r := c) hb p.c1 c1'
  have R0 := swN_high (a := s.a) (r := r) (i := r') (by omega) p.r0
  have C0 := swN_high (a := s.a) (r := c) (i := c') (by omega) p.c0
  have val := one_val p v r0' r1' c0' c1'
  by_cases rr : r = s.a
  · rw [val, rr]
    rw [rr] at hR R1 R0
    by_cases cc : c = s.a
    · rw [cc]
      rw [cc] at hC C1 C0
      have := mm (R := swN s.a s.a r') (C := swN s.a s.a c') (by omega) R1 (by omega) C1
      omega
    · by_cases ca : swN s.a c c' = s.a
      · rw [ca, m2_swapC, Int.natAbs_neg]
        have := mm (R := swN s.a s.a r') (C := c) (by omega) R1 (by have := p.c0; omega) p.c1
        omega
      · exact rowK (by omega) R1 (by have := p.c0; omega) p.c1 (by omega) C1
  · have rlo : s.a < r := by have := p.r0; omega
    by_cases cc : c = s.a
    · rw [val, cc]
      rw [cc] at hC C1 C0
      by_cases ra : swN s.a r r' = s.a
      · rw [ra, m2_swap, Int.natAbs_neg]
        have := mm (R := r) (C := swN s.a s.a c') rlo p.r1 (by omega) C1
        omega
      · exact colK rlo p.r1 (by omega) R1 (by omega) C1
    · have clo : s.a < c := by have := p.c0; omega
      -- the entries at (r, c), (r, c'), (r', c) of the rest
      have rowS : ∀ {C : Nat}, s.a < C → C < w → (m2 s.T r s.a c C).natAbs ≤ 1392 := fun {C} h5 h6 => by
        rw [m2_swap, Int.natAbs_neg]
        exact rowK rlo p.r1 clo p.c1 h5 h6
      have colS : ∀ {R : Nat}, s.a < R → R < h → (m2 s.T r R c s.a).natAbs ≤ 1392 := fun {R} h5 h6 => by
        rw [m2_swapC, Int.natAbs_neg]
        exact colK rlo p.r1 h5 h6 clo p.c1
      have cor : (m2 s.T r s.a c s.a).natAbs ≤ 1392 := by
        rw [m2_swap, Int.natAbs_neg, m2_swapC, Int.natAbs_neg]
        have := mm rlo p.r1 clo p.c1
        omega
      have vrc := one_val p v rlo p.r1 clo p.c1
      rw [swN_r, swN_r] at vrc
      have vrc' := one_val p v rlo p.r1 c0' c1'
      rw [swN_r] at vrc'
      have vr'c := one_val p v r0' r1' clo p.c1
      rw [swN_r] at vr'c
      by_cases ra : swN s.a r r' = s.a
      · rw [val, ra]
        by_cases ca : swN s.a c c' = s.a
        · rw [ca]; exact cor
        · exact rowS (by omega) C1
      · by_cases ca : swN s.a c c' = s.a
        · rw [val, ca]; exact colS (by omega) R1
        · -- both are later ones
          by_cases z1 : m2 s.T r s.a c s.a = 0
          · by_cases z2 : m2 s.T r s.a c (swN s.a c c') = 0
            · by_cases z3 : m2 s.T r (swN s.a r r') c s.a = 0
              · have sne : s.T r c ≠ 0 := p.ne
                have key : s.T s.a s.a * m2 s.T r (swN s.a r r') c (swN s.a c c') = s.T r c * m2 s.T s.a (swN s.a r r') s.a (swN s.a c c') := by
                  refine Int.eq_of_mul_eq_mul_left sne ?_
                  unfold m2 at z1 z2 z3 ⊢
                  generalize s.T r c = x at *
                  generalize s.T s.a s.a = b at *
                  generalize s.T r s.a = d at *
                  generalize s.T s.a c = e at *
                  generalize s.T s.a (swN s.a c c') = f at *
                  generalize s.T r (swN s.a c c') = g at *
                  generalize s.T (swN s.a r r') s.a = k at *
                  generalize s.T (swN s.a r r') c = l at *
                  generalize s.T (swN s.a r r') (swN s.a c c') = m at *
                  grind
                have n1 : (s.T s.a s.a).natAbs * (m2 s.T r (swN s.a r r') c (swN s.a c c')).natAbs = (m2 s.T s.a (swN s.a r r') s.a (swN s.a c c')).natAbs := by
                  rw [← Int.natAbs_mul, key, Int.natAbs_mul, v, Nat.one_mul]
                have n2 := mm (R := swN s.a r r') (C := swN s.a c c') (by omega) R1 (by omega) C1
                have n3 := Nat.mul_le_mul_right (m2 s.T r (swN s.a r r') c (swN s.a c c')).natAbs (show 1 ≤ (s.T s.a s.a).natAbs by omega)
                rw [val]; omega
              · exact small r' c r0' r1' clo p.c1 (fun z => z3 (by rw [z] at vr'c; exact Int.natAbs_eq_zero.mp vr'c.symm)) (by rw [vr'c]; exact colS (by omega) R1)
            · exact small r c' rlo p.r1 c0' c1' (fun z => z2 (by rw [z] at vrc'; exact Int.natAbs_eq_zero.mp vrc'.symm)) (by rw [vrc']; exact rowS (by omega) C1)
          · exact small r c rlo p.r1 clo p.c1 (fun z => z1 (by rw [z] at vrc; exact Int.natAbs_eq_zero.mp vrc.symm)) (by rw [vrc]; exact cor)
/-- .. and from U2 -/
theorem olgU {s : SM} {r c : Nat} (q : U2P s.a h w s.T) (p : Pick h w s.T s.a r c) (v : (s.T r c).natAbs = 1) : X0 s.a h w ({ mid s r c with a := s.a + 1 } : SM) := fun r' c' p' => by
  have ha : s.a < h := Nat.lt_of_le_of_lt p.r0 p.r1
  have hb : s.a < w := Nat.lt_of_le_of_lt p.c0 p.c1
  have small : ∀ i j, s.a < i → i < h → s.a < j → j < w → (mid s r c).T i j ≠ 0 → ((mid s r c).T i j).natAbs ≤ 1392 → ((mid s r c).T r' c').natAbs ≤ 1392 := fun i j h1 h2 h3 h4 h5 h6 => by
    have l : lexLe ((mid s r c).T r' c').natAbs r' c' ((mid s r c).T i j).natAbs i j := p'.least i j h1 h2 h3 h4 h5
    unfold lexLe at l; omega
  show ((mid s r c).T r' c').natAbs ≤ 1392
  have clo : s.a < c := by
    have := p.c0
    rcases Nat.eq_or_lt_of_le this with e | e
    · exfalso
      rcases Nat.eq_or_lt_of_le p.r0 with f | f
      · rw [← e, ← f, q.two] at v; omega
      · have := q.col r f p.r1
        rw [← e, this] at v; simp at v
    · exact e
  obtain ⟨i0, i1, i2, i3⟩ := q.same
  rcases Nat.eq_or_lt_of_le p.r0 with f | f
  · -- in the first row
    have va := one_val p v i1 i2 clo p.c1
    rw [swN_r] at va
    have e1 : swN s.a r i0 = i0 := by
      rw [← f]; exact swN_self _ _
    have e2 : m2 s.T r i0 c s.a = - (s.T s.a c * s.T s.a s.a) := by
      unfold m2
      rw [← f, q.col i0 i1 i2, ← i3 c clo p.c1]; grind
    rw [e1, e2, Int.natAbs_neg, Int.natAbs_mul, q.two, f, v] at va
    exact small i0 c i1 i2 clo p.c1 (fun z => by rw [z] at va; simp at va) (by omega)
  · have va := one_val p v f p.r1 clo p.c1
    rw [swN_r, swN_r] at va
    have e2 : m2 s.T r s.a c s.a = s.T r c * s.T s.a s.a := by
      unfold m2
      rw [q.col r f p.r1]; grind
    rw [e2, Int.natAbs_mul, v, q.two] at va
    exact small r c f p.r1 clo p.c1 (fun z => by rw [z] at va; simp at va) (by omega)
end
end K17
end
section
set_option autoImplicit false
/-! KSize7: the first stage: its steps. Plain Lean. -/
namespace K17
section
variable {a h w : Nat}
theorem mid_new {s : SM} {r c : Nat} (p : Pick h w s.T s.a r c) {i j : Nat} (hi : s.a < i) (hj : s.a < j) : (mid s r c).T i j = newS (s.T r c) (swT s r c i s.a) (swT s r c s.a j) (swT s r c i j) := by
  have fR : facR (swT s r c) s.a i = (swT s r c i s.a).fdiv (s.T r c) := by unfold facR; rw [if_pos hi, swT_pivot]
  have fC : facC (swT s r c) s.a j = (swT s r c s.a j).fdiv (s.T r c) := by unfold facC; rw [if_pos hj, swT_pivot]
  show (swT s r c i j - facR (swT s r c) s.a i * swT s r c s.a j) - facC (swT s r c) s.a j * (swT s r c i s.a - facR (swT s r c) s.a i * swT s r c s.a s.a) = _
  rw [fR, fC, swT_pivot, fm_def]
  rfl
/-- the entries that are changed about: 0 or at least the pivot -/
theorem dom_sw {s : SM} {r c : Nat} (p : Pick h w s.T s.a r c) {i j : Nat} (h1 : s.a ≤ i) (h2 : i < h) (h3 : s.a ≤ j) (h4 : j < w) : dom (s.T r c).natAbs (swT s r c i j) = true := by
  have ha : s.a < h := Nat.lt_of_le_of_lt p.r0 p.r1
  have hb : s.a < w := Nat.lt_of_le_of_lt p.c0 p.c1
  unfold dom
  by_cases z : swT s r c i j = 0
  · rw [z]; rfl
  · have l := p.least _ _ (swN_high h1 p.r0) (swN_lt ha p.r1 h2) (swN_high h3 p.c0) (swN_lt hb p.c1 h4) z
    have : (s.T r c).natAbs ≤ (swT s r c i j).natAbs := by
      unfold lexLe at l
      unfold swT swapC swapR
      omega
    rw [decide_eq_true this, Bool.or_true]
theorem ready_of {s : SM} {r c i : Nat} (p : Pick h w s.T s.a r c) (cl : Clean h w (mid s r c)) (u : Unfit h w (mid s r c) i) : Ready s.a w (addRow (mid s r c) i).T ∧ addT (mid s r c).T s.a i s.a s.a = s.T r c := by
  have c1 : ∀ i, s.a < i → i < h → (mid s r c).T i s.a = 0 := cl.1
  have c2 : ∀ j, s.a < j → j < w → (mid s r c).T s.a j = 0 := cl.2
  have ilo : s.a < i := u.lo
  have t1 : addT (mid s r c).T s.a i s.a s.a = s.T r c := by rw [addT_a, c1 i ilo u.hi, Int.add_zero, mid_pivot]
  refine ⟨?_, t1⟩
  obtain ⟨j, j1, j2, j3⟩ := u.bad
  have j1' : s.a < j := j1
  refine ⟨j, j1', j2, ?_⟩
  show (addT (mid s r c).T s.a i s.a j).fmod (addT (mid s r c).T s.a i s.a s.a) ≠ 0
  rw [t1, addT_a, c2 j j1' j2, Int.zero_add]
  have j3' : ((mid s r c).T i j).fmod ((mid s r c).T s.a s.a) ≠ 0 := j3
  rw [mid_pivot] at j3'; exact j3'
/-- what holds of a step whose pivot stands at the corner already, 0 below it, and that is not clean -/
theorem corner_step {s : SM} (p : Pick h w s.T s.a s.a s.a) (col : ∀ i, s.a < i → i < h → s.T i s.a = 0) : (∀ i j, s.a < i → i < h → s.a < j → (mid s s.a s.a).T i j = s.T i j) ∧ (∀ i, s.a < i → i < h → (mid s s.a s.a).T i s.a = 0) ∧ ∀ j, s.a < j → (mid s s.a s.a).T s.a j = (s.T s.a j).fmod (s.T s.a s.a) := by
  have x := mid_swept p
  rw [swT_self] at x
  have fR : ∀ i, s.a < i → i < h → facR s.T s.a i = 0 := fun i h1 h2 => by
    unfold facR
    rw [if_pos h1, col i h1 h2]; exact Int.zero_fdiv _
  refine ⟨fun i j h1 h2 h3 => ?_, fun i h1 h2 => ?_, fun j h1 => x.row j h1⟩
  · show (swT s s.a s.a i j - facR (swT s s.a s.a) s.a i * swT s s.a s.a s.a j) - facC (swT s s.a s.a) s.a j * (swT s s.a s.a i s.a - facR (swT s s.a s.a) s.a i * swT s s.a s.a s.a s.a) = _
    rw [swT_self, fR i h1 h2, col i h1 h2]; simp
  · rw [x.col i h1, col i h1 h2]; exact Int.zero_fmod _
theorem ready_nc {s : SM} (p : Pick h w s.T s.a s.a s.a) (rd : Ready s.a w s.T) (cl : Clean h w (mid s s.a s.a)) : False := by
  obtain ⟨j, j1, j2, j3⟩ := rd
  have x := mid_swept p
  rw [swT_self] at x
  refine j3 ?_
  rw [← x.row j j1]; exact cl.2 j j1 j2
/-- the cases of a pivot 1 or 2 from entries of at most 24 -/
theorem small_step {s t : SM} {r c : Nat} (p : Pick h w s.T s.a r c) (eb : EB s.a h w s.T 24) (v : (s.T r c).natAbs ≤ 2) (n : Nat) (hn : 3 ≤ n) (st : Stp h w s t) :
    (t.a = s.a + 1 ∧ EB (s.a + 1) h w t.T 97656 ∧ X0 s.a h w t) ∨ ∃ m, m < n ∧ J0 s.a h w m t := by
  have v1 : 1 ≤ (s.T r c).natAbs := by have := p.ne; omega
  have e1 : (s.T r c).natAbs = 1 → EB s.a h w (mid s r c).T 600 := fun q => eb_sweep p eb (by omega) (by rw [q]; omega)
  have e2 : (s.T r c).natAbs = 2 → EB s.a h w (mid s r c).T 312 := fun q => eb_sweep p eb (by omega) (by rw [q]; omega)
  have v12 : (s.T r c).natAbs = 1 ∨ (s.T r c).natAbs = 2 := by omega
  have ml : ∀ i j, s.a < i → i < h → s.a < j → j < w → (m2 (mid s r c).T s.a i s.a j).natAbs ≤ 696 := fun i j h1 h2 h3 h4 => m_le p eb (by omega) h1 h2 h3 h4
  cases st with
  | go p' nc =>
    obtain ⟨rfl, rfl⟩ := p.uniq p'
    right
    rcases v12 with q | q
    · exact absurd (one_clean p q) nc
    · exact ⟨1, by omega, rfl, .inr (.inr (.inr (.inr ⟨Nat.le_refl _, to_S2 p nc (e2 q) ml (.inl v)⟩)))⟩
  | add p' cl u =>
    obtain ⟨rfl, rfl⟩ := p.uniq p'
    right
    rcases v12 with q | q
    · exact absurd u.bad (one_fit q _)
    · exact ⟨2, by omega, rfl, .inr (.inr (.inr (.inl ⟨Nat.le_refl _, to_U2 p cl u q (e2 q) ml⟩)))⟩
  | next p' cl u =>
    obtain ⟨rfl, rfl⟩ := p.uniq p'
    left
    rcases v12 with q | q
    · exact ⟨rfl, eb_next (e1 q) (by omega), x_next (e1 q) (by omega)⟩
    · exact ⟨rfl, eb_next (e2 q) (by omega), x_next (e2 q) (by omega)⟩
theorem alpha_step {n : Nat} {s t : SM} (j : J0 a h w n s) (st : Stp h w s t) : (t.a = a + 1 ∧ EB (a + 1) h w t.T 97656 ∧ X0 a h w t) ∨ ∃ m, m < n ∧ J0 a h w m t := by
  obtain ⟨rfl, j⟩ := j
  rcases j with ⟨hn, eb⟩ | ⟨hn, q⟩ | ⟨hn, q⟩ | ⟨hn, q⟩ | ⟨hn, q⟩
  · -- entries of at most 6
    have facts : ∀ {r c : Nat}, Pick h w s.T s.a r c → EB s.a h w (mid s r c).T 42 ∧ ((s.T r c).natAbs ≠ 1 → EB s.a h w (mid s r c).T 24) ∧ 1 ≤ (s.T r c).natAbs ∧ (s.T r c).natAbs ≤ 6 := fun {r c} p => by
      have v1 : 1 ≤ (s.T r c).natAbs := by have := p.ne; omega
      have v6 : (s.T r c).natAbs ≤ 6 := eb r c p.r0 p.r1 p.c0 p.c1
      have vs : (s.T r c).natAbs = 1 ∨ (s.T r c).natAbs = 2 ∨ (s.T r c).natAbs = 3 ∨ (s.T r c).natAbs = 4 ∨ (s.T r c).natAbs = 5 ∨ (s.T r c).natAbs = 6 := by omega
      refine ⟨eb_sweep p eb (by omega) ?_, fun ne => eb_sweep p eb (by omega) ?_, v1, v6⟩
      · rcases vs with q | q | q | q | q | q <;> rw [q] <;> omega
      · rcases vs with q | q | q | q | q | q <;> rw [q] <;> omega
    -- pivots 4 and 5
    have P45 : ∀ {r c : Nat}, Pick h w s.T s.a r c → (s.T r c).natAbs = 4 ∨ (s.T r c).natAbs = 5 → s.T r c ∈ ([4, -4, 5, -5] : List Int) := fun {r c} p hv => by
      have : s.T r c = 4 ∨ s.T r c = -4 ∨ s.T r c = 5 ∨ s.T r c = -5 := by omega
      rcases this with q | q | q | q <;> rw [q] <;> decide
    have m13 : ∀ {r c : Nat}, Pick h w s.T s.a r c → ∀ {i j : Nat}, s.a ≤ i → i < h → s.a ≤ j → j < w → swT s r c i j ∈ L13 := fun {r c} p {i j} h1 h2 h3 h4 => mem13 (eb.swap p i j h1 h2 h3 h4)
    cases st with
    | go p nc =>
      rename_i r c
      right
      obtain ⟨_, e24, v1, v6⟩ := facts p
      have ha : s.a < h := Nat.lt_of_le_of_lt p.r0 p.r1
      have hb : s.a < w := Nat.lt_of_le_of_lt p.c0 p.c1
      have x := mid_swept p
      have vn1 : (s.T r c).natAbs ≠ 1 := fun q => nc (one_clean p q)
      have vn6 : (s.T r c).natAbs ≠ 6 := fun q6 => by
        refine nc ⟨fun i h1 h2 => ?_, fun j h1 h2 => ?_⟩
        · have h1' : s.a < i := h1
          have P6 : s.T r c ∈ ([6, -6] : List Int) := by
            have : s.T r c = 6 ∨ s.T r c = -6 := by omega
            rcases this with q | q <;> rw [q] <;> decide
          have d1 := dom_sw p (Nat.le_of_lt h1') h2 (Nat.le_refl _) hb
          rw [q6] at d1
          have z := dec6 _ P6 _ (m13 p (Nat.le_of_lt h1') h2 (Nat.le_refl _) hb) d1 0 (by decide) (by decide) 0 (by decide) (by decide)
          rw [Bool.and_eq_true] at z
          show (mid s r c).T i s.a = 0
          rw [x.col i h1', swT_pivot]; exact of_decide_eq_true z.1
        · have h1' : s.a < j := h1
          have P6 : s.T r c ∈ ([6, -6] : List Int) := by
            have : s.T r c = 6 ∨ s.T r c = -6 := by omega
            rcases this with q | q <;> rw [q] <;> decide
          have d1 := dom_sw p (Nat.le_refl _) ha (Nat.le_of_lt h1') h2
          rw [q6] at d1
          have z := dec6 _ P6 _ (m13 p (Nat.le_refl _) ha (Nat.le_of_lt h1') h2) d1 0 (by decide) (by decide) 0 (by decide) (by decide)
          rw [Bool.and_eq_true] at z
          show (mid s r c).T s.a j = 0
          rw [x.row j h1', swT_pivot]; exact of_decide_eq_true z.1
      refine ⟨3, by omega, rfl, .inr (.inr (.inl ⟨Nat.le_refl _, e24 vn1, fun r' c' p' => ?_⟩))⟩
      have lt := go_less p nc p'
      refine ⟨by omega, ?_⟩
      by_cases v2 : ((mid s r c).T r' c').natAbs ≤ 2
      · exact .inl v2
      · right
        have hv : (s.T r c).natAbs = 4 ∨ (s.T r c).natAbs = 5 := by omega
        have PM := P45 p hv
        -- all that is not 0 is at least 3
        have big : ∀ {i j : Nat}, s.a ≤ i → i < h → s.a ≤ j → j < w → (mid s r c).T i j ≠ 0 → 3 ≤ ((mid s r c).T i j).natAbs := fun h1 h2 h3 h4 h5 => by
          have l := p'.least _ _ h1 h2 h3 h4 h5
          unfold lexLe at l; omega
        have cross : ∀ {i j : Nat}, s.a ≤ i → i < h → s.a ≤ j → j < w → ((i = s.a ∧ s.a < j) ∨ (j = s.a ∧ s.a < i)) → ((mid s r c).T i j).natAbs ≤ 2 ∨ ((mid s r c).T i j).natAbs + 1 = (s.T r c).natAbs := fun {i j} h1 h2 h3 h4 h5 => by
          rcases h5 with ⟨e, g⟩ | ⟨e, g⟩
          · subst e
            rw [x.row j g, swT_pivot]
            exact dec1 _ PM _ (m13 p (Nat.le_refl _) ha (Nat.le_of_lt g) h4) (dom_sw p (Nat.le_refl _) ha (Nat.le_of_lt g) h4)
          · subst e
            rw [x.col i g, swT_pivot]
            exact dec1 _ PM _ (m13 p (Nat.le_of_lt g) h2 (Nat.le_refl _) hb) (dom_sw p (Nat.le_of_lt g) h2 (Nat.le_refl _) hb)
        have piv : (mid s r c).T s.a s.a = s.T r c := mid_pivot s r c
        by_cases er : r' = s.a
        · by_cases ec : c' = s.a
          · rw [er, ec, piv] at lt; omega
          · have clo : s.a < c' := by have := p'.c0; have q : (mid s r c).a = s.a := rfl; omega
            have z := cross p'.r0 p'.r1 p'.c0 p'.c1 (.inl ⟨er, clo⟩)
            refine ⟨s.T r c, .inl ⟨s.a, Nat.le_refl _, hb, by omega, by rw [er, piv]⟩, by omega, ?_⟩
            rw [er, x.row c' clo, swT_pivot]; exact fm_sign
        · have rlo : s.a < r' := by have := p'.r0; have q : (mid s r c).a = s.a := rfl; omega
          by_cases ec : c' = s.a
          · have z := cross p'.r0 p'.r1 p'.c0 p'.c1 (.inr ⟨ec, rlo⟩)
            refine ⟨s.T r c, .inr ⟨s.a, Nat.le_refl _, ha, by omega, by rw [ec, piv]⟩, by omega, ?_⟩
            rw [ec, x.col r' rlo, swT_pivot]; exact fm_sign
          · exfalso
            have clo : s.a < c' := by have := p'.c0; have q : (mid s r c).a = s.a := rfl; omega
            have z := dec2 _ PM _ (m13 p (Nat.le_of_lt rlo) p'.r1 (Nat.le_refl _) hb) (dom_sw p (Nat.le_of_lt rlo) p'.r1 (Nat.le_refl _) hb) _ (m13 p (Nat.le_refl _) ha (Nat.le_of_lt clo) p'.c1) (dom_sw p (Nat.le_refl _) ha (Nat.le_of_lt clo) p'.c1)
              _ (m13 p (Nat.le_of_lt rlo) p'.r1 (Nat.le_of_lt clo) p'.c1) (dom_sw p (Nat.le_of_lt rlo) p'.r1 (Nat.le_of_lt clo) p'.c1)
            rw [← mid_new p rlo clo] at z
            have colE := x.col r' rlo
            have rowE := x.row c' clo
            rw [swT_pivot] at colE rowE
            rw [← colE, ← rowE] at z
            simp only [Bool.or_eq_true, beq_iff_eq, decide_eq_true_eq, Bool.and_eq_true] at z
            rcases z with ((((((z | z) | z) | z) | z) | z) | ⟨z, z'⟩)
            · have := big (Nat.le_of_lt rlo) p'.r1 (Nat.le_refl _) hb (fun q => by rw [q] at z; simp at z); omega
            · have := big (Nat.le_of_lt rlo) p'.r1 (Nat.le_refl _) hb (fun q => by rw [q] at z; simp at z); omega
            · have := big (Nat.le_refl _) ha (Nat.le_of_lt clo) p'.c1 (fun q => by rw [q] at z; simp at z); omega
            · have := big (Nat.le_refl _) ha (Nat.le_of_lt clo) p'.c1 (fun q => by rw [q] at z; simp at z); omega
            · omega
            · omega
            · -- the row's remainder is as small and ahead
              have b := big (Nat.le_refl _) ha (Nat.le_of_lt clo) p'.c1 z'
              have cr := cross (Nat.le_refl s.a) ha (Nat.le_of_lt clo) p'.c1 (.inl ⟨rfl, clo⟩)
              have l := p'.least s.a c' (Nat.le_refl _) ha (Nat.le_of_lt clo) p'.c1 z'
              unfold lexLe at l
              omega
    | add p cl u =>
      rename_i r c k
      right
      obtain ⟨_, e24, v1, v6⟩ := facts p
      have ha : s.a < h := Nat.lt_of_le_of_lt p.r0 p.r1
      have hb : s.a < w := Nat.lt_of_le_of_lt p.c0 p.c1
      have x := mid_swept p
      have c1 : ∀ i, s.a < i → i < h → (mid s r c).T i s.a = 0 := cl.1
      have c2 : ∀ j, s.a < j → j < w → (mid s r c).T s.a j = 0 := cl.2
      have klo : s.a < k := u.lo
      obtain ⟨rd, t1⟩ := ready_of p cl u
      have vn1 : (s.T r c).natAbs ≠ 1 := fun q => one_fit q _ u.bad
      have vn6 : (s.T r c).natAbs ≠ 6 := fun q6 => by
        obtain ⟨j, j1, j2, j3⟩ := u.bad
        have j1' : s.a < j := j1
        have j3' : ((mid s r c).T k j).fmod ((mid s r c).T s.a s.a) ≠ 0 := j3
        rw [mid_pivot, mid_new p klo j1'] at j3'
        have P6 : s.T r c ∈ ([6, -6] : List Int) := by
          have : s.T r c = 6 ∨ s.T r c = -6 := by omega
          rcases this with q | q <;> rw [q] <;> decide
        have d1 := dom_sw p (Nat.le_of_lt klo) u.hi (Nat.le_refl _) hb
        have d2 := dom_sw p (Nat.le_refl _) ha (Nat.le_of_lt j1') j2
        have d3 := dom_sw p (Nat.le_of_lt klo) u.hi (Nat.le_of_lt j1') j2
        rw [q6] at d1 d2 d3
        have z := dec6 _ P6 _ (m13 p (Nat.le_of_lt klo) u.hi (Nat.le_refl _) hb) d1 _ (m13 p (Nat.le_refl _) ha (Nat.le_of_lt j1') j2) d2 _ (m13 p (Nat.le_of_lt klo) u.hi (Nat.le_of_lt j1') j2) d3
        rw [Bool.and_eq_true] at z
        exact j3' (of_decide_eq_true z.2)
      -- entries of the rest, pivots 4 and 5
      have rest : (s.T r c).natAbs = 4 ∨ (s.T r c).natAbs = 5 → ∀ i j, s.a < i → i < h → s.a < j → j < w → (((mid s r c).T i j).natAbs ≤ 2 ∨ (s.T r c).natAbs ≤ ((mid s r c).T i j).natAbs) ∧ ((((mid s r c).T i j).fmod (s.T r c)).natAbs ≤ 2 ∨ (((mid s r c).T i j).fmod (s.T r c)).natAbs + 1 = (s.T r c).natAbs) := fun hv i j h1 h2 h3 h4 => by
        have z := dec3 _ (P45 p hv) _ (m13 p (Nat.le_of_lt h1) h2 (Nat.le_refl _) hb) (dom_sw p (Nat.le_of_lt h1) h2 (Nat.le_refl _) hb) _ (m13 p (Nat.le_refl _) ha (Nat.le_of_lt h3) h4) (dom_sw p (Nat.le_refl _) ha (Nat.le_of_lt h3) h4)
          _ (m13 p (Nat.le_of_lt h1) h2 (Nat.le_of_lt h3) h4) (dom_sw p (Nat.le_of_lt h1) h2 (Nat.le_of_lt h3) h4)
        rw [← mid_new p h1 h3] at z
        have colE := x.col i h1
        have rowE := x.row j h3
        rw [swT_pivot] at colE rowE
        rw [← colE, ← rowE, c1 i h1 h2, c2 j h3 h4] at z
        simp only [bne_self_eq_false, Bool.false_or, Bool.and_eq_true, decide_eq_true_eq] at z
        exact z
      refine ⟨4, by omega, rfl, .inr (.inl ⟨Nat.le_refl _, add_eb klo u.hi (e24 vn1) c1 c2, fun i h1 h2 => ?_, ?_, rd, fun r' c' p' => ?_⟩)⟩
      · show addT (mid s r c).T s.a k i s.a = 0
        rw [addT_ne _ _ (by omega)]; exact c1 i h1 h2
      · show (addT (mid s r c).T s.a k s.a s.a).natAbs ≤ 5
        rw [t1]; omega
      · have l : lexLe ((addRow (mid s r c) k).T r' c').natAbs r' c' (addT (mid s r c).T s.a k s.a s.a).natAbs s.a s.a := p'.least s.a s.a (Nat.le_refl _) ha (Nat.le_refl _) hb (by
          show addT (mid s r c).T s.a k s.a s.a ≠ 0
          rw [t1]; exact p.ne)
        rw [t1] at l
        by_cases v2 : ((addRow (mid s r c) k).T r' c').natAbs ≤ 2
        · exact .inl v2
        · right
          have r0 : s.a ≤ r' := p'.r0
          have c0 : s.a ≤ c' := p'.c0
          have vle : ((addRow (mid s r c) k).T r' c').natAbs ≤ (s.T r c).natAbs := by unfold lexLe at l; omega
          have te : (addRow (mid s r c) k).T s.a s.a = s.T r c := t1
          by_cases v3 : (s.T r c).natAbs ≤ 3
          · refine ⟨?_, .inl (by rw [te]; exact v3)⟩
            unfold lexLe at l
            omega
          · have hv : (s.T r c).natAbs = 4 ∨ (s.T r c).natAbs = 5 := by omega
            have rs := rest hv
            have small : (s.T r c).natAbs ≤ ((addRow (mid s r c) k).T r' c').natAbs := by
              have n0 := p'.ne
              have n0' : addT (mid s r c).T s.a k r' c' ≠ 0 := n0
              have v2' : ¬ (addT (mid s r c).T s.a k r' c').natAbs ≤ 2 := v2
              show (s.T r c).natAbs ≤ (addT (mid s r c).T s.a k r' c').natAbs
              by_cases er : r' = s.a
              · subst er
                by_cases ec : c' = s.a
                · rw [ec, t1]; exact Nat.le_refl _
                · rw [addT_a, c2 c' (by omega) p'.c1, Int.zero_add] at v2' ⊢
                  have := (rs k c' klo u.hi (by omega) p'.c1).1
                  omega
              · rw [addT_ne _ _ er] at v2' n0' ⊢
                by_cases ec : c' = s.a
                · rw [ec] at n0'
                  exact absurd (c1 r' (by omega) p'.r1) n0'
                · have := (rs r' c' (by omega) p'.r1 (by omega) p'.c1).1
                  omega
            refine ⟨by unfold lexLe at l; omega, .inr ⟨fun j h1 h2 => ?_, fun i j h1 h2 h3 h4 => ?_⟩⟩
            · rw [te]
              have tj : (addRow (mid s r c) k).T s.a j = (mid s r c).T k j := by
                show addT (mid s r c).T s.a k s.a j = _
                rw [addT_a, c2 j h1 h2, Int.zero_add]
              rw [tj]
              exact (rs k j klo u.hi h1 h2).2
            · rw [te]
              have tj : (addRow (mid s r c) k).T i j = (mid s r c).T i j := addT_ne (mid s r c).T j (show i ≠ s.a by omega)
              rw [tj]
              exact (rs i j h1 h2 h3 h4).1
    | next p cl u =>
      left
      obtain ⟨e42, _⟩ := facts p
      exact ⟨rfl, eb_next e42 (by omega), x_next e42 (by omega)⟩
  · -- behind an addition
    obtain ⟨r, c, p⟩ : ∃ r c, Pick h w s.T s.a r c := by cases st with | go p _ => exact ⟨_, _, p⟩ | add p _ _ => exact ⟨_, _, p⟩ | next p _ _ => exact ⟨_, _, p⟩
    rcases q.q r c p with v2 | ⟨⟨er, ec⟩, alt⟩
    · exact small_step p q.eb v2 n (by omega) st
    · subst er; subst ec
      have e := corner_step p q.col
      obtain ⟨e1, e2, e3⟩ := e
      have v5 := q.five
      cases st with
      | go p' nc =>
        obtain ⟨hr, hc⟩ := p.uniq p'
        subst hr; subst hc
        right
        have x := mid_swept p
        refine ⟨3, by omega, rfl, .inr (.inr (.inl ⟨Nat.le_refl _, fun i j h1 h2 h3 h4 => ?_, fun r' c' p'' => ?_⟩))⟩
        · by_cases ei : i = s.a
          · subst ei
            by_cases ej : j = s.a
            · subst ej; rw [mid_pivot]; omega
            · have := x.row_lt (show s.a < j by omega)
              rw [swT_pivot] at this; omega
          · by_cases ej : j = s.a
            · subst ej; rw [e2 i (by omega) h2]; simp
            · rw [e1 i j (by omega) h2 (by omega)]; exact q.eb i j h1 h2 h3 h4
        · have lt := go_less p nc p''
          refine ⟨by omega, ?_⟩
          by_cases v2 : ((mid s s.a s.a).T r' c').natAbs ≤ 2
          · exact .inl v2
          · right
            rcases alt with a3 | ⟨a1, a2⟩
            · omega
            · have r0 : s.a ≤ r' := p''.r0
              have c0 : s.a ≤ c' := p''.c0
              have clo : s.a < c' := by
                rcases Nat.eq_or_lt_of_le c0 with ec | ec
                · exfalso
                  rcases Nat.eq_or_lt_of_le r0 with er | er
                  · rw [← ec, ← er, mid_pivot] at lt; omega
                  · have n0 := p''.ne
                    rw [← ec] at n0
                    exact n0 (e2 r' er p''.r1)
                · exact ec
              rcases Nat.eq_or_lt_of_le r0 with er | er
              · have rw1 := a1 c' clo p''.c1
                rw [← e3 c' clo] at rw1
                have eU : (mid s s.a s.a).T r' c' = (mid s s.a s.a).T s.a c' := by rw [← er]
                rw [eU] at v2
                rw [eU]
                refine ⟨s.T s.a s.a, .inl ⟨s.a, Nat.le_refl _, Nat.lt_of_le_of_lt p.c0 p.c1, by omega, by rw [← er, mid_pivot]⟩, by omega, ?_⟩
                rw [e3 c' clo]; exact fm_sign
              · exfalso
                have y := a2 r' c' er p''.r1 clo p''.c1
                rw [← e1 r' c' er p''.r1 clo] at y
                omega
      | add p' cl u =>
        obtain ⟨hr, hc⟩ := p.uniq p'
        subst hr; subst hc
        exact (ready_nc p q.bad cl).elim
      | next p' cl u =>
        obtain ⟨hr, hc⟩ := p.uniq p'
        subst hr; subst hc
        exact (ready_nc p q.bad cl).elim
  · -- behind a step that was not clean
    obtain ⟨r, c, p⟩ : ∃ r c, Pick h w s.T s.a r c := by cases st with | go p _ => exact ⟨_, _, p⟩ | add p _ _ => exact ⟨_, _, p⟩ | next p _ _ => exact ⟨_, _, p⟩
    obtain ⟨v5, alt⟩ := q.q r c p
    by_cases v2 : (s.T r c).natAbs ≤ 2
    · exact small_step p q.eb v2 n hn st
    · rcases alt with z | ⟨z, bz, z1, z2⟩
      · omega
      · obtain ⟨i, j, h1, h2, h3, h4, h5, h6⟩ := beside_rem p bz
        have r1 := succ_rem z1 z2 (by omega)
        have nc : ¬ Clean h w (mid s r c) := fun cl => by
          rcases h5 with ⟨e, g⟩ | ⟨e, g⟩
          · subst e
            have z0 : (mid s r c).T s.a j = 0 := cl.2 j g h4
            rw [← h6, z0] at r1; simp at r1
          · subst e
            have z0 : (mid s r c).T i s.a = 0 := cl.1 i g h2
            rw [← h6, z0] at r1; simp at r1
        cases st with
        | go p' _ =>
          obtain ⟨rfl, rfl⟩ := p.uniq p'
          right
          have vs : (s.T r c).natAbs = 3 ∨ (s.T r c).natAbs = 4 ∨ (s.T r c).natAbs = 5 := by omega
          have e312 : EB s.a h w (mid s r c).T 312 := eb_sweep p q.eb (by omega) (by rcases vs with y | y | y <;> rw [y] <;> omega)
          exact ⟨1, by omega, rfl, .inr (.inr (.inr (.inr ⟨Nat.le_refl _, to_S2 p nc e312 (fun i j g1 g2 g3 g4 => m_le p q.eb v5 g1 g2 g3 g4) (.inr ⟨i, j, h1, h2, h3, h4, by rw [h6]; exact r1⟩)⟩)))⟩
        | add p' cl u =>
          obtain ⟨rfl, rfl⟩ := p.uniq p'
          exact absurd cl nc
        | next p' cl u =>
          obtain ⟨rfl, rfl⟩ := p.uniq p'
          exact absurd cl nc
  · -- behind an addition with the pivot 2
    obtain ⟨r, c, p⟩ : ∃ r c, Pick h w s.T s.a r c := by cases st with | go p _ => exact ⟨_, _, p⟩ | add p _ _ => exact ⟨_, _, p⟩ | next p _ _ => exact ⟨_, _, p⟩
    have ha : s.a < h := Nat.lt_of_le_of_lt p.r0 p.r1
    have hb : s.a < w := Nat.lt_of_le_of_lt p.c0 p.c1
    have l := p.least s.a s.a (Nat.le_refl _) ha (Nat.le_refl _) hb (fun z => by have := q.two; rw [z] at this; simp at this)
    rw [q.two] at l
    have v0 := p.ne
    have r0 := p.r0
    have c0 := p.c0
    have v12 : (s.T r c).natAbs = 1 ∨ ((s.T r c).natAbs = 2 ∧ r = s.a ∧ c = s.a) := by unfold lexLe at l; omega
    rcases v12 with v | ⟨v, er, ec⟩
    · cases st with
      | go p' nc => obtain ⟨rfl, rfl⟩ := p.uniq p'; exact absurd (one_clean p v) nc
      | add p' cl u => obtain ⟨rfl, rfl⟩ := p.uniq p'; exact absurd u.bad (one_fit v _)
      | next p' cl u =>
        obtain ⟨rfl, rfl⟩ := p.uniq p'
        left
        exact ⟨rfl, eb_next (eb_sweep p q.eb (F := 97656) (by omega) (by rw [v]; omega)) (Nat.le_refl _), olgU q p v⟩
    · subst er; subst ec
      obtain ⟨e1, e2, e3⟩ := corner_step p q.col
      cases st with
      | go p' nc =>
        obtain ⟨hr, hc⟩ := p.uniq p'
        subst hr; subst hc
        right
        have x := mid_swept p
        refine ⟨1, by omega, rfl, .inr (.inr (.inr (.inr ⟨Nat.le_refl _, to_S2 p nc (fun i j h1 h2 h3 h4 => ?_) (fun i j h1 h2 h3 h4 => ?_) (.inl (by omega))⟩)))⟩
        · by_cases ei : i = s.a
          · subst ei
            by_cases ej : j = s.a
            · subst ej; rw [mid_pivot]; omega
            · have := x.row_lt (show s.a < j by omega)
              rw [swT_pivot] at this; omega
          · by_cases ej : j = s.a
            · subst ej; rw [e2 i (by omega) h2]; simp
            · rw [e1 i j (by omega) h2 (by omega)]; exact q.eb i j h1 h2 h3 h4
        · rw [x.m_piv h1 h3, swT_self]
          have z := q.m i j h1 h2 h3 h4
          unfold m2
          rw [q.col i h1 h2]
          simpa using z
      | add p' cl u =>
        obtain ⟨hr, hc⟩ := p.uniq p'
        subst hr; subst hc
        exact (ready_nc p q.bad cl).elim
      | next p' cl u =>
        obtain ⟨hr, hc⟩ := p.uniq p'
        subst hr; subst hc
        exact (ready_nc p q.bad cl).elim
  · -- the next pivot is 1
    cases st with
    | go p nc => exact absurd (one_clean p (q.one _ _ p)) nc
    | add p cl u => exact absurd u.bad (one_fit (q.one _ _ p) _)
    | next p cl u =>
      left
      exact ⟨rfl, eb_next (eb_sweep p q.eb (F := 97656) (by omega) (by rw [q.one _ _ p]; omega)) (Nat.le_refl _), olg q p⟩
/-- THE FIRST STAGE: from entries of at most 6 -/
theorem alpha (s : SM) (d : DoneB h w s 6) (eb : EB s.a h w s.T 6) (l : MB h s.L 1) (r : MB w s.R 1) :
    ∃ t, SmTo (Fit h w) h w s t ∧ (Done h w t ∨ (t.a = s.a + 1 ∧ X0 s.a h w t)) ∧ DoneB h w t 97656 ∧ EB t.a h w t.T 97656 ∧ MB h t.L (2 ^ 108) ∧ MB w t.R (2 ^ 108) :=
  stageX (a := s.a) (E := 97656) (e := 17) (top := 108) (J := fun n u => J0 s.a h w n u) (X := X0 s.a h w) (by
      have : (2 : Nat) ^ 17 ≤ 2 ^ 8990 := Nat.pow_le_pow_right (by decide) (by omega)
      omega) (by omega) (by omega)
    (fun n u j => by
      obtain ⟨e, j⟩ := j
      refine ⟨e, ?_⟩
      rcases j with ⟨_, eb⟩ | ⟨_, q⟩ | ⟨_, q⟩ | ⟨_, q⟩ | ⟨_, q⟩
      · exact eb.mono (by omega)
      · exact q.eb.mono (by omega)
      · exact q.eb.mono (by omega)
      · exact q.eb.mono (by omega)
      · exact q.eb.mono (by omega)) (fun n u t j st => alpha_step j st) 5 s 0 ⟨rfl, .inl ⟨Nat.le_refl _, eb⟩⟩ (d.mono (by omega)) (l.mono (by simp)) (r.mono (by simp)) (by omega)
end
end K17
end
section
set_option autoImplicit false
set_option exponentiation.threshold 100
/-! KSize8: whole runs: from entries of at most 6; two rows; three rows; one row. Plain Lean. -/
namespace K17
section
variable {h w : Nat}
theorem Stp.le {s t : SM} (x : Stp h w s t) : t.a = s.a ∨ t.a = s.a + 1 := by
  cases x with
  | go _ _ => exact .inl rfl
  | add _ _ _ => exact .inl rfl
  | next _ _ _ => exact .inr rfl
theorem Stp.same {s t : SM} (x : Stp h w s t) (e : t.a = s.a) : ¬ Done h w t := fun d => by
  cases x with
  | go p _ =>
    refine p.ne ?_
    rw [← mid_pivot s]
    exact d _ _ (Nat.le_refl _) (Nat.lt_of_le_of_lt p.r0 p.r1) (Nat.le_refl _) (Nat.lt_of_le_of_lt p.c0 p.c1)
  | add p cl u =>
    rename_i r c i
    have c1 : ∀ i, s.a < i → i < h → (mid s r c).T i s.a = 0 := cl.1
    have ilo : s.a < i := u.lo
    have t1 : addT (mid s r c).T s.a i s.a s.a = s.T r c := by rw [addT_a, c1 i ilo u.hi, Int.add_zero, mid_pivot]
    refine p.ne ?_
    rw [← t1]
    exact d _ _ (Nat.le_refl _) (Nat.lt_of_le_of_lt p.r0 p.r1) (Nat.le_refl _) (Nat.lt_of_le_of_lt p.c0 p.c1)
  | next _ _ _ =>
    have : s.a + 1 = s.a := e
    omega
theorem SmTo.le {P : SM → Prop} {s t : SM} (x : SmTo P h w s t) : s.a ≤ t.a := by
  induction x with
  | refl => exact Nat.le_refl _
  | step _ x _ ih => have := x.le; omega
theorem SmTo.alive {P : SM → Prop} {s t : SM} (x : SmTo P h w s t) : ¬ Done h w s → Done h w t → s.a < t.a := by
  induction x with
  | refl => exact fun n d => absurd d n
  | step _ x r ih =>
    intro _ d
    rcases x.le with e | e
    · have := ih (x.same e) d; omega
    · have := r.le; omega
theorem SmRun.le {P : SM → Prop} {s t : SM} (x : SmRun P h w s t) : s.a ≤ t.a := by
  induction x with
  | done _ _ => exact Nat.le_refl _
  | more _ x _ ih => have := x.le; omega
theorem SmRun.alive {P : SM → Prop} {s t : SM} (x : SmRun P h w s t) : ¬ Done h w s → s.a < t.a := by
  induction x with
  | done _ d => exact fun n => absurd d n
  | more _ x r ih =>
    intro _
    rcases x.le with e | e
    · have := ih (x.same e); omega
    · have := r.le; omega
/-- a rest of rank two or more -/
def NZ (a h w : Nat) (T : Mat) : Prop := ∃ i k j l, a ≤ i ∧ i < h ∧ a ≤ k ∧ k < h ∧ a ≤ j ∧ j < w ∧ a ≤ l ∧ l < w ∧ m2 T i k j l ≠ 0
theorem nz_piv {a : Nat} {T : Mat} (hp : T a a ≠ 0) (n : NZ a h w T) : ∃ i j, a < i ∧ i < h ∧ a < j ∧ j < w ∧ m2 T a i a j ≠ 0 := Classical.byContradiction fun z => by
  have all : ∀ i j, a ≤ i → i < h → a ≤ j → j < w → T a a * T i j = T a j * T i a := fun i j h1 h2 h3 h4 => by
    by_cases e1 : i = a
    · subst e1; exact Int.mul_comm _ _
    · by_cases e2 : j = a
      · subst e2; rfl
      · have m0 : m2 T a i a j = 0 := Classical.byContradiction fun y => z ⟨i, j, by omega, h2, by omega, h4, y⟩
        unfold m2 at m0
        omega
  obtain ⟨i, k, j, l, h1, h2, h3, h4, h5, h6, h7, h8, n0⟩ := n
  have e1 := all i j h1 h2 h5 h6
  have e2 := all k l h3 h4 h7 h8
  have e3 := all i l h1 h2 h7 h8
  have e4 := all k j h3 h4 h5 h6
  have z2 : T a a * (T a a * m2 T i k j l) = 0 := by
    have f : T a a * (T a a * m2 T i k j l) = (T a a * T i j) * (T a a * T k l) - (T a a * T i l) * (T a a * T k j) := by unfold m2; grind
    rw [f, e1, e2, e3, e4]
    grind
  rcases Int.mul_eq_zero.mp z2 with y | y
  · exact hp y
  · rcases Int.mul_eq_zero.mp y with y | y
    · exact hp y
    · exact n0 y
theorem NZ.swap {s : SM} {r c : Nat} (n : NZ s.a h w s.T) (p : Pick h w s.T s.a r c) : NZ s.a h w (swT s r c) := by
  have ha : s.a < h := Nat.lt_of_le_of_lt p.r0 p.r1
  have hb : s.a < w := Nat.lt_of_le_of_lt p.c0 p.c1
  obtain ⟨i, k, j, l, h1, h2, h3, h4, h5, h6, h7, h8, n0⟩ := n
  refine ⟨_, _, _, _, swN_high h1 p.r0, swN_lt ha p.r1 h2, swN_high h3 p.r0, swN_lt ha p.r1 h4, swN_high h5 p.c0, swN_lt hb p.c1 h6, swN_high h7 p.c0, swN_lt hb p.c1 h8, ?_⟩
  · unfold m2 swT swapC swapR
    rw [swN_swN, swN_swN, swN_swN, swN_swN]
    exact n0
theorem NZ.step {s t : SM} (n : NZ s.a h w s.T) (x : Stp h w s t) : (t.a = s.a → NZ t.a h w t.T) ∧ (t.a = s.a + 1 → ¬ Done h w t) := by
  have core : ∀ {r c : Nat}, Pick h w s.T s.a r c → ∃ i j, s.a < i ∧ i < h ∧ s.a < j ∧ j < w ∧ m2 (mid s r c).T s.a i s.a j ≠ 0 := fun {r c} p => by
    have x := mid_swept p
    obtain ⟨i, j, h1, h2, h3, h4, n0⟩ := nz_piv x.ne (n.swap p)
    exact ⟨i, j, h1, h2, h3, h4, by rw [x.m_piv h1 h3]; exact n0⟩
  cases x with
  | go p _ =>
    obtain ⟨i, j, h1, h2, h3, h4, n0⟩ := core p
    have ha : s.a < h := Nat.lt_of_le_of_lt p.r0 p.r1
    have hb : s.a < w := Nat.lt_of_le_of_lt p.c0 p.c1
    exact ⟨fun _ => ⟨s.a, i, s.a, j, Nat.le_refl _, ha, Nat.le_of_lt h1, h2, Nat.le_refl _, hb, Nat.le_of_lt h3, h4, n0⟩, fun e => by have : s.a = s.a + 1 := e; omega⟩
  | add p cl u =>
    rename_i r c k
    obtain ⟨i, j, h1, h2, h3, h4, n0⟩ := core p
    have ha : s.a < h := Nat.lt_of_le_of_lt p.r0 p.r1
    have hb : s.a < w := Nat.lt_of_le_of_lt p.c0 p.c1
    have c1 : ∀ i, s.a < i → i < h → (mid s r c).T i s.a = 0 := cl.1
    have c2 : ∀ j, s.a < j → j < w → (mid s r c).T s.a j = 0 := cl.2
    have klo : s.a < k := u.lo
    refine ⟨fun _ => ⟨s.a, i, s.a, j, Nat.le_refl _, ha, Nat.le_of_lt h1, h2, Nat.le_refl _, hb, Nat.le_of_lt h3, h4, ?_⟩, fun e => by have : s.a = s.a + 1 := e; omega⟩
    have e : m2 (addT (mid s r c).T s.a k) s.a i s.a j = m2 (mid s r c).T s.a i s.a j := by
      unfold m2
      rw [addT_a, addT_a, addT_ne _ _ (show i ≠ s.a by omega), addT_ne _ _ (show i ≠ s.a by omega), c1 k klo u.hi, c1 i h1 h2]
      grind
    show m2 (addT (mid s r c).T s.a k) s.a i s.a j ≠ 0
    rw [e]; exact n0
  | next p cl u =>
    rename_i r c
    obtain ⟨i, j, h1, h2, h3, h4, n0⟩ := core p
    refine ⟨fun e => by have : s.a + 1 = s.a := e; omega, fun _ d => ?_⟩
    have z : (mid s r c).T i j = 0 := d i j (show s.a + 1 ≤ i by omega) h2 (show s.a + 1 ≤ j by omega) h4
    have z2 : (mid s r c).T i s.a = 0 := cl.1 i h1 h2
    refine n0 ?_
    unfold m2
    rw [z, z2]; simp
theorem SmTo.nz {P : SM → Prop} {s t : SM} (x : SmTo P h w s t) : NZ s.a h w s.T → t.a ≤ s.a + 1 → ¬ Done h w t := by
  induction x with
  | refl =>
    intro n _ d
    obtain ⟨i, k, j, l, h1, h2, h3, h4, h5, h6, h7, h8, n0⟩ := n
    refine n0 ?_
    unfold m2
    rw [d i j h1 h2 h5 h6, d i l h1 h2 h7 h8]; simp
  | step _ x r ih =>
    rename_i s u t _
    intro n le
    obtain ⟨f1, f2⟩ := n.step x
    have rl := r.le
    rcases x.le with e | e
    · exact ih (f1 e) (by omega)
    · intro d
      have := r.alive (f2 e) d
      omega
/-! ### from entries to minors -/
theorem kb_of {a E : Nat} {T : Mat} (e : EB a h w T E) : KB a h w T (2 * (E * E)) := fun i k j l h1 h2 h3 h4 h5 h6 h7 h8 => by
  have n1 : (T i j * T k l).natAbs ≤ E * E := by rw [Int.natAbs_mul]; exact Nat.mul_le_mul (e _ _ h1 h2 h5 h6) (e _ _ h3 h4 h7 h8)
  have n2 : (T i l * T k j).natAbs ≤ E * E := by rw [Int.natAbs_mul]; exact Nat.mul_le_mul (e _ _ h1 h2 h7 h8) (e _ _ h3 h4 h5 h6)
  have := natAbs_sub_le (T i j * T k l) (T i l * T k j)
  unfold m2
  omega
theorem db_of {a E : Nat} {T : Mat} (e : EB a h w T E) : DB a h w T (3 * (E * (2 * (E * E)))) := fun i k m j l n h1 h2 h3 h4 h5 h6 h7 h8 h9 h10 h11 h12 => by
  have kb := kb_of e
  have f : det3 T i k m j l n = T i j * m2 T k m l n - T i l * m2 T k m j n + T i n * m2 T k m j l := by unfold det3 m2; grind
  have n1 : (T i j * m2 T k m l n).natAbs ≤ E * (2 * (E * E)) := by rw [Int.natAbs_mul]; exact Nat.mul_le_mul (e _ _ h1 h2 h7 h8) (kb _ _ _ _ h3 h4 h5 h6 h9 h10 h11 h12)
  have n2 : (T i l * m2 T k m j n).natAbs ≤ E * (2 * (E * E)) := by rw [Int.natAbs_mul]; exact Nat.mul_le_mul (e _ _ h1 h2 h9 h10) (kb _ _ _ _ h3 h4 h5 h6 h7 h8 h11 h12)
  have n3 : (T i n * m2 T k m j l).natAbs ≤ E * (2 * (E * E)) := by rw [Int.natAbs_mul]; exact Nat.mul_le_mul (e _ _ h1 h2 h11 h12) (kb _ _ _ _ h3 h4 h5 h6 h7 h8 h9 h10)
  rw [f]
  have := natAbs_sub_le (T i j * m2 T k m l n) (T i l * m2 T k m j n)
  omega
/-! ### powers -/
theorem pow5_le (q : Nat) : 5 ^ (3 * q) ≤ 2 ^ (7 * q) := by
  rw [Nat.pow_mul, Nat.pow_mul]
  exact Nat.pow_le_pow_left (by decide) q
theorem pow3_le (n : Nat) : 3 ^ n ≤ 2 ^ (2 * n) := by
  rw [Nat.pow_mul]
  exact Nat.pow_le_pow_left (by decide) n
theorem lt_pow_add {x y m n : Nat} (hx : x < 2 ^ m) (hy : y ≤ 2 ^ n) : x * y < 2 ^ (m + n) := by
  rw [Nat.pow_add]
  have h1 : x * y ≤ x * 2 ^ n := Nat.mul_le_mul_left _ hy
  have h2 : x * 2 ^ n < 2 ^ m * 2 ^ n := Nat.mul_lt_mul_of_pos_right hx (Nat.pow_pos (by decide))
  omega
theorem le_pow_add {x y m n : Nat} (hx : x ≤ 2 ^ m) (hy : y ≤ 2 ^ n) : x * y ≤ 2 ^ (m + n) := by
  rw [Nat.pow_add]
  exact Nat.mul_le_mul hx hy
theorem pow_mono {m n : Nat} (h : m ≤ n) : 2 ^ m ≤ 2 ^ n := Nat.pow_le_pow_right (by decide) h
end
end K17
end
section
set_option autoImplicit false
set_option exponentiation.threshold 100
/-! KSize9: whole runs. Plain Lean. -/
namespace K17
section
variable {h w : Nat}
theorem SmTo.out {P : SM → Prop} {s t : SM} (x : SmTo P h w s t) : Out h w s.T → Out h w t.T := by
  induction x with
  | refl => exact id
  | step _ x _ ih => exact fun o => ih (o.step x)
theorem opq (n : Nat) : ∃ m : Nat, m = n := ⟨n, rfl⟩
/-- FROM ENTRIES OF AT MOST 6 -/
theorem runI (hh : h ≤ 4) (hw : w ≤ 4) (s : SM) (sa : s.a = 0) (out : Out h w s.T) (eb : EB 0 h w s.T 6) (l : MB h s.L 1) (r : MB w s.R 1) :
    ∃ t, SmRun (Fit h w) h w s t ∧ (t.a ≤ 1 → MB w t.R (2 ^ 108)) ∧ (t.a ≤ 2 → MB w t.R (2 ^ 2909)) := by
  have d0 : DoneB h w s 6 := ⟨fun i j _ _ q => by omega, fun i q => by omega⟩
  obtain ⟨t1, x1, alt1, d1, eb1, l1, r1⟩ := alpha s d0 (by rw [sa]; exact eb) l r
  have big : 97656 < 2 ^ 8990 := by
    have := pow_mono (show 17 ≤ 8990 by omega)
    have : (2 : Nat) ^ 17 = 131072 := by decide
    omega
  have fit1 : Fit h w t1 := fit_of d1 eb1 big (show 108 ≤ 134000000 by omega) l1 r1
  have up1 : (2 : Nat) ^ 108 ≤ 2 ^ 2909 := pow_mono (by omega)
  by_cases dn1 : Done h w t1
  · exact ⟨t1, x1.run (.done fit1 dn1), fun _ => r1, fun _ => r1.mono up1⟩
  · have a1 : t1.a = 1 ∧ X0 s.a h w t1 := by
      rcases alt1 with z | ⟨z, y⟩
      · exact absurd z dn1
      · exact ⟨by omega, y⟩
    obtain ⟨ta1, X1⟩ := a1
    have X1' : ∀ r c, Pick h w t1.T 1 r c → (t1.T r c).natAbs ≤ 1392 := fun r c p => X1 r c (by rw [sa]; exact p)
    rw [ta1] at eb1
    by_cases nz : NZ 1 h w t1.T
    · -- of rank two or more: by minors
      obtain ⟨D, hD⟩ := opq (3 * (97656 * (2 * (97656 * 97656))))
      have Dlt : D < 2 ^ 54 := by rw [hD]; decide
      obtain ⟨C, hC⟩ := opq (D * 5 ^ 1392)
      have p5 : 5 ^ 1392 ≤ 2 ^ 3248 := by
        have q := pow5_le 464
        rw [show (3 * 464 : Nat) = 1392 from rfl, show (7 * 464 : Nat) = 3248 from rfl] at q
        exact q
      have Clt : C < 2 ^ 3302 := by
        have q := lt_pow_add Dlt p5
        rw [show (54 + 3248 : Nat) = 3302 from rfl, ← hC] at q
        exact q
      obtain ⟨E, hE⟩ := opq (C + 1392)
      have p11 : (2 : Nat) ^ 11 ≤ 2 ^ 3302 := pow_mono (by omega)
      have p11' : (2 : Nat) ^ 11 = 2048 := by decide
      have e33 : (2 : Nat) ^ 3303 = 2 ^ 3302 + 2 ^ 3302 := by rw [Nat.pow_succ]; omega
      have Elt : E + 1 ≤ 2 ^ 3303 := by omega
      have E8990 : E < 2 ^ 8990 := by
        have := pow_mono (show 3303 ≤ 8990 by omega)
        omega
      have D1 : D ≤ C := by rw [hC]; exact Nat.le_mul_of_pos_right _ (Nat.pow_pos (by decide))
      have lowE : 97656 ≤ E := by omega
      obtain ⟨T1, hT1⟩ := opq 10000000
      have kb1 : KB 1 h w t1.T D := (kb_of eb1).mono (by omega)
      have db1 : DB 1 h w t1.T D := by rw [hD]; exact db_of eb1
      obtain ⟨t2, x2, alt2, d2, eb2, l2, r2⟩ := beta (a := 1) (P := 1392) (C := C) (E := E) (D := D) (e := 3303) (top := T1) (show Shape 1 h w from .inr (.inr ⟨by omega, by omega⟩)) (by omega) E8990 Elt (by omega) 2785 t1 D 108 ta1
        (d1.mono lowE) (eb1.mono lowE) kb1 db1 (Nat.le_refl _) (fun r c p => ⟨X1' r c p, by rw [hC]; exact Nat.mul_le_mul_left _ (Nat.pow_le_pow_right (by decide) (X1' r c p)), .inl (by have := X1' r c p; omega)⟩) l1 r1 (by omega)
      have fit2 : Fit h w t2 := fit_of d2 eb2 E8990 (show T1 ≤ 134000000 by omega) l2 r2
      have nz2 : t2.a ≤ 2 → ¬ Done h w t2 := fun q => x2.nz (by rw [ta1]; exact nz) (by omega)
      by_cases dn2 : Done h w t2
      · exact ⟨t2, x1.run (x2.run (.done fit2 dn2)), fun q => absurd dn2 (nz2 (by omega)), fun q => absurd dn2 (nz2 q)⟩
      · have a2 : t2.a = 2 ∧ KB 2 h w t2.T D := by
          rcases alt2 with z | z
          · exact absurd z dn2
          · exact z
        obtain ⟨ta2, kb2⟩ := a2
        rw [ta2] at eb2
        have lt2 : 2 < h ∧ 2 < w := Classical.byContradiction fun z => dn2 fun i j q1 q2 q3 q4 => by omega
        obtain ⟨F, hF⟩ := opq (D + E)
        have p54 : (2 : Nat) ^ 54 ≤ 2 ^ 3303 := pow_mono (by omega)
        have e34 : (2 : Nat) ^ 3304 = 2 ^ 3303 + 2 ^ 3303 := by rw [Nat.pow_succ]; omega
        have Flt : F + 1 ≤ 2 ^ 3304 := by omega
        have F8990 : F < 2 ^ 8990 := by
          have := pow_mono (show 3304 ≤ 8990 by omega)
          omega
        have EF : E ≤ F := by omega
        obtain ⟨T2, hT2⟩ := opq 76000000
        obtain ⟨t3, x3, alt3, d3, eb3, l3, r3⟩ := gamma2 (a := 2) (E0 := E) (e0 := 3303) (K := D) (E := F) (e := 3304) (b := T1) (top := T2) lt2.1 lt2.2 (by omega) (by omega) (by omega) (by omega) F8990 Flt (by omega) t2 ta2 (x2.out (x1.out out))
          (d2.mono EF) (eb2.mono EF) eb2 kb2 l2 r2 (by omega)
        have fit3 : Fit h w t3 := fit_of d3 eb3 F8990 (show T2 ≤ 134000000 by omega) l3 r3
        by_cases dn3 : Done h w t3
        · have al := x3.alive dn2 dn3
          exact ⟨t3, x1.run (x2.run (x3.run (.done fit3 dn3))), fun q => by omega, fun q => by omega⟩
        · have ta3 : t3.a = 3 := by
            rcases alt3 with z | z
            · exact absurd z dn3
            · exact z
          rw [ta3] at eb3
          have h4 : h = 4 := by
            refine Classical.byContradiction fun z => dn3 fun i j q1 q2 q3 q4 => ?_
            omega
          subst h4
          obtain ⟨T3, hT3⟩ := opq 77000000
          have F1 : 1 ≤ F := by omega
          have Fle : F ≤ 2 ^ 3304 := by omega
          have C9 : 9 * (2 ^ T2 * F * (F * F) * (F * F)) ≤ 2 ^ T3 := by
            have f1 := le_pow_add (Nat.le_refl (2 ^ T2)) Fle
            have f2 := le_pow_add Fle Fle
            have f3 := le_pow_add (le_pow_add f1 f2) f2
            have f4 := le_pow_add (show 9 ≤ 2 ^ 4 by decide) f3
            have f5 := pow_mono (show 4 + (T2 + 3304 + (3304 + 3304) + (3304 + 3304)) ≤ T3 by rw [hT2, hT3]; decide)
            exact Nat.le_trans f4 f5
          obtain ⟨t4, x4, dn4, l4, r4, fit4⟩ := gamma1 (a := 3) (w := w) (E := F) (b := T3) (B := 2 ^ T2) F8990 F1 (by omega) C9 t3 ta3 d3 eb3 (l3.mono (pow_mono (by omega))) r3
          have al := SmTo.alive x4 dn3 dn4
          exact ⟨t4, x1.run (x2.run (x3.run (SmTo.run x4 (.done fit4 dn4)))), fun q => by omega, fun q => by omega⟩
    · -- of rank one
      have kb1 : KB 1 h w t1.T 0 := fun i k j l g1 g2 g3 g4 g5 g6 g7 g8 => by
        have z : m2 t1.T i k j l = 0 := Classical.byContradiction fun y => nz ⟨i, k, j, l, g1, g2, g3, g4, g5, g6, g7, g8, y⟩
        rw [z]; simp
      have db1 : DB 1 h w t1.T 0 := fun i k m j l n g1 g2 g3 g4 g5 g6 g7 g8 g9 g10 g11 g12 => by
        have z1 := kb1 k m l n g3 g4 g5 g6 g9 g10 g11 g12
        have z2 := kb1 k m j n g3 g4 g5 g6 g7 g8 g11 g12
        have z3 := kb1 k m j l g3 g4 g5 g6 g7 g8 g9 g10
        have y1 : m2 t1.T k m l n = 0 := by omega
        have y2 : m2 t1.T k m j n = 0 := by omega
        have y3 : m2 t1.T k m j l = 0 := by omega
        have e : det3 t1.T i k m j l n = t1.T i j * m2 t1.T k m l n - t1.T i l * m2 t1.T k m j n + t1.T i n * m2 t1.T k m j l := by unfold det3 m2; grind
        rw [e, y1, y2, y3]; simp
      have p3 : 3 ^ 1392 ≤ 2 ^ 2784 := by
        have q := pow3_le 1392
        rw [show (2 * 1392 : Nat) = 2784 from rfl] at q
        exact q
      have c1 : 2 ^ 108 * 97656 * 3 ^ 1392 ≤ 2 ^ 2909 := by
        have q := le_pow_add (le_pow_add (Nat.le_refl (2 ^ 108)) (show 97656 ≤ 2 ^ 17 by decide)) p3
        rw [show (108 + 17 + 2784 : Nat) = 2909 from rfl] at q
        exact q
      obtain ⟨T0, hT0⟩ := opq 26000
      obtain ⟨C0, hC0⟩ := opq (2 ^ 2909)
      obtain ⟨B0, hB0⟩ := opq (2 ^ 108)
      have cT : C0 ≤ 2 ^ T0 := by
        have q := pow_mono (show 2909 ≤ T0 by rw [hT0]; decide)
        rw [← hC0] at q; exact q
      rw [← hC0, ← hB0] at c1
      rw [← hC0, ← hB0] at up1
      rw [← hB0] at r1
      rw [← hC0]
      obtain ⟨t2, x2, dn2, le2, d2, eb2, l2, r2⟩ := beta0 (a := 1) (E := 97656) (e := 17) (top := T0) (C := C0) big (by decide) (by omega) cT 1392 t1 97656 B0 108 ta1 d1 eb1 (Nat.le_refl _) kb1 db1 (fun r c p =>
        ⟨X1' r c p, Nat.le_trans (Nat.mul_le_mul_left _ (Nat.pow_le_pow_right (by decide) (X1' r c p))) c1⟩) up1 l1 r1 (by omega)
      have fit2 : Fit h w t2 := fit_of d2 eb2 big (show T0 ≤ 134000000 by omega) l2 (r2.mono cT)
      have al := x2.alive dn1 dn2
      exact ⟨t2, x1.run (x2.run (.done fit2 dn2)), fun q => by omega, fun _ => r2⟩
end
end K17
end
section
set_option autoImplicit false
set_option exponentiation.threshold 100
/-! KSize10: runs of two rows, three rows, one row; of three times the rows. Plain Lean. -/
namespace K17
section
variable {w : Nat}
theorem done0 {h : Nat} {s : SM} (sa : s.a = 0) (Z : Nat) : DoneB h w s Z := ⟨fun i j _ _ q => by omega, fun i q => by omega⟩
/-- ONE ROW -/
theorem runIV (s : SM) (sa : s.a = 0) (eb : EB 0 1 w s.T 1296) (l : MB 1 s.L 1) (r : MB w s.R 1) : ∃ t, SmRun (Fit 1 w) 1 w s t ∧ MB w t.R (2 ^ 59) := by
  have big : 1296 < 2 ^ 8990 := by
    have h1 := pow_mono (show 11 ≤ 8990 by decide)
    have h2 : (2 : Nat) ^ 11 = 2048 := by decide
    omega
  have c9 : 9 * (1 * 1296 * (1296 * 1296) * (1296 * 1296)) ≤ 2 ^ 59 := by decide
  obtain ⟨t, x, dn, _, r', f⟩ := gamma1 (a := 0) (w := w) (E := 1296) (b := 59) (B := 1) big (by decide) (by decide) c9 s sa (done0 sa _) eb (l.mono (by decide)) r
  exact ⟨t, SmTo.run x (.done f dn), r'.mono c9⟩
/-- TWO ROWS of small minors -/
theorem runII (s : SM) (sa : s.a = 0) (eb : EB 0 2 w s.T 144) (kb : KB 0 2 w s.T 72) (pk : ∀ r c, Pick 2 w s.T 0 r c → (s.T r c).natAbs ≤ 8) (l : MB 2 s.L 1) (r : MB w s.R 1) : ∃ t, SmRun (Fit 2 w) 2 w s t ∧ MB w t.R (2 ^ 571) := by
  obtain ⟨E, hE⟩ := opq 28125008
  have E25 : E + 1 ≤ 2 ^ 25 := by rw [hE]; decide
  have big : E < 2 ^ 8990 := by
    have h1 := pow_mono (show 25 ≤ 8990 by decide)
    omega
  have db : DB 0 2 w s.T 0 := det3_few (.inl (by decide)) fun h1 _ => absurd h1 (by decide)
  obtain ⟨T1, hT1⟩ := opq 442
  obtain ⟨t1, x1, alt, d1, eb1, l1, r1⟩ := beta (a := 0) (h := 2) (w := w) (C := 28125000) (P := 8) (E := E) (D := 0) (e := 25) (top := T1) (.inl (by decide)) (by rw [hE]; decide) big E25 (by rw [hT1]; decide) 17 s 72 0 sa (done0 sa _) (eb.mono (by rw [hE]; decide)) kb db (by decide) (fun r c p => by
    have v := pk r c p
    refine ⟨v, ?_, .inl (by omega)⟩
    have h1 : 5 ^ (s.T r c).natAbs ≤ 5 ^ 8 := Nat.pow_le_pow_right (by decide) v
    have h2 : (5 : Nat) ^ 8 = 390625 := by decide
    omega) (l.mono (by decide)) (r.mono (by decide)) (by rw [hT1]; decide)
  have fit1 : Fit 2 w t1 := fit_of d1 eb1 big (show T1 ≤ 134000000 by rw [hT1]; decide) l1 r1
  have up : (2 : Nat) ^ T1 ≤ 2 ^ 571 := pow_mono (by rw [hT1]; decide)
  by_cases dn : Done 2 w t1
  · exact ⟨t1, x1.run (.done fit1 dn), r1.mono up⟩
  · have a1 : t1.a = 1 := by
      rcases alt with z | z
      · exact absurd z dn
      · exact z.1
    rw [a1] at eb1
    have Ele : E ≤ 2 ^ 25 := by omega
    have c9 : 9 * (2 ^ T1 * E * (E * E) * (E * E)) ≤ 2 ^ 571 := by
      have f1 := le_pow_add (Nat.le_refl (2 ^ T1)) Ele
      have f2 := le_pow_add Ele Ele
      have f3 := le_pow_add (le_pow_add f1 f2) f2
      have f4 := le_pow_add (show 9 ≤ 2 ^ 4 by decide) f3
      have f5 := pow_mono (show 4 + (T1 + 25 + (25 + 25) + (25 + 25)) ≤ 571 by rw [hT1]; decide)
      exact Nat.le_trans f4 f5
    obtain ⟨t2, x2, dn2, _, r2, f2⟩ := gamma1 (a := 1) (w := w) (E := E) (b := 571) (B := 2 ^ T1) big (by rw [hE]; decide) (by decide) c9 t1 a1 d1 eb1 (l1.mono up) r1
    exact ⟨t2, x1.run (SmTo.run x2 (.done f2 dn2)), r2.mono c9⟩
/-- THREE ROWS with an entry 1 or -1 -/
theorem runIII (s : SM) (sa : s.a = 0) (eb : EB 0 3 w s.T 48) (pk : ∀ r c, Pick 3 w s.T 0 r c → (s.T r c).natAbs = 1) (l : MB 3 s.L 1) (r : MB w s.R 1) : ∃ t, SmRun (Fit 3 w) 3 w s t := by
  have big0 : 48 < 2 ^ 8990 := by
    have h1 := pow_mono (show 11 ≤ 8990 by decide)
    have h2 : (2 : Nat) ^ 11 = 2048 := by decide
    omega
  have fit0 : Fit 3 w s := fit_of (done0 sa _) (by rw [sa]; exact eb) big0 (show 0 ≤ 134000000 by decide) (l.mono (by decide)) (r.mono (by decide))
  by_cases dn : Done 3 w s
  · exact ⟨s, .done fit0 dn⟩
  · obtain ⟨t1, st⟩ := stp_exists dn
    have eb' : EB s.a 3 w s.T 48 := by rw [sa]; exact eb
    have d1 := st.done (done0 sa 48) eb' (Nat.le_refl _)
    obtain ⟨l1, r1⟩ := st.grows eb' l r
    have v1 : ∀ {r c : Nat}, Pick 3 w s.T s.a r c → (s.T r c).natAbs = 1 := fun {r c} p => pk r c (by rw [sa] at p; exact p)
    have eb1 : t1.a = 1 ∧ EB 1 3 w t1.T 2352 := by
      cases st with
      | go p nc => exact absurd (one_clean p (v1 p)) nc
      | add p cl u => exact absurd u.bad (one_fit (v1 p) _)
      | next p cl u =>
        have e := eb_sweep p eb' (F := 2352) (by decide) (by rw [v1 p]; decide)
        refine ⟨by show s.a + 1 = 1; omega, ?_⟩
        have z := eb_next e (Nat.le_refl _)
        rw [sa] at z; exact z
    obtain ⟨a1, eb1⟩ := eb1
    obtain ⟨K, hK⟩ := opq (2 * (2352 * 2352))
    have K24 : K < 2 ^ 24 := by rw [hK]; decide
    obtain ⟨C, hC⟩ := opq (K * 5 ^ 2352)
    have p5 : 5 ^ 2352 ≤ 2 ^ 5488 := by
      have q := pow5_le 784
      rw [show (3 * 784 : Nat) = 2352 from rfl, show (7 * 784 : Nat) = 5488 from rfl] at q
      exact q
    have Clt : C < 2 ^ 5512 := by
      have q := lt_pow_add K24 p5
      rw [show (24 + 5488 : Nat) = 5512 from rfl, ← hC] at q
      exact q
    obtain ⟨E, hE⟩ := opq (C + 2352)
    have p12 : (2 : Nat) ^ 12 ≤ 2 ^ 5512 := pow_mono (by decide)
    have p12' : (2 : Nat) ^ 12 = 4096 := by decide
    have e5 : (2 : Nat) ^ 5513 = 2 ^ 5512 + 2 ^ 5512 := by rw [Nat.pow_succ]; omega
    have Elt : E + 1 ≤ 2 ^ 5513 := by omega
    have big : E < 2 ^ 8990 := by
      have := pow_mono (show 5513 ≤ 8990 by decide)
      omega
    have lowE : 2352 ≤ E := by omega
    have low48 : 48 ≤ E := by omega
    have E1 : 1 ≤ E := by omega
    have CE : C + 2352 ≤ E := by omega
    have Ele : E ≤ 2 ^ 5513 := by omega
    clear p12 p12' e5 Clt
    obtain ⟨T1, hT1⟩ := opq 26000000
    obtain ⟨T2, hT2⟩ := opq 27000000
    have db1 : DB 1 3 w t1.T 0 := det3_few (.inl (by decide)) fun h1 _ => absurd h1 (by decide)
    have kb1 : KB 1 3 w t1.T K := by rw [hK]; exact kb_of eb1
    have p7 : (2 : Nat) * ((48 + 1) * 1) ≤ 2 ^ 7 := by decide
    obtain ⟨t2, x2, alt, d2, eb2, l2, r2⟩ := beta (a := 1) (h := 3) (w := w) (C := C) (P := 2352) (E := E) (D := 0) (e := 5513) (top := T1) (.inl (by decide)) CE big Elt (by rw [hT1]; decide) 4705 t1 K 7 a1 (d1.mono low48) (eb1.mono lowE) kb1 db1 (Nat.zero_le _) (fun r c p => by
      have v : (t1.T r c).natAbs ≤ 2352 := eb1 r c p.r0 p.r1 p.c0 p.c1
      refine ⟨v, ?_, .inl (by clear hC hE Elt big Ele; omega)⟩
      rw [hC]; exact Nat.mul_le_mul_left _ (Nat.pow_le_pow_right (by decide) v)) (l1.mono p7) (r1.mono p7) (by rw [hT1]; decide)
    have fit2 : Fit 3 w t2 := fit_of d2 eb2 big (show T1 ≤ 134000000 by rw [hT1]; decide) l2 r2
    by_cases dn2 : Done 3 w t2
    · exact ⟨t2, .more fit0 st (x2.run (.done fit2 dn2))⟩
    · have a2 : t2.a = 2 := by
        rcases alt with z | z
        · exact absurd z dn2
        · exact z.1
      rw [a2] at eb2
      have c9 : 9 * (2 ^ T1 * E * (E * E) * (E * E)) ≤ 2 ^ T2 := by
        have f1 := le_pow_add (Nat.le_refl (2 ^ T1)) Ele
        have f2 := le_pow_add Ele Ele
        have f3 := le_pow_add (le_pow_add f1 f2) f2
        have f4 := le_pow_add (show 9 ≤ 2 ^ 4 by decide) f3
        have f5 := pow_mono (show 4 + (T1 + 5513 + (5513 + 5513) + (5513 + 5513)) ≤ T2 by rw [hT1, hT2]; decide)
        exact Nat.le_trans f4 f5
      have up : (2 : Nat) ^ T1 ≤ 2 ^ T2 := pow_mono (by rw [hT1, hT2]; decide)
      obtain ⟨t3, x3, dn3, _, _, f3⟩ := gamma1 (a := 2) (w := w) (E := E) (b := T2) (B := 2 ^ T1) big E1 (by rw [hT2]; decide) c9 t2 a2 d2 eb2 (l2.mono up) r2
      exact ⟨t3, .more fit0 st (x2.run (SmTo.run x3 (.done f3 dn3)))⟩
end
/-! ### three times the rows -/
/-- what the walk asks at each loop head -/
structure FitW (h w : Nat) (s : SM) : Prop where
  t : ∀ i j, i < h → j < w → (s.T i j).natAbs < 2 ^ 8998
  lr : ∃ b, b ≤ 134000000 ∧ MB h s.L (2 ^ b) ∧ MB w s.R (2 ^ b)
theorem Fit.wide {h w : Nat} {s : SM} (f : Fit h w s) : FitW h w s := ⟨fun i j hi hj => Nat.lt_of_lt_of_le (f.t i j hi hj) (pow_mono (by decide)), f.lr⟩
theorem SmRun.map {P Q : SM → Prop} {h w : Nat} {s t : SM} (f : ∀ s, P s → Q s) (x : SmRun P h w s t) : SmRun Q h w s t := by
  induction x with
  | done p d => exact .done (f _ p) d
  | more p x _ ih => exact .more (f _ p) x ih
def trip (s : SM) : SM := { s with T := fun i j => 3 * s.T i j }
section
variable {h w : Nat}
theorem fdiv3 (x p : Int) : (3 * x).fdiv (3 * p) = x.fdiv p := Int.mul_fdiv_mul_of_pos _ _ (by decide)
theorem fmod3 (x p : Int) : (3 * x).fmod (3 * p) = 3 * x.fmod p := by
  have e1 := fm_def (3 * x) (3 * p)
  have e2 := fm_def x p
  rw [fdiv3] at e1
  rw [← e1, ← e2]; grind
theorem Pick.trip {s : SM} {r c : Nat} (p : Pick h w s.T s.a r c) : Pick h w (K17.trip s).T (K17.trip s).a r c where
  r0 := p.r0
  r1 := p.r1
  c0 := p.c0
  c1 := p.c1
  ne := by
    show 3 * s.T r c ≠ 0
    have := p.ne; omega
  least := fun r' c' h1 h2 h3 h4 h5 => by
    have h5' : 3 * s.T r' c' ≠ 0 := h5
    have l := p.least r' c' h1 h2 h3 h4 (by omega)
    show lexLe (3 * s.T r c).natAbs r c (3 * s.T r' c').natAbs r' c'
    unfold lexLe at l ⊢
    omega
theorem facR_trip (s : SM) (r c i : Nat) : facR (swT (trip s) r c) s.a i = facR (swT s r c) s.a i := by
  unfold facR
  split
  · exact fdiv3 _ _
  · rfl
theorem facC_trip (s : SM) (r c j : Nat) : facC (swT (trip s) r c) s.a j = facC (swT s r c) s.a j := by
  unfold facC
  split
  · exact fdiv3 _ _
  · rfl
theorem mid_trip (s : SM) (r c : Nat) : mid (trip s) r c = trip (mid s r c) := by
  have t : (mid (trip s) r c).T = (trip (mid s r c)).T := by
    funext i j
    show (swT (trip s) r c i j - facR (swT (trip s) r c) s.a i * swT (trip s) r c s.a j) - facC (swT (trip s) r c) s.a j * (swT (trip s) r c i s.a - facR (swT (trip s) r c) s.a i * swT (trip s) r c s.a s.a) = 3 * ((swT s r c i j - facR (swT s r c) s.a i * swT s r c s.a j) - facC (swT s r c) s.a j * (swT s r c i s.a - facR (swT s r c) s.a i * swT s r c s.a s.a))
    rw [facR_trip, facC_trip]
    have e : ∀ i j, swT (trip s) r c i j = 3 * swT s r c i j := fun _ _ => rfl
    rw [e, e, e, e]; grind
  have l : (mid (trip s) r c).L = (trip (mid s r c)).L := by
    funext i j
    show swapR s.L s.a r i j - facR (swT (trip s) r c) s.a i * swapR s.L s.a r s.a j = swapR s.L s.a r i j - facR (swT s r c) s.a i * swapR s.L s.a r s.a j
    rw [facR_trip]
  have r' : (mid (trip s) r c).R = (trip (mid s r c)).R := by
    funext i j
    show swapC s.R s.a c i j - facC (swT (trip s) r c) s.a j * swapC s.R s.a c i s.a = swapC s.R s.a c i j - facC (swT s r c) s.a j * swapC s.R s.a c i s.a
    rw [facC_trip]
  have a' : (mid (trip s) r c).a = (trip (mid s r c)).a := rfl
  cases h1 : mid (trip s) r c
  cases h2 : trip (mid s r c)
  rw [h1] at t l r' a'
  rw [h2] at t l r' a'
  simp only at t l r' a'
  rw [t, l, r', a']
theorem clean_trip {s : SM} : Clean h w (trip s) ↔ Clean h w s := by
  constructor
  · intro c
    exact ⟨fun i h1 h2 => by have z : 3 * s.T i s.a = 0 := c.1 i h1 h2; omega, fun j h1 h2 => by have z : 3 * s.T s.a j = 0 := c.2 j h1 h2; omega⟩
  · intro c
    exact ⟨fun i h1 h2 => by show 3 * s.T i s.a = 0; rw [c.1 i h1 h2]; rfl, fun j h1 h2 => by show 3 * s.T s.a j = 0; rw [c.2 j h1 h2]; rfl⟩
theorem bad_trip {s : SM} {i : Nat} : BadRow w (trip s) i ↔ BadRow w s i := by
  have e : ∀ j, ((trip s).T i j).fmod ((trip s).T (trip s).a (trip s).a) = 3 * (s.T i j).fmod (s.T s.a s.a) := fun j => fmod3 _ _
  constructor
  · rintro ⟨j, h1, h2, h3⟩
    exact ⟨j, h1, h2, fun z => h3 (by rw [e, z]; rfl)⟩
  · rintro ⟨j, h1, h2, h3⟩
    exact ⟨j, h1, h2, fun z => h3 (by rw [e] at z; omega)⟩
theorem Stp.trip {s t : SM} (x : Stp h w s t) : Stp h w (K17.trip s) (K17.trip t) := by
  cases x with
  | go p nc =>
    have z := Stp.go p.trip (by rw [mid_trip]; exact fun c => nc (clean_trip.mp c))
    rw [mid_trip] at z; exact z
  | add p cl u =>
    rename_i r c i
    have u' : Unfit h w (mid (K17.trip s) r c) i := by
      rw [mid_trip]
      exact ⟨u.lo, u.hi, bad_trip.mpr u.bad, fun k h1 h2 b => u.first k h1 h2 (bad_trip.mp b)⟩
    have z := Stp.add p.trip (by rw [mid_trip]; exact clean_trip.mpr cl) u'
    rw [mid_trip] at z
    have e : addRow (K17.trip (mid s r c)) i = K17.trip (addRow (mid s r c) i) := by
      unfold addRow K17.trip
      simp only [SM.mk.injEq, and_true]
      funext k j
      unfold setR
      split <;> grind
    rw [e] at z; exact z
  | next p cl u =>
    have z := Stp.next p.trip (by rw [mid_trip]; exact clean_trip.mpr cl) (fun i h1 h2 b => u i h1 h2 (by rw [mid_trip] at b; exact bad_trip.mp b))
    rw [mid_trip] at z; exact z
theorem SmRun.trip {s t : SM} (x : SmRun (Fit h w) h w s t) : SmRun (FitW h w) h w (K17.trip s) (K17.trip t) := by
  have f : ∀ {s : SM}, Fit h w s → FitW h w (K17.trip s) := fun {s} f => ⟨fun i j hi hj => by
    show (3 * s.T i j).natAbs < 2 ^ 8998
    have y := f.t i j hi hj
    have e : (3 * s.T i j).natAbs = 3 * (s.T i j).natAbs := by rw [Int.natAbs_mul]; rfl
    obtain ⟨q, hq⟩ := opq (2 ^ 8990)
    have up : 4 * q ≤ 2 ^ 8998 := by
      have z := le_pow_add (show 4 ≤ 2 ^ 2 by decide) (Nat.le_refl (2 ^ 8990))
      have z2 := pow_mono (show 2 + 8990 ≤ 8998 by decide)
      rw [hq]
      exact Nat.le_trans z z2
    rw [← hq] at y
    omega, f.lr⟩
  induction x with
  | done p d =>
    exact SmRun.done (f p) (fun i j h1 h2 h3 h4 => by
      have z := d i j h1 h2 h3 h4
      show 3 * _ = (0 : Int)
      rw [z]; rfl)
  | more p x _ ih => exact .more (f p) x.trip ih
end
end K17
end
section
set_option autoImplicit false
/-! KNu: minors of the null rows are at most minors of the rows. Plain Lean. -/
namespace K17
/-! ### the first column, the transpose -/
theorem sumN_head (n : Nat) (f : Nat → Int) : sumN (n + 1) f = f 0 + sumN n fun i => f (i + 1) := by
  induction n with
  | zero => simp [sumN]
  | succ n ih => rw [sumN, ih]; simp only [sumN]; omega
theorem skip_zero (j : Nat) : skip (j + 1) 0 = 0 := by unfold skip; rw [if_pos (by omega)]
theorem skip_succ (j k : Nat) : skip (j + 1) (k + 1) = skip j k + 1 := by unfold skip; split <;> split <;> omega
theorem skip_none (k : Nat) : skip 0 k = k + 1 := by unfold skip; rw [if_neg (by omega)]
theorem detF_col : ∀ (r : Nat) (M : Nat → Vec), detF (r + 1) M = sumN (r + 1) fun i => sgn i * (M i 0 * detF r fun a b => M (skip i a) (b + 1))
  | 0, M => by simp [detF, sumN]
  | r + 1, M => by
    have e1 : ∀ j, detF (r + 1) (fun i k => M (i + 1) (skip (j + 1) k)) = sumN (r + 1) fun i => sgn i * (M (i + 1) 0 * detF r fun a b => M (skip i a + 1) (skip j b + 1)) := fun j => by
      rw [detF_col r]
      refine sumN_congr fun i _ => ?_
      rw [skip_zero]
      congr 2
      exact detF_congr fun a b _ _ => by rw [skip_succ]
    have e2 : ∀ i, detF (r + 1) (fun a b => M (skip (i + 1) a) (b + 1)) = sumN (r + 1) fun j => sgn j * (M 0 (j + 1) * detF r fun a b => M (skip i a + 1) (skip j b + 1)) := fun i => by
      simp only [detF]
      refine sumN_congr fun j _ => ?_
      rw [skip_zero]
      congr 2
      exact detF_congr fun a b _ _ => by rw [skip_succ]
    rw [detF, sumN_head, sumN_head (r + 1) fun i => sgn i * (M i 0 * detF (r + 1) fun a b => M (skip i a) (b + 1))]
    have ad : ∀ {a b x y : Int}, a = x → b = y → a + b = x + y := fun h1 h2 => by rw [h1, h2]
    refine ad ?_ ?_
    · refine congrArg (fun x => sgn 0 * (M 0 0 * x)) ?_
      exact detF_congr fun a b _ _ => by rw [skip_none, skip_none]
    · have l : ∀ j, sgn (j + 1) * (M 0 (j + 1) * detF (r + 1) fun i k => M (i + 1) (skip (j + 1) k)) = sumN (r + 1) fun i => - (sgn j * sgn i * M 0 (j + 1) * M (i + 1) 0 * detF r fun a b => M (skip i a + 1) (skip j b + 1)) := fun j => by
        rw [e1, sgn_succ, ← Int.mul_assoc, ← sumN_mul]
        exact sumN_congr fun i _ => by grind
      have m : ∀ i, sgn (i + 1) * (M (i + 1) 0 * detF (r + 1) fun a b => M (skip (i + 1) a) (b + 1)) = sumN (r + 1) fun j => - (sgn j * sgn i * M 0 (j + 1) * M (i + 1) 0 * detF r fun a b => M (skip i a + 1) (skip j b + 1)) := fun i => by
        rw [e2, sgn_succ, ← Int.mul_assoc, ← sumN_mul]
        exact sumN_congr fun j _ => by grind
      rw [sumN_congr fun j _ => l j, sumN_congr fun i _ => m i, sumN_swap]
theorem detF_tr : ∀ (r : Nat) (M : Nat → Vec), detF r (fun i j => M j i) = detF r M
  | 0, _ => rfl
  | r + 1, M => by
    rw [detF_col r M]
    simp only [detF]
    exact sumN_congr fun j _ => by rw [detF_tr r fun i k => M (skip j i) (k + 1)]
/-- a block of zeros above, on the right -/
theorem detF_block (r : Nat) : ∀ (k : Nat) (M : Nat → Vec), (∀ i, i < k → ∀ j, k ≤ j → j < k + r → M i j = 0) → detF (k + r) M = detF k M * detF r fun i j => M (k + i) (k + j)
  | 0, M, _ => by
    rw [Nat.zero_add, detF, Int.one_mul]
    exact detF_congr fun i j _ _ => by rw [Nat.zero_add, Nat.zero_add]
  | k + 1, M, h => by
    have e : k + 1 + r = k + r + 1 := by omega
    rw [e]
    simp only [detF]
    have cut : ∀ (n : Nat) (f : Nat → Int), (∀ j, k + 1 ≤ j → j < k + 1 + n → f j = 0) → sumN (k + 1 + n) f = sumN (k + 1) f := by
      intro n f
      induction n with
      | zero => intro _; rfl
      | succ n ih =>
        intro z
        rw [show k + 1 + (n + 1) = (k + 1 + n) + 1 by omega, sumN, ih fun j h1 h2 => z j h1 (by omega), z (k + 1 + n) (by omega) (by omega)]; omega
    rw [show k + r + 1 = k + 1 + r by omega, cut r _ fun j h1 h2 => by rw [h 0 (by omega) j h1 (by omega)]; simp, Int.mul_comm, ← sumN_mul]
    refine sumN_congr fun j hj => ?_
    rw [detF_block r k _ fun i hi l h1 h2 => ?_]
    · have q : detF r (fun i l => M (k + i + 1) (skip j (k + l))) = detF r fun i l => M (k + 1 + i) (k + 1 + l) := detF_congr fun a b _ _ => by
        rw [show skip j (k + b) = k + 1 + b by unfold skip; rw [if_neg (by omega)]; omega, show k + a + 1 = k + 1 + a by omega]
      rw [q]; grind
    · refine h (i + 1) (by omega) _ ?_ ?_
      · unfold skip; split <;> omega
      · have := skip_lt (j := j) h2; omega
def facB : Nat → Nat → Nat
  | 0, _ => 1
  | r + 1, B => (r + 1) * (B * facB r B)
theorem sumN_le {n : Nat} {f : Nat → Int} {B : Nat} (h : ∀ i, i < n → (f i).natAbs ≤ B) : (sumN n f).natAbs ≤ n * B := by
  induction n with
  | zero => simp [sumN]
  | succ n ih =>
    have a := ih fun i hi => h i (by omega)
    have b := h n (by omega)
    simp only [sumN]
    rw [Nat.succ_mul]
    omega
theorem sgn_abs (j : Nat) (x : Int) : (sgn j * x).natAbs = x.natAbs := by
  unfold sgn; split <;> omega
theorem detF_le {B : Nat} : ∀ {r : Nat} {M : Nat → Vec}, (∀ i j, i < r → j < r → (M i j).natAbs ≤ B) → (detF r M).natAbs ≤ facB r B
  | 0, M, _ => by simp [detF, facB]
  | r + 1, M, h => by
    simp only [detF, facB]
    refine sumN_le fun j hj => ?_
    rw [sgn_abs, Int.natAbs_mul]
    exact Nat.mul_le_mul (h 0 j (by omega) hj) (detF_le fun i k hi hk => h _ _ (by omega) (skip_lt hk))
/-- unit columns first -/
theorem detF_units {B : Nat} (r : Nat) : ∀ (k : Nat) (c : Nat → Nat) (q : Nat → Vec), Asc k (k + r) c → (∀ i, i < k → ∀ j, j < k + r → q j i = if j = c i then 1 else 0) → (∀ i, i < r → ∀ j, j < k + r → (q j (k + i)).natAbs ≤ B) → (detF (k + r) q).natAbs ≤ facB r B
  | 0, c, q, _, _, h => by
    rw [Nat.zero_add] at *
    exact detF_le fun i j hi hj => by have := h j hj i hi; rw [Nat.zero_add] at this; exact this
  | k + 1, c, q, a, h1, h2 => by
    have e : k + 1 + r = k + r + 1 := by omega
    have c0 : c 0 < k + r + 1 := by have := a.1 0 (by omega); omega
    rw [e, detF_col, sumN_one (k := c 0) c0 fun i hi ne => by rw [h1 0 (by omega) i (by omega), if_neg ne]; simp]
    rw [h1 0 (by omega) (c 0) (by omega), if_pos rfl, sgn_abs, Int.one_mul]
    have up : ∀ i, i < k → c 0 < c (i + 1) := by
      intro i
      induction i with
      | zero => exact fun hi => a.2 0 (by omega)
      | succ i ih => exact fun hi => Nat.lt_trans (ih (by omega)) (a.2 (i + 1) (by omega))
    refine detF_units r k (fun i => c (i + 1) - 1) _ ⟨fun i hi => ?_, fun i hi => ?_⟩ (fun i hi j hj => ?_) fun i hi j hj => ?_
    · have := a.1 (i + 1) (by omega); have := up i hi; show c (i + 1) - 1 < _; omega
    · have := a.2 (i + 1) (by omega); have := up i (by omega); show c (i + 1) - 1 < c (i + 1 + 1) - 1; omega
    · show q (skip (c 0) j) (i + 1) = _
      rw [h1 (i + 1) (by omega) _ (by have := skip_lt (j := c 0) hj; omega)]
      have u := up i hi
      show (if skip (c 0) j = c (i + 1) then (1 : Int) else 0) = if j = c (i + 1) - 1 then 1 else 0
      unfold skip
      split
      · rw [if_neg (by omega), if_neg (by omega)]
      · by_cases z : j + 1 = c (i + 1)
        · rw [if_pos z, if_pos (by omega)]
        · rw [if_neg z, if_neg (by omega)]
    · have := h2 i hi (skip (c 0) j) (by have := skip_lt (j := c 0) hj; omega)
      rw [show k + 1 + i = k + i + 1 by omega] at this
      exact this
/-! ### images of spans -/
theorem Sp.image {G : List Vec} {f : Vec → Vec} (f0 : f (fun _ => 0) = fun _ => 0) (fa : ∀ (u v : Vec) (k : Int), f (fun j => u j + k * v j) = fun j => f u j + k * f v j) {v : Vec} (h : Sp G v) : Sp (G.map f) (f v) := by
  induction h with
  | zero => rw [f0]; exact .zero
  | step k hg _ ih => rw [fa]; exact .step k (List.mem_map.mpr ⟨_, hg, rfl⟩) ih
theorem detF_diag : ∀ {r : Nat} {M : Nat → Vec}, (∀ i j, i < r → j < r → i ≠ j → M i j = 0) → (∀ i, i < r → M i i ≠ 0) → detF r M ≠ 0
  | 0, _, _, _ => by simp [detF]
  | r + 1, M, h1, h2 => by
    simp only [detF]
    rw [sumN_one (k := 0) (by omega) fun j hj ne => by rw [h1 0 j (by omega) hj (Ne.symm ne)]; simp]
    refine Int.mul_ne_zero (by decide) (Int.mul_ne_zero (h2 0 (by omega)) ?_)
    rw [detF_congr fun i k _ _ => by rw [skip_none]]
    exact detF_diag (fun i j hi hj ne => h1 _ _ (by omega) (by omega) (by omega)) fun i hi => h2 _ (by omega)
section
variable {h w : Nat} {A : List Vec} {t : SM}
/-- independent rows -/
theorem Good.rows_ne (g : Good h w A t) : ∃ s, Asc t.a A.length s ∧ detF t.a (fun i j => dot w (row A (s i)) (colV w t.R j)) ≠ 0 := by
  refine Classical.byContradiction fun no => ?_
  let f : Vec → Vec := fun v j => dot w v (colV w t.R j)
  have f0 : f (fun _ => 0) = fun _ => 0 := by funext j; show dot w _ _ = 0; rw [dot_comm, dot_zero]
  have fa : ∀ (u v : Vec) (k : Int), f (fun j => u j + k * v j) = fun j => f u j + k * f v j := fun u v k => by
    funext j; exact addMul_dot w _ u v k
  have ex : ∀ i, ∃ u, i < t.a → Sp A u ∧ ∀ j, j < w → t.T i j = f u j := fun i => by
    by_cases hi : i < t.a
    · obtain ⟨u, a, b⟩ := g.lat.from_ i (g.pos i hi).1
      exact ⟨u, fun _ => ⟨a, b⟩⟩
    · exact ⟨fun _ => 0, fun z => absurd z hi⟩
  obtain ⟨U, hU⟩ := Classical.axiomOfChoice ex
  have z := dvd_span (G := A.map f) (r := t.a) (c := fun j => j) (d := 0) (R := fun i => f (U i)) (fun s hs => ?_) fun i hi => (hU i hi).1.image f0 fa
  · refine detF_diag (r := t.a) (M := t.T) (fun i j hi hj ne => ?_) (fun i hi => (g.pos i hi).2.2) ?_
    · exact g.dia i j (g.pos i hi).1 (g.pos j hj).2.1 (.inl hi) ne
    · rw [← Int.zero_dvd.mp z]
      exact detF_congr fun i j hi hj => (hU i hi).2 j (g.pos j hj).2.1
  · rw [List.length_map] at hs
    refine Int.zero_dvd.mpr (Classical.byContradiction fun ne => no ⟨s, hs, ?_⟩)
    rw [detF_congr (M' := fun i j => row (A.map f) (s i) j) fun i j hi _ => by rw [row_map (hs.1 i hi)]]
    exact ne
/-- THE BOUND -/
theorem Good.nu (g : Good h w A t) {B : Nat} (hB : ∀ v ∈ A, ∀ j, j < w → (v j).natAbs ≤ B) {E : List Vec} (hE : Supp w E) (len : E.length = w - t.a) (gen : ∀ j, t.a ≤ j → j < w → Sp E (colV w t.R j)) (zero : ∀ x ∈ E, ∀ v ∈ A, dot w v x = 0)
    {c : Nat → Nat} (hc : Asc (w - t.a) w c) : (detF (w - t.a) fun i j => row E i (c j)).natAbs ≤ facB t.a B := by
  obtain ⟨s, hs, ne⟩ := g.rows_ne
  have le := g.le
  obtain ⟨k, hk⟩ : ∃ k, k = w - t.a := ⟨_, rfl⟩
  obtain ⟨r, hr⟩ : ∃ r, r = t.a := ⟨_, rfl⟩
  rw [← hk] at hc len ⊢
  rw [← hr] at hs ne ⊢
  have hw : w = k + r := by omega
  let Φ : Vec → Vec := fun x i => if i < k then x (c i) else if i < w then dot w (row A (s (i - k))) x else 0
  have f0 : Φ (fun _ => 0) = fun _ => 0 := by
    funext i; show (if _ then _ else if _ then dot w _ _ else _) = (0 : Int)
    rw [dot_zero]; repeat' split
    all_goals rfl
  have fa : ∀ (u v : Vec) (l : Int), Φ (fun j => u j + l * v j) = fun j => Φ u j + l * Φ v j := fun u v l => by
    funext i
    show (if _ then _ else if _ then dot w _ _ else _) = (if _ then _ else if _ then _ else _) + l * (if _ then _ else if _ then _ else _)
    repeat' split
    · rfl
    · exact dot_addMul w _ u v l
    · simp
  let G := E ++ (List.range r).map (colV w t.R)
  have lenG : G.length = w := by show (E ++ _).length = _; rw [List.length_append, List.length_map, List.length_range, len]; omega
  have suppG : Supp w G := Supp.append hE fun v hv i hi => by
    obtain ⟨j, _, rfl⟩ := List.mem_map.mp hv
    exact colV_supp i hi
  have genG : ∀ j, j < w → Sp G (unitV j) := fun j hj => (g.lat.gen j hj).trans fun v hv => by
    obtain ⟨l, hl, rfl⟩ := mem_colsV hv
    by_cases q : l < r
    · exact .mem (List.mem_append_right _ (List.mem_map.mpr ⟨l, by simpa using q, rfl⟩))
    · exact (gen l (by omega) hl).mono fun _ => List.mem_append_left _
  let q : Nat → Vec := fun j => Φ (unitV j)
  let Q := (List.range w).map q
  have rowQ : ∀ j, j < w → row Q j = q j := fun j hj => by
    show row ((List.range w).map q) j = _
    unfold row
    rw [List.getD_eq_getElem?_getD, List.getElem?_map, List.getElem?_range hj]; rfl
  have rowG : ∀ j, j < w → row (G.map Φ) j = Φ (row G j) := fun j hj => row_map (by rw [lenG]; exact hj)
  have d1 : detF w (row (G.map Φ)) ∣ detF w q := by
    have z := dvd_span (G := G.map Φ) (r := w) (c := fun j => j) (d := detF w (row (G.map Φ))) (R := q) (fun s hs => ?_) fun i hi => (genG i hi).image f0 fa
    · exact z
    · rw [List.length_map, lenG] at hs
      have id := asc_id hs
      rw [detF_congr (M := fun i j => row (G.map Φ) (s i) j) (M' := row (G.map Φ)) fun i j hi _ => by rw [id i hi]]
      exact Int.dvd_refl _
  have d2 : detF w q ∣ detF w (row (G.map Φ)) := by
    have z := dvd_span (G := Q) (r := w) (c := fun j => j) (d := detF w q) (R := row (G.map Φ)) (fun s hs => ?_) fun i hi => ?_
    · exact z
    · rw [show Q.length = w by simp [Q]] at hs
      have id := asc_id hs
      rw [detF_congr (M := fun i j => row Q (s i) j) (M' := q) fun i j hi _ => by rw [id i hi, rowQ i hi]]
      exact Int.dvd_refl _
    · rw [rowG i hi]
      have := (sp_units (G := (List.range w).map unitV) (fun l hl => .mem (List.mem_map.mpr ⟨l, by simpa using hl, rfl⟩)) (suppG _ (row_mem (by rw [lenG]; exact hi)))).image f0 fa
      rw [List.map_map] at this
      exact this
  have eq : (detF w (row (G.map Φ))).natAbs = (detF w q).natAbs := Nat.dvd_antisymm (Int.natAbs_dvd_natAbs.mpr d1) (Int.natAbs_dvd_natAbs.mpr d2)
  have rowE : ∀ i, i < k → row G i = row E i := fun i hi => row_append_left (by omega)
  have rowR : ∀ i, i < r → row G (k + i) = colV w t.R i := fun i hi => by
    show row (E ++ _) _ = _
    rw [row_append_right (by omega), show k + i - E.length = i by omega]
    unfold row
    rw [List.getD_eq_getElem?_getD, List.getElem?_map, List.getElem?_range hi]; rfl
  have blk := detF_block r k (row (G.map Φ)) fun i hi j h1 h2 => by
    rw [rowG i (by omega), rowE i hi]
    show (if j < k then _ else if j < w then dot w _ _ else _) = (0 : Int)
    rw [if_neg (by omega), if_pos (by omega)]
    exact zero _ (row_mem (by omega)) _ (row_mem (hs.1 _ (by omega)))
  rw [← hw] at blk
  have b1 : detF k (row (G.map Φ)) = detF k fun i j => row E i (c j) := detF_congr fun i j hi hj => by
    rw [rowG i (by omega), rowE i hi]
    show (if j < k then _ else _) = _
    rw [if_pos hj]
  have b2 : detF r (fun i j => row (G.map Φ) (k + i) (k + j)) = detF r fun i j => dot w (row A (s i)) (colV w t.R j) := by
    rw [← detF_tr]
    exact detF_congr fun i j hi hj => by
      rw [rowG (k + j) (by omega), rowR j hj]
      show (if k + i < k then _ else if k + i < w then dot w (row A (s (k + i - k))) _ else _) = _
      rw [if_neg (by omega), if_pos (by omega), show k + i - k = i by omega]
  rw [b1, b2] at blk
  have up : (detF w q).natAbs ≤ facB r B := by
    rw [hw]
    refine detF_units r k c q (by rw [← hw]; exact hc) (fun i hi j hj => ?_) fun i hi j hj => ?_
    · show (if i < k then unitV j (c i) else _) = _
      rw [if_pos hi]; rfl
    · show (if k + i < k then _ else if k + i < w then dot w (row A (s (k + i - k))) (unitV j) else _ : Int).natAbs ≤ B
      rw [if_neg (by omega), if_pos (by omega), dot_unit (by omega)]
      exact hB _ (row_mem (hs.1 _ (by omega))) j (by omega)
  rw [← eq, blk, Int.natAbs_mul] at up
  refine Nat.le_trans ?_ up
  exact Nat.le_mul_of_pos_right _ (by omega)
/-- rows that the steps take to less than their number are dependent -/
theorem Good.rank_le (g : Good h w A t) (hA : Supp w A) (d : Done h w t) {k : Nat} (hk : t.a < k) {s : Nat → Nat} (hs : ∀ i, i < k → s i < A.length) {c : Nat → Nat} : detF k (fun i j => row A (s i) (c j)) = 0 := by
  have ex : ∀ j, ∃ a : Nat → Int, j < w → ∀ i, unitV j i = sumN w fun l => a l * colV w t.R l i := fun j => by
    by_cases hj : j < w
    · obtain ⟨a, ha⟩ := (g.lat.gen j hj).coef
      rw [colsV_len] at ha
      exact ⟨a, fun _ i => by rw [ha]; exact sumN_congr fun l hl => by rw [colsV_row hl]⟩
    · exact ⟨fun _ => 0, fun z => absurd z hj⟩
  obtain ⟨a, ha⟩ := Classical.axiomOfChoice ex
  let G := (List.range t.a).map fun l => (fun j => if j < w then a j l else 0 : Vec)
  refine det_few (G := G) (by simpa [G] using hk) fun i hi => ?_
  have hv := row_mem (hs i hi)
  have le := g.le
  have main : ∀ n, n ≤ t.a → Sp G fun j => sumN n fun l => dot w (row A (s i)) (colV w t.R l) * (if j < w then a j l else 0) := by
    intro n
    induction n with
    | zero => exact fun _ => .zero
    | succ n ih => exact fun hn => (ih (by omega)).addMul _ (.mem (List.mem_map.mpr ⟨n, by simp; omega, rfl⟩))
  refine (main t.a (Nat.le_refl _)).of_eq fun j => ?_
  by_cases hj : j < w
  · have cut : ∀ (n : Nat) (f : Nat → Int), (∀ l, t.a ≤ l → l < t.a + n → f l = 0) → sumN (t.a + n) f = sumN t.a f := by
      intro n f
      induction n with
      | zero => intro _; rfl
      | succ n ih =>
        intro z
        rw [show t.a + (n + 1) = (t.a + n) + 1 by omega, sumN, ih fun j h1 h2 => z j h1 (by omega), z (t.a + n) (by omega) (by omega)]; omega
    have e : row A (s i) j = sumN w fun l => a j l * dot w (row A (s i)) (colV w t.R l) := by
      rw [← dot_unit hj (row A (s i)), dot_congr (u' := row A (s i)) (fun _ _ => rfl) fun i _ => ha j hj i]
      unfold dot
      rw [sumN_congr fun m _ => by rw [← sumN_mul], sumN_swap]
      refine sumN_congr fun l _ => ?_
      rw [← sumN_mul]
      exact sumN_congr fun m _ => by rw [Int.mul_left_comm]
    rw [e]
    have c2 := cut (w - t.a) (fun l => a j l * dot w (row A (s i)) (colV w t.R l)) fun l h1 h2 => by
      rw [g.tail_zero d h1 (by omega) _ hv]; simp
    rw [show t.a + (w - t.a) = w by omega] at c2
    rw [c2]
    exact sumN_congr fun l _ => by rw [if_pos hj, Int.mul_comm]
  · rw [hA _ hv j (by omega)]
    exact sumN_zero fun l _ => by rw [if_neg hj]; simp
end
end K17
end
section
set_option autoImplicit false
/-! KHnf: entries of echelon rows of small minors. Plain Lean. -/
namespace K17
theorem detF_two' (M : Nat → Vec) : detF 2 M = M 0 0 * M 1 1 - M 0 1 * M 1 0 := by
  simp [detF, sumN, skip, sgn]; grind
theorem detF_three (M : Nat → Vec) : detF 3 M = M 0 0 * (M 1 1 * M 2 2 - M 1 2 * M 2 1) - M 0 1 * (M 1 0 * M 2 2 - M 1 2 * M 2 0) + M 0 2 * (M 1 0 * M 2 1 - M 1 1 * M 2 0) := by
  simp [detF, sumN, skip, sgn]; grind
/-- all minors of all rows at ascending columns are at most M -/
def NuB (E : List Vec) (w M : Nat) : Prop := ∀ c, Asc E.length w c → (detF E.length fun i j => row E i (c j)).natAbs ≤ M
def pickF2 (x y : Nat) : Nat → Nat := fun i => if i = 0 then x else y
def pickF3 (x y z : Nat) : Nat → Nat := fun i => if i = 0 then x else if i = 1 then y else z
theorem asc2 {x y w : Nat} (h : x < y) (k : y < w) : Asc 2 w (pickF2 x y) := ⟨fun i hi => by unfold pickF2; split <;> omega, fun i hi => by
  have : i = 0 := by omega
  subst this; simpa [pickF2] using h⟩
theorem asc3 {x y z w : Nat} (h : x < y) (h2 : y < z) (k : z < w) : Asc 3 w (pickF3 x y z) := ⟨fun i hi => by unfold pickF3; (repeat' split) <;> omega, fun i hi => by
  have : i = 0 ∨ i = 1 := by omega
  rcases this with rfl | rfl
  · simpa [pickF3] using h
  · simpa [pickF3] using h2⟩
theorem nat_of {x : Int} {M : Nat} (h : x ≤ M) (h2 : -(M : Int) ≤ x) : x.natAbs ≤ M := by omega
theorem of_nat {x : Int} {M : Nat} (h : x.natAbs ≤ M) : x ≤ M ∧ -(M : Int) ≤ x := by omega
/-- p > 0, p y between -p M and p M -/
theorem cancel_le {p y : Int} {M : Nat} (hp : 0 < p) (h1 : p * y ≤ p * M) (h2 : -(p * M) ≤ p * y) : y.natAbs ≤ M := by
  refine nat_of (Int.le_of_mul_le_mul_left h1 hp) (Int.le_of_mul_le_mul_left ?_ hp)
  rw [Int.mul_neg]; exact h2
theorem le_mul_pos {p y : Int} {M : Nat} (hp : 0 < p) (h : (p * y).natAbs ≤ M) : y.natAbs ≤ M := by
  rw [Int.natAbs_mul] at h
  exact Nat.le_trans (Nat.le_mul_of_pos_left _ (by omega)) h
/-- a x - y p small, x small, a < p: y small -/
theorem back_le {a p x y : Int} {M : Nat} (h0 : 0 ≤ a) (h1 : a < p) (hx : x.natAbs ≤ M) (h : (a * x - y * p).natAbs ≤ M) : y.natAbs ≤ M := by
  obtain ⟨x1, x2⟩ := of_nat hx
  obtain ⟨z1, z2⟩ := of_nat h
  have M0 : (0 : Int) ≤ M := Int.natCast_nonneg M
  have u1 : a * x ≤ a * M := Int.mul_le_mul_of_nonneg_left x1 h0
  have u2 : a * -(M : Int) ≤ a * x := Int.mul_le_mul_of_nonneg_left x2 h0
  rw [Int.mul_neg] at u2
  have u3 : (a + 1) * (M : Int) ≤ p * M := Int.mul_le_mul_of_nonneg_right (by omega) M0
  rw [Int.add_mul, Int.one_mul] at u3
  rw [Int.mul_comm y p] at z1 z2
  exact cancel_le (p := p) (by omega) (by omega) (by omega)
section
variable {E : List Vec} {ps : Nat → Nat} {w M : Nat}
theorem hnf1 (l : E.length = 1) (nu : NuB E w M) : EB 0 1 w (row E) M := fun i j _ hi _ hj => by
  have i0 : i = 0 := by omega
  subst i0
  have z := nu (fun _ => j) ⟨fun _ _ => hj, fun i hi => by omega⟩
  rw [l] at z
  simp [detF, sumN, sgn] at z
  exact z
theorem hnf2 (e : EchP E ps w) (l : E.length = 2) (nu : NuB E w M) : EB 0 2 w (row E) M ∧ KB 0 2 w (row E) M ∧ (row E 0 (ps 0) * row E 1 (ps 1)).natAbs ≤ M ∧ 0 < row E 0 (ps 0) ∧ 0 < row E 1 (ps 1) ∧ ps 0 < w ∧ ps 1 < w := by
  have up := e.up 0 1 (by omega) (by omega)
  have b1 := e.lt 1 (by omega)
  have p0 := e.pos 0 (by omega)
  have p1 := e.pos 1 (by omega)
  have z1 := e.zero 1 (by omega)
  obtain ⟨r1, r2⟩ := e.red 0 1 (by omega) (by omega)
  have two : ∀ j l, j < l → l < w → (m2 (row E) 0 1 j l).natAbs ≤ M := fun j l' h1 h2 => by
    have z := nu (pickF2 j l') (by rw [l]; exact asc2 h1 h2)
    rw [l, detF_two'] at z
    exact z
  have any : ∀ j l, j < w → l < w → (m2 (row E) 0 1 j l).natAbs ≤ M := fun j l h1 h2 => by
    rcases Nat.lt_trichotomy j l with q | q | q
    · exact two j l q h2
    · subst q; unfold m2; rw [Int.sub_self]; simp
    · have z := two l j q h1
      have e : m2 (row E) 0 1 j l = - m2 (row E) 0 1 l j := by unfold m2; omega
      rw [e, Int.natAbs_neg]; exact z
  have e1 : ∀ j, j < w → (row E 1 j).natAbs ≤ M := fun j hj => by
    have z := any (ps 0) j (by omega) hj
    unfold m2 at z
    rw [z1 _ up, Int.mul_zero, Int.sub_zero] at z
    exact le_mul_pos p0 z
  have e0 : ∀ j, j < w → (row E 0 j).natAbs ≤ M := fun j hj => by
    have z := any (ps 1) j b1 hj
    unfold m2 at z
    exact back_le r1 r2 (e1 j hj) z
  refine ⟨fun i j _ hi _ hj => ?_, fun i k j l' _ hi _ hk _ hj _ hl => ?_, ?_, p0, p1, by omega, b1⟩
  · have : i = 0 ∨ i = 1 := by omega
    rcases this with rfl | rfl
    · exact e0 j hj
    · exact e1 j hj
  · have h1 : i = 0 ∨ i = 1 := by omega
    have h2 : k = 0 ∨ k = 1 := by omega
    rcases h1 with rfl | rfl <;> rcases h2 with rfl | rfl
    · have : m2 (row E) 0 0 j l' = 0 := by unfold m2; rw [Int.mul_comm]; omega
      rw [this]; simp
    · exact any j l' hj hl
    · have : m2 (row E) 1 0 j l' = - m2 (row E) 0 1 j l' := by unfold m2; grind
      rw [this, Int.natAbs_neg]; exact any j l' hj hl
    · have : m2 (row E) 1 1 j l' = 0 := by unfold m2; rw [Int.mul_comm]; omega
      rw [this]; simp
  · have z := any (ps 0) (ps 1) (by omega) b1
    unfold m2 at z
    rw [z1 _ up, Int.mul_zero, Int.sub_zero] at z
    exact z
theorem hnf3 (e : EchP E ps w) (l : E.length = 3) (nu : NuB E w M) : EB 0 3 w (row E) M ∧ (row E 0 (ps 0) * row E 1 (ps 1) * row E 2 (ps 2)).natAbs ≤ M ∧ 0 < row E 0 (ps 0) ∧ 0 < row E 1 (ps 1) ∧ 0 < row E 2 (ps 2) ∧ ps 0 < w ∧ ps 1 < w ∧ ps 2 < w := by
  have u01 := e.up 0 1 (by omega) (by omega)
  have u12 := e.up 1 2 (by omega) (by omega)
  have b2 := e.lt 2 (by omega)
  have p0 := e.pos 0 (by omega)
  have p1 := e.pos 1 (by omega)
  have p2 := e.pos 2 (by omega)
  have z1 := e.zero 1 (by omega)
  have z2 := e.zero 2 (by omega)
  obtain ⟨r1, r2⟩ := e.red 0 1 (by omega) (by omega)
  obtain ⟨s1, s2⟩ := e.red 0 2 (by omega) (by omega)
  obtain ⟨t1, t2⟩ := e.red 1 2 (by omega) (by omega)
  have asc : ∀ j l n, j < l → l < n → n < w → (det3 (row E) 0 1 2 j l n).natAbs ≤ M := fun j l' n h1 h2 h3 => by
    have z := nu (pickF3 j l' n) (by rw [l]; exact asc3 h1 h2 h3)
    rw [l, detF_three] at z
    exact z
  have c1 : ∀ j l n, det3 (row E) 0 1 2 j l n = - det3 (row E) 0 1 2 l j n := fun j l n => by unfold det3; grind
  have c2 : ∀ j l n, det3 (row E) 0 1 2 j l n = - det3 (row E) 0 1 2 j n l := fun j l n => by unfold det3; grind
  have sg : ∀ {x y : Int}, x = -y → y.natAbs ≤ M → x.natAbs ≤ M := fun h k => by omega
  have half : ∀ j l n, j < l → l < w → n < w → (det3 (row E) 0 1 2 j l n).natAbs ≤ M := fun j l n h1 h2 h3 => by
    rcases Nat.lt_trichotomy l n with q | q | q
    · exact asc j l n h1 q h3
    · subst q
      have := c2 j l l
      omega
    · refine sg (c2 j l n) ?_
      rcases Nat.lt_trichotomy j n with q2 | q2 | q2
      · exact asc j n l q2 q h2
      · subst q2
        have := c1 j j l
        omega
      · exact sg (c1 j n l) (asc n j l q2 h1 h2)
  have any : ∀ j l n, j < w → l < w → n < w → (det3 (row E) 0 1 2 j l n).natAbs ≤ M := fun j l n h1 h2 h3 => by
    rcases Nat.lt_trichotomy j l with q | q | q
    · exact half j l n q h2 h3
    · subst q
      have := c1 j j n
      omega
    · exact sg (c1 j l n) (half l j n q h1 h3)
  have e2 : ∀ j, j < w → (row E 0 (ps 0) * (row E 1 (ps 1) * row E 2 j)).natAbs ≤ M := fun j hj => by
    have z := any (ps 0) (ps 1) j (by omega) (by omega) hj
    unfold det3 at z
    rw [z1 _ u01, z2 _ u12, z2 (ps 0) (by omega)] at z
    simpa using z
  have f2 : ∀ j, j < w → (row E 1 (ps 1) * row E 2 j).natAbs ≤ M := fun j hj => le_mul_pos p0 (e2 j hj)
  have g2 : ∀ j, j < w → (row E 2 j).natAbs ≤ M := fun j hj => le_mul_pos p1 (f2 j hj)
  have f1 : ∀ j, j < w → (row E 1 (ps 2) * row E 2 j - row E 1 j * row E 2 (ps 2)).natAbs ≤ M := fun j hj => by
    have z := any (ps 0) (ps 2) j (by omega) (by omega) hj
    unfold det3 at z
    rw [z1 _ u01, z2 (ps 0) (by omega)] at z
    simp only [Int.zero_mul, Int.mul_zero, Int.sub_zero, Int.add_zero] at z
    exact le_mul_pos p0 z
  have g1 : ∀ j, j < w → (row E 1 j).natAbs ≤ M := fun j hj => back_le t1 t2 (g2 j hj) (f1 j hj)
  have g0 : ∀ j, j < w → (row E 0 j).natAbs ≤ M := fun j hj => by
    have z := any (ps 1) (ps 2) j (by omega) (by omega) hj
    unfold det3 at z
    rw [z2 _ u12] at z
    simp only [Int.mul_zero, Int.sub_zero] at z
    have a := of_nat (f1 j hj)
    have b := of_nat (f2 j hj)
    have c := of_nat z
    generalize row E 1 (ps 2) * row E 2 j - row E 1 j * row E 2 (ps 2) = x at a c
    generalize hy : row E 1 (ps 1) * row E 2 j = y at b c
    generalize row E 0 (ps 1) = b1 at r1 r2 c
    generalize row E 0 (ps 2) = b2 at s1 s2 c
    generalize row E 1 (ps 1) = q1 at *
    generalize row E 2 (ps 2) = q2 at *
    generalize row E 0 j = v at c ⊢
    have M0 : (0 : Int) ≤ M := Int.natCast_nonneg M
    have k1 : b1 * x ≤ b1 * M := Int.mul_le_mul_of_nonneg_left a.1 r1
    have k2 : b1 * -(M : Int) ≤ b1 * x := Int.mul_le_mul_of_nonneg_left a.2 r1
    have k3 : b2 * y ≤ b2 * M := Int.mul_le_mul_of_nonneg_left b.1 s1
    have k4 : b2 * -(M : Int) ≤ b2 * y := Int.mul_le_mul_of_nonneg_left b.2 s1
    have k5 : (b1 + 1) * (M : Int) ≤ q1 * M := Int.mul_le_mul_of_nonneg_right (by omega) M0
    have k6 : (b2 + 1) * (M : Int) ≤ q2 * M := Int.mul_le_mul_of_nonneg_right (by omega) M0
    have k7 : 0 ≤ (q1 - 1) * (q2 - 1) := Int.mul_nonneg (by omega) (by omega)
    have k8 : 0 ≤ (q1 - 1) * (q2 - 1) * M := Int.mul_nonneg k7 M0
    have qq : 0 < q1 * q2 := Int.mul_pos p1 p2
    have k9 : (q1 - 1) * (q2 - 1) * M = q1 * q2 * M - q1 * M - q2 * M + M := by grind
    rw [Int.add_mul, Int.one_mul] at k5 k6
    rw [Int.mul_neg] at k2 k4
    rw [Int.mul_comm v] at c
    exact cancel_le (p := q1 * q2) qq (by omega) (by omega)
  refine ⟨fun i j _ hi _ hj => ?_, ?_, p0, p1, p2, by omega, by omega, b2⟩
  · have : i = 0 ∨ i = 1 ∨ i = 2 := by omega
    rcases this with rfl | rfl | rfl
    · exact g0 j hj
    · exact g1 j hj
    · exact g2 j hj
  · have := e2 (ps 2) b2
    rw [← Int.mul_assoc] at this; exact this
/-- the least entry of two rows, three rows -/
theorem pick2 (e : EchP E ps w) (l : E.length = 2) (nu : NuB E w 72) {r c : Nat} (p : Pick 2 w (row E) 0 r c) : (row E r c).natAbs ≤ 8 := by
  obtain ⟨_, _, h, p0, p1, b0, b1⟩ := hnf2 e l nu
  have l0 := p.least 0 (ps 0) (by omega) (by omega) (by omega) b0 (by omega)
  have l1 := p.least 1 (ps 1) (by omega) (by omega) (by omega) b1 (by omega)
  unfold lexLe at l0 l1
  have l0 : (row E r c).natAbs ≤ (row E 0 (ps 0)).natAbs := by omega
  have l1 : (row E r c).natAbs ≤ (row E 1 (ps 1)).natAbs := by omega
  rw [Int.natAbs_mul] at h
  refine Nat.le_of_not_lt fun z => ?_
  have := Nat.mul_le_mul (show 9 ≤ (row E 0 (ps 0)).natAbs by omega) (show 9 ≤ (row E 1 (ps 1)).natAbs by omega)
  omega
theorem pick3 (e : EchP E ps w) (l : E.length = 3) (nu : NuB E w 6) {r c : Nat} (p : Pick 3 w (row E) 0 r c) : (row E r c).natAbs = 1 := by
  obtain ⟨_, h, p0, p1, p2, b0, b1, b2⟩ := hnf3 e l nu
  have l0 := p.least 0 (ps 0) (by omega) (by omega) (by omega) b0 (by omega)
  have l1 := p.least 1 (ps 1) (by omega) (by omega) (by omega) b1 (by omega)
  have l2 := p.least 2 (ps 2) (by omega) (by omega) (by omega) b2 (by omega)
  unfold lexLe at l0 l1 l2
  have l0 : (row E r c).natAbs ≤ (row E 0 (ps 0)).natAbs := by omega
  have l1 : (row E r c).natAbs ≤ (row E 1 (ps 1)).natAbs := by omega
  have l2 : (row E r c).natAbs ≤ (row E 2 (ps 2)).natAbs := by omega
  rw [Int.natAbs_mul, Int.natAbs_mul] at h
  have ne := p.ne
  refine Nat.le_antisymm (Nat.le_of_not_lt fun z => ?_) (by omega)
  have := Nat.mul_le_mul (Nat.mul_le_mul (show 2 ≤ (row E 0 (ps 0)).natAbs by omega) (show 2 ≤ (row E 1 (ps 1)).natAbs by omega)) (show 2 ≤ (row E 2 (ps 2)).natAbs by omega)
  omega
end
end K17
end
section
set_option autoImplicit false
/-! KPot: how entries grow by steps of Euclid at a column. Plain Lean. -/
namespace K17
def EntB (w M : Nat) (v : Vec) : Prop := ∀ j, j < w → (v j).natAbs ≤ M
theorem EntB.mono {w M N : Nat} {v : Vec} (h : EntB w M v) (k : M ≤ N) : EntB w N v := fun j hj => Nat.le_trans (h j hj) k
theorem same_fdiv {x p : Int} (h : 0 < p * x) : p.natAbs * (x.fdiv p).natAbs + (x.fmod p).natAbs = x.natAbs := by
  have e := Int.fdiv_mul_add_fmod x p
  have hp : p ≠ 0 := by rintro rfl; simp at h
  generalize x.fdiv p = q at *
  rw [← Int.natAbs_mul]
  rcases Int.lt_or_gt_of_ne hp with s | s
  · have f := fm_neg (x := x) s
    generalize x.fmod p = r at *
    have xs : x < 0 := by
      refine Int.lt_of_not_ge fun z => ?_
      have := Int.mul_nonneg (show 0 ≤ -p by omega) z
      rw [Int.neg_mul] at this; omega
    have q0 : 0 ≤ q := by
      refine Int.le_of_not_gt fun z => ?_
      have := Int.mul_le_mul_of_nonneg_right (show q + 1 ≤ 0 by omega) (show 0 ≤ -p by omega)
      rw [Int.add_mul, Int.mul_neg] at this; omega
    have := Int.mul_nonneg q0 (show 0 ≤ -p by omega)
    rw [Int.mul_neg] at this
    rw [Int.mul_comm p q]; omega
  · have f := fm_pos (x := x) s
    generalize x.fmod p = r at *
    have xs : 0 < x := by
      refine Int.lt_of_not_ge fun z => ?_
      have := Int.mul_nonneg (show 0 ≤ p by omega) (show 0 ≤ -x by omega)
      rw [Int.mul_neg] at this; omega
    have q0 : 0 ≤ q := by
      refine Int.le_of_not_gt fun z => ?_
      have := Int.mul_le_mul_of_nonneg_right (show q + 1 ≤ 0 by omega) (show 0 ≤ p by omega)
      rw [Int.add_mul] at this; omega
    have := Int.mul_nonneg q0 (show 0 ≤ p by omega)
    rw [Int.mul_comm p q]; omega
abbrev stepV (c : Nat) (h v : Vec) : Vec := lessV v h ((v c).fdiv (h c))
theorem stepV_ent {w c M Q : Nat} {h v : Vec} (hv : EntB w M v) (hh : EntB w M h) (hq : ((v c).fdiv (h c)).natAbs ≤ Q) : EntB w (M * (1 + Q)) (stepV c h v) := fun j hj => by
  show (v j - _ * h j).natAbs ≤ _
  have a := hv j hj
  have b := hh j hj
  have e : (((v c).fdiv (h c)) * h j).natAbs ≤ Q * M := by
    rw [Int.natAbs_mul]
    exact Nat.mul_le_mul hq b
  rw [Nat.mul_add, Nat.mul_one, Nat.mul_comm M Q]
  omega
/-- the heads of a column behind a first step; Z bounds the column -/
structure Pot (w c C Z : Nat) (hs : List Vec) : Prop where
  ex : ∃ M X m, (∀ v ∈ hs, EntB w M v) ∧ (∀ v ∈ hs, m ≤ (v c).natAbs ∧ (v c).natAbs ≤ X) ∧ (∃ v ∈ hs, (v c).natAbs = X) ∧ (∃ v ∈ hs, (v c).natAbs = m) ∧ 0 < m ∧ (∀ u ∈ hs, ∀ v ∈ hs, 0 < u c * v c) ∧ M * (X * X) * m ≤ C ∧ X ≤ Z
/-- what a step makes of the heads hs, h among them, the least -/
structure Nxt (c : Nat) (h : Vec) (hs hs' : List Vec) : Prop where
  from_ : ∀ u ∈ hs', u = h ∨ ∃ v ∈ hs, u = stepV c h v ∧ u c ≠ 0
  head : h ∈ hs'
  to_ : ∀ v ∈ hs, stepV c h v c ≠ 0 → stepV c h v ∈ hs'
section
variable {w c C Z : Nat} {hs : List Vec} {h : Vec}
theorem step_lt (hne : h c ≠ 0) (v : Vec) : (stepV c h v c).natAbs < (h c).natAbs := by
  show (v c - _ * h c).natAbs < _
  rw [fm_def]
  exact fm_lt hne
theorem nx_sign (hne : h c ≠ 0) {hs' : List Vec} (n : Nxt c h hs hs') : ∀ u ∈ hs', ∀ v ∈ hs', 0 < u c * v c := fun u hu v hv => by
  have f : ∀ u ∈ hs', 0 ≤ h c * u c ∧ u c ≠ 0 := fun u hu => by
    rcases n.from_ u hu with rfl | ⟨x, _, rfl, ne⟩
    · refine ⟨?_, hne⟩
      have := Int.mul_self_le_mul_self (a := 0) (b := 0) (by decide) (by decide)
      rcases Int.lt_or_gt_of_ne hne with s | s
      · exact Int.le_of_lt (Int.mul_pos_of_neg_of_neg s s)
      · exact Int.le_of_lt (Int.mul_pos s s)
    · refine ⟨?_, ne⟩
      show 0 ≤ h c * (x c - _ * h c)
      rw [fm_def]; exact fm_sign
  obtain ⟨a, a'⟩ := f u hu
  obtain ⟨b, b'⟩ := f v hv
  have z := same_sign hne a b
  have nz := Int.mul_ne_zero a' b'
  omega
/-- a least element by a number -/
theorem least_of (f : Vec → Nat) : ∀ {l : List Vec}, l ≠ [] → ∃ v ∈ l, ∀ u ∈ l, f v ≤ f u := fun {l} hl => by
  obtain ⟨a, b, _⟩ := amin_spec f hl
  exact ⟨_, row_mem a, b⟩
theorem greatest_of (f : Vec → Nat) : ∀ {l : List Vec}, l ≠ [] → ∃ v ∈ l, ∀ u ∈ l, f u ≤ f v
  | [], z => absurd rfl z
  | [v], _ => ⟨v, by simp, fun u hu => by simp at hu; rw [hu]; exact Nat.le_refl _⟩
  | v :: u :: r, _ => by
    obtain ⟨x, hx, h⟩ := greatest_of f (l := u :: r) (by simp)
    by_cases q : f x ≤ f v
    · exact ⟨v, by simp, fun y hy => by
        rcases List.mem_cons.mp hy with rfl | hy
        · exact Nat.le_refl _
        · exact Nat.le_trans (h y hy) q⟩
    · exact ⟨x, List.mem_cons_of_mem _ hx, fun y hy => by
        rcases List.mem_cons.mp hy with rfl | hy
        · omega
        · exact h y hy⟩
theorem pot_arith {m Q r X m' : Nat} (hX : X = m * Q + r) (Q1 : 1 ≤ Q) (h : (m' ≤ r) ∨ (2 ≤ Q ∧ m' ≤ m)) : (1 + Q) * (m * m') ≤ X * X := by
  subst hX
  rcases h with h | ⟨q2, h⟩
  · have a : m * m' ≤ m * r := Nat.mul_le_mul_left _ h
    have b : (1 + Q) * (m * m') ≤ (Q + Q) * (m * r) := Nat.mul_le_mul (by omega) a
    have e : (m * Q + r) * (m * Q + r) = m * Q * (m * Q) + (Q + Q) * (m * r) + r * r := by grind
    omega
  · have a : m * m' ≤ m * m := Nat.mul_le_mul_left _ h
    have b : 1 + Q ≤ Q * Q := by
      have := Nat.mul_le_mul_right Q q2
      omega
    have k := Nat.mul_le_mul b a
    have e : (m * Q + r) * (m * Q + r) = Q * Q * (m * m) + 2 * (m * Q * r) + r * r := by grind
    omega
/-- a step from such heads -/
theorem Pot.step (p : Pot w c C Z hs) (hm : h ∈ hs) (hl : ∀ v ∈ hs, (h c).natAbs ≤ (v c).natAbs) :
    (∀ v ∈ hs, EntB w (2 * C) v ∧ EntB w (2 * C) (stepV c h v) ∧ (v c).natAbs ≤ Z ∧ v c ≠ 0) ∧ ∀ hs', Nxt c h hs hs' → (∃ v ∈ hs, stepV c h v c ≠ 0) → Pot w c C Z hs' := by
  obtain ⟨M, X, m, ent, lo, ⟨x, hx, ex⟩, ⟨y, hy, ey⟩, m0, sg, pot, xz⟩ := p.ex
  have hme : (h c).natAbs = m := by have := hl y hy; have := (lo h hm).1; omega
  have hne : h c ≠ 0 := by omega
  have sf := fun v hv => same_fdiv (sg h hm v hv)
  rw [hme] at sf
  obtain ⟨Q, hQ⟩ : ∃ Q, Q = ((x c).fdiv (h c)).natAbs := ⟨_, rfl⟩
  obtain ⟨r, hr⟩ : ∃ r, r = ((x c).fmod (h c)).natAbs := ⟨_, rfl⟩
  have sx := sf x hx
  rw [← hQ, ← hr, ex] at sx
  have rlt : r < m := by rw [hr, ← hme]; exact fm_lt hne
  have qle : ∀ v ∈ hs, ((v c).fdiv (h c)).natAbs ≤ Q := fun v hv => by
    have a := sf v hv
    have b := (lo v hv).2
    refine Nat.le_of_not_lt fun z => ?_
    have := Nat.mul_le_mul_left m (show Q + 1 ≤ _ from z)
    rw [Nat.mul_add, Nat.mul_one] at this
    omega
  have mX : m ≤ X := by have := (lo x hx).1; omega
  have Q1 : 1 ≤ Q := by
    refine Nat.le_of_not_lt fun z => ?_
    have : Q = 0 := by omega
    subst this
    omega
  have QX : Q ≤ X := by
    have := Nat.le_mul_of_pos_left Q m0
    omega
  have X1 : 1 ≤ X := by omega
  have MC : M ≤ C := by
    have a := Nat.le_mul_of_pos_right M (show 0 < X * X from Nat.mul_pos X1 X1)
    have b := Nat.le_mul_of_pos_right (M * (X * X)) m0
    omega
  have M2 : M * (1 + Q) ≤ 2 * C := by
    have a : M * (1 + Q) ≤ M * (2 * (X * X)) := Nat.mul_le_mul_left _ (by
      have := Nat.le_mul_of_pos_right X X1
      omega)
    have b := Nat.le_mul_of_pos_right (M * (X * X)) m0
    have e : M * (2 * (X * X)) = 2 * (M * (X * X)) := by grind
    omega
  refine ⟨fun v hv => ⟨(ent v hv).mono (by omega), (stepV_ent (ent v hv) (ent h hm) (qle v hv)).mono M2, Nat.le_trans (lo v hv).2 xz, by have := (lo v hv).1; omega⟩, fun hs' n ⟨u, hu, nu⟩ => ?_⟩
  obtain ⟨z, hz, lz⟩ := least_of (fun v => (v c).natAbs) (l := hs') (List.ne_nil_of_mem n.head)
  have zlt : ∀ v ∈ hs', (v c).natAbs ≤ m := fun v hv => by
    rcases n.from_ v hv with rfl | ⟨y, _, rfl, _⟩
    · omega
    · have := step_lt hne (c := c) (h := h) y; omega
  refine ⟨M * (1 + Q), m, (z c).natAbs, fun v hv => ?_, fun v hv => ⟨lz v hv, zlt v hv⟩, ⟨h, n.head, hme⟩, ⟨z, hz, rfl⟩, ?_, nx_sign hne n, ?_, by omega⟩
  · rcases n.from_ v hv with rfl | ⟨y, hy, rfl, _⟩
    · exact (ent _ hm).mono (Nat.le_mul_of_pos_right _ (by omega))
    · exact stepV_ent (ent y hy) (ent h hm) (qle y hy)
  · have ss := nx_sign hne n z hz z hz
    refine Nat.pos_of_ne_zero fun q => ?_
    have z0 : z c = 0 := by omega
    rw [z0] at ss; exact absurd ss (by decide)
  · have ar : (1 + Q) * (m * (z c).natAbs) ≤ X * X := by
      refine pot_arith sx.symm Q1 ?_
      by_cases r0 : r = 0
      · refine .inr ⟨?_, zlt z hz⟩
        refine Nat.le_of_not_lt fun q1 => ?_
        have : Q = 1 := by omega
        subst this
        rw [r0] at sx
        -- all equal
        have v1 := sf u hu
        have v2 := lo u hu
        have e1 : (u c).natAbs = m := by omega
        have f0 : ((u c).fmod (h c)).natAbs = 0 := by
          have s := sg h hm u hu
          have : u c = h c := by
            rcases Int.lt_or_gt_of_ne hne with q | q
            · have : u c < 0 := by
                refine Int.lt_of_not_ge fun z => ?_
                have := Int.mul_nonneg (show 0 ≤ -(h c) by omega) z
                rw [Int.neg_mul] at this; omega
              omega
            · have : 0 < u c := by
                refine Int.lt_of_not_ge fun z => ?_
                have := Int.mul_nonneg (show 0 ≤ h c by omega) (show 0 ≤ -(u c) by omega)
                rw [Int.mul_neg] at this; omega
              omega
          rw [this, Int.fmod_self]; rfl
        apply nu
        show u c - _ * h c = 0
        rw [fm_def]; omega
      · refine .inl ?_
        have nz : stepV c h x c ≠ 0 := by
          show x c - _ * h c ≠ 0
          rw [fm_def]; omega
        have := lz _ (n.to_ x hx nz)
        have e : (stepV c h x c).natAbs = r := by
          show (x c - _ * h c).natAbs = r
          rw [fm_def, hr]
        omega
    have k := Nat.mul_le_mul_left (M * m) ar
    have e1 : M * m * ((1 + Q) * (m * (z c).natAbs)) = M * (1 + Q) * (m * m) * (z c).natAbs := by grind
    have e2 : M * m * (X * X) = M * (X * X) * m := by grind
    omega
/-- a first step, of any signs -/
theorem pot_first {B : Nat} (ent : ∀ v ∈ hs, EntB w B v) (hc : c < w) (nz : ∀ v ∈ hs, v c ≠ 0) (hm : h ∈ hs) (hl : ∀ v ∈ hs, (h c).natAbs ≤ (v c).natAbs) :
    (∀ v ∈ hs, EntB w (3 * (B * B)) (stepV c h v)) ∧ 1 ≤ B ∧ ∀ hs', Nxt c h hs hs' → Pot w c (3 * (B * B * (B * B))) B hs' := by
  have hne := nz h hm
  have B1 : 1 ≤ B := by have := ent h hm c hc; omega
  obtain ⟨m, hme⟩ : ∃ m, m = (h c).natAbs := ⟨_, rfl⟩
  have m0 : 0 < m := by omega
  have mB : m ≤ B := by rw [hme]; exact ent h hm c hc
  have qle : ∀ v ∈ hs, ((v c).fdiv (h c)).natAbs ≤ B / m + 1 := fun v hv => by
    have a := fdiv_le2 (x := v c) hne
    rw [← hme] at a
    have b := ent v hv c hc
    rw [← Nat.add_div_right _ m0]
    rw [Nat.le_div_iff_mul_le m0, Nat.mul_comm]
    omega
  have dm := Nat.div_mul_le_self B m
  have dB : B / m ≤ B := Nat.div_le_self _ _
  have up : B * (1 + (B / m + 1)) ≤ 3 * (B * B) := by
    have a := Nat.mul_le_mul_left B (show 1 + (B / m + 1) ≤ 3 * B by omega)
    have e : B * (3 * B) = 3 * (B * B) := by grind
    omega
  refine ⟨fun v hv => (stepV_ent (ent v hv) (ent h hm) (qle v hv)).mono up, B1, fun hs' n => ?_⟩
  obtain ⟨z, hz, lz⟩ := least_of (fun v => (v c).natAbs) (l := hs') (List.ne_nil_of_mem n.head)
  have zlt : ∀ v ∈ hs', (v c).natAbs ≤ m := fun v hv => by
    rcases n.from_ v hv with rfl | ⟨y, _, rfl, _⟩
    · omega
    · have := step_lt hne (c := c) (h := h) y; omega
  refine ⟨B * (1 + (B / m + 1)), m, (z c).natAbs, fun v hv => ?_, fun v hv => ⟨lz v hv, zlt v hv⟩, ⟨h, n.head, hme.symm⟩, ⟨z, hz, rfl⟩, ?_, nx_sign hne n, ?_, mB⟩
  · rcases n.from_ v hv with rfl | ⟨y, hy, rfl, _⟩
    · exact (ent _ hm).mono (Nat.le_mul_of_pos_right _ (by rw [Nat.add_comm]; exact Nat.succ_pos _))
    · exact stepV_ent (ent y hy) (ent h hm) (qle y hy)
  · have ss := nx_sign hne n z hz z hz
    refine Nat.pos_of_ne_zero fun q => ?_
    have z0 : z c = 0 := by omega
    rw [z0] at ss; exact absurd ss (by decide)
  · have zm := zlt z hz
    have a : (1 + (B / m + 1)) * m ≤ 3 * B := by
      rw [Nat.add_mul, Nat.add_mul]; omega
    have b := Nat.mul_le_mul (Nat.mul_le_mul_left B a) (Nat.mul_le_mul mB (Nat.le_trans zm mB))
    have e1 : B * (1 + (B / m + 1)) * (m * m) * (z c).natAbs = B * ((1 + (B / m + 1)) * m) * (m * (z c).natAbs) := by grind
    have e2 : B * (3 * B) * (B * B) = 3 * (B * B * (B * B)) := by grind
    omega
end
end K17
end
section
set_option autoImplicit false
set_option exponentiation.threshold 100
/-! KRun: bits of the rows of a form. Plain Lean. -/
namespace K17
/-- the runs of Euclid with bounds: D of all entries, Z of the column -/
inductive EuB (w c D Z : Nat) : List Vec → Prop
  | done {hs : List Vec} (h : ¬ 1 < hs.length) : EuB w c D Z hs
  | more {hs : List Vec} (h : 1 < hs.length) (e : ∀ v ∈ hs, EntB w D v ∧ (v c).natAbs ≤ Z ∧ v c ≠ 0) (t : EuB w c D Z (euH c hs)) : EuB w c D Z hs
inductive LzB (w c D Z : Nat) : List Vec → Prop
  | done {l : List Vec} (h : ¬ 1 < (nzs c l).length) : LzB w c D Z l
  | more {l : List Vec} (h : 1 < (nzs c l).length) (e : ∀ v ∈ l, EntB w D v ∧ (v c).natAbs ≤ Z) (t : LzB w c D Z (lzStep c l)) : LzB w c D Z l
section
variable {w c C Z : Nat}
theorem stepV_self (c : Nat) (h : Vec) (_hne : h c ≠ 0) : stepV c h h c = 0 := by
  show h c - _ * h c = 0
  rw [fm_def, Int.fmod_self]
theorem euHead_le {hs : List Vec} (hne : hs ≠ []) : ∀ v ∈ hs, (euHead c hs c).natAbs ≤ (v c).natAbs := fun v hv => (amin_spec (absAt c) hne).2.1 v hv
theorem eu_nxt {hs : List Vec} (h1 : 1 < hs.length) (nz : ∀ v ∈ hs, v c ≠ 0) : Nxt c (euHead c hs) hs (euH c hs) where
  from_ := fun u hu => by
    rcases List.mem_cons.mp hu with rfl | hu
    · exact .inl rfl
    · obtain ⟨a, b⟩ := List.mem_filter.mp hu
      obtain ⟨v, hv, rfl⟩ := List.mem_map.mp a
      exact .inr ⟨v, mem_eraseIdx hv, rfl, by simpa using b⟩
  head := List.mem_cons_self
  to_ := fun v hv ne => by
    have hne : hs ≠ [] := by rintro rfl; simp at h1
    rcases mem_of_ne (p := amin (absAt c) hs) hv with e | q
    · exfalso
      apply ne
      have : v = euHead c hs := e
      rw [this]
      exact stepV_self c _ (nz _ (euHead_mem hne))
    · exact List.mem_cons_of_mem _ (List.mem_filter.mpr ⟨List.mem_map.mpr ⟨v, q, rfl⟩, by simpa using ne⟩)
theorem eu_last {hs : List Vec} (no : ¬ ∃ v ∈ hs, stepV c (euHead c hs) v c ≠ 0) : euH c hs = [euHead c hs] := by
  unfold euH
  congr 1
  rw [List.filter_eq_nil_iff]
  intro u hu
  obtain ⟨v, hv, rfl⟩ := List.mem_map.mp hu
  have : stepV c (euHead c hs) v c = 0 := Classical.byContradiction fun z => no ⟨v, mem_eraseIdx hv, z⟩
  simpa using this
theorem eu_rest {hs rs : List Vec} {D : Nat} (h1 : ∀ v ∈ hs, EntB w D (stepV c (euHead c hs) v)) (h2 : ∀ v ∈ rs, EntB w D v) : ∀ v ∈ euR c hs rs, EntB w D v := fun v hv => by
  rcases List.mem_append.mp hv with q | q
  · exact h2 v q
  · obtain ⟨a, _⟩ := List.mem_filter.mp q
    obtain ⟨u, hu, rfl⟩ := List.mem_map.mp a
    exact h1 u (mem_eraseIdx hu)
def EuEnd (w c D Z : Nat) (s : List Vec × List Vec) : Prop := (∀ v ∈ s.1, EntB w D v ∧ (v c).natAbs ≤ Z) ∧ ∀ v ∈ s.2, EntB w D v
theorem eu_single {h : Vec} {rs : List Vec} {D : Nat} (a : EntB w D h) (b : (h c).natAbs ≤ Z) (k : ∀ v ∈ rs, EntB w D v) : EuB w c D Z [h] ∧ EuEnd w c D Z (euRun c [h] rs) := by
  refine ⟨.done (by simp), ?_⟩
  rw [euRun_done (by simp)]
  exact ⟨fun v hv => by
    have : v = h := by simpa using hv
    rw [this]; exact ⟨a, b⟩, k⟩
theorem eu_pot : ∀ (hs rs : List Vec), Pot w c C Z hs → (∀ v ∈ rs, EntB w (2 * C) v) → EuB w c (2 * C) Z hs ∧ EuEnd w c (2 * C) Z (euRun c hs rs) := by
  intro hs rs
  induction hs, rs using euRun.induct c with
  | case1 hs rs h ih =>
    intro p hr
    have hne : hs ≠ [] := by rintro rfl; simp at h
    obtain ⟨a, b⟩ := p.step (euHead_mem hne) (euHead_le hne)
    have hR := eu_rest (fun v hv => (a v hv).2.1) hr
    rw [euRun_more h.1 h.2]
    have fit : ∀ v ∈ hs, EntB w (2 * C) v ∧ (v c).natAbs ≤ Z ∧ v c ≠ 0 := fun v hv => ⟨(a v hv).1, (a v hv).2.2⟩
    by_cases ex : ∃ v ∈ hs, stepV c (euHead c hs) v c ≠ 0
    · obtain ⟨x, y⟩ := ih (b _ (eu_nxt h.1 h.2) ex) hR
      exact ⟨.more h.1 fit x, y⟩
    · have hd := a _ (euHead_mem (c := c) hne)
      have e := eu_last ex
      obtain ⟨x, y⟩ := eu_single hd.1 hd.2.2.1 hR
      rw [← e] at x y
      exact ⟨.more h.1 fit x, y⟩
  | case2 hs rs h =>
    intro p hr
    have nz : ∀ v ∈ hs, v c ≠ 0 := fun v hv => by
      obtain ⟨_, _, m, _, lo, _, _, m0, _⟩ := p.ex
      have := (lo v hv).1; omega
    have n1 : ¬ 1 < hs.length := fun z => h ⟨z, nz⟩
    rw [euRun_done n1]
    refine ⟨.done n1, fun v hv => ?_, hr⟩
    have hne := List.ne_nil_of_mem hv
    obtain ⟨a, _⟩ := p.step (euHead_mem hne) (euHead_le hne)
    exact ⟨(a v hv).1, (a v hv).2.2.1⟩
def bigB (B : Nat) : Nat := 2 * (3 * (B * B * (B * B)))
theorem sq_le {B : Nat} (h : 1 ≤ B) : B ≤ B * B ∧ B * B ≤ B * B * (B * B) := ⟨Nat.le_mul_of_pos_left _ h, Nat.le_mul_of_pos_left _ (Nat.mul_pos h h)⟩
theorem eu_run {B : Nat} {hs rs : List Vec} (hc : c < w) (ent : ∀ v ∈ hs, EntB w B v) (nz : ∀ v ∈ hs, v c ≠ 0) (hr : ∀ v ∈ rs, EntB w (bigB B) v) : EuB w c (bigB B) B hs ∧ EuEnd w c (bigB B) B (euRun c hs rs) := by
  by_cases h1 : 1 < hs.length
  · have hne : hs ≠ [] := by rintro rfl; simp at h1
    obtain ⟨a, B1, b⟩ := pot_first ent hc nz (euHead_mem hne) (euHead_le hne)
    have s := sq_le B1
    have up : 3 * (B * B) ≤ bigB B := by unfold bigB; omega
    have upB : B ≤ bigB B := by unfold bigB; omega
    have hR := eu_rest (fun v hv => (a v hv).mono up) hr
    have fit : ∀ v ∈ hs, EntB w (bigB B) v ∧ (v c).natAbs ≤ B ∧ v c ≠ 0 := fun v hv => ⟨(ent v hv).mono upB, ent v hv c hc, nz v hv⟩
    rw [euRun_more h1 nz]
    by_cases ex : ∃ v ∈ hs, stepV c (euHead c hs) v c ≠ 0
    · obtain ⟨x, y⟩ := eu_pot _ _ (b _ (eu_nxt h1 nz)) hR
      exact ⟨.more h1 fit x, y⟩
    · have hd := fit _ (euHead_mem (c := c) hne)
      obtain ⟨x, y⟩ := eu_single hd.1 hd.2.1 hR
      rw [← eu_last ex] at x y
      exact ⟨.more h1 fit x, y⟩
  · rw [euRun_done h1]
    refine ⟨.done h1, fun v hv => ⟨(ent v hv).mono ?_, ent v hv c hc⟩, hr⟩
    have B1 : 1 ≤ B := by have := ent v hv c hc; have := nz v hv; omega
    have s := sq_le B1
    unfold bigB; omega
/-! ### the law's steps -/
theorem nzs_ne {l : List Vec} : ∀ v ∈ nzs c l, v ∈ l ∧ v c ≠ 0 := fun v hv => by
  obtain ⟨a, b⟩ := List.mem_filter.mp hv
  exact ⟨a, by simpa using b⟩
theorem mem_nzs {l : List Vec} {v : Vec} (h : v ∈ l) (n : v c ≠ 0) : v ∈ nzs c l := List.mem_filter.mpr ⟨h, by simpa using n⟩
theorem lz_head {l : List Vec} (h1 : nzs c l ≠ []) : row l (lzP c l) ∈ nzs c l ∧ ∀ v ∈ nzs c l, (row l (lzP c l) c).natAbs ≤ (v c).natAbs := by
  obtain ⟨lt, e, n0, least, _⟩ := lz_spec h1
  have e : (row l (lzP c l) c).natAbs = lzMin c l := e
  refine ⟨mem_nzs (row_mem lt) (by omega), fun v hv => ?_⟩
  obtain ⟨a, b⟩ := nzs_ne v hv
  have : lzMin c l ≤ (v c).natAbs := least v a b
  omega
theorem mem_lzStep {l : List Vec} {u : Vec} (h : u ∈ lzStep c l) : u = row l (lzP c l) ∨ ∃ v ∈ l, u = stepV c (row l (lzP c l)) v := by
  obtain ⟨i, hi, rfl⟩ := mem_row h
  rw [lzStep_len] at hi
  rw [lzStep_row hi]
  by_cases q : i = lzP c l
  · rw [if_pos q, q]; exact .inl rfl
  · rw [if_neg q]; exact .inr ⟨_, row_mem hi, rfl⟩
theorem lzStep_mem {l : List Vec} (h1 : nzs c l ≠ []) : row l (lzP c l) ∈ lzStep c l ∧ ∀ v ∈ l, stepV c (row l (lzP c l)) v c ≠ 0 → stepV c (row l (lzP c l)) v ∈ lzStep c l := by
  obtain ⟨lt, e, n0, _, _⟩ := lz_spec h1
  have e : (row l (lzP c l) c).natAbs = lzMin c l := e
  refine ⟨?_, fun v hv ne => ?_⟩
  · have := row_mem (G := lzStep c l) (i := lzP c l) (by rw [lzStep_len]; exact lt)
    rw [lzStep_row lt, if_pos rfl] at this; exact this
  · obtain ⟨i, hi, rfl⟩ := mem_row hv
    by_cases q : i = lzP c l
    · rw [q] at ne
      exact absurd (stepV_self c _ (by omega)) ne
    · have := row_mem (G := lzStep c l) (i := i) (by rw [lzStep_len]; exact hi)
      rw [lzStep_row hi, if_neg q] at this; exact this
theorem lz_nxt {l : List Vec} (h1 : nzs c l ≠ []) : Nxt c (row l (lzP c l)) (nzs c l) (nzs c (lzStep c l)) where
  from_ := fun u hu => by
    obtain ⟨a, b⟩ := nzs_ne u hu
    rcases mem_lzStep a with e | ⟨v, hv, e⟩
    · exact .inl e
    · refine .inr ⟨v, mem_nzs hv fun z => ?_, e, b⟩
      apply b
      rw [e]
      show v c - _ * row l (lzP c l) c = 0
      rw [fm_def, z, Int.zero_fmod]
  head := mem_nzs (lzStep_mem h1).1 (nzs_ne _ (lz_head h1).1).2
  to_ := fun v hv ne => mem_nzs ((lzStep_mem h1).2 v (nzs_ne v hv).1 ne) ne
theorem lz_last {l : List Vec} (h1 : nzs c l ≠ []) (no : ¬ ∃ v ∈ nzs c l, stepV c (row l (lzP c l)) v c ≠ 0) : ¬ 1 < (nzs c (lzStep c l)).length := fun z => by
  obtain ⟨lt, _⟩ := lz_spec h1
  obtain ⟨i, hi, ne, nz⟩ := two_nz z (lzP c l)
  rw [lzStep_len] at hi
  rw [lzStep_row hi, if_neg ne] at nz
  refine no ⟨row l i, mem_nzs (row_mem hi) fun q => ?_, nz⟩
  apply nz
  show row l i c - _ * row l (lzP c l) c = 0
  rw [fm_def, q, Int.zero_fmod]
theorem lz_ent {l : List Vec} {D : Nat} (h1 : nzs c l ≠ []) (all : ∀ v ∈ l, EntB w D v) (st : ∀ v ∈ nzs c l, EntB w D (stepV c (row l (lzP c l)) v)) : ∀ v ∈ lzStep c l, EntB w D v := fun u hu => by
  rcases mem_lzStep hu with e | ⟨v, hv, e⟩
  · rw [e]; exact all _ (nzs_ne _ (lz_head h1).1).1
  · rw [e]
    by_cases z : v c = 0
    · intro j hj
      show (v j - (v c).fdiv _ * _).natAbs ≤ D
      rw [z, Int.zero_fdiv, Int.zero_mul, Int.sub_zero]
      exact all v hv j hj
    · exact st v (mem_nzs hv z)
theorem lz_pot : ∀ l : List Vec, Pot w c C Z (nzs c l) → (∀ v ∈ l, EntB w (2 * C) v) → LzB w c (2 * C) Z l ∧ (∀ v ∈ lzRun c l, EntB w (2 * C) v) ∧ ∀ v ∈ nzs c (lzRun c l), (v c).natAbs ≤ Z := by
  intro l
  induction l using lzRun.induct c with
  | case1 l h ih =>
    intro p hr
    have hne : nzs c l ≠ [] := by intro z; rw [z] at h; simp at h
    obtain ⟨hm, hl⟩ := lz_head hne
    obtain ⟨a, b⟩ := p.step hm hl
    have hR := lz_ent hne hr fun v hv => (a v hv).2.1
    rw [lzRun_more h]
    have fit : ∀ v ∈ l, EntB w (2 * C) v ∧ (v c).natAbs ≤ Z := fun v hv => ⟨hr v hv, by
      by_cases z : v c = 0
      · rw [z]; exact Nat.zero_le _
      · exact (a v (mem_nzs hv z)).2.2.1⟩
    by_cases ex : ∃ v ∈ nzs c l, stepV c (row l (lzP c l)) v c ≠ 0
    · obtain ⟨x, y⟩ := ih (b _ (lz_nxt hne) ex) hR
      exact ⟨.more h fit x, y⟩
    · have n1 := lz_last hne ex
      rw [lzRun_done n1]
      refine ⟨.more h fit (.done n1), hR, fun v hv => ?_⟩
      rcases (lz_nxt hne).from_ v hv with rfl | ⟨u, hu, rfl, nz⟩
      · exact (a _ hm).2.2.1
      · exact absurd ⟨u, hu, nz⟩ ex
  | case2 l h =>
    intro p hr
    rw [lzRun_done h]
    refine ⟨.done h, hr, fun v hv => ?_⟩
    obtain ⟨hm, hl⟩ := lz_head (List.ne_nil_of_mem hv)
    exact ((p.step hm hl).1 v hv).2.2.1
theorem lz_run {B : Nat} {l : List Vec} (hc : c < w) (ent : ∀ v ∈ l, EntB w B v) : (LzB w c (bigB B) B l ∧ (∀ v ∈ lzRun c l, EntB w (bigB B) v) ∧ ∀ v ∈ nzs c (lzRun c l), (v c).natAbs ≤ B) := by
  by_cases h : 1 < (nzs c l).length
  · have hne : nzs c l ≠ [] := by intro z; rw [z] at h; simp at h
    obtain ⟨hm, hl⟩ := lz_head hne
    obtain ⟨a, B1, b⟩ := pot_first (fun v hv => ent v (nzs_ne v hv).1) hc (fun v hv => (nzs_ne v hv).2) hm hl
    have s := sq_le B1
    have up : 3 * (B * B) ≤ bigB B := by unfold bigB; omega
    have upB : B ≤ bigB B := by unfold bigB; omega
    have hR := lz_ent hne (fun v hv => (ent v hv).mono upB) fun v hv => (a v hv).mono up
    have fit : ∀ v ∈ l, EntB w (bigB B) v ∧ (v c).natAbs ≤ B := fun v hv => ⟨(ent v hv).mono upB, ent v hv c hc⟩
    rw [lzRun_more h]
    obtain ⟨x, y⟩ := lz_pot _ (b _ (lz_nxt hne)) hR
    exact ⟨.more h fit x, y⟩
  · rw [lzRun_done h]
    refine ⟨.done h, fun v hv => (ent v hv).mono ?_, fun v hv => ent v (nzs_ne v hv).1 c hc⟩
    have : B ≤ B * B * (B * B) := by
      rcases Nat.eq_zero_or_pos B with z | z
      · rw [z]; exact Nat.zero_le _
      · have := sq_le z; omega
    unfold bigB; omega
end
end K17
end
section
set_option autoImplicit false
set_option exponentiation.threshold 100
/-! KBits: bits of the rows of a form, column by column. Plain Lean. -/
namespace K17
theorem bigB_pow (b : Nat) : bigB (2 ^ b) ≤ 2 ^ (4 * b + 3) := by
  unfold bigB
  have e : (2 : Nat) ^ (4 * b + 3) = 8 * (2 ^ b * 2 ^ b * (2 ^ b * 2 ^ b)) := by
    rw [show 4 * b + 3 = 3 + ((b + b) + (b + b)) by omega, Nat.pow_add, Nat.pow_add, Nat.pow_add]
  omega
theorem pow_le_pow {a b : Nat} (h : a ≤ b) : 2 ^ a ≤ 2 ^ b := pow_mono h
def kb : Nat → Nat → Nat
  | 0, b => b
  | 1, b => b
  | 2, b => 2 * b + 1
  | n + 3, b => kb (n + 2) (4 * b + 3)
theorem kb_mono : ∀ (n : Nat) {b b' : Nat}, b ≤ b' → kb n b ≤ kb n b'
  | 0, _, _, h => h
  | 1, _, _, h => h
  | 2, _, _, h => by simp only [kb]; omega
  | n + 3, _, _, h => by simp only [kb]; exact kb_mono (n + 2) (by omega)
theorem kb_ge : ∀ (n b : Nat), b ≤ kb n b
  | 0, _ => Nat.le_refl _
  | 1, _ => Nat.le_refl _
  | 2, b => by simp only [kb]; omega
  | n + 3, b => by simp only [kb]; have := kb_ge (n + 2) (4 * b + 3); omega
theorem kb_pred : ∀ (n b : Nat), kb n b ≤ kb (n + 1) b
  | 0, _ => Nat.le_refl _
  | 1, b => by simp only [kb]; omega
  | 2, b => by simp only [kb]; omega
  | n + 3, b => by
    show kb (n + 3) b ≤ kb (n + 3) (4 * b + 3)
    exact kb_mono _ (by omega)
theorem filt_two {c : Nat} (l : List Vec) : (l.filter fun v => v c ≠ 0).length + (l.filter fun v => v c = 0).length = l.length := by
  induction l with
  | nil => rfl
  | cons v l ih => by_cases hv : v c = 0 <;> simp [hv] at ih ⊢ <;> omega
theorem euRun_total {c : Nat} (hs rs : List Vec) : (euRun c hs rs).1.length + (euRun c hs rs).2.length = hs.length + rs.length := by
  refine euRun_ind (J := fun a b => a.length + b.length = hs.length + rs.length) (fun a b h1 h2 j => ?_) hs rs rfl
  rw [← j]
  have hne : a ≠ [] := by rintro rfl; simp at h1
  have e2 := filt_two (c := c) (euTold c a)
  have e3 : (euTold c a).length = a.length - 1 := by
    unfold euTold
    rw [List.length_map, List.length_eraseIdx_of_lt (amin_spec _ hne).1]
  unfold euH euR
  rw [List.length_cons, List.length_append]
  omega
theorem colRun_total (c : Nat) (left : List Vec) : (colRun c left).1.length + (colRun c left).2.length = left.length := by
  unfold colRun
  rw [euRun_total, filt_two]
theorem colRun_rest {c : Nat} {left : List Vec} : ∀ v ∈ (colRun c left).2, v c = 0 := by
  unfold colRun
  refine euRun_ind (J := fun _ b => ∀ v ∈ b, v c = 0) (fun a b _ _ j v hv => ?_) _ _ fun v hv => by simpa using (List.mem_filter.mp hv).2
  rcases List.mem_append.mp hv with q | q
  · exact j v q
  · simpa using (List.mem_filter.mp q).2
section
variable {w c b : Nat}
/-- two rows: the rest row by minors -/
theorem two_rest {left : List Vec} (hc : c < w) (ent : ∀ v ∈ left, EntB w (2 ^ b) v) (l2 : left.length = 2) (h1 : (colRun c left).1 ≠ []) : ∀ v ∈ (colRun c left).2, EntB w (2 ^ (2 * b + 1)) v := by
  have tot := colRun_total c left
  have eqv := colRun_eqv c left
  have rest := colRun_rest (c := c) (left := left)
  rcases colRun_cases c left with e | ⟨h, e, hne⟩
  · exact absurd e h1
  rw [e] at tot eqv
  intro x hx j hj
  generalize (colRun c left).2 = rs at *
  have lr : rs.length = 1 := by simp at tot; omega
  obtain ⟨y, rfl⟩ := List.length_eq_one_iff.mp lr
  have xy : x = y := by simpa using hx
  subst xy
  have x0 := rest x hx
  have d1 := dvd_span (G := left) (r := 2) (c := pickF2 c j) (d := detF 2 fun i k => row left i (pickF2 c j k)) (R := row [h, x]) (fun s hs => by
    rw [l2] at hs
    rw [detF_congr (M := fun i k => row left (s i) (pickF2 c j k)) (M' := fun i k => row left i (pickF2 c j k)) fun i k hi _ => by rw [asc_id hs i hi]]
    exact Int.dvd_refl _) fun i hi => eqv.2 _ (row_mem (by simpa using hi))
  have d2 := dvd_span (G := [h, x]) (r := 2) (c := pickF2 c j) (d := detF 2 fun i k => row [h, x] i (pickF2 c j k)) (R := row left) (fun s hs => by
    rw [detF_congr (M := fun i k => row [h, x] (s i) (pickF2 c j k)) (M' := fun i k => row [h, x] i (pickF2 c j k)) fun i k hi _ => by rw [asc_id hs i hi]]
    exact Int.dvd_refl _) fun i hi => eqv.1 _ (row_mem (by omega))
  have eq := Nat.dvd_antisymm (Int.natAbs_dvd_natAbs.mpr d1) (Int.natAbs_dvd_natAbs.mpr d2)
  rw [detF_two', detF_two'] at eq
  have eq : (row left 0 c * row left 1 j - row left 0 j * row left 1 c).natAbs = (h c * x j - h j * x c).natAbs := eq
  rw [x0, Int.mul_zero, Int.sub_zero] at eq
  have up : (row left 0 c * row left 1 j - row left 0 j * row left 1 c).natAbs ≤ 2 ^ (2 * b + 1) := by
    have r0 := ent _ (row_mem (G := left) (i := 0) (by omega))
    have r1 := ent _ (row_mem (G := left) (i := 1) (by omega))
    have a := Nat.mul_le_mul (r0 c hc) (r1 j hj)
    have b' := Nat.mul_le_mul (r0 j hj) (r1 c hc)
    rw [← Int.natAbs_mul] at a b'
    have e : (2 : Nat) ^ (2 * b + 1) = 2 ^ b * 2 ^ b + 2 ^ b * 2 ^ b := by
      rw [show 2 * b + 1 = b + b + 1 by omega, Nat.pow_succ, Nat.pow_add]; omega
    omega
  rw [eq, Int.natAbs_mul] at up
  exact Nat.le_trans (Nat.le_mul_of_pos_left _ (by omega)) up
theorem col_bits {left : List Vec} (hc : c < w) (ent : ∀ v ∈ left, EntB w (2 ^ b) v) (k : kb left.length b < 9000) :
    EuB w c (2 ^ (4 * b + 3)) (2 ^ b) (left.filter fun v => v c ≠ 0) ∧ (∀ v ∈ (colRun c left).1, EntB w (2 ^ (4 * b + 3)) v ∧ (v c).natAbs ≤ 2 ^ b) ∧ ∃ b', (∀ v ∈ (colRun c left).2, EntB w (2 ^ b') v) ∧ kb (colRun c left).2.length b' < 9000 := by
  have up := bigB_pow b
  have eub : ∀ {hs : List Vec}, EuB w c (bigB (2 ^ b)) (2 ^ b) hs → EuB w c (2 ^ (4 * b + 3)) (2 ^ b) hs := fun h => by
    induction h with
    | done h => exact .done h
    | more h e _ ih => exact .more h (fun v hv => ⟨(e v hv).1.mono up, (e v hv).2⟩) ih
  have hsE : ∀ v ∈ left.filter (fun v => v c ≠ 0), EntB w (2 ^ b) v := fun v hv => ent v (List.mem_filter.mp hv).1
  have hsN : ∀ v ∈ left.filter (fun v => v c ≠ 0), v c ≠ 0 := fun v hv => by simpa using (List.mem_filter.mp hv).2
  have rsE : ∀ v ∈ left.filter (fun v => v c = 0), EntB w (2 ^ b) v := fun v hv => ent v (List.mem_filter.mp hv).1
  have b1 : (2 : Nat) ^ b ≤ bigB (2 ^ b) := by
    have := sq_le (B := 2 ^ b) (Nat.pow_pos (by decide))
    unfold bigB; omega
  obtain ⟨e1, e2, e3⟩ := eu_run (rs := left.filter fun v => v c = 0) hc hsE hsN fun v hv => (rsE v hv).mono b1
  have e2 : ∀ v ∈ (colRun c left).1, EntB w (bigB (2 ^ b)) v ∧ (v c).natAbs ≤ 2 ^ b := e2
  have e3 : ∀ v ∈ (colRun c left).2, EntB w (bigB (2 ^ b)) v := e3
  refine ⟨eub e1, fun v hv => ⟨(e2 v hv).1.mono up, (e2 v hv).2⟩, ?_⟩
  have tot := colRun_total c left
  have one := colRun_len (c := c) (left := left)
  by_cases h1 : 1 < (left.filter fun v => v c ≠ 0).length
  · have hne : (colRun c left).1 ≠ [] := by
      have : 0 < (colRun c left).1.length := by
        unfold colRun
        refine euRun_ind (J := fun a _ => 0 < a.length) (fun a b _ _ _ => by unfold euH; simp) _ _ (by omega)
      intro z; rw [z] at this; simp at this
    have l1 : (colRun c left).1.length = 1 := by
      have := List.length_pos_iff.mpr hne; omega
    have n2 := List.length_filter_le (fun v : Vec => decide (v c ≠ 0)) left
    by_cases l2 : left.length = 2
    · refine ⟨2 * b + 1, two_rest hc ent l2 hne, ?_⟩
      rw [show (colRun c left).2.length = 1 by omega]
      rw [l2] at k; exact k
    · refine ⟨4 * b + 3, fun v hv => (e3 v hv).mono up, ?_⟩
      obtain ⟨n, hn⟩ : ∃ n, left.length = n + 3 := ⟨left.length - 3, by omega⟩
      rw [hn] at k
      rw [show (colRun c left).2.length = n + 2 by omega]
      exact k
  · refine ⟨b, ?_, ?_⟩
    · unfold colRun
      rw [euRun_done h1]; exact rsE
    · have : (colRun c left).2.length = left.length ∨ (colRun c left).2.length + 1 = left.length := by omega
      rcases this with q | q
      · rw [q]; exact k
      · rw [← q] at k
        exact Nat.lt_of_le_of_lt (kb_pred _ _) k
/-- the found rows, the next head -/
theorem found_bits {found : List Vec} {hd : Vec} {f d : Nat} (hc : c < w) (h1 : ∀ v ∈ found, EntB w (2 ^ f) v) (h2 : EntB w (2 ^ d) hd) (hne : hd c ≠ 0) : ∀ v ∈ colFound c hd found, EntB w (2 ^ (f + d + 1)) v := fun u hu => by
  rcases List.mem_append.mp hu with q | q
  · obtain ⟨v, hv, rfl⟩ := List.mem_map.mp q
    intro j hj
    show (v j - _ * hd j).natAbs ≤ _
    have a := h1 v hv
    have x := Nat.mul_le_mul (Nat.le_trans (fdiv_le (x := v c) hne) (a c hc)) (h2 j hj)
    rw [← Int.natAbs_mul] at x
    have y := a j hj
    have e : (2 : Nat) ^ (f + d + 1) = 2 ^ f * 2 ^ d + 2 ^ f * 2 ^ d := by rw [Nat.pow_succ, Nat.pow_add]; omega
    have z : 2 ^ f ≤ 2 ^ f * 2 ^ d := Nat.le_mul_of_pos_right _ (Nat.pow_pos (by decide))
    omega
  · have : u = hd := by simpa using q
    rw [this]
    exact h2.mono (pow_le_pow (by omega))
theorem signed_ent {v : Vec} {M : Nat} (h : EntB w M v) : EntB w M (signed c v) := fun j hj => by
  unfold signed
  split
  · exact h j hj
  · show (- v j).natAbs ≤ M
    rw [Int.natAbs_neg]; exact h j hj
theorem signed_at (v : Vec) : (signed c v c).natAbs = (v c).natAbs := by
  unfold signed
  split
  · rfl
  · show (- v c).natAbs = _
    rw [Int.natAbs_neg]
/-- the state behind c columns -/
theorem form_bits {rows : List Vec} (ent : ∀ v ∈ rows, EntB w (2 ^ b) v) (k : kb rows.length b < 9000) : ∀ c, c ≤ w → ∃ b' f, (∀ v ∈ (formUp rows c).1, EntB w (2 ^ b') v) ∧ kb (formUp rows c).1.length b' < 9000 ∧ (∀ v ∈ (formUp rows c).2, EntB w (2 ^ f) v) ∧ f ≤ 40000 * c
  | 0, _ => ⟨b, 0, ent, k, fun v hv => by simp [formUp] at hv, by omega⟩
  | c + 1, hc => by
    obtain ⟨b', f, e1, k1, e2, hf⟩ := form_bits ent k c (by omega)
    obtain ⟨_, h2, b'', h3, h4⟩ := col_bits (c := c) (by omega) e1 k1
    have bk := kb_ge (formUp rows c).1.length b'
    rcases colRun_cases c (formUp rows c).1 with e | ⟨v, e, hv⟩
    · refine ⟨b'', f, h3, h4, fun v hv => ?_, by omega⟩
      have : (formUp rows (c + 1)).2 = (formUp rows c).2 := by
        show (colStep c _).2 = _
        unfold colStep
        rw [if_pos e]
      rw [this] at hv; exact e2 v hv
    · refine ⟨b'', f + (4 * b' + 3) + 1, h3, h4, fun u hu => ?_, by omega⟩
      have : (formUp rows (c + 1)).2 = colFound c (signed c v) (formUp rows c).2 := by
        show (colStep c _).2 = _
        unfold colStep
        rw [if_neg (by rw [e]; simp), e]; rfl
      rw [this] at hu
      exact found_bits (by omega) e2 (signed_ent (h2 v (by rw [e]; simp)).1) (by have := signed_pos hv; omega) u hu
theorem formF_bits {rows : List Vec} (ent : ∀ v ∈ rows, EntB w (2 ^ b) v) (k : kb rows.length b < 9000) : ∀ v ∈ formF w rows, EntB w (2 ^ (40000 * w)) v := fun v hv => by
  obtain ⟨_, f, _, _, e, hf⟩ := form_bits ent k w (Nat.le_refl _)
  exact (e v hv).mono (pow_le_pow hf)
/-! ### the law's -/
def kz : Nat → Nat → Nat
  | 0, b => b
  | 1, b => b
  | n + 2, b => kz (n + 1) (4 * b + 3)
theorem kz_mono : ∀ (n : Nat) {b b' : Nat}, b ≤ b' → kz n b ≤ kz n b'
  | 0, _, _, h => h
  | 1, _, _, h => h
  | n + 2, _, _, h => by simp only [kz]; exact kz_mono (n + 1) (by omega)
theorem kz_ge : ∀ (n b : Nat), b ≤ kz n b
  | 0, _ => Nat.le_refl _
  | 1, _ => Nat.le_refl _
  | n + 2, b => by simp only [kz]; have := kz_ge (n + 1) (4 * b + 3); omega
theorem kz_pred : ∀ (n b : Nat), kz n b ≤ kz (n + 1) b
  | 0, _ => Nat.le_refl _
  | 1, b => by simp only [kz]; omega
  | n + 2, b => by
    show kz (n + 2) b ≤ kz (n + 2) (4 * b + 3)
    exact kz_mono _ (by omega)
theorem lzRun_length (c : Nat) (left : List Vec) : (lzRun c left).length = left.length := lzRun_ind (J := fun l => l.length = left.length) (fun l _ j => by rw [lzStep_len]; exact j) left rfl
theorem lzcol_bits {left : List Vec} (hc : c < w) (ent : ∀ v ∈ left, EntB w (2 ^ b) v) (k : kz left.length b < 9000) (found : List Vec) :
    LzB w c (2 ^ (4 * b + 3)) (2 ^ b) left ∧ (∀ v ∈ lzRun c left, EntB w (2 ^ (4 * b + 3)) v) ∧ (∀ v ∈ nzs c (lzRun c left), (v c).natAbs ≤ 2 ^ b) ∧ ∃ b', (∀ v ∈ (lzCol c (left, found)).1, EntB w (2 ^ b') v) ∧ kz (lzCol c (left, found)).1.length b' < 9000 := by
  have up := bigB_pow b
  have lzb : ∀ {l : List Vec}, LzB w c (bigB (2 ^ b)) (2 ^ b) l → LzB w c (2 ^ (4 * b + 3)) (2 ^ b) l := fun h => by
    induction h with
    | done h => exact .done h
    | more h e _ ih => exact .more h (fun v hv => ⟨(e v hv).1.mono up, (e v hv).2⟩) ih
  obtain ⟨e1, e2, e3⟩ := lz_run hc ent
  refine ⟨lzb e1, fun v hv => (e2 v hv).mono up, e3, ?_⟩
  have len := lzRun_length c left
  by_cases h1 : 1 < (nzs c left).length
  · have hne : nzs c (lzRun c left) ≠ [] := by
      refine lzRun_ind (J := fun l => nzs c l ≠ []) (fun l _ j => List.ne_nil_of_mem (lz_nxt j).head) left ?_
      intro z; rw [z] at h1; simp at h1
    rcases lz_cases c left with e | ⟨v, e, hv, hm⟩
    · exact absurd e hne
    · have eq : (lzCol c (left, found)).1 = (lzRun c left).filter fun v => v c = 0 := by
        unfold lzCol
        rw [if_neg hne]
      rw [eq]
      have tot := filt_two (c := c) (lzRun c left)
      have l1 : ((lzRun c left).filter fun v => v c ≠ 0).length = 1 := by
        show (nzs c (lzRun c left)).length = 1
        rw [e]; rfl
      refine ⟨4 * b + 3, fun v hv => (e2 v (List.mem_filter.mp hv).1).mono up, ?_⟩
      have n2 := List.length_filter_le (fun v : Vec => decide (v c ≠ 0)) left
      have h1' : 1 < (left.filter fun v => v c ≠ 0).length := h1
      obtain ⟨n, hn⟩ : ∃ n, left.length = n + 2 := ⟨left.length - 2, by omega⟩
      rw [hn] at k
      rw [show ((lzRun c left).filter fun v => v c = 0).length = n + 1 by omega]
      exact k
  · have done := lzRun_done h1
    refine ⟨b, fun v hv => ?_, ?_⟩
    · unfold lzCol at hv
      split at hv
      · have hv : v ∈ lzRun c left := hv
        rw [done] at hv; exact ent v hv
      · have hv : v ∈ (lzRun c left).filter fun v => v c = 0 := hv
        rw [done] at hv; exact ent v (List.mem_filter.mp hv).1
    · unfold lzCol
      split
      · show kz (lzRun c left).length b < _
        rw [len]; exact k
      · rename_i q
        have q : nzs c (lzRun c left) ≠ [] := q
        show kz ((lzRun c left).filter fun v => v c = 0).length b < _
        have tot := filt_two (c := c) (lzRun c left)
        have l0 : 0 < ((lzRun c left).filter fun v => v c ≠ 0).length := List.length_pos_iff.mpr q
        rw [done] at *
        have l1 : (left.filter fun v => v c ≠ 0).length = 1 := by
          have h1' : ¬ 1 < (left.filter fun v => v c ≠ 0).length := h1
          omega
        have : (left.filter fun v => v c = 0).length + 1 = left.length := by omega
        rw [← this] at k
        exact Nat.lt_of_le_of_lt (kz_pred _ _) k
theorem law_bits {rows : List Vec} (ent : ∀ v ∈ rows, EntB w (2 ^ b) v) (k : kz rows.length b < 9000) : ∀ c, c ≤ w → ∃ b' f, (∀ v ∈ (lzUp rows c).1, EntB w (2 ^ b') v) ∧ kz (lzUp rows c).1.length b' < 9000 ∧ (∀ v ∈ (lzUp rows c).2, EntB w (2 ^ f) v) ∧ f ≤ 40000 * c
  | 0, _ => ⟨b, 0, ent, k, fun v hv => by simp [lzUp] at hv, by omega⟩
  | c + 1, hc => by
    obtain ⟨b', f, e1, k1, e2, hf⟩ := law_bits ent k c (by omega)
    obtain ⟨_, h2, h2', b'', h3, h4⟩ := lzcol_bits (c := c) (by omega) e1 k1 (lzUp rows c).2
    have bk := kz_ge (lzUp rows c).1.length b'
    rcases lz_cases c (lzUp rows c).1 with e | ⟨v, e, hv, hm⟩
    · refine ⟨b'', f, h3, h4, fun v hv => ?_, by omega⟩
      have : (lzUp rows (c + 1)).2 = (lzUp rows c).2 := by
        show (lzCol c _).2 = _
        unfold lzCol
        rw [if_pos e]
      rw [this] at hv; exact e2 v hv
    · refine ⟨b'', f + (4 * b' + 3) + 1, h3, h4, fun u hu => ?_, by omega⟩
      have : (lzUp rows (c + 1)).2 = colFound c (signed c v) (lzUp rows c).2 := by
        show (lzCol c _).2 = _
        unfold lzCol
        rw [if_neg (by rw [e]; simp), e]; rfl
      rw [this] at hu
      exact found_bits (by omega) e2 (signed_ent (h2 v hm)) (by have := signed_pos hv; omega) u hu
end
end K17
end
section
set_option Elab.async false
set_option linter.all false
set_option maxRecDepth 100000
namespace K17
open PySem PySem.Spec PyProof.Rows L2
def topS (i : Nat) : Stmt := PySem.Challenge.pw_temperworks_k17_whole_classes_of_maps.main.body.getD i (.Pass ⟨0, 0, 0, 0⟩)
/-! operators on ints of any size -/
section
variable {X : Cx}
def MulFit (i j : Int) : Prop := ∃ a b : Nat, i.natAbs < 2 ^ a ∧ j.natAbs < 2 ^ b ∧ a + b ≤ 134217728
def DivFit (j : Int) : Prop := j ≠ 0 ∧ j.natAbs < 2 ^ 9000
theorem intBits_of {i : Int} {a : Nat} (h : i.natAbs < 2 ^ a) : Builtin.Int.intBits i ≤ a := by
  unfold Builtin.Int.intBits
  split
  · omega
  · rename_i z
    have : i.natAbs ≠ 0 := by
      intro e; apply z; simp [e] <;> omega
    have := (Nat.log2_lt this).2 h
    omega
theorem MulFit.ok {i j : Int} (h : MulFit i j) : IntMulOk i j := by
  obtain ⟨a, b, h1, h2, h3⟩ := h
  exact IntMulOk.of_le (intBits_of h1) (intBits_of h2) h3
theorem op_mulX : OpR X (binaryOp .Mult) (rI MulFit fun i j => .int (i * j)) := opI fun _ _ _ _ _ _ _ hc q => mul_int q hc.ok
theorem op_fdivX : OpR X (binaryOp .FloorDiv) (rI (fun _ j => DivFit j) fun i j => .int (i.fdiv j)) := opI fun i j _ _ _ _ _ hc q => by
  refine floordiv_int hc.1 q (.inl (PyProof.noPylong_of_log2 ?_))
  exact (Nat.log2_lt (by have := hc.1; omega)).2 hc.2
theorem op_modX : OpR X (binaryOp .Mod) (rI (fun _ j => j ≠ 0) fun i j => .int (i.fmod j)) := opI fun i j _ _ _ _ _ hc q => mod_int' hc q
end
end K17
end
section
set_option Elab.async false
set_option linter.all false
set_option maxRecDepth 100000
namespace K17
open PySem PySem.Spec PyProof.Rows L2
/-! lists that match item by item -/
inductive Rel2 {α β : Type} (R : α → β → Prop) : List α → List β → Prop
  | nil : Rel2 R [] []
  | cons {a : α} {b : β} {as : List α} {bs : List β} (h : R a b) (t : Rel2 R as bs) : Rel2 R (a :: as) (b :: bs)
section
variable {α β γ : Type} {R S : α → β → Prop}
theorem Rel2.len {as : List α} {bs : List β} (h : Rel2 R as bs) : as.length = bs.length := by
  induction h with
  | nil => rfl
  | cons _ _ ih => simp [ih]
theorem Rel2.mono {as : List α} {bs : List β} (h : Rel2 R as bs) (f : ∀ a b, a ∈ as → b ∈ bs → R a b → S a b) : Rel2 S as bs := by
  induction h with
  | nil => exact .nil
  | cons r t ih => exact .cons (f _ _ (by simp) (by simp) r) (ih fun a b ha hb => f a b (by simp [ha]) (by simp [hb]))
theorem Rel2.imp {as : List α} {bs : List β} (h : Rel2 R as bs) (f : ∀ a b, R a b → S a b) : Rel2 S as bs := h.mono fun a b _ _ => f a b
theorem Rel2.get {as : List α} {bs : List β} (h : Rel2 R as bs) : ∀ {i : Nat} {a : α}, as[i]? = some a → ∃ b, bs[i]? = some b ∧ R a b := by
  induction h with
  | nil => intro i a e; simp at e
  | cons r t ih =>
    intro i a e
    cases i with
    | zero => simp at e; subst e; exact ⟨_, rfl, r⟩
    | succ i => simp at e; simpa using ih e
theorem Rel2.get' {as : List α} {bs : List β} (h : Rel2 R as bs) : ∀ {i : Nat} {b : β}, bs[i]? = some b → ∃ a, as[i]? = some a ∧ R a b := by
  induction h with
  | nil => intro i a e; simp at e
  | cons r t ih =>
    intro i a e
    cases i with
    | zero => simp at e; subst e; exact ⟨_, rfl, r⟩
    | succ i => simp at e; simpa using ih e
theorem Rel2.app {as cs : List α} {bs ds : List β} (h : Rel2 R as bs) (g : Rel2 R cs ds) : Rel2 R (as ++ cs) (bs ++ ds) := by
  induction h with
  | nil => exact g
  | cons r t ih => exact .cons r ih
theorem Rel2.one {a : α} {b : β} (h : R a b) : Rel2 R [a] [b] := .cons h .nil
theorem Rel2.mapL {f : γ → α} {cs : List γ} {bs : List β} : Rel2 R (cs.map f) bs ↔ Rel2 (fun c b => R (f c) b) cs bs := by
  constructor
  · intro h
    generalize e : cs.map f = as at h
    induction h generalizing cs with
    | nil => cases cs with
      | nil => exact .nil
      | cons => cases e
    | cons r t ih => cases cs with
      | nil => cases e
      | cons c cs => cases e; exact .cons r (ih rfl)
  · intro h
    induction h with
    | nil => exact .nil
    | cons r t ih => exact .cons r ih
theorem Rel2.drop {as : List α} {bs : List β} (h : Rel2 R as bs) : ∀ n, Rel2 R (as.drop n) (bs.drop n) := by
  induction h with
  | nil => intro n; simp; exact .nil
  | cons r t ih => intro n; cases n with
    | zero => exact .cons r t
    | succ n => exact ih n
theorem Rel2.take {as : List α} {bs : List β} (h : Rel2 R as bs) : ∀ n, Rel2 R (as.take n) (bs.take n) := by
  induction h with
  | nil => intro n; simp; exact .nil
  | cons r t ih => intro n; cases n with
    | zero => exact .nil
    | succ n => exact .cons r (ih n)
theorem Rel2.eraseIdx {as : List α} {bs : List β} (h : Rel2 R as bs) : ∀ n, Rel2 R (as.eraseIdx n) (bs.eraseIdx n) := by
  induction h with
  | nil => intro n; simp; exact .nil
  | cons r t ih => intro n; cases n with
    | zero => exact t
    | succ n => exact .cons r (ih n)
theorem Rel2.of_eq {f : α → β} : ∀ (as : List α), Rel2 (fun a b => b = f a) as (as.map f)
  | [] => .nil
  | _ :: r => .cons rfl (Rel2.of_eq r)
theorem Rel2.eq_map {f : α → β} {as : List α} {bs : List β} (h : Rel2 (fun a b => b = f a) as bs) : bs = as.map f := by
  induction h with
  | nil => rfl
  | cons r t ih => rw [r, ih]; rfl
theorem Rel2.of_get {as : List α} {bs : List β} (hl : as.length = bs.length) (h : ∀ (i : Nat) (a : α) (b : β), as[i]? = some a → bs[i]? = some b → R a b) : Rel2 R as bs := by
  induction as generalizing bs with
  | nil => cases bs with
    | nil => exact .nil
    | cons => simp at hl
  | cons a as ih => cases bs with
    | nil => simp at hl
    | cons b bs =>
      exact .cons (h 0 a b rfl rfl) (ih (by simpa using hl) fun i x y hx hy => h (i + 1) x y (by simpa using hx) (by simpa using hy))
end
theorem itT {b : Bool} {A B : Prop} (e : b = true) (h : A) : if b = true then A else B := by rw [if_pos e]; exact h
theorem itF {b : Bool} {A B : Prop} (e : b = false) (h : B) : if b = true then A else B := by rw [if_neg (by rw [e]; decide)]; exact h
theorem qeq {Q : VK} {x y : V} {H : Hp} (e : x = y) (q : Q y H) : Q x H := by rw [e]; exact q
/-! heaps -/
def hide (D : Addr) (H : Hp) : Hp := fun b => if b = D then none else H b
theorem hide_ne {D p : Addr} {H : Hp} (h : p ≠ D) : hide D H p = H p := if_neg h
theorem hide_some {D p : Addr} {H : Hp} {o : HO} (h : hide D H p = some o) : p ≠ D ∧ H p = some o := by
  unfold hide at h; split at h
  · cases h
  · exact ⟨by assumption, h⟩
theorem hide_sub {D : Addr} {H : Hp} : Same (hide D H) H := fun b o h => (hide_some h).2
theorem same_hide {D : Addr} {H H' : Hp} (s : Same H H') : Same (hide D H) (hide D H') := fun b o h => by
  obtain ⟨h1, h2⟩ := hide_some h
  rw [hide_ne h1]; exact s _ _ h2
theorem same_new {H : Hp} {p : Addr} {o : HO} (h : H p = none) : Same H (upd H p o) := fun b x e => by
  rw [upd_ne (ne_of_none e h)]
  exact e
theorem same_hide_upd {D : Addr} {H : Hp} {o : HO} : Same (hide D H) (upd H D o) := fun b x e => by
  obtain ⟨h1, h2⟩ := hide_some e
  rw [upd_ne h1]; exact h2
theorem same_hide_upd2 {D : Addr} {H : Hp} {o : HO} : Same (hide D H) (hide D (upd H D o)) := fun b x e => by
  obtain ⟨h1, h2⟩ := hide_some e
  rw [hide_ne h1, upd_ne h1]; exact h2
theorem same_to_hide {D : Addr} {H H' : Hp} (s : Same H H') (n : H D = none) : Same H (hide D H') := fun b x e => by
  rw [hide_ne (ne_of_none e n)]
  exact s _ _ e
theorem same_seqT {K : PySem.W.Frag} {H H' : Hp} {a : Addr} {xs : List V} (e : Same H H') (h : SqT K H a xs) : SqT K H' a xs := by
  rcases h with (h | ⟨o, h⟩) | h
  · exact .inl (.inl (e _ _ h))
  · exact .inl (.inr ⟨o, e _ _ h⟩)
  · exact .inr h
/-! a comprehension over what is given; zs: the items as they are meant -/
theorem lc_flt {J : It} {G : Hp → Prop} {Y : Nat → Hp → V → Hp → Prop} {α : Type} {zs : List α} (w : Walk J zs.length G Y) {g : TG} {tt : TT} {te : TE} {vs : List Nat} {σ : L2.St} {H1 : Hp} {D : Addr} {Qd : Hp → Prop}
    (keep : α → Bool) (P : α → V → Hp → Prop) (mono : ∀ z y H H', P z y H → Same H H' → P z y H') (nD : H1 D = none) (hn : zs.length ≤ 1000) (hG : ∀ H, Same H1 H → G H)
    (hs : ∀ (i : Nat) (z : α) (x : V) (H H' : Hp) (Qb : V → Hp → Prop) (Qn : Hp → Prop), zs[i]? = some z → Same H1 H → (∃ acc, H D = some (.lst acc)) → Y i H x H' → (∀ y H4, keep z = true → Same H H4 → P z y (hide D H4) → Qb y H4) → (∀ H4, keep z = false → Same H H4 → Qn H4) →
      g x (wipe σ vs) H' fun σ2 H2 => wipe σ2 vs = wipe σ vs ∧ tt σ2 H2 fun b H3 => if b = true then te σ2 H3 Qb else Qn H3)
    (hd : ∀ H ys, Same H1 H → H D = some (.lst ys) → Rel2 (fun z y => P z y (hide D H)) (zs.filter keep) ys → Qd H) :
    ∃ W : Nat → Nat → Hp → Prop, (∃ m, W 0 m (upd H1 D (.lst []))) ∧ ∀ i m H, W i m H →
      (J.stop i H ∧ Qd H) ∨ (J.go i H ∧ ∃ Nx : Hp → Prop, (∀ H', Nx H' → ∃ m', m' < m ∧ W (i + 1) m' H') ∧ ∀ x H', J.yld i H x H' → g x (wipe σ vs) H' fun σ2 H2 => wipe σ2 vs = wipe σ vs ∧ tt σ2 H2 fun b H3 =>
        if b = true then te σ2 H3 fun y H4 => ∃ acc, H4 D = some (.lst acc) ∧ acc.length < sizeLine ∧ Nx (upd H4 D (.lst (acc ++ [y]))) else Nx H3) := by
  refine lc_it w (fun i H => Same H1 H ∧ ∃ ys, H D = some (.lst ys) ∧ ys.length ≤ i ∧ Rel2 (fun z y => P z y (hide D H)) ((zs.take i).filter keep) ys) ?_ (fun i H _ p => hG H p.1) (fun i x H H' hi p y => ?_) (fun H p => ?_)
  · exact ⟨same_new nD, [], upd_same, Nat.le_refl _, .nil⟩
  · obtain ⟨s, ys, e, el, r⟩ := p
    obtain ⟨z, hz⟩ : ∃ z, zs[i]? = some z := ⟨_, List.getElem?_eq_getElem hi⟩
    have tk : zs.take (i + 1) = zs.take i ++ [z] := by rw [List.take_add_one, hz]; rfl
    refine hs i z x H H' _ _ hz s ⟨_, e⟩ y (fun v H4 k s4 pv => ?_) (fun H4 k s4 => ?_)
    · refine ⟨ys, s4 _ _ e, by have : (1000 : Nat) < sizeLine := by decide
                               omega, ?_, ys ++ [v], upd_same, by simp; omega, ?_⟩
      · intro b o h
        have hb : b ≠ D := ne_of_none h nD
        rw [upd_ne hb]; exact s4 _ _ (s _ _ h)
      · rw [tk, List.filter_append]
        refine Rel2.app (r.imp fun z y q => mono z y _ _ q ((same_hide s4).trans same_hide_upd2)) ?_
        rw [List.filter_cons, if_pos k]
        exact .one (mono _ _ _ _ pv same_hide_upd2)
    · refine ⟨s.trans s4, ys, s4 _ _ e, by omega, ?_⟩
      rw [tk, List.filter_append, List.filter_cons, if_neg (by rw [k]; decide)]
      simp only [List.filter_nil, List.append_nil]
      exact r.imp fun z y q => mono z y _ _ q (same_hide s4)
  · obtain ⟨s, ys, e, _, r⟩ := p
    rw [List.take_length] at r
    exact hd H ys s e r
theorem lc_map {J : It} {G : Hp → Prop} {Y : Nat → Hp → V → Hp → Prop} {α : Type} {zs : List α} (w : Walk J zs.length G Y) {g : TG} {te : TE} {vs : List Nat} {σ : L2.St} {H1 : Hp} {D : Addr} {Qd : Hp → Prop}
    (P : α → V → Hp → Prop) (mono : ∀ z y H H', P z y H → Same H H' → P z y H') (nD : H1 D = none) (hn : zs.length ≤ 1000) (hG : ∀ H, Same H1 H → G H)
    (hs : ∀ (i : Nat) (z : α) (x : V) (H H' : Hp) (Qb : V → Hp → Prop), zs[i]? = some z → Same H1 H → (∃ acc, H D = some (.lst acc)) → Y i H x H' → (∀ y H4, Same H H4 → P z y (hide D H4) → Qb y H4) →
      g x (wipe σ vs) H' fun σ2 H2 => wipe σ2 vs = wipe σ vs ∧ te σ2 H2 Qb)
    (hd : ∀ H ys, Same H1 H → H D = some (.lst ys) → Rel2 (fun z y => P z y (hide D H)) zs ys → Qd H) :
    ∃ W : Nat → Nat → Hp → Prop, (∃ m, W 0 m (upd H1 D (.lst []))) ∧ ∀ i m H, W i m H →
      (J.stop i H ∧ Qd H) ∨ (J.go i H ∧ ∃ Nx : Hp → Prop, (∀ H', Nx H' → ∃ m', m' < m ∧ W (i + 1) m' H') ∧ ∀ x H', J.yld i H x H' → g x (wipe σ vs) H' fun σ2 H2 => wipe σ2 vs = wipe σ vs ∧ tYes σ2 H2 fun b H3 =>
        if b = true then te σ2 H3 fun y H4 => ∃ acc, H4 D = some (.lst acc) ∧ acc.length < sizeLine ∧ Nx (upd H4 D (.lst (acc ++ [y]))) else Nx H3) :=
  lc_flt w (fun _ => true) P mono nD hn hG (fun i z x H H' Qb Qn hz s e y q _ => by
    have := hs i z x H H' Qb hz s e y (fun v H4 s4 p => q v H4 rfl s4 p)
    exact this) (fun H ys s e r => hd H ys s e (by rw [List.filter_eq_self.2 (by simp)] at r; exact r))
/-- the made values are new objects, no two the same -/
theorem lc_new {J : It} {G : Hp → Prop} {Y : Nat → Hp → V → Hp → Prop} {α : Type} {zs : List α} (w : Walk J zs.length G Y) {g : TG} {te : TE} {vs : List Nat} {σ : L2.St} {H1 : Hp} {D : Addr} {Qd : Hp → Prop}
    (P : α → V → Hp → Prop) (mono : ∀ z y H H', P z y H → Same H H' → P z y H') (nD : H1 D = none) (hn : zs.length ≤ 1000) (hG : ∀ H, Same H1 H → G H)
    (hs : ∀ (i : Nat) (z : α) (x : V) (H H' : Hp) (Qb : V → Hp → Prop), zs[i]? = some z → Same H1 H → (∃ acc, H D = some (.lst acc)) → Y i H x H' → (∀ a o H4, H a = none → H4 a = some o → Same H H4 → P z (.ref a) (hide D H4) → Qb (.ref a) H4) →
      g x (wipe σ vs) H' fun σ2 H2 => wipe σ2 vs = wipe σ vs ∧ te σ2 H2 Qb)
    (hd : ∀ (H : Hp) (as : List Addr), Same H1 H → H D = some (.lst (as.map .ref)) → as.Nodup → (∀ a ∈ as, a ≠ D ∧ H1 a = none ∧ ∃ o, H a = some o) → Rel2 (fun z y => P z y (hide D H)) zs (as.map .ref) → Qd H) :
    ∃ W : Nat → Nat → Hp → Prop, (∃ m, W 0 m (upd H1 D (.lst []))) ∧ ∀ i m H, W i m H →
      (J.stop i H ∧ Qd H) ∨ (J.go i H ∧ ∃ Nx : Hp → Prop, (∀ H', Nx H' → ∃ m', m' < m ∧ W (i + 1) m' H') ∧ ∀ x H', J.yld i H x H' → g x (wipe σ vs) H' fun σ2 H2 => wipe σ2 vs = wipe σ vs ∧ tYes σ2 H2 fun b H3 =>
        if b = true then te σ2 H3 fun y H4 => ∃ acc, H4 D = some (.lst acc) ∧ acc.length < sizeLine ∧ Nx (upd H4 D (.lst (acc ++ [y]))) else Nx H3) := by
  refine lc_it w (fun i H => Same H1 H ∧ ∃ as : List Addr, H D = some (.lst (as.map .ref)) ∧ as.length ≤ i ∧ as.Nodup ∧ (∀ a ∈ as, a ≠ D ∧ H1 a = none ∧ ∃ o, H a = some o) ∧ Rel2 (fun z y => P z y (hide D H)) (zs.take i) (as.map .ref)) ?_ (fun i H _ p => hG H p.1) (fun i x H H' hi p y => ?_) (fun H p => ?_)
  · exact ⟨same_new nD, [], upd_same, Nat.le_refl _, List.nodup_nil, by simp, .nil⟩
  · obtain ⟨s, as, e, el, nd, hf, r⟩ := p
    obtain ⟨z, hz⟩ : ∃ z, zs[i]? = some z := ⟨_, List.getElem?_eq_getElem hi⟩
    have tk : zs.take (i + 1) = zs.take i ++ [z] := by rw [List.take_add_one, hz]; rfl
    refine hs i z x H H' _ hz s ⟨_, e⟩ y (fun a o H4 na ea s4 pv => ?_)
    have naD : a ≠ D := fun q => by rw [q, e] at na; cases na
    refine ⟨as.map .ref, s4 _ _ e, by have : (1000 : Nat) < sizeLine := by decide
                                      simp; omega, ?_, as ++ [a], by simp [upd_same], by simp; omega, ?_, ?_, ?_⟩
    · intro b o h
      have hb : b ≠ D := ne_of_none h nD
      rw [upd_ne hb]; exact s4 _ _ (s _ _ h)
    · rw [List.nodup_append]
      refine ⟨nd, by simp, fun x hx y hy => ?_⟩
      simp at hy; subst hy
      obtain ⟨_, _, o, q⟩ := hf x hx
      exact ne_of_none q na
    · intro x hx
      rw [List.mem_append] at hx
      rcases hx with hx | hx
      · obtain ⟨h1, h2, o, q⟩ := hf x hx
        exact ⟨h1, h2, o, by rw [upd_ne h1]; exact s4 _ _ q⟩
      · simp at hx; subst hx
        exact ⟨naD, s.free na, o, by rw [upd_ne naD]; exact ea⟩
    · rw [tk, List.map_append]
      exact Rel2.app (r.imp fun z y q => mono z y _ _ q ((same_hide s4).trans same_hide_upd2)) (.one (mono _ _ _ _ pv same_hide_upd2))
  · obtain ⟨s, as, e, _, nd, hf, r⟩ := p
    rw [List.take_length] at r
    exact hd H as s e nd hf r
/-! rules with the written part named -/
section
variable {X : Cx}
def rTupOf (K : PySem.W.Frag) : List V → Hp → VK → Prop := fun xs H Q => ∃ p ys, xs = [.ref p] ∧ ((SqL K H p ys ∧ ∀ l, H l = none → Q (.ref l) (upd H l (.tup ys))) ∨ (SqT K H p ys ∧ Q (.ref p) H))
def rLstOf (K : PySem.W.Frag) : List V → Hp → VK → Prop := fun xs H Q => ∃ p ys, xs = [.ref p] ∧ (SqL K H p ys ∨ SqT K H p ys) ∧ ∀ l, H l = none → Q (.ref l) (upd H l (.lst ys))
def rLenOf (K : PySem.W.Frag) : List V → Hp → VK → Prop := fun xs H Q => ∃ p ys, xs = [.ref p] ∧ (SqL K H p ys ∨ SqT K H p ys) ∧ Q (.int ys.length) H
theorem cTup (K : PySem.W.Frag) (h : X.K = K := by rfl) : CallR X (.type "tuple") (rTupOf K) := by subst h; exact call_tuple_of
theorem cLst (K : PySem.W.Frag) (h : X.K = K := by rfl) : CallR X (.type "list") (rLstOf K) := by subst h; exact call_list_of
theorem cLen (K : PySem.W.Frag) (h : X.K = K := by rfl) : CallR X (.builtin "len") (rLenOf K) := by subst h; exact call_len_seq
theorem iL (K : PySem.W.Frag) (h : X.K = K := by rfl) : IxR X (rIxL K) := by subst h; exact ix_list
theorem iT (K : PySem.W.Frag) (h : X.K = K := by rfl) : IxR X (rIxT K) := by subst h; exact ix_tup
end
/-! rows -/
def vI (w : Nat) (v : Nat → Int) : List V := (List.range w).map fun i => .int (v i)
theorem vI_len {w : Nat} {v : Nat → Int} : (vI w v).length = w := by simp [vI]
theorem vI_get {w i : Nat} {v : Nat → Int} (h : i < w) : (vI w v)[i]? = some (.int (v i)) := by simp [vI, h]
theorem vI_at {w i : Nat} {v : Nat → Int} (h : i < w) : atI (vI w v) (i : Int) = some (.int (v i)) := atI_nat (vI_get h)
theorem vI_congr {w : Nat} {u v : Nat → Int} (h : ∀ i, i < w → u i = v i) : vI w u = vI w v := by
  unfold vI
  exact List.map_congr_left fun i hi => by rw [h i (by simpa using hi)]
/-- y is a new kind of row: a list -/
def IsRow (w : Nat) (H : Hp) (v : Nat → Int) (y : V) : Prop := ∃ a, y = .ref a ∧ H a = some (.lst (vI w v))
/-- a list or a tuple -/
def IsRowE (K : PySem.W.Frag) (w : Nat) (H : Hp) (v : Nat → Int) (y : V) : Prop := ∃ a, y = .ref a ∧ (SqL K H a (vI w v) ∨ SqT K H a (vI w v))
theorem IsRow.same {w : Nat} {H H' : Hp} {v : Nat → Int} {y : V} (h : IsRow w H v y) (s : Same H H') : IsRow w H' v y := by
  obtain ⟨a, e, q⟩ := h; exact ⟨a, e, s _ _ q⟩
theorem IsRowE.same {K : PySem.W.Frag} {w : Nat} {H H' : Hp} {v : Nat → Int} {y : V} (h : IsRowE K w H v y) (s : Same H H') : IsRowE K w H' v y := by
  obtain ⟨a, e, q⟩ := h; exact ⟨a, e, q.imp (fun q => s.seq q) (fun q => same_seqT s q)⟩
theorem IsRow.toE {K : PySem.W.Frag} {w : Nat} {H : Hp} {v : Nat → Int} {y : V} (h : IsRow w H v y) : IsRowE K w H v y := by
  obtain ⟨a, e, q⟩ := h; exact ⟨a, e, .inl (.inl (.inl q))⟩
abbrev Rows (w : Nat) (H : Hp) (vs : List (Nat → Int)) (ys : List V) : Prop := Rel2 (IsRow w H) vs ys
abbrev RowsE (K : PySem.W.Frag) (w : Nat) (H : Hp) (vs : List (Nat → Int)) (ys : List V) : Prop := Rel2 (IsRowE K w H) vs ys
theorem rows_same {w : Nat} {H H' : Hp} {vs : List (Nat → Int)} {ys : List V} (h : Rel2 (IsRow w H) vs ys) (s : Same H H') : Rel2 (IsRow w H') vs ys := h.imp fun _ _ q => q.same s
theorem rowsE_same {K : PySem.W.Frag} {w : Nat} {H H' : Hp} {vs : List (Nat → Int)} {ys : List V} (h : Rel2 (IsRowE K w H) vs ys) (s : Same H H') : Rel2 (IsRowE K w H') vs ys := h.imp fun _ _ q => q.same s
end K17
end
section
set_option Elab.async false
set_option linter.all false
set_option maxRecDepth 100000
namespace K17
open PySem PySem.Spec PyProof.Rows L2
section
variable {P : Program} {w : World} {K : PySem.W.Frag} {mg : Str → Option Value} {base : Heap}
theorem vI_of {w : Nat} {v : Nat → Int} {ys : List V} (h : Rel2 (fun i y => y = V.int (v i)) (List.range w) ys) : ys = vI w v := Rel2.eq_map h
/-! less -/
theorem scLess : FnScope ["row", "other", "factor", "left", "right"] ["row", "other", "factor"] (defScope (topS 15)) := ⟨rfl, rfl, rfl, by decide +kernel, rfl, by decide +kernel, by decide +kernel⟩
def spLess (K : PySem.W.Frag) : L2.Sp := fun vs H Q _ => ∃ (w : Nat) (a b : Addr) (u v : Nat → Int) (f : Int), vs = [.ref a, .ref b, .int f] ∧ SqL K H a (vI w u) ∧ SqL K H b (vI w v) ∧ w ≤ 8 ∧ (∀ i, i < w → MulFit f (v i)) ∧
  ∀ H' p, Same H H' → H p = none → H' p = some (.lst (vI w (lessV u v f))) → Q (.ref p) H'
theorem ok_less {f : Addr} {fd : FuncData} {k : Nat} (F : Fun K "less" "less" (topS 15) f fd) (mz : mg "zip" = none) : FnOk P w K mg base CX0 (k + 1) f fd ["row", "other", "factor"] (spLess K) := by
  refine F.ok scLess (fun vs H Q E h => ?_) (fun cdv A outer s H vs Q E hr h => ?_)
  · obtain ⟨w, a, b, u, v, f, rfl, _⟩ := h
    rfl
  · obtain ⟨n, a, b, u, v, f, rfl, hA, hB, hn, hm, q⟩ := h
    refine ⟨_, pss_one (ps_ret (pe_lc (own := [("left", 3), ("right", 4)]) (g := gTup K 2 (gCons (gName 3) (gCons (gName 4) gNil))) (tt := tYes) rfl scLess.nd
      (pi_zip (by rfl) mz (pa_cons (pv 0) (pa_cons (pv 1) pa_nil))) (blkOk_by (N := ["row", "other", "factor", "left", "right"]) (sc := defScope (topS 15)) (by decide +kernel))
      (fun _ _ _ _ _ => pg_tup rfl (pgs_cons (pg_name (i := 3) scLess.nd rfl (Or.inl rfl)) (pgs_cons (pg_name (i := 4) scLess.nd rfl (Or.inl rfl)) pgs_nil)))
      (fun _ _ _ _ _ => pts_nil) (fun _ _ _ _ _ => pe_op op_sub (pv 3) (pe_op op_mulX (pv 2) (pv 4))))), ?_⟩
    refine ⟨.ref a, rfl, .ref b, rfl, a, b, _, _, rfl, hA, hB, fun D hD => ?_⟩
    refine lc_map (zs := List.range n) ((walk_zip (n := (List.range n).length) (by simp [vI_len]))) (fun i y _ => y = V.int (lessV u v f i)) (fun _ _ _ _ q _ => q) hD (by simp; omega) (fun H' s => ⟨s.seq hA, s.seq hB⟩) (fun i z x H1 H2 Qb hz s hD y qb => ?_) (fun H' ys s e r => q H' D s hD ?_)
    · obtain ⟨T, x1, x2, rfl, nT, rfl, e1, e2⟩ := y
      have hi : z = i ∧ i < n := by
        have := List.getElem?_eq_some_iff.1 hz
        obtain ⟨h1, h2⟩ := this
        simp at h1 h2; omega
      obtain ⟨rfl, hi⟩ := hi
      have e1 := Option.some.inj (e1.symm.trans (vI_get hi))
      have e2 := Option.some.inj (e2.symm.trans (vI_get hi))
      subst e1 e2
      exact ⟨T, _, rfl, .inl (.inl upd_same), rfl, _, _, rfl, _, _, rfl, rfl, rfl, _, rfl, _, rfl, _, rfl, _, _, rfl, rfl, hm z hi, _, _, rfl, rfl, qb _ _ (same_new nT) rfl⟩
    · rw [e, vI_of r]
end
end K17
end
section
set_option Elab.async false
set_option linter.all false
set_option maxRecDepth 100000
namespace K17
open PySem PySem.Spec PyProof.Rows L2
section
variable {P : Program} {w : World} {K : PySem.W.Frag} {mg : Str → Option Value} {base : Heap}
theorem range_at {n i z : Nat} (h : (List.range n)[i]? = some z) : z = i ∧ i < n := by
  obtain ⟨h1, h2⟩ := List.getElem?_eq_some_iff.1 h
  simp at h1 h2; omega
theorem walk_rng {n : Nat} : Walk (Itr 0 ((n : Int)).toNat) (List.range n).length (fun _ => True) (YFn fun i => V.int (i : Nat)) := by
  have := (walk_range (lo := 0) (n := ((n : Int)).toNat))
  rw [show (List.range n).length = ((n : Int)).toNat by simp]
  exact this.mono (fun _ h => h) (fun i H x H' _ _ y => by obtain ⟨e1, e2⟩ := y; refine ⟨e1, ?_⟩; rw [e2]; simp)
/-! unit -/
theorem scUnit : FnScope ["size", "row", "at"] ["size"] (defScope (topS 18)) := ⟨rfl, rfl, rfl, by decide +kernel, rfl, by decide +kernel, by decide +kernel⟩
def spUnit : L2.Sp := fun vs H Q _ => ∃ n : Nat, vs = [.int (n : Int)] ∧ n ≤ 8 ∧
  ∀ H' p (as : List Addr), Same H H' → H p = none → H' p = some (.lst (as.map .ref)) → as.Nodup → (∀ a ∈ as, a ≠ p ∧ H a = none ∧ ∃ o, H' a = some o) → Rows n H' ((List.range n).map unitV) (as.map .ref) → Q (.ref p) H'
theorem ok_unit {f : Addr} {fd : FuncData} {k : Nat} (F : Fun K "unit" "unit" (topS 18) f fd) (mr : mg "range" = none) : FnOk P w K mg base CX0 (k + 1) f fd ["size"] spUnit := by
  refine F.ok scUnit (fun vs H Q E h => ?_) (fun cdv A outer s H vs Q E hr h => ?_)
  · obtain ⟨n, rfl, _⟩ := h
    rfl
  · obtain ⟨n, rfl, hn, q⟩ := h
    refine ⟨_, pss_one (ps_ret (pe_lc (own := [("row", 1)]) (g := gName 1) (tt := tYes) rfl scUnit.nd
      (pi_range1 (by rfl) mr (pa_cons (pv 0) pa_nil)) (blkOk_by (N := ["size", "row", "at"]) (sc := defScope (topS 18)) (by decide +kernel))
      (fun _ _ _ _ _ => pg_name (i := 1) scUnit.nd rfl (Or.inr rfl))
      (fun _ _ _ _ _ => pts_nil) (fun _ _ _ _ _ => pe_lc (own := [("at", 2)]) (g := gName 2) (tt := tYes) rfl scUnit.nd
        (pi_range1 (by rfl) mr (pa_cons (pv 0) pa_nil)) (blkOk_by (by rfl))
        (fun _ _ _ _ _ => pg_name (i := 2) scUnit.nd rfl (Or.inl rfl))
        (fun _ _ _ _ _ => pts_nil) (fun _ _ _ _ _ => pe_ifExp (pt_cmpR op_eq (pv 2) (pv 1) (nomark _)) pe_int pe_int)))), ?_⟩
    refine ⟨_, rfl, n, rfl, by omega, by omega, fun D hD => ?_⟩
    refine lc_new (zs := List.range n) walk_rng (fun r y H => IsRow n H (unitV r) y) (fun _ _ _ _ q s => q.same s) hD (by simp; omega) (fun _ _ => trivial) (fun i z x H1 H2 Qb hz s1 hacc y qb => ?_) (fun H' as s e nd hf r => q H' D as s hD e nd (fun a ha => hf a ha) (Rel2.mapL.2 (r.imp fun _ _ q => q.same hide_sub)))
    obtain ⟨rfl, rfl⟩ := y
    obtain ⟨rfl, hi⟩ := range_at hz
    refine ⟨rfl, _, rfl, n, rfl, by omega, by omega, fun D2 hD2 => ?_⟩
    refine lc_map (zs := List.range n) walk_rng (fun j y _ => y = V.int (unitV z j)) (fun _ _ _ _ q _ => q) hD2 (by simp; omega) (fun _ _ => trivial) (fun j z2 x H3 H4 Qb2 hz2 s3 _ y2 qb2 => ?_) (fun H' ys s e r => ?_)
    · obtain ⟨rfl, rfl⟩ := y2
      obtain ⟨rfl, hj⟩ := range_at hz2
      refine ⟨rfl, _, rfl, _, rfl, rfl, _, rfl, ite2 (fun e => ?_) (fun e => ?_)⟩
      · have e := V.int.inj (of_decide_eq_true e)
        refine qb2 _ _ (Same.refl _) ?_
        unfold unitV; rw [if_pos (by omega)]
      · have e : ¬ _ := fun z => e (decide_eq_true (congrArg V.int z))
        refine qb2 _ _ (Same.refl _) ?_
        unfold unitV; rw [if_neg (by omega)]
    · obtain ⟨acc, hacc⟩ := hacc
      have nD : D2 ≠ D := fun e => by rw [e, hacc] at hD2; cases hD2
      refine qb D2 _ _ hD2 e s ⟨D2, rfl, ?_⟩
      rw [hide_ne nD, e, vI_of r]
end
end K17
end
section
set_option Elab.async false
set_option linter.all false
set_option maxRecDepth 100000
namespace K17
open PySem PySem.Spec PyProof.Rows L2
section
variable {P : Program} {w : World} {K : PySem.W.Frag} {mg : Str → Option Value} {base : Heap}
/-! told_rows -/
theorem scTold : FnScope ["rows", "row"] ["rows"] (defScope (topS 17)) := ⟨rfl, rfl, rfl, by decide +kernel, rfl, by decide +kernel, by decide +kernel⟩
def IsRowT (w : Nat) (H : Hp) (v : Nat → Int) (y : V) : Prop := ∃ a, y = .ref a ∧ H a = some (.tup (vI w v))
theorem IsRowT.same {w : Nat} {H H' : Hp} {v : Nat → Int} {y : V} (h : IsRowT w H v y) (s : Same H H') : IsRowT w H' v y := by
  obtain ⟨a, e, q⟩ := h; exact ⟨a, e, s _ _ q⟩
theorem IsRowT.toE {K : PySem.W.Frag} {w : Nat} {H : Hp} {v : Nat → Int} {y : V} (h : IsRowT w H v y) : IsRowE K w H v y := by
  obtain ⟨a, e, q⟩ := h; exact ⟨a, e, .inr (.inl (.inl q))⟩
def spTold (K : PySem.W.Frag) : L2.Sp := fun vs H Q _ => ∃ (w : Nat) (a : Addr) (rows : List (Nat → Int)) (ys : List V), vs = [.ref a] ∧ SqL K H a ys ∧ Rows w H rows ys ∧ rows.length ≤ 8 ∧
  ∀ H' p ts, Same H H' → H p = none → H' p = some (.tup ts) → Rel2 (IsRowT w H') rows ts → Q (.ref p) H'
theorem ok_told {f : Addr} {fd : FuncData} {k : Nat} (F : Fun K "told_rows" "told_rows" (topS 17) f fd) (mt : mg "tuple" = none) : FnOk P w K mg base CX0 (k + 1) f fd ["rows"] (spTold K) := by
  refine F.ok scTold (fun vs H Q E h => ?_) (fun cdv A outer s H vs Q E hr h => ?_)
  · obtain ⟨n, a, rows, ys, rfl, _⟩ := h
    rfl
  · obtain ⟨n, a, rows, ys, rfl, hA, hR, hn, q⟩ := h
    refine ⟨_, pss_one (ps_ret (pe_callTy (cTup K) (by rfl) mt boot_tuple (pa_cons (pe_lc (own := [("row", 1)]) (g := gName 1) (tt := tYes) rfl scTold.nd
      (pi_list (pv 0)) (blkOk_by (N := ["rows", "row"]) (sc := defScope (topS 17)) (by decide +kernel))
      (fun _ _ _ _ _ => pg_name (i := 1) scTold.nd rfl (Or.inl rfl))
      (fun _ _ _ _ _ => pts_nil) (fun _ _ _ _ _ => pe_callTy (cTup K) (by rfl) mt boot_tuple (pa_cons (pv 1) pa_nil))) pa_nil))), ?_⟩
    refine ⟨_, rfl, a, rfl, ⟨_, hA⟩, fun D hD => ?_⟩
    refine lc_map (zs := rows) (by rw [hR.len]; exact walk_list (xs := ys)) (fun r y H => IsRowT n H r y) (fun _ _ _ _ q s => q.same s) hD (by omega) (fun _ s => s.seq hA) (fun i z x H1 H2 Qb hz s1 hacc y qb => ?_) (fun H' as s e r => ?_)
    · obtain ⟨rfl, hy⟩ := y
      obtain ⟨b, hb, c, rfl, hc⟩ := hR.get hz
      cases Option.some.inj (hy.symm.trans hb)
      obtain ⟨acc, hacc⟩ := hacc
      refine ⟨rfl, _, rfl, c, _, rfl, .inl ⟨.inl (.inl (s1 _ _ hc)), fun l hl => ?_⟩⟩
      have nD : l ≠ D := fun e => by rw [e, hacc] at hl; cases hl
      refine qb _ _ (same_new hl) ⟨l, rfl, ?_⟩
      rw [hide_ne nD, upd_same]
    · refine ⟨D, as, rfl, .inl ⟨.inl (.inl e), fun l hl => ?_⟩⟩
      exact q _ l as (s.trans (same_new hl)) (s.free hl) upd_same (r.imp fun _ _ q => (q.same hide_sub).same (same_new hl))
/-! head_of, head_place -/
theorem scHead : FnScope ["row", "entry"] ["row"] (defScope (topS 30)) := ⟨rfl, rfl, rfl, by decide +kernel, rfl, by decide +kernel, by decide +kernel⟩
def nzL (w : Nat) (v : Nat → Int) : List Nat := (List.range w).filter fun j => v j ≠ 0
theorem headP_find {w : Nat} {v : Nat → Int} (h : ∃ j, j < w ∧ v j ≠ 0) : (nzL w v)[0]? = some (headP w v) := by
  unfold headP nzL
  rw [← List.head?_eq_getElem?, List.head?_filter]
  obtain ⟨j, h1, h2⟩ := h
  cases e : (List.range w).find? fun j => v j ≠ 0 with
  | none => 
    have := List.find?_eq_none.1 e j (by simpa using h1)
    simp [h2] at this
  | some x => rfl
def spHead (K : PySem.W.Frag) : L2.Sp := fun vs H Q _ => ∃ (w : Nat) (a : Addr) (v : Nat → Int), vs = [.ref a] ∧ SqL K H a (vI w v) ∧ w ≤ 8 ∧ (∃ j, j < w ∧ v j ≠ 0) ∧
  ∀ H', Same H H' → Q (.int (hdV w v)) H'
theorem ok_head {f : Addr} {fd : FuncData} {k : Nat} (F : Fun K "head_of" "head_of" (topS 30) f fd) : FnOk P w K mg base CX0 (k + 1) f fd ["row"] (spHead K) := by
  refine F.ok scHead (fun vs H Q E h => ?_) (fun cdv A outer s H vs Q E hr h => ?_)
  · obtain ⟨n, a, v, rfl, _⟩ := h
    rfl
  · obtain ⟨n, a, v, rfl, hA, hn, hz, q⟩ := h
    refine ⟨_, pss_one (ps_ret (pe_ix (iL K) (pe_lc (own := [("entry", 1)]) (g := gName 1) rfl scHead.nd
      (pi_list (pv 0)) (blkOk_by (N := ["row", "entry"]) (sc := defScope (topS 30)) (by decide +kernel))
      (fun _ _ _ _ _ => pg_name (i := 1) scHead.nd rfl (Or.inl rfl))
      (fun _ _ _ _ _ => pts_one (pt_cmpR op_ne (pv 1) pe_int (nomark _))) (fun _ _ _ _ _ => pv 1)) pe_int (fun _ _ => rfl))), ?_⟩
    refine ⟨_, rfl, a, rfl, ⟨_, hA⟩, fun D hD => ?_⟩
    refine lc_flt (zs := List.range n) (Y := YAt (vI n v)) (by have := walk_list (K := K) (a := a) (xs := vI n v); rw [vI_len] at this; rw [List.length_range]; exact this) (fun j => decide (v j ≠ 0)) (fun j y _ => y = V.int (v j)) (fun _ _ _ _ q s => q) hD (by simp; omega) (fun _ s => s.seq hA) (fun i z x H1 H2 Qb Qn hz s1 hacc y qb qn => ?_) (fun H' as s e r => ?_)
    · obtain ⟨rfl, hy⟩ := y
      obtain ⟨rfl, hi⟩ := range_at hz
      cases Option.some.inj (hy.symm.trans (vI_get hi))
      refine ⟨rfl, _, rfl, rfl, _, rfl, ?_⟩
      by_cases e : v z = 0
      · refine itF (by simp [e]) ?_
        exact qn _ (by simp [e]) (Same.refl _)
      · refine itT (by simp [e]) ?_
        exact ⟨_, rfl, qb _ _ (by simp [e]) (Same.refl _) rfl⟩
    · obtain ⟨y, hy, e2⟩ := Rel2.get r (headP_find hz)
      subst e2
      exact ⟨D, as, 0, _, rfl, rfl, .inl (.inl e), atI_nat (j := 0) hy, q _ s⟩
theorem scHeadP : FnScope ["row", "at", "entry"] ["row"] (defScope (topS 32)) := ⟨rfl, rfl, rfl, by decide +kernel, rfl, by decide +kernel, by decide +kernel⟩
def spHeadP (K : PySem.W.Frag) : L2.Sp := fun vs H Q _ => ∃ (w : Nat) (a : Addr) (v : Nat → Int), vs = [.ref a] ∧ SqL K H a (vI w v) ∧ w ≤ 8 ∧ (∃ j, j < w ∧ v j ≠ 0) ∧
  ∀ H', Same H H' → Q (.int (headP w v : Nat)) H'
theorem ok_headP {f : Addr} {fd : FuncData} {k : Nat} (F : Fun K "head_place" "head_place" (topS 32) f fd) (me : mg "enumerate" = none) : FnOk P w K mg base CX0 (k + 1) f fd ["row"] (spHeadP K) := by
  refine F.ok scHeadP (fun vs H Q E h => ?_) (fun cdv A outer s H vs Q E hr h => ?_)
  · obtain ⟨n, a, v, rfl, _⟩ := h
    rfl
  · obtain ⟨n, a, v, rfl, hA, hn, hz, q⟩ := h
    refine ⟨_, pss_one (ps_ret (pe_ix (iL K) (pe_lc (own := [("at", 1), ("entry", 2)]) (g := gTup K 2 (gCons (gName 1) (gCons (gName 2) gNil))) rfl scHeadP.nd
      (pi_enum (by rfl) me (pa_cons (pv 0) pa_nil)) (blkOk_by (N := ["row", "at", "entry"]) (sc := defScope (topS 32)) (by decide +kernel))
      (fun _ _ _ _ _ => pg_tup rfl (pgs_cons (pg_name (i := 1) scHeadP.nd rfl (Or.inl rfl)) (pgs_cons (pg_name (i := 2) scHeadP.nd rfl (Or.inl rfl)) pgs_nil)))
      (fun _ _ _ _ _ => pts_one (pt_cmpR op_ne (pv 2) pe_int (nomark _))) (fun _ _ _ _ _ => pv 1)) pe_int (fun _ _ => rfl))), ?_⟩
    refine ⟨_, rfl, a, _, rfl, hA, fun D hD => ?_⟩
    refine lc_flt (zs := List.range n) (Y := YPair (fun i => some (.int (i : Nat))) (fun i => (vI n v)[i]?)) (by have := walk_enum (K := K) (a := a) (xs := vI n v); rw [vI_len] at this; rw [List.length_range]; exact this) (fun j => decide (v j ≠ 0)) (fun j y _ => y = V.int (j : Nat)) (fun _ _ _ _ q s => q) hD (by simp; omega) (fun _ s => s.seq hA) (fun i z x H1 H2 Qb Qn hz s1 hacc y qb qn => ?_) (fun H' as s e r => ?_)
    · obtain ⟨T, x1, x2, rfl, nT, rfl, e1, e2⟩ := y
      obtain ⟨rfl, hi⟩ := range_at hz
      cases Option.some.inj e1
      cases Option.some.inj (e2.symm.trans (vI_get hi))
      refine ⟨T, _, rfl, .inl (.inl upd_same), rfl, _, _, rfl, _, _, rfl, rfl, rfl, _, rfl, rfl, _, rfl, ?_⟩
      by_cases e : v z = 0
      · refine itF (by simp [e]) ?_
        exact qn _ (by simp [e]) (same_new nT)
      · refine itT (by simp [e]) ?_
        exact ⟨_, rfl, qb _ _ (by simp [e]) (same_new nT) rfl⟩
    · obtain ⟨y, hy, e2⟩ := Rel2.get r (headP_find hz)
      subst e2
      exact ⟨D, as, 0, _, rfl, rfl, .inl (.inl e), atI_nat (j := 0) hy, q _ s⟩
/-! _law_less -/
theorem scLawLess : FnScope ["_law_line", "_law_other", "_law_factor", "_law_at"] ["_law_line", "_law_other", "_law_factor"] (defScope (topS 43)) := ⟨rfl, rfl, rfl, by decide +kernel, rfl, by decide +kernel, by decide +kernel⟩
theorem ok_lawLess {f : Addr} {fd : FuncData} {k : Nat} (F : Fun K "_law_less" "_law_less" (topS 43) f fd) (mr : mg "range" = none) (ml : mg "len" = none) : FnOk P w K mg base CX0 (k + 1) f fd ["_law_line", "_law_other", "_law_factor"] (spLess K) := by
  refine F.ok scLawLess (fun vs H Q E h => ?_) (fun cdv A outer s H vs Q E hr h => ?_)
  · obtain ⟨w, a, b, u, v, f, rfl, _⟩ := h
    rfl
  · obtain ⟨n, a, b, u, v, f, rfl, hA, hB, hn, hm, q⟩ := h
    refine ⟨_, pss_one (ps_ret (pe_lc (own := [("_law_at", 3)]) (g := gName 3) (tt := tYes) rfl scLawLess.nd
      (pi_range1 (by rfl) mr (pa_cons (pe_callB (cLen K) (by rfl) ml PySem.boot_len (pa_cons (pv 0) pa_nil)) pa_nil)) (blkOk_by (N := ["_law_line", "_law_other", "_law_factor", "_law_at"]) (sc := defScope (topS 43)) (by decide +kernel))
      (fun _ _ _ _ _ => pg_name (i := 3) scLawLess.nd rfl (Or.inl rfl))
      (fun _ _ _ _ _ => pts_nil) (fun _ _ _ _ _ => pe_op op_sub (pe_ix (iL K) (pv 0) (pv 3) (fun _ _ => rfl)) (pe_op op_mulX (pv 2) (pe_ix (iL K) (pv 1) (pv 3) (fun _ _ => rfl)))))), ?_⟩
    refine ⟨_, rfl, a, _, rfl, .inl hA, _, rfl, by rw [vI_len]; omega, by rw [vI_len]; omega, fun D hD => ?_⟩
    refine lc_map (zs := List.range n) (Y := YFn fun i => V.int (i : Nat)) (by have := walk_rng (n := n); rw [vI_len]; exact this) (fun i y _ => y = V.int (lessV u v f i)) (fun _ _ _ _ q _ => q) hD (by simp; omega) (fun _ _ => trivial) (fun i z x H1 H2 Qb hz s hD y qb => ?_) (fun H' ys s e r => q H' D s hD ?_)
    · obtain ⟨rfl, rfl⟩ := y
      obtain ⟨rfl, hi⟩ := range_at hz
      exact ⟨rfl, _, rfl, _, rfl, a, _, _, _, rfl, rfl, s.seq hA, vI_at hi, _, rfl, _, rfl, _, rfl, b, _, _, _, rfl, rfl, s.seq hB, vI_at hi, _, _, rfl, rfl, hm z hi, _, _, rfl, rfl, qb _ _ (Same.refl _) rfl⟩
    · rw [e, vI_of r]
end
end K17
end
section
set_option Elab.async false
set_option linter.all false
set_option maxRecDepth 100000
namespace K17
open PySem PySem.Spec PyProof.Rows L2
open Sem (wp)
open AutoSeq1 (wpAny_loadPart')
/-! enumerate over a tuple -/
section
variable {prog : Program} {w : World} {A : Around} {E : Value → Shared → Prop} {s : Shared}
theorem meets_enumB1 {v : Value} {o : Obj} {H : Heap → Prop} (B : Begins v o H) :
    Meets (Builtin.«enumerate.__new__» ⟨[.type "enumerate", v], []⟩) (fun _ R s => H s.heap ∧
      R (.ok (.ret (.ref (s.heap.push o).objs.size))) { s with heap := (s.heap.push o).push { cls := .type "enumerate", data := .fields #[.none, .bool false, .ref s.heap.objs.size, rawInt 0, .none, .none] } }) :=
  .of_wp fun prog w A R s h => by
    obtain ⟨hp, g, d, tk, os⟩ := s; obtain ⟨hl, h⟩ := h
    have hsub := sub_enumerate
    have hit : ∀ {A' : Around} {E : Value → Shared → Prop} {Q : Value → Shared → Prop}, Q (.ref hp.objs.size) ⟨hp.push o, g, d, tk, os⟩ → wpAny (model prog w) A' (pyIter v) Q E ⟨hp, g, d, tk, os⟩ :=
      fun q => B.iter prog w _ _ ⟨hp, g, d, tk, os⟩ _ hl q
    wp_walk using hit
    refine wpAny_stack_any fun st => wpAny_pure ?_
    split
    · rename_i c _ _ _ _ _
      cases (c == Value.type "enumerate")
      · wp_walk using hit
        exact ⟨_, rfl, h⟩
      · wp_walk using hit
        exact ⟨_, rfl, h⟩
    · wp_walk using hit
      exact ⟨_, rfl, h⟩
theorem call_enumB1 {v : Value} {o : Obj} {H : Heap → Prop} {Q : Value → Shared → Prop} (B : Begins v o H) (h1 : H s.heap)
    (h : ∀ h', IsEnum h' (s.heap.objs.size + 1) s.heap.objs.size 0 .none → h'.get? s.heap.objs.size = some o → h'.objs.size = s.heap.objs.size + 2 →
      (∀ b o, s.heap.get? b = some o → h'.get? b = some o) → Q (.ref (s.heap.objs.size + 1)) { s with heap := h' }) :
    wpAny (model prog w) A (call (.type "enumerate") [v]) Q E s := by
  refine callType_new F.called_enumerate (by decide) (F.typeCall_enumerate_1 _) (F.newCall_enumerate_1 _) (fun obj => F.args_object_init_2 obj _) F.entry_enumerate_new
    (meets_enumB1 B) ⟨h1, ?_⟩
  have hz : (s.heap.push o).objs.size = s.heap.objs.size + 1 := Heap.size_push ..
  show _ ∧ _
  rw [hz]
  have he : IsEnum ((s.heap.push o).push { cls := .type "enumerate", data := .fields #[.none, .bool false, .ref s.heap.objs.size, rawInt 0, .none, .none] }) (s.heap.objs.size + 1) s.heap.objs.size 0 .none := by
    have := Heap.get?_push_size (s.heap.push o) (o := { cls := .type "enumerate", data := .fields #[.none, .bool false, .ref s.heap.objs.size, rawInt 0, .none, .none] }) rfl
    rw [hz] at this; exact this
  refine ⟨⟨_, he, rfl⟩, h _ he (Heap.get?_push_of_some _ (Heap.get?_push_size _ B.free)) (by rw [Heap.size_push, hz]) fun b o x => Heap.get?_push_of_some _ (Heap.get?_push_of_some _ x)⟩
end
def IteT (K : PySem.W.Frag) (a : Addr) : It :=
  ⟨fun i H => ∃ (xs : List V) (x : V), SqT K H a xs ∧ xs[i]? = some x, fun i H v H' => ∃ T x, v = .ref T ∧ H T = none ∧ H' = upd H T (.tup [.int (i : Nat), x]) ∧ ∀ xs, SqT K H a xs → xs[i]? = some x, fun i H => ∃ xs : List V, SqT K H a xs ∧ xs.length = i⟩
theorem turn_enumT {P : Program} {w : World} {K : PySem.W.Frag} {elts : List Expr} {kk : Nat} {tpos : Pos} (a e it : Addr) (hat : a ≠ it) (hae : a ≠ e) :
    Turn P w K (.Tuple elts kk tpos) (IteT K a) [e, it] e (fun i h => (∃ old, IsEnum h e it ((i : Nat) : Int) old) ∧ h.IsTupleIter it a i ∧ e ≠ it) where
  mem := by simp
  obj := fun i h st b hb => by
    obtain ⟨⟨old, he⟩, ⟨o, ho, hc, hd⟩, _⟩ := st
    have e' : b = e ∨ b = it := by simpa using hb
    rcases e' with z | z
    · rw [z]; exact ⟨_, he, fun v q => nomatch q⟩
    · rw [z]; exact ⟨o, ho, fun v q => by rw [hd] at q; cases q⟩
  keep := fun i h h' st k => let ⟨⟨old, he⟩, hi, hne⟩ := st; ⟨⟨old, k e (by simp) _ he⟩, hi.at fun o q => k it (by simp) o q, hne⟩
  item := by
    intro X hP hw hK hc i pins s σ H E I hf st hg
    subst hP hw hK
    obtain ⟨⟨old, he⟩, hit, hne⟩ := st
    obtain ⟨xs, x, hq, hx⟩ := hg
    obtain ⟨its, rv, p, hz⟩ := I.tuple hq
    obtain ⟨u, hu, ru⟩ := rv.get hx
    have hel : e < s.heap.objs.size := Heap.lt_size he
    have hil : it < s.heap.objs.size := by obtain ⟨_, q, _⟩ := hit; exact Heap.lt_size q
    have D := Draws.tuple (prog := X.prog) (w := X.w) (A := X.A.in1) (show X.A.in1.handled = none from I.ok.hd hc) it a hat its.toArray
    have hu' : its.toArray[i]? = some u := by simpa using hu
    refine wpAny_pyNext_enum_itemD D he ⟨hit, p⟩ (by obtain ⟨q, _⟩ := Array.getElem?_eq_some_iff.1 hu'; exact q) hne (by simp [hne, Ne.symm hae]) fun x' h' tk px ho hst hT hsz hk => ?_
    obtain ⟨hit', _⟩ := hst
    cases Option.some.inj (px.symm.trans hu')
    refine ⟨_, rfl, wpAny_letOwnedTupleGo_enum (s := { s with heap := h', toks := tk + 1 }) ho fun h'' he' sb => ?_⟩
    have hT2 : h''.get? s.heap.objs.size = some { cls := .type "tuple", data := .seq #[.int i tk, u] } := (sb.2 _ (Nat.ne_of_gt hel)).trans hT
    have new : ObjOk X.prog X.w (upd H s.heap.objs.size (.tup [.int (i : Nat), x])) h'' s.heap.objs.size (.tup [.int (i : Nat), x]) :=
      ⟨by show 2 ≤ sizeLine; decide, [.int i tk, u], .cons ⟨_, rfl⟩ (.cons ru .nil), ⟨_, hT2, rfl, _, rfl⟩⟩
    have I1 : Inv X pins σ (upd H s.heap.objs.size (.tup [.int (i : Nat), x])) { s with heap := h'', toks := tk + 1 } :=
      I.turnedNew (ch := [e, it]) (fun b ob hb q => (sb.2 b (fun z => hb (by simp [z]))).trans (hk b ob (fun z => hb (by simp [z])) (fun z => hb (by simp [z])) q)) hf (Nat.le_refl _) new
    refine ⟨.ref s.heap.objs.size, _, I1, rfl, ⟨_, x, rfl, I.hok.fresh (Nat.le_refl _), rfl, fun ys hy => by rw [I.tuple_inj hy hq]; exact hx⟩, ⟨⟨u, ?_⟩, hit'.at fun o q => (sb.2 it (Ne.symm hne)).trans q, hne⟩, fun b hb => ?_⟩
    · have e1 : ((i + 1 : Nat) : Int) = (i : Int) + 1 := by omega
      rw [e1]; exact he'
    · have hb' : b < s.heap.objs.size := by
        have e' : b = e ∨ b = it := by simpa using hb
        rcases e' with z | z
        · rw [z]; exact hel
        · rw [z]; exact hil
      rw [upd_ne (Nat.ne_of_lt hb')]
      exact (hf b hb).1
  done := by
    intro X hP hw hK hc i pins s σ H E I hf st hg
    subst hP hw hK
    obtain ⟨⟨old, he⟩, hit, hne⟩ := st
    obtain ⟨xs, hq, hx⟩ := hg
    obtain ⟨its, rv, p, hz⟩ := I.tuple hq
    obtain ⟨f0, f1, f2, f3, f4, f5⟩ := hf it (by simp)
    have hl := rv.length
    have D := Draws.tuple (prog := X.prog) (w := X.w) (A := X.A.in1) (show X.A.in1.handled = none from I.ok.hd hc) it a hat its.toArray
    have hi : i = its.toArray.size := by simp; omega
    refine wpAny_pyNext_enum_endD D he ⟨by rw [← hi]; exact hit, p⟩ fun h' eb => ⟨rfl, I.turned (t' := s.toks) (fun b o hb q => eb b o hb q) f0 f1 f3 f4 f5⟩
  self := fun A i s Q E st h => let ⟨⟨_, he⟩, _⟩ := st; wpAny_pyIter_enum he h
def iEnumT (K : PySem.W.Frag) (ta : TA) : TI := fun σ H R => ta σ H fun vs H1 => ∃ a xs, vs = [.ref a] ∧ SqT K H1 a xs ∧ R (IteT K a) H1
theorem pi_enumT {X : Cx} {e : Expr} {ta : TA} {p pos tpos : Pos} {elts : List Expr} {kk : Nat} (hg : Gl X "enumerate") (hm : X.mg "enumerate" = none) (ha : PA X [e] ta) (hs : starEach [e] X.env = [(false, eval e X.env)] := by rfl) :
    PI X (.Tuple elts kk tpos) (.Call (.Name "enumerate" p) [e] [] pos) (iEnumT X.K ta) := by
  refine ⟨fun pins s σ H R I h => ?_⟩
  refine Call_ (ld_blt I hg hm boot_enumerate (PyProof.Rows.callWith_type1 (thn (ha.run pos pins s σ H _ I h) fun us s1 ⟨vs, H1, I1, r1, q1⟩ => ?_) hs rfl))
  obtain ⟨a, xs, ex, hq, q⟩ := q1
  subst ex
  cases r1 with
  | cons r rr =>
    cases rr
    cases r
    obtain ⟨its, rv, p', hz⟩ := I1.tuple hq
    have hlt : a < s1.heap.objs.size := by obtain ⟨_, q, _⟩ := p'; exact Heap.lt_size q
    refine call_enumB1 (begins_tuple a its.toArray) p' fun h' he hit hsz hk => wpAny_pyIter_enum he ?_
    have I2 : Inv X pins σ H1 { s1 with heap := h' } := I1.kept (t' := s1.toks) hk
    refine ⟨s1.heap.objs.size + 1, [s1.heap.objs.size + 1, s1.heap.objs.size], _, _, H1, rfl, I2, turn_enumT a (s1.heap.objs.size + 1) s1.heap.objs.size (Nat.ne_of_lt hlt) (Nat.ne_of_lt (Nat.lt_succ_of_lt hlt)), ⟨⟨.none, he⟩, ⟨_, hit, rfl, rfl⟩, Nat.succ_ne_self _⟩, fun b hb => ?_, q⟩
    have e' : b = s1.heap.objs.size + 1 ∨ b = s1.heap.objs.size := by simpa using hb
    have hle : s1.heap.objs.size ≤ b := by
      rcases e' with z | z
      · rw [z]; exact Nat.le_add_right _ _
      · rw [z]; exact Nat.le_refl _
    exact I1.fpOk hle (I1.hok.fresh hle)
theorem walk_enumT {K : PySem.W.Frag} {a : Addr} {xs : List V} : Walk (IteT K a) xs.length (fun H => SqT K H a xs) (YPair (fun i => some (.int (i : Nat))) (fun i => xs[i]?)) := by
  refine ⟨fun i _ hi q => ⟨xs, xs[i], q, by simp [hi]⟩, fun _ q => ⟨xs, q, rfl⟩, fun i H v H' _ q y => ?_⟩
  obtain ⟨T, x, h1, h2, h3, h4⟩ := y
  exact ⟨T, .int (i : Nat), x, h1, h2, h3, rfl, h4 xs q⟩
end K17
end
section
set_option Elab.async false
set_option linter.all false
set_option maxRecDepth 100000
namespace K17
open PySem PySem.Spec PyProof.Rows L2
/-! what a caller of a def knows of it -/
def Cal (P : Program) (w : World) (K : PySem.W.Frag) (mg : Str → Option Value) (base : Heap) (k : Nat) (x : Str) (ps : List Str) (sp : L2.Sp) : Prop :=
  ∃ f fd, FnOk P w K mg base CX0 k f fd ps sp ∧ mg x = some (.ref f) ∧ PySem.W.keepIn K (.ref f) = true ∧ Binds K fd ps []
section
variable {X : Cx}
theorem ps_never {st : Stmt} : PS X st (fun _ _ _ => False) := ⟨fun _ _ _ _ _ _ h => h.elim⟩
theorem pe_never {e : Expr} : PE X e (fun _ _ _ => False) := ⟨fun _ _ _ _ _ _ h => h.elim⟩
theorem tyx_tup {K : PySem.W.Frag} {H : Hp} {a : Addr} {xs : List V} (h : SqT K H a xs) : TyX K H (.ref a) (.type "tuple") := by
  rcases h with (h | ⟨o, h⟩) | ⟨o, its, n, h, c, _⟩
  · exact .base (.tup h)
  · exact .fTuple h
  · exact .kTuple h c
theorem cIsi (K : PySem.W.Frag) (h : X.K = K := by rfl) : CallR X (.builtin "isinstance") (rIsi K) := by subst h; exact call_isi
theorem cAny (K : PySem.W.Frag) (hc : X.calm = true := by rfl) (h : X.K = K := by rfl) : CallR X (.builtin "any") (rAny K) := by subst h; exact cr_any hc
theorem cAll (K : PySem.W.Frag) (hc : X.calm = true := by rfl) (h : X.K = K := by rfl) : CallR X (.builtin "all") (rAll K) := by subst h; exact cr_all hc
end
theorem bl_of {α : Type} {zs : List α} {f : α → Bool} {ys : List V} (h : Rel2 (fun z y => y = V.bl (f z)) zs ys) : ys = (zs.map f).map V.bl := by
  rw [Rel2.eq_map h, List.map_map]; rfl
section
variable {P : Program} {w : World} {K : PySem.W.Frag} {mg : Str → Option Value} {base : Heap}
/-! is_int -/
theorem scIsInt : FnScope ["value"] ["value"] (defScope (topS 7)) := ⟨rfl, rfl, rfl, by decide +kernel, rfl, by decide +kernel, by decide +kernel⟩
def spIsInt : L2.Sp := fun vs H Q _ => ∃ n : Int, vs = [.int n] ∧ Q (.bl true) H
theorem ok_isInt {f : Addr} {fd : FuncData} {k : Nat} (F : Fun K "is_int" "is_int" (topS 7) f fd) (mi : mg "isinstance" = none) (mn : mg "int" = none) (mb : mg "bool" = none) : FnOk P w K mg base CX0 (k + 1) f fd ["value"] spIsInt := by
  refine F.ok scIsInt (fun vs H Q E h => ?_) (fun cdv A outer s H vs Q E hr h => ?_)
  · obtain ⟨n, rfl, _⟩ := h
    rfl
  · obtain ⟨n, rfl, q⟩ := h
    refine ⟨_, pss_one (ps_ret (pe_and (pe_callB (cIsi K) (by rfl) mi PyProof.Rows.boot_isinstance (pa_cons (pv 0) (pa_cons (pe_bltn (v := .ty "int") (by rfl) mn PyProof.Rows.boot_int rfl) pa_nil)))
      (pe_one (pe_not (pe_callB (cIsi K) (by rfl) mi PyProof.Rows.boot_isinstance (pa_cons (pv 0) (pa_cons (pe_bltn (v := .ty "bool") (by rfl) mb (by decide +kernel) rfl) pa_nil))))))), ?_⟩
    refine ⟨_, rfl, _, _, _, _, true, rfl, .ty _, .base (.int n), kit_ty (by decide +kernel), true, rfl, iteT ?_⟩
    exact ⟨_, rfl, _, _, _, _, false, rfl, .ty _, .base (.int n), kit_ty (by decide +kernel), false, rfl, q⟩
/-! is_in -/
theorem scIsIn : FnScope ["value", "least", "most"] ["value", "least", "most"] (defScope (topS 8)) := ⟨rfl, rfl, rfl, by decide +kernel, rfl, by decide +kernel, by decide +kernel⟩
def spIsIn : L2.Sp := fun vs H Q _ => ∃ n a b : Int, vs = [.int n, .int a, .int b] ∧ a ≤ n ∧ n ≤ b ∧ Q (.bl true) H
theorem ok_isIn {f : Addr} {fd : FuncData} {k : Nat} (F : Fun K "is_in" "is_in" (topS 8) f fd) (C : Cal P w K mg base k "is_int" ["value"] spIsInt) : FnOk P w K mg base CX0 (k + 1) f fd ["value", "least", "most"] spIsIn := by
  obtain ⟨f1, fd1, G1, g1, k1, b1⟩ := C
  refine F.ok scIsIn (fun vs H Q E h => ?_) (fun cdv A outer s H vs Q E hr h => ?_)
  · obtain ⟨n, a, b, rfl, _⟩ := h
    rfl
  · obtain ⟨n, a, b, rfl, ha, hb, q⟩ := h
    refine ⟨_, pss_one (ps_ret (pe_and (pe_call G1 hr (by rfl) g1 k1 b1 .nil pass0 (pa_cons (pv 0) pa_nil)) (pe_one (pe_chain op_le op_le (pv 1) (pv 0) (pv 2))))), ?_⟩
    refine ⟨_, rfl, n, rfl, true, rfl, iteT ?_⟩
    refine ⟨_, rfl, _, rfl, _, _, rfl, rfl, true, congrArg V.bl (decide_eq_true ha), iteT ?_⟩
    exact ⟨_, rfl, _, _, rfl, rfl, qeq (congrArg V.bl (decide_eq_true hb)) q⟩
/-! is_prime -/
theorem scPrime : FnScope ["number", "part"] ["number"] (defScope (topS 9)) := ⟨rfl, rfl, rfl, by decide +kernel, rfl, by decide +kernel, by decide +kernel⟩
def spPrime : L2.Sp := fun vs H Q _ => ∃ n : Int, vs = [.int n] ∧ (n = 2 ∨ n = 3 ∨ n = 5 ∨ n = 7) ∧ ∀ H', Same H H' → Q (.bl true) H'
theorem walk_rng2 {i j : Int} {n : Nat} (h : (j - i).toNat = n) : Walk (Itr i ((j - i)).toNat) (List.range n).length (fun _ => True) (YFn fun k => V.int (i + (k : Nat))) := by
  have := (walk_range (lo := i) (n := (j - i).toNat))
  rw [show (List.range n).length = (j - i).toNat by simp [h]]
  exact this
theorem ok_prime {f : Addr} {fd : FuncData} {k : Nat} (F : Fun K "is_prime" "is_prime" (topS 9) f fd) (ma : mg "any" = none) (mr : mg "range" = none) : FnOk P w K mg base CX0 (k + 1) f fd ["number"] spPrime := by
  refine F.ok scPrime (fun vs H Q E h => ?_) (fun cdv A outer s H vs Q E hr h => ?_)
  · obtain ⟨n, rfl, _⟩ := h
    rfl
  · obtain ⟨n, rfl, hn, q⟩ := h
    refine ⟨_, pss_one (ps_ret (pe_and (pe_cmpR op_gt (pv 0) pe_int (nomark _)) (pe_one (pe_not (pe_callB (cAny K) (by rfl) ma PyProof.Rows.boot_any (pa_cons (pe_lc (own := [("part", 1)]) (g := gName 1) rfl scPrime.nd
      (pi_range2 (by rfl) mr (pa_cons pe_int (pa_cons (pv 0) pa_nil))) (blkOk_by (N := ["number", "part"]) (sc := defScope (topS 9)) (by decide +kernel))
      (fun _ _ _ _ _ => pg_name (i := 1) scPrime.nd rfl (Or.inl rfl))
      (fun _ _ _ _ _ => pts_one (pt_cmpR op_le (pe_op op_mulX (pv 1) (pv 1)) (pv 0) (nomark _))) (fun _ _ _ _ _ => pe_cmpR op_eq (pe_op op_modX (pv 0) (pv 1)) pe_int (nomark _))) pa_nil)))))), ?_⟩
    refine ⟨_, rfl, _, _, rfl, rfl, true, congrArg V.bl (decide_eq_true (by omega)), iteT ?_⟩
    refine ⟨_, rfl, 2, n, rfl, by omega, fun D hD => ?_⟩
    refine lc_flt (zs := List.range (n - 2).toNat) (walk_rng2 rfl) (fun z => decide ((2 + (z : Int)) * (2 + z) ≤ n)) (fun z y _ => y = V.bl false) (fun _ _ _ _ q _ => q) hD (by simp; omega) (fun _ _ => trivial) (fun i z x H1 H2 Qb Qn hz s1 hacc y qb qn => ?_) (fun H' as s e r => ?_)
    · obtain ⟨rfl, rfl⟩ := y
      obtain ⟨rfl, hi⟩ := range_at hz
      refine ⟨rfl, _, rfl, _, rfl, _, _, rfl, rfl, ⟨64, 64, by omega, by omega, by decide⟩, _, rfl, _, _, rfl, rfl, _, rfl, ?_⟩
      by_cases e : (2 + (z : Int)) * (2 + z) ≤ n
      · refine itT (decide_eq_true e) ?_
        have hz0 : z = 0 := by
          rcases Nat.eq_zero_or_pos z with h | h
          · exact h
          · have := Int.mul_le_mul (show (3 : Int) ≤ 2 + z by omega) (show (3 : Int) ≤ 2 + z by omega) (by decide) (by omega)
            omega
        subst hz0
        refine ⟨_, rfl, _, rfl, _, _, rfl, rfl, by omega, rfl, ?_⟩
        refine qb _ _ (decide_eq_true e) (Same.refl _) ?_
        rcases hn with rfl | rfl | rfl | rfl
        · exact absurd hi (by decide)
        · exact absurd e (by decide)
        · rfl
        · rfl
      · exact itF (decide_eq_false e) (qn _ (decide_eq_false e) (Same.refl _))
    · have r := bl_of (f := fun _ => false) r
      refine ⟨D, _, rfl, .inl (.inl (by rw [e, r])), false, ?_, q _ s⟩
      rw [List.any_map]
      have : ∀ l : List Nat, l.any (id ∘ fun _ => false) = false := fun l => by simp
      rw [this]
end
end K17
end
section
set_option Elab.async false
set_option linter.all false
set_option maxRecDepth 100000
namespace K17
open PySem PySem.Spec PyProof.Rows L2
section
variable {P : Program} {w : World} {K : PySem.W.Frag} {mg : Str → Option Value} {base : Heap}
theorem all_true {α : Type} {zs : List α} {D : Addr} {H : Hp} {ys : List V} (e : H D = some (.lst ys)) (r : Rel2 (fun z y => y = V.bl true) zs ys) : SqL K H D ((zs.map fun _ => true).map V.bl) ∧ ((zs.map fun _ => true).all id) = true := by
  have r := bl_of (f := fun _ => true) r
  refine ⟨.inl (.inl (by rw [e, r])), ?_⟩
  rw [List.all_map]; simp
def Lims (ls : List Int) : Prop := ls = [2, 3] ∨ ls = [2, 3, 5] ∨ ls = [2, 3, 5, 7]
theorem Lims.prime {ls : List Int} (h : Lims ls) {i : Nat} {z : Int} (e : ls[i]? = some z) : z = 2 ∨ z = 3 ∨ z = 5 ∨ z = 7 := by
  have hm := List.mem_of_getElem? e
  rcases h with rfl | rfl | rfl <;> simp at hm <;> omega
theorem Lims.len {ls : List Int} (h : Lims ls) : 2 ≤ ls.length ∧ ls.length ≤ 4 := by
  rcases h with rfl | rfl | rfl <;> decide
theorem Lims.asc {ls : List Int} (h : Lims ls) {i : Nat} (hi : i + 1 < ls.length) : ∃ x y, ls[i]? = some x ∧ ls[i + 1]? = some y ∧ x < y := by
  rcases h with rfl | rfl | rfl
  · have : i = 0 := by simp at hi; omega
    subst this; exact ⟨2, 3, rfl, rfl, by decide⟩
  · have : i = 0 ∨ i = 1 := by simp at hi; omega
    rcases this with rfl | rfl
    · exact ⟨2, 3, rfl, rfl, by decide⟩
    · exact ⟨3, 5, rfl, rfl, by decide⟩
  · have : i = 0 ∨ i = 1 ∨ i = 2 := by simp at hi; omega
    rcases this with rfl | rfl | rfl
    · exact ⟨2, 3, rfl, rfl, by decide⟩
    · exact ⟨3, 5, rfl, rfl, by decide⟩
    · exact ⟨5, 7, rfl, rfl, by decide⟩
/-! need_limit -/
theorem scLimit : FnScope ["value", "prime", "at"] ["value"] (defScope (topS 10)) := ⟨rfl, rfl, rfl, by decide +kernel, rfl, by decide +kernel, by decide +kernel⟩
def spLimit (K : PySem.W.Frag) : L2.Sp := fun vs H Q _ => ∃ (a : Addr) (ls : List Int), vs = [.ref a] ∧ SqT K H a (ls.map V.int) ∧ Lims ls ∧ ∀ H', Same H H' → Q .non H'
theorem ok_limit {f : Addr} {fd : FuncData} {k : Nat} (F : Fun K "need_limit" "need_limit" (topS 10) f fd) (C1 : Cal P w K mg base k "is_in" ["value", "least", "most"] spIsIn) (C2 : Cal P w K mg base k "is_prime" ["number"] spPrime)
    {t1 t2 : Tok} (m1 : mg "MOST_PRIME" = some (.int 43 t1)) (m2 : mg "MOST_PRIMES" = some (.int 6 t2)) (ma : mg "all" = none) (mr : mg "range" = none) (mi : mg "isinstance" = none) (mt : mg "tuple" = none) (ml : mg "len" = none) :
    FnOk P w K mg base CX0 (k + 1) f fd ["value"] (spLimit K) := by
  obtain ⟨f1, fd1, G1, g1, k1, b1⟩ := C1
  obtain ⟨f2, fd2, G2, g2, k2, b2⟩ := C2
  refine F.ok scLimit (fun vs H Q E h => ?_) (fun cdv A outer s H vs Q E hr h => ?_)
  · obtain ⟨a, ls, rfl, _⟩ := h
    rfl
  · obtain ⟨a, ls, rfl, hA, hl, q⟩ := h
    refine ⟨_, pss_cons (ps_if (PW.pt (pw_or (pt_not (pt_val (pe_callB (cIsi K) (by rfl) mi PyProof.Rows.boot_isinstance (pa_cons (pv 0) (pa_cons (pe_bltn (v := .ty "tuple") (by rfl) mt PyProof.Rows.boot_tuple rfl) pa_nil)))))
        (pw_or1 (pt_not (pt_chain op_le op_le pe_int (pe_callB (cLen K) (by rfl) ml PySem.boot_len (pa_cons (pv 0) pa_nil)) (pe_glob (by rfl) m2 (v := .int 6) ⟨_, rfl⟩)))))) (pss_one ps_never) pss_nil)
      (pss_cons (ps_if (pt_not (pt_val (pe_callB (cAll K) (by rfl) ma PyProof.Rows.boot_all (pa_cons (pe_lc (own := [("prime", 1)]) (g := gName 1) (tt := tYes) rfl scLimit.nd
        (pi_tup (pv 0)) (blkOk_by (N := ["value", "prime", "at"]) (sc := defScope (topS 10)) (by decide +kernel)) (fun _ _ _ _ _ => pg_name (i := 1) scLimit.nd rfl (Or.inl rfl)) (fun _ _ _ _ _ => pts_nil)
        (fun _ _ _ _ _ => pe_and (pe_call G1 hr (by rfl) g1 k1 b1 .nil pass0 (pa_cons (pv 1) (pa_cons pe_int (pa_cons (pe_glob (by rfl) m1 (v := .int 43) ⟨_, rfl⟩) pa_nil)))) (pe_one (pe_call G2 hr (by rfl) g2 k2 b2 .nil pass0 (pa_cons (pv 1) pa_nil))))) pa_nil)))) (pss_one ps_never) pss_nil)
      (pss_one (ps_if (pt_not (pt_val (pe_callB (cAll K) (by rfl) ma PyProof.Rows.boot_all (pa_cons (pe_lc (own := [("at", 2)]) (g := gName 2) (tt := tYes) rfl scLimit.nd
        (pi_range2 (by rfl) mr (pa_cons pe_int (pa_cons (pe_callB (cLen K) (by rfl) ml PySem.boot_len (pa_cons (pv 0) pa_nil)) pa_nil))) (blkOk_by (N := ["value", "prime", "at"]) (sc := defScope (topS 10)) (by decide +kernel)) (fun _ _ _ _ _ => pg_name (i := 2) scLimit.nd rfl (Or.inl rfl)) (fun _ _ _ _ _ => pts_nil)
        (fun _ _ _ _ _ => pe_cmpR op_lt (pe_ix (iT K) (pv 0) (pe_op op_sub (pv 2) pe_int) (fun _ _ => rfl)) (pe_ix (iT K) (pv 0) (pv 2) (fun _ _ => rfl)) (nomark _))) pa_nil)))) (pss_one ps_never) pss_nil))), ?_⟩
    have hlen := hl.len
    refine ⟨_, rfl, _, _, _, _, true, rfl, .ty _, tyx_tup hA, kit_ty (by decide +kernel), true, rfl, iteF ?_⟩
    refine ⟨_, rfl, a, _, rfl, .inr hA, _, _, rfl, rfl, true, congrArg V.bl (decide_eq_true (by rw [List.length_map]; omega)), iteT ?_⟩
    refine ⟨_, _, rfl, rfl, true, congrArg V.bl (decide_eq_true (by rw [List.length_map]; omega)), iteF ?_⟩
    refine ⟨_, rfl, a, rfl, ⟨_, hA⟩, fun D hD => ?_⟩
    refine lc_map (zs := ls) (by have := walk_tup (K := K) (a := a) (xs := ls.map V.int); rw [List.length_map] at this; exact this) (fun z y _ => y = V.bl true) (fun _ _ _ _ q _ => q) hD (by omega) (fun _ s => same_seqT s hA) (fun i z x H1 H2 Qb hz s1 hacc y qb => ?_) (fun H1 as s1 e r => ?_)
    · obtain ⟨rfl, hy⟩ := y
      rw [List.getElem?_map, hz] at hy
      cases Option.some.inj hy
      have hp := hl.prime hz
      refine ⟨rfl, _, rfl, z, 2, 43, rfl, by omega, by omega, true, rfl, iteT ?_⟩
      exact ⟨_, rfl, z, rfl, hp, fun H' s' => qb _ _ s' rfl⟩
    · obtain ⟨h1, h2⟩ := all_true (K := K) e r
      refine ⟨D, _, rfl, h1, _, rfl, ?_⟩
      rw [h2]
      refine iteF ?_
      refine ⟨_, rfl, a, _, rfl, .inr (same_seqT s1 hA), 1, _, rfl, by rw [List.length_map]; omega, fun D2 hD2 => ?_⟩
      refine lc_map (zs := List.range (ls.length - 1)) (Y := YFn fun k => V.int (1 + (k : Nat))) (by refine walk_rng2 ?_; rw [List.length_map]; omega) (fun z y _ => y = V.bl true) (fun _ _ _ _ q _ => q) hD2 (by simp; omega) (fun _ s => trivial) (fun i z x H3 H4 Qb hz s3 hacc y qb => ?_) (fun H3 as2 s3 e2 r2 => ?_)
      · obtain ⟨rfl, rfl⟩ := y
        obtain ⟨rfl, hi⟩ := range_at hz
        obtain ⟨x, y, e1, e2, lt⟩ := hl.asc (show z + 1 < ls.length by omega)
        have hA4 := same_seqT s3 (same_seqT s1 hA)
        refine ⟨rfl, _, rfl, _, rfl, _, _, rfl, rfl, a, _, _, .int x, rfl, rfl, hA4, ?_, _, rfl, _, rfl, a, _, _, .int y, rfl, rfl, hA4, ?_, _, _, rfl, rfl, qb _ _ (Same.refl _) (congrArg V.bl (decide_eq_true lt))⟩
        · rw [show (1 + (z : Int)) - 1 = ((z : Nat) : Int) by omega]
          exact atI_nat (by rw [List.getElem?_map, e1]; rfl)
        · rw [show (1 + (z : Int)) = ((z + 1 : Nat) : Int) by omega]
          exact atI_nat (by rw [List.getElem?_map, e2]; rfl)
      · obtain ⟨h3, h4⟩ := all_true (K := K) e2 r2
        refine ⟨D2, _, rfl, h3, _, rfl, ?_⟩
        rw [h4]
        exact iteF (q _ (s1.trans s3))
end
end K17
end
section
set_option Elab.async false
set_option linter.all false
set_option maxRecDepth 100000
namespace K17
open PySem PySem.Spec PyProof.Rows L2
section
variable {P : Program} {w : World} {K : PySem.W.Frag} {mg : Str → Option Value} {base : Heap}
/-- a tuple, tracked, locked or written -/
def IsTupE (K : PySem.W.Frag) (w : Nat) (H : Hp) (v : Nat → Int) (y : V) : Prop := ∃ a, y = .ref a ∧ SqT K H a (vI w v)
theorem IsTupE.same {w : Nat} {H H' : Hp} {v : Nat → Int} {y : V} (h : IsTupE K w H v y) (s : Same H H') : IsTupE K w H' v y := by
  obtain ⟨a, e, q⟩ := h; exact ⟨a, e, same_seqT s q⟩
theorem IsTupE.toE {w : Nat} {H : Hp} {v : Nat → Int} {y : V} (h : IsTupE K w H v y) : IsRowE K w H v y := by
  obtain ⟨a, e, q⟩ := h; exact ⟨a, e, .inr q⟩
theorem IsRowT.toT {w : Nat} {H : Hp} {v : Nat → Int} {y : V} (h : IsRowT w H v y) : IsTupE K w H v y := by
  obtain ⟨a, e, q⟩ := h; exact ⟨a, e, .inl (.inl q)⟩
/-- a tuple of such at a -/
structure TMat (K : PySem.W.Frag) (w : Nat) (H : Hp) (a : Addr) (rows : List (Nat → Int)) : Prop where
  ex : ∃ ys, SqT K H a ys ∧ Rel2 (IsTupE K w H) rows ys
  r1 : 1 ≤ rows.length
  r8 : rows.length ≤ 8
  w1 : 1 ≤ w
  w8 : w ≤ 8
  en : ∀ v ∈ rows, ∀ j, j < w → (v j).natAbs ≤ 9999
theorem TMat.same {w : Nat} {H H' : Hp} {a : Addr} {rows : List (Nat → Int)} (h : TMat K w H a rows) (s : Same H H') : TMat K w H' a rows := by
  obtain ⟨ys, h1, h2⟩ := h.ex
  exact ⟨⟨ys, same_seqT s h1, h2.imp fun _ _ q => q.same s⟩, h.r1, h.r8, h.w1, h.w8, h.en⟩
/-! need_rows -/
theorem scRows : FnScope ["value", "index", "row", "entry"] ["value"] (defScope (topS 14)) := ⟨rfl, rfl, rfl, by decide +kernel, rfl, by decide +kernel, by decide +kernel⟩
def spRows (K : PySem.W.Frag) : L2.Sp := fun vs H Q _ => ∃ (w : Nat) (a : Addr) (rows : List (Nat → Int)), vs = [.ref a] ∧ TMat K w H a rows ∧ ∀ H', Same H H' → Q .non H'
theorem ok_rows {f : Addr} {fd : FuncData} {k : Nat} (F : Fun K "need_rows" "need_rows" (topS 14) f fd) (C1 : Cal P w K mg base k "is_in" ["value", "least", "most"] spIsIn)
    {t1 t2 : Tok} (m1 : mg "MOST_ROWS" = some (.int 8 t1)) (m2 : mg "MOST_ENTRY" = some (.int 9999 t2)) (ma : mg "all" = none) (me : mg "enumerate" = none) (mi : mg "isinstance" = none) (mt : mg "tuple" = none) (ml : mg "len" = none) :
    FnOk P w K mg base CX0 (k + 1) f fd ["value"] (spRows K) := by
  obtain ⟨f1, fd1, G1, g1, k1, b1⟩ := C1
  refine F.ok scRows (fun vs H Q E h => ?_) (fun cdv A outer s H vs Q E hr h => ?_)
  · obtain ⟨n, a, rows, rfl, _⟩ := h
    rfl
  · obtain ⟨n, a, rows, rfl, hM, q⟩ := h
    refine ⟨_, pss_cons (ps_if (PW.pt (pw_or (pt_not (pt_val (pe_callB (cIsi K) (by rfl) mi PyProof.Rows.boot_isinstance (pa_cons (pv 0) (pa_cons (pe_bltn (v := .ty "tuple") (by rfl) mt PyProof.Rows.boot_tuple rfl) pa_nil)))))
        (pw_or1 (pt_not (pt_chain op_le op_le pe_int (pe_callB (cLen K) (by rfl) ml PySem.boot_len (pa_cons (pv 0) pa_nil)) (pe_glob (by rfl) m1 (v := .int 8) ⟨_, rfl⟩)))))) (pss_one ps_never) pss_nil)
      (pss_one (ps_for PassesOwn.never rfl (pi_enumT (by rfl) me (pa_cons (pv 0) pa_nil)) (pg_tup rfl (pgs_cons (pg_name (i := 1) scRows.nd rfl (.inl rfl)) (pgs_cons (pg_name (i := 2) scRows.nd rfl (.inl rfl)) pgs_nil)))
        (pss_cons (ps_if (PW.pt (pw_or (pt_not (pt_val (pe_callB (cIsi K) (by rfl) mi PyProof.Rows.boot_isinstance (pa_cons (pv 2) (pa_cons (pe_bltn (v := .ty "tuple") (by rfl) mt PyProof.Rows.boot_tuple rfl) pa_nil)))))
          (pw_or (pt_not (pt_chain op_le op_le pe_int (pe_callB (cLen K) (by rfl) ml PySem.boot_len (pa_cons (pv 2) pa_nil)) (pe_glob (by rfl) m1 (v := .int 8) ⟨_, rfl⟩)))
          (pw_or1 (pt_cmpR op_ne (pe_callB (cLen K) (by rfl) ml PySem.boot_len (pa_cons (pv 2) pa_nil)) (pe_callB (cLen K) (by rfl) ml PySem.boot_len (pa_cons (pe_ix (iT K) (pv 0) pe_int (fun _ _ => rfl)) pa_nil)) (nomark _)))))) (pss_one ps_never) pss_nil)
        (pss_one (ps_if (pt_not (pt_val (pe_callB (cAll K) (by rfl) ma PyProof.Rows.boot_all (pa_cons (pe_lc (own := [("entry", 3)]) (g := gName 3) (tt := tYes) rfl scRows.nd
          (pi_tup (pv 2)) (blkOk_by (N := ["value", "index", "row", "entry"]) (sc := defScope (topS 14)) (by decide +kernel)) (fun _ _ _ _ _ => pg_name (i := 3) scRows.nd rfl (Or.inl rfl)) (fun _ _ _ _ _ => pts_nil)
          (fun _ _ _ _ _ => pe_call G1 hr (by rfl) g1 k1 b1 .nil pass0 (pa_cons (pv 3) (pa_cons (pe_un un_neg (pe_glob (by rfl) m2 (v := .int 9999) ⟨_, rfl⟩)) (pa_cons (pe_glob (by rfl) m2 (v := .int 9999) ⟨_, rfl⟩) pa_nil))))) pa_nil)))) (pss_one ps_never) pss_nil))))), ?_⟩
    obtain ⟨⟨ys, hA, hR⟩, r1, r8, w1, w8, en⟩ := hM
    have hlen := hR.len
    obtain ⟨y0, hy0, a0, rfl, hA0⟩ : ∃ y0, ys[0]? = some y0 ∧ ∃ a0, y0 = .ref a0 ∧ SqT K H a0 (vI n (rows[0]'(by omega))) := by
      obtain ⟨b, hb, hq⟩ := hR.get (i := 0) (List.getElem?_eq_getElem (by omega))
      exact ⟨b, hb, hq⟩
    refine ⟨_, rfl, _, _, _, _, true, rfl, .ty _, tyx_tup hA, kit_ty (by decide +kernel), true, rfl, iteF ?_⟩
    refine ⟨_, rfl, a, _, rfl, .inr hA, _, _, rfl, rfl, true, congrArg V.bl (decide_eq_true (by omega)), iteT ?_⟩
    refine ⟨_, _, rfl, rfl, true, congrArg V.bl (decide_eq_true (by omega)), iteF ?_⟩
    refine ⟨_, rfl, a, _, rfl, hA, ?_⟩
    refine for_it (walk_enumT (xs := ys)) (fun i σ H' => Same H H' ∧ ∃ y1 y2, σ = [some (.ref a), y1, y2, none]) ⟨.refl _, _, _, rfl⟩ (fun i σ H' _ p => same_seqT p.1 hA) (fun i x σ H1 H2 hi p y => ?_) (fun σ H' p => q _ p.1)
    obtain ⟨s1, y1, y2, rfl⟩ := p
    obtain ⟨T, x1, x2, rfl, nT, rfl, e1, e2⟩ := y
    cases Option.some.inj e1
    obtain ⟨v, hv, c, rfl, hc⟩ := hR.get' e2
    have s2 : Same H (upd H1 T (.tup [V.int (i : Nat), .ref c])) := s1.trans (same_new nT)
    have hc2 := same_seqT s2 hc
    refine ⟨T, _, rfl, .inl (.inl upd_same), rfl, _, _, rfl, _, _, rfl, rfl, ?_⟩
    refine ⟨_, rfl, _, _, _, _, true, rfl, .ty _, tyx_tup hc2, kit_ty (by decide +kernel), true, rfl, iteF ?_⟩
    refine ⟨_, rfl, c, _, rfl, .inr hc2, _, _, rfl, rfl, true, congrArg V.bl (decide_eq_true (by rw [vI_len]; omega)), iteT ?_⟩
    refine ⟨_, _, rfl, rfl, true, congrArg V.bl (decide_eq_true (by rw [vI_len]; omega)), iteF ?_⟩
    refine ⟨_, rfl, c, _, rfl, .inr hc2, _, rfl, a, _, 0, _, rfl, rfl, same_seqT s2 hA, atI_nat (j := 0) hy0, a0, _, rfl, .inr (same_seqT s2 hA0), rfl, false, ?_, iteF ?_⟩
    · rw [vI_len, vI_len]; simp
    refine ⟨_, rfl, c, rfl, ⟨_, hc2⟩, fun D hD => ?_⟩
    refine lc_map (zs := List.range n) (Y := YAt (vI n v)) (by have := walk_tup (K := K) (a := c) (xs := vI n v); rw [vI_len] at this; rw [List.length_range]; exact this) (fun z y _ => y = V.bl true) (fun _ _ _ _ q _ => q) hD (by simp; omega) (fun _ s => same_seqT s hc2) (fun i z x H1 H2 Qb hz s1 hacc y qb => ?_) (fun H1 as s3 e r => ?_)
    · obtain ⟨rfl, hy⟩ := y
      obtain ⟨rfl, hi⟩ := range_at hz
      cases Option.some.inj (hy.symm.trans (vI_get hi))
      have := en v (List.mem_of_getElem? hv) z hi
      exact ⟨rfl, _, rfl, _, rfl, _, _, _, rfl, by omega, by omega, qb _ _ (Same.refl _) rfl⟩
    · obtain ⟨h1, h2⟩ := all_true (K := K) e r
      refine ⟨D, _, rfl, h1, _, rfl, ?_⟩
      rw [h2]
      exact iteF ⟨s2.trans s3, _, _, rfl⟩
end
end K17
end
section
set_option Elab.async false
set_option linter.all false
set_option maxRecDepth 100000
namespace K17
open PySem PySem.Spec PyProof.Rows L2
section
variable {P : Program} {w : World} {K : PySem.W.Frag} {mg : Str → Option Value} {base : Heap}
/-! need_tempering -/
theorem TMat.head {n : Nat} {H : Hp} {a : Addr} {rows : List (Nat → Int)} (h : TMat K n H a rows) : ∃ ys y0 a0, SqT K H a ys ∧ atI ys 0 = some y0 ∧ y0 = .ref a0 ∧ SqT K H a0 (vI n (row rows 0)) := by
  obtain ⟨ys, h1, h2⟩ := h.ex
  have r1 := h.r1
  obtain ⟨b, hb, a0, e, hq⟩ := h2.get (i := 0) (List.getElem?_eq_getElem (by omega))
  refine ⟨ys, b, a0, h1, atI_nat (j := 0) hb, e, ?_⟩
  have : row rows 0 = rows[0]'(by omega) := by unfold row; rw [List.getD_eq_getElem?_getD, List.getElem?_eq_getElem (by omega)]; rfl
  rw [this]; exact hq
theorem scTemper : FnScope ["limit", "rows"] ["limit", "rows"] (defScope (topS 25)) := ⟨rfl, rfl, rfl, by decide +kernel, rfl, by decide +kernel, by decide +kernel⟩
def spTemper (K : PySem.W.Frag) : L2.Sp := fun vs H Q _ => ∃ (a b : Addr) (ls : List Int) (rows : List (Nat → Int)), vs = [.ref a, .ref b] ∧ SqT K H a (ls.map V.int) ∧ Lims ls ∧ TMat K ls.length H b rows ∧ ∀ H', Same H H' → Q .non H'
theorem ok_temper {f : Addr} {fd : FuncData} {k : Nat} (F : Fun K "need_tempering" "need_tempering" (topS 25) f fd) (C1 : Cal P w K mg base k "need_limit" ["value"] (spLimit K)) (C2 : Cal P w K mg base k "need_rows" ["value"] (spRows K)) (ml : mg "len" = none) :
    FnOk P w K mg base CX0 (k + 1) f fd ["limit", "rows"] (spTemper K) := by
  obtain ⟨f1, fd1, G1, g1, k1, b1⟩ := C1
  obtain ⟨f2, fd2, G2, g2, k2, b2⟩ := C2
  refine F.ok scTemper (fun vs H Q E h => ?_) (fun cdv A outer s H vs Q E hr h => ?_)
  · obtain ⟨a, b, ls, rows, rfl, _⟩ := h
    rfl
  · obtain ⟨a, b, ls, rows, rfl, hA, hl, hM, q⟩ := h
    refine ⟨_, pss_cons (ps_expr (pe_call G1 hr (by rfl) g1 k1 b1 .nil pass0 (pa_cons (pv 0) pa_nil)))
      (pss_cons (ps_expr (pe_call G2 hr (by rfl) g2 k2 b2 .nil pass0 (pa_cons (pv 1) pa_nil)))
      (pss_one (ps_if (pt_cmpR op_ne (pe_callB (cLen K) (by rfl) ml PySem.boot_len (pa_cons (pe_ix (iT K) (pv 1) pe_int (fun _ _ => rfl)) pa_nil)) (pe_callB (cLen K) (by rfl) ml PySem.boot_len (pa_cons (pv 0) pa_nil)) (nomark _)) (pss_one ps_never) pss_nil))), ?_⟩
    refine ⟨_, rfl, a, ls, rfl, hA, hl, fun H1 s1 => ?_⟩
    refine ⟨_, rfl, _, b, rows, rfl, hM.same s1, fun H2 s2 => ?_⟩
    obtain ⟨ys, y0, a0, h1, h2, rfl, h3⟩ := (hM.same (s1.trans s2)).head
    refine ⟨_, rfl, b, _, 0, _, rfl, rfl, h1, h2, a0, _, rfl, .inr h3, _, rfl, a, _, rfl, .inr (same_seqT (s1.trans s2) hA), rfl, false, ?_, iteF (q _ (s1.trans s2))⟩
    rw [vI_len, List.length_map]; simp
theorem scTempers : FnScope ["limit", "one", "other"] ["limit", "one", "other"] (defScope (topS 26)) := ⟨rfl, rfl, rfl, by decide +kernel, rfl, by decide +kernel, by decide +kernel⟩
def spTempers (K : PySem.W.Frag) : L2.Sp := fun vs H Q _ => ∃ (a b c : Addr) (ls : List Int) (rows rows2 : List (Nat → Int)), vs = [.ref a, .ref b, .ref c] ∧ SqT K H a (ls.map V.int) ∧ Lims ls ∧ TMat K ls.length H b rows ∧ TMat K ls.length H c rows2 ∧ ∀ H', Same H H' → Q .non H'
theorem ok_tempers {f : Addr} {fd : FuncData} {k : Nat} (F : Fun K "need_temperings" "need_temperings" (topS 26) f fd) (C1 : Cal P w K mg base k "need_tempering" ["limit", "rows"] (spTemper K)) (C2 : Cal P w K mg base k "need_rows" ["value"] (spRows K)) (ml : mg "len" = none) :
    FnOk P w K mg base CX0 (k + 1) f fd ["limit", "one", "other"] (spTempers K) := by
  obtain ⟨f1, fd1, G1, g1, k1, b1⟩ := C1
  obtain ⟨f2, fd2, G2, g2, k2, b2⟩ := C2
  refine F.ok scTempers (fun vs H Q E h => ?_) (fun cdv A outer s H vs Q E hr h => ?_)
  · obtain ⟨a, b, c, ls, rows, rows2, rfl, _⟩ := h
    rfl
  · obtain ⟨a, b, c, ls, rows, rows2, rfl, hA, hl, hM, hM2, q⟩ := h
    refine ⟨_, pss_cons (ps_expr (pe_call G1 hr (by rfl) g1 k1 b1 .nil pass0 (pa_cons (pv 0) (pa_cons (pv 1) pa_nil))))
      (pss_cons (ps_expr (pe_call G2 hr (by rfl) g2 k2 b2 .nil pass0 (pa_cons (pv 2) pa_nil)))
      (pss_one (ps_if (pt_cmpR op_ne (pe_callB (cLen K) (by rfl) ml PySem.boot_len (pa_cons (pe_ix (iT K) (pv 2) pe_int (fun _ _ => rfl)) pa_nil)) (pe_callB (cLen K) (by rfl) ml PySem.boot_len (pa_cons (pv 0) pa_nil)) (nomark _)) (pss_one ps_never) pss_nil))), ?_⟩
    refine ⟨_, rfl, _, rfl, a, b, ls, rows, rfl, hA, hl, hM, fun H1 s1 => ?_⟩
    refine ⟨_, rfl, _, c, rows2, rfl, hM2.same s1, fun H2 s2 => ?_⟩
    obtain ⟨ys, y0, a0, h1, h2, rfl, h3⟩ := (hM2.same (s1.trans s2)).head
    refine ⟨_, rfl, c, _, 0, _, rfl, rfl, h1, h2, a0, _, rfl, .inr h3, _, rfl, a, _, rfl, .inr (same_seqT (s1.trans s2) hA), rfl, false, ?_, iteF (q _ (s1.trans s2))⟩
    rw [vI_len, List.length_map]; simp
end
end K17
end
section
set_option Elab.async false
set_option linter.all false
set_option maxRecDepth 100000
namespace K17
open PySem PySem.Spec PyProof.Rows L2
open Sem (wp)
section
variable {M : Model} {A : Around} {E : Value → Shared → Prop}
theorem forIn_by {α β : Type} {f : α → β → Sem (ForInStep β)} (J : List α → β → Shared → Prop) (hstep : ∀ a l b s, J (a :: l) b s → wpAny M A (f a b) (fun r s' => ∃ b', r = .yield b' ∧ J l b' s') E s) :
    ∀ (l : List α) (b : β) (s : Shared) (Q : β → Shared → Prop), J l b s → (∀ b s, J [] b s → Q b s) → wpAny M A (forIn l b f) Q E s
  | [], b, s, Q, j, q => by rw [List.forIn_nil]; exact wpAny_pure (q _ _ j)
  | a :: l, b, s, Q, j, q => by
    rw [List.forIn_cons]
    refine wpAny_bind (thn (hstep a l b s j) fun r s' ⟨b', e, j'⟩ => ?_)
    subst e
    exact forIn_by J hstep l b' s' Q j' q
end
abbrev ZObj (f0 : Value) (f1 : Bool) (TI TO : Addr) : Obj := { cls := .type "zip", data := .fields #[f0, .bool f1, .bool false, .ref TI, .ref TO] }
abbrev TObj (vs : List Value) : Obj := { cls := .type "tuple", data := .seq vs.toArray }
structure Zt where
  I : Addr
  L : Addr
  xs : Array Value
  x : Value
/-- the cells lie apart -/
structure ZAp (z TI TO : Addr) (is : List Addr) (ls : List Addr) : Prop where
  nd : is.Nodup
  zi : z ∉ is
  Ti : TI ∉ is
  Oi : TO ∉ is
  TIz : TI ≠ z
  TOz : TO ≠ z
  TITO : TI ≠ TO
  li : ∀ L ∈ ls, L ∉ is
  lz : ∀ L ∈ ls, L ≠ z
  lO : ∀ L ∈ ls, L ≠ TO
section
variable {prog : Program} {w : World} {A : Around} {E : Value → Shared → Prop} {s : Shared}
theorem zipN_slow {z TI TO T : Addr} {f : Bool} {oT : Obj} {i : Nat} {ts : List Zt} {Q : Value → Shared → Prop} (D : ZAp z TI TO (ts.map (·.I)) (ts.map (·.L))) (hne : ts ≠ []) (hn : ts.length ≤ 100)
    (hz : s.heap.get? z = some (ZObj (rawInt T) f TI TO)) (hT : s.heap.get? T = some oT) (hTI : s.heap.get? TI = some (TObj (ts.map fun t => .ref t.I)))
    (hi : ∀ t ∈ ts, s.heap.IsListIter t.I t.L i) (hl : ∀ t ∈ ts, s.heap.IsList t.L t.xs) (hx : ∀ t ∈ ts, t.xs[i]? = some t.x)
    (hQ : ∀ h', h'.get? z = some (ZObj (rawInt T) true TI TO) → (∀ t ∈ ts, h'.IsListIter t.I t.L (i + 1)) → h'.get? s.heap.objs.size = some (TObj (ts.map (·.x))) → h'.objs.size = s.heap.objs.size + 1 →
      (∀ c o, c ≠ z → c ∉ ts.map (·.I) → s.heap.get? c = some o → h'.get? c = some o) → Q (.ref s.heap.objs.size) { s with heap := h' }) :
    wpAny (model prog w) A (Builtin.«zip.__next__» ⟨[.ref z], []⟩) (fun fin s' => ∃ v, fin = .done (.ret v) ∧ Q v s') E s := by
  show wpAny _ _ (field (.ref z) 2 >>= _) _ _ _
  refine wpAny_bind (wpAny_field hz rfl (x := .bool false) rfl ?_)
  show wpAny _ _ (field (.ref z) 3 >>= _) _ _ _
  refine wpAny_bind (wpAny_field hz rfl (x := .ref TI) rfl ?_)
  refine wpAny_bind (wpAny_seqItems hTI rfl ?_)
  have hem : (ts.map fun t => Value.ref t.I).toArray.isEmpty = false := by
    cases ts with
    | nil => exact absurd rfl hne
    | cons a l => rfl
  simp only [hem, Bool.false_eq_true, if_false]
  refine wpAny_bind (wpAny_tupleHeld_zip hz hT fun h₁ hz₁ hs₁ => ?_)
  simp only [Bool.false_eq_true, if_false]
  rw [← Array.forIn_toList]
  have zin : ∀ t ∈ ts, t.I ≠ z := fun t ht e => D.zi (by rw [← e]; exact List.mem_map_of_mem ht)
  refine wpAny_bind (forIn_by (fun rem b s' => ∃ dn rest, ts = dn ++ rest ∧ rem = rest.map (fun t => Value.ref t.I) ∧ b = (none, (dn.map (·.x)).toArray) ∧ ∃ h', s' = { s with heap := h' } ∧ h'.objs.size = h₁.objs.size ∧
    (∀ t ∈ dn, h'.IsListIter t.I t.L (i + 1)) ∧ (∀ t ∈ rest, h'.IsListIter t.I t.L i) ∧ (∀ c o, c ∉ ts.map (·.I) → h₁.get? c = some o → h'.get? c = some o)) (fun a l b s' J => ?_) _ _ _ _ ⟨[], ts, rfl, rfl, rfl, h₁, rfl, rfl, by simp, fun t ht => (hi t ht).extBut hs₁.extBut (zin t ht), fun c o _ h => h⟩ (fun b s' J => ?_))
  · obtain ⟨dn, rest, e1, e2, rfl, h', rfl, z1, d1, d2, kp⟩ := J
    cases rest with
    | nil => cases e2
    | cons t rest =>
      cases e2
      have ht : t ∈ ts := by rw [e1]; simp
      have nd := D.nd
      rw [e1] at nd
      simp only [List.map_append, List.map_cons, List.nodup_append, List.nodup_cons] at nd
      refine wpAny_bind (wpAny_holding ?_)
      show wpAny _ _ (Builtin.SmallTypes.nextOf (.ref t.I) >>= _) _ _ _
      have hL : h'.IsList t.L t.xs := ((hl t ht).extBut hs₁.extBut (D.lz _ (List.mem_map_of_mem ht))).at fun o q => kp _ o (D.li _ (List.mem_map_of_mem ht)) q
      refine wpAny_bind (wpAny_nextOf_list_item (s := { s with heap := h' }) (d2 t (by simp)) hL (hx t ht) fun h2 h12 hs2 => wpAny_pure ?_)
      refine wpAny_pure ⟨_, rfl, dn ++ [t], rest, by simp [e1], rfl, by simp, h2, rfl, by rw [← z1]; exact hs2.1, fun u hu => ?_, fun u hu => ?_, fun c o hc q => ?_⟩
      · rw [List.mem_append] at hu
        rcases hu with hu | hu
        · exact (d1 u hu).extBut hs2.extBut fun e => nd.2.2 u.I (List.mem_map_of_mem hu) t.I (by simp) e
        · simp at hu; subst hu; exact h12
      · exact (d2 u (by simp [hu])).extBut hs2.extBut fun e => nd.2.1.1 (by rw [← e]; exact List.mem_map_of_mem hu)
      · exact hs2.extBut _ _ (fun e => hc (by rw [e]; exact List.mem_map_of_mem ht)) (kp c o hc q)
  · obtain ⟨dn, rest, e1, e2, rfl, h', rfl, z1, d1, d2, kp⟩ := J
    have e3 : rest = [] := by cases rest with
      | nil => rfl
      | cons => cases e2
    subst e3
    rw [List.append_nil] at e1
    subst e1
    show wpAny _ _ (newTuple _ >>= _) _ _ _
    refine wpAny_bind (wpAny_newTuple ?_ (by have : (1000 : Nat) < sizeLine := by decide
                                             simp; omega))
    refine wpAny_pure ⟨_, rfl, ?_⟩
    show Q (.ref h'.objs.size) _
    have hsz : h'.objs.size = s.heap.objs.size := by rw [z1, hs₁.1]
    have hp : (h'.push (TObj (ts.map (·.x)))).get? h'.objs.size = some (TObj (ts.map (·.x))) := Heap.get?_push_size _ rfl
    have hz4 : (h'.push (TObj (ts.map (·.x)))).objs.size = h'.objs.size + 1 := Heap.size_push ..
    rw [hsz] at hp hz4 ⊢
    exact hQ _ (Heap.get?_push_of_some _ (kp _ _ D.zi hz₁)) (fun t ht => (d1 t ht).at fun o e => Heap.get?_push_of_some _ e) hp hz4 fun c o c1 c2 e => Heap.get?_push_of_some _ (kp _ _ c2 (hs₁.extBut _ _ c1 e))
theorem dead_load {a : Addr} {Q : Option Obj → Shared → Prop} (ho : s.heap.get? a = none) (h : Q none s) : wpAny (model prog w) A (loadIfAlive a) Q E s := by
  have h' : Q (s.heap.get? a) s := by rw [ho]; exact h
  exact fun _ _ _ => h'
theorem free_zip {z TI TO : Addr} {f0 : Value} {f : Bool} {Q : Bool → Shared → Prop} (hz : s.heap.get? z = some (ZObj f0 f TI TO)) (hf : f0 = .none ∨ ∃ T : Addr, f0 = rawInt T ∧ s.heap.get? T = none) (h : Q true s) :
    wpAny (model prog w) A (Builtin.SmallTypes.ownedTupleIsFree (.ref z)) Q E s := by
  unfold Builtin.SmallTypes.ownedTupleIsFree
  rcases hf with rfl | ⟨T, rfl, hT⟩
  · exact wpAny_bind (wpAny_field hz rfl (x := .none) rfl (wpAny_pure h))
  · refine wpAny_bind (wpAny_field hz rfl (x := rawInt T) rfl ?_)
    show wpAny _ _ (loadIfAlive ((T : Int).toNat) >>= _) _ _ _
    rw [Int.toNat_natCast]
    refine wpAny_bind (dead_load hT ?_)
    simp only [Option.isNone_none, if_true]
    exact wpAny_pure h
theorem updateSeq_T {T : Addr} {x : Value} {k : Nat} {vs : Array Value} {Q : Unit → Shared → Prop} (hT : s.heap.get? T = some { cls := .type "tuple", data := .seq vs }) (hz : vs.size ≤ sizeLine)
    (h : ∀ h', h'.get? T = some { cls := .type "tuple", data := .seq (vs.setIfInBounds k x) } → Heap.SameBut T s.heap h' → Q () { s with heap := h' }) :
    wpAny (model prog w) A (updateSeq T (·.setIfInBounds k x)) Q E s := by
  refine wpAny_updateSeq hT rfl (h _ ?_ (Heap.SameBut.update ..)) (hz := hz) (_hz' := by rw [Array.size_setIfInBounds]; omega)
  rw [Heap.get?_update_self _ hT rfl]
  simp [Obj.mapSeq]
theorem set_mid (xs : List Value) (a x : Value) (ys : List Value) : (xs ++ a :: ys).set xs.length x = (xs ++ [x]) ++ ys := by
  induction xs with
  | nil => rfl
  | cons b xs ih => simp [ih]
theorem zipN_fast {z TI TO : Addr} {f0 : Value} {f : Bool} {i : Nat} {ts : List Zt} {ks : List Value} {Q : Value → Shared → Prop} (D : ZAp z TI TO (ts.map (·.I)) (ts.map (·.L))) (hne : ts ≠ []) (hn : ts.length ≤ 100)
    (hz : s.heap.get? z = some (ZObj f0 f TI TO)) (hf : f0 = .none ∨ ∃ T : Addr, f0 = rawInt T ∧ s.heap.get? T = none) (hTI : s.heap.get? TI = some (TObj (ts.map fun t => .ref t.I)))
    (hTO : s.heap.get? TO = some (TObj ks)) (hks : ks.length = ts.length)
    (hi : ∀ t ∈ ts, s.heap.IsListIter t.I t.L i) (hl : ∀ t ∈ ts, s.heap.IsList t.L t.xs) (hx : ∀ t ∈ ts, t.xs[i]? = some t.x)
    (hQ : ∀ h', h'.get? z = some (ZObj (rawInt s.heap.objs.size) false TI TO) → h'.get? TO = some (TObj (ts.map (·.x))) → (∀ t ∈ ts, h'.IsListIter t.I t.L (i + 1)) → h'.get? s.heap.objs.size = some (TObj (ts.map (·.x))) → h'.objs.size = s.heap.objs.size + 1 →
      (∀ c o, c ≠ z → c ≠ TO → c ∉ ts.map (·.I) → s.heap.get? c = some o → h'.get? c = some o) → Q (.ref s.heap.objs.size) { s with heap := h' }) :
    wpAny (model prog w) A (Builtin.«zip.__next__» ⟨[.ref z], []⟩) (fun fin s' => ∃ v, fin = .done (.ret v) ∧ Q v s') E s := by
  show wpAny _ _ (field (.ref z) 2 >>= _) _ _ _
  refine wpAny_bind (wpAny_field hz rfl (x := .bool false) rfl ?_)
  show wpAny _ _ (field (.ref z) 3 >>= _) _ _ _
  refine wpAny_bind (wpAny_field hz rfl (x := .ref TI) rfl ?_)
  refine wpAny_bind (wpAny_seqItems hTI rfl ?_)
  have hem : (ts.map fun t => Value.ref t.I).toArray.isEmpty = false := by
    cases ts with
    | nil => exact absurd rfl hne
    | cons a l => rfl
  simp only [hem, Bool.false_eq_true, if_false]
  refine wpAny_bind (free_zip hz hf ?_)
  simp only [if_true]
  refine wpAny_bind (wpAny_rule ?_)
  refine wpAny_bind (wpAny_field hz rfl (x := .ref TO) rfl ?_)
  refine wpAny_bind (wpAny_setField_rec hz (by simp) fun h₁ hz₁ hs₁ => ?_)
  replace hz₁ : h₁.get? z = some (ZObj .ellipsis f TI TO) := hz₁
  replace hs₁ : Heap.SameBut z s.heap h₁ := hs₁
  have zin : ∀ t ∈ ts, t.I ≠ z := fun t ht e => D.zi (by rw [← e]; exact List.mem_map_of_mem ht)
  have Oin : ∀ t ∈ ts, t.I ≠ TO := fun t ht e => D.Oi (by rw [← e]; exact List.mem_map_of_mem ht)
  refine wpAny_bind (forIn_by (fun rem b s' => ∃ dn rest k2, ts = dn ++ rest ∧ rem = (rest.map (fun t => Value.ref t.I)).zipIdx dn.length ∧ b = (none, ()) ∧ k2.length = rest.length ∧ ∃ h', s' = { s with heap := h' } ∧ h'.objs.size = h₁.objs.size ∧
    h'.get? TO = some (TObj (dn.map (·.x) ++ k2)) ∧
    (∀ t ∈ dn, h'.IsListIter t.I t.L (i + 1)) ∧ (∀ t ∈ rest, h'.IsListIter t.I t.L i) ∧ (∀ c o, c ∉ ts.map (·.I) → c ≠ TO → h₁.get? c = some o → h'.get? c = some o)) (fun a l b s' J => ?_) _ _ _ _ ⟨[], ts, ks, rfl, rfl, rfl, hks, h₁, rfl, rfl, hs₁.extBut _ _ D.TOz hTO, by simp, fun t ht => (hi t ht).extBut hs₁.extBut (zin t ht), fun c o _ _ h => h⟩ (fun b s' J => ?_))
  · obtain ⟨dn, rest, k2, e1, e2, rfl, kl, h', rfl, z1, to, d1, d2, kp⟩ := J
    cases rest with
    | nil => cases e2
    | cons t rest =>
      rw [List.map_cons, List.zipIdx_cons] at e2
      cases e2
      have ht : t ∈ ts := by rw [e1]; simp
      have nd := D.nd
      rw [e1] at nd
      simp only [List.map_append, List.map_cons, List.nodup_append, List.nodup_cons] at nd
      obtain ⟨k0, k2, rfl⟩ : ∃ k0 k3, k2 = k0 :: k3 := by
        cases k2 with
        | nil => simp at kl
        | cons a b => exact ⟨a, b, rfl⟩
      refine wpAny_bind (wpAny_onRaise ?_)
      show wpAny _ _ (Builtin.SmallTypes.nextOf (.ref t.I) >>= _) _ _ _
      have hL : h'.IsList t.L t.xs := ((hl t ht).extBut hs₁.extBut (D.lz _ (List.mem_map_of_mem ht))).at fun o q => kp _ o (D.li _ (List.mem_map_of_mem ht)) (D.lO _ (List.mem_map_of_mem ht)) q
      refine wpAny_bind (wpAny_nextOf_list_item (s := { s with heap := h' }) (d2 t (by simp)) hL (hx t ht) fun h2 h12 hs2 => wpAny_pure ?_)
      have to2 : h2.get? TO = some (TObj (dn.map (·.x) ++ k0 :: k2)) := hs2.extBut _ _ (Ne.symm (Oin t ht)) to
      refine wpAny_bind (wpAny_seqItems (s := { s with heap := h2 }) to2 rfl ?_)
      refine wpAny_bind (updateSeq_T (s := { s with heap := h2 }) to2 (by have : (1000 : Nat) < sizeLine := by decide
                                                                          have : ts.length = dn.length + (rest.length + 1) := by rw [e1]; simp
                                                                          simp at kl ⊢; omega) fun h3 to3 hs3 => ?_)
      replace hs3 : Heap.SameBut TO h2 h3 := hs3
      refine wpAny_bind (wpAny_letGo (wpAny_pure ?_))
      refine ⟨_, rfl, dn ++ [t], rest, k2, by simp [e1], by simp, rfl, by simpa using kl, h3, rfl, by rw [← z1]; exact hs3.1.trans hs2.1, ?_, fun u hu => ?_, fun u hu => ?_, fun c o hc hO q => ?_⟩
      · rw [to3]
        simp only [List.setIfInBounds_toArray]
        rw [show dn.length = (dn.map (·.x)).length by simp, set_mid]
        simp
      · rw [List.mem_append] at hu
        rcases hu with hu | hu
        · exact ((d1 u hu).extBut hs2.extBut fun e => nd.2.2 u.I (List.mem_map_of_mem hu) t.I (by simp) e).extBut hs3.extBut (Oin u (by rw [e1]; simp [hu]))
        · simp at hu; subst hu; exact h12.extBut hs3.extBut (Oin u ht)
      · exact ((d2 u (by simp [hu])).extBut hs2.extBut fun e => nd.2.1.1 (by rw [← e]; exact List.mem_map_of_mem hu)).extBut hs3.extBut (Oin u (by rw [e1]; simp [hu]))
      · exact hs3.extBut _ _ hO (hs2.extBut _ _ (fun e => hc (by rw [e]; exact List.mem_map_of_mem ht)) (kp c o hc hO q))
  · obtain ⟨dn, rest, k2, e1, e2, rfl, kl, h', rfl, z1, to, d1, d2, kp⟩ := J
    have e3 : rest = [] := by cases rest with
      | nil => rfl
      | cons => rw [List.map_cons, List.zipIdx_cons] at e2; cases e2
    subst e3
    have e4 : k2 = [] := by cases k2 with
      | nil => rfl
      | cons => simp at kl
    subst e4
    rw [List.append_nil] at e1
    subst e1
    rw [List.append_nil] at to
    refine wpAny_bind (wpAny_seqItems (s := { s with heap := h' }) to rfl ?_)
    refine wpAny_bind (wpAny_newTuple ?_ (by have : (1000 : Nat) < sizeLine := by decide
                                             simp; omega))
    have hsz : h'.objs.size = s.heap.objs.size := by rw [z1, hs₁.1]
    have hz' : h'.get? z = some (ZObj .ellipsis f TI TO) := kp _ _ D.zi D.TOz.symm hz₁
    have hzlt : z < h'.objs.size := Heap.lt_size hz'
    show wpAny _ _ (Builtin.SmallTypes.ownedTupleHandOut (.ref z) (.ref h'.objs.size) >>= _) _ _ { s with heap := h'.push (TObj (ts.map (·.x))) }
    refine wpAny_bind ?_
    unfold Builtin.SmallTypes.ownedTupleHandOut
    have hz₆ : (h'.push (TObj (ts.map (·.x)))).get? z = some (ZObj .ellipsis f TI TO) := Heap.get?_push_of_some _ hz'
    refine wpAny_bind (wpAny_setField_rec (s := { s with heap := h'.push (TObj (ts.map (·.x))) }) hz₆ (by simp) fun h₇ hz₇ hs₇ => ?_)
    replace hz₇ : h₇.get? z = some (ZObj (rawInt h'.objs.size) f TI TO) := hz₇
    refine wpAny_setField_rec (s := { s with heap := h₇ }) hz₇ (by simp) fun h₈ hz₈ hs₈ => ?_
    replace hz₈ : h₈.get? z = some (ZObj (rawInt h'.objs.size) false TI TO) := hz₈
    replace hs₇ : Heap.SameBut z (h'.push (TObj (ts.map (·.x)))) h₇ := hs₇
    replace hs₈ : Heap.SameBut z h₇ h₈ := hs₈
    have up : ∀ c o, c ≠ z → h'.get? c = some o → h₈.get? c = some o := fun c o c1 e => hs₈.extBut _ _ c1 (hs₇.extBut _ _ c1 (Heap.get?_push_of_some _ e))
    have hT₈ : h₈.get? h'.objs.size = some (TObj (ts.map (·.x))) := hs₈.extBut _ _ (Nat.ne_of_gt hzlt) (hs₇.extBut _ _ (Nat.ne_of_gt hzlt) (Heap.get?_push_size _ rfl))
    have hz8 : h₈.objs.size = h'.objs.size + 1 := by rw [hs₈.1, hs₇.1, Heap.size_push]
    rw [hsz] at hz₈ hT₈ hz8
    refine wpAny_pure ⟨_, rfl, ?_⟩
    show Q (.ref h'.objs.size) _
    rw [hsz]
    exact hQ h₈ hz₈ (up _ _ D.TOz to) (fun t ht => (d1 t ht).at fun o e => up _ _ (zin t ht) e) hT₈ hz8 fun c o c1 c2 c3 e => up _ _ c1 (kp _ _ c3 c2 (hs₁.extBut _ _ c1 e))
end
end K17
end
section
set_option Elab.async false
set_option linter.all false
set_option maxRecDepth 100000
namespace K17
open PySem PySem.Spec PyProof.Rows L2
open Sem (wp)
section
variable {prog : Program} {w : World} {A : Around} {E : Value → Shared → Prop} {s : Shared}
theorem zipN_end {z TI TO : Addr} {f0 : Value} {f : Bool} {i : Nat} {t : Zt} {ts : List Zt} {ks : List Value} {Q : Fin → Shared → Prop} (hh : A.handled = none) (D : ZAp z TI TO ((t :: ts).map (·.I)) ((t :: ts).map (·.L)))
    (hz : s.heap.get? z = some (ZObj f0 f TI TO)) (hf : f0 = .none ∨ ∃ T : Addr, f0 = rawInt T) (hTI : s.heap.get? TI = some (TObj ((t :: ts).map fun t => .ref t.I)))
    (hTO : s.heap.get? TO = some (TObj ks))
    (hi : s.heap.IsListIter t.I t.L i) (hl : s.heap.IsList t.L t.xs) (hx : t.xs[i]? = none)
    (hE : ∀ h' e, (∀ c o, c ≠ z → c ≠ TO → c ∉ (t :: ts).map (·.I) → s.heap.get? c = some o → h'.get? c = some o) → (∃ o, h'.get? e = some o ∧ o.cls = .type "StopIteration") → E (.ref e) { s with heap := h' }) :
    wpAny (model prog w) A (Builtin.«zip.__next__» ⟨[.ref z], []⟩) Q E s := by
  show wpAny _ _ (field (.ref z) 2 >>= _) _ _ _
  refine wpAny_bind (wpAny_field hz rfl (x := .bool false) rfl ?_)
  show wpAny _ _ (field (.ref z) 3 >>= _) _ _ _
  refine wpAny_bind (wpAny_field hz rfl (x := .ref TI) rfl ?_)
  refine wpAny_bind (wpAny_seqItems hTI rfl ?_)
  have hem : ((t :: ts).map fun t => Value.ref t.I).toArray.isEmpty = false := rfl
  simp only [hem, Bool.false_eq_true, if_false]
  have tz : t.I ≠ z := fun e => D.zi (by rw [← e]; simp)
  have lz := D.lz t.L (by simp)
  have fin : ∀ h₁ : Heap, Heap.SameBut z s.heap h₁ → h₁.IsListIter t.I t.L i ∧ h₁.IsList t.L t.xs := fun h₁ hs => ⟨hi.extBut hs.extBut tz, hl.extBut hs.extBut lz⟩
  by_cases free : f0 = .none ∨ ∃ T : Addr, f0 = rawInt T ∧ s.heap.get? T = none
  · refine wpAny_bind (free_zip hz free ?_)
    simp only [if_true]
    refine wpAny_bind (wpAny_rule ?_)
    refine wpAny_bind (wpAny_field hz rfl (x := .ref TO) rfl ?_)
    refine wpAny_bind (wpAny_setField_rec hz (by simp) fun h₁ hz₁ hs₁ => ?_)
    replace hz₁ : h₁.get? z = some (ZObj .ellipsis f TI TO) := hz₁
    replace hs₁ : Heap.SameBut z s.heap h₁ := hs₁
    obtain ⟨i1, l1⟩ := fin h₁ hs₁
    refine wpAny_bind ?_
    simp only [List.map_cons, List.zipIdx_cons, List.forIn_cons]
    refine wpAny_bind (wpAny_bind (wpAny_onRaise ?_))
    show wpAny _ _ (Builtin.SmallTypes.nextOf (.ref t.I) >>= _) _ _ _
    refine wpAny_bind (wpAny_nextOf_list_end (s := { s with heap := h₁ }) hh i1 l1 hx fun h₂ e hs₂ he => ?_)
    obtain ⟨oe, hoe, hce⟩ := he
    have hzq : h₂.get? z = some (ZObj .ellipsis f TI TO) := hs₂ _ _ (Ne.symm tz) hz₁
    have hez : e ≠ z := fun x => by subst x; rw [hzq] at hoe; cases hoe; simp at hce
    refine wpAny_setField_rec (s := { s with heap := h₂ }) hzq (by simp) fun h₃ _ hs₃ => ?_
    replace hs₃ : Heap.SameBut z h₂ h₃ := hs₃
    exact hE h₃ e (fun c o cz cT c1 x => hs₃.extBut _ _ cz (hs₂ _ _ (fun e => c1 (by rw [e]; simp)) (hs₁.extBut _ _ cz x))) ⟨oe, hs₃.extBut _ _ hez hoe, hce⟩
  · obtain ⟨T, rfl⟩ : ∃ T : Addr, f0 = rawInt T := by
      rcases hf with e | e
      · exact absurd (.inl e) free
      · exact e
    obtain ⟨oT, hT⟩ : ∃ oT, s.heap.get? T = some oT := by
      cases q : s.heap.get? T with
      | none => exact absurd (.inr ⟨T, rfl, q⟩) free
      | some o => exact ⟨o, rfl⟩
    refine wpAny_bind (wpAny_tupleHeld_zip hz hT fun h₁ hz₁ hs₁ => ?_)
    simp only [Bool.false_eq_true, if_false]
    obtain ⟨i1, l1⟩ := fin h₁ hs₁
    refine wpAny_bind ?_
    rw [← Array.forIn_toList]
    simp only [List.map_cons, List.forIn_cons]
    refine wpAny_bind (wpAny_bind (wpAny_holding ?_))
    show wpAny _ _ (Builtin.SmallTypes.nextOf (.ref t.I) >>= _) _ _ _
    refine wpAny_bind (wpAny_nextOf_list_end (s := { s with heap := h₁ }) hh i1 l1 hx fun h₂ e hs₂ he => ?_)
    exact hE h₂ e (fun c o c1 _ c2 x => hs₂ _ _ (fun e => c2 (by rw [e]; simp)) (hs₁.extBut _ _ c1 x)) he
/-- the state at turn i -/
def ZSt (z TI TO : Addr) (is ls : List Addr) (i : Nat) (h : Heap) : Prop :=
  (∃ f0 f, h.get? z = some (ZObj f0 f TI TO) ∧ (f0 = .none ∨ ∃ T : Addr, f0 = rawInt T)) ∧ h.get? TI = some (TObj (is.map .ref)) ∧ (∃ ks, h.get? TO = some (TObj ks) ∧ ks.length = is.length) ∧
  ∀ (k : Nat) (I L : Addr), is[k]? = some I → ls[k]? = some L → h.IsListIter I L i
theorem pyNext_zipN {z TI TO : Addr} {i : Nat} {ts : List Zt} {Q : Option Value → Shared → Prop} (D : ZAp z TI TO (ts.map (·.I)) (ts.map (·.L))) (hne : ts ≠ []) (hn : ts.length ≤ 100)
    (st : ZSt z TI TO (ts.map (·.I)) (ts.map (·.L)) i s.heap) (hl : ∀ t ∈ ts, s.heap.IsList t.L t.xs) (hx : ∀ t ∈ ts, t.xs[i]? = some t.x)
    (hQ : ∀ h', ZSt z TI TO (ts.map (·.I)) (ts.map (·.L)) (i + 1) h' → h'.get? s.heap.objs.size = some (TObj (ts.map (·.x))) → h'.objs.size = s.heap.objs.size + 1 →
      (∀ c o, c ≠ z → c ≠ TO → c ∉ ts.map (·.I) → s.heap.get? c = some o → h'.get? c = some o) → Q (some (.ref s.heap.objs.size)) { s with heap := h' }) :
    wpAny (model prog w) A (pyNext (.ref z)) Q E s := by
  obtain ⟨⟨f0, f, hz, hf⟩, hTI, ⟨ks, hTO, hks⟩, hit⟩ := st
  have hT : s.TypeIs (.ref z) "zip" := ⟨_, hz, rfl⟩
  have hi : ∀ t ∈ ts, s.heap.IsListIter t.I t.L i := fun t ht => by
    obtain ⟨k, hk⟩ := List.getElem?_of_mem ht
    exact hit k t.I t.L (by rw [List.getElem?_map, hk]; rfl) (by rw [List.getElem?_map, hk]; rfl)
  have back : ∀ {h : Heap}, (∀ t ∈ ts, h.IsListIter t.I t.L (i + 1)) → ∀ (k : Nat) (I L : Addr), (ts.map (·.I))[k]? = some I → (ts.map (·.L))[k]? = some L → h.IsListIter I L (i + 1) := fun {h} q k I L e1 e2 => by
    rw [List.getElem?_map] at e1 e2
    cases e : ts[k]? with
    | none => rw [e] at e1; cases e1
    | some t => rw [e] at e1 e2; cases e1; cases e2; exact q t (List.mem_of_getElem? e)
  unfold pyNext
  refine wpAny_bind (wpAny_attempt (wpAny_callSpecial?_slot (name := Str.ofString "__next__") hT F.slot_zip_next
    (wpAny_call_entry F.slot_zip_next hT F.entry_zip_next ?_ (F.args_zip_next_1 _))))
  by_cases free : f0 = .none ∨ ∃ T : Addr, f0 = rawInt T ∧ s.heap.get? T = none
  · refine zipN_fast (ts := ts) D hne hn hz free (by rw [hTI, List.map_map]; rfl) hTO (by simpa using hks) hi hl hx fun h' a1 a2 a3 a4 a5 a6 => wpAny_pure (hQ h' ⟨⟨_, _, a1, .inr ⟨_, rfl⟩⟩, ?_, ⟨_, a2, by simp⟩, back a3⟩ a4 a5 a6)
    exact a6 _ _ D.TIz D.TITO D.Ti hTI
  · obtain ⟨T, rfl⟩ : ∃ T : Addr, f0 = rawInt T := by
      rcases hf with e | e
      · exact absurd (.inl e) free
      · exact e
    obtain ⟨oT, hT⟩ : ∃ oT, s.heap.get? T = some oT := by
      cases q : s.heap.get? T with
      | none => exact absurd (.inr ⟨T, rfl, q⟩) free
      | some o => exact ⟨o, rfl⟩
    refine zipN_slow (ts := ts) D hne hn hz hT (by rw [hTI, List.map_map]; rfl) hi hl hx fun h' a1 a3 a4 a5 a6 => wpAny_pure (hQ h' ⟨⟨_, _, a1, .inr ⟨_, rfl⟩⟩, ?_, ⟨_, a6 _ _ D.TOz D.Oi hTO, hks⟩, back a3⟩ a4 a5 fun c o c1 _ c3 e => a6 c o c1 c3 e)
    exact a6 _ _ D.TIz D.Ti hTI
theorem pyNext_zipN_end {z TI TO : Addr} {i : Nat} {t : Zt} {ts : List Zt} {Q : Option Value → Shared → Prop} (hh : A.handled = none) (D : ZAp z TI TO ((t :: ts).map (·.I)) ((t :: ts).map (·.L)))
    (st : ZSt z TI TO ((t :: ts).map (·.I)) ((t :: ts).map (·.L)) i s.heap) (hl : s.heap.IsList t.L t.xs) (hx : t.xs[i]? = none)
    (hQ : ∀ h', (∀ c o, c ≠ z → c ≠ TO → c ∉ (t :: ts).map (·.I) → s.heap.get? c = some o → h'.get? c = some o) → Q none { s with heap := h' }) : wpAny (model prog w) A (pyNext (.ref z)) Q E s := by
  obtain ⟨⟨f0, f, hz, hf⟩, hTI, ⟨ks, hTO, hks⟩, hit⟩ := st
  have hT : s.TypeIs (.ref z) "zip" := ⟨_, hz, rfl⟩
  unfold pyNext
  refine wpAny_bind (wpAny_attempt (wpAny_callSpecial?_slot (name := Str.ofString "__next__") hT F.slot_zip_next
    (wpAny_call_entry F.slot_zip_next hT F.entry_zip_next (zipN_end (t := t) (ts := ts) hh D hz hf (by rw [hTI, List.map_map]; rfl) hTO (hit 0 t.I t.L rfl rfl) hl hx fun h' e hk he => ?_) (F.args_zip_next_1 _))))
  obtain ⟨o, ho, hc⟩ := he
  refine wpAny_bind (wpAny_isInstance (T := "StopIteration") (b := true) ⟨o, ho, hc⟩ isSubtype_stop ?_)
  exact wpAny_pure (hQ _ hk)
end
end K17
end
section
set_option Elab.async false
set_option linter.all false
set_option maxRecDepth 100000
namespace K17
open PySem PySem.Spec PyProof.Rows L2
open Sem (wp)
abbrev zzT (h : Heap) (o1 o2 o3 o4 : Obj) : Heap := ((((h.push o1).push o2).push o3).push o4).push { cls := .type "tuple", data := .seq #[.ref h.objs.size, .ref (h.push o1).objs.size, .ref ((h.push o1).push o2).objs.size, .ref (((h.push o1).push o2).push o3).objs.size] }
abbrev zzO (h : Heap) (o1 o2 o3 o4 : Obj) : Heap := (zzT h o1 o2 o3 o4).push { cls := .type "tuple", data := .seq #[.none, .none, .none, .none] }
abbrev zzZ (h : Heap) (o1 o2 o3 o4 : Obj) : Heap := (zzO h o1 o2 o3 o4).push { cls := .type "zip", data := .fields #[.none, .bool false, .bool false, .ref ((((h.push o1).push o2).push o3).push o4).objs.size, .ref (zzT h o1 o2 o3 o4).objs.size] }
theorem zz_type (a b c d : Value) : checkTypeCall "zip" ⟨[a, b, c, d], []⟩ = pure () := by kernel_rfl
theorem zz_new (a b c d : Value) : checkBuiltinCall "zip.__new__" ⟨[.type "zip", a, b, c, d], []⟩ = pure () := by kernel_rfl
theorem zz_init (obj a b c d : Value) : argsOk "object.__init__" ⟨[obj, a, b, c, d], []⟩ := by unfold argsOk; kernel_rfl
set_option maxHeartbeats 2000000 in
theorem zz_meets {v1 v2 v3 v4 : Value} {o1 o2 o3 o4 : Obj} {H1 H2 H3 H4 : Heap → Prop} (B1 : Begins v1 o1 H1) (B2 : Begins v2 o2 H2) (B3 : Begins v3 o3 H3) (B4 : Begins v4 o4 H4) :
    Meets (Builtin.«zip.__new__» ⟨[.type "zip", v1, v2, v3, v4], []⟩) (fun _ R s => (H1 s.heap ∧ H2 s.heap ∧ H3 s.heap ∧ H4 s.heap) ∧
      R (.ok (.ret (.ref (zzO s.heap o1 o2 o3 o4).objs.size))) { s with heap := zzZ s.heap o1 o2 o3 o4 }) :=
  .of_wp fun prog w A R s h => by
    obtain ⟨hp, g, d, tk, os⟩ := s; obtain ⟨⟨h1, h2, h3, h4⟩, h⟩ := h
    have hsub := sub_zip
    have q1 : ∀ {A' : Around} {E : Value → Shared → Prop} {Q : Value → Shared → Prop}, Q (.ref hp.objs.size) ⟨(hp.push o1), g, d, tk, os⟩ → wpAny (model prog w) A' (pyIter v1) Q E ⟨hp, g, d, tk, os⟩ :=
      fun q => B1.iter prog w _ _ ⟨hp, g, d, tk, os⟩ _ (B1.keeps _ _ h1 fun b o' e => e) q
    have q2 : ∀ {A' : Around} {E : Value → Shared → Prop} {Q : Value → Shared → Prop}, Q (.ref (hp.push o1).objs.size) ⟨((hp.push o1).push o2), g, d, tk, os⟩ → wpAny (model prog w) A' (pyIter v2) Q E ⟨(hp.push o1), g, d, tk, os⟩ :=
      fun q => B2.iter prog w _ _ ⟨(hp.push o1), g, d, tk, os⟩ _ (B2.keeps _ _ h2 fun b o' e => (Heap.get?_push_of_some _ e)) q
    have q3 : ∀ {A' : Around} {E : Value → Shared → Prop} {Q : Value → Shared → Prop}, Q (.ref ((hp.push o1).push o2).objs.size) ⟨(((hp.push o1).push o2).push o3), g, d, tk, os⟩ → wpAny (model prog w) A' (pyIter v3) Q E ⟨((hp.push o1).push o2), g, d, tk, os⟩ :=
      fun q => B3.iter prog w _ _ ⟨((hp.push o1).push o2), g, d, tk, os⟩ _ (B3.keeps _ _ h3 fun b o' e => (Heap.get?_push_of_some _ (Heap.get?_push_of_some _ e))) q
    have q4 : ∀ {A' : Around} {E : Value → Shared → Prop} {Q : Value → Shared → Prop}, Q (.ref (((hp.push o1).push o2).push o3).objs.size) ⟨((((hp.push o1).push o2).push o3).push o4), g, d, tk, os⟩ → wpAny (model prog w) A' (pyIter v4) Q E ⟨(((hp.push o1).push o2).push o3), g, d, tk, os⟩ :=
      fun q => B4.iter prog w _ _ ⟨(((hp.push o1).push o2).push o3), g, d, tk, os⟩ _ (B4.keeps _ _ h4 fun b o' e => (Heap.get?_push_of_some _ (Heap.get?_push_of_some _ (Heap.get?_push_of_some _ e)))) q
    wp_walk using q1, q2, q3, q4
    exact ⟨_, rfl, h⟩
section
variable {prog : Program} {w : World} {A : Around} {E : Value → Shared → Prop} {s : Shared}
theorem zz_begins {v1 v2 v3 v4 : Value} {o1 o2 o3 o4 : Obj} {H1 H2 H3 H4 : Heap → Prop} {Q : Value → Shared → Prop} (B1 : Begins v1 o1 H1) (B2 : Begins v2 o2 H2) (B3 : Begins v3 o3 H3) (B4 : Begins v4 o4 H4) (h1 : H1 s.heap) (h2 : H2 s.heap) (h3 : H3 s.heap) (h4 : H4 s.heap)
    (h : ∀ h', h'.get? (s.heap.objs.size + 6) = some (ZObj .none false (s.heap.objs.size + 4) (s.heap.objs.size + 5)) → h'.get? (s.heap.objs.size + 4) = some (TObj [.ref s.heap.objs.size, .ref (s.heap.objs.size + 1), .ref (s.heap.objs.size + 2), .ref (s.heap.objs.size + 3)]) →
      h'.get? (s.heap.objs.size + 5) = some (TObj [.none, .none, .none, .none]) → h'.get? s.heap.objs.size = some o1 → h'.get? (s.heap.objs.size + 1) = some o2 → h'.get? (s.heap.objs.size + 2) = some o3 → h'.get? (s.heap.objs.size + 3) = some o4 → h'.objs.size = s.heap.objs.size + 7 →
      (∀ c o, s.heap.get? c = some o → h'.get? c = some o) → Q (.ref (s.heap.objs.size + 6)) { s with heap := h' }) :
    wpAny (model prog w) A (call (.type "zip") [v1, v2, v3, v4]) Q E s := by
  refine callType_new F.called_zip (by decide) (zz_type _ _ _ _) (zz_new _ _ _ _) (fun obj => zz_init obj _ _ _ _) F.entry_zip_new
    (zz_meets B1 B2 B3 B4) ⟨⟨h1, h2, h3, h4⟩, ?_⟩
  have z1 : (s.heap.push o1).objs.size = s.heap.objs.size + 1 := by rw [Heap.size_push]
  have z2 : ((s.heap.push o1).push o2).objs.size = s.heap.objs.size + 2 := by rw [Heap.size_push, z1]
  have z3 : (((s.heap.push o1).push o2).push o3).objs.size = s.heap.objs.size + 3 := by rw [Heap.size_push, z2]
  have z4 : ((((s.heap.push o1).push o2).push o3).push o4).objs.size = s.heap.objs.size + 4 := by rw [Heap.size_push, z3]
  have zT : (zzT s.heap o1 o2 o3 o4).objs.size = s.heap.objs.size + 5 := by rw [Heap.size_push, z4]
  have zO : (zzO s.heap o1 o2 o3 o4).objs.size = s.heap.objs.size + 6 := by rw [Heap.size_push, zT]
  have zZ : (zzZ s.heap o1 o2 o3 o4).objs.size = s.heap.objs.size + 7 := by rw [Heap.size_push, zO]
  have gZ : (zzZ s.heap o1 o2 o3 o4).get? (zzO s.heap o1 o2 o3 o4).objs.size = some (ZObj .none false ((((s.heap.push o1).push o2).push o3).push o4).objs.size (zzT s.heap o1 o2 o3 o4).objs.size) := Heap.get?_push_size _ rfl
  have gO : (zzZ s.heap o1 o2 o3 o4).get? (zzT s.heap o1 o2 o3 o4).objs.size = some (TObj [.none, .none, .none, .none]) := Heap.get?_push_of_some _ (Heap.get?_push_size _ rfl)
  have gT : (zzZ s.heap o1 o2 o3 o4).get? ((((s.heap.push o1).push o2).push o3).push o4).objs.size = some (TObj [.ref s.heap.objs.size, .ref (s.heap.push o1).objs.size, .ref ((s.heap.push o1).push o2).objs.size, .ref (((s.heap.push o1).push o2).push o3).objs.size]) := Heap.get?_push_of_some _ (Heap.get?_push_of_some _ (Heap.get?_push_size _ rfl))
  have g1 : (zzZ s.heap o1 o2 o3 o4).get? s.heap.objs.size = some o1 := (Heap.get?_push_of_some _ (Heap.get?_push_of_some _ (Heap.get?_push_of_some _ (Heap.get?_push_of_some _ (Heap.get?_push_of_some _ (Heap.get?_push_of_some _ (Heap.get?_push_size _ B1.free)))))))
  have g2 : (zzZ s.heap o1 o2 o3 o4).get? (s.heap.push o1).objs.size = some o2 := (Heap.get?_push_of_some _ (Heap.get?_push_of_some _ (Heap.get?_push_of_some _ (Heap.get?_push_of_some _ (Heap.get?_push_of_some _ (Heap.get?_push_size _ B2.free))))))
  have g3 : (zzZ s.heap o1 o2 o3 o4).get? ((s.heap.push o1).push o2).objs.size = some o3 := (Heap.get?_push_of_some _ (Heap.get?_push_of_some _ (Heap.get?_push_of_some _ (Heap.get?_push_of_some _ (Heap.get?_push_size _ B3.free)))))
  have g4 : (zzZ s.heap o1 o2 o3 o4).get? (((s.heap.push o1).push o2).push o3).objs.size = some o4 := (Heap.get?_push_of_some _ (Heap.get?_push_of_some _ (Heap.get?_push_of_some _ (Heap.get?_push_size _ B4.free))))
  rw [zO, zT, z4] at gZ
  rw [zT] at gO
  rw [z4, z3, z2, z1] at gT
  rw [z1] at g2
  rw [z2] at g3
  rw [z3] at g4
  show _ ∧ _
  rw [zO]
  exact ⟨⟨_, gZ, rfl⟩, h _ gZ gT gO g1 g2 g3 g4 zZ fun c o e => (Heap.get?_push_of_some _ (Heap.get?_push_of_some _ (Heap.get?_push_of_some _ (Heap.get?_push_of_some _ (Heap.get?_push_of_some _ (Heap.get?_push_of_some _ (Heap.get?_push_of_some _ e)))))))⟩
theorem zap_mk (N n : Nat) (ls : List Nat) (hl : ∀ L ∈ ls, L < N) : ZAp (N + n + 2) (N + n) (N + n + 1) ((List.range n).map (N + ·)) ls where
  nd := by
    unfold List.Nodup
    rw [List.pairwise_map]
    exact List.Pairwise.imp (fun h e => h (Nat.add_left_cancel e)) List.nodup_range
  zi := fun h => by
    obtain ⟨a, ha, e⟩ := List.mem_map.1 h
    have ha := List.mem_range.1 ha
    have e : N + a = N + n + 2 := e
    omega
  Ti := fun h => by
    obtain ⟨a, ha, e⟩ := List.mem_map.1 h
    have ha := List.mem_range.1 ha
    have e : N + a = N + n := e
    omega
  Oi := fun h => by
    obtain ⟨a, ha, e⟩ := List.mem_map.1 h
    have ha := List.mem_range.1 ha
    have e : N + a = N + n + 1 := e
    omega
  TIz := fun e => by have e : N + n = N + n + 2 := e; omega
  TOz := fun e => by have e : N + n + 1 = N + n + 2 := e; omega
  TITO := fun e => by have e : N + n = N + n + 1 := e; omega
  li := fun L hL h => by
    obtain ⟨a, ha, e⟩ := List.mem_map.1 h
    have q := hl L hL
    rw [← e] at q
    exact absurd q (Nat.not_lt.2 (Nat.le_add_right _ _))
  lz := fun L hL e => by
    have q := hl L hL
    rw [e] at q
    exact absurd q (Nat.not_lt.2 (by rw [Nat.add_assoc]; exact Nat.le_add_right _ _))
  lO := fun L hL e => by
    have q := hl L hL
    rw [e] at q
    exact absurd q (Nat.not_lt.2 (by rw [Nat.add_assoc]; exact Nat.le_add_right _ _))
/-- zip of two, three or four lists -/
theorem zipN_begins {ts : List Zt} {Q : Value → Shared → Prop} (hl : ∀ t ∈ ts, s.heap.IsList t.L t.xs) (h2 : 2 ≤ ts.length) (h4 : ts.length ≤ 4)
    (h : ∀ (z TI TO : Addr) (is : List Addr) (h' : Heap), s.heap.objs.size ≤ z → s.heap.objs.size ≤ TI → s.heap.objs.size ≤ TO → (∀ I ∈ is, s.heap.objs.size ≤ I) → is.length = ts.length → ZSt z TI TO is (ts.map (·.L)) 0 h' → ZAp z TI TO is (ts.map (·.L)) →
      (∀ c o, s.heap.get? c = some o → h'.get? c = some o) → Q (.ref z) { s with heap := h' }) :
    wpAny (model prog w) A (call (.type "zip") (ts.map fun t => .ref t.L)) Q E s := by
  have lt : ∀ t ∈ ts, t.L < s.heap.objs.size := fun t ht => by
    obtain ⟨o, ho, _⟩ := hl t ht
    exact Heap.lt_size ho
  match ts, h2, h4, hl, lt with
  | [a, b], _, _, hl, lt =>
    have la := lt a (by simp)
    have lb := lt b (by simp)
    refine zip_begins2 (begins_list a.L a.xs) (begins_list b.L b.xs) (hl a (by simp)) (hl b (by simp)) fun h' hz hTI hTO g1 g2 hsz hk => ?_
    refine h _ _ _ [s.heap.objs.size, s.heap.objs.size + 1] h' (Nat.le_add_right _ _) (Nat.le_add_right _ _) (Nat.le_add_right _ _) ?_ rfl ⟨⟨_, _, hz, .inl rfl⟩, hTI, ⟨[.none, .none], hTO, rfl⟩, fun k I L e1 e2 => ?_⟩ ?_ hk
    · intro I hI; obtain ⟨k, _, e⟩ := List.mem_map.1 (show I ∈ (List.range 2).map (s.heap.objs.size + ·) from hI); rw [← e]; exact Nat.le_add_right _ _
    · match k, e1, e2 with
      | 0, e1, e2 => cases e1; cases e2; exact ⟨_, g1, rfl, rfl⟩
      | 1, e1, e2 => cases e1; cases e2; exact ⟨_, g2, rfl, rfl⟩
    · exact zap_mk _ 2 _ fun L hL => by obtain ⟨t, ht, e⟩ := List.mem_map.1 hL; rw [← e]; exact lt t ht
  | [a, b, c], _, _, hl, lt =>
    have la := lt a (by simp)
    have lb := lt b (by simp)
    have lc := lt c (by simp)
    refine zip_begins3 (begins_list a.L a.xs) (begins_list b.L b.xs) (begins_list c.L c.xs) (hl a (by simp)) (hl b (by simp)) (hl c (by simp)) fun h' hz hTI hTO g1 g2 g3 hsz hk => ?_
    refine h _ _ _ [s.heap.objs.size, s.heap.objs.size + 1, s.heap.objs.size + 2] h' (Nat.le_add_right _ _) (Nat.le_add_right _ _) (Nat.le_add_right _ _) ?_ rfl ⟨⟨_, _, hz, .inl rfl⟩, hTI, ⟨[.none, .none, .none], hTO, rfl⟩, fun k I L e1 e2 => ?_⟩ ?_ hk
    · intro I hI; obtain ⟨k, _, e⟩ := List.mem_map.1 (show I ∈ (List.range 3).map (s.heap.objs.size + ·) from hI); rw [← e]; exact Nat.le_add_right _ _
    · match k, e1, e2 with
      | 0, e1, e2 => cases e1; cases e2; exact ⟨_, g1, rfl, rfl⟩
      | 1, e1, e2 => cases e1; cases e2; exact ⟨_, g2, rfl, rfl⟩
      | 2, e1, e2 => cases e1; cases e2; exact ⟨_, g3, rfl, rfl⟩
    · exact zap_mk _ 3 _ fun L hL => by obtain ⟨t, ht, e⟩ := List.mem_map.1 hL; rw [← e]; exact lt t ht
  | [a, b, c, d], _, _, hl, lt =>
    have la := lt a (by simp)
    have lb := lt b (by simp)
    have lc := lt c (by simp)
    have ld := lt d (by simp)
    refine zz_begins (begins_list a.L a.xs) (begins_list b.L b.xs) (begins_list c.L c.xs) (begins_list d.L d.xs) (hl a (by simp)) (hl b (by simp)) (hl c (by simp)) (hl d (by simp)) fun h' hz hTI hTO g1 g2 g3 g4 hsz hk => ?_
    refine h _ _ _ [s.heap.objs.size, s.heap.objs.size + 1, s.heap.objs.size + 2, s.heap.objs.size + 3] h' (Nat.le_add_right _ _) (Nat.le_add_right _ _) (Nat.le_add_right _ _) ?_ rfl ⟨⟨_, _, hz, .inl rfl⟩, hTI, ⟨[.none, .none, .none, .none], hTO, rfl⟩, fun k I L e1 e2 => ?_⟩ ?_ hk
    · intro I hI; obtain ⟨k, _, e⟩ := List.mem_map.1 (show I ∈ (List.range 4).map (s.heap.objs.size + ·) from hI); rw [← e]; exact Nat.le_add_right _ _
    · match k, e1, e2 with
      | 0, e1, e2 => cases e1; cases e2; exact ⟨_, g1, rfl, rfl⟩
      | 1, e1, e2 => cases e1; cases e2; exact ⟨_, g2, rfl, rfl⟩
      | 2, e1, e2 => cases e1; cases e2; exact ⟨_, g3, rfl, rfl⟩
      | 3, e1, e2 => cases e1; cases e2; exact ⟨_, g4, rfl, rfl⟩
    · exact zap_mk _ 4 _ fun L hL => by obtain ⟨t, ht, e⟩ := List.mem_map.1 hL; rw [← e]; exact lt t ht
end
end K17
end
section
set_option Elab.async false
set_option linter.all false
set_option maxRecDepth 100000
namespace K17
open PySem PySem.Spec PyProof.Rows L2
open Sem (wp)
/-- zip(*lists), each turn a new tuple -/
def ItzN (K : PySem.W.Frag) (ls : List Addr) : It :=
  ⟨fun i H => ∃ rows : List (List V), Rel2 (fun L xs => SqL K H L xs) ls rows ∧ ∀ xs ∈ rows, i < xs.length,
    fun i H v H' => ∃ T vs, v = .ref T ∧ H T = none ∧ H' = upd H T (.tup vs) ∧ ∀ rows, Rel2 (fun L xs => SqL K H L xs) ls rows → Rel2 (fun xs y => xs[i]? = some y) rows vs,
    fun i H => ∃ rows : List (List V), Rel2 (fun L xs => SqL K H L xs) ls rows ∧ rows ≠ [] ∧ ∀ xs ∈ rows, xs.length ≤ i⟩
section
variable {X : Cx} {pins : List (Addr × Obj)} {σ : L2.St} {H : Hp} {s : Shared}
theorem zts (I : Inv X pins σ H s) {i : Nat} : ∀ {ls : List Addr} {rows : List (List V)} {is : List Addr}, Rel2 (fun L xs => SqL X.K H L xs) ls rows → is.length = ls.length → (∀ xs ∈ rows, i < xs.length) →
    ∃ (ts : List Zt) (vs : List V), ts.map (·.I) = is ∧ ts.map (·.L) = ls ∧ (∀ t ∈ ts, s.heap.IsList t.L t.xs) ∧ (∀ t ∈ ts, t.xs[i]? = some t.x) ∧ Vals vs (ts.map (·.x)) ∧ Rel2 (fun xs y => xs[i]? = some y) rows vs := by
  intro ls rows is r
  induction r generalizing is with
  | nil =>
    intro hl _
    have : is = [] := List.length_eq_zero_iff.1 hl
    subst this
    exact ⟨[], [], rfl, rfl, by simp, by simp, .nil, .nil⟩
  | @cons L xs ls rows h t ih =>
    intro hl hi
    cases is with
    | nil => simp at hl
    | cons J is =>
      obtain ⟨ts, vs, e1, e2, h1, h2, h3, h4⟩ := ih (is := is) (by simpa using hl) fun xs hx => hi xs (by simp [hx])
      obtain ⟨its, rv, p, hz⟩ := I.list h
      have hlt : i < xs.length := hi xs (by simp)
      have hx : xs[i]? = some xs[i] := List.getElem?_eq_getElem hlt
      obtain ⟨u, hu, ru⟩ := rv.get hx
      refine ⟨⟨J, L, its.toArray, u⟩ :: ts, xs[i] :: vs, by simp [e1], by simp [e2], fun t ht => ?_, fun t ht => ?_, .cons ru h3, .cons hx h4⟩
      · rcases List.mem_cons.1 ht with rfl | ht
        · exact p.isList
        · exact h1 t ht
      · rcases List.mem_cons.1 ht with rfl | ht
        · simpa using hu
        · exact h2 t ht
end
theorem seqs_inj {X : Cx} {pins : List (Addr × Obj)} {σ : L2.St} {H : Hp} {s : Shared} (I : Inv X pins σ H s) : ∀ {ls : List Addr} {r1 r2 : List (List V)}, Rel2 (fun L xs => SqL X.K H L xs) ls r1 → Rel2 (fun L xs => SqL X.K H L xs) ls r2 → r1 = r2 := by
  intro ls r1 r2 a
  induction a generalizing r2 with
  | nil => intro b; cases b; rfl
  | cons h t ih => intro b; cases b with
    | cons h' t' => rw [I.list_inj h h', ih t']
theorem zst_keep {z TI TO : Addr} {is ls : List Addr} {i : Nat} {h h' : Heap} (st : ZSt z TI TO is ls i h) (k : ∀ b ∈ z :: TI :: TO :: is, ∀ o, h.get? b = some o → h'.get? b = some o) : ZSt z TI TO is ls i h' := by
  obtain ⟨⟨f0, f, hz, hf⟩, hTI, ⟨ks, hTO, hks⟩, hit⟩ := st
  refine ⟨⟨f0, f, k _ (by simp) _ hz, hf⟩, k _ (by simp) _ hTI, ⟨ks, k _ (by simp) _ hTO, hks⟩, fun n I L e1 e2 => (hit n I L e1 e2).at fun o q => k _ (by simp [List.mem_of_getElem? e1]) _ q⟩
theorem zt_of : ∀ {is ls : List Addr}, is.length = ls.length → ∃ ts : List Zt, ts.map (·.I) = is ∧ ts.map (·.L) = ls
  | [], [], _ => ⟨[], rfl, rfl⟩
  | [], _ :: _, h => by simp at h
  | _ :: _, [], h => by simp at h
  | a :: is, b :: ls, h => by
    obtain ⟨ts, e1, e2⟩ := zt_of (is := is) (ls := ls) (by simpa using h)
    exact ⟨⟨a, b, #[], .none⟩ :: ts, by simp [e1], by simp [e2]⟩
theorem turn_zipN {P : Program} {w : World} {K : PySem.W.Frag} {x : Str} {tpos : Pos} {z TI TO : Addr} {is ls : List Addr} (D : ZAp z TI TO is ls) (hl : is.length = ls.length) (hn : ls.length ≤ 100) (h0 : ls ≠ []) :
    Turn P w K (.Name x tpos) (ItzN K ls) (z :: TI :: TO :: is) z (ZSt z TI TO is ls) where
  mem := by simp
  obj := fun i h st c hc => by
    obtain ⟨⟨f0, f, hz, hf⟩, hTI, ⟨ks, hTO, hks⟩, hit⟩ := st
    simp only [List.mem_cons] at hc
    rcases hc with q | q | q | q
    · rw [q]; exact ⟨_, hz, fun v q => nomatch q⟩
    · rw [q]; exact ⟨_, hTI, fun v q => nomatch q⟩
    · rw [q]; exact ⟨_, hTO, fun v q => nomatch q⟩
    · obtain ⟨n, hn⟩ := List.getElem?_of_mem q
      have hlt : n < ls.length := by rw [← hl]; exact (List.getElem?_eq_some_iff.1 hn).1
      obtain ⟨o1, e1, _, d1⟩ := hit n c ls[n] hn (List.getElem?_eq_getElem hlt)
      exact ⟨o1, e1, fun v q => by rw [d1] at q; cases q⟩
  keep := fun i h h' st k => zst_keep st k
  item := by
    intro X hP hw hK hc i pins s σ H E I hf st hg
    subst hP hw hK
    obtain ⟨rows, hr, hlt⟩ := hg
    obtain ⟨ts, vs, e1, e2, t1, t2, t3, t4⟩ := zts I hr hl hlt
    subst e1 e2
    have hne : ts ≠ [] := by rintro rfl; exact h0 rfl
    have sz : ∀ b ∈ z :: TI :: TO :: ts.map (·.I), b < s.heap.objs.size := fun b hb => by
      obtain ⟨⟨f0, f, hz, _⟩, hTI, ⟨ks, hTO, _⟩, hit⟩ := st
      simp only [List.mem_cons] at hb
      rcases hb with q | q | q | q
      · rw [q]; exact Heap.lt_size hz
      · rw [q]; exact Heap.lt_size hTI
      · rw [q]; exact Heap.lt_size hTO
      · obtain ⟨n, hn⟩ := List.getElem?_of_mem q
        rw [List.getElem?_map] at hn
        cases e : ts[n]? with
        | none => rw [e] at hn; cases hn
        | some t =>
          rw [e] at hn
          cases hn
          obtain ⟨o1, e1, _⟩ := hit n t.I t.L (by rw [List.getElem?_map, e]; rfl) (by rw [List.getElem?_map, e]; rfl)
          exact Heap.lt_size e1
    refine pyNext_zipN D hne (by simpa using hn) st t1 t2 fun h' st' hT hsz hk => ?_
    refine ⟨_, rfl, wpAny_pure ?_⟩
    have new : ObjOk X.prog X.w (upd H s.heap.objs.size (.tup vs)) h' s.heap.objs.size (.tup vs) := by
      refine ⟨?_, ts.map (·.x), t3, ⟨_, hT, rfl, _, rfl⟩⟩
      have : (1000 : Nat) < sizeLine := by decide
      have := t3.length
      simp at this hn
      omega
    have I1 : Inv X pins σ (upd H s.heap.objs.size (.tup vs)) { s with heap := h' } :=
      I.turnedNew (t' := s.toks) (ch := z :: TI :: TO :: ts.map (·.I)) (fun c o hb q => hk c o (fun q' => hb (by simp [q'])) (fun q' => hb (by simp [q'])) (fun q' => hb (by simp only [List.mem_cons]; exact .inr (.inr (.inr q')))) q) hf (Nat.le_refl _) new
    refine ⟨.ref s.heap.objs.size, _, I1, rfl, ⟨_, vs, rfl, I.hok.fresh (Nat.le_refl _), rfl, fun r2 h2 => by rw [seqs_inj I h2 hr]; exact t4⟩, st', fun c hcm => ?_⟩
    rw [upd_ne (Nat.ne_of_lt (sz c hcm))]
    exact (hf c hcm).1
  done := by
    intro X hP hw hK hc i pins s σ H E I hf st hg
    subst hP hw hK
    obtain ⟨rows, hr, hne, hle⟩ := hg
    cases hr with
    | nil => exact absurd rfl hne
    | @cons L xs ls rows h t =>
      cases is with
      | nil => simp at hl
      | cons J is =>
        obtain ⟨its, rv, p, hz⟩ := I.list h
        have hlx : xs.length ≤ i := hle xs (by simp)
        have hv := rv.length
        obtain ⟨ts, e1, e2⟩ := zt_of (show is.length = ls.length by simpa using hl)
        subst e1 e2
        exact pyNext_zipN_end (t := ⟨J, L, its.toArray, .none⟩) (ts := ts) (I.ok.hd hc) D st p.isList (by simp; omega) fun h' hk => ⟨rfl, I.turnedL (t' := s.toks) (ch := z :: TI :: TO :: J :: ts.map (·.I)) (fun c o hb q =>
          hk c o (fun q' => hb (by simp [q'])) (fun q' => hb (by simp [q'])) (fun q' => hb (by simp only [List.mem_cons]; exact .inr (.inr (.inr (by simpa using q'))))) q) hf⟩
  self := fun A i s Q E st h => by
    obtain ⟨⟨f0, f, hz, hf⟩, _⟩ := st
    have hT : s.TypeIs (.ref z) "zip" := ⟨_, hz, rfl⟩
    refine wpAny_pyIter_slot hT F.slot_zip_iter (wpAny_call_entry F.slot_zip_iter hT F.entry_zip_iter ?_ (F.args_zip_iter_1 _))
    show wpAny _ _ (ret (.ref z)) _ _ s
    exact wpAny_pure ⟨_, rfl, "zip", _, hT, F.slot_zip_next.lookup, h⟩
section
variable {M : Model} {A : Around} {E : Value → Shared → Prop} {s : Shared}
theorem callWith_typeS {pos : Pos} {T : String} {args : List (Bool × Sem Value)} {Q : Value → Shared → Prop} (hst : args.any (·.1) = true)
    (h : wpAny M A (evalArgs (.type T) true args []) (fun a s₁ => wpAny M A (call (.type T) a.pos a.kw) Q E s₁) E s) :
    wpAny M A (callWith pos (.type T) [] args []) Q E s := by
  unfold callWith
  refine wpAny_bind (wpAny_holding (wpAny_mono h (fun a s₁ h₁ => wpAny_bind (wpAny_standAt ?_)) fun _ _ x => x))
  simp only [hst, Bool.true_or]
  refine wpAny_bind (wpAny_pure ?_)
  exact wpAny_bind (wpAny_mono (wpAny_operateT h₁) (fun r s₂ hr => wpAny_bind (wpAny_holding (wpAny_point (wpAny_pure hr)))) fun _ _ x => x)
end
def iZipN (K : PySem.W.Frag) (te : TE) : TI := fun σ H R => te σ H fun y H1 => ∃ (a : Addr) (ls : List Addr) (rows : List (List V)), y = .ref a ∧ SqL K H1 a (ls.map .ref) ∧ Rel2 (fun L xs => SqL K H1 L xs) ls rows ∧ 2 ≤ ls.length ∧ ls.length ≤ 4 ∧ R (ItzN K ls) H1
theorem pi_zipN {X : Cx} {e : Expr} {te : TE} {p pos tpos sp : Pos} {x : Str} (hg : Gl X "zip") (hm : X.mg "zip" = none) (he : PE X e te) (hs : starEach [.Starred e sp] X.env = [(true, eval e X.env)] := by rfl) :
    PI X (.Name x tpos) (.Call (.Name "zip" p) [.Starred e sp] [] pos) (iZipN X.K te) := by
  refine ⟨fun pins s σ H R I h => ?_⟩
  refine Call_ (ld_blt I hg hm PyProof.Rows.boot_zip ?_)
  show wpAny _ _ (callWith pos (.type "zip") [] (backTo pos (starEach [.Starred e sp] X.env)) []) _ _ _
  rw [hs]
  refine callWith_typeS rfl (PySem.W.ks_lone (thn (he.run pins s σ H _ I h) fun v s1 ⟨y, H1, I1, ry, a, ls, rows, ey, hx, hr, h2, h4, q⟩ => ?_))
  subst ey
  obtain rfl : v = Value.ref a := ry
  refine StX.star_any I1 (.inr hx) fun us s2 I2 rv => ?_
  have hus : us = ls.map .ref := by
    clear hx hr h2 h4 q
    induction ls generalizing us with
    | nil => cases rv; rfl
    | cons L ls ih => cases rv with
      | cons r rr =>
        obtain rfl := r
        rw [ih _ rr]; rfl
  subst hus
  have hr2 := hr
  obtain ⟨ts, e1, e2⟩ := zt_of (is := ls) (ls := ls) rfl
  obtain ⟨ts, t1, t2⟩ : ∃ ts : List Zt, ts.map (·.L) = ls ∧ ∀ t ∈ ts, s2.heap.IsList t.L t.xs := by
    clear e1 e2 ts h2 h4 hr2 rv hx q
    induction hr with
    | nil => exact ⟨[], rfl, by simp⟩
    | cons h t ih =>
      obtain ⟨ts, e, k⟩ := ih
      obtain ⟨its, rv, p, hz⟩ := I2.list h
      refine ⟨⟨0, _, its.toArray, .none⟩ :: ts, by rw [List.map_cons, e], fun t ht => ?_⟩
      rcases List.mem_cons.1 ht with rfl | ht
      · exact p.isList
      · exact k t ht
  subst t1
  rw [List.length_map] at h2 h4
  show wpAny _ _ (call (.type "zip") ((ts.map (·.L)).map .ref)) _ _ _
  rw [List.map_map]
  refine zipN_begins (ts := ts) t2 h2 h4 fun z TI TO is h' gz gT gO gi hl st ap hk => ?_
  have hpy : ∀ {Q : Value → Shared → Prop} {E : Value → Shared → Prop}, Q (.ref z) { s2 with heap := h' } → wpAny (model X.prog X.w) X.A (pyIter (.ref z)) Q E { s2 with heap := h' } := fun q =>
    (turn_zipN (P := X.prog) (w := X.w) (K := X.K) (x := x) (tpos := tpos) ap (by rw [hl, List.length_map]) (by rw [List.length_map]; omega) (by intro e; rw [List.map_eq_nil_iff] at e; rw [e] at h2; simp at h2)).self X.A 0 _ _ _ st q
  refine hpy ?_
  have I3 : Inv X pins σ H1 { s2 with heap := h' } := I2.kept (t' := s2.toks) hk
  refine ⟨z, z :: TI :: TO :: is, _, _, H1, rfl, I3, turn_zipN ap (by rw [hl, List.length_map]) (by rw [List.length_map]; omega) (by intro e; rw [List.map_eq_nil_iff] at e; rw [e] at h2; simp at h2), st, fun b hb => ?_, q⟩
  have hle : s2.heap.objs.size ≤ b := by
    simp only [List.mem_cons] at hb
    rcases hb with rfl | rfl | rfl | hb
    · exact gz
    · exact gT
    · exact gO
    · exact gi b hb
  exact I2.fpOk hle (I2.hok.fresh hle)
theorem walk_zipN {K : PySem.W.Frag} {ls : List Addr} {rows : List (List V)} {n : Nat} (h0 : ls ≠ []) (hn : ∀ xs ∈ rows, xs.length = n) : Walk (ItzN K ls) n (fun H => Rel2 (fun L xs => SqL K H L xs) ls rows)
    (fun i H v H' => ∃ T vs, v = .ref T ∧ H T = none ∧ H' = upd H T (.tup vs) ∧ Rel2 (fun xs y => xs[i]? = some y) rows vs) := by
  refine ⟨fun i H hi g => ⟨rows, g, fun xs hx => by rw [hn xs hx]; exact hi⟩, fun H g => ⟨rows, g, ?_, fun xs hx => by rw [hn xs hx]; exact Nat.le_refl _⟩, fun i H v H' _ g y => ?_⟩
  · rintro rfl
    cases g
    exact h0 rfl
  · obtain ⟨T, vs, h1, h2, h3, h4⟩ := y
    exact ⟨T, vs, h1, h2, h3, h4 rows g⟩
end K17
end
section
set_option Elab.async false
set_option linter.all false
set_option maxRecDepth 100000
namespace K17
open PySem PySem.Spec PyProof.Rows L2
/-! min of a list of triples of ints -/
abbrev T3 := Int × Int × Int
def t3V (t : T3) : List V := [.int t.1, .int t.2.1, .int t.2.2]
def t3D (t : T3) : PyData := .tuple [.int t.1, .int t.2.1, .int t.2.2]
def t3F (t : T3) : PySem.W.Tup Int := ⟨[t.1, t.2.1, t.2.2]⟩
def t3lt (t u : T3) : Prop := t.1 < u.1 ∨ (t.1 = u.1 ∧ (t.2.1 < u.2.1 ∨ (t.2.1 = u.2.1 ∧ t.2.2 < u.2.2)))
instance (t u : T3) : Decidable (t3lt t u) := by unfold t3lt; infer_instance
theorem t3_lt (t u : T3) : PySem.W.DatumOrd.lt (t3F t) (t3F u) = decide (t3lt t u) := by
  show PySem.W.listLt [t.1, t.2.1, t.2.2] [u.1, u.2.1, u.2.2] = _
  unfold t3lt
  simp only [PySem.W.listLt]
  by_cases h1 : t.1 = u.1
  · by_cases h2 : t.2.1 = u.2.1
    · by_cases h3 : t.2.2 = u.2.2
      · simp [h1, h2, h3]
      · simp only [h1, h2, h3, if_true, if_false]
        show decide (t.2.2 < u.2.2) = _
        simp
    · simp only [h1, h2, if_true, if_false]
      show decide (t.2.1 < u.2.1) = _
      simp
  · simp only [h1, if_false]
    show decide (t.1 < u.1) = _
    simp
def t3min (x : T3) (xs : List T3) : T3 := xs.foldl (fun a y => if t3lt y a then y else a) x
theorem t3_minOf (x : T3) (xs : List T3) : PySem.W.minOf (t3F x) (xs.map t3F) = t3F (t3min x xs) := by
  unfold PySem.W.minOf t3min
  induction xs generalizing x with
  | nil => rfl
  | cons y ys ih =>
    rw [List.map_cons, List.foldl_cons, List.foldl_cons, ← ih, t3_lt]
    congr 1
    by_cases h : t3lt y x <;> simp [h]
theorem t3min_spec : ∀ (xs : List T3) (x : T3), t3min x xs ∈ x :: xs ∧ ∀ y ∈ x :: xs, ¬ t3lt y (t3min x xs)
  | [], x => ⟨by simp [t3min], fun y hy => by simp at hy; subst hy; simp [t3min, t3lt]⟩
  | z :: xs, x => by
    have e : t3min x (z :: xs) = t3min (if t3lt z x then z else x) xs := rfl
    obtain ⟨h1, h2⟩ := t3min_spec xs (if t3lt z x then z else x)
    rw [e]
    generalize hm : t3min (if t3lt z x then z else x) xs = m at h1 h2
    have h0 := h2 _ (List.mem_cons_self)
    refine ⟨?_, fun y hy => ?_⟩
    · simp only [List.mem_cons] at h1 ⊢
      rcases h1 with h | h
      · split at h
        · exact .inr (.inl h)
        · exact .inl h
      · exact .inr (.inr h)
    · simp only [List.mem_cons] at hy
      rcases hy with rfl | rfl | hy
      · split at h0
        · unfold t3lt at *; omega
        · exact h0
      · split at h0
        · exact h0
        · unfold t3lt at *; omega
      · exact h2 y (by simp [hy])
def IsT3 (H : Hp) (t : T3) (y : V) : Prop := ∃ p, y = .ref p ∧ H p = some (.tup (t3V t))
theorem IsT3.same {H H' : Hp} {t : T3} {y : V} (h : IsT3 H t y) (s : Same H H') : IsT3 H' t y := by
  obtain ⟨a, e, q⟩ := h; exact ⟨a, e, s _ _ q⟩
theorem t3_dp {K : PySem.W.Frag} {H : Hp} {ts : List T3} {ys : List V} (h : Rel2 (IsT3 H) ts ys) : DpAll K H ys (ts.map t3D) := by
  induction h with
  | nil => exact .nil
  | cons r t ih =>
    obtain ⟨p, rfl, q⟩ := r
    exact .cons (.tup (.inl (.inl q)) (.cons (.int _) (.cons (.int _) (.cons (.int _) .nil)))) ih
section
variable {X : Cx}
def rMin3 (K : PySem.W.Frag) : List V → Hp → VK → Prop := fun vs H Q => ∃ (a : Addr) (ys : List V) (ts : List T3), vs = [V.ref a] ∧ SqL K H a ys ∧ Rel2 (IsT3 H) ts ys ∧ ts ≠ [] ∧
  ∀ p t, t ∈ ts → (∀ u ∈ ts, ¬ t3lt u t) → H p = some (.tup (t3V t)) → Q (.ref p) H
theorem cr_min3 (hc : X.calm = true) (hu : X.A.units + 64 < cLine) : CallR X (.builtin "min") (rMin3 X.K) := by
  intro pins s σ H vs us Q I r h
  obtain ⟨a, ys, ts, rfl, hs, hr, hne, q⟩ := h
  obtain ⟨its, rv, hl, _⟩ := I.list hs
  rw [Vals.ref1 r]
  cases ts with
  | nil => exact absurd rfl hne
  | cons x xs =>
    obtain ⟨as, hra⟩ := Dp.readsAll I _ _ _ (t3_dp hr) rv
    have HA : PySem.W.HoldAll s.heap its.toArray.toList ((x :: xs).map t3F) := ⟨as, by
      rw [List.map_map]
      exact hra⟩
    refine PySem.W.min_list_datum (I.ok.hd hc) hl.isList HA (by show _ + 1 + 1 < _; omega) fun i v h' tk hi Hh hk => ?_
    rw [t3_minOf] at Hh
    have I2 : Inv X pins σ H { s with heap := h', toks := tk } := I.kept (t' := tk) hk
    have hi' : its[i]? = some v := by simpa using hi
    obtain ⟨y, hy, ry⟩ : ∃ y, ys[i]? = some y ∧ RelV y v := by
      have hlt : i < ys.length := by rw [rv.length]; exact (List.getElem?_eq_some_iff.1 hi').1
      obtain ⟨u, hu, ru⟩ := rv.get (List.getElem?_eq_getElem hlt)
      rw [hi'] at hu; cases hu
      exact ⟨_, List.getElem?_eq_getElem hlt, ru⟩
    obtain ⟨t, ht, p, rfl, hp⟩ := hr.get' hy
    obtain rfl : v = Value.ref p := ry
    obtain ⟨h1, h2⟩ := t3min_spec xs x
    have et : t = t3min x xs := by
      obtain ⟨bs, hb⟩ := Hh
      obtain ⟨_, is, rv2, o1, g1, _, n1, g3⟩ := (show ObjOk X.prog X.w H h' p (.tup (t3V t)) from I2.hok p _ hp)
      generalize t3min x xs = m at hb
      obtain ⟨m1, m2, m3⟩ := m
      obtain ⟨t1, t2, t3⟩ := t
      replace hb : Reads h' (.ref p) (.tuple [.int m1, .int m2, .int m3]) bs := hb
      cases hb with
      | @tuple _ o ws n ds as g4 g5 g6 g7 =>
        rw [g1] at g4
        cases g4
        rw [g3] at g6
        injection g6 with e1 e2
        subst e1
        replace rv2 : Vals [.int t1, .int t2, .int t3] is := rv2
        replace g7 : ReadsAll h' is [.int m1, .int m2, .int m3] bs := g7
        cases rv2 with
        | cons r1 rv2 => cases rv2 with
          | cons r2 rv2 => cases rv2 with
            | cons r3 rv2 =>
              obtain ⟨k1, rfl⟩ := r1
              obtain ⟨k2, rfl⟩ := r2
              obtain ⟨k3, rfl⟩ := r3
              cases g7 with
              | cons q1 g7 => cases g7 with
                | cons q2 g7 => cases g7 with
                  | cons q3 g7 => cases q1; cases q2; cases q3; rfl
    subst et
    exact ⟨.ref p, H, I2, rfl, q p _ h1 h2 hp⟩
end
end K17
end
section
set_option Elab.async false
set_option linter.all false
set_option maxRecDepth 100000
namespace K17
open PySem PySem.Spec PyProof.Rows L2
section
variable {X : Cx}
/-- o[i], o a list, i a place in it -/
def tGetL (K : PySem.W.Frag) : V → V → Hp → VK → Prop := fun o i H Q => ∃ p xs j v, o = .ref p ∧ i = .int ((j : Nat) : Int) ∧ SqL K H p xs ∧ xs[j]? = some v ∧ Q v H
theorem get_list : PGet X (tGetL X.K) := by
  intro pins s σ H o i ov iv Q I ro ri h
  obtain ⟨p, xs, j, v, rfl, rfl, hq, he, q⟩ := h
  cases ro
  obtain ⟨t, rfl⟩ := ri
  obtain ⟨its, r, pl, hz⟩ := I.list hq
  obtain ⟨w, ew, rw'⟩ := r.get he
  have hl := r.length
  have hj := (List.getElem?_eq_some_iff.1 he).1
  have hn := line63
  exact wpAny_getItem_list pl.isList (by omega) (by omega) (by simpa using ew) ⟨v, H, I, rw', q⟩
theorem gL (K : PySem.W.Frag) (h : X.K = K := by rfl) : PGet X (tGetL K) := by subst h; exact get_list
end
end K17
end
section
set_option Elab.async false
set_option linter.all false
set_option maxRecDepth 100000
namespace K17
open PySem PySem.Spec PyProof.Rows L2
/-! slices -/
theorem cut_take (xs : List V) (k : Nat) : cutV xs none (some (k : Int)) = xs.take k := by
  unfold cutV
  rw [HT.sIx_none, HT.sIx_nat, List.drop_zero, Nat.sub_zero]
  rcases Nat.le_total k xs.length with h | h
  · rw [Nat.min_eq_left h]
  · rw [Nat.min_eq_right h, List.take_of_length_le (Nat.le_refl _), List.take_of_length_le h]
theorem cut_drop (xs : List V) (k : Nat) : cutV xs (some (k : Int)) none = xs.drop k := by
  unfold cutV
  rw [HT.sIx_none, HT.sIx_nat]
  rcases Nat.le_total k xs.length with h | h
  · rw [Nat.min_eq_left h, List.take_of_length_le (by rw [List.length_drop]; exact Nat.le_refl _)]
  · rw [Nat.min_eq_right h, List.drop_of_length_le (Nat.le_refl _), List.drop_of_length_le h]; simp
/-! lists of rows held against [] -/
theorem canAll_ints : ∀ (l : List Nat) (v : Nat → Int), PyData.canLayAll0 (l.map fun i => PyData.int (v i)) = true ∧ PyData.depthAll (l.map fun i => PyData.int (v i)) = 0
  | [], v => ⟨rfl, rfl⟩
  | a :: l, v => by
    obtain ⟨h1, h2⟩ := canAll_ints l v
    exact ⟨by simp only [List.map_cons, PyData.canLayAll0, PyData.canLay0, h1, Bool.and_self], by simp only [List.map_cons, PyData.depthAll, PyData.depth, h2]; rfl⟩
theorem dp_ints {K : PySem.W.Frag} {H : Hp} : ∀ (l : List Nat) (v : Nat → Int), DpAll K H (l.map fun i => V.int (v i)) (l.map fun i => PyData.int (v i))
  | [], v => .nil
  | a :: l, v => .cons (.int _) (dp_ints l v)
def rowD (w : Nat) (v : Nat → Int) : PyData := .list ((List.range w).map fun i => PyData.int (v i))
theorem dp_rows {K : PySem.W.Frag} {w : Nat} {H : Hp} {vs : List (Nat → Int)} {ys : List V} (h : RowsE K w H vs ys) :
    ∃ ds, DpAll K H ys ds ∧ PyData.canLayAll0 ds = true ∧ PyData.depthAll ds ≤ 1 ∧ ds.length = vs.length := by
  induction h with
  | nil => exact ⟨[], .nil, rfl, Nat.zero_le _, rfl⟩
  | @cons v y vs ys r t ih =>
    obtain ⟨ds, h1, h2, h3, h4⟩ := ih
    obtain ⟨a, rfl, q⟩ := r
    obtain ⟨c1, c2⟩ := canAll_ints (List.range w) v
    rcases q with q | q
    · exact ⟨.list ((List.range w).map fun i => PyData.int (v i)) :: ds, .cons (.lst q (dp_ints _ _)) h1, by simp only [PyData.canLayAll0, PyData.canLay0, c1, h2, Bool.and_self], by simp only [PyData.depthAll, PyData.depth, c2]; omega, by simp [h4]⟩
    · exact ⟨.tuple ((List.range w).map fun i => PyData.int (v i)) :: ds, .cons (.tup q (dp_ints _ _)) h1, by simp only [PyData.canLayAll0, PyData.canLay0, c1, h2, Bool.and_self], by simp only [PyData.depthAll, PyData.depth, c2]; omega, by simp [h4]⟩
theorem eqv_nil (ds : List PyData) : PyData.eqv (.list ds) (.list []) = decide (ds.length = 0) := by
  cases ds with
  | nil => simp [PyData.eqv, PyData.eqvAll]
  | cons => simp [PyData.eqv, PyData.eqvAll]
theorem rows_eqs {K : PySem.W.Frag} {H : Hp} {p o : Addr} {ys : List V} {n : Nat} {ds : List PyData} (h1 : DpAll K H ys ds) (h2 : PyData.canLayAll0 ds = true) (h3 : PyData.depthAll ds ≤ 1) (h4 : ds.length = n) (hp : SqL K H p ys) (ho : H o = some (.lst [])) :
    (∀ {Q : VK}, Q (.bl (!decide (n = 0))) H → rNeD K (.ref p) (.ref o) H Q) ∧ (∀ {Q : VK}, Q (.bl (decide (n = 0))) H → rEqD K (.ref p) (.ref o) H Q) := by
  have s1 : SeqAt.shaped (.list ds) = true := by
    unfold SeqAt.shaped
    rw [Bool.and_eq_true]
    exact ⟨by simp only [PyData.canLay0, h2], decide_eq_true (by simp only [PyData.depth]; omega)⟩
  refine ⟨fun {Q} q => ⟨_, _, .lst hp h1, .lst (.inl (.inl ho)) .nil, s1, rfl, ?_⟩, fun {Q} q => ⟨_, _, .lst hp h1, .lst (.inl (.inl ho)) .nil, s1, rfl, ?_⟩⟩
  · rw [eqv_nil, h4]; exact q
  · rw [eqv_nil, h4]; exact q
theorem rows_ne {K : PySem.W.Frag} {w : Nat} {H : Hp} {p o : Addr} {vs : List (Nat → Int)} {ys : List V} (h : RowsE K w H vs ys) (hp : SqL K H p ys) (ho : H o = some (.lst [])) {Q : VK} (q : Q (.bl (!decide (vs.length = 0))) H) : rNeD K (.ref p) (.ref o) H Q := by
  obtain ⟨ds, h1, h2, h3, h4⟩ := dp_rows h
  exact (rows_eqs h1 h2 h3 h4 hp ho).1 q
theorem rows_eq {K : PySem.W.Frag} {w : Nat} {H : Hp} {p o : Addr} {vs : List (Nat → Int)} {ys : List V} (h : RowsE K w H vs ys) (hp : SqL K H p ys) (ho : H o = some (.lst [])) {Q : VK} (q : Q (.bl (decide (vs.length = 0))) H) : rEqD K (.ref p) (.ref o) H Q := by
  obtain ⟨ds, h1, h2, h3, h4⟩ := dp_rows h
  exact (rows_eqs h1 h2 h3 h4 hp ho).2 q
/-! what form_of's numbers must keep to -/
inductive EuOk (w c : Nat) : List Vec → Prop
  | done {hs : List Vec} (h : ¬ 1 < hs.length) : EuOk w c hs
  | more {hs : List Vec} (h : 1 < hs.length) (d : DivFit (euHead c hs c)) (m : ∀ v ∈ hs, ∀ i, i < w → MulFit ((v c).fdiv (euHead c hs c)) (euHead c hs i)) (t : EuOk w c (euH c hs)) : EuOk w c hs
def HeadOk (w c : Nat) (hd : Vec) (found : List Vec) : Prop := DivFit (hd c) ∧ ∀ v ∈ found, ∀ i, i < w → MulFit ((v c).fdiv (hd c)) (hd i)
def FormOk (w : Nat) (rows : List Vec) : Prop := ∀ c, c < w → EuOk w c ((formUp rows c).1.filter fun v => v c ≠ 0) ∧
  ((colRun c (formUp rows c).1).1 ≠ [] → HeadOk w c (signed c (row (colRun c (formUp rows c).1).1 0)) (formUp rows c).2)
theorem rows_get {w : Nat} {H : Hp} {vs : List (Nat → Int)} {ys : List V} (h : Rows w H vs ys) {i : Nat} (hi : i < vs.length) : ∃ a, ys[i]? = some (.ref a) ∧ H a = some (.lst (vI w (row vs i))) := by
  obtain ⟨b, hb, a, rfl, q⟩ := h.get (List.getElem?_eq_getElem hi)
  refine ⟨a, hb, ?_⟩
  have : row vs i = vs[i] := by unfold row; rw [List.getD_eq_getElem?_getD, List.getElem?_eq_getElem hi]; rfl
  rw [this]; exact q
theorem eu_len {c : Nat} {hs rs : List Vec} (h : 1 < hs.length) : (euH c hs).length + (euR c hs rs).length = hs.length + rs.length := by
  have hne : hs ≠ [] := by rintro rfl; simp at h
  obtain ⟨h1, _, _⟩ := amin_spec (absAt c) hne
  have e : ∀ l : List Vec, (l.filter fun v => v c ≠ 0).length + (l.filter fun v => v c = 0).length = l.length := by
    intro l
    induction l with
    | nil => rfl
    | cons v l ih => by_cases hv : v c = 0 <;> simp [hv] at ih ⊢ <;> omega
  have e2 := e (euTold c hs)
  unfold euH euR
  rw [List.length_cons, List.length_append]
  have e3 : (euTold c hs).length = hs.length - 1 := by
    unfold euTold
    rw [List.length_map, List.length_eraseIdx]
    split <;> omega
  omega
theorem euRun_len2 {c : Nat} : ∀ hs rs : List Vec, (euRun c hs rs).1.length + (euRun c hs rs).2.length = hs.length + rs.length := by
  intro hs rs
  induction hs, rs using euRun.induct c with
  | case1 hs rs h ih => rw [euRun, dif_pos h, ih, eu_len h.1]
  | case2 hs rs h => rw [euRun, dif_neg h]
theorem filt_len {c : Nat} (l : List Vec) : (l.filter fun v => v c ≠ 0).length + (l.filter fun v => v c = 0).length = l.length := by
  induction l with
  | nil => rfl
  | cons v l ih => by_cases hv : v c = 0 <;> simp [hv] at ih ⊢ <;> omega
theorem formUp_nil : ∀ c, formUp [] c = ([], [])
  | 0 => rfl
  | c + 1 => by
    show colStep c (formUp [] c) = _
    rw [formUp_nil c]
    unfold colStep colRun
    rw [show (([], []) : List Vec × List Vec).1 = [] from rfl, List.filter_nil, List.filter_nil, euRun_done (by simp)]
    rfl
theorem joinE {te : TE} {σ : L2.St} {H : Hp} {Q : VK} (R : V → Hp → Prop) (h : ∀ Q' : VK, (∀ v H', R v H' → Q' v H') → te σ H Q') (k : ∀ v H', R v H' → Q v H') : te σ H Q := h Q k
theorem joinS {t u : TS} {D : Ends} {σ : L2.St} {H : Hp} (R : L2.St → Hp → Prop) (h : ∀ nx' : L2.St → Hp → Prop, (∀ σ' H', R σ' H' → nx' σ' H') → t { D with nx := nx' } σ H) (k : ∀ σ' H', R σ' H' → u D σ' H') : tSeq t u D σ H := h (u D) k
abbrev hd2 (r m : Addr) (H : Hp) : Hp := hide m (hide r H)
section
variable {r m p : Addr} {H H' : Hp} {o : HO}
theorem hd2_some (h : hd2 r m H p = some o) : p ≠ r ∧ p ≠ m ∧ H p = some o := by
  obtain ⟨h1, h2⟩ := hide_some h
  obtain ⟨h3, h4⟩ := hide_some h2
  exact ⟨h3, h1, h4⟩
theorem hd2_get (h1 : p ≠ r) (h2 : p ≠ m) : hd2 r m H p = H p := by
  show hide m (hide r H) p = _
  rw [hide_ne h2, hide_ne h1]
theorem hd2_sub : Same (hd2 r m H) H := fun b o h => (hd2_some h).2.2
theorem hd2_same (s : Same H H') : Same (hd2 r m H) (hd2 r m H') := same_hide (same_hide s)
theorem hd2_updr : Same (hd2 r m H) (hd2 r m (upd H r o)) := same_hide same_hide_upd2
theorem hd2_updm : Same (hd2 r m H) (hd2 r m (upd H m o)) := fun b x e => by
  obtain ⟨h1, h2, h3⟩ := hd2_some e
  rw [hd2_get h1 h2, upd_ne h2]; exact h3
end
theorem same_hd2 {r m : Addr} {H H' : Hp} (s : Same H H') (n : H m = none) : Same (hide r H) (hd2 r m H') := fun b x e => by
  obtain ⟨h1, h2⟩ := hide_some e
  rw [hd2_get h1 (ne_of_none h2 n)]; exact s _ _ h2
theorem amin_val {c : Nat} {hs : List Vec} (h : hs ≠ []) {m : Int} (hm : m ∈ hs.map fun v => ((absAt c v : Nat) : Int)) (hle : ∀ y ∈ hs.map (fun v => ((absAt c v : Nat) : Int)), m ≤ y) : m = ((absAt c (euHead c hs) : Nat) : Int) := by
  obtain ⟨h1, h2, _⟩ := amin_spec (absAt c) h
  obtain ⟨v, hv, rfl⟩ := List.mem_map.1 hm
  have a := h2 v hv
  have b := hle _ (List.mem_map.2 ⟨_, euHead_mem (c := c) h, rfl⟩)
  unfold euHead at *
  omega
section
variable {P : Program} {w : World} {K : PySem.W.Frag} {mg : Str → Option Value} {base : Heap}
abbrev nForm : List Str := ["rows", "row", "left", "found", "column", "heads", "rest", "least", "place", "head", "more", "told", "entry"]
theorem scForm : FnScope nForm ["rows"] (defScope (topS 16)) := ⟨rfl, rfl, rfl, by decide +kernel, rfl, by decide +kernel, by decide +kernel⟩
def spForm (K : PySem.W.Frag) : L2.Sp := fun vs H Q _ => ∃ (w : Nat) (a : Addr) (rows : List (Nat → Int)) (ys : List V), vs = [.ref a] ∧ SqL K H a ys ∧ RowsE K w H rows ys ∧ rows.length ≤ 8 ∧ w ≤ 8 ∧ FormOk w rows ∧
  ∀ H' p zs, Same H H' → H p = none → H' p = some (.lst zs) → Rows w H' (formF w rows) zs → Q (.ref p) H'
set_option maxHeartbeats 4000000 in
theorem ok_form {f : Addr} {fd : FuncData} {k : Nat} (F : Fun K "form_of" "form_of" (topS 16) f fd) (C : Cal P w K mg base k "less" ["row", "other", "factor"] (spLess K))
    (mr : mg "range" = none) (ml : mg "len" = none) (mm : mg "min" = none) (mli : mg "list" = none) (mab : mg "abs" = none) : FnOk P w K mg base CX0 (k + 1) f fd ["rows"] (spForm K) := by
  obtain ⟨f1, fd1, G1, g1, k1, b1⟩ := C
  refine F.ok scForm (fun vs H Q E h => ?_) (fun cdv A outer s H vs Q E hr h => ?_)
  · obtain ⟨n, a, rows, ys, rfl, _⟩ := h
    rfl
  · obtain ⟨n, a, rows, ys, rfl, hA, hR, hn, hw, hok, q⟩ := h
    have nd := scForm.nd
    refine ⟨_, pss_cons (ps_par (i := 2) (j := 3) rfl nd rfl rfl (by decide) rfl rfl (pa_cons (pe_lc (own := [("row", 1)]) (g := gName 1) (tt := tYes) rfl nd (pi_list (pv 0)) (blkOk_by (N := nForm) (sc := defScope (topS 16)) (by decide +kernel))
          (fun _ _ _ _ _ => pg_name (i := 1) nd rfl (Or.inl rfl)) (fun _ _ _ _ _ => pts_nil) (fun _ _ _ _ _ => pe_callTy (cLst K) (by rfl) mli PyProof.Rows.boot_list (pa_cons (pv 1) pa_nil))) (pa_cons (pe_lst pa_nil) pa_nil)) rfl)
      (pss_cons (ps_for PassesOwn.never rfl (pi_range1 (by rfl) mr (pa_cons (pe_ifExp (pt_cmpR (op_neD hr.units) (pv 0) (pe_lst pa_nil) (nomark _)) (pe_callB (cLen K) (by rfl) ml PySem.boot_len (pa_cons (pe_ix (iL K) (pv 0) pe_int (fun _ _ => rfl)) pa_nil)) pe_int) pa_nil)) (pg_name (i := 4) nd rfl (.inr rfl))
        (pss_cons (ps_setLc (i := 5) (own := [("row", 1)]) (g := gName 1) rfl nd rfl rfl (sw_true rfl rfl rfl (by decide +kernel)) (pi_list (pv 2)) (blkOk_by (N := nForm) (sc := defScope (topS 16)) (by decide +kernel))
          (fun _ _ _ _ _ => pg_name (i := 1) nd rfl (Or.inl rfl)) (fun _ _ _ _ _ => pts_one (pt_cmpR op_ne (pe_ix (iL K) (pv 1) (pv 4) (fun _ _ => rfl)) pe_int (nomark _))) (fun _ _ _ _ _ => pv 1))
        (pss_cons (ps_setLc (i := 6) (own := [("row", 1)]) (g := gName 1) rfl nd rfl rfl (sw_true rfl rfl rfl (by decide +kernel)) (pi_list (pv 2)) (blkOk_by (N := nForm) (sc := defScope (topS 16)) (by decide +kernel))
          (fun _ _ _ _ _ => pg_name (i := 1) nd rfl (Or.inl rfl)) (fun _ _ _ _ _ => pts_one (pt_cmpR op_eq (pe_ix (iL K) (pv 1) (pv 4) (fun _ _ => rfl)) pe_int (nomark _))) (fun _ _ _ _ _ => pv 1))
        (pss_cons (ps_while PassesOwn.never (pt_cmpR op_gt (pe_callB (cLen K) (by rfl) ml PySem.boot_len (pa_cons (pv 5) pa_nil)) pe_int (nomark _))
          (pss_cons (ps_set (i := 7) nd rfl (.inl rfl) (pe_callB (cr_min rfl) (by rfl) mm PyProof.Rows.boot_min (pa_cons (pe_lc (own := [("row", 1)]) (g := gName 1) (tt := tYes) rfl nd (pi_list (pv 5)) (blkOk_by (N := nForm) (sc := defScope (topS 16)) (by decide +kernel))
            (fun _ _ _ _ _ => pg_name (i := 1) nd rfl (Or.inl rfl)) (fun _ _ _ _ _ => pts_nil) (fun _ _ _ _ _ => pe_callB call_abs (by rfl) mab PyProof.Rows.boot_abs (pa_cons (pe_ix (iL K) (pv 1) (pv 4) (fun _ _ => rfl)) pa_nil))) pa_nil)))
          (pss_cons (ps_set (i := 8) nd rfl (.inl rfl) (pe_bm PySem.F.plainAttrs_list PySem.F.slot_list_index PySem.F.type_list_index mt_index (pe_lc (own := [("row", 1)]) (g := gName 1) (tt := tYes) rfl nd (pi_list (pv 5)) (blkOk_by (N := nForm) (sc := defScope (topS 16)) (by decide +kernel))
            (fun _ _ _ _ _ => pg_name (i := 1) nd rfl (Or.inl rfl)) (fun _ _ _ _ _ => pts_nil) (fun _ _ _ _ _ => pe_callB call_abs (by rfl) mab PyProof.Rows.boot_abs (pa_cons (pe_ix (iL K) (pv 1) (pv 4) (fun _ _ => rfl)) pa_nil))) (pa_cons (pv 7) pa_nil)))
          (pss_cons (ps_asg (pe_tup (pa_cons (pe_ix (iL K) (pv 5) (pv 8) (fun _ _ => rfl)) (pa_cons (pe_lst pa_nil) pa_nil))) (pg_tup rfl (pgs_cons (pg_name (i := 9) nd rfl (.inr rfl)) (pgs_cons (pg_name (i := 10) nd rfl (.inl rfl)) pgs_nil))))
          (pss_cons (ps_for PassesOwn.never rfl (pi_list (pe_op op_cat (pe_slice sl_list (pv 5) po_none (po_some (pv 8))) (pe_slice sl_list (pv 5) (po_some (pe_op op_add (pv 8) pe_int)) po_none))) (pg_name (i := 1) nd rfl (.inl rfl))
            (pss_cons (ps_set (i := 11) nd rfl (.inl rfl) (pe_call G1 hr (by rfl) g1 k1 b1 .nil pass0 (pa_cons (pv 1) (pa_cons (pv 9) (pa_cons (pe_op op_fdivX (pe_ix (iL K) (pv 1) (pv 4) (fun _ _ => rfl)) (pe_ix (iL K) (pv 9) (pv 4) (fun _ _ => rfl))) pa_nil)))))
            (pss_one (ps_if (pt_cmpR op_ne (pe_ix (iL K) (pv 11) (pv 4) (fun _ _ => rfl)) pe_int (nomark _))
              (pss_one (ps_expr (pe_bm PySem.F.plainAttrs_list PySem.F.slot_list_append PySem.F.type_list_append mt_append (pv 10) (pa_cons (pv 11) pa_nil))))
              (pss_one (ps_expr (pe_bm PySem.F.plainAttrs_list PySem.F.slot_list_append PySem.F.type_list_append mt_append (pv 6) (pa_cons (pv 11) pa_nil))))))))
          (pss_one (ps_set (i := 5) nd rfl (.inl rfl) (pe_op op_cat (pe_lst (pa_cons (pv 9) pa_nil)) (pv 10)))))))))
        (pss_cons (ps_if (pt_cmpR (op_neD hr.units) (pv 5) (pe_lst pa_nil) (nomark _))
          (pss_cons (ps_set (i := 9) nd rfl (.inr rfl) (pe_ifExp (pt_cmpR op_gt (pe_ix (iL K) (pe_ix (iL K) (pv 5) pe_int (fun _ _ => rfl)) (pv 4) (fun _ _ => rfl)) pe_int (nomark _)) (pe_ix (iL K) (pv 5) pe_int (fun _ _ => rfl))
            (pe_lc (own := [("entry", 12)]) (g := gName 12) (tt := tYes) rfl nd (pi_list (pe_ix (iL K) (pv 5) pe_int (fun _ _ => rfl))) (blkOk_by (N := nForm) (sc := defScope (topS 16)) (by decide +kernel))
              (fun _ _ _ _ _ => pg_name (i := 12) nd rfl (Or.inl rfl)) (fun _ _ _ _ _ => pts_nil) (fun _ _ _ _ _ => pe_un un_neg (pv 12)))))
          (pss_cons (ps_setLc (i := 3) (own := [("row", 1)]) (g := gName 1) (tt := tYes) rfl nd rfl rfl (sw_true rfl rfl rfl (by decide +kernel)) (pi_list (pv 3)) (blkOk_by (N := nForm) (sc := defScope (topS 16)) (by decide +kernel))
            (fun _ _ _ _ _ => pg_name (i := 1) nd rfl (Or.inl rfl)) (fun _ _ _ _ _ => pts_nil) (fun _ _ _ _ _ => pe_call G1 hr (by rfl) g1 k1 b1 .nil pass0 (pa_cons (pv 1) (pa_cons (pv 9) (pa_cons (pe_op op_fdivX (pe_ix (iL K) (pv 1) (pv 4) (fun _ _ => rfl)) (pe_ix (iL K) (pv 9) (pv 4) (fun _ _ => rfl))) pa_nil)))))
          (pss_one (ps_expr (pe_bm PySem.F.plainAttrs_list PySem.F.slot_list_append PySem.F.type_list_append mt_append (pv 3) (pa_cons (pv 9) pa_nil)))))) pss_nil)
        (pss_one (ps_set (i := 2) nd rfl (.inl rfl) (pv 6))))))))
      (pss_one (ps_ret (pv 3)))), ?_⟩
    -- left, found
    refine ⟨_, rfl, a, rfl, ⟨_, hA⟩, fun D hD => ?_⟩
    refine lc_map (zs := rows) (by rw [hR.len]; exact walk_list (xs := ys)) (fun r y H => IsRow n H r y) (fun _ _ _ _ q s => q.same s) hD (by omega) (fun _ s => s.seq hA) (fun i z x H1 H2 Qb hz s1 hacc y qb => ?_) (fun H1 ls s1 e1 r1 => ?_)
    · obtain ⟨rfl, hy⟩ := y
      obtain ⟨b, hb, c, rfl, hc⟩ := hR.get hz
      cases Option.some.inj (hy.symm.trans hb)
      obtain ⟨acc, hacc⟩ := hacc
      refine ⟨rfl, _, rfl, c, _, rfl, hc.imp (fun hc => s1.seq hc) (fun hc => same_seqT s1 hc), fun l hl => ?_⟩
      have nD : l ≠ D := fun e => by rw [e, hacc] at hl; cases hl
      refine qb _ _ (same_new hl) ⟨l, rfl, ?_⟩
      rw [hide_ne nD, upd_same]
    refine ⟨Nat.zero_le _, fun o no => ⟨_, _, rfl, ?_⟩⟩
    have hD : H D = none := hD
    have no1 : H o = none := s1.free no
    have s2 : Same H (upd H1 o (.lst [])) := s1.trans (same_new no)
    have hDo : D ≠ o := ne_of_none e1 no
    have eD : upd H1 o (.lst []) D = some (.lst ls) := by rw [upd_ne hDo]; exact e1
    have rD : Rows n (upd H1 o (.lst [])) rows ls := r1.imp fun _ _ q => (q.same hide_sub).same (same_new no)
    generalize hH2 : upd H1 o (.lst []) = H2 at s2 eD rD
    have eo : H2 o = some (.lst []) := by rw [← hH2, upd_same]
    clear hH2 r1 e1 s1
    refine ⟨_, rfl, Nat.zero_le _, fun o2 no2 => ?_⟩
    have s3 : Same H (upd H2 o2 (.lst [])) := s2.trans (same_new no2)
    have eD3 : upd H2 o2 (.lst []) D = some (.lst ls) := by rw [upd_ne (ne_of_none eD no2)]; exact eD
    have eo3 : upd H2 o2 (.lst []) o = some (.lst []) := by rw [upd_ne (ne_of_none eo no2)]; exact eo
    have rD3 := rows_same rD (same_new (o := .lst []) no2)
    refine rows_ne (rowsE_same hR s3) (s3.seq hA) upd_same ?_
    generalize upd H2 o2 (.lst []) = H3 at s3 eD3 eo3 rD3
    clear s2 eD rD eo no2
    refine ⟨_, rfl, ?_⟩
    by_cases hz : rows.length = 0
    · refine itF (by rw [hz]; rfl) ⟨0, rfl, by decide, by decide, ?_⟩
      refine for_it (walk_rng (n := 0)) (fun i σ H' => H' = H3 ∧ ∃ y1 y4 y5 y6 y7 y8 y9 y10 y11, σ = [some (.ref a), y1, some (.ref D), some (.ref o), y4, y5, y6, y7, y8, y9, y10, y11, none]) ⟨rfl, _, _, _, _, _, _, _, _, _, rfl⟩ (fun _ _ _ _ _ => trivial) (fun i x σ H4 H5 hi => absurd hi (by simp)) (fun σ H' p => ?_)
      obtain ⟨rfl, y1, y4, y5, y6, y7, y8, y9, y10, y11, rfl⟩ := p
      refine ⟨_, rfl, q _ o _ s3 no1 eo3 ?_⟩
      have : rows = [] := List.length_eq_zero_iff.1 hz
      subst this
      unfold formF; rw [formUp_nil]; exact .nil
    · refine itT (by simp [hz]) ?_
      obtain ⟨y0, hy0, a0, rfl, hq0⟩ := hR.get (i := 0) (List.getElem?_eq_getElem (by omega))
      refine ⟨_, rfl, a, _, 0, _, rfl, rfl, s3.seq hA, atI_nat (j := 0) hy0, a0, _, rfl, hq0.imp (fun h => s3.seq h) (fun h => same_seqT s3 h), _, rfl, by rw [vI_len]; omega, by rw [vI_len]; omega, ?_⟩
      rw [vI_len]
      refine for_it (walk_rng (n := n)) (fun c σ H' => Same H H' ∧ ∃ (pl pf : Addr) (lv fv : List V) (y1 y4 y5 y6 y7 y8 y9 y10 y11 : Option V), σ = [some (.ref a), y1, some (.ref pl), some (.ref pf), y4, y5, y6, y7, y8, y9, y10, y11, none] ∧
        H pf = none ∧ H' pl = some (.lst lv) ∧ Rows n H' (formUp rows c).1 lv ∧ H' pf = some (.lst fv) ∧ Rows n H' (formUp rows c).2 fv) ⟨s3, D, o, ls, [], _, _, _, _, _, _, _, _, _, rfl, no1, eD3, rD3, eo3, .nil⟩ (fun _ _ _ _ _ => trivial) (fun c x σ H4 H5 hc p y => ?_) (fun σ H' p => ?_)
      · obtain ⟨sH, pl, pf, lv, fv, y1, y4, y5, y6, y7, y8, y9, y10, y11, rfl, nf, el, rl, ef, rf⟩ := p
        obtain ⟨rfl, rfl⟩ := y
        rw [List.length_range] at hc
        obtain ⟨hev, hhd⟩ := hok c hc
        have hlen := formUp_len rows c
        generalize hL : (formUp rows c).1 = left at *
        generalize hF : (formUp rows c).2 = found at *
        -- heads
        refine ⟨_, rfl, pl, rfl, ⟨_, .inl (.inl el)⟩, fun q0 nq => ?_⟩
        refine lc_flt (zs := left) (by rw [rl.len]; exact walk_list (xs := lv)) (fun v => decide (v c ≠ 0)) (fun v y H => IsRow n H v y) (fun _ _ _ _ q s => q.same s) nq (by omega) (fun _ s => s.seq (.inl (.inl el))) (fun i z x G1 G2 Qb Qn hz s1 hacc y qb qn => ?_) (fun G1 hv s1 e1 r1 => ?_)
        · obtain ⟨rfl, hy⟩ := y
          obtain ⟨b, hb, p, rfl, hp⟩ := rl.get hz
          cases Option.some.inj (hy.symm.trans hb)
          obtain ⟨acc, hacc⟩ := hacc
          have np : p ≠ q0 := ne_of_none hp nq
          refine ⟨rfl, _, rfl, _, rfl, p, _, _, _, rfl, rfl, .inl (.inl (s1 _ _ hp)), vI_at hc, rfl, _, rfl, ?_⟩
          by_cases e : z c = 0
          · exact itF (by simp [e]) (qn _ (by simp [e]) (Same.refl _))
          · exact itT (by simp [e]) ⟨_, rfl, qb _ _ (by simp [e]) (Same.refl _) ⟨p, rfl, by rw [hide_ne np]; exact s1 _ _ hp⟩⟩
        have r1 : Rows n G1 (left.filter fun v => v c ≠ 0) hv := r1.imp fun _ _ q => q.same hide_sub
        have el1 := s1 _ _ el
        have rl1 := rows_same rl s1
        -- rest
        refine ⟨_, rfl, pl, rfl, ⟨_, .inl (.inl el1)⟩, fun r nr => ?_⟩
        refine lc_flt (zs := left) (by rw [rl.len]; exact walk_list (xs := lv)) (fun v => decide (v c = 0)) (fun v y H => IsRow n H v y) (fun _ _ _ _ q s => q.same s) nr (by omega) (fun _ s => s.seq (.inl (.inl el1))) (fun i z x G1 G2 Qb Qn hz s1 hacc y qb qn => ?_) (fun G2 rv s2 e2 r2 => ?_)
        · obtain ⟨rfl, hy⟩ := y
          obtain ⟨b, hb, p, rfl, hp⟩ := rl1.get hz
          cases Option.some.inj (hy.symm.trans hb)
          obtain ⟨acc, hacc⟩ := hacc
          have np : p ≠ r := ne_of_none hp nr
          refine ⟨rfl, _, rfl, _, rfl, p, _, _, _, rfl, rfl, .inl (.inl (s1 _ _ hp)), vI_at hc, rfl, _, rfl, ?_⟩
          by_cases e : z c = 0
          · exact itT (by simp [e]) ⟨_, rfl, qb _ _ (by simp [e]) (Same.refl _) ⟨p, rfl, by rw [hide_ne np]; exact s1 _ _ hp⟩⟩
          · exact itF (by simp [e]) (qn _ (by simp [e]) (Same.refl _))
        have sB : Same G1 (hide r G2) := same_to_hide s2 nr
        have nrH : H5 r = none := s1.free nr
        have hq0 : hide r G2 q0 = some (.lst hv) := sB _ _ e1
        have r1 := rows_same r1 sB
        have sHb : Same H5 (hide r G2) := s1.trans sB
        -- while
        have hne0 : ∀ v ∈ left.filter (fun v => v c ≠ 0), v c ≠ 0 := fun v hv => by simpa using (List.mem_filter.mp hv).2
        refine ⟨fun mu σ H' => ∃ (qa : Addr) (hsV rsV : List V) (hs rs : List Vec) (z1 z7 z8 z9 z10 z11 : Option V), σ = [some (.ref a), z1, some (.ref pl), some (.ref pf), some (.int (c : Nat)), some (.ref qa), some (.ref r), z7, z8, z9, z10, z11, none] ∧ mu = sumA (absAt c) hs ∧
          Same H5 (hide r H') ∧ hide r H' qa = some (.lst hsV) ∧ Rows n (hide r H') hs hsV ∧ H' r = some (.lst rsV) ∧ Rows n (hide r H') rs rsV ∧ (∀ v ∈ hs, v c ≠ 0) ∧ EuOk n c hs ∧ euRun c hs rs = colRun c left ∧ hs.length + rs.length ≤ 8,
          ⟨_, q0, hv, rv, _, _, _, _, _, _, _, _, rfl, rfl, sHb, hq0, r1, e2, r2, hne0, hev, rfl, by rw [filt_len]; omega⟩, fun mu σ H' hW => ?_⟩
        obtain ⟨qa, hsV, rsV, hs, rs, z1, z7, z8, z9, z10, z11, rfl, rfl, s3, eq, rh, er, rr, hnz, hEu, hrun, hl8⟩ := hW
        have nqr : qa ≠ r := (hide_some eq).1
        have eq' := (hide_some eq).2
        refine ⟨_, rfl, qa, _, rfl, .inl (.inl (.inl eq')), _, _, rfl, rfl, _, rfl, ?_⟩
        rw [← rh.len]
        by_cases h1 : 1 < hs.length
        · refine itT (decide_eq_true (by omega)) ?_
          cases hEu with
          | done h => exact absurd h1 h
          | more _ hdv hml hEu =>
          have hsne : hs ≠ [] := by rintro rfl; simp at h1
          obtain ⟨a1, a2, a3⟩ := amin_spec (absAt c) hsne
          have hll := rh.len
          have k1000 : (1000 : Nat) < sizeLine := by decide
          refine ⟨fun σ' G => ∃ (qa' : Addr) (hsV' rsV' : List V) (z1 z7 z8 z9 z10 z11 : Option V), σ' = [some (.ref a), z1, some (.ref pl), some (.ref pf), some (.int (c : Nat)), some (.ref qa'), some (.ref r), z7, z8, z9, z10, z11, none] ∧
            Same H5 (hide r G) ∧ hide r G qa' = some (.lst hsV') ∧ Rows n (hide r G) (euH c hs) hsV' ∧ G r = some (.lst rsV') ∧ Rows n (hide r G) (euR c hs rs) rsV', fun σ' G hN => ?_, ?_⟩
          · obtain ⟨qa', hsV', rsV', z1, z7, z8, z9, z10, z11, rfl, n1, n2, n3, n4, n5⟩ := hN
            exact ⟨_, eu_less h1 hnz, qa', hsV', rsV', euH c hs, euR c hs rs, _, _, _, _, _, _, rfl, rfl, n1, n2, n3, n4, n5, euH_ne h1 hnz, hEu, by rw [← hrun, ← euRun_more h1 hnz], by rw [eu_len h1]; exact hl8⟩
          -- least
          have cmp : ∀ (G : Hp), Same H' G → ∀ (z : Vec) (i : Nat), hs[i]? = some z → ∃ p, hsV[i]? = some (.ref p) ∧ p ≠ r ∧ G p = some (.lst (vI n z)) := fun G s z i hz => by
            obtain ⟨b, hb, p, rfl, hp⟩ := rh.get hz
            exact ⟨p, hb, (hide_some hp).1, s _ _ (hide_some hp).2⟩
          refine ⟨_, rfl, qa, rfl, ⟨_, .inl (.inl eq')⟩, fun D1 nD1 => ?_⟩
          refine lc_map (zs := hs) (by rw [hll]; exact walk_list (xs := hsV)) (fun v y _ => y = V.int ((absAt c v : Nat) : Int)) (fun _ _ _ _ q _ => q) nD1 (by omega) (fun _ s => s.seq (.inl (.inl eq'))) (fun i z x G1 G2 Qb hz s1 hacc y qb => ?_) (fun G1 as1 s1 e1 r1 => ?_)
          · obtain ⟨rfl, hy⟩ := y
            obtain ⟨p, hb, _, hp⟩ := cmp _ s1 z i hz
            cases Option.some.inj (hy.symm.trans hb)
            refine ⟨rfl, _, rfl, _, rfl, p, _, _, _, rfl, rfl, .inl (.inl hp), vI_at hc, _, rfl, qb _ _ (Same.refl _) ?_⟩
            unfold absAt
            congr 1
            split <;> omega
          have as1e := Rel2.eq_map r1
          refine ⟨D1, hs.map fun v => ((absAt c v : Nat) : Int), rfl, .inl (.inl (by rw [e1, as1e, List.map_map]; rfl)), by rw [List.length_map]; omega, fun mn hmn hle => ?_⟩
          have hmn := amin_val hsne hmn hle
          subst hmn
          -- place
          refine ⟨_, rfl, qa, rfl, ⟨_, .inl (.inl (s1 _ _ eq'))⟩, fun D2 nD2 => ?_⟩
          refine lc_map (zs := hs) (by rw [hll]; exact walk_list (xs := hsV)) (fun v y _ => y = V.int ((absAt c v : Nat) : Int)) (fun _ _ _ _ q _ => q) nD2 (by omega) (fun _ s => s.seq (.inl (.inl (s1 _ _ eq')))) (fun i z x G2 G3 Qb hz s2 hacc y qb => ?_) (fun G2 as2 s2 e2 r2 => ?_)
          · obtain ⟨rfl, hy⟩ := y
            obtain ⟨p, hb, _, hp⟩ := cmp _ (s1.trans s2) z i hz
            cases Option.some.inj (hy.symm.trans hb)
            refine ⟨rfl, _, rfl, _, rfl, p, _, _, _, rfl, rfl, .inl (.inl hp), vI_at hc, _, rfl, qb _ _ (Same.refl _) ?_⟩
            unfold absAt
            congr 1
            split <;> omega
          have as2e := Rel2.eq_map r2
          have get2 : ∀ i z, hs[i]? = some z → as2[i]? = some (V.int ((absAt c z : Nat) : Int)) := fun i z hz => by rw [as2e, List.getElem?_map, hz]; rfl
          have hj : hs[amin (absAt c) hs]? = some (euHead c hs) := by
            unfold euHead row
            rw [List.getD_eq_getElem?_getD, List.getElem?_eq_getElem a1]; rfl
          refine ⟨.inl ⟨rfl, _, .inl (.inl e2)⟩, _, rfl, D2, as2, _, amin (absAt c) hs, _, rfl, rfl, .inl (.inl e2), rfl, ?_, get2 _ _ hj, by simp [eqV], fun i z' hi hz' => ?_, ?_⟩
          · rw [as2e]; simp [flatV]
          · have hi2 : i < hs.length := by omega
            rw [get2 i _ (List.getElem?_eq_getElem hi2)] at hz'
            cases hz'
            have := a3 i hi
            have e3 : row hs i = hs[i] := by unfold row; rw [List.getD_eq_getElem?_getD, List.getElem?_eq_getElem hi2]; rfl
            rw [e3] at this
            unfold euHead
            simp only [eqV]
            simp
            omega
          generalize hJ : amin (absAt c) hs = J at *
          -- head, more
          have s12 := s1.trans s2
          obtain ⟨hd, hbd, hdr, ehd⟩ := cmp _ s12 _ _ hj
          refine ⟨_, rfl, _, rfl, qa, _, _, _, rfl, rfl, .inl (.inl (s12 _ _ eq')), atI_nat hbd, Nat.zero_le _, fun m nm => ⟨by show 2 ≤ sizeLine; decide, fun t nt => ⟨t, _, rfl, .inl (.inl upd_same), rfl, _, _, rfl, _, _, rfl, rfl, ?_⟩⟩⟩
          have s3m : Same G2 (upd G2 m (.lst [])) := same_new nm
          have s3t : Same (upd G2 m (.lst [])) (upd (upd G2 m (.lst [])) t (.tup [.ref hd, .ref m])) := same_new nt
          have em3 := s3t _ _ (show upd G2 m (.lst []) m = some (.lst []) from upd_same)
          have s3' : Same G2 (upd (upd G2 m (.lst [])) t (.tup [.ref hd, .ref m])) := s3m.trans s3t
          generalize upd (upd G2 m (.lst [])) t (.tup [.ref hd, .ref m]) = G3 at s3' em3
          have s13 := s12.trans s3'
          have nmH : H' m = none := s12.free nm
          -- the others
          refine ⟨_, rfl, _, rfl, _, rfl, qa, _, rfl, .inl (.inl (s13 _ _ eq')), fun c1 nc1 => ?_⟩
          have s4 : Same G3 (upd G3 c1 (.lst (cutV hsV none (some ((J : Nat) : Int))))) := same_new nc1
          refine ⟨_, rfl, _, rfl, _, _, rfl, rfl, _, rfl, qa, _, rfl, .inl (.inl (s4 _ _ (s13 _ _ eq'))), fun c2 nc2 => ?_⟩
          refine ⟨c1, c2, cutV hsV none (some ((J : Nat) : Int)), cutV hsV (some (((J : Nat) : Int) + 1)) none, rfl, rfl, ?_, upd_same, ?_, fun z nz => ?_⟩
          · rw [upd_ne (ne_of_none (show upd G3 c1 _ c1 = _ from upd_same) nc2), upd_same]
          · have l1 := cutV_length hsV none (some ((J : Nat) : Int))
            have l2 := cutV_length hsV (some (((J : Nat) : Int) + 1)) none
            omega
          have s5 := same_new (o := .lst (cutV hsV (some (((J : Nat) : Int) + 1)) none)) nc2
          have s6 := same_new (o := .lst (cutV hsV none (some ((J : Nat) : Int)) ++ cutV hsV (some (((J : Nat) : Int) + 1)) none)) nz
          have sZ := s4.trans (s5.trans s6)
          have ez : upd (upd (upd G3 c1 (.lst (cutV hsV none (some ((J : Nat) : Int))))) c2 (.lst (cutV hsV (some (((J : Nat) : Int) + 1)) none))) z (.lst (cutV hsV none (some ((J : Nat) : Int)) ++ cutV hsV (some (((J : Nat) : Int) + 1)) none)) z = some (.lst (hsV.eraseIdx J)) := by
            rw [upd_same, cut_take, show ((J : Nat) : Int) + 1 = ((J + 1 : Nat) : Int) by omega, cut_drop, List.eraseIdx_eq_take_drop_succ]
          have nzr : z ≠ r := fun e => by
            have := (s4.trans s5) _ _ (s13 _ _ er)
            rw [← e, nz] at this; cases this
          have nzm : z ≠ m := fun e => by
            have := (s4.trans s5) _ _ em3
            rw [← e, nz] at this; cases this
          generalize upd (upd (upd G3 c1 (.lst (cutV hsV none (some ((J : Nat) : Int))))) c2 (.lst (cutV hsV (some (((J : Nat) : Int) + 1)) none))) z (.lst (cutV hsV none (some ((J : Nat) : Int)) ++ cutV hsV (some (((J : Nat) : Int) + 1)) none)) = Z at sZ ez
          clear s4 s5 s6 nc1 nc2 nz
          have sHZ := s13.trans sZ
          have sB := same_hd2 (r := r) sHZ nmH
          have emZ := sZ _ _ em3
          have erZ := sHZ _ _ er
          have nmr : m ≠ r := fun e => by rw [e, er] at nmH; cases nmH
          have ezB : hd2 r m Z z = some (.lst (hsV.eraseIdx J)) := by rw [hd2_get nzr nzm]; exact ez
          have eqB := sB _ _ eq
          have rB := (rows_same rh sB).eraseIdx J
          have ehdB : hd2 r m Z hd = some (.lst (vI n (euHead c hs))) := by
            refine sB _ _ ?_
            obtain ⟨b, hb, p, rfl, hp⟩ := rh.get hj
            rw [hbd] at hb; cases hb; exact hp
          have rrB := rows_same rr sB
          have hTl : (euTold c hs).length = (hs.eraseIdx J).length := by unfold euTold; rw [List.length_map, hJ]
          have hTe : (hs.eraseIdx J).length ≤ 8 := by rw [List.length_eraseIdx]; split <;> omega
          refine ⟨z, rfl, ⟨_, .inl (.inl ez)⟩, ?_⟩
          refine for_it (walk_list (xs := hsV.eraseIdx J)) (fun i σ' G => ∃ (mv rv : List V) (y1 y11 : Option V), σ' = [some (.ref a), y1, some (.ref pl), some (.ref pf), some (.int (c : Nat)), some (.ref qa), some (.ref r), some (.int ((absAt c (euHead c hs) : Nat) : Int)), some (.int (J : Nat)), some (.ref hd), some (.ref m), y11, none] ∧
            Same (hd2 r m Z) (hd2 r m G) ∧ G m = some (.lst mv) ∧ Rows n (hd2 r m G) (((euTold c hs).take i).filter fun v => v c ≠ 0) mv ∧ G r = some (.lst rv) ∧ Rows n (hd2 r m G) (rs ++ ((euTold c hs).take i).filter fun v => v c = 0) rv)
            ⟨[], rsV, _, _, rfl, .refl _, emZ, .nil, erZ, by simpa using rrB⟩ (fun i σ' G _ p => ?_) (fun i x σ' G1 G2 hi p y => ?_) (fun σ' G p => ?_)
          · obtain ⟨mv, rv, y1, y11, _, p1, _⟩ := p
            exact .inl (.inl (hd2_sub _ _ (p1 _ _ ezB)))
          · obtain ⟨mv, rv, y1, y11, rfl, p1, p2, p3, p4, p5⟩ := p
            obtain ⟨rfl, hx⟩ := y
            obtain ⟨v, hv, p, rfl, hp⟩ := rB.get' hx
            have hp1 := hd2_sub _ _ (p1 _ _ hp)
            have hd1 := hd2_sub _ _ (p1 _ _ ehdB)
            have hvm : v ∈ hs := List.mem_of_mem_eraseIdx (List.mem_of_getElem? hv)
            have hTi : (euTold c hs)[i]? = some (lessV v (euHead c hs) ((v c).fdiv (euHead c hs c))) := by
              unfold euTold
              rw [List.getElem?_map, hJ, hv]; rfl
            have lmv : mv.length ≤ 8 := by
              rw [← p3.len]
              exact Nat.le_trans (List.length_filter_le _ _) (by rw [List.length_take]; omega)
            have lrv : rv.length ≤ 16 := by
              rw [← p5.len, List.length_append]
              have := Nat.le_trans (List.length_filter_le (fun v : Vec => decide (v c = 0)) ((euTold c hs).take i)) (show _ ≤ 8 by rw [List.length_take]; omega)
              omega
            refine ⟨_, rfl, _, rfl, _, rfl, _, rfl, p, _, _, _, rfl, rfl, .inl (.inl hp1), vI_at hc, _, rfl, _, rfl, hd, _, _, _, rfl, rfl, .inl (.inl hd1), vI_at hc, _, _, rfl, rfl, hdv, ?_⟩
            refine ⟨n, p, hd, v, euHead c hs, _, rfl, .inl (.inl hp1), .inl (.inl hd1), hw, hml v hvm, fun G3 u s8 nu eu => ?_⟩
            generalize hT : lessV v (euHead c hs) ((v c).fdiv (euHead c hs c)) = tv at eu hTi
            have nur : u ≠ r := fun e => by rw [e, p4] at nu; cases nu
            have num : u ≠ m := fun e => by rw [e, p2] at nu; cases nu
            have tk : (euTold c hs).take (i + 1) = (euTold c hs).take i ++ [tv] := by rw [List.take_add_one, hTi]; rfl
            have em8 := s8 _ _ p2
            have er8 := s8 _ _ p4
            have eu2 : hd2 r m G3 u = some (.lst (vI n tv)) := by rw [hd2_get nur num]; exact eu
            have q1 := hd2_same (r := r) (m := m) s8
            refine ⟨_, rfl, _, rfl, u, _, _, _, rfl, rfl, .inl (.inl eu), vI_at hc, rfl, _, rfl, ?_⟩
            by_cases e0 : tv c = 0
            · refine itF (by simp [e0]) ?_
              refine ⟨_, rfl, .inl ⟨rfl, _, .inl (.inl er8)⟩, _, rfl, r, _, _, rfl, rfl, er8, by omega, mv, _, _, _, rfl, ?_, ?_, ?_, upd_same, ?_⟩
              · exact p1.trans (q1.trans hd2_updr)
              · rw [upd_ne nmr]; exact em8
              · rw [tk, List.filter_append, List.filter_cons, if_neg (by simp [e0]), List.filter_nil, List.append_nil]
                exact rows_same p3 (q1.trans hd2_updr)
              · rw [tk, List.filter_append, ← List.append_assoc]
                refine Rel2.app (rows_same p5 (q1.trans hd2_updr)) ?_
                rw [List.filter_cons, if_pos (by simp [e0]), List.filter_nil]
                exact .one ⟨u, rfl, hd2_updr _ _ eu2⟩
            · refine itT (by simp [e0]) ?_
              refine ⟨_, rfl, .inl ⟨rfl, _, .inl (.inl em8)⟩, _, rfl, m, _, _, rfl, rfl, em8, by omega, _, rv, _, _, rfl, ?_, upd_same, ?_, ?_, ?_⟩
              · exact p1.trans (q1.trans hd2_updm)
              · rw [tk, List.filter_append]
                refine Rel2.app (rows_same p3 (q1.trans hd2_updm)) ?_
                rw [List.filter_cons, if_pos (by simp [e0]), List.filter_nil]
                exact .one ⟨u, rfl, hd2_updm _ _ eu2⟩
              · rw [upd_ne nmr.symm]; exact er8
              · rw [tk, List.filter_append, List.filter_cons, if_neg (by simp [e0]), List.filter_nil, List.append_nil]
                exact rows_same p5 (q1.trans hd2_updm)
          · obtain ⟨mv, rv, y1, y11, rfl, p1, p2, p3, p4, p5⟩ := p
            rw [← rB.len, ← hTl, List.take_length] at p3 p5
            have lmv : mv.length ≤ 8 := by
              rw [← p3.len]
              exact Nat.le_trans (List.length_filter_le _ _) (by omega)
            refine ⟨_, rfl, by show 1 ≤ sizeLine; decide, fun l1 nl1 => ⟨_, rfl, l1, m, _, mv, rfl, rfl, upd_same, ?_, ?_, fun q' nq' => ?_⟩⟩
            · rw [upd_ne (ne_of_none p2 nl1)]; exact p2
            · simp; omega
            · have t1 := (same_new (o := .lst [.ref hd]) nl1).trans (same_new (o := .lst ([.ref hd] ++ mv)) nq')
              have nl1r : l1 ≠ r := fun e => by rw [e, p4] at nl1; cases nl1
              have nq'r : q' ≠ r := fun e => by
                rw [e, upd_ne nl1r.symm, p4] at nq'; cases nq'
              have t2 : Same (hd2 r m G) (hide r (upd (upd G l1 (.lst [.ref hd])) q' (.lst ([.ref hd] ++ mv)))) := hide_sub.trans (same_hide t1)
              refine ⟨q', [.ref hd] ++ mv, rv, _, _, _, _, _, _, rfl, ?_, ?_, ?_, t1 _ _ p4, ?_⟩
              · exact fun b o h => t2 _ _ (p1 _ _ (sB _ _ (s3 _ _ h)))
              · rw [hide_ne nq'r, upd_same]
              · exact .cons ⟨hd, rfl, t2 _ _ (p1 _ _ ehdB)⟩ (rows_same p3 t2)
              · exact rows_same p5 t2
        · refine itF (decide_eq_false (by omega)) ?_
          have hrun2 : colRun c left = (hs, rs) := by rw [← hrun, euRun_done h1]
          have s5 : Same H (hide r H') := fun b o h => s3 b o (sH b o h)
          -- if heads != []
          dsimp only
          refine joinS (fun σ' G => ∃ (pf' : Addr) (fv' : List V) (z1 z7 z8 z9 z10 z11 : Option V), σ' = [some (.ref a), z1, some (.ref pl), some (.ref pf'), some (.int (c : Nat)), some (.ref qa), some (.ref r), z7, z8, z9, z10, z11, none] ∧
            H pf' = none ∧ Same H (hide r G) ∧ G r = some (.lst rsV) ∧ Rows n (hide r G) rs rsV ∧ G pf' = some (.lst fv') ∧ Rows n G (formUp rows (c + 1)).2 fv') (fun nx' hk => ?_) (fun σ' G hR => ?_)
          · have ef' : hide r H' pf = some (.lst fv) := s3 _ _ ef
            have rf' := rows_same rf s3
            refine ⟨_, rfl, Nat.zero_le _, fun o2 no2 => ?_⟩
            have nor : o2 ≠ r := fun e => by rw [e, er] at no2; cases no2
            have s6 : Same (hide r H') (hide r (upd H' o2 (.lst []))) := same_hide (same_new no2)
            have er6 : upd H' o2 (.lst []) r = some (.lst rsV) := by rw [upd_ne nor.symm]; exact er
            have rh6 := rows_same rh s6
            refine rows_ne (Rel2.imp (rows_same rh6 hide_sub) fun _ _ q => q.toE) (.inl (.inl (hide_some (s6 _ _ eq)).2)) upd_same ?_
            generalize upd H' o2 (.lst []) = G at s6 er6 rh6
            refine ⟨_, rfl, ?_⟩
            by_cases h0 : hs.length = 0
            · have h0' : hs = [] := List.length_eq_zero_iff.1 h0
              refine itF (by rw [h0]; rfl) (hk _ _ ⟨pf, fv, _, _, _, _, _, _, rfl, nf, fun b o h => s6 _ _ (s5 b o h), er6, rows_same rr s6, (hide_some (s6 _ _ ef')).2, ?_⟩)
              have : (formUp rows (c + 1)).2 = found := by
                show (colStep c (formUp rows c)).2 = _
                unfold colStep
                rw [hL, hF, hrun2, if_pos h0']
              rw [this]
              exact rows_same rf' (s6.trans hide_sub)
            · refine itT (by simp [h0]) ?_
              obtain ⟨v0, rfl⟩ : ∃ v0, hs = [v0] := by
                cases hs with
                | nil => exact absurd rfl h0
                | cons v l => cases l with
                  | nil => exact ⟨v, rfl⟩
                  | cons => exact absurd (by simp) h1
              obtain ⟨hh1, hh2⟩ : HeadOk n c (signed c v0) found := by
                have := hhd (by rw [hrun2]; exact List.cons_ne_nil _ _)
                rw [hrun2] at this
                exact this
              obtain ⟨p0, hp0, ep0⟩ := rows_get rh6 (i := 0) (by simp)
              have ep0 : hide r G p0 = some (.lst (vI n v0)) := ep0
              have ep1 := (hide_some ep0).2
              have eqG := (hide_some (s6 _ _ eq)).2
              have efG := s6 _ _ ef'
              have rfG := rows_same rf' s6
              have sHG : Same H (hide r G) := fun b o h => s6 _ _ (s5 b o h)
              have at0 : atI hsV 0 = some (.ref p0) := atI_nat (j := 0) hp0
              dsimp only [tSeq, tAsg]
              refine joinE (te := tIf _ _ _) (fun v G' => ∃ hd, v = .ref hd ∧ Same G G' ∧ hide r G' hd = some (.lst (vI n (signed c v0)))) (fun Q' hk2 => ?_) (fun v G1 hR => ?_)
              · refine ⟨_, rfl, qa, _, 0, _, rfl, rfl, .inl (.inl eqG), at0, _, rfl, p0, _, _, _, rfl, rfl, .inl (.inl ep1), vI_at hc, _, _, rfl, rfl, _, rfl, ?_⟩
                by_cases hpos : 0 < v0 c
                · refine itT (decide_eq_true hpos) ⟨_, rfl, qa, _, 0, _, rfl, rfl, .inl (.inl eqG), at0, hk2 _ _ ⟨p0, rfl, .refl _, ?_⟩⟩
                  unfold signed; rw [if_pos hpos]; exact ep0
                · refine itF (decide_eq_false hpos) ⟨_, rfl, qa, _, 0, _, rfl, rfl, .inl (.inl eqG), at0, p0, rfl, ⟨_, .inl (.inl ep1)⟩, fun N nN => ?_⟩
                  refine lc_map (zs := List.range n) (Y := YAt (vI n v0)) (by have := walk_list (K := K) (a := p0) (xs := vI n v0); rw [vI_len] at this; rw [List.length_range]; exact this) (fun j y _ => y = V.int (negV v0 j)) (fun _ _ _ _ q _ => q) nN (by simp; omega) (fun _ s => s.seq (.inl (.inl ep1))) (fun i z x G1 G2 Qb hz s1 hacc y qb => ?_) (fun G1 es s1 e1 r1 => ?_)
                  · obtain ⟨rfl, hy⟩ := y
                    obtain ⟨rfl, hi⟩ := range_at hz
                    cases Option.some.inj (hy.symm.trans (vI_get hi))
                    exact ⟨rfl, _, rfl, _, rfl, qb _ _ (Same.refl _) rfl⟩
                  · have nNr : N ≠ r := fun e => by rw [e, er6] at nN; cases nN
                    refine hk2 _ _ ⟨N, rfl, s1, ?_⟩
                    unfold signed; rw [if_neg hpos, hide_ne nNr, e1, vI_of r1]
              · obtain ⟨hd, rfl, s7, ehd⟩ := hR
                have er7 := s7 _ _ er6
                have ehd1 := (hide_some ehd).2
                have efG1 := s7 _ _ (hide_some efG).2
                have rfG1 := rows_same rfG ((same_hide s7).trans hide_sub)
                refine ⟨_, rfl, pf, rfl, ⟨_, .inl (.inl efG1)⟩, fun Fa nF => ?_⟩
                have nFr : Fa ≠ r := fun e => by rw [e, er7] at nF; cases nF
                refine lc_map (zs := found) (by rw [rfG1.len]; exact walk_list (xs := fv)) (fun v y H => IsRow n H (lessV v (signed c v0) ((v c).fdiv (signed c v0 c))) y) (fun _ _ _ _ q s => q.same s) nF (by omega) (fun _ s => s.seq (.inl (.inl efG1))) (fun i z x G2 G3 Qb hz s1 hacc y qb => ?_) (fun G2 ws s1 e1 r1 => ?_)
                · obtain ⟨rfl, hy⟩ := y
                  obtain ⟨b, hb, p, rfl, hp⟩ := rfG1.get hz
                  cases Option.some.inj (hy.symm.trans hb)
                  obtain ⟨acc, hacc⟩ := hacc
                  have hp2 := s1 _ _ hp
                  have hd2 := s1 _ _ ehd1
                  refine ⟨rfl, _, rfl, _, rfl, _, rfl, _, rfl, p, _, _, _, rfl, rfl, .inl (.inl hp2), vI_at hc, _, rfl, _, rfl, hd, _, _, _, rfl, rfl, .inl (.inl hd2), vI_at hc, _, _, rfl, rfl, hh1, ?_⟩
                  refine ⟨n, p, hd, z, signed c v0, _, rfl, .inl (.inl hp2), .inl (.inl hd2), hw, hh2 z (List.mem_of_getElem? hz), fun G4 u s4 nu eu => qb _ _ s4 ⟨u, rfl, ?_⟩⟩
                  have : u ≠ Fa := fun e => by rw [e, hacc] at nu; cases nu
                  rw [hide_ne this]; exact eu
                · have sF : Same G1 (upd G2 Fa (.lst (ws ++ [.ref hd]))) := fun b o h => by
                    rw [upd_ne (ne_of_none h nF)]; exact s1 _ _ h
                  have lws := r1.len
                  refine ⟨_, rfl, .inl ⟨rfl, _, .inl (.inl e1)⟩, _, rfl, Fa, _, _, rfl, rfl, e1, ?_, hk _ _ ⟨Fa, _, _, _, _, _, _, _, rfl, ?_, ?_, ?_, ?_, upd_same, ?_⟩⟩
                  · have : (1000 : Nat) < sizeLine := by decide
                    omega
                  · exact Same.free (sHG.trans (hide_sub.trans s7)) nF
                  · exact sHG.trans (same_hide (s7.trans sF))
                  · rw [upd_ne nFr.symm]; exact s1 _ _ er7
                  · exact rows_same (rows_same rr s6) (same_hide (s7.trans sF))
                  · have : (formUp rows (c + 1)).2 = colFound c (signed c v0) found := by
                      show (colStep c (formUp rows c)).2 = _
                      unfold colStep
                      rw [hL, hF, hrun2, if_neg (List.cons_ne_nil _ _)]
                      rfl
                    rw [this]
                    unfold colFound
                    refine Rel2.app (Rel2.mapL.2 (r1.imp fun _ _ q => q.same same_hide_upd)) (.one ⟨hd, rfl, sF _ _ ehd1⟩)
          · obtain ⟨pf', fv', z1, z7, z8, z9, z10, z11, rfl, n1, n2, n3, n4, n5, n6⟩ := hR
            have e1 : (formUp rows (c + 1)).1 = rs := by
              show (colStep c (formUp rows c)).1 = _
              unfold colStep
              rw [hL, hrun2]
            refine ⟨_, rfl, n2.trans hide_sub, r, pf', rsV, fv', _, _, _, _, _, _, _, _, _, rfl, n1, n3, ?_, n5, n6⟩
            rw [e1]
            exact rows_same n4 hide_sub
      · obtain ⟨sH, pl, pf, lv, fv, y1, y4, y5, y6, y7, y8, y9, y10, y11, rfl, nf, el, rl, ef, rf⟩ := p
        rw [List.length_range] at rf
        exact ⟨_, rfl, q _ pf fv sH nf ef rf⟩
end
end K17
end
section
set_option Elab.async false
set_option linter.all false
set_option maxRecDepth 100000
namespace K17
open PySem PySem.Spec PyProof.Rows L2
/-! the three matrices of smith_of in the heap -/
def vA (h : Nat) (A : Nat → Addr) : List V := (List.range h).map fun i => .ref (A i)
theorem vA_len {h : Nat} {A : Nat → Addr} : (vA h A).length = h := by simp [vA]
theorem vA_get {h i : Nat} {A : Nat → Addr} (hi : i < h) : (vA h A)[i]? = some (.ref (A i)) := by simp [vA, hi]
theorem vA_at {h i : Nat} {A : Nat → Addr} (hi : i < h) : atI (vA h A) (i : Int) = some (.ref (A i)) := atI_nat (vA_get hi)
def setA (A : Nat → Addr) (i : Nat) (p : Addr) : Nat → Addr := fun k => if k = i then p else A k
theorem range_map_set {α : Type} {n i : Nat} {f : Nat → α} {x : α} (hi : i < n) : ((List.range n).map f).set i x = (List.range n).map fun k => if k = i then x else f k := by
  apply List.ext_getElem?
  intro k
  rw [List.getElem?_set]
  simp only [List.getElem?_map, List.length_map, List.length_range]
  by_cases hk : k < n
  · rw [List.getElem?_range hk]
    by_cases e : i = k
    · subst e; simp [hi]
    · simp [e, Ne.symm e]
  · rw [List.getElem?_eq_none (by simpa using hk)]
    simp
    intro e; omega
theorem vA_set {h i : Nat} {A : Nat → Addr} {p : Addr} (hi : i < h) : (vA h A).set i (.ref p) = vA h (setA A i p) := by
  unfold vA
  rw [range_map_set hi]
  apply List.map_congr_left
  intro k _
  unfold setA
  split <;> rfl
theorem vI_set {w j : Nat} {v : Nat → Int} {x : Int} (hj : j < w) : (vI w v).set j (.int x) = vI w fun k => if k = j then x else v k := by
  unfold vI
  rw [range_map_set hj]
  apply List.map_congr_left
  intro k _
  by_cases e : k = j <;> simp [e]
structure SmH (H0 H : Hp) (h w : Nat) (pT pL pR : Addr) (tA lA rA : Nat → Addr) (T L R : Mat) : Prop where
  eT : H pT = some (.lst (vA h tA))
  eL : H pL = some (.lst (vA h lA))
  eR : H pR = some (.lst (vA w rA))
  rT : ∀ i, i < h → H (tA i) = some (.lst (vI w (T i)))
  rL : ∀ i, i < h → H (lA i) = some (.lst (vI h (L i)))
  rR : ∀ i, i < w → H (rA i) = some (.lst (vI w (R i)))
  tt : ∀ i j, i < h → j < h → i ≠ j → tA i ≠ tA j
  rr : ∀ i j, i < w → j < w → i ≠ j → rA i ≠ rA j
  tr : ∀ i j, i < h → j < w → tA i ≠ rA j
  tl : ∀ i j, i < h → j < h → tA i ≠ lA j
  rl : ∀ i j, i < w → j < h → rA i ≠ lA j
  h1 : 1 ≤ h
  w1 : 1 ≤ w
  s0 : Same H0 H
  nT : H0 pT = none
  nL : H0 pL = none
  nt : ∀ i, i < h → H0 (tA i) = none
  nr : ∀ i, i < w → H0 (rA i) = none
theorem vA_vI {h w : Nat} {A : Nat → Addr} {v : Nat → Int} (h1 : 1 ≤ h) : vA h A ≠ vI w v := fun e => by
  have a := vA_get (A := A) (show 0 < h by omega)
  rw [e] at a
  unfold vI at a
  rw [List.getElem?_map] at a
  cases q : (List.range w)[0]? with
  | none => rw [q] at a; cases a
  | some x => rw [q] at a; cases a
section
variable {H0 H : Hp} {h w : Nat} {pT pL pR : Addr} {tA lA rA : Nat → Addr} {T L R : Mat}
theorem cell_ne {a b : Addr} {xs ys : List V} (e1 : H a = some (.lst xs)) (e2 : H b = some (.lst ys)) (n : xs ≠ ys) : a ≠ b := fun e => by
  rw [e, e2] at e1; cases e1; exact n rfl
theorem SmH.cells (s : SmH H0 H h w pT pL pR tA lA rA T L R) :
    (pT ≠ pL ∧ pT ≠ pR ∧ pL ≠ pR) ∧ (∀ i, i < h → tA i ≠ pT ∧ tA i ≠ pL ∧ tA i ≠ pR) ∧ (∀ i, i < h → lA i ≠ pT ∧ lA i ≠ pL ∧ lA i ≠ pR) ∧ (∀ i, i < w → rA i ≠ pT ∧ rA i ≠ pL ∧ rA i ≠ pR) := by
  have h0 : 0 < h := s.h1
  have w0 : 0 < w := s.w1
  have ne : ∀ {n m : Nat} {A B : Nat → Addr}, 0 < n → 0 < m → A 0 ≠ B 0 → vA n A ≠ vA m B := fun {n m A B} hn hm q e => by
    have a := vA_get (A := A) hn
    rw [e, vA_get hm] at a
    injection a with a
    injection a with a
    exact q a.symm
  refine ⟨⟨cell_ne s.eT s.eL (ne h0 h0 (s.tl 0 0 h0 h0)), cell_ne s.eT s.eR (ne h0 w0 (s.tr 0 0 h0 w0)), cell_ne s.eL s.eR (ne h0 w0 (Ne.symm (s.rl 0 0 w0 h0)))⟩, fun i hi => ?_, fun i hi => ?_, fun i hi => ?_⟩
  · exact ⟨Ne.symm (cell_ne s.eT (s.rT i hi) (vA_vI s.h1)), Ne.symm (cell_ne s.eL (s.rT i hi) (vA_vI s.h1)), Ne.symm (cell_ne s.eR (s.rT i hi) (vA_vI s.w1))⟩
  · exact ⟨Ne.symm (cell_ne s.eT (s.rL i hi) (vA_vI s.h1)), Ne.symm (cell_ne s.eL (s.rL i hi) (vA_vI s.h1)), Ne.symm (cell_ne s.eR (s.rL i hi) (vA_vI s.w1))⟩
  · exact ⟨Ne.symm (cell_ne s.eT (s.rR i hi) (vA_vI s.h1)), Ne.symm (cell_ne s.eL (s.rR i hi) (vA_vI s.h1)), Ne.symm (cell_ne s.eR (s.rR i hi) (vA_vI s.w1))⟩
theorem SmH.mono (s : SmH H0 H h w pT pL pR tA lA rA T L R) {H' : Hp} (m : Same H H') : SmH H0 H' h w pT pL pR tA lA rA T L R :=
  { s with eT := m _ _ s.eT, eL := m _ _ s.eL, eR := m _ _ s.eR, rT := fun i hi => m _ _ (s.rT i hi), rL := fun i hi => m _ _ (s.rL i hi), rR := fun i hi => m _ _ (s.rR i hi), s0 := s.s0.trans m }
theorem same0_upd {a : Addr} {o : HO} (s : Same H0 H) (n : H0 a = none) : Same H0 (upd H a o) := fun b x e => by
  rw [upd_ne (ne_of_none e n)]; exact s _ _ e
/-- told[i] = a new row -/
theorem SmH.setT (s : SmH H0 H h w pT pL pR tA lA rA T L R) {i : Nat} {p : Addr} {v : Vec} (hi : i < h) (hp : H p = some (.lst (vI w v))) (np : H0 p = none) (d1 : ∀ j, j < h → p ≠ tA j) (d2 : ∀ j, j < h → p ≠ lA j) (d3 : ∀ j, j < w → p ≠ rA j) :
    SmH H0 (upd H pT (.lst ((vA h tA).set i (.ref p)))) h w pT pL pR (setA tA i p) lA rA (setR T i v) L R := by
  obtain ⟨⟨c1, c2, c3⟩, c4, c5, c6⟩ := s.cells
  have pp : p ≠ pT := Ne.symm (cell_ne s.eT hp (vA_vI s.h1))
  constructor
  · rw [upd_same, vA_set hi]
  · rw [upd_ne c1.symm]; exact s.eL
  · rw [upd_ne c2.symm]; exact s.eR
  · intro k hk
    unfold setA setR
    split
    · rw [upd_ne pp]; exact hp
    · rw [upd_ne (c4 k hk).1]; exact s.rT k hk
  · intro k hk; rw [upd_ne (c5 k hk).1]; exact s.rL k hk
  · intro k hk; rw [upd_ne (c6 k hk).1]; exact s.rR k hk
  · intro a b ha hb hab
    unfold setA
    split
    · split
      · omega
      · exact d1 b hb
    · split
      · exact Ne.symm (d1 a ha)
      · exact s.tt a b ha hb hab
  · exact s.rr
  · intro a b ha hb
    unfold setA
    split
    · exact d3 b hb
    · exact s.tr a b ha hb
  · intro a b ha hb
    unfold setA
    split
    · exact d2 b hb
    · exact s.tl a b ha hb
  · exact s.rl
  · exact s.h1
  · exact s.w1
  · exact same0_upd s.s0 s.nT
  · exact s.nT
  · exact s.nL
  · intro a ha
    unfold setA
    split
    · exact np
    · exact s.nt a ha
  · exact s.nr
/-- left[i] = a new row -/
theorem SmH.setL (s : SmH H0 H h w pT pL pR tA lA rA T L R) {i : Nat} {p : Addr} {v : Vec} (hi : i < h) (hp : H p = some (.lst (vI h v))) (d1 : ∀ j, j < h → p ≠ tA j) (d3 : ∀ j, j < w → p ≠ rA j) :
    SmH H0 (upd H pL (.lst ((vA h lA).set i (.ref p)))) h w pT pL pR tA (setA lA i p) rA T (setR L i v) R := by
  obtain ⟨⟨c1, c2, c3⟩, c4, c5, c6⟩ := s.cells
  have pp : p ≠ pL := Ne.symm (cell_ne s.eL hp (vA_vI s.h1))
  constructor
  · rw [upd_ne c1]; exact s.eT
  · rw [upd_same, vA_set hi]
  · rw [upd_ne c3.symm]; exact s.eR
  · intro k hk; rw [upd_ne (c4 k hk).2.1]; exact s.rT k hk
  · intro k hk
    unfold setA setR
    split
    · rw [upd_ne pp]; exact hp
    · rw [upd_ne (c5 k hk).2.1]; exact s.rL k hk
  · intro k hk; rw [upd_ne (c6 k hk).2.1]; exact s.rR k hk
  · exact s.tt
  · exact s.rr
  · exact s.tr
  · intro a b ha hb
    unfold setA
    split
    · exact Ne.symm (d1 a ha)
    · exact s.tl a b ha hb
  · intro a b ha hb
    unfold setA
    split
    · exact Ne.symm (d3 a ha)
    · exact s.rl a b ha hb
  · exact s.h1
  · exact s.w1
  · exact same0_upd s.s0 s.nL
  · exact s.nT
  · exact s.nL
  · exact s.nt
  · exact s.nr
/-- a row of told is written -/
theorem SmH.rowT (s : SmH H0 H h w pT pL pR tA lA rA T L R) {i : Nat} {v : Vec} (hi : i < h) : SmH H0 (upd H (tA i) (.lst (vI w v))) h w pT pL pR tA lA rA (setR T i v) L R := by
  obtain ⟨⟨c1, c2, c3⟩, c4, c5, c6⟩ := s.cells
  exact { s with
    eT := by rw [upd_ne (c4 i hi).1.symm]; exact s.eT
    eL := by rw [upd_ne (c4 i hi).2.1.symm]; exact s.eL
    eR := by rw [upd_ne (c4 i hi).2.2.symm]; exact s.eR
    rT := fun k hk => by
      unfold setR
      split
      · rename_i e; rw [e, upd_same]
      · rw [upd_ne (s.tt k i hk hi (by assumption))]; exact s.rT k hk
    rL := fun k hk => by rw [upd_ne (Ne.symm (s.tl i k hi hk))]; exact s.rL k hk
    rR := fun k hk => by rw [upd_ne (Ne.symm (s.tr i k hi hk))]; exact s.rR k hk
    s0 := same0_upd s.s0 (s.nt i hi) }
/-- a row of right is written -/
theorem SmH.rowR (s : SmH H0 H h w pT pL pR tA lA rA T L R) {i : Nat} {v : Vec} (hi : i < w) : SmH H0 (upd H (rA i) (.lst (vI w v))) h w pT pL pR tA lA rA T L (setR R i v) := by
  obtain ⟨⟨c1, c2, c3⟩, c4, c5, c6⟩ := s.cells
  exact { s with
    eT := by rw [upd_ne (c6 i hi).1.symm]; exact s.eT
    eL := by rw [upd_ne (c6 i hi).2.1.symm]; exact s.eL
    eR := by rw [upd_ne (c6 i hi).2.2.symm]; exact s.eR
    rT := fun k hk => by rw [upd_ne (s.tr k i hk hi)]; exact s.rT k hk
    rL := fun k hk => by rw [upd_ne (Ne.symm (s.rl i k hi hk))]; exact s.rL k hk
    rR := fun k hk => by
      unfold setR
      split
      · rename_i e; rw [e, upd_same]
      · rw [upd_ne (s.rr k i hk hi (by assumption))]; exact s.rR k hk
    s0 := same0_upd s.s0 (s.nr i hi) }
theorem SmH.congr (s : SmH H0 H h w pT pL pR tA lA rA T L R) {T' L' R' : Mat} (e1 : ∀ i j, i < h → j < w → T i j = T' i j) (e2 : ∀ i j, i < h → j < h → L i j = L' i j) (e3 : ∀ i j, i < w → j < w → R i j = R' i j) : SmH H0 H h w pT pL pR tA lA rA T' L' R' :=
  { s with rT := fun i hi => by rw [s.rT i hi, vI_congr fun j hj => e1 i j hi hj], rL := fun i hi => by rw [s.rL i hi, vI_congr fun j hj => e2 i j hi hj], rR := fun i hi => by rw [s.rR i hi, vI_congr fun j hj => e3 i j hi hj] }
end
end K17
end
section
set_option Elab.async false
set_option linter.all false
set_option maxRecDepth 100000
namespace K17
open PySem PySem.Spec PyProof.Rows L2
structure SwOk (h w : Nat) (T L R : Mat) (a : Nat) : Prop where
  d : DivFit (T a a)
  mT : ∀ i, a < i → i < h → ∀ j, j < w → MulFit (facR T a i) (T a j)
  mL : ∀ i, a < i → i < h → ∀ j, j < h → MulFit (facR T a i) (L a j)
  cT : ∀ j, a < j → j < w → ∀ i, i < h → MulFit (facC T a j) (sweepR T T a i a)
  cR : ∀ j, a < j → j < w → ∀ i, i < w → MulFit (facC T a j) (R i a)
/-- behind the first k rows, columns -/
def partR (T X : Mat) (a k : Nat) : Mat := fun i j => if i < a + 1 + k then sweepR T X a i j else X i j
def partC (T X : Mat) (a k : Nat) : Mat := fun i j => if j < a + 1 + k then sweepC T X a i j else X i j
/-- the lines behind the first m of one column -/
def lineC (T X : Mat) (a k m : Nat) : Mat := fun i j => if i < m then partC T X a (k + 1) i j else partC T X a k i j
theorem sweepR_low {T X : Mat} {a i : Nat} (hi : i ≤ a) (j : Nat) : sweepR T X a i j = X i j := by
  unfold sweepR facR; rw [if_neg (by omega)]; simp
theorem sweepC_low {T X : Mat} {a j : Nat} (hj : j ≤ a) (i : Nat) : sweepC T X a i j = X i j := by
  unfold sweepC facC; rw [if_neg (by omega)]; simp
theorem vAA_vI {h w : Nat} {A : Nat → Addr} {l : List V} {v : Nat → Int} (h1 : 1 ≤ h) : vA h A ++ l ≠ vI w v := fun e => by
  have a := vA_get (A := A) (show 0 < h by omega)
  have b : (vA h A ++ l)[0]? = some (.ref (A 0)) := by rw [List.getElem?_append_left (by rw [vA_len]; omega)]; exact a
  rw [e] at b
  unfold vI at b
  rw [List.getElem?_map] at b
  cases q : (List.range w)[0]? with
  | none => rw [q] at b; cases b
  | some x => rw [q] at b; cases b
theorem ixN_nat {n i : Nat} (h : i < n) : ixN n (i : Int) = some i := by
  unfold ixN
  rw [if_pos (by omega), if_pos (by omega)]; simp
section
variable {P : Program} {w : World} {K : PySem.W.Frag} {mg : Str → Option Value} {base : Heap}
abbrev nSw : List Str := ["told", "left", "right", "at", "pivot", "is_clean", "row", "factor", "column", "line"]
theorem scSw : FnScope nSw ["told", "left", "right", "at"] (defScope (topS 20)) := ⟨rfl, rfl, rfl, by decide +kernel, rfl, by decide +kernel, by decide +kernel⟩
def spSwept (K : PySem.W.Frag) : L2.Sp := fun vs H Q _ => ∃ (H0 : Hp) (h w : Nat) (pT pL pR : Addr) (tA lA rA : Nat → Addr) (T L R : Mat) (a : Nat), vs = [.ref pT, .ref pL, .ref pR, .int (a : Nat)] ∧ SmH H0 H h w pT pL pR tA lA rA T L R ∧ h ≤ 8 ∧ w ≤ 8 ∧ a < h ∧ a < w ∧ SwOk h w T L R a ∧
  ∀ H' tA' lA' (b : Bool), SmH H0 H' h w pT pL pR tA' lA' rA (sweepC T (sweepR T T a) a) (sweepR T L a) (sweepC T R a) →
    (b = true ↔ (∀ i, a < i → i < h → sweepC T (sweepR T T a) a i a = 0) ∧ ∀ j, a < j → j < w → sweepC T (sweepR T T a) a a j = 0) → Q (.bl b) H'
set_option maxHeartbeats 4000000 in
theorem ok_swept {f : Addr} {fd : FuncData} {k : Nat} (F : Fun K "swept" "swept" (topS 20) f fd) (C : Cal P w K mg base k "less" ["row", "other", "factor"] (spLess K))
    (mr : mg "range" = none) (ml : mg "len" = none) : FnOk P w K mg base CX0 (k + 1) f fd ["told", "left", "right", "at"] (spSwept K) := by
  obtain ⟨f1, fd1, G1, g1, k1, b1⟩ := C
  refine F.ok scSw (fun vs H Q E h => ?_) (fun cdv A outer s H vs Q E hr h => ?_)
  · obtain ⟨_, _, _, _, _, _, _, _, _, _, _, _, _, rfl, _⟩ := h
    rfl
  · obtain ⟨H0, h, w, pT, pL, pR, tA, lA, rA, T, L, R, a, rfl, hS, hh, hw, ah, aw, ok, q⟩ := h
    have nd := scSw.nd
    refine ⟨_, pss_cons (ps_par (i := 4) (j := 5) rfl nd rfl rfl (by decide) rfl rfl (pa_cons (pe_ix (iL K) (pe_ix (iL K) (pv 0) (pv 3) (fun _ _ => rfl)) (pv 3) (fun _ _ => rfl)) (pa_cons pe_bl pa_nil)) rfl)
      (pss_cons (ps_for PassesOwn.never rfl (pi_range2 (by rfl) mr (pa_cons (pe_op op_add (pv 3) pe_int) (pa_cons (pe_callB (cLen K) (by rfl) ml PySem.boot_len (pa_cons (pv 0) pa_nil)) pa_nil))) (pg_name (i := 6) nd rfl (.inl rfl))
        (pss_cons (ps_set (i := 7) nd rfl (.inl rfl) (pe_op op_fdivX (pe_ix (iL K) (pe_ix (iL K) (pv 0) (pv 6) (fun _ _ => rfl)) (pv 3) (fun _ _ => rfl)) (pv 4)))
        (pss_cons (ps_asg (pe_tup (pa_cons (pe_call G1 hr (by rfl) g1 k1 b1 .nil pass0 (pa_cons (pe_ix (iL K) (pv 0) (pv 6) (fun _ _ => rfl)) (pa_cons (pe_ix (iL K) (pv 0) (pv 3) (fun _ _ => rfl)) (pa_cons (pv 7) pa_nil))))
            (pa_cons (pe_call G1 hr (by rfl) g1 k1 b1 .nil pass0 (pa_cons (pe_ix (iL K) (pv 1) (pv 6) (fun _ _ => rfl)) (pa_cons (pe_ix (iL K) (pv 1) (pv 3) (fun _ _ => rfl)) (pa_cons (pv 7) pa_nil)))) pa_nil)))
          (pg_tup rfl (pgs_cons (pg_sub (pv 0) (pv 6) set_list) (pgs_cons (pg_sub (pv 1) (pv 6) set_list) pgs_nil))))
        (pss_one (ps_set (i := 5) nd rfl (.inl rfl) (pe_and (pv 5) (pe_one (pe_cmpR op_eq (pe_ix (iL K) (pe_ix (iL K) (pv 0) (pv 6) (fun _ _ => rfl)) (pv 3) (fun _ _ => rfl)) pe_int (nomark _)))))))))
      (pss_cons (ps_for PassesOwn.never rfl (pi_range2 (by rfl) mr (pa_cons (pe_op op_add (pv 3) pe_int) (pa_cons (pe_callB (cLen K) (by rfl) ml PySem.boot_len (pa_cons (pe_ix (iL K) (pv 0) pe_int (fun _ _ => rfl)) pa_nil)) pa_nil))) (pg_name (i := 8) nd rfl (.inl rfl))
        (pss_cons (ps_set (i := 7) nd rfl (.inl rfl) (pe_op op_fdivX (pe_ix (iL K) (pe_ix (iL K) (pv 0) (pv 3) (fun _ _ => rfl)) (pv 8) (fun _ _ => rfl)) (pv 4)))
        (pss_cons (ps_for PassesOwn.never rfl (pi_list (pe_op op_cat (pv 0) (pv 2))) (pg_name (i := 9) nd rfl (.inl rfl))
          (pss_one (ps_augS (pv 9) (pv 8) (gL K) (pe_op op_mulX (pv 7) (pe_ix (iL K) (pv 9) (pv 3) (fun _ _ => rfl))) ip_sub set_list)))
        (pss_one (ps_set (i := 5) nd rfl (.inl rfl) (pe_and (pv 5) (pe_one (pe_cmpR op_eq (pe_ix (iL K) (pe_ix (iL K) (pv 0) (pv 3) (fun _ _ => rfl)) (pv 8) (fun _ _ => rfl)) pe_int (nomark _)))))))))
      (pss_one (ps_ret (pv 5))))), ?_⟩
    have len2 : (2 : Nat) ≤ sizeLine := by decide
    have k1000 : (1000 : Nat) < sizeLine := by decide
    refine ⟨_, rfl, _, rfl, pT, _, _, _, rfl, rfl, .inl (.inl hS.eT), vA_at ah, _, rfl, tA a, _, _, _, rfl, rfl, .inl (.inl (hS.rT a ah)), vI_at aw, _, _, rfl, ?_⟩
    refine ⟨_, rfl, _, _, rfl, rfl, _, rfl, pT, _, rfl, .inl (.inl (.inl hS.eT)), _, _, rfl, by rw [vA_len]; omega, ?_⟩
    rw [vA_len]
    refine for_it (walk_rng2 (n := h - (a + 1)) (by omega)) (fun c σ H' => ∃ (tA' lA' : Nat → Addr) (b : Bool) (y6 y7 : Option V), σ = [some (.ref pT), some (.ref pL), some (.ref pR), some (.int (a : Nat)), some (.int (T a a)), some (.bl b), y6, y7, none, none] ∧
      SmH H0 H' h w pT pL pR tA' lA' rA (partR T T a c) (partR T L a c) R ∧ (b = true ↔ ∀ i, a < i → i < a + 1 + c → sweepR T T a i a = 0)) ⟨tA, lA, true, _, _, rfl, hS.congr ?_ ?_ (fun _ _ _ _ => rfl), by simp; intro i h1 h2; omega⟩ (fun _ _ _ _ _ => trivial) (fun c x σ H1 H2 hc p y => ?_) (fun σ H1 p => ?_)
    · intro i j _ _
      unfold partR; split
      · rw [sweepR_low (by omega)]
      · rfl
    · intro i j _ _
      unfold partR; split
      · rw [sweepR_low (by omega)]
      · rfl
    · obtain ⟨tA', lA', b, y6, y7, rfl, s1, hb⟩ := p
      obtain ⟨rfl, hx⟩ := y
      rw [List.length_range] at hc
      have hi : a + 1 + c < h := by omega
      replace hx : x = V.int ((a + 1 + c : Nat) : Int) := hx.trans (congrArg V.int (show (a : Int) + 1 + (c : Nat) = ((a + 1 + c : Nat) : Int) by omega))
      subst hx
      generalize hI : a + 1 + c = i at *
      have lai : a < i := by omega
      have pT1 : ∀ j, partR T T a c i j = T i j := fun j => by unfold partR; rw [if_neg (by omega)]
      have pL1 : ∀ j, partR T L a c i j = L i j := fun j => by unfold partR; rw [if_neg (by omega)]
      have pTa : ∀ j, partR T T a c a j = T a j := fun j => by
        unfold partR; rw [if_pos (by omega), sweepR_low (Nat.le_refl _)]
      have pLa : ∀ j, partR T L a c a j = L a j := fun j => by
        unfold partR; rw [if_pos (by omega), sweepR_low (Nat.le_refl _)]
      have hf : facR T a i = (T i a).fdiv (T a a) := by unfold facR; rw [if_pos lai]
      have eTi := s1.rT i hi
      have eTa := s1.rT a ah
      have eLi := s1.rL i hi
      have eLa := s1.rL a ah
      refine ⟨_, rfl, _, rfl, pT, _, _, _, rfl, rfl, .inl (.inl s1.eT), vA_at hi, _, rfl, _, _, _, _, rfl, rfl, .inl (.inl eTi), vI_at aw, _, rfl, _, _, rfl, rfl, ok.d, ?_⟩
      rw [pT1 a]
      refine ⟨_, rfl, _, rfl, pT, _, _, _, rfl, rfl, .inl (.inl s1.eT), vA_at hi, _, rfl, _, rfl, pT, _, _, _, rfl, rfl, .inl (.inl s1.eT), vA_at ah, _, rfl, w, tA' i, tA' a, _, _, _, rfl, .inl (.inl eTi), .inl (.inl eTa), hw, fun j hj => by rw [pTa j]; have := ok.mT i lai hi j hj; rw [hf] at this; exact this, fun H2 p1 s2 n1 e1 => ?_⟩
      have sm2 := s1.mono s2
      refine ⟨_, rfl, _, rfl, pL, _, _, _, rfl, rfl, .inl (.inl sm2.eL), vA_at hi, _, rfl, _, rfl, pL, _, _, _, rfl, rfl, .inl (.inl sm2.eL), vA_at ah, _, rfl, h, lA' i, lA' a, _, _, _, rfl, .inl (.inl (sm2.rL i hi)), .inl (.inl (sm2.rL a ah)), hh, fun j hj => by rw [pLa j]; have := ok.mL i lai hi j hj; rw [hf] at this; exact this, fun H3 p2 s3 n2 e2 => ⟨len2, fun t nt => ⟨t, _, rfl, .inl (.inl upd_same), rfl, _, _, rfl, ?_⟩⟩⟩
      have sm4 := (sm2.mono s3).mono (same_new (o := .tup [.ref p1, .ref p2]) nt)
      have e1' : upd H3 t (.tup [.ref p1, .ref p2]) p1 = _ := (same_new nt) _ _ (s3 _ _ e1)
      have e2' : upd H3 t (.tup [.ref p1, .ref p2]) p2 = _ := (same_new nt) _ _ e2
      generalize upd H3 t (.tup [.ref p1, .ref p2]) = H4 at sm4 e1' e2'
      have sm5 := sm4.setT hi e1' (s1.s0.free n1) (fun j hj => Ne.symm (ne_of_none (s1.rT j hj) n1)) (fun j hj => Ne.symm (ne_of_none (s1.rL j hj) n1)) (fun j hj => Ne.symm (ne_of_none (s1.rR j hj) n1))
      refine ⟨_, rfl, _, rfl, pT, _, _, i, rfl, rfl, sm4.eT, ixN_nat (by rw [vA_len]; exact hi), _, _, rfl, _, rfl, _, rfl, pL, _, _, i, rfl, rfl, sm5.eL, ixN_nat (by rw [vA_len]; exact hi), rfl, ?_⟩
      have p21 : p2 ≠ p1 := fun e => by rw [e, e1] at n2; cases n2
      have p2T : p2 ≠ pT := Ne.symm (ne_of_none sm2.eT n2)
      have sm6 := sm5.setL hi (p := p2) (by rw [upd_ne p2T]; exact e2') (fun j hj => by
        unfold setA; split
        · exact p21
        · exact Ne.symm (ne_of_none (sm2.rT j hj) n2)) (fun j hj => Ne.symm (ne_of_none (sm2.rR j hj) n2))
      have sm7 := sm6.congr (T' := partR T T a (c + 1)) (L' := partR T L a (c + 1)) (R' := R) (fun i' j _ _ => by
        unfold setR
        split
        · rename_i e; rw [e]
          unfold lessV
          rw [pT1 j, pTa j]
          unfold partR; rw [if_pos (by omega)]
          unfold sweepR; rw [hf]
        · unfold partR
          by_cases q1 : i' < a + 1 + c
          · rw [if_pos q1, if_pos (by omega)]
          · rw [if_neg q1, if_neg (by omega)]) (fun i' j _ _ => by
        unfold setR
        split
        · rename_i e; rw [e]
          unfold lessV
          rw [pL1 j, pLa j]
          unfold partR; rw [if_pos (by omega)]
          unfold sweepR; rw [hf]
        · unfold partR
          by_cases q1 : i' < a + 1 + c
          · rw [if_pos q1, if_pos (by omega)]
          · rw [if_neg q1, if_neg (by omega)]) (fun _ _ _ _ => rfl)
      generalize upd (upd H4 pT _) pL _ = H6 at sm7
      have pi1 : partR T T a (c + 1) i a = sweepR T T a i a := by unfold partR; rw [if_pos (by omega)]
      refine ⟨_, rfl, b, rfl, ?_⟩
      cases b with
      | true =>
        refine iteT ⟨_, rfl, _, rfl, pT, _, _, _, rfl, rfl, .inl (.inl sm7.eT), vA_at hi, _, rfl, _, _, _, _, rfl, rfl, .inl (.inl (sm7.rT i hi)), vI_at aw, rfl, _, _, _, _, _, rfl, sm7, ?_⟩
        rw [pi1, decide_eq_true_iff]
        constructor
        · intro e i' h1 h2
          by_cases q1 : i' = i
          · rw [q1]; exact V.int.inj e
          · exact hb.1 rfl i' h1 (by omega)
        · intro e; exact congrArg V.int (e i lai (by omega))
      | false =>
        refine iteF ⟨_, _, _, _, _, rfl, sm7, ?_⟩
        constructor
        · intro e; cases e
        · intro e
          exact hb.2 fun i' h1 h2 => e i' h1 (by omega)
    · obtain ⟨tA', lA', b, y6, y7, rfl, s1, hb⟩ := p
      rw [List.length_range] at s1 hb
      have s1 := s1.congr (T' := sweepR T T a) (L' := sweepR T L a) (R' := partC T R a 0) (fun i j hi _ => by unfold partR; rw [if_pos (by omega)]) (fun i j hi _ => by unfold partR; rw [if_pos (by omega)]) (fun i j _ _ => by
        unfold partC; split
        · rw [sweepC_low (by omega)]
        · rfl)
      have s1 := s1.congr (T' := partC T (sweepR T T a) a 0) (L' := sweepR T L a) (R' := partC T R a 0) (fun i j _ _ => by
        unfold partC; split
        · rw [sweepC_low (by omega)]
        · rfl) (fun _ _ _ _ => rfl) (fun _ _ _ _ => rfl)
      have hb : b = true ↔ ∀ i, a < i → i < h → sweepR T T a i a = 0 := by rw [hb, show a + 1 + (h - (a + 1)) = h by omega]
      have h0 : 0 < h := by omega
      refine ⟨_, rfl, _, _, rfl, rfl, _, rfl, pT, _, 0, _, rfl, rfl, .inl (.inl s1.eT), vA_at (i := 0) h0, tA' 0, _, rfl, .inl (.inl (.inl (s1.rT 0 h0))), _, _, rfl, by rw [vI_len]; omega, ?_⟩
      rw [vI_len]
      refine for_it (walk_rng2 (i := (a : Int) + 1) (j := (w : Int)) (n := w - (a + 1)) (by omega)) (fun c σ H' => ∃ (b' : Bool) (y6 y7 y8 y9 : Option V), σ = [some (.ref pT), some (.ref pL), some (.ref pR), some (.int (a : Nat)), some (.int (T a a)), some (.bl b'), y6, y7, y8, y9] ∧
        SmH H0 H' h w pT pL pR tA' lA' rA (partC T (sweepR T T a) a c) (sweepR T L a) (partC T R a c) ∧ (b' = true ↔ (∀ i, a < i → i < h → sweepR T T a i a = 0) ∧ ∀ j, a < j → j < a + 1 + c → sweepC T (sweepR T T a) a a j = 0)) ⟨b, _, _, _, _, rfl, s1, hb.trans ⟨fun e => ⟨e, fun j h1 h2 => by omega⟩, fun e => e.1⟩⟩ (fun _ _ _ _ _ => trivial) (fun c x σ H2 H3 hc p y => ?_) (fun σ H2 p => ?_)
      · obtain ⟨b', y6, y7, y8, y9, rfl, s2, hb'⟩ := p
        obtain ⟨rfl, hx⟩ := y
        rw [List.length_range] at hc
        have hj : a + 1 + c < w := by omega
        replace hx : x = V.int ((a + 1 + c : Nat) : Int) := hx.trans (congrArg V.int (show (a : Int) + 1 + (c : Nat) = ((a + 1 + c : Nat) : Int) by omega))
        subst hx
        generalize hJ : a + 1 + c = j at *
        have laj : a < j := by omega
        have hf : facC T a j = (T a j).fdiv (T a a) := by unfold facC; rw [if_pos laj]
        have pTa : partC T (sweepR T T a) a c a j = T a j := by
          unfold partC; rw [if_neg (by omega), sweepR_low (Nat.le_refl _)]
        refine ⟨_, rfl, _, rfl, pT, _, _, _, rfl, rfl, .inl (.inl s2.eT), vA_at ah, _, rfl, _, _, _, _, rfl, rfl, .inl (.inl (s2.rT a ah)), vI_at hj, _, rfl, _, _, rfl, rfl, ok.d, ?_⟩
        rw [pTa]
        refine ⟨_, rfl, _, rfl, pT, pR, _, _, rfl, rfl, s2.eT, s2.eR, by rw [vA_len, vA_len]; omega, fun z nz => ⟨z, rfl, ⟨_, .inl (.inl upd_same)⟩, ?_⟩⟩
        have s3 := s2.mono (same_new (o := .lst (vA h tA' ++ vA w rA)) nz)
        have ez : upd H3 z (.lst (vA h tA' ++ vA w rA)) z = some (.lst (vA h tA' ++ vA w rA)) := upd_same
        generalize upd H3 z (.lst (vA h tA' ++ vA w rA)) = H4 at s3 ez
        refine for_it (walk_list (xs := vA h tA' ++ vA w rA)) (fun m σ H' => ∃ (y9 : Option V), σ = [some (.ref pT), some (.ref pL), some (.ref pR), some (.int (a : Nat)), some (.int (T a a)), some (.bl b'), y6, some (.int ((T a j).fdiv (T a a))), some (.int (j : Nat)), y9] ∧
          H' z = some (.lst (vA h tA' ++ vA w rA)) ∧ SmH H0 H' h w pT pL pR tA' lA' rA (lineC T (sweepR T T a) a c m) (sweepR T L a) (lineC T R a c (m - h))) ⟨_, rfl, ez, s3.congr (fun i' j' _ _ => by unfold lineC; rw [if_neg (by omega)]) (fun _ _ _ _ => rfl) (fun i' j' _ _ => by unfold lineC; rw [if_neg (by omega)])⟩
          (fun m σ H' _ p => .inl (.inl p.choose_spec.2.1)) (fun m x σ G1 G2 hm p y => ?_) (fun σ G p => ?_)
        · obtain ⟨y9, rfl, ez1, s4⟩ := p
          obtain ⟨rfl, hy⟩ := y
          have key : ∀ (v : Vec) (X : Mat) (u : Nat), v = partC T X a c u → v a = X u a ∧ v j = X u j := fun v X u e => by
            rw [e]
            unfold partC
            rw [if_pos (by omega), if_neg (by omega), sweepC_low (Nat.le_refl _)]
            exact ⟨rfl, rfl⟩
          by_cases q1 : m < h
          · rw [List.getElem?_append_left (by rw [vA_len]; exact q1), vA_get q1] at hy
            cases hy
            have e4 := s4.rT m q1
            have rowm : lineC T (sweepR T T a) a c m m = partC T (sweepR T T a) a c m := by funext j'; unfold lineC; rw [if_neg (by omega)]
            rw [rowm] at e4
            obtain ⟨ka, kj⟩ := key _ (sweepR T T a) m rfl
            refine ⟨_, rfl, _, rfl, tA' m, _, j, _, rfl, rfl, .inl (.inl e4), vI_get hj, _, rfl, _, rfl, _, rfl, tA' m, _, _, _, rfl, rfl, .inl (.inl e4), vI_at aw, _, _, rfl, rfl, ?_, _, _, rfl, rfl, tA' m, _, _, j, rfl, rfl, e4, ixN_nat (by rw [vI_len]; exact hj), ?_⟩
            · rw [ka]; have := ok.cT j laj hj m q1; rw [hf] at this; exact this
            · rw [vI_set hj]
              refine ⟨_, rfl, ?_, (s4.rowT (v := fun k' => if k' = j then partC T (sweepR T T a) a c m j - (T a j).fdiv (T a a) * partC T (sweepR T T a) a c m a else partC T (sweepR T T a) a c m k') q1).congr (fun i' j' _ _ => ?_) (fun _ _ _ _ => rfl) (fun i' j' _ _ => by unfold lineC; rw [if_neg (by omega), if_neg (by omega)])⟩
              · rw [upd_ne (cell_ne ez1 e4 (vAA_vI hS.h1))]; exact ez1
              · unfold setR
                split
                · rename_i e; rw [e]
                  unfold lineC; rw [if_pos (by omega)]
                  show (if j' = j then _ else _) = _
                  split
                  · rename_i e2; rw [e2, ka, kj]
                    unfold partC; rw [if_pos (by omega)]
                    unfold sweepC; rw [hf]
                  · unfold partC
                    by_cases q2 : j' < a + 1 + c
                    · rw [if_pos q2, if_pos (by omega)]
                    · rw [if_neg q2, if_neg (by omega)]
                · unfold lineC
                  by_cases q2 : i' < m
                  · rw [if_pos q2, if_pos (by omega)]
                  · rw [if_neg q2, if_neg (by omega)]
          · have hm2 : m - h < w := by rw [List.length_append, vA_len, vA_len] at hm; omega
            rw [List.getElem?_append_right (by rw [vA_len]; omega), vA_len, vA_get hm2] at hy
            cases hy
            have e4 := s4.rR (m - h) hm2
            have rowm : lineC T R a c (m - h) (m - h) = partC T R a c (m - h) := by funext j'; unfold lineC; rw [if_neg (by omega)]
            rw [rowm] at e4
            obtain ⟨ka, kj⟩ := key _ R (m - h) rfl
            refine ⟨_, rfl, _, rfl, rA (m - h), _, j, _, rfl, rfl, .inl (.inl e4), vI_get hj, _, rfl, _, rfl, _, rfl, rA (m - h), _, _, _, rfl, rfl, .inl (.inl e4), vI_at aw, _, _, rfl, rfl, ?_, _, _, rfl, rfl, rA (m - h), _, _, j, rfl, rfl, e4, ixN_nat (by rw [vI_len]; exact hj), ?_⟩
            · rw [ka]; have := ok.cR j laj hj (m - h) hm2; rw [hf] at this; exact this
            · rw [vI_set hj]
              refine ⟨_, rfl, ?_, (s4.rowR (v := fun k' => if k' = j then partC T R a c (m - h) j - (T a j).fdiv (T a a) * partC T R a c (m - h) a else partC T R a c (m - h) k') hm2).congr (fun i' j' hi' _ => by unfold lineC; rw [if_pos (by omega), if_pos (by omega)]) (fun _ _ _ _ => rfl) (fun i' j' _ _ => ?_)⟩
              · rw [upd_ne (cell_ne ez1 e4 (vAA_vI hS.h1))]; exact ez1
              · unfold setR
                split
                · rename_i e; rw [e]
                  unfold lineC; rw [if_pos (by omega)]
                  show (if j' = j then _ else _) = _
                  split
                  · rename_i e2; rw [e2, ka, kj]
                    unfold partC; rw [if_pos (by omega)]
                    unfold sweepC; rw [hf]
                  · unfold partC
                    by_cases q2 : j' < a + 1 + c
                    · rw [if_pos q2, if_pos (by omega)]
                    · rw [if_neg q2, if_neg (by omega)]
                · unfold lineC
                  by_cases q2 : i' < m - h
                  · rw [if_pos q2, if_pos (by omega)]
                  · rw [if_neg q2, if_neg (by omega)]
        · obtain ⟨y9, rfl, ez1, s4⟩ := p
          rw [List.length_append, vA_len, vA_len] at s4
          have s5 := s4.congr (T' := partC T (sweepR T T a) a (c + 1)) (L' := sweepR T L a) (R' := partC T R a (c + 1)) (fun i' j' _ _ => by unfold lineC; rw [if_pos (by omega)]) (fun _ _ _ _ => rfl) (fun i' j' _ _ => by unfold lineC; rw [if_pos (by omega)])
          have pj : partC T (sweepR T T a) a (c + 1) a j = sweepC T (sweepR T T a) a a j := by unfold partC; rw [if_pos (by omega)]
          refine ⟨_, rfl, b', rfl, ?_⟩
          cases b' with
          | true =>
            refine iteT ⟨_, rfl, _, rfl, pT, _, _, _, rfl, rfl, .inl (.inl s5.eT), vA_at ah, _, rfl, _, _, _, _, rfl, rfl, .inl (.inl (s5.rT a ah)), vI_at hj, rfl, _, _, _, _, _, rfl, s5, ?_⟩
            rw [pj, decide_eq_true_iff]
            obtain ⟨g1, g2⟩ := hb'.1 rfl
            constructor
            · intro e
              refine ⟨g1, fun j' h1 h2 => ?_⟩
              by_cases q1 : j' = j
              · rw [q1]; exact V.int.inj e
              · exact g2 j' h1 (by omega)
            · intro e; exact congrArg V.int (e.2 j laj (by omega))
          | false =>
            refine iteF ⟨_, _, _, _, _, rfl, s5, ?_⟩
            constructor
            · intro e; cases e
            · intro e
              exact hb'.2 ⟨e.1, fun j' h1 h2 => e.2 j' h1 (by omega)⟩
      · obtain ⟨b', y6, y7, y8, y9, rfl, s2, hb'⟩ := p
        rw [List.length_range] at s2 hb'
        refine ⟨_, rfl, q _ tA' lA' b' (s2.congr (fun i j _ hj => by unfold partC; rw [if_pos (by omega)]) (fun _ _ _ _ => rfl) (fun i j _ hj => by unfold partC; rw [if_pos (by omega)])) ?_⟩
        rw [hb', show a + 1 + (w - (a + 1)) = w by omega]
        have : ∀ i, sweepC T (sweepR T T a) a i a = sweepR T T a i a := fun i => sweepC_low (Nat.le_refl _) i
        simp only [this]
end
end K17
end
section
set_option Elab.async false
set_option linter.all false
set_option maxRecDepth 100000
namespace K17
open PySem PySem.Spec PyProof.Rows L2
theorem bl_any {f : Nat → Bool} {n : Nat} : (((List.range n).map f).any id) = true ↔ ∃ z, z < n ∧ f z = true := by
  rw [List.any_map, List.any_eq_true]
  constructor
  · rintro ⟨z, h1, h2⟩; exact ⟨z, by simpa using h1, h2⟩
  · rintro ⟨z, h1, h2⟩; exact ⟨z, by simpa using h1, h2⟩
section
variable {P : Program} {w : World} {K : PySem.W.Frag} {mg : Str → Option Value} {base : Heap}
abbrev nUf : List Str := ["told", "left", "at", "row", "entry"]
theorem scUf : FnScope nUf ["told", "left", "at"] (defScope (topS 21)) := ⟨rfl, rfl, rfl, by decide +kernel, rfl, by decide +kernel, by decide +kernel⟩
def spUnfit (K : PySem.W.Frag) : L2.Sp := fun vs H Q _ => ∃ (H0 : Hp) (h w : Nat) (pT pL pR : Addr) (tA lA rA : Nat → Addr) (s : SM), vs = [.ref pT, .ref pL, .int (s.a : Nat)] ∧ SmH H0 H h w pT pL pR tA lA rA s.T s.L s.R ∧ h ≤ 8 ∧ w ≤ 8 ∧ s.a < h ∧ s.a < w ∧ s.T s.a s.a ≠ 0 ∧
  (∀ i, s.a < i → i < h → (∀ j, j < w → MulFit (-1) (s.T i j)) ∧ ∀ j, j < h → MulFit (-1) (s.L i j)) ∧
  (∀ H' tA' lA' i, Unfit h w s i → SmH H0 H' h w pT pL pR tA' lA' rA (addRow s i).T (addRow s i).L s.R → Q (.bl true) H') ∧
  (∀ H', (∀ i, s.a < i → i < h → ¬ BadRow w s i) → SmH H0 H' h w pT pL pR tA lA rA s.T s.L s.R → Q (.bl false) H')
set_option maxHeartbeats 4000000 in
theorem ok_unfit {f : Addr} {fd : FuncData} {k : Nat} (F : Fun K "unfit" "unfit" (topS 21) f fd) (C : Cal P w K mg base k "less" ["row", "other", "factor"] (spLess K))
    (mr : mg "range" = none) (ml : mg "len" = none) (ma : mg "any" = none) : FnOk P w K mg base CX0 (k + 1) f fd ["told", "left", "at"] (spUnfit K) := by
  obtain ⟨f1, fd1, G1, g1, k1, b1⟩ := C
  refine F.ok scUf (fun vs H Q E h => ?_) (fun cdv A outer s H vs Q E hr h => ?_)
  · obtain ⟨_, _, _, _, _, _, _, _, _, _, rfl, _⟩ := h
    rfl
  · obtain ⟨H0, h, w, pT, pL, pR, tA, lA, rA, ⟨T, L, R, a⟩, rfl, hS, hh, hw, ah, aw, nz, mf, qt, qf⟩ := h
    have nd := scUf.nd
    have hS : SmH H0 H h w pT pL pR tA lA rA T L R := hS
    have ah : a < h := ah
    have aw : a < w := aw
    have nz : T a a ≠ 0 := nz
    refine ⟨_, pss_cons (ps_for PassesOwn.never rfl (pi_range2 (by rfl) mr (pa_cons (pe_op op_add (pv 2) pe_int) (pa_cons (pe_callB (cLen K) (by rfl) ml PySem.boot_len (pa_cons (pv 0) pa_nil)) pa_nil))) (pg_name (i := 3) nd rfl (.inl rfl))
        (pss_one (ps_if (pt_val (pe_callB (cAny K) (by rfl) ma PyProof.Rows.boot_any (pa_cons (pe_lc (own := [("entry", 4)]) (g := gName 4) (tt := tYes) rfl nd (pi_list (pe_slice sl_list (pe_ix (iL K) (pv 0) (pv 3) (fun _ _ => rfl)) (po_some (pe_op op_add (pv 2) pe_int)) po_none)) (blkOk_by (N := nUf) (sc := defScope (topS 21)) (by decide +kernel))
            (fun _ _ _ _ _ => pg_name (i := 4) nd rfl (Or.inl rfl)) (fun _ _ _ _ _ => pts_nil) (fun _ _ _ _ _ => pe_cmpR op_ne (pe_op op_modX (pv 4) (pe_ix (iL K) (pe_ix (iL K) (pv 0) (pv 2) (fun _ _ => rfl)) (pv 2) (fun _ _ => rfl))) pe_int (nomark _))) pa_nil)))
          (pss_cons (ps_asg (pe_call G1 hr (by rfl) g1 k1 b1 .nil pass0 (pa_cons (pe_ix (iL K) (pv 0) (pv 2) (fun _ _ => rfl)) (pa_cons (pe_ix (iL K) (pv 0) (pv 3) (fun _ _ => rfl)) (pa_cons (pe_un un_neg pe_int) pa_nil)))) (pg_sub (pv 0) (pv 2) set_list))
          (pss_cons (ps_asg (pe_call G1 hr (by rfl) g1 k1 b1 .nil pass0 (pa_cons (pe_ix (iL K) (pv 1) (pv 2) (fun _ _ => rfl)) (pa_cons (pe_ix (iL K) (pv 1) (pv 3) (fun _ _ => rfl)) (pa_cons (pe_un un_neg pe_int) pa_nil)))) (pg_sub (pv 1) (pv 2) set_list))
          (pss_one (ps_ret pe_bl)))) pss_nil)))
      (pss_one (ps_ret pe_bl)), ?_⟩
    refine ⟨_, rfl, _, _, rfl, rfl, _, rfl, pT, _, rfl, .inl (.inl (.inl hS.eT)), _, _, rfl, by rw [vA_len]; omega, ?_⟩
    rw [vA_len]
    refine for_it (walk_rng2 (i := (a : Int) + 1) (j := (h : Int)) (n := h - (a + 1)) (by omega)) (fun c σ H' => ∃ (y3 : Option V), σ = [some (.ref pT), some (.ref pL), some (.int (a : Nat)), y3, none] ∧
      SmH H0 H' h w pT pL pR tA lA rA T L R ∧ ∀ i, a < i → i < a + 1 + c → ¬ BadRow w ⟨T, L, R, a⟩ i) ⟨_, rfl, hS, fun i h1 h2 => by omega⟩ (fun _ _ _ _ _ => trivial) (fun c x σ H1 H2 hc p y => ?_) (fun σ H1 p => ?_)
    · obtain ⟨y3, rfl, s1, hb⟩ := p
      obtain ⟨rfl, hx⟩ := y
      rw [List.length_range] at hc
      have hi : a + 1 + c < h := by omega
      replace hx : x = V.int ((a + 1 + c : Nat) : Int) := hx.trans (congrArg V.int (show (a : Int) + 1 + (c : Nat) = ((a + 1 + c : Nat) : Int) by omega))
      subst hx
      generalize hI : a + 1 + c = i at *
      have lai : a < i := by omega
      refine ⟨_, rfl, _, rfl, pT, _, _, _, rfl, rfl, .inl (.inl s1.eT), vA_at hi, _, rfl, _, _, rfl, rfl, _, rfl, tA i, _, rfl, .inl (.inl (s1.rT i hi)), fun z nz' => ⟨z, rfl, ⟨_, .inl (.inl upd_same)⟩, fun D nD => ?_⟩⟩
      have s2 := s1.mono (same_new (o := .lst (cutV (vI w (T i)) (some ((a : Int) + 1)) none)) nz')
      have ez : upd H2 z (.lst (cutV (vI w (T i)) (some ((a : Int) + 1)) none)) z = some (.lst ((vI w (T i)).drop (a + 1))) := by
        rw [upd_same, show (a : Int) + 1 = ((a + 1 : Nat) : Int) by omega, cut_drop]
      generalize upd H2 z (.lst (cutV (vI w (T i)) (some ((a : Int) + 1)) none)) = H3 at s2 ez nD
      have lz : ((vI w (T i)).drop (a + 1)).length = w - (a + 1) := by rw [List.length_drop, vI_len]
      refine lc_map (zs := List.range (w - (a + 1))) (Y := YAt ((vI w (T i)).drop (a + 1))) (by have := walk_list (K := K) (a := z) (xs := (vI w (T i)).drop (a + 1)); rw [lz] at this; rw [List.length_range]; exact this) (fun j y _ => y = V.bl (decide ((T i (a + 1 + j)).fmod (T a a) ≠ 0))) (fun _ _ _ _ q _ => q) nD (by simp; omega) (fun _ s => s.seq (.inl (.inl ez))) (fun i2 j x G1 G2 Qb hz s3 hacc y qb => ?_) (fun H4 ws s3 e1 r1 => ?_)
      · obtain ⟨rfl, hy⟩ := y
        obtain ⟨rfl, hj⟩ := range_at hz
        rw [List.getElem?_drop, vI_get (by omega)] at hy
        cases hy
        have s4 := s2.mono s3
        refine ⟨rfl, _, rfl, _, rfl, _, rfl, pT, _, _, _, rfl, rfl, .inl (.inl s4.eT), vA_at ah, _, rfl, _, _, _, _, rfl, rfl, .inl (.inl (s4.rT a ah)), vI_at aw, _, _, rfl, rfl, nz, rfl, qb _ _ (Same.refl _) ?_⟩
        by_cases e : (T i (a + 1 + j)).fmod (T a a) = 0
        · simp [e]
        · simp [e]
      · have r1 := bl_of (f := fun j => decide ((T i (a + 1 + j)).fmod (T a a) ≠ 0)) r1
        have s4 := s2.mono s3
        refine ⟨D, _, rfl, .inl (.inl (by rw [e1, r1])), _, rfl, ?_⟩
        have hbad : (((List.range (w - (a + 1))).map fun j => decide ((T i (a + 1 + j)).fmod (T a a) ≠ 0)).any id) = true ↔ BadRow w ⟨T, L, R, a⟩ i := by
          rw [bl_any]
          constructor
          · rintro ⟨j, h1, h2⟩
            exact ⟨a + 1 + j, show a < _ by omega, by omega, of_decide_eq_true h2⟩
          · rintro ⟨j, h1, h2, h3⟩
            have h1 : a < j := h1
            refine ⟨j - (a + 1), by omega, decide_eq_true ?_⟩
            rw [show a + 1 + (j - (a + 1)) = j by omega]; exact h3
        by_cases bad : BadRow w ⟨T, L, R, a⟩ i
        · refine itT (hbad.2 bad) ?_
          have mfT := (mf i lai hi).1
          have mfL := (mf i lai hi).2
          refine ⟨_, rfl, _, rfl, pT, _, _, _, rfl, rfl, .inl (.inl s4.eT), vA_at ah, _, rfl, _, rfl, pT, _, _, _, rfl, rfl, .inl (.inl s4.eT), vA_at hi, _, rfl, w, tA a, tA i, _, _, _, rfl, .inl (.inl (s4.rT a ah)), .inl (.inl (s4.rT i hi)), hw, mfT, fun H5 p1 s5 n1 e5 => ?_⟩
          have s6 := s4.mono s5
          have s7 := s6.setT ah e5 (s4.s0.free n1) (fun j hj => Ne.symm (ne_of_none (s4.rT j hj) n1)) (fun j hj => Ne.symm (ne_of_none (s4.rL j hj) n1)) (fun j hj => Ne.symm (ne_of_none (s4.rR j hj) n1))
          refine ⟨_, rfl, _, rfl, pT, _, _, a, rfl, rfl, s6.eT, ixN_nat (by rw [vA_len]; exact ah), ?_⟩
          refine ⟨_, rfl, _, rfl, pL, _, _, _, rfl, rfl, .inl (.inl s7.eL), vA_at ah, _, rfl, _, rfl, pL, _, _, _, rfl, rfl, .inl (.inl s7.eL), vA_at hi, _, rfl, h, lA a, lA i, _, _, _, rfl, .inl (.inl (s7.rL a ah)), .inl (.inl (s7.rL i hi)), hh, mfL, fun H6 p2 s8 n2 e6 => ?_⟩
          have s9 := s7.mono s8
          have s10 := s9.setL ah e6 (fun j hj => Ne.symm (ne_of_none (s7.rT j hj) n2)) (fun j hj => Ne.symm (ne_of_none (s7.rR j hj) n2))
          exact ⟨_, rfl, _, rfl, pL, _, _, a, rfl, rfl, s9.eL, ixN_nat (by rw [vA_len]; exact ah), qt _ _ _ i ⟨lai, hi, bad, fun k h1 h2 => hb k h1 h2⟩ s10⟩
        · refine itF (by
            cases e : (((List.range (w - (a + 1))).map fun j => decide ((T i (a + 1 + j)).fmod (T a a) ≠ 0)).any id) with
            | true => exact absurd (hbad.1 e) bad
            | false => rfl) ⟨_, rfl, s4, fun k h1 h2 => ?_⟩
          by_cases q1 : k = i
          · rw [q1]; exact bad
          · exact hb k h1 (by omega)
    · obtain ⟨y3, rfl, s1, hb⟩ := p
      rw [List.length_range] at hb
      exact qf _ (fun i h1 h2 => hb i h1 (by omega)) s1
end
end K17
end
section
set_option Elab.async false
set_option linter.all false
set_option maxRecDepth 100000
namespace K17
open PySem PySem.Spec PyProof.Rows L2
/-! what the walk's steps ask, from FitW -/
theorem mf_of {a b : Nat} {i j : Int} (hi : i.natAbs < 2 ^ a) (hj : j.natAbs < 2 ^ b) (h : a + b ≤ 134217728) : MulFit i j := ⟨a, b, hi, hj, h⟩
theorem lt_up {x m n : Nat} (h : x < 2 ^ m) (hm : m ≤ n) : x < 2 ^ n := Nat.lt_of_lt_of_le h (pow_mono hm)
theorem le_up {x m : Nat} (h : x ≤ 2 ^ m) : x < 2 ^ (m + 1) := Nat.lt_of_le_of_lt h (Nat.pow_lt_pow_right (by decide) (by omega))
section
variable {h w : Nat} {s : SM} {r c : Nat}
theorem swT_lt {n : Nat} (f : ∀ i j, i < h → j < w → (s.T i j).natAbs < 2 ^ n) (p : Pick h w s.T s.a r c) {i j : Nat} (hi : i < h) (hj : j < w) : (swT s r c i j).natAbs < 2 ^ n :=
  f _ _ (swN_lt (Nat.lt_of_le_of_lt p.r0 p.r1) p.r1 hi) (swN_lt (Nat.lt_of_le_of_lt p.c0 p.c1) p.c1 hj)
theorem sw_ok (f : FitW h w s) (p : Pick h w s.T s.a r c) : SwOk h w (swT s r c) (swapR s.L s.a r) (swapC s.R s.a c) s.a := by
  have ah : s.a < h := Nat.lt_of_le_of_lt p.r0 p.r1
  have aw : s.a < w := Nat.lt_of_le_of_lt p.c0 p.c1
  obtain ⟨b, hb, fl, fr⟩ := f.lr
  have fT := fun {i j : Nat} (hi : i < h) (hj : j < w) => swT_lt f.t p hi hj
  have nz : swT s r c s.a s.a ≠ 0 := by rw [swT_pivot]; exact p.ne
  have FR : ∀ {i}, s.a < i → i < h → (facR (swT s r c) s.a i).natAbs < 2 ^ 8998 := fun {i} q hi => by
    unfold facR; rw [if_pos q]
    exact Nat.lt_of_le_of_lt (fdiv_le nz) (fT hi aw)
  have FC : ∀ {j}, s.a < j → j < w → (facC (swT s r c) s.a j).natAbs < 2 ^ 8998 := fun {j} q hj => by
    unfold facC; rw [if_pos q]
    exact Nat.lt_of_le_of_lt (fdiv_le nz) (fT ah hj)
  refine ⟨⟨nz, lt_up (fT ah aw) (by decide)⟩, fun i q hi j hj => mf_of (FR q hi) (fT ah hj) (by decide), fun i q hi j hj => ?_, fun j q hj i hi => ?_, fun j q hj i hi => ?_⟩
  · refine mf_of (FR q hi) (b := b + 1) (le_up ?_) (by omega)
    exact fl _ _ (swN_lt ah p.r1 ah) hj
  · refine mf_of (FC q hj) (b := 8998) ?_ (by decide)
    unfold sweepR
    by_cases q2 : s.a < i
    · unfold facR; rw [if_pos q2, fm_def]
      exact Nat.lt_trans (fm_lt nz) (fT ah aw)
    · unfold facR; rw [if_neg q2, Int.zero_mul, Int.sub_zero]
      exact fT hi aw
  · refine mf_of (FC q hj) (b := b + 1) (le_up ?_) (by omega)
    exact fr _ _ hi (swN_lt aw p.c1 aw)
theorem neg_ok {h w : Nat} {s : SM} (f : FitW h w s) {i : Nat} (hi : i < h) : (∀ j, j < w → MulFit (-1) (s.T i j)) ∧ ∀ j, j < h → MulFit (-1) (s.L i j) := by
  obtain ⟨b, hb, fl, fr⟩ := f.lr
  refine ⟨fun j hj => mf_of (a := 1) (b := 8998) (by decide) (f.t i j hi hj) (by decide), fun j hj => mf_of (a := 1) (b := b + 1) (by decide) (le_up (fl i j hi hj)) (by omega)⟩
end
/-! a run with its length -/
inductive RunN (P : SM → Prop) (h w : Nat) : Nat → SM → SM → Prop
  | done {s : SM} (p : P s) (d : Done h w s) : RunN P h w 0 s s
  | more {n : Nat} {s t u : SM} (p : P s) (x : Stp h w s t) (r : RunN P h w n t u) : RunN P h w (n + 1) s u
theorem runN {P : SM → Prop} {h w : Nat} {s t : SM} (x : SmRun P h w s t) : ∃ n, RunN P h w n s t := by
  induction x with
  | done p d => exact ⟨0, .done p d⟩
  | more p x _ ih => obtain ⟨n, r⟩ := ih; exact ⟨n + 1, .more p x r⟩
theorem RunN.fit {P : SM → Prop} {h w n : Nat} {s t : SM} (x : RunN P h w n s t) : P s := by cases x <;> assumption
end K17
end
section
set_option Elab.async false
set_option linter.all false
set_option maxRecDepth 100000
namespace K17
open PySem PySem.Spec PyProof.Rows L2
/-! a comprehension over two ranges -/
theorem lc2_rng {J : It} {n n1 : Nat} {f f1 : Nat → V} (w : Walk J n (fun _ => True) (YFn f)) {g g1 : TG} {wi1 : TI} {te : TE} {vs vs1 : List Nat} {σ : L2.St} {σi : Nat → L2.St} {σij : Nat → Nat → L2.St} {H1 : Hp} {D : Addr} {Qd : Hp → Prop}
    (P : Nat × Nat → V → Hp → Prop) (mono : ∀ z y H H', P z y H → Same H H' → P z y H') (nD : H1 D = none) (hn : n ≤ 8) (hn1 : n1 ≤ 8)
    (hg : ∀ (i : Nat) (H : Hp) (Q : L2.St → Hp → Prop), Q (σi i) H → g (f i) (wipe σ vs) H Q) (hw : ∀ i, wipe (σi i) vs = wipe σ vs)
    (hi : ∀ (i : Nat) (H : Hp) (R : It → Hp → Prop), i < n → Same H1 H → (∀ J1, Walk J1 n1 (fun _ => True) (YFn f1) → R J1 H) → wi1 (σi i) H R)
    (hg1 : ∀ (i j : Nat) (H : Hp) (Q : L2.St → Hp → Prop), Q (σij i j) H → g1 (f1 j) (wipe (σi i) vs1) H Q) (hw1 : ∀ i j, wipe (σij i j) vs1 = wipe (σi i) vs1)
    (he : ∀ (i j : Nat) (H : Hp) (Qb : V → Hp → Prop), i < n → j < n1 → Same H1 H → (∃ acc, H D = some (.lst acc)) → (∀ y H4, Same H H4 → P (i, j) y (hide D H4) → Qb y H4) → te (σij i j) H Qb)
    (hd : ∀ H ys, Same H1 H → H D = some (.lst ys) → Rel2 (fun z y => P z y (hide D H)) ((List.range n).flatMap fun i => (List.range n1).map fun j => (i, j)) ys → Qd H) :
    ∃ W : Nat → Nat → Hp → Prop, (∃ m, W 0 m (upd H1 D (.lst []))) ∧ ∀ i m H, W i m H →
      (J.stop i H ∧ Qd H) ∨ (J.go i H ∧ ∃ Nx : Hp → Prop, (∀ H', Nx H' → ∃ m', m' < m ∧ W (i + 1) m' H') ∧ ∀ x H', J.yld i H x H' → g x (wipe σ vs) H' fun σ2 H2 => wipe σ2 vs = wipe σ vs ∧ tYes σ2 H2 fun b H3 =>
        if b = true then wi1 σ2 H3 fun J1 H4 => ∃ W1 : Nat → Nat → Hp → Prop, (∃ m, W1 0 m H4) ∧ ∀ j k H, W1 j k H →
          (J1.stop j H ∧ Nx H) ∨ (J1.go j H ∧ ∃ Nx1 : Hp → Prop, (∀ H', Nx1 H' → ∃ k', k' < k ∧ W1 (j + 1) k' H') ∧ ∀ x H', J1.yld j H x H' → g1 x (wipe σ2 vs1) H' fun σ3 H5 => wipe σ3 vs1 = wipe σ2 vs1 ∧ tYes σ3 H5 fun b H6 =>
            if b = true then te σ3 H6 fun y H7 => ∃ acc, H7 D = some (.lst acc) ∧ acc.length < sizeLine ∧ Nx1 (upd H7 D (.lst (acc ++ [y]))) else Nx1 H6)
        else Nx H3) := by
  have k1000 : (1000 : Nat) < sizeLine := by decide
  have ln : ∀ i, ((List.range i).flatMap fun i => (List.range n1).map fun j => (i, j)).length = i * n1 := fun i => by
    induction i with
    | zero => simp
    | succ i ih => rw [List.range_succ, List.flatMap_append, List.length_append, ih]; simp [Nat.succ_mul]
  refine ⟨fun i m H => m = n - i ∧ i ≤ n ∧ Same H1 H ∧ ∃ ys, H D = some (.lst ys) ∧ Rel2 (fun z y => P z y (hide D H)) ((List.range i).flatMap fun i => (List.range n1).map fun j => (i, j)) ys, ⟨n, by simp, Nat.zero_le _, same_new nD, [], upd_same, by simp; exact .nil⟩, ?_⟩
  rintro i m H ⟨rfl, hin, s, ys, e, r⟩
  by_cases hlt : i < n
  · refine .inr ⟨w.goes i H hlt trivial, fun H' => Same H1 H' ∧ ∃ ys, H' D = some (.lst ys) ∧ Rel2 (fun z y => P z y (hide D H')) ((List.range (i + 1)).flatMap fun i => (List.range n1).map fun j => (i, j)) ys, fun H' p => ⟨n - (i + 1), by omega, rfl, hlt, p⟩, fun x H' y => ?_⟩
    obtain ⟨rfl, rfl⟩ := w.yields i H x H' hlt trivial y
    refine hg i _ _ ⟨hw i, ?_⟩
    refine hi i _ _ hlt s fun J1 w1 => ?_
    refine ⟨fun j k G => k = n1 - j ∧ j ≤ n1 ∧ Same H1 G ∧ ∃ ys, G D = some (.lst ys) ∧ Rel2 (fun z y => P z y (hide D G)) (((List.range i).flatMap fun i => (List.range n1).map fun j => (i, j)) ++ (List.range j).map fun j => (i, j)) ys, ⟨n1, by simp, Nat.zero_le _, s, ys, e, by simpa using r⟩, ?_⟩
    rintro j k G ⟨rfl, hjn, s2, zs, e2, r2⟩
    by_cases hl2 : j < n1
    · refine .inr ⟨w1.goes j G hl2 trivial, fun H' => Same H1 H' ∧ ∃ ys, H' D = some (.lst ys) ∧ Rel2 (fun z y => P z y (hide D H')) (((List.range i).flatMap fun i => (List.range n1).map fun j => (i, j)) ++ (List.range (j + 1)).map fun j => (i, j)) ys, fun H' p => ⟨n1 - (j + 1), by omega, rfl, hl2, p⟩, fun x H' y => ?_⟩
      obtain ⟨rfl, rfl⟩ := w1.yields j G x H' hl2 trivial y
      refine hg1 i j _ _ ⟨hw1 i j, ?_⟩
      refine he i j _ _ hlt hl2 s2 ⟨_, e2⟩ fun v H4 s4 pv => ⟨zs, s4 _ _ e2, ?_, ?_, zs ++ [v], upd_same, ?_⟩
      · have l2 := r2.len
        rw [List.length_append, ln] at l2
        simp at l2
        have : i * n1 ≤ 8 * 8 := Nat.mul_le_mul (by omega) hn1
        omega
      · intro b o h
        have hb : b ≠ D := ne_of_none h nD
        rw [upd_ne hb]; exact s4 _ _ (s2 _ _ h)
      · rw [List.range_succ, List.map_append, ← List.append_assoc]
        exact Rel2.app (r2.imp fun z y q => mono z y _ _ q ((same_hide s4).trans same_hide_upd2)) (.one (mono _ _ _ _ pv same_hide_upd2))
    · have ej : j = n1 := by omega
      subst ej
      refine .inl ⟨w1.stops G trivial, s2, zs, e2, ?_⟩
      rw [List.range_succ, List.flatMap_append]
      simpa using r2
  · have ei : i = n := by omega
    subst ei
    exact .inl ⟨w.stops H trivial, hd H ys s e r⟩
end K17
end
section
set_option Elab.async false
set_option linter.all false
set_option maxRecDepth 100000
namespace K17
open PySem PySem.Spec PyProof.Rows L2
/-! changes of rows and columns -/
theorem range_swap {α : Type} {n a r : Nat} {f : Nat → α} (ha : a < n) (hr : r < n) : (((List.range n).map f).set a (f r)).set r (f a) = (List.range n).map fun k => f (swN a r k) := by
  apply List.ext_getElem?
  intro k
  rw [List.getElem?_set, List.getElem?_set]
  simp only [List.getElem?_map, List.length_map, List.length_range, List.length_set]
  by_cases hk : k < n
  · rw [List.getElem?_range hk]
    unfold swN
    by_cases e1 : r = k
    · subst e1
      simp [hr]
      by_cases e2 : r = a
      · rw [if_pos e2, e2]
      · rw [if_neg e2]
    · by_cases e2 : a = k
      · subst e2; simp [e1, ha, Ne.symm e1]
      · simp [e1, e2, Ne.symm e1, Ne.symm e2]
  · rw [List.getElem?_eq_none (by simpa using hk)]
    rw [if_neg (show ¬ r = k by omega), if_neg (show ¬ a = k by omega)]
    rfl
theorem vA_swap {h a r : Nat} {A : Nat → Addr} (ha : a < h) (hr : r < h) : ((vA h A).set a (.ref (A r))).set r (.ref (A a)) = vA h fun k => A (swN a r k) := range_swap (f := fun i => V.ref (A i)) ha hr
theorem vI_swap {w a c : Nat} {v : Nat → Int} (ha : a < w) (hc : c < w) : ((vI w v).set a (.int (v c))).set c (.int (v a)) = vI w fun k => v (swN a c k) := range_swap (f := fun i => V.int (v i)) ha hc
theorem swN_inj {a r i j : Nat} (h : i ≠ j) : swN a r i ≠ swN a r j := fun e => h (by rw [← swN_swN a r i, e, swN_swN])
section
variable {H0 H : Hp} {h w : Nat} {pT pL pR : Addr} {tA lA rA : Nat → Addr} {T L R : Mat}
/-- told[a], told[r] changed -/
theorem SmH.permT (s : SmH H0 H h w pT pL pR tA lA rA T L R) {a r : Nat} (ha : a < h) (hr : r < h) : SmH H0 (upd H pT (.lst (vA h fun k => tA (swN a r k)))) h w pT pL pR (fun k => tA (swN a r k)) lA rA (swapR T a r) L R := by
  obtain ⟨⟨c1, c2, c3⟩, c4, c5, c6⟩ := s.cells
  have sw : ∀ k, k < h → swN a r k < h := fun k hk => swN_lt ha hr hk
  exact { s with
    eT := upd_same
    eL := by rw [upd_ne c1.symm]; exact s.eL
    eR := by rw [upd_ne c2.symm]; exact s.eR
    rT := fun k hk => by rw [upd_ne (c4 _ (sw k hk)).1]; exact s.rT _ (sw k hk)
    rL := fun k hk => by rw [upd_ne (c5 k hk).1]; exact s.rL k hk
    rR := fun k hk => by rw [upd_ne (c6 k hk).1]; exact s.rR k hk
    tt := fun i j hi hj n => s.tt _ _ (sw i hi) (sw j hj) (swN_inj n)
    tr := fun i j hi hj => s.tr _ _ (sw i hi) hj
    tl := fun i j hi hj => s.tl _ _ (sw i hi) hj
    s0 := same0_upd s.s0 s.nT
    nt := fun i hi => s.nt _ (sw i hi) }
/-- left[a], left[r] changed -/
theorem SmH.permL (s : SmH H0 H h w pT pL pR tA lA rA T L R) {a r : Nat} (ha : a < h) (hr : r < h) : SmH H0 (upd H pL (.lst (vA h fun k => lA (swN a r k)))) h w pT pL pR tA (fun k => lA (swN a r k)) rA T (swapR L a r) R := by
  obtain ⟨⟨c1, c2, c3⟩, c4, c5, c6⟩ := s.cells
  have sw : ∀ k, k < h → swN a r k < h := fun k hk => swN_lt ha hr hk
  exact { s with
    eT := by rw [upd_ne c1]; exact s.eT
    eL := upd_same
    eR := by rw [upd_ne c3.symm]; exact s.eR
    rT := fun k hk => by rw [upd_ne (c4 k hk).2.1]; exact s.rT k hk
    rL := fun k hk => by rw [upd_ne (c5 _ (sw k hk)).2.1]; exact s.rL _ (sw k hk)
    rR := fun k hk => by rw [upd_ne (c6 k hk).2.1]; exact s.rR k hk
    tl := fun i j hi hj => s.tl _ _ hi (sw j hj)
    rl := fun i j hi hj => s.rl _ _ hi (sw j hj)
    s0 := same0_upd s.s0 s.nL }
end
/-- the first m lines' columns changed -/
def lineS (X : Mat) (a c m : Nat) : Mat := fun i j => if i < m then X i (swN a c j) else X i j
theorem upd_upd {H : Hp} {a : Addr} {o1 o2 : HO} : upd (upd H a o1) a o2 = upd H a o2 := by
  funext b
  by_cases e : b = a
  · rw [e, upd_same, upd_same]
  · rw [upd_ne e, upd_ne e, upd_ne e]
theorem t3_can : ∀ ts : List T3, PyData.canLayAll0 (ts.map t3D) = true ∧ PyData.depthAll (ts.map t3D) ≤ 1
  | [] => ⟨rfl, Nat.zero_le _⟩
  | t :: ts => by
    obtain ⟨h1, h2⟩ := t3_can ts
    refine ⟨?_, ?_⟩
    · rw [List.map_cons]; unfold PyData.canLayAll0; rw [h1]; rfl
    · rw [List.map_cons]; unfold PyData.depthAll
      have : (t3D t).depth = 1 := rfl
      omega
theorem t3_eq {K : PySem.W.Frag} {H : Hp} {p o : Addr} {ts : List T3} {ys : List V} (h : Rel2 (IsT3 H) ts ys) (hp : SqL K H p ys) (ho : H o = some (.lst [])) {Q : VK} (q : Q (.bl (decide (ts.length = 0))) H) : rEqD K (.ref p) (.ref o) H Q := by
  obtain ⟨c1, c2⟩ := t3_can ts
  exact (rows_eqs (t3_dp h) c1 c2 (by simp) hp ho).2 q
end K17
end
section
set_option Elab.async false
set_option linter.all false
set_option maxRecDepth 100000
namespace K17
open PySem PySem.Spec PyProof.Rows L2
section
variable {P : Program} {w : World} {K : PySem.W.Frag} {mg : Str → Option Value} {base : Heap}
theorem vA_of (as : List Addr) : as.map V.ref = vA as.length fun i => as.getD i 0 := by
  apply List.ext_getElem?
  intro i
  by_cases h : i < as.length
  · rw [vA_get h, List.getElem?_map, List.getElem?_eq_getElem h, List.getD_eq_getElem?_getD, List.getElem?_eq_getElem h]; rfl
  · rw [List.getElem?_eq_none (by simpa using h), List.getElem?_eq_none (by rw [vA_len]; omega)]
theorem getD_mem {as : List Addr} {i : Nat} (h : i < as.length) : as.getD i 0 ∈ as := by
  rw [List.getD_eq_getElem?_getD, List.getElem?_eq_getElem h]
  exact List.getElem_mem h
theorem getD_ne {as : List Addr} (nd : as.Nodup) {i j : Nat} (hi : i < as.length) (hj : j < as.length) (h : i ≠ j) : as.getD i 0 ≠ as.getD j 0 := by
  have p := List.pairwise_iff_getElem.1 nd
  rw [List.getD_eq_getElem?_getD, List.getElem?_eq_getElem hi, List.getD_eq_getElem?_getD, List.getElem?_eq_getElem hj]
  show as[i] ≠ as[j]
  rcases Nat.lt_or_gt_of_ne h with q | q
  · exact p i j hi hj q
  · exact Ne.symm (p j i hj hi q)
theorem rows_at {w : Nat} {H : Hp} {vs : List Vec} {as : List Addr} (h : Rows w H vs (as.map .ref)) {i : Nat} (hi : i < vs.length) : H (as.getD i 0) = some (.lst (vI w (row vs i))) := by
  obtain ⟨a, ha, q⟩ := rows_get h hi
  have hl := h.len
  rw [List.length_map] at hl
  rw [List.getElem?_map, List.getElem?_eq_getElem (by omega)] at ha
  cases ha
  rw [List.getD_eq_getElem?_getD, List.getElem?_eq_getElem (by omega)]
  exact q
theorem row_units {n i : Nat} (h : i < n) : row ((List.range n).map unitV) i = unitV i := by
  unfold row
  rw [List.getD_eq_getElem?_getD, List.getElem?_map, List.getElem?_range h]; rfl
theorem pairs_len (n1 : Nat) : ∀ i, ((List.range i).flatMap fun i => (List.range n1).map fun j => (i, j)).length = i * n1 := fun i => by
  induction i with
  | zero => simp
  | succ i ih => rw [List.range_succ, List.flatMap_append, List.length_append, ih]; simp [Nat.succ_mul]
def tri (s : SM) (z : Nat × Nat) : T3 := (((s.T (s.a + z.1) (s.a + z.2)).natAbs : Int), ((s.a + z.1 : Nat) : Int), ((s.a + z.2 : Nat) : Int))
def tris (h w : Nat) (s : SM) : List T3 := (((List.range (h - s.a)).flatMap fun i => (List.range (w - s.a)).map fun j => (i, j)).map (tri s)).filter fun t => decide (0 < t.1)
theorem tris_mem {h w : Nat} {s : SM} {t : T3} : t ∈ tris h w s ↔ ∃ r c, s.a ≤ r ∧ r < h ∧ s.a ≤ c ∧ c < w ∧ s.T r c ≠ 0 ∧ t = (((s.T r c).natAbs : Int), ((r : Nat) : Int), ((c : Nat) : Int)) := by
  unfold tris
  rw [List.mem_filter]
  constructor
  · rintro ⟨h1, h2⟩
    obtain ⟨z, hz, rfl⟩ := List.mem_map.1 h1
    obtain ⟨i, hi, hz⟩ := List.mem_flatMap.1 hz
    obtain ⟨j, hj, rfl⟩ := List.mem_map.1 hz
    rw [List.mem_range] at hi hj
    have h2 := of_decide_eq_true h2
    refine ⟨s.a + i, s.a + j, by omega, by omega, by omega, by omega, ?_, rfl⟩
    intro e
    unfold tri at h2
    simp only at h2
    rw [e] at h2
    exact absurd h2 (by decide)
  · rintro ⟨r, c, h1, h2, h3, h4, h5, rfl⟩
    refine ⟨List.mem_map.2 ⟨(r - s.a, c - s.a), List.mem_flatMap.2 ⟨r - s.a, List.mem_range.2 (by omega), List.mem_map.2 ⟨c - s.a, List.mem_range.2 (by omega), rfl⟩⟩, ?_⟩, decide_eq_true (by show (0 : Int) < ((s.T r c).natAbs : Int); omega)⟩
    unfold tri
    simp only
    rw [show s.a + (r - s.a) = r by omega, show s.a + (c - s.a) = c by omega]
theorem tris_pick {h w : Nat} {s : SM} {t : T3} (ht : t ∈ tris h w s) (hle : ∀ u ∈ tris h w s, ¬ t3lt u t) : ∃ r c, Pick h w s.T s.a r c ∧ t = (((s.T r c).natAbs : Int), ((r : Nat) : Int), ((c : Nat) : Int)) := by
  obtain ⟨r, c, h1, h2, h3, h4, h5, rfl⟩ := tris_mem.1 ht
  refine ⟨r, c, ⟨h1, h2, h3, h4, h5, fun r' c' q1 q2 q3 q4 q5 => ?_⟩, rfl⟩
  have := hle _ (tris_mem.2 ⟨r', c', q1, q2, q3, q4, q5, rfl⟩)
  unfold t3lt at this
  unfold lexLe
  simp only at this
  omega
theorem lineS_self {X : Mat} {a c m j : Nat} : lineS X a c m m j = X m j := by unfold lineS; rw [if_neg (by omega)]
theorem lineS_next {X : Mat} {a c m j : Nat} : lineS X a c (m + 1) m j = X m (swN a c j) := by unfold lineS; rw [if_pos (by omega)]
theorem RunN.a_le {P : SM → Prop} {h w n : Nat} {s t : SM} (x : RunN P h w n s t) : s.a ≤ h → s.a ≤ w → t.a ≤ h ∧ t.a ≤ w := by
  induction x with
  | done p d => exact fun a b => ⟨a, b⟩
  | more p x _ ih =>
    intro a b
    cases x with
    | go _ _ => exact ih a b
    | add _ _ _ => exact ih a b
    | next p _ _ => exact ih (show _ + 1 ≤ h by have := p.r0; have := p.r1; omega) (show _ + 1 ≤ w by have := p.c0; have := p.c1; omega)
theorem hide_upd {D p : Addr} {H : Hp} {o : HO} (h : p ≠ D) : upd (hide D H) p o = hide D (upd H p o) := by
  funext b
  by_cases e : b = p
  · rw [e, upd_same, hide_ne h, upd_same]
  · rw [upd_ne e]
    unfold hide
    split
    · rfl
    · rw [upd_ne e]
theorem cMin3 {X : Cx} (K : PySem.W.Frag) (hu : X.A.units + 64 < cLine) (hc : X.calm = true := by rfl) (h : X.K = K := by rfl) : CallR X (.builtin "min") (rMin3 K) := by subst h; exact cr_min3 hc hu
abbrev nSm : List Str := ["rows", "row", "told", "high", "wide", "left", "right", "at", "column", "spots", "size", "line", "factors", "place", "spot", "entry"]
theorem scSm : FnScope nSm ["rows"] (defScope (topS 19)) := ⟨rfl, rfl, rfl, by decide +kernel, rfl, by decide +kernel, by decide +kernel⟩
def spSmith (K : PySem.W.Frag) : L2.Sp := fun vs H Q _ => ∃ (w : Nat) (a : Addr) (A : List (Nat → Int)) (ys : List V) (t : SM), vs = [.ref a] ∧ SqL K H a ys ∧ RowsE K w H A ys ∧ 1 ≤ A.length ∧ A.length ≤ 8 ∧ 1 ≤ w ∧ w ≤ 8 ∧ SmRun (FitW A.length w) A.length w (initM A) t ∧
  ∀ H' p pl pf pr fs (rA : Nat → Addr), Same H H' → H' p = some (.tup [.ref pl, .ref pf, .ref pr]) → H' pf = some (.lst fs) → fs.length = t.a → H' pr = some (.lst (vA w rA)) → (∀ i, i < w → H' (rA i) = some (.lst (vI w (t.R i)))) → Q (.ref p) H'
set_option maxHeartbeats 4000000 in
theorem ok_smith {f : Addr} {fd : FuncData} {k : Nat} (F : Fun K "smith_of" "smith_of" (topS 19) f fd) (C1 : Cal P w K mg base k "unit" ["size"] spUnit) (C2 : Cal P w K mg base k "swept" ["told", "left", "right", "at"] (spSwept K)) (C3 : Cal P w K mg base k "unfit" ["told", "left", "at"] (spUnfit K))
    (mr : mg "range" = none) (ml : mg "len" = none) (mm : mg "min" = none) (mli : mg "list" = none) (mab : mg "abs" = none) : FnOk P w K mg base CX0 (k + 1) f fd ["rows"] (spSmith K) := by
  obtain ⟨f1, fd1, G1, g1, k1, b1⟩ := C1
  obtain ⟨f2, fd2, G2, g2, k2, b2⟩ := C2
  obtain ⟨f3, fd3, G3, g3, k3, b3⟩ := C3
  refine F.ok scSm (fun vs H Q E h => ?_) (fun cdv A outer s H vs Q E hr h => ?_)
  · obtain ⟨_, _, _, _, _, rfl, _⟩ := h
    rfl
  · obtain ⟨w, a, M, ys, t, rfl, hA, hR, h1, h8, w1, w8, run, q⟩ := h
    have nd := scSm.nd
    refine ⟨_, pss_cons (ps_asg (pe_tup (pa_cons (pe_lc (own := [("row", 1)]) (g := gName 1) (tt := tYes) rfl nd (pi_list (pv 0)) (blkOk_by (N := nSm) (sc := defScope (topS 19)) (by decide +kernel))
            (fun _ _ _ _ _ => pg_name (i := 1) nd rfl (Or.inl rfl)) (fun _ _ _ _ _ => pts_nil) (fun _ _ _ _ _ => pe_callTy (cLst K) (by rfl) mli PyProof.Rows.boot_list (pa_cons (pv 1) pa_nil)))
          (pa_cons (pe_callB (cLen K) (by rfl) ml PySem.boot_len (pa_cons (pv 0) pa_nil)) (pa_cons (pe_callB (cLen K) (by rfl) ml PySem.boot_len (pa_cons (pe_ix (iL K) (pv 0) pe_int (fun _ _ => rfl)) pa_nil)) pa_nil))))
        (pg_tup rfl (pgs_cons (pg_name (i := 2) nd rfl (.inr rfl)) (pgs_cons (pg_name (i := 3) nd rfl (.inl rfl)) (pgs_cons (pg_name (i := 4) nd rfl (.inr rfl)) pgs_nil)))))
      (pss_cons (ps_asg (pe_tup (pa_cons (pe_call G1 hr (by rfl) g1 k1 b1 .nil pass0 (pa_cons (pv 3) pa_nil)) (pa_cons (pe_call G1 hr (by rfl) g1 k1 b1 .nil pass0 (pa_cons (pv 4) pa_nil)) (pa_cons pe_int pa_nil))))
        (pg_tup rfl (pgs_cons (pg_name (i := 5) nd rfl (.inl rfl)) (pgs_cons (pg_name (i := 6) nd rfl (.inl rfl)) (pgs_cons (pg_name (i := 7) nd rfl (.inr rfl)) pgs_nil)))))
      (pss_cons (ps_while PassesOwn.never (pt_cmpR op_lt (pv 7) (pe_callB (call_min2 rfl) (by rfl) mm PyProof.Rows.boot_min (pa_cons (pv 3) (pa_cons (pv 4) pa_nil))) (nomark _))
        (pss_cons (ps_setLc2 (i := 9) (own := [("row", 1), ("column", 8)]) (vs1 := [8]) (g := gName 1) (g1 := gName 8) (tt := tYes) (tt1 := tYes) rfl nd rfl rfl (sw_true rfl rfl rfl (by decide +kernel)) (pi_range2 (by rfl) mr (pa_cons (pv 7) (pa_cons (pv 3) pa_nil))) (blkOk_by (N := nSm) (sc := defScope (topS 19)) (by decide +kernel)) (by decide)
            (fun _ _ _ _ _ => pg_name (i := 1) nd rfl (Or.inl rfl)) (fun _ _ _ _ _ => pts_nil) (fun _ _ _ _ _ => pi_range2 (by rfl) mr (pa_cons (pv 7) (pa_cons (pv 4) pa_nil))) (fun _ _ _ _ _ => pg_name (i := 8) nd rfl (Or.inl rfl)) (fun _ _ _ _ _ => pts_nil)
            (fun _ _ _ _ _ => pe_tup (pa_cons (pe_callB call_abs (by rfl) mab PyProof.Rows.boot_abs (pa_cons (pe_ix (iL K) (pe_ix (iL K) (pv 2) (pv 1) (fun _ _ => rfl)) (pv 8) (fun _ _ => rfl)) pa_nil)) (pa_cons (pv 1) (pa_cons (pv 8) pa_nil)))))
        (pss_cons (ps_setLc (i := 9) (own := [("spot", 14)]) (g := gName 14) rfl nd rfl rfl (sw_true rfl rfl rfl (by decide +kernel)) (pi_list (pv 9)) (blkOk_by (N := nSm) (sc := defScope (topS 19)) (by decide +kernel))
            (fun _ _ _ _ _ => pg_name (i := 14) nd rfl (Or.inl rfl)) (fun _ _ _ _ _ => pts_one (pt_cmpR op_gt (pe_ix (iT K) (pv 14) pe_int (fun _ _ => rfl)) pe_int (nomark _))) (fun _ _ _ _ _ => pv 14))
        (pss_cons (ps_if (pt_cmpR (op_eqD hr.units) (pv 9) (pe_lst pa_nil) (nomark _)) (pss_one ps_break) pss_nil)
        (pss_cons (ps_asg (pe_callB (cMin3 K hr.units) (by rfl) mm PyProof.Rows.boot_min (pa_cons (pv 9) pa_nil)) (pg_tup rfl (pgs_cons (pg_name (i := 10) nd rfl (.inl rfl)) (pgs_cons (pg_name (i := 1) nd rfl (.inl rfl)) (pgs_cons (pg_name (i := 8) nd rfl (.inl rfl)) pgs_nil)))))
        (pss_cons (ps_asg (pe_tup (pa_cons (pe_ix (iL K) (pv 2) (pv 1) (fun _ _ => rfl)) (pa_cons (pe_ix (iL K) (pv 2) (pv 7) (fun _ _ => rfl)) (pa_cons (pe_ix (iL K) (pv 5) (pv 1) (fun _ _ => rfl)) (pa_cons (pe_ix (iL K) (pv 5) (pv 7) (fun _ _ => rfl)) pa_nil)))))
          (pg_tup rfl (pgs_cons (pg_sub (pv 2) (pv 7) set_list) (pgs_cons (pg_sub (pv 2) (pv 1) set_list) (pgs_cons (pg_sub (pv 5) (pv 7) set_list) (pgs_cons (pg_sub (pv 5) (pv 1) set_list) pgs_nil))))))
        (pss_cons (ps_for PassesOwn.never rfl (pi_list (pe_op op_cat (pv 2) (pv 6))) (pg_name (i := 11) nd rfl (.inl rfl))
          (pss_one (ps_asg (pe_tup (pa_cons (pe_ix (iL K) (pv 11) (pv 8) (fun _ _ => rfl)) (pa_cons (pe_ix (iL K) (pv 11) (pv 7) (fun _ _ => rfl)) pa_nil))) (pg_tup rfl (pgs_cons (pg_sub (pv 11) (pv 7) set_list) (pgs_cons (pg_sub (pv 11) (pv 8) set_list) pgs_nil))))))
        (pss_one (ps_if (PW.pt (pw_and (pt_val (pe_call G2 hr (by rfl) g2 k2 b2 .nil pass0 (pa_cons (pv 2) (pa_cons (pv 5) (pa_cons (pv 6) (pa_cons (pv 7) pa_nil)))))) (pw_and1 (pt_not (pt_val (pe_call G3 hr (by rfl) g3 k3 b3 .nil pass0 (pa_cons (pv 2) (pa_cons (pv 5) (pa_cons (pv 7) pa_nil))))))))) 
          (pss_one (ps_aug (i := 7) nd rfl (.inr rfl) pe_int ip_add)) pss_nil)))))))))
      (pss_cons (ps_set (i := 12) nd rfl (.inl rfl) (pe_lst pa_nil))
      (pss_cons (ps_for PassesOwn.never rfl (pi_range1 (by rfl) mr (pa_cons (pv 7) pa_nil)) (pg_name (i := 13) nd rfl (.inl rfl))
        (pss_cons (ps_if (pt_cmpR op_lt (pe_ix (iL K) (pe_ix (iL K) (pv 2) (pv 13) (fun _ _ => rfl)) (pv 13) (fun _ _ => rfl)) pe_int (nomark _))
          (pss_one (ps_asg (pe_tup (pa_cons (pe_lc (own := [("entry", 15)]) (g := gName 15) (tt := tYes) rfl nd (pi_list (pe_ix (iL K) (pv 2) (pv 13) (fun _ _ => rfl))) (blkOk_by (N := nSm) (sc := defScope (topS 19)) (by decide +kernel)) (fun _ _ _ _ _ => pg_name (i := 15) nd rfl (Or.inl rfl)) (fun _ _ _ _ _ => pts_nil) (fun _ _ _ _ _ => pe_un un_neg (pv 15)))
              (pa_cons (pe_lc (own := [("entry", 15)]) (g := gName 15) (tt := tYes) rfl nd (pi_list (pe_ix (iL K) (pv 5) (pv 13) (fun _ _ => rfl))) (blkOk_by (N := nSm) (sc := defScope (topS 19)) (by decide +kernel)) (fun _ _ _ _ _ => pg_name (i := 15) nd rfl (Or.inl rfl)) (fun _ _ _ _ _ => pts_nil) (fun _ _ _ _ _ => pe_un un_neg (pv 15))) pa_nil)))
            (pg_tup rfl (pgs_cons (pg_sub (pv 2) (pv 13) set_list) (pgs_cons (pg_sub (pv 5) (pv 13) set_list) pgs_nil))))) pss_nil)
        (pss_one (ps_expr (pe_bm PySem.F.plainAttrs_list PySem.F.slot_list_append PySem.F.type_list_append mt_append (pv 12) (pa_cons (pe_ix (iL K) (pe_ix (iL K) (pv 2) (pv 13) (fun _ _ => rfl)) (pv 13) (fun _ _ => rfl)) pa_nil))))))
      (pss_one (ps_ret (pe_tup (pa_cons (pv 5) (pa_cons (pv 12) (pa_cons (pv 6) pa_nil)))))))))), ?_⟩
    obtain ⟨y0, hy0, a0, rfl, hq0⟩ := hR.get (i := 0) (List.getElem?_eq_getElem (by omega))
    refine ⟨_, rfl, a, rfl, ⟨_, hA⟩, fun D hD => ?_⟩
    refine lc_new (zs := M) (by rw [hR.len]; exact walk_list (xs := ys)) (fun r y H => IsRow w H r y) (fun _ _ _ _ q s => q.same s) hD (by omega) (fun _ s => s.seq hA) (fun i z x G1 G2 Qb hz s1 hacc y qb => ?_) (fun H1 as s1 e1 nd1 hf r1 => ?_)
    · obtain ⟨rfl, hy⟩ := y
      obtain ⟨b, hb, c, rfl, hc⟩ := hR.get hz
      cases Option.some.inj (hy.symm.trans hb)
      obtain ⟨acc, hacc⟩ := hacc
      refine ⟨rfl, _, rfl, c, _, rfl, hc.imp (fun hc => s1.seq hc) (fun hc => same_seqT s1 hc), fun l hl => ?_⟩
      have nD : l ≠ D := fun e => by rw [e, hacc] at hl; cases hl
      refine qb _ _ _ hl upd_same (same_new hl) ⟨l, rfl, ?_⟩
      rw [hide_ne nD, upd_same]
    have hla := r1.len
    rw [List.length_map] at hla
    have r1' : Rows w H1 M (as.map .ref) := r1.imp fun _ _ q => q.same hide_sub
    refine ⟨_, rfl, a, _, rfl, .inl (s1.seq hA), _, rfl, a, _, 0, _, rfl, rfl, s1.seq hA, atI_nat (j := 0) hy0, a0, _, rfl, hq0.imp (fun h => s1.seq h) (fun h => same_seqT s1 h), by show 3 ≤ sizeLine; decide, fun t1 nt1 => ⟨t1, _, rfl, .inl (.inl upd_same), rfl, _, _, rfl, _, _, rfl, _, _, rfl, rfl, ?_⟩⟩
    rw [vI_len, ← hR.len]
    have st1 := same_new (o := .tup [.ref D, .int (M.length : Nat), .int (w : Nat)]) nt1
    generalize upd H1 t1 (.tup [.ref D, .int (M.length : Nat), .int (w : Nat)]) = H2 at st1
    have s2 := s1.trans st1
    refine ⟨_, rfl, M.length, rfl, h8, fun H3 pL lA s3 nL eL ndL hfL rL => ?_⟩
    refine ⟨_, rfl, w, rfl, w8, fun H4 pR rA s4 nR eR ndR hfR rR => ⟨by show 3 ≤ sizeLine; decide, fun t2 nt2 => ⟨t2, _, rfl, .inl (.inl upd_same), rfl, _, _, rfl, _, _, rfl, _, _, rfl, rfl, ?_⟩⟩⟩
    have st2 := same_new (o := .tup [.ref pL, .ref pR, .int 0]) nt2
    generalize upd H4 t2 (.tup [.ref pL, .ref pR, .int 0]) = H5 at st2
    have hlL := rL.len
    have hlR := rR.len
    simp only [List.length_map, List.length_range] at hlL hlR
    have S : SmH H H5 M.length w D pL pR (fun i => as.getD i 0) (fun i => lA.getD i 0) (fun i => rA.getD i 0) (initM M).T (initM M).L (initM M).R := by
      have aT : ∀ i, i < M.length → as.getD i 0 ∈ as := fun i hi => getD_mem (by omega)
      have aL : ∀ i, i < M.length → lA.getD i 0 ∈ lA := fun i hi => getD_mem (by omega)
      have aR : ∀ i, i < w → rA.getD i 0 ∈ rA := fun i hi => getD_mem (by omega)
      have gT : ∀ i, i < M.length → H2 (as.getD i 0) ≠ none := fun i hi e => by
        obtain ⟨_, _, o, q⟩ := hf _ (aT i hi)
        rw [st1 _ _ q] at e; cases e
      have gT3 : ∀ i, i < M.length → H3 (as.getD i 0) ≠ none := fun i hi e => gT i hi (s3.free e)
      have gL3 : ∀ i, i < M.length → H3 (lA.getD i 0) ≠ none := fun i hi e => by
        obtain ⟨_, _, o, q⟩ := hfL _ (aL i hi)
        rw [q] at e; cases e
      constructor
      · rw [hla, ← vA_of]; exact st2 _ _ (s4 _ _ (s3 _ _ (st1 _ _ e1)))
      · rw [hlL, ← vA_of]; exact st2 _ _ (s4 _ _ eL)
      · rw [hlR, ← vA_of]; exact st2 _ _ eR
      · intro i hi; exact st2 _ _ (s4 _ _ (s3 _ _ (st1 _ _ (rows_at r1' hi))))
      · intro i hi
        have := rows_at rL (i := i) (by simpa using hi)
        rw [row_units hi] at this
        exact st2 _ _ (s4 _ _ this)
      · intro i hi
        have := rows_at rR (i := i) (by simpa using hi)
        rw [row_units hi] at this
        exact st2 _ _ this
      · intro i j hi hj n; exact getD_ne nd1 (by omega) (by omega) n
      · intro i j hi hj n; exact getD_ne ndR (by omega) (by omega) n
      · intro i j hi hj e; exact gT3 i hi (by rw [e]; exact (hfR _ (aR j hj)).2.1)
      · intro i j hi hj e; exact gT i hi (by rw [e]; exact (hfL _ (aL j hj)).2.1)
      · intro i j hi hj e; exact gL3 j hj (by rw [← e]; exact (hfR _ (aR i hi)).2.1)
      · exact h1
      · exact w1
      · exact s2.trans (s3.trans (s4.trans st2))
      · exact hD
      · exact s2.free nL
      · intro i hi; exact (hf _ (aT i hi)).2.1
      · intro i hi; exact (s2.trans s3).free (hfR _ (aR i hi)).2.1
    obtain ⟨nrun, run⟩ := runN run
    dsimp only
    refine joinS (fun σ' G => ∃ (tA' lA' : Nat → Addr) (y1 y8 y9 y10 y11 : Option V), σ' = [some (.ref a), y1, some (.ref D), some (.int (M.length : Nat)), some (.int (w : Nat)), some (.ref pL), some (.ref pR), some (.int (t.a : Nat)), y8, y9, y10, y11, none, none, none, none] ∧
      SmH H G M.length w D pL pR tA' lA' (fun i => rA.getD i 0) t.T t.L t.R) (fun nx' hk => ?_) (fun σ' G hR => ?_)
    · refine ⟨fun m σ' G => ∃ (s : SM) (tA' lA' : Nat → Addr) (y1 y8 y9 y10 y11 : Option V), σ' = [some (.ref a), y1, some (.ref D), some (.int (M.length : Nat)), some (.int (w : Nat)), some (.ref pL), some (.ref pR), some (.int (s.a : Nat)), y8, y9, y10, y11, none, none, none, none] ∧
        SmH H G M.length w D pL pR tA' lA' (fun i => rA.getD i 0) s.T s.L s.R ∧ RunN (FitW M.length w) M.length w m s t, ⟨nrun, initM M, _, _, _, _, _, _, _, rfl, S, run⟩, fun m σ' G hW => ?_⟩
      obtain ⟨s, tA', lA', y1, y8, y9, y10, y11, rfl, S2, run2⟩ := hW
      have dn : (∀ t', ¬ Stp M.length w s t') → t = s := fun no => by
        cases run2 with
        | done p d => rfl
        | more p x r => exact absurd x (no _)
      refine ⟨_, rfl, _, rfl, _, rfl, _, _, rfl, _, _, rfl, rfl, _, rfl, ?_⟩
      by_cases hal : s.a < M.length ∧ s.a < w
      · obtain ⟨ah, aw⟩ := hal
        refine itT (decide_eq_true (by split <;> omega)) ?_
        refine ⟨fun σ' G => ∃ m', m' < m ∧ ∃ (s : SM) (tA' lA' : Nat → Addr) (y1 y8 y9 y10 y11 : Option V), σ' = [some (.ref a), y1, some (.ref D), some (.int (M.length : Nat)), some (.int (w : Nat)), some (.ref pL), some (.ref pR), some (.int (s.a : Nat)), y8, y9, y10, y11, none, none, none, none] ∧
          SmH H G M.length w D pL pR tA' lA' (fun i => rA.getD i 0) s.T s.L s.R ∧ RunN (FitW M.length w) M.length w m' s t, fun _ _ h => h, ?_⟩
        -- spots
        refine ⟨_, rfl, _, rfl, _, _, rfl, by omega, fun D1 nD1 => ?_⟩
        refine lc2_rng (f := fun k => V.int ((s.a : Int) + (k : Nat))) (f1 := fun k => V.int ((s.a : Int) + (k : Nat))) (n := M.length - s.a) (n1 := w - s.a)
          (by have := walk_rng2 (i := (s.a : Int)) (j := (M.length : Int)) (n := M.length - s.a) (by omega); rw [List.length_range] at this; exact this)
          (σi := fun i => [some (.ref a), some (.int ((s.a : Int) + (i : Nat))), some (.ref D), some (.int (M.length : Nat)), some (.int (w : Nat)), some (.ref pL), some (.ref pR), some (.int (s.a : Nat)), none, y9, y10, y11, none, none, none, none])
          (σij := fun i j => [some (.ref a), some (.int ((s.a : Int) + (i : Nat))), some (.ref D), some (.int (M.length : Nat)), some (.int (w : Nat)), some (.ref pL), some (.ref pR), some (.int (s.a : Nat)), some (.int ((s.a : Int) + (j : Nat))), y9, y10, y11, none, none, none, none])
          (fun z y H => IsT3 H (((s.T (s.a + z.1) (s.a + z.2)).natAbs : Int), ((s.a + z.1 : Nat) : Int), ((s.a + z.2 : Nat) : Int)) y) (fun _ _ _ _ q s => q.same s) nD1 (by omega) (by omega)
          (fun i G Q q => q) (fun i => rfl) (fun i G R hi _ r => ⟨_, rfl, _, rfl, _, _, rfl, by omega, r _ (by have := walk_rng2 (i := (s.a : Int)) (j := (w : Int)) (n := w - s.a) (by omega); rw [List.length_range] at this; exact this)⟩)
          (fun i j G Q q => q) (fun i j => rfl) (fun i j G1 Qb hi hj sG hacc qb => ?_) (fun G1 sp sG eD1 r1 => ?_)
        · have S3 := S2.mono sG
          obtain ⟨acc, hacc⟩ := hacc
          refine ⟨_, rfl, _, rfl, D, _, _, .ref (tA' (s.a + i)), rfl, rfl, .inl (.inl S3.eT), ?_, _, rfl, tA' (s.a + i), _, _, .int (s.T (s.a + i) (s.a + j)), rfl, rfl, .inl (.inl (S3.rT (s.a + i) (by omega))), ?_, _, rfl, _, rfl, _, rfl, by show 3 ≤ sizeLine; decide, fun t3 nt3 => ?_⟩
          · rw [show (s.a : Int) + (i : Nat) = ((s.a + i : Nat) : Int) by omega]; exact vA_at (by omega)
          · rw [show (s.a : Int) + (j : Nat) = ((s.a + j : Nat) : Int) by omega]; exact vI_at (by omega)
          · have nt : t3 ≠ D1 := fun e => by rw [e, hacc] at nt3; cases nt3
            refine qb _ _ (same_new nt3) ⟨t3, rfl, ?_⟩
            rw [hide_ne nt, upd_same]
            unfold t3V
            congr 3
            show V.int (if s.T (s.a + i) (s.a + j) < 0 then - s.T (s.a + i) (s.a + j) else s.T (s.a + i) (s.a + j)) = V.int ((s.T (s.a + i) (s.a + j)).natAbs : Int)
            congr 1
            split <;> omega
        · have rT : Rel2 (IsT3 G1) (((List.range (M.length - s.a)).flatMap fun i => (List.range (w - s.a)).map fun j => (i, j)).map (tri s)) sp := Rel2.mapL.2 (r1.imp fun _ _ q => q.same hide_sub)
          have lT := rT.len
          have l64 : (((List.range (M.length - s.a)).flatMap fun i => (List.range (w - s.a)).map fun j => (i, j)).map (tri s)).length ≤ 64 := by
            rw [List.length_map, pairs_len]
            exact Nat.mul_le_mul (show M.length - s.a ≤ 8 by omega) (show w - s.a ≤ 8 by omega)
          refine ⟨_, rfl, D1, rfl, ⟨_, .inl (.inl eD1)⟩, fun D2 nD2 => ?_⟩
          refine lc_flt (zs := ((List.range (M.length - s.a)).flatMap fun i => (List.range (w - s.a)).map fun j => (i, j)).map (tri s)) (by rw [lT]; exact walk_list (xs := sp)) (fun t => decide (0 < t.1)) (fun t y H => IsT3 H t y) (fun _ _ _ _ q s => q.same s) nD2 (by omega) (fun _ s => s.seq (.inl (.inl eD1))) (fun i z x G2 G3 Qb Qn hz sG2 hacc y qb qn => ?_) (fun G2 fp sG2 eD2 r2 => ?_)
          · obtain ⟨rfl, hy⟩ := y
            obtain ⟨b, hb, p, rfl, hp⟩ := rT.get hz
            cases Option.some.inj (hy.symm.trans hb)
            obtain ⟨acc, hacc⟩ := hacc
            have np : p ≠ D2 := ne_of_none hp nD2
            have hp2 := sG2 _ _ hp
            refine ⟨rfl, _, rfl, p, _, 0, _, rfl, rfl, .inl (.inl hp2), atI_nat (j := 0) rfl, _, _, rfl, rfl, _, rfl, ?_⟩
            by_cases e : 0 < z.1
            · exact itT (decide_eq_true e) ⟨_, rfl, qb _ _ (decide_eq_true e) (Same.refl _) ⟨p, rfl, by rw [hide_ne np]; exact hp2⟩⟩
            · exact itF (decide_eq_false e) (qn _ (decide_eq_false e) (Same.refl _))
          have r2 : Rel2 (IsT3 G2) (tris M.length w s) fp := r2.imp fun _ _ q => q.same hide_sub
          have S3 := S2.mono (sG.trans sG2)
          refine ⟨_, rfl, Nat.zero_le _, fun o no => t3_eq (r2.imp fun _ _ q => q.same (same_new no)) (.inl (.inl ((same_new no) _ _ eD2))) upd_same ⟨_, rfl, ?_⟩⟩
          have S4 := S3.mono (same_new (o := .lst []) no)
          have eD2' := (same_new (o := .lst []) no) _ _ eD2
          have r3 := r2.imp fun _ _ q => IsT3.same q (same_new (o := .lst []) no)
          generalize upd G2 o (.lst []) = G3 at S4 eD2' r3
          by_cases hemp : (tris M.length w s).length = 0
          · refine itT (decide_eq_true hemp) (hk _ _ ?_)
            have hnil : tris M.length w s = [] := List.length_eq_zero_iff.1 hemp
            have noP : ∀ {r c}, ¬ Pick M.length w s.T s.a r c := fun {r c} p => by
              have := tris_mem.2 ⟨r, c, p.r0, p.r1, p.c0, p.c1, p.ne, rfl⟩
              rw [hnil] at this
              cases this
            have e := dn fun t' x => by
              cases x with
              | go p _ => exact noP p
              | add p _ _ => exact noP p
              | next p _ _ => exact noP p
            subst e
            exact ⟨tA', lA', _, _, _, _, _, rfl, S4⟩
          · refine itF (decide_eq_false hemp) ?_
            refine ⟨_, rfl, D2, fp, tris M.length w s, rfl, .inl (.inl eD2'), r3, by rintro e; exact hemp (by rw [e]; rfl), fun p t0 ht hle hp => ⟨p, _, rfl, .inl (.inl hp), rfl, _, _, rfl, _, _, rfl, _, _, rfl, rfl, ?_⟩⟩
            obtain ⟨r, c, pk, rfl⟩ := tris_pick ht hle
            have rh := pk.r1
            have cw := pk.c1
            have k1000 : (1000 : Nat) < sizeLine := by decide
            have lw2 : w < sizeLine := by omega
            refine ⟨_, rfl, _, rfl, D, _, _, _, rfl, rfl, .inl (.inl S4.eT), vA_at rh, _, rfl, _, rfl, D, _, _, _, rfl, rfl, .inl (.inl S4.eT), vA_at ah, _, rfl, _, rfl, pL, _, _, _, rfl, rfl, .inl (.inl S4.eL), vA_at rh, _, rfl, _, rfl, pL, _, _, _, rfl, rfl, .inl (.inl S4.eL), vA_at ah, by show 4 ≤ sizeLine; decide, fun t2 nt2 => ⟨t2, _, rfl, .inl (.inl upd_same), rfl, ?_⟩⟩
            have S5 := S4.mono (same_new (o := .tup [.ref (tA' r), .ref (tA' s.a), .ref (lA' r), .ref (lA' s.a)]) nt2)
            generalize upd G3 t2 (.tup [.ref (tA' r), .ref (tA' s.a), .ref (lA' r), .ref (lA' s.a)]) = G4 at S5
            have S6 := S5.permT ah rh
            have S7 := S6.permL ah rh
            refine ⟨_, _, rfl, _, rfl, _, rfl, D, _, _, s.a, rfl, rfl, S5.eT, ixN_nat (by rw [vA_len]; exact ah), _, _, rfl, _, rfl, _, rfl, D, _, _, r, rfl, rfl, upd_same, ixN_nat (by rw [List.length_set, vA_len]; exact rh), ?_⟩
            rw [upd_upd, vA_swap ah rh]
            refine ⟨_, _, rfl, _, rfl, _, rfl, pL, _, _, s.a, rfl, rfl, S6.eL, ixN_nat (by rw [vA_len]; exact ah), _, _, rfl, _, rfl, _, rfl, pL, _, _, r, rfl, rfl, upd_same, ixN_nat (by rw [List.length_set, vA_len]; exact rh), ?_⟩
            rw [upd_upd, vA_swap ah rh]
            refine ⟨rfl, ?_⟩
            generalize upd (upd G4 D (.lst (vA M.length fun k => tA' (swN s.a r k)))) pL (.lst (vA M.length fun k => lA' (swN s.a r k))) = G5 at S7
            generalize (fun k => tA' (swN s.a r k)) = tA2 at S7
            generalize (fun k => lA' (swN s.a r k)) = lA2 at S7
            -- columns
            refine ⟨_, rfl, _, rfl, D, pR, _, _, rfl, rfl, S7.eT, S7.eR, by rw [vA_len, vA_len]; omega, fun z nz => ⟨z, rfl, ⟨_, .inl (.inl upd_same)⟩, ?_⟩⟩
            generalize hrA : (fun i => rA.getD i 0) = rA2 at *
            have S8 := S7.mono (same_new (o := .lst (vA M.length tA2 ++ vA w rA2)) nz)
            have ez : upd G5 z (.lst (vA M.length tA2 ++ vA w rA2)) z = some (.lst (vA M.length tA2 ++ vA w rA2)) := upd_same
            generalize upd G5 z (.lst (vA M.length tA2 ++ vA w rA2)) = G6 at S8 ez
            refine for_it (walk_list (xs := vA M.length tA2 ++ vA w rA2)) (fun m' σ' G => ∃ (y11 : Option V), σ' = [some (.ref a), some (.int ((r : Nat) : Int)), some (.ref D), some (.int (M.length : Nat)), some (.int (w : Nat)), some (.ref pL), some (.ref pR), some (.int (s.a : Nat)), some (.int ((c : Nat) : Int)), some (.ref D2), some (.int (((s.T r c).natAbs : Nat) : Int)), y11, none, none, none, none] ∧
              G z = some (.lst (vA M.length tA2 ++ vA w rA2)) ∧ SmH H G M.length w D pL pR tA2 lA2 rA2 (lineS (swapR s.T s.a r) s.a c m') (swapR s.L s.a r) (lineS s.R s.a c (m' - M.length))) ⟨_, rfl, ez, S8.congr (fun i j _ _ => by unfold lineS; rw [if_neg (by omega)]) (fun _ _ _ _ => rfl) (fun i j _ _ => by unfold lineS; rw [if_neg (by omega)])⟩
              (fun m' σ' G _ p => .inl (.inl p.choose_spec.2.1)) (fun m' x σ' G7 G8 hm p y => ?_) (fun σ' G p => ?_)
            · obtain ⟨y11', rfl, ez1, S9⟩ := p
              obtain ⟨rfl, hy⟩ := y
              by_cases q1 : m' < M.length
              · rw [List.getElem?_append_left (by rw [vA_len]; exact q1), vA_get q1] at hy
                cases hy
                have e4 := S9.rT m' q1
                refine ⟨_, rfl, _, rfl, tA2 m', _, _, _, rfl, rfl, .inl (.inl e4), vI_at cw, _, rfl, _, rfl, tA2 m', _, _, _, rfl, rfl, .inl (.inl e4), vI_at aw, by show 2 ≤ sizeLine; decide, fun t5 nt5 => ⟨t5, _, rfl, .inl (.inl upd_same), rfl, _, _, rfl, _, rfl, _, rfl, tA2 m', _, _, s.a, rfl, rfl, (same_new nt5) _ _ e4, ixN_nat (by rw [vI_len]; exact aw), _, _, rfl, _, rfl, _, rfl, tA2 m', _, _, c, rfl, rfl, upd_same, ixN_nat (by rw [List.length_set, vI_len]; exact cw), rfl, ?_⟩⟩
                rw [upd_upd, vI_swap aw cw]
                have S10 := (S9.mono (same_new (o := .tup [.int (lineS (swapR s.T s.a r) s.a c m' m' c), .int (lineS (swapR s.T s.a r) s.a c m' m' s.a)]) nt5)).rowT (v := fun k => lineS (swapR s.T s.a r) s.a c m' m' (swN s.a c k)) q1
                refine ⟨_, rfl, ?_, S10.congr (fun i j _ _ => ?_) (fun _ _ _ _ => rfl) (fun i j _ _ => by unfold lineS; rw [if_neg (by omega), if_neg (by omega)])⟩
                · rw [upd_ne (cell_ne ez1 e4 (vAA_vI h1))]; exact (same_new nt5) _ _ ez1
                · unfold setR
                  split
                  · rename_i e; rw [e]
                    show lineS _ _ _ m' m' _ = _
                    rw [lineS_self, lineS_next]
                  · unfold lineS
                    by_cases q2 : i < m'
                    · rw [if_pos q2, if_pos (by omega)]
                    · rw [if_neg q2, if_neg (by omega)]
              · have hm2 : m' - M.length < w := by rw [List.length_append, vA_len, vA_len] at hm; omega
                rw [List.getElem?_append_right (by rw [vA_len]; omega), vA_len, vA_get hm2] at hy
                cases hy
                have e4 := S9.rR (m' - M.length) hm2
                refine ⟨_, rfl, _, rfl, rA2 (m' - M.length), _, _, _, rfl, rfl, .inl (.inl e4), vI_at cw, _, rfl, _, rfl, rA2 (m' - M.length), _, _, _, rfl, rfl, .inl (.inl e4), vI_at aw, by show 2 ≤ sizeLine; decide, fun t5 nt5 => ⟨t5, _, rfl, .inl (.inl upd_same), rfl, _, _, rfl, _, rfl, _, rfl, rA2 (m' - M.length), _, _, s.a, rfl, rfl, (same_new nt5) _ _ e4, ixN_nat (by rw [vI_len]; exact aw), _, _, rfl, _, rfl, _, rfl, rA2 (m' - M.length), _, _, c, rfl, rfl, upd_same, ixN_nat (by rw [List.length_set, vI_len]; exact cw), rfl, ?_⟩⟩
                rw [upd_upd, vI_swap aw cw]
                have S10 := (S9.mono (same_new (o := .tup [.int (lineS s.R s.a c (m' - M.length) (m' - M.length) c), .int (lineS s.R s.a c (m' - M.length) (m' - M.length) s.a)]) nt5)).rowR (v := fun k => lineS s.R s.a c (m' - M.length) (m' - M.length) (swN s.a c k)) hm2
                refine ⟨_, rfl, ?_, S10.congr (fun i j hi' _ => by unfold lineS; rw [if_pos (by omega), if_pos (by omega)]) (fun _ _ _ _ => rfl) (fun i j _ _ => ?_)⟩
                · rw [upd_ne (cell_ne ez1 e4 (vAA_vI h1))]; exact (same_new nt5) _ _ ez1
                · unfold setR
                  split
                  · rename_i e; rw [e]
                    show lineS _ _ _ (m' - M.length) (m' - M.length) _ = _
                    rw [lineS_self, show m' + 1 - M.length = m' - M.length + 1 by omega, lineS_next]
                  · unfold lineS
                    by_cases q2 : i < m' - M.length
                    · rw [if_pos q2, if_pos (by omega)]
                    · rw [if_neg q2, if_neg (by omega)]
            · obtain ⟨y11', rfl, _, S9⟩ := p
              rw [List.length_append, vA_len, vA_len] at S9
              have S9 := S9.congr (T' := swT s r c) (L' := swapR s.L s.a r) (R' := swapC s.R s.a c) (fun i j _ _ => by unfold lineS; rw [if_pos (by omega)]; rfl) (fun _ _ _ _ => rfl) (fun i j _ _ => by unfold lineS; rw [if_pos (by omega)]; rfl)
              refine ⟨_, rfl, _, rfl, _, rfl, _, rfl, H, M.length, w, D, pL, pR, tA2, lA2, rA2, swT s r c, swapR s.L s.a r, swapC s.R s.a c, s.a, rfl, S9, h8, w8, ah, aw, sw_ok run2.fit pk, fun G9 tA3 lA3 b S10 hb => ⟨_, rfl, ?_⟩⟩
              have hb : b = true ↔ Clean M.length w (mid s r c) := hb
              have S10 : SmH H G9 M.length w D pL pR tA3 lA3 rA2 (mid s r c).T (mid s r c).L (mid s r c).R := S10
              have pv0 : (mid s r c).T (mid s r c).a (mid s r c).a ≠ 0 := by
                show sweepC (swT s r c) (sweepR (swT s r c) (swT s r c) s.a) s.a s.a s.a ≠ 0
                rw [sweepC_low (Nat.le_refl _), sweepR_low (Nat.le_refl _)]
                show swT s r c s.a s.a ≠ 0
                rw [swT_pivot]; exact pk.ne
              cases run2 with
              | done p d => exact absurd (d _ _ pk.r0 pk.r1 pk.c0 pk.c1) pk.ne
              | @more mm _ _ _ p x rr =>
                cases x with
                | go p' n =>
                  obtain ⟨rfl, rfl⟩ := pk.uniq p'
                  have hbf : b = false := by cases b with
                    | true => exact absurd (hb.1 rfl) n
                    | false => rfl
                  subst hbf
                  exact iteF (iteF ⟨mm, by omega, mid s r c, tA3, lA3, _, _, _, _, _, rfl, S10, rr⟩)
                | @add _ _ i p' n u =>
                  obtain ⟨rfl, rfl⟩ := pk.uniq p'
                  have hbt : b = true := hb.2 n
                  subst hbt
                  refine iteT ⟨_, rfl, _, rfl, _, rfl, H, M.length, w, D, pL, pR, tA3, lA3, rA2, mid s r c, rfl, S10, h8, w8, ah, aw, pv0, fun i' q1 q2 => ?_, fun G' tA4 lA4 i' u' S11 => ⟨_, rfl, iteF ?_⟩, fun G' no _ => absurd u.bad (no _ u.lo u.hi)⟩
                  · obtain ⟨g1, g2⟩ := neg_ok rr.fit q2
                    have ne : i' ≠ (mid s r c).a := by omega
                    refine ⟨fun j hj => ?_, fun j hj => ?_⟩
                    · have := g1 j hj
                      unfold addRow setR at this
                      simp only [if_neg ne] at this
                      exact this
                    · have := g2 j hj
                      unfold addRow setR at this
                      simp only [if_neg ne] at this
                      exact this
                  · obtain rfl := u.uniq u'
                    exact ⟨mm, by omega, addRow (mid s r c) i, tA4, lA4, _, _, _, _, _, rfl, S11, rr⟩
                | next p' n u =>
                  obtain ⟨rfl, rfl⟩ := pk.uniq p'
                  have hbt : b = true := hb.2 n
                  subst hbt
                  refine iteT ⟨_, rfl, _, rfl, _, rfl, H, M.length, w, D, pL, pR, tA3, lA3, rA2, mid s r c, rfl, S10, h8, w8, ah, aw, pv0, fun i' q1 q2 => neg_ok rr.fit q2, fun G' tA4 lA4 i' u' S11 => absurd u'.bad (u _ u'.lo u'.hi), fun G' no S11 => ⟨_, rfl, iteT ?_⟩⟩
                  exact ⟨_, rfl, _, _, rfl, rfl, mm, by omega, { mid s r c with a := s.a + 1 }, tA3, lA3, _, _, _, _, _, rfl, S11, rr⟩
      · refine itF (decide_eq_false (by split <;> omega)) (hk _ _ ?_)
        have e := dn fun t' x => by
          cases x with
          | go p _ => exact hal ⟨Nat.lt_of_le_of_lt p.r0 p.r1, Nat.lt_of_le_of_lt p.c0 p.c1⟩
          | add p _ _ => exact hal ⟨Nat.lt_of_le_of_lt p.r0 p.r1, Nat.lt_of_le_of_lt p.c0 p.c1⟩
          | next p _ _ => exact hal ⟨Nat.lt_of_le_of_lt p.r0 p.r1, Nat.lt_of_le_of_lt p.c0 p.c1⟩
        subst e
        exact ⟨tA', lA', _, _, _, _, _, rfl, S2⟩
    · obtain ⟨tA', lA', y1, y8, y9, y10, y11, rfl, S2⟩ := hR
      obtain ⟨ta1, ta2⟩ := run.a_le (Nat.zero_le _) (Nat.zero_le _)
      have k1000 : (1000 : Nat) < sizeLine := by decide
      have len2 : (2 : Nat) ≤ sizeLine := by decide
      generalize (fun i => rA.getD i 0) = rA2 at *
      refine ⟨Nat.zero_le _, fun fa nfa => ?_⟩
      have S3 : SmH H (hide fa (upd G fa (.lst []))) M.length w D pL pR tA' lA' rA2 t.T t.L t.R := S2.mono (fun b o e => by
        rw [hide_ne (ne_of_none e nfa), upd_ne (ne_of_none e nfa)]; exact e)
      have ef : upd G fa (.lst []) fa = some (.lst []) := upd_same
      have nfH : H fa = none := S2.s0.free nfa
      generalize upd G fa (.lst []) = G1 at S3 ef
      refine ⟨_, rfl, _, rfl, by omega, by omega, ?_⟩
      refine for_it (walk_rng (n := t.a)) (fun i σ' G => ∃ (tA lA : Nat → Addr) (T L : Mat) (fs : List V) (y13 : Option V), σ' = [some (.ref a), y1, some (.ref D), some (.int (M.length : Nat)), some (.int (w : Nat)), some (.ref pL), some (.ref pR), some (.int (t.a : Nat)), y8, y9, y10, y11, some (.ref fa), y13, none, none] ∧
        SmH H (hide fa G) M.length w D pL pR tA lA rA2 T L t.R ∧ G fa = some (.lst fs) ∧ fs.length = i) ⟨_, _, _, _, _, _, rfl, S3, ef, rfl⟩ (fun _ _ _ _ _ => trivial) (fun i x σ' G2 G3 hi p y => ?_) (fun σ' G2 p => ?_)
      · obtain ⟨tA, lA, T, L, fs, y13, rfl, S4, ef, hfs⟩ := p
        obtain ⟨rfl, rfl⟩ := y
        rw [List.length_range] at hi
        have ih : i < M.length := by omega
        have iw : i < w := by omega
        have c4 := (hide_some S4.eT)
        have cL := (hide_some S4.eL)
        have r4 := (hide_some (S4.rT i ih)).2
        have l4 := (hide_some (S4.rL i ih)).2
        dsimp only [tSeq]
        have tail : ∀ (tA lA : Nat → Addr) (T L : Mat) (G : Hp), SmH H (hide fa G) M.length w D pL pR tA lA rA2 T L t.R → G fa = some (.lst fs) → upd G fa (.lst (fs ++ [.int (T i i)])) fa = some (.lst (fs ++ [.int (T i i)])) ∧ SmH H (hide fa (upd G fa (.lst (fs ++ [.int (T i i)])))) M.length w D pL pR tA lA rA2 T L t.R := fun tA lA T L G S e => ⟨upd_same, S.mono same_hide_upd2⟩
        refine ⟨_, rfl, _, rfl, D, _, _, _, rfl, rfl, .inl (.inl c4.2), vA_at ih, _, rfl, _, _, _, _, rfl, rfl, .inl (.inl r4), vI_at iw, _, _, rfl, rfl, _, rfl, ?_⟩
        by_cases neg : T i i < 0
        · refine itT (decide_eq_true neg) ?_
          refine ⟨_, rfl, _, rfl, D, _, _, _, rfl, rfl, .inl (.inl c4.2), vA_at ih, _, rfl, ⟨_, .inl (.inl r4)⟩, fun n1 nn1 => ?_⟩
          refine lc_map (zs := List.range w) (Y := YAt (vI w (T i))) (by have := walk_list (K := K) (a := tA i) (xs := vI w (T i)); rw [vI_len] at this; rw [List.length_range]; exact this) (fun j y _ => y = V.int (negV (T i) j)) (fun _ _ _ _ q _ => q) nn1 (by simp; omega) (fun _ s => s.seq (.inl (.inl r4))) (fun i2 z x G1 G2 Qb hz s1 hacc y qb => ?_) (fun G4 es sG4 e4 r5 => ?_)
          · obtain ⟨rfl, hy⟩ := y
            obtain ⟨rfl, hi⟩ := range_at hz
            cases Option.some.inj (hy.symm.trans (vI_get hi))
            exact ⟨rfl, _, rfl, _, rfl, qb _ _ (Same.refl _) rfl⟩
          rw [vI_of r5] at e4
          have S5 := S4.mono (same_hide (D := fa) sG4)
          refine ⟨_, rfl, _, rfl, pL, _, _, _, rfl, rfl, .inl (.inl (sG4 _ _ cL.2)), vA_at ih, _, rfl, ⟨_, .inl (.inl (sG4 _ _ l4))⟩, fun n2 nn2 => ?_⟩
          refine lc_map (zs := List.range M.length) (Y := YAt (vI M.length (L i))) (by have := walk_list (K := K) (a := lA i) (xs := vI M.length (L i)); rw [vI_len] at this; rw [List.length_range]; exact this) (fun j y _ => y = V.int (negV (L i) j)) (fun _ _ _ _ q _ => q) nn2 (by simp; omega) (fun _ s => s.seq (.inl (.inl (sG4 _ _ l4)))) (fun i2 z x G1 G2 Qb hz s1 hacc y qb => ?_) (fun G5 es sG5 e5 r6 => ?_)
          · obtain ⟨rfl, hy⟩ := y
            obtain ⟨rfl, hi⟩ := range_at hz
            cases Option.some.inj (hy.symm.trans (vI_get hi))
            exact ⟨rfl, _, rfl, _, rfl, qb _ _ (Same.refl _) rfl⟩
          rw [vI_of r6] at e5
          refine ⟨len2, fun t6 nt6 => ⟨t6, _, rfl, .inl (.inl upd_same), rfl, ?_⟩⟩
          have st6 := same_new (o := .tup [.ref n1, .ref n2]) nt6
          have S6 := (S5.mono (same_hide (D := fa) sG5)).mono (same_hide (D := fa) st6)
          have e4' := st6 _ _ (sG5 _ _ e4)
          have e5' := st6 _ _ e5
          have ef6 := st6 _ _ (sG5 _ _ (sG4 _ _ ef))
          generalize upd G5 t6 (.tup [.ref n1, .ref n2]) = G6 at S6 e4' e5' ef6
          have n1f : n1 ≠ fa := fun e => by rw [e, ef] at nn1; cases nn1
          have n2f : n2 ≠ fa := fun e => by
            have := sG4 _ _ ef
            rw [← e, nn2] at this; cases this
          have fresh : ∀ {b : Addr} {o : HO}, hide fa G3 b = some o → b ≠ n1 := fun {b o} e => ne_of_none (hide_some e).2 nn1
          have S7 := S6.setT ih (p := n1) (v := negV (T i)) (by rw [hide_ne n1f]; exact e4') (Same.free S4.s0 (by rw [hide_ne n1f]; exact nn1)) (fun j hj => Ne.symm (fresh (S4.rT j hj))) (fun j hj => Ne.symm (fresh (S4.rL j hj))) (fun j hj => Ne.symm (fresh (S4.rR j hj)))
          have fresh2 : ∀ {b : Addr} {o : HO}, hide fa G4 b = some o → b ≠ n2 := fun {b o} e => ne_of_none (hide_some e).2 nn2
          have S8 := S7.setL ih (p := n2) (v := negV (L i)) (by
            rw [upd_ne (Ne.symm (fresh2 S5.eT)), hide_ne n2f]; exact e5') (fun j hj => by
            unfold setA
            split
            · exact Ne.symm (fun e => by rw [← e, e4] at nn2; cases nn2)
            · exact Ne.symm (fresh2 (S5.rT j hj))) (fun j hj => Ne.symm (fresh2 (S5.rR j hj)))
          rw [hide_upd c4.1, hide_upd cL.1] at S8
          have eT6 := (hide_some S6.eT).2
          have eL7 : upd G6 D (.lst ((vA M.length tA).set i (.ref n1))) pL = some (.lst (vA M.length lA)) := by
            have := S7.eL
            rw [hide_upd c4.1] at this
            exact (hide_some this).2
          refine ⟨_, _, rfl, _, rfl, _, rfl, D, _, _, i, rfl, rfl, eT6, ixN_nat (by rw [vA_len]; exact ih), _, _, rfl, _, rfl, _, rfl, pL, _, _, i, rfl, rfl, eL7, ixN_nat (by rw [vA_len]; exact ih), rfl, ?_⟩
          have ef8 : upd (upd G6 D (.lst ((vA M.length tA).set i (.ref n1)))) pL (.lst ((vA M.length lA).set i (.ref n2))) fa = some (.lst fs) := by
            rw [upd_ne (Ne.symm cL.1), upd_ne (Ne.symm c4.1)]; exact ef6
          generalize upd (upd G6 D (.lst ((vA M.length tA).set i (.ref n1)))) pL (.lst ((vA M.length lA).set i (.ref n2))) = G8 at S8 ef8
          refine ⟨_, rfl, .inl ⟨rfl, _, .inl (.inl ef8)⟩, _, rfl, _, rfl, D, _, _, _, rfl, rfl, .inl (.inl (hide_some S8.eT).2), vA_at ih, _, rfl, _, _, _, _, rfl, rfl, .inl (.inl (hide_some (S8.rT i ih)).2), vI_at iw, fa, _, _, rfl, rfl, ef8, by omega, _, _, _, _, _, _, rfl, S8.mono same_hide_upd2, upd_same, by simp [hfs]⟩
        · refine itF (decide_eq_false neg) ?_
          refine ⟨_, rfl, .inl ⟨rfl, _, .inl (.inl ef)⟩, _, rfl, _, rfl, D, _, _, _, rfl, rfl, .inl (.inl c4.2), vA_at ih, _, rfl, _, _, _, _, rfl, rfl, .inl (.inl r4), vI_at iw, fa, _, _, rfl, rfl, ef, by omega, _, _, _, _, _, _, rfl, S4.mono same_hide_upd2, upd_same, by simp [hfs]⟩
      · obtain ⟨tA, lA, T, L, fs, y13, rfl, S4, ef, hfs⟩ := p
        rw [List.length_range] at hfs
        refine ⟨_, rfl, _, rfl, _, rfl, by show 3 ≤ sizeLine; decide, fun p np => ?_⟩
        have st := same_new (o := .tup [.ref pL, .ref fa, .ref pR]) np
        exact q _ p pL fa pR fs rA2 (S4.s0.trans (hide_sub.trans st)) upd_same (st _ _ ef) hfs (st _ _ (hide_some S4.eR).2) fun i hi => st _ _ (hide_some (S4.rR i hi)).2
end
end K17
end
section
set_option Elab.async false
set_option linter.all false
set_option maxRecDepth 100000
namespace K17
open PySem PySem.Spec PyProof.Rows L2
def NullOk (w : Nat) (A N : List Vec) : Prop :=
  (A = [] ∧ N = (List.range w).map unitV) ∨ (A ≠ [] ∧ ∃ t, SmRun (FitW A.length w) A.length w (initM A) t ∧ FormOk w ((List.range' t.a (w - t.a)).map (colV w t.R)) ∧ N = formF w ((List.range' t.a (w - t.a)).map (colV w t.R)))
theorem NullOk.null {w : Nat} {A N : List Vec} (h : NullOk w A N) : Null (FitW A.length w) w A N := by
  rcases h with h | ⟨n, t, r, _, e⟩
  · exact .inl h
  · exact .inr ⟨n, t, r, e⟩
theorem range_drop (w k : Nat) : (List.range w).drop k = List.range' k (w - k) := by
  apply List.ext_getElem?
  intro i
  rw [List.getElem?_drop]
  by_cases h : k + i < w
  · rw [List.getElem?_range h, List.getElem?_range' (by omega)]; simp
  · rw [List.getElem?_eq_none (by simpa using h), List.getElem?_eq_none (by simp; omega)]
section
variable {P : Program} {w : World} {K : PySem.W.Frag} {mg : Str → Option Value} {base : Heap}
abbrev nNu : List Str := ["rows", "wide", "left", "found", "right", "columns", "column"]
theorem scNu : FnScope nNu ["rows", "wide"] (defScope (topS 22)) := ⟨rfl, rfl, rfl, by decide +kernel, rfl, by decide +kernel, by decide +kernel⟩
def spNull (K : PySem.W.Frag) : L2.Sp := fun vs H Q _ => ∃ (w : Nat) (a : Addr) (A N : List Vec) (ys : List V), vs = [.ref a, .int (w : Nat)] ∧ SqL K H a ys ∧ RowsE K w H A ys ∧ A.length ≤ 8 ∧ 2 ≤ w ∧ w ≤ 4 ∧ NullOk w A N ∧
  ∀ H' p zs, Same H H' → H p = none → H' p = some (.lst zs) → Rows w H' N zs → Q (.ref p) H'
set_option maxHeartbeats 4000000 in
theorem ok_null {f : Addr} {fd : FuncData} {k : Nat} (F : Fun K "null_of" "null_of" (topS 22) f fd) (C1 : Cal P w K mg base k "unit" ["size"] spUnit) (C2 : Cal P w K mg base k "smith_of" ["rows"] (spSmith K)) (C3 : Cal P w K mg base k "form_of" ["rows"] (spForm K))
    (mz : mg "zip" = none) (ml : mg "len" = none) (mli : mg "list" = none) : FnOk P w K mg base CX0 (k + 1) f fd ["rows", "wide"] (spNull K) := by
  obtain ⟨f1, fd1, G1, g1, k1, b1⟩ := C1
  obtain ⟨f2, fd2, G2, g2, k2, b2⟩ := C2
  obtain ⟨f3, fd3, G3, g3, k3, b3⟩ := C3
  refine F.ok scNu (fun vs H Q E h => ?_) (fun cdv A outer s H vs Q E hr h => ?_)
  · obtain ⟨_, _, _, _, _, rfl, _⟩ := h
    rfl
  · obtain ⟨w, a, M, N, ys, rfl, hA, hR, h8, w2, w4, hN, q⟩ := h
    have nd := scNu.nd
    refine ⟨_, pss_cons (ps_if (pt_cmpR (op_eqD hr.units) (pv 0) (pe_lst pa_nil) (nomark _)) (pss_one (ps_ret (pe_call G1 hr (by rfl) g1 k1 b1 .nil pass0 (pa_cons (pv 1) pa_nil)))) pss_nil)
      (pss_cons (ps_asg (pe_call G2 hr (by rfl) g2 k2 b2 .nil pass0 (pa_cons (pv 0) pa_nil)) (pg_tup rfl (pgs_cons (pg_name (i := 2) nd rfl (.inl rfl)) (pgs_cons (pg_name (i := 3) nd rfl (.inl rfl)) (pgs_cons (pg_name (i := 4) nd rfl (.inl rfl)) pgs_nil)))))
      (pss_cons (ps_setLc (i := 5) (own := [("column", 6)]) (g := gName 6) (tt := tYes) rfl nd rfl rfl (sw_true rfl rfl rfl (by decide +kernel)) (pi_zipN (by rfl) mz (pv 4)) (blkOk_by (N := nNu) (sc := defScope (topS 22)) (by decide +kernel))
          (fun _ _ _ _ _ => pg_name (i := 6) nd rfl (Or.inl rfl)) (fun _ _ _ _ _ => pts_nil) (fun _ _ _ _ _ => pe_callTy (cLst K) (by rfl) mli PyProof.Rows.boot_list (pa_cons (pv 6) pa_nil)))
      (pss_one (ps_ret (pe_call G3 hr (by rfl) g3 k3 b3 .nil pass0 (pa_cons (pe_slice sl_list (pv 5) (po_some (pe_callB (cLen K) (by rfl) ml PySem.boot_len (pa_cons (pv 3) pa_nil))) po_none) pa_nil)))))), ?_⟩
    refine ⟨_, rfl, Nat.zero_le _, fun o no => rows_eq (rowsE_same hR (same_new no)) ((same_new no).seq hA) upd_same ⟨_, rfl, ?_⟩⟩
    have s1 := same_new (o := .lst []) no
    generalize upd H o (.lst []) = H1 at s1
    by_cases hz : M.length = 0
    · refine itT (decide_eq_true hz) ?_
      have hM : M = [] := List.length_eq_zero_iff.1 hz
      have hN2 : N = (List.range w).map unitV := by
        rcases hN with ⟨_, e⟩ | ⟨n, _⟩
        · exact e
        · exact absurd hM n
      refine ⟨_, rfl, w, rfl, by omega, fun H2 p as s2 np ep _ _ rr => ?_⟩
      exact q H2 p _ (s1.trans s2) (s1.free np) ep (by rw [hN2]; exact rr)
    · refine itF (decide_eq_false hz) ?_
      obtain ⟨t, run, fo, rfl⟩ : ∃ t, SmRun (FitW M.length w) M.length w (initM M) t ∧ FormOk w ((List.range' t.a (w - t.a)).map (colV w t.R)) ∧ N = formF w ((List.range' t.a (w - t.a)).map (colV w t.R)) := by
        rcases hN with ⟨e, _⟩ | ⟨_, z⟩
        · rw [e] at hz; exact absurd rfl hz
        · exact z
      refine ⟨_, rfl, w, a, M, ys, t, rfl, s1.seq hA, rowsE_same hR s1, by omega, h8, by omega, by omega, run, fun H2 p pl pf pr fs rA s2 ep efs lfs er rr => ?_⟩
      refine ⟨p, _, rfl, .inl (.inl ep), rfl, _, _, rfl, _, _, rfl, _, _, rfl, rfl, ?_⟩
      have rel : Rel2 (fun L xs => SqL K H2 L xs) ((List.range w).map rA) ((List.range w).map fun i => vI w (t.R i)) := by
        refine Rel2.of_get (by simp) fun i L xs h1 h2 => ?_
        rw [List.getElem?_map] at h1 h2
        by_cases hi : i < w
        · rw [List.getElem?_range hi] at h1 h2
          cases h1; cases h2
          exact .inl (.inl (rr i hi))
        · rw [List.getElem?_eq_none (by simpa using hi)] at h1; cases h1
      refine ⟨_, rfl, pr, (List.range w).map rA, _, rfl, .inl (.inl (by rw [er]; unfold vA; rw [List.map_map]; rfl)), rel, by simpa using w2, by simpa using w4, fun D nD => ?_⟩
      refine lc_map (zs := List.range w) (by
          have := walk_zipN (K := K) (ls := (List.range w).map rA) (rows := (List.range w).map fun i => vI w (t.R i)) (n := w) (by intro e; have := congrArg List.length e; simp at this; omega) (by intro xs hx; obtain ⟨i, _, rfl⟩ := List.mem_map.1 hx; exact vI_len)
          rw [List.length_range]; exact this) (fun j y H => IsRow w H (colV w t.R j) y) (fun _ _ _ _ q s => q.same s) nD (by simp; omega) (fun G s => rel.imp fun _ _ q => s.seq q) (fun j z x G1 G2 Qb hz s3 hacc y qb => ?_) (fun H3 cs s3 ec rc => ?_)
      · obtain ⟨T, vs, rfl, nT, rfl, rv⟩ := y
        obtain ⟨rfl, hj⟩ := range_at hz
        have hvs : vs = vI w fun i => t.R i z := by
          have := Rel2.mapL.1 rv
          refine Rel2.eq_map (this.imp fun i y e => ?_)
          rw [vI_get hj] at e
          exact (Option.some.inj e).symm
        obtain ⟨acc, hacc⟩ := hacc
        refine ⟨rfl, _, rfl, T, _, rfl, .inr (.inl (.inl upd_same)), fun l hl => ?_⟩
        have st := same_new (o := .tup vs) nT
        have nD2 : l ≠ D := fun e => by
          have := st _ _ hacc
          rw [← e, hl] at this; cases this
        refine qb _ _ (st.trans (same_new hl)) ⟨l, rfl, ?_⟩
        rw [hide_ne nD2, upd_same, hvs]
        congr 2
        exact vI_congr fun i hi => by unfold colV; rw [if_pos hi]
      · have rc : Rows w H3 ((List.range w).map (colV w t.R)) cs := Rel2.mapL.2 (rc.imp fun _ _ q => q.same hide_sub)
        refine ⟨_, rfl, _, rfl, pf, _, rfl, .inl (.inl (.inl (s3 _ _ efs))), _, rfl, D, _, rfl, .inl (.inl ec), fun z nz => ?_⟩
        have rd := rc.drop t.a
        rw [← List.map_drop, range_drop] at rd
        have ld := rd.len
        refine ⟨w, z, _, _, rfl, .inl (.inl upd_same), ?_, by simp; omega, by omega, fo, fun H4 p2 ws s5 n5 e5 r5 => ?_⟩
        · rw [lfs, cut_drop]
          exact rd.imp fun _ _ q => (q.same (same_new nz)).toE
        · exact q H4 p2 ws ((s1.trans s2).trans (s3.trans ((same_new nz).trans s5))) (((s1.trans s2).trans s3).free ((same_new nz).free n5)) e5 r5
end
end K17
end
section
set_option Elab.async false
set_option linter.all false
set_option maxRecDepth 100000
namespace K17
open PySem PySem.Spec PyProof.Rows L2
/-- what filled_of asks and gives -/
structure FillOk (w : Nat) (A W : List Vec) : Prop where
  ex : ∃ N : List Vec, N.length ≤ 8 ∧ NullOk w A N ∧ NullOk w N W
section
variable {P : Program} {w : World} {K : PySem.W.Frag} {mg : Str → Option Value} {base : Heap}
theorem scFi : FnScope ["rows", "wide"] ["rows", "wide"] (defScope (topS 23)) := ⟨rfl, rfl, rfl, by decide +kernel, rfl, by decide +kernel, by decide +kernel⟩
def spFill (K : PySem.W.Frag) : L2.Sp := fun vs H Q _ => ∃ (w : Nat) (a : Addr) (A W : List Vec) (ys : List V), vs = [.ref a, .int (w : Nat)] ∧ SqL K H a ys ∧ RowsE K w H A ys ∧ A.length ≤ 8 ∧ 2 ≤ w ∧ w ≤ 4 ∧ FillOk w A W ∧
  ∀ H' p zs, Same H H' → H p = none → H' p = some (.lst zs) → Rows w H' W zs → Q (.ref p) H'
theorem ok_fill {f : Addr} {fd : FuncData} {k : Nat} (F : Fun K "filled_of" "filled_of" (topS 23) f fd) (C1 : Cal P w K mg base k "null_of" ["rows", "wide"] (spNull K)) : FnOk P w K mg base CX0 (k + 1) f fd ["rows", "wide"] (spFill K) := by
  obtain ⟨f1, fd1, G1, g1, k1, b1⟩ := C1
  refine F.ok scFi (fun vs H Q E h => ?_) (fun cdv A outer s H vs Q E hr h => ?_)
  · obtain ⟨_, _, _, _, _, rfl, _⟩ := h
    rfl
  · obtain ⟨w, a, M, W, ys, rfl, hA, hR, h8, w2, w4, ⟨N, hn, o1, o2⟩, q⟩ := h
    refine ⟨_, pss_one (ps_ret (pe_call G1 hr (by rfl) g1 k1 b1 .nil pass0 (pa_cons (pe_call G1 hr (by rfl) g1 k1 b1 .nil pass0 (pa_cons (pv 0) (pa_cons (pv 1) pa_nil))) (pa_cons (pv 1) pa_nil)))), ?_⟩
    refine ⟨_, rfl, _, rfl, w, a, M, N, ys, rfl, hA, hR, h8, w2, w4, o1, fun H1 p zs s1 np ep rr => ?_⟩
    exact ⟨_, rfl, w, p, N, W, zs, rfl, .inl (.inl ep), rr.imp fun _ _ q => q.toE, hn, w2, w4, o2, fun H2 p2 ws s2 n2 e2 r2 => q H2 p2 ws (s1.trans s2) (s1.free n2) e2 r2⟩
end
end K17
end
section
set_option Elab.async false
set_option linter.all false
set_option maxRecDepth 100000
namespace K17
open PySem PySem.Spec PyProof.Rows L2
section
variable {P : Program} {w : World} {K : PySem.W.Frag} {mg : Str → Option Value} {base : Heap}
theorem scMaps : FnScope ["limit", "rows"] ["limit", "rows"] (defScope (topS 27)) := ⟨rfl, rfl, rfl, by decide +kernel, rfl, by decide +kernel, by decide +kernel⟩
def spMaps (K : PySem.W.Frag) : L2.Sp := fun vs H Q _ => ∃ (a b : Addr) (ls : List Int) (rows W : List Vec), vs = [.ref a, .ref b] ∧ SqT K H a (ls.map V.int) ∧ Lims ls ∧ TMat K ls.length H b rows ∧ FillOk ls.length rows W ∧ W.length ≤ 8 ∧
  ∀ H' p ts, Same H H' → H p = none → H' p = some (.tup ts) → Rel2 (IsRowT ls.length H') W ts → Q (.ref p) H'
theorem ok_maps {f : Addr} {fd : FuncData} {k : Nat} (F : Fun K "maps_of" "maps_of" (topS 27) f fd) (C1 : Cal P w K mg base k "need_tempering" ["limit", "rows"] (spTemper K)) (C2 : Cal P w K mg base k "told_rows" ["rows"] (spTold K)) (C3 : Cal P w K mg base k "filled_of" ["rows", "wide"] (spFill K)) (ml : mg "len" = none) (mli : mg "list" = none) :
    FnOk P w K mg base CX0 (k + 1) f fd ["limit", "rows"] (spMaps K) := by
  obtain ⟨f1, fd1, G1, g1, k1, b1⟩ := C1
  obtain ⟨f2, fd2, G2, g2, k2, b2⟩ := C2
  obtain ⟨f3, fd3, G3, g3, k3, b3⟩ := C3
  refine F.ok scMaps (fun vs H Q E h => ?_) (fun cdv A outer s H vs Q E hr h => ?_)
  · obtain ⟨_, _, _, _, _, rfl, _⟩ := h
    rfl
  · obtain ⟨a, b, ls, rows, W, rfl, hA, hl, hM, hF, hW, q⟩ := h
    refine ⟨_, pss_cons (ps_expr (pe_call G1 hr (by rfl) g1 k1 b1 .nil pass0 (pa_cons (pv 0) (pa_cons (pv 1) pa_nil))))
      (pss_one (ps_ret (pe_call G2 hr (by rfl) g2 k2 b2 .nil pass0 (pa_cons (pe_call G3 hr (by rfl) g3 k3 b3 .nil pass0 (pa_cons (pe_callTy (cLst K) (by rfl) mli PyProof.Rows.boot_list (pa_cons (pv 1) pa_nil)) (pa_cons (pe_callB (cLen K) (by rfl) ml PySem.boot_len (pa_cons (pv 0) pa_nil)) pa_nil))) pa_nil)))), ?_⟩
    have hlen := hl.len
    refine ⟨_, rfl, _, rfl, a, b, ls, rows, rfl, hA, hl, hM, fun H1 s1 => ?_⟩
    obtain ⟨ys, hY, hR⟩ := (hM.same s1).ex
    refine ⟨_, rfl, b, ys, rfl, .inr hY, fun l hl' => ?_⟩
    have s2 := same_new (o := .lst ys) hl'
    refine ⟨_, rfl, a, _, rfl, .inr (same_seqT s2 (same_seqT s1 hA)), ls.length, l, rows, W, ys, ?_, .inl (.inl upd_same), hR.imp fun _ _ q => (q.same s2).toE, hM.r8, by omega, by omega, hF, fun H2 p zs s3 np ep rr => ?_⟩
    · rw [List.length_map]; rfl
    · exact ⟨ls.length, p, W, zs, rfl, .inl (.inl ep), rr, hW, fun H3 p3 ts s4 n3 e3 r3 => q H3 p3 ts (s1.trans (s2.trans (s3.trans s4))) ((s1.trans (s2.trans s3)).free n3) e3 r3⟩
theorem scEither : FnScope ["limit", "one", "other"] ["limit", "one", "other"] (defScope (topS 28)) := ⟨rfl, rfl, rfl, by decide +kernel, rfl, by decide +kernel, by decide +kernel⟩
def spEither (K : PySem.W.Frag) : L2.Sp := fun vs H Q _ => ∃ (a b c : Addr) (ls : List Int) (rows rows2 W : List Vec), vs = [.ref a, .ref b, .ref c] ∧ SqT K H a (ls.map V.int) ∧ Lims ls ∧ TMat K ls.length H b rows ∧ TMat K ls.length H c rows2 ∧ (rows ++ rows2).length ≤ 8 ∧ FillOk ls.length (rows ++ rows2) W ∧ W.length ≤ 8 ∧
  ∀ H' p ts, Same H H' → H p = none → H' p = some (.tup ts) → Rel2 (IsRowT ls.length H') W ts → Q (.ref p) H'
theorem ok_either {f : Addr} {fd : FuncData} {k : Nat} (F : Fun K "either" "either" (topS 28) f fd) (C1 : Cal P w K mg base k "need_temperings" ["limit", "one", "other"] (spTempers K)) (C2 : Cal P w K mg base k "told_rows" ["rows"] (spTold K)) (C3 : Cal P w K mg base k "filled_of" ["rows", "wide"] (spFill K)) (ml : mg "len" = none) (mli : mg "list" = none) :
    FnOk P w K mg base CX0 (k + 1) f fd ["limit", "one", "other"] (spEither K) := by
  obtain ⟨f1, fd1, G1, g1, k1, b1⟩ := C1
  obtain ⟨f2, fd2, G2, g2, k2, b2⟩ := C2
  obtain ⟨f3, fd3, G3, g3, k3, b3⟩ := C3
  refine F.ok scEither (fun vs H Q E h => ?_) (fun cdv A outer s H vs Q E hr h => ?_)
  · obtain ⟨_, _, _, _, _, _, _, rfl, _⟩ := h
    rfl
  · obtain ⟨a, b, c, ls, rows, rows2, W, rfl, hA, hl, hM, hM2, h8, hF, hW, q⟩ := h
    refine ⟨_, pss_cons (ps_expr (pe_call G1 hr (by rfl) g1 k1 b1 .nil pass0 (pa_cons (pv 0) (pa_cons (pv 1) (pa_cons (pv 2) pa_nil)))))
      (pss_one (ps_ret (pe_call G2 hr (by rfl) g2 k2 b2 .nil pass0 (pa_cons (pe_call G3 hr (by rfl) g3 k3 b3 .nil pass0 (pa_cons (pe_callTy (cLst K) (by rfl) mli PyProof.Rows.boot_list (pa_cons (pe_op op_catT (pv 1) (pv 2)) pa_nil)) (pa_cons (pe_callB (cLen K) (by rfl) ml PySem.boot_len (pa_cons (pv 0) pa_nil)) pa_nil))) pa_nil)))), ?_⟩
    have hlen := hl.len
    refine ⟨_, rfl, _, rfl, _, rfl, a, b, c, ls, rows, rows2, rfl, hA, hl, hM, hM2, fun H1 s1 => ?_⟩
    obtain ⟨ys, hY, hR⟩ := (hM.same s1).ex
    obtain ⟨zs, hZ, hR2⟩ := (hM2.same s1).ex
    have l1 := hR.len
    have l2 := hR2.len
    have r1 := hM.r1
    have r2 := hM2.r1
    have k1000 : (1000 : Nat) < sizeLine := by decide
    rw [List.length_append] at h8
    refine ⟨_, rfl, _, rfl, b, c, ys, zs, rfl, rfl, hY, hZ, (fun e => by rw [e] at l1; rw [l1] at r1; exact absurd r1 (by decide)), by omega, (fun e => by rw [e] at l2; rw [l2] at r2; exact absurd r2 (by decide)), fun _ u nu => ?_⟩
    have s0 := same_new (o := .tup (ys ++ zs)) nu
    refine ⟨u, ys ++ zs, rfl, .inr (.inl (.inl upd_same)), fun l hl' => ?_⟩
    have s2 := s0.trans (same_new (o := .lst (ys ++ zs)) hl')
    refine ⟨_, rfl, a, _, rfl, .inr (same_seqT s2 (same_seqT s1 hA)), ls.length, l, rows ++ rows2, W, ys ++ zs, ?_, .inl (.inl upd_same), Rel2.app (hR.imp fun _ _ q => (q.same s2).toE) (hR2.imp fun _ _ q => (q.same s2).toE), by rw [List.length_append]; exact h8, by omega, by omega, hF, fun H2 p zs s3 np ep rr => ?_⟩
    · rw [List.length_map]; rfl
    · exact ⟨ls.length, p, W, zs, rfl, .inl (.inl ep), rr, hW, fun H3 p3 ts s4 n3 e3 r3 => q H3 p3 ts (s1.trans (s2.trans (s3.trans s4))) ((s1.trans (s2.trans s3)).free n3) e3 r3⟩
end
end K17
end
section
set_option Elab.async false
set_option linter.all false
set_option maxRecDepth 100000
namespace K17
open PySem PySem.Spec PyProof.Rows L2
section
variable {P : Program} {w : World} {K : PySem.W.Frag} {mg : Str → Option Value} {base : Heap}
theorem scPow : FnScope ["_law_base", "_law_exponent", "_law_found", "_law_turn"] ["_law_base", "_law_exponent"] (defScope (topS 39)) := ⟨rfl, rfl, rfl, by decide +kernel, rfl, by decide +kernel, by decide +kernel⟩
def spPow : L2.Sp := fun vs H Q _ => ∃ n : Nat, vs = [.int 3, .int (n : Nat)] ∧ n ≤ 8 ∧ Q (.int (3 ^ n)) H
theorem ok_pow {f : Addr} {fd : FuncData} {k : Nat} (F : Fun K "_law_power" "_law_power" (topS 39) f fd) (mr : mg "range" = none) : FnOk P w K mg base CX0 (k + 1) f fd ["_law_base", "_law_exponent"] spPow := by
  refine F.ok scPow (fun vs H Q E h => ?_) (fun cdv A outer s H vs Q E hr h => ?_)
  · obtain ⟨_, rfl, _⟩ := h
    rfl
  · obtain ⟨n, rfl, hn, q⟩ := h
    refine ⟨_, pss_cons (ps_set (i := 2) scPow.nd rfl (.inl rfl) pe_int)
      (pss_cons (ps_for PassesOwn.never rfl (pi_range1 (by rfl) mr (pa_cons (pv 1) pa_nil)) (pg_name (i := 3) scPow.nd rfl (.inl rfl)) (pss_one (ps_set (i := 2) scPow.nd rfl (.inl rfl) (pe_op op_mulX (pv 2) (pv 0)))))
      (pss_one (ps_ret (pv 2)))), ?_⟩
    refine ⟨_, rfl, _, rfl, by omega, by omega, ?_⟩
    refine for_it (walk_rng (n := n)) (fun i σ H' => H' = H ∧ ∃ y3, σ = [some (.int 3), some (.int (n : Nat)), some (.int (3 ^ i)), y3]) ⟨rfl, _, rfl⟩ (fun _ _ _ _ _ => trivial) (fun i x σ H1 H2 hi p y => ?_) (fun σ H1 p => ?_)
    · obtain ⟨rfl, y3, rfl⟩ := p
      obtain ⟨rfl, rfl⟩ := y
      rw [List.length_range] at hi
      refine ⟨_, rfl, _, rfl, _, _, rfl, rfl, ⟨2 * i + 1, 64, ?_, by decide, by omega⟩, rfl, some (V.int (i : Nat)), ?_⟩
      · have : ((3 : Int) ^ i).natAbs = 3 ^ i := by rw [Int.natAbs_pow]; rfl
        rw [this]
        have h4 : 3 ^ i ≤ 4 ^ i := Nat.pow_le_pow_left (by decide) i
        have e4 : 4 ^ i = 2 ^ (2 * i) := by rw [Nat.pow_mul]
        rw [e4] at h4
        exact Nat.lt_of_le_of_lt h4 (Nat.pow_lt_pow_right (by decide) (by omega))
      · show _ = _
        rw [Int.pow_succ]; rfl
    · obtain ⟨rfl, y3, rfl⟩ := p
      rw [List.length_range]
      exact ⟨_, rfl, q⟩
theorem scCom : FnScope ["_law_one", "_law_other"] ["_law_one", "_law_other"] (defScope (topS 40)) := ⟨rfl, rfl, rfl, by decide +kernel, rfl, by decide +kernel, by decide +kernel⟩
def spCom : L2.Sp := fun vs H Q _ => ∃ a b : Int, vs = [.int a, .int b] ∧ Q (.int (gcdI a b)) H
theorem ok_com {f : Addr} {fd : FuncData} {k : Nat} (F : Fun K "_law_common" "_law_common" (topS 40) f fd) (ma : mg "abs" = none) : FnOk P w K mg base CX0 (k + 1) f fd ["_law_one", "_law_other"] spCom := by
  refine F.ok scCom (fun vs H Q E h => ?_) (fun cdv A outer s H vs Q E hr h => ?_)
  · obtain ⟨_, _, rfl, _⟩ := h
    rfl
  · obtain ⟨a, b, rfl, q⟩ := h
    refine ⟨_, pss_cons (ps_par (i := 0) (j := 1) rfl scCom.nd rfl rfl (by decide) rfl rfl (pa_cons (pe_callB call_abs (by rfl) ma PyProof.Rows.boot_abs (pa_cons (pv 0) pa_nil)) (pa_cons (pe_callB call_abs (by rfl) ma PyProof.Rows.boot_abs (pa_cons (pv 1) pa_nil)) pa_nil)) rfl)
      (pss_cons (ps_while PassesOwn.never (pt_cmpR op_ne (pv 1) pe_int (nomark _)) (pss_one (ps_par (i := 0) (j := 1) rfl scCom.nd rfl rfl (by decide) rfl rfl (pa_cons (pv 1) (pa_cons (pe_op op_modX (pv 0) (pv 1)) pa_nil)) rfl)))
      (pss_one (ps_ret (pv 0)))), ?_⟩
    refine ⟨_, rfl, _, rfl, _, rfl, _, rfl, _, _, rfl, ?_⟩
    refine ⟨fun m σ H' => H' = H ∧ ∃ x y : Nat, σ = [some (.int (x : Nat)), some (.int (y : Nat))] ∧ m = y ∧ Nat.gcd x y = Int.gcd a b, ⟨b.natAbs, rfl, a.natAbs, b.natAbs, ?_, rfl, rfl⟩, fun m σ H1 hW => ?_⟩
    · have e : ∀ z : Int, (if z < 0 then -z else z) = ((z.natAbs : Nat) : Int) := fun z => by split <;> omega
      rw [e, e]; rfl
    · obtain ⟨rfl, x, y, rfl, rfl, hg⟩ := hW
      refine ⟨_, rfl, rfl, _, rfl, ?_⟩
      by_cases h0 : m = 0
      · subst h0
        refine itF (by simp) ⟨_, rfl, ?_⟩
        rw [Nat.gcd_zero_right] at hg
        rw [hg]; exact q
      · refine itT (by simp [h0]) ?_
        refine ⟨fun σ' H' => H' = H1 ∧ ∃ x' y' : Nat, σ' = [some (.int (x' : Nat)), some (.int (y' : Nat))] ∧ y' < m ∧ Nat.gcd x' y' = Int.gcd a b, fun σ' H' hN => ?_, ?_⟩
        · obtain ⟨rfl, x', y', rfl, hl, hg'⟩ := hN
          exact ⟨y', hl, rfl, x', y', rfl, rfl, hg'⟩
        · refine ⟨_, rfl, _, rfl, _, rfl, _, _, rfl, rfl, by omega, _, _, rfl, rfl, m, x % m, ?_, Nat.mod_lt _ (by omega), ?_⟩
          · show [some _, some (V.int (((x : Nat) : Int).fmod ((m : Nat) : Int)))] = _
            rw [Int.fmod_eq_emod_of_nonneg _ (by omega)]; rfl
          · rw [← hg, Nat.gcd_comm x m, Nat.gcd_rec m x, Nat.gcd_comm]
end
end K17
end
section
set_option Elab.async false
set_option linter.all false
set_option maxRecDepth 100000
namespace K17
open PySem PySem.Spec PyProof.Rows L2
/-- what the count of classes asks -/
inductive ClsOk (w : Nat) : List Vec → List Vec → Int → Prop
  | nil {c : Int} : ClsOk w [] [] c
  | cons {i o : Vec} {is os : List Vec} {c : Int} (hi : ∃ j, j < w ∧ i j ≠ 0) (ho : ∃ j, j < w ∧ o j ≠ 0) (m : MulFit c (hdV w i)) (d : DivFit (hdV w o)) (t : ClsOk w is os ((c * hdV w i).fdiv (hdV w o))) : ClsOk w (i :: is) (o :: os) c
theorem ClsOk.len {w : Nat} {T W : List Vec} {c : Int} (h : ClsOk w T W c) : T.length = W.length := by
  induction h with
  | nil => rfl
  | cons _ _ _ _ _ ih => simp [ih]
/-- one step of the count, from what is left -/
theorem ClsOk.step {w : Nat} {T W : List Vec} {i : Nat} (hi : i < T.length) (hl : T.length = W.length) {c : Int} (h : ClsOk w (T.drop i) (W.drop i) c) :
    (∃ j, j < w ∧ row T i j ≠ 0) ∧ (∃ j, j < w ∧ row W i j ≠ 0) ∧ MulFit c (hdV w (row T i)) ∧ DivFit (hdV w (row W i)) ∧ ClsOk w (T.drop (i + 1)) (W.drop (i + 1)) ((c * hdV w (row T i)).fdiv (hdV w (row W i))) ∧
      classesF w (T.drop i) (W.drop i) c = classesF w (T.drop (i + 1)) (W.drop (i + 1)) ((c * hdV w (row T i)).fdiv (hdV w (row W i))) := by
  have e1 : T.drop i = row T i :: T.drop (i + 1) := by
    rw [List.drop_eq_getElem_cons hi]; unfold row; rw [List.getD_eq_getElem?_getD, List.getElem?_eq_getElem hi]; rfl
  have hi2 : i < W.length := by omega
  have e2 : W.drop i = row W i :: W.drop (i + 1) := by
    rw [List.drop_eq_getElem_cons hi2]; unfold row; rw [List.getD_eq_getElem?_getD, List.getElem?_eq_getElem hi2]; rfl
  rw [e1, e2] at h ⊢
  cases h with
  | cons a b m d t => exact ⟨a, b, m, d, t, rfl⟩
section
variable {P : Program} {w : World} {K : PySem.W.Frag} {mg : Str → Option Value} {base : Heap}
abbrev nCo : List Str := ["limit", "rows", "told", "whole", "classes", "inner", "outer"]
theorem scCo : FnScope nCo ["limit", "rows"] (defScope (topS 34)) := ⟨rfl, rfl, rfl, by decide +kernel, rfl, by decide +kernel, by decide +kernel⟩
def spCont (K : PySem.W.Frag) : L2.Sp := fun vs H Q _ => ∃ (a b : Addr) (ls : List Int) (rows W : List Vec), vs = [.ref a, .ref b] ∧ SqT K H a (ls.map V.int) ∧ Lims ls ∧ TMat K ls.length H b rows ∧ FillOk ls.length rows W ∧ W.length ≤ 8 ∧ FormOk ls.length rows ∧ ClsOk ls.length (formF ls.length rows) W 1 ∧
  ∀ H', Same H H' → Q (.int (classesF ls.length (formF ls.length rows) W 1)) H'
set_option maxHeartbeats 4000000 in
theorem ok_cont {f : Addr} {fd : FuncData} {k : Nat} (F : Fun K "contorted" "contorted" (topS 34) f fd) (C1 : Cal P w K mg base k "need_tempering" ["limit", "rows"] (spTemper K)) (C2 : Cal P w K mg base k "form_of" ["rows"] (spForm K)) (C3 : Cal P w K mg base k "filled_of" ["rows", "wide"] (spFill K)) (C4 : Cal P w K mg base k "head_place" ["row"] (spHeadP K))
    (ml : mg "len" = none) (mli : mg "list" = none) (mz : mg "zip" = none) : FnOk P w K mg base CX0 (k + 1) f fd ["limit", "rows"] (spCont K) := by
  obtain ⟨f1, fd1, G1, g1, k1, b1⟩ := C1
  obtain ⟨f2, fd2, G2, g2, k2, b2⟩ := C2
  obtain ⟨f3, fd3, G3, g3, k3, b3⟩ := C3
  obtain ⟨f4, fd4, G4, g4, k4, b4⟩ := C4
  refine F.ok scCo (fun vs H Q E h => ?_) (fun cdv A outer s H vs Q E hr h => ?_)
  · obtain ⟨_, _, _, _, _, rfl, _⟩ := h
    rfl
  · obtain ⟨a, b, ls, rows, W, rfl, hA, hl, hM, hF, hW, fo, co, q⟩ := h
    have nd := scCo.nd
    refine ⟨_, pss_cons (ps_expr (pe_call G1 hr (by rfl) g1 k1 b1 .nil pass0 (pa_cons (pv 0) (pa_cons (pv 1) pa_nil))))
      (pss_cons (ps_par (i := 2) (j := 3) rfl nd rfl rfl (by decide) rfl rfl (pa_cons (pe_call G2 hr (by rfl) g2 k2 b2 .nil pass0 (pa_cons (pe_callTy (cLst K) (by rfl) mli PyProof.Rows.boot_list (pa_cons (pv 1) pa_nil)) pa_nil))
        (pa_cons (pe_call G3 hr (by rfl) g3 k3 b3 .nil pass0 (pa_cons (pe_callTy (cLst K) (by rfl) mli PyProof.Rows.boot_list (pa_cons (pv 1) pa_nil)) (pa_cons (pe_callB (cLen K) (by rfl) ml PySem.boot_len (pa_cons (pv 0) pa_nil)) pa_nil))) pa_nil)) rfl)
      (pss_cons (ps_set (i := 4) nd rfl (.inl rfl) pe_int)
      (pss_cons (ps_for PassesOwn.never rfl (pi_zip (by rfl) mz (pa_cons (pv 2) (pa_cons (pv 3) pa_nil))) (pg_tup rfl (pgs_cons (pg_name (i := 5) nd rfl (.inl rfl)) (pgs_cons (pg_name (i := 6) nd rfl (.inl rfl)) pgs_nil)))
        (pss_one (ps_set (i := 4) nd rfl (.inl rfl) (pe_op op_fdivX (pe_op op_mulX (pv 4) (pe_ix (iL K) (pv 5) (pe_call G4 hr (by rfl) g4 k4 b4 .nil pass0 (pa_cons (pv 5) pa_nil)) (fun _ _ => rfl))) (pe_ix (iL K) (pv 6) (pe_call G4 hr (by rfl) g4 k4 b4 .nil pass0 (pa_cons (pv 6) pa_nil)) (fun _ _ => rfl))))))
      (pss_one (ps_ret (pv 4)))))), ?_⟩
    have hlen := hl.len
    refine ⟨_, rfl, _, rfl, a, b, ls, rows, rfl, hA, hl, hM, fun H1 s1 => ?_⟩
    obtain ⟨ys, hY, hR⟩ := (hM.same s1).ex
    refine ⟨_, rfl, b, ys, rfl, .inr hY, fun l hl' => ?_⟩
    have s2 := same_new (o := .lst ys) hl'
    refine ⟨ls.length, l, rows, ys, rfl, .inl (.inl upd_same), hR.imp fun _ _ q => (q.same s2).toE, hM.r8, by omega, fo, fun H2 p zs s3 np ep rr => ?_⟩
    have s23 := s2.trans s3
    refine ⟨_, rfl, b, ys, rfl, .inr (same_seqT s23 hY), fun l2 hl2 => ?_⟩
    have s4 := same_new (o := .lst ys) hl2
    have s14 := s1.trans (s23.trans s4)
    refine ⟨_, rfl, a, _, rfl, .inr (same_seqT s14 hA), ls.length, l2, rows, W, ys, ?_, .inl (.inl upd_same), hR.imp fun _ _ q => (q.same (s23.trans s4)).toE, hM.r8, by omega, by omega, hF, fun H3 p2 ws s5 n5 e5 r5 => ⟨_, _, rfl, ?_⟩⟩
    · rw [List.length_map]; rfl
    have ep3 := (s4.trans s5) _ _ ep
    have rr3 := rows_same rr (s4.trans s5)
    have lz := rr3.len
    have lw := r5.len
    have lc := co.len
    refine ⟨_, rfl, _, rfl, p, p2, zs, ws, rfl, .inl (.inl ep3), .inl (.inl e5), ?_⟩
    refine for_it (walk_zip (n := (formF ls.length rows).length) (by omega)) (fun i σ G => Same H3 G ∧ ∃ (c : Int) (y5 y6 : Option V), σ = [some (.ref a), some (.ref b), some (.ref p), some (.ref p2), some (.int c), y5, y6] ∧ ClsOk ls.length ((formF ls.length rows).drop i) (W.drop i) c ∧ classesF ls.length ((formF ls.length rows).drop i) (W.drop i) c = classesF ls.length (formF ls.length rows) W 1) ⟨.refl _, 1, _, _, rfl, co, rfl⟩ (fun i σ G _ p => ⟨.inl (.inl (p.1 _ _ ep3)), .inl (.inl (p.1 _ _ e5))⟩) (fun i x σ G1 G2 hi p y => ?_) (fun σ G p => ?_)
    · obtain ⟨sG, c, y5, y6, rfl, ck, ce⟩ := p
      obtain ⟨T, x1, x2, rfl, nT, rfl, e1, e2⟩ := y
      obtain ⟨p5, q5, c5⟩ := rows_get rr3 hi
      obtain ⟨p6, q6, c6⟩ := rows_get r5 (show i < W.length by omega)
      cases Option.some.inj (e1.symm.trans q5)
      cases Option.some.inj (e2.symm.trans q6)
      obtain ⟨h1, h2, mf, df, ck2, ce2⟩ := ck.step hi lc
      have sT := sG.trans (same_new (o := .tup [.ref p5, .ref p6]) nT)
      have d5 := sT _ _ c5
      have d6 := sT _ _ c6
      have hP : ∀ {v : Vec}, (∃ j, j < ls.length ∧ v j ≠ 0) → headP ls.length v < ls.length := fun {v} h => by
        have := List.mem_of_getElem? (headP_find h)
        unfold nzL at this
        simpa using (List.mem_filter.1 this).1
      refine ⟨T, _, rfl, .inl (.inl upd_same), rfl, _, _, rfl, _, _, rfl, rfl, ?_⟩
      refine ⟨_, rfl, _, rfl, _, rfl, ls.length, p5, _, rfl, .inl (.inl d5), by omega, h1, fun G3 s6 => ?_⟩
      refine ⟨p5, _, _, _, rfl, rfl, .inl (.inl (s6 _ _ d5)), vI_at (hP h1), _, _, rfl, rfl, mf, ?_⟩
      refine ⟨_, rfl, _, rfl, ls.length, p6, _, rfl, .inl (.inl (s6 _ _ d6)), by omega, h2, fun G4 s7 => ?_⟩
      exact ⟨p6, _, _, _, rfl, rfl, .inl (.inl (s7 _ _ (s6 _ _ d6))), vI_at (hP h2), _, _, rfl, rfl, df, sT.trans (s6.trans s7), _, _, _, rfl, ck2, ce2.symm.trans ce⟩
    · obtain ⟨sG, c, y5, y6, rfl, ck, ce⟩ := p
      rw [List.drop_of_length_le (Nat.le_refl _), List.drop_of_length_le (by omega)] at ce
      refine ⟨_, rfl, ?_⟩
      have ce : c = classesF ls.length (formF ls.length rows) W 1 := ce
      rw [ce]
      exact q _ (s14.trans (s5.trans sG))
end
end K17
end
section
set_option Elab.async false
set_option linter.all false
set_option maxRecDepth 100000
namespace K17
open PySem PySem.Spec PyProof.Rows L2
section
variable {P : Program} {w : World} {K : PySem.W.Frag} {mg : Str → Option Value} {base : Heap}
abbrev nPa : List Str := ["limit", "one", "other", "wide", "whole", "told", "found", "outer", "inner"]
theorem scPa : FnScope nPa ["limit", "one", "other"] (defScope (topS 29)) := ⟨rfl, rfl, rfl, by decide +kernel, rfl, by decide +kernel, by decide +kernel⟩
def spParts (K : PySem.W.Frag) : L2.Sp := fun vs H Q _ => ∃ (a b c : Addr) (ls : List Int) (rows rows2 W U1 U2 : List Vec), vs = [.ref a, .ref b, .ref c] ∧ SqT K H a (ls.map V.int) ∧ Lims ls ∧ TMat K ls.length H b rows ∧ TMat K ls.length H c rows2 ∧ (rows ++ rows2).length ≤ 8 ∧ FillOk ls.length (rows ++ rows2) W ∧ FillOk ls.length rows U1 ∧ FillOk ls.length rows2 U2 ∧
  (U1 ++ U2).length ≤ 8 ∧ FormOk ls.length (U1 ++ U2) ∧ ClsOk ls.length (formF ls.length (U1 ++ U2)) W 1 ∧ ∀ H', Same H H' → Q (.int (classesF ls.length (formF ls.length (U1 ++ U2)) W 1)) H'
set_option maxHeartbeats 4000000 in
theorem ok_parts {f : Addr} {fd : FuncData} {k : Nat} (F : Fun K "parts_of" "parts_of" (topS 29) f fd) (C1 : Cal P w K mg base k "need_temperings" ["limit", "one", "other"] (spTempers K)) (C2 : Cal P w K mg base k "form_of" ["rows"] (spForm K)) (C3 : Cal P w K mg base k "filled_of" ["rows", "wide"] (spFill K)) (C4 : Cal P w K mg base k "head_of" ["row"] (spHead K))
    (ml : mg "len" = none) (mli : mg "list" = none) (mz : mg "zip" = none) : FnOk P w K mg base CX0 (k + 1) f fd ["limit", "one", "other"] (spParts K) := by
  obtain ⟨f1, fd1, G1, g1, k1, b1⟩ := C1
  obtain ⟨f2, fd2, G2, g2, k2, b2⟩ := C2
  obtain ⟨f3, fd3, G3, g3, k3, b3⟩ := C3
  obtain ⟨f4, fd4, G4, g4, k4, b4⟩ := C4
  refine F.ok scPa (fun vs H Q E h => ?_) (fun cdv A outer s H vs Q E hr h => ?_)
  · obtain ⟨_, _, _, _, _, _, _, _, _, rfl, _⟩ := h
    rfl
  · obtain ⟨a, b, c, ls, rows, rows2, W, U1, U2, rfl, hA, hl, hM, hM2, h8, hF, hF1, hF2, hU, fo, co, q⟩ := h
    have nd := scPa.nd
    refine ⟨_, pss_cons (ps_expr (pe_call G1 hr (by rfl) g1 k1 b1 .nil pass0 (pa_cons (pv 0) (pa_cons (pv 1) (pa_cons (pv 2) pa_nil)))))
      (pss_cons (ps_set (i := 3) nd rfl (.inl rfl) (pe_callB (cLen K) (by rfl) ml PySem.boot_len (pa_cons (pv 0) pa_nil)))
      (pss_cons (ps_set (i := 4) nd rfl (.inl rfl) (pe_call G3 hr (by rfl) g3 k3 b3 .nil pass0 (pa_cons (pe_callTy (cLst K) (by rfl) mli PyProof.Rows.boot_list (pa_cons (pe_op op_catT (pv 1) (pv 2)) pa_nil)) (pa_cons (pv 3) pa_nil))))
      (pss_cons (ps_set (i := 5) nd rfl (.inl rfl) (pe_call G2 hr (by rfl) g2 k2 b2 .nil pass0 (pa_cons (pe_op op_cat (pe_call G3 hr (by rfl) g3 k3 b3 .nil pass0 (pa_cons (pe_callTy (cLst K) (by rfl) mli PyProof.Rows.boot_list (pa_cons (pv 1) pa_nil)) (pa_cons (pv 3) pa_nil)))
          (pe_call G3 hr (by rfl) g3 k3 b3 .nil pass0 (pa_cons (pe_callTy (cLst K) (by rfl) mli PyProof.Rows.boot_list (pa_cons (pv 2) pa_nil)) (pa_cons (pv 3) pa_nil)))) pa_nil)))
      (pss_cons (ps_set (i := 6) nd rfl (.inl rfl) pe_int)
      (pss_cons (ps_for PassesOwn.never rfl (pi_zip (by rfl) mz (pa_cons (pv 4) (pa_cons (pv 5) pa_nil))) (pg_tup rfl (pgs_cons (pg_name (i := 7) nd rfl (.inl rfl)) (pgs_cons (pg_name (i := 8) nd rfl (.inl rfl)) pgs_nil)))
        (pss_one (ps_set (i := 6) nd rfl (.inl rfl) (pe_op op_fdivX (pe_op op_mulX (pv 6) (pe_call G4 hr (by rfl) g4 k4 b4 .nil pass0 (pa_cons (pv 8) pa_nil))) (pe_call G4 hr (by rfl) g4 k4 b4 .nil pass0 (pa_cons (pv 7) pa_nil))))))
      (pss_one (ps_ret (pv 6)))))))), ?_⟩
    have hlen := hl.len
    have k1000 : (1000 : Nat) < sizeLine := by decide
    refine ⟨_, rfl, _, rfl, _, rfl, a, b, c, ls, rows, rows2, rfl, hA, hl, hM, hM2, fun H1 s1 => ?_⟩
    refine ⟨_, rfl, a, _, rfl, .inr (same_seqT s1 hA), ?_⟩
    obtain ⟨ys, hY, hR⟩ := (hM.same s1).ex
    obtain ⟨zs, hZ, hR2⟩ := (hM2.same s1).ex
    have l1 := hR.len
    have l2 := hR2.len
    have r1 := hM.r1
    have r2 := hM2.r1
    rw [List.length_append] at h8
    refine ⟨_, rfl, _, rfl, b, c, ys, zs, rfl, rfl, hY, hZ, (fun e => by rw [e] at l1; rw [l1] at r1; exact absurd r1 (by decide)), by omega, (fun e => by rw [e] at l2; rw [l2] at r2; exact absurd r2 (by decide)), fun _ u nu => ?_⟩
    have t1 := same_new (o := .tup (ys ++ zs)) nu
    refine ⟨u, ys ++ zs, rfl, .inr (.inl (.inl upd_same)), fun l nl => ?_⟩
    have t2 := t1.trans (same_new (o := .lst (ys ++ zs)) nl)
    refine ⟨_, rfl, ls.length, l, rows ++ rows2, W, ys ++ zs, by rw [List.length_map]; rfl, .inl (.inl upd_same), Rel2.app (hR.imp fun _ _ q => (q.same t2).toE) (hR2.imp fun _ _ q => (q.same t2).toE), by rw [List.length_append]; exact h8, by omega, by omega, hF, fun H2 pw ws s2 n2 e2 rw2 => ?_⟩
    have t3 := t2.trans s2
    refine ⟨_, rfl, b, ys, rfl, .inr (same_seqT t3 hY), fun la nla => ?_⟩
    have t4 := same_new (o := .lst ys) nla
    refine ⟨_, rfl, ls.length, la, rows, U1, ys, by rw [List.length_map]; rfl, .inl (.inl upd_same), hR.imp fun _ _ q => (q.same (t3.trans t4)).toE, hM.r8, by omega, by omega, hF1, fun H3 p1 us s3 n3 e3 ru1 => ?_⟩
    have t5 := t4.trans s3
    refine ⟨_, rfl, c, zs, rfl, .inr (same_seqT (t3.trans t5) hZ), fun lb nlb => ?_⟩
    have t6 := same_new (o := .lst zs) nlb
    refine ⟨_, rfl, ls.length, lb, rows2, U2, zs, by rw [List.length_map]; rfl, .inl (.inl upd_same), hR2.imp fun _ _ q => (q.same ((t3.trans t5).trans t6)).toE, hM2.r8, by omega, by omega, hF2, fun H4 p2 vs2 s4 n4 e4 ru2 => ?_⟩
    have t7 := t6.trans s4
    have m1 := ru1.len
    have m2 := ru2.len
    have hU' := hU
    rw [List.length_append] at hU'
    refine ⟨p1, p2, us, vs2, rfl, rfl, t7 _ _ e3, e4, by omega, fun pc nc => ?_⟩
    have t8 := same_new (o := .lst (us ++ vs2)) nc
    refine ⟨ls.length, pc, U1 ++ U2, us ++ vs2, rfl, .inl (.inl upd_same), Rel2.app (ru1.imp fun _ _ q => (q.same (t7.trans t8)).toE) (ru2.imp fun _ _ q => (q.same t8).toE), hU, by omega, fo, fun H5 p fs s5 n5 e5 rr => ?_⟩
    have t9 := (t5.trans t7).trans (t8.trans s5)
    have rw5 := rows_same rw2 t9
    have ew5 := t9 _ _ e2
    have lz := rr.len
    have lw := rw5.len
    have lc := co.len
    refine ⟨_, rfl, _, rfl, pw, p, ws, fs, rfl, .inl (.inl ew5), .inl (.inl e5), ?_⟩
    refine for_it (walk_zip (n := (formF ls.length (U1 ++ U2)).length) (by omega)) (fun i σ G => Same H5 G ∧ ∃ (c' : Int) (y7 y8 : Option V), σ = [some (.ref a), some (.ref b), some (.ref c), some (.int ((ls.map V.int).length : Nat)), some (.ref pw), some (.ref p), some (.int c'), y7, y8] ∧ ClsOk ls.length ((formF ls.length (U1 ++ U2)).drop i) (W.drop i) c' ∧ classesF ls.length ((formF ls.length (U1 ++ U2)).drop i) (W.drop i) c' = classesF ls.length (formF ls.length (U1 ++ U2)) W 1) ⟨.refl _, 1, _, _, rfl, co, rfl⟩ (fun i σ G _ p => ⟨.inl (.inl (p.1 _ _ ew5)), .inl (.inl (p.1 _ _ e5))⟩) (fun i x σ G1 G2 hi p y => ?_) (fun σ G p => ?_)
    · obtain ⟨sG, c', y7, y8, rfl, ck, ce⟩ := p
      obtain ⟨T, x1, x2, rfl, nT, rfl, e1, e2⟩ := y
      obtain ⟨p5, q5, c5⟩ := rows_get rr hi
      obtain ⟨p6, q6, c6⟩ := rows_get rw5 (show i < W.length by omega)
      cases Option.some.inj (e2.symm.trans q5)
      cases Option.some.inj (e1.symm.trans q6)
      obtain ⟨h1, h2, mf, df, ck2, ce2⟩ := ck.step hi lc
      have sT := sG.trans (same_new (o := .tup [.ref p6, .ref p5]) nT)
      have d5 := sT _ _ c5
      have d6 := sT _ _ c6
      refine ⟨T, _, rfl, .inl (.inl upd_same), rfl, _, _, rfl, _, _, rfl, rfl, ?_⟩
      refine ⟨_, rfl, _, rfl, ls.length, p5, _, rfl, .inl (.inl d5), by omega, h1, fun G3 s6 => ?_⟩
      refine ⟨_, _, rfl, rfl, mf, _, rfl, ls.length, p6, _, rfl, .inl (.inl (s6 _ _ d6)), by omega, h2, fun G4 s7 => ?_⟩
      exact ⟨_, _, rfl, rfl, df, sT.trans (s6.trans s7), _, _, _, rfl, ck2, ce2.symm.trans ce⟩
    · obtain ⟨sG, c', y7, y8, rfl, ck, ce⟩ := p
      rw [List.drop_of_length_le (Nat.le_refl _), List.drop_of_length_le (by omega)] at ce
      refine ⟨_, rfl, ?_⟩
      have ce : c' = classesF ls.length (formF ls.length (U1 ++ U2)) W 1 := ce
      rw [ce]
      exact q _ (s1.trans (t3.trans (t9.trans sG)))
end
end K17
end
section
set_option Elab.async false
set_option linter.all false
set_option maxRecDepth 100000
namespace K17
open PySem PySem.Spec PyProof.Rows L2
section
variable {P : Program} {w : World} {K : PySem.W.Frag} {mg : Str → Option Value} {base : Heap}
abbrev nMa : List Str := ["limit", "one", "other", "told", "whole", "classes", "inner", "outer", "row"]
theorem scMa : FnScope nMa ["limit", "one", "other"] (defScope (topS 33)) := ⟨rfl, rfl, rfl, by decide +kernel, rfl, by decide +kernel, by decide +kernel⟩
/-- one, other: tuples of ints; the answer: the map's rows and the classes -/
def spMade (K : PySem.W.Frag) : L2.Sp := fun vs H Q _ => ∃ (a b c : Addr) (ls : List Int) (u v : Vec) (W : List Vec), vs = [.ref a, .ref b, .ref c] ∧ SqT K H a (ls.map V.int) ∧ Lims ls ∧ SqT K H b (vI ls.length u) ∧ SqT K H c (vI ls.length v) ∧ (∀ j, j < ls.length → (u j).natAbs ≤ 9999 ∧ (v j).natAbs ≤ 9999) ∧
  FillOk ls.length [u, v] W ∧ W.length ≤ 8 ∧ FormOk ls.length [u, v] ∧ ClsOk ls.length (formF ls.length [u, v]) W 1 ∧
  ∀ H' p q ts, Same H H' → H' p = some (.tup [.ref q, .int (classesF ls.length (formF ls.length [u, v]) W 1)]) → H' q = some (.tup ts) → Rel2 (IsRowT ls.length H') W ts → Q (.ref p) H'
set_option maxHeartbeats 4000000 in
theorem ok_made {f : Addr} {fd : FuncData} {k : Nat} (F : Fun K "made_by" "made_by" (topS 33) f fd) (C1 : Cal P w K mg base k "need_tempering" ["limit", "rows"] (spTemper K)) (C2 : Cal P w K mg base k "form_of" ["rows"] (spForm K)) (C3 : Cal P w K mg base k "filled_of" ["rows", "wide"] (spFill K)) (C4 : Cal P w K mg base k "head_place" ["row"] (spHeadP K))
    (ml : mg "len" = none) (mli : mg "list" = none) (mz : mg "zip" = none) (mt : mg "tuple" = none) : FnOk P w K mg base CX0 (k + 1) f fd ["limit", "one", "other"] (spMade K) := by
  obtain ⟨f1, fd1, G1, g1, k1, b1⟩ := C1
  obtain ⟨f2, fd2, G2, g2, k2, b2⟩ := C2
  obtain ⟨f3, fd3, G3, g3, k3, b3⟩ := C3
  obtain ⟨f4, fd4, G4, g4, k4, b4⟩ := C4
  refine F.ok scMa (fun vs H Q E h => ?_) (fun cdv A outer s H vs Q E hr h => ?_)
  · obtain ⟨_, _, _, _, _, _, _, rfl, _⟩ := h
    rfl
  · obtain ⟨a, b, c, ls, u, v, W, rfl, hA, hl, hB, hC, hen, hF, hW, fo, co, q⟩ := h
    have nd := scMa.nd
    refine ⟨_, pss_cons (ps_expr (pe_call G1 hr (by rfl) g1 k1 b1 .nil pass0 (pa_cons (pv 0) (pa_cons (pe_tup (pa_cons (pv 1) pa_nil)) pa_nil))))
      (pss_cons (ps_expr (pe_call G1 hr (by rfl) g1 k1 b1 .nil pass0 (pa_cons (pv 0) (pa_cons (pe_tup (pa_cons (pv 2) pa_nil)) pa_nil))))
      (pss_cons (ps_par (i := 3) (j := 4) rfl nd rfl rfl (by decide) rfl rfl (pa_cons (pe_call G2 hr (by rfl) g2 k2 b2 .nil pass0 (pa_cons (pe_lst (pa_cons (pe_callTy (cLst K) (by rfl) mli PyProof.Rows.boot_list (pa_cons (pv 1) pa_nil)) (pa_cons (pe_callTy (cLst K) (by rfl) mli PyProof.Rows.boot_list (pa_cons (pv 2) pa_nil)) pa_nil))) pa_nil))
        (pa_cons (pe_call G3 hr (by rfl) g3 k3 b3 .nil pass0 (pa_cons (pe_lst (pa_cons (pe_callTy (cLst K) (by rfl) mli PyProof.Rows.boot_list (pa_cons (pv 1) pa_nil)) (pa_cons (pe_callTy (cLst K) (by rfl) mli PyProof.Rows.boot_list (pa_cons (pv 2) pa_nil)) pa_nil))) (pa_cons (pe_callB (cLen K) (by rfl) ml PySem.boot_len (pa_cons (pv 0) pa_nil)) pa_nil))) pa_nil)) rfl)
      (pss_cons (ps_set (i := 5) nd rfl (.inl rfl) pe_int)
      (pss_cons (ps_for PassesOwn.never rfl (pi_zip (by rfl) mz (pa_cons (pv 3) (pa_cons (pv 4) pa_nil))) (pg_tup rfl (pgs_cons (pg_name (i := 6) nd rfl (.inl rfl)) (pgs_cons (pg_name (i := 7) nd rfl (.inl rfl)) pgs_nil)))
        (pss_one (ps_set (i := 5) nd rfl (.inl rfl) (pe_op op_fdivX (pe_op op_mulX (pv 5) (pe_ix (iL K) (pv 6) (pe_call G4 hr (by rfl) g4 k4 b4 .nil pass0 (pa_cons (pv 6) pa_nil)) (fun _ _ => rfl))) (pe_ix (iL K) (pv 7) (pe_call G4 hr (by rfl) g4 k4 b4 .nil pass0 (pa_cons (pv 7) pa_nil)) (fun _ _ => rfl))))))
      (pss_one (ps_ret (pe_tup (pa_cons (pe_callTy (cTup K) (by rfl) mt PyProof.Rows.boot_tuple (pa_cons (pe_lc (own := [("row", 8)]) (g := gName 8) (tt := tYes) rfl nd (pi_list (pv 4)) (blkOk_by (N := nMa) (sc := defScope (topS 33)) (by decide +kernel)) (fun _ _ _ _ _ => pg_name (i := 8) nd rfl (Or.inl rfl)) (fun _ _ _ _ _ => pts_nil) (fun _ _ _ _ _ => pe_callTy (cTup K) (by rfl) mt PyProof.Rows.boot_tuple (pa_cons (pv 8) pa_nil))) pa_nil)) (pa_cons (pv 5) pa_nil))))))))), ?_⟩
    have hlen := hl.len
    have k1000 : (1000 : Nat) < sizeLine := by decide
    have one : ∀ {H' : Hp} {t b : Addr} {u : Vec}, H' t = some (.tup [.ref b]) → SqT K H' b (vI ls.length u) → (∀ j, j < ls.length → (u j).natAbs ≤ 9999) → TMat K ls.length H' t [u] := fun e1 e2 e3 =>
      ⟨⟨_, .inl (.inl e1), .one ⟨_, rfl, e2⟩⟩, by simp, by simp, by omega, by omega, fun v hv j hj => by
        rw [List.mem_singleton] at hv
        rw [hv]; exact e3 j hj⟩
    refine ⟨_, rfl, _, rfl, by show 1 ≤ sizeLine; omega, fun t nt => ?_⟩
    have t1 := same_new (o := .tup [.ref b]) nt
    refine ⟨a, t, ls, [u], rfl, same_seqT t1 hA, hl, one upd_same (same_seqT t1 hB) fun j hj => (hen j hj).1, fun H1 s1 => ?_⟩
    have t2 := t1.trans s1
    refine ⟨_, rfl, _, rfl, by show 1 ≤ sizeLine; omega, fun t' nt' => ?_⟩
    have t3 := t2.trans (same_new (o := .tup [.ref c]) nt')
    refine ⟨a, t', ls, [v], rfl, same_seqT t3 hA, hl, one upd_same (same_seqT t3 hC) fun j hj => (hen j hj).2, fun H2 s2 => ?_⟩
    have t4 := t3.trans s2
    -- the form
    refine ⟨_, rfl, b, _, rfl, .inr (same_seqT t4 hB), fun l1 nl1 => ?_⟩
    have t5 := t4.trans (same_new (o := .lst (vI ls.length u)) nl1)
    refine ⟨_, rfl, c, _, rfl, .inr (same_seqT t5 hC), fun l2 nl2 => ⟨by show 2 ≤ sizeLine; omega, fun l3 nl3 => ?_⟩⟩
    have u1 := same_new (o := .lst (vI ls.length v)) nl2
    have u2 := same_new (o := .lst [.ref l1, .ref l2]) nl3
    have t6 := t5.trans (u1.trans u2)
    refine ⟨ls.length, l3, [u, v], _, rfl, .inl (.inl upd_same), .cons ⟨l1, rfl, .inl (.inl (.inl ((u1.trans u2) _ _ upd_same)))⟩ (.one ⟨l2, rfl, .inl (.inl (.inl (u2 _ _ upd_same)))⟩), by simp, by omega, fo, fun H3 p zs s3 np ep rr => ?_⟩
    have t7 := t6.trans s3
    -- filled
    refine ⟨_, rfl, b, _, rfl, .inr (same_seqT t7 hB), fun m1 nm1 => ?_⟩
    have v0 := same_new (o := .lst (vI ls.length u)) nm1
    have t8 := t7.trans v0
    refine ⟨_, rfl, c, _, rfl, .inr (same_seqT t8 hC), fun m2 nm2 => ⟨by show 2 ≤ sizeLine; omega, fun m3 nm3 => ?_⟩⟩
    have v1 := same_new (o := .lst (vI ls.length v)) nm2
    have v2 := same_new (o := .lst [.ref m1, .ref m2]) nm3
    have t9 := t8.trans (v1.trans v2)
    refine ⟨_, rfl, a, _, rfl, .inr (same_seqT t9 hA), ls.length, m3, [u, v], W, _, by rw [List.length_map]; rfl, .inl (.inl upd_same), .cons ⟨m1, rfl, .inl (.inl (.inl ((v1.trans v2) _ _ upd_same)))⟩ (.one ⟨m2, rfl, .inl (.inl (.inl (v2 _ _ upd_same)))⟩), by simp, by omega, by omega, hF, fun H4 p2 ws s4 n4 e4 r4 => ⟨_, _, rfl, ?_⟩⟩
    have tz := (v0.trans (v1.trans v2)).trans s4
    have ep3 := tz _ _ ep
    have rr3 := rows_same rr tz
    have lz := rr3.len
    have lw := r4.len
    have lc := co.len
    have tEnd := t9.trans s4
    refine ⟨_, rfl, _, rfl, p, p2, zs, ws, rfl, .inl (.inl ep3), .inl (.inl e4), ?_⟩
    refine for_it (walk_zip (n := (formF ls.length [u, v]).length) (by omega)) (fun i σ G => Same H4 G ∧ ∃ (c' : Int) (y6 y7 : Option V), σ = [some (.ref a), some (.ref b), some (.ref c), some (.ref p), some (.ref p2), some (.int c'), y6, y7, none] ∧ ClsOk ls.length ((formF ls.length [u, v]).drop i) (W.drop i) c' ∧ classesF ls.length ((formF ls.length [u, v]).drop i) (W.drop i) c' = classesF ls.length (formF ls.length [u, v]) W 1) ⟨.refl _, 1, _, _, rfl, co, rfl⟩ (fun i σ G _ p => ⟨.inl (.inl (p.1 _ _ ep3)), .inl (.inl (p.1 _ _ e4))⟩) (fun i x σ G1 G2 hi p y => ?_) (fun σ G p => ?_)
    · obtain ⟨sG, c', y5, y6, rfl, ck, ce⟩ := p
      obtain ⟨T, x1, x2, rfl, nT, rfl, e1, e2⟩ := y
      obtain ⟨p5, q5, c5⟩ := rows_get rr3 hi
      obtain ⟨p6, q6, c6⟩ := rows_get r4 (show i < W.length by omega)
      cases Option.some.inj (e1.symm.trans q5)
      cases Option.some.inj (e2.symm.trans q6)
      obtain ⟨h1, h2, mf, df, ck2, ce2⟩ := ck.step hi lc
      have sT := sG.trans (same_new (o := .tup [.ref p5, .ref p6]) nT)
      have d5 := sT _ _ c5
      have d6 := sT _ _ c6
      have hP : ∀ {v : Vec}, (∃ j, j < ls.length ∧ v j ≠ 0) → headP ls.length v < ls.length := fun {v} h => by
        have := List.mem_of_getElem? (headP_find h)
        unfold nzL at this
        simpa using (List.mem_filter.1 this).1
      refine ⟨T, _, rfl, .inl (.inl upd_same), rfl, _, _, rfl, _, _, rfl, rfl, ?_⟩
      refine ⟨_, rfl, _, rfl, _, rfl, ls.length, p5, _, rfl, .inl (.inl d5), by omega, h1, fun G3 s6 => ?_⟩
      refine ⟨p5, _, _, _, rfl, rfl, .inl (.inl (s6 _ _ d5)), vI_at (hP h1), _, _, rfl, rfl, mf, ?_⟩
      refine ⟨_, rfl, _, rfl, ls.length, p6, _, rfl, .inl (.inl (s6 _ _ d6)), by omega, h2, fun G4 s7 => ?_⟩
      exact ⟨p6, _, _, _, rfl, rfl, .inl (.inl (s7 _ _ (s6 _ _ d6))), vI_at (hP h2), _, _, rfl, rfl, df, sT.trans (s6.trans s7), _, _, _, rfl, ck2, ce2.symm.trans ce⟩
    · obtain ⟨sG, c', y5, y6, rfl, ck, ce⟩ := p
      rw [List.drop_of_length_le (Nat.le_refl _), List.drop_of_length_le (by omega)] at ce
      have ce : c' = classesF ls.length (formF ls.length [u, v]) W 1 := ce
      subst ce
      have eW := sG _ _ e4
      have rW := rows_same r4 sG
      refine ⟨_, rfl, p2, rfl, ⟨_, .inl (.inl eW)⟩, fun D nD => ?_⟩
      refine lc_map (zs := W) (by rw [rW.len]; exact walk_list (xs := ws)) (fun r y H => IsRowT ls.length H r y) (fun _ _ _ _ q s => q.same s) nD (by omega) (fun _ s => s.seq (.inl (.inl eW))) (fun i z x G1 G2 Qb hz s1 hacc y qb => ?_) (fun G1 ts s5 e5 r5 => ?_)
      · obtain ⟨rfl, hy⟩ := y
        obtain ⟨b', hb, c', rfl, hc⟩ := rW.get hz
        cases Option.some.inj (hy.symm.trans hb)
        obtain ⟨acc, hacc⟩ := hacc
        refine ⟨rfl, _, rfl, c', _, rfl, .inl ⟨.inl (.inl (s1 _ _ hc)), fun l hl => ?_⟩⟩
        have nD : l ≠ D := fun e => by rw [e, hacc] at hl; cases hl
        refine qb _ _ (same_new hl) ⟨l, rfl, ?_⟩
        rw [hide_ne nD, upd_same]
      · refine ⟨D, ts, rfl, .inl ⟨.inl (.inl e5), fun qa nqa => ?_⟩⟩
        have w1 := same_new (o := .tup ts) nqa
        refine ⟨_, rfl, by show 2 ≤ sizeLine; omega, fun pa npa => ?_⟩
        have w2 := same_new (o := .tup [.ref qa, .int (classesF ls.length (formF ls.length [u, v]) W 1)]) npa
        exact q _ pa qa ts (tEnd.trans (sG.trans (s5.trans (w1.trans w2)))) upd_same (w2 _ _ upd_same) (r5.imp fun _ _ q => (q.same hide_sub).same (w1.trans w2))
end
end K17
end
section
set_option Elab.async false
set_option linter.all false
set_option maxRecDepth 100000
namespace K17
open PySem PySem.Spec PyProof.Rows L2
/-! the draws -/
theorem seq_upd {K : PySem.W.Frag} {H : Hp} {r sc z : Addr} {t : List V} {ns : List Int} {o : HO} (h : SqL K H sc (ns.map V.int)) (hr : H r = some (.lst (.ref z :: t))) : SqL K (upd H r o) sc (ns.map V.int) := by
  rcases h with (h | ⟨u, h⟩) | h
  · refine .inl (.inl ?_)
    rw [upd_ne fun e => ?_]
    · exact h
    · rw [e, hr] at h
      cases ns with
      | nil => cases h
      | cons => cases h
  · refine .inl (.inr ⟨u, ?_⟩)
    rw [upd_ne fun e => ?_]
    · exact h
    · rw [e, hr] at h; cases h
  · exact .inr h
def tkL (sc : Addr) (i x l : Int) : List V := [.ref sc, .int i, .int x, .int l]
/-- the row of the draws: sc the script -/
def TkS (H : Hp) (r sc : Addr) : Prop := ∃ i x l : Int, H r = some (.lst (tkL sc i x l)) ∧ 0 ≤ i ∧ 0 ≤ x ∧ x < 2147483647
section
variable {P : Program} {w : World} {K : PySem.W.Frag} {mg : Str → Option Value} {base : Heap}
theorem scTk : FnScope ["_law_row", "_law_many", "_law_found", "_law_cell"] ["_law_row", "_law_many"] (defScope (topS 36)) := ⟨rfl, rfl, rfl, by decide +kernel, rfl, by decide +kernel, by decide +kernel⟩
/-- a draw below m; only the row of the draws is changed -/
def spTk (K : PySem.W.Frag) : L2.Sp := fun vs H Q _ => ∃ (r sc : Addr) (m : Int) (ns : List Int), vs = [.ref r, .int m] ∧ TkS H r sc ∧ SqL K (hide r H) sc (ns.map V.int) ∧ ns.length ≤ 63 ∧ 1 ≤ m ∧ m ≤ 100 ∧
  ∀ (v : Int) (o : HO), 0 ≤ v → v < m → TkS (upd H r o) r sc → Q (.int v) (upd H r o)
theorem fm_in {x m : Int} (h : 1 ≤ m) : 0 ≤ x.fmod m ∧ x.fmod m < m := ⟨Int.fmod_nonneg_of_pos x (by omega), Int.fmod_lt_of_pos x (by omega)⟩
set_option maxHeartbeats 2000000 in
theorem ok_tk {f : Addr} {fd : FuncData} {k : Nat} (F : Fun K "_law_taken" "_law_taken" (topS 36) f fd) (mi : mg "int" = none) (ml : mg "len" = none) : FnOk P w K mg base CX0 (k + 1) f fd ["_law_row", "_law_many"] (spTk K) := by
  refine F.ok scTk (fun vs H Q E h => ?_) (fun cdv A outer s H vs Q E hr h => ?_)
  · obtain ⟨_, _, _, _, rfl, _⟩ := h
    rfl
  · obtain ⟨r, sc, m, ns, rfl, ⟨i, x, l, hR, hi, hx, hx2⟩, hS', hn, hm, hm2, q⟩ := h
    have hS := hide_sub.seq hS'
    have nd := scTk.nd
    refine ⟨_, pss_cons (ps_if (pt_cmpR op_gt (pe_ix (iL K) (pv 0) pe_int (fun _ _ => rfl)) pe_int (nomark _))
        (pss_cons (ps_set (i := 2) nd rfl (.inl rfl) (pe_op op_modX (pe_callTy call_int1 (by rfl) mi PyProof.Rows.boot_int (pa_cons (pe_ix (iL K) (pv 0) pe_int (fun _ _ => rfl)) pa_nil)) (pv 1)))
        (pss_cons (ps_asg (pe_op op_fdivX (pe_ix (iL K) (pv 0) pe_int (fun _ _ => rfl)) (pv 1)) (pg_sub (pv 0) pe_int set_list))
        (pss_one (ps_ret (pv 2))))) pss_nil)
      (pss_cons (ps_asg (pe_op op_add (pe_ix (iL K) (pv 0) pe_int (fun _ _ => rfl)) pe_int) (pg_sub (pv 0) pe_int set_list))
      (pss_cons (ps_if (pt_cmpR op_gt (pe_ix (iL K) (pv 0) pe_int (fun _ _ => rfl)) (pe_callB (cLen K) (by rfl) ml PySem.boot_len (pa_cons (pe_ix (iL K) (pv 0) pe_int (fun _ _ => rfl)) pa_nil)) (nomark _))
        (pss_cons (ps_asg (pe_op op_modX (pe_callTy call_int1 (by rfl) mi PyProof.Rows.boot_int (pa_cons (pe_op op_add (pe_op op_mulX (pe_ix (iL K) (pv 0) pe_int (fun _ _ => rfl)) pe_int) pe_int) pa_nil)) pe_int) (pg_sub (pv 0) pe_int set_list))
        (pss_one (ps_ret (pe_op op_modX (pe_callTy call_int1 (by rfl) mi PyProof.Rows.boot_int (pa_cons (pe_op op_fdivX (pe_ix (iL K) (pv 0) pe_int (fun _ _ => rfl)) pe_int) pa_nil)) (pv 1))))) pss_nil)
      (pss_cons (ps_set (i := 3) nd rfl (.inl rfl) (pe_ix (iL K) (pe_ix (iL K) (pv 0) pe_int (fun _ _ => rfl)) (pe_op op_sub (pe_ix (iL K) (pv 0) pe_int (fun _ _ => rfl)) pe_int) (fun _ _ => rfl)))
      (pss_cons (ps_asg (pe_op op_modX (pe_callTy call_int1 (by rfl) mi PyProof.Rows.boot_int (pa_cons (pe_op op_add (pe_op op_add (pe_op op_mulX (pe_ix (iL K) (pv 0) pe_int (fun _ _ => rfl)) pe_int) (pv 3)) pe_int) pa_nil)) pe_int) (pg_sub (pv 0) pe_int set_list))
      (pss_cons (ps_if (pt_cmpR op_ge (pv 3) (pe_op op_pow pe_int pe_int) (nomark _))
        (pss_one (ps_asg (pe_op op_fdivX (pv 3) (pv 1)) (pg_sub (pv 0) pe_int set_list))) pss_nil)
      (pss_one (ps_ret (pe_op op_modX (pe_callTy call_int1 (by rfl) mi PyProof.Rows.boot_int (pa_cons (pv 3) pa_nil)) (pv 1))))))))), ?_⟩
    have dm : DivFit m := ⟨by omega, Nat.lt_of_lt_of_le (show m.natAbs < 2 ^ 7 by omega) (pow_mono (by decide))⟩
    have f3 : ∀ {H' : Hp}, H' r = some (.lst (tkL sc i x l)) → atI (tkL sc i x l) 3 = some (.int l) := fun _ => atI_nat (j := 3) rfl
    refine ⟨_, rfl, r, _, _, _, rfl, rfl, .inl (.inl hR), atI_nat (j := 3) rfl, _, _, rfl, rfl, _, rfl, ?_⟩
    by_cases hl : l > 0
    · refine itT (decide_eq_true hl) ?_
      refine ⟨_, rfl, r, _, _, _, rfl, rfl, .inl (.inl hR), atI_nat (j := 3) rfl, .inl ⟨_, rfl, _, rfl, _, _, rfl, rfl, by omega, ?_⟩⟩
      refine ⟨_, rfl, r, _, _, _, rfl, rfl, .inl (.inl hR), atI_nat (j := 3) rfl, _, rfl, _, _, rfl, rfl, dm, _, rfl, r, _, _, _, rfl, rfl, hR, rfl, _, rfl, ?_⟩
      obtain ⟨a, b⟩ := fm_in (x := l) hm
      exact q _ _ a b ⟨i, x, _, upd_same, hi, hx, hx2⟩
    · refine itF (decide_eq_false hl) ?_
      refine ⟨_, rfl, r, _, _, _, rfl, rfl, .inl (.inl hR), atI_nat (j := 1) rfl, _, _, rfl, rfl, _, rfl, r, _, _, _, rfl, rfl, hR, rfl, ?_⟩
      have hS1 := seq_upd (o := .lst (tkL sc (i + 1) x l)) hS hR
      have hR1 : upd H r (.lst (tkL sc (i + 1) x l)) r = some (.lst (tkL sc (i + 1) x l)) := upd_same
      show tSeq _ _ _ _ (upd H r (.lst (tkL sc (i + 1) x l)))
      have q1 : ∀ (v : Int) (o : HO), 0 ≤ v → v < m → TkS (upd (upd H r (.lst (tkL sc (i + 1) x l))) r o) r sc → Q (.int v) (upd (upd H r (.lst (tkL sc (i + 1) x l))) r o) := fun v o h1 h2 h3 => by
        rw [upd_upd] at h3 ⊢; exact q v o h1 h2 h3
      generalize upd H r (.lst (tkL sc (i + 1) x l)) = H1 at hS1 hR1 q1 ⊢
      refine ⟨_, rfl, r, _, _, _, rfl, rfl, .inl (.inl hR1), atI_nat (j := 1) rfl, _, rfl, r, _, _, _, rfl, rfl, .inl (.inl hR1), atI_nat (j := 0) rfl, sc, _, rfl, .inl hS1, _, _, rfl, rfl, _, rfl, ?_⟩
      by_cases hg : i + 1 > ((ns.map V.int).length : Int)
      · refine itT (decide_eq_true hg) ?_
        refine ⟨_, rfl, r, _, _, _, rfl, rfl, .inl (.inl hR1), atI_nat (j := 2) rfl, _, _, rfl, rfl, ⟨31, 64, by omega, by decide, by decide⟩, _, _, rfl, rfl, .inl ⟨_, rfl, _, _, rfl, rfl, (show (2147483647 : Int) ≠ 0 by decide), ?_⟩⟩
        obtain ⟨a, b⟩ := fm_in (x := x * 48271 + 11) (m := 2147483647) (by decide)
        refine ⟨_, rfl, r, _, _, _, rfl, rfl, hR1, rfl, ?_⟩
        dsimp only
        show tRet _ _ _ (upd H1 r (.lst (tkL sc (i + 1) ((x * 48271 + 11).fmod 2147483647) l)))
        generalize (x * 48271 + 11).fmod 2147483647 = x' at a b ⊢
        have hR2 : upd H1 r (.lst (tkL sc (i + 1) x' l)) r = some (.lst (tkL sc (i + 1) x' l)) := upd_same
        refine ⟨_, rfl, r, _, _, _, rfl, rfl, .inl (.inl hR2), atI_nat (j := 2) rfl, _, _, rfl, rfl, ⟨by decide, Nat.lt_of_lt_of_le (show (7 : Int).natAbs < 2 ^ 7 by decide) (pow_mono (by decide))⟩, .inl ⟨_, rfl, _, rfl, _, _, rfl, rfl, by omega, ?_⟩⟩
        obtain ⟨c, d⟩ := fm_in (x := x'.fdiv 7) hm
        exact q1 _ _ c d ⟨i + 1, x', l, upd_same, by omega, a, b⟩
      · refine itF (decide_eq_false hg) ?_
        obtain ⟨j, hj⟩ : ∃ j : Nat, (j : Int) = i := ⟨i.toNat, by omega⟩
        have hj2 : j < ns.length := by rw [List.length_map] at hg; omega
        obtain ⟨z, hz⟩ : ∃ z, ns[j]? = some z := ⟨_, List.getElem?_eq_getElem hj2⟩
        have at_ : atI (ns.map V.int) (i + 1 - 1) = some (.int z) := by
          rw [show i + 1 - 1 = ((j : Nat) : Int) by omega]
          exact atI_nat (by rw [List.getElem?_map, hz]; rfl)
        refine ⟨_, rfl, r, _, _, _, rfl, rfl, .inl (.inl hR1), atI_nat (j := 0) rfl, _, rfl, r, _, _, _, rfl, rfl, .inl (.inl hR1), atI_nat (j := 1) rfl, _, _, rfl, rfl, sc, _, _, _, rfl, rfl, hS1, at_, ?_⟩
        refine ⟨_, rfl, r, _, _, _, rfl, rfl, .inl (.inl hR1), atI_nat (j := 2) rfl, _, _, rfl, rfl, ⟨31, 64, by omega, by decide, by decide⟩, _, rfl, _, _, rfl, rfl, _, _, rfl, rfl, .inl ⟨_, rfl, _, _, rfl, rfl, (show (2147483647 : Int) ≠ 0 by decide), ?_⟩⟩
        obtain ⟨a, b⟩ := fm_in (x := x * 48271 + z + 11) (m := 2147483647) (by decide)
        refine ⟨_, rfl, r, _, _, _, rfl, rfl, hR1, rfl, ?_⟩
        dsimp only
        show tSeq _ _ _ _ (upd H1 r (.lst (tkL sc (i + 1) ((x * 48271 + z + 11).fmod 2147483647) l)))
        generalize (x * 48271 + z + 11).fmod 2147483647 = x' at a b ⊢
        have hR2 : upd H1 r (.lst (tkL sc (i + 1) x' l)) r = some (.lst (tkL sc (i + 1) x' l)) := upd_same
        have hS2 := seq_upd (o := .lst (tkL sc (i + 1) x' l)) hS1 hR1
        have q2 : ∀ (v : Int) (o : HO), 0 ≤ v → v < m → TkS (upd (upd H1 r (.lst (tkL sc (i + 1) x' l))) r o) r sc → Q (.int v) (upd (upd H1 r (.lst (tkL sc (i + 1) x' l))) r o) := fun v o h1 h2 h3 => by
          rw [upd_upd] at h3 ⊢; exact q1 v o h1 h2 h3
        have q3 : ∀ (v : Int), 0 ≤ v → v < m → Q (.int v) (upd H1 r (.lst (tkL sc (i + 1) x' l))) := fun v h1 h2 => q1 v _ h1 h2 ⟨i + 1, x', l, hR2, by omega, a, b⟩
        generalize upd H1 r (.lst (tkL sc (i + 1) x' l)) = H2 at hR2 hS2 q2 q3 ⊢
        obtain ⟨c, d⟩ := fm_in (x := z) hm
        refine ⟨_, rfl, _, _, rfl, rfl, ⟨by decide, by decide, by decide⟩, _, _, rfl, rfl, _, rfl, ?_⟩
        by_cases h18 : z ≥ 10 ^ (18 : Int).toNat
        · refine itT (decide_eq_true h18) ?_
          refine ⟨_, rfl, _, rfl, _, _, rfl, rfl, dm, _, rfl, r, _, _, _, rfl, rfl, hR2, rfl, ?_⟩
          refine ⟨_, rfl, .inl ⟨_, rfl, _, rfl, _, _, rfl, rfl, by omega, ?_⟩⟩
          exact q2 _ _ c d ⟨i + 1, x', _, upd_same, by omega, a, b⟩
        · refine itF (decide_eq_false h18) ?_
          exact ⟨_, rfl, .inl ⟨_, rfl, _, rfl, _, _, rfl, rfl, by omega, q3 _ c d⟩⟩
end
end K17
end
section
set_option Elab.async false
set_option linter.all false
set_option maxRecDepth 100000
set_option exponentiation.threshold 100
namespace K17
open PySem PySem.Spec PyProof.Rows L2
/-! sizes: what form_of, the null rows, the filled rows and the classes ask -/
theorem mul_fit {i j : Int} {a b : Nat} (hi : i.natAbs ≤ 2 ^ a) (hj : j.natAbs ≤ 2 ^ b) (h : a + b ≤ 130000000) : MulFit i j := mf_of (le_up hi) (le_up hj) (by omega)
theorem div_fit {j : Int} {b : Nat} (hn : j ≠ 0) (hj : j.natAbs ≤ 2 ^ b) (h : b < 9000) : DivFit j := ⟨hn, Nat.lt_of_le_of_lt hj (Nat.pow_lt_pow_right (by decide) h)⟩
section
variable {w : Nat}
theorem euOk_of {c D b : Nat} (hc : c < w) (hb : b < 9000) (hD : D ≤ 1000000) {hs : List Vec} (h : EuB w c (2 ^ D) (2 ^ b) hs) : EuOk w c hs := by
  induction h with
  | done h => exact .done h
  | @more hs h e _ ih =>
    have hne : hs ≠ [] := by rintro rfl; simp at h
    have hm := e _ (euHead_mem (c := c) hne)
    exact .more h (div_fit hm.2.2 hm.2.1 hb) (fun v hv i hi => mul_fit (Nat.le_trans (fdiv_le hm.2.2) ((e v hv).1 c hc)) (hm.1 i hi) (by omega)) ih
theorem formOk_of {rows : List Vec} {b : Nat} (w4 : w ≤ 4) (ent : ∀ v ∈ rows, EntB w (2 ^ b) v) (k : kb rows.length b < 9000) : FormOk w rows := fun c hc => by
  obtain ⟨b', f, e1, k1, e2, hf⟩ := form_bits ent k c (Nat.le_of_lt hc)
  obtain ⟨eu, h2, _⟩ := col_bits hc e1 k1
  have bk := kb_ge (formUp rows c).1.length b'
  refine ⟨euOk_of hc (by omega) (by omega) eu, fun hne => ?_⟩
  rcases colRun_cases c (formUp rows c).1 with e | ⟨v, e, hv⟩
  · exact absurd e hne
  · rw [e]
    show HeadOk w c (signed c v) _
    obtain ⟨h3, h4⟩ := h2 v (by rw [e]; simp)
    have ne : signed c v c ≠ 0 := by have := signed_pos hv; omega
    exact ⟨div_fit ne (by rw [signed_at]; exact h4) (b := b') (by omega), fun u hu i hi => mul_fit (Nat.le_trans (fdiv_le ne) (e2 u hu c hc)) (signed_ent h3 i hi) (by omega)⟩
/-! null rows -/
theorem nb_nu {h : Nat} {A : List Vec} {t : SM} (g : Good h w A t) (hA : Supp w A) (d : Done h w t) {B : Nat} (hB : ∀ v ∈ A, EntB w B v) : NuB (formF w (tailC w t)) w (facB t.a B) := by
  have n := g.null hA d
  have len := g.tail_len
  intro c hc
  rw [len] at hc ⊢
  exact g.nu hB n.supp len (fun j h1 h2 => (formF_eqv (tailC_supp w t)).1 _ (mem_tailC.mpr ⟨j, h1, h2, rfl⟩)) (fun x hx v hv => n.zero x hx v hv) hc
theorem nb_tail {h : Nat} {A : List Vec} {t : SM} (g : Good h w A t) (d : Done h w t) {B : Nat} (hB : ∀ v ∈ A, EntB w B v) : NuB (tailC w t) w (facB t.a B) := by
  intro c hc
  rw [tailC_len] at hc ⊢
  refine g.nu hB (tailC_supp w t) (tailC_len w t) (fun j h1 h2 => .mem (mem_tailC.mpr ⟨j, h1, h2, rfl⟩)) (fun x hx v hv => ?_) hc
  obtain ⟨j, h1, h2, rfl⟩ := mem_tailC.mp hx
  exact g.tail_zero d h1 h2 v hv
theorem ent_of_eb {E : List Vec} {M : Nat} (h : EB 0 E.length w (row E) M) : ∀ v ∈ E, EntB w M v := fun v hv j hj => by
  obtain ⟨i, hi, rfl⟩ := mem_row hv
  exact h i j (Nat.zero_le _) hi (Nat.zero_le _) hj
theorem eb_of_ent {E : List Vec} {M : Nat} (h : ∀ v ∈ E, EntB w M v) : EB 0 E.length w (row E) M := fun i j _ hi _ hj => h _ (row_mem hi) j hj
theorem tail_ent {t : SM} {B : Nat} (r : MB w t.R B) : ∀ v ∈ tailC w t, EntB w B v := fun v hv j hj => by
  obtain ⟨k, h1, h2, rfl⟩ := mem_tailC.mp hv
  unfold colV
  rw [if_pos hj]
  exact r j k hj h2
theorem unit_mb (n : Nat) : MB n unitV 1 := fun i j _ _ => by unfold unitV; split <;> decide
theorem row_outO {A : List Vec} (hA : Supp w A) : Out A.length w (row A) := fun i j h => by
  by_cases q : i < A.length
  · exact hA _ (row_mem q) j (by omega)
  · rw [row_out (by omega)]
theorem one_form {G : List Vec} {B b : Nat} (w4 : w ≤ 4) (l : G.length = 1) (nu : NuB G w B) (hb : B ≤ 2 ^ b) (h : b < 9000) : FormOk w G := by
  have e := hnf1 l nu
  rw [← l] at e
  exact formOk_of w4 (fun v hv => (ent_of_eb e v hv).mono hb) (by rw [l]; exact h)
/-- FROM ENTRIES OF AT MOST 6 -/
theorem null6 {A : List Vec} (w4 : w ≤ 4) (h4 : A.length ≤ 4) (hA : Supp w A) (ent : ∀ v ∈ A, EntB w 6 v) : ∃ t, SmRun (Fit A.length w) A.length w (initM A) t ∧ FormOk w (tailC w t) := by
  obtain ⟨t, run, r1, r2⟩ := runI (h := A.length) (w := w) h4 w4 (initM A) rfl (row_outO hA) (eb_of_ent ent) (unit_mb _) (unit_mb _)
  obtain ⟨g, d⟩ := run.good (initM_good A)
  refine ⟨t, run, ?_⟩
  have le := g.le
  have len := tailC_len w t
  have tb := nb_tail g d ent
  by_cases a1 : t.a ≤ 1
  · refine formOk_of w4 (tail_ent (r1 a1)) ?_
    rw [len]
    have : w - t.a = 0 ∨ w - t.a = 1 ∨ w - t.a = 2 ∨ w - t.a = 3 ∨ w - t.a = 4 := by omega
    rcases this with q | q | q | q | q <;> rw [q] <;> decide
  · by_cases a2 : t.a ≤ 2
    · refine formOk_of w4 (tail_ent (r2 a2)) ?_
      rw [len]
      have : w - t.a = 0 ∨ w - t.a = 1 ∨ w - t.a = 2 := by omega
      rcases this with q | q | q <;> rw [q] <;> decide
    · by_cases a3 : w - t.a = 0
      · have : tailC w t = [] := List.length_eq_zero_iff.mp (by rw [len]; exact a3)
        rw [this]
        exact formOk_of (b := 0) w4 (fun v hv => by simp at hv) (by decide)
      · have e3 : t.a = 3 := by omega
        rw [e3] at tb
        exact one_form (b := 11) w4 (by rw [len]; omega) tb (by decide) (by decide)
/-- rows of a null form are independent: the steps take as many -/
theorem null_rank {h : Nat} {A N : List Vec} {t : SM} (n : NullP w A N) (g : Good N.length w N t) (d : Done N.length w t) : t.a = N.length := by
  have le : t.a ≤ N.length := by
    rcases Nat.lt_or_ge N.length t.a with z | z
    · have := (g.pos N.length z).1; omega
    · exact z
  rcases Nat.eq_or_lt_of_le le with e | lt
  · exact e
  · have := n.prim 0 fun c hc => by
      rw [g.rank_le n.supp d lt (s := fun i => i) (fun i hi => hi)]
      exact Int.dvd_refl 0
    exact absurd (Int.zero_dvd.mp this) (by decide)
theorem id_ent {h : Nat} {A : List Vec} {t : SM} (g : Good h w A t) (a0 : t.a = 0) : ∀ v ∈ formF w (tailC w t), EntB w 1 v := by
  obtain ⟨ps, E⟩ := formF_ech w (tailC w t)
  have eqv := formF_eqv (tailC_supp w t)
  have un : ∀ j, j < w → Sp (formF w (tailC w t)) (unitV j) := fun j hj => eqv.sp.mp ((g.lat.gen j hj).mono fun v hv => by
    obtain ⟨l, hl, rfl⟩ := mem_colsV hv
    exact mem_tailC.mpr ⟨l, by omega, hl, rfl⟩)
  generalize formF w (tailC w t) = N at *
  intro v hv j hj
  obtain ⟨l, hl, rfl⟩ := mem_row hv
  have ld : Lead (unitV j) j := ⟨fun i hi => by unfold unitV; rw [if_neg (by omega)], by unfold unitV; rw [if_pos rfl]; decide⟩
  obtain ⟨k, hk, e, a, _, _, one⟩ := E.lead_of (un j hj) ld
  have u1 : unitV j j = 1 := by unfold unitV; rw [if_pos rfl]
  rw [u1] at one
  have p := E.pos k hk
  have r1 : row N k j = 1 := by
    have dv : row N k j ∣ 1 := ⟨a k, by rw [Int.mul_comm]; exact one⟩
    have := Int.le_of_dvd (by decide) dv
    rw [e] at p; omega
  rcases Nat.lt_trichotomy l k with q | q | q
  · have := E.red l k q hk
    rw [e, r1] at this
    have z : row N l j = 0 := by omega
    rw [z]; decide
  · subst q; rw [r1]; decide
  · have := E.up k l q hl
    rw [E.zero l hl j (by omega)]; decide
/-- .. and the rows of these -/
theorem fill6 {A : List Vec} (w2 : 2 ≤ w) (w4 : w ≤ 4) (h1 : 1 ≤ A.length) (h4 : A.length ≤ 4) (hA : Supp w A) (ent : ∀ v ∈ A, EntB w 6 v) :
    ∃ W, FillOk w A W ∧ FillOk w (A.map tripleV) W ∧ FillP w A W ∧ W.length ≤ A.length ∧ W.length ≤ w ∧ ∀ v ∈ W, EntB w (2 ^ 14) v := by
  obtain ⟨t, run, fo⟩ := null6 w4 h4 hA ent
  obtain ⟨g, d⟩ := run.good (initM_good A)
  have n := g.null hA d
  have len := g.tail_len
  have nu := nb_nu g hA d ent
  have le := g.le
  have hne : A ≠ [] := by rintro rfl; simp at h1
  have ta : t.a ≤ A.length := by
    rcases Nat.lt_or_ge A.length t.a with z | z
    · have := (g.pos A.length z).1; omega
    · exact z
  have ok1 : NullOk w A (formF w (tailC w t)) := .inr ⟨hne, t, run.map fun _ f => f.wide, fo, rfl⟩
  have ok3 : NullOk w (A.map tripleV) (formF w (tailC w t)) := by
    refine .inr ⟨by simpa using hne, trip t, ?_, fo, rfl⟩
    have e : initM (A.map tripleV) = trip (initM A) := by
      unfold initM trip
      congr 1
      funext i j
      exact row_triple A i j
    rw [List.length_map, e]
    exact run.trip
  have idE := id_ent g
  generalize formF w (tailC w t) = N at *
  have N8 : N.length ≤ 8 := by omega
  have end_ : ∀ W, NullOk w N W → W.length = t.a → (∀ v ∈ W, EntB w (2 ^ 14) v) → ∃ W, FillOk w A W ∧ FillOk w (A.map tripleV) W ∧ FillP w A W ∧ W.length ≤ A.length ∧ W.length ≤ w ∧ ∀ v ∈ W, EntB w (2 ^ 14) v := fun W o l e =>
    ⟨W, ⟨N, N8, ok1, o⟩, ⟨N, N8, ok3, o⟩, filled_facts hA n (o.null.facts n.supp), by omega, by omega, e⟩
  by_cases k0 : N.length = 0
  · have : N = [] := List.length_eq_zero_iff.mp k0
    subst this
    refine end_ _ (.inl ⟨rfl, rfl⟩) (by simp at len ⊢; omega) fun v hv j hj => ?_
    obtain ⟨i, _, rfl⟩ := List.mem_map.mp hv
    exact Nat.le_trans (show (unitV i j).natAbs ≤ 1 by unfold unitV; split <;> decide) (by decide)
  have hN : N ≠ [] := by rintro rfl; simp at k0
  -- a run from N, with its tail's form
  have fin : ∀ (B : Nat) (t2 : SM), (∀ v ∈ N, EntB w B v) → SmRun (Fit N.length w) N.length w (initM N) t2 → (t2.a = N.length → FormOk w (tailC w t2)) → facB N.length B ≤ 2 ^ 14 → ∃ W, FillOk w A W ∧ FillOk w (A.map tripleV) W ∧ FillP w A W ∧ W.length ≤ A.length ∧ W.length ≤ w ∧ ∀ v ∈ W, EntB w (2 ^ 14) v := fun B t2 eN run2 fo2 hB => by
    obtain ⟨g2, d2⟩ := run2.good (initM_good N)
    have rk := null_rank (h := N.length) n g2 d2
    have m := g2.null n.supp d2
    have len2 := g2.tail_len
    have nu2 := nb_nu g2 n.supp d2 eN
    rw [rk] at len2 nu2
    have ok2 : NullOk w N (formF w (tailC w t2)) := .inr ⟨hN, t2, run2.map fun _ f => f.wide, fo2 rk, rfl⟩
    obtain ⟨ps, E⟩ := m.ech
    generalize formF w (tailC w t2) = W at *
    refine end_ W ok2 (by omega) fun v hv => EntB.mono ?_ hB
    have : W.length = 0 ∨ W.length = 1 ∨ W.length = 2 ∨ W.length = 3 := by omega
    rcases this with q | q | q | q
    · have : W = [] := List.length_eq_zero_iff.mp q
      rw [this] at hv; simp at hv
    · have e := hnf1 q nu2
      rw [← q] at e
      exact ent_of_eb e v hv
    · have e := (hnf2 E q nu2).1
      rw [← q] at e
      exact ent_of_eb e v hv
    · have e := (hnf3 E q nu2).1
      rw [← q] at e
      exact ent_of_eb e v hv
  obtain ⟨ps, E⟩ := n.ech
  by_cases a0 : t.a = 0
  · have e1 := idE a0
    obtain ⟨t2, run2, fo2⟩ := null6 w4 (by omega) n.supp fun v hv => (e1 v hv).mono (by decide)
    refine fin 1 t2 e1 run2 (fun _ => fo2) ?_
    have : N.length = 2 ∨ N.length = 3 ∨ N.length = 4 := by omega
    rcases this with q | q | q <;> rw [q] <;> decide
  have hk : N.length = 1 ∨ N.length = 2 ∨ N.length = 3 := by omega
  rcases hk with q | q | q
  · have e := hnf1 q nu
    have a3 : facB t.a 6 ≤ 1296 := by
      have : t.a = 1 ∨ t.a = 2 ∨ t.a = 3 := by omega
      rcases this with z | z | z <;> rw [z] <;> decide
    have e := e.mono a3
    obtain ⟨t2, run2, r2⟩ := runIV (w := w) (initM N) rfl e (unit_mb _) (unit_mb _)
    rw [← q] at e run2
    refine fin 1296 t2 (ent_of_eb e) run2 (fun rk => ?_) (by rw [q]; decide)
    refine formOk_of w4 (tail_ent r2) ?_
    rw [tailC_len, rk, q]
    have : w - 1 = 1 ∨ w - 1 = 2 ∨ w - 1 = 3 := by omega
    rcases this with z | z | z <;> rw [z] <;> decide
  · have a3 : facB t.a 6 ≤ 72 := by
      have : t.a = 1 ∨ t.a = 2 := by omega
      rcases this with z | z <;> rw [z] <;> decide
    have nu : NuB N w 72 := fun c hc => Nat.le_trans (nu c hc) a3
    obtain ⟨e, kb, _⟩ := hnf2 E q nu
    obtain ⟨t2, run2, r2⟩ := runII (w := w) (initM N) rfl (e.mono (by decide)) kb (fun r c p => pick2 E q nu p) (unit_mb _) (unit_mb _)
    rw [← q] at e run2
    refine fin 72 t2 (ent_of_eb e) run2 (fun rk => ?_) (by rw [q]; decide)
    refine formOk_of w4 (tail_ent r2) ?_
    rw [tailC_len, rk, q]
    have : w - 2 = 1 ∨ w - 2 = 2 := by omega
    rcases this with z | z <;> rw [z] <;> decide
  · have a1 : t.a = 1 := by omega
    have nu : NuB N w 6 := by rw [a1] at nu; exact nu
    obtain ⟨e, _⟩ := hnf3 E q nu
    obtain ⟨t2, run2⟩ := runIII (w := w) (initM N) rfl (e.mono (by decide)) (fun r c p => pick3 E q nu p) (unit_mb _) (unit_mb _)
    rw [← q] at e run2
    refine fin 6 t2 (ent_of_eb e) run2 (fun rk => ?_) (by rw [q]; decide)
    obtain ⟨g2, d2⟩ := run2.good (initM_good N)
    have tb := nb_tail g2 d2 (ent_of_eb e)
    rw [rk, q] at tb
    exact one_form (b := 11) w4 (by rw [tailC_len, rk, q]; omega) tb (by decide) (by decide)
end
end K17
end
section
set_option Elab.async false
set_option linter.all false
set_option maxRecDepth 100000
namespace K17
open PySem PySem.Spec PyProof.Rows L2
theorem hide_self {H : Hp} {r : Addr} {o : HO} : hide r (upd H r o) = hide r H := by
  funext b
  unfold hide
  split
  · rfl
  · exact upd_ne (by assumption)
theorem same_self {H : Hp} {r : Addr} {o : HO} : Same (hide r H) (hide r (upd H r o)) := by rw [hide_self]; exact .refl _
/-- a comprehension whose step changes the cell r -/
theorem lc_mapR {J : It} {G : Hp → Prop} {Y : Nat → Hp → V → Hp → Prop} {α : Type} {zs : List α} (w : Walk J zs.length G Y) {g : TG} {te : TE} {vs : List Nat} {σ : L2.St} {H1 : Hp} {D : Addr} {Qd : Hp → Prop}
    (r : Addr) (I : Hp → Prop) (P : α → V → Hp → Prop) (mono : ∀ z y H H', P z y H → Same H H' → P z y H') (nD : H1 D = none) (hn : zs.length ≤ 1000) (rD : D ≠ r) (i1 : I H1) (iD : ∀ H o, I H → I (upd H D o))
    (hG : ∀ H, Same (hide r H1) (hide r H) → G H)
    (hs : ∀ (i : Nat) (z : α) (x : V) (H H' : Hp) (Qb : V → Hp → Prop), zs[i]? = some z → Same (hide r H1) (hide r H) → I H → (∃ acc, H D = some (.lst acc)) → Y i H x H' → (∀ y H4, Same (hide r H) (hide r H4) → I H4 → P z y (hide D (hide r H4)) → Qb y H4) →
      g x (wipe σ vs) H' fun σ2 H2 => wipe σ2 vs = wipe σ vs ∧ te σ2 H2 Qb)
    (hd : ∀ H ys, Same (hide r H1) (hide r H) → I H → H D = some (.lst ys) → Rel2 (fun z y => P z y (hide D (hide r H))) zs ys → Qd H) :
    ∃ W : Nat → Nat → Hp → Prop, (∃ m, W 0 m (upd H1 D (.lst []))) ∧ ∀ i m H, W i m H →
      (J.stop i H ∧ Qd H) ∨ (J.go i H ∧ ∃ Nx : Hp → Prop, (∀ H', Nx H' → ∃ m', m' < m ∧ W (i + 1) m' H') ∧ ∀ x H', J.yld i H x H' → g x (wipe σ vs) H' fun σ2 H2 => wipe σ2 vs = wipe σ vs ∧ tYes σ2 H2 fun b H3 =>
        if b = true then te σ2 H3 fun y H4 => ∃ acc, H4 D = some (.lst acc) ∧ acc.length < sizeLine ∧ Nx (upd H4 D (.lst (acc ++ [y]))) else Nx H3) := by
  have sD : ∀ {H : Hp} {o : HO}, Same (hide D (hide r H)) (hide D (hide r (upd H D o))) := fun {H o} b x e => by
    obtain ⟨h1, h2⟩ := hide_some e
    obtain ⟨h3, h4⟩ := hide_some h2
    rw [hide_ne h1, hide_ne h3, upd_ne h1]; exact h4
  refine lc_it w (fun i H => Same (hide r H1) (hide r H) ∧ I H ∧ ∃ ys, H D = some (.lst ys) ∧ ys.length ≤ i ∧ Rel2 (fun z y => P z y (hide D (hide r H))) (zs.take i) ys) ?_ (fun i H _ p => hG H p.1) (fun i x H H' hi p y => ?_) (fun H p => ?_)
  · exact ⟨same_hide (same_new nD), iD _ _ i1, [], upd_same, Nat.le_refl _, .nil⟩
  · obtain ⟨s, iH, ys, e, el, q⟩ := p
    obtain ⟨z, hz⟩ : ∃ z, zs[i]? = some z := ⟨_, List.getElem?_eq_getElem hi⟩
    have tk : zs.take (i + 1) = zs.take i ++ [z] := by rw [List.take_add_one, hz]; rfl
    refine hs i z x H H' _ hz s iH ⟨_, e⟩ y (fun v H4 s4 i4 pv => ?_)
    have e4 : H4 D = some (.lst ys) := hide_sub _ _ (s4 _ _ (by rw [hide_ne rD]; exact e))
    refine ⟨ys, e4, by have : (1000 : Nat) < sizeLine := by decide
                       omega, ?_, iD _ _ i4, ys ++ [v], upd_same, by simp; omega, ?_⟩
    · intro b o h
      have hb : b ≠ D := fun q => by
        have := (hide_some h).2
        rw [q, nD] at this; cases this
      have := s4 _ _ (s _ _ h)
      obtain ⟨h1, h2⟩ := hide_some this
      rw [hide_ne h1, upd_ne hb]; exact h2
    · rw [tk]
      exact Rel2.app (q.imp fun z y q => mono z y _ _ q ((same_hide s4).trans sD)) (.one (mono _ _ _ _ pv sD))
  · obtain ⟨s, iH, ys, e, _, q⟩ := p
    rw [List.take_length] at q
    exact hd H ys s iH e q
theorem TkS.upd {H : Hp} {r sc D : Addr} {o : HO} (h : TkS H r sc) (n : D ≠ r) : TkS (L2.upd H D o) r sc := by
  obtain ⟨i, x, l, e, q⟩ := h
  exact ⟨i, x, l, by rw [upd_ne n.symm]; exact e, q⟩
theorem TkS.ne {H : Hp} {r sc D : Addr} (h : TkS H r sc) (n : H D = none) : D ≠ r := fun e => by
  obtain ⟨i, x, l, q, _⟩ := h
  rw [← e, n] at q; cases q
section
variable {P : Program} {w : World} {K : PySem.W.Frag} {mg : Str → Option Value} {base : Heap}
/-! _law_pick -/
theorem scPick : FnScope ["_law_row", "_law_things"] ["_law_row", "_law_things"] (defScope (topS 37)) := ⟨rfl, rfl, rfl, by decide +kernel, rfl, by decide +kernel, by decide +kernel⟩
def spPick (K : PySem.W.Frag) : L2.Sp := fun vs H Q _ => ∃ (r sc t : Addr) (ns : List Int) (xs : List V), vs = [.ref r, .ref t] ∧ TkS H r sc ∧ SqL K (hide r H) sc (ns.map V.int) ∧ ns.length ≤ 63 ∧ hide r H t = some (.lst xs) ∧ 1 ≤ xs.length ∧ xs.length ≤ 100 ∧
  ∀ (i : Nat) (v : V) (o : HO), xs[i]? = some v → TkS (upd H r o) r sc → Q v (upd H r o)
theorem ok_pick {f : Addr} {fd : FuncData} {k : Nat} (F : Fun K "_law_pick" "_law_pick" (topS 37) f fd) (C1 : Cal P w K mg base k "_law_taken" ["_law_row", "_law_many"] (spTk K)) (ml : mg "len" = none) : FnOk P w K mg base CX0 (k + 1) f fd ["_law_row", "_law_things"] (spPick K) := by
  obtain ⟨f1, fd1, G1, g1, k1, b1⟩ := C1
  refine F.ok scPick (fun vs H Q E h => ?_) (fun cdv A outer s H vs Q E hr h => ?_)
  · obtain ⟨_, _, _, _, _, rfl, _⟩ := h
    rfl
  · obtain ⟨r, sc, t, ns, xs, rfl, hT, hS, hn, ht, x1, x2, q⟩ := h
    refine ⟨_, pss_one (ps_ret (pe_ix (iL K) (pv 1) (pe_call G1 hr (by rfl) g1 k1 b1 .nil pass0 (pa_cons (pv 0) (pa_cons (pe_callB (cLen K) (by rfl) ml PySem.boot_len (pa_cons (pv 1) pa_nil)) pa_nil))) (fun _ _ => rfl))), ?_⟩
    obtain ⟨h1, h2⟩ := hide_some ht
    refine ⟨_, rfl, _, rfl, _, rfl, t, _, rfl, .inl (.inl (.inl h2)), r, sc, xs.length, ns, rfl, hT, hS, hn, by omega, by omega, fun v o v0 v1 hT2 => ?_⟩
    obtain ⟨i, rfl⟩ : ∃ i : Nat, (i : Int) = v := ⟨v.toNat, by omega⟩
    obtain ⟨y, hy⟩ : ∃ y, xs[i]? = some y := ⟨_, List.getElem?_eq_getElem (by omega)⟩
    exact ⟨t, xs, _, y, rfl, rfl, .inl (.inl (by rw [upd_ne h1]; exact h2)), atI_nat hy, q i y o hy hT2⟩
/-! _law_rows -/
abbrev nRw : List Str := ["_law_row", "_law_high", "_law_wide", "_law_most", "_law_line", "_law_at"]
theorem scRw : FnScope nRw ["_law_row", "_law_high", "_law_wide", "_law_most"] (defScope (topS 41)) := ⟨rfl, rfl, rfl, by decide +kernel, rfl, by decide +kernel, by decide +kernel⟩
/-- a drawn row -/
def Drawn (w : Nat) (v : Vec) : Prop := EntB w 6 v ∧ ∀ j, w ≤ j → v j = 0
def spRw (K : PySem.W.Frag) : L2.Sp := fun vs H Q _ => ∃ (r sc : Addr) (h w : Nat) (ns : List Int), vs = [.ref r, .int (h : Nat), .int (w : Nat), .int 6] ∧ TkS H r sc ∧ SqL K (hide r H) sc (ns.map V.int) ∧ ns.length ≤ 63 ∧ h ≤ 8 ∧ w ≤ 8 ∧
  ∀ (H' : Hp) (p : Addr) (ts : List V) (A : List Vec), Same (hide r H) (hide r H') → TkS H' r sc → hide r H' p = some (.tup ts) → Rel2 (IsRowT w (hide r H')) A ts → A.length = h → (∀ v ∈ A, Drawn w v) → Q (.ref p) H'
theorem rel_some {α β γ : Type} {R : α → β → Prop} {S : γ → β → Prop} {as : List α} {bs : List β} (h : Rel2 R as bs) (f : ∀ a b, R a b → ∃ c, S c b) : ∃ cs, cs.length = as.length ∧ Rel2 S cs bs := by
  induction h with
  | nil => exact ⟨[], rfl, .nil⟩
  | cons r t ih =>
    obtain ⟨cs, l, q⟩ := ih
    obtain ⟨c, hc⟩ := f _ _ r
    exact ⟨c :: cs, by simp [l], .cons hc q⟩
theorem draw_row {w : Nat} {ys : List V} (h : Rel2 (fun _ y => ∃ v : Int, y = V.int v ∧ v.natAbs ≤ 6) (List.range w) ys) : ∃ v : Vec, ys = vI w v ∧ Drawn w v := by
  have e : ∀ j, ∃ v : Int, v.natAbs ≤ 6 ∧ (j < w → ys[j]? = some (V.int v)) := fun j => by
    by_cases hj : j < w
    · obtain ⟨y, hy, v, rfl, hv⟩ := h.get (i := j) (a := j) (by simp [hj])
      exact ⟨v, hv, fun _ => hy⟩
    · exact ⟨0, by decide, fun z => absurd z hj⟩
  obtain ⟨f, hf⟩ := Classical.axiomOfChoice e
  refine ⟨fun j => if j < w then f j else 0, ?_, fun j hj => ?_, fun j hj => if_neg (by omega)⟩
  · have l := h.len
    rw [List.length_range] at l
    apply List.ext_getElem?
    intro i
    by_cases hi : i < w
    · rw [vI_get hi, (hf i).2 hi, if_pos hi]
    · rw [List.getElem?_eq_none (by omega), List.getElem?_eq_none (by rw [vI_len]; omega)]
  · show (if j < w then f j else 0).natAbs ≤ 6
    rw [if_pos hj]; exact (hf j).1
set_option maxHeartbeats 2000000 in
theorem ok_rw {f : Addr} {fd : FuncData} {k : Nat} (F : Fun K "_law_rows" "_law_rows" (topS 41) f fd) (C1 : Cal P w K mg base k "_law_taken" ["_law_row", "_law_many"] (spTk K)) (mr : mg "range" = none) (mt : mg "tuple" = none) : FnOk P w K mg base CX0 (k + 1) f fd ["_law_row", "_law_high", "_law_wide", "_law_most"] (spRw K) := by
  obtain ⟨f1, fd1, G1, g1, k1, b1⟩ := C1
  refine F.ok scRw (fun vs H Q E h => ?_) (fun cdv A outer s H vs Q E hr h => ?_)
  · obtain ⟨_, _, _, _, _, rfl, _⟩ := h
    rfl
  · obtain ⟨r, sc, h, w, ns, rfl, hT, hS, hn, h8, w8, q⟩ := h
    have nd := scRw.nd
    refine ⟨_, pss_one (ps_ret (pe_callTy (cTup K) (by rfl) mt PyProof.Rows.boot_tuple (pa_cons (pe_lc (own := [("_law_line", 4)]) (g := gName 4) (tt := tYes) rfl nd
      (pi_range1 (by rfl) mr (pa_cons (pv 1) pa_nil)) (blkOk_by (N := nRw) (sc := defScope (topS 41)) (by decide +kernel))
      (fun _ _ _ _ _ => pg_name (i := 4) nd rfl (Or.inl rfl)) (fun _ _ _ _ _ => pts_nil)
      (fun _ _ _ _ _ => pe_callTy (cTup K) (by rfl) mt PyProof.Rows.boot_tuple (pa_cons (pe_lc (own := [("_law_at", 5)]) (g := gName 5) (tt := tYes) rfl nd
        (pi_range1 (by rfl) mr (pa_cons (pv 2) pa_nil)) (blkOk_by (by rfl)) (fun _ _ _ _ _ => pg_name (i := 5) nd rfl (Or.inl rfl)) (fun _ _ _ _ _ => pts_nil)
        (fun _ _ _ _ _ => pe_op op_sub (pe_call G1 hr (by rfl) g1 k1 b1 .nil pass0 (pa_cons (pv 0) (pa_cons (pe_op op_add (pe_op op_mulX pe_int (pv 3)) pe_int) pa_nil))) (pv 3))) pa_nil))) pa_nil))), ?_⟩
    refine ⟨_, rfl, h, rfl, by omega, by omega, fun D nD => ?_⟩
    have rD := hT.ne nD
    refine lc_mapR (zs := List.range h) walk_rng r (fun H => TkS H r sc) (fun _ y H => ∃ v, IsRowT w H v y ∧ Drawn w v) (fun _ _ _ _ q s => ⟨q.choose, q.choose_spec.1.same s, q.choose_spec.2⟩) nD (by simp; omega) rD hT (fun H o t => t.upd rD) (fun _ _ => trivial) (fun i z x H1 H2 Qb hz s1 t1 hacc y qb => ?_) (fun H1 ys s1 t1 e1 r1 => ?_)
    · obtain ⟨rfl, rfl⟩ := y
      obtain ⟨acc, hacc⟩ := hacc
      refine ⟨rfl, _, rfl, w, rfl, by omega, by omega, fun D2 nD2 => ?_⟩
      have rD2 := t1.ne nD2
      have d12 : D2 ≠ D := fun e => by rw [e, hacc] at nD2; cases nD2
      refine lc_mapR (zs := List.range w) walk_rng r (fun H => TkS H r sc) (fun _ y _ => ∃ v : Int, y = V.int v ∧ v.natAbs ≤ 6) (fun _ _ _ _ q _ => q) nD2 (by simp; omega) rD2 t1 (fun H o t => t.upd rD2) (fun _ _ => trivial) (fun j z2 x H3 H4 Qb2 hz2 s3 t3 _ y2 qb2 => ?_) (fun H3 ys s3 t3 e3 r3 => ?_)
      · obtain ⟨rfl, rfl⟩ := y2
        refine ⟨rfl, _, rfl, _, rfl, _, _, rfl, rfl, ⟨64, 64, by decide, by decide, by decide⟩, _, _, rfl, rfl, ?_⟩
        refine ⟨r, sc, 13, ns, rfl, t3, (s1.trans s3).seq hS, hn, by decide, by decide, fun v o v0 v1 t4 => ⟨_, rfl, _, _, rfl, rfl, qb2 _ _ same_self t4 ⟨_, rfl, by omega⟩⟩⟩
      · obtain ⟨v, rfl, dv⟩ := draw_row r3
        refine ⟨D2, _, rfl, .inl ⟨.inl (.inl e3), fun l nl => ?_⟩⟩
        have lr := t3.ne nl
        have lD : l ≠ D := fun e => by
          have := hide_sub _ _ (s3 _ _ (by rw [hide_ne rD]; exact hacc))
          rw [← e, nl] at this; cases this
        refine qb _ _ (s3.trans (same_hide (same_new nl))) (t3.upd lr) ⟨v, ⟨l, rfl, ?_⟩, dv⟩
        rw [hide_ne lD, hide_ne lr, upd_same]
    · obtain ⟨A, lA, rA⟩ := rel_some (S := fun v y => IsRowT w (hide D (hide r H1)) v y ∧ Drawn w v) r1 fun _ _ q => q
      refine ⟨D, ys, rfl, .inl ⟨.inl (.inl e1), fun l nl => ?_⟩⟩
      have lr := t1.ne nl
      have sl := same_hide (D := r) (same_new (o := .tup ys) nl)
      refine q _ l ys A (s1.trans sl) (t1.upd lr) (by rw [hide_ne lr, upd_same]) (rA.imp fun _ _ q => (q.1.same hide_sub).same sl) (by rw [lA, List.length_range]) fun v hv => ?_
      obtain ⟨i, hi, rfl⟩ := mem_row hv
      obtain ⟨y, _, _, d⟩ := rA.get (List.getElem?_eq_getElem hi)
      have : row A i = A[i] := by unfold row; rw [List.getD_eq_getElem?_getD, List.getElem?_eq_getElem hi]; rfl
      rw [this]; exact d
end
end K17
end
section
set_option Elab.async false
set_option linter.all false
set_option maxRecDepth 100000
namespace K17
open PySem PySem.Spec PyProof.Rows L2
/-! _law_alike, of equal things -/
def AlK (K : PySem.W.Frag) (H : Hp) : Nat → V → V → Prop
  | 0, x, y => ∃ a : Int, x = .int a ∧ y = .int a
  | n + 1, x, y => (∃ a : Int, x = .int a ∧ y = .int a) ∨ ∃ p q xs ys, x = .ref p ∧ y = .ref q ∧ SqT K H p xs ∧ SqT K H q ys ∧ Rel2 (AlK K H n) xs ys ∧ ys.length ≤ 8
theorem AlK.same {K : PySem.W.Frag} {H H' : Hp} (s : Same H H') : ∀ {n : Nat} {x y : V}, AlK K H n x y → AlK K H' n x y
  | 0, _, _, h => h
  | _ + 1, _, _, .inl h => .inl h
  | _ + 1, _, _, .inr ⟨p, q, xs, ys, e1, e2, h1, h2, r, l⟩ => .inr ⟨p, q, xs, ys, e1, e2, same_seqT s h1, same_seqT s h2, r.imp fun _ _ z => z.same s, l⟩
section
variable {X : Cx}
theorem pss_never {ss : List Stmt} : PSs X ss (fun _ _ _ => False) := ⟨fun _ _ _ _ _ _ h => h.elim⟩
theorem cIsiT (K : PySem.W.Frag) (h : X.K = K := by rfl) : CallR X (.builtin "isinstance") (rIsiT K) := by subst h; exact call_isiT
end
section
variable {P : Program} {w : World} {K : PySem.W.Frag} {mg : Str → Option Value} {base : Heap}
theorem scAl : FnScope ["_law_found", "_law_due", "_law_k"] ["_law_found", "_law_due"] (defScope (topS 38)) := ⟨rfl, rfl, rfl, by decide +kernel, rfl, by decide +kernel, by decide +kernel⟩
def spAl (K : PySem.W.Frag) (n : Nat) : L2.Sp := fun vs H Q _ => ∃ x y : V, vs = [x, y] ∧ AlK K H n x y ∧ ∀ H', Same H H' → Q (.bl true) H'
theorem any_int {K : PySem.W.Frag} : PySem.W.kitAny K (.type "int") [.type "tuple", .type "list"] = some false := kitAny_cons (b := false) (kit_ty (by decide +kernel)) (fun _ => kitAny_cons (b := false) (kit_ty (by decide +kernel)) (fun _ => rfl) (fun z => nomatch z)) (fun z => nomatch z)
theorem any_tup {K : PySem.W.Frag} : PySem.W.kitAny K (.type "tuple") [.type "tuple", .type "list"] = some true := kitAny_cons (b := true) (kit_ty (by decide +kernel)) (fun z => nomatch z) (fun _ => rfl)
abbrev tlP : Paired ClsV [.ty "tuple", .ty "list"] [.type "tuple", .type "list"] := .cons (.ty _) (.cons (.ty _) .nil)
theorem ok_al0 {f : Addr} {fd : FuncData} {k : Nat} (F : Fun K "_law_alike" "_law_alike" (topS 38) f fd) (mi : mg "isinstance" = none) (mt : mg "tuple" = none) (ml : mg "list" = none) (ms : mg "str" = none) (mn : mg "int" = none) (mb : mg "bool" = none) :
    FnOk P w K mg base CX0 (k + 1) f fd ["_law_found", "_law_due"] (spAl K 0) := by
  refine F.ok scAl (fun vs H Q E h => ?_) (fun cdv A outer s H vs Q E hr h => ?_)
  · obtain ⟨_, _, rfl, _⟩ := h
    rfl
  · obtain ⟨_, _, rfl, ⟨a, rfl, rfl⟩, q⟩ := h
    refine ⟨_, pss_cons (ps_if (pt_val (pe_callB (cIsiT K) (by rfl) mi PyProof.Rows.boot_isinstance (pa_cons (pv 1) (pa_cons (pe_tup (pa_cons (pe_bltn (v := .ty "tuple") (by rfl) mt PyProof.Rows.boot_tuple rfl) (pa_cons (pe_bltn (v := .ty "list") (by rfl) ml PyProof.Rows.boot_list rfl) pa_nil))) pa_nil)))) pss_never pss_nil)
      (pss_cons (ps_if (PW.pt (pw_or (pt_cmpR op_isN (pv 1) pe_non (nomark _)) (pw_or1 (pt_val (pe_callB (cIsi K) (by rfl) mi PyProof.Rows.boot_isinstance (pa_cons (pv 1) (pa_cons (pe_bltn (v := .ty "str") (by rfl) ms PyProof.Rows.boot_str rfl) pa_nil))))))) pss_never pss_nil)
      (pss_one (ps_ret (pe_and (pe_callB (cIsi K) (by rfl) mi PyProof.Rows.boot_isinstance (pa_cons (pv 0) (pa_cons (pe_bltn (v := .ty "int") (by rfl) mn PyProof.Rows.boot_int rfl) pa_nil)))
        (pe_and (pe_cmpR op_eq (pe_callB (cIsi K) (by rfl) mi PyProof.Rows.boot_isinstance (pa_cons (pv 0) (pa_cons (pe_bltn (v := .ty "bool") (by rfl) mb (by decide +kernel) rfl) pa_nil))) (pe_callB (cIsi K) (by rfl) mi PyProof.Rows.boot_isinstance (pa_cons (pv 1) (pa_cons (pe_bltn (v := .ty "bool") (by rfl) mb (by decide +kernel) rfl) pa_nil))) (nomark _))
        (pe_one (pe_cmpR op_eq (pv 0) (pv 1) (nomark _)))))))), ?_⟩
    refine ⟨_, rfl, by show 2 ≤ sizeLine; decide, fun t nt => ?_⟩
    have s1 := same_new (o := .tup [.ty "tuple", .ty "list"]) nt
    refine ⟨.int a, t, _, _, _, false, rfl, upd_same, tlP, .base (.int a), any_int, false, rfl, iteF ?_⟩
    refine ⟨_, rfl, rfl, _, rfl, iteF ?_⟩
    refine ⟨_, rfl, _, _, _, _, false, rfl, .ty _, .base (.int a), kit_ty (by decide +kernel), false, rfl, iteF ?_⟩
    refine ⟨_, rfl, _, _, _, _, true, rfl, .ty _, .base (.int a), kit_ty (by decide +kernel), true, rfl, iteT ?_⟩
    refine ⟨_, rfl, _, _, _, _, false, rfl, .ty _, .base (.int a), kit_ty (by decide +kernel), _, rfl, _, _, _, _, false, rfl, .ty _, .base (.int a), kit_ty (by decide +kernel), rfl, _, rfl, iteT ?_⟩
    exact ⟨_, rfl, _, rfl, rfl, qeq (congrArg V.bl (decide_eq_true rfl)) (q _ s1)⟩
set_option maxHeartbeats 2000000 in
theorem ok_al1 {f : Addr} {fd : FuncData} {k n : Nat} (F : Fun K "_law_alike" "_law_alike" (topS 38) f fd) (C1 : Cal P w K mg base k "_law_alike" ["_law_found", "_law_due"] (spAl K n)) (mi : mg "isinstance" = none) (mt : mg "tuple" = none) (ml : mg "list" = none) (ms : mg "str" = none) (mn : mg "int" = none) (mb : mg "bool" = none) (mr : mg "range" = none) (mln : mg "len" = none) :
    FnOk P w K mg base CX0 (k + 1) f fd ["_law_found", "_law_due"] (spAl K (n + 1)) := by
  obtain ⟨f1, fd1, G1, g1, k1, b1⟩ := C1
  refine F.ok scAl (fun vs H Q E h => ?_) (fun cdv A outer s H vs Q E hr h => ?_)
  · obtain ⟨_, _, rfl, _⟩ := h
    rfl
  · obtain ⟨x, y, rfl, hk, q⟩ := h
    have nd := scAl.nd
    refine ⟨_, pss_cons (ps_if (pt_val (pe_callB (cIsiT K) (by rfl) mi PyProof.Rows.boot_isinstance (pa_cons (pv 1) (pa_cons (pe_tup (pa_cons (pe_bltn (v := .ty "tuple") (by rfl) mt PyProof.Rows.boot_tuple rfl) (pa_cons (pe_bltn (v := .ty "list") (by rfl) ml PyProof.Rows.boot_list rfl) pa_nil))) pa_nil))))
        (pss_cons (ps_if (PW.pt (pw_or (pt_not (pt_val (pe_callB (cIsiT K) (by rfl) mi PyProof.Rows.boot_isinstance (pa_cons (pv 0) (pa_cons (pe_tup (pa_cons (pe_bltn (v := .ty "tuple") (by rfl) mt PyProof.Rows.boot_tuple rfl) (pa_cons (pe_bltn (v := .ty "list") (by rfl) ml PyProof.Rows.boot_list rfl) pa_nil))) pa_nil)))))
            (pw_or1 (pt_cmpR op_ne (pe_callB (cIsi K) (by rfl) mi PyProof.Rows.boot_isinstance (pa_cons (pv 0) (pa_cons (pe_bltn (v := .ty "list") (by rfl) ml PyProof.Rows.boot_list rfl) pa_nil))) (pe_callB (cIsi K) (by rfl) mi PyProof.Rows.boot_isinstance (pa_cons (pv 1) (pa_cons (pe_bltn (v := .ty "list") (by rfl) ml PyProof.Rows.boot_list rfl) pa_nil))) (nomark _))))) pss_never pss_nil)
        (pss_cons (ps_if (pt_cmpR op_ne (pe_callB (cLen K) (by rfl) mln PySem.boot_len (pa_cons (pv 0) pa_nil)) (pe_callB (cLen K) (by rfl) mln PySem.boot_len (pa_cons (pv 1) pa_nil)) (nomark _)) pss_never pss_nil)
        (pss_one (ps_ret (pe_cmpR (op_eqD hr.units) (pe_lc (own := [("_law_k", 2)]) (g := gName 2) rfl nd (pi_range1 (by rfl) mr (pa_cons (pe_callB (cLen K) (by rfl) mln PySem.boot_len (pa_cons (pv 1) pa_nil)) pa_nil)) (blkOk_by (N := ["_law_found", "_law_due", "_law_k"]) (sc := defScope (topS 38)) (by decide +kernel))
          (fun _ _ _ _ _ => pg_name (i := 2) nd rfl (Or.inl rfl)) (fun _ _ _ _ _ => pts_one (pt_not (pt_val (pe_call G1 hr (by rfl) g1 k1 b1 .nil pass0 (pa_cons (pe_ix (iT K) (pv 0) (pv 2) (fun _ _ => rfl)) (pa_cons (pe_ix (iT K) (pv 1) (pv 2) (fun _ _ => rfl)) pa_nil)))))) (fun _ _ _ _ _ => pv 2)) (pe_lst pa_nil) (nomark _)))))) pss_nil)
      (pss_cons (ps_if (PW.pt (pw_or (pt_cmpR op_isN (pv 1) pe_non (nomark _)) (pw_or1 (pt_val (pe_callB (cIsi K) (by rfl) mi PyProof.Rows.boot_isinstance (pa_cons (pv 1) (pa_cons (pe_bltn (v := .ty "str") (by rfl) ms PyProof.Rows.boot_str rfl) pa_nil))))))) pss_never pss_nil)
      (pss_one (ps_ret (pe_and (pe_callB (cIsi K) (by rfl) mi PyProof.Rows.boot_isinstance (pa_cons (pv 0) (pa_cons (pe_bltn (v := .ty "int") (by rfl) mn PyProof.Rows.boot_int rfl) pa_nil)))
        (pe_and (pe_cmpR op_eq (pe_callB (cIsi K) (by rfl) mi PyProof.Rows.boot_isinstance (pa_cons (pv 0) (pa_cons (pe_bltn (v := .ty "bool") (by rfl) mb (by decide +kernel) rfl) pa_nil))) (pe_callB (cIsi K) (by rfl) mi PyProof.Rows.boot_isinstance (pa_cons (pv 1) (pa_cons (pe_bltn (v := .ty "bool") (by rfl) mb (by decide +kernel) rfl) pa_nil))) (nomark _))
        (pe_one (pe_cmpR op_eq (pv 0) (pv 1) (nomark _)))))))), ?_⟩
    refine ⟨_, rfl, by show 2 ≤ sizeLine; decide, fun t nt => ?_⟩
    have s1 := same_new (o := .tup [.ty "tuple", .ty "list"]) nt
    rcases hk with ⟨a, rfl, rfl⟩ | ⟨p, p', xs, ys, rfl, rfl, h1, h2, rel, l8⟩
    · refine ⟨.int a, t, _, _, _, false, rfl, upd_same, tlP, .base (.int a), any_int, false, rfl, iteF ?_⟩
      refine ⟨_, rfl, rfl, _, rfl, iteF ?_⟩
      refine ⟨_, rfl, _, _, _, _, false, rfl, .ty _, .base (.int a), kit_ty (by decide +kernel), false, rfl, iteF ?_⟩
      refine ⟨_, rfl, _, _, _, _, true, rfl, .ty _, .base (.int a), kit_ty (by decide +kernel), true, rfl, iteT ?_⟩
      refine ⟨_, rfl, _, _, _, _, false, rfl, .ty _, .base (.int a), kit_ty (by decide +kernel), _, rfl, _, _, _, _, false, rfl, .ty _, .base (.int a), kit_ty (by decide +kernel), rfl, _, rfl, iteT ?_⟩
      exact ⟨_, rfl, _, rfl, rfl, qeq (congrArg V.bl (decide_eq_true rfl)) (q _ s1)⟩
    · refine ⟨_, t, _, _, _, true, rfl, upd_same, tlP, tyx_tup (same_seqT s1 h2), any_tup, true, rfl, iteT ?_⟩
      refine ⟨_, rfl, by show 2 ≤ sizeLine; decide, fun t' nt' => ?_⟩
      have s2 := s1.trans (same_new (o := .tup [.ty "tuple", .ty "list"]) nt')
      have g1' := same_seqT s2 h1
      have g2' := same_seqT s2 h2
      have rel' := rel.imp fun _ _ z => z.same s2
      refine ⟨_, t', _, _, _, true, rfl, upd_same, tlP, tyx_tup g1', any_tup, true, rfl, iteF ?_⟩
      generalize upd (upd H t (.tup [.ty "tuple", .ty "list"])) t' (.tup [.ty "tuple", .ty "list"]) = H2 at s2 g1' g2' rel'
      refine ⟨_, rfl, _, _, _, _, false, rfl, .ty _, tyx_tup g1', kit_ty (by decide +kernel), _, rfl, _, _, _, _, false, rfl, .ty _, tyx_tup g2', kit_ty (by decide +kernel), rfl, false, congrArg V.bl (by decide), iteF ?_⟩
      have lx := rel.len
      refine ⟨_, rfl, p, _, rfl, .inr g1', _, rfl, p', _, rfl, .inr g2', rfl, false, congrArg V.bl (by simp [lx]), iteF ?_⟩
      refine ⟨_, rfl, p', _, rfl, .inr g2', ys.length, rfl, by omega, by omega, fun D nD => ?_⟩
      refine lc_flt (zs := List.range ys.length) walk_rng (fun _ => false) (fun _ _ _ => True) (fun _ _ _ _ _ _ => trivial) nD (by simp; omega) (fun _ _ => trivial) (fun i z x H3 H4 Qb Qn hz s3 hacc y qb qn => ?_) (fun H3 as s3 e3 r3 => ?_)
      · obtain ⟨rfl, rfl⟩ := y
        obtain ⟨rfl, hi⟩ := range_at hz
        obtain ⟨v, hv⟩ : ∃ v, ys[z]? = some v := ⟨_, List.getElem?_eq_getElem hi⟩
        obtain ⟨u, hu, huv⟩ := rel'.get' hv
        refine ⟨rfl, _, rfl, _, rfl, p, _, _, _, rfl, rfl, same_seqT s3 g1', atI_nat hu, _, rfl, _, rfl, p', _, _, _, rfl, rfl, same_seqT s3 g2', atI_nat hv, ?_⟩
        exact ⟨u, v, rfl, huv.same s3, fun H5 s5 => ⟨true, rfl, iteF (qn _ rfl s5)⟩⟩
      · have : as = [] := by
          cases r3' : List.filter (fun _ => false) (List.range ys.length) with
          | nil => rw [r3'] at r3; cases r3; rfl
          | cons a b =>
            have hm : a ∈ List.filter (fun _ => false) (List.range ys.length) := by rw [r3']; exact List.mem_cons_self
            exact absurd (List.mem_filter.mp hm).2 (by decide)
        subst this
        refine ⟨Nat.zero_le _, fun o no => ?_⟩
        have s4 := same_new (o := .lst []) no
        exact ⟨.list [], .list [], .lst (.inl (.inl (s4 _ _ e3))) .nil, .lst (.inl (.inl upd_same)) .nil, by decide, by decide, qeq (by decide) (q _ (s2.trans (s3.trans s4)))⟩
end
end K17
end
section
set_option Elab.async false
set_option linter.all false
set_option maxRecDepth 100000
namespace K17
open PySem PySem.Spec PyProof.Rows L2
/-! _law_det -/
theorem facB_bits (b : Nat) : ∀ n, n ≤ 8 → facB n (2 ^ b) ≤ 2 ^ ((b + 3) * n)
  | 0, _ => by simp [facB]
  | n + 1, h => by
    have ih := facB_bits b n (by omega)
    simp only [facB]
    have a := Nat.mul_le_mul (show n + 1 ≤ 2 ^ 3 from by omega) (Nat.mul_le_mul_left (2 ^ b) ih)
    have e : (2 : Nat) ^ ((b + 3) * (n + 1)) = 2 ^ 3 * (2 ^ b * 2 ^ ((b + 3) * n)) := by
      rw [← Nat.pow_add, ← Nat.pow_add]; congr 1; rw [Nat.mul_add, Nat.mul_one]; omega
    rw [e]; exact a
theorem vI_skip {n at_ : Nat} {v : Vec} (h : at_ < n + 1) : (vI (n + 1) v).take at_ ++ (vI (n + 1) v).drop (at_ + 1) = vI n fun k => v (skip at_ k) := by
  apply List.ext_getElem?
  intro i
  have l : ((vI (n + 1) v).take at_).length = at_ := by rw [List.length_take, vI_len]; omega
  by_cases q : i < at_
  · rw [List.getElem?_append_left (by rw [l]; exact q), List.getElem?_take, if_pos q, vI_get (by omega), vI_get (by omega)]
    unfold skip; rw [if_pos q]
  · rw [List.getElem?_append_right (by rw [l]; omega), l, List.getElem?_drop]
    by_cases q2 : i < n
    · rw [vI_get (by omega), vI_get q2]
      unfold skip; rw [if_neg q]
      congr 3; omega
    · rw [List.getElem?_eq_none (by rw [vI_len]; omega), List.getElem?_eq_none (by rw [vI_len]; omega)]
theorem iSl {X : Cx} (K : PySem.W.Frag) (h : X.K = K := by rfl) : SlR X (rSlL K) := by subst h; exact sl_list
/-- the matrix without its first row and a column -/
def minorL (j : Nat) (M : List Vec) : List Vec := (M.drop 1).map fun v k => v (skip j k)
theorem minorL_row {j i : Nat} {M : List Vec} (h : i + 1 < M.length) : row (minorL j M) i = fun k => row M (i + 1) (skip j k) := by
  unfold minorL
  rw [row_map (by simp; omega)]
  have : row (M.drop 1) i = row M (i + 1) := by
    unfold row
    rw [List.getD_eq_getElem?_getD, List.getD_eq_getElem?_getD, List.getElem?_drop, Nat.add_comm]
  rw [this]
section
variable {P : Program} {w : World} {K : PySem.W.Frag} {mg : Str → Option Value} {base : Heap}
abbrev nDt : List Str := ["_law_rows_here", "_law_total", "_law_at", "_law_part", "_law_line"]
theorem scDt : FnScope nDt ["_law_rows_here"] (defScope (topS 42)) := ⟨rfl, rfl, rfl, by decide +kernel, rfl, by decide +kernel, by decide +kernel⟩
def spDet (K : PySem.W.Frag) (n : Nat) : L2.Sp := fun vs H Q _ => ∃ (a : Addr) (M : List Vec) (ys : List V), vs = [.ref a] ∧ SqL K H a ys ∧ Rows n H M ys ∧ M.length = n ∧ (∀ v ∈ M, EntB n (2 ^ 20) v) ∧ ∀ H', Same H H' → Q (.int (detF n (row M))) H'
theorem ok_det0 {f : Addr} {fd : FuncData} {k : Nat} (F : Fun K "_law_det" "_law_det" (topS 42) f fd) (ml : mg "len" = none) : FnOk P w K mg base CX0 (k + 1) f fd ["_law_rows_here"] (spDet K 0) := by
  refine F.ok scDt (fun vs H Q E h => ?_) (fun cdv A outer s H vs Q E hr h => ?_)
  · obtain ⟨_, _, _, rfl, _⟩ := h
    rfl
  · obtain ⟨a, M, ys, rfl, hA, hR, hM, _, q⟩ := h
    refine ⟨_, pss_cons (ps_if (pt_cmpR op_eq (pe_callB (cLen K) (by rfl) ml PySem.boot_len (pa_cons (pv 0) pa_nil)) pe_int (nomark _)) (pss_one (ps_ret pe_int)) pss_nil) pss_never, ?_⟩
    have l := hR.len
    refine ⟨_, rfl, a, ys, rfl, .inl hA, rfl, true, congrArg V.bl (decide_eq_true (congrArg V.int (by omega))), iteT ?_⟩
    exact q _ (.refl _)
set_option maxHeartbeats 2000000 in
theorem ok_det1 {f : Addr} {fd : FuncData} {k n : Nat} (hn : n + 1 ≤ 8) (F : Fun K "_law_det" "_law_det" (topS 42) f fd) (C1 : Cal P w K mg base k "_law_det" ["_law_rows_here"] (spDet K n)) (ml : mg "len" = none) (mr : mg "range" = none) (mli : mg "list" = none) : FnOk P w K mg base CX0 (k + 1) f fd ["_law_rows_here"] (spDet K (n + 1)) := by
  obtain ⟨f1, fd1, G1, g1, k1, b1⟩ := C1
  refine F.ok scDt (fun vs H Q E h => ?_) (fun cdv A outer s H vs Q E hr h => ?_)
  · obtain ⟨_, _, _, rfl, _⟩ := h
    rfl
  · obtain ⟨a, M, ys, rfl, hA, hR, hM, en, q⟩ := h
    have nd := scDt.nd
    refine ⟨_, pss_cons (ps_if (pt_cmpR op_eq (pe_callB (cLen K) (by rfl) ml PySem.boot_len (pa_cons (pv 0) pa_nil)) pe_int (nomark _)) (pss_one (ps_ret pe_int)) pss_nil)
      (pss_cons (ps_set (i := 1) nd rfl (.inl rfl) pe_int)
      (pss_cons (ps_for PassesOwn.never rfl (pi_range1 (by rfl) mr (pa_cons (pe_callB (cLen K) (by rfl) ml PySem.boot_len (pa_cons (pv 0) pa_nil)) pa_nil)) (pg_name (i := 2) nd rfl (.inr rfl))
        (pss_one (ps_if (pt_cmpR op_ne (pe_ix (iL K) (pe_ix (iL K) (pv 0) pe_int (fun _ _ => rfl)) (pv 2) (fun _ _ => rfl)) pe_int (nomark _))
          (pss_cons (ps_set (i := 3) nd rfl (.inl rfl) (pe_op op_mulX (pe_ix (iL K) (pe_ix (iL K) (pv 0) pe_int (fun _ _ => rfl)) (pv 2) (fun _ _ => rfl))
            (pe_call G1 hr (by rfl) g1 k1 b1 .nil pass0 (pa_cons (pe_lc (own := [("_law_line", 4)]) (g := gName 4) (tt := tYes) rfl nd (pi_list (pe_slice (iSl K) (pv 0) (po_some pe_int) po_none)) (blkOk_by (N := nDt) (sc := defScope (topS 42)) (by decide +kernel))
              (fun _ _ _ _ _ => pg_name (i := 4) nd rfl (Or.inl rfl)) (fun _ _ _ _ _ => pts_nil) (fun _ _ _ _ _ => pe_op op_cat (pe_callTy (cLst K) (by rfl) mli PyProof.Rows.boot_list (pa_cons (pe_slice (iSl K) (pv 4) po_none (po_some (pv 2))) pa_nil))
                (pe_callTy (cLst K) (by rfl) mli PyProof.Rows.boot_list (pa_cons (pe_slice (iSl K) (pv 4) (po_some (pe_op op_add (pv 2) pe_int)) po_none) pa_nil)))) pa_nil))))
          (pss_one (ps_set (i := 1) nd rfl (.inl rfl) (pe_op op_add (pv 1) (pe_ifExp (pt_cmpR op_eq (pe_op op_modX (pv 2) pe_int) pe_int (nomark _)) (pv 3) (pe_op op_sub pe_int (pv 3))))))) pss_nil)))
      (pss_one (ps_ret (pv 1))))), ?_⟩
    have k1000 : (1000 : Nat) < sizeLine := by decide
    have l := hR.len
    refine ⟨_, rfl, a, ys, rfl, .inl hA, rfl, false, congrArg V.bl (decide_eq_false (fun z => by have := V.int.inj z; omega)), iteF ?_⟩
    refine ⟨_, rfl, a, ys, rfl, .inl hA, ys.length, rfl, by omega, by omega, ?_⟩
    rw [← l, hM]
    obtain ⟨p0, hp0, e0⟩ := rows_get hR (i := 0) (by omega)
    have at0 : ∀ {H'}, Same H H' → SqL K H' a ys := fun s => s.seq hA
    let g : Nat → Int := fun j => sgn j * (row M 0 j * detF n fun i k => row M (i + 1) (skip j k))
    refine for_it (walk_rng (n := n + 1)) (fun i σ G => Same H G ∧ ∃ y2 y3 : Option V, σ = [some (.ref a), some (.int (sumN i g)), y2, y3, none]) ⟨.refl _, none, none, rfl⟩ (fun _ _ _ _ _ => trivial) (fun i x σ G1 G2 hi p y => ?_) (fun σ G p => ?_)
    · obtain ⟨sG, y2, y3, rfl⟩ := p
      obtain ⟨rfl, rfl⟩ := y
      rw [List.length_range] at hi
      refine ⟨_, rfl, a, _, 0, _, rfl, rfl, at0 sG, atI_nat (j := 0) hp0, _, rfl, p0, _, _, _, rfl, rfl, .inl (.inl (sG _ _ e0)), vI_at hi, rfl, _, rfl, ?_⟩
      by_cases z0 : row M 0 i = 0
      · refine itF (by simp [z0]) ⟨sG, some (V.int (i : Nat)), y3, ?_⟩
        have : sumN (i + 1) g = sumN i g := by
          show sumN i g + g i = _
          have : g i = 0 := by show sgn i * (row M 0 i * _) = 0; rw [z0]; simp
          omega
        rw [this]
        rfl
      · refine itT (by simp [z0]) ?_
        refine ⟨_, rfl, a, _, 0, _, rfl, rfl, at0 sG, atI_nat (j := 0) hp0, _, rfl, p0, _, _, _, rfl, rfl, .inl (.inl (sG _ _ e0)), vI_at hi, ?_⟩
        refine ⟨_, rfl, 1, rfl, a, ys, rfl, at0 sG, fun c nc => ?_⟩
        have cut : cutV ys (some 1) none = ys.drop 1 := cut_drop ys 1
        rw [cut]
        have sc := sG.trans (same_new (o := .lst (ys.drop 1)) nc)
        have rc := rows_same (hR.drop 1) sc
        refine ⟨c, rfl, ⟨_, .inl (.inl upd_same)⟩, fun D nD => ?_⟩
        have lc1 := rc.len
        refine lc_map (zs := M.drop 1) (by rw [lc1]; exact walk_list (xs := ys.drop 1)) (fun v y H => IsRow n H (fun k => v (skip i k)) y) (fun _ _ _ _ q s => q.same s) nD (by simp; omega) (fun _ s => s.seq (.inl (.inl upd_same))) (fun i' z x G3 G4 Qb hz s1 hacc y qb => ?_) (fun G3 ms s3 e3 r3 => ?_)
        · obtain ⟨rfl, hy⟩ := y
          obtain ⟨b, hb, p, rfl, hp⟩ := rc.get hz
          cases Option.some.inj (hy.symm.trans hb)
          obtain ⟨acc, hacc⟩ := hacc
          have hp1 := s1 _ _ hp
          have lv : ((vI (n + 1) z).take i).length = i := by rw [List.length_take, vI_len]; omega
          have ld : ((vI (n + 1) z).drop (i + 1)).length = n - i := by rw [List.length_drop, vI_len]; omega
          have c1 : cutV (vI (n + 1) z) none (some ((i : Nat) : Int)) = (vI (n + 1) z).take i := cut_take _ i
          have c2 : cutV (vI (n + 1) z) (some (((i : Nat) : Int) + 1)) none = (vI (n + 1) z).drop (i + 1) := cut_drop _ (i + 1)
          refine ⟨rfl, _, rfl, _, rfl, _, rfl, p, _, rfl, .inl (.inl hp1), fun d1 n1 => ?_⟩
          rw [c1]
          have t1 := same_new (o := .lst ((vI (n + 1) z).take i)) n1
          refine ⟨d1, _, rfl, .inl (.inl (.inl upd_same)), fun d2 n2 => ?_⟩
          have t2 := t1.trans (same_new (o := .lst ((vI (n + 1) z).take i)) n2)
          refine ⟨_, rfl, _, rfl, _, _, rfl, rfl, _, rfl, p, _, rfl, .inl (.inl (t2 _ _ hp1)), fun d3 n3 => ?_⟩
          rw [c2]
          have t3 := same_new (o := .lst ((vI (n + 1) z).drop (i + 1))) n3
          refine ⟨d3, _, rfl, .inl (.inl (.inl upd_same)), fun d4 n4 => ?_⟩
          have t4 := t3.trans (same_new (o := .lst ((vI (n + 1) z).drop (i + 1))) n4)
          refine ⟨d2, d4, _, _, rfl, rfl, t4 _ _ upd_same, upd_same, by rw [lv, ld]; omega, fun d5 n5 => ?_⟩
          have t5 := (t2.trans t4).trans (same_new (o := .lst ((vI (n + 1) z).take i ++ (vI (n + 1) z).drop (i + 1))) n5)
          have nD5 : d5 ≠ D := fun e => by
            have := (t2.trans t4) _ _ hacc
            rw [← e, n5] at this; cases this
          refine qb _ _ t5 ⟨d5, rfl, ?_⟩
          rw [hide_ne nD5, upd_same, vI_skip hi]
        · have r3 : Rows n G3 (minorL i M) ms := Rel2.mapL.2 (r3.imp fun _ _ q => q.same hide_sub)
          refine ⟨D, minorL i M, ms, rfl, .inl (.inl e3), r3, by unfold minorL; simp; omega, fun v hv j hj => ?_, fun G5 s5 => ?_⟩
          · unfold minorL at hv
            obtain ⟨u, hu, rfl⟩ := List.mem_map.1 hv
            exact en u (List.mem_of_mem_drop hu) _ (skip_lt hj)
          · have de : detF n (row (minorL i M)) = detF n fun i' k => row M (i' + 1) (skip i k) := detF_congr fun i' j hi' _ => by rw [minorL_row (by omega)]
            have dl : (detF n (row (minorL i M))).natAbs ≤ 2 ^ (23 * n) := by
              rw [de]
              exact Nat.le_trans (detF_le fun a b ha hb => en _ (row_mem (by omega)) _ (skip_lt hb)) (facB_bits 20 n (by omega))
            refine ⟨_, _, rfl, rfl, mul_fit (en _ (row_mem (by omega)) i hi) dl (by omega), ?_⟩
            rw [de]
            have sEnd := sc.trans (s3.trans s5)
            refine ⟨_, rfl, _, rfl, _, _, rfl, rfl, (show (2 : Int) ≠ 0 by decide), rfl, _, rfl, ?_⟩
            have fm : ((i : Nat) : Int).fmod 2 = ((i % 2 : Nat) : Int) := by
              rw [Int.fmod_eq_emod_of_nonneg _ (by decide)]; rfl
            have gi : g i = (if i % 2 = 0 then row M 0 i * detF n fun i' k => row M (i' + 1) (skip i k) else 0 - row M 0 i * detF n fun i' k => row M (i' + 1) (skip i k)) := by
              show sgn i * _ = _
              unfold sgn
              split <;> omega
            have step : sumN (i + 1) g = sumN i g + g i := rfl
            by_cases z2 : i % 2 = 0
            · refine itT (decide_eq_true (show V.int (((i : Nat) : Int).fmod 2) = V.int 0 by rw [fm, z2]; rfl)) ⟨_, rfl, _, _, rfl, rfl, sEnd, some (V.int (i : Nat)), some (V.int (row M 0 i * detF n fun i' k => row M (i' + 1) (skip i k))), ?_⟩
              rw [step, gi, if_pos z2]; rfl
            · refine itF (decide_eq_false (fun z : V.int (((i : Nat) : Int).fmod 2) = V.int 0 => z2 (by rw [fm] at z; have := V.int.inj z; omega))) ⟨_, rfl, _, _, rfl, rfl, _, _, rfl, rfl, sEnd, some (V.int (i : Nat)), some (V.int (row M 0 i * detF n fun i' k => row M (i' + 1) (skip i k))), ?_⟩
              rw [step, gi, if_neg z2]; rfl
    · obtain ⟨sG, y2, y3, rfl⟩ := p
      rw [List.length_range]
      exact ⟨_, rfl, q _ sG⟩
end
end K17
end
section
set_option Elab.async false
set_option linter.all false
set_option maxRecDepth 100000
namespace K17
open PySem PySem.Spec PyProof.Rows L2
/-! _law_form -/
inductive LzOk (w c : Nat) : List Vec → Prop
  | done {l : List Vec} (h : ¬ 1 < (nzs c l).length) : LzOk w c l
  | more {l : List Vec} (h : 1 < (nzs c l).length) (d : DivFit (row l (lzP c l) c)) (m : ∀ v ∈ l, ∀ i, i < w → MulFit ((v c).fdiv (row l (lzP c l) c)) (row l (lzP c l) i)) (t : LzOk w c (lzStep c l)) : LzOk w c l
def LawOk (w : Nat) (rows : List Vec) : Prop := ∀ c, c < w → LzOk w c (lzUp rows c).1 ∧
  (nzs c (lzRun c (lzUp rows c).1) ≠ [] → HeadOk w c (signed c (row (nzs c (lzRun c (lzUp rows c).1)) 0)) (lzUp rows c).2)
theorem lzOk_of {w c D b : Nat} (hc : c < w) (hb : b < 9000) (hD : D ≤ 1000000) {l : List Vec} (h : LzB w c (2 ^ D) (2 ^ b) l) : LzOk w c l := by
  induction h with
  | done h => exact .done h
  | @more l h e _ ih =>
    have hne : nzs c l ≠ [] := by intro z; rw [z] at h; simp at h
    obtain ⟨hm, _⟩ := lz_head hne
    obtain ⟨h1, h2⟩ := nzs_ne _ hm
    have e1 := e _ h1
    exact .more h (div_fit h2 e1.2 hb) (fun v hv i hi => mul_fit (Nat.le_trans (fdiv_le h2) ((e v hv).1 c hc)) (e1.1 i hi) (by omega)) ih
theorem lawOk_of {w : Nat} {rows : List Vec} {b : Nat} (w4 : w ≤ 4) (ent : ∀ v ∈ rows, EntB w (2 ^ b) v) (k : kz rows.length b < 9000) : LawOk w rows := fun c hc => by
  obtain ⟨b', f, e1, k1, e2, hf⟩ := law_bits ent k c (Nat.le_of_lt hc)
  obtain ⟨lz, h2, h3, _⟩ := lzcol_bits hc e1 k1 []
  have bk := kz_ge (lzUp rows c).1.length b'
  refine ⟨lzOk_of hc (by omega) (by omega) lz, fun hne => ?_⟩
  rcases lz_cases c (lzUp rows c).1 with e | ⟨v, e, hv, hm⟩
  · exact absurd e hne
  · rw [e]
    show HeadOk w c (signed c v) _
    have ne : signed c v c ≠ 0 := by have := signed_pos hv; omega
    exact ⟨div_fit ne (by rw [signed_at]; exact h3 v (by rw [e]; simp)) (b := b') (by omega), fun u hu i hi => mul_fit (Nat.le_trans (fdiv_le ne) (e2 u hu c hc)) (signed_ent (h2 v hm) i hi) (by omega)⟩
theorem filt_first (p : Vec → Bool) : ∀ l : List Vec, l.findIdx p < l.length → (l.filter p)[0]? = some (row l (l.findIdx p))
  | [], h => by simp at h
  | v :: l, h => by
    rw [List.findIdx_cons] at h ⊢
    by_cases q : p v = true
    · rw [List.filter_cons, if_pos q]
      simp only [q, cond_true]
      rfl
    · have q' : p v = false := by simpa using q
      rw [List.filter_cons, if_neg q]
      simp only [q', cond_false] at h ⊢
      rw [row_succ]
      exact filt_first p l (by simpa using h)
/-- the law's step, its first i rows done -/
def lzPart (c P i : Nat) (l : List Vec) : List Vec := l.mapIdx fun k v => if k < i ∧ k ≠ P then stepV c (row l P) v else v
theorem lzPart_len {c P i : Nat} {l : List Vec} : (lzPart c P i l).length = l.length := by simp [lzPart]
theorem lzPart_zero {c P : Nat} {l : List Vec} : lzPart c P 0 l = l := by
  unfold lzPart
  apply List.ext_getElem?
  intro i
  rw [List.getElem?_mapIdx]
  cases l[i]? <;> simp
theorem lzPart_all {c : Nat} {l : List Vec} : lzPart c (lzP c l) l.length l = lzStep c l := by
  unfold lzPart lzStep
  apply List.ext_getElem?
  intro i
  rw [List.getElem?_mapIdx, List.getElem?_mapIdx]
  by_cases hi : i < l.length
  · rw [List.getElem?_eq_getElem hi]
    simp only [Option.map_some]
    by_cases q : i = lzP c l
    · rw [if_neg (by omega), if_pos q]
    · rw [if_pos ⟨hi, q⟩, if_neg q]
  · rw [List.getElem?_eq_none (by omega)]; rfl
theorem lzPart_get {c P i j : Nat} {l : List Vec} (hi : i < l.length) (h : j ≤ i) : (lzPart c P j l)[i]? = some (row l i) := by
  unfold lzPart
  rw [List.getElem?_mapIdx, List.getElem?_eq_getElem hi]
  simp only [Option.map_some]
  rw [if_neg (by omega)]
  unfold row
  rw [List.getD_eq_getElem?_getD, List.getElem?_eq_getElem hi]; rfl
theorem lzPart_skip {c P : Nat} {l : List Vec} : lzPart c P (P + 1) l = lzPart c P P l := by
  unfold lzPart
  apply List.ext_getElem?
  intro i
  rw [List.getElem?_mapIdx, List.getElem?_mapIdx]
  congr 1
  funext v
  by_cases q : i < P + 1 ∧ i ≠ P
  · rw [if_pos q, if_pos ⟨by omega, q.2⟩]
  · rw [if_neg q, if_neg (by omega)]
theorem lzPart_step {c P i : Nat} {l : List Vec} (hi : i < l.length) (ne : i ≠ P) : lzPart c P (i + 1) l = (lzPart c P i l).set i (stepV c (row l P) (row l i)) := by
  apply List.ext_getElem?
  intro k
  rw [List.getElem?_set, lzPart_len]
  unfold lzPart
  rw [List.getElem?_mapIdx, List.getElem?_mapIdx]
  by_cases q : i = k
  · subst q
    rw [if_pos rfl, if_pos hi, List.getElem?_eq_getElem hi]
    simp only [Option.map_some]
    rw [if_pos ⟨by omega, ne⟩]
    have : row l i = l[i] := by
      unfold row
      rw [List.getD_eq_getElem?_getD, List.getElem?_eq_getElem hi]; rfl
    rw [this]
  · rw [if_neg q]
    congr 1
    funext v
    by_cases z : k < i + 1 ∧ k ≠ P
    · rw [if_pos z, if_pos ⟨by omega, z.2⟩]
    · rw [if_neg z, if_neg (by omega)]
theorem Rel2.set {α β : Type} {R : α → β → Prop} {as : List α} {bs : List β} (h : Rel2 R as bs) {a : α} {b : β} (r : R a b) : ∀ i, Rel2 R (as.set i a) (bs.set i b) := by
  induction h with
  | nil => intro i; exact .nil
  | cons r' t ih =>
    intro i
    cases i with
    | zero => exact .cons r t
    | succ i => exact .cons r' (ih i)
/-! equality of rows -/
theorem eqv_rowD {n : Nat} {u v : Nat → Int} (h : PyData.eqv (rowD n u) (rowD n v) = true) : ∀ j, j < n → u j = v j := by
  have all : ∀ (l : List Nat), PyData.eqvAll (l.map fun i => PyData.int (u i)) (l.map fun i => PyData.int (v i)) = true → ∀ j ∈ l, u j = v j := by
    intro l
    induction l with
    | nil => intro _ j hj; simp at hj
    | cons a l ih =>
      intro h j hj
      simp only [List.map_cons, PyData.eqvAll, Bool.and_eq_true, PyData.eqv] at h
      rcases List.mem_cons.1 hj with rfl | hj
      · simpa using h.1
      · exact ih h.2 j hj
  intro j hj
  unfold rowD at h
  rw [PyData.eqv] at h
  exact all _ h j (by simpa using hj)
theorem eqv_rowD_refl {n : Nat} {u : Nat → Int} : PyData.eqv (rowD n u) (rowD n u) = true := by
  unfold rowD
  rw [PyData.eqv]
  generalize List.range n = l
  induction l with
  | nil => rfl
  | cons a l ih => simp only [List.map_cons, PyData.eqvAll, Bool.and_eq_true, PyData.eqv]; exact ⟨by simp, ih⟩
theorem dp_rowsD {K : PySem.W.Frag} {w : Nat} {H : Hp} {vs : List (Nat → Int)} {ys : List V} (h : Rel2 (IsRow w H) vs ys) : DpAll K H ys (vs.map (rowD w)) ∧ PyData.canLayAll0 (vs.map (rowD w)) = true ∧ PyData.depthAll (vs.map (rowD w)) ≤ 1 := by
  induction h with
  | nil => exact ⟨.nil, rfl, Nat.zero_le _⟩
  | @cons v y vs ys r t ih =>
    obtain ⟨h1, h2, h3⟩ := ih
    obtain ⟨a, rfl, q⟩ := r
    obtain ⟨c1, c2⟩ := canAll_ints (List.range w) v
    have d1 : PyData.canLay0 (rowD w v) = true := by simp only [rowD, PyData.canLay0, c1]
    have d2 : PyData.depth (rowD w v) ≤ 1 := by simp only [rowD, PyData.depth, c2]; omega
    exact ⟨.cons (.lst (.inl (.inl q)) (dp_ints _ _)) h1, by simp only [List.map_cons, PyData.canLayAll0, d1, h2, Bool.and_self], by simp only [List.map_cons, PyData.depthAll]; omega⟩
theorem rowD_shaped {w : Nat} {v : Nat → Int} : SeqAt.shaped (rowD w v) = true := by
  obtain ⟨c1, c2⟩ := canAll_ints (List.range w) v
  unfold SeqAt.shaped rowD
  rw [Bool.and_eq_true]
  exact ⟨by simp only [PyData.canLay0, c1], decide_eq_true (by simp only [PyData.depth, c2]; omega)⟩
theorem rowsD_shaped {ds : List PyData} (h1 : PyData.canLayAll0 ds = true) (h2 : PyData.depthAll ds ≤ 1) : SeqAt.shaped (.list ds) = true := by
  unfold SeqAt.shaped
  rw [Bool.and_eq_true]
  exact ⟨by simp only [PyData.canLay0, h1], decide_eq_true (by simp only [PyData.depth]; omega)⟩
theorem iIdxD {X : Cx} (K : PySem.W.Frag) (hu : X.A.units + 65 < cLine) (h : X.K = K := by rfl) : MtR X "list.index" (rIndexD K) := by subst h; exact mt_indexD hu
end K17
end
section
set_option Elab.async false
set_option linter.all false
set_option maxRecDepth 100000
namespace K17
open PySem PySem.Spec PyProof.Rows L2
section
variable {P : Program} {w : World} {K : PySem.W.Frag} {mg : Str → Option Value} {base : Heap}
abbrev nLw : List Str := ["_law_rows_here", "_law_left", "_law_found", "_law_wide", "_law_column", "_law_least", "_law_head", "_law_place", "_law_at", "_law_heads", "_law_line", "_law_entry"]
theorem scLw : FnScope nLw ["_law_rows_here"] (defScope (topS 44)) := ⟨rfl, rfl, rfl, by decide +kernel, rfl, by decide +kernel, by decide +kernel⟩
def spLw (K : PySem.W.Frag) : L2.Sp := fun vs H Q _ => ∃ (n : Nat) (a : Addr) (rows : List Vec) (ys : List V), vs = [.ref a] ∧ SqT K H a ys ∧ RowsE K n H rows ys ∧ rows.length ≤ 8 ∧ n ≤ 8 ∧ LawOk n rows ∧
  ∀ H' p zs, Same H H' → H' p = some (.lst zs) → Rows n H' (lawF n rows) zs → Q (.ref p) H'
theorem lzUp_nil : ∀ c, lzUp [] c = ([], [])
  | 0 => rfl
  | c + 1 => by
    show lzCol c (lzUp [] c) = _
    rw [lzUp_nil c]
    unfold lzCol
    rw [lzRun_done (by simp [nzs])]
    rfl
theorem room65 {k : Nat} {A : Around} (r : Room k A) : A.units + 65 < cLine := by have := r.un; omega
theorem lzUp_length (rows : List Vec) : ∀ c, (lzUp rows c).1.length + (lzUp rows c).2.length ≤ rows.length
  | 0 => by simp [lzUp]
  | c + 1 => by
    have ih := lzUp_length rows c
    show (lzCol c (lzUp rows c)).1.length + (lzCol c (lzUp rows c)).2.length ≤ _
    have l := lzRun_length c (lzUp rows c).1
    unfold lzCol
    rcases lz_cases c (lzUp rows c).1 with e | ⟨v, e, hv, hm⟩
    · rw [if_pos e]; show (lzRun c (lzUp rows c).1).length + (lzUp rows c).2.length ≤ _; omega
    · rw [if_neg (by rw [e]; simp)]
      show ((lzRun c (lzUp rows c).1).filter fun v => v c = 0).length + (colFound c _ _).length ≤ _
      have t := filt_two (c := c) (lzRun c (lzUp rows c).1)
      have l1 : ((lzRun c (lzUp rows c).1).filter fun v => v c ≠ 0).length = 1 := by
        show (nzs c (lzRun c (lzUp rows c).1)).length = 1
        rw [e]; rfl
      unfold colFound
      rw [List.length_append, List.length_map]
      simp
      omega
theorem filt_nz {w : Nat} {c : Nat} {l : List Vec} : (l.filter fun v => decide (v c ≠ 0)) = nzs c l := rfl
set_option maxHeartbeats 8000000 in
theorem ok_lw {f : Addr} {fd : FuncData} {k : Nat} (F : Fun K "_law_form" "_law_form" (topS 44) f fd) (C : Cal P w K mg base k "_law_less" ["_law_line", "_law_other", "_law_factor"] (spLess K))
    (mr : mg "range" = none) (ml : mg "len" = none) (mm : mg "min" = none) (mli : mg "list" = none) (mab : mg "abs" = none) : FnOk P w K mg base CX0 (k + 1) f fd ["_law_rows_here"] (spLw K) := by
  obtain ⟨f1, fd1, G1, g1, k1, b1⟩ := C
  refine F.ok scLw (fun vs H Q E h => ?_) (fun cdv A outer s H vs Q E hr h => ?_)
  · obtain ⟨_, _, _, _, rfl, _⟩ := h
    rfl
  · obtain ⟨n, a, rows, ys, rfl, hA, hR, hn, hw, hok, q⟩ := h
    have nd := scLw.nd
    refine ⟨_, pss_cons (ps_par3 (i := 1) (j := 2) (l := 3) rfl nd rfl rfl rfl (by decide) (by decide) (by decide) rfl rfl rfl (pa_cons (pe_lc (own := [("_law_line", 10)]) (g := gName 10) (tt := tYes) rfl nd (pi_tup (pv 0)) (blkOk_by (N := nLw) (sc := defScope (topS 44)) (by decide +kernel))
          (fun _ _ _ _ _ => pg_name (i := 10) nd rfl (Or.inl rfl)) (fun _ _ _ _ _ => pts_nil) (fun _ _ _ _ _ => pe_callTy (cLst K) (by rfl) mli PyProof.Rows.boot_list (pa_cons (pv 10) pa_nil))) (pa_cons (pe_lst pa_nil)
          (pa_cons (pe_ifExp (pt_cmpR op_gt (pe_callB (cLen K) (by rfl) ml PySem.boot_len (pa_cons (pv 0) pa_nil)) pe_int (nomark _)) (pe_callB (cLen K) (by rfl) ml PySem.boot_len (pa_cons (pe_ix (iT K) (pv 0) pe_int (fun _ _ => rfl)) pa_nil)) pe_int) pa_nil))) rfl)
      (pss_cons (ps_for PassesOwn.never rfl (pi_range1 (by rfl) mr (pa_cons (pv 3) pa_nil)) (pg_name (i := 4) nd rfl (.inr rfl))
        (pss_cons (ps_while PassesOwn.never (pt_cmpR op_gt (pe_callB (cLen K) (by rfl) ml PySem.boot_len (pa_cons (pe_lc (own := [("_law_line", 10)]) (g := gName 10) rfl nd (pi_list (pv 1)) (blkOk_by (N := nLw) (sc := defScope (topS 44)) (by decide +kernel))
            (fun _ _ _ _ _ => pg_name (i := 10) nd rfl (Or.inl rfl)) (fun _ _ _ _ _ => pts_one (pt_cmpR op_ne (pe_ix (iL K) (pv 10) (pv 4) (fun _ _ => rfl)) pe_int (nomark _))) (fun _ _ _ _ _ => pv 10)) pa_nil)) pe_int (nomark _))
          (pss_cons (ps_set (i := 5) nd rfl (.inr rfl) (pe_callB (cr_min rfl) (by rfl) mm PyProof.Rows.boot_min (pa_cons (pe_lc (own := [("_law_line", 10)]) (g := gName 10) rfl nd (pi_list (pv 1)) (blkOk_by (N := nLw) (sc := defScope (topS 44)) (by decide +kernel))
            (fun _ _ _ _ _ => pg_name (i := 10) nd rfl (Or.inl rfl)) (fun _ _ _ _ _ => pts_one (pt_cmpR op_ne (pe_ix (iL K) (pv 10) (pv 4) (fun _ _ => rfl)) pe_int (nomark _))) (fun _ _ _ _ _ => pe_callB call_abs (by rfl) mab PyProof.Rows.boot_abs (pa_cons (pe_ix (iL K) (pv 10) (pv 4) (fun _ _ => rfl)) pa_nil))) pa_nil)))
          (pss_cons (ps_set (i := 6) nd rfl (.inr rfl) (pe_ix (iL K) (pe_lc (own := [("_law_line", 10)]) (g := gName 10) rfl nd (pi_list (pv 1)) (blkOk_by (N := nLw) (sc := defScope (topS 44)) (by decide +kernel))
            (fun _ _ _ _ _ => pg_name (i := 10) nd rfl (Or.inl rfl)) (fun _ _ _ _ _ => pts_one (pt_cmpR op_eq (pe_callB call_abs (by rfl) mab PyProof.Rows.boot_abs (pa_cons (pe_ix (iL K) (pv 10) (pv 4) (fun _ _ => rfl)) pa_nil)) (pv 5) (nomark _))) (fun _ _ _ _ _ => pv 10)) pe_int (fun _ _ => rfl)))
          (pss_cons (ps_set (i := 7) nd rfl (.inl rfl) (pe_bm PySem.F.plainAttrs_list PySem.F.slot_list_index PySem.F.type_list_index (iIdxD K (room65 hr)) (pv 1) (pa_cons (pv 6) pa_nil)))
          (pss_one (ps_for PassesOwn.never rfl (pi_range1 (by rfl) mr (pa_cons (pe_callB (cLen K) (by rfl) ml PySem.boot_len (pa_cons (pv 1) pa_nil)) pa_nil)) (pg_name (i := 8) nd rfl (.inl rfl))
            (pss_one (ps_if (pt_cmpR op_ne (pv 8) (pv 7) (nomark _)) (pss_one (ps_asg (pe_call G1 hr (by rfl) g1 k1 b1 .nil pass0 (pa_cons (pe_ix (iL K) (pv 1) (pv 8) (fun _ _ => rfl)) (pa_cons (pv 6) (pa_cons (pe_op op_fdivX (pe_ix (iL K) (pe_ix (iL K) (pv 1) (pv 8) (fun _ _ => rfl)) (pv 4) (fun _ _ => rfl)) (pe_ix (iL K) (pv 6) (pv 4) (fun _ _ => rfl))) pa_nil))))
              (pg_sub (pv 1) (pv 8) set_list))) pss_nil))))))))
        (pss_cons (ps_setLc (i := 9) (own := [("_law_line", 10)]) (g := gName 10) rfl nd rfl rfl (sw_true rfl rfl rfl (by decide +kernel)) (pi_list (pv 1)) (blkOk_by (N := nLw) (sc := defScope (topS 44)) (by decide +kernel))
          (fun _ _ _ _ _ => pg_name (i := 10) nd rfl (Or.inl rfl)) (fun _ _ _ _ _ => pts_one (pt_cmpR op_ne (pe_ix (iL K) (pv 10) (pv 4) (fun _ _ => rfl)) pe_int (nomark _))) (fun _ _ _ _ _ => pv 10))
        (pss_one (ps_if (pt_cmpR (op_neD hr.units) (pv 9) (pe_lst pa_nil) (nomark _))
          (pss_cons (ps_set (i := 6) nd rfl (.inr rfl) (pe_ifExp (pt_cmpR op_gt (pe_ix (iL K) (pe_ix (iL K) (pv 9) pe_int (fun _ _ => rfl)) (pv 4) (fun _ _ => rfl)) pe_int (nomark _)) (pe_ix (iL K) (pv 9) pe_int (fun _ _ => rfl))
            (pe_lc (own := [("_law_entry", 11)]) (g := gName 11) (tt := tYes) rfl nd (pi_list (pe_ix (iL K) (pv 9) pe_int (fun _ _ => rfl))) (blkOk_by (N := nLw) (sc := defScope (topS 44)) (by decide +kernel))
              (fun _ _ _ _ _ => pg_name (i := 11) nd rfl (Or.inl rfl)) (fun _ _ _ _ _ => pts_nil) (fun _ _ _ _ _ => pe_op op_sub pe_int (pv 11)))))
          (pss_cons (ps_setLc (i := 1) (own := [("_law_line", 10)]) (g := gName 10) rfl nd rfl rfl (sw_true rfl rfl rfl (by decide +kernel)) (pi_list (pv 1)) (blkOk_by (N := nLw) (sc := defScope (topS 44)) (by decide +kernel))
            (fun _ _ _ _ _ => pg_name (i := 10) nd rfl (Or.inl rfl)) (fun _ _ _ _ _ => pts_one (pt_cmpR op_eq (pe_ix (iL K) (pv 10) (pv 4) (fun _ _ => rfl)) pe_int (nomark _))) (fun _ _ _ _ _ => pv 10))
          (pss_one (ps_set (i := 2) nd rfl (.inl rfl) (pe_op op_cat (pe_lc (own := [("_law_line", 10)]) (g := gName 10) (tt := tYes) rfl nd (pi_list (pv 2)) (blkOk_by (N := nLw) (sc := defScope (topS 44)) (by decide +kernel))
            (fun _ _ _ _ _ => pg_name (i := 10) nd rfl (Or.inl rfl)) (fun _ _ _ _ _ => pts_nil) (fun _ _ _ _ _ => pe_call G1 hr (by rfl) g1 k1 b1 .nil pass0 (pa_cons (pv 10) (pa_cons (pv 6) (pa_cons (pe_op op_fdivX (pe_ix (iL K) (pv 10) (pv 4) (fun _ _ => rfl)) (pe_ix (iL K) (pv 6) (pv 4) (fun _ _ => rfl))) pa_nil)))))
            (pe_lst (pa_cons (pv 6) pa_nil))))))) pss_nil)))))
      (pss_one (ps_ret (pv 2)))), ?_⟩
    have k1000 : (1000 : Nat) < sizeLine := by decide
    -- left, found, wide
    refine ⟨_, rfl, a, rfl, ⟨_, hA⟩, fun D hD => ?_⟩
    refine lc_map (zs := rows) (by rw [hR.len]; exact walk_tup (xs := ys)) (fun r y H => IsRow n H r y) (fun _ _ _ _ q s => q.same s) hD (by omega) (fun _ s => same_seqT s hA) (fun i z x H1 H2 Qb hz s1 hacc y qb => ?_) (fun H1 ls s1 e1 r1 => ?_)
    · obtain ⟨rfl, hy⟩ := y
      obtain ⟨b, hb, c, rfl, hc⟩ := hR.get hz
      cases Option.some.inj (hy.symm.trans hb)
      obtain ⟨acc, hacc⟩ := hacc
      refine ⟨rfl, _, rfl, c, _, rfl, hc.imp (fun hc => s1.seq hc) (fun hc => same_seqT s1 hc), fun l hl => ?_⟩
      have nD : l ≠ D := fun e => by rw [e, hacc] at hl; cases hl
      refine qb _ _ (same_new hl) ⟨l, rfl, ?_⟩
      rw [hide_ne nD, upd_same]
    have hD : H D = none := hD
    refine ⟨Nat.zero_le _, fun o no => ?_⟩
    have no1 : H o = none := s1.free no
    have s2 : Same H (upd H1 o (.lst [])) := s1.trans (same_new no)
    have hDo : D ≠ o := ne_of_none e1 no
    have oD : o ≠ D := hDo.symm
    have eD : upd H1 o (.lst []) D = some (.lst ls) := by rw [upd_ne hDo]; exact e1
    have rD : Rows n (hide D (upd H1 o (.lst []))) rows ls := r1.imp fun _ _ q => q.same (same_hide (same_new no))
    have eo : upd H1 o (.lst []) o = some (.lst []) := upd_same
    generalize upd H1 o (.lst []) = H3 at s2 eD rD eo
    have hlen := hR.len
    refine ⟨_, rfl, a, _, rfl, .inr (same_seqT s2 hA), _, _, rfl, rfl, _, rfl, ?_⟩
    by_cases hz : rows.length = 0
    · refine itF (decide_eq_false (by omega)) ⟨_, _, _, rfl, _, rfl, 0, rfl, by decide, by decide, ?_⟩
      refine for_it (walk_rng (n := 0)) (fun i σ H' => H' = H3 ∧ ∃ y4 y5 y6 y7 y8 y9 : Option V, σ = [some (.ref a), some (.ref D), some (.ref o), some (.int 0), y4, y5, y6, y7, y8, y9, none, none]) ⟨rfl, _, _, _, _, _, _, rfl⟩ (fun _ _ _ _ _ => trivial) (fun i x σ H4 H5 hi => absurd hi (by simp)) (fun σ H' p => ?_)
      obtain ⟨rfl, y4, y5, y6, y7, y8, y9, rfl⟩ := p
      refine ⟨_, rfl, q _ o _ s2 eo ?_⟩
      have : rows = [] := List.length_eq_zero_iff.1 hz
      subst this
      unfold lawF; rw [lzUp_nil]; exact .nil
    · refine itT (decide_eq_true (by omega)) ?_
      obtain ⟨y0, hy0, a0, rfl, hq0⟩ := hR.get (i := 0) (List.getElem?_eq_getElem (by omega))
      refine ⟨_, rfl, a, _, 0, _, rfl, rfl, same_seqT s2 hA, atI_nat (j := 0) hy0, a0, _, rfl, hq0.imp (fun h => s2.seq h) (fun h => same_seqT s2 h), _, _, _, rfl, _, rfl, _, rfl, by rw [vI_len]; omega, by rw [vI_len]; omega, ?_⟩
      rw [vI_len]
      refine for_it (walk_rng (n := n)) (fun c σ H' => ∃ (pl pf : Addr) (lv fv : List V) (y4 y5 y6 y7 y8 y9 : Option V), σ = [some (.ref a), some (.ref pl), some (.ref pf), some (.int (n : Nat)), y4, y5, y6, y7, y8, y9, none, none] ∧
        H pl = none ∧ Same H (hide pl H') ∧ H' pl = some (.lst lv) ∧ Rows n (hide pl H') (lzUp rows c).1 lv ∧ hide pl H' pf = some (.lst fv) ∧ Rows n (hide pl H') (lzUp rows c).2 fv)
        ⟨D, o, ls, [], _, _, _, _, _, _, rfl, hD, same_to_hide s2 hD, eD, rD, by rw [hide_ne oD]; exact eo, .nil⟩ (fun _ _ _ _ _ => trivial) (fun c x σ H4 H5 hc p y => ?_) (fun σ H' p => ?_)
      · obtain ⟨pl, pf, lv, fv, y4, y5, y6, y7, y8, y9, rfl, npl, sH, el, rl, ef, rf⟩ := p
        obtain ⟨rfl, rfl⟩ := y
        rw [List.length_range] at hc
        obtain ⟨hev, hhd⟩ := hok c hc
        have hlen2 := lzUp_length rows c
        have hnext : (lzUp rows (c + 1)) = lzCol c (lzUp rows c) := rfl
        rw [hnext]
        obtain ⟨left, hL⟩ : ∃ left, left = (lzUp rows c).1 := ⟨_, rfl⟩
        obtain ⟨found, hF⟩ : ∃ found, found = (lzUp rows c).2 := ⟨_, rfl⟩
        have hLF : lzUp rows c = (left, found) := by rw [hL, hF]
        rw [← hL] at hev rl hlen2 hhd
        rw [← hF] at hhd rf hlen2
        rw [hLF]
        -- while
        refine ⟨fun mu σ H' => ∃ (lv : List V) (l : List Vec) (z5 z6 z7 z8 z9 : Option V), σ = [some (.ref a), some (.ref pl), some (.ref pf), some (.int (n : Nat)), some (.int (c : Nat)), z5, z6, z7, z8, z9, none, none] ∧ mu = sumA (absAt c) l ∧
          Same (hide pl H5) (hide pl H') ∧ H' pl = some (.lst lv) ∧ Rows n (hide pl H') l lv ∧ LzOk n c l ∧ lzRun c l = lzRun c left ∧ l.length = left.length,
          ⟨_, lv, left, _, _, _, _, _, rfl, rfl, .refl _, el, rl, hev, rfl, rfl⟩, fun mu σ H' hW => ?_⟩
        obtain ⟨lv', l, z5, z6, z7, z8, z9, rfl, rfl, s3, el', rl', hLz, hrun, hll⟩ := hW
        have hlv := rl'.len
        -- a row at its place
        have cmp : ∀ (G : Hp), Same H' G → ∀ (z : Vec) (i : Nat), l[i]? = some z → ∃ p, lv'[i]? = some (.ref p) ∧ p ≠ pl ∧ G p = some (.lst (vI n z)) := fun G s z i hz => by
          obtain ⟨b, hb, p, rfl, hp⟩ := rl'.get hz
          exact ⟨p, hb, (hide_some hp).1, s _ _ (hide_some hp).2⟩
        refine ⟨_, rfl, pl, rfl, ⟨_, .inl (.inl el')⟩, fun D1 nD1 => ?_⟩
        refine lc_flt (zs := l) (by rw [hlv]; exact walk_list (xs := lv')) (fun v => decide (v c ≠ 0)) (fun v y H => True) (fun _ _ _ _ _ _ => trivial) nD1 (by omega) (fun _ s => s.seq (.inl (.inl el'))) (fun i z x G1 G2 Qb Qn hz s1 hacc y qb qn => ?_) (fun G1 hv s1 e1 r1 => ?_)
        · obtain ⟨rfl, hy⟩ := y
          obtain ⟨p, hb, _, hp⟩ := cmp _ s1 z i hz
          cases Option.some.inj (hy.symm.trans hb)
          refine ⟨rfl, _, rfl, _, rfl, p, _, _, _, rfl, rfl, .inl (.inl hp), vI_at hc, rfl, _, rfl, ?_⟩
          by_cases e : z c = 0
          · exact itF (by simp [e]) (qn _ (by simp [e]) (Same.refl _))
          · exact itT (by simp [e]) ⟨_, rfl, qb _ _ (by simp [e]) (Same.refl _) trivial⟩
        have lnz : hv.length = (nzs c l).length := r1.len.symm
        have elG := s1 _ _ el'
        refine ⟨D1, _, rfl, .inl (.inl (.inl e1)), _, _, rfl, rfl, _, rfl, ?_⟩
        rw [lnz]
        by_cases h1 : 1 < (nzs c l).length
        · refine itT (decide_eq_true (by omega)) ?_
          cases hLz with
          | done h => exact absurd h1 h
          | more _ hdv hml hLz =>
          have hne : nzs c l ≠ [] := by intro z; rw [z] at h1; simp at h1
          obtain ⟨lt, hmin, mn0, least, before⟩ := lz_spec hne
          have hl8 : l.length ≤ 8 := by omega
          refine ⟨fun σ' G => ∃ (lv2 : List V) (z5 z6 z7 z8 z9 : Option V), σ' = [some (.ref a), some (.ref pl), some (.ref pf), some (.int (n : Nat)), some (.int (c : Nat)), z5, z6, z7, z8, z9, none, none] ∧
            Same (hide pl H5) (hide pl G) ∧ G pl = some (.lst lv2) ∧ Rows n (hide pl G) (lzStep c l) lv2, fun σ' G hN => ?_, ?_⟩
          · obtain ⟨lv2, z5, z6, z7, z8, z9, rfl, n1, n2, n3⟩ := hN
            exact ⟨_, lz_less h1, lv2, lzStep c l, _, _, _, _, _, rfl, rfl, n1, n2, n3, hLz, by rw [← hrun, ← lzRun_more h1], by rw [lzStep_len]; exact hll⟩
          -- least
          refine ⟨_, rfl, pl, rfl, ⟨_, .inl (.inl elG)⟩, fun D2 nD2 => ?_⟩
          refine lc_flt (zs := l) (by rw [hlv]; exact walk_list (xs := lv')) (fun v => decide (v c ≠ 0)) (fun v y _ => y = V.int ((absAt c v : Nat) : Int)) (fun _ _ _ _ q _ => q) nD2 (by omega) (fun _ s => s.seq (.inl (.inl elG))) (fun i z x G3 G4 Qb Qn hz s2 hacc y qb qn => ?_) (fun G2 as2 s2 e2 r2 => ?_)
          · obtain ⟨rfl, hy⟩ := y
            obtain ⟨p, hb, _, hp⟩ := cmp _ (s1.trans s2) z i hz
            cases Option.some.inj (hy.symm.trans hb)
            refine ⟨rfl, _, rfl, _, rfl, p, _, _, _, rfl, rfl, .inl (.inl hp), vI_at hc, rfl, _, rfl, ?_⟩
            by_cases e : z c = 0
            · exact itF (by simp [e]) (qn _ (by simp [e]) (Same.refl _))
            · refine itT (by simp [e]) ⟨_, rfl, _, rfl, p, _, _, _, rfl, rfl, .inl (.inl hp), vI_at hc, _, rfl, qb _ _ (by simp [e]) (Same.refl _) ?_⟩
              unfold absAt
              congr 1
              split <;> omega
          have as2e := Rel2.eq_map r2
          have s12 := s1.trans s2
          refine ⟨D2, (nzs c l).map fun v => ((absAt c v : Nat) : Int), rfl, .inl (.inl (by rw [e2, as2e, List.map_map]; rfl)), by rw [List.length_map]; omega, fun mn hmn hle => ?_⟩
          have hmn : mn = ((lzMin c l : Nat) : Int) := amin_val hne hmn hle
          subst hmn
          -- head
          have el2 := s12 _ _ el'
          refine ⟨_, rfl, pl, rfl, ⟨_, .inl (.inl el2)⟩, fun D3 nD3 => ?_⟩
          refine lc_flt (zs := l) (by rw [hlv]; exact walk_list (xs := lv')) (fun v => decide (absAt c v = lzMin c l)) (fun v y H => IsRow n (hide pl H) v y) (fun _ _ _ _ q s => q.same (same_hide s)) nD3 (by omega) (fun _ s => s.seq (.inl (.inl el2))) (fun i z x G4 G5 Qb Qn hz s4 hacc y qb qn => ?_) (fun G3 ys3 s4 e3 r3 => ?_)
          · obtain ⟨rfl, hy⟩ := y
            obtain ⟨p, hb, npp, hp⟩ := cmp _ (s12.trans s4) z i hz
            cases Option.some.inj (hy.symm.trans hb)
            obtain ⟨acc, hacc⟩ := hacc
            have npD : p ≠ D3 := ne_of_none (s12 _ _ (hide_sub _ _ (show hide pl H' p = some _ from by rw [hide_ne npp]; exact (by obtain ⟨b', hb', p', e', hp'⟩ := rl'.get hz; rw [hb] at hb'; cases hb'; cases e'; exact (hide_some hp').2)))) nD3
            refine ⟨rfl, _, rfl, _, rfl, p, _, _, _, rfl, rfl, .inl (.inl hp), vI_at hc, _, rfl, _, rfl, rfl, _, rfl, ?_⟩
            have ab : (if z c < 0 then - z c else z c) = ((absAt c z : Nat) : Int) := by unfold absAt; split <;> omega
            rw [ab]
            by_cases e : absAt c z = lzMin c l
            · refine itT (decide_eq_true (by rw [e])) ⟨_, rfl, qb _ _ (decide_eq_true e) (Same.refl _) ⟨p, rfl, ?_⟩⟩
              rw [hide_ne npp, hide_ne npD]; exact hp
            · exact itF (decide_eq_false fun z => e (by have := V.int.inj z; omega)) (qn _ (decide_eq_false e) (Same.refl _))
          obtain ⟨y, hy, ph, rfl, ehp⟩ := r3.get (filt_first _ l lt)
          have ehp : hide pl (hide D3 G3) ph = some (.lst (vI n (row l (lzP c l)))) := ehp
          have ehp2 : hide pl G3 ph = some (.lst (vI n (row l (lzP c l)))) := same_hide hide_sub _ _ ehp
          refine ⟨D3, ys3, 0, _, rfl, rfl, .inl (.inl e3), atI_nat (j := 0) hy, ?_⟩
          -- place
          have s14 := s12.trans s4
          have el3 := s14 _ _ el'
          have rows3 : Rows n G3 l lv' := rows_same rl' (hide_sub.trans s14)
          obtain ⟨dp1, dp2, dp3⟩ := dp_rowsD (K := K) rows3
          have getP : l[lzP c l]? = some (row l (lzP c l)) := by
            unfold row
            rw [List.getD_eq_getElem?_getD, List.getElem?_eq_getElem lt]; rfl
          refine ⟨_, rfl, .inl ⟨rfl, _, .inl (.inl el3)⟩, _, rfl, pl, .ref ph, rowD n (row l (lzP c l)), l.map (rowD n), lzP c l, rowD n (row l (lzP c l)), rfl, rfl, .lst (.inl (.inl el3)) dp1, .lst (.inl (.inl (hide_sub _ _ ehp2))) (dp_ints _ _), rowsD_shaped dp2 dp3, rowD_shaped, by rw [List.getElem?_map, getP]; rfl, eqv_rowD_refl, fun m z' hm hz' => ?_, ?_⟩
          · have hml : m < l.length := by omega
            rw [List.getElem?_map, List.getElem?_eq_getElem hml] at hz'
            cases hz'
            refine Bool.eq_false_iff.2 fun t => before m hm ?_
            have e1 : row l m = l[m] := by unfold row; rw [List.getD_eq_getElem?_getD, List.getElem?_eq_getElem hml]; rfl
            have := eqv_rowD t c hc
            rw [← hmin]
            unfold absAt
            rw [e1, this]
          -- the others
          generalize hP : lzP c l = J at *
          refine ⟨_, rfl, pl, lv', rfl, .inl (.inl (.inl el3)), lv'.length, rfl, by omega, by omega, ?_⟩
          rw [← hlv]
          refine for_it (walk_rng (n := l.length)) (fun i σ' G => ∃ (lv2 : List V) (z8 : Option V), σ' = [some (.ref a), some (.ref pl), some (.ref pf), some (.int (n : Nat)), some (.int (c : Nat)), some (.int ((lzMin c l : Nat) : Int)), some (.ref ph), some (.int (J : Nat)), z8, z9, none, none] ∧
            Same (hide pl G3) (hide pl G) ∧ G pl = some (.lst lv2) ∧ Rows n (hide pl G) (lzPart c J i l) lv2)
            ⟨lv', _, rfl, .refl _, el3, by rw [lzPart_zero]; exact rows_same rl' (same_hide s14)⟩ (fun _ _ _ _ _ => trivial) (fun i x σ' G4 G5 hi p y => ?_) (fun σ' G p => ?_)
          · obtain ⟨lv2, z8, rfl, p1, p2, p3⟩ := p
            obtain ⟨rfl, rfl⟩ := y
            rw [List.length_range] at hi
            refine ⟨_, rfl, _, rfl, rfl, _, rfl, ?_⟩
            by_cases eJ : i = J
            · refine itF (by simp [eJ]) ⟨lv2, some (.int (i : Nat)), rfl, p1, p2, ?_⟩
              rw [eJ] at p3
              rw [eJ, lzPart_skip]; exact p3
            · refine itT (by simp; omega) ?_
              obtain ⟨b, hb, p, rfl, hp⟩ := p3.get (lzPart_get (c := c) (P := J) hi (Nat.le_refl i))
              have hp2 := (hide_some hp).2
              have ehp4 := p1 _ _ ehp2
              have ehp5 := (hide_some ehp4).2
              have ri : row l i ∈ l := row_mem hi
              refine ⟨_, rfl, _, rfl, pl, _, _, _, rfl, rfl, .inl (.inl p2), atI_nat hb, _, rfl, ?_⟩
              refine ⟨_, rfl, _, rfl, pl, _, _, _, rfl, rfl, .inl (.inl p2), atI_nat hb, _, rfl, p, _, _, _, rfl, rfl, .inl (.inl hp2), vI_at hc, _, rfl, _, rfl, ph, _, _, _, rfl, rfl, .inl (.inl ehp5), vI_at hc, _, _, rfl, rfl, hdv, ?_⟩
              refine ⟨n, p, ph, row l i, row l J, _, rfl, .inl (.inl hp2), .inl (.inl ehp5), hw, hml _ ri, fun G6 u s6 nu eu => ?_⟩
              have nup : u ≠ pl := fun e => by rw [e, p2] at nu; cases nu
              have l2 := p3.len
              rw [lzPart_len] at l2
              refine ⟨_, rfl, _, rfl, pl, lv2, _, i, rfl, rfl, s6 _ _ p2, ixN_nat (by omega), lv2.set i (.ref u), some (.int (i : Nat)), rfl, ?_, upd_same, ?_⟩
              · rw [hide_self]; exact p1.trans (same_hide s6)
              · rw [lzPart_step hi eJ, hide_self]
                exact (rows_same p3 (same_hide s6)).set ⟨u, rfl, by rw [hide_ne nup]; exact eu⟩ i
          · obtain ⟨lv2, z8, rfl, p1, p2, p3⟩ := p
            rw [List.length_range, ← hP, lzPart_all] at p3
            exact ⟨lv2, _, _, _, _, _, rfl, s3.trans ((same_hide s14).trans p1), p2, p3⟩
        · refine itF (decide_eq_false (by omega)) ?_
          have hdone : lzRun c left = l := by rw [← hrun, lzRun_done h1]
          have sH1 : Same H (hide pl G1) := sH.trans (s3.trans (same_hide s1))
          have rl1 := rows_same rl' (same_hide s1)
          have ef1 := same_hide s1 _ _ (s3 _ _ ef)
          have rf1 := rows_same rf (s3.trans (same_hide s1))
          clear hLz
          -- heads
          refine ⟨_, rfl, pl, rfl, ⟨_, .inl (.inl elG)⟩, fun D2 nD2 => ?_⟩
          refine lc_flt (zs := l) (by rw [hlv]; exact walk_list (xs := lv')) (fun v => decide (v c ≠ 0)) (fun v y H => IsRow n (hide pl H) v y) (fun _ _ _ _ q s => q.same (same_hide s)) nD2 (by omega) (fun _ s => s.seq (.inl (.inl elG))) (fun i z x G3 G4 Qb Qn hz s2 hacc y qb qn => ?_) (fun G2 hv2 s2 e2 r2 => ?_)
          · obtain ⟨rfl, hy⟩ := y
            obtain ⟨b, hb, p, rfl, hp⟩ := rl1.get hz
            cases Option.some.inj (hy.symm.trans hb)
            obtain ⟨npp, hp⟩ := hide_some hp
            have npD : p ≠ D2 := ne_of_none hp nD2
            refine ⟨rfl, _, rfl, _, rfl, p, _, _, _, rfl, rfl, .inl (.inl (s2 _ _ hp)), vI_at hc, rfl, _, rfl, ?_⟩
            by_cases e : z c = 0
            · exact itF (by simp [e]) (qn _ (by simp [e]) (Same.refl _))
            · exact itT (by simp [e]) ⟨_, rfl, qb _ _ (by simp [e]) (Same.refl _) ⟨p, rfl, by rw [hide_ne npp, hide_ne npD]; exact s2 _ _ hp⟩⟩
          have r2 : Rows n (hide pl G2) (nzs c l) hv2 := r2.imp fun _ _ q => q.same (same_hide hide_sub)
          refine ⟨_, rfl, Nat.zero_le _, fun o2 no2 => ?_⟩
          have s23 := s2.trans (same_new (o := .lst []) no2)
          have t2 : Same (hide pl G2) (hide pl (upd G2 o2 (.lst []))) := same_hide (same_new no2)
          have r2' := rows_same r2 t2
          have e2' := same_new (o := .lst []) no2 _ _ e2
          refine rows_ne (Rel2.imp (rows_same r2' hide_sub) fun _ _ q => q.toE) (.inl (.inl e2')) upd_same ?_
          generalize upd G2 o2 (.lst []) = G at s23 t2 r2' e2'
          clear r2 e2 t2 s2 no2
          have elG := s23 _ _ elG
          have rlG := rows_same rl1 (same_hide s23)
          have efG := same_hide s23 _ _ ef1
          have rfG := rows_same rf1 (same_hide s23)
          have sHG : Same H (hide pl G) := sH1.trans (same_hide s23)
          refine ⟨_, rfl, ?_⟩
          by_cases h0 : (nzs c l).length = 0
          · have h0' : nzs c l = [] := List.length_eq_zero_iff.1 h0
            refine itF (by rw [h0]; rfl) ⟨pl, pf, lv', fv, _, _, _, _, _, _, rfl, npl, sHG, elG, ?_, efG, ?_⟩
            · unfold lzCol
              simp only [hdone]
              rw [if_pos h0']; exact rlG
            · unfold lzCol
              simp only [hdone]
              rw [if_pos h0']; exact rfG
          · refine itT (by simp [h0]) ?_
            have hne : nzs c (lzRun c left) ≠ [] := by rw [hdone]; intro z; rw [z] at h0; exact h0 rfl
            rcases lz_cases c left with e | ⟨v0, e, hv0, hm0⟩
            · exact absurd e hne
            have hcol : lzCol c (left, found) = (l.filter fun v => v c = 0, colFound c (signed c v0) found) := by
              unfold lzCol
              rw [if_neg hne, e]
              show ((lzRun c left).filter _, _) = _
              rw [hdone]; rfl
            rw [hcol]
            obtain ⟨hh1, hh2⟩ : HeadOk n c (signed c v0) found := by
              have := hhd hne
              rw [e] at this
              exact this
            rw [hdone] at e
            rw [e] at r2'
            obtain ⟨p0, hp0, ep0⟩ := rows_get r2' (i := 0) (by simp)
            have ep0 : hide pl G p0 = some (.lst (vI n v0)) := ep0
            have ep1 := (hide_some ep0).2
            have at0 : atI hv2 0 = some (.ref p0) := atI_nat (j := 0) hp0
            dsimp only [tSeq, tAsg]
            refine joinE (te := tIf _ _ _) (fun v G' => ∃ hd, v = .ref hd ∧ Same G G' ∧ G' hd = some (.lst (vI n (signed c v0)))) (fun Q' hk2 => ?_) (fun v G1 hR => ?_)
            · refine ⟨_, rfl, _, _, 0, _, rfl, rfl, .inl (.inl e2'), at0, _, rfl, p0, _, _, _, rfl, rfl, .inl (.inl ep1), vI_at hc, _, _, rfl, rfl, _, rfl, ?_⟩
              by_cases hpos : 0 < v0 c
              · refine itT (decide_eq_true hpos) ⟨_, rfl, _, _, 0, _, rfl, rfl, .inl (.inl e2'), at0, hk2 _ _ ⟨p0, rfl, .refl _, ?_⟩⟩
                unfold signed; rw [if_pos hpos]; exact ep1
              · refine itF (decide_eq_false hpos) ⟨_, rfl, _, _, 0, _, rfl, rfl, .inl (.inl e2'), at0, p0, rfl, ⟨_, .inl (.inl ep1)⟩, fun N nN => ?_⟩
                refine lc_map (zs := List.range n) (Y := YAt (vI n v0)) (by have := walk_list (K := K) (a := p0) (xs := vI n v0); rw [vI_len] at this; rw [List.length_range]; exact this) (fun j y _ => y = V.int (negV v0 j)) (fun _ _ _ _ q _ => q) nN (by simp; omega) (fun _ s => s.seq (.inl (.inl ep1))) (fun i z x G1 G2 Qb hz s1 hacc y qb => ?_) (fun G1 es s1 e1 r1 => ?_)
                · obtain ⟨rfl, hy⟩ := y
                  obtain ⟨rfl, hi⟩ := range_at hz
                  cases Option.some.inj (hy.symm.trans (vI_get hi))
                  refine ⟨rfl, _, rfl, _, _, rfl, rfl, qb _ _ (Same.refl _) ?_⟩
                  show V.int (0 - v0 z) = V.int (- v0 z)
                  congr 1; omega
                · refine hk2 _ _ ⟨N, rfl, s1, ?_⟩
                  unfold signed; rw [if_neg hpos, e1, vI_of r1]
            · obtain ⟨hd, rfl, s7, ehd⟩ := hR
              have el7 := s7 _ _ elG
              have rl7 := rows_same rlG (same_hide s7)
              have ef7 := (hide_some (same_hide s7 _ _ efG)).2
              have rf7 := rows_same rfG ((same_hide s7).trans hide_sub)
              have sH7 : Same H G1 := (sHG.trans hide_sub).trans s7
              -- left
              refine ⟨_, rfl, pl, rfl, ⟨_, .inl (.inl el7)⟩, fun L nL => ?_⟩
              refine lc_flt (zs := l) (by rw [hlv]; exact walk_list (xs := lv')) (fun v => decide (v c = 0)) (fun v y H => IsRow n H v y) (fun _ _ _ _ q s => q.same s) nL (by omega) (fun _ s => s.seq (.inl (.inl el7))) (fun i z x G3 G4 Qb Qn hz s2 hacc y qb qn => ?_) (fun G2 zs2 s2 e2 r2 => ?_)
              · obtain ⟨rfl, hy⟩ := y
                obtain ⟨b, hb, p, rfl, hp⟩ := rl7.get hz
                cases Option.some.inj (hy.symm.trans hb)
                obtain ⟨npp, hp⟩ := hide_some hp
                have npD : p ≠ L := ne_of_none hp nL
                refine ⟨rfl, _, rfl, _, rfl, p, _, _, _, rfl, rfl, .inl (.inl (s2 _ _ hp)), vI_at hc, rfl, _, rfl, ?_⟩
                by_cases e : z c = 0
                · exact itT (by simp [e]) ⟨_, rfl, qb _ _ (by simp [e]) (Same.refl _) ⟨p, rfl, by rw [hide_ne npD]; exact s2 _ _ hp⟩⟩
                · exact itF (by simp [e]) (qn _ (by simp [e]) (Same.refl _))
              have r2 : Rows n (hide L G2) (l.filter fun v => v c = 0) zs2 := r2
              have nLH : H L = none := sH7.free nL
              have ehd2 := s2 _ _ ehd
              have nhL : hd ≠ L := ne_of_none ehd nL
              have ef2 := s2 _ _ ef7
              have rf2 := rows_same rf7 s2
              have sHL : Same H (hide L G2) := same_to_hide (sH7.trans s2) nLH
              -- found
              refine ⟨_, rfl, pf, rfl, ⟨_, .inl (.inl ef2)⟩, fun Fa nF => ?_⟩
              have nFL : Fa ≠ L := fun e => by rw [e, e2] at nF; cases nF
              refine lc_map (zs := found) (by rw [rf2.len]; exact walk_list (xs := fv)) (fun v y H => IsRow n (hide L H) (lessV v (signed c v0) ((v c).fdiv (signed c v0 c))) y) (fun _ _ _ _ q s => q.same (same_hide s)) nF (by omega) (fun _ s => s.seq (.inl (.inl ef2))) (fun i z x G3 G4 Qb hz s3 hacc y qb => ?_) (fun G3 ws s3 e3 r3 => ?_)
              · obtain ⟨rfl, hy⟩ := y
                obtain ⟨b, hb, p, rfl, hp⟩ := rf2.get hz
                cases Option.some.inj (hy.symm.trans hb)
                obtain ⟨acc, hacc⟩ := hacc
                have hp2 := s3 _ _ hp
                have hd2 := s3 _ _ ehd2
                refine ⟨rfl, _, rfl, _, rfl, _, rfl, _, rfl, p, _, _, _, rfl, rfl, .inl (.inl hp2), vI_at hc, _, rfl, _, rfl, hd, _, _, _, rfl, rfl, .inl (.inl hd2), vI_at hc, _, _, rfl, rfl, hh1, ?_⟩
                refine ⟨n, p, hd, z, signed c v0, _, rfl, .inl (.inl hp2), .inl (.inl hd2), hw, hh2 z (List.mem_of_getElem? hz), fun G5 u s4 nu eu => qb _ _ s4 ⟨u, rfl, ?_⟩⟩
                have n1 : u ≠ Fa := fun e => by rw [e, hacc] at nu; cases nu
                have n2 : u ≠ L := fun e => by
                  have := s3 _ _ e2
                  rw [← e, nu] at this; cases this
                rw [hide_ne n2, hide_ne n1]; exact eu
              · have lws := r3.len
                have r3 : Rel2 (fun v y => IsRow n (hide L G3) (lessV v (signed c v0) ((v c).fdiv (signed c v0 c))) y) found ws := r3.imp fun _ _ q => q.same (same_hide hide_sub)
                refine ⟨_, rfl, by show 1 ≤ sizeLine; omega, fun o3 no3 => ?_⟩
                have s4 := same_new (o := .lst [.ref hd]) no3
                refine ⟨Fa, o3, ws, [.ref hd], rfl, rfl, s4 _ _ e3, upd_same, by simp; omega, fun p6 np6 => ?_⟩
                have s6 := s4.trans (same_new (o := .lst (ws ++ [.ref hd])) np6)
                have np6L : p6 ≠ L := fun e => by
                  have := s4 _ _ (s3 _ _ e2)
                  rw [← e, np6] at this; cases this
                have s36 := s3.trans s6
                have eL := s36 _ _ e2
                refine ⟨L, p6, zs2, ws ++ [.ref hd], _, _, _, _, _, _, rfl, nLH, sHL.trans (same_hide s36), eL, rows_same r2 (same_hide s36), ?_, ?_⟩
                · rw [hide_ne np6L, upd_same]
                · unfold colFound
                  refine Rel2.app (Rel2.mapL.2 (r3.imp fun _ _ q => q.same (same_hide s6))) (.one ⟨hd, rfl, ?_⟩)
                  rw [hide_ne nhL]
                  exact s36 _ _ ehd2
      · obtain ⟨pl, pf, lv, fv, y4, y5, y6, y7, y8, y9, rfl, npl, sH, el, rl, ef, rf⟩ := p
        rw [List.length_range] at rf
        exact ⟨_, rfl, q _ pf fv (sH.trans hide_sub) (hide_sub _ _ ef) (rows_same rf hide_sub)⟩
end
end K17
end
section
set_option Elab.async false
set_option linter.all false
set_option maxRecDepth 100000
namespace K17
open PySem PySem.Spec PyProof.Rows L2
/-! _law_columns -/
def tN (t : List Nat) : List V := t.map fun x => .int (x : Nat)
def IsCol (H : Hp) (t : List Nat) (y : V) : Prop := ∃ p, y = .ref p ∧ H p = some (.tup (tN t))
theorem IsCol.same {H H' : Hp} {t : List Nat} {y : V} (h : IsCol H t y) (s : Same H H') : IsCol H' t y := by
  obtain ⟨a, e, q⟩ := h; exact ⟨a, e, s _ _ q⟩
theorem cols_few : ∀ w, w ≤ 4 → ∀ j, j ≤ 8 → (colsF w j).length ≤ 16 := by
  have h : ∀ w, w < 5 → ∀ j, j < 9 → (colsF w j).length ≤ 16 := by decide
  exact fun w hw j hj => h w (by omega) j (by omega)
theorem cols_in {w k : Nat} {t : List Nat} (h : t ∈ colsF w k) : t.length = k ∧ ∀ i, i < k → at0 t i < w := by
  obtain ⟨l, a⟩ := mem_cols h
  exact ⟨l, a.1⟩
theorem iCatA {X : Cx} (K : PySem.W.Frag) (h : X.K = K := by rfl) : OpR X (binaryOp .Add) (rCatA K) := by subst h; exact op_catA
theorem eqv_nilT (ds : List PyData) : PyData.eqv (.tuple ds) (.tuple []) = decide (ds.length = 0) := by
  cases ds with
  | nil => simp [PyData.eqv, PyData.eqvAll]
  | cons => simp [PyData.eqv, PyData.eqvAll]
theorem nextCols_eq (w : Nat) (t : List Nat) : nextCols w t = (List.range (w - nextLo t)).map fun i => t ++ [nextLo t + i] := by
  unfold nextCols
  rw [List.range'_eq_map_range, List.map_map]
  rfl
section
variable {P : Program} {w : World} {K : PySem.W.Frag} {mg : Str → Option Value} {base : Heap}
abbrev nCl : List Str := ["_law_wide", "_law_many", "_law_found", "_law_turn", "_law_longer", "_law_told", "_law_at"]
theorem scCl : FnScope nCl ["_law_wide", "_law_many"] (defScope (topS 45)) := ⟨rfl, rfl, rfl, by decide +kernel, rfl, by decide +kernel, by decide +kernel⟩
def spCl : L2.Sp := fun vs H Q _ => ∃ n k : Nat, vs = [.int (n : Nat), .int (k : Nat)] ∧ n ≤ 4 ∧ k ≤ 8 ∧
  ∀ H' p zs, Same H H' → H p = none → H' p = some (.lst zs) → Rel2 (IsCol H') (colsF n k) zs → Q (.ref p) H'
set_option maxHeartbeats 4000000 in
theorem ok_cl {f : Addr} {fd : FuncData} {k : Nat} (F : Fun K "_law_columns" "_law_columns" (topS 45) f fd) (mr : mg "range" = none) : FnOk P w K mg base CX0 (k + 1) f fd ["_law_wide", "_law_many"] spCl := by
  refine F.ok scCl (fun vs H Q E h => ?_) (fun cdv A outer s H vs Q E hr h => ?_)
  · obtain ⟨_, _, rfl, _⟩ := h
    rfl
  · obtain ⟨n, m, rfl, hn, hm, q⟩ := h
    have nd := scCl.nd
    refine ⟨_, pss_cons (ps_set (i := 2) nd rfl (.inl rfl) (pe_lst (pa_cons (pe_tup pa_nil) pa_nil)))
      (pss_cons (ps_for PassesOwn.never rfl (pi_range1 (by rfl) mr (pa_cons (pv 1) pa_nil)) (pg_name (i := 3) nd rfl (.inl rfl))
        (pss_cons (ps_set (i := 4) nd rfl (.inl rfl) (pe_lst pa_nil))
        (pss_cons (ps_for PassesOwn.never rfl (pi_list (pv 2)) (pg_name (i := 5) nd rfl (.inr rfl))
          (pss_one (ps_set (i := 4) nd rfl (.inl rfl) (pe_op op_cat (pv 4) (pe_lc (own := [("_law_at", 6)]) (g := gName 6) (tt := tYes) rfl nd
            (pi_range2 (by rfl) mr (pa_cons (pe_ifExp (pt_cmpR (op_neD hr.units) (pv 5) (pe_tup pa_nil) (nomark _)) (pe_op op_add (pe_ix (iT K) (pv 5) (pe_un un_neg pe_int) (fun _ _ => rfl)) pe_int) pe_int) (pa_cons (pv 0) pa_nil))) (blkOk_by (N := nCl) (sc := defScope (topS 45)) (by decide +kernel))
            (fun _ _ _ _ _ => pg_name (i := 6) nd rfl (Or.inl rfl)) (fun _ _ _ _ _ => pts_nil) (fun _ _ _ _ _ => pe_op (iCatA K) (pv 5) (pe_tup (pa_cons (pv 6) pa_nil))))))))
        (pss_one (ps_set (i := 2) nd rfl (.inl rfl) (pv 4))))))
      (pss_one (ps_ret (pv 2)))), ?_⟩
    have k1000 : (1000 : Nat) < sizeLine := by decide
    refine ⟨Nat.zero_le _, fun e0 ne0 => ⟨by show 1 ≤ sizeLine; omega, fun f0 nf0 => ?_⟩⟩
    have s0 := (same_new (o := .tup []) ne0).trans (same_new (o := .lst [.ref e0]) nf0)
    have ee : upd (upd H e0 (.tup [])) f0 (.lst [.ref e0]) e0 = some (.tup []) := same_new nf0 _ _ upd_same
    have ef : upd (upd H e0 (.tup [])) f0 (.lst [.ref e0]) f0 = some (.lst [.ref e0]) := upd_same
    generalize upd (upd H e0 (.tup [])) f0 (.lst [.ref e0]) = H1 at s0 ee ef
    refine ⟨_, rfl, m, rfl, by omega, by omega, ?_⟩
    refine for_it (walk_rng (n := m)) (fun i σ G => Same H G ∧ ∃ (pf : Addr) (fv : List V) (y3 y4 y5 : Option V), σ = [some (.int (n : Nat)), some (.int (m : Nat)), some (.ref pf), y3, y4, y5, none] ∧ H pf = none ∧ G pf = some (.lst fv) ∧ Rel2 (IsCol G) (colsF n i) fv)
      ⟨s0, f0, _, _, _, _, rfl, (same_new (o := .tup []) ne0).free nf0, ef, .one ⟨e0, rfl, ee⟩⟩ (fun _ _ _ _ _ => trivial) (fun i x σ G1 G2 hi p y => ?_) (fun σ G p => ?_)
    · obtain ⟨sG, pf, fv, y3, y4, y5, rfl, npf, ef, rf⟩ := p
      obtain ⟨rfl, rfl⟩ := y
      rw [List.length_range] at hi
      refine ⟨Nat.zero_le _, fun g0 ng0 => ?_⟩
      have s1 := same_new (o := .lst []) ng0
      have eg : upd G2 g0 (.lst []) g0 = some (.lst []) := upd_same
      generalize upd G2 g0 (.lst []) = G3 at s1 eg
      have ef1 := s1 _ _ ef
      have rf1 : Rel2 (IsCol G3) (colsF n i) fv := rf.imp fun _ _ q => q.same s1
      have lf := rf1.len
      refine ⟨_, rfl, pf, rfl, ⟨_, .inl (.inl ef1)⟩, ?_⟩
      refine for_it (walk_list (xs := fv)) (fun j σ G => Same G3 G ∧ ∃ (pg : Addr) (gv : List V) (y5 : Option V), σ = [some (.int (n : Nat)), some (.int (m : Nat)), some (.ref pf), some (.int (i : Nat)), some (.ref pg), y5, none] ∧ H pg = none ∧ G pg = some (.lst gv) ∧ Rel2 (IsCol G) (((colsF n i).take j).flatMap (nextCols n)) gv)
        ⟨.refl _, g0, [], _, rfl, sG.free ng0, eg, .nil⟩ (fun j σ G _ p => .inl (.inl (p.1 _ _ ef1))) (fun j x σ G4 G5 hj p y => ?_) (fun σ G p => ?_)
      · obtain ⟨s2, pg, gv, y5, rfl, npg, eg, rg⟩ := p
        obtain ⟨rfl, hx⟩ := y
        obtain ⟨t, ht, pt, rfl, ept⟩ := rf1.get' hx
        have ept := s2 _ _ ept
        have htm := List.mem_of_getElem? ht
        obtain ⟨tl, tb⟩ := cols_in htm
        have ltake : (((colsF n i).take (j + 1)).flatMap (nextCols n)).length ≤ (colsF n (i + 1)).length := by
          show _ ≤ ((colsF n i).flatMap (nextCols n)).length
          conv => rhs; rw [← List.take_append_drop (j + 1) (colsF n i), List.flatMap_append, List.length_append]
          exact Nat.le_add_right _ _
        have few := cols_few n hn (i + 1) (by omega)
        have step : ((colsF n i).take (j + 1)).flatMap (nextCols n) = ((colsF n i).take j).flatMap (nextCols n) ++ nextCols n t := by
          rw [List.take_add_one, ht, List.flatMap_append]
          simp
        have lg := rg.len
        have lo8 : nextLo t ≤ 8 := by
          unfold nextLo
          cases e : t.getLast? with
          | none => exact Nat.zero_le _
          | some z =>
            show z + 1 ≤ 8
            have : z ∈ t := List.mem_of_getLast? e
            obtain ⟨b, hb, rfl⟩ := List.mem_iff_getElem.1 this
            have := tb b (by omega)
            have e2 : at0 t b = t[b] := by unfold at0; rw [List.getD_eq_getElem?_getD, List.getElem?_eq_getElem hb]; rfl
            omega
        refine ⟨_, rfl, ?_⟩
        refine joinE (te := tIf _ _ _) (fun v G' => v = .int (nextLo t : Nat) ∧ Same G5 G') (fun Q' hk2 => ?_) (fun v G6 hR => ?_)
        · refine ⟨_, rfl, Nat.zero_le _, fun o no => ?_⟩
          have so := same_new (o := .tup []) no
          refine ⟨.tuple (t.map fun x => PyData.int ((x : Nat) : Int)), .tuple [], .tup (.inl (.inl (so _ _ ept))) (dp_ints t fun x => ((x : Nat) : Int)), .tup (.inl (.inl upd_same)) .nil, ?_, by decide, _, rfl, ?_⟩
          · obtain ⟨c1, c2⟩ := canAll_ints t fun x => ((x : Nat) : Int)
            unfold SeqAt.shaped
            rw [Bool.and_eq_true]
            exact ⟨by simp only [PyData.canLay0, c1], decide_eq_true (by simp only [PyData.depth, c2]; omega)⟩
          · rw [eqv_nilT, List.length_map]
            by_cases t0 : t.length = 0
            · refine itF (by simp [t0]) (hk2 _ _ ⟨?_, so⟩)
              have : t = [] := List.length_eq_zero_iff.1 t0
              rw [this]; rfl
            · refine itT (by simp [t0]) ?_
              obtain ⟨ini, z, rfl⟩ : ∃ ini z, t = ini ++ [z] := by
                rcases List.eq_nil_or_concat t with e | ⟨l, z, e⟩
                · rw [e] at t0; exact absurd rfl t0
                · exact ⟨l, z, by rw [e, List.concat_eq_append]⟩
              have tn : tN (ini ++ [z]) = tN ini ++ [.int (z : Nat)] := by unfold tN; simp
              refine ⟨_, rfl, _, rfl, pt, _, _, _, rfl, rfl, .inl (.inl (so _ _ ept)), by rw [tn]; exact atI_last _ _, _, _, rfl, rfl, hk2 _ _ ⟨?_, so⟩⟩
              congr 1
              unfold nextLo
              simp
        · obtain ⟨rfl, s6⟩ := hR
          have ept6 := s6 _ _ ept
          refine ⟨_, rfl, _, _, rfl, by omega, fun D nD => ?_⟩
          refine lc_map (zs := List.range (n - nextLo t)) (walk_rng2 (by omega)) (fun i y H => IsCol H (t ++ [nextLo t + i]) y) (fun _ _ _ _ q s => q.same s) nD (by simp; omega) (fun _ _ => trivial) (fun i' z x G7 G8 Qb hz s7 hacc y qb => ?_) (fun G7 as s7 e7 r7 => ?_)
          · obtain ⟨rfl, rfl⟩ := y
            obtain ⟨rfl, hi'⟩ := range_at hz
            obtain ⟨acc, hacc⟩ := hacc
            refine ⟨rfl, _, rfl, _, rfl, by show 1 ≤ sizeLine; omega, fun u nu => ?_⟩
            have su := same_new (o := .tup [.int (((nextLo t : Nat) : Int) + ((z : Nat) : Int))]) nu
            have nuD : u ≠ D := fun e => by rw [e, hacc] at nu; cases nu
            refine ⟨pt, u, tN t, _, rfl, rfl, .inl (.inl (su _ _ (s7 _ _ ept6))), .inl (.inl upd_same), by unfold tN; rw [List.length_map]; simp; omega, fun e => ?_, (fun _ e => nomatch e), fun _ _ p np => ?_⟩
            · refine qb _ _ su ⟨u, rfl, ?_⟩
              rw [hide_ne nuD, upd_same]
              have : t = [] := by unfold tN at e; simpa using e
              rw [this]; rfl
            · have npD : p ≠ D := fun e => by
                have := su _ _ hacc
                rw [← e, np] at this; cases this
              refine qb _ _ (su.trans (same_new np)) ⟨p, rfl, ?_⟩
              rw [hide_ne npD, upd_same]
              unfold tN
              rw [List.map_append]; rfl
          · have r7 : Rel2 (IsCol G7) (nextCols n t) as := by
              rw [nextCols_eq]
              exact Rel2.mapL.2 (r7.imp fun _ _ q => q.same hide_sub)
            have s67 := s6.trans s7
            have l7 := r7.len
            rw [step, List.length_append] at ltake
            refine ⟨pg, D, gv, as, rfl, rfl, s67 _ _ eg, e7, by omega, fun p np => ?_⟩
            have sp := same_new (o := .lst (gv ++ as)) np
            refine ⟨s2.trans (s67.trans sp), p, gv ++ as, _, rfl, ((sG.trans s1).trans (s2.trans s67)).free np, upd_same, ?_⟩
            rw [step]
            exact Rel2.app (rg.imp fun _ _ q => q.same (s67.trans sp)) (r7.imp fun _ _ q => q.same sp)
      · obtain ⟨s2, pg, gv, y5, rfl, npg, eg, rg⟩ := p
        rw [← lf, List.take_length] at rg
        exact ⟨_, rfl, sG.trans (s1.trans s2), pg, gv, _, _, _, rfl, npg, eg, rg⟩
    · obtain ⟨sG, pf, fv, y3, y4, y5, rfl, npf, ef, rf⟩ := p
      rw [List.length_range] at rf
      exact ⟨_, rfl, q _ pf fv sG npf ef rf⟩
end
end K17
end
section
set_option Elab.async false
set_option linter.all false
set_option maxRecDepth 100000
namespace K17
open PySem PySem.Spec PyProof.Rows L2
/-! _law_minors -/
def minorV (rows : List Vec) (r : Nat) (ls cs : List Nat) : Int := detF r fun i j => row rows (at0 ls i) (at0 cs j)
theorem minorsF_eq (rows : List Vec) (r n : Nat) : minorsF rows r n = (colsF rows.length r).flatMap fun ls => (colsF n r).map (minorV rows r ls) := rfl
theorem at0_eq {t : List Nat} {i x : Nat} (h : t[i]? = some x) : at0 t i = x := by
  unfold at0
  rw [List.getD_eq_getElem?_getD, h]; rfl
theorem row_mapN {t : List Nat} {f : Nat → Vec} {i : Nat} (h : i < t.length) : row (t.map f) i = f (at0 t i) := by
  unfold row at0
  rw [List.getD_eq_getElem?_getD, List.getD_eq_getElem?_getD, List.getElem?_map, List.getElem?_eq_getElem h]; rfl
theorem tN_get {t : List Nat} {i : Nat} : (tN t)[i]? = (t[i]?).map fun x => V.int (x : Nat) := by unfold tN; rw [List.getElem?_map]
theorem piT {X : Cx} {tg : Expr} {l : Expr} {tl : TE} (K : PySem.W.Frag) (hl : PE X l tl) (h : X.K = K := by rfl) : PI X tg l (iTup K tl) := by subst h; exact pi_tup hl
section
variable {P : Program} {w : World} {K : PySem.W.Frag} {mg : Str → Option Value} {base : Heap}
abbrev nMn : List Str := ["_law_rows_here", "_law_many", "_law_wide", "_law_found", "_law_lines", "_law_places", "_law_line", "_law_at"]
theorem scMn : FnScope nMn ["_law_rows_here", "_law_many", "_law_wide"] (defScope (topS 46)) := ⟨rfl, rfl, rfl, by decide +kernel, rfl, by decide +kernel, by decide +kernel⟩
def spDetA (K : PySem.W.Frag) : L2.Sp := fun vs H Q E => ∃ n, n ≤ 4 ∧ spDet K n vs H Q E
def spMn (K : PySem.W.Frag) : L2.Sp := fun vs H Q _ => ∃ (n r : Nat) (a : Addr) (rows : List Vec) (ys : List V), vs = [.ref a, .int (r : Nat), .int (n : Nat)] ∧ SqT K H a ys ∧ Rel2 (IsTupE K n H) rows ys ∧ rows.length ≤ 4 ∧ n ≤ 4 ∧ r ≤ 4 ∧ (∀ v ∈ rows, EntB n (2 ^ 20) v) ∧
  ∀ H' p, Same H H' → H' p = some (.lst ((minorsF rows r n).map V.int)) → Q (.ref p) H'
set_option maxHeartbeats 4000000 in
theorem ok_mn {f : Addr} {fd : FuncData} {k : Nat} (F : Fun K "_law_minors" "_law_minors" (topS 46) f fd) (C1 : Cal P w K mg base k "_law_columns" ["_law_wide", "_law_many"] spCl) (C2 : Cal P w K mg base k "_law_det" ["_law_rows_here"] (spDetA K)) (ml : mg "len" = none) : FnOk P w K mg base CX0 (k + 1) f fd ["_law_rows_here", "_law_many", "_law_wide"] (spMn K) := by
  obtain ⟨f1, fd1, G1, g1, k1, b1⟩ := C1
  obtain ⟨f2, fd2, G2, g2, k2, b2⟩ := C2
  refine F.ok scMn (fun vs H Q E h => ?_) (fun cdv A outer s H vs Q E hr h => ?_)
  · obtain ⟨_, _, _, _, _, rfl, _⟩ := h
    rfl
  · obtain ⟨n, r, a, rows, ys, rfl, hA, hR, r4, n4, rr4, en, q⟩ := h
    have nd := scMn.nd
    refine ⟨_, pss_cons (ps_set (i := 3) nd rfl (.inl rfl) (pe_lst pa_nil))
      (pss_cons (ps_for PassesOwn.never rfl (pi_list (pe_call G1 hr (by rfl) g1 k1 b1 .nil pass0 (pa_cons (pe_callB (cLen K) (by rfl) ml PySem.boot_len (pa_cons (pv 0) pa_nil)) (pa_cons (pv 1) pa_nil)))) (pg_name (i := 4) nd rfl (.inl rfl))
        (pss_one (ps_for PassesOwn.never rfl (pi_list (pe_call G1 hr (by rfl) g1 k1 b1 .nil pass0 (pa_cons (pv 2) (pa_cons (pv 1) pa_nil)))) (pg_name (i := 5) nd rfl (.inr rfl))
          (pss_one (ps_expr (pe_bm PySem.F.plainAttrs_list PySem.F.slot_list_append PySem.F.type_list_append mt_append (pv 3) (pa_cons (pe_call G2 hr (by rfl) g2 k2 b2 .nil pass0 (pa_cons
            (pe_lc (own := [("_law_line", 6)]) (g := gName 6) (tt := tYes) rfl nd (pi_tup (pv 4)) (blkOk_by (N := nMn) (sc := defScope (topS 46)) (by decide +kernel)) (fun _ _ _ _ _ => pg_name (i := 6) nd rfl (Or.inr rfl)) (fun _ _ _ _ _ => pts_nil)
              (fun _ _ _ _ _ => pe_lc (own := [("_law_at", 7)]) (g := gName 7) (tt := tYes) rfl nd (piT K (pv 5)) (blkOk_by (by rfl)) (fun _ _ _ _ _ => pg_name (i := 7) nd rfl (Or.inl rfl)) (fun _ _ _ _ _ => pts_nil)
                (fun _ _ _ _ _ => pe_ix (iT K) (pe_ix (iT K) (pv 0) (pv 6) (fun _ _ => rfl)) (pv 7) (fun _ _ => rfl)))) pa_nil)) pa_nil)))))))
      (pss_one (ps_ret (pv 3)))), ?_⟩
    have k1000 : (1000 : Nat) < sizeLine := by decide
    have hl := hR.len
    refine ⟨Nat.zero_le _, fun pf nf => ?_⟩
    have s0 := same_new (o := .lst []) nf
    have ef : upd H pf (.lst []) pf = some (.lst []) := upd_same
    generalize upd H pf (.lst []) = H1 at s0 ef
    refine ⟨_, rfl, a, ys, rfl, .inr (same_seqT s0 hA), _, rfl, ys.length, r, rfl, by omega, by omega, fun H2 pc cv s1 npc ec rc => ?_⟩
    rw [← hl] at rc
    have ef2 := s1 _ _ ef
    have npf : pc ≠ pf := fun e => by rw [e, ef] at npc; cases npc
    have few1 := cols_few rows.length (by omega) r (by omega)
    have few2 := cols_few n n4 r (by omega)
    have hA2 : SqT K (hide pf H2) a ys := same_seqT (same_to_hide (s0.trans s1) nf) hA
    have hR2 : Rel2 (IsTupE K n (hide pf H2)) rows ys := hR.imp fun _ _ q => q.same (same_to_hide (s0.trans s1) nf)
    have ec2 : hide pf H2 pc = some (.lst cv) := by rw [hide_ne npf]; exact ec
    have rc2 : Rel2 (IsCol (hide pf H2)) (colsF rows.length r) cv := by
      have s1' := same_to_hide (s0.trans s1) nf
      refine rc.mono fun t y _ _ h => ?_
      obtain ⟨p, e, hp⟩ := h
      refine ⟨p, e, ?_⟩
      rw [hide_ne fun z => ?_]
      · exact hp
      · rw [z, ef2] at hp; cases hp
    have lc := rc.len
    refine ⟨pc, rfl, ⟨_, .inl (.inl ec)⟩, ?_⟩
    refine for_it (walk_list (xs := cv)) (fun i σ G => ∃ (y4 y5 : Option V), σ = [some (.ref a), some (.int (r : Nat)), some (.int (n : Nat)), some (.ref pf), y4, y5, none, none] ∧ Same (hide pf H2) (hide pf G) ∧
      G pf = some (.lst ((((colsF rows.length r).take i).flatMap fun ls => (colsF n r).map (minorV rows r ls)).map V.int))) ⟨_, _, rfl, .refl _, ef2⟩ (fun i σ G _ p => ?_) (fun i x σ G1 G2 hi p y => ?_) (fun σ G p => ?_)
    · obtain ⟨_, _, _, p1, _⟩ := p
      exact .inl (.inl (hide_sub _ _ (p1 _ _ ec2)))
    · obtain ⟨y4, y5, rfl, p1, p2⟩ := p
      obtain ⟨rfl, hx⟩ := y
      obtain ⟨ls, hls, pl, rfl, epl⟩ := rc2.get' hx
      obtain ⟨ll, lb⟩ := cols_in (List.mem_of_getElem? hls)
      generalize hpre : (((colsF rows.length r).take i).flatMap fun ls => (colsF n r).map (minorV rows r ls)) = pre at p2
      have lpre : pre.length ≤ 16 * 16 := by
        rw [← hpre, List.length_flatMap]
        have : ∀ l : List (List Nat), l.length ≤ 16 → (l.map fun ls => ((colsF n r).map (minorV rows r ls)).length).sum ≤ l.length * 16 := by
          intro l
          induction l with
          | nil => intro _; simp
          | cons a l ih =>
            intro h
            have := ih (by simp at h; omega)
            simp only [List.map_cons, List.sum_cons, List.length_map, List.length_cons] at this ⊢
            omega
        have l16 : ((colsF rows.length r).take i).length ≤ 16 := by rw [List.length_take]; omega
        have := this _ l16
        omega
      refine ⟨_, rfl, _, rfl, n, r, rfl, n4, by omega, fun G3 pd dv s3 npd ed rd => ?_⟩
      have p3 := s3 _ _ p2
      have npdf : pd ≠ pf := fun e => by rw [e, p2] at npd; cases npd
      have sc : Same (hide pf H2) (hide pf G3) := p1.trans (same_hide s3)
      have ed2 : hide pf G3 pd = some (.lst dv) := by rw [hide_ne npdf]; exact ed
      have rd2 : Rel2 (IsCol (hide pf G3)) (colsF n r) dv := by
        refine rd.mono fun t y _ _ h => ?_
        obtain ⟨p, e, hp⟩ := h
        refine ⟨p, e, ?_⟩
        rw [hide_ne fun z => ?_]
        · exact hp
        · rw [z, p3] at hp; cases hp
      have ldv := rd.len
      refine ⟨pd, rfl, ⟨_, .inl (.inl ed)⟩, ?_⟩
      refine for_it (walk_list (xs := dv)) (fun j σ G => ∃ (y5 : Option V), σ = [some (.ref a), some (.int (r : Nat)), some (.int (n : Nat)), some (.ref pf), some (.ref pl), y5, none, none] ∧ Same (hide pf G3) (hide pf G) ∧
        G pf = some (.lst ((pre ++ ((colsF n r).take j).map (minorV rows r ls)).map V.int))) ⟨_, rfl, .refl _, by simpa using p3⟩ (fun j σ G _ p => ?_) (fun j x σ G4 G5 hj p y => ?_) (fun σ G p => ?_)
      · obtain ⟨_, _, q1, _⟩ := p
        exact .inl (.inl (hide_sub _ _ (q1 _ _ ed2)))
      · obtain ⟨y5, rfl, q1, q2⟩ := p
        obtain ⟨rfl, hx2⟩ := y
        obtain ⟨cs, hcs, pcs, rfl, epc⟩ := rd2.get' hx2
        obtain ⟨lcs, cb⟩ := cols_in (List.mem_of_getElem? hcs)
        have sH := hide_sub.trans (show Same (hide pf G5) G5 from hide_sub) |> fun (_ : Same (hide pf (hide pf G5)) G5) => (show Same (hide pf G5) G5 from hide_sub)
        have e1 := sH _ _ (q1 _ _ (sc _ _ epl))
        have e2 := sH _ _ (q1 _ _ epc)
        have hA3 := same_seqT ((sc.trans q1).trans sH) hA2
        have hR3 : Rel2 (IsTupE K n G5) rows ys := hR2.imp fun _ _ q => q.same ((sc.trans q1).trans sH)
        refine ⟨_, rfl, .inl ⟨rfl, _, .inl (.inl q2)⟩, _, rfl, pl, rfl, ⟨_, .inl (.inl e1)⟩, fun D nD => ?_⟩
        refine lc_map (zs := ls) (by have := walk_tup (K := K) (a := pl) (xs := tN ls); rw [show (tN ls).length = ls.length by simp [tN]] at this; exact this) (fun l y H => IsRow r H (fun j => row rows l (at0 cs j)) y) (fun _ _ _ _ q s => q.same s) nD (by omega) (fun _ s => same_seqT s (show SqT K G5 pl (tN ls) from .inl (.inl e1))) (fun u l x G6 G7 Qb hz s6 hacc y qb => ?_) (fun G6 ms s6 e6 r6 => ?_)
        · obtain ⟨rfl, hy⟩ := y
          rw [tN_get, hz] at hy
          cases hy
          obtain ⟨acc, hacc⟩ := hacc
          have hl4 : l < rows.length := by
            have := lb u (by have := (List.getElem?_eq_some_iff.1 hz).1; omega)
            rw [at0_eq hz] at this; exact this
          obtain ⟨b, hb, pr, rfl, hpr⟩ := hR3.get (List.getElem?_eq_getElem hl4)
          have rl : rows[l] = row rows l := by unfold row; rw [List.getD_eq_getElem?_getD, List.getElem?_eq_getElem hl4]; rfl
          rw [rl] at hpr
          refine ⟨rfl, _, rfl, pcs, rfl, ⟨_, .inl (.inl (s6 _ _ e2))⟩, fun D2 nD2 => ?_⟩
          refine lc_map (zs := cs) (by have := walk_tup (K := K) (a := pcs) (xs := tN cs); rw [show (tN cs).length = cs.length by simp [tN]] at this; exact this) (fun c y _ => y = V.int (row rows l c)) (fun _ _ _ _ q _ => q) nD2 (by omega) (fun _ s => same_seqT (s6.trans s) (show SqT K G5 pcs (tN cs) from .inl (.inl e2))) (fun u2 c x G8 G9 Qb2 hz2 s8 hacc2 y qb2 => ?_) (fun G8 es s8 e8 r8 => ?_)
          · obtain ⟨rfl, hy⟩ := y
            rw [tN_get, hz2] at hy
            cases hy
            have hcn : c < n := by
              have := cb u2 (by have := (List.getElem?_eq_some_iff.1 hz2).1; omega)
              rw [at0_eq hz2] at this; exact this
            refine ⟨rfl, _, rfl, _, rfl, a, _, _, _, rfl, rfl, same_seqT (s6.trans s8) hA3, atI_nat hb, _, rfl, pr, _, _, _, rfl, rfl, same_seqT (s6.trans s8) hpr, vI_at hcn, qb2 _ _ (Same.refl _) rfl⟩
          · have nD2D : D2 ≠ D := fun e => by rw [e, hacc] at nD2; cases nD2
            refine qb _ _ s8 ⟨D2, rfl, ?_⟩
            rw [hide_ne nD2D, e8, Rel2.eq_map r8]
            congr 2
            apply List.ext_getElem?
            intro t
            rw [List.getElem?_map]
            by_cases ht : t < r
            · rw [vI_get ht, List.getElem?_eq_getElem (by omega), at0_eq (List.getElem?_eq_getElem (show t < cs.length by omega))]; rfl
            · rw [List.getElem?_eq_none (by omega), List.getElem?_eq_none (by rw [vI_len]; omega)]; rfl
        · have r6 : Rows r G6 (ls.map fun l j => row rows l (at0 cs j)) ms := Rel2.mapL.2 (r6.imp fun _ _ q => q.same hide_sub)
          refine ⟨r, rr4, D, _, ms, rfl, .inl (.inl e6), r6, by rw [List.length_map]; exact ll, fun v hv j hj => ?_, fun G7 s7 => ?_⟩
          · obtain ⟨l, hl', rfl⟩ := List.mem_map.1 hv
            obtain ⟨u, hu, rfl⟩ := List.mem_iff_getElem.1 hl'
            have h1 := lb u (by omega)
            rw [at0_eq (List.getElem?_eq_getElem hu)] at h1
            exact en _ (row_mem h1) _ (cb j hj)
          · have p7 := s7 _ _ (s6 _ _ q2)
            have dv' : detF r (row (ls.map fun l j => row rows l (at0 cs j))) = minorV rows r ls cs := detF_congr fun i j hi _ => by
              rw [row_mapN (by omega)]
            rw [dv']
            have lq : (pre ++ ((colsF n r).take j).map (minorV rows r ls)).length ≤ 16 * 16 + 16 := by
              rw [List.length_append, List.length_map, List.length_take]; omega
            refine ⟨pf, _, _, rfl, rfl, p7, by rw [List.length_map]; omega, some (.ref pcs), rfl, ?_, ?_⟩
            · rw [hide_self]; exact q1.trans (same_hide (s6.trans s7))
            · rw [upd_same, List.take_add_one, hcs]
              simp
      · obtain ⟨y5, rfl, q1, q2⟩ := p
        rw [← ldv, List.take_length] at q2
        refine ⟨_, _, rfl, sc.trans q1, ?_⟩
        rw [q2, List.take_add_one, hls, List.flatMap_append, hpre]
        simp
    · obtain ⟨y4, y5, rfl, p1, p2⟩ := p
      rw [← lc, List.take_length] at p2
      refine ⟨_, rfl, q _ pf ((same_to_hide (s0.trans s1) nf).trans (p1.trans hide_sub)) ?_⟩
      rw [p2, minorsF_eq]
end
end K17
end
section
set_option Elab.async false
set_option linter.all false
set_option maxRecDepth 100000
namespace K17
open PySem PySem.Spec PyProof.Rows L2
section
variable {P : Program} {w : World} {K : PySem.W.Frag} {mg : Str → Option Value} {base : Heap}
theorem lawF_le {n : Nat} {rows : List Vec} : (lawF n rows).length ≤ rows.length := by
  have := lzUp_length rows n
  unfold lawF; omega
theorem scRk : FnScope ["_law_rows_here"] ["_law_rows_here"] (defScope (topS 47)) := ⟨rfl, rfl, rfl, by decide +kernel, rfl, by decide +kernel, by decide +kernel⟩
def spRk (K : PySem.W.Frag) : L2.Sp := fun vs H Q _ => ∃ (n : Nat) (a : Addr) (rows : List Vec) (ys : List V), vs = [.ref a] ∧ SqT K H a ys ∧ RowsE K n H rows ys ∧ rows.length ≤ 8 ∧ n ≤ 8 ∧ LawOk n rows ∧
  ∀ H', Same H H' → Q (.int ((lawF n rows).length : Nat)) H'
theorem ok_rk {f : Addr} {fd : FuncData} {k : Nat} (F : Fun K "_law_rank" "_law_rank" (topS 47) f fd) (C1 : Cal P w K mg base k "_law_form" ["_law_rows_here"] (spLw K)) (ml : mg "len" = none) : FnOk P w K mg base CX0 (k + 1) f fd ["_law_rows_here"] (spRk K) := by
  obtain ⟨f1, fd1, G1, g1, k1, b1⟩ := C1
  refine F.ok scRk (fun vs H Q E h => ?_) (fun cdv A outer s H vs Q E hr h => ?_)
  · obtain ⟨_, _, _, _, rfl, _⟩ := h
    rfl
  · obtain ⟨n, a, rows, ys, rfl, hA, hR, r8, n8, ok, q⟩ := h
    refine ⟨_, pss_one (ps_ret (pe_callB (cLen K) (by rfl) ml PySem.boot_len (pa_cons (pe_call G1 hr (by rfl) g1 k1 b1 .nil pass0 (pa_cons (pv 0) pa_nil)) pa_nil))), ?_⟩
    refine ⟨_, rfl, n, a, rows, ys, rfl, hA, hR, r8, n8, ok, fun H' p zs s e r => ⟨p, zs, rfl, .inl (.inl (.inl e)), ?_⟩⟩
    rw [← r.len]
    exact q _ s
abbrev nSh : List Str := ["_law_rows_here", "_law_wide", "_law_found", "_law_many", "_law_minor"]
theorem scSh : FnScope nSh ["_law_rows_here", "_law_wide"] (defScope (topS 48)) := ⟨rfl, rfl, rfl, by decide +kernel, rfl, by decide +kernel, by decide +kernel⟩
def spSh (K : PySem.W.Frag) : L2.Sp := fun vs H Q _ => ∃ (n : Nat) (a : Addr) (rows : List Vec) (ys : List V), vs = [.ref a, .int (n : Nat)] ∧ SqT K H a ys ∧ Rel2 (IsTupE K n H) rows ys ∧ rows.length ≤ 4 ∧ n ≤ 4 ∧ LawOk n rows ∧ (∀ v ∈ rows, EntB n (2 ^ 20) v) ∧
  ∀ H', Same H H' → Q (.int (sharedF rows n (lawF n rows).length)) H'
set_option maxHeartbeats 2000000 in
theorem ok_sh {f : Addr} {fd : FuncData} {k : Nat} (F : Fun K "_law_shared" "_law_shared" (topS 48) f fd) (C1 : Cal P w K mg base k "_law_rank" ["_law_rows_here"] (spRk K)) (C2 : Cal P w K mg base k "_law_minors" ["_law_rows_here", "_law_many", "_law_wide"] (spMn K)) (C3 : Cal P w K mg base k "_law_common" ["_law_one", "_law_other"] spCom) : FnOk P w K mg base CX0 (k + 1) f fd ["_law_rows_here", "_law_wide"] (spSh K) := by
  obtain ⟨f1, fd1, G1, g1, k1, b1⟩ := C1
  obtain ⟨f2, fd2, G2, g2, k2, b2⟩ := C2
  obtain ⟨f3, fd3, G3, g3, k3, b3⟩ := C3
  refine F.ok scSh (fun vs H Q E h => ?_) (fun cdv A outer s H vs Q E hr h => ?_)
  · obtain ⟨_, _, _, _, rfl, _⟩ := h
    rfl
  · obtain ⟨n, a, rows, ys, rfl, hA, hR, r4, n4, ok, en, q⟩ := h
    have nd := scSh.nd
    refine ⟨_, pss_cons (ps_par (i := 2) (j := 3) rfl nd rfl rfl (by decide) rfl rfl (pa_cons pe_int (pa_cons (pe_call G1 hr (by rfl) g1 k1 b1 .nil pass0 (pa_cons (pv 0) pa_nil)) pa_nil)) rfl)
      (pss_cons (ps_for PassesOwn.never rfl (pi_list (pe_ifExp (pt_cmpR op_gt (pv 3) pe_int (nomark _)) (pe_call G2 hr (by rfl) g2 k2 b2 .nil pass0 (pa_cons (pv 0) (pa_cons (pv 3) (pa_cons (pv 1) pa_nil)))) (pe_lst (pa_cons pe_int pa_nil)))) (pg_name (i := 4) nd rfl (.inl rfl))
        (pss_one (ps_set (i := 2) nd rfl (.inl rfl) (pe_call G3 hr (by rfl) g3 k3 b3 .nil pass0 (pa_cons (pv 2) (pa_cons (pv 4) pa_nil))))))
      (pss_one (ps_ret (pv 2)))), ?_⟩
    have lr := lawF_le (n := n) (rows := rows)
    refine ⟨_, rfl, n, a, rows, ys, rfl, hA, hR.imp fun _ _ q => q.toE, by omega, by omega, ok, fun H1 s1 => ⟨_, _, rfl, ?_⟩⟩
    let L : List Int := if 0 < (lawF n rows).length then minorsF rows (lawF n rows).length n else [1]
    dsimp only [tSeq, tFor, iList]
    refine joinE (te := tIf _ _ _) (fun v G => ∃ p, v = .ref p ∧ Same H1 G ∧ G p = some (.lst (L.map V.int))) (fun Q' hk2 => ?_) (fun v G hR2 => ?_)
    · refine ⟨_, rfl, _, _, rfl, rfl, _, rfl, ?_⟩
      by_cases h0 : 0 < (lawF n rows).length
      · refine itT (decide_eq_true (by omega)) ?_
        refine ⟨_, rfl, _, rfl, _, rfl, n, _, a, rows, ys, rfl, same_seqT s1 hA, hR.imp fun _ _ q => q.same s1, r4, n4, by omega, en, fun H2 p s2 e2 => hk2 _ _ ⟨p, rfl, s2, ?_⟩⟩
        rw [e2]
        simp only [L, if_pos h0]
      · refine itF (decide_eq_false (by omega)) ⟨by show 1 ≤ sizeLine; decide, fun p np => hk2 _ _ ⟨p, rfl, same_new np, ?_⟩⟩
        rw [upd_same]
        simp only [L, if_neg h0]
        rfl
    · obtain ⟨p, rfl, s2, e2⟩ := hR2
      refine ⟨p, rfl, ⟨_, .inl (.inl e2)⟩, ?_⟩
      refine for_it (D := { nx := fun σ H => tRet (tVar 2) { nx := fun x H' => Q V.non H', rt := Q } σ H, rt := Q }) (walk_list (xs := L.map V.int)) (fun i σ G' => Same G G' ∧ ∃ y4 : Option V, σ = [some (.ref a), some (.int (n : Nat)), some (.int ((L.take i).foldl gcdI 0)), some (.int ((lawF n rows).length : Nat)), y4]) ⟨.refl _, _, rfl⟩ (fun i σ G' _ p => .inl (.inl (p.1 _ _ e2))) (fun i x σ G1 G2 hi p y => ?_) (fun σ G' p => ?_)
      · obtain ⟨sG, y4, rfl⟩ := p
        obtain ⟨rfl, hx⟩ := y
        rw [List.getElem?_map] at hx
        cases hz : L[i]? with
        | none => rw [hz] at hx; cases hx
        | some z =>
          rw [hz] at hx
          cases hx
          refine ⟨_, rfl, _, rfl, _, _, rfl, sG, some (V.int z), ?_⟩
          rw [List.take_add_one, hz, List.foldl_append]
          rfl
      · obtain ⟨sG, y4, rfl⟩ := p
        rw [List.length_map, List.take_length]
        exact ⟨_, rfl, q _ (s1.trans (s2.trans sG))⟩
end
end K17
end
section
set_option Elab.async false
set_option linter.all false
set_option maxRecDepth 100000
set_option exponentiation.threshold 100
namespace K17
open PySem PySem.Spec PyProof.Rows L2
/-! sizes of the law's calls -/
section
variable {w : Nat}
theorem ech_heads {E : List Vec} {ps : Nat → Nat} (h : EchP E ps w) : ∀ v ∈ E, (∃ j, j < w ∧ v j ≠ 0) ∧ ∃ j, j < w ∧ hdV w v = v j ∧ v j ≠ 0 := fun v hv => by
  obtain ⟨i, hi, rfl⟩ := mem_row hv
  have l := h.head hi
  have lt := h.lt i hi
  refine ⟨⟨_, lt, l.2⟩, ps i, lt, ?_, l.2⟩
  unfold hdV
  rw [headP_eq l lt]
theorem cls_aux {N : Nat} (hN : N ≤ 1000000) : ∀ (T W : List Vec) (c : Int) (e : Nat), T.length = W.length → (∀ v ∈ T, (∃ j, j < w ∧ v j ≠ 0) ∧ (hdV w v).natAbs ≤ 2 ^ N) → (∀ v ∈ W, (∃ j, j < w ∧ v j ≠ 0) ∧ hdV w v ≠ 0 ∧ (hdV w v).natAbs ≤ 2 ^ 14) → c.natAbs ≤ 2 ^ e → e + N * T.length ≤ 100000000 → ClsOk w T W c
  | [], [], _, _, _, _, _, _, _ => .nil
  | [], _ :: _, _, _, l, _, _, _, _ => by simp at l
  | _ :: _, [], _, _, l, _, _, _, _ => by simp at l
  | i :: is, o :: os, c, e, l, hT, hW, hc, he => by
    obtain ⟨a1, a2⟩ := hT i (by simp)
    obtain ⟨b1, b2, b3⟩ := hW o (by simp)
    rw [List.length_cons, Nat.mul_add, Nat.mul_one] at he
    refine .cons a1 b1 (mul_fit hc a2 (by omega)) (div_fit b2 b3 (by decide)) (cls_aux hN is os _ (e + N) (by simpa using l) (fun v hv => hT v (List.mem_cons_of_mem _ hv)) (fun v hv => hW v (List.mem_cons_of_mem _ hv)) ?_ (by omega))
    refine Nat.le_trans (fdiv_le b2) ?_
    rw [Int.natAbs_mul, Nat.pow_add]
    exact Nat.mul_le_mul hc a2
theorem clsOk_of {X W : List Vec} {b : Nat} (w4 : w ≤ 4) (hs : Supp w X) (ent : ∀ v ∈ X, EntB w (2 ^ b) v) (k : kb X.length b < 9000) (x8 : X.length ≤ 8) (hW : ∃ qs, EchP W qs w) (over : ∀ v ∈ X, Sp W v) (back : ∀ v ∈ W, ∃ k : Int, k ≠ 0 ∧ Sp X fun j => k * v j) (eW : ∀ v ∈ W, EntB w (2 ^ 14) v) :
    ClsOk w (formF w X) W 1 := by
  obtain ⟨ps, E⟩ := formF_ech w X
  obtain ⟨qs, F⟩ := hW
  obtain ⟨len, _⟩ := EchP.within E F (fun v hv => ((formF_eqv hs).2 v hv).trans over) fun v hv => by
    obtain ⟨k, hk, s⟩ := back v hv
    exact ⟨k, hk, (formF_eqv hs).sp.mp s⟩
  have eT := formF_bits (w := w) ent k
  have fl := formF_len w X
  obtain ⟨N, hN⟩ := opq (40000 * w)
  rw [← hN] at eT
  have hN2 : N ≤ 160000 := by omega
  have hmul : N * (formF w X).length ≤ 160000 * 8 := Nat.mul_le_mul hN2 (by omega)
  refine cls_aux (N := N) (by omega) _ _ 1 0 len (fun v hv => ?_) (fun v hv => ?_) (by decide) (by omega)
  · obtain ⟨a, j, hj, e, _⟩ := ech_heads E v hv
    refine ⟨a, ?_⟩
    rw [e]
    exact eT v hv j hj
  · obtain ⟨a, j, hj, e, ne⟩ := ech_heads F v hv
    refine ⟨a, ?_, ?_⟩
    · rw [e]; exact ne
    · rw [e]; exact eW v hv j hj
theorem triple_supp {A : List Vec} (hA : Supp w A) : Supp w (A.map tripleV) := fun v hv j hj => by
  obtain ⟨u, hu, rfl⟩ := List.mem_map.mp hv
  show 3 * u j = 0
  rw [hA u hu j hj]; rfl
theorem FillOk.facts {A W : List Vec} (hA : Supp w A) (f : FillOk w A W) : FillP w A W := by
  obtain ⟨N, _, o1, o2⟩ := f.ex
  have n := o1.null.facts hA
  exact filled_facts hA n (o2.null.facts n.supp)
theorem kb_le4 {n b : Nat} (hn : n ≤ 4) (hb : b ≤ 14) : kb n b < 9000 := by
  have h : ∀ n, n < 5 → kb n 14 < 9000 := by decide
  exact Nat.lt_of_le_of_lt (kb_mono n hb) (h n (by omega))
theorem kz_le4 {n b : Nat} (hn : n ≤ 4) (hb : b ≤ 14) : kz n b < 9000 := by
  have h : ∀ n, n < 5 → kz n 14 < 9000 := by decide
  exact Nat.lt_of_le_of_lt (kz_mono n hb) (h n (by omega))
structure Pack (w : Nat) (A W : List Vec) : Prop where
  fo : FillOk w A W
  fo3 : FillOk w (A.map tripleV) W
  fp : FillP w A W
  fp3 : FillP w (A.map tripleV) W
  len : W.length ≤ A.length
  lenw : W.length ≤ w
  ent : ∀ v ∈ W, EntB w (2 ^ 14) v
  form : FormOk w A
  form3 : FormOk w (A.map tripleV)
  cls : ClsOk w (formF w A) W 1
  cls3 : ClsOk w (formF w (A.map tripleV)) W 1
  law : LawOk w A
theorem pack {A : List Vec} (w2 : 2 ≤ w) (w4 : w ≤ 4) (h1 : 1 ≤ A.length) (h4 : A.length ≤ 4) (hd : ∀ v ∈ A, Drawn w v) : ∃ W, Pack w A W := by
  have hA : Supp w A := fun v hv => (hd v hv).2
  have ent : ∀ v ∈ A, EntB w 6 v := fun v hv => (hd v hv).1
  obtain ⟨W, f1, f3, fp, l1, l2, eW⟩ := fill6 w2 w4 h1 h4 hA ent
  have fp3 := f3.facts (triple_supp hA)
  have e3 : ∀ v ∈ A, EntB w (2 ^ 3) v := fun v hv => (ent v hv).mono (by decide)
  have e5 : ∀ v ∈ A.map tripleV, EntB w (2 ^ 5) v := fun v hv j hj => by
    obtain ⟨u, hu, rfl⟩ := List.mem_map.mp hv
    show (3 * u j).natAbs ≤ _
    have := ent u hu j hj
    rw [Int.natAbs_mul]
    show 3 * (u j).natAbs ≤ 32
    omega
  have l3 : (A.map tripleV).length ≤ 4 := by rw [List.length_map]; exact h4
  exact ⟨W, f1, f3, fp, fp3, l1, l2, eW, formOk_of w4 e3 (kb_le4 h4 (by decide)), formOk_of w4 e5 (kb_le4 l3 (by decide)), clsOk_of w4 hA e3 (kb_le4 h4 (by decide)) (by omega) fp.ech fp.over fp.back eW,
    clsOk_of w4 (triple_supp hA) e5 (kb_le4 l3 (by decide)) (by omega) fp3.ech fp3.over fp3.back eW, lawOk_of w4 e3 (kz_le4 h4 (by decide))⟩
theorem partsPack {A B U V W : List Vec} (w4 : w ≤ 4) (hA : Supp w A) (hB : Supp w B) (p1 : Pack w A U) (p2 : Pack w B V) (p : Pack w (A ++ B) W) (l1 : U.length ≤ 2) (l2 : V.length ≤ 2) :
    FormOk w (U ++ V) ∧ ClsOk w (formF w (U ++ V)) W 1 ∧ LawOk w (U ++ V) ∧ (∀ v ∈ U ++ V, EntB w (2 ^ 14) v) := by
  have e : ∀ v ∈ U ++ V, EntB w (2 ^ 14) v := fun v hv => (List.mem_append.1 hv).elim (p1.ent v) (p2.ent v)
  have l : (U ++ V).length ≤ 4 := by rw [List.length_append]; omega
  obtain ⟨_, over, back⟩ := parts_eq hA hB p1.fp p2.fp p.fp
  exact ⟨formOk_of w4 e (kb_le4 l (by decide)), clsOk_of w4 (p1.fp.supp.append p2.fp.supp) e (kb_le4 l (by decide)) (by omega) p.fp.ech over back p.ent, lawOk_of w4 e (kz_le4 l (by decide)), e⟩
theorem gcdL_le {l : List Int} {B : Nat} (h : ∀ x ∈ l, x.natAbs ≤ B) : (gcdL l).natAbs ≤ B := by
  by_cases z : ∀ x ∈ l, x = 0
  · have : (0 : Int) ∣ gcdL l := dvd_gcdL fun x hx => by rw [z x hx]; exact Int.dvd_refl 0
    rw [Int.zero_dvd.mp this]; exact Nat.zero_le _
  · obtain ⟨x, hx⟩ := Classical.not_forall.mp z
    obtain ⟨hx, ne⟩ := Classical.not_imp.mp hx
    have dv := Int.natAbs_dvd_natAbs.mpr (gcdL_dvd hx)
    exact Nat.le_trans (Nat.le_of_dvd (by omega) dv) (h x hx)
theorem shared_le {A : List Vec} {r b : Nat} (hr : r ≤ 8) (ent : ∀ v ∈ A, EntB w (2 ^ b) v) : (sharedF A w r).natAbs ≤ 2 ^ ((b + 3) * r) := by
  unfold sharedF
  refine gcdL_le fun x hx => ?_
  by_cases h0 : 0 < r
  · rw [if_pos h0] at hx
    obtain ⟨ls, hls, hx⟩ := List.mem_flatMap.1 hx
    obtain ⟨cs, hcs, rfl⟩ := List.mem_map.1 hx
    obtain ⟨l1, a1⟩ := mem_cols hls
    obtain ⟨l2, a2⟩ := mem_cols hcs
    exact Nat.le_trans (detF_le fun i j hi hj => ent _ (row_mem (a1.1 i hi)) _ (a2.1 j hj)) (facB_bits b r hr)
  · rw [if_neg h0] at hx
    have : x = 1 := by simpa using hx
    rw [this]
    exact Nat.pow_pos (by decide)
end
end K17
end
section
set_option Elab.async false
set_option linter.all false
set_option maxRecDepth 100000
namespace K17
open PySem PySem.Spec PyProof.Rows L2
section
variable {P : Program} {w : World} {K : PySem.W.Frag} {mg : Str → Option Value} {base : Heap}
abbrev nLaw : List Str := ["_law_script", "_law_row", "_law_limit", "_law_wide", "_law_one", "_law_other", "_law_first", "_law_second", "_law_double", "_law_factor", "_law_line", "_law_entry"]
theorem rel_two {α β γ : Type} {R : α → β → Prop} {S : α → γ → Prop} {T : β → γ → Prop} {as : List α} {bs : List β} (h : Rel2 R as bs) (f : ∀ a b c, R a b → S a c → T b c) : ∀ {cs : List γ}, Rel2 S as cs → Rel2 T bs cs := by
  induction h with
  | nil => intro cs k; cases k; exact .nil
  | cons r t ih => intro cs k; cases k with
    | cons r' t' => exact .cons (f _ _ _ r r') (ih t')
theorem vI_al {K : PySem.W.Frag} {H : Hp} {n : Nat} {v : Nat → Int} : Rel2 (AlK K H 0) (vI n v) (vI n v) := by
  unfold vI
  generalize List.range n = l
  induction l with
  | nil => exact .nil
  | cons a l ih => exact .cons ⟨v a, rfl, rfl⟩ ih
theorem row_al {K : PySem.W.Frag} {H : Hp} {n : Nat} {F : List Vec} {xs ys : List V} (hn : n ≤ 8) (h : Rel2 (IsRowT n H) F xs) (k : Rel2 (IsRowT n H) F ys) : Rel2 (AlK K H 1) xs ys := rel_two h (fun v x y hx hy => by
  obtain ⟨p, rfl, hp⟩ := hx
  obtain ⟨q, rfl, hq⟩ := hy
  exact .inr ⟨p, q, _, _, rfl, rfl, .inl (.inl hp), .inl (.inl hq), vI_al, by rw [vI_len]; exact hn⟩) k
theorem scLaw : FnScope nLaw ["_law_script"] (defScope (topS 49)) := ⟨rfl, rfl, rfl, by decide +kernel, rfl, by decide +kernel, by decide +kernel⟩
def spLaw (K : PySem.W.Frag) : L2.Sp := fun vs H Q _ => ∃ (a : Addr) (ns : List Int), vs = [.ref a] ∧ SqL K H a (ns.map V.int) ∧ ns.length ≤ 63 ∧ ∀ H', Q (.bl true) H'
set_option maxHeartbeats 8000000 in
theorem ok_law {f : Addr} {fd : FuncData} {k : Nat} (F : Fun K "law" "law" (topS 49) f fd) (CP : Cal P w K mg base k "_law_pick" ["_law_row", "_law_things"] (spPick K)) (CR : Cal P w K mg base k "_law_rows" ["_law_row", "_law_high", "_law_wide", "_law_most"] (spRw K)) (CT : Cal P w K mg base k "_law_taken" ["_law_row", "_law_many"] (spTk K))
    (CA : Cal P w K mg base k "_law_alike" ["_law_found", "_law_due"] (spAl K 3)) (CPa : Cal P w K mg base k "parts_of" ["limit", "one", "other"] (spParts K)) (CS : Cal P w K mg base k "_law_shared" ["_law_rows_here", "_law_wide"] (spSh K)) (CM : Cal P w K mg base k "maps_of" ["limit", "rows"] (spMaps K))
    (CC : Cal P w K mg base k "contorted" ["limit", "rows"] (spCont K)) (CMa : Cal P w K mg base k "made_by" ["limit", "one", "other"] (spMade K)) (CE : Cal P w K mg base k "either" ["limit", "one", "other"] (spEither K)) (CPo : Cal P w K mg base k "_law_power" ["_law_base", "_law_exponent"] spPow) (CRk : Cal P w K mg base k "_law_rank" ["_law_rows_here"] (spRk K))
    (ml : mg "len" = none) (mt : mg "tuple" = none) : FnOk P w K mg base CX0 (k + 1) f fd ["_law_script"] (spLaw K) := by
  obtain ⟨f1, fd1, G1, g1, k1, b1⟩ := CP
  obtain ⟨f2, fd2, G2, g2, k2, b2⟩ := CR
  obtain ⟨f3, fd3, G3, g3, k3, b3⟩ := CT
  obtain ⟨f4, fd4, G4, g4, k4, b4⟩ := CA
  obtain ⟨f5, fd5, G5, g5, k5, b5⟩ := CPa
  obtain ⟨f6, fd6, G6, g6, k6, b6⟩ := CS
  obtain ⟨f7, fd7, G7, g7, k7, b7⟩ := CM
  obtain ⟨f8, fd8, G8, g8, k8, b8⟩ := CC
  obtain ⟨f9, fd9, G9, g9, k9, b9⟩ := CMa
  obtain ⟨f10, fd10, G10, g10, k10, b10⟩ := CE
  obtain ⟨f11, fd11, G11, g11, k11, b11⟩ := CPo
  obtain ⟨f12, fd12, G12, g12, k12, b12⟩ := CRk
  refine F.ok scLaw (fun vs H Q E h => ?_) (fun cdv A outer s H vs Q E hr h => ?_)
  · obtain ⟨_, _, rfl, _⟩ := h
    rfl
  · obtain ⟨a, ns, rfl, hA, hn, q⟩ := h
    have nd := scLaw.nd
    refine ⟨_, pss_cons (ps_set (i := 1) nd rfl (.inl rfl) (pe_lst (pa_cons (pv 0) (pa_cons pe_int (pa_cons pe_int (pa_cons pe_int pa_nil))))))
      (pss_cons (ps_set (i := 2) nd rfl (.inl rfl) (pe_call G1 hr (by rfl) g1 k1 b1 .nil pass0 (pa_cons (pv 1) (pa_cons (pe_lst (pa_cons (pe_tup (pa_cons pe_int (pa_cons pe_int pa_nil))) (pa_cons (pe_tup (pa_cons pe_int (pa_cons pe_int (pa_cons pe_int pa_nil)))) (pa_cons (pe_tup (pa_cons pe_int (pa_cons pe_int (pa_cons pe_int (pa_cons pe_int pa_nil))))) pa_nil)))) pa_nil))))
      (pss_cons (ps_set (i := 3) nd rfl (.inl rfl) (pe_callB (cLen K) (by rfl) ml PySem.boot_len (pa_cons (pv 2) pa_nil)))
      (pss_cons (ps_par (i := 4) (j := 5) rfl nd rfl rfl (by decide) rfl rfl (pa_cons (pe_call G2 hr (by rfl) g2 k2 b2 .nil pass0 (pa_cons (pv 1) (pa_cons (pe_op op_add pe_int (pe_call G3 hr (by rfl) g3 k3 b3 .nil pass0 (pa_cons (pv 1) (pa_cons pe_int pa_nil)))) (pa_cons (pv 3) (pa_cons pe_int pa_nil)))))
        (pa_cons (pe_call G2 hr (by rfl) g2 k2 b2 .nil pass0 (pa_cons (pv 1) (pa_cons (pe_op op_add pe_int (pe_call G3 hr (by rfl) g3 k3 b3 .nil pass0 (pa_cons (pv 1) (pa_cons pe_int pa_nil)))) (pa_cons (pv 3) (pa_cons pe_int pa_nil))))) pa_nil)) rfl)
      (pss_cons (ps_if (pt_not (pt_val (pe_call G4 hr (by rfl) g4 k4 b4 .nil pass0 (pa_cons (pe_call G5 hr (by rfl) g5 k5 b5 .nil pass0 (pa_cons (pv 2) (pa_cons (pv 4) (pa_cons (pv 5) pa_nil))))
        (pa_cons (pe_call G6 hr (by rfl) g6 k6 b6 .nil pass0 (pa_cons (pe_op (iCatA K) (pe_call G7 hr (by rfl) g7 k7 b7 .nil pass0 (pa_cons (pv 2) (pa_cons (pv 4) pa_nil))) (pe_call G7 hr (by rfl) g7 k7 b7 .nil pass0 (pa_cons (pv 2) (pa_cons (pv 5) pa_nil)))) (pa_cons (pv 3) pa_nil))) pa_nil))))) pss_never pss_nil)
      (pss_cons (ps_if (pt_not (pt_val (pe_call G4 hr (by rfl) g4 k4 b4 .nil pass0 (pa_cons (pe_call G8 hr (by rfl) g8 k8 b8 .nil pass0 (pa_cons (pv 2) (pa_cons (pv 4) pa_nil)))
        (pa_cons (pe_call G6 hr (by rfl) g6 k6 b6 .nil pass0 (pa_cons (pv 4) (pa_cons (pv 3) pa_nil))) pa_nil))))) pss_never pss_nil)
      (pss_cons (ps_par (i := 6) (j := 7) rfl nd rfl rfl (by decide) rfl rfl (pa_cons (pe_ix (iT K) (pv 4) pe_int (fun _ _ => rfl)) (pa_cons (pe_ix (iT K) (pv 5) pe_int (fun _ _ => rfl)) pa_nil)) rfl)
      (pss_cons (ps_if (pt_not (pt_val (pe_call G4 hr (by rfl) g4 k4 b4 .nil pass0 (pa_cons (pe_call G9 hr (by rfl) g9 k9 b9 .nil pass0 (pa_cons (pv 2) (pa_cons (pv 6) (pa_cons (pv 7) pa_nil))))
        (pa_cons (pe_tup (pa_cons (pe_call G10 hr (by rfl) g10 k10 b10 .nil pass0 (pa_cons (pv 2) (pa_cons (pe_tup (pa_cons (pv 6) pa_nil)) (pa_cons (pe_tup (pa_cons (pv 7) pa_nil)) pa_nil))))
          (pa_cons (pe_call G6 hr (by rfl) g6 k6 b6 .nil pass0 (pa_cons (pe_tup (pa_cons (pv 6) (pa_cons (pv 7) pa_nil))) (pa_cons (pv 3) pa_nil))) pa_nil))) pa_nil))))) pss_never pss_nil)
      (pss_cons (ps_set (i := 8) nd rfl (.inl rfl) (pe_callTy (cTup K) (by rfl) mt PyProof.Rows.boot_tuple (pa_cons (pe_lc (own := [("_law_line", 10)]) (g := gName 10) (tt := tYes) rfl nd (pi_tup (pv 4)) (blkOk_by (N := nLaw) (sc := defScope (topS 49)) (by decide +kernel)) (fun _ _ _ _ _ => pg_name (i := 10) nd rfl (Or.inl rfl)) (fun _ _ _ _ _ => pts_nil)
        (fun _ _ _ _ _ => pe_callTy (cTup K) (by rfl) mt PyProof.Rows.boot_tuple (pa_cons (pe_lc (own := [("_law_entry", 11)]) (g := gName 11) (tt := tYes) rfl nd (piT K (pv 10)) (blkOk_by (by rfl)) (fun _ _ _ _ _ => pg_name (i := 11) nd rfl (Or.inl rfl)) (fun _ _ _ _ _ => pts_nil)
          (fun _ _ _ _ _ => pe_op op_mulX pe_int (pv 11))) pa_nil))) pa_nil)))
      (pss_cons (ps_set (i := 9) nd rfl (.inl rfl) (pe_call G11 hr (by rfl) g11 k11 b11 .nil pass0 (pa_cons pe_int (pa_cons (pe_call G12 hr (by rfl) g12 k12 b12 .nil pass0 (pa_cons (pv 4) pa_nil)) pa_nil))))
      (pss_one (ps_ret (pe_and (pe_cmpR op_eq (pe_call G8 hr (by rfl) g8 k8 b8 .nil pass0 (pa_cons (pv 2) (pa_cons (pv 8) pa_nil))) (pe_op op_mulX (pv 9) (pe_call G8 hr (by rfl) g8 k8 b8 .nil pass0 (pa_cons (pv 2) (pa_cons (pv 4) pa_nil)))) (nomark _))
        (pe_one (pe_cmpR op_eq (pe_call G5 hr (by rfl) g5 k5 b5 .nil pass0 (pa_cons (pv 2) (pa_cons (pv 4) (pa_cons (pv 4) pa_nil)))) pe_int (nomark _))))))))))))))), ?_⟩
    have k1000 : (1000 : Nat) < sizeLine := by decide
    -- the row of the draws
    refine ⟨_, rfl, by show 4 ≤ sizeLine; omega, fun r nr => ?_⟩
    have tk0 : TkS (upd H r (.lst (tkL a 0 4217 0))) r a := ⟨0, 4217, 0, upd_same, by decide, by decide, by decide⟩
    have hS : SqL K (hide r (upd H r (.lst (tkL a 0 4217 0)))) a (ns.map V.int) := by
      rw [hide_self]
      exact (same_to_hide (Same.refl H) nr).seq hA
    dsimp only
    show tSeq _ _ _ _ (upd H r (.lst (tkL a 0 4217 0)))
    generalize upd H r (.lst (tkL a 0 4217 0)) = H1 at tk0 hS
    -- the limit
    refine ⟨_, rfl, by show 2 ≤ sizeLine; omega, fun t1 n1 => ⟨by show 3 ≤ sizeLine; omega, fun t2 n2 => ⟨by show 4 ≤ sizeLine; omega, fun t3 n3 => ⟨by show 3 ≤ sizeLine; omega, fun pg npg => ?_⟩⟩⟩⟩
    have r1 := tk0.ne n1
    have tk1 := tk0.upd (o := .tup [.int 2, .int 3]) r1
    have u1 := same_new (o := .tup [.int 2, .int 3]) n1
    have x1 : upd H1 t1 (.tup [.int 2, .int 3]) t1 = some (.tup [.int 2, .int 3]) := upd_same
    generalize upd H1 t1 (.tup [.int 2, .int 3]) = H2 at n2 n3 npg tk1 u1 x1 ⊢
    have r2 := tk1.ne n2
    have tk2 := tk1.upd (o := .tup [.int 2, .int 3, .int 5]) r2
    have u2 := same_new (o := .tup [.int 2, .int 3, .int 5]) n2
    have x2 : upd H2 t2 (.tup [.int 2, .int 3, .int 5]) t2 = some (.tup [.int 2, .int 3, .int 5]) := upd_same
    generalize upd H2 t2 (.tup [.int 2, .int 3, .int 5]) = H3 at n3 npg tk2 u2 x2 ⊢
    have r3 := tk2.ne n3
    have tk3 := tk2.upd (o := .tup [.int 2, .int 3, .int 5, .int 7]) r3
    have u3 := same_new (o := .tup [.int 2, .int 3, .int 5, .int 7]) n3
    have x3 : upd H3 t3 (.tup [.int 2, .int 3, .int 5, .int 7]) t3 = some (.tup [.int 2, .int 3, .int 5, .int 7]) := upd_same
    generalize upd H3 t3 (.tup [.int 2, .int 3, .int 5, .int 7]) = H4 at npg tk3 u3 x3 ⊢
    have r4 := tk3.ne npg
    have tk4 := tk3.upd (o := .lst [.ref t1, .ref t2, .ref t3]) r4
    have u4 := same_new (o := .lst [.ref t1, .ref t2, .ref t3]) npg
    have x4 : upd H4 pg (.lst [.ref t1, .ref t2, .ref t3]) pg = some (.lst [.ref t1, .ref t2, .ref t3]) := upd_same
    generalize upd H4 pg (.lst [.ref t1, .ref t2, .ref t3]) = H5 at tk4 u4 x4 ⊢
    have uu := u1.trans (u2.trans (u3.trans u4))
    have hS5 := (same_hide (D := r) uu).seq hS
    have y1 : hide r H5 t1 = some (.tup [.int 2, .int 3]) := by rw [hide_ne r1]; exact (u2.trans (u3.trans u4)) _ _ x1
    have y2 : hide r H5 t2 = some (.tup [.int 2, .int 3, .int 5]) := by rw [hide_ne r2]; exact (u3.trans u4) _ _ x2
    have y3 : hide r H5 t3 = some (.tup [.int 2, .int 3, .int 5, .int 7]) := by rw [hide_ne r3]; exact u4 _ _ x3
    have y4 : hide r H5 pg = some (.lst [.ref t1, .ref t2, .ref t3]) := by rw [hide_ne r4]; exact x4
    refine ⟨r, a, pg, ns, _, rfl, tk4, hS5, hn, y4, by simp, by simp, fun i v o hv tk5 => ?_⟩
    obtain ⟨pl, ls, rfl, hl, hL0⟩ : ∃ pl ls, v = .ref pl ∧ Lims ls ∧ SqT K (hide r H5) pl (ls.map V.int) := by
      have i3 : i < 3 := by have := (List.getElem?_eq_some_iff.1 hv).1; simpa using this
      have : i = 0 ∨ i = 1 ∨ i = 2 := by omega
      rcases this with rfl | rfl | rfl
      · cases hv; exact ⟨t1, [2, 3], rfl, .inl rfl, .inl (.inl y1)⟩
      · cases hv; exact ⟨t2, [2, 3, 5], rfl, .inr (.inl rfl), .inl (.inl y2)⟩
      · cases hv; exact ⟨t3, [2, 3, 5, 7], rfl, .inr (.inr rfl), .inl (.inl y3)⟩
    clear y1 y2 y3 y4 x1 x2 x3 x4 u1 u2 u3 u4 uu tk0 tk1 tk2 tk3 tk4 hS hv
    have hS6 : SqL K (hide r (upd H5 r o)) a (ns.map V.int) := by rw [hide_self]; exact hS5
    have hL6 : SqT K (hide r (upd H5 r o)) pl (ls.map V.int) := by rw [hide_self]; exact hL0
    dsimp only
    generalize upd H5 r o = H6 at tk5 hS6 hL6
    clear hS5 hL0
    have hlen := hl.len
    refine ⟨_, rfl, pl, _, rfl, .inr (same_seqT hide_sub hL6), ?_⟩
    rw [List.length_map]
    -- the rows
    refine ⟨_, rfl, _, rfl, r, a, 2, ns, rfl, tk5, hS6, hn, by decide, by decide, fun v o v0 v2 tk6 => ⟨_, _, rfl, rfl, _, rfl, ?_⟩⟩
    obtain ⟨h1, rfl⟩ : ∃ h : Nat, v = (h : Int) := ⟨v.toNat, by omega⟩
    have hS7 : SqL K (hide r (upd H6 r o)) a (ns.map V.int) := by rw [hide_self]; exact hS6
    have hL7 : SqT K (hide r (upd H6 r o)) pl (ls.map V.int) := by rw [hide_self]; exact hL6
    generalize upd H6 r o = H7 at tk6 hS7 hL7
    refine ⟨r, a, 1 + h1, ls.length, ns, congrArg (fun z : Int => [V.ref r, V.int z, V.int ((ls.length : Nat) : Int), V.int 6]) (show (1 : Int) + ((h1 : Nat) : Int) = ((1 + h1 : Nat) : Int) by omega), tk6, hS7, hn, by omega, by omega, fun H8 p1 ts1 A1 s8 tk8 e8 rel1 la1 dr1 => ?_⟩
    have hS8 := s8.seq hS7
    refine ⟨_, rfl, _, rfl, r, a, 2, ns, rfl, tk8, hS8, hn, by decide, by decide, fun v o v0 v2 tk9 => ⟨_, _, rfl, rfl, _, rfl, ?_⟩⟩
    obtain ⟨h2, rfl⟩ : ∃ h : Nat, v = (h : Int) := ⟨v.toNat, by omega⟩
    have s89 := same_self (H := H8) (r := r) (o := o)
    have hS9 := s89.seq hS8
    have hL9 := same_seqT (s8.trans s89) hL7
    have e9 := s89 _ _ e8
    have rel9 : Rel2 (IsRowT ls.length (hide r (upd H8 r o))) A1 ts1 := rel1.imp fun _ _ q => q.same s89
    generalize upd H8 r o = H9 at tk9 hS9 hL9 e9 rel9
    refine ⟨r, a, 1 + h2, ls.length, ns, congrArg (fun z : Int => [V.ref r, V.int z, V.int ((ls.length : Nat) : Int), V.int 6]) (show (1 : Int) + ((h2 : Nat) : Int) = ((1 + h2 : Nat) : Int) by omega), tk9, hS9, hn, by omega, by omega, fun B p2 ts2 A2 sB tkB eB relB la2 dr2 => ?_⟩
    have hL : SqT K B pl (ls.map V.int) := same_seqT (sB.trans hide_sub) hL9
    have eM1 : B p1 = some (.tup ts1) := hide_sub _ _ (sB _ _ e9)
    have rM1 : Rel2 (IsRowT ls.length B) A1 ts1 := rel9.imp fun _ _ q => q.same (sB.trans hide_sub)
    have eM2 : B p2 = some (.tup ts2) := hide_sub _ _ eB
    have rM2 : Rel2 (IsRowT ls.length B) A2 ts2 := relB.imp fun _ _ q => q.same hide_sub
    clear hS9 hL9 e9 rel9 tk9 s89 hS8 e8 rel1 tk8 s8 hS7 hL7 tk6 hL6 hS6 tk5 sB tkB eB relB
    have big : ∀ {A : List Vec}, (∀ v ∈ A, Drawn ls.length v) → ∀ v ∈ A, ∀ j, j < ls.length → (v j).natAbs ≤ 9999 := fun h v hv j hj => Nat.le_trans ((h v hv).1 j hj) (by decide)
    have M1 : TMat K ls.length B p1 A1 := ⟨⟨ts1, .inl (.inl eM1), rM1.imp fun _ _ q => q.toT⟩, by omega, by omega, by omega, by omega, big dr1⟩
    have M2 : TMat K ls.length B p2 A2 := ⟨⟨ts2, .inl (.inl eM2), rM2.imp fun _ _ q => q.toT⟩, by omega, by omega, by omega, by omega, big dr2⟩
    have dr12 : ∀ v ∈ A1 ++ A2, Drawn ls.length v := fun v hv => (List.mem_append.1 hv).elim (dr1 v) (dr2 v)
    have dr11 : ∀ v ∈ A1 ++ A1, Drawn ls.length v := fun v hv => (List.mem_append.1 hv).elim (dr1 v) (dr1 v)
    have sup1 : Supp ls.length A1 := fun v hv => (dr1 v hv).2
    have sup2 : Supp ls.length A2 := fun v hv => (dr2 v hv).2
    obtain ⟨U, pU⟩ := pack hlen.1 hlen.2 (by omega) (by omega) dr1
    obtain ⟨Z, pZ⟩ := pack hlen.1 hlen.2 (by omega) (by omega) dr2
    obtain ⟨W, pW⟩ := pack hlen.1 hlen.2 (by rw [List.length_append]; omega) (by rw [List.length_append]; omega) dr12
    obtain ⟨W1, pW1⟩ := pack hlen.1 hlen.2 (by rw [List.length_append]; omega) (by rw [List.length_append]; omega) dr11
    have lU := pU.len
    have lZ := pZ.len
    obtain ⟨fo, co, lo, en⟩ := partsPack hlen.2 sup1 sup2 pU pZ pW (by omega) (by omega)
    obtain ⟨fo1, co1, _, _⟩ := partsPack hlen.2 sup1 sup1 pU pU pW1 (by omega) (by omega)
    have bits : ∀ {A : List Vec}, (∀ v ∈ A, EntB ls.length (2 ^ 14) v) → ∀ v ∈ A, EntB ls.length (2 ^ 20) v := fun h v hv => (h v hv).mono (by decide)
    have six : ∀ {A : List Vec}, (∀ v ∈ A, Drawn ls.length v) → ∀ v ∈ A, EntB ls.length (2 ^ 20) v := fun h v hv => (h v hv).1.mono (by decide)
    -- parts_of
    refine ⟨_, _, rfl, _, rfl, _, rfl, _, rfl, pl, p1, p2, ls, A1, A2, W, U, Z, rfl, hL, hl, M1, M2, by rw [List.length_append]; omega, pW.fo, pU.fo, pZ.fo, by rw [List.length_append]; omega, fo, co, fun C1 c1 => ?_⟩
    refine joinE (te := tOp _ _ _) (fun v G => ∃ p ys, v = .ref p ∧ Same C1 G ∧ SqT K G p ys ∧ Rel2 (IsTupE K ls.length G) (U ++ Z) ys) (fun Q' hk2 => ?_) (fun v C4 hR => ?_)
    · refine ⟨_, rfl, _, rfl, pl, p1, ls, A1, U, rfl, same_seqT c1 hL, hl, M1.same c1, pU.fo, by omega, fun C2 q1 us c2 nq1 eq1 ru => ?_⟩
      refine ⟨_, rfl, _, rfl, pl, p2, ls, A2, Z, rfl, same_seqT (c1.trans c2) hL, hl, M2.same (c1.trans c2), pZ.fo, by omega, fun C3 q2 zs c3 nq2 eq2 rz => ?_⟩
      have eq1' := c3 _ _ eq1
      have ru' : Rel2 (IsTupE K ls.length C3) U us := ru.imp fun _ _ q => (q.same c3).toT
      have rz' : Rel2 (IsTupE K ls.length C3) Z zs := rz.imp fun _ _ q => q.toT
      have l1 := ru.len
      have l2 := rz.len
      have rel := Rel2.app ru' rz'
      refine ⟨q1, q2, us, zs, rfl, rfl, .inl (.inl eq1'), .inl (.inl eq2), by omega, fun e => hk2 _ _ ⟨q2, us ++ zs, rfl, c2.trans c3, ?_, rel⟩, fun _ e => hk2 _ _ ⟨q1, us ++ zs, rfl, c2.trans c3, ?_, rel⟩, fun _ _ p np => hk2 _ _ ⟨p, us ++ zs, rfl, (c2.trans c3).trans (same_new np), .inl (.inl upd_same), rel.imp fun _ _ q => q.same (same_new np)⟩⟩
      · rw [e]; exact .inl (.inl eq2)
      · rw [e, List.append_nil]; exact .inl (.inl eq1')
    · obtain ⟨pq, yq, rfl, c4, hpq, hrel⟩ := hR
      have eq1 := (parts_eq sup1 sup2 pU.fp pZ.fp pW.fp).1
      have eq2 := contorted_eq sup1 pU.fp
      refine ⟨_, rfl, ls.length, pq, U ++ Z, yq, rfl, hpq, hrel, by rw [List.length_append]; omega, hlen.2, lo, bits en, fun C5 c5 => ?_⟩
      refine ⟨_, _, rfl, .inl ⟨_, rfl, congrArg V.int eq1.symm⟩, fun C6 c6 => ⟨true, rfl, iteF ?_⟩⟩
      have cB := c1.trans (c4.trans (c5.trans c6))
      clear c1 c4 c5 c6 hpq hrel
      have hL2 := same_seqT cB hL
      have N1 := M1.same cB
      have N2 := M2.same cB
      have eN1 := cB _ _ eM1
      have eN2 := cB _ _ eM2
      have rN1 : Rel2 (IsRowT ls.length C6) A1 ts1 := rM1.imp fun _ _ q => q.same cB
      have rN2 : Rel2 (IsRowT ls.length C6) A2 ts2 := rM2.imp fun _ _ q => q.same cB
      clear cB hL M1 M2 eM1 eM2 rM1 rM2
      -- contorted
      refine ⟨_, rfl, _, rfl, pl, p1, ls, A1, U, rfl, hL2, hl, N1, pU.fo, by omega, pU.form, pU.cls, fun C7 c7 => ?_⟩
      refine ⟨_, rfl, _, rfl, ls.length, p1, A1, ts1, rfl, .inl (.inl (c7 _ _ eN1)), rN1.imp fun _ _ q => (q.same c7).toT, by omega, hlen.2, pU.law, six dr1, fun C8 c8 => ?_⟩
      refine ⟨_, _, rfl, .inl ⟨_, rfl, congrArg V.int eq2.symm⟩, fun C9 c9 => ⟨true, rfl, iteF ?_⟩⟩
      have cC := c7.trans (c8.trans c9)
      have hL3 := same_seqT cC hL2
      have O1 := N1.same cC
      have O2 := N2.same cC
      have eO1 := cC _ _ eN1
      have eO2 := cC _ _ eN2
      have rO1 : Rel2 (IsRowT ls.length C9) A1 ts1 := rN1.imp fun _ _ q => q.same cC
      have rO2 : Rel2 (IsRowT ls.length C9) A2 ts2 := rN2.imp fun _ _ q => q.same cC
      clear cC hL2 N1 N2 eN1 eN2 rN1 rN2 c7 c8 c9
      -- first, second
      have pos1 : 0 < A1.length := by omega
      have pos2 : 0 < A2.length := by omega
      obtain ⟨_, g0, a1, rfl, ha1⟩ := rO1.get (i := 0) (List.getElem?_eq_getElem pos1)
      obtain ⟨_, g0', a2, rfl, ha2⟩ := rO2.get (i := 0) (List.getElem?_eq_getElem pos2)
      have du : Drawn ls.length A1[0] := dr1 _ (List.getElem_mem pos1)
      have dv : Drawn ls.length A2[0] := dr2 _ (List.getElem_mem pos2)
      generalize A1[0] = u at ha1 du
      generalize A2[0] = v at ha2 dv
      have duv : ∀ x ∈ [u, v], Drawn ls.length x := fun x hx => by
        rcases List.mem_cons.1 hx with rfl | hx
        · exact du
        · rcases List.mem_cons.1 hx with rfl | hx
          · exact dv
          · simp at hx
      obtain ⟨F2, pF⟩ := pack hlen.1 hlen.2 (show 1 ≤ [u, v].length by simp) (by simp) duv
      have lF := pF.len
      have lF2 : F2.length ≤ 2 := lF
      have supF : Supp ls.length [u, v] := fun x hx => (duv x hx).2
      have eq3 := contorted_eq supF pF.fp
      refine ⟨_, rfl, p1, ts1, 0, _, rfl, rfl, .inl (.inl eO1), atI_nat (j := 0) g0, _, rfl, p2, ts2, 0, _, rfl, rfl, .inl (.inl eO2), atI_nat (j := 0) g0', _, _, rfl, ?_⟩
      -- made_by
      have e99 : ∀ j, j < ls.length → (u j).natAbs ≤ 9999 ∧ (v j).natAbs ≤ 9999 := fun j hj => ⟨Nat.le_trans (du.1 j hj) (by decide), Nat.le_trans (dv.1 j hj) (by decide)⟩
      refine ⟨_, rfl, _, rfl, _, rfl, pl, a1, a2, ls, u, v, F2, rfl, hL3, hl, .inl (.inl ha1), .inl (.inl ha2), e99, pF.fo, by omega, pF.form, pF.cls, fun D1 pm qm tm d1 em eqm rm => ?_⟩
      -- either
      refine ⟨_, rfl, _, rfl, by show 1 ≤ sizeLine; omega, fun q1 nq1 => ⟨_, rfl, by show 1 ≤ sizeLine; omega, fun q2 nq2 => ?_⟩⟩
      have w1 := same_new (o := .tup [.ref a1]) nq1
      have w2 := same_new (o := .tup [.ref a2]) nq2
      have d2 := d1.trans (w1.trans w2)
      have one : ∀ {H' : Hp} {t b : Addr} {x : Vec}, H' t = some (.tup [.ref b]) → H' b = some (.tup (vI ls.length x)) → (∀ j, j < ls.length → (x j).natAbs ≤ 9999) → TMat K ls.length H' t [x] := fun e1 e2 e3 =>
        ⟨⟨_, .inl (.inl e1), .one ⟨_, rfl, .inl (.inl e2)⟩⟩, by simp, by simp, by omega, by omega, fun z hz j hj => by
          rw [List.mem_singleton] at hz
          rw [hz]; exact e3 j hj⟩
      refine ⟨pl, q1, q2, ls, [u], [v], F2, rfl, same_seqT d2 hL3, hl, one (w2 _ _ upd_same) (d2 _ _ ha1) (fun j hj => (e99 j hj).1), one upd_same (d2 _ _ ha2) (fun j hj => (e99 j hj).2), by simp, pF.fo, by omega, fun D2 pe te d3 _ epe re => ?_⟩
      refine ⟨_, rfl, _, rfl, by show 2 ≤ sizeLine; omega, fun q3 nq3 => ?_⟩
      have w3 := same_new (o := .tup [.ref a1, .ref a2]) nq3
      have d4 := d2.trans (d3.trans w3)
      refine ⟨_, rfl, ls.length, q3, [u, v], [.ref a1, .ref a2], rfl, .inl (.inl upd_same), .cons ⟨a1, rfl, .inl (.inl (d4 _ _ ha1))⟩ (.one ⟨a2, rfl, .inl (.inl (d4 _ _ ha2))⟩), by simp, hlen.2, pF.law, six duv, fun D3 d5 => ⟨by show 2 ≤ sizeLine; omega, fun q4 nq4 => ?_⟩⟩
      have w4 := same_new (o := .tup [.ref pe, .int (sharedF [u, v] ls.length (lawF ls.length [u, v]).length)]) nq4
      have dm := (w1.trans w2).trans (d3.trans (w3.trans (d5.trans w4)))
      have de := w3.trans (d5.trans w4)
      have rm' : Rel2 (IsRowT ls.length _) F2 tm := rm.imp fun _ _ q => q.same dm
      have re' : Rel2 (IsRowT ls.length _) F2 te := re.imp fun _ _ q => q.same de
      have lte := re.len
      refine ⟨_, _, rfl, .inr ⟨pm, q4, _, _, rfl, rfl, .inl (.inl (dm _ _ em)), .inl (.inl upd_same), .cons (.inr ⟨qm, pe, tm, te, rfl, rfl, .inl (.inl (dm _ _ eqm)), .inl (.inl (de _ _ epe)), row_al (by omega) rm' re', by omega⟩) (.one (.inl ⟨_, rfl, congrArg V.int eq3.symm⟩)), by simp⟩, fun D4 d6 => ⟨true, rfl, iteF ?_⟩⟩
      have cD := d1.trans (dm.trans d6)
      have hL4 := same_seqT cD hL3
      have P1 := O1.same cD
      have eP1 := cD _ _ eO1
      have rP1 : Rel2 (IsRowT ls.length D4) A1 ts1 := rO1.imp fun _ _ q => q.same cD
      clear cD hL3 O1 O2 eO1 eO2 rO1 rO2 d1 d2 d3 d4 d5 d6 w1 w2 w3 w4 dm de rm' re' rm re em eqm epe
      -- double
      refine ⟨_, rfl, p1, rfl, ⟨_, .inl (.inl eP1)⟩, fun D nD => ?_⟩
      refine lc_map (zs := A1) (by rw [rP1.len]; exact walk_tup (xs := ts1)) (fun v y H => IsRowT ls.length H (tripleV v) y) (fun _ _ _ _ q s => q.same s) nD (by omega) (fun _ s => same_seqT s (show SqT K D4 p1 ts1 from .inl (.inl eP1))) (fun i z x E1 E2 Qb hz s1 hacc y qb => ?_) (fun E1 as s1 e1 r1 => ?_)
      · obtain ⟨rfl, hy⟩ := y
        obtain ⟨b', hb, p, rfl, hp⟩ := rP1.get hz
        cases Option.some.inj (hy.symm.trans hb)
        obtain ⟨acc, hacc⟩ := hacc
        have hp1 := s1 _ _ hp
        have dz : Drawn ls.length z := dr1 _ (List.mem_of_getElem? hz)
        refine ⟨rfl, _, rfl, p, rfl, ⟨_, .inl (.inl hp1)⟩, fun D' nD' => ?_⟩
        refine lc_map (zs := List.range ls.length) (Y := YAt (vI ls.length z)) (by have := walk_tup (K := K) (a := p) (xs := vI ls.length z); rw [vI_len] at this; rw [List.length_range]; exact this) (fun j y _ => y = V.int (tripleV z j)) (fun _ _ _ _ q _ => q) nD' (by simp; omega) (fun _ s => same_seqT s (show SqT K _ p (vI ls.length z) from .inl (.inl hp1))) (fun j z2 x E3 E4 Qb2 hz2 s3 hacc2 y2 qb2 => ?_) (fun E3 bs s3 e3 r3 => ?_)
        · obtain ⟨rfl, hy2⟩ := y2
          obtain ⟨rfl, hj⟩ := range_at hz2
          cases Option.some.inj (hy2.symm.trans (vI_get hj))
          have := dz.1 z2 hj
          have hm : MulFit 3 (z z2) := mul_fit (a := 2) (b := 3) (by decide) (Nat.le_trans this (by decide)) (by decide)
          exact ⟨rfl, _, rfl, _, _, rfl, rfl, hm, qb2 _ _ (Same.refl _) rfl⟩
        · refine ⟨D', bs, rfl, .inl ⟨.inl (.inl e3), fun l nl => ?_⟩⟩
          have nlD : l ≠ D := fun e => by
            have := s3 _ _ hacc
            rw [← e, nl] at this; cases this
          refine qb _ _ (s3.trans (same_new nl)) ⟨l, rfl, ?_⟩
          rw [hide_ne nlD, upd_same, vI_of r3]
      · refine ⟨D, as, rfl, .inl ⟨.inl (.inl e1), fun pd npd => ?_⟩⟩
        have sd := same_new (o := .tup as) npd
        have cE := s1.trans sd
        have r1 : Rel2 (IsRowT ls.length (upd E1 pd (.tup as))) (A1.map tripleV) as := Rel2.mapL.2 (r1.imp fun _ _ q => (q.same hide_sub).same sd)
        have eD : upd E1 pd (.tup as) pd = some (.tup as) := upd_same
        have hL5 := same_seqT cE hL4
        have R1 := P1.same cE
        have eR1 := cE _ _ eP1
        have rR1 : Rel2 (IsRowT ls.length (upd E1 pd (.tup as))) A1 ts1 := rP1.imp fun _ _ q => q.same cE
        have MD : TMat K ls.length (upd E1 pd (.tup as)) pd (A1.map tripleV) := ⟨⟨as, .inl (.inl eD), r1.imp fun _ _ q => q.toT⟩, by rw [List.length_map]; omega, by rw [List.length_map]; omega, by omega, by omega, fun x hx j hj => by
          obtain ⟨x', hx', rfl⟩ := List.mem_map.1 hx
          have := (dr1 x' hx').1 j hj
          show (3 * x' j).natAbs ≤ 9999
          omega⟩
        generalize upd E1 pd (.tup as) = G0 at hL5 R1 eR1 rR1 MD
        clear r1 eD cE sd npd P1 eP1 rP1 hL4 nD
        have lw8 : (lawF ls.length A1).length ≤ 8 := by have := lawF_le (n := ls.length) (rows := A1); omega
        -- factor
        refine ⟨_, rfl, ls.length, p1, A1, ts1, rfl, .inl (.inl eR1), rR1.imp fun _ _ q => q.toE, by omega, by omega, pU.law, fun G1 z1 => ⟨_, rfl, lw8, ?_⟩⟩
        -- the end
        have eq4 := contorted_triple sup1 pU.fp pU.fp3
        have eq5 := parts_same sup1 pU.fp pW1.fp
        have sb := shared_le (w := ls.length) (r := (lawF ls.length A1).length) (b := 20) lw8 (six dr1)
        rw [← eq2] at sb
        refine ⟨_, rfl, _, rfl, pl, pd, ls, A1.map tripleV, U, rfl, same_seqT z1 hL5, hl, MD.same z1, pU.fo3, by omega, pU.form3, pU.cls3, fun G2 z2 => ?_⟩
        have z12 := z1.trans z2
        refine ⟨_, rfl, _, rfl, _, rfl, pl, p1, ls, A1, U, rfl, same_seqT z12 hL5, hl, R1.same z12, pU.fo, by omega, pU.form, pU.cls, fun G3 z3 => ?_⟩
        have z13 := z12.trans z3
        refine ⟨_, _, rfl, rfl, mul_fit (a := 2 * (lawF ls.length A1).length) ?_ sb (by omega), rfl, true, congrArg V.bl (decide_eq_true (congrArg V.int eq4)), iteT ?_⟩
        · rw [Int.natAbs_pow]
          show 3 ^ _ ≤ _
          rw [Nat.pow_mul]
          exact Nat.pow_le_pow_left (by decide) _
        · refine ⟨_, rfl, _, rfl, _, rfl, pl, p1, p1, ls, A1, A1, W1, U, U, rfl, same_seqT z13 hL5, hl, R1.same z13, R1.same z13, by rw [List.length_append]; omega, pW1.fo, pU.fo, pU.fo, by rw [List.length_append]; omega, fo1, co1, fun G4 z4 => ?_⟩
          exact ⟨rfl, qeq (congrArg V.bl (decide_eq_true (congrArg V.int eq5))) (q _)⟩
end
end K17
end
set_option Elab.async false
set_option linter.all false
set_option maxRecDepth 100000
namespace K17
open PySem PySem.Spec PyProof.Rows L2
theorem detA {P : Program} {w : World} {K : PySem.W.Frag} {mg : Str → Option Value} {base : Heap} {k : Nat} {f : Addr} {fd : FuncData} (h : ∀ n, n ≤ 4 → FnOk P w K mg base CX0 k f fd ["_law_rows_here"] (spDet K n)) : FnOk P w K mg base CX0 k f fd ["_law_rows_here"] (spDetA K) :=
  ⟨fun vs H Q E ⟨n, hn, q⟩ => (h n hn).len _ _ _ _ q, fun A outer s H args us vs Q E hr he hb hv ⟨n, hn, q⟩ => (h n hn).run A outer s H args us vs Q E hr he hb hv q⟩
set_option maxHeartbeats 4000000 in
theorem all_mk {l : PySem.W.OpenLaw} {w : World} {K : PySem.W.Frag} {h : Heap} {mg : Str → Option Value} {fa : Addr} (X : K.In h) (G : h.Ns mainGlobals mg) (hfa : mg "law" = some (.ref fa))
    {f7 : Addr} {od7 an7 : Option Addr} {sl7 : Array (Option Value)} {oc7 kV7 dc7 pm7 cd7 ct7 : Value}
    {f8 : Addr} {od8 an8 : Option Addr} {sl8 : Array (Option Value)} {oc8 kV8 dc8 pm8 cd8 ct8 : Value}
    {f9 : Addr} {od9 an9 : Option Addr} {sl9 : Array (Option Value)} {oc9 kV9 dc9 pm9 cd9 ct9 : Value}
    {f10 : Addr} {od10 an10 : Option Addr} {sl10 : Array (Option Value)} {oc10 kV10 dc10 pm10 cd10 ct10 : Value}
    {f14 : Addr} {od14 an14 : Option Addr} {sl14 : Array (Option Value)} {oc14 kV14 dc14 pm14 cd14 ct14 : Value}
    {f15 : Addr} {od15 an15 : Option Addr} {sl15 : Array (Option Value)} {oc15 kV15 dc15 pm15 cd15 ct15 : Value}
    {f16 : Addr} {od16 an16 : Option Addr} {sl16 : Array (Option Value)} {oc16 kV16 dc16 pm16 cd16 ct16 : Value}
    {f17 : Addr} {od17 an17 : Option Addr} {sl17 : Array (Option Value)} {oc17 kV17 dc17 pm17 cd17 ct17 : Value}
    {f18 : Addr} {od18 an18 : Option Addr} {sl18 : Array (Option Value)} {oc18 kV18 dc18 pm18 cd18 ct18 : Value}
    {f19 : Addr} {od19 an19 : Option Addr} {sl19 : Array (Option Value)} {oc19 kV19 dc19 pm19 cd19 ct19 : Value}
    {f20 : Addr} {od20 an20 : Option Addr} {sl20 : Array (Option Value)} {oc20 kV20 dc20 pm20 cd20 ct20 : Value}
    {f21 : Addr} {od21 an21 : Option Addr} {sl21 : Array (Option Value)} {oc21 kV21 dc21 pm21 cd21 ct21 : Value}
    {f22 : Addr} {od22 an22 : Option Addr} {sl22 : Array (Option Value)} {oc22 kV22 dc22 pm22 cd22 ct22 : Value}
    {f23 : Addr} {od23 an23 : Option Addr} {sl23 : Array (Option Value)} {oc23 kV23 dc23 pm23 cd23 ct23 : Value}
    {f25 : Addr} {od25 an25 : Option Addr} {sl25 : Array (Option Value)} {oc25 kV25 dc25 pm25 cd25 ct25 : Value}
    {f26 : Addr} {od26 an26 : Option Addr} {sl26 : Array (Option Value)} {oc26 kV26 dc26 pm26 cd26 ct26 : Value}
    {f27 : Addr} {od27 an27 : Option Addr} {sl27 : Array (Option Value)} {oc27 kV27 dc27 pm27 cd27 ct27 : Value}
    {f28 : Addr} {od28 an28 : Option Addr} {sl28 : Array (Option Value)} {oc28 kV28 dc28 pm28 cd28 ct28 : Value}
    {f29 : Addr} {od29 an29 : Option Addr} {sl29 : Array (Option Value)} {oc29 kV29 dc29 pm29 cd29 ct29 : Value}
    {f30 : Addr} {od30 an30 : Option Addr} {sl30 : Array (Option Value)} {oc30 kV30 dc30 pm30 cd30 ct30 : Value}
    {f32 : Addr} {od32 an32 : Option Addr} {sl32 : Array (Option Value)} {oc32 kV32 dc32 pm32 cd32 ct32 : Value}
    {f33 : Addr} {od33 an33 : Option Addr} {sl33 : Array (Option Value)} {oc33 kV33 dc33 pm33 cd33 ct33 : Value}
    {f34 : Addr} {od34 an34 : Option Addr} {sl34 : Array (Option Value)} {oc34 kV34 dc34 pm34 cd34 ct34 : Value}
    {f36 : Addr} {od36 an36 : Option Addr} {sl36 : Array (Option Value)} {oc36 kV36 dc36 pm36 cd36 ct36 : Value}
    {f37 : Addr} {od37 an37 : Option Addr} {sl37 : Array (Option Value)} {oc37 kV37 dc37 pm37 cd37 ct37 : Value}
    {f38 : Addr} {od38 an38 : Option Addr} {sl38 : Array (Option Value)} {oc38 kV38 dc38 pm38 cd38 ct38 : Value}
    {f39 : Addr} {od39 an39 : Option Addr} {sl39 : Array (Option Value)} {oc39 kV39 dc39 pm39 cd39 ct39 : Value}
    {f40 : Addr} {od40 an40 : Option Addr} {sl40 : Array (Option Value)} {oc40 kV40 dc40 pm40 cd40 ct40 : Value}
    {f41 : Addr} {od41 an41 : Option Addr} {sl41 : Array (Option Value)} {oc41 kV41 dc41 pm41 cd41 ct41 : Value}
    {f42 : Addr} {od42 an42 : Option Addr} {sl42 : Array (Option Value)} {oc42 kV42 dc42 pm42 cd42 ct42 : Value}
    {f43 : Addr} {od43 an43 : Option Addr} {sl43 : Array (Option Value)} {oc43 kV43 dc43 pm43 cd43 ct43 : Value}
    {f44 : Addr} {od44 an44 : Option Addr} {sl44 : Array (Option Value)} {oc44 kV44 dc44 pm44 cd44 ct44 : Value}
    {f45 : Addr} {od45 an45 : Option Addr} {sl45 : Array (Option Value)} {oc45 kV45 dc45 pm45 cd45 ct45 : Value}
    {f46 : Addr} {od46 an46 : Option Addr} {sl46 : Array (Option Value)} {oc46 kV46 dc46 pm46 cd46 ct46 : Value}
    {f47 : Addr} {od47 an47 : Option Addr} {sl47 : Array (Option Value)} {oc47 kV47 dc47 pm47 cd47 ct47 : Value}
    {f48 : Addr} {od48 an48 : Option Addr} {sl48 : Array (Option Value)} {oc48 kV48 dc48 pm48 cd48 ct48 : Value}
    {f49 : Addr} {od49 an49 : Option Addr} {sl49 : Array (Option Value)} {oc49 kV49 dc49 pm49 cd49 ct49 : Value}
    {tMOST_PRIME : Tok}
    {tMOST_PRIMES : Tok}
    {tMOST_ROWS : Tok}
    {tMOST_ENTRY : Tok}
    (a7 : PySem.W.nsIn K mainGlobals "is_int" = some (some (.ref f7))) (l7 : K.lookup f7 = some ⟨oc7, od7, .func (PySem.W.fnOf "is_int" "is_int" (defArgs (topS 7)) (defBody (topS 7)) (defScope (topS 7)) .none kV7 dc7 pm7 an7 cd7 ct7), sl7⟩) (c7 : PySem.W.codeIn K cd7 "is_int" = true) (k7 : PySem.W.keepIn K (.ref f7) = true)
    (a8 : PySem.W.nsIn K mainGlobals "is_in" = some (some (.ref f8))) (l8 : K.lookup f8 = some ⟨oc8, od8, .func (PySem.W.fnOf "is_in" "is_in" (defArgs (topS 8)) (defBody (topS 8)) (defScope (topS 8)) .none kV8 dc8 pm8 an8 cd8 ct8), sl8⟩) (c8 : PySem.W.codeIn K cd8 "is_in" = true) (k8 : PySem.W.keepIn K (.ref f8) = true)
    (a9 : PySem.W.nsIn K mainGlobals "is_prime" = some (some (.ref f9))) (l9 : K.lookup f9 = some ⟨oc9, od9, .func (PySem.W.fnOf "is_prime" "is_prime" (defArgs (topS 9)) (defBody (topS 9)) (defScope (topS 9)) .none kV9 dc9 pm9 an9 cd9 ct9), sl9⟩) (c9 : PySem.W.codeIn K cd9 "is_prime" = true) (k9 : PySem.W.keepIn K (.ref f9) = true)
    (a10 : PySem.W.nsIn K mainGlobals "need_limit" = some (some (.ref f10))) (l10 : K.lookup f10 = some ⟨oc10, od10, .func (PySem.W.fnOf "need_limit" "need_limit" (defArgs (topS 10)) (defBody (topS 10)) (defScope (topS 10)) .none kV10 dc10 pm10 an10 cd10 ct10), sl10⟩) (c10 : PySem.W.codeIn K cd10 "need_limit" = true) (k10 : PySem.W.keepIn K (.ref f10) = true)
    (a14 : PySem.W.nsIn K mainGlobals "need_rows" = some (some (.ref f14))) (l14 : K.lookup f14 = some ⟨oc14, od14, .func (PySem.W.fnOf "need_rows" "need_rows" (defArgs (topS 14)) (defBody (topS 14)) (defScope (topS 14)) .none kV14 dc14 pm14 an14 cd14 ct14), sl14⟩) (c14 : PySem.W.codeIn K cd14 "need_rows" = true) (k14 : PySem.W.keepIn K (.ref f14) = true)
    (a15 : PySem.W.nsIn K mainGlobals "less" = some (some (.ref f15))) (l15 : K.lookup f15 = some ⟨oc15, od15, .func (PySem.W.fnOf "less" "less" (defArgs (topS 15)) (defBody (topS 15)) (defScope (topS 15)) .none kV15 dc15 pm15 an15 cd15 ct15), sl15⟩) (c15 : PySem.W.codeIn K cd15 "less" = true) (k15 : PySem.W.keepIn K (.ref f15) = true)
    (a16 : PySem.W.nsIn K mainGlobals "form_of" = some (some (.ref f16))) (l16 : K.lookup f16 = some ⟨oc16, od16, .func (PySem.W.fnOf "form_of" "form_of" (defArgs (topS 16)) (defBody (topS 16)) (defScope (topS 16)) .none kV16 dc16 pm16 an16 cd16 ct16), sl16⟩) (c16 : PySem.W.codeIn K cd16 "form_of" = true) (k16 : PySem.W.keepIn K (.ref f16) = true)
    (a17 : PySem.W.nsIn K mainGlobals "told_rows" = some (some (.ref f17))) (l17 : K.lookup f17 = some ⟨oc17, od17, .func (PySem.W.fnOf "told_rows" "told_rows" (defArgs (topS 17)) (defBody (topS 17)) (defScope (topS 17)) .none kV17 dc17 pm17 an17 cd17 ct17), sl17⟩) (c17 : PySem.W.codeIn K cd17 "told_rows" = true) (k17 : PySem.W.keepIn K (.ref f17) = true)
    (a18 : PySem.W.nsIn K mainGlobals "unit" = some (some (.ref f18))) (l18 : K.lookup f18 = some ⟨oc18, od18, .func (PySem.W.fnOf "unit" "unit" (defArgs (topS 18)) (defBody (topS 18)) (defScope (topS 18)) .none kV18 dc18 pm18 an18 cd18 ct18), sl18⟩) (c18 : PySem.W.codeIn K cd18 "unit" = true) (k18 : PySem.W.keepIn K (.ref f18) = true)
    (a19 : PySem.W.nsIn K mainGlobals "smith_of" = some (some (.ref f19))) (l19 : K.lookup f19 = some ⟨oc19, od19, .func (PySem.W.fnOf "smith_of" "smith_of" (defArgs (topS 19)) (defBody (topS 19)) (defScope (topS 19)) .none kV19 dc19 pm19 an19 cd19 ct19), sl19⟩) (c19 : PySem.W.codeIn K cd19 "smith_of" = true) (k19 : PySem.W.keepIn K (.ref f19) = true)
    (a20 : PySem.W.nsIn K mainGlobals "swept" = some (some (.ref f20))) (l20 : K.lookup f20 = some ⟨oc20, od20, .func (PySem.W.fnOf "swept" "swept" (defArgs (topS 20)) (defBody (topS 20)) (defScope (topS 20)) .none kV20 dc20 pm20 an20 cd20 ct20), sl20⟩) (c20 : PySem.W.codeIn K cd20 "swept" = true) (k20 : PySem.W.keepIn K (.ref f20) = true)
    (a21 : PySem.W.nsIn K mainGlobals "unfit" = some (some (.ref f21))) (l21 : K.lookup f21 = some ⟨oc21, od21, .func (PySem.W.fnOf "unfit" "unfit" (defArgs (topS 21)) (defBody (topS 21)) (defScope (topS 21)) .none kV21 dc21 pm21 an21 cd21 ct21), sl21⟩) (c21 : PySem.W.codeIn K cd21 "unfit" = true) (k21 : PySem.W.keepIn K (.ref f21) = true)
    (a22 : PySem.W.nsIn K mainGlobals "null_of" = some (some (.ref f22))) (l22 : K.lookup f22 = some ⟨oc22, od22, .func (PySem.W.fnOf "null_of" "null_of" (defArgs (topS 22)) (defBody (topS 22)) (defScope (topS 22)) .none kV22 dc22 pm22 an22 cd22 ct22), sl22⟩) (c22 : PySem.W.codeIn K cd22 "null_of" = true) (k22 : PySem.W.keepIn K (.ref f22) = true)
    (a23 : PySem.W.nsIn K mainGlobals "filled_of" = some (some (.ref f23))) (l23 : K.lookup f23 = some ⟨oc23, od23, .func (PySem.W.fnOf "filled_of" "filled_of" (defArgs (topS 23)) (defBody (topS 23)) (defScope (topS 23)) .none kV23 dc23 pm23 an23 cd23 ct23), sl23⟩) (c23 : PySem.W.codeIn K cd23 "filled_of" = true) (k23 : PySem.W.keepIn K (.ref f23) = true)
    (a25 : PySem.W.nsIn K mainGlobals "need_tempering" = some (some (.ref f25))) (l25 : K.lookup f25 = some ⟨oc25, od25, .func (PySem.W.fnOf "need_tempering" "need_tempering" (defArgs (topS 25)) (defBody (topS 25)) (defScope (topS 25)) .none kV25 dc25 pm25 an25 cd25 ct25), sl25⟩) (c25 : PySem.W.codeIn K cd25 "need_tempering" = true) (k25 : PySem.W.keepIn K (.ref f25) = true)
    (a26 : PySem.W.nsIn K mainGlobals "need_temperings" = some (some (.ref f26))) (l26 : K.lookup f26 = some ⟨oc26, od26, .func (PySem.W.fnOf "need_temperings" "need_temperings" (defArgs (topS 26)) (defBody (topS 26)) (defScope (topS 26)) .none kV26 dc26 pm26 an26 cd26 ct26), sl26⟩) (c26 : PySem.W.codeIn K cd26 "need_temperings" = true) (k26 : PySem.W.keepIn K (.ref f26) = true)
    (a27 : PySem.W.nsIn K mainGlobals "maps_of" = some (some (.ref f27))) (l27 : K.lookup f27 = some ⟨oc27, od27, .func (PySem.W.fnOf "maps_of" "maps_of" (defArgs (topS 27)) (defBody (topS 27)) (defScope (topS 27)) .none kV27 dc27 pm27 an27 cd27 ct27), sl27⟩) (c27 : PySem.W.codeIn K cd27 "maps_of" = true) (k27 : PySem.W.keepIn K (.ref f27) = true)
    (a28 : PySem.W.nsIn K mainGlobals "either" = some (some (.ref f28))) (l28 : K.lookup f28 = some ⟨oc28, od28, .func (PySem.W.fnOf "either" "either" (defArgs (topS 28)) (defBody (topS 28)) (defScope (topS 28)) .none kV28 dc28 pm28 an28 cd28 ct28), sl28⟩) (c28 : PySem.W.codeIn K cd28 "either" = true) (k28 : PySem.W.keepIn K (.ref f28) = true)
    (a29 : PySem.W.nsIn K mainGlobals "parts_of" = some (some (.ref f29))) (l29 : K.lookup f29 = some ⟨oc29, od29, .func (PySem.W.fnOf "parts_of" "parts_of" (defArgs (topS 29)) (defBody (topS 29)) (defScope (topS 29)) .none kV29 dc29 pm29 an29 cd29 ct29), sl29⟩) (c29 : PySem.W.codeIn K cd29 "parts_of" = true) (k29 : PySem.W.keepIn K (.ref f29) = true)
    (a30 : PySem.W.nsIn K mainGlobals "head_of" = some (some (.ref f30))) (l30 : K.lookup f30 = some ⟨oc30, od30, .func (PySem.W.fnOf "head_of" "head_of" (defArgs (topS 30)) (defBody (topS 30)) (defScope (topS 30)) .none kV30 dc30 pm30 an30 cd30 ct30), sl30⟩) (c30 : PySem.W.codeIn K cd30 "head_of" = true) (k30 : PySem.W.keepIn K (.ref f30) = true)
    (a32 : PySem.W.nsIn K mainGlobals "head_place" = some (some (.ref f32))) (l32 : K.lookup f32 = some ⟨oc32, od32, .func (PySem.W.fnOf "head_place" "head_place" (defArgs (topS 32)) (defBody (topS 32)) (defScope (topS 32)) .none kV32 dc32 pm32 an32 cd32 ct32), sl32⟩) (c32 : PySem.W.codeIn K cd32 "head_place" = true) (k32 : PySem.W.keepIn K (.ref f32) = true)
    (a33 : PySem.W.nsIn K mainGlobals "made_by" = some (some (.ref f33))) (l33 : K.lookup f33 = some ⟨oc33, od33, .func (PySem.W.fnOf "made_by" "made_by" (defArgs (topS 33)) (defBody (topS 33)) (defScope (topS 33)) .none kV33 dc33 pm33 an33 cd33 ct33), sl33⟩) (c33 : PySem.W.codeIn K cd33 "made_by" = true) (k33 : PySem.W.keepIn K (.ref f33) = true)
    (a34 : PySem.W.nsIn K mainGlobals "contorted" = some (some (.ref f34))) (l34 : K.lookup f34 = some ⟨oc34, od34, .func (PySem.W.fnOf "contorted" "contorted" (defArgs (topS 34)) (defBody (topS 34)) (defScope (topS 34)) .none kV34 dc34 pm34 an34 cd34 ct34), sl34⟩) (c34 : PySem.W.codeIn K cd34 "contorted" = true) (k34 : PySem.W.keepIn K (.ref f34) = true)
    (a36 : PySem.W.nsIn K mainGlobals "_law_taken" = some (some (.ref f36))) (l36 : K.lookup f36 = some ⟨oc36, od36, .func (PySem.W.fnOf "_law_taken" "_law_taken" (defArgs (topS 36)) (defBody (topS 36)) (defScope (topS 36)) .none kV36 dc36 pm36 an36 cd36 ct36), sl36⟩) (c36 : PySem.W.codeIn K cd36 "_law_taken" = true) (k36 : PySem.W.keepIn K (.ref f36) = true)
    (a37 : PySem.W.nsIn K mainGlobals "_law_pick" = some (some (.ref f37))) (l37 : K.lookup f37 = some ⟨oc37, od37, .func (PySem.W.fnOf "_law_pick" "_law_pick" (defArgs (topS 37)) (defBody (topS 37)) (defScope (topS 37)) .none kV37 dc37 pm37 an37 cd37 ct37), sl37⟩) (c37 : PySem.W.codeIn K cd37 "_law_pick" = true) (k37 : PySem.W.keepIn K (.ref f37) = true)
    (a38 : PySem.W.nsIn K mainGlobals "_law_alike" = some (some (.ref f38))) (l38 : K.lookup f38 = some ⟨oc38, od38, .func (PySem.W.fnOf "_law_alike" "_law_alike" (defArgs (topS 38)) (defBody (topS 38)) (defScope (topS 38)) .none kV38 dc38 pm38 an38 cd38 ct38), sl38⟩) (c38 : PySem.W.codeIn K cd38 "_law_alike" = true) (k38 : PySem.W.keepIn K (.ref f38) = true)
    (a39 : PySem.W.nsIn K mainGlobals "_law_power" = some (some (.ref f39))) (l39 : K.lookup f39 = some ⟨oc39, od39, .func (PySem.W.fnOf "_law_power" "_law_power" (defArgs (topS 39)) (defBody (topS 39)) (defScope (topS 39)) .none kV39 dc39 pm39 an39 cd39 ct39), sl39⟩) (c39 : PySem.W.codeIn K cd39 "_law_power" = true) (k39 : PySem.W.keepIn K (.ref f39) = true)
    (a40 : PySem.W.nsIn K mainGlobals "_law_common" = some (some (.ref f40))) (l40 : K.lookup f40 = some ⟨oc40, od40, .func (PySem.W.fnOf "_law_common" "_law_common" (defArgs (topS 40)) (defBody (topS 40)) (defScope (topS 40)) .none kV40 dc40 pm40 an40 cd40 ct40), sl40⟩) (c40 : PySem.W.codeIn K cd40 "_law_common" = true) (k40 : PySem.W.keepIn K (.ref f40) = true)
    (a41 : PySem.W.nsIn K mainGlobals "_law_rows" = some (some (.ref f41))) (l41 : K.lookup f41 = some ⟨oc41, od41, .func (PySem.W.fnOf "_law_rows" "_law_rows" (defArgs (topS 41)) (defBody (topS 41)) (defScope (topS 41)) .none kV41 dc41 pm41 an41 cd41 ct41), sl41⟩) (c41 : PySem.W.codeIn K cd41 "_law_rows" = true) (k41 : PySem.W.keepIn K (.ref f41) = true)
    (a42 : PySem.W.nsIn K mainGlobals "_law_det" = some (some (.ref f42))) (l42 : K.lookup f42 = some ⟨oc42, od42, .func (PySem.W.fnOf "_law_det" "_law_det" (defArgs (topS 42)) (defBody (topS 42)) (defScope (topS 42)) .none kV42 dc42 pm42 an42 cd42 ct42), sl42⟩) (c42 : PySem.W.codeIn K cd42 "_law_det" = true) (k42 : PySem.W.keepIn K (.ref f42) = true)
    (a43 : PySem.W.nsIn K mainGlobals "_law_less" = some (some (.ref f43))) (l43 : K.lookup f43 = some ⟨oc43, od43, .func (PySem.W.fnOf "_law_less" "_law_less" (defArgs (topS 43)) (defBody (topS 43)) (defScope (topS 43)) .none kV43 dc43 pm43 an43 cd43 ct43), sl43⟩) (c43 : PySem.W.codeIn K cd43 "_law_less" = true) (k43 : PySem.W.keepIn K (.ref f43) = true)
    (a44 : PySem.W.nsIn K mainGlobals "_law_form" = some (some (.ref f44))) (l44 : K.lookup f44 = some ⟨oc44, od44, .func (PySem.W.fnOf "_law_form" "_law_form" (defArgs (topS 44)) (defBody (topS 44)) (defScope (topS 44)) .none kV44 dc44 pm44 an44 cd44 ct44), sl44⟩) (c44 : PySem.W.codeIn K cd44 "_law_form" = true) (k44 : PySem.W.keepIn K (.ref f44) = true)
    (a45 : PySem.W.nsIn K mainGlobals "_law_columns" = some (some (.ref f45))) (l45 : K.lookup f45 = some ⟨oc45, od45, .func (PySem.W.fnOf "_law_columns" "_law_columns" (defArgs (topS 45)) (defBody (topS 45)) (defScope (topS 45)) .none kV45 dc45 pm45 an45 cd45 ct45), sl45⟩) (c45 : PySem.W.codeIn K cd45 "_law_columns" = true) (k45 : PySem.W.keepIn K (.ref f45) = true)
    (a46 : PySem.W.nsIn K mainGlobals "_law_minors" = some (some (.ref f46))) (l46 : K.lookup f46 = some ⟨oc46, od46, .func (PySem.W.fnOf "_law_minors" "_law_minors" (defArgs (topS 46)) (defBody (topS 46)) (defScope (topS 46)) .none kV46 dc46 pm46 an46 cd46 ct46), sl46⟩) (c46 : PySem.W.codeIn K cd46 "_law_minors" = true) (k46 : PySem.W.keepIn K (.ref f46) = true)
    (a47 : PySem.W.nsIn K mainGlobals "_law_rank" = some (some (.ref f47))) (l47 : K.lookup f47 = some ⟨oc47, od47, .func (PySem.W.fnOf "_law_rank" "_law_rank" (defArgs (topS 47)) (defBody (topS 47)) (defScope (topS 47)) .none kV47 dc47 pm47 an47 cd47 ct47), sl47⟩) (c47 : PySem.W.codeIn K cd47 "_law_rank" = true) (k47 : PySem.W.keepIn K (.ref f47) = true)
    (a48 : PySem.W.nsIn K mainGlobals "_law_shared" = some (some (.ref f48))) (l48 : K.lookup f48 = some ⟨oc48, od48, .func (PySem.W.fnOf "_law_shared" "_law_shared" (defArgs (topS 48)) (defBody (topS 48)) (defScope (topS 48)) .none kV48 dc48 pm48 an48 cd48 ct48), sl48⟩) (c48 : PySem.W.codeIn K cd48 "_law_shared" = true) (k48 : PySem.W.keepIn K (.ref f48) = true)
    (a49 : PySem.W.nsIn K mainGlobals "law" = some (some (.ref f49))) (l49 : K.lookup f49 = some ⟨oc49, od49, .func (PySem.W.fnOf "law" "law" (defArgs (topS 49)) (defBody (topS 49)) (defScope (topS 49)) .none kV49 dc49 pm49 an49 cd49 ct49), sl49⟩) (c49 : PySem.W.codeIn K cd49 "law" = true) (k49 : PySem.W.keepIn K (.ref f49) = true)
    (mMOST_PRIME : PySem.W.nsIn K mainGlobals "MOST_PRIME" = some (some (.int 43 tMOST_PRIME)))
    (mMOST_PRIMES : PySem.W.nsIn K mainGlobals "MOST_PRIMES" = some (some (.int 6 tMOST_PRIMES)))
    (mMOST_ROWS : PySem.W.nsIn K mainGlobals "MOST_ROWS" = some (some (.int 8 tMOST_ROWS)))
    (mMOST_ENTRY : PySem.W.nsIn K mainGlobals "MOST_ENTRY" = some (some (.int 9999 tMOST_ENTRY)))
    (z_len : PySem.W.nsIn K mainGlobals "len" = some none)
    (z_zip : PySem.W.nsIn K mainGlobals "zip" = some none)
    (z_list : PySem.W.nsIn K mainGlobals "list" = some none)
    (z_tuple : PySem.W.nsIn K mainGlobals "tuple" = some none)
    (z_range : PySem.W.nsIn K mainGlobals "range" = some none)
    (z_min : PySem.W.nsIn K mainGlobals "min" = some none)
    (z_abs : PySem.W.nsIn K mainGlobals "abs" = some none)
    (z_any : PySem.W.nsIn K mainGlobals "any" = some none)
    (z_all : PySem.W.nsIn K mainGlobals "all" = some none)
    (z_isinstance : PySem.W.nsIn K mainGlobals "isinstance" = some none)
    (z_enumerate : PySem.W.nsIn K mainGlobals "enumerate" = some none)
    (z_int : PySem.W.nsIn K mainGlobals "int" = some none)
    (z_bool : PySem.W.nsIn K mainGlobals "bool" = some none)
    (z_str : PySem.W.nsIn K mainGlobals "str" = some none)
    : ∃ fd : FuncData, (∀ (s : Shared) (v : Value), BindsTo s fd ⟨[v], []⟩ [("_law_script", v)]) ∧ ∀ base : Heap, K.In base → base.Ns mainGlobals mg → FnOk l.prog w K mg base CX0 8 fa fd ["_law_script"] (spLaw K) := by
  have e := hfa.symm.trans (PySem.W.mg_of X G a49)
  cases e
  have F7 := fun_mk (st := topS 7) l7 c7 k7
  have b7 := F7.binds (ps := ["value"]) fun _ _ _ _ _ _ us hl => match us, hl with | [_], _ => rfl
  have F8 := fun_mk (st := topS 8) l8 c8 k8
  have b8 := F8.binds (ps := ["value", "least", "most"]) fun _ _ _ _ _ _ us hl => match us, hl with | [_, _, _], _ => rfl
  have F9 := fun_mk (st := topS 9) l9 c9 k9
  have b9 := F9.binds (ps := ["number"]) fun _ _ _ _ _ _ us hl => match us, hl with | [_], _ => rfl
  have F10 := fun_mk (st := topS 10) l10 c10 k10
  have b10 := F10.binds (ps := ["value"]) fun _ _ _ _ _ _ us hl => match us, hl with | [_], _ => rfl
  have F14 := fun_mk (st := topS 14) l14 c14 k14
  have b14 := F14.binds (ps := ["value"]) fun _ _ _ _ _ _ us hl => match us, hl with | [_], _ => rfl
  have F15 := fun_mk (st := topS 15) l15 c15 k15
  have b15 := F15.binds (ps := ["row", "other", "factor"]) fun _ _ _ _ _ _ us hl => match us, hl with | [_, _, _], _ => rfl
  have F16 := fun_mk (st := topS 16) l16 c16 k16
  have b16 := F16.binds (ps := ["rows"]) fun _ _ _ _ _ _ us hl => match us, hl with | [_], _ => rfl
  have F17 := fun_mk (st := topS 17) l17 c17 k17
  have b17 := F17.binds (ps := ["rows"]) fun _ _ _ _ _ _ us hl => match us, hl with | [_], _ => rfl
  have F18 := fun_mk (st := topS 18) l18 c18 k18
  have b18 := F18.binds (ps := ["size"]) fun _ _ _ _ _ _ us hl => match us, hl with | [_], _ => rfl
  have F19 := fun_mk (st := topS 19) l19 c19 k19
  have b19 := F19.binds (ps := ["rows"]) fun _ _ _ _ _ _ us hl => match us, hl with | [_], _ => rfl
  have F20 := fun_mk (st := topS 20) l20 c20 k20
  have b20 := F20.binds (ps := ["told", "left", "right", "at"]) fun _ _ _ _ _ _ us hl => match us, hl with | [_, _, _, _], _ => rfl
  have F21 := fun_mk (st := topS 21) l21 c21 k21
  have b21 := F21.binds (ps := ["told", "left", "at"]) fun _ _ _ _ _ _ us hl => match us, hl with | [_, _, _], _ => rfl
  have F22 := fun_mk (st := topS 22) l22 c22 k22
  have b22 := F22.binds (ps := ["rows", "wide"]) fun _ _ _ _ _ _ us hl => match us, hl with | [_, _], _ => rfl
  have F23 := fun_mk (st := topS 23) l23 c23 k23
  have b23 := F23.binds (ps := ["rows", "wide"]) fun _ _ _ _ _ _ us hl => match us, hl with | [_, _], _ => rfl
  have F25 := fun_mk (st := topS 25) l25 c25 k25
  have b25 := F25.binds (ps := ["limit", "rows"]) fun _ _ _ _ _ _ us hl => match us, hl with | [_, _], _ => rfl
  have F26 := fun_mk (st := topS 26) l26 c26 k26
  have b26 := F26.binds (ps := ["limit", "one", "other"]) fun _ _ _ _ _ _ us hl => match us, hl with | [_, _, _], _ => rfl
  have F27 := fun_mk (st := topS 27) l27 c27 k27
  have b27 := F27.binds (ps := ["limit", "rows"]) fun _ _ _ _ _ _ us hl => match us, hl with | [_, _], _ => rfl
  have F28 := fun_mk (st := topS 28) l28 c28 k28
  have b28 := F28.binds (ps := ["limit", "one", "other"]) fun _ _ _ _ _ _ us hl => match us, hl with | [_, _, _], _ => rfl
  have F29 := fun_mk (st := topS 29) l29 c29 k29
  have b29 := F29.binds (ps := ["limit", "one", "other"]) fun _ _ _ _ _ _ us hl => match us, hl with | [_, _, _], _ => rfl
  have F30 := fun_mk (st := topS 30) l30 c30 k30
  have b30 := F30.binds (ps := ["row"]) fun _ _ _ _ _ _ us hl => match us, hl with | [_], _ => rfl
  have F32 := fun_mk (st := topS 32) l32 c32 k32
  have b32 := F32.binds (ps := ["row"]) fun _ _ _ _ _ _ us hl => match us, hl with | [_], _ => rfl
  have F33 := fun_mk (st := topS 33) l33 c33 k33
  have b33 := F33.binds (ps := ["limit", "one", "other"]) fun _ _ _ _ _ _ us hl => match us, hl with | [_, _, _], _ => rfl
  have F34 := fun_mk (st := topS 34) l34 c34 k34
  have b34 := F34.binds (ps := ["limit", "rows"]) fun _ _ _ _ _ _ us hl => match us, hl with | [_, _], _ => rfl
  have F36 := fun_mk (st := topS 36) l36 c36 k36
  have b36 := F36.binds (ps := ["_law_row", "_law_many"]) fun _ _ _ _ _ _ us hl => match us, hl with | [_, _], _ => rfl
  have F37 := fun_mk (st := topS 37) l37 c37 k37
  have b37 := F37.binds (ps := ["_law_row", "_law_things"]) fun _ _ _ _ _ _ us hl => match us, hl with | [_, _], _ => rfl
  have F38 := fun_mk (st := topS 38) l38 c38 k38
  have b38 := F38.binds (ps := ["_law_found", "_law_due"]) fun _ _ _ _ _ _ us hl => match us, hl with | [_, _], _ => rfl
  have F39 := fun_mk (st := topS 39) l39 c39 k39
  have b39 := F39.binds (ps := ["_law_base", "_law_exponent"]) fun _ _ _ _ _ _ us hl => match us, hl with | [_, _], _ => rfl
  have F40 := fun_mk (st := topS 40) l40 c40 k40
  have b40 := F40.binds (ps := ["_law_one", "_law_other"]) fun _ _ _ _ _ _ us hl => match us, hl with | [_, _], _ => rfl
  have F41 := fun_mk (st := topS 41) l41 c41 k41
  have b41 := F41.binds (ps := ["_law_row", "_law_high", "_law_wide", "_law_most"]) fun _ _ _ _ _ _ us hl => match us, hl with | [_, _, _, _], _ => rfl
  have F42 := fun_mk (st := topS 42) l42 c42 k42
  have b42 := F42.binds (ps := ["_law_rows_here"]) fun _ _ _ _ _ _ us hl => match us, hl with | [_], _ => rfl
  have F43 := fun_mk (st := topS 43) l43 c43 k43
  have b43 := F43.binds (ps := ["_law_line", "_law_other", "_law_factor"]) fun _ _ _ _ _ _ us hl => match us, hl with | [_, _, _], _ => rfl
  have F44 := fun_mk (st := topS 44) l44 c44 k44
  have b44 := F44.binds (ps := ["_law_rows_here"]) fun _ _ _ _ _ _ us hl => match us, hl with | [_], _ => rfl
  have F45 := fun_mk (st := topS 45) l45 c45 k45
  have b45 := F45.binds (ps := ["_law_wide", "_law_many"]) fun _ _ _ _ _ _ us hl => match us, hl with | [_, _], _ => rfl
  have F46 := fun_mk (st := topS 46) l46 c46 k46
  have b46 := F46.binds (ps := ["_law_rows_here", "_law_many", "_law_wide"]) fun _ _ _ _ _ _ us hl => match us, hl with | [_, _, _], _ => rfl
  have F47 := fun_mk (st := topS 47) l47 c47 k47
  have b47 := F47.binds (ps := ["_law_rows_here"]) fun _ _ _ _ _ _ us hl => match us, hl with | [_], _ => rfl
  have F48 := fun_mk (st := topS 48) l48 c48 k48
  have b48 := F48.binds (ps := ["_law_rows_here", "_law_wide"]) fun _ _ _ _ _ _ us hl => match us, hl with | [_, _], _ => rfl
  have F49 := fun_mk (st := topS 49) l49 c49 k49
  have n_len := PySem.W.mg_none_of X G z_len
  have n_zip := PySem.W.mg_none_of X G z_zip
  have n_list := PySem.W.mg_none_of X G z_list
  have n_tuple := PySem.W.mg_none_of X G z_tuple
  have n_range := PySem.W.mg_none_of X G z_range
  have n_min := PySem.W.mg_none_of X G z_min
  have n_abs := PySem.W.mg_none_of X G z_abs
  have n_any := PySem.W.mg_none_of X G z_any
  have n_all := PySem.W.mg_none_of X G z_all
  have n_isinstance := PySem.W.mg_none_of X G z_isinstance
  have n_enumerate := PySem.W.mg_none_of X G z_enumerate
  have n_int := PySem.W.mg_none_of X G z_int
  have n_bool := PySem.W.mg_none_of X G z_bool
  have n_str := PySem.W.mg_none_of X G z_str
  have gMOST_PRIME := PySem.W.mg_of X G mMOST_PRIME
  have gMOST_PRIMES := PySem.W.mg_of X G mMOST_PRIMES
  have gMOST_ROWS := PySem.W.mg_of X G mMOST_ROWS
  have gMOST_ENTRY := PySem.W.mg_of X G mMOST_ENTRY
  refine ⟨PySem.W.fnOf "law" "law" (defArgs (topS 49)) (defBody (topS 49)) (defScope (topS 49)) .none kV49 dc49 pm49 an49 cd49 ct49, fun s v => .of_eq rfl, fun base _ _ => ?_⟩
  have O_is_int : FnOk l.prog w K mg base CX0 1 f7 _ ["value"] spIsInt := ok_isInt (k := 0) F7 n_isinstance n_int n_bool
  have O_is_in : FnOk l.prog w K mg base CX0 2 f8 _ ["value", "least", "most"] spIsIn := ok_isIn (k := 1) F8 (show Cal l.prog w K mg base 1 "is_int" ["value"] spIsInt from ⟨_, _, O_is_int.mono (by decide), PySem.W.mg_of X G a7, k7, b7⟩)
  have O_is_prime : FnOk l.prog w K mg base CX0 1 f9 _ ["number"] spPrime := ok_prime (k := 0) F9 n_any n_range
  have O_need_limit : FnOk l.prog w K mg base CX0 3 f10 _ ["value"] (spLimit K) := ok_limit (k := 2) F10 (show Cal l.prog w K mg base 2 "is_in" ["value", "least", "most"] spIsIn from ⟨_, _, O_is_in.mono (by decide), PySem.W.mg_of X G a8, k8, b8⟩) (show Cal l.prog w K mg base 2 "is_prime" ["number"] spPrime from ⟨_, _, O_is_prime.mono (by decide), PySem.W.mg_of X G a9, k9, b9⟩) gMOST_PRIME gMOST_PRIMES n_all n_range n_isinstance n_tuple n_len
  have O_need_rows : FnOk l.prog w K mg base CX0 3 f14 _ ["value"] (spRows K) := ok_rows (k := 2) F14 (show Cal l.prog w K mg base 2 "is_in" ["value", "least", "most"] spIsIn from ⟨_, _, O_is_in.mono (by decide), PySem.W.mg_of X G a8, k8, b8⟩) gMOST_ROWS gMOST_ENTRY n_all n_enumerate n_isinstance n_tuple n_len
  have O_less : FnOk l.prog w K mg base CX0 1 f15 _ ["row", "other", "factor"] (spLess K) := ok_less (k := 0) F15 n_zip
  have O_form_of : FnOk l.prog w K mg base CX0 2 f16 _ ["rows"] (spForm K) := ok_form (k := 1) F16 (show Cal l.prog w K mg base 1 "less" ["row", "other", "factor"] (spLess K) from ⟨_, _, O_less.mono (by decide), PySem.W.mg_of X G a15, k15, b15⟩) n_range n_len n_min n_list n_abs
  have O_told_rows : FnOk l.prog w K mg base CX0 1 f17 _ ["rows"] (spTold K) := ok_told (k := 0) F17 n_tuple
  have O_unit : FnOk l.prog w K mg base CX0 1 f18 _ ["size"] spUnit := ok_unit (k := 0) F18 n_range
  have O_swept : FnOk l.prog w K mg base CX0 2 f20 _ ["told", "left", "right", "at"] (spSwept K) := ok_swept (k := 1) F20 (show Cal l.prog w K mg base 1 "less" ["row", "other", "factor"] (spLess K) from ⟨_, _, O_less.mono (by decide), PySem.W.mg_of X G a15, k15, b15⟩) n_range n_len
  have O_unfit : FnOk l.prog w K mg base CX0 2 f21 _ ["told", "left", "at"] (spUnfit K) := ok_unfit (k := 1) F21 (show Cal l.prog w K mg base 1 "less" ["row", "other", "factor"] (spLess K) from ⟨_, _, O_less.mono (by decide), PySem.W.mg_of X G a15, k15, b15⟩) n_range n_len n_any
  have O_smith_of : FnOk l.prog w K mg base CX0 3 f19 _ ["rows"] (spSmith K) := ok_smith (k := 2) F19 (show Cal l.prog w K mg base 2 "unit" ["size"] spUnit from ⟨_, _, O_unit.mono (by decide), PySem.W.mg_of X G a18, k18, b18⟩) (show Cal l.prog w K mg base 2 "swept" ["told", "left", "right", "at"] (spSwept K) from ⟨_, _, O_swept.mono (by decide), PySem.W.mg_of X G a20, k20, b20⟩) (show Cal l.prog w K mg base 2 "unfit" ["told", "left", "at"] (spUnfit K) from ⟨_, _, O_unfit.mono (by decide), PySem.W.mg_of X G a21, k21, b21⟩) n_range n_len n_min n_list n_abs
  have O_null_of : FnOk l.prog w K mg base CX0 4 f22 _ ["rows", "wide"] (spNull K) := ok_null (k := 3) F22 (show Cal l.prog w K mg base 3 "unit" ["size"] spUnit from ⟨_, _, O_unit.mono (by decide), PySem.W.mg_of X G a18, k18, b18⟩) (show Cal l.prog w K mg base 3 "smith_of" ["rows"] (spSmith K) from ⟨_, _, O_smith_of.mono (by decide), PySem.W.mg_of X G a19, k19, b19⟩) (show Cal l.prog w K mg base 3 "form_of" ["rows"] (spForm K) from ⟨_, _, O_form_of.mono (by decide), PySem.W.mg_of X G a16, k16, b16⟩) n_zip n_len n_list
  have O_filled_of : FnOk l.prog w K mg base CX0 5 f23 _ ["rows", "wide"] (spFill K) := ok_fill (k := 4) F23 (show Cal l.prog w K mg base 4 "null_of" ["rows", "wide"] (spNull K) from ⟨_, _, O_null_of.mono (by decide), PySem.W.mg_of X G a22, k22, b22⟩)
  have O_need_tempering : FnOk l.prog w K mg base CX0 4 f25 _ ["limit", "rows"] (spTemper K) := ok_temper (k := 3) F25 (show Cal l.prog w K mg base 3 "need_limit" ["value"] (spLimit K) from ⟨_, _, O_need_limit.mono (by decide), PySem.W.mg_of X G a10, k10, b10⟩) (show Cal l.prog w K mg base 3 "need_rows" ["value"] (spRows K) from ⟨_, _, O_need_rows.mono (by decide), PySem.W.mg_of X G a14, k14, b14⟩) n_len
  have O_need_temperings : FnOk l.prog w K mg base CX0 5 f26 _ ["limit", "one", "other"] (spTempers K) := ok_tempers (k := 4) F26 (show Cal l.prog w K mg base 4 "need_tempering" ["limit", "rows"] (spTemper K) from ⟨_, _, O_need_tempering.mono (by decide), PySem.W.mg_of X G a25, k25, b25⟩) (show Cal l.prog w K mg base 4 "need_rows" ["value"] (spRows K) from ⟨_, _, O_need_rows.mono (by decide), PySem.W.mg_of X G a14, k14, b14⟩) n_len
  have O_maps_of : FnOk l.prog w K mg base CX0 6 f27 _ ["limit", "rows"] (spMaps K) := ok_maps (k := 5) F27 (show Cal l.prog w K mg base 5 "need_tempering" ["limit", "rows"] (spTemper K) from ⟨_, _, O_need_tempering.mono (by decide), PySem.W.mg_of X G a25, k25, b25⟩) (show Cal l.prog w K mg base 5 "told_rows" ["rows"] (spTold K) from ⟨_, _, O_told_rows.mono (by decide), PySem.W.mg_of X G a17, k17, b17⟩) (show Cal l.prog w K mg base 5 "filled_of" ["rows", "wide"] (spFill K) from ⟨_, _, O_filled_of.mono (by decide), PySem.W.mg_of X G a23, k23, b23⟩) n_len n_list
  have O_either : FnOk l.prog w K mg base CX0 6 f28 _ ["limit", "one", "other"] (spEither K) := ok_either (k := 5) F28 (show Cal l.prog w K mg base 5 "need_temperings" ["limit", "one", "other"] (spTempers K) from ⟨_, _, O_need_temperings.mono (by decide), PySem.W.mg_of X G a26, k26, b26⟩) (show Cal l.prog w K mg base 5 "told_rows" ["rows"] (spTold K) from ⟨_, _, O_told_rows.mono (by decide), PySem.W.mg_of X G a17, k17, b17⟩) (show Cal l.prog w K mg base 5 "filled_of" ["rows", "wide"] (spFill K) from ⟨_, _, O_filled_of.mono (by decide), PySem.W.mg_of X G a23, k23, b23⟩) n_len n_list
  have O_head_of : FnOk l.prog w K mg base CX0 1 f30 _ ["row"] (spHead K) := ok_head (k := 0) F30
  have O_head_place : FnOk l.prog w K mg base CX0 1 f32 _ ["row"] (spHeadP K) := ok_headP (k := 0) F32 n_enumerate
  have O_parts_of : FnOk l.prog w K mg base CX0 6 f29 _ ["limit", "one", "other"] (spParts K) := ok_parts (k := 5) F29 (show Cal l.prog w K mg base 5 "need_temperings" ["limit", "one", "other"] (spTempers K) from ⟨_, _, O_need_temperings.mono (by decide), PySem.W.mg_of X G a26, k26, b26⟩) (show Cal l.prog w K mg base 5 "form_of" ["rows"] (spForm K) from ⟨_, _, O_form_of.mono (by decide), PySem.W.mg_of X G a16, k16, b16⟩) (show Cal l.prog w K mg base 5 "filled_of" ["rows", "wide"] (spFill K) from ⟨_, _, O_filled_of.mono (by decide), PySem.W.mg_of X G a23, k23, b23⟩) (show Cal l.prog w K mg base 5 "head_of" ["row"] (spHead K) from ⟨_, _, O_head_of.mono (by decide), PySem.W.mg_of X G a30, k30, b30⟩) n_len n_list n_zip
  have O_made_by : FnOk l.prog w K mg base CX0 6 f33 _ ["limit", "one", "other"] (spMade K) := ok_made (k := 5) F33 (show Cal l.prog w K mg base 5 "need_tempering" ["limit", "rows"] (spTemper K) from ⟨_, _, O_need_tempering.mono (by decide), PySem.W.mg_of X G a25, k25, b25⟩) (show Cal l.prog w K mg base 5 "form_of" ["rows"] (spForm K) from ⟨_, _, O_form_of.mono (by decide), PySem.W.mg_of X G a16, k16, b16⟩) (show Cal l.prog w K mg base 5 "filled_of" ["rows", "wide"] (spFill K) from ⟨_, _, O_filled_of.mono (by decide), PySem.W.mg_of X G a23, k23, b23⟩) (show Cal l.prog w K mg base 5 "head_place" ["row"] (spHeadP K) from ⟨_, _, O_head_place.mono (by decide), PySem.W.mg_of X G a32, k32, b32⟩) n_len n_list n_zip n_tuple
  have O_contorted : FnOk l.prog w K mg base CX0 6 f34 _ ["limit", "rows"] (spCont K) := ok_cont (k := 5) F34 (show Cal l.prog w K mg base 5 "need_tempering" ["limit", "rows"] (spTemper K) from ⟨_, _, O_need_tempering.mono (by decide), PySem.W.mg_of X G a25, k25, b25⟩) (show Cal l.prog w K mg base 5 "form_of" ["rows"] (spForm K) from ⟨_, _, O_form_of.mono (by decide), PySem.W.mg_of X G a16, k16, b16⟩) (show Cal l.prog w K mg base 5 "filled_of" ["rows", "wide"] (spFill K) from ⟨_, _, O_filled_of.mono (by decide), PySem.W.mg_of X G a23, k23, b23⟩) (show Cal l.prog w K mg base 5 "head_place" ["row"] (spHeadP K) from ⟨_, _, O_head_place.mono (by decide), PySem.W.mg_of X G a32, k32, b32⟩) n_len n_list n_zip
  have O__law_taken : FnOk l.prog w K mg base CX0 1 f36 _ ["_law_row", "_law_many"] (spTk K) := ok_tk (k := 0) F36 n_int n_len
  have O__law_pick : FnOk l.prog w K mg base CX0 2 f37 _ ["_law_row", "_law_things"] (spPick K) := ok_pick (k := 1) F37 (show Cal l.prog w K mg base 1 "_law_taken" ["_law_row", "_law_many"] (spTk K) from ⟨_, _, O__law_taken.mono (by decide), PySem.W.mg_of X G a36, k36, b36⟩) n_len
  have O__law_rows : FnOk l.prog w K mg base CX0 2 f41 _ ["_law_row", "_law_high", "_law_wide", "_law_most"] (spRw K) := ok_rw (k := 1) F41 (show Cal l.prog w K mg base 1 "_law_taken" ["_law_row", "_law_many"] (spTk K) from ⟨_, _, O__law_taken.mono (by decide), PySem.W.mg_of X G a36, k36, b36⟩) n_range n_tuple
  have A0 := ok_al0 (P := l.prog) (w := w) (base := base) (k := 0) F38 n_isinstance n_tuple n_list n_str n_int n_bool
  have A1 := ok_al1 (P := l.prog) (w := w) (base := base) (k := 1) (n := 0) F38 ⟨_, _, A0, PySem.W.mg_of X G a38, k38, b38⟩ n_isinstance n_tuple n_list n_str n_int n_bool n_range n_len
  have A2 := ok_al1 (P := l.prog) (w := w) (base := base) (k := 2) (n := 1) F38 ⟨_, _, A1, PySem.W.mg_of X G a38, k38, b38⟩ n_isinstance n_tuple n_list n_str n_int n_bool n_range n_len
  have A3 := ok_al1 (P := l.prog) (w := w) (base := base) (k := 3) (n := 2) F38 ⟨_, _, A2, PySem.W.mg_of X G a38, k38, b38⟩ n_isinstance n_tuple n_list n_str n_int n_bool n_range n_len
  have O__law_alike : FnOk l.prog w K mg base CX0 4 f38 _ ["_law_found", "_law_due"] (spAl K 3) := A3
  have O__law_power : FnOk l.prog w K mg base CX0 1 f39 _ ["_law_base", "_law_exponent"] spPow := ok_pow (k := 0) F39 n_range
  have O__law_common : FnOk l.prog w K mg base CX0 1 f40 _ ["_law_one", "_law_other"] spCom := ok_com (k := 0) F40 n_abs
  have T0 := ok_det0 (P := l.prog) (w := w) (base := base) (k := 0) F42 n_len
  have T1 := ok_det1 (P := l.prog) (w := w) (base := base) (k := 1) (n := 0) (by decide) F42 ⟨_, _, T0, PySem.W.mg_of X G a42, k42, b42⟩ n_len n_range n_list
  have T2 := ok_det1 (P := l.prog) (w := w) (base := base) (k := 2) (n := 1) (by decide) F42 ⟨_, _, T1, PySem.W.mg_of X G a42, k42, b42⟩ n_len n_range n_list
  have T3 := ok_det1 (P := l.prog) (w := w) (base := base) (k := 3) (n := 2) (by decide) F42 ⟨_, _, T2, PySem.W.mg_of X G a42, k42, b42⟩ n_len n_range n_list
  have T4 := ok_det1 (P := l.prog) (w := w) (base := base) (k := 4) (n := 3) (by decide) F42 ⟨_, _, T3, PySem.W.mg_of X G a42, k42, b42⟩ n_len n_range n_list
  have TA : ∀ n, n ≤ 4 → FnOk l.prog w K mg base CX0 5 f42 (PySem.W.fnOf "_law_det" "_law_det" (defArgs (topS 42)) (defBody (topS 42)) (defScope (topS 42)) .none kV42 dc42 pm42 an42 cd42 ct42) ["_law_rows_here"] (spDet K n) := fun n hn => by
    have : n = 0 ∨ n = 1 ∨ n = 2 ∨ n = 3 ∨ n = 4 := by omega
    rcases this with rfl | rfl | rfl | rfl | rfl
    · exact T0.mono (by decide)
    · exact T1.mono (by decide)
    · exact T2.mono (by decide)
    · exact T3.mono (by decide)
    · exact T4
  have O__law_det : FnOk l.prog w K mg base CX0 5 f42 _ ["_law_rows_here"] (spDetA K) := detA TA
  have O__law_less : FnOk l.prog w K mg base CX0 1 f43 _ ["_law_line", "_law_other", "_law_factor"] (spLess K) := ok_lawLess (k := 0) F43 n_range n_len
  have O__law_form : FnOk l.prog w K mg base CX0 2 f44 _ ["_law_rows_here"] (spLw K) := ok_lw (k := 1) F44 (show Cal l.prog w K mg base 1 "_law_less" ["_law_line", "_law_other", "_law_factor"] (spLess K) from ⟨_, _, O__law_less.mono (by decide), PySem.W.mg_of X G a43, k43, b43⟩) n_range n_len n_min n_list n_abs
  have O__law_columns : FnOk l.prog w K mg base CX0 1 f45 _ ["_law_wide", "_law_many"] spCl := ok_cl (k := 0) F45 n_range
  have O__law_minors : FnOk l.prog w K mg base CX0 6 f46 _ ["_law_rows_here", "_law_many", "_law_wide"] (spMn K) := ok_mn (k := 5) F46 (show Cal l.prog w K mg base 5 "_law_columns" ["_law_wide", "_law_many"] spCl from ⟨_, _, O__law_columns.mono (by decide), PySem.W.mg_of X G a45, k45, b45⟩) (show Cal l.prog w K mg base 5 "_law_det" ["_law_rows_here"] (spDetA K) from ⟨_, _, O__law_det.mono (by decide), PySem.W.mg_of X G a42, k42, b42⟩) n_len
  have O__law_rank : FnOk l.prog w K mg base CX0 3 f47 _ ["_law_rows_here"] (spRk K) := ok_rk (k := 2) F47 (show Cal l.prog w K mg base 2 "_law_form" ["_law_rows_here"] (spLw K) from ⟨_, _, O__law_form.mono (by decide), PySem.W.mg_of X G a44, k44, b44⟩) n_len
  have O__law_shared : FnOk l.prog w K mg base CX0 7 f48 _ ["_law_rows_here", "_law_wide"] (spSh K) := ok_sh (k := 6) F48 (show Cal l.prog w K mg base 6 "_law_rank" ["_law_rows_here"] (spRk K) from ⟨_, _, O__law_rank.mono (by decide), PySem.W.mg_of X G a47, k47, b47⟩) (show Cal l.prog w K mg base 6 "_law_minors" ["_law_rows_here", "_law_many", "_law_wide"] (spMn K) from ⟨_, _, O__law_minors.mono (by decide), PySem.W.mg_of X G a46, k46, b46⟩) (show Cal l.prog w K mg base 6 "_law_common" ["_law_one", "_law_other"] spCom from ⟨_, _, O__law_common.mono (by decide), PySem.W.mg_of X G a40, k40, b40⟩)
  exact ok_law (k := 7) F49 (show Cal l.prog w K mg base 7 "_law_pick" ["_law_row", "_law_things"] (spPick K) from ⟨_, _, O__law_pick.mono (by decide), PySem.W.mg_of X G a37, k37, b37⟩) (show Cal l.prog w K mg base 7 "_law_rows" ["_law_row", "_law_high", "_law_wide", "_law_most"] (spRw K) from ⟨_, _, O__law_rows.mono (by decide), PySem.W.mg_of X G a41, k41, b41⟩) (show Cal l.prog w K mg base 7 "_law_taken" ["_law_row", "_law_many"] (spTk K) from ⟨_, _, O__law_taken.mono (by decide), PySem.W.mg_of X G a36, k36, b36⟩) (show Cal l.prog w K mg base 7 "_law_alike" ["_law_found", "_law_due"] (spAl K 3) from ⟨_, _, O__law_alike.mono (by decide), PySem.W.mg_of X G a38, k38, b38⟩) (show Cal l.prog w K mg base 7 "parts_of" ["limit", "one", "other"] (spParts K) from ⟨_, _, O_parts_of.mono (by decide), PySem.W.mg_of X G a29, k29, b29⟩) (show Cal l.prog w K mg base 7 "_law_shared" ["_law_rows_here", "_law_wide"] (spSh K) from ⟨_, _, O__law_shared.mono (by decide), PySem.W.mg_of X G a48, k48, b48⟩) (show Cal l.prog w K mg base 7 "maps_of" ["limit", "rows"] (spMaps K) from ⟨_, _, O_maps_of.mono (by decide), PySem.W.mg_of X G a27, k27, b27⟩) (show Cal l.prog w K mg base 7 "contorted" ["limit", "rows"] (spCont K) from ⟨_, _, O_contorted.mono (by decide), PySem.W.mg_of X G a34, k34, b34⟩) (show Cal l.prog w K mg base 7 "made_by" ["limit", "one", "other"] (spMade K) from ⟨_, _, O_made_by.mono (by decide), PySem.W.mg_of X G a33, k33, b33⟩) (show Cal l.prog w K mg base 7 "either" ["limit", "one", "other"] (spEither K) from ⟨_, _, O_either.mono (by decide), PySem.W.mg_of X G a28, k28, b28⟩) (show Cal l.prog w K mg base 7 "_law_power" ["_law_base", "_law_exponent"] spPow from ⟨_, _, O__law_power.mono (by decide), PySem.W.mg_of X G a39, k39, b39⟩) (show Cal l.prog w K mg base 7 "_law_rank" ["_law_rows_here"] (spRk K) from ⟨_, _, O__law_rank.mono (by decide), PySem.W.mg_of X G a47, k47, b47⟩) n_len n_tuple
end K17
open PySem PySem.W PyProof.Rows
set_option maxRecDepth 100000 in
set_option maxHeartbeats 0 in
theorem PySem.Challenge.cw_temperworks_k17_whole_classes_of_maps_holds : PySem.Challenge.rw_temperworks_k17_whole_classes_of_maps.Holds := by
  w_on; o_law; k_head; (case hw => w_witness2)
  k_fill
  refine L2.walk_of (l := PySem.Challenge.rw_temperworks_k17_whole_classes_of_maps) (n := 63) (k := 8) (x := "_law_script") (CX := fun _ => L2.CX0) (sp := fun w => K17.spLaw _) rfl (by decide) rfl ⟨rfl, by decide, by decide⟩ (fun w h Y => PySem.W.kIn_of Y) ?F (fun _ _ a ns hl _ hS => ⟨a, ns, rfl, hS, hl, fun _ => rfl⟩) (fun _ _ _ _ _ h => h)
  case F =>
    intro w mg fa h KX G hmg
    refine' K17.all_mk KX G hmg ?a7 ?l7 ?c7 ?k7 ?a8 ?l8 ?c8 ?k8 ?a9 ?l9 ?c9 ?k9 ?a10 ?l10 ?c10 ?k10 ?a14 ?l14 ?c14 ?k14 ?a15 ?l15 ?c15 ?k15 ?a16 ?l16 ?c16 ?k16 ?a17 ?l17 ?c17 ?k17 ?a18 ?l18 ?c18 ?k18 ?a19 ?l19 ?c19 ?k19 ?a20 ?l20 ?c20 ?k20 ?a21 ?l21 ?c21 ?k21 ?a22 ?l22 ?c22 ?k22 ?a23 ?l23 ?c23 ?k23 ?a25 ?l25 ?c25 ?k25 ?a26 ?l26 ?c26 ?k26 ?a27 ?l27 ?c27 ?k27 ?a28 ?l28 ?c28 ?k28 ?a29 ?l29 ?c29 ?k29 ?a30 ?l30 ?c30 ?k30 ?a32 ?l32 ?c32 ?k32 ?a33 ?l33 ?c33 ?k33 ?a34 ?l34 ?c34 ?k34 ?a36 ?l36 ?c36 ?k36 ?a37 ?l37 ?c37 ?k37 ?a38 ?l38 ?c38 ?k38 ?a39 ?l39 ?c39 ?k39 ?a40 ?l40 ?c40 ?k40 ?a41 ?l41 ?c41 ?k41 ?a42 ?l42 ?c42 ?k42 ?a43 ?l43 ?c43 ?k43 ?a44 ?l44 ?c44 ?k44 ?a45 ?l45 ?c45 ?k45 ?a46 ?l46 ?c46 ?k46 ?a47 ?l47 ?c47 ?k47 ?a48 ?l48 ?c48 ?k48 ?a49 ?l49 ?c49 ?k49 ?mMOST_PRIME ?mMOST_PRIMES ?mMOST_ROWS ?mMOST_ENTRY ?z_len ?z_zip ?z_list ?z_tuple ?z_range ?z_min ?z_abs ?z_any ?z_all ?z_isinstance ?z_enumerate ?z_int ?z_bool ?z_str
    (case a7 => k_is)
    (case l7 => k_is)
    (case c7 => k_is)
    (case k7 => k_is)
    (case a8 => k_is)
    (case l8 => k_is)
    (case c8 => k_is)
    (case k8 => k_is)
    (case a9 => k_is)
    (case l9 => k_is)
    (case c9 => k_is)
    (case k9 => k_is)
    (case a10 => k_is)
    (case l10 => k_is)
    (case c10 => k_is)
    (case k10 => k_is)
    (case a14 => k_is)
    (case l14 => k_is)
    (case c14 => k_is)
    (case k14 => k_is)
    (case a15 => k_is)
    (case l15 => k_is)
    (case c15 => k_is)
    (case k15 => k_is)
    (case a16 => k_is)
    (case l16 => k_is)
    (case c16 => k_is)
    (case k16 => k_is)
    (case a17 => k_is)
    (case l17 => k_is)
    (case c17 => k_is)
    (case k17 => k_is)
    (case a18 => k_is)
    (case l18 => k_is)
    (case c18 => k_is)
    (case k18 => k_is)
    (case a19 => k_is)
    (case l19 => k_is)
    (case c19 => k_is)
    (case k19 => k_is)
    (case a20 => k_is)
    (case l20 => k_is)
    (case c20 => k_is)
    (case k20 => k_is)
    (case a21 => k_is)
    (case l21 => k_is)
    (case c21 => k_is)
    (case k21 => k_is)
    (case a22 => k_is)
    (case l22 => k_is)
    (case c22 => k_is)
    (case k22 => k_is)
    (case a23 => k_is)
    (case l23 => k_is)
    (case c23 => k_is)
    (case k23 => k_is)
    (case a25 => k_is)
    (case l25 => k_is)
    (case c25 => k_is)
    (case k25 => k_is)
    (case a26 => k_is)
    (case l26 => k_is)
    (case c26 => k_is)
    (case k26 => k_is)
    (case a27 => k_is)
    (case l27 => k_is)
    (case c27 => k_is)
    (case k27 => k_is)
    (case a28 => k_is)
    (case l28 => k_is)
    (case c28 => k_is)
    (case k28 => k_is)
    (case a29 => k_is)
    (case l29 => k_is)
    (case c29 => k_is)
    (case k29 => k_is)
    (case a30 => k_is)
    (case l30 => k_is)
    (case c30 => k_is)
    (case k30 => k_is)
    (case a32 => k_is)
    (case l32 => k_is)
    (case c32 => k_is)
    (case k32 => k_is)
    (case a33 => k_is)
    (case l33 => k_is)
    (case c33 => k_is)
    (case k33 => k_is)
    (case a34 => k_is)
    (case l34 => k_is)
    (case c34 => k_is)
    (case k34 => k_is)
    (case a36 => k_is)
    (case l36 => k_is)
    (case c36 => k_is)
    (case k36 => k_is)
    (case a37 => k_is)
    (case l37 => k_is)
    (case c37 => k_is)
    (case k37 => k_is)
    (case a38 => k_is)
    (case l38 => k_is)
    (case c38 => k_is)
    (case k38 => k_is)
    (case a39 => k_is)
    (case l39 => k_is)
    (case c39 => k_is)
    (case k39 => k_is)
    (case a40 => k_is)
    (case l40 => k_is)
    (case c40 => k_is)
    (case k40 => k_is)
    (case a41 => k_is)
    (case l41 => k_is)
    (case c41 => k_is)
    (case k41 => k_is)
    (case a42 => k_is)
    (case l42 => k_is)
    (case c42 => k_is)
    (case k42 => k_is)
    (case a43 => k_is)
    (case l43 => k_is)
    (case c43 => k_is)
    (case k43 => k_is)
    (case a44 => k_is)
    (case l44 => k_is)
    (case c44 => k_is)
    (case k44 => k_is)
    (case a45 => k_is)
    (case l45 => k_is)
    (case c45 => k_is)
    (case k45 => k_is)
    (case a46 => k_is)
    (case l46 => k_is)
    (case c46 => k_is)
    (case k46 => k_is)
    (case a47 => k_is)
    (case l47 => k_is)
    (case c47 => k_is)
    (case k47 => k_is)
    (case a48 => k_is)
    (case l48 => k_is)
    (case c48 => k_is)
    (case k48 => k_is)
    (case a49 => k_is)
    (case l49 => k_is)
    (case c49 => k_is)
    (case k49 => k_is)
    (case mMOST_PRIME => k_is)
    (case mMOST_PRIMES => k_is)
    (case mMOST_ROWS => k_is)
    (case mMOST_ENTRY => k_is)
    (case z_len => k_is)
    (case z_zip => k_is)
    (case z_list => k_is)
    (case z_tuple => k_is)
    (case z_range => k_is)
    (case z_min => k_is)
    (case z_abs => k_is)
    (case z_any => k_is)
    (case z_all => k_is)
    (case z_isinstance => k_is)
    (case z_enumerate => k_is)
    (case z_int => k_is)
    (case z_bool => k_is)
    (case z_str => k_is)
