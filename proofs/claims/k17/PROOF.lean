import PyProof.Rows.All
import Wide.All
import OpenK.AllK
import Wide.FinOn
import HandS.ForMost
import HandS.Walk
import HandS.Wide
import HandS.WideBits
import HandS.Gcd
import HandS.Style
import HandS.IsInst
import PySem.Challenge.RW_relume_k17_whole_large_islands_run
import HandS.Conv
import HandS.Ends
import PyProof.ReprRoads
import PyProof.ReprLen
set_option Elab.async false
set_option linter.all false
/-! A determinant on lists of vectors by repeated expansion, and what the exactness of integer pivots needs of it. Plain Lean. -/
namespace Rl
abbrev Vec := Nat → Int

/-! ### finite sums -/
def sm : Nat → (Nat → Int) → Int
  | 0, _ => 0
  | n + 1, f => sm n f + f n
theorem sm_congr {f g : Nat → Int} : ∀ {n : Nat}, (∀ i, i < n → f i = g i) → sm n f = sm n g
  | 0, _ => rfl
  | n + 1, h => by
    show sm n f + f n = sm n g + g n
    rw [sm_congr (n := n) fun i hi => h i (by omega), h n (by omega)]
theorem sm_zero : ∀ (n : Nat), sm n (fun _ => 0) = 0
  | 0 => rfl
  | n + 1 => by
    show sm n (fun _ => 0) + 0 = 0
    rw [sm_zero n]; rfl
theorem sm_eq_zero {f : Nat → Int} {n : Nat} (h : ∀ i, i < n → f i = 0) : sm n f = 0 := by
  rw [sm_congr (g := fun _ => 0) h, sm_zero]
theorem sm_add (f g : Nat → Int) : ∀ (n : Nat), sm n (fun i => f i + g i) = sm n f + sm n g
  | 0 => rfl
  | n + 1 => by
    show sm n (fun i => f i + g i) + (f n + g n) = (sm n f + f n) + (sm n g + g n)
    rw [sm_add f g n]; omega
theorem sm_mul (a : Int) (f : Nat → Int) : ∀ (n : Nat), sm n (fun i => a * f i) = a * sm n f
  | 0 => by show (0 : Int) = a * 0; rw [Int.mul_zero]
  | n + 1 => by
    show sm n (fun i => a * f i) + a * f n = a * (sm n f + f n)
    rw [sm_mul a f n, Int.mul_add]
theorem sm_sub (f g : Nat → Int) : ∀ (n : Nat), sm n (fun i => f i - g i) = sm n f - sm n g
  | 0 => rfl
  | n + 1 => by
    show sm n (fun i => f i - g i) + (f n - g n) = (sm n f + f n) - (sm n g + g n)
    rw [sm_sub f g n]; omega
theorem sm_swap (f : Nat → Nat → Int) (m : Nat) : ∀ (n : Nat), sm n (fun i => sm m (fun j => f i j)) = sm m (fun j => sm n (fun i => f i j))
  | 0 => by
    show 0 = sm m (fun j => 0)
    rw [sm_zero]
  | n + 1 => by
    show sm n (fun i => sm m (fun j => f i j)) + sm m (fun j => f n j) = sm m (fun j => sm n (fun i => f i j) + f n j)
    rw [sm_swap f m n, sm_add]
/-- all terms but one vanish -/
theorem sm_one {f : Nat → Int} {n j : Nat} (hj : j < n) (h : ∀ i, i < n → i ≠ j → f i = 0) : sm n f = f j := by
  induction n with
  | zero => omega
  | succ n ih =>
    show sm n f + f n = f j
    by_cases e : j = n
    · subst e
      rw [sm_eq_zero fun i hi => h i (by omega) (by omega)]; omega
    · rw [ih (by omega) fun i hi hn => h i (by omega) hn, h n (by omega) (by omega)]; omega
/-- all terms but two vanish -/
theorem sm_two {f : Nat → Int} {n j k : Nat} (hj : j < n) (hk : k < n) (hjk : j ≠ k) (h : ∀ i, i < n → i ≠ j → i ≠ k → f i = 0) : sm n f = f j + f k := by
  have e1 : sm n f = sm n (fun i => (if i = j then f j else 0) + (if i = j then 0 else f i)) := sm_congr fun i hi => by
    show f i = (if i = j then f j else 0) + (if i = j then 0 else f i)
    by_cases e : i = j
    · rw [if_pos e, if_pos e, e]; omega
    · rw [if_neg e, if_neg e]; omega
  rw [e1, sm_add, sm_one (j := j) hj fun i hi hn => if_neg hn, sm_one (j := k) hk fun i hi hn => ?_]
  · show (if j = j then f j else 0) + (if k = j then 0 else f k) = f j + f k
    rw [if_pos rfl, if_neg (fun e => hjk e.symm)]
  · show (if i = j then 0 else f i) = 0
    by_cases e : i = j
    · rw [if_pos e]
    · rw [if_neg e]; exact h i hi e hn
theorem sm_nonneg {f : Nat → Int} : ∀ {n : Nat}, (∀ i, i < n → 0 ≤ f i) → 0 ≤ sm n f
  | 0, _ => Int.le_refl 0
  | n + 1, h => by
    show 0 ≤ sm n f + f n
    have h1 := sm_nonneg (f := f) (n := n) fun i hi => h i (by omega)
    have h2 := h n (by omega)
    omega
theorem sm_le {f g : Nat → Int} : ∀ {n : Nat}, (∀ i, i < n → f i ≤ g i) → sm n f ≤ sm n g
  | 0, _ => Int.le_refl 0
  | n + 1, h => by
    show sm n f + f n ≤ sm n g + g n
    have h1 := sm_le (f := f) (g := g) (n := n) fun i hi => h i (by omega)
    have h2 := h n (by omega)
    omega
/-- a sum of things at most 0 that is positive has a positive term -/
theorem sm_pos {f : Nat → Int} : ∀ {n : Nat}, 0 < sm n f → ∃ i, i < n ∧ 0 < f i
  | 0, h => absurd h (Int.lt_irrefl 0)
  | n + 1, h => by
    by_cases e : 0 < f n
    · exact ⟨n, by omega, e⟩
    · have h' : 0 < sm n f := by
        have : 0 < sm n f + f n := h
        omega
      obtain ⟨i, hi, p⟩ := sm_pos h'
      exact ⟨i, by omega, p⟩
/-- a sum of things at least 0 that is 0 has only terms 0 -/
theorem sm_all_zero {f : Nat → Int} {n : Nat} (h0 : ∀ i, i < n → 0 ≤ f i) (h : sm n f = 0) : ∀ i, i < n → f i = 0 := by
  induction n with
  | zero => intro i hi; omega
  | succ n ih =>
    have h1 : sm n f + f n = 0 := h
    have h2 := h0 n (by omega)
    have h3 := sm_nonneg (f := f) (n := n) fun i hi => h0 i (by omega)
    intro i hi
    by_cases e : i = n
    · subst e; omega
    · exact ih (fun i hi => h0 i (by omega)) (by omega) i (by omega)
theorem sm_natAbs {f : Nat → Int} {M : Nat} : ∀ {n : Nat}, (∀ i, i < n → (f i).natAbs ≤ M) → (sm n f).natAbs ≤ n * M
  | 0, _ => by show (0 : Int).natAbs ≤ 0 * M; simp
  | n + 1, h => by
    show (sm n f + f n).natAbs ≤ (n + 1) * M
    have h1 := sm_natAbs (f := f) (n := n) fun i hi => h i (by omega)
    have h2 := h n (by omega)
    have h3 := Int.natAbs_add_le (sm n f) (f n)
    rw [Nat.add_mul, Nat.one_mul]
    omega

/-! ### one expansion -/
def ex (v : Vec) : (List Nat → Int) → List Nat → Int
  | _, [] => 0
  | f, c :: cs => v c * f cs - ex v (fun s => f (c :: s)) cs
theorem ex_zero (v : Vec) : ∀ (cs : List Nat), ex v (fun _ => 0) cs = 0
  | [] => rfl
  | c :: cs => by
    show v c * 0 - ex v (fun _ => 0) cs = 0
    rw [ex_zero v cs]; omega
theorem ex_sub (v : Vec) : ∀ (cs : List Nat) (f g : List Nat → Int), ex v (fun s => f s - g s) cs = ex v f cs - ex v g cs
  | [], _, _ => rfl
  | c :: cs, f, g => by
    show v c * (f cs - g cs) - ex v (fun s => f (c :: s) - g (c :: s)) cs = (v c * f cs - ex v (fun s => f (c :: s)) cs) - (v c * g cs - ex v (fun s => g (c :: s)) cs)
    rw [ex_sub v cs (fun s => f (c :: s)) (fun s => g (c :: s)), Int.mul_sub]; omega
theorem ex_add (v : Vec) : ∀ (cs : List Nat) (f g : List Nat → Int), ex v (fun s => f s + g s) cs = ex v f cs + ex v g cs
  | [], _, _ => rfl
  | c :: cs, f, g => by
    show v c * (f cs + g cs) - ex v (fun s => f (c :: s) + g (c :: s)) cs = (v c * f cs - ex v (fun s => f (c :: s)) cs) + (v c * g cs - ex v (fun s => g (c :: s)) cs)
    rw [ex_add v cs (fun s => f (c :: s)) (fun s => g (c :: s)), Int.mul_add]; omega
theorem ex_mul (v : Vec) (a : Int) : ∀ (cs : List Nat) (f : List Nat → Int), ex v (fun s => a * f s) cs = a * ex v f cs
  | [], _ => by show (0 : Int) = a * 0; rw [Int.mul_zero]
  | c :: cs, f => by
    show v c * (a * f cs) - ex v (fun s => a * f (c :: s)) cs = a * (v c * f cs - ex v (fun s => f (c :: s)) cs)
    rw [ex_mul v a cs (fun s => f (c :: s)), Int.mul_sub, Int.mul_left_comm]
theorem ex_vadd (v w : Vec) : ∀ (cs : List Nat) (f : List Nat → Int), ex (fun i => v i + w i) f cs = ex v f cs + ex w f cs
  | [], _ => rfl
  | c :: cs, f => by
    show (v c + w c) * f cs - ex (fun i => v i + w i) (fun s => f (c :: s)) cs = (v c * f cs - ex v (fun s => f (c :: s)) cs) + (w c * f cs - ex w (fun s => f (c :: s)) cs)
    rw [ex_vadd v w cs (fun s => f (c :: s)), Int.add_mul]; omega
theorem ex_vmul (a : Int) (v : Vec) : ∀ (cs : List Nat) (f : List Nat → Int), ex (fun i => a * v i) f cs = a * ex v f cs
  | [], _ => by show (0 : Int) = a * 0; rw [Int.mul_zero]
  | c :: cs, f => by
    show (a * v c) * f cs - ex (fun i => a * v i) (fun s => f (c :: s)) cs = a * (v c * f cs - ex v (fun s => f (c :: s)) cs)
    rw [ex_vmul a v cs (fun s => f (c :: s)), Int.mul_sub, Int.mul_assoc]
theorem ex_vcongr {v w : Vec} : ∀ (cs : List Nat) (f : List Nat → Int), (∀ c ∈ cs, v c = w c) → ex v f cs = ex w f cs
  | [], _, _ => rfl
  | c :: cs, f, h => by
    show v c * f cs - ex v (fun s => f (c :: s)) cs = w c * f cs - ex w (fun s => f (c :: s)) cs
    rw [ex_vcongr cs (fun s => f (c :: s)) fun d hd => h d (List.mem_cons_of_mem _ hd), h c List.mem_cons_self]
theorem ex_ex (v : Vec) : ∀ (cs : List Nat) (f : List Nat → Int), ex v (ex v f) cs = 0
  | [], _ => rfl
  | c :: cs, f => by
    show v c * ex v f cs - ex v (fun s => v c * f s - ex v (fun t => f (c :: t)) s) cs = 0
    rw [ex_sub v cs (fun s => v c * f s) (ex v fun t => f (c :: t)), ex_mul, ex_ex v cs (fun t => f (c :: t))]; omega
theorem ex_anti (v w : Vec) (cs : List Nat) (f : List Nat → Int) : ex v (ex w f) cs = - ex w (ex v f) cs := by
  have h := ex_ex (fun i => v i + w i) cs f
  have e : ex (fun i => v i + w i) f = fun s => ex v f s + ex w f s := funext fun s => ex_vadd v w s f
  rw [e, ex_vadd, ex_add, ex_add, ex_ex, ex_ex] at h
  omega

/-! ### the determinant -/
def det : List Vec → List Nat → Int
  | [], _ => 1
  | v :: vs, cs => ex v (det vs) cs
theorem det_mem {v : Vec} : ∀ {vs : List Vec} (cs : List Nat), v ∈ vs → ex v (det vs) cs = 0
  | w :: vs, cs, h => by
    rcases List.mem_cons.mp h with e | h
    · subst e
      exact ex_ex v cs (det vs)
    · show ex v (ex w (det vs)) cs = 0
      rw [ex_anti]
      have e : ex v (det vs) = fun _ => 0 := funext fun s => det_mem (v := v) (vs := vs) s h
      rw [e, ex_zero]; rfl
theorem det_dup {v : Vec} : ∀ {vs : List Vec} {i j : Nat} (cs : List Nat), i < j → vs[i]? = some v → vs[j]? = some v → det vs cs = 0
  | [], _, _, _, _, h, _ => by simp at h
  | w :: vs, 0, j + 1, cs, _, h1, h2 => by
    have e : w = v := by simpa using h1
    subst e
    exact det_mem cs (List.mem_of_getElem? (by simpa using h2))
  | w :: vs, i + 1, j + 1, cs, h, h1, h2 => by
    have e : det vs = fun _ => 0 := funext fun s => det_dup (vs := vs) (i := i) (j := j) s (by omega) (by simpa using h1) (by simpa using h2)
    show ex w (det vs) cs = 0
    rw [e, ex_zero]
theorem det_vadd (x y : Vec) : ∀ {vs : List Vec} {i : Nat} (cs : List Nat), i < vs.length → det (vs.set i (fun c => x c + y c)) cs = det (vs.set i x) cs + det (vs.set i y) cs
  | [], _, _, h => by simp at h
  | w :: vs, 0, cs, _ => ex_vadd x y cs (det vs)
  | w :: vs, i + 1, cs, h => by
    have e : det (vs.set i fun c => x c + y c) = fun s => det (vs.set i x) s + det (vs.set i y) s := funext fun s => det_vadd x y s (by simpa using h)
    show ex w (det (vs.set i fun c => x c + y c)) cs = ex w (det (vs.set i x)) cs + ex w (det (vs.set i y)) cs
    rw [e, ex_add]
theorem det_vmul (a : Int) (x : Vec) : ∀ {vs : List Vec} {i : Nat} (cs : List Nat), i < vs.length → det (vs.set i (fun c => a * x c)) cs = a * det (vs.set i x) cs
  | [], _, _, h => by simp at h
  | w :: vs, 0, cs, _ => ex_vmul a x cs (det vs)
  | w :: vs, i + 1, cs, h => by
    have e : det (vs.set i fun c => a * x c) = fun s => a * det (vs.set i x) s := funext fun s => det_vmul a x s (by simpa using h)
    show ex w (det (vs.set i fun c => a * x c)) cs = a * ex w (det (vs.set i x)) cs
    rw [e, ex_mul]
theorem ex_sublist {v : Vec} : ∀ (cs : List Nat) (f g : List Nat → Int), (∀ s, s.Sublist cs → f s = g s) → ex v f cs = ex v g cs
  | [], _, _, _ => rfl
  | c :: cs, f, g, h => by
    show v c * f cs - ex v (fun s => f (c :: s)) cs = v c * g cs - ex v (fun s => g (c :: s)) cs
    rw [ex_sublist cs (fun s => f (c :: s)) (fun s => g (c :: s)) fun s hs => h _ (hs.cons₂ c), h cs (List.sublist_cons_self c cs)]
/-- only the coordinates at hand matter -/
theorem det_vcongr {x y : Vec} : ∀ {vs : List Vec} {i : Nat} (cs : List Nat), (∀ c ∈ cs, x c = y c) → det (vs.set i x) cs = det (vs.set i y) cs
  | [], _, _, _ => rfl
  | w :: vs, 0, cs, h => ex_vcongr cs (det vs) h
  | w :: vs, i + 1, cs, h => ex_sublist cs _ _ fun s hs => det_vcongr s fun c hc => h c (hs.subset hc)
theorem det_vzero {vs : List Vec} {i : Nat} (cs : List Nat) (h : i < vs.length) : det (vs.set i (fun _ => 0)) cs = 0 := by
  have e := det_vmul 0 (fun _ => 0) (vs := vs) (i := i) cs h
  have e2 : (fun (c : Nat) => (0 : Int) * (fun _ => (0 : Int)) c) = fun _ => 0 := funext fun c => by show (0 : Int) * 0 = 0; rfl
  rw [e2] at e
  rw [e]; exact Int.zero_mul _
theorem det_vsum (a : Nat → Int) (x : Nat → Vec) {vs : List Vec} {i : Nat} (cs : List Nat) (h : i < vs.length) : ∀ (n : Nat), det (vs.set i (fun c => sm n fun l => a l * x l c)) cs = sm n fun l => a l * det (vs.set i (x l)) cs
  | 0 => det_vzero cs h
  | n + 1 => by
    show det (vs.set i fun c => (sm n fun l => a l * x l c) + a n * x n c) cs = (sm n fun l => a l * det (vs.set i (x l)) cs) + a n * det (vs.set i (x n)) cs
    rw [det_vadd (fun c => sm n fun l => a l * x l c) (fun c => a n * x n c) cs h, det_vsum a x cs h n, det_vmul (a n) (x n) cs h]
/-- a combination in one slot -/
theorem det_comb {d : Int} {v : Vec} {a : Nat → Int} {x : Nat → Vec} {n : Nat} {vs : List Vec} {i : Nat} {cs : List Nat} (h : i < vs.length) (e : ∀ c ∈ cs, d * v c = sm n fun l => a l * x l c) :
    d * det (vs.set i v) cs = sm n fun l => a l * det (vs.set i (x l)) cs := by
  rw [← det_vmul d v cs h, ← det_vsum a x cs h n]
  exact det_vcongr cs e
/-- two slots are swapped -/
theorem det_swap {vs : List Vec} {i j : Nat} {x y : Vec} (cs : List Nat) (hij : i ≠ j) (hi : i < vs.length) (hj : j < vs.length) : det ((vs.set i x).set j y) cs = - det ((vs.set i y).set j x) cs := by
  have dup : ∀ z : Vec, det ((vs.set i z).set j z) cs = 0 := fun z => by
    have e1 : ((vs.set i z).set j z)[i]? = some z := by
      rw [List.getElem?_set_ne (fun e => hij e.symm), List.getElem?_set_self hi]
    have e2 : ((vs.set i z).set j z)[j]? = some z := by
      rw [List.getElem?_set_self (by rw [List.length_set]; exact hj)]
    rcases Nat.lt_or_gt_of_ne hij with l | l
    · exact det_dup cs l e1 e2
    · exact det_dup cs l e2 e1
  have h := dup fun c => x c + y c
  have add1 : ∀ z : Vec, det ((vs.set i fun c => x c + y c).set j z) cs = det ((vs.set i x).set j z) cs + det ((vs.set i y).set j z) cs := fun z => by
    rw [List.set_comm _ _ hij, List.set_comm _ _ hij, List.set_comm _ _ hij]
    exact det_vadd x y cs (by rw [List.length_set]; exact hi)
  rw [det_vadd x y cs (by rw [List.length_set]; exact hj), add1, add1, dup, dup] at h
  omega

/-! ### size -/
theorem ex_bound {v : Vec} {M F : Nat} (hv : ∀ c, (v c).natAbs ≤ M) : ∀ (cs : List Nat) (f : List Nat → Int), (∀ s, s.length ≤ cs.length → (f s).natAbs ≤ F) → (ex v f cs).natAbs ≤ cs.length * (M * F)
  | [], _, _ => by show (0 : Int).natAbs ≤ _; simp
  | c :: cs, f, h => by
    show (v c * f cs - ex v (fun s => f (c :: s)) cs).natAbs ≤ (cs.length + 1) * (M * F)
    have h1 := ex_bound hv cs (fun s => f (c :: s)) fun s hs => h (c :: s) (by simpa using hs)
    have h2 := h cs (by simp)
    have h3 : (v c * f cs).natAbs ≤ M * F := by
      rw [Int.natAbs_mul]
      exact Nat.mul_le_mul (hv c) h2
    have h4 := Int.natAbs_sub_le (v c * f cs) (ex v (fun s => f (c :: s)) cs)
    rw [Nat.add_mul, Nat.one_mul]
    omega
theorem det_bound {M L : Nat} : ∀ {vs : List Vec} {cs : List Nat}, (∀ v ∈ vs, ∀ c, (v c).natAbs ≤ M) → cs.length ≤ L → (det vs cs).natAbs ≤ (L * M) ^ vs.length
  | [], _, _, _ => by show (1 : Int).natAbs ≤ 1; decide
  | v :: vs, cs, hv, hl => by
    have h1 := ex_bound (F := (L * M) ^ vs.length) (hv v List.mem_cons_self) cs (det vs) fun s hs => det_bound (fun w hw => hv w (List.mem_cons_of_mem _ hw)) (Nat.le_trans hs hl)
    refine Nat.le_trans h1 ?_
    show cs.length * (M * (L * M) ^ vs.length) ≤ (L * M) ^ (vs.length + 1)
    rw [Nat.pow_succ, ← Nat.mul_assoc, Nat.mul_comm ((L * M) ^ vs.length) (L * M)]
    exact Nat.mul_le_mul_right _ (Nat.mul_le_mul_right _ hl)

/-! ### the unit vectors -/
def un (k : Nat) : Vec := fun c => if c = k then 1 else 0
theorem ex_un_out {k : Nat} : ∀ (cs : List Nat) (f : List Nat → Int), k ∉ cs → ex (un k) f cs = 0
  | [], _, _ => rfl
  | c :: cs, f, h => by
    show (if c = k then 1 else 0) * f cs - ex (un k) (fun s => f (c :: s)) cs = 0
    rw [if_neg (fun e => h (by rw [e]; exact List.mem_cons_self)), ex_un_out cs _ fun z => h (List.mem_cons_of_mem _ z)]; omega
theorem det_un : ∀ (ks : List Nat), ks.Nodup → det (ks.map un) ks = 1
  | [], _ => rfl
  | k :: ks, h => by
    have h' := List.nodup_cons.mp h
    show (if k = k then 1 else 0) * det (ks.map un) ks - ex (un k) (fun s => det (ks.map un) (k :: s)) ks = 1
    rw [if_pos rfl, det_un ks h'.2, ex_un_out ks _ h'.1]; rfl
end Rl
set_option Elab.async false
set_option linter.all false
/-! Tableaus by their bases: entries as determinants, one pivot, what stays true. -/
namespace Rl
section
variable (A : Nat → Vec) (m : Nat)
/-- the determinant of a basis, an entry, a reduced cost -/
def sc (b : List Nat) : Int := det (b.map A) (List.range m)
def ent (b : List Nat) (i k : Nat) : Int := det ((b.map A).set i (A k)) (List.range m)
def bas (b : List Nat) (i : Nat) : Nat := b.getD i 0
def red (g : Nat → Int) (b : List Nat) (k : Nat) : Int := sc A m b * g k - sm m fun i => g (bas b i) * ent A m b i k
/-- the tableau says what the equations say -/
def Cram (n : Nat) (b : List Nat) : Prop := ∀ k, k < n → ∀ l, l < m → sm m (fun i => ent A m b i k * A (bas b i) l) = sc A m b * A k l
end
section
variable {A : Nat → Vec} {m n : Nat} {b : List Nat} {g : Nat → Int}
theorem bas_get {i : Nat} (h : i < b.length) : b[i]? = some (bas b i) := by
  unfold bas
  rw [List.getD_eq_getElem?_getD, List.getElem?_eq_getElem h]; rfl
theorem bas_set_same {r e : Nat} (h : r < b.length) : bas (b.set r e) r = e := by
  unfold bas
  rw [List.getD_eq_getElem?_getD, List.getElem?_set_self h]; rfl
theorem bas_set_ne {r e i : Nat} (h : i ≠ r) : bas (b.set r e) i = bas b i := by
  unfold bas
  rw [List.getD_eq_getElem?_getD, List.getD_eq_getElem?_getD, List.getElem?_set_ne (fun z => h z.symm)]
theorem sc_set (r e : Nat) : sc A m (b.set r e) = ent A m b r e := by
  unfold sc ent
  rw [List.map_set]
theorem ent_set_row (r e k : Nat) : ent A m (b.set r e) r k = ent A m b r k := by
  unfold ent
  rw [List.map_set, List.set_set]
theorem ent_self {i : Nat} (h : i < b.length) : ent A m b i (bas b i) = sc A m b := by
  unfold ent sc
  have e : (b.map A).set i (A (bas b i)) = b.map A := by
    rw [← List.map_set]
    congr 1
    refine List.ext_getElem? fun j => ?_
    by_cases z : j = i
    · subst z
      rw [List.getElem?_set_self h, bas_get h]
    · rw [List.getElem?_set_ne (fun q => z q.symm)]
  rw [e]
theorem ent_other {i j : Nat} (hi : i < b.length) (hj : j < b.length) (h : i ≠ j) : ent A m b i (bas b j) = 0 := by
  unfold ent
  have e1 : ((b.map A).set i (A (bas b j)))[i]? = some (A (bas b j)) := List.getElem?_set_self (by rw [List.length_map]; exact hi)
  have e2 : ((b.map A).set i (A (bas b j)))[j]? = some (A (bas b j)) := by
    rw [List.getElem?_set_ne h, List.getElem?_map, bas_get hj]; rfl
  rcases Nat.lt_or_gt_of_ne h with l | l
  · exact det_dup _ l e1 e2
  · exact det_dup _ l e2 e1
/-- a column in terms of another basis' columns, in one slot -/
theorem ent_comb {b c : List Nat} (hc : c.length = m) (C : Cram A m n b) {k : Nat} (hk : k < n) {j : Nat} (hj : j < m) : sc A m b * ent A m c j k = sm m fun i => ent A m b i k * ent A m c j (bas b i) := by
  unfold ent
  exact det_comb (x := fun i => A (bas b i)) (by rw [List.length_map, hc]; exact hj) fun l hl => (C k hk l (List.mem_range.mp hl)).symm
/-- THE EXACT DIVISION -/
theorem ent_pivot (hb : b.length = m) (C : Cram A m n b) {r e i k : Nat} (hr : r < m) (hi : i < m) (hir : i ≠ r) (hk : k < n) :
    sc A m b * ent A m (b.set r e) i k = ent A m b r e * ent A m b i k - ent A m b i e * ent A m b r k := by
  rw [ent_comb (b := b) (c := b.set r e) (by rw [List.length_set]; exact hb) C hk hi, sm_two hi hr hir fun j hj h1 h2 => ?_]
  · have e1 : ent A m (b.set r e) i (bas b i) = ent A m b r e := by
      rw [← bas_set_ne (e := e) hir, ent_self (by rw [List.length_set, hb]; exact hi), sc_set]
    have e2 : ent A m (b.set r e) i (bas b r) = - ent A m b i e := by
      have q : ent A m b i e = det (((b.map A).set r (A (bas b r))).set i (A e)) (List.range m) := by
        unfold ent
        congr 2
        refine List.ext_getElem? fun j => ?_
        by_cases z : j = r
        · subst z
          rw [List.getElem?_set_self (by rw [List.length_map, hb]; exact hr), List.getElem?_map, bas_get (by rw [hb]; exact hr)]; rfl
        · rw [List.getElem?_set_ne (fun q => z q.symm)]
      unfold ent at q ⊢
      rw [List.map_set, det_swap _ (fun z => hir z.symm) (by rw [List.length_map, hb]; exact hr) (by rw [List.length_map, hb]; exact hi), ← q]
    rw [e1, e2, Int.mul_comm (ent A m b i k), Int.mul_neg, Int.mul_comm (ent A m b r k)]; omega
  · rw [← bas_set_ne (e := e) h2, ent_other (by rw [List.length_set, hb]; exact hi) (by rw [List.length_set, hb]; exact hj) (fun z => h1 z.symm), Int.mul_zero]
theorem red_pivot (hb : b.length = m) (C : Cram A m n b) {r e k : Nat} (hr : r < m) (hk : k < n) :
    sc A m b * red A m g (b.set r e) k = ent A m b r e * red A m g b k - red A m g b e * ent A m b r k := by
  unfold red
  rw [sc_set]
  have h1 : sc A m b * sm m (fun i => g (bas (b.set r e) i) * ent A m (b.set r e) i k) =
      ent A m b r e * (sm m (fun i => g (bas b i) * ent A m b i k)) - (sm m fun i => g (bas b i) * ent A m b i e) * ent A m b r k + g e * (sc A m b * ent A m b r k) := by
    rw [← sm_mul, ← sm_mul, Int.mul_comm (sm m fun i => g (bas b i) * ent A m b i e), ← sm_mul, ← sm_sub]
    have q : ∀ i, i < m → sc A m b * (g (bas (b.set r e) i) * ent A m (b.set r e) i k) =
        (ent A m b r e * (g (bas b i) * ent A m b i k) - ent A m b r k * (g (bas b i) * ent A m b i e)) + (if i = r then g e * (sc A m b * ent A m b r k) else 0) := fun i hi => by
      by_cases z : i = r
      · subst z
        rw [if_pos rfl, bas_set_same (by rw [hb]; exact hr), ent_set_row]
        grind
      · rw [if_neg z, bas_set_ne z]
        have := ent_pivot hb C (e := e) hr hi z hk
        grind
    rw [sm_congr q, sm_add, sm_one (j := r) hr fun i _ hi => if_neg hi, if_pos rfl]
  grind
theorem Cram.pivot (hb : b.length = m) (C : Cram A m n b) {r e : Nat} (hr : r < m) (he : e < n) (h0 : sc A m b ≠ 0) : Cram A m n (b.set r e) := fun k hk l hl => by
  have h1 := C k hk l hl
  have h2 := C e he l hl
  refine Int.eq_of_mul_eq_mul_left h0 ?_
  rw [sc_set, ← sm_mul]
  have q : ∀ i, i < m → sc A m b * (ent A m (b.set r e) i k * A (bas (b.set r e) i) l) =
      (ent A m b r e * (ent A m b i k * A (bas b i) l) - ent A m b r k * (ent A m b i e * A (bas b i) l)) + (if i = r then sc A m b * (ent A m b r k * A e l) else 0) := fun i hi => by
    by_cases z : i = r
    · subst z
      rw [if_pos rfl, bas_set_same (by rw [hb]; exact hr), ent_set_row]
      grind
    · rw [if_neg z, bas_set_ne z]
      have := ent_pivot hb C (e := e) hr hi z hk
      grind
  rw [sm_congr q, sm_add, sm_one (j := r) hr fun i _ hi => if_neg hi, if_pos rfl, sm_sub, sm_mul, sm_mul, h1, h2]
  grind
/-- the reduced costs of one basis, seen from another -/
theorem red_star {b c : List Nat} (hb : b.length = m) (hc : c.length = m) (C : Cram A m n b) (h0 : sc A m b ≠ 0) {k : Nat} (hk : k < n) :
    sc A m b * red A m g c k = sc A m c * red A m g b k + sm m fun i => ent A m b i k * red A m g c (bas b i) := by
  unfold red
  have e1 : sc A m b * sm m (fun j => g (bas c j) * ent A m c j k) = sm m fun j => sm m fun i => ent A m b i k * (g (bas c j) * ent A m c j (bas b i)) := by
    rw [← sm_mul]
    refine sm_congr fun j hj => ?_
    have := ent_comb hc C hk hj
    have q : sm m (fun i => ent A m b i k * (g (bas c j) * ent A m c j (bas b i))) = g (bas c j) * sm m fun i => ent A m b i k * ent A m c j (bas b i) := by
      rw [← sm_mul]
      exact sm_congr fun i _ => by grind
    rw [q, ← this]; grind
  have e2 : sm m (fun i => ent A m b i k * (sc A m c * g (bas b i) - sm m fun j => g (bas c j) * ent A m c j (bas b i))) =
      sc A m c * sm m (fun i => g (bas b i) * ent A m b i k) - sm m fun j => sm m fun i => ent A m b i k * (g (bas c j) * ent A m c j (bas b i)) := by
    rw [sm_swap, ← sm_mul, ← sm_sub]
    refine sm_congr fun i _ => ?_
    rw [Int.mul_sub]
    have : ent A m b i k * sm m (fun j => g (bas c j) * ent A m c j (bas b i)) = sm m fun j => ent A m b i k * (g (bas c j) * ent A m c j (bas b i)) := (sm_mul _ _ _).symm
    rw [this]
    grind
  rw [e2]
  have e3 := e1
  grind
theorem red_bas (hb : b.length = m) {i : Nat} (hi : i < m) : red A m g b (bas b i) = 0 := by
  unfold red
  rw [sm_one (j := i) hi fun j hj h => ?_, ent_self (by rw [hb]; exact hi), Int.mul_comm]
  · omega
  · rw [ent_other (by rw [hb]; exact hj) (by rw [hb]; exact hi) h, Int.mul_zero]
end
end Rl
set_option Elab.async false
set_option linter.all false
/-! The least-index rule ends. -/
namespace Rl
/-! ### a pigeonhole -/
theorem pig : ∀ (K : Nat) (g : Nat → Nat), (∀ t, t ≤ K → g t < K) → ∃ p q, p < q ∧ q ≤ K ∧ g p = g q
  | 0, g, h => absurd (h 0 (Nat.le_refl 0)) (Nat.not_lt_zero _)
  | K + 1, g, h => by
    by_cases e : ∃ p, p ≤ K ∧ g p = g (K + 1)
    · obtain ⟨p, h1, h2⟩ := e
      exact ⟨p, K + 1, by omega, Nat.le_refl _, h2⟩
    · have ne : ∀ p, p ≤ K → g p ≠ g (K + 1) := fun p hp z => e ⟨p, hp, z⟩
      have hl := h (K + 1) (Nat.le_refl _)
      obtain ⟨p, q, h1, h2, h3⟩ := pig K (fun t => if g t = K then g (K + 1) else g t) fun t ht => by
        show (if g t = K then g (K + 1) else g t) < K
        have h1 := h t (by omega)
        have h2 := ne t ht
        by_cases z : g t = K
        · rw [if_pos z]; omega
        · rw [if_neg z]; omega
      refine ⟨p, q, h1, by omega, ?_⟩
      have h3' : (if g p = K then g (K + 1) else g p) = (if g q = K then g (K + 1) else g q) := h3
      have np := ne p (by omega)
      have nq := ne q (by omega)
      by_cases z : g p = K
      · by_cases z' : g q = K
        · rw [z, z']
        · rw [if_pos z, if_neg z'] at h3'; exact absurd h3'.symm nq
      · by_cases z' : g q = K
        · rw [if_neg z, if_pos z'] at h3'; exact absurd h3' np
        · rw [if_neg z, if_neg z'] at h3'; exact h3'
def code (N : Nat) : List Nat → Nat
  | [] => 0
  | x :: xs => x + N * code N xs
theorem code_lt {N : Nat} : ∀ (b : List Nat), (∀ x ∈ b, x < N) → code N b < N ^ b.length
  | [], _ => by show 0 < 1; decide
  | x :: xs, h => by
    show x + N * code N xs < N ^ (xs.length + 1)
    have h1 := code_lt xs fun y hy => h y (List.mem_cons_of_mem _ hy)
    have h2 := h x List.mem_cons_self
    have h3 : N * (code N xs + 1) ≤ N * N ^ xs.length := Nat.mul_le_mul_left N h1
    rw [Nat.pow_succ, Nat.mul_comm (N ^ xs.length) N]
    rw [Nat.mul_add, Nat.mul_one] at h3
    omega
theorem code_inj {N : Nat} : ∀ (b c : List Nat), b.length = c.length → (∀ x ∈ b, x < N) → (∀ x ∈ c, x < N) → code N b = code N c → b = c
  | [], [], _, _, _, _ => rfl
  | x :: xs, y :: ys, hl, hb, hc, h => by
    have h' : x + N * code N xs = y + N * code N ys := h
    have hx := hb x List.mem_cons_self
    have hy := hc y List.mem_cons_self
    have e1 : x = y := by
      have q := congrArg (· % N) h'
      simp only [Nat.add_mul_mod_self_left] at q
      rwa [Nat.mod_eq_of_lt hx, Nat.mod_eq_of_lt hy] at q
    subst e1
    have e2 : code N xs = code N ys := Nat.eq_of_mul_eq_mul_left (by omega : 0 < N) (by omega)
    rw [code_inj xs ys (by simpa using hl) (fun z hz => hb z (List.mem_cons_of_mem _ hz)) (fun z hz => hc z (List.mem_cons_of_mem _ hz)) e2]

section
variable (A : Nat → Vec) (m C : Nat) (g : Nat → Int)
def bet (b : List Nat) (i : Nat) : Int := ent A m b i (C + m)
structure Good (b : List Nat) : Prop where
  len : b.length = m
  cram : Cram A m (C + m + 1) b
  pos : 0 < sc A m b
  feas : ∀ i, i < m → 0 ≤ bet A m C b i
  low : ∀ x ∈ b, x < C + m
structure Step (b : List Nat) (r e : Nat) : Prop where
  he : e < C
  neg : red A m g b e < 0
  first : ∀ k, k < e → 0 ≤ red A m g b k
  hr : r < m
  piv : 0 < ent A m b r e
  least : ∀ i, i < m → 0 < ent A m b i e → bet A m C b r * ent A m b i e < bet A m C b i * ent A m b r e ∨ (bet A m C b r * ent A m b i e = bet A m C b i * ent A m b r e ∧ bas b r ≤ bas b i)
end
section
variable {A : Nat → Vec} {m C : Nat} {g : Nat → Int} {b : List Nat} {r e : Nat}
theorem Good.next (G : Good A m C b) (S : Step A m C g b r e) : Good A m C (b.set r e) := by
  refine ⟨by rw [List.length_set]; exact G.len, G.cram.pivot G.len S.hr (by have := S.he; omega) (by have := G.pos; omega), by rw [sc_set]; exact S.piv, fun i hi => ?_, fun x hx => ?_⟩
  · show 0 ≤ ent A m (b.set r e) i (C + m)
    by_cases z : i = r
    · subst z
      rw [ent_set_row]
      exact G.feas i hi
    · have h := ent_pivot G.len G.cram (e := e) S.hr hi z (k := C + m) (by omega)
      have h0 := G.feas i hi
      have h1 := G.feas r S.hr
      have h2 := G.pos
      have h3 := S.piv
      have h5 : 0 ≤ ent A m b r e * ent A m b i (C + m) - ent A m b i e * ent A m b r (C + m) := by
        by_cases p : 0 < ent A m b i e
        · have h4 := S.least i hi p
          unfold bet at h4
          have c1 := Int.mul_comm (ent A m b r e) (ent A m b i (C + m))
          have c2 := Int.mul_comm (ent A m b i e) (ent A m b r (C + m))
          omega
        · have p1 : 0 ≤ ent A m b r e * ent A m b i (C + m) := Int.mul_nonneg (by omega) h0
          have p2 : 0 ≤ (- ent A m b i e) * ent A m b r (C + m) := Int.mul_nonneg (by omega) h1
          rw [Int.neg_mul] at p2
          omega
      rw [← h] at h5
      exact Int.nonneg_of_mul_nonneg_right h5 h2
  · rcases List.mem_or_eq_of_mem_set hx with z | z
    · exact G.low x z
    · have := S.he
      omega
theorem Good.inj (G : Good A m C b) {i j : Nat} (hi : i < m) (hj : j < m) (h : bas b i = bas b j) : i = j := by
  refine Decidable.by_contra fun z => ?_
  have h1 := ent_self (A := A) (m := m) (b := b) (i := i) (by rw [G.len]; exact hi)
  have h2 := ent_other (A := A) (m := m) (b := b) (i := i) (j := j) (by rw [G.len]; exact hi) (by rw [G.len]; exact hj) z
  rw [h] at h1
  have := G.pos
  omega
end
section
variable {A : Nat → Vec} {m C : Nat} {g : Nat → Int} {f : Nat → List Nat} {lv en : List Nat → Nat}
/-- basic at a time -/
def Isb (m : Nat) (b : List Nat) (k : Nat) : Prop := ∃ i, i < m ∧ bas b i = k
theorem isb_red {b : List Nat} {k : Nat} (G : Good A m C b) (h : Isb m b k) : red A m g b k = 0 := by
  obtain ⟨i, hi, e⟩ := h
  rw [← e]
  exact red_bas G.len hi
structure Run (A : Nat → Vec) (m C : Nat) (g : Nat → Int) (lv en : List Nat → Nat) (f : Nat → List Nat) : Prop where
  good : ∀ t, Good A m C (f t)
  step : ∀ t, Step A m C g (f t) (lv (f t)) (en (f t))
  next : ∀ t, f (t + 1) = (f t).set (lv (f t)) (en (f t))
theorem Run.same (R : Run A m C g lv en f) {p q : Nat} (h : f p = f q) : ∀ k, f (p + k) = f (q + k)
  | 0 => h
  | k + 1 => by
    show f (p + k + 1) = f (q + k + 1)
    rw [R.next, R.next, R.same h k]
/-- basic stays basic but for the one that leaves -/
theorem Run.stays (R : Run A m C g lv en f) {t k : Nat} (h : Isb m (f t) k) (hl : bas (f t) (lv (f t)) ≠ k) : Isb m (f (t + 1)) k := by
  obtain ⟨i, hi, e⟩ := h
  refine ⟨i, hi, ?_⟩
  rw [R.next, bas_set_ne (fun z => hl (by rw [← z]; exact e))]
  exact e
theorem Run.comes (R : Run A m C g lv en f) (t : Nat) : Isb m (f (t + 1)) (en (f t)) :=
  ⟨lv (f t), (R.step t).hr, by rw [R.next, bas_set_same (by rw [(R.good t).len]; exact (R.step t).hr)]⟩
theorem Run.back (R : Run A m C g lv en f) {t k : Nat} (h : Isb m (f (t + 1)) k) : Isb m (f t) k ∨ en (f t) = k := by
  obtain ⟨i, hi, e⟩ := h
  rw [R.next] at e
  by_cases z : i = lv (f t)
  · subst z
    rw [bas_set_same (by rw [(R.good t).len]; exact (R.step t).hr)] at e
    exact .inr e
  · rw [bas_set_ne z] at e
    exact .inl ⟨i, hi, e⟩
theorem Run.entered (R : Run A m C g lv en f) {s k : Nat} (h0 : ¬ Isb m (f s) k) : ∀ {u : Nat}, Isb m (f (s + u)) k → ∃ v, v < u ∧ en (f (s + v)) = k
  | 0, h => absurd h h0
  | u + 1, h => by
    rcases R.back (t := s + u) h with h | h
    · obtain ⟨v, hv, e⟩ := R.entered h0 h
      exact ⟨v, by omega, e⟩
    · exact ⟨u, by omega, h⟩
/-- in a run without progress what has come in is 0 -/
theorem Run.nought (R : Run A m C g lv en f) {s k : Nat} (h0 : ¬ Isb m (f s) k) (dg : ∀ t, s ≤ t → bet A m C (f t) (lv (f t)) = 0) : ∀ {u i : Nat}, i < m → bas (f (s + u)) i = k → bet A m C (f (s + u)) i = 0
  | 0, i, hi, h => absurd ⟨i, hi, h⟩ h0
  | u + 1, i, hi, h => by
    have G := R.good (s + u)
    have S := R.step (s + u)
    have d := dg (s + u) (by omega)
    have e : f (s + (u + 1)) = (f (s + u)).set (lv (f (s + u))) (en (f (s + u))) := R.next (s + u)
    rw [e] at h ⊢
    by_cases z : i = lv (f (s + u))
    · subst z
      unfold bet
      rw [ent_set_row]
      exact d
    · rw [bas_set_ne z] at h
      have ih := R.nought h0 dg hi h
      have q := ent_pivot G.len G.cram (e := en (f (s + u))) S.hr hi z (k := C + m) (by omega)
      unfold bet at ih d ⊢
      rw [ih, d, Int.mul_zero, Int.mul_zero] at q
      rcases Int.mul_eq_zero.mp (q.trans (Int.sub_self 0)) with z | z
      · have := G.pos
        omega
      · exact z
/-- the height -/
def zle (A : Nat → Vec) (m C : Nat) (g : Nat → Int) (b c : List Nat) : Prop := red A m g b (C + m) * sc A m c ≤ red A m g c (C + m) * sc A m b
theorem zle_trans {a b c : List Nat} (pa : 0 < sc A m a) (pb : 0 < sc A m b) (pc : 0 < sc A m c) (h1 : zle A m C g a b) (h2 : zle A m C g b c) : zle A m C g a c := by
  unfold zle at *
  have e1 := Int.mul_le_mul_of_nonneg_right h1 (Int.le_of_lt pc)
  have e2 := Int.mul_le_mul_of_nonneg_right h2 (Int.le_of_lt pa)
  refine Int.le_of_mul_le_mul_right (a := sc A m b) ?_ pb
  have r1 : red A m g b (C + m) * sc A m a * sc A m c = red A m g b (C + m) * sc A m c * sc A m a := by grind
  have r2 : red A m g a (C + m) * sc A m b * sc A m c = red A m g a (C + m) * sc A m c * sc A m b := by grind
  have r3 : red A m g c (C + m) * sc A m b * sc A m a = red A m g c (C + m) * sc A m a * sc A m b := by grind
  omega
theorem Run.up (R : Run A m C g lv en f) (t : Nat) : red A m g (f (t + 1)) (C + m) * sc A m (f t) = red A m g (f t) (C + m) * sc A m (f (t + 1)) - red A m g (f t) (en (f t)) * bet A m C (f t) (lv (f t)) := by
  have G := R.good t
  have S := R.step t
  have h := red_pivot (g := g) G.len G.cram (e := en (f t)) S.hr (k := C + m) (by omega)
  rw [R.next, sc_set]
  unfold bet
  rw [Int.mul_comm, h, Int.mul_comm (ent A m (f t) (lv (f t)) (en (f t)))]
theorem Run.zle1 (R : Run A m C g lv en f) (t : Nat) : zle A m C g (f t) (f (t + 1)) := by
  have h := R.up t
  have h1 := (R.step t).neg
  have h2 := (R.good t).feas _ (R.step t).hr
  have h3 : 0 ≤ (- red A m g (f t) (en (f t))) * bet A m C (f t) (lv (f t)) := Int.mul_nonneg (by omega) h2
  rw [Int.neg_mul] at h3
  unfold zle
  omega
theorem Run.zleN (R : Run A m C g lv en f) (t : Nat) : ∀ k, zle A m C g (f t) (f (t + k))
  | 0 => by unfold zle; exact Int.le_refl _
  | k + 1 => zle_trans (R.good t).pos (R.good (t + k)).pos (R.good (t + k + 1)).pos (R.zleN t k) (R.zle1 (t + k))
theorem max_in (h : Nat → Nat) : ∀ (L : Nat), 0 < L → ∃ s, s < L ∧ ∀ t, t < L → h t ≤ h s
  | 1, _ => ⟨0, by omega, fun t ht => by rw [show t = 0 by omega]; exact Nat.le_refl _⟩
  | L + 2, _ => by
    obtain ⟨s, hs, q⟩ := max_in h (L + 1) (by omega)
    by_cases z : h (L + 1) ≤ h s
    · refine ⟨s, by omega, fun t ht => ?_⟩
      by_cases e : t = L + 1
      · rw [e]; exact z
      · exact q t (by omega)
    · refine ⟨L + 1, by omega, fun t ht => ?_⟩
      by_cases e : t = L + 1
      · rw [e]; exact Nat.le_refl _
      · have := q t (by omega)
        omega
/-- THE RULE ENDS -/
theorem Run.absurd (R : Run A m C g lv en f) : False := by
  -- a basis comes again
  obtain ⟨p, q, hpq, _, hc⟩ := pig ((C + m) ^ m) (fun t => code (C + m) (f t)) fun t _ => by
    have := code_lt (f t) (R.good t).low
    rw [(R.good t).len] at this
    exact this
  have hf : f p = f q := code_inj (f p) (f q) (by rw [(R.good p).len, (R.good q).len]) (R.good p).low (R.good q).low hc
  obtain ⟨L, hL⟩ : ∃ L, q = p + L := ⟨q - p, by omega⟩
  have hL0 : 0 < L := by omega
  have per : ∀ k, f (p + k + L) = f (p + k) := fun k => by
    have := R.same hf k
    rw [hL] at this
    rw [this]
    congr 1
    omega
  -- every later time looks like one in the window
  have win : ∀ k, ∃ j, j < L ∧ f (p + k) = f (p + j) := by
    intro k
    induction k using Nat.strongRecOn with
    | ind k ih =>
      by_cases h : k < L
      · exact ⟨k, h, rfl⟩
      · obtain ⟨j, hj, e⟩ := ih (k - L) (by omega)
        refine ⟨j, hj, ?_⟩
        rw [← e, ← per (k - L)]
        congr 1
        omega
  -- no progress
  have dgw : ∀ j, j < L → bet A m C (f (p + j)) (lv (f (p + j))) = 0 := fun j hj => by
    have z1 := R.zleN p j
    have z2 := R.zleN (p + j + 1) (L - j - 1)
    have e : f (p + j + 1 + (L - j - 1)) = f p := by
      rw [show p + j + 1 + (L - j - 1) = p + 0 + L by omega, per 0]; rfl
    rw [e] at z2
    have z3 := zle_trans (R.good (p + j + 1)).pos (R.good p).pos (R.good (p + j)).pos z2 z1
    have up := R.up (p + j)
    have ng := (R.step (p + j)).neg
    have fe := (R.good (p + j)).feas _ (R.step (p + j)).hr
    unfold zle at z3
    have h3 : 0 ≤ (- red A m g (f (p + j)) (en (f (p + j)))) * bet A m C (f (p + j)) (lv (f (p + j))) := Int.mul_nonneg (by omega) fe
    rw [Int.neg_mul] at h3
    have h4 : red A m g (f (p + j)) (en (f (p + j))) * bet A m C (f (p + j)) (lv (f (p + j))) = 0 := by omega
    rcases Int.mul_eq_zero.mp h4 with z | z
    · omega
    · exact z
  have dg : ∀ t, p ≤ t → bet A m C (f t) (lv (f t)) = 0 := fun t ht => by
    obtain ⟨j, hj, e⟩ := win (t - p)
    rw [show p + (t - p) = t by omega] at e
    rw [e]
    exact dgw j hj
  -- the greatest column that enters
  obtain ⟨s', hs', mx⟩ := max_in (fun j => en (f (p + j))) L hL0
  obtain ⟨s, hs⟩ : ∃ s, s = p + s' := ⟨_, rfl⟩
  have top : ∀ t, p ≤ t → en (f t) ≤ en (f s) := fun t ht => by
    obtain ⟨j, hj, e⟩ := win (t - p)
    rw [show p + (t - p) = t by omega] at e
    rw [e, hs]
    exact mx j hj
  have Ss := R.step s
  have Gs := R.good s
  have out : ¬ Isb m (f s) (en (f s)) := fun z => by
    have := isb_red (g := g) Gs z
    have := Ss.neg
    omega
  -- it leaves again
  have lvs : ∃ u, bas (f (s + 1 + u)) (lv (f (s + 1 + u))) = en (f s) := by
    refine Classical.byContradiction fun no => ?_
    have all : ∀ u, Isb m (f (s + 1 + u)) (en (f s)) := fun u => by
      induction u with
      | zero => exact R.comes s
      | succ u ih => exact R.stays ih fun z => no ⟨u, z⟩
    have h := all (L - 1)
    rw [show s + 1 + (L - 1) = p + s' + L by omega, per s', ← hs] at h
    exact out h
  obtain ⟨u, hu⟩ := lvs
  obtain ⟨t, ht⟩ : ∃ t, t = s + 1 + u := ⟨_, rfl⟩
  rw [← ht] at hu
  have St := R.step t
  have Gt := R.good t
  have star := red_star (g := g) Gt.len Gs.len Gt.cram (by have := Gt.pos; omega) (k := en (f t)) (by have := St.he; omega)
  have he1 : en (f t) ≤ en (f s) := top t (by omega)
  have he2 : en (f t) ≠ en (f s) := fun z => by
    have h1 := isb_red (g := g) Gt ⟨lv (f t), St.hr, hu⟩
    have h2 := St.neg
    rw [z] at h2
    omega
  have he3 := Ss.first (en (f t)) (by omega)
  have p1 : 0 ≤ sc A m (f t) * red A m g (f s) (en (f t)) := Int.mul_nonneg (Int.le_of_lt Gt.pos) he3
  have p2 : sc A m (f s) * red A m g (f t) (en (f t)) < 0 := Int.mul_neg_of_pos_of_neg Gs.pos St.neg
  obtain ⟨i, hi, pi⟩ := sm_pos (f := fun i => ent A m (f t) i (en (f t)) * red A m g (f s) (bas (f t) i)) (n := m) (by omega)
  have pi' : 0 < ent A m (f t) i (en (f t)) * red A m g (f s) (bas (f t) i) := pi
  have hir : i ≠ lv (f t) := fun z => by
    rw [z, hu] at pi'
    have := Int.mul_neg_of_pos_of_neg St.piv Ss.neg
    omega
  have nb : ¬ Isb m (f s) (bas (f t) i) := fun z => by
    rw [isb_red (g := g) Gs z, Int.mul_zero] at pi'
    omega
  have hts : t = s + (1 + u) := by omega
  obtain ⟨v, hv, ev⟩ := R.entered nb (u := 1 + u) (by rw [← hts]; exact ⟨i, hi, rfl⟩)
  have hj1 : bas (f t) i ≤ en (f s) := by
    rw [← ev]
    exact top _ (by omega)
  have hj2 : bas (f t) i ≠ en (f s) := fun z => hir (Gt.inj hi St.hr (z.trans hu.symm))
  have hj3 := Ss.first (bas (f t) i) (by omega)
  have hT : 0 < ent A m (f t) i (en (f t)) := by
    refine Decidable.by_contra fun z => ?_
    have h1 : 0 ≤ (- ent A m (f t) i (en (f t))) * red A m g (f s) (bas (f t) i) := Int.mul_nonneg (by omega) hj3
    rw [Int.neg_mul] at h1
    omega
  have b0 : bet A m C (f t) i = 0 := by
    have := R.nought nb (fun t' h => dg t' (by omega)) (u := 1 + u) hi (by rw [← hts])
    rw [← hts] at this
    exact this
  have br := dg t (by omega)
  have ls := St.least i hi hT
  rw [b0, br, Int.zero_mul, Int.zero_mul, hu] at ls
  omega
end
end Rl
set_option Elab.async false
set_option linter.all false
/-! The tableau of a list of conditions: its beginning, its end, what the end says. -/
namespace Rl
section
variable (A : Nat → Vec) (m C : Nat) (g : Nat → Int)
def IsEn (b : List Nat) (k : Nat) : Prop := k < C ∧ red A m g b k < 0 ∧ ∀ j, j < k → 0 ≤ red A m g b j
def IsLv (b : List Nat) (e r : Nat) : Prop := r < m ∧ 0 < ent A m b r e ∧
  ∀ i, i < m → 0 < ent A m b i e → bet A m C b r * ent A m b i e < bet A m C b i * ent A m b r e ∨ (bet A m C b r * ent A m b i e = bet A m C b i * ent A m b r e ∧ bas b r ≤ bas b i)
noncomputable def en (b : List Nat) : Nat := Classical.epsilon (IsEn A m C g b)
noncomputable def lv (b : List Nat) : Nat := Classical.epsilon (IsLv A m C b (en A m C g b))
noncomputable def stp (b : List Nat) : List Nat := b.set (lv A m C g b) (en A m C g b)
def Fin0 (b : List Nat) : Prop := ∀ k, k < C → 0 ≤ red A m g b k
inductive Runs : Nat → List Nat → List Nat → Prop
  | done {b : List Nat} : Fin0 A m C g b → Runs 0 b b
  | turn {n : Nat} {b c : List Nat} : ¬ Fin0 A m C g b → Runs n (stp A m C g b) c → Runs (n + 1) b c
noncomputable def res (b : List Nat) : List Nat := Classical.epsilon fun c => ∃ n, Runs A m C g n b c
end
section
variable {A : Nat → Vec} {m C : Nat} {g : Nat → Int} {b : List Nat}
theorem isEn_uniq {j k : Nat} (h : IsEn A m C g b j) (h' : IsEn A m C g b k) : j = k := by
  obtain ⟨a1, a2, a3⟩ := h
  obtain ⟨b1, b2, b3⟩ := h'
  rcases Nat.lt_trichotomy j k with l | l | l
  · have := b3 j l; omega
  · exact l
  · have := a3 k l; omega
theorem en_spec {k : Nat} (h : IsEn A m C g b k) : IsEn A m C g b (en A m C g b) := Classical.epsilon_spec ⟨k, h⟩
theorem en_eq {k : Nat} (h : IsEn A m C g b k) : en A m C g b = k := isEn_uniq (en_spec h) h
theorem isLv_uniq (G : Good A m C b) {e j k : Nat} (h : IsLv A m C b e j) (h' : IsLv A m C b e k) : j = k := by
  obtain ⟨a1, a2, a3⟩ := h
  obtain ⟨b1, b2, b3⟩ := h'
  have x := a3 k b1 b2
  have y := b3 j a1 a2
  exact G.inj a1 b1 (by omega)
theorem lv_eq (G : Good A m C b) {k : Nat} (h : IsLv A m C b (en A m C g b) k) : lv A m C g b = k := isLv_uniq G (Classical.epsilon_spec ⟨k, h⟩) h
/-- the least of the first n rows that limit a column -/
def Lim (A : Nat → Vec) (m C : Nat) (b : List Nat) (e n r : Nat) : Prop := r < n ∧ 0 < ent A m b r e ∧
  ∀ i, i < n → 0 < ent A m b i e → bet A m C b r * ent A m b i e < bet A m C b i * ent A m b r e ∨ (bet A m C b r * ent A m b i e = bet A m C b i * ent A m b r e ∧ bas b r ≤ bas b i)
theorem lim_first {e n : Nat} (h : ∀ i, i < n → ¬ 0 < ent A m b i e) (hp : 0 < ent A m b n e) : Lim A m C b e (n + 1) n := by
  refine ⟨by omega, hp, fun i hi q => ?_⟩
  by_cases z : i = n
  · subst z; exact .inr ⟨rfl, Nat.le_refl _⟩
  · exact absurd q (h i (by omega))
theorem lim_skip {e n r : Nat} (h : Lim A m C b e n r) (hp : ¬ 0 < ent A m b n e) : Lim A m C b e (n + 1) r := by
  refine ⟨by have := h.1; omega, h.2.1, fun i hi q => ?_⟩
  by_cases z : i = n
  · subst z; exact absurd q hp
  · exact h.2.2 i (by omega) q
theorem lim_keep {e n r : Nat} (h : Lim A m C b e n r) (hk : ¬ (bet A m C b n * ent A m b r e < bet A m C b r * ent A m b n e ∨ (bet A m C b n * ent A m b r e = bet A m C b r * ent A m b n e ∧ bas b n < bas b r))) : Lim A m C b e (n + 1) r := by
  refine ⟨by have := h.1; omega, h.2.1, fun i hi q => ?_⟩
  by_cases z : i = n
  · subst z
    omega
  · exact h.2.2 i (by omega) q
theorem lim_new {e n r : Nat} (h : Lim A m C b e n r) (hp : 0 < ent A m b n e) (hk : bet A m C b n * ent A m b r e < bet A m C b r * ent A m b n e ∨ (bet A m C b n * ent A m b r e = bet A m C b r * ent A m b n e ∧ bas b n < bas b r)) : Lim A m C b e (n + 1) n := by
  refine ⟨by omega, hp, fun i hi q => ?_⟩
  by_cases z : i = n
  · subst z; exact .inr ⟨rfl, Nat.le_refl _⟩
  · have hi' := h.2.2 i (by omega) q
    have hr := h.2.1
    -- bn * tr <= br * tn, br * ti <= bi * tr: bn * ti <= bi * tn
    have m1 : ∀ x y z : Int, x ≤ y → 0 < z → x * z ≤ y * z := fun x y z h1 h2 => Int.mul_le_mul_of_nonneg_right h1 (by omega)
    have m2 : ∀ x y z : Int, x < y → 0 < z → x * z < y * z := fun x y z h1 h2 => Int.mul_lt_mul_of_pos_right h1 h2
    have e1 : bet A m C b n * ent A m b i e * ent A m b r e = bet A m C b n * ent A m b r e * ent A m b i e := by grind
    have e2 : bet A m C b i * ent A m b n e * ent A m b r e = bet A m C b i * ent A m b r e * ent A m b n e := by grind
    have e3 : bet A m C b r * ent A m b n e * ent A m b i e = bet A m C b r * ent A m b i e * ent A m b n e := by grind
    rcases hk with hk | ⟨hk, hb⟩
    · left
      have s1 := m2 _ _ _ hk q
      rcases hi' with hi' | ⟨hi', _⟩
      · have s2 := m2 _ _ _ hi' hp
        exact Int.lt_of_mul_lt_mul_right (a := ent A m b r e) (by omega) (by omega)
      · rw [hi'] at e3
        exact Int.lt_of_mul_lt_mul_right (a := ent A m b r e) (by omega) (by omega)
    · rw [hk] at e1
      rcases hi' with hi' | ⟨hi', hb'⟩
      · left
        have s2 := m2 _ _ _ hi' hp
        exact Int.lt_of_mul_lt_mul_right (a := ent A m b r e) (by omega) (by omega)
      · right
        rw [hi'] at e3
        exact ⟨Int.eq_of_mul_eq_mul_right (a := ent A m b r e) (by omega) (by omega), by omega⟩
theorem lim_all {e r : Nat} (h : Lim A m C b e m r) : IsLv A m C b e r := h
theorem lim_exists {e : Nat} : ∀ (n : Nat), (∃ i, i < n ∧ 0 < ent A m b i e) → ∃ r, Lim A m C b e n r
  | 0, ⟨i, h, _⟩ => absurd h (Nat.not_lt_zero _)
  | n + 1, h => by
    by_cases z : ∃ i, i < n ∧ 0 < ent A m b i e
    · obtain ⟨r, hr⟩ := lim_exists n z
      by_cases p : 0 < ent A m b n e
      · by_cases k : bet A m C b n * ent A m b r e < bet A m C b r * ent A m b n e ∨ (bet A m C b n * ent A m b r e = bet A m C b r * ent A m b n e ∧ bas b n < bas b r)
        · exact ⟨n, lim_new hr p k⟩
        · exact ⟨r, lim_keep hr k⟩
      · exact ⟨r, lim_skip hr p⟩
    · obtain ⟨i, hi, p⟩ := h
      have e1 : i = n := by
        refine Decidable.by_contra fun q => z ⟨i, by omega, p⟩
      subst e1
      exact ⟨i, lim_first (fun j hj q => z ⟨j, hj, q⟩) p⟩
/-- what the costs are -/
structure Costs (C : Nat) (g : Nat → Int) : Prop where
  zero : ∀ k, k < C → g k = 0
  nn : ∀ k, 0 ≤ g k
theorem some_pos (K : Costs C g) {e : Nat} (h : IsEn A m C g b e) : ∃ i, i < m ∧ 0 < ent A m b i e := by
  obtain ⟨h1, h2, _⟩ := h
  unfold red at h2
  rw [K.zero e h1, Int.mul_zero] at h2
  obtain ⟨i, hi, p⟩ := sm_pos (f := fun i => g (bas b i) * ent A m b i e) (n := m) (by omega)
  refine ⟨i, hi, Decidable.by_contra fun q => ?_⟩
  have h3 : 0 ≤ g (bas b i) * (- ent A m b i e) := Int.mul_nonneg (K.nn _) (by omega)
  rw [Int.mul_neg] at h3
  have h4 : 0 < g (bas b i) * ent A m b i e := p
  omega
theorem en_of (h : ¬ Fin0 A m C g b) : IsEn A m C g b (en A m C g b) := by
  have ex : ∃ k, k < C ∧ red A m g b k < 0 := Classical.byContradiction fun z => h fun k hk => Decidable.by_contra fun q => z ⟨k, hk, by omega⟩
  obtain ⟨k, hk⟩ := ex
  have mn : ∀ n k, k < n → (k < C ∧ red A m g b k < 0) → ∃ k', IsEn A m C g b k' := by
    intro n
    induction n with
    | zero => intro k hk; omega
    | succ n ih =>
      intro k hk hq
      by_cases z : ∃ j, j < k ∧ red A m g b j < 0
      · obtain ⟨j, hj, q⟩ := z
        exact ih j (by omega) ⟨by omega, q⟩
      · exact ⟨k, hq.1, hq.2, fun j hj => Decidable.by_contra fun q => z ⟨j, hj, by omega⟩⟩
  obtain ⟨k', h'⟩ := mn (k + 1) k (by omega) hk
  exact en_spec h'
theorem step_of (K : Costs C g) (h : ¬ Fin0 A m C g b) : Step A m C g b (lv A m C g b) (en A m C g b) := by
  have e := en_of h
  obtain ⟨r, hr⟩ := lim_exists (A := A) (m := m) (C := C) (b := b) (e := en A m C g b) m (some_pos K e)
  have l : IsLv A m C b (en A m C g b) (lv A m C g b) := Classical.epsilon_spec ⟨r, lim_all hr⟩
  exact ⟨e.1, e.2.1, e.2.2, l.1, l.2.1, l.2.2⟩
theorem Good.stp (G : Good A m C b) (K : Costs C g) (h : ¬ Fin0 A m C g b) : Good A m C (stp A m C g b) := G.next (step_of K h)
noncomputable def seqF (A : Nat → Vec) (m C : Nat) (g : Nat → Int) (b : List Nat) : Nat → List Nat
  | 0 => b
  | t + 1 => stp A m C g (seqF A m C g b t)
theorem runs_of : ∀ (n : Nat) (b : List Nat), (∀ t, t < n → ¬ Fin0 A m C g (seqF A m C g b t)) → Fin0 A m C g (seqF A m C g b n) → Runs A m C g n b (seqF A m C g b n)
  | 0, b, _, h => .done h
  | n + 1, b, h, h' => by
    have sh : ∀ t, seqF A m C g (stp A m C g b) t = seqF A m C g b (t + 1) := fun t => by
      induction t with
      | zero => rfl
      | succ t ih => show stp A m C g (seqF A m C g (stp A m C g b) t) = stp A m C g (seqF A m C g b (t + 1)); rw [ih]
    have q := runs_of n (stp A m C g b) (fun t ht => by rw [sh]; exact h (t + 1) (by omega)) (by rw [sh]; exact h')
    rw [sh] at q
    exact .turn (h 0 (by omega)) q
theorem ends (G : Good A m C b) (K : Costs C g) : ∃ n c, Runs A m C g n b c := by
  by_cases h : ∃ n, Fin0 A m C g (seqF A m C g b n)
  · have mn : ∀ n k, k < n → Fin0 A m C g (seqF A m C g b k) → ∃ k', Fin0 A m C g (seqF A m C g b k') ∧ ∀ t, t < k' → ¬ Fin0 A m C g (seqF A m C g b t) := by
      intro n
      induction n with
      | zero => intro k hk; omega
      | succ n ih =>
        intro k hk hq
        by_cases z : ∃ j, j < k ∧ Fin0 A m C g (seqF A m C g b j)
        · obtain ⟨j, hj, q⟩ := z
          exact ih j (by omega) q
        · exact ⟨k, hq, fun t ht q => z ⟨t, ht, q⟩⟩
    obtain ⟨n, hn⟩ := h
    obtain ⟨k, h1, h2⟩ := mn (n + 1) n (by omega) hn
    exact ⟨k, _, runs_of k b h2 h1⟩
  · have no : ∀ t, ¬ Fin0 A m C g (seqF A m C g b t) := fun t q => h ⟨t, q⟩
    have gd : ∀ t, Good A m C (seqF A m C g b t) := fun t => by
      induction t with
      | zero => exact G
      | succ t ih => exact ih.stp K (no t)
    exact (Run.absurd (A := A) (m := m) (C := C) (g := g) (lv := lv A m C g) (en := en A m C g) (f := seqF A m C g b) ⟨gd, fun t => step_of K (no t), fun t => rfl⟩).elim
theorem Runs.fin : ∀ {n : Nat} {b c : List Nat}, Runs A m C g n b c → Fin0 A m C g c
  | _, _, _, .done h => h
  | _, _, _, .turn _ h => h.fin
theorem Runs.good (K : Costs C g) : ∀ {n : Nat} {b c : List Nat}, Runs A m C g n b c → Good A m C b → Good A m C c
  | _, _, _, .done _, G => G
  | _, _, _, .turn h q, G => q.good K (G.stp K h)
theorem Runs.uniq : ∀ {n n' : Nat} {b c c' : List Nat}, Runs A m C g n b c → Runs A m C g n' b c' → c = c'
  | _, _, _, _, _, .done _, .done _ => rfl
  | _, _, _, _, _, .done h, .turn h' _ => absurd h h'
  | _, _, _, _, _, .turn h _, .done h' => absurd h' h
  | _, _, _, _, _, .turn _ q, .turn _ q' => q.uniq q'
theorem res_runs (G : Good A m C b) (K : Costs C g) : ∃ n, Runs A m C g n b (res A m C g b) := by
  obtain ⟨n, c, h⟩ := ends G K
  exact Classical.epsilon_spec (p := fun c => ∃ n, Runs A m C g n b c) ⟨c, n, h⟩
end

/-! ### the conditions -/
def cf (cs : List (List Int)) (k j : Nat) : Int := (cs.getD k []).getD j 0
/-- the columns: a condition each; a mark each; the right side -/
def colA (cs : List (List Int)) (count : Nat) (k : Nat) : Vec := fun l =>
  if k < cs.length then (if l < count then cf cs k (l + 1) else if l = count then - cf cs k 0 else 0)
  else if k < cs.length + (count + 1) then un (k - cs.length) l else un count l
def gam (cs : List (List Int)) (count : Nat) (k : Nat) : Int := if cs.length ≤ k ∧ k < cs.length + (count + 1) then 1 else 0
def bas0 (cs : List (List Int)) (count : Nat) : List Nat := (List.range (count + 1)).map fun l => cs.length + l
section
variable {cs : List (List Int)} {count : Nat}
theorem colA_cond {k l : Nat} (hk : k < cs.length) (hl : l < count) : colA cs count k l = cf cs k (l + 1) := by
  unfold colA; rw [if_pos hk, if_pos hl]
theorem colA_last {k : Nat} (hk : k < cs.length) : colA cs count k count = - cf cs k 0 := by
  unfold colA; rw [if_pos hk, if_neg (Nat.lt_irrefl _), if_pos rfl]
theorem colA_mark {i : Nat} (hi : i < count + 1) : colA cs count (cs.length + i) = un i := by
  funext l
  unfold colA; rw [if_neg (by omega), if_pos (by omega), show cs.length + i - cs.length = i by omega]
theorem colA_rhs : colA cs count (cs.length + (count + 1)) = un count := by
  funext l
  unfold colA; rw [if_neg (by omega), if_neg (by omega)]
theorem gam_costs : Costs cs.length (gam cs count) := ⟨fun k hk => by unfold gam; rw [if_neg (by omega)], fun k => by unfold gam; split <;> omega⟩
theorem gam_mark {i : Nat} (hi : i < count + 1) : gam cs count (cs.length + i) = 1 := by unfold gam; rw [if_pos (by omega)]
theorem gam_rhs : gam cs count (cs.length + (count + 1)) = 0 := by unfold gam; rw [if_neg (by omega)]
theorem bas0_len : (bas0 cs count).length = count + 1 := by unfold bas0; rw [List.length_map, List.length_range]
theorem bas0_map : (bas0 cs count).map (colA cs count) = (List.range (count + 1)).map un := by
  unfold bas0
  rw [List.map_map]
  refine List.map_congr_left fun l hl => ?_
  exact colA_mark (List.mem_range.mp hl)
theorem bas0_get {i : Nat} (hi : i < count + 1) : bas (bas0 cs count) i = cs.length + i := by
  unfold bas bas0
  rw [List.getD_eq_getElem?_getD, List.getElem?_map, List.getElem?_range hi]; rfl
theorem sc0 : sc (colA cs count) (count + 1) (bas0 cs count) = 1 := by
  unfold sc
  rw [bas0_map]
  exact det_un _ List.nodup_range
theorem set_un {n i l : Nat} (hi : i < n) (hl : l < n) : det (((List.range n).map un).set i (un l)) (List.range n) = if l = i then 1 else 0 := by
  by_cases z : l = i
  · subst z
    rw [if_pos rfl]
    have e : ((List.range n).map un).set l (un l) = (List.range n).map un := by
      refine List.ext_getElem? fun j => ?_
      by_cases q : j = l
      · subst q
        rw [List.getElem?_set_self (by rw [List.length_map, List.length_range]; exact hl), List.getElem?_map, List.getElem?_range hl]; rfl
      · rw [List.getElem?_set_ne (fun p => q p.symm)]
    rw [e]
    exact det_un _ List.nodup_range
  · rw [if_neg z]
    have e1 : (((List.range n).map un).set i (un l))[i]? = some (un l) := List.getElem?_set_self (by rw [List.length_map, List.length_range]; exact hi)
    have e2 : (((List.range n).map un).set i (un l))[l]? = some (un l) := by
      rw [List.getElem?_set_ne (fun p => z p.symm), List.getElem?_map, List.getElem?_range hl]; rfl
    rcases Nat.lt_or_gt_of_ne z with q | q
    · exact det_dup _ q e2 e1
    · exact det_dup _ q e1 e2
/-- every vector is a sum of the unit vectors -/
theorem un_sum (v : Vec) {n c : Nat} (h : c < n) : v c = sm n fun l => v l * un l c := by
  rw [sm_one (j := c) h fun i hi hn => ?_]
  · show v c = v c * (if c = c then 1 else 0)
    rw [if_pos rfl, Int.mul_one]
  · show v i * (if c = i then 1 else 0) = 0
    rw [if_neg (fun e => hn e.symm), Int.mul_zero]
/-- an entry by the entries at the marks -/
theorem ent_marks {b : List Nat} (hb : b.length = count + 1) {j k : Nat} (hj : j < count + 1) :
    ent (colA cs count) (count + 1) b j k = sm (count + 1) fun l => colA cs count k l * ent (colA cs count) (count + 1) b j (cs.length + l) := by
  have h := det_comb (d := 1) (v := colA cs count k) (a := fun l => colA cs count k l) (x := un) (n := count + 1) (vs := b.map (colA cs count)) (i := j) (cs := List.range (count + 1)) (by rw [List.length_map, hb]; exact hj)
    fun c hc => by rw [Int.one_mul]; exact un_sum _ (List.mem_range.mp hc)
  rw [Int.one_mul] at h
  unfold ent
  rw [h]
  refine sm_congr fun l hl => ?_
  rw [colA_mark hl]
theorem ent0 {i k : Nat} (hi : i < count + 1) : ent (colA cs count) (count + 1) (bas0 cs count) i k = colA cs count k i := by
  rw [ent_marks bas0_len hi, sm_one (j := i) hi fun l hl hn => ?_]
  · unfold ent
    rw [bas0_map, colA_mark hi, set_un hi hi, if_pos rfl, Int.mul_one]
  · unfold ent
    rw [bas0_map, colA_mark hl, set_un hi hl, if_neg hn, Int.mul_zero]
theorem good0 : Good (colA cs count) (count + 1) cs.length (bas0 cs count) := by
  refine ⟨bas0_len, fun k hk l hl => ?_, by rw [sc0]; decide, fun i hi => ?_, fun x hx => ?_⟩
  · rw [sc0, Int.one_mul, un_sum (colA cs count k) hl]
    refine sm_congr fun i hi => ?_
    rw [ent0 hi, bas0_get hi, colA_mark hi]
  · unfold bet
    rw [ent0 hi, colA_rhs]
    unfold un
    split <;> decide
  · unfold bas0 at hx
    obtain ⟨l, hl, e⟩ := List.mem_map.mp hx
    have := List.mem_range.mp hl
    omega
end
end Rl
set_option Elab.async false
set_option linter.all false
/-! Fractions in lowest terms; the gcd; sizes. -/
namespace Rl
/-- N / L in lowest terms, L > 0 -/
def fr (N L : Int) : Int × Int := (N / (Int.gcd N L : Int), L / (Int.gcd N L : Int))
theorem gcd_pos {N L : Int} (h : 0 < L) : 0 < (Int.gcd N L : Int) := by
  have : 0 < Int.gcd N L := Int.gcd_pos_of_ne_zero_right N (by omega)
  omega
theorem fr_den {N L : Int} (h : 0 < L) : 0 < (fr N L).2 := by
  show 0 < L / (Int.gcd N L : Int)
  exact Int.ediv_pos_of_pos_of_dvd h (Int.le_of_lt (gcd_pos h)) (Int.gcd_dvd_right N L)
theorem fr_num_mul {N L : Int} (h : 0 < L) : (fr N L).1 * (Int.gcd N L : Int) = N := Int.ediv_mul_cancel (Int.gcd_dvd_left N L)
theorem fr_den_mul {N L : Int} (h : 0 < L) : (fr N L).2 * (Int.gcd N L : Int) = L := Int.ediv_mul_cancel (Int.gcd_dvd_right N L)
theorem fr_cross {N L : Int} (h : 0 < L) : (fr N L).1 * L = N * (fr N L).2 := by
  have h1 := fr_num_mul (N := N) h
  have h2 := fr_den_mul (N := N) h
  grind
theorem fr_low {N L : Int} (h : 0 < L) : Int.gcd (fr N L).1 (fr N L).2 = 1 := by
  show Int.gcd (N / (Int.gcd N L : Int)) (L / (Int.gcd N L : Int)) = 1
  exact Int.gcd_ediv_gcd_ediv_gcd (Int.gcd_pos_of_ne_zero_right N (by omega))
/-- lowest terms are told by the value -/
theorem low_uniq {a b c d : Int} (hb : 0 < b) (hd : 0 < d) (h1 : Int.gcd a b = 1) (h2 : Int.gcd c d = 1) (e : a * d = c * b) : a = c ∧ b = d := by
  have d1 : b ∣ d := by
    have : b ∣ a * d := ⟨c, by rw [e, Int.mul_comm]⟩
    have q := Int.dvd_gcd_mul_iff_dvd_mul.mpr this
    rw [Int.gcd_comm, h1] at q
    have e1 : ((1 : Nat) : Int) * d = d := Int.one_mul d
    rwa [e1] at q
  have d2 : d ∣ b := by
    have : d ∣ c * b := ⟨a, by rw [← e, Int.mul_comm]⟩
    have q := Int.dvd_gcd_mul_iff_dvd_mul.mpr this
    rw [Int.gcd_comm, h2] at q
    have e1 : ((1 : Nat) : Int) * b = b := Int.one_mul b
    rwa [e1] at q
  have eb : b = d := Int.dvd_antisymm (by omega) (by omega) d1 d2
  subst eb
  exact ⟨Int.eq_of_mul_eq_mul_right (by omega) e, rfl⟩
theorem fr_of {a b N L : Int} (hb : 0 < b) (hL : 0 < L) (h : Int.gcd a b = 1) (e : a * L = N * b) : fr N L = (a, b) := by
  obtain ⟨e1, e2⟩ := low_uniq (fr_den (N := N) hL) hb (fr_low hL) h (by
    have c := fr_cross (N := N) hL
    refine Int.eq_of_mul_eq_mul_right (a := L) (by omega) ?_
    grind)
  exact Prod.ext e1 e2
theorem fr_eq {N L N' L' : Int} (h : 0 < L) (h' : 0 < L') (e : N * L' = N' * L) : fr N L = fr N' L' := by
  refine fr_of (fr_den h') h (fr_low h') ?_
  have c := fr_cross (N := N') h'
  refine Int.eq_of_mul_eq_mul_right (a := L') (by omega) ?_
  show (fr N' L').1 * L * L' = N * (fr N' L').2 * L'
  generalize (fr N' L').1 = x at *
  generalize (fr N' L').2 = y at *
  grind
/-- the sum, the multiple, as the program makes them -/
theorem fr_plus {N N' L : Int} (h : 0 < L) : fr ((fr N L).1 * (fr N' L).2 + (fr N' L).1 * (fr N L).2) ((fr N L).2 * (fr N' L).2) = fr (N + N') L := by
  refine fr_eq (Int.mul_pos (fr_den h) (fr_den h)) h ?_
  have c := fr_cross (N := N) h
  have c' := fr_cross (N := N') h
  grind
theorem fr_scale {N L k : Int} (h : 0 < L) : fr (k * (fr N L).1) (fr N L).2 = fr (k * N) L := by
  refine fr_eq (fr_den h) h ?_
  have c := fr_cross (N := N) h
  grind
theorem fr_scale' {N L k : Int} (h : 0 < L) : fr ((fr N L).1 * k) (fr N L).2 = fr (k * N) L := by
  rw [Int.mul_comm]; exact fr_scale h
theorem fr_int {k L : Int} (h : 0 < L) : fr (k * L) L = (k, 1) := by
  refine fr_of (by decide) h (by simp) ?_
  rw [Int.mul_one]
theorem fr_zero {L : Int} (h : 0 < L) : fr 0 L = (0, 1) := by
  have := fr_int (k := 0) h
  rwa [Int.zero_mul] at this
theorem fr_eq_zero {N L : Int} (h : 0 < L) (e : fr N L = (0, 1)) : N = 0 := by
  have c := fr_cross (N := N) h
  rw [e] at c
  have c' : (0 : Int) * L = N * 1 := c
  omega
theorem fr_neg_iff {N L : Int} (h : 0 < L) : (fr N L).1 < 0 ↔ N < 0 := by
  have h1 := fr_num_mul (N := N) h
  have h2 := gcd_pos (N := N) h
  constructor
  · intro z
    rw [← h1]
    exact Int.mul_neg_of_neg_of_pos z h2
  · intro z
    refine Decidable.by_contra fun q => ?_
    have := Int.mul_nonneg (a := (fr N L).1) (b := (Int.gcd N L : Int)) (by omega) (by omega)
    omega
/-- comparisons with a bound -/
theorem fr_ge {N L k : Int} (h : 0 < L) : k * (fr N L).2 ≤ (fr N L).1 ↔ k * L ≤ N := by
  have h1 := fr_num_mul (N := N) h
  have h2 := fr_den_mul (N := N) h
  have h3 := gcd_pos (N := N) h
  constructor
  · intro z
    have := Int.mul_le_mul_of_nonneg_right z (Int.le_of_lt h3)
    rw [Int.mul_assoc, h2, h1] at this
    exact this
  · intro z
    refine Int.le_of_mul_le_mul_right (a := (Int.gcd N L : Int)) ?_ h3
    rw [Int.mul_assoc, h2, h1]
    have e : k * (fr N L).2 * (Int.gcd N L : Int) = k * L := by rw [Int.mul_assoc, h2]
    omega
theorem fr_le {N L k : Int} (h : 0 < L) : (fr N L).1 ≤ k * (fr N L).2 ↔ N ≤ k * L := by
  have h1 := fr_num_mul (N := N) h
  have h2 := fr_den_mul (N := N) h
  have h3 := gcd_pos (N := N) h
  have e : k * (fr N L).2 * (Int.gcd N L : Int) = k * L := by rw [Int.mul_assoc, h2]
  constructor
  · intro z
    have := Int.mul_le_mul_of_nonneg_right z (Int.le_of_lt h3)
    omega
  · intro z
    exact Int.le_of_mul_le_mul_right (a := (Int.gcd N L : Int)) (by omega) h3
/-- sizes -/
theorem fr_num_abs {N L : Int} (h : 0 < L) : (fr N L).1.natAbs ≤ N.natAbs := by
  have h1 := fr_num_mul (N := N) h
  have h3 := gcd_pos (N := N) h
  have e : N.natAbs = (fr N L).1.natAbs * Int.gcd N L := by
    have q := congrArg Int.natAbs h1
    rw [Int.natAbs_mul, Int.natAbs_natCast] at q
    exact q.symm
  rw [e]
  exact Nat.le_mul_of_pos_right _ (by omega)
theorem fr_den_abs {N L : Int} (h : 0 < L) : (fr N L).2.natAbs ≤ L.natAbs := by
  have h2 := fr_den_mul (N := N) h
  have h3 := gcd_pos (N := N) h
  have e : L.natAbs = (fr N L).2.natAbs * Int.gcd N L := by
    have q := congrArg Int.natAbs h2
    rw [Int.natAbs_mul, Int.natAbs_natCast] at q
    exact q.symm
  rw [e]
  exact Nat.le_mul_of_pos_right _ (by omega)
theorem fr_self {N L : Int} (h : 0 < L) : fr (fr N L).1 (fr N L).2 = fr N L := fr_of (fr_den h) (fr_den h) (fr_low h) rfl
/-- how the program reckons it -/
theorem gcd_eq (a b : Int) : ((Nat.gcd a.natAbs b.natAbs : Nat) : Int) = (Int.gcd a b : Int) := rfl

/-! ### integers without a common divisor -/
def gcdL (xs : List Int) : Nat := xs.foldl (fun d x => Nat.gcd d x.natAbs) 0
theorem gcdL_fold (xs : List Int) : ∀ d : Nat, xs.foldl (fun d x => Nat.gcd d x.natAbs) d = Nat.gcd d (gcdL xs) := by
  unfold gcdL
  induction xs with
  | nil => intro d; simp
  | cons x xs ih =>
    intro d
    show xs.foldl _ (Nat.gcd d x.natAbs) = Nat.gcd d (xs.foldl _ (Nat.gcd 0 x.natAbs))
    rw [ih, ih (Nat.gcd 0 x.natAbs), Nat.gcd_zero_left, Nat.gcd_assoc]
theorem gcdL_cons (x : Int) (xs : List Int) : gcdL (x :: xs) = Nat.gcd x.natAbs (gcdL xs) := by
  have := gcdL_fold (x :: xs) 0
  show xs.foldl _ (Nat.gcd 0 x.natAbs) = _
  rw [gcdL_fold, Nat.gcd_zero_left]
theorem gcdL_snoc (xs : List Int) (x : Int) : gcdL (xs ++ [x]) = Nat.gcd (gcdL xs) x.natAbs := by
  unfold gcdL
  rw [List.foldl_append]; rfl
theorem gcdL_dvd : ∀ {xs : List Int} {x : Int}, x ∈ xs → ((gcdL xs : Nat) : Int) ∣ x
  | y :: xs, x, h => by
    rw [gcdL_cons]
    rcases List.mem_cons.mp h with e | h
    · subst e
      exact Int.ofNat_dvd_left.mpr (Nat.gcd_dvd_left _ _)
    · exact Int.dvd_trans (Int.natCast_dvd_natCast.mpr (Nat.gcd_dvd_right _ _)) (gcdL_dvd h)
theorem gcdL_zero {xs : List Int} (h : gcdL xs = 0) : ∀ x ∈ xs, x = 0 := fun x hx => by
  have := gcdL_dvd hx
  rw [h] at this
  exact Int.zero_dvd.mp this
def wd (xs : List Int) : List Int := xs.map fun x => x / ((gcdL xs : Nat) : Int)
theorem gcdL_mul {d : Nat} (hd : 0 < d) : ∀ (xs : List Int), (∀ x ∈ xs, (d : Int) ∣ x) → gcdL xs = d * gcdL (xs.map fun x => x / (d : Int))
  | [], _ => by show 0 = d * 0; rw [Nat.mul_zero]
  | x :: xs, h => by
    rw [List.map_cons, gcdL_cons, gcdL_cons, gcdL_mul hd xs fun y hy => h y (List.mem_cons_of_mem _ hy), ← Nat.gcd_mul_left]
    congr 1
    have e : x / (d : Int) * (d : Int) = x := Int.ediv_mul_cancel (h x List.mem_cons_self)
    have q := congrArg Int.natAbs e
    rw [Int.natAbs_mul, Int.natAbs_natCast] at q
    rw [Nat.mul_comm]; exact q.symm
theorem gcdL_wd {xs : List Int} (h : gcdL xs ≠ 0) : gcdL (wd xs) = 1 := by
  have e := gcdL_mul (d := gcdL xs) (by omega) xs fun x hx => gcdL_dvd hx
  have e' : gcdL xs * 1 = gcdL xs * gcdL (wd xs) := by rw [Nat.mul_one]; exact e
  exact (Nat.eq_of_mul_eq_mul_left (by omega) e').symm

/-! ### Euclid's way, some turns -/
theorem gcd_turn (a b : Int) : Int.gcd b (a % b) = Int.gcd a b := by
  have e : a % b = a - b * (a / b) := by
    have := Int.mul_ediv_add_emod a b
    omega
  rw [e, Int.gcd_sub_mul_left_right, Int.gcd_comm]
def euc : Nat → Int → Int → Int
  | 0, a, _ => a
  | n + 1, a, b => if b = 0 then a else euc n b (a % b)
theorem euc_gcd : ∀ (n : Nat) (a b : Int), 0 ≤ a → 0 ≤ b → (a * b < 2 ^ n ∧ b ≤ a) → euc (n + 1) a b = (Int.gcd a b : Int) ∧ True
  | 0, a, b, ha, hb, h => by
    have h1 : a * b < 1 := h.1
    have hb0 : b = 0 := by
      refine Decidable.by_contra fun z => ?_
      have : 1 * 1 ≤ a * b := Int.mul_le_mul (by omega) (by omega) (by decide) (by omega)
      omega
    subst hb0
    refine ⟨?_, trivial⟩
    show (if (0 : Int) = 0 then a else _) = _
    rw [if_pos rfl, Int.gcd_zero_right]
    omega
  | n + 1, a, b, ha, hb, h => by
    refine ⟨?_, trivial⟩
    show (if b = 0 then a else euc (n + 1) b (a % b)) = _
    by_cases z : b = 0
    · subst z
      rw [if_pos rfl, Int.gcd_zero_right]; omega
    · rw [if_neg z]
      have hb' : 0 < b := by omega
      have hm := Int.emod_nonneg a z
      have hl := Int.emod_lt_of_pos a hb'
      have hr : 2 * (a % b) ≤ a := by
        have e := Int.mul_ediv_add_emod a b
        have q : 1 ≤ a / b := by
          have := Int.le_ediv_of_mul_le (a := 1) (b := a) hb' (by omega)
          exact this
        have : b * 1 ≤ b * (a / b) := Int.mul_le_mul_of_nonneg_left q (by omega)
        omega
      have hp : b * (a % b) < 2 ^ n := by
        have h1 : 2 * (b * (a % b)) ≤ a * b := by
          have := Int.mul_le_mul_of_nonneg_left hr (Int.le_of_lt hb')
          grind
        have h2 : a * b < 2 * 2 ^ n := by
          have := h.1
          rw [Int.pow_succ] at this
          omega
        omega
      rw [(euc_gcd n b (a % b) hb hm ⟨hp, by omega⟩).1, gcd_turn]
theorem euc_stay {n : Nat} {a : Int} : euc n a 0 = a := by
  cases n with
  | zero => rfl
  | succ n => show (if (0 : Int) = 0 then a else _) = a; rw [if_pos rfl]
theorem euc_more : ∀ (n k : Nat) (a b : Int), 0 ≤ a → 0 ≤ b → a * b < 2 ^ n → euc (n + 2 + k) a b = (Int.gcd a b : Int) := by
  intro n k a b ha hb h
  have mono : ∀ (k n : Nat) (a b : Int), 0 ≤ a → 0 ≤ b → a * b < 2 ^ n ∧ b ≤ a → euc (n + 1 + k) a b = (Int.gcd a b : Int) := fun k n a b ha hb h => by
    have h2 : a * b < 2 ^ (n + k) := by
      have : (2 : Int) ^ n ≤ 2 ^ (n + k) := by
        rw [Int.pow_add]
        have h1 : (0 : Int) < 2 ^ n := Int.pow_pos (by decide)
        have h2 : (0 : Int) < 2 ^ k := Int.pow_pos (by decide)
        have : 2 ^ n * 1 ≤ (2 : Int) ^ n * 2 ^ k := Int.mul_le_mul_of_nonneg_left (by omega) (by omega)
        omega
      omega
    have := (euc_gcd (n + k) a b ha hb ⟨h2, h.2⟩).1
    rw [show n + 1 + k = n + k + 1 by omega]
    exact this
  by_cases z : b ≤ a
  · have := mono (k + 1) n a b ha hb ⟨h, z⟩
    rw [show n + 2 + k = n + 1 + (k + 1) by omega]
    exact this
  · -- the first turn changes places
    have hb0 : b ≠ 0 := by omega
    rw [show n + 2 + k = (n + 1 + k) + 1 by omega]
    show (if b = 0 then a else euc (n + 1 + k) b (a % b)) = _
    rw [if_neg hb0, Int.emod_eq_of_lt ha (by omega), mono k n b a hb ha ⟨by rw [Int.mul_comm]; exact h, by omega⟩, Int.gcd_comm]
end Rl
set_option Elab.async false
set_option linter.all false
/-! What the last tableau says; sizes. -/
namespace Rl
section
variable (cs : List (List Int)) (count : Nat)
noncomputable def rs : List Nat := res (colA cs count) (count + 1) cs.length (gam cs count) (bas0 cs count)
noncomputable def tE (b : List Nat) (i k : Nat) : Int := ent (colA cs count) (count + 1) b i k
noncomputable def tS (b : List Nat) : Int := sc (colA cs count) (count + 1) b
noncomputable def tR (b : List Nat) (k : Nat) : Int := red (colA cs count) (count + 1) (gam cs count) b k
def fndB (b : List Nat) (k : Nat) : Int := sm (count + 1) fun i => if bas b i = k then bet (colA cs count) (count + 1) cs.length b i else 0
noncomputable def prc (b : List Nat) (l : Nat) : Int := tS cs count b - tR cs count b (cs.length + l)
end
inductive Ans where
  | no (ks : List Int)
  | yes (us : List (Int × Int))
noncomputable def solF (cs : List (List Int)) (count : Nat) : Ans :=
  if tR cs count (rs cs count) (cs.length + (count + 1)) = 0 then .no (wd ((List.range cs.length).map (fndB cs count (rs cs count))))
  else .yes ((List.range count).map fun l => fr (- prc cs count (rs cs count) l) (prc cs count (rs cs count) count))
section
variable {cs : List (List Int)} {count : Nat}
theorem rs_runs : ∃ n, Runs (colA cs count) (count + 1) cs.length (gam cs count) n (bas0 cs count) (rs cs count) := res_runs good0 gam_costs
theorem rs_good : Good (colA cs count) (count + 1) cs.length (rs cs count) := let ⟨_, h⟩ := rs_runs (cs := cs) (count := count); h.good gam_costs good0
theorem rs_fin : Fin0 (colA cs count) (count + 1) cs.length (gam cs count) (rs cs count) := let ⟨_, h⟩ := rs_runs (cs := cs) (count := count); h.fin
/-- a weighted sum by columns, by rows -/
theorem by_rows {b : List Nat} {C m : Nat} {w : Nat → Int} {F : Nat → Int} (h : ∀ i, i < m → C ≤ bas b i → w i = 0) :
    sm C (fun k => (sm m fun i => if bas b i = k then w i else 0) * F k) = sm m fun i => w i * F (bas b i) := by
  have e1 : ∀ k, k < C → (sm m fun i => if bas b i = k then w i else 0) * F k = sm m fun i => if bas b i = k then w i * F (bas b i) else 0 := fun k hk => by
    rw [Int.mul_comm, ← sm_mul]
    refine sm_congr fun i hi => ?_
    by_cases z : bas b i = k
    · rw [if_pos z, if_pos z, z, Int.mul_comm]
    · rw [if_neg z, if_neg z, Int.mul_zero]
  rw [sm_congr e1, sm_swap]
  refine sm_congr fun i hi => ?_
  by_cases z : bas b i < C
  · rw [sm_one (j := bas b i) z fun k hk hn => if_neg (fun e => hn e.symm), if_pos rfl]
  · rw [h i hi (by omega), Int.zero_mul]
    refine sm_eq_zero fun k hk => ?_
    rw [if_neg (by omega)]
theorem fnd_nn {b : List Nat} (G : Good (colA cs count) (count + 1) cs.length b) (k : Nat) : 0 ≤ fndB cs count b k := sm_nonneg fun i hi => by
  show 0 ≤ if bas b i = k then _ else _
  split
  · exact G.feas i hi
  · exact Int.le_refl 0
theorem fnd_sum {b : List Nat} (G : Good (colA cs count) (count + 1) cs.length b) (h : tR cs count b (cs.length + (count + 1)) = 0) {l : Nat} (hl : l < count + 1) :
    sm cs.length (fun k => fndB cs count b k * colA cs count k l) = tS cs count b * un count l := by
  have c := G.cram (cs.length + (count + 1)) (by omega) l hl
  rw [colA_rhs] at c
  unfold tS
  rw [← c]
  unfold tR red at h
  rw [gam_rhs, Int.mul_zero] at h
  have nn : ∀ i, i < count + 1 → 0 ≤ gam cs count (bas b i) * ent (colA cs count) (count + 1) b i (cs.length + (count + 1)) := fun i hi => Int.mul_nonneg (gam_costs.nn _) (G.feas i hi)
  have z := sm_all_zero nn (by omega)
  refine by_rows fun i hi hc => ?_
  have q := z i hi
  have lw := G.low (bas b i) (List.mem_of_getElem? (bas_get (by rw [G.len]; exact hi)))
  have e : gam cs count (bas b i) = 1 := by unfold gam; rw [if_pos ⟨hc, lw⟩]
  rw [e, Int.one_mul] at q
  exact q
/-- no: multipliers -/
theorem fnd_bar {b : List Nat} (G : Good (colA cs count) (count + 1) cs.length b) (h : tR cs count b (cs.length + (count + 1)) = 0) :
    sm cs.length (fun k => fndB cs count b k * cf cs k 0) < 0 ∧ ∀ l, l < count → sm cs.length (fun k => fndB cs count b k * cf cs k (l + 1)) = 0 := by
  constructor
  · have q := fnd_sum G h (l := count) (by omega)
    have e : un count count = 1 := if_pos rfl
    rw [e, Int.mul_one, sm_congr (g := fun k => (-1) * (fndB cs count b k * cf cs k 0)) fun k hk => by rw [colA_last hk, Int.mul_neg]; omega, sm_mul] at q
    have p : 0 < tS cs count b := G.pos
    omega
  · intro l hl
    have q := fnd_sum G h (l := l) (by omega)
    have e : un count l = 0 := if_neg (by omega)
    rw [e, Int.mul_zero, sm_congr (g := fun k => fndB cs count b k * cf cs k (l + 1)) fun k hk => by rw [colA_cond hk hl]] at q
    exact q
/-- the reduced costs by the prices -/
theorem red_prices {b : List Nat} (G : Good (colA cs count) (count + 1) cs.length b) (k : Nat) : tR cs count b k = tS cs count b * gam cs count k - sm (count + 1) fun l => colA cs count k l * prc cs count b l := by
  unfold tR tS red
  congr 1
  have e1 : ∀ l, l < count + 1 → prc cs count b l = sm (count + 1) fun i => gam cs count (bas b i) * ent (colA cs count) (count + 1) b i (cs.length + l) := fun l hl => by
    unfold prc tR tS red
    rw [gam_mark hl]; omega
  rw [sm_congr (g := fun l => sm (count + 1) fun i => colA cs count k l * (gam cs count (bas b i) * ent (colA cs count) (count + 1) b i (cs.length + l))) (f := fun l => colA cs count k l * prc cs count b l) fun l hl => by rw [e1 l hl, sm_mul], sm_swap]
  refine sm_congr fun i hi => ?_
  rw [ent_marks G.len hi, ← sm_mul]
  exact sm_congr fun l hl => by grind
/-- yes: prices -/
theorem prc_ok {b : List Nat} (G : Good (colA cs count) (count + 1) cs.length b) (F : Fin0 (colA cs count) (count + 1) cs.length (gam cs count) b) (h : tR cs count b (cs.length + (count + 1)) ≠ 0) :
    0 < prc cs count b count ∧ ∀ k, k < cs.length → 0 ≤ cf cs k 0 * prc cs count b count + sm count fun l => cf cs k (l + 1) * (- prc cs count b l) := by
  constructor
  · have q := red_prices G (cs.length + (count + 1))
    rw [gam_rhs, Int.mul_zero, colA_rhs, sm_one (j := count) (by omega) fun l hl hn => by show un count l * _ = 0; rw [show un count l = 0 from if_neg hn, Int.zero_mul], show un count count = 1 from if_pos rfl, Int.one_mul] at q
    have le : tR cs count b (cs.length + (count + 1)) ≤ 0 := by
      unfold tR red
      rw [gam_rhs, Int.mul_zero]
      have := sm_nonneg (f := fun i => gam cs count (bas b i) * ent (colA cs count) (count + 1) b i (cs.length + (count + 1))) (n := count + 1) fun i hi => Int.mul_nonneg (gam_costs.nn _) (G.feas i hi)
      omega
    omega
  · intro k hk
    have q := F k hk
    have r := red_prices G k
    unfold tR at r
    rw [r, gam_costs.zero k hk, Int.mul_zero] at q
    have e : sm (count + 1) (fun l => colA cs count k l * prc cs count b l) = sm count (fun l => cf cs k (l + 1) * prc cs count b l) + (- cf cs k 0) * prc cs count b count := by
      show sm count (fun l => colA cs count k l * prc cs count b l) + colA cs count k count * prc cs count b count = _
      rw [colA_last hk, sm_congr fun l hl => by rw [colA_cond hk hl]]
    rw [e, Int.neg_mul] at q
    have e2 : sm count (fun l => cf cs k (l + 1) * (- prc cs count b l)) = - sm count fun l => cf cs k (l + 1) * prc cs count b l := by
      rw [sm_congr (g := fun l => (-1) * (cf cs k (l + 1) * prc cs count b l)) fun l hl => by rw [Int.mul_neg]; omega, sm_mul]; omega
    rw [e2]; omega
/-! ### the integers divided by their common divisor -/
def ksOf (cs : List (List Int)) (count : Nat) (b : List Nat) : List Int := (List.range cs.length).map (fndB cs count b)
theorem ks_get {b : List Nat} {k : Nat} (hk : k < cs.length) : (ksOf cs count b)[k]? = some (fndB cs count b k) := by
  unfold ksOf
  rw [List.getElem?_map, List.getElem?_range hk]; rfl
theorem ks_gcd {b : List Nat} (G : Good (colA cs count) (count + 1) cs.length b) (h : tR cs count b (cs.length + (count + 1)) = 0) : gcdL (ksOf cs count b) ≠ 0 := fun z => by
  have q := (fnd_bar G h).1
  rw [sm_eq_zero fun k hk => by rw [gcdL_zero z _ (List.mem_of_getElem? (ks_get hk)), Int.zero_mul]] at q
  omega
theorem wd_len (xs : List Int) : (wd xs).length = xs.length := List.length_map ..
theorem wd_bar {b : List Nat} (G : Good (colA cs count) (count + 1) cs.length b) (h : tR cs count b (cs.length + (count + 1)) = 0) :
    (wd (ksOf cs count b)).length = cs.length ∧ (∀ x ∈ wd (ksOf cs count b), 0 ≤ x) ∧ gcdL (wd (ksOf cs count b)) = 1 ∧
    sm cs.length (fun k => (wd (ksOf cs count b)).getD k 0 * cf cs k 0) < 0 ∧ ∀ l, l < count → sm cs.length (fun k => (wd (ksOf cs count b)).getD k 0 * cf cs k (l + 1)) = 0 := by
  have g0 := ks_gcd G h
  have gp : (0 : Int) < ((gcdL (ksOf cs count b) : Nat) : Int) := by omega
  have get : ∀ k, k < cs.length → (wd (ksOf cs count b)).getD k 0 * ((gcdL (ksOf cs count b) : Nat) : Int) = fndB cs count b k := fun k hk => by
    unfold wd
    rw [List.getD_eq_getElem?_getD, List.getElem?_map, ks_get hk]
    exact Int.ediv_mul_cancel (gcdL_dvd (List.mem_of_getElem? (ks_get hk)))
  have sum : ∀ j, sm cs.length (fun k => fndB cs count b k * cf cs k j) = ((gcdL (ksOf cs count b) : Nat) : Int) * sm cs.length (fun k => (wd (ksOf cs count b)).getD k 0 * cf cs k j) := fun j => by
    rw [← sm_mul]
    refine sm_congr fun k hk => ?_
    rw [← get k hk]; grind
  refine ⟨by rw [wd_len]; unfold ksOf; rw [List.length_map, List.length_range], fun x hx => ?_, gcdL_wd g0, ?_, fun l hl => ?_⟩
  · unfold wd ksOf at hx
    obtain ⟨y, hy, e⟩ := List.mem_map.mp hx
    obtain ⟨k, hk, e2⟩ := List.mem_map.mp hy
    rw [← e, ← e2]
    exact Int.ediv_nonneg (fnd_nn G k) (by omega)
  · have q := (fnd_bar G h).1
    rw [sum 0] at q
    refine Decidable.by_contra fun z => ?_
    have := Int.mul_nonneg (Int.le_of_lt gp) (by omega : 0 ≤ sm cs.length (fun k => (wd (ksOf cs count b)).getD k 0 * cf cs k 0))
    omega
  · have q := (fnd_bar G h).2 l hl
    rw [sum (l + 1)] at q
    rcases Int.mul_eq_zero.mp q with z | z
    · omega
    · exact z

/-! ### sizes -/
structure Sm (cs : List (List Int)) (count : Nat) : Prop where
  few : count ≤ 11
  ent : ∀ k j, (cf cs k j).natAbs ≤ 16384
theorem colA_abs (S : Sm cs count) (k l : Nat) : (colA cs count k l).natAbs ≤ 16384 := by
  unfold colA un
  split
  · split
    · exact S.ent _ _
    · split
      · rw [Int.natAbs_neg]; exact S.ent _ _
      · decide
  · split <;> split <;> decide
theorem pow12 {m : Nat} (h : m ≤ 12) : (m * 16384) ^ m < 2 ^ 216 := by
  have h1 : (m * 16384) ^ m ≤ (12 * 16384) ^ m := Nat.pow_le_pow_left (Nat.mul_le_mul_right _ h) m
  have h2 : (12 * 16384) ^ m ≤ (12 * 16384) ^ 12 := Nat.pow_le_pow_right (by decide) h
  have h3 : (12 * 16384) ^ 12 < 2 ^ 216 := by decide +kernel
  exact Nat.lt_of_le_of_lt (Nat.le_trans h1 h2) h3
theorem det_abs (S : Sm cs count) {b : List Nat} {vs : List Vec} (hl : vs.length = count + 1) (hv : ∀ v ∈ vs, ∃ k, v = colA cs count k) : (det vs (List.range (count + 1))).natAbs < 2 ^ 216 := by
  have := det_bound (M := 16384) (L := count + 1) (vs := vs) (cs := List.range (count + 1)) (fun v h c => by
    obtain ⟨k, e⟩ := hv v h
    rw [e]; exact colA_abs S k c) (by rw [List.length_range]; exact Nat.le_refl _)
  rw [hl] at this
  have p := pow12 (m := count + 1) (by have := S.few; omega)
  omega
theorem tS_abs (S : Sm cs count) {b : List Nat} (hb : b.length = count + 1) : (tS cs count b).natAbs < 2 ^ 216 :=
  det_abs S (b := b) (by rw [List.length_map, hb]) fun v hv => let ⟨k, _, e⟩ := List.mem_map.mp hv; ⟨k, e.symm⟩
theorem tE_abs (S : Sm cs count) {b : List Nat} (hb : b.length = count + 1) (i k : Nat) : (tE cs count b i k).natAbs < 2 ^ 216 :=
  det_abs S (b := b) (by rw [List.length_set, List.length_map, hb]) fun v hv => by
    rcases List.mem_or_eq_of_mem_set hv with z | z
    · obtain ⟨k, _, e⟩ := List.mem_map.mp z
      exact ⟨k, e.symm⟩
    · exact ⟨k, z⟩
theorem gam_abs (k : Nat) : (gam cs count k).natAbs ≤ 1 := by unfold gam; split <;> decide
theorem tR_abs (S : Sm cs count) {b : List Nat} (hb : b.length = count + 1) (k : Nat) : (tR cs count b k).natAbs < 2 ^ 220 := by
  have h1 := tS_abs S hb
  have h2 : (tS cs count b * gam cs count k).natAbs ≤ 2 ^ 216 := by
    rw [Int.natAbs_mul]
    have := Nat.mul_le_mul (Nat.le_of_lt h1) (gam_abs (cs := cs) (count := count) k)
    omega
  have h3 := sm_natAbs (f := fun i => gam cs count (bas b i) * ent (colA cs count) (count + 1) b i k) (M := 2 ^ 216) (n := count + 1) fun i hi => by
    rw [Int.natAbs_mul]
    have := Nat.mul_le_mul (gam_abs (cs := cs) (count := count) (bas b i)) (Nat.le_of_lt (tE_abs S hb i k))
    unfold tE at this
    omega
  have h4 := Int.natAbs_sub_le (tS cs count b * gam cs count k) (sm (count + 1) fun i => gam cs count (bas b i) * ent (colA cs count) (count + 1) b i k)
  have h5 : (count + 1) * 2 ^ 216 ≤ 12 * 2 ^ 216 := Nat.mul_le_mul_right _ (by have := S.few; omega)
  have h6 : tR cs count b k = tS cs count b * gam cs count k - sm (count + 1) fun i => gam cs count (bas b i) * ent (colA cs count) (count + 1) b i k := rfl
  rw [h6]
  have h7 : (2 : Nat) ^ 220 = 16 * 2 ^ 216 := by decide
  omega
theorem prc_abs (S : Sm cs count) {b : List Nat} (hb : b.length = count + 1) (l : Nat) : (prc cs count b l).natAbs < 2 ^ 221 := by
  have h1 := tS_abs S hb
  have h2 := tR_abs S hb (cs.length + l)
  have h3 := Int.natAbs_sub_le (tS cs count b) (tR cs count b (cs.length + l))
  unfold prc
  have h7 : (2 : Nat) ^ 220 = 16 * 2 ^ 216 := by decide
  have h8 : (2 : Nat) ^ 221 = 2 * 2 ^ 220 := by decide
  omega
theorem fnd_abs (S : Sm cs count) {b : List Nat} (hb : b.length = count + 1) (k : Nat) : (fndB cs count b k).natAbs < 2 ^ 220 := by
  have h3 := sm_natAbs (f := fun i => if bas b i = k then bet (colA cs count) (count + 1) cs.length b i else 0) (M := 2 ^ 216) (n := count + 1) fun i hi => by
    show (if bas b i = k then bet (colA cs count) (count + 1) cs.length b i else 0).natAbs ≤ _
    split
    · exact Nat.le_of_lt (tE_abs S hb i _)
    · exact Nat.zero_le _
  have h5 : (count + 1) * 2 ^ 216 ≤ 12 * 2 ^ 216 := Nat.mul_le_mul_right _ (by have := S.few; omega)
  have h7 : (2 : Nat) ^ 220 = 16 * 2 ^ 216 := by decide
  unfold fndB
  omega
end
end Rl
set_option Elab.async false
set_option linter.all false
/-! Nets, states, islands, conditions, in plain Lean. -/
namespace Rl
structure Ln where
  a : Nat
  b : Nat
  s : Int
  l : Int
structure Stn where
  node : Nat
  lo : Int
  hi : Int
  own : Bool
structure Ld where
  node : Nat
  amt : Int
structure Net where
  nodes : Nat
  lines : List Ln
  stations : List Stn
  loads : List Ld
structure Sta where
  closed : List Nat
  running : List Nat
  fed : List Nat
/-- an island's own part -/
structure Part where
  nodes : List Nat
  sts : List Stn
  lns : List Ln
  lds : List Ld
def ln0 : Ln := ⟨0, 0, 0, 0⟩
def stn0 : Stn := ⟨0, 0, 0, false⟩
def ld0 : Ld := ⟨0, 0⟩
/-- those of the items at the places ks that lie in the island -/
def pick {α : Type} (xs : List α) (d : α) (at_ : α → Nat) (isl : List Nat) (ks : List Nat) : List α := (ks.filter fun k => decide (at_ (xs.getD k d) ∈ isl)).map fun k => xs.getD k d
def partOf (n : Net) (s : Sta) (isl : List Nat) : Part := ⟨isl, pick n.stations stn0 Stn.node isl s.running, pick n.lines ln0 Ln.a isl s.closed, pick n.loads ld0 Ld.node isl s.fed⟩
namespace Part
variable (p : Part)
def wid : Nat := p.sts.length + p.nodes.length
/-- a node's place -/
def idx (v : Nat) : Nat := p.nodes.idxOf v
/-- a potential times k -/
def pot (v : Nat) (k : Int) (j : Nat) : Int := if 0 < p.idx v ∧ j = p.sts.length + p.idx v then k else 0
def flow (x : Ln) (j : Nat) : Int := p.pot x.a x.s j + p.pot x.b (- x.s) j
def sgn (x : Ln) (v : Nat) : Int := if x.a = v then -1 else if x.b = v then 1 else 0
def exS (v : Nat) (j : Nat) : Int := sm p.sts.length fun k => if (p.sts.getD k stn0).node = v ∧ j = 1 + k then 1 else 0
def exL (v : Nat) : Int := - (p.lds.map fun x => if x.node = v then x.amt else 0).sum
def exF (v : Nat) (j : Nat) : Int := (p.lns.map fun x => sgn x v * p.flow x j).sum
def excess (v : Nat) (j : Nat) : Int := p.exS v j + (if j = 0 then p.exL v else 0) + p.exF v j
def stRows : List (Nat → Int) := (List.range p.sts.length).flatMap fun k => [fun j => if j = 0 then - (p.sts.getD k stn0).lo else if j = 1 + k then 1 else 0, fun j => if j = 0 then (p.sts.getD k stn0).hi else if j = 1 + k then -1 else 0]
def lnRows : List (Nat → Int) := p.lns.flatMap fun x => [fun j => if j = 0 then x.l else - p.flow x j, fun j => if j = 0 then x.l else p.flow x j]
def ndRows : List (Nat → Int) := p.nodes.flatMap fun v => [fun j => p.excess v j, fun j => - p.excess v j]
def rows : List (Nat → Int) := p.stRows ++ p.lnRows ++ p.ndRows
def conds : List (List Int) := p.rows.map fun f => (List.range p.wid).map f
end Part
/-- what holds of the nets of the law -/
structure NetOk (n : Net) : Prop where
  nodes : 1 ≤ n.nodes ∧ n.nodes ≤ 8
  lines : n.lines.length ≤ 8
  stations : n.stations.length ≤ 4
  loads : n.loads.length ≤ 4
  line : ∀ x ∈ n.lines, x.a < x.b ∧ x.b < n.nodes ∧ 1 ≤ x.s ∧ x.s ≤ 1000 ∧ 0 ≤ x.l ∧ x.l ≤ 1001
  station : ∀ x ∈ n.stations, x.node < n.nodes ∧ 0 ≤ x.lo ∧ x.lo ≤ x.hi ∧ x.hi ≤ 1001
  load : ∀ x ∈ n.loads, x.node < n.nodes ∧ 1 ≤ x.amt ∧ x.amt ≤ 1001
structure StaOk (n : Net) (s : Sta) : Prop where
  closed : ∀ k ∈ s.closed, k < n.lines.length
  running : ∀ k ∈ s.running, k < n.stations.length
  fed : ∀ k ∈ s.fed, k < n.loads.length
  closedN : s.closed.length ≤ 8
  runningN : s.running.length ≤ 4
  fedN : s.fed.length ≤ 4
/-- what holds of a part -/
structure PartOk (p : Part) : Prop where
  ne : 1 ≤ p.nodes.length ∧ p.nodes.length ≤ 8
  nd : p.nodes.Nodup
  sts : p.sts.length ≤ 4
  lns : p.lns.length ≤ 8
  lds : p.lds.length ≤ 4
  st : ∀ x ∈ p.sts, x.node ∈ p.nodes ∧ 0 ≤ x.lo ∧ x.lo ≤ x.hi ∧ x.hi ≤ 1001
  ln : ∀ x ∈ p.lns, x.a ∈ p.nodes ∧ x.b ∈ p.nodes ∧ x.a ≠ x.b ∧ 1 ≤ x.s ∧ x.s ≤ 1000 ∧ 0 ≤ x.l ∧ x.l ≤ 1001
  ld : ∀ x ∈ p.lds, 1 ≤ x.amt ∧ x.amt ≤ 1001
/-- an island of the state: it holds both ends of each of its lines -/
structure IslOk (n : Net) (s : Sta) (isl : List Nat) : Prop where
  ne : 1 ≤ isl.length ∧ isl.length ≤ 8
  nd : isl.Nodup
  shut : ∀ k ∈ s.closed, ((n.lines.getD k ln0).a ∈ isl ↔ (n.lines.getD k ln0).b ∈ isl)
theorem getD_at {α : Type} {xs : List α} {d x : α} {k : Nat} (h : xs[k]? = some x) : xs.getD k d = x := by rw [List.getD_eq_getElem?_getD, h]; rfl
theorem idx_get {xs : List Nat} {v : Nat} (h : v ∈ xs) : xs[xs.idxOf v]? = some v := by
  have hl : xs.idxOf v < xs.length := List.idxOf_lt_length_of_mem h
  rw [List.getElem?_eq_getElem hl, List.getElem_idxOf hl]
theorem getD_mem {α : Type} {xs : List α} {d : α} {k : Nat} (h : k < xs.length) : xs.getD k d ∈ xs := by
  rw [List.getD_eq_getElem?_getD, List.getElem?_eq_getElem h]
  exact List.getElem_mem h
theorem pick_len {α : Type} {xs : List α} {d : α} {at_ : α → Nat} {isl : List Nat} {ks : List Nat} : (pick xs d at_ isl ks).length ≤ ks.length := by
  unfold pick
  rw [List.length_map]
  exact List.length_filter_le _ _
theorem pick_mem {α : Type} {xs : List α} {d : α} {at_ : α → Nat} {isl : List Nat} {ks : List Nat} {x : α} (h : x ∈ pick xs d at_ isl ks) : ∃ k ∈ ks, x = xs.getD k d ∧ at_ x ∈ isl := by
  obtain ⟨k, hk, e⟩ := List.mem_map.mp h
  obtain ⟨h1, h2⟩ := List.mem_filter.mp hk
  exact ⟨k, h1, e.symm, by rw [← e]; exact of_decide_eq_true h2⟩
theorem part_ok {n : Net} {s : Sta} {isl : List Nat} (N : NetOk n) (S : StaOk n s) (I : IslOk n s isl) : PartOk (partOf n s isl) := by
  refine ⟨I.ne, I.nd, Nat.le_trans pick_len S.runningN, Nat.le_trans pick_len S.closedN, Nat.le_trans pick_len S.fedN, fun x hx => ?_, fun x hx => ?_, fun x hx => ?_⟩
  · obtain ⟨k, hk, e, hi⟩ := pick_mem hx
    have m := N.station x (by rw [e]; exact getD_mem (S.running k hk))
    exact ⟨hi, m.2⟩
  · obtain ⟨k, hk, e, hi⟩ := pick_mem hx
    have m := N.line x (by rw [e]; exact getD_mem (S.closed k hk))
    have h2 := (I.shut k hk).mp (by rw [← e]; exact hi)
    rw [← e] at h2
    exact ⟨hi, h2, by omega, m.2.2⟩
  · obtain ⟨k, hk, e, hi⟩ := pick_mem hx
    exact (N.load x (by rw [e]; exact getD_mem (S.fed k hk))).2
section
variable {p : Part}
theorem conds_get {k j : Nat} {f : Nat → Int} (h : p.rows[k]? = some f) (hj : j < p.wid) : cf p.conds k j = f j := by
  unfold cf Part.conds
  have e1 : (p.rows.map fun f => (List.range p.wid).map f)[k]? = some ((List.range p.wid).map f) := by rw [List.getElem?_map, h]; rfl
  rw [getD_at e1]
  exact getD_at (by rw [List.getElem?_map, List.getElem?_range hj]; rfl)
theorem conds_len : p.conds.length = p.rows.length := List.length_map ..
theorem cf_out {cs : List (List Int)} {k j : Nat} (h : cf cs k j ≠ 0) : ∃ row, cs[k]? = some row ∧ row[j]? = some (cf cs k j) := by
  unfold cf at h ⊢
  cases e : cs[k]? with
  | none =>
    have e1 : cs.getD k [] = [] := by rw [List.getD_eq_getElem?_getD, e]; rfl
    rw [e1] at h
    exact absurd rfl h
  | some row =>
    refine ⟨row, rfl, ?_⟩
    rw [getD_at e] at h ⊢
    cases e2 : row[j]? with
    | none =>
      have e3 : row.getD j 0 = 0 := by rw [List.getD_eq_getElem?_getD, e2]; rfl
      exact absurd e3 h
    | some z => rw [getD_at e2]
/-- sizes of rows -/
theorem pot_abs {v : Nat} {k : Int} {j : Nat} (hk : k.natAbs ≤ 1000) : (p.pot v k j).natAbs ≤ 1000 := by unfold Part.pot; split <;> omega
theorem flow_abs {x : Ln} {j : Nat} (h : x.s.natAbs ≤ 1000) : (p.flow x j).natAbs ≤ 2000 := by
  unfold Part.flow
  have h1 := pot_abs (p := p) (v := x.a) (k := x.s) (j := j) h
  have h2 := pot_abs (p := p) (v := x.b) (k := - x.s) (j := j) (by omega)
  have := Int.natAbs_add_le (p.pot x.a x.s j) (p.pot x.b (- x.s) j)
  omega
theorem sum_abs {α : Type} {f : α → Int} {M : Nat} : ∀ {xs : List α}, (∀ x ∈ xs, (f x).natAbs ≤ M) → (xs.map f).sum.natAbs ≤ xs.length * M
  | [], _ => by show (0 : Int).natAbs ≤ 0 * M; simp
  | x :: xs, h => by
    rw [List.map_cons, List.sum_cons, List.length_cons, Nat.add_mul, Nat.one_mul]
    have h1 := sum_abs (f := f) (xs := xs) fun y hy => h y (List.mem_cons_of_mem _ hy)
    have h2 := h x List.mem_cons_self
    have h3 := Int.natAbs_add_le (f x) (xs.map f).sum
    omega
theorem exS_abs {v j : Nat} (h : p.sts.length ≤ 4) : (p.exS v j).natAbs ≤ 4 := by
  unfold Part.exS
  have := sm_natAbs (f := fun k => if (p.sts.getD k stn0).node = v ∧ j = 1 + k then 1 else 0) (M := 1) (n := p.sts.length) fun i _ => by
    show (if (p.sts.getD i stn0).node = v ∧ j = 1 + i then (1 : Int) else 0).natAbs ≤ 1
    split <;> decide
  omega
theorem excess_abs (O : PartOk p) (v j : Nat) : (p.excess v j).natAbs ≤ 16384 := by
  have h1 := exS_abs (p := p) (v := v) (j := j) O.sts
  have h2 : (p.exL v).natAbs ≤ 4 * 1001 := by
    unfold Part.exL
    rw [Int.natAbs_neg]
    refine Nat.le_trans (sum_abs (M := 1001) fun x hx => ?_) (Nat.mul_le_mul_right _ O.lds)
    have := O.ld x hx
    split <;> omega
  have h3 : (p.exF v j).natAbs ≤ 8 * 1000 := by
    unfold Part.exF
    refine Nat.le_trans (sum_abs (M := 1000) fun x hx => ?_) (Nat.mul_le_mul_right _ O.lns)
    have ok := O.ln x hx
    have hs : x.s.natAbs ≤ 1000 := by omega
    -- one end of a line at most has the place j
    have one : (p.flow x j).natAbs ≤ 1000 := by
      unfold Part.flow Part.pot
      by_cases c1 : 0 < p.idx x.a ∧ j = p.sts.length + p.idx x.a
      · by_cases c2 : 0 < p.idx x.b ∧ j = p.sts.length + p.idx x.b
        · exfalso
          have e : p.idx x.a = p.idx x.b := by omega
          unfold Part.idx at e
          have g1 : p.nodes[p.nodes.idxOf x.a]? = some x.a := idx_get ok.1
          have g2 : p.nodes[p.nodes.idxOf x.b]? = some x.b := idx_get ok.2.1
          rw [e, g2] at g1
          exact ok.2.2.1 (Option.some.inj g1).symm
        · rw [if_pos c1, if_neg c2]; omega
      · by_cases c2 : 0 < p.idx x.b ∧ j = p.sts.length + p.idx x.b
        · rw [if_neg c1, if_pos c2]; omega
        · rw [if_neg c1, if_neg c2]; decide
    have sg : (Part.sgn x v).natAbs ≤ 1 := by unfold Part.sgn; split; decide; split <;> decide
    rw [Int.natAbs_mul]
    have := Nat.mul_le_mul sg one
    omega
  have h4 : (if j = 0 then p.exL v else 0).natAbs ≤ 4 * 1001 := by split; exact h2; exact Nat.zero_le _
  have h5 := Int.natAbs_add_le (p.exS v j) (if j = 0 then p.exL v else 0)
  have h6 := Int.natAbs_add_le (p.exS v j + (if j = 0 then p.exL v else 0)) (p.exF v j)
  unfold Part.excess
  omega
theorem rows_abs (O : PartOk p) {f : Nat → Int} (h : f ∈ p.rows) (j : Nat) : (f j).natAbs ≤ 16384 := by
  unfold Part.rows at h
  rcases List.mem_append.mp h with h | h
  · rcases List.mem_append.mp h with h | h
    · obtain ⟨k, hk, hf⟩ := List.mem_flatMap.mp h
      have m := O.st (p.sts.getD k stn0) (getD_mem (List.mem_range.mp hk))
      rcases List.mem_cons.mp hf with e | hf
      · rw [e]
        show (if j = 0 then - (p.sts.getD k stn0).lo else if j = 1 + k then 1 else 0).natAbs ≤ _
        split; omega; split <;> decide
      · rw [List.mem_singleton.mp hf]
        show (if j = 0 then (p.sts.getD k stn0).hi else if j = 1 + k then -1 else 0).natAbs ≤ _
        split; omega; split <;> decide
    · obtain ⟨x, hx, hf⟩ := List.mem_flatMap.mp h
      have m := O.ln x hx
      have fl := flow_abs (p := p) (x := x) (j := j) (by omega)
      rcases List.mem_cons.mp hf with e | hf
      · rw [e]
        show (if j = 0 then x.l else - p.flow x j).natAbs ≤ _
        split <;> omega
      · rw [List.mem_singleton.mp hf]
        show (if j = 0 then x.l else p.flow x j).natAbs ≤ _
        split <;> omega
  · obtain ⟨v, hv, hf⟩ := List.mem_flatMap.mp h
    have ex := excess_abs O v j
    rcases List.mem_cons.mp hf with e | hf
    · rw [e]; exact ex
    · rw [List.mem_singleton.mp hf]
      show (- p.excess v j).natAbs ≤ _
      rw [Int.natAbs_neg]; exact ex
theorem flat2_len {α β : Type} {f g : α → β} : ∀ (xs : List α), (xs.flatMap fun x => [f x, g x]).length = 2 * xs.length
  | [] => rfl
  | x :: xs => by rw [List.flatMap_cons, List.length_append, flat2_len xs]; simp; omega
theorem rows_len : p.rows.length = 2 * p.sts.length + 2 * p.lns.length + 2 * p.nodes.length := by
  unfold Part.rows Part.stRows Part.lnRows Part.ndRows
  rw [List.length_append, List.length_append, flat2_len, flat2_len, flat2_len, List.length_range]
/-- the conditions of a part are not too great -/
theorem conds_sm (O : PartOk p) : Sm p.conds (p.wid - 1) ∧ p.conds.length ≤ 100 := by
  refine ⟨⟨by have := O.ne; have := O.sts; unfold Part.wid; omega, fun k j => ?_⟩, by rw [conds_len, rows_len]; have := O.ne; have := O.sts; have := O.lns; omega⟩
  by_cases z : cf p.conds k j = 0
  · rw [z]; exact Nat.zero_le _
  · obtain ⟨row, h1, h2⟩ := cf_out z
    unfold Part.conds at h1
    rw [List.getElem?_map] at h1
    cases e : p.rows[k]? with
    | none => rw [e] at h1; cases h1
    | some f =>
      rw [e] at h1
      have h1' := Option.some.inj h1
      subst h1'
      have hj : j < p.wid := by
        have := (List.getElem?_eq_some_iff.mp h2).1
        rw [List.length_map, List.length_range] at this
        exact this
      rw [conds_get e hj]
      exact rows_abs O (List.mem_of_getElem? e) j
end
end Rl
set_option Elab.async false
set_option linter.all false
/-! The answers for a part: what the rows give. -/
namespace Rl
namespace Part
variable (p : Part)
def row (k : Nat) : Nat → Int := p.rows.getD k fun _ => 0
/-- the potentials over L, the first is 0 -/
def pV (N : Nat → Int) (i : Nat) : Int := if i = 0 then 0 else N (p.sts.length + i - 1)
/-- a line's flow over L -/
def fV (N : Nat → Int) (x : Ln) : Int := x.s * (p.pV N (p.idx x.a) - p.pV N (p.idx x.b))
def val (N : Nat → Int) (L : Int) (f : Nat → Int) : Int := f 0 * L + sm (p.wid - 1) fun l => f (l + 1) * N l
end Part
structure Bar (p : Part) (ks : List Int) : Prop where
  len : ks.length = p.rows.length
  nn : ∀ x ∈ ks, 0 ≤ x
  one : gcdL ks = 1
  sz : ∀ x ∈ ks, x.natAbs < 2 ^ 220
  neg : sm p.rows.length (fun k => ks.getD k 0 * p.row k 0) < 0
  zero : ∀ j, 1 ≤ j → j < p.wid → sm p.rows.length (fun k => ks.getD k 0 * p.row k j) = 0
structure Sol (p : Part) (N : Nat → Int) (L : Int) : Prop where
  pos : 0 < L
  szL : L.natAbs < 2 ^ 221
  szN : ∀ l, (N l).natAbs < 2 ^ 221
  ineq : ∀ f ∈ p.rows, 0 ≤ p.val N L f
section
variable {p : Part}
theorem row_at {k : Nat} (h : k < p.rows.length) : p.rows[k]? = some (p.row k) := by
  unfold Part.row
  rw [List.getElem?_eq_getElem h, getD_at (List.getElem?_eq_getElem h)]
theorem cf_row {k j : Nat} (h : k < p.rows.length) (hj : j < p.wid) : cf p.conds k j = p.row k j := conds_get (row_at h) hj
theorem ans_cases (O : PartOk p) : (∃ ks, solF p.conds (p.wid - 1) = .no ks ∧ Bar p ks) ∨ ∃ N L, solF p.conds (p.wid - 1) = .yes ((List.range (p.wid - 1)).map fun l => fr (N l) L) ∧ Sol p N L := by
  have w1 : 1 ≤ p.wid := by have := O.ne; unfold Part.wid; omega
  have S := (conds_sm O).1
  have hl := conds_len (p := p)
  obtain ⟨b, hb⟩ : ∃ b, b = rs p.conds (p.wid - 1) := ⟨_, rfl⟩
  have G := rs_good (cs := p.conds) (count := p.wid - 1)
  have F := rs_fin (cs := p.conds) (count := p.wid - 1)
  rw [← hb] at G F
  by_cases h : tR p.conds (p.wid - 1) b (p.conds.length + (p.wid - 1 + 1)) = 0
  · obtain ⟨h1, h2, h3, h4, h5⟩ := wd_bar G h
    refine .inl ⟨wd (ksOf p.conds (p.wid - 1) b), ?_, ?_, h2, h3, fun x hx => ?_, ?_, fun j j1 j2 => ?_⟩
    · unfold solF
      rw [← hb, if_pos h]
      rfl
    · rw [h1, hl]
    · unfold wd at hx
      obtain ⟨y, hy, rfl⟩ := List.mem_map.mp hx
      unfold ksOf at hy
      obtain ⟨k, _, rfl⟩ := List.mem_map.mp hy
      exact Nat.lt_of_le_of_lt (Int.natAbs_ediv_le_natAbs _ _) (fnd_abs S G.len k)
    · rw [hl] at h4
      rw [sm_congr (g := fun k => (wd (ksOf p.conds (p.wid - 1) b)).getD k 0 * cf p.conds k 0) fun k hk => by rw [cf_row hk (by omega)]]
      exact h4
    · have := h5 (j - 1) (by omega)
      rw [hl, show j - 1 + 1 = j by omega] at this
      rw [sm_congr (g := fun k => (wd (ksOf p.conds (p.wid - 1) b)).getD k 0 * cf p.conds k j) fun k hk => by rw [cf_row hk j2]]
      exact this
  · obtain ⟨h1, h2⟩ := prc_ok G F h
    refine .inr ⟨fun l => - prc p.conds (p.wid - 1) b l, prc p.conds (p.wid - 1) b (p.wid - 1), ?_, h1, prc_abs S G.len _, fun l => by rw [Int.natAbs_neg]; exact prc_abs S G.len _, fun f hf => ?_⟩
    · unfold solF
      rw [← hb, if_neg h]
    · obtain ⟨k, hk, e⟩ := List.mem_iff_getElem.mp hf
      have e' : p.rows[k]? = some f := by rw [List.getElem?_eq_getElem hk, e]
      have q := h2 k (by rw [hl]; exact hk)
      unfold Part.val
      rw [conds_get e' (by omega)] at q
      rw [sm_congr (g := fun l => cf p.conds k (l + 1) * - prc p.conds (p.wid - 1) b l) fun l hlt => by rw [conds_get e' (by omega)]]
      exact q
/-! what the inequalities say -/
theorem val_neg {N : Nat → Int} {L : Int} (f : Nat → Int) : p.val N L (fun j => - f j) = - p.val N L f := by
  unfold Part.val
  have : sm (p.wid - 1) (fun l => - f (l + 1) * N l) = -1 * sm (p.wid - 1) fun l => f (l + 1) * N l := by
    rw [← sm_mul]
    exact sm_congr fun l _ => by rw [Int.neg_mul, Int.neg_mul, Int.one_mul]
  rw [this, Int.neg_mul]
  omega
theorem pot_sum {N : Nat → Int} {v : Nat} {k : Int} (hv : v ∈ p.nodes) : (sm (p.wid - 1) fun l => p.pot v k (l + 1) * N l) = k * p.pV N (p.idx v) := by
  have hi : p.idx v < p.nodes.length := List.idxOf_lt_length_of_mem hv
  unfold Part.pV
  by_cases z : p.idx v = 0
  · rw [if_pos z, Int.mul_zero]
    exact sm_eq_zero fun l _ => by unfold Part.pot; rw [if_neg (fun h => by omega), Int.zero_mul]
  · rw [if_neg z, sm_one (j := p.sts.length + p.idx v - 1) (by unfold Part.wid; omega) fun l _ hl => by
      show p.pot v k (l + 1) * N l = 0
      unfold Part.pot; rw [if_neg (fun h => by omega), Int.zero_mul]]
    show p.pot v k (p.sts.length + p.idx v - 1 + 1) * _ = _
    unfold Part.pot
    rw [if_pos (by omega)]
theorem pot0 {v : Nat} {k : Int} : p.pot v k 0 = 0 := by unfold Part.pot; rw [if_neg (fun h => by omega)]
theorem flow0 {x : Ln} : p.flow x 0 = 0 := by unfold Part.flow; rw [pot0, pot0]; rfl
theorem flow_sum {N : Nat → Int} {x : Ln} (ha : x.a ∈ p.nodes) (hb : x.b ∈ p.nodes) : (sm (p.wid - 1) fun l => p.flow x (l + 1) * N l) = p.fV N x := by
  unfold Part.flow Part.fV
  rw [sm_congr (g := fun l => p.pot x.a x.s (l + 1) * N l + p.pot x.b (- x.s) (l + 1) * N l) fun l _ => by rw [Int.add_mul], sm_add, pot_sum ha, pot_sum hb, Int.neg_mul, Int.mul_sub]
  rfl
variable {N : Nat → Int} {L : Int}
theorem Sol.station (h : Sol p N L) {k : Nat} (hk : k < p.sts.length) (hn : 1 ≤ p.nodes.length) : (p.sts.getD k stn0).lo * L ≤ N k ∧ N k ≤ (p.sts.getD k stn0).hi * L := by
  have m1 := h.ineq (fun j => if j = 0 then - (p.sts.getD k stn0).lo else if j = 1 + k then 1 else 0) (List.mem_append_left _ (List.mem_append_left _ (List.mem_flatMap.mpr ⟨k, List.mem_range.mpr hk, List.mem_cons_self⟩)))
  have m2 := h.ineq (fun j => if j = 0 then (p.sts.getD k stn0).hi else if j = 1 + k then -1 else 0) (List.mem_append_left _ (List.mem_append_left _ (List.mem_flatMap.mpr ⟨k, List.mem_range.mpr hk, List.mem_cons_of_mem _ List.mem_cons_self⟩)))
  have one : ∀ (z a : Int), (sm (p.wid - 1) fun l => (if l + 1 = 0 then a else if l + 1 = 1 + k then z else 0) * N l) = z * N k := fun z a => by
    rw [sm_one (j := k) (by unfold Part.wid; omega) fun l _ hl => by
      show (if l + 1 = 0 then a else if l + 1 = 1 + k then z else 0) * N l = 0
      rw [if_neg (by omega), if_neg (by omega), Int.zero_mul]]
    rw [if_neg (by omega), if_pos (by omega)]
  unfold Part.val at m1 m2
  rw [one] at m1 m2
  simp only [if_pos] at m1 m2
  rw [Int.neg_mul] at m1
  omega
theorem Sol.line (h : Sol p N L) {x : Ln} (hx : x ∈ p.lns) (ha : x.a ∈ p.nodes) (hb : x.b ∈ p.nodes) : - (x.l * L) ≤ p.fV N x ∧ p.fV N x ≤ x.l * L := by
  have m1 := h.ineq (fun j => if j = 0 then x.l else - p.flow x j) (List.mem_append_left _ (List.mem_append_right _ (List.mem_flatMap.mpr ⟨x, hx, List.mem_cons_self⟩)))
  have m2 := h.ineq (fun j => if j = 0 then x.l else p.flow x j) (List.mem_append_left _ (List.mem_append_right _ (List.mem_flatMap.mpr ⟨x, hx, List.mem_cons_of_mem _ List.mem_cons_self⟩)))
  unfold Part.val at m1 m2
  have e1 : (sm (p.wid - 1) fun l => (if l + 1 = 0 then x.l else - p.flow x (l + 1)) * N l) = - p.fV N x := by
    rw [← flow_sum ha hb, show - (sm (p.wid - 1) fun l => p.flow x (l + 1) * N l) = -1 * sm (p.wid - 1) fun l => p.flow x (l + 1) * N l by omega, ← sm_mul]
    exact sm_congr fun l _ => by rw [if_neg (by omega), Int.neg_mul, Int.neg_mul, Int.one_mul]
  have e2 : (sm (p.wid - 1) fun l => (if l + 1 = 0 then x.l else p.flow x (l + 1)) * N l) = p.fV N x := by
    rw [← flow_sum ha hb]
    exact sm_congr fun l _ => by rw [if_neg (by omega)]
  rw [e1] at m1
  rw [e2] at m2
  simp only [if_pos] at m1 m2
  omega
theorem sum_swap {α : Type} (f : α → Nat → Int) (n : Nat) : ∀ (xs : List α), (sm n fun l => (xs.map fun x => f x l).sum) = (xs.map fun x => sm n (f x)).sum
  | [] => sm_zero n
  | x :: xs => by
    show (sm n fun l => f x l + (xs.map fun x => f x l).sum) = sm n (f x) + _
    rw [sm_add, sum_swap f n xs]
    rfl
theorem sum_mul_r {α : Type} (f : α → Int) (c : Int) : ∀ (xs : List α), (xs.map f).sum * c = (xs.map fun x => f x * c).sum
  | [] => Int.zero_mul c
  | x :: xs => by
    show (f x + (xs.map f).sum) * c = f x * c + _
    rw [Int.add_mul, sum_mul_r f c xs]
    rfl
theorem map_sum_congr {α : Type} {f g : α → Int} {xs : List α} (h : ∀ x ∈ xs, f x = g x) : (xs.map f).sum = (xs.map g).sum := by rw [List.map_congr_left h]
theorem sum_zero {α : Type} {f : α → Int} : ∀ {xs : List α}, (∀ x ∈ xs, f x = 0) → (xs.map f).sum = 0
  | [], _ => rfl
  | x :: xs, h => by
    show f x + (xs.map f).sum = 0
    rw [h x List.mem_cons_self, sum_zero fun y hy => h y (List.mem_cons_of_mem _ hy)]
    rfl
/-- what comes in at a node over L -/
def Part.exV (p : Part) (N : Nat → Int) (L : Int) (v : Nat) : Int := p.exL v * L + (sm p.sts.length fun k => if (p.sts.getD k stn0).node = v then N k else 0) + (p.lns.map fun x => Part.sgn x v * p.fV N x).sum
theorem Sol.node (O : PartOk p) (h : Sol p N L) {v : Nat} (hv : v ∈ p.nodes) : p.exV N L v = 0 := by
  have m1 := h.ineq (fun j => p.excess v j) (List.mem_append_right _ (List.mem_flatMap.mpr ⟨v, hv, List.mem_cons_self⟩))
  have m2 := h.ineq (fun j => - p.excess v j) (List.mem_append_right _ (List.mem_flatMap.mpr ⟨v, hv, List.mem_cons_of_mem _ List.mem_cons_self⟩))
  rw [val_neg] at m2
  have e0 : p.val N L (fun j => p.excess v j) = 0 := by
    have m2' : 0 ≤ - p.val N L (p.excess v) := m2
    have m1' : 0 ≤ p.val N L (p.excess v) := m1
    show p.val N L (p.excess v) = 0
    omega
  rw [← e0]
  unfold Part.val Part.exV
  have hS0 : p.exS v 0 = 0 := by
    unfold Part.exS
    exact sm_eq_zero fun k _ => by rw [if_neg (fun h => by omega)]
  have hF0 : p.exF v 0 = 0 := by
    unfold Part.exF
    exact sum_zero fun x _ => by rw [flow0, Int.mul_zero]
  have c0 : p.excess v 0 = p.exL v := by
    unfold Part.excess
    rw [hS0, hF0, if_pos rfl]
    omega
  have c1 : (sm (p.wid - 1) fun l => p.excess v (l + 1) * N l) = (sm (p.wid - 1) fun l => p.exS v (l + 1) * N l) + sm (p.wid - 1) fun l => p.exF v (l + 1) * N l := by
    rw [← sm_add]
    refine sm_congr fun l _ => ?_
    unfold Part.excess
    rw [if_neg (by omega), Int.add_zero, Int.add_mul]
  have c2 : (sm (p.wid - 1) fun l => p.exS v (l + 1) * N l) = sm p.sts.length fun k => if (p.sts.getD k stn0).node = v then N k else 0 := by
    unfold Part.exS
    rw [sm_congr (g := fun l => sm p.sts.length fun k => N l * (if (p.sts.getD k stn0).node = v ∧ l + 1 = 1 + k then 1 else 0)) fun l _ => by rw [Int.mul_comm, ← sm_mul], sm_swap]
    refine sm_congr fun k hk => ?_
    by_cases z : (p.sts.getD k stn0).node = v
    · rw [if_pos z, sm_one (j := k) (by have := O.ne; unfold Part.wid; omega) fun l _ hl => by
        show N l * (if (p.sts.getD k stn0).node = v ∧ l + 1 = 1 + k then 1 else 0) = 0
        rw [if_neg (fun h => by omega), Int.mul_zero]]
      show N k * (if (p.sts.getD k stn0).node = v ∧ k + 1 = 1 + k then 1 else 0) = _
      rw [if_pos ⟨z, by omega⟩, Int.mul_one]
    · rw [if_neg z]
      exact sm_eq_zero fun l _ => by rw [if_neg (fun h => z h.1), Int.mul_zero]
  have c3 : (sm (p.wid - 1) fun l => p.exF v (l + 1) * N l) = (p.lns.map fun x => Part.sgn x v * p.fV N x).sum := by
    unfold Part.exF
    rw [sm_congr (g := fun l => (p.lns.map fun x => Part.sgn x v * p.flow x (l + 1) * N l).sum) fun l _ => sum_mul_r _ _ _, sum_swap]
    refine map_sum_congr fun x hx => ?_
    have m := O.ln x hx
    rw [← flow_sum m.1 m.2.1, ← sm_mul]
    exact sm_congr fun l _ => Int.mul_assoc ..
  rw [c1, c2, c3]
  show _ = p.excess v 0 * L + _
  rw [c0]
  omega
end
end Rl
set_option Elab.async false
set_option linter.all false
/-! Islands, in plain Lean: the marks, and the growth by passes. -/
namespace Rl
def mst (m : Nat → Nat) (x : Ln) : Nat → Nat := fun v => if m v = max (m x.a) (m x.b) then min (m x.a) (m x.b) else m v
def mrk (E : List Ln) : Nat → Nat := E.foldl mst id
structure MrkOk (E : List Ln) (m : Nat → Nat) : Prop where
  le : ∀ v, m v ≤ v
  fix : ∀ v, m (m v) = m v
  edge : ∀ x ∈ E, m x.a = m x.b
  fine : ∀ S : Nat → Prop, (∀ x ∈ E, (S x.a ↔ S x.b)) → ∀ u v, m u = m v → (S u ↔ S v)
theorem mst_hi {m : Nat → Nat} {x : Ln} {v : Nat} (h : m v = max (m x.a) (m x.b)) : mst m x v = min (m x.a) (m x.b) := if_pos h
theorem mst_no {m : Nat → Nat} {x : Ln} {v : Nat} (h : m v ≠ max (m x.a) (m x.b)) : mst m x v = m v := if_neg h
theorem mst_ok {E : List Ln} {m : Nat → Nat} {x : Ln} (M : MrkOk E m) : MrkOk (E ++ [x]) (mst m x) := by
  have fa := M.fix x.a
  have fb := M.fix x.b
  refine ⟨fun v => ?_, fun v => ?_, fun y hy => ?_, fun S hS u v e => ?_⟩
  · have := M.le v
    by_cases z : m v = max (m x.a) (m x.b)
    · rw [mst_hi z]; omega
    · rw [mst_no z]; exact this
  · by_cases z : m v = max (m x.a) (m x.b)
    · rw [mst_hi z]
      have fl : m (min (m x.a) (m x.b)) = min (m x.a) (m x.b) := by
        rcases Nat.le_total (m x.a) (m x.b) with h | h
        · rw [Nat.min_eq_left h]; exact fa
        · rw [Nat.min_eq_right h]; exact fb
      by_cases z2 : m (min (m x.a) (m x.b)) = max (m x.a) (m x.b)
      · rw [mst_hi z2]
      · rw [mst_no z2]; exact fl
    · rw [mst_no z, mst_no (by rw [M.fix]; exact z), M.fix]
  · rcases List.mem_append.mp hy with h | h
    · have e := M.edge y h
      unfold mst
      rw [e]
    · cases List.mem_singleton.mp h
      have pa : mst m x x.a = min (m x.a) (m x.b) := by
        by_cases z : m x.a = max (m x.a) (m x.b)
        · rw [mst_hi z]
        · rw [mst_no z]; omega
      have pb : mst m x x.b = min (m x.a) (m x.b) := by
        by_cases z : m x.b = max (m x.a) (m x.b)
        · rw [mst_hi z]
        · rw [mst_no z]; omega
      rw [pa, pb]
  · have hE : ∀ y ∈ E, (S y.a ↔ S y.b) := fun y hy => hS y (List.mem_append_left _ hy)
    have hx : S x.a ↔ S x.b := hS x (List.mem_append_right _ List.mem_cons_self)
    have mix : ∀ p q, m p = max (m x.a) (m x.b) → m q = min (m x.a) (m x.b) → (S p ↔ S q) := fun p q hp hq => by
      rcases Nat.le_total (m x.a) (m x.b) with h | h
      · rw [Nat.max_eq_right h] at hp
        rw [Nat.min_eq_left h] at hq
        exact (M.fine S hE p x.b hp).trans (hx.symm.trans (M.fine S hE q x.a hq).symm)
      · rw [Nat.max_eq_left h] at hp
        rw [Nat.min_eq_right h] at hq
        exact (M.fine S hE p x.a hp).trans (hx.trans (M.fine S hE q x.b hq).symm)
    by_cases zu : m u = max (m x.a) (m x.b)
    · by_cases zv : m v = max (m x.a) (m x.b)
      · exact M.fine S hE u v (zu.trans zv.symm)
      · rw [mst_hi zu, mst_no zv] at e
        exact mix u v zu e.symm
    · by_cases zv : m v = max (m x.a) (m x.b)
      · rw [mst_no zu, mst_hi zv] at e
        exact (mix v u zv e).symm
      · rw [mst_no zu, mst_no zv] at e
        exact M.fine S hE u v e
theorem fold_ok : ∀ (E E0 : List Ln) (m : Nat → Nat), MrkOk E0 m → MrkOk (E0 ++ E) (E.foldl mst m)
  | [], E0, m, h => by rw [List.append_nil]; exact h
  | x :: E, E0, m, h => by
    have := fold_ok E (E0 ++ [x]) (mst m x) (mst_ok h)
    rw [List.append_assoc] at this
    exact this
theorem mrk_ok (E : List Ln) : MrkOk E (mrk E) := by
  have := fold_ok E [] id ⟨fun v => Nat.le_refl _, fun _ => rfl, nofun, fun S _ u v e => by cases (show u = v from e); exact Iff.rfl⟩
  rwa [List.nil_append] at this
theorem mrk_take {E : List Ln} {i : Nat} (h : i < E.length) : mrk (E.take (i + 1)) = mst (mrk (E.take i)) (E.getD i ln0) := by
  unfold mrk
  rw [List.take_add_one, List.getElem?_eq_getElem h, List.foldl_append, getD_at (List.getElem?_eq_getElem h)]
  rfl
/-- the island of a mark; all islands -/
def compV (V : Nat) (m : Nat → Nat) (v : Nat) : List Nat := (List.range V).filter fun u => decide (m u = v)
def islsTo (V : Nat) (m : Nat → Nat) (i : Nat) : List (List Nat) := ((List.range i).filter fun v => decide (m v = v)).map (compV V m)
abbrev isls (V : Nat) (m : Nat → Nat) : List (List Nat) := islsTo V m V
theorem comp_mem {V : Nat} {m : Nat → Nat} {v u : Nat} : u ∈ compV V m v ↔ u < V ∧ m u = v := by
  unfold compV
  rw [List.mem_filter, List.mem_range]
  exact ⟨fun h => ⟨h.1, of_decide_eq_true h.2⟩, fun h => ⟨h.1, decide_eq_true h.2⟩⟩
theorem comp_nodup {V : Nat} {m : Nat → Nat} {v : Nat} : (compV V m v).Nodup := List.nodup_range.filter _
theorem comp_len {V : Nat} {m : Nat → Nat} {v : Nat} : (compV V m v).length ≤ V := Nat.le_trans (List.length_filter_le _ _) (by rw [List.length_range]; exact Nat.le_refl _)
/-! the growth by passes -/
def pst1 (I : List Nat) (x : Ln) : List Nat := if x.a ∈ I ∧ x.b ∉ I then I ++ [x.b] else I
def pst2 (I : List Nat) (x : Ln) : List Nat := if x.b ∈ I ∧ x.a ∉ I then I ++ [x.a] else I
def pst (I : List Nat) (x : Ln) : List Nat := pst2 (pst1 I x) x
def pass (E : List Ln) (I : List Nat) : List Nat := E.foldl pst I
def itr (E : List Ln) (I : List Nat) : Nat → List Nat
  | 0 => I
  | n + 1 => pass E (itr E I n)
theorem pass_take {E : List Ln} {I : List Nat} {i : Nat} (h : i < E.length) : pass (E.take (i + 1)) I = pst (pass (E.take i) I) (E.getD i ln0) := by
  unfold pass
  rw [List.take_add_one, List.getElem?_eq_getElem h, List.foldl_append, getD_at (List.getElem?_eq_getElem h)]
  rfl
def Cl1 (I : List Nat) (x : Ln) : Prop := x.a ∈ I ↔ x.b ∈ I
def Cl (E : List Ln) (I : List Nat) : Prop := ∀ x ∈ E, Cl1 I x
theorem pst1_len (I : List Nat) (x : Ln) : I.length ≤ (pst1 I x).length := by unfold pst1; split; rw [List.length_append]; omega; exact Nat.le_refl _
theorem pst2_len (I : List Nat) (x : Ln) : I.length ≤ (pst2 I x).length := by unfold pst2; split; rw [List.length_append]; omega; exact Nat.le_refl _
theorem pst_len (I : List Nat) (x : Ln) : I.length ≤ (pst I x).length := Nat.le_trans (pst1_len I x) (pst2_len _ x)
theorem pass_len : ∀ (E : List Ln) (I : List Nat), I.length ≤ (pass E I).length
  | [], I => Nat.le_refl _
  | x :: E, I => Nat.le_trans (pst_len I x) (pass_len E (pst I x))
theorem pst_same {I : List Nat} {x : Ln} (h : (pst I x).length = I.length) : pst I x = I ∧ Cl1 I x := by
  have h1 : pst1 I x = I ∧ ¬ (x.a ∈ I ∧ x.b ∉ I) := by
    by_cases z : x.a ∈ I ∧ x.b ∉ I
    · have e : pst1 I x = I ++ [x.b] := if_pos z
      have := pst2_len (pst1 I x) x
      unfold pst at h
      rw [e, List.length_append] at this
      rw [e] at h
      have q : [x.b].length = 1 := rfl
      omega
    · exact ⟨if_neg z, z⟩
  unfold pst at h ⊢
  rw [h1.1] at h ⊢
  by_cases z : x.b ∈ I ∧ x.a ∉ I
  · have e : pst2 I x = I ++ [x.a] := if_pos z
    rw [e, List.length_append] at h
    have q : [x.a].length = 1 := rfl
    omega
  · refine ⟨if_neg z, fun a => ?_, fun b => ?_⟩
    · exact Classical.byContradiction fun nb => h1.2 ⟨a, nb⟩
    · exact Classical.byContradiction fun na => z ⟨b, na⟩
theorem pst_cl {I : List Nat} {x : Ln} (h : Cl1 I x) : pst I x = I := by
  have e : pst1 I x = I := if_neg fun z => z.2 (h.mp z.1)
  unfold pst
  rw [e]
  exact if_neg fun z => z.2 (h.mpr z.1)
theorem pass_cl : ∀ {E : List Ln} {I : List Nat}, Cl E I → pass E I = I
  | [], _, _ => rfl
  | x :: E, I, h => by
    show pass E (pst I x) = I
    rw [pst_cl (h x List.mem_cons_self)]
    exact pass_cl fun y hy => h y (List.mem_cons_of_mem _ hy)
theorem pass_same : ∀ {E : List Ln} {I : List Nat}, (pass E I).length = I.length → Cl E I
  | [], _, _ => nofun
  | x :: E, I, h => by
    have h1 := pst_len I x
    have h2 := pass_len E (pst I x)
    have h3 : (pass E (pst I x)).length = I.length := h
    obtain ⟨e, c⟩ := pst_same (I := I) (x := x) (by omega)
    rw [e] at h3
    intro y hy
    rcases List.mem_cons.mp hy with q | q
    · rw [q]; exact c
    · exact pass_same h3 y q
theorem itr_cl {E : List Ln} {I : List Nat} : ∀ n, Cl E (itr E I n) ∨ I.length + n ≤ (itr E I n).length
  | 0 => .inr (Nat.le_refl _)
  | n + 1 => by
    rcases itr_cl n with h | h
    · left
      show Cl E (pass E (itr E I n))
      rw [pass_cl h]
      exact h
    · have l := pass_len E (itr E I n)
      by_cases z : (pass E (itr E I n)).length = (itr E I n).length
      · left
        show Cl E (pass E (itr E I n))
        rw [pass_cl (pass_same z)]
        exact pass_same z
      · right
        show _ ≤ (pass E (itr E I n)).length
        omega
structure InI (V : Nat) (m : Nat → Nat) (v : Nat) (I : List Nat) : Prop where
  nd : I.Nodup
  mem : ∀ u ∈ I, u < V ∧ m u = m v
  has : v ∈ I
theorem InI.add {V : Nat} {m : Nat → Nat} {v u : Nat} {I : List Nat} (h : InI V m v I) (hn : u ∉ I) (hu : u < V) (hm : m u = m v) : InI V m v (I ++ [u]) := by
  refine ⟨?_, fun y hy => ?_, List.mem_append_left _ h.has⟩
  · rw [List.nodup_append]
    refine ⟨h.nd, by simp, fun a ha b hb => ?_⟩
    cases List.mem_singleton.mp hb
    exact fun e => hn (e ▸ ha)
  · rcases List.mem_append.mp hy with q | q
    · exact h.mem y q
    · cases List.mem_singleton.mp q
      exact ⟨hu, hm⟩
theorem InI.pst {V : Nat} {m : Nat → Nat} {v : Nat} {I : List Nat} {x : Ln} (h : InI V m v I) (ha : x.a < V) (hb : x.b < V) (e : m x.a = m x.b) : InI V m v (pst I x) := by
  have h1 : InI V m v (pst1 I x) := by
    unfold pst1
    split
    · rename_i z
      exact h.add z.2 hb (e.symm.trans (h.mem _ z.1).2)
    · exact h
  unfold Rl.pst pst2
  split
  · rename_i z
    exact h1.add z.2 ha (e.trans (h1.mem _ z.1).2)
  · exact h1
theorem InI.pass {V : Nat} {m : Nat → Nat} {v : Nat} : ∀ {E : List Ln} {I : List Nat}, InI V m v I → (∀ x ∈ E, x.a < V ∧ x.b < V ∧ m x.a = m x.b) → InI V m v (Rl.pass E I)
  | [], _, h, _ => h
  | x :: E, I, h, hE => InI.pass (E := E) (h.pst (hE x List.mem_cons_self).1 (hE x List.mem_cons_self).2.1 (hE x List.mem_cons_self).2.2) fun y hy => hE y (List.mem_cons_of_mem _ hy)
theorem InI.itr {V : Nat} {m : Nat → Nat} {v : Nat} {E : List Ln} {I : List Nat} (h : InI V m v I) (hE : ∀ x ∈ E, x.a < V ∧ x.b < V ∧ m x.a = m x.b) : ∀ n, InI V m v (itr E I n)
  | 0 => h
  | n + 1 => (InI.itr h hE n).pass hE
theorem perm_mem : ∀ {l1 l2 : List Nat}, l1.Nodup → l2.Nodup → (∀ a, a ∈ l1 ↔ a ∈ l2) → l1.Perm l2
  | [], l2, _, _, h => by
    cases l2 with
    | nil => exact .nil
    | cons b t => exact absurd ((h b).mpr List.mem_cons_self) nofun
  | a :: t, l2, h1, h2, h => by
    have ha : a ∈ l2 := (h a).mp List.mem_cons_self
    have p := List.perm_cons_erase ha
    refine List.Perm.trans ?_ p.symm
    refine .cons a (perm_mem (List.nodup_cons.mp h1).2 (h2.erase a) fun b => ?_)
    rw [h2.mem_erase_iff]
    constructor
    · intro hb
      exact ⟨fun e => (List.nodup_cons.mp h1).1 (e ▸ hb), (h b).mp (List.mem_cons_of_mem _ hb)⟩
    · intro ⟨hn, hb⟩
      rcases List.mem_cons.mp ((h b).mpr hb) with q | q
      · exact absurd q hn
      · exact q
theorem InI.len {V : Nat} {m : Nat → Nat} {v : Nat} {I : List Nat} (h : InI V m v I) : I.length ≤ V := by
  have p : I.Perm ((List.range V).filter fun u => decide (u ∈ I)) := perm_mem h.nd (List.nodup_range.filter _) fun a => by
    rw [List.mem_filter, List.mem_range]
    exact ⟨fun q => ⟨(h.mem a q).1, decide_eq_true q⟩, fun q => of_decide_eq_true q.2⟩
  rw [p.length_eq]
  exact Nat.le_trans (List.length_filter_le _ _) (by rw [List.length_range]; exact Nat.le_refl _)
/-- after as many passes as nodes the island is whole -/
theorem itr_perm {V : Nat} {E : List Ln} (hE : ∀ x ∈ E, x.a < V ∧ x.b < V) {v : Nat} (hv : v < V) (hm : mrk E v = v) : (itr E [v] V).Perm (compV V (mrk E) v) := by
  have M := mrk_ok E
  have I0 : InI V (mrk E) v [v] := ⟨by simp, fun u hu => by cases List.mem_singleton.mp hu; exact ⟨hv, rfl⟩, List.mem_cons_self⟩
  have I := I0.itr (E := E) (fun x hx => ⟨(hE x hx).1, (hE x hx).2, M.edge x hx⟩) V
  have c : Cl E (itr E [v] V) := by
    rcases itr_cl (E := E) (I := [v]) V with h | h
    · exact h
    · have := I.len
      have q : [v].length = 1 := rfl
      omega
  refine perm_mem I.nd comp_nodup fun u => ?_
  rw [comp_mem]
  constructor
  · intro hu
    have := I.mem u hu
    rw [hm] at this
    exact this
  · intro ⟨_, hu⟩
    exact (M.fine (· ∈ itr E [v] V) (fun x hx => c x hx) u v (hu.trans hm.symm)).mpr I.has
theorem itr_len {V : Nat} {E : List Ln} (hE : ∀ x ∈ E, x.a < V ∧ x.b < V) {v : Nat} (hv : v < V) (n : Nat) : (itr E [v] n).length ≤ V := by
  have M := mrk_ok E
  have I0 : InI V (mrk E) v [v] := ⟨by simp, fun u hu => by cases List.mem_singleton.mp hu; exact ⟨hv, rfl⟩, List.mem_cons_self⟩
  exact (I0.itr (E := E) (fun x hx => ⟨(hE x hx).1, (hE x hx).2, M.edge x hx⟩) n).len
theorem pass_le {V : Nat} {E : List Ln} (hE : ∀ x ∈ E, x.a < V ∧ x.b < V) {v : Nat} (hv : v < V) (n i : Nat) : (pass (E.take i) (itr E [v] n)).length ≤ V := by
  have M := mrk_ok E
  have I0 : InI V (mrk E) v [v] := ⟨by simp, fun u hu => by cases List.mem_singleton.mp hu; exact ⟨hv, rfl⟩, List.mem_cons_self⟩
  have hE' : ∀ x ∈ E, x.a < V ∧ x.b < V ∧ mrk E x.a = mrk E x.b := fun x hx => ⟨(hE x hx).1, (hE x hx).2, M.edge x hx⟩
  exact ((I0.itr (E := E) hE' n).pass (E := E.take i) fun x hx => hE' x (List.mem_of_mem_take hx)).len
theorem range_sorted (n : Nat) : (List.range n).Pairwise (· ≤ ·) := List.pairwise_lt_range.imp Nat.le_of_lt
theorem comp_sorted {V : Nat} {m : Nat → Nat} {v : Nat} : (compV V m v).Pairwise (· ≤ ·) := (range_sorted V).filter _
theorem isls_succ {V : Nat} {m : Nat → Nat} {i : Nat} : islsTo V m (i + 1) = islsTo V m i ++ (if m i = i then [compV V m i] else []) := by
  unfold islsTo
  rw [List.range_succ, List.filter_append, List.map_append]
  congr 1
  by_cases z : m i = i
  · rw [if_pos z, List.filter_cons_of_pos (by simp [z])]; rfl
  · rw [if_neg z, List.filter_cons_of_neg (by simp [z])]; rfl
theorem isls_any {V : Nat} {E : List Ln} {i : Nat} (hi : i < V) : ((islsTo V (mrk E) i).any fun I => decide (i ∈ I)) = !decide (mrk E i = i) := by
  have M := mrk_ok E
  by_cases z : mrk E i = i
  · rw [decide_eq_true z]
    refine List.any_eq_false.mpr fun I hI h => ?_
    unfold islsTo at hI
    obtain ⟨v, hv, rfl⟩ := List.mem_map.mp hI
    have h1 := List.mem_range.mp (List.mem_filter.mp hv).1
    have h2 := (comp_mem.mp (of_decide_eq_true h)).2
    omega
  · rw [decide_eq_false z]
    have := M.le i
    refine List.any_eq_true.mpr ⟨compV V (mrk E) (mrk E i), ?_, decide_eq_true (comp_mem.mpr ⟨hi, rfl⟩)⟩
    unfold islsTo
    exact List.mem_map.mpr ⟨mrk E i, List.mem_filter.mpr ⟨List.mem_range.mpr (by omega), decide_eq_true (M.fix i)⟩, rfl⟩
/-- the closed lines -/
def shutL (n : Net) (s : Sta) : List Ln := s.closed.map fun k => n.lines.getD k ln0
def islesOf (n : Net) (s : Sta) : List (List Nat) := isls n.nodes (mrk (shutL n s))
theorem shut_in {n : Net} {s : Sta} (N : NetOk n) (S : StaOk n s) : ∀ x ∈ shutL n s, x.a < n.nodes ∧ x.b < n.nodes := fun x hx => by
  unfold shutL at hx
  obtain ⟨k, hk, rfl⟩ := List.mem_map.mp hx
  have := N.line _ (getD_mem (d := ln0) (S.closed k hk))
  omega
theorem isle_ok {n : Net} {s : Sta} (N : NetOk n) (S : StaOk n s) {isl : List Nat} (h : isl ∈ islesOf n s) : IslOk n s isl := by
  unfold islesOf isls islsTo at h
  obtain ⟨v, hv, rfl⟩ := List.mem_map.mp h
  have h1 := List.mem_range.mp (List.mem_filter.mp hv).1
  have h2 := of_decide_eq_true (List.mem_filter.mp hv).2
  have hin : v ∈ compV n.nodes (mrk (shutL n s)) v := comp_mem.mpr ⟨h1, h2⟩
  refine ⟨⟨List.length_pos_of_mem hin, Nat.le_trans comp_len N.nodes.2⟩, comp_nodup, fun k hk => ?_⟩
  have hx : n.lines.getD k ln0 ∈ shutL n s := List.mem_map.mpr ⟨k, hk, rfl⟩
  have e := (mrk_ok (shutL n s)).edge _ hx
  have b := shut_in N S _ hx
  rw [comp_mem, comp_mem, e]
  exact ⟨fun q => ⟨b.2, q.2⟩, fun q => ⟨b.1, q.2⟩⟩
end Rl
set_option Elab.async false
set_option linter.all false
set_option maxRecDepth 100000
set_option maxHeartbeats 1000000
/-! A layer over the hand layer: what a body does, told by data (a slot holds a datum, or is the address of a thing that may be changed). -/
namespace Rl
open PySem L2

/-! ### heaps -/
/-- from (known Hk, whole H1) to (known Hn, whole H2); only what stands at M is changed; what was there and not known stays out of the known -/
structure Grow (M : List Addr) (Hk H1 Hn H2 : Hp) : Prop where
  kk : Same Hk Hn
  kn : Same Hn H2
  hh : ∀ a o, H1 a = some o → a ∉ M → H2 a = some o
  al : ∀ a o, H1 a = some o → ∃ u, H2 a = some u
  out : ∀ a o, Hk a = none → H1 a = some o → Hn a = none
theorem Grow.refl {M : List Addr} {Hk H : Hp} (h : Same Hk H) : Grow M Hk H Hk H := ⟨Same.refl _, h, fun _ _ e _ => e, fun _ _ e => ⟨_, e⟩, fun _ _ e _ => e⟩
theorem Grow.trans {M : List Addr} {Hk H1 Hn H2 Hm H3 : Hp} (a : Grow M Hk H1 Hn H2) (b : Grow M Hn H2 Hm H3) : Grow M Hk H1 Hm H3 where
  kk := a.kk.trans b.kk
  kn := b.kn
  hh := fun p o e m => b.hh p o (a.hh p o e m) m
  al := fun p o e => let ⟨_, e1⟩ := a.al p o e; b.al p _ e1
  out := fun p o e q => let ⟨_, e1⟩ := a.al p o q; b.out p _ (a.out p o e q) e1
theorem Grow.sub {M M' : List Addr} {Hk H1 Hn H2 : Hp} (a : Grow M Hk H1 Hn H2) (h : ∀ p ∈ M, p ∈ M' ∨ H1 p = none) : Grow M' Hk H1 Hn H2 :=
  ⟨a.kk, a.kn, fun p o e m => a.hh p o e fun z => (h p z).elim m fun q => (by rw [q] at e; cases e), a.al, a.out⟩
theorem Grow.nil {M : List Addr} {Hk H1 Hn H2 : Hp} (a : Grow [] Hk H1 Hn H2) : Grow M Hk H1 Hn H2 := a.sub fun _ h => nomatch h
/-- b changes only what a may, or what is new -/
theorem Grow.then {M M' : List Addr} {Hk H1 Hn H2 Hm H3 : Hp} (a : Grow M Hk H1 Hn H2) (b : Grow M' Hn H2 Hm H3) (h : ∀ p ∈ M', p ∈ M ∨ H1 p = none) : Grow M Hk H1 Hm H3 where
  kk := a.kk.trans b.kk
  kn := b.kn
  hh := fun p o e m => b.hh p o (a.hh p o e m) fun z => (h p z).elim m fun q => by rw [q] at e; cases e
  al := fun p o e => let ⟨_, e1⟩ := a.al p o e; b.al p _ e1
  out := fun p o e q => let ⟨_, e1⟩ := a.al p o q; b.out p _ (a.out p o e q) e1
theorem Grow.fresh {M : List Addr} {Hk H1 Hn H2 : Hp} (a : Grow M Hk H1 Hn H2) {p : Addr} (h : H2 p = none) : H1 p = none := by
  cases q : H1 p with
  | none => rfl
  | some o => obtain ⟨u, e⟩ := a.al p o q; rw [h] at e; cases e
theorem Grow.keep {M : List Addr} {Hk H1 Hn H2 : Hp} (a : Grow M Hk H1 Hn H2) {p : Addr} {o : HO} (hk : Hk p = none) (h : H1 p = some o) : Hn p = none := a.out p o hk h
theorem same_back {H H' : Hp} (e : Same H H') {p : Addr} (h : H' p = none) : H p = none := e.free h
/-- a new object, not known -/
theorem Grow.new {M : List Addr} {Hk H : Hp} {p : Addr} {o : HO} (s : Same Hk H) (h : H p = none) : Grow M Hk H Hk (upd H p o) where
  kk := Same.refl _
  kn := fun a u e => by rw [upd_ne (ne_of_none (s a u e) h)]; exact s a u e
  hh := fun a u e _ => by rw [upd_ne (ne_of_none e h)]; exact e
  al := fun a u e => ⟨u, by rw [upd_ne (ne_of_none e h)]; exact e⟩
  out := fun _ _ e _ => e
/-- a new object becomes known -/
theorem Grow.know {M : List Addr} {Hk H1 Hn H2 : Hp} (g : Grow M Hk H1 Hn H2) {p : Addr} {o : HO} (h1 : H1 p = none) (hn : Hn p = none) (h2 : H2 p = some o) : Grow M Hk H1 (upd Hn p o) H2 where
  kk := fun a u e => by
    have e1 := g.kk a u e
    rw [upd_ne (ne_of_none e1 hn)]; exact e1
  kn := fun a u e => by
    by_cases z : a = p
    · subst z; rw [upd_same] at e; cases e; exact h2
    · rw [upd_ne z] at e; exact g.kn a u e
  hh := g.hh
  al := g.al
  out := fun a u e q => by
    rw [upd_ne (ne_of_none q h1)]; exact g.out a u e q
/-- a write at what may be changed -/
theorem Grow.write {M : List Addr} {Hk H1 Hn H2 : Hp} (g : Grow M Hk H1 Hn H2) {p : Addr} {o : HO} (hn : Hn p = none) (hp : p ∈ M ∨ H1 p = none) : Grow M Hk H1 Hn (upd H2 p o) where
  kk := g.kk
  kn := fun a u e => by rw [upd_ne (ne_of_none e hn)]; exact g.kn a u e
  hh := fun a u e m => by
    have z : a ≠ p := fun z => by
      subst z
      rcases hp with hp | hp
      · exact m hp
      · rw [hp] at e; cases e
    rw [upd_ne z]; exact g.hh a u e m
  al := fun a u e => by
    by_cases z : a = p
    · subst z; exact ⟨o, upd_same⟩
    · obtain ⟨v, q⟩ := g.al a u e
      exact ⟨v, by rw [upd_ne z]; exact q⟩
  out := g.out

/-! ### data -/
/-! a value stands for a datum -/
mutual
inductive Dq (K : PySem.W.Frag) (H : Hp) : V → PyData → Prop
  | non : Dq K H .non .none
  | bl (b : Bool) : Dq K H (.bl b) (.bool b)
  | int (i : Int) : Dq K H (.int i) (.int i)
  | str (x : Str) : Dq K H (.str x) (.str x)
  | lst {a : Addr} {xs : List V} {ds : List PyData} : H a = some (.lst xs) → DqAll K H xs ds → Dq K H (.ref a) (.list ds)
  | tup {a : Addr} {xs : List V} {ds : List PyData} : H a = some (.tup xs) → DqAll K H xs ds → Dq K H (.ref a) (.tuple ds)
inductive DqAll (K : PySem.W.Frag) (H : Hp) : List V → List PyData → Prop
  | nil : DqAll K H [] []
  | cons {v : V} {vs : List V} {d : PyData} {ds : List PyData} : Dq K H v d → DqAll K H vs ds → DqAll K H (v :: vs) (d :: ds)
end
section
variable {K : PySem.W.Frag} {H H' : Hp}
mutual
theorem Dq.mono (e : Same H H') : ∀ (d : PyData) (v : V), Dq K H v d → Dq K H' v d
  | .none, _, h => by cases h; exact .non
  | .bool b, _, h => by cases h; exact .bl b
  | .int i, _, h => by cases h; exact .int i
  | .str x, _, h => by cases h; exact .str x
  | .list ds, _, h => by cases h with | lst hs ha => exact .lst (e _ _ hs) (DqAll.mono e ds _ ha)
  | .tuple ds, _, h => by cases h with | tup hs ha => exact .tup (e _ _ hs) (DqAll.mono e ds _ ha)
  | .dict _, _, h => by cases h
theorem DqAll.mono (e : Same H H') : ∀ (ds : List PyData) (vs : List V), DqAll K H vs ds → DqAll K H' vs ds
  | [], _, h => by cases h; exact .nil
  | d :: ds, _, h => by cases h with | cons h1 h2 => exact .cons (Dq.mono e d _ h1) (DqAll.mono e ds _ h2)
end
mutual
theorem Dq.dp : ∀ (d : PyData) (v : V), Dq K H v d → Dp K H v d
  | .none, _, h => by cases h; exact .non
  | .bool b, _, h => by cases h; exact .bl b
  | .int i, _, h => by cases h; exact .int i
  | .str x, _, h => by cases h; exact .str x
  | .list ds, _, h => by cases h with | lst hs ha => exact .lst (SqL.of hs) (DqAll.dp ds _ ha)
  | .tuple ds, _, h => by cases h with | tup hs ha => exact .tup (SqT.of hs) (DqAll.dp ds _ ha)
  | .dict _, _, h => by cases h
theorem DqAll.dp : ∀ (ds : List PyData) (vs : List V), DqAll K H vs ds → DpAll K H vs ds
  | [], _, h => by cases h; exact .nil
  | d :: ds, _, h => by cases h with | cons h1 h2 => exact .cons (Dq.dp d _ h1) (DqAll.dp ds _ h2)
end
theorem DqAll.length : ∀ {vs : List V} {ds : List PyData}, DqAll K H vs ds → vs.length = ds.length
  | _, _, .nil => rfl
  | _, _, .cons _ h => by rw [List.length_cons, List.length_cons, DqAll.length h]
theorem DqAll.get : ∀ {vs : List V} {ds : List PyData} {i : Nat} {d : PyData}, DqAll K H vs ds → ds[i]? = some d → ∃ v, vs[i]? = some v ∧ Dq K H v d
  | _, _, _, _, .nil, h => by simp at h
  | _, _, 0, _, .cons h _, e => by
    have e' := e
    simp at e'
    subst e'
    exact ⟨_, rfl, h⟩
  | _, _, i + 1, _, .cons _ h, e => by
    obtain ⟨v, e1, h1⟩ := DqAll.get (i := i) h (by simpa using e)
    exact ⟨v, by simpa using e1, h1⟩
theorem DqAll.get' : ∀ {vs : List V} {ds : List PyData} {i : Nat} {v : V}, DqAll K H vs ds → vs[i]? = some v → ∃ d, ds[i]? = some d ∧ Dq K H v d
  | _, _, _, _, .nil, h => by simp at h
  | _, _, 0, _, .cons h _, e => by
    have e' := e
    simp at e'
    subst e'
    exact ⟨_, rfl, h⟩
  | _, _, i + 1, _, .cons _ h, e => by
    obtain ⟨d, e1, h1⟩ := DqAll.get' (i := i) h (by simpa using e)
    exact ⟨d, by simpa using e1, h1⟩
theorem DqAll.app : ∀ {vs us : List V} {ds es : List PyData}, DqAll K H vs ds → DqAll K H us es → DqAll K H (vs ++ us) (ds ++ es)
  | _, _, _, _, .nil, h => h
  | _, _, _, _, .cons h1 h2, h => .cons h1 (DqAll.app h2 h)
theorem DqAll.set : ∀ {vs : List V} {ds : List PyData} {v : V} {d : PyData} (i : Nat), DqAll K H vs ds → Dq K H v d → DqAll K H (vs.set i v) (ds.set i d)
  | _, _, _, _, _, .nil, _ => .nil
  | _, _, _, _, 0, .cons _ h2, h => .cons h h2
  | _, _, _, _, i + 1, .cons h1 h2, h => .cons h1 (DqAll.set i h2 h)
theorem DqAll.take : ∀ {vs : List V} {ds : List PyData} (n : Nat), DqAll K H vs ds → DqAll K H (vs.take n) (ds.take n)
  | _, _, 0, _ => .nil
  | _, _, _ + 1, .nil => .nil
  | _, _, n + 1, .cons h1 h2 => .cons h1 (DqAll.take n h2)
theorem DqAll.drop : ∀ {vs : List V} {ds : List PyData} (n : Nat), DqAll K H vs ds → DqAll K H (vs.drop n) (ds.drop n)
  | _, _, 0, h => h
  | _, _, _ + 1, .nil => .nil
  | _, _, n + 1, .cons _ h2 => DqAll.drop n h2
theorem DqAll.rep : ∀ {vs : List V} {ds : List PyData} (n : Nat), DqAll K H vs ds → DqAll K H (List.replicate n vs).flatten (List.replicate n ds).flatten
  | _, _, 0, _ => .nil
  | _, _, n + 1, h => by
    rw [List.replicate_succ, List.replicate_succ, List.flatten_cons, List.flatten_cons]
    exact h.app (DqAll.rep n h)
end
section
variable {K : PySem.W.Frag} {H H' : Hp}
theorem dp_int {v : V} {i : Int} (h : Dq K H v (.int i)) : v = .int i := by cases h; rfl
theorem dp_bl {v : V} {b : Bool} (h : Dq K H v (.bool b)) : v = .bl b := by cases h; rfl
theorem dp_str {v : V} {x : Str} (h : Dq K H v (.str x)) : v = .str x := by cases h; rfl
theorem dp_non {v : V} (h : Dq K H v .none) : v = .non := by cases h; rfl
theorem dp_list {v : V} {ds : List PyData} (h : Dq K H v (.list ds)) : ∃ a xs, v = .ref a ∧ H a = some (.lst xs) ∧ DqAll K H xs ds := by cases h with | lst hs ha => exact ⟨_, _, rfl, hs, ha⟩
theorem dp_tuple {v : V} {ds : List PyData} (h : Dq K H v (.tuple ds)) : ∃ a xs, v = .ref a ∧ H a = some (.tup xs) ∧ DqAll K H xs ds := by cases h with | tup hs ha => exact ⟨_, _, rfl, hs, ha⟩
/-- lists of ints, of bools -/
abbrev dints (ns : List Int) : List PyData := ns.map .int
abbrev dbls (bs : List Bool) : List PyData := bs.map .bool
theorem dp_ints : ∀ {ns : List Int} {vs : List V}, DqAll K H vs (dints ns) → vs = ns.map V.int
  | [], _, h => by cases h; rfl
  | n :: ns, _, h => by
    cases h with
    | cons h1 h2 => rw [dp_int h1, dp_ints (ns := ns) h2]; rfl
theorem dp_bls : ∀ {bs : List Bool} {vs : List V}, DqAll K H vs (dbls bs) → vs = bs.map V.bl
  | [], _, h => by cases h; rfl
  | n :: ns, _, h => by
    cases h with
    | cons h1 h2 => rw [dp_bl h1, dp_bls (bs := ns) h2]; rfl
end

/-! ### slots, things that may change -/
inductive Sl where
  | un
  | dat (d : PyData)
  | ref (a : Addr)
  | scr (ns : List Int)
def SlOk (K : PySem.W.Frag) (H : Hp) : Sl → V → Prop
  | .un, _ => True
  | .dat d, v => Dq K H v d
  | .ref a, v => v = .ref a
  | .scr ns, v => ∃ a, v = .ref a ∧ SqL K H a (ns.map V.int)
/-- what stands at an address: rd: it is not ours to change; wr: it may be changed; nw: it is new -/
inductive Fl where
  | rd | wr | nw
inductive Mo where
  | lst (ds : List PyData)
  | obj (C : Addr) (fs : List (Str × Sl))
  | dct (kvs : List (Key × PyData))
def MoOk (K : PySem.W.Frag) (Hk H : Hp) (a : Addr) : Mo → Prop
  | .lst ds => ∃ vs, H a = some (.lst vs) ∧ DqAll K Hk vs ds
  | .obj C fs => ∃ dx vs, H a = some (.ins C dx vs) ∧ Paired (fun (p : Str × Sl) (q : Str × V) => p.1 = q.1 ∧ p.2 ≠ .un ∧ SlOk K Hk p.2 q.2) fs vs
  | .dct kvs => ∃ vs, H a = some (.dK vs) ∧ Paired (fun (p : Key × PyData) (q : Key × V) => p.1 = q.1 ∧ Dq K Hk q.2 p.2) kvs vs
structure Me where
  at_ : Addr
  fl : Fl
  mo : Mo
abbrev Ms := List Me
def MsOk (K : PySem.W.Frag) (Hk H : Hp) (ms : Ms) : Prop := ∀ e ∈ ms, Hk e.at_ = none ∧ MoOk K Hk H e.at_ e.mo
def Own (M : List Addr) (H0 : Hp) (ms : Ms) : Prop := ∀ e ∈ ms, match e.fl with
  | .rd => True
  | .wr => e.at_ ∈ M ∨ H0 e.at_ = none
  | .nw => H0 e.at_ = none
structure Sg (K : PySem.W.Frag) (H : Hp) (ε : List Sl) (σ : St) : Prop where
  len : ε.length = σ.length
  ok : ∀ (i : Nat) (s : Sl), ε[i]? = some s → s ≠ .un → ∃ v, σ[i]? = some (some v) ∧ SlOk K H s v
structure Wd (K : PySem.W.Frag) (ε : List Sl) (ms : Ms) (Hk : Hp) (σ : St) (H : Hp) : Prop where
  same : Same Hk H
  sg : Sg K Hk ε σ
  mo : MsOk K Hk H ms
section
variable {K : PySem.W.Frag} {ε : List Sl} {ms : Ms} {Hk H1 Hn H2 : Hp} {σ : St} {M : List Addr}
theorem SlOk.mono {s : Sl} {v : V} (e : Same Hk Hn) (h : SlOk K Hk s v) : SlOk K Hn s v := by
  cases s with
  | un => trivial
  | dat d => exact Dq.mono e d v h
  | ref a => exact h
  | scr ns => obtain ⟨a, h1, h2⟩ := h; exact ⟨a, h1, e.seq h2⟩
theorem Sg.mono (e : Same Hk Hn) (h : Sg K Hk ε σ) : Sg K Hn ε σ := ⟨h.len, fun i s hi hs => let ⟨v, e1, r⟩ := h.ok i s hi hs; ⟨v, e1, r.mono e⟩⟩
theorem paired_mono {α β : Type} {F G : α → β → Prop} {l₁ : List α} {l₂ : List β} (h : Paired F l₁ l₂) (f : ∀ a b, F a b → G a b) : Paired G l₁ l₂ := Paired.mapP h f
theorem MoOk.mono {a : Addr} {o : Mo} (e : Same Hk Hn) (h : MoOk K Hk H1 a o) (k : ∀ u, H1 a = some u → H2 a = some u) : MoOk K Hn H2 a o := by
  cases o with
  | lst ds => obtain ⟨vs, e1, r⟩ := h; exact ⟨vs, k _ e1, DqAll.mono e ds vs r⟩
  | obj C fs => obtain ⟨dx, vs, e1, r⟩ := h; exact ⟨dx, vs, k _ e1, paired_mono r fun p q z => ⟨z.1, z.2.1, z.2.2.mono e⟩⟩
  | dct kvs => obtain ⟨vs, e1, r⟩ := h; exact ⟨vs, k _ e1, paired_mono r fun p q z => ⟨z.1, Dq.mono e _ _ z.2⟩⟩
theorem MoOk.some {a : Addr} {o : Mo} (h : MoOk K Hk H1 a o) : ∃ u, H1 a = some u := by
  cases o with
  | lst ds => obtain ⟨vs, e1, r⟩ := h; exact ⟨_, e1⟩
  | obj C fs => obtain ⟨dx, vs, e1, r⟩ := h; exact ⟨_, e1⟩
  | dct kvs => obtain ⟨vs, e1, r⟩ := h; exact ⟨_, e1⟩
theorem MsOk.grow (h : MsOk K Hk H1 ms) (g : Grow M Hk H1 Hn H2) (hm : ∀ e ∈ ms, e.at_ ∉ M) : MsOk K Hn H2 ms := fun e he => by
  obtain ⟨h1, h2⟩ := h e he
  obtain ⟨u, hu⟩ := h2.some
  exact ⟨g.out _ u h1 hu, h2.mono g.kk fun u hu => g.hh _ u hu (hm e he)⟩
theorem Wd.grow (w : Wd K ε ms Hk σ H1) (g : Grow [] Hk H1 Hn H2) : Wd K ε ms Hn σ H2 := ⟨g.kn, w.sg.mono g.kk, w.mo.grow g fun _ _ => nofun⟩
theorem Sg.set (h : Sg K Hk ε σ) {s : Sl} {v : V} (r : SlOk K Hk s v) (i : Nat) : Sg K Hk (ε.set i s) (σ.set i (some v)) := by
  refine ⟨by rw [List.length_set, List.length_set]; exact h.len, fun j t e ht => ?_⟩
  by_cases z : j = i
  · subst z
    by_cases hl : j < ε.length
    · rw [List.getElem?_set_self hl] at e
      cases e
      exact ⟨v, List.getElem?_set_self (by rw [← h.len]; exact hl), r⟩
    · rw [List.getElem?_eq_none (by rw [List.length_set]; omega)] at e
      cases e
  · rw [List.getElem?_set_ne (fun q => z q.symm)] at e
    obtain ⟨u, e1, r1⟩ := h.ok j t e ht
    exact ⟨u, by rw [List.getElem?_set_ne (fun q => z q.symm)]; exact e1, r1⟩
theorem Wd.set (w : Wd K ε ms Hk σ H1) {s : Sl} {v : V} (r : SlOk K Hk s v) (i : Nat) : Wd K (ε.set i s) ms Hk (σ.set i (some v)) H1 := ⟨w.same, w.sg.set r i, w.mo⟩
end

/-! ### expressions -/
section
variable (K : PySem.W.Frag)
/-- te gives the slot-value s -/
def Ev (te : TE) (ε : List Sl) (ms : Ms) (s : Sl) : Prop := ∀ Hk σ H1, Wd K ε ms Hk σ H1 → ∀ Q : VK, (∀ v Hn H2, Grow [] Hk H1 Hn H2 → SlOk K Hn s v → Q v H2) → te σ H1 Q
def EvB (tt : TT) (ε : List Sl) (ms : Ms) (b : Bool) : Prop := ∀ Hk σ H1, Wd K ε ms Hk σ H1 → ∀ Q : Bool → Hp → Prop, (∀ Hn H2, Grow [] Hk H1 Hn H2 → Q b H2) → tt σ H1 Q
def SlsOk (H : Hp) (ss : List Sl) (vs : List V) : Prop := Paired (SlOk K H) ss vs
def EvA (ta : TA) (ε : List Sl) (ms : Ms) (ss : List Sl) : Prop := ∀ Hk σ H1, Wd K ε ms Hk σ H1 → ∀ Q : List V → Hp → Prop, (∀ vs Hn H2, Grow [] Hk H1 Hn H2 → SlsOk K Hn ss vs → Q vs H2) → ta σ H1 Q
/-- te gives a new thing -/
def EvO (te : TE) (ε : List Sl) (ms : Ms) (P : Addr → Ms → Prop) : Prop := ∀ Hk σ H1, Wd K ε ms Hk σ H1 → ∀ Q : VK,
  (∀ x ms' Hn H2, P x ms' → Grow [] Hk H1 Hn H2 → (∀ e ∈ ms', H1 e.at_ = none) → MsOk K Hn H2 ms' → Q (.ref x) H2) → te σ H1 Q
/-- a new list -/
def NewL (ds : List PyData) : Addr → Ms → Prop := fun x ms' => ms' = [⟨x, .nw, .lst ds⟩]
abbrev EvN (te : TE) (ε : List Sl) (ms : Ms) (ds : List PyData) : Prop := EvO K te ε ms (NewL ds)
def EvP (to : TO) (ε : List Sl) (ms : Ms) (o : Option Int) : Prop := ∀ Hk σ H1, Wd K ε ms Hk σ H1 → ∀ Q : Option Int → Hp → Prop, (∀ Hn H2, Grow [] Hk H1 Hn H2 → Q o H2) → to σ H1 Q
end
section
variable {K : PySem.W.Frag} {ε : List Sl} {ms : Ms} {ta tb te : TE} {r : L2.R2} {s s' : Sl} {d e : PyData} {i j : Int} {b : Bool} {t u : TT}
theorem SlsOk.mono {Hk Hn : Hp} {ss : List Sl} {vs : List V} (e : Same Hk Hn) (h : SlsOk K Hk ss vs) : SlsOk K Hn ss vs := paired_mono h fun _ _ z => z.mono e
theorem ev_var {n : Nat} (h : ε[n]? = some s) (hs : s ≠ .un := by nofun) : Ev K (tVar n) ε ms s := fun Hk σ H1 w Q q => by
  obtain ⟨v, e, r⟩ := w.sg.ok n s h hs
  exact ⟨v, e, q v Hk H1 (.refl w.same) r⟩
theorem ev_int : Ev K (tC (.int i)) ε ms (.dat (.int i)) := fun Hk σ H1 w Q q => q _ Hk H1 (.refl w.same) (.int i)
theorem ev_bl : Ev K (tC (.bl b)) ε ms (.dat (.bool b)) := fun Hk σ H1 w Q q => q _ Hk H1 (.refl w.same) (.bl b)
theorem ev_str {x : Str} : Ev K (tC (.str x)) ε ms (.dat (.str x)) := fun Hk σ H1 w Q q => q _ Hk H1 (.refl w.same) (.str x)
theorem ev_non : Ev K (tC .non) ε ms (.dat .none) := fun Hk σ H1 w Q q => q _ Hk H1 (.refl w.same) .non
theorem Ev.to (h : Ev K te ε ms s) (e : s = s') : Ev K te ε ms s' := e ▸ h
theorem EvB.to {b' : Bool} (h : EvB K t ε ms b) (e : b = b') : EvB K t ε ms b' := e ▸ h
/-- two operands -/
theorem ev_op {s1 s2 : Sl} (ha : Ev K ta ε ms s1) (hb : Ev K tb ε ms s2) (hr : ∀ Hk H v u, Same Hk H → MsOk K Hk H ms → SlOk K Hk s1 v → SlOk K Hk s2 u → ∀ Q : VK, (∀ x Hn H2, Grow [] Hk H Hn H2 → SlOk K Hn s x → Q x H2) → r v u H Q) : Ev K (tOp r ta tb) ε ms s :=
  fun Hk σ H1 w Q q => ha Hk σ H1 w _ fun v Hn H2 g dv => hb Hn σ H2 (w.grow g) _ fun u Hm H3 g2 du =>
    hr Hm H3 v u g2.kn ((w.grow g).grow g2).mo (dv.mono g2.kk) du Q fun x Ho H4 g3 dx => q x Ho H4 (g.trans (g2.trans g3)) dx
theorem ev_rI0 {f : Int → Int → V} (ha : Ev K ta ε ms (.dat (.int i))) (hb : Ev K tb ε ms (.dat (.int j))) (hf : ∀ H, SlOk K H s (f i j)) : Ev K (tOp (rI0 f) ta tb) ε ms s :=
  ev_op ha hb fun Hk H v u sm _ dv du Q q => ⟨i, j, dp_int dv, dp_int du, q _ Hk H (.refl sm) (hf _)⟩
theorem ev_rI {C : Int → Int → Prop} {f : Int → Int → V} (ha : Ev K ta ε ms (.dat (.int i))) (hb : Ev K tb ε ms (.dat (.int j))) (hc : C i j) (hf : ∀ H, SlOk K H s (f i j)) : Ev K (tOp (rI C f) ta tb) ε ms s :=
  ev_op ha hb fun Hk H v u sm _ dv du Q q => ⟨i, j, dp_int dv, dp_int du, hc, q _ Hk H (.refl sm) (hf _)⟩
theorem ev_add (ha : Ev K ta ε ms (.dat (.int i))) (hb : Ev K tb ε ms (.dat (.int j))) : Ev K (tOp (rI0 fun i j => .int (i + j)) ta tb) ε ms (.dat (.int (i + j))) := ev_rI0 ha hb fun _ => .int _
theorem ev_sub (ha : Ev K ta ε ms (.dat (.int i))) (hb : Ev K tb ε ms (.dat (.int j))) : Ev K (tOp (rI0 fun i j => .int (i - j)) ta tb) ε ms (.dat (.int (i - j))) := ev_rI0 ha hb fun _ => .int _
theorem ev_mul (ha : Ev K ta ε ms (.dat (.int i))) (hb : Ev K tb ε ms (.dat (.int j))) (hc : CMulW i j) : Ev K (tOp (rI CMulW fun i j => .int (i * j)) ta tb) ε ms (.dat (.int (i * j))) := ev_rI ha hb hc fun _ => .int _
theorem ev_div (ha : Ev K ta ε ms (.dat (.int i))) (hb : Ev K tb ε ms (.dat (.int j))) (hc : CDivW i j) : Ev K (tOp (rI CDivW fun i j => .int (i / j)) ta tb) ε ms (.dat (.int (i / j))) := ev_rI ha hb hc fun _ => .int _
theorem ev_mod (ha : Ev K ta ε ms (.dat (.int i))) (hb : Ev K tb ε ms (.dat (.int j))) (hc : 0 < j) : Ev K (tOp (rI (fun _ j => 0 < j) fun i j => .int (i % j)) ta tb) ε ms (.dat (.int (i % j))) := ev_rI ha hb hc fun _ => .int _
theorem ev_pow (ha : Ev K ta ε ms (.dat (.int i))) (hb : Ev K tb ε ms (.dat (.int j))) (hc : CPow i j) : Ev K (tOp (rI CPow fun i j => .int (i ^ j.toNat)) ta tb) ε ms (.dat (.int (i ^ j.toNat))) := ev_rI ha hb hc fun _ => .int _
theorem ev_lt (ha : Ev K ta ε ms (.dat (.int i))) (hb : Ev K tb ε ms (.dat (.int j))) : Ev K (tOp (rI0 fun i j => .bl (decide (i < j))) ta tb) ε ms (.dat (.bool (decide (i < j)))) := ev_rI0 ha hb fun _ => .bl _
theorem ev_le (ha : Ev K ta ε ms (.dat (.int i))) (hb : Ev K tb ε ms (.dat (.int j))) : Ev K (tOp (rI0 fun i j => .bl (decide (i ≤ j))) ta tb) ε ms (.dat (.bool (decide (i ≤ j)))) := ev_rI0 ha hb fun _ => .bl _
theorem ev_gt (ha : Ev K ta ε ms (.dat (.int i))) (hb : Ev K tb ε ms (.dat (.int j))) : Ev K (tOp (rI0 fun i j => .bl (decide (j < i))) ta tb) ε ms (.dat (.bool (decide (j < i)))) := ev_rI0 ha hb fun _ => .bl _
theorem ev_ge (ha : Ev K ta ε ms (.dat (.int i))) (hb : Ev K tb ε ms (.dat (.int j))) : Ev K (tOp (rI0 fun i j => .bl (decide (j ≤ i))) ta tb) ε ms (.dat (.bool (decide (j ≤ i)))) := ev_rI0 ha hb fun _ => .bl _
/-- == of ints -/
theorem ev_eqI (ha : Ev K ta ε ms (.dat (.int i))) (hb : Ev K tb ε ms (.dat (.int j))) : Ev K (tOp rEq ta tb) ε ms (.dat (.bool (decide (i = j)))) :=
  ev_op ha hb fun Hk H v u sm _ dv du Q q => by
    rw [dp_int dv, dp_int du]
    refine ⟨rfl, ?_⟩
    have h : decide (V.int i = V.int j) = decide (i = j) := by
      by_cases z : i = j
      · subst z; simp
      · rw [decide_eq_false z, decide_eq_false fun e => z (V.int.inj e)]
    rw [h]
    exact q _ Hk H (.refl sm) (.bl _)
theorem ev_neI (ha : Ev K ta ε ms (.dat (.int i))) (hb : Ev K tb ε ms (.dat (.int j))) : Ev K (tOp rNe ta tb) ε ms (.dat (.bool (!decide (i = j)))) :=
  ev_op ha hb fun Hk H v u sm _ dv du Q q => by
    rw [dp_int dv, dp_int du]
    refine ⟨rfl, ?_⟩
    have h : decide (V.int i = V.int j) = decide (i = j) := by
      by_cases z : i = j
      · subst z; simp
      · rw [decide_eq_false z, decide_eq_false fun e => z (V.int.inj e)]
    rw [h]
    exact q _ Hk H (.refl sm) (.bl _)
/-- == of texts -/
theorem ev_eqS {x y : Str} (ha : Ev K ta ε ms (.dat (.str x))) (hb : Ev K tb ε ms (.dat (.str y))) : Ev K (tOp rEq ta tb) ε ms (.dat (.bool (decide (x = y)))) :=
  ev_op ha hb fun Hk H v u sm _ dv du Q q => by
    rw [dp_str dv, dp_str du]
    refine ⟨rfl, ?_⟩
    have h : decide (V.str x = V.str y) = decide (x = y) := by
      by_cases z : x = y
      · subst z; simp
      · rw [decide_eq_false z, decide_eq_false fun e => z (V.str.inj e)]
    rw [h]
    exact q _ Hk H (.refl sm) (.bl _)
theorem ev_neS {x y : Str} (ha : Ev K ta ε ms (.dat (.str x))) (hb : Ev K tb ε ms (.dat (.str y))) : Ev K (tOp rNe ta tb) ε ms (.dat (.bool (!decide (x = y)))) :=
  ev_op ha hb fun Hk H v u sm _ dv du Q q => by
    rw [dp_str dv, dp_str du]
    refine ⟨rfl, ?_⟩
    have h : decide (V.str x = V.str y) = decide (x = y) := by
      by_cases z : x = y
      · subst z; simp
      · rw [decide_eq_false z, decide_eq_false fun e => z (V.str.inj e)]
    rw [h]
    exact q _ Hk H (.refl sm) (.bl _)
/-- != of bools -/
theorem ev_neB {x y : Bool} (ha : Ev K ta ε ms (.dat (.bool x))) (hb : Ev K tb ε ms (.dat (.bool y))) : Ev K (tOp rNe ta tb) ε ms (.dat (.bool (!decide (x = y)))) :=
  ev_op ha hb fun Hk H v u sm _ dv du Q q => by
    rw [dp_bl dv, dp_bl du]
    refine ⟨rfl, ?_⟩
    have h : decide (V.bl x = V.bl y) = decide (x = y) := by
      by_cases z : x = y
      · subst z; simp
      · rw [decide_eq_false z, decide_eq_false fun e => z (V.bl.inj e)]
    rw [h]
    exact q _ Hk H (.refl sm) (.bl _)
/-- == of data -/
theorem ev_eqD (ha : Ev K ta ε ms (.dat d)) (hb : Ev K tb ε ms (.dat e)) (h1 : SeqAt.shaped d = true) (h2 : SeqAt.shaped e = true) : Ev K (tOp (rEqD K) ta tb) ε ms (.dat (.bool (PyData.eqv d e))) :=
  ev_op ha hb fun Hk H v u sm _ dv du Q q => ⟨d, e, Dq.dp d v (Dq.mono sm d v dv), Dq.dp e u (Dq.mono sm e u du), h1, h2, q _ Hk H (.refl sm) (.bl _)⟩
theorem ev_neD (ha : Ev K ta ε ms (.dat d)) (hb : Ev K tb ε ms (.dat e)) (h1 : SeqAt.shaped d = true) (h2 : SeqAt.shaped e = true) : Ev K (tOp (rNeD K) ta tb) ε ms (.dat (.bool (!PyData.eqv d e))) :=
  ev_op ha hb fun Hk H v u sm _ dv du Q q => ⟨d, e, Dq.dp d v (Dq.mono sm d v dv), Dq.dp e u (Dq.mono sm e u du), h1, h2, q _ Hk H (.refl sm) (.bl _)⟩
theorem ev_isB {x y : Bool} (ha : Ev K ta ε ms (.dat (.bool x))) (hb : Ev K tb ε ms (.dat (.bool y))) : Ev K (tOp rIsB ta tb) ε ms (.dat (.bool (decide (x = y)))) :=
  ev_op ha hb fun Hk H v u sm _ dv du Q q => ⟨x, y, dp_bl dv, dp_bl du, q _ Hk H (.refl sm) (.bl _)⟩
theorem ev_neg (ha : Ev K ta ε ms (.dat (.int i))) : Ev K (tUn (rU fun i => .int (-i)) ta) ε ms (.dat (.int (-i))) := fun Hk σ H1 w Q q =>
  ha Hk σ H1 w _ fun v Hn H2 g dv => ⟨i, dp_int dv, q _ Hn H2 g (.int _)⟩
/-- an item -/
theorem atI_data {H : Hp} {vs : List V} {ds : List PyData} (h : DqAll K H vs ds) (e : atI ds i = some d) : ∃ v, atI vs i = some v ∧ Dq K H v d := by
  unfold atI at e ⊢
  rw [h.length]
  cases q : ixN ds.length i with
  | none => rw [q] at e; cases e
  | some j =>
    rw [q] at e
    exact h.get e
theorem ev_ixL {ds : List PyData} (ha : Ev K ta ε ms (.dat (.list ds))) (hb : Ev K tb ε ms (.dat (.int i))) (e : atI ds i = some d) : Ev K (tOp (rIxL K) ta tb) ε ms (.dat d) :=
  ev_op ha hb fun Hk H v u sm _ dv du Q q => by
    obtain ⟨a, xs, rfl, hs, hd⟩ := dp_list dv
    obtain ⟨x, e1, dx⟩ := atI_data hd e
    exact ⟨a, xs, i, x, rfl, dp_int du, SqL.of (sm _ _ hs), e1, q x Hk H (.refl sm) dx⟩
theorem ev_ixT {ds : List PyData} (ha : Ev K ta ε ms (.dat (.tuple ds))) (hb : Ev K tb ε ms (.dat (.int i))) (e : atI ds i = some d) : Ev K (tOp (rIxT K) ta tb) ε ms (.dat d) :=
  ev_op ha hb fun Hk H v u sm _ dv du Q q => by
    obtain ⟨a, xs, rfl, hs, hd⟩ := dp_tuple dv
    obtain ⟨x, e1, dx⟩ := atI_data hd e
    exact ⟨a, xs, i, x, rfl, dp_int du, SqT.of (sm _ _ hs), e1, q x Hk H (.refl sm) dx⟩
/-- .. of a list that may change -/
theorem ev_ixM {a : Addr} {fl : Fl} {ds : List PyData} (ha : Ev K ta ε ms (.ref a)) (hb : Ev K tb ε ms (.dat (.int i))) (hm : ⟨a, fl, .lst ds⟩ ∈ ms) (e : atI ds i = some d) : Ev K (tOp (rIxL K) ta tb) ε ms (.dat d) :=
  ev_op ha hb fun Hk H v u sm mo dv du Q q => by
    obtain ⟨_, vs, hv, hd⟩ := mo _ hm
    obtain ⟨x, e1, dx⟩ := atI_data hd e
    exact ⟨a, vs, i, x, dv, dp_int du, SqL.of hv, e1, q x Hk H (.refl sm) dx⟩
/-- arguments -/
theorem ea_nil : EvA K tNil ε ms [] := fun Hk σ H1 w Q q => q [] Hk H1 (.refl w.same) .nil
theorem ea_cons {tr : TA} {ss : List Sl} (ha : Ev K ta ε ms s) (hr : EvA K tr ε ms ss) : EvA K (tCons ta tr) ε ms (s :: ss) := fun Hk σ H1 w Q q =>
  ha Hk σ H1 w _ fun v Hn H2 g dv => hr Hn σ H2 (w.grow g) _ fun vs Hm H3 g2 dvs => q _ Hm H3 (g.trans g2) (.cons (dv.mono g2.kk) dvs)
theorem ea1 (ha : Ev K ta ε ms s) : EvA K (tCons ta tNil) ε ms [s] := ea_cons ha ea_nil
theorem ea2 {s2 : Sl} (ha : Ev K ta ε ms s) (hb : Ev K tb ε ms s2) : EvA K (tCons ta (tCons tb tNil)) ε ms [s, s2] := ea_cons ha (ea1 hb)
theorem slsOk_data {H : Hp} : ∀ {ds : List PyData} {vs : List V}, SlsOk K H (ds.map .dat) vs → DqAll K H vs ds
  | [], _, h => by cases h; exact .nil
  | d :: ds, _, h => by
    cases h with
    | cons h1 h2 => exact .cons h1 (slsOk_data h2)
theorem ev_tup {ta : TA} {ds : List PyData} (h : EvA K ta ε ms (ds.map .dat)) (hl : ds.length ≤ 100000 := by exact Nat.le_of_ble_eq_true rfl) : Ev K (tTup ta) ε ms (.dat (.tuple ds)) := fun Hk σ H1 w Q q =>
  h Hk σ H1 w _ fun vs Hn H2 g dvs => by
    have dd := slsOk_data dvs
    refine ⟨Nat.le_trans (by rw [dd.length]; exact hl) (by decide), fun p hp => ?_⟩
    have g2 : Grow [] Hk H1 (upd Hn p (.tup vs)) (upd H2 p (.tup vs)) := (g.trans (Grow.new g.kn hp)).know (g.fresh hp) (same_back g.kn hp) upd_same
    exact q _ _ _ g2 (.tup upd_same (DqAll.mono (fun a u e => by rw [upd_ne (ne_of_none e (same_back g.kn hp))]; exact e) ds vs dd))
theorem en_lst {ta : TA} {ds : List PyData} (h : EvA K ta ε ms (ds.map .dat)) (hl : ds.length ≤ 100000 := by exact Nat.le_of_ble_eq_true rfl) : EvN K (tLst ta) ε ms ds := fun Hk σ H1 w Q q =>
  h Hk σ H1 w _ fun vs Hn H2 g dvs => by
    have dd := slsOk_data dvs
    refine ⟨Nat.le_trans (by rw [dd.length]; exact hl) (by decide), fun p hp => ?_⟩
    refine q p _ Hn _ rfl (g.trans (Grow.new g.kn hp)) (fun e he => ?_) fun e he => ?_
    · cases List.mem_singleton.mp he
      exact g.fresh hp
    · cases List.mem_singleton.mp he
      exact ⟨same_back g.kn hp, vs, upd_same, dd⟩
/-- a new list, known from now on -/
theorem EvO.know {ds : List PyData} (h : EvN K te ε ms ds) : Ev K te ε ms (.dat (.list ds)) := fun Hk σ H1 w Q q =>
  h Hk σ H1 w Q fun x ms' Hn H2 hp g hf hm => by
    have hp' : ms' = [⟨x, .nw, .lst ds⟩] := hp
    subst hp'
    obtain ⟨hn, vs, hv, dd⟩ := hm _ (List.mem_singleton.mpr rfl)
    have f := hf _ (List.mem_singleton.mpr rfl)
    exact q _ _ _ (g.know f hn hv) (.lst upd_same (DqAll.mono (fun a u e => by rw [upd_ne (ne_of_none e hn)]; exact e) ds vs dd))
theorem ev_lst {ta : TA} {ds : List PyData} (h : EvA K ta ε ms (ds.map .dat)) (hl : ds.length ≤ 100000 := by exact Nat.le_of_ble_eq_true rfl) : Ev K (tLst ta) ε ms (.dat (.list ds)) := (en_lst h hl).know
/-- slices -/
theorem ep_none : EvP K tNoPart ε ms none := fun Hk σ H1 w Q q => q Hk H1 (.refl w.same)
theorem ep_some (h : Ev K te ε ms (.dat (.int i))) : EvP K (tPart te) ε ms (some i) := fun Hk σ H1 w Q q => h Hk σ H1 w _ fun v Hn H2 g dv => ⟨i, dp_int dv, q Hn H2 g⟩
def cutD (xs : List PyData) (lo hi : Option Int) : List PyData := (xs.drop (HT.sIx xs.length 0 lo)).take (HT.sIx xs.length xs.length hi - HT.sIx xs.length 0 lo)
theorem cut_data {H : Hp} {vs : List V} {ds : List PyData} (h : DqAll K H vs ds) (lo hi : Option Int) : DqAll K H (cutV vs lo hi) (cutD ds lo hi) := by
  unfold cutV cutD
  rw [h.length]
  exact (h.drop _).take _
theorem en_sl {tl th : TO} {ds : List PyData} {lo hi : Option Int} (h : Ev K te ε ms (.dat (.list ds))) (h1 : EvP K tl ε ms lo) (h2 : EvP K th ε ms hi) : EvN K (tSl (rSlL K) te tl th) ε ms (cutD ds lo hi) := fun Hk σ H1 w Q q =>
  h Hk σ H1 w _ fun v Hn H2 g dv => h1 Hn σ H2 (w.grow g) _ fun Hm H3 g2 => h2 Hm σ H3 ((w.grow g).grow g2) _ fun Ho H4 g3 => by
    obtain ⟨a, xs, rfl, hs, hd⟩ := dp_list (Dq.mono (g2.kk.trans g3.kk) _ _ dv)
    refine ⟨a, xs, rfl, SqL.of (g3.kn _ _ hs), fun p hp => ?_⟩
    have G := g.trans (g2.trans g3)
    refine q p _ Ho _ rfl (G.trans (Grow.new G.kn hp)) (fun e he => ?_) fun e he => ?_
    · cases List.mem_singleton.mp he
      exact G.fresh hp
    · cases List.mem_singleton.mp he
      exact ⟨same_back G.kn hp, _, upd_same, cut_data hd lo hi⟩
theorem en_slM {tl th : TO} {a : Addr} {fl : Fl} {ds : List PyData} {lo hi : Option Int} (h : Ev K te ε ms (.ref a)) (hm : ⟨a, fl, .lst ds⟩ ∈ ms) (h1 : EvP K tl ε ms lo) (h2 : EvP K th ε ms hi) : EvN K (tSl (rSlL K) te tl th) ε ms (cutD ds lo hi) := fun Hk σ H1 w Q q =>
  h Hk σ H1 w _ fun v Hn H2 g dv => h1 Hn σ H2 (w.grow g) _ fun Hm H3 g2 => h2 Hm σ H3 ((w.grow g).grow g2) _ fun Ho H4 g3 => by
    have dv' : v = .ref a := dv
    obtain ⟨_, vs, hv, hd⟩ := (((w.grow g).grow g2).grow g3).mo _ hm
    refine ⟨a, vs, dv', SqL.of hv, fun p hp => ?_⟩
    have G := g.trans (g2.trans g3)
    refine q p _ Ho _ rfl (G.trans (Grow.new G.kn hp)) (fun e he => ?_) fun e he => ?_
    · cases List.mem_singleton.mp he
      exact G.fresh hp
    · cases List.mem_singleton.mp he
      exact ⟨same_back G.kn hp, _, upd_same, cut_data hd lo hi⟩
/-- tests -/
theorem eb_test (h : Ev K te ε ms (.dat (.bool b))) : EvB K (tTest te) ε ms b := fun Hk σ H1 w Q q => h Hk σ H1 w _ fun v Hn H2 g dv => ⟨b, dp_bl dv, q Hn H2 g⟩
theorem eb_B (h : Ev K te ε ms (.dat (.bool b))) : EvB K (tB te) ε ms b := fun Hk σ H1 w Q q => h Hk σ H1 w _ fun v Hn H2 g dv => ⟨b, dp_bl dv, q Hn H2 g⟩
theorem eb_and {c : Bool} (h1 : EvB K t ε ms b) (h2 : b = true → EvB K u ε ms c) : EvB K (tAnd t u) ε ms (b && c) := fun Hk σ H1 w Q q => h1 Hk σ H1 w _ fun Hn H2 g => by
  cases b with
  | true => exact iteT (h2 rfl Hn σ H2 (w.grow g) Q fun Hm H3 g2 => q Hm H3 (g.trans g2))
  | false => exact iteF (q Hn H2 g)
theorem eb_or {c : Bool} (h1 : EvB K t ε ms b) (h2 : b = false → EvB K u ε ms c) : EvB K (tOr t u) ε ms (b || c) := fun Hk σ H1 w Q q => h1 Hk σ H1 w _ fun Hn H2 g => by
  cases b with
  | true => exact iteT (q Hn H2 g)
  | false => exact iteF (h2 rfl Hn σ H2 (w.grow g) Q fun Hm H3 g2 => q Hm H3 (g.trans g2))
theorem eb_not (h1 : EvB K t ε ms b) : EvB K (tNot t) ε ms (!b) := fun Hk σ H1 w Q q => h1 Hk σ H1 w _ fun Hn H2 g => q Hn H2 g
theorem eb_yes : EvB K tYes ε ms true := fun Hk σ H1 w Q q => q Hk H1 (.refl w.same)
theorem ev_and {c : Bool} (h1 : Ev K ta ε ms (.dat (.bool b))) (h2 : b = true → Ev K tb ε ms (.dat (.bool c))) : Ev K (tAndV ta tb) ε ms (.dat (.bool (b && c))) := fun Hk σ H1 w Q q => h1 Hk σ H1 w _ fun v Hn H2 g dv => ⟨b, dp_bl dv, by
  cases b with
  | true => exact iteT (h2 rfl Hn σ H2 (w.grow g) Q fun x Hm H3 g2 dx => q x Hm H3 (g.trans g2) dx)
  | false => exact iteF (q _ Hn H2 g (.bl false))⟩
theorem ev_or {c : Bool} (h1 : Ev K ta ε ms (.dat (.bool b))) (h2 : b = false → Ev K tb ε ms (.dat (.bool c))) : Ev K (tOrV ta tb) ε ms (.dat (.bool (b || c))) := fun Hk σ H1 w Q q => h1 Hk σ H1 w _ fun v Hn H2 g dv => ⟨b, dp_bl dv, by
  cases b with
  | true => exact iteT (q _ Hn H2 g (.bl true))
  | false => exact iteF (h2 rfl Hn σ H2 (w.grow g) Q fun x Hm H3 g2 dx => q x Hm H3 (g.trans g2) dx)⟩
theorem ev_not (h1 : Ev K ta ε ms (.dat (.bool b))) : Ev K (tNotV ta) ε ms (.dat (.bool (!b))) := fun Hk σ H1 w Q q => h1 Hk σ H1 w _ fun v Hn H2 g dv => ⟨b, dp_bl dv, q _ Hn H2 g (.bl _)⟩
theorem ev_if (h : EvB K t ε ms b) (h1 : b = true → Ev K ta ε ms s) (h2 : b = false → Ev K tb ε ms s) : Ev K (tIf t ta tb) ε ms s := fun Hk σ H1 w Q q => h Hk σ H1 w _ fun Hn H2 g => by
  cases b with
  | true => exact iteT (h1 rfl Hn σ H2 (w.grow g) Q fun x Hm H3 g2 dx => q x Hm H3 (g.trans g2) dx)
  | false => exact iteF (h2 rfl Hn σ H2 (w.grow g) Q fun x Hm H3 g2 dx => q x Hm H3 (g.trans g2) dx)
/-- a call of a built-in, by its values -/
theorem ev_cb {rr : List V → Hp → VK → Prop} {ta : TA} {ss : List Sl} (h : EvA K ta ε ms ss) (hr : ∀ Hk H vs, Same Hk H → MsOk K Hk H ms → SlsOk K Hk ss vs → ∀ Q : VK, (∀ x Hn H2, Grow [] Hk H Hn H2 → SlOk K Hn s x → Q x H2) → rr vs H Q) : Ev K (tCB rr ta) ε ms s :=
  fun Hk σ H1 w Q q => h Hk σ H1 w _ fun vs Hn H2 g dvs => hr Hn H2 vs g.kn (w.grow g).mo dvs Q fun x Hm H3 g2 dx => q x Hm H3 (g.trans g2) dx
theorem en_cb {rr : List V → Hp → VK → Prop} {ta : TA} {ss : List Sl} {P : Addr → Ms → Prop} (h : EvA K ta ε ms ss) (hr : ∀ Hk H vs, Same Hk H → MsOk K Hk H ms → SlsOk K Hk ss vs → ∀ Q : VK, (∀ x ms' Hn H2, P x ms' → Grow [] Hk H Hn H2 → (∀ e ∈ ms', H e.at_ = none) → MsOk K Hn H2 ms' → Q (.ref x) H2) → rr vs H Q) : EvO K (tCB rr ta) ε ms P :=
  fun Hk σ H1 w Q q => h Hk σ H1 w _ fun vs Hn H2 g dvs => hr Hn H2 vs g.kn (w.grow g).mo dvs Q fun x ms' Hm H3 hp g2 hf hm => q x ms' Hm H3 hp (g.trans g2) (fun e he => g.fresh (hf e he)) hm
theorem sls1 {H : Hp} {vs : List V} (h : SlsOk K H [s] vs) : ∃ v, vs = [v] ∧ SlOk K H s v := by
  cases h with
  | cons h1 h2 => cases h2; exact ⟨_, rfl, h1⟩
theorem sls2 {H : Hp} {vs : List V} {s2 : Sl} (h : SlsOk K H [s, s2] vs) : ∃ v v2, vs = [v, v2] ∧ SlOk K H s v ∧ SlOk K H s2 v2 := by
  cases h with
  | cons h1 h2 => cases h2 with | cons h2 h3 => cases h3; exact ⟨_, _, rfl, h1, h2⟩
end
end Rl
set_option Elab.async false
set_option linter.all false
set_option maxRecDepth 100000
set_option maxHeartbeats 1000000
/-! The data layer, part 2: statements, loops, comprehensions, contracts, objects. -/
namespace Rl
open PySem L2
/-! ### what is walked -/
/-- J walks the data ds while what is known stands -/
def ItOk (K : PySem.W.Frag) (J : It) (Hn : Hp) (ds : List PyData) : Prop := ∃ (n : Nat) (G : Hp → Prop) (Y : Nat → Hp → V → Hp → Prop), Walk J n G Y ∧ n = ds.length ∧ (∀ H, Same Hn H → G H) ∧
  ∀ i d Hm H x H', ds[i]? = some d → Same Hn Hm → Same Hm H → Y i H x H' → ∃ Hm', Grow [] Hm H Hm' H' ∧ Dq K Hm' x d
def EvI (K : PySem.W.Frag) (wi : TI) (ε : List Sl) (ms : Ms) (ds : List PyData) : Prop := ∀ Hk σ H1, Wd K ε ms Hk σ H1 → ∀ R : It → Hp → Prop, (∀ J Hn H2, Grow [] Hk H1 Hn H2 → ItOk K J Hn ds → R J H2) → wi σ H1 R
section
variable {K : PySem.W.Frag} {ε : List Sl} {ms : Ms} {ta tb te tl : TE} {ds es : List PyData}
theorem ei_list (h : Ev K tl ε ms (.dat (.list ds))) : EvI K (iList K tl) ε ms ds := fun Hk σ H1 w R q => h Hk σ H1 w _ fun v Hn H2 g dv => by
  obtain ⟨a, xs, rfl, hs, hd⟩ := dp_list dv
  refine ⟨a, rfl, ⟨xs, SqL.of (g.kn _ _ hs)⟩, q _ Hn H2 g ⟨xs.length, _, _, walk_list, hd.length, fun H e => SqL.of (e _ _ hs), fun i d Hm H x H' e s1 s2 y => ?_⟩⟩
  obtain ⟨rfl, y⟩ := y
  obtain ⟨d', e', r⟩ := hd.get' y
  rw [e] at e'; cases e'
  exact ⟨Hm, .refl s2, Dq.mono s1 _ _ r⟩
theorem ei_tup (h : Ev K tl ε ms (.dat (.tuple ds))) : EvI K (iTup K tl) ε ms ds := fun Hk σ H1 w R q => h Hk σ H1 w _ fun v Hn H2 g dv => by
  obtain ⟨a, xs, rfl, hs, hd⟩ := dp_tuple dv
  refine ⟨a, rfl, ⟨xs, SqT.of (g.kn _ _ hs)⟩, q _ Hn H2 g ⟨xs.length, _, _, walk_tup, hd.length, fun H e => SqT.of (e _ _ hs), fun i d Hm H x H' e s1 s2 y => ?_⟩⟩
  obtain ⟨rfl, y⟩ := y
  obtain ⟨d', e', r⟩ := hd.get' y
  rw [e] at e'; cases e'
  exact ⟨Hm, .refl s2, Dq.mono s1 _ _ r⟩
/-- the numbers from lo on, n of them -/
def nums (lo : Int) (n : Nat) : List PyData := (List.range n).map fun i => .int (lo + (i : Nat))
theorem nums_len (lo : Int) (n : Nat) : (nums lo n).length = n := by unfold nums; rw [List.length_map, List.length_range]
theorem nums_get {lo : Int} {n i : Nat} {d : PyData} (h : (nums lo n)[i]? = some d) : i < n ∧ d = .int (lo + (i : Nat)) := by
  unfold nums at h
  rw [List.getElem?_map] at h
  cases q : (List.range n)[i]? with
  | none => rw [q] at h; cases h
  | some j =>
    rw [q] at h
    have h1 := List.getElem?_eq_some_iff.mp q
    obtain ⟨h2, h3⟩ := h1
    rw [List.length_range] at h2
    rw [List.getElem_range] at h3
    subst h3
    exact ⟨h2, (Option.some.inj h).symm⟩
theorem itok_range {Hn : Hp} {lo : Int} {n : Nat} : ItOk K (Itr lo n) Hn (nums lo n) := by
  refine ⟨n, _, _, walk_range, (nums_len lo n).symm, fun _ _ => trivial, fun i d Hm H x H' e s1 s2 y => ?_⟩
  obtain ⟨rfl, rfl⟩ := y
  obtain ⟨_, rfl⟩ := nums_get e
  exact ⟨Hm, .refl s2, .int _⟩
theorem ei_range1 {ta : TA} {n : Nat} (h : EvA K ta ε ms [.dat (.int (n : Nat))]) (hn : n ≤ 1000000000) : EvI K (iRng1 ta) ε ms (nums 0 n) := fun Hk σ H1 w R q => h Hk σ H1 w _ fun vs Hn H2 g dvs => by
  obtain ⟨v, rfl, hv⟩ := sls1 dvs
  have e : v = .int (n : Nat) := dp_int hv
  subst e
  refine ⟨(n : Nat), rfl, by omega, by omega, ?_⟩
  have e2 : ((n : Nat) : Int).toNat = n := by omega
  rw [e2]
  exact q _ Hn H2 g itok_range
theorem ei_range2 {ta : TA} {lo hi : Int} (h : EvA K ta ε ms [.dat (.int lo), .dat (.int hi)]) (hn : -1000000000 ≤ lo ∧ lo ≤ 1000000000 ∧ -1000000000 ≤ hi ∧ hi ≤ 1000000000) : EvI K (iRng2 ta) ε ms (nums lo (hi - lo).toNat) := fun Hk σ H1 w R q => h Hk σ H1 w _ fun vs Hn H2 g dvs => by
  obtain ⟨v, u, rfl, hv, hu⟩ := sls2 dvs
  have e1 : v = .int lo := dp_int hv
  have e2 : u = .int hi := dp_int hu
  subst e1 e2
  exact ⟨lo, hi, rfl, ⟨by omega, by omega, by omega, by omega⟩, q _ Hn H2 g itok_range⟩
/-- pairs of place and item -/
def enumD (ds : List PyData) : List PyData := ds.zipIdx.map fun p => .tuple [.int (p.2 : Nat), p.1]
theorem enum_get {i : Nat} {d : PyData} (h : (enumD ds)[i]? = some d) : ∃ x, ds[i]? = some x ∧ d = .tuple [.int (i : Nat), x] := by
  unfold enumD at h
  rw [List.getElem?_map, List.getElem?_zipIdx] at h
  cases q : ds[i]? with
  | none => rw [q] at h; cases h
  | some x =>
    rw [q] at h
    refine ⟨x, rfl, ?_⟩
    have h' := Option.some.inj h
    rw [← h']
    simp
theorem enum_len : (enumD ds).length = ds.length := by unfold enumD; rw [List.length_map, List.length_zipIdx]
theorem pair_ok {Hm H : Hp} {T : Addr} {x y : V} {d e : PyData} (s : Same Hm H) (hT : H T = none) (hx : Dq K Hm x d) (hy : Dq K Hm y e) : ∃ Hm', Grow [] Hm H Hm' (upd H T (.tup [x, y])) ∧ Dq K Hm' (.ref T) (.tuple [d, e]) := by
  have hm := same_back s hT
  refine ⟨upd Hm T (.tup [x, y]), (Grow.new s hT).know hT hm upd_same, .tup upd_same ?_⟩
  have ex : Same Hm (upd Hm T (.tup [x, y])) := fun a u e => by rw [upd_ne (ne_of_none e hm)]; exact e
  exact .cons (Dq.mono ex _ _ hx) (.cons (Dq.mono ex _ _ hy) .nil)
theorem ei_enum {ta : TA} (h : EvA K ta ε ms [.dat (.list ds)]) : EvI K (iEnum K ta) ε ms (enumD ds) := fun Hk σ H1 w R q => h Hk σ H1 w _ fun vs Hn H2 g dvs => by
  obtain ⟨v, rfl, hv⟩ := sls1 dvs
  obtain ⟨a, xs, rfl, hs, hd⟩ := dp_list hv
  refine ⟨a, xs, rfl, SqL.of (g.kn _ _ hs), q _ Hn H2 g ⟨xs.length, _, _, walk_enum, by rw [enum_len]; exact hd.length, fun H e => SqL.of (e _ _ hs), fun i d Hm H x H' e s1 s2 y => ?_⟩⟩
  obtain ⟨T, x1, y1, rfl, hT, rfl, e1, e2⟩ := y
  obtain ⟨d', e', rfl⟩ := enum_get e
  obtain ⟨d2, e2', r⟩ := hd.get' e2
  rw [e'] at e2'; cases e2'
  have e1' := Option.some.inj e1
  subst e1'
  exact pair_ok s2 hT (.int _) (Dq.mono s1 _ _ r)
def zipD (ds es : List PyData) : List PyData := (ds.zip es).map fun p => .tuple [p.1, p.2]
theorem zip_len : (zipD ds es).length = min ds.length es.length := by unfold zipD; rw [List.length_map, List.length_zip]
theorem zip_get {i : Nat} {d : PyData} (h : (zipD ds es)[i]? = some d) : ∃ x y, ds[i]? = some x ∧ es[i]? = some y ∧ d = .tuple [x, y] := by
  unfold zipD at h
  rw [List.getElem?_map] at h
  cases q : (ds.zip es)[i]? with
  | none => rw [q] at h; cases h
  | some p =>
    rw [q] at h
    obtain ⟨h1, h2⟩ := List.getElem?_zip_eq_some.mp q
    exact ⟨p.1, p.2, h1, h2, (Option.some.inj h).symm⟩
theorem ei_zip {ta : TA} (h : EvA K ta ε ms [.dat (.list ds), .dat (.list es)]) : EvI K (iZip K ta) ε ms (zipD ds es) := fun Hk σ H1 w R q => h Hk σ H1 w _ fun vs Hn H2 g dvs => by
  obtain ⟨v, u, rfl, hv, hu⟩ := sls2 dvs
  obtain ⟨a, xs, rfl, hs, hd⟩ := dp_list hv
  obtain ⟨b, ys, rfl, hs', hd'⟩ := dp_list hu
  refine ⟨a, b, xs, ys, rfl, SqL.of (g.kn _ _ hs), SqL.of (g.kn _ _ hs'), q _ Hn H2 g ⟨min xs.length ys.length, _, _, walk_zip rfl, by rw [zip_len, hd.length, hd'.length], fun H e => ⟨SqL.of (e _ _ hs), SqL.of (e _ _ hs')⟩, fun i d Hm H x H' e s1 s2 y => ?_⟩⟩
  obtain ⟨T, x1, y1, rfl, hT, rfl, e1, e2⟩ := y
  obtain ⟨d1, d2, e1', e2', rfl⟩ := zip_get e
  obtain ⟨d3, e3, r⟩ := hd.get' e1
  obtain ⟨d4, e4, r'⟩ := hd'.get' e2
  rw [e1'] at e3; cases e3
  rw [e2'] at e4; cases e4
  exact pair_ok s2 hT (Dq.mono s1 _ _ r) (Dq.mono s1 _ _ r')
end

/-! ### targets -/
/-- a target takes the datum and brings the slots from ε to ε'; of the slots at vs alone -/
def Tg (K : PySem.W.Frag) (g : TG) (s : Sl) (ε : List Sl) (ms : Ms) (vs : List Nat) (ε' : List Sl) : Prop := ∀ Hk σ H v, Wd K ε ms Hk σ H → SlOk K Hk s v → ∀ Q : St → Hp → Prop, (∀ σ', Wd K ε' ms Hk σ' H → wipe σ' vs = wipe σ vs → Q σ' H) → g v σ H Q
theorem wipe_get (σ : St) (i : Nat) : ∀ (vs : List Nat), (wipe σ vs)[i]? = if i ∈ vs ∧ i < σ.length then some none else σ[i]?
  | [] => by
    show σ[i]? = _
    rw [if_neg (by simp)]
  | v :: vs => by
    show ((wipe σ vs).set v none)[i]? = _
    by_cases z : i = v
    · subst z
      by_cases l : i < σ.length
      · rw [List.getElem?_set_self (by rw [wipe_length]; exact l), if_pos ⟨List.mem_cons_self, l⟩]
      · rw [List.getElem?_eq_none (by rw [List.length_set, wipe_length]; omega), if_neg (fun h => l h.2), List.getElem?_eq_none (by omega)]
    · rw [List.getElem?_set_ne (fun q => z q.symm), wipe_get σ i vs]
      by_cases h : i ∈ vs ∧ i < σ.length
      · rw [if_pos h, if_pos ⟨List.mem_cons_of_mem _ h.1, h.2⟩]
      · rw [if_neg h, if_neg (fun q => h ⟨by rcases List.mem_cons.mp q.1 with e | e; exact absurd e z; exact e, q.2⟩)]
theorem wipe_set {σ : St} {j : Nat} {x : Option V} {vs : List Nat} (h : j ∈ vs) : wipe (σ.set j x) vs = wipe σ vs := by
  refine List.ext_getElem? fun i => ?_
  rw [wipe_get, wipe_get, List.length_set]
  by_cases z : i ∈ vs ∧ i < σ.length
  · rw [if_pos z, if_pos z]
  · rw [if_neg z, if_neg z]
    by_cases e : j = i
    · subst e
      have hl : σ.length ≤ j := Nat.le_of_not_lt fun l => z ⟨h, l⟩
      rw [List.getElem?_eq_none (by rw [List.length_set]; exact hl), List.getElem?_eq_none hl]
    · rw [List.getElem?_set_ne e]
theorem wipe_wipe (σ : St) (vs : List Nat) : wipe (wipe σ vs) vs = wipe σ vs := by
  refine List.ext_getElem? fun i => ?_
  rw [wipe_get, wipe_get, wipe_length]
  by_cases z : i ∈ vs ∧ i < σ.length
  · rw [if_pos z, if_pos z]
  · rw [if_neg z, if_neg z]
/-- the slots at vs forgotten -/
def wipeS (ε : List Sl) : List Nat → List Sl
  | [] => ε
  | v :: vs => (wipeS ε vs).set v .un
section
variable {K : PySem.W.Frag} {ε ε' : List Sl} {ms : Ms} {Hk H1 : Hp} {σ : St}
theorem Sg.wipe (h : Sg K Hk ε σ) : ∀ (vs : List Nat), Sg K Hk (wipeS ε vs) (wipe σ vs)
  | [] => h
  | v :: vs => by
    have h' := Sg.wipe h vs
    refine ⟨by show ((wipeS ε vs).set v .un).length = ((L2.wipe σ vs).set v none).length; rw [List.length_set, List.length_set]; exact h'.len, fun i s e hs => ?_⟩
    have e' : ((wipeS ε vs).set v .un)[i]? = some s := e
    show ∃ x, ((L2.wipe σ vs).set v none)[i]? = some (some x) ∧ SlOk K Hk s x
    by_cases z : v = i
    · subst z
      by_cases l : v < (wipeS ε vs).length
      · rw [List.getElem?_set_self l] at e'
        cases e'
        exact absurd rfl hs
      · rw [List.getElem?_eq_none (by rw [List.length_set]; omega)] at e'
        cases e'
    · rw [List.getElem?_set_ne z] at e' ⊢
      exact h'.ok i s e' hs
theorem Wd.wipe (w : Wd K ε ms Hk σ H1) (vs : List Nat) : Wd K (wipeS ε vs) ms Hk (wipe σ vs) H1 := ⟨w.same, w.sg.wipe vs, w.mo⟩
theorem tg_name {s : Sl} {i : Nat} {vs : List Nat} (h : i ∈ vs) : Tg K (gName i) s ε ms vs (ε.set i s) := fun Hk σ H v w r Q q => q _ (w.set r i) (wipe_set h)
theorem tg_tup2 {d e : PyData} {i j : Nat} {vs : List Nat} (hi : i ∈ vs) (hj : j ∈ vs) : Tg K (gTup K 2 (gCons (gName i) (gCons (gName j) gNil))) (.dat (.tuple [d, e])) ε ms vs ((ε.set i (.dat d)).set j (.dat e)) := fun Hk σ H v w r Q q => by
  obtain ⟨a, xs, rfl, hs, hd⟩ := dp_tuple r
  cases hd with
  | cons h1 h2 => cases h2 with
    | cons h2 h3 =>
      cases h3
      refine ⟨a, _, rfl, SqT.of (w.same _ _ hs), rfl, _, _, rfl, _, _, rfl, rfl, ?_⟩
      exact q _ ((w.set (s := .dat d) h1 i).set (s := .dat e) h2 j) (by rw [wipe_set hj, wipe_set hi])
theorem tg_tup4 {d e f h : PyData} {i j k l : Nat} {vs : List Nat} (hi : i ∈ vs) (hj : j ∈ vs) (hk : k ∈ vs) (hl : l ∈ vs) : Tg K (gTup K 4 (gCons (gName i) (gCons (gName j) (gCons (gName k) (gCons (gName l) gNil))))) (.dat (.tuple [d, e, f, h])) ε ms vs
    ((((ε.set i (.dat d)).set j (.dat e)).set k (.dat f)).set l (.dat h)) := fun Hk σ H v w r Q q => by
  obtain ⟨a, xs, rfl, hs, hd⟩ := dp_tuple r
  cases hd with
  | cons h1 h2 => cases h2 with
    | cons h2 h3 => cases h3 with
      | cons h3 h4 => cases h4 with
        | cons h4 h5 =>
          cases h5
          refine ⟨a, _, rfl, SqT.of (w.same _ _ hs), rfl, _, _, rfl, _, _, rfl, _, _, rfl, _, _, rfl, rfl, ?_⟩
          exact q _ ((((w.set (s := .dat d) h1 i).set (s := .dat e) h2 j).set (s := .dat f) h3 k).set (s := .dat h) h4 l) (by rw [wipe_set hl, wipe_set hk, wipe_set hj, wipe_set hi])
theorem tg_tup3 {d e f : PyData} {i j k : Nat} {vs : List Nat} (hi : i ∈ vs) (hj : j ∈ vs) (hk : k ∈ vs) : Tg K (gTup K 3 (gCons (gName i) (gCons (gName j) (gCons (gName k) gNil)))) (.dat (.tuple [d, e, f])) ε ms vs
    (((ε.set i (.dat d)).set j (.dat e)).set k (.dat f)) := fun Hk σ H v w r Q q => by
  obtain ⟨a, xs, rfl, hs, hd⟩ := dp_tuple r
  cases hd with
  | cons h1 h2 => cases h2 with
    | cons h2 h3 => cases h3 with
      | cons h3 h4 =>
          cases h4
          refine ⟨a, _, rfl, SqT.of (w.same _ _ hs), rfl, _, _, rfl, _, _, rfl, _, _, rfl, rfl, ?_⟩
          exact q _ (((w.set (s := .dat d) h1 i).set (s := .dat e) h2 j).set (s := .dat f) h3 k) (by rw [wipe_set hk, wipe_set hj, wipe_set hi])
/-! ### comprehensions -/
theorem same_upd {Hk H : Hp} {D : Addr} {o : HO} (s : Same Hk H) (h : Hk D = none) : Same Hk (upd H D o) := fun a u e => by rw [upd_ne (ne_of_none e h)]; exact s a u e
theorem en_lc {wi : TI} {g : TG} {tt : TT} {te : TE} {vs : List Nat} {ds : List PyData} (hi : EvI K wi ε ms ds) (p : PyData → Bool) (F : PyData → PyData) (hz : ds.length ≤ 100000)
    (hs : ∀ d ∈ ds, ∃ ε', Tg K g (.dat d) (wipeS ε vs) ms vs ε' ∧ EvB K tt ε' ms (p d) ∧ (p d = true → Ev K te ε' ms (.dat (F d)))) : EvN K (tLc wi g tt te vs) ε ms ((ds.filter p).map F) := fun Hk σ H1 w Q q =>
  hi Hk σ H1 w _ fun J Hn H2 g0 ⟨n, G, Y, W, hn, hG, hY⟩ D hD => by
    subst hn
    have hnD := same_back g0.kn hD
    -- the invariant: what is known grows, D holds what is made so far
    refine lc_it W (fun i H => ∃ Hm acc, Grow [] Hn H2 Hm H ∧ Hm D = none ∧ H D = some (.lst acc) ∧ DqAll K Hm acc (((ds.take i).filter p).map F))
      ⟨Hn, [], Grow.new g0.kn hD, hnD, upd_same, .nil⟩ (fun i H _ ⟨Hm, acc, gm, _, _, _⟩ => hG H (gm.kk.trans gm.kn)) ?_ ?_
    · rintro i x H H' hi ⟨Hm, acc, gm, mD, aD, ha⟩ y
      obtain ⟨d, hd⟩ : ∃ d, ds[i]? = some d := ⟨ds[i], List.getElem?_eq_getElem hi⟩
      obtain ⟨Hm', g1, dx⟩ := hY i d Hm H x H' hd gm.kk gm.kn y
      obtain ⟨ε', ht, hb, he⟩ := hs d (List.mem_of_getElem? hd)
      have wd : Wd K (wipeS ε vs) ms Hm' (wipe σ vs) H' := ((w.grow g0).grow (gm.trans g1)).wipe vs
      have etake : (ds.take (i + 1)).filter p = (ds.take i).filter p ++ (if p d = true then [d] else []) := by
        rw [List.take_add_one, hd, List.filter_append]
        show _ ++ List.filter p [d] = _
        by_cases z : p d = true
        · rw [if_pos z, List.filter_cons_of_pos z, List.filter_nil]
        · rw [if_neg z, List.filter_cons_of_neg z, List.filter_nil]
      refine ht Hm' _ H' x wd dx _ fun σ2 w2 e2 => ⟨by rw [e2, wipe_wipe], hb Hm' σ2 H' w2 _ fun Hm2 H3 g2 => ?_⟩
      cases z : p d with
      | true =>
        refine iteT (he z Hm2 σ2 H3 (w2.grow g2) _ fun v Hm3 H4 g3 dv => ?_)
        have ga : Grow [] Hm H Hm3 H4 := g1.trans (g2.trans g3)
        have la : acc.length ≤ ds.length := by
          rw [ha.length, List.length_map]
          exact Nat.le_trans (List.length_filter_le _ _) (by rw [List.length_take]; exact Nat.min_le_right _ _)
        refine ⟨acc, ga.hh D _ aD nofun, Nat.lt_of_le_of_lt (Nat.le_trans la hz) (by decide), ?_⟩
        have oD : Hm3 D = none := ga.out D _ mD aD
        refine ⟨Hm3, acc ++ [v], (gm.trans ga).write oD (.inr hD), oD, upd_same, ?_⟩
        rw [etake, if_pos z, List.map_append]
        exact (DqAll.mono ga.kk _ _ ha).app (.cons dv .nil)
      | false =>
        refine iteF ?_
        have ga : Grow [] Hm H Hm2 H3 := g1.trans g2
        refine ⟨Hm2, acc, gm.trans ga, ga.out D _ mD aD, ga.hh D _ aD nofun, ?_⟩
        rw [etake, if_neg (by rw [z]; exact Bool.false_ne_true), List.append_nil]
        exact DqAll.mono ga.kk _ _ ha
    · rintro H ⟨Hm, acc, gm, mD, aD, ha⟩
      rw [List.take_length] at ha
      refine q D _ Hm H rfl (g0.trans gm) (fun e he => ?_) fun e he => ?_
      · cases List.mem_singleton.mp he
        exact g0.fresh hD
      · cases List.mem_singleton.mp he
        exact ⟨mD, acc, aD, ha⟩
/-- without a test -/
theorem en_map {wi : TI} {g : TG} {te : TE} {vs : List Nat} {ds : List PyData} (hi : EvI K wi ε ms ds) (F : PyData → PyData) (hz : ds.length ≤ 100000)
    (hs : ∀ d ∈ ds, ∃ ε', Tg K g (.dat d) (wipeS ε vs) ms vs ε' ∧ Ev K te ε' ms (.dat (F d))) : EvN K (tLc wi g tYes te vs) ε ms (ds.map F) := by
  have h := en_lc (p := fun _ => true) (F := F) (tt := tYes) hi hz fun d hd => let ⟨ε', h1, h2⟩ := hs d hd; ⟨ε', h1, eb_yes, fun _ => h2⟩
  have e : ds.filter (fun _ => true) = ds := List.filter_eq_self.mpr fun _ _ => rfl
  rw [e] at h
  exact h
end

/-! ### statements -/
structure AE where
  nx : List Sl → Ms → Prop
  bk : List Sl → Ms → Prop
  ct : List Sl → Ms → Prop
  rt : Sl → Ms → Prop
structure Sound (K : PySem.W.Frag) (E : AE) (M : List Addr) (Hk0 H0 : Hp) (D : Ends) : Prop where
  nx : ∀ ε ms Hk σ H, E.nx ε ms → Wd K ε ms Hk σ H → Grow M Hk0 H0 Hk H → Own M H0 ms → D.nx σ H
  bk : ∀ ε ms Hk σ H, E.bk ε ms → Wd K ε ms Hk σ H → Grow M Hk0 H0 Hk H → Own M H0 ms → D.bk σ H
  ct : ∀ ε ms Hk σ H, E.ct ε ms → Wd K ε ms Hk σ H → Grow M Hk0 H0 Hk H → Own M H0 ms → D.ct σ H
  rt : ∀ s ms Hk v H, E.rt s ms → SlOk K Hk s v → MsOk K Hk H ms → Grow M Hk0 H0 Hk H → Own M H0 ms → D.rt v H
def Do (K : PySem.W.Frag) (t : TS) (ε : List Sl) (ms : Ms) (E : AE) : Prop := ∀ M Hk0 H0 D, Sound K E M Hk0 H0 D → ∀ Hk σ H, Wd K ε ms Hk σ H → Grow M Hk0 H0 Hk H → Own M H0 ms → t D σ H
section
variable {K : PySem.W.Frag} {ε ε' : List Sl} {ms : Ms} {E : AE} {te ta tb : TE} {t u : TS} {tt : TT} {s : Sl} {d : PyData}
theorem Do.next (h : E.nx ε ms) : Do K tNext ε ms E := fun M Hk0 H0 D S Hk σ H w g o => S.nx ε ms Hk σ H h w g o
theorem do_seq (h : Do K t ε ms { E with nx := fun ε' ms' => Do K u ε' ms' E }) : Do K (tSeq t u) ε ms E := fun M Hk0 H0 D S Hk σ H w g o =>
  h M Hk0 H0 { D with nx := u D } ⟨fun ε' ms' Hk' σ' H' hd w' g' o' => hd M Hk0 H0 D S Hk' σ' H' w' g' o', S.bk, S.ct, S.rt⟩ Hk σ H w g o
theorem do_asg {i : Nat} (h : Ev K te ε ms s) (k : E.nx (ε.set i s) ms) : Do K (tAsg te (gName i)) ε ms E := fun M Hk0 H0 D S Hk σ H w g o =>
  h Hk σ H w _ fun v Hn H2 g2 r => S.nx _ ms Hn _ H2 k ((w.grow g2).set r i) (g.trans g2.nil) o
/-- a target of several names -/
theorem do_asgT {g : TG} {vs : List Nat} (h : Ev K te ε ms s) (ht : Tg K g s ε ms vs ε') (k : E.nx ε' ms) : Do K (tAsg te g) ε ms E := fun M Hk0 H0 D S Hk σ H w g0 o =>
  h Hk σ H w _ fun v Hn H2 g2 r => ht Hn σ H2 v (w.grow g2) r _ fun σ' w' _ => S.nx _ ms Hn _ H2 k w' (g0.trans g2.nil) o
/-- no two of them at one address -/
def Apart (ms ms' : Ms) : Prop := ∀ e ∈ ms, ∀ e' ∈ ms', e.at_ ≠ e'.at_
theorem apart_of {Hk H : Hp} {ms' : Ms} (h : MsOk K Hk H ms) (hf : ∀ e ∈ ms', H e.at_ = none) : Apart ms ms' := fun e he e' he' z => by
  obtain ⟨u, hu⟩ := (h e he).2.some
  rw [z, hf e' he'] at hu
  cases hu
theorem mo_app {Hk H : Hp} {ms' : Ms} (h : MsOk K Hk H ms) (h' : MsOk K Hk H ms') : MsOk K Hk H (ms ++ ms') := fun e he => (List.mem_append.mp he).elim (h e) (h' e)
/-- the new things are new to the whole body -/
def setNw (ms : Ms) : Ms := ms.map fun e => { e with fl := .nw }
theorem own_app {M : List Addr} {Hk0 H0 Hk H : Hp} {ms' : Ms} (o : Own M H0 ms) (g : Grow M Hk0 H0 Hk H) (hf : ∀ e ∈ ms', H e.at_ = none) : Own M H0 (ms ++ ms') := fun e he => by
  rcases List.mem_append.mp he with h | h
  · exact o e h
  · have q := g.fresh (hf e h)
    cases e.fl with
    | rd => trivial
    | wr => exact .inr q
    | nw => exact q
theorem do_asgO {i : Nat} {P : Addr → Ms → Prop} (h : EvO K te ε ms P) (k : ∀ x ms', P x ms' → Apart ms ms' → E.nx (ε.set i (.ref x)) (ms ++ ms')) : Do K (tAsg te (gName i)) ε ms E := fun M Hk0 H0 D S Hk σ H w g o =>
  h Hk σ H w _ fun x ms' Hn H2 hp g2 hf hm => by
    have w2 := w.grow g2
    refine S.nx _ (ms ++ ms') Hn _ H2 (k x ms' hp (apart_of w.mo hf)) ⟨w2.same, w2.sg.set (s := .ref x) rfl i, mo_app w2.mo hm⟩ (g.trans g2.nil) (own_app o g hf)
theorem do_asgN {i : Nat} {ds : List PyData} (h : EvN K te ε ms ds) (k : ∀ x, Apart ms [⟨x, .nw, .lst ds⟩] → E.nx (ε.set i (.ref x)) (ms ++ [⟨x, .nw, .lst ds⟩])) : Do K (tAsg te (gName i)) ε ms E :=
  do_asgO h fun x ms' hp ha => by
    have e : ms' = [⟨x, .nw, .lst ds⟩] := hp
    subst e
    exact k x ha
theorem do_drop (h : Ev K te ε ms s) (k : E.nx ε ms) : Do K (tDrop te) ε ms E := fun M Hk0 H0 D S Hk σ H w g o =>
  h Hk σ H w _ fun v Hn H2 g2 r => S.nx _ ms Hn _ H2 k (w.grow g2) (g.trans g2.nil) o
theorem do_ret (h : Ev K te ε ms s) (k : E.rt s ms) : Do K (tRet te) ε ms E := fun M Hk0 H0 D S Hk σ H w g o =>
  h Hk σ H w _ fun v Hn H2 g2 r => S.rt s ms Hn v H2 k r (w.grow g2).mo (g.trans g2.nil) o
theorem do_retN (k : E.rt (.dat .none) ms) : Do K tRetN ε ms E := fun M Hk0 H0 D S Hk σ H w g o => S.rt _ ms Hk _ H k .non w.mo g o
theorem do_if {b : Bool} (h : EvB K tt ε ms b) (h1 : b = true → Do K t ε ms E) (h2 : b = false → Do K u ε ms E) : Do K (tIfS tt t u) ε ms E := fun M Hk0 H0 D S Hk σ H w g o =>
  h Hk σ H w _ fun Hn H2 g2 => by
    cases b with
    | true => exact iteT (h1 rfl M Hk0 H0 D S Hn σ H2 (w.grow g2) (g.trans g2.nil) o)
    | false => exact iteF (h2 rfl M Hk0 H0 D S Hn σ H2 (w.grow g2) (g.trans g2.nil) o)
theorem do_brk (k : E.bk ε ms) : Do K tBreak ε ms E := fun M Hk0 H0 D S Hk σ H w g o => S.bk _ ms Hk _ H k w g o
theorem do_cont (k : E.ct ε ms) : Do K tCont ε ms E := fun M Hk0 H0 D S Hk σ H w g o => S.ct _ ms Hk _ H k w g o
theorem Do.mono {E' : AE} (h : Do K t ε ms E) (h1 : ∀ ε ms, E.nx ε ms → E'.nx ε ms) (h2 : ∀ ε ms, E.bk ε ms → E'.bk ε ms) (h3 : ∀ ε ms, E.ct ε ms → E'.ct ε ms) (h4 : ∀ s ms, E.rt s ms → E'.rt s ms) : Do K t ε ms E' := fun M Hk0 H0 D S =>
  h M Hk0 H0 D ⟨fun ε ms Hk σ H e => S.nx ε ms Hk σ H (h1 _ _ e), fun ε ms Hk σ H e => S.bk ε ms Hk σ H (h2 _ _ e), fun ε ms Hk σ H e => S.ct ε ms Hk σ H (h3 _ _ e), fun s ms Hk v H e => S.rt s ms Hk v H (h4 _ _ e)⟩
/-- name op= e, ints -/
theorem do_aug {i : Nat} {f : Int → Int → Int} {a b : Int} (hx : ε[i]? = some (.dat (.int a))) (h : Ev K te ε ms (.dat (.int b))) (k : E.nx (ε.set i (.dat (.int (f a b)))) ms) : Do K (tAug i te (ipI f)) ε ms E := fun M Hk0 H0 D S Hk σ H w g o => by
  obtain ⟨v, e, r⟩ := w.sg.ok i _ hx nofun
  refine ⟨v, e, h Hk σ H w _ fun y Hn H2 g2 r2 => ?_⟩
  have ev : v = .int a := dp_int r
  have ey : y = .int b := dp_int r2
  subst ev ey
  exact ⟨a, b, rfl, rfl, S.nx _ ms Hn _ H2 k ((w.grow g2).set (s := .dat (.int (f a b))) (.int _) i) (g.trans g2.nil) o⟩
/-- forget, weaken what is carried -/
theorem do_ms {ms' : Ms} (h : ∀ e ∈ ms', e ∈ ms) (k : Do K t ε ms' E) : Do K t ε ms E := fun M Hk0 H0 D S Hk σ H w g o =>
  k M Hk0 H0 D S Hk σ H ⟨w.same, w.sg, fun e he => w.mo e (h e he)⟩ g fun e he => o e (h e he)
theorem do_un {ε' : List Sl} (hl : ε'.length = ε.length) (h : ∀ (i : Nat) (s : Sl), ε'[i]? = some s → s ≠ .un → ε[i]? = some s) (k : Do K t ε' ms E) : Do K t ε ms E := fun M Hk0 H0 D S Hk σ H w g o =>
  k M Hk0 H0 D S Hk σ H ⟨w.same, ⟨hl.trans w.sg.len, fun i s e hs => w.sg.ok i s (h i s e hs) hs⟩, w.mo⟩ g o
/-! things of the frame's own that become known -/
/-- the slots that hold the address a hold the datum d -/
def asDat (a : Addr) (d : PyData) (ε : List Sl) : List Sl := ε.map fun s => match s with
  | .ref b => if b = a then .dat d else .ref b
  | s => s
def without (a : Addr) (ms : Ms) : Ms := ms.filter fun e => decide (e.at_ ≠ a)
theorem freeze {M : List Addr} {Hk0 H0 Hk H : Hp} {σ : St} {a : Addr} {ds : List PyData} (hm : ⟨a, .nw, .lst ds⟩ ∈ ms) (w : Wd K ε ms Hk σ H) (g : Grow M Hk0 H0 Hk H) (o : Own M H0 ms) :
    ∃ Hk', Wd K (asDat a (.list ds) ε) (without a ms) Hk' σ H ∧ Grow M Hk0 H0 Hk' H ∧ Own M H0 (without a ms) ∧ Same Hk Hk' ∧ Dq K Hk' (.ref a) (.list ds) := by
  obtain ⟨ha, vs, hv, hd⟩ := w.mo _ hm
  have h0 : H0 a = none := o _ hm
  have ex : Same Hk (upd Hk a (.lst vs)) := fun b u e => by rw [upd_ne (ne_of_none e ha)]; exact e
  have dl : Dq K (upd Hk a (.lst vs)) (.ref a) (.list ds) := .lst upd_same (DqAll.mono ex _ _ hd)
  have g' : Grow M Hk0 H0 (upd Hk a (.lst vs)) H := g.know h0 ha hv
  refine ⟨upd Hk a (.lst vs), ⟨g'.kn, ⟨by unfold asDat; rw [List.length_map]; exact w.sg.len, fun i s e hs => ?_⟩, fun e he => ?_⟩, g', fun e he => o e (List.mem_filter.mp he).1, ex, dl⟩
  · unfold asDat at e
    rw [List.getElem?_map] at e
    cases q : ε[i]? with
    | none => rw [q] at e; cases e
    | some s0 =>
      rw [q] at e
      have e' := Option.some.inj e
      cases s0 with
      | un => exact absurd e'.symm hs
      | dat d =>
        obtain ⟨v, e1, r⟩ := w.sg.ok i _ q nofun
        subst e'
        exact ⟨v, e1, Dq.mono ex d v r⟩
      | scr ns =>
        obtain ⟨v, e1, r⟩ := w.sg.ok i _ q nofun
        subst e'
        exact ⟨v, e1, SlOk.mono (s := .scr ns) ex r⟩
      | ref b =>
        obtain ⟨v, e1, r⟩ := w.sg.ok i _ q nofun
        have rv : v = .ref b := r
        subst rv
        by_cases z : b = a
        · subst z
          have e'' : (if b = b then Sl.dat (.list ds) else .ref b) = s := e'
          rw [if_pos rfl] at e''
          subst e''
          exact ⟨_, e1, dl⟩
        · have e'' : (if b = a then Sl.dat (.list ds) else .ref b) = s := e'
          rw [if_neg z] at e''
          subst e''
          exact ⟨_, e1, rfl⟩
  · obtain ⟨h1, h2⟩ := List.mem_filter.mp he
    have ne : e.at_ ≠ a := of_decide_eq_true h2
    obtain ⟨q1, q2⟩ := w.mo e h1
    exact ⟨by rw [upd_ne ne]; exact q1, q2.mono ex fun u z => z⟩
theorem do_freeze {a : Addr} {ds : List PyData} (hm : ⟨a, .nw, .lst ds⟩ ∈ ms) (k : Do K t (asDat a (.list ds) ε) (without a ms) E) : Do K t ε ms E := fun M Hk0 H0 D S Hk σ H w g o => by
  obtain ⟨Hk', w', g', o', _, _⟩ := freeze hm w g o
  exact k M Hk0 H0 D S Hk' σ H w' g' o'
/-! ### loops -/
theorem regrow {M : List Addr} {Hk0 H0 Hn H2 Hk H : Hp} (a : Grow M Hk0 H0 Hn H2) (b : Grow M Hn H0 Hk H) : Grow M Hk0 H0 Hk H :=
  ⟨a.kk.trans b.kk, b.kn, b.hh, b.al, fun p o e q => b.out p o (a.out p o e q) q⟩
theorem rebase {M : List Addr} {Hk0 H0 Hn H2 : Hp} (a : Grow M Hk0 H0 Hn H2) : Grow M Hn H0 Hn H2 := ⟨Same.refl _, a.kn, a.hh, a.al, fun _ _ e _ => e⟩
/-- what holds between two turns -/
def LoopI (K : PySem.W.Frag) (M : List Addr) (Hn H0 : Hp) (I : List Sl → Ms → Prop) : St → Hp → Prop := fun σ' H' => ∃ ε' ms' Hk', I ε' ms' ∧ Wd K ε' ms' Hk' σ' H' ∧ Grow M Hn H0 Hk' H' ∧ Own M H0 ms'
theorem do_for {wi : TI} {g : TG} {tb : TS} {ds : List PyData} (hi : EvI K wi ε ms ds) (I : Nat → List Sl → Ms → Prop) (vs : List Nat) (h0 : I 0 ε ms)
    (hs : ∀ i d ε' ms', ds[i]? = some d → I i ε' ms' → ∃ ε'', Tg K g (.dat d) ε' ms' vs ε'' ∧ Do K tb ε'' ms' { E with nx := I (i + 1), ct := I (i + 1), bk := E.nx }) (hd : ∀ ε' ms', I ds.length ε' ms' → E.nx ε' ms') : Do K (tFor wi g tb) ε ms E :=
  fun M Hk0 H0 D S Hk σ H w g0 o => hi Hk σ H w _ fun J Hn H2 g1 ⟨n, G, Y, W, hn, hG, hY⟩ => by
    subst hn
    have gs := g0.trans g1.nil
    refine for_it W (fun i => LoopI K M Hn H0 (I i)) ⟨ε, ms, Hn, h0, w.grow g1, rebase gs, o⟩ (fun i σ' H' _ ⟨ε', ms', Hk', _, w', g', _⟩ => hG H' (g'.kk.trans g'.kn)) ?_ ?_
    · rintro i x σ' H' H'' hlt ⟨ε', ms', Hk', hI, w', g', o'⟩ y
      obtain ⟨d, hd⟩ : ∃ d, ds[i]? = some d := ⟨ds[i], List.getElem?_eq_getElem hlt⟩
      obtain ⟨Hm, g2, dx⟩ := hY i d Hk' H' x H'' hd g'.kk g'.kn y
      obtain ⟨ε'', ht, hb⟩ := hs i d ε' ms' hd hI
      refine ht Hm σ' H'' x (w'.grow g2) dx _ fun σ2 w2 _ => ?_
      refine hb M Hn H0 { D with nx := LoopI K M Hn H0 (I (i + 1)), ct := LoopI K M Hn H0 (I (i + 1)), bk := D.nx } ⟨fun ε3 ms3 Hk3 σ3 H3 e w3 g3 o3 => ⟨ε3, ms3, Hk3, e, w3, g3, o3⟩, fun ε3 ms3 Hk3 σ3 H3 e w3 g3 o3 => S.nx ε3 ms3 Hk3 σ3 H3 e w3 (regrow gs g3) o3, fun ε3 ms3 Hk3 σ3 H3 e w3 g3 o3 => ⟨ε3, ms3, Hk3, e, w3, g3, o3⟩,
        fun s3 ms3 Hk3 v3 H3 e r3 m3 g3 o3 => S.rt s3 ms3 Hk3 v3 H3 e r3 m3 (regrow gs g3) o3⟩ Hm σ2 H'' w2 (g'.trans g2.nil) o'
    · rintro σ' H' ⟨ε', ms', Hk', hI, w', g', o'⟩
      exact S.nx ε' ms' Hk' σ' H' (hd ε' ms' hI) w' (regrow gs g') o'
theorem do_while {tb : TS} (I : Nat → List Sl → Ms → Prop) (m0 : Nat) (h0 : I m0 ε ms)
    (hs : ∀ m ε' ms', I m ε' ms' → ∃ b, EvB K tt ε' ms' b ∧ (b = true → Do K tb ε' ms' { E with nx := fun ε'' ms'' => ∃ m', m' < m ∧ I m' ε'' ms'', ct := fun ε'' ms'' => ∃ m', m' < m ∧ I m' ε'' ms'', bk := E.nx }) ∧ (b = false → E.nx ε' ms')) : Do K (tWhile tt tb) ε ms E :=
  fun M Hk0 H0 D S Hk σ H w g o => by
    refine ⟨fun m => LoopI K M Hk0 H0 (I m), ⟨m0, ε, ms, Hk, h0, w, g, o⟩, ?_⟩
    rintro m σ' H' ⟨ε', ms', Hk', hI, w', g', o'⟩
    obtain ⟨b, hb, h1, h2⟩ := hs m ε' ms' hI
    refine hb Hk' σ' H' w' _ fun Hn H2 g2 => ?_
    cases b with
    | true =>
      refine iteT ⟨fun σ3 H3 => ∃ m', m' < m ∧ LoopI K M Hk0 H0 (I m') σ3 H3, fun _ _ z => z, ?_⟩
      exact h1 rfl M Hk0 H0 { D with nx := fun σ3 H3 => ∃ m', m' < m ∧ LoopI K M Hk0 H0 (I m') σ3 H3, ct := fun σ3 H3 => ∃ m', m' < m ∧ LoopI K M Hk0 H0 (I m') σ3 H3, bk := D.nx } ⟨fun ε3 ms3 Hk3 σ3 H3 ⟨m', hm, e⟩ w3 g3 o3 => ⟨m', hm, ε3, ms3, Hk3, e, w3, g3, o3⟩, S.nx, fun ε3 ms3 Hk3 σ3 H3 ⟨m', hm, e⟩ w3 g3 o3 => ⟨m', hm, ε3, ms3, Hk3, e, w3, g3, o3⟩, S.rt⟩ Hn σ' H2 (w'.grow g2) (g'.trans g2.nil) o'
    | false => exact iteF (S.nx ε' ms' Hn σ' H2 (h2 rfl) (w'.grow g2) (g'.trans g2.nil) o')
/-! ### writes to lists -/
def setMo (a : Addr) (o : Mo) (ms : Ms) : Ms := ms.map fun e => if e.at_ = a then { e with mo := o } else e
theorem set_own {M : List Addr} {H0 : Hp} {a : Addr} {mo : Mo} (o : Own M H0 ms) : Own M H0 (setMo a mo ms) := fun e he => by
  obtain ⟨e0, h1, h2⟩ := List.mem_map.mp he
  have q := o e0 h1
  by_cases z : e0.at_ = a
  · have h3 : (if e0.at_ = a then { e0 with mo := mo } else e0) = e := h2
    rw [if_pos z] at h3
    subst h3
    exact q
  · have h3 : (if e0.at_ = a then { e0 with mo := mo } else e0) = e := h2
    rw [if_neg z] at h3
    subst h3
    exact q
theorem write_ok {M : List Addr} {Hk0 H0 Hk H : Hp} {σ : St} {a : Addr} {fl : Fl} {m0 : Mo} {mo : Mo} {u : HO} (hm : ⟨a, fl, m0⟩ ∈ ms) (hf : fl ≠ .rd) (w : Wd K ε ms Hk σ H) (g : Grow M Hk0 H0 Hk H) (o : Own M H0 ms) (hn : MoOk K Hk (upd H a u) a mo) :
    Wd K ε (setMo a mo ms) Hk σ (upd H a u) ∧ Grow M Hk0 H0 Hk (upd H a u) ∧ Own M H0 (setMo a mo ms) := by
  have ha := (w.mo _ hm).1
  have hw : a ∈ M ∨ H0 a = none := by
    have q := o _ hm
    cases fl with
    | rd => exact absurd rfl hf
    | wr => exact q
    | nw => exact .inr q
  refine ⟨⟨same_upd w.same ha, w.sg, fun e he => ?_⟩, g.write ha hw, set_own o⟩
  obtain ⟨e0, h1, h2⟩ := List.mem_map.mp he
  have h3 : (if e0.at_ = a then { e0 with mo := mo } else e0) = e := h2
  by_cases z : e0.at_ = a
  · rw [if_pos z] at h3
    subst h3
    refine ⟨(w.mo e0 h1).1, ?_⟩
    show MoOk K Hk (upd H a u) e0.at_ mo
    rw [z]; exact hn
  · rw [if_neg z] at h3
    subst h3
    exact ⟨(w.mo e0 h1).1, (w.mo e0 h1).2.mono (Same.refl _) fun v hv => by rw [upd_ne z]; exact hv⟩
theorem do_app {a : Addr} {fl : Fl} {ds : List PyData} (ha : Ev K ta ε ms (.ref a)) (hm : ⟨a, fl, .lst ds⟩ ∈ ms) (hf : fl ≠ .rd) (h : Ev K te ε ms (.dat d)) (hz : ds.length < 100000) (k : E.nx ε (setMo a (.lst (ds ++ [d])) ms)) :
    Do K (tDrop (tBM K "list" rAppend ta (tCons te tNil))) ε ms E := fun M Hk0 H0 D S Hk σ H w g o =>
  ha Hk σ H w _ fun v Hn H2 g1 dv => by
    have ev : v = .ref a := dv
    subst ev
    obtain ⟨_, vs, hv, hd⟩ := (w.grow g1).mo _ hm
    refine ⟨Or.inl ⟨rfl, vs, SqL.of hv⟩, h Hn σ H2 (w.grow g1) _ fun x Hm H3 g2 dx => ?_⟩
    have w3 := (w.grow g1).grow g2
    obtain ⟨_, vs', hv', hd'⟩ := w3.mo _ hm
    refine ⟨a, vs', x, rfl, rfl, hv', by rw [hd'.length]; exact Nat.lt_trans hz (by decide), ?_⟩
    obtain ⟨w4, g4, o4⟩ := write_ok hm hf w3 (g.trans (g1.trans g2).nil) o (mo := .lst (ds ++ [d])) (u := .lst (vs' ++ [x])) ⟨_, upd_same, hd'.app (.cons dx .nil)⟩
    exact S.nx ε _ Hm σ _ k w4 g4 o4
theorem ixN_at {n : Nat} {i : Int} (h0 : 0 ≤ i) (h : i < n) : ixN n i = some i.toNat := by
  unfold ixN
  rw [if_pos h0, if_pos h]
theorem do_setL {a : Addr} {fl : Fl} {ds : List PyData} {i : Int} (h : Ev K te ε ms (.dat d)) (ha : Ev K ta ε ms (.ref a)) (hb : Ev K tb ε ms (.dat (.int i))) (hm : ⟨a, fl, .lst ds⟩ ∈ ms) (hf : fl ≠ .rd) (h0 : 0 ≤ i) (hi : i < ds.length) (k : E.nx ε (setMo a (.lst (ds.set i.toNat d)) ms)) :
    Do K (tAsg te (gSub ta tb rSetL)) ε ms E := fun M Hk0 H0 D S Hk σ H w g o =>
  h Hk σ H w _ fun x Hn H2 g1 dx => ha Hn σ H2 (w.grow g1) _ fun v Hm H3 g2 dv => hb Hm σ H3 ((w.grow g1).grow g2) _ fun y Ho H4 g3 dy => by
    have ev : v = .ref a := dv
    have ey : y = .int i := dp_int dy
    subst ev ey
    have w4 := ((w.grow g1).grow g2).grow g3
    obtain ⟨_, vs, hv, hd⟩ := w4.mo _ hm
    refine ⟨a, vs, i, i.toNat, rfl, rfl, hv, ixN_at h0 (by rw [hd.length]; exact hi), ?_⟩
    obtain ⟨w5, g5, o5⟩ := write_ok hm hf w4 (g.trans (g1.trans (g2.trans g3)).nil) o (mo := .lst (ds.set i.toNat d)) (u := .lst (vs.set i.toNat x)) ⟨_, upd_same, hd.set _ (Dq.mono (g2.kk.trans g3.kk) _ _ dx)⟩
    exact S.nx ε _ Ho σ _ k w5 g5 o5
end
end Rl
set_option Elab.async false
set_option linter.all false
set_option maxRecDepth 100000
set_option maxHeartbeats 1000000
/-! The data layer, part 3: contracts of defs, calls, objects, dicts, built-in functions. -/
namespace Rl
open PySem L2
/-- short words: the slot n's value; a written int -/
theorem vr {K : PySem.W.Frag} {ε : List Sl} {ms : Ms} {s : Sl} (n : Nat) (h : ε[n]? = some s := by rfl) (hs : s ≠ .un := by nofun) : Ev K (tVar n) ε ms s := ev_var h hs
theorem ci {K : PySem.W.Frag} {ε : List Sl} {ms : Ms} {i : Int} : Ev K (tC (.int i)) ε ms (.dat (.int i)) := ev_int
/-! ### contracts -/
abbrev Ct := List Sl → Ms → List Addr → (Sl → Ms → Prop) → Prop
def ctr (K : PySem.W.Frag) (C : Ct) : Sp := fun vs H Q _ => ∃ Hk ss ms M R, C ss ms M R ∧ Same Hk H ∧ SlsOk K Hk ss vs ∧ MsOk K Hk H ms ∧ Own M H ms ∧
  ∀ v s ms' Hn H2, R s ms' → SlOk K Hn s v → MsOk K Hn H2 ms' → Grow M Hk H Hn H2 → Own M H ms' → Q v H2
/-- data in, a datum out -/
def pur (f : List PyData → PyData → Prop) : Ct := fun ss ms M R => ∃ ds r, ss = ds.map .dat ∧ ms = [] ∧ M = [] ∧ f ds r ∧ R = fun s _ => s = .dat r
/-- a method that only reads: things as they stand, data in, a datum out -/
def red0 (f : Addr → Ms → List PyData → PyData → Prop) : Ct := fun ss ms M R => ∃ a ds r, ss = .ref a :: ds.map .dat ∧ (∀ e ∈ ms, e.fl = .rd) ∧ M = [] ∧ f a ms ds r ∧ R = fun s _ => s = .dat r
def startS (N : List Str) (ss : List Sl) : List Sl := ss ++ List.replicate (N.length - ss.length) .un
theorem sg_start {K : PySem.W.Frag} {Hk : Hp} {ss : List Sl} {vs : List V} (N : List Str) (h : SlsOk K Hk ss vs) : Sg K Hk (startS N ss) (L2.start N vs) := by
  have hl : ss.length = vs.length := Paired.length h
  refine ⟨?_, fun i s e hs => ?_⟩
  · unfold startS L2.start
    rw [List.length_append, List.length_append, List.length_map, List.length_replicate, List.length_replicate, hl]
  · unfold startS at e
    unfold L2.start
    by_cases z : i < ss.length
    · rw [List.getElem?_append_left z] at e
      rw [List.getElem?_append_left (by rw [List.length_map, ← hl]; exact z), List.getElem?_map]
      have go : ∀ {ss : List Sl} {vs : List V} {i : Nat}, SlsOk K Hk ss vs → ss[i]? = some s → ∃ v, vs[i]? = some v ∧ SlOk K Hk s v := by
        intro ss
        induction ss with
        | nil => intro vs i _ e; simp at e
        | cons a r ih =>
          intro vs i h e
          cases h with
          | cons h1 h2 =>
            cases i with
            | zero =>
              have e' : a = s := by simpa using e
              subst e'
              exact ⟨_, rfl, h1⟩
            | succ i =>
              obtain ⟨v, q1, q2⟩ := ih h2 (i := i) (by simpa using e)
              exact ⟨v, by simpa using q1, q2⟩
      obtain ⟨v, q1, q2⟩ := go h e
      exact ⟨v, by rw [q1]; rfl, q2⟩
    · rw [List.getElem?_append_right (by omega)] at e
      have := List.getElem?_eq_some_iff.mp e
      obtain ⟨h1, h2⟩ := this
      rw [List.getElem_replicate] at h2
      exact absurd h2.symm hs
/-- what is asked where a body ends -/
def fend (R : Sl → Ms → Prop) : AE := { nx := fun _ ms => R (.dat .none) ms, bk := fun _ _ => False, ct := fun _ _ => False, rt := R }
section
variable {P : Program} {w : World} {K : PySem.W.Frag} {mg : Str → Option Value} {base : Heap}
/-- THE RULE for a def -/
theorem fn_ctr {x qual : Str} {st : Stmt} {f : Addr} {fd : FuncData} {N ps : List Str} {k : Nat} {C : Ct} (F : Fun K x qual st f fd) (S : FnScope N ps (defScope st)) (len : ∀ ss ms M R, C ss ms M R → ss.length = ps.length)
    (hbody : ∀ (cdv : Value) (A : Around) (outer : List Env) (s : Shared) (H : Hp) (vs : List V) (Q : VK) (E : XK), Room k (A.deeper (PyProof.Rows.envOfC qual (defScope st) s.heap.objs.size f cdv)) →
      ∃ t, PSs (cxOf CX0 P w K mg base N qual (defScope st) f cdv A outer s H E).nox (defBody st) t ∧ ∀ ss ms M R, C ss ms M R → Do K t (startS N ss) ms (fend R)) : FnOk P w K mg base CX0 (k + 1) f fd ps (ctr K C) := by
  refine F.ok S (fun vs H Q E ⟨Hk, ss, ms, M, R, hC, _, hv, _⟩ => ?_) (fun cdv A outer s H vs Q E hr ⟨Hk, ss, ms, M, R, hC, hs, hv, hm, ho, k⟩ => ?_)
  · rw [← Paired.length hv]; exact len ss ms M R hC
  · obtain ⟨t, h1, h2⟩ := hbody cdv A outer s H vs Q E hr
    refine ⟨t, h1, h2 ss ms M R hC M Hk H _ ⟨fun ε' ms' Hk' σ' H' e w' g' o' => ?_, fun _ _ _ _ _ e => e.elim, fun _ _ _ _ _ e => e.elim, fun s' ms' Hk' v' H' e r' m' g' o' => ?_⟩ Hk _ H ⟨hs, sg_start N hv, hm⟩ (.refl hs) ho⟩
    · exact k .non (.dat .none) ms' Hk' H' e .non w'.mo g' o'
    · exact k v' s' ms' Hk' H' e r' m' g' o'
end
section
variable {K : PySem.W.Frag} {ε : List Sl} {ms : Ms} {ta tb te : TE} {t : TA} {ss : List Sl} {s : Sl} {E : AE} {XE : XK}
theorem mo_sub {Hk H : Hp} {ms' : Ms} (h : MsOk K Hk H ms) (hs : ∀ e ∈ ms', ∃ e' ∈ ms, e'.at_ = e.at_ ∧ e'.mo = e.mo) : MsOk K Hk H ms' := fun e he => by
  obtain ⟨e', h1, h2, h3⟩ := hs e he
  have := h e' h1
  rw [h2, h3] at this
  exact this
theorem own_rd {M : List Addr} {H : Hp} {ms' : Ms} (h : ∀ e ∈ ms', e.fl = .rd) : Own M H ms' := fun e he => by rw [h e he]; trivial
/-- a call of a def: data in, a datum out -/
theorem ev_call {f : List PyData → PyData → Prop} {ds : List PyData} {r : PyData} (h : EvA K t ε ms (ds.map .dat)) (hf : f ds r) : Ev K (tCall (ctr K (pur f)) [] XE t) ε ms (.dat r) := fun Hk σ H1 w Q q =>
  h Hk σ H1 w _ fun vs Hn H2 g dvs => ⟨Hn, ds.map .dat, [], [], _, ⟨ds, r, rfl, rfl, rfl, hf, rfl⟩, g.kn, by rw [List.append_nil]; exact dvs, fun _ h => (nomatch h), fun _ h => (nomatch h), fun v s ms' Hm H3 hr hv _ g2 _ => by
    subst hr
    exact q v Hm H3 (g.trans g2) hv⟩
/-- a call of any def that changes nothing and hands back a slot-value -/
theorem ev_callC {C : Ct} {ms' : Ms} {R : Sl → Ms → Prop} (h : EvA K t ε ms ss) (hC : C ss ms' [] R) (hs : ∀ e ∈ ms', e.fl = .rd ∧ ∃ e' ∈ ms, e'.at_ = e.at_ ∧ e'.mo = e.mo) (hR : ∀ s' ms'', R s' ms'' → s' = s) : Ev K (tCall (ctr K C) [] XE t) ε ms s := fun Hk σ H1 w Q q =>
  h Hk σ H1 w _ fun vs Hn H2 g dvs => ⟨Hn, ss, ms', [], R, hC, g.kn, by rw [List.append_nil]; exact dvs, mo_sub (w.grow g).mo fun e he => (hs e he).2, own_rd fun e he => (hs e he).1, fun v s' ms'' Hm H3 hr hv _ g2 _ => by
    have e := hR s' ms'' hr
    subst e
    exact q v Hm H3 (g.trans g2) hv⟩

/-! ### objects -/
def putS (f : Str) (v : Sl) : List (Str × Sl) → List (Str × Sl)
  | [] => [(f, v)]
  | (g, x) :: r => if g = f then (g, v) :: r else (g, x) :: putS f v r
abbrev FsOk (K : PySem.W.Frag) (Hk : Hp) : List (Str × Sl) → List (Str × V) → Prop := Paired (fun (p : Str × Sl) (q : Str × V) => p.1 = q.1 ∧ p.2 ≠ .un ∧ SlOk K Hk p.2 q.2)
theorem fs_lookup {Hk : Hp} {f : Str} : ∀ {fs : List (Str × Sl)} {vs : List (Str × V)}, FsOk K Hk fs vs → ∀ {s : Sl}, fs.lookup f = some s → ∃ v, vs.lookup f = some v ∧ SlOk K Hk s v
  | _, _, .nil, _, e => by cases e
  | (a, x) :: fs, (b, y) :: vs, .cons ⟨h1, h2, h3⟩ t, s, e => by
    have h1' : a = b := h1
    subst h1'
    rw [List.lookup_cons] at e ⊢
    by_cases z : (f == a) = true
    · rw [z] at e ⊢
      cases e
      exact ⟨y, rfl, h3⟩
    · have z' : (f == a) = false := by simpa using z
      rw [z'] at e ⊢
      exact fs_lookup t e
theorem fs_none {Hk : Hp} {f : Str} : ∀ {fs : List (Str × Sl)} {vs : List (Str × V)}, FsOk K Hk fs vs → fs.lookup f = none → vs.lookup f = none
  | _, _, .nil, _ => rfl
  | (a, x) :: fs, (b, y) :: vs, .cons ⟨h1, h2, h3⟩ t, e => by
    have h1' : a = b := h1
    subst h1'
    rw [List.lookup_cons] at e ⊢
    by_cases z : (f == a) = true
    · rw [z] at e; cases e
    · have z' : (f == a) = false := by simpa using z
      rw [z'] at e ⊢
      exact fs_none t e
theorem fs_put {Hk : Hp} {f : Str} {s : Sl} {v : V} (hs : s ≠ .un) (r : SlOk K Hk s v) : ∀ {fs : List (Str × Sl)} {vs : List (Str × V)}, FsOk K Hk fs vs → FsOk K Hk (putS f s fs) (putF f v vs)
  | _, _, .nil => .cons ⟨rfl, hs, r⟩ .nil
  | (a, x) :: fs, (b, y) :: vs, .cons ⟨h1, h2, h3⟩ t => by
    have h1' : a = b := h1
    subst h1'
    show FsOk K Hk (if a = f then (a, s) :: fs else (a, x) :: putS f s fs) (if a = f then (a, v) :: vs else (a, y) :: putF f v vs)
    by_cases z : a = f
    · rw [if_pos z, if_pos z]
      exact .cons ⟨rfl, hs, r⟩ t
    · rw [if_neg z, if_neg z]
      exact .cons ⟨rfl, h2, h3⟩ (fs_put hs r t)
theorem ev_fld {a C : Addr} {fl : Fl} {fs : List (Str × Sl)} {f : Str} (ha : Ev K ta ε ms (.ref a)) (hm : ⟨a, fl, .obj C fs⟩ ∈ ms) (c : Cls K C) (n : NoAttr K C f) (hl : fs.lookup f = some s) : Ev K (tFld K ta f) ε ms s := fun Hk σ H1 w Q q =>
  ha Hk σ H1 w _ fun v Hn H2 g dv => by
    have ev : v = .ref a := dv
    subst ev
    obtain ⟨_, dx, vs, hv, hf⟩ := (w.grow g).mo _ hm
    obtain ⟨u, hu, ru⟩ := fs_lookup hf hl
    exact ⟨a, C, dx, vs, u, rfl, hv, c, n, hu, q u Hn H2 g ru⟩
theorem do_fld {a C : Addr} {fl : Fl} {fs : List (Str × Sl)} {f : Str} (hv : Ev K te ε ms s) (hs : s ≠ .un := by nofun) (ha : Ev K ta ε ms (.ref a)) (hm : ⟨a, fl, .obj C fs⟩ ∈ ms) (hf : fl ≠ .rd) (c : Cls K C) (n : NoAttr K C f) (hl : fs.length < 1000)
    (k : E.nx ε (setMo a (.obj C (putS f s fs)) ms)) : Do K (sFld K ta te f) ε ms E := fun M Hk0 H0 D S Hk σ H w g o =>
  hv Hk σ H w _ fun y Hn H2 g1 dy => ha Hn σ H2 (w.grow g1) _ fun v Hm H3 g2 dv => by
    have ev : v = .ref a := dv
    subst ev
    have w3 := (w.grow g1).grow g2
    obtain ⟨_, dx, vs, hv', hf'⟩ := w3.mo _ hm
    obtain ⟨w4, g4, o4⟩ := write_ok hm hf w3 (g.trans (g1.trans g2).nil) o (mo := .obj C (putS f s fs)) (u := .ins C dx (putF f y vs)) ⟨dx, _, upd_same, fs_put hs (dy.mono g2.kk) hf'⟩
    exact ⟨a, C, dx, vs, rfl, hv', c, n, by rw [← Paired.length hf']; exact hl, S.nx ε _ Hm σ _ k w4 g4 o4⟩
/-- .. a new list that stays one's own -/
theorem do_fldN {a C : Addr} {fl : Fl} {fs : List (Str × Sl)} {f : Str} {ds : List PyData} (hv : EvN K te ε ms ds) (ha : ∀ ms', Ev K ta ε ms' (.ref a)) (hm : ⟨a, fl, .obj C fs⟩ ∈ ms) (hf : fl ≠ .rd) (c : Cls K C) (n : NoAttr K C f) (hl : fs.length < 1000)
    (k : ∀ p, Apart ms [⟨p, .nw, .lst ds⟩] → E.nx ε (setMo a (.obj C (putS f (.ref p) fs)) (ms ++ [⟨p, .nw, .lst ds⟩]))) : Do K (sFld K ta te f) ε ms E := fun M Hk0 H0 D S Hk σ H w g o =>
  hv Hk σ H w _ fun p ms' Hn H2 hp g1 hfr hmo => by
    have e : ms' = [⟨p, .nw, .lst ds⟩] := hp
    subst e
    have ap := apart_of w.mo hfr
    have w2 := w.grow g1
    have w2' : Wd K ε (ms ++ [⟨p, .nw, .lst ds⟩]) Hn σ H2 := ⟨w2.same, w2.sg, mo_app w2.mo hmo⟩
    refine ha _ Hn σ H2 w2' _ fun v Hm H3 g2 dv => ?_
    have ev : v = .ref a := dv
    subst ev
    have w3 := w2'.grow g2
    have hm' : (⟨a, fl, .obj C fs⟩ : Me) ∈ ms ++ [⟨p, .nw, .lst ds⟩] := List.mem_append_left _ hm
    obtain ⟨_, dx, vs, hv', hf'⟩ := w3.mo _ hm'
    obtain ⟨w4, g4, o4⟩ := write_ok hm' hf w3 (g.trans (g1.trans g2).nil) (own_app o g hfr) (mo := .obj C (putS f (.ref p) fs)) (u := .ins C dx (putF f (.ref p) vs)) ⟨dx, _, upd_same, fs_put (s := .ref p) nofun rfl hf'⟩
    exact ⟨a, C, dx, vs, rfl, hv', c, n, by rw [← Paired.length hf']; exact hl, S.nx ε _ Hm σ _ (k p ap) w4 g4 o4⟩
/-- a method call that changes nothing -/
theorem ev_meth {C a : Addr} {m : Str} {fl : Fl} {fs : List (Str × Sl)} {f : Addr → Ms → List PyData → PyData → Prop} {ds : List PyData} {r : PyData} {ms' : Ms} (ha : Ev K ta ε ms (.ref a)) (hm : ⟨a, fl, .obj C fs⟩ ∈ ms) (hl : fs.lookup m = none) (h : EvA K t ε ms (ds.map .dat))
    (hs : ∀ e ∈ ms', e.fl = .rd ∧ ∃ e' ∈ ms, e'.at_ = e.at_ ∧ e'.mo = e.mo) (hf : f a ms' ds r) : Ev K (tMeth C m (ctr K (red0 f)) [] XE ta t) ε ms (.dat r) := fun Hk σ H1 w Q q =>
  ha Hk σ H1 w _ fun v Hn H2 g dv => by
    have ev : v = .ref a := dv
    subst ev
    obtain ⟨_, dx, vs, hv, hfs⟩ := (w.grow g).mo _ hm
    refine ⟨a, dx, vs, rfl, hv, fs_none hfs hl, h Hn σ H2 (w.grow g) _ fun us Hm H3 g2 dus => ?_⟩
    refine ⟨Hm, .ref a :: ds.map .dat, ms', [], _, ⟨a, ds, r, rfl, fun e he => (hs e he).1, rfl, hf, rfl⟩, g2.kn, ?_, mo_sub ((w.grow g).grow g2).mo fun e he => (hs e he).2, own_rd fun e he => (hs e he).1, fun v s' ms'' Ho H4 hr hv' _ g3 _ => ?_⟩
    · rw [List.append_nil]; exact .cons rfl dus
    · subst hr
      exact q v Ho H4 (g.trans (g2.trans g3)) hv'
/-- what stands at ms3 stands so in ms2; a flag is as it is told there, or as it was in ms -/
def Kept (ms ms2 ms3 : Ms) : Prop := ∀ e ∈ ms3, ∃ e0 ∈ ms2, e0.at_ = e.at_ ∧ e0.mo = e.mo ∧ (e.fl = e0.fl ∨ ∃ e1 ∈ ms, e1.at_ = e.at_ ∧ e1.fl = e.fl)
theorem Kept.of {ms ms2 ms3 : Ms} (h : ∀ e ∈ ms3, e ∈ ms2) : Kept ms ms2 ms3 := fun e he => ⟨e, h e he, rfl, rfl, .inl rfl⟩
/-- a method call as a statement: things are changed -/
theorem do_meth {C a : Addr} {m : Str} {fl : Fl} {fs : List (Str × Sl)} {Cc : Ct} {ss : List Sl} {ms' : Ms} {M' : List Addr} {R : Sl → Ms → Prop} (ha : Ev K ta ε ms (.ref a)) (hm : ⟨a, fl, .obj C fs⟩ ∈ ms) (hl : fs.lookup m = none) (h : EvA K t ε ms ss)
    (hs : ∀ e ∈ ms', ∃ e' ∈ ms, e'.at_ = e.at_ ∧ e'.mo = e.mo) (hw : ∀ e ∈ ms', e.fl = .rd ∨ (e.fl = .wr ∧ e.at_ ∈ M')) (hM : ∀ p ∈ M', ∃ e ∈ ms, e.at_ = p ∧ e.fl ≠ .rd) (hC : Cc (.ref a :: ss) ms' M' R)
    (k : ∀ s ms'', R s ms'' → (∀ e ∈ ms'', e.fl = .nw → ∀ e' ∈ ms, e'.at_ ≠ e.at_) → ∃ ms3, Kept ms (ms.filter (fun e => decide (e.at_ ∉ M')) ++ ms'') ms3 ∧ E.nx ε ms3) : Do K (tDrop (tMeth C m (ctr K Cc) [] XE ta t)) ε ms E := fun M Hk0 H0 D S Hk σ H w g o =>
  ha Hk σ H w _ fun v Hn H2 g1 dv => by
    have ev : v = .ref a := dv
    subst ev
    obtain ⟨_, dx, vs, hv, hfs⟩ := (w.grow g1).mo _ hm
    refine ⟨a, dx, vs, rfl, hv, fs_none hfs hl, h Hn σ H2 (w.grow g1) _ fun us Hm H3 g2 dus => ?_⟩
    have w3 := (w.grow g1).grow g2
    have g03 : Grow M Hk0 H0 Hm H3 := g.trans (g1.trans g2).nil
    refine ⟨Hm, .ref a :: ss, ms', M', R, hC, g2.kn, by rw [List.append_nil]; exact .cons rfl dus, mo_sub w3.mo hs, fun e he => ?_, fun v s' ms'' Ho H4 hr hv' hmo g3 o3 => ?_⟩
    · rcases hw e he with z | ⟨z, z'⟩
      · rw [z]; trivial
      · rw [z]; exact .inl z'
    · have fresh : ∀ e ∈ ms'', e.fl = .nw → ∀ e' ∈ ms, e'.at_ ≠ e.at_ := fun e he hn e' he' z => by
        have q := o3 e he
        rw [hn] at q
        obtain ⟨u, hu⟩ := (w3.mo e' he').2.some
        rw [z] at hu
        have q' : H3 e.at_ = none := q
        rw [q'] at hu
        cases hu
      have mM : ∀ p ∈ M', p ∈ M ∨ H0 p = none := fun p hp => by
        obtain ⟨e, he, e1, e2⟩ := hM p hp
        have q := o e he
        rw [← e1]
        cases hfl : e.fl with
        | rd => exact absurd hfl e2
        | wr => rw [hfl] at q; exact q
        | nw => rw [hfl] at q; exact .inr q
      have g04 : Grow M Hk0 H0 Ho H4 := g03.then g3 mM
      obtain ⟨ms3, h3, k3⟩ := k s' ms'' hr fresh
      have mo3 := mo_app (MsOk.grow (fun e he => w3.mo e (List.mem_filter.mp he).1) g3 fun e he => of_decide_eq_true (List.mem_filter.mp he).2) hmo
      refine S.nx ε ms3 Ho σ H4 k3 ⟨g3.kn, w3.sg.mono g3.kk, fun e he => ?_⟩ g04 fun e he => ?_
      · obtain ⟨e0, h1, h2, h4, _⟩ := h3 e he
        have := mo3 e0 h1
        rw [h2, h4] at this
        exact this
      obtain ⟨e0, h1, h2, h4, h5⟩ := h3 e he
      rcases h5 with h5 | ⟨e1, q1, q2, q3⟩
      · rw [h5, ← h2]
        rcases List.mem_append.mp h1 with z | z
        · exact o e0 (List.mem_filter.mp z).1
        · have q := o3 e0 z
          cases hfl : e0.fl with
          | rd => trivial
          | wr =>
            rw [hfl] at q
            rcases q with q | q
            · exact mM _ q
            · exact .inr (g03.fresh q)
          | nw =>
            rw [hfl] at q
            exact g03.fresh q
      · have q := o e1 q1
        rw [q3, q2] at q
        exact q
/-- a new object of a class -/
theorem eo_make {C : Addr} {Cc : Ct} {R : Addr → Sl → Ms → Prop} (h : EvA K t ε ms ss) (hC : ∀ x, Cc (.ref x :: ss) [⟨x, .wr, .obj C []⟩] [x] (R x)) (hR : ∀ x s ms', R x s ms' → s = .dat .none ∧ ∀ e ∈ ms', e.fl ≠ .rd) :
    EvO K (tMake C (ctr K Cc) [] XE t) ε ms (fun x ms'' => ∃ ms', R x (.dat .none) ms' ∧ ms'' = setNw ms') := fun Hk σ H1 w Q q =>
  h Hk σ H1 w _ fun vs Hn H2 g dvs x dx hx hdx hne => by
    have sm : Same Hn (upd (upd H2 dx (.own x)) x (.ins C dx [])) := same_upd (same_upd g.kn (same_back g.kn hdx)) (same_back g.kn hx)
    refine ⟨Hn, .ref x :: ss, [⟨x, .wr, .obj C []⟩], [x], R x, hC x, sm, by rw [List.append_nil]; exact .cons rfl dvs, fun e he => ?_, fun e he => ?_, fun v s ms' Hm H3 hr hv hmo g2 o2 => ?_⟩
    · cases List.mem_singleton.mp he
      exact ⟨same_back g.kn hx, dx, [], upd_same, .nil⟩
    · cases List.mem_singleton.mp he
      exact .inl List.mem_cons_self
    · obtain ⟨rfl, hfl⟩ := hR x s ms' hr
      have gx : Grow [] Hn H2 Hn (upd (upd H2 dx (.own x)) x (.ins C dx [])) :=
        (Grow.new g.kn hdx).trans (Grow.new (same_upd g.kn (same_back g.kn hdx)) (by rw [upd_ne hne.symm]; exact hx))
      have g3 : Grow [] Hk H1 Hm H3 := g.trans (gx.then g2 fun p hp => by cases List.mem_singleton.mp hp; exact .inr hx)
      refine ⟨dp_non hv, q x (setNw ms') Hm H3 ⟨ms', hr, rfl⟩ g3 (fun e he => ?_) fun e he => ?_⟩
      · obtain ⟨e0, h1, h2⟩ := List.mem_map.mp he
        have e1 : e.at_ = e0.at_ := by rw [← h2]
        rw [e1]
        have o := o2 e0 h1
        have back : ∀ p, (upd (upd H2 dx (.own x)) x (.ins C dx [])) p = none → H1 p = none := fun p hp => g.fresh (gx.fresh hp)
        cases hfl' : e0.fl with
        | rd => exact absurd hfl' (hfl e0 h1)
        | wr =>
          rw [hfl'] at o
          rcases o with o | o
          · rw [List.mem_singleton.mp o]; exact g.fresh hx
          · exact back _ o
        | nw => rw [hfl'] at o; exact back _ o
      · obtain ⟨e0, h1, h2⟩ := List.mem_map.mp he
        rw [← h2]
        exact hmo e0 h1
/-- a method of a new thing -/
theorem ev_methO {C : Addr} {m : Str} {P : Addr → Ms → Prop} {f : Addr → Ms → List PyData → PyData → Prop} {ds : List PyData} {r : PyData} (ha : EvO K ta ε ms P)
    (hP : ∀ x ms', P x ms' → ∃ fl fs, (⟨x, fl, .obj C fs⟩ : Me) ∈ ms' ∧ fs.lookup m = none ∧ EvA K t ε (ms ++ ms') (ds.map .dat) ∧ ∃ ms'', (∀ e ∈ ms'', e.fl = .rd ∧ ∃ e' ∈ ms ++ ms', e'.at_ = e.at_ ∧ e'.mo = e.mo) ∧ f x ms'' ds r) :
    Ev K (tMeth C m (ctr K (red0 f)) [] XE ta t) ε ms (.dat r) := fun Hk σ H1 w Q q =>
  ha Hk σ H1 w _ fun x ms' Hn H2 hp g hfr hmo => by
    obtain ⟨fl, fs, hm, hl, h, ms'', hs, hf⟩ := hP x ms' hp
    have w2 := w.grow g
    have w2' : Wd K ε (ms ++ ms') Hn σ H2 := ⟨w2.same, w2.sg, mo_app w2.mo hmo⟩
    obtain ⟨_, dx, vs, hv, hfs⟩ := hmo _ hm
    refine ⟨x, dx, vs, rfl, hv, fs_none hfs hl, h Hn σ H2 w2' _ fun us Hm H3 g2 dus => ?_⟩
    refine ⟨Hm, .ref x :: ds.map .dat, ms'', [], _, ⟨x, ds, r, rfl, fun e he => (hs e he).1, rfl, hf, rfl⟩, g2.kn, ?_, mo_sub (w2'.grow g2).mo fun e he => (hs e he).2, own_rd fun e he => (hs e he).1, fun v s' ms3 Ho H4 hr hv' _ g3 _ => ?_⟩
    · rw [List.append_nil]; exact .cons rfl dus
    · subst hr
      exact q v Ho H4 (g.trans (g2.trans g3)) hv'

/-! ### lists, tuples -/
theorem en_cat {d1 d2 : List PyData} (ha : Ev K ta ε ms (.dat (.list d1))) (hb : Ev K tb ε ms (.dat (.list d2))) (hz : d1.length + d2.length ≤ 100000) : EvN K (tOp rCat ta tb) ε ms (d1 ++ d2) := fun Hk σ H1 w Q q =>
  ha Hk σ H1 w _ fun v Hn H2 g dv => hb Hn σ H2 (w.grow g) _ fun u Hm H3 g2 du => by
    obtain ⟨a, xs, rfl, hx, dx⟩ := dp_list (Dq.mono g2.kk _ _ dv)
    obtain ⟨b, ys, rfl, hy, dy⟩ := dp_list du
    refine ⟨a, b, xs, ys, rfl, rfl, g2.kn _ _ hx, g2.kn _ _ hy, by rw [dx.length, dy.length]; exact Nat.le_trans hz (by decide), fun p hp => ?_⟩
    have G := g.trans g2
    refine q p _ Hm _ rfl (G.trans (Grow.new G.kn hp)) (fun e he => ?_) fun e he => ?_
    · cases List.mem_singleton.mp he
      exact G.fresh hp
    · cases List.mem_singleton.mp he
      exact ⟨same_back G.kn hp, _, upd_same, dx.app dy⟩
/-- the left one is one's own -/
theorem en_catM {a : Addr} {fl : Fl} {d1 d2 : List PyData} (ha : Ev K ta ε ms (.ref a)) (hm : ⟨a, fl, .lst d1⟩ ∈ ms) (hb : Ev K tb ε ms (.dat (.list d2))) (hz : d1.length + d2.length ≤ 100000) : EvN K (tOp rCat ta tb) ε ms (d1 ++ d2) := fun Hk σ H1 w Q q =>
  ha Hk σ H1 w _ fun v Hn H2 g dv => hb Hn σ H2 (w.grow g) _ fun u Hm H3 g2 du => by
    have ev : v = .ref a := dv
    subst ev
    obtain ⟨_, xs, hx, dx⟩ := ((w.grow g).grow g2).mo _ hm
    obtain ⟨b, ys, rfl, hy, dy⟩ := dp_list du
    refine ⟨a, b, xs, ys, rfl, rfl, hx, g2.kn _ _ hy, by rw [dx.length, dy.length]; exact Nat.le_trans hz (by decide), fun p hp => ?_⟩
    have G := g.trans g2
    refine q p _ Hm _ rfl (G.trans (Grow.new G.kn hp)) (fun e he => ?_) fun e he => ?_
    · cases List.mem_singleton.mp he
      exact G.fresh hp
    · cases List.mem_singleton.mp he
      exact ⟨same_back G.kn hp, _, upd_same, dx.app dy⟩
theorem en_rep {d1 : List PyData} {n : Nat} (ha : Ev K ta ε ms (.dat (.list d1))) (hb : Ev K tb ε ms (.dat (.int (n : Nat)))) (hz : d1.length * n ≤ 100000) (hn : n ≤ 100000) : EvN K (tOp rRep ta tb) ε ms (List.replicate n d1).flatten := fun Hk σ H1 w Q q =>
  ha Hk σ H1 w _ fun v Hn H2 g dv => hb Hn σ H2 (w.grow g) _ fun u Hm H3 g2 du => by
    obtain ⟨a, xs, rfl, hx, dx⟩ := dp_list (Dq.mono g2.kk _ _ dv)
    have eu : u = .int (n : Nat) := dp_int du
    subst eu
    have en : ((n : Nat) : Int).toNat = n := by omega
    refine ⟨a, (n : Nat), xs, rfl, rfl, g2.kn _ _ hx, by omega, by omega, by rw [dx.length, en]; exact Nat.le_trans hz (by decide), fun p hp => ?_⟩
    have G := g.trans g2
    rw [en]
    refine q p _ Hm _ rfl (G.trans (Grow.new G.kn hp)) (fun e he => ?_) fun e he => ?_
    · cases List.mem_singleton.mp he
      exact G.fresh hp
    · cases List.mem_singleton.mp he
      exact ⟨same_back G.kn hp, _, upd_same, dx.rep n⟩
theorem rep_flat (n : Nat) (d : PyData) : (List.replicate n [d]).flatten = List.replicate n d := by
  induction n with
  | zero => rfl
  | succ n ih => rw [List.replicate_succ, List.flatten_cons, ih, List.replicate_succ]; rfl
theorem en_rep1 {d : PyData} {n : Nat} (ha : Ev K ta ε ms (.dat (.list [d]))) (hb : Ev K tb ε ms (.dat (.int (n : Nat)))) (hn : n ≤ 100000) : EvN K (tOp rRep ta tb) ε ms (List.replicate n d) := by
  have h := en_rep ha hb (by rw [List.length_singleton]; omega) hn
  rw [rep_flat] at h
  exact h
theorem ev_catT {d1 d2 : List PyData} (ha : Ev K ta ε ms (.dat (.tuple d1))) (hb : Ev K tb ε ms (.dat (.tuple d2))) (h1 : d1 ≠ []) (h2 : d2 ≠ []) (hz : d1.length + d2.length ≤ 100000) : Ev K (tOp (rCatT K) ta tb) ε ms (.dat (.tuple (d1 ++ d2))) := fun Hk σ H1 w Q q =>
  ha Hk σ H1 w _ fun v Hn H2 g dv => hb Hn σ H2 (w.grow g) _ fun u Hm H3 g2 du => by
    obtain ⟨a, xs, rfl, hx, dx⟩ := dp_tuple (Dq.mono g2.kk _ _ dv)
    obtain ⟨b, ys, rfl, hy, dy⟩ := dp_tuple du
    have ne : ∀ {xs : List V} {ds : List PyData}, DqAll K Hm xs ds → ds ≠ [] → xs ≠ [] := fun h hd e => by subst e; cases h; exact hd rfl
    refine ⟨a, b, xs, ys, rfl, rfl, SqT.of (g2.kn _ _ hx), SqT.of (g2.kn _ _ hy), ne dx h1, by rw [dx.length, dy.length]; exact Nat.le_trans hz (by decide), fun e => absurd e (ne dy h2), fun _ p hp => ?_⟩
    have G := g.trans g2
    have hm := same_back G.kn hp
    refine q _ _ _ ((G.trans (Grow.new G.kn hp)).know (G.fresh hp) hm upd_same) (.tup upd_same (DqAll.mono (fun a u e => by rw [upd_ne (ne_of_none e hm)]; exact e) _ _ (dx.app dy)))

/-! ### built-in functions -/
theorem ev_len {ds : List PyData} (ha : Ev K ta ε ms (.dat (.list ds))) : Ev K (tCB (fun xs H Q => ∃ p ys, xs = [.ref p] ∧ (SqL K H p ys ∨ SqT K H p ys) ∧ Q (.int ys.length) H) (tCons ta tNil)) ε ms (.dat (.int (ds.length : Nat))) :=
  ev_cb (ea1 ha) fun Hk H vs sm _ dvs Q q => by
    obtain ⟨v, rfl, dv⟩ := sls1 dvs
    obtain ⟨a, xs, rfl, hx, dx⟩ := dp_list dv
    refine ⟨a, xs, rfl, .inl (SqL.of (sm _ _ hx)), ?_⟩
    rw [dx.length]
    exact q _ Hk H (.refl sm) (.int _)
theorem ev_lenT {ds : List PyData} (ha : Ev K ta ε ms (.dat (.tuple ds))) : Ev K (tCB (fun xs H Q => ∃ p ys, xs = [.ref p] ∧ (SqL K H p ys ∨ SqT K H p ys) ∧ Q (.int ys.length) H) (tCons ta tNil)) ε ms (.dat (.int (ds.length : Nat))) :=
  ev_cb (ea1 ha) fun Hk H vs sm _ dvs Q q => by
    obtain ⟨v, rfl, dv⟩ := sls1 dvs
    obtain ⟨a, xs, rfl, hx, dx⟩ := dp_tuple dv
    refine ⟨a, xs, rfl, .inr (SqT.of (sm _ _ hx)), ?_⟩
    rw [dx.length]
    exact q _ Hk H (.refl sm) (.int _)
theorem ev_lenM {a : Addr} {fl : Fl} {ds : List PyData} (ha : Ev K ta ε ms (.ref a)) (hm : ⟨a, fl, .lst ds⟩ ∈ ms) : Ev K (tCB (fun xs H Q => ∃ p ys, xs = [.ref p] ∧ (SqL K H p ys ∨ SqT K H p ys) ∧ Q (.int ys.length) H) (tCons ta tNil)) ε ms (.dat (.int (ds.length : Nat))) :=
  ev_cb (ea1 ha) fun Hk H vs sm mo dvs Q q => by
    obtain ⟨v, rfl, dv⟩ := sls1 dvs
    obtain ⟨_, xs, hx, dx⟩ := mo _ hm
    refine ⟨a, xs, by rw [show v = .ref a from dv], .inl (SqL.of hx), ?_⟩
    rw [dx.length]
    exact q _ Hk H (.refl sm) (.int _)
theorem ev_lenS {ns : List Int} (ha : Ev K ta ε ms (.scr ns)) : Ev K (tCB (fun xs H Q => ∃ p ys, xs = [.ref p] ∧ (SqL K H p ys ∨ SqT K H p ys) ∧ Q (.int ys.length) H) (tCons ta tNil)) ε ms (.dat (.int (ns.length : Nat))) :=
  ev_cb (ea1 ha) fun Hk H vs sm mo dvs Q q => by
    obtain ⟨v, rfl, a, rfl, hx⟩ := sls1 dvs
    refine ⟨a, _, rfl, .inl (sm.seq hx), ?_⟩
    rw [List.length_map]
    exact q _ Hk H (.refl sm) (.int _)
theorem ev_ixS {ns : List Int} {i z : Int} (ha : Ev K ta ε ms (.scr ns)) (hb : Ev K tb ε ms (.dat (.int i))) (e : atI ns i = some z) : Ev K (tOp (rIxL K) ta tb) ε ms (.dat (.int z)) :=
  ev_op ha hb fun Hk H v u sm _ dv du Q q => by
    obtain ⟨a, rfl, hx⟩ := dv
    have e' : atI (ns.map V.int) i = some (.int z) := by
      unfold atI at e ⊢
      rw [List.length_map]
      cases q : ixN ns.length i with
      | none => rw [q] at e; cases e
      | some j =>
        rw [q] at e
        have e2 : ns[j]? = some z := e
        show (ns.map V.int)[j]? = _
        rw [List.getElem?_map, e2]; rfl
    exact ⟨a, _, i, _, rfl, dp_int du, sm.seq hx, e', q _ Hk H (.refl sm) (.int _)⟩
def rListOf (K : PySem.W.Frag) : List V → Hp → VK → Prop := fun xs H Q => ∃ p ys, xs = [.ref p] ∧ (SqL K H p ys ∨ SqT K H p ys) ∧ ∀ l, H l = none → Q (.ref l) (upd H l (.lst ys))
theorem new_ok {Hk H : Hp} {p : Addr} {vs : List V} {ds : List PyData} (sm : Same Hk H) (hp : H p = none) (dd : DqAll K Hk vs ds) : Grow [] Hk H Hk (upd H p (.lst vs)) ∧ (∀ e ∈ ([⟨p, .nw, .lst ds⟩] : Ms), H e.at_ = none) ∧ MsOk K Hk (upd H p (.lst vs)) [⟨p, .nw, .lst ds⟩] :=
  ⟨Grow.new sm hp, fun e he => by cases List.mem_singleton.mp he; exact hp, fun e he => by cases List.mem_singleton.mp he; exact ⟨same_back sm hp, vs, upd_same, dd⟩⟩
theorem en_list {ds : List PyData} (ha : Ev K ta ε ms (.dat (.list ds))) : EvN K (tCB (fun xs H Q => ∃ p ys, xs = [.ref p] ∧ (SqL K H p ys ∨ SqT K H p ys) ∧ ∀ l, H l = none → Q (.ref l) (upd H l (.lst ys))) (tCons ta tNil)) ε ms ds :=
  en_cb (ea1 ha) fun Hk H vs sm _ dvs Q q => by
    obtain ⟨v, rfl, dv⟩ := sls1 dvs
    obtain ⟨a, xs, rfl, hx, dx⟩ := dp_list dv
    refine ⟨a, xs, rfl, .inl (SqL.of (sm _ _ hx)), fun p hp => ?_⟩
    obtain ⟨h1, h2, h3⟩ := new_ok sm hp dx
    exact q p _ Hk _ rfl h1 h2 h3
theorem ev_tupleOf {ds : List PyData} (ha : Ev K ta ε ms (.dat (.list ds))) : Ev K (tCB (fun xs H Q => ∃ p ys, xs = [.ref p] ∧ ((SqL K H p ys ∧ ∀ l, H l = none → Q (.ref l) (upd H l (.tup ys))) ∨ (SqT K H p ys ∧ Q (.ref p) H))) (tCons ta tNil)) ε ms (.dat (.tuple ds)) :=
  ev_cb (ea1 ha) fun Hk H vs sm _ dvs Q q => by
    obtain ⟨v, rfl, dv⟩ := sls1 dvs
    obtain ⟨a, xs, rfl, hx, dx⟩ := dp_list dv
    refine ⟨a, xs, rfl, .inl ⟨SqL.of (sm _ _ hx), fun p hp => ?_⟩⟩
    have hm := same_back sm hp
    exact q _ _ _ ((Grow.new sm hp).know hp hm upd_same) (.tup upd_same (DqAll.mono (fun a u e => by rw [upd_ne (ne_of_none e hm)]; exact e) _ _ dx))
theorem ev_any {bs : List Bool} (ha : Ev K ta ε ms (.dat (.list (dbls bs)))) : Ev K (tCB (rAny K) (tCons ta tNil)) ε ms (.dat (.bool (bs.any id))) :=
  ev_cb (ea1 ha) fun Hk H vs sm _ dvs Q q => by
    obtain ⟨v, rfl, dv⟩ := sls1 dvs
    obtain ⟨a, xs, rfl, hx, dx⟩ := dp_list dv
    rw [dp_bls dx] at hx
    exact ⟨a, bs, rfl, SqL.of (sm _ _ hx), q _ Hk H (.refl sm) (.bl _)⟩
theorem ev_all {bs : List Bool} (ha : Ev K ta ε ms (.dat (.list (dbls bs)))) : Ev K (tCB (rAll K) (tCons ta tNil)) ε ms (.dat (.bool (bs.all id))) :=
  ev_cb (ea1 ha) fun Hk H vs sm _ dvs Q q => by
    obtain ⟨v, rfl, dv⟩ := sls1 dvs
    obtain ⟨a, xs, rfl, hx, dx⟩ := dp_list dv
    rw [dp_bls dx] at hx
    exact ⟨a, bs, rfl, SqL.of (sm _ _ hx), q _ Hk H (.refl sm) (.bl _)⟩
theorem ev_sum {ns : List Int} (ha : Ev K ta ε ms (.dat (.list (dints ns)))) : Ev K (tCB (rSum K) (tCons ta tNil)) ε ms (.dat (.int ns.sum)) :=
  ev_cb (ea1 ha) fun Hk H vs sm _ dvs Q q => by
    obtain ⟨v, rfl, dv⟩ := sls1 dvs
    obtain ⟨a, xs, rfl, hx, dx⟩ := dp_list dv
    rw [dp_ints dx] at hx
    exact ⟨a, ns, rfl, SqL.of (sm _ _ hx), q _ Hk H (.refl sm) (.int _)⟩
theorem ev_abs {i : Int} (ha : Ev K ta ε ms (.dat (.int i))) : Ev K (tCB (fun xs H Q => ∃ i, xs = [.int i] ∧ Q (.int (if i < 0 then -i else i)) H) (tCons ta tNil)) ε ms (.dat (.int (if i < 0 then -i else i))) :=
  ev_cb (ea1 ha) fun Hk H vs sm _ dvs Q q => by
    obtain ⟨v, rfl, dv⟩ := sls1 dvs
    exact ⟨i, by rw [dp_int dv], q _ Hk H (.refl sm) (.int _)⟩
theorem ev_intI {i : Int} (ha : Ev K ta ε ms (.dat (.int i))) : Ev K (tCB (fun xs H Q => (∃ i, xs = [.int i] ∧ Q (.int i) H) ∨ ∃ k, xs = [.bl k] ∧ Q (.int (if k then 1 else 0)) H) (tCons ta tNil)) ε ms (.dat (.int i)) :=
  ev_cb (ea1 ha) fun Hk H vs sm _ dvs Q q => by
    obtain ⟨v, rfl, dv⟩ := sls1 dvs
    exact .inl ⟨i, by rw [dp_int dv], q _ Hk H (.refl sm) (.int _)⟩
theorem ev_intB {b : Bool} (ha : Ev K ta ε ms (.dat (.bool b))) : Ev K (tCB (fun xs H Q => (∃ i, xs = [.int i] ∧ Q (.int i) H) ∨ ∃ k, xs = [.bl k] ∧ Q (.int (if k then 1 else 0)) H) (tCons ta tNil)) ε ms (.dat (.int (if b then 1 else 0))) :=
  ev_cb (ea1 ha) fun Hk H vs sm _ dvs Q q => by
    obtain ⟨v, rfl, dv⟩ := sls1 dvs
    exact .inr ⟨b, by rw [dp_bl dv], q _ Hk H (.refl sm) (.int _)⟩
theorem ev_max2 {i j : Int} (ha : Ev K ta ε ms (.dat (.int i))) (hb : Ev K tb ε ms (.dat (.int j))) : Ev K (tCB (fun xs H Q => ∃ i j, xs = [.int i, .int j] ∧ Q (.int (if j > i then j else i)) H) (tCons ta (tCons tb tNil))) ε ms (.dat (.int (if j > i then j else i))) :=
  ev_cb (ea2 ha hb) fun Hk H vs sm _ dvs Q q => by
    obtain ⟨v, u, rfl, dv, du⟩ := sls2 dvs
    exact ⟨i, j, by rw [dp_int dv, dp_int du], q _ Hk H (.refl sm) (.int _)⟩
theorem ev_min2 {i j : Int} (ha : Ev K ta ε ms (.dat (.int i))) (hb : Ev K tb ε ms (.dat (.int j))) : Ev K (tCB (fun xs H Q => ∃ i j, xs = [.int i, .int j] ∧ Q (.int (if j < i then j else i)) H) (tCons ta (tCons tb tNil))) ε ms (.dat (.int (if j < i then j else i))) :=
  ev_cb (ea2 ha hb) fun Hk H vs sm _ dvs Q q => by
    obtain ⟨v, u, rfl, dv, du⟩ := sls2 dvs
    exact ⟨i, j, by rw [dp_int dv, dp_int du], q _ Hk H (.refl sm) (.int _)⟩
theorem ev_gcd {i j : Int} (ha : Ev K ta ε ms (.dat (.int i))) (hb : Ev K tb ε ms (.dat (.int j))) : Ev K (tCB rGcd (tCons ta (tCons tb tNil))) ε ms (.dat (.int (Int.gcd i j : Int))) :=
  ev_cb (ea2 ha hb) fun Hk H vs sm _ dvs Q q => by
    obtain ⟨v, u, rfl, dv, du⟩ := sls2 dvs
    exact ⟨i, j, by rw [dp_int dv, dp_int du], q _ Hk H (.refl sm) (.int _)⟩
theorem ev_bits {i : Int} (ha : Ev K ta ε ms (.dat (.int i))) : Ev K (tBits ta) ε ms (.dat (.int (Builtin.Int.intBits i : Nat))) := fun Hk σ H1 w Q q =>
  ha Hk σ H1 w _ fun v Hn H2 g dv => ⟨i, dp_int dv, q _ Hn H2 g (.int _)⟩
/-- sorted of ints: the result is the one that is ascending -/
theorem perm_sorted_uniq : ∀ {xs ys : List Int}, xs.Perm ys → xs.Pairwise (· ≤ ·) → ys.Pairwise (· ≤ ·) → xs = ys := fun h h1 h2 => h.eq_of_pairwise (fun a b _ _ p q => Int.le_antisymm p q) h1 h2
theorem en_sorted {ns ms' : List Int} (ha : Ev K ta ε ms (.dat (.list (dints ns)))) (hz : ns.length < 64) (hp : ms'.Perm ns) (hs : ms'.Pairwise (· ≤ ·)) : EvN K (tCB (rSorted K) (tCons ta tNil)) ε ms (dints ms') :=
  en_cb (ea1 ha) fun Hk H vs sm _ dvs Q q => by
    obtain ⟨v, rfl, dv⟩ := sls1 dvs
    obtain ⟨a, xs, rfl, hx, dx⟩ := dp_list dv
    rw [dp_ints dx] at hx
    refine ⟨a, ns, rfl, SqL.of (sm _ _ hx), hz, fun ns' p hp' hs' hfr => ?_⟩
    have e := perm_sorted_uniq (hp'.trans hp.symm) hs' hs
    subst e
    have dd : ∀ l : List Int, DqAll K Hk (l.map V.int) (dints l) := fun l => by
      induction l with
      | nil => exact .nil
      | cons a r ih => exact .cons (.int a) ih
    obtain ⟨h1, h2, h3⟩ := new_ok sm hfr (dd ns')
    exact q p _ Hk _ rfl h1 h2 h3
/-- xs.index(y), ints -/
theorem ev_index {ns : List Int} {y : Int} {j : Nat} (ha : Ev K ta ε ms (.dat (.list (dints ns)))) (hb : Ev K tb ε ms (.dat (.int y))) (h1 : ns[j]? = some y) (h2 : ∀ m z, m < j → ns[m]? = some z → z ≠ y) : Ev K (tBM K "list" (rIndex K) ta (tCons tb tNil)) ε ms (.dat (.int (j : Nat))) := fun Hk σ H1 w Q q =>
  ha Hk σ H1 w _ fun v Hn H2 g dv => by
    obtain ⟨a, xs, rfl, hx, dx⟩ := dp_list dv
    rw [dp_ints dx] at hx
    refine ⟨Or.inl ⟨rfl, _, SqL.of (g.kn _ _ hx)⟩, hb Hn σ H2 (w.grow g) _ fun u Hm H3 g2 du => ?_⟩
    refine ⟨a, ns.map V.int, .int y, j, .int y, rfl, by rw [dp_int du], SqL.of (g2.kn _ _ (g2.kk _ _ hx)), rfl, ?_, by rw [List.getElem?_map, h1]; rfl, ?_, fun m z hm hz => ?_, q _ Hm H3 (g.trans g2) (.int _)⟩
    · rw [List.all_map]
      exact List.all_eq_true.mpr fun _ _ => rfl
    · show (y == y) = true
      simp
    · rw [List.getElem?_map] at hz
      cases e : ns[m]? with
      | none => rw [e] at hz; cases hz
      | some n =>
        rw [e] at hz
        have hz' := Option.some.inj hz
        subst hz'
        show (n == y) = false
        exact beq_eq_false_iff_ne.mpr (h2 m n hm e)
/-- x in xs, ints -/
theorem inV_int (y : Int) : ∀ (ns : List Int), inV (.int y) (ns.map V.int) = decide (y ∈ ns)
  | [] => rfl
  | n :: ns => by
    have ih := inV_int y ns
    unfold inV at ih ⊢
    rw [List.map_cons, List.any_cons, ih]
    show ((n == y) || decide (y ∈ ns)) = _
    by_cases z : n = y
    · subst z; simp
    · have : (n == y) = false := beq_eq_false_iff_ne.mpr z
      rw [this, Bool.false_or]
      exact decide_eq_decide.mpr ⟨fun h => List.mem_cons_of_mem _ h, fun h => (List.mem_cons.mp h).elim (fun e => absurd e.symm z) id⟩
theorem flat_ints (ns : List Int) : (ns.map V.int).all flatV = true := by rw [List.all_map]; exact List.all_eq_true.mpr fun _ _ => rfl
theorem ev_in {ns : List Int} {y : Int} (ha : Ev K ta ε ms (.dat (.int y))) (hb : Ev K tb ε ms (.dat (.list (dints ns)))) : Ev K (tOp (rIn K false) ta tb) ε ms (.dat (.bool (decide (y ∈ ns)))) :=
  ev_op ha hb fun Hk H v u sm _ dv du Q q => by
    obtain ⟨a, xs, rfl, hx, dx⟩ := dp_list du
    rw [dp_ints dx] at hx
    have ev : v = .int y := dp_int dv
    subst ev
    refine ⟨a, _, rfl, .inl (SqL.of (sm _ _ hx)), rfl, flat_ints ns, ?_⟩
    show Q (.bl (inV (.int y) (ns.map V.int))) H
    rw [inV_int]
    exact q _ Hk H (.refl sm) (.bl _)
theorem ev_inM {a : Addr} {fl : Fl} {ns : List Int} {y : Int} (ha : Ev K ta ε ms (.dat (.int y))) (hb : Ev K tb ε ms (.ref a)) (hm : ⟨a, fl, .lst (dints ns)⟩ ∈ ms) : Ev K (tOp (rIn K false) ta tb) ε ms (.dat (.bool (decide (y ∈ ns)))) :=
  ev_op ha hb fun Hk H v u sm mo dv du Q q => by
    obtain ⟨_, xs, hx, dx⟩ := mo _ hm
    rw [dp_ints dx] at hx
    have ev : v = .int y := dp_int dv
    subst ev
    refine ⟨a, _, du, .inl (SqL.of hx), rfl, flat_ints ns, ?_⟩
    show Q (.bl (inV (.int y) (ns.map V.int))) H
    rw [inV_int]
    exact q _ Hk H (.refl sm) (.bl _)
theorem ev_niM {a : Addr} {fl : Fl} {ns : List Int} {y : Int} (ha : Ev K ta ε ms (.dat (.int y))) (hb : Ev K tb ε ms (.ref a)) (hm : ⟨a, fl, .lst (dints ns)⟩ ∈ ms) : Ev K (tOp (rIn K true) ta tb) ε ms (.dat (.bool (!decide (y ∈ ns)))) :=
  ev_op ha hb fun Hk H v u sm mo dv du Q q => by
    obtain ⟨_, xs, hx, dx⟩ := mo _ hm
    rw [dp_ints dx] at hx
    have ev : v = .int y := dp_int dv
    subst ev
    refine ⟨a, _, du, .inl (SqL.of hx), rfl, flat_ints ns, ?_⟩
    show Q (.bl (!inV (.int y) (ns.map V.int))) H
    rw [inV_int]
    exact q _ Hk H (.refl sm) (.bl _)
/-- is None, is not None -/
def isNon : PyData → Bool
  | .none => true
  | _ => false
theorem ev_isNotNone {d : PyData} (ha : Ev K ta ε ms (.dat d)) : Ev K (tNotN ta) ε ms (.dat (.bool (!isNon d))) := fun Hk σ H1 w Q q =>
  ha Hk σ H1 w _ fun v Hn H2 g dv => by
    have e : (!decide (v = V.non)) = (!isNon d) := by cases dv <;> rfl
    show Q (.bl (!decide (v = V.non))) H2
    rw [e]
    exact q _ Hn H2 g (.bl _)
theorem ev_isNone {d : PyData} (ha : Ev K ta ε ms (.dat d)) : Ev K (tIsN ta) ε ms (.dat (.bool (isNon d))) := fun Hk σ H1 w Q q =>
  ha Hk σ H1 w _ fun v Hn H2 g dv => by
    have e : decide (v = V.non) = isNon d := by cases dv <;> rfl
    show Q (.bl (decide (v = V.non))) H2
    rw [e]
    exact q _ Hn H2 g (.bl _)
/-- isinstance(x, T), T a built-in class -/
def tyName : PyData → String
  | .none => "NoneType"
  | .bool _ => "bool"
  | .int _ => "int"
  | .str _ => "str"
  | .list _ => "list"
  | .tuple _ => "tuple"
  | .dict _ => "dict"
theorem tyx {H Hk : Hp} {v : V} {d : PyData} (sm : Same Hk H) (h : Dq K Hk v d) : TyX K H v (.type (tyName d)) := by
  cases h with
  | non => exact .base .non
  | bl b => exact .base (.bl b)
  | int i => exact .base (.int i)
  | str x => exact .base (.str x)
  | lst hs _ => exact .base (.lst (sm _ _ hs))
  | tup hs _ => exact .base (.tup (sm _ _ hs))
theorem ev_isi {d : PyData} {n : String} {b : Bool} (ha : Ev K ta ε ms (.dat d)) (hb : kitB (tyName d) n = some b) : Ev K (tCB (rIsi K) (tCons ta (tCons (tC (.ty n)) tNil))) ε ms (.dat (.bool b)) := fun Hk σ H1 w Q q =>
  ha Hk σ H1 w _ fun v Hn H2 g dv => ⟨v, .ty n, _, _, b, rfl, .ty n, tyx g.kn dv, kit_ty hb, q _ Hn H2 g (.bl _)⟩

/-! ### dicts -/
theorem eo_dnew : EvO K tDNewK ε ms (fun x ms' => ms' = [⟨x, .nw, .dct []⟩]) := fun Hk σ H1 w Q q p hp =>
  q p _ Hk _ rfl (Grow.new w.same hp) (fun e he => by cases List.mem_singleton.mp he; exact hp) fun e he => by cases List.mem_singleton.mp he; exact ⟨same_back w.same hp, [], upd_same, .nil⟩
abbrev KvOk (K : PySem.W.Frag) (Hk : Hp) : List (Key × PyData) → List (Key × V) → Prop := Paired (fun (p : Key × PyData) (q : Key × V) => p.1 = q.1 ∧ Dq K Hk q.2 p.2)
/-- what a dict of data holds at a key -/
def valD (kvs : List (Key × PyData)) (k : Key) : Option PyData := (kvs.find? fun kv => decide (kv.1 = k)).map (·.2)
def putD (kvs : List (Key × PyData)) (k : Key) (v : PyData) : List (Key × PyData) :=
  if (kvs.any fun kv => decide (kv.1 = k)) = true then kvs.map (fun kv => if kv.1 = k then (kv.1, v) else kv) else kvs ++ [(k, v)]
theorem kv_val {Hk : Hp} {k : Key} : ∀ {kvs : List (Key × PyData)} {vs : List (Key × V)}, KvOk K Hk kvs vs → (∀ d, valD kvs k = some d → ∃ v, valV vs k = some v ∧ Dq K Hk v d) ∧ (valD kvs k = none → valV vs k = none)
  | _, _, .nil => ⟨fun d e => (by cases e), fun _ => rfl⟩
  | (a, x) :: kvs, (b, y) :: vs, .cons ⟨h1, h2⟩ t => by
    have h1' : a = b := h1
    subst h1'
    have ih := kv_val (k := k) t
    unfold valD valV at ih ⊢
    rw [List.find?_cons, List.find?_cons]
    by_cases z : a = k
    · simp only [z, decide_true]
      exact ⟨fun d e => ⟨y, rfl, (by have e' := Option.some.inj e; rw [← e']; exact h2)⟩, fun e => (by cases e)⟩
    · simp only [z, decide_false]
      exact ih
theorem kv_any {Hk : Hp} {k : Key} : ∀ {kvs : List (Key × PyData)} {vs : List (Key × V)}, KvOk K Hk kvs vs → (kvs.any fun kv => decide (kv.1 = k)) = (vs.any fun kv => decide (kv.1 = k))
  | _, _, .nil => rfl
  | (a, x) :: kvs, (b, y) :: vs, .cons ⟨h1, h2⟩ t => by
    have h1' : a = b := h1
    subst h1'
    rw [List.any_cons, List.any_cons, kv_any t]
theorem kv_put {Hk : Hp} {k : Key} {d : PyData} {v : V} (hd : Dq K Hk v d) {kvs : List (Key × PyData)} {vs : List (Key × V)} (h : KvOk K Hk kvs vs) : KvOk K Hk (putD kvs k d) (putK vs k v) := by
  unfold putD putK
  rw [kv_any h]
  by_cases z : (vs.any fun kv => decide (kv.1 = k)) = true
  · rw [if_pos z, if_pos z]
    clear z
    induction h with
    | nil => exact .nil
    | cons h1 t ih =>
      rename_i p q _ _
      obtain ⟨e1, e2⟩ := h1
      refine .cons ?_ ih
      show (if p.1 = k then (p.1, d) else p).1 = (if q.1 = k then (q.1, v) else q).1 ∧ Dq K Hk (if q.1 = k then (q.1, v) else q).2 (if p.1 = k then (p.1, d) else p).2
      by_cases z : p.1 = k
      · rw [if_pos z, if_pos (e1 ▸ z)]
        exact ⟨e1, hd⟩
      · rw [if_neg z, if_neg (e1 ▸ z)]
        exact ⟨e1, e2⟩
  · rw [if_neg z, if_neg z]
    clear z
    induction h with
    | nil => exact .cons ⟨rfl, hd⟩ .nil
    | cons h1 t ih => exact .cons h1 ih
theorem valD_put (kvs : List (Key × PyData)) (k j : Key) (y : PyData) : valD (putD kvs k y) j = if j = k then some y else valD kvs j := by
  have any : ∀ (kvs : List (Key × PyData)), (kvs.any fun kv => decide (kv.1 = k)) = (valD kvs k).isSome := fun kvs => by
    induction kvs with
    | nil => rfl
    | cons p r ih =>
      unfold valD at ih ⊢
      rw [List.any_cons, List.find?_cons, ih]
      by_cases z : p.1 = k
      · simp [z]
      · simp [z]
  unfold putD
  by_cases a : (kvs.any fun kv => decide (kv.1 = k)) = true
  · rw [if_pos a]
    rw [any] at a
    induction kvs with
    | nil => cases a
    | cons p r ih =>
      unfold valD at ih a ⊢
      rw [List.map_cons, List.find?_cons, List.find?_cons]
      rw [List.find?_cons] at a
      by_cases z : p.1 = k
      · rw [if_pos z]
        by_cases q : j = k
        · subst q; simp [z]
        · have : ¬ p.1 = j := fun e => q (e.symm.trans z)
          simp only [this, decide_false, if_neg q]
          by_cases b : (Option.map (·.2) (List.find? (fun kv => decide (kv.1 = k)) r)).isSome = true
          · have := ih b
            rw [if_neg q] at this
            exact this
          · have nf : ∀ kv ∈ r, ¬ kv.1 = k := fun kv hkv e => b (by
              have : (r.any fun kv => decide (kv.1 = k)) = true := List.any_eq_true.mpr ⟨kv, hkv, by simp [e]⟩
              rw [any] at this
              exact this)
            have em : r.map (fun kv => if kv.1 = k then (kv.1, y) else kv) = r := by
              conv => rhs; rw [← List.map_id r]
              exact List.map_congr_left fun kv hkv => if_neg (nf kv hkv)
            rw [em]
      · rw [if_neg z]
        by_cases q : p.1 = j
        · have : ¬ j = k := fun e => z (q.trans e)
          simp [q, this]
        · simp only [z, decide_false] at a
          simp only [q, decide_false]
          exact ih a
  · rw [if_neg a]
    rw [any] at a
    induction kvs with
    | nil =>
      unfold valD
      by_cases q : j = k
      · simp [q]
      · have : ¬ k = j := fun e => q e.symm
        simp [q, this]
    | cons p r ih =>
      unfold valD at ih a ⊢
      rw [List.find?_cons] at a
      rw [List.cons_append, List.find?_cons, List.find?_cons]
      have z : ¬ p.1 = k := fun e => a (by simp [e])
      by_cases q : p.1 = j
      · have : ¬ j = k := fun e => z (q.trans e)
        simp [q, this]
      · simp only [z, decide_false] at a
        simp only [q, decide_false]
        exact ih a
theorem ev_dget {a : Addr} {fl : Fl} {kvs : List (Key × PyData)} {i : Int} {d : PyData} (ha : Ev K ta ε ms (.ref a)) (hb : Ev K tb ε ms (.dat (.int i))) (hm : ⟨a, fl, .dct kvs⟩ ∈ ms) (e : valD kvs (Sum.inl i) = some d) : Ev K (tDGet ta tb) ε ms (.dat d) := fun Hk σ H1 w Q q =>
  ha Hk σ H1 w _ fun v Hn H2 g dv => hb Hn σ H2 (w.grow g) _ fun u Hm H3 g2 du => by
    obtain ⟨_, vs, hv, hk⟩ := ((w.grow g).grow g2).mo _ hm
    obtain ⟨x, hx, dx⟩ := (kv_val (k := Sum.inl i) hk).1 d e
    refine ⟨a, x, dv, ?_, q x Hm H3 (g.trans g2) dx⟩
    rw [dp_int du, ← hx]
    exact DGet.k (k := Sum.inl i) hv
theorem ev_din {a : Addr} {fl : Fl} {kvs : List (Key × PyData)} {i : Int} (hb : Ev K tb ε ms (.dat (.int i))) (ha : Ev K ta ε ms (.ref a)) (hm : ⟨a, fl, .dct kvs⟩ ∈ ms) : Ev K (tDIn tb ta) ε ms (.dat (.bool (valD kvs (Sum.inl i)).isSome)) := fun Hk σ H1 w Q q =>
  hb Hk σ H1 w _ fun u Hn H2 g du => ha Hn σ H2 (w.grow g) _ fun v Hm H3 g2 dv => by
    obtain ⟨_, vs, hv, hk⟩ := ((w.grow g).grow g2).mo _ hm
    refine ⟨a, valV vs (Sum.inl i), dv, by rw [dp_int du]; exact DGet.k (k := Sum.inl i) hv, ?_⟩
    have e : (valV vs (Sum.inl i)).isSome = (valD kvs (Sum.inl i)).isSome := by
      have h := kv_val (k := Sum.inl i) hk
      cases q : valD kvs (Sum.inl i) with
      | none => rw [h.2 q]; rfl
      | some d => obtain ⟨x, hx, _⟩ := h.1 d q; rw [hx]; rfl
    rw [e]
    exact q _ Hm H3 (g.trans g2) (.bl _)
theorem do_dput {a : Addr} {fl : Fl} {kvs : List (Key × PyData)} {i : Int} {d : PyData} (hv : Ev K te ε ms (.dat d)) (ha : Ev K ta ε ms (.ref a)) (hb : Ev K tb ε ms (.dat (.int i))) (hm : ⟨a, fl, .dct kvs⟩ ∈ ms) (hf : fl ≠ .rd) (hz : kvs.length < 100000)
    (k : E.nx ε (setMo a (.dct (putD kvs (Sum.inl i) d)) ms)) : Do K (sDPut ta tb te) ε ms E := fun M Hk0 H0 D S Hk σ H w g o =>
  hv Hk σ H w _ fun x Hn H2 g1 dx => ha Hn σ H2 (w.grow g1) _ fun v Hm H3 g2 dv => hb Hm σ H3 ((w.grow g1).grow g2) _ fun y Ho H4 g3 dy => by
    have ev : v = .ref a := dv
    have ey : y = .int i := dp_int dy
    subst ev ey
    have w4 := ((w.grow g1).grow g2).grow g3
    obtain ⟨_, vs, hv', hk⟩ := w4.mo _ hm
    obtain ⟨w5, g5, o5⟩ := write_ok hm hf w4 (g.trans (g1.trans (g2.trans g3)).nil) o (mo := .dct (putD kvs (Sum.inl i) d)) (u := .dK (putK vs (Sum.inl i) x)) ⟨_, upd_same, kv_put (Dq.mono (g2.kk.trans g3.kk) _ _ dx) hk⟩
    exact ⟨a, _, rfl, DPut.k (k := Sum.inl i) hv' (by rw [← Paired.length hk]; exact Nat.lt_trans hz (by decide)), S.nx ε _ Ho σ _ k w5 g5 o5⟩
end
end Rl
set_option Elab.async false
set_option linter.all false
set_option maxRecDepth 100000
set_option maxHeartbeats 1000000
/-! The data layer, part 4: lists by a function of the place; writes that read; things that become known within objects. -/
namespace Rl
open PySem L2
/-- the list of F 0, .., F (n - 1) -/
def rg (n : Nat) (F : Nat → PyData) : List PyData := (List.range n).map F
theorem rg_len (n : Nat) (F : Nat → PyData) : (rg n F).length = n := by unfold rg; rw [List.length_map, List.length_range]
theorem rg_at {n i : Nat} {F : Nat → PyData} (h : i < n) : (rg n F)[i]? = some (F i) := by unfold rg; rw [List.getElem?_map, List.getElem?_range h]; rfl
theorem rg_get {n i : Nat} {F : Nat → PyData} {d : PyData} (h : (rg n F)[i]? = some d) : i < n ∧ d = F i := by
  have h1 := (List.getElem?_eq_some_iff.mp h).1
  rw [rg_len] at h1
  rw [rg_at h1] at h
  exact ⟨h1, (Option.some.inj h).symm⟩
theorem rg_congr {n : Nat} {F G : Nat → PyData} (h : ∀ i, i < n → F i = G i) : rg n F = rg n G := by
  unfold rg
  exact List.map_congr_left fun i hi => h i (List.mem_range.mp hi)
theorem rg_succ (n : Nat) (F : Nat → PyData) : rg (n + 1) F = rg n F ++ [F n] := by unfold rg; rw [List.range_succ, List.map_append]; rfl
theorem rg_zero (F : Nat → PyData) : rg 0 F = [] := rfl
theorem rg_set {n i : Nat} {F : Nat → PyData} {d : PyData} : (rg n F).set i d = rg n fun j => if j = i then d else F j := by
  refine List.ext_getElem? fun j => ?_
  by_cases hj : j < n
  · rw [rg_at hj]
    by_cases z : j = i
    · subst z
      rw [List.getElem?_set_self (by rw [rg_len]; exact hj), if_pos rfl]
    · rw [List.getElem?_set_ne (fun q => z q.symm), rg_at hj, if_neg z]
  · rw [List.getElem?_eq_none (by rw [List.length_set, rg_len]; omega), List.getElem?_eq_none (by rw [rg_len]; omega)]
theorem rg_rep (n : Nat) (d : PyData) : List.replicate n d = rg n fun _ => d := by
  refine List.ext_getElem? fun j => ?_
  by_cases hj : j < n
  · rw [rg_at hj, List.getElem?_replicate_of_lt hj]
  · rw [List.getElem?_eq_none (by rw [List.length_replicate]; omega), List.getElem?_eq_none (by rw [rg_len]; omega)]
theorem rg_app (n m : Nat) (F G : Nat → PyData) : rg n F ++ rg m G = rg (n + m) fun i => if i < n then F i else G (i - n) := by
  refine List.ext_getElem? fun j => ?_
  by_cases hj : j < n
  · rw [List.getElem?_append_left (by rw [rg_len]; exact hj), rg_at hj, rg_at (by omega), if_pos hj]
  · rw [List.getElem?_append_right (by rw [rg_len]; omega), rg_len]
    by_cases hk : j < n + m
    · rw [rg_at (by omega), rg_at hk, if_neg hj]
    · rw [List.getElem?_eq_none (by rw [rg_len]; omega), List.getElem?_eq_none (by rw [rg_len]; omega)]
theorem rg_take {n k : Nat} {F : Nat → PyData} (h : k ≤ n) : (rg n F).take k = rg k F := by
  refine List.ext_getElem? fun j => ?_
  by_cases hj : j < k
  · rw [List.getElem?_take_of_lt hj, rg_at (by omega), rg_at hj]
  · rw [List.getElem?_eq_none (by rw [List.length_take, rg_len]; omega), List.getElem?_eq_none (by rw [rg_len]; omega)]
theorem rg_drop {n k : Nat} {F : Nat → PyData} : (rg n F).drop k = rg (n - k) fun i => F (k + i) := by
  refine List.ext_getElem? fun j => ?_
  rw [List.getElem?_drop]
  by_cases hj : j < n - k
  · rw [rg_at (by omega), rg_at hj]
  · rw [List.getElem?_eq_none (by rw [rg_len]; omega), List.getElem?_eq_none (by rw [rg_len]; omega)]
theorem rg_map (n : Nat) (F : Nat → PyData) (G : PyData → PyData) : (rg n F).map G = rg n fun i => G (F i) := by unfold rg; rw [List.map_map]; rfl
/-- any list is one -/
theorem rg_of (ds : List PyData) : ds = rg ds.length fun i => ds.getD i .none := by
  refine List.ext_getElem? fun j => ?_
  by_cases hj : j < ds.length
  · rw [rg_at hj, List.getD_eq_getElem?_getD, List.getElem?_eq_getElem hj]; rfl
  · rw [List.getElem?_eq_none (by omega), List.getElem?_eq_none (by rw [rg_len]; omega)]
theorem dints_rg (n : Nat) (f : Nat → Int) : dints ((List.range n).map f) = rg n fun i => .int (f i) := by
  show List.map PyData.int ((List.range n).map f) = _
  rw [List.map_map]; rfl
theorem dints_of (xs : List Int) : dints xs = rg xs.length fun i => .int (xs.getD i 0) := by
  refine List.ext_getElem? fun j => ?_
  show (List.map PyData.int xs)[j]? = _
  by_cases hj : j < xs.length
  · rw [rg_at hj, List.getElem?_map, List.getElem?_eq_getElem hj, List.getD_eq_getElem?_getD, List.getElem?_eq_getElem hj]; rfl
  · rw [List.getElem?_eq_none (by rw [List.length_map]; omega), List.getElem?_eq_none (by rw [rg_len]; omega)]
theorem nums_rg (lo : Int) (n : Nat) : nums lo n = rg n fun i => .int (lo + (i : Nat)) := rfl
theorem zip_rg (n : Nat) (F G : Nat → PyData) : zipD (rg n F) (rg n G) = rg n fun i => .tuple [F i, G i] := by
  refine List.ext_getElem? fun j => ?_
  by_cases hj : j < n
  · rw [rg_at hj]
    unfold zipD
    rw [List.getElem?_map, (List.getElem?_zip_eq_some (z := (F j, G j))).mpr ⟨rg_at hj, rg_at hj⟩]; rfl
  · rw [List.getElem?_eq_none (by rw [zip_len, rg_len, rg_len]; omega), List.getElem?_eq_none (by rw [rg_len]; omega)]
theorem zip_rg' {n m : Nat} (h : n ≤ m) (F G : Nat → PyData) : zipD (rg n F) (rg m G) = rg n fun i => .tuple [F i, G i] := by
  refine List.ext_getElem? fun j => ?_
  by_cases hj : j < n
  · rw [rg_at hj]
    unfold zipD
    rw [List.getElem?_map, (List.getElem?_zip_eq_some (z := (F j, G j))).mpr ⟨rg_at hj, rg_at (by omega)⟩]; rfl
  · rw [List.getElem?_eq_none (by rw [zip_len, rg_len, rg_len]; omega), List.getElem?_eq_none (by rw [rg_len]; omega)]
theorem enum_rg (n : Nat) (F : Nat → PyData) : enumD (rg n F) = rg n fun i => .tuple [.int (i : Nat), F i] := by
  refine List.ext_getElem? fun j => ?_
  by_cases hj : j < n
  · rw [rg_at hj]
    unfold enumD
    rw [List.getElem?_map, List.getElem?_zipIdx, rg_at hj]
    simp
  · rw [List.getElem?_eq_none (by rw [enum_len, rg_len]; omega), List.getElem?_eq_none (by rw [rg_len]; omega)]
/-- an item by its place -/
theorem at_rg {n : Nat} {F : Nat → PyData} {i : Int} (h0 : 0 ≤ i) (h : i < (n : Nat)) : atI (rg n F) i = some (F i.toNat) := by
  unfold atI
  rw [rg_len, ixN_at h0 h]
  exact rg_at (by omega)
theorem at_nat {n k : Nat} {F : Nat → PyData} (h : k < n) : atI (rg n F) (k : Nat) = some (F k) := by
  have := at_rg (n := n) (F := F) (i := (k : Nat)) (by omega) (by omega)
  rwa [show ((k : Nat) : Int).toNat = k by omega] at this
theorem at_neg1 {n : Nat} {F : Nat → PyData} : atI (rg (n + 1) F) (-1) = some (F n) := by
  unfold atI
  rw [rg_len]
  have : ixN (n + 1) (-1) = some n := by
    unfold ixN
    rw [if_neg (by decide), if_pos (by omega)]
    congr 1
    omega
  rw [this]
  exact rg_at (by omega)
theorem at_list {ds : List PyData} {i : Int} {d : PyData} (h0 : 0 ≤ i) (h : ds[i.toNat]? = some d) : atI ds i = some d := by
  unfold atI
  have := (List.getElem?_eq_some_iff.mp h).1
  rw [ixN_at h0 (by omega)]
  exact h
theorem shapes_eq {α : Type} {n : Nat} {f g : Nat → α} (h : ∀ i, i < n → f i = g i) : (List.range n).map f = (List.range n).map g := List.map_congr_left fun i hi => h i (List.mem_range.mp hi)
/-- the front of a slice, the back -/
theorem cut_front {n k : Nat} {F : Nat → PyData} (h : k ≤ n) : cutD (rg n F) none (some (k : Nat)) = rg k F := by
  have e1 : HT.sIx (rg n F).length 0 none = 0 := rfl
  have e2 : HT.sIx (rg n F).length (rg n F).length (some ((k : Nat) : Int)) = k := by
    rw [rg_len]
    unfold HT.sIx
    simp only []
    split <;> (try omega)
  unfold cutD
  rw [e1, e2, List.drop_zero, Nat.sub_zero, rg_take h]
theorem cut_back {n k : Nat} {F : Nat → PyData} (h : k ≤ n) : cutD (rg n F) (some (k : Nat)) none = rg (n - k) fun i => F (k + i) := by
  have e1 : HT.sIx (rg n F).length 0 (some ((k : Nat) : Int)) = k := by
    rw [rg_len]
    unfold HT.sIx
    simp only []
    split <;> (try omega)
  have e2 : HT.sIx (rg n F).length (rg n F).length none = n := by rw [rg_len]; rfl
  unfold cutD
  rw [e1, e2, rg_drop, rg_take (by omega)]
section
variable {K : PySem.W.Frag} {ε : List Sl} {ms : Ms} {E : AE} {te ta tb : TE} {t : TS}
/-- a comprehension, told by the places -/
theorem en_lcI {wi : TI} {g : TG} {tt : TT} {te : TE} {vs : List Nat} {ds : List PyData} (hi : EvI K wi ε ms ds) (p : Nat → Bool) (F : Nat → PyData) (hz : ds.length ≤ 100000)
    (hs : ∀ i d, ds[i]? = some d → ∃ ε', Tg K g (.dat d) (wipeS ε vs) ms vs ε' ∧ EvB K tt ε' ms (p i) ∧ (p i = true → Ev K te ε' ms (.dat (F i)))) : EvN K (tLc wi g tt te vs) ε ms (((List.range ds.length).filter p).map F) := fun Hk σ H1 w Q q =>
  hi Hk σ H1 w _ fun J Hn H2 g0 ⟨n, G, Y, W, hn, hG, hY⟩ D hD => by
    subst hn
    have hnD := same_back g0.kn hD
    refine lc_it W (fun i H => ∃ Hm acc, Grow [] Hn H2 Hm H ∧ Hm D = none ∧ H D = some (.lst acc) ∧ DqAll K Hm acc (((List.range i).filter p).map F))
      ⟨Hn, [], Grow.new g0.kn hD, hnD, upd_same, .nil⟩ (fun i H _ ⟨Hm, acc, gm, _, _, _⟩ => hG H (gm.kk.trans gm.kn)) ?_ ?_
    · rintro i x H H' hi ⟨Hm, acc, gm, mD, aD, ha⟩ y
      obtain ⟨d, hd⟩ : ∃ d, ds[i]? = some d := ⟨ds[i], List.getElem?_eq_getElem hi⟩
      obtain ⟨Hm', g1, dx⟩ := hY i d Hm H x H' hd gm.kk gm.kn y
      obtain ⟨ε', ht, hb, he⟩ := hs i d hd
      have wd : Wd K (wipeS ε vs) ms Hm' (wipe σ vs) H' := ((w.grow g0).grow (gm.trans g1)).wipe vs
      have etake : (List.range (i + 1)).filter p = (List.range i).filter p ++ (if p i = true then [i] else []) := by
        rw [List.range_succ, List.filter_append]
        show _ ++ List.filter p [i] = _
        by_cases z : p i = true
        · rw [if_pos z, List.filter_cons_of_pos z, List.filter_nil]
        · rw [if_neg z, List.filter_cons_of_neg z, List.filter_nil]
      refine ht Hm' _ H' x wd dx _ fun σ2 w2 e2 => ⟨by rw [e2, wipe_wipe], hb Hm' σ2 H' w2 _ fun Hm2 H3 g2 => ?_⟩
      cases z : p i with
      | true =>
        refine iteT (he z Hm2 σ2 H3 (w2.grow g2) _ fun v Hm3 H4 g3 dv => ?_)
        have ga : Grow [] Hm H Hm3 H4 := g1.trans (g2.trans g3)
        have la : acc.length ≤ ds.length := by
          rw [ha.length, List.length_map]
          exact Nat.le_trans (List.length_filter_le _ _) (by rw [List.length_range]; omega)
        refine ⟨acc, ga.hh D _ aD nofun, Nat.lt_of_le_of_lt (Nat.le_trans la hz) (by decide), ?_⟩
        have oD : Hm3 D = none := ga.out D _ mD aD
        refine ⟨Hm3, acc ++ [v], (gm.trans ga).write oD (.inr hD), oD, upd_same, ?_⟩
        rw [etake, if_pos z, List.map_append]
        exact (DqAll.mono ga.kk _ _ ha).app (.cons dv .nil)
      | false =>
        refine iteF ?_
        have ga : Grow [] Hm H Hm2 H3 := g1.trans g2
        refine ⟨Hm2, acc, gm.trans ga, ga.out D _ mD aD, ga.hh D _ aD nofun, ?_⟩
        rw [etake, if_neg (by rw [z]; exact Bool.false_ne_true), List.append_nil]
        exact DqAll.mono ga.kk _ _ ha
    · rintro H ⟨Hm, acc, gm, mD, aD, ha⟩
      refine q D _ Hm H rfl (g0.trans gm) (fun e he => ?_) fun e he => ?_
      · cases List.mem_singleton.mp he
        exact g0.fresh hD
      · cases List.mem_singleton.mp he
        exact ⟨mD, acc, aD, ha⟩
theorem en_mapI {wi : TI} {g : TG} {te : TE} {vs : List Nat} {ds : List PyData} {n : Nat} (hi : EvI K wi ε ms ds) (hn : ds.length = n) (F : Nat → PyData) (hz : n ≤ 100000)
    (hs : ∀ i d, ds[i]? = some d → ∃ ε', Tg K g (.dat d) (wipeS ε vs) ms vs ε' ∧ Ev K te ε' ms (.dat (F i))) : EvN K (tLc wi g tYes te vs) ε ms (rg n F) := by
  subst hn
  have h := en_lcI (p := fun _ => true) (F := F) (tt := tYes) hi hz fun i d hd => let ⟨ε', h1, h2⟩ := hs i d hd; ⟨ε', h1, eb_yes, fun _ => h2⟩
  have e : (List.range ds.length).filter (fun _ => true) = List.range ds.length := List.filter_eq_self.mpr fun _ _ => rfl
  rw [e] at h
  exact h
/-- over rg: the items by their places -/
theorem en_mapR {wi : TI} {g : TG} {te : TE} {vs : List Nat} {n : Nat} {F0 : Nat → PyData} (hi : EvI K wi ε ms (rg n F0)) (F : Nat → PyData) (hz : n ≤ 100000)
    (hs : ∀ i, i < n → ∃ ε', Tg K g (.dat (F0 i)) (wipeS ε vs) ms vs ε' ∧ Ev K te ε' ms (.dat (F i))) : EvN K (tLc wi g tYes te vs) ε ms (rg n F) :=
  en_mapI hi (rg_len _ _) F hz fun i d hd => by
    obtain ⟨h1, rfl⟩ := rg_get hd
    exact hs i h1
theorem do_forR {wi : TI} {g : TG} {tb : TS} {n : Nat} {F0 : Nat → PyData} (hi : EvI K wi ε ms (rg n F0)) (I : Nat → List Sl → Ms → Prop) (vs : List Nat) (h0 : I 0 ε ms)
    (hs : ∀ i ε' ms', i < n → I i ε' ms' → ∃ ε'', Tg K g (.dat (F0 i)) ε' ms' vs ε'' ∧ Do K tb ε'' ms' { E with nx := I (i + 1), ct := I (i + 1), bk := E.nx }) (hd : ∀ ε' ms', I n ε' ms' → E.nx ε' ms') : Do K (tFor wi g tb) ε ms E :=
  do_for hi I vs h0 (fun i d ε' ms' hd' hI => by
    obtain ⟨h1, rfl⟩ := rg_get hd'
    exact hs i ε' ms' h1 hI) fun ε' ms' hI => hd ε' ms' (by rw [rg_len] at hI; exact hI)
theorem EvI.to {wi : TI} {ds es : List PyData} (h : EvI K wi ε ms ds) (e : ds = es) : EvI K wi ε ms es := e ▸ h
theorem EvN.to {ds es : List PyData} (h : EvN K te ε ms ds) (e : ds = es) : EvN K te ε ms es := e ▸ h
theorem Ev.dat {d e : PyData} (h : Ev K te ε ms (.dat d)) (q : d = e) : Ev K te ε ms (.dat e) := q ▸ h
/-- xs[i] op= e -/
theorem do_augL {a : Addr} {fl : Fl} {ds : List PyData} {i x y : Int} {f : Int → Int → Int} (ha : Ev K ta ε ms (.ref a)) (hb : Ev K tb ε ms (.dat (.int i))) (h : Ev K te ε ms (.dat (.int y))) (hm : ⟨a, fl, .lst ds⟩ ∈ ms) (hf : fl ≠ .rd) (h0 : 0 ≤ i) (hx : ds[i.toNat]? = some (.int x))
    (k : E.nx ε (setMo a (.lst (ds.set i.toNat (.int (f x y)))) ms)) :
    Do K (tAugS ta tb te (fun x y H Q => ∃ p xs i v, x = .ref p ∧ y = .int i ∧ 0 ≤ i ∧ SqL K H p xs ∧ xs[i.toNat]? = some v ∧ Q v H) (ipI f) rSetL) ε ms E := fun M Hk0 H0 D S Hk σ H w g o =>
  ha Hk σ H w _ fun v Hn H2 g1 dv => hb Hn σ H2 (w.grow g1) _ fun u Hm H3 g2 du => by
    have ev : v = .ref a := dv
    have eu : u = .int i := dp_int du
    subst ev eu
    have w3 := (w.grow g1).grow g2
    obtain ⟨_, vs, hv, hd⟩ := w3.mo _ hm
    obtain ⟨z, hz, dz⟩ := hd.get hx
    have ez : z = .int x := dp_int dz
    subst ez
    refine ⟨a, vs, i, _, rfl, rfl, h0, SqL.of hv, hz, h Hm σ H3 w3 _ fun y' Ho H4 g3 dy => ?_⟩
    have ey : y' = .int y := dp_int dy
    subst ey
    have w4 := w3.grow g3
    obtain ⟨_, vs', hv', hd'⟩ := w4.mo _ hm
    have hlt := (List.getElem?_eq_some_iff.mp hx).1
    refine ⟨x, y, rfl, rfl, a, vs', i, i.toNat, rfl, rfl, hv', ixN_at h0 (by rw [hd'.length]; omega), ?_⟩
    obtain ⟨w5, g5, o5⟩ := write_ok hm hf w4 (g.trans (g1.trans (g2.trans g3)).nil) o (mo := .lst (ds.set i.toNat (.int (f x y)))) (u := .lst (vs'.set i.toNat (.int (f x y)))) ⟨_, upd_same, hd'.set _ (.int _)⟩
    exact S.nx ε _ Ho σ _ k w5 g5 o5
/-! a list of one's own becomes known, in objects too -/
def asSl (a : Addr) (d : PyData) : Sl → Sl
  | .ref b => if b = a then .dat d else .ref b
  | s => s
def asMo (a : Addr) (d : PyData) : Mo → Mo
  | .obj C fs => .obj C (fs.map fun p => (p.1, asSl a d p.2))
  | m => m
def frz (a : Addr) (d : PyData) (ms : Ms) : Ms := (without a ms).map fun e => { e with mo := asMo a d e.mo }
theorem slOk_as {Hk Hk' : Hp} {a : Addr} {d : PyData} {s : Sl} {v : V} (ex : Same Hk Hk') (hd : Dq K Hk' (.ref a) d) (h : SlOk K Hk s v) : SlOk K Hk' (asSl a d s) v := by
  cases s with
  | un => trivial
  | dat e => exact Dq.mono ex _ _ h
  | scr ns => exact SlOk.mono (s := .scr ns) ex h
  | ref b =>
    have hv : v = .ref b := h
    subst hv
    show SlOk K Hk' (if b = a then .dat d else .ref b) (.ref b)
    by_cases z : b = a
    · subst z; rw [if_pos rfl]; exact hd
    · rw [if_neg z]; rfl
theorem asSl_un {a : Addr} {d : PyData} {s : Sl} (h : s ≠ .un) : asSl a d s ≠ .un := by
  cases s with
  | un => exact absurd rfl h
  | dat e => exact nofun
  | scr ns => exact nofun
  | ref b =>
    show (if b = a then Sl.dat d else .ref b) ≠ .un
    split <;> exact nofun
theorem do_freezeF {a : Addr} {ds : List PyData} (hm : ⟨a, .nw, .lst ds⟩ ∈ ms) (k : Do K t (asDat a (.list ds) ε) (frz a (.list ds) ms) E) : Do K t ε ms E := fun M Hk0 H0 D S Hk σ H w g o => by
  obtain ⟨Hk', w', g', o', ex, hd⟩ := freeze hm w g o
  refine k M Hk0 H0 D S Hk' σ H ⟨w'.same, w'.sg, fun e he => ?_⟩ g' fun e he => ?_
  · obtain ⟨e0, h1, h2⟩ := List.mem_map.mp he
    obtain ⟨q1, q2⟩ := w'.mo e0 h1
    subst h2
    refine ⟨q1, ?_⟩
    show MoOk K Hk' H e0.at_ (asMo a (.list ds) e0.mo)
    cases hmo : e0.mo with
    | lst es => rw [hmo] at q2; exact q2
    | dct kvs => rw [hmo] at q2; exact q2
    | obj C fs =>
      rw [hmo] at q2
      obtain ⟨dx, vs, hv, hf⟩ := q2
      refine ⟨dx, vs, hv, ?_⟩
      clear hv hmo
      induction hf with
      | nil => exact .nil
      | cons h1 t ih => exact .cons ⟨h1.1, asSl_un h1.2.1, slOk_as (Same.refl _) hd h1.2.2⟩ ih
  · obtain ⟨e0, h1, h2⟩ := List.mem_map.mp he
    have q := o' e0 h1
    subst h2
    exact q
end
end Rl
set_option Elab.async false
set_option linter.all false
set_option maxRecDepth 100000
set_option maxHeartbeats 1000000
/-! The data layer, part 5: walks of lists that are one's own. -/
namespace Rl
open PySem L2
section
variable {K : PySem.W.Frag} {ε : List Sl} {ms : Ms} {E : AE} {te ta tb tl : TE} {t : TS}
theorem mem0 {e : Me} {l : Ms} : e ∈ e :: l := List.mem_cons_self
theorem mem1 {e x : Me} {l : Ms} : e ∈ x :: e :: l := List.mem_cons_of_mem _ List.mem_cons_self
theorem mem2 {e x y : Me} {l : Ms} : e ∈ x :: y :: e :: l := List.mem_cons_of_mem _ mem1
theorem mem3 {e x y z : Me} {l : Ms} : e ∈ x :: y :: z :: e :: l := List.mem_cons_of_mem _ mem2
theorem ei_range {ta : TA} {n : Nat} (h : EvA K ta ε ms [.dat (.int (n : Nat))]) (hn : n ≤ 1000000000) : EvI K (iRng1 ta) ε ms (rg n fun i => .int (i : Nat)) := by
  refine (ei_range1 h hn).to ?_
  rw [nums_rg]
  exact rg_congr fun i _ => by rw [Int.zero_add]
theorem ei_from {ta : TA} {lo hi : Nat} (h : EvA K ta ε ms [.dat (.int (lo : Nat)), .dat (.int (hi : Nat))]) (hn : lo ≤ 1000000000 ∧ hi ≤ 1000000000) : EvI K (iRng2 ta) ε ms (rg (hi - lo) fun i => .int ((lo + i : Nat) : Int)) := by
  refine (ei_range2 h (by omega)).to ?_
  rw [nums_rg, show (((hi : Nat) : Int) - (lo : Nat)).toNat = hi - lo by omega]
  exact rg_congr fun i _ => by congr 1
theorem vals_ints {Hk : Hp} {vs : List V} {n : Nat} {f : Nat → Int} (h : DqAll K Hk vs (rg n fun i => .int (f i))) : vs = (List.range n).map fun i => V.int (f i) := by
  rw [← dints_rg] at h
  rw [dp_ints h, List.map_map]; rfl
/-- enumerate(xs), xs ints of one's own that the body leaves as they are -/
theorem do_forE {ta : TA} {g : TG} {tb : TS} {a : Addr} {fl : Fl} {n : Nat} {f : Nat → Int} (h : EvA K ta ε ms [.ref a]) (hm : ⟨a, fl, .lst (rg n fun i => .int (f i))⟩ ∈ ms) (I : Nat → List Sl → Ms → Prop) (vs : List Nat) (h0 : I 0 ε ms)
    (hst : ∀ i ε' ms', I i ε' ms' → ∃ fl', ⟨a, fl', .lst (rg n fun i => .int (f i))⟩ ∈ ms')
    (hs : ∀ i ε' ms', i < n → I i ε' ms' → ∃ ε'', Tg K g (.dat (.tuple [.int (i : Nat), .int (f i)])) ε' ms' vs ε'' ∧ Do K tb ε'' ms' { E with nx := I (i + 1), ct := I (i + 1), bk := E.nx }) (hd : ∀ ε' ms', I n ε' ms' → E.nx ε' ms') : Do K (tFor (iEnum K ta) g tb) ε ms E :=
  fun M Hk0 H0 D S Hk σ H w g0 o => h Hk σ H w _ fun vs' Hn H2 g1 dvs => by
    obtain ⟨v, rfl, hv⟩ := sls1 dvs
    have ev : v = .ref a := hv
    subst ev
    obtain ⟨_, xs, hx, hd'⟩ := (w.grow g1).mo _ hm
    have exs := vals_ints hd'
    subst exs
    have gs := g0.trans g1.nil
    refine ⟨a, _, rfl, SqL.of hx, ?_⟩
    have W : Walk (Ite K a) ((List.range n).map fun i => V.int (f i)).length (fun H => SqL K H a ((List.range n).map fun i => V.int (f i))) _ := walk_enum
    have hl : ((List.range n).map fun i => V.int (f i)).length = n := by rw [List.length_map, List.length_range]
    rw [hl] at W
    refine for_it W (fun i => LoopI K M Hn H0 (I i)) ⟨ε, ms, Hn, h0, w.grow g1, rebase gs, o⟩ (fun i σ' H' _ ⟨ε', ms', Hk', hI, w', g', _⟩ => ?_) ?_ ?_
    · obtain ⟨fl', hm'⟩ := hst i ε' ms' hI
      obtain ⟨_, ys, hy, dy⟩ := w'.mo _ hm'
      rw [vals_ints dy] at hy
      exact SqL.of hy
    · rintro i x σ' H' H'' hlt ⟨ε', ms', Hk', hI, w', g', o'⟩ ⟨T, x1, y1, rfl, hT, rfl, e1, e2⟩
      obtain ⟨Hm, g2, dx⟩ := pair_ok (K := K) (d := .int (i : Nat)) (e := .int (f i)) g'.kn hT (.int _) (.int _)
      have e1' := Option.some.inj e1
      have e2' : y1 = .int (f i) := by
        have e2 : ((List.range n).map fun i => V.int (f i))[i]? = some y1 := e2
        rw [List.getElem?_map, List.getElem?_range hlt] at e2
        exact (Option.some.inj e2).symm
      subst e1' e2'
      obtain ⟨ε'', ht, hb⟩ := hs i ε' ms' hlt hI
      refine ht Hm σ' _ _ (w'.grow g2) dx _ fun σ2 w2 _ => ?_
      refine hb M Hn H0 { D with nx := LoopI K M Hn H0 (I (i + 1)), ct := LoopI K M Hn H0 (I (i + 1)), bk := D.nx } ⟨fun ε3 ms3 Hk3 σ3 H3 e w3 g3 o3 => ⟨ε3, ms3, Hk3, e, w3, g3, o3⟩, fun ε3 ms3 Hk3 σ3 H3 e w3 g3 o3 => S.nx ε3 ms3 Hk3 σ3 H3 e w3 (regrow gs g3) o3, fun ε3 ms3 Hk3 σ3 H3 e w3 g3 o3 => ⟨ε3, ms3, Hk3, e, w3, g3, o3⟩,
        fun s3 ms3 Hk3 v3 H3 e r3 m3 g3 o3 => S.rt s3 ms3 Hk3 v3 H3 e r3 m3 (regrow gs g3) o3⟩ Hm σ2 _ w2 (g'.trans g2.nil) o'
    · rintro σ' H' ⟨ε', ms', Hk', hI, w', g', o'⟩
      exact S.nx ε' ms' Hk' σ' H' (hd ε' ms' hI) w' (regrow gs g') o'
/-- a comprehension over a list of one's own -/
theorem en_lcM {g : TG} {tt : TT} {te : TE} {vs : List Nat} {a : Addr} {fl : Fl} {ds : List PyData} (hl : Ev K tl ε ms (.ref a)) (hm : ⟨a, fl, .lst ds⟩ ∈ ms) (p : Nat → Bool) (F : Nat → PyData) (hz : ds.length ≤ 100000)
    (hs : ∀ i d, ds[i]? = some d → ∃ ε', Tg K g (.dat d) (wipeS ε vs) ms vs ε' ∧ EvB K tt ε' ms (p i) ∧ (p i = true → Ev K te ε' ms (.dat (F i)))) : EvN K (tLc (iList K tl) g tt te vs) ε ms (((List.range ds.length).filter p).map F) := fun Hk σ H1 w Q q =>
  hl Hk σ H1 w _ fun v Hn H2 g0 dv => by
    have ev : v = .ref a := dv
    subst ev
    obtain ⟨_, xs, hx, hd0⟩ := (w.grow g0).mo _ hm
    refine ⟨a, rfl, ⟨xs, SqL.of hx⟩, fun D hD => ?_⟩
    have hnD := same_back g0.kn hD
    have W : Walk (Itl K a) xs.length (fun H => SqL K H a xs) (YAt xs) := walk_list
    rw [hd0.length] at W
    refine lc_it W (fun i H => ∃ Hm acc, Grow [] Hn H2 Hm H ∧ Hm D = none ∧ H D = some (.lst acc) ∧ DqAll K Hm acc (((List.range i).filter p).map F))
      ⟨Hn, [], Grow.new g0.kn hD, hnD, upd_same, .nil⟩ (fun i H _ ⟨Hm, acc, gm, _, _, _⟩ => SqL.of (gm.hh a _ hx nofun)) ?_ ?_
    · rintro i x H H' hi ⟨Hm, acc, gm, mD, aD, ha⟩ ⟨rfl, y⟩
      obtain ⟨d, hd, dx⟩ := hd0.get' y
      obtain ⟨ε', ht, hb, he⟩ := hs i d hd
      have wd : Wd K (wipeS ε vs) ms Hm (wipe σ vs) H' := ((w.grow g0).grow gm).wipe vs
      have etake : (List.range (i + 1)).filter p = (List.range i).filter p ++ (if p i = true then [i] else []) := by
        rw [List.range_succ, List.filter_append]
        show _ ++ List.filter p [i] = _
        by_cases z : p i = true
        · rw [if_pos z, List.filter_cons_of_pos z, List.filter_nil]
        · rw [if_neg z, List.filter_cons_of_neg z, List.filter_nil]
      refine ht Hm _ H' x wd (Dq.mono gm.kk _ _ dx) _ fun σ2 w2 e2 => ⟨by rw [e2, wipe_wipe], hb Hm σ2 H' w2 _ fun Hm2 H3 g2 => ?_⟩
      cases z : p i with
      | true =>
        refine iteT (he z Hm2 σ2 H3 (w2.grow g2) _ fun v Hm3 H4 g3 dv => ?_)
        have ga : Grow [] Hm H' Hm3 H4 := g2.trans g3
        have la : acc.length ≤ ds.length := by
          rw [ha.length, List.length_map]
          exact Nat.le_trans (List.length_filter_le _ _) (by rw [List.length_range]; omega)
        refine ⟨acc, ga.hh D _ aD nofun, Nat.lt_of_le_of_lt (Nat.le_trans la hz) (by decide), ?_⟩
        have oD : Hm3 D = none := ga.out D _ mD aD
        refine ⟨Hm3, acc ++ [v], (gm.trans ga).write oD (.inr hD), oD, upd_same, ?_⟩
        rw [etake, if_pos z, List.map_append]
        exact (DqAll.mono ga.kk _ _ ha).app (.cons dv .nil)
      | false =>
        refine iteF ?_
        refine ⟨Hm2, acc, gm.trans g2, g2.out D _ mD aD, g2.hh D _ aD nofun, ?_⟩
        rw [etake, if_neg (by rw [z]; exact Bool.false_ne_true), List.append_nil]
        exact DqAll.mono g2.kk _ _ ha
    · rintro H ⟨Hm, acc, gm, mD, aD, ha⟩
      refine q D _ Hm H rfl (g0.trans gm) (fun e he => ?_) fun e he => ?_
      · cases List.mem_singleton.mp he
        exact g0.fresh hD
      · cases List.mem_singleton.mp he
        exact ⟨mD, acc, aD, ha⟩
theorem en_sortedM {a : Addr} {fl : Fl} {ns ms' : List Int} (ha : Ev K ta ε ms (.ref a)) (hm : ⟨a, fl, .lst (dints ns)⟩ ∈ ms) (hz : ns.length < 64) (hp : ms'.Perm ns) (hs : ms'.Pairwise (· ≤ ·)) : EvN K (tCB (rSorted K) (tCons ta tNil)) ε ms (dints ms') :=
  en_cb (ea1 ha) fun Hk H vs sm mo dvs Q q => by
    obtain ⟨v, rfl, dv⟩ := sls1 dvs
    obtain ⟨_, xs, hx, dx⟩ := mo _ hm
    rw [dp_ints dx] at hx
    refine ⟨a, ns, by rw [show v = .ref a from dv], SqL.of hx, hz, fun ns' p hp' hs' hfr => ?_⟩
    have e := perm_sorted_uniq (hp'.trans hp.symm) hs' hs
    subst e
    have dd : ∀ l : List Int, DqAll K Hk (l.map V.int) (dints l) := fun l => by
      induction l with
      | nil => exact .nil
      | cons a r ih => exact .cons (.int a) ih
    obtain ⟨h1, h2, h3⟩ := new_ok sm hfr (dd ns')
    exact q p _ Hk _ rfl h1 h2 h3
end
end Rl
namespace Rl
open PySem L2
section
variable {K : PySem.W.Frag} {ε : List Sl} {ms rest : Ms} {E : AE} {te ta tb tl : TE} {t : TS} {s : Sl} {XE : XK}
theorem setMo_cons {a : Addr} {o : Mo} {e : Me} {l : Ms} : setMo a o (e :: l) = (if e.at_ = a then { e with mo := o } else e) :: setMo a o l := rfl
theorem setMo_nil {a : Addr} {o : Mo} : setMo a o [] = [] := rfl
theorem setMo_none {a : Addr} {o : Mo} : ∀ {l : Ms}, (∀ e ∈ l, e.at_ ≠ a) → setMo a o l = l
  | [], _ => rfl
  | e :: l, h => by rw [setMo_cons, if_neg (h e List.mem_cons_self), setMo_none fun e he => h e (List.mem_cons_of_mem _ he)]
/-- o.f = e, the object ahead of the others -/
theorem do_fldH {a C : Addr} {fl : Fl} {fs fs' : List (Str × Sl)} {f : Str} (hv : Ev K te ε (⟨a, fl, .obj C fs⟩ :: rest) s) (hs : s ≠ .un) (ha : Ev K ta ε (⟨a, fl, .obj C fs⟩ :: rest) (.ref a)) (hf : fl ≠ .rd) (c : Cls K C) (n : NoAttr K C f)
    (ne : ∀ e ∈ rest, e.at_ ≠ a) (hl : fs.length < 1000) (e : putS f s fs = fs') (k : E.nx ε (⟨a, fl, .obj C fs'⟩ :: rest)) : Do K (sFld K ta te f) ε (⟨a, fl, .obj C fs⟩ :: rest) E :=
  do_fld hv hs ha mem0 hf c n hl (by rw [setMo_cons, if_pos rfl, setMo_none ne, e]; exact k)
theorem do_fldNH {a C : Addr} {fl : Fl} {fs : List (Str × Sl)} {f : Str} {ds : List PyData} (hv : EvN K te ε (⟨a, fl, .obj C fs⟩ :: rest) ds) (ha : ∀ ms', Ev K ta ε ms' (.ref a)) (hf : fl ≠ .rd) (c : Cls K C) (n : NoAttr K C f)
    (ne : ∀ e ∈ rest, e.at_ ≠ a) (hl : fs.length < 1000) (k : ∀ p, p ≠ a → (∀ e ∈ rest, e.at_ ≠ p) → E.nx ε (⟨a, fl, .obj C (putS f (.ref p) fs)⟩ :: (rest ++ [⟨p, .nw, .lst ds⟩]))) : Do K (sFld K ta te f) ε (⟨a, fl, .obj C fs⟩ :: rest) E :=
  do_fldN hv ha mem0 hf c n hl fun p hp => by
    have h1 : p ≠ a := fun e => hp _ mem0 _ mem0 e.symm
    have h2 : ∀ e ∈ rest, e.at_ ≠ p := fun e he => hp e (List.mem_cons_of_mem _ he) _ mem0
    have e : (⟨a, fl, .obj C fs⟩ :: rest : Ms) ++ [⟨p, .nw, .lst ds⟩] = ⟨a, fl, .obj C fs⟩ :: (rest ++ [⟨p, .nw, .lst ds⟩]) := rfl
    rw [e, setMo_cons, if_pos rfl, setMo_none fun e he => by
      rcases List.mem_append.mp he with z | z
      · exact ne e z
      · rw [List.mem_singleton.mp z]; exact h1]
    exact k p h1 h2
/-- writes to the k-th thing -/
theorem setMo_1 {a b : Addr} {fl fl' : Fl} {m o m1 : Mo} (h : a ≠ b) : setMo b o [⟨a, fl, m1⟩, ⟨b, fl', m⟩] = [⟨a, fl, m1⟩, ⟨b, fl', o⟩] := by rw [setMo_cons, if_neg h, setMo_cons, if_pos rfl, setMo_nil]
theorem setMo_2 {a b c : Addr} {fl fl' fl2 : Fl} {m o m1 m2 : Mo} (h : a ≠ c) (h' : b ≠ c) : setMo c o [⟨a, fl, m1⟩, ⟨b, fl', m2⟩, ⟨c, fl2, m⟩] = [⟨a, fl, m1⟩, ⟨b, fl', m2⟩, ⟨c, fl2, o⟩] := by rw [setMo_cons, if_neg h, setMo_cons, if_neg h', setMo_cons, if_pos rfl, setMo_nil]
theorem setMo_0 {a : Addr} {fl : Fl} {m o : Mo} : setMo a o [⟨a, fl, m⟩] = [⟨a, fl, o⟩] := by rw [setMo_cons, if_pos rfl, setMo_nil]
theorem without_nil {a : Addr} : without a [] = [] := rfl
theorem without_hit {a : Addr} {fl : Fl} {m : Mo} {l : Ms} : without a (⟨a, fl, m⟩ :: l) = without a l := by unfold without; rw [List.filter_cons_of_neg (by simp)]
theorem without_miss {a b : Addr} {fl : Fl} {m : Mo} {l : Ms} (h : b ≠ a) : without a (⟨b, fl, m⟩ :: l) = ⟨b, fl, m⟩ :: without a l := by unfold without; rw [List.filter_cons_of_pos (by simp [h])]
theorem frz_of {a : Addr} {d : PyData} {l l' : Ms} (h : without a l = l') : frz a d l = l'.map fun e => { e with mo := asMo a d e.mo } := by unfold frz; rw [h]
theorem asDat_nil {a : Addr} {d : PyData} : asDat a d [] = [] := rfl
theorem asDat_dat {a : Addr} {d e : PyData} {l : List Sl} : asDat a d (.dat e :: l) = .dat e :: asDat a d l := rfl
theorem asDat_un {a : Addr} {d : PyData} {l : List Sl} : asDat a d (.un :: l) = .un :: asDat a d l := rfl
theorem asDat_hit {a : Addr} {d : PyData} {l : List Sl} : asDat a d (.ref a :: l) = .dat d :: asDat a d l := by
  show (if a = a then Sl.dat d else .ref a) :: _ = _
  rw [if_pos rfl]; rfl
theorem asDat_miss {a b : Addr} {d : PyData} {l : List Sl} (h : b ≠ a) : asDat a d (.ref b :: l) = .ref b :: asDat a d l := by
  show (if b = a then Sl.dat d else .ref b) :: _ = _
  rw [if_neg h]; rfl
/-- forget what a slot holds -/
theorem do_forget {ε' : List Sl} (hl : ε'.length = ε.length) (h : ∀ i, i < ε.length → ε'.getD i .un = .un ∨ ε'.getD i .un = ε.getD i .un) (k : Do K t ε' ms E) : Do K t ε ms E :=
  do_un hl (fun i s e hs => by
    have hi : i < ε.length := by rw [← hl]; exact (List.getElem?_eq_some_iff.mp e).1
    have e1 : ε'.getD i .un = s := by rw [List.getD_eq_getElem?_getD, e]; rfl
    rcases h i hi with q | q
    · exact absurd (e1.symm.trans q) hs
    · have e2 : ε.getD i .un = s := q.symm.trans e1
      rw [List.getD_eq_getElem?_getD, List.getElem?_eq_getElem hi] at e2
      rw [List.getElem?_eq_getElem hi, ← e2]; rfl) k
end
end Rl
namespace Rl
open PySem L2
/-- a method that reads and hands back a new list -/
def rdNew (f : Addr → Ms → List PyData → List PyData → Prop) : Ct := fun ss ms M R => ∃ a ds rs, ss = .ref a :: ds.map .dat ∧ (∀ e ∈ ms, e.fl = .rd) ∧ M = [] ∧ f a ms ds rs ∧ R = fun s ms' => ∃ p, s = .ref p ∧ ms' = [⟨p, .nw, .lst rs⟩]
section
variable {K : PySem.W.Frag} {ε : List Sl} {ms : Ms} {E : AE} {te ta : TE} {t : TA} {XE : XK}
theorem eo_meth {C a : Addr} {m : Str} {fl : Fl} {fs : List (Str × Sl)} {f : Addr → Ms → List PyData → List PyData → Prop} {ds rs : List PyData} {ms' : Ms} (ha : Ev K ta ε ms (.ref a)) (hm : ⟨a, fl, .obj C fs⟩ ∈ ms) (hl : fs.lookup m = none) (h : EvA K t ε ms (ds.map .dat))
    (hs : ∀ e ∈ ms', e.fl = .rd ∧ ∃ e' ∈ ms, e'.at_ = e.at_ ∧ e'.mo = e.mo) (hf : f a ms' ds rs) : EvN K (tMeth C m (ctr K (rdNew f)) [] XE ta t) ε ms rs := fun Hk σ H1 w Q q =>
  ha Hk σ H1 w _ fun v Hn H2 g dv => by
    have ev : v = .ref a := dv
    subst ev
    obtain ⟨_, dx, vs, hv, hfs⟩ := (w.grow g).mo _ hm
    refine ⟨a, dx, vs, rfl, hv, fs_none hfs hl, h Hn σ H2 (w.grow g) _ fun us Hm H3 g2 dus => ?_⟩
    refine ⟨Hm, .ref a :: ds.map .dat, ms', [], _, ⟨a, ds, rs, rfl, fun e he => (hs e he).1, rfl, hf, rfl⟩, g2.kn, ?_, mo_sub ((w.grow g).grow g2).mo fun e he => (hs e he).2, own_rd fun e he => (hs e he).1, fun v s' ms'' Ho H4 hr hv' hmo g3 o3 => ?_⟩
    · rw [List.append_nil]; exact .cons rfl dus
    · obtain ⟨p, rfl, rfl⟩ := hr
      have ev : v = .ref p := hv'
      subst ev
      refine q p _ Ho H4 rfl (g.trans (g2.trans g3)) (fun e he => ?_) hmo
      have := o3 e he
      cases List.mem_singleton.mp he
      exact (g.trans g2).fresh this
/-- return of a new thing -/
theorem do_retO {P : Addr → Ms → Prop} (h : EvO K te ε ms P) (k : ∀ x ms', P x ms' → E.rt (.ref x) ms') : Do K (tRet te) ε ms E := fun M Hk0 H0 D S Hk σ H w g o =>
  h Hk σ H w _ fun x ms' Hn H2 hp g2 hf hm => S.rt (.ref x) ms' Hn _ H2 (k x ms' hp) rfl hm (g.trans g2.nil) fun e he => by
    have q := g.fresh (hf e he)
    cases e.fl with
    | rd => trivial
    | wr => exact .inr q
    | nw => exact q
end
/-- a filter of a range by the items, the items -/
theorem filt_range {α β : Type} (ks : List α) (d : α) (q : α → Bool) (G : α → β) : ((List.range ks.length).filter fun i => q (ks.getD i d)).map (fun i => G (ks.getD i d)) = (ks.filter q).map G := by
  have e : ks = (List.range ks.length).map fun i => ks.getD i d := by
    refine List.ext_getElem? fun j => ?_
    rw [List.getElem?_map]
    by_cases h : j < ks.length
    · rw [List.getElem?_range h, List.getElem?_eq_getElem h]
      show _ = some (ks.getD j d)
      rw [List.getD_eq_getElem?_getD, List.getElem?_eq_getElem h]; rfl
    · rw [List.getElem?_eq_none (by omega), List.getElem?_eq_none (by rw [List.length_range]; omega)]; rfl
  conv => rhs; rw [e, List.filter_map, List.map_map]
  rfl
end Rl
namespace Rl
open PySem L2
/-- some slots forgotten -/
inductive Fg : List Sl → List Sl → Prop
  | nil : Fg [] []
  | un {s : Sl} {l l' : List Sl} : Fg l l' → Fg (.un :: l) (s :: l')
  | eq {s : Sl} {l l' : List Sl} : Fg l l' → Fg (s :: l) (s :: l')
theorem Fg.len : ∀ {l l' : List Sl}, Fg l l' → l.length = l'.length
  | _, _, .nil => rfl
  | _, _, .un h => by rw [List.length_cons, List.length_cons, h.len]
  | _, _, .eq h => by rw [List.length_cons, List.length_cons, h.len]
theorem Fg.at : ∀ {l l' : List Sl}, Fg l l' → ∀ (i : Nat) (s : Sl), l[i]? = some s → s ≠ .un → l'[i]? = some s
  | _, _, .nil, _, _, h, _ => h
  | _, _, .un h, 0, s, e, n => absurd (Option.some.inj e).symm n
  | _, _, .un h, i + 1, s, e, n => h.at i s e n
  | _, _, .eq h, 0, s, e, n => e
  | _, _, .eq h, i + 1, s, e, n => h.at i s e n
theorem do_fg {K : PySem.W.Frag} {t : TS} {ε ε' : List Sl} {ms : Ms} {E : AE} (h : Fg ε' ε) (k : Do K t ε' ms E) : Do K t ε ms E := do_un h.len h.at k
end Rl
set_option Elab.async false
set_option linter.all false
set_option maxRecDepth 100000
set_option maxHeartbeats 4000000
/-! The base of the walks: the text by places, what the top has made, how defs and methods are called. -/
namespace Rl
open PySem L2
def topS (i : Nat) : Stmt := PySem.Challenge.pw_relume_k17_whole_large_islands_run.main.body.getD i (.Pass ⟨0, 0, 0, 0⟩)
/-- what the walks ask of the top's names and classes -/
structure Txt (K : PySem.W.Frag) (mg : Str → Option Value) (CT CI : Addr) : Prop where
  gcd : mg "gcd" = some (.builtin "math.gcd")
  b_len : mg "len" = none
  b_list : mg "list" = none
  b_tuple : mg "tuple" = none
  b_any : mg "any" = none
  b_all : mg "all" = none
  b_sum : mg "sum" = none
  b_sorted : mg "sorted" = none
  b_min : mg "min" = none
  b_max : mg "max" = none
  b_abs : mg "abs" = none
  b_int : mg "int" = none
  b_bool : mg "bool" = none
  b_isinstance : mg "isinstance" = none
  b_repr : mg "repr" = none
  b_range : mg "range" = none
  b_enumerate : mg "enumerate" = none
  b_zip : mg "zip" = none
  clT : Cls K CT
  nT_columns : NoAttr K CT "columns"
  nT_size : NoAttr K CT "size"
  nT_rows : NoAttr K CT "rows"
  nT_basis : NoAttr K CT "basis"
  nT_scale : NoAttr K CT "scale"
  nT_costs : NoAttr K CT "costs"
  clI : Cls K CI
  nI_nodes : NoAttr K CI "nodes"
  nI_stations : NoAttr K CI "stations"
  nI_lines : NoAttr K CI "lines"
  nI_loads : NoAttr K CI "loads"
  nI_count : NoAttr K CI "count"
/-- a def of the text that stands under its name -/
structure Def (K : PySem.W.Frag) (mg : Str → Option Value) (x : Str) (st : Stmt) (ps : List Str) : Prop where
  ex : ∃ f fd, Fun K x x st f fd ∧ mg x = some (.ref f) ∧ Binds K fd ps []
/-- a def that keeps a promise -/
structure Cal (P : Program) (w : World) (K : PySem.W.Frag) (mg : Str → Option Value) (base : Heap) (x : Str) (k : Nat) (ps : List Str) (sp : Sp) : Prop where
  ex : ∃ f fd, FnOk P w K mg base CX0 k f fd ps sp ∧ mg x = some (.ref f) ∧ PySem.W.keepIn K (.ref f) = true ∧ Binds K fd ps []
/-- a method of the text in its class -/
structure DefM (K : PySem.W.Frag) (C : Addr) (m qual : Str) (st : Stmt) (ps : List Str) : Prop where
  ex : ∃ f fd, Fun K m qual st f fd ∧ Meth K C m f ∧ Binds K fd ps []
structure CalM (P : Program) (w : World) (K : PySem.W.Frag) (mg : Str → Option Value) (base : Heap) (C : Addr) (m : Str) (k : Nat) (ps : List Str) (sp : Sp) : Prop where
  ex : ∃ f fd, FnOk P w K mg base CX0 k f fd ps sp ∧ Meth K C m f ∧ Binds K fd ps []
/-- a class and its __init__ -/
structure DefC (K : PySem.W.Frag) (mg : Str → Option Value) (C : Addr) (x qual : Str) (st : Stmt) (ps : List Str) : Prop where
  ex : ∃ f fd, Fun K "__init__" qual st f fd ∧ mg x = some (.ref C) ∧ Mk K C f ∧ Binds K fd ps []
structure CalC (P : Program) (w : World) (K : PySem.W.Frag) (mg : Str → Option Value) (base : Heap) (C : Addr) (x : Str) (k : Nat) (ps : List Str) (sp : Sp) : Prop where
  ex : ∃ f fd, FnOk P w K mg base CX0 k f fd ps sp ∧ mg x = some (.ref C) ∧ Mk K C f ∧ Binds K fd ps []
section
variable {P : Program} {w : World} {K : PySem.W.Frag} {mg : Str → Option Value} {base : Heap} {x m : Str} {k : Nat} {ps : List Str} {sp : Sp} {C : Addr}
theorem Cal.mono {j : Nat} (c : Cal P w K mg base x k ps sp) (h : k ≤ j) : Cal P w K mg base x j ps sp := let ⟨f, fd, F, r⟩ := c.ex; ⟨f, fd, F.mono h, r⟩
theorem CalM.mono {j : Nat} (c : CalM P w K mg base C m k ps sp) (h : k ≤ j) : CalM P w K mg base C m j ps sp := let ⟨f, fd, F, r⟩ := c.ex; ⟨f, fd, F.mono h, r⟩
theorem CalC.mono {j : Nat} (c : CalC P w K mg base C x k ps sp) (h : k ≤ j) : CalC P w K mg base C x j ps sp := let ⟨f, fd, F, r⟩ := c.ex; ⟨f, fd, F.mono h, r⟩
/-- THE RULE for a def, for a method, for a class -/
theorem Def.cal {st : Stmt} {N : List Str} {Cc : Ct} (D : Def K mg x st ps) (S : FnScope N ps (defScope st)) (len : ∀ ss ms M R, Cc ss ms M R → ss.length = ps.length)
    (hbody : ∀ (f : Addr) (cdv : Value) (A : Around) (outer : List Env) (s : Shared) (H : Hp) (vs : List V) (Q : VK) (E : XK), Room k (A.deeper (PyProof.Rows.envOfC x (defScope st) s.heap.objs.size f cdv)) →
      ∃ t, PSs (cxOf CX0 P w K mg base N x (defScope st) f cdv A outer s H E).nox (defBody st) t ∧ ∀ ss ms M R, Cc ss ms M R → Do K t (startS N ss) ms (fend R)) : Cal P w K mg base x (k + 1) ps (ctr K Cc) :=
  let ⟨f, fd, F, h1, h2⟩ := D.ex
  ⟨f, fd, fn_ctr F S len (hbody f), h1, F.kp, h2⟩
theorem DefM.cal {qual : Str} {st : Stmt} {N : List Str} {Cc : Ct} (D : DefM K C m qual st ps) (S : FnScope N ps (defScope st)) (len : ∀ ss ms M R, Cc ss ms M R → ss.length = ps.length)
    (hbody : ∀ (f : Addr) (cdv : Value) (A : Around) (outer : List Env) (s : Shared) (H : Hp) (vs : List V) (Q : VK) (E : XK), Room k (A.deeper (PyProof.Rows.envOfC qual (defScope st) s.heap.objs.size f cdv)) →
      ∃ t, PSs (cxOf CX0 P w K mg base N qual (defScope st) f cdv A outer s H E).nox (defBody st) t ∧ ∀ ss ms M R, Cc ss ms M R → Do K t (startS N ss) ms (fend R)) : CalM P w K mg base C m (k + 1) ps (ctr K Cc) :=
  let ⟨f, fd, F, h1, h2⟩ := D.ex
  ⟨f, fd, fn_ctr F S len (hbody f), h1, h2⟩
theorem DefC.cal {qual : Str} {st : Stmt} {N : List Str} {Cc : Ct} (D : DefC K mg C x qual st ps) (S : FnScope N ps (defScope st)) (len : ∀ ss ms M R, Cc ss ms M R → ss.length = ps.length)
    (hbody : ∀ (f : Addr) (cdv : Value) (A : Around) (outer : List Env) (s : Shared) (H : Hp) (vs : List V) (Q : VK) (E : XK), Room k (A.deeper (PyProof.Rows.envOfC qual (defScope st) s.heap.objs.size f cdv)) →
      ∃ t, PSs (cxOf CX0 P w K mg base N qual (defScope st) f cdv A outer s H E).nox (defBody st) t ∧ ∀ ss ms M R, Cc ss ms M R → Do K t (startS N ss) ms (fend R)) : CalC P w K mg base C x (k + 1) ps (ctr K Cc) :=
  let ⟨f, fd, F, h1, h2, h3⟩ := D.ex
  ⟨f, fd, fn_ctr F S len (hbody f), h1, h2, h3⟩
end
section
variable {X : Cx} {x m : Str} {k : Nat} {ps : List Str} {sp : Sp} {C : Addr} {e o : Expr} {es : List Expr} {t : TA} {ta : TE} {p pos apos : Pos}
theorem pe_callC (c : Cal X.prog X.w X.K X.mg X.base x k ps sp) (hr : Room k X.A) (hg : Gl X x) (ha : PA X (e :: es) t) (hdb : (x == ("__debug__" : Str)) = false := by decide) (he : starEach (e :: es) X.env = (false, eval e X.env) :: starEach es X.env := by rfl)
    (hpl : (backTo pos (starEach es X.env)).any (·.1) = false := by rfl) (hx : X.xe = fun _ _ => False := by rfl) : PE X (.Call (.Name x p) (e :: es) [] pos) (tCall sp [] E0 t) := by
  obtain ⟨f, fd, F, h1, h2, h3⟩ := c.ex
  exact pe_call F hr hg h1 h2 h3 .nil pass0 ha hdb he hpl
theorem pe_makeC (c : CalC X.prog X.w X.K X.mg X.base C x k ps sp) (hr : Room (k + 1) X.A) (hg : Gl X x) (ha : PA X (e :: es) t) (hdb : (x == ("__debug__" : Str)) = false := by decide) (he : starEach (e :: es) X.env = (false, eval e X.env) :: starEach es X.env := by rfl)
    (hpl : (backTo pos (starEach es X.env)).any (·.1) = false := by rfl) : PE X (.Call (.Name x p) (e :: es) [] pos) (tMake C sp [] E0 t) := by
  obtain ⟨f, fd, F, h1, h2, h3⟩ := c.ex
  exact pe_make h2 F hr hg h1 h3 .nil pass0 ha hdb he hpl
end
/-! the rules with the written part named, for comprehensions -/
section
variable {X : Cx} {e o : Expr} {ta : TE} {f : Str} {pos : Pos}
theorem pe_fldK (K : PySem.W.Frag) (he : PE X e ta) (hb : attributeBase e f X.env (eval e X.env) = eval e X.env) (hK : X.K = K := by rfl) : PE X (.Attribute e f pos) (tFld K ta f) := by
  subst hK
  exact pe_fld he hb
theorem ix_listK (K : PySem.W.Frag) (hK : X.K = K := by rfl) : IxR X (rIxL K) := by subst hK; exact ix_list
theorem ix_tupK (K : PySem.W.Frag) (hK : X.K = K := by rfl) : IxR X (rIxT K) := by subst hK; exact ix_tup
theorem op_in_seqK (K : PySem.W.Frag) (hK : X.K = K := by rfl) : OpR X (compareOp .In) (rIn K false) := by subst hK; exact op_in_seq
theorem op_eqDK (K : PySem.W.Frag) (hu : X.A.units + 64 < cLine) (hK : X.K = K := by rfl) : OpR X (compareOp .Eq) (rEqD K) := by subst hK; exact op_eqD hu
theorem sl_listK (K : PySem.W.Frag) (hK : X.K = K := by rfl) : SlR X (rSlL K) := by subst hK; exact sl_list
theorem pi_listK (K : PySem.W.Frag) {tg l : Expr} {tl : TE} (hl : PE X l tl) (hK : X.K = K := by rfl) : PI X tg l (iList K tl) := by subst hK; exact pi_list hl
theorem call_lenK (K : PySem.W.Frag) (hK : X.K = K := by rfl) : CallR X (.builtin "len") (fun xs H Q => ∃ p ys, xs = [.ref p] ∧ (SqL K H p ys ∨ SqT K H p ys) ∧ Q (.int ys.length) H) := by subst hK; exact call_len_seq
theorem cr_sumK (K : PySem.W.Frag) (hc : X.calm = true) (hK : X.K = K := by rfl) : CallR X (.builtin "sum") (rSum K) := by subst hK; exact cr_sum hc
theorem call_isiK' (K : PySem.W.Frag) (hK : X.K = K := by rfl) : CallR X (.builtin "isinstance") (rIsi K) := by subst hK; exact call_isi
theorem pg_tupK (K : PySem.W.Frag) {es : List Expr} {k : Nat} {t : TGs} {n : Nat} (hc : X.calm = true) (h : PGs X es t) (hn : (assignEach es X.env).length = n := by rfl) (hst : (assignEach es X.env).findIdx? (·.1) = none := by rfl) (hK : X.K = K := by rfl) : PG X (.Tuple es k pos) (gTup K n t) := by
  subst hK
  exact pg_tup hc h hn hst
end
/-- xs[i] read for xs[i] op= e -/
theorem get_list {X : Cx} : PGet X (fun x y H Q => ∃ p xs i v, x = .ref p ∧ y = .int i ∧ 0 ≤ i ∧ SqL X.K H p xs ∧ xs[i.toNat]? = some v ∧ Q v H) := by
  intro pins s σ H o i ov iv Q I ro ri h
  obtain ⟨p, xs, k, v, rfl, rfl, h0, hq, he, q⟩ := h
  cases ro
  obtain ⟨t, rfl⟩ := ri
  obtain ⟨its, r, pl, hz⟩ := I.list hq
  obtain ⟨u, eu, ru⟩ := r.get he
  have hl := r.length
  have hn := line63
  have hlt := (List.getElem?_eq_some_iff.mp eu).1
  exact wpAny_getItem_list pl.isList h0 (by omega) (by simpa using eu) ⟨v, H, I, ru, q⟩
end Rl
set_option Elab.async false
set_option linter.all false
set_option maxRecDepth 100000
set_option maxHeartbeats 4000000
/-! Fractions. -/
namespace Rl
open PySem L2
/-- a fraction as a datum -/
abbrev dF (p : Int × Int) : PyData := .tuple [.int p.1, .int p.2]
def cFraction : List PyData → PyData → Prop := fun ds r => ∃ a b : Int, ds = [.int a, .int b] ∧ 0 < b ∧ b.natAbs < 2 ^ 9000 ∧ r = dF (fr a b)
section
variable {P : Program} {w : World} {K : PySem.W.Frag} {mg : Str → Option Value} {base : Heap} {CT CI : Addr}
abbrev s_fraction : Stmt := topS 6
abbrev N_fraction : List Str := ["top", "low", "divisor"]
theorem sc_fraction : FnScope N_fraction ["top", "low"] (defScope s_fraction) := ⟨rfl, rfl, rfl, by decide +kernel, rfl, by decide +kernel, by decide +kernel⟩
theorem w_fraction (T : Txt K mg CT CI) (D : Def K mg "fraction" s_fraction ["top", "low"]) : Cal P w K mg base "fraction" 1 ["top", "low"] (ctr K (pur cFraction)) := by
  refine D.cal sc_fraction (fun ss ms M R ⟨ds, r, e, _, _, ⟨a, b, e2, _⟩, _⟩ => by rw [e, e2]; rfl) fun f cdv A outer s H vs Q E hr => ?_
  refine ⟨_, pss_cons (ps_set (i := 2) sc_fraction.nd rfl (Or.inl rfl) (pe_callBfun cr_gcd (by rfl) T.gcd (pa_cons (pv 0) (pa_cons (pv 1) pa_nil))))
    (pss_cons (ps_if (pt_cmpR op_lt (pv 1) (pe_int) (nomark _))
      (pss_one (ps_set (i := 2) sc_fraction.nd rfl (Or.inl rfl) (pe_un un_neg (pv 2))))
      (pss_nil))
    (pss_one (ps_ret (pe_tup (pa_cons (pe_op op_fdivW (pv 0) (pv 2)) (pa_cons (pe_op op_fdivW (pv 1) (pv 2)) pa_nil)))))), ?_⟩
  rintro _ _ _ _ ⟨_, _, rfl, rfl, rfl, ⟨a, b, rfl, hb, hs, rfl⟩, rfl⟩
  have hg := gcd_pos (N := a) hb
  have hd : CDivW 0 (Int.gcd a b : Int) := ⟨hg, by
    have h1 : (Int.gcd a b : Int).natAbs ≤ b.natAbs := by
      have := Int.gcd_dvd_right a b
      have := Int.le_of_dvd hb this
      omega
    exact PySem.Flt.log2_lt_of (by decide) (Nat.lt_of_le_of_lt h1 hs)⟩
  refine do_seq (do_asg (ev_gcd (ev_var (n := 0) rfl) (ev_var (n := 1) rfl)) ?_)
  refine do_seq (do_if (b := _) (eb_test (ev_lt (ev_var (n := 1) rfl) (ev_int))) (fun hb' => ?_) (fun _ => Do.next ?_))
  · have := of_decide_eq_true hb'
    omega
  refine do_ret (ev_tup (ds := [_, _]) (ea_cons (ev_div (ev_var (n := 0) rfl) (ev_var (n := 2) rfl) hd) (ea1 (ev_div (ev_var (n := 1) rfl) (ev_var (n := 2) rfl) hd)))) ?_
  rfl
/-- sizes of a fraction's numbers -/
def Sz (n : Nat) (p : Int × Int) : Prop := p.1.natAbs < 2 ^ n ∧ p.2.natAbs < 2 ^ n
theorem szm {a b : Int} (h1 : a.natAbs < 2 ^ 2000) (h2 : b.natAbs < 2 ^ 2000) : CMulW a b := wide_mul h1 h2 (by decide) (by decide) (by decide)
def cPlus : List PyData → PyData → Prop := fun ds r => ∃ p q : Int × Int, ds = [dF p, dF q] ∧ 0 < p.2 ∧ 0 < q.2 ∧ Sz 2000 p ∧ Sz 2000 q ∧ r = dF (fr (p.1 * q.2 + q.1 * p.2) (p.2 * q.2))
abbrev s_plus : Stmt := topS 7
abbrev N_plus : List Str := ["first", "second"]
theorem sc_plus : FnScope N_plus ["first", "second"] (defScope s_plus) := ⟨rfl, rfl, rfl, by decide +kernel, rfl, by decide +kernel, by decide +kernel⟩
theorem w_plus (T : Txt K mg CT CI) (D : Def K mg "plus" s_plus ["first", "second"]) (c_fraction : Cal P w K mg base "fraction" 1 ["top", "low"] (ctr K (pur cFraction))) : Cal P w K mg base "plus" 2 ["first", "second"] (ctr K (pur cPlus)) := by
  refine D.cal sc_plus (fun ss ms M R ⟨ds, r, e, _, _, ⟨a, b, e2, _⟩, _⟩ => by rw [e, e2]; rfl) fun f cdv A outer s H vs Q E hr => ?_
  refine ⟨_, pss_one (ps_ret (pe_callC c_fraction hr (by rfl) (pa_cons (pe_op op_add (pe_op op_mulW (pe_ix ix_tup (pv 0) (pe_int) (fun _ _ => rfl)) (pe_ix ix_tup (pv 1) (pe_int) (fun _ _ => rfl))) (pe_op op_mulW (pe_ix ix_tup (pv 1) (pe_int) (fun _ _ => rfl)) (pe_ix ix_tup (pv 0) (pe_int) (fun _ _ => rfl)))) (pa_cons (pe_op op_mulW (pe_ix ix_tup (pv 0) (pe_int) (fun _ _ => rfl)) (pe_ix ix_tup (pv 1) (pe_int) (fun _ _ => rfl))) pa_nil)))), ?_⟩
  rintro _ _ _ _ ⟨_, _, rfl, rfl, rfl, ⟨p, q, rfl, hp, hq, zp, zq, rfl⟩, rfl⟩
  have hf : cFraction [.int (p.1 * q.2 + q.1 * p.2), .int (p.2 * q.2)] (dF (fr (p.1 * q.2 + q.1 * p.2) (p.2 * q.2))) :=
    ⟨_, _, rfl, Int.mul_pos hp hq, Nat.lt_of_lt_of_le (wide_lt zp.2 zq.2) (Nat.pow_le_pow_right (by decide) (by decide)), rfl⟩
  refine do_ret (ev_call (ds := [_, _]) (ea_cons (ev_add (ev_mul (ev_ixT (vr 0) ci rfl) (ev_ixT (vr 1) ci rfl) (szm zp.1 zq.2)) (ev_mul (ev_ixT (vr 1) ci rfl) (ev_ixT (vr 0) ci rfl) (szm zq.1 zp.2))) (ea1 (ev_mul (ev_ixT (vr 0) ci rfl) (ev_ixT (vr 1) ci rfl) (szm zp.2 zq.2)))) hf) ?_
  rfl
def cScaled : List PyData → PyData → Prop := fun ds r => ∃ (k : Int) (p : Int × Int), ds = [.int k, dF p] ∧ 0 < p.2 ∧ k.natAbs < 2 ^ 2000 ∧ Sz 2000 p ∧ r = dF (fr (k * p.1) p.2)
abbrev s_scaled : Stmt := topS 8
abbrev N_scaled : List Str := ["factor", "item"]
theorem sc_scaled : FnScope N_scaled ["factor", "item"] (defScope s_scaled) := ⟨rfl, rfl, rfl, by decide +kernel, rfl, by decide +kernel, by decide +kernel⟩
theorem w_scaled (T : Txt K mg CT CI) (D : Def K mg "scaled" s_scaled ["factor", "item"]) (c_fraction : Cal P w K mg base "fraction" 1 ["top", "low"] (ctr K (pur cFraction))) : Cal P w K mg base "scaled" 2 ["factor", "item"] (ctr K (pur cScaled)) := by
  refine D.cal sc_scaled (fun ss ms M R ⟨ds, r, e, _, _, ⟨a, b, e2, _⟩, _⟩ => by rw [e, e2]; rfl) fun f cdv A outer s H vs Q E hr => ?_
  refine ⟨_, pss_one (ps_ret (pe_callC c_fraction hr (by rfl) (pa_cons (pe_op op_mulW (pv 0) (pe_ix ix_tup (pv 1) (pe_int) (fun _ _ => rfl))) (pa_cons (pe_ix ix_tup (pv 1) (pe_int) (fun _ _ => rfl)) pa_nil)))), ?_⟩
  rintro _ _ _ _ ⟨_, _, rfl, rfl, rfl, ⟨k, p, rfl, hp, zk, zp, rfl⟩, rfl⟩
  have hf : cFraction [.int (k * p.1), .int p.2] (dF (fr (k * p.1) p.2)) := ⟨_, _, rfl, hp, Nat.lt_of_lt_of_le zp.2 (Nat.pow_le_pow_right (by decide) (by decide)), rfl⟩
  refine do_ret (ev_call (ds := [_, _]) (ea_cons (ev_mul (vr 0) (ev_ixT (vr 1) ci rfl) (szm zk zp.1)) (ea1 (ev_ixT (vr 1) ci rfl))) hf) ?_
  rfl
def cIsLess : List PyData → PyData → Prop := fun ds r => ∃ p q : Int × Int, ds = [dF p, dF q] ∧ Sz 2000 p ∧ Sz 2000 q ∧ r = .bool (decide (p.1 * q.2 < q.1 * p.2))
abbrev s_is_less : Stmt := topS 9
abbrev N_is_less : List Str := ["first", "second"]
theorem sc_is_less : FnScope N_is_less ["first", "second"] (defScope s_is_less) := ⟨rfl, rfl, rfl, by decide +kernel, rfl, by decide +kernel, by decide +kernel⟩
theorem w_is_less (T : Txt K mg CT CI) (D : Def K mg "is_less" s_is_less ["first", "second"]) : Cal P w K mg base "is_less" 1 ["first", "second"] (ctr K (pur cIsLess)) := by
  refine D.cal sc_is_less (fun ss ms M R ⟨ds, r, e, _, _, ⟨a, b, e2, _⟩, _⟩ => by rw [e, e2]; rfl) fun f cdv A outer s H vs Q E hr => ?_
  refine ⟨_, pss_one (ps_ret (pe_cmpR op_lt (pe_op op_mulW (pe_ix ix_tup (pv 0) (pe_int) (fun _ _ => rfl)) (pe_ix ix_tup (pv 1) (pe_int) (fun _ _ => rfl))) (pe_op op_mulW (pe_ix ix_tup (pv 1) (pe_int) (fun _ _ => rfl)) (pe_ix ix_tup (pv 0) (pe_int) (fun _ _ => rfl))) (nomark _))), ?_⟩
  rintro _ _ _ _ ⟨_, _, rfl, rfl, rfl, ⟨p, q, rfl, zp, zq, rfl⟩, rfl⟩
  refine do_ret (ev_lt (ev_mul (ev_ixT (vr 0) ci rfl) (ev_ixT (vr 1) ci rfl) (szm zp.1 zq.2)) (ev_mul (ev_ixT (vr 1) ci rfl) (ev_ixT (vr 0) ci rfl) (szm zq.1 zp.2))) ?_
  rfl
def cIsFraction : List PyData → PyData → Prop := fun ds r => ∃ p : Int × Int, ds = [dF p] ∧ r = .bool (decide (1 ≤ p.2) && decide ((Int.gcd p.1 p.2 : Int) = 1))
abbrev s_is_fraction : Stmt := topS 10
abbrev N_is_fraction : List Str := ["item"]
theorem sc_is_fraction : FnScope N_is_fraction ["item"] (defScope s_is_fraction) := ⟨rfl, rfl, rfl, by decide +kernel, rfl, by decide +kernel, by decide +kernel⟩
theorem w_is_fraction (T : Txt K mg CT CI) (D : Def K mg "is_fraction" s_is_fraction ["item"]) : Cal P w K mg base "is_fraction" 1 ["item"] (ctr K (pur cIsFraction)) := by
  refine D.cal sc_is_fraction (fun ss ms M R ⟨ds, r, e, _, _, ⟨a, e2, _⟩, _⟩ => by rw [e, e2]; rfl) fun f cdv A outer s H vs Q E hr => ?_
  refine ⟨_, pss_one (ps_ret (pe_and (pe_cmpR op_ge (pe_ix ix_tup (pv 0) (pe_int) (fun _ _ => rfl)) (pe_int) (nomark _)) (pe_one (pe_cmpR op_eq (pe_callBfun cr_gcd (by rfl) T.gcd (pa_cons (pe_ix ix_tup (pv 0) (pe_int) (fun _ _ => rfl)) (pa_cons (pe_ix ix_tup (pv 0) (pe_int) (fun _ _ => rfl)) pa_nil))) (pe_int) (nomark _))))), ?_⟩
  rintro _ _ _ _ ⟨_, _, rfl, rfl, rfl, ⟨p, rfl, rfl⟩, rfl⟩
  refine do_ret (ev_and (ev_ge (ev_ixT (vr 0) ci rfl) ci) (fun _ => ev_eqI (ev_gcd (ev_ixT (vr 0) ci rfl) (ev_ixT (vr 0) ci rfl)) ci)) ?_
  rfl
end
end Rl
set_option Elab.async false
set_option linter.all false
set_option maxRecDepth 100000
set_option maxHeartbeats 4000000
/-! The tableau's methods that only read. -/
namespace Rl
open PySem L2
/-- a tableau's fields -/
def tFs (C m : Nat) (rows : PyData) (bl : Addr) (scale : Int) (costs : PyData) : List (Str × Sl) :=
  [("columns", .dat (.int (C : Nat))), ("size", .dat (.int (m : Nat))), ("rows", .dat rows), ("basis", .ref bl), ("scale", .dat (.int scale)), ("costs", .dat costs)]
/-- its width -/
def tW (cs : List (List Int)) (count : Nat) : Nat := cs.length + (count + 1) + 1
noncomputable def tRow (cs : List (List Int)) (count : Nat) (b : List Nat) (i : Nat) : PyData := .list (rg (tW cs count) fun k => .int (tE cs count b i k))
noncomputable def tRows (cs : List (List Int)) (count : Nat) (b : List Nat) : PyData := .list (rg (count + 1) fun i => tRow cs count b i)
noncomputable def tCosts (cs : List (List Int)) (count : Nat) (b : List Nat) : PyData := .list (rg (tW cs count) fun k => .int (tR cs count b k))
def tBas (count : Nat) (b : List Nat) : List PyData := rg (count + 1) fun i => .int (bas b i : Nat)
/-- a tableau at a, its basis' list at bl -/
noncomputable def tObj (CT : Addr) (cs : List (List Int)) (count : Nat) (bl : Addr) (b : List Nat) : Mo := .obj CT (tFs cs.length (count + 1) (tRows cs count b) bl (tS cs count b) (tCosts cs count b))
noncomputable def tMs (fl : Fl) (CT a bl : Addr) (cs : List (List Int)) (count : Nat) (b : List Nat) : Ms := [⟨a, fl, tObj CT cs count bl b⟩, ⟨bl, fl, .lst (tBas count b)⟩]
/-- what is asked of the conditions' sizes -/
structure Ok (cs : List (List Int)) (count : Nat) : Prop where
  sm : Sm cs count
  few : cs.length ≤ 100
abbrev tGood (cs : List (List Int)) (count : Nat) (b : List Nat) : Prop := Good (colA cs count) (count + 1) cs.length b
abbrev tFin (cs : List (List Int)) (count : Nat) (b : List Nat) : Prop := Fin0 (colA cs count) (count + 1) cs.length (gam cs count) b
noncomputable abbrev tEn (cs : List (List Int)) (count : Nat) (b : List Nat) : Nat := en (colA cs count) (count + 1) cs.length (gam cs count) b
noncomputable abbrev tLv (cs : List (List Int)) (count : Nat) (b : List Nat) : Nat := lv (colA cs count) (count + 1) cs.length (gam cs count) b
noncomputable def enD (cs : List (List Int)) (count : Nat) (b : List Nat) : PyData := open Classical in if tFin cs count b then .none else .int (tEn cs count b : Nat)
def cEntering (CT : Addr) : Addr → Ms → List PyData → PyData → Prop := fun a ms ds r => ∃ bl cs count b, ms = tMs .rd CT a bl cs count b ∧ ds = [] ∧ Ok cs count ∧ r = enD cs count b
section
variable {P : Program} {w : World} {K : PySem.W.Frag} {mg : Str → Option Value} {base : Heap} {CT CI : Addr}
abbrev s_Tableau_entering : Stmt := inClass (topS 11) 2
abbrev N_Tableau_entering : List Str := ["self", "column"]
theorem sc_Tableau_entering : FnScope N_Tableau_entering ["self"] (defScope s_Tableau_entering) := ⟨rfl, rfl, rfl, by decide +kernel, rfl, by decide +kernel, by decide +kernel⟩
theorem w_entering (T : Txt K mg CT CI) (D : DefM K CT "entering" "Tableau.entering" s_Tableau_entering ["self"]) : CalM P w K mg base CT "entering" 1 ["self"] (ctr K (red0 (cEntering CT))) := by
  refine D.cal sc_Tableau_entering (fun ss ms M R ⟨a, ds, r, e, _, _, ⟨_, _, _, _, _, e2, _⟩, _⟩ => by rw [e, e2]; rfl) fun f cdv A outer s H vs Q E hr => ?_
  refine ⟨_, pss_cons (ps_for PassesOwn.never rfl (pi_range1 (by rfl) T.b_range (pa_cons (pe_fld (pv 0) rfl) pa_nil)) (pg_name (i := 1) sc_Tableau_entering.nd rfl (Or.inl rfl))
      (pss_one (ps_if (pt_cmpR op_lt (pe_ix ix_list (pe_fld (pv 0) rfl) (pv 1) (fun _ _ => rfl)) (pe_int) (nomark _))
        (pss_one (ps_ret (pv 1)))
        (pss_nil))))
    (pss_one (ps_ret (pe_non))), ?_⟩
  rintro _ ms _ _ ⟨a, _, _, rfl, _, rfl, ⟨bl, cs, count, b, rfl, rfl, hO, rfl⟩, rfl⟩
  have hC := hO.few
  refine do_seq (do_forR (ei_range (n := cs.length) (ea1 (ev_fld (vr 0) mem0 T.clT T.nT_columns rfl)) (by omega)) (fun i ε ms => (∀ k, k < i → 0 ≤ tR cs count b k) ∧ ms = tMs .rd CT a bl cs count b ∧ ∃ x, ε = [.ref a, x]) [1] ?_ ?_ ?_)
  · exact ⟨fun k hk => by omega, rfl, _, rfl⟩
  · rintro i _ _ hi ⟨h, rfl, x, rfl⟩
    refine ⟨_, tg_name (by decide), ?_⟩
    refine do_if (b := _) (eb_test (ev_lt (ev_ixL (ev_fld (vr 0) mem0 T.clT T.nT_costs rfl) (vr 1) (at_nat (by unfold tW; omega))) ci)) (fun hb => ?_) (fun hb => Do.next ?_)
    · refine do_ret (vr 1) ?_
      have hb' := of_decide_eq_true hb
      have en : IsEn (colA cs count) (count + 1) cs.length (gam cs count) b i := ⟨hi, hb', h⟩
      have nf : ¬ tFin cs count b := fun z => by
        have := z i hi
        unfold tR at hb'
        omega
      show Sl.dat _ = Sl.dat _
      unfold enD
      rw [if_neg nf, show tEn cs count b = i from en_eq en]
    · refine ⟨fun k hk => ?_, rfl, _, rfl⟩
      by_cases z : k = i
      · subst z
        have := of_decide_eq_false hb
        omega
      · exact h k (by omega)
  · rintro _ _ ⟨h, rfl, x, rfl⟩
    refine do_ret ev_non ?_
    have f : tFin cs count b := h
    show Sl.dat _ = Sl.dat _
    unfold enD
    rw [if_pos f]
def cLeaving (CT : Addr) : Addr → Ms → List PyData → PyData → Prop := fun a ms ds r => ∃ bl cs count b, ms = tMs .rd CT a bl cs count b ∧ ds = [.int (tEn cs count b : Nat)] ∧ Ok cs count ∧ tGood cs count b ∧ ¬ tFin cs count b ∧ r = .int (tLv cs count b : Nat)
theorem mul220 {x y : Int} (h1 : x.natAbs < 2 ^ 220) (h2 : y.natAbs < 2 ^ 220) : CMulW x y := wide_mul h1 h2 (by decide) (by decide) (by decide)
theorem tE_lt {cs : List (List Int)} {count : Nat} {b : List Nat} (hO : Ok cs count) (G : tGood cs count b) (i k : Nat) : (tE cs count b i k).natAbs < 2 ^ 220 := Nat.lt_trans (tE_abs hO.sm G.len i k) (by decide)
theorem tS_lt {cs : List (List Int)} {count : Nat} {b : List Nat} (hO : Ok cs count) (G : tGood cs count b) : (tS cs count b).natAbs < 2 ^ 220 := Nat.lt_trans (tS_abs hO.sm G.len) (by decide)
abbrev s_Tableau_leaving : Stmt := inClass (topS 11) 3
abbrev N_Tableau_leaving : List Str := ["self", "column", "best", "at", "row", "mine", "other"]
theorem sc_Tableau_leaving : FnScope N_Tableau_leaving ["self", "column"] (defScope s_Tableau_leaving) := ⟨rfl, rfl, rfl, by decide +kernel, rfl, by decide +kernel, by decide +kernel⟩
theorem w_leaving (T : Txt K mg CT CI) (D : DefM K CT "leaving" "Tableau.leaving" s_Tableau_leaving ["self", "column"]) : CalM P w K mg base CT "leaving" 1 ["self", "column"] (ctr K (red0 (cLeaving CT))) := by
  refine D.cal sc_Tableau_leaving (fun ss ms M R ⟨a, ds, r, e, _, _, ⟨_, _, _, _, _, e2, _⟩, _⟩ => by rw [e, e2]; rfl) fun f cdv A outer s H vs Q E hr => ?_
  refine ⟨_, pss_cons (ps_set (i := 2) sc_Tableau_leaving.nd rfl (Or.inl rfl) (pe_non))
    (pss_cons (ps_for PassesOwn.never rfl (pi_enum (by rfl) T.b_enumerate (pa_cons (pe_fld (pv 0) rfl) pa_nil)) (pg_tup rfl (pgs_cons (pg_name (i := 3) sc_Tableau_leaving.nd rfl (Or.inl rfl)) (pgs_cons (pg_name (i := 4) sc_Tableau_leaving.nd rfl (Or.inl rfl)) pgs_nil)))
      (pss_one (ps_if (pt_cmpR op_gt (pe_ix ix_list (pv 4) (pv 1) (fun _ _ => rfl)) (pe_int) (nomark _))
        (pss_cons (ps_if (pt_cmp (pc_isN (pv 2)) rfl)
          (pss_cons (ps_set (i := 2) sc_Tableau_leaving.nd rfl (Or.inl rfl) (pv 3))
          (pss_one (ps_continue)))
          (pss_nil))
        (pss_cons (ps_set (i := 5) sc_Tableau_leaving.nd rfl (Or.inl rfl) (pe_op op_mulW (pe_ix ix_list (pv 4) (pe_un un_neg (pe_int)) (fun _ _ => rfl)) (pe_ix ix_list (pe_ix ix_list (pe_fld (pv 0) rfl) (pv 2) (fun _ _ => rfl)) (pv 1) (fun _ _ => rfl))))
        (pss_cons (ps_set (i := 6) sc_Tableau_leaving.nd rfl (Or.inl rfl) (pe_op op_mulW (pe_ix ix_list (pe_ix ix_list (pe_fld (pv 0) rfl) (pv 2) (fun _ _ => rfl)) (pe_un un_neg (pe_int)) (fun _ _ => rfl)) (pe_ix ix_list (pv 4) (pv 1) (fun _ _ => rfl))))
        (pss_one (ps_if (PW.pt (pw_or (pt_cmpR op_lt (pv 5) (pv 6) (nomark _)) (pw_or1 (PW.pt (pw_and (pt_cmpR op_eq (pv 5) (pv 6) (nomark _)) (pw_and1 (pt_cmpR op_lt (pe_ix ix_list (pe_fld (pv 0) rfl) (pv 3) (fun _ _ => rfl)) (pe_ix ix_list (pe_fld (pv 0) rfl) (pv 2) (fun _ _ => rfl)) (nomark _))))))))
          (pss_one (ps_set (i := 2) sc_Tableau_leaving.nd rfl (Or.inl rfl) (pv 3)))
          (pss_nil))))))
        (pss_nil))))
    (pss_one (ps_ret (pv 2)))), ?_⟩
  rintro _ ms _ _ ⟨a, _, _, rfl, _, rfl, ⟨bl, cs, count, b, rfl, rfl, hO, G, nf, rfl⟩, rfl⟩
  have hC := hO.few
  have hk := hO.sm.few
  obtain ⟨e, he⟩ : ∃ e, e = tEn cs count b := ⟨_, rfl⟩
  have hen : IsEn (colA cs count) (count + 1) cs.length (gam cs count) b e := by rw [he]; exact en_of nf
  have heW : e < tW cs count := by have := hen.1; unfold tW; omega
  have zl := tE_lt hO G
  rw [← he]
  refine do_seq (do_asg ev_non ?_)
  refine do_seq (do_forR (ei_enum (ea1 (ev_fld (vr 0) mem0 T.clT T.nT_rows rfl)) |>.to (enum_rg _ _)) (fun i ε ms => ms = tMs .rd CT a bl cs count b ∧ ∃ best x3 x4 x5 x6, ε = [.ref a, .dat (.int (e : Nat)), .dat best, x3, x4, x5, x6] ∧
    ((best = .none ∧ ∀ j, j < i → ¬ 0 < tE cs count b j e) ∨ ∃ r : Nat, best = .int (r : Nat) ∧ Lim (colA cs count) (count + 1) cs.length b e i r)) [3, 4] ?_ ?_ ?_)
  · exact ⟨rfl, _, _, _, _, _, rfl, .inl ⟨rfl, fun j hj => by omega⟩⟩
  · rintro i _ _ hi ⟨rfl, best, x3, x4, x5, x6, rfl, h⟩
    refine ⟨_, tg_tup2 (by decide) (by decide), ?_⟩
    refine do_if (b := _) (eb_test (ev_gt (ev_ixL (vr 4) (vr 1) (at_nat heW)) ci)) (fun hb => ?_) (fun hb => Do.next ?_)
    · have hp : 0 < tE cs count b i e := of_decide_eq_true hb
      rcases h with ⟨rfl, h⟩ | ⟨r, rfl, h⟩
      · refine do_seq (do_if (b := _) (eb_B (ev_isNone (vr 2))) (fun hb2 => ?_) (fun hb2 => Bool.noConfusion hb2))
        refine do_seq (do_asg (vr 3) ?_)
        refine do_cont ⟨rfl, _, _, _, _, _, rfl, .inr ⟨i, rfl, lim_first h hp⟩⟩
      · have hr1 : r < count + 1 := Nat.lt_trans h.1 hi
        refine do_seq (do_if (b := _) (eb_B (ev_isNone (vr 2))) (fun hb2 => Bool.noConfusion hb2) (fun hb2 => Do.next ?_))
        refine do_seq (do_asg (ev_mul (ev_ixL (vr 4) (ev_neg ci) (at_neg1 (n := cs.length + (count + 1)))) (ev_ixL (ev_ixL (ev_fld (vr 0) mem0 T.clT T.nT_rows rfl) (vr 2) (at_nat hr1)) (vr 1) (at_nat heW)) (mul220 (zl _ _) (zl _ _))) ?_)
        refine do_seq (do_asg (ev_mul (ev_ixL (ev_ixL (ev_fld (vr 0) mem0 T.clT T.nT_rows rfl) (vr 2) (at_nat hr1)) (ev_neg ci) (at_neg1 (n := cs.length + (count + 1)))) (ev_ixL (vr 4) (vr 1) (at_nat heW)) (mul220 (zl _ _) (zl _ _))) ?_)
        refine do_if (b := _) (eb_or (eb_test (ev_lt (vr 5) (vr 6))) (fun _ => eb_and (eb_test (ev_eqI (vr 5) (vr 6))) (fun _ => eb_test (ev_lt (ev_ixM (ev_fld (vr 0) mem0 T.clT T.nT_basis rfl) (vr 3) mem1 (at_nat hi)) (ev_ixM (ev_fld (vr 0) mem0 T.clT T.nT_basis rfl) (vr 2) mem1 (at_nat hr1)))))) (fun hb2 => ?_) (fun hb2 => Do.next ?_)
        · refine do_asg (vr 3) ⟨rfl, _, _, _, _, _, rfl, .inr ⟨i, rfl, lim_new h hp ?_⟩⟩
          simp only [Bool.or_eq_true, Bool.and_eq_true, decide_eq_true_eq] at hb2
          rcases hb2 with z | ⟨z, z'⟩
          · exact .inl z
          · exact .inr ⟨z, by omega⟩
        · refine ⟨rfl, _, _, _, _, _, rfl, .inr ⟨r, rfl, lim_keep h ?_⟩⟩
          simp only [Bool.or_eq_false_iff, Bool.and_eq_false_imp, decide_eq_false_iff_not, decide_eq_true_eq] at hb2
          rintro (z | ⟨z, z'⟩)
          · exact hb2.1 z
          · exact hb2.2 z (by omega)
    · have hp : ¬ 0 < tE cs count b i e := of_decide_eq_false hb
      refine ⟨rfl, _, _, _, _, _, rfl, ?_⟩
      rcases h with ⟨rfl, h⟩ | ⟨r, rfl, h⟩
      · refine .inl ⟨rfl, fun j hj => ?_⟩
        by_cases z : j = i
        · rw [z]; exact hp
        · exact h j (by omega)
      · exact .inr ⟨r, rfl, lim_skip h hp⟩
  · rintro _ _ ⟨rfl, best, x3, x4, x5, x6, rfl, h⟩
    refine do_ret (vr 2) ?_
    show Sl.dat _ = Sl.dat _
    rcases h with ⟨rfl, h⟩ | ⟨r, rfl, h⟩
    · obtain ⟨i, hi, p⟩ := some_pos (A := colA cs count) (m := count + 1) (C := cs.length) (b := b) gam_costs hen
      exact absurd p (h i hi)
    · have hl : IsLv (colA cs count) (count + 1) cs.length b e r := lim_all h
      rw [he] at hl
      rw [show tLv cs count b = r from lv_eq G hl]
/-- a row without its part in a column -/
def cCleared (CT : Addr) : Addr → Ms → List PyData → PyData → Prop := fun a ms ds r => ∃ (C m : Nat) (rows : PyData) (bl : Addr) (d : Int) (costs : PyData) (n e : Nat) (F G : Nat → Int) (p : Int), ms = [⟨a, .rd, .obj CT (tFs C m rows bl d costs)⟩] ∧
  ds = [.list (rg n fun k => .int (F k)), .list (rg n fun k => .int (G k)), .int p, .int (e : Nat)] ∧ e < n ∧ n ≤ 200 ∧ 0 < d ∧ d.natAbs < 2 ^ 220 ∧ p.natAbs < 2 ^ 220 ∧ (∀ k, (F k).natAbs < 2 ^ 220 ∧ (G k).natAbs < 2 ^ 220) ∧
  r = .list (rg n fun k => .int ((F k * p - F e * G k) / d))
abbrev s_Tableau_cleared : Stmt := inClass (topS 11) 5
abbrev N_Tableau_cleared : List Str := ["self", "row", "chosen", "pivot", "column", "factor", "item", "other"]
theorem sc_Tableau_cleared : FnScope N_Tableau_cleared ["self", "row", "chosen", "pivot", "column"] (defScope s_Tableau_cleared) := ⟨rfl, rfl, rfl, by decide +kernel, rfl, by decide +kernel, by decide +kernel⟩
theorem w_cleared (T : Txt K mg CT CI) (D : DefM K CT "cleared" "Tableau.cleared" s_Tableau_cleared ["self", "row", "chosen", "pivot", "column"]) : CalM P w K mg base CT "cleared" 1 ["self", "row", "chosen", "pivot", "column"] (ctr K (red0 (cCleared CT))) := by
  refine D.cal sc_Tableau_cleared (fun ss ms M R ⟨a, ds, r, e, _, _, ⟨_, _, _, _, _, _, _, _, _, _, _, _, e2, _⟩, _⟩ => by rw [e, e2]; rfl) fun f cdv A outer s H vs Q E hr => ?_
  refine ⟨_, pss_cons (ps_set (i := 5) sc_Tableau_cleared.nd rfl (Or.inr rfl) (pe_ix ix_list (pv 1) (pv 4) (fun _ _ => rfl)))
    (pss_one (ps_ret (pe_lc (own := [("item", 6), ("other", 7)]) (g := gTup K 2 (gCons (gName 6) (gCons (gName 7) gNil))) (tt := tYes) rfl sc_Tableau_cleared.nd (pi_zip (by rfl) T.b_zip (pa_cons (pv 1) (pa_cons (pv 2) pa_nil))) (blkOk_by (N := N_Tableau_cleared) (sc := defScope s_Tableau_cleared) (by decide +kernel)) (fun _ _ _ _ _ => pg_tupK K rfl (pgs_cons (pg_name (i := 6) sc_Tableau_cleared.nd rfl (Or.inl rfl)) (pgs_cons (pg_name (i := 7) sc_Tableau_cleared.nd rfl (Or.inl rfl)) pgs_nil))) (fun _ _ _ _ _ => pts_nil) (fun _ _ _ _ _ => pe_op op_fdivW (pe_op op_sub (pe_op op_mulW (pv 6) (pv 3)) (pe_op op_mulW (pv 5) (pv 7))) (pe_fldK K (pv 0) rfl))))), ?_⟩
  rintro _ ms _ _ ⟨a, _, _, rfl, _, rfl, ⟨C, m, rows, bl, d, costs, n, e, F, G, p, rfl, rfl, he, hn, hd, zd, zp, z, rfl⟩, rfl⟩
  refine do_seq (do_asg (ev_ixL (vr 1) (vr 4) (at_nat he)) ?_)
  refine do_ret (EvO.know (en_mapR ((ei_zip (ea_cons (vr 1) (ea1 (vr 2)))).to (zip_rg _ _ _)) (fun k => .int ((F k * p - F e * G k) / d)) (by omega) fun k hk => ⟨_, tg_tup2 (by decide) (by decide), ev_div (ev_sub (ev_mul (vr 6) (vr 3) (mul220 (z k).1 zp)) (ev_mul (vr 5) (vr 7) (mul220 (z e).1 (z k).2))) (ev_fld (vr 0) mem0 T.clT T.nT_scale rfl) (wide_div hd zd (by decide) (by decide))⟩)) ?_
  rfl
def cFound (CT : Addr) : Addr → Ms → List PyData → PyData → Prop := fun a ms ds r => ∃ bl cs count b, ms = tMs .rd CT a bl cs count b ∧ ds = [] ∧ Ok cs count ∧ tGood cs count b ∧ r = .list (rg cs.length fun k => .int (fndB cs count b k))
abbrev s_Tableau_found : Stmt := inClass (topS 11) 8
abbrev N_Tableau_found : List Str := ["self", "values", "at", "column"]
theorem sc_Tableau_found : FnScope N_Tableau_found ["self"] (defScope s_Tableau_found) := ⟨rfl, rfl, rfl, by decide +kernel, rfl, by decide +kernel, by decide +kernel⟩
theorem w_found (T : Txt K mg CT CI) (D : DefM K CT "found" "Tableau.found" s_Tableau_found ["self"]) : CalM P w K mg base CT "found" 1 ["self"] (ctr K (red0 (cFound CT))) := by
  refine D.cal sc_Tableau_found (fun ss ms M R ⟨a, ds, r, e, _, _, ⟨_, _, _, _, _, e2, _⟩, _⟩ => by rw [e, e2]; rfl) fun f cdv A outer s H vs Q E hr => ?_
  refine ⟨_, pss_cons (ps_set (i := 1) sc_Tableau_found.nd rfl (Or.inl rfl) (pe_op op_rep (pe_lst (pa_cons (pe_int) pa_nil)) (pe_fld (pv 0) rfl)))
    (pss_cons (ps_for PassesOwn.never rfl (pi_enum (by rfl) T.b_enumerate (pa_cons (pe_fld (pv 0) rfl) pa_nil)) (pg_tup rfl (pgs_cons (pg_name (i := 2) sc_Tableau_found.nd rfl (Or.inl rfl)) (pgs_cons (pg_name (i := 3) sc_Tableau_found.nd rfl (Or.inl rfl)) pgs_nil)))
      (pss_one (ps_if (pt_cmpR op_lt (pv 3) (pe_fld (pv 0) rfl) (nomark _))
        (pss_one (ps_asg (pe_ix ix_list (pe_ix ix_list (pe_fld (pv 0) rfl) (pv 2) (fun _ _ => rfl)) (pe_un un_neg (pe_int)) (fun _ _ => rfl)) (pg_sub (pv 1) (pv 3) set_list)))
        (pss_nil))))
    (pss_one (ps_ret (pv 1)))), ?_⟩
  rintro _ ms _ _ ⟨a, _, _, rfl, _, rfl, ⟨bl, cs, count, b, rfl, rfl, hO, G, rfl⟩, rfl⟩
  have hC := hO.few
  have hk := hO.sm.few
  -- what the first i rows give
  obtain ⟨F, hF⟩ : ∃ F : Nat → Nat → Int, F = fun i k => sm i fun j => if bas b j = k then bet (colA cs count) (count + 1) cs.length b j else 0 := ⟨_, rfl⟩
  have low : ∀ j, j < count + 1 → bas b j < cs.length + (count + 1) := fun j hj => G.low _ (List.mem_of_getElem? (bas_get (by rw [G.len]; exact hj)))
  refine do_seq (do_asgN (en_rep1 (n := cs.length) (EvO.know (en_lst (ds := [_]) (ea1 ci))) (ev_fld (vr 0) mem0 T.clT T.nT_columns rfl) (by omega)) fun p hp => ?_)
  rw [rg_rep]
  refine do_seq (do_forE (n := count + 1) (f := fun i => (bas b i : Nat)) (ea1 (ev_fld (vr 0) mem0 T.clT T.nT_basis rfl)) mem1 (fun i ε ms => ms = tMs .rd CT a bl cs count b ++ [⟨p, .nw, .lst (rg cs.length fun k => .int (F i k))⟩] ∧ ∃ x2 x3, ε = [.ref a, .ref p, x2, x3]) [2, 3] ?_ ?_ ?_ ?_)
  · refine ⟨?_, _, _, rfl⟩
    rw [hF]; rfl
  · rintro i _ _ ⟨rfl, _⟩
    exact ⟨_, mem1⟩
  · rintro i _ _ hi ⟨rfl, x2, x3, rfl⟩
    have np1 : p ≠ a := fun e => hp _ mem0 _ mem0 e.symm
    have np2 : p ≠ bl := fun e => hp _ mem1 _ mem0 e.symm
    refine ⟨_, tg_tup2 (by decide) (by decide), ?_⟩
    have step : ∀ k, F (i + 1) k = F i k + if bas b i = k then bet (colA cs count) (count + 1) cs.length b i else 0 := fun k => by rw [hF]; rfl
    refine do_if (b := _) (eb_test (ev_lt (vr 3) (ev_fld (vr 0) mem0 T.clT T.nT_columns rfl))) (fun hb => ?_) (fun hb => Do.next ?_)
    · have hb' := of_decide_eq_true hb
      have hb2 : bas b i < cs.length := by omega
      refine do_setL (ev_ixL (ev_ixL (ev_fld (vr 0) mem0 T.clT T.nT_rows rfl) (vr 2) (at_nat hi)) (ev_neg ci) (at_neg1 (n := cs.length + (count + 1)))) (vr 1) (vr 3) mem2 nofun (by omega) (by rw [rg_len]; omega) ?_
      refine ⟨?_, _, _, rfl⟩
      -- the place was 0
      have z0 : F i (bas b i) = 0 := by
        rw [hF]
        refine sm_eq_zero fun j hj => ?_
        rw [if_neg fun e => ?_]
        have := G.inj (by omega) hi e
        omega
      have e1 : (rg cs.length fun k => PyData.int (F i k)).set (((bas b i : Nat) : Int)).toNat (.int (tE cs count b i (cs.length + (count + 1)))) = rg cs.length fun k => .int (F (i + 1) k) := by
        rw [show (((bas b i : Nat) : Int)).toNat = bas b i by omega, rg_set]
        refine rg_congr fun k hk => ?_
        rw [step]
        by_cases z : k = bas b i
        · rw [if_pos z, if_pos z.symm, z, z0, Int.zero_add]; rfl
        · rw [if_neg z, if_neg (fun e => z e.symm), Int.add_zero]
      show setMo p _ _ = _
      unfold setMo tMs
      simp only [List.cons_append, List.nil_append, List.map_cons, List.map_nil, if_neg np1.symm, if_neg np2.symm, if_true]
      rw [e1]
    · refine ⟨?_, _, _, rfl⟩
      have hb' := of_decide_eq_false hb
      have e2 : (rg cs.length fun k => PyData.int (F i k)) = rg cs.length fun k => PyData.int (F (i + 1) k) := rg_congr fun k hk => by rw [step, if_neg (by omega), Int.add_zero]
      rw [e2]
  · rintro _ _ ⟨rfl, x2, x3, rfl⟩
    refine do_freeze (a := p) mem2 ?_
    refine do_ret (s := .dat (.list (rg cs.length fun k => .int (F (count + 1) k)))) (ev_var (n := 1) ?_) ?_
    · show some (if p = p then Sl.dat _ else _) = _
      rw [if_pos rfl]
    · show Sl.dat _ = Sl.dat _
      rw [hF]; rfl
end
end Rl
set_option Elab.async false
set_option linter.all false
set_option maxRecDepth 100000
set_option maxHeartbeats 4000000
/-! The tableau's methods that change it. -/
namespace Rl
open PySem L2
section
variable {P : Program} {w : World} {K : PySem.W.Frag} {mg : Str → Option Value} {base : Heap} {CT CI : Addr}
/-- one turn, as it is told -/
def cTurn (CT : Addr) : Ct := fun ss ms M R => ∃ a bl cs count b, ss = [.ref a, .dat (.int (tLv cs count b : Nat)), .dat (.int (tEn cs count b : Nat))] ∧ ms = tMs .wr CT a bl cs count b ∧ M = [a, bl] ∧ a ≠ bl ∧ Ok cs count ∧ tGood cs count b ∧ ¬ tFin cs count b ∧
  R = fun s ms' => s = .dat .none ∧ ms' = tMs .wr CT a bl cs count (stp (colA cs count) (count + 1) cs.length (gam cs count) b)
theorem exact_div {x y d q : Int} (hd : 0 < d) (h : d * q = x - y) : (x - y) / d = q := by
  rw [← h]
  exact Int.mul_ediv_cancel_left q (by omega)
abbrev s_Tableau_turn : Stmt := inClass (topS 11) 4
abbrev N_Tableau_turn : List Str := ["self", "at", "column", "pivot", "chosen", "fresh", "place", "row"]
theorem sc_Tableau_turn : FnScope N_Tableau_turn ["self", "at", "column"] (defScope s_Tableau_turn) := ⟨rfl, rfl, rfl, by decide +kernel, rfl, by decide +kernel, by decide +kernel⟩
theorem w_turn (T : Txt K mg CT CI) (D : DefM K CT "turn" "Tableau.turn" s_Tableau_turn ["self", "at", "column"]) (c_cleared : CalM P w K mg base CT "cleared" 1 ["self", "row", "chosen", "pivot", "column"] (ctr K (red0 (cCleared CT)))) :
    CalM P w K mg base CT "turn" 2 ["self", "at", "column"] (ctr K (cTurn CT)) := by
  refine D.cal sc_Tableau_turn (fun ss ms M R ⟨_, _, _, _, _, e, _⟩ => by rw [e]; rfl) fun f cdv A outer s H vs Q E hr => ?_
  obtain ⟨f_cleared, fd_cleared, F_cleared, m_cleared, b_cleared⟩ := c_cleared.ex
  refine ⟨_, pss_cons (ps_set (i := 3) sc_Tableau_turn.nd rfl (Or.inl rfl) (pe_ix ix_list (pe_ix ix_list (pe_fld (pv 0) rfl) (pv 1) (fun _ _ => rfl)) (pv 2) (fun _ _ => rfl)))
    (pss_cons (ps_set (i := 4) sc_Tableau_turn.nd rfl (Or.inl rfl) (pe_ix ix_list (pe_fld (pv 0) rfl) (pv 1) (fun _ _ => rfl)))
    (pss_cons (ps_set (i := 5) sc_Tableau_turn.nd rfl (Or.inl rfl) (pe_lst pa_nil))
    (pss_cons (ps_for PassesOwn.never rfl (pi_enum (by rfl) T.b_enumerate (pa_cons (pe_fld (pv 0) rfl) pa_nil)) (pg_tup rfl (pgs_cons (pg_name (i := 6) sc_Tableau_turn.nd rfl (Or.inl rfl)) (pgs_cons (pg_name (i := 7) sc_Tableau_turn.nd rfl (Or.inl rfl)) pgs_nil)))
      (pss_one (ps_expr (pe_bm PySem.F.plainAttrs_list PySem.F.slot_list_append PySem.F.type_list_append mt_append (pv 5) (pa_cons (pe_ifExp (pt_cmpR op_eq (pv 6) (pv 1) (nomark _)) (pv 4) (pe_meth (pv 0) T.clT m_cleared F_cleared hr b_cleared .nil pass0 (pa_cons (pv 7) (pa_cons (pv 4) (pa_cons (pv 3) (pa_cons (pv 2) pa_nil)))))) pa_nil)))))
    (pss_cons (ps_fld (pv 0) (pe_meth (pv 0) T.clT m_cleared F_cleared hr b_cleared .nil pass0 (pa_cons (pe_fld (pv 0) rfl) (pa_cons (pv 4) (pa_cons (pv 3) (pa_cons (pv 2) pa_nil))))) rfl)
    (pss_cons (ps_fld (pv 0) (pv 5) rfl)
    (pss_cons (ps_fld (pv 0) (pv 3) rfl)
    (pss_one (ps_asg (pv 2) (pg_sub (pe_fld (pv 0) rfl) (pv 1) set_list))))))))), ?_⟩
  rintro _ _ _ _ ⟨a, bl, cs, count, b, rfl, rfl, rfl, nab, hO, G, nf, rfl⟩
  have hC := hO.few
  have hk := hO.sm.few
  have S := step_of (A := colA cs count) (m := count + 1) (C := cs.length) (g := gam cs count) (b := b) gam_costs nf
  obtain ⟨r, hr'⟩ : ∃ r, r = tLv cs count b := ⟨_, rfl⟩
  obtain ⟨e, he'⟩ : ∃ e, e = tEn cs count b := ⟨_, rfl⟩
  obtain ⟨b', hb'⟩ : ∃ b', b' = stp (colA cs count) (count + 1) cs.length (gam cs count) b := ⟨_, rfl⟩
  have eb : b' = b.set r e := by rw [hb', hr', he']; rfl
  have G' : tGood cs count b' := by rw [hb']; exact G.stp gam_costs nf
  rw [← hb', ← hr', ← he']
  rw [show lv (colA cs count) (count + 1) cs.length (gam cs count) b = r from hr'.symm, show en (colA cs count) (count + 1) cs.length (gam cs count) b = e from he'.symm] at S
  have hr1 : r < count + 1 := S.hr
  have heW : e < tW cs count := by have := S.he; unfold tW; omega
  have zl := tE_lt hO G
  have dpos : 0 < tS cs count b := G.pos
  have zd := tS_lt hO G
  have eS : tS cs count b' = tE cs count b r e := by rw [eb]; exact sc_set r e
  -- the new rows
  have new : ∀ i k, i < count + 1 → k < tW cs count → i ≠ r → (tE cs count b i k * tE cs count b r e - tE cs count b i e * tE cs count b r k) / tS cs count b = tE cs count b' i k := fun i k hi hk' hir => by
    refine exact_div dpos ?_
    rw [eb]
    have := ent_pivot G.len G.cram (e := e) hr1 hi hir (k := k) (by unfold tW at hk'; omega)
    unfold tE tS
    rw [this, Int.mul_comm (ent _ _ _ i k)]
  have newR : ∀ k, k < tW cs count → (tR cs count b k * tE cs count b r e - tR cs count b e * tE cs count b r k) / tS cs count b = tR cs count b' k := fun k hk' => by
    refine exact_div dpos ?_
    rw [eb]
    have := red_pivot (g := gam cs count) G.len G.cram (e := e) hr1 (k := k) (by unfold tW at hk'; omega)
    unfold tE tS tR
    rw [this, Int.mul_comm (red _ _ _ _ k)]
  have zW : tW cs count ≤ 200 := by unfold tW; omega
  have zr := tR_abs hO.sm G.len
  refine do_seq (do_asg (ev_ixL (ev_ixL (ev_fld (vr 0) mem0 T.clT T.nT_rows rfl) (vr 1) (at_nat hr1)) (vr 2) (at_nat heW)) ?_)
  refine do_seq (do_asg (ev_ixL (ev_fld (vr 0) mem0 T.clT T.nT_rows rfl) (vr 1) (at_nat hr1)) ?_)
  refine do_seq (do_asgN (en_lst (ds := []) ea_nil) fun p hp => ?_)
  have np1 : a ≠ p := fun e => hp _ mem0 _ mem0 e
  have np2 : bl ≠ p := fun e => hp _ mem1 _ mem0 e
  refine do_seq (do_forR ((ei_enum (ea1 (ev_fld (vr 0) mem0 T.clT T.nT_rows rfl))).to (enum_rg _ _)) (fun i ε ms => ms = tMs .wr CT a bl cs count b ++ [⟨p, .nw, .lst (rg i fun j => tRow cs count b' j)⟩] ∧
    ∃ x6 x7, ε = [.ref a, .dat (.int (r : Nat)), .dat (.int (e : Nat)), .dat (.int (tE cs count b r e)), .dat (tRow cs count b r), .ref p, x6, x7]) [6, 7] ?_ ?_ ?_)
  · exact ⟨rfl, _, _, rfl⟩
  · rintro i _ _ hi ⟨rfl, x6, x7, rfl⟩
    refine ⟨_, tg_tup2 (by decide) (by decide), ?_⟩
    refine do_app (d := tRow cs count b' i) (vr 5) mem2 nofun (ev_if (b := decide (((i : Nat) : Int) = (r : Nat))) (eb_test (ev_eqI (vr 6) (vr 1))) (fun h => ?_) (fun h => ?_)) (by rw [rg_len]; omega) ⟨?_, _, _, rfl⟩
    · have z : i = r := by have := of_decide_eq_true h; omega
      refine (vr 4).dat ?_
      rw [z, eb]
      unfold tRow tE
      congr 1
      exact rg_congr fun k _ => by rw [ent_set_row]
    · have z : i ≠ r := by have := of_decide_eq_false h; omega
      refine Ev.dat (ev_meth (ds := [tRow cs count b i, tRow cs count b r, .int (tE cs count b r e), .int (e : Nat)]) (ms' := [⟨a, .rd, tObj CT cs count bl b⟩]) (vr 0) mem0 rfl (ea_cons (vr 7) (ea_cons (vr 4) (ea_cons (vr 3) (ea1 (vr 2))))) (fun x hx => by
        cases List.mem_singleton.mp hx
        exact ⟨rfl, _, mem0, rfl, rfl⟩) ⟨_, _, _, _, _, _, tW cs count, e, fun k => tE cs count b i k, fun k => tE cs count b r k, _, rfl, rfl, heW, zW, dpos, zd, zl _ _, fun k => ⟨zl _ _, zl _ _⟩, rfl⟩) ?_
      unfold tRow
      congr 1
      exact rg_congr fun k hk' => by rw [new i k hi hk' z]
    · rw [← rg_succ]
      show setMo p _ _ = _
      exact setMo_2 np1 np2
  · rintro _ _ ⟨rfl, x6, x7, rfl⟩
    refine do_freeze (a := p) mem2 ?_
    have e1 : without p (tMs .wr CT a bl cs count b ++ [⟨p, .nw, .lst (rg (count + 1) fun j => tRow cs count b' j)⟩]) = tMs .wr CT a bl cs count b := by
      show without p [_, _, _] = _
      rw [without_miss np1, without_miss np2, without_hit, without_nil]; rfl
    rw [e1, asDat_miss np1, asDat_dat, asDat_dat, asDat_dat, asDat_dat, asDat_hit]
    refine do_forget (ε' := [.ref a, .dat (.int (r : Nat)), .dat (.int (e : Nat)), .dat (.int (tE cs count b r e)), .dat (tRow cs count b r), .dat (tRows cs count b'), .un, .un]) rfl (fun i hi => ?_) ?_
    · match i with
      | 0 => exact .inr rfl
      | 1 => exact .inr rfl
      | 2 => exact .inr rfl
      | 3 => exact .inr rfl
      | 4 => exact .inr rfl
      | 5 => exact .inr rfl
      | 6 => exact .inl rfl
      | 7 => exact .inl rfl
      | n + 8 => exact .inl rfl
    have ne : ∀ x ∈ ([⟨bl, .wr, .lst (tBas count b)⟩] : Ms), x.at_ ≠ a := fun x hx => by
      cases List.mem_singleton.mp hx
      exact nab.symm
    refine do_seq (do_fldH (s := .dat (tCosts cs count b')) (Ev.dat (ev_meth (ds := [tCosts cs count b, tRow cs count b r, .int (tE cs count b r e), .int (e : Nat)]) (ms' := [⟨a, .rd, tObj CT cs count bl b⟩]) (vr 0) mem0 rfl (ea_cons (ev_fld (vr 0) mem0 T.clT T.nT_costs rfl) (ea_cons (vr 4) (ea_cons (vr 3) (ea1 (vr 2))))) (fun x hx => by
        cases List.mem_singleton.mp hx
        exact ⟨rfl, _, mem0, rfl, rfl⟩) ⟨_, _, _, _, _, _, tW cs count, e, fun k => tR cs count b k, fun k => tE cs count b r k, _, rfl, rfl, heW, zW, dpos, zd, zl _ _, fun k => ⟨zr _, zl _ _⟩, rfl⟩) ?_) nofun (vr 0) nofun T.clT T.nT_costs ne (by show (6 : Nat) < 1000; decide) rfl ?_)
    · unfold tCosts
      congr 1
      exact rg_congr fun k hk' => by rw [newR k hk']
    refine do_seq (do_fldH (s := .dat (tRows cs count b')) (vr 5) nofun (vr 0) nofun T.clT T.nT_rows ne (by show (6 : Nat) < 1000; decide) rfl ?_)
    refine do_seq (do_fldH (s := .dat (.int (tE cs count b r e))) (vr 3) nofun (vr 0) nofun T.clT T.nT_scale ne (by show (6 : Nat) < 1000; decide) rfl ?_)
    refine do_setL (vr 2) (ev_fld (vr 0) mem0 T.clT T.nT_basis rfl) (vr 1) mem1 nofun (by omega) (by unfold tBas; rw [rg_len]; omega) ?_
    rw [setMo_1 nab]
    refine ⟨rfl, ?_⟩
    have e2 : (tBas count b).set (((r : Nat) : Int)).toNat (.int (e : Nat)) = tBas count b' := by
      unfold tBas
      rw [show (((r : Nat) : Int)).toNat = r by omega, rg_set]
      refine rg_congr fun i hi => ?_
      by_cases z : i = r
      · rw [if_pos z, z, eb, bas_set_same (by rw [G.len]; exact hr1)]
      · rw [if_neg z, eb, bas_set_ne z]
    unfold tMs tObj
    rw [e2, eS]
    rfl
def cSearch (CT : Addr) : Ct := fun ss ms M R => ∃ a bl cs count b c n, ss = [.ref a] ∧ ms = tMs .wr CT a bl cs count b ∧ M = [a, bl] ∧ a ≠ bl ∧ Ok cs count ∧ tGood cs count b ∧ Runs (colA cs count) (count + 1) cs.length (gam cs count) n b c ∧
  R = fun s ms' => s = .dat .none ∧ ms' = tMs .wr CT a bl cs count c
theorem isNon_en (cs : List (List Int)) (count : Nat) (b : List Nat) : (isNon (enD cs count b) = true ↔ tFin cs count b) := by
  unfold enD
  by_cases h : tFin cs count b
  · rw [if_pos h]; exact ⟨fun _ => h, fun _ => rfl⟩
  · rw [if_neg h]; exact ⟨fun z => Bool.noConfusion z, fun z => absurd z h⟩
abbrev s_Tableau_search : Stmt := inClass (topS 11) 6
abbrev N_Tableau_search : List Str := ["self", "column"]
theorem sc_Tableau_search : FnScope N_Tableau_search ["self"] (defScope s_Tableau_search) := ⟨rfl, rfl, rfl, by decide +kernel, rfl, by decide +kernel, by decide +kernel⟩
theorem w_search (T : Txt K mg CT CI) (D : DefM K CT "search" "Tableau.search" s_Tableau_search ["self"]) (c_entering : CalM P w K mg base CT "entering" 1 ["self"] (ctr K (red0 (cEntering CT)))) (c_leaving : CalM P w K mg base CT "leaving" 1 ["self", "column"] (ctr K (red0 (cLeaving CT))))
    (c_turn : CalM P w K mg base CT "turn" 2 ["self", "at", "column"] (ctr K (cTurn CT))) : CalM P w K mg base CT "search" 3 ["self"] (ctr K (cSearch CT)) := by
  refine D.cal sc_Tableau_search (fun ss ms M R ⟨_, _, _, _, _, _, _, e, _⟩ => by rw [e]; rfl) fun f cdv A outer s H vs Q E hr => ?_
  obtain ⟨f_entering, fd_entering, F_entering, m_entering, b_entering⟩ := (c_entering.mono (j := 2) (by decide)).ex
  obtain ⟨f_leaving, fd_leaving, F_leaving, m_leaving, b_leaving⟩ := (c_leaving.mono (j := 2) (by decide)).ex
  obtain ⟨f_turn, fd_turn, F_turn, m_turn, b_turn⟩ := c_turn.ex
  refine ⟨_, pss_cons (ps_set (i := 1) sc_Tableau_search.nd rfl (Or.inl rfl) (pe_meth0 (pv 0) T.clT m_entering F_entering hr b_entering .nil pass0))
    (pss_one (ps_while PassesOwn.never (pt_cmp (pc_notN (pv 1)) rfl)
      (pss_cons (ps_expr (pe_meth (pv 0) T.clT m_turn F_turn hr b_turn .nil pass0 (pa_cons (pe_meth (pv 0) T.clT m_leaving F_leaving hr b_leaving .nil pass0 (pa_cons (pv 1) pa_nil)) (pa_cons (pv 1) pa_nil))))
      (pss_one (ps_set (i := 1) sc_Tableau_search.nd rfl (Or.inl rfl) (pe_meth0 (pv 0) T.clT m_entering F_entering hr b_entering .nil pass0)))))), ?_⟩
  rintro _ _ _ _ ⟨a, bl, cs, count, b, c, n, rfl, rfl, rfl, nab, hO, G, hR, rfl⟩
  have rd : ∀ b', ∀ x ∈ tMs .rd CT a bl cs count b', x.fl = .rd ∧ ∃ e' ∈ tMs .wr CT a bl cs count b', e'.at_ = x.at_ ∧ e'.mo = x.mo := fun b' x hx => by
    rcases List.mem_cons.mp hx with z | z
    · rw [z]; exact ⟨rfl, _, mem0, rfl, rfl⟩
    · rw [List.mem_singleton.mp z]; exact ⟨rfl, _, mem1, rfl, rfl⟩
  refine do_seq (do_asg (ev_meth (r := enD cs count b) (ds := []) (ms' := tMs .rd CT a bl cs count b) (vr 0) mem0 rfl ea_nil (rd b) ⟨bl, cs, count, b, rfl, rfl, hO, rfl⟩) ?_)
  refine do_while (fun m ε ms => ∃ b', tGood cs count b' ∧ Runs (colA cs count) (count + 1) cs.length (gam cs count) m b' c ∧ ms = tMs .wr CT a bl cs count b' ∧ ε = [.ref a, .dat (enD cs count b')]) n ⟨b, G, hR, rfl, rfl⟩ ?_
  rintro m _ _ ⟨b', G', hR', rfl, rfl⟩
  refine ⟨_, eb_B (ev_isNotNone (vr 1)), fun h => ?_, fun h => ?_⟩
  · have nf : ¬ tFin cs count b' := fun z => by
      rw [(isNon_en cs count b').mpr z] at h
      cases h
    cases hR' with
    | done h' => exact absurd h' nf
    | turn h' q =>
      rename_i m'
      have een : enD cs count b' = .int (tEn cs count b' : Nat) := by unfold enD; rw [if_neg nf]
      rw [een]
      refine do_seq (do_meth (C := CT) (ss := [.dat (.int (tLv cs count b' : Nat)), .dat (.int (tEn cs count b' : Nat))]) (ms' := tMs .wr CT a bl cs count b') (M' := [a, bl]) (Cc := cTurn CT)
        (R := fun s ms' => s = .dat .none ∧ ms' = tMs .wr CT a bl cs count (stp (colA cs count) (count + 1) cs.length (gam cs count) b')) (vr 0) mem0 rfl
        (ea_cons (ev_meth (r := .int (tLv cs count b' : Nat)) (ds := [.int (tEn cs count b' : Nat)]) (ms' := tMs .rd CT a bl cs count b') (vr 0) mem0 rfl (ea1 (vr 1)) (rd b') ⟨bl, cs, count, b', rfl, rfl, hO, G', nf, rfl⟩) (ea1 (vr 1)))
        (fun e he => ⟨e, he, rfl, rfl⟩) (fun e he => .inr ?_) (fun p hp => ?_) ⟨a, bl, cs, count, b', rfl, rfl, rfl, nab, hO, G', nf, rfl⟩ ?_)
      · rcases List.mem_cons.mp he with z | z
        · rw [z]; exact ⟨rfl, List.mem_cons_self⟩
        · rw [List.mem_singleton.mp z]; exact ⟨rfl, List.mem_cons_of_mem _ List.mem_cons_self⟩
      · rcases List.mem_cons.mp hp with z | z
        · exact ⟨_, mem0, z.symm, nofun⟩
        · exact ⟨_, mem1, (List.mem_singleton.mp z).symm, nofun⟩
      rintro s' ms'' ⟨_, rfl⟩ _
      have e0 : (tMs .wr CT a bl cs count b').filter (fun e => decide (e.at_ ∉ [a, bl])) = [] := by
        unfold tMs
        rw [List.filter_cons_of_neg (by simp), List.filter_cons_of_neg (by simp), List.filter_nil]
      rw [e0, List.nil_append]
      refine ⟨_, .of fun e he => he, ?_⟩
      obtain ⟨b2, hb2⟩ : ∃ b2, b2 = stp (colA cs count) (count + 1) cs.length (gam cs count) b' := ⟨_, rfl⟩
      rw [← hb2]
      rw [← hb2] at q
      have G2 : tGood cs count b2 := by rw [hb2]; exact G'.stp gam_costs nf
      refine do_asg (ev_meth (r := enD cs count b2) (ds := []) (ms' := tMs .rd CT a bl cs count b2) (vr 0) mem0 rfl ea_nil (rd b2) ⟨bl, cs, count, b2, rfl, rfl, hO, rfl⟩) ?_
      exact ⟨m', by omega, b2, G2, q, rfl, rfl⟩
  · have hf : tFin cs count b' := (isNon_en cs count b').mp (by simpa using h)
    cases hR' with
    | done h' => exact ⟨rfl, rfl⟩
    | turn h' q => exact absurd hf h'
end
end Rl
set_option Elab.async false
set_option linter.all false
set_option maxRecDepth 100000
set_option maxHeartbeats 4000000
/-! The first tableau. -/
namespace Rl
open PySem L2
section
variable {P : Program} {w : World} {K : PySem.W.Frag} {mg : Str → Option Value} {base : Heap} {CT CI : Addr}
/-- the costs of the first tableau: rows F, basis B, costs g (w of them), scale d -/
def aimF (wd : Nat) (m : Nat) (d : Int) (g : Nat → Int) (B : Nat → Nat) (F : Nat → Nat → Int) (k : Nat) : Int := (if k < wd then d * g k else 0) - sm m fun i => g (B i) * F i k
def cAim (CT : Addr) : Ct := fun ss ms M R => ∃ (a bl : Addr) (C m wd : Nat) (d : Int) (g : Nat → Int) (B : Nat → Nat) (F : Nat → Nat → Int) (c0 : PyData), ss = [.ref a, .dat (.list (rg wd fun k => .int (g k)))] ∧
  ms = [⟨a, .wr, .obj CT (tFs C m (.list (rg m fun i => .list (rg (wd + 1) fun k => .int (F i k)))) bl d c0)⟩, ⟨bl, .rd, .lst (rg m fun i => .int (B i : Nat))⟩] ∧ M = [a] ∧ a ≠ bl ∧ m ≤ 100 ∧ wd ≤ 200 ∧ (∀ i, i < m → B i < wd) ∧
  d.natAbs < 2 ^ 220 ∧ (∀ k, (g k).natAbs < 2 ^ 220) ∧ (∀ i k, (F i k).natAbs < 2 ^ 220) ∧
  R = fun s ms' => s = .dat .none ∧ ms' = [⟨a, .wr, .obj CT (tFs C m (.list (rg m fun i => .list (rg (wd + 1) fun k => .int (F i k)))) bl d (.list (rg (wd + 1) fun k => .int (aimF wd m d g B F k))))⟩, ⟨bl, .rd, .lst (rg m fun i => .int (B i : Nat))⟩]
abbrev s_Tableau_aim : Stmt := inClass (topS 11) 1
abbrev N_Tableau_aim : List Str := ["self", "costs", "cost", "found", "at", "row", "item", "part"]
theorem sc_Tableau_aim : FnScope N_Tableau_aim ["self", "costs"] (defScope s_Tableau_aim) := ⟨rfl, rfl, rfl, by decide +kernel, rfl, by decide +kernel, by decide +kernel⟩
theorem w_aim (T : Txt K mg CT CI) (D : DefM K CT "aim" "Tableau.aim" s_Tableau_aim ["self", "costs"]) : CalM P w K mg base CT "aim" 1 ["self", "costs"] (ctr K (cAim CT)) := by
  refine D.cal sc_Tableau_aim (fun ss ms M R ⟨_, _, _, _, _, _, _, _, _, _, e, _⟩ => by rw [e]; rfl) fun f cdv A outer s H vs Q E hr => ?_
  refine ⟨_, pss_cons (ps_set (i := 3) sc_Tableau_aim.nd rfl (Or.inl rfl) (pe_op op_cat (pe_lc (own := [("cost", 2)]) (g := gName 2) (tt := tYes) rfl sc_Tableau_aim.nd (pi_list (pv 1)) (blkOk_by (N := N_Tableau_aim) (sc := defScope s_Tableau_aim) (by decide +kernel)) (fun _ _ _ _ _ => pg_name (i := 2) sc_Tableau_aim.nd rfl (Or.inl rfl)) (fun _ _ _ _ _ => pts_nil) (fun _ _ _ _ _ => pe_op op_mulW (pe_fldK K (pv 0) rfl) (pv 2))) (pe_lst (pa_cons (pe_int) pa_nil))))
    (pss_cons (ps_for PassesOwn.never rfl (pi_enum (by rfl) T.b_enumerate (pa_cons (pe_fld (pv 0) rfl) pa_nil)) (pg_tup rfl (pgs_cons (pg_name (i := 4) sc_Tableau_aim.nd rfl (Or.inl rfl)) (pgs_cons (pg_name (i := 5) sc_Tableau_aim.nd rfl (Or.inl rfl)) pgs_nil)))
      (pss_cons (ps_set (i := 2) sc_Tableau_aim.nd rfl (Or.inr rfl) (pe_ix ix_list (pv 1) (pe_ix ix_list (pe_fld (pv 0) rfl) (pv 4) (fun _ _ => rfl)) (fun _ _ => rfl)))
      (pss_one (ps_setLc (i := 3) (own := [("item", 6), ("part", 7)]) (g := gTup K 2 (gCons (gName 6) (gCons (gName 7) gNil))) (tt := tYes) rfl sc_Tableau_aim.nd rfl rfl (sw_true rfl rfl rfl (by decide +kernel)) (pi_zip (by rfl) T.b_zip (pa_cons (pv 3) (pa_cons (pv 5) pa_nil))) (blkOk_by (N := N_Tableau_aim) (sc := defScope s_Tableau_aim) (by decide +kernel)) (fun _ _ _ _ _ => pg_tupK K rfl (pgs_cons (pg_name (i := 6) sc_Tableau_aim.nd rfl (Or.inl rfl)) (pgs_cons (pg_name (i := 7) sc_Tableau_aim.nd rfl (Or.inl rfl)) pgs_nil))) (fun _ _ _ _ _ => pts_nil) (fun _ _ _ _ _ => pe_op op_sub (pv 6) (pe_op op_mulW (pv 2) (pv 7)))))))
    (pss_one (ps_fld (pv 0) (pv 3) rfl))), ?_⟩
  rintro _ _ _ _ ⟨a, bl, C, m, wd, d, g, B, F, c0, rfl, rfl, rfl, nab, hm, hwd, hB, zd, zg, zF, rfl⟩
  refine do_seq (do_asg (EvO.know (EvN.to (es := rg (wd + 1) fun k => .int (if k < wd then d * g k else 0)) (en_cat (EvO.know (en_mapR (ei_list (vr 1)) (fun k => .int (d * g k)) (by omega) fun k hk => ⟨_, tg_name (by decide), ev_mul (ev_fld (vr 0) mem0 T.clT T.nT_scale rfl) (vr 2) (mul220 zd (zg k))⟩)) (EvO.know (en_lst (ds := [_]) (ea1 ci))) (by rw [rg_len]; show wd + 1 ≤ 100000; omega)) ?_)) ?_)
  · rw [rg_succ, if_neg (Nat.lt_irrefl wd)]
    congr 1
    exact rg_congr fun k hk => by rw [if_pos hk]
  -- the rows one by one
  refine do_seq (do_forR ((ei_enum (ea1 (ev_fld (vr 0) mem0 T.clT T.nT_rows rfl))).to (enum_rg _ _)) (fun i ε ms => ms = [⟨a, .wr, .obj CT (tFs C m (.list (rg m fun i => .list (rg (wd + 1) fun k => .int (F i k)))) bl d c0)⟩, ⟨bl, .rd, .lst (rg m fun i => .int (B i : Nat))⟩] ∧
    ∃ x2 x4 x5 x6 x7, ε = [.ref a, .dat (.list (rg wd fun k => .int (g k))), x2, .dat (.list (rg (wd + 1) fun k => .int ((if k < wd then d * g k else 0) - sm i fun j => g (B j) * F j k))), x4, x5, x6, x7]) [4, 5] ?_ ?_ ?_)
  · refine ⟨rfl, .un, .un, .un, .un, .un, ?_⟩
    have e : (rg (wd + 1) fun k => PyData.int ((if k < wd then d * g k else 0) - sm 0 fun j => g (B j) * F j k)) = rg (wd + 1) fun k => PyData.int (if k < wd then d * g k else 0) := rg_congr fun k _ => by
      show PyData.int (_ - 0) = _
      rw [Int.sub_zero]
    rw [e]
    rfl
  · rintro i _ _ hi ⟨rfl, x2, x4, x5, x6, x7, rfl⟩
    refine ⟨_, tg_tup2 (by decide) (by decide), ?_⟩
    refine do_seq (do_asg (ev_ixL (vr 1) (ev_ixM (ev_fld (vr 0) mem0 T.clT T.nT_basis rfl) (vr 4) mem1 (at_nat hi)) (at_nat (hB i hi))) ?_)
    refine do_asg (EvO.know (en_mapR ((ei_zip (ea_cons (vr 3) (ea1 (vr 5)))).to (zip_rg _ _ _)) (fun k => .int ((if k < wd then d * g k else 0) - sm (i + 1) fun j => g (B j) * F j k)) (by omega) fun k hk => ⟨_, tg_tup2 (by decide) (by decide), Ev.dat (ev_sub (vr 6) (ev_mul (vr 2) (vr 7) (mul220 (zg _) (zF i k)))) ?_⟩)) ⟨rfl, _, _, _, _, _, rfl⟩
    show PyData.int _ = PyData.int ((if k < wd then d * g k else 0) - ((sm i fun j => g (B j) * F j k) + g (B i) * F i k))
    congr 1
    omega
  · rintro _ _ ⟨rfl, x2, x4, x5, x6, x7, rfl⟩
    have ne : ∀ x ∈ ([⟨bl, .rd, .lst (rg m fun i => .int (B i : Nat))⟩] : Ms), x.at_ ≠ a := fun x hx => by
      cases List.mem_singleton.mp hx
      exact nab.symm
    exact do_fldH (s := .dat (.list (rg (wd + 1) fun k => .int (aimF wd m d g B F k)))) (vr 3) nofun (vr 0) nofun T.clT T.nT_costs ne (by show (6 : Nat) < 1000; decide) rfl ⟨rfl, rfl⟩
/-- the equations that the tableau is made of -/
def eqsD (cs : List (List Int)) (count : Nat) : PyData := .list (rg (count + 1) fun l => .list (rg (cs.length + 1) fun k => .int (if k < cs.length then colA cs count k l else un count l)))
def cTabInit (CT : Addr) : Ct := fun ss ms M R => ∃ x cs count, ss = [.ref x, .dat (eqsD cs count), .dat (.int (cs.length : Nat))] ∧ ms = [⟨x, .wr, .obj CT []⟩] ∧ M = [x] ∧ Ok cs count ∧
  R = fun s ms' => s = .dat .none ∧ ∃ bl, bl ≠ x ∧ ms' = [⟨x, .wr, tObj CT cs count bl (bas0 cs count)⟩, ⟨bl, .nw, .lst (tBas count (bas0 cs count))⟩]
theorem row0 (cs : List (List Int)) (count i : Nat) (hi : i < count + 1) : rg cs.length (fun k => PyData.int (if k < cs.length then colA cs count k i else un count i)) ++ rg (count + 1) (fun j => PyData.int (if j = i then 1 else 0)) ++ [PyData.int (un count i)] =
    rg (tW cs count) fun k => .int (tE cs count (bas0 cs count) i k) := by
  rw [rg_app]
  have e : [PyData.int (un count i)] = rg 1 fun _ => .int (un count i) := rfl
  rw [e, rg_app]
  refine rg_congr fun k hk => ?_
  show (if k < cs.length + (count + 1) then (if k < cs.length then _ else _) else _) = _
  unfold tE
  rw [ent0 hi]
  by_cases h1 : k < cs.length + (count + 1)
  · rw [if_pos h1]
    by_cases h2 : k < cs.length
    · rw [if_pos h2, if_pos h2]
    · rw [if_neg h2]
      obtain ⟨j, rfl⟩ : ∃ j, k = cs.length + j := ⟨k - cs.length, by omega⟩
      rw [colA_mark (by omega), show cs.length + j - cs.length = j by omega]
      show PyData.int (if j = i then 1 else 0) = PyData.int (if i = j then 1 else 0)
      by_cases z : i = j
      · rw [if_pos z, if_pos z.symm]
      · rw [if_neg z, if_neg (fun e => z e.symm)]
  · rw [if_neg h1, show k = cs.length + (count + 1) by omega, colA_rhs]
theorem un_abs (i k : Nat) : (un i k).natAbs ≤ 1 := by unfold un; split <;> decide
abbrev s_Tableau_init : Stmt := inClass (topS 11) 0
abbrev N_Tableau_init : List Str := ["self", "equations", "columns", "place", "equation", "marks", "other"]
theorem sc_Tableau_init : FnScope N_Tableau_init ["self", "equations", "columns"] (defScope s_Tableau_init) := ⟨rfl, rfl, rfl, by decide +kernel, rfl, by decide +kernel, by decide +kernel⟩
theorem w_Tableau (T : Txt K mg CT CI) (D : DefC K mg CT "Tableau" "Tableau.__init__" s_Tableau_init ["self", "equations", "columns"]) (c_aim : CalM P w K mg base CT "aim" 1 ["self", "costs"] (ctr K (cAim CT))) : CalC P w K mg base CT "Tableau" 2 ["self", "equations", "columns"] (ctr K (cTabInit CT)) := by
  refine D.cal sc_Tableau_init (fun ss ms M R ⟨_, _, _, e, _⟩ => by rw [e]; rfl) fun f cdv A outer s H vs Q E hr => ?_
  obtain ⟨f_aim, fd_aim, F_aim, m_aim, b_aim⟩ := c_aim.ex
  refine ⟨_, pss_cons (ps_fld (pv 0) (pv 2) rfl)
    (pss_cons (ps_fld (pv 0) (pe_callB call_len_seq (by rfl) T.b_len (by decide +kernel) (pa_cons (pv 1) pa_nil)) rfl)
    (pss_cons (ps_fld (pv 0) (pe_lst pa_nil) rfl)
    (pss_cons (ps_for PassesOwn.never rfl (pi_enum (by rfl) T.b_enumerate (pa_cons (pv 1) pa_nil)) (pg_tup rfl (pgs_cons (pg_name (i := 3) sc_Tableau_init.nd rfl (Or.inr rfl)) (pgs_cons (pg_name (i := 4) sc_Tableau_init.nd rfl (Or.inl rfl)) pgs_nil)))
      (pss_cons (ps_setLc (i := 5) (own := [("other", 6)]) (g := gName 6) (tt := tYes) rfl sc_Tableau_init.nd rfl rfl (sw_true rfl rfl rfl (by decide +kernel)) (pi_range1 (by rfl) T.b_range (pa_cons (pe_fld (pv 0) rfl) pa_nil)) (blkOk_by (N := N_Tableau_init) (sc := defScope s_Tableau_init) (by decide +kernel)) (fun _ _ _ _ _ => pg_name (i := 6) sc_Tableau_init.nd rfl (Or.inl rfl)) (fun _ _ _ _ _ => pts_nil) (fun _ _ _ _ _ => pe_ifExp (pt_cmpR op_eq (pv 6) (pv 3) (nomark _)) (pe_int) (pe_int)))
      (pss_one (ps_expr (pe_bm PySem.F.plainAttrs_list PySem.F.slot_list_append PySem.F.type_list_append mt_append (pe_fld (pv 0) rfl) (pa_cons (pe_op op_cat (pe_op op_cat (pe_slice sl_list (pv 4) po_none (po_some (pv 2))) (pv 5)) (pe_lst (pa_cons (pe_ix ix_list (pv 4) (pv 2) (fun _ _ => rfl)) pa_nil))) pa_nil))))))
    (pss_cons (ps_fld (pv 0) (pe_lc (own := [("place", 3)]) (g := gName 3) (tt := tYes) rfl sc_Tableau_init.nd (pi_range1 (by rfl) T.b_range (pa_cons (pe_fld (pv 0) rfl) pa_nil)) (blkOk_by (N := N_Tableau_init) (sc := defScope s_Tableau_init) (by decide +kernel)) (fun _ _ _ _ _ => pg_name (i := 3) sc_Tableau_init.nd rfl (Or.inl rfl)) (fun _ _ _ _ _ => pts_nil) (fun _ _ _ _ _ => pe_op op_add (pv 2) (pv 3))) rfl)
    (pss_cons (ps_fld (pv 0) (pe_int) rfl)
    (pss_cons (ps_fld (pv 0) (pe_lst pa_nil) rfl)
    (pss_one (ps_expr (pe_meth (pv 0) T.clT m_aim F_aim hr b_aim .nil pass0 (pa_cons (pe_op op_cat (pe_op op_rep (pe_lst (pa_cons (pe_int) pa_nil)) (pv 2)) (pe_op op_rep (pe_lst (pa_cons (pe_int) pa_nil)) (pe_fld (pv 0) rfl))) pa_nil)))))))))), ?_⟩
  rintro _ _ _ _ ⟨x, cs, count, rfl, rfl, rfl, hO, rfl⟩
  have hC := hO.few
  have hk := hO.sm.few
  have hw : tW cs count ≤ 200 := by unfold tW; omega
  have none0 : ∀ e ∈ ([] : Ms), e.at_ ≠ x := nofun
  refine do_seq (do_fldH (s := .dat (.int (cs.length : Nat))) (vr 2) nofun (vr 0) nofun T.clT T.nT_columns none0 (by decide) rfl ?_)
  refine do_seq (do_fldH (s := .dat (.int (count + 1 : Nat))) (Ev.dat (ev_len (vr 1)) (by rw [rg_len])) nofun (vr 0) nofun T.clT T.nT_size none0 (by show (1 : Nat) < 1000; decide) rfl ?_)
  refine do_seq (do_fldNH (en_lst (ds := []) ea_nil) (fun _ => vr 0) nofun T.clT T.nT_rows none0 (by show (2 : Nat) < 1000; decide) fun p np _ => ?_)
  obtain ⟨fs, hfs⟩ : ∃ fs : List (Str × Sl), fs = ([("columns", Sl.dat (.int (cs.length : Nat))), ("size", Sl.dat (.int (count + 1 : Nat))), ("rows", Sl.ref p)] : List (Str × Sl)) := ⟨_, rfl⟩
  have eq1 : putS "rows" (.ref p) (putS "size" (.dat (.int (count + 1 : Nat))) (putS "columns" (.dat (.int (cs.length : Nat))) [])) = fs := by rw [hfs]; rfl
  refine do_seq (do_forR ((ei_enum (ea1 (vr 1))).to (enum_rg _ _)) (fun i ε ms => ms = [⟨x, .wr, .obj CT fs⟩, ⟨p, .nw, .lst (rg i fun j => tRow cs count (bas0 cs count) j)⟩] ∧
    ∃ x3 x4 x5 x6, ε = [.ref x, .dat (eqsD cs count), .dat (.int (cs.length : Nat)), x3, x4, x5, x6]) [3, 4] ?_ ?_ ?_)
  · exact ⟨by rw [← eq1]; rfl, _, _, _, _, rfl⟩
  · rintro i _ _ hi ⟨rfl, x3, x4, x5, x6, rfl⟩
    refine ⟨_, tg_tup2 (by decide) (by decide), ?_⟩
    refine do_seq (do_asg (EvO.know (en_mapR (ei_range (n := count + 1) (ea1 (ev_fld (vr 0) mem0 T.clT T.nT_size (by rw [hfs]; rfl))) (by omega)) (fun j => .int (if j = i then 1 else 0)) (by omega) fun j hj => ⟨_, tg_name (by decide), ?_⟩)) ?_)
    · by_cases z : j = i
      · rw [if_pos z]
        exact ev_if (b := true) (EvB.to (eb_test (ev_eqI (vr 6) (vr 3))) (decide_eq_true (by omega))) (fun _ => ci) (fun h => nomatch h)
      · rw [if_neg z]
        exact ev_if (b := false) (EvB.to (eb_test (ev_eqI (vr 6) (vr 3))) (decide_eq_false (by omega))) (fun h => nomatch h) (fun _ => ci)
    refine do_app (d := tRow cs count (bas0 cs count) i) (ev_fld (s := .ref p) (vr 0) mem0 T.clT T.nT_rows (by rw [hfs]; rfl)) mem1 nofun (Ev.dat (EvO.know (en_cat (EvO.know (en_cat (EvO.know (EvN.to (en_sl (vr 4) ep_none (ep_some (vr 2))) (cut_front (by omega)))) (vr 5) (by rw [rg_len, rg_len]; omega))) (EvO.know (en_lst (ds := [_]) (ea1 (ev_ixL (vr 4) (vr 2) (at_nat (by omega)))))) (by rw [List.length_append, rg_len, rg_len]; show cs.length + (count + 1) + 1 ≤ 100000; omega))) ?_) (by rw [rg_len]; omega) ⟨?_, _, _, _, _, rfl⟩
    · unfold tRow
      congr 1
      rw [← row0 cs count i hi, if_neg (Nat.lt_irrefl _)]
    · rw [← rg_succ]
      exact setMo_1 np.symm
  · rintro _ _ ⟨rfl, x3, x4, x5, x6, rfl⟩
    refine do_freezeF (a := p) mem1 ?_
    have ew : without p ([⟨x, .wr, .obj CT fs⟩, ⟨p, .nw, .lst (rg (count + 1) fun j => tRow cs count (bas0 cs count) j)⟩] : Ms) = [⟨x, .wr, .obj CT fs⟩] := by rw [without_miss np.symm, without_hit, without_nil]
    have ef : frz p (.list (rg (count + 1) fun j => tRow cs count (bas0 cs count) j)) ([⟨x, .wr, .obj CT fs⟩, ⟨p, .nw, .lst (rg (count + 1) fun j => tRow cs count (bas0 cs count) j)⟩] : Ms) =
        [⟨x, .wr, .obj CT [("columns", .dat (.int (cs.length : Nat))), ("size", .dat (.int (count + 1 : Nat))), ("rows", .dat (tRows cs count (bas0 cs count)))]⟩] := by
      rw [frz_of ew, hfs]
      show [(⟨x, .wr, .obj CT [("columns", .dat (.int (cs.length : Nat))), ("size", .dat (.int (count + 1 : Nat))), ("rows", if p = p then .dat _ else .ref p)]⟩ : Me)] = _
      rw [if_pos rfl]; rfl
    rw [ef, asDat_miss np.symm, asDat_dat, asDat_dat]
    refine do_forget (ε' := [.ref x, .dat (eqsD cs count), .dat (.int (cs.length : Nat)), .un, .un, .un, .un]) rfl (fun i hi => ?_) ?_
    · match i with
      | 0 => exact .inr rfl
      | 1 => exact .inr rfl
      | 2 => exact .inr rfl
      | 3 => exact .inl rfl
      | 4 => exact .inl rfl
      | 5 => exact .inl rfl
      | 6 => exact .inl rfl
      | n + 7 => exact .inl rfl
    refine do_seq (do_fldNH (ds := tBas count (bas0 cs count)) (EvN.to (en_mapR (ei_range (n := count + 1) (ea1 (ev_fld (vr 0) mem0 T.clT T.nT_size rfl)) (by omega)) (fun j => .int ((cs.length : Nat) + (j : Nat))) (by omega) fun j hj => ⟨_, tg_name (by decide), ev_add (vr 2) (vr 3)⟩) ?_) (fun _ => vr 0) nofun T.clT T.nT_basis none0 (by show (3 : Nat) < 1000; decide) fun bl nb _ => ?_)
    · unfold tBas
      refine rg_congr fun j hj => ?_
      rw [bas0_get hj]
      congr 1
    rw [List.nil_append]
    have ne : ∀ e ∈ ([⟨bl, .nw, .lst (tBas count (bas0 cs count))⟩] : Ms), e.at_ ≠ x := fun e he => by
      cases List.mem_singleton.mp he
      exact nb
    refine do_seq (do_fldH (s := .dat (.int 1)) ci nofun (vr 0) nofun T.clT T.nT_scale ne (by show (4 : Nat) < 1000; decide) rfl ?_)
    refine do_seq (do_fldH (s := .dat (.list [])) (EvO.know (en_lst (ds := []) ea_nil)) nofun (vr 0) nofun T.clT T.nT_costs ne (by show (5 : Nat) < 1000; decide) rfl ?_)
    -- self.aim(..)
    have eC : (rg cs.length fun _ => PyData.int 0) ++ (rg (count + 1) fun _ => PyData.int 1) = rg (cs.length + (count + 1)) fun k => .int (gam cs count k) := by
      rw [rg_app]
      refine rg_congr fun k hk' => ?_
      unfold gam
      by_cases z : k < cs.length
      · rw [if_pos z, if_neg (by omega)]
      · rw [if_neg z, if_pos (by omega)]
    have ga : ∀ k, (gam cs count k).natAbs < 2 ^ 220 := fun k => Nat.lt_of_le_of_lt (gam_abs k) (by decide)
    have za : ∀ i k, (tE cs count (bas0 cs count) i k).natAbs < 2 ^ 220 := fun i k => tE_lt hO good0 i k
    have eFs : tFs cs.length (count + 1) (tRows cs count (bas0 cs count)) bl 1 (.list []) = tFs cs.length (count + 1) (.list (rg (count + 1) fun i => .list (rg (cs.length + (count + 1) + 1) fun k => .int (tE cs count (bas0 cs count) i k)))) bl 1 (.list []) := rfl
    have ms1 : (putS "costs" (.dat (.list [])) (putS "scale" (.dat (.int 1)) (putS "basis" (.ref bl) [("columns", .dat (.int (cs.length : Nat))), ("size", .dat (.int (count + 1 : Nat))), ("rows", .dat (tRows cs count (bas0 cs count)))]))) = tFs cs.length (count + 1) (tRows cs count (bas0 cs count)) bl 1 (.list []) := rfl
    rw [ms1]
    refine do_meth (C := CT) (ss := [.dat (.list (rg (cs.length + (count + 1)) fun k => .int (gam cs count k)))])
      (ms' := [⟨x, .wr, .obj CT (tFs cs.length (count + 1) (tRows cs count (bas0 cs count)) bl 1 (.list []))⟩, ⟨bl, .rd, .lst (tBas count (bas0 cs count))⟩]) (M' := [x]) (Cc := cAim CT)
      (R := fun s ms' => s = .dat .none ∧ ms' = [⟨x, .wr, .obj CT (tFs cs.length (count + 1) (tRows cs count (bas0 cs count)) bl 1 (.list (rg (tW cs count) fun k => .int (aimF (cs.length + (count + 1)) (count + 1) 1 (gam cs count) (fun i => bas (bas0 cs count) i) (tE cs count (bas0 cs count)) k))))⟩, ⟨bl, .rd, .lst (tBas count (bas0 cs count))⟩])
      (vr 0) mem0 rfl (ea1 (Ev.dat (EvO.know (en_cat (EvO.know (en_rep1 (n := cs.length) (EvO.know (en_lst (ds := [_]) (ea1 ci))) (vr 2) (by omega))) (EvO.know (en_rep1 (n := count + 1) (EvO.know (en_lst (ds := [_]) (ea1 ci))) (ev_fld (vr 0) mem0 T.clT T.nT_size rfl) (by omega))) (by rw [List.length_replicate, List.length_replicate]; omega))) ?_))
      (fun e he => ?_) (fun e he => ?_) (fun q hq => ?_) ⟨x, bl, cs.length, count + 1, cs.length + (count + 1), 1, gam cs count, fun i => bas (bas0 cs count) i, tE cs count (bas0 cs count), .list [], rfl, rfl, rfl, nb.symm, by omega, by omega, fun i hi => ?_, by decide, ga, za, rfl⟩ ?_
    · rw [rg_rep, rg_rep, eC]
    · rcases List.mem_cons.mp he with z | z
      · rw [z]; exact ⟨_, mem0, rfl, rfl⟩
      · rw [List.mem_singleton.mp z]; exact ⟨_, mem1, rfl, rfl⟩
    · rcases List.mem_cons.mp he with z | z
      · rw [z]; exact .inr ⟨rfl, List.mem_cons_self⟩
      · rw [List.mem_singleton.mp z]; exact .inl rfl
    · rw [List.mem_singleton.mp hq]
      exact ⟨_, mem0, rfl, nofun⟩
    · show bas (bas0 cs count) i < _
      rw [bas0_get hi]; omega
    · rintro s' ms'' ⟨_, rfl⟩ _
      have e0 : ([⟨x, .wr, .obj CT (tFs cs.length (count + 1) (tRows cs count (bas0 cs count)) bl 1 (.list []))⟩, ⟨bl, .nw, .lst (tBas count (bas0 cs count))⟩] : Ms).filter (fun e => decide (e.at_ ∉ [x])) = [⟨bl, .nw, .lst (tBas count (bas0 cs count))⟩] := by
        rw [List.filter_cons_of_neg (by simp), List.filter_cons_of_pos (by simp [nb]), List.filter_nil]
      refine ⟨[⟨x, .wr, tObj CT cs count bl (bas0 cs count)⟩, ⟨bl, .nw, .lst (tBas count (bas0 cs count))⟩], .of fun e he => ?_, rfl, bl, nb, rfl⟩
      have eCosts : tCosts cs count (bas0 cs count) = .list (rg (tW cs count) fun k => .int (aimF (cs.length + (count + 1)) (count + 1) 1 (gam cs count) (fun i => bas (bas0 cs count) i) (tE cs count (bas0 cs count)) k)) := by
        unfold tCosts
        congr 1
        refine rg_congr fun k hk' => ?_
        unfold aimF tR red
        rw [sc0]
        by_cases z : k < cs.length + (count + 1)
        · rw [if_pos z]; rfl
        · rw [if_neg z, show gam cs count k = 0 by unfold gam; rw [if_neg (by omega)], Int.mul_zero]; rfl
      have eS0 : tS cs count (bas0 cs count) = 1 := sc0
      rcases List.mem_cons.mp he with z | z
      · rw [z]
        unfold tObj
        rw [eCosts, eS0]
        exact List.mem_append_right _ mem0
      · rw [List.mem_singleton.mp z]
        exact List.mem_append_left _ (by rw [e0]; exact mem0)
end
end Rl
set_option Elab.async false
set_option linter.all false
set_option maxRecDepth 100000
set_option maxHeartbeats 4000000
/-! solve. -/
namespace Rl
open PySem L2
theorem dbls_rg (n : Nat) (f : Nat → Bool) : dbls ((List.range n).map f) = rg n fun i => .bool (f i) := by
  show List.map PyData.bool ((List.range n).map f) = _
  rw [List.map_map]; rfl
theorem cut_last {n : Nat} {F : Nat → PyData} : cutD (rg (n + 1) F) none (some (-1)) = rg n F := by
  have e1 : HT.sIx (rg (n + 1) F).length 0 none = 0 := rfl
  have e2 : HT.sIx (rg (n + 1) F).length (rg (n + 1) F).length (some (-1)) = n := by
    rw [rg_len]
    unfold HT.sIx
    simp only []
    split <;> (try omega)
  unfold cutD
  rw [e1, e2, List.drop_zero, Nat.sub_zero, rg_take (by omega)]
/-- conditions, an answer, as data -/
def condsD (cs : List (List Int)) (count : Nat) : PyData := .list (rg cs.length fun k => .list (rg (count + 1) fun j => .int (cf cs k j)))
def ansD : Ans → PyData
  | .no ks => .tuple [.str "no", .list (dints ks)]
  | .yes us => .tuple [.str "yes", .list (us.map dF)]
section
variable {P : Program} {w : World} {K : PySem.W.Frag} {mg : Str → Option Value} {base : Heap} {CT CI : Addr}
def cEqs : List PyData → PyData → Prop := fun ds r => ∃ cs count, ds = [condsD cs count, .list (rg count fun _ => .int 0)] ∧ Ok cs count ∧ r = .list (rg count fun l => .list (rg (cs.length + 1) fun k => .int (if k < cs.length then colA cs count k l else un count l)))
abbrev s_equations_of : Stmt := topS 12
abbrev N_equations_of : List Str := ["conditions", "goals", "found", "place", "goal", "condition"]
theorem sc_equations_of : FnScope N_equations_of ["conditions", "goals"] (defScope s_equations_of) := ⟨rfl, rfl, rfl, by decide +kernel, rfl, by decide +kernel, by decide +kernel⟩
theorem w_equations_of (T : Txt K mg CT CI) (D : Def K mg "equations_of" s_equations_of ["conditions", "goals"]) : Cal P w K mg base "equations_of" 1 ["conditions", "goals"] (ctr K (pur cEqs)) := by
  refine D.cal sc_equations_of (fun ss ms M R ⟨ds, r, e, _, _, ⟨_, _, e2, _⟩, _⟩ => by rw [e, e2]; rfl) fun f cdv A outer s H vs Q E hr => ?_
  refine ⟨_, pss_cons (ps_set (i := 2) sc_equations_of.nd rfl (Or.inl rfl) (pe_lst pa_nil))
    (pss_cons (ps_for PassesOwn.never rfl (pi_enum (by rfl) T.b_enumerate (pa_cons (pv 1) pa_nil)) (pg_tup rfl (pgs_cons (pg_name (i := 3) sc_equations_of.nd rfl (Or.inr rfl)) (pgs_cons (pg_name (i := 4) sc_equations_of.nd rfl (Or.inl rfl)) pgs_nil)))
      (pss_one (ps_expr (pe_bm PySem.F.plainAttrs_list PySem.F.slot_list_append PySem.F.type_list_append mt_append (pv 2) (pa_cons (pe_op op_cat (pe_lc (own := [("condition", 5)]) (g := gName 5) (tt := tYes) rfl sc_equations_of.nd (pi_list (pv 0)) (blkOk_by (N := N_equations_of) (sc := defScope s_equations_of) (by decide +kernel)) (fun _ _ _ _ _ => pg_name (i := 5) sc_equations_of.nd rfl (Or.inl rfl)) (fun _ _ _ _ _ => pts_nil) (fun _ _ _ _ _ => pe_ix (ix_listK K) (pv 5) (pe_op op_add (pv 3) (pe_int)) (fun _ _ => rfl))) (pe_lst (pa_cons (pv 4) pa_nil))) pa_nil)))))
    (pss_one (ps_ret (pv 2)))), ?_⟩
  rintro _ _ _ _ ⟨_, _, rfl, rfl, rfl, ⟨cs, count, rfl, hO, rfl⟩, rfl⟩
  have hC := hO.few
  have hk := hO.sm.few
  refine do_seq (do_asgN (en_lst (ds := []) ea_nil) fun p hp => ?_)
  refine do_seq (do_forR ((ei_enum (ea1 (vr 1))).to (enum_rg _ _)) (fun i ε ms => ms = [⟨p, .nw, .lst (rg i fun l => .list (rg (cs.length + 1) fun k => .int (if k < cs.length then colA cs count k l else un count l)))⟩] ∧ ∃ x3 x4 x5, ε = [.dat (condsD cs count), .dat (.list (rg count fun _ => .int 0)), .ref p, x3, x4, x5]) [3, 4] ?_ ?_ ?_)
  · exact ⟨rfl, _, _, _, rfl⟩
  · rintro i _ _ hi ⟨rfl, x3, x4, x5, rfl⟩
    refine ⟨_, tg_tup2 (by decide) (by decide), ?_⟩
    refine do_app (d := .list (rg (cs.length + 1) fun k => .int (if k < cs.length then colA cs count k i else un count i))) (vr 2) mem0 nofun (Ev.dat (EvO.know (en_cat (EvO.know (en_mapR (ei_list (vr 0)) (fun k => .int (cf cs k (i + 1))) (by omega) fun k hk' => ⟨_, tg_name (by decide), ev_ixL (vr 5) (ev_add (vr 3) ci) (at_nat (n := count + 1) (k := i + 1) (by omega))⟩)) (EvO.know (en_lst (ds := [_]) (ea1 (vr 4)))) (by rw [rg_len]; show cs.length + 1 ≤ 100000; omega))) ?_) (by rw [rg_len]; omega) ⟨?_, _, _, _, rfl⟩
    · congr 1
      rw [rg_succ, if_neg (Nat.lt_irrefl _), show un count i = 0 from if_neg (by omega)]
      congr 1
      exact rg_congr fun k hk' => by rw [if_pos hk', colA_cond hk' hi]
    · rw [← rg_succ]
      exact setMo_0
  · rintro _ _ ⟨rfl, x3, x4, x5, rfl⟩
    refine do_freeze (a := p) mem0 ?_
    refine do_ret (s := .dat (.list (rg count fun l => .list (rg (cs.length + 1) fun k => .int (if k < cs.length then colA cs count k l else un count l))))) (ev_var (n := 2) ?_) rfl
    rw [asDat_dat, asDat_dat, asDat_hit]; rfl
def cWd : List PyData → PyData → Prop := fun ds r => ∃ xs : List Int, ds = [.list (dints xs)] ∧ xs.length ≤ 200 ∧ gcdL xs ≠ 0 ∧ (∀ x ∈ xs, x.natAbs < 2 ^ 9000) ∧ r = .list (dints (wd xs))
theorem gcdL_le {n : Nat} : ∀ {xs : List Int}, gcdL xs ≠ 0 → (∀ x ∈ xs, x.natAbs < n) → gcdL xs < n
  | [], h, _ => absurd rfl h
  | x :: xs, h, hb => by
    rw [gcdL_cons] at h ⊢
    by_cases z : x.natAbs = 0
    · rw [z, Nat.gcd_zero_left] at h ⊢
      exact gcdL_le h fun y hy => hb y (List.mem_cons_of_mem _ hy)
    · exact Nat.lt_of_le_of_lt (Nat.gcd_le_left _ (by omega)) (hb x List.mem_cons_self)
abbrev s_without_divisor : Stmt := topS 13
abbrev N_without_divisor : List Str := ["integers", "divisor", "item"]
theorem sc_without_divisor : FnScope N_without_divisor ["integers"] (defScope s_without_divisor) := ⟨rfl, rfl, rfl, by decide +kernel, rfl, by decide +kernel, by decide +kernel⟩
theorem w_without_divisor (T : Txt K mg CT CI) (D : Def K mg "without_divisor" s_without_divisor ["integers"]) : Cal P w K mg base "without_divisor" 1 ["integers"] (ctr K (pur cWd)) := by
  refine D.cal sc_without_divisor (fun ss ms M R ⟨ds, r, e, _, _, ⟨_, e2, _⟩, _⟩ => by rw [e, e2]; rfl) fun f cdv A outer s H vs Q E hr => ?_
  refine ⟨_, pss_cons (ps_set (i := 1) sc_without_divisor.nd rfl (Or.inr rfl) (pe_int))
    (pss_cons (ps_for PassesOwn.never rfl (pi_list (pv 0)) (pg_name (i := 2) sc_without_divisor.nd rfl (Or.inl rfl))
      (pss_one (ps_set (i := 1) sc_without_divisor.nd rfl (Or.inr rfl) (pe_callBfun cr_gcd (by rfl) T.gcd (pa_cons (pv 1) (pa_cons (pv 2) pa_nil))))))
    (pss_one (ps_ret (pe_lc (own := [("item", 2)]) (g := gName 2) (tt := tYes) rfl sc_without_divisor.nd (pi_list (pv 0)) (blkOk_by (N := N_without_divisor) (sc := defScope s_without_divisor) (by decide +kernel)) (fun _ _ _ _ _ => pg_name (i := 2) sc_without_divisor.nd rfl (Or.inl rfl)) (fun _ _ _ _ _ => pts_nil) (fun _ _ _ _ _ => pe_op op_fdivW (pv 2) (pv 1)))))), ?_⟩
  rintro _ _ _ _ ⟨_, _, rfl, rfl, rfl, ⟨xs, rfl, hl, hg, hz, rfl⟩, rfl⟩
  refine do_seq (do_asg ci ?_)
  refine do_seq (do_forR ((ei_list (vr 0)).to (dints_of xs)) (fun i ε ms => ms = [] ∧ ∃ x2, ε = [.dat (.list (dints xs)), .dat (.int (gcdL (xs.take i) : Nat)), x2]) [2] ?_ ?_ ?_)
  · exact ⟨rfl, _, rfl⟩
  · rintro i _ _ hi ⟨rfl, x2, rfl⟩
    refine ⟨_, tg_name (by decide), ?_⟩
    refine do_asg (ev_gcd (vr 1) (vr 2)) ⟨rfl, .dat (.int (xs.getD i 0)), ?_⟩
    have e : xs.take (i + 1) = xs.take i ++ [xs.getD i 0] := by
      rw [List.take_add_one, List.getElem?_eq_getElem hi, List.getD_eq_getElem?_getD, List.getElem?_eq_getElem hi]; rfl
    rw [e, gcdL_snoc]
    rfl
  · rintro _ _ ⟨rfl, x2, rfl⟩
    rw [List.take_length]
    have hd : CDivW 0 (gcdL xs : Nat) := wide_div (by omega) (by show (gcdL xs) < _; exact gcdL_le hg hz) (by decide) (by decide)
    refine do_ret (Ev.dat (EvO.know (en_mapR ((ei_list (vr 0)).to (dints_of xs)) (fun k => .int (xs.getD k 0 / ((gcdL xs : Nat) : Int))) (by omega) fun k hk' => ⟨_, tg_name (by decide), ev_div (vr 2) (vr 1) hd⟩)) ?_) rfl
    congr 1
    rw [dints_of (wd xs), wd_len]
    refine rg_congr fun k hk' => ?_
    unfold wd
    rw [List.getD_eq_getElem?_getD, List.getD_eq_getElem?_getD, List.getElem?_map, List.getElem?_eq_getElem hk']; rfl
def cSolve : List PyData → PyData → Prop := fun ds r => ∃ cs count, ds = [condsD cs count, .int (count : Nat)] ∧ Ok cs count ∧ r = ansD (solF cs count)
abbrev s_solve : Stmt := topS 14
abbrev N_solve : List Str := ["conditions", "count", "firsts", "tableau", "prices", "place", "condition", "price"]
theorem sc_solve : FnScope N_solve ["conditions", "count"] (defScope s_solve) := ⟨rfl, rfl, rfl, by decide +kernel, rfl, by decide +kernel, by decide +kernel⟩
theorem w_solve (T : Txt K mg CT CI) (D : Def K mg "solve" s_solve ["conditions", "count"]) (c_equations_of : Cal P w K mg base "equations_of" 1 ["conditions", "goals"] (ctr K (pur cEqs))) (c_without_divisor : Cal P w K mg base "without_divisor" 1 ["integers"] (ctr K (pur cWd)))
    (c_fraction : Cal P w K mg base "fraction" 1 ["top", "low"] (ctr K (pur cFraction))) (c_Tableau : CalC P w K mg base CT "Tableau" 2 ["self", "equations", "columns"] (ctr K (cTabInit CT)))
    (c_search : CalM P w K mg base CT "search" 3 ["self"] (ctr K (cSearch CT))) (c_found : CalM P w K mg base CT "found" 1 ["self"] (ctr K (red0 (cFound CT)))) : Cal P w K mg base "solve" 4 ["conditions", "count"] (ctr K (pur cSolve)) := by
  refine D.cal sc_solve (fun ss ms M R ⟨ds, r, e, _, _, ⟨_, _, e2, _⟩, _⟩ => by rw [e, e2]; rfl) fun f cdv A outer s H vs Q E hr => ?_
  replace c_equations_of := c_equations_of.mono (j := 3) (by decide)
  replace c_without_divisor := c_without_divisor.mono (j := 3) (by decide)
  replace c_fraction := c_fraction.mono (j := 3) (by decide)
  obtain ⟨f_search, fd_search, F_search, m_search, b_search⟩ := c_search.ex
  obtain ⟨f_found, fd_found, F_found, m_found, b_found⟩ := (c_found.mono (j := 3) (by decide)).ex
  refine ⟨_, pss_cons (ps_if (PW.pt (pw_or (pt_cmpR op_lt (pv 1) (pe_int) (nomark _)) (pw_or1 (pt_val (pe_callB (cr_any rfl) (by rfl) T.b_any (by decide +kernel) (pa_cons (pe_lc (own := [("condition", 6)]) (g := gName 6) (tt := tYes) rfl sc_solve.nd (pi_list (pv 0)) (blkOk_by (N := N_solve) (sc := defScope s_solve) (by decide +kernel)) (fun _ _ _ _ _ => pg_name (i := 6) sc_solve.nd rfl (Or.inl rfl)) (fun _ _ _ _ _ => pts_nil) (fun _ _ _ _ _ => pe_cmpR op_ne (pe_callB (call_lenK K) (by rfl) T.b_len (by decide +kernel) (pa_cons (pv 6) pa_nil)) (pe_op op_add (pv 1) (pe_int)) (nomark _))) pa_nil))))))
      (pss_one (ps_never))
      (pss_nil))
    (pss_cons (ps_set (i := 2) sc_solve.nd rfl (Or.inl rfl) (pe_op op_cat (pe_lc (own := [("condition", 6)]) (g := gName 6) (tt := tYes) rfl sc_solve.nd (pi_list (pv 0)) (blkOk_by (N := N_solve) (sc := defScope s_solve) (by decide +kernel)) (fun _ _ _ _ _ => pg_name (i := 6) sc_solve.nd rfl (Or.inl rfl)) (fun _ _ _ _ _ => pts_nil) (fun _ _ _ _ _ => pe_un un_neg (pe_ix (ix_listK K) (pv 6) (pe_int) (fun _ _ => rfl)))) (pe_lst (pa_cons (pe_int) pa_nil))))
    (pss_cons (ps_set (i := 3) sc_solve.nd rfl (Or.inr rfl) (pe_makeC c_Tableau hr (by rfl) (pa_cons (pe_op op_cat (pe_callC c_equations_of hr (by rfl) (pa_cons (pv 0) (pa_cons (pe_op op_rep (pe_lst (pa_cons (pe_int) pa_nil)) (pv 1)) pa_nil))) (pe_lst (pa_cons (pv 2) pa_nil))) (pa_cons (pe_callB call_len_seq (by rfl) T.b_len (by decide +kernel) (pa_cons (pv 0) pa_nil)) pa_nil))))
    (pss_cons (ps_expr (pe_meth0 (pv 3) T.clT m_search F_search hr b_search .nil pass0))
    (pss_cons (ps_if (pt_cmpR op_eq (pe_ix ix_list (pe_fld (pv 3) rfl) (pe_un un_neg (pe_int)) (fun _ _ => rfl)) (pe_int) (nomark _))
      (pss_one (ps_ret (pe_tup (pa_cons (pe_str) (pa_cons (pe_callC c_without_divisor hr (by rfl) (pa_cons (pe_meth0 (pv 3) T.clT m_found F_found hr b_found .nil pass0) pa_nil)) pa_nil)))))
      (pss_nil))
    (pss_cons (ps_set (i := 4) sc_solve.nd rfl (Or.inr rfl) (pe_lc (own := [("place", 5)]) (g := gName 5) (tt := tYes) rfl sc_solve.nd (pi_range1 (by rfl) T.b_range (pa_cons (pe_op op_add (pv 1) (pe_int)) pa_nil)) (blkOk_by (N := N_solve) (sc := defScope s_solve) (by decide +kernel)) (fun _ _ _ _ _ => pg_name (i := 5) sc_solve.nd rfl (Or.inl rfl)) (fun _ _ _ _ _ => pts_nil) (fun _ _ _ _ _ => pe_op op_sub (pe_fldK K (pv 3) rfl) (pe_ix (ix_listK K) (pe_fldK K (pv 3) rfl) (pe_op op_add (pe_callB (call_lenK K) (by rfl) T.b_len (by decide +kernel) (pa_cons (pv 0) pa_nil)) (pv 5)) (fun _ _ => rfl)))))
    (pss_one (ps_ret (pe_tup (pa_cons (pe_str) (pa_cons (pe_lc (own := [("price", 7)]) (g := gName 7) (tt := tYes) rfl sc_solve.nd (pi_list (pe_slice sl_list (pv 4) po_none (po_some (pe_un un_neg (pe_int))))) (blkOk_by (N := N_solve) (sc := defScope s_solve) (by decide +kernel)) (fun _ _ _ _ _ => pg_name (i := 7) sc_solve.nd rfl (Or.inl rfl)) (fun _ _ _ _ _ => pts_nil) (fun _ _ _ _ _ => pe_callC c_fraction hr (by rfl) (pa_cons (pe_un un_neg (pv 7)) (pa_cons (pe_ix (ix_listK K) (pv 4) (pe_un un_neg (pe_int)) (fun _ _ => rfl)) pa_nil)))) pa_nil)))))))))), ?_⟩
  rintro _ _ _ _ ⟨_, _, rfl, rfl, rfl, ⟨cs, count, rfl, hO, rfl⟩, rfl⟩
  have hC := hO.few
  have hk := hO.sm.few
  refine do_seq (do_if (b := false) (EvB.to (eb_or (eb_test (ev_lt (vr 1) ci)) (fun _ => eb_B (ev_any (bs := (List.range cs.length).map fun _ => false) (Ev.dat (EvO.know (en_mapR (ei_list (vr 0)) (fun _ => .bool false) (by omega) fun k hk' => ⟨_, tg_name (by decide), Ev.dat (ev_neI (ev_len (vr 6)) (ev_add (vr 1) ci)) ?_⟩)) (by rw [dbls_rg]))))) ?_) (fun h => nomatch h) (fun _ => Do.next ?_))
  · rw [rg_len]
    rw [decide_eq_true (by omega)]; rfl
  · rw [decide_eq_false (by omega), List.any_map, Bool.false_or]
    exact List.any_eq_false.mpr fun _ _ => Bool.false_ne_true
  refine do_seq (do_asg (Ev.dat (e := .list (rg (cs.length + 1) fun k => .int (if k < cs.length then colA cs count k count else un count count))) (EvO.know (en_cat (EvO.know (en_mapR (ei_list (vr 0)) (fun k => .int (- cf cs k 0)) (by omega) fun k hk' => ⟨_, tg_name (by decide), ev_neg (ev_ixL (vr 6) ci (at_nat (n := count + 1) (k := 0) (by omega)))⟩)) (EvO.know (en_lst (ds := [_]) (ea1 ci))) (by rw [rg_len]; show cs.length + 1 ≤ 100000; omega))) ?_) ?_)
  · congr 1
    rw [rg_succ, if_neg (Nat.lt_irrefl _), show un count count = 1 from if_pos rfl]
    congr 1
    exact rg_congr fun k hk' => by rw [if_pos hk', colA_last hk']
  refine do_seq (do_asgO (eo_make (R := fun x s ms' => s = .dat .none ∧ ∃ bl, bl ≠ x ∧ ms' = [⟨x, .wr, tObj CT cs count bl (bas0 cs count)⟩, ⟨bl, .nw, .lst (tBas count (bas0 cs count))⟩])
    (ss := [.dat (eqsD cs count), .dat (.int (cs.length : Nat))])
    (ea_cons (Ev.dat (EvO.know (en_cat (ev_call (ds := [_, _]) (ea_cons (vr 0) (ea1 (Ev.dat (EvO.know (en_rep1 (n := count) (EvO.know (en_lst (ds := [_]) (ea1 ci))) (vr 1) (by omega))) (by rw [rg_rep])))) ⟨cs, count, rfl, hO, rfl⟩) (EvO.know (en_lst (ds := [_]) (ea1 (vr 2)))) (by rw [rg_len]; show count + 1 ≤ 100000; omega))) ?_) (ea1 (Ev.dat (ev_len (vr 0)) (by rw [rg_len]))))
    (fun x => ⟨x, cs, count, rfl, rfl, rfl, hO, rfl⟩) (fun x s ms' ⟨h1, bl, _, h2⟩ => ⟨h1, fun e he => by
      rw [h2] at he
      rcases List.mem_cons.mp he with z | z
      · rw [z]; exact nofun
      · rw [List.mem_singleton.mp z]; exact nofun⟩)) ?_)
  · unfold eqsD
    rw [← rg_succ]
  rintro x ms' ⟨ms0, ⟨_, bl, nb, rfl⟩, rfl⟩ _
  show Do K _ _ (tMs .nw CT x bl cs count (bas0 cs count)) _
  obtain ⟨n, hR⟩ := rs_runs (cs := cs) (count := count)
  obtain ⟨c, hc⟩ : ∃ c, c = rs cs count := ⟨_, rfl⟩
  have Gc : tGood cs count c := by rw [hc]; exact rs_good
  have Fc : tFin cs count c := by rw [hc]; exact rs_fin
  rw [← hc] at hR
  refine do_seq (do_meth (C := CT) (ss := []) (ms' := tMs .wr CT x bl cs count (bas0 cs count)) (M' := [x, bl]) (Cc := cSearch CT) (R := fun s ms' => s = .dat .none ∧ ms' = tMs .wr CT x bl cs count c) (vr 3) mem0 rfl ea_nil
    (fun e he => ?_) (fun e he => .inr ?_) (fun p hp => ?_) ⟨x, bl, cs, count, bas0 cs count, c, n, rfl, rfl, rfl, nb.symm, hO, good0, hR, rfl⟩ ?_)
  · rcases List.mem_cons.mp he with z | z
    · rw [z]; exact ⟨_, mem0, rfl, rfl⟩
    · rw [List.mem_singleton.mp z]; exact ⟨_, mem1, rfl, rfl⟩
  · rcases List.mem_cons.mp he with z | z
    · rw [z]; exact ⟨rfl, List.mem_cons_self⟩
    · rw [List.mem_singleton.mp z]; exact ⟨rfl, List.mem_cons_of_mem _ List.mem_cons_self⟩
  · rcases List.mem_cons.mp hp with z | z
    · exact ⟨_, mem0, z.symm, nofun⟩
    · exact ⟨_, mem1, (List.mem_singleton.mp z).symm, nofun⟩
  rintro s' ms'' ⟨_, rfl⟩ _
  refine ⟨tMs .wr CT x bl cs count c, .of fun e he => List.mem_append_right _ he, ?_⟩
  show Do K _ _ _ _
  have rd : ∀ z ∈ tMs .rd CT x bl cs count c, z.fl = .rd ∧ ∃ e' ∈ tMs .wr CT x bl cs count c, e'.at_ = z.at_ ∧ e'.mo = z.mo := fun z hz => by
    rcases List.mem_cons.mp hz with q | q
    · rw [q]; exact ⟨rfl, _, mem0, rfl, rfl⟩
    · rw [List.mem_singleton.mp q]; exact ⟨rfl, _, mem1, rfl, rfl⟩
  have zf := fnd_abs hO.sm Gc.len
  have zp := prc_abs hO.sm Gc.len
  refine do_seq (do_if (b := _) (eb_test (ev_eqI (ev_ixL (ev_fld (vr 3) mem0 T.clT T.nT_costs rfl) (ev_neg ci) (at_neg1 (n := cs.length + (count + 1)))) ci)) (fun hb => ?_) (fun hb => Do.next ?_))
  · have h0 : tR cs count c (cs.length + (count + 1)) = 0 := of_decide_eq_true hb
    have g0 := ks_gcd Gc h0
    refine do_ret (ev_tup (ds := [_, _]) (ea_cons ev_str (ea1 (ev_call (r := .list (dints (wd (ksOf cs count c)))) (ds := [_]) (ea1 (Ev.dat (e := .list (dints (ksOf cs count c))) (ev_meth (ds := []) (ms' := tMs .rd CT x bl cs count c) (vr 3) mem0 rfl ea_nil rd ⟨bl, cs, count, c, rfl, rfl, hO, Gc, rfl⟩) ?_)) ⟨_, rfl, ?_, g0, fun y hy => ?_, rfl⟩)))) ?_
    · unfold ksOf
      rw [dints_rg]
    · unfold ksOf
      rw [List.length_map, List.length_range]; omega
    · unfold ksOf at hy
      obtain ⟨k, _, e⟩ := List.mem_map.mp hy
      rw [← e]
      exact Nat.lt_trans (zf k) (Nat.pow_lt_pow_right (by decide) (by decide))
    · show Sl.dat _ = Sl.dat _
      unfold solF
      rw [← hc, if_pos h0]
      rfl
  · have h0 : tR cs count c (cs.length + (count + 1)) ≠ 0 := of_decide_eq_false hb
    have hp := (prc_ok Gc Fc h0).1
    refine do_seq (do_asg (EvO.know (en_mapR (ei_range (n := count + 1) (ea1 (Ev.dat (ev_add (vr 1) ci) rfl)) (by omega)) (fun l => .int (prc cs count c l)) (by omega) fun l hl => ⟨_, tg_name (by decide), ev_sub (ev_fld (vr 3) mem0 T.clT T.nT_scale rfl) (ev_ixL (ev_fld (vr 3) mem0 T.clT T.nT_costs rfl) (Ev.dat (e := .int ((cs.length + l : Nat) : Int)) (ev_add (ev_len (vr 0)) (vr 5)) (by rw [rg_len]; rfl)) (at_nat (by unfold tW; omega)))⟩)) ?_)
    refine do_ret (ev_tup (ds := [_, _]) (ea_cons ev_str (ea1 (EvO.know (en_mapR (ei_list (EvO.know (EvN.to (en_sl (vr 4) ep_none (ep_some (ev_neg ci))) cut_last))) (fun l => dF (fr (- prc cs count c l) (prc cs count c count))) (by omega) fun l hl => ⟨_, tg_name (by decide), ev_call (ds := [_, _]) (ea_cons (ev_neg (vr 7)) (ea1 (ev_ixL (vr 4) (ev_neg ci) at_neg1))) ⟨_, _, rfl, hp, Nat.lt_trans (zp _) (Nat.pow_lt_pow_right (by decide) (by decide)), rfl⟩⟩))))) ?_
    show Sl.dat _ = Sl.dat _
    unfold solF
    rw [← hc, if_neg h0]
    show _ = Sl.dat (.tuple [.str "yes", .list (((List.range count).map fun l => fr (- prc cs count c l) (prc cs count c count)).map dF)])
    rw [List.map_map]
    rfl
end
end Rl
set_option Elab.async false
set_option linter.all false
set_option maxRecDepth 100000
set_option maxHeartbeats 4000000
/-! The class Island: its making, its small methods. -/
namespace Rl
open PySem L2
def natI (xs : List Nat) : List Int := xs.map fun (n : Nat) => (n : Int)
def dNats (xs : List Nat) : PyData := .list (dints (natI xs))
def dNatsT (xs : List Nat) : PyData := .tuple (dints (natI xs))
abbrev dLn (x : Ln) : PyData := .tuple [.int (x.a : Nat), .int (x.b : Nat), .int x.s, .int x.l]
abbrev dStn (x : Stn) : PyData := .tuple [.int (x.node : Nat), .int x.lo, .int x.hi, .bool x.own]
abbrev dLd (x : Ld) : PyData := .tuple [.int (x.node : Nat), .int x.amt]
abbrev dNet (n : Net) : PyData := .tuple [.int (n.nodes : Nat), .list (n.lines.map dLn), .list (n.stations.map dStn), .list (n.loads.map dLd)]
abbrev dSta (s : Sta) : PyData := .tuple [dNatsT s.closed, dNatsT s.running, dNatsT s.fed]
theorem natI_mem {xs : List Nat} {v : Nat} : ((v : Nat) : Int) ∈ natI xs ↔ v ∈ xs := by
  unfold natI
  constructor
  · intro h
    obtain ⟨w, hw, e⟩ := List.mem_map.mp h
    have : w = v := by omega
    rw [← this]; exact hw
  · exact fun h => List.mem_map_of_mem h
theorem natI_get {xs : List Nat} {i : Nat} : (dints (natI xs))[i]? = (xs[i]?).map fun n => .int (n : Nat) := by
  show (List.map PyData.int (natI xs))[i]? = _
  unfold natI
  rw [List.map_map, List.getElem?_map]; rfl
theorem natI_len (xs : List Nat) : (dints (natI xs)).length = xs.length := by
  show (List.map PyData.int (natI xs)).length = _
  unfold natI
  rw [List.length_map, List.length_map]
theorem nats_rg (xs : List Nat) : dints (natI xs) = rg xs.length fun i => .int (xs.getD i 0 : Nat) := by
  refine List.ext_getElem? fun j => ?_
  rw [natI_get]
  by_cases h : j < xs.length
  · rw [rg_at h, List.getElem?_eq_getElem h, getD_at (List.getElem?_eq_getElem h)]; rfl
  · rw [List.getElem?_eq_none (by omega), List.getElem?_eq_none (by rw [rg_len]; omega)]; rfl
/-- an item of a list of data -/
theorem map_at {α : Type} {xs : List α} {f : α → PyData} {d : α} {k : Nat} (h : k < xs.length) : atI (xs.map f) ((k : Nat) : Int) = some (f (xs.getD k d)) :=
  at_list (by omega) (by rw [show (((k : Nat) : Int)).toNat = k by omega, List.getElem?_map, List.getElem?_eq_getElem h, getD_at (List.getElem?_eq_getElem h)]; rfl)
theorem map_rg {α : Type} (xs : List α) (f : α → PyData) (d : α) : xs.map f = rg xs.length fun i => f (xs.getD i d) := by
  refine List.ext_getElem? fun j => ?_
  by_cases h : j < xs.length
  · rw [rg_at h, List.getElem?_map, List.getElem?_eq_getElem h, getD_at (List.getElem?_eq_getElem h)]; rfl
  · rw [List.getElem?_eq_none (by rw [List.length_map]; omega), List.getElem?_eq_none (by rw [rg_len]; omega)]
def iFs (p : Part) : List (Str × Sl) := [("nodes", .dat (dNats p.nodes)), ("stations", .dat (.list (p.sts.map dStn))), ("lines", .dat (.list (p.lns.map dLn))), ("loads", .dat (.list (p.lds.map dLd))), ("count", .dat (.int ((p.sts.length : Nat) + (p.nodes.length : Nat) - 1)))]
def iObj (CI : Addr) (p : Part) : Mo := .obj CI (iFs p)
section
variable {P : Program} {w : World} {K : PySem.W.Frag} {mg : Str → Option Value} {base : Heap} {CT CI : Addr}
def cIslInit (CI : Addr) : Ct := fun ss ms M R => ∃ x n s isl, ss = [.ref x, .dat (dNet n), .dat (dSta s), .dat (dNats isl)] ∧ ms = [⟨x, .wr, .obj CI []⟩] ∧ M = [x] ∧ StaOk n s ∧ R = fun r ms' => r = .dat .none ∧ ms' = [⟨x, .wr, iObj CI (partOf n s isl)⟩]
theorem in_nats {v : Nat} {xs : List Nat} : decide (((v : Nat) : Int) ∈ natI xs) = decide (v ∈ xs) := decide_eq_decide.mpr natI_mem
abbrev s_Island_init : Stmt := inClass (topS 16) 0
abbrev N_Island_init : List Str := ["self", "net", "state", "island", "_", "lines", "stations", "loads", "closed", "running", "fed", "index"]
theorem sc_Island_init : FnScope N_Island_init ["self", "net", "state", "island"] (defScope s_Island_init) := ⟨rfl, rfl, rfl, by decide +kernel, rfl, by decide +kernel, by decide +kernel⟩
theorem w_Island (T : Txt K mg CT CI) (D : DefC K mg CI "Island" "Island.__init__" s_Island_init ["self", "net", "state", "island"]) : CalC P w K mg base CI "Island" 1 ["self", "net", "state", "island"] (ctr K (cIslInit CI)) := by
  refine D.cal sc_Island_init (fun ss ms M R ⟨_, _, _, _, e, _⟩ => by rw [e]; rfl) fun f cdv A outer s H vs Q E hr => ?_
  refine ⟨_, pss_cons (ps_asg (pv 1) (pg_tup rfl (pgs_cons (pg_name (i := 4) sc_Island_init.nd rfl (Or.inl rfl)) (pgs_cons (pg_name (i := 5) sc_Island_init.nd rfl (Or.inr rfl)) (pgs_cons (pg_name (i := 6) sc_Island_init.nd rfl (Or.inr rfl)) (pgs_cons (pg_name (i := 7) sc_Island_init.nd rfl (Or.inr rfl)) pgs_nil))))))
    (pss_cons (ps_asg (pv 2) (pg_tup rfl (pgs_cons (pg_name (i := 8) sc_Island_init.nd rfl (Or.inl rfl)) (pgs_cons (pg_name (i := 9) sc_Island_init.nd rfl (Or.inl rfl)) (pgs_cons (pg_name (i := 10) sc_Island_init.nd rfl (Or.inl rfl)) pgs_nil)))))
    (pss_cons (ps_fld (pv 0) (pv 3) rfl)
    (pss_cons (ps_fld (pv 0) (pe_lc (own := [("index", 11)]) (g := gName 11) (tt := _) rfl sc_Island_init.nd (pi_tup (pv 9)) (blkOk_by (N := N_Island_init) (sc := defScope s_Island_init) (by decide +kernel)) (fun _ _ _ _ _ => pg_name (i := 11) sc_Island_init.nd rfl (Or.inl rfl)) (fun _ _ _ _ _ => pts_one (pt_cmpR (op_in_seqK K) (pe_ix (ix_tupK K) (pe_ix (ix_listK K) (pv 6) (pv 11) (fun _ _ => rfl)) (pe_int) (fun _ _ => rfl)) (pv 3) (by rfl))) (fun _ _ _ _ _ => pe_ix (ix_listK K) (pv 6) (pv 11) (fun _ _ => rfl))) rfl)
    (pss_cons (ps_fld (pv 0) (pe_lc (own := [("index", 11)]) (g := gName 11) (tt := _) rfl sc_Island_init.nd (pi_tup (pv 8)) (blkOk_by (N := N_Island_init) (sc := defScope s_Island_init) (by decide +kernel)) (fun _ _ _ _ _ => pg_name (i := 11) sc_Island_init.nd rfl (Or.inl rfl)) (fun _ _ _ _ _ => pts_one (pt_cmpR (op_in_seqK K) (pe_ix (ix_tupK K) (pe_ix (ix_listK K) (pv 5) (pv 11) (fun _ _ => rfl)) (pe_int) (fun _ _ => rfl)) (pv 3) (by rfl))) (fun _ _ _ _ _ => pe_ix (ix_listK K) (pv 5) (pv 11) (fun _ _ => rfl))) rfl)
    (pss_cons (ps_fld (pv 0) (pe_lc (own := [("index", 11)]) (g := gName 11) (tt := _) rfl sc_Island_init.nd (pi_tup (pv 10)) (blkOk_by (N := N_Island_init) (sc := defScope s_Island_init) (by decide +kernel)) (fun _ _ _ _ _ => pg_name (i := 11) sc_Island_init.nd rfl (Or.inl rfl)) (fun _ _ _ _ _ => pts_one (pt_cmpR (op_in_seqK K) (pe_ix (ix_tupK K) (pe_ix (ix_listK K) (pv 7) (pv 11) (fun _ _ => rfl)) (pe_int) (fun _ _ => rfl)) (pv 3) (by rfl))) (fun _ _ _ _ _ => pe_ix (ix_listK K) (pv 7) (pv 11) (fun _ _ => rfl))) rfl)
    (pss_one (ps_fld (pv 0) (pe_op op_sub (pe_op op_add (pe_callB call_len_seq (by rfl) T.b_len (by decide +kernel) (pa_cons (pe_fld (pv 0) rfl) pa_nil)) (pe_callB call_len_seq (by rfl) T.b_len (by decide +kernel) (pa_cons (pv 3) pa_nil))) (pe_int)) rfl))))))), ?_⟩
  rintro _ _ _ _ ⟨x, n, s, isl, rfl, rfl, rfl, S, rfl⟩
  have none0 : ∀ e ∈ ([] : Ms), e.at_ ≠ x := nofun
  refine do_seq (do_asgT (vr 1) (tg_tup4 (vs := [4, 5, 6, 7]) (by decide) (by decide) (by decide) (by decide)) ?_)
  refine do_seq (do_asgT (vr 2) (tg_tup3 (vs := [8, 9, 10]) (by decide) (by decide) (by decide)) ?_)
  refine do_seq (do_fldH (s := .dat (dNats isl)) (vr 3) nofun (vr 0) nofun T.clI T.nI_nodes none0 (by decide) rfl ?_)
  refine do_seq (do_fldH (s := .dat (.list ((pick n.stations stn0 Stn.node isl s.running).map dStn))) (Ev.dat (EvO.know (en_lcI (ei_tup (vr 9)) (fun i => decide ((n.stations.getD (s.running.getD i 0) stn0).node ∈ isl)) (fun i => dStn (n.stations.getD (s.running.getD i 0) stn0)) (by rw [natI_len]; have := S.runningN; omega) fun i d hd => ?_)) ?_) nofun (vr 0) nofun T.clI T.nI_stations none0 (by show (1 : Nat) < 1000; decide) rfl ?_)
  · rw [natI_get] at hd
    cases q : s.running[i]? with
    | none => rw [q] at hd; cases hd
    | some k =>
      rw [q] at hd
      have hd' := Option.some.inj hd
      subst hd'
      rw [getD_at q]
      have hk := S.running k (List.mem_of_getElem? q)
      exact ⟨_, tg_name (by decide), EvB.to (eb_test (ev_in (ev_ixT (ev_ixL (vr 6) (vr 11) (map_at (d := stn0) hk)) ci rfl) (vr 3))) in_nats, fun _ => ev_ixL (vr 6) (vr 11) (map_at (d := stn0) hk)⟩
  · rw [natI_len]
    unfold pick
    rw [List.map_map]
    congr 1
    exact filt_range s.running 0 (fun k => decide ((n.stations.getD k stn0).node ∈ isl)) (fun k => dStn (n.stations.getD k stn0))
  refine do_seq (do_fldH (s := .dat (.list ((pick n.lines ln0 Ln.a isl s.closed).map dLn))) (Ev.dat (EvO.know (en_lcI (ei_tup (vr 8)) (fun i => decide ((n.lines.getD (s.closed.getD i 0) ln0).a ∈ isl)) (fun i => dLn (n.lines.getD (s.closed.getD i 0) ln0)) (by rw [natI_len]; have := S.closedN; omega) fun i d hd => ?_)) ?_) nofun (vr 0) nofun T.clI T.nI_lines none0 (by show (2 : Nat) < 1000; decide) rfl ?_)
  · rw [natI_get] at hd
    cases q : s.closed[i]? with
    | none => rw [q] at hd; cases hd
    | some k =>
      rw [q] at hd
      have hd' := Option.some.inj hd
      subst hd'
      rw [getD_at q]
      have hk := S.closed k (List.mem_of_getElem? q)
      exact ⟨_, tg_name (by decide), EvB.to (eb_test (ev_in (ev_ixT (ev_ixL (vr 5) (vr 11) (map_at (d := ln0) hk)) ci rfl) (vr 3))) in_nats, fun _ => ev_ixL (vr 5) (vr 11) (map_at (d := ln0) hk)⟩
  · rw [natI_len]
    unfold pick
    rw [List.map_map]
    congr 1
    exact filt_range s.closed 0 (fun k => decide ((n.lines.getD k ln0).a ∈ isl)) (fun k => dLn (n.lines.getD k ln0))
  refine do_seq (do_fldH (s := .dat (.list ((pick n.loads ld0 Ld.node isl s.fed).map dLd))) (Ev.dat (EvO.know (en_lcI (ei_tup (vr 10)) (fun i => decide ((n.loads.getD (s.fed.getD i 0) ld0).node ∈ isl)) (fun i => dLd (n.loads.getD (s.fed.getD i 0) ld0)) (by rw [natI_len]; have := S.fedN; omega) fun i d hd => ?_)) ?_) nofun (vr 0) nofun T.clI T.nI_loads none0 (by show (3 : Nat) < 1000; decide) rfl ?_)
  · rw [natI_get] at hd
    cases q : s.fed[i]? with
    | none => rw [q] at hd; cases hd
    | some k =>
      rw [q] at hd
      have hd' := Option.some.inj hd
      subst hd'
      rw [getD_at q]
      have hk := S.fed k (List.mem_of_getElem? q)
      exact ⟨_, tg_name (by decide), EvB.to (eb_test (ev_in (ev_ixT (ev_ixL (vr 7) (vr 11) (map_at (d := ld0) hk)) ci rfl) (vr 3))) in_nats, fun _ => ev_ixL (vr 7) (vr 11) (map_at (d := ld0) hk)⟩
  · rw [natI_len]
    unfold pick
    rw [List.map_map]
    congr 1
    exact filt_range s.fed 0 (fun k => decide ((n.loads.getD k ld0).node ∈ isl)) (fun k => dLd (n.loads.getD k ld0))
  refine do_fldH (s := .dat (.int (((pick n.stations stn0 Stn.node isl s.running).length : Nat) + (isl.length : Nat) - 1))) (Ev.dat (ev_sub (ev_add (ev_len (ev_fld (vr 0) mem0 T.clI T.nI_stations rfl)) (ev_len (vr 3))) ci) ?_) nofun (vr 0) nofun T.clI T.nI_count none0 (by show (4 : Nat) < 1000; decide) rfl ⟨rfl, rfl⟩
  rw [List.length_map, natI_len]
def cBlank (CI : Addr) : Addr → Ms → List PyData → List PyData → Prop := fun a ms ds rs => ∃ p : Part, ms = [⟨a, .rd, iObj CI p⟩] ∧ ds = [] ∧ p.wid ≤ 100 ∧ 1 ≤ p.nodes.length ∧ rs = rg p.wid fun _ => .int 0
abbrev s_Island_blank : Stmt := inClass (topS 16) 1
abbrev N_Island_blank : List Str := ["self"]
theorem sc_Island_blank : FnScope N_Island_blank ["self"] (defScope s_Island_blank) := ⟨rfl, rfl, rfl, by decide +kernel, rfl, by decide +kernel, by decide +kernel⟩
theorem w_blank (T : Txt K mg CT CI) (D : DefM K CI "blank" "Island.blank" s_Island_blank ["self"]) : CalM P w K mg base CI "blank" 1 ["self"] (ctr K (rdNew (cBlank CI))) := by
  refine D.cal sc_Island_blank (fun ss ms M R ⟨a, ds, r, e, _, _, ⟨_, _, e2, _⟩, _⟩ => by rw [e, e2]; rfl) fun f cdv A outer s H vs Q E hr => ?_
  refine ⟨_, pss_one (ps_ret (pe_op op_rep (pe_lst (pa_cons (pe_int) pa_nil)) (pe_op op_add (pe_fld (pv 0) rfl) (pe_int)))), ?_⟩
  rintro _ ms _ _ ⟨a, _, _, rfl, _, rfl, ⟨p, rfl, rfl, hw, hn, rfl⟩, rfl⟩
  refine do_retO (EvN.to (en_rep1 (n := p.wid) (EvO.know (en_lst (ds := [_]) (ea1 ci))) (Ev.dat (ev_add (ev_fld (vr 0) mem0 T.clI T.nI_count rfl) ci) ?_) (by omega)) (rg_rep _ _)) fun x ms' hp => ⟨x, rfl, hp⟩
  unfold Part.wid
  congr 1
  omega
/-- a potential is added to a condition of one's own -/
def cAddPot (CI : Addr) : Ct := fun ss ms M R => ∃ (a q : Addr) (p : Part) (v : Nat) (k : Int) (f : Nat → Int), ss = [.ref a, .ref q, .dat (.int (v : Nat)), .dat (.int k)] ∧ ms = [⟨a, .rd, iObj CI p⟩, ⟨q, .wr, .lst (rg p.wid fun j => .int (f j))⟩] ∧ M = [q] ∧ a ≠ q ∧ v ∈ p.nodes ∧
  R = fun s ms' => s = .dat .none ∧ ∃ e ∈ ms', e = ⟨q, .wr, .lst (rg p.wid fun j => .int (f j + p.pot v k j))⟩
theorem idx_first {xs : List Nat} {v m : Nat} {z : Int} (hm : m < xs.idxOf v) (h : (natI xs)[m]? = some z) : z ≠ ((v : Nat) : Int) := by
  unfold natI at h
  rw [List.getElem?_map] at h
  cases e : xs[m]? with
  | none => rw [e] at h; cases h
  | some u =>
    rw [e] at h
    have h' := Option.some.inj h
    subst h'
    have hl := (List.getElem?_eq_some_iff.mp e)
    obtain ⟨hl, e2⟩ := hl
    have := List.not_of_lt_findIdx (p := fun x => x == v) (xs := xs) (i := m) hm
    rw [e2] at this
    have : ¬ u = v := by simpa using this
    show ((u : Nat) : Int) ≠ (v : Nat)
    omega
theorem idx_lt {p : Part} {v : Nat} (h : v ∈ p.nodes) : p.idx v < p.nodes.length := List.idxOf_lt_length_of_mem h
abbrev s_Island_add_potential : Stmt := inClass (topS 16) 2
abbrev N_Island_add_potential : List Str := ["self", "condition", "node", "factor", "place"]
theorem sc_Island_add_potential : FnScope N_Island_add_potential ["self", "condition", "node", "factor"] (defScope s_Island_add_potential) := ⟨rfl, rfl, rfl, by decide +kernel, rfl, by decide +kernel, by decide +kernel⟩
theorem w_add_potential (T : Txt K mg CT CI) (D : DefM K CI "add_potential" "Island.add_potential" s_Island_add_potential ["self", "condition", "node", "factor"]) : CalM P w K mg base CI "add_potential" 1 ["self", "condition", "node", "factor"] (ctr K (cAddPot CI)) := by
  refine D.cal sc_Island_add_potential (fun ss ms M R ⟨_, _, _, _, _, _, e, _⟩ => by rw [e]; rfl) fun f cdv A outer s H vs Q E hr => ?_
  refine ⟨_, pss_cons (ps_set (i := 4) sc_Island_add_potential.nd rfl (Or.inl rfl) (pe_bm PySem.F.plainAttrs_list PySem.F.slot_list_index PySem.F.type_list_index mt_index (pe_fld (pv 0) rfl) (pa_cons (pv 2) pa_nil)))
    (pss_one (ps_if (pt_cmpR op_gt (pv 4) (pe_int) (nomark _))
      (pss_one (ps_augS (pv 1) (pe_op op_add (pe_callB call_len_seq (by rfl) T.b_len (by decide +kernel) (pa_cons (pe_fld (pv 0) rfl) pa_nil)) (pv 4)) get_list (pv 3) ip_add set_list))
      (pss_nil))), ?_⟩
  rintro _ _ _ _ ⟨a, q, p, v, k, f, rfl, rfl, rfl, naq, hv, rfl⟩
  have hi := idx_lt hv
  refine do_seq (do_asg (ev_index (ns := natI p.nodes) (y := (v : Nat)) (j := p.idx v) (ev_fld (vr 0) mem0 T.clI T.nI_nodes rfl) (vr 2) ?_ (fun m z h1 h2 => idx_first h1 h2)) ?_)
  · unfold natI Part.idx
    rw [List.getElem?_map, idx_get hv]; rfl
  refine do_if (b := _) (eb_test (ev_gt (vr 4) ci)) (fun hb => ?_) (fun hb => Do.next ?_)
  · have hp : 0 < p.idx v := by have := of_decide_eq_true hb; omega
    have hj : p.sts.length + p.idx v < p.wid := by unfold Part.wid; omega
    refine do_augL (x := f (p.sts.length + p.idx v)) (f := fun i j => i + j) (vr 1) (Ev.dat (e := .int ((p.sts.length + p.idx v : Nat) : Int)) (ev_add (ev_len (ev_fld (vr 0) mem0 T.clI T.nI_stations rfl)) (vr 4)) (by rw [List.length_map]; rfl)) (vr 3) mem1 nofun (by omega) ?_ ?_
    · rw [show (((p.sts.length + p.idx v : Nat) : Int)).toNat = p.sts.length + p.idx v by omega]
      exact rg_at hj
    · rw [setMo_1 naq]
      refine ⟨rfl, _, mem1, ?_⟩
      congr 2
      rw [show (((p.sts.length + p.idx v : Nat) : Int)).toNat = p.sts.length + p.idx v by omega, rg_set]
      refine rg_congr fun j hj' => ?_
      unfold Part.pot
      by_cases z : j = p.sts.length + p.idx v
      · rw [if_pos z, if_pos ⟨hp, z⟩, z]
      · rw [if_neg z, if_neg (fun c => z c.2), Int.add_zero]
  · have hp : ¬ 0 < p.idx v := by have := of_decide_eq_false hb; omega
    refine ⟨rfl, _, mem1, ?_⟩
    congr 2
    refine rg_congr fun j hj' => ?_
    unfold Part.pot
    rw [if_neg (fun c => hp c.1), Int.add_zero]
end
end Rl
set_option Elab.async false
set_option linter.all false
set_option maxRecDepth 100000
set_option maxHeartbeats 4000000
/-! The conditions of an island. -/
namespace Rl
open PySem L2
/-- what the walks need of a part -/
structure PartW (p : Part) : Prop where
  ok : PartOk p
theorem PartW.wid {p : Part} (h : PartW p) : p.wid ≤ 12 ∧ 1 ≤ p.nodes.length ∧ 1 ≤ p.wid := by
  have := h.ok.ne
  have := h.ok.sts
  unfold Part.wid
  omega
section
variable {P : Program} {w : World} {K : PySem.W.Frag} {mg : Str → Option Value} {base : Heap} {CT CI : Addr}
def cFlow (CI : Addr) : Addr → Ms → List PyData → PyData → Prop := fun a ms ds r => ∃ (p : Part) (x : Ln), ms = [⟨a, .rd, iObj CI p⟩] ∧ ds = [dLn x] ∧ PartW p ∧ x.a ∈ p.nodes ∧ x.b ∈ p.nodes ∧ r = .list (rg p.wid fun j => .int (p.flow x j))
theorem rd1 {a : Addr} {fl : Fl} {m : Mo} {l : Ms} : ∀ z ∈ ([⟨a, .rd, m⟩] : Ms), z.fl = .rd ∧ ∃ e' ∈ (⟨a, fl, m⟩ :: l : Ms), e'.at_ = z.at_ ∧ e'.mo = z.mo := fun z hz => by
  cases List.mem_singleton.mp hz
  exact ⟨rfl, _, mem0, rfl, rfl⟩
abbrev s_Island_flow : Stmt := inClass (topS 16) 3
abbrev N_Island_flow : List Str := ["self", "line", "first", "second", "strength", "_", "condition"]
theorem sc_Island_flow : FnScope N_Island_flow ["self", "line"] (defScope s_Island_flow) := ⟨rfl, rfl, rfl, by decide +kernel, rfl, by decide +kernel, by decide +kernel⟩
theorem w_flow (T : Txt K mg CT CI) (D : DefM K CI "flow" "Island.flow" s_Island_flow ["self", "line"]) (c_blank : CalM P w K mg base CI "blank" 1 ["self"] (ctr K (rdNew (cBlank CI)))) (c_add_potential : CalM P w K mg base CI "add_potential" 1 ["self", "condition", "node", "factor"] (ctr K (cAddPot CI))) :
    CalM P w K mg base CI "flow" 2 ["self", "line"] (ctr K (red0 (cFlow CI))) := by
  refine D.cal sc_Island_flow (fun ss ms M R ⟨a, ds, r, e, _, _, ⟨_, _, _, e2, _⟩, _⟩ => by rw [e, e2]; rfl) fun f cdv A outer s H vs Q E hr => ?_
  obtain ⟨f_blank, fd_blank, F_blank, m_blank, b_blank⟩ := c_blank.ex
  obtain ⟨f_add_potential, fd_add_potential, F_add_potential, m_add_potential, b_add_potential⟩ := c_add_potential.ex
  refine ⟨_, pss_cons (ps_asg (pv 1) (pg_tup rfl (pgs_cons (pg_name (i := 2) sc_Island_flow.nd rfl (Or.inl rfl)) (pgs_cons (pg_name (i := 3) sc_Island_flow.nd rfl (Or.inl rfl)) (pgs_cons (pg_name (i := 4) sc_Island_flow.nd rfl (Or.inl rfl)) (pgs_cons (pg_name (i := 5) sc_Island_flow.nd rfl (Or.inl rfl)) pgs_nil))))))
    (pss_cons (ps_set (i := 6) sc_Island_flow.nd rfl (Or.inl rfl) (pe_meth0 (pv 0) T.clI m_blank F_blank hr b_blank .nil pass0))
    (pss_cons (ps_expr (pe_meth (pv 0) T.clI m_add_potential F_add_potential hr b_add_potential .nil pass0 (pa_cons (pv 6) (pa_cons (pv 2) (pa_cons (pv 4) pa_nil)))))
    (pss_cons (ps_expr (pe_meth (pv 0) T.clI m_add_potential F_add_potential hr b_add_potential .nil pass0 (pa_cons (pv 6) (pa_cons (pv 3) (pa_cons (pe_un un_neg (pv 4)) pa_nil)))))
    (pss_one (ps_ret (pv 6)))))), ?_⟩
  rintro _ ms _ _ ⟨a, _, _, rfl, _, rfl, ⟨p, x, rfl, rfl, hW, ha, hb, rfl⟩, rfl⟩
  have hw := hW.wid
  refine do_seq (do_asgT (vr 1) (tg_tup4 (vs := [2, 3, 4, 5]) (by decide) (by decide) (by decide) (by decide)) ?_)
  refine do_seq (do_asgN (eo_meth (ms' := [⟨a, .rd, iObj CI p⟩]) (vr 0) mem0 rfl (ds := []) ea_nil rd1 ⟨p, rfl, rfl, by omega, hw.2.1, rfl⟩) fun q hq => ?_)
  have naq : a ≠ q := hq _ mem0 _ mem0
  show Do K _ _ [⟨a, .rd, iObj CI p⟩, ⟨q, .nw, .lst (rg p.wid fun _ => .int 0)⟩] _
  -- one potential, then the other
  have step : ∀ (g : Nat → Int), ([⟨a, .rd, iObj CI p⟩, ⟨q, .nw, .lst (rg p.wid fun j => .int (g j))⟩] : Ms).filter (fun e => decide (e.at_ ∉ [q])) = [⟨a, .rd, iObj CI p⟩] := fun g => by
    rw [List.filter_cons_of_pos (by simp [naq]), List.filter_cons_of_neg (by simp), List.filter_nil]
  have sub : ∀ (g : Nat → Int), ∀ e ∈ ([⟨a, .rd, iObj CI p⟩, ⟨q, .wr, .lst (rg p.wid fun j => .int (g j))⟩] : Ms), ∃ e' ∈ ([⟨a, .rd, iObj CI p⟩, ⟨q, .nw, .lst (rg p.wid fun j => .int (g j))⟩] : Ms), e'.at_ = e.at_ ∧ e'.mo = e.mo := fun g e he => by
    rcases List.mem_cons.mp he with z | z
    · rw [z]; exact ⟨_, mem0, rfl, rfl⟩
    · rw [List.mem_singleton.mp z]; exact ⟨_, mem1, rfl, rfl⟩
  have wrs : ∀ (g : Nat → Int), ∀ e ∈ ([⟨a, .rd, iObj CI p⟩, ⟨q, .wr, .lst (rg p.wid fun j => .int (g j))⟩] : Ms), e.fl = .rd ∨ (e.fl = .wr ∧ e.at_ ∈ [q]) := fun g e he => by
    rcases List.mem_cons.mp he with z | z
    · rw [z]; exact .inl rfl
    · rw [List.mem_singleton.mp z]; exact .inr ⟨rfl, List.mem_cons_self⟩
  have own : ∀ (g : Nat → Int), ∀ z ∈ [q], ∃ e ∈ ([⟨a, .rd, iObj CI p⟩, ⟨q, .nw, .lst (rg p.wid fun j => .int (g j))⟩] : Ms), e.at_ = z ∧ e.fl ≠ .rd := fun g z hz => ⟨_, mem1, (List.mem_singleton.mp hz).symm, nofun⟩
  have kept : ∀ (g g' : Nat → Int) (ms'' : Ms), (∃ e ∈ ms'', e = ⟨q, .wr, .lst (rg p.wid fun j => .int (g' j))⟩) → Kept [⟨a, .rd, iObj CI p⟩, ⟨q, .nw, .lst (rg p.wid fun j => .int (g j))⟩] (([⟨a, .rd, iObj CI p⟩, ⟨q, .nw, .lst (rg p.wid fun j => .int (g j))⟩] : Ms).filter (fun e => decide (e.at_ ∉ [q])) ++ ms'') [⟨a, .rd, iObj CI p⟩, ⟨q, .nw, .lst (rg p.wid fun j => .int (g' j))⟩] := fun g g' ms'' ⟨e, he, ee⟩ z hz => by
    rw [step]
    rcases List.mem_cons.mp hz with y | y
    · rw [y]; exact ⟨_, List.mem_append_left _ mem0, rfl, rfl, .inl rfl⟩
    · rw [List.mem_singleton.mp y]
      refine ⟨e, List.mem_append_right _ he, by rw [ee], by rw [ee], .inr ⟨_, mem1, rfl, rfl⟩⟩
  refine do_seq (do_meth (C := CI) (ss := [.ref q, .dat (.int (x.a : Nat)), .dat (.int x.s)]) (ms' := [⟨a, .rd, iObj CI p⟩, ⟨q, .wr, .lst (rg p.wid fun _ => .int 0)⟩]) (M' := [q]) (Cc := cAddPot CI)
    (R := fun s ms' => s = .dat .none ∧ ∃ e ∈ ms', e = ⟨q, .wr, .lst (rg p.wid fun j => .int (0 + p.pot x.a x.s j))⟩) (vr 0) mem0 rfl (ea_cons (vr 6) (ea_cons (vr 2) (ea1 (vr 4))))
    (sub fun _ => 0) (wrs fun _ => 0) (own fun _ => 0) ⟨a, q, p, x.a, x.s, fun _ => 0, rfl, rfl, rfl, naq, ha, rfl⟩ fun s' ms'' hR _ => ⟨_, kept (fun _ => 0) _ ms'' hR.2, ?_⟩)
  show Do K _ _ _ _
  refine do_seq (do_meth (C := CI) (ss := [.ref q, .dat (.int (x.b : Nat)), .dat (.int (- x.s))]) (ms' := [⟨a, .rd, iObj CI p⟩, ⟨q, .wr, .lst (rg p.wid fun j => .int (0 + p.pot x.a x.s j))⟩]) (M' := [q]) (Cc := cAddPot CI)
    (R := fun s ms' => s = .dat .none ∧ ∃ e ∈ ms', e = ⟨q, .wr, .lst (rg p.wid fun j => .int (0 + p.pot x.a x.s j + p.pot x.b (- x.s) j))⟩) (vr 0) mem0 rfl (ea_cons (vr 6) (ea_cons (vr 3) (ea1 (ev_neg (vr 4)))))
    (sub _) (wrs _) (own _) ⟨a, q, p, x.b, - x.s, fun j => 0 + p.pot x.a x.s j, rfl, rfl, rfl, naq, hb, rfl⟩ fun s' ms'' hR _ => ⟨_, kept _ _ ms'' hR.2, ?_⟩)
  show Do K _ _ _ _
  refine do_freeze (a := q) mem1 ?_
  refine do_ret (s := .dat (.list (rg p.wid fun j => .int (0 + p.pot x.a x.s j + p.pot x.b (- x.s) j)))) (ev_var (n := 6) ?_) ?_
  · show some (if q = q then Sl.dat _ else _) = _
    rw [if_pos rfl]
  · show Sl.dat _ = Sl.dat _
    congr 2
    exact rg_congr fun j _ => by rw [Int.zero_add]; rfl
def cExcess (CI : Addr) : Addr → Ms → List PyData → PyData → Prop := fun a ms ds r => ∃ (p : Part) (v : Nat), ms = [⟨a, .rd, iObj CI p⟩] ∧ ds = [.int (v : Nat)] ∧ PartW p ∧ r = .list (rg p.wid fun j => .int (p.excess v j))
/-- the first n terms of a sum over a list -/
theorem take_sum {α : Type} (f : α → Int) (d : α) {xs : List α} {n : Nat} (h : n < xs.length) : ((xs.take (n + 1)).map f).sum = ((xs.take n).map f).sum + f (xs.getD n d) := by
  rw [List.take_add_one, List.getElem?_eq_getElem h, List.map_append, List.sum_append, getD_at (List.getElem?_eq_getElem h)]
  show _ + (f xs[n] + 0) = _
  rw [Int.add_zero]
theorem mulSmall {x y : Int} (h1 : x.natAbs < 2 ^ 20) (h2 : y.natAbs < 2 ^ 20) : CMulW x y := wide_mul h1 h2 (by decide) (by decide) (by decide)
abbrev s_Island_excess : Stmt := inClass (topS 16) 4
abbrev N_Island_excess : List Str := ["self", "node", "condition", "place", "station", "load", "line", "factor", "item", "part"]
theorem sc_Island_excess : FnScope N_Island_excess ["self", "node"] (defScope s_Island_excess) := ⟨rfl, rfl, rfl, by decide +kernel, rfl, by decide +kernel, by decide +kernel⟩
theorem w_excess (T : Txt K mg CT CI) (D : DefM K CI "excess" "Island.excess" s_Island_excess ["self", "node"]) (c_blank : CalM P w K mg base CI "blank" 1 ["self"] (ctr K (rdNew (cBlank CI)))) (c_flow : CalM P w K mg base CI "flow" 2 ["self", "line"] (ctr K (red0 (cFlow CI)))) :
    CalM P w K mg base CI "excess" 3 ["self", "node"] (ctr K (red0 (cExcess CI))) := by
  refine D.cal sc_Island_excess (fun ss ms M R ⟨a, ds, r, e, _, _, ⟨_, _, _, e2, _⟩, _⟩ => by rw [e, e2]; rfl) fun f cdv A outer s H vs Q E hr => ?_
  obtain ⟨f_blank, fd_blank, F_blank, m_blank, b_blank⟩ := (c_blank.mono (j := 2) (by decide)).ex
  obtain ⟨f_flow, fd_flow, F_flow, m_flow, b_flow⟩ := c_flow.ex
  refine ⟨_, pss_cons (ps_set (i := 2) sc_Island_excess.nd rfl (Or.inl rfl) (pe_meth0 (pv 0) T.clI m_blank F_blank hr b_blank .nil pass0))
    (pss_cons (ps_for PassesOwn.never rfl (pi_enum (by rfl) T.b_enumerate (pa_cons (pe_fld (pv 0) rfl) pa_nil)) (pg_tup rfl (pgs_cons (pg_name (i := 3) sc_Island_excess.nd rfl (Or.inl rfl)) (pgs_cons (pg_name (i := 4) sc_Island_excess.nd rfl (Or.inl rfl)) pgs_nil)))
      (pss_one (ps_if (pt_cmpR op_eq (pe_ix ix_tup (pv 4) (pe_int) (fun _ _ => rfl)) (pv 1) (nomark _))
        (pss_one (ps_augS (pv 2) (pe_op op_add (pe_int) (pv 3)) get_list (pe_int) ip_add set_list))
        (pss_nil))))
    (pss_cons (ps_for PassesOwn.never rfl (pi_list (pe_fld (pv 0) rfl)) (pg_name (i := 5) sc_Island_excess.nd rfl (Or.inl rfl))
      (pss_one (ps_if (pt_cmpR op_eq (pe_ix ix_tup (pv 5) (pe_int) (fun _ _ => rfl)) (pv 1) (nomark _))
        (pss_one (ps_augS (pv 2) (pe_int) get_list (pe_ix ix_tup (pv 5) (pe_int) (fun _ _ => rfl)) ip_sub set_list))
        (pss_nil))))
    (pss_cons (ps_for PassesOwn.never rfl (pi_list (pe_fld (pv 0) rfl)) (pg_name (i := 6) sc_Island_excess.nd rfl (Or.inl rfl))
      (pss_cons (ps_set (i := 7) sc_Island_excess.nd rfl (Or.inr rfl) (pe_ifExp (pt_cmpR op_eq (pe_ix ix_tup (pv 6) (pe_int) (fun _ _ => rfl)) (pv 1) (nomark _)) (pe_un un_neg (pe_int)) (pe_int)))
      (pss_one (ps_if (PW.pt (pw_or (pt_cmpR op_eq (pv 1) (pe_ix ix_tup (pv 6) (pe_int) (fun _ _ => rfl)) (nomark _)) (pw_or1 (pt_cmpR op_eq (pv 1) (pe_ix ix_tup (pv 6) (pe_int) (fun _ _ => rfl)) (nomark _)))))
        (pss_one (ps_setLc (i := 2) (own := [("item", 8), ("part", 9)]) (g := gTup K 2 (gCons (gName 8) (gCons (gName 9) gNil))) (tt := tYes) rfl sc_Island_excess.nd rfl rfl (sw_true rfl rfl rfl (by decide +kernel)) (pi_zip (by rfl) T.b_zip (pa_cons (pv 2) (pa_cons (pe_meth (pv 0) T.clI m_flow F_flow hr b_flow .nil pass0 (pa_cons (pv 6) pa_nil)) pa_nil))) (blkOk_by (N := N_Island_excess) (sc := defScope s_Island_excess) (by decide +kernel)) (fun _ _ _ _ _ => pg_tupK K rfl (pgs_cons (pg_name (i := 8) sc_Island_excess.nd rfl (Or.inl rfl)) (pgs_cons (pg_name (i := 9) sc_Island_excess.nd rfl (Or.inl rfl)) pgs_nil))) (fun _ _ _ _ _ => pts_nil) (fun _ _ _ _ _ => pe_op op_add (pv 8) (pe_op op_mulW (pv 7) (pv 9)))))
        (pss_nil)))))
    (pss_one (ps_ret (pv 2)))))), ?_⟩
  rintro _ ms _ _ ⟨a, _, _, rfl, _, rfl, ⟨p, v, rfl, rfl, hW, rfl⟩, rfl⟩
  have hw := hW.wid
  have O := hW.ok
  refine do_seq (do_asgN (eo_meth (ms' := [⟨a, .rd, iObj CI p⟩]) (vr 0) mem0 rfl (ds := []) ea_nil rd1 ⟨p, rfl, rfl, by omega, hw.2.1, rfl⟩) fun q hq => ?_)
  have naq : a ≠ q := hq _ mem0 _ mem0
  show Do K _ _ [⟨a, .rd, iObj CI p⟩, ⟨q, .nw, .lst (rg p.wid fun _ => .int 0)⟩] _
  -- the stations
  refine do_seq (do_forR (n := p.sts.length) ((ei_enum (ea1 (ev_fld (vr 0) mem0 T.clI T.nI_stations rfl))).to (by rw [map_rg p.sts dStn stn0, enum_rg])) (fun i ε ms => ms = [⟨a, .rd, iObj CI p⟩, ⟨q, .nw, .lst (rg p.wid fun j => .int (sm i fun k => if (p.sts.getD k stn0).node = v ∧ j = 1 + k then 1 else 0))⟩] ∧
    ∃ x3 x4 x5 x6 x7 x8 x9, ε = [.ref a, .dat (.int (v : Nat)), .ref q, x3, x4, x5, x6, x7, x8, x9]) [3, 4] ?_ ?_ ?_)
  · exact ⟨rfl, _, _, _, _, _, _, _, rfl⟩
  · rintro i _ _ hi ⟨rfl, x3, x4, x5, x6, x7, x8, x9, rfl⟩
    refine ⟨_, tg_tup2 (by decide) (by decide), ?_⟩
    refine do_if (b := _) (eb_test (ev_eqI (ev_ixT (vr 4) ci rfl) (vr 1))) (fun hb => ?_) (fun hb => Do.next ?_)
    · have z : (p.sts.getD i stn0).node = v := by have := of_decide_eq_true hb; omega
      have hj : 1 + i < p.wid := by unfold Part.wid; omega
      refine do_augL (x := sm i fun k => if (p.sts.getD k stn0).node = v ∧ 1 + i = 1 + k then 1 else 0) (f := fun i j => i + j) (vr 2) (Ev.dat (e := .int ((1 + i : Nat) : Int)) (ev_add ci (vr 3)) (by congr 1)) ci mem1 nofun (by omega) ?_ ?_
      · rw [show (((1 + i : Nat) : Int)).toNat = 1 + i by omega]
        exact rg_at hj
      · rw [setMo_1 naq, show (((1 + i : Nat) : Int)).toNat = 1 + i by omega, rg_set]
        refine ⟨?_, _, _, _, _, _, _, _, rfl⟩
        congr 3
        congr 1
        refine rg_congr fun j hj' => ?_
        show (if j = 1 + i then _ else _) = PyData.int ((sm i fun k => if (p.sts.getD k stn0).node = v ∧ j = 1 + k then 1 else 0) + if (p.sts.getD i stn0).node = v ∧ j = 1 + i then 1 else 0)
        by_cases c : j = 1 + i
        · rw [if_pos c, if_pos ⟨z, c⟩, c]
        · rw [if_neg c, if_neg (fun h => c h.2), Int.add_zero]
    · have z : ¬ (p.sts.getD i stn0).node = v := by have := of_decide_eq_false hb; omega
      refine ⟨?_, _, _, _, _, _, _, _, rfl⟩
      congr 3
      congr 1
      refine rg_congr fun j hj' => ?_
      show _ = PyData.int ((sm i fun k => if (p.sts.getD k stn0).node = v ∧ j = 1 + k then 1 else 0) + if (p.sts.getD i stn0).node = v ∧ j = 1 + i then 1 else 0)
      rw [if_neg (fun h => z h.1), Int.add_zero]
  rintro _ _ ⟨rfl, x3, x4, x5, x6, x7, x8, x9, rfl⟩
  show Do K _ _ _ _
  -- the loads
  obtain ⟨ld, hld⟩ : ∃ ld : Nat → Int, ld = fun i => ((p.lds.take i).map fun x => if x.node = v then x.amt else 0).sum := ⟨_, rfl⟩
  refine do_seq (do_forR (n := p.lds.length) ((ei_list (ev_fld (vr 0) mem0 T.clI T.nI_loads rfl)).to (map_rg p.lds dLd ld0)) (fun i ε ms => ms = [⟨a, .rd, iObj CI p⟩, ⟨q, .nw, .lst (rg p.wid fun j => .int (p.exS v j + if j = 0 then - ld i else 0))⟩] ∧
    ∃ x3 x4 x5 x6 x7 x8 x9, ε = [.ref a, .dat (.int (v : Nat)), .ref q, x3, x4, x5, x6, x7, x8, x9]) [5] ?_ ?_ ?_)
  · refine ⟨?_, _, _, _, _, _, _, _, rfl⟩
    congr 3
    congr 1
    refine rg_congr fun j hj' => ?_
    rw [hld]
    show _ = PyData.int (p.exS v j + if j = 0 then - 0 else 0)
    congr 1
    unfold Part.exS
    split <;> omega
  · rintro i _ _ hi ⟨rfl, x3, x4, x5, x6, x7, x8, x9, rfl⟩
    refine ⟨_, tg_name (by decide), ?_⟩
    have st : ld (i + 1) = ld i + if (p.lds.getD i ld0).node = v then (p.lds.getD i ld0).amt else 0 := by rw [hld]; exact take_sum _ ld0 hi
    refine do_if (b := _) (eb_test (ev_eqI (ev_ixT (vr 5) ci rfl) (vr 1))) (fun hb => ?_) (fun hb => Do.next ?_)
    · have z : (p.lds.getD i ld0).node = v := by have := of_decide_eq_true hb; omega
      refine do_augL (x := p.exS v 0 + if 0 = 0 then - ld i else 0) (f := fun i j => i - j) (vr 2) ci (ev_ixT (vr 5) ci rfl) mem1 nofun (by decide) (rg_at (by omega)) ?_
      rw [setMo_1 naq, rg_set]
      refine ⟨?_, _, _, _, _, _, _, _, rfl⟩
      congr 3
      congr 1
      refine rg_congr fun j hj' => ?_
      rw [st, if_pos z]
      by_cases c : j = 0
      · subst c
        show PyData.int _ = PyData.int _
        rw [if_pos rfl, if_pos rfl]
        congr 1
        omega
      · rw [if_neg c, if_neg c]
        show (if j = 0 then _ else _) = _
        rw [if_neg c]
    · have z : ¬ (p.lds.getD i ld0).node = v := by have := of_decide_eq_false hb; omega
      refine ⟨?_, _, _, _, _, _, _, _, rfl⟩
      congr 3
      congr 1
      refine rg_congr fun j hj' => ?_
      rw [st, if_neg z, Int.add_zero]
  rintro _ _ ⟨rfl, x3, x4, x5, x6, x7, x8, x9, rfl⟩
  show Do K _ _ _ _
  -- the lines
  refine do_freeze (a := q) mem1 ?_
  rw [without_miss naq, without_hit, without_nil, asDat_miss naq, asDat_dat, asDat_hit]
  refine do_forget (ε' := [.ref a, .dat (.int (v : Nat)), .dat (.list (rg p.wid fun j => .int (p.exS v j + if j = 0 then - ld p.lds.length else 0))), .un, .un, .un, .un, .un, .un, .un]) rfl (fun i hi => ?_) ?_
  · match i with
    | 0 => exact .inr rfl
    | 1 => exact .inr rfl
    | 2 => exact .inr rfl
    | 3 => exact .inl rfl
    | 4 => exact .inl rfl
    | 5 => exact .inl rfl
    | 6 => exact .inl rfl
    | 7 => exact .inl rfl
    | 8 => exact .inl rfl
    | 9 => exact .inl rfl
    | n + 10 => exact .inl rfl
  obtain ⟨fl, hfl⟩ : ∃ fl : Nat → Nat → Int, fl = fun i j => ((p.lns.take i).map fun x => Part.sgn x v * p.flow x j).sum := ⟨_, rfl⟩
  have hEl : - ld p.lds.length = p.exL v := by
    rw [hld]
    show - ((p.lds.take p.lds.length).map _).sum = - _
    rw [List.take_length]
  refine do_seq (do_forR (n := p.lns.length) ((ei_list (ev_fld (vr 0) mem0 T.clI T.nI_lines rfl)).to (map_rg p.lns dLn ln0)) (fun i ε ms => ms = [⟨a, .rd, iObj CI p⟩] ∧
    ∃ x3 x4 x5 x6 x7 x8 x9, ε = [.ref a, .dat (.int (v : Nat)), .dat (.list (rg p.wid fun j => .int (p.exS v j + (if j = 0 then p.exL v else 0) + fl i j))), x3, x4, x5, x6, x7, x8, x9]) [6] ?_ ?_ ?_)
  · refine ⟨rfl, .un, .un, .un, .un, .un, .un, .un, ?_⟩
    have e : (rg p.wid fun j => PyData.int (p.exS v j + if j = 0 then - ld p.lds.length else 0)) = rg p.wid fun j => PyData.int (p.exS v j + (if j = 0 then p.exL v else 0) + fl 0 j) := rg_congr fun j _ => by
      rw [hEl, hfl]
      show _ = PyData.int (_ + 0)
      rw [Int.add_zero]
    rw [e]
  · rintro i _ _ hi ⟨rfl, x3, x4, x5, x6, x7, x8, x9, rfl⟩
    refine ⟨_, tg_name (by decide), ?_⟩
    obtain ⟨x, hx⟩ : ∃ x, x = p.lns.getD i ln0 := ⟨_, rfl⟩
    have ox := O.ln x (by rw [hx]; exact getD_mem hi)
    have st : ∀ j, fl (i + 1) j = fl i j + Part.sgn x v * p.flow x j := fun j => by rw [hfl, hx]; exact take_sum _ ln0 hi
    rw [← hx]
    refine do_seq (do_asg (s := .dat (.int (if x.a = v then -1 else 1))) (ev_if (b := decide (((x.a : Nat) : Int) = (v : Nat))) (eb_test (ev_eqI (ev_ixT (vr 6) ci rfl) (vr 1))) (fun hb => (ev_neg ci).dat ?_) (fun hb => ci.dat ?_)) ?_)
    · rw [if_pos (by have := of_decide_eq_true hb; omega)]
    · rw [if_neg (by have := of_decide_eq_false hb; omega)]
    refine do_if (b := decide (v = x.a) || decide (v = x.b)) (EvB.to (eb_or (eb_test (ev_eqI (vr 1) (ev_ixT (vr 6) ci rfl))) (fun _ => eb_test (ev_eqI (vr 1) (ev_ixT (vr 6) ci rfl)))) ?_) (fun hb => ?_) (fun hb => Do.next ?_)
    · congr 1
      · exact decide_eq_decide.mpr (by omega)
      · exact decide_eq_decide.mpr (by omega)
    · have sg : Part.sgn x v = if x.a = v then -1 else 1 := by
        unfold Part.sgn
        simp only [Bool.or_eq_true, decide_eq_true_eq] at hb
        by_cases c : x.a = v
        · rw [if_pos c, if_pos c]
        · rw [if_neg c, if_neg c, if_pos (by omega)]
      refine do_asg (EvO.know (en_mapR ((ei_zip (ea_cons (vr 2) (ea1 (ev_meth (r := .list (rg p.wid fun j => .int (p.flow x j))) (ds := [dLn x]) (ms' := [⟨a, .rd, iObj CI p⟩]) (vr 0) mem0 rfl (ea1 (vr 6)) rd1 ⟨p, x, rfl, rfl, hW, ox.1, ox.2.1, rfl⟩)))).to (zip_rg _ _ _)) (fun j => .int (p.exS v j + (if j = 0 then p.exL v else 0) + fl (i + 1) j)) (by omega) fun j hj => ⟨_, tg_tup2 (by decide) (by decide), Ev.dat (ev_add (vr 8) (ev_mul (vr 7) (vr 9) ?_)) ?_⟩)) ⟨rfl, _, _, _, _, _, _, _, rfl⟩
      · refine mulSmall ?_ ?_
        · split <;> decide
        · exact Nat.lt_of_le_of_lt (flow_abs (by omega)) (by decide)
      · rw [st, ← sg]
        congr 1
        omega
    · have sg : Part.sgn x v = 0 := by
        unfold Part.sgn
        simp only [Bool.or_eq_false_iff, decide_eq_false_iff_not] at hb
        rw [if_neg (fun e => hb.1 e.symm), if_neg (fun e => hb.2 e.symm)]
      refine ⟨rfl, x3, x4, x5, .dat (dLn x), .dat (.int (if x.a = v then -1 else 1)), x8, x9, ?_⟩
      have e : (rg p.wid fun j => PyData.int (p.exS v j + (if j = 0 then p.exL v else 0) + fl (i + 1) j)) = rg p.wid fun j => PyData.int (p.exS v j + (if j = 0 then p.exL v else 0) + fl i j) := rg_congr fun j _ => by rw [st, sg, Int.zero_mul, Int.add_zero]
      rw [e]
      rfl
  · rintro _ _ ⟨rfl, x3, x4, x5, x6, x7, x8, x9, rfl⟩
    refine do_ret (vr 2) ?_
    show Sl.dat _ = Sl.dat _
    rw [hfl]
    congr 2
    refine rg_congr fun j _ => ?_
    show PyData.int (_ + ((p.lns.take p.lns.length).map _).sum) = _
    rw [List.take_length]; rfl
end
end Rl
set_option Elab.async false
set_option linter.all false
set_option maxRecDepth 100000
set_option maxHeartbeats 4000000
/-! The conditions of an island, all of them. -/
namespace Rl
open PySem L2
def rowD (p : Part) (f : Nat → Int) : PyData := .list (rg p.wid fun j => .int (f j))
def rowsD (p : Part) : PyData := .list (p.rows.map (rowD p))
theorem rows_conds (p : Part) (h : 1 ≤ p.wid) : rowsD p = .list (rg p.conds.length fun k => .list (rg (p.wid - 1 + 1) fun j => .int (cf p.conds k j))) := by
  unfold rowsD
  congr 1
  refine List.ext_getElem? fun k => ?_
  rw [List.getElem?_map]
  cases e : p.rows[k]? with
  | none =>
    have : p.rows.length ≤ k := List.getElem?_eq_none_iff.mp e
    rw [List.getElem?_eq_none (by rw [rg_len, conds_len]; exact this)]; rfl
  | some f =>
    have hk : k < p.conds.length := by rw [conds_len]; exact (List.getElem?_eq_some_iff.mp e).1
    rw [rg_at hk]
    show some (rowD p f) = _
    unfold rowD
    congr 2
    rw [show p.wid - 1 + 1 = p.wid by omega]
    exact rg_congr fun j hj => by rw [conds_get e hj]
section
variable {P : Program} {w : World} {K : PySem.W.Frag} {mg : Str → Option Value} {base : Heap} {CT CI : Addr}
def cConditions (CI : Addr) : Addr → Ms → List PyData → PyData → Prop := fun a ms ds r => ∃ p : Part, ms = [⟨a, .rd, iObj CI p⟩] ∧ ds = [] ∧ PartW p ∧ r = rowsD p
theorem range_flat {α : Type} (G : Nat → List α) (i : Nat) : (List.range (i + 1)).flatMap G = (List.range i).flatMap G ++ G i := by rw [List.range_succ, List.flatMap_append]; simp
theorem take_flat {α β : Type} (G : α → List β) (d : α) {xs : List α} {i : Nat} (h : i < xs.length) : (xs.take (i + 1)).flatMap G = (xs.take i).flatMap G ++ G (xs.getD i d) := by
  rw [List.take_add_one, List.getElem?_eq_getElem h, List.flatMap_append, getD_at (List.getElem?_eq_getElem h)]; simp
theorem setMo_3 {a b c d : Addr} {f1 f2 f3 f4 : Fl} {m1 m2 m3 m o : Mo} (h1 : a ≠ d) (h2 : b ≠ d) (h3 : c ≠ d) : setMo d o [⟨a, f1, m1⟩, ⟨b, f2, m2⟩, ⟨c, f3, m3⟩, ⟨d, f4, m⟩] = [⟨a, f1, m1⟩, ⟨b, f2, m2⟩, ⟨c, f3, m3⟩, ⟨d, f4, o⟩] := by
  rw [setMo_cons, if_neg h1, setMo_cons, if_neg h2, setMo_cons, if_neg h3, setMo_cons, if_pos rfl, setMo_nil]
/-- a new list for a name; what else is carried may be cut down -/
theorem do_asgL {ε : List Sl} {ms : Ms} {E : AE} {te : TE} {i : Nat} {ds : List PyData} (h : EvN K te ε ms ds) (ms0 : Ms) (hs : ∀ e ∈ ms0, e ∈ ms) (k : ∀ x, Apart ms [⟨x, .nw, .lst ds⟩] → E.nx (ε.set i (.ref x)) (ms0 ++ [⟨x, .nw, .lst ds⟩])) : Do K (tAsg te (gName i)) ε ms E :=
  fun M Hk0 H0 D S Hk σ H w g o => h Hk σ H w _ fun x ms' Hn H2 hp g2 hf hm => by
    have e : ms' = [⟨x, .nw, .lst ds⟩] := hp
    subst e
    have w2 := w.grow g2
    have sub : ∀ e ∈ ms0 ++ [⟨x, .nw, .lst ds⟩], e ∈ ms ++ [⟨x, .nw, .lst ds⟩] := fun e he => (List.mem_append.mp he).elim (fun q => List.mem_append_left _ (hs e q)) (List.mem_append_right _)
    exact S.nx _ _ Hn _ H2 (k x (apart_of w.mo hf)) ⟨w2.same, w2.sg.set (s := .ref x) rfl i, fun e he => mo_app w2.mo hm e (sub e he)⟩ (g.trans g2.nil) fun e he => own_app o g hf e (sub e he)
def lrow (p : Part) (x : Ln) (j : Nat) : Nat → Int := fun c => if c = 0 then x.l else if j = 0 then - p.flow x c else p.flow x c
abbrev s_Island_conditions : Stmt := inClass (topS 16) 5
abbrev N_Island_conditions : List Str := ["self", "found", "place", "station", "_", "least", "greatest", "low", "high", "line", "sign", "condition", "node", "excess", "item"]
theorem sc_Island_conditions : FnScope N_Island_conditions ["self"] (defScope s_Island_conditions) := ⟨rfl, rfl, rfl, by decide +kernel, rfl, by decide +kernel, by decide +kernel⟩
theorem w_conditions (T : Txt K mg CT CI) (D : DefM K CI "conditions" "Island.conditions" s_Island_conditions ["self"]) (c_blank : CalM P w K mg base CI "blank" 1 ["self"] (ctr K (rdNew (cBlank CI)))) (c_flow : CalM P w K mg base CI "flow" 2 ["self", "line"] (ctr K (red0 (cFlow CI))))
    (c_excess : CalM P w K mg base CI "excess" 3 ["self", "node"] (ctr K (red0 (cExcess CI)))) : CalM P w K mg base CI "conditions" 4 ["self"] (ctr K (red0 (cConditions CI))) := by
  refine D.cal sc_Island_conditions (fun ss ms M R ⟨a, ds, r, e, _, _, ⟨_, _, e2, _⟩, _⟩ => by rw [e, e2]; rfl) fun f cdv A outer s H vs Q E hr => ?_
  obtain ⟨f_blank, fd_blank, F_blank, m_blank, b_blank⟩ := (c_blank.mono (j := 3) (by decide)).ex
  obtain ⟨f_flow, fd_flow, F_flow, m_flow, b_flow⟩ := (c_flow.mono (j := 3) (by decide)).ex
  obtain ⟨f_excess, fd_excess, F_excess, m_excess, b_excess⟩ := c_excess.ex
  refine ⟨_, pss_cons (ps_set (i := 1) sc_Island_conditions.nd rfl (Or.inl rfl) (pe_lst pa_nil))
    (pss_cons (ps_for PassesOwn.never rfl (pi_enum (by rfl) T.b_enumerate (pa_cons (pe_fld (pv 0) rfl) pa_nil)) (pg_tup rfl (pgs_cons (pg_name (i := 2) sc_Island_conditions.nd rfl (Or.inl rfl)) (pgs_cons (pg_name (i := 3) sc_Island_conditions.nd rfl (Or.inl rfl)) pgs_nil)))
      (pss_cons (ps_asg (pv 3) (pg_tup rfl (pgs_cons (pg_name (i := 4) sc_Island_conditions.nd rfl (Or.inl rfl)) (pgs_cons (pg_name (i := 5) sc_Island_conditions.nd rfl (Or.inl rfl)) (pgs_cons (pg_name (i := 6) sc_Island_conditions.nd rfl (Or.inl rfl)) (pgs_cons (pg_name (i := 4) sc_Island_conditions.nd rfl (Or.inl rfl)) pgs_nil))))))
      (pss_cons (ps_set (i := 7) sc_Island_conditions.nd rfl (Or.inl rfl) (pe_meth0 (pv 0) T.clI m_blank F_blank hr b_blank .nil pass0))
      (pss_cons (ps_asg (pe_un un_neg (pv 5)) (pg_sub (pv 7) (pe_int) set_list))
      (pss_cons (ps_asg (pe_int) (pg_sub (pv 7) (pe_op op_add (pe_int) (pv 2)) set_list))
      (pss_cons (ps_set (i := 8) sc_Island_conditions.nd rfl (Or.inl rfl) (pe_meth0 (pv 0) T.clI m_blank F_blank hr b_blank .nil pass0))
      (pss_cons (ps_asg (pv 6) (pg_sub (pv 8) (pe_int) set_list))
      (pss_cons (ps_asg (pe_un un_neg (pe_int)) (pg_sub (pv 8) (pe_op op_add (pe_int) (pv 2)) set_list))
      (pss_one (ps_set (i := 1) sc_Island_conditions.nd rfl (Or.inl rfl) (pe_op op_cat (pv 1) (pe_lst (pa_cons (pv 7) (pa_cons (pv 8) pa_nil))))))))))))))
    (pss_cons (ps_for PassesOwn.never rfl (pi_list (pe_fld (pv 0) rfl)) (pg_name (i := 9) sc_Island_conditions.nd rfl (Or.inl rfl))
      (pss_one (ps_for PassesOwn.never rfl (pi_tup (pe_tup (pa_cons (pe_un un_neg (pe_int)) (pa_cons (pe_int) pa_nil)))) (pg_name (i := 10) sc_Island_conditions.nd rfl (Or.inr rfl))
        (pss_cons (ps_setLc (i := 11) (own := [("item", 14)]) (g := gName 14) (tt := tYes) rfl sc_Island_conditions.nd rfl rfl (sw_true rfl rfl rfl (by decide +kernel)) (pi_list (pe_meth (pv 0) T.clI m_flow F_flow hr b_flow .nil pass0 (pa_cons (pv 9) pa_nil))) (blkOk_by (N := N_Island_conditions) (sc := defScope s_Island_conditions) (by decide +kernel)) (fun _ _ _ _ _ => pg_name (i := 14) sc_Island_conditions.nd rfl (Or.inl rfl)) (fun _ _ _ _ _ => pts_nil) (fun _ _ _ _ _ => pe_op op_mulW (pv 10) (pv 14)))
        (pss_cons (ps_asg (pe_ix ix_tup (pv 9) (pe_int) (fun _ _ => rfl)) (pg_sub (pv 11) (pe_int) set_list))
        (pss_one (ps_expr (pe_bm PySem.F.plainAttrs_list PySem.F.slot_list_append PySem.F.type_list_append mt_append (pv 1) (pa_cons (pv 11) pa_nil)))))))))
    (pss_cons (ps_for PassesOwn.never rfl (pi_list (pe_fld (pv 0) rfl)) (pg_name (i := 12) sc_Island_conditions.nd rfl (Or.inl rfl))
      (pss_cons (ps_set (i := 13) sc_Island_conditions.nd rfl (Or.inl rfl) (pe_meth (pv 0) T.clI m_excess F_excess hr b_excess .nil pass0 (pa_cons (pv 12) pa_nil)))
      (pss_cons (ps_expr (pe_bm PySem.F.plainAttrs_list PySem.F.slot_list_append PySem.F.type_list_append mt_append (pv 1) (pa_cons (pv 13) pa_nil)))
      (pss_one (ps_expr (pe_bm PySem.F.plainAttrs_list PySem.F.slot_list_append PySem.F.type_list_append mt_append (pv 1) (pa_cons (pe_lc (own := [("item", 14)]) (g := gName 14) (tt := tYes) rfl sc_Island_conditions.nd (pi_list (pv 13)) (blkOk_by (N := N_Island_conditions) (sc := defScope s_Island_conditions) (by decide +kernel)) (fun _ _ _ _ _ => pg_name (i := 14) sc_Island_conditions.nd rfl (Or.inl rfl)) (fun _ _ _ _ _ => pts_nil) (fun _ _ _ _ _ => pe_un un_neg (pv 14))) pa_nil)))))))
    (pss_one (ps_ret (pv 1)))))), ?_⟩
  rintro _ ms _ _ ⟨a, _, _, rfl, _, rfl, ⟨p, rfl, rfl, hW, rfl⟩, rfl⟩
  have hw := hW.wid
  have O := hW.ok
  refine do_seq (do_asgN (en_lst (ds := []) ea_nil) fun q0 hq0 => ?_)
  have nq0 : a ≠ q0 := hq0 _ mem0 _ mem0
  show Do K _ _ [⟨a, .rd, iObj CI p⟩, ⟨q0, .nw, .lst []⟩] _
  -- the stations
  obtain ⟨G1, hG1⟩ : ∃ G : Nat → List (Nat → Int), G = fun k => [fun j => if j = 0 then - (p.sts.getD k stn0).lo else if j = 1 + k then 1 else 0, fun j => if j = 0 then (p.sts.getD k stn0).hi else if j = 1 + k then -1 else 0] := ⟨_, rfl⟩
  refine do_seq (do_forR (n := p.sts.length) ((ei_enum (ea1 (ev_fld (vr 0) mem0 T.clI T.nI_stations rfl))).to (by rw [map_rg p.sts dStn stn0, enum_rg])) (fun i ε ms => ∃ pf, a ≠ pf ∧ ms = [⟨a, .rd, iObj CI p⟩, ⟨pf, .nw, .lst (((List.range i).flatMap G1).map (rowD p))⟩] ∧
    ∃ x2 x3 x4 x5 x6 x7 x8 x9 x10 x11 x12 x13 x14, ε = [.ref a, .ref pf, x2, x3, x4, x5, x6, x7, x8, x9, x10, x11, x12, x13, x14]) [2, 3] ?_ ?_ ?_)
  · exact ⟨q0, nq0, rfl, _, _, _, _, _, _, _, _, _, _, _, _, _, rfl⟩
  · rintro i _ _ hi ⟨pf, npf, rfl, x2, x3, x4, x5, x6, x7, x8, x9, x10, x11, x12, x13, x14, rfl⟩
    have hj : 1 + i < p.wid := by unfold Part.wid; omega
    refine ⟨_, tg_tup2 (by decide) (by decide), ?_⟩
    refine do_seq (do_asgT (vr 3) (tg_tup4 (vs := [4, 5, 6, 4]) (by decide) (by decide) (by decide) (by decide)) ?_)
    -- low
    refine do_seq (do_asgN (eo_meth (ms' := [⟨a, .rd, iObj CI p⟩]) (vr 0) mem0 rfl (ds := []) ea_nil rd1 ⟨p, rfl, rfl, by omega, hw.2.1, rfl⟩) fun q1 hq1 => ?_)
    have n1 : a ≠ q1 := hq1 _ mem0 _ mem0
    have n2 : pf ≠ q1 := hq1 _ mem1 _ mem0
    show Do K _ _ [⟨a, .rd, iObj CI p⟩, ⟨pf, .nw, .lst (((List.range i).flatMap G1).map (rowD p))⟩, ⟨q1, .nw, .lst (rg p.wid fun _ => .int 0)⟩] _
    refine do_seq (do_setL (ev_neg (vr 5)) (vr 7) ci mem2 nofun (by decide) (by rw [rg_len]; omega) ?_)
    rw [setMo_2 n1 n2, rg_set]
    refine do_seq (do_setL ci (vr 7) (Ev.dat (e := .int ((1 + i : Nat) : Int)) (ev_add ci (vr 2)) (by congr 1)) mem2 nofun (by omega) (by rw [rg_len]; omega) ?_)
    rw [setMo_2 n1 n2, rg_set, show (((1 + i : Nat) : Int)).toNat = 1 + i by omega]
    -- high
    refine do_seq (do_asgN (eo_meth (ms' := [⟨a, .rd, iObj CI p⟩]) (vr 0) mem0 rfl (ds := []) ea_nil rd1 ⟨p, rfl, rfl, by omega, hw.2.1, rfl⟩) fun q2 hq2 => ?_)
    have n3 : a ≠ q2 := hq2 _ mem0 _ mem0
    have n4 : pf ≠ q2 := hq2 _ mem1 _ mem0
    have n5 : q1 ≠ q2 := hq2 _ mem2 _ mem0
    show Do K _ _ [⟨a, .rd, iObj CI p⟩, ⟨pf, .nw, .lst (((List.range i).flatMap G1).map (rowD p))⟩, ⟨q1, .nw, .lst (rg p.wid fun j => if j = 1 + i then .int 1 else if j = (0 : Int).toNat then .int (- (p.sts.getD i stn0).lo) else .int 0)⟩, ⟨q2, .nw, .lst (rg p.wid fun _ => .int 0)⟩] _
    refine do_seq (do_setL (vr 6) (vr 8) ci mem3 nofun (by decide) (by rw [rg_len]; omega) ?_)
    rw [setMo_3 n3 n4 n5, rg_set]
    refine do_seq (do_setL (ev_neg ci) (vr 8) (Ev.dat (e := .int ((1 + i : Nat) : Int)) (ev_add ci (vr 2)) (by congr 1)) mem3 nofun (by omega) (by rw [rg_len]; omega) ?_)
    rw [setMo_3 n3 n4 n5, rg_set, show (((1 + i : Nat) : Int)).toNat = 1 + i by omega]
    have eL : (rg p.wid fun j => if j = 1 + i then PyData.int 1 else if j = (0 : Int).toNat then .int (- (p.sts.getD i stn0).lo) else .int 0) = rg p.wid fun j => .int (if j = 0 then - (p.sts.getD i stn0).lo else if j = 1 + i then 1 else 0) := rg_congr fun j _ => by
      show (if j = 1 + i then PyData.int 1 else if j = 0 then .int (- (p.sts.getD i stn0).lo) else .int 0) = _
      by_cases c : j = 0
      · rw [if_neg (show ¬ j = 1 + i by omega), if_pos c, if_pos c]
      · rw [if_neg c, if_neg c]
        by_cases c2 : j = 1 + i
        · rw [if_pos c2, if_pos c2]
        · rw [if_neg c2, if_neg c2]
    have eH : (rg p.wid fun j => if j = 1 + i then PyData.int (-1) else if j = (0 : Int).toNat then .int (p.sts.getD i stn0).hi else .int 0) = rg p.wid fun j => .int (if j = 0 then (p.sts.getD i stn0).hi else if j = 1 + i then -1 else 0) := rg_congr fun j _ => by
      show (if j = 1 + i then PyData.int (-1) else if j = 0 then .int (p.sts.getD i stn0).hi else .int 0) = _
      by_cases c : j = 0
      · rw [if_neg (show ¬ j = 1 + i by omega), if_pos c, if_pos c]
      · rw [if_neg c, if_neg c]
        by_cases c2 : j = 1 + i
        · rw [if_pos c2, if_pos c2]
        · rw [if_neg c2, if_neg c2]
    rw [eL, eH]
    refine do_fg (ε' := [.ref a, .ref pf, .un, .un, .un, .un, .un, .ref q1, .ref q2, .un, .un, .un, .un, .un, .un]) (by (repeat (first | exact Fg.nil | apply Fg.un | apply Fg.eq))) ?_
    refine do_freeze (a := q1) mem2 ?_
    rw [without_miss n1, without_miss n2, without_hit, without_miss n5.symm, without_nil]
    simp only [asDat_nil, asDat_un, asDat_hit, asDat_miss n1, asDat_miss n2, asDat_miss n5.symm]
    refine do_freeze (a := q2) mem2 ?_
    rw [without_miss n3, without_miss n4, without_hit, without_nil]
    simp only [asDat_nil, asDat_un, asDat_dat, asDat_hit, asDat_miss n3, asDat_miss n4]
    refine do_asgL (en_catM (vr 1) mem1 (EvO.know (en_lst (ds := [_, _]) (ea_cons (vr 7) (ea1 (vr 8))))) ?_) [⟨a, .rd, iObj CI p⟩] (fun e he => by cases List.mem_singleton.mp he; exact mem0) fun p2 hp2 => ?_
    · rw [List.length_map]
      have : ((List.range i).flatMap G1).length = 2 * i := by rw [hG1, flat2_len, List.length_range]
      rw [this]
      show 2 * i + 2 ≤ 100000
      have := O.sts
      omega
    · refine ⟨p2, hp2 _ mem0 _ mem0, ?_, _, _, _, _, _, _, _, _, _, _, _, _, _, rfl⟩
      rw [range_flat, List.map_append, hG1]
      rfl
  rintro _ _ ⟨pf, npf, rfl, x2, x3, x4, x5, x6, x7, x8, x9, x10, x11, x12, x13, x14, rfl⟩
  have eS : (List.range p.sts.length).flatMap G1 = p.stRows := by rw [hG1]; rfl
  rw [eS]
  have lS : p.stRows.length = 2 * p.sts.length := by unfold Part.stRows; rw [flat2_len, List.length_range]
  show Do K _ _ _ _
  -- the lines
  obtain ⟨G2, hG2⟩ : ∃ G : Ln → List (Nat → Int), G = fun x => [fun j => if j = 0 then x.l else - p.flow x j, fun j => if j = 0 then x.l else p.flow x j] := ⟨_, rfl⟩
  have eL : p.lns.flatMap G2 = p.lnRows := by rw [hG2]; rfl
  have l2 : ∀ i, ((p.lns.take i).flatMap G2).length ≤ 16 := fun i => by
    rw [hG2, flat2_len, List.length_take]
    have := O.lns
    omega
  refine do_seq (do_forR (n := p.lns.length) ((ei_list (ev_fld (vr 0) mem0 T.clI T.nI_lines rfl)).to (map_rg p.lns dLn ln0)) (fun i ε ms => ms = [⟨a, .rd, iObj CI p⟩, ⟨pf, .nw, .lst ((p.stRows ++ (p.lns.take i).flatMap G2).map (rowD p))⟩] ∧
    ∃ x2 x3 x4 x5 x6 x7 x8 x9 x10 x11 x12 x13 x14, ε = [.ref a, .ref pf, x2, x3, x4, x5, x6, x7, x8, x9, x10, x11, x12, x13, x14]) [9] ?_ ?_ ?_)
  · refine ⟨?_, _, _, _, _, _, _, _, _, _, _, _, _, _, rfl⟩
    show _ = ([_, ⟨pf, .nw, .lst ((p.stRows ++ []).map (rowD p))⟩] : Ms)
    rw [List.append_nil]
  · rintro i _ _ hi ⟨rfl, x2, x3, x4, x5, x6, x7, x8, x9, x10, x11, x12, x13, x14, rfl⟩
    refine ⟨_, tg_name (by decide), ?_⟩
    obtain ⟨x, hx⟩ : ∃ x, x = p.lns.getD i ln0 := ⟨_, rfl⟩
    have ox := O.ln x (by rw [hx]; exact getD_mem hi)
    have hs1000 : x.s.natAbs ≤ 1000 := by omega
    rw [take_flat G2 ln0 hi, ← hx]
    obtain ⟨B, hB⟩ : ∃ B, B = p.stRows ++ (p.lns.take i).flatMap G2 := ⟨_, rfl⟩
    have lB : B.length ≤ 24 := by rw [hB, List.length_append, lS]; have := l2 i; have := O.sts; omega
    rw [← List.append_assoc, ← hB]
    show Do K _ [.ref a, .ref pf, x2, x3, x4, x5, x6, x7, x8, .dat (dLn x), x10, x11, x12, x13, x14] _ _
    refine do_for (ei_tup (ev_tup (ds := [_, _]) (ea_cons (ev_neg ci) (ea1 ci)))) (fun j ε ms => ms = [⟨a, .rd, iObj CI p⟩, ⟨pf, .nw, .lst ((B ++ (List.range j).map (lrow p x)).map (rowD p))⟩] ∧
      ∃ x2 x3 x4 x5 x6 x7 x8 x10 x11 x12 x13 x14, ε = [.ref a, .ref pf, x2, x3, x4, x5, x6, x7, x8, .dat (dLn x), x10, x11, x12, x13, x14]) [10] ?_ ?_ ?_
    · refine ⟨?_, _, _, _, _, _, _, _, _, _, _, _, _, rfl⟩
      show _ = ([_, ⟨pf, .nw, .lst ((B ++ []).map (rowD p))⟩] : Ms)
      rw [List.append_nil]
    · rintro j d _ _ hd ⟨rfl, x2, x3, x4, x5, x6, x7, x8, x10, x11, x12, x13, x14, rfl⟩
      obtain ⟨hj, rfl⟩ : j < 2 ∧ d = .int (if j = 0 then -1 else 1) := by
        match j, hd with
        | 0, h => exact ⟨by decide, (Option.some.inj h).symm⟩
        | 1, h => exact ⟨by decide, (Option.some.inj h).symm⟩
        | n + 2, h => cases h
      obtain ⟨sg, hsg⟩ : ∃ sg : Int, sg = if j = 0 then -1 else 1 := ⟨_, rfl⟩
      have hsg' : sg.natAbs < 2 ^ 20 := by rw [hsg]; split <;> decide
      rw [← hsg]
      refine ⟨_, tg_name (by decide), ?_⟩
      refine do_seq (do_asgN (en_mapR (n := p.wid) (ei_list (ev_meth (ms' := [⟨a, .rd, iObj CI p⟩]) (vr 0) mem0 rfl (ds := [_]) (ea1 (vr 9)) rd1 ⟨p, x, rfl, rfl, hW, ox.1, ox.2.1, rfl⟩)) (fun c => .int (sg * p.flow x c)) (by omega)
        fun c hc => ⟨_, tg_name (by decide), ev_mul (vr 10) (vr 14) (mulSmall hsg' (by have := flow_abs (p := p) (x := x) (j := c) hs1000; omega))⟩) fun q hq => ?_)
      have nq1 : a ≠ q := hq _ mem0 _ mem0
      have nq2 : pf ≠ q := hq _ mem1 _ mem0
      show Do K _ _ [⟨a, .rd, iObj CI p⟩, ⟨pf, .nw, .lst ((B ++ (List.range j).map (lrow p x)).map (rowD p))⟩, ⟨q, .nw, .lst (rg p.wid fun c => .int (sg * p.flow x c))⟩] _
      refine do_seq (do_setL (ev_ixT (vr 9) ci rfl) (vr 11) ci mem2 nofun (by decide) (by rw [rg_len]; omega) ?_)
      rw [setMo_2 nq1 nq2, rg_set]
      have eR : (rg p.wid fun c => if c = (0 : Int).toNat then PyData.int x.l else .int (sg * p.flow x c)) = rg p.wid fun c => .int (lrow p x j c) := rg_congr fun c _ => by
        show (if c = 0 then PyData.int x.l else .int (sg * p.flow x c)) = .int (if c = 0 then x.l else if j = 0 then - p.flow x c else p.flow x c)
        by_cases z : c = 0
        · rw [if_pos z, if_pos z]
        · rw [if_neg z, if_neg z, hsg]
          by_cases z2 : j = 0
          · rw [if_pos z2, if_pos z2]; congr 1; omega
          · rw [if_neg z2, if_neg z2, Int.one_mul]
      rw [eR]
      refine do_fg (ε' := [.ref a, .ref pf, .un, .un, .un, .un, .un, .un, .un, .dat (dLn x), .un, .ref q, .un, .un, .un]) (by (repeat (first | exact Fg.nil | apply Fg.un | apply Fg.eq))) ?_
      refine do_freeze (a := q) mem2 ?_
      rw [without_miss nq1, without_miss nq2, without_hit, without_nil]
      simp only [asDat_nil, asDat_un, asDat_dat, asDat_hit, asDat_miss nq1, asDat_miss nq2]
      refine do_app (vr 1) mem1 nofun (vr 11) (by rw [List.length_map, List.length_append, List.length_map, List.length_range]; omega) ?_
      rw [setMo_1 npf]
      refine ⟨?_, _, _, _, _, _, _, _, _, _, _, _, _, rfl⟩
      have e : (B ++ (List.range (j + 1)).map (lrow p x)).map (rowD p) = (B ++ (List.range j).map (lrow p x)).map (rowD p) ++ [rowD p (lrow p x j)] := by
        rw [List.range_succ]; simp only [List.map_append, List.append_assoc]; rfl
      rw [e]
      rfl
    · rintro _ _ ⟨rfl, x2, x3, x4, x5, x6, x7, x8, x10, x11, x12, x13, x14, rfl⟩
      refine ⟨?_, _, _, _, _, _, _, _, _, _, _, _, _, _, rfl⟩
      have e : (List.range 2).map (lrow p x) = G2 x := by rw [hG2]; rfl
      show ([_, _] : Ms) = _
      rw [show ([PyData.int (-1), PyData.int 1] : List PyData).length = 2 from rfl, e]
  rintro _ _ ⟨rfl, x2, x3, x4, x5, x6, x7, x8, x9, x10, x11, x12, x13, x14, rfl⟩
  rw [List.take_length, eL]
  have lL : p.lnRows.length ≤ 16 := by rw [← eL]; have := l2 p.lns.length; rw [List.take_length] at this; exact this
  show Do K _ _ _ _
  -- the nodes
  obtain ⟨G3, hG3⟩ : ∃ G : Nat → List (Nat → Int), G = fun v => [fun j => p.excess v j, fun j => - p.excess v j] := ⟨_, rfl⟩
  have eN : p.nodes.flatMap G3 = p.ndRows := by rw [hG3]; rfl
  have l3 : ∀ i, ((p.nodes.take i).flatMap G3).length ≤ 16 := fun i => by
    rw [hG3, flat2_len, List.length_take]
    have := O.ne.2
    omega
  refine do_seq (do_forR (n := p.nodes.length) ((ei_list (ev_fld (vr 0) mem0 T.clI T.nI_nodes rfl)).to (nats_rg p.nodes)) (fun i ε ms => ms = [⟨a, .rd, iObj CI p⟩, ⟨pf, .nw, .lst ((p.stRows ++ p.lnRows ++ (p.nodes.take i).flatMap G3).map (rowD p))⟩] ∧
    ∃ x2 x3 x4 x5 x6 x7 x8 x9 x10 x11 x12 x13 x14, ε = [.ref a, .ref pf, x2, x3, x4, x5, x6, x7, x8, x9, x10, x11, x12, x13, x14]) [12] ?_ ?_ ?_)
  · refine ⟨?_, _, _, _, _, _, _, _, _, _, _, _, _, _, rfl⟩
    show _ = ([_, ⟨pf, .nw, .lst ((p.stRows ++ p.lnRows ++ []).map (rowD p))⟩] : Ms)
    rw [List.append_nil]
  · rintro i _ _ hi ⟨rfl, x2, x3, x4, x5, x6, x7, x8, x9, x10, x11, x12, x13, x14, rfl⟩
    refine ⟨_, tg_name (by decide), ?_⟩
    obtain ⟨v, hv⟩ : ∃ v, v = p.nodes.getD i 0 := ⟨_, rfl⟩
    rw [take_flat G3 0 hi, ← hv]
    obtain ⟨B, hB⟩ : ∃ B, B = p.stRows ++ p.lnRows ++ (p.nodes.take i).flatMap G3 := ⟨_, rfl⟩
    have lB : B.length ≤ 40 := by rw [hB, List.length_append, List.length_append, lS]; have := l3 i; have := O.sts; omega
    rw [← List.append_assoc (p.stRows ++ p.lnRows), ← hB]
    refine do_seq (do_asg (ev_meth (ms' := [⟨a, .rd, iObj CI p⟩]) (vr 0) mem0 rfl (ds := [_]) (ea1 (vr 12)) rd1 ⟨p, v, rfl, rfl, hW, rfl⟩) ?_)
    refine do_seq (do_app (vr 1) mem1 nofun (vr 13) (by rw [List.length_map]; omega) ?_)
    rw [setMo_1 npf]
    refine do_app (vr 1) mem1 nofun (EvO.know (en_mapR (n := p.wid) (ei_list (vr 13)) (fun c => .int (- p.excess v c)) (by omega) fun c hc => ⟨_, tg_name (by decide), ev_neg (vr 14)⟩)) (by rw [List.length_append, List.length_map]; show B.length + 1 < _; omega) ?_
    rw [setMo_1 npf]
    refine ⟨?_, _, _, _, _, _, _, _, _, _, _, _, _, _, rfl⟩
    rw [List.map_append, List.append_assoc, hG3]
    rfl
  rintro _ _ ⟨rfl, x2, x3, x4, x5, x6, x7, x8, x9, x10, x11, x12, x13, x14, rfl⟩
  rw [List.take_length, eN]
  show Do K _ _ _ _
  refine do_fg (ε' := [.ref a, .ref pf, .un, .un, .un, .un, .un, .un, .un, .un, .un, .un, .un, .un, .un]) (by (repeat (first | exact Fg.nil | apply Fg.un | apply Fg.eq))) ?_
  refine do_freeze (a := pf) mem1 ?_
  rw [without_miss npf, without_hit, without_nil]
  simp only [asDat_nil, asDat_un, asDat_dat, asDat_hit, asDat_miss npf]
  exact do_ret (vr 1) rfl
end
end Rl
set_option Elab.async false
set_option linter.all false
set_option maxRecDepth 100000
set_option maxHeartbeats 4000000
set_option exponentiation.threshold 10000
/-! The answers: worth, is_dispatch, is_barrier, run_island. -/
namespace Rl
open PySem L2
structure Isl (n : Net) (s : Sta) (isl : List Nat) : Prop where
  net : NetOk n
  sta : StaOk n s
  isl : IslOk n s isl
theorem Isl.ok {n : Net} {s : Sta} {isl : List Nat} (I : Isl n s isl) : PartOk (partOf n s isl) := part_ok I.net I.sta I.isl
abbrev nsi (n : Net) (s : Sta) (isl : List Nat) : List PyData := [dNet n, dSta s, dNats isl]
theorem EvO.imp {K : PySem.W.Frag} {te : TE} {ε : List Sl} {ms : Ms} {P P' : Addr → Ms → Prop} (h : EvO K te ε ms P) (i : ∀ x ms', P x ms' → P' x ms') : EvO K te ε ms P' := fun Hk σ H1 w Q q => h Hk σ H1 w Q fun x ms' Hn H2 hp => q x ms' Hn H2 (i x ms' hp)
section
variable {P : Program} {w : World} {K : PySem.W.Frag} {mg : Str → Option Value} {base : Heap} {CT CI : Addr}
theorem eo_isl {t : TA} {ε : List Sl} {ms : Ms} {n : Net} {s : Sta} {isl : List Nat} (h : EvA K t ε ms [.dat (dNet n), .dat (dSta s), .dat (dNats isl)]) (S : StaOk n s) : EvO K (tMake CI (ctr K (cIslInit CI)) [] XE t) ε ms (fun x ms'' => ms'' = [⟨x, .nw, iObj CI (partOf n s isl)⟩]) :=
  (eo_make (R := fun x r ms' => r = .dat .none ∧ ms' = [⟨x, .wr, iObj CI (partOf n s isl)⟩]) h (fun x => ⟨x, n, s, isl, rfl, rfl, rfl, S, rfl⟩) fun x s' ms' ⟨h1, h2⟩ => ⟨h1, fun e he => by rw [h2] at he; cases List.mem_singleton.mp he; exact nofun⟩).imp fun x ms'' ⟨ms', ⟨_, h1⟩, h2⟩ => by rw [h2, h1]; rfl
def cCondOf : List PyData → PyData → Prop := fun ds r => ∃ n s isl, ds = nsi n s isl ∧ Isl n s isl ∧ r = rowsD (partOf n s isl)
abbrev s_conditions_of : Stmt := topS 17
abbrev N_conditions_of : List Str := ["net", "state", "island"]
theorem sc_conditions_of : FnScope N_conditions_of ["net", "state", "island"] (defScope s_conditions_of) := ⟨rfl, rfl, rfl, by decide +kernel, rfl, by decide +kernel, by decide +kernel⟩
theorem w_conditions_of (T : Txt K mg CT CI) (D : Def K mg "conditions_of" s_conditions_of ["net", "state", "island"]) (c_Island : CalC P w K mg base CI "Island" 1 ["self", "net", "state", "island"] (ctr K (cIslInit CI))) (c_conditions : CalM P w K mg base CI "conditions" 4 ["self"] (ctr K (red0 (cConditions CI)))) :
    Cal P w K mg base "conditions_of" 5 ["net", "state", "island"] (ctr K (pur cCondOf)) := by
  refine D.cal sc_conditions_of (fun ss ms M R ⟨ds, r, e, _, _, ⟨_, _, _, e2, _⟩, _⟩ => by rw [e, e2]; rfl) fun f cdv A outer s H vs Q E hr => ?_
  obtain ⟨f_conditions, fd_conditions, F_conditions, m_conditions, b_conditions⟩ := c_conditions.ex
  have c_Island := c_Island.mono (j := 3) (by decide)
  refine ⟨_, pss_one (ps_ret (pe_meth0 (pe_makeC c_Island hr (by rfl) (pa_cons (pv 0) (pa_cons (pv 1) (pa_cons (pv 2) pa_nil)))) T.clI m_conditions F_conditions hr b_conditions .nil pass0)), ?_⟩
  rintro _ _ _ _ ⟨_, _, rfl, rfl, rfl, ⟨n, s, isl, rfl, I, rfl⟩, rfl⟩
  refine do_ret (ev_methO (ds := []) (eo_isl (ea_cons (vr 0) (ea_cons (vr 1) (ea1 (vr 2)))) I.sta) fun x ms' hp => ?_) rfl
  subst hp
  exact ⟨_, _, mem0, rfl, ea_nil, _, rd1, ⟨_, rfl, rfl, ⟨I.ok⟩, rfl⟩⟩
def cWorth : List PyData → PyData → Prop := fun ds r => ∃ (c : Nat) (f : Nat → Int) (N : Nat → Int) (L : Int), ds = [.list (rg (c + 1) fun j => .int (f j)), .list (rg c fun l => dF (fr (N l) L))] ∧ c ≤ 12 ∧ (∀ j, j < c + 1 → (f j).natAbs ≤ 16384) ∧ 0 < L ∧ L.natAbs < 2 ^ 221 ∧ (∀ l, (N l).natAbs < 2 ^ 221) ∧
  r = dF (fr (f 0 * L + sm c fun l => f (l + 1) * N l) L)
theorem worth_abs {f N : Nat → Int} {L : Int} {c i : Nat} (hc : c ≤ 12) (hi : i ≤ c) (hf : ∀ j, j < c + 1 → (f j).natAbs ≤ 16384) (hL : L.natAbs < 2 ^ 221) (hN : ∀ l, (N l).natAbs < 2 ^ 221) : (f 0 * L + sm i fun l => f (l + 1) * N l).natAbs < 2 ^ 300 := by
  have h1 : (f 0 * L).natAbs ≤ 16384 * 2 ^ 221 := by rw [Int.natAbs_mul]; exact Nat.mul_le_mul (hf 0 (by omega)) (Nat.le_of_lt hL)
  have h2 := sm_natAbs (f := fun l => f (l + 1) * N l) (M := 16384 * 2 ^ 221) (n := i) fun l hl => by
    show (f (l + 1) * N l).natAbs ≤ _
    rw [Int.natAbs_mul]
    exact Nat.mul_le_mul (hf (l + 1) (by omega)) (Nat.le_of_lt (hN l))
  have h3 : i * (16384 * 2 ^ 221) ≤ 12 * (16384 * 2 ^ 221) := Nat.mul_le_mul_right _ (by omega)
  have h4 := Int.natAbs_add_le (f 0 * L) (sm i fun l => f (l + 1) * N l)
  have h5 : (16384 * 2 ^ 221 : Nat) + 12 * (16384 * 2 ^ 221) < 2 ^ 300 := by decide
  omega
theorem sz_fr {N L : Int} (h : 0 < L) (h1 : N.natAbs < 2 ^ 2000) (h2 : L.natAbs < 2 ^ 2000) : Sz 2000 (fr N L) := ⟨Nat.lt_of_le_of_lt (fr_num_abs h) h1, Nat.lt_of_le_of_lt (fr_den_abs h) h2⟩
theorem lt2000 {a n : Nat} (h : a < 2 ^ n) (hn : n ≤ 2000) : a < 2 ^ 2000 := Nat.lt_of_lt_of_le h (Nat.pow_le_pow_right (by decide) hn)
theorem cut_1 {c : Nat} {F : Nat → PyData} : cutD (rg (c + 1) F) (some 1) none = rg c fun i => F (1 + i) := by
  have := cut_back (n := c + 1) (k := 1) (F := F) (by omega)
  rw [Nat.add_sub_cancel] at this
  exact this
abbrev s_worth : Stmt := topS 18
abbrev N_worth : List Str := ["condition", "unknowns", "total", "factor", "unknown"]
theorem sc_worth : FnScope N_worth ["condition", "unknowns"] (defScope s_worth) := ⟨rfl, rfl, rfl, by decide +kernel, rfl, by decide +kernel, by decide +kernel⟩
theorem w_worth (T : Txt K mg CT CI) (D : Def K mg "worth" s_worth ["condition", "unknowns"]) (c_plus : Cal P w K mg base "plus" 2 ["first", "second"] (ctr K (pur cPlus))) (c_scaled : Cal P w K mg base "scaled" 2 ["factor", "item"] (ctr K (pur cScaled))) : Cal P w K mg base "worth" 3 ["condition", "unknowns"] (ctr K (pur cWorth)) := by
  refine D.cal sc_worth (fun ss ms M R ⟨ds, r, e, _, _, ⟨_, _, _, _, e2, _⟩, _⟩ => by rw [e, e2]; rfl) fun f cdv A outer s H vs Q E hr => ?_
  refine ⟨_, pss_cons (ps_set (i := 2) sc_worth.nd rfl (Or.inl rfl) (pe_tup (pa_cons (pe_ix ix_list (pv 0) (pe_int) (fun _ _ => rfl)) (pa_cons (pe_int) pa_nil))))
    (pss_cons (ps_for PassesOwn.never rfl (pi_zip (by rfl) T.b_zip (pa_cons (pe_slice sl_list (pv 0) (po_some (pe_int)) po_none) (pa_cons (pv 1) pa_nil))) (pg_tup rfl (pgs_cons (pg_name (i := 3) sc_worth.nd rfl (Or.inl rfl)) (pgs_cons (pg_name (i := 4) sc_worth.nd rfl (Or.inl rfl)) pgs_nil)))
      (pss_one (ps_set (i := 2) sc_worth.nd rfl (Or.inl rfl) (pe_callC c_plus hr (by rfl) (pa_cons (pv 2) (pa_cons (pe_callC c_scaled hr (by rfl) (pa_cons (pv 3) (pa_cons (pv 4) pa_nil))) pa_nil))))))
    (pss_one (ps_ret (pv 2)))), ?_⟩
  rintro _ _ _ _ ⟨_, _, rfl, rfl, rfl, ⟨c, f, N, L, rfl, hc, hf, hL, zL, zN, rfl⟩, rfl⟩
  have z2000 : L.natAbs < 2 ^ 2000 := lt2000 zL (by decide)
  refine do_seq (do_asg (s := .dat (dF (f 0, 1))) (ev_tup (ds := [_, _]) (ea_cons (ev_ixL (vr 0) ci (at_nat (n := c + 1) (k := 0) (Nat.succ_pos c))) (ea1 ci))) ?_)
  refine do_seq (do_forR (n := c) ((ei_zip (ea_cons (EvO.know (en_sl (vr 0) (ep_some ci) ep_none)) (ea1 (vr 1)))).to (by rw [cut_1, zip_rg])) (fun i ε ms => ms = [] ∧ ∃ x3 x4, ε = [.dat (.list (rg (c + 1) fun j => .int (f j))), .dat (.list (rg c fun l => dF (fr (N l) L))), .dat (dF (fr (f 0 * L + sm i fun l => f (l + 1) * N l) L)), x3, x4]) [3, 4] ?_ ?_ ?_)
  · refine ⟨rfl, .un, .un, ?_⟩
    have e : fr (f 0 * L + sm 0 fun l => f (l + 1) * N l) L = (f 0, 1) := by
      show fr (f 0 * L + 0) L = _
      rw [Int.add_zero]; exact fr_int hL
    rw [e]
    rfl
  · rintro i _ _ hi ⟨rfl, x3, x4, rfl⟩
    refine ⟨_, tg_tup2 (by decide) (by decide), ?_⟩
    have w1 := worth_abs (i := i) hc (by omega) hf zL zN
    have k1 : (f (1 + i)).natAbs ≤ 16384 := hf _ (by omega)
    have w2 : (f (1 + i) * N i).natAbs < 2 ^ 2000 := by
      rw [Int.natAbs_mul]
      exact Nat.lt_of_le_of_lt (Nat.mul_le_mul k1 (Nat.le_of_lt (zN i))) (by decide)
    refine do_asg (s := .dat (dF (fr (f 0 * L + sm (i + 1) fun l => f (l + 1) * N l) L))) (ev_call (ds := [_, _]) (ea_cons (vr 2) (ea1 (ev_call (ds := [_, _]) (ea_cons (vr 3) (ea1 (vr 4)))
      ⟨f (1 + i), fr (N i) L, rfl, fr_den hL, Nat.lt_of_le_of_lt k1 (by decide), sz_fr hL (lt2000 (zN i) (by decide)) z2000, rfl⟩)))
      ⟨_, _, rfl, fr_den hL, ?_, sz_fr hL (lt2000 w1 (by decide)) z2000, ?_, ?_⟩) ⟨rfl, _, _, rfl⟩
    · rw [fr_scale hL]; exact fr_den hL
    · rw [fr_scale hL]; exact sz_fr hL w2 z2000
    · rw [fr_scale hL, fr_plus hL]
      have e : (f 0 * L + sm (i + 1) fun l => f (l + 1) * N l) = f 0 * L + (sm i fun l => f (l + 1) * N l) + f (1 + i) * N i := by
        show f 0 * L + ((sm i fun l => f (l + 1) * N l) + f (i + 1) * N i) = _
        rw [Nat.add_comm 1 i]
        omega
      rw [e]
  rintro _ _ ⟨rfl, x3, x4, rfl⟩
  exact do_ret (vr 2) rfl
def outsD (p : Part) (N : Nat → Int) (L : Int) : List PyData := rg p.sts.length fun k => dF (fr (N k) L)
def potsD (p : Part) (N : Nat → Int) (L : Int) : List PyData := rg p.nodes.length fun i => dF (fr (p.pV N i) L)
theorem unk_eq {p : Part} {N : Nat → Int} {L : Int} (h : 1 ≤ p.nodes.length) : outsD p N L ++ (rg (p.nodes.length - 1) fun i => dF (fr (p.pV N (1 + i)) L)) = rg (p.wid - 1) fun l => dF (fr (N l) L) := by
  unfold outsD
  rw [rg_app, show p.sts.length + (p.nodes.length - 1) = p.wid - 1 by unfold Part.wid; omega]
  refine rg_congr fun l hl => ?_
  by_cases z : l < p.sts.length
  · rw [if_pos z]
  · rw [if_neg z]
    unfold Part.pV
    rw [if_neg (by omega), show p.sts.length + (1 + (l - p.sts.length)) - 1 = l by omega]
theorem pots_eq {p : Part} {N : Nat → Int} {L : Int} (hL : 0 < L) (h : 1 ≤ p.nodes.length) : potsD p N L = dF (0, 1) :: (rg (p.nodes.length - 1) fun i => dF (fr (N (p.sts.length + i)) L)) := by
  unfold potsD
  have e := rg_app 1 (p.nodes.length - 1) (fun _ => dF (0, 1)) fun i => dF (fr (N (p.sts.length + i)) L)
  rw [show 1 + (p.nodes.length - 1) = p.nodes.length by omega] at e
  have e2 : dF (0, 1) :: (rg (p.nodes.length - 1) fun i => dF (fr (N (p.sts.length + i)) L)) = (rg 1 fun _ => dF (0, 1)) ++ rg (p.nodes.length - 1) fun i => dF (fr (N (p.sts.length + i)) L) := rfl
  rw [e2, e]
  refine rg_congr fun i hi => ?_
  unfold Part.pV
  by_cases z : i = 0
  · rw [if_pos z, if_pos (by omega), fr_zero hL]
  · rw [if_neg z, if_neg (by omega), show p.sts.length + i - 1 = p.sts.length + (i - 1) by omega]
theorem rows_rg {p : Part} : p.rows.map (rowD p) = rg p.rows.length fun k => rowD p (p.row k) := by
  refine List.ext_getElem? fun k => ?_
  by_cases h : k < p.rows.length
  · rw [rg_at h, List.getElem?_map, row_at h]; rfl
  · rw [List.getElem?_eq_none (by rw [List.length_map]; omega), List.getElem?_eq_none (by rw [rg_len]; omega)]
noncomputable def told (p : Part) : PyData := match solF p.conds (p.wid - 1) with
  | .no ks => .tuple [.str "no", .list (dints ks)]
  | .yes us => .tuple [.str "yes", .list ((us.take p.sts.length).map dF), .list (dF (0, 1) :: (us.drop p.sts.length).map dF)]
theorem us_rg (n : Nat) (N : Nat → Int) (L : Int) : ((List.range n).map fun l => fr (N l) L).map dF = rg n fun l => dF (fr (N l) L) := by unfold rg; rw [List.map_map]; rfl
theorem told_cases {p : Part} (O : PartOk p) : (∃ ks, solF p.conds (p.wid - 1) = .no ks ∧ Bar p ks ∧ told p = .tuple [.str "no", .list (dints ks)]) ∨
    ∃ N L, solF p.conds (p.wid - 1) = .yes ((List.range (p.wid - 1)).map fun l => fr (N l) L) ∧ Sol p N L ∧ told p = .tuple [.str "yes", .list (outsD p N L), .list (potsD p N L)] := by
  have h1 := O.ne.1
  rcases ans_cases O with ⟨ks, e, B⟩ | ⟨N, L, e, S⟩
  · refine .inl ⟨ks, e, B, ?_⟩
    unfold told
    rw [e]
  · refine .inr ⟨N, L, e, S, ?_⟩
    unfold told
    rw [e]
    show PyData.tuple [_, .list ((((List.range (p.wid - 1)).map fun l => fr (N l) L).take p.sts.length).map dF), .list (dF (0, 1) :: (((List.range (p.wid - 1)).map fun l => fr (N l) L).drop p.sts.length).map dF)] = _
    rw [List.map_take, List.map_drop, us_rg, rg_take (by unfold Part.wid; omega), rg_drop, pots_eq S.pos h1, show p.wid - 1 - p.sts.length = p.nodes.length - 1 by unfold Part.wid; omega]
    rfl
def cIsDisp : List PyData → PyData → Prop := fun ds r => ∃ n s isl N L, ds = [dNet n, dSta s, dNats isl, .list (outsD (partOf n s isl) N L), .list (potsD (partOf n s isl) N L)] ∧ Isl n s isl ∧ Sol (partOf n s isl) N L ∧ r = .bool true
theorem all_true (n : Nat) : (List.replicate n true).all id = true := by rw [List.all_replicate]; simp
theorem dbls_const {ds : List PyData} (b : Bool) : ds.map (fun _ => PyData.bool b) = dbls (List.replicate ds.length b) := by
  induction ds with
  | nil => rfl
  | cons d ds ih => rw [List.map_cons, ih]; rfl
theorem dF_in {p : Part} {N : Nat → Int} {L : Int} {d : PyData} (h : d ∈ outsD p N L ++ potsD p N L) : ∃ x, d = dF (fr x L) := by
  rcases List.mem_append.mp h with h | h
  · unfold outsD rg at h
    obtain ⟨k, _, rfl⟩ := List.mem_map.mp h
    exact ⟨_, rfl⟩
  · unfold potsD rg at h
    obtain ⟨k, _, rfl⟩ := List.mem_map.mp h
    exact ⟨_, rfl⟩
abbrev s_is_dispatch : Stmt := topS 19
abbrev N_is_dispatch : List Str := ["net", "state", "island", "outputs", "potentials", "part", "unknowns", "condition", "item"]
theorem sc_is_dispatch : FnScope N_is_dispatch ["net", "state", "island", "outputs", "potentials"] (defScope s_is_dispatch) := ⟨rfl, rfl, rfl, by decide +kernel, rfl, by decide +kernel, by decide +kernel⟩
theorem w_is_dispatch (T : Txt K mg CT CI) (D : Def K mg "is_dispatch" s_is_dispatch ["net", "state", "island", "outputs", "potentials"]) (c_Island : CalC P w K mg base CI "Island" 1 ["self", "net", "state", "island"] (ctr K (cIslInit CI))) (c_conditions : CalM P w K mg base CI "conditions" 4 ["self"] (ctr K (red0 (cConditions CI))))
    (c_is_fraction : Cal P w K mg base "is_fraction" 1 ["item"] (ctr K (pur cIsFraction))) (c_is_less : Cal P w K mg base "is_less" 1 ["first", "second"] (ctr K (pur cIsLess))) (c_worth : Cal P w K mg base "worth" 3 ["condition", "unknowns"] (ctr K (pur cWorth))) :
    Cal P w K mg base "is_dispatch" 5 ["net", "state", "island", "outputs", "potentials"] (ctr K (pur cIsDisp)) := by
  refine D.cal sc_is_dispatch (fun ss ms M R ⟨ds, r, e, _, _, ⟨_, _, _, _, _, e2, _⟩, _⟩ => by rw [e, e2]; rfl) fun f cdv A outer s H vs Q E hr => ?_
  obtain ⟨f_conditions, fd_conditions, F_conditions, m_conditions, b_conditions⟩ := c_conditions.ex
  have c_Island := c_Island.mono (j := 3) (by decide)
  have c_is_fraction := c_is_fraction.mono (j := 4) (by decide)
  have c_is_less := c_is_less.mono (j := 4) (by decide)
  have c_worth := c_worth.mono (j := 4) (by decide)
  refine ⟨_, pss_cons (ps_set (i := 5) sc_is_dispatch.nd rfl (Or.inl rfl) (pe_makeC c_Island hr (by rfl) (pa_cons (pv 0) (pa_cons (pv 1) (pa_cons (pv 2) pa_nil)))))
    (pss_cons (ps_if (PW.pt (pw_or (pt_cmpR op_ne (pe_callB call_len_seq (by rfl) T.b_len (by decide +kernel) (pa_cons (pv 3) pa_nil)) (pe_callB call_len_seq (by rfl) T.b_len (by decide +kernel) (pa_cons (pe_fld (pv 5) rfl) pa_nil)) (nomark _)) (pw_or1 (pt_cmpR op_ne (pe_callB call_len_seq (by rfl) T.b_len (by decide +kernel) (pa_cons (pv 4) pa_nil)) (pe_callB call_len_seq (by rfl) T.b_len (by decide +kernel) (pa_cons (pv 2) pa_nil)) (nomark _)))))
      (pss_one (ps_ret (pe_bl)))
      (pss_nil))
    (pss_cons (ps_if (PW.pt (pw_or (pt_not (pt_val (pe_callB (cr_all rfl) (by rfl) T.b_all (by decide +kernel) (pa_cons (pe_lc (own := [("item", 8)]) (g := gName 8) (tt := tYes) rfl sc_is_dispatch.nd (pi_list (pe_op op_cat (pe_callTy call_list_of (by rfl) T.b_list (by decide +kernel) (pa_cons (pv 3) pa_nil)) (pe_callTy call_list_of (by rfl) T.b_list (by decide +kernel) (pa_cons (pv 4) pa_nil)))) (blkOk_by (N := N_is_dispatch) (sc := defScope s_is_dispatch) (by decide +kernel)) (fun _ _ _ _ _ => pg_name (i := 8) sc_is_dispatch.nd rfl (Or.inl rfl)) (fun _ _ _ _ _ => pts_nil) (fun _ _ _ _ _ => pe_callC c_is_fraction hr (by rfl) (pa_cons (pv 8) pa_nil))) pa_nil)))) (pw_or1 (pt_cmpR (op_neD hr.units) (pe_ix ix_list (pv 4) (pe_int) (fun _ _ => rfl)) (pe_tup (pa_cons (pe_int) (pa_cons (pe_int) pa_nil))) (nomark _)))))
      (pss_one (ps_ret (pe_bl)))
      (pss_nil))
    (pss_cons (ps_set (i := 6) sc_is_dispatch.nd rfl (Or.inr rfl) (pe_op op_cat (pe_callTy call_list_of (by rfl) T.b_list (by decide +kernel) (pa_cons (pv 3) pa_nil)) (pe_slice sl_list (pv 4) (po_some (pe_int)) po_none)))
    (pss_one (ps_ret (pe_not (pe_callB (cr_any rfl) (by rfl) T.b_any (by decide +kernel) (pa_cons (pe_lc (own := [("condition", 7)]) (g := gName 7) (tt := tYes) rfl sc_is_dispatch.nd (pi_list (pe_meth0 (pv 5) T.clI m_conditions F_conditions hr b_conditions .nil pass0)) (blkOk_by (N := N_is_dispatch) (sc := defScope s_is_dispatch) (by decide +kernel)) (fun _ _ _ _ _ => pg_name (i := 7) sc_is_dispatch.nd rfl (Or.inl rfl)) (fun _ _ _ _ _ => pts_nil) (fun _ _ _ _ _ => pe_callC c_is_less hr (by rfl) (pa_cons (pe_callC c_worth hr (by rfl) (pa_cons (pv 7) (pa_cons (pv 6) pa_nil))) (pa_cons (pe_tup (pa_cons (pe_int) (pa_cons (pe_int) pa_nil))) pa_nil)))) pa_nil)))))))), ?_⟩
  rintro _ _ _ _ ⟨_, _, rfl, rfl, rfl, ⟨n, s, isl, N, L, rfl, I, S, rfl⟩, rfl⟩
  obtain ⟨p, hp⟩ : ∃ p, p = partOf n s isl := ⟨_, rfl⟩
  have O : PartOk p := by rw [hp]; exact I.ok
  have hn : isl = p.nodes := by rw [hp]; rfl
  have h1 := O.ne.1
  have h8 := O.ne.2
  have h4 := O.sts
  refine do_seq (do_asgO (eo_isl (ea_cons (vr 0) (ea_cons (vr 1) (ea1 (vr 2)))) I.sta) fun x ms' hx _ => ?_)
  subst hx
  rw [← hp] at S ⊢
  have lo : (outsD p N L).length = p.sts.length := rg_len _ _
  have lp : (potsD p N L).length = p.nodes.length := rg_len _ _
  show Do K _ [.dat (dNet n), .dat (dSta s), .dat (dNats isl), .dat (.list (outsD p N L)), .dat (.list (potsD p N L)), .ref x, .un, .un, .un] [⟨x, .nw, iObj CI p⟩] _
  refine do_seq (do_if (b := false) (EvB.to (eb_or (eb_test (ev_neI (ev_len (vr 3)) (ev_len (ev_fld (vr 5) mem0 T.clI T.nI_stations rfl)))) (fun _ => eb_test (ev_neI (ev_len (vr 4)) (ev_len (vr 2))))) ?_) (fun hb => nomatch hb) (fun _ => Do.next ?_))
  · rw [lo, lp, List.length_map, natI_len, hn]
    simp
  refine do_seq (do_if (b := false) (EvB.to (eb_or (c := false) (eb_not (eb_B (ev_all (bs := List.replicate (outsD p N L ++ potsD p N L).length true) (Ev.dat (EvO.know (en_map (ei_list (EvO.know (en_cat (EvO.know (en_list (vr 3))) (EvO.know (en_list (vr 4))) ?_))) (fun d => .bool true) ?_ fun d hd => ⟨_, tg_name (by decide), ?_⟩)) ?_)))) (fun _ => eb_test (Ev.dat (ev_neD (d := dF (0, 1)) (ev_ixL (vr 4) ci ?_) (ev_tup (ds := [_, _]) (ea_cons ci (ea1 ci))) ?_ ?_) ?_))) ?_) (fun hb => nomatch hb) (fun _ => Do.next ?_))
  · rw [lo, lp]; omega
  · rw [List.length_append, lo, lp]; omega
  · obtain ⟨z, rfl⟩ := dF_in hd
    refine Ev.dat (ev_call (ds := [_]) (ea1 (vr 8)) ⟨fr z L, rfl, rfl⟩) ?_
    rw [decide_eq_true (show 1 ≤ (fr z L).2 by have := fr_den (N := z) S.pos; omega), decide_eq_true (show (Int.gcd (fr z L).1 (fr z L).2 : Int) = 1 by rw [fr_low S.pos]; rfl)]
    rfl
  · rw [dbls_const]
  · rw [pots_eq S.pos h1]; exact at_list (by decide) rfl
  · rfl
  · rfl
  · rfl
  · rw [all_true]; rfl
  refine do_seq (do_asg (s := .dat (.list (rg (p.wid - 1) fun l => dF (fr (N l) L)))) (Ev.dat (EvO.know (en_cat (d2 := rg (p.nodes.length - 1) fun i => dF (fr (p.pV N (1 + i)) L)) (EvO.know (en_list (vr 3))) (Ev.dat (EvO.know (en_sl (vr 4) (ep_some ci) ep_none)) ?_) ?_)) (by rw [unk_eq h1])) ?_)
  · unfold potsD
    rw [show p.nodes.length = p.nodes.length - 1 + 1 by omega, cut_1]
    rfl
  · rw [lo, rg_len]; omega
  have hw : p.wid - 1 + 1 = p.wid := by unfold Part.wid; omega
  refine do_ret (Ev.dat (ev_not (ev_any (bs := List.replicate (p.rows.map (rowD p)).length false) (Ev.dat (EvO.know (en_map (ds := p.rows.map (rowD p)) (ei_list (ev_meth (ms' := [⟨x, .rd, iObj CI p⟩]) (vr 5) mem0 rfl (ds := []) ea_nil rd1 ⟨p, rfl, rfl, ⟨O⟩, rfl⟩)) (fun d => .bool false) ?_ fun d hd => ⟨_, tg_name (by decide), ?_⟩)) (dbls_const false ▸ rfl)))) ?_) rfl
  · rw [List.length_map, rows_len]; have := O.lns; omega
  · obtain ⟨g, hg, rfl⟩ := List.mem_map.mp hd
    have ga := fun j => rows_abs O hg j
    have in0 := S.ineq g hg
    refine Ev.dat (ev_call (ds := [_, _]) (ea_cons (ev_call (ds := [_, _]) (ea_cons (vr 7) (ea1 (vr 6))) ⟨p.wid - 1, g, N, L, by rw [hw]; rfl, by unfold Part.wid; omega, fun j _ => ga j, S.pos, S.szL, S.szN, rfl⟩) (ea1 (ev_tup (ds := [_, _]) (ea_cons ci (ea1 ci)))))
      ⟨fr (p.val N L g) L, (0, 1), rfl, sz_fr S.pos (lt2000 (worth_abs (c := p.wid - 1) (by unfold Part.wid; omega) (Nat.le_refl _) (fun j _ => ga j) S.szL S.szN) (by decide)) (lt2000 S.szL (by decide)), ⟨by decide, by decide⟩, rfl⟩) ?_
    congr 1
    refine decide_eq_false ?_
    have h2 : ¬ (fr (p.val N L g) L).1 < 0 := fun q => by have := (fr_neg_iff (N := p.val N L g) S.pos).mp q; omega
    show ¬ ((fr (p.val N L g) L).1 * 1 < 0 * _)
    rw [Int.mul_one, Int.zero_mul]
    exact h2
  · congr 1
    rw [List.any_replicate]
    simp
end
end Rl
set_option Elab.async false
set_option linter.all false
set_option maxRecDepth 100000
set_option maxHeartbeats 4000000
set_option exponentiation.threshold 10000
/-! is_barrier, run_island, is_feasible. -/
namespace Rl
open PySem L2
section
variable {P : Program} {w : World} {K : PySem.W.Frag} {mg : Str → Option Value} {base : Heap} {CT CI : Addr}
def cIsBar : List PyData → PyData → Prop := fun ds r => ∃ n s isl ks, ds = [dNet n, dSta s, dNats isl, .list (dints ks)] ∧ Isl n s isl ∧ Bar (partOf n s isl) ks ∧ r = .bool true
theorem getD_sz {ks : List Int} {m : Nat} (h : ∀ x ∈ ks, x.natAbs < 2 ^ m) (k : Nat) : (ks.getD k 0).natAbs < 2 ^ m := by
  by_cases z : k < ks.length
  · exact h _ (getD_mem z)
  · rw [List.getD_eq_getElem?_getD, List.getElem?_eq_none (by omega)]
    exact Nat.two_pow_pos m
theorem row_abs {p : Part} (O : PartOk p) (k j : Nat) : (p.row k j).natAbs ≤ 16384 := by
  by_cases h : k < p.rows.length
  · exact rows_abs O (List.mem_of_getElem? (row_at h)) j
  · unfold Part.row
    rw [List.getD_eq_getElem?_getD, List.getElem?_eq_none (by omega)]
    exact Nat.zero_le _
abbrev s_is_barrier : Stmt := topS 20
abbrev N_is_barrier : List Str := ["net", "state", "island", "integers", "conditions", "total", "factor", "condition", "item", "part"]
theorem sc_is_barrier : FnScope N_is_barrier ["net", "state", "island", "integers"] (defScope s_is_barrier) := ⟨rfl, rfl, rfl, by decide +kernel, rfl, by decide +kernel, by decide +kernel⟩
theorem w_is_barrier (T : Txt K mg CT CI) (D : Def K mg "is_barrier" s_is_barrier ["net", "state", "island", "integers"]) (c_conditions_of : Cal P w K mg base "conditions_of" 5 ["net", "state", "island"] (ctr K (pur cCondOf))) :
    Cal P w K mg base "is_barrier" 6 ["net", "state", "island", "integers"] (ctr K (pur cIsBar)) := by
  refine D.cal sc_is_barrier (fun ss ms M R ⟨ds, r, e, _, _, ⟨_, _, _, _, e2, _⟩, _⟩ => by rw [e, e2]; rfl) fun f cdv A outer s H vs Q E hr => ?_
  refine ⟨_, pss_cons (ps_set (i := 4) sc_is_barrier.nd rfl (Or.inl rfl) (pe_callC c_conditions_of hr (by rfl) (pa_cons (pv 0) (pa_cons (pv 1) (pa_cons (pv 2) pa_nil)))))
    (pss_cons (ps_if (PW.pt (pw_or (pt_cmpR op_ne (pe_callB call_len_seq (by rfl) T.b_len (by decide +kernel) (pa_cons (pv 3) pa_nil)) (pe_callB call_len_seq (by rfl) T.b_len (by decide +kernel) (pa_cons (pv 4) pa_nil)) (nomark _)) (pw_or1 (pt_val (pe_callB (cr_any rfl) (by rfl) T.b_any (by decide +kernel) (pa_cons (pe_lc (own := [("item", 8)]) (g := gName 8) (tt := tYes) rfl sc_is_barrier.nd (pi_list (pv 3)) (blkOk_by (N := N_is_barrier) (sc := defScope s_is_barrier) (by decide +kernel)) (fun _ _ _ _ _ => pg_name (i := 8) sc_is_barrier.nd rfl (Or.inl rfl)) (fun _ _ _ _ _ => pts_nil) (fun _ _ _ _ _ => pe_cmpR op_lt (pv 8) (pe_int) (nomark _))) pa_nil))))))
      (pss_one (ps_ret (pe_bl)))
      (pss_nil))
    (pss_cons (ps_set (i := 5) sc_is_barrier.nd rfl (Or.inl rfl) (pe_op op_rep (pe_lst (pa_cons (pe_int) pa_nil)) (pe_callB call_len_seq (by rfl) T.b_len (by decide +kernel) (pa_cons (pe_ix ix_list (pv 4) (pe_int) (fun _ _ => rfl)) pa_nil))))
    (pss_cons (ps_for PassesOwn.never rfl (pi_zip (by rfl) T.b_zip (pa_cons (pv 3) (pa_cons (pv 4) pa_nil))) (pg_tup rfl (pgs_cons (pg_name (i := 6) sc_is_barrier.nd rfl (Or.inr rfl)) (pgs_cons (pg_name (i := 7) sc_is_barrier.nd rfl (Or.inl rfl)) pgs_nil)))
      (pss_one (ps_setLc (i := 5) (own := [("item", 8), ("part", 9)]) (g := gTup K 2 (gCons (gName 8) (gCons (gName 9) gNil))) (tt := tYes) rfl sc_is_barrier.nd rfl rfl (sw_true rfl rfl rfl (by decide +kernel)) (pi_zip (by rfl) T.b_zip (pa_cons (pv 5) (pa_cons (pv 7) pa_nil))) (blkOk_by (N := N_is_barrier) (sc := defScope s_is_barrier) (by decide +kernel)) (fun _ _ _ _ _ => pg_tupK K rfl (pgs_cons (pg_name (i := 8) sc_is_barrier.nd rfl (Or.inl rfl)) (pgs_cons (pg_name (i := 9) sc_is_barrier.nd rfl (Or.inl rfl)) pgs_nil))) (fun _ _ _ _ _ => pts_nil) (fun _ _ _ _ _ => pe_op op_add (pv 8) (pe_op op_mulW (pv 6) (pv 9))))))
    (pss_one (ps_ret (pe_and (pe_cmpR op_lt (pe_ix ix_list (pv 5) (pe_int) (fun _ _ => rfl)) (pe_int) (nomark _)) (pe_one (pe_callB (cr_all rfl) (by rfl) T.b_all (by decide +kernel) (pa_cons (pe_lc (own := [("item", 8)]) (g := gName 8) (tt := tYes) rfl sc_is_barrier.nd (pi_list (pe_slice sl_list (pv 5) (po_some (pe_int)) po_none)) (blkOk_by (N := N_is_barrier) (sc := defScope s_is_barrier) (by decide +kernel)) (fun _ _ _ _ _ => pg_name (i := 8) sc_is_barrier.nd rfl (Or.inl rfl)) (fun _ _ _ _ _ => pts_nil) (fun _ _ _ _ _ => pe_cmpR op_eq (pv 8) (pe_int) (nomark _))) pa_nil))))))))), ?_⟩
  rintro _ _ _ _ ⟨_, _, rfl, rfl, rfl, ⟨n, s, isl, ks, rfl, I, B, rfl⟩, rfl⟩
  have O := I.ok
  refine do_seq (do_asg (s := .dat (rowsD (partOf n s isl))) (ev_call (ds := [_, _, _]) (ea_cons (vr 0) (ea_cons (vr 1) (ea1 (vr 2)))) ⟨n, s, isl, rfl, I, rfl⟩) ?_)
  obtain ⟨p, hp⟩ : ∃ p, p = partOf n s isl := ⟨_, rfl⟩
  rw [← hp] at O B ⊢
  have h1 := O.ne.1
  have h8 := O.ne.2
  have h4 := O.sts
  have lr := rows_len (p := p)
  have w1 : 1 ≤ p.wid := by unfold Part.wid; omega
  have w12 : p.wid ≤ 12 := by unfold Part.wid; omega
  have lk := B.len
  have eR : rowsD p = .list (rg p.rows.length fun k => rowD p (p.row k)) := by unfold rowsD; rw [rows_rg]
  rw [eR]
  show Do K _ [.dat (dNet n), .dat (dSta s), .dat (dNats isl), .dat (.list (dints ks)), .dat (.list (rg p.rows.length fun k => rowD p (p.row k))), .un, .un, .un, .un, .un] [] _
  refine do_seq (do_if (b := false) (EvB.to (eb_or (c := false) (eb_test (ev_neI (ev_len (vr 3)) (ev_len (vr 4)))) (fun _ => eb_B (Ev.dat (ev_any (bs := List.replicate (dints ks).length false) (Ev.dat (EvO.know (en_map (ei_list (vr 3)) (fun d => .bool false) ?_ fun d hd => ⟨_, tg_name (by decide), ?_⟩)) ?_)) ?_))) ?_) (fun hb => nomatch hb) (fun _ => Do.next ?_))
  · rw [List.length_map]; have := O.lns; omega
  · obtain ⟨z, hz, rfl⟩ := List.mem_map.mp hd
    refine Ev.dat (ev_lt (vr 8) ci) ?_
    rw [decide_eq_false (by have := B.nn z hz; omega)]
  · rw [dbls_const]
  · congr 1
    rw [List.any_replicate]
    simp
  · rw [rg_len, List.length_map, lk]
    simp
  refine do_seq (do_asg (s := .dat (.list (rg p.wid fun j => .int (sm 0 fun k => ks.getD k 0 * p.row k j)))) (Ev.dat (EvO.know (en_rep1 (n := p.wid) (EvO.know (en_lst (ds := [_]) (ea1 ci))) (Ev.dat (ev_len (ev_ixL (vr 4) ci (at_nat (n := p.rows.length) (k := 0) (by omega)))) ?_) (by omega))) ?_) ?_)
  · rw [rg_len]
  · rw [rg_rep]; rfl
  refine do_seq (do_forR (n := p.rows.length) ((ei_zip (ea_cons (vr 3) (ea1 (vr 4)))).to (by rw [dints_of, lk, zip_rg])) (fun i ε ms => ms = [] ∧ ∃ x6 x7 x8 x9, ε = [.dat (dNet n), .dat (dSta s), .dat (dNats isl), .dat (.list (dints ks)), .dat (.list (rg p.rows.length fun k => rowD p (p.row k))), .dat (.list (rg p.wid fun j => .int (sm i fun k => ks.getD k 0 * p.row k j))), x6, x7, x8, x9]) [6, 7] ?_ ?_ ?_)
  · exact ⟨rfl, _, _, _, _, rfl⟩
  · rintro i _ _ hi ⟨rfl, x6, x7, x8, x9, rfl⟩
    refine ⟨_, tg_tup2 (by decide) (by decide), ?_⟩
    refine do_asg (s := .dat (.list (rg p.wid fun j => .int (sm (i + 1) fun k => ks.getD k 0 * p.row k j)))) (EvO.know (en_mapR (n := p.wid) ((ei_zip (ea_cons (vr 5) (ea1 (vr 7)))).to (by rw [zip_rg])) _ (by omega) fun j hj => ⟨_, tg_tup2 (by decide) (by decide), ev_add (vr 8) (ev_mul (vr 6) (vr 9) (szm (lt2000 (getD_sz B.sz i) (by decide)) (Nat.lt_of_le_of_lt (row_abs O i j) (by decide))))⟩)) ⟨rfl, _, _, _, _, rfl⟩
  rintro _ _ ⟨rfl, x6, x7, x8, x9, rfl⟩
  refine do_ret (Ev.dat (ev_and (c := true) (ev_lt (ev_ixL (vr 5) ci (at_nat (k := 0) w1)) ci) (fun _ => Ev.dat (ev_all (bs := List.replicate (p.wid - 1) true) (Ev.dat (EvO.know (en_mapR (n := p.wid - 1) (ei_list (Ev.dat (e := .list (rg (p.wid - 1) fun j => .int (sm p.rows.length fun k => ks.getD k 0 * p.row k (1 + j)))) (EvO.know (en_sl (vr 5) (ep_some ci) ep_none)) ?_)) (fun _ => .bool true) (by omega) fun j hj => ⟨_, tg_name (by decide), ?_⟩)) ?_)) ?_)) ?_) rfl
  · congr 1
    obtain ⟨c, hc⟩ : ∃ c, p.wid = c + 1 := ⟨p.wid - 1, by omega⟩
    rw [hc, cut_1, Nat.add_sub_cancel]
  · refine Ev.dat (ev_eqI (vr 8) ci) ?_
    rw [decide_eq_true (B.zero (1 + j) (by omega) (by omega))]
  · rw [← dbls_rg]
    congr 2
    rw [List.map_const', List.length_range]
  · rw [all_true]
  · rw [Bool.and_true]
    congr 1
    exact decide_eq_true B.neg
def cRun : List PyData → PyData → Prop := fun ds r => ∃ n s isl, ds = nsi n s isl ∧ Isl n s isl ∧ r = told (partOf n s isl)
abbrev s_run_island : Stmt := topS 21
abbrev N_run_island : List Str := ["net", "state", "island", "part", "word", "found", "count"]
theorem sc_run_island : FnScope N_run_island ["net", "state", "island"] (defScope s_run_island) := ⟨rfl, rfl, rfl, by decide +kernel, rfl, by decide +kernel, by decide +kernel⟩
theorem w_run_island (T : Txt K mg CT CI) (D : Def K mg "run_island" s_run_island ["net", "state", "island"]) (c_Island : CalC P w K mg base CI "Island" 1 ["self", "net", "state", "island"] (ctr K (cIslInit CI))) (c_conditions : CalM P w K mg base CI "conditions" 4 ["self"] (ctr K (red0 (cConditions CI))))
    (c_solve : Cal P w K mg base "solve" 4 ["conditions", "count"] (ctr K (pur cSolve))) (c_fraction : Cal P w K mg base "fraction" 1 ["top", "low"] (ctr K (pur cFraction))) : Cal P w K mg base "run_island" 5 ["net", "state", "island"] (ctr K (pur cRun)) := by
  refine D.cal sc_run_island (fun ss ms M R ⟨ds, r, e, _, _, ⟨_, _, _, e2, _⟩, _⟩ => by rw [e, e2]; rfl) fun f cdv A outer s H vs Q E hr => ?_
  obtain ⟨f_conditions, fd_conditions, F_conditions, m_conditions, b_conditions⟩ := c_conditions.ex
  have c_Island := c_Island.mono (j := 3) (by decide)
  have c_fraction := c_fraction.mono (j := 4) (by decide)
  refine ⟨_, pss_cons (ps_set (i := 3) sc_run_island.nd rfl (Or.inl rfl) (pe_makeC c_Island hr (by rfl) (pa_cons (pv 0) (pa_cons (pv 1) (pa_cons (pv 2) pa_nil)))))
    (pss_cons (ps_asg (pe_callC c_solve hr (by rfl) (pa_cons (pe_meth0 (pv 3) T.clI m_conditions F_conditions hr b_conditions .nil pass0) (pa_cons (pe_fld (pv 3) rfl) pa_nil))) (pg_tup rfl (pgs_cons (pg_name (i := 4) sc_run_island.nd rfl (Or.inl rfl)) (pgs_cons (pg_name (i := 5) sc_run_island.nd rfl (Or.inl rfl)) pgs_nil))))
    (pss_cons (ps_if (pt_cmpR op_eq (pv 4) (pe_str) (nomark _))
      (pss_one (ps_ret (pe_tup (pa_cons (pe_str) (pa_cons (pv 5) pa_nil)))))
      (pss_nil))
    (pss_cons (ps_set (i := 6) sc_run_island.nd rfl (Or.inl rfl) (pe_callB call_len_seq (by rfl) T.b_len (by decide +kernel) (pa_cons (pe_fld (pv 3) rfl) pa_nil)))
    (pss_one (ps_ret (pe_tup (pa_cons (pe_str) (pa_cons (pe_slice sl_list (pv 5) po_none (po_some (pv 6))) (pa_cons (pe_op op_cat (pe_lst (pa_cons (pe_callC c_fraction hr (by rfl) (pa_cons (pe_int) (pa_cons (pe_int) pa_nil))) pa_nil)) (pe_slice sl_list (pv 5) (po_some (pv 6)) po_none)) pa_nil))))))))), ?_⟩
  rintro _ _ _ _ ⟨_, _, rfl, rfl, rfl, ⟨n, s, isl, rfl, I, rfl⟩, rfl⟩
  refine do_seq (do_asgO (eo_isl (ea_cons (vr 0) (ea_cons (vr 1) (ea1 (vr 2)))) I.sta) fun x ms' hx _ => ?_)
  subst hx
  obtain ⟨p, hp⟩ : ∃ p, p = partOf n s isl := ⟨_, rfl⟩
  have O : PartOk p := by rw [hp]; exact I.ok
  have h1 := O.ne.1
  have h8 := O.ne.2
  have h4 := O.sts
  have w1 : 1 ≤ p.wid := by unfold Part.wid; omega
  rw [← hp]
  show Do K _ [.dat (dNet n), .dat (dSta s), .dat (dNats isl), .ref x, .un, .un, .un] [⟨x, .nw, iObj CI p⟩] _
  obtain ⟨an, han⟩ : ∃ an, an = solF p.conds (p.wid - 1) := ⟨_, rfl⟩
  have cs : cSolve [rowsD p, .int ((p.sts.length : Nat) + (p.nodes.length : Nat) - 1)] (ansD an) := ⟨p.conds, p.wid - 1, by rw [rows_conds p w1]; unfold condsD; congr 2; unfold Part.wid; congr 1; omega, ⟨(conds_sm O).1, (conds_sm O).2⟩, by rw [han]⟩
  rcases told_cases O with ⟨ks, e, B, et⟩ | ⟨N, L, e, S, et⟩
  · rw [et]
    rw [e] at han
    subst han
    refine do_seq (do_asgT (ev_call (ds := [_, _]) (ea_cons (ev_meth (f := cConditions CI) (r := rowsD p) (C := CI) (ms' := [⟨x, .rd, iObj CI p⟩]) (m := "conditions") (vr 3) mem0 rfl (ds := []) ea_nil rd1 ⟨p, rfl, rfl, ⟨O⟩, rfl⟩) (ea1 (ev_fld (f := "count") (vr 3) mem0 T.clI T.nI_count rfl))) cs) (tg_tup2 (vs := [4, 5]) (by decide) (by decide)) ?_)
    refine do_seq (do_if (b := true) (eb_test (Ev.dat (ev_eqS (vr 4) ev_str) (by rfl))) (fun hb => do_ret (ev_tup (ds := [_, _]) (ea_cons ev_str (ea1 (vr 5)))) rfl) (fun hb => nomatch hb))
  · rw [et]
    rw [e] at han
    subst han
    have ef : ansD (.yes ((List.range (p.wid - 1)).map fun l => fr (N l) L)) = .tuple [.str "yes", .list (rg (p.wid - 1) fun l => dF (fr (N l) L))] := by rw [← us_rg]; rfl
    rw [ef] at cs
    refine do_seq (do_asgT (ev_call (ds := [_, _]) (ea_cons (ev_meth (f := cConditions CI) (r := rowsD p) (C := CI) (ms' := [⟨x, .rd, iObj CI p⟩]) (m := "conditions") (vr 3) mem0 rfl (ds := []) ea_nil rd1 ⟨p, rfl, rfl, ⟨O⟩, rfl⟩) (ea1 (ev_fld (f := "count") (vr 3) mem0 T.clI T.nI_count rfl))) cs) (tg_tup2 (vs := [4, 5]) (by decide) (by decide)) ?_)
    refine do_seq (do_if (b := false) (eb_test (Ev.dat (ev_eqS (vr 4) ev_str) (by rfl))) (fun hb => nomatch hb) (fun hb => Do.next ?_))
    refine do_seq (do_asg (s := .dat (.int (p.sts.length : Nat))) (Ev.dat (ev_len (ev_fld (vr 3) mem0 T.clI T.nI_stations rfl)) (by rw [List.length_map])) ?_)
    refine do_ret (Ev.dat (ev_tup (ds := [_, .list (outsD p N L), .list (potsD p N L)]) (ea_cons ev_str (ea_cons (Ev.dat (EvO.know (en_sl (vr 5) ep_none (ep_some (vr 6)))) ?_) (ea1 (Ev.dat (EvO.know (en_cat (d1 := [dF (0, 1)]) (EvO.know (en_lst (ds := [_]) (ea1 (ev_call (ds := [_, _]) (ea_cons ci (ea1 ci)) ⟨0, 1, rfl, by decide, by decide, ?_⟩)))) (EvO.know (en_sl (vr 5) (ep_some (vr 6)) ep_none)) ?_)) ?_))))) rfl) rfl
    · rw [cut_front (by unfold Part.wid; omega)]; rfl
    · rw [fr_zero (by decide)]
    · rw [cut_back (by unfold Part.wid; omega), rg_len]; show 1 + _ ≤ _; unfold Part.wid; omega
    · rw [cut_back (by unfold Part.wid; omega), pots_eq S.pos h1, show p.wid - 1 - p.sts.length = p.nodes.length - 1 by unfold Part.wid; omega]
      rfl
def isYes : PyData → Bool
  | .tuple (.str x :: _) => decide (x = "yes")
  | _ => false
def cIsFeas : List PyData → PyData → Prop := fun ds r => ∃ n s isl, ds = nsi n s isl ∧ Isl n s isl ∧ r = .bool (isYes (told (partOf n s isl)))
abbrev s_is_feasible : Stmt := topS 22
abbrev N_is_feasible : List Str := ["net", "state", "island"]
theorem sc_is_feasible : FnScope N_is_feasible ["net", "state", "island"] (defScope s_is_feasible) := ⟨rfl, rfl, rfl, by decide +kernel, rfl, by decide +kernel, by decide +kernel⟩
theorem w_is_feasible (T : Txt K mg CT CI) (D : Def K mg "is_feasible" s_is_feasible ["net", "state", "island"]) (c_run_island : Cal P w K mg base "run_island" 5 ["net", "state", "island"] (ctr K (pur cRun))) : Cal P w K mg base "is_feasible" 6 ["net", "state", "island"] (ctr K (pur cIsFeas)) := by
  refine D.cal sc_is_feasible (fun ss ms M R ⟨ds, r, e, _, _, ⟨_, _, _, e2, _⟩, _⟩ => by rw [e, e2]; rfl) fun f cdv A outer s H vs Q E hr => ?_
  refine ⟨_, pss_one (ps_ret (pe_cmpR op_eq (pe_ix ix_tup (pe_callC c_run_island hr (by rfl) (pa_cons (pv 0) (pa_cons (pv 1) (pa_cons (pv 2) pa_nil)))) (pe_int) (fun _ _ => rfl)) (pe_str) (nomark _))), ?_⟩
  rintro _ _ _ _ ⟨_, _, rfl, rfl, rfl, ⟨n, s, isl, rfl, I, rfl⟩, rfl⟩
  have cs : cRun (nsi n s isl) (told (partOf n s isl)) := ⟨n, s, isl, rfl, I, rfl⟩
  rcases told_cases I.ok with ⟨ks, e, B, et⟩ | ⟨N, L, e, S, et⟩
  · rw [et] at cs ⊢
    exact do_ret (ev_eqS (ev_ixT (ev_call (ds := [_, _, _]) (ea_cons (vr 0) (ea_cons (vr 1) (ea1 (vr 2)))) cs) ci (at_list (by decide) rfl)) ev_str) rfl
  · rw [et] at cs ⊢
    exact do_ret (ev_eqS (ev_ixT (ev_call (ds := [_, _, _]) (ea_cons (vr 0) (ea_cons (vr 1) (ea1 (vr 2)))) cs) ci (at_list (by decide) rfl)) ev_str) rfl
end
end Rl
set_option Elab.async false
set_option linter.all false
set_option maxRecDepth 100000
set_option maxHeartbeats 4000000
set_option exponentiation.threshold 10000
/-! islands_of, and the law's own. -/
namespace Rl
open PySem L2
def stE : Stmt → Expr
  | .Return (some e) _ => e
  | .Assign _ e _ => e
  | _ => .Name "x" ⟨0, 0, 0, 0⟩
def lcScope : Expr → Scope
  | .ListComp _ _ sc _ => sc
  | _ => defScope (topS 24)
section
variable {P : Program} {w : World} {K : PySem.W.Frag} {mg : Str → Option Value} {base : Heap} {CT CI : Addr}
section
variable {ε : List Sl} {ms : Ms} {ta : TE}
theorem dq_rg {Hk : Hp} (n : Nat) : DqAll K Hk (rgV 0 (n : Nat)) (rg n fun i => .int (i : Nat)) := by
  have e : rgV 0 (n : Nat) = (List.range n).map fun i => V.int (i : Nat) := by
    unfold rgV
    rw [show (((n : Nat) : Int) - 0).toNat = n by omega]
    exact List.map_congr_left fun i _ => by rw [Int.zero_add]
  rw [e]
  unfold rg
  induction n with
  | zero => exact .nil
  | succ n ih =>
    rw [List.range_succ, List.map_append, List.map_append]
    refine (ih ?_).app (.cons (.int _) .nil)
    unfold rgV
    rw [show (((n : Nat) : Int) - 0).toNat = n by omega]
    exact List.map_congr_left fun i _ => by rw [Int.zero_add]
theorem en_listRg {n : Nat} (h : Ev K ta ε ms (.dat (.int (n : Nat)))) (hn : n ≤ 100000) : EvN K (tLstRg (tRg1 ta)) ε ms (rg n fun i => .int (i : Nat)) := fun Hk σ H1 w Q q =>
  h Hk σ H1 w _ fun v Hn H2 g dv => by
    refine ⟨(n : Nat), dp_int dv, RgOk.of_le (by omega) (by omega) (by omega) (by omega), fun p hp => ?_⟩
    obtain ⟨h1, h2, h3⟩ := new_ok g.kn hp (dq_rg n)
    exact q p _ Hn _ rfl (g.trans h1) (fun e he => g.fresh (h2 e he)) h3
end
def cIslesOf : List PyData → PyData → Prop := fun ds r => ∃ n s, ds = [dNet n, dSta s] ∧ NetOk n ∧ StaOk n s ∧ r = .list ((islesOf n s).map dNats)
theorem shut_len {n : Net} {s : Sta} : (shutL n s).length = s.closed.length := List.length_map ..
theorem shut_at {n : Net} {s : Sta} {i : Nat} (h : i < s.closed.length) : (shutL n s).getD i ln0 = n.lines.getD (s.closed.getD i 0) ln0 := by
  unfold shutL
  rw [getD_at (xs := List.map _ _) (x := n.lines.getD (s.closed.getD i 0) ln0)]
  rw [List.getElem?_map, List.getElem?_eq_getElem h, getD_at (List.getElem?_eq_getElem h)]
  rfl
abbrev s_islands_of : Stmt := topS 24
abbrev N_islands_of : List Str := ["net", "state", "marks", "index", "first", "second", "_", "low", "high", "mark", "node"]
theorem sc_islands_of : FnScope N_islands_of ["net", "state"] (defScope s_islands_of) := ⟨rfl, rfl, rfl, by decide +kernel, rfl, by decide +kernel, by decide +kernel⟩
theorem w_islands_of (T : Txt K mg CT CI) (D : Def K mg "islands_of" s_islands_of ["net", "state"]) : Cal P w K mg base "islands_of" 1 ["net", "state"] (ctr K (pur cIslesOf)) := by
  refine D.cal sc_islands_of (fun ss ms M R ⟨ds, r, e, _, _, ⟨_, _, e2, _⟩, _⟩ => by rw [e, e2]; rfl) fun f cdv A outer s H vs Q E hr => ?_
  refine ⟨_, pss_cons (ps_set (i := 2) sc_islands_of.nd rfl (Or.inr rfl) (pe_listRg rfl (by rfl) T.b_list (prg_1 (by rfl) T.b_range (pe_ix ix_tup (pv 0) (pe_int) (fun _ _ => rfl)))))
    (pss_cons (ps_for PassesOwn.never rfl (pi_tup (pe_ix ix_tup (pv 1) (pe_int) (fun _ _ => rfl))) (pg_name (i := 3) sc_islands_of.nd rfl (Or.inl rfl))
      (pss_cons (ps_asg (pe_ix ix_list (pe_ix ix_tup (pv 0) (pe_int) (fun _ _ => rfl)) (pv 3) (fun _ _ => rfl)) (pg_tup rfl (pgs_cons (pg_name (i := 4) sc_islands_of.nd rfl (Or.inl rfl)) (pgs_cons (pg_name (i := 5) sc_islands_of.nd rfl (Or.inl rfl)) (pgs_cons (pg_name (i := 6) sc_islands_of.nd rfl (Or.inl rfl)) (pgs_cons (pg_name (i := 6) sc_islands_of.nd rfl (Or.inl rfl)) pgs_nil))))))
      (pss_cons (ps_set (i := 7) sc_islands_of.nd rfl (Or.inr rfl) (pe_callB (call_min2 rfl) (by rfl) T.b_min (by decide +kernel) (pa_cons (pe_ix ix_list (pv 2) (pv 4) (fun _ _ => rfl)) (pa_cons (pe_ix ix_list (pv 2) (pv 5) (fun _ _ => rfl)) pa_nil))))
      (pss_cons (ps_set (i := 8) sc_islands_of.nd rfl (Or.inr rfl) (pe_callB (call_max2 rfl) (by rfl) T.b_max (by decide +kernel) (pa_cons (pe_ix ix_list (pv 2) (pv 4) (fun _ _ => rfl)) (pa_cons (pe_ix ix_list (pv 2) (pv 5) (fun _ _ => rfl)) pa_nil))))
      (pss_one (ps_set (i := 2) sc_islands_of.nd rfl (Or.inr rfl) (pe_lc (own := [("mark", 9)]) (g := gName 9) (tt := tYes) rfl sc_islands_of.nd (pi_list (pv 2)) (blkOk_by (N := N_islands_of) (sc := defScope s_islands_of) (by decide +kernel)) (fun _ _ _ _ _ => pg_name (i := 9) sc_islands_of.nd rfl (Or.inl rfl)) (fun _ _ _ _ _ => pts_nil) (fun _ _ _ _ _ => pe_ifExp (pt_cmpR op_eq (pv 9) (pv 8) (nomark _)) (pv 7) (pv 9)))))))))
    (pss_one (ps_ret (pe_lc (own := [("mark", 9)]) (g := gName 9) (tt := _) rfl sc_islands_of.nd (pi_range1 (by rfl) T.b_range (pa_cons (pe_ix ix_tup (pv 0) (pe_int) (fun _ _ => rfl)) pa_nil)) (blkOk_by (N := N_islands_of) (sc := defScope s_islands_of) (by decide +kernel)) (fun _ _ _ _ _ => pg_name (i := 9) sc_islands_of.nd rfl (Or.inr rfl)) (fun _ _ _ _ _ => pts_one (pt_cmpR (op_in_seqK K) (pv 9) (pv 2) (by rfl))) (fun _ _ _ _ _ => pe_lc (own := [("node", 10)]) (g := gName 10) (tt := _) rfl sc_islands_of.nd (pi_range1 (by rfl) T.b_range (pa_cons (pe_ix (ix_tupK K) (pv 0) (pe_int) (fun _ _ => rfl)) pa_nil)) (blkOk_by (N := N_islands_of) (sc := relS (lcScope (stE ((defBody s_islands_of).getD 2 (.Pass ⟨0, 0, 0, 0⟩)))) (defScope s_islands_of)) (by decide +kernel)) (fun _ _ _ _ _ => pg_name (i := 10) sc_islands_of.nd rfl (Or.inl rfl)) (fun _ _ _ _ _ => pts_one (pt_cmpR op_eq (pe_ix (ix_listK K) (pv 2) (pv 10) (fun _ _ => rfl)) (pv 9) (nomark _))) (fun _ _ _ _ _ => pv 10)))))), ?_⟩
  rintro _ _ _ _ ⟨_, _, rfl, rfl, rfl, ⟨n, s, rfl, N, S, rfl⟩, rfl⟩
  have V8 := N.nodes.2
  obtain ⟨E, hE⟩ : ∃ E, E = shutL n s := ⟨_, rfl⟩
  have lE : E.length = s.closed.length := by rw [hE]; exact shut_len
  have bE : ∀ x ∈ E, x.a < n.nodes ∧ x.b < n.nodes := by rw [hE]; exact shut_in N S
  refine do_seq (do_asg (EvO.know (en_listRg (n := n.nodes) (ev_ixT (vr 0) ci rfl) (by omega))) ?_)
  refine do_seq (do_forR (n := s.closed.length) ((ei_tup (ev_ixT (vr 1) ci rfl)).to (nats_rg s.closed)) (fun i ε ms => ms = [] ∧ ∃ x3 x4 x5 x6 x7 x8 x9 x10, ε = [.dat (dNet n), .dat (dSta s), .dat (.list (rg n.nodes fun v => .int (mrk (E.take i) v : Nat))), x3, x4, x5, x6, x7, x8, x9, x10]) [3] ?_ ?_ ?_)
  · exact ⟨rfl, _, _, _, _, _, _, _, _, rfl⟩
  · rintro i _ _ hi ⟨rfl, x3, x4, x5, x6, x7, x8, x9, x10, rfl⟩
    refine ⟨_, tg_name (by decide), ?_⟩
    have hk : s.closed.getD i 0 < n.lines.length := S.closed _ (getD_mem hi)
    obtain ⟨x, hx⟩ : ∃ x, x = E.getD i ln0 := ⟨_, rfl⟩
    have hx2 : n.lines.getD (s.closed.getD i 0) ln0 = x := by rw [hx, hE, shut_at hi]
    have bx := bE x (by rw [hx]; exact getD_mem (by omega))
    obtain ⟨m, hm⟩ : ∃ m, m = mrk (E.take i) := ⟨_, rfl⟩
    rw [mrk_take (by omega), ← hx, ← hm]
    refine do_seq (do_asgT (s := .dat (dLn x)) (Ev.dat (ev_ixL (ev_ixT (vr 0) ci rfl) (vr 3) (map_at (d := ln0) hk)) (by rw [hx2])) (tg_tup4 (vs := [4, 5, 6, 6]) (by decide) (by decide) (by decide) (by decide)) ?_)
    refine do_seq (do_asg (s := .dat (.int (min (m x.a) (m x.b) : Nat))) (Ev.dat (ev_min2 (ev_ixL (vr 2) (vr 4) (at_nat bx.1)) (ev_ixL (vr 2) (vr 5) (at_nat bx.2))) (by congr 1; split <;> omega)) ?_)
    refine do_seq (do_asg (s := .dat (.int (max (m x.a) (m x.b) : Nat))) (Ev.dat (ev_max2 (ev_ixL (vr 2) (vr 4) (at_nat bx.1)) (ev_ixL (vr 2) (vr 5) (at_nat bx.2))) (by congr 1; split <;> omega)) ?_)
    refine do_asg (EvO.know (en_mapR (ei_list (vr 2)) (fun v => .int (mst m x v : Nat)) (by omega) fun v hv => ⟨_, tg_name (by decide), ev_if (b := decide (m v = max (m x.a) (m x.b))) (EvB.to (eb_test (ev_eqI (vr 9) (vr 8))) (decide_eq_decide.mpr (by omega))) (fun hb => (vr 7).dat ?_) (fun hb => (vr 9).dat ?_)⟩)) ⟨rfl, _, _, _, _, _, _, _, _, rfl⟩
    · rw [mst_hi (of_decide_eq_true hb)]
    · rw [mst_no (of_decide_eq_false hb)]
  rintro _ _ ⟨rfl, x3, x4, x5, x6, x7, x8, x9, x10, rfl⟩
  rw [← lE, List.take_length]
  have M := mrk_ok E
  obtain ⟨m, hm⟩ : ∃ m, m = mrk E := ⟨_, rfl⟩
  rw [← hm] at M ⊢
  show Do K _ _ _ _
  refine do_ret (Ev.dat (EvO.know (en_lcI (ei_range (n := n.nodes) (ea1 (ev_ixT (vr 0) ci rfl)) (by omega)) (fun v => decide (m v = v)) (fun v => dNats (compV n.nodes m v)) (by rw [rg_len]; omega) fun v d hd => ?_)) ?_) rfl
  · obtain ⟨hv, rfl⟩ := rg_get hd
    refine ⟨_, tg_name (by decide), EvB.to (eb_test (ev_in (ns := (List.range n.nodes).map fun u => ((m u : Nat) : Int)) (vr 9) (Ev.dat (vr 2) ?_))) (decide_eq_decide.mpr ⟨fun h => ?_, fun h => ?_⟩), fun hb => Ev.dat (EvO.know (en_lcI (ei_range (n := n.nodes) (ea1 (ev_ixT (vr 0) ci rfl)) (by omega)) (fun u => decide (m u = v)) (fun u => .int (u : Nat)) (by rw [rg_len]; omega) fun u d hd => ?_)) ?_⟩
    · rw [dints_rg]
    · obtain ⟨u, hu, e⟩ := List.mem_map.mp h
      have e' : m u = v := by omega
      rw [← e', M.fix]
    · exact List.mem_map.mpr ⟨v, List.mem_range.mpr hv, by rw [h]⟩
    · obtain ⟨hu, rfl⟩ := rg_get hd
      exact ⟨_, tg_name (by decide), EvB.to (eb_test (ev_eqI (ev_ixL (vr 2) (vr 10) (at_nat hu)) (vr 9))) (decide_eq_decide.mpr (by omega)), fun _ => vr 10⟩
    · rw [rg_len]
      unfold dNats natI compV dints
      rw [List.map_map]
      rfl
  · rw [rg_len]
    unfold islesOf isls islsTo
    rw [← hE, ← hm, List.map_map]
    rfl
end
end Rl
set_option Elab.async false
set_option linter.all false
set_option maxRecDepth 100000
set_option maxHeartbeats 4000000
set_option exponentiation.threshold 10000
/-! the law's islands, stations, lines, what is fed. -/
namespace Rl
open PySem L2
section
variable {P : Program} {w : World} {K : PySem.W.Frag} {mg : Str → Option Value} {base : Heap} {CT CI : Addr}
section
variable {ε : List Sl} {ms : Ms} {E : AE}
/-- a statement, then the rest from all that may hold between -/
theorem do_then {t u : TS} (I : List Sl → Ms → Prop) (h : Do K t ε ms { E with nx := I }) (k : ∀ ε' ms', I ε' ms' → Do K u ε' ms' E) : Do K (tSeq t u) ε ms E := do_seq (h.mono k (fun _ _ h => h) (fun _ _ h => h) fun _ _ h => h)
theorem en_mapM {g : TG} {tl te : TE} {vs : List Nat} {a : Addr} {fl : Fl} {ds : List PyData} (hl : Ev K tl ε ms (.ref a)) (hm : ⟨a, fl, .lst ds⟩ ∈ ms) (F : Nat → PyData) (hz : ds.length ≤ 100000)
    (hs : ∀ i d, ds[i]? = some d → ∃ ε', Tg K g (.dat d) (wipeS ε vs) ms vs ε' ∧ Ev K te ε' ms (.dat (F i))) : EvN K (tLc (iList K tl) g tYes te vs) ε ms (rg ds.length F) := by
  have h := en_lcM (tt := tYes) hl hm (fun _ => true) F hz fun i d hd => let ⟨ε', h1, h2⟩ := hs i d hd; ⟨ε', h1, eb_yes, fun _ => h2⟩
  rw [List.filter_eq_self.mpr fun _ _ => rfl] at h
  exact h
end
theorem natI_app (xs : List Nat) (y : Nat) : natI (xs ++ [y]) = natI xs ++ [((y : Nat) : Int)] := by unfold natI; rw [List.map_append]; rfl
theorem dints_app (xs : List Int) (y : Int) : dints (xs ++ [y]) = dints xs ++ [.int y] := by unfold dints; rw [List.map_append]; rfl
theorem natI_perm {xs ys : List Nat} (h : xs.Perm ys) : (natI xs).Perm (natI ys) := h.map _
theorem natI_sorted {xs : List Nat} (h : xs.Pairwise (· ≤ ·)) : (natI xs).Pairwise (· ≤ ·) := by
  unfold natI
  rw [List.pairwise_map]
  exact h.imp fun q => by omega
abbrev s_law_islands : Stmt := topS 33
abbrev N_law_islands : List Str := ["_law_net", "_law_state_here", "_law_found", "_law_node", "_law_island", "_law_turn", "_law_k", "_law_a", "_law_b"]
theorem sc_law_islands : FnScope N_law_islands ["_law_net", "_law_state_here"] (defScope s_law_islands) := ⟨rfl, rfl, rfl, by decide +kernel, rfl, by decide +kernel, by decide +kernel⟩
theorem w_law_islands (T : Txt K mg CT CI) (D : Def K mg "_law_islands" s_law_islands ["_law_net", "_law_state_here"]) : Cal P w K mg base "_law_islands" 1 ["_law_net", "_law_state_here"] (ctr K (pur cIslesOf)) := by
  refine D.cal sc_law_islands (fun ss ms M R ⟨ds, r, e, _, _, ⟨_, _, e2, _⟩, _⟩ => by rw [e, e2]; rfl) fun f cdv A outer s H vs Q E hr => ?_
  refine ⟨_, pss_cons (ps_set (i := 2) sc_law_islands.nd rfl (Or.inl rfl) (pe_lst pa_nil))
    (pss_cons (ps_for PassesOwn.never rfl (pi_range1 (by rfl) T.b_range (pa_cons (pe_ix ix_tup (pv 0) (pe_int) (fun _ _ => rfl)) pa_nil)) (pg_name (i := 3) sc_law_islands.nd rfl (Or.inr rfl))
      (pss_one (ps_if (pt_not (pt_val (pe_callB (cr_any rfl) (by rfl) T.b_any (by decide +kernel) (pa_cons (pe_lc (own := [("_law_island", 4)]) (g := gName 4) (tt := tYes) rfl sc_law_islands.nd (pi_list (pv 2)) (blkOk_by (N := N_law_islands) (sc := defScope s_law_islands) (by decide +kernel)) (fun _ _ _ _ _ => pg_name (i := 4) sc_law_islands.nd rfl (Or.inl rfl)) (fun _ _ _ _ _ => pts_nil) (fun _ _ _ _ _ => pe_cmpR (op_in_seqK K) (pv 3) (pv 4) (by rfl))) pa_nil))))
        (pss_cons (ps_set (i := 4) sc_law_islands.nd rfl (Or.inl rfl) (pe_lst (pa_cons (pv 3) pa_nil)))
        (pss_cons (ps_for PassesOwn.never rfl (pi_range1 (by rfl) T.b_range (pa_cons (pe_ix ix_tup (pv 0) (pe_int) (fun _ _ => rfl)) pa_nil)) (pg_name (i := 5) sc_law_islands.nd rfl (Or.inl rfl))
          (pss_one (ps_for PassesOwn.never rfl (pi_tup (pe_ix ix_tup (pv 1) (pe_int) (fun _ _ => rfl))) (pg_name (i := 6) sc_law_islands.nd rfl (Or.inl rfl))
            (pss_cons (ps_set (i := 7) sc_law_islands.nd rfl (Or.inl rfl) (pe_ix ix_tup (pe_ix ix_list (pe_ix ix_tup (pv 0) (pe_int) (fun _ _ => rfl)) (pv 6) (fun _ _ => rfl)) (pe_int) (fun _ _ => rfl)))
            (pss_cons (ps_set (i := 8) sc_law_islands.nd rfl (Or.inl rfl) (pe_ix ix_tup (pe_ix ix_list (pe_ix ix_tup (pv 0) (pe_int) (fun _ _ => rfl)) (pv 6) (fun _ _ => rfl)) (pe_int) (fun _ _ => rfl)))
            (pss_cons (ps_if (PW.pt (pw_and (pt_cmpR op_in_seq (pv 7) (pv 4) (by rfl)) (pw_and1 (pt_cmpR op_notIn_seq (pv 8) (pv 4) (by rfl)))))
              (pss_one (ps_expr (pe_bm PySem.F.plainAttrs_list PySem.F.slot_list_append PySem.F.type_list_append mt_append (pv 4) (pa_cons (pv 8) pa_nil))))
              (pss_nil))
            (pss_one (ps_if (PW.pt (pw_and (pt_cmpR op_in_seq (pv 8) (pv 4) (by rfl)) (pw_and1 (pt_cmpR op_notIn_seq (pv 7) (pv 4) (by rfl)))))
              (pss_one (ps_expr (pe_bm PySem.F.plainAttrs_list PySem.F.slot_list_append PySem.F.type_list_append mt_append (pv 4) (pa_cons (pv 7) pa_nil))))
              (pss_nil)))))))))
        (pss_one (ps_expr (pe_bm PySem.F.plainAttrs_list PySem.F.slot_list_append PySem.F.type_list_append mt_append (pv 2) (pa_cons (pe_callB cr_sorted (by rfl) T.b_sorted (by decide +kernel) (pa_cons (pv 4) pa_nil)) pa_nil))))))
        (pss_nil))))
    (pss_one (ps_ret (pv 2)))), ?_⟩
  rintro _ _ _ _ ⟨_, _, rfl, rfl, rfl, ⟨n, s, rfl, N, S, rfl⟩, rfl⟩
  have V8 := N.nodes.2
  obtain ⟨E, hE⟩ : ∃ E, E = shutL n s := ⟨_, rfl⟩
  have lE : E.length = s.closed.length := by rw [hE]; exact shut_len
  have bE : ∀ x ∈ E, x.a < n.nodes ∧ x.b < n.nodes := by rw [hE]; exact shut_in N S
  have M := mrk_ok E
  refine do_seq (do_asgN (en_lst (ds := []) ea_nil) fun qf _ => ?_)
  refine do_seq (do_forR (n := n.nodes) (ei_range (n := n.nodes) (ea1 (ev_ixT (vr 0) ci rfl)) (by omega)) (fun i ε ms => (∃ rest, ms = ⟨qf, .nw, .lst ((islsTo n.nodes (mrk E) i).map dNats)⟩ :: rest) ∧ ∃ x3 x4 x5 x6 x7 x8, ε = [.dat (dNet n), .dat (dSta s), .ref qf, x3, x4, x5, x6, x7, x8]) [3] ?_ ?_ ?_)
  · exact ⟨⟨[], rfl⟩, _, _, _, _, _, _, rfl⟩
  · rintro v _ _ hv ⟨⟨rest, rfl⟩, x3, x4, x5, x6, x7, x8, rfl⟩
    refine ⟨_, tg_name (by decide), ?_⟩
    refine do_ms (ms' := [⟨qf, .nw, .lst ((islsTo n.nodes (mrk E) v).map dNats)⟩]) (fun e he => by cases List.mem_singleton.mp he; exact mem0) ?_
    have lI : (islsTo n.nodes (mrk E) v).length ≤ 8 := by
      unfold islsTo
      rw [List.length_map]
      refine Nat.le_trans (List.length_filter_le _ _) ?_
      rw [List.length_range]
      omega
    show Do K _ [.dat (dNet n), .dat (dSta s), .ref qf, .dat (.int (v : Nat)), x4, x5, x6, x7, x8] _ _
    refine do_if (b := decide (mrk E v = v)) (EvB.to (eb_not (eb_B (ev_any (bs := (islsTo n.nodes (mrk E) v).map fun I => decide (v ∈ I)) (Ev.dat (EvO.know (en_mapM (vr 2) mem0 (fun k => .bool (decide (v ∈ (islsTo n.nodes (mrk E) v).getD k []))) (by rw [List.length_map]; omega) fun k d hd => ⟨_, tg_name (by decide), ?_⟩)) ?_)))) ?_) (fun hb => ?_) (fun hb => ?_)
    · rw [List.getElem?_map] at hd
      cases q : (islsTo n.nodes (mrk E) v)[k]? with
      | none => rw [q] at hd; cases hd
      | some I =>
        rw [q] at hd
        have hd' := Option.some.inj hd
        subst hd'
        rw [getD_at q]
        exact (ev_in (vr 3) (vr 4)).dat (by rw [in_nats])
    · rw [List.length_map]
      unfold dbls
      rw [List.map_map, map_rg _ _ ([] : List Nat)]
      rfl
    · rw [List.any_map]
      show (!((islsTo n.nodes (mrk E) v).any fun I => decide (v ∈ I))) = _
      rw [isls_any hv, Bool.not_not]
    · have hm := of_decide_eq_true hb
      refine do_seq (do_asgN (en_lst (ds := [_]) (ea1 (vr 3))) fun qi hq => ?_)
      have nq : qf ≠ qi := hq _ mem0 _ mem0
      refine do_seq (do_forR (n := n.nodes) (ei_range (n := n.nodes) (ea1 (ev_ixT (vr 0) ci rfl)) (by omega)) (fun t ε ms => ms = [⟨qf, .nw, .lst ((islsTo n.nodes (mrk E) v).map dNats)⟩, ⟨qi, .nw, .lst (dints (natI (itr E [v] t)))⟩] ∧ ∃ x5 x6 x7 x8, ε = [.dat (dNet n), .dat (dSta s), .ref qf, .dat (.int (v : Nat)), .ref qi, x5, x6, x7, x8]) [5] ?_ ?_ ?_)
      · exact ⟨rfl, _, _, _, _, rfl⟩
      · rintro t _ _ ht ⟨rfl, x5, x6, x7, x8, rfl⟩
        refine ⟨_, tg_name (by decide), ?_⟩
        refine do_forR (n := s.closed.length) ((ei_tup (ev_ixT (vr 1) ci rfl)).to (nats_rg s.closed)) (fun j ε ms => ms = [⟨qf, .nw, .lst ((islsTo n.nodes (mrk E) v).map dNats)⟩, ⟨qi, .nw, .lst (dints (natI (pass (E.take j) (itr E [v] t))))⟩] ∧ ∃ x5 x6 x7 x8, ε = [.dat (dNet n), .dat (dSta s), .ref qf, .dat (.int (v : Nat)), .ref qi, x5, x6, x7, x8]) [6] ?_ ?_ ?_
        · exact ⟨rfl, _, _, _, _, rfl⟩
        · rintro j _ _ hj ⟨rfl, x5, x6, x7, x8, rfl⟩
          refine ⟨_, tg_name (by decide), ?_⟩
          have hk : s.closed.getD j 0 < n.lines.length := S.closed _ (getD_mem hj)
          obtain ⟨x, hx⟩ : ∃ x, x = E.getD j ln0 := ⟨_, rfl⟩
          have hx2 : n.lines.getD (s.closed.getD j 0) ln0 = x := by rw [hx, hE, shut_at hj]
          have lJ := pass_le bE hv t j
          rw [pass_take (by omega), ← hx]
          obtain ⟨J, hJ⟩ : ∃ J, J = pass (E.take j) (itr E [v] t) := ⟨_, rfl⟩
          rw [← hJ] at lJ ⊢
          refine do_seq (do_asg (s := .dat (.int (x.a : Nat))) (ev_ixT (Ev.dat (ev_ixL (ev_ixT (vr 0) ci rfl) (vr 6) (map_at (d := ln0) hk)) (e := dLn x) (by rw [hx2])) ci rfl) ?_)
          refine do_seq (do_asg (s := .dat (.int (x.b : Nat))) (ev_ixT (Ev.dat (ev_ixL (ev_ixT (vr 0) ci rfl) (vr 6) (map_at (d := ln0) hk)) (e := dLn x) (by rw [hx2])) ci rfl) ?_)
          show Do K _ [.dat (dNet n), .dat (dSta s), .ref qf, .dat (.int (v : Nat)), .ref qi, x5, .dat (.int (s.closed.getD j 0 : Nat)), .dat (.int (x.a : Nat)), .dat (.int (x.b : Nat))] _ _
          refine do_then (fun ε ms => ε = [.dat (dNet n), .dat (dSta s), .ref qf, .dat (.int (v : Nat)), .ref qi, x5, .dat (.int (s.closed.getD j 0 : Nat)), .dat (.int (x.a : Nat)), .dat (.int (x.b : Nat))] ∧ ms = [⟨qf, .nw, .lst ((islsTo n.nodes (mrk E) v).map dNats)⟩, ⟨qi, .nw, .lst (dints (natI (pst1 J x)))⟩]) ?_ ?_
          · refine do_if (b := decide (x.a ∈ J) && !decide (x.b ∈ J)) (EvB.to (eb_and (eb_test (ev_inM (vr 7) (vr 4) mem1)) (fun _ => eb_test (ev_niM (vr 8) (vr 4) mem1))) (by rw [in_nats, in_nats])) (fun hb => ?_) (fun hb => Do.next ⟨rfl, ?_⟩)
            · have z : x.a ∈ J ∧ x.b ∉ J := by simpa using hb
              refine do_app (vr 4) mem1 nofun (vr 8) (by rw [List.length_map]; unfold natI; rw [List.length_map]; omega) ⟨rfl, ?_⟩
              rw [setMo_1 nq]
              unfold pst1
              rw [if_pos z, natI_app, dints_app]
            · have z : ¬ (x.a ∈ J ∧ x.b ∉ J) := by simpa using hb
              unfold pst1
              rw [if_neg z]
          rintro _ _ ⟨rfl, rfl⟩
          have lJ1 : (pst1 J x).length ≤ 9 := by
            unfold pst1
            split
            · rw [List.length_append]; show J.length + 1 ≤ 9; omega
            · omega
          refine do_if (b := decide (x.b ∈ pst1 J x) && !decide (x.a ∈ pst1 J x)) (EvB.to (eb_and (eb_test (ev_inM (vr 8) (vr 4) mem1)) (fun _ => eb_test (ev_niM (vr 7) (vr 4) mem1))) (by rw [in_nats, in_nats])) (fun hb => ?_) (fun hb => Do.next ⟨?_, _, _, _, _, rfl⟩)
          · have z : x.b ∈ pst1 J x ∧ x.a ∉ pst1 J x := by simpa using hb
            refine do_app (vr 4) mem1 nofun (vr 7) (by rw [List.length_map]; unfold natI; rw [List.length_map]; omega) ⟨?_, _, _, _, _, rfl⟩
            rw [setMo_1 nq]
            unfold pst pst2
            rw [if_pos z, natI_app, dints_app]
          · have z : ¬ (x.b ∈ pst1 J x ∧ x.a ∉ pst1 J x) := by simpa using hb
            unfold pst pst2
            rw [if_neg z]
        · rintro _ _ ⟨rfl, h⟩
          refine ⟨?_, h⟩
          rw [← lE, List.take_length]
          rfl
      rintro _ _ ⟨rfl, x5, x6, x7, x8, rfl⟩
      have lt := itr_len bE hv n.nodes
      have pm := itr_perm bE hv hm
      refine do_app (vr 2) mem0 nofun (EvO.know (en_sortedM (ms' := natI (compV n.nodes (mrk E) v)) (vr 4) mem1 (by unfold natI; rw [List.length_map]; omega) (natI_perm pm.symm) (natI_sorted comp_sorted))) (by rw [List.length_map]; omega) ⟨⟨[⟨qi, .nw, .lst (dints (natI (itr E [v] n.nodes)))⟩], ?_⟩, _, _, _, _, _, _, rfl⟩
      rw [setMo_cons, if_pos rfl, setMo_cons, if_neg nq.symm, setMo_nil, isls_succ, if_pos hm, List.map_append]
      rfl
    · have hm := of_decide_eq_false hb
      refine Do.next ⟨⟨[], ?_⟩, _, _, _, _, _, _, rfl⟩
      rw [isls_succ, if_neg hm, List.append_nil]
  rintro _ _ ⟨⟨rest, rfl⟩, x3, x4, x5, x6, x7, x8, rfl⟩
  refine do_ms (ms' := [⟨qf, .nw, .lst ((islsTo n.nodes (mrk E) n.nodes).map dNats)⟩]) (fun e he => by cases List.mem_singleton.mp he; exact mem0) ?_
  refine do_fg (ε' := [.dat (dNet n), .dat (dSta s), .ref qf, .un, .un, .un, .un, .un, .un]) (by (repeat (first | exact Fg.nil | apply Fg.un | apply Fg.eq))) ?_
  refine do_freeze (a := qf) mem0 ?_
  rw [without_hit, without_nil]
  simp only [asDat_nil, asDat_un, asDat_dat, asDat_hit]
  refine do_ret (Ev.dat (vr 2) ?_) rfl
  unfold islesOf
  rw [← hE]
def cLStations : List PyData → PyData → Prop := fun ds r => ∃ n s isl, ds = nsi n s isl ∧ StaOk n s ∧ r = .list ((partOf n s isl).sts.map dStn)
abbrev s_law_stations : Stmt := topS 35
abbrev N_law_stations : List Str := ["_law_net", "_law_state_here", "_law_island", "_law_k"]
theorem sc_law_stations : FnScope N_law_stations ["_law_net", "_law_state_here", "_law_island"] (defScope s_law_stations) := ⟨rfl, rfl, rfl, by decide +kernel, rfl, by decide +kernel, by decide +kernel⟩
theorem w_law_stations (T : Txt K mg CT CI) (D : Def K mg "_law_stations" s_law_stations ["_law_net", "_law_state_here", "_law_island"]) : Cal P w K mg base "_law_stations" 1 ["_law_net", "_law_state_here", "_law_island"] (ctr K (pur cLStations)) := by
  refine D.cal sc_law_stations (fun ss ms M R ⟨ds, r, e, _, _, ⟨_, _, _, e2, _⟩, _⟩ => by rw [e, e2]; rfl) fun f cdv A outer s H vs Q E hr => ?_
  refine ⟨_, pss_one (ps_ret (pe_lc (own := [("_law_k", 3)]) (g := gName 3) (tt := _) rfl sc_law_stations.nd (pi_tup (pe_ix ix_tup (pv 1) (pe_int) (fun _ _ => rfl))) (blkOk_by (N := N_law_stations) (sc := defScope s_law_stations) (by decide +kernel)) (fun _ _ _ _ _ => pg_name (i := 3) sc_law_stations.nd rfl (Or.inl rfl)) (fun _ _ _ _ _ => pts_one (pt_cmpR (op_in_seqK K) (pe_ix (ix_tupK K) (pe_ix (ix_listK K) (pe_ix (ix_tupK K) (pv 0) (pe_int) (fun _ _ => rfl)) (pv 3) (fun _ _ => rfl)) (pe_int) (fun _ _ => rfl)) (pv 2) (by rfl))) (fun _ _ _ _ _ => pe_ix (ix_listK K) (pe_ix (ix_tupK K) (pv 0) (pe_int) (fun _ _ => rfl)) (pv 3) (fun _ _ => rfl)))), ?_⟩
  rintro _ _ _ _ ⟨_, _, rfl, rfl, rfl, ⟨n, s, isl, rfl, S, rfl⟩, rfl⟩
  refine do_ret (Ev.dat (EvO.know (en_lcI (ei_tup (ev_ixT (vr 1) ci rfl)) (fun i => decide ((n.stations.getD (s.running.getD i 0) stn0).node ∈ isl)) (fun i => dStn (n.stations.getD (s.running.getD i 0) stn0)) (by rw [natI_len]; have := S.runningN; omega) fun i d hd => ?_)) ?_) rfl
  · rw [natI_get] at hd
    cases q : s.running[i]? with
    | none => rw [q] at hd; cases hd
    | some k =>
      rw [q] at hd
      have hd' := Option.some.inj hd
      subst hd'
      rw [getD_at q]
      have hk := S.running k (List.mem_of_getElem? q)
      exact ⟨_, tg_name (by decide), EvB.to (eb_test (ev_in (ev_ixT (ev_ixL (ev_ixT (vr 0) ci rfl) (vr 3) (map_at (d := stn0) hk)) ci rfl) (vr 2))) in_nats, fun _ => ev_ixL (ev_ixT (vr 0) ci rfl) (vr 3) (map_at (d := stn0) hk)⟩
  · rw [natI_len]
    unfold partOf pick
    rw [List.map_map]
    congr 1
    exact filt_range s.running 0 (fun k => decide ((n.stations.getD k stn0).node ∈ isl)) (fun k => dStn (n.stations.getD k stn0))
def cLLines : List PyData → PyData → Prop := fun ds r => ∃ n s isl, ds = nsi n s isl ∧ StaOk n s ∧ r = .list ((partOf n s isl).lns.map dLn)
abbrev s_law_lines : Stmt := topS 36
abbrev N_law_lines : List Str := ["_law_net", "_law_state_here", "_law_island", "_law_k"]
theorem sc_law_lines : FnScope N_law_lines ["_law_net", "_law_state_here", "_law_island"] (defScope s_law_lines) := ⟨rfl, rfl, rfl, by decide +kernel, rfl, by decide +kernel, by decide +kernel⟩
theorem w_law_lines (T : Txt K mg CT CI) (D : Def K mg "_law_lines" s_law_lines ["_law_net", "_law_state_here", "_law_island"]) : Cal P w K mg base "_law_lines" 1 ["_law_net", "_law_state_here", "_law_island"] (ctr K (pur cLLines)) := by
  refine D.cal sc_law_lines (fun ss ms M R ⟨ds, r, e, _, _, ⟨_, _, _, e2, _⟩, _⟩ => by rw [e, e2]; rfl) fun f cdv A outer s H vs Q E hr => ?_
  refine ⟨_, pss_one (ps_ret (pe_lc (own := [("_law_k", 3)]) (g := gName 3) (tt := _) rfl sc_law_lines.nd (pi_tup (pe_ix ix_tup (pv 1) (pe_int) (fun _ _ => rfl))) (blkOk_by (N := N_law_lines) (sc := defScope s_law_lines) (by decide +kernel)) (fun _ _ _ _ _ => pg_name (i := 3) sc_law_lines.nd rfl (Or.inl rfl)) (fun _ _ _ _ _ => pts_one (pt_cmpR (op_in_seqK K) (pe_ix (ix_tupK K) (pe_ix (ix_listK K) (pe_ix (ix_tupK K) (pv 0) (pe_int) (fun _ _ => rfl)) (pv 3) (fun _ _ => rfl)) (pe_int) (fun _ _ => rfl)) (pv 2) (by rfl))) (fun _ _ _ _ _ => pe_ix (ix_listK K) (pe_ix (ix_tupK K) (pv 0) (pe_int) (fun _ _ => rfl)) (pv 3) (fun _ _ => rfl)))), ?_⟩
  rintro _ _ _ _ ⟨_, _, rfl, rfl, rfl, ⟨n, s, isl, rfl, S, rfl⟩, rfl⟩
  refine do_ret (Ev.dat (EvO.know (en_lcI (ei_tup (ev_ixT (vr 1) ci rfl)) (fun i => decide ((n.lines.getD (s.closed.getD i 0) ln0).a ∈ isl)) (fun i => dLn (n.lines.getD (s.closed.getD i 0) ln0)) (by rw [natI_len]; have := S.closedN; omega) fun i d hd => ?_)) ?_) rfl
  · rw [natI_get] at hd
    cases q : s.closed[i]? with
    | none => rw [q] at hd; cases hd
    | some k =>
      rw [q] at hd
      have hd' := Option.some.inj hd
      subst hd'
      rw [getD_at q]
      have hk := S.closed k (List.mem_of_getElem? q)
      exact ⟨_, tg_name (by decide), EvB.to (eb_test (ev_in (ev_ixT (ev_ixL (ev_ixT (vr 0) ci rfl) (vr 3) (map_at (d := ln0) hk)) ci rfl) (vr 2))) in_nats, fun _ => ev_ixL (ev_ixT (vr 0) ci rfl) (vr 3) (map_at (d := ln0) hk)⟩
  · rw [natI_len]
    unfold partOf pick
    rw [List.map_map]
    congr 1
    exact filt_range s.closed 0 (fun k => decide ((n.lines.getD k ln0).a ∈ isl)) (fun k => dLn (n.lines.getD k ln0))
/-- what is fed at a node -/
def fedV (n : Net) (s : Sta) (v : Nat) : Int := ((s.fed.filter fun k => decide ((n.loads.getD k ld0).node = v)).map fun k => (n.loads.getD k ld0).amt).sum
theorem fed_exL {n : Net} {s : Sta} {isl : List Nat} {v : Nat} (hv : v ∈ isl) : (partOf n s isl).exL v = - fedV n s v := by
  unfold Part.exL partOf pick fedV
  congr 1
  rw [List.map_map]
  have gen : ∀ ks : List Nat, ((ks.filter fun k => decide ((n.loads.getD k ld0).node ∈ isl)).map ((fun x : Ld => if x.node = v then x.amt else 0) ∘ fun k => n.loads.getD k ld0)).sum = ((ks.filter fun k => decide ((n.loads.getD k ld0).node = v)).map fun k => (n.loads.getD k ld0).amt).sum := fun ks => by
    induction ks with
    | nil => rfl
    | cons k ks ih =>
      have c1 : (k :: ks).filter (fun k => decide ((n.loads.getD k ld0).node ∈ isl)) = if (n.loads.getD k ld0).node ∈ isl then k :: ks.filter (fun k => decide ((n.loads.getD k ld0).node ∈ isl)) else ks.filter (fun k => decide ((n.loads.getD k ld0).node ∈ isl)) := by rw [List.filter_cons]; simp only [decide_eq_true_eq]
      have c2 : (k :: ks).filter (fun k => decide ((n.loads.getD k ld0).node = v)) = if (n.loads.getD k ld0).node = v then k :: ks.filter (fun k => decide ((n.loads.getD k ld0).node = v)) else ks.filter (fun k => decide ((n.loads.getD k ld0).node = v)) := by rw [List.filter_cons]; simp only [decide_eq_true_eq]
      rw [c1, c2]
      by_cases h1 : (n.loads.getD k ld0).node = v
      · have h2 : (n.loads.getD k ld0).node ∈ isl := by rw [h1]; exact hv
        rw [if_pos h1, if_pos h2, List.map_cons, List.map_cons, List.sum_cons, List.sum_cons, ih]
        congr 1
        exact if_pos h1
      · rw [if_neg h1]
        by_cases h2 : (n.loads.getD k ld0).node ∈ isl
        · rw [if_pos h2, List.map_cons, List.sum_cons, ih]
          show (if (n.loads.getD k ld0).node = v then (n.loads.getD k ld0).amt else 0) + _ = _
          rw [if_neg h1, Int.zero_add]
        · rw [if_neg h2]
          exact ih
  exact gen s.fed
def cLFed : List PyData → PyData → Prop := fun ds r => ∃ n s, ∃ v : Nat, ds = [dNet n, dSta s, .int (v : Nat)] ∧ StaOk n s ∧ r = .int (fedV n s v)
abbrev s_law_fed : Stmt := topS 37
abbrev N_law_fed : List Str := ["_law_net", "_law_state_here", "_law_node", "_law_k"]
theorem sc_law_fed : FnScope N_law_fed ["_law_net", "_law_state_here", "_law_node"] (defScope s_law_fed) := ⟨rfl, rfl, rfl, by decide +kernel, rfl, by decide +kernel, by decide +kernel⟩
theorem w_law_fed (T : Txt K mg CT CI) (D : Def K mg "_law_fed" s_law_fed ["_law_net", "_law_state_here", "_law_node"]) : Cal P w K mg base "_law_fed" 1 ["_law_net", "_law_state_here", "_law_node"] (ctr K (pur cLFed)) := by
  refine D.cal sc_law_fed (fun ss ms M R ⟨ds, r, e, _, _, ⟨_, _, _, e2, _⟩, _⟩ => by rw [e, e2]; rfl) fun f cdv A outer s H vs Q E hr => ?_
  refine ⟨_, pss_one (ps_ret (pe_callB (cr_sum rfl) (by rfl) T.b_sum (by decide +kernel) (pa_cons (pe_lc (own := [("_law_k", 3)]) (g := gName 3) (tt := _) rfl sc_law_fed.nd (pi_tup (pe_ix ix_tup (pv 1) (pe_int) (fun _ _ => rfl))) (blkOk_by (N := N_law_fed) (sc := defScope s_law_fed) (by decide +kernel)) (fun _ _ _ _ _ => pg_name (i := 3) sc_law_fed.nd rfl (Or.inl rfl)) (fun _ _ _ _ _ => pts_one (pt_cmpR op_eq (pe_ix (ix_tupK K) (pe_ix (ix_listK K) (pe_ix (ix_tupK K) (pv 0) (pe_int) (fun _ _ => rfl)) (pv 3) (fun _ _ => rfl)) (pe_int) (fun _ _ => rfl)) (pv 2) (nomark _))) (fun _ _ _ _ _ => pe_ix (ix_tupK K) (pe_ix (ix_listK K) (pe_ix (ix_tupK K) (pv 0) (pe_int) (fun _ _ => rfl)) (pv 3) (fun _ _ => rfl)) (pe_int) (fun _ _ => rfl))) pa_nil))), ?_⟩
  rintro _ _ _ _ ⟨_, _, rfl, rfl, rfl, ⟨n, s, v, rfl, S, rfl⟩, rfl⟩
  refine do_ret (ev_sum (ns := (s.fed.filter fun k => decide ((n.loads.getD k ld0).node = v)).map fun k => (n.loads.getD k ld0).amt) (Ev.dat (EvO.know (en_lcI (ei_tup (ev_ixT (vr 1) ci rfl)) (fun i => decide ((n.loads.getD (s.fed.getD i 0) ld0).node = v)) (fun i => .int (n.loads.getD (s.fed.getD i 0) ld0).amt) (by rw [natI_len]; have := S.fedN; omega) fun i d hd => ?_)) ?_)) rfl
  · rw [natI_get] at hd
    cases q : s.fed[i]? with
    | none => rw [q] at hd; cases hd
    | some k =>
      rw [q] at hd
      have hd' := Option.some.inj hd
      subst hd'
      rw [getD_at q]
      have hk := S.fed k (List.mem_of_getElem? q)
      exact ⟨_, tg_name (by decide), EvB.to (eb_test (ev_eqI (ev_ixT (ev_ixL (ev_ixT (vr 0) ci rfl) (vr 3) (map_at (d := ld0) hk)) ci rfl) (vr 2))) (decide_eq_decide.mpr (by omega)), fun _ => ev_ixT (ev_ixL (ev_ixT (vr 0) ci rfl) (vr 3) (map_at (d := ld0) hk)) ci rfl⟩
  · rw [natI_len]
    unfold dints
    rw [List.map_map]
    congr 1
    exact filt_range s.fed 0 (fun k => decide ((n.loads.getD k ld0).node = v)) (fun k => PyData.int (n.loads.getD k ld0).amt)
end
end Rl
set_option Elab.async false
set_option linter.all false
set_option maxRecDepth 100000
set_option maxHeartbeats 4000000
set_option exponentiation.threshold 10000
/-! the law's cells, draws, gcd, fractions, states. -/
namespace Rl
open PySem L2
/-! the draws, in plain Lean -/
def drw (free : Bool) : List Int → Int → Int → List Int
  | [], _, _ => []
  | l :: ls, r, s => if free && decide (1 < r) then (r % l) :: drw free ls (r / l) s else (((s * 48271 + 11) % 2147483647 * 69621 + 7) % 2147483647 / 13 % l) :: drw free ls r (((s * 48271 + 11) % 2147483647 * 69621 + 7) % 2147483647)
def absI (i : Int) : Int := if i < 0 then -i else i
def drawsF (c : Int) (ls : List Int) : List Int := drw (decide (c < 0) || decide (10 ^ (18 : Int).toNat ≤ c)) ls (absI c) (absI c % 2147483647)
theorem drw_len (f : Bool) : ∀ (ls : List Int) (r s : Int), (drw f ls r s).length = ls.length
  | [], _, _ => rfl
  | l :: ls, r, s => by
    unfold drw
    split
    · rw [List.length_cons, List.length_cons, drw_len f ls]
    · rw [List.length_cons, List.length_cons, drw_len f ls]
theorem drw_in (f : Bool) : ∀ (ls : List Int) (r s : Int) (k : Nat), k < ls.length → 0 < ls.getD k 0 → 0 ≤ (drw f ls r s).getD k 0 ∧ (drw f ls r s).getD k 0 < ls.getD k 0
  | [], _, _, _, h, _ => by cases h
  | l :: ls, r, s, 0, h, p => by
    have p' : 0 < l := p
    unfold drw
    split
    · exact ⟨Int.emod_nonneg _ (by omega), Int.emod_lt_of_pos _ p'⟩
    · exact ⟨Int.emod_nonneg _ (by omega), Int.emod_lt_of_pos _ p'⟩
  | l :: ls, r, s, k + 1, h, p => by
    have h' : k < ls.length := by rw [List.length_cons] at h; omega
    unfold drw
    split
    · exact drw_in f ls _ _ k h' p
    · exact drw_in f ls _ _ k h' p
theorem draws_len {c : Int} {ls : List Int} : (drawsF c ls).length = ls.length := drw_len _ _ _ _
theorem draws_in {c : Int} {ls : List Int} {k : Nat} (h : k < ls.length) (p : 0 < ls.getD k 0) : 0 ≤ (drawsF c ls).getD k 0 ∧ (drawsF c ls).getD k 0 < ls.getD k 0 := drw_in _ _ _ _ _ h p
theorem ints_at {xs : List Int} {k : Nat} (h : k < xs.length) : atI (dints xs) ((k : Nat) : Int) = some (.int (xs.getD k 0)) := map_at (d := (0 : Int)) h
section
variable {P : Program} {w : World} {K : PySem.W.Frag} {mg : Str → Option Value} {base : Heap} {CT CI : Addr}
def cLCell : Ct := fun ss ms M R => ∃ (ns : List Int) (k : Nat), ss = [.scr ns, .dat (.int (k : Nat))] ∧ ms = [] ∧ M = [] ∧ R = fun s _ => s = .dat (.int (ns.getD k 0))
abbrev s_law_cell : Stmt := topS 26
abbrev N_law_cell : List Str := ["_law_script", "_law_k"]
theorem sc_law_cell : FnScope N_law_cell ["_law_script", "_law_k"] (defScope s_law_cell) := ⟨rfl, rfl, rfl, by decide +kernel, rfl, by decide +kernel, by decide +kernel⟩
theorem w_law_cell (T : Txt K mg CT CI) (D : Def K mg "_law_cell" s_law_cell ["_law_script", "_law_k"]) : Cal P w K mg base "_law_cell" 1 ["_law_script", "_law_k"] (ctr K cLCell) := by
  refine D.cal sc_law_cell (fun ss ms M R ⟨_, _, e, _⟩ => by rw [e]; rfl) fun f cdv A outer s H vs Q E hr => ?_
  refine ⟨_, pss_cons (ps_if (pt_cmpR op_lt (pv 1) (pe_callB call_len_seq (by rfl) T.b_len (by decide +kernel) (pa_cons (pv 0) pa_nil)) (nomark _))
      (pss_one (ps_ret (pe_callTy call_int1 (by rfl) T.b_int (by decide +kernel) (pa_cons (pe_ix ix_list (pv 0) (pv 1) (fun _ _ => rfl)) pa_nil))))
      (pss_nil))
    (pss_one (ps_ret (pe_int))), ?_⟩
  rintro _ _ _ _ ⟨ns, k, rfl, rfl, rfl, rfl⟩
  refine do_seq (do_if (b := decide (k < ns.length)) (EvB.to (eb_test (ev_lt (vr 1) (ev_lenS (vr 0)))) (decide_eq_decide.mpr (by omega))) (fun hb => ?_) (fun hb => Do.next ?_))
  · have h := of_decide_eq_true hb
    refine do_ret (ev_intI (ev_ixS (vr 0) (vr 1) ?_)) rfl
    have e : ixN ns.length ((k : Nat) : Int) = some k := by
      unfold ixN
      rw [if_pos (by omega), if_pos (by omega)]
      simp
    unfold atI
    rw [e]
    show ns[k]? = _
    rw [List.getElem?_eq_getElem h, getD_at (List.getElem?_eq_getElem h)]
  · have h := of_decide_eq_false hb
    refine do_ret (ci.dat ?_) rfl
    rw [List.getD_eq_getElem?_getD, List.getElem?_eq_none (by omega)]
    rfl
theorem mulSmall31 {x y : Int} (h0 : 0 ≤ x) (h1 : x < 2147483647) (h2 : y.natAbs < 2 ^ 60) : CMulW x y := wide_mul (a := 60) (b := 60) (by omega) h2 (by decide) (by decide) (by decide)
def cLDraws : List PyData → PyData → Prop := fun ds r => ∃ c ls, ds = [.int c, .list (dints ls)] ∧ ls.length ≤ 100 ∧ (∀ l ∈ ls, 0 < l ∧ l.natAbs < 2 ^ 60) ∧ r = .list (dints (drawsF c ls))
theorem drw_step {f : Bool} {ls : List Int} {i : Nat} (h : i < ls.length) (r s : Int) : drw f (ls.drop i) r s = if f && decide (1 < r) then (r % ls.getD i 0) :: drw f (ls.drop (i + 1)) (r / ls.getD i 0) s else (((s * 48271 + 11) % 2147483647 * 69621 + 7) % 2147483647 / 13 % ls.getD i 0) :: drw f (ls.drop (i + 1)) r (((s * 48271 + 11) % 2147483647 * 69621 + 7) % 2147483647) := by
  rw [List.drop_eq_getElem_cons h, getD_at (List.getElem?_eq_getElem h)]
  rfl
abbrev s_law_draws : Stmt := topS 27
abbrev N_law_draws : List Str := ["_law_cell_here", "_law_limits", "_law_found", "_law_rest", "_law_state_here", "_law_free", "_law_limit"]
theorem sc_law_draws : FnScope N_law_draws ["_law_cell_here", "_law_limits"] (defScope s_law_draws) := ⟨rfl, rfl, rfl, by decide +kernel, rfl, by decide +kernel, by decide +kernel⟩
theorem w_law_draws (T : Txt K mg CT CI) (D : Def K mg "_law_draws" s_law_draws ["_law_cell_here", "_law_limits"]) : Cal P w K mg base "_law_draws" 1 ["_law_cell_here", "_law_limits"] (ctr K (pur cLDraws)) := by
  refine D.cal sc_law_draws (fun ss ms M R ⟨ds, r, e, _, _, ⟨_, _, e2, _⟩, _⟩ => by rw [e, e2]; rfl) fun f cdv A outer s H vs Q E hr => ?_
  refine ⟨_, pss_cons (ps_set (i := 2) sc_law_draws.nd rfl (Or.inl rfl) (pe_lst pa_nil))
    (pss_cons (ps_set (i := 3) sc_law_draws.nd rfl (Or.inl rfl) (pe_callB call_abs (by rfl) T.b_abs (by decide +kernel) (pa_cons (pe_callTy call_int1 (by rfl) T.b_int (by decide +kernel) (pa_cons (pv 0) pa_nil)) pa_nil)))
    (pss_cons (ps_set (i := 4) sc_law_draws.nd rfl (Or.inl rfl) (pe_op op_mod (pe_callTy call_int1 (by rfl) T.b_int (by decide +kernel) (pa_cons (pv 3) pa_nil)) (pe_int)))
    (pss_cons (ps_set (i := 5) sc_law_draws.nd rfl (Or.inl rfl) (pe_or (pe_cmpR op_lt (pv 0) (pe_int) (nomark _)) (pe_one (pe_cmpR op_ge (pv 0) (pe_op op_pow (pe_int) (pe_int)) (nomark _)))))
    (pss_cons (ps_for PassesOwn.never rfl (pi_list (pv 1)) (pg_name (i := 6) sc_law_draws.nd rfl (Or.inl rfl))
      (pss_one (ps_if (PW.pt (pw_and (pt_val (pv 5)) (pw_and1 (pt_cmpR op_gt (pv 3) (pe_int) (nomark _)))))
        (pss_cons (ps_expr (pe_bm PySem.F.plainAttrs_list PySem.F.slot_list_append PySem.F.type_list_append mt_append (pv 2) (pa_cons (pe_op op_mod (pe_callTy call_int1 (by rfl) T.b_int (by decide +kernel) (pa_cons (pv 3) pa_nil)) (pv 6)) pa_nil)))
        (pss_one (ps_set (i := 3) sc_law_draws.nd rfl (Or.inl rfl) (pe_op op_fdivW (pv 3) (pv 6)))))
        (pss_cons (ps_set (i := 4) sc_law_draws.nd rfl (Or.inl rfl) (pe_op op_mod (pe_callTy call_int1 (by rfl) T.b_int (by decide +kernel) (pa_cons (pe_op op_add (pe_op op_mulW (pv 4) (pe_int)) (pe_int)) pa_nil)) (pe_int)))
        (pss_cons (ps_set (i := 4) sc_law_draws.nd rfl (Or.inl rfl) (pe_op op_mod (pe_callTy call_int1 (by rfl) T.b_int (by decide +kernel) (pa_cons (pe_op op_add (pe_op op_mulW (pv 4) (pe_int)) (pe_int)) pa_nil)) (pe_int)))
        (pss_one (ps_expr (pe_bm PySem.F.plainAttrs_list PySem.F.slot_list_append PySem.F.type_list_append mt_append (pv 2) (pa_cons (pe_op op_mod (pe_callTy call_int1 (by rfl) T.b_int (by decide +kernel) (pa_cons (pe_op op_fdivW (pv 4) (pe_int)) pa_nil)) (pv 6)) pa_nil)))))))))
    (pss_one (ps_ret (pv 2))))))), ?_⟩
  rintro _ _ _ _ ⟨_, _, rfl, rfl, rfl, ⟨c, ls, rfl, hl, hp, rfl⟩, rfl⟩
  refine do_seq (do_asgN (en_lst (ds := []) ea_nil) fun q _ => ?_)
  refine do_seq (do_asg (s := .dat (.int (absI c))) (ev_abs (ev_intI (vr 0))) ?_)
  refine do_seq (do_asg (ev_mod (ev_intI (vr 3)) ci (by decide)) ?_)
  refine do_seq (do_asg (ev_or (ev_lt (vr 0) ci) (fun _ => ev_ge (vr 0) (ev_pow ci ci ⟨by decide, by decide, by decide⟩))) ?_)
  obtain ⟨fr, hfr⟩ : ∃ fr, fr = (decide (c < 0) || decide (10 ^ (18 : Int).toNat ≤ c)) := ⟨_, rfl⟩
  have hD : drawsF c ls = drw fr ls (absI c) (absI c % 2147483647) := by rw [hfr]; rfl
  show Do K _ [.dat (.int c), .dat (.list (dints ls)), .ref q, .dat (.int (absI c)), .dat (.int (absI c % 2147483647)), .dat (.bool (decide (c < 0) || decide (10 ^ (18 : Int).toNat ≤ c))), .un] [⟨q, .nw, .lst []⟩] _
  rw [← hfr]
  refine do_seq (do_forR (n := ls.length) ((ei_list (vr 1)).to (dints_of ls)) (fun i ε ms => ∃ acc r s, 0 ≤ s ∧ s < 2147483647 ∧ acc.length = i ∧ acc ++ drw fr (ls.drop i) r s = drawsF c ls ∧ ms = [⟨q, .nw, .lst (dints acc)⟩] ∧ ∃ x6, ε = [.dat (.int c), .dat (.list (dints ls)), .ref q, .dat (.int r), .dat (.int s), .dat (.bool fr), x6]) [6] ?_ ?_ ?_)
  · refine ⟨[], absI c, absI c % 2147483647, Int.emod_nonneg _ (by decide), Int.emod_lt_of_pos _ (by decide), rfl, hD.symm, rfl, _, rfl⟩
  · rintro i _ _ hi ⟨acc, r, s, s0, s1, la, hA, rfl, x6, rfl⟩
    refine ⟨_, tg_name (by decide), ?_⟩
    obtain ⟨l, hlk⟩ : ∃ l, l = ls.getD i 0 := ⟨_, rfl⟩
    have pl := hp l (by rw [hlk]; exact getD_mem hi)
    rw [drw_step hi, ← hlk] at hA
    rw [← hlk]
    refine do_if (b := fr && decide (1 < r)) (eb_and (eb_B (vr 5)) (fun _ => eb_test (ev_gt (vr 3) ci))) (fun hb => ?_) (fun hb => ?_)
    · rw [if_pos hb] at hA
      refine do_seq (do_app (vr 2) mem0 nofun (ev_mod (ev_intI (vr 3)) (vr 6) pl.1) (by rw [List.length_map]; omega) ?_)
      rw [setMo_0]
      refine do_asg (ev_div (vr 3) (vr 6) (wide_div pl.1 pl.2 (by decide) (by decide))) ⟨acc ++ [r % l], r / l, s, s0, s1, by rw [List.length_append, la]; rfl, by rw [List.append_assoc]; exact hA, by rw [dints_app], _, rfl⟩
    · rw [if_neg (by rw [hb]; exact Bool.false_ne_true)] at hA
      have m1 : CMulW s 48271 := mulSmall31 s0 s1 (by decide)
      refine do_seq (do_asg (ev_mod (ev_intI (ev_add (ev_mul (vr 4) ci m1) ci)) ci (by decide)) ?_)
      have t0 : 0 ≤ (s * 48271 + 11) % 2147483647 := Int.emod_nonneg _ (by decide)
      have t1 : (s * 48271 + 11) % 2147483647 < 2147483647 := Int.emod_lt_of_pos _ (by decide)
      refine do_seq (do_asg (ev_mod (ev_intI (ev_add (ev_mul (vr 4) ci (mulSmall31 t0 t1 (by decide))) ci)) ci (by decide)) ?_)
      refine do_app (vr 2) mem0 nofun (ev_mod (ev_intI (ev_div (vr 4) ci (wide_div (b := 10) (by decide) (by decide) (by decide) (by decide)))) (vr 6) pl.1) (by rw [List.length_map]; omega) ?_
      rw [setMo_0]
      exact ⟨acc ++ [((s * 48271 + 11) % 2147483647 * 69621 + 7) % 2147483647 / 13 % l], r, ((s * 48271 + 11) % 2147483647 * 69621 + 7) % 2147483647, Int.emod_nonneg _ (by decide), Int.emod_lt_of_pos _ (by decide), by rw [List.length_append, la]; rfl, by rw [List.append_assoc]; exact hA, by rw [dints_app], _, rfl⟩
  rintro _ _ ⟨acc, r, s, s0, s1, la, hA, rfl, x6, rfl⟩
  rw [List.drop_length] at hA
  have hA' : acc = drawsF c ls := by rw [← hA]; exact (List.append_nil _).symm
  rw [← hA']
  refine do_fg (ε' := [.un, .un, .ref q, .un, .un, .un, .un]) (by (repeat (first | exact Fg.nil | apply Fg.un | apply Fg.eq))) ?_
  refine do_freeze (a := q) mem0 ?_
  rw [without_hit, without_nil]
  simp only [asDat_nil, asDat_un, asDat_dat, asDat_hit]
  exact do_ret (vr 2) rfl
/-! the gcd -/
def cLGcd : List PyData → PyData → Prop := fun ds r => ∃ a b : Int, ds = [.int a, .int b] ∧ a.natAbs < 2 ^ 9000 ∧ b.natAbs < 2 ^ 9000 ∧ r = .int (Int.gcd a b : Int)
theorem absI_eq (i : Int) : absI i = (i.natAbs : Int) := by unfold absI; split <;> omega
theorem bits_lt (x : Int) : x.natAbs < 2 ^ Builtin.Int.intBits x := by
  unfold Builtin.Int.intBits
  by_cases z : x = 0
  · subst z; decide
  · rw [if_neg (by simpa using z)]
    exact Nat.lt_log2_self
theorem bits_le {x : Int} {m : Nat} (h : x.natAbs < 2 ^ m) : Builtin.Int.intBits x ≤ m := by
  unfold Builtin.Int.intBits
  by_cases z : x = 0
  · subst z; exact Nat.zero_le _
  · rw [if_neg (by simpa using z)]
    exact (Nat.log2_lt (by omega)).mpr h
abbrev s_law_gcd : Stmt := topS 28
abbrev N_law_gcd : List Str := ["_law_a", "_law_b", "_law_k", "_law_rest"]
theorem sc_law_gcd : FnScope N_law_gcd ["_law_a", "_law_b"] (defScope s_law_gcd) := ⟨rfl, rfl, rfl, by decide +kernel, rfl, by decide +kernel, by decide +kernel⟩
theorem w_law_gcd (T : Txt K mg CT CI) (D : Def K mg "_law_gcd" s_law_gcd ["_law_a", "_law_b"]) : Cal P w K mg base "_law_gcd" 1 ["_law_a", "_law_b"] (ctr K (pur cLGcd)) := by
  refine D.cal sc_law_gcd (fun ss ms M R ⟨ds, r, e, _, _, ⟨_, _, e2, _⟩, _⟩ => by rw [e, e2]; rfl) fun f cdv A outer s H vs Q E hr => ?_
  refine ⟨_, pss_cons (ps_set (i := 0) sc_law_gcd.nd rfl (Or.inl rfl) (pe_callB call_abs (by rfl) T.b_abs (by decide +kernel) (pa_cons (pv 0) pa_nil)))
    (pss_cons (ps_set (i := 1) sc_law_gcd.nd rfl (Or.inl rfl) (pe_callB call_abs (by rfl) T.b_abs (by decide +kernel) (pa_cons (pv 1) pa_nil)))
    (pss_cons (ps_for PassesOwn.never rfl (pi_range1 (by rfl) T.b_range (pa_cons (pe_op op_add (pe_op op_add (pe_bits (pv 0)) (pe_bits (pv 1))) (pe_int)) pa_nil)) (pg_name (i := 2) sc_law_gcd.nd rfl (Or.inl rfl))
      (pss_cons (ps_if (pt_cmpR op_eq (pv 1) (pe_int) (nomark _))
        (pss_one (ps_ret (pv 0)))
        (pss_nil))
      (pss_cons (ps_set (i := 3) sc_law_gcd.nd rfl (Or.inl rfl) (pe_op op_mod (pe_callTy call_int1 (by rfl) T.b_int (by decide +kernel) (pa_cons (pv 0) pa_nil)) (pv 1)))
      (pss_cons (ps_set (i := 0) sc_law_gcd.nd rfl (Or.inl rfl) (pv 1))
      (pss_one (ps_set (i := 1) sc_law_gcd.nd rfl (Or.inl rfl) (pv 3)))))))
    (pss_one (ps_ret (pv 0))))), ?_⟩
  rintro _ _ _ _ ⟨_, _, rfl, rfl, rfl, ⟨a, b, rfl, za, zb, rfl⟩, rfl⟩
  refine do_seq (do_asg (s := .dat (.int (absI a))) (ev_abs (vr 0)) ?_)
  refine do_seq (do_asg (s := .dat (.int (absI b))) (ev_abs (vr 1)) ?_)
  have ea := absI_eq a
  have eb := absI_eq b
  obtain ⟨n, hn⟩ : ∃ n, n = Builtin.Int.intBits (absI a) + Builtin.Int.intBits (absI b) := ⟨_, rfl⟩
  have n1 : n ≤ 18000 := by
    have := bits_le (x := absI a) (m := 9000) (by rw [ea]; exact za)
    have := bits_le (x := absI b) (m := 9000) (by rw [eb]; exact zb)
    omega
  have hg : euc (n + 4) (absI a) (absI b) = (Int.gcd a b : Int) := by
    have h1 := bits_lt (absI a)
    have h2 := bits_lt (absI b)
    have q := euc_more n 2 (absI a) (absI b) (by rw [ea]; omega) (by rw [eb]; omega) (by
      rw [hn, Int.pow_add, ea, eb]
      rw [ea] at h1
      rw [eb] at h2
      have h3 : (a.natAbs : Int).natAbs * (b.natAbs : Int).natAbs < 2 ^ Builtin.Int.intBits (a.natAbs : Int) * 2 ^ Builtin.Int.intBits (b.natAbs : Int) := Nat.mul_lt_mul'' h1 h2
      have h4 : ((a.natAbs * b.natAbs : Nat) : Int) < ((2 ^ Builtin.Int.intBits (a.natAbs : Int) * 2 ^ Builtin.Int.intBits (b.natAbs : Int) : Nat) : Int) := Int.ofNat_lt.mpr h3
      push_cast at h4
      exact h4)
    rw [show n + 2 + 2 = n + 4 by omega] at q
    rw [q, ea, eb]
    unfold Int.gcd
    rw [Int.natAbs_natCast, Int.natAbs_natCast]
  refine do_seq (do_forR (n := n + 4) (ei_range (n := n + 4) (ea1 (Ev.dat (e := .int ((n + 4 : Nat) : Int)) (ev_add (ev_add (ev_bits (vr 0)) (ev_bits (vr 1))) ci) (by congr 1; omega))) (by omega)) (fun i ε ms => ∃ x y, 0 ≤ x ∧ 0 ≤ y ∧ euc (n + 4 - i) x y = (Int.gcd a b : Int) ∧ ms = [] ∧ ∃ x2 x3, ε = [.dat (.int x), .dat (.int y), x2, x3]) [2] ?_ ?_ ?_)
  · exact ⟨absI a, absI b, by rw [ea]; omega, by rw [eb]; omega, hg, rfl, _, _, rfl⟩
  · rintro i _ _ hi ⟨x, y, hx, hy, he, rfl, x2, x3, rfl⟩
    refine ⟨_, tg_name (by decide), ?_⟩
    refine do_seq (do_if (b := decide (y = 0)) (eb_test (ev_eqI (vr 1) ci)) (fun hb => ?_) (fun hb => Do.next ?_))
    · have z := of_decide_eq_true hb
      rw [z, euc_stay] at he
      exact do_ret (vr 0) (by rw [he]; rfl)
    · have z := of_decide_eq_false hb
      refine do_seq (do_asg (ev_mod (ev_intI (vr 0)) (vr 1) (by omega)) ?_)
      refine do_seq (do_asg (vr 1) ?_)
      refine do_asg (vr 3) ⟨y, x % y, hy, Int.emod_nonneg _ z, ?_, rfl, _, _, rfl⟩
      rw [show n + 4 - i = (n + 4 - (i + 1)) + 1 by omega] at he
      unfold euc at he
      rw [if_neg z] at he
      exact he
  rintro _ _ ⟨x, y, hx, hy, he, rfl, x2, x3, rfl⟩
  rw [Nat.sub_self] at he
  exact do_ret (vr 0) (by rw [← he]; rfl)
def cLFrac : List PyData → PyData → Prop := fun ds r => ∃ a b : Int, ds = [.int a, .int b] ∧ 0 < b ∧ a.natAbs < 2 ^ 9000 ∧ b.natAbs < 2 ^ 9000 ∧ r = dF (fr a b)
theorem pow_2000_9000 : (2 : Nat) ^ 2000 < 2 ^ 9000 := Nat.pow_lt_pow_right (by decide) (by decide)
theorem mul4 {x y : Int} (h1 : x.natAbs < 2 ^ 2000) (h2 : y.natAbs < 2 ^ 2000) : (x * y).natAbs < 2 ^ 4000 := by
  rw [Int.natAbs_mul, show (4000 : Nat) = 2000 + 2000 from rfl, Nat.pow_add]
  exact Nat.mul_lt_mul'' h1 h2
theorem mul9 {x y : Int} (h1 : x.natAbs < 2 ^ 2000) (h2 : y.natAbs < 2 ^ 2000) : (x * y).natAbs < 2 ^ 9000 := Nat.lt_trans (mul4 h1 h2) (Nat.pow_lt_pow_right (by decide) (by decide))
theorem sum9 {x y : Int} (h1 : x.natAbs < 2 ^ 4000) (h2 : y.natAbs < 2 ^ 4000) : (x + y).natAbs < 2 ^ 9000 := by
  have h3 := Int.natAbs_add_le x y
  have h4 : (2 : Nat) ^ 4001 = 2 ^ 4000 * 2 := Nat.pow_succ 2 4000
  have h5 : (2 : Nat) ^ 4001 < 2 ^ 9000 := Nat.pow_lt_pow_right (by decide) (by decide)
  generalize (2 : Nat) ^ 4000 = A at *
  generalize (2 : Nat) ^ 4001 = B at *
  generalize (2 : Nat) ^ 9000 = C at *
  omega
abbrev s_law_fraction : Stmt := topS 29
abbrev N_law_fraction : List Str := ["_law_top", "_law_low", "_law_common"]
theorem sc_law_fraction : FnScope N_law_fraction ["_law_top", "_law_low"] (defScope s_law_fraction) := ⟨rfl, rfl, rfl, by decide +kernel, rfl, by decide +kernel, by decide +kernel⟩
theorem w_law_fraction (T : Txt K mg CT CI) (D : Def K mg "_law_fraction" s_law_fraction ["_law_top", "_law_low"]) (c__law_gcd : Cal P w K mg base "_law_gcd" 1 ["_law_a", "_law_b"] (ctr K (pur cLGcd))) : Cal P w K mg base "_law_fraction" 2 ["_law_top", "_law_low"] (ctr K (pur cLFrac)) := by
  refine D.cal sc_law_fraction (fun ss ms M R ⟨ds, r, e, _, _, ⟨_, _, e2, _⟩, _⟩ => by rw [e, e2]; rfl) fun f cdv A outer s H vs Q E hr => ?_
  refine ⟨_, pss_cons (ps_set (i := 2) sc_law_fraction.nd rfl (Or.inl rfl) (pe_callC c__law_gcd hr (by rfl) (pa_cons (pv 0) (pa_cons (pv 1) pa_nil))))
    (pss_cons (ps_if (pt_cmpR op_lt (pv 1) (pe_int) (nomark _))
      (pss_one (ps_set (i := 2) sc_law_fraction.nd rfl (Or.inl rfl) (pe_un un_neg (pv 2))))
      (pss_nil))
    (pss_one (ps_ret (pe_tup (pa_cons (pe_op op_fdivW (pv 0) (pv 2)) (pa_cons (pe_op op_fdivW (pv 1) (pv 2)) pa_nil)))))), ?_⟩
  rintro _ _ _ _ ⟨_, _, rfl, rfl, rfl, ⟨a, b, rfl, hb, za, zb, rfl⟩, rfl⟩
  have g0 := gcd_pos (N := a) hb
  have gl : (Int.gcd a b : Int).natAbs < 2 ^ 9000 := by
    have : Int.gcd a b ≤ b.natAbs := Nat.le_of_dvd (by omega) (Nat.gcd_dvd_right _ _)
    rw [Int.natAbs_natCast]
    omega
  refine do_seq (do_asg (ev_call (ds := [_, _]) (ea_cons (vr 0) (ea1 (vr 1))) ⟨a, b, rfl, za, zb, rfl⟩) ?_)
  refine do_seq (do_if (b := false) (EvB.to (eb_test (ev_lt (vr 1) ci)) (decide_eq_false (by omega))) (fun hb => nomatch hb) (fun _ => Do.next ?_))
  exact do_ret (ev_tup (ds := [_, _]) (ea_cons (ev_div (vr 0) (vr 2) (wide_div g0 gl (by decide) (by decide))) (ea1 (ev_div (vr 1) (vr 2) (wide_div g0 gl (by decide) (by decide)))))) rfl
abbrev s_law_plus : Stmt := topS 30
abbrev N_law_plus : List Str := ["_law_first", "_law_second"]
theorem sc_law_plus : FnScope N_law_plus ["_law_first", "_law_second"] (defScope s_law_plus) := ⟨rfl, rfl, rfl, by decide +kernel, rfl, by decide +kernel, by decide +kernel⟩
theorem w_law_plus (T : Txt K mg CT CI) (D : Def K mg "_law_plus" s_law_plus ["_law_first", "_law_second"]) (c__law_fraction : Cal P w K mg base "_law_fraction" 2 ["_law_top", "_law_low"] (ctr K (pur cLFrac))) : Cal P w K mg base "_law_plus" 3 ["_law_first", "_law_second"] (ctr K (pur cPlus)) := by
  refine D.cal sc_law_plus (fun ss ms M R ⟨ds, r, e, _, _, ⟨_, _, e2, _⟩, _⟩ => by rw [e, e2]; rfl) fun f cdv A outer s H vs Q E hr => ?_
  refine ⟨_, pss_one (ps_ret (pe_callC c__law_fraction hr (by rfl) (pa_cons (pe_op op_add (pe_op op_mulW (pe_ix ix_tup (pv 0) (pe_int) (fun _ _ => rfl)) (pe_ix ix_tup (pv 1) (pe_int) (fun _ _ => rfl))) (pe_op op_mulW (pe_ix ix_tup (pv 1) (pe_int) (fun _ _ => rfl)) (pe_ix ix_tup (pv 0) (pe_int) (fun _ _ => rfl)))) (pa_cons (pe_op op_mulW (pe_ix ix_tup (pv 0) (pe_int) (fun _ _ => rfl)) (pe_ix ix_tup (pv 1) (pe_int) (fun _ _ => rfl))) pa_nil)))), ?_⟩
  rintro _ _ _ _ ⟨_, _, rfl, rfl, rfl, ⟨p, q, rfl, hp, hq, sp, sq, rfl⟩, rfl⟩
  exact do_ret (ev_call (ds := [_, _]) (ea_cons (ev_add (ev_mul (ev_ixT (vr 0) ci rfl) (ev_ixT (vr 1) ci rfl) (szm sp.1 sq.2)) (ev_mul (ev_ixT (vr 1) ci rfl) (ev_ixT (vr 0) ci rfl) (szm sq.1 sp.2))) (ea1 (ev_mul (ev_ixT (vr 0) ci rfl) (ev_ixT (vr 1) ci rfl) (szm sp.2 sq.2))))
    ⟨_, _, rfl, Int.mul_pos hp hq, sum9 (mul4 sp.1 sq.2) (mul4 sq.1 sp.2), mul9 sp.2 sq.2, rfl⟩) rfl
def cLScaled : List PyData → PyData → Prop := fun ds r => ∃ (p : Int × Int) (k : Int), ds = [dF p, .int k] ∧ 0 < p.2 ∧ k.natAbs < 2 ^ 2000 ∧ Sz 2000 p ∧ r = dF (fr (p.1 * k) p.2)
abbrev s_law_scaled : Stmt := topS 39
abbrev N_law_scaled : List Str := ["_law_first", "_law_number"]
theorem sc_law_scaled : FnScope N_law_scaled ["_law_first", "_law_number"] (defScope s_law_scaled) := ⟨rfl, rfl, rfl, by decide +kernel, rfl, by decide +kernel, by decide +kernel⟩
theorem w_law_scaled (T : Txt K mg CT CI) (D : Def K mg "_law_scaled" s_law_scaled ["_law_first", "_law_number"]) (c__law_fraction : Cal P w K mg base "_law_fraction" 2 ["_law_top", "_law_low"] (ctr K (pur cLFrac))) : Cal P w K mg base "_law_scaled" 3 ["_law_first", "_law_number"] (ctr K (pur cLScaled)) := by
  refine D.cal sc_law_scaled (fun ss ms M R ⟨ds, r, e, _, _, ⟨_, _, e2, _⟩, _⟩ => by rw [e, e2]; rfl) fun f cdv A outer s H vs Q E hr => ?_
  refine ⟨_, pss_one (ps_ret (pe_callC c__law_fraction hr (by rfl) (pa_cons (pe_op op_mulW (pe_ix ix_tup (pv 0) (pe_int) (fun _ _ => rfl)) (pv 1)) (pa_cons (pe_ix ix_tup (pv 0) (pe_int) (fun _ _ => rfl)) pa_nil)))), ?_⟩
  rintro _ _ _ _ ⟨_, _, rfl, rfl, rfl, ⟨p, k, rfl, hp, hk, sp, rfl⟩, rfl⟩
  exact do_ret (ev_call (ds := [_, _]) (ea_cons (ev_mul (ev_ixT (vr 0) ci rfl) (vr 1) (szm sp.1 hk)) (ea1 (ev_ixT (vr 0) ci rfl))) ⟨_, _, rfl, hp, mul9 sp.1 hk, Nat.lt_trans sp.2 pow_2000_9000, rfl⟩) rfl
/-! the states -/
def someF (c : Int) (count : Nat) (often : Int) : List Nat := (List.range count).filter fun k => decide ((drawsF c (List.replicate count 5)).getD k 0 < often)
theorem some_mem {c : Int} {count : Nat} {often : Int} {k : Nat} (h : k ∈ someF c count often) : k < count := List.mem_range.mp (List.mem_filter.mp h).1
theorem some_len {c : Int} {count : Nat} {often : Int} : (someF c count often).length ≤ count := Nat.le_trans (List.length_filter_le _ _) (by rw [List.length_range]; exact Nat.le_refl _)
def stateF (c : Int) (n : Net) : Sta :=
  let d := drawsF c [10 ^ 6, 10 ^ 6, 10 ^ 6, 4]
  let o := ([4, 3, 4, 2] : List Int).getD (d.getD 3 0).toNat 0
  ⟨someF (d.getD 0 0) n.lines.length o, someF (d.getD 1 0) n.stations.length o, someF (d.getD 2 0) n.loads.length 2⟩
theorem state_ok {c : Int} {n : Net} (N : NetOk n) : StaOk n (stateF c n) :=
  ⟨fun _ h => some_mem h, fun _ h => some_mem h, fun _ h => some_mem h, Nat.le_trans some_len N.lines, Nat.le_trans some_len N.stations, Nat.le_trans some_len N.loads⟩
def cLSome : List PyData → PyData → Prop := fun ds r => ∃ (c : Int) (count : Nat) (often : Int), ds = [.int c, .int (count : Nat), .int often] ∧ count ≤ 100 ∧ r = dNatsT (someF c count often)
abbrev s_law_some : Stmt := topS 31
abbrev N_law_some : List Str := ["_law_cell_here", "_law_count", "_law_often", "_law_draws_here", "_law_k"]
theorem sc_law_some : FnScope N_law_some ["_law_cell_here", "_law_count", "_law_often"] (defScope s_law_some) := ⟨rfl, rfl, rfl, by decide +kernel, rfl, by decide +kernel, by decide +kernel⟩
theorem w_law_some (T : Txt K mg CT CI) (D : Def K mg "_law_some" s_law_some ["_law_cell_here", "_law_count", "_law_often"]) (c__law_draws : Cal P w K mg base "_law_draws" 1 ["_law_cell_here", "_law_limits"] (ctr K (pur cLDraws))) : Cal P w K mg base "_law_some" 2 ["_law_cell_here", "_law_count", "_law_often"] (ctr K (pur cLSome)) := by
  refine D.cal sc_law_some (fun ss ms M R ⟨ds, r, e, _, _, ⟨_, _, _, e2, _⟩, _⟩ => by rw [e, e2]; rfl) fun f cdv A outer s H vs Q E hr => ?_
  refine ⟨_, pss_cons (ps_set (i := 3) sc_law_some.nd rfl (Or.inr rfl) (pe_callC c__law_draws hr (by rfl) (pa_cons (pv 0) (pa_cons (pe_op op_rep (pe_lst (pa_cons (pe_int) pa_nil)) (pv 1)) pa_nil))))
    (pss_one (ps_ret (pe_callTy call_tuple_of (by rfl) T.b_tuple (by decide +kernel) (pa_cons (pe_lc (own := [("_law_k", 4)]) (g := gName 4) (tt := _) rfl sc_law_some.nd (pi_range1 (by rfl) T.b_range (pa_cons (pv 1) pa_nil)) (blkOk_by (N := N_law_some) (sc := defScope s_law_some) (by decide +kernel)) (fun _ _ _ _ _ => pg_name (i := 4) sc_law_some.nd rfl (Or.inl rfl)) (fun _ _ _ _ _ => pts_one (pt_cmpR op_lt (pe_ix (ix_listK K) (pv 3) (pv 4) (fun _ _ => rfl)) (pv 2) (nomark _))) (fun _ _ _ _ _ => pv 4)) pa_nil)))), ?_⟩
  rintro _ _ _ _ ⟨_, _, rfl, rfl, rfl, ⟨c, count, often, rfl, hc, rfl⟩, rfl⟩
  refine do_seq (do_asg (s := .dat (.list (dints (drawsF c (List.replicate count 5))))) (ev_call (ds := [_, .list (dints (List.replicate count 5))]) (ea_cons (vr 0) (ea1 (Ev.dat (EvO.know (en_rep1 (n := count) (EvO.know (en_lst (ds := [_]) (ea1 ci))) (vr 1) (by omega))) ?_))) ⟨c, _, rfl, by rw [List.length_replicate]; exact hc, fun l hl => by rw [List.eq_of_mem_replicate hl]; exact ⟨by decide, by decide⟩, rfl⟩) ?_)
  · unfold dints; rw [List.map_replicate]
  refine do_ret (Ev.dat (ev_tupleOf (EvO.know (en_lcI (ei_range (n := count) (ea1 (vr 1)) (by omega)) (fun k => decide ((drawsF c (List.replicate count 5)).getD k 0 < often)) (fun k => .int (k : Nat)) (by rw [rg_len]; omega) fun k d hd => ?_))) ?_) rfl
  · obtain ⟨hk, rfl⟩ := rg_get hd
    exact ⟨_, tg_name (by decide), eb_test (ev_lt (ev_ixL (vr 3) (vr 4) (ints_at (by rw [draws_len, List.length_replicate]; exact hk))) (vr 2)), fun _ => vr 4⟩
  · rw [rg_len]
    unfold dNatsT natI dints
    rw [List.map_map]
    rfl
def cLState : List PyData → PyData → Prop := fun ds r => ∃ (c : Int) (n : Net), ds = [.int c, dNet n] ∧ NetOk n ∧ r = dSta (stateF c n)
abbrev s_law_state : Stmt := topS 32
abbrev N_law_state : List Str := ["_law_cell_here", "_law_net", "_law_draws_here", "_law_often"]
theorem sc_law_state : FnScope N_law_state ["_law_cell_here", "_law_net"] (defScope s_law_state) := ⟨rfl, rfl, rfl, by decide +kernel, rfl, by decide +kernel, by decide +kernel⟩
theorem w_law_state (T : Txt K mg CT CI) (D : Def K mg "_law_state" s_law_state ["_law_cell_here", "_law_net"]) (c__law_draws : Cal P w K mg base "_law_draws" 1 ["_law_cell_here", "_law_limits"] (ctr K (pur cLDraws))) (c__law_some : Cal P w K mg base "_law_some" 2 ["_law_cell_here", "_law_count", "_law_often"] (ctr K (pur cLSome))) :
    Cal P w K mg base "_law_state" 3 ["_law_cell_here", "_law_net"] (ctr K (pur cLState)) := by
  refine D.cal sc_law_state (fun ss ms M R ⟨ds, r, e, _, _, ⟨_, _, e2, _⟩, _⟩ => by rw [e, e2]; rfl) fun f cdv A outer s H vs Q E hr => ?_
  have c__law_draws := c__law_draws.mono (j := 2) (by decide)
  refine ⟨_, pss_cons (ps_set (i := 2) sc_law_state.nd rfl (Or.inl rfl) (pe_callC c__law_draws hr (by rfl) (pa_cons (pv 0) (pa_cons (pe_lst (pa_cons (pe_op op_pow (pe_int) (pe_int)) (pa_cons (pe_op op_pow (pe_int) (pe_int)) (pa_cons (pe_op op_pow (pe_int) (pe_int)) (pa_cons (pe_int) pa_nil))))) pa_nil))))
    (pss_cons (ps_set (i := 3) sc_law_state.nd rfl (Or.inl rfl) (pe_ix ix_list (pe_lst (pa_cons (pe_int) (pa_cons (pe_int) (pa_cons (pe_int) (pa_cons (pe_int) pa_nil))))) (pe_ix ix_list (pv 2) (pe_int) (fun _ _ => rfl)) (fun _ _ => rfl)))
    (pss_one (ps_ret (pe_tup (pa_cons (pe_callC c__law_some hr (by rfl) (pa_cons (pe_ix ix_list (pv 2) (pe_int) (fun _ _ => rfl)) (pa_cons (pe_callB call_len_seq (by rfl) T.b_len (by decide +kernel) (pa_cons (pe_ix ix_tup (pv 1) (pe_int) (fun _ _ => rfl)) pa_nil)) (pa_cons (pv 3) pa_nil)))) (pa_cons (pe_callC c__law_some hr (by rfl) (pa_cons (pe_ix ix_list (pv 2) (pe_int) (fun _ _ => rfl)) (pa_cons (pe_callB call_len_seq (by rfl) T.b_len (by decide +kernel) (pa_cons (pe_ix ix_tup (pv 1) (pe_int) (fun _ _ => rfl)) pa_nil)) (pa_cons (pv 3) pa_nil)))) (pa_cons (pe_callC c__law_some hr (by rfl) (pa_cons (pe_ix ix_list (pv 2) (pe_int) (fun _ _ => rfl)) (pa_cons (pe_callB call_len_seq (by rfl) T.b_len (by decide +kernel) (pa_cons (pe_ix ix_tup (pv 1) (pe_int) (fun _ _ => rfl)) pa_nil)) (pa_cons (pe_int) pa_nil)))) pa_nil))))))), ?_⟩
  rintro _ _ _ _ ⟨_, _, rfl, rfl, rfl, ⟨c, n, rfl, N, rfl⟩, rfl⟩
  obtain ⟨d, hd⟩ : ∃ d, d = drawsF c [10 ^ 6, 10 ^ 6, 10 ^ 6, 4] := ⟨_, rfl⟩
  have dl : d.length = 4 := by rw [hd]; exact draws_len
  have d3 : 0 ≤ d.getD 3 0 ∧ d.getD 3 0 < 4 := by rw [hd]; exact draws_in (k := 3) (by decide) (by decide)
  refine do_seq (do_asg (s := .dat (.list (dints d))) (ev_call (ds := [_, .list (dints [10 ^ 6, 10 ^ 6, 10 ^ 6, 4])]) (ea_cons (vr 0) (ea1 (EvO.know (en_lst (ds := [_, _, _, _]) (ea_cons (ev_pow ci ci ⟨by decide, by decide, by decide⟩) (ea_cons (ev_pow ci ci ⟨by decide, by decide, by decide⟩) (ea_cons (ev_pow ci ci ⟨by decide, by decide, by decide⟩) (ea1 ci)))))))) ⟨c, [10 ^ 6, 10 ^ 6, 10 ^ 6, 4], rfl, by decide, by decide, by rw [hd]⟩) ?_)
  refine do_seq (do_asg (s := .dat (.int (([4, 3, 4, 2] : List Int).getD (d.getD 3 0).toNat 0))) (ev_ixL (ds := dints [4, 3, 4, 2]) (EvO.know (en_lst (ds := [_, _, _, _]) (ea_cons ci (ea_cons ci (ea_cons ci (ea1 ci)))))) (ev_ixL (vr 2) ci (ints_at (k := 3) (by omega))) (at_list d3.1 ?_)) ?_)
  · have := d3.2
    have h4 : (d.getD 3 0).toNat < 4 := by omega
    match (d.getD 3 0).toNat, h4 with
    | 0, _ => rfl
    | 1, _ => rfl
    | 2, _ => rfl
    | 3, _ => rfl
  have e : dSta (stateF c n) = .tuple [dNatsT (someF (d.getD 0 0) n.lines.length (([4, 3, 4, 2] : List Int).getD (d.getD 3 0).toNat 0)), dNatsT (someF (d.getD 1 0) n.stations.length (([4, 3, 4, 2] : List Int).getD (d.getD 3 0).toNat 0)), dNatsT (someF (d.getD 2 0) n.loads.length 2)] := by rw [hd]; rfl
  rw [e]
  have b1 := N.lines
  have b2 := N.stations
  have b3 := N.loads
  exact do_ret (ev_tup (ds := [_, _, _]) (ea_cons (ev_call (ds := [_, _, _]) (ea_cons (ev_ixL (vr 2) ci (ints_at (k := 0) (by omega))) (ea_cons (ev_len (ev_ixT (vr 1) ci rfl)) (ea1 (vr 3)))) ⟨_, n.lines.length, _, by rw [List.length_map], by omega, rfl⟩) (ea_cons (ev_call (ds := [_, _, _]) (ea_cons (ev_ixL (vr 2) ci (ints_at (k := 1) (by omega))) (ea_cons (ev_len (ev_ixT (vr 1) ci rfl)) (ea1 (vr 3)))) ⟨_, n.stations.length, _, by rw [List.length_map], by omega, rfl⟩)
    (ea1 (ev_call (ds := [_, _, _]) (ea_cons (ev_ixL (vr 2) ci (ints_at (k := 2) (by omega))) (ea_cons (ev_len (ev_ixT (vr 1) ci rfl)) (ea1 ci))) ⟨_, n.loads.length, _, by rw [List.length_map], by omega, rfl⟩))))) rfl
end
end Rl
set_option Elab.async false
set_option linter.all false
set_option maxRecDepth 100000
set_option maxHeartbeats 4000000
set_option exponentiation.threshold 10000
/-! the law's nets. -/
namespace Rl
open PySem L2
def lnGo (V k : Nat) (d : List Int) : Bool := decide (((k : Nat) : Int) < (V : Nat) - 1) && decide (0 < d.getD 2 0)
def lnA (V k : Nat) (d : List Int) : Int := if lnGo V k d then (k : Nat) else d.getD 0 0
def lnB (V k : Nat) (d : List Int) : Int := if lnGo V k d then (k : Nat) + 1 else d.getD 1 0
def lnL (V : Nat) (wide : Bool) (k : Nat) (d : List Int) : List Ln :=
  if lnA V k d = lnB V k d then [] else [⟨(min (lnA V k d) (lnB V k d)).toNat, (max (lnA V k d) (lnB V k d)).toNat, if wide then 1 + d.getD 4 0 else 1 + d.getD 2 0, if wide then d.getD 5 0 else 2 + 2 * d.getD 3 0⟩]
def stO (wide : Bool) (d : List Int) : Stn := ⟨(d.getD 0 0).toNat, if wide then min (d.getD 4 0) (d.getD 5 0) else d.getD 1 0, if wide then max (d.getD 4 0) (d.getD 5 0) else d.getD 1 0 + d.getD 2 0, decide (0 < d.getD 3 0)⟩
def ldO (wide : Bool) (d : List Int) : Ld := ⟨(d.getD 0 0).toNat, if wide then 1 + d.getD 2 0 else 1 + d.getD 1 0⟩
def limL (V : Nat) : List Int := [(V : Nat), (V : Nat), 3, 12, 1000, 1001]
def limS (V : Nat) : List Int := [(V : Nat), 4, 25, 3, 300, 1001]
def limD (V : Nat) : List Int := [(V : Nat), 6, 1000]
def linesF (V : Nat) (wide : Bool) (ps : List Int) (c : Nat) : List Ln := (List.range c).flatMap fun k => lnL V wide k (drawsF (ps.getD k 0) (limL V))
def stationsF (V : Nat) (wide : Bool) (ps : List Int) (c : Nat) : List Stn := (List.range c).map fun k => stO wide (drawsF (ps.getD (9 + k) 0) (limS V))
def loadsF (V : Nat) (wide : Bool) (ps : List Int) (c : Nat) : List Ld := (List.range c).map fun k => ldO wide (drawsF (ps.getD (13 + k) 0) (limD V))
def headF (c : Int) : List Int := drawsF c [4, 9, 5, 5, 2]
def partsF (c : Int) : List Int := drawsF c (List.replicate 17 (10 ^ 6))
def nodesF (c : Int) : Nat := (5 + (headF c).getD 0 0).toNat
def wideF (c : Int) : Bool := decide ((headF c).getD 4 0 = 0)
def netF (c m : Int) : Net := ⟨nodesF c, linesF (nodesF c) (wideF c) (partsF m) ((headF c).getD 1 0).toNat, stationsF (nodesF c) (wideF c) (partsF m) ((headF c).getD 2 0).toNat, loadsF (nodesF c) (wideF c) (partsF m) ((headF c).getD 3 0).toNat⟩
theorem head_in (c : Int) : (0 ≤ (headF c).getD 0 0 ∧ (headF c).getD 0 0 < 4) ∧ (0 ≤ (headF c).getD 1 0 ∧ (headF c).getD 1 0 < 9) ∧ (0 ≤ (headF c).getD 2 0 ∧ (headF c).getD 2 0 < 5) ∧ (0 ≤ (headF c).getD 3 0 ∧ (headF c).getD 3 0 < 5) :=
  ⟨draws_in (k := 0) (by decide) (by decide), draws_in (k := 1) (by decide) (by decide), draws_in (k := 2) (by decide) (by decide), draws_in (k := 3) (by decide) (by decide)⟩
theorem limL_in {V : Nat} (hV : 0 < V) (c : Int) : (0 ≤ (drawsF c (limL V)).getD 0 0 ∧ (drawsF c (limL V)).getD 0 0 < (V : Nat)) ∧ (0 ≤ (drawsF c (limL V)).getD 1 0 ∧ (drawsF c (limL V)).getD 1 0 < (V : Nat)) ∧ (0 ≤ (drawsF c (limL V)).getD 2 0 ∧ (drawsF c (limL V)).getD 2 0 < 3) ∧
    (0 ≤ (drawsF c (limL V)).getD 3 0 ∧ (drawsF c (limL V)).getD 3 0 < 12) ∧ (0 ≤ (drawsF c (limL V)).getD 4 0 ∧ (drawsF c (limL V)).getD 4 0 < 1000) ∧ (0 ≤ (drawsF c (limL V)).getD 5 0 ∧ (drawsF c (limL V)).getD 5 0 < 1001) :=
  ⟨draws_in (ls := limL V) (k := 0) (show 0 < 6 by decide) (show (0 : Int) < (V : Nat) by omega), draws_in (ls := limL V) (k := 1) (show 1 < 6 by decide) (show (0 : Int) < (V : Nat) by omega), draws_in (ls := limL V) (k := 2) (show 2 < 6 by decide) (show (0 : Int) < 3 by decide), draws_in (ls := limL V) (k := 3) (show 3 < 6 by decide) (show (0 : Int) < 12 by decide), draws_in (ls := limL V) (k := 4) (show 4 < 6 by decide) (show (0 : Int) < 1000 by decide), draws_in (ls := limL V) (k := 5) (show 5 < 6 by decide) (show (0 : Int) < 1001 by decide)⟩
theorem limS_in {V : Nat} (hV : 0 < V) (c : Int) : (0 ≤ (drawsF c (limS V)).getD 0 0 ∧ (drawsF c (limS V)).getD 0 0 < (V : Nat)) ∧ (0 ≤ (drawsF c (limS V)).getD 1 0 ∧ (drawsF c (limS V)).getD 1 0 < 4) ∧ (0 ≤ (drawsF c (limS V)).getD 2 0 ∧ (drawsF c (limS V)).getD 2 0 < 25) ∧
    (0 ≤ (drawsF c (limS V)).getD 4 0 ∧ (drawsF c (limS V)).getD 4 0 < 300) ∧ (0 ≤ (drawsF c (limS V)).getD 5 0 ∧ (drawsF c (limS V)).getD 5 0 < 1001) :=
  ⟨draws_in (ls := limS V) (k := 0) (show 0 < 6 by decide) (show (0 : Int) < (V : Nat) by omega), draws_in (ls := limS V) (k := 1) (show 1 < 6 by decide) (show (0 : Int) < 4 by decide), draws_in (ls := limS V) (k := 2) (show 2 < 6 by decide) (show (0 : Int) < 25 by decide), draws_in (ls := limS V) (k := 4) (show 4 < 6 by decide) (show (0 : Int) < 300 by decide), draws_in (ls := limS V) (k := 5) (show 5 < 6 by decide) (show (0 : Int) < 1001 by decide)⟩
theorem limD_in {V : Nat} (hV : 0 < V) (c : Int) : (0 ≤ (drawsF c (limD V)).getD 0 0 ∧ (drawsF c (limD V)).getD 0 0 < (V : Nat)) ∧ (0 ≤ (drawsF c (limD V)).getD 1 0 ∧ (drawsF c (limD V)).getD 1 0 < 6) ∧ (0 ≤ (drawsF c (limD V)).getD 2 0 ∧ (drawsF c (limD V)).getD 2 0 < 1000) :=
  ⟨draws_in (ls := limD V) (k := 0) (show 0 < 3 by decide) (show (0 : Int) < (V : Nat) by omega), draws_in (ls := limD V) (k := 1) (show 1 < 3 by decide) (show (0 : Int) < 6 by decide), draws_in (ls := limD V) (k := 2) (show 2 < 3 by decide) (show (0 : Int) < 1000 by decide)⟩
theorem lnL_len (V : Nat) (wide : Bool) (k : Nat) (d : List Int) : (lnL V wide k d).length ≤ 1 := by unfold lnL; split <;> simp
theorem lines_len (V : Nat) (wide : Bool) (ps : List Int) : ∀ c, (linesF V wide ps c).length ≤ c
  | 0 => Nat.le_refl _
  | c + 1 => by
    have h1 := lines_len V wide ps c
    unfold linesF at h1 ⊢
    rw [List.range_succ, List.flatMap_append, List.length_append]
    have h2 := lnL_len V wide c (drawsF (ps.getD c 0) (limL V))
    simp only [List.flatMap_cons, List.flatMap_nil, List.append_nil]
    omega
theorem ln_ends {V k : Nat} {d : List Int} (h0 : 0 ≤ d.getD 0 0 ∧ d.getD 0 0 < (V : Nat)) (h1 : 0 ≤ d.getD 1 0 ∧ d.getD 1 0 < (V : Nat)) : 0 ≤ lnA V k d ∧ lnA V k d < (V : Nat) ∧ 0 ≤ lnB V k d ∧ lnB V k d < (V : Nat) := by
  unfold lnA lnB
  by_cases z : lnGo V k d = true
  · rw [if_pos z, if_pos z]
    unfold lnGo at z
    rw [Bool.and_eq_true, decide_eq_true_eq] at z
    omega
  · rw [if_neg z, if_neg z]
    omega
theorem net_ok (c m : Int) : NetOk (netF c m) := by
  have h := head_in c
  have hV : 5 ≤ nodesF c ∧ nodesF c ≤ 8 := by unfold nodesF; omega
  refine ⟨⟨by show 1 ≤ nodesF c; omega, hV.2⟩, ?_, ?_, ?_, fun x hx => ?_, fun x hx => ?_, fun x hx => ?_⟩
  · exact Nat.le_trans (lines_len _ _ _ _) (by omega)
  · show (stationsF _ _ _ _).length ≤ 4
    unfold stationsF
    rw [List.length_map, List.length_range]
    omega
  · show (loadsF _ _ _ _).length ≤ 4
    unfold loadsF
    rw [List.length_map, List.length_range]
    omega
  · have hx' : x ∈ linesF (nodesF c) (wideF c) (partsF m) ((headF c).getD 1 0).toNat := hx
    unfold linesF at hx'
    obtain ⟨k, _, hx2⟩ := List.mem_flatMap.mp hx'
    obtain ⟨d, hd⟩ : ∃ d, d = drawsF ((partsF m).getD k 0) (limL (nodesF c)) := ⟨_, rfl⟩
    have b := limL_in (V := nodesF c) (by omega) ((partsF m).getD k 0)
    rw [← hd] at b hx2
    have e := ln_ends (k := k) b.1 b.2.1
    unfold lnL at hx2
    by_cases z : lnA (nodesF c) k d = lnB (nodesF c) k d
    · rw [if_pos z] at hx2; cases hx2
    · rw [if_neg z] at hx2
      cases List.mem_singleton.mp hx2
      show (min (lnA (nodesF c) k d) (lnB (nodesF c) k d)).toNat < (max (lnA (nodesF c) k d) (lnB (nodesF c) k d)).toNat ∧ (max (lnA (nodesF c) k d) (lnB (nodesF c) k d)).toNat < nodesF c ∧ 1 ≤ (if wideF c then _ else _) ∧ (if wideF c then _ else _) ≤ 1000 ∧ 0 ≤ (if wideF c then _ else _) ∧ (if wideF c then _ else _) ≤ 1001
      refine ⟨by omega, by omega, ?_⟩
      cases wideF c
      · simp only [Bool.false_eq_true, if_false]; omega
      · simp only [if_true]; omega
  · have hx' : x ∈ stationsF (nodesF c) (wideF c) (partsF m) ((headF c).getD 2 0).toNat := hx
    unfold stationsF at hx'
    obtain ⟨k, _, rfl⟩ := List.mem_map.mp hx'
    have b := limS_in (V := nodesF c) (by omega) ((partsF m).getD (9 + k) 0)
    obtain ⟨d, hd⟩ : ∃ d, d = drawsF ((partsF m).getD (9 + k) 0) (limS (nodesF c)) := ⟨_, rfl⟩
    rw [← hd] at b ⊢
    show (d.getD 0 0).toNat < nodesF c ∧ 0 ≤ (if wideF c then _ else _) ∧ (if wideF c then _ else _) ≤ (if wideF c then _ else _) ∧ (if wideF c then _ else _) ≤ 1001
    refine ⟨by omega, ?_⟩
    cases wideF c
    · simp only [Bool.false_eq_true, if_false]; omega
    · simp only [if_true]; omega
  · have hx' : x ∈ loadsF (nodesF c) (wideF c) (partsF m) ((headF c).getD 3 0).toNat := hx
    unfold loadsF at hx'
    obtain ⟨k, _, rfl⟩ := List.mem_map.mp hx'
    have b := limD_in (V := nodesF c) (by omega) ((partsF m).getD (13 + k) 0)
    obtain ⟨d, hd⟩ : ∃ d, d = drawsF ((partsF m).getD (13 + k) 0) (limD (nodesF c)) := ⟨_, rfl⟩
    rw [← hd] at b ⊢
    show (d.getD 0 0).toNat < nodesF c ∧ 1 ≤ (if wideF c then _ else _) ∧ (if wideF c then _ else _) ≤ 1001
    refine ⟨by omega, ?_⟩
    cases wideF c
    · simp only [Bool.false_eq_true, if_false]; omega
    · simp only [if_true]; omega
theorem at_bool {A B : PyData} {b : Bool} : atI [A, B] (if b then 1 else 0) = some (if b then B else A) := by cases b <;> exact at_list (by decide) rfl
section
variable {P : Program} {w : World} {K : PySem.W.Frag} {mg : Str → Option Value} {base : Heap} {CT CI : Addr}
def cLNet : List PyData → PyData → Prop := fun ds r => ∃ c m : Int, ds = [.int c, .int m] ∧ r = dNet (netF c m)
abbrev s_law_large_net : Stmt := topS 42
abbrev N_law_large_net : List Str := ["_law_cell_here", "_law_more", "_law_draws_here", "_law_nodes", "_law_wide", "_law_parts", "_law_lines_here", "_law_k", "_law_part", "_law_first", "_law_second", "_law_pair", "_law_stations_here", "_law_low", "_law_high", "_law_loads"]
theorem sc_law_large_net : FnScope N_law_large_net ["_law_cell_here", "_law_more"] (defScope s_law_large_net) := ⟨rfl, rfl, rfl, by decide +kernel, rfl, by decide +kernel, by decide +kernel⟩
theorem w_law_large_net (T : Txt K mg CT CI) (D : Def K mg "_law_large_net" s_law_large_net ["_law_cell_here", "_law_more"]) (c__law_draws : Cal P w K mg base "_law_draws" 1 ["_law_cell_here", "_law_limits"] (ctr K (pur cLDraws))) : Cal P w K mg base "_law_large_net" 2 ["_law_cell_here", "_law_more"] (ctr K (pur cLNet)) := by
  refine D.cal sc_law_large_net (fun ss ms M R ⟨ds, r, e, _, _, ⟨_, _, e2, _⟩, _⟩ => by rw [e, e2]; rfl) fun f cdv A outer s H vs Q E hr => ?_
  refine ⟨_, pss_cons (ps_set (i := 2) sc_law_large_net.nd rfl (Or.inl rfl) (pe_callC c__law_draws hr (by rfl) (pa_cons (pv 0) (pa_cons (pe_lst (pa_cons (pe_int) (pa_cons (pe_int) (pa_cons (pe_int) (pa_cons (pe_int) (pa_cons (pe_int) pa_nil)))))) pa_nil))))
    (pss_cons (ps_set (i := 3) sc_law_large_net.nd rfl (Or.inl rfl) (pe_op op_add (pe_int) (pe_ix ix_list (pv 2) (pe_int) (fun _ _ => rfl))))
    (pss_cons (ps_set (i := 4) sc_law_large_net.nd rfl (Or.inl rfl) (pe_cmpR op_eq (pe_ix ix_list (pv 2) (pe_int) (fun _ _ => rfl)) (pe_int) (nomark _)))
    (pss_cons (ps_set (i := 5) sc_law_large_net.nd rfl (Or.inl rfl) (pe_callC c__law_draws hr (by rfl) (pa_cons (pv 1) (pa_cons (pe_op op_rep (pe_lst (pa_cons (pe_op op_pow (pe_int) (pe_int)) pa_nil)) (pe_int)) pa_nil))))
    (pss_cons (ps_set (i := 6) sc_law_large_net.nd rfl (Or.inl rfl) (pe_lst pa_nil))
    (pss_cons (ps_for PassesOwn.never rfl (pi_range1 (by rfl) T.b_range (pa_cons (pe_ix ix_list (pv 2) (pe_int) (fun _ _ => rfl)) pa_nil)) (pg_name (i := 7) sc_law_large_net.nd rfl (Or.inl rfl))
      (pss_cons (ps_set (i := 8) sc_law_large_net.nd rfl (Or.inl rfl) (pe_callC c__law_draws hr (by rfl) (pa_cons (pe_ix ix_list (pv 5) (pv 7) (fun _ _ => rfl)) (pa_cons (pe_lst (pa_cons (pv 3) (pa_cons (pv 3) (pa_cons (pe_int) (pa_cons (pe_int) (pa_cons (pe_int) (pa_cons (pe_int) pa_nil))))))) pa_nil))))
      (pss_cons (ps_set (i := 9) sc_law_large_net.nd rfl (Or.inl rfl) (pe_ix ix_list (pv 8) (pe_int) (fun _ _ => rfl)))
      (pss_cons (ps_set (i := 10) sc_law_large_net.nd rfl (Or.inl rfl) (pe_ix ix_list (pv 8) (pe_int) (fun _ _ => rfl)))
      (pss_cons (ps_if (PW.pt (pw_and (pt_cmpR op_lt (pv 7) (pe_op op_sub (pv 3) (pe_int)) (nomark _)) (pw_and1 (pt_cmpR op_gt (pe_ix ix_list (pv 8) (pe_int) (fun _ _ => rfl)) (pe_int) (nomark _)))))
        (pss_cons (ps_set (i := 9) sc_law_large_net.nd rfl (Or.inl rfl) (pv 7))
        (pss_one (ps_set (i := 10) sc_law_large_net.nd rfl (Or.inl rfl) (pe_op op_add (pv 7) (pe_int)))))
        (pss_nil))
      (pss_one (ps_if (pt_cmpR op_ne (pv 9) (pv 10) (nomark _))
        (pss_cons (ps_set (i := 11) sc_law_large_net.nd rfl (Or.inl rfl) (pe_tup (pa_cons (pe_callB (call_min2 rfl) (by rfl) T.b_min (by decide +kernel) (pa_cons (pv 9) (pa_cons (pv 10) pa_nil))) (pa_cons (pe_callB (call_max2 rfl) (by rfl) T.b_max (by decide +kernel) (pa_cons (pv 9) (pa_cons (pv 10) pa_nil))) pa_nil))))
        (pss_one (ps_expr (pe_bm PySem.F.plainAttrs_list PySem.F.slot_list_append PySem.F.type_list_append mt_append (pv 6) (pa_cons (pe_op op_catT (pv 11) (pe_ix ix_list (pe_lst (pa_cons (pe_tup (pa_cons (pe_op op_add (pe_int) (pe_ix ix_list (pv 8) (pe_int) (fun _ _ => rfl))) (pa_cons (pe_op op_add (pe_int) (pe_op op_mulW (pe_int) (pe_ix ix_list (pv 8) (pe_int) (fun _ _ => rfl)))) pa_nil))) (pa_cons (pe_tup (pa_cons (pe_op op_add (pe_int) (pe_ix ix_list (pv 8) (pe_int) (fun _ _ => rfl))) (pa_cons (pe_ix ix_list (pv 8) (pe_int) (fun _ _ => rfl)) pa_nil))) pa_nil))) (pe_callTy call_int1 (by rfl) T.b_int (by decide +kernel) (pa_cons (pv 4) pa_nil)) (fun _ _ => rfl))) pa_nil)))))
        (pss_nil))))))))
    (pss_cons (ps_set (i := 12) sc_law_large_net.nd rfl (Or.inl rfl) (pe_lst pa_nil))
    (pss_cons (ps_for PassesOwn.never rfl (pi_range1 (by rfl) T.b_range (pa_cons (pe_ix ix_list (pv 2) (pe_int) (fun _ _ => rfl)) pa_nil)) (pg_name (i := 7) sc_law_large_net.nd rfl (Or.inl rfl))
      (pss_cons (ps_set (i := 8) sc_law_large_net.nd rfl (Or.inl rfl) (pe_callC c__law_draws hr (by rfl) (pa_cons (pe_ix ix_list (pv 5) (pe_op op_add (pe_int) (pv 7)) (fun _ _ => rfl)) (pa_cons (pe_lst (pa_cons (pv 3) (pa_cons (pe_int) (pa_cons (pe_int) (pa_cons (pe_int) (pa_cons (pe_int) (pa_cons (pe_int) pa_nil))))))) pa_nil))))
      (pss_cons (ps_asg (pe_ix ix_list (pe_lst (pa_cons (pe_tup (pa_cons (pe_ix ix_list (pv 8) (pe_int) (fun _ _ => rfl)) (pa_cons (pe_op op_add (pe_ix ix_list (pv 8) (pe_int) (fun _ _ => rfl)) (pe_ix ix_list (pv 8) (pe_int) (fun _ _ => rfl))) pa_nil))) (pa_cons (pe_tup (pa_cons (pe_callB (call_min2 rfl) (by rfl) T.b_min (by decide +kernel) (pa_cons (pe_ix ix_list (pv 8) (pe_int) (fun _ _ => rfl)) (pa_cons (pe_ix ix_list (pv 8) (pe_int) (fun _ _ => rfl)) pa_nil))) (pa_cons (pe_callB (call_max2 rfl) (by rfl) T.b_max (by decide +kernel) (pa_cons (pe_ix ix_list (pv 8) (pe_int) (fun _ _ => rfl)) (pa_cons (pe_ix ix_list (pv 8) (pe_int) (fun _ _ => rfl)) pa_nil))) pa_nil))) pa_nil))) (pe_callTy call_int1 (by rfl) T.b_int (by decide +kernel) (pa_cons (pv 4) pa_nil)) (fun _ _ => rfl)) (pg_tup rfl (pgs_cons (pg_name (i := 13) sc_law_large_net.nd rfl (Or.inl rfl)) (pgs_cons (pg_name (i := 14) sc_law_large_net.nd rfl (Or.inl rfl)) pgs_nil))))
      (pss_one (ps_expr (pe_bm PySem.F.plainAttrs_list PySem.F.slot_list_append PySem.F.type_list_append mt_append (pv 12) (pa_cons (pe_tup (pa_cons (pe_ix ix_list (pv 8) (pe_int) (fun _ _ => rfl)) (pa_cons (pv 13) (pa_cons (pv 14) (pa_cons (pe_cmpR op_gt (pe_ix ix_list (pv 8) (pe_int) (fun _ _ => rfl)) (pe_int) (nomark _)) pa_nil))))) pa_nil)))))))
    (pss_cons (ps_set (i := 15) sc_law_large_net.nd rfl (Or.inl rfl) (pe_lst pa_nil))
    (pss_cons (ps_for PassesOwn.never rfl (pi_range1 (by rfl) T.b_range (pa_cons (pe_ix ix_list (pv 2) (pe_int) (fun _ _ => rfl)) pa_nil)) (pg_name (i := 7) sc_law_large_net.nd rfl (Or.inl rfl))
      (pss_cons (ps_set (i := 8) sc_law_large_net.nd rfl (Or.inl rfl) (pe_callC c__law_draws hr (by rfl) (pa_cons (pe_ix ix_list (pv 5) (pe_op op_add (pe_int) (pv 7)) (fun _ _ => rfl)) (pa_cons (pe_lst (pa_cons (pv 3) (pa_cons (pe_int) (pa_cons (pe_int) pa_nil)))) pa_nil))))
      (pss_one (ps_expr (pe_bm PySem.F.plainAttrs_list PySem.F.slot_list_append PySem.F.type_list_append mt_append (pv 15) (pa_cons (pe_tup (pa_cons (pe_ix ix_list (pv 8) (pe_int) (fun _ _ => rfl)) (pa_cons (pe_ix ix_list (pe_lst (pa_cons (pe_op op_add (pe_int) (pe_ix ix_list (pv 8) (pe_int) (fun _ _ => rfl))) (pa_cons (pe_op op_add (pe_int) (pe_ix ix_list (pv 8) (pe_int) (fun _ _ => rfl))) pa_nil))) (pe_callTy call_int1 (by rfl) T.b_int (by decide +kernel) (pa_cons (pv 4) pa_nil)) (fun _ _ => rfl)) pa_nil))) pa_nil))))))
    (pss_one (ps_ret (pe_tup (pa_cons (pv 3) (pa_cons (pv 6) (pa_cons (pv 12) (pa_cons (pv 15) pa_nil)))))))))))))))), ?_⟩
  rintro _ _ _ _ ⟨_, _, rfl, rfl, rfl, ⟨c, m, rfl, rfl⟩, rfl⟩
  have hh := head_in c
  have lh : (headF c).length = 5 := draws_len
  have lp : (partsF m).length = 17 := by unfold partsF; rw [draws_len, List.length_replicate]
  have hV : 5 ≤ nodesF c ∧ nodesF c ≤ 8 := by unfold nodesF; omega
  obtain ⟨V, eV⟩ : ∃ V, V = nodesF c := ⟨_, rfl⟩
  obtain ⟨hd, ehd⟩ : ∃ hd, hd = headF c := ⟨_, rfl⟩
  obtain ⟨ps, eps⟩ : ∃ ps, ps = partsF m := ⟨_, rfl⟩
  obtain ⟨wd, ewd⟩ : ∃ wd, wd = wideF c := ⟨_, rfl⟩
  have eN : dNet (netF c m) = .tuple [.int (V : Nat), .list ((linesF V wd ps (hd.getD 1 0).toNat).map dLn), .list ((stationsF V wd ps (hd.getD 2 0).toNat).map dStn), .list ((loadsF V wd ps (hd.getD 3 0).toNat).map dLd)] := by rw [eV, ehd, eps, ewd]; rfl
  rw [eN]
  rw [← eV] at hV
  rw [← ehd] at hh lh
  rw [← eps] at lp
  refine do_seq (do_asg (s := .dat (.list (dints hd))) (ev_call (ds := [_, .list (dints [4, 9, 5, 5, 2])]) (ea_cons (vr 0) (ea1 (EvO.know (en_lst (ds := [_, _, _, _, _]) (ea_cons ci (ea_cons ci (ea_cons ci (ea_cons ci (ea1 ci))))))))) ⟨c, [4, 9, 5, 5, 2], rfl, by decide, by decide, by rw [ehd]; rfl⟩) ?_)
  refine do_seq (do_asg (s := .dat (.int (V : Nat))) (Ev.dat (ev_add ci (ev_ixL (vr 2) ci (ints_at (k := 0) (by omega)))) (by congr 1; rw [eV]; unfold nodesF; rw [← ehd]; omega)) ?_)
  refine do_seq (do_asg (s := .dat (.bool wd)) (Ev.dat (ev_eqI (ev_ixL (vr 2) ci (ints_at (k := 4) (by omega))) ci) (by rw [ewd, ehd]; rfl)) ?_)
  refine do_seq (do_asg (s := .dat (.list (dints ps))) (ev_call (ds := [_, .list (dints (List.replicate 17 (10 ^ 6)))]) (ea_cons (vr 1) (ea1 (Ev.dat (EvO.know (en_rep1 (n := 17) (EvO.know (en_lst (ds := [_]) (ea1 (ev_pow ci ci ⟨by decide, by decide, by decide⟩)))) ci (by decide))) (by rfl)))) ⟨m, List.replicate 17 (10 ^ 6), rfl, by decide, fun l hl => by rw [List.eq_of_mem_replicate hl]; exact ⟨by decide, by decide⟩, by rw [eps]; rfl⟩) ?_)
  refine do_seq (do_asgN (en_lst (ds := []) ea_nil) fun ql _ => ?_)
  have limp : ∀ l ∈ limL V, 0 < l ∧ l.natAbs < 2 ^ 60 := fun l hl => by
    unfold limL at hl
    simp only [List.mem_cons, List.not_mem_nil, or_false] at hl
    omega
  have simp' : ∀ l ∈ limS V, 0 < l ∧ l.natAbs < 2 ^ 60 := fun l hl => by
    unfold limS at hl
    simp only [List.mem_cons, List.not_mem_nil, or_false] at hl
    omega
  have dimp : ∀ l ∈ limD V, 0 < l ∧ l.natAbs < 2 ^ 60 := fun l hl => by
    unfold limD at hl
    simp only [List.mem_cons, List.not_mem_nil, or_false] at hl
    omega
  refine do_seq (do_forR (n := (hd.getD 1 0).toNat) (ei_range (n := (hd.getD 1 0).toNat) (ea1 (Ev.dat (ev_ixL (vr 2) ci (ints_at (k := 1) (by omega))) (by congr 1; omega))) (by omega)) (fun i ε ms => ms = [⟨ql, .nw, .lst ((linesF V wd ps i).map dLn)⟩] ∧ ∃ x7 x8 x9 x10 x11, ε = [.dat (.int c), .dat (.int m), .dat (.list (dints hd)), .dat (.int (V : Nat)), .dat (.bool wd), .dat (.list (dints ps)), .ref ql, x7, x8, x9, x10, x11, .un, .un, .un, .un]) [7] ?_ ?_ ?_)
  · exact ⟨rfl, _, _, _, _, _, rfl⟩
  · rintro i _ _ hi ⟨rfl, x7, x8, x9, x10, x11, rfl⟩
    refine ⟨_, tg_name (by decide), ?_⟩
    obtain ⟨d, ed⟩ : ∃ d, d = drawsF (ps.getD i 0) (limL V) := ⟨_, rfl⟩
    have b := limL_in (V := V) (by omega) (ps.getD i 0)
    have ld : d.length = 6 := by rw [ed, draws_len]; rfl
    rw [← ed] at b
    have ll := lines_len V wd ps i
    have eS : (linesF V wd ps (i + 1)).map dLn = (linesF V wd ps i).map dLn ++ (lnL V wd i d).map dLn := by
      unfold linesF
      rw [range_flat, List.map_append, ← ed]
    rw [eS]
    refine do_seq (do_asg (s := .dat (.list (dints d))) (ev_call (ds := [_, .list (dints (limL V))]) (ea_cons (ev_ixL (vr 5) (vr 7) (ints_at (k := i) (by omega))) (ea1 (EvO.know (en_lst (ds := [_, _, _, _, _, _]) (ea_cons (vr 3) (ea_cons (vr 3) (ea_cons ci (ea_cons ci (ea_cons ci (ea1 ci)))))))))) ⟨_, limL V, rfl, (show 6 ≤ 100 by decide), limp, by rw [ed]⟩) ?_)
    refine do_seq (do_asg (ev_ixL (vr 8) ci (ints_at (k := 0) (by omega))) ?_)
    refine do_seq (do_asg (ev_ixL (vr 8) ci (ints_at (k := 1) (by omega))) ?_)
    show Do K _ [.dat (.int c), .dat (.int m), .dat (.list (dints hd)), .dat (.int (V : Nat)), .dat (.bool wd), .dat (.list (dints ps)), .ref ql, .dat (.int (i : Nat)), .dat (.list (dints d)), .dat (.int (d.getD 0 0)), .dat (.int (d.getD 1 0)), x11, .un, .un, .un, .un] _ _
    refine do_then (fun ε ms => ε = [.dat (.int c), .dat (.int m), .dat (.list (dints hd)), .dat (.int (V : Nat)), .dat (.bool wd), .dat (.list (dints ps)), .ref ql, .dat (.int (i : Nat)), .dat (.list (dints d)), .dat (.int (lnA V i d)), .dat (.int (lnB V i d)), x11, .un, .un, .un, .un] ∧ ms = [⟨ql, .nw, .lst ((linesF V wd ps i).map dLn)⟩]) ?_ ?_
    · refine do_if (b := lnGo V i d) (eb_and (eb_test (ev_lt (vr 7) (ev_sub (vr 3) ci))) (fun _ => eb_test (ev_gt (ev_ixL (vr 8) ci (ints_at (k := 2) (by omega))) ci))) (fun hb => ?_) (fun hb => Do.next ⟨?_, rfl⟩)
      · refine do_seq (do_asg (vr 7) ?_)
        refine do_asg (ev_add (vr 7) ci) ⟨?_, rfl⟩
        unfold lnA lnB
        rw [if_pos hb, if_pos hb]
        rfl
      · unfold lnA lnB
        rw [hb]
        rfl
    rintro _ _ ⟨rfl, rfl⟩
    have en := ln_ends (k := i) b.1 b.2.1
    refine do_if (b := !decide (lnA V i d = lnB V i d)) (eb_test (ev_neI (vr 9) (vr 10))) (fun hb => ?_) (fun hb => Do.next ⟨?_, _, _, _, _, _, rfl⟩)
    · have z : ¬ lnA V i d = lnB V i d := by simpa using hb
      refine do_seq (do_asg (s := .dat (.tuple [.int (min (lnA V i d) (lnB V i d)), .int (max (lnA V i d) (lnB V i d))])) (Ev.dat (ev_tup (ds := [_, _]) (ea_cons (ev_min2 (vr 9) (vr 10)) (ea1 (ev_max2 (vr 9) (vr 10))))) ?_) ?_)
      · have e1 : (if lnB V i d < lnA V i d then lnB V i d else lnA V i d) = min (lnA V i d) (lnB V i d) := by split <;> omega
        have e2 : (if lnB V i d > lnA V i d then lnB V i d else lnA V i d) = max (lnA V i d) (lnB V i d) := by split <;> omega
        rw [e1, e2]
      refine do_app (vr 6) mem0 nofun (ev_catT (d1 := [_, _]) (d2 := [.int (if wd then 1 + d.getD 4 0 else 1 + d.getD 2 0), .int (if wd then d.getD 5 0 else 2 + 2 * d.getD 3 0)]) (vr 11) (Ev.dat (ev_ixL (EvO.know (en_lst (ds := [_, _]) (ea_cons (ev_tup (ds := [_, _]) (ea_cons (ev_add ci (ev_ixL (vr 8) ci (ints_at (k := 2) (by omega)))) (ea1 (ev_add ci (ev_mul ci (ev_ixL (vr 8) ci (ints_at (k := 3) (by omega))) ?_)))))
        (ea1 (ev_tup (ds := [_, _]) (ea_cons (ev_add ci (ev_ixL (vr 8) ci (ints_at (k := 4) (by omega)))) (ea1 (ev_ixL (vr 8) ci (ints_at (k := 5) (by omega)))))))))) (ev_intB (vr 4)) at_bool) ?_) nofun nofun (show 2 + 2 ≤ 100000 by decide)) (by rw [List.length_map]; omega) ⟨?_, _, _, _, _, _, rfl⟩
      · exact mulSmall (by decide) (by omega)
      · cases wd <;> rfl
      · rw [setMo_0]
        unfold lnL
        rw [if_neg z]
        show _ = [(⟨ql, .nw, .lst (_ ++ [dLn ⟨(min (lnA V i d) (lnB V i d)).toNat, (max (lnA V i d) (lnB V i d)).toNat, _, _⟩])⟩ : Me)]
        have e1 : (((min (lnA V i d) (lnB V i d)).toNat : Nat) : Int) = min (lnA V i d) (lnB V i d) := by omega
        have e2 : (((max (lnA V i d) (lnB V i d)).toNat : Nat) : Int) = max (lnA V i d) (lnB V i d) := by omega
        unfold dLn
        rw [e1, e2]
        rfl
    · have z : lnA V i d = lnB V i d := by simpa using hb
      unfold lnL
      rw [if_pos z]
      show _ = [(⟨ql, .nw, .lst (_ ++ [])⟩ : Me)]
      rw [List.append_nil]
  rintro _ _ ⟨rfl, x7, x8, x9, x10, x11, rfl⟩
  show Do K _ _ _ _
  refine do_seq (do_asgN (en_lst (ds := []) ea_nil) fun qs hqs => ?_)
  have n1 : ql ≠ qs := hqs _ mem0 _ mem0
  refine do_seq (do_forR (n := (hd.getD 2 0).toNat) (ei_range (n := (hd.getD 2 0).toNat) (ea1 (Ev.dat (ev_ixL (vr 2) ci (ints_at (k := 2) (by omega))) (by congr 1; omega))) (by omega)) (fun i ε ms => ms = [⟨ql, .nw, .lst ((linesF V wd ps (hd.getD 1 0).toNat).map dLn)⟩, ⟨qs, .nw, .lst ((stationsF V wd ps i).map dStn)⟩] ∧
    ∃ x7 x8 x9 x10 x11 x13 x14, ε = [.dat (.int c), .dat (.int m), .dat (.list (dints hd)), .dat (.int (V : Nat)), .dat (.bool wd), .dat (.list (dints ps)), .ref ql, x7, x8, x9, x10, x11, .ref qs, x13, x14, .un]) [7] ?_ ?_ ?_)
  · exact ⟨rfl, _, _, _, _, _, _, _, rfl⟩
  · rintro i _ _ hi ⟨rfl, x7, x8, x9, x10, x11, x13, x14, rfl⟩
    refine ⟨_, tg_name (by decide), ?_⟩
    obtain ⟨d, ed⟩ : ∃ d, d = drawsF (ps.getD (9 + i) 0) (limS V) := ⟨_, rfl⟩
    have b := limS_in (V := V) (by omega) (ps.getD (9 + i) 0)
    have ld : d.length = 6 := by rw [ed, draws_len]; rfl
    rw [← ed] at b
    have eS : (stationsF V wd ps (i + 1)).map dStn = (stationsF V wd ps i).map dStn ++ [dStn (stO wd d)] := by
      unfold stationsF
      rw [List.range_succ, List.map_append, List.map_append, ed]
      rfl
    rw [eS]
    refine do_seq (do_asg (s := .dat (.list (dints d))) (ev_call (ds := [_, .list (dints (limS V))]) (ea_cons (ev_ixL (vr 5) (Ev.dat (e := .int ((9 + i : Nat) : Int)) (ev_add ci (vr 7)) (by congr 1)) (ints_at (k := 9 + i) (by omega))) (ea1 (EvO.know (en_lst (ds := [_, _, _, _, _, _]) (ea_cons (vr 3) (ea_cons ci (ea_cons ci (ea_cons ci (ea_cons ci (ea1 ci)))))))))) ⟨_, limS V, rfl, (show 6 ≤ 100 by decide), simp', by rw [ed]⟩) ?_)
    refine do_seq (do_asgT (s := .dat (.tuple [.int (stO wd d).lo, .int (stO wd d).hi])) (Ev.dat (ev_ixL (EvO.know (en_lst (ds := [_, _]) (ea_cons (ev_tup (ds := [_, _]) (ea_cons (ev_ixL (vr 8) ci (ints_at (k := 1) (by omega))) (ea1 (ev_add (ev_ixL (vr 8) ci (ints_at (k := 1) (by omega))) (ev_ixL (vr 8) ci (ints_at (k := 2) (by omega)))))))
      (ea1 (ev_tup (ds := [_, _]) (ea_cons (ev_min2 (ev_ixL (vr 8) ci (ints_at (k := 4) (by omega))) (ev_ixL (vr 8) ci (ints_at (k := 5) (by omega)))) (ea1 (ev_max2 (ev_ixL (vr 8) ci (ints_at (k := 4) (by omega))) (ev_ixL (vr 8) ci (ints_at (k := 5) (by omega))))))))))) (ev_intB (vr 4)) at_bool) ?_) (tg_tup2 (vs := [13, 14]) (by decide) (by decide)) ?_)
    · have e1 : (if d.getD 5 0 < d.getD 4 0 then d.getD 5 0 else d.getD 4 0) = min (d.getD 4 0) (d.getD 5 0) := by split <;> omega
      have e2 : (if d.getD 5 0 > d.getD 4 0 then d.getD 5 0 else d.getD 4 0) = max (d.getD 4 0) (d.getD 5 0) := by split <;> omega
      rw [e1, e2]
      unfold stO
      cases wd <;> rfl
    refine do_app (vr 12) mem1 nofun (ev_tup (ds := [_, _, _, _]) (ea_cons (ev_ixL (vr 8) ci (ints_at (k := 0) (by omega))) (ea_cons (vr 13) (ea_cons (vr 14) (ea1 (ev_gt (ev_ixL (vr 8) ci (ints_at (k := 3) (by omega))) ci)))))) (by rw [List.length_map]; unfold stationsF; rw [List.length_map, List.length_range]; omega) ⟨?_, _, _, _, _, _, _, _, rfl⟩
    rw [setMo_1 n1]
    have e1 : (((stO wd d).node : Nat) : Int) = d.getD 0 0 := by show (((d.getD 0 0).toNat : Nat) : Int) = _; omega
    unfold dStn
    rw [e1]
    rfl
  rintro _ _ ⟨rfl, x7, x8, x9, x10, x11, x13, x14, rfl⟩
  show Do K _ _ _ _
  refine do_seq (do_asgN (en_lst (ds := []) ea_nil) fun qd hqd => ?_)
  have n2 : ql ≠ qd := hqd _ mem0 _ mem0
  have n3 : qs ≠ qd := hqd _ mem1 _ mem0
  refine do_seq (do_forR (n := (hd.getD 3 0).toNat) (ei_range (n := (hd.getD 3 0).toNat) (ea1 (Ev.dat (ev_ixL (vr 2) ci (ints_at (k := 3) (by omega))) (by congr 1; omega))) (by omega)) (fun i ε ms => ms = [⟨ql, .nw, .lst ((linesF V wd ps (hd.getD 1 0).toNat).map dLn)⟩, ⟨qs, .nw, .lst ((stationsF V wd ps (hd.getD 2 0).toNat).map dStn)⟩, ⟨qd, .nw, .lst ((loadsF V wd ps i).map dLd)⟩] ∧
    ∃ x7 x8 x9 x10 x11 x13 x14, ε = [.dat (.int c), .dat (.int m), .dat (.list (dints hd)), .dat (.int (V : Nat)), .dat (.bool wd), .dat (.list (dints ps)), .ref ql, x7, x8, x9, x10, x11, .ref qs, x13, x14, .ref qd]) [7] ?_ ?_ ?_)
  · exact ⟨rfl, _, _, _, _, _, _, _, rfl⟩
  · rintro i _ _ hi ⟨rfl, x7, x8, x9, x10, x11, x13, x14, rfl⟩
    refine ⟨_, tg_name (by decide), ?_⟩
    obtain ⟨d, ed⟩ : ∃ d, d = drawsF (ps.getD (13 + i) 0) (limD V) := ⟨_, rfl⟩
    have b := limD_in (V := V) (by omega) (ps.getD (13 + i) 0)
    have ld : d.length = 3 := by rw [ed, draws_len]; rfl
    rw [← ed] at b
    have eS : (loadsF V wd ps (i + 1)).map dLd = (loadsF V wd ps i).map dLd ++ [dLd (ldO wd d)] := by
      unfold loadsF
      rw [List.range_succ, List.map_append, List.map_append, ed]
      rfl
    rw [eS]
    refine do_seq (do_asg (s := .dat (.list (dints d))) (ev_call (ds := [_, .list (dints (limD V))]) (ea_cons (ev_ixL (vr 5) (Ev.dat (e := .int ((13 + i : Nat) : Int)) (ev_add ci (vr 7)) (by congr 1)) (ints_at (k := 13 + i) (by omega))) (ea1 (EvO.know (en_lst (ds := [_, _, _]) (ea_cons (vr 3) (ea_cons ci (ea1 ci))))))) ⟨_, limD V, rfl, (show 3 ≤ 100 by decide), dimp, by rw [ed]⟩) ?_)
    refine do_app (vr 15) mem2 nofun (ev_tup (ds := [_, _]) (ea_cons (ev_ixL (vr 8) ci (ints_at (k := 0) (by omega))) (ea1 (Ev.dat (e := .int (ldO wd d).amt) (ev_ixL (EvO.know (en_lst (ds := [_, _]) (ea_cons (ev_add ci (ev_ixL (vr 8) ci (ints_at (k := 1) (by omega)))) (ea1 (ev_add ci (ev_ixL (vr 8) ci (ints_at (k := 2) (by omega)))))))) (ev_intB (vr 4)) at_bool) ?_)))) (by rw [List.length_map]; unfold loadsF; rw [List.length_map, List.length_range]; omega) ⟨?_, _, _, _, _, _, _, _, rfl⟩
    · unfold ldO
      cases wd <;> rfl
    rw [setMo_2 n2 n3]
    have e1 : (((ldO wd d).node : Nat) : Int) = d.getD 0 0 := by show (((d.getD 0 0).toNat : Nat) : Int) = _; omega
    unfold dLd
    rw [e1]
  rintro _ _ ⟨rfl, x7, x8, x9, x10, x11, x13, x14, rfl⟩
  show Do K _ _ _ _
  refine do_fg (ε' := [.un, .un, .un, .dat (.int (V : Nat)), .un, .un, .ref ql, .un, .un, .un, .un, .un, .ref qs, .un, .un, .ref qd]) (by (repeat (first | exact Fg.nil | apply Fg.un | apply Fg.eq))) ?_
  refine do_freeze (a := ql) mem0 ?_
  rw [without_hit, without_miss n1.symm, without_miss n2.symm, without_nil]
  simp only [asDat_nil, asDat_un, asDat_dat, asDat_hit, asDat_miss n1.symm, asDat_miss n2.symm]
  refine do_freeze (a := qs) mem0 ?_
  rw [without_hit, without_miss n3.symm, without_nil]
  simp only [asDat_nil, asDat_un, asDat_dat, asDat_hit, asDat_miss n3.symm]
  refine do_freeze (a := qd) mem0 ?_
  rw [without_hit, without_nil]
  simp only [asDat_nil, asDat_un, asDat_dat, asDat_hit]
  exact do_ret (ev_tup (ds := [_, _, _, _]) (ea_cons (vr 3) (ea_cons (vr 6) (ea_cons (vr 12) (ea1 (vr 15)))))) rfl
end
end Rl
set_option Elab.async false
set_option linter.all false
set_option maxRecDepth 100000
set_option maxHeartbeats 4000000
set_option exponentiation.threshold 10000
/-! the law's conditions: the same rows. -/
namespace Rl
open PySem L2
theorem putD_len (kvs : List (Key × PyData)) (k : Key) (v : PyData) : (putD kvs k v).length ≤ kvs.length + 1 := by
  unfold putD
  split
  · rw [List.length_map]; omega
  · rw [List.length_append]; exact Nat.le_refl _
theorem cons_rg (d : PyData) (n : Nat) (F : Nat → PyData) : [d] ++ rg n F = rg (n + 1) fun j => if j = 0 then d else F (j - 1) := by
  have e := rg_app 1 n (fun _ => d) F
  rw [Nat.add_comm 1 n] at e
  have e2 : [d] = rg 1 fun _ => d := rfl
  rw [e2, e]
  exact rg_congr fun j _ => by
    by_cases z : j = 0
    · rw [if_pos z, if_pos (by omega)]
    · rw [if_neg z, if_neg (by omega)]
theorem idx_inj {p : Part} {u v : Nat} (hu : u ∈ p.nodes) (hv : v ∈ p.nodes) (e : p.idx u = p.idx v) : u = v := by
  have h1 := idx_get hu
  have h2 := idx_get hv
  unfold Part.idx at e
  rw [e, h2] at h1
  exact (Option.some.inj h1).symm
theorem idx_at {p : Part} (nd : p.nodes.Nodup) {i : Nat} (hi : i < p.nodes.length) : p.idx (p.nodes.getD i 0) = i := by
  have h1 : p.nodes.getD i 0 ∈ p.nodes := getD_mem hi
  have h2 := idx_get h1
  have h3 : p.nodes[i]? = some (p.nodes.getD i 0) := by rw [List.getElem?_eq_getElem hi, getD_at (List.getElem?_eq_getElem hi)]
  have hl : p.nodes.idxOf (p.nodes.getD i 0) < p.nodes.length := List.idxOf_lt_length_of_mem h1
  exact (List.getElem?_inj hl nd).mp (h2.trans h3.symm)
theorem nats_at {xs : List Nat} {i : Nat} (h : i < xs.length) : atI (dints (natI xs)) ((i : Nat) : Int) = some (.int (xs.getD i 0 : Nat)) := by rw [nats_rg]; exact at_nat h
section
variable {P : Program} {w : World} {K : PySem.W.Frag} {mg : Str → Option Value} {base : Heap} {CT CI : Addr}
abbrev s_law_conditions : Stmt := topS 38
abbrev N_law_conditions : List Str := ["_law_net", "_law_state_here", "_law_island", "_law_stations_here", "_law_lines_here", "_law_count", "_law_zero", "_law_places", "_law_k", "_law_rows", "_law_low", "_law_high", "_law_flows", "_law_line", "_law_flow", "_law_node", "_law_row", "_law_sign", "_law_j", "_law_item"]
theorem sc_law_conditions : FnScope N_law_conditions ["_law_net", "_law_state_here", "_law_island"] (defScope s_law_conditions) := ⟨rfl, rfl, rfl, by decide +kernel, rfl, by decide +kernel, by decide +kernel⟩
theorem w_law_conditions (T : Txt K mg CT CI) (D : Def K mg "_law_conditions" s_law_conditions ["_law_net", "_law_state_here", "_law_island"]) (c__law_stations : Cal P w K mg base "_law_stations" 1 ["_law_net", "_law_state_here", "_law_island"] (ctr K (pur cLStations)))
    (c__law_lines : Cal P w K mg base "_law_lines" 1 ["_law_net", "_law_state_here", "_law_island"] (ctr K (pur cLLines))) (c__law_fed : Cal P w K mg base "_law_fed" 1 ["_law_net", "_law_state_here", "_law_node"] (ctr K (pur cLFed))) :
    Cal P w K mg base "_law_conditions" 2 ["_law_net", "_law_state_here", "_law_island"] (ctr K (pur cCondOf)) := by
  refine D.cal sc_law_conditions (fun ss ms M R ⟨ds, r, e, _, _, ⟨_, _, _, e2, _⟩, _⟩ => by rw [e, e2]; rfl) fun f cdv A outer s H vs Q E hr => ?_
  refine ⟨_, pss_cons (ps_set (i := 3) sc_law_conditions.nd rfl (Or.inl rfl) (pe_callC c__law_stations hr (by rfl) (pa_cons (pv 0) (pa_cons (pv 1) (pa_cons (pv 2) pa_nil)))))
    (pss_cons (ps_set (i := 4) sc_law_conditions.nd rfl (Or.inl rfl) (pe_callC c__law_lines hr (by rfl) (pa_cons (pv 0) (pa_cons (pv 1) (pa_cons (pv 2) pa_nil)))))
    (pss_cons (ps_set (i := 5) sc_law_conditions.nd rfl (Or.inl rfl) (pe_op op_sub (pe_op op_add (pe_callB call_len_seq (by rfl) T.b_len (by decide +kernel) (pa_cons (pv 3) pa_nil)) (pe_callB call_len_seq (by rfl) T.b_len (by decide +kernel) (pa_cons (pv 2) pa_nil))) (pe_int)))
    (pss_cons (ps_set (i := 6) sc_law_conditions.nd rfl (Or.inl rfl) (pe_op op_rep (pe_lst (pa_cons (pe_int) pa_nil)) (pe_op op_add (pe_int) (pv 5))))
    (pss_cons (ps_set (i := 7) sc_law_conditions.nd rfl (Or.inl rfl) (pe_dnewK))
    (pss_cons (ps_for PassesOwn.never rfl (pi_range2 (by rfl) T.b_range (pa_cons (pe_int) (pa_cons (pe_callB call_len_seq (by rfl) T.b_len (by decide +kernel) (pa_cons (pv 2) pa_nil)) pa_nil))) (pg_name (i := 8) sc_law_conditions.nd rfl (Or.inr rfl))
      (pss_one (ps_dput (Nat.lt_of_le_of_lt (Nat.add_le_add_left (by decide) _) hr.units) (pv 7) (pe_ix ix_list (pv 2) (pv 8) (fun _ _ => rfl)) (pe_op op_add (pe_callB call_len_seq (by rfl) T.b_len (by decide +kernel) (pa_cons (pv 3) pa_nil)) (pv 8)) rfl)))
    (pss_cons (ps_set (i := 9) sc_law_conditions.nd rfl (Or.inl rfl) (pe_lst pa_nil))
    (pss_cons (ps_for PassesOwn.never rfl (pi_range1 (by rfl) T.b_range (pa_cons (pe_callB call_len_seq (by rfl) T.b_len (by decide +kernel) (pa_cons (pv 3) pa_nil)) pa_nil)) (pg_name (i := 8) sc_law_conditions.nd rfl (Or.inr rfl))
      (pss_cons (ps_set (i := 10) sc_law_conditions.nd rfl (Or.inl rfl) (pe_callTy call_list_of (by rfl) T.b_list (by decide +kernel) (pa_cons (pv 6) pa_nil)))
      (pss_cons (ps_set (i := 11) sc_law_conditions.nd rfl (Or.inl rfl) (pe_callTy call_list_of (by rfl) T.b_list (by decide +kernel) (pa_cons (pv 6) pa_nil)))
      (pss_cons (ps_asg (pe_un un_neg (pe_ix ix_tup (pe_ix ix_list (pv 3) (pv 8) (fun _ _ => rfl)) (pe_int) (fun _ _ => rfl))) (pg_sub (pv 10) (pe_int) set_list))
      (pss_cons (ps_asg (pe_int) (pg_sub (pv 10) (pe_op op_add (pe_int) (pv 8)) set_list))
      (pss_cons (ps_asg (pe_ix ix_tup (pe_ix ix_list (pv 3) (pv 8) (fun _ _ => rfl)) (pe_int) (fun _ _ => rfl)) (pg_sub (pv 11) (pe_int) set_list))
      (pss_cons (ps_asg (pe_un un_neg (pe_int)) (pg_sub (pv 11) (pe_op op_add (pe_int) (pv 8)) set_list))
      (pss_one (ps_set (i := 9) sc_law_conditions.nd rfl (Or.inl rfl) (pe_op op_cat (pv 9) (pe_lst (pa_cons (pv 10) (pa_cons (pv 11) pa_nil)))))))))))))
    (pss_cons (ps_set (i := 12) sc_law_conditions.nd rfl (Or.inr rfl) (pe_lst pa_nil))
    (pss_cons (ps_for PassesOwn.never rfl (pi_list (pv 4)) (pg_name (i := 13) sc_law_conditions.nd rfl (Or.inl rfl))
      (pss_cons (ps_set (i := 14) sc_law_conditions.nd rfl (Or.inl rfl) (pe_callTy call_list_of (by rfl) T.b_list (by decide +kernel) (pa_cons (pv 6) pa_nil)))
      (pss_cons (ps_if (pt_cmp (pc_din (Nat.lt_of_le_of_lt (Nat.add_le_add_left (by decide) _) hr.units) (pe_ix ix_tup (pv 13) (pe_int) (fun _ _ => rfl)) (pv 7)) rfl)
        (pss_one (ps_asg (pe_ix ix_tup (pv 13) (pe_int) (fun _ _ => rfl)) (pg_sub (pv 14) (pe_dget (Nat.lt_of_le_of_lt (Nat.add_le_add_left (by decide) _) hr.units) (pv 7) (pe_ix ix_tup (pv 13) (pe_int) (fun _ _ => rfl)) (fun _ _ => rfl)) set_list)))
        (pss_nil))
      (pss_cons (ps_if (pt_cmp (pc_din (Nat.lt_of_le_of_lt (Nat.add_le_add_left (by decide) _) hr.units) (pe_ix ix_tup (pv 13) (pe_int) (fun _ _ => rfl)) (pv 7)) rfl)
        (pss_one (ps_asg (pe_un un_neg (pe_ix ix_tup (pv 13) (pe_int) (fun _ _ => rfl))) (pg_sub (pv 14) (pe_dget (Nat.lt_of_le_of_lt (Nat.add_le_add_left (by decide) _) hr.units) (pv 7) (pe_ix ix_tup (pv 13) (pe_int) (fun _ _ => rfl)) (fun _ _ => rfl)) set_list)))
        (pss_nil))
      (pss_cons (ps_expr (pe_bm PySem.F.plainAttrs_list PySem.F.slot_list_append PySem.F.type_list_append mt_append (pv 12) (pa_cons (pv 14) pa_nil)))
      (pss_one (ps_set (i := 9) sc_law_conditions.nd rfl (Or.inl rfl) (pe_op op_cat (pv 9) (pe_lst (pa_cons (pe_op op_cat (pe_lst (pa_cons (pe_op op_sub (pe_ix ix_tup (pv 13) (pe_int) (fun _ _ => rfl)) (pe_ix ix_list (pv 14) (pe_int) (fun _ _ => rfl))) pa_nil)) (pe_lc (own := [("_law_item", 19)]) (g := gName 19) (tt := tYes) rfl sc_law_conditions.nd (pi_list (pe_slice sl_list (pv 14) (po_some (pe_int)) po_none)) (blkOk_by (N := N_law_conditions) (sc := defScope s_law_conditions) (by decide +kernel)) (fun _ _ _ _ _ => pg_name (i := 19) sc_law_conditions.nd rfl (Or.inl rfl)) (fun _ _ _ _ _ => pts_nil) (fun _ _ _ _ _ => pe_un un_neg (pv 19)))) (pa_cons (pe_op op_cat (pe_lst (pa_cons (pe_op op_add (pe_ix ix_tup (pv 13) (pe_int) (fun _ _ => rfl)) (pe_ix ix_list (pv 14) (pe_int) (fun _ _ => rfl))) pa_nil)) (pe_slice sl_list (pv 14) (po_some (pe_int)) po_none)) pa_nil)))))))))))
    (pss_cons (ps_for PassesOwn.never rfl (pi_list (pv 2)) (pg_name (i := 15) sc_law_conditions.nd rfl (Or.inl rfl))
      (pss_cons (ps_set (i := 16) sc_law_conditions.nd rfl (Or.inr rfl) (pe_callTy call_list_of (by rfl) T.b_list (by decide +kernel) (pa_cons (pv 6) pa_nil)))
      (pss_cons (ps_asg (pe_un un_neg (pe_callC c__law_fed hr (by rfl) (pa_cons (pv 0) (pa_cons (pv 1) (pa_cons (pv 15) pa_nil))))) (pg_sub (pv 16) (pe_int) set_list))
      (pss_cons (ps_for PassesOwn.never rfl (pi_range1 (by rfl) T.b_range (pa_cons (pe_callB call_len_seq (by rfl) T.b_len (by decide +kernel) (pa_cons (pv 3) pa_nil)) pa_nil)) (pg_name (i := 8) sc_law_conditions.nd rfl (Or.inr rfl))
        (pss_one (ps_if (pt_cmpR op_eq (pe_ix ix_tup (pe_ix ix_list (pv 3) (pv 8) (fun _ _ => rfl)) (pe_int) (fun _ _ => rfl)) (pv 15) (nomark _))
          (pss_one (ps_asg (pe_op op_add (pe_ix ix_list (pv 16) (pe_op op_add (pe_int) (pv 8)) (fun _ _ => rfl)) (pe_int)) (pg_sub (pv 16) (pe_op op_add (pe_int) (pv 8)) set_list)))
          (pss_nil))))
      (pss_cons (ps_for PassesOwn.never rfl (pi_range1 (by rfl) T.b_range (pa_cons (pe_callB call_len_seq (by rfl) T.b_len (by decide +kernel) (pa_cons (pv 4) pa_nil)) pa_nil)) (pg_name (i := 8) sc_law_conditions.nd rfl (Or.inr rfl))
        (pss_cons (ps_set (i := 17) sc_law_conditions.nd rfl (Or.inr rfl) (pe_op op_sub (pe_callTy call_int1 (by rfl) T.b_int (by decide +kernel) (pa_cons (pe_cmpR op_eq (pe_ix ix_tup (pe_ix ix_list (pv 4) (pv 8) (fun _ _ => rfl)) (pe_int) (fun _ _ => rfl)) (pv 15) (nomark _)) pa_nil)) (pe_callTy call_int1 (by rfl) T.b_int (by decide +kernel) (pa_cons (pe_cmpR op_eq (pe_ix ix_tup (pe_ix ix_list (pv 4) (pv 8) (fun _ _ => rfl)) (pe_int) (fun _ _ => rfl)) (pv 15) (nomark _)) pa_nil))))
        (pss_one (ps_set (i := 16) sc_law_conditions.nd rfl (Or.inr rfl) (pe_lc (own := [("_law_j", 18)]) (g := gName 18) (tt := tYes) rfl sc_law_conditions.nd (pi_range1 (by rfl) T.b_range (pa_cons (pe_op op_add (pe_int) (pv 5)) pa_nil)) (blkOk_by (N := N_law_conditions) (sc := defScope s_law_conditions) (by decide +kernel)) (fun _ _ _ _ _ => pg_name (i := 18) sc_law_conditions.nd rfl (Or.inl rfl)) (fun _ _ _ _ _ => pts_nil) (fun _ _ _ _ _ => pe_op op_add (pe_ix (ix_listK K) (pv 16) (pv 18) (fun _ _ => rfl)) (pe_op op_mulW (pv 17) (pe_ix (ix_listK K) (pe_ix (ix_listK K) (pv 12) (pv 8) (fun _ _ => rfl)) (pv 18) (fun _ _ => rfl)))))))))
      (pss_one (ps_set (i := 9) sc_law_conditions.nd rfl (Or.inl rfl) (pe_op op_cat (pv 9) (pe_lst (pa_cons (pv 16) (pa_cons (pe_lc (own := [("_law_item", 19)]) (g := gName 19) (tt := tYes) rfl sc_law_conditions.nd (pi_list (pv 16)) (blkOk_by (N := N_law_conditions) (sc := defScope s_law_conditions) (by decide +kernel)) (fun _ _ _ _ _ => pg_name (i := 19) sc_law_conditions.nd rfl (Or.inl rfl)) (fun _ _ _ _ _ => pts_nil) (fun _ _ _ _ _ => pe_un un_neg (pv 19))) pa_nil)))))))))))
    (pss_one (ps_ret (pv 9))))))))))))), ?_⟩
  rintro _ _ _ _ ⟨_, _, rfl, rfl, rfl, ⟨n, s, isl, rfl, I, rfl⟩, rfl⟩
  refine do_seq (do_asg (ev_call (ds := [_, _, _]) (ea_cons (vr 0) (ea_cons (vr 1) (ea1 (vr 2)))) ⟨n, s, isl, rfl, I.sta, rfl⟩) ?_)
  refine do_seq (do_asg (ev_call (ds := [_, _, _]) (ea_cons (vr 0) (ea_cons (vr 1) (ea1 (vr 2)))) ⟨n, s, isl, rfl, I.sta, rfl⟩) ?_)
  have fedE : ∀ v ∈ isl, (partOf n s isl).exL v = - fedV n s v := fun v hv => fed_exL hv
  obtain ⟨p, hp⟩ : ∃ p, p = partOf n s isl := ⟨_, rfl⟩
  have O : PartOk p := by rw [hp]; exact I.ok
  have hn : isl = p.nodes := by rw [hp]; rfl
  rw [← hp] at fedE ⊢
  rw [hn] at fedE ⊢
  have h1 := O.ne.1
  have h8 := O.ne.2
  have h4 := O.sts
  have h9 := O.lns
  have w1 : 1 ≤ p.wid := by unfold Part.wid; omega
  have w12 : p.wid ≤ 12 := by unfold Part.wid; omega
  obtain ⟨c, hc⟩ : ∃ c, p.wid = c + 1 := ⟨p.wid - 1, by omega⟩
  refine do_seq (do_asg (s := .dat (.int ((p.wid : Nat) - 1))) (Ev.dat (ev_sub (ev_add (ev_len (vr 3)) (ev_len (vr 2))) ci) (by rw [List.length_map, natI_len]; unfold Part.wid; congr 1 <;> omega)) ?_)
  refine do_seq (do_asg (s := .dat (.list (rg p.wid fun _ => .int 0))) (Ev.dat (EvO.know (en_rep1 (n := p.wid) (EvO.know (en_lst (ds := [_]) (ea1 ci))) (Ev.dat (ev_add ci (vr 5)) (by congr 1; omega)) (by omega))) (by rw [rg_rep])) ?_)
  refine do_seq (do_asgO eo_dnew fun qp ms' hq _ => ?_)
  subst hq
  show Do K _ [.dat (dNet n), .dat (dSta s), .dat (dNats p.nodes), .dat (.list (p.sts.map dStn)), .dat (.list (p.lns.map dLn)), .dat (.int ((p.wid : Nat) - 1)), .dat (.list (rg p.wid fun _ => .int 0)), .ref qp, .un, .un, .un, .un, .un, .un, .un, .un, .un, .un, .un, .un] [⟨qp, .nw, .dct []⟩] _
  -- the places
  refine do_seq (do_forR (n := p.nodes.length - 1) ((ei_from (lo := 1) (hi := p.nodes.length) (ea_cons ci (ea1 (Ev.dat (ev_len (vr 2)) (by rw [natI_len])))) (by omega))) (fun i ε ms => ∃ kvs : List (Key × PyData), kvs.length ≤ i ∧ (∀ v ∈ p.nodes, valD kvs (Sum.inl ((v : Nat) : Int)) = if 0 < p.idx v ∧ p.idx v ≤ i then some (.int ((p.sts.length + p.idx v : Nat) : Int)) else none) ∧
    ms = [⟨qp, .nw, .dct kvs⟩] ∧ ∃ x8, ε = [.dat (dNet n), .dat (dSta s), .dat (dNats p.nodes), .dat (.list (p.sts.map dStn)), .dat (.list (p.lns.map dLn)), .dat (.int ((p.wid : Nat) - 1)), .dat (.list (rg p.wid fun _ => .int 0)), .ref qp, x8, .un, .un, .un, .un, .un, .un, .un, .un, .un, .un, .un]) [8] ?_ ?_ ?_)
  · exact ⟨[], Nat.le_refl _, fun v hv => by rw [if_neg (by omega)]; rfl, rfl, _, rfl⟩
  · rintro i _ _ hi ⟨kvs, lk, hk, rfl, x8, rfl⟩
    refine ⟨_, tg_name (by decide), ?_⟩
    have hi' : 1 + i < p.nodes.length := by omega
    refine do_dput (d := .int ((p.sts.length + (1 + i) : Nat) : Int)) (Ev.dat (ev_add (ev_len (vr 3)) (vr 8)) (by rw [List.length_map]; congr 1)) (vr 7) (ev_ixL (vr 2) (vr 8) (nats_at hi')) mem0 nofun (by omega) ⟨_, Nat.le_trans (putD_len _ _ _) (by omega), fun v hv => ?_, setMo_0, _, rfl⟩
    rw [valD_put, hk v hv]
    have ix := idx_at O.nd hi'
    by_cases z : v = p.nodes.getD (1 + i) 0
    · rw [if_pos (by rw [z]), if_pos (by rw [z, ix]; omega), z, ix]
    · rw [if_neg (fun e => z (by have := Sum.inl.inj e; omega))]
      have ne : p.idx v ≠ 1 + i := fun e => z (idx_inj hv (getD_mem hi') (e.trans ix.symm))
      by_cases q : 0 < p.idx v ∧ p.idx v ≤ i
      · rw [if_pos q, if_pos (by omega)]
      · rw [if_neg q, if_neg (by omega)]
  rintro _ _ ⟨kvs, lk, hk', rfl, x8, rfl⟩
  have hk : ∀ v ∈ p.nodes, valD kvs (Sum.inl ((v : Nat) : Int)) = if 0 < p.idx v then some (.int ((p.sts.length + p.idx v : Nat) : Int)) else none := fun v hv => by
    rw [hk' v hv]
    have := idx_lt hv
    by_cases q : 0 < p.idx v
    · rw [if_pos q, if_pos (by omega)]
    · rw [if_neg q, if_neg (by omega)]
  show Do K _ _ _ _
  refine do_seq (do_asg (s := .dat (.list [])) (EvO.know (en_lst (ds := []) ea_nil)) ?_)
  -- the stations
  obtain ⟨G1, hG1⟩ : ∃ G : Nat → List (Nat → Int), G = fun k => [fun j => if j = 0 then - (p.sts.getD k stn0).lo else if j = 1 + k then 1 else 0, fun j => if j = 0 then (p.sts.getD k stn0).hi else if j = 1 + k then -1 else 0] := ⟨_, rfl⟩
  refine do_seq (do_forR (n := p.sts.length) (ei_range (n := p.sts.length) (ea1 (Ev.dat (ev_len (vr 3)) (by rw [List.length_map]))) (by omega)) (fun i ε ms => ms = [⟨qp, .nw, .dct kvs⟩] ∧
    ∃ x8 x10 x11, ε = [.dat (dNet n), .dat (dSta s), .dat (dNats p.nodes), .dat (.list (p.sts.map dStn)), .dat (.list (p.lns.map dLn)), .dat (.int ((p.wid : Nat) - 1)), .dat (.list (rg p.wid fun _ => .int 0)), .ref qp, x8, .dat (.list (((List.range i).flatMap G1).map (rowD p))), x10, x11, .un, .un, .un, .un, .un, .un, .un, .un]) [8] ?_ ?_ ?_)
  · exact ⟨rfl, _, _, _, rfl⟩
  · rintro i _ _ hi ⟨rfl, x8, x10, x11, rfl⟩
    have hj : 1 + i < p.wid := by unfold Part.wid; omega
    refine ⟨_, tg_name (by decide), ?_⟩
    refine do_seq (do_asgN (en_list (vr 6)) fun q1 hq1 => ?_)
    have n1 : qp ≠ q1 := hq1 _ mem0 _ mem0
    refine do_seq (do_asgN (en_list (vr 6)) fun q2 hq2 => ?_)
    have n2 : qp ≠ q2 := hq2 _ mem0 _ mem0
    have n3 : q1 ≠ q2 := hq2 _ mem1 _ mem0
    show Do K _ _ [⟨qp, .nw, .dct kvs⟩, ⟨q1, .nw, .lst (rg p.wid fun _ => .int 0)⟩, ⟨q2, .nw, .lst (rg p.wid fun _ => .int 0)⟩] _
    have st1 : ∀ {o : Mo} {m1 m2 : Mo}, setMo q1 o [⟨qp, .nw, .dct kvs⟩, ⟨q1, .nw, m1⟩, ⟨q2, .nw, m2⟩] = [⟨qp, .nw, .dct kvs⟩, ⟨q1, .nw, o⟩, ⟨q2, .nw, m2⟩] := by intro o m1 m2; rw [setMo_cons, if_neg n1, setMo_cons, if_pos rfl, setMo_cons, if_neg n3.symm, setMo_nil]
    refine do_seq (do_setL (ev_neg (ev_ixT (ev_ixL (vr 3) (vr 8) (map_at (d := stn0) hi)) ci rfl)) (vr 10) ci mem1 nofun (by decide) (by rw [rg_len]; omega) ?_)
    rw [st1, rg_set]
    refine do_seq (do_setL ci (vr 10) (Ev.dat (e := .int ((1 + i : Nat) : Int)) (ev_add ci (vr 8)) (by congr 1)) mem1 nofun (by omega) (by rw [rg_len]; omega) ?_)
    rw [st1, rg_set, show (((1 + i : Nat) : Int)).toNat = 1 + i by omega]
    refine do_seq (do_setL (ev_ixT (ev_ixL (vr 3) (vr 8) (map_at (d := stn0) hi)) ci rfl) (vr 11) ci mem2 nofun (by decide) (by rw [rg_len]; omega) ?_)
    rw [setMo_2 n2 n3, rg_set]
    refine do_seq (do_setL (ev_neg ci) (vr 11) (Ev.dat (e := .int ((1 + i : Nat) : Int)) (ev_add ci (vr 8)) (by congr 1)) mem2 nofun (by omega) (by rw [rg_len]; omega) ?_)
    rw [setMo_2 n2 n3, rg_set, show (((1 + i : Nat) : Int)).toNat = 1 + i by omega]
    have eL : (rg p.wid fun j => if j = 1 + i then PyData.int 1 else if j = (0 : Int).toNat then .int (- (p.sts.getD i stn0).lo) else .int 0) = rg p.wid fun j => .int (if j = 0 then - (p.sts.getD i stn0).lo else if j = 1 + i then 1 else 0) := rg_congr fun j _ => by
      show (if j = 1 + i then PyData.int 1 else if j = 0 then .int (- (p.sts.getD i stn0).lo) else .int 0) = _
      by_cases c : j = 0
      · rw [if_neg (show ¬ j = 1 + i by omega), if_pos c, if_pos c]
      · rw [if_neg c, if_neg c]
        by_cases c2 : j = 1 + i
        · rw [if_pos c2, if_pos c2]
        · rw [if_neg c2, if_neg c2]
    have eH : (rg p.wid fun j => if j = 1 + i then PyData.int (-1) else if j = (0 : Int).toNat then .int (p.sts.getD i stn0).hi else .int 0) = rg p.wid fun j => .int (if j = 0 then (p.sts.getD i stn0).hi else if j = 1 + i then -1 else 0) := rg_congr fun j _ => by
      show (if j = 1 + i then PyData.int (-1) else if j = 0 then .int (p.sts.getD i stn0).hi else .int 0) = _
      by_cases c : j = 0
      · rw [if_neg (show ¬ j = 1 + i by omega), if_pos c, if_pos c]
      · rw [if_neg c, if_neg c]
        by_cases c2 : j = 1 + i
        · rw [if_pos c2, if_pos c2]
        · rw [if_neg c2, if_neg c2]
    rw [eL, eH]
    refine do_fg (ε' := [.dat (dNet n), .dat (dSta s), .dat (dNats p.nodes), .dat (.list (p.sts.map dStn)), .dat (.list (p.lns.map dLn)), .dat (.int ((p.wid : Nat) - 1)), .dat (.list (rg p.wid fun _ => .int 0)), .ref qp, .un, .dat (.list (((List.range i).flatMap G1).map (rowD p))), .ref q1, .ref q2, .un, .un, .un, .un, .un, .un, .un, .un]) (by (repeat (first | exact Fg.nil | apply Fg.un | apply Fg.eq))) ?_
    refine do_freeze (a := q1) mem1 ?_
    rw [without_miss n1, without_hit, without_miss n3.symm, without_nil]
    simp only [asDat_nil, asDat_un, asDat_dat, asDat_hit, asDat_miss n1, asDat_miss n3.symm]
    refine do_freeze (a := q2) mem1 ?_
    rw [without_miss n2, without_hit, without_nil]
    simp only [asDat_nil, asDat_un, asDat_dat, asDat_hit, asDat_miss n2]
    refine do_asg (s := .dat (.list (((List.range (i + 1)).flatMap G1).map (rowD p)))) (Ev.dat (EvO.know (en_cat (vr 9) (EvO.know (en_lst (ds := [_, _]) (ea_cons (vr 10) (ea1 (vr 11))))) ?_)) ?_) ⟨rfl, _, _, _, rfl⟩
    · rw [List.length_map, hG1, flat2_len, List.length_range]
      show 2 * i + 2 ≤ 100000
      omega
    · rw [range_flat, List.map_append, hG1]
      rfl
  rintro _ _ ⟨rfl, x8, x10, x11, rfl⟩
  have eS : (List.range p.sts.length).flatMap G1 = p.stRows := by rw [hG1]; rfl
  rw [eS]
  have lS : p.stRows.length = 2 * p.sts.length := by unfold Part.stRows; rw [flat2_len, List.length_range]
  show Do K _ _ _ _
  refine do_seq (do_asgN (en_lst (ds := []) ea_nil) fun qf hqf => ?_)
  have npf : qp ≠ qf := hqf _ mem0 _ mem0
  -- the lines
  obtain ⟨G2, hG2⟩ : ∃ G : Ln → List (Nat → Int), G = fun x => [fun j => if j = 0 then x.l else - p.flow x j, fun j => if j = 0 then x.l else p.flow x j] := ⟨_, rfl⟩
  have eL : p.lns.flatMap G2 = p.lnRows := by rw [hG2]; rfl
  have l2 : ∀ i, ((p.lns.take i).flatMap G2).length ≤ 16 := fun i => by
    rw [hG2, flat2_len, List.length_take]
    omega
  obtain ⟨fD, hfD⟩ : ∃ fD : Ln → PyData, fD = fun x => .list (rg p.wid fun j => .int (p.flow x j)) := ⟨_, rfl⟩
  refine do_seq (do_forR (n := p.lns.length) ((ei_list (vr 4)).to (map_rg p.lns dLn ln0)) (fun i ε ms => ms = [⟨qp, .nw, .dct kvs⟩, ⟨qf, .nw, .lst ((p.lns.take i).map fD)⟩] ∧
    ∃ x8 x10 x11 x13 x14, ε = [.dat (dNet n), .dat (dSta s), .dat (dNats p.nodes), .dat (.list (p.sts.map dStn)), .dat (.list (p.lns.map dLn)), .dat (.int ((p.wid : Nat) - 1)), .dat (.list (rg p.wid fun _ => .int 0)), .ref qp, x8, .dat (.list ((p.stRows ++ (p.lns.take i).flatMap G2).map (rowD p))), x10, x11, .ref qf, x13, x14, .un, .un, .un, .un, .un]) [13] ?_ ?_ ?_)
  · refine ⟨rfl, x8, x10, x11, .un, .un, ?_⟩
    rw [show p.stRows ++ (p.lns.take 0).flatMap G2 = p.stRows from List.append_nil _]
    rfl
  · rintro i _ _ hi ⟨rfl, x8, x10, x11, x13, x14, rfl⟩
    refine ⟨_, tg_name (by decide), ?_⟩
    obtain ⟨x, hx⟩ : ∃ x, x = p.lns.getD i ln0 := ⟨_, rfl⟩
    have ox := O.ln x (by rw [hx]; exact getD_mem hi)
    have ia := idx_lt ox.1
    have ib := idx_lt ox.2.1
    have iab : p.idx x.a ≠ p.idx x.b := fun e => ox.2.2.1 (idx_inj ox.1 ox.2.1 e)
    rw [take_flat G2 ln0 hi, ← hx]
    obtain ⟨B, hB⟩ : ∃ B, B = p.stRows ++ (p.lns.take i).flatMap G2 := ⟨_, rfl⟩
    have lB : B.length ≤ 24 := by rw [hB, List.length_append, lS]; have := l2 i; omega
    rw [← List.append_assoc, ← hB]
    have tk : (p.lns.take (i + 1)).map fD = (p.lns.take i).map fD ++ [fD x] := by
      rw [List.take_add_one, List.getElem?_eq_getElem hi, List.map_append, hx, getD_at (List.getElem?_eq_getElem hi)]; rfl
    rw [tk]
    refine do_seq (do_asgN (en_list (vr 6)) fun q hq => ?_)
    have n1 : qp ≠ q := hq _ mem0 _ mem0
    have n2 : qf ≠ q := hq _ mem1 _ mem0
    show Do K _ [.dat (dNet n), .dat (dSta s), .dat (dNats p.nodes), .dat (.list (p.sts.map dStn)), .dat (.list (p.lns.map dLn)), .dat (.int ((p.wid : Nat) - 1)), .dat (.list (rg p.wid fun _ => .int 0)), .ref qp, x8, .dat (.list (B.map (rowD p))), x10, x11, .ref qf, .dat (dLn x), .ref q, .un, .un, .un, .un, .un] [⟨qp, .nw, .dct kvs⟩, ⟨qf, .nw, .lst ((p.lns.take i).map fD)⟩, ⟨q, .nw, .lst (rg p.wid fun _ => .int 0)⟩] _
    refine do_then (fun ε ms => ε = [.dat (dNet n), .dat (dSta s), .dat (dNats p.nodes), .dat (.list (p.sts.map dStn)), .dat (.list (p.lns.map dLn)), .dat (.int ((p.wid : Nat) - 1)), .dat (.list (rg p.wid fun _ => .int 0)), .ref qp, x8, .dat (.list (B.map (rowD p))), x10, x11, .ref qf, .dat (dLn x), .ref q, .un, .un, .un, .un, .un] ∧ ms = [⟨qp, .nw, .dct kvs⟩, ⟨qf, .nw, .lst ((p.lns.take i).map fD)⟩, ⟨q, .nw, .lst (rg p.wid fun j => .int (p.pot x.a x.s j))⟩]) ?_ ?_
    · refine do_if (b := decide (0 < p.idx x.a)) (EvB.to (eb_B (ev_din (ev_ixT (vr 13) ci rfl) (vr 7) mem0)) ?_) (fun hb => ?_) (fun hb => Do.next ⟨rfl, ?_⟩)
      · rw [hk x.a ox.1]
        by_cases z : 0 < p.idx x.a
        · rw [if_pos z, decide_eq_true z]; rfl
        · rw [if_neg z, decide_eq_false z]; rfl
      · have z := of_decide_eq_true hb
        refine do_setL (ev_ixT (vr 13) ci rfl) (vr 14) (ev_dget (vr 7) (ev_ixT (vr 13) ci rfl) mem0 (by rw [hk x.a ox.1, if_pos z])) mem2 nofun (by omega) (by rw [rg_len]; unfold Part.wid; omega) ⟨rfl, ?_⟩
        rw [setMo_2 n1 n2, rg_set, show (((p.sts.length + p.idx x.a : Nat) : Int)).toNat = p.sts.length + p.idx x.a by omega]
        congr 4
        congr 1
        refine rg_congr fun j _ => ?_
        unfold Part.pot
        by_cases c2 : j = p.sts.length + p.idx x.a
        · rw [if_pos c2, if_pos ⟨z, c2⟩]
        · rw [if_neg c2, if_neg (fun h => c2 h.2)]
      · have z := of_decide_eq_false hb
        congr 4
        congr 1
        refine rg_congr fun j _ => ?_
        unfold Part.pot
        rw [if_neg (fun h => z h.1)]
    rintro _ _ ⟨rfl, rfl⟩
    refine do_then (fun ε ms => ε = [.dat (dNet n), .dat (dSta s), .dat (dNats p.nodes), .dat (.list (p.sts.map dStn)), .dat (.list (p.lns.map dLn)), .dat (.int ((p.wid : Nat) - 1)), .dat (.list (rg p.wid fun _ => .int 0)), .ref qp, x8, .dat (.list (B.map (rowD p))), x10, x11, .ref qf, .dat (dLn x), .ref q, .un, .un, .un, .un, .un] ∧ ms = [⟨qp, .nw, .dct kvs⟩, ⟨qf, .nw, .lst ((p.lns.take i).map fD)⟩, ⟨q, .nw, .lst (rg p.wid fun j => .int (p.flow x j))⟩]) ?_ ?_
    · refine do_if (b := decide (0 < p.idx x.b)) (EvB.to (eb_B (ev_din (ev_ixT (vr 13) ci rfl) (vr 7) mem0)) ?_) (fun hb => ?_) (fun hb => Do.next ⟨rfl, ?_⟩)
      · rw [hk x.b ox.2.1]
        by_cases z : 0 < p.idx x.b
        · rw [if_pos z, decide_eq_true z]; rfl
        · rw [if_neg z, decide_eq_false z]; rfl
      · have z := of_decide_eq_true hb
        refine do_setL (ev_neg (ev_ixT (vr 13) ci rfl)) (vr 14) (ev_dget (vr 7) (ev_ixT (vr 13) ci rfl) mem0 (by rw [hk x.b ox.2.1, if_pos z])) mem2 nofun (by omega) (by rw [rg_len]; unfold Part.wid; omega) ⟨rfl, ?_⟩
        rw [setMo_2 n1 n2, rg_set, show (((p.sts.length + p.idx x.b : Nat) : Int)).toNat = p.sts.length + p.idx x.b by omega]
        congr 4
        congr 1
        refine rg_congr fun j _ => ?_
        unfold Part.flow Part.pot
        by_cases c2 : j = p.sts.length + p.idx x.b
        · rw [if_pos c2, if_pos (c := 0 < p.idx x.b ∧ j = p.sts.length + p.idx x.b) ⟨z, c2⟩, if_neg (c := 0 < p.idx x.a ∧ _) (fun h => by omega), Int.zero_add]
        · rw [if_neg c2, if_neg (c := 0 < p.idx x.b ∧ _) (fun h => c2 h.2), Int.add_zero]
      · have z := of_decide_eq_false hb
        congr 4
        congr 1
        refine rg_congr fun j _ => ?_
        unfold Part.flow Part.pot
        rw [if_neg (c := 0 < p.idx x.b ∧ _) (fun h => z h.1), Int.add_zero]
    rintro _ _ ⟨rfl, rfl⟩
    refine do_fg (ε' := [.dat (dNet n), .dat (dSta s), .dat (dNats p.nodes), .dat (.list (p.sts.map dStn)), .dat (.list (p.lns.map dLn)), .dat (.int ((p.wid : Nat) - 1)), .dat (.list (rg p.wid fun _ => .int 0)), .ref qp, .un, .dat (.list (B.map (rowD p))), .un, .un, .ref qf, .dat (dLn x), .ref q, .un, .un, .un, .un, .un]) (by (repeat (first | exact Fg.nil | apply Fg.un | apply Fg.eq))) ?_
    refine do_freeze (a := q) mem2 ?_
    rw [without_miss n1, without_miss n2, without_hit, without_nil]
    simp only [asDat_nil, asDat_un, asDat_dat, asDat_hit, asDat_miss n1, asDat_miss n2]
    refine do_seq (do_app (vr 12) mem1 nofun (vr 14) (by rw [List.length_map, List.length_take]; omega) ?_)
    rw [setMo_1 npf]
    have f0 := flow0 (p := p) (x := x)
    refine do_asg (s := .dat (.list ((B ++ G2 x).map (rowD p)))) (Ev.dat (EvO.know (en_cat (vr 9) (EvO.know (en_lst (ds := [rowD p (lrow p x 0), rowD p (lrow p x 1)]) (ea_cons
      (Ev.dat (EvO.know (en_cat (EvO.know (en_lst (ds := [_]) (ea1 (ev_sub (ev_ixT (vr 13) ci rfl) (ev_ixL (vr 14) ci (at_nat (n := p.wid) (k := 0) w1)))))) (EvO.know (en_mapR (n := c) (ei_list (Ev.dat (EvO.know (en_sl (vr 14) (ep_some ci) ep_none)) (by rw [hc, cut_1]))) (fun j => .int (- p.flow x (1 + j))) (by omega) fun j hj => ⟨_, tg_name (by decide), ev_neg (vr 19)⟩)) (by rw [rg_len]; show 1 + c ≤ 100000; omega))) ?_)
      (ea1 (Ev.dat (EvO.know (en_cat (d2 := rg c fun j => .int (p.flow x (1 + j))) (EvO.know (en_lst (ds := [_]) (ea1 (ev_add (ev_ixT (vr 13) ci rfl) (ev_ixL (vr 14) ci (at_nat (n := p.wid) (k := 0) w1)))))) (Ev.dat (EvO.know (en_sl (vr 14) (ep_some ci) ep_none)) (by rw [hc, cut_1])) (by rw [rg_len]; show 1 + c ≤ 100000; omega))) ?_))))) ?_)) ?_) ⟨?_, _, _, _, _, _, rfl⟩
    · rw [cons_rg]
      unfold rowD
      rw [hc]
      congr 1
      refine rg_congr fun j _ => ?_
      unfold lrow
      by_cases z : j = 0
      · subst z
        rw [if_pos rfl, if_pos rfl, f0, Int.sub_zero]
      · rw [if_neg z, if_neg z, if_pos rfl, show 1 + (j - 1) = j by omega]
    · rw [cons_rg]
      unfold rowD
      rw [hc]
      congr 1
      refine rg_congr fun j _ => ?_
      unfold lrow
      by_cases z : j = 0
      · subst z
        rw [if_pos rfl, if_pos rfl, f0, Int.add_zero]
      · rw [if_neg z, if_neg z, if_neg (by decide), show 1 + (j - 1) = j by omega]
    · rw [List.length_map]
      show B.length + 2 ≤ 100000
      omega
    · rw [List.map_append, hG2]
      rfl
    · rw [hfD]
  rintro _ _ ⟨rfl, x8, x10, x11, x13, x14, rfl⟩
  rw [List.take_length, eL]
  have lL : p.lnRows.length ≤ 16 := by rw [← eL]; have := l2 p.lns.length; rw [List.take_length] at this; exact this
  show Do K _ _ _ _
  refine do_ms (ms' := [⟨qf, .nw, .lst (p.lns.map fD)⟩]) (fun e he => by cases List.mem_singleton.mp he; exact mem1) ?_
  refine do_fg (ε' := [.dat (dNet n), .dat (dSta s), .dat (dNats p.nodes), .dat (.list (p.sts.map dStn)), .dat (.list (p.lns.map dLn)), .dat (.int ((p.wid : Nat) - 1)), .dat (.list (rg p.wid fun _ => .int 0)), .un, .un, .dat (.list ((p.stRows ++ p.lnRows).map (rowD p))), .un, .un, .ref qf, .un, .un, .un, .un, .un, .un, .un]) (by (repeat (first | exact Fg.nil | apply Fg.un | apply Fg.eq))) ?_
  refine do_freeze (a := qf) mem0 ?_
  rw [without_hit, without_nil]
  simp only [asDat_nil, asDat_un, asDat_dat, asDat_hit]
  -- the nodes
  obtain ⟨G3, hG3⟩ : ∃ G : Nat → List (Nat → Int), G = fun v => [fun j => p.excess v j, fun j => - p.excess v j] := ⟨_, rfl⟩
  have eN : p.nodes.flatMap G3 = p.ndRows := by rw [hG3]; rfl
  have l3 : ∀ i, ((p.nodes.take i).flatMap G3).length ≤ 16 := fun i => by
    rw [hG3, flat2_len, List.length_take]
    omega
  refine do_seq (do_forR (n := p.nodes.length) ((ei_list (vr 2)).to (nats_rg p.nodes)) (fun i ε ms => (∃ rest, ms = rest) ∧
    ∃ x8 x15 x16 x17, ε = [.dat (dNet n), .dat (dSta s), .dat (dNats p.nodes), .dat (.list (p.sts.map dStn)), .dat (.list (p.lns.map dLn)), .dat (.int ((p.wid : Nat) - 1)), .dat (.list (rg p.wid fun _ => .int 0)), .un, x8, .dat (.list ((p.stRows ++ p.lnRows ++ (p.nodes.take i).flatMap G3).map (rowD p))), .un, .un, .dat (.list (p.lns.map fD)), .un, .un, x15, x16, x17, .un, .un]) [15] ?_ ?_ ?_)
  · refine ⟨⟨_, rfl⟩, .un, .un, .un, .un, ?_⟩
    rw [show p.stRows ++ p.lnRows ++ (p.nodes.take 0).flatMap G3 = p.stRows ++ p.lnRows from List.append_nil _]
  · rintro i _ ms0 hi ⟨_, x8, x15, x16, x17, rfl⟩
    refine ⟨_, tg_name (by decide), ?_⟩
    refine do_ms (ms' := []) (fun _ h => nomatch h) ?_
    obtain ⟨v, hv⟩ : ∃ v, v = p.nodes.getD i 0 := ⟨_, rfl⟩
    have vin : v ∈ p.nodes := by rw [hv]; exact getD_mem hi
    rw [take_flat G3 0 hi, ← hv]
    obtain ⟨B, hB⟩ : ∃ B, B = p.stRows ++ p.lnRows ++ (p.nodes.take i).flatMap G3 := ⟨_, rfl⟩
    have lB : B.length ≤ 40 := by rw [hB, List.length_append, List.length_append, lS]; have := l3 i; omega
    rw [← List.append_assoc (p.stRows ++ p.lnRows), ← hB]
    refine do_seq (do_asgN (en_list (vr 6)) fun q _ => ?_)
    refine do_seq (do_setL (ev_neg (ev_call (ds := [_, _, _]) (ea_cons (vr 0) (ea_cons (vr 1) (ea1 (vr 15)))) ⟨n, s, v, rfl, I.sta, rfl⟩)) (vr 16) ci mem0 nofun (by decide) (by rw [rg_len]; omega) ?_)
    rw [show [] ++ [(⟨q, .nw, .lst (rg p.wid fun _ => .int 0)⟩ : Me)] = [⟨q, .nw, .lst (rg p.wid fun _ => .int 0)⟩] from rfl, setMo_0, rg_set]
    show Do K _ [.dat (dNet n), .dat (dSta s), .dat (dNats p.nodes), .dat (.list (p.sts.map dStn)), .dat (.list (p.lns.map dLn)), .dat (.int ((p.wid : Nat) - 1)), .dat (.list (rg p.wid fun _ => .int 0)), .un, x8, .dat (.list (B.map (rowD p))), .un, .un, .dat (.list (p.lns.map fD)), .un, .un, .dat (.int (v : Nat)), .ref q, x17, .un, .un] _ _
    refine do_seq (do_forR (n := p.sts.length) (ei_range (n := p.sts.length) (ea1 (Ev.dat (ev_len (vr 3)) (by rw [List.length_map]))) (by omega)) (fun k ε ms => ms = [⟨q, .nw, .lst (rg p.wid fun j => .int ((sm k fun k => if (p.sts.getD k stn0).node = v ∧ j = 1 + k then 1 else 0) + if j = 0 then p.exL v else 0))⟩] ∧
      ∃ x8 x17, ε = [.dat (dNet n), .dat (dSta s), .dat (dNats p.nodes), .dat (.list (p.sts.map dStn)), .dat (.list (p.lns.map dLn)), .dat (.int ((p.wid : Nat) - 1)), .dat (.list (rg p.wid fun _ => .int 0)), .un, x8, .dat (.list (B.map (rowD p))), .un, .un, .dat (.list (p.lns.map fD)), .un, .un, .dat (.int (v : Nat)), .ref q, x17, .un, .un]) [8] ?_ ?_ ?_)
    · refine ⟨?_, _, _, rfl⟩
      congr 3
      refine rg_congr fun j _ => ?_
      show (if j = 0 then PyData.int (- fedV n s v) else .int 0) = .int (0 + if j = 0 then p.exL v else 0)
      rw [fedE v vin]
      by_cases z : j = 0
      · rw [if_pos z, if_pos z, Int.zero_add]
      · rw [if_neg z, if_neg z]; rfl
    · rintro k _ _ hk2 ⟨rfl, x8, x17, rfl⟩
      refine ⟨_, tg_name (by decide), ?_⟩
      have hj : 1 + k < p.wid := by unfold Part.wid; omega
      refine do_if (b := decide ((p.sts.getD k stn0).node = v)) (EvB.to (eb_test (ev_eqI (ev_ixT (ev_ixL (vr 3) (vr 8) (map_at (d := stn0) hk2)) ci rfl) (vr 15))) (decide_eq_decide.mpr (by omega))) (fun hb => ?_) (fun hb => Do.next ⟨?_, _, _, rfl⟩)
      · have z := of_decide_eq_true hb
        refine do_setL (ev_add (ev_ixM (vr 16) (Ev.dat (e := .int ((1 + k : Nat) : Int)) (ev_add ci (vr 8)) (by congr 1)) mem0 (at_nat hj)) ci) (vr 16) (Ev.dat (e := .int ((1 + k : Nat) : Int)) (ev_add ci (vr 8)) (by congr 1)) mem0 nofun (by omega) (by rw [rg_len]; omega) ⟨?_, _, _, rfl⟩
        rw [setMo_0, rg_set, show (((1 + k : Nat) : Int)).toNat = 1 + k by omega]
        congr 3
        refine rg_congr fun j _ => ?_
        show (if j = 1 + k then _ else _) = PyData.int (((sm k fun k => if (p.sts.getD k stn0).node = v ∧ j = 1 + k then 1 else 0) + if (p.sts.getD k stn0).node = v ∧ j = 1 + k then 1 else 0) + if j = 0 then p.exL v else 0)
        by_cases c2 : j = 1 + k
        · rw [if_pos c2, if_pos (c := _ ∧ _) ⟨z, c2⟩, ← c2]
          congr 1
          omega
        · rw [if_neg c2, if_neg (c := _ ∧ j = 1 + k) (fun h => c2 h.2), Int.add_zero]
      · have z := of_decide_eq_false hb
        congr 3
        refine rg_congr fun j _ => ?_
        show _ = PyData.int (((sm k fun k => if (p.sts.getD k stn0).node = v ∧ j = 1 + k then 1 else 0) + if (p.sts.getD k stn0).node = v ∧ j = 1 + k then 1 else 0) + if j = 0 then p.exL v else 0)
        rw [if_neg (c := _ ∧ j = 1 + k) (fun h => z h.1), Int.add_zero]
    rintro _ _ ⟨rfl, x8, x17, rfl⟩
    show Do K _ _ _ _
    refine do_fg (ε' := [.dat (dNet n), .dat (dSta s), .dat (dNats p.nodes), .dat (.list (p.sts.map dStn)), .dat (.list (p.lns.map dLn)), .dat (.int ((p.wid : Nat) - 1)), .dat (.list (rg p.wid fun _ => .int 0)), .un, .un, .dat (.list (B.map (rowD p))), .un, .un, .dat (.list (p.lns.map fD)), .un, .un, .dat (.int (v : Nat)), .ref q, .un, .un, .un]) (by (repeat (first | exact Fg.nil | apply Fg.un | apply Fg.eq))) ?_
    refine do_freeze (a := q) mem0 ?_
    rw [without_hit, without_nil]
    simp only [asDat_nil, asDat_un, asDat_dat, asDat_hit]
    obtain ⟨fl, hfl⟩ : ∃ fl : Nat → Nat → Int, fl = fun i j => ((p.lns.take i).map fun x => Part.sgn x v * p.flow x j).sum := ⟨_, rfl⟩
    refine do_seq (do_forR (n := p.lns.length) (ei_range (n := p.lns.length) (ea1 (Ev.dat (ev_len (vr 4)) (by rw [List.length_map]))) (by omega)) (fun k ε ms => ms = [] ∧
      ∃ x8 x17, ε = [.dat (dNet n), .dat (dSta s), .dat (dNats p.nodes), .dat (.list (p.sts.map dStn)), .dat (.list (p.lns.map dLn)), .dat (.int ((p.wid : Nat) - 1)), .dat (.list (rg p.wid fun _ => .int 0)), .un, x8, .dat (.list (B.map (rowD p))), .un, .un, .dat (.list (p.lns.map fD)), .un, .un, .dat (.int (v : Nat)), .dat (.list (rg p.wid fun j => .int (p.exS v j + (if j = 0 then p.exL v else 0) + fl k j))), x17, .un, .un]) [8] ?_ ?_ ?_)
    · refine ⟨rfl, .un, .un, ?_⟩
      have e : (rg p.wid fun j => PyData.int ((sm p.sts.length fun k => if (p.sts.getD k stn0).node = v ∧ j = 1 + k then 1 else 0) + if j = 0 then p.exL v else 0)) = rg p.wid fun j => PyData.int (p.exS v j + (if j = 0 then p.exL v else 0) + fl 0 j) := rg_congr fun j _ => by
        rw [hfl]
        show _ = PyData.int (_ + 0)
        rw [Int.add_zero]
        rfl
      rw [e]
    · rintro k _ _ hk2 ⟨rfl, x8, x17, rfl⟩
      refine ⟨_, tg_name (by decide), ?_⟩
      obtain ⟨x, hx⟩ : ∃ x, x = p.lns.getD k ln0 := ⟨_, rfl⟩
      have ox := O.ln x (by rw [hx]; exact getD_mem hk2)
      have st : ∀ j, fl (k + 1) j = fl k j + Part.sgn x v * p.flow x j := fun j => by rw [hfl, hx]; exact take_sum _ ln0 hk2
      have gx : atI (p.lns.map dLn) ((k : Nat) : Int) = some (dLn x) := by rw [hx]; exact map_at hk2
      have gf : atI (p.lns.map fD) ((k : Nat) : Int) = some (.list (rg p.wid fun j => .int (p.flow x j))) := by rw [map_at (d := ln0) hk2, hx, hfD]
      refine do_seq (do_asg (s := .dat (.int (Part.sgn x v))) (Ev.dat (ev_sub (ev_intB (ev_eqI (ev_ixT (ev_ixL (vr 4) (vr 8) gx) ci rfl) (vr 15))) (ev_intB (ev_eqI (ev_ixT (ev_ixL (vr 4) (vr 8) gx) ci rfl) (vr 15)))) ?_) ?_)
      · unfold Part.sgn
        have ne := ox.2.2.1
        congr 1
        by_cases ca : x.a = v
        · have cb : ¬ x.b = v := fun h => ne (ca.trans h.symm)
          rw [if_pos ca, decide_eq_true (show ((x.a : Nat) : Int) = (v : Nat) by omega), decide_eq_false (show ¬ ((x.b : Nat) : Int) = (v : Nat) by omega)]
          rfl
        · rw [if_neg ca, decide_eq_false (show ¬ ((x.a : Nat) : Int) = (v : Nat) by omega)]
          by_cases cb : x.b = v
          · rw [if_pos cb, decide_eq_true (show ((x.b : Nat) : Int) = (v : Nat) by omega)]
            rfl
          · rw [if_neg cb, decide_eq_false (show ¬ ((x.b : Nat) : Int) = (v : Nat) by omega)]
            rfl
      have sg : (Part.sgn x v).natAbs < 2 ^ 20 := by unfold Part.sgn; split; decide; split <;> decide
      refine do_asg (s := .dat (.list (rg p.wid fun j => .int (p.exS v j + (if j = 0 then p.exL v else 0) + fl (k + 1) j)))) (EvO.know (en_mapR (n := p.wid) (ei_range (n := p.wid) (ea1 (Ev.dat (ev_add ci (vr 5)) (by congr 1; omega))) (by omega)) _ (by omega) fun j hj => ⟨_, tg_name (by decide), Ev.dat (ev_add (ev_ixL (vr 16) (vr 18) (at_nat hj)) (ev_mul (vr 17) (ev_ixL (ev_ixL (vr 12) (vr 8) gf) (vr 18) (at_nat hj)) (mulSmall sg ?_))) ?_⟩)) ⟨rfl, _, _, rfl⟩
      · have := flow_abs (p := p) (x := x) (j := j) (by omega)
        omega
      · rw [st]
        congr 1
        omega
    rintro _ _ ⟨rfl, x8, x17, rfl⟩
    have eX : (rg p.wid fun j => PyData.int (p.exS v j + (if j = 0 then p.exL v else 0) + fl p.lns.length j)) = rg p.wid fun j => .int (p.excess v j) := rg_congr fun j _ => by
      rw [hfl]
      show PyData.int (_ + ((p.lns.take p.lns.length).map _).sum) = _
      rw [List.take_length]
      rfl
    rw [eX]
    show Do K _ _ _ _
    refine do_asg (s := .dat (.list ((B ++ G3 v).map (rowD p)))) (Ev.dat (EvO.know (en_cat (vr 9) (EvO.know (en_lst (ds := [_, _]) (ea_cons (vr 16) (ea1 (EvO.know (en_mapR (n := p.wid) (ei_list (vr 16)) (fun j => .int (- p.excess v j)) (by omega) fun j hj => ⟨_, tg_name (by decide), ev_neg (vr 19)⟩)))))) ?_)) ?_) ⟨⟨_, rfl⟩, _, _, _, _, rfl⟩
    · rw [List.length_map]
      show B.length + 2 ≤ 100000
      omega
    · rw [List.map_append, hG3]
      rfl
  rintro _ _ ⟨_, x8, x15, x16, x17, rfl⟩
  rw [List.take_length, eN]
  exact do_ret (vr 9) rfl
end
end Rl
set_option Elab.async false
set_option linter.all false
set_option maxRecDepth 100000
set_option maxHeartbeats 4000000
set_option exponentiation.threshold 10000
/-! the law's refusal. -/
namespace Rl
open PySem PySem.Spec PyProof.Rows L2
theorem truth_ints {prog : Program} {w : World} {A : Around} {ns : List Int} {its : List Value} (r : Vals (ns.map V.int) its) : TruthOf prog w A (fun i v => its.toArray[i]? = some v) (fun i => ns.getD i 0 != 0) := fun i v s Q E hv hq => by
  have hv' : its[i]? = some v := by simpa using hv
  have hi : i < ns.length := by
    have h1 := (List.getElem?_eq_some_iff.mp hv').1
    have h2 := r.length
    rw [List.length_map] at h2
    omega
  obtain ⟨u, e1, q⟩ := r.get (i := i) (x := V.int (ns.getD i 0)) (by rw [List.getElem?_map, List.getElem?_eq_getElem hi, getD_at (List.getElem?_eq_getElem hi)]; rfl)
  rw [hv'] at e1
  cases e1
  obtain ⟨t, rfl⟩ := q
  exact P.truthy_int hq
def rAnyI (K : PySem.W.Frag) : List V → Hp → VK → Prop := fun vs H Q => ∃ (a : Addr) (ns : List Int), vs = [V.ref a] ∧ SqL K H a (ns.map V.int) ∧ Q (.bl (ns.any fun z => z != 0)) H
theorem anyI_range : ∀ ns : List Int, (List.range ns.length).any (fun i => ns.getD i 0 != 0) = ns.any fun z => z != 0
  | [] => rfl
  | n :: ns => by
    rw [List.length_cons, List.range_succ_eq_map, List.any_cons, List.any_map, List.any_cons, ← anyI_range ns]
    rfl
theorem cr_anyI {X : Cx} (hc : X.calm = true) : CallR X (.builtin "any") (rAnyI X.K) := by
  intro pins s σ H vs us Q I r h
  obtain ⟨a, ns, rfl, hs, q⟩ := h
  obtain ⟨its, rv, hl, _⟩ := I.list hs
  rw [Vals.ref1 r]
  refine call_any_walk (iter_any hl.isList fun s₂ e2 st hne => ?_)
  subst e2
  refine ⟨_, _, _, _, _, _, _, rfl, Walks.list (A := X.A.in1) (I.ok.hd hc) _ a hne its.toArray, st, truth_ints rv, fun h' tk hk => ?_⟩
  refine ⟨.bl _, H, I.kept fun b o eo => hk b o (fun hmem => ?_) (Heap.get?_push_of_some _ eo), ?_, q⟩
  · rcases List.mem_cons.mp hmem with e1 | hmem
    · exact absurd (e1 ▸ Heap.lt_size eo) (Nat.lt_irrefl _)
    · cases hmem
  · show Value.bool _ = Value.bool _
    have := rv.length
    rw [List.length_map] at this
    rw [← anyI_range, List.size_toArray, this]
theorem ev_anyI {K : PySem.W.Frag} {ε : List Sl} {ms : Ms} {ta : TE} {ns : List Int} (ha : Ev K ta ε ms (.dat (.list (dints ns)))) : Ev K (tCB (rAnyI K) (tCons ta tNil)) ε ms (.dat (.bool (ns.any fun z => z != 0))) :=
  ev_cb (ea1 ha) fun Hk H vs sm _ dvs Q q => by
    obtain ⟨v, rfl, dv⟩ := sls1 dvs
    obtain ⟨a, xs, rfl, hx, dx⟩ := dp_list dv
    rw [dp_ints dx] at hx
    exact ⟨a, ns, rfl, SqL.of (sm _ _ hx), q _ Hk H (.refl sm) (.bl _)⟩
theorem sm_sum (f : Nat → Int) : ∀ n, ((List.range n).map f).sum = sm n f
  | 0 => rfl
  | n + 1 => by
    rw [List.range_succ, List.map_append, List.sum_append, sm_sum f n]
    show _ + (f n + 0) = _ + f n
    rw [Int.add_zero]
section
variable {P : Program} {w : World} {K : PySem.W.Frag} {mg : Str → Option Value} {base : Heap} {CT CI : Addr}
def cLRef : List PyData → PyData → Prop := fun ds r => ∃ (p : Part) (ks : List Int), ds = [rowsD p, .list (dints ks)] ∧ PartOk p ∧ Bar p ks ∧ r = .bool true
abbrev s_law_is_refusal : Stmt := topS 41
abbrev N_law_is_refusal : List Str := ["_law_rows", "_law_integers", "_law_width", "_law_sums", "_law_j", "_law_item", "_law_k"]
theorem sc_law_is_refusal : FnScope N_law_is_refusal ["_law_rows", "_law_integers"] (defScope s_law_is_refusal) := ⟨rfl, rfl, rfl, by decide +kernel, rfl, by decide +kernel, by decide +kernel⟩
theorem w_law_is_refusal (T : Txt K mg CT CI) (D : Def K mg "_law_is_refusal" s_law_is_refusal ["_law_rows", "_law_integers"]) : Cal P w K mg base "_law_is_refusal" 1 ["_law_rows", "_law_integers"] (ctr K (pur cLRef)) := by
  refine D.cal sc_law_is_refusal (fun ss ms M R ⟨ds, r, e, _, _, ⟨_, _, e2, _⟩, _⟩ => by rw [e, e2]; rfl) fun f cdv A outer s H vs Q E hr => ?_
  refine ⟨_, pss_cons (ps_if (PW.pt (pw_or (pt_cmpR op_ne (pe_callB call_len_seq (by rfl) T.b_len (by decide +kernel) (pa_cons (pv 1) pa_nil)) (pe_callB call_len_seq (by rfl) T.b_len (by decide +kernel) (pa_cons (pv 0) pa_nil)) (nomark _)) (pw_or1 (pt_val (pe_callB (cr_any rfl) (by rfl) T.b_any (by decide +kernel) (pa_cons (pe_lc (own := [("_law_item", 5)]) (g := gName 5) (tt := tYes) rfl sc_law_is_refusal.nd (pi_list (pv 1)) (blkOk_by (N := N_law_is_refusal) (sc := defScope s_law_is_refusal) (by decide +kernel)) (fun _ _ _ _ _ => pg_name (i := 5) sc_law_is_refusal.nd rfl (Or.inl rfl)) (fun _ _ _ _ _ => pts_nil) (fun _ _ _ _ _ => pe_cmpR op_lt (pv 5) (pe_int) (nomark _))) pa_nil))))))
      (pss_one (ps_ret (pe_bl)))
      (pss_nil))
    (pss_cons (ps_set (i := 2) sc_law_is_refusal.nd rfl (Or.inl rfl) (pe_int))
    (pss_cons (ps_if (pt_cmpR op_gt (pe_callB call_len_seq (by rfl) T.b_len (by decide +kernel) (pa_cons (pv 0) pa_nil)) (pe_int) (nomark _))
      (pss_one (ps_set (i := 2) sc_law_is_refusal.nd rfl (Or.inl rfl) (pe_callB call_len_seq (by rfl) T.b_len (by decide +kernel) (pa_cons (pe_ix ix_list (pv 0) (pe_int) (fun _ _ => rfl)) pa_nil))))
      (pss_nil))
    (pss_cons (ps_setLc (i := 3) (own := [("_law_j", 4)]) (g := gName 4) (tt := tYes) rfl sc_law_is_refusal.nd rfl rfl (sw_true rfl rfl rfl (by decide +kernel)) (pi_range1 (by rfl) T.b_range (pa_cons (pv 2) pa_nil)) (blkOk_by (N := N_law_is_refusal) (sc := defScope s_law_is_refusal) (by decide +kernel)) (fun _ _ _ _ _ => pg_name (i := 4) sc_law_is_refusal.nd rfl (Or.inr rfl)) (fun _ _ _ _ _ => pts_nil) (fun _ _ _ _ _ => pe_callB (cr_sumK K rfl) (by rfl) T.b_sum (by decide +kernel) (pa_cons (pe_lc (own := [("_law_k", 6)]) (g := gName 6) (tt := tYes) rfl sc_law_is_refusal.nd (pi_range1 (by rfl) T.b_range (pa_cons (pe_callB (call_lenK K) (by rfl) T.b_len (by decide +kernel) (pa_cons (pv 0) pa_nil)) pa_nil)) (blkOk_by (N := N_law_is_refusal) (sc := relS (lcScope (stE ((defBody s_law_is_refusal).getD 3 (.Pass ⟨0, 0, 0, 0⟩)))) (defScope s_law_is_refusal)) (by decide +kernel)) (fun _ _ _ _ _ => pg_name (i := 6) sc_law_is_refusal.nd rfl (Or.inl rfl)) (fun _ _ _ _ _ => pts_nil) (fun _ _ _ _ _ => pe_op op_mulW (pe_ix (ix_listK K) (pv 1) (pv 6) (fun _ _ => rfl)) (pe_ix (ix_listK K) (pe_ix (ix_listK K) (pv 0) (pv 6) (fun _ _ => rfl)) (pv 4) (fun _ _ => rfl)))) pa_nil)))
    (pss_one (ps_ret (pe_and (pe_cmpR op_lt (pe_ix ix_list (pv 3) (pe_int) (fun _ _ => rfl)) (pe_int) (nomark _)) (pe_one (pe_not (pe_callB (cr_anyI rfl) (by rfl) T.b_any (by decide +kernel) (pa_cons (pe_slice sl_list (pv 3) (po_some (pe_int)) po_none) pa_nil)))))))))), ?_⟩
  rintro _ _ _ _ ⟨_, _, rfl, rfl, rfl, ⟨p, ks, rfl, O, B, rfl⟩, rfl⟩
  have h1 := O.ne.1
  have h8 := O.ne.2
  have h4 := O.sts
  have h9 := O.lns
  have lr := rows_len (p := p)
  have w1 : 1 ≤ p.wid := by unfold Part.wid; omega
  have w12 : p.wid ≤ 12 := by unfold Part.wid; omega
  have lk := B.len
  obtain ⟨c, hc⟩ : ∃ c, p.wid = c + 1 := ⟨p.wid - 1, by omega⟩
  have eR : rowsD p = .list (rg p.rows.length fun k => rowD p (p.row k)) := by unfold rowsD; rw [rows_rg]
  rw [eR]
  show Do K _ [.dat (.list (rg p.rows.length fun k => rowD p (p.row k))), .dat (.list (dints ks)), .un, .un, .un, .un, .un] [] _
  refine do_seq (do_if (b := false) (EvB.to (eb_or (c := false) (eb_test (ev_neI (ev_len (vr 1)) (ev_len (vr 0)))) (fun _ => eb_B (Ev.dat (ev_any (bs := List.replicate (dints ks).length false) (Ev.dat (EvO.know (en_map (ei_list (vr 1)) (fun d => .bool false) ?_ fun d hd => ⟨_, tg_name (by decide), ?_⟩)) ?_)) ?_))) ?_) (fun hb => nomatch hb) (fun _ => Do.next ?_))
  · rw [List.length_map]; omega
  · obtain ⟨z, hz, rfl⟩ := List.mem_map.mp hd
    refine Ev.dat (ev_lt (vr 5) ci) ?_
    rw [decide_eq_false (by have := B.nn z hz; omega)]
  · rw [dbls_const]
  · congr 1
    rw [List.any_replicate]
    simp
  · rw [rg_len, List.length_map, lk]
    simp
  refine do_seq (do_asg ci ?_)
  refine do_seq (do_if (b := true) (EvB.to (eb_test (ev_gt (ev_len (vr 0)) ci)) (by rw [rg_len]; exact decide_eq_true (by omega))) (fun _ => ?_) (fun hb => nomatch hb))
  refine do_asg (s := .dat (.int (p.wid : Nat))) (Ev.dat (ev_len (ev_ixL (vr 0) ci (at_nat (n := p.rows.length) (k := 0) (by omega)))) (by rw [rg_len])) ?_
  obtain ⟨S, hS⟩ : ∃ S : Nat → Int, S = fun j => sm p.rows.length fun k => ks.getD k 0 * p.row k j := ⟨_, rfl⟩
  refine do_seq (do_asg (s := .dat (.list (rg p.wid fun j => .int (S j)))) (EvO.know (en_mapR (n := p.wid) (ei_range (n := p.wid) (ea1 (vr 2)) (by omega)) _ (by omega) fun j hj => ⟨_, tg_name (by decide), Ev.dat (ev_sum (ns := (List.range p.rows.length).map fun k => ks.getD k 0 * p.row k j) (Ev.dat (EvO.know (en_mapR (n := p.rows.length) (ei_range (n := p.rows.length) (ea1 (Ev.dat (ev_len (vr 0)) (by rw [rg_len]))) (by omega)) (fun k => .int (ks.getD k 0 * p.row k j)) (by omega) fun k hk => ⟨_, tg_name (by decide), ev_mul (ev_ixL (vr 1) (vr 6) (ints_at (by omega))) (ev_ixL (ev_ixL (vr 0) (vr 6) (at_nat hk)) (vr 4) (at_nat hj)) (szm (lt2000 (getD_sz B.sz k) (by decide)) (Nat.lt_of_le_of_lt (row_abs O k j) (by decide)))⟩)) ?_)) ?_⟩)) ?_)
  · rw [dints_rg]
  · rw [sm_sum, hS]
  refine do_ret (Ev.dat (ev_and (c := true) (ev_lt (ev_ixL (vr 3) ci (at_nat (n := p.wid) (k := 0) w1)) ci) (fun _ => Ev.dat (ev_not (ev_anyI (ns := List.replicate c 0) (Ev.dat (EvO.know (en_sl (vr 3) (ep_some ci) ep_none)) ?_))) ?_)) ?_) rfl
  · rw [hc, cut_1]
    unfold dints
    rw [List.map_replicate, rg_rep]
    congr 1
    refine rg_congr fun j hj => ?_
    rw [hS]
    show PyData.int (sm p.rows.length fun k => ks.getD k 0 * p.row k (1 + j)) = _
    rw [B.zero (1 + j) (by omega) (by omega)]
  · rw [List.any_replicate]
    simp
  · rw [Bool.and_true, hS]
    congr 1
    exact decide_eq_true B.neg
end
end Rl
set_option Elab.async false
set_option linter.all false
set_option maxRecDepth 100000
set_option maxHeartbeats 4000000
set_option exponentiation.threshold 10000
/-! the law's dispatch. -/
namespace Rl
open PySem L2
/-! what is at a node after some stations, after some lines -/
def xS (p : Part) (N : Nat → Int) (L : Int) (i v : Nat) : Int := p.exL v * L + sm i fun k => if (p.sts.getD k stn0).node = v then N k else 0
def xL (p : Part) (N : Nat → Int) (L : Int) (i v : Nat) : Int := xS p N L p.sts.length v + ((p.lns.take i).map fun x => Part.sgn x v * p.fV N x).sum
section
variable {p : Part} {N : Nat → Int} {L : Int}
theorem pV_abs (S : Sol p N L) (i : Nat) : (p.pV N i).natAbs < 2 ^ 221 := by
  unfold Part.pV
  split
  · decide
  · exact S.szN _
theorem fV_abs (S : Sol p N L) {x : Ln} (h : x.s.natAbs ≤ 1000) : (p.fV N x).natAbs ≤ 1000 * 2 ^ 222 := by
  unfold Part.fV
  rw [Int.natAbs_mul]
  refine Nat.mul_le_mul h ?_
  have h1 := pV_abs S (p.idx x.a)
  have h2 := pV_abs S (p.idx x.b)
  have h3 : (2 : Nat) ^ 222 = 2 ^ 221 + 2 ^ 221 := by decide
  omega
theorem exL_abs (O : PartOk p) (v : Nat) : (p.exL v).natAbs ≤ 4004 := by
  unfold Part.exL
  rw [Int.natAbs_neg]
  have h := sum_abs (f := fun x : Ld => if x.node = v then x.amt else 0) (M := 1001) (xs := p.lds) fun x hx => by
    have := O.ld x hx
    show (if x.node = v then x.amt else 0).natAbs ≤ 1001
    split
    · omega
    · exact Nat.zero_le _
  have := O.lds
  have h2 : p.lds.length * 1001 ≤ 4 * 1001 := Nat.mul_le_mul_right _ this
  omega
theorem xS_abs (O : PartOk p) (S : Sol p N L) {i v : Nat} (hi : i ≤ 4) : (xS p N L i v).natAbs < 2 ^ 240 := by
  unfold xS
  have h1 : (p.exL v * L).natAbs ≤ 4004 * 2 ^ 221 := by rw [Int.natAbs_mul]; exact Nat.mul_le_mul (exL_abs O v) (Nat.le_of_lt S.szL)
  have h2 := sm_natAbs (f := fun k => if (p.sts.getD k stn0).node = v then N k else 0) (M := 2 ^ 221) (n := i) fun k _ => by
    show (if (p.sts.getD k stn0).node = v then N k else 0).natAbs ≤ _
    split
    · exact Nat.le_of_lt (S.szN k)
    · exact Nat.zero_le _
  have h3 : i * 2 ^ 221 ≤ 4 * 2 ^ 221 := Nat.mul_le_mul_right _ hi
  have h4 := Int.natAbs_add_le (p.exL v * L) (sm i fun k => if (p.sts.getD k stn0).node = v then N k else 0)
  have h5 : (4004 * 2 ^ 221 + 4 * 2 ^ 221 : Nat) < 2 ^ 240 := by decide
  omega
theorem xL_abs (O : PartOk p) (S : Sol p N L) {i v : Nat} : (xL p N L i v).natAbs < 2 ^ 300 := by
  unfold xL
  have h1 := xS_abs O S (i := p.sts.length) (v := v) O.sts
  have h2 := sum_abs (f := fun x : Ln => Part.sgn x v * p.fV N x) (M := 1000 * 2 ^ 222) (xs := p.lns.take i) fun x hx => by
    have m := O.ln x (List.mem_of_mem_take hx)
    have f := fV_abs S (x := x) (by omega)
    have sg : (Part.sgn x v).natAbs ≤ 1 := by unfold Part.sgn; split; decide; split <;> decide
    show (Part.sgn x v * p.fV N x).natAbs ≤ _
    rw [Int.natAbs_mul]
    have := Nat.mul_le_mul sg f
    omega
  have h3 : (p.lns.take i).length * (1000 * 2 ^ 222) ≤ 8 * (1000 * 2 ^ 222) := Nat.mul_le_mul_right _ (by rw [List.length_take]; have := O.lns; omega)
  have h4 := Int.natAbs_add_le (xS p N L p.sts.length v) ((p.lns.take i).map fun x => Part.sgn x v * p.fV N x).sum
  have h5 : (2 ^ 240 + 8 * (1000 * 2 ^ 222) : Nat) < 2 ^ 300 := by decide
  omega
end
theorem outs_at {p : Part} {N : Nat → Int} {L : Int} {k : Nat} (h : k < p.sts.length) : atI (outsD p N L) ((k : Nat) : Int) = some (dF (fr (N k) L)) := at_nat h
theorem pots_at {p : Part} {N : Nat → Int} {L : Int} {k : Nat} (h : k < p.nodes.length) : atI (potsD p N L) ((k : Nat) : Int) = some (dF (fr (p.pV N k) L)) := at_nat h
section
variable {P : Program} {w : World} {K : PySem.W.Frag} {mg : Str → Option Value} {base : Heap} {CT CI : Addr}
abbrev s_law_is_dispatch : Stmt := topS 40
abbrev N_law_is_dispatch : List Str := ["_law_net", "_law_state_here", "_law_island", "_law_outputs", "_law_potentials", "_law_stations_here", "_law_k", "_law_top", "_law_low", "_law_at", "_law_excess", "_law_line", "_law_flow", "_law_node"]
theorem sc_law_is_dispatch : FnScope N_law_is_dispatch ["_law_net", "_law_state_here", "_law_island", "_law_outputs", "_law_potentials"] (defScope s_law_is_dispatch) := ⟨rfl, rfl, rfl, by decide +kernel, rfl, by decide +kernel, by decide +kernel⟩
theorem w_law_is_dispatch (T : Txt K mg CT CI) (D : Def K mg "_law_is_dispatch" s_law_is_dispatch ["_law_net", "_law_state_here", "_law_island", "_law_outputs", "_law_potentials"]) (c__law_stations : Cal P w K mg base "_law_stations" 1 ["_law_net", "_law_state_here", "_law_island"] (ctr K (pur cLStations)))
    (c__law_lines : Cal P w K mg base "_law_lines" 1 ["_law_net", "_law_state_here", "_law_island"] (ctr K (pur cLLines))) (c__law_fed : Cal P w K mg base "_law_fed" 1 ["_law_net", "_law_state_here", "_law_node"] (ctr K (pur cLFed)))
    (c__law_plus : Cal P w K mg base "_law_plus" 3 ["_law_first", "_law_second"] (ctr K (pur cPlus))) (c__law_scaled : Cal P w K mg base "_law_scaled" 3 ["_law_first", "_law_number"] (ctr K (pur cLScaled))) :
    Cal P w K mg base "_law_is_dispatch" 4 ["_law_net", "_law_state_here", "_law_island", "_law_outputs", "_law_potentials"] (ctr K (pur cIsDisp)) := by
  refine D.cal sc_law_is_dispatch (fun ss ms M R ⟨ds, r, e, _, _, ⟨_, _, _, _, _, e2, _⟩, _⟩ => by rw [e, e2]; rfl) fun f cdv A outer s H vs Q E hr => ?_
  have c__law_stations := c__law_stations.mono (j := 3) (by decide)
  have c__law_lines := c__law_lines.mono (j := 3) (by decide)
  have c__law_fed := c__law_fed.mono (j := 3) (by decide)
  refine ⟨_, pss_cons (ps_set (i := 5) sc_law_is_dispatch.nd rfl (Or.inl rfl) (pe_callC c__law_stations hr (by rfl) (pa_cons (pv 0) (pa_cons (pv 1) (pa_cons (pv 2) pa_nil)))))
    (pss_cons (ps_if (PW.pt (pw_or (pt_cmpR op_ne (pe_callB call_len_seq (by rfl) T.b_len (by decide +kernel) (pa_cons (pv 3) pa_nil)) (pe_callB call_len_seq (by rfl) T.b_len (by decide +kernel) (pa_cons (pv 5) pa_nil)) (nomark _)) (pw_or (pt_cmpR op_ne (pe_callB call_len_seq (by rfl) T.b_len (by decide +kernel) (pa_cons (pv 4) pa_nil)) (pe_callB call_len_seq (by rfl) T.b_len (by decide +kernel) (pa_cons (pv 2) pa_nil)) (nomark _)) (pw_or1 (pt_cmpR (op_neD hr.units) (pe_ix ix_list (pv 4) (pe_int) (fun _ _ => rfl)) (pe_tup (pa_cons (pe_int) (pa_cons (pe_int) pa_nil))) (nomark _))))))
      (pss_one (ps_ret (pe_bl)))
      (pss_nil))
    (pss_cons (ps_for PassesOwn.never rfl (pi_range1 (by rfl) T.b_range (pa_cons (pe_callB call_len_seq (by rfl) T.b_len (by decide +kernel) (pa_cons (pv 5) pa_nil)) pa_nil)) (pg_name (i := 6) sc_law_is_dispatch.nd rfl (Or.inl rfl))
      (pss_cons (ps_asg (pe_ix ix_list (pv 3) (pv 6) (fun _ _ => rfl)) (pg_tup rfl (pgs_cons (pg_name (i := 7) sc_law_is_dispatch.nd rfl (Or.inl rfl)) (pgs_cons (pg_name (i := 8) sc_law_is_dispatch.nd rfl (Or.inl rfl)) pgs_nil))))
      (pss_one (ps_if (PW.pt (pw_or (pt_cmpR op_lt (pv 7) (pe_op op_mulW (pe_ix ix_tup (pe_ix ix_list (pv 5) (pv 6) (fun _ _ => rfl)) (pe_int) (fun _ _ => rfl)) (pv 8)) (nomark _)) (pw_or1 (pt_cmpR op_gt (pv 7) (pe_op op_mulW (pe_ix ix_tup (pe_ix ix_list (pv 5) (pv 6) (fun _ _ => rfl)) (pe_int) (fun _ _ => rfl)) (pv 8)) (nomark _)))))
        (pss_one (ps_ret (pe_bl)))
        (pss_nil)))))
    (pss_cons (ps_set (i := 9) sc_law_is_dispatch.nd rfl (Or.inl rfl) (pe_dnewK))
    (pss_cons (ps_set (i := 10) sc_law_is_dispatch.nd rfl (Or.inr rfl) (pe_dnewK))
    (pss_cons (ps_for PassesOwn.never rfl (pi_range1 (by rfl) T.b_range (pa_cons (pe_callB call_len_seq (by rfl) T.b_len (by decide +kernel) (pa_cons (pv 2) pa_nil)) pa_nil)) (pg_name (i := 6) sc_law_is_dispatch.nd rfl (Or.inl rfl))
      (pss_cons (ps_dput (Nat.lt_of_le_of_lt (Nat.add_le_add_left (by decide) _) hr.units) (pv 9) (pe_ix ix_list (pv 2) (pv 6) (fun _ _ => rfl)) (pe_ix ix_list (pv 4) (pv 6) (fun _ _ => rfl)) rfl)
      (pss_one (ps_dput (Nat.lt_of_le_of_lt (Nat.add_le_add_left (by decide) _) hr.units) (pv 10) (pe_ix ix_list (pv 2) (pv 6) (fun _ _ => rfl)) (pe_tup (pa_cons (pe_un un_neg (pe_callC c__law_fed hr (by rfl) (pa_cons (pv 0) (pa_cons (pv 1) (pa_cons (pe_ix ix_list (pv 2) (pv 6) (fun _ _ => rfl)) pa_nil))))) (pa_cons (pe_int) pa_nil))) rfl))))
    (pss_cons (ps_for PassesOwn.never rfl (pi_range1 (by rfl) T.b_range (pa_cons (pe_callB call_len_seq (by rfl) T.b_len (by decide +kernel) (pa_cons (pv 5) pa_nil)) pa_nil)) (pg_name (i := 6) sc_law_is_dispatch.nd rfl (Or.inl rfl))
      (pss_one (ps_dput (Nat.lt_of_le_of_lt (Nat.add_le_add_left (by decide) _) hr.units) (pv 10) (pe_ix ix_tup (pe_ix ix_list (pv 5) (pv 6) (fun _ _ => rfl)) (pe_int) (fun _ _ => rfl)) (pe_callC c__law_plus hr (by rfl) (pa_cons (pe_dget (Nat.lt_of_le_of_lt (Nat.add_le_add_left (by decide) _) hr.units) (pv 10) (pe_ix ix_tup (pe_ix ix_list (pv 5) (pv 6) (fun _ _ => rfl)) (pe_int) (fun _ _ => rfl)) (fun _ _ => rfl)) (pa_cons (pe_ix ix_list (pv 3) (pv 6) (fun _ _ => rfl)) pa_nil))) rfl)))
    (pss_cons (ps_for PassesOwn.never rfl (pi_list (pe_callC c__law_lines hr (by rfl) (pa_cons (pv 0) (pa_cons (pv 1) (pa_cons (pv 2) pa_nil))))) (pg_name (i := 11) sc_law_is_dispatch.nd rfl (Or.inl rfl))
      (pss_cons (ps_set (i := 12) sc_law_is_dispatch.nd rfl (Or.inl rfl) (pe_callC c__law_scaled hr (by rfl) (pa_cons (pe_callC c__law_plus hr (by rfl) (pa_cons (pe_dget (Nat.lt_of_le_of_lt (Nat.add_le_add_left (by decide) _) hr.units) (pv 9) (pe_ix ix_tup (pv 11) (pe_int) (fun _ _ => rfl)) (fun _ _ => rfl)) (pa_cons (pe_callC c__law_scaled hr (by rfl) (pa_cons (pe_dget (Nat.lt_of_le_of_lt (Nat.add_le_add_left (by decide) _) hr.units) (pv 9) (pe_ix ix_tup (pv 11) (pe_int) (fun _ _ => rfl)) (fun _ _ => rfl)) (pa_cons (pe_un un_neg (pe_int)) pa_nil))) pa_nil))) (pa_cons (pe_ix ix_tup (pv 11) (pe_int) (fun _ _ => rfl)) pa_nil))))
      (pss_cons (ps_if (pt_cmpR op_gt (pe_callB call_abs (by rfl) T.b_abs (by decide +kernel) (pa_cons (pe_ix ix_tup (pv 12) (pe_int) (fun _ _ => rfl)) pa_nil)) (pe_op op_mulW (pe_ix ix_tup (pv 11) (pe_int) (fun _ _ => rfl)) (pe_ix ix_tup (pv 12) (pe_int) (fun _ _ => rfl))) (nomark _))
        (pss_one (ps_ret (pe_bl)))
        (pss_nil))
      (pss_cons (ps_dput (Nat.lt_of_le_of_lt (Nat.add_le_add_left (by decide) _) hr.units) (pv 10) (pe_ix ix_tup (pv 11) (pe_int) (fun _ _ => rfl)) (pe_callC c__law_plus hr (by rfl) (pa_cons (pe_dget (Nat.lt_of_le_of_lt (Nat.add_le_add_left (by decide) _) hr.units) (pv 10) (pe_ix ix_tup (pv 11) (pe_int) (fun _ _ => rfl)) (fun _ _ => rfl)) (pa_cons (pe_callC c__law_scaled hr (by rfl) (pa_cons (pv 12) (pa_cons (pe_un un_neg (pe_int)) pa_nil))) pa_nil))) rfl)
      (pss_one (ps_dput (Nat.lt_of_le_of_lt (Nat.add_le_add_left (by decide) _) hr.units) (pv 10) (pe_ix ix_tup (pv 11) (pe_int) (fun _ _ => rfl)) (pe_callC c__law_plus hr (by rfl) (pa_cons (pe_dget (Nat.lt_of_le_of_lt (Nat.add_le_add_left (by decide) _) hr.units) (pv 10) (pe_ix ix_tup (pv 11) (pe_int) (fun _ _ => rfl)) (fun _ _ => rfl)) (pa_cons (pv 12) pa_nil))) rfl))))))
    (pss_one (ps_ret (pe_callB (cr_all rfl) (by rfl) T.b_all (by decide +kernel) (pa_cons (pe_lc (own := [("_law_node", 13)]) (g := gName 13) (tt := tYes) rfl sc_law_is_dispatch.nd (pi_list (pv 2)) (blkOk_by (N := N_law_is_dispatch) (sc := defScope s_law_is_dispatch) (by decide +kernel)) (fun _ _ _ _ _ => pg_name (i := 13) sc_law_is_dispatch.nd rfl (Or.inl rfl)) (fun _ _ _ _ _ => pts_nil) (fun _ _ _ _ _ => pe_cmpR (op_eqDK K hr.units) (pe_dget (Nat.lt_of_le_of_lt (Nat.add_le_add_left (by decide) _) hr.units) (pv 10) (pv 13) (fun _ _ => rfl)) (pe_tup (pa_cons (pe_int) (pa_cons (pe_int) pa_nil))) (nomark _))) pa_nil))))))))))), ?_⟩
  rintro _ _ _ _ ⟨_, _, rfl, rfl, rfl, ⟨n, s, isl, N, L, rfl, I, S, rfl⟩, rfl⟩
  refine do_seq (do_asg (ev_call (ds := [_, _, _]) (ea_cons (vr 0) (ea_cons (vr 1) (ea1 (vr 2)))) ⟨n, s, isl, rfl, I.sta, rfl⟩) ?_)
  have fedE : ∀ v ∈ isl, (partOf n s isl).exL v = - fedV n s v := fun v hv => fed_exL hv
  have lin : cLLines (nsi n s isl) (.list ((partOf n s isl).lns.map dLn)) := ⟨n, s, isl, rfl, I.sta, rfl⟩
  obtain ⟨p, hp⟩ : ∃ p, p = partOf n s isl := ⟨_, rfl⟩
  have O : PartOk p := by rw [hp]; exact I.ok
  have hn : isl = p.nodes := by rw [hp]; rfl
  rw [← hp] at S fedE lin ⊢
  rw [hn] at fedE lin ⊢
  have h1 := O.ne.1
  have h8 := O.ne.2
  have h4 := O.sts
  have h9 := O.lns
  have lo : (outsD p N L).length = p.sts.length := rg_len _ _
  have lp : (potsD p N L).length = p.nodes.length := rg_len _ _
  have z2000 : L.natAbs < 2 ^ 2000 := lt2000 S.szL (by decide)
  show Do K _ [.dat (dNet n), .dat (dSta s), .dat (dNats p.nodes), .dat (.list (outsD p N L)), .dat (.list (potsD p N L)), .dat (.list (p.sts.map dStn)), .un, .un, .un, .un, .un, .un, .un, .un] [] _
  refine do_seq (do_if (b := false) (EvB.to (eb_or (eb_test (ev_neI (ev_len (vr 3)) (ev_len (vr 5)))) (fun _ => eb_or (c := false) (eb_test (ev_neI (ev_len (vr 4)) (ev_len (vr 2)))) (fun _ => eb_test (Ev.dat (ev_neD (d := dF (0, 1)) (ev_ixL (vr 4) ci ?_) (ev_tup (ds := [_, _]) (ea_cons ci (ea1 ci))) ?_ ?_) ?_)))) ?_) (fun hb => nomatch hb) (fun _ => Do.next ?_))
  · rw [pots_eq S.pos h1]; exact at_list (by decide) rfl
  · rfl
  · rfl
  · rfl
  · rw [lo, lp, List.length_map, natI_len]
    simp
  -- the stations' bounds
  refine do_seq (do_forR (n := p.sts.length) (ei_range (n := p.sts.length) (ea1 (Ev.dat (ev_len (vr 5)) (by rw [List.length_map]))) (by omega)) (fun i ε ms => ms = [] ∧
    ∃ x6 x7 x8, ε = [.dat (dNet n), .dat (dSta s), .dat (dNats p.nodes), .dat (.list (outsD p N L)), .dat (.list (potsD p N L)), .dat (.list (p.sts.map dStn)), x6, x7, x8, .un, .un, .un, .un, .un]) [6] ?_ ?_ ?_)
  · exact ⟨rfl, _, _, _, rfl⟩
  · rintro i _ _ hi ⟨rfl, x6, x7, x8, rfl⟩
    refine ⟨_, tg_name (by decide), ?_⟩
    obtain ⟨x, hx⟩ : ∃ x, x = p.sts.getD i stn0 := ⟨_, rfl⟩
    have gx : atI (p.sts.map dStn) ((i : Nat) : Int) = some (dStn x) := by rw [hx]; exact map_at hi
    have ox := O.st x (by rw [hx]; exact getD_mem hi)
    have sb := S.station hi h1
    rw [← hx] at sb
    have dn := fr_den_abs (N := N i) S.pos
    refine do_seq (do_asgT (ev_ixL (vr 3) (vr 6) (outs_at hi)) (tg_tup2 (vs := [7, 8]) (by decide) (by decide)) ?_)
    refine do_if (b := false) (EvB.to (eb_or (eb_test (ev_lt (vr 7) (ev_mul (ev_ixT (ev_ixL (vr 5) (vr 6) gx) ci rfl) (vr 8) (szm ?_ ?_)))) (fun _ => eb_test (ev_gt (vr 7) (ev_mul (ev_ixT (ev_ixL (vr 5) (vr 6) gx) ci rfl) (vr 8) (szm ?_ ?_))))) ?_) (fun hb => nomatch hb) (fun _ => Do.next ⟨rfl, _, _, _, rfl⟩)
    · exact lt2000 (n := 20) (by omega) (by decide)
    · exact Nat.lt_of_le_of_lt dn z2000
    · exact lt2000 (n := 20) (by omega) (by decide)
    · exact Nat.lt_of_le_of_lt dn z2000
    · have a1 := (fr_ge (N := N i) (k := x.lo) S.pos).mpr sb.1
      have a2 := (fr_le (N := N i) (k := x.hi) S.pos).mpr sb.2
      rw [decide_eq_false (by omega), decide_eq_false (by omega)]
      rfl
  rintro _ _ ⟨rfl, x6, x7, x8, rfl⟩
  show Do K _ _ _ _
  refine do_seq (do_asgO eo_dnew fun qa ms' hq _ => ?_)
  subst hq
  refine do_seq (do_asgO eo_dnew fun qx ms' hq hax => ?_)
  subst hq
  have nax : qa ≠ qx := hax _ mem0 _ mem0
  show Do K _ _ [⟨qa, .nw, .dct []⟩, ⟨qx, .nw, .dct []⟩] _
  -- the potentials, what is fed
  refine do_seq (do_forR (n := p.nodes.length) (ei_range (n := p.nodes.length) (ea1 (Ev.dat (ev_len (vr 2)) (by rw [natI_len]))) (by omega)) (fun i ε ms => ∃ ka kx : List (Key × PyData), ka.length ≤ i ∧ kx.length ≤ i ∧ (∀ v ∈ p.nodes, p.idx v < i → valD ka (Sum.inl ((v : Nat) : Int)) = some (dF (fr (p.pV N (p.idx v)) L)) ∧ valD kx (Sum.inl ((v : Nat) : Int)) = some (dF (fr (xS p N L 0 v) L))) ∧
    ms = [⟨qa, .nw, .dct ka⟩, ⟨qx, .nw, .dct kx⟩] ∧ ∃ x6 x7 x8, ε = [.dat (dNet n), .dat (dSta s), .dat (dNats p.nodes), .dat (.list (outsD p N L)), .dat (.list (potsD p N L)), .dat (.list (p.sts.map dStn)), x6, x7, x8, .ref qa, .ref qx, .un, .un, .un]) [6] ?_ ?_ ?_)
  · exact ⟨[], [], Nat.le_refl _, Nat.le_refl _, fun v _ h => absurd h (by omega), rfl, _, _, _, rfl⟩
  · rintro i _ _ hi ⟨ka, kx, la, lx, hk, rfl, x6, x7, x8, rfl⟩
    refine ⟨_, tg_name (by decide), ?_⟩
    have ix := idx_at O.nd hi
    have vin : p.nodes.getD i 0 ∈ p.nodes := getD_mem hi
    refine do_seq (do_dput (ev_ixL (vr 4) (vr 6) (pots_at hi)) (vr 9) (ev_ixL (vr 2) (vr 6) (nats_at hi)) mem0 nofun (by omega) ?_)
    have e0 : setMo qa (.dct (putD ka (Sum.inl ((p.nodes.getD i 0 : Nat) : Int)) (dF (fr (p.pV N i) L)))) [⟨qa, .nw, .dct ka⟩, ⟨qx, .nw, .dct kx⟩] = [⟨qa, .nw, .dct (putD ka (Sum.inl ((p.nodes.getD i 0 : Nat) : Int)) (dF (fr (p.pV N i) L)))⟩, ⟨qx, .nw, .dct kx⟩] := by rw [setMo_cons, if_pos rfl, setMo_cons, if_neg nax.symm, setMo_nil]
    rw [e0]
    refine do_dput (d := dF (fr (xS p N L 0 (p.nodes.getD i 0)) L)) (Ev.dat (ev_tup (ds := [_, _]) (ea_cons (ev_neg (ev_call (ds := [_, _, _]) (ea_cons (vr 0) (ea_cons (vr 1) (ea1 (ev_ixL (vr 2) (vr 6) (nats_at hi))))) ⟨n, s, p.nodes.getD i 0, rfl, I.sta, rfl⟩)) (ea1 ci))) ?_) (vr 10) (ev_ixL (vr 2) (vr 6) (nats_at hi)) mem1 nofun (by omega)
      ⟨_, _, Nat.le_trans (putD_len _ _ _) (by omega), Nat.le_trans (putD_len _ _ _) (by omega), fun v hv hvi => ?_, setMo_1 nax, _, _, _, rfl⟩
    · unfold xS
      show _ = dF (fr (p.exL (p.nodes.getD i 0) * L + 0) L)
      rw [Int.add_zero, fr_int S.pos, fedE _ vin]
    · rw [valD_put, valD_put]
      by_cases z : v = p.nodes.getD i 0
      · rw [if_pos (by rw [z]), if_pos (by rw [z]), z, ix]
        exact ⟨rfl, rfl⟩
      · have ne : p.idx v ≠ i := fun e => z (idx_inj hv vin (e.trans ix.symm))
        rw [if_neg (fun e => z (by have := Sum.inl.inj e; omega)), if_neg (fun e => z (by have := Sum.inl.inj e; omega))]
        exact hk v hv (by omega)
  rintro _ _ ⟨ka, kx0, la, lx0, hk0, rfl, x6, x7, x8, rfl⟩
  have hka : ∀ v ∈ p.nodes, valD ka (Sum.inl ((v : Nat) : Int)) = some (dF (fr (p.pV N (p.idx v)) L)) := fun v hv => (hk0 v hv (idx_lt hv)).1
  have hkx0 : ∀ v ∈ p.nodes, valD kx0 (Sum.inl ((v : Nat) : Int)) = some (dF (fr (xS p N L 0 v) L)) := fun v hv => (hk0 v hv (idx_lt hv)).2
  show Do K _ _ _ _
  -- the stations
  refine do_seq (do_forR (n := p.sts.length) (ei_range (n := p.sts.length) (ea1 (Ev.dat (ev_len (vr 5)) (by rw [List.length_map]))) (by omega)) (fun i ε ms => ∃ kx : List (Key × PyData), kx.length ≤ 8 + i ∧ (∀ v ∈ p.nodes, valD kx (Sum.inl ((v : Nat) : Int)) = some (dF (fr (xS p N L i v) L))) ∧
    ms = [⟨qa, .nw, .dct ka⟩, ⟨qx, .nw, .dct kx⟩] ∧ ∃ x6 x7 x8, ε = [.dat (dNet n), .dat (dSta s), .dat (dNats p.nodes), .dat (.list (outsD p N L)), .dat (.list (potsD p N L)), .dat (.list (p.sts.map dStn)), x6, x7, x8, .ref qa, .ref qx, .un, .un, .un]) [6] ?_ ?_ ?_)
  · exact ⟨kx0, by omega, hkx0, rfl, _, _, _, rfl⟩
  · rintro i _ _ hi ⟨kx, lx, hk, rfl, x6, x7, x8, rfl⟩
    refine ⟨_, tg_name (by decide), ?_⟩
    obtain ⟨x, hx⟩ : ∃ x, x = p.sts.getD i stn0 := ⟨_, rfl⟩
    have gx : atI (p.sts.map dStn) ((i : Nat) : Int) = some (dStn x) := by rw [hx]; exact map_at hi
    have ox := O.st x (by rw [hx]; exact getD_mem hi)
    have b1 := xS_abs O S (i := i) (v := x.node) (by omega)
    refine do_dput (d := dF (fr (xS p N L i x.node + N i) L)) (Ev.dat (ev_call (ds := [_, _]) (ea_cons (ev_dget (vr 10) (ev_ixT (ev_ixL (vr 5) (vr 6) gx) ci rfl) mem1 (hk x.node ox.1)) (ea1 (ev_ixL (vr 3) (vr 6) (outs_at hi)))) ⟨_, _, rfl, fr_den S.pos, fr_den S.pos, sz_fr S.pos (lt2000 b1 (by decide)) z2000, sz_fr S.pos (lt2000 (S.szN i) (by decide)) z2000, rfl⟩) (by rw [fr_plus S.pos])) (vr 10) (ev_ixT (ev_ixL (vr 5) (vr 6) gx) ci rfl) mem1 nofun (by omega)
      ⟨_, Nat.le_trans (putD_len _ _ _) (by omega), fun v hv => ?_, setMo_1 nax, _, _, _, rfl⟩
    rw [valD_put, hk v hv]
    have e : xS p N L (i + 1) v = xS p N L i v + if x.node = v then N i else 0 := by
      unfold xS
      rw [hx]
      show p.exL v * L + ((sm i fun k => if (p.sts.getD k stn0).node = v then N k else 0) + if (p.sts.getD i stn0).node = v then N i else 0) = _
      omega
    rw [e]
    by_cases z : v = x.node
    · rw [if_pos (by rw [z]), if_pos z.symm, z]
    · rw [if_neg (fun e => z (by have := Sum.inl.inj e; omega)), if_neg (fun e => z e.symm), Int.add_zero]
  rintro _ _ ⟨kx1, lx1, hkx1, rfl, x6, x7, x8, rfl⟩
  show Do K _ _ _ _
  -- the lines
  refine do_seq (do_forR (n := p.lns.length) ((ei_list (ev_call (ds := [_, _, _]) (ea_cons (vr 0) (ea_cons (vr 1) (ea1 (vr 2)))) lin)).to (map_rg p.lns dLn ln0)) (fun i ε ms => ∃ kx : List (Key × PyData), kx.length ≤ 12 + 2 * i ∧ (∀ v ∈ p.nodes, valD kx (Sum.inl ((v : Nat) : Int)) = some (dF (fr (xL p N L i v) L))) ∧
    ms = [⟨qa, .nw, .dct ka⟩, ⟨qx, .nw, .dct kx⟩] ∧ ∃ x6 x7 x8 x11 x12, ε = [.dat (dNet n), .dat (dSta s), .dat (dNats p.nodes), .dat (.list (outsD p N L)), .dat (.list (potsD p N L)), .dat (.list (p.sts.map dStn)), x6, x7, x8, .ref qa, .ref qx, x11, x12, .un]) [11] ?_ ?_ ?_)
  · refine ⟨kx1, by omega, fun v hv => ?_, rfl, _, _, _, _, _, rfl⟩
    rw [hkx1 v hv]
    unfold xL
    show _ = some (dF (fr (xS p N L p.sts.length v + 0) L))
    rw [Int.add_zero]
  · rintro i _ _ hi ⟨kx, lx, hk, rfl, x6, x7, x8, x11, x12, rfl⟩
    refine ⟨_, tg_name (by decide), ?_⟩
    obtain ⟨x, hx⟩ : ∃ x, x = p.lns.getD i ln0 := ⟨_, rfl⟩
    have xin : x ∈ p.lns := by rw [hx]; exact getD_mem hi
    have ox := O.ln x xin
    rw [← hx]
    have pa := pV_abs S (p.idx x.a)
    have pb := pV_abs S (p.idx x.b)
    have fb := fV_abs S (x := x) (by omega)
    have fb' : (p.fV N x).natAbs < 2 ^ 240 := Nat.lt_of_le_of_lt fb (by decide)
    have sb := S.line xin ox.1 ox.2.1
    have xa := xL_abs O S (i := i) (v := x.a)
    have xb := xL_abs O S (i := i) (v := x.b)
    refine do_seq (do_asg (s := .dat (dF (fr (p.fV N x) L))) (Ev.dat (ev_call (ds := [_, _]) (ea_cons (Ev.dat (e := dF (fr (p.pV N (p.idx x.a) + -1 * p.pV N (p.idx x.b)) L)) (ev_call (ds := [_, _]) (ea_cons (ev_dget (vr 9) (ev_ixT (vr 11) ci rfl) mem0 (hka x.a ox.1)) (ea1 (Ev.dat (e := dF (fr (-1 * p.pV N (p.idx x.b)) L)) (ev_call (ds := [_, _]) (ea_cons (ev_dget (vr 9) (ev_ixT (vr 11) ci rfl) mem0 (hka x.b ox.2.1)) (ea1 (ev_neg ci))) ⟨_, _, rfl, fr_den S.pos, by decide, sz_fr S.pos (lt2000 pb (by decide)) z2000, rfl⟩) (by rw [fr_scale' S.pos]))))
      ⟨_, _, rfl, fr_den S.pos, fr_den S.pos, sz_fr S.pos (lt2000 pa (by decide)) z2000, sz_fr S.pos (lt2000 (n := 230) (by omega) (by decide)) z2000, rfl⟩) (by rw [fr_plus S.pos])) (ea1 (ev_ixT (vr 11) ci rfl))) ⟨_, _, rfl, fr_den S.pos, lt2000 (n := 20) (by omega) (by decide), sz_fr S.pos (lt2000 (n := 230) (by omega) (by decide)) z2000, rfl⟩) ?_) ?_)
    · rw [fr_scale' S.pos]
      unfold Part.fV
      congr 3
      omega
    refine do_seq (do_if (b := false) (EvB.to (eb_test (ev_gt (ev_abs (ev_ixT (vr 12) ci rfl)) (ev_mul (ev_ixT (vr 11) ci rfl) (ev_ixT (vr 12) ci rfl) (szm (lt2000 (n := 20) (by omega) (by decide)) (sz_fr S.pos (lt2000 fb' (by decide)) z2000).2)))) ?_) (fun hb => nomatch hb) (fun _ => Do.next ?_))
    · have a1 := (fr_ge (N := p.fV N x) (k := - x.l) S.pos).mpr (by rw [Int.neg_mul]; exact sb.1)
      have a2 := (fr_le (N := p.fV N x) (k := x.l) S.pos).mpr sb.2
      rw [Int.neg_mul] at a1
      refine decide_eq_false ?_
      split <;> omega
    refine do_seq (do_dput (d := dF (fr (xL p N L i x.a + -1 * p.fV N x) L)) (Ev.dat (ev_call (ds := [_, _]) (ea_cons (ev_dget (vr 10) (ev_ixT (vr 11) ci rfl) mem1 (hk x.a ox.1)) (ea1 (Ev.dat (e := dF (fr (-1 * p.fV N x) L)) (ev_call (ds := [_, _]) (ea_cons (vr 12) (ea1 (ev_neg ci))) ⟨_, _, rfl, fr_den S.pos, by decide, sz_fr S.pos (lt2000 fb' (by decide)) z2000, rfl⟩) (by rw [fr_scale' S.pos]))))
      ⟨_, _, rfl, fr_den S.pos, fr_den S.pos, sz_fr S.pos (lt2000 xa (by decide)) z2000, sz_fr S.pos (lt2000 (n := 240) (by omega) (by decide)) z2000, rfl⟩) (by rw [fr_plus S.pos])) (vr 10) (ev_ixT (vr 11) ci rfl) mem1 nofun (by omega) ?_)
    rw [setMo_1 nax]
    have nab : ¬ (Sum.inl ((x.b : Nat) : Int) : Key) = Sum.inl ((x.a : Nat) : Int) := fun e => ox.2.2.1 (by have := Sum.inl.inj e; omega)
    refine do_dput (d := dF (fr (xL p N L i x.b + p.fV N x) L)) (Ev.dat (ev_call (ds := [_, _]) (ea_cons (ev_dget (vr 10) (ev_ixT (vr 11) ci rfl) mem1 (by rw [valD_put, if_neg nab]; exact hk x.b ox.2.1)) (ea1 (vr 12)))
      ⟨_, _, rfl, fr_den S.pos, fr_den S.pos, sz_fr S.pos (lt2000 xb (by decide)) z2000, sz_fr S.pos (lt2000 fb' (by decide)) z2000, rfl⟩) (by rw [fr_plus S.pos])) (vr 10) (ev_ixT (vr 11) ci rfl) mem1 nofun (Nat.lt_of_le_of_lt (putD_len _ _ _) (by omega))
      ⟨_, Nat.le_trans (putD_len _ _ _) (Nat.le_trans (Nat.add_le_add_right (putD_len _ _ _) 1) (by omega)), fun v hv => ?_, setMo_1 nax, _, _, _, _, _, rfl⟩
    have e : xL p N L (i + 1) v = xL p N L i v + Part.sgn x v * p.fV N x := by
      unfold xL
      rw [take_sum _ ln0 hi, ← hx]
      omega
    rw [valD_put, valD_put, hk v hv, e]
    unfold Part.sgn
    by_cases zb : v = x.b
    · rw [if_pos (by rw [zb]), if_neg (fun e => ox.2.2.1 (e.trans zb)), if_pos zb.symm, zb, Int.one_mul]
    · rw [if_neg (fun e => zb (by have := Sum.inl.inj e; omega))]
      by_cases za : v = x.a
      · rw [if_pos (by rw [za]), if_pos za.symm, za]
      · rw [if_neg (fun e => za (by have := Sum.inl.inj e; omega)), if_neg (fun e => za e.symm), if_neg (fun e => zb e.symm), Int.zero_mul, Int.add_zero]
  rintro _ _ ⟨kx, lx, hk, rfl, x6, x7, x8, x11, x12, rfl⟩
  have fin : ∀ v ∈ p.nodes, valD kx (Sum.inl ((v : Nat) : Int)) = some (dF (0, 1)) := fun v hv => by
    rw [hk v hv]
    have e := S.node O hv
    have e2 : xL p N L p.lns.length v = p.exV N L v := by
      unfold xL xS Part.exV
      rw [List.take_length]
    rw [e2, e, fr_zero S.pos]
  refine do_ret (Ev.dat (ev_all (bs := List.replicate (dints (natI p.nodes)).length true) (Ev.dat (EvO.know (en_map (ei_list (vr 2)) (fun d => .bool true) (by rw [natI_len]; omega) fun d hd => ?_)) (by rw [dbls_const]))) (by rw [all_true])) rfl
  obtain ⟨z, hz, rfl⟩ := List.mem_map.mp hd
  unfold natI at hz
  obtain ⟨v, hv, rfl⟩ := List.mem_map.mp hz
  exact ⟨_, tg_name (by decide), Ev.dat (ev_eqD (d := dF (0, 1)) (ev_dget (vr 10) (vr 13) mem1 (fin v hv)) (ev_tup (ds := [_, _]) (ea_cons ci (ea1 ci))) rfl rfl) rfl⟩
end
end Rl
set_option Elab.async false
set_option linter.all false
set_option maxRecDepth 100000
set_option maxHeartbeats 4000000
set_option exponentiation.threshold 10000
/-! the law's plain, solved, right. -/
namespace Rl
open PySem PyProof.Rows L2
/-! shapes -/
def Shp (n : Nat) (d : PyData) : Prop := d.canLay0 = true ∧ d.depth ≤ n
theorem shp_int {n : Nat} (i : Int) : Shp n (.int i) := ⟨by unfold PyData.canLay0; rfl, by unfold PyData.depth; exact Nat.zero_le _⟩
theorem shp_bool {n : Nat} (b : Bool) : Shp n (.bool b) := ⟨by unfold PyData.canLay0; rfl, by unfold PyData.depth; exact Nat.zero_le _⟩
theorem shp_all {n : Nat} : ∀ {xs : List PyData}, (∀ d ∈ xs, Shp n d) → PyData.canLayAll0 xs = true ∧ PyData.depthAll xs ≤ n
  | [], _ => ⟨by unfold PyData.canLayAll0; rfl, by unfold PyData.depthAll; exact Nat.zero_le _⟩
  | x :: xs, h => by
    have h1 := h x List.mem_cons_self
    have h2 := shp_all (n := n) (xs := xs) fun d hd => h d (List.mem_cons_of_mem _ hd)
    refine ⟨?_, ?_⟩
    · unfold PyData.canLayAll0; rw [h1.1, h2.1]; rfl
    · unfold PyData.depthAll; exact Nat.max_le.mpr ⟨h1.2, h2.2⟩
theorem shp_list {n : Nat} {xs : List PyData} (h : ∀ d ∈ xs, Shp n d) : Shp (n + 1) (.list xs) := by
  have := shp_all h
  exact ⟨by unfold PyData.canLay0; exact this.1, by unfold PyData.depth; omega⟩
theorem shp_tuple {n : Nat} {xs : List PyData} (h : ∀ d ∈ xs, Shp n d) : Shp (n + 1) (.tuple xs) := by
  have := shp_all h
  exact ⟨by unfold PyData.canLay0; exact this.1, by unfold PyData.depth; omega⟩
theorem Shp.ok {n : Nat} {d : PyData} (h : Shp n d) (hn : n ≤ 64) : SeqAt.shaped d = true := by
  unfold SeqAt.shaped
  rw [h.1, Bool.true_and]
  exact decide_eq_true (Nat.le_trans h.2 hn)
theorem Shp.refl {n : Nat} {d : PyData} (h : Shp n d) : PyData.eqv d d = true := SeqAt.eqv_refl d h.1
theorem shp_ints {n : Nat} (xs : List Int) : Shp (n + 1) (.list (dints xs)) := shp_list fun d hd => by
  obtain ⟨z, _, rfl⟩ := List.mem_map.mp hd
  exact shp_int z
theorem shp_rows {n : Nat} (p : Part) : Shp (n + 2) (rowsD p) := shp_list fun d hd => by
  obtain ⟨f, _, rfl⟩ := List.mem_map.mp hd
  refine shp_list fun e he => ?_
  unfold rg at he
  obtain ⟨z, _, rfl⟩ := List.mem_map.mp he
  exact shp_int _
theorem shp_dF {n : Nat} (f : Int × Int) : Shp (n + 1) (dF f) := shp_tuple fun d hd => by
  rcases List.mem_cons.mp hd with e | hd
  · rw [e]; exact shp_int _
  · rw [List.mem_singleton.mp hd]; exact shp_int _
section
variable {K : PySem.W.Frag} {ε : List Sl} {ms : Ms} {te : TE} {E : AE}
theorem ev_slT {tl th : TO} {ds : List PyData} {lo hi : Option Int} (h : Ev K te ε ms (.dat (.tuple ds))) (h1 : EvP K tl ε ms lo) (h2 : EvP K th ε ms hi) (hne : ¬ (HT.sIx ds.length 0 lo = 0 ∧ HT.sIx ds.length ds.length hi = ds.length)) : Ev K (tSl (rSlT K) te tl th) ε ms (.dat (.tuple (cutD ds lo hi))) := fun Hk σ H1 w Q q =>
  h Hk σ H1 w _ fun v Hn H2 g dv => h1 Hn σ H2 (w.grow g) _ fun Hm H3 g2 => h2 Hm σ H3 ((w.grow g).grow g2) _ fun Ho H4 g3 => by
    obtain ⟨a, xs, rfl, hs, hd⟩ := dp_tuple (Dq.mono (g2.kk.trans g3.kk) _ _ dv)
    refine ⟨a, xs, rfl, SqT.of (g3.kn _ _ hs), by rw [hd.length]; exact hne, fun p hp => ?_⟩
    have G := g.trans (g2.trans g3)
    have g4 : Grow [] Hk H1 (upd Ho p (.tup (cutV xs lo hi))) (upd H4 p (.tup (cutV xs lo hi))) := (G.trans (Grow.new G.kn hp)).know (G.fresh hp) (same_back G.kn hp) upd_same
    exact q _ _ _ g4 (.tup upd_same (DqAll.mono (fun a u e => by rw [upd_ne (ne_of_none e (same_back G.kn hp))]; exact e) _ _ (cut_data hd lo hi)))
end
theorem kit_ll : kitB "list" "list" = some true := by decide +kernel
theorem kit_it : kitB "int" "tuple" = some false := by decide +kernel
theorem kit_tt : kitB "tuple" "tuple" = some true := by decide +kernel
theorem kit_ib : kitB "int" "bool" = some false := by decide +kernel
theorem kit_ii : kitB "int" "int" = some true := by decide +kernel
theorem cut_tail (x : PyData) (l : List PyData) : cutD (x :: l) (some 1) none = l := by
  have e1 : x :: l = rg (l.length + 1) fun i => (x :: l).getD i .none := rg_of (x :: l)
  have e2 : l = rg l.length fun i => l.getD i .none := rg_of l
  conv => rhs; rw [e2]
  rw [e1, cut_1]
  exact rg_congr fun i _ => by rw [Nat.add_comm 1 i]; rfl
section
variable {P : Program} {w : World} {K : PySem.W.Frag} {mg : Str → Option Value} {base : Heap} {CT CI : Addr}
def cLPlain : List PyData → PyData → Prop := fun ds r => ∃ (x : Str) (parts : List (List PyData)), ds = [.tuple (.str x :: parts.map .list)] ∧ parts ≠ [] ∧ parts.length ≤ 2 ∧ (∀ q ∈ parts, q.length ≤ 100 ∧ ∀ d ∈ q, (∃ z, d = .int z) ∨ ∃ f, d = dF f) ∧ r = .bool true
abbrev s_law_plain : Stmt := topS 44
abbrev N_law_plain : List Str := ["_law_told", "_law_numbers", "_law_part", "_law_one", "_law_item"]
theorem sc_law_plain : FnScope N_law_plain ["_law_told"] (defScope s_law_plain) := ⟨rfl, rfl, rfl, by decide +kernel, rfl, by decide +kernel, by decide +kernel⟩
theorem w_law_plain (T : Txt K mg CT CI) (D : Def K mg "_law_plain" s_law_plain ["_law_told"]) : Cal P w K mg base "_law_plain" 1 ["_law_told"] (ctr K (pur cLPlain)) := by
  refine D.cal sc_law_plain (fun ss ms M R ⟨ds, r, e, _, _, ⟨_, _, e2, _⟩, _⟩ => by rw [e, e2]; rfl) fun f cdv A outer s H vs Q E hr => ?_
  refine ⟨_, pss_cons (ps_set (i := 1) sc_law_plain.nd rfl (Or.inl rfl) (pe_lst pa_nil))
    (pss_cons (ps_for PassesOwn.never rfl (pi_tup (pe_slice sl_tup (pv 0) (po_some (pe_int)) po_none)) (pg_name (i := 2) sc_law_plain.nd rfl (Or.inl rfl))
      (pss_cons (ps_if (pt_not (pt_val (pe_callB call_isi (by rfl) T.b_isinstance (by decide +kernel) (pa_cons (pv 2) (pa_cons (pe_bltn (v := .ty "list") (by rfl) T.b_list boot_list rfl) pa_nil)))))
        (pss_one (ps_ret (pe_bl)))
        (pss_nil))
      (pss_one (ps_for PassesOwn.never rfl (pi_list (pv 2)) (pg_name (i := 3) sc_law_plain.nd rfl (Or.inl rfl))
        (pss_one (ps_if (pt_val (pe_callB call_isi (by rfl) T.b_isinstance (by decide +kernel) (pa_cons (pv 3) (pa_cons (pe_bltn (v := .ty "tuple") (by rfl) T.b_tuple boot_tuple rfl) pa_nil))))
          (pss_one (ps_set (i := 1) sc_law_plain.nd rfl (Or.inl rfl) (pe_op op_cat (pv 1) (pe_lc (own := [("_law_item", 4)]) (g := gName 4) (tt := tYes) rfl sc_law_plain.nd (pi_tup (pv 3)) (blkOk_by (N := N_law_plain) (sc := defScope s_law_plain) (by decide +kernel)) (fun _ _ _ _ _ => pg_name (i := 4) sc_law_plain.nd rfl (Or.inl rfl)) (fun _ _ _ _ _ => pts_nil) (fun _ _ _ _ _ => pv 4)))))
          (pss_one (ps_expr (pe_bm PySem.F.plainAttrs_list PySem.F.slot_list_append PySem.F.type_list_append mt_append (pv 1) (pa_cons (pv 3) pa_nil))))))))))
    (pss_one (ps_ret (pe_not (pe_callB (cr_any rfl) (by rfl) T.b_any (by decide +kernel) (pa_cons (pe_lc (own := [("_law_item", 4)]) (g := gName 4) (tt := tYes) rfl sc_law_plain.nd (pi_list (pv 1)) (blkOk_by (N := N_law_plain) (sc := defScope s_law_plain) (by decide +kernel)) (fun _ _ _ _ _ => pg_name (i := 4) sc_law_plain.nd rfl (Or.inl rfl)) (fun _ _ _ _ _ => pts_nil) (fun _ _ _ _ _ => pe_or (pe_callB (call_isiK' K) (by rfl) T.b_isinstance (by decide +kernel) (pa_cons (pv 4) (pa_cons (pe_bltn (v := .ty "bool") (by rfl) T.b_bool boot_bool rfl) pa_nil))) (pe_one (pe_not (pe_callB (call_isiK' K) (by rfl) T.b_isinstance (by decide +kernel) (pa_cons (pv 4) (pa_cons (pe_bltn (v := .ty "int") (by rfl) T.b_int boot_int rfl) pa_nil))))))) pa_nil)))))), ?_⟩
  rintro _ _ _ _ ⟨_, _, rfl, rfl, rfl, ⟨x, parts, rfl, hne, hl, hq, rfl⟩, rfl⟩
  obtain ⟨told, ht⟩ : ∃ told, told = PyData.tuple (.str x :: parts.map .list) := ⟨_, rfl⟩
  show Do K _ [.dat (.tuple (.str x :: parts.map .list)), .un, .un, .un, .un] [] _
  refine do_seq (do_asgN (en_lst (ds := []) ea_nil) fun q0 _ => ?_)
  refine do_seq (do_forR (n := parts.length) ((ei_tup (ev_slT (vr 0) (ep_some ci) ep_none ?_)).to (by rw [cut_tail, map_rg parts _ ([] : List PyData)])) (fun i ε ms => ∃ q acc, acc.length ≤ 200 * i ∧ ms = [⟨q, .nw, .lst (dints acc)⟩] ∧ ∃ x2 x3 x4, ε = [.dat (.tuple (.str x :: parts.map .list)), .ref q, x2, x3, x4]) [2] ?_ ?_ ?_)
  · intro h
    have e : HT.sIx (PyData.str x :: parts.map PyData.list).length 0 (some 1) = 1 := by
      have : (PyData.str x :: parts.map PyData.list).length = parts.length + 1 := by rw [List.length_cons, List.length_map]
      rw [this]
      unfold HT.sIx
      simp
    omega
  · exact ⟨q0, [], Nat.le_refl _, rfl, _, _, _, rfl⟩
  · rintro i _ _ hi ⟨q, acc, la, rfl, x2, x3, x4, rfl⟩
    refine ⟨_, tg_name (by decide), ?_⟩
    obtain ⟨pt, hpt⟩ : ∃ pt, pt = parts.getD i [] := ⟨_, rfl⟩
    have op := hq pt (by rw [hpt]; exact getD_mem hi)
    rw [← hpt]
    refine do_seq (do_if (b := false) (EvB.to (eb_not (eb_B (ev_isi (b := true) (vr 2) (by exact kit_ll)))) rfl) (fun hb => nomatch hb) (fun _ => Do.next ?_))
    refine do_for (ei_list (vr 2)) (fun j ε ms => ∃ q acc, acc.length ≤ 200 * i + 2 * j ∧ ms = [⟨q, .nw, .lst (dints acc)⟩] ∧ ∃ x3 x4, ε = [.dat (.tuple (.str x :: parts.map .list)), .ref q, .dat (.list pt), x3, x4]) [3] ?_ ?_ ?_
    · exact ⟨q, acc, la, rfl, _, _, rfl⟩
    · rintro j d _ _ hd ⟨q, acc, la, rfl, x3, x4, rfl⟩
      refine ⟨_, tg_name (by decide), ?_⟩
      have jl := (List.getElem?_eq_some_iff.mp hd).1
      rcases op.2 d (List.mem_of_getElem? hd) with ⟨z, rfl⟩ | ⟨g, rfl⟩
      · refine do_if (b := false) (eb_B (ev_isi (b := _) (vr 3) (by exact kit_it))) (fun hb => nomatch hb) (fun _ => ?_)
        refine do_app (vr 1) mem0 nofun (vr 3) (by rw [List.length_map]; omega) ⟨q, acc ++ [z], by rw [List.length_append]; show acc.length + 1 ≤ _; omega, ?_, _, _, rfl⟩
        rw [setMo_0, dints_app]
      · refine do_if (b := true) (eb_B (ev_isi (b := _) (vr 3) (by exact kit_tt))) (fun _ => ?_) (fun hb => nomatch hb)
        refine do_asgL (en_catM (d2 := [.int g.1, .int g.2]) (vr 1) mem0 (Ev.dat (EvO.know (en_map (ei_tup (vr 3)) (fun d => d) (by exact (show 2 ≤ 100000 by decide)) fun d hd => ⟨_, tg_name (by decide), vr 4⟩)) rfl) (by rw [List.length_map]; show acc.length + 2 ≤ 100000; omega)) [] (fun _ h => nomatch h) fun q2 _ => ⟨q2, acc ++ [g.1, g.2], by rw [List.length_append]; show acc.length + 2 ≤ _; omega, ?_, _, _, rfl⟩
        show [(⟨q2, .nw, .lst _⟩ : Me)] = _
        unfold dints
        rw [List.map_append]
        rfl
    · rintro _ _ ⟨q, acc, la, rfl, x3, x4, rfl⟩
      exact ⟨q, acc, by have := op.1; omega, rfl, _, _, _, rfl⟩
  rintro _ _ ⟨q, acc, la, rfl, x2, x3, x4, rfl⟩
  refine do_ret (Ev.dat (ev_not (ev_any (bs := List.replicate (dints acc).length false) (Ev.dat (EvO.know (en_mapM (vr 1) mem0 (fun _ => .bool false) (by rw [List.length_map]; omega) fun k d hd => ⟨_, tg_name (by decide), ?_⟩)) ?_))) ?_) rfl
  · obtain ⟨z, _, rfl⟩ := List.mem_map.mp (List.mem_of_getElem? hd)
    exact Ev.dat (ev_or (c := false) (ev_isi (b := false) (vr 4) (by exact kit_ib)) (fun _ => Ev.dat (ev_not (ev_isi (b := true) (vr 4) (by exact kit_ii))) rfl)) rfl
  · unfold dbls rg
    rw [List.map_const', List.length_range, List.map_replicate]
  · congr 1
    rw [List.any_replicate]
    simp
def cLSolved : List PyData → PyData → Prop := fun ds r => ∃ n s isl, ds = [dNet n, dSta s, dNats isl, told (partOf n s isl)] ∧ Isl n s isl ∧ r = .bool true
abbrev s_law_solved : Stmt := topS 45
abbrev N_law_solved : List Str := ["_law_net", "_law_state_here", "_law_island", "_law_told", "_law_rows", "_law_stations_here", "_law_found"]
theorem sc_law_solved : FnScope N_law_solved ["_law_net", "_law_state_here", "_law_island", "_law_told"] (defScope s_law_solved) := ⟨rfl, rfl, rfl, by decide +kernel, rfl, by decide +kernel, by decide +kernel⟩
theorem w_law_solved (T : Txt K mg CT CI) (D : Def K mg "_law_solved" s_law_solved ["_law_net", "_law_state_here", "_law_island", "_law_told"]) (c__law_conditions : Cal P w K mg base "_law_conditions" 2 ["_law_net", "_law_state_here", "_law_island"] (ctr K (pur cCondOf)))
    (c__law_stations : Cal P w K mg base "_law_stations" 1 ["_law_net", "_law_state_here", "_law_island"] (ctr K (pur cLStations))) (c_solve : Cal P w K mg base "solve" 4 ["conditions", "count"] (ctr K (pur cSolve))) (c__law_plain : Cal P w K mg base "_law_plain" 1 ["_law_told"] (ctr K (pur cLPlain)))
    (c__law_is_refusal : Cal P w K mg base "_law_is_refusal" 1 ["_law_rows", "_law_integers"] (ctr K (pur cLRef))) (c__law_is_dispatch : Cal P w K mg base "_law_is_dispatch" 4 ["_law_net", "_law_state_here", "_law_island", "_law_outputs", "_law_potentials"] (ctr K (pur cIsDisp))) :
    Cal P w K mg base "_law_solved" 5 ["_law_net", "_law_state_here", "_law_island", "_law_told"] (ctr K (pur cLSolved)) := by
  refine D.cal sc_law_solved (fun ss ms M R ⟨ds, r, e, _, _, ⟨_, _, _, e2, _⟩, _⟩ => by rw [e, e2]; rfl) fun f cdv A outer s H vs Q E hr => ?_
  have c__law_conditions := c__law_conditions.mono (j := 4) (by decide)
  have c__law_stations := c__law_stations.mono (j := 4) (by decide)
  have c__law_plain := c__law_plain.mono (j := 4) (by decide)
  have c__law_is_refusal := c__law_is_refusal.mono (j := 4) (by decide)
  refine ⟨_, pss_cons (ps_set (i := 4) sc_law_solved.nd rfl (Or.inl rfl) (pe_callC c__law_conditions hr (by rfl) (pa_cons (pv 0) (pa_cons (pv 1) (pa_cons (pv 2) pa_nil)))))
    (pss_cons (ps_set (i := 5) sc_law_solved.nd rfl (Or.inl rfl) (pe_callC c__law_stations hr (by rfl) (pa_cons (pv 0) (pa_cons (pv 1) (pa_cons (pv 2) pa_nil)))))
    (pss_cons (ps_set (i := 6) sc_law_solved.nd rfl (Or.inl rfl) (pe_callC c_solve hr (by rfl) (pa_cons (pv 4) (pa_cons (pe_op op_sub (pe_op op_add (pe_callB call_len_seq (by rfl) T.b_len (by decide +kernel) (pa_cons (pv 5) pa_nil)) (pe_callB call_len_seq (by rfl) T.b_len (by decide +kernel) (pa_cons (pv 2) pa_nil))) (pe_int)) pa_nil))))
    (pss_cons (ps_if (PW.pt (pw_or (pt_cmpR op_ne (pe_ix ix_tup (pv 6) (pe_int) (fun _ _ => rfl)) (pe_ix ix_tup (pv 3) (pe_int) (fun _ _ => rfl)) (nomark _)) (pw_or1 (pt_not (pt_val (pe_callC c__law_plain hr (by rfl) (pa_cons (pv 6) pa_nil)))))))
      (pss_one (ps_ret (pe_bl)))
      (pss_nil))
    (pss_cons (ps_if (pt_cmpR op_eq (pe_ix ix_tup (pv 6) (pe_int) (fun _ _ => rfl)) (pe_str) (nomark _))
      (pss_one (ps_ret (pe_callC c__law_is_refusal hr (by rfl) (pa_cons (pv 4) (pa_cons (pe_ix ix_tup (pv 6) (pe_int) (fun _ _ => rfl)) pa_nil)))))
      (pss_nil))
    (pss_one (ps_ret (pe_callC c__law_is_dispatch hr (by rfl) (pa_cons (pv 0) (pa_cons (pv 1) (pa_cons (pv 2) (pa_cons (pe_slice sl_list (pe_ix ix_tup (pv 6) (pe_int) (fun _ _ => rfl)) po_none (po_some (pe_callB call_len_seq (by rfl) T.b_len (by decide +kernel) (pa_cons (pv 5) pa_nil)))) (pa_cons (pe_op op_cat (pe_lst (pa_cons (pe_tup (pa_cons (pe_int) (pa_cons (pe_int) pa_nil))) pa_nil)) (pe_slice sl_list (pe_ix ix_tup (pv 6) (pe_int) (fun _ _ => rfl)) (po_some (pe_callB call_len_seq (by rfl) T.b_len (by decide +kernel) (pa_cons (pv 5) pa_nil))) po_none)) pa_nil)))))))))))), ?_⟩
  rintro _ _ _ _ ⟨_, _, rfl, rfl, rfl, ⟨n, s, isl, rfl, I, rfl⟩, rfl⟩
  refine do_seq (do_asg (ev_call (ds := [_, _, _]) (ea_cons (vr 0) (ea_cons (vr 1) (ea1 (vr 2)))) ⟨n, s, isl, rfl, I, rfl⟩) ?_)
  refine do_seq (do_asg (ev_call (ds := [_, _, _]) (ea_cons (vr 0) (ea_cons (vr 1) (ea1 (vr 2)))) ⟨n, s, isl, rfl, I.sta, rfl⟩) ?_)
  obtain ⟨p, hp⟩ : ∃ p, p = partOf n s isl := ⟨_, rfl⟩
  have O : PartOk p := by rw [hp]; exact I.ok
  have hn : isl = p.nodes := by rw [hp]; rfl
  have dsp : ∀ N L, Sol p N L → cIsDisp [dNet n, dSta s, dNats isl, .list (outsD p N L), .list (potsD p N L)] (.bool true) := fun N L S => ⟨n, s, isl, N, L, by rw [hp], I, by rw [← hp]; exact S, rfl⟩
  rw [← hp]
  have h1 := O.ne.1
  have h8 := O.ne.2
  have h4 := O.sts
  have h9 := O.lns
  have w1 : 1 ≤ p.wid := by unfold Part.wid; omega
  have w12 : p.wid ≤ 12 := by unfold Part.wid; omega
  show Do K _ [.dat (dNet n), .dat (dSta s), .dat (dNats isl), .dat (told p), .dat (rowsD p), .dat (.list (p.sts.map dStn)), .un] [] _
  obtain ⟨an, han⟩ : ∃ an, an = solF p.conds (p.wid - 1) := ⟨_, rfl⟩
  have cs : cSolve [rowsD p, .int ((p.wid : Nat) - 1)] (ansD an) := ⟨p.conds, p.wid - 1, by rw [rows_conds p w1]; unfold condsD; congr 3; omega, ⟨(conds_sm O).1, (conds_sm O).2⟩, by rw [han]⟩
  have ecnt : PyData.int (((p.sts.map dStn).length : Nat) + ((dints (natI isl)).length : Nat) - 1) = .int ((p.wid : Nat) - 1) := by rw [List.length_map, natI_len, hn]; unfold Part.wid; congr 1
  rcases told_cases O with ⟨ks, e, B, et⟩ | ⟨N, L, e, S, et⟩
  · rw [et]
    rw [e] at han
    subst han
    have lk := B.len
    have lr := rows_len (p := p)
    refine do_seq (do_asg (ev_call (ds := [_, _]) (ea_cons (vr 4) (ea1 (Ev.dat (ev_sub (ev_add (ev_len (vr 5)) (ev_len (vr 2))) ci) ecnt))) cs) ?_)
    refine do_seq (do_if (b := false) (EvB.to (eb_or (c := false) (eb_test (ev_neS (ev_ixT (vr 6) ci (at_list (by decide) rfl)) (ev_ixT (vr 3) ci (at_list (by decide) rfl)))) (fun _ => EvB.to (eb_not (eb_B (ev_call (ds := [_]) (ea1 (vr 6)) ⟨"no", [dints ks], rfl, nofun, (show 1 ≤ 2 by decide), fun q hq => ?_, rfl⟩))) rfl)) (by simp)) (fun hb => nomatch hb) (fun _ => Do.next ?_))
    · rw [List.mem_singleton.mp hq, List.length_map]
      refine ⟨by omega, fun d hd => .inl ?_⟩
      obtain ⟨z, _, rfl⟩ := List.mem_map.mp hd
      exact ⟨z, rfl⟩
    refine do_seq (do_if (b := true) (EvB.to (eb_test (ev_eqS (ev_ixT (vr 6) ci (at_list (by decide) rfl)) ev_str)) (by simp)) (fun _ => ?_) (fun hb => nomatch hb))
    exact do_ret (ev_call (ds := [_, _]) (ea_cons (vr 4) (ea1 (ev_ixT (vr 6) ci (at_list (by decide) rfl)))) ⟨p, ks, rfl, O, B, rfl⟩) rfl
  · rw [et]
    rw [e] at han
    subst han
    have ef : ansD (.yes ((List.range (p.wid - 1)).map fun l => fr (N l) L)) = .tuple [.str "yes", .list (rg (p.wid - 1) fun l => dF (fr (N l) L))] := by rw [← us_rg]; rfl
    rw [ef] at cs
    refine do_seq (do_asg (ev_call (ds := [_, _]) (ea_cons (vr 4) (ea1 (Ev.dat (ev_sub (ev_add (ev_len (vr 5)) (ev_len (vr 2))) ci) ecnt))) cs) ?_)
    refine do_seq (do_if (b := false) (EvB.to (eb_or (c := false) (eb_test (ev_neS (ev_ixT (vr 6) ci (at_list (by decide) rfl)) (ev_ixT (vr 3) ci (at_list (by decide) rfl)))) (fun _ => EvB.to (eb_not (eb_B (ev_call (ds := [_]) (ea1 (vr 6)) ⟨"yes", [rg (p.wid - 1) fun l => dF (fr (N l) L)], rfl, nofun, (show 1 ≤ 2 by decide), fun q hq => ?_, rfl⟩))) rfl)) (by simp)) (fun hb => nomatch hb) (fun _ => Do.next ?_))
    · rw [List.mem_singleton.mp hq, rg_len]
      refine ⟨by omega, fun d hd => .inr ?_⟩
      unfold rg at hd
      obtain ⟨z, _, rfl⟩ := List.mem_map.mp hd
      exact ⟨_, rfl⟩
    refine do_seq (do_if (b := false) (EvB.to (eb_test (ev_eqS (ev_ixT (vr 6) ci (at_list (by decide) rfl)) ev_str)) (by rfl)) (fun hb => nomatch hb) (fun _ => Do.next ?_))
    refine do_ret (ev_call (ds := [_, _, _, .list (outsD p N L), .list (potsD p N L)]) (ea_cons (vr 0) (ea_cons (vr 1) (ea_cons (vr 2) (ea_cons (Ev.dat (EvO.know (en_sl (ev_ixT (vr 6) ci (at_list (by decide) rfl)) ep_none (ep_some (Ev.dat (ev_len (vr 5)) (by rw [List.length_map]))))) ?_)
      (ea1 (Ev.dat (EvO.know (en_cat (d1 := [dF (0, 1)]) (EvO.know (en_lst (ds := [_]) (ea1 (ev_tup (ds := [_, _]) (ea_cons ci (ea1 ci)))))) (EvO.know (en_sl (ev_ixT (vr 6) ci (at_list (by decide) rfl)) (ep_some (Ev.dat (ev_len (vr 5)) (by rw [List.length_map]))) ep_none)) ?_)) ?_)))))) (dsp N L S)) rfl
    · rw [cut_front (by unfold Part.wid; omega)]; rfl
    · rw [cut_back (by unfold Part.wid; omega), rg_len]; show 1 + _ ≤ _; unfold Part.wid; omega
    · rw [cut_back (by unfold Part.wid; omega), pots_eq S.pos h1, show p.wid - 1 - p.sts.length = p.nodes.length - 1 by unfold Part.wid; omega]
      rfl
end
end Rl
set_option Elab.async false
set_option linter.all false
set_option maxRecDepth 100000
set_option maxHeartbeats 4000000
/-! the law's own call: the def is entered with no repr under way (repr of lists asks for that). -/
namespace Rl
open PySem PySem.Spec PyProof.Rows L2
/-- a promise of a call where no repr is under way -/
def RunG (P : Program) (w : World) (K : PySem.W.Frag) (mg : Str → Option Value) (base : Heap) (k : Nat) (f : Addr) (fd : FuncData) (ps : List Str) (sp : Sp) : Prop :=
  ∀ (A : Around) (outer : List Env) (s : Shared) (H : Hp) (args : Args) (us : List Value) (vs : List V) (Q : VK) (E : XK), A.guards = some [] → Room k A → Env0 P w K mg base A outer s H → BindsTo s fd args (ps.zip us) → Vals vs us → sp vs H Q E →
    codeAny (model P w) A (.call (.ref f) args) (CR CX0 outer P w H s Q E) s
theorem run_g {P : Program} {w : World} {K : PySem.W.Frag} {mg : Str → Option Value} {base : Heap} {k : Nat} {f : Addr} {name qual : Str} {st : Stmt} {fd : FuncData} {N ps : List Str} {sp : Sp} (F : Fun K name qual st f fd) (S : FnScope N ps (defScope st))
    (len : ∀ vs H Q E, sp vs H Q E → vs.length = ps.length)
    (hbody : ∀ (cdv : Value) (A : Around) (outer : List Env) (s : Shared) (H : Hp) (vs : List V) (Q : VK) (E : XK), A.guards = some [] → Room k (A.deeper (envOfC qual (defScope st) s.heap.objs.size f cdv)) → sp vs H Q E →
      ∃ t, PSs (cxOf CX0 P w K mg base N qual (defScope st) f cdv A outer s H E).nox (defBody st) t ∧ t { nx := fun _ H' => Q .non H', rt := Q } (start N vs) H) : RunG P w K mg base (k + 1) f fd ps sp := by
  obtain ⟨oc, od, kV, doc, pm, an, cdv, ct, osl, rfl, lk, hcd⟩ := F.ex
  intro A outer s H args us vs Q E hg hr e0 hb r hsp
  have hl := len _ _ _ _ hsp
  have stay : ∀ b o, base.get? b = some o → s.heap.get? b = some o := fun b o e => (e0.bs b o e).1
  refine codeAny_call_function hr.depth (e0.mod.kin.keeps stay _ _ lk) rfl S.co S.gen rfl (PySem.W.codeRec_of (e0.mod.kin.keeps stay) hcd) (hb _ _ _ _ ?_)
  refine wpAny_newFunctionEnv_cells S.kind (fun y hy => ?_) fun env he s1 x => ?_
  · rcases S.par y.1 (List.of_mem_zip (show (y.1, y.2) ∈ _ from hy)).1 with q | q
    · exact .inl q
    · exact .inr ⟨q, PySem.W.cellsFrom_some _ _ _ (.inl q)⟩
  subst he
  obtain ⟨t, ht, hq⟩ := hbody cdv A outer s H vs Q E hg (hr.deeper _) hsp
  refine ⟨(e0.mod.nolimit.keeps stay).keeps x.toInCall.keep, codeAny_func (wpAny_mono (ht.nox.run [] s1 (start N vs) H _ (inv_start S hr.hd e0 hl r x) hq) (fun fl s' hs => ?_) fun e s' hs => hs)⟩
  cases fl with
  | ret u => obtain ⟨v, σ', H', J, rv, q⟩ := hs; exact ⟨v, H', J.os, J.bare, J.base, J.hok, rv, q⟩
  | next => obtain ⟨σ', H', J, q⟩ := hs; exact ⟨V.non, H', J.os, J.bare, J.base, J.hok, rfl, q⟩
  | brk => obtain ⟨_, _, _, q⟩ := hs; exact q.elim
  | cont => obtain ⟨_, _, _, q⟩ := hs; exact q.elim
/-- from the promise, the law's call; the script is an object of the module, or it is known at its address -/
theorem law_g {P : Program} {w : World} {K : PySem.W.Frag} {mg mb : Str → Option Value} {k : Nat} {fa a : Addr} {fd : FuncData} {x : Str} {sp : Sp} {s₁ : Shared} {vs : List Value} {ns : List Int}
    (KX : K.In s₁.heap) (hns : s₁.heap.Ns mainGlobals mg) (hb : s₁.heap.Ns builtinsNs mb) (hbb : ∀ x : Str, x ≠ "__name__" → mb x = bootBuiltins x) (hlim : s₁.heap.NoLimit) (hg : s₁.gens = #[])
    (ha : s₁.heap.get? a = some { cls := .type "list", data := .seq vs.toArray }) (hi : IntsAre vs ns) (hl : ns.length ≤ sizeLine) (hr : Room k callerA)
    (F : ∀ base : Heap, K.In base → base.Ns mainGlobals mg → RunG P w K mg base k fa fd [x] sp) (hbind : ∀ (s : Shared) (u : Value), BindsTo s fd ⟨[u], []⟩ [(x, u)])
    (hsp : ∀ H : Hp, SqL K H a (ns.map V.int) → sp [.ref a] H (fun v _ => v = .bl true) fun _ _ _ => False) :
    codeAny (model P w) callerA (.call (.ref fa) ⟨[.ref a], []⟩) (fun r s' => r = .ok (.ret (.bool true)) ∧ OldK s₁.heap s'.heap ∧ s'.os = s₁.os ∧ AllBare s'.gens) s₁ := by
  have rv := L2.vals_ints hi
  have lenV := hi.length
  have core : ∀ H : Hp, (∀ b u, H b = some u → b = a ∧ u = .frz { cls := .type "list", data := .seq vs.toArray } (.lst (ns.map V.int))) → SqL K H a (ns.map V.int) → HOk P w H s₁.heap → (H a ≠ none → K.lookup a = none) →
      codeAny (model P w) callerA (.call (.ref fa) ⟨[.ref a], []⟩) (fun r s' => r = .ok (.ret (.bool true)) ∧ OldK s₁.heap s'.heap ∧ s'.os = s₁.os ∧ AllBare s'.gens) s₁ := by
    intro H hA hS hok hK
    have clear : ∀ {b : Addr} {o : Obj}, s₁.heap.get? b = some o → (b = a → H a = none) → H b = none := fun {b o} e n => by
      cases q : H b with
      | none => rfl
      | some u =>
        have e' := (hA b u q).1
        have z := n e'
        rw [← e', q] at z
        cases z
    have noD : ∀ {b : Addr} {o : Obj} {es : Array DictEntry} {ep : Nat}, s₁.heap.get? b = some o → o.data = .dict es ep → (hidT s₁.heap H).get? b = some o := fun {b o es ep} e d => hidT_get e (clear e fun e' => by
      subst e'
      rw [ha] at e
      cases e
      exact absurd (show Data.seq vs.toArray _ = Data.dict es ep from d) nofun)
    have nsK : ∀ {b : Addr} {m : Str → Option Value}, s₁.heap.Ns b m → (hidT s₁.heap H).Ns b m := fun {b m} ⟨o, es, ep, e, d, r⟩ => ⟨o, es, ep, noD e d, d, r⟩
    have hKb : K.In (hidT s₁.heap H) := fun b o e => hidT_get (KX b o e) (clear (KX b o e) fun e' => by
      cases q : H a with
      | none => rfl
      | some u =>
        have z := hK (by rw [q]; simp)
        rw [← e', e] at z
        cases z)
    have hM : Mod K mg (hidT s₁.heap H) := ⟨hKb, nsK hns, ⟨mb, nsK hb, hbb⟩, let ⟨mc, h1, h2⟩ := hlim; ⟨mc, nsK h1, h2⟩⟩
    have e0 : Env0 P w K mg (hidT s₁.heap H) callerA [] s₁ H := ⟨rfl, hM, fun b o e => of_hidT e, Nat.le_of_eq (hidT_size _ _), trivial, fun b hb => (nomatch (show b ∈ ([] : List Addr) from hb)), hok, .of_eq hg⟩
    refine codeAny_mono (F _ hKb (nsK hns) callerA [] s₁ H ⟨[.ref a], []⟩ [.ref a] [.ref a] _ _ rfl hr e0 (hbind s₁ (.ref a)) (.cons rfl .nil) (hsp H hS)) fun r s' h => ?_
    match r, h with
    | .error e, h => exact (show False from h).elim
    | .ok .next, h => exact (show False from h).elim
    | .ok .brk, h => exact (show False from h).elim
    | .ok .cont, h => exact (show False from h).elim
    | .ok (.ret u), ⟨v, H', os, bare, un, hok', r', q⟩ =>
      have q' : v = .bl true := q
      subst q'
      obtain rfl : u = Value.bool true := r'
      refine ⟨rfl, OldK.of_keep fun b o e => ?_, os, bare⟩
      cases q : H b with
      | none => exact un.keep b o e q (fun z => (nomatch (show b ∈ ([] : List Addr) from z))) (by simp)
      | some u =>
        obtain ⟨_, rfl⟩ := hA b u q
        obtain ⟨e1, _⟩ := hok b _ q
        obtain ⟨e2, _⟩ := hok' b _ (un.frzs b _ _ q)
        rw [e] at e1
        cases e1
        exact e2
  cases hk : K.lookup a with
  | some o =>
    have e := KX a o hk
    rw [ha] at e
    cases e
    exact core (fun _ => none) (fun b u z => nomatch (show (none : Option HO) = some u from z)) (.inr ⟨_, vs.toArray, _, hk, rfl, rfl, rfl, by rw [List.size_toArray, lenV]; exact hl, by simpa using rv⟩) (fun b u z => nomatch (show (none : Option HO) = some u from z)) fun z => absurd rfl z
  | none =>
    refine core (fun b => if b = a then some (.frz { cls := .type "list", data := .seq vs.toArray } (.lst (ns.map V.int))) else none) (fun b u z => ?_) (.inl (.inr ⟨{ cls := .type "list", data := .seq vs.toArray }, if_pos rfl⟩)) (fun b u z => ?_) fun _ => hk
    · by_cases hb : b = a
      · have z' := (if_pos hb).symm.trans z
        cases z'
        exact ⟨hb, rfl⟩
      · have z' := (if_neg hb).symm.trans z
        cases z'
    · by_cases hb : b = a
      · have z' := (if_pos hb).symm.trans z
        cases z'
        subst hb
        exact ⟨ha, by rw [List.length_map]; exact hl, vs, _, rv, ha⟩
      · have z' := (if_neg hb).symm.trans z
        cases z'
theorem walk_g {l : PySem.W.OpenLaw} {n k : Nat} {q : Program} {loose : List Str} {XP : (Str → Option Value) → Heap → Prop} {YP : World → Heap → Prop} {d : DefRec} {K : Params → PySem.W.Frag} {sp : PySem.W.Frag → Sp} {x : Str}
    (hn : l.most = some n) (hn2 : n ≤ sizeLine) (hdf : d.params.defaults = []) (hr : Room k callerA)
    (hY : ∀ (w : World) (h : Heap), YP w h → (K w.params).In h)
    (F : ∀ (w : World) (mg : Str → Option Value) (fa : Addr) (h : Heap), (K w.params).In h → h.Ns mainGlobals mg → mg d.name = some (.ref fa) →
      ∃ fd : FuncData, (∀ (s : Shared) (u : Value), BindsTo s fd ⟨[u], []⟩ [(x, u)]) ∧
        ∀ base : Heap, (K w.params).In base → base.Ns mainGlobals mg → RunG l.prog w (K w.params) mg base k fa fd [x] (sp (K w.params)))
    (hsp : ∀ (K : PySem.W.Frag) (H : Hp) (a : Addr) (ns : List Int), SqL K H a (ns.map V.int) → sp K [.ref a] H (fun v _ => v = .bl true) fun _ _ _ => False) :
    PySem.W.WalkO q loose XP YP l.row.toRowW d [] (fun f vs => PySem.call f vs) := by
  refine Att.attach_call hn hdf fun w s₀ s₁ mg mb fa o pm cd doc a vs ns G Y ho hd hcd hmg hobj hints hlen hg => ?_
  have KX := hY w _ Y
  obtain ⟨fd, hb, hF⟩ := F w mg fa _ KX G.T.g hmg
  exact law_g KX G.T.g G.T.b G.T.builtins G.T.nolimit hg hobj hints (Nat.le_trans hlen hn2) hr hF hb fun H hS => hsp _ H a ns hS
end Rl
set_option Elab.async false
set_option linter.all false
set_option maxRecDepth 100000
set_option maxHeartbeats 4000000
set_option exponentiation.threshold 10000
/-! repr of data; the law's right; the law. -/
namespace Rl
open PySem PySem.Spec PyProof.Rows L2
/-! what repr asks of data -/
structure Rp (n w : Nat) (d : PyData) : Prop where
  lay : d.canLay0 = true
  dep : d.depth ≤ n
  wt : d.weight ≤ w
  sh : d.intsShort 13 = true
  sb : d.showable = true
theorem Rp.mono {n w w' : Nat} {d : PyData} (h : Rp n w d) (hw : w ≤ w') : Rp n w' d := ⟨h.lay, h.dep, Nat.le_trans h.wt hw, h.sh, h.sb⟩
theorem Rp.up {n n' w : Nat} {d : PyData} (h : Rp n w d) (hn : n ≤ n') : Rp n' w d := ⟨h.lay, Nat.le_trans h.dep hn, h.wt, h.sh, h.sb⟩
theorem rp_int {n : Nat} {i : Int} (h : i.natAbs < 2 ^ 20) : Rp n 20 (.int i) := by
  have l : i.natAbs.log2 < 20 := by
    by_cases z : i.natAbs = 0
    · rw [z]; decide
    · exact (Nat.log2_lt z).mpr h
  refine ⟨by unfold PyData.canLay0; rfl, by unfold PyData.depth; exact Nat.zero_le _, ?_, ?_, ?_⟩
  · unfold PyData.weight
    split <;> omega
  · unfold PyData.intsShort
    exact decide_eq_true (PyData.shown_int_le (Nat.lt_trans h (by decide)))
  · unfold PyData.showable
    exact decide_eq_true (by omega)
theorem rp_bool {n : Nat} (b : Bool) : Rp n 20 (.bool b) := ⟨by unfold PyData.canLay0; rfl, by unfold PyData.depth; exact Nat.zero_le _, by unfold PyData.weight; exact Nat.zero_le _, by unfold PyData.intsShort; rfl, by unfold PyData.showable; rfl⟩
theorem rp_all {n w : Nat} : ∀ {xs : List PyData}, (∀ d ∈ xs, Rp n w d) → PyData.canLayAll0 xs = true ∧ PyData.depthAll xs ≤ n ∧ PyData.weightAll xs ≤ xs.length * (w + 1) ∧ PyData.intsShortAll 13 xs = true ∧ PyData.showableAll xs = true
  | [], _ => ⟨by unfold PyData.canLayAll0; rfl, by unfold PyData.depthAll; exact Nat.zero_le _, by unfold PyData.weightAll; exact Nat.zero_le _, by unfold PyData.intsShortAll; rfl, by unfold PyData.showableAll; rfl⟩
  | x :: xs, h => by
    have h1 := h x List.mem_cons_self
    obtain ⟨a, b, c, d, e⟩ := rp_all (n := n) (w := w) (xs := xs) fun d hd => h d (List.mem_cons_of_mem _ hd)
    refine ⟨?_, ?_, ?_, ?_, ?_⟩
    · unfold PyData.canLayAll0; rw [h1.lay, a]; rfl
    · unfold PyData.depthAll; exact Nat.max_le.mpr ⟨h1.dep, b⟩
    · unfold PyData.weightAll
      have := h1.wt
      rw [List.length_cons, Nat.add_mul]
      omega
    · unfold PyData.intsShortAll; rw [h1.sh, d]; rfl
    · unfold PyData.showableAll; rw [h1.sb, e]; rfl
theorem rp_list {n w k : Nat} {xs : List PyData} (hk : xs.length ≤ k) (h : ∀ d ∈ xs, Rp n w d) : Rp (n + 1) (k * (w + 1)) (.list xs) := by
  obtain ⟨a, b, c, d, e⟩ := rp_all h
  exact ⟨by unfold PyData.canLay0; exact a, by unfold PyData.depth; omega, by unfold PyData.weight; exact Nat.le_trans c (Nat.mul_le_mul_right _ hk), by unfold PyData.intsShort; exact d, by unfold PyData.showable; exact e⟩
theorem rp_tuple {n w k : Nat} {xs : List PyData} (hk : xs.length ≤ k) (h : ∀ d ∈ xs, Rp n w d) : Rp (n + 1) (k * (w + 1)) (.tuple xs) := by
  obtain ⟨a, b, c, d, e⟩ := rp_all h
  exact ⟨by unfold PyData.canLay0; exact a, by unfold PyData.depth; omega, by unfold PyData.weight; exact Nat.le_trans c (Nat.mul_le_mul_right _ hk), by unfold PyData.intsShort; exact d, by unfold PyData.showable; exact e⟩
theorem forall2 {p : PyData → Prop} {a b : PyData} (h1 : p a) (h2 : p b) : ∀ d ∈ [a, b], p d := fun d hd => by
  rcases List.mem_cons.mp hd with e | hd
  · rw [e]; exact h1
  · rw [List.mem_singleton.mp hd]; exact h2
theorem forall3 {p : PyData → Prop} {a b c : PyData} (h1 : p a) (h2 : p b) (h3 : p c) : ∀ d ∈ [a, b, c], p d := fun d hd => by
  rcases List.mem_cons.mp hd with e | hd
  · rw [e]; exact h1
  · exact forall2 h2 h3 d hd
theorem forall4 {p : PyData → Prop} {a b c e : PyData} (h1 : p a) (h2 : p b) (h3 : p c) (h4 : p e) : ∀ d ∈ [a, b, c, e], p d := fun d hd => by
  rcases List.mem_cons.mp hd with e | hd
  · rw [e]; exact h1
  · exact forall3 h2 h3 h4 d hd
theorem rp_ln {n : Net} (N : NetOk n) {x : Ln} (h : x ∈ n.lines) : Rp 1 84 (dLn x) := by
  have m := N.line x h
  have := N.nodes
  exact rp_tuple (n := 0) (w := 20) (k := 4) (Nat.le_refl 4) (forall4 (rp_int (by omega)) (rp_int (by omega)) (rp_int (by omega)) (rp_int (by omega)))
theorem rp_stn {n : Net} (N : NetOk n) {x : Stn} (h : x ∈ n.stations) : Rp 1 84 (dStn x) := by
  have m := N.station x h
  have := N.nodes
  exact rp_tuple (n := 0) (w := 20) (k := 4) (Nat.le_refl 4) (forall4 (rp_int (by omega)) (rp_int (by omega)) (rp_int (by omega)) (rp_bool _))
theorem rp_ld {n : Net} (N : NetOk n) {x : Ld} (h : x ∈ n.loads) : Rp 1 84 (dLd x) := by
  have m := N.load x h
  have := N.nodes
  exact rp_tuple (n := 0) (w := 20) (k := 4) (show 2 ≤ 4 by decide) (forall2 (rp_int (by omega)) (rp_int (by omega)))
theorem rp_net {n : Net} (N : NetOk n) : Rp 3 2724 (dNet n) := by
  have := N.nodes
  refine rp_tuple (n := 2) (w := 680) (k := 4) (Nat.le_refl 4) (forall4 ((rp_int (by omega)).mono (by decide)) ?_ ?_ ?_)
  · exact rp_list (n := 1) (w := 84) (k := 8) (by rw [List.length_map]; exact N.lines) fun d hd => by
      obtain ⟨x, hx, rfl⟩ := List.mem_map.mp hd
      exact rp_ln N hx
  · exact rp_list (n := 1) (w := 84) (k := 8) (by rw [List.length_map]; exact Nat.le_trans N.stations (by decide)) fun d hd => by
      obtain ⟨x, hx, rfl⟩ := List.mem_map.mp hd
      exact rp_stn N hx
  · exact rp_list (n := 1) (w := 84) (k := 8) (by rw [List.length_map]; exact Nat.le_trans N.loads (by decide)) fun d hd => by
      obtain ⟨x, hx, rfl⟩ := List.mem_map.mp hd
      exact rp_ld N hx
theorem rp_nats {xs : List Nat} {m : Nat} (hl : xs.length ≤ 8) (h : ∀ k ∈ xs, k < m) (hm : m ≤ 8) : Rp 1 168 (dNatsT xs) := rp_tuple (n := 0) (w := 20) (k := 8) (by rw [natI_len]; exact hl) fun d hd => by
  obtain ⟨z, hz, rfl⟩ := List.mem_map.mp hd
  unfold natI at hz
  obtain ⟨k, hk, rfl⟩ := List.mem_map.mp hz
  have := h k hk
  exact rp_int (by omega)
theorem rp_sta {n : Net} {s : Sta} (N : NetOk n) (S : StaOk n s) : Rp 2 507 (dSta s) :=
  rp_tuple (n := 1) (w := 168) (k := 3) (Nat.le_refl 3) (forall3 (rp_nats S.closedN S.closed N.lines) (rp_nats (Nat.le_trans S.runningN (by decide)) S.running (Nat.le_trans N.stations (by decide))) (rp_nats (Nat.le_trans S.fedN (by decide)) S.fed (Nat.le_trans N.loads (by decide))))
theorem rp_both {n : Net} {s : Sta} (N : NetOk n) (S : StaOk n s) : Rp 4 5450 (.list [dNet n, dSta s]) := rp_list (n := 3) (w := 2724) (k := 2) (Nat.le_refl 2) (forall2 (rp_net N) (((rp_sta N S).mono (by decide)).up (by decide)))
def rRepr (K : PySem.W.Frag) : List V → Hp → VK → Prop := fun vs H Q => ∃ (a : Addr) (d : PyData), vs = [.ref a] ∧ Dp K H (.ref a) d ∧ Rp 60 1000000 d ∧ Q (.str d.shown) H
theorem cr_reprD {X : Cx} (hg : X.A.guards = some []) (hu : X.A.units + 64 < cLine) : CallR X (.builtin "repr") (rRepr X.K) := by
  intro pins s σ H vs us Q I r h
  obtain ⟨a, d, rfl, dp, R, q⟩ := h
  rw [Vals.ref1 r]
  obtain ⟨as, rd⟩ := Dp.reads I d (.ref a) (.ref a) dp rfl
  have ly : PyData.layable0 d = true := by
    unfold PyData.layable0
    rw [R.lay, decide_eq_true (show d.depth ≤ 64 from Nat.le_trans R.dep (by decide)), decide_eq_true (show d.weight ≤ 2 ^ 20 from Nat.le_trans R.wt (by decide))]
    rfl
  refine repr_of_reads' rd R.sb (PyData.noDict_hsm (PyData.hasDict_of_canLay d R.lay)) hg (by have := R.dep; omega) (fun b o e => e) (fun h' u tk hk => ?_) (PyData.shown_fits_of_layable0 (B := 13) (by decide) (by decide) ly R.sh)
  exact ⟨.str d.shown, H, I.kept hk, ⟨u, rfl⟩, q⟩
section
variable {K : PySem.W.Frag} {ε : List Sl} {ms : Ms} {ta te : TE}
theorem ev_repr {ds : List PyData} (ha : Ev K ta ε ms (.dat (.list ds))) (R : Rp 60 1000000 (.list ds)) : Ev K (tCB (rRepr K) (tCons ta tNil)) ε ms (.dat (.str (PyData.list ds).shown)) :=
  ev_cb (ea1 ha) fun Hk H vs sm _ dvs Q q => by
    obtain ⟨v, rfl, dv⟩ := sls1 dvs
    obtain ⟨a, xs, rfl, hx, dx⟩ := dp_list dv
    exact ⟨a, .list ds, rfl, Dq.dp _ _ (Dq.mono sm _ _ dv), R, q _ Hk H (.refl sm) (.str _)⟩
theorem dq_ints {Hk : Hp} : ∀ (ns : List Int), DqAll K Hk (ns.map V.int) (dints ns)
  | [] => .nil
  | n :: ns => .cons (.int n) (dq_ints ns)
theorem en_slS {tl th : TO} {ns : List Int} {lo hi : Option Int} (h : Ev K te ε ms (.scr ns)) (h1 : EvP K tl ε ms lo) (h2 : EvP K th ε ms hi) : EvN K (tSl (rSlL K) te tl th) ε ms (cutD (dints ns) lo hi) := fun Hk σ H1 w Q q =>
  h Hk σ H1 w _ fun v Hn H2 g dv => h1 Hn σ H2 (w.grow g) _ fun Hm H3 g2 => h2 Hm σ H3 ((w.grow g).grow g2) _ fun Ho H4 g3 => by
    obtain ⟨a, rfl, hs⟩ := dv.mono (g2.kk.trans g3.kk)
    refine ⟨a, ns.map V.int, rfl, g3.kn.seq hs, fun p hp => ?_⟩
    have G := g.trans (g2.trans g3)
    refine q p _ Ho _ rfl (G.trans (Grow.new G.kn hp)) (fun e he => ?_) fun e he => ?_
    · cases List.mem_singleton.mp he
      exact G.fresh hp
    · cases List.mem_singleton.mp he
      exact ⟨same_back G.kn hp, _, upd_same, cut_data (dq_ints ns) lo hi⟩
end
theorem cut_mem {ds : List PyData} {lo hi : Option Int} {d : PyData} (h : d ∈ cutD ds lo hi) : d ∈ ds := List.mem_of_mem_drop (List.mem_of_mem_take h)
theorem cut_len {ds : List PyData} {i j : Int} (h0 : 0 ≤ i) (h : i ≤ j) : (cutD ds (some i) (some j)).length ≤ ds.length := by
  unfold cutD
  rw [List.length_take, List.length_drop]
  omega
theorem lt2000' {a n : Nat} (h : a < 2 ^ n) (hn : n ≤ 9000) : a < 2 ^ 9000 := Nat.lt_of_lt_of_le h (Nat.pow_le_pow_right (by decide) hn)
section
variable {P : Program} {w : World} {K : PySem.W.Frag} {mg : Str → Option Value} {base : Heap} {CT CI : Addr}
abbrev s_law_right : Stmt := topS 43
abbrev N_law_right : List Str := ["_law_net", "_law_state_here", "_law_island", "_law_told", "_law_rows", "_law_one", "_law_good", "_law_common", "_law_item"]
theorem sc_law_right : FnScope N_law_right ["_law_net", "_law_state_here", "_law_island", "_law_told"] (defScope s_law_right) := ⟨rfl, rfl, rfl, by decide +kernel, rfl, by decide +kernel, by decide +kernel⟩
theorem w_law_right (T : Txt K mg CT CI) (D : Def K mg "_law_right" s_law_right ["_law_net", "_law_state_here", "_law_island", "_law_told"]) (c__law_conditions : Cal P w K mg base "_law_conditions" 2 ["_law_net", "_law_state_here", "_law_island"] (ctr K (pur cCondOf)))
    (c_conditions_of : Cal P w K mg base "conditions_of" 5 ["net", "state", "island"] (ctr K (pur cCondOf))) (c__law_fraction : Cal P w K mg base "_law_fraction" 2 ["_law_top", "_law_low"] (ctr K (pur cLFrac)))
    (c__law_is_dispatch : Cal P w K mg base "_law_is_dispatch" 4 ["_law_net", "_law_state_here", "_law_island", "_law_outputs", "_law_potentials"] (ctr K (pur cIsDisp))) (c_is_dispatch : Cal P w K mg base "is_dispatch" 5 ["net", "state", "island", "outputs", "potentials"] (ctr K (pur cIsDisp)))
    (c__law_gcd : Cal P w K mg base "_law_gcd" 1 ["_law_a", "_law_b"] (ctr K (pur cLGcd))) (c__law_is_refusal : Cal P w K mg base "_law_is_refusal" 1 ["_law_rows", "_law_integers"] (ctr K (pur cLRef))) (c_is_barrier : Cal P w K mg base "is_barrier" 6 ["net", "state", "island", "integers"] (ctr K (pur cIsBar))) :
    Cal P w K mg base "_law_right" 7 ["_law_net", "_law_state_here", "_law_island", "_law_told"] (ctr K (pur cLSolved)) := by
  refine D.cal sc_law_right (fun ss ms M R ⟨ds, r, e, _, _, ⟨_, _, _, e2, _⟩, _⟩ => by rw [e, e2]; rfl) fun f cdv A outer s H vs Q E hr => ?_
  have c__law_conditions := c__law_conditions.mono (j := 6) (by decide)
  have c_conditions_of := c_conditions_of.mono (j := 6) (by decide)
  have c__law_fraction := c__law_fraction.mono (j := 6) (by decide)
  have c__law_is_dispatch := c__law_is_dispatch.mono (j := 6) (by decide)
  have c_is_dispatch := c_is_dispatch.mono (j := 6) (by decide)
  have c__law_gcd := c__law_gcd.mono (j := 6) (by decide)
  have c__law_is_refusal := c__law_is_refusal.mono (j := 6) (by decide)
  refine ⟨_, pss_cons (ps_set (i := 4) sc_law_right.nd rfl (Or.inl rfl) (pe_callC c__law_conditions hr (by rfl) (pa_cons (pv 0) (pa_cons (pv 1) (pa_cons (pv 2) pa_nil)))))
    (pss_cons (ps_if (PW.pt (pw_or (pt_cmpR (op_neD hr.units) (pe_callC c_conditions_of hr (by rfl) (pa_cons (pv 0) (pa_cons (pv 1) (pa_cons (pv 2) pa_nil)))) (pv 4) (nomark _)) (pw_or1 (pt_not (pt_val (pe_callB call_isi (by rfl) T.b_isinstance (by decide +kernel) (pa_cons (pv 3) (pa_cons (pe_bltn (v := .ty "tuple") (by rfl) T.b_tuple boot_tuple rfl) pa_nil))))))))
      (pss_one (ps_ret (pe_bl)))
      (pss_nil))
    (pss_cons (ps_if (PW.pt (pw_and (pt_cmpR op_eq (pe_ix ix_tup (pv 3) (pe_int) (fun _ _ => rfl)) (pe_str) (nomark _)) (pw_and1 (pt_cmpR op_eq (pe_callB call_len_seq (by rfl) T.b_len (by decide +kernel) (pa_cons (pv 3) pa_nil)) (pe_int) (nomark _)))))
      (pss_cons (ps_for PassesOwn.never rfl (pi_list (pe_op op_cat (pe_ix ix_tup (pv 3) (pe_int) (fun _ _ => rfl)) (pe_ix ix_tup (pv 3) (pe_int) (fun _ _ => rfl)))) (pg_name (i := 5) sc_law_right.nd rfl (Or.inl rfl))
        (pss_one (ps_if (PW.pt (pw_or (pt_not (pt_val (pe_callB call_isi (by rfl) T.b_isinstance (by decide +kernel) (pa_cons (pv 5) (pa_cons (pe_bltn (v := .ty "tuple") (by rfl) T.b_tuple boot_tuple rfl) pa_nil))))) (pw_or (pt_cmpR op_lt (pe_ix ix_tup (pv 5) (pe_int) (fun _ _ => rfl)) (pe_int) (nomark _)) (pw_or1 (pt_cmpR (op_neD hr.units) (pv 5) (pe_callC c__law_fraction hr (by rfl) (pa_cons (pe_ix ix_tup (pv 5) (pe_int) (fun _ _ => rfl)) (pa_cons (pe_ix ix_tup (pv 5) (pe_int) (fun _ _ => rfl)) pa_nil))) (nomark _))))))
          (pss_one (ps_ret (pe_bl)))
          (pss_nil))))
      (pss_cons (ps_set (i := 6) sc_law_right.nd rfl (Or.inl rfl) (pe_callC c__law_is_dispatch hr (by rfl) (pa_cons (pv 0) (pa_cons (pv 1) (pa_cons (pv 2) (pa_cons (pe_ix ix_tup (pv 3) (pe_int) (fun _ _ => rfl)) (pa_cons (pe_ix ix_tup (pv 3) (pe_int) (fun _ _ => rfl)) pa_nil)))))))
      (pss_one (ps_ret (pe_and (pv 6) (pe_one (pe_cmpR op_isBl (pe_callC c_is_dispatch hr (by rfl) (pa_cons (pv 0) (pa_cons (pv 1) (pa_cons (pv 2) (pa_cons (pe_ix ix_tup (pv 3) (pe_int) (fun _ _ => rfl)) (pa_cons (pe_ix ix_tup (pv 3) (pe_int) (fun _ _ => rfl)) pa_nil)))))) (pe_bl) (nomark _))))))))
      (pss_nil))
    (pss_cons (ps_if (PW.pt (pw_or (pt_cmpR op_ne (pe_ix ix_tup (pv 3) (pe_int) (fun _ _ => rfl)) (pe_str) (nomark _)) (pw_or1 (pt_cmpR op_ne (pe_callB call_len_seq (by rfl) T.b_len (by decide +kernel) (pa_cons (pv 3) pa_nil)) (pe_int) (nomark _)))))
      (pss_one (ps_ret (pe_bl)))
      (pss_nil))
    (pss_cons (ps_set (i := 7) sc_law_right.nd rfl (Or.inl rfl) (pe_int))
    (pss_cons (ps_for PassesOwn.never rfl (pi_list (pe_ix ix_tup (pv 3) (pe_int) (fun _ _ => rfl))) (pg_name (i := 8) sc_law_right.nd rfl (Or.inl rfl))
      (pss_one (ps_set (i := 7) sc_law_right.nd rfl (Or.inl rfl) (pe_callC c__law_gcd hr (by rfl) (pa_cons (pv 7) (pa_cons (pv 8) pa_nil))))))
    (pss_one (ps_ret (pe_and (pe_callC c__law_is_refusal hr (by rfl) (pa_cons (pv 4) (pa_cons (pe_ix ix_tup (pv 3) (pe_int) (fun _ _ => rfl)) pa_nil))) (pe_and (pe_cmpR op_eq (pv 7) (pe_int) (nomark _)) (pe_one (pe_cmpR op_isBl (pe_callC c_is_barrier hr (by rfl) (pa_cons (pv 0) (pa_cons (pv 1) (pa_cons (pv 2) (pa_cons (pe_ix ix_tup (pv 3) (pe_int) (fun _ _ => rfl)) pa_nil))))) (pe_bl) (nomark _)))))))))))), ?_⟩
  rintro _ _ _ _ ⟨_, _, rfl, rfl, rfl, ⟨n, s, isl, rfl, I, rfl⟩, rfl⟩
  refine do_seq (do_asg (ev_call (ds := [_, _, _]) (ea_cons (vr 0) (ea_cons (vr 1) (ea1 (vr 2)))) ⟨n, s, isl, rfl, I, rfl⟩) ?_)
  have cc : cCondOf (nsi n s isl) (rowsD (partOf n s isl)) := ⟨n, s, isl, rfl, I, rfl⟩
  obtain ⟨p, hp⟩ : ∃ p, p = partOf n s isl := ⟨_, rfl⟩
  have O : PartOk p := by rw [hp]; exact I.ok
  have dsp : ∀ N L, Sol p N L → cIsDisp [dNet n, dSta s, dNats isl, .list (outsD p N L), .list (potsD p N L)] (.bool true) := fun N L S => ⟨n, s, isl, N, L, by rw [hp], I, by rw [← hp]; exact S, rfl⟩
  have bar : ∀ ks, Bar p ks → cIsBar [dNet n, dSta s, dNats isl, .list (dints ks)] (.bool true) := fun ks B => ⟨n, s, isl, ks, rfl, I, by rw [← hp]; exact B, rfl⟩
  rw [← hp] at cc ⊢
  have h1 := O.ne.1
  have h8 := O.ne.2
  have h4 := O.sts
  have h9 := O.lns
  have kit : kitB "tuple" "tuple" = some true := by exact kit_tt
  show Do K _ [.dat (dNet n), .dat (dSta s), .dat (dNats isl), .dat (told p), .dat (rowsD p), .un, .un, .un, .un] [] _
  rcases told_cases O with ⟨ks, e, B, et⟩ | ⟨N, L, e, S, et⟩
  · rw [et]
    refine do_seq (do_if (b := false) (EvB.to (eb_or (c := false) (eb_test (ev_neD (ev_call (ds := [_, _, _]) (ea_cons (vr 0) (ea_cons (vr 1) (ea1 (vr 2)))) cc) (vr 4) ((shp_rows (n := 0) p).ok (by decide)) ((shp_rows (n := 0) p).ok (by decide)))) (fun _ => EvB.to (eb_not (eb_B (ev_isi (b := true) (vr 3) (by exact kit)))) rfl)) (by rw [(shp_rows (n := 0) p).refl]; rfl)) (fun hb => nomatch hb) (fun _ => Do.next ?_))
    refine do_seq (do_if (b := false) (EvB.to (eb_and (b := false) (c := false) (EvB.to (eb_test (ev_eqS (ev_ixT (vr 3) ci (at_list (by decide) rfl)) ev_str)) (by rfl)) (fun h => nomatch h)) rfl) (fun hb => nomatch hb) (fun _ => Do.next ?_))
    refine do_seq (do_if (b := false) (EvB.to (eb_or (eb_test (ev_neS (ev_ixT (vr 3) ci (at_list (by decide) rfl)) ev_str)) (fun _ => eb_test (ev_neI (ev_lenT (vr 3)) ci))) (by rfl)) (fun hb => nomatch hb) (fun _ => Do.next ?_))
    refine do_seq (do_asg ci ?_)
    have bd : ∀ j, gcdL (ks.take j) ≤ 2 ^ 220 := fun j => by
      by_cases z : gcdL (ks.take j) = 0
      · rw [z]; exact Nat.zero_le _
      · exact Nat.le_of_lt (gcdL_le z fun x hx => B.sz x (List.mem_of_mem_take hx))
    refine do_seq (do_forR (n := ks.length) ((ei_list (ev_ixT (vr 3) ci (at_list (by decide) rfl))).to (dints_of ks)) (fun j ε ms => ms = [] ∧ ∃ x8, ε = [.dat (dNet n), .dat (dSta s), .dat (dNats isl), .dat (.tuple [.str "no", .list (dints ks)]), .dat (rowsD p), .un, .un, .dat (.int (gcdL (ks.take j) : Nat)), x8]) [8] ?_ ?_ ?_)
    · exact ⟨rfl, _, rfl⟩
    · rintro j _ _ hj ⟨rfl, x8, rfl⟩
      refine ⟨_, tg_name (by decide), ?_⟩
      refine do_asg (s := .dat (.int (gcdL (ks.take (j + 1)) : Nat))) (Ev.dat (ev_call (ds := [_, _]) (ea_cons (vr 7) (ea1 (vr 8))) ⟨_, _, rfl, ?_, lt2000' (getD_sz B.sz j) (by decide), rfl⟩) ?_) ⟨rfl, _, rfl⟩
      · have := bd j
        rw [Int.natAbs_natCast]
        exact Nat.lt_of_le_of_lt this (Nat.pow_lt_pow_right (by decide) (by decide))
      · rw [List.take_add_one, List.getElem?_eq_getElem hj]
        show _ = PyData.int ((gcdL (ks.take j ++ [ks[j]]) : Nat) : Int)
        rw [gcdL_snoc, getD_at (List.getElem?_eq_getElem hj)]
        unfold Int.gcd
        rw [Int.natAbs_natCast]
    rintro _ _ ⟨rfl, x8, rfl⟩
    rw [List.take_length, B.one]
    exact do_ret (Ev.dat (ev_and (b := true) (c := true) (ev_call (ds := [_, _]) (ea_cons (vr 4) (ea1 (ev_ixT (vr 3) ci (at_list (by decide) rfl)))) ⟨p, ks, rfl, O, B, rfl⟩) (fun _ => Ev.dat (ev_and (b := true) (c := true) (Ev.dat (ev_eqI (vr 7) ci) (by rfl)) (fun _ => Ev.dat (ev_isB (ev_call (ds := [_, _, _, _]) (ea_cons (vr 0) (ea_cons (vr 1) (ea_cons (vr 2) (ea1 (ev_ixT (vr 3) ci (at_list (by decide) rfl)))))) (bar ks B)) ev_bl) (by rfl))) rfl)) rfl) rfl
  · rw [et]
    have lo : (outsD p N L).length = p.sts.length := rg_len _ _
    have lp : (potsD p N L).length = p.nodes.length := rg_len _ _
    refine do_seq (do_if (b := false) (EvB.to (eb_or (c := false) (eb_test (ev_neD (ev_call (ds := [_, _, _]) (ea_cons (vr 0) (ea_cons (vr 1) (ea1 (vr 2)))) cc) (vr 4) ((shp_rows (n := 0) p).ok (by decide)) ((shp_rows (n := 0) p).ok (by decide)))) (fun _ => EvB.to (eb_not (eb_B (ev_isi (b := true) (vr 3) (by exact kit)))) rfl)) (by rw [(shp_rows (n := 0) p).refl]; rfl)) (fun hb => nomatch hb) (fun _ => Do.next ?_))
    refine do_seq (do_if (b := true) (EvB.to (eb_and (eb_test (ev_eqS (ev_ixT (vr 3) ci (at_list (by decide) rfl)) ev_str)) (fun _ => eb_test (ev_eqI (ev_lenT (vr 3)) ci))) (by rfl)) (fun _ => ?_) (fun hb => nomatch hb))
    refine do_seq (do_for (ei_list (EvO.know (en_cat (ev_ixT (vr 3) ci (at_list (by decide) rfl)) (ev_ixT (vr 3) ci (at_list (by decide) rfl)) (by rw [lo, lp]; omega)))) (fun j ε ms => ms = [] ∧ ∃ x5, ε = [.dat (dNet n), .dat (dSta s), .dat (dNats isl), .dat (.tuple [.str "yes", .list (outsD p N L), .list (potsD p N L)]), .dat (rowsD p), x5, .un, .un, .un]) [5] ?_ ?_ ?_)
    · exact ⟨rfl, _, rfl⟩
    · rintro j d _ _ hd ⟨rfl, x5, rfl⟩
      refine ⟨_, tg_name (by decide), ?_⟩
      have hx : ∃ z, z.natAbs < 2 ^ 221 ∧ d = dF (fr z L) := by
        rcases List.mem_append.mp (List.mem_of_getElem? hd) with h | h
        · unfold outsD rg at h
          obtain ⟨k, _, rfl⟩ := List.mem_map.mp h
          exact ⟨_, S.szN k, rfl⟩
        · unfold potsD rg at h
          obtain ⟨k, _, rfl⟩ := List.mem_map.mp h
          exact ⟨_, pV_abs S k, rfl⟩
      obtain ⟨z, hz, rfl⟩ := hx
      have fd := fr_den (N := z) S.pos
      refine do_if (b := false) (EvB.to (eb_or (b := false) (c := false) (EvB.to (eb_not (eb_B (ev_isi (b := true) (vr 5) (by exact kit)))) rfl) (fun _ => EvB.to (eb_or (b := false) (c := false) (EvB.to (eb_test (ev_lt (ev_ixT (vr 5) ci (at_list (by decide) rfl)) ci)) (decide_eq_false (by omega))) (fun _ => EvB.to (eb_test (ev_neD (e := dF (fr z L)) (vr 5) (Ev.dat (ev_call (ds := [_, _]) (ea_cons (ev_ixT (vr 5) ci (at_list (by decide) rfl)) (ea1 (ev_ixT (vr 5) ci (at_list (by decide) rfl)))) ⟨_, _, rfl, fd, ?_, ?_, rfl⟩) (by rw [fr_self S.pos])) ((shp_dF (n := 0) _).ok (by decide)) ((shp_dF (n := 0) _).ok (by decide)))) (by rw [(shp_dF (n := 0) _).refl]; rfl))) rfl)) rfl) (fun hb => nomatch hb) (fun _ => Do.next ⟨rfl, _, rfl⟩)
      · exact Nat.lt_of_le_of_lt (fr_num_abs S.pos) (lt2000' hz (by decide))
      · exact Nat.lt_of_le_of_lt (fr_den_abs S.pos) (lt2000' S.szL (by decide))
    rintro _ _ ⟨rfl, x5, rfl⟩
    refine do_seq (do_asg (ev_call (ds := [_, _, _, _, _]) (ea_cons (vr 0) (ea_cons (vr 1) (ea_cons (vr 2) (ea_cons (ev_ixT (vr 3) ci (at_list (by decide) rfl)) (ea1 (ev_ixT (vr 3) ci (at_list (by decide) rfl))))))) (dsp N L S)) ?_)
    exact do_ret (Ev.dat (ev_and (b := true) (c := true) (vr 6) (fun _ => Ev.dat (ev_isB (ev_call (ds := [_, _, _, _, _]) (ea_cons (vr 0) (ea_cons (vr 1) (ea_cons (vr 2) (ea_cons (ev_ixT (vr 3) ci (at_list (by decide) rfl)) (ea1 (ev_ixT (vr 3) ci (at_list (by decide) rfl))))))) (dsp N L S)) ev_bl) (by rfl))) rfl) rfl
end
end Rl
set_option Elab.async false
set_option linter.all false
set_option maxRecDepth 100000
set_option maxHeartbeats 4000000
set_option exponentiation.threshold 10000
/-! the law. -/
namespace Rl
open PySem PySem.Spec PyProof.Rows L2
section
variable {P : Program} {w : World} {K : PySem.W.Frag} {mg : Str → Option Value} {base : Heap} {CT CI : Addr}
theorem run_ctr {x qual : Str} {st : Stmt} {f : Addr} {fd : FuncData} {N ps : List Str} {k : Nat} {C : Ct} (F : Fun K x qual st f fd) (S : FnScope N ps (defScope st)) (len : ∀ ss ms M R, C ss ms M R → ss.length = ps.length)
    (hbody : ∀ (cdv : Value) (A : Around) (outer : List Env) (s : Shared) (H : Hp) (vs : List V) (Q : VK) (E : XK), A.guards = some [] → Room k (A.deeper (envOfC qual (defScope st) s.heap.objs.size f cdv)) →
      ∃ t, PSs (cxOf CX0 P w K mg base N qual (defScope st) f cdv A outer s H E).nox (defBody st) t ∧ ∀ ss ms M R, C ss ms M R → Do K t (startS N ss) ms (fend R)) : RunG P w K mg base (k + 1) f fd ps (ctr K C) := by
  refine run_g F S (fun vs H Q E ⟨Hk, ss, ms, M, R, hC, _, hv, _⟩ => ?_) (fun cdv A outer s H vs Q E hg hr ⟨Hk, ss, ms, M, R, hC, hs, hv, hm, ho, k⟩ => ?_)
  · rw [← Paired.length hv]; exact len ss ms M R hC
  · obtain ⟨t, h1, h2⟩ := hbody cdv A outer s H vs Q E hg hr
    refine ⟨t, h1, h2 ss ms M R hC M Hk H _ ⟨fun ε' ms' Hk' σ' H' e w' g' o' => ?_, fun _ _ _ _ _ e => e.elim, fun _ _ _ _ _ e => e.elim, fun s' ms' Hk' v' H' e r' m' g' o' => ?_⟩ Hk _ H ⟨hs, sg_start N hv, hm⟩ (.refl hs) ho⟩
    · exact k .non (.dat .none) ms' Hk' H' e .non w'.mo g' o'
    · exact k v' s' ms' Hk' H' e r' m' g' o'
def cLaw : Ct := fun ss ms M R => ∃ ns : List Int, ss = [.scr ns] ∧ ms = [] ∧ M = [] ∧ R = fun s _ => s = .dat (.bool true)
theorem law_start {H : Hp} {a : Addr} {ns : List Int} (hS : SqL K H a (ns.map V.int)) : ctr K cLaw [.ref a] H (fun v _ => v = .bl true) fun _ _ _ => False := by
  refine ⟨H, [.scr ns], [], [], _, ⟨ns, rfl, rfl, rfl, rfl⟩, Same.refl _, .cons ⟨a, rfl, hS⟩ .nil, (fun _ h => nomatch h), (fun _ h => nomatch h), fun v s ms' Hn H2 hR hs _ _ _ => ?_⟩
  have e : s = .dat (.bool true) := hR
  subst e
  exact dp_bl hs
theorem told_plain {p : Part} (O : PartOk p) : cLPlain [told p] (.bool true) := by
  have h8 := O.ne.2
  have h4 := O.sts
  have h9 := O.lns
  have lr := rows_len (p := p)
  rcases told_cases O with ⟨ks, e, B, et⟩ | ⟨N, L, e, S, et⟩
  · rw [et]
    refine ⟨"no", [dints ks], rfl, nofun, (show 1 ≤ 2 by decide), fun q hq => ?_, rfl⟩
    have lk := B.len
    rw [List.mem_singleton.mp hq, List.length_map]
    refine ⟨by omega, fun d hd => .inl ?_⟩
    obtain ⟨z, _, rfl⟩ := List.mem_map.mp hd
    exact ⟨z, rfl⟩
  · rw [et]
    refine ⟨"yes", [outsD p N L, potsD p N L], rfl, nofun, Nat.le_refl 2, fun q hq => ?_, rfl⟩
    have lo : (outsD p N L).length = p.sts.length := rg_len _ _
    have lp : (potsD p N L).length = p.nodes.length := rg_len _ _
    rcases List.mem_cons.mp hq with z | hq
    · rw [z]
      refine ⟨by omega, fun d hd => .inr ?_⟩
      unfold outsD rg at hd
      obtain ⟨k, _, rfl⟩ := List.mem_map.mp hd
      exact ⟨_, rfl⟩
    · rw [List.mem_singleton.mp hq]
      refine ⟨by omega, fun d hd => .inr ?_⟩
      unfold potsD rg at hd
      obtain ⟨k, _, rfl⟩ := List.mem_map.mp hd
      exact ⟨_, rfl⟩
theorem shp_nats {n : Nat} (xs : List Nat) : Shp (n + 1) (dNats xs) := shp_ints _
theorem shp_isles {n : Nat} (xs : List (List Nat)) : Shp (n + 2) (.list (xs.map dNats)) := shp_list fun d hd => by
  obtain ⟨z, _, rfl⟩ := List.mem_map.mp hd
  exact shp_nats z
theorem isl_few {n : Net} {s : Sta} (N : NetOk n) : (islesOf n s).length ≤ 8 := by
  unfold islesOf isls islsTo
  rw [List.length_map]
  refine Nat.le_trans (List.length_filter_le _ _) ?_
  rw [List.length_range]
  exact N.nodes.2
theorem cut24 {ds : List PyData} : (cutD ds (some 2) (some 4)).length ≤ 2 := by
  have a : HT.sIx ds.length 0 (some 2) = min 2 ds.length := HT.sIx_nat ds.length 0 2
  have b : HT.sIx ds.length ds.length (some 4) = min 4 ds.length := HT.sIx_nat ds.length ds.length 4
  unfold cutD
  rw [a, b, List.length_take]
  omega
abbrev s_law : Stmt := topS 46
abbrev N_law : List Str := ["_law_script", "_law_net", "_law_cell_here", "_law_state_here", "_law_before", "_law_due", "_law_island", "_law_held", "_law_told"]
theorem sc_law : FnScope N_law ["_law_script"] (defScope s_law) := ⟨rfl, rfl, rfl, by decide +kernel, rfl, by decide +kernel, by decide +kernel⟩
theorem w_law (T : Txt K mg CT CI) {fa : Addr} {fd : FuncData} (F : Fun K "law" "law" s_law fa fd) (c__law_large_net : Cal P w K mg base "_law_large_net" 2 ["_law_cell_here", "_law_more"] (ctr K (pur cLNet))) (c__law_cell : Cal P w K mg base "_law_cell" 1 ["_law_script", "_law_k"] (ctr K cLCell))
    (c__law_state : Cal P w K mg base "_law_state" 3 ["_law_cell_here", "_law_net"] (ctr K (pur cLState))) (c__law_islands : Cal P w K mg base "_law_islands" 1 ["_law_net", "_law_state_here"] (ctr K (pur cIslesOf))) (c_islands_of : Cal P w K mg base "islands_of" 1 ["net", "state"] (ctr K (pur cIslesOf)))
    (c_run_island : Cal P w K mg base "run_island" 5 ["net", "state", "island"] (ctr K (pur cRun))) (c__law_plain : Cal P w K mg base "_law_plain" 1 ["_law_told"] (ctr K (pur cLPlain))) (c__law_solved : Cal P w K mg base "_law_solved" 5 ["_law_net", "_law_state_here", "_law_island", "_law_told"] (ctr K (pur cLSolved)))
    (c__law_right : Cal P w K mg base "_law_right" 7 ["_law_net", "_law_state_here", "_law_island", "_law_told"] (ctr K (pur cLSolved))) (c_is_feasible : Cal P w K mg base "is_feasible" 6 ["net", "state", "island"] (ctr K (pur cIsFeas))) :
    RunG P w K mg base 8 fa fd ["_law_script"] (ctr K cLaw) := by
  refine run_ctr F sc_law (fun ss ms M R ⟨_, e, _⟩ => by rw [e]; rfl) fun cdv A outer s H vs Q E hgd hr => ?_
  have c__law_large_net := c__law_large_net.mono (j := 7) (by decide)
  have c__law_cell := c__law_cell.mono (j := 7) (by decide)
  have c__law_state := c__law_state.mono (j := 7) (by decide)
  have c__law_islands := c__law_islands.mono (j := 7) (by decide)
  have c_islands_of := c_islands_of.mono (j := 7) (by decide)
  have c_run_island := c_run_island.mono (j := 7) (by decide)
  have c__law_plain := c__law_plain.mono (j := 7) (by decide)
  have c__law_solved := c__law_solved.mono (j := 7) (by decide)
  have c_is_feasible := c_is_feasible.mono (j := 7) (by decide)
  refine ⟨_, pss_cons (ps_set (i := 1) sc_law.nd rfl (Or.inl rfl) (pe_callC c__law_large_net hr (by rfl) (pa_cons (pe_callC c__law_cell hr (by rfl) (pa_cons (pv 0) (pa_cons (pe_int) pa_nil))) (pa_cons (pe_callC c__law_cell hr (by rfl) (pa_cons (pv 0) (pa_cons (pe_int) pa_nil))) pa_nil))))
    (pss_cons (ps_for PassesOwn.never rfl (pi_list (pe_op op_cat (pe_lst (pa_cons (pe_int) pa_nil)) (pe_slice sl_list (pv 0) (po_some (pe_int)) (po_some (pe_int))))) (pg_name (i := 2) sc_law.nd rfl (Or.inl rfl))
      (pss_cons (ps_set (i := 3) sc_law.nd rfl (Or.inl rfl) (pe_callC c__law_state hr (by rfl) (pa_cons (pv 2) (pa_cons (pv 1) pa_nil))))
      (pss_cons (ps_set (i := 4) sc_law.nd rfl (Or.inl rfl) (pe_callB (cr_reprD hgd hr.units) (by rfl) T.b_repr (by decide +kernel) (pa_cons (pe_lst (pa_cons (pv 1) (pa_cons (pv 3) pa_nil))) pa_nil)))
      (pss_cons (ps_set (i := 5) sc_law.nd rfl (Or.inl rfl) (pe_callC c__law_islands hr (by rfl) (pa_cons (pv 1) (pa_cons (pv 3) pa_nil))))
      (pss_cons (ps_if (pt_cmpR (op_neD hr.units) (pe_callC c_islands_of hr (by rfl) (pa_cons (pv 1) (pa_cons (pv 3) pa_nil))) (pv 5) (nomark _))
        (pss_one (ps_ret (pe_bl)))
        (pss_nil))
      (pss_cons (ps_for PassesOwn.never rfl (pi_list (pv 5)) (pg_name (i := 6) sc_law.nd rfl (Or.inl rfl))
        (pss_cons (ps_set (i := 7) sc_law.nd rfl (Or.inl rfl) (pe_callTy call_list_of (by rfl) T.b_list (by decide +kernel) (pa_cons (pv 6) pa_nil)))
        (pss_cons (ps_set (i := 8) sc_law.nd rfl (Or.inl rfl) (pe_callC c_run_island hr (by rfl) (pa_cons (pv 1) (pa_cons (pv 3) (pa_cons (pv 6) pa_nil)))))
        (pss_cons (ps_if (PW.pt (pw_or (pt_cmpR (op_neD hr.units) (pv 6) (pv 7) (nomark _)) (pw_or (pt_not (pt_val (pe_callC c__law_plain hr (by rfl) (pa_cons (pv 8) pa_nil)))) (pw_or1 (pt_not (pt_val (pe_callC c__law_solved hr (by rfl) (pa_cons (pv 1) (pa_cons (pv 3) (pa_cons (pv 6) (pa_cons (pv 8) pa_nil)))))))))))
          (pss_one (ps_ret (pe_bl)))
          (pss_nil))
        (pss_one (ps_if (PW.pt (pw_or (pt_not (pt_val (pe_callC c__law_right hr (by rfl) (pa_cons (pv 1) (pa_cons (pv 3) (pa_cons (pv 6) (pa_cons (pv 8) pa_nil))))))) (pw_or1 (pt_cmpR op_ne (pe_callC c_is_feasible hr (by rfl) (pa_cons (pv 1) (pa_cons (pv 3) (pa_cons (pv 6) pa_nil)))) (pe_cmpR op_eq (pe_ix ix_tup (pv 8) (pe_int) (fun _ _ => rfl)) (pe_str) (nomark _)) (nomark _)))))
          (pss_one (ps_ret (pe_bl)))
          (pss_nil)))))))
      (pss_one (ps_if (pt_cmpR op_ne (pe_callB (cr_reprD hgd hr.units) (by rfl) T.b_repr (by decide +kernel) (pa_cons (pe_lst (pa_cons (pv 1) (pa_cons (pv 3) pa_nil))) pa_nil)) (pv 4) (nomark _))
        (pss_one (ps_ret (pe_bl)))
        (pss_nil)))))))))
    (pss_one (ps_ret (pe_bl)))), ?_⟩
  rintro _ _ _ _ ⟨ns, rfl, rfl, rfl, rfl⟩
  obtain ⟨n, hn⟩ : ∃ n, n = netF (ns.getD 0 0) (ns.getD 1 0) := ⟨_, rfl⟩
  have N : NetOk n := by rw [hn]; exact net_ok _ _
  refine do_seq (do_asg (s := .dat (dNet n)) (ev_call (ds := [.int (ns.getD 0 0), .int (ns.getD 1 0)]) (ea_cons (ev_callC (ea_cons (vr 0) (ea1 ci)) ⟨ns, 0, rfl, rfl, rfl, rfl⟩ (fun _ h => nomatch h) fun s' ms'' h => h) (ea1 (ev_callC (ea_cons (vr 0) (ea1 ci)) ⟨ns, 1, rfl, rfl, rfl, rfl⟩ (fun _ h => nomatch h) fun s' ms'' h => h))) ⟨_, _, rfl, by rw [hn]⟩) ?_)
  refine do_seq (do_for (ei_list (EvO.know (en_cat (EvO.know (en_lst (ds := [_]) (ea1 ci))) (EvO.know (en_slS (vr 0) (ep_some ci) (ep_some ci))) ?_))) (fun i ε ms => ms = [] ∧ ∃ x2 x3 x4 x5 x6 x7 x8, ε = [.scr ns, .dat (dNet n), x2, x3, x4, x5, x6, x7, x8]) [2] ?_ ?_ ?_)
  · have : (cutD (dints ns) (some 2) (some 4)).length ≤ 2 := cut24
    show 1 + _ ≤ _
    omega
  · exact ⟨rfl, _, _, _, _, _, _, _, rfl⟩
  · rintro i d _ _ hd ⟨rfl, x2, x3, x4, x5, x6, x7, x8, rfl⟩
    refine ⟨_, tg_name (by decide), ?_⟩
    obtain ⟨c, rfl⟩ : ∃ c, d = .int c := by
      rcases List.mem_append.mp (List.mem_of_getElem? hd) with h | h
      · exact ⟨_, List.mem_singleton.mp h⟩
      · obtain ⟨z, _, e⟩ := List.mem_map.mp (cut_mem h)
        exact ⟨z, e.symm⟩
    obtain ⟨s, hs⟩ : ∃ s, s = stateF c n := ⟨_, rfl⟩
    have S : StaOk n s := by rw [hs]; exact state_ok N
    refine do_seq (do_asg (s := .dat (dSta s)) (ev_call (ds := [_, _]) (ea_cons (vr 2) (ea1 (vr 1))) ⟨c, n, rfl, N, by rw [hs]⟩) ?_)
    refine do_seq (do_asg (ev_repr (ds := [dNet n, dSta s]) (EvO.know (en_lst (ds := [_, _]) (ea_cons (vr 1) (ea1 (vr 3))))) (((rp_both N S).mono (by decide)).up (by decide))) ?_)
    refine do_seq (do_asg (ev_call (ds := [_, _]) (ea_cons (vr 1) (ea1 (vr 3))) ⟨n, s, rfl, N, S, rfl⟩) ?_)
    refine do_seq (do_if (b := false) (EvB.to (eb_test (ev_neD (ev_call (ds := [_, _]) (ea_cons (vr 1) (ea1 (vr 3))) ⟨n, s, rfl, N, S, rfl⟩) (vr 5) ((shp_isles (n := 0) _).ok (by decide)) ((shp_isles (n := 0) _).ok (by decide)))) (by rw [(shp_isles (n := 0) _).refl]; rfl)) (fun hb => nomatch hb) (fun _ => Do.next ?_))
    refine do_seq (do_for (ei_list (vr 5)) (fun j ε ms => ms = [] ∧ ∃ x6 x7 x8, ε = [.scr ns, .dat (dNet n), .dat (.int c), .dat (dSta s), .dat (.str (PyData.list [dNet n, dSta s]).shown), .dat (.list ((islesOf n s).map dNats)), x6, x7, x8]) [6] ?_ ?_ ?_)
    · exact ⟨rfl, _, _, _, rfl⟩
    · rintro j d _ _ hd ⟨rfl, x6, x7, x8, rfl⟩
      refine ⟨_, tg_name (by decide), ?_⟩
      obtain ⟨isl, hi, rfl⟩ := List.mem_map.mp (List.mem_of_getElem? hd)
      have I : Isl n s isl := ⟨N, S, isle_ok N S hi⟩
      have O := I.ok
      refine do_seq (do_asg (s := .dat (dNats isl)) (EvO.know (en_list (vr 6))) ?_)
      refine do_seq (do_asg (s := .dat (told (partOf n s isl))) (ev_call (ds := [_, _, _]) (ea_cons (vr 1) (ea_cons (vr 3) (ea1 (vr 6)))) ⟨n, s, isl, rfl, I, rfl⟩) ?_)
      refine do_seq (do_if (b := false) (EvB.to (eb_or (b := false) (c := false) (EvB.to (eb_test (ev_neD (vr 6) (vr 7) ((shp_nats (n := 0) _).ok (by decide)) ((shp_nats (n := 0) _).ok (by decide)))) (by rw [(shp_nats (n := 0) _).refl]; rfl)) (fun _ => EvB.to (eb_or (b := false) (c := false) (EvB.to (eb_not (eb_B (ev_call (ds := [_]) (ea1 (vr 8)) (told_plain O)))) rfl) (fun _ => EvB.to (eb_not (eb_B (ev_call (ds := [_, _, _, _]) (ea_cons (vr 1) (ea_cons (vr 3) (ea_cons (vr 6) (ea1 (vr 8))))) ⟨n, s, isl, rfl, I, rfl⟩))) rfl)) rfl)) rfl) (fun hb => nomatch hb) (fun _ => Do.next ?_))
      have fs : cIsFeas (nsi n s isl) (.bool (isYes (told (partOf n s isl)))) := ⟨n, s, isl, rfl, I, rfl⟩
      have rs : cLSolved [dNet n, dSta s, dNats isl, told (partOf n s isl)] (.bool true) := ⟨n, s, isl, rfl, I, rfl⟩
      show Do K _ [.scr ns, .dat (dNet n), .dat (.int c), .dat (dSta s), .dat (.str (PyData.list [dNet n, dSta s]).shown), .dat (.list ((islesOf n s).map dNats)), .dat (dNats isl), .dat (dNats isl), .dat (told (partOf n s isl))] [] _
      rcases told_cases O with ⟨ks, e, B, et⟩ | ⟨N', L, e, S', et⟩
      · rw [et] at fs rs ⊢
        exact do_if (b := false) (EvB.to (eb_or (b := false) (c := false) (EvB.to (eb_not (eb_B (ev_call (ds := [_, _, _, _]) (ea_cons (vr 1) (ea_cons (vr 3) (ea_cons (vr 6) (ea1 (vr 8))))) rs))) rfl) (fun _ => EvB.to (eb_test (ev_neB (ev_call (ds := [_, _, _]) (ea_cons (vr 1) (ea_cons (vr 3) (ea1 (vr 6)))) fs) (ev_eqS (ev_ixT (vr 8) ci (at_list (by decide) rfl)) ev_str))) (by rfl))) rfl) (fun hb => nomatch hb) (fun _ => Do.next ⟨rfl, _, _, _, rfl⟩)
      · rw [et] at fs rs ⊢
        exact do_if (b := false) (EvB.to (eb_or (b := false) (c := false) (EvB.to (eb_not (eb_B (ev_call (ds := [_, _, _, _]) (ea_cons (vr 1) (ea_cons (vr 3) (ea_cons (vr 6) (ea1 (vr 8))))) rs))) rfl) (fun _ => EvB.to (eb_test (ev_neB (ev_call (ds := [_, _, _]) (ea_cons (vr 1) (ea_cons (vr 3) (ea1 (vr 6)))) fs) (ev_eqS (ev_ixT (vr 8) ci (at_list (by decide) rfl)) ev_str))) (by rfl))) rfl) (fun hb => nomatch hb) (fun _ => Do.next ⟨rfl, _, _, _, rfl⟩)
    rintro _ _ ⟨rfl, x6, x7, x8, rfl⟩
    refine do_if (b := false) (EvB.to (eb_test (ev_neS (ev_repr (ds := [dNet n, dSta s]) (EvO.know (en_lst (ds := [_, _]) (ea_cons (vr 1) (ea1 (vr 3))))) (((rp_both N S).mono (by decide)).up (by decide))) (vr 4))) (by simp)) (fun hb => nomatch hb) (fun _ => Do.next ⟨rfl, _, _, _, _, _, _, _, rfl⟩)
  rintro _ _ ⟨rfl, x2, x3, x4, x5, x6, x7, x8, rfl⟩
  exact do_ret ev_bl rfl
end
end Rl
set_option Elab.async false
set_option linter.all false
set_option maxRecDepth 100000
set_option maxHeartbeats 4000000
/-! What the top has written, and the law's promise from it. Printed by mkall.py. -/
namespace Rl
open PySem PySem.Spec PyProof.Rows L2
theorem all_mk {P : Program} {w : World} {K : PySem.W.Frag} {h : Heap} {mg : Str → Option Value} {fa CT CI f0 f1 f2 f3 f4 f5 f6 f7 f8 f9 f10 f11 f12 f13 f14 f15 f16 f17 f18 f19 f20 f21 f22 f23 f24 f25 f26 f27 f28 f29 f30 f31 f32 f33 f34 f35 f36 f37 f38 f39 f40 f41 f42 f43 f44 f45 f46 f47 f48 : Addr} (X : K.In h) (G : h.Ns mainGlobals mg) (hfa : mg "law" = some (.ref fa))
    {od0 an0 od1 an1 od2 an2 od3 an3 od4 an4 od5 an5 od6 an6 od7 an7 od8 an8 od9 an9 od10 an10 od11 an11 od12 an12 od13 an13 od14 an14 od15 an15 od16 an16 od17 an17 od18 an18 od19 an19 od20 an20 od21 an21 od22 an22 od23 an23 od24 an24 od25 an25 od26 an26 od27 an27 od28 an28 od29 an29 od30 an30 od31 an31 od32 an32 od33 an33 od34 an34 od35 an35 od36 an36 od37 an37 od38 an38 od39 an39 od40 an40 od41 an41 od42 an42 od43 an43 od44 an44 od45 an45 od46 an46 od47 an47 od48 an48 : Option Addr} {sl0 sl1 sl2 sl3 sl4 sl5 sl6 sl7 sl8 sl9 sl10 sl11 sl12 sl13 sl14 sl15 sl16 sl17 sl18 sl19 sl20 sl21 sl22 sl23 sl24 sl25 sl26 sl27 sl28 sl29 sl30 sl31 sl32 sl33 sl34 sl35 sl36 sl37 sl38 sl39 sl40 sl41 sl42 sl43 sl44 sl45 sl46 sl47 sl48 : Array (Option Value)} {oc0 kV0 dc0 pm0 cd0 ct0 oc1 kV1 dc1 pm1 cd1 ct1 oc2 kV2 dc2 pm2 cd2 ct2 oc3 kV3 dc3 pm3 cd3 ct3 oc4 kV4 dc4 pm4 cd4 ct4 oc5 kV5 dc5 pm5 cd5 ct5 oc6 kV6 dc6 pm6 cd6 ct6 oc7 kV7 dc7 pm7 cd7 ct7 oc8 kV8 dc8 pm8 cd8 ct8 oc9 kV9 dc9 pm9 cd9 ct9 oc10 kV10 dc10 pm10 cd10 ct10 oc11 kV11 dc11 pm11 cd11 ct11 oc12 kV12 dc12 pm12 cd12 ct12 oc13 kV13 dc13 pm13 cd13 ct13 oc14 kV14 dc14 pm14 cd14 ct14 oc15 kV15 dc15 pm15 cd15 ct15 oc16 kV16 dc16 pm16 cd16 ct16 oc17 kV17 dc17 pm17 cd17 ct17 oc18 kV18 dc18 pm18 cd18 ct18 oc19 kV19 dc19 pm19 cd19 ct19 oc20 kV20 dc20 pm20 cd20 ct20 oc21 kV21 dc21 pm21 cd21 ct21 oc22 kV22 dc22 pm22 cd22 ct22 oc23 kV23 dc23 pm23 cd23 ct23 oc24 kV24 dc24 pm24 cd24 ct24 oc25 kV25 dc25 pm25 cd25 ct25 oc26 kV26 dc26 pm26 cd26 ct26 oc27 kV27 dc27 pm27 cd27 ct27 oc28 kV28 dc28 pm28 cd28 ct28 oc29 kV29 dc29 pm29 cd29 ct29 oc30 kV30 dc30 pm30 cd30 ct30 oc31 kV31 dc31 pm31 cd31 ct31 oc32 kV32 dc32 pm32 cd32 ct32 oc33 kV33 dc33 pm33 cd33 ct33 oc34 kV34 dc34 pm34 cd34 ct34 oc35 kV35 dc35 pm35 cd35 ct35 oc36 kV36 dc36 pm36 cd36 ct36 oc37 kV37 dc37 pm37 cd37 ct37 oc38 kV38 dc38 pm38 cd38 ct38 oc39 kV39 dc39 pm39 cd39 ct39 oc40 kV40 dc40 pm40 cd40 ct40 oc41 kV41 dc41 pm41 cd41 ct41 oc42 kV42 dc42 pm42 cd42 ct42 oc43 kV43 dc43 pm43 cd43 ct43 oc44 kV44 dc44 pm44 cd44 ct44 oc45 kV45 dc45 pm45 cd45 ct45 oc46 kV46 dc46 pm46 cd46 ct46 oc47 kV47 dc47 pm47 cd47 ct47 oc48 kV48 dc48 pm48 cd48 ct48 : Value}
    (aT : PySem.W.nsIn K mainGlobals "Tableau" = some (some (.ref CT)))
    (aI : PySem.W.nsIn K mainGlobals "Island" = some (some (.ref CI)))
    (a0 : PySem.W.nsIn K mainGlobals "fraction" = some (some (.ref f0)))
    (l0 : K.lookup f0 = some ⟨oc0, od0, .func (PySem.W.fnOf "fraction" "fraction" (defArgs s_fraction) (defBody s_fraction) (defScope s_fraction) .none kV0 dc0 pm0 an0 cd0 ct0), sl0⟩)
    (c0 : PySem.W.codeIn K cd0 "fraction" = true)
    (k0 : PySem.W.keepIn K (.ref f0) = true)
    (a1 : PySem.W.nsIn K mainGlobals "plus" = some (some (.ref f1)))
    (l1 : K.lookup f1 = some ⟨oc1, od1, .func (PySem.W.fnOf "plus" "plus" (defArgs s_plus) (defBody s_plus) (defScope s_plus) .none kV1 dc1 pm1 an1 cd1 ct1), sl1⟩)
    (c1 : PySem.W.codeIn K cd1 "plus" = true)
    (k1 : PySem.W.keepIn K (.ref f1) = true)
    (a2 : PySem.W.nsIn K mainGlobals "scaled" = some (some (.ref f2)))
    (l2 : K.lookup f2 = some ⟨oc2, od2, .func (PySem.W.fnOf "scaled" "scaled" (defArgs s_scaled) (defBody s_scaled) (defScope s_scaled) .none kV2 dc2 pm2 an2 cd2 ct2), sl2⟩)
    (c2 : PySem.W.codeIn K cd2 "scaled" = true)
    (k2 : PySem.W.keepIn K (.ref f2) = true)
    (a3 : PySem.W.nsIn K mainGlobals "is_less" = some (some (.ref f3)))
    (l3 : K.lookup f3 = some ⟨oc3, od3, .func (PySem.W.fnOf "is_less" "is_less" (defArgs s_is_less) (defBody s_is_less) (defScope s_is_less) .none kV3 dc3 pm3 an3 cd3 ct3), sl3⟩)
    (c3 : PySem.W.codeIn K cd3 "is_less" = true)
    (k3 : PySem.W.keepIn K (.ref f3) = true)
    (a4 : PySem.W.nsIn K mainGlobals "is_fraction" = some (some (.ref f4)))
    (l4 : K.lookup f4 = some ⟨oc4, od4, .func (PySem.W.fnOf "is_fraction" "is_fraction" (defArgs s_is_fraction) (defBody s_is_fraction) (defScope s_is_fraction) .none kV4 dc4 pm4 an4 cd4 ct4), sl4⟩)
    (c4 : PySem.W.codeIn K cd4 "is_fraction" = true)
    (k4 : PySem.W.keepIn K (.ref f4) = true)
    (a5 : PySem.W.findIn K (.ref CT) "entering" = some (some (.ref f5)))
    (i5 : PySem.W.isFn K (.ref f5) = true)
    (l5 : K.lookup f5 = some ⟨oc5, od5, .func (PySem.W.fnOf "entering" "Tableau.entering" (defArgs s_Tableau_entering) (defBody s_Tableau_entering) (defScope s_Tableau_entering) .none kV5 dc5 pm5 an5 cd5 ct5), sl5⟩)
    (c5 : PySem.W.codeIn K cd5 "Tableau.entering" = true)
    (k5 : PySem.W.keepIn K (.ref f5) = true)
    (a6 : PySem.W.findIn K (.ref CT) "leaving" = some (some (.ref f6)))
    (i6 : PySem.W.isFn K (.ref f6) = true)
    (l6 : K.lookup f6 = some ⟨oc6, od6, .func (PySem.W.fnOf "leaving" "Tableau.leaving" (defArgs s_Tableau_leaving) (defBody s_Tableau_leaving) (defScope s_Tableau_leaving) .none kV6 dc6 pm6 an6 cd6 ct6), sl6⟩)
    (c6 : PySem.W.codeIn K cd6 "Tableau.leaving" = true)
    (k6 : PySem.W.keepIn K (.ref f6) = true)
    (a7 : PySem.W.findIn K (.ref CT) "cleared" = some (some (.ref f7)))
    (i7 : PySem.W.isFn K (.ref f7) = true)
    (l7 : K.lookup f7 = some ⟨oc7, od7, .func (PySem.W.fnOf "cleared" "Tableau.cleared" (defArgs s_Tableau_cleared) (defBody s_Tableau_cleared) (defScope s_Tableau_cleared) .none kV7 dc7 pm7 an7 cd7 ct7), sl7⟩)
    (c7 : PySem.W.codeIn K cd7 "Tableau.cleared" = true)
    (k7 : PySem.W.keepIn K (.ref f7) = true)
    (a8 : PySem.W.findIn K (.ref CT) "found" = some (some (.ref f8)))
    (i8 : PySem.W.isFn K (.ref f8) = true)
    (l8 : K.lookup f8 = some ⟨oc8, od8, .func (PySem.W.fnOf "found" "Tableau.found" (defArgs s_Tableau_found) (defBody s_Tableau_found) (defScope s_Tableau_found) .none kV8 dc8 pm8 an8 cd8 ct8), sl8⟩)
    (c8 : PySem.W.codeIn K cd8 "Tableau.found" = true)
    (k8 : PySem.W.keepIn K (.ref f8) = true)
    (a9 : PySem.W.findIn K (.ref CT) "turn" = some (some (.ref f9)))
    (i9 : PySem.W.isFn K (.ref f9) = true)
    (l9 : K.lookup f9 = some ⟨oc9, od9, .func (PySem.W.fnOf "turn" "Tableau.turn" (defArgs s_Tableau_turn) (defBody s_Tableau_turn) (defScope s_Tableau_turn) .none kV9 dc9 pm9 an9 cd9 ct9), sl9⟩)
    (c9 : PySem.W.codeIn K cd9 "Tableau.turn" = true)
    (k9 : PySem.W.keepIn K (.ref f9) = true)
    (a10 : PySem.W.findIn K (.ref CT) "search" = some (some (.ref f10)))
    (i10 : PySem.W.isFn K (.ref f10) = true)
    (l10 : K.lookup f10 = some ⟨oc10, od10, .func (PySem.W.fnOf "search" "Tableau.search" (defArgs s_Tableau_search) (defBody s_Tableau_search) (defScope s_Tableau_search) .none kV10 dc10 pm10 an10 cd10 ct10), sl10⟩)
    (c10 : PySem.W.codeIn K cd10 "Tableau.search" = true)
    (k10 : PySem.W.keepIn K (.ref f10) = true)
    (a11 : PySem.W.findIn K (.ref CT) "aim" = some (some (.ref f11)))
    (i11 : PySem.W.isFn K (.ref f11) = true)
    (l11 : K.lookup f11 = some ⟨oc11, od11, .func (PySem.W.fnOf "aim" "Tableau.aim" (defArgs s_Tableau_aim) (defBody s_Tableau_aim) (defScope s_Tableau_aim) .none kV11 dc11 pm11 an11 cd11 ct11), sl11⟩)
    (c11 : PySem.W.codeIn K cd11 "Tableau.aim" = true)
    (k11 : PySem.W.keepIn K (.ref f11) = true)
    (a12 : PySem.W.findIn K (.ref CT) "__init__" = some (some (.ref f12)))
    (i12 : PySem.W.isFn K (.ref f12) = true)
    (l12 : K.lookup f12 = some ⟨oc12, od12, .func (PySem.W.fnOf "__init__" "Tableau.__init__" (defArgs s_Tableau_init) (defBody s_Tableau_init) (defScope s_Tableau_init) .none kV12 dc12 pm12 an12 cd12 ct12), sl12⟩)
    (c12 : PySem.W.codeIn K cd12 "Tableau.__init__" = true)
    (k12 : PySem.W.keepIn K (.ref f12) = true)
    (a13 : PySem.W.nsIn K mainGlobals "equations_of" = some (some (.ref f13)))
    (l13 : K.lookup f13 = some ⟨oc13, od13, .func (PySem.W.fnOf "equations_of" "equations_of" (defArgs s_equations_of) (defBody s_equations_of) (defScope s_equations_of) .none kV13 dc13 pm13 an13 cd13 ct13), sl13⟩)
    (c13 : PySem.W.codeIn K cd13 "equations_of" = true)
    (k13 : PySem.W.keepIn K (.ref f13) = true)
    (a14 : PySem.W.nsIn K mainGlobals "without_divisor" = some (some (.ref f14)))
    (l14 : K.lookup f14 = some ⟨oc14, od14, .func (PySem.W.fnOf "without_divisor" "without_divisor" (defArgs s_without_divisor) (defBody s_without_divisor) (defScope s_without_divisor) .none kV14 dc14 pm14 an14 cd14 ct14), sl14⟩)
    (c14 : PySem.W.codeIn K cd14 "without_divisor" = true)
    (k14 : PySem.W.keepIn K (.ref f14) = true)
    (a15 : PySem.W.nsIn K mainGlobals "solve" = some (some (.ref f15)))
    (l15 : K.lookup f15 = some ⟨oc15, od15, .func (PySem.W.fnOf "solve" "solve" (defArgs s_solve) (defBody s_solve) (defScope s_solve) .none kV15 dc15 pm15 an15 cd15 ct15), sl15⟩)
    (c15 : PySem.W.codeIn K cd15 "solve" = true)
    (k15 : PySem.W.keepIn K (.ref f15) = true)
    (a16 : PySem.W.findIn K (.ref CI) "__init__" = some (some (.ref f16)))
    (i16 : PySem.W.isFn K (.ref f16) = true)
    (l16 : K.lookup f16 = some ⟨oc16, od16, .func (PySem.W.fnOf "__init__" "Island.__init__" (defArgs s_Island_init) (defBody s_Island_init) (defScope s_Island_init) .none kV16 dc16 pm16 an16 cd16 ct16), sl16⟩)
    (c16 : PySem.W.codeIn K cd16 "Island.__init__" = true)
    (k16 : PySem.W.keepIn K (.ref f16) = true)
    (a17 : PySem.W.findIn K (.ref CI) "blank" = some (some (.ref f17)))
    (i17 : PySem.W.isFn K (.ref f17) = true)
    (l17 : K.lookup f17 = some ⟨oc17, od17, .func (PySem.W.fnOf "blank" "Island.blank" (defArgs s_Island_blank) (defBody s_Island_blank) (defScope s_Island_blank) .none kV17 dc17 pm17 an17 cd17 ct17), sl17⟩)
    (c17 : PySem.W.codeIn K cd17 "Island.blank" = true)
    (k17 : PySem.W.keepIn K (.ref f17) = true)
    (a18 : PySem.W.findIn K (.ref CI) "add_potential" = some (some (.ref f18)))
    (i18 : PySem.W.isFn K (.ref f18) = true)
    (l18 : K.lookup f18 = some ⟨oc18, od18, .func (PySem.W.fnOf "add_potential" "Island.add_potential" (defArgs s_Island_add_potential) (defBody s_Island_add_potential) (defScope s_Island_add_potential) .none kV18 dc18 pm18 an18 cd18 ct18), sl18⟩)
    (c18 : PySem.W.codeIn K cd18 "Island.add_potential" = true)
    (k18 : PySem.W.keepIn K (.ref f18) = true)
    (a19 : PySem.W.findIn K (.ref CI) "flow" = some (some (.ref f19)))
    (i19 : PySem.W.isFn K (.ref f19) = true)
    (l19 : K.lookup f19 = some ⟨oc19, od19, .func (PySem.W.fnOf "flow" "Island.flow" (defArgs s_Island_flow) (defBody s_Island_flow) (defScope s_Island_flow) .none kV19 dc19 pm19 an19 cd19 ct19), sl19⟩)
    (c19 : PySem.W.codeIn K cd19 "Island.flow" = true)
    (k19 : PySem.W.keepIn K (.ref f19) = true)
    (a20 : PySem.W.findIn K (.ref CI) "excess" = some (some (.ref f20)))
    (i20 : PySem.W.isFn K (.ref f20) = true)
    (l20 : K.lookup f20 = some ⟨oc20, od20, .func (PySem.W.fnOf "excess" "Island.excess" (defArgs s_Island_excess) (defBody s_Island_excess) (defScope s_Island_excess) .none kV20 dc20 pm20 an20 cd20 ct20), sl20⟩)
    (c20 : PySem.W.codeIn K cd20 "Island.excess" = true)
    (k20 : PySem.W.keepIn K (.ref f20) = true)
    (a21 : PySem.W.findIn K (.ref CI) "conditions" = some (some (.ref f21)))
    (i21 : PySem.W.isFn K (.ref f21) = true)
    (l21 : K.lookup f21 = some ⟨oc21, od21, .func (PySem.W.fnOf "conditions" "Island.conditions" (defArgs s_Island_conditions) (defBody s_Island_conditions) (defScope s_Island_conditions) .none kV21 dc21 pm21 an21 cd21 ct21), sl21⟩)
    (c21 : PySem.W.codeIn K cd21 "Island.conditions" = true)
    (k21 : PySem.W.keepIn K (.ref f21) = true)
    (a22 : PySem.W.nsIn K mainGlobals "conditions_of" = some (some (.ref f22)))
    (l22 : K.lookup f22 = some ⟨oc22, od22, .func (PySem.W.fnOf "conditions_of" "conditions_of" (defArgs s_conditions_of) (defBody s_conditions_of) (defScope s_conditions_of) .none kV22 dc22 pm22 an22 cd22 ct22), sl22⟩)
    (c22 : PySem.W.codeIn K cd22 "conditions_of" = true)
    (k22 : PySem.W.keepIn K (.ref f22) = true)
    (a23 : PySem.W.nsIn K mainGlobals "worth" = some (some (.ref f23)))
    (l23 : K.lookup f23 = some ⟨oc23, od23, .func (PySem.W.fnOf "worth" "worth" (defArgs s_worth) (defBody s_worth) (defScope s_worth) .none kV23 dc23 pm23 an23 cd23 ct23), sl23⟩)
    (c23 : PySem.W.codeIn K cd23 "worth" = true)
    (k23 : PySem.W.keepIn K (.ref f23) = true)
    (a24 : PySem.W.nsIn K mainGlobals "is_dispatch" = some (some (.ref f24)))
    (l24 : K.lookup f24 = some ⟨oc24, od24, .func (PySem.W.fnOf "is_dispatch" "is_dispatch" (defArgs s_is_dispatch) (defBody s_is_dispatch) (defScope s_is_dispatch) .none kV24 dc24 pm24 an24 cd24 ct24), sl24⟩)
    (c24 : PySem.W.codeIn K cd24 "is_dispatch" = true)
    (k24 : PySem.W.keepIn K (.ref f24) = true)
    (a25 : PySem.W.nsIn K mainGlobals "is_barrier" = some (some (.ref f25)))
    (l25 : K.lookup f25 = some ⟨oc25, od25, .func (PySem.W.fnOf "is_barrier" "is_barrier" (defArgs s_is_barrier) (defBody s_is_barrier) (defScope s_is_barrier) .none kV25 dc25 pm25 an25 cd25 ct25), sl25⟩)
    (c25 : PySem.W.codeIn K cd25 "is_barrier" = true)
    (k25 : PySem.W.keepIn K (.ref f25) = true)
    (a26 : PySem.W.nsIn K mainGlobals "run_island" = some (some (.ref f26)))
    (l26 : K.lookup f26 = some ⟨oc26, od26, .func (PySem.W.fnOf "run_island" "run_island" (defArgs s_run_island) (defBody s_run_island) (defScope s_run_island) .none kV26 dc26 pm26 an26 cd26 ct26), sl26⟩)
    (c26 : PySem.W.codeIn K cd26 "run_island" = true)
    (k26 : PySem.W.keepIn K (.ref f26) = true)
    (a27 : PySem.W.nsIn K mainGlobals "is_feasible" = some (some (.ref f27)))
    (l27 : K.lookup f27 = some ⟨oc27, od27, .func (PySem.W.fnOf "is_feasible" "is_feasible" (defArgs s_is_feasible) (defBody s_is_feasible) (defScope s_is_feasible) .none kV27 dc27 pm27 an27 cd27 ct27), sl27⟩)
    (c27 : PySem.W.codeIn K cd27 "is_feasible" = true)
    (k27 : PySem.W.keepIn K (.ref f27) = true)
    (a28 : PySem.W.nsIn K mainGlobals "islands_of" = some (some (.ref f28)))
    (l28 : K.lookup f28 = some ⟨oc28, od28, .func (PySem.W.fnOf "islands_of" "islands_of" (defArgs s_islands_of) (defBody s_islands_of) (defScope s_islands_of) .none kV28 dc28 pm28 an28 cd28 ct28), sl28⟩)
    (c28 : PySem.W.codeIn K cd28 "islands_of" = true)
    (k28 : PySem.W.keepIn K (.ref f28) = true)
    (a29 : PySem.W.nsIn K mainGlobals "_law_islands" = some (some (.ref f29)))
    (l29 : K.lookup f29 = some ⟨oc29, od29, .func (PySem.W.fnOf "_law_islands" "_law_islands" (defArgs s_law_islands) (defBody s_law_islands) (defScope s_law_islands) .none kV29 dc29 pm29 an29 cd29 ct29), sl29⟩)
    (c29 : PySem.W.codeIn K cd29 "_law_islands" = true)
    (k29 : PySem.W.keepIn K (.ref f29) = true)
    (a30 : PySem.W.nsIn K mainGlobals "_law_stations" = some (some (.ref f30)))
    (l30 : K.lookup f30 = some ⟨oc30, od30, .func (PySem.W.fnOf "_law_stations" "_law_stations" (defArgs s_law_stations) (defBody s_law_stations) (defScope s_law_stations) .none kV30 dc30 pm30 an30 cd30 ct30), sl30⟩)
    (c30 : PySem.W.codeIn K cd30 "_law_stations" = true)
    (k30 : PySem.W.keepIn K (.ref f30) = true)
    (a31 : PySem.W.nsIn K mainGlobals "_law_lines" = some (some (.ref f31)))
    (l31 : K.lookup f31 = some ⟨oc31, od31, .func (PySem.W.fnOf "_law_lines" "_law_lines" (defArgs s_law_lines) (defBody s_law_lines) (defScope s_law_lines) .none kV31 dc31 pm31 an31 cd31 ct31), sl31⟩)
    (c31 : PySem.W.codeIn K cd31 "_law_lines" = true)
    (k31 : PySem.W.keepIn K (.ref f31) = true)
    (a32 : PySem.W.nsIn K mainGlobals "_law_fed" = some (some (.ref f32)))
    (l32 : K.lookup f32 = some ⟨oc32, od32, .func (PySem.W.fnOf "_law_fed" "_law_fed" (defArgs s_law_fed) (defBody s_law_fed) (defScope s_law_fed) .none kV32 dc32 pm32 an32 cd32 ct32), sl32⟩)
    (c32 : PySem.W.codeIn K cd32 "_law_fed" = true)
    (k32 : PySem.W.keepIn K (.ref f32) = true)
    (a33 : PySem.W.nsIn K mainGlobals "_law_cell" = some (some (.ref f33)))
    (l33 : K.lookup f33 = some ⟨oc33, od33, .func (PySem.W.fnOf "_law_cell" "_law_cell" (defArgs s_law_cell) (defBody s_law_cell) (defScope s_law_cell) .none kV33 dc33 pm33 an33 cd33 ct33), sl33⟩)
    (c33 : PySem.W.codeIn K cd33 "_law_cell" = true)
    (k33 : PySem.W.keepIn K (.ref f33) = true)
    (a34 : PySem.W.nsIn K mainGlobals "_law_draws" = some (some (.ref f34)))
    (l34 : K.lookup f34 = some ⟨oc34, od34, .func (PySem.W.fnOf "_law_draws" "_law_draws" (defArgs s_law_draws) (defBody s_law_draws) (defScope s_law_draws) .none kV34 dc34 pm34 an34 cd34 ct34), sl34⟩)
    (c34 : PySem.W.codeIn K cd34 "_law_draws" = true)
    (k34 : PySem.W.keepIn K (.ref f34) = true)
    (a35 : PySem.W.nsIn K mainGlobals "_law_gcd" = some (some (.ref f35)))
    (l35 : K.lookup f35 = some ⟨oc35, od35, .func (PySem.W.fnOf "_law_gcd" "_law_gcd" (defArgs s_law_gcd) (defBody s_law_gcd) (defScope s_law_gcd) .none kV35 dc35 pm35 an35 cd35 ct35), sl35⟩)
    (c35 : PySem.W.codeIn K cd35 "_law_gcd" = true)
    (k35 : PySem.W.keepIn K (.ref f35) = true)
    (a36 : PySem.W.nsIn K mainGlobals "_law_fraction" = some (some (.ref f36)))
    (l36 : K.lookup f36 = some ⟨oc36, od36, .func (PySem.W.fnOf "_law_fraction" "_law_fraction" (defArgs s_law_fraction) (defBody s_law_fraction) (defScope s_law_fraction) .none kV36 dc36 pm36 an36 cd36 ct36), sl36⟩)
    (c36 : PySem.W.codeIn K cd36 "_law_fraction" = true)
    (k36 : PySem.W.keepIn K (.ref f36) = true)
    (a37 : PySem.W.nsIn K mainGlobals "_law_plus" = some (some (.ref f37)))
    (l37 : K.lookup f37 = some ⟨oc37, od37, .func (PySem.W.fnOf "_law_plus" "_law_plus" (defArgs s_law_plus) (defBody s_law_plus) (defScope s_law_plus) .none kV37 dc37 pm37 an37 cd37 ct37), sl37⟩)
    (c37 : PySem.W.codeIn K cd37 "_law_plus" = true)
    (k37 : PySem.W.keepIn K (.ref f37) = true)
    (a38 : PySem.W.nsIn K mainGlobals "_law_scaled" = some (some (.ref f38)))
    (l38 : K.lookup f38 = some ⟨oc38, od38, .func (PySem.W.fnOf "_law_scaled" "_law_scaled" (defArgs s_law_scaled) (defBody s_law_scaled) (defScope s_law_scaled) .none kV38 dc38 pm38 an38 cd38 ct38), sl38⟩)
    (c38 : PySem.W.codeIn K cd38 "_law_scaled" = true)
    (k38 : PySem.W.keepIn K (.ref f38) = true)
    (a39 : PySem.W.nsIn K mainGlobals "_law_some" = some (some (.ref f39)))
    (l39 : K.lookup f39 = some ⟨oc39, od39, .func (PySem.W.fnOf "_law_some" "_law_some" (defArgs s_law_some) (defBody s_law_some) (defScope s_law_some) .none kV39 dc39 pm39 an39 cd39 ct39), sl39⟩)
    (c39 : PySem.W.codeIn K cd39 "_law_some" = true)
    (k39 : PySem.W.keepIn K (.ref f39) = true)
    (a40 : PySem.W.nsIn K mainGlobals "_law_state" = some (some (.ref f40)))
    (l40 : K.lookup f40 = some ⟨oc40, od40, .func (PySem.W.fnOf "_law_state" "_law_state" (defArgs s_law_state) (defBody s_law_state) (defScope s_law_state) .none kV40 dc40 pm40 an40 cd40 ct40), sl40⟩)
    (c40 : PySem.W.codeIn K cd40 "_law_state" = true)
    (k40 : PySem.W.keepIn K (.ref f40) = true)
    (a41 : PySem.W.nsIn K mainGlobals "_law_large_net" = some (some (.ref f41)))
    (l41 : K.lookup f41 = some ⟨oc41, od41, .func (PySem.W.fnOf "_law_large_net" "_law_large_net" (defArgs s_law_large_net) (defBody s_law_large_net) (defScope s_law_large_net) .none kV41 dc41 pm41 an41 cd41 ct41), sl41⟩)
    (c41 : PySem.W.codeIn K cd41 "_law_large_net" = true)
    (k41 : PySem.W.keepIn K (.ref f41) = true)
    (a42 : PySem.W.nsIn K mainGlobals "_law_conditions" = some (some (.ref f42)))
    (l42 : K.lookup f42 = some ⟨oc42, od42, .func (PySem.W.fnOf "_law_conditions" "_law_conditions" (defArgs s_law_conditions) (defBody s_law_conditions) (defScope s_law_conditions) .none kV42 dc42 pm42 an42 cd42 ct42), sl42⟩)
    (c42 : PySem.W.codeIn K cd42 "_law_conditions" = true)
    (k42 : PySem.W.keepIn K (.ref f42) = true)
    (a43 : PySem.W.nsIn K mainGlobals "_law_is_refusal" = some (some (.ref f43)))
    (l43 : K.lookup f43 = some ⟨oc43, od43, .func (PySem.W.fnOf "_law_is_refusal" "_law_is_refusal" (defArgs s_law_is_refusal) (defBody s_law_is_refusal) (defScope s_law_is_refusal) .none kV43 dc43 pm43 an43 cd43 ct43), sl43⟩)
    (c43 : PySem.W.codeIn K cd43 "_law_is_refusal" = true)
    (k43 : PySem.W.keepIn K (.ref f43) = true)
    (a44 : PySem.W.nsIn K mainGlobals "_law_is_dispatch" = some (some (.ref f44)))
    (l44 : K.lookup f44 = some ⟨oc44, od44, .func (PySem.W.fnOf "_law_is_dispatch" "_law_is_dispatch" (defArgs s_law_is_dispatch) (defBody s_law_is_dispatch) (defScope s_law_is_dispatch) .none kV44 dc44 pm44 an44 cd44 ct44), sl44⟩)
    (c44 : PySem.W.codeIn K cd44 "_law_is_dispatch" = true)
    (k44 : PySem.W.keepIn K (.ref f44) = true)
    (a45 : PySem.W.nsIn K mainGlobals "_law_plain" = some (some (.ref f45)))
    (l45 : K.lookup f45 = some ⟨oc45, od45, .func (PySem.W.fnOf "_law_plain" "_law_plain" (defArgs s_law_plain) (defBody s_law_plain) (defScope s_law_plain) .none kV45 dc45 pm45 an45 cd45 ct45), sl45⟩)
    (c45 : PySem.W.codeIn K cd45 "_law_plain" = true)
    (k45 : PySem.W.keepIn K (.ref f45) = true)
    (a46 : PySem.W.nsIn K mainGlobals "_law_solved" = some (some (.ref f46)))
    (l46 : K.lookup f46 = some ⟨oc46, od46, .func (PySem.W.fnOf "_law_solved" "_law_solved" (defArgs s_law_solved) (defBody s_law_solved) (defScope s_law_solved) .none kV46 dc46 pm46 an46 cd46 ct46), sl46⟩)
    (c46 : PySem.W.codeIn K cd46 "_law_solved" = true)
    (k46 : PySem.W.keepIn K (.ref f46) = true)
    (a47 : PySem.W.nsIn K mainGlobals "_law_right" = some (some (.ref f47)))
    (l47 : K.lookup f47 = some ⟨oc47, od47, .func (PySem.W.fnOf "_law_right" "_law_right" (defArgs s_law_right) (defBody s_law_right) (defScope s_law_right) .none kV47 dc47 pm47 an47 cd47 ct47), sl47⟩)
    (c47 : PySem.W.codeIn K cd47 "_law_right" = true)
    (k47 : PySem.W.keepIn K (.ref f47) = true)
    (a48 : PySem.W.nsIn K mainGlobals "law" = some (some (.ref f48)))
    (l48 : K.lookup f48 = some ⟨oc48, od48, .func (PySem.W.fnOf "law" "law" (defArgs s_law) (defBody s_law) (defScope s_law) .none kV48 dc48 pm48 an48 cd48 ct48), sl48⟩)
    (c48 : PySem.W.codeIn K cd48 "law" = true)
    (k48 : PySem.W.keepIn K (.ref f48) = true)
    (pgCT : PySem.W.plainGet K CT Str.empty = true)
    (hdCT : PySem.W.hasDictIn K CT = true)
    (poCT : PySem.W.plainOver K CT = true)
    (saCT : PySem.W.findIn K (.ref CT) "__setattr__" = some (some (.builtin "object.__setattr__")))
    (mkCT : PySem.W.makesIn K CT = true)
    (kcCT : PySem.W.keepIn K (.ref CT) = true)
    (pgCI : PySem.W.plainGet K CI Str.empty = true)
    (hdCI : PySem.W.hasDictIn K CI = true)
    (poCI : PySem.W.plainOver K CI = true)
    (saCI : PySem.W.findIn K (.ref CI) "__setattr__" = some (some (.builtin "object.__setattr__")))
    (mkCI : PySem.W.makesIn K CI = true)
    (kcCI : PySem.W.keepIn K (.ref CI) = true)
    (nTcolumns : PySem.W.findIn K (.ref CT) "columns" = some none)
    (nTsize : PySem.W.findIn K (.ref CT) "size" = some none)
    (nTrows : PySem.W.findIn K (.ref CT) "rows" = some none)
    (nTbasis : PySem.W.findIn K (.ref CT) "basis" = some none)
    (nTscale : PySem.W.findIn K (.ref CT) "scale" = some none)
    (nTcosts : PySem.W.findIn K (.ref CT) "costs" = some none)
    (nInodes : PySem.W.findIn K (.ref CI) "nodes" = some none)
    (nIstations : PySem.W.findIn K (.ref CI) "stations" = some none)
    (nIlines : PySem.W.findIn K (.ref CI) "lines" = some none)
    (nIloads : PySem.W.findIn K (.ref CI) "loads" = some none)
    (nIcount : PySem.W.findIn K (.ref CI) "count" = some none)
    (zlen : PySem.W.nsIn K mainGlobals "len" = some none)
    (zlist : PySem.W.nsIn K mainGlobals "list" = some none)
    (ztuple : PySem.W.nsIn K mainGlobals "tuple" = some none)
    (zany : PySem.W.nsIn K mainGlobals "any" = some none)
    (zall : PySem.W.nsIn K mainGlobals "all" = some none)
    (zsum : PySem.W.nsIn K mainGlobals "sum" = some none)
    (zsorted : PySem.W.nsIn K mainGlobals "sorted" = some none)
    (zmin : PySem.W.nsIn K mainGlobals "min" = some none)
    (zmax : PySem.W.nsIn K mainGlobals "max" = some none)
    (zabs : PySem.W.nsIn K mainGlobals "abs" = some none)
    (zint : PySem.W.nsIn K mainGlobals "int" = some none)
    (zbool : PySem.W.nsIn K mainGlobals "bool" = some none)
    (zisinstance : PySem.W.nsIn K mainGlobals "isinstance" = some none)
    (zrepr : PySem.W.nsIn K mainGlobals "repr" = some none)
    (zrange : PySem.W.nsIn K mainGlobals "range" = some none)
    (zenumerate : PySem.W.nsIn K mainGlobals "enumerate" = some none)
    (zzip : PySem.W.nsIn K mainGlobals "zip" = some none)
    (zgcd : PySem.W.nsIn K mainGlobals "gcd" = some (some (.builtin "math.gcd")))
    : ∃ fd : FuncData, (∀ (s : Shared) (v : Value), BindsTo s fd ⟨[v], []⟩ [("_law_script", v)]) ∧ ∀ base : Heap, K.In base → base.Ns mainGlobals mg → RunG P w K mg base 8 fa fd ["_law_script"] (ctr K cLaw) := by
  have e := hfa.symm.trans (PySem.W.mg_of X G a48)
  cases e
  have T : Txt K mg CT CI := { gcd := PySem.W.mg_of X G zgcd, b_len := PySem.W.mg_none_of X G zlen, b_list := PySem.W.mg_none_of X G zlist, b_tuple := PySem.W.mg_none_of X G ztuple, b_any := PySem.W.mg_none_of X G zany, b_all := PySem.W.mg_none_of X G zall, b_sum := PySem.W.mg_none_of X G zsum, b_sorted := PySem.W.mg_none_of X G zsorted, b_min := PySem.W.mg_none_of X G zmin, b_max := PySem.W.mg_none_of X G zmax, b_abs := PySem.W.mg_none_of X G zabs, b_int := PySem.W.mg_none_of X G zint, b_bool := PySem.W.mg_none_of X G zbool, b_isinstance := PySem.W.mg_none_of X G zisinstance, b_repr := PySem.W.mg_none_of X G zrepr, b_range := PySem.W.mg_none_of X G zrange, b_enumerate := PySem.W.mg_none_of X G zenumerate, b_zip := PySem.W.mg_none_of X G zzip, clT := ⟨pgCT, hdCT, poCT, saCT⟩, nT_columns := nTcolumns, nT_size := nTsize, nT_rows := nTrows, nT_basis := nTbasis, nT_scale := nTscale, nT_costs := nTcosts, clI := ⟨pgCI, hdCI, poCI, saCI⟩, nI_nodes := nInodes, nI_stations := nIstations, nI_lines := nIlines, nI_loads := nIloads, nI_count := nIcount }
  have F0 := fun_mk (st := s_fraction) l0 c0 k0
  have B0 := F0.binds (ps := ["top", "low"]) fun _ _ _ _ _ _ us hl => match us, hl with | [_, _], _ => rfl
  have D0 : Def K mg "fraction" s_fraction ["top", "low"] := ⟨_, _, F0, PySem.W.mg_of X G a0, B0⟩
  have F1 := fun_mk (st := s_plus) l1 c1 k1
  have B1 := F1.binds (ps := ["first", "second"]) fun _ _ _ _ _ _ us hl => match us, hl with | [_, _], _ => rfl
  have D1 : Def K mg "plus" s_plus ["first", "second"] := ⟨_, _, F1, PySem.W.mg_of X G a1, B1⟩
  have F2 := fun_mk (st := s_scaled) l2 c2 k2
  have B2 := F2.binds (ps := ["factor", "item"]) fun _ _ _ _ _ _ us hl => match us, hl with | [_, _], _ => rfl
  have D2 : Def K mg "scaled" s_scaled ["factor", "item"] := ⟨_, _, F2, PySem.W.mg_of X G a2, B2⟩
  have F3 := fun_mk (st := s_is_less) l3 c3 k3
  have B3 := F3.binds (ps := ["first", "second"]) fun _ _ _ _ _ _ us hl => match us, hl with | [_, _], _ => rfl
  have D3 : Def K mg "is_less" s_is_less ["first", "second"] := ⟨_, _, F3, PySem.W.mg_of X G a3, B3⟩
  have F4 := fun_mk (st := s_is_fraction) l4 c4 k4
  have B4 := F4.binds (ps := ["item"]) fun _ _ _ _ _ _ us hl => match us, hl with | [_], _ => rfl
  have D4 : Def K mg "is_fraction" s_is_fraction ["item"] := ⟨_, _, F4, PySem.W.mg_of X G a4, B4⟩
  have F5 := fun_mk (st := s_Tableau_entering) l5 c5 k5
  have B5 := F5.binds (ps := ["self"]) fun _ _ _ _ _ _ us hl => match us, hl with | [_], _ => rfl
  have D5 : DefM K CT "entering" "Tableau.entering" s_Tableau_entering ["self"] := ⟨_, _, F5, ⟨a5, i5, k5⟩, B5⟩
  have F6 := fun_mk (st := s_Tableau_leaving) l6 c6 k6
  have B6 := F6.binds (ps := ["self", "column"]) fun _ _ _ _ _ _ us hl => match us, hl with | [_, _], _ => rfl
  have D6 : DefM K CT "leaving" "Tableau.leaving" s_Tableau_leaving ["self", "column"] := ⟨_, _, F6, ⟨a6, i6, k6⟩, B6⟩
  have F7 := fun_mk (st := s_Tableau_cleared) l7 c7 k7
  have B7 := F7.binds (ps := ["self", "row", "chosen", "pivot", "column"]) fun _ _ _ _ _ _ us hl => match us, hl with | [_, _, _, _, _], _ => rfl
  have D7 : DefM K CT "cleared" "Tableau.cleared" s_Tableau_cleared ["self", "row", "chosen", "pivot", "column"] := ⟨_, _, F7, ⟨a7, i7, k7⟩, B7⟩
  have F8 := fun_mk (st := s_Tableau_found) l8 c8 k8
  have B8 := F8.binds (ps := ["self"]) fun _ _ _ _ _ _ us hl => match us, hl with | [_], _ => rfl
  have D8 : DefM K CT "found" "Tableau.found" s_Tableau_found ["self"] := ⟨_, _, F8, ⟨a8, i8, k8⟩, B8⟩
  have F9 := fun_mk (st := s_Tableau_turn) l9 c9 k9
  have B9 := F9.binds (ps := ["self", "at", "column"]) fun _ _ _ _ _ _ us hl => match us, hl with | [_, _, _], _ => rfl
  have D9 : DefM K CT "turn" "Tableau.turn" s_Tableau_turn ["self", "at", "column"] := ⟨_, _, F9, ⟨a9, i9, k9⟩, B9⟩
  have F10 := fun_mk (st := s_Tableau_search) l10 c10 k10
  have B10 := F10.binds (ps := ["self"]) fun _ _ _ _ _ _ us hl => match us, hl with | [_], _ => rfl
  have D10 : DefM K CT "search" "Tableau.search" s_Tableau_search ["self"] := ⟨_, _, F10, ⟨a10, i10, k10⟩, B10⟩
  have F11 := fun_mk (st := s_Tableau_aim) l11 c11 k11
  have B11 := F11.binds (ps := ["self", "costs"]) fun _ _ _ _ _ _ us hl => match us, hl with | [_, _], _ => rfl
  have D11 : DefM K CT "aim" "Tableau.aim" s_Tableau_aim ["self", "costs"] := ⟨_, _, F11, ⟨a11, i11, k11⟩, B11⟩
  have F12 := fun_mk (st := s_Tableau_init) l12 c12 k12
  have B12 := F12.binds (ps := ["self", "equations", "columns"]) fun _ _ _ _ _ _ us hl => match us, hl with | [_, _, _], _ => rfl
  have D12 : DefC K mg CT "Tableau" "Tableau.__init__" s_Tableau_init ["self", "equations", "columns"] := ⟨_, _, F12, PySem.W.mg_of X G aT, ⟨mkCT, a12, i12, kcCT⟩, B12⟩
  have F13 := fun_mk (st := s_equations_of) l13 c13 k13
  have B13 := F13.binds (ps := ["conditions", "goals"]) fun _ _ _ _ _ _ us hl => match us, hl with | [_, _], _ => rfl
  have D13 : Def K mg "equations_of" s_equations_of ["conditions", "goals"] := ⟨_, _, F13, PySem.W.mg_of X G a13, B13⟩
  have F14 := fun_mk (st := s_without_divisor) l14 c14 k14
  have B14 := F14.binds (ps := ["integers"]) fun _ _ _ _ _ _ us hl => match us, hl with | [_], _ => rfl
  have D14 : Def K mg "without_divisor" s_without_divisor ["integers"] := ⟨_, _, F14, PySem.W.mg_of X G a14, B14⟩
  have F15 := fun_mk (st := s_solve) l15 c15 k15
  have B15 := F15.binds (ps := ["conditions", "count"]) fun _ _ _ _ _ _ us hl => match us, hl with | [_, _], _ => rfl
  have D15 : Def K mg "solve" s_solve ["conditions", "count"] := ⟨_, _, F15, PySem.W.mg_of X G a15, B15⟩
  have F16 := fun_mk (st := s_Island_init) l16 c16 k16
  have B16 := F16.binds (ps := ["self", "net", "state", "island"]) fun _ _ _ _ _ _ us hl => match us, hl with | [_, _, _, _], _ => rfl
  have D16 : DefC K mg CI "Island" "Island.__init__" s_Island_init ["self", "net", "state", "island"] := ⟨_, _, F16, PySem.W.mg_of X G aI, ⟨mkCI, a16, i16, kcCI⟩, B16⟩
  have F17 := fun_mk (st := s_Island_blank) l17 c17 k17
  have B17 := F17.binds (ps := ["self"]) fun _ _ _ _ _ _ us hl => match us, hl with | [_], _ => rfl
  have D17 : DefM K CI "blank" "Island.blank" s_Island_blank ["self"] := ⟨_, _, F17, ⟨a17, i17, k17⟩, B17⟩
  have F18 := fun_mk (st := s_Island_add_potential) l18 c18 k18
  have B18 := F18.binds (ps := ["self", "condition", "node", "factor"]) fun _ _ _ _ _ _ us hl => match us, hl with | [_, _, _, _], _ => rfl
  have D18 : DefM K CI "add_potential" "Island.add_potential" s_Island_add_potential ["self", "condition", "node", "factor"] := ⟨_, _, F18, ⟨a18, i18, k18⟩, B18⟩
  have F19 := fun_mk (st := s_Island_flow) l19 c19 k19
  have B19 := F19.binds (ps := ["self", "line"]) fun _ _ _ _ _ _ us hl => match us, hl with | [_, _], _ => rfl
  have D19 : DefM K CI "flow" "Island.flow" s_Island_flow ["self", "line"] := ⟨_, _, F19, ⟨a19, i19, k19⟩, B19⟩
  have F20 := fun_mk (st := s_Island_excess) l20 c20 k20
  have B20 := F20.binds (ps := ["self", "node"]) fun _ _ _ _ _ _ us hl => match us, hl with | [_, _], _ => rfl
  have D20 : DefM K CI "excess" "Island.excess" s_Island_excess ["self", "node"] := ⟨_, _, F20, ⟨a20, i20, k20⟩, B20⟩
  have F21 := fun_mk (st := s_Island_conditions) l21 c21 k21
  have B21 := F21.binds (ps := ["self"]) fun _ _ _ _ _ _ us hl => match us, hl with | [_], _ => rfl
  have D21 : DefM K CI "conditions" "Island.conditions" s_Island_conditions ["self"] := ⟨_, _, F21, ⟨a21, i21, k21⟩, B21⟩
  have F22 := fun_mk (st := s_conditions_of) l22 c22 k22
  have B22 := F22.binds (ps := ["net", "state", "island"]) fun _ _ _ _ _ _ us hl => match us, hl with | [_, _, _], _ => rfl
  have D22 : Def K mg "conditions_of" s_conditions_of ["net", "state", "island"] := ⟨_, _, F22, PySem.W.mg_of X G a22, B22⟩
  have F23 := fun_mk (st := s_worth) l23 c23 k23
  have B23 := F23.binds (ps := ["condition", "unknowns"]) fun _ _ _ _ _ _ us hl => match us, hl with | [_, _], _ => rfl
  have D23 : Def K mg "worth" s_worth ["condition", "unknowns"] := ⟨_, _, F23, PySem.W.mg_of X G a23, B23⟩
  have F24 := fun_mk (st := s_is_dispatch) l24 c24 k24
  have B24 := F24.binds (ps := ["net", "state", "island", "outputs", "potentials"]) fun _ _ _ _ _ _ us hl => match us, hl with | [_, _, _, _, _], _ => rfl
  have D24 : Def K mg "is_dispatch" s_is_dispatch ["net", "state", "island", "outputs", "potentials"] := ⟨_, _, F24, PySem.W.mg_of X G a24, B24⟩
  have F25 := fun_mk (st := s_is_barrier) l25 c25 k25
  have B25 := F25.binds (ps := ["net", "state", "island", "integers"]) fun _ _ _ _ _ _ us hl => match us, hl with | [_, _, _, _], _ => rfl
  have D25 : Def K mg "is_barrier" s_is_barrier ["net", "state", "island", "integers"] := ⟨_, _, F25, PySem.W.mg_of X G a25, B25⟩
  have F26 := fun_mk (st := s_run_island) l26 c26 k26
  have B26 := F26.binds (ps := ["net", "state", "island"]) fun _ _ _ _ _ _ us hl => match us, hl with | [_, _, _], _ => rfl
  have D26 : Def K mg "run_island" s_run_island ["net", "state", "island"] := ⟨_, _, F26, PySem.W.mg_of X G a26, B26⟩
  have F27 := fun_mk (st := s_is_feasible) l27 c27 k27
  have B27 := F27.binds (ps := ["net", "state", "island"]) fun _ _ _ _ _ _ us hl => match us, hl with | [_, _, _], _ => rfl
  have D27 : Def K mg "is_feasible" s_is_feasible ["net", "state", "island"] := ⟨_, _, F27, PySem.W.mg_of X G a27, B27⟩
  have F28 := fun_mk (st := s_islands_of) l28 c28 k28
  have B28 := F28.binds (ps := ["net", "state"]) fun _ _ _ _ _ _ us hl => match us, hl with | [_, _], _ => rfl
  have D28 : Def K mg "islands_of" s_islands_of ["net", "state"] := ⟨_, _, F28, PySem.W.mg_of X G a28, B28⟩
  have F29 := fun_mk (st := s_law_islands) l29 c29 k29
  have B29 := F29.binds (ps := ["_law_net", "_law_state_here"]) fun _ _ _ _ _ _ us hl => match us, hl with | [_, _], _ => rfl
  have D29 : Def K mg "_law_islands" s_law_islands ["_law_net", "_law_state_here"] := ⟨_, _, F29, PySem.W.mg_of X G a29, B29⟩
  have F30 := fun_mk (st := s_law_stations) l30 c30 k30
  have B30 := F30.binds (ps := ["_law_net", "_law_state_here", "_law_island"]) fun _ _ _ _ _ _ us hl => match us, hl with | [_, _, _], _ => rfl
  have D30 : Def K mg "_law_stations" s_law_stations ["_law_net", "_law_state_here", "_law_island"] := ⟨_, _, F30, PySem.W.mg_of X G a30, B30⟩
  have F31 := fun_mk (st := s_law_lines) l31 c31 k31
  have B31 := F31.binds (ps := ["_law_net", "_law_state_here", "_law_island"]) fun _ _ _ _ _ _ us hl => match us, hl with | [_, _, _], _ => rfl
  have D31 : Def K mg "_law_lines" s_law_lines ["_law_net", "_law_state_here", "_law_island"] := ⟨_, _, F31, PySem.W.mg_of X G a31, B31⟩
  have F32 := fun_mk (st := s_law_fed) l32 c32 k32
  have B32 := F32.binds (ps := ["_law_net", "_law_state_here", "_law_node"]) fun _ _ _ _ _ _ us hl => match us, hl with | [_, _, _], _ => rfl
  have D32 : Def K mg "_law_fed" s_law_fed ["_law_net", "_law_state_here", "_law_node"] := ⟨_, _, F32, PySem.W.mg_of X G a32, B32⟩
  have F33 := fun_mk (st := s_law_cell) l33 c33 k33
  have B33 := F33.binds (ps := ["_law_script", "_law_k"]) fun _ _ _ _ _ _ us hl => match us, hl with | [_, _], _ => rfl
  have D33 : Def K mg "_law_cell" s_law_cell ["_law_script", "_law_k"] := ⟨_, _, F33, PySem.W.mg_of X G a33, B33⟩
  have F34 := fun_mk (st := s_law_draws) l34 c34 k34
  have B34 := F34.binds (ps := ["_law_cell_here", "_law_limits"]) fun _ _ _ _ _ _ us hl => match us, hl with | [_, _], _ => rfl
  have D34 : Def K mg "_law_draws" s_law_draws ["_law_cell_here", "_law_limits"] := ⟨_, _, F34, PySem.W.mg_of X G a34, B34⟩
  have F35 := fun_mk (st := s_law_gcd) l35 c35 k35
  have B35 := F35.binds (ps := ["_law_a", "_law_b"]) fun _ _ _ _ _ _ us hl => match us, hl with | [_, _], _ => rfl
  have D35 : Def K mg "_law_gcd" s_law_gcd ["_law_a", "_law_b"] := ⟨_, _, F35, PySem.W.mg_of X G a35, B35⟩
  have F36 := fun_mk (st := s_law_fraction) l36 c36 k36
  have B36 := F36.binds (ps := ["_law_top", "_law_low"]) fun _ _ _ _ _ _ us hl => match us, hl with | [_, _], _ => rfl
  have D36 : Def K mg "_law_fraction" s_law_fraction ["_law_top", "_law_low"] := ⟨_, _, F36, PySem.W.mg_of X G a36, B36⟩
  have F37 := fun_mk (st := s_law_plus) l37 c37 k37
  have B37 := F37.binds (ps := ["_law_first", "_law_second"]) fun _ _ _ _ _ _ us hl => match us, hl with | [_, _], _ => rfl
  have D37 : Def K mg "_law_plus" s_law_plus ["_law_first", "_law_second"] := ⟨_, _, F37, PySem.W.mg_of X G a37, B37⟩
  have F38 := fun_mk (st := s_law_scaled) l38 c38 k38
  have B38 := F38.binds (ps := ["_law_first", "_law_number"]) fun _ _ _ _ _ _ us hl => match us, hl with | [_, _], _ => rfl
  have D38 : Def K mg "_law_scaled" s_law_scaled ["_law_first", "_law_number"] := ⟨_, _, F38, PySem.W.mg_of X G a38, B38⟩
  have F39 := fun_mk (st := s_law_some) l39 c39 k39
  have B39 := F39.binds (ps := ["_law_cell_here", "_law_count", "_law_often"]) fun _ _ _ _ _ _ us hl => match us, hl with | [_, _, _], _ => rfl
  have D39 : Def K mg "_law_some" s_law_some ["_law_cell_here", "_law_count", "_law_often"] := ⟨_, _, F39, PySem.W.mg_of X G a39, B39⟩
  have F40 := fun_mk (st := s_law_state) l40 c40 k40
  have B40 := F40.binds (ps := ["_law_cell_here", "_law_net"]) fun _ _ _ _ _ _ us hl => match us, hl with | [_, _], _ => rfl
  have D40 : Def K mg "_law_state" s_law_state ["_law_cell_here", "_law_net"] := ⟨_, _, F40, PySem.W.mg_of X G a40, B40⟩
  have F41 := fun_mk (st := s_law_large_net) l41 c41 k41
  have B41 := F41.binds (ps := ["_law_cell_here", "_law_more"]) fun _ _ _ _ _ _ us hl => match us, hl with | [_, _], _ => rfl
  have D41 : Def K mg "_law_large_net" s_law_large_net ["_law_cell_here", "_law_more"] := ⟨_, _, F41, PySem.W.mg_of X G a41, B41⟩
  have F42 := fun_mk (st := s_law_conditions) l42 c42 k42
  have B42 := F42.binds (ps := ["_law_net", "_law_state_here", "_law_island"]) fun _ _ _ _ _ _ us hl => match us, hl with | [_, _, _], _ => rfl
  have D42 : Def K mg "_law_conditions" s_law_conditions ["_law_net", "_law_state_here", "_law_island"] := ⟨_, _, F42, PySem.W.mg_of X G a42, B42⟩
  have F43 := fun_mk (st := s_law_is_refusal) l43 c43 k43
  have B43 := F43.binds (ps := ["_law_rows", "_law_integers"]) fun _ _ _ _ _ _ us hl => match us, hl with | [_, _], _ => rfl
  have D43 : Def K mg "_law_is_refusal" s_law_is_refusal ["_law_rows", "_law_integers"] := ⟨_, _, F43, PySem.W.mg_of X G a43, B43⟩
  have F44 := fun_mk (st := s_law_is_dispatch) l44 c44 k44
  have B44 := F44.binds (ps := ["_law_net", "_law_state_here", "_law_island", "_law_outputs", "_law_potentials"]) fun _ _ _ _ _ _ us hl => match us, hl with | [_, _, _, _, _], _ => rfl
  have D44 : Def K mg "_law_is_dispatch" s_law_is_dispatch ["_law_net", "_law_state_here", "_law_island", "_law_outputs", "_law_potentials"] := ⟨_, _, F44, PySem.W.mg_of X G a44, B44⟩
  have F45 := fun_mk (st := s_law_plain) l45 c45 k45
  have B45 := F45.binds (ps := ["_law_told"]) fun _ _ _ _ _ _ us hl => match us, hl with | [_], _ => rfl
  have D45 : Def K mg "_law_plain" s_law_plain ["_law_told"] := ⟨_, _, F45, PySem.W.mg_of X G a45, B45⟩
  have F46 := fun_mk (st := s_law_solved) l46 c46 k46
  have B46 := F46.binds (ps := ["_law_net", "_law_state_here", "_law_island", "_law_told"]) fun _ _ _ _ _ _ us hl => match us, hl with | [_, _, _, _], _ => rfl
  have D46 : Def K mg "_law_solved" s_law_solved ["_law_net", "_law_state_here", "_law_island", "_law_told"] := ⟨_, _, F46, PySem.W.mg_of X G a46, B46⟩
  have F47 := fun_mk (st := s_law_right) l47 c47 k47
  have B47 := F47.binds (ps := ["_law_net", "_law_state_here", "_law_island", "_law_told"]) fun _ _ _ _ _ _ us hl => match us, hl with | [_, _, _, _], _ => rfl
  have D47 : Def K mg "_law_right" s_law_right ["_law_net", "_law_state_here", "_law_island", "_law_told"] := ⟨_, _, F47, PySem.W.mg_of X G a47, B47⟩
  have F48 := fun_mk (st := s_law) l48 c48 k48
  refine ⟨_, fun s v => .of_eq (fd := PySem.W.fnOf "law" "law" (defArgs s_law) (defBody s_law) (defScope s_law) .none kV48 dc48 pm48 an48 cd48 ct48) rfl, fun base _ _ => ?_⟩
  have c_fraction := w_fraction (P := P) (w := w) (base := base) T D0 
  have c_plus := w_plus (P := P) (w := w) (base := base) T D1 c_fraction
  have c_scaled := w_scaled (P := P) (w := w) (base := base) T D2 c_fraction
  have c_is_less := w_is_less (P := P) (w := w) (base := base) T D3 
  have c_is_fraction := w_is_fraction (P := P) (w := w) (base := base) T D4 
  have c_entering := w_entering (P := P) (w := w) (base := base) T D5 
  have c_leaving := w_leaving (P := P) (w := w) (base := base) T D6 
  have c_cleared := w_cleared (P := P) (w := w) (base := base) T D7 
  have c_found := w_found (P := P) (w := w) (base := base) T D8 
  have c_turn := w_turn (P := P) (w := w) (base := base) T D9 c_cleared
  have c_search := w_search (P := P) (w := w) (base := base) T D10 c_entering c_leaving c_turn
  have c_aim := w_aim (P := P) (w := w) (base := base) T D11 
  have c_Tableau := w_Tableau (P := P) (w := w) (base := base) T D12 c_aim
  have c_equations_of := w_equations_of (P := P) (w := w) (base := base) T D13 
  have c_without_divisor := w_without_divisor (P := P) (w := w) (base := base) T D14 
  have c_solve := w_solve (P := P) (w := w) (base := base) T D15 c_equations_of c_without_divisor c_fraction c_Tableau c_search c_found
  have c_Island := w_Island (P := P) (w := w) (base := base) T D16 
  have c_blank := w_blank (P := P) (w := w) (base := base) T D17 
  have c_add_potential := w_add_potential (P := P) (w := w) (base := base) T D18 
  have c_flow := w_flow (P := P) (w := w) (base := base) T D19 c_blank c_add_potential
  have c_excess := w_excess (P := P) (w := w) (base := base) T D20 c_blank c_flow
  have c_conditions := w_conditions (P := P) (w := w) (base := base) T D21 c_blank c_flow c_excess
  have c_conditions_of := w_conditions_of (P := P) (w := w) (base := base) T D22 c_Island c_conditions
  have c_worth := w_worth (P := P) (w := w) (base := base) T D23 c_plus c_scaled
  have c_is_dispatch := w_is_dispatch (P := P) (w := w) (base := base) T D24 c_Island c_conditions c_is_fraction c_is_less c_worth
  have c_is_barrier := w_is_barrier (P := P) (w := w) (base := base) T D25 c_conditions_of
  have c_run_island := w_run_island (P := P) (w := w) (base := base) T D26 c_Island c_conditions c_solve c_fraction
  have c_is_feasible := w_is_feasible (P := P) (w := w) (base := base) T D27 c_run_island
  have c_islands_of := w_islands_of (P := P) (w := w) (base := base) T D28 
  have c__law_islands := w_law_islands (P := P) (w := w) (base := base) T D29 
  have c__law_stations := w_law_stations (P := P) (w := w) (base := base) T D30 
  have c__law_lines := w_law_lines (P := P) (w := w) (base := base) T D31 
  have c__law_fed := w_law_fed (P := P) (w := w) (base := base) T D32 
  have c__law_cell := w_law_cell (P := P) (w := w) (base := base) T D33 
  have c__law_draws := w_law_draws (P := P) (w := w) (base := base) T D34 
  have c__law_gcd := w_law_gcd (P := P) (w := w) (base := base) T D35 
  have c__law_fraction := w_law_fraction (P := P) (w := w) (base := base) T D36 c__law_gcd
  have c__law_plus := w_law_plus (P := P) (w := w) (base := base) T D37 c__law_fraction
  have c__law_scaled := w_law_scaled (P := P) (w := w) (base := base) T D38 c__law_fraction
  have c__law_some := w_law_some (P := P) (w := w) (base := base) T D39 c__law_draws
  have c__law_state := w_law_state (P := P) (w := w) (base := base) T D40 c__law_draws c__law_some
  have c__law_large_net := w_law_large_net (P := P) (w := w) (base := base) T D41 c__law_draws
  have c__law_conditions := w_law_conditions (P := P) (w := w) (base := base) T D42 c__law_stations c__law_lines c__law_fed
  have c__law_is_refusal := w_law_is_refusal (P := P) (w := w) (base := base) T D43 
  have c__law_is_dispatch := w_law_is_dispatch (P := P) (w := w) (base := base) T D44 c__law_stations c__law_lines c__law_fed c__law_plus c__law_scaled
  have c__law_plain := w_law_plain (P := P) (w := w) (base := base) T D45 
  have c__law_solved := w_law_solved (P := P) (w := w) (base := base) T D46 c__law_conditions c__law_stations c_solve c__law_plain c__law_is_refusal c__law_is_dispatch
  have c__law_right := w_law_right (P := P) (w := w) (base := base) T D47 c__law_conditions c_conditions_of c__law_fraction c__law_is_dispatch c_is_dispatch c__law_gcd c__law_is_refusal c_is_barrier
  exact w_law (P := P) (w := w) (base := base) T F48 c__law_large_net c__law_cell c__law_state c__law_islands c_islands_of c_run_island c__law_plain c__law_solved c__law_right c_is_feasible
theorem walk {l : PySem.W.OpenLaw} {q : Program} {loose : List Str} {XP : (Str → Option Value) → Heap → Prop} {YP : World → Heap → Prop} {d : DefRec} {K : Params → PySem.W.Frag} (hn : l.most = some 63) (hdf : d.params.defaults = [])
    (hY : ∀ (w : World) (h : Heap), YP w h → (K w.params).In h)
    (F : ∀ (w : World) (mg : Str → Option Value) (fa : Addr) (h : Heap), (K w.params).In h → h.Ns mainGlobals mg → mg d.name = some (.ref fa) →
      ∃ fd : FuncData, (∀ (s : Shared) (u : Value), BindsTo s fd ⟨[u], []⟩ [("_law_script", u)]) ∧ ∀ base : Heap, (K w.params).In base → base.Ns mainGlobals mg → RunG l.prog w (K w.params) mg base 8 fa fd ["_law_script"] (ctr (K w.params) cLaw)) :
    PySem.W.WalkO q loose XP YP l.row.toRowW d [] (fun f vs => PySem.call f vs) :=
  walk_g (n := 63) (k := 8) (x := "_law_script") (sp := fun K => ctr K cLaw) hn (by decide) hdf ⟨rfl, by decide, by decide⟩ hY F fun K H a ns hS => law_start hS
end Rl
set_option Elab.async false
set_option linter.all false
set_option maxRecDepth 100000
open PySem PySem.W PyProof.Rows
set_option maxHeartbeats 0
open_top hd for PySem.Challenge.rw_relume_k17_whole_large_islands_run
set_option maxRecDepth 100000 in
set_option maxHeartbeats 0 in
theorem PySem.Challenge.cw_relume_k17_whole_large_islands_run_holds : PySem.Challenge.rw_relume_k17_whole_large_islands_run.Holds := by
  refine hd ?_
  k_fill
  refine Rl.walk (l := PySem.Challenge.rw_relume_k17_whole_large_islands_run) rfl rfl (fun w h Y => PySem.W.kIn_of Y) ?F
  case F =>
    intro w mg fa h KX G hmg
    refine' Rl.all_mk KX G hmg ?aT ?aI ?a0 ?l0 ?c0 ?k0 ?a1 ?l1 ?c1 ?k1 ?a2 ?l2 ?c2 ?k2 ?a3 ?l3 ?c3 ?k3 ?a4 ?l4 ?c4 ?k4 ?a5 ?i5 ?l5 ?c5 ?k5 ?a6 ?i6 ?l6 ?c6 ?k6 ?a7 ?i7 ?l7 ?c7 ?k7 ?a8 ?i8 ?l8 ?c8 ?k8 ?a9 ?i9 ?l9 ?c9 ?k9 ?a10 ?i10 ?l10 ?c10 ?k10 ?a11 ?i11 ?l11 ?c11 ?k11 ?a12 ?i12 ?l12 ?c12 ?k12 ?a13 ?l13 ?c13 ?k13 ?a14 ?l14 ?c14 ?k14 ?a15 ?l15 ?c15 ?k15 ?a16 ?i16 ?l16 ?c16 ?k16 ?a17 ?i17 ?l17 ?c17 ?k17 ?a18 ?i18 ?l18 ?c18 ?k18 ?a19 ?i19 ?l19 ?c19 ?k19 ?a20 ?i20 ?l20 ?c20 ?k20 ?a21 ?i21 ?l21 ?c21 ?k21 ?a22 ?l22 ?c22 ?k22 ?a23 ?l23 ?c23 ?k23 ?a24 ?l24 ?c24 ?k24 ?a25 ?l25 ?c25 ?k25 ?a26 ?l26 ?c26 ?k26 ?a27 ?l27 ?c27 ?k27 ?a28 ?l28 ?c28 ?k28 ?a29 ?l29 ?c29 ?k29 ?a30 ?l30 ?c30 ?k30 ?a31 ?l31 ?c31 ?k31 ?a32 ?l32 ?c32 ?k32 ?a33 ?l33 ?c33 ?k33 ?a34 ?l34 ?c34 ?k34 ?a35 ?l35 ?c35 ?k35 ?a36 ?l36 ?c36 ?k36 ?a37 ?l37 ?c37 ?k37 ?a38 ?l38 ?c38 ?k38 ?a39 ?l39 ?c39 ?k39 ?a40 ?l40 ?c40 ?k40 ?a41 ?l41 ?c41 ?k41 ?a42 ?l42 ?c42 ?k42 ?a43 ?l43 ?c43 ?k43 ?a44 ?l44 ?c44 ?k44 ?a45 ?l45 ?c45 ?k45 ?a46 ?l46 ?c46 ?k46 ?a47 ?l47 ?c47 ?k47 ?a48 ?l48 ?c48 ?k48 ?pgCT ?hdCT ?poCT ?saCT ?mkCT ?kcCT ?pgCI ?hdCI ?poCI ?saCI ?mkCI ?kcCI ?nTcolumns ?nTsize ?nTrows ?nTbasis ?nTscale ?nTcosts ?nInodes ?nIstations ?nIlines ?nIloads ?nIcount ?zlen ?zlist ?ztuple ?zany ?zall ?zsum ?zsorted ?zmin ?zmax ?zabs ?zint ?zbool ?zisinstance ?zrepr ?zrange ?zenumerate ?zzip ?zgcd
    (case aT => k_is)
    (case aI => k_is)
    (case a0 => k_is)
    (case l0 => k_is)
    (case c0 => k_is)
    (case k0 => k_is)
    (case a1 => k_is)
    (case l1 => k_is)
    (case c1 => k_is)
    (case k1 => k_is)
    (case a2 => k_is)
    (case l2 => k_is)
    (case c2 => k_is)
    (case k2 => k_is)
    (case a3 => k_is)
    (case l3 => k_is)
    (case c3 => k_is)
    (case k3 => k_is)
    (case a4 => k_is)
    (case l4 => k_is)
    (case c4 => k_is)
    (case k4 => k_is)
    (case a5 => k_is)
    (case i5 => k_is)
    (case l5 => k_is)
    (case c5 => k_is)
    (case k5 => k_is)
    (case a6 => k_is)
    (case i6 => k_is)
    (case l6 => k_is)
    (case c6 => k_is)
    (case k6 => k_is)
    (case a7 => k_is)
    (case i7 => k_is)
    (case l7 => k_is)
    (case c7 => k_is)
    (case k7 => k_is)
    (case a8 => k_is)
    (case i8 => k_is)
    (case l8 => k_is)
    (case c8 => k_is)
    (case k8 => k_is)
    (case a9 => k_is)
    (case i9 => k_is)
    (case l9 => k_is)
    (case c9 => k_is)
    (case k9 => k_is)
    (case a10 => k_is)
    (case i10 => k_is)
    (case l10 => k_is)
    (case c10 => k_is)
    (case k10 => k_is)
    (case a11 => k_is)
    (case i11 => k_is)
    (case l11 => k_is)
    (case c11 => k_is)
    (case k11 => k_is)
    (case a12 => k_is)
    (case i12 => k_is)
    (case l12 => k_is)
    (case c12 => k_is)
    (case k12 => k_is)
    (case a13 => k_is)
    (case l13 => k_is)
    (case c13 => k_is)
    (case k13 => k_is)
    (case a14 => k_is)
    (case l14 => k_is)
    (case c14 => k_is)
    (case k14 => k_is)
    (case a15 => k_is)
    (case l15 => k_is)
    (case c15 => k_is)
    (case k15 => k_is)
    (case a16 => k_is)
    (case i16 => k_is)
    (case l16 => k_is)
    (case c16 => k_is)
    (case k16 => k_is)
    (case a17 => k_is)
    (case i17 => k_is)
    (case l17 => k_is)
    (case c17 => k_is)
    (case k17 => k_is)
    (case a18 => k_is)
    (case i18 => k_is)
    (case l18 => k_is)
    (case c18 => k_is)
    (case k18 => k_is)
    (case a19 => k_is)
    (case i19 => k_is)
    (case l19 => k_is)
    (case c19 => k_is)
    (case k19 => k_is)
    (case a20 => k_is)
    (case i20 => k_is)
    (case l20 => k_is)
    (case c20 => k_is)
    (case k20 => k_is)
    (case a21 => k_is)
    (case i21 => k_is)
    (case l21 => k_is)
    (case c21 => k_is)
    (case k21 => k_is)
    (case a22 => k_is)
    (case l22 => k_is)
    (case c22 => k_is)
    (case k22 => k_is)
    (case a23 => k_is)
    (case l23 => k_is)
    (case c23 => k_is)
    (case k23 => k_is)
    (case a24 => k_is)
    (case l24 => k_is)
    (case c24 => k_is)
    (case k24 => k_is)
    (case a25 => k_is)
    (case l25 => k_is)
    (case c25 => k_is)
    (case k25 => k_is)
    (case a26 => k_is)
    (case l26 => k_is)
    (case c26 => k_is)
    (case k26 => k_is)
    (case a27 => k_is)
    (case l27 => k_is)
    (case c27 => k_is)
    (case k27 => k_is)
    (case a28 => k_is)
    (case l28 => k_is)
    (case c28 => k_is)
    (case k28 => k_is)
    (case a29 => k_is)
    (case l29 => k_is)
    (case c29 => k_is)
    (case k29 => k_is)
    (case a30 => k_is)
    (case l30 => k_is)
    (case c30 => k_is)
    (case k30 => k_is)
    (case a31 => k_is)
    (case l31 => k_is)
    (case c31 => k_is)
    (case k31 => k_is)
    (case a32 => k_is)
    (case l32 => k_is)
    (case c32 => k_is)
    (case k32 => k_is)
    (case a33 => k_is)
    (case l33 => k_is)
    (case c33 => k_is)
    (case k33 => k_is)
    (case a34 => k_is)
    (case l34 => k_is)
    (case c34 => k_is)
    (case k34 => k_is)
    (case a35 => k_is)
    (case l35 => k_is)
    (case c35 => k_is)
    (case k35 => k_is)
    (case a36 => k_is)
    (case l36 => k_is)
    (case c36 => k_is)
    (case k36 => k_is)
    (case a37 => k_is)
    (case l37 => k_is)
    (case c37 => k_is)
    (case k37 => k_is)
    (case a38 => k_is)
    (case l38 => k_is)
    (case c38 => k_is)
    (case k38 => k_is)
    (case a39 => k_is)
    (case l39 => k_is)
    (case c39 => k_is)
    (case k39 => k_is)
    (case a40 => k_is)
    (case l40 => k_is)
    (case c40 => k_is)
    (case k40 => k_is)
    (case a41 => k_is)
    (case l41 => k_is)
    (case c41 => k_is)
    (case k41 => k_is)
    (case a42 => k_is)
    (case l42 => k_is)
    (case c42 => k_is)
    (case k42 => k_is)
    (case a43 => k_is)
    (case l43 => k_is)
    (case c43 => k_is)
    (case k43 => k_is)
    (case a44 => k_is)
    (case l44 => k_is)
    (case c44 => k_is)
    (case k44 => k_is)
    (case a45 => k_is)
    (case l45 => k_is)
    (case c45 => k_is)
    (case k45 => k_is)
    (case a46 => k_is)
    (case l46 => k_is)
    (case c46 => k_is)
    (case k46 => k_is)
    (case a47 => k_is)
    (case l47 => k_is)
    (case c47 => k_is)
    (case k47 => k_is)
    (case a48 => k_is)
    (case l48 => k_is)
    (case c48 => k_is)
    (case k48 => k_is)
    (case pgCT => k_is)
    (case hdCT => k_is)
    (case poCT => k_is)
    (case saCT => k_is)
    (case mkCT => k_is)
    (case kcCT => k_is)
    (case pgCI => k_is)
    (case hdCI => k_is)
    (case poCI => k_is)
    (case saCI => k_is)
    (case mkCI => k_is)
    (case kcCI => k_is)
    (case nTcolumns => k_is)
    (case nTsize => k_is)
    (case nTrows => k_is)
    (case nTbasis => k_is)
    (case nTscale => k_is)
    (case nTcosts => k_is)
    (case nInodes => k_is)
    (case nIstations => k_is)
    (case nIlines => k_is)
    (case nIloads => k_is)
    (case nIcount => k_is)
    (case zlen => k_is)
    (case zlist => k_is)
    (case ztuple => k_is)
    (case zany => k_is)
    (case zall => k_is)
    (case zsum => k_is)
    (case zsorted => k_is)
    (case zmin => k_is)
    (case zmax => k_is)
    (case zabs => k_is)
    (case zint => k_is)
    (case zbool => k_is)
    (case zisinstance => k_is)
    (case zrepr => k_is)
    (case zrange => k_is)
    (case zenumerate => k_is)
    (case zzip => k_is)
    (case zgcd => k_is)
#print axioms PySem.Challenge.cw_relume_k17_whole_large_islands_run_holds
