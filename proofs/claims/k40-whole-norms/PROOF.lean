import PyProof.Rows.All
import Wide.All
import OpenK.AllK
import Wide.FinOn
import HandS.ForMost
import HandS.Wide
import HandS.EndBits
import HandS.IsInst
import HandS.RevRange
import HandS.WordsExc
import HandS.Walk
import HandS.Evl
import HandS.Sort
import KE.SortData
import PySem.Challenge.RW_rootwheel_k40_whole_norms_of_root_polyno
set_option Elab.async false
set_option linter.all false
set_option maxRecDepth 100000
section
set_option autoImplicit false
set_option linter.all false
namespace RK

/-! ### plain lists of whole numbers as polynomials -/
def ev : List Int → Int → Int
  | [], _ => 0
  | c :: f, a => c + a * ev f a

def addAt : List Int → Nat → Int → List Int
  | [], _, _ => []
  | x :: l, 0, v => (x + v) :: l
  | x :: l, k + 1, v => x :: addAt l k v

/-- k turns of a loop whose turn number counts -/
def nIter {α : Type} (F : Nat → α → α) (a : α) : Nat → α
  | 0 => a
  | k + 1 => F k (nIter F a k)

/-- k turns of a loop over an enumerated list -/
def eFold {α : Type} (F : Nat → Int → α → α) (g : List Int) (a : α) : Nat → α
  | 0 => a
  | k + 1 => F k (g.getD k 0) (eFold F g a k)

/-- c times g added to l -/
def zipAdd (c : Int) : List Int → List Int → List Int
  | [], _ => []
  | l, [] => l
  | y :: l, x :: g => (y + c * x) :: zipAdd c l g
/-- .. from the place off on -/
def rowAdd (c : Int) (g : List Int) : Nat → List Int → List Int
  | 0, l => zipAdd c l g
  | _ + 1, [] => []
  | k + 1, y :: l => y :: rowAdd c g k l

def trimN (l : List Int) : Nat → Nat
  | 0 => 0
  | m + 1 => if l.getD m 0 = 0 then trimN l m else m + 1
def trimL (l : List Int) : List Int := l.take (trimN l l.length)

def zeros (n : Nat) : List Int := List.replicate n 0

def timesL (f g : List Int) : List Int :=
  if f = [] ∨ g = [] then [] else trimL (eFold (fun i x t => rowAdd x g i t) f (zeros (f.length + g.length - 1)) f.length)

def sumRow (n i : Nat) (x : Int) (y : List Int) (t : List Int) (k : Nat) : List Int := eFold (fun j v t => addAt t ((i + j) % n) (x * v)) y t k
def sumTimes (x y : List Int) : List Int :=
  eFold (fun i u t => sumRow x.length i u y t y.length) x (zeros x.length) x.length

def ledL (s : List Int) (k : Nat) : List Int := eFold (fun j v t => addAt t (j * k % s.length) v) s (zeros s.length) s.length

def layL (n : Nat) (f : List Int) : List Int := eFold (fun k v t => addAt t (k % n) v) f (zeros n) f.length

/-! ### evaluation -/
theorem ev_addAt (a v : Int) : ∀ (l : List Int) (k : Nat), k < l.length → ev (addAt l k v) a = ev l a + v * a ^ k
  | [], k, h => by simp at h
  | x :: l, 0, _ => by simp only [addAt, ev, Int.pow_zero]; grind
  | x :: l, k + 1, h => by
    have ih := ev_addAt a v l k (by simpa using h)
    simp only [addAt, ev, ih, Int.pow_succ]; grind
theorem len_addAt (v : Int) : ∀ (l : List Int) (k : Nat), (addAt l k v).length = l.length
  | [], _ => rfl
  | _ :: _, 0 => rfl
  | x :: l, k + 1 => by simp only [addAt, List.length_cons, len_addAt v l k]
theorem ev_zeros (a : Int) : ∀ n, ev (zeros n) a = 0
  | 0 => rfl
  | n + 1 => by
    show (0 : Int) + a * ev (zeros n) a = 0
    rw [ev_zeros a n]; simp
theorem len_zeros (n : Nat) : (zeros n).length = n := List.length_replicate
theorem ev_zipAdd (a c : Int) : ∀ (l g : List Int), g.length ≤ l.length → ev (zipAdd c l g) a = ev l a + c * ev g a
  | [], [], _ => by simp [zipAdd, ev]
  | [], _ :: _, h => by simp at h
  | y :: l, [], _ => by simp [zipAdd, ev]
  | y :: l, x :: g, h => by
    have ih := ev_zipAdd a c l g (by simpa using h)
    simp only [zipAdd, ev, ih]; grind
theorem len_zipAdd (c : Int) : ∀ (l g : List Int), (zipAdd c l g).length = l.length
  | [], _ => by simp [zipAdd]
  | _ :: _, [] => rfl
  | _ :: l, _ :: g => by simp only [zipAdd, List.length_cons, len_zipAdd c l g]
theorem ev_rowAdd (a c : Int) (g : List Int) : ∀ (k : Nat) (l : List Int), k + g.length ≤ l.length → ev (rowAdd c g k l) a = ev l a + c * a ^ k * ev g a
  | 0, l, h => by
    have e := ev_zipAdd a c l g (by simpa using h)
    simp only [rowAdd, e, Int.pow_zero]; grind
  | k + 1, [], h => by simp at h
  | k + 1, y :: l, h => by
    have ih := ev_rowAdd a c g k l (by simp only [List.length_cons] at h; omega)
    simp only [rowAdd, ev, ih, Int.pow_succ]; grind
theorem len_rowAdd (c : Int) (g : List Int) : ∀ (k : Nat) (l : List Int), (rowAdd c g k l).length = l.length
  | 0, l => len_zipAdd c l g
  | _ + 1, [] => rfl
  | k + 1, y :: l => by simp only [rowAdd, List.length_cons, len_rowAdd c g k l]
theorem ev_append (a : Int) : ∀ (l m : List Int), ev (l ++ m) a = ev l a + a ^ l.length * ev m a
  | [], m => by simp [ev]
  | x :: l, m => by
    simp only [List.cons_append, ev, ev_append a l m, List.length_cons, Int.pow_succ]; grind
theorem ev_take_succ (a : Int) (l : List Int) (k : Nat) (h : k < l.length) : ev (l.take (k + 1)) a = ev (l.take k) a + a ^ k * l.getD k 0 := by
  rw [List.take_add_one, ev_append, List.length_take, Nat.min_eq_left (Nat.le_of_lt h)]
  rw [List.getElem?_eq_getElem h, List.getD_eq_getElem?_getD, List.getElem?_eq_getElem h]
  simp [ev]
theorem ev_trimN (a : Int) (l : List Int) : ∀ m, m ≤ l.length → ev (l.take (trimN l m)) a = ev (l.take m) a
  | 0, _ => rfl
  | m + 1, h => by
    unfold trimN
    split
    · rename_i e
      rw [ev_trimN a l m (by omega), ev_take_succ a l m (by omega), e]; simp
    · rfl
theorem ev_trimL (a : Int) (l : List Int) : ev (trimL l) a = ev l a := by
  unfold trimL
  rw [ev_trimN a l l.length (Nat.le_refl _), List.take_length]
theorem trimN_le (l : List Int) : ∀ m, trimN l m ≤ m
  | 0 => Nat.le_refl _
  | m + 1 => by
    unfold trimN
    split
    · exact Nat.le_succ_of_le (trimN_le l m)
    · exact Nat.le_refl _

theorem eFold_len {F : Nat → Int → List Int → List Int} (g : List Int) (t : List Int) (hF : ∀ i x t, (F i x t).length = t.length) : ∀ k, (eFold F g t k).length = t.length
  | 0 => rfl
  | k + 1 => by
    show (F k _ _).length = _
    rw [hF, eFold_len g t hF k]

theorem ev_nil_of {a : Int} {f : List Int} (h : f = []) : ev f a = 0 := by subst h; rfl

theorem ev_timesL (a : Int) (f g : List Int) : ev (timesL f g) a = ev f a * ev g a := by
  unfold timesL
  split
  · rename_i h
    rcases h with h | h <;> (subst h; simp [ev])
  · rename_i h
    have hf : f ≠ [] := fun e => h (.inl e)
    have hg : g ≠ [] := fun e => h (.inr e)
    have hf1 : 0 < f.length := List.length_pos_iff.mpr hf
    have hg1 : 0 < g.length := List.length_pos_iff.mpr hg
    rw [ev_trimL]
    have key : ∀ k, k ≤ f.length → ev (eFold (fun i x t => rowAdd x g i t) f (zeros (f.length + g.length - 1)) k) a = ev (f.take k) a * ev g a := by
      intro k
      induction k with
      | zero => intro _; simp [eFold, ev_zeros, ev]
      | succ k ih =>
        intro hk
        show ev (rowAdd (f.getD k 0) g k (eFold _ f _ k)) a = _
        rw [ev_rowAdd, ih (by omega), ev_take_succ a f k (by omega)]
        · grind
        · rw [eFold_len _ _ (fun i x t => len_rowAdd x g i t), len_zeros]; omega
    rw [key f.length (Nat.le_refl _), List.take_length]

/-! ### what a polynomial divides -/
/-- a polynomial in a -/
def IsP (F : Int → Int) : Prop := ∃ q : List Int, ∀ a, F a = ev q a
/-- F is a multiple of P -/
def Dv (P : List Int) (F : Int → Int) : Prop := ∃ q : List Int, ∀ a, F a = ev q a * ev P a

/-- plain sums and products of lists -/
def addL : List Int → List Int → List Int
  | [], m => m
  | l, [] => l
  | x :: l, y :: m => (x + y) :: addL l m
theorem ev_addL (a : Int) : ∀ l m, ev (addL l m) a = ev l a + ev m a
  | [], m => by simp [addL, ev]
  | x :: l, [] => by simp [addL, ev]
  | x :: l, y :: m => by simp only [addL, ev, ev_addL a l m]; grind
def scaleL (c : Int) (l : List Int) : List Int := l.map (c * ·)
theorem ev_scaleL (a c : Int) : ∀ l, ev (scaleL c l) a = c * ev l a
  | [] => by simp [scaleL, ev]
  | x :: l => by
    have ih := ev_scaleL a c l
    unfold scaleL at ih ⊢
    simp only [List.map_cons, ev, ih]; grind
def mulL : List Int → List Int → List Int
  | [], _ => []
  | c :: f, g => addL (scaleL c g) (0 :: mulL f g)
theorem ev_mulL (a : Int) : ∀ f g, ev (mulL f g) a = ev f a * ev g a
  | [], g => by simp [mulL, ev]
  | c :: f, g => by
    simp only [mulL, ev_addL, ev_scaleL, ev, ev_mulL a f g]; grind

theorem IsP.of (f : List Int) : IsP (ev f) := ⟨f, fun _ => rfl⟩
theorem IsP.const (c : Int) : IsP (fun _ => c) := ⟨[c], fun a => by simp [ev]⟩
theorem IsP.add {F G : Int → Int} (hF : IsP F) (hG : IsP G) : IsP (fun a => F a + G a) := by
  obtain ⟨f, hf⟩ := hF
  obtain ⟨g, hg⟩ := hG
  exact ⟨addL f g, fun a => by dsimp only; rw [ev_addL, hf, hg]⟩
theorem IsP.mul {F G : Int → Int} (hF : IsP F) (hG : IsP G) : IsP (fun a => F a * G a) := by
  obtain ⟨f, hf⟩ := hF
  obtain ⟨g, hg⟩ := hG
  exact ⟨mulL f g, fun a => by dsimp only; rw [ev_mulL, hf, hg]⟩
theorem IsP.x : IsP (fun a => a) := ⟨[0, 1], fun a => by simp [ev]⟩
theorem IsP.pow (k : Nat) : IsP (fun a => a ^ k) := by
  induction k with
  | zero => exact ⟨[1], fun a => by simp [ev]⟩
  | succ k ih =>
    obtain ⟨f, hf⟩ := ih
    exact ⟨0 :: f, fun a => by simp only [ev, ← hf, Int.pow_succ]; grind⟩
theorem IsP.neg {F : Int → Int} (hF : IsP F) : IsP (fun a => - F a) := by
  obtain ⟨f, hf⟩ := hF
  exact ⟨scaleL (-1) f, fun a => by dsimp only; rw [ev_scaleL, hf]; grind⟩
theorem IsP.sub {F G : Int → Int} (hF : IsP F) (hG : IsP G) : IsP (fun a => F a - G a) := by
  obtain ⟨f, hf⟩ := hF.add hG.neg
  exact ⟨f, fun a => by rw [← hf]; grind⟩
theorem IsP.comp {F : Int → Int} (hF : IsP F) (k : Nat) : IsP (fun a => F (a ^ k)) := by
  obtain ⟨f, hf⟩ := hF
  have : ∀ f : List Int, IsP (fun a => ev f (a ^ k)) := by
    intro f
    induction f with
    | nil => exact .const 0
    | cons c f ih => exact (IsP.const c).add ((IsP.pow k).mul ih)
  obtain ⟨g, hg⟩ := this f
  exact ⟨g, fun a => by dsimp only; rw [hf, ← hg]⟩
section
variable {P : List Int} {F G : Int → Int}
theorem Dv.zero : Dv P (fun _ => 0) := ⟨[], fun a => by simp [ev]⟩
theorem Dv.add (hF : Dv P F) (hG : Dv P G) : Dv P (fun a => F a + G a) := by
  obtain ⟨f, hf⟩ := hF
  obtain ⟨g, hg⟩ := hG
  exact ⟨addL f g, fun a => by dsimp only; rw [ev_addL, hf, hg]; grind⟩
theorem Dv.mul (hF : Dv P F) (hG : IsP G) : Dv P (fun a => G a * F a) := by
  obtain ⟨f, hf⟩ := hF
  obtain ⟨g, hg⟩ := hG
  exact ⟨mulL g f, fun a => by dsimp only; rw [ev_mulL, hf, hg]; grind⟩
theorem Dv.neg (hF : Dv P F) : Dv P (fun a => - F a) := by
  obtain ⟨f, hf⟩ := hF
  exact ⟨scaleL (-1) f, fun a => by dsimp only; rw [ev_scaleL, hf]; grind⟩
theorem Dv.sub (hF : Dv P F) (hG : Dv P G) : Dv P (fun a => F a - G a) := by
  obtain ⟨f, hf⟩ := hF.add hG.neg
  exact ⟨f, fun a => by rw [← hf]; grind⟩
theorem Dv.eq (hF : Dv P F) (h : ∀ a, F a = G a) : Dv P G := by
  obtain ⟨f, hf⟩ := hF
  exact ⟨f, fun a => by rw [← h, hf]⟩
theorem Dv.self : Dv P (ev P) := ⟨[1], fun a => by simp [ev]⟩
end
/-- the same number -/
def Cg (P : List Int) (F G : Int → Int) : Prop := Dv P (fun a => F a - G a)
section
variable {P : List Int} {F G K L : Int → Int}
theorem Cg.refl (F : Int → Int) : Cg P F F := Dv.zero.eq fun a => by simp
theorem Cg.of_eq (h : ∀ a, F a = G a) : Cg P F G := Dv.zero.eq fun a => by rw [h]; simp
theorem Cg.symm (h : Cg P F G) : Cg P G F := Dv.neg h |>.eq fun a => by grind
theorem Cg.trans (h : Cg P F G) (h' : Cg P G K) : Cg P F K := (Dv.add h h').eq fun a => by grind
theorem Cg.add (h : Cg P F G) (h' : Cg P K L) : Cg P (fun a => F a + K a) (fun a => G a + L a) := (Dv.add h h').eq fun a => by grind
theorem Cg.mul (h : Cg P F G) (h' : Cg P K L) (pK : IsP K) (pG : IsP G) : Cg P (fun a => F a * K a) (fun a => G a * L a) :=
  (Dv.add (Dv.mul h pK) (Dv.mul h' pG)).eq fun a => by grind
theorem Cg.smul (h : Cg P F G) (pK : IsP K) : Cg P (fun a => K a * F a) (fun a => K a * G a) := (Dv.mul h pK).eq fun a => by grind
theorem Cg.dv (h : Cg P F G) (h' : Dv P G) : Dv P F := (Dv.add h h').eq fun a => by grind
theorem Cg.left (h : Cg P F G) (e : ∀ a, F a = K a) : Cg P K G := Dv.eq h fun a => by rw [e]
theorem Cg.right (h : Cg P F G) (e : ∀ a, G a = K a) : Cg P F K := Dv.eq h fun a => by rw [e]
end

/-! ### powers by n -/
/-- P divides the n-th power less one -/
def Round (n : Nat) (P : List Int) : Prop := Dv P (fun a => a ^ n - 1)
theorem Round.pow {n : Nat} {P : List Int} (h : Round n P) (k : Nat) : Cg P (fun a => a ^ (n * k)) (fun _ => 1) := by
  induction k with
  | zero => exact Cg.of_eq fun a => by simp
  | succ k ih =>
    have h1 : Cg P (fun a => a ^ (n * k) * a ^ n) (fun _ => 1 * 1) := Cg.mul ih h (IsP.pow n) (.const 1)
    refine (h1.left fun a => ?_).right fun a => by simp
    rw [← Int.pow_add, Nat.mul_succ]
theorem Round.mod {n : Nat} {P : List Int} (h : Round n P) (k : Nat) : Cg P (fun a => a ^ (k % n)) (fun a => a ^ k) := by
  have h1 : Cg P (fun a => a ^ (k % n) * a ^ (n * (k / n))) (fun a => a ^ (k % n) * 1) := (h.pow (k / n)).smul (IsP.pow _)
  refine Cg.symm ((h1.left fun a => ?_).right fun a => by simp)
  rw [← Int.pow_add]
  congr 1
  exact Nat.mod_add_div k n

theorem cg_eFold_sum {n : Nat} {P : List Int} (h : Round n P) (hn : 0 < n) (g : List Int) (t : List Int) (ht : t.length = n) (c : Int) (e : Nat → Nat) : ∀ k, k ≤ g.length →
    (eFold (fun j v t => addAt t (e j % n) (c * v)) g t k).length = n ∧
    Cg P (ev (eFold (fun j v t => addAt t (e j % n) (c * v)) g t k)) (fun a => ev t a + c * (eFold (fun j v (s : Int) => s + v * a ^ (e j)) g 0 k))
  | 0, _ => ⟨ht, Cg.of_eq fun a => by simp [eFold]⟩
  | k + 1, hk => by
    obtain ⟨l, ih⟩ := cg_eFold_sum h hn g t ht c e k (by omega)
    refine ⟨by show (addAt _ _ _).length = n; rw [len_addAt]; exact l, ?_⟩
    have h1 : Cg P (fun a => c * g.getD k 0 * a ^ (e k % n)) (fun a => c * g.getD k 0 * a ^ (e k)) := (h.mod (e k)).smul (.const _)
    refine ((ih.add h1).left fun a => ?_).right fun a => ?_
    · exact (ev_addAt a (c * g.getD k 0) _ (e k % n) (by rw [l]; exact Nat.mod_lt _ hn)).symm
    · show _ = ev t a + c * (eFold (fun j v (s : Int) => s + v * a ^ (e j)) g 0 k + g.getD k 0 * a ^ (e k))
      grind
theorem eFold_pow (a : Int) (m : Nat) (g : List Int) : ∀ k, k ≤ g.length → eFold (fun j v (s : Int) => s + v * a ^ (j * m)) g 0 k = ev (g.take k) (a ^ m)
  | 0, _ => rfl
  | k + 1, hk => by
    show eFold _ g 0 k + g.getD k 0 * a ^ (k * m) = _
    rw [eFold_pow a m g k (by omega), ev_take_succ _ g k (by omega), ← Int.pow_mul, Nat.mul_comm m k]; grind

/-- a polynomial laid round n -/
theorem cg_layL {n : Nat} {P : List Int} (h : Round n P) (hn : 0 < n) (f : List Int) : (layL n f).length = n ∧ Cg P (ev (layL n f)) (ev f) := by
  have e : layL n f = eFold (fun j v t => addAt t (j % n) (1 * v)) f (zeros n) f.length := by simp only [layL, Int.one_mul]
  rw [e]
  obtain ⟨l, c⟩ := cg_eFold_sum h hn f (zeros n) (len_zeros n) 1 (fun j => j) f.length (Nat.le_refl _)
  refine ⟨l, c.right fun a => ?_⟩
  have := eFold_pow a 1 f f.length (Nat.le_refl _)
  simp only [Nat.mul_one] at this
  rw [this, ev_zeros, List.take_length, Int.pow_one]; simp
theorem cg_ledL {P : List Int} (s : List Int) (h : Round s.length P) (hn : 0 < s.length) (k : Nat) : (ledL s k).length = s.length ∧ Cg P (ev (ledL s k)) (fun a => ev s (a ^ k)) := by
  have e : ledL s k = eFold (fun j v t => addAt t (j * k % s.length) (1 * v)) s (zeros s.length) s.length := by simp only [ledL, Int.one_mul]
  rw [e]
  obtain ⟨l, c⟩ := cg_eFold_sum h hn s (zeros s.length) (len_zeros _) 1 (fun j => j * k) s.length (Nat.le_refl _)
  refine ⟨l, c.right fun a => ?_⟩
  rw [eFold_pow a k s s.length (Nat.le_refl _), ev_zeros, List.take_length]; simp
theorem eFold_powS (a : Int) (m : Nat) (g : List Int) : ∀ k, k ≤ g.length → eFold (fun j v (s : Int) => s + v * a ^ (m + j)) g 0 k = a ^ m * ev (g.take k) a
  | 0, _ => by simp [eFold, ev]
  | k + 1, hk => by
    show eFold _ g 0 k + g.getD k 0 * a ^ (m + k) = _
    rw [eFold_powS a m g k (by omega), ev_take_succ _ g k (by omega), Int.pow_add]; grind
theorem cg_sumTimes {n : Nat} {P : List Int} (h : Round n P) (hn : 0 < n) (x y : List Int) (hx : x.length = n) : (sumTimes x y).length = n ∧ Cg P (ev (sumTimes x y)) (fun a => ev x a * ev y a) := by
  subst hx
  have key : ∀ k, k ≤ x.length → (eFold (fun i u t => sumRow x.length i u y t y.length) x (zeros x.length) k).length = x.length ∧
      Cg P (ev (eFold (fun i u t => sumRow x.length i u y t y.length) x (zeros x.length) k)) (fun a => ev (x.take k) a * ev y a) := by
    intro k
    induction k with
    | zero => intro _; exact ⟨len_zeros _, Cg.of_eq fun a => by simp [eFold, ev_zeros, ev]⟩
    | succ k ih =>
      intro hk
      obtain ⟨l, c⟩ := ih (by omega)
      obtain ⟨l2, c2⟩ := cg_eFold_sum h hn y (eFold (fun i u t => sumRow x.length i u y t y.length) x (zeros x.length) k) l (x.getD k 0) (fun j => k + j) y.length (Nat.le_refl _)
      refine ⟨l2, (c2.trans (c.add (Cg.refl _))).right fun a => ?_⟩
      rw [eFold_powS a k y y.length (Nat.le_refl _), List.take_length, ev_take_succ a x k (by omega)]; grind
  have e : sumTimes x y = eFold (fun i u t => sumRow x.length i u y t y.length) x (zeros x.length) x.length := rfl
  rw [e]
  obtain ⟨l, c⟩ := key x.length (Nat.le_refl _)
  refine ⟨l, c.right fun a => by rw [List.take_length]⟩
end RK
end

section
set_option autoImplicit false
set_option linter.all false
namespace RK

/-! ### grounding -/
/-- a wheel's places, c taken off each -/
def wheelOff (n p j : Nat) (c : Int) (t : List Int) : List Int := nIter (fun k t => addAt t ((j + k * (n / p)) % n) (-c)) t p
def gStep (n p wide top : Nat) (j : Nat) (t : List Int) : List Int :=
  if top ≤ j % wide ∧ t.getD j 0 ≠ 0 then wheelOff n p j (t.getD j 0) t else t
def gRow (n : Nat) (po : Nat × Nat) (t : List Int) : List Int := nIter (gStep n po.1 (po.1 ^ po.2) (po.1 ^ po.2 - po.1 ^ po.2 / po.1)) t n
def gRest (n : Nat) (parts : List (Nat × Nat)) (s : List Int) : List Int := parts.foldl (fun r po => gRow n po r) s

theorem len_wheelOff (n p j : Nat) (c : Int) (t : List Int) : (wheelOff n p j c t).length = t.length := by
  have : ∀ k, (nIter (fun k t => addAt t ((j + k * (n / p)) % n) (-c)) t k).length = t.length := by
    intro k
    induction k with
    | zero => rfl
    | succ k ih => show (addAt _ _ _).length = _; rw [len_addAt, ih]
  exact this p
theorem len_gStep (n p wide top j : Nat) (t : List Int) : (gStep n p wide top j t).length = t.length := by
  unfold gStep
  split
  · exact len_wheelOff ..
  · rfl
theorem len_gRow (n : Nat) (po : Nat × Nat) (t : List Int) : (gRow n po t).length = t.length := by
  have : ∀ k, (nIter (gStep n po.1 (po.1 ^ po.2) (po.1 ^ po.2 - po.1 ^ po.2 / po.1)) t k).length = t.length := by
    intro k
    induction k with
    | zero => rfl
    | succ k ih => show (gStep ..).length = _; rw [len_gStep, ih]
  exact this n
theorem len_gRest (n : Nat) (parts : List (Nat × Nat)) (s : List Int) : (gRest n parts s).length = s.length := by
  unfold gRest
  induction parts generalizing s with
  | nil => rfl
  | cons po r ih => simp only [List.foldl_cons, ih, len_gRow]

/-- the wheel's polynomial: 1 at 0, m, 2 m .. (p of them) -/
def wheelSum (m p : Nat) (a : Int) : Int := nIter (fun k (s : Int) => s + a ^ (k * m)) 0 p

section
variable {n : Nat} {P : List Int} (h : Round n P) (hn : 0 < n)
include h hn
theorem cg_wheelOff (p j : Nat) (c : Int) (t : List Int) (ht : t.length = n) (hw : Dv P (wheelSum (n / p) p)) : Cg P (ev (wheelOff n p j c t)) (ev t) := by
  have key : ∀ k, (nIter (fun k t => addAt t ((j + k * (n / p)) % n) (-c)) t k).length = n ∧
      Cg P (ev (nIter (fun k t => addAt t ((j + k * (n / p)) % n) (-c)) t k)) (fun a => ev t a + (-c) * a ^ j * nIter (fun k (s : Int) => s + a ^ (k * (n / p))) 0 k) := by
    intro k
    induction k with
    | zero => exact ⟨ht, Cg.of_eq fun a => by simp [nIter]⟩
    | succ k ih =>
      obtain ⟨l, c1⟩ := ih
      refine ⟨by show (addAt _ _ _).length = n; rw [len_addAt, l], ?_⟩
      have h1 : Cg P (fun a => (-c) * a ^ ((j + k * (n / p)) % n)) (fun a => (-c) * a ^ (j + k * (n / p))) := (h.mod _).smul (.const _)
      refine ((c1.add h1).left fun a => ?_).right fun a => ?_
      · exact (ev_addAt a (-c) _ _ (by rw [l]; exact Nat.mod_lt _ hn)).symm
      · show _ = ev t a + (-c) * a ^ j * (nIter (fun k (s : Int) => s + a ^ (k * (n / p))) 0 k + a ^ (k * (n / p)))
        rw [Int.pow_add]; grind
  obtain ⟨_, c1⟩ := key p
  refine c1.trans ?_
  have h2 : Dv P (fun a => (-c) * a ^ j * wheelSum (n / p) p a) := hw.mul ((IsP.const (-c)).mul (IsP.pow j))
  exact h2.eq fun a => by simp only [wheelSum]; grind
theorem cg_gStep (p wide top j : Nat) (t : List Int) (ht : t.length = n) (hw : Dv P (wheelSum (n / p) p)) : Cg P (ev (gStep n p wide top j t)) (ev t) := by
  unfold gStep
  split
  · exact cg_wheelOff h hn p j _ t ht hw
  · exact Cg.refl _
theorem cg_gRow (po : Nat × Nat) (t : List Int) (ht : t.length = n) (hw : Dv P (wheelSum (n / po.1) po.1)) : Cg P (ev (gRow n po t)) (ev t) := by
  have : ∀ k, (nIter (gStep n po.1 (po.1 ^ po.2) (po.1 ^ po.2 - po.1 ^ po.2 / po.1)) t k).length = n ∧ Cg P (ev (nIter (gStep n po.1 (po.1 ^ po.2) (po.1 ^ po.2 - po.1 ^ po.2 / po.1)) t k)) (ev t) := by
    intro k
    induction k with
    | zero => exact ⟨ht, Cg.refl _⟩
    | succ k ih =>
      obtain ⟨l, c⟩ := ih
      exact ⟨by show (gStep ..).length = n; rw [len_gStep, l], (cg_gStep h hn _ _ _ k _ l hw).trans c⟩
  exact (this n).2
theorem cg_gRest (parts : List (Nat × Nat)) (s : List Int) (hs : s.length = n) (hw : ∀ po ∈ parts, Dv P (wheelSum (n / po.1) po.1)) : Cg P (ev (gRest n parts s)) (ev s) := by
  unfold gRest
  induction parts generalizing s with
  | nil => exact Cg.refl _
  | cons po r ih =>
    simp only [List.foldl_cons]
    refine (ih (gRow n po s) (by rw [len_gRow, hs]) fun q hq => hw q (List.mem_cons_of_mem _ hq)).trans ?_
    exact cg_gRow h hn po s hs (hw po List.mem_cons_self)
end

/-! ### grounding is linear: each place of what comes out is a fixed sum of the places of what goes in -/
def dotW (w : Nat → Int) : List Int → Int
  | [] => 0
  | x :: l => w 0 * x + dotW (fun i => w (i + 1)) l
theorem dotW_zero : ∀ l : List Int, dotW (fun _ => 0) l = 0
  | [] => rfl
  | x :: l => by simp only [dotW, dotW_zero l]; simp
theorem dotW_add (w v : Nat → Int) : ∀ l : List Int, dotW (fun i => w i + v i) l = dotW w l + dotW v l
  | [] => rfl
  | x :: l => by simp only [dotW, dotW_add (fun i => w (i + 1)) (fun i => v (i + 1)) l]; grind
theorem dotW_neg (w : Nat → Int) : ∀ l : List Int, dotW (fun i => - w i) l = - dotW w l
  | [] => rfl
  | x :: l => by simp only [dotW, dotW_neg (fun i => w (i + 1)) l]; grind
theorem dotW_at : ∀ (j : Nat) (l : List Int), dotW (fun i => if i = j then 1 else 0) l = l.getD j 0
  | j, [] => by simp [dotW]
  | 0, x :: l => by
    have e : (fun i => if i + 1 = 0 then (1 : Int) else 0) = fun _ => 0 := by funext i; simp
    simp only [dotW, e, dotW_zero]; simp
  | j + 1, x :: l => by
    have e : (fun i => if i + 1 = j + 1 then (1 : Int) else 0) = fun i => if i = j then 1 else 0 := by funext i; simp
    simp only [dotW, e, dotW_at j l]; simp
theorem dotW_congr {w v : Nat → Int} : ∀ {l : List Int}, (∀ i, i < l.length → w i = v i) → dotW w l = dotW v l
  | [], _ => rfl
  | x :: l, h => by
    simp only [dotW]
    rw [h 0 (by simp), dotW_congr (w := fun i => w (i + 1)) (v := fun i => v (i + 1)) (l := l) fun i hi => h (i + 1) (by simpa using hi)]
theorem dotW_same {w : Nat → Int} : ∀ {l m : List Int}, (∀ i, l.getD i 0 = m.getD i 0) → dotW w l = dotW w m
  | [], [], _ => rfl
  | [], y :: m, h => by
    have h0 : y = 0 := by simpa using (h 0).symm
    have ih := dotW_same (w := fun i => w (i + 1)) (l := []) (m := m) fun i => by simpa using h (i + 1)
    simp only [dotW, h0] at ih ⊢
    rw [← ih]; simp
  | x :: l, [], h => by
    have h0 : x = 0 := by simpa using h 0
    have ih := dotW_same (w := fun i => w (i + 1)) (l := l) (m := []) fun i => by simpa using h (i + 1)
    simp only [dotW, h0] at ih ⊢
    rw [ih]; simp
  | x :: l, y :: m, h => by
    have h0 : x = y := by simpa using h 0
    have ih := dotW_same (w := fun i => w (i + 1)) (l := l) (m := m) fun i => by simpa using h (i + 1)
    simp only [dotW, h0, ih]

def IsLin (n : Nat) (φ : List Int → Int) : Prop := ∃ w, ∀ x : List Int, x.length = n → φ x = dotW w x
theorem IsLin.zero (n : Nat) : IsLin n (fun _ => 0) := ⟨fun _ => 0, fun x _ => (dotW_zero x).symm⟩
theorem IsLin.at_ (n j : Nat) : IsLin n (fun x => x.getD j 0) := ⟨_, fun x _ => (dotW_at j x).symm⟩
theorem IsLin.add {n : Nat} {φ ψ : List Int → Int} (a : IsLin n φ) (b : IsLin n ψ) : IsLin n (fun x => φ x + ψ x) := by
  obtain ⟨w, hw⟩ := a
  obtain ⟨v, hv⟩ := b
  exact ⟨fun i => w i + v i, fun x hx => by rw [dotW_add, ← hw x hx, ← hv x hx]⟩
theorem IsLin.neg {n : Nat} {φ : List Int → Int} (a : IsLin n φ) : IsLin n (fun x => - φ x) := by
  obtain ⟨w, hw⟩ := a
  exact ⟨fun i => - w i, fun x hx => by rw [dotW_neg, ← hw x hx]⟩
theorem IsLin.congr {n : Nat} {φ ψ : List Int → Int} (a : IsLin n φ) (h : ∀ x : List Int, x.length = n → φ x = ψ x) : IsLin n ψ := by
  obtain ⟨w, hw⟩ := a
  exact ⟨w, fun x hx => by rw [← h x hx, hw x hx]⟩
/-- F keeps the length n, and each of its places is linear -/
def LinM (n : Nat) (F : List Int → List Int) : Prop := (∀ x : List Int, x.length = n → (F x).length = n) ∧ ∀ m, IsLin n (fun x => (F x).getD m 0)
theorem getD_addAt (v : Int) : ∀ (l : List Int) (k m : Nat), k < l.length → (addAt l k v).getD m 0 = l.getD m 0 + if m = k then v else 0
  | [], k, m, h => by simp at h
  | x :: l, 0, 0, _ => by simp [addAt]
  | x :: l, 0, m + 1, _ => by simp [addAt]
  | x :: l, k + 1, 0, _ => by simp [addAt]
  | x :: l, k + 1, m + 1, h => by
    have ih := getD_addAt v l k m (by simpa using h)
    simp only [addAt, List.getD_cons_succ, ih]; simp
theorem addAt_zero : ∀ (l : List Int) (k : Nat), addAt l k 0 = l
  | [], _ => rfl
  | x :: l, 0 => by simp [addAt]
  | x :: l, k + 1 => by simp [addAt, addAt_zero l k]
theorem wheelOff_zero (n p j : Nat) (t : List Int) : wheelOff n p j 0 t = t := by
  have : ∀ k, nIter (fun k t => addAt t ((j + k * (n / p)) % n) (-0)) t k = t := by
    intro k
    induction k with
    | zero => rfl
    | succ k ih =>
      show addAt _ _ _ = _
      rw [ih]
      exact addAt_zero t _
  exact this p
theorem gStep_lin (n p wide top j : Nat) (t : List Int) : gStep n p wide top j t = if top ≤ j % wide then wheelOff n p j (t.getD j 0) t else t := by
  unfold gStep
  by_cases h : top ≤ j % wide
  · by_cases hc : t.getD j 0 = 0
    · rw [if_neg (fun z => z.2 hc), if_pos h, hc, wheelOff_zero]
    · rw [if_pos ⟨h, hc⟩, if_pos h]
  · rw [if_neg (fun z => h z.1), if_neg h]
theorem LinM.wheelOff {n : Nat} {F : List Int → List Int} {φ : List Int → Int} (hn : 0 < n) (hF : LinM n F) (hφ : IsLin n φ) (p j : Nat) : LinM n (fun x => wheelOff n p j (φ x) (F x)) := by
  have key : ∀ k, LinM n (fun x => nIter (fun k t => addAt t ((j + k * (n / p)) % n) (-(φ x))) (F x) k) := by
    intro k
    induction k with
    | zero => exact hF
    | succ k ih =>
      refine ⟨fun x hx => by show (addAt _ _ _).length = n; rw [len_addAt]; exact ih.1 x hx, fun m => ?_⟩
      by_cases hm : m = (j + k * (n / p)) % n
      · refine ((ih.2 m).add hφ.neg).congr fun x hx => ?_
        show _ = (addAt _ _ _).getD m 0
        rw [getD_addAt _ _ _ _ (by rw [ih.1 x hx]; exact Nat.mod_lt _ hn), if_pos hm]
      · refine (ih.2 m).congr fun x hx => ?_
        show _ = (addAt _ _ _).getD m 0
        rw [getD_addAt _ _ _ _ (by rw [ih.1 x hx]; exact Nat.mod_lt _ hn), if_neg hm, Int.add_zero]
  exact key p
theorem LinM.gStep {n : Nat} {F : List Int → List Int} (hn : 0 < n) (hF : LinM n F) (p wide top j : Nat) : LinM n (fun x => gStep n p wide top j (F x)) := by
  by_cases h : top ≤ j % wide
  · have e : (fun x => RK.gStep n p wide top j (F x)) = fun x => RK.wheelOff n p j ((F x).getD j 0) (F x) := by funext x; rw [gStep_lin, if_pos h]
    rw [e]
    exact LinM.wheelOff hn hF (hF.2 j) p j
  · have e : (fun x => RK.gStep n p wide top j (F x)) = F := by funext x; rw [gStep_lin, if_neg h]
    rw [e]
    exact hF
theorem LinM.gRow {n : Nat} {F : List Int → List Int} (hn : 0 < n) (hF : LinM n F) (po : Nat × Nat) : LinM n (fun x => gRow n po (F x)) := by
  have : ∀ k, LinM n (fun x => nIter (RK.gStep n po.1 (po.1 ^ po.2) (po.1 ^ po.2 - po.1 ^ po.2 / po.1)) (F x) k) := by
    intro k
    induction k with
    | zero => exact hF
    | succ k ih => exact LinM.gStep hn ih _ _ _ k
  exact this n
theorem LinM.gRest {n : Nat} {F : List Int → List Int} (hn : 0 < n) (hF : LinM n F) (parts : List (Nat × Nat)) : LinM n (fun x => gRest n parts (F x)) := by
  unfold RK.gRest
  induction parts generalizing F with
  | nil => exact hF
  | cons po r ih => exact ih (LinM.gRow hn hF po)
theorem lin_gRest {n : Nat} (hn : 0 < n) (parts : List (Nat × Nat)) : LinM n (gRest n parts) := LinM.gRest hn ⟨fun _ h => h, fun m => IsLin.at_ n m⟩ parts

/-! ### polynomials that are worth the same everywhere are the same -/
theorem ev_zero_all : ∀ f : List Int, (∀ a : Int, 1 ≤ a → ev f a = 0) → ∀ i, f.getD i 0 = 0
  | [], _, i => by simp
  | c :: f, h, i => by
    have hc : c = 0 := by
      have h1 := h ((c.natAbs : Int) + 1) (by omega)
      simp only [ev] at h1
      have hd : ((c.natAbs : Int) + 1) ∣ c := ⟨- ev f ((c.natAbs : Int) + 1), by grind⟩
      by_cases hz : c = 0
      · exact hz
      · have := Int.natAbs_dvd_natAbs.mpr hd
        have := Nat.le_of_dvd (by omega) this
        omega
    have hf : ∀ a : Int, 1 ≤ a → ev f a = 0 := by
      intro a ha
      have h1 := h a ha
      simp only [ev, hc, Int.zero_add] at h1
      rcases Int.mul_eq_zero.mp h1 with h2 | h2
      · omega
      · exact h2
    cases i with
    | zero => simpa using hc
    | succ i => simpa using ev_zero_all f hf i
def subL (l m : List Int) : List Int := addL l (scaleL (-1) m)
theorem ev_subL (a : Int) (l m : List Int) : ev (subL l m) a = ev l a - ev m a := by
  unfold subL
  rw [ev_addL, ev_scaleL]; grind
theorem getD_addL : ∀ (l m : List Int) (i : Nat), (addL l m).getD i 0 = l.getD i 0 + m.getD i 0
  | [], m, i => by simp [addL]
  | x :: l, [], i => by simp [addL]
  | x :: l, y :: m, 0 => by simp [addL]
  | x :: l, y :: m, i + 1 => by simpa [addL] using getD_addL l m i
theorem getD_scaleL (c : Int) : ∀ (l : List Int) (i : Nat), (scaleL c l).getD i 0 = c * l.getD i 0
  | [], i => by simp [scaleL]
  | x :: l, 0 => by simp [scaleL]
  | x :: l, i + 1 => by simpa [scaleL] using getD_scaleL c l i
theorem same_of_ev {f g : List Int} (h : ∀ a, ev f a = ev g a) (i : Nat) : f.getD i 0 = g.getD i 0 := by
  have := ev_zero_all (subL f g) (fun a _ => by rw [ev_subL, h a]; omega) i
  unfold subL at this
  rw [getD_addL, getD_scaleL] at this
  omega
theorem dotW_addL (w : Nat → Int) : ∀ (l m : List Int), dotW w (addL l m) = dotW w l + dotW w m
  | [], m => by simp [addL, dotW]
  | x :: l, [] => by simp [addL, dotW]
  | x :: l, y :: m => by simp only [addL, dotW, dotW_addL (fun i => w (i + 1)) l m]; grind
theorem dotW_scaleL (w : Nat → Int) (c : Int) : ∀ (l : List Int), dotW w (scaleL c l) = c * dotW w l
  | [] => by simp [scaleL, dotW]
  | x :: l => by
    have ih := dotW_scaleL (fun i => w (i + 1)) c l
    unfold scaleL at ih ⊢
    simp only [List.map_cons, dotW, ih]; grind
/-- what makes nothing of each x^i P makes nothing of its multiples -/
theorem dotW_mulL (P : List Int) : ∀ (q : List Int) (w : Nat → Int), (∀ i, dotW (fun k => w (i + k)) P = 0) → dotW w (mulL q P) = 0
  | [], w, _ => rfl
  | c :: q, w, h => by
    have h0 : dotW w P = 0 := by simpa using h 0
    have ih := dotW_mulL P q (fun i => w (i + 1)) fun i => by
      have := h (i + 1)
      have e : (fun k => w (i + 1 + k)) = fun k => w (i + k + 1) := by funext k; congr 1; omega
      rw [e] at this
      exact this
    simp only [mulL, dotW_addL, dotW_scaleL, dotW, h0, ih]; simp
theorem dotW_addAt (v : Int) : ∀ (l : List Int) (k : Nat) (w : Nat → Int), k < l.length → dotW w (addAt l k v) = dotW w l + w k * v
  | [], k, w, h => by simp at h
  | x :: l, 0, w, _ => by simp only [addAt, dotW]; grind
  | x :: l, k + 1, w, h => by
    have ih := dotW_addAt v l k (fun i => w (i + 1)) (by simpa using h)
    simp only [addAt, dotW, ih]; grind
theorem dotW_zeros (w : Nat → Int) : ∀ n, dotW w (zeros n) = 0 := by
  intro n
  induction n generalizing w with
  | zero => rfl
  | succ n ih =>
    show w 0 * 0 + dotW _ (zeros n) = 0
    rw [ih]; simp
theorem len_layL (n : Nat) (f : List Int) : (layL n f).length = n := by
  unfold layL
  rw [eFold_len _ _ (fun i x t => len_addAt x t (i % n)), len_zeros]
theorem dotW_take_succ (w : Nat → Int) : ∀ (l : List Int) (k : Nat), k < l.length → dotW w (l.take (k + 1)) = dotW w (l.take k) + w k * l.getD k 0
  | [], k, h => by simp at h
  | x :: l, 0, _ => by simp [dotW]
  | x :: l, k + 1, h => by
    have ih := dotW_take_succ (fun i => w (i + 1)) l k (by simpa using h)
    simp only [List.take_succ_cons, dotW, ih, List.getD_cons_succ]; omega
theorem dotW_layL {n : Nat} (hn : 0 < n) (w : Nat → Int) (f : List Int) : dotW w (layL n f) = dotW (fun k => w (k % n)) f := by
  have key : ∀ k, k ≤ f.length → dotW w (eFold (fun k v t => addAt t (k % n) v) f (zeros n) k) = dotW (fun k => w (k % n)) (f.take k) := by
    intro k
    induction k with
    | zero => intro _; simp [eFold, dotW_zeros, dotW]
    | succ k ih =>
      intro hk
      show dotW w (addAt (eFold _ f _ k) (k % n) (f.getD k 0)) = _
      rw [dotW_addAt _ _ _ _ (by rw [eFold_len _ _ (fun i x t => len_addAt x t (i % n)), len_zeros]; exact Nat.mod_lt _ hn), ih (by omega), dotW_take_succ _ f k (by omega)]
  have := key f.length (Nat.le_refl _)
  rw [List.take_length] at this
  exact this
theorem dotW_shift (w : Nat → Int) (P : List Int) : ∀ i, dotW w (zeros i ++ P) = dotW (fun k => w (i + k)) P := by
  intro i
  induction i generalizing w with
  | zero => simp [zeros]
  | succ i ih =>
    show w 0 * 0 + dotW (fun k => w (k + 1)) (zeros i ++ P) = _
    rw [ih]
    have e : (fun k => w (i + k + 1)) = fun k => w (i + 1 + k) := by funext k; congr 1; omega
    rw [e]; simp
theorem getD_zeros : ∀ (n m : Nat), (zeros n).getD m 0 = 0
  | 0, m => by simp [zeros]
  | n + 1, 0 => rfl
  | n + 1, m + 1 => getD_zeros n m
/-- the place m of what is left on the ground, of lists that are the same number -/
theorem ground_same {n : Nat} (hn : 0 < n) {parts : List (Nat × Nat)} {P : List Int} (hk : ∀ i, i < n → gRest n parts (layL n (zeros i ++ P)) = zeros n)
    {s t : List Int} (hs : s.length = n) (ht : t.length = n) (h : Cg P (ev s) (ev t)) : gRest n parts s = gRest n parts t := by
  obtain ⟨hl, hlin⟩ := lin_gRest hn parts
  have hm : ∀ m, (gRest n parts s).getD m 0 = (gRest n parts t).getD m 0 := by
    intro m
    obtain ⟨w, hw⟩ := hlin m
    obtain ⟨q, hq⟩ := h
    have hD : ∀ i, (subL s t).getD i 0 = (mulL q P).getD i 0 := same_of_ev fun a => by rw [ev_subL, ev_mulL]; exact hq a
    have per : ∀ i, dotW (fun k => w ((i + k) % n)) P = 0 := by
      have h1 : ∀ i, i < n → dotW (fun k => w ((i + k) % n)) P = 0 := by
        intro i hi
        have e := hw (layL n (zeros i ++ P)) (len_layL _ _)
        simp only [hk i hi] at e
        rw [dotW_layL hn, dotW_shift (fun k => w (k % n))] at e
        rw [← e]
        exact getD_zeros n m
      intro i
      have e : (fun k => w ((i + k) % n)) = fun k => w ((i % n + k) % n) := by funext k; congr 1; simp
      rw [e]
      exact h1 (i % n) (Nat.mod_lt _ hn)
    have z : dotW (fun k => w (k % n)) (subL s t) = 0 := by
      rw [dotW_same hD]
      exact dotW_mulL P q _ per
    unfold subL at z
    rw [dotW_addL, dotW_scaleL] at z
    have e1 : dotW (fun k => w (k % n)) s = dotW w s := dotW_congr fun i hi => by rw [Nat.mod_eq_of_lt (by omega)]
    have e2 : dotW (fun k => w (k % n)) t = dotW w t := dotW_congr fun i hi => by rw [Nat.mod_eq_of_lt (by omega)]
    rw [e1, e2, ← hw s hs, ← hw t ht] at z
    dsimp only at z
    omega
  refine List.ext_getElem (by rw [hl s hs, hl t ht]) fun i h1 h2 => ?_
  have := hm i
  rw [List.getD_eq_getElem?_getD, List.getD_eq_getElem?_getD, List.getElem?_eq_getElem h1, List.getElem?_eq_getElem h2] at this
  simpa using this
end RK
end

section
set_option autoImplicit false
set_option linter.all false
set_option maxRecDepth 100000
namespace RK

/-! ### the sizes of a list's numbers together -/
def l1 : List Int → Nat
  | [] => 0
  | c :: f => c.natAbs + l1 f
theorem l1_addL : ∀ l m, l1 (addL l m) ≤ l1 l + l1 m
  | [], m => by simp [addL, l1]
  | x :: l, [] => by simp [addL, l1]
  | x :: l, y :: m => by
    have := l1_addL l m
    simp only [addL, l1]; omega
theorem l1_scaleL (c : Int) : ∀ l, l1 (scaleL c l) = c.natAbs * l1 l
  | [] => by simp [scaleL, l1]
  | x :: l => by
    have ih := l1_scaleL c l
    unfold scaleL at ih ⊢
    simp only [List.map_cons, l1, ih, Int.natAbs_mul, Nat.mul_add]
theorem l1_mulL : ∀ f g, l1 (mulL f g) ≤ l1 f * l1 g
  | [], g => by simp [mulL, l1]
  | c :: f, g => by
    have h1 := l1_addL (scaleL c g) (0 :: mulL f g)
    have ih := l1_mulL f g
    rw [l1_scaleL] at h1
    simp only [mulL, l1, Nat.add_mul] at h1 ⊢
    simp at h1
    omega
theorem l1_addAt (v : Int) : ∀ (l : List Int) (k : Nat), l1 (addAt l k v) ≤ l1 l + v.natAbs
  | [], k => by simp [addAt, l1]
  | x :: l, 0 => by simp only [addAt, l1]; omega
  | x :: l, k + 1 => by
    have := l1_addAt v l k
    simp only [addAt, l1]; omega
theorem l1_zeros : ∀ n, l1 (zeros n) = 0
  | 0 => rfl
  | n + 1 => by
    show (0 : Int).natAbs + l1 (zeros n) = 0
    rw [l1_zeros n]; rfl
theorem l1_take_succ : ∀ (l : List Int) (k : Nat), k < l.length → l1 (l.take (k + 1)) = l1 (l.take k) + (l.getD k 0).natAbs
  | [], k, h => by simp at h
  | x :: l, 0, _ => by simp [l1]
  | x :: l, k + 1, h => by
    have ih := l1_take_succ l k (by simpa using h)
    simp only [List.take_succ_cons, l1, ih, List.getD_cons_succ]; omega
theorem l1_layL (n : Nat) (f : List Int) : l1 (layL n f) ≤ l1 f := by
  have key : ∀ k, k ≤ f.length → l1 (eFold (fun k v t => addAt t (k % n) v) f (zeros n) k) ≤ l1 (f.take k) := by
    intro k
    induction k with
    | zero => intro _; simp [eFold, l1_zeros]
    | succ k ih =>
      intro hk
      have h1 := l1_addAt (f.getD k 0) (eFold (fun k v t => addAt t (k % n) v) f (zeros n) k) (k % n)
      have h2 := ih (by omega)
      show l1 (addAt (eFold _ f _ k) (k % n) (f.getD k 0)) ≤ _
      rw [l1_take_succ f k (by omega)]
      omega
  have := key f.length (Nat.le_refl _)
  rw [List.take_length] at this
  exact this
theorem l1_append : ∀ l m, l1 (l ++ m) = l1 l + l1 m
  | [], m => by simp [l1]
  | x :: l, m => by simp only [List.cons_append, l1, l1_append l m]; omega

/-! ### a value at one great number tells of the polynomial -/
theorem ev_bound (A : Nat) (hA : 1 ≤ A) : ∀ (l : List Int) (n : Nat), l.length ≤ n + 1 → (ev l A).natAbs ≤ l1 l * A ^ n
  | [], n, _ => by simp [ev, l1]
  | c :: l, 0, h => by
    have : l = [] := by
      cases l with
      | nil => rfl
      | cons y r => simp at h
    subst this
    simp [ev, l1]
  | c :: l, n + 1, h => by
    have ih := ev_bound A hA l n (by simp only [List.length_cons] at h; omega)
    simp only [ev, l1]
    have h1 : (c + (A : Int) * ev l A).natAbs ≤ c.natAbs + A * (ev l A).natAbs := by
      have := Int.natAbs_add_le c ((A : Int) * ev l A)
      rw [Int.natAbs_mul, Int.natAbs_natCast] at this
      exact this
    have h2 : A * (ev l A).natAbs ≤ A * (l1 l * A ^ n) := Nat.mul_le_mul_left A ih
    have h3 : A * (l1 l * A ^ n) = l1 l * A ^ (n + 1) := by rw [Nat.pow_succ]; grind
    have h4 : c.natAbs ≤ c.natAbs * A ^ (n + 1) := Nat.le_mul_of_pos_right _ (Nat.pow_pos (by omega))
    rw [Nat.add_mul]
    omega
theorem all_zero (A : Nat) : ∀ (l : List Int), l1 l < A → ev l A = 0 → ∀ a, ev l a = 0
  | [], _, _, a => rfl
  | c :: l, h, h0, a => by
    simp only [ev] at h0
    simp only [l1] at h
    have hc : c = 0 := by
      by_cases hz : c = 0
      · exact hz
      · have hd : (A : Int) ∣ c := ⟨- ev l A, by grind⟩
        have := Int.natAbs_dvd_natAbs.mpr hd
        rw [Int.natAbs_natCast] at this
        have := Nat.le_of_dvd (by omega) this
        omega
    subst hc
    have h1 : ev l A = 0 := by
      rw [Int.zero_add] at h0
      rcases Int.mul_eq_zero.mp h0 with z | z
      · omega
      · exact z
    simp only [ev, all_zero A l (by omega) h1 a]; simp
def lessOne (n : Nat) : List Int := -1 :: (zeros (n - 1) ++ [1])
theorem ev_lessOne (n : Nat) (hn : 0 < n) (a : Int) : ev (lessOne n) a = a ^ n - 1 := by
  unfold lessOne
  simp only [ev, ev_append, ev_zeros, len_zeros]
  obtain ⟨m, rfl⟩ : ∃ m, n = m + 1 := ⟨n - 1, by omega⟩
  simp only [Nat.add_sub_cancel, Int.pow_succ]; grind
theorem ev_zero_all2 : ∀ f : List Int, (∀ a : Int, 2 ≤ a → ev f a = 0) → ∀ a, ev f a = 0
  | [], _, a => rfl
  | c :: f, h, a => by
    have hc : c = 0 := by
      have h1 := h ((c.natAbs : Int) + 2) (by omega)
      simp only [ev] at h1
      have hd : ((c.natAbs : Int) + 2) ∣ c := ⟨- ev f ((c.natAbs : Int) + 2), by grind⟩
      by_cases hz : c = 0
      · exact hz
      · have := Int.natAbs_dvd_natAbs.mpr hd
        have := Nat.le_of_dvd (by omega) this
        omega
    have hf : ∀ a : Int, 2 ≤ a → ev f a = 0 := by
      intro a ha
      have h1 := h a ha
      simp only [ev, hc, Int.zero_add] at h1
      rcases Int.mul_eq_zero.mp h1 with h2 | h2
      · omega
      · exact h2
    simp only [ev, hc, ev_zero_all2 f hf a]; simp
/-- THE LEVER: C times P is x^n - 1; a polynomial of small numbers whose value at the great A is a multiple of P's is a multiple of P -/
theorem kron {n : Nat} (hn : 0 < n) {P C : List Int} (hC : ∀ a, ev C a * ev P a = a ^ n - 1) (L : List Int) (A : Nat) (hA : 2 * (l1 L * l1 C) + 2 ≤ A) (hd : ev P A ∣ ev L A) : Dv P (ev L) := by
  have hR : Round n (lessOne n) := Dv.self.eq fun a => ev_lessOne n hn a
  obtain ⟨hl, q, hq⟩ := cg_layL hR hn (mulL L C)
  have hb : l1 (layL n (mulL L C)) ≤ l1 L * l1 C := Nat.le_trans (l1_layL _ _) (l1_mulL _ _)
  generalize hE : layL n (mulL L C) = E at hl hq hb
  generalize hγ : l1 L * l1 C = γ at hA hb
  have hz : ev E A = 0 := by
    obtain ⟨m, hm⟩ := hd
    have h1 := hq A
    simp only [ev_mulL, ev_lessOne n hn] at h1
    have hdiv : ((A : Int) ^ n - 1) ∣ ev E A := ⟨m + ev q A, by
      have h2 := hC A
      have h3 : ev L A * ev C A = m * ((A : Int) ^ n - 1) := by rw [hm, ← h2]; grind
      grind⟩
    have hbd := ev_bound A (by omega) E (n - 1) (by omega)
    by_cases h0 : ev E A = 0
    · exact h0
    · have hp : ((A : Int) ^ n - 1).natAbs ≤ (ev E A).natAbs := Nat.le_of_dvd (by omega) (Int.natAbs_dvd_natAbs.mpr hdiv)
      exfalso
      obtain ⟨k, rfl⟩ : ∃ k, n = k + 1 := ⟨n - 1, by omega⟩
      simp only [Nat.add_sub_cancel] at hbd
      have h5 : 1 ≤ A ^ k := Nat.pow_pos (by omega)
      have h6 : ((A : Int) ^ (k + 1) - 1).natAbs = A ^ (k + 1) - 1 := by
        have h8 : 1 ≤ A ^ (k + 1) := Nat.pow_pos (by omega)
        have : ((A : Int) ^ (k + 1)) = ((A ^ (k + 1) : Nat) : Int) := by simp
        rw [this]
        omega
      rw [h6] at hp
      have h7 : l1 E * A ^ k ≤ γ * A ^ k := Nat.mul_le_mul_right _ hb
      have h9 : (2 * γ + 2) * A ^ k ≤ A * A ^ k := Nat.mul_le_mul_right _ hA
      have h10 : A ^ (k + 1) = A * A ^ k := by rw [Nat.pow_succ, Nat.mul_comm]
      have h11 : (2 * γ + 2) * A ^ k = 2 * (γ * A ^ k) + 2 * A ^ k := by grind
      omega
  have hall := all_zero A E (by omega) hz
  refine ⟨scaleL (-1) q, fun a => ?_⟩
  have hpoly : ∀ a, ev (subL L (mulL (scaleL (-1) q) P)) a = 0 := by
    refine ev_zero_all2 _ fun a ha => ?_
    rw [ev_subL, ev_mulL, ev_scaleL]
    have h1 := hq a
    simp only [ev_mulL, ev_lessOne n hn, hall] at h1
    have h2 := hC a
    have h3 : ev C a * (ev L a - -1 * ev q a * ev P a) = 0 := by grind
    rcases Int.mul_eq_zero.mp h3 with z | z
    · exfalso
      rw [z, Int.zero_mul] at h2
      have h4 : (1 : Int) < a ^ n := by
        obtain ⟨b, rfl⟩ : ∃ b : Nat, a = (b : Int) := ⟨a.toNat, by omega⟩
        have h5 : 1 < b ^ n := Nat.one_lt_pow (by omega) (by omega)
        have : ((b : Int) ^ n) = ((b ^ n : Nat) : Int) := by simp
        rw [this]
        omega
      omega
    · exact z
  have := hpoly a
  rw [ev_subL, ev_mulL] at this
  omega

/-! ### a polynomial at a power -/
def powL (k : Nat) : List Int → List Int
  | [] => []
  | c :: f => addL [c] (zeros k ++ powL k f)
theorem ev_powL (k : Nat) (a : Int) : ∀ f, ev (powL k f) a = ev f (a ^ k)
  | [] => rfl
  | c :: f => by simp only [powL, ev_addL, ev_append, ev_zeros, len_zeros, ev, ev_powL k a f]; simp
theorem l1_powL (k : Nat) : ∀ f, l1 (powL k f) ≤ l1 f
  | [] => Nat.le_refl _
  | c :: f => by
    have h1 := l1_addL [c] (zeros k ++ powL k f)
    have h2 := l1_powL k f
    rw [l1_append, l1_zeros] at h1
    simp only [l1] at h1
    simp only [powL, l1]; omega

/-! ### units, norms -/
def UN (n : Nat) : List Nat := (List.range n).filter fun k => Nat.gcd k n == 1
/-- the product of all that the units ks lead to -/
def prodK (ks : List Nat) (f : List Int) (a : Int) : Int := ks.foldl (fun t k => t * ev f (a ^ k)) 1
def prodU (n : Nat) (f : List Int) (a : Int) : Int := prodK (UN n) f a
theorem foldl_mul_out {α : Type} (g : α → Int) : ∀ (ks : List α) (c : Int), ks.foldl (fun t k => t * g k) c = c * ks.foldl (fun t k => t * g k) 1
  | [], c => by simp
  | k :: ks, c => by
    simp only [List.foldl_cons]
    rw [foldl_mul_out g ks (c * g k), foldl_mul_out g ks (1 * g k)]; grind
theorem prodK_cons (k : Nat) (ks : List Nat) (f : List Int) (a : Int) : prodK (k :: ks) f a = ev f (a ^ k) * prodK ks f a := by
  unfold prodK
  rw [List.foldl_cons, foldl_mul_out]; simp
theorem prodK_mul (ks : List Nat) (f g h : List Int) (e : ∀ a, ev h a = ev f a * ev g a) (a : Int) : prodK ks h a = prodK ks f a * prodK ks g a := by
  induction ks with
  | nil => simp [prodK]
  | cons k ks ih => rw [prodK_cons, prodK_cons, prodK_cons, ih, e]; grind
theorem isP_prodK (ks : List Nat) (f : List Int) : IsP (prodK ks f) := by
  induction ks with
  | nil => exact ⟨[1], fun a => by simp [prodK, ev]⟩
  | cons k ks ih =>
    obtain ⟨q, hq⟩ := ((IsP.of f).comp k).mul ih
    exact ⟨q, fun a => by rw [prodK_cons, ← hq a]⟩
theorem prodK_list (f : List Int) : ∀ ks : List Nat, ∃ L : List Int, (∀ a, ev L a = prodK ks f a) ∧ l1 L ≤ l1 f ^ ks.length
  | [] => ⟨[1], fun a => by simp [prodK, ev], by simp [l1]⟩
  | k :: ks => by
    obtain ⟨L, h1, h2⟩ := prodK_list f ks
    refine ⟨mulL (powL k f) L, fun a => by rw [ev_mulL, ev_powL, prodK_cons, h1], ?_⟩
    have h3 := l1_mulL (powL k f) L
    have h4 := Nat.mul_le_mul (l1_powL k f) h2
    rw [List.length_cons, Nat.pow_succ, Nat.mul_comm]
    omega

/-- a value by M -/
def evM (M : Int) (x : Int) : List Int → Int
  | [] => 0
  | c :: f => (c + x * evM M x f) % M
def prodM (M : Int) (a : Int) (f : List Int) (ks : List Nat) : Int := ks.foldl (fun t k => t * evM M (a ^ k % M) f % M) 1
theorem dvd_emod (M x : Int) : M ∣ x % M - x := ⟨-(x / M), by
  have := Int.mul_ediv_add_emod x M
  grind⟩
theorem dvd_evM (M x y : Int) (h : M ∣ x - y) : ∀ f, M ∣ evM M x f - ev f y
  | [] => by simp [evM, ev]
  | c :: f => by
    obtain ⟨u, hu⟩ := h
    obtain ⟨v, hv⟩ := dvd_evM M x y ⟨u, hu⟩ f
    obtain ⟨w, hw⟩ := dvd_emod M (c + x * evM M x f)
    simp only [evM, ev]
    refine ⟨w + evM M x f * u + y * v, ?_⟩
    have e : (c + x * evM M x f) % M - (c + y * ev f y) = ((c + x * evM M x f) % M - (c + x * evM M x f)) + evM M x f * (x - y) + y * (evM M x f - ev f y) := by grind
    rw [e, hu, hv, hw]; grind
theorem dvd_prodM (M a : Int) (f : List Int) (ks : List Nat) : M ∣ prodM M a f ks - prodK ks f a := by
  have key : ∀ (ks : List Nat) (s t : Int), M ∣ s - t → M ∣ ks.foldl (fun t k => t * evM M (a ^ k % M) f % M) s - ks.foldl (fun t k => t * ev f (a ^ k)) t := by
    intro ks
    induction ks with
    | nil => exact fun s t h => h
    | cons k ks ih =>
      intro s t h
      refine ih _ _ ?_
      obtain ⟨u, hu⟩ := h
      obtain ⟨v, hv⟩ := dvd_evM M (a ^ k % M) (a ^ k) (dvd_emod M (a ^ k)) f
      obtain ⟨w, hw⟩ := dvd_emod M (s * evM M (a ^ k % M) f)
      refine ⟨w + evM M (a ^ k % M) f * u + t * v, ?_⟩
      have e : s * evM M (a ^ k % M) f % M - t * ev f (a ^ k) = (s * evM M (a ^ k % M) f % M - s * evM M (a ^ k % M) f) + evM M (a ^ k % M) f * (s - t) + t * (evM M (a ^ k % M) f - ev f (a ^ k)) := by grind
      rw [e, hu, hv, hw]; grind
  exact key ks 1 1 ⟨0, by simp⟩
/-- the great number -/
def A0 : Nat := 2 ^ 200
/-- a norm, checked by its value at the great number -/
def normCk (P C : List Int) (ks : List Nat) (f : List Int) (c : Int) : Bool :=
  decide (2 * ((l1 f ^ ks.length + c.natAbs) * l1 C) + 2 ≤ A0) && decide ((prodM (ev P A0) A0 f ks - c) % ev P A0 = 0)
theorem normCk_sound {n : Nat} (hn : 0 < n) {P C : List Int} (hC : ∀ a, ev C a * ev P a = a ^ n - 1) {ks : List Nat} {f : List Int} {c : Int} (h : normCk P C ks f c = true) : Cg P (prodK ks f) (fun _ => c) := by
  unfold normCk at h
  rw [Bool.and_eq_true] at h
  have h1 := of_decide_eq_true h.1
  have h2 := of_decide_eq_true h.2
  obtain ⟨L, hL, hb⟩ := prodK_list f ks
  have hk := kron hn hC (subL L [c]) A0 ?_ ?_
  · exact hk.eq fun a => by rw [ev_subL, hL]; simp [ev]
  · have h3 : l1 (subL L [c]) ≤ l1 L + c.natAbs := by
      have := l1_addL L (scaleL (-1) [c])
      rw [l1_scaleL] at this
      unfold subL
      simpa [l1] using this
    have h4 : l1 (subL L [c]) * l1 C ≤ (l1 f ^ ks.length + c.natAbs) * l1 C := Nat.mul_le_mul_right _ (by omega)
    omega
  · rw [ev_subL, hL]
    obtain ⟨u, hu⟩ := dvd_prodM (ev P A0) A0 f ks
    obtain ⟨v, hv⟩ := Int.dvd_of_emod_eq_zero h2
    refine ⟨v - u, ?_⟩
    have e : prodK ks f A0 - ev [c] A0 = (prodM (ev P A0) A0 f ks - c) - (prodM (ev P A0) A0 f ks - prodK ks f A0) := by simp [ev]; grind
    rw [e, hu, hv]; grind

/-! ### the product of all x^k - y, as a polynomial in y -/
def symV (a : Int) : List Nat → List Int
  | [] => [1]
  | k :: ks => addL (scaleL (a ^ k) (symV a ks)) (0 :: scaleL (-1) (symV a ks))
theorem ev_symV (a y : Int) : ∀ ks, ev (symV a ks) y = prodK ks [-y, 1] a
  | [] => by simp [symV, ev, prodK]
  | k :: ks => by
    simp only [symV, ev_addL, ev_scaleL, ev, ev_symV a y ks, prodK_cons]; grind
def addLL : List (List Int) → List (List Int) → List (List Int)
  | [], m => m
  | l, [] => l
  | x :: l, y :: m => addL x y :: addLL l m
def symL : List Nat → List (List Int)
  | [] => [[1]]
  | k :: ks => addLL ((symL ks).map (zeros k ++ ·)) ([] :: (symL ks).map (scaleL (-1)))
theorem ev_addLL (a : Int) : ∀ l m, (addLL l m).map (ev · a) = addL (l.map (ev · a)) (m.map (ev · a))
  | [], m => by simp [addLL, addL]
  | x :: l, [] => by simp [addLL, addL]
  | x :: l, y :: m => by simp only [addLL, List.map_cons, addL, ev_addL, ev_addLL a l m]
theorem ev_symL (a : Int) : ∀ ks, (symL ks).map (ev · a) = symV a ks
  | [] => by simp [symL, symV, ev]
  | k :: ks => by
    have h1 : ((symL ks).map (zeros k ++ ·)).map (ev · a) = scaleL (a ^ k) (symV a ks) := by
      rw [← ev_symL a ks, scaleL, List.map_map, List.map_map]
      refine List.map_congr_left fun x _ => ?_
      simp [ev_append, ev_zeros, len_zeros]
    have h2 : ((symL ks).map (scaleL (-1))).map (ev · a) = scaleL (-1) (symV a ks) := by
      rw [← ev_symL a ks, scaleL, List.map_map, List.map_map]
      refine List.map_congr_left fun x _ => ?_
      simp [ev_scaleL]
    simp only [symL, symV, ev_addLL, List.map_cons, h1, h2]; rfl
theorem mem_addLL {x : List Int} {B C : Nat} : ∀ {l m : List (List Int)}, (∀ y ∈ l, l1 y ≤ B) → (∀ y ∈ m, l1 y ≤ C) → x ∈ addLL l m → l1 x ≤ B + C
  | [], m, _, hm, h => by
    have := hm x (by simpa [addLL] using h)
    omega
  | y :: l, [], hl, _, h => by
    have := hl x (by simpa [addLL] using h)
    omega
  | y :: l, z :: m, hl, hm, h => by
    simp only [addLL, List.mem_cons] at h
    rcases h with h | h
    · subst h
      have h1 := l1_addL y z
      have h2 := hl y (by simp)
      have h3 := hm z (by simp)
      omega
    · exact mem_addLL (fun w hw => hl w (by simp [hw])) (fun w hw => hm w (by simp [hw])) h
theorem l1_symL : ∀ (ks : List Nat), ∀ x ∈ symL ks, l1 x ≤ 2 ^ ks.length
  | [], x, h => by
    simp only [symL, List.mem_singleton] at h
    subst h
    simp [l1]
  | k :: ks, x, h => by
    have ih := l1_symL ks
    have := mem_addLL (B := 2 ^ ks.length) (C := 2 ^ ks.length) ?_ ?_ h
    · rw [List.length_cons, Nat.pow_succ]; omega
    · intro y hy
      obtain ⟨z, hz, rfl⟩ := List.mem_map.mp hy
      rw [l1_append, l1_zeros]
      have := ih z hz
      omega
    · intro y hy
      rcases List.mem_cons.mp hy with hy | hy
      · subst hy; simp [l1]
      · obtain ⟨z, hz, rfl⟩ := List.mem_map.mp hy
        have := ih z hz
        rw [l1_scaleL]
        simp
        omega
theorem cg_each {P : List Int} (y : Int) : ∀ (LL : List (List Int)) (cs : List Int), LL.length = cs.length → (∀ j, j < LL.length → Cg P (ev (LL.getD j [])) (fun _ => cs.getD j 0)) → Cg P (fun a => ev (LL.map (ev · a)) y) (fun _ => ev cs y)
  | [], [], _, _ => Cg.of_eq fun a => rfl
  | [], _ :: _, h, _ => by simp at h
  | _ :: _, [], h, _ => by simp at h
  | x :: l, c :: cs, h, hj => by
    have h0 : Cg P (ev x) (fun _ => c) := by simpa using hj 0 (by simp)
    have ih := cg_each y l cs (by simpa using h) fun j hl => by simpa using hj (j + 1) (by simpa using hl)
    refine ((h0.add (ih.smul (.const y))).left fun a => ?_).right fun a => ?_
    · simp only [List.map_cons, ev]
    · simp only [ev]
def zipOk (M : Int) : List Int → List Int → Bool
  | [], [] => true
  | x :: l, y :: m => decide ((x - y) % M = 0) && zipOk M l m
  | _, _ => false
theorem zipOk_sound {M : Int} : ∀ {l m : List Int}, zipOk M l m = true → l.length = m.length ∧ ∀ j, j < l.length → M ∣ l.getD j 0 - m.getD j 0
  | [], [], _ => ⟨rfl, fun j h => by simp at h⟩
  | [], _ :: _, h => by simp [zipOk] at h
  | _ :: _, [], h => by simp [zipOk] at h
  | x :: l, y :: m, h => by
    simp only [zipOk, Bool.and_eq_true] at h
    obtain ⟨h1, h2⟩ := zipOk_sound h.2
    refine ⟨by simp [h1], fun j hj => ?_⟩
    cases j with
    | zero => simpa using Int.dvd_of_emod_eq_zero (of_decide_eq_true h.1)
    | succ j => simpa using h2 j (by simpa using hj)
def symCk (P C : List Int) (ks : List Nat) (cs : List Int) : Bool :=
  (cs.all fun c => decide (2 * ((2 ^ ks.length + c.natAbs) * l1 C) + 2 ≤ A0)) && zipOk (ev P A0) (symV A0 ks) cs
theorem symCk_sound {n : Nat} (hn : 0 < n) {P C : List Int} (hC : ∀ a, ev C a * ev P a = a ^ n - 1) {ks : List Nat} {cs : List Int} (h : symCk P C ks cs = true) (y : Int) : Cg P (prodK ks [-y, 1]) (fun _ => ev cs y) := by
  unfold symCk at h
  rw [Bool.and_eq_true] at h
  obtain ⟨hl, hj⟩ := zipOk_sound h.2
  have hlen : (symL ks).length = cs.length := by rw [← hl, ← ev_symL A0 ks, List.length_map]
  refine (cg_each (P := P) y (symL ks) cs hlen fun j hjl => ?_).left fun a => by rw [ev_symL, ev_symV]
  have hjc : j < cs.length := by omega
  have hmem : (symL ks).getD j [] ∈ symL ks := by
    rw [List.getD_eq_getElem?_getD, List.getElem?_eq_getElem hjl]
    exact List.getElem_mem hjl
  have hcm : cs.getD j 0 ∈ cs := by
    rw [List.getD_eq_getElem?_getD, List.getElem?_eq_getElem hjc]
    exact List.getElem_mem hjc
  have hb := of_decide_eq_true (List.all_eq_true.mp h.1 _ hcm)
  generalize hc : cs.getD j 0 = c at hb hcm
  generalize hL : (symL ks).getD j [] = L at hmem
  have hlb := l1_symL ks L hmem
  have hk := kron hn hC (subL L [c]) A0 ?_ ?_
  · exact hk.eq fun a => by rw [ev_subL]; simp [ev]
  · have h3 : l1 (subL L [c]) ≤ l1 L + c.natAbs := by
      have := l1_addL L (scaleL (-1) [c])
      rw [l1_scaleL] at this
      unfold subL
      simpa [l1] using this
    have h4 : l1 (subL L [c]) * l1 C ≤ (2 ^ ks.length + c.natAbs) * l1 C := Nat.mul_le_mul_right _ (by omega)
    omega
  · have h5 := hj j (by rw [← ev_symL A0 ks, List.length_map]; exact hjl)
    rw [hc, ← ev_symL A0 ks] at h5
    have h6 : ((symL ks).map (ev · A0)).getD j 0 = ev L A0 := by
      rw [List.getD_eq_getElem?_getD, List.getElem?_map, List.getElem?_eq_getElem hjl]
      rw [List.getD_eq_getElem?_getD, List.getElem?_eq_getElem hjl] at hL
      simp only [Option.map_some, Option.getD_some] at hL ⊢
      rw [hL]
    rw [h6] at h5
    rw [ev_subL]
    simpa [ev] using h5
end RK
end

section
set_option autoImplicit false
set_option linter.all false
set_option maxRecDepth 100000
namespace RK

/-! ### the tables -/
def PHIS : List (List Int) := [
  [],
  [-1, 1],
  [1, 1],
  [1, 1, 1],
  [1, 0, 1],
  [1, 1, 1, 1, 1],
  [1, -1, 1],
  [1, 1, 1, 1, 1, 1, 1],
  [1, 0, 0, 0, 1],
  [1, 0, 0, 1, 0, 0, 1],
  [1, -1, 1, -1, 1],
  [1, 1, 1, 1, 1, 1, 1, 1, 1, 1, 1],
  [1, 0, -1, 0, 1],
  [1, 1, 1, 1, 1, 1, 1, 1, 1, 1, 1, 1, 1],
  [1, -1, 1, -1, 1, -1, 1],
  [1, -1, 0, 1, -1, 1, 0, -1, 1],
  [1, 0, 0, 0, 0, 0, 0, 0, 1],
  [1, 1, 1, 1, 1, 1, 1, 1, 1, 1, 1, 1, 1, 1, 1, 1, 1],
  [1, 0, 0, -1, 0, 0, 1],
  [1, 1, 1, 1, 1, 1, 1, 1, 1, 1, 1, 1, 1, 1, 1, 1, 1, 1, 1],
  [1, 0, -1, 0, 1, 0, -1, 0, 1],
  [1, -1, 0, 1, -1, 0, 1, 0, -1, 1, 0, -1, 1],
  [1, -1, 1, -1, 1, -1, 1, -1, 1, -1, 1],
  [1, 1, 1, 1, 1, 1, 1, 1, 1, 1, 1, 1, 1, 1, 1, 1, 1, 1, 1, 1, 1, 1, 1],
  [1, 0, 0, 0, -1, 0, 0, 0, 1],
  [1, 0, 0, 0, 0, 1, 0, 0, 0, 0, 1, 0, 0, 0, 0, 1, 0, 0, 0, 0, 1],
  [1, -1, 1, -1, 1, -1, 1, -1, 1, -1, 1, -1, 1],
  [1, 0, 0, 0, 0, 0, 0, 0, 0, 1, 0, 0, 0, 0, 0, 0, 0, 0, 1],
  [1, 0, -1, 0, 1, 0, -1, 0, 1, 0, -1, 0, 1],
  [1, 1, 1, 1, 1, 1, 1, 1, 1, 1, 1, 1, 1, 1, 1, 1, 1, 1, 1, 1, 1, 1, 1, 1, 1, 1, 1, 1, 1],
  [1, 1, 0, -1, -1, -1, 0, 1, 1],
  [1, 1, 1, 1, 1, 1, 1, 1, 1, 1, 1, 1, 1, 1, 1, 1, 1, 1, 1, 1, 1, 1, 1, 1, 1, 1, 1, 1, 1, 1, 1],
  [1, 0, 0, 0, 0, 0, 0, 0, 0, 0, 0, 0, 0, 0, 0, 0, 1],
  [1, -1, 0, 1, -1, 0, 1, -1, 0, 1, -1, 1, 0, -1, 1, 0, -1, 1, 0, -1, 1],
  [1, -1, 1, -1, 1, -1, 1, -1, 1, -1, 1, -1, 1, -1, 1, -1, 1],
  [1, -1, 0, 0, 0, 1, -1, 1, -1, 0, 1, -1, 1, -1, 1, 0, -1, 1, -1, 1, 0, 0, 0, -1, 1],
  [1, 0, 0, 0, 0, 0, -1, 0, 0, 0, 0, 0, 1],
  [1, 1, 1, 1, 1, 1, 1, 1, 1, 1, 1, 1, 1, 1, 1, 1, 1, 1, 1, 1, 1, 1, 1, 1, 1, 1, 1, 1, 1, 1, 1, 1, 1, 1, 1, 1, 1],
  [1, -1, 1, -1, 1, -1, 1, -1, 1, -1, 1, -1, 1, -1, 1, -1, 1, -1, 1],
  [1, -1, 0, 1, -1, 0, 1, -1, 0, 1, -1, 0, 1, 0, -1, 1, 0, -1, 1, 0, -1, 1, 0, -1, 1],
  [1, 0, 0, 0, -1, 0, 0, 0, 1, 0, 0, 0, -1, 0, 0, 0, 1],
  [1, 1, 1, 1, 1, 1, 1, 1, 1, 1, 1, 1, 1, 1, 1, 1, 1, 1, 1, 1, 1, 1, 1, 1, 1, 1, 1, 1, 1, 1, 1, 1, 1, 1, 1, 1, 1, 1, 1, 1, 1],
  [1, 1, 0, -1, -1, 0, 1, 0, -1, -1, 0, 1, 1],
  [1, 1, 1, 1, 1, 1, 1, 1, 1, 1, 1, 1, 1, 1, 1, 1, 1, 1, 1, 1, 1, 1, 1, 1, 1, 1, 1, 1, 1, 1, 1, 1, 1, 1, 1, 1, 1, 1, 1, 1, 1, 1, 1],
  [1, 0, -1, 0, 1, 0, -1, 0, 1, 0, -1, 0, 1, 0, -1, 0, 1, 0, -1, 0, 1],
  [1, 0, 0, -1, 0, 0, 0, 0, 0, 1, 0, 0, -1, 0, 0, 1, 0, 0, 0, 0, 0, -1, 0, 0, 1],
  [1, -1, 1, -1, 1, -1, 1, -1, 1, -1, 1, -1, 1, -1, 1, -1, 1, -1, 1, -1, 1, -1, 1],
  [1, 1, 1, 1, 1, 1, 1, 1, 1, 1, 1, 1, 1, 1, 1, 1, 1, 1, 1, 1, 1, 1, 1, 1, 1, 1, 1, 1, 1, 1, 1, 1, 1, 1, 1, 1, 1, 1, 1, 1, 1, 1, 1, 1, 1, 1, 1],
  [1, 0, 0, 0, 0, 0, 0, 0, -1, 0, 0, 0, 0, 0, 0, 0, 1],
  [1, 0, 0, 0, 0, 0, 0, 1, 0, 0, 0, 0, 0, 0, 1, 0, 0, 0, 0, 0, 0, 1, 0, 0, 0, 0, 0, 0, 1, 0, 0, 0, 0, 0, 0, 1, 0, 0, 0, 0, 0, 0, 1],
  [1, 0, 0, 0, 0, -1, 0, 0, 0, 0, 1, 0, 0, 0, 0, -1, 0, 0, 0, 0, 1],
  [1, -1, 0, 1, -1, 0, 1, -1, 0, 1, -1, 0, 1, -1, 0, 1, -1, 1, 0, -1, 1, 0, -1, 1, 0, -1, 1, 0, -1, 1, 0, -1, 1],
  [1, 0, -1, 0, 1, 0, -1, 0, 1, 0, -1, 0, 1, 0, -1, 0, 1, 0, -1, 0, 1, 0, -1, 0, 1],
  [1, 1, 1, 1, 1, 1, 1, 1, 1, 1, 1, 1, 1, 1, 1, 1, 1, 1, 1, 1, 1, 1, 1, 1, 1, 1, 1, 1, 1, 1, 1, 1, 1, 1, 1, 1, 1, 1, 1, 1, 1, 1, 1, 1, 1, 1, 1, 1, 1, 1, 1, 1, 1],
  [1, 0, 0, 0, 0, 0, 0, 0, 0, -1, 0, 0, 0, 0, 0, 0, 0, 0, 1],
  [1, -1, 0, 0, 0, 1, -1, 0, 0, 0, 1, 0, -1, 0, 0, 1, 0, -1, 0, 0, 1, 0, 0, -1, 0, 1, 0, 0, -1, 0, 1, 0, 0, 0, -1, 1, 0, 0, 0, -1, 1],
  [1, 0, 0, 0, -1, 0, 0, 0, 1, 0, 0, 0, -1, 0, 0, 0, 1, 0, 0, 0, -1, 0, 0, 0, 1],
  [1, -1, 0, 1, -1, 0, 1, -1, 0, 1, -1, 0, 1, -1, 0, 1, -1, 0, 1, 0, -1, 1, 0, -1, 1, 0, -1, 1, 0, -1, 1, 0, -1, 1, 0, -1, 1],
  [1, -1, 1, -1, 1, -1, 1, -1, 1, -1, 1, -1, 1, -1, 1, -1, 1, -1, 1, -1, 1, -1, 1, -1, 1, -1, 1, -1, 1],
  [1, 1, 1, 1, 1, 1, 1, 1, 1, 1, 1, 1, 1, 1, 1, 1, 1, 1, 1, 1, 1, 1, 1, 1, 1, 1, 1, 1, 1, 1, 1, 1, 1, 1, 1, 1, 1, 1, 1, 1, 1, 1, 1, 1, 1, 1, 1, 1, 1, 1, 1, 1, 1, 1, 1, 1, 1, 1, 1],
  [1, 0, 1, 0, 0, 0, -1, 0, -1, 0, -1, 0, 0, 0, 1, 0, 1]]
def PHI (d : Nat) : List Int := PHIS.getD d []
def divR (rg : List Int) : Nat → List Int → List Int
  | 0, _ => []
  | _ + 1, [] => []
  | k + 1, c :: r => c :: divR rg k (zipAdd (-c) r rg)
def quoL (f P : List Int) : List Int := (divR P.reverse.tail (f.length + 1 - P.length) f.reverse).reverse
/-- x^n - 1 over the root polynomial of n -/
def COF (n : Nat) : List Int := quoL (lessOne n) (PHI n)
/-- parted: the number left, the prime tried, what is told; so many turns at most -/
def partIn : Nat → Nat → Nat → Nat → Option (Nat × Nat)
  | 0, _, _, _ => none
  | m + 1, n, p, t => if n % p = 0 then partIn m (n / p) p (t + 1) else some (n, t)
def partOut : Nat → Nat → Nat → List (Nat × Nat) → Option (List (Nat × Nat))
  | 0, _, _, _ => none
  | m + 1, n, p, told => if p * p ≤ n then
      match partIn 12 n p 0 with
      | none => none
      | some (n', t) => partOut m n' (p + 1) (if 0 < t then told ++ [(p, t)] else told)
    else some (if 1 < n then told ++ [(n, 1)] else told)
def PART (n : Nat) : List (Nat × Nat) := (partOut 12 n 2 []).getD []
/-- the prime whose power m is, else 0 -/
def PRF (m : Nat) : Nat := match PART m with
  | [(p, _)] => p
  | _ => 0
def MEET (n d : Nat) : Int :=
  if n = d then 0
  else if n = 2 ∧ d = 1 then -(if max n d % min n d = 0 ∧ 0 < PRF (max n d / min n d) then (PRF (max n d / min n d) : Int) ^ (UN (min n d)).length else 1)
  else (if max n d % min n d = 0 ∧ 0 < PRF (max n d / min n d) then (PRF (max n d / min n d) : Int) ^ (UN (min n d)).length else 1)
/-- the d that are asked of n -/
def DS (n : Nat) : List Nat := List.range' 1 30 ++ [2 * n, 3 * n, 4 * n, 5 * n].filter (· < 61)
def SGN (n : Nat) : Int := if (UN n).length = 1 then -1 else 1

/-! ### what is checked of each n -/
def cofOk (n : Nat) : Bool := mulL (COF n) (PHI n) == lessOne n
def wheelOk (n : Nat) : Bool := (PART n).all fun po => decide (2 * (po.1 * l1 (COF n)) + 2 ≤ A0) && decide (ev (List.replicate po.1 1) ((A0 : Int) ^ (n / po.1)) % ev (PHI n) A0 = 0)
def killOk (n : Nat) : Bool := (List.range n).all fun i => gRest n (PART n) (layL n (zeros i ++ PHI n)) == zeros n
def oneOk (n : Nat) : Bool := gRest n (PART n) (1 :: zeros (n - 1)) == 1 :: zeros (n - 1)
def unOk (n : Nat) : Bool := if n = 1 then UN n == [0] else (UN n).contains 1
def pairOk (n d : Nat) : Bool := normCk (PHI n) (COF n) (UN n) (PHI d) (MEET n d) && decide (MEET n d = 0 → d = n)
def normOk (n : Nat) : Bool := (DS n).all (pairOk n)
def symOk (n : Nat) : Bool := symCk (PHI n) (COF n) (UN n) (scaleL (SGN n) (PHI n))
/-- the value at 0 is 1 or -1; at 1 and -1 not 0 but for 1 and 2 -/
def endOk (n : Nat) : Bool := decide (((PHI n).headD 0).natAbs = 1) && decide (ev (PHI n) 1 = 0 → n = 1) && decide (ev (PHI n) (-1) = 0 → n = 2)
def allOk (n : Nat) : Bool := cofOk n && (wheelOk n && (killOk n && (oneOk n && (unOk n && (normOk n && (symOk n && endOk n))))))
theorem each30 {c : Nat → Bool} (h : (List.range' 1 30).all c = true) {n : Nat} (h1 : 1 ≤ n) (h2 : n ≤ 30) : c n = true :=
  List.all_eq_true.mp h n (List.mem_range'_1.mpr ⟨h1, by omega⟩)
theorem t_cof : (List.range' 1 30).all cofOk = true := by decide +kernel
theorem t_wheel : (List.range' 1 30).all wheelOk = true := by decide +kernel
theorem t_kill : (List.range' 1 30).all killOk = true := by decide +kernel
theorem t_one : (List.range' 1 30).all oneOk = true := by decide +kernel
theorem t_un : (List.range' 1 30).all unOk = true := by decide +kernel
theorem t_norm : (List.range' 1 30).all normOk = true := by decide +kernel
theorem t_sym : (List.range' 1 30).all symOk = true := by decide +kernel
theorem t_end : (List.range' 1 30).all endOk = true := by decide +kernel

section
variable {n : Nat} (h1 : 1 ≤ n) (h2 : n ≤ 30)
include h1 h2
theorem cof_eq (a : Int) : ev (COF n) a * ev (PHI n) a = a ^ n - 1 := by
  have h := each30 t_cof h1 h2
  unfold cofOk at h
  rw [← ev_mulL, eq_of_beq h, ev_lessOne n h1]
theorem round_phi : Round n (PHI n) := ⟨COF n, fun a => by rw [cof_eq h1 h2]⟩
theorem wheelSum_eq (m p : Nat) (a : Int) : wheelSum m p a = ev (List.replicate p 1) (a ^ m) := by
  unfold wheelSum
  clear h1 h2
  induction p with
  | zero => rfl
  | succ p ih =>
    show nIter _ 0 p + a ^ (p * m) = _
    rw [ih, List.replicate_succ', ev_append, List.length_replicate, ← Int.pow_mul, Nat.mul_comm m p]
    simp [ev]
theorem wheel_dv : ∀ po ∈ PART n, Dv (PHI n) (wheelSum (n / po.1) po.1) := by
  intro po hpo
  have h := List.all_eq_true.mp (each30 t_wheel h1 h2) po hpo
  rw [Bool.and_eq_true] at h
  have e1 := of_decide_eq_true h.1
  have e2 := of_decide_eq_true h.2
  refine (kron h1 (cof_eq h1 h2) (powL (n / po.1) (List.replicate po.1 1)) A0 ?_ ?_).eq fun a => ?_
  · have hb := l1_powL (n / po.1) (List.replicate po.1 1)
    have hr : ∀ p : Nat, l1 (List.replicate p 1) = p := by
      intro p
      induction p with
      | zero => rfl
      | succ p ih => simp only [List.replicate_succ, l1, ih]; omega
    rw [hr] at hb
    have := Nat.mul_le_mul_right (l1 (COF n)) hb
    omega
  · rw [ev_powL]
    exact Int.dvd_of_emod_eq_zero e2
  · rw [ev_powL, wheelSum_eq h1 h2]
theorem kill_eq : ∀ i, i < n → gRest n (PART n) (layL n (zeros i ++ PHI n)) = zeros n := by
  intro i hi
  exact eq_of_beq (List.all_eq_true.mp (each30 t_kill h1 h2) i (List.mem_range.mpr hi))
theorem one_eq (c : Int) : gRest n (PART n) (c :: zeros (n - 1)) = c :: zeros (n - 1) := by
  have e1 : gRest n (PART n) (1 :: zeros (n - 1)) = 1 :: zeros (n - 1) := eq_of_beq (each30 t_one h1 h2)
  obtain ⟨hl, hlin⟩ := lin_gRest h1 (PART n)
  have len : ∀ c : Int, (c :: zeros (n - 1)).length = n := fun c => by rw [List.length_cons, len_zeros]; omega
  have hm : ∀ m, (gRest n (PART n) (c :: zeros (n - 1))).getD m 0 = (c :: zeros (n - 1)).getD m 0 := by
    intro m
    obtain ⟨w, hw⟩ := hlin m
    have a1 := hw _ (len 1)
    have a2 := hw _ (len c)
    dsimp only at a1 a2
    rw [e1] at a1
    rw [a2]
    simp only [dotW, dotW_zeros] at a1 ⊢
    cases m with
    | zero => simp at a1 ⊢; rw [← a1]; simp
    | succ m =>
      rw [List.getD_cons_succ, getD_zeros] at a1 ⊢
      have : w 0 = 0 := by omega
      rw [this]; simp
  refine List.ext_getElem (by rw [hl _ (len c)]; exact (len c).symm) fun i i1 i2 => ?_
  have := hm i
  rw [List.getD_eq_getElem?_getD, List.getD_eq_getElem?_getD, List.getElem?_eq_getElem i1, List.getElem?_eq_getElem i2] at this
  simpa using this
theorem un_ne : UN n ≠ [] := by
  intro e
  have h := each30 t_un h1 h2
  unfold unOk at h
  rw [e] at h
  split at h
  · exact absurd h (by decide)
  · simp at h
theorem ground_cg (s : List Int) (hs : s.length = n) : (gRest n (PART n) s).length = n ∧ Cg (PHI n) (ev (gRest n (PART n) s)) (ev s) :=
  ⟨by rw [len_gRest, hs], cg_gRest (round_phi h1 h2) h1 (PART n) s hs (wheel_dv h1 h2)⟩
theorem ground_eq {s t : List Int} (hs : s.length = n) (ht : t.length = n) (h : Cg (PHI n) (ev s) (ev t)) : gRest n (PART n) s = gRest n (PART n) t :=
  ground_same h1 (kill_eq h1 h2) hs ht h
end

/-- one turn of the norm -/
def normStep (n : Nat) (s : List Int) (t : List Int) (k : Nat) : List Int := gRest n (PART n) (sumTimes t (ledL s k))
def normL (n : Nat) (s : List Int) (ks : List Nat) : List Int := ks.foldl (normStep n s) (1 :: zeros (n - 1))
theorem ev_const (c : Int) (m : Nat) (a : Int) : ev (c :: zeros m) a = c := by simp [ev, ev_zeros]

theorem cg_pow {n : Nat} {P : List Int} (R : Round n P) (hn : 0 < n) {F G : Int → Int} (h : Cg (lessOne n) F G) (k : Nat) : Cg P (fun a => F (a ^ k)) (fun a => G (a ^ k)) := by
  obtain ⟨q, hq⟩ := h
  have h1 : Dv P (fun a => ev q (a ^ k) * (a ^ (n * k) - 1)) := Dv.mul (R.pow k) ((IsP.of q).comp k)
  refine h1.eq fun a => ?_
  have := hq (a ^ k)
  dsimp only at this
  rw [this, ev_lessOne n hn, ← Int.pow_mul, Nat.mul_comm]
section
variable {n : Nat} (h1 : 1 ≤ n) (h2 : n ≤ 30)
include h1 h2
theorem norm_cg (s f : List Int) (hs : s.length = n) (hf : Cg (lessOne n) (ev s) (ev f)) : ∀ (ks : List Nat) (t : List Int) (F : Int → Int), t.length = n → IsP F → Cg (PHI n) (ev t) F →
    (ks.foldl (normStep n s) t).length = n ∧ Cg (PHI n) (ev (ks.foldl (normStep n s) t)) (fun a => F a * prodK ks f a) ∧ (ks ≠ [] → ∃ X : List Int, X.length = n ∧ ks.foldl (normStep n s) t = gRest n (PART n) X)
  | [], t, F, ht, pF, c => ⟨ht, c.right fun a => by simp [prodK], fun z => absurd rfl z⟩
  | k :: ks, t, F, ht, pF, c => by
    have R := round_phi h1 h2
    obtain ⟨l1, c1⟩ := cg_ledL s (by rw [hs]; exact R) (by omega) k
    have hc := cg_pow R h1 hf k
    obtain ⟨l2, c2⟩ := cg_sumTimes R h1 t (ledL s k) ht
    obtain ⟨l3, c3⟩ := ground_cg h1 h2 (sumTimes t (ledL s k)) l2
    have c4 : Cg (PHI n) (ev (normStep n s t k)) (fun a => F a * ev f (a ^ k)) :=
      (c3.trans c2).trans (Cg.mul c (c1.trans hc) (IsP.of _) pF)
    obtain ⟨l5, c5, x5⟩ := norm_cg s f hs hf ks (normStep n s t k) (fun a => F a * ev f (a ^ k)) l3 (pF.mul ((IsP.of f).comp k)) c4
    refine ⟨l5, c5.right fun a => by rw [prodK_cons]; grind, fun _ => ?_⟩
    by_cases z : ks = []
    · subst z
      exact ⟨_, l2, rfl⟩
    · exact x5 z

/-- f's norm is c, and f is nought where c is -/
structure Good (n : Nat) (f : List Int) (c : Int) : Prop where
  cg : Cg (PHI n) (prodU n f) (fun _ => c)
  z : c = 0 → Dv (PHI n) (ev f)
omit h1 h2 in
theorem Good.one : Good n [1] 1 := by
  refine ⟨Cg.of_eq fun a => ?_, fun z => absurd z (by decide)⟩
  unfold prodU prodK
  induction UN n with
  | nil => rfl
  | cons k ks ih => simpa [ev] using ih
omit h1 h2 in
theorem Good.mul {f g h : List Int} {c d : Int} (a : Good n f c) (b : Good n g d) (e : ∀ x, ev h x = ev f x * ev g x) : Good n h (c * d) := by
  refine ⟨((Cg.mul a.cg b.cg (isP_prodK _ _) (.const c)).left fun x => ?_).right fun x => rfl, fun z => ?_⟩
  · exact (prodK_mul (UN n) f g h e x).symm
  · rcases Int.mul_eq_zero.mp z with z | z
    · exact (Dv.mul (a.z z) (IsP.of g)).eq fun x => by rw [e]; grind
    · exact (Dv.mul (b.z z) (IsP.of f)).eq fun x => by rw [e]
theorem Good.phi {d : Nat} (hd : d ∈ DS n) : Good n (PHI d) (MEET n d) := by
  have h := List.all_eq_true.mp (each30 t_norm h1 h2) d hd
  unfold pairOk at h
  rw [Bool.and_eq_true] at h
  refine ⟨normCk_sound h1 (cof_eq h1 h2) h.1, fun z => ?_⟩
  rw [of_decide_eq_true h.2 z]
  exact Dv.self
theorem Good.lin (y : Int) : Good n [-y, 1] (SGN n * ev (PHI n) y) := by
  have h := symCk_sound h1 (cof_eq h1 h2) (each30 t_sym h1 h2) y
  refine ⟨h.right fun a => ev_scaleL _ _ _, fun z => ?_⟩
  have hz : ev (PHI n) y = 0 := by
    rcases Int.mul_eq_zero.mp z with z | z
    · unfold SGN at z
      split at z <;> exact absurd z (by decide)
    · exact z
  have he := each30 t_end h1 h2
  unfold endOk at he
  rw [Bool.and_eq_true, Bool.and_eq_true] at he
  have e1 := of_decide_eq_true he.1.1
  have e2 := of_decide_eq_true he.1.2
  have e3 := of_decide_eq_true he.2
  have hy : y = 1 ∨ y = -1 := by
    cases hp : PHI n with
    | nil => rw [hp] at e1; exact absurd e1 (by decide)
    | cons c f =>
      rw [hp] at e1 hz
      simp only [ev] at hz
      simp only [List.headD_cons] at e1
      have hd : y ∣ c := ⟨- ev f y, by grind⟩
      have := Int.natAbs_dvd_natAbs.mpr hd
      rw [e1, Nat.dvd_one] at this
      omega
  rcases hy with rfl | rfl
  · have : n = 1 := e2 hz
    subst this
    exact Dv.self
  · have : n = 2 := e3 hz
    subst this
    exact Dv.self
theorem const_zero (c : Int) (h : Dv (PHI n) (fun _ => c)) : c = 0 := by
  have e : gRest n (PART n) (c :: zeros (n - 1)) = gRest n (PART n) (0 :: zeros (n - 1)) := by
    refine ground_eq h1 h2 ?_ ?_ (h.eq fun a => ?_)
    · rw [List.length_cons, len_zeros]; omega
    · rw [List.length_cons, len_zeros]; omega
    · rw [ev_const, ev_const]; simp
  rw [one_eq h1 h2, one_eq h1 h2] at e
  exact (List.cons.inj e).1
theorem zeros_eq : (0 : Int) :: zeros (n - 1) = zeros n := by
  obtain ⟨m, rfl⟩ : ∃ m, n = m + 1 := ⟨n - 1, by omega⟩
  rfl
theorem dv_prodU {f : List Int} (h : Dv (PHI n) (ev f)) : Dv (PHI n) (prodU n f) := by
  have hu := each30 t_un h1 h2
  unfold unOk at hu
  have key : ∀ (ks : List Nat) (k : Nat), k ∈ ks → Dv (PHI n) (fun a => ev f (a ^ k)) → Dv (PHI n) (prodK ks f) := by
    intro ks
    induction ks with
    | nil => intro k hk; cases hk
    | cons j ks ih =>
      intro k hk hd
      rcases List.mem_cons.mp hk with e | e
      · subst e
        exact (Dv.mul hd (isP_prodK ks f)).eq fun a => by rw [prodK_cons]; grind
      · exact (Dv.mul (ih k e hd) ((IsP.of f).comp j)).eq fun a => by rw [prodK_cons]
  split at hu
  · rename_i e
    subst e
    refine key _ 0 (by rw [eq_of_beq hu]; simp) ?_
    obtain ⟨q, hq⟩ := h
    have h0 : ev f 1 = 0 := by
      rw [hq 1]
      have : ev (PHI 1) 1 = 0 := by decide
      rw [this]; simp
    exact Dv.zero.eq fun a => by rw [Int.pow_zero, h0]
  · exact key _ 1 (by simpa using hu) (h.eq fun a => by rw [Int.pow_one])
/-- THE LAW, of lists: the norm of a product of good polynomials, laid round n, and when it is nought -/
theorem main {f : List Int} {c : Int} (g : Good n f c) : normL n (layL n f) (UN n) = c :: zeros (n - 1) ∧ (gRest n (PART n) (layL n f) = zeros n ↔ c = 0) := by
  have hlen : ∀ c : Int, (c :: zeros (n - 1)).length = n := fun c => by rw [List.length_cons, len_zeros]; omega
  have hR : Round n (lessOne n) := Dv.self.eq fun a => ev_lessOne n h1 a
  obtain ⟨hl, hc⟩ := cg_layL hR h1 f
  obtain ⟨_, hcP⟩ := cg_layL (round_phi h1 h2) h1 f
  refine ⟨?_, ?_⟩
  · obtain ⟨l5, c5, x5⟩ := norm_cg h1 h2 (layL n f) f hl hc (UN n) (1 :: zeros (n - 1)) (fun _ => 1) (hlen 1) (.const 1) (Cg.of_eq fun a => ev_const 1 _ a)
    obtain ⟨X, hX, e⟩ := x5 (un_ne h1 h2)
    unfold normL
    rw [e] at c5 ⊢
    obtain ⟨_, cX⟩ := ground_cg h1 h2 X hX
    have c6 : Cg (PHI n) (ev X) (ev (c :: zeros (n - 1))) := (cX.symm.trans c5).trans ((g.cg.left fun a => by simp [prodU]).right fun a => (ev_const c _ a).symm)
    rw [ground_eq h1 h2 hX (hlen c) c6, one_eq h1 h2]
  · constructor
    · intro e
      obtain ⟨_, cX⟩ := ground_cg h1 h2 (layL n f) hl
      rw [e] at cX
      have hd : Dv (PHI n) (ev f) := (hcP.symm.trans cX.symm).dv (Dv.zero.eq fun a => (ev_zeros a n).symm)
      exact const_zero h1 h2 c (g.cg.symm.dv (dv_prodU h1 h2 hd))
    · intro z
      have hd := g.z z
      have c6 : Cg (PHI n) (ev (layL n f)) (ev (0 :: zeros (n - 1))) := hcP.trans (Dv.eq hd fun a => by rw [ev_const]; simp)
      rw [ground_eq h1 h2 hl (hlen 0) c6, one_eq h1 h2, zeros_eq h1 h2]
end
end RK
end

section
set_option Elab.async false
set_option linter.all false
set_option maxRecDepth 100000
set_option maxHeartbeats 4000000
namespace RK
open PySem PySem.Spec PyProof.Rows L2 Evl
/-! ### the text by places -/
def topS (i : Nat) : Stmt := PySem.Challenge.pw_rootwheel_k40_whole_norms_of_root_polyno.main.body.getD i (.Pass ⟨0, 0, 0, 0⟩)

/-! ### further rules -/
section
variable {X : Cx}
theorem get_list : PGet X (rIxL X.K) := by
  intro pins s σ H x y v u Q I rx ry h
  obtain ⟨p, xs, i, z, rfl, rfl, hq, he, q⟩ := h
  cases rx
  obtain ⟨t, rfl⟩ := ry
  obtain ⟨its, r, pl, hz⟩ := I.list hq
  obtain ⟨j, h1, h2, h3, h4, h5⟩ := atI_get he
  obtain ⟨w, ew, rw'⟩ := r.get h2
  have hl := r.length
  have hn := line63
  have fin : EP X pins σ Q w s := ⟨z, H, I, rw', q⟩
  have hsz : its.toArray.size = xs.length := by rw [List.size_toArray]; exact hl.symm
  by_cases h0 : 0 ≤ i
  · have hj : i.toNat = j := by
      rw [seqIndex_of h0 h5] at h1
      exact Option.some.inj h1
    exact wpAny_getItem_list pl.isList h0 (by omega) (by rw [hj]; simpa using ew) fin
  · have hj : (i + xs.length).toNat = j := by
      rw [seqIndex_neg (by omega) h4] at h1
      exact Option.some.inj h1
    exact wpAny_getItem_list_neg pl.isList (by omega) (by rw [hsz]; omega) (by omega) (by rw [hsz, hj]; simpa using ew) fin
/-- ** of a great base: what comes out is within 2 ^ 27 bits -/
def CPowW (i j : Int) : Prop := 0 ≤ j ∧ (Builtin.Int.intBits i : Int) * j ≤ 2 ^ 27
theorem op_powW : OpR X (binaryOp .Pow) (rI CPowW fun i j => .int (i ^ j.toNat)) := opI fun _ _ _ _ _ _ _ hc q => pow_int hc.1 hc.2 q
/-- sorted of triples of whole numbers: a new list of as many -/
def rSorted3 (K : PySem.W.Frag) : List V → Hp → VK → Prop := fun vs H Q => ∃ (a : Addr) (xs : List V), vs = [V.ref a] ∧ SqL K H a xs ∧
  (∀ x ∈ xs, ∃ t i j k, x = V.ref t ∧ H t = some (.tup [.int i, .int j, .int k])) ∧ ∀ ys p, H p = none → Q (.ref p) (upd H p (.lst ys))
theorem each3 {pins : List (Addr × Obj)} {σ : L2.St} {H : Hp} {s : Shared} (I : Inv X pins σ H s) : ∀ {xs : List V} {us : List Value}, Vals xs us → (∀ x ∈ xs, ∃ t i j k, x = V.ref t ∧ H t = some (.tup [.int i, .int j, .int k])) →
    ∃ bs : List (Int × Int × Int), PySem.W.EachIs (fun v (_ : Int × Int × Int) => ∃ t, v = Value.ref t) us bs ∧ PySem.W.EachIs (fun v (b : Int × Int × Int) => ∃ as, Reads s.heap v (.tuple [.int b.1, .int b.2.1, .int b.2.2]) as) us bs
  | _, _, .nil, _ => ⟨[], .nil, .nil⟩
  | _, _, .cons (a := x) (b := u) r rr, h => by
    obtain ⟨bs, h1, h2⟩ := each3 I rr fun y hy => h y (List.mem_cons_of_mem _ hy)
    obtain ⟨t, i, j, k, e, ht⟩ := h x List.mem_cons_self
    subst e
    have hd : Dp X.K H (.ref t) (.tuple [.int i, .int j, .int k]) := .tup (.inl (.inl ht)) (.cons (.int i) (.cons (.int j) (.cons (.int k) .nil)))
    have hu : u = Value.ref t := r
    exact ⟨(i, j, k) :: bs, .cons ⟨t, hu⟩ h1, .cons (Dp.reads I _ _ _ hd r) h2⟩
theorem each_refs {bs : List (Int × Int × Int)} : ∀ {us : List Value}, PySem.W.EachIs (fun v (_ : Int × Int × Int) => ∃ t, v = Value.ref t) us bs → ∀ u ∈ us, ∃ a, u = Value.ref a
  | _, h => by
    induction h with
    | nil => intro u hu; cases hu
    | cons r t ih =>
      intro u hu
      rcases List.mem_cons.mp hu with e | e
      · subst e; exact r
      · exact ih u e
theorem cr_sorted3 (hu : X.A.units + 64 < cLine) : CallR X (.builtin "sorted") (rSorted3 X.K) := by
  intro pins s σ H vs us Q I r h
  obtain ⟨a, xs, rfl, hs, hx, q⟩ := h
  obtain ⟨its, rv, hl, hz⟩ := I.list hs
  obtain ⟨u, rfl, ru⟩ := vals1 r
  obtain rfl : u = Value.ref a := ru
  obtain ⟨bs, e1, e2⟩ := each3 I rv hx
  have hbl : bs.length = its.length := e1.length.symm
  refine PySem.W.sorted_data (enc := fun b : Int × Int × Int => .tuple [.int b.1, .int b.2.1, .int b.2.2]) hl.isList e1 e2 ?_ (PySem.W.Sortable.tuples fun b => ⟨_, _, rfl⟩) (by rw [hbl, ← rv.length]; exact hz) (fun b _ => ?_) fun out ho eo => ?_
  · exact PySem.W.AllAlike.of fun b b' => rfl
  · have e : (PyData.tuple [.int b.1, .int b.2.1, .int b.2.2]).depth = 1 := rfl
    rw [e]
    omega
  · have hr := each_refs eo
    obtain ⟨n, hn⟩ := sortedAll_at s.heap its out.toArray
    refine ⟨.ref (s.heap.objs.size + 1), upd H (s.heap.objs.size + 1) (.lst (out.map backV)), I.laid (t' := s.toks) (fun b o e => sortedAll_old e) (Nat.le_succ _) ⟨?_, out, n, vals_back hr, hn⟩, rfl, q _ _ (I.hok.fresh (Nat.le_succ _))⟩
    rw [List.length_map, ho, hbl, ← rv.length]
    exact hz
end
end RK
end

section
set_option Elab.async false
set_option linter.all false
set_option maxRecDepth 100000
set_option maxHeartbeats 4000000
namespace RK
open PySem PySem.Spec PyProof.Rows L2 Evl
/-! ### readings in short -/
abbrev iv (l : List Int) : List V := l.map V.int
theorem iv_get {l : List Int} {i : Nat} (h : i < l.length) : (iv l)[i]? = some (.int (l.getD i 0)) := by
  rw [List.getElem?_map, List.getElem?_eq_getElem h, List.getD_eq_getElem?_getD, List.getElem?_eq_getElem h]
  rfl
theorem iv_at {l : List Int} {i : Nat} {z : Int} (e : z = (i : Int)) (h : i < l.length) : atI (iv l) z = some (.int (l.getD i 0)) := by
  rw [e]
  exact atI_nat (iv_get h)
theorem iv_set (l : List Int) (i : Nat) (x : Int) : (iv l).set i (.int x) = iv (l.set i x) := List.map_set.symm
theorem iv_len (l : List Int) : (iv l).length = l.length := List.length_map _
section
variable {K : PySem.W.Frag} {σ : L2.St} {H H' : Hp} {ta tb tc te tx : TE} {t u : TT} {x y z v : V} {i j : Int} {D : Ends} {tu tw tz : TS} {g : TG}
theorem ev_add (ha : Ev ta σ H (.int i)) (hb : Ev tb σ H (.int j)) : Ev (tOp (rI0 fun i j => .int (i + j)) ta tb) σ H (.int (i + j)) := ev_op ha hb rv_I0
theorem ev_sub (ha : Ev ta σ H (.int i)) (hb : Ev tb σ H (.int j)) : Ev (tOp (rI0 fun i j => .int (i - j)) ta tb) σ H (.int (i - j)) := ev_op ha hb rv_I0
theorem ev_mul (ha : Ev ta σ H (.int i)) (hb : Ev tb σ H (.int j)) (c : CMul i j) : Ev (tOp (rI CMul fun i j => .int (i * j)) ta tb) σ H (.int (i * j)) := ev_op ha hb (rv_I c)
theorem ev_mulW (ha : Ev ta σ H (.int i)) (hb : Ev tb σ H (.int j)) (c : CMulW i j) : Ev (tOp (rI CMulW fun i j => .int (i * j)) ta tb) σ H (.int (i * j)) := ev_op ha hb (rv_I c)
theorem ev_mod (ha : Ev ta σ H (.int i)) (hb : Ev tb σ H (.int j)) (c : 0 < j) : Ev (tOp (rI (fun _ j => 0 < j) fun i j => .int (i % j)) ta tb) σ H (.int (i % j)) := ev_op ha hb (rv_I c)
theorem ev_fdiv (ha : Ev ta σ H (.int i)) (hb : Ev tb σ H (.int j)) (c : CDiv i j) : Ev (tOp (rI CDiv fun i j => .int (i / j)) ta tb) σ H (.int (i / j)) := ev_op ha hb (rv_I c)
theorem ev_cmp {f : Int → Int → Bool} (ha : Ev ta σ H (.int i)) (hb : Ev tb σ H (.int j)) : Ev (tOp (rI0 fun i j => .bl (f i j)) ta tb) σ H (.bl (f i j)) := ev_op ha hb rv_I0
theorem ev_eqI (ha : Ev ta σ H (.int i)) (hb : Ev tb σ H (.int j)) : Ev (tOp rEq ta tb) σ H (.bl (decide (i = j))) := by
  have h := ev_op ha hb (rv_eq (x := .int i) (y := .int j) rfl)
  have e : decide (V.int i = V.int j) = decide (i = j) := by simp
  rw [e] at h
  exact h
theorem ev_neI (ha : Ev ta σ H (.int i)) (hb : Ev tb σ H (.int j)) : Ev (tOp rNe ta tb) σ H (.bl (!decide (i = j))) := by
  have h := ev_op ha hb (rv_ne (x := .int i) (y := .int j) rfl)
  have e : decide (V.int i = V.int j) = decide (i = j) := by simp
  rw [e] at h
  exact h
theorem ev_neg (ha : Ev ta σ H (.int i)) : Ev (tUn (rU fun i => .int (-i)) ta) σ H (.int (-i)) := ev_un ha ru_neg
theorem ev_ixL {p : Addr} {xs : List V} (ha : Ev ta σ H (.ref p)) (hb : Ev tb σ H (.int i)) (h : SqL K H p xs) (e : atI xs i = some v) : Ev (tOp (rIxL K) ta tb) σ H v := ev_op ha hb (rv_ixL h e)
theorem ev_ixT {p : Addr} {xs : List V} (ha : Ev ta σ H (.ref p)) (hb : Ev tb σ H (.int i)) (h : SqT K H p xs) (e : atI xs i = some v) : Ev (tOp (rIxT K) ta tb) σ H v := ev_op ha hb (rv_ixT h e)
theorem ev_lenI {p : Addr} {l : List Int} (ha : Ev ta σ H (.ref p)) (h : SqL K H p (iv l)) : Ev (tCB (fun xs H Q => ∃ p ys, xs = [.ref p] ∧ (SqL K H p ys ∨ SqT K H p ys) ∧ Q (.int ys.length) H) (tCons ta tNil)) σ H (.int (l.length : Int)) := by
  have e := ev_len (K := K) ha h
  rw [iv_len] at e
  exact e
theorem el_zero1 : EvL (tLst (tCons (tC (.int 0)) tNil)) σ H [.int 0] := el_lst (ea_cons ev_c ea_nil) (by decide)
theorem el_rep {xs : List V} {k : Nat} {j : Int} (ha : EvL ta σ H xs) (hb : Ev tb σ H (.int j)) (ej : j.toNat = k) (hj : -100000 ≤ j) (hk : k ≤ 100000) (hz : xs.length * k ≤ 100000) : EvL (tOp rRep ta tb) σ H (List.replicate k xs).flatten := fun H1 e Q q =>
  ha H1 e _ fun p H2 hp e2 h2 => hb H2 (e.trans e2) _ fun H3 e3 => ⟨p, j, xs, rfl, rfl, e3 p _ h2, by omega, by omega, by rw [ej]; exact sz_of hz, fun r hr => by
    rw [ej]
    exact q r _ (fresh_back (e2.trans e3) hr) ((e2.trans e3).trans (Ex.new hr)) upd_same⟩
theorem flat_zero : ∀ k : Nat, (List.replicate k [V.int 0]).flatten = iv (zeros k)
  | 0 => rfl
  | k + 1 => by
    rw [List.replicate_succ, List.flatten_cons, flat_zero k]
    rfl
theorem el_zeros {k : Nat} {j : Int} (hb : Ev tb σ H (.int j)) (ej : j.toNat = k) (hj : -100000 ≤ j) (hk : k ≤ 100000) : EvL (tOp rRep (tLst (tCons (tC (.int 0)) tNil)) tb) σ H (iv (zeros k)) := by
  have h := el_rep el_zero1 hb ej hj hk (by simpa using hk)
  rw [flat_zero] at h
  exact h
theorem el_cat {xs ys : List V} (ha : EvL ta σ H xs) (hb : EvL tb σ H ys) (hz : xs.length + ys.length ≤ 100000) : EvL (tOp rCat ta tb) σ H (xs ++ ys) := fun H1 e Q q =>
  ha H1 e _ fun p H2 hp e2 h2 => hb H2 (e.trans e2) _ fun r H3 hr e3 h3 => ⟨p, r, xs, ys, rfl, rfl, e3 p _ h2, h3, sz_of hz, fun s hs =>
    q s _ (fresh_back (e2.trans e3) hs) ((e2.trans e3).trans (Ex.new hs)) upd_same⟩
/-- list(xs) -/
theorem el_listI {p : Addr} {xs : List V} (ha : Ev ta σ H (.ref p)) (h : SqL K H p xs) : EvL (tCB (fun xs H Q => ∃ p ys, xs = [.ref p] ∧ (SqL K H p ys ∨ SqT K H p ys) ∧ ∀ l, H l = none → Q (.ref l) (upd H l (.lst ys))) (tCons ta tNil)) σ H xs := el_list ha h
/-- xs[j] op= e -/
theorem s_augL {to ti : TE} {l : Addr} {xs : List V} {k : Nat} {a b : Int} {f : Int → Int → Int} (hl : H l = some (.lst xs)) (ho : Ev to σ H (.ref l)) (hi : Ev ti σ H (.int (k : Int))) (hx : xs[k]? = some (.int a)) (he : Ev te σ H (.int b))
    (q : ∀ H1, Ex H H1 → D.nx σ (upd H1 l (.lst (xs.set k (.int (f a b)))))) : tAugS to ti te (rIxL K) (ipI f) rSetL D σ H :=
  ho H (Ex.refl H) _ fun H1 e1 => hi H1 e1 _ fun H2 e2 => ⟨l, xs, (k : Int), .int a, rfl, rfl, sq_of ((e1.trans e2) l _ hl), atI_nat hx,
    he H2 (e1.trans e2) _ fun H3 e3 => ⟨a, b, rfl, rfl, l, xs, (k : Int), k, rfl, rfl, ((e1.trans e2).trans e3) l _ hl, ixN_nat (List.getElem?_eq_some_iff.mp hx).1, q H3 ((e1.trans e2).trans e3)⟩⟩
theorem addAt_set (v : Int) : ∀ (l : List Int) (k : Nat), k < l.length → addAt l k v = l.set k (l.getD k 0 + v)
  | [], k, h => by simp at h
  | x :: l, 0, _ => by simp [addAt]
  | x :: l, k + 1, h => by
    have ih := addAt_set v l k (by simpa using h)
    simp only [addAt, ih, List.set_cons_succ, List.getD_cons_succ]
/-- told[k] += e -/
theorem s_augAdd {to ti : TE} {p : Addr} {l : List Int} {k : Nat} {b : Int} (hl : H p = some (.lst (iv l))) (ho : Ev to σ H (.ref p)) (hi : Ev ti σ H (.int (k : Int))) (hk : k < l.length) (he : Ev te σ H (.int b))
    (q : ∀ H1, Ex H H1 → D.nx σ (upd H1 p (.lst (iv (addAt l k b))))) : tAugS to ti te (rIxL K) (ipI fun i j => i + j) rSetL D σ H :=
  s_augL (f := fun i j => i + j) hl ho hi (iv_get hk) he fun H1 e => by
    rw [iv_set, ← addAt_set b l k hk]
    exact q H1 e
theorem s_augSub {to ti : TE} {p : Addr} {l : List Int} {k : Nat} {b : Int} (hl : H p = some (.lst (iv l))) (ho : Ev to σ H (.ref p)) (hi : Ev ti σ H (.int (k : Int))) (hk : k < l.length) (he : Ev te σ H (.int b))
    (q : ∀ H1, Ex H H1 → D.nx σ (upd H1 p (.lst (iv (addAt l k (-b)))))) : tAugS to ti te (rIxL K) (ipI fun i j => i - j) rSetL D σ H :=
  s_augL (f := fun i j => i - j) hl ho hi (iv_get hk) he fun H1 e => by
    have e2 : l.getD k 0 - b = l.getD k 0 + -b := Int.sub_eq_add_neg
    show D.nx σ (upd H1 p (.lst ((iv l).set k (.int (l.getD k 0 - b)))))
    rw [iv_set, e2, ← addAt_set (-b) l k hk]
    exact q H1 e
/-- told[k] = e -/
theorem s_setI {to ti : TE} {p : Addr} {l : List Int} {k : Nat} {b : Int} (hl : H p = some (.lst (iv l))) (he : Ev te σ H (.int b)) (ho : Ev to σ H (.ref p)) (hi : Ev ti σ H (.int (k : Int))) (hk : k < l.length)
    (q : ∀ H1, Ex H H1 → D.nx σ (upd H1 p (.lst (iv (l.set k b))))) : tAsg te (gSub to ti rSetL) D σ H :=
  s_setL hl he ho hi (by rw [iv_len]; exact hk) fun H1 e => by
    rw [iv_set]
    exact q H1 e
/-- for i, x in enumerate(a list of whole numbers): Pv outlives new objects -/
theorem s_forE {tl : TE} {a : Addr} {l : List Int} {si sx : Nat} (h : Ev tl σ H (.ref a)) (hx : SqL K H a (iv l)) (Pv : Nat → L2.St → Hp → Prop) (h0 : ∀ H1, Ex H H1 → Pv 0 σ H1) (hl : ∀ i σ' H', i ≤ l.length → Pv i σ' H' → SqL K H' a (iv l))
    (st : ∀ i σ' H' T o, Pv i σ' H' → H' T = none → Pv i σ' (upd H' T o))
    (hs : ∀ (i : Nat) σ' H', i < l.length → Pv i σ' H' → tu { D with nx := Pv (i + 1), ct := Pv (i + 1), bk := D.nx } ((σ'.set si (some (.int (i : Int)))).set sx (some (.int (l.getD i 0)))) H') (hd : ∀ σ' H', Pv l.length σ' H' → D.nx σ' H') :
    tFor (iEnum K (tCons tl tNil)) (gTup K 2 (gCons (gName si) (gCons (gName sx) gNil))) tu D σ H :=
  h H (Ex.refl H) _ fun H1 e => ⟨a, iv l, rfl, ex_l e hx, for_it (n := l.length) (by have w := walk_enum (K := K) (a := a) (xs := iv l); rw [iv_len] at w; exact w) Pv (h0 H1 e) hl (fun i x σ' H' H'' hi p y => by
    obtain ⟨T, x1, x2, rfl, nT, rfl, e1, e2⟩ := y
    have e1' : V.int (i : Int) = x1 := Option.some.inj e1
    have e2' : V.int (l.getD i 0) = x2 := Option.some.inj ((iv_get hi).symm.trans e2)
    subst e1' e2'
    exact ⟨T, [_, _], rfl, .inl (.inl upd_same), rfl, _, _, rfl, _, _, rfl, rfl, hs i σ' _ hi (st i σ' H' T _ p nT)⟩) hd⟩
theorem q_forE {tl : TE} {a : Addr} {l : List Int} {si sx : Nat} (h : Ev tl σ H (.ref a)) (hx : SqL K H a (iv l)) (Pv : Nat → L2.St → Hp → Prop) (h0 : ∀ H1, Ex H H1 → Pv 0 σ H1) (hl : ∀ i σ' H', i ≤ l.length → Pv i σ' H' → SqL K H' a (iv l))
    (st : ∀ i σ' H' T o, Pv i σ' H' → H' T = none → Pv i σ' (upd H' T o))
    (hs : ∀ (i : Nat) σ' H', i < l.length → Pv i σ' H' → tu { D with nx := Pv (i + 1), ct := Pv (i + 1), bk := tz D } ((σ'.set si (some (.int (i : Int)))).set sx (some (.int (l.getD i 0)))) H') (hd : ∀ σ' H', Pv l.length σ' H' → tz D σ' H') :
    tSeq (tFor (iEnum K (tCons tl tNil)) (gTup K 2 (gCons (gName si) (gCons (gName sx) gNil))) tu) tz D σ H := s_forE (D := { D with nx := tz D }) h hx Pv h0 hl st hs hd
end
/-! ### what a def promises, and its call -/
section
variable (P : Program) (w : World) (K : PySem.W.Frag) (mg : Str → Option Value) (base : Heap)
def Has (k : Nat) (x : Str) (ps : List Str) (sp : Sp) : Prop := ∃ f fd, FnOk P w K mg base CX0 k f fd ps sp ∧ mg x = some (.ref f) ∧ PySem.W.keepIn K (.ref f) = true ∧ Binds K fd ps []
/-- where a def of the text stands -/
def At (x : Str) (st : Stmt) (ps : List Str) (f : Addr) (fd : FuncData) : Prop := Fun K x x st f fd ∧ mg x = some (.ref f) ∧ Binds K fd ps []
end
/-- the built-ins that the text uses are no names of its own -/
structure Free (mg : Str → Option Value) : Prop where
  len : mg "len" = none
  enumerate : mg "enumerate" = none
  list : mg "list" = none
  max : mg "max" = none
  min : mg "min" = none
  reversed : mg "reversed" = none
  range : mg "range" = none
  sorted : mg "sorted" = none
  any : mg "any" = none
  int : mg "int" = none
  bool : mg "bool" = none
  isinstance : mg "isinstance" = none
section
variable {P : Program} {w : World} {K : PySem.W.Frag} {mg : Str → Option Value} {base : Heap} {k : Nat} {x : Str} {ps : List Str} {sp : Sp} {f : Addr} {fd : FuncData} {st : Stmt}
theorem At.has (a : At K mg x st ps f fd) (G : FnOk P w K mg base CX0 k f fd ps sp) : Has P w K mg base k x ps sp := ⟨f, fd, G, a.2.1, a.1.kp, a.2.2⟩
end
section
variable {X : Cx} {k : Nat} {x : Str} {ps : List Str} {sp : Sp} {p pos : Pos} {e : Expr} {es : List Expr} {t : TA}
theorem pe_callD (F : Has X.prog X.w X.K X.mg X.base k x ps sp) (hr : Room k X.A) (hg : Gl X x) (ha : PA X (e :: es) t) (hdb : (x == ("__debug__" : Str)) = false := by decide)
    (he : starEach (e :: es) X.env = (false, eval e X.env) :: starEach es X.env := by rfl) (hpl : (backTo pos (starEach es X.env)).any (·.1) = false := by rfl) : PE X (.Call (.Name x p) (e :: es) [] pos) (tCall sp [] E0 t) := by
  obtain ⟨f, fd, G, gm, kp, b⟩ := F
  exact pe_call G hr hg gm kp b .nil pass0 ha hdb he hpl
end
end RK
end

section
set_option Elab.async false
set_option linter.all false
set_option maxRecDepth 100000
set_option maxHeartbeats 4000000
namespace RK
open PySem PySem.Spec PyProof.Rows L2 Evl
abbrev sTrim : Stmt := topS 4
theorem scTrim : FnScope ["numbers", "many"] ["numbers"] (defScope sTrim) := ⟨rfl, rfl, rfl, by decide +kernel, rfl, by decide +kernel, by decide +kernel⟩
def spTrim (K : PySem.W.Frag) : Sp := fun vs H Q _ => ∃ (a : Addr) (l : List Int), vs = [.ref a] ∧ SqL K H a (iv l) ∧ l.length ≤ 100000 ∧ RetL (iv (trimL l)) H Q
theorem cut_iv (l : List Int) (m : Nat) (h : m ≤ l.length) : cutV (iv l) none (some (m : Int)) = iv (l.take m) := by
  unfold cutV
  rw [HT.sIx_none, HT.sIx_nat, iv_len, Nat.min_eq_left h, List.drop_zero, Nat.sub_zero, ← List.map_take]
section
variable {P : Program} {w : World} {K : PySem.W.Frag} {mg : Str → Option Value} {base : Heap}
theorem ok_trim {f : Addr} {fd : FuncData} (F : Fun K "trimmed" "trimmed" sTrim f fd) (B : Free mg) : FnOk P w K mg base CX0 1 f fd ["numbers"] (spTrim K) := by
  refine F.ok scTrim (fun vs H Q E h => ?_) (fun cdv A outer s H vs Q E hr h => ?_)
  · obtain ⟨a, l, rfl, _⟩ := h
    rfl
  · obtain ⟨a, l, rfl, hS, hlen, q⟩ := h
    refine ⟨_, pss_cons (ps_set (i := 1) scTrim.nd rfl (.inl rfl) (pe_callB call_len_seq (by rfl) B.len PySem.boot_len (pa_cons (pv 0) pa_nil)))
      (pss_cons (ps_while PassesOwn.never (pw_and (pt_cmpR op_gt (pv 1) pe_int (nomark _)) (pw_and1 (pt_cmpR op_eq (pe_ix ix_list (pv 0) (pe_op op_sub (pv 1) pe_int) (fun _ _ => rfl)) pe_int (nomark _)))).pt
        (pss_one (ps_aug (i := 1) scTrim.nd rfl (.inl rfl) pe_int ip_sub)))
      (pss_one (ps_ret (pe_slice sl_list (pv 0) po_none (po_some (pv 1)))))), ?_⟩
    refine q_asg (ev_lenI (ev_var rfl) hS) fun H1 e1 => ?_
    refine q_while (fun m σ' H' => σ' = [some (.ref a), some (.int (m : Int))] ∧ Ex H H' ∧ m ≤ l.length ∧ trimN l l.length = trimN l m) l.length ⟨rfl, e1, Nat.le_refl _, rfl⟩ fun m σ' H' hW => ?_
    obtain ⟨rfl, e2, hm, et⟩ := hW
    refine ⟨decide ((0 : Int) < m) && decide (l.getD (m - 1) 0 = 0), et_and (et_test (ev_cmp (f := fun i j => decide (j < i)) (ev_var rfl) ev_c)) (fun hp => et_test (ev_eqI (ev_ixL (ev_var rfl) (ev_sub (ev_var rfl) ev_c) (ex_l e2 hS) (iv_at (i := m - 1) ?_ ?_)) ev_c)), fun hb H3 e3 => ?_, fun hb H3 e3 => ?_⟩
    · have := of_decide_eq_true hp
      omega
    · have := of_decide_eq_true hp
      omega
    · rw [Bool.and_eq_true] at hb
      have h1 := of_decide_eq_true hb.1
      have h2 := of_decide_eq_true hb.2
      obtain ⟨k, rfl⟩ : ∃ k, m = k + 1 := ⟨m - 1, by omega⟩
      rw [Nat.add_sub_cancel] at h2
      refine ⟨fun σ2 H2 => σ2 = [some (.ref a), some (.int (k : Int))] ∧ Ex H H2, fun σ2 H2 hN => ⟨k, Nat.lt_succ_self k, hN.1, hN.2, by omega, ?_⟩, ?_⟩
      · rw [et]
        exact if_pos h2
      · refine s_aug (f := fun i j => i - j) rfl ev_c fun H4 e4 => ⟨?_, (e2.trans e3).trans e4⟩
        have e : ((k + 1 : Nat) : Int) - 1 = (k : Int) := by omega
        show [some (V.ref a), some (V.int (((k + 1 : Nat) : Int) - 1))] = _
        rw [e]
    · have et2 : trimN l m = m := by
        cases m with
        | zero => rfl
        | succ k =>
          rw [Nat.add_sub_cancel] at hb
          show (if l.getD k 0 = 0 then trimN l k else k + 1) = k + 1
          split
          · rename_i h2
            rw [decide_eq_true (show (0 : Int) < ((k + 1 : Nat) : Int) by omega), decide_eq_true h2] at hb
            exact absurd hb (by decide)
          · rfl
      refine s_retL (el_sl (ev_var rfl) eo_none (eo_some (ev_var rfl)) (ex_l (e2.trans e3) hS)) fun p H4 hp e4 h4 => ?_
      rw [cut_iv l m hm] at h4
      refine RetL.go q (e2.trans e3) hp e4 ?_
      rw [h4]
      unfold trimL
      rw [et, et2]
end
end RK
end

section
set_option Elab.async false
set_option linter.all false
set_option maxRecDepth 100000
set_option maxHeartbeats 4000000
namespace RK
open PySem PySem.Spec PyProof.Rows L2 Evl
/-! ### lists of whole numbers compared with [] -/
theorem canLay_ints : ∀ l : List Int, PyData.canLayAll0 (l.map .int) = true
  | [] => rfl
  | x :: l => by
    show (PyData.canLay0 (.int x) && PyData.canLayAll0 (l.map .int)) = true
    rw [canLay_ints l]
    rfl
theorem shaped_ints (l : List Int) : SeqAt.shaped (.list (l.map .int)) = true := by
  unfold SeqAt.shaped
  rw [Bool.and_eq_true]
  refine ⟨canLay_ints l, decide_eq_true ?_⟩
  have e : (PyData.list (l.map .int)).depth = PyData.depthAll (l.map .int) + 1 := rfl
  rw [e, PySem.W.depth_ints]
  decide
theorem dpAll_ints (K : PySem.W.Frag) (H : Hp) : ∀ l : List Int, DpAll K H (iv l) (l.map .int)
  | [] => .nil
  | x :: l => .cons (.int x) (dpAll_ints K H l)
theorem eqv_nil (l : List Int) : PyData.eqv (.list (l.map .int)) (.list []) = decide (l = []) := by
  cases l with
  | nil => rfl
  | cons x l => rfl
section
variable {K : PySem.W.Frag} {σ : L2.St} {H : Hp} {ta : TE}
theorem ev_eqNil {p : Addr} {l : List Int} (ha : Ev ta σ H (.ref p)) (h : SqL K H p (iv l)) : Ev (tOp (rEqD K) ta (tLst tNil)) σ H (.bl (decide (l = []))) :=
  ev_opL ha (el_lst ea_nil (Nat.zero_le _)) fun q H1 hq e H2 e2 Q k => ⟨.list (l.map .int), .list [], .lst (ex_l (e.trans e2) h) (dpAll_ints K H2 l), .lst (.inl (.inl (e2 q _ hq))) .nil, shaped_ints l, rfl, by
    rw [eqv_nil]
    exact k H2 (Ex.refl H2)⟩
end
theorem ev_to {te : TE} {σ : L2.St} {H : Hp} {z z' : Int} (h : Ev te σ H (.int z)) (e : z = z') : Ev te σ H (.int z') := e ▸ h
theorem zipAdd_nil (c : Int) (l : List Int) : zipAdd c l [] = l := by cases l <;> rfl
theorem rowAdd_nil (c : Int) : ∀ (i : Nat) (l : List Int), rowAdd c [] i l = l
  | 0, l => zipAdd_nil c l
  | _ + 1, [] => rfl
  | i + 1, x :: l => by
    show x :: rowAdd c [] i l = _
    rw [rowAdd_nil c i l]
theorem zipAdd_step (c : Int) : ∀ (l g : List Int) (j : Nat), j < g.length → j < l.length → addAt (zipAdd c l (g.take j)) j (c * g.getD j 0) = zipAdd c l (g.take (j + 1))
  | [], g, j, _, h => by simp at h
  | x :: l, [], j, h, _ => by simp at h
  | x :: l, y :: g, 0, _, _ => by
    simp only [List.take_zero, zipAdd_nil, addAt, List.take_succ_cons, zipAdd, List.getD_cons_zero]
  | x :: l, y :: g, j + 1, h, h2 => by
    have ih := zipAdd_step c l g j (by simpa using h) (by simpa using h2)
    simp only [List.take_succ_cons, zipAdd, addAt, List.getD_cons_succ, ih]
theorem rowAdd_step (c : Int) (g : List Int) (j : Nat) (hj : j < g.length) : ∀ (i : Nat) (l : List Int), i + j < l.length → addAt (rowAdd c (g.take j) i l) (i + j) (c * g.getD j 0) = rowAdd c (g.take (j + 1)) i l
  | 0, l, h => by
    rw [Nat.zero_add]
    exact zipAdd_step c l g j hj (by omega)
  | i + 1, [], h => by simp at h
  | i + 1, x :: l, h => by
    have ih := rowAdd_step c g j hj i l (by simp only [List.length_cons] at h; omega)
    have e : i + 1 + j = (i + j) + 1 := by omega
    rw [e]
    simp only [rowAdd, addAt, ih]
theorem keep_new {H : Hp} {t T : Addr} {x o : HO} (e : H t = some x) (n : H T = none) : upd H T o t = some x := by
  rw [upd_ne (ne_of_none e n)]
  exact e
theorem getD_mem {l : List Int} {i : Nat} (h : i < l.length) : l.getD i 0 ∈ l := by
  rw [List.getD_eq_getElem?_getD, List.getElem?_eq_getElem h]
  exact List.getElem_mem h

abbrev sTimes : Stmt := topS 5
theorem scTimes : FnScope ["f", "g", "told", "i", "x", "j", "y"] ["f", "g"] (defScope sTimes) := ⟨rfl, rfl, rfl, by decide +kernel, rfl, by decide +kernel, by decide +kernel⟩
def spTimes (K : PySem.W.Frag) : Sp := fun vs H Q _ => ∃ (a b : Addr) (f g : List Int), vs = [.ref a, .ref b] ∧ SqL K H a (iv f) ∧ SqL K H b (iv g) ∧ f.length + g.length ≤ 100000 ∧ (∀ x ∈ f, ∀ y ∈ g, CMulW x y) ∧ RetL (iv (timesL f g)) H Q
section
variable {P : Program} {w : World} {K : PySem.W.Frag} {mg : Str → Option Value} {base : Heap}
theorem ok_times {fa : Addr} {fd : FuncData} (F : Fun K "times" "times" sTimes fa fd) (B : Free mg) (GT : Has P w K mg base 1 "trimmed" ["numbers"] (spTrim K)) : FnOk P w K mg base CX0 2 fa fd ["f", "g"] (spTimes K) := by
  refine F.ok scTimes (fun vs H Q E h => ?_) (fun cdv A outer s H vs Q E hr h => ?_)
  · obtain ⟨a, b, f, g, rfl, _⟩ := h
    rfl
  · obtain ⟨a, b, f, g, rfl, hF, hG, hlen, hmul, q⟩ := h
    refine ⟨_, pss_cons (ps_if (pw_or (pt_cmpR (op_eqD hr.units) (pv 0) (pe_lst pa_nil) (nomark _)) (pw_or1 (pt_cmpR (op_eqD hr.units) (pv 1) (pe_lst pa_nil) (nomark _)))).pt (pss_one (ps_ret (pe_lst pa_nil))) pss_nil)
      (pss_cons (ps_set (i := 2) scTimes.nd rfl (.inl rfl) (pe_op op_rep (pe_lst (pa_cons pe_int pa_nil)) (pe_op op_sub (pe_op op_add (pe_callB call_len_seq (by rfl) B.len PySem.boot_len (pa_cons (pv 0) pa_nil)) (pe_callB call_len_seq (by rfl) B.len PySem.boot_len (pa_cons (pv 1) pa_nil))) pe_int)))
      (pss_cons (ps_for PassesOwn.never rfl (pi_enum (by rfl) B.enumerate (pa_cons (pv 0) pa_nil)) (pg_tup rfl (pgs_cons (pg_name (i := 3) scTimes.nd rfl (.inl rfl)) (pgs_cons (pg_name (i := 4) scTimes.nd rfl (.inl rfl)) pgs_nil)))
        (pss_one (ps_for PassesOwn.never rfl (pi_enum (by rfl) B.enumerate (pa_cons (pv 1) pa_nil)) (pg_tup rfl (pgs_cons (pg_name (i := 5) scTimes.nd rfl (.inl rfl)) (pgs_cons (pg_name (i := 6) scTimes.nd rfl (.inl rfl)) pgs_nil)))
          (pss_one (ps_augS (pv 2) (pe_op op_add (pv 3) (pv 5)) get_list (pe_op op_mulW (pv 4) (pv 6)) ip_add set_list)))))
      (pss_one (ps_ret (pe_callD GT hr (by rfl) (pa_cons (pv 2) pa_nil)))))), ?_⟩
    refine q_when (et_or (et_test (ev_eqNil (ev_var rfl) hF)) fun _ => et_test (ev_eqNil (ev_var rfl) hG)) (fun hb H1 e1 => ?_) (fun hb H1 e1 => ?_)
    · refine s_retL (el_lst ea_nil (Nat.zero_le _)) fun p H2 hp e2 h2 => RetL.go q e1 hp e2 ?_
      rw [h2]
      rw [Bool.or_eq_true] at hb
      unfold timesL
      rw [if_pos (hb.imp of_decide_eq_true of_decide_eq_true)]
      rfl
    · rw [Bool.or_eq_false_iff] at hb
      have hf : f ≠ [] := of_decide_eq_false hb.1
      have hg : g ≠ [] := of_decide_eq_false hb.2
      have hf1 : 0 < f.length := List.length_pos_iff.mpr hf
      have hg1 : 0 < g.length := List.length_pos_iff.mpr hg
      refine q_asgL (el_zeros (k := f.length + g.length - 1) (ev_sub (ev_add (ev_lenI (ev_var rfl) (ex_l e1 hF)) (ev_lenI (ev_var rfl) (ex_l e1 hG))) ev_c) (by omega) (by omega) (by omega)) fun t H2 ht e2 h2 => ?_
      have nt : H t = none := fresh_back e1 ht
      have e12 := e1.trans e2
      refine q_forE (ev_var rfl) (ex_l e12 hF) (fun i σ' H' => ∃ y3 y4 y5 y6, σ' = [some (.ref a), some (.ref b), some (.ref t), y3, y4, y5, y6] ∧ Ex H H' ∧ H' t = some (.lst (iv (eFold (fun i x t => rowAdd x g i t) f (zeros (f.length + g.length - 1)) i))))
        (fun H3 e3 => ⟨none, none, none, none, rfl, e12.trans e3, e3 t _ h2⟩) (fun i σ' H' _ p => ?_) (fun i σ' H' T o p nT => ?_) (fun i σ' H' hi p => ?_) (fun σ' H' p => ?_)
      · obtain ⟨y3, y4, y5, y6, rfl, e3, h3⟩ := p
        exact ex_l e3 hF
      · obtain ⟨y3, y4, y5, y6, rfl, e3, h3⟩ := p
        exact ⟨y3, y4, y5, y6, rfl, e3.trans (Ex.new nT), keep_new h3 nT⟩
      · obtain ⟨y3, y4, y5, y6, rfl, e3, h3⟩ := p
        have hl : (eFold (fun i x t => rowAdd x g i t) f (zeros (f.length + g.length - 1)) i).length = f.length + g.length - 1 := by rw [eFold_len _ _ (fun i x t => len_rowAdd x g i t), len_zeros]
        refine s_forE (ev_var rfl) (ex_l e3 hG) (fun j σ2 H4 => ∃ y5 y6, σ2 = [some (.ref a), some (.ref b), some (.ref t), some (.int (i : Int)), some (.int (f.getD i 0)), y5, y6] ∧ Ex H H4 ∧ H4 t = some (.lst (iv (rowAdd (f.getD i 0) (g.take j) i (eFold (fun i x t => rowAdd x g i t) f (zeros (f.length + g.length - 1)) i)))))
          (fun H4 e4 => ⟨y5, y6, rfl, e3.trans e4, by rw [List.take_zero, rowAdd_nil]; exact e4 t _ h3⟩) (fun j σ2 H4 _ p => ?_) (fun j σ2 H4 T o p nT => ?_) (fun j σ2 H4 hj p => ?_) (fun σ2 H4 p => ?_)
        · obtain ⟨y5, y6, rfl, e4, h4⟩ := p
          exact ex_l e4 hG
        · obtain ⟨y5, y6, rfl, e4, h4⟩ := p
          exact ⟨y5, y6, rfl, e4.trans (Ex.new nT), keep_new h4 nT⟩
        · obtain ⟨y5, y6, rfl, e4, h4⟩ := p
          refine s_augAdd (k := i + j) (b := f.getD i 0 * g.getD j 0) h4 (ev_var rfl) (ev_to (ev_add (i := (i : Int)) (j := (j : Int)) (ev_var rfl) (ev_var rfl)) (by omega)) (by rw [len_rowAdd, hl]; omega) (ev_mulW (ev_var rfl) (ev_var rfl) (hmul _ (getD_mem hi) _ (getD_mem hj))) fun H5 e5 => ?_
          exact ⟨_, _, rfl, (e4.trans e5).mut nt, by rw [upd_same, rowAdd_step _ _ _ hj _ _ (by rw [hl]; omega)]⟩
        · obtain ⟨y5, y6, rfl, e4, h4⟩ := p
          rw [List.take_length] at h4
          exact ⟨_, _, y5, y6, rfl, e4, h4⟩
      · obtain ⟨y3, y4, y5, y6, rfl, e3, h3⟩ := p
        refine s_retL (el_call (ea_cons (ev_var rfl) ea_nil) fun H4 e4 Q' k E' => ⟨t, _, rfl, sq_of (e4 t _ h3), ?_, fun p H5 hp e5 h5 => k p H5 hp e5 h5⟩) fun p H5 hp e5 h5 => RetL.go q e3 hp e5 ?_
        · rw [eFold_len _ _ (fun i x t => len_rowAdd x g i t), len_zeros]
          omega
        · rw [h5]
          unfold timesL
          rw [if_neg (fun z => z.elim hf hg)]
end
end RK
end

section
set_option Elab.async false
set_option linter.all false
set_option maxRecDepth 100000
set_option maxHeartbeats 4000000
namespace RK
open PySem PySem.Spec PyProof.Rows L2 Evl
/-! ### parting -/
def overIt (f g : List Int) (m : Nat) : Nat → List Int × List Int
  | 0 => (zeros m, f)
  | i + 1 => ((overIt f g m i).1.set (m - 1 - i) ((overIt f g m i).2.getD (m - 1 - i + g.length - 1) 0),
      rowAdd (-((overIt f g m i).2.getD (m - 1 - i + g.length - 1) 0)) g (m - 1 - i) (overIt f g m i).2)
def overQ (f g : List Int) : List Int := (overIt f g (f.length + 1 - g.length) (f.length + 1 - g.length)).1
def overR (f g : List Int) : List Int := (overIt f g (f.length + 1 - g.length) (f.length + 1 - g.length)).2
theorem len_overIt (f g : List Int) (m : Nat) : ∀ i, (overIt f g m i).1.length = m ∧ (overIt f g m i).2.length = f.length
  | 0 => ⟨len_zeros m, rfl⟩
  | i + 1 => by
    obtain ⟨h1, h2⟩ := len_overIt f g m i
    exact ⟨by show (List.set _ _ _).length = m; rw [List.length_set, h1], by show (rowAdd _ _ _ _).length = _; rw [len_rowAdd, h2]⟩
theorem iv_last {l : List Int} (h : 0 < l.length) : atI (iv l) (-1) = some (.int (l.getD (l.length - 1) 0)) := by
  have hne : l ≠ [] := List.length_pos_iff.mp h
  have e : iv l = iv l.dropLast ++ [.int (l.getLast hne)] := by
    rw [← List.map_singleton, ← List.map_append, List.dropLast_concat_getLast]
  rw [e, atI_last]
  congr 2
  rw [List.getLast_eq_getElem, List.getD_eq_getElem?_getD, List.getElem?_eq_getElem (by omega)]
  rfl
section
variable {K : PySem.W.Frag} {σ : L2.St} {H : Hp} {te : TE} {D : Ends} {tu tz : TS}
/-- for at in reversed(range(n)) -/
theorem q_forRR {j n : Nat} (h : Ev te σ H (.int (n : Int))) (hn : n ≤ 100000) (Pv : Nat → L2.St → Hp → Prop) (h0 : ∀ H1, Ex H H1 → Pv 0 σ H1)
    (hs : ∀ (i : Nat) σ' H', i < n → Pv i σ' H' → tu { D with nx := Pv (i + 1), ct := Pv (i + 1), bk := tz D } (σ'.set j (some (.int ((n - 1 - i : Nat) : Int)))) H') (hd : ∀ σ' H', Pv n σ' H' → tz D σ' H') : tSeq (tFor (iRevR (tRg1 te)) (gName j) tu) tz D σ H :=
  h H (Ex.refl H) _ fun H1 e => ⟨n, rfl, by omega, by omega, by omega, by omega, for_rangeC (n := ((n : Int) - 0).toNat) Pv (h0 H1 e) (fun i σ' H' hi p => by
    have hi' : i < n := by omega
    have e0 : (0 : Int) + ((((n : Int) - 0).toNat : Nat) : Int) - 1 + (i : Int) * (-1) = ((n - 1 - i : Nat) : Int) := by omega
    show tu { D with nx := Pv (i + 1), ct := Pv (i + 1), bk := tz D } (σ'.set j (some (.int ((0 : Int) + ((((n : Int) - 0).toNat : Nat) : Int) - 1 + (i : Int) * (-1))))) H'
    rw [e0]
    exact hs i σ' H' hi' p) (fun σ' H' p => by
    have e1 : ((n : Int) - 0).toNat = n := by omega
    rw [e1] at p
    exact hd σ' H' p)⟩
end
abbrev sOver : Stmt := topS 6
theorem scOver : FnScope ["f", "g", "left", "told", "at", "number", "k", "x"] ["f", "g"] (defScope sOver) := ⟨rfl, rfl, rfl, by decide +kernel, rfl, by decide +kernel, by decide +kernel⟩
/-- what parting asks: g is whole, f not much shorter, g's numbers small -/
structure CanOver (f g : List Int) : Prop where
  pos : 0 < g.length
  one : g.getD (g.length - 1) 0 = 1
  len : g.length ≤ f.length + 1
  most : f.length ≤ 50000
  small : ∀ x ∈ g, -(2 ^ 64) < x ∧ x < 2 ^ 64
def spOver (K : PySem.W.Frag) : Sp := fun vs H Q _ => ∃ (a b : Addr) (f g : List Int), vs = [.ref a, .ref b] ∧ SqL K H a (iv f) ∧ SqL K H b (iv g) ∧ CanOver f g ∧
  ∀ p p1 p2 H2, H p = none → H p1 = none → Ex H H2 → H2 p = some (.tup [.ref p1, .ref p2]) → H2 p1 = some (.lst (iv (trimL (overQ f g)))) → H2 p2 = some (.lst (iv (trimL (overR f g)))) → Q (.ref p) H2
section
variable {P : Program} {w : World} {K : PySem.W.Frag} {mg : Str → Option Value} {base : Heap}
theorem ok_over {fa : Addr} {fd : FuncData} (F : Fun K "over" "over" sOver fa fd) (B : Free mg) (GT : Has P w K mg base 1 "trimmed" ["numbers"] (spTrim K)) : FnOk P w K mg base CX0 2 fa fd ["f", "g"] (spOver K) := by
  refine F.ok scOver (fun vs H Q E h => ?_) (fun cdv A outer s H vs Q E hr h => ?_)
  · obtain ⟨a, b, f, g, rfl, _⟩ := h
    rfl
  · obtain ⟨a, b, f, g, rfl, hF, hG, c, q⟩ := h
    refine ⟨_, pss_cons (ps_if (pw_or (pt_cmpR (op_eqD hr.units) (pv 1) (pe_lst pa_nil) (nomark _)) (pw_or1 (pt_cmpR op_ne (pe_ix ix_list (pv 1) (pe_un un_neg pe_int) (fun _ _ => rfl)) pe_int (nomark _)))).pt (pss_one ps_never) pss_nil)
      (pss_cons (ps_set (i := 2) scOver.nd rfl (.inl rfl) (pe_callTy call_list_of (by rfl) B.list (by decide +kernel) (pa_cons (pv 0) pa_nil)))
      (pss_cons (ps_set (i := 3) scOver.nd rfl (.inl rfl) (pe_op op_rep (pe_lst (pa_cons pe_int pa_nil)) (pe_callB (call_max2 rfl) (by rfl) B.max (by decide +kernel) (pa_cons pe_int (pa_cons (pe_op op_add (pe_op op_sub (pe_callB call_len_seq (by rfl) B.len PySem.boot_len (pa_cons (pv 0) pa_nil)) (pe_callB call_len_seq (by rfl) B.len PySem.boot_len (pa_cons (pv 1) pa_nil))) pe_int) pa_nil)))))
      (pss_cons (ps_for PassesOwn.never rfl (pi_revR (by rfl) B.reversed (prg_1 (by rfl) B.range (pe_callB call_len_seq (by rfl) B.len PySem.boot_len (pa_cons (pv 3) pa_nil)))) (pg_name (i := 4) scOver.nd rfl (.inl rfl))
        (pss_cons (ps_set (i := 5) scOver.nd rfl (.inl rfl) (pe_ix ix_list (pv 2) (pe_op op_sub (pe_op op_add (pv 4) (pe_callB call_len_seq (by rfl) B.len PySem.boot_len (pa_cons (pv 1) pa_nil))) pe_int) (fun _ _ => rfl)))
        (pss_cons (ps_asg (pv 5) (pg_sub (pv 3) (pv 4) set_list))
        (pss_one (ps_for PassesOwn.never rfl (pi_enum (by rfl) B.enumerate (pa_cons (pv 1) pa_nil)) (pg_tup rfl (pgs_cons (pg_name (i := 6) scOver.nd rfl (.inl rfl)) (pgs_cons (pg_name (i := 7) scOver.nd rfl (.inl rfl)) pgs_nil)))
          (pss_one (ps_augS (pv 2) (pe_op op_add (pv 4) (pv 6)) get_list (pe_op op_mul (pv 5) (pv 7)) ip_sub set_list)))))))
      (pss_one (ps_ret (pe_tup (pa_cons (pe_callD GT hr (by rfl) (pa_cons (pv 3) pa_nil)) (pa_cons (pe_callD GT hr (by rfl) (pa_cons (pv 2) pa_nil)) pa_nil)))))))), ?_⟩
    have hpos := c.pos
    have hlen := c.len
    have hmost := c.most
    generalize hm : f.length + 1 - g.length = m
    refine q_when (b := false) (et_is (et_or (et_test (ev_eqNil (ev_var rfl) hG)) fun _ => et_test (ev_neI (ev_ixL (ev_var rfl) (ev_neg ev_c) hG (iv_last c.pos)) ev_c)) ?_) (fun hb => by cases hb) (fun hb H1 e1 => ?_)
    · rw [Bool.or_eq_false_iff]
      refine ⟨decide_eq_false (List.length_pos_iff.mp c.pos), ?_⟩
      rw [c.one]
      rfl
    refine q_asgL (el_listI (ev_var rfl) (ex_l e1 hF)) fun tl H2 nl e2 h2 => ?_
    have e12 := e1.trans e2
    have nl0 : H tl = none := fresh_back e1 nl
    refine q_asgL (el_zeros (k := m) (j := (m : Int)) (ev_to (ev_max2 ev_c (ev_add (ev_sub (ev_lenI (ev_var rfl) (ex_l e12 hF)) (ev_lenI (ev_var rfl) (ex_l e12 hG))) ev_c)) ?_) (by omega) (by omega) (by omega)) fun t H3 nt e3 h3 => ?_
    · split <;> omega
    have e13 := e12.trans e3
    have nt0 : H t = none := fresh_back e12 nt
    have ntl : tl ≠ t := ne_of_none h2 nt
    have lenm : ∀ i, (overIt f g m i).1.length = m ∧ (overIt f g m i).2.length = f.length := len_overIt f g m
    refine q_forRR (n := m) (ev_to (ev_lenI (l := zeros m) (ev_var rfl) (sq_of h3)) (by rw [len_zeros])) (by omega) (fun i σ' H' => ∃ y4 y5 y6 y7, σ' = [some (.ref a), some (.ref b), some (.ref tl), some (.ref t), y4, y5, y6, y7] ∧ Ex H H' ∧ H' t = some (.lst (iv (overIt f g m i).1)) ∧ H' tl = some (.lst (iv (overIt f g m i).2)))
      (fun H4 e4 => ⟨none, none, none, none, rfl, e13.trans e4, e4 t _ h3, e4 tl _ (e3 tl _ h2)⟩) (fun i σ' H' hi p => ?_) (fun σ' H' p => ?_)
    · obtain ⟨y4, y5, y6, y7, rfl, e4, h4, h5⟩ := p
      obtain ⟨l1, l2⟩ := lenm i
      refine q_asg (ev_ixL (ev_var rfl) (ev_sub (ev_add (ev_var rfl) (ev_lenI (ev_var rfl) (ex_l e4 hG))) ev_c) (sq_of h5) (iv_at (i := m - 1 - i + g.length - 1) (by omega) (by omega))) fun H5 e5 => ?_
      generalize hc : (overIt f g m i).2.getD (m - 1 - i + g.length - 1) 0 = c1
      refine s_setI (e5 t _ h4) (ev_var rfl) (ev_var rfl) (ev_var rfl) (by omega) fun H6 e6 => ?_
      have e46 : Ex H (upd H6 t (.lst (iv ((overIt f g m i).1.set (m - 1 - i) c1)))) := ((e4.trans e5).trans e6).mut nt0
      have h7 : (upd H6 t (.lst (iv ((overIt f g m i).1.set (m - 1 - i) c1)))) tl = some (.lst (iv (overIt f g m i).2)) := by
        rw [upd_ne ntl]
        exact e6 tl _ (e5 tl _ h5)
      refine s_forE (ev_var rfl) (ex_l e46 hG) (fun j σ2 H7 => ∃ y6 y7, σ2 = [some (.ref a), some (.ref b), some (.ref tl), some (.ref t), some (.int ((m - 1 - i : Nat) : Int)), some (.int c1), y6, y7] ∧ Ex H H7 ∧ H7 t = some (.lst (iv ((overIt f g m i).1.set (m - 1 - i) c1))) ∧ H7 tl = some (.lst (iv (rowAdd (-c1) (g.take j) (m - 1 - i) (overIt f g m i).2))))
        (fun H7 e7 => ⟨y6, y7, rfl, e46.trans e7, e7 t _ upd_same, by rw [List.take_zero, rowAdd_nil]; exact e7 tl _ h7⟩) (fun j σ2 H7 _ p => ?_) (fun j σ2 H7 T o p nT => ?_) (fun j σ2 H7 hj p => ?_) (fun σ2 H7 p => ?_)
      · obtain ⟨y6, y7, rfl, e7, h8, h9⟩ := p
        exact ex_l e7 hG
      · obtain ⟨y6, y7, rfl, e7, h8, h9⟩ := p
        exact ⟨y6, y7, rfl, e7.trans (Ex.new nT), keep_new h8 nT, keep_new h9 nT⟩
      · obtain ⟨y6, y7, rfl, e7, h8, h9⟩ := p
        refine s_augSub (k := m - 1 - i + j) (b := c1 * g.getD j 0) h9 (ev_var rfl) (ev_to (ev_add (i := ((m - 1 - i : Nat) : Int)) (j := (j : Int)) (ev_var rfl) (ev_var rfl)) (by omega)) (by rw [len_rowAdd, l2]; omega) (ev_mul (ev_var rfl) (ev_var rfl) (.inr (c.small _ (getD_mem hj)))) fun H8 e8 => ?_
        refine ⟨_, _, rfl, (e7.trans e8).mut nl0, ?_, ?_⟩
        · rw [upd_ne ntl.symm]
          exact e8 t _ h8
        · rw [upd_same, ← rowAdd_step _ _ _ hj _ _ (by rw [l2]; omega), Int.neg_mul]
      · obtain ⟨y6, y7, rfl, e7, h8, h9⟩ := p
        rw [List.take_length] at h9
        refine ⟨_, _, y6, y7, rfl, e7, ?_, ?_⟩
        · rw [h8, ← hc]
          rfl
        · rw [h9, ← hc]
          rfl
    · obtain ⟨y4, y5, y6, y7, rfl, e4, h4, h5⟩ := p
      obtain ⟨l1, l2⟩ := lenm m
      have G : ∀ (σ0 : L2.St) (Hx : Hp) (s : Nat) (r : Addr) (l : List Int), σ0[s]? = some (some (.ref r)) → Hx r = some (.lst (iv l)) → l.length ≤ 100000 → EvL (tCall (spTrim K) [] E0 (tCons (tVar s) tNil)) σ0 Hx (iv (trimL l)) := fun σ0 Hx s r l hs hx hl =>
        el_call (ea_cons (ev_var hs) ea_nil) fun H4 e4 Q' k E' => ⟨r, _, rfl, sq_of (e4 r _ hx), hl, fun p H5 hp e5 h5 => k p H5 hp e5 h5⟩
      refine G _ H' 3 t _ rfl h4 (by omega) H' (Ex.refl H') _ fun p1 H5 n1 e5 k1 => ?_
      refine G _ H5 2 tl _ rfl (e5 tl _ h5) (by omega) H5 (Ex.refl H5) _ fun p2 H6 n2 e6 k2 => ⟨by show 2 ≤ sizeLine; decide, fun p np => ?_⟩
      have e46 := (e4.trans e5).trans e6
      refine q p p1 p2 _ (fresh_back e46 np) (fresh_back e4 n1) (e46.trans (Ex.new np)) upd_same ?_ ?_
      · rw [keep_new (e6 _ _ k1) np]
        unfold overQ
        rw [hm]
      · rw [keep_new k2 np]
        unfold overR
        rw [hm]
end
end RK
end

section
set_option Elab.async false
set_option linter.all false
set_option maxRecDepth 100000
set_option maxHeartbeats 4000000
namespace RK
open PySem PySem.Spec PyProof.Rows L2 Evl
abbrev nv (l : List Nat) : List V := l.map fun (k : Nat) => V.int (k : Int)
theorem units_given (n : Nat) : given n (fun k => decide ((Nat.gcd k n : Int) = 1)) (fun k => .int (k : Int)) = nv (UN n) := by
  unfold given UN nv
  have e : (fun k => decide ((Nat.gcd k n : Int) = 1)) = fun k => Nat.gcd k n == 1 := by
    funext k
    by_cases hg : Nat.gcd k n = 1
    · rw [decide_eq_true (by omega), hg]
      rfl
    · rw [decide_eq_false (by omega), beq_false_of_ne hg]
  rw [e]
def spCommon : Sp := fun vs H Q _ => ∃ a b : Nat, vs = [.int (a : Int), .int (b : Int)] ∧ RetV (.int (Nat.gcd a b : Int)) H Q
def spUnits : Sp := fun vs H Q _ => ∃ n : Nat, vs = [.int (n : Int)] ∧ n ≤ 1000 ∧ RetL (nv (UN n)) H Q
abbrev sCommon : Stmt := topS 10
theorem scCommon : FnScope ["one", "other"] ["one", "other"] (defScope sCommon) := ⟨rfl, rfl, rfl, by decide +kernel, rfl, by decide +kernel, by decide +kernel⟩
abbrev sUnits : Stmt := topS 11
theorem scUnits : FnScope ["n", "k"] ["n"] (defScope sUnits) := ⟨rfl, rfl, rfl, by decide +kernel, rfl, by decide +kernel, by decide +kernel⟩
section
variable {P : Program} {w : World} {K : PySem.W.Frag} {mg : Str → Option Value} {base : Heap}
theorem ok_common {fa : Addr} {fd : FuncData} (F : Fun K "common" "common" sCommon fa fd) : FnOk P w K mg base CX0 1 fa fd ["one", "other"] spCommon := by
  refine F.ok scCommon (fun vs H Q E h => ?_) (fun cdv A outer s H vs Q E hr h => ?_)
  · obtain ⟨a, b, rfl, _⟩ := h
    rfl
  · obtain ⟨a, b, rfl, q⟩ := h
    refine ⟨_, pss_cons (ps_while PassesOwn.never (pt_cmpR op_ne (pv 1) pe_int (nomark _)) (pss_one (ps_par (i := 0) (j := 1) rfl scCommon.nd rfl rfl (by decide) rfl rfl (pa_cons (pv 1) (pa_cons (pe_op op_mod (pv 0) (pv 1)) pa_nil)) rfl)))
      (pss_one (ps_ret (pv 0))), ?_⟩
    refine q_while (fun m σ' H' => ∃ a' : Nat, σ' = [some (.int (a' : Int)), some (.int (m : Int))] ∧ Ex H H' ∧ Nat.gcd a' m = Nat.gcd a b) b ⟨a, rfl, Ex.refl H, rfl⟩ fun m σ' H' hW => ?_
    obtain ⟨a', rfl, e1, eg⟩ := hW
    refine ⟨!decide ((m : Int) = 0), et_test (ev_neI (ev_var rfl) ev_c), fun hb H2 e2 => ?_, fun hb H2 e2 => ?_⟩
    · have hm : m ≠ 0 := fun z => by
        subst z
        exact absurd hb (by decide)
      refine ⟨fun σ2 H3 => σ2 = [some (.int (m : Int)), some (.int ((a' % m : Nat) : Int))] ∧ Ex H H3, fun σ2 H3 hN => ⟨a' % m, Nat.mod_lt _ (by omega), m, hN.1, hN.2, ?_⟩, ?_⟩
      · rw [← eg, Nat.gcd_comm m, ← Nat.gcd_rec, Nat.gcd_comm]
      · refine (ea_cons (ev_var rfl) (ea_cons (ev_to (ev_mod (i := (a' : Int)) (j := (m : Int)) (ev_var rfl) (ev_var rfl) (by omega)) (Int.natCast_emod a' m).symm) ea_nil)) H2 (Ex.refl H2) _ fun H3 e3 => ⟨_, _, rfl, rfl, (e1.trans e2).trans e3⟩
    · have hm : m = 0 := by
        have := of_decide_eq_true (show decide ((m : Int) = 0) = true by simpa using hb)
        omega
      subst hm
      rw [Nat.gcd_zero_right] at eg
      subst eg
      exact s_ret (ev_var rfl) fun H3 e3 => q H3 ((e1.trans e2).trans e3)
theorem ok_units {fa : Addr} {fd : FuncData} (F : Fun K "units" "units" sUnits fa fd) (B : Free mg) (GC : Has P w K mg base 1 "common" ["one", "other"] spCommon) : FnOk P w K mg base CX0 2 fa fd ["n"] spUnits := by
  refine F.ok scUnits (fun vs H Q E h => ?_) (fun cdv A outer s H vs Q E hr h => ?_)
  · obtain ⟨n, rfl, _⟩ := h
    rfl
  · obtain ⟨n, rfl, hn, q⟩ := h
    refine ⟨_, pss_one (ps_ret (pe_lc (own := [("k", 1)]) (g := gName 1) rfl scUnits.nd (pi_range1 (by rfl) B.range (pa_cons (pv 0) pa_nil)) (blkOk_by (own := [("k", 1)]) (N := ["n", "k"]) (sc := defScope sUnits) (by decide +kernel))
      (fun _ _ _ _ _ => pg_name (i := 1) scUnits.nd rfl (Or.inl rfl)) (fun _ _ _ _ _ => pts_one (pt_cmpR op_eq (pe_callD GC hr (by rfl) (pa_cons (pv 1) (pa_cons (pv 0) pa_nil))) pe_int (nomark _))) (fun _ _ _ _ _ => pv 1))), ?_⟩
    refine s_retL (el_lcR1 (n := (n : Int)) (fun k => decide ((Nat.gcd k n : Int) = 1)) (fun k => .int (k : Int)) (ea_cons (ev_var rfl) ea_nil) (by omega) (fun x => rfl) (fun i H1 e1 hi => ?_) (fun i H1 e1 hi _ => ev_var rfl)) fun p H2 hp e2 h2 => ?_
    · exact et_test (ev_eqI (ev_call (ea_cons (ev_var rfl) (ea_cons (ev_var rfl) ea_nil)) fun H2 e2 Q' k E' => ⟨i, n, rfl, k⟩) ev_c)
    · refine q p H2 hp e2 ?_
      rw [h2, Int.toNat_natCast]
      exact congrArg _ (congrArg _ (units_given n))
end
abbrev sLCommon : Stmt := topS 28
theorem scLCommon : FnScope ["_law_one", "_law_other"] ["_law_one", "_law_other"] (defScope sLCommon) := ⟨rfl, rfl, rfl, by decide +kernel, rfl, by decide +kernel, by decide +kernel⟩
abbrev sLUnits : Stmt := topS 30
theorem scLUnits : FnScope ["_law_n", "_law_k"] ["_law_n"] (defScope sLUnits) := ⟨rfl, rfl, rfl, by decide +kernel, rfl, by decide +kernel, by decide +kernel⟩
section
variable {P : Program} {w : World} {K : PySem.W.Frag} {mg : Str → Option Value} {base : Heap}
theorem ok_lcommon {fa : Addr} {fd : FuncData} (F : Fun K "_law_common" "_law_common" sLCommon fa fd) : FnOk P w K mg base CX0 1 fa fd ["_law_one", "_law_other"] spCommon := by
  refine F.ok scLCommon (fun vs H Q E h => ?_) (fun cdv A outer s H vs Q E hr h => ?_)
  · obtain ⟨a, b, rfl, _⟩ := h
    rfl
  · obtain ⟨a, b, rfl, q⟩ := h
    refine ⟨_, pss_cons (ps_while PassesOwn.never (pt_cmpR op_ne (pv 1) pe_int (nomark _)) (pss_one (ps_par (i := 0) (j := 1) rfl scLCommon.nd rfl rfl (by decide) rfl rfl (pa_cons (pv 1) (pa_cons (pe_op op_mod (pv 0) (pv 1)) pa_nil)) rfl)))
      (pss_one (ps_ret (pv 0))), ?_⟩
    refine q_while (fun m σ' H' => ∃ a' : Nat, σ' = [some (.int (a' : Int)), some (.int (m : Int))] ∧ Ex H H' ∧ Nat.gcd a' m = Nat.gcd a b) b ⟨a, rfl, Ex.refl H, rfl⟩ fun m σ' H' hW => ?_
    obtain ⟨a', rfl, e1, eg⟩ := hW
    refine ⟨!decide ((m : Int) = 0), et_test (ev_neI (ev_var rfl) ev_c), fun hb H2 e2 => ?_, fun hb H2 e2 => ?_⟩
    · have hm : m ≠ 0 := fun z => by
        subst z
        exact absurd hb (by decide)
      refine ⟨fun σ2 H3 => σ2 = [some (.int (m : Int)), some (.int ((a' % m : Nat) : Int))] ∧ Ex H H3, fun σ2 H3 hN => ⟨a' % m, Nat.mod_lt _ (by omega), m, hN.1, hN.2, ?_⟩, ?_⟩
      · rw [← eg, Nat.gcd_comm m, ← Nat.gcd_rec, Nat.gcd_comm]
      · refine (ea_cons (ev_var rfl) (ea_cons (ev_to (ev_mod (i := (a' : Int)) (j := (m : Int)) (ev_var rfl) (ev_var rfl) (by omega)) (Int.natCast_emod a' m).symm) ea_nil)) H2 (Ex.refl H2) _ fun H3 e3 => ⟨_, _, rfl, rfl, (e1.trans e2).trans e3⟩
    · have hm : m = 0 := by
        have := of_decide_eq_true (show decide ((m : Int) = 0) = true by simpa using hb)
        omega
      subst hm
      rw [Nat.gcd_zero_right] at eg
      subst eg
      exact s_ret (ev_var rfl) fun H3 e3 => q H3 ((e1.trans e2).trans e3)
theorem ok_lunits {fa : Addr} {fd : FuncData} (F : Fun K "_law_units" "_law_units" sLUnits fa fd) (B : Free mg) (GC : Has P w K mg base 1 "_law_common" ["_law_one", "_law_other"] spCommon) : FnOk P w K mg base CX0 2 fa fd ["_law_n"] spUnits := by
  refine F.ok scLUnits (fun vs H Q E h => ?_) (fun cdv A outer s H vs Q E hr h => ?_)
  · obtain ⟨n, rfl, _⟩ := h
    rfl
  · obtain ⟨n, rfl, hn, q⟩ := h
    refine ⟨_, pss_one (ps_ret (pe_lc (own := [("_law_k", 1)]) (g := gName 1) rfl scLUnits.nd (pi_range1 (by rfl) B.range (pa_cons (pv 0) pa_nil)) (blkOk_by (own := [("_law_k", 1)]) (N := ["_law_n", "_law_k"]) (sc := defScope sLUnits) (by decide +kernel))
      (fun _ _ _ _ _ => pg_name (i := 1) scLUnits.nd rfl (Or.inl rfl)) (fun _ _ _ _ _ => pts_one (pt_cmpR op_eq (pe_callD GC hr (by rfl) (pa_cons (pv 1) (pa_cons (pv 0) pa_nil))) pe_int (nomark _))) (fun _ _ _ _ _ => pv 1))), ?_⟩
    refine s_retL (el_lcR1 (n := (n : Int)) (fun k => decide ((Nat.gcd k n : Int) = 1)) (fun k => .int (k : Int)) (ea_cons (ev_var rfl) ea_nil) (by omega) (fun x => rfl) (fun i H1 e1 hi => ?_) (fun i H1 e1 hi _ => ev_var rfl)) fun p H2 hp e2 h2 => ?_
    · exact et_test (ev_eqI (ev_call (ea_cons (ev_var rfl) (ea_cons (ev_var rfl) ea_nil)) fun H2 e2 Q' k E' => ⟨i, n, rfl, k⟩) ev_c)
    · refine q p H2 hp e2 ?_
      rw [h2, Int.toNat_natCast]
      exact congrArg _ (congrArg _ (units_given n))
end
end RK
end

section
set_option Elab.async false
set_option linter.all false
set_option maxRecDepth 100000
set_option maxHeartbeats 4000000
namespace RK
open PySem PySem.Spec PyProof.Rows L2 Evl
abbrev sRaised : Stmt := topS 12
theorem scRaised : FnScope ["p", "k", "told", "turn"] ["p", "k"] (defScope sRaised) := ⟨rfl, rfl, rfl, by decide +kernel, rfl, by decide +kernel, by decide +kernel⟩
def spRaised : Sp := fun vs H Q _ => ∃ p k : Nat, vs = [.int (p : Int), .int (k : Int)] ∧ p ≤ 1000 ∧ k ≤ 1000 ∧ RetV (.int ((p ^ k : Nat) : Int)) H Q
abbrev sLess : Stmt := topS 14
theorem scLess : FnScope ["d"] ["d"] (defScope sLess) := ⟨rfl, rfl, rfl, by decide +kernel, rfl, by decide +kernel, by decide +kernel⟩
def spLess : Sp := fun vs H Q _ => ∃ d : Nat, vs = [.int (d : Int)] ∧ 1 ≤ d ∧ d ≤ 1000 ∧ RetL (iv (lessOne d)) H Q
abbrev sOne : Stmt := topS 23
theorem scOne : FnScope ["n"] ["n"] (defScope sOne) := ⟨rfl, rfl, rfl, by decide +kernel, rfl, by decide +kernel, by decide +kernel⟩
def spOne : Sp := fun vs H Q _ => ∃ n : Nat, vs = [.int (n : Int)] ∧ 1 ≤ n ∧ n ≤ 1000 ∧ RetL (iv (1 :: zeros (n - 1))) H Q
abbrev sLed : Stmt := topS 22
theorem scLed : FnScope ["some", "k", "n", "told", "j", "number"] ["some", "k"] (defScope sLed) := ⟨rfl, rfl, rfl, by decide +kernel, rfl, by decide +kernel, by decide +kernel⟩
def spLed (K : PySem.W.Frag) : Sp := fun vs H Q _ => ∃ (a : Addr) (s : List Int) (k : Nat), vs = [.ref a, .int (k : Int)] ∧ SqL K H a (iv s) ∧ 1 ≤ s.length ∧ s.length ≤ 1000 ∧ k ≤ 1000 ∧ RetL (iv (ledL s k)) H Q
section
variable {P : Program} {w : World} {K : PySem.W.Frag} {mg : Str → Option Value} {base : Heap}
theorem ok_raised {fa : Addr} {fd : FuncData} (F : Fun K "raised" "raised" sRaised fa fd) (B : Free mg) : FnOk P w K mg base CX0 1 fa fd ["p", "k"] spRaised := by
  refine F.ok scRaised (fun vs H Q E h => ?_) (fun cdv A outer s H vs Q E hr h => ?_)
  · obtain ⟨a, b, rfl, _⟩ := h
    rfl
  · obtain ⟨p, k, rfl, hp, hk, q⟩ := h
    refine ⟨_, pss_cons (ps_set (i := 2) scRaised.nd rfl (.inl rfl) pe_int)
      (pss_cons (ps_for PassesOwn.never rfl (pi_range1 (by rfl) B.range (pa_cons (pv 1) pa_nil)) (pg_name (i := 3) scRaised.nd rfl (.inl rfl)) (pss_one (ps_set (i := 2) scRaised.nd rfl (.inl rfl) (pe_op op_mul (pv 2) (pv 0)))))
      (pss_one (ps_ret (pv 2)))), ?_⟩
    refine q_asg ev_c fun H1 e1 => ?_
    refine q_forR1 (n := (k : Int)) (ea_cons (ev_var rfl) ea_nil) (by omega) (fun i σ' H' => ∃ y, σ' = [some (.int (p : Int)), some (.int (k : Int)), some (.int ((p ^ i : Nat) : Int)), y] ∧ Ex H H')
      (fun H2 e2 => ⟨none, rfl, e1.trans e2⟩) (fun i σ' H' hi h => ?_) (fun σ' H' h => ?_)
    · obtain ⟨y, rfl, e2⟩ := h
      refine s_asg (ev_to (ev_mul (i := ((p ^ i : Nat) : Int)) (j := (p : Int)) (ev_var rfl) (ev_var rfl) (.inr (by omega))) (z' := ((p ^ (i + 1) : Nat) : Int)) ?_) fun H3 e3 => ⟨_, rfl, e2.trans e3⟩
      rw [Nat.pow_succ, Int.natCast_mul]
    · obtain ⟨y, rfl, e2⟩ := h
      rw [Int.toNat_natCast]
      exact s_ret (ev_var rfl) fun H3 e3 => q H3 (e2.trans e3)
theorem ok_less {fa : Addr} {fd : FuncData} (F : Fun K "less_one" "less_one" sLess fa fd) : FnOk P w K mg base CX0 1 fa fd ["d"] spLess := by
  refine F.ok scLess (fun vs H Q E h => ?_) (fun cdv A outer s H vs Q E hr h => ?_)
  · obtain ⟨d, rfl, _⟩ := h
    rfl
  · obtain ⟨d, rfl, h1, h2, q⟩ := h
    refine ⟨_, pss_one (ps_ret (pe_op op_cat (pe_op op_cat (pe_lst (pa_cons (pe_op op_sub pe_int pe_int) pa_nil)) (pe_op op_rep (pe_lst (pa_cons pe_int pa_nil)) (pe_op op_sub (pv 0) pe_int))) (pe_lst (pa_cons pe_int pa_nil)))), ?_⟩
    refine s_retL (el_cat (el_cat (el_lst (ea_cons (ev_sub ev_c ev_c) ea_nil) (by decide)) (el_zeros (k := d - 1) (ev_sub (ev_var rfl) ev_c) (by omega) (by omega) (by omega)) ?_) (el_lst (ea_cons ev_c ea_nil) (by decide)) ?_) fun p H2 hp e2 h3 => q p H2 hp e2 ?_
    · rw [iv_len, len_zeros]
      show 1 + (d - 1) ≤ 100000
      omega
    · rw [List.length_append, iv_len, len_zeros]
      show 1 + (d - 1) + 1 ≤ 100000
      omega
    · rw [h3]
      unfold lessOne iv
      rw [List.map_cons, List.map_append]
      rfl
theorem ok_one {fa : Addr} {fd : FuncData} (F : Fun K "one_of" "one_of" sOne fa fd) : FnOk P w K mg base CX0 1 fa fd ["n"] spOne := by
  refine F.ok scOne (fun vs H Q E h => ?_) (fun cdv A outer s H vs Q E hr h => ?_)
  · obtain ⟨d, rfl, _⟩ := h
    rfl
  · obtain ⟨d, rfl, h1, h2, q⟩ := h
    refine ⟨_, pss_one (ps_ret (pe_op op_cat (pe_lst (pa_cons pe_int pa_nil)) (pe_op op_rep (pe_lst (pa_cons pe_int pa_nil)) (pe_op op_sub (pv 0) pe_int)))), ?_⟩
    refine s_retL (el_cat (el_lst (ea_cons ev_c ea_nil) (by decide)) (el_zeros (k := d - 1) (ev_sub (ev_var rfl) ev_c) (by omega) (by omega) (by omega)) ?_) fun p H2 hp e2 h3 => q p H2 hp e2 h3
    rw [iv_len, len_zeros]
    show 1 + (d - 1) ≤ 100000
    omega
theorem ok_led {fa : Addr} {fd : FuncData} (F : Fun K "led" "led" sLed fa fd) (B : Free mg) : FnOk P w K mg base CX0 1 fa fd ["some", "k"] (spLed K) := by
  refine F.ok scLed (fun vs H Q E h => ?_) (fun cdv A outer s H vs Q E hr h => ?_)
  · obtain ⟨a, l, k, rfl, _⟩ := h
    rfl
  · obtain ⟨a, l, k, rfl, hS, h1, h2, hk, q⟩ := h
    refine ⟨_, pss_cons (ps_set (i := 2) scLed.nd rfl (.inl rfl) (pe_callB call_len_seq (by rfl) B.len PySem.boot_len (pa_cons (pv 0) pa_nil)))
      (pss_cons (ps_set (i := 3) scLed.nd rfl (.inl rfl) (pe_op op_rep (pe_lst (pa_cons pe_int pa_nil)) (pv 2)))
      (pss_cons (ps_for PassesOwn.never rfl (pi_enum (by rfl) B.enumerate (pa_cons (pv 0) pa_nil)) (pg_tup rfl (pgs_cons (pg_name (i := 4) scLed.nd rfl (.inl rfl)) (pgs_cons (pg_name (i := 5) scLed.nd rfl (.inl rfl)) pgs_nil)))
        (pss_one (ps_augS (pv 3) (pe_op op_mod (pe_op op_mul (pv 4) (pv 1)) (pv 2)) get_list (pv 5) ip_add set_list)))
      (pss_one (ps_ret (pv 3))))), ?_⟩
    refine q_asg (ev_lenI (ev_var rfl) hS) fun H1 e1 => ?_
    refine q_asgL (el_zeros (k := l.length) (ev_var rfl) (by omega) (by omega) (by omega)) fun t H2 ht e2 h3 => ?_
    have nt : H t = none := fresh_back e1 ht
    have e12 := e1.trans e2
    refine q_forE (ev_var rfl) (ex_l e12 hS) (fun i σ' H' => ∃ y4 y5, σ' = [some (.ref a), some (.int (k : Int)), some (.int (l.length : Int)), some (.ref t), y4, y5] ∧ Ex H H' ∧ H' t = some (.lst (iv (eFold (fun j v t => addAt t (j * k % l.length) v) l (zeros l.length) i))))
      (fun H3 e3 => ⟨none, none, rfl, e12.trans e3, e3 t _ h3⟩) (fun i σ' H' _ p => ?_) (fun i σ' H' T o p nT => ?_) (fun i σ' H' hi p => ?_) (fun σ' H' p => ?_)
    · obtain ⟨y4, y5, rfl, e3, h4⟩ := p
      exact ex_l e3 hS
    · obtain ⟨y4, y5, rfl, e3, h4⟩ := p
      exact ⟨y4, y5, rfl, e3.trans (Ex.new nT), keep_new h4 nT⟩
    · obtain ⟨y4, y5, rfl, e3, h4⟩ := p
      refine s_augAdd (k := i * k % l.length) (b := l.getD i 0) h4 (ev_var rfl) (ev_to (ev_mod (i := (i : Int) * (k : Int)) (j := (l.length : Int)) (ev_mul (i := (i : Int)) (j := (k : Int)) (ev_var rfl) (ev_var rfl) (.inl (by omega))) (ev_var rfl) (by omega)) (by rw [← Int.natCast_mul, ← Int.natCast_emod])) ?_ (ev_var rfl) fun H5 e5 => ?_
      · rw [eFold_len _ _ (fun j v t => len_addAt v t _), len_zeros]
        exact Nat.mod_lt _ (by omega)
      · exact ⟨_, _, rfl, (e3.trans e5).mut nt, upd_same⟩
    · obtain ⟨y4, y5, rfl, e3, h4⟩ := p
      exact s_ret (ev_var rfl) fun H4 e4 => RetL.go q (Ex.refl H) nt (e3.trans e4) (e4 t _ h4)
end
end RK
end

section
set_option Elab.async false
set_option linter.all false
set_option maxRecDepth 100000
set_option maxHeartbeats 4000000
namespace RK
open PySem PySem.Spec PyProof.Rows L2 Evl
/-- a list of pairs of numbers -/
def PRows (H : Hp) (xs : List V) (rows : List (Nat × Nat)) : Prop := Paired (fun (x : V) (r : Nat × Nat) => ∃ t, x = .ref t ∧ H t = some (.tup [.int (r.1 : Int), .int (r.2 : Int)])) xs rows
theorem PRows.ex {H H' : Hp} (e : Ex H H') {xs : List V} {rows : List (Nat × Nat)} (h : PRows H xs rows) : PRows H' xs rows := Paired.mapP h fun _ _ ⟨t, a, b⟩ => ⟨t, a, e t _ b⟩
theorem paired_snoc {α β : Type} {F : α → β → Prop} {a : α} {b : β} (f : F a b) : ∀ {xs : List α} {ys : List β}, Paired F xs ys → Paired F (xs ++ [a]) (ys ++ [b])
  | _, _, .nil => .cons f .nil
  | _, _, .cons r t => .cons r (paired_snoc f t)
theorem PRows.snoc {H : Hp} {xs : List V} {rows : List (Nat × Nat)} (h : PRows H xs rows) {t : Addr} {p q : Nat} (ht : H t = some (.tup [.int (p : Int), .int (q : Int)])) : PRows H (xs ++ [.ref t]) (rows ++ [(p, q)]) := paired_snoc ⟨t, rfl, ht⟩ h
theorem PRows.len {H : Hp} {xs : List V} {rows : List (Nat × Nat)} (h : PRows H xs rows) : xs.length = rows.length := Paired.length h
theorem PRows.upd {H : Hp} {xs : List V} {rows : List (Nat × Nat)} (h : PRows H xs rows) {l : Addr} {ys : List V} (hl : H l = some (.lst ys)) (o : HO) : PRows (upd H l o) xs rows := Paired.mapP h fun _ _ ⟨t, a, b⟩ => ⟨t, a, by
  rw [upd_ne (ne_of b hl (by intro z; cases z))]
  exact b⟩

abbrev sParted : Stmt := topS 9
theorem scParted : FnScope ["n", "told", "p", "times"] ["n"] (defScope sParted) := ⟨rfl, rfl, rfl, by decide +kernel, rfl, by decide +kernel, by decide +kernel⟩
def spParted : Sp := fun vs H Q _ => ∃ n : Nat, vs = [.int (n : Int)] ∧ 1 ≤ n ∧ n ≤ 30 ∧ ∀ p H2 xs, H p = none → Ex H H2 → H2 p = some (.lst xs) → PRows H2 xs (PART n) → Q (.ref p) H2
def partedOk (n : Nat) : Bool := partOut 12 n 2 [] == some (PART n) && decide ((PART n).length ≤ 3)
theorem t_parted : (List.range' 1 30).all partedOk = true := by decide +kernel
theorem partOut_succ {m n p : Nat} {told R : List (Nat × Nat)} (h : partOut (m + 1) n p told = some R) (hp : p * p ≤ n) : ∃ n1 t1, partIn 12 n p 0 = some (n1, t1) ∧ partOut m n1 (p + 1) (if 0 < t1 then told ++ [(p, t1)] else told) = some R := by
  unfold partOut at h
  rw [if_pos hp] at h
  cases e : partIn 12 n p 0 with
  | none => rw [e] at h; cases h
  | some r =>
    obtain ⟨n1, t1⟩ := r
    rw [e] at h
    exact ⟨n1, t1, rfl, h⟩
theorem partOut_end {m n p : Nat} {told R : List (Nat × Nat)} (h : partOut (m + 1) n p told = some R) (hp : ¬ p * p ≤ n) : (if 1 < n then told ++ [(n, 1)] else told) = R := by
  unfold partOut at h
  rw [if_neg hp] at h
  exact Option.some.inj h
section
variable {P : Program} {w : World} {K : PySem.W.Frag} {mg : Str → Option Value} {base : Heap}
theorem ok_parted {fa : Addr} {fd : FuncData} (F : Fun K "parted" "parted" sParted fa fd) : FnOk P w K mg base CX0 1 fa fd ["n"] spParted := by
  refine F.ok scParted (fun vs H Q E h => ?_) (fun cdv A outer s H vs Q E hr h => ?_)
  · obtain ⟨d, rfl, _⟩ := h
    rfl
  · obtain ⟨n, rfl, hn1, hn2, q⟩ := h
    refine ⟨_, pss_cons (ps_set (i := 1) scParted.nd rfl (.inl rfl) (pe_lst pa_nil))
      (pss_cons (ps_set (i := 2) scParted.nd rfl (.inl rfl) pe_int)
      (pss_cons (ps_while PassesOwn.never (pt_cmpR op_le (pe_op op_mul (pv 2) (pv 2)) (pv 0) (nomark _))
        (pss_cons (ps_set (i := 3) scParted.nd rfl (.inl rfl) pe_int)
        (pss_cons (ps_while PassesOwn.never (pt_cmpR op_eq (pe_op op_mod (pv 0) (pv 2)) pe_int (nomark _))
          (pss_cons (ps_set (i := 0) scParted.nd rfl (.inl rfl) (pe_op op_fdiv (pv 0) (pv 2)))
          (pss_one (ps_aug (i := 3) scParted.nd rfl (.inl rfl) pe_int ip_add))))
        (pss_cons (ps_if (pt_cmpR op_gt (pv 3) pe_int (nomark _)) (pss_one (ps_expr (pe_bm PySem.F.plainAttrs_list PySem.F.slot_list_append PySem.F.type_list_append mt_append (pv 1) (pa_cons (pe_tup (pa_cons (pv 2) (pa_cons (pv 3) pa_nil))) pa_nil)))) pss_nil)
        (pss_one (ps_aug (i := 2) scParted.nd rfl (.inl rfl) pe_int ip_add))))))
      (pss_cons (ps_if (pt_cmpR op_gt (pv 0) pe_int (nomark _)) (pss_one (ps_expr (pe_bm PySem.F.plainAttrs_list PySem.F.slot_list_append PySem.F.type_list_append mt_append (pv 1) (pa_cons (pe_tup (pa_cons (pv 0) (pa_cons pe_int pa_nil))) pa_nil)))) pss_nil)
      (pss_one (ps_ret (pv 1)))))), ?_⟩
    have hR := each30 t_parted hn1 hn2
    unfold partedOk at hR
    rw [Bool.and_eq_true] at hR
    have hR1 : partOut 12 n 2 [] = some (PART n) := eq_of_beq hR.1
    generalize PART n = R at q hR1
    clear hR
    refine q_asgL (el_lst ea_nil (Nat.zero_le _)) fun t H1 ht' e1 h1 => ?_
    refine q_asg ev_c fun H2 e2 => ?_
    refine q_while (fun m σ' H' => ∃ (n' p' : Nat) (rows : List (Nat × Nat)) (xs : List V) (y3 : Option V), σ' = [some (.int (n' : Int)), some (.ref t), some (.int (p' : Int)), y3] ∧ Ex H H' ∧ H' t = some (.lst xs) ∧ PRows H' xs rows ∧ 1 ≤ n' ∧ n' ≤ 1000 ∧ 2 ≤ p' ∧ p' ≤ 100 ∧ rows.length + m ≤ 100 ∧ partOut m n' p' rows = some R) 12
      ⟨n, 2, [], [], none, rfl, e1.trans e2, e2 t _ h1, .nil, hn1, by omega, by omega, by omega, by decide, hR1⟩ fun m σ' H' hW => ?_
    obtain ⟨n', p', rows, xs, y3, rfl, e3, h3, hrows, k1, k2, k3, k4, k5, hpo⟩ := hW
    have ebool : decide ((p' : Int) * (p' : Int) ≤ (n' : Int)) = decide (p' * p' ≤ n') := by
      rw [← Int.natCast_mul]
      simp only [Int.ofNat_le]
    refine ⟨decide (p' * p' ≤ n'), et_is (et_test (ev_cmp (f := fun i j => decide (i ≤ j)) (ev_mul (i := (p' : Int)) (j := (p' : Int)) (ev_var rfl) (ev_var rfl) (.inl (by omega))) (ev_var rfl))) ebool, fun hb H4 e4 => ?_, fun hb H4 e4 => ?_⟩
    · have hpp := of_decide_eq_true hb
      have hp31 : p' ≤ 31 := by
        by_cases hz : p' ≤ 31
        · exact hz
        · have := Nat.mul_le_mul (show 32 ≤ p' by omega) (show 32 ≤ p' by omega)
          omega
      obtain ⟨m, rfl⟩ : ∃ m', m = m' + 1 := by
        cases m with
        | zero => cases hpo
        | succ m' => exact ⟨m', rfl⟩
      obtain ⟨n1, t1, hin, hout⟩ := partOut_succ hpo hpp
      refine ⟨_, fun σ2 H2 hN => ⟨m, Nat.lt_succ_self m, hN⟩, ?_⟩
      refine q_asg ev_c fun H5 e5 => ?_
      refine q_while (fun m2 σ' H' => ∃ (n2 t2 : Nat), σ' = [some (.int (n2 : Int)), some (.ref t), some (.int (p' : Int)), some (.int (t2 : Int))] ∧ Ex H H' ∧ H' t = some (.lst xs) ∧ PRows H' xs rows ∧ 1 ≤ n2 ∧ n2 ≤ 1000 ∧ partIn m2 n2 p' t2 = some (n1, t1)) 12
        ⟨n', 0, rfl, (e3.trans e4).trans e5, e5 t _ (e4 t _ h3), (hrows.ex e4).ex e5, k1, k2, hin⟩ fun m2 σ' H' hW => ?_
      obtain ⟨n2, t2, rfl, e6, h6, hrows6, j1, j2, hpi⟩ := hW
      obtain ⟨m2, rfl⟩ : ∃ m', m2 = m' + 1 := by
        cases m2 with
        | zero => cases hpi
        | succ m' => exact ⟨m', rfl⟩
      have eb2 : decide ((n2 : Int) % (p' : Int) = 0) = decide (n2 % p' = 0) := by
        rw [← Int.natCast_emod]
        simp only [Int.natCast_eq_zero]
      refine ⟨decide (n2 % p' = 0), et_is (et_test (ev_eqI (ev_mod (i := (n2 : Int)) (j := (p' : Int)) (ev_var rfl) (ev_var rfl) (by omega)) ev_c)) eb2, fun hb H7 e7 => ?_, fun hb H7 e7 => ?_⟩
      · have hm := of_decide_eq_true hb
        unfold partIn at hpi
        rw [if_pos hm] at hpi
        refine ⟨_, fun σ2 H2 hN => ⟨m2, Nat.lt_succ_self m2, hN⟩, ?_⟩
        refine q_asg (ev_fdiv (i := (n2 : Int)) (j := (p' : Int)) (ev_var rfl) (ev_var rfl) ⟨by omega, by omega⟩) fun H8 e8 => ?_
        refine s_aug (f := fun i j => i + j) (a := (t2 : Int)) rfl ev_c fun H9 e9 => ⟨n2 / p', t2 + 1, ?_, ((e6.trans e7).trans e8).trans e9, e9 t _ (e8 t _ (e7 t _ h6)), ((hrows6.ex e7).ex e8).ex e9, ?_, ?_, hpi⟩
        · show [some (V.int ((n2 : Int) / (p' : Int))), some (V.ref t), some (V.int (p' : Int)), some (V.int ((t2 : Int) + 1))] = _
          rw [← Int.natCast_ediv]
          rfl
        · have g1 := Nat.div_add_mod n2 p'
          have g2 : n2 / p' ≠ 0 := by
            intro z
            rw [z, hm] at g1
            simp at g1
            omega
          exact Nat.one_le_iff_ne_zero.mpr g2
        · exact Nat.le_trans (Nat.div_le_self n2 p') j2
      · have hm := of_decide_eq_false hb
        unfold partIn at hpi
        rw [if_neg hm] at hpi
        obtain ⟨rfl, rfl⟩ : n2 = n1 ∧ t2 = t1 := by
          have := Option.some.inj hpi
          exact Prod.mk.inj this
        have eb3 : decide ((0 : Int) < (t2 : Int)) = decide (0 < t2) := by simp only [Int.natCast_pos]
        have fin : ∀ (H9 : Hp) (ys : List V) (rows' : List (Nat × Nat)), Ex H H9 → H9 t = some (.lst ys) → PRows H9 ys rows' → rows'.length ≤ rows.length + 1 → partOut m n2 (p' + 1) rows' = some R →
            tAug 2 (tC (.int 1)) (ipI fun i j => i + j) { nx := fun σ' H' => ∃ (n' p' : Nat) (rows : List (Nat × Nat)) (xs : List V) (y3 : Option V), σ' = [some (.int (n' : Int)), some (.ref t), some (.int (p' : Int)), y3] ∧ Ex H H' ∧ H' t = some (.lst xs) ∧ PRows H' xs rows ∧ 1 ≤ n' ∧ n' ≤ 1000 ∧ 2 ≤ p' ∧ p' ≤ 100 ∧ rows.length + m ≤ 100 ∧ partOut m n' p' rows = some R, rt := Q } [some (.int (n2 : Int)), some (.ref t), some (.int (p' : Int)), some (.int (t2 : Int))] H9 := fun H9 ys rows' e9 h9 hr9 hl9 hp9 =>
          s_aug (f := fun i j => i + j) (a := (p' : Int)) rfl ev_c fun H10 e10 => ⟨n2, p' + 1, rows', ys, some (.int (t2 : Int)), rfl, e9.trans e10, e10 t _ h9, hr9.ex e10, j1, j2, by omega, by omega, by omega, hp9⟩
        refine q_when (et_is (et_test (ev_cmp (f := fun i j => decide (j < i)) (i := (t2 : Int)) (j := 0) (ev_var rfl) ev_c)) eb3) (fun hb H8 e8 => ?_) (fun hb H8 e8 => ?_)
        · have ht := of_decide_eq_true hb
          rw [if_pos ht] at hout
          refine s_appU (xs := xs) (e8 t _ (e7 t _ h6)) (ev_var rfl) (eu_tup (ea_cons (ev_var rfl) (ea_cons (ev_var rfl) ea_nil)) (by show 2 ≤ 100000; decide)) (by rw [hrows6.len]; omega) fun T H9 nT e9 h9 => ?_
          have nt : H t = none := ht'
          refine fin _ (xs ++ [.ref T]) (rows ++ [(p', t2)]) (((e6.trans e7).trans e8).trans e9 |>.mut nt) upd_same ?_ (by simp) hout
          exact ((((hrows6.ex e7).ex e8).ex e9).snoc h9).upd (e9 t _ (e8 t _ (e7 t _ h6))) _
        · have ht := of_decide_eq_false hb
          rw [if_neg ht] at hout
          exact fin _ xs rows ((e6.trans e7).trans e8) (e8 t _ (e7 t _ h6)) ((hrows6.ex e7).ex e8) (by omega) hout
    · have hpp := of_decide_eq_false hb
      obtain ⟨m, rfl⟩ : ∃ m', m = m' + 1 := by
        cases m with
        | zero => cases hpo
        | succ m' => exact ⟨m', rfl⟩
      have hend := partOut_end hpo hpp
      have eb3 : decide ((1 : Int) < (n' : Int)) = decide (1 < n') := by
        have : ((1 : Int) < (n' : Int)) ↔ 1 < n' := by omega
        simp only [this]
      refine q_when (et_is (et_test (ev_cmp (f := fun i j => decide (j < i)) (i := (n' : Int)) (j := 1) (ev_var rfl) ev_c)) eb3) (fun hb H8 e8 => ?_) (fun hb H8 e8 => ?_)
      · have ht := of_decide_eq_true hb
        rw [if_pos ht] at hend
        refine s_appU (xs := xs) (e8 t _ (e4 t _ h3)) (ev_var rfl) (eu_tup (ea_cons (ev_var rfl) (ea_cons ev_c ea_nil)) (by show 2 ≤ 100000; decide)) (by rw [hrows.len]; omega) fun T H9 nT e9 h9 => ?_
        refine s_ret (ev_var rfl) fun H10 e10 => q t H10 _ ht' ((((e3.trans e4).trans e8).trans e9 |>.mut ht').trans e10) (e10 t _ upd_same) ?_
        rw [← hend]
        exact (((((hrows.ex e4).ex e8).ex e9).snoc h9).upd (e9 t _ (e8 t _ (e4 t _ h3))) _).ex e10
      · have ht := of_decide_eq_false hb
        rw [if_neg ht] at hend
        refine s_ret (ev_var rfl) fun H10 e10 => q t H10 xs ht' (((e3.trans e4).trans e8).trans e10) (e10 t _ (e8 t _ (e4 t _ h3))) ?_
        rw [← hend]
        exact ((hrows.ex e4).ex e8).ex e10
end
end RK
end

section
set_option Elab.async false
set_option linter.all false
set_option maxRecDepth 100000
set_option maxHeartbeats 4000000
namespace RK
open PySem PySem.Spec PyProof.Rows L2 Evl
section
variable {K : PySem.W.Frag} {σ : L2.St} {H : Hp} {te : TE} {t : TT}
theorem el_lcRev {a : Addr} {xs : List V} {tl : TE} {j : Nat} {vs : List Nat} (f : Nat → Bool) (v : Nat → V) (h : Ev tl σ H (.ref a)) (hx : SqL K H a xs) (hz : xs.length ≤ 40000) (hw : ∀ x, wipe ((wipe σ vs).set j (some x)) vs = wipe σ vs)
    (ht : ∀ (i : Nat) (x : V) H1, Ex H H1 → xs[xs.length - 1 - i]? = some x → EvT t ((wipe σ vs).set j (some x)) H1 (f i)) (he : ∀ (i : Nat) (x : V) H1, Ex H H1 → xs[xs.length - 1 - i]? = some x → f i = true → Ev te ((wipe σ vs).set j (some x)) H1 (v i)) :
    EvL (tLc (iRev K (tCons tl tNil)) (gName j) t te vs) σ H (given xs.length f v) := fun H0 e Q q => h H0 e _ fun H1 e1 => ⟨a, xs, rfl, ex_l (e.trans e1) hx, fun Dl hD =>
  lc_it walk_rev (Cw H1 f v Dl) ⟨hD, Ex.new hD, upd_same⟩ (fun i H' _ p => ex_l ((e.trans e1).trans p.2.1) hx) (fun i x H' H'' hi p y => by
    obtain ⟨rfl, hy⟩ := y
    exact ⟨hw x, cw_turn p (by omega) (ht i x H1 (e.trans e1) hy) (fun hf => he i x H1 (e.trans e1) hy hf)⟩)
    (fun H' p => q Dl H' (fresh_back e1 p.1) (e1.trans p.2.1) p.2.2)⟩
end
/-- all divisors -/
def DIV (n : Nat) : List Nat := (List.range' 1 n).filter fun e => n % e == 0
def divLow (n d : Nat) : List Nat := (List.range' 1 (d - 1)).filter fun e => n % e == 0
theorem divLow_succ (n d : Nat) (hd : 1 ≤ d) : divLow n (d + 1) = if n % d = 0 then divLow n d ++ [d] else divLow n d := by
  obtain ⟨k, rfl⟩ : ∃ k, d = k + 1 := ⟨d - 1, by omega⟩
  unfold divLow
  rw [Nat.add_sub_cancel, Nat.add_sub_cancel, List.range'_concat, List.filter_append]
  have e : 1 + 1 * k = k + 1 := by omega
  rw [e]
  by_cases h : n % (k + 1) = 0
  · rw [if_pos h]
    congr 1
    rw [List.filter_cons, if_pos (by rw [h]; rfl)]
    rfl
  · rw [if_neg h, List.filter_cons, if_neg (by simpa using h)]
    simp
theorem nv_snoc (l : List Nat) (d : Nat) : nv (l ++ [d]) = nv l ++ [.int (d : Int)] := by
  unfold nv
  rw [List.map_append]
  rfl
theorem nv_len (l : List Nat) : (nv l).length = l.length := List.length_map _
theorem nv_get {l : List Nat} {i : Nat} (h : i < l.length) : (nv l)[i]? = some (.int ((l.getD i 0 : Nat) : Int)) := by
  unfold nv
  rw [List.getElem?_map, List.getElem?_eq_getElem h, List.getD_eq_getElem?_getD, List.getElem?_eq_getElem h]
  rfl
def divRes (n d : Nat) : List Nat := divLow n d ++ ((List.range (divLow n d).length).filter fun i => decide ((divLow n d).getD ((divLow n d).length - 1 - i) 0 * (divLow n d).getD ((divLow n d).length - 1 - i) 0 ≠ n)).map fun i => n / (divLow n d).getD ((divLow n d).length - 1 - i) 0
def divOk (n : Nat) : Bool := (List.range' 1 9).all fun d => !(decide ((d - 1) * (d - 1) ≤ n) && decide (n < d * d)) || (divRes n d == DIV n)
theorem t_div : (List.range' 1 60).all divOk = true := by decide +kernel
theorem divRes_eq {n d : Nat} (h1 : 1 ≤ n) (h2 : n ≤ 60) (d1 : 1 ≤ d) (e1 : (d - 1) * (d - 1) ≤ n) (e2 : n < d * d) : divRes n d = DIV n := by
  have hd : d ≤ 9 := by
    by_cases hz : d ≤ 9
    · exact hz
    · have := Nat.mul_le_mul (show 9 ≤ d - 1 by omega) (show 9 ≤ d - 1 by omega)
      omega
  have h := List.all_eq_true.mp t_div n (List.mem_range'_1.mpr ⟨h1, by omega⟩)
  have h3 := List.all_eq_true.mp h d (List.mem_range'_1.mpr ⟨d1, by omega⟩)
  rw [decide_eq_true e1, decide_eq_true e2] at h3
  exact eq_of_beq (by simpa using h3)
theorem divLow_pos {n d i : Nat} (h : i < (divLow n d).length) : 1 ≤ (divLow n d).getD i 0 ∧ (divLow n d).getD i 0 ≤ d := by
  have hm : (divLow n d).getD i 0 ∈ divLow n d := by
    rw [List.getD_eq_getElem?_getD, List.getElem?_eq_getElem h]
    exact List.getElem_mem h
  have h1 := List.mem_range'_1.mp (List.mem_filter.mp hm).1
  omega
theorem divLow_len (n d : Nat) : (divLow n d).length ≤ d - 1 := by
  have := List.length_filter_le (fun e => n % e == 0) (List.range' 1 (d - 1))
  rw [List.length_range'] at this
  exact this
abbrev sDiv : Stmt := topS 8
theorem scDiv : FnScope ["n", "low", "d"] ["n"] (defScope sDiv) := ⟨rfl, rfl, rfl, by decide +kernel, rfl, by decide +kernel, by decide +kernel⟩
def spDiv : Sp := fun vs H Q _ => ∃ n : Nat, vs = [.int (n : Int)] ∧ 1 ≤ n ∧ n ≤ 60 ∧ RetL (nv (DIV n)) H Q
section
variable {P : Program} {w : World} {K : PySem.W.Frag} {mg : Str → Option Value} {base : Heap}
theorem ok_div {fa : Addr} {fd : FuncData} (F : Fun K "divisors" "divisors" sDiv fa fd) (B : Free mg) : FnOk P w K mg base CX0 1 fa fd ["n"] spDiv := by
  refine F.ok scDiv (fun vs H Q E h => ?_) (fun cdv A outer s H vs Q E hr h => ?_)
  · obtain ⟨d, rfl, _⟩ := h
    rfl
  · obtain ⟨n, rfl, hn1, hn2, q⟩ := h
    refine ⟨_, pss_cons (ps_set (i := 1) scDiv.nd rfl (.inl rfl) (pe_lst pa_nil))
      (pss_cons (ps_set (i := 2) scDiv.nd rfl (.inl rfl) pe_int)
      (pss_cons (ps_while PassesOwn.never (pt_cmpR op_le (pe_op op_mul (pv 2) (pv 2)) (pv 0) (nomark _))
        (pss_cons (ps_if (pt_cmpR op_eq (pe_op op_mod (pv 0) (pv 2)) pe_int (nomark _)) (pss_one (ps_expr (pe_bm PySem.F.plainAttrs_list PySem.F.slot_list_append PySem.F.type_list_append mt_append (pv 1) (pa_cons (pv 2) pa_nil)))) pss_nil)
        (pss_one (ps_aug (i := 2) scDiv.nd rfl (.inl rfl) pe_int ip_add))))
      (pss_one (ps_ret (pe_op op_cat (pv 1) (pe_lc (own := [("d", 2)]) (g := gName 2) rfl scDiv.nd (pi_reversed (by rfl) B.reversed (pa_cons (pv 1) pa_nil)) (blkOk_by (own := [("d", 2)]) (N := ["n", "low", "d"]) (sc := defScope sDiv) (by decide +kernel))
        (fun _ _ _ _ _ => pg_name (i := 2) scDiv.nd rfl (Or.inl rfl)) (fun _ _ _ _ _ => pts_one (pt_cmpR op_ne (pe_op op_mul (pv 2) (pv 2)) (pv 0) (nomark _))) (fun _ _ _ _ _ => pe_op op_fdiv (pv 0) (pv 2)))))))), ?_⟩
    refine q_asgL (el_lst ea_nil (Nat.zero_le _)) fun t H1 ht e1 h1 => ?_
    refine q_asg ev_c fun H2 e2 => ?_
    refine q_while (fun m σ' H' => ∃ d : Nat, σ' = [some (.int (n : Int)), some (.ref t), some (.int (d : Int))] ∧ Ex H H' ∧ H' t = some (.lst (nv (divLow n d))) ∧ 1 ≤ d ∧ (d - 1) * (d - 1) ≤ n ∧ m + d = n + 2) (n + 1)
      ⟨1, rfl, e1.trans e2, e2 t _ h1, Nat.le_refl _, Nat.zero_le _, rfl⟩ fun m σ' H' hW => ?_
    obtain ⟨d, rfl, e3, h3, d1, d2, dm⟩ := hW
    have ebool : decide ((d : Int) * (d : Int) ≤ (n : Int)) = decide (d * d ≤ n) := by
      rw [← Int.natCast_mul]
      simp only [Int.ofNat_le]
    have hd70 : d ≤ 70 := by
      by_cases hz : d ≤ 70
      · exact hz
      · have := Nat.mul_le_mul (show 9 ≤ d - 1 by omega) (show 9 ≤ d - 1 by omega)
        omega
    refine ⟨decide (d * d ≤ n), et_is (et_test (ev_cmp (f := fun i j => decide (i ≤ j)) (ev_mul (i := (d : Int)) (j := (d : Int)) (ev_var rfl) (ev_var rfl) (.inl (by omega))) (ev_var rfl))) ebool, fun hb H4 e4 => ?_, fun hb H4 e4 => ?_⟩
    · have hpp := of_decide_eq_true hb
      have hdn : d ≤ n := Nat.le_trans (Nat.le_mul_of_pos_left d d1) hpp
      obtain ⟨m, rfl⟩ : ∃ m', m = m' + 1 := ⟨m - 1, by omega⟩
      refine ⟨_, fun σ2 H2 hN => ⟨m, Nat.lt_succ_self m, hN⟩, ?_⟩
      have eb2 : decide ((n : Int) % (d : Int) = 0) = decide (n % d = 0) := by
        rw [← Int.natCast_emod]
        simp only [Int.natCast_eq_zero]
      have fin : ∀ (H9 : Hp), Ex H H9 → H9 t = some (.lst (nv (divLow n (d + 1)))) →
          tAug 2 (tC (.int 1)) (ipI fun i j => i + j) { nx := fun σ' H' => ∃ d : Nat, σ' = [some (.int (n : Int)), some (.ref t), some (.int (d : Int))] ∧ Ex H H' ∧ H' t = some (.lst (nv (divLow n d))) ∧ 1 ≤ d ∧ (d - 1) * (d - 1) ≤ n ∧ m + d = n + 2, rt := Q } [some (.int (n : Int)), some (.ref t), some (.int (d : Int))] H9 := fun H9 e9 h9 =>
        s_aug (f := fun i j => i + j) (a := (d : Int)) rfl ev_c fun H10 e10 => ⟨d + 1, rfl, e9.trans e10, e10 t _ h9, by omega, by rw [Nat.add_sub_cancel]; exact hpp, by omega⟩
      refine q_when (et_is (et_test (ev_eqI (ev_mod (i := (n : Int)) (j := (d : Int)) (ev_var rfl) (ev_var rfl) (by omega)) ev_c)) eb2) (fun hb H5 e5 => ?_) (fun hb H5 e5 => ?_)
      · have hm := of_decide_eq_true hb
        refine s_app (xs := nv (divLow n d)) (e5 t _ (e4 t _ h3)) (ev_var rfl) (ev_var rfl) (by rw [nv_len]; have := divLow_len n d; omega) fun H6 e6 => ?_
        refine fin _ (((e3.trans e4).trans e5).trans e6 |>.mut ht) ?_
        rw [upd_same, divLow_succ n d d1, if_pos hm, nv_snoc]
      · have hm := of_decide_eq_false hb
        refine fin _ ((e3.trans e4).trans e5) ?_
        rw [e5 t _ (e4 t _ h3), divLow_succ n d d1, if_neg hm]
    · have hpp := of_decide_eq_false hb
      have hlen := divLow_len n d
      have hcat : ∀ H5, Ex H4 H5 → EvL (tLc (iRev K (tCons (tVar 1) tNil)) (gName 2) (tTest (tOp rNe (tOp (rI CMul fun i j => .int (i * j)) (tVar 2) (tVar 2)) (tVar 0))) (tOp (rI CDiv fun i j => .int (i / j)) (tVar 0) (tVar 2)) [2]) [some (.int (n : Int)), some (.ref t), some (.int (d : Int))] H5
          (given (nv (divLow n d)).length (fun i => decide ((divLow n d).getD ((divLow n d).length - 1 - i) 0 * (divLow n d).getD ((divLow n d).length - 1 - i) 0 ≠ n)) (fun i => .int ((n / (divLow n d).getD ((divLow n d).length - 1 - i) 0 : Nat) : Int))) := fun H5 e5 => by
        refine el_lcRev _ _ (ev_var rfl) (sq_of (e5 t _ (e4 t _ h3))) (by rw [nv_len]; omega) (fun x => rfl) (fun i x H6 e6 hx => ?_) (fun i x H6 e6 hx hf => ?_)
        · have hlt : (divLow n d).length - 1 - i < (divLow n d).length := by
            have := (List.getElem?_eq_some_iff.mp hx).1
            rw [nv_len] at this
            exact this
          rw [nv_len, nv_get hlt] at hx
          obtain rfl := (Option.some.inj hx)
          obtain ⟨g1, g2⟩ := divLow_pos hlt
          generalize (divLow n d).getD ((divLow n d).length - 1 - i) 0 = e at g1 g2
          refine et_is (et_test (ev_neI (ev_mul (i := (e : Int)) (j := (e : Int)) (ev_var rfl) (ev_var rfl) (.inl (by omega))) (ev_var rfl))) ?_
          rw [← Int.natCast_mul]
          by_cases hz : e * e = n
          · rw [decide_eq_true (by rw [hz]), decide_eq_false (fun z => z hz)]
            rfl
          · rw [decide_eq_false (show ¬ ((e * e : Nat) : Int) = (n : Int) by omega), decide_eq_true hz]
            rfl
        · have hlt : (divLow n d).length - 1 - i < (divLow n d).length := by
            have := (List.getElem?_eq_some_iff.mp hx).1
            rw [nv_len] at this
            exact this
          rw [nv_len, nv_get hlt] at hx
          obtain rfl := (Option.some.inj hx)
          obtain ⟨g1, g2⟩ := divLow_pos hlt
          generalize (divLow n d).getD ((divLow n d).length - 1 - i) 0 = e at g1 g2
          exact ev_to (ev_fdiv (i := (n : Int)) (j := (e : Int)) (ev_var rfl) (ev_var rfl) ⟨by omega, by omega⟩) (Int.natCast_ediv n e).symm
      refine ⟨.ref t, rfl, ?_⟩
      refine hcat H4 (Ex.refl H4) H4 (Ex.refl H4) _ fun r H6 hr6 e6 h6 => ⟨t, r, _, _, rfl, rfl, e6 t _ (e4 t _ h3), h6, ?_, fun p hp => ?_⟩
      · have hg := given_len (nv (divLow n d)).length (fun i => decide ((divLow n d).getD ((divLow n d).length - 1 - i) 0 * (divLow n d).getD ((divLow n d).length - 1 - i) 0 ≠ n)) (fun i => .int ((n / (divLow n d).getD ((divLow n d).length - 1 - i) 0 : Nat) : Int))
        rw [nv_len] at hg ⊢
        exact sz_of (by omega)
      · refine q p _ (fresh_back ((e3.trans e4).trans e6) hp) (((e3.trans e4).trans e6).trans (Ex.new hp)) ?_
        rw [upd_same, ← divRes_eq hn1 hn2 d1 d2 (by omega)]
        unfold divRes given nv
        rw [List.map_append, List.length_map, List.map_map]
        rfl
end
end RK
end

section
set_option Elab.async false
set_option linter.all false
set_option maxRecDepth 100000
set_option maxHeartbeats 4000000
namespace RK
open PySem PySem.Spec PyProof.Rows L2 Evl
section
variable {σ : L2.St} {H : Hp} {D : Ends}
theorem asg_call {sp : Sp} {ta : TA} {tb : TE} {r : R2} {g : TG} {vs : List V} (h : EvA ta σ H vs) (k : ∀ H1, Ex H H1 → sp (vs ++ []) H1 (fun x H2 => tb σ H2 fun y H3 => r x y H3 fun v H4 => g v σ H4 D.nx) E0) : tAsg (tOp r (tCall sp [] E0 ta) tb) g D σ H :=
  h H (Ex.refl H) _ fun H1 e => k H1 e
end
/-- a list of pairs of a number and its root polynomial -/
def QRow (t : Addr) (H : Hp) (x : V) (d : Nat) : Prop := ∃ T p, x = .ref T ∧ H T = some (.tup [.int (d : Int), .ref p]) ∧ H p = some (.lst (iv (PHI d))) ∧ p ≠ t
def QRows (t : Addr) (H : Hp) (xs : List V) (ds : List Nat) : Prop := Paired (QRow t H) xs ds
theorem QRows.ex {t : Addr} {H H' : Hp} (e : Ex H H') {xs : List V} {ds : List Nat} (h : QRows t H xs ds) : QRows t H' xs ds := Paired.mapP h fun _ _ ⟨T, p, a, b, c, d⟩ => ⟨T, p, a, e T _ b, e p _ c, d⟩
theorem QRows.upd {t : Addr} {H : Hp} {xs : List V} {ds : List Nat} (h : QRows t H xs ds) {ys : List V} (hl : H t = some (.lst ys)) (o : HO) : QRows t (upd H t o) xs ds := Paired.mapP h fun _ _ ⟨T, p, a, b, c, d⟩ =>
  ⟨T, p, a, by rw [upd_ne (ne_of b hl (by intro z; cases z))]; exact b, by rw [upd_ne d]; exact c, d⟩
theorem QRows.snoc {t : Addr} {H : Hp} {xs : List V} {ds : List Nat} (h : QRows t H xs ds) {T p : Addr} {d : Nat} (a : H T = some (.tup [.int (d : Int), .ref p])) (b : H p = some (.lst (iv (PHI d)))) (c : p ≠ t) : QRows t H (xs ++ [.ref T]) (ds ++ [d]) := paired_snoc ⟨T, p, rfl, a, b, c⟩ h
theorem QRows.len {t : Addr} {H : Hp} {xs : List V} {ds : List Nat} (h : QRows t H xs ds) : xs.length = ds.length := Paired.length h
theorem QRows.get {t : Addr} {H : Hp} {xs : List V} {ds : List Nat} (h : QRows t H xs ds) {i : Nat} {x : V} (hx : xs[i]? = some x) : ∃ d, ds[i]? = some d ∧ QRow t H x d := paired_get h hx
/-- the root polynomials made one from the others: at each step what parting asks -/
def chainOk (d : Nat) : List Int → List Nat → Bool
  | f, [] => f == PHI d
  | f, e :: es => if d % e = 0 then decide ((PHI e).length ≤ f.length + 1) && decide (f.length ≤ 100) && chainOk d (trimL (overQ f (PHI e))) es else chainOk d f es
def polysOk (n : Nat) : Bool := (List.range (DIV n).length).all fun i => chainOk ((DIV n).getD i 0) (lessOne ((DIV n).getD i 0)) ((DIV n).take i)
theorem t_polys : (List.range' 1 60).all polysOk = true := by decide +kernel
def phiOk (e : Nat) : Bool := decide (0 < (PHI e).length) && decide ((PHI e).getD ((PHI e).length - 1) 0 = 1) && (PHI e).all fun x => decide (-(2 ^ 64) < x ∧ x < 2 ^ 64)
theorem t_phi : (List.range' 1 60).all phiOk = true := by decide +kernel
def divEnd (n : Nat) : Bool := (DIV n).all (fun d => decide (1 ≤ d) && decide (d ≤ n)) && ((DIV n).getD ((DIV n).length - 1) 0 == n) && decide (0 < (DIV n).length) && decide ((DIV n).length ≤ 60)
theorem t_divEnd : (List.range' 1 60).all divEnd = true := by decide +kernel
theorem each60 {c : Nat → Bool} (h : (List.range' 1 60).all c = true) {n : Nat} (h1 : 1 ≤ n) (h2 : n ≤ 60) : c n = true := List.all_eq_true.mp h n (List.mem_range'_1.mpr ⟨h1, by omega⟩)
theorem canOver_phi {e : Nat} (h1 : 1 ≤ e) (h2 : e ≤ 60) {f : List Int} (hl : (PHI e).length ≤ f.length + 1) (hf : f.length ≤ 100) : CanOver f (PHI e) := by
  have h := each60 t_phi h1 h2
  unfold phiOk at h
  rw [Bool.and_eq_true, Bool.and_eq_true] at h
  exact ⟨of_decide_eq_true h.1.1, of_decide_eq_true h.1.2, hl, by omega, fun x hx => of_decide_eq_true (List.all_eq_true.mp h.2 x hx)⟩
theorem nat_getD {l : List Nat} {i d : Nat} (h : l[i]? = some d) : l.getD i 0 = d := by
  rw [List.getD_eq_getElem?_getD, h]
  rfl

abbrev sPolys : Stmt := topS 15
theorem scPolys : FnScope ["n", "told", "d", "f", "e", "g"] ["n"] (defScope sPolys) := ⟨rfl, rfl, rfl, by decide +kernel, rfl, by decide +kernel, by decide +kernel⟩
def spPolys : Sp := fun vs H Q _ => ∃ n : Nat, vs = [.int (n : Int)] ∧ 1 ≤ n ∧ n ≤ 60 ∧ ∀ p H2 xs, H p = none → Ex H H2 → H2 p = some (.lst xs) → QRows p H2 xs (DIV n) → Q (.ref p) H2
abbrev sPoly : Stmt := topS 16
theorem scPoly : FnScope ["n"] ["n"] (defScope sPoly) := ⟨rfl, rfl, rfl, by decide +kernel, rfl, by decide +kernel, by decide +kernel⟩
def spPoly : Sp := fun vs H Q _ => ∃ n : Nat, vs = [.int (n : Int)] ∧ 1 ≤ n ∧ n ≤ 60 ∧ ∀ p H2, Ex H H2 → H2 p = some (.lst (iv (PHI n))) → Q (.ref p) H2
section
variable {P : Program} {w : World} {K : PySem.W.Frag} {mg : Str → Option Value} {base : Heap}
theorem ok_polys {fa : Addr} {fd : FuncData} (F : Fun K "root_polys" "root_polys" sPolys fa fd) (GD : Has P w K mg base 1 "divisors" ["n"] spDiv) (GL : Has P w K mg base 1 "less_one" ["d"] spLess) (GO : Has P w K mg base 2 "over" ["f", "g"] (spOver K)) : FnOk P w K mg base CX0 3 fa fd ["n"] spPolys := by
  refine F.ok scPolys (fun vs H Q E h => ?_) (fun cdv A outer s H vs Q E hr h => ?_)
  · obtain ⟨d, rfl, _⟩ := h
    rfl
  · obtain ⟨n, rfl, hn1, hn2, q⟩ := h
    refine ⟨_, pss_cons (ps_set (i := 1) scPolys.nd rfl (.inl rfl) (pe_lst pa_nil))
      (pss_cons (ps_for PassesOwn.never rfl (pi_list (pe_callD GD (hr.mono (by decide)) (by rfl) (pa_cons (pv 0) pa_nil))) (pg_name (i := 2) scPolys.nd rfl (.inl rfl))
        (pss_cons (ps_set (i := 3) scPolys.nd rfl (.inl rfl) (pe_callD GL (hr.mono (by decide)) (by rfl) (pa_cons (pv 2) pa_nil)))
        (pss_cons (ps_for PassesOwn.never rfl (pi_list (pv 1)) (pg_tup rfl (pgs_cons (pg_name (i := 4) scPolys.nd rfl (.inl rfl)) (pgs_cons (pg_name (i := 5) scPolys.nd rfl (.inl rfl)) pgs_nil)))
          (pss_one (ps_if (pt_cmpR op_eq (pe_op op_mod (pv 2) (pv 4)) pe_int (nomark _)) (pss_one (ps_set (i := 3) scPolys.nd rfl (.inl rfl) (pe_ix ix_tup (pe_callD GO hr (by rfl) (pa_cons (pv 3) (pa_cons (pv 5) pa_nil))) pe_int (fun _ _ => rfl)))) pss_nil)))
        (pss_one (ps_expr (pe_bm PySem.F.plainAttrs_list PySem.F.slot_list_append PySem.F.type_list_append mt_append (pv 1) (pa_cons (pe_tup (pa_cons (pv 2) (pa_cons (pv 3) pa_nil))) pa_nil)))))))
      (pss_one (ps_ret (pv 1)))), ?_⟩
    have hend := each60 t_divEnd hn1 hn2
    unfold divEnd at hend
    rw [Bool.and_eq_true, Bool.and_eq_true, Bool.and_eq_true] at hend
    have hmem : ∀ d ∈ DIV n, 1 ≤ d ∧ d ≤ n := fun d hd => by
      have := List.all_eq_true.mp hend.1.1.1 d hd
      rw [Bool.and_eq_true] at this
      exact ⟨of_decide_eq_true this.1, of_decide_eq_true this.2⟩
    have hlen60 : (DIV n).length ≤ 60 := of_decide_eq_true hend.2
    refine q_asgL (el_lst ea_nil (Nat.zero_le _)) fun t H1 ht e1 h1 => ?_
    refine q_forNLn (xs := nv (DIV n)) (el_call (ea_cons (ev_var rfl) ea_nil) fun H2 e2 Q' k E' => ⟨n, rfl, hn1, hn2, fun p H3 hp e3 h3 => k p H3 hp e3 h3⟩)
      (fun p i σ' H' => ∃ y2 y3 y4 y5, σ' = [some (.int (n : Int)), some (.ref t), y2, y3, y4, y5] ∧ Ex H H' ∧ p ≠ t ∧ H' p = some (.lst (nv (DIV n))) ∧ ∃ xs, H' t = some (.lst xs) ∧ QRows t H' xs ((DIV n).take i))
      (fun p H2 hp e2 h2 => ⟨none, none, none, none, rfl, e1.trans e2, (ne_of_none h1 hp).symm, h2, [], e2 t _ h1, .nil⟩) (fun p i σ' H' _ hP => ?_) (fun p i x σ' H' hx hP => ?_) (fun p σ' H' hP => ?_)
    · obtain ⟨_, _, _, _, _, _, _, hp, _⟩ := hP
      exact sq_of hp
    · obtain ⟨y2, y3, y4, y5, rfl, e2, npt, hp, xs, hxs, hrows⟩ := hP
      have hi : i < (DIV n).length := by
        have := (List.getElem?_eq_some_iff.mp hx).1
        rw [nv_len] at this
        exact this
      rw [nv_get hi] at hx
      obtain rfl := (Option.some.inj hx)
      have hdm : (DIV n).getD i 0 ∈ DIV n := by
        rw [List.getD_eq_getElem?_getD, List.getElem?_eq_getElem hi]
        exact List.getElem_mem hi
      have hdi : (DIV n)[i]? = some ((DIV n).getD i 0) := by
        rw [List.getD_eq_getElem?_getD, List.getElem?_eq_getElem hi]
        rfl
      obtain ⟨d1, d2⟩ := hmem _ hdm
      have hchain := List.all_eq_true.mp (each60 t_polys hn1 hn2) i (List.mem_range.mpr hi)
      generalize hd : (DIV n).getD i 0 = d at d1 d2 hchain hdi
      refine q_asgL (el_call (ea_cons (ev_var rfl) ea_nil) fun H3 e3 Q' k E' => ⟨d, rfl, d1, by omega, fun p H3 hp e3 h3 => k p H3 hp e3 h3⟩) fun pf H3 nf e3 h3 => ?_
      have npf : pf ≠ t := (ne_of_none hxs nf).symm
      refine q_forL (xs := xs) (ev_var rfl) (sq_of (e3 t _ hxs)) (fun j σ2 H4 => ∃ y4 y5 pf f, σ2 = [some (.int (n : Int)), some (.ref t), some (.int (d : Int)), some (.ref pf), y4, y5] ∧ Ex H3 H4 ∧ H4 pf = some (.lst (iv f)) ∧ pf ≠ t ∧ chainOk d f (((DIV n).take i).drop j) = true)
        (fun H4 e4 => ⟨y4, y5, pf, lessOne d, rfl, e4, e4 pf _ h3, npf, hchain⟩) (fun j σ2 H4 _ hP => ?_) (fun j x σ2 H4 hx hP => ?_) (fun σ2 H4 hP => ?_)
      · obtain ⟨_, _, _, _, _, e4, _⟩ := hP
        exact sq_of (e4 t _ (e3 t _ hxs))
      · obtain ⟨y4, y5, pf, f, rfl, e4, h4, npf, hc⟩ := hP
        obtain ⟨e, he, T, pg, rfl, hT, hg, npg⟩ := ((hrows.ex e3).ex e4).get hx
        have hdrop : ((DIV n).take i).drop j = e :: ((DIV n).take i).drop (j + 1) := by
          obtain ⟨hj, ej⟩ := List.getElem?_eq_some_iff.mp he
          rw [List.drop_eq_getElem_cons hj, ej]
        have hem : e ∈ DIV n := List.mem_of_mem_take (List.mem_of_getElem? he)
        obtain ⟨b1, b2⟩ := hmem e hem
        rw [hdrop] at hc
        unfold chainOk at hc
        refine ⟨T, _, rfl, st_of hT, rfl, _, _, rfl, _, _, rfl, rfl, ?_⟩
        have eb : decide ((d : Int) % (e : Int) = 0) = decide (d % e = 0) := by
          rw [← Int.natCast_emod]
          simp only [Int.natCast_eq_zero]
        refine s_when (et_is (et_test (ev_eqI (ev_mod (i := (d : Int)) (j := (e : Int)) (ev_var rfl) (ev_var rfl) (by omega)) ev_c)) eb) (fun hb H5 e5 => ?_) (fun hb H5 e5 => ?_)
        · have hz := of_decide_eq_true hb
          rw [if_pos hz, Bool.and_eq_true, Bool.and_eq_true] at hc
          refine asg_call (ea_cons (ev_var rfl) (ea_cons (ev_var rfl) ea_nil)) fun H6 e6 => ⟨pf, pg, f, PHI e, rfl, sq_of (e6 _ _ (e5 _ _ h4)), sq_of (e6 _ _ (e5 _ _ hg)), canOver_phi b1 (by omega) (of_decide_eq_true hc.1.1) (of_decide_eq_true hc.1.2), ?_⟩
          intro p' p1 p2 H7 np np1 e7 hp' hp1 hp2
          refine ⟨p', _, 0, .ref p1, rfl, rfl, st_of hp', atI_nat (j := 0) rfl, ?_⟩
          refine ⟨some (.int (e : Int)), some (.ref pg), p1, trimL (overQ f (PHI e)), rfl, (((e4.trans e5).trans e6).trans e7), hp1, ?_, hc.2⟩
          exact (ne_of_none (e6 _ _ (e5 _ _ (e4 t _ (e3 t _ hxs)))) np1).symm
        · have hz := of_decide_eq_false hb
          rw [if_neg hz] at hc
          exact ⟨_, _, pf, f, rfl, e4.trans e5, e5 _ _ h4, npf, hc⟩
      · obtain ⟨y4, y5, pf, f, rfl, e4, h4, npf, hc⟩ := hP
        have hl : xs.length = ((DIV n).take i).length := hrows.len
        rw [hl, List.drop_length] at hc
        have hf : f = PHI d := eq_of_beq hc
        subst hf
        refine s_appU (xs := xs) (e4 t _ (e3 t _ hxs)) (ev_var rfl) (eu_tup (ea_cons (ev_var rfl) (ea_cons (ev_var rfl) ea_nil)) (by show 2 ≤ 100000; decide)) (by rw [hl, List.length_take]; omega) fun T H9 nT e9 h9 => ?_
        refine ⟨_, _, _, _, rfl, (((e2.trans e3).trans e4).trans e9).mut ht, npt, ?_, _, upd_same, ?_⟩
        · rw [upd_ne npt]
          exact e9 _ _ (e4 _ _ (e3 _ _ hp))
        · rw [List.take_add_one, hdi]
          exact ((((hrows.ex e3).ex e4).ex e9).snoc h9 (e9 _ _ h4) npf).upd (e9 _ _ (e4 _ _ (e3 _ _ hxs))) _
    · obtain ⟨y2, y3, y4, y5, rfl, e2, npt, hp, xs, hxs, hrows⟩ := hP
      rw [nv_len, List.take_length] at hrows
      exact s_ret (ev_var rfl) fun H3 e3 => q t H3 xs ht (e2.trans e3) (e3 _ _ hxs) (hrows.ex e3)
theorem ok_poly {fa : Addr} {fd : FuncData} (F : Fun K "root_poly" "root_poly" sPoly fa fd) (GP : Has P w K mg base 3 "root_polys" ["n"] spPolys) : FnOk P w K mg base CX0 4 fa fd ["n"] spPoly := by
  refine F.ok scPoly (fun vs H Q E h => ?_) (fun cdv A outer s H vs Q E hr h => ?_)
  · obtain ⟨d, rfl, _⟩ := h
    rfl
  · obtain ⟨n, rfl, hn1, hn2, q⟩ := h
    refine ⟨_, pss_one (ps_ret (pe_ix ix_tup (pe_ix ix_list (pe_callD GP hr (by rfl) (pa_cons (pv 0) pa_nil)) (pe_un un_neg pe_int) (fun _ _ => rfl)) pe_int (fun _ _ => rfl))), ?_⟩
    have hend := each60 t_divEnd hn1 hn2
    unfold divEnd at hend
    rw [Bool.and_eq_true, Bool.and_eq_true, Bool.and_eq_true] at hend
    have hlast : (DIV n).getD ((DIV n).length - 1) 0 = n := eq_of_beq hend.1.1.2
    have hpos : 0 < (DIV n).length := of_decide_eq_true hend.1.2
    refine ⟨_, rfl, n, rfl, hn1, hn2, fun p H2 xs hp e2 h2 hrows => ?_⟩
    have hl := hrows.len
    have hxl : xs[xs.length - 1]? = some (xs[xs.length - 1]'(by omega)) := List.getElem?_eq_getElem (by omega)
    obtain ⟨d, hd, T, pg, hx, hT, hg, _⟩ := hrows.get hxl
    have hdn : d = n := by
      rw [← hlast, ← hl]
      exact (nat_getD hd).symm
    subst hdn
    rw [hx] at hxl
    have hat : atI xs (-1) = some (.ref T) := by
      have hne : xs ≠ [] := List.length_pos_iff.mp (by omega)
      have e : xs = xs.dropLast ++ [xs.getLast hne] := (List.dropLast_concat_getLast hne).symm
      have e3 : xs.getLast hne = .ref T := by
        rw [List.getLast_eq_getElem]
        exact hx
      rw [e, e3, atI_last]
    exact ⟨1, rfl, p, xs, -1, .ref T, rfl, rfl, sq_of h2, hat, T, _, 1, .ref pg, rfl, rfl, st_of hT, atI_nat (j := 1) rfl, q pg H2 e2 hg⟩
end
end RK
end

section
set_option Elab.async false
set_option linter.all false
set_option maxRecDepth 100000
set_option maxHeartbeats 4000000
namespace RK
open PySem PySem.Spec PyProof.Rows L2 Evl
abbrev sSum : Stmt := topS 18
theorem scSum : FnScope ["one", "other", "n", "told", "i", "x", "j", "y"] ["one", "other"] (defScope sSum) := ⟨rfl, rfl, rfl, by decide +kernel, rfl, by decide +kernel, by decide +kernel⟩
def spSum (K : PySem.W.Frag) : Sp := fun vs H Q _ => ∃ (a b : Addr) (x y : List Int), vs = [.ref a, .ref b] ∧ SqL K H a (iv x) ∧ SqL K H b (iv y) ∧ 1 ≤ x.length ∧ x.length ≤ 1000 ∧ (∀ u ∈ x, ∀ v ∈ y, CMulW u v) ∧ RetL (iv (sumTimes x y)) H Q
section
variable {P : Program} {w : World} {K : PySem.W.Frag} {mg : Str → Option Value} {base : Heap}
theorem len_sumRow (n i : Nat) (x : Int) (y t : List Int) (k : Nat) : (sumRow n i x y t k).length = t.length := eFold_len _ _ (fun j v t => len_addAt _ _ _) _
theorem ok_sum {fa : Addr} {fd : FuncData} (F : Fun K "sum_times" "sum_times" sSum fa fd) (B : Free mg) : FnOk P w K mg base CX0 1 fa fd ["one", "other"] (spSum K) := by
  refine F.ok scSum (fun vs H Q E h => ?_) (fun cdv A outer s H vs Q E hr h => ?_)
  · obtain ⟨a, b, x, y, rfl, _⟩ := h
    rfl
  · obtain ⟨a, b, x, y, rfl, hX, hY, h1, h2, hmul, q⟩ := h
    refine ⟨_, pss_cons (ps_set (i := 2) scSum.nd rfl (.inl rfl) (pe_callB call_len_seq (by rfl) B.len PySem.boot_len (pa_cons (pv 0) pa_nil)))
      (pss_cons (ps_set (i := 3) scSum.nd rfl (.inl rfl) (pe_op op_rep (pe_lst (pa_cons pe_int pa_nil)) (pv 2)))
      (pss_cons (ps_for PassesOwn.never rfl (pi_enum (by rfl) B.enumerate (pa_cons (pv 0) pa_nil)) (pg_tup rfl (pgs_cons (pg_name (i := 4) scSum.nd rfl (.inl rfl)) (pgs_cons (pg_name (i := 5) scSum.nd rfl (.inl rfl)) pgs_nil)))
        (pss_one (ps_for PassesOwn.never rfl (pi_enum (by rfl) B.enumerate (pa_cons (pv 1) pa_nil)) (pg_tup rfl (pgs_cons (pg_name (i := 6) scSum.nd rfl (.inl rfl)) (pgs_cons (pg_name (i := 7) scSum.nd rfl (.inl rfl)) pgs_nil)))
          (pss_one (ps_augS (pv 3) (pe_op op_mod (pe_op op_add (pv 4) (pv 6)) (pv 2)) get_list (pe_op op_mulW (pv 5) (pv 7)) ip_add set_list)))))
      (pss_one (ps_ret (pv 3))))), ?_⟩
    refine q_asg (ev_lenI (ev_var rfl) hX) fun H1 e1 => ?_
    refine q_asgL (el_zeros (k := x.length) (ev_var rfl) (by omega) (by omega) (by omega)) fun t H2 ht e2 h3 => ?_
    have nt : H t = none := fresh_back e1 ht
    have e12 := e1.trans e2
    refine q_forE (ev_var rfl) (ex_l e12 hX) (fun i σ' H' => ∃ y4 y5 y6 y7, σ' = [some (.ref a), some (.ref b), some (.int (x.length : Int)), some (.ref t), y4, y5, y6, y7] ∧ Ex H H' ∧ H' t = some (.lst (iv (eFold (fun i u t => sumRow x.length i u y t y.length) x (zeros x.length) i))))
      (fun H3 e3 => ⟨none, none, none, none, rfl, e12.trans e3, e3 t _ h3⟩) (fun i σ' H' _ p => ?_) (fun i σ' H' T o p nT => ?_) (fun i σ' H' hi p => ?_) (fun σ' H' p => ?_)
    · obtain ⟨y4, y5, y6, y7, rfl, e3, h4⟩ := p
      exact ex_l e3 hX
    · obtain ⟨y4, y5, y6, y7, rfl, e3, h4⟩ := p
      exact ⟨y4, y5, y6, y7, rfl, e3.trans (Ex.new nT), keep_new h4 nT⟩
    · obtain ⟨y4, y5, y6, y7, rfl, e3, h4⟩ := p
      have hl : (eFold (fun i u t => sumRow x.length i u y t y.length) x (zeros x.length) i).length = x.length := by rw [eFold_len _ _ (fun i u t => len_sumRow _ _ _ _ _ _), len_zeros]
      refine s_forE (ev_var rfl) (ex_l e3 hY) (fun j σ2 H4 => ∃ y6 y7, σ2 = [some (.ref a), some (.ref b), some (.int (x.length : Int)), some (.ref t), some (.int (i : Int)), some (.int (x.getD i 0)), y6, y7] ∧ Ex H H4 ∧ H4 t = some (.lst (iv (sumRow x.length i (x.getD i 0) y (eFold (fun i u t => sumRow x.length i u y t y.length) x (zeros x.length) i) j))))
        (fun H4 e4 => ⟨y6, y7, rfl, e3.trans e4, e4 t _ h4⟩) (fun j σ2 H4 _ p => ?_) (fun j σ2 H4 T o p nT => ?_) (fun j σ2 H4 hj p => ?_) (fun σ2 H4 p => ?_)
      · obtain ⟨y6, y7, rfl, e4, h5⟩ := p
        exact ex_l e4 hY
      · obtain ⟨y6, y7, rfl, e4, h5⟩ := p
        exact ⟨y6, y7, rfl, e4.trans (Ex.new nT), keep_new h5 nT⟩
      · obtain ⟨y6, y7, rfl, e4, h5⟩ := p
        refine s_augAdd (k := (i + j) % x.length) (b := x.getD i 0 * y.getD j 0) h5 (ev_var rfl) (ev_to (ev_mod (i := (i : Int) + (j : Int)) (j := (x.length : Int)) (ev_add (i := (i : Int)) (j := (j : Int)) (ev_var rfl) (ev_var rfl)) (ev_var rfl) (by omega)) (by rw [← Int.natCast_add, ← Int.natCast_emod])) ?_ (ev_mulW (ev_var rfl) (ev_var rfl) (hmul _ (getD_mem hi) _ (getD_mem hj))) fun H5 e5 => ?_
        · rw [len_sumRow, hl]
          exact Nat.mod_lt _ (by omega)
        · exact ⟨_, _, rfl, (e4.trans e5).mut nt, upd_same⟩
      · obtain ⟨y6, y7, rfl, e4, h5⟩ := p
        exact ⟨_, _, y6, y7, rfl, e4, h5⟩
    · obtain ⟨y4, y5, y6, y7, rfl, e3, h4⟩ := p
      exact s_ret (ev_var rfl) fun H4 e4 => RetL.go q (Ex.refl H) nt (e3.trans e4) (e4 t _ h4)
end

/-! ### grounding -/
section
variable {K : PySem.W.Frag} {σ : L2.St} {H : Hp} {D : Ends} {tu tz : TS} {g : TG}
/-- the turns of a for over the list at a -/
def ForL (K : PySem.W.Frag) (a : Addr) (g : TG) (tb : TS) (D : Ends) (σ : L2.St) (H : Hp) : Prop :=
  ∃ W : Nat → Nat → L2.St → Hp → Prop, (∃ m, W 0 m σ H) ∧ ∀ i m σ H, W i m σ H →
      ((Itl K a).stop i H ∧ D.nx σ H) ∨ ((Itl K a).go i H ∧ ∃ N : L2.St → Hp → Prop, (∀ σ' H', N σ' H' → ∃ m', m' < m ∧ W (i + 1) m' σ' H') ∧ ∀ x H', (Itl K a).yld i H x H' → g x σ H' fun σ2 H2 => tb { D with nx := N, ct := N, bk := D.nx } σ2 H2)
theorem forL_of {a : Addr} {xs : List V} (Pv : Nat → L2.St → Hp → Prop) (h0 : Pv 0 σ H) (hl : ∀ i σ H, i ≤ xs.length → Pv i σ H → SqL K H a xs)
    (hs : ∀ i x σ H, xs[i]? = some x → Pv i σ H → g x σ H fun σ2 H2 => tu { D with nx := Pv (i + 1), ct := Pv (i + 1), bk := D.nx } σ2 H2) (hd : ∀ σ H, Pv xs.length σ H → D.nx σ H) : ForL K a g tu D σ H := for_list Pv h0 hl hs hd
theorem q_forC {sp : Sp} {ta : TA} {vs : List V} (h : EvA ta σ H vs) (k : ∀ H1, Ex H H1 → sp (vs ++ []) H1 (fun x H2 => ∃ a, x = .ref a ∧ (∃ xs, SqL K H2 a xs) ∧ ForL K a g tu { D with nx := tz D } σ H2) E0) : tSeq (tFor (iList K (tCall sp [] E0 ta)) g tu) tz D σ H :=
  h H (Ex.refl H) _ fun H1 e => k H1 e
end
theorem and_not_dec {A A' B : Prop} [Decidable A] [Decidable A'] [Decidable B] (h : A' ↔ A) : (decide A' && !decide B) = decide (A ∧ ¬ B) := by
  by_cases hA : A <;> by_cases hB : B <;> simp [hA, hB, h]
def Trip (H : Hp) (ws : List V) : Prop := ∀ x ∈ ws, ∃ t i j k, x = V.ref t ∧ H t = some (.tup [.int i, .int j, .int k])
theorem Trip.ex {H H' : Hp} (e : Ex H H') {ws : List V} (h : Trip H ws) : Trip H' ws := fun x hx => by
  obtain ⟨t, i, j, k, a, b⟩ := h x hx
  exact ⟨t, i, j, k, a, e t _ b⟩
theorem Trip.upd {H : Hp} {ws : List V} (h : Trip H ws) {l : Addr} {ys : List V} (hl : H l = some (.lst ys)) (o : HO) : Trip (upd H l o) ws := fun x hx => by
  obtain ⟨t, i, j, k, a, b⟩ := h x hx
  exact ⟨t, i, j, k, a, by rw [upd_ne (ne_of b hl (by intro z; cases z))]; exact b⟩
theorem Trip.snoc {H : Hp} {ws : List V} (h : Trip H ws) {T : Addr} {i j k : Int} (hT : H T = some (.tup [.int i, .int j, .int k])) : Trip H (ws ++ [.ref T]) := fun x hx => by
  rcases List.mem_append.mp hx with z | z
  · exact h x z
  · rw [List.mem_singleton] at z
    subst z
    exact ⟨T, i, j, k, rfl, hT⟩
def rowsOk (n : Nat) : Bool := (PART n).all (fun po => decide (1 ≤ po.1) && decide (po.1 ≤ 30) && decide (po.2 ≤ 30) && decide (po.1 ^ po.2 ≤ 30) && decide (1 ≤ po.1 ^ po.2)) && decide ((PART n).length ≤ 3)
theorem t_rows : (List.range' 1 30).all rowsOk = true := by decide +kernel
def partLeB (n : Nat) : Bool := (PART n).all fun po => decide (po.1 ≤ n)
theorem t_partLe : (List.range' 1 30).all partLeB = true := by decide +kernel
theorem partLe {n p o : Nat} (h1 : 1 ≤ n) (h2 : n ≤ 30) (h : (p, o) ∈ PART n) : p ≤ n := of_decide_eq_true (List.all_eq_true.mp (each30 t_partLe h1 h2) (p, o) h)
theorem PRows.get {H : Hp} {xs : List V} {rows : List (Nat × Nat)} (h : PRows H xs rows) {i : Nat} {x : V} (hx : xs[i]? = some x) : ∃ r, rows[i]? = some r ∧ ∃ t, x = .ref t ∧ H t = some (.tup [.int (r.1 : Int), .int (r.2 : Int)]) := paired_get h hx

abbrev sGround : Stmt := topS 19
theorem scGround : FnScope ["some", "n", "rest", "wheels", "p", "often", "wide", "top", "j", "c", "k"] ["some"] (defScope sGround) := ⟨rfl, rfl, rfl, by decide +kernel, rfl, by decide +kernel, by decide +kernel⟩
def spGround (K : PySem.W.Frag) : Sp := fun vs H Q _ => ∃ (a : Addr) (s : List Int), vs = [.ref a] ∧ SqL K H a (iv s) ∧ 1 ≤ s.length ∧ s.length ≤ 30 ∧
  ∀ p r wl H2, H p = none → H r = none → Ex H H2 → H2 p = some (.tup [.ref r, .ref wl]) → H2 r = some (.lst (iv (gRest s.length (PART s.length) s))) → Q (.ref p) H2
section
variable {P : Program} {w : World} {K : PySem.W.Frag} {mg : Str → Option Value} {base : Heap}
theorem ok_ground {fa : Addr} {fd : FuncData} (F : Fun K "grounded" "grounded" sGround fa fd) (B : Free mg) (GP : Has P w K mg base 1 "parted" ["n"] spParted) (GR : Has P w K mg base 1 "raised" ["p", "k"] spRaised) : FnOk P w K mg base CX0 2 fa fd ["some"] (spGround K) := by
  refine F.ok scGround (fun vs H Q E h => ?_) (fun cdv A outer s H vs Q E hr h => ?_)
  · obtain ⟨a, s, rfl, _⟩ := h
    rfl
  · obtain ⟨a, s0, rfl, hS, h1, h2, q⟩ := h
    refine ⟨_, pss_cons (ps_set (i := 1) scGround.nd rfl (.inl rfl) (pe_callB call_len_seq (by rfl) B.len PySem.boot_len (pa_cons (pv 0) pa_nil)))
      (pss_cons (ps_set (i := 2) scGround.nd rfl (.inl rfl) (pe_callTy call_list_of (by rfl) B.list (by decide +kernel) (pa_cons (pv 0) pa_nil)))
      (pss_cons (ps_set (i := 3) scGround.nd rfl (.inl rfl) (pe_lst pa_nil))
      (pss_cons (ps_for PassesOwn.never rfl (pi_list (pe_callD GP hr (by rfl) (pa_cons (pv 1) pa_nil))) (pg_tup rfl (pgs_cons (pg_name (i := 4) scGround.nd rfl (.inl rfl)) (pgs_cons (pg_name (i := 5) scGround.nd rfl (.inl rfl)) pgs_nil)))
        (pss_cons (ps_set (i := 6) scGround.nd rfl (.inl rfl) (pe_callD GR hr (by rfl) (pa_cons (pv 4) (pa_cons (pv 5) pa_nil))))
        (pss_cons (ps_set (i := 7) scGround.nd rfl (.inl rfl) (pe_op op_sub (pv 6) (pe_op op_fdiv (pv 6) (pv 4))))
        (pss_one (ps_for PassesOwn.never rfl (pi_range1 (by rfl) B.range (pa_cons (pv 1) pa_nil)) (pg_name (i := 8) scGround.nd rfl (.inl rfl))
          (pss_cons (ps_set (i := 9) scGround.nd rfl (.inl rfl) (pe_ix ix_list (pv 2) (pv 8) (fun _ _ => rfl)))
          (pss_one (ps_if (pw_and (pt_cmpR op_ge (pe_op op_mod (pv 8) (pv 6)) (pv 7) (nomark _)) (pw_and1 (pt_cmpR op_ne (pv 9) pe_int (nomark _)))).pt
            (pss_cons (ps_expr (pe_bm PySem.F.plainAttrs_list PySem.F.slot_list_append PySem.F.type_list_append mt_append (pv 3) (pa_cons (pe_tup (pa_cons (pv 4) (pa_cons (pe_op op_mod (pv 8) (pe_op op_fdiv (pv 1) (pv 4))) (pa_cons (pv 9) pa_nil)))) pa_nil)))
            (pss_one (ps_for PassesOwn.never rfl (pi_range1 (by rfl) B.range (pa_cons (pv 4) pa_nil)) (pg_name (i := 10) scGround.nd rfl (.inl rfl))
              (pss_one (ps_augS (pv 2) (pe_op op_mod (pe_op op_add (pv 8) (pe_op op_mul (pv 10) (pe_op op_fdiv (pv 1) (pv 4)))) (pv 1)) get_list (pv 9) ip_sub set_list))))) pss_nil))))))))
      (pss_one (ps_ret (pe_tup (pa_cons (pv 2) (pa_cons (pe_callB (cr_sorted3 hr.units) (by rfl) B.sorted (by decide +kernel) (pa_cons (pv 3) pa_nil)) pa_nil)))))))), ?_⟩
    generalize hn : s0.length = n at h1 h2 q
    have hrk := each30 t_rows h1 h2
    unfold rowsOk at hrk
    rw [Bool.and_eq_true] at hrk
    refine q_asg (ev_to (ev_lenI (ev_var rfl) hS) (congrArg _ hn)) fun H1 e1 => ?_
    refine q_asgL (el_listI (ev_var rfl) (ex_l e1 hS)) fun r H2 nr e2 h3 => ?_
    have nr0 : H r = none := fresh_back e1 nr
    refine q_asgL (el_lst ea_nil (Nat.zero_le _)) fun wl H3 nw e3 h4 => ?_
    have nw0 : H wl = none := fresh_back (e1.trans e2) nw
    have nrw : r ≠ wl := ne_of_none h3 nw
    have e13 := (e1.trans e2).trans e3
    refine q_forC (ea_cons (ev_var rfl) ea_nil) fun H4 e4 => ⟨n, rfl, h1, h2, fun pt H5 xs npt e5 hpt hrows => ⟨pt, rfl, ⟨xs, sq_of hpt⟩, ?_⟩⟩
    have npr : pt ≠ r := (ne_of_none (e4 _ _ (e3 _ _ h3)) npt).symm
    have npw : pt ≠ wl := (ne_of_none (e4 _ _ h4) npt).symm
    refine forL_of (xs := xs) (fun i σ' H' => ∃ y4 y5 y6 y7 y8 y9 y10, σ' = [some (.ref a), some (.int (n : Int)), some (.ref r), some (.ref wl), y4, y5, y6, y7, y8, y9, y10] ∧ Ex H H' ∧ H' pt = some (.lst xs) ∧ PRows H' xs (PART n) ∧
        H' r = some (.lst (iv (((PART n).take i).foldl (fun r po => gRow n po r) s0))) ∧ ∃ ws, H' wl = some (.lst ws) ∧ Trip H' ws ∧ ws.length ≤ 30 * i)
      ⟨none, none, none, none, none, none, none, rfl, (e13.trans e4).trans e5, hpt, hrows, e5 _ _ (e4 _ _ (e3 _ _ h3)), [], e5 _ _ (e4 _ _ h4), (fun x hx => by cases hx), Nat.zero_le _⟩ (fun i σ' H' _ hP => ?_) (fun i x σ' H' hx hP => ?_) (fun σ' H' hP => ?_)
    · obtain ⟨_, _, _, _, _, _, _, _, _, hp, _⟩ := hP
      exact sq_of hp
    · obtain ⟨y4, y5, y6, y7, y8, y9, y10, rfl, e6, hp6, hr6, hrest, ws, hws, htrip, hwl⟩ := hP
      obtain ⟨⟨p, o⟩, hpo, T, rfl, hT⟩ := hr6.get hx
      have hmem : (p, o) ∈ PART n := List.mem_of_getElem? hpo
      have hck := List.all_eq_true.mp hrk.1 _ hmem
      simp only [Bool.and_eq_true, decide_eq_true_eq] at hck
      obtain ⟨⟨⟨⟨p1, p2⟩, o2⟩, w2⟩, w1⟩ := hck
      have hlen3 : xs.length ≤ 3 := by
        rw [hr6.len]
        exact of_decide_eq_true hrk.2
      have hi3 : i < 3 := Nat.lt_of_lt_of_le (List.getElem?_eq_some_iff.mp hx).1 hlen3
      refine ⟨T, _, rfl, st_of hT, rfl, _, _, rfl, _, _, rfl, rfl, ?_⟩
      refine q_asg (v := .int ((p ^ o : Nat) : Int)) (ev_call (ea_cons (ev_var rfl) (ea_cons (ev_var rfl) ea_nil)) fun H7 e7 Q' k E' => ⟨p, o, rfl, by omega, by omega, k⟩) fun H7 e7 => ?_
      have htop : ((p ^ o : Nat) : Int) - ((p ^ o : Nat) : Int) / (p : Int) = ((p ^ o - p ^ o / p : Nat) : Int) := by
        rw [← Int.natCast_ediv]
        have := Nat.div_le_self (p ^ o) p
        omega
      refine q_asg (ev_to (ev_sub (i := ((p ^ o : Nat) : Int)) (j := ((p ^ o : Nat) : Int) / (p : Int)) (ev_var rfl) (ev_fdiv (i := ((p ^ o : Nat) : Int)) (j := (p : Int)) (ev_var rfl) (ev_var rfl) ⟨by omega, by omega⟩)) htop) fun H8 e8 => ?_
      have hTlen : ∀ l : List (Nat × Nat), (l.foldl (fun r po => gRow n po r) s0).length = n := fun l => by
        have := len_gRest n l s0
        unfold gRest at this
        rw [this, hn]
      generalize hTT : ((PART n).take i).foldl (fun r po => gRow n po r) s0 = TT at hrest
      have hTTl : TT.length = n := by rw [← hTT]; exact hTlen _
      have hstep : ∀ k, (nIter (gStep n p (p ^ o) (p ^ o - p ^ o / p)) TT k).length = n := by
        intro k
        induction k with
        | zero => exact hTTl
        | succ k ih => show (gStep _ _ _ _ _ _).length = n; rw [len_gStep, ih]
      refine s_forR1 (n := (n : Int)) (ea_cons (ev_var rfl) ea_nil) (by omega) (fun j σ2 H9 => ∃ y8 y9 y10, σ2 = [some (.ref a), some (.int (n : Int)), some (.ref r), some (.ref wl), some (.int (p : Int)), some (.int (o : Int)), some (.int ((p ^ o : Nat) : Int)), some (.int ((p ^ o - p ^ o / p : Nat) : Int)), y8, y9, y10] ∧ Ex H H9 ∧ H9 pt = some (.lst xs) ∧ PRows H9 xs (PART n) ∧
          H9 r = some (.lst (iv (nIter (gStep n p (p ^ o) (p ^ o - p ^ o / p)) TT j))) ∧ ∃ ws, H9 wl = some (.lst ws) ∧ Trip H9 ws ∧ ws.length ≤ 30 * i + j)
        (fun H9 e9 => ?_) (fun j σ2 H9 hj hP => ?_) (fun σ2 H9 hP => ?_)
      · have e79 := (e7.trans e8).trans e9
        exact ⟨y8, y9, y10, rfl, e6.trans e79, e79 _ _ hp6, hr6.ex e79, e79 _ _ hrest, ws, e79 _ _ hws, htrip.ex e79, hwl⟩
      · obtain ⟨y8, y9, y10, rfl, e9, hp9, hr9, hrest9, ws9, hws9, htrip9, hwl9⟩ := hP
        have hjn : j < n := by omega
        have hl9 := hstep j
        generalize hU : nIter (gStep n p (p ^ o) (p ^ o - p ^ o / p)) TT j = U at hrest9 hl9
        refine q_asg (ev_ixL (ev_var rfl) (ev_var rfl) (sq_of hrest9) (iv_at (i := j) rfl (by omega))) fun H10 e10 => ?_
        have eb : (decide (((p ^ o - p ^ o / p : Nat) : Int) ≤ (j : Int) % ((p ^ o : Nat) : Int)) && !decide (U.getD j 0 = 0)) = decide (p ^ o - p ^ o / p ≤ j % p ^ o ∧ U.getD j 0 ≠ 0) := by
          rw [← Int.natCast_emod]
          exact and_not_dec Int.ofNat_le
        have hnext : nIter (gStep n p (p ^ o) (p ^ o - p ^ o / p)) TT (j + 1) = gStep n p (p ^ o) (p ^ o - p ^ o / p) j U := by
          rw [← hU]
          rfl
        refine s_when (et_is (et_and (et_test (ev_cmp (f := fun i j => decide (j ≤ i)) (ev_mod (i := (j : Int)) (j := ((p ^ o : Nat) : Int)) (ev_var rfl) (ev_var rfl) (by omega)) (ev_var rfl))) fun _ => et_test (ev_neI (ev_var rfl) ev_c)) eb) (fun hb H11 e11 => ?_) (fun hb H11 e11 => ?_)
        · have hc := of_decide_eq_true hb
          have e911 := e10.trans e11
          have hnp : (n : Int) / (p : Int) = ((n / p : Nat) : Int) := (Int.natCast_ediv n p).symm
          refine q_appU (xs := ws9) (e911 _ _ hws9) (ev_var rfl) (eu_tup (ea_cons (ev_var rfl) (ea_cons (ev_mod (i := (j : Int)) (j := (n : Int) / (p : Int)) (ev_var rfl) (ev_fdiv (i := (n : Int)) (j := (p : Int)) (ev_var rfl) (ev_var rfl) ⟨by omega, by omega⟩) ?_) (ea_cons (ev_var rfl) ea_nil))) (by show 3 ≤ 100000; decide)) (by omega) fun T2 H12 nT2 e12 hT2 => ?_
          · rw [hnp]
            have : n / p ≠ 0 := by
              intro z
              have hd : n < p := by
                rcases Nat.div_eq_zero_iff.mp z with z | z
                · omega
                · exact z
              have hpn : p ≤ n := partLe h1 h2 hmem
              omega
            exact Int.natCast_pos.mpr (Nat.pos_of_ne_zero this)
          have e912 := e911.trans e12
          have nwH : H wl = none := nw0
          have hr12 : (upd H12 wl (.lst (ws9 ++ [.ref T2]))) r = some (.lst (iv U)) := by
            rw [upd_ne nrw]
            exact e912 _ _ hrest9
          have hp12 : (upd H12 wl (.lst (ws9 ++ [.ref T2]))) pt = some (.lst xs) := by
            rw [upd_ne npw]
            exact e912 _ _ hp9
          have ex12 : Ex H (upd H12 wl (.lst (ws9 ++ [.ref T2]))) := (e9.trans e912).mut nw0
          have rows12 : PRows (upd H12 wl (.lst (ws9 ++ [.ref T2]))) xs (PART n) := (hr9.ex e912).upd (e912 _ _ hws9) _
          have trip12 : Trip (upd H12 wl (.lst (ws9 ++ [.ref T2]))) (ws9 ++ [.ref T2]) := ((htrip9.ex e912).snoc hT2).upd (e912 _ _ hws9) _
          generalize hcc : U.getD j 0 = c at hc
          have hlW : ∀ k, (nIter (fun k t => addAt t ((j + k * (n / p)) % n) (-c)) U k).length = n := by
            intro k
            induction k with
            | zero => exact hl9
            | succ k ih => show (addAt _ _ _).length = n; rw [len_addAt, ih]
          refine s_forR1 (n := (p : Int)) (ea_cons (ev_var rfl) ea_nil) (by omega) (fun k σ3 H13 => ∃ y10, σ3 = [some (.ref a), some (.int (n : Int)), some (.ref r), some (.ref wl), some (.int (p : Int)), some (.int (o : Int)), some (.int ((p ^ o : Nat) : Int)), some (.int ((p ^ o - p ^ o / p : Nat) : Int)), some (.int (j : Int)), some (.int c), y10] ∧ Ex H H13 ∧ H13 pt = some (.lst xs) ∧ PRows H13 xs (PART n) ∧
              H13 r = some (.lst (iv (nIter (fun k t => addAt t ((j + k * (n / p)) % n) (-c)) U k))) ∧ H13 wl = some (.lst (ws9 ++ [.ref T2])) ∧ Trip H13 (ws9 ++ [.ref T2]))
            (fun H13 e13 => ⟨y10, rfl, ex12.trans e13, e13 _ _ hp12, rows12.ex e13, e13 _ _ hr12, e13 _ _ upd_same, trip12.ex e13⟩) (fun k σ3 H13 hk hP => ?_) (fun σ3 H13 hP => ?_)
          · obtain ⟨y10, rfl, e13, hp13, hr13, hrest13, hws13, htrip13⟩ := hP
            refine s_augSub (k := (j + k * (n / p)) % n) (b := c) hrest13 (ev_var rfl) (ev_to (ev_mod (i := (j : Int) + (k : Int) * ((n : Int) / (p : Int))) (j := (n : Int)) (ev_add (i := (j : Int)) (j := (k : Int) * ((n : Int) / (p : Int))) (ev_var rfl) (ev_mul (i := (k : Int)) (j := (n : Int) / (p : Int)) (ev_var rfl) (ev_fdiv (i := (n : Int)) (j := (p : Int)) (ev_var rfl) (ev_var rfl) ⟨by omega, by omega⟩) (.inl (by omega)))) (ev_var rfl) (by omega)) ?_) ?_ (ev_var rfl) fun H14 e14 => ?_
            · rw [hnp, ← Int.natCast_mul, ← Int.natCast_add, ← Int.natCast_emod]
            · rw [hlW]
              exact Nat.mod_lt _ (by omega)
            · refine ⟨_, rfl, (e13.trans e14).mut nr0, ?_, (hr13.ex e14).upd (e14 _ _ hrest13) _, upd_same, ?_, (htrip13.ex e14).upd (e14 _ _ hrest13) _⟩
              · rw [upd_ne npr]
                exact e14 _ _ hp13
              · rw [upd_ne nrw.symm]
                exact e14 _ _ hws13
          · obtain ⟨y10, rfl, e13, hp13, hr13, hrest13, hws13, htrip13⟩ := hP
            refine ⟨_, _, y10, rfl, e13, hp13, hr13, ?_, _, hws13, htrip13, by rw [List.length_append]; show ws9.length + 1 ≤ _; omega⟩
            rw [hrest13, Int.toNat_natCast, hnext]
            unfold gStep
            rw [hcc, if_pos hc]
            rfl
        · have hc := of_decide_eq_false hb
          have e911 := e10.trans e11
          refine ⟨_, _, y10, rfl, e9.trans e911, e911 _ _ hp9, hr9.ex e911, ?_, ws9, e911 _ _ hws9, htrip9.ex e911, by omega⟩
          rw [e911 _ _ hrest9, hnext]
          unfold gStep
          rw [if_neg hc]
      · obtain ⟨y8, y9, y10, rfl, e9, hp9, hr9, hrest9, ws9, hws9, htrip9, hwl9⟩ := hP
        refine ⟨_, _, _, _, y8, y9, y10, rfl, e9, hp9, hr9, ?_, ws9, hws9, htrip9, by omega⟩
        rw [hrest9, Int.toNat_natCast, List.take_add_one, hpo]
        show _ = some (HO.lst (iv (((PART n).take i ++ [(p, o)]).foldl (fun r po => gRow n po r) s0)))
        rw [List.foldl_append, hTT]
        rfl
    · obtain ⟨y4, y5, y6, y7, y8, y9, y10, rfl, e6, hp6, hr6, hrest, ws, hws, htrip, hwl⟩ := hP
      rw [hr6.len, List.take_length] at hrest
      refine ⟨.ref r, rfl, .ref wl, rfl, wl, ws, rfl, sq_of hws, htrip, fun ys p2 np2 => ?_⟩
      refine ⟨by show 2 ≤ sizeLine; decide, fun p np => ?_⟩
      have np2' : H' p2 = none := np2
      have exA : Ex H' (upd H' p2 (.lst ys)) := Ex.new np2
      have exB : Ex H' (upd (upd H' p2 (.lst ys)) p (.tup [.ref r, .ref p2])) := exA.trans (Ex.new np)
      exact q p r p2 _ (fresh_back (e6.trans exA) np) nr0 (e6.trans exB) upd_same (exB _ _ hrest)
end
end RK
end

section
set_option Elab.async false
set_option linter.all false
set_option maxRecDepth 100000
set_option maxHeartbeats 4000000
namespace RK
open PySem PySem.Spec PyProof.Rows L2 Evl
section
variable {σ : L2.St} {H : Hp}
theorem cb_list {r : List V → Hp → VK → Prop} {te : TE} {xs : List V} {Q : VK} (h : EvL te σ H xs) (k : ∀ p H1, H p = none → Ex H H1 → H1 p = some (.lst xs) → r [.ref p] H1 Q) : tCB r (tCons te tNil) σ H Q := h H (Ex.refl H) _ fun p H1 n e h1 => k p H1 n e h1
theorem et_yes : EvT tYes σ H true := fun H1 _ Q q => q H1 (Ex.refl H1)
end
theorem given_ne (l : List Int) : given (iv l).length (fun _ => true) (fun i => .bl (!decide (l.getD i 0 = 0))) = (l.map fun x => !decide (x = 0)).map V.bl := by
  unfold given
  rw [List.filter_eq_self.mpr (fun _ _ => rfl), iv_len]
  refine List.ext_getElem? fun i => ?_
  rw [List.getElem?_map, List.getElem?_map, List.getElem?_map]
  by_cases h : i < l.length
  · rw [List.getElem?_eq_getElem (by simpa using h), List.getElem?_eq_getElem h, List.getElem_range]
    show some (V.bl (!decide (l.getD i 0 = 0))) = some (V.bl (!decide (l[i] = 0)))
    rw [List.getD_eq_getElem?_getD, List.getElem?_eq_getElem h]
    rfl
  · rw [List.getElem?_eq_none (by simpa using h), List.getElem?_eq_none (by omega)]
    rfl
theorem any_ne (l : List Int) : ((l.map fun x => !decide (x = 0)).any id = true) ↔ l ≠ zeros l.length := by
  induction l with
  | nil => simp [zeros]
  | cons x l ih =>
    have e : zeros (x :: l).length = 0 :: zeros l.length := rfl
    rw [e, List.map_cons, List.any_cons, Bool.or_eq_true]
    by_cases hx : x = 0
    · subst hx
      rw [ih]
      simp
    · simp [hx]
abbrev sNought : Stmt := topS 20
theorem scNought : FnScope ["some", "rest", "wheels", "number"] ["some"] (defScope sNought) := ⟨rfl, rfl, rfl, by decide +kernel, rfl, by decide +kernel, by decide +kernel⟩
def spNought (K : PySem.W.Frag) : Sp := fun vs H Q _ => ∃ (a : Addr) (s : List Int), vs = [.ref a] ∧ SqL K H a (iv s) ∧ 1 ≤ s.length ∧ s.length ≤ 30 ∧
  ∀ p xs H2, Ex H H2 → H2 p = some (.tup (.str (if gRest s.length (PART s.length) s = zeros s.length then "nought" else "not") :: xs)) → Q (.ref p) H2
abbrev sNorm : Stmt := topS 24
theorem scNorm : FnScope ["some", "told", "k"] ["some"] (defScope sNorm) := ⟨rfl, rfl, rfl, by decide +kernel, rfl, by decide +kernel, by decide +kernel⟩
/-- the numbers of the norm's way may be multiplied -/
def NormFits (s : List Int) : Prop := ∀ i k, (UN s.length)[i]? = some k → ∀ u ∈ normL s.length s ((UN s.length).take i), ∀ v ∈ ledL s k, CMulW u v
def spNorm (K : PySem.W.Frag) : Sp := fun vs H Q _ => ∃ (a : Addr) (s : List Int), vs = [.ref a] ∧ SqL K H a (iv s) ∧ 1 ≤ s.length ∧ s.length ≤ 30 ∧ NormFits s ∧
  ∀ H2, Ex H H2 → Q (.int ((normL s.length s (UN s.length)).getD 0 0)) H2
theorem UN_lt {n k i : Nat} (h : (UN n)[i]? = some k) : k < n := List.mem_range.mp (List.mem_filter.mp (List.mem_of_getElem? h)).1
theorem len_sumTimes (x y : List Int) : (sumTimes x y).length = x.length := by
  unfold sumTimes
  rw [eFold_len _ _ (fun i u t => len_sumRow _ _ _ _ _ _), len_zeros]
theorem len_normL (n : Nat) (hn : 1 ≤ n) (s : List Int) (ks : List Nat) : (normL n s ks).length = n := by
  unfold normL
  have key : ∀ (ks : List Nat) (t : List Int), t.length = n → (ks.foldl (normStep n s) t).length = n := by
    intro ks
    induction ks with
    | nil => exact fun t h => h
    | cons k ks ih =>
      intro t h
      refine ih _ ?_
      unfold normStep
      rw [len_gRest, len_sumTimes, h]
  refine key ks _ ?_
  rw [List.length_cons, len_zeros]
  omega
theorem UN_len (n : Nat) : (UN n).length ≤ n := by
  have := List.length_filter_le (fun k => Nat.gcd k n == 1) (List.range n)
  rw [List.length_range] at this
  exact this
section
variable {P : Program} {w : World} {K : PySem.W.Frag} {mg : Str → Option Value} {base : Heap}
theorem ok_nought {fa : Addr} {fd : FuncData} (F : Fun K "nought" "nought" sNought fa fd) (B : Free mg) (GG : Has P w K mg base 2 "grounded" ["some"] (spGround K)) : FnOk P w K mg base CX0 3 fa fd ["some"] (spNought K) := by
  refine F.ok scNought (fun vs H Q E h => ?_) (fun cdv A outer s H vs Q E hr h => ?_)
  · obtain ⟨a, s, rfl, _⟩ := h
    rfl
  · obtain ⟨a, s, rfl, hS, h1, h2, q⟩ := h
    refine ⟨_, pss_cons (ps_asg (pe_callD GG hr (by rfl) (pa_cons (pv 0) pa_nil)) (pg_tup rfl (pgs_cons (pg_name (i := 1) scNought.nd rfl (.inl rfl)) (pgs_cons (pg_name (i := 2) scNought.nd rfl (.inl rfl)) pgs_nil))))
      (pss_cons (ps_if (pt_val (pe_callB (cr_any rfl) (by rfl) B.any (by decide +kernel) (pa_cons (pe_lc (own := [("number", 3)]) (g := gName 3) rfl scNought.nd (pi_list (pv 1)) (blkOk_by (own := [("number", 3)]) (N := ["some", "rest", "wheels", "number"]) (sc := defScope sNought) (by decide +kernel))
          (fun _ _ _ _ _ => pg_name (i := 3) scNought.nd rfl (Or.inl rfl)) (fun _ _ _ _ _ => pts_nil) (fun _ _ _ _ _ => pe_cmpR op_ne (pv 3) pe_int (nomark _))) pa_nil)))
        (pss_one (ps_ret (pe_tup (pa_cons pe_str (pa_cons (pv 1) (pa_cons (pv 2) pa_nil)))))) pss_nil)
      (pss_one (ps_ret (pe_tup (pa_cons pe_str (pa_cons (pv 2) pa_nil)))))), ?_⟩
    refine ⟨.ref a, rfl, a, s, rfl, hS, h1, h2, fun p r wl H2 np nr e2 hp hr2 => ?_⟩
    refine ⟨p, _, rfl, st_of hp, rfl, _, _, rfl, _, _, rfl, rfl, ?_⟩
    have hgl : (gRest s.length (PART s.length) s).length = s.length := len_gRest _ _ _
    generalize gRest s.length (PART s.length) s = G at q hr2 hgl
    have hcat : ∀ H5, Ex H2 H5 → EvL (tLc (iList K (tVar 1)) (gName 3) tYes (tOp rNe (tVar 3) (tC (.int 0))) [3]) [some (.ref a), some (.ref r), some (.ref wl), none] H5 (given (iv G).length (fun _ => true) (fun i => .bl (!decide (G.getD i 0 = 0)))) := fun H5 e5 => by
      refine el_lcL _ _ (ev_var rfl) (sq_of (e5 _ _ hr2)) (by rw [iv_len]; omega) (fun x => rfl) (fun i x H6 e6 hx => et_yes) (fun i x H6 e6 hx hf => ?_)
      have hlt : i < G.length := by
        have := (List.getElem?_eq_some_iff.mp hx).1
        rw [iv_len] at this
        exact this
      rw [iv_get hlt] at hx
      obtain rfl := Option.some.inj hx
      exact ev_neI (ev_var rfl) ev_c
    have htest : ∀ H5, Ex H2 H5 → ∀ Q' : V → Hp → Prop, (∀ H6, Ex H5 H6 → Q' (.bl ((G.map fun x => !decide (x = 0)).any id)) H6) → tCB (rAny K) (tCons (tLc (iList K (tVar 1)) (gName 3) tYes (tOp rNe (tVar 3) (tC (.int 0))) [3]) tNil) [some (.ref a), some (.ref r), some (.ref wl), none] H5 Q' := fun H5 e5 Q' k =>
      cb_list (hcat H5 e5) fun pl H6 npl e6 h6 => ⟨pl, _, rfl, sq_of (h6.trans (congrArg (fun z => some (HO.lst z)) (given_ne G))), k H6 e6⟩
    refine q_when (b := (G.map fun x => !decide (x = 0)).any id) (et_B fun H5 e5 Q' k => htest H5 e5 Q' k) (fun hb H5 e5 => ?_) (fun hb H5 e5 => ?_)
    · have hne := (any_ne G).mp hb
      refine s_retU (eu_tup (ea_cons ev_c (ea_cons (ev_var rfl) (ea_cons (ev_var rfl) ea_nil))) (by show 3 ≤ 100000; decide)) fun p3 H6 np3 e6 h6 => q p3 [.ref r, .ref wl] H6 ((e2.trans e5).trans e6) ?_
      rw [← hgl, if_neg hne]
      exact h6
    · have he : G = zeros G.length := by
        by_cases hz : G = zeros G.length
        · exact hz
        · rw [(any_ne G).mpr hz] at hb
          cases hb
      refine s_retU (eu_tup (ea_cons ev_c (ea_cons (ev_var rfl) ea_nil)) (by show 2 ≤ 100000; decide)) fun p3 H6 np3 e6 h6 => q p3 [.ref wl] H6 ((e2.trans e5).trans e6) ?_
      rw [← hgl, if_pos he]
      exact h6
theorem ok_norm {fa : Addr} {fd : FuncData} (F : Fun K "norm" "norm" sNorm fa fd) (B : Free mg) (GO : Has P w K mg base 1 "one_of" ["n"] spOne) (GU : Has P w K mg base 2 "units" ["n"] spUnits) (GG : Has P w K mg base 2 "grounded" ["some"] (spGround K)) (GS : Has P w K mg base 1 "sum_times" ["one", "other"] (spSum K)) (GL : Has P w K mg base 1 "led" ["some", "k"] (spLed K)) :
    FnOk P w K mg base CX0 3 fa fd ["some"] (spNorm K) := by
  refine F.ok scNorm (fun vs H Q E h => ?_) (fun cdv A outer s H vs Q E hr h => ?_)
  · obtain ⟨a, s, rfl, _⟩ := h
    rfl
  · obtain ⟨a, s, rfl, hS, h1, h2, hfit, q⟩ := h
    refine ⟨_, pss_cons (ps_set (i := 1) scNorm.nd rfl (.inl rfl) (pe_callD GO (hr.mono (by decide)) (by rfl) (pa_cons (pe_callB call_len_seq (by rfl) B.len PySem.boot_len (pa_cons (pv 0) pa_nil)) pa_nil)))
      (pss_cons (ps_for PassesOwn.never rfl (pi_list (pe_callD GU hr (by rfl) (pa_cons (pe_callB call_len_seq (by rfl) B.len PySem.boot_len (pa_cons (pv 0) pa_nil)) pa_nil))) (pg_name (i := 2) scNorm.nd rfl (.inl rfl))
        (pss_one (ps_set (i := 1) scNorm.nd rfl (.inl rfl) (pe_ix ix_tup (pe_callD GG hr (by rfl) (pa_cons (pe_callD GS (hr.mono (by decide)) (by rfl) (pa_cons (pv 1) (pa_cons (pe_callD GL (hr.mono (by decide)) (by rfl) (pa_cons (pv 0) (pa_cons (pv 2) pa_nil))) pa_nil))) pa_nil)) pe_int (fun _ _ => rfl)))))
      (pss_one (ps_ret (pe_ix ix_list (pv 1) pe_int (fun _ _ => rfl))))), ?_⟩
    refine q_asgL (el_call (ea_cons (ev_lenI (ev_var rfl) hS) ea_nil) fun H2 e2 Q' k E' => ⟨s.length, rfl, h1, by omega, fun p H3 hp e3 h3 => k p H3 hp e3 h3⟩) fun t H1 ht e1 h3 => ?_
    have hUl := UN_len s.length
    refine q_forNLn (xs := nv (UN s.length)) (el_call (ea_cons (ev_lenI (ev_var rfl) (ex_l e1 hS)) ea_nil) fun H2 e2 Q' k E' => ⟨s.length, rfl, by omega, fun p H3 hp e3 h3 => k p H3 hp e3 h3⟩)
      (fun p i σ' H' => ∃ t y2, σ' = [some (.ref a), some (.ref t), y2] ∧ Ex H H' ∧ H' p = some (.lst (nv (UN s.length))) ∧ H' t = some (.lst (iv (normL s.length s ((UN s.length).take i)))))
      (fun p H2 hp e2 h2 => ⟨t, none, rfl, e1.trans e2, h2, e2 _ _ h3⟩) (fun p i σ' H' _ hP => ?_) (fun p i x σ' H' hx hP => ?_) (fun p σ' H' hP => ?_)
    · obtain ⟨_, _, _, _, hp, _⟩ := hP
      exact sq_of hp
    · obtain ⟨t, y2, rfl, e2, hp, ht⟩ := hP
      have hi : i < (UN s.length).length := by
        have := (List.getElem?_eq_some_iff.mp hx).1
        rw [nv_len] at this
        exact this
      rw [nv_get hi] at hx
      obtain rfl := Option.some.inj hx
      have hui : (UN s.length)[i]? = some ((UN s.length).getD i 0) := by
        rw [List.getD_eq_getElem?_getD, List.getElem?_eq_getElem hi]
        rfl
      generalize (UN s.length).getD i 0 = k at hui
      have hk := UN_lt hui
      have hfit1 := hfit i k hui
      have hnext : normL s.length s ((UN s.length).take (i + 1)) = gRest s.length (PART s.length) (sumTimes (normL s.length s ((UN s.length).take i)) (ledL s k)) := by
        rw [List.take_add_one, hui]
        unfold normL
        show ((UN s.length).take i ++ [k]).foldl _ _ = _
        rw [List.foldl_append]
        rfl
      have hlen := len_normL s.length h1 s ((UN s.length).take i)
      generalize normL s.length s ((UN s.length).take i) = t0 at ht hfit1 hnext hlen
      have GLed : EvL (tCall (spLed K) [] E0 (tCons (tVar 0) (tCons (tVar 2) tNil))) [some (.ref a), some (.ref t), some (.int (k : Int))] H' (iv (ledL s k)) :=
        el_call (ea_cons (ev_var rfl) (ea_cons (ev_var rfl) ea_nil)) fun H4 e4 Q' kk E' => ⟨a, s, k, rfl, ex_l (e2.trans e4) hS, h1, by omega, by omega, fun p H5 hp e5 h5 => kk p H5 hp e5 h5⟩
      refine ⟨.ref t, rfl, ?_⟩
      refine GLed H' (Ex.refl H') _ fun pl H5 npl e5 h5 => ⟨t, pl, t0, ledL s k, rfl, sq_of (e5 _ _ ht), sq_of h5, by omega, by omega, hfit1, fun ps H6 nps e6 h6 => ?_⟩
      have hsl : (sumTimes t0 (ledL s k)).length = s.length := by rw [len_sumTimes, hlen]
      refine ⟨ps, _, rfl, sq_of h6, by omega, by omega, fun p' r wl H7 np' nr e7 hp' hr7 => ⟨p', _, 0, .ref r, rfl, rfl, st_of hp', atI_nat (j := 0) rfl, ?_⟩⟩
      have e57 := (e5.trans e6).trans e7
      refine ⟨r, _, rfl, e2.trans e57, e57 _ _ hp, ?_⟩
      rw [hr7, hnext, hsl]
    · obtain ⟨t, y2, rfl, e2, hp, ht⟩ := hP
      rw [nv_len, List.take_length] at ht
      have hlen := len_normL s.length h1 s (UN s.length)
      exact s_ret (ev_ixL (ev_var rfl) ev_c (sq_of ht) (iv_at (i := 0) rfl (by omega))) fun H3 e3 => q H3 (e2.trans e3)
end
end RK
end

section
set_option Elab.async false
set_option linter.all false
set_option maxRecDepth 100000
set_option maxHeartbeats 4000000
namespace RK
open PySem PySem.Spec PyProof.Rows L2 Evl
/-- all but the list at ad stands -/
def ExB (ad : Addr) (H H' : Hp) : Prop := ∀ a o, a ≠ ad → H a = some o → H' a = some o
theorem ExB.refl (ad : Addr) (H : Hp) : ExB ad H H := fun _ _ _ h => h
theorem ExB.of {ad : Addr} {H H' : Hp} (e : Ex H H') : ExB ad H H' := fun a o _ h => e a o h
theorem ExB.trans {ad : Addr} {H H1 H2 : Hp} (a : ExB ad H H1) (b : ExB ad H1 H2) : ExB ad H H2 := fun x o n h => b x o n (a x o n h)
theorem ExB.upd (ad : Addr) (H : Hp) (o : HO) : ExB ad H (upd H ad o) := fun a u n h => by rw [upd_ne n]; exact h
/-- what stood ahead of the list at ad stands behind -/
theorem ExB.ex {ad : Addr} {H H1 H2 : Hp} (b : ExB ad H1 H2) (e : Ex H H1) (n : H ad = none) : Ex H H2 := fun a o h => b a o (ne_of_none h n) (e a o h)
/-- a stock of draws: the number left, whether by figures -/
def Dr (c : Int) (b : Bool) : Prop := 0 ≤ c ∧ (b = false → c < 1000003)
abbrev dl (c k : Int) (b : Bool) : HO := .lst [.int c, .int k, .bl b]
abbrev sDraws : Stmt := topS 26
theorem scDraws : FnScope ["_law_cell"] ["_law_cell"] (defScope sDraws) := ⟨rfl, rfl, rfl, by decide +kernel, rfl, by decide +kernel, by decide +kernel⟩
def spDraws : Sp := fun vs H Q _ => ∃ z : Int, vs = [.int z] ∧ ∀ p H2 c b, H p = none → Ex H H2 → H2 p = some (dl c 0 b) → Dr c b → Q (.ref p) H2
abbrev sNext : Stmt := topS 27
theorem scNext : FnScope ["_law_draws_here", "_law_number", "_law_k"] ["_law_draws_here"] (defScope sNext) := ⟨rfl, rfl, rfl, by decide +kernel, rfl, by decide +kernel, by decide +kernel⟩
def spNext : Sp := fun vs H Q _ => ∃ (ad : Addr) (c k : Int) (b : Bool), vs = [.ref ad] ∧ H ad = some (dl c k b) ∧ Dr c b ∧ 0 ≤ k ∧ k ≤ 1000 ∧
  ∀ z c' H2, 0 ≤ z → z < 1000000000000 → Dr c' b → ExB ad H H2 → H2 ad = some (dl c' (k + 1) b) → Q (.int z) H2
abbrev sCount : Stmt := topS 29
theorem scCount : FnScope ["_law_draws_here", "_law_pick"] ["_law_draws_here"] (defScope sCount) := ⟨rfl, rfl, rfl, by decide +kernel, rfl, by decide +kernel, by decide +kernel⟩
def spCount : Sp := fun vs H Q _ => ∃ (ad : Addr) (c k : Int) (b : Bool), vs = [.ref ad] ∧ H ad = some (dl c k b) ∧ Dr c b ∧ 0 ≤ k ∧ k ≤ 1000 ∧
  ∀ (n : Nat) c' H2, 1 ≤ n → n ≤ 30 → Dr c' b → ExB ad H H2 → H2 ad = some (dl c' (k + 1) b) → Q (.int (n : Int)) H2
section
variable {K : PySem.W.Frag} {σ : L2.St} {H : Hp} {ta tb : TE} {i j : Int} {b : Bool}
theorem ev_pow (ha : Ev ta σ H (.int i)) (hb : Ev tb σ H (.int j)) (c : CPow i j) : Ev (tOp (rI CPow fun i j => .int (i ^ j.toNat)) ta tb) σ H (.int (i ^ j.toNat)) := ev_op ha hb (rv_I c)
theorem ev_powW (ha : Ev ta σ H (.int i)) (hb : Ev tb σ H (.int j)) (c : CPowW i j) : Ev (tOp (rI CPowW fun i j => .int (i ^ j.toNat)) ta tb) σ H (.int (i ^ j.toNat)) := ev_op ha hb (rv_I c)
theorem et_tru (h : Ev ta σ H (.bl b)) : EvT (fun σ H Q => ta σ H fun x H' => ∃ k, TruV K x H' k ∧ Q k H') σ H b := fun H1 e Q q => h H1 e _ fun H2 e2 => ⟨b, rfl, q H2 e2⟩
theorem ev_int1 (h : Ev ta σ H (.bl b)) : Ev (tCB (fun xs H Q => (∃ i, xs = [.int i] ∧ Q (.int i) H) ∨ ∃ k, xs = [.bl k] ∧ Q (.int (if k then 1 else 0)) H) (tCons ta tNil)) σ H (.int (if b then 1 else 0)) := fun H1 e Q q =>
  h H1 e _ fun H2 e2 => .inr ⟨b, rfl, q H2 e2⟩
theorem s_assign {te : TE} {g : TG} {D : Ends} {v : V} (h : Ev te σ H v) (k : ∀ H1, Ex H H1 → g v σ H1 D.nx) : tAsg te g D σ H := h H (Ex.refl H) _ fun H1 e => k H1 e
end
section
variable {P : Program} {w : World} {K : PySem.W.Frag} {mg : Str → Option Value} {base : Heap}
theorem ok_draws {fa : Addr} {fd : FuncData} (F : Fun K "_law_draws" "_law_draws" sDraws fa fd) : FnOk P w K mg base CX0 1 fa fd ["_law_cell"] spDraws := by
  refine F.ok scDraws (fun vs H Q E h => ?_) (fun cdv A outer s H vs Q E hr h => ?_)
  · obtain ⟨z, rfl, _⟩ := h
    rfl
  · obtain ⟨z, rfl, q⟩ := h
    refine ⟨_, pss_cons (ps_if (pt_cmpR op_ge (pv 0) (pe_op op_pow pe_int pe_int) (nomark _)) (pss_one (ps_ret (pe_lst (pa_cons (pe_op op_mod (pv 0) (pe_op op_powW (pe_op op_pow pe_int pe_int) pe_int)) (pa_cons pe_int (pa_cons pe_bl pa_nil)))))) pss_nil)
      (pss_one (ps_ret (pe_lst (pa_cons (pe_op op_mod (pv 0) pe_int) (pa_cons pe_int (pa_cons pe_bl pa_nil)))))), ?_⟩
    refine q_when (et_test (ev_cmp (f := fun i j => decide (j ≤ i)) (ev_var rfl) (ev_pow ev_c ev_c ⟨by decide, by decide, by decide⟩))) (fun hb H1 e1 => ?_) (fun hb H1 e1 => ?_)
    · refine s_retL (el_lst (ea_cons (ev_mod (ev_var rfl) (ev_powW (ev_pow (i := 10) (j := 60) ev_c ev_c ⟨by decide, by decide, by decide⟩) ev_c ⟨by decide, by decide +kernel⟩) (by decide +kernel)) (ea_cons ev_c (ea_cons ev_c ea_nil))) (by show 3 ≤ 100000; decide)) fun p H2 hp e2 h2 => ?_
      refine q p H2 _ true (fresh_back e1 hp) (e1.trans e2) h2 ⟨?_, fun z => by cases z⟩
      exact Int.emod_nonneg _ (by decide +kernel)
    · refine s_retL (el_lst (ea_cons (ev_mod (j := 1000003) (ev_var rfl) ev_c (by decide)) (ea_cons ev_c (ea_cons ev_c ea_nil))) (by show 3 ≤ 100000; decide)) fun p H2 hp e2 h2 => ?_
      exact q p H2 _ false (fresh_back e1 hp) (e1.trans e2) h2 ⟨Int.emod_nonneg _ (by decide), fun _ => Int.emod_lt_of_pos _ (by decide)⟩
theorem ok_next {fa : Addr} {fd : FuncData} (F : Fun K "_law_next" "_law_next" sNext fa fd) : FnOk P w K mg base CX0 1 fa fd ["_law_draws_here"] spNext := by
  refine F.ok scNext (fun vs H Q E h => ?_) (fun cdv A outer s H vs Q E hr h => ?_)
  · obtain ⟨ad, c, k, b, rfl, _⟩ := h
    rfl
  · obtain ⟨ad, c, k, b, rfl, hD, ⟨c0, cb⟩, k0, k1, q⟩ := h
    refine ⟨_, pss_cons (ps_asg (pe_op op_add (pe_ix ix_list (pv 0) pe_int (fun _ _ => rfl)) pe_int) (pg_sub (pv 0) pe_int set_list))
      (pss_cons (ps_if (pt_truth (pe_ix ix_list (pv 0) pe_int (fun _ _ => rfl)) (fun _ => rfl))
        (pss_cons (ps_set (i := 1) scNext.nd rfl (.inl rfl) (pe_op op_mod (pe_ix ix_list (pv 0) pe_int (fun _ _ => rfl)) (pe_op op_pow pe_int pe_int)))
        (pss_cons (ps_asg (pe_op op_fdiv (pe_ix ix_list (pv 0) pe_int (fun _ _ => rfl)) (pe_op op_pow pe_int pe_int)) (pg_sub (pv 0) pe_int set_list))
        (pss_one (ps_ret (pv 1))))) pss_nil)
      (pss_cons (ps_set (i := 2) scNext.nd rfl (.inl rfl) (pe_ix ix_list (pv 0) pe_int (fun _ _ => rfl)))
      (pss_cons (ps_set (i := 1) scNext.nd rfl (.inl rfl) (pe_op op_mod (pe_op op_mul (pe_op op_add (pe_op op_add (pe_ix ix_list (pv 0) pe_int (fun _ _ => rfl)) (pe_op op_mul (pe_op op_mul (pv 2) (pv 2)) pe_int)) (pv 2)) pe_int) pe_int))
      (pss_cons (ps_set (i := 1) scNext.nd rfl (.inl rfl) (pe_op op_mod (pe_op op_mul (pv 1) (pv 1)) pe_int))
      (pss_one (ps_ret (pe_op op_fdiv (pe_op op_mod (pe_op op_mul (pv 1) (pe_op op_add (pv 1) pe_int)) pe_int) pe_int))))))), ?_⟩
    refine q_setL (xs := [.int c, .int k, .bl b]) (j := 1) hD (ev_add (i := k) (j := 1) (ev_ixL (ev_var rfl) ev_c (sq_of hD) (atI_nat (j := 1) rfl)) ev_c) (ev_var rfl) ev_c (by show 1 < 3; decide) fun H1 e1 => ?_
    have h1 : (upd H1 ad (dl c (k + 1) b)) ad = some (dl c (k + 1) b) := upd_same
    have x1 : ExB ad H (upd H1 ad (dl c (k + 1) b)) := (ExB.of e1).trans (ExB.upd _ _ _)
    show tSeq _ _ _ _ (upd H1 ad (dl c (k + 1) b))
    generalize upd H1 ad (dl c (k + 1) b) = G at h1 x1
    refine q_when (b := b) (et_tru (ev_ixL (ev_var rfl) ev_c (sq_of h1) (atI_nat (j := 2) rfl))) (fun hb G1 e2 => ?_) (fun hb G1 e2 => ?_)
    · subst hb
      refine q_asg (ev_mod (i := c) (j := 10 ^ (6 : Int).toNat) (ev_ixL (ev_var rfl) ev_c (sq_of (e2 _ _ h1)) (atI_nat (j := 0) rfl)) (ev_pow ev_c ev_c ⟨by decide, by decide, by decide⟩) (by decide)) fun G2 e3 => ?_
      have h3 := e3 _ _ (e2 _ _ h1)
      refine q_setL (xs := [.int c, .int (k + 1), .bl true]) (j := 0) h3 (ev_fdiv (i := c) (j := 10 ^ (6 : Int).toNat) (ev_ixL (ev_var rfl) ev_c (sq_of h3) (atI_nat (j := 0) rfl)) (ev_pow ev_c ev_c ⟨by decide, by decide, by decide⟩) ⟨by decide, by decide⟩) (ev_var rfl) ev_c (by show 0 < 3; decide) fun G3 e4 => ?_
      refine s_ret (ev_var rfl) fun G4 e5 => ?_
      have m1 : (10 : Int) ^ (6 : Int).toNat = 1000000 := by decide
      refine q (c % 10 ^ (6 : Int).toNat) (c / 10 ^ (6 : Int).toNat) G4 ?_ ?_ ⟨?_, fun z => by cases z⟩ ?_ (e5 _ _ upd_same)
      · rw [m1]; omega
      · rw [m1]; omega
      · rw [m1]; omega
      · exact (((x1.trans (ExB.of e2)).trans (ExB.of e3)).trans (ExB.of e4)).trans ((ExB.upd _ _ _).trans (ExB.of e5))
    · subst hb
      have cl := cb rfl
      have hkk : (k + 1) * (k + 1) ≤ 1002001 := by
        have := Int.mul_le_mul (show k + 1 ≤ 1001 by omega) (show k + 1 ≤ 1001 by omega) (by omega) (by omega)
        omega
      have hkk0 : 0 ≤ (k + 1) * (k + 1) := Int.mul_nonneg (by omega) (by omega)
      refine q_asg (ev_ixL (ev_var rfl) ev_c (sq_of (e2 _ _ h1)) (atI_nat (j := 1) rfl)) fun G2 e3 => ?_
      have h3 := e3 _ _ (e2 _ _ h1)
      refine q_asg (ev_mod (j := 2147483629) (ev_mul (j := 48271) (ev_add (ev_add (i := c) (ev_ixL (ev_var rfl) ev_c (sq_of h3) (atI_nat (j := 0) rfl)) (ev_mul (i := (k + 1) * (k + 1)) (j := 7919) (ev_mul (i := k + 1) (j := k + 1) (ev_var rfl) (ev_var rfl) (.inl (by omega))) ev_c (.inr (by decide)))) (ev_var (v := .int (k + 1)) rfl)) ev_c (.inr (by decide))) ev_c (by decide)) fun G3 e4 => ?_
      have b1 := Int.emod_nonneg ((c + (k + 1) * (k + 1) * 7919 + (k + 1)) * 48271) (show (2147483629 : Int) ≠ 0 by decide)
      have b2 := Int.emod_lt_of_pos ((c + (k + 1) * (k + 1) * 7919 + (k + 1)) * 48271) (show (0 : Int) < 2147483629 by decide)
      generalize (c + (k + 1) * (k + 1) * 7919 + (k + 1)) * 48271 % 2147483629 = u at b1 b2
      refine q_asg (ev_mod (j := 2147483587) (ev_mul (i := u) (j := u) (ev_var rfl) (ev_var rfl) (.inl (by omega))) ev_c (by decide)) fun G4 e5 => ?_
      have b3 := Int.emod_nonneg (u * u) (show (2147483587 : Int) ≠ 0 by decide)
      have b4 := Int.emod_lt_of_pos (u * u) (show (0 : Int) < 2147483587 by decide)
      generalize u * u % 2147483587 = v at b3 b4
      refine s_ret (ev_fdiv (j := 7) (ev_mod (j := 2147483579) (ev_mul (i := v) (j := v + 2) (ev_var rfl) (ev_add (i := v) (j := 2) (ev_var rfl) ev_c) (.inl (by omega))) ev_c (by decide)) ev_c ⟨by decide, by decide⟩) fun G5 e6 => ?_
      have b5 := Int.emod_nonneg (v * (v + 2)) (show (2147483579 : Int) ≠ 0 by decide)
      have b6 := Int.emod_lt_of_pos (v * (v + 2)) (show (0 : Int) < 2147483579 by decide)
      have e36 := ((e3.trans e4).trans e5).trans e6
      refine q (v * (v + 2) % 2147483579 / 7) c G5 (by omega) (by omega) ⟨c0, fun _ => cl⟩ ((x1.trans (ExB.of e2)).trans (ExB.of e36)) (e36 _ _ (e2 _ _ h1))
theorem ok_count {fa : Addr} {fd : FuncData} (F : Fun K "_law_count" "_law_count" sCount fa fd) (B : Free mg) (GN : Has P w K mg base 1 "_law_next" ["_law_draws_here"] spNext) : FnOk P w K mg base CX0 2 fa fd ["_law_draws_here"] spCount := by
  refine F.ok scCount (fun vs H Q E h => ?_) (fun cdv A outer s H vs Q E hr h => ?_)
  · obtain ⟨ad, c, k, b, rfl, _⟩ := h
    rfl
  · obtain ⟨ad, c, k, b, rfl, hD, hdr, k0, k1, q⟩ := h
    refine ⟨_, pss_cons (ps_set (i := 1) scCount.nd rfl (.inl rfl) (pe_callD GN hr (by rfl) (pa_cons (pv 0) pa_nil)))
      (pss_one (ps_ret (pe_ix ix_list (pe_lst (pa_cons (pe_op op_add pe_int (pe_op op_mod (pe_op op_fdiv (pv 1) pe_int) pe_int)) (pa_cons (pe_op op_add pe_int (pe_op op_mod (pe_op op_fdiv (pv 1) pe_int) pe_int)) pa_nil))) (pe_callTy call_int1 (by rfl) B.int (by decide +kernel) (pa_cons (pe_cmpR op_eq (pe_op op_mod (pv 1) pe_int) pe_int (nomark _)) pa_nil)) (fun _ _ => rfl)))), ?_⟩
    refine ⟨.ref ad, rfl, ad, c, k, b, rfl, hD, hdr, k0, k1, fun z c' H2 z0 z1 dr2 x2 h2 => ?_⟩
    have hix : ∀ (b : Bool), atI [V.int (1 + z / 4 % 12), V.int (13 + z / 4 % 18)] (if b = true then 1 else 0) = some (.int (if b = true then 13 + z / 4 % 18 else 1 + z / 4 % 12)) := by
      intro b
      cases b
      · exact atI_nat (j := 0) rfl
      · exact atI_nat (j := 1) rfl
    refine s_ret (ev_opL1 (el_lst (ea_cons (ev_add (ev_c (v := .int 1)) (ev_mod (j := 12) (ev_fdiv (i := z) (j := 4) (ev_var rfl) ev_c ⟨by decide, by decide⟩) ev_c (by decide))) (ea_cons (ev_add (ev_c (v := .int 13)) (ev_mod (j := 18) (ev_fdiv (i := z) (j := 4) (ev_var rfl) ev_c ⟨by decide, by decide⟩) ev_c (by decide))) ea_nil)) (by show 2 ≤ 100000; decide))
      (fun H3 e3 => ev_int1 (ev_eqI (j := 3) (ev_mod (i := z) (j := 4) (ev_var rfl) ev_c (by decide)) ev_c)) (fun p H3 hp e3 => rv_ixL (sq_of hp) (hix _))) fun H3 e3 => ?_
    have hz : 0 ≤ z / 4 := by omega
    obtain ⟨n, hn⟩ : ∃ n : Nat, (if decide (z % 4 = 3) = true then 13 + z / 4 % 18 else 1 + z / 4 % 12) = (n : Int) := ⟨(if decide (z % 4 = 3) = true then 13 + z / 4 % 18 else 1 + z / 4 % 12).toNat, by split <;> omega⟩
    rw [hn]
    refine q n c' H3 ?_ ?_ dr2 (x2.trans (ExB.of e3)) (e3 _ _ h2)
    · split at hn <;> omega
    · split at hn <;> omega
end
end RK
end

section
set_option Elab.async false
set_option linter.all false
set_option maxRecDepth 100000
set_option maxHeartbeats 4000000
namespace RK
open PySem PySem.Spec PyProof.Rows L2 Evl
abbrev sLOver : Stmt := topS 31
theorem scLOver : FnScope ["_law_f", "_law_g", "_law_left", "_law_told", "_law_back", "_law_at", "_law_k", "_law_x"] ["_law_f", "_law_g"] (defScope sLOver) := ⟨rfl, rfl, rfl, by decide +kernel, rfl, by decide +kernel, by decide +kernel⟩
def spLOver (K : PySem.W.Frag) : Sp := fun vs H Q _ => ∃ (a b : Addr) (f g : List Int), vs = [.ref a, .ref b] ∧ SqL K H a (iv f) ∧ SqL K H b (iv g) ∧ CanOver f g ∧ RetL (iv (overQ f g)) H Q
section
variable {P : Program} {w : World} {K : PySem.W.Frag} {mg : Str → Option Value} {base : Heap}
theorem ok_lover {fa : Addr} {fd : FuncData} (F : Fun K "_law_over" "_law_over" sLOver fa fd) (B : Free mg) : FnOk P w K mg base CX0 1 fa fd ["_law_f", "_law_g"] (spLOver K) := by
  refine F.ok scLOver (fun vs H Q E h => ?_) (fun cdv A outer s H vs Q E hr h => ?_)
  · obtain ⟨a, b, f, g, rfl, _⟩ := h
    rfl
  · obtain ⟨a, b, f, g, rfl, hF, hG, c, q⟩ := h
    refine ⟨_, pss_cons (ps_set (i := 2) scLOver.nd rfl (.inl rfl) (pe_callTy call_list_of (by rfl) B.list (by decide +kernel) (pa_cons (pv 0) pa_nil)))
      (pss_cons (ps_set (i := 3) scLOver.nd rfl (.inl rfl) (pe_op op_rep (pe_lst (pa_cons pe_int pa_nil)) (pe_op op_add (pe_op op_sub (pe_callB call_len_seq (by rfl) B.len PySem.boot_len (pa_cons (pv 0) pa_nil)) (pe_callB call_len_seq (by rfl) B.len PySem.boot_len (pa_cons (pv 1) pa_nil))) pe_int)))
      (pss_cons (ps_for PassesOwn.never rfl (pi_range1 (by rfl) B.range (pa_cons (pe_callB call_len_seq (by rfl) B.len PySem.boot_len (pa_cons (pv 3) pa_nil)) pa_nil)) (pg_name (i := 4) scLOver.nd rfl (.inl rfl))
        (pss_cons (ps_set (i := 5) scLOver.nd rfl (.inl rfl) (pe_op op_sub (pe_op op_sub (pe_callB call_len_seq (by rfl) B.len PySem.boot_len (pa_cons (pv 3) pa_nil)) pe_int) (pv 4)))
        (pss_cons (ps_asg (pe_ix ix_list (pv 2) (pe_op op_sub (pe_op op_add (pv 5) (pe_callB call_len_seq (by rfl) B.len PySem.boot_len (pa_cons (pv 1) pa_nil))) pe_int) (fun _ _ => rfl)) (pg_sub (pv 3) (pv 5) set_list))
        (pss_one (ps_for PassesOwn.never rfl (pi_enum (by rfl) B.enumerate (pa_cons (pv 1) pa_nil)) (pg_tup rfl (pgs_cons (pg_name (i := 6) scLOver.nd rfl (.inl rfl)) (pgs_cons (pg_name (i := 7) scLOver.nd rfl (.inl rfl)) pgs_nil)))
          (pss_one (ps_asg (pe_op op_sub (pe_ix ix_list (pv 2) (pe_op op_add (pv 5) (pv 6)) (fun _ _ => rfl)) (pe_op op_mul (pe_ix ix_list (pv 3) (pv 5) (fun _ _ => rfl)) (pv 7))) (pg_sub (pv 2) (pe_op op_add (pv 5) (pv 6)) set_list))))))))
      (pss_one (ps_ret (pv 3))))), ?_⟩
    have hpos := c.pos
    have hlen := c.len
    have hmost := c.most
    generalize hm : f.length + 1 - g.length = m
    refine q_asgL (el_listI (ev_var rfl) hF) fun tl H2 nl e2 h2 => ?_
    refine q_asgL (el_zeros (k := m) (j := (f.length : Int) - (g.length : Int) + 1) (ev_add (ev_sub (ev_lenI (ev_var rfl) (ex_l e2 hF)) (ev_lenI (ev_var rfl) (ex_l e2 hG))) ev_c) (by omega) (by omega) (by omega)) fun t H3 nt e3 h3 => ?_
    have e13 := e2.trans e3
    have nt0 : H t = none := fresh_back e2 nt
    have ntl : tl ≠ t := ne_of_none h2 nt
    have lenm : ∀ i, (overIt f g m i).1.length = m ∧ (overIt f g m i).2.length = f.length := len_overIt f g m
    refine q_forR1 (n := (m : Int)) (ea_cons (ev_to (ev_lenI (l := zeros m) (ev_var rfl) (sq_of h3)) (by rw [len_zeros])) ea_nil) (by omega) (fun i σ' H' => ∃ y4 y5 y6 y7, σ' = [some (.ref a), some (.ref b), some (.ref tl), some (.ref t), y4, y5, y6, y7] ∧ Ex H H' ∧ H' t = some (.lst (iv (overIt f g m i).1)) ∧ H' tl = some (.lst (iv (overIt f g m i).2)))
      (fun H4 e4 => ⟨none, none, none, none, rfl, e13.trans e4, e4 t _ h3, e4 tl _ (e3 tl _ h2)⟩) (fun i σ' H' hi p => ?_) (fun σ' H' p => ?_)
    · obtain ⟨y4, y5, y6, y7, rfl, e4, h4, h5⟩ := p
      obtain ⟨l1, l2⟩ := lenm i
      refine q_asg (ev_to (ev_sub (i := ((overIt f g m i).1.length : Int) - 1) (j := (i : Int)) (ev_sub (ev_lenI (ev_var rfl) (sq_of h4)) ev_c) (ev_var rfl)) (z' := ((m - 1 - i : Nat) : Int)) (by omega)) fun H5 e5 => ?_
      have h4' := e5 t _ h4
      have h5' := e5 tl _ h5
      refine q_setL (j := m - 1 - i) h4' (ev_ixL (ev_var rfl) (ev_sub (i := ((m - 1 - i : Nat) : Int) + (g.length : Int)) (j := 1) (ev_add (ev_var rfl) (ev_lenI (ev_var rfl) (ex_l (e4.trans e5) hG))) ev_c) (sq_of h5') (iv_at (i := m - 1 - i + g.length - 1) (by omega) (by omega))) (ev_var rfl) (ev_var rfl) (by rw [iv_len]; omega) fun H6 e6 => ?_
      generalize hc : (overIt f g m i).2.getD (m - 1 - i + g.length - 1) 0 = c1
      rw [iv_set]
      have e46 : Ex H (upd H6 t (.lst (iv ((overIt f g m i).1.set (m - 1 - i) c1)))) := ((e4.trans e5).trans e6).mut nt0
      have h7 : (upd H6 t (.lst (iv ((overIt f g m i).1.set (m - 1 - i) c1)))) tl = some (.lst (iv (overIt f g m i).2)) := by
        rw [upd_ne ntl]
        exact e6 tl _ h5'
      have hset : ((overIt f g m i).1.set (m - 1 - i) c1).getD (m - 1 - i) 0 = c1 := by
        rw [List.getD_eq_getElem?_getD, List.getElem?_set_self (by omega)]
        rfl
      have hsl : ((overIt f g m i).1.set (m - 1 - i) c1).length = m := by rw [List.length_set, l1]
      refine s_forE (ev_var rfl) (ex_l e46 hG) (fun j σ2 H7 => ∃ y6 y7, σ2 = [some (.ref a), some (.ref b), some (.ref tl), some (.ref t), some (.int (i : Int)), some (.int ((m - 1 - i : Nat) : Int)), y6, y7] ∧ Ex H H7 ∧ H7 t = some (.lst (iv ((overIt f g m i).1.set (m - 1 - i) c1))) ∧ H7 tl = some (.lst (iv (rowAdd (-c1) (g.take j) (m - 1 - i) (overIt f g m i).2))))
        (fun H7 e7 => ⟨y6, y7, rfl, e46.trans e7, e7 t _ upd_same, by rw [List.take_zero, rowAdd_nil]; exact e7 tl _ h7⟩) (fun j σ2 H7 _ p => ?_) (fun j σ2 H7 T o p nT => ?_) (fun j σ2 H7 hj p => ?_) (fun σ2 H7 p => ?_)
      · obtain ⟨y6, y7, rfl, e7, h8, h9⟩ := p
        exact ex_l e7 hG
      · obtain ⟨y6, y7, rfl, e7, h8, h9⟩ := p
        exact ⟨y6, y7, rfl, e7.trans (Ex.new nT), keep_new h8 nT, keep_new h9 nT⟩
      · obtain ⟨y6, y7, rfl, e7, h8, h9⟩ := p
        have hrl : (rowAdd (-c1) (g.take j) (m - 1 - i) (overIt f g m i).2).length = f.length := by rw [len_rowAdd, l2]
        have hst := rowAdd_step (-c1) g j hj (m - 1 - i) (overIt f g m i).2 (by rw [l2]; omega)
        rw [addAt_set _ _ _ (by rw [hrl]; omega)] at hst
        have hix : ∀ H8, Ex H7 H8 → Ev (tOp (rI0 fun i j => V.int (i + j)) (tVar 5) (tVar 6)) [some (.ref a), some (.ref b), some (.ref tl), some (.ref t), some (.int (i : Int)), some (.int ((m - 1 - i : Nat) : Int)), some (.int (j : Int)), some (.int (g.getD j 0))] H8 (.int ((m - 1 - i + j : Nat) : Int)) := fun H8 _ =>
          ev_to (ev_add (i := ((m - 1 - i : Nat) : Int)) (j := (j : Int)) (ev_var rfl) (ev_var rfl)) (by omega)
        refine s_setI (k := m - 1 - i + j) (b := (rowAdd (-c1) (g.take j) (m - 1 - i) (overIt f g m i).2).getD (m - 1 - i + j) 0 - c1 * g.getD j 0) h9 (ev_sub (ev_ixL (ev_var rfl) (hix H7 (Ex.refl H7)) (sq_of h9) (iv_at (i := m - 1 - i + j) rfl (by rw [hrl]; omega))) (ev_mul (ev_ixL (ev_var rfl) (ev_var rfl) (sq_of h8) ((iv_at (i := m - 1 - i) rfl (by rw [hsl]; omega)).trans (by rw [hset]))) (ev_var rfl) (.inr (c.small _ (getD_mem hj))))) (ev_var rfl) (hix H7 (Ex.refl H7)) (by rw [hrl]; omega) fun H8 e8 => ?_
        refine ⟨_, _, rfl, (e7.trans e8).mut nl, ?_, ?_⟩
        · rw [upd_ne ntl.symm]
          exact e8 t _ h8
        · rw [upd_same, ← hst, Int.neg_mul]
          rfl
      · obtain ⟨y6, y7, rfl, e7, h8, h9⟩ := p
        rw [List.take_length] at h9
        refine ⟨_, _, y6, y7, rfl, e7, ?_, ?_⟩
        · rw [h8, ← hc]
          rfl
        · rw [h9, ← hc]
          rfl
    · obtain ⟨y4, y5, y6, y7, rfl, e4, h4, h5⟩ := p
      rw [Int.toNat_natCast] at h4 h5
      refine s_ret (ev_var rfl) fun H5 e5 => RetL.go q (Ex.refl H) nt0 (e4.trans e5) ?_
      rw [e5 _ _ h4]
      unfold overQ
      rw [hm]
end
end RK
end

section
set_option Elab.async false
set_option linter.all false
set_option maxRecDepth 100000
set_option maxHeartbeats 4000000
namespace RK
open PySem PySem.Spec PyProof.Rows L2 Evl
section
variable {σ : L2.St} {H : Hp} {te : TE} {t : TT}
theorem el_lcR2 {ta : TA} {j : Nat} {vs : List Nat} {lo n : Int} (f : Nat → Bool) (v : Nat → V) (h : EvA ta σ H [.int lo, .int n]) (hn : 0 ≤ lo ∧ lo ≤ 10000 ∧ 0 ≤ n ∧ n ≤ 40000) (hw : ∀ x, wipe ((wipe σ vs).set j (some x)) vs = wipe σ vs)
    (ht : ∀ (i : Nat) H1, Ex H H1 → lo + (i : Int) < n → EvT t ((wipe σ vs).set j (some (.int (lo + (i : Int))))) H1 (f i)) (he : ∀ (i : Nat) H1, Ex H H1 → lo + (i : Int) < n → f i = true → Ev te ((wipe σ vs).set j (some (.int (lo + (i : Int))))) H1 (v i)) :
    EvL (tLc (iRng2 ta) (gName j) t te vs) σ H (given (n - lo).toNat f v) := fun H0 e Q q => h H0 e _ fun H1 e1 => ⟨lo, n, rfl, ⟨by omega, by omega, by omega, by omega⟩, fun Dl hD =>
  lc_range (lo := lo) (n := (n - lo).toNat) (Cw H1 f v Dl) ⟨hD, Ex.new hD, upd_same⟩ (fun i H' hi p => ⟨hw _, cw_turn p (by omega) (ht i H1 (e.trans e1) (by omega)) (fun hf => he i H1 (e.trans e1) (by omega) hf)⟩) (fun H' p => q Dl H' (fresh_back e1 p.1) (e1.trans p.2.1) p.2.2)⟩
end
theorem div_given (n : Nat) : given n (fun i => decide ((n : Int) % (1 + (i : Int)) = 0)) (fun i => .int (1 + (i : Int))) = nv (DIV n) := by
  unfold given DIV nv
  have e : List.range' 1 n = (List.range n).map (1 + ·) := by
    rw [List.range'_eq_map_range]
  rw [e, List.filter_map, List.map_map]
  have e2 : (fun i : Nat => decide ((n : Int) % (1 + (i : Int)) = 0)) = ((fun e => n % e == 0) ∘ fun x => 1 + x) := by
    funext i
    have e3 : (n : Int) % (1 + (i : Int)) = ((n % (1 + i) : Nat) : Int) := by rw [Int.natCast_emod]; rfl
    show decide ((n : Int) % (1 + (i : Int)) = 0) = (n % (1 + i) == 0)
    rw [e3]
    by_cases hz : n % (1 + i) = 0
    · rw [hz]; rfl
    · rw [decide_eq_false (by omega), beq_false_of_ne hz]
  rw [e2]
  rfl
def chainOkL (d : Nat) : List Int → List Nat → Bool
  | f, [] => f == PHI d
  | f, e :: es => if d % e = 0 then decide ((PHI e).length ≤ f.length + 1) && decide (f.length ≤ 100) && chainOkL d (overQ f (PHI e)) es else chainOkL d f es
def lpolysOk (n : Nat) : Bool := (List.range (DIV n).length).all fun i => chainOkL ((DIV n).getD i 0) (lessOne ((DIV n).getD i 0)) ((DIV n).take i)
theorem t_lpolys : (List.range' 1 30).all lpolysOk = true := by decide +kernel
abbrev sLPoly : Stmt := topS 32
theorem scLPoly : FnScope ["_law_n", "_law_told", "_law_d", "_law_f", "_law_e", "_law_g", "_law_k"] ["_law_n"] (defScope sLPoly) := ⟨rfl, rfl, rfl, by decide +kernel, rfl, by decide +kernel, by decide +kernel⟩
def spLPoly : Sp := fun vs H Q _ => ∃ n : Nat, vs = [.int (n : Int)] ∧ 1 ≤ n ∧ n ≤ 30 ∧ ∀ p H2, Ex H H2 → H2 p = some (.lst (iv (PHI n))) → Q (.ref p) H2
abbrev sLVal : Stmt := topS 33
theorem scLVal : FnScope ["_law_f", "_law_a", "_law_told", "_law_number"] ["_law_f", "_law_a"] (defScope sLVal) := ⟨rfl, rfl, rfl, by decide +kernel, rfl, by decide +kernel, by decide +kernel⟩
def spLVal (K : PySem.W.Frag) : Sp := fun vs H Q _ => ∃ (a : Addr) (f : List Int) (y : Int), vs = [.ref a, .int y] ∧ SqL K H a (iv f) ∧ f.length ≤ 1000 ∧ -(2 ^ 64) < y ∧ y < 2 ^ 64 ∧ RetV (.int (ev f y)) H Q
theorem rows_last {t : Addr} {H : Hp} {xs : List V} {n : Nat} (hrows : QRows t H xs (DIV n)) (h1 : 1 ≤ n) (h2 : n ≤ 60) : ∃ T p, atI xs (-1) = some (.ref T) ∧ H T = some (.tup [.int (n : Int), .ref p]) ∧ H p = some (.lst (iv (PHI n))) := by
  have hend := each60 t_divEnd h1 h2
  unfold divEnd at hend
  rw [Bool.and_eq_true, Bool.and_eq_true, Bool.and_eq_true] at hend
  have hlast : (DIV n).getD ((DIV n).length - 1) 0 = n := eq_of_beq hend.1.1.2
  have hpos : 0 < (DIV n).length := of_decide_eq_true hend.1.2
  have hl := hrows.len
  have hxl : xs[xs.length - 1]? = some (xs[xs.length - 1]'(by omega)) := List.getElem?_eq_getElem (by omega)
  obtain ⟨d, hd, T, pg, hx, hT, hg, _⟩ := hrows.get hxl
  have hdn : d = n := by
    rw [← hlast, ← hl]
    exact (nat_getD hd).symm
  subst hdn
  refine ⟨T, pg, ?_, hT, hg⟩
  have hne : xs ≠ [] := List.length_pos_iff.mp (by omega)
  have e : xs = xs.dropLast ++ [xs.getLast hne] := (List.dropLast_concat_getLast hne).symm
  have e3 : xs.getLast hne = .ref T := by
    rw [List.getLast_eq_getElem]
    exact hx
  rw [e, e3, atI_last]
section
variable {P : Program} {w : World} {K : PySem.W.Frag} {mg : Str → Option Value} {base : Heap}
theorem ok_lpoly {fa : Addr} {fd : FuncData} (F : Fun K "_law_root_poly" "_law_root_poly" sLPoly fa fd) (B : Free mg) (GO : Has P w K mg base 1 "_law_over" ["_law_f", "_law_g"] (spLOver K)) : FnOk P w K mg base CX0 2 fa fd ["_law_n"] spLPoly := by
  refine F.ok scLPoly (fun vs H Q E h => ?_) (fun cdv A outer s H vs Q E hr h => ?_)
  · obtain ⟨d, rfl, _⟩ := h
    rfl
  · obtain ⟨n, rfl, hn1, hn2, q⟩ := h
    refine ⟨_, pss_cons (ps_set (i := 1) scLPoly.nd rfl (.inl rfl) (pe_lst pa_nil))
      (pss_cons (ps_for PassesOwn.never rfl (pi_list (pe_lc (own := [("_law_k", 6)]) (g := gName 6) rfl scLPoly.nd (pi_range2 (by rfl) B.range (pa_cons pe_int (pa_cons (pe_op op_add (pv 0) pe_int) pa_nil))) (blkOk_by (own := [("_law_k", 6)]) (N := ["_law_n", "_law_told", "_law_d", "_law_f", "_law_e", "_law_g", "_law_k"]) (sc := defScope sLPoly) (by decide +kernel))
          (fun _ _ _ _ _ => pg_name (i := 6) scLPoly.nd rfl (Or.inl rfl)) (fun _ _ _ _ _ => pts_one (pt_cmpR op_eq (pe_op op_mod (pv 0) (pv 6)) pe_int (nomark _))) (fun _ _ _ _ _ => pv 6))) (pg_name (i := 2) scLPoly.nd rfl (.inl rfl))
        (pss_cons (ps_set (i := 3) scLPoly.nd rfl (.inl rfl) (pe_op op_cat (pe_op op_cat (pe_lst (pa_cons (pe_op op_sub pe_int pe_int) pa_nil)) (pe_op op_rep (pe_lst (pa_cons pe_int pa_nil)) (pe_op op_sub (pv 2) pe_int))) (pe_lst (pa_cons pe_int pa_nil))))
        (pss_cons (ps_for PassesOwn.never rfl (pi_list (pv 1)) (pg_tup rfl (pgs_cons (pg_name (i := 4) scLPoly.nd rfl (.inl rfl)) (pgs_cons (pg_name (i := 5) scLPoly.nd rfl (.inl rfl)) pgs_nil)))
          (pss_one (ps_if (pt_cmpR op_eq (pe_op op_mod (pv 2) (pv 4)) pe_int (nomark _)) (pss_one (ps_set (i := 3) scLPoly.nd rfl (.inl rfl) (pe_callD GO hr (by rfl) (pa_cons (pv 3) (pa_cons (pv 5) pa_nil))))) pss_nil)))
        (pss_one (ps_expr (pe_bm PySem.F.plainAttrs_list PySem.F.slot_list_append PySem.F.type_list_append mt_append (pv 1) (pa_cons (pe_tup (pa_cons (pv 2) (pa_cons (pv 3) pa_nil))) pa_nil)))))))
      (pss_one (ps_ret (pe_ix ix_tup (pe_ix ix_list (pv 1) (pe_un un_neg pe_int) (fun _ _ => rfl)) pe_int (fun _ _ => rfl))))), ?_⟩
    have hend := each60 t_divEnd hn1 (show n ≤ 60 by omega)
    unfold divEnd at hend
    rw [Bool.and_eq_true, Bool.and_eq_true, Bool.and_eq_true] at hend
    have hmem : ∀ d ∈ DIV n, 1 ≤ d ∧ d ≤ n := fun d hd => by
      have := List.all_eq_true.mp hend.1.1.1 d hd
      rw [Bool.and_eq_true] at this
      exact ⟨of_decide_eq_true this.1, of_decide_eq_true this.2⟩
    have hlen60 : (DIV n).length ≤ 60 := of_decide_eq_true hend.2
    refine q_asgL (el_lst ea_nil (Nat.zero_le _)) fun t H1 ht e1 h1 => ?_
    have hcomp : EvL (tLc (iRng2 (tCons (tC (.int 1)) (tCons (tOp (rI0 fun i j => .int (i + j)) (tVar 0) (tC (.int 1))) tNil))) (gName 6) (tTest (tOp rEq (tOp (rI (fun _ j => 0 < j) fun i j => .int (i % j)) (tVar 0) (tVar 6)) (tC (.int 0)))) (tVar 6) [6])
        [some (.int (n : Int)), some (.ref t), none, none, none, none, none] H1 (nv (DIV n)) := by
      have h := el_lcR2 (σ := [some (.int (n : Int)), some (.ref t), none, none, none, none, none]) (H := H1) (j := 6) (vs := [6]) (lo := 1) (n := (n : Int) + 1) (te := tVar 6) (t := tTest (tOp rEq (tOp (rI (fun _ j => 0 < j) fun i j => .int (i % j)) (tVar 0) (tVar 6)) (tC (.int 0)))) (fun i => decide ((n : Int) % (1 + (i : Int)) = 0)) (fun i => .int (1 + (i : Int)))
        (ea_cons ev_c (ea_cons (ev_add (i := (n : Int)) (j := 1) (ev_var (i := 0) rfl) ev_c) ea_nil)) (by omega) (fun x => rfl) (fun i H2 e2 hi => et_test (ev_eqI (ev_mod (i := (n : Int)) (j := 1 + (i : Int)) (ev_var (i := 0) rfl) (ev_var (i := 6) rfl) (by omega)) ev_c)) (fun i H2 e2 hi _ => ev_var rfl)
      have e : ((n : Int) + 1 - 1).toNat = n := by omega
      rw [e, div_given] at h
      exact h
    refine q_forNLn (xs := nv (DIV n)) hcomp
      (fun p i σ' H' => ∃ y2 y3 y4 y5 y6, σ' = [some (.int (n : Int)), some (.ref t), y2, y3, y4, y5, y6] ∧ Ex H H' ∧ p ≠ t ∧ H' p = some (.lst (nv (DIV n))) ∧ ∃ xs, H' t = some (.lst xs) ∧ QRows t H' xs ((DIV n).take i))
      (fun p H2 hp e2 h2 => ⟨none, none, none, none, none, rfl, e1.trans e2, (ne_of_none h1 hp).symm, h2, [], e2 t _ h1, .nil⟩) (fun p i σ' H' _ hP => ?_) (fun p i x σ' H' hx hP => ?_) (fun p σ' H' hP => ?_)
    · obtain ⟨_, _, _, _, _, _, _, _, hp, _⟩ := hP
      exact sq_of hp
    · obtain ⟨y2, y3, y4, y5, y6, rfl, e2, npt, hp, xs, hxs, hrows⟩ := hP
      have hi : i < (DIV n).length := by
        have := (List.getElem?_eq_some_iff.mp hx).1
        rw [nv_len] at this
        exact this
      rw [nv_get hi] at hx
      obtain rfl := (Option.some.inj hx)
      have hdm : (DIV n).getD i 0 ∈ DIV n := by
        rw [List.getD_eq_getElem?_getD, List.getElem?_eq_getElem hi]
        exact List.getElem_mem hi
      have hdi : (DIV n)[i]? = some ((DIV n).getD i 0) := by
        rw [List.getD_eq_getElem?_getD, List.getElem?_eq_getElem hi]
        rfl
      obtain ⟨d1, d2⟩ := hmem _ hdm
      have hchain := List.all_eq_true.mp (each30 t_lpolys hn1 hn2) i (List.mem_range.mpr hi)
      generalize hd : (DIV n).getD i 0 = d at d1 d2 hchain hdi
      refine q_asgL (xs := iv (lessOne d)) ?_ fun pf H3 nf e3 h3 => ?_
      · have h := el_cat (el_cat (el_lst (σ := [some (.int (n : Int)), some (.ref t), some (.int (d : Int)), y3, y4, y5, y6]) (H := H') (ea_cons (ev_sub (i := 0) (j := 1) ev_c ev_c) ea_nil) (by show 1 ≤ 100000; decide)) (el_zeros (k := d - 1) (ev_sub (i := (d : Int)) (j := 1) (ev_var (i := 2) rfl) ev_c) (by omega) (by omega) (by omega)) (by rw [iv_len, len_zeros]; show 1 + (d - 1) ≤ 100000; omega)) (el_lst (ea_cons (ev_c (v := .int 1)) ea_nil) (by show 1 ≤ 100000; decide)) (by rw [List.length_append, iv_len, len_zeros]; show 1 + (d - 1) + 1 ≤ 100000; omega)
        have e : iv (lessOne d) = [V.int (0 - 1)] ++ iv (zeros (d - 1)) ++ [V.int 1] := by
          unfold lessOne iv
          rw [List.map_cons, List.map_append]
          rfl
        rw [e]
        exact h
      have npf : pf ≠ t := (ne_of_none hxs nf).symm
      refine q_forL (xs := xs) (ev_var rfl) (sq_of (e3 t _ hxs)) (fun j σ2 H4 => ∃ y4 y5 pf f, σ2 = [some (.int (n : Int)), some (.ref t), some (.int (d : Int)), some (.ref pf), y4, y5, y6] ∧ Ex H3 H4 ∧ H4 pf = some (.lst (iv f)) ∧ pf ≠ t ∧ chainOkL d f (((DIV n).take i).drop j) = true)
        (fun H4 e4 => ⟨y4, y5, pf, lessOne d, rfl, e4, e4 pf _ h3, npf, hchain⟩) (fun j σ2 H4 _ hP => ?_) (fun j x σ2 H4 hx hP => ?_) (fun σ2 H4 hP => ?_)
      · obtain ⟨_, _, _, _, _, e4, _⟩ := hP
        exact sq_of (e4 t _ (e3 t _ hxs))
      · obtain ⟨y4, y5, pf, f, rfl, e4, h4, npf, hc⟩ := hP
        obtain ⟨e, he, T, pg, rfl, hT, hg, npg⟩ := ((hrows.ex e3).ex e4).get hx
        have hdrop : ((DIV n).take i).drop j = e :: ((DIV n).take i).drop (j + 1) := by
          obtain ⟨hj, ej⟩ := List.getElem?_eq_some_iff.mp he
          rw [List.drop_eq_getElem_cons hj, ej]
        have hem : e ∈ DIV n := List.mem_of_mem_take (List.mem_of_getElem? he)
        obtain ⟨b1, b2⟩ := hmem e hem
        rw [hdrop] at hc
        unfold chainOkL at hc
        refine ⟨T, _, rfl, st_of hT, rfl, _, _, rfl, _, _, rfl, rfl, ?_⟩
        have eb : decide ((d : Int) % (e : Int) = 0) = decide (d % e = 0) := by
          rw [← Int.natCast_emod]
          simp only [Int.natCast_eq_zero]
        refine s_when (et_is (et_test (ev_eqI (ev_mod (i := (d : Int)) (j := (e : Int)) (ev_var rfl) (ev_var rfl) (by omega)) ev_c)) eb) (fun hb H5 e5 => ?_) (fun hb H5 e5 => ?_)
        · have hz := of_decide_eq_true hb
          rw [if_pos hz, Bool.and_eq_true, Bool.and_eq_true] at hc
          refine s_asgL (el_call (ea_cons (ev_var rfl) (ea_cons (ev_var rfl) ea_nil)) fun H6 e6 Q' k E' => ⟨pf, pg, f, PHI e, rfl, sq_of (e6 _ _ (e5 _ _ h4)), sq_of (e6 _ _ (e5 _ _ hg)), canOver_phi b1 (by omega) (of_decide_eq_true hc.1.1) (of_decide_eq_true hc.1.2), fun p H7 hp e7 h7 => k p H7 hp e7 h7⟩) fun p1 H7 np1 e7 hp1 => ?_
          refine ⟨some (.int (e : Int)), some (.ref pg), p1, overQ f (PHI e), rfl, ((e4.trans e5).trans e7), hp1, ?_, hc.2⟩
          exact (ne_of_none (e5 _ _ (e4 t _ (e3 t _ hxs))) np1).symm
        · have hz := of_decide_eq_false hb
          rw [if_neg hz] at hc
          exact ⟨_, _, pf, f, rfl, e4.trans e5, e5 _ _ h4, npf, hc⟩
      · obtain ⟨y4, y5, pf, f, rfl, e4, h4, npf, hc⟩ := hP
        have hl : xs.length = ((DIV n).take i).length := hrows.len
        rw [hl, List.drop_length] at hc
        have hf : f = PHI d := eq_of_beq hc
        subst hf
        refine s_appU (xs := xs) (e4 t _ (e3 t _ hxs)) (ev_var rfl) (eu_tup (ea_cons (ev_var rfl) (ea_cons (ev_var rfl) ea_nil)) (by show 2 ≤ 100000; decide)) (by rw [hl, List.length_take]; omega) fun T H9 nT e9 h9 => ?_
        refine ⟨_, _, _, _, _, rfl, (((e2.trans e3).trans e4).trans e9).mut ht, npt, ?_, _, upd_same, ?_⟩
        · rw [upd_ne npt]
          exact e9 _ _ (e4 _ _ (e3 _ _ hp))
        · rw [List.take_add_one, hdi]
          exact ((((hrows.ex e3).ex e4).ex e9).snoc h9 (e9 _ _ h4) npf).upd (e9 _ _ (e4 _ _ (e3 _ _ hxs))) _
    · obtain ⟨y2, y3, y4, y5, y6, rfl, e2, npt, hp, xs, hxs, hrows⟩ := hP
      rw [nv_len, List.take_length] at hrows
      obtain ⟨T, pg, hat, hT, hg⟩ := rows_last hrows hn1 (by omega)
      refine s_ret (ev_ixT (ev_ixL (ev_var rfl) (ev_neg ev_c) (sq_of hxs) hat) ev_c (st_of hT) (atI_nat (j := 1) rfl)) fun H3 e3 => q pg H3 (e2.trans e3) (e3 _ _ hg)
theorem ok_lval {fa : Addr} {fd : FuncData} (F : Fun K "_law_value" "_law_value" sLVal fa fd) (B : Free mg) : FnOk P w K mg base CX0 1 fa fd ["_law_f", "_law_a"] (spLVal K) := by
  refine F.ok scLVal (fun vs H Q E h => ?_) (fun cdv A outer s H vs Q E hr h => ?_)
  · obtain ⟨a, f, y, rfl, _⟩ := h
    rfl
  · obtain ⟨a, f, y, rfl, hF, hl, y1, y2, q⟩ := h
    refine ⟨_, pss_cons (ps_set (i := 2) scLVal.nd rfl (.inl rfl) pe_int)
      (pss_cons (ps_for PassesOwn.never rfl (pi_reversed (by rfl) B.reversed (pa_cons (pv 0) pa_nil)) (pg_name (i := 3) scLVal.nd rfl (.inl rfl))
        (pss_one (ps_set (i := 2) scLVal.nd rfl (.inl rfl) (pe_op op_add (pe_op op_mul (pv 2) (pv 1)) (pv 3)))))
      (pss_one (ps_ret (pv 2)))), ?_⟩
    refine q_asg ev_c fun H1 e1 => ?_
    refine ⟨.ref a, rfl, a, iv f, rfl, ex_l e1 hF, for_it walk_rev (fun i σ' H' => ∃ y3, σ' = [some (.ref a), some (.int y), some (.int (ev (f.drop (f.length - i)) y)), y3] ∧ Ex H H') ⟨none, ?_, e1⟩ (fun i σ' H' _ hP => ?_) (fun i x σ' H' H'' hi hP hy => ?_) (fun σ' H' hP => ?_)⟩
    · rw [Nat.sub_zero, List.drop_length]
      rfl
    · obtain ⟨y3, rfl, e2⟩ := hP
      exact ex_l e2 hF
    · obtain ⟨y3, rfl, e2⟩ := hP
      obtain ⟨rfl, hx⟩ := hy
      rw [iv_len] at hi hx
      have hlt : f.length - 1 - i < f.length := by omega
      rw [iv_get hlt] at hx
      obtain rfl := Option.some.inj hx
      refine s_asg (ev_add (ev_mul (i := ev (f.drop (f.length - i)) y) (j := y) (ev_var rfl) (ev_var rfl) (.inr ⟨y1, y2⟩)) (ev_var rfl)) fun H3 e3 => ⟨some (.int (f.getD (f.length - 1 - i) 0)), ?_, e2.trans e3⟩
      have e : ev (f.drop (f.length - (i + 1))) y = ev (f.drop (f.length - i)) y * y + f.getD (f.length - 1 - i) 0 := by
        have h1 : f.length - (i + 1) = f.length - 1 - i := by omega
        have h2 : f.length - i = f.length - 1 - i + 1 := by omega
        rw [h1, h2, List.drop_eq_getElem_cons hlt]
        simp only [ev]
        rw [List.getD_eq_getElem?_getD, List.getElem?_eq_getElem hlt]
        show f[f.length - 1 - i] + y * _ = _ * y + f[f.length - 1 - i]
        rw [Int.mul_comm, Int.add_comm]
      rw [e]
      rfl
    · obtain ⟨y3, rfl, e2⟩ := hP
      rw [iv_len, Nat.sub_self, List.drop_zero]
      exact s_ret (ev_var rfl) fun H3 e3 => q H3 (e2.trans e3)
end
end RK
end

section
set_option Elab.async false
set_option linter.all false
set_option maxRecDepth 100000
set_option maxHeartbeats 4000000
namespace RK
open PySem PySem.Spec PyProof.Rows L2 Evl
def pf1 : Nat → Nat → Nat → Option Nat
  | 0, _, _ => none
  | k + 1, n, p => if n % p = 0 then some p else pf1 k n (p + 1)
def pf2 : Nat → Nat → Nat → Option Nat
  | 0, _, _ => none
  | k + 1, n, p => if n % p = 0 then pf2 k (n / p) p else some n
def prfOk (m : Nat) : Bool := (match pf1 60 m 2 with
  | some p => (match pf2 12 m p with
    | some r => decide (p * (if r = 1 then 1 else 0) = PRF m)
    | none => false)
  | none => false) && decide (PRF m ≤ 60)
theorem t_prf : (List.range' 2 59).all prfOk = true := by decide +kernel
theorem prf_eq {m : Nat} (h1 : 2 ≤ m) (h2 : m ≤ 60) : (∃ p r, pf1 60 m 2 = some p ∧ pf2 12 m p = some r ∧ p * (if r = 1 then 1 else 0) = PRF m) ∧ PRF m ≤ 60 := by
  have h := List.all_eq_true.mp t_prf m (List.mem_range'_1.mpr ⟨h1, by omega⟩)
  unfold prfOk at h
  rw [Bool.and_eq_true] at h
  refine ⟨?_, of_decide_eq_true h.2⟩
  have h3 := h.1
  cases e1 : pf1 60 m 2 with
  | none => rw [e1] at h3; cases h3
  | some p =>
    rw [e1] at h3
    dsimp only at h3
    cases e2 : pf2 12 m p with
    | none => rw [e2] at h3; cases h3
    | some r =>
      rw [e2] at h3
      exact ⟨p, r, rfl, e2, of_decide_eq_true h3⟩
abbrev sPrime : Stmt := topS 34
theorem scPrime : FnScope ["_law_number", "_law_p"] ["_law_number"] (defScope sPrime) := ⟨rfl, rfl, rfl, by decide +kernel, rfl, by decide +kernel, by decide +kernel⟩
def spPrime : Sp := fun vs H Q _ => ∃ m : Nat, vs = [.int (m : Int)] ∧ 2 ≤ m ∧ m ≤ 60 ∧ RetV (.int (PRF m : Int)) H Q
abbrev sMeet : Stmt := topS 35
theorem scMeet : FnScope ["_law_n", "_law_d", "_law_low", "_law_high", "_law_told", "_law_unit"] ["_law_n", "_law_d"] (defScope sMeet) := ⟨rfl, rfl, rfl, by decide +kernel, rfl, by decide +kernel, by decide +kernel⟩
def spMeet : Sp := fun vs H Q _ => ∃ n d : Nat, vs = [.int (n : Int), .int (d : Int)] ∧ 1 ≤ n ∧ n ≤ 60 ∧ 1 ≤ d ∧ d ≤ 60 ∧ RetV (.int (MEET n d)) H Q
section
variable {σ : L2.St} {H : Hp} {ta tb : TE} {i j : Int}
theorem q_par {i j : Nat} {ta : TA} {v w : V} {tz : TS} {D : Ends} (h : EvA ta σ H [v, w]) (k : ∀ H1, Ex H H1 → tz D ((σ.set i (some v)).set j (some w)) H1) : tSeq (tPar i j ta) tz D σ H := h H (Ex.refl H) _ fun H1 e => ⟨v, w, rfl, k H1 e⟩
theorem ev_min2 (ha : Ev ta σ H (.int i)) (hb : Ev tb σ H (.int j)) : Ev (tCB (fun xs H Q => ∃ i j, xs = [.int i, .int j] ∧ Q (.int (if j < i then j else i)) H) (tCons ta (tCons tb tNil))) σ H (.int (if j < i then j else i)) := fun H1 e Q q =>
  ha H1 e _ fun H2 e2 => hb H2 (e.trans e2) _ fun H3 e3 => ⟨i, j, rfl, q H3 (e2.trans e3)⟩
end
section
variable {P : Program} {w : World} {K : PySem.W.Frag} {mg : Str → Option Value} {base : Heap}
theorem ok_prime {fa : Addr} {fd : FuncData} (F : Fun K "_law_prime_of" "_law_prime_of" sPrime fa fd) (B : Free mg) : FnOk P w K mg base CX0 1 fa fd ["_law_number"] spPrime := by
  refine F.ok scPrime (fun vs H Q E h => ?_) (fun cdv A outer s H vs Q E hr h => ?_)
  · obtain ⟨d, rfl, _⟩ := h
    rfl
  · obtain ⟨m, rfl, hm1, hm2, q⟩ := h
    refine ⟨_, pss_cons (ps_set (i := 1) scPrime.nd rfl (.inl rfl) pe_int)
      (pss_cons (ps_while PassesOwn.never (pt_cmpR op_ne (pe_op op_mod (pv 0) (pv 1)) pe_int (nomark _)) (pss_one (ps_set (i := 1) scPrime.nd rfl (.inl rfl) (pe_op op_add (pv 1) pe_int))))
      (pss_cons (ps_while PassesOwn.never (pt_cmpR op_eq (pe_op op_mod (pv 0) (pv 1)) pe_int (nomark _)) (pss_one (ps_set (i := 0) scPrime.nd rfl (.inl rfl) (pe_op op_fdiv (pv 0) (pv 1)))))
      (pss_one (ps_ret (pe_op op_mul (pv 1) (pe_callTy call_int1 (by rfl) B.int (by decide +kernel) (pa_cons (pe_cmpR op_eq (pv 0) pe_int (nomark _)) pa_nil))))))), ?_⟩
    obtain ⟨⟨p, r, hp1, hp2, hpr⟩, _⟩ := prf_eq hm1 hm2
    refine q_asg ev_c fun H1 e1 => ?_
    refine q_while (fun k σ' H' => ∃ p' : Nat, σ' = [some (.int (m : Int)), some (.int (p' : Int))] ∧ Ex H H' ∧ 2 ≤ p' ∧ p' + k ≤ 62 ∧ pf1 k m p' = some p) 60 ⟨2, rfl, e1, by omega, by omega, hp1⟩ fun k σ' H' hW => ?_
    obtain ⟨p', rfl, e2, k1, k2, hpf⟩ := hW
    obtain ⟨k, rfl⟩ : ∃ k', k = k' + 1 := by
      cases k with
      | zero => cases hpf
      | succ k' => exact ⟨k', rfl⟩
    have eb : decide ((m : Int) % (p' : Int) = 0) = decide (m % p' = 0) := by
      rw [← Int.natCast_emod]
      simp only [Int.natCast_eq_zero]
    unfold pf1 at hpf
    refine ⟨!decide (m % p' = 0), et_is (et_test (ev_neI (ev_mod (i := (m : Int)) (j := (p' : Int)) (ev_var rfl) (ev_var rfl) (by omega)) ev_c)) (by rw [eb]), fun hb H3 e3 => ?_, fun hb H3 e3 => ?_⟩
    · have hz : ¬ m % p' = 0 := fun z => by
        rw [decide_eq_true z] at hb
        cases hb
      rw [if_neg hz] at hpf
      refine ⟨_, fun σ2 H2 hN => ⟨k, Nat.lt_succ_self k, hN⟩, ?_⟩
      exact s_asg (ev_add (i := (p' : Int)) (j := 1) (ev_var rfl) ev_c) fun H4 e4 => ⟨p' + 1, rfl, (e2.trans e3).trans e4, by omega, by omega, hpf⟩
    · have hz : m % p' = 0 := by
        by_cases hz : m % p' = 0
        · exact hz
        · rw [decide_eq_false hz] at hb
          cases hb
      rw [if_pos hz] at hpf
      obtain rfl : p' = p := Option.some.inj hpf
      refine q_while (fun k σ' H' => ∃ n2 : Nat, σ' = [some (.int (n2 : Int)), some (.int (p' : Int))] ∧ Ex H H' ∧ n2 ≤ 60 ∧ pf2 k n2 p' = some r) 12 ⟨m, rfl, e2.trans e3, hm2, hp2⟩ fun k2 σ' H' hW => ?_
      obtain ⟨n2, rfl, e4, j1, hpf2⟩ := hW
      obtain ⟨k2, rfl⟩ : ∃ k', k2 = k' + 1 := by
        cases k2 with
        | zero => cases hpf2
        | succ k' => exact ⟨k', rfl⟩
      have eb2 : decide ((n2 : Int) % (p' : Int) = 0) = decide (n2 % p' = 0) := by
        rw [← Int.natCast_emod]
        simp only [Int.natCast_eq_zero]
      unfold pf2 at hpf2
      refine ⟨decide (n2 % p' = 0), et_is (et_test (ev_eqI (ev_mod (i := (n2 : Int)) (j := (p' : Int)) (ev_var rfl) (ev_var rfl) (by omega)) ev_c)) eb2, fun hb H5 e5 => ?_, fun hb H5 e5 => ?_⟩
      · have hz := of_decide_eq_true hb
        rw [if_pos hz] at hpf2
        refine ⟨_, fun σ2 H2 hN => ⟨k2, Nat.lt_succ_self k2, hN⟩, ?_⟩
        refine s_asg (ev_fdiv (i := (n2 : Int)) (j := (p' : Int)) (ev_var rfl) (ev_var rfl) ⟨by omega, by omega⟩) fun H6 e6 => ⟨n2 / p', ?_, (e4.trans e5).trans e6, Nat.le_trans (Nat.div_le_self _ _) j1, hpf2⟩
        rw [← Int.natCast_ediv]
        rfl
      · have hz := of_decide_eq_false hb
        rw [if_neg hz] at hpf2
        obtain rfl : n2 = r := Option.some.inj hpf2
        refine s_ret (ev_to (ev_mul (i := (p' : Int)) (j := if decide ((n2 : Int) = 1) = true then 1 else 0) (ev_var rfl) (ev_int1 (ev_eqI (ev_var rfl) ev_c)) (.inl (by omega))) (z' := (PRF m : Int)) ?_) fun H6 e6 => q H6 ((e4.trans e5).trans e6)
        rw [← hpr, Int.natCast_mul]
        congr 1
        by_cases h1 : n2 = 1
        · rw [if_pos h1, if_pos (decide_eq_true (by omega))]
          rfl
        · rw [if_neg h1, if_neg (by rw [decide_eq_false (by omega)]; decide)]
          rfl
theorem ok_meet {fa : Addr} {fd : FuncData} (F : Fun K "_law_meeting" "_law_meeting" sMeet fa fd) (B : Free mg) (GP : Has P w K mg base 1 "_law_prime_of" ["_law_number"] spPrime) (GU : Has P w K mg base 2 "_law_units" ["_law_n"] spUnits) : FnOk P w K mg base CX0 3 fa fd ["_law_n", "_law_d"] spMeet := by
  refine F.ok scMeet (fun vs H Q E h => ?_) (fun cdv A outer s H vs Q E hr h => ?_)
  · obtain ⟨n, d, rfl, _⟩ := h
    rfl
  · obtain ⟨n, d, rfl, n1, n2, d1, d2, q⟩ := h
    refine ⟨_, pss_cons (ps_par (i := 2) (j := 3) rfl scMeet.nd rfl rfl (by decide) rfl rfl (pa_cons (pe_callB (call_min2 rfl) (by rfl) B.min (by decide +kernel) (pa_cons (pv 0) (pa_cons (pv 1) pa_nil))) (pa_cons (pe_callB (call_max2 rfl) (by rfl) B.max (by decide +kernel) (pa_cons (pv 0) (pa_cons (pv 1) pa_nil))) pa_nil)) rfl)
      (pss_cons (ps_if (pt_cmpR op_eq (pv 2) (pv 3) (nomark _)) (pss_one (ps_ret pe_int)) pss_nil)
      (pss_cons (ps_set (i := 4) scMeet.nd rfl (.inl rfl) pe_int)
      (pss_cons (ps_if (pw_and (pt_cmpR op_eq (pe_op op_mod (pv 3) (pv 2)) pe_int (nomark _)) (pw_and1 (pt_cmpR op_gt (pe_callD GP (hr.mono (by decide)) (by rfl) (pa_cons (pe_op op_fdiv (pv 3) (pv 2)) pa_nil)) pe_int (nomark _)))).pt
          (pss_one (ps_for PassesOwn.never rfl (pi_list (pe_callD GU hr (by rfl) (pa_cons (pv 2) pa_nil))) (pg_name (i := 5) scMeet.nd rfl (.inl rfl)) (pss_one (ps_set (i := 4) scMeet.nd rfl (.inl rfl) (pe_op op_mul (pv 4) (pe_callD GP (hr.mono (by decide)) (by rfl) (pa_cons (pe_op op_fdiv (pv 3) (pv 2)) pa_nil))))))) pss_nil)
      (pss_cons (ps_if (pw_and (pt_cmpR op_eq (pv 0) pe_int (nomark _)) (pw_and1 (pt_cmpR op_eq (pv 1) pe_int (nomark _)))).pt (pss_one (ps_ret (pe_op op_sub pe_int (pv 4)))) pss_nil)
      (pss_one (ps_ret (pv 4))))))), ?_⟩
    have emin : (if (d : Int) < (n : Int) then (d : Int) else (n : Int)) = ((min n d : Nat) : Int) := by split <;> omega
    have emax : (if (d : Int) > (n : Int) then (d : Int) else (n : Int)) = ((max n d : Nat) : Int) := by split <;> omega
    have hargs : EvA (tCons (tCB (fun xs H Q => ∃ i j, xs = [V.int i, V.int j] ∧ Q (V.int (if j < i then j else i)) H) (tCons (tVar 0) (tCons (tVar 1) tNil))) (tCons (tCB (fun xs H Q => ∃ i j, xs = [V.int i, V.int j] ∧ Q (V.int (if j > i then j else i)) H) (tCons (tVar 0) (tCons (tVar 1) tNil))) tNil)) [some (.int (n : Int)), some (.int (d : Int)), none, none, none, none] H [.int ((min n d : Nat) : Int), .int ((max n d : Nat) : Int)] :=
      ea_cons (ev_to (ev_min2 (i := (n : Int)) (j := (d : Int)) (ev_var (i := 0) rfl) (ev_var (i := 1) rfl)) emin) (ea_cons (ev_to (ev_max2 (i := (n : Int)) (j := (d : Int)) (ev_var (i := 0) rfl) (ev_var (i := 1) rfl)) emax) ea_nil)
    refine q_par hargs fun H1 e1 => ?_
    have hlo1 : 1 ≤ min n d := by omega
    have hhi1 : max n d ≤ 60 := by omega
    have hle : min n d ≤ max n d := by omega
    generalize hlo : min n d = lo at hlo1 hle
    generalize hhi : max n d = hi at hhi1 hle
    have eb : decide ((lo : Int) = (hi : Int)) = decide (n = d) := by
      have : ((lo : Int) = (hi : Int)) ↔ n = d := by omega
      simp only [this]
    refine q_when (et_is (et_test (ev_eqI (i := (lo : Int)) (j := (hi : Int)) (ev_var rfl) (ev_var rfl))) eb) (fun hb H2 e2 => ?_) (fun hb H2 e2 => ?_)
    · have hz := of_decide_eq_true hb
      refine s_ret ev_c fun H3 e3 => ?_
      have := q H3 ((e1.trans e2).trans e3)
      unfold MEET at this
      rw [if_pos hz] at this
      exact this
    · have hz := of_decide_eq_false hb
      have hlt : lo < hi := by omega
      have hMEET : ∀ T : Int, T = (if hi % lo = 0 ∧ 0 < PRF (hi / lo) then (PRF (hi / lo) : Int) ^ (UN lo).length else 1) → MEET n d = if n = 2 ∧ d = 1 then 0 - T else T := by
        intro T hT
        unfold MEET
        rw [if_neg hz, hlo, hhi, ← hT]
        split <;> omega
      have e12 := e1.trans e2
      refine q_asg ev_c fun H3 e3 => ?_
      have e13 := e12.trans e3
      have fin : ∀ (T : Int) (y5 : Option V) (H9 : Hp), Ex H H9 → T = (if hi % lo = 0 ∧ 0 < PRF (hi / lo) then (PRF (hi / lo) : Int) ^ (UN lo).length else 1) →
          tSeq (tIfS (tAnd (tTest (tOp rEq (tVar 0) (tC (.int 2)))) (tTest (tOp rEq (tVar 1) (tC (.int 1))))) (tRet (tOp (rI0 fun i j => .int (i - j)) (tC (.int 0)) (tVar 4))) tNext) (tRet (tVar 4)) { nx := fun _ H' => Q .non H', rt := Q } [some (.int (n : Int)), some (.int (d : Int)), some (.int (lo : Int)), some (.int (hi : Int)), some (.int T), y5] H9 := fun T y5 H9 e9 hT => by
        have eb2 : (decide ((n : Int) = 2) && decide ((d : Int) = 1)) = decide (n = 2 ∧ d = 1) := by
          have h1 : ((n : Int) = 2) ↔ n = 2 := by omega
          have h2 : ((d : Int) = 1) ↔ d = 1 := by omega
          simp only [h1, h2]
          simp
        refine q_when (et_is (et_and (et_test (ev_eqI (ev_var rfl) ev_c)) fun _ => et_test (ev_eqI (ev_var rfl) ev_c)) eb2) (fun hb H10 e10 => ?_) (fun hb H10 e10 => ?_)
        · have hnd := of_decide_eq_true hb
          refine s_ret (ev_sub (i := 0) (j := T) ev_c (ev_var rfl)) fun H11 e11 => ?_
          have := q H11 ((e9.trans e10).trans e11)
          rw [hMEET T hT, if_pos hnd] at this
          exact this
        · have hnd := of_decide_eq_false hb
          refine s_ret (ev_var rfl) fun H11 e11 => ?_
          have := q H11 ((e9.trans e10).trans e11)
          rw [hMEET T hT, if_neg hnd] at this
          exact this
      have hquo : (hi : Int) / (lo : Int) = ((hi / lo : Nat) : Int) := (Int.natCast_ediv hi lo).symm
      have eb3 : decide ((hi : Int) % (lo : Int) = 0) = decide (hi % lo = 0) := by
        rw [← Int.natCast_emod]
        simp only [Int.natCast_eq_zero]
      have hm2 : hi % lo = 0 → 2 ≤ hi / lo ∧ hi / lo ≤ 60 := by
        intro hz0
        refine ⟨?_, Nat.le_trans (Nat.div_le_self _ _) hhi1⟩
        have h3 := Nat.div_add_mod hi lo
        rw [hz0, Nat.add_zero] at h3
        have h4 : hi / lo ≠ 0 := by
          intro z
          rw [z, Nat.mul_zero] at h3
          omega
        have h5 : hi / lo ≠ 1 := by
          intro z
          rw [z, Nat.mul_one] at h3
          omega
        generalize hi / lo = mm at h4 h5
        omega
      have hcall : hi % lo = 0 → ∀ (σ0 : L2.St) (Hx : Hp), σ0[3]? = some (some (.int (hi : Int))) → σ0[2]? = some (some (.int (lo : Int))) → Ev (tCall spPrime [] E0 (tCons (tOp (rI CDiv fun i j => .int (i / j)) (tVar 3) (tVar 2)) tNil)) σ0 Hx (.int (PRF (hi / lo) : Int)) := fun hz0 σ0 Hx s3 s2 =>
        ev_call (ea_cons (ev_to (ev_fdiv (i := (hi : Int)) (j := (lo : Int)) (ev_var s3) (ev_var s2) ⟨by omega, by omega⟩) hquo) ea_nil) fun H4 e4 Q' k E' => ⟨hi / lo, rfl, (hm2 hz0).1, (hm2 hz0).2, k⟩
      have eb4 : (decide (hi % lo = 0) && decide ((0 : Int) < (PRF (hi / lo) : Int))) = decide (hi % lo = 0 ∧ 0 < PRF (hi / lo)) := by
        simp only [Int.natCast_pos]
        simp
      refine q_when (et_is (et_and (et_is (et_test (ev_eqI (ev_mod (i := (hi : Int)) (j := (lo : Int)) (ev_var rfl) (ev_var rfl) (by omega)) ev_c)) eb3) fun hz0 => et_test (ev_cmp (f := fun i j => decide (j < i)) (j := 0) (hcall (of_decide_eq_true hz0) _ _ rfl rfl) ev_c)) eb4) (fun hb H4 e4 => ?_) (fun hb H4 e4 => ?_)
      · have hc := of_decide_eq_true hb
        obtain ⟨_, hp60⟩ := prf_eq (hm2 hc.1).1 (hm2 hc.1).2
        refine s_forNL (xs := nv (UN lo)) (el_call (ea_cons (ev_var rfl) ea_nil) fun H5 e5 Q' k E' => ⟨lo, rfl, by omega, fun p H6 hp e6 h6 => k p H6 hp e6 h6⟩)
          (fun p i σ' H' => ∃ y5, σ' = [some (.int (n : Int)), some (.int (d : Int)), some (.int (lo : Int)), some (.int (hi : Int)), some (.int ((PRF (hi / lo) : Int) ^ i)), y5] ∧ Ex H H' ∧ H' p = some (.lst (nv (UN lo))))
          (fun p H5 hp e5 h5 => ⟨none, rfl, (e13.trans e4).trans e5, h5⟩) (fun p i σ' H' _ hP => ?_) (fun p i x σ' H' hx hP => ?_) (fun p σ' H' hP => ?_)
        · obtain ⟨y5, rfl, e5, hp⟩ := hP
          exact sq_of hp
        · obtain ⟨y5, rfl, e5, hp⟩ := hP
          refine s_asg (ev_to (ev_mul (i := (PRF (hi / lo) : Int) ^ i) (j := (PRF (hi / lo) : Int)) (ev_var rfl) (hcall hc.1 _ _ rfl rfl) (.inr (by omega))) (Int.pow_succ _ i).symm) fun H6 e6 => ⟨_, rfl, e5.trans e6, e6 _ _ hp⟩
        · obtain ⟨y5, rfl, e5, hp⟩ := hP
          refine fin _ y5 H' e5 ?_
          rw [if_pos hc, nv_len]
      · have hc := of_decide_eq_false hb
        refine fin 1 none H4 (e13.trans e4) ?_
        rw [if_neg hc]
end
end RK
end

section
set_option Elab.async false
set_option linter.all false
set_option maxRecDepth 100000
set_option maxHeartbeats 4000000
namespace RK
open PySem PySem.Spec PyProof.Rows L2 Evl
/-! ### what a factor is worth -/
structure FOk (n : Nat) (g : List Int) (num : Int) : Prop where
  good : Good n g num
  len : g.length ≤ 61
  l1 : l1 g ≤ 2 ^ 21
  num : num.natAbs < 2 ^ 700
def phiSz (d : Nat) : Bool := decide ((PHI d).length ≤ 61) && decide (l1 (PHI d) ≤ 61)
theorem t_phiSz : (List.range' 1 60).all phiSz = true := by decide +kernel
theorem phi_len31 : (List.range' 1 30).all (fun n => decide ((PHI n).length ≤ 31)) = true := by decide +kernel
def meetSz (n : Nat) : Bool := (DS n).all fun d => decide ((MEET n d).natAbs < 2 ^ 200)
theorem t_meetSz : (List.range' 1 30).all meetSz = true := by decide +kernel
theorem ev_bound2 (y : Int) (B : Nat) (hB : 1 ≤ B) (hy : y.natAbs ≤ B) : ∀ (l : List Int) (n : Nat), l.length ≤ n + 1 → (ev l y).natAbs ≤ l1 l * B ^ n
  | [], n, _ => by simp [ev, RK.l1]
  | c :: l, 0, h => by
    have : l = [] := by
      cases l with
      | nil => rfl
      | cons y r => simp at h
    subst this
    simp [ev, RK.l1]
  | c :: l, n + 1, h => by
    have ih := ev_bound2 y B hB hy l n (by simp only [List.length_cons] at h; omega)
    simp only [ev, RK.l1]
    have h1 : (c + y * ev l y).natAbs ≤ c.natAbs + B * (ev l y).natAbs := by
      have := Int.natAbs_add_le c (y * ev l y)
      rw [Int.natAbs_mul] at this
      have h2 := Nat.mul_le_mul_right (ev l y).natAbs hy
      omega
    have h2 : B * (ev l y).natAbs ≤ B * (RK.l1 l * B ^ n) := Nat.mul_le_mul_left B ih
    have h3 : B * (RK.l1 l * B ^ n) = RK.l1 l * B ^ (n + 1) := by rw [Nat.pow_succ]; grind
    have h4 : c.natAbs ≤ c.natAbs * B ^ (n + 1) := Nat.le_mul_of_pos_right _ (Nat.pow_pos (by omega))
    rw [Nat.add_mul]
    omega
theorem DS_mem {n d : Nat} (hn : 1 ≤ n) (h : d ∈ DS n) : 1 ≤ d ∧ d ≤ 60 := by
  unfold DS at h
  rcases List.mem_append.mp h with h | h
  · have := List.mem_range'_1.mp h
    omega
  · obtain ⟨h1, h2⟩ := List.mem_filter.mp h
    have h3 := of_decide_eq_true h2
    simp at h1
    omega
theorem fok_phi {n d : Nat} (h1 : 1 ≤ n) (h2 : n ≤ 30) (hd : d ∈ DS n) : FOk n (PHI d) (MEET n d) := by
  obtain ⟨d1, d2⟩ := DS_mem h1 hd
  have hs := each60 t_phiSz d1 d2
  unfold phiSz at hs
  rw [Bool.and_eq_true] at hs
  have hm := of_decide_eq_true (List.all_eq_true.mp (each30 t_meetSz h1 h2) d hd)
  have e := of_decide_eq_true hs.2
  exact ⟨Good.phi h1 h2 hd, of_decide_eq_true hs.1, Nat.le_trans e (by decide), Nat.lt_trans hm (Nat.pow_lt_pow_right (by decide) (by decide))⟩
theorem fok_lin {n : Nat} (h1 : 1 ≤ n) (h2 : n ≤ 30) {y : Int} (hy : y.natAbs ≤ 1000000) : FOk n [0 - y, 1] (if (UN n).length = 1 then 0 - ev (PHI n) y else ev (PHI n) y) := by
  have g := Good.lin h1 h2 y
  have e1 : SGN n * ev (PHI n) y = if (UN n).length = 1 then 0 - ev (PHI n) y else ev (PHI n) y := by
    unfold SGN
    split <;> omega
  have e2 : -y = 0 - y := by omega
  rw [e1, e2] at g
  refine ⟨g, by show 2 ≤ 61; decide, ?_, ?_⟩
  · show (0 - y).natAbs + ((1 : Int).natAbs + 0) ≤ 2 ^ 21
    have : (2 : Nat) ^ 21 = 2097152 := by decide
    omega
  · have hl := of_decide_eq_true (each30 phi_len31 h1 h2)
    have hs := each60 t_phiSz h1 (show n ≤ 60 by omega)
    unfold phiSz at hs
    rw [Bool.and_eq_true] at hs
    have hb := ev_bound2 y (2 ^ 20) (by decide) (Nat.le_trans hy (by decide)) (PHI n) 30 (by omega)
    have hb2 : (ev (PHI n) y).natAbs ≤ 61 * (2 ^ 20) ^ 30 := Nat.le_trans hb (Nat.mul_le_mul_right _ (of_decide_eq_true hs.2))
    have hb3 : 61 * (2 ^ 20) ^ 30 < 2 ^ 700 := by decide +kernel
    have hb4 := Nat.lt_of_le_of_lt hb2 hb3
    generalize ev (PHI n) y = v at hb4
    split
    · have : (0 - v).natAbs = v.natAbs := by omega
      rw [this]
      exact hb4
    · exact hb4
theorem div_bounds {n i : Nat} (h1 : 1 ≤ n) (h2 : n ≤ 60) (hi : i < (DIV n).length) : 1 ≤ (DIV n).getD i 0 ∧ (DIV n).getD i 0 ≤ n := by
  have hend := each60 t_divEnd h1 h2
  unfold divEnd at hend
  rw [Bool.and_eq_true, Bool.and_eq_true, Bool.and_eq_true] at hend
  have hdm : (DIV n).getD i 0 ∈ DIV n := by
    rw [List.getD_eq_getElem?_getD, List.getElem?_eq_getElem hi]
    exact List.getElem_mem hi
  have := List.all_eq_true.mp hend.1.1.1 _ hdm
  rw [Bool.and_eq_true] at this
  exact ⟨of_decide_eq_true this.1, of_decide_eq_true this.2⟩
theorem div_pos {n : Nat} (h1 : 1 ≤ n) (h2 : n ≤ 60) : 0 < (DIV n).length := by
  have hend := each60 t_divEnd h1 h2
  unfold divEnd at hend
  rw [Bool.and_eq_true, Bool.and_eq_true, Bool.and_eq_true] at hend
  exact of_decide_eq_true hend.1.2

abbrev sFactor : Stmt := topS 36
abbrev nFactor : List Str := ["_law_n", "_law_draws_here", "_law_way", "_law_pick", "_law_a", "_law_told", "_law_d", "_law_some", "_law_k"]
theorem scFactor : FnScope nFactor ["_law_n", "_law_draws_here"] (defScope sFactor) := ⟨rfl, rfl, rfl, by decide +kernel, rfl, by decide +kernel, by decide +kernel⟩
def spFactor : Sp := fun vs H Q _ => ∃ (n : Nat) (ad : Addr) (c k : Int) (b : Bool), vs = [.int (n : Int), .ref ad] ∧ 1 ≤ n ∧ n ≤ 30 ∧ H ad = some (dl c k b) ∧ Dr c b ∧ 0 ≤ k ∧ k ≤ 900 ∧
  ∀ p pg g num c' H2, ExB ad H H2 → H2 ad = some (dl c' (k + 2) b) → Dr c' b → H2 p = some (.tup [.ref pg, .int num]) → H2 pg = some (.lst (iv g)) → FOk n g num → Q (.ref p) H2
section
variable {σ : L2.St} {H : Hp} {D : Ends}
/-- return ([..], v) -/
theorem s_retLv {teL te2 : TE} {xs : List V} {v : V} (h : EvL teL σ H xs) (h2 : ∀ H1, Ex H H1 → Ev te2 σ H1 v) (k : ∀ p r H1, Ex H H1 → H1 p = some (.lst xs) → H1 r = some (.tup [.ref p, v]) → D.rt (.ref r) H1) : tRet (tTup (tCons teL (tCons te2 tNil))) D σ H :=
  h H (Ex.refl H) _ fun p H1 hp e1 h1 => h2 H1 e1 H1 (Ex.refl H1) _ fun H3 e3 => ⟨by show 2 ≤ sizeLine; decide, fun r nr => k p r _ ((e1.trans e3).trans (Ex.new nr)) (keep_new (e3 _ _ h1) nr) upd_same⟩
/-- return (f(..), g(..)), the first a promise of an object -/
theorem s_retCv {sp : Sp} {ta : TA} {te2 : TE} {vs : List V} (h : EvA ta σ H vs) (k : ∀ H1, Ex H H1 → sp (vs ++ []) H1 (fun x H2 => te2 σ H2 fun y H3 => [x, y].length ≤ sizeLine ∧ ∀ p, H3 p = none → D.rt (.ref p) (upd H3 p (.tup [x, y]))) E0) : tRet (tTup (tCons (tCall sp [] E0 ta) (tCons te2 tNil))) D σ H :=
  h H (Ex.refl H) _ fun H1 e => k H1 e
theorem asg_callO {sp : Sp} {ta : TA} {g : TG} {vs : List V} (h : EvA ta σ H vs) (k : ∀ H1, Ex H H1 → sp (vs ++ []) H1 (fun x H2 => g x σ H2 D.nx) E0) : tAsg (tCall sp [] E0 ta) g D σ H := h H (Ex.refl H) _ fun H1 e => k H1 e
theorem q_asgC {sp : Sp} {ta : TA} {tb : TE} {r : R2} {g : TG} {vs : List V} {tz : TS} (h : EvA ta σ H vs) (k : ∀ H1, Ex H H1 → sp (vs ++ []) H1 (fun x H2 => tb σ H2 fun y H3 => r x y H3 fun v H4 => g v σ H4 (tz D)) E0) : tSeq (tAsg (tOp r (tCall sp [] E0 ta) tb) g) tz D σ H :=
  h H (Ex.refl H) _ fun H1 e => k H1 e
theorem q_asgO {sp : Sp} {ta : TA} {g : TG} {vs : List V} {tz : TS} (h : EvA ta σ H vs) (k : ∀ H1, Ex H H1 → sp (vs ++ []) H1 (fun x H2 => g x σ H2 (tz D)) E0) : tSeq (tAsg (tCall sp [] E0 ta) g) tz D σ H := h H (Ex.refl H) _ fun H1 e => k H1 e
end
section
variable {P : Program} {w : World} {K : PySem.W.Frag} {mg : Str → Option Value} {base : Heap}
theorem ok_factor {fa : Addr} {fd : FuncData} (F : Fun K "_law_factor" "_law_factor" sFactor fa fd) (B : Free mg) (GN : Has P w K mg base 1 "_law_next" ["_law_draws_here"] spNext) (GV : Has P w K mg base 1 "_law_value" ["_law_f", "_law_a"] (spLVal K)) (GL : Has P w K mg base 2 "_law_root_poly" ["_law_n"] spLPoly) (GU : Has P w K mg base 2 "_law_units" ["_law_n"] spUnits)
    (GR : Has P w K mg base 4 "root_poly" ["n"] spPoly) (GM : Has P w K mg base 3 "_law_meeting" ["_law_n", "_law_d"] spMeet) : FnOk P w K mg base CX0 5 fa fd ["_law_n", "_law_draws_here"] spFactor := by
  refine F.ok scFactor (fun vs H Q E h => ?_) (fun cdv A outer s H vs Q E hr h => ?_)
  · obtain ⟨n, ad, c, k, b, rfl, _⟩ := h
    rfl
  · obtain ⟨n, ad, c, k, b, rfl, n1, n2, hD, hdr, k0, k1, q⟩ := h
    refine ⟨_, pss_cons (ps_set (i := 2) scFactor.nd rfl (.inl rfl) (pe_op op_mod (pe_callD GN (hr.mono (by decide)) (by rfl) (pa_cons (pv 1) pa_nil)) pe_int))
      (pss_cons (ps_set (i := 3) scFactor.nd rfl (.inl rfl) (pe_callD GN (hr.mono (by decide)) (by rfl) (pa_cons (pv 1) pa_nil)))
      (pss_cons (ps_if (pt_cmpR op_lt (pv 2) pe_int (nomark _))
        (pss_cons (ps_set (i := 4) scFactor.nd rfl (.inl rfl) (pe_ix ix_list (pe_lst (pa_cons (pe_op op_sub (pe_op op_mod (pv 3) pe_int) pe_int) (pa_cons (pe_op op_sub (pe_op op_mod (pv 3) pe_int) pe_int) pa_nil))) (pv 2) (fun _ _ => rfl)))
        (pss_cons (ps_set (i := 5) scFactor.nd rfl (.inl rfl) (pe_callD GV (hr.mono (by decide)) (by rfl) (pa_cons (pe_callD GL (hr.mono (by decide)) (by rfl) (pa_cons (pv 0) pa_nil)) (pa_cons (pv 4) pa_nil))))
        (pss_cons (ps_if (pt_cmpR op_eq (pe_callB call_len_seq (by rfl) B.len PySem.boot_len (pa_cons (pe_callD GU (hr.mono (by decide)) (by rfl) (pa_cons (pv 0) pa_nil)) pa_nil)) pe_int (nomark _)) (pss_one (ps_set (i := 5) scFactor.nd rfl (.inl rfl) (pe_op op_sub pe_int (pv 5)))) pss_nil)
        (pss_one (ps_ret (pe_tup (pa_cons (pe_lst (pa_cons (pe_op op_sub pe_int (pv 4)) (pa_cons pe_int pa_nil))) (pa_cons (pv 5) pa_nil)))))))) pss_nil)
      (pss_cons (ps_set (i := 6) scFactor.nd rfl (.inl rfl) (pe_op op_add pe_int (pe_op op_mod (pv 3) pe_int)))
      (pss_cut (ps_if (pt_cmpR op_eq (pv 2) pe_int (nomark _))
        (pss_cons (ps_setLc (i := 7) (own := [("_law_k", 8)]) (g := gName 8) rfl scFactor.nd rfl rfl (sw_true rfl rfl rfl (by decide +kernel)) (pi_range2 (by rfl) B.range (pa_cons pe_int (pa_cons (pe_op op_add (pv 0) pe_int) pa_nil))) (blkOk_by (own := [("_law_k", 8)]) (N := nFactor) (sc := defScope sFactor) (by decide +kernel))
          (fun _ _ _ _ _ => pg_name (i := 8) scFactor.nd rfl (Or.inl rfl)) (fun _ _ _ _ _ => pts_one (pt_cmpR op_eq (pe_op op_mod (pv 0) (pv 8)) pe_int (nomark _))) (fun _ _ _ _ _ => pv 8))
        (pss_one (ps_set (i := 6) scFactor.nd rfl (.inl rfl) (pe_ix ix_list (pv 7) (pe_op op_mod (pv 3) (pe_callB call_len_seq (by rfl) B.len PySem.boot_len (pa_cons (pv 7) pa_nil))) (fun _ _ => rfl))))) pss_nil)
      (pss_cons (ps_if (pw_and (pt_cmpR op_eq (pv 2) pe_int (nomark _)) (pw_and1 (pt_cmpR op_eq (pe_op op_mod (pv 3) pe_int) pe_int (nomark _)))).pt (pss_one (ps_set (i := 6) scFactor.nd rfl (.inl rfl) (pv 0))) pss_nil)
      (pss_cons (ps_if (pw_and (pt_cmpR op_gt (pv 2) pe_int (nomark _)) (pw_and1 (pt_cmpR op_lt (pe_op op_mul (pv 0) (pe_op op_add pe_int (pe_op op_mod (pv 3) pe_int))) pe_int (nomark _)))).pt (pss_one (ps_set (i := 6) scFactor.nd rfl (.inl rfl) (pe_op op_mul (pv 0) (pe_op op_add pe_int (pe_op op_mod (pv 3) pe_int))))) pss_nil)
      (pss_one (ps_ret (pe_tup (pa_cons (pe_callD GR hr (by rfl) (pa_cons (pv 6) pa_nil)) (pa_cons (pe_callD GM (hr.mono (by decide)) (by rfl) (pa_cons (pv 0) (pa_cons (pv 6) pa_nil))) pa_nil))))))))))), ?_⟩
    -- the two draws
    refine q_asgC (ea_cons (ev_var rfl) ea_nil) fun H1 e1 => ⟨ad, c, k, b, rfl, e1 _ _ hD, hdr, k0, by omega, fun z1 c1 H2 z10 z11 dr1 x1 h1 => ⟨z1, 7, rfl, rfl, (by decide : (0 : Int) < 7), ?_⟩⟩
    have hw0 := Int.emod_nonneg z1 (show (7 : Int) ≠ 0 by decide)
    have hw7 := Int.emod_lt_of_pos z1 (show (0 : Int) < 7 by decide)
    show tSeq _ _ _ [some (.int (n : Int)), some (.ref ad), some (.int (z1 % 7)), none, none, none, none, none, none] H2
    generalize z1 % 7 = way at hw0 hw7
    refine q_asgO (ea_cons (ev_var rfl) ea_nil) fun H3 e3 => ⟨ad, c1, k + 1, b, rfl, e3 _ _ h1, dr1, by omega, by omega, fun pick c2 H4 p0 p1 dr2 x2 h2 => ?_⟩
    have x4 : ExB ad H H4 := (((ExB.of e1).trans x1).trans (ExB.of e3)).trans x2
    have ek : k + 1 + 1 = k + 2 := by omega
    rw [ek] at h2
    clear x1 h1 dr1 z10 z11 e1 e3 x2
    -- x less a
    refine q_when (b := decide (way < 2)) (et_test (ev_cmp (f := fun i j => decide (i < j)) (i := way) (j := 2) (ev_var rfl) ev_c)) (fun hb H5 e5 => ?_) (fun hb H5 e5 => ?_)
    · have hway := of_decide_eq_true hb
      obtain ⟨y, hy, hix⟩ : ∃ y : Int, y.natAbs ≤ 1000000 ∧ atI [V.int (pick % 19 - 9), V.int (pick % 2000001 - 1000000)] way = some (.int y) := by
        have hcase : way = 0 ∨ way = 1 := by omega
        rcases hcase with rfl | rfl
        · exact ⟨_, by omega, atI_nat (j := 0) rfl⟩
        · exact ⟨_, by omega, atI_nat (j := 1) rfl⟩
      refine q_asg (ev_opL1 (el_lst (ea_cons (ev_sub (j := 9) (ev_mod (i := pick) (j := 19) (ev_var rfl) ev_c (by decide)) ev_c) (ea_cons (ev_sub (j := 1000000) (ev_mod (i := pick) (j := 2000001) (ev_var rfl) ev_c (by decide)) ev_c) ea_nil)) (by show 2 ≤ 100000; decide)) (fun H6 e6 => ev_var rfl) (fun p H6 hp e6 => rv_ixL (sq_of hp) hix)) fun H6 e6 => ?_
      refine ⟨_, rfl, n, rfl, n1, n2, fun pp H7 e7 h7 => ⟨_, rfl, pp, PHI n, y, rfl, sq_of h7, ?_, by omega, by omega, fun H8 e8 => ?_⟩⟩
      · have := of_decide_eq_true (each30 phi_len31 n1 n2)
        omega
      have e48 := ((e5.trans e6).trans e7).trans e8
      have x8 : ExB ad H H8 := x4.trans (ExB.of e48)
      have fin : ∀ (T : Int) (H9 : Hp), Ex H8 H9 → T = (if (UN n).length = 1 then 0 - ev (PHI n) y else ev (PHI n) y) → tRet (tTup (tCons (tLst (tCons (tOp (rI0 fun i j => .int (i - j)) (tC (.int 0)) (tVar 4)) (tCons (tC (.int 1)) tNil))) (tCons (tVar 5) tNil))) { nx := tSeq (tAsg (tOp (rI0 fun i j => V.int (i + j)) (tC (V.int 1)) (tOp (rI (fun _ j => 0 < j) fun i j => V.int (i % j)) (tVar 3) (tC (V.int 30)))) (gName 6)) tNever { nx := fun _ H' => Q .non H', rt := Q }, rt := Q } [some (.int (n : Int)), some (.ref ad), some (.int way), some (.int pick), some (.int y), some (.int T), none, none, none] H9 := fun T H9 e9 hT => by
        refine s_retLv (el_lst (ea_cons (ev_sub (i := 0) (j := y) ev_c (ev_var rfl)) (ea_cons ev_c ea_nil)) (by show 2 ≤ 100000; decide)) (fun H10 e10 => ev_var rfl) fun pg r H10 e10 h10 hr10 => ?_
        have e4A := (e48.trans e9).trans e10
        refine q r pg [0 - y, 1] T c2 _ (x4.trans (ExB.of e4A)) (e4A _ _ h2) dr2 hr10 h10 ?_
        rw [hT]
        exact fok_lin n1 n2 hy
      have hul : ((nv (UN n)).length : Int) = ((UN n).length : Int) := by rw [nv_len]
      have hlen1 : decide (((nv (UN n)).length : Int) = 1) = decide ((UN n).length = 1) := by
        rw [nv_len]
        have : (((UN n).length : Int) = 1) ↔ (UN n).length = 1 := by omega
        simp only [this]
      refine q_when (et_is (et_test (ev_eqI (ev_lenN (xs := nv (UN n)) (el_call (ea_cons (ev_var rfl) ea_nil) fun H9 e9 Q' kk E' => ⟨n, rfl, by omega, fun p H10 hp e10 h10 => kk p H10 hp e10 h10⟩)) ev_c)) hlen1) (fun hb H9 e9 => ?_) (fun hb H9 e9 => ?_)
      · have hl := of_decide_eq_true hb
        refine s_asg (ev_sub (i := 0) (j := ev (PHI n) y) ev_c (ev_var rfl)) fun H10 e10 => ?_
        exact fin _ H10 (e9.trans e10) (by rw [if_pos hl])
      · have hl := of_decide_eq_false hb
        exact fin _ H9 e9 (by rw [if_neg hl])
    · have hway := of_decide_eq_false hb
      refine q_asg (ev_add (i := 1) (j := pick % 30) ev_c (ev_mod (i := pick) (j := 30) (ev_var rfl) ev_c (by decide))) fun H6 e6 => ?_
      have hp0 := Int.emod_nonneg pick (show (30 : Int) ≠ 0 by decide)
      have hp30 := Int.emod_lt_of_pos pick (show (0 : Int) < 30 by decide)
      obtain ⟨d0, hd0⟩ : ∃ d0 : Nat, 1 + pick % 30 = (d0 : Int) := ⟨(1 + pick % 30).toNat, by omega⟩
      have hd1 : 1 ≤ d0 := by omega
      have hd30 : d0 ≤ 30 := by omega
      show tCut _ _ _ [some (.int (n : Int)), some (.ref ad), some (.int way), some (.int pick), none, none, some (.int (1 + pick % 30)), none, none] H6
      rw [hd0]
      have e46 := e5.trans e6
      refine q_cut (M := fun σ' H' => ∃ (d : Nat) (y7 : Option V), σ' = [some (.int (n : Int)), some (.ref ad), some (.int way), some (.int pick), none, none, some (.int (d : Int)), y7, none] ∧ Ex H4 H' ∧ 1 ≤ d ∧ d ≤ 30) ?_ fun σ' H7 hM => ?_
      · refine s_when (b := decide (way = 3)) (et_test (ev_eqI (ev_var rfl) ev_c)) (fun hb H7 e7 => ?_) (fun hb H7 e7 => ⟨d0, none, rfl, e46.trans e7, hd1, hd30⟩)
        have hcomp : EvL (tLc (iRng2 (tCons (tC (.int 1)) (tCons (tOp (rI0 fun i j => .int (i + j)) (tVar 0) (tC (.int 1))) tNil))) (gName 8) (tTest (tOp rEq (tOp (rI (fun _ j => 0 < j) fun i j => .int (i % j)) (tVar 0) (tVar 8)) (tC (.int 0)))) (tVar 8) [8])
            [some (.int (n : Int)), some (.ref ad), some (.int way), some (.int pick), none, none, some (.int (d0 : Int)), none, none] H7 (nv (DIV n)) := by
          have h := el_lcR2 (σ := [some (.int (n : Int)), some (.ref ad), some (.int way), some (.int pick), none, none, some (.int (d0 : Int)), none, none]) (H := H7) (j := 8) (vs := [8]) (lo := 1) (n := (n : Int) + 1) (te := tVar 8) (t := tTest (tOp rEq (tOp (rI (fun _ j => 0 < j) fun i j => .int (i % j)) (tVar 0) (tVar 8)) (tC (.int 0)))) (fun i => decide ((n : Int) % (1 + (i : Int)) = 0)) (fun i => .int (1 + (i : Int)))
            (ea_cons ev_c (ea_cons (ev_add (i := (n : Int)) (j := 1) (ev_var (i := 0) rfl) ev_c) ea_nil)) (by omega) (fun x => rfl) (fun i H2 e2 hi => et_test (ev_eqI (ev_mod (i := (n : Int)) (j := 1 + (i : Int)) (ev_var (i := 0) rfl) (ev_var (i := 8) rfl) (by omega)) ev_c)) (fun i H2 e2 hi _ => ev_var rfl)
          have e : ((n : Int) + 1 - 1).toNat = n := by omega
          rw [e, div_given] at h
          exact h
        refine q_asgL hcomp fun ps H8 nps e8 h8 => ?_
        have hdp := div_pos n1 (show n ≤ 60 by omega)
        have hm0 := Int.emod_nonneg pick (show ((nv (DIV n)).length : Int) ≠ 0 by rw [nv_len]; omega)
        have hml := Int.emod_lt_of_pos pick (show (0 : Int) < ((nv (DIV n)).length : Int) by rw [nv_len]; omega)
        obtain ⟨ix, hix⟩ : ∃ ix : Nat, pick % ((nv (DIV n)).length : Int) = (ix : Int) := ⟨(pick % ((nv (DIV n)).length : Int)).toNat, by omega⟩
        have hixl : ix < (DIV n).length := by
          rw [hix, nv_len] at hml
          omega
        obtain ⟨g1, g2⟩ := div_bounds n1 (show n ≤ 60 by omega) hixl
        refine s_asg (ev_ixL (i := (ix : Int)) (ev_var rfl) (ev_to (ev_mod (i := pick) (j := ((nv (DIV n)).length : Int)) (ev_var rfl) (ev_len (ev_var rfl) (sq_of h8)) (by rw [nv_len]; omega)) hix) (sq_of h8) (atI_nat (nv_get hixl))) fun H9 e9 => ⟨(DIV n).getD ix 0, some (.ref ps), rfl, ((e46.trans e7).trans e8).trans e9, g1, by omega⟩
      · obtain ⟨d, y7, rfl, e7, g1, g30⟩ := hM
        -- way 4
        have hd2 : ∃ d2 : Nat, 1 ≤ d2 ∧ d2 ≤ 30 ∧ (if (decide (way = 4) && decide (pick % 8 = 1)) = true then n else d) = d2 := ⟨_, by split <;> omega, by split <;> omega, rfl⟩
        obtain ⟨d2, k1', k30, hd2⟩ := hd2
        refine q_ifAsg (v := .int (d2 : Int)) (b := decide (way = 4) && decide (pick % 8 = 1)) (et_and (et_test (ev_eqI (ev_var rfl) ev_c)) fun _ => et_test (ev_eqI (ev_mod (i := pick) (j := 8) (ev_var rfl) ev_c (by decide)) ev_c)) (fun hb => ?_) (fun hb => ?_) fun H8 e8 => ?_
        · rw [hb, if_pos rfl] at hd2
          rw [← hd2]
          exact ev_var rfl
        · rw [hb, if_neg Bool.false_ne_true] at hd2
          rw [← hd2]
          rfl
        -- ways above 4
        have hq0 := Int.emod_nonneg pick (show (4 : Int) ≠ 0 by decide)
        have hq4 := Int.emod_lt_of_pos pick (show (0 : Int) < 4 by decide)
        obtain ⟨m, hm⟩ : ∃ m : Nat, 2 + pick % 4 = (m : Int) := ⟨(2 + pick % 4).toNat, by omega⟩
        have hm2 : 2 ≤ m := by omega
        have hm5 : m ≤ 5 := by omega
        have hmulE : ∀ (σ0 : L2.St) (Hx : Hp), σ0[0]? = some (some (.int (n : Int))) → σ0[3]? = some (some (.int pick)) → Ev (tOp (rI CMul fun i j => .int (i * j)) (tVar 0) (tOp (rI0 fun i j => .int (i + j)) (tC (.int 2)) (tOp (rI (fun _ j => 0 < j) fun i j => .int (i % j)) (tVar 3) (tC (.int 4))))) σ0 Hx (.int ((n * m : Nat) : Int)) := fun σ0 Hx s0 s3 =>
          ev_to (ev_mul (i := (n : Int)) (j := 2 + pick % 4) (ev_var s0) (ev_add (i := 2) (j := pick % 4) ev_c (ev_mod (i := pick) (j := 4) (ev_var s3) ev_c (by decide))) (.inl (by omega))) (by rw [hm, Int.natCast_mul])
        have ebm : decide (((n * m : Nat) : Int) < 61) = decide (n * m < 61) := by
          have : (((n * m : Nat) : Int) < 61) ↔ n * m < 61 := by omega
          simp only [this]
        have hd3 : ∃ d3 : Nat, d3 ∈ DS n ∧ (if (decide (4 < way) && decide (n * m < 61)) = true then n * m else d2) = d3 := by
          refine ⟨_, ?_, rfl⟩
          unfold DS
          split
          · rename_i hc
            rw [Bool.and_eq_true] at hc
            have hlt := of_decide_eq_true hc.2
            refine List.mem_append_right _ (List.mem_filter.mpr ⟨?_, decide_eq_true hlt⟩)
            have hcase : m = 2 ∨ m = 3 ∨ m = 4 ∨ m = 5 := by omega
            rcases hcase with rfl | rfl | rfl | rfl <;> (simp only [List.mem_cons]; omega)
          · exact List.mem_append_left _ (List.mem_range'_1.mpr ⟨k1', by omega⟩)
        obtain ⟨d3, hds, hd3⟩ := hd3
        show tSeq _ _ _ [some (.int (n : Int)), some (.ref ad), some (.int way), some (.int pick), none, none, some (.int (d2 : Int)), y7, none] H8
        refine q_ifAsg (v := .int (d3 : Int)) (b := decide (4 < way) && decide (n * m < 61)) (et_and (et_test (ev_cmp (f := fun i j => decide (j < i)) (i := way) (j := 4) (ev_var rfl) ev_c)) fun _ => et_is (et_test (ev_cmp (f := fun i j => decide (i < j)) (j := 61) (hmulE _ _ rfl rfl) ev_c)) ebm) (fun hb => ?_) (fun hb => ?_) fun H9 e9 => ?_
        · rw [hb, if_pos rfl] at hd3
          rw [← hd3]
          exact hmulE _ _ rfl rfl
        · rw [hb, if_neg Bool.false_ne_true] at hd3
          rw [← hd3]
          rfl
        obtain ⟨b1, b60⟩ := DS_mem n1 hds
        have e49 := (e7.trans e8).trans e9
        refine s_retCv (ea_cons (ev_var rfl) ea_nil) fun H10 e10 => ⟨d3, rfl, b1, b60, fun pg H11 e11 h11 => ?_⟩
        refine (ev_call (ea_cons (ev_var (i := 0) (v := .int (n : Int)) rfl) (ea_cons (ev_var (i := 6) (v := .int (d3 : Int)) rfl) ea_nil)) fun H4 e4 Q' kk E' => ⟨n, d3, rfl, n1, by omega, b1, b60, kk⟩ : Ev (tCall spMeet [] E0 (tCons (tVar 0) (tCons (tVar 6) tNil))) _ H11 (.int (MEET n d3))) H11 (Ex.refl H11) _ fun H12 e12 => ⟨by show 2 ≤ sizeLine; decide, fun p np => ?_⟩
        have e4A := (((e49.trans e10).trans e11).trans e12).trans (Ex.new np (o := .tup [.ref pg, .int (MEET n d3)]))
        exact q p pg (PHI d3) (MEET n d3) c2 _ (x4.trans (ExB.of e4A)) (e4A _ _ h2) dr2 upd_same (keep_new (e12 _ _ h11) np) (fok_phi n1 n2 hds)
end
end RK
end

section
set_option Elab.async false
set_option linter.all false
set_option maxRecDepth 100000
set_option maxHeartbeats 4000000
namespace RK
open PySem PySem.Spec PyProof.Rows L2 Evl
/-! ### how great the numbers become -/
theorem mem_l1 : ∀ {l : List Int} {x : Int}, x ∈ l → x.natAbs ≤ l1 l
  | [], x, h => by cases h
  | y :: l, x, h => by
    simp only [RK.l1]
    rcases List.mem_cons.mp h with e | e
    · subst e; omega
    · have := mem_l1 e
      omega
theorem l1_zipAdd (c : Int) : ∀ (l g : List Int), l1 (zipAdd c l g) ≤ l1 l + c.natAbs * l1 g
  | [], g => by simp [zipAdd, RK.l1]
  | y :: l, [] => by simp [zipAdd, RK.l1]
  | y :: l, x :: g => by
    have ih := l1_zipAdd c l g
    have h := Int.natAbs_add_le y (c * x)
    rw [Int.natAbs_mul] at h
    simp only [zipAdd, RK.l1, Nat.mul_add]
    omega
theorem l1_rowAdd (c : Int) (g : List Int) : ∀ (k : Nat) (l : List Int), l1 (rowAdd c g k l) ≤ l1 l + c.natAbs * l1 g
  | 0, l => l1_zipAdd c l g
  | _ + 1, [] => by simp [rowAdd, RK.l1]
  | k + 1, y :: l => by
    have ih := l1_rowAdd c g k l
    simp only [rowAdd, RK.l1]
    omega
theorem l1_take (l : List Int) : ∀ m, l1 (l.take m) ≤ l1 l := by
  induction l with
  | nil => intro m; simp [RK.l1]
  | cons x l ih =>
    intro m
    cases m with
    | zero => simp [RK.l1]
    | succ m =>
      have := ih m
      simp only [List.take_succ_cons, RK.l1]
      omega
theorem l1_times (f g : List Int) : l1 (timesL f g) ≤ l1 f * l1 g := by
  unfold timesL
  split
  · simp [RK.l1]
  · unfold trimL
    refine Nat.le_trans (l1_take _ _) ?_
    have key : ∀ k, k ≤ f.length → l1 (eFold (fun i x t => rowAdd x g i t) f (zeros (f.length + g.length - 1)) k) ≤ l1 (f.take k) * l1 g := by
      intro k
      induction k with
      | zero => intro _; simp [eFold, l1_zeros]
      | succ k ih =>
        intro hk
        have h1 := l1_rowAdd (f.getD k 0) g k (eFold (fun i x t => rowAdd x g i t) f (zeros (f.length + g.length - 1)) k)
        have h2 := ih (by omega)
        show l1 (rowAdd (f.getD k 0) g k (eFold _ f _ k)) ≤ _
        rw [l1_take_succ f k (by omega), Nat.add_mul]
        omega
    have := key f.length (Nat.le_refl _)
    rw [List.take_length] at this
    exact this
theorem len_times (f g : List Int) : (timesL f g).length ≤ f.length + g.length := by
  unfold timesL
  split
  · simp
  · unfold trimL
    rw [List.length_take, eFold_len _ _ (fun i x t => len_rowAdd x g i t), len_zeros]
    omega
theorem l1_sumRow (n i : Nat) (x : Int) (y t : List Int) : ∀ k, k ≤ y.length → l1 (sumRow n i x y t k) ≤ l1 t + x.natAbs * l1 (y.take k)
  | 0, _ => by simp [sumRow, eFold, RK.l1]
  | k + 1, h => by
    have ih := l1_sumRow n i x y t k (by omega)
    have h1 := l1_addAt (x * y.getD k 0) (sumRow n i x y t k) ((i + k) % n)
    rw [Int.natAbs_mul] at h1
    show l1 (addAt (sumRow n i x y t k) ((i + k) % n) (x * y.getD k 0)) ≤ _
    rw [l1_take_succ y k (by omega), Nat.mul_add]
    omega
theorem l1_sumTimes (x y : List Int) : l1 (sumTimes x y) ≤ l1 x * l1 y := by
  have key : ∀ k, k ≤ x.length → l1 (eFold (fun i u t => sumRow x.length i u y t y.length) x (zeros x.length) k) ≤ l1 (x.take k) * l1 y := by
    intro k
    induction k with
    | zero => intro _; simp [eFold, l1_zeros]
    | succ k ih =>
      intro hk
      have h1 := l1_sumRow x.length k (x.getD k 0) y (eFold (fun i u t => sumRow x.length i u y t y.length) x (zeros x.length) k) y.length (Nat.le_refl _)
      have h2 := ih (by omega)
      rw [List.take_length] at h1
      show l1 (sumRow x.length k (x.getD k 0) y (eFold _ x _ k) y.length) ≤ _
      rw [l1_take_succ x k (by omega), Nat.add_mul]
      omega
  have := key x.length (Nat.le_refl _)
  rw [List.take_length] at this
  exact this
theorem l1_ledL (s : List Int) (k : Nat) : l1 (ledL s k) ≤ l1 s := by
  have key : ∀ j, j ≤ s.length → l1 (eFold (fun j v t => addAt t (j * k % s.length) v) s (zeros s.length) j) ≤ l1 (s.take j) := by
    intro j
    induction j with
    | zero => intro _; simp [eFold, l1_zeros]
    | succ j ih =>
      intro hk
      have h1 := l1_addAt (s.getD j 0) (eFold (fun j v t => addAt t (j * k % s.length) v) s (zeros s.length) j) (j * k % s.length)
      have h2 := ih (by omega)
      show l1 (addAt (eFold _ s _ j) (j * k % s.length) (s.getD j 0)) ≤ _
      rw [l1_take_succ s j (by omega)]
      omega
  have := key s.length (Nat.le_refl _)
  rw [List.take_length] at this
  exact this
theorem l1_wheelOff (n p j : Nat) (c : Int) (t : List Int) : l1 (wheelOff n p j c t) ≤ l1 t + p * c.natAbs := by
  have key : ∀ k, l1 (nIter (fun k t => addAt t ((j + k * (n / p)) % n) (-c)) t k) ≤ l1 t + k * c.natAbs := by
    intro k
    induction k with
    | zero => simp [nIter]
    | succ k ih =>
      have h1 := l1_addAt (-c) (nIter (fun k t => addAt t ((j + k * (n / p)) % n) (-c)) t k) ((j + k * (n / p)) % n)
      rw [Int.natAbs_neg] at h1
      show l1 (addAt (nIter _ t k) ((j + k * (n / p)) % n) (-c)) ≤ _
      rw [Nat.add_mul]
      omega
  exact key p
theorem getD_l1 (t : List Int) (j : Nat) : (t.getD j 0).natAbs ≤ l1 t := by
  by_cases h : j < t.length
  · exact mem_l1 (getD_mem h)
  · rw [List.getD_eq_getElem?_getD, List.getElem?_eq_none (by omega)]
    simp
theorem l1_gStep (n p wide top j : Nat) (t : List Int) (hp : p ≤ 31) : l1 (gStep n p wide top j t) ≤ 32 * l1 t := by
  unfold gStep
  split
  · have h1 := l1_wheelOff n p j (t.getD j 0) t
    have h2 := getD_l1 t j
    have h3 := Nat.mul_le_mul hp h2
    omega
  · omega
theorem l1_gRow (n : Nat) (po : Nat × Nat) (t : List Int) (hp : po.1 ≤ 31) : l1 (gRow n po t) ≤ 32 ^ n * l1 t := by
  have key : ∀ k, l1 (nIter (gStep n po.1 (po.1 ^ po.2) (po.1 ^ po.2 - po.1 ^ po.2 / po.1)) t k) ≤ 32 ^ k * l1 t := by
    intro k
    induction k with
    | zero => simp [nIter]
    | succ k ih =>
      have h1 := l1_gStep n po.1 (po.1 ^ po.2) (po.1 ^ po.2 - po.1 ^ po.2 / po.1) k (nIter (gStep n po.1 (po.1 ^ po.2) (po.1 ^ po.2 - po.1 ^ po.2 / po.1)) t k) hp
      have h2 := Nat.mul_le_mul_left 32 ih
      show l1 (gStep _ _ _ _ k (nIter _ t k)) ≤ _
      have e : 32 ^ (k + 1) * l1 t = 32 * (32 ^ k * l1 t) := by rw [Nat.pow_succ]; grind
      rw [e]
      exact Nat.le_trans h1 h2
  exact key n
theorem l1_gRest (n : Nat) : ∀ (parts : List (Nat × Nat)) (s : List Int), (∀ po ∈ parts, po.1 ≤ 31) → l1 (gRest n parts s) ≤ (32 ^ n) ^ parts.length * l1 s
  | [], s, _ => by simp [gRest]
  | po :: r, s, h => by
    have ih := l1_gRest n r (gRow n po s) fun q hq => h q (List.mem_cons_of_mem _ hq)
    have h1 := l1_gRow n po s (h po List.mem_cons_self)
    have h2 := Nat.mul_le_mul_left ((32 ^ n) ^ r.length) h1
    have e : (32 ^ n) ^ (po :: r).length * l1 s = (32 ^ n) ^ r.length * (32 ^ n * l1 s) := by rw [List.length_cons, Nat.pow_succ]; grind
    rw [e]
    exact Nat.le_trans ih h2
theorem l1_ground {n : Nat} (h1 : 1 ≤ n) (h2 : n ≤ 30) (s : List Int) : l1 (gRest n (PART n) s) ≤ 2 ^ 450 * l1 s := by
  have hrk := each30 t_rows h1 h2
  unfold rowsOk at hrk
  rw [Bool.and_eq_true] at hrk
  have hlen := of_decide_eq_true hrk.2
  have h := l1_gRest n (PART n) s fun po hpo => by
    have hck := List.all_eq_true.mp hrk.1 po hpo
    simp only [Bool.and_eq_true, decide_eq_true_eq] at hck
    omega
  refine Nat.le_trans h (Nat.mul_le_mul_right _ ?_)
  have e : (32 : Nat) = 2 ^ 5 := rfl
  rw [e, ← Nat.pow_mul, ← Nat.pow_mul]
  refine Nat.pow_le_pow_right (by decide) ?_
  have h3 : n * (PART n).length ≤ 30 * 3 := Nat.mul_le_mul h2 hlen
  omega
theorem l1_norm {n : Nat} (h1 : 1 ≤ n) (h2 : n ≤ 30) (s : List Int) (hs : l1 s ≤ 2 ^ 90) (ks : List Nat) : l1 (normL n s ks) ≤ 2 ^ (540 * ks.length) := by
  have key : ∀ (ks : List Nat) (t : List Int) (b : Nat), l1 t ≤ 2 ^ b → l1 (ks.foldl (normStep n s) t) ≤ 2 ^ (b + 540 * ks.length) := by
    intro ks
    induction ks with
    | nil => intro t b h; simpa using h
    | cons k ks ih =>
      intro t b h
      have e1 : l1 (normStep n s t k) ≤ 2 ^ (b + 540) := by
        unfold normStep
        refine Nat.le_trans (l1_ground h1 h2 _) ?_
        have a1 := l1_sumTimes t (ledL s k)
        have a2 := Nat.mul_le_mul h (Nat.le_trans (l1_ledL s k) hs)
        have a3 := Nat.mul_le_mul_left (2 ^ 450) (Nat.le_trans a1 a2)
        have e : 2 ^ (b + 540) = 2 ^ 450 * (2 ^ b * 2 ^ 90) := by
          rw [← Nat.pow_add, ← Nat.pow_add]
          congr 1
          omega
        rw [e]
        exact a3
      have := ih (normStep n s t k) (b + 540) e1
      rw [List.foldl_cons, List.length_cons]
      have e : b + 540 * (ks.length + 1) = b + 540 + 540 * ks.length := by omega
      rw [e]
      exact this
  have := key ks (1 :: zeros (n - 1)) 0 (by simp [RK.l1, l1_zeros])
  rw [Nat.zero_add] at this
  exact this
theorem norm_fits {s : List Int} (h1 : 1 ≤ s.length) (h2 : s.length ≤ 30) (hs : l1 s ≤ 2 ^ 90) : NormFits s := by
  intro i k hik u hu v hv
  have a1 := Nat.le_trans (mem_l1 hu) (l1_norm h1 h2 s hs ((UN s.length).take i))
  have a2 := Nat.le_trans (mem_l1 hv) (Nat.le_trans (l1_ledL s k) hs)
  have hl : ((UN s.length).take i).length ≤ 30 := by
    have := UN_len s.length
    rw [List.length_take]
    omega
  generalize ((UN s.length).take i).length = m at a1 hl
  have b1 : u.natAbs < 2 ^ (540 * m + 1) := Nat.lt_of_le_of_lt a1 (Nat.pow_lt_pow_right (by decide) (by omega))
  have b2 : v.natAbs < 2 ^ 91 := Nat.lt_of_le_of_lt a2 (Nat.pow_lt_pow_right (by decide) (by decide))
  exact wide_mul b1 b2 (by omega) (by decide) (by omega)
end RK
end

section
set_option Elab.async false
set_option linter.all false
set_option maxRecDepth 100000
set_option maxHeartbeats 4000000
namespace RK
open PySem PySem.Spec PyProof.Rows L2 Evl
section
variable {K : PySem.W.Frag} {σ : L2.St} {H : Hp} {ta tb : TE} {D : Ends} {tu tz : TS} {g : TG} {v : V}
theorem ev_isi {i : Int} {c : String} {b : Bool} (ha : Ev ta σ H (.int i)) (hk : PySem.W.kitOne K (.type "int") (.type c) = some b) : Ev (tCB (rIsi K) (tCons ta (tCons (tC (.ty c)) tNil))) σ H (.bl b) := fun H1 e Q q =>
  ha H1 e _ fun H2 e2 => ⟨.int i, .ty c, .type "int", .type c, b, rfl, .ty c, .base (.int i), hk, q H2 e2⟩
theorem ev_opC {sp : Sp} {ta : TA} {tb : TE} {r : R2} {vs : List V} (h : EvA ta σ H vs) (k : ∀ H1, Ex H H1 → ∀ Q : VK, (∀ H2, Ex H1 H2 → Q v H2) → sp (vs ++ []) H1 (fun x H2 => tb σ H2 fun y H3 => r x y H3 Q) E0) : Ev (tOp r (tCall sp [] E0 ta) tb) σ H v := fun H0 e0 Q q =>
  h H0 e0 _ fun H1 e1 => k H1 (e0.trans e1) Q fun H2 e2 => q H2 (e1.trans e2)
/-- the turns of a for over range(n) -/
def ForRg (n : Nat) (g : TG) (tb : TS) (D : Ends) (σ : L2.St) (H : Hp) : Prop :=
  ∃ W : Nat → Nat → L2.St → Hp → Prop, (∃ m, W 0 m σ H) ∧ ∀ i m σ H, W i m σ H →
      ((Itr 0 n).stop i H ∧ D.nx σ H) ∨ ((Itr 0 n).go i H ∧ ∃ N : L2.St → Hp → Prop, (∀ σ' H', N σ' H' → ∃ m', m' < m ∧ W (i + 1) m' σ' H') ∧ ∀ x H', (Itr 0 n).yld i H x H' → g x σ H' fun σ2 H2 => tb { D with nx := N, ct := N, bk := D.nx } σ2 H2)
theorem forRg_of {n : Nat} (Pv : Nat → L2.St → Hp → Prop) (h0 : Pv 0 σ H)
    (hs : ∀ i σ H, i < n → Pv i σ H → g (.int (0 + (i : Int))) σ H fun σ2 H2 => tu { D with nx := Pv (i + 1), ct := Pv (i + 1), bk := D.nx } σ2 H2) (hd : ∀ σ H, Pv n σ H → D.nx σ H) : ForRg n g tu D σ H := for_range Pv h0 hs hd
theorem q_forRN {sp : Sp} {ta : TA} {vs : List V} {z1 z4 : Int} (h : EvA ta σ H vs) (k : ∀ H1, Ex H H1 → sp (vs ++ []) H1 (fun x H2 => tC (.int z4) σ H2 fun y H3 => rI (fun _ j => 0 < j) (fun i j => .int (i % j)) x y H3 fun v H4 => rI0 (fun i j => .int (i + j)) (.int z1) v H4 fun u H5 => ∃ j : Int, [u] = [.int j] ∧ -(2 ^ 62) ≤ j ∧ j < 2 ^ 62 ∧ ForRg j.toNat g tu { D with nx := tz D } σ H5) E0) :
    tSeq (tFor (iRng1 (tCons (tOp (rI0 fun i j => .int (i + j)) (tC (.int z1)) (tOp (rI (fun _ j => 0 < j) fun i j => .int (i % j)) (tCall sp [] E0 ta) (tC (.int z4)))) tNil)) g tu) tz D σ H :=
  h H (Ex.refl H) _ fun H1 e => k H1 e
end
theorem str_ne : ("not" : Str) ≠ "nought" := by decide +kernel
abbrev sLaw : Stmt := topS 37
abbrev nLaw : List Str := ["_law_script", "_law_cell", "_law_draws_here", "_law_n", "_law_f", "_law_due", "_law_turn", "_law_g", "_law_number", "_law_laid", "_law_k", "_law_found"]
theorem scLaw : FnScope nLaw ["_law_script"] (defScope sLaw) := ⟨rfl, rfl, rfl, by decide +kernel, rfl, by decide +kernel, by decide +kernel⟩
def spLaw (K : PySem.W.Frag) : Sp := fun vs H Q _ => ∃ (a : Addr) (ns : List Int), vs = [.ref a] ∧ SqL K H a (iv ns) ∧ ns.length ≤ 63 ∧ ∀ H', Q (.bl true) H'
section
variable {P : Program} {w : World} {K : PySem.W.Frag} {mg : Str → Option Value} {base : Heap}
theorem ok_law {fa : Addr} {fd : FuncData} (F : Fun K "law" "law" sLaw fa fd) (B : Free mg) (GD : Has P w K mg base 1 "_law_draws" ["_law_cell"] spDraws) (GC : Has P w K mg base 2 "_law_count" ["_law_draws_here"] spCount) (GN : Has P w K mg base 1 "_law_next" ["_law_draws_here"] spNext)
    (GF : Has P w K mg base 5 "_law_factor" ["_law_n", "_law_draws_here"] spFactor) (GT : Has P w K mg base 2 "times" ["f", "g"] (spTimes K)) (GM : Has P w K mg base 3 "norm" ["some"] (spNorm K)) (GO : Has P w K mg base 3 "nought" ["some"] (spNought K)) : FnOk P w K mg base CX0 6 fa fd ["_law_script"] (spLaw K) := by
  refine F.ok scLaw (fun vs H Q E h => ?_) (fun cdv A outer s H vs Q E hr h => ?_)
  · obtain ⟨a, ns, rfl, _⟩ := h
    rfl
  · obtain ⟨a, ns, rfl, hS, hns, q⟩ := h
    refine ⟨_, pss_cons (ps_for PassesOwn.never rfl (pi_list (pe_op op_cat (pe_slice sl_list (pv 0) po_none (po_some pe_int)) (pe_lst (pa_cons pe_int pa_nil)))) (pg_name (i := 1) scLaw.nd rfl (.inl rfl))
        (pss_cons (ps_set (i := 2) scLaw.nd rfl (.inl rfl) (pe_callD GD (hr.mono (by decide)) (by rfl) (pa_cons (pv 1) pa_nil)))
        (pss_cons (ps_set (i := 3) scLaw.nd rfl (.inl rfl) (pe_callD GC (hr.mono (by decide)) (by rfl) (pa_cons (pv 2) pa_nil)))
        (pss_cons (ps_set (i := 4) scLaw.nd rfl (.inl rfl) (pe_lst (pa_cons pe_int pa_nil)))
        (pss_cons (ps_set (i := 5) scLaw.nd rfl (.inl rfl) pe_int)
        (pss_cons (ps_for PassesOwn.never rfl (pi_range1 (by rfl) B.range (pa_cons (pe_op op_add pe_int (pe_op op_mod (pe_callD GN (hr.mono (by decide)) (by rfl) (pa_cons (pv 2) pa_nil)) pe_int)) pa_nil)) (pg_name (i := 6) scLaw.nd rfl (.inl rfl))
          (pss_cons (ps_asg (pe_callD GF hr (by rfl) (pa_cons (pv 3) (pa_cons (pv 2) pa_nil))) (pg_tup rfl (pgs_cons (pg_name (i := 7) scLaw.nd rfl (.inl rfl)) (pgs_cons (pg_name (i := 8) scLaw.nd rfl (.inl rfl)) pgs_nil))))
          (pss_cons (ps_set (i := 4) scLaw.nd rfl (.inl rfl) (pe_callD GT (hr.mono (by decide)) (by rfl) (pa_cons (pv 4) (pa_cons (pv 7) pa_nil))))
          (pss_one (ps_set (i := 5) scLaw.nd rfl (.inl rfl) (pe_op op_mulW (pv 5) (pv 8)))))))
        (pss_cons (ps_set (i := 9) scLaw.nd rfl (.inl rfl) (pe_op op_rep (pe_lst (pa_cons pe_int pa_nil)) (pv 3)))
        (pss_cons (ps_for PassesOwn.never rfl (pi_enum (by rfl) B.enumerate (pa_cons (pv 4) pa_nil)) (pg_tup rfl (pgs_cons (pg_name (i := 10) scLaw.nd rfl (.inl rfl)) (pgs_cons (pg_name (i := 8) scLaw.nd rfl (.inl rfl)) pgs_nil)))
          (pss_one (ps_asg (pe_op op_add (pe_ix ix_list (pv 9) (pe_op op_mod (pv 10) (pv 3)) (fun _ _ => rfl)) (pv 8)) (pg_sub (pv 9) (pe_op op_mod (pv 10) (pv 3)) set_list))))
        (pss_cons (ps_set (i := 11) scLaw.nd rfl (.inl rfl) (pe_callD GM (hr.mono (by decide)) (by rfl) (pa_cons (pv 9) pa_nil)))
        (pss_cons (ps_if (pw_or (pt_not (pt_val (pe_callB call_isi (by rfl) B.isinstance (by decide +kernel) (pa_cons (pv 11) (pa_cons (pe_bltn (v := .ty "int") (by rfl) B.int (by decide +kernel) rfl) pa_nil)))))
            (pw_or (pt_val (pe_callB call_isi (by rfl) B.isinstance (by decide +kernel) (pa_cons (pv 11) (pa_cons (pe_bltn (v := .ty "bool") (by rfl) B.bool (by decide +kernel) rfl) pa_nil))))
            (pw_or1 (pt_cmpR op_ne (pv 11) (pv 5) (nomark _))))).pt (pss_one (ps_ret pe_bl)) pss_nil)
        (pss_one (ps_if (pt_cmpR op_ne (pe_cmpR op_eq (pe_ix ix_tup (pe_callD GO (hr.mono (by decide)) (by rfl) (pa_cons (pv 9) pa_nil)) pe_int (fun _ _ => rfl)) pe_str (nomark _)) (pe_cmpR op_eq (pv 5) pe_int (nomark _)) (nomark _)) (pss_one (ps_ret pe_bl)) pss_nil))))))))))))
      (pss_one (ps_ret pe_bl)), ?_⟩
    have hcells : EvL (tOp rCat (tSl (rSlL K) (tVar 0) tNoPart (tPart (tC (.int 4)))) (tLst (tCons (tC (.int 0)) tNil))) [some (.ref a), none, none, none, none, none, none, none, none, none, none, none] H (iv (ns.take 4 ++ [0])) := by
      have h1 : EvL (tSl (rSlL K) (tVar 0) tNoPart (tPart (tC (.int 4)))) [some (.ref a), none, none, none, none, none, none, none, none, none, none, none] H (iv (ns.take 4)) := by
        have h := el_sl (K := K) (σ := [some (.ref a), none, none, none, none, none, none, none, none, none, none, none]) (H := H) (ev_var (i := 0) rfl) eo_none (eo_some (ev_c (v := .int 4))) hS
        have e : cutV (iv ns) none (some 4) = iv (ns.take 4) := by
          unfold cutV
          rw [HT.sIx_none, show HT.sIx (iv ns).length (iv ns).length (some 4) = min 4 (iv ns).length from HT.sIx_nat _ _ 4, List.drop_zero, Nat.sub_zero, ← List.map_take, iv_len]
          congr 1
          by_cases h4 : 4 ≤ ns.length
          · rw [Nat.min_eq_left h4]
          · rw [Nat.min_eq_right (by omega), List.take_length, List.take_of_length_le (by omega)]
        rw [e] at h
        exact h
      have h2 := el_cat h1 (el_lst (ea_cons (ev_c (v := .int 0)) ea_nil) (by show 1 ≤ 100000; decide)) (by rw [iv_len, List.length_take]; show min 4 ns.length + 1 ≤ 100000; omega)
      have e : iv (ns.take 4 ++ [0]) = iv (ns.take 4) ++ [V.int 0] := by
        unfold iv
        rw [List.map_append]
        rfl
      rw [e]
      exact h2
    generalize ns.take 4 ++ [0] = cs at hcells
    refine q_forNLn (xs := iv cs) hcells
      (fun p i σ' H' => ∃ y1 y2 y3 y4 y5 y6 y7 y8 y9 y10 y11, σ' = [some (.ref a), y1, y2, y3, y4, y5, y6, y7, y8, y9, y10, y11] ∧ H' p = some (.lst (iv cs)))
      (fun p H1 hp e1 h1 => ⟨none, none, none, none, none, none, none, none, none, none, none, rfl, h1⟩) (fun p i σ' H' _ hP => ?_) (fun p i x σ' H' hx hP => ?_) (fun p σ' H' hP => ?_)
    · obtain ⟨_, _, _, _, _, _, _, _, _, _, _, _, hp⟩ := hP
      exact sq_of hp
    · obtain ⟨y1, y2, y3, y4, y5, y6, y7, y8, y9, y10, y11, rfl, hp⟩ := hP
      have hi : i < cs.length := by
        have := (List.getElem?_eq_some_iff.mp hx).1
        rw [iv_len] at this
        exact this
      rw [iv_get hi] at hx
      obtain rfl := Option.some.inj hx
      generalize cs.getD i 0 = cell
      -- the draws and n
      refine q_asgO (ea_cons (ev_var rfl) ea_nil) fun H1 e1 => ⟨cell, rfl, fun ad H2 c0 b nad e2 h2 dr0 => ?_⟩
      have nad' : H' ad = none := fresh_back e1 nad
      refine q_asgO (ea_cons (ev_var rfl) ea_nil) fun H3 e3 => ⟨ad, c0, 0, b, rfl, e3 _ _ h2, dr0, by omega, by omega, fun n c1 H4 n1 n2 dr1 x1 h4 => ?_⟩
      have e4 : Ex H' H4 := x1.ex ((e1.trans e2).trans e3) nad'
      refine q_asgL (el_lst (ea_cons ev_c ea_nil) (by show 1 ≤ 100000; decide)) fun ft H5 nft e5 h5 => ?_
      refine q_asg ev_c fun H6 e6 => ?_
      have nfa : ft ≠ ad := (ne_of_none h4 nft).symm
      refine q_forRN (ea_cons (ev_var rfl) ea_nil) fun H7 e7 => ⟨ad, c1, 0 + 1, b, rfl, e7 _ _ (e6 _ _ (e5 _ _ h4)), dr1, by omega, by omega, fun z c2 H8 z0 z9 dr2 x2 h8 => ⟨z, 4, rfl, rfl, (by show (0 : Int) < 4; decide), 1, z % 4, rfl, rfl, 1 + z % 4, rfl, by omega, by omega, ?_⟩⟩
      have hz0 := Int.emod_nonneg z (show (4 : Int) ≠ 0 by decide)
      have hz4 := Int.emod_lt_of_pos z (show (0 : Int) < 4 by decide)
      obtain ⟨m, hm⟩ : ∃ m : Nat, (1 + z % 4).toNat = m := ⟨_, rfl⟩
      have hm4 : m ≤ 4 := by omega
      rw [hm]
      have e8 : Ex H' H8 := x2.ex (((e4.trans e5).trans e6).trans e7) nad'
      have h8f : H8 ft = some (.lst (iv [1])) := x2 _ _ nfa (e7 _ _ (e6 _ _ h5))
      refine forRg_of (fun j σ2 H9 => ∃ (ft : Addr) (f : List Int) (due : Int) (y6 y7 y8 : Option V) (c : Int), σ2 = [some (.ref a), some (.int cell), some (.ref ad), some (.int (n : Int)), some (.ref ft), some (.int due), y6, y7, y8, y9, y10, y11] ∧ Ex H' H9 ∧ H9 ad = some (dl c (2 + 2 * (j : Int)) b) ∧ Dr c b ∧ ft ≠ ad ∧ H9 ft = some (.lst (iv f)) ∧
          Good n f due ∧ f.length ≤ 1 + 61 * j ∧ l1 f ≤ 2 ^ (21 * j) ∧ due.natAbs < 2 ^ (700 * j + 1))
        ⟨ft, [1], 1, y6, y7, y8, c2, rfl, e8, h8, dr2, nfa, h8f, Good.one, by decide, by decide, by decide⟩ (fun j σ2 H9 hj hP => ?_) (fun σ2 H9 hP => ?_)
      · obtain ⟨ft, f, due, y6, y7, y8, c, rfl, e9, h9, dr9, nfa, hf, good, hlen, hl1, hdue⟩ := hP
        refine ⟨_, rfl, .ref ad, rfl, n, ad, c, 2 + 2 * (j : Int), b, rfl, n1, n2, h9, dr9, by omega, by omega, fun pt pg gg num c' H10 x10 h10 dr10 hpt hpg fok => ?_⟩
        refine ⟨pt, _, rfl, st_of hpt, rfl, _, _, rfl, _, _, rfl, rfl, ?_⟩
        have hf10 : H10 ft = some (.lst (iv f)) := x10 _ _ nfa hf
        have e10 : Ex H' H10 := x10.ex e9 nad'
        refine q_asgL (xs := iv (timesL f gg)) (el_call (ea_cons (ev_var rfl) (ea_cons (ev_var rfl) ea_nil)) fun H11 e11 Q' k E' => ⟨ft, pg, f, gg, rfl, sq_of (e11 _ _ hf10), sq_of (e11 _ _ hpg), ?hlen, ?hmul, fun p H12 hp e12 h12 => k p H12 hp e12 h12⟩) fun ft2 H11 nft2 e11 h11 => ?cont
        case hlen =>
          have := fok.len
          omega
        case hmul =>
          intro u hu v hv
          have b1 : u.natAbs < 2 ^ (21 * j + 1) := Nat.lt_of_le_of_lt (Nat.le_trans (mem_l1 hu) hl1) (Nat.pow_lt_pow_right (by decide) (by omega))
          have b2 : v.natAbs < 2 ^ 22 := Nat.lt_of_le_of_lt (Nat.le_trans (mem_l1 hv) fok.l1) (Nat.pow_lt_pow_right (by decide) (by decide))
          exact wide_mul b1 b2 (by omega) (by decide) (by omega)
        case cont =>
          refine s_asg (v := .int (due * num)) (ev_mulW (ev_var rfl) (ev_var rfl) (wide_mul hdue fok.num (by omega) (by decide) (by omega))) fun H12 e12 => ?_
          have e1012 := e11.trans e12
          refine ⟨ft2, timesL f gg, due * num, some (.int (0 + (j : Int))), some (.ref pg), some (.int num), c', rfl, e10.trans e1012, ?_, dr10, (ne_of_none h10 nft2).symm, e12 _ _ h11, good.mul fok.good fun y => ev_timesL y f gg, ?_, ?_, ?_⟩
          · have ek : (2 : Int) + 2 * (j : Int) + 2 = 2 + 2 * ((j + 1 : Nat) : Int) := by omega
            rw [e1012 _ _ h10, ek]
          · have h1 := len_times f gg
            have h2 := fok.len
            omega
          · refine Nat.le_trans (l1_times f gg) ?_
            have h1 := Nat.mul_le_mul hl1 fok.l1
            rw [← Nat.pow_add] at h1
            have e : 21 * (j + 1) = 21 * j + 21 := by omega
            rw [e]
            exact h1
          · have h1 := wide_lt hdue fok.num
            have e : 700 * (j + 1) + 1 = 700 * j + 1 + 700 := by omega
            rw [e]
            exact h1
      · obtain ⟨ft, f, due, y6, y7, y8, c, rfl, e9, h9, dr9, nfa, hf, good, hlen, hl1, hdue⟩ := hP
        -- laid round n
        refine q_asgL (el_zeros (k := n) (ev_var rfl) (by omega) (by omega) (by omega)) fun lt H10 nlt e10 h10 => ?_
        have nltH : H' lt = none := fresh_back e9 nlt
        have nlf : ft ≠ lt := ne_of_none hf nlt
        refine q_forE (ev_var rfl) (sq_of (e10 _ _ hf)) (fun j σ2 H11 => ∃ y8 y10, σ2 = [some (.ref a), some (.int cell), some (.ref ad), some (.int (n : Int)), some (.ref ft), some (.int due), y6, y7, y8, some (.ref lt), y10, y11] ∧ Ex H' H11 ∧ H11 ft = some (.lst (iv f)) ∧ H11 lt = some (.lst (iv (eFold (fun k v t => addAt t (k % n) v) f (zeros n) j))))
          (fun H11 e11 => ⟨y8, y10, rfl, (e9.trans e10).trans e11, e11 _ _ (e10 _ _ hf), e11 _ _ h10⟩) (fun j σ2 H11 _ hP => ?_) (fun j σ2 H11 T o hP nT => ?_) (fun j σ2 H11 hj hP => ?_) (fun σ2 H11 hP => ?_)
        · obtain ⟨_, _, _, _, hf11, _⟩ := hP
          exact sq_of hf11
        · obtain ⟨y8, y10, rfl, e11, hf11, hl11⟩ := hP
          exact ⟨y8, y10, rfl, e11.trans (Ex.new nT), keep_new hf11 nT, keep_new hl11 nT⟩
        · obtain ⟨y8, y10, rfl, e11, hf11, hl11⟩ := hP
          have hel : (eFold (fun k v t => addAt t (k % n) v) f (zeros n) j).length = n := by rw [eFold_len _ _ (fun k v t => len_addAt v t _), len_zeros]
          have hjn : j % n < n := Nat.mod_lt _ (by omega)
          have hmod : ∀ (σ0 : L2.St) (Hx : Hp), σ0[10]? = some (some (.int (j : Int))) → σ0[3]? = some (some (.int (n : Int))) → Ev (tOp (rI (fun _ j => 0 < j) fun i j => .int (i % j)) (tVar 10) (tVar 3)) σ0 Hx (.int ((j % n : Nat) : Int)) := fun σ0 Hx s10 s3 =>
            ev_to (ev_mod (i := (j : Int)) (j := (n : Int)) (ev_var s10) (ev_var s3) (by omega)) (Int.natCast_emod j n).symm
          refine s_setI (k := j % n) (b := (eFold (fun k v t => addAt t (k % n) v) f (zeros n) j).getD (j % n) 0 + f.getD j 0) hl11 (ev_add (ev_ixL (ev_var rfl) (hmod _ _ rfl rfl) (sq_of hl11) (iv_at (i := j % n) rfl (by rw [hel]; exact hjn))) (ev_var rfl)) (ev_var rfl) (hmod _ _ rfl rfl) (by rw [hel]; exact hjn) fun H12 e12 => ?_
          refine ⟨_, _, rfl, (e11.trans e12).mut nltH, ?_, ?_⟩
          · rw [upd_ne nlf]
            exact e12 _ _ hf11
          · rw [upd_same, ← addAt_set _ _ _ (by rw [hel]; exact hjn)]
            rfl
        · obtain ⟨y8, y10, rfl, e11, hf11, hl11⟩ := hP
          have hll : H11 lt = some (.lst (iv (layL n f))) := hl11
          have hlayl := len_layL n f
          obtain ⟨hnorm, hzero⟩ := main n1 n2 good
          have hl1s : l1 (layL n f) ≤ 2 ^ 90 := Nat.le_trans (l1_layL n f) (Nat.le_trans hl1 (Nat.pow_le_pow_right (by decide) (by omega)))
          generalize layL n f = L at hll hlayl hnorm hzero hl1s
          refine q_asg (v := .int due) (ev_call (ea_cons (ev_var rfl) ea_nil) fun H12 e12 Q' k E' => ⟨lt, L, rfl, sq_of (e12 _ _ hll), by omega, by omega, norm_fits (by omega) (by omega) hl1s, fun H13 e13 => ?_⟩) fun H12 e12 => ?_
          · have hd0 : (normL L.length L (UN L.length)).getD 0 0 = due := by
              rw [hlayl, hnorm]
              rfl
            rw [hd0]
            exact k H13 e13
          refine q_when (b := false) (et_is (et_or (et_not (et_B (ev_isi (K := K) (i := due) (c := "int") (b := true) (ev_var rfl) (kit_ty (by decide +kernel))))) fun _ => et_or (et_B (ev_isi (K := K) (i := due) (c := "bool") (b := false) (ev_var rfl) (kit_ty (by decide +kernel)))) fun _ => et_test (ev_neI (i := due) (j := due) (ev_var rfl) (ev_var rfl))) ?_) (fun hb => by cases hb) (fun hb H13 e13 => ?_)
          · rw [decide_eq_true (rfl : due = due)]
            rfl
          have hleft : Ev (tOp rEq (tOp (rIxT K) (tCall (spNought K) [] E0 (tCons (tVar 9) tNil)) (tC (.int 0))) (tC (.str "nought"))) [some (.ref a), some (.int cell), some (.ref ad), some (.int (n : Int)), some (.ref ft), some (.int due), y6, y7, y8, some (.ref lt), y10, some (.int due)] H13 (.bl (decide (due = 0))) := by
            have h := ev_op (r := rEq) (ta := tOp (rIxT K) (tCall (spNought K) [] E0 (tCons (tVar 9) tNil)) (tC (.int 0))) (tb := tC (.str "nought")) (σ := [some (.ref a), some (.int cell), some (.ref ad), some (.int (n : Int)), some (.ref ft), some (.int due), y6, y7, y8, some (.ref lt), y10, some (.int due)]) (H := H13) (x := .str (if gRest n (PART n) L = zeros n then "nought" else "not")) (y := .str "nought")
              (ev_opC (ea_cons (ev_var (i := 9) (v := .ref lt) rfl) ea_nil) fun H14 e14 Q' k => ⟨lt, L, rfl, sq_of (e14 _ _ (e13 _ _ (e12 _ _ hll))), by omega, by omega, fun p xs H15 e15 h15 => ⟨p, _, 0, _, rfl, rfl, st_of h15, atI_nat (j := 0) rfl, by rw [hlayl]; exact k H15 e15⟩⟩) ev_c (rv_eq rfl)
            refine ev_is h ?_
            congr 1
            by_cases hd : due = 0
            · rw [if_pos (hzero.mpr hd), decide_eq_true hd, decide_eq_true rfl]
            · rw [if_neg (fun z => hd (hzero.mp z)), decide_eq_false hd, decide_eq_false (fun z => str_ne (V.str.inj z))]
          refine s_when (b := false) (et_test (ev_is (ev_op (r := rNe) (x := .bl (decide (due = 0))) (y := .bl (decide (due = 0))) hleft (ev_eqI (i := due) (j := 0) (ev_var rfl) ev_c) (rv_ne rfl)) ?_)) (fun hb => by cases hb) (fun hb H14 e14 => ?_)
          · rw [decide_eq_true rfl]
            rfl
          · exact ⟨_, _, _, _, _, _, _, _, _, _, _, rfl, e14 _ _ (e13 _ _ (e12 _ _ (e11 _ _ hp)))⟩
    · exact s_ret ev_c fun H3 e3 => q H3
end
end RK
end

section
set_option Elab.async false
set_option linter.all false
set_option maxRecDepth 100000
set_option maxHeartbeats 4000000
namespace RK
open PySem PySem.Spec PyProof.Rows L2 Evl
section
variable {P : Program} {w : World} {K : PySem.W.Frag} {mg : Str → Option Value} {base : Heap}
/-- where a def stands, from what the head tells -/
theorem at_mk {h : Heap} {x : Str} {st : Stmt} {ps : List Str} {f : Addr} {oc : Value} {od an : Option Addr} {osl : Array (Option Value)} {kV doc pm cdv ct : Value} (X : K.In h) (G : h.Ns mainGlobals mg)
    (hb : ∀ (kV doc pm : Value) (an : Option Addr) (cdv ct : Value) (us : List Value), us.length = ps.length → bindArgs (PySem.W.fnOf x x (defArgs st) (defBody st) (defScope st) .none kV doc pm an cdv ct) ⟨us, []⟩ = pure (ps.zip us))
    (a : PySem.W.nsIn K mainGlobals x = some (some (.ref f))) (l : K.lookup f = some ⟨oc, od, .func (PySem.W.fnOf x x (defArgs st) (defBody st) (defScope st) .none kV doc pm an cdv ct), osl⟩)
    (c : PySem.W.codeIn K cdv x = true) (k : PySem.W.keepIn K (.ref f) = true) : At K mg x st ps f (PySem.W.fnOf x x (defArgs st) (defBody st) (defScope st) .none kV doc pm an cdv ct) :=
  ⟨fun_mk l c k, PySem.W.mg_of X G a, (fun_mk l c k).binds hb⟩
/-- the same, the def's object left open -/
def Stands (K : PySem.W.Frag) (mg : Str → Option Value) (x : Str) (st : Stmt) (ps : List Str) : Prop := ∃ f fd, At K mg x st ps f fd
/-- one def more, for the end -/
theorem stand {R : Prop} {h : Heap} {x : Str} {st : Stmt} {ps : List Str} {f : Addr} {oc : Value} {od an : Option Addr} {osl : Array (Option Value)} {kV doc pm cdv ct : Value} (X : K.In h) (G : h.Ns mainGlobals mg)
    (hb : ∀ (kV doc pm : Value) (an : Option Addr) (cdv ct : Value) (us : List Value), us.length = ps.length → bindArgs (PySem.W.fnOf x x (defArgs st) (defBody st) (defScope st) .none kV doc pm an cdv ct) ⟨us, []⟩ = pure (ps.zip us))
    (a : PySem.W.nsIn K mainGlobals x = some (some (.ref f))) (l : K.lookup f = some ⟨oc, od, .func (PySem.W.fnOf x x (defArgs st) (defBody st) (defScope st) .none kV doc pm an cdv ct), osl⟩)
    (c : PySem.W.codeIn K cdv x = true) (k : PySem.W.keepIn K (.ref f) = true) (go : Stands K mg x st ps → R) : R := go ⟨_, _, at_mk X G hb a l c k⟩
/-- a name that the text leaves free -/
theorem free {h : Heap} (X : K.In h) (G : h.Ns mainGlobals mg) (z_len : PySem.W.nsIn K mainGlobals "len" = some none) (z_enumerate : PySem.W.nsIn K mainGlobals "enumerate" = some none) (z_list : PySem.W.nsIn K mainGlobals "list" = some none) (z_max : PySem.W.nsIn K mainGlobals "max" = some none) (z_min : PySem.W.nsIn K mainGlobals "min" = some none) (z_reversed : PySem.W.nsIn K mainGlobals "reversed" = some none) (z_range : PySem.W.nsIn K mainGlobals "range" = some none) (z_sorted : PySem.W.nsIn K mainGlobals "sorted" = some none) (z_any : PySem.W.nsIn K mainGlobals "any" = some none) (z_int : PySem.W.nsIn K mainGlobals "int" = some none) (z_bool : PySem.W.nsIn K mainGlobals "bool" = some none) (z_isinstance : PySem.W.nsIn K mainGlobals "isinstance" = some none) : Free mg := ⟨PySem.W.mg_none_of X G z_len, PySem.W.mg_none_of X G z_enumerate, PySem.W.mg_none_of X G z_list, PySem.W.mg_none_of X G z_max, PySem.W.mg_none_of X G z_min, PySem.W.mg_none_of X G z_reversed, PySem.W.mg_none_of X G z_range, PySem.W.mg_none_of X G z_sorted, PySem.W.mg_none_of X G z_any, PySem.W.mg_none_of X G z_int, PySem.W.mg_none_of X G z_bool, PySem.W.mg_none_of X G z_isinstance⟩
theorem law_ok (B : Free mg) (h_trimmed : Stands K mg "trimmed" (topS 4) ["numbers"]) (h_times : Stands K mg "times" (topS 5) ["f", "g"]) (h_over : Stands K mg "over" (topS 6) ["f", "g"]) (h_divisors : Stands K mg "divisors" (topS 8) ["n"]) (h_parted : Stands K mg "parted" (topS 9) ["n"]) (h_common : Stands K mg "common" (topS 10) ["one", "other"]) (h_units : Stands K mg "units" (topS 11) ["n"]) (h_raised : Stands K mg "raised" (topS 12) ["p", "k"]) (h_less_one : Stands K mg "less_one" (topS 14) ["d"]) (h_root_polys : Stands K mg "root_polys" (topS 15) ["n"]) (h_root_poly : Stands K mg "root_poly" (topS 16) ["n"]) (h_sum_times : Stands K mg "sum_times" (topS 18) ["one", "other"]) (h_grounded : Stands K mg "grounded" (topS 19) ["some"]) (h_nought : Stands K mg "nought" (topS 20) ["some"]) (h_led : Stands K mg "led" (topS 22) ["some", "k"]) (h_one_of : Stands K mg "one_of" (topS 23) ["n"]) (h_norm : Stands K mg "norm" (topS 24) ["some"]) (h_l_draws : Stands K mg "_law_draws" (topS 26) ["_law_cell"]) (h_l_next : Stands K mg "_law_next" (topS 27) ["_law_draws_here"]) (h_l_common : Stands K mg "_law_common" (topS 28) ["_law_one", "_law_other"]) (h_l_count : Stands K mg "_law_count" (topS 29) ["_law_draws_here"]) (h_l_units : Stands K mg "_law_units" (topS 30) ["_law_n"]) (h_l_over : Stands K mg "_law_over" (topS 31) ["_law_f", "_law_g"]) (h_l_root_poly : Stands K mg "_law_root_poly" (topS 32) ["_law_n"]) (h_l_value : Stands K mg "_law_value" (topS 33) ["_law_f", "_law_a"]) (h_l_prime_of : Stands K mg "_law_prime_of" (topS 34) ["_law_number"]) (h_l_meeting : Stands K mg "_law_meeting" (topS 35) ["_law_n", "_law_d"]) (h_l_factor : Stands K mg "_law_factor" (topS 36) ["_law_n", "_law_draws_here"]) {fa : Addr} {fd : FuncData} (F : Fun K "law" "law" sLaw fa fd) : FnOk P w K mg base CX0 6 fa fd ["_law_script"] (spLaw K) := by
  obtain ⟨f_trimmed, d_trimmed, A_trimmed⟩ := h_trimmed
  have G_trimmed := A_trimmed.has (ok_trim (P := P) (w := w) (base := base) A_trimmed.1 B)
  obtain ⟨f_times, d_times, A_times⟩ := h_times
  have G_times := A_times.has (ok_times (P := P) (w := w) (base := base) A_times.1 B G_trimmed)
  obtain ⟨f_over, d_over, A_over⟩ := h_over
  have G_over := A_over.has (ok_over (P := P) (w := w) (base := base) A_over.1 B G_trimmed)
  obtain ⟨f_divisors, d_divisors, A_divisors⟩ := h_divisors
  have G_divisors := A_divisors.has (ok_div (P := P) (w := w) (base := base) A_divisors.1 B)
  obtain ⟨f_parted, d_parted, A_parted⟩ := h_parted
  have G_parted := A_parted.has (ok_parted (P := P) (w := w) (base := base) A_parted.1 )
  obtain ⟨f_common, d_common, A_common⟩ := h_common
  have G_common := A_common.has (ok_common (P := P) (w := w) (base := base) A_common.1 )
  obtain ⟨f_units, d_units, A_units⟩ := h_units
  have G_units := A_units.has (ok_units (P := P) (w := w) (base := base) A_units.1 B G_common)
  obtain ⟨f_raised, d_raised, A_raised⟩ := h_raised
  have G_raised := A_raised.has (ok_raised (P := P) (w := w) (base := base) A_raised.1 B)
  obtain ⟨f_less_one, d_less_one, A_less_one⟩ := h_less_one
  have G_less_one := A_less_one.has (ok_less (P := P) (w := w) (base := base) A_less_one.1 )
  obtain ⟨f_root_polys, d_root_polys, A_root_polys⟩ := h_root_polys
  have G_root_polys := A_root_polys.has (ok_polys (P := P) (w := w) (base := base) A_root_polys.1 G_divisors G_less_one G_over)
  obtain ⟨f_root_poly, d_root_poly, A_root_poly⟩ := h_root_poly
  have G_root_poly := A_root_poly.has (ok_poly (P := P) (w := w) (base := base) A_root_poly.1 G_root_polys)
  obtain ⟨f_sum_times, d_sum_times, A_sum_times⟩ := h_sum_times
  have G_sum_times := A_sum_times.has (ok_sum (P := P) (w := w) (base := base) A_sum_times.1 B)
  obtain ⟨f_grounded, d_grounded, A_grounded⟩ := h_grounded
  have G_grounded := A_grounded.has (ok_ground (P := P) (w := w) (base := base) A_grounded.1 B G_parted G_raised)
  obtain ⟨f_nought, d_nought, A_nought⟩ := h_nought
  have G_nought := A_nought.has (ok_nought (P := P) (w := w) (base := base) A_nought.1 B G_grounded)
  obtain ⟨f_led, d_led, A_led⟩ := h_led
  have G_led := A_led.has (ok_led (P := P) (w := w) (base := base) A_led.1 B)
  obtain ⟨f_one_of, d_one_of, A_one_of⟩ := h_one_of
  have G_one_of := A_one_of.has (ok_one (P := P) (w := w) (base := base) A_one_of.1 )
  obtain ⟨f_norm, d_norm, A_norm⟩ := h_norm
  have G_norm := A_norm.has (ok_norm (P := P) (w := w) (base := base) A_norm.1 B G_one_of G_units G_grounded G_sum_times G_led)
  obtain ⟨f_l_draws, d_l_draws, A_l_draws⟩ := h_l_draws
  have G_l_draws := A_l_draws.has (ok_draws (P := P) (w := w) (base := base) A_l_draws.1 )
  obtain ⟨f_l_next, d_l_next, A_l_next⟩ := h_l_next
  have G_l_next := A_l_next.has (ok_next (P := P) (w := w) (base := base) A_l_next.1 )
  obtain ⟨f_l_common, d_l_common, A_l_common⟩ := h_l_common
  have G_l_common := A_l_common.has (ok_lcommon (P := P) (w := w) (base := base) A_l_common.1 )
  obtain ⟨f_l_count, d_l_count, A_l_count⟩ := h_l_count
  have G_l_count := A_l_count.has (ok_count (P := P) (w := w) (base := base) A_l_count.1 B G_l_next)
  obtain ⟨f_l_units, d_l_units, A_l_units⟩ := h_l_units
  have G_l_units := A_l_units.has (ok_lunits (P := P) (w := w) (base := base) A_l_units.1 B G_l_common)
  obtain ⟨f_l_over, d_l_over, A_l_over⟩ := h_l_over
  have G_l_over := A_l_over.has (ok_lover (P := P) (w := w) (base := base) A_l_over.1 B)
  obtain ⟨f_l_root_poly, d_l_root_poly, A_l_root_poly⟩ := h_l_root_poly
  have G_l_root_poly := A_l_root_poly.has (ok_lpoly (P := P) (w := w) (base := base) A_l_root_poly.1 B G_l_over)
  obtain ⟨f_l_value, d_l_value, A_l_value⟩ := h_l_value
  have G_l_value := A_l_value.has (ok_lval (P := P) (w := w) (base := base) A_l_value.1 B)
  obtain ⟨f_l_prime_of, d_l_prime_of, A_l_prime_of⟩ := h_l_prime_of
  have G_l_prime_of := A_l_prime_of.has (ok_prime (P := P) (w := w) (base := base) A_l_prime_of.1 B)
  obtain ⟨f_l_meeting, d_l_meeting, A_l_meeting⟩ := h_l_meeting
  have G_l_meeting := A_l_meeting.has (ok_meet (P := P) (w := w) (base := base) A_l_meeting.1 B G_l_prime_of G_l_units)
  obtain ⟨f_l_factor, d_l_factor, A_l_factor⟩ := h_l_factor
  have G_l_factor := A_l_factor.has (ok_factor (P := P) (w := w) (base := base) A_l_factor.1 B G_l_next G_l_value G_l_root_poly G_l_units G_root_poly G_l_meeting)
  exact ok_law F B G_l_draws G_l_count G_l_next G_l_factor G_times G_norm G_nought
/-- what the end asks of the law -/
theorem law_mk {l : PySem.W.OpenLaw} {h : Heap} {fa : Addr} (X : K.In h) (G : h.Ns mainGlobals mg) (hfa : mg "law" = some (.ref fa)) (B : Free mg) (h_trimmed : Stands K mg "trimmed" (topS 4) ["numbers"]) (h_times : Stands K mg "times" (topS 5) ["f", "g"]) (h_over : Stands K mg "over" (topS 6) ["f", "g"]) (h_divisors : Stands K mg "divisors" (topS 8) ["n"]) (h_parted : Stands K mg "parted" (topS 9) ["n"]) (h_common : Stands K mg "common" (topS 10) ["one", "other"]) (h_units : Stands K mg "units" (topS 11) ["n"]) (h_raised : Stands K mg "raised" (topS 12) ["p", "k"]) (h_less_one : Stands K mg "less_one" (topS 14) ["d"]) (h_root_polys : Stands K mg "root_polys" (topS 15) ["n"]) (h_root_poly : Stands K mg "root_poly" (topS 16) ["n"]) (h_sum_times : Stands K mg "sum_times" (topS 18) ["one", "other"]) (h_grounded : Stands K mg "grounded" (topS 19) ["some"]) (h_nought : Stands K mg "nought" (topS 20) ["some"]) (h_led : Stands K mg "led" (topS 22) ["some", "k"]) (h_one_of : Stands K mg "one_of" (topS 23) ["n"]) (h_norm : Stands K mg "norm" (topS 24) ["some"]) (h_l_draws : Stands K mg "_law_draws" (topS 26) ["_law_cell"]) (h_l_next : Stands K mg "_law_next" (topS 27) ["_law_draws_here"]) (h_l_common : Stands K mg "_law_common" (topS 28) ["_law_one", "_law_other"]) (h_l_count : Stands K mg "_law_count" (topS 29) ["_law_draws_here"]) (h_l_units : Stands K mg "_law_units" (topS 30) ["_law_n"]) (h_l_over : Stands K mg "_law_over" (topS 31) ["_law_f", "_law_g"]) (h_l_root_poly : Stands K mg "_law_root_poly" (topS 32) ["_law_n"]) (h_l_value : Stands K mg "_law_value" (topS 33) ["_law_f", "_law_a"]) (h_l_prime_of : Stands K mg "_law_prime_of" (topS 34) ["_law_number"]) (h_l_meeting : Stands K mg "_law_meeting" (topS 35) ["_law_n", "_law_d"]) (h_l_factor : Stands K mg "_law_factor" (topS 36) ["_law_n", "_law_draws_here"]) {f : Addr} {oc : Value} {od an : Option Addr} {osl : Array (Option Value)} {kV doc pm cdv ct : Value} (a : PySem.W.nsIn K mainGlobals "law" = some (some (.ref f))) (hl : K.lookup f = some ⟨oc, od, .func (PySem.W.fnOf "law" "law" (defArgs sLaw) (defBody sLaw) (defScope sLaw) .none kV doc pm an cdv ct), osl⟩) (c : PySem.W.codeIn K cdv "law" = true) (k : PySem.W.keepIn K (.ref f) = true) :
    ∃ fd : FuncData, (∀ (s : Shared) (u : Value), BindsTo s fd ⟨[u], []⟩ [("_law_script", u)]) ∧ ∀ base : Heap, K.In base → base.Ns mainGlobals mg → FnOk l.prog w K mg base CX0 6 fa fd ["_law_script"] (spLaw K) := by
  have e := hfa.symm.trans (PySem.W.mg_of X G a)
  cases e
  exact ⟨_, fun s u => .of_eq rfl, fun base _ _ => law_ok B h_trimmed h_times h_over h_divisors h_parted h_common h_units h_raised h_less_one h_root_polys h_root_poly h_sum_times h_grounded h_nought h_led h_one_of h_norm h_l_draws h_l_next h_l_common h_l_count h_l_units h_l_over h_l_root_poly h_l_value h_l_prime_of h_l_meeting h_l_factor (fun_mk (st := sLaw) hl c k)⟩
end
end RK
end
open PySem PySem.W PyProof.Rows
set_option maxHeartbeats 0
theorem PySem.Challenge.cw_rootwheel_k40_whole_norms_of_root_polyno_holds : PySem.Challenge.rw_rootwheel_k40_whole_norms_of_root_polyno.Holds := by
  w_on; o_law; k_head; (case hw => w_witness2)
  k_fill
  refine L2.walk_of (l := PySem.Challenge.rw_rootwheel_k40_whole_norms_of_root_polyno) (n := 63) (k := 6) (x := "_law_script") (CX := fun _ => L2.CX0) (sp := fun w => RK.spLaw _) rfl (by decide) rfl ⟨rfl, by decide, by decide⟩ (fun w h Y => PySem.W.kIn_of Y) ?F (fun _ _ a ns hl _ hS => ⟨a, ns, rfl, hS, hl, fun _ => rfl⟩) (fun _ _ _ _ _ h => h)
  case F =>
    intro w mg fa h KX G hmg
    refine' RK.stand (x := "trimmed") (st := RK.topS 4) (ps := ["numbers"]) KX G (fun _ _ _ _ _ _ us hl => match us, hl with | [_], _ => rfl) ?a ?l ?c ?k fun h_trimmed => ?_
    (case a => k_is); (case l => k_is); (case c => k_is); (case k => k_is)
    refine' RK.stand (x := "times") (st := RK.topS 5) (ps := ["f", "g"]) KX G (fun _ _ _ _ _ _ us hl => match us, hl with | [_, _], _ => rfl) ?a ?l ?c ?k fun h_times => ?_
    (case a => k_is); (case l => k_is); (case c => k_is); (case k => k_is)
    refine' RK.stand (x := "over") (st := RK.topS 6) (ps := ["f", "g"]) KX G (fun _ _ _ _ _ _ us hl => match us, hl with | [_, _], _ => rfl) ?a ?l ?c ?k fun h_over => ?_
    (case a => k_is); (case l => k_is); (case c => k_is); (case k => k_is)
    refine' RK.stand (x := "divisors") (st := RK.topS 8) (ps := ["n"]) KX G (fun _ _ _ _ _ _ us hl => match us, hl with | [_], _ => rfl) ?a ?l ?c ?k fun h_divisors => ?_
    (case a => k_is); (case l => k_is); (case c => k_is); (case k => k_is)
    refine' RK.stand (x := "parted") (st := RK.topS 9) (ps := ["n"]) KX G (fun _ _ _ _ _ _ us hl => match us, hl with | [_], _ => rfl) ?a ?l ?c ?k fun h_parted => ?_
    (case a => k_is); (case l => k_is); (case c => k_is); (case k => k_is)
    refine' RK.stand (x := "common") (st := RK.topS 10) (ps := ["one", "other"]) KX G (fun _ _ _ _ _ _ us hl => match us, hl with | [_, _], _ => rfl) ?a ?l ?c ?k fun h_common => ?_
    (case a => k_is); (case l => k_is); (case c => k_is); (case k => k_is)
    refine' RK.stand (x := "units") (st := RK.topS 11) (ps := ["n"]) KX G (fun _ _ _ _ _ _ us hl => match us, hl with | [_], _ => rfl) ?a ?l ?c ?k fun h_units => ?_
    (case a => k_is); (case l => k_is); (case c => k_is); (case k => k_is)
    refine' RK.stand (x := "raised") (st := RK.topS 12) (ps := ["p", "k"]) KX G (fun _ _ _ _ _ _ us hl => match us, hl with | [_, _], _ => rfl) ?a ?l ?c ?k fun h_raised => ?_
    (case a => k_is); (case l => k_is); (case c => k_is); (case k => k_is)
    refine' RK.stand (x := "less_one") (st := RK.topS 14) (ps := ["d"]) KX G (fun _ _ _ _ _ _ us hl => match us, hl with | [_], _ => rfl) ?a ?l ?c ?k fun h_less_one => ?_
    (case a => k_is); (case l => k_is); (case c => k_is); (case k => k_is)
    refine' RK.stand (x := "root_polys") (st := RK.topS 15) (ps := ["n"]) KX G (fun _ _ _ _ _ _ us hl => match us, hl with | [_], _ => rfl) ?a ?l ?c ?k fun h_root_polys => ?_
    (case a => k_is); (case l => k_is); (case c => k_is); (case k => k_is)
    refine' RK.stand (x := "root_poly") (st := RK.topS 16) (ps := ["n"]) KX G (fun _ _ _ _ _ _ us hl => match us, hl with | [_], _ => rfl) ?a ?l ?c ?k fun h_root_poly => ?_
    (case a => k_is); (case l => k_is); (case c => k_is); (case k => k_is)
    refine' RK.stand (x := "sum_times") (st := RK.topS 18) (ps := ["one", "other"]) KX G (fun _ _ _ _ _ _ us hl => match us, hl with | [_, _], _ => rfl) ?a ?l ?c ?k fun h_sum_times => ?_
    (case a => k_is); (case l => k_is); (case c => k_is); (case k => k_is)
    refine' RK.stand (x := "grounded") (st := RK.topS 19) (ps := ["some"]) KX G (fun _ _ _ _ _ _ us hl => match us, hl with | [_], _ => rfl) ?a ?l ?c ?k fun h_grounded => ?_
    (case a => k_is); (case l => k_is); (case c => k_is); (case k => k_is)
    refine' RK.stand (x := "nought") (st := RK.topS 20) (ps := ["some"]) KX G (fun _ _ _ _ _ _ us hl => match us, hl with | [_], _ => rfl) ?a ?l ?c ?k fun h_nought => ?_
    (case a => k_is); (case l => k_is); (case c => k_is); (case k => k_is)
    refine' RK.stand (x := "led") (st := RK.topS 22) (ps := ["some", "k"]) KX G (fun _ _ _ _ _ _ us hl => match us, hl with | [_, _], _ => rfl) ?a ?l ?c ?k fun h_led => ?_
    (case a => k_is); (case l => k_is); (case c => k_is); (case k => k_is)
    refine' RK.stand (x := "one_of") (st := RK.topS 23) (ps := ["n"]) KX G (fun _ _ _ _ _ _ us hl => match us, hl with | [_], _ => rfl) ?a ?l ?c ?k fun h_one_of => ?_
    (case a => k_is); (case l => k_is); (case c => k_is); (case k => k_is)
    refine' RK.stand (x := "norm") (st := RK.topS 24) (ps := ["some"]) KX G (fun _ _ _ _ _ _ us hl => match us, hl with | [_], _ => rfl) ?a ?l ?c ?k fun h_norm => ?_
    (case a => k_is); (case l => k_is); (case c => k_is); (case k => k_is)
    refine' RK.stand (x := "_law_draws") (st := RK.topS 26) (ps := ["_law_cell"]) KX G (fun _ _ _ _ _ _ us hl => match us, hl with | [_], _ => rfl) ?a ?l ?c ?k fun h_l_draws => ?_
    (case a => k_is); (case l => k_is); (case c => k_is); (case k => k_is)
    refine' RK.stand (x := "_law_next") (st := RK.topS 27) (ps := ["_law_draws_here"]) KX G (fun _ _ _ _ _ _ us hl => match us, hl with | [_], _ => rfl) ?a ?l ?c ?k fun h_l_next => ?_
    (case a => k_is); (case l => k_is); (case c => k_is); (case k => k_is)
    refine' RK.stand (x := "_law_common") (st := RK.topS 28) (ps := ["_law_one", "_law_other"]) KX G (fun _ _ _ _ _ _ us hl => match us, hl with | [_, _], _ => rfl) ?a ?l ?c ?k fun h_l_common => ?_
    (case a => k_is); (case l => k_is); (case c => k_is); (case k => k_is)
    refine' RK.stand (x := "_law_count") (st := RK.topS 29) (ps := ["_law_draws_here"]) KX G (fun _ _ _ _ _ _ us hl => match us, hl with | [_], _ => rfl) ?a ?l ?c ?k fun h_l_count => ?_
    (case a => k_is); (case l => k_is); (case c => k_is); (case k => k_is)
    refine' RK.stand (x := "_law_units") (st := RK.topS 30) (ps := ["_law_n"]) KX G (fun _ _ _ _ _ _ us hl => match us, hl with | [_], _ => rfl) ?a ?l ?c ?k fun h_l_units => ?_
    (case a => k_is); (case l => k_is); (case c => k_is); (case k => k_is)
    refine' RK.stand (x := "_law_over") (st := RK.topS 31) (ps := ["_law_f", "_law_g"]) KX G (fun _ _ _ _ _ _ us hl => match us, hl with | [_, _], _ => rfl) ?a ?l ?c ?k fun h_l_over => ?_
    (case a => k_is); (case l => k_is); (case c => k_is); (case k => k_is)
    refine' RK.stand (x := "_law_root_poly") (st := RK.topS 32) (ps := ["_law_n"]) KX G (fun _ _ _ _ _ _ us hl => match us, hl with | [_], _ => rfl) ?a ?l ?c ?k fun h_l_root_poly => ?_
    (case a => k_is); (case l => k_is); (case c => k_is); (case k => k_is)
    refine' RK.stand (x := "_law_value") (st := RK.topS 33) (ps := ["_law_f", "_law_a"]) KX G (fun _ _ _ _ _ _ us hl => match us, hl with | [_, _], _ => rfl) ?a ?l ?c ?k fun h_l_value => ?_
    (case a => k_is); (case l => k_is); (case c => k_is); (case k => k_is)
    refine' RK.stand (x := "_law_prime_of") (st := RK.topS 34) (ps := ["_law_number"]) KX G (fun _ _ _ _ _ _ us hl => match us, hl with | [_], _ => rfl) ?a ?l ?c ?k fun h_l_prime_of => ?_
    (case a => k_is); (case l => k_is); (case c => k_is); (case k => k_is)
    refine' RK.stand (x := "_law_meeting") (st := RK.topS 35) (ps := ["_law_n", "_law_d"]) KX G (fun _ _ _ _ _ _ us hl => match us, hl with | [_, _], _ => rfl) ?a ?l ?c ?k fun h_l_meeting => ?_
    (case a => k_is); (case l => k_is); (case c => k_is); (case k => k_is)
    refine' RK.stand (x := "_law_factor") (st := RK.topS 36) (ps := ["_law_n", "_law_draws_here"]) KX G (fun _ _ _ _ _ _ us hl => match us, hl with | [_, _], _ => rfl) ?a ?l ?c ?k fun h_l_factor => ?_
    (case a => k_is); (case l => k_is); (case c => k_is); (case k => k_is)
    have B := RK.free KX G (by k_is) (by k_is) (by k_is) (by k_is) (by k_is) (by k_is) (by k_is) (by k_is) (by k_is) (by k_is) (by k_is) (by k_is)
    refine' RK.law_mk KX G hmg B h_trimmed h_times h_over h_divisors h_parted h_common h_units h_raised h_less_one h_root_polys h_root_poly h_sum_times h_grounded h_nought h_led h_one_of h_norm h_l_draws h_l_next h_l_common h_l_count h_l_units h_l_over h_l_root_poly h_l_value h_l_prime_of h_l_meeting h_l_factor ?a ?l ?c ?k
    (case a => k_is); (case l => k_is); (case c => k_is); (case k => k_is)
