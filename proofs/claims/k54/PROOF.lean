import PyProof.Rows.All
import Wide.All
import OpenK.AllK
import Wide.FinOn
import PySem.Challenge.RW_purseweb_k54_whole_trees_and_still_purse
import HandS.ForMost
import HandS.ForExc
import HandS.Wide
import HandS.Strs
import HandS.Nested
import HandS.Defaults
import HandS.TupSets
import HandS.ExcInit
import HandS.ExcIs
import HandS.ExcField
import HandS.ExcValue
import HandS.IsInst
import HandS.TupAny
import HandS.EndTab
import HandS.SortKw
import KE.KTupSum
import KE.KMinKey
import HandS.Lambda
import HandS.More
import HandS.TupLen
import HandS.Flow
import HandS.Walk
import HandS.Small
import KE.DataFind
import HandS.Deep
import HandS.ExcOwn
import KE.KTopLam
import HandS.NestedK
/-! ## M1 -/
section
/-! M1: determinants by contraction, rank-one steps, fraction-free elimination. Core Lean alone. -/
set_option linter.all false
namespace MT
/-- contraction of g by the row f -/
def ic (f : Nat → Int) : (List Nat → Int) → List Nat → Int
  | _, [] => 0
  | g, c :: cs => f c * g cs - ic f (fun l => g (c :: l)) cs
def D : List (Nat → Int) → List Nat → Int
  | [], [] => 1
  | [], _ :: _ => 0
  | f :: fs, cs => ic f (D fs) cs

theorem ic_add_f (f h : Nat → Int) : ∀ (cs : List Nat) (g : List Nat → Int), ic (fun c => f c + h c) g cs = ic f g cs + ic h g cs
  | [], _ => by simp [ic]
  | c :: cs, g => by
    simp only [ic]
    rw [ic_add_f f h cs]
    grind
theorem ic_smul_f (a : Int) (f : Nat → Int) : ∀ (cs : List Nat) (g : List Nat → Int), ic (fun c => a * f c) g cs = a * ic f g cs
  | [], _ => by simp [ic]
  | c :: cs, g => by
    simp only [ic]
    rw [ic_smul_f a f cs]
    grind
theorem ic_lin_g (f : Nat → Int) (a b : Int) : ∀ (cs : List Nat) (g k : List Nat → Int), ic f (fun l => a * g l + b * k l) cs = a * ic f g cs + b * ic f k cs
  | [], _, _ => by simp [ic]
  | c :: cs, g, k => by
    simp only [ic]
    rw [ic_lin_g f a b cs (fun l => g (c :: l)) (fun l => k (c :: l))]
    grind
theorem ic_zero_g (f : Nat → Int) : ∀ (cs : List Nat), ic f (fun _ => 0) cs = 0
  | [] => rfl
  | c :: cs => by
    simp only [ic]
    rw [ic_zero_g f cs]
    simp
theorem ic_congr_f {f h : Nat → Int} : ∀ (cs : List Nat) (g : List Nat → Int), (∀ c ∈ cs, f c = h c) → ic f g cs = ic h g cs
  | [], _, _ => rfl
  | c :: cs, g, e => by
    simp only [ic]
    rw [ic_congr_f cs _ fun d hd => e d (List.mem_cons_of_mem _ hd), e c List.mem_cons_self]
theorem ic_anti (f h : Nat → Int) : ∀ (cs : List Nat) (g : List Nat → Int), ic f (ic h g) cs + ic h (ic f g) cs = 0
  | [], _ => rfl
  | c :: cs, g => by
    have ih := ic_anti f h cs (fun l => g (c :: l))
    have e1 : ∀ (x y : Nat → Int), ic x (fun l => ic y g (c :: l)) cs = y c * ic x g cs - ic x (ic y (fun l => g (c :: l))) cs := fun x y => by
      have e : (fun l => ic y g (c :: l)) = fun l => y c * g l + (-1) * ic y (fun l => g (c :: l)) l := by
        funext l
        simp only [ic]
        grind
      rw [e, ic_lin_g]
      grind
    show f c * ic h g cs - ic f (fun l => ic h g (c :: l)) cs + (h c * ic f g cs - ic h (fun l => ic f g (c :: l)) cs) = 0
    rw [e1, e1]
    grind
theorem ic_self (f : Nat → Int) (cs : List Nat) (g : List Nat → Int) : ic f (ic f g) cs = 0 := by
  have := ic_anti f f cs g
  omega

/-! ### rows -/
/-- multiples of the first row beside the others -/
theorem D_rowop (f : Nat → Int) (h : Nat → Nat → Int) (t : Nat → Int) : ∀ (ws cs : List Nat), D (f :: ws.map fun w c => h w c + t w * f c) cs = D (f :: ws.map h) cs
  | [], _ => rfl
  | w :: ws, cs => by
    have ih : ∀ cs, ic f (D (ws.map fun w c => h w c + t w * f c)) cs = ic f (D (ws.map h)) cs := D_rowop f h t ws
    show ic f (ic (fun c => h w c + t w * f c) (D (ws.map fun w c => h w c + t w * f c))) cs = ic f (ic (h w) (D (ws.map h))) cs
    have e1 : (ic (fun c => h w c + t w * f c) (D (ws.map fun w c => h w c + t w * f c))) = fun l => 1 * ic (h w) (D (ws.map fun w c => h w c + t w * f c)) l + t w * ic f (D (ws.map fun w c => h w c + t w * f c)) l := by
      funext l
      rw [ic_add_f, ic_smul_f]
      omega
    rw [e1, ic_lin_g, ic_self]
    have e2 : (ic f (D (ws.map fun w c => h w c + t w * f c))) = ic f (D (ws.map h)) := funext ih
    have a1 := ic_anti f (h w) cs (D (ws.map fun w c => h w c + t w * f c))
    have a2 := ic_anti f (h w) cs (D (ws.map h))
    rw [e2] at a1
    grind
theorem D_zero_col (h : Nat → Nat → Int) (c : Nat) : ∀ (ws cs : List Nat), (∀ w ∈ ws, h w c = 0) → D (ws.map h) (c :: cs) = 0
  | [], _, _ => rfl
  | w :: ws, cs, z => by
    show h w c * D (ws.map h) cs - ic (h w) (fun l => D (ws.map h) (c :: l)) cs = 0
    have e : (fun l => D (ws.map h) (c :: l)) = fun _ => 0 := funext fun l => D_zero_col h c ws l fun v hv => z v (List.mem_cons_of_mem _ hv)
    rw [e, ic_zero_g, z w List.mem_cons_self]
    simp
theorem D_elim (f : Nat → Int) (h : Nat → Nat → Int) (c : Nat) (ws cs : List Nat) (z : ∀ w ∈ ws, h w c = 0) : D (f :: ws.map h) (c :: cs) = f c * D (ws.map h) cs := by
  show f c * D (ws.map h) cs - ic f (fun l => D (ws.map h) (c :: l)) cs = _
  have e : (fun l => D (ws.map h) (c :: l)) = fun _ => 0 := funext fun l => D_zero_col h c ws l z
  rw [e, ic_zero_g]
  omega
theorem D_congr {h k : Nat → Nat → Int} : ∀ (ws cs : List Nat), (∀ w ∈ ws, ∀ c ∈ cs, h w c = k w c) → D (ws.map h) cs = D (ws.map k) cs := by
  intro ws
  induction ws with
  | nil => intro cs _; rfl
  | cons w ws ih =>
    intro cs e
    -- the inner lists are sublists of cs
    have key : ∀ (cs : List Nat) (g k' : List Nat → Int) (pre : List Nat), (∀ l, l.Sublist cs → g l = k' l) → (∀ c ∈ cs, h w c = k w c) → ic (h w) g cs = ic (k w) k' cs := by
      intro cs
      induction cs with
      | nil => intros; rfl
      | cons c cs ihc =>
        intro g k' pre hg hc
        show h w c * g cs - ic (h w) (fun l => g (c :: l)) cs = k w c * k' cs - ic (k w) (fun l => k' (c :: l)) cs
        rw [hc c List.mem_cons_self, hg cs (List.sublist_cons_self c cs), ihc (fun l => g (c :: l)) (fun l => k' (c :: l)) [] (fun l hl => hg _ (List.Sublist.cons_cons c hl)) fun d hd => hc d (List.mem_cons_of_mem _ hd)]
    exact key cs _ _ [] (fun l hl => ih l fun v hv c hc => e v (List.mem_cons_of_mem _ hv) c (hl.subset hc)) (e w List.mem_cons_self)
theorem D_smul (a : Int) (h : Nat → Nat → Int) : ∀ (ws cs : List Nat), D (ws.map fun w c => a * h w c) cs = a ^ ws.length * D (ws.map h) cs
  | [], cs => by simp
  | w :: ws, cs => by
    show ic (fun c => a * h w c) (D (ws.map fun w c => a * h w c)) cs = a ^ (ws.length + 1) * ic (h w) (D (ws.map h)) cs
    have e : D (ws.map fun w c => a * h w c) = fun l => a ^ ws.length * D (ws.map h) l + 0 * D (ws.map h) l := funext fun l => by rw [D_smul a h ws l]; omega
    rw [e, ic_smul_f, ic_lin_g, Int.pow_succ]
    grind

/-! ### columns and rows moved to the front -/
def Alt (g : List Nat → Int) : Prop := ∀ (p : List Nat) (a b : Nat) (q : List Nat), g (p ++ a :: b :: q) = - g (p ++ b :: a :: q)
theorem Alt.ic (f : Nat → Int) : ∀ (g : List Nat → Int), Alt g → Alt (ic f g) := by
  intro g hg p
  induction p generalizing g with
  | nil =>
    intro a b q
    show f a * g (b :: q) - (f b * g (a :: q) - MT.ic f (fun l => g (a :: b :: l)) q) = - (f b * g (a :: q) - (f a * g (b :: q) - MT.ic f (fun l => g (b :: a :: l)) q))
    have e : (fun l => g (a :: b :: l)) = fun l => (-1) * g (b :: a :: l) + 0 * g (b :: a :: l) := funext fun l => by
      have := hg [] a b l
      simp only [List.nil_append] at this
      rw [this]
      omega
    rw [e, ic_lin_g]
    grind
  | cons x p ih =>
    intro a b q
    show f x * g (p ++ a :: b :: q) - MT.ic f (fun l => g (x :: l)) (p ++ a :: b :: q) = - (f x * g (p ++ b :: a :: q) - MT.ic f (fun l => g (x :: l)) (p ++ b :: a :: q))
    rw [ih (fun l => g (x :: l)) (fun p' a b q => hg (x :: p') a b q), hg p a b q]
    grind
theorem D_alt : ∀ fs : List (Nat → Int), Alt (D fs)
  | [] => by
    intro p a b q
    cases p <;> rfl
  | f :: fs => Alt.ic f _ (D_alt fs)
theorem alt_front {g : List Nat → Int} (hg : Alt g) : ∀ (p : List Nat) (x : Nat) (a : Nat) (q : List Nat), True → g (p ++ a :: q) = (-1) ^ p.length * g (a :: (p ++ q)) := by
  intro p
  induction p generalizing g with
  | nil => intro x a q _; simp
  | cons y p ih =>
    intro x a q _
    have h1 := ih (g := fun l => g (y :: l)) (fun p' a b q => hg (y :: p') a b q) 0 a q trivial
    have h2 := hg [] y a (p ++ q)
    simp only [List.nil_append] at h2
    show g (y :: (p ++ a :: q)) = (-1) ^ (p.length + 1) * g (a :: (y :: (p ++ q)))
    rw [show g (y :: (p ++ a :: q)) = _ from h1, h2, Int.pow_succ]
    grind
theorem D_front (cs : List Nat) : ∀ (ps : List (Nat → Int)) (f : Nat → Int) (qs : List (Nat → Int)), D (ps ++ f :: qs) cs = (-1) ^ ps.length * D (f :: (ps ++ qs)) cs := by
  intro ps
  induction ps generalizing cs with
  | nil => intro f qs; simp
  | cons y ps ih =>
    intro f qs
    show ic y (D (ps ++ f :: qs)) cs = (-1) ^ (ps.length + 1) * ic f (ic y (D (ps ++ qs))) cs
    have e : D (ps ++ f :: qs) = fun l => (-1) ^ ps.length * D (f :: (ps ++ qs)) l + 0 * D (f :: (ps ++ qs)) l := funext fun l => by rw [ih l f qs]; omega
    rw [e, ic_lin_g, Int.pow_succ]
    have a := ic_anti y f cs (D (ps ++ qs))
    show (-1) ^ ps.length * ic y (ic f (D (ps ++ qs))) cs + 0 * ic y (ic f (D (ps ++ qs))) cs = _
    have : ic y (ic f (D (ps ++ qs))) cs = - ic f (ic y (D (ps ++ qs))) cs := by omega
    rw [this]
    grind

/-- the determinant of the matrix A over the index list -/
def DA (A : Nat → Nat → Int) (ix : List Nat) : Int := D (ix.map A) ix
theorem neg_one_sq (n : Nat) : ((-1 : Int) ^ n) * ((-1) ^ n) = 1 := by
  induction n with
  | zero => rfl
  | succ n ih => rw [Int.pow_succ]; grind
theorem DA_front (A : Nat → Nat → Int) (p : List Nat) (z : Nat) (q : List Nat) : DA A (p ++ z :: q) = DA A (z :: (p ++ q)) := by
  unfold DA
  rw [List.map_append, List.map_cons, D_front, alt_front (D_alt _) p 0 z q trivial, List.length_map]
  have := neg_one_sq p.length
  rw [List.map_cons, List.map_append]
  generalize D _ _ = d
  grind
theorem DA_congr {A B : Nat → Nat → Int} {ix : List Nat} (h : ∀ u ∈ ix, ∀ v ∈ ix, A u v = B u v) : DA A ix = DA B ix := D_congr ix ix h

/-- the rank-one step -/
theorem DA_rank (a : Nat → Nat → Int) (y : Nat → Int) (z : Nat) (rest : List Nat) (hz : y z = 1) :
    DA (fun u v => a u v + y u * y v) (z :: rest) = DA a (z :: rest) + DA (fun w v => a w v - y w * a z v - a w z * y v + y w * y v * a z z) rest := by
  unfold DA
  -- rows w get - y w times the first row
  have s1 : D ((z :: rest).map fun u v => a u v + y u * y v) (z :: rest) = D ((fun v => a z v + y v) :: rest.map fun w v => a w v - y w * a z v) (z :: rest) := by
    have q := D_rowop (fun v => a z v + y v) (fun w v => a w v + y w * y v) (fun w => - y w) rest (z :: rest)
    have e1 : (rest.map fun w c => (a w c + y w * y c) + (- y w) * (a z c + y c)) = rest.map fun w v => a w v - y w * a z v := by
      apply List.map_congr_left
      intro w _
      funext c
      grind
    have e2 : ((z :: rest).map fun u v => a u v + y u * y v) = (fun v => a z v + y v) :: rest.map fun w v => a w v + y w * y v := by
      rw [List.map_cons]
      congr 1
      funext v
      rw [hz]
      omega
    rw [e2, ← q, e1]
  have s2 : D ((fun v => a z v + y v) :: rest.map fun w v => a w v - y w * a z v) (z :: rest) = D ((a z) :: rest.map fun w v => a w v - y w * a z v) (z :: rest) + D (y :: rest.map fun w v => a w v - y w * a z v) (z :: rest) := ic_add_f (a z) y _ _
  have s3 : D ((a z) :: rest.map fun w v => a w v - y w * a z v) (z :: rest) = D ((z :: rest).map a) (z :: rest) := by
    have q := D_rowop (a z) a (fun w => - y w) rest (z :: rest)
    have e1 : (rest.map fun w c => a w c + (- y w) * a z c) = rest.map fun w v => a w v - y w * a z v := by
      apply List.map_congr_left
      intro w _
      funext c
      grind
    rw [List.map_cons, ← q, e1]
  have s4 : D (y :: rest.map fun w v => a w v - y w * a z v) (z :: rest) = D (rest.map fun w v => a w v - y w * a z v - a w z * y v + y w * y v * a z z) rest := by
    have q := D_rowop y (fun w v => a w v - y w * a z v) (fun w => - (a w z - y w * a z z)) rest (z :: rest)
    have e1 : (rest.map fun w c => (a w c - y w * a z c) + (- (a w z - y w * a z z)) * y c) = rest.map fun w v => a w v - y w * a z v - a w z * y v + y w * y v * a z z := by
      apply List.map_congr_left
      intro w _
      funext c
      grind
    rw [← q, e1, D_elim]
    · rw [hz]; omega
    · intro w _
      rw [hz]
      grind
  rw [s1, s2, s3, s4]

/-! ### fraction-free elimination; the leads are 1, 2, .. -/
/-- the matrix behind k steps, and the number that is divided by -/
def RB (A : Nat → Nat → Int) : Nat → Nat → Nat → Int
  | 0 => A
  | k + 1 => fun w c => (RB A k (k + 1) (k + 1) * RB A k w c - RB A k w (k + 1) * RB A k (k + 1) c) / (match k with | 0 => 1 | j + 1 => RB A j (j + 1) (j + 1))
def pv (A : Nat → Nat → Int) : Nat → Int
  | 0 => 1
  | j + 1 => RB A j (j + 1) (j + 1)
theorem RB_succ (A : Nat → Nat → Int) (k w c : Nat) : RB A (k + 1) w c = (RB A k (k + 1) (k + 1) * RB A k w c - RB A k w (k + 1) * RB A k (k + 1) c) / pv A k := by
  cases k <;> rfl
/-- the leads of k steps -/
def leads : Nat → List Nat
  | 0 => []
  | k + 1 => leads k ++ [k + 1]
theorem RB_inv (A : Nat → Nat → Int) : ∀ (k : Nat), (∀ j, j < k → RB A j (j + 1) (j + 1) ≠ 0) → ∀ (I J : List Nat), I ≠ [] → D (I.map (RB A k)) J = pv A k ^ (I.length - 1) * D ((leads k ++ I).map A) (leads k ++ J) := by
  intro k
  induction k with
  | zero =>
    intro _ I J _
    show D (I.map A) J = 1 ^ (I.length - 1) * D (([] ++ I).map A) ([] ++ J)
    rw [Int.one_pow, Int.one_mul, List.nil_append, List.nil_append]
  | succ k ih =>
    intro hne I J hI
    have IH := ih fun j hj => hne j (Nat.lt_succ_of_lt hj)
    have ha : RB A k (k + 1) (k + 1) ≠ 0 := hne k (Nat.lt_succ_self k)
    have hp : pv A k ≠ 0 := by
      cases k with
      | zero => simp [pv]
      | succ j => exact hne j (by omega)
    -- exactness
    have ex : ∀ w c, pv A k * RB A (k + 1) w c = RB A k (k + 1) (k + 1) * RB A k w c - RB A k w (k + 1) * RB A k (k + 1) c := by
      intro w c
      rw [RB_succ]
      have q := IH [k + 1, w] [k + 1, c] (by simp)
      have e : D ([k + 1, w].map (RB A k)) [k + 1, c] = RB A k (k + 1) (k + 1) * RB A k w c - RB A k w (k + 1) * RB A k (k + 1) c := by
        simp only [List.map_cons, List.map_nil, D, ic]
        grind
      rw [e] at q
      have e2 : ([k + 1, w].length - 1) = 1 := rfl
      rw [e2, Int.pow_one] at q
      rw [q, Int.mul_ediv_cancel_left _ hp]
    -- the rows times pv
    have h1 : D (I.map fun w c => pv A k * RB A (k + 1) w c) J = pv A k ^ I.length * D (I.map (RB A (k + 1))) J := D_smul _ _ I J
    have h2 : D (((k + 1) :: I).map (RB A k)) ((k + 1) :: J) * RB A k (k + 1) (k + 1) ^ I.length = RB A k (k + 1) (k + 1) * D (I.map fun w c => pv A k * RB A (k + 1) w c) J := by
      have q1 : D ((RB A k (k + 1)) :: I.map fun w c => RB A k (k + 1) (k + 1) * RB A k w c) ((k + 1) :: J) = RB A k (k + 1) (k + 1) ^ I.length * D (((k + 1) :: I).map (RB A k)) ((k + 1) :: J) := by
        show ic (RB A k (k + 1)) (D (I.map fun w c => RB A k (k + 1) (k + 1) * RB A k w c)) ((k + 1) :: J) = _ * ic (RB A k (k + 1)) (D (I.map (RB A k))) ((k + 1) :: J)
        have e : D (I.map fun w c => RB A k (k + 1) (k + 1) * RB A k w c) = fun l => RB A k (k + 1) (k + 1) ^ I.length * D (I.map (RB A k)) l + 0 * D (I.map (RB A k)) l := funext fun l => by rw [D_smul _ _ I l]; omega
        rw [e, ic_lin_g]
        omega
      have q2 := D_rowop (RB A k (k + 1)) (fun w c => RB A k (k + 1) (k + 1) * RB A k w c) (fun w => - RB A k w (k + 1)) I ((k + 1) :: J)
      have e1 : (I.map fun w c => RB A k (k + 1) (k + 1) * RB A k w c + (- RB A k w (k + 1)) * RB A k (k + 1) c) = I.map fun w c => pv A k * RB A (k + 1) w c := by
        apply List.map_congr_left
        intro w _
        funext c
        rw [ex]
        grind
      rw [e1] at q2
      have q3 := D_elim (RB A k (k + 1)) (fun w c => pv A k * RB A (k + 1) w c) (k + 1) I J (fun w _ => by
        show pv A k * RB A (k + 1) w (k + 1) = 0
        rw [ex]
        grind)
      rw [q3, q1] at q2
      rw [q2, Int.mul_comm]
    have h3 := IH ((k + 1) :: I) ((k + 1) :: J) (by simp)
    have eL : ((k + 1) :: I).length - 1 = I.length := rfl
    rw [eL] at h3
    have eS : D ((leads (k + 1) ++ I).map A) (leads (k + 1) ++ J) = D ((leads k ++ ((k + 1) :: I)).map A) (leads k ++ ((k + 1) :: J)) := by
      show D (((leads k ++ [k + 1]) ++ I).map A) ((leads k ++ [k + 1]) ++ J) = _
      simp only [List.append_assoc, List.singleton_append, List.cons_append, List.nil_append]
    rw [eS]
    show _ = RB A k (k + 1) (k + 1) ^ (I.length - 1) * _
    obtain ⟨n, hn⟩ : ∃ n, I.length = n + 1 := ⟨I.length - 1, by
      cases I with
      | nil => exact absurd rfl hI
      | cons x l => simp⟩
    rw [hn] at h1 h2 h3 ⊢
    rw [h1, h3] at h2
    generalize D ((leads k ++ ((k + 1) :: I)).map A) (leads k ++ ((k + 1) :: J)) = d at h2 ⊢
    generalize D (I.map (RB A (k + 1))) J = e at h2 ⊢
    generalize RB A k (k + 1) (k + 1) = r at h2 ha ⊢
    generalize pv A k = p at h2 hp ⊢
    have pp : p ^ (n + 1) ≠ 0 := Int.pow_ne_zero hp
    have hh : (p ^ (n + 1) * r) * (r ^ n * d) = (p ^ (n + 1) * r) * e := by
      rw [Int.pow_succ r n] at h2
      grind
    have := Int.eq_of_mul_eq_mul_left (Int.mul_ne_zero pp ha) hh
    show e = r ^ (n + 1 - 1) * d
    rw [Nat.add_sub_cancel]
    exact this.symm
/-- each lead is a principal minor -/
theorem RB_minor (A : Nat → Nat → Int) (k : Nat) (h : ∀ j, j < k → RB A j (j + 1) (j + 1) ≠ 0) : RB A k (k + 1) (k + 1) = DA A (leads (k + 1)) := by
  have q := RB_inv A k h [k + 1] [k + 1] (by simp)
  have e : D ([k + 1].map (RB A k)) [k + 1] = RB A k (k + 1) (k + 1) := by
    simp only [List.map_cons, List.map_nil, D, ic]
    omega
  rw [e] at q
  rw [q]
  show pv A k ^ 0 * _ = _
  rw [Int.pow_zero, Int.one_mul]
  rfl
theorem RB_pos (A : Nat → Nat → Int) (n : Nat) (h : ∀ k, k < n → 0 < DA A (leads (k + 1))) : ∀ k, k < n → RB A k (k + 1) (k + 1) = DA A (leads (k + 1)) ∧ 0 < RB A k (k + 1) (k + 1) := by
  intro k
  induction k using Nat.strongRecOn with
  | ind k ih =>
    intro hk
    have e := RB_minor A k fun j hj => by
      have := (ih j hj (by omega)).2
      omega
    exact ⟨e, by rw [e]; exact h k hk⟩
end MT
end
/-! ## M2 -/
section
/-! M2: trees of a multigraph, enumerated tie by tie; their number is a determinant. -/
set_option linter.all false
namespace MT
abbrev Ed := Nat × Nat
def asOne (ms : List Nat) (a b : Nat) : List Nat := ms.map fun m => if m = ms.getD b 0 then ms.getD a 0 else m
def single (ms : List Nat) : Prop := ∀ u ∈ ms, u = ms.getD 0 0
instance (ms : List Nat) : Decidable (single ms) := inferInstanceAs (Decidable (∀ u ∈ ms, u = ms.getD 0 0))
def TF : List Ed → Nat → List Nat → List (List Nat)
  | [], _, ms => if single ms then [[]] else []
  | e :: r, k, ms => if single ms then [[]] else (if ms.getD e.1 0 ≠ ms.getD e.2 0 then (TF r (k + 1) (asOne ms e.1 e.2)).map (k :: ·) else []) ++ TF r (k + 1) ms
theorem TF_single {l : List Ed} {k : Nat} {ms : List Nat} (h : single ms) : TF l k ms = [[]] := by
  cases l <;> simp [TF, h]
theorem TF_cons {e : Ed} {r : List Ed} {k : Nat} {ms : List Nat} (h : ¬ single ms) :
    TF (e :: r) k ms = (if ms.getD e.1 0 ≠ ms.getD e.2 0 then (TF r (k + 1) (asOne ms e.1 e.2)).map (k :: ·) else []) ++ TF r (k + 1) ms := by
  simp [TF, h]
theorem TF_nil {k : Nat} {ms : List Nat} (h : ¬ single ms) : TF [] k ms = [] := by simp [TF, h]
theorem asOne_length (ms : List Nat) (a b : Nat) : (asOne ms a b).length = ms.length := by simp [asOne]
theorem asOne_get (ms : List Nat) (a b i : Nat) (hi : i < ms.length) : (asOne ms a b).getD i 0 = if ms.getD i 0 = ms.getD b 0 then ms.getD a 0 else ms.getD i 0 := by
  unfold asOne
  simp only [List.getD, List.getElem?_map, List.getElem?_eq_getElem hi, Option.map_some, Option.getD_some]
  rfl
theorem getD_mem {ms : List Nat} {i : Nat} (h : i < ms.length) : ms.getD i 0 ∈ ms := by
  simp [List.getD, List.getElem?_eq_getElem h]
theorem mem_getD {ms : List Nat} {u : Nat} (h : u ∈ ms) : ∃ i, i < ms.length ∧ ms.getD i 0 = u := by
  obtain ⟨i, hi, e⟩ := List.getElem_of_mem h
  exact ⟨i, hi, by simp [List.getD, List.getElem?_eq_getElem hi, e]⟩
/-! ### connected -/
/-- the ties of l bring the marks to one -/
def Conn (l : List Ed) (ms : List Nat) : Prop := ∀ φ : Nat → Nat, (∀ e ∈ l, φ (ms.getD e.1 0) = φ (ms.getD e.2 0)) → ∀ u ∈ ms, ∀ v ∈ ms, φ u = φ v
/-- ends of ties are houses -/
def Fits (l : List Ed) (n : Nat) : Prop := ∀ e ∈ l, e.1 < n ∧ e.2 < n
theorem Fits.tail {e : Ed} {r : List Ed} {n : Nat} (h : Fits (e :: r) n) : Fits r n := fun d hd => h d (List.mem_cons_of_mem _ hd)
theorem Conn.mono {l l' : List Ed} {ms : List Nat} (h : Conn l ms) (s : ∀ e ∈ l, e ∈ l') : Conn l' ms := fun φ q => h φ fun e he => q e (s e he)
theorem Conn.of_single {l : List Ed} {ms : List Nat} (h : single ms) : Conn l ms := fun φ _ u hu v hv => by rw [h u hu, h v hv]
theorem Conn.nil_single {ms : List Nat} (h : Conn [] ms) : single ms := by
  intro u hu
  cases ms with
  | nil => cases hu
  | cons m r => exact h id (fun e he => nomatch he) u hu m List.mem_cons_self
theorem conn_iff_nil {ms : List Nat} : Conn [] ms ↔ single ms := ⟨Conn.nil_single, Conn.of_single⟩
/-- a tie is used: the marks of its ends are made alike -/
theorem conn_step {l : List Ed} {ms : List Nat} {a b : Nat} (ha : a < ms.length) (hb : b < ms.length) (hf : Fits l ms.length) : Conn l (asOne ms a b) ↔ Conn ((a, b) :: l) ms := by
  constructor
  · intro h φ q u hu v hv
    have qab : φ (ms.getD a 0) = φ (ms.getD b 0) := q (a, b) List.mem_cons_self
    have same : ∀ i, i < ms.length → φ ((asOne ms a b).getD i 0) = φ (ms.getD i 0) := fun i hi => by
      rw [asOne_get _ _ _ _ hi]
      split
      · rename_i e; rw [e, qab]
      · rfl
    obtain ⟨i, hi, ei⟩ := mem_getD hu
    obtain ⟨j, hj, ej⟩ := mem_getD hv
    rw [← ei, ← ej, ← same i hi, ← same j hj]
    refine h φ (fun e he => ?_) _ (getD_mem (by rw [asOne_length]; exact hi)) _ (getD_mem (by rw [asOne_length]; exact hj))
    rw [same _ (hf e he).1, same _ (hf e he).2]
    exact q e (List.mem_cons_of_mem _ he)
  · intro h φ q u hu v hv
    have at_ : ∀ i, i < ms.length → (asOne ms a b).getD i 0 = if ms.getD i 0 = ms.getD b 0 then ms.getD a 0 else ms.getD i 0 := fun i hi => asOne_get ms a b i hi
    obtain ⟨i, hi, ei⟩ := mem_getD hu
    obtain ⟨j, hj, ej⟩ := mem_getD hv
    rw [asOne_length] at hi hj
    have := h (fun m => φ (if m = ms.getD b 0 then ms.getD a 0 else m)) (fun e he => ?_) _ (getD_mem hi) _ (getD_mem hj)
    · rw [← ei, ← ej, at_ i hi, at_ j hj]
      exact this
    · show φ (if _ then _ else _) = φ (if _ then _ else _)
      rcases List.mem_cons.mp he with rfl | he
      · have e1 : (if ms.getD b 0 = ms.getD b 0 then ms.getD a 0 else ms.getD b 0) = ms.getD a 0 := if_pos rfl
        show φ (if ms.getD a 0 = ms.getD b 0 then ms.getD a 0 else ms.getD a 0) = φ (if ms.getD b 0 = ms.getD b 0 then ms.getD a 0 else ms.getD b 0)
        rw [e1]
        split <;> rfl
      · have := q e he
        rw [at_ _ (hf e he).1, at_ _ (hf e he).2] at this
        exact this
theorem TF_empty : ∀ (l : List Ed) (k : Nat) (ms : List Nat), Fits l ms.length → ¬ Conn l ms → TF l k ms = []
  | [], k, ms, _, h => TF_nil fun s => h (Conn.of_single s)
  | e :: r, k, ms, hf, h => by
    have hs : ¬ single ms := fun s => h (Conn.of_single s)
    rw [TF_cons hs, TF_empty r (k + 1) ms hf.tail fun c => h (c.mono fun d hd => List.mem_cons_of_mem _ hd)]
    split
    · rw [TF_empty r (k + 1) (asOne ms e.1 e.2) (by rw [asOne_length]; exact hf.tail) fun c => h ((conn_step (hf e List.mem_cons_self).1 (hf e List.mem_cons_self).2 hf.tail).mp c)]
      rfl
    · rfl
theorem asOne_same {ms : List Nat} {a b : Nat} (h : ms.getD a 0 = ms.getD b 0) : asOne ms a b = ms := by
  unfold asOne
  conv => rhs; rw [← List.map_id ms]
  apply List.map_congr_left
  intro m _
  simp only [id]
  split
  · rename_i e; rw [e, h]
  · rfl
theorem TF_some : ∀ (l : List Ed) (k : Nat) (ms : List Nat), Fits l ms.length → Conn l ms → 0 < (TF l k ms).length
  | [], k, ms, _, h => by rw [TF_single h.nil_single]; exact Nat.one_pos
  | e :: r, k, ms, hf, h => by
    by_cases hs : single ms
    · rw [TF_single hs]; exact Nat.one_pos
    · rw [TF_cons hs, List.length_append]
      have c := (conn_step (hf e List.mem_cons_self).1 (hf e List.mem_cons_self).2 hf.tail).mpr h
      by_cases q : ms.getD e.1 0 = ms.getD e.2 0
      · rw [asOne_same q] at c
        have := TF_some r (k + 1) ms hf.tail c
        omega
      · rw [if_pos q, List.length_map]
        have := TF_some r (k + 1) (asOne ms e.1 e.2) (by rw [asOne_length]; exact hf.tail) c
        omega
theorem TF_len (l : List Ed) : ∀ (k k' : Nat) (ms : List Nat), (TF l k ms).length = (TF l k' ms).length := by
  induction l with
  | nil => intro k k' ms; rfl
  | cons e r ih =>
    intro k k' ms
    by_cases hs : single ms
    · rw [TF_single hs, TF_single hs]
    · rw [TF_cons hs, TF_cons hs, List.length_append, List.length_append, ih (k + 1) (k' + 1) ms]
      split
      · rw [List.length_map, List.length_map, ih (k + 1) (k' + 1)]
      · rfl

/-! ### the Laplacian -/
def xe (ms : List Nat) (e : Ed) (u : Nat) : Int := (if u = ms.getD e.1 0 then 1 else 0) - (if u = ms.getD e.2 0 then 1 else 0)
def Lap (ms : List Nat) : List Ed → Nat → Nat → Int
  | [], _, _ => 0
  | e :: r, u, v => Lap ms r u v + xe ms e u * xe ms e v
/-- the classes but the first house's -/
structure Cl (ms : List Nat) (cls : List Nat) : Prop where
  pos : 0 < ms.length
  nd : cls.Nodup
  mem : ∀ u, u ∈ cls ↔ u ∈ ms ∧ u ≠ ms.getD 0 0
theorem Cl.single_iff {ms cls : List Nat} (c : Cl ms cls) : single ms ↔ cls = [] := by
  constructor
  · intro h
    cases cls with
    | nil => rfl
    | cons u r =>
      have := (c.mem u).mp List.mem_cons_self
      exact absurd (h u this.1) this.2
  · intro h u hu
    subst h
    by_cases e : u = ms.getD 0 0
    · exact e
    · exact absurd ((c.mem u).mpr ⟨hu, e⟩) (by simp)
theorem ic_zero_f : ∀ (cs : List Nat) (g : List Nat → Int), ic (fun _ => 0) g cs = 0
  | [], _ => rfl
  | c :: cs, g => by
    simp only [ic]
    rw [ic_zero_f cs]
    simp
theorem DA_zero {cls : List Nat} (h : cls ≠ []) : DA (fun _ _ => 0) cls = 0 := by
  cases cls with
  | nil => exact absurd rfl h
  | cons u r => exact ic_zero_f _ _
/-- what is merged: z goes, y stays -/
theorem merge_sum (ms ms' : List Nat) (y z w v : Nat) (yf : Nat → Int) (hw : ∀ e : Ed, xe ms' e w = xe ms e w - yf w * xe ms e z) (hv : ∀ e : Ed, xe ms' e v = xe ms e v - yf v * xe ms e z) :
    ∀ r : List Ed, Lap ms r w v - yf w * Lap ms r z v - Lap ms r w z * yf v + yf w * yf v * Lap ms r z z = Lap ms' r w v
  | [] => by simp [Lap]
  | e :: r => by
    have ih := merge_sum ms ms' y z w v yf hw hv r
    simp only [Lap]
    rw [hw, hv]
    grind
theorem getD_oob {ms : List Nat} {i : Nat} (h : ms.length ≤ i) : ms.getD i 0 = 0 := by
  simp [List.getD, List.getElem?_eq_none h]
/-- one that is taken out of the classes by the tie e; the rest are the classes of the merged marks -/
theorem T_lap : ∀ (l : List Ed) (k : Nat) (ms cls : List Nat), Fits l ms.length → Cl ms cls → ((TF l k ms).length : Int) = DA (Lap ms l) cls
  | [], k, ms, cls, _, c => by
    by_cases h : single ms
    · rw [TF_single h, (c.single_iff.mp h)]
      rfl
    · rw [TF_nil h]
      have q : cls ≠ [] := fun e => h (c.single_iff.mpr e)
      exact (DA_zero q).symm
  | e :: r, k, ms, cls, hf, c => by
    by_cases h : single ms
    · rw [TF_single h, (c.single_iff.mp h)]
      rfl
    · rw [TF_cons h, List.length_append]
      have h1 := (hf e List.mem_cons_self).1
      have h2 := (hf e List.mem_cons_self).2
      have ihr := T_lap r (k + 1) ms cls hf.tail c
      by_cases q : ms.getD e.1 0 = ms.getD e.2 0
      · rw [if_neg (fun z => z q)]
        have e0 : Lap ms (e :: r) = Lap ms r := by
          funext u v
          simp only [Lap, xe]
          rw [q]
          simp
        rw [e0, ← ihr]
        simp
      · rw [if_pos q, List.length_map]
        -- z: the class that goes
        obtain ⟨z, y, hz, hzy, hx, hm⟩ : ∃ z y, z ∈ cls ∧ z ≠ y ∧ (∀ u, xe ms e u = (if u = z then 1 else 0) - (if u = y then 1 else 0) ∨ xe ms e u = -((if u = z then 1 else 0) - (if u = y then 1 else 0))) ∧
            ((z = ms.getD e.2 0 ∧ y = ms.getD e.1 0) ∨ (z = ms.getD e.1 0 ∧ y = ms.getD e.2 0 ∧ y = ms.getD 0 0)) := by
          by_cases hr : ms.getD e.2 0 = ms.getD 0 0
          · refine ⟨ms.getD e.1 0, ms.getD e.2 0, (c.mem _).mpr ⟨getD_mem h1, fun x => q (x.trans hr.symm)⟩, q, fun u => .inl rfl, .inr ⟨rfl, rfl, hr⟩⟩
          · refine ⟨ms.getD e.2 0, ms.getD e.1 0, (c.mem _).mpr ⟨getD_mem h2, hr⟩, fun x => q x.symm, fun u => .inr ?_, .inl ⟨rfl, rfl⟩⟩
            unfold xe
            omega
        obtain ⟨p, s, hps⟩ := List.append_of_mem hz
        have hnd := c.nd
        rw [hps] at hnd
        have zp : z ∉ p ++ s := by
          have := (List.nodup_append.mp hnd)
          intro hh
          rcases List.mem_append.mp hh with hh | hh
          · exact this.2.2 z hh z List.mem_cons_self rfl
          · exact (List.nodup_cons.mp this.2.1).1 hh
        have ndr : (p ++ s).Nodup := hnd.sublist (by simp)
        have memr : ∀ u, u ∈ p ++ s ↔ u ∈ cls ∧ u ≠ z := fun u => by
          rw [hps]
          constructor
          · intro hh
            refine ⟨?_, fun e => zp (e ▸ hh)⟩
            rcases List.mem_append.mp hh with hh | hh
            · exact List.mem_append_left _ hh
            · exact List.mem_append_right _ (List.mem_cons_of_mem _ hh)
          · intro ⟨hh, ne⟩
            rcases List.mem_append.mp hh with hh | hh
            · exact List.mem_append_left _ hh
            · rcases List.mem_cons.mp hh with hh | hh
              · exact absurd hh ne
              · exact List.mem_append_right _ hh
        -- the merged marks
        have lab : ∀ i, i < ms.length → ∀ u, u ≠ z → u ≠ ms.getD 0 0 ∨ z = ms.getD e.2 0 → (u = (asOne ms e.1 e.2).getD i 0 ↔ (u = ms.getD i 0 ∨ (u = y ∧ ms.getD i 0 = z))) := by
          intro i hi u huz hu
          rw [asOne_get ms e.1 e.2 i hi]
          rcases hm with ⟨m1, m2⟩ | ⟨m1, m2, m3⟩
          · rw [← m1, ← m2]
            by_cases hh : ms.getD i 0 = z
            · rw [if_pos hh]
              exact ⟨fun x => .inr ⟨x, hh⟩, fun x => x.elim (fun x => absurd (x.trans hh) huz) fun x => x.1⟩
            · rw [if_neg hh]
              exact ⟨fun x => .inl x, fun x => x.elim id fun x => absurd x.2 hh⟩
          · have hu0 : u ≠ y := by
              rcases hu with hu | hu
              · rw [m3]; exact hu
              · exact absurd (hu.trans m2.symm) hzy
            rw [← m1, ← m2]
            by_cases hh : ms.getD i 0 = y
            · rw [if_pos hh]
              exact ⟨fun x => absurd x huz, fun x => x.elim (fun x => absurd (x.trans hh) hu0) fun x => absurd x.1 hu0⟩
            · rw [if_neg hh]
              exact ⟨fun x => .inl x, fun x => x.elim id fun x => absurd x.1 hu0⟩
        have c' : Cl (asOne ms e.1 e.2) (p ++ s) := by
          refine ⟨by rw [asOne_length]; exact c.pos, ndr, fun u => ?_⟩
          rw [memr u, c.mem u]
          have e0 := asOne_get ms e.1 e.2 0 c.pos
          rcases hm with ⟨m1, m2⟩ | ⟨m1, m2, m3⟩
          · -- z = marks of the second end, not the root
            have zr : z ≠ ms.getD 0 0 := ((c.mem z).mp hz).2
            have e0' : (asOne ms e.1 e.2).getD 0 0 = ms.getD 0 0 := by
              rw [e0, ← m1, if_neg fun x => zr x.symm]
            rw [e0']
            constructor
            · rintro ⟨⟨hu, hr⟩, hne⟩
              obtain ⟨i, hi, ei⟩ := mem_getD hu
              refine ⟨?_, hr⟩
              have := (lab i hi u hne (.inr m1)).mpr (.inl ei.symm)
              rw [this]
              exact getD_mem (by rw [asOne_length]; exact hi)
            · rintro ⟨hu, hr⟩
              obtain ⟨i, hi, ei⟩ := mem_getD hu
              rw [asOne_length] at hi
              rw [asOne_get ms e.1 e.2 i hi, ← m1, ← m2] at ei
              by_cases hh : ms.getD i 0 = z
              · rw [if_pos hh] at ei
                subst ei
                exact ⟨⟨by rw [m2]; exact getD_mem h1, hr⟩, fun x => hzy x.symm⟩
              · rw [if_neg hh] at ei
                subst ei
                exact ⟨⟨getD_mem hi, hr⟩, hh⟩
          · -- the root's class takes the name z
            have e0' : (asOne ms e.1 e.2).getD 0 0 = z := by
              rw [e0, ← m2, m3, if_pos rfl, m1]
            rw [e0']
            constructor
            · rintro ⟨⟨hu, hr⟩, hne⟩
              obtain ⟨i, hi, ei⟩ := mem_getD hu
              refine ⟨?_, hne⟩
              have := (lab i hi u hne (.inl hr)).mpr (.inl ei.symm)
              rw [this]
              exact getD_mem (by rw [asOne_length]; exact hi)
            · rintro ⟨hu, hne⟩
              obtain ⟨i, hi, ei⟩ := mem_getD hu
              rw [asOne_length] at hi
              rw [asOne_get ms e.1 e.2 i hi, ← m1, ← m2] at ei
              by_cases hh : ms.getD i 0 = y
              · rw [if_pos hh] at ei
                exact absurd ei.symm hne
              · rw [if_neg hh] at ei
                subst ei
                exact ⟨⟨getD_mem hi, fun x => hh (x.trans m3.symm)⟩, hne⟩
        have ihm := T_lap r (k + 1) (asOne ms e.1 e.2) (p ++ s) (by rw [asOne_length]; exact hf.tail) c'
        -- the determinant
        have d1 : DA (Lap ms (e :: r)) cls = DA (Lap ms (e :: r)) (z :: (p ++ s)) := by rw [hps]; exact DA_front _ _ _ _
        have d2 : DA (Lap ms (e :: r)) (z :: (p ++ s)) = DA (fun u v => Lap ms r u v + ((if u = z then 1 else 0) - (if u = y then 1 else 0)) * ((if v = z then 1 else 0) - (if v = y then 1 else 0))) (z :: (p ++ s)) := by
          apply DA_congr
          intro u _ v _
          simp only [Lap]
          congr 1
          have sgn : xe ms e = (fun u => (if u = z then 1 else 0) - (if u = y then 1 else 0)) ∨ xe ms e = (fun u => -((if u = z then 1 else 0) - (if u = y then 1 else 0))) := by
            rcases hm with ⟨m1, m2⟩ | ⟨m1, m2, _⟩
            · right
              funext u
              unfold xe
              rw [← m1, ← m2]
              omega
            · left
              funext u
              unfold xe
              rw [← m1, ← m2]
          rcases sgn with s | s <;> rw [s] <;> grind
        have d3 := DA_rank (Lap ms r) (fun u => (if u = z then 1 else 0) - (if u = y then 1 else 0)) z (p ++ s) (by
          show (if z = z then (1 : Int) else 0) - (if z = y then 1 else 0) = 1
          rw [if_pos rfl, if_neg hzy]
          rfl)
        have d4 : DA (Lap ms r) cls = DA (Lap ms r) (z :: (p ++ s)) := by rw [hps]; exact DA_front _ _ _ _
        have d5 : DA (fun w v => Lap ms r w v - ((if w = z then 1 else 0) - (if w = y then 1 else 0)) * Lap ms r z v - Lap ms r w z * ((if v = z then 1 else 0) - (if v = y then 1 else 0)) + ((if w = z then 1 else 0) - (if w = y then 1 else 0)) * ((if v = z then 1 else 0) - (if v = y then 1 else 0)) * Lap ms r z z) (p ++ s) = DA (Lap (asOne ms e.1 e.2) r) (p ++ s) := by
          -- Lap over r, whose ends are houses
          have key : ∀ w ∈ p ++ s, ∀ (i : Nat), i < ms.length → (if w = (asOne ms e.1 e.2).getD i 0 then (1 : Int) else 0) = (if w = ms.getD i 0 then 1 else 0) - ((if w = z then 1 else 0) - (if w = y then 1 else 0)) * (if z = ms.getD i 0 then 1 else 0) := by
            intro w hw i hi
            have hw' := (memr w).mp hw
            have hwr := ((c.mem w).mp hw'.1).2
            have L := lab i hi w hw'.2 (.inl hwr)
            rw [if_neg hw'.2]
            by_cases a1 : w = ms.getD i 0
            · rw [if_pos (L.mpr (.inl a1)), if_pos a1, if_neg (show ¬ z = ms.getD i 0 from fun x => hw'.2 (a1.trans x.symm))]
              simp
            · rw [if_neg a1]
              by_cases a2 : z = ms.getD i 0
              · rw [if_pos a2]
                by_cases a3 : w = y
                · rw [if_pos (L.mpr (.inr ⟨a3, a2.symm⟩)), if_pos a3]
                  rfl
                · rw [if_neg (fun x => (L.mp x).elim a1 fun x => a3 x.1), if_neg a3]
                  rfl
              · rw [if_neg a2, if_neg (fun x => (L.mp x).elim a1 fun x => a2 x.2.symm)]
                simp
          apply DA_congr
          intro w hw v hv
          have gen : ∀ r : List Ed, Fits r ms.length → Lap ms r w v - ((if w = z then 1 else 0) - (if w = y then 1 else 0)) * Lap ms r z v - Lap ms r w z * ((if v = z then 1 else 0) - (if v = y then 1 else 0)) + ((if w = z then 1 else 0) - (if w = y then 1 else 0)) * ((if v = z then 1 else 0) - (if v = y then 1 else 0)) * Lap ms r z z = Lap (asOne ms e.1 e.2) r w v := by
            intro r
            induction r with
            | nil => intro _; simp [Lap]
            | cons d r ih =>
              intro hr
              have ih := ih hr.tail
              have k1 := key w hw d.1 (hr d List.mem_cons_self).1
              have k2 := key w hw d.2 (hr d List.mem_cons_self).2
              have k3 := key v hv d.1 (hr d List.mem_cons_self).1
              have k4 := key v hv d.2 (hr d List.mem_cons_self).2
              simp only [Lap]
              have X1 : xe (asOne ms e.1 e.2) d w = xe ms d w - ((if w = z then 1 else 0) - (if w = y then 1 else 0)) * xe ms d z := by
                unfold xe
                rw [k1, k2]
                grind
              have X2 : xe (asOne ms e.1 e.2) d v = xe ms d v - ((if v = z then 1 else 0) - (if v = y then 1 else 0)) * xe ms d z := by
                unfold xe
                rw [k3, k4]
                grind
              rw [X1, X2]
              generalize xe ms d w = A1 at *
              generalize xe ms d v = A2 at *
              generalize xe ms d z = A3 at *
              generalize ((if w = z then (1 : Int) else 0) - (if w = y then 1 else 0)) = B1 at *
              generalize ((if v = z then (1 : Int) else 0) - (if v = y then 1 else 0)) = B2 at *
              grind
          exact gen r hf.tail
        rw [d1, d2, d3, d5, ← ihm, ← d4, ← ihr]
        omega

/-! ### bounds -/
def bc : Nat → Nat → Nat
  | _, 0 => 1
  | 0, _ + 1 => 0
  | n + 1, k + 1 => bc n k + bc n (k + 1)
theorem bc_mono (n : Nat) : ∀ k, bc n k ≤ bc (n + 1) k
  | 0 => by cases n <;> exact Nat.le_refl _
  | k + 1 => by
    show bc n (k + 1) ≤ bc n k + bc n (k + 1)
    omega
end MT
end
/-! ## M3 -/
section
/-! M3: classes counted; bounds; sums; the Laplacian of a web; how many trees. -/
set_option linter.all false
namespace MT
/-- a tie between two classes: one class fewer -/
theorem Cl.step {ms cls : List Nat} {a b : Nat} (c : Cl ms cls) (ha : a < ms.length) (hb : b < ms.length) (q : ms.getD a 0 ≠ ms.getD b 0) : ∃ cls', Cl (asOne ms a b) cls' ∧ cls'.length + 1 = cls.length := by
  obtain ⟨z, y, hz, hzy, hm⟩ : ∃ z y, z ∈ cls ∧ z ≠ y ∧ ((z = ms.getD b 0 ∧ y = ms.getD a 0) ∨ (z = ms.getD a 0 ∧ y = ms.getD b 0 ∧ y = ms.getD 0 0)) := by
    by_cases hr : ms.getD b 0 = ms.getD 0 0
    · exact ⟨ms.getD a 0, ms.getD b 0, (c.mem _).mpr ⟨getD_mem ha, fun x => q (x.trans hr.symm)⟩, q, .inr ⟨rfl, rfl, hr⟩⟩
    · exact ⟨ms.getD b 0, ms.getD a 0, (c.mem _).mpr ⟨getD_mem hb, hr⟩, fun x => q x.symm, .inl ⟨rfl, rfl⟩⟩
  refine ⟨cls.erase z, ⟨by rw [asOne_length]; exact c.pos, c.nd.erase z, fun u => ?_⟩, ?_⟩
  · rw [c.nd.mem_erase_iff, c.mem u]
    have e0 := asOne_get ms a b 0 c.pos
    have at_ : ∀ i, i < ms.length → (asOne ms a b).getD i 0 ∈ asOne ms a b := fun i hi => getD_mem (by rw [asOne_length]; exact hi)
    rcases hm with ⟨m1, m2⟩ | ⟨m1, m2, m3⟩
    · have zr : z ≠ ms.getD 0 0 := ((c.mem z).mp hz).2
      have e0' : (asOne ms a b).getD 0 0 = ms.getD 0 0 := by rw [e0, ← m1, if_neg fun x => zr x.symm]
      rw [e0']
      constructor
      · rintro ⟨hne, hu, hr⟩
        obtain ⟨i, hi, ei⟩ := mem_getD hu
        refine ⟨?_, hr⟩
        have := at_ i hi
        rw [asOne_get ms a b i hi, ← m1, if_neg (by rw [ei]; exact hne), ei] at this
        exact this
      · rintro ⟨hu, hr⟩
        obtain ⟨i, hi, ei⟩ := mem_getD hu
        rw [asOne_length] at hi
        rw [asOne_get ms a b i hi, ← m1, ← m2] at ei
        by_cases hh : ms.getD i 0 = z
        · rw [if_pos hh] at ei
          subst ei
          exact ⟨hzy.symm, by rw [m2]; exact getD_mem ha, hr⟩
        · rw [if_neg hh] at ei
          subst ei
          exact ⟨hh, getD_mem hi, hr⟩
    · have e0' : (asOne ms a b).getD 0 0 = z := by rw [e0, ← m2, m3, if_pos rfl, m1]
      rw [e0']
      constructor
      · rintro ⟨hne, hu, hr⟩
        obtain ⟨i, hi, ei⟩ := mem_getD hu
        refine ⟨?_, hne⟩
        have := at_ i hi
        rw [asOne_get ms a b i hi, ← m2, m3, if_neg (by rw [ei]; exact hr), ei] at this
        exact this
      · rintro ⟨hu, hne⟩
        obtain ⟨i, hi, ei⟩ := mem_getD hu
        rw [asOne_length] at hi
        rw [asOne_get ms a b i hi, ← m1, ← m2] at ei
        by_cases hh : ms.getD i 0 = y
        · rw [if_pos hh] at ei
          exact absurd ei.symm hne
        · rw [if_neg hh] at ei
          subst ei
          exact ⟨hne, getD_mem hi, fun x => hh (x.trans m3.symm)⟩
  · rw [List.length_erase_of_mem hz]
    have := List.length_pos_of_mem hz
    omega
theorem TF_lens : ∀ (l : List Ed) (k : Nat) (ms cls : List Nat), Fits l ms.length → Cl ms cls → ∀ t ∈ TF l k ms, t.length = cls.length
  | [], k, ms, cls, _, c, t, ht => by
    by_cases h : single ms
    · rw [TF_single h] at ht
      rw [List.mem_singleton.mp ht, c.single_iff.mp h]
    · rw [TF_nil h] at ht
      cases ht
  | e :: r, k, ms, cls, hf, c, t, ht => by
    by_cases h : single ms
    · rw [TF_single h] at ht
      rw [List.mem_singleton.mp ht, c.single_iff.mp h]
    · rw [TF_cons h] at ht
      rcases List.mem_append.mp ht with ht | ht
      · by_cases q : ms.getD e.1 0 = ms.getD e.2 0
        · rw [if_neg (fun z => z q)] at ht
          cases ht
        · rw [if_pos q] at ht
          obtain ⟨t', ht', rfl⟩ := List.mem_map.mp ht
          obtain ⟨cls', c', e'⟩ := c.step (hf e List.mem_cons_self).1 (hf e List.mem_cons_self).2 q
          rw [List.length_cons, TF_lens r (k + 1) _ cls' (by rw [asOne_length]; exact hf.tail) c' t' ht']
          exact e'
      · exact TF_lens r (k + 1) ms cls hf.tail c t ht
theorem TF_bound : ∀ (l : List Ed) (k : Nat) (ms cls : List Nat), Fits l ms.length → Cl ms cls → (TF l k ms).length ≤ bc l.length cls.length
  | [], k, ms, cls, _, c => by
    by_cases h : single ms
    · rw [TF_single h, c.single_iff.mp h]
      exact Nat.le_refl _
    · rw [TF_nil h]
      exact Nat.zero_le _
  | e :: r, k, ms, cls, hf, c => by
    by_cases h : single ms
    · rw [TF_single h, c.single_iff.mp h]
      exact Nat.le_refl _
    · rw [TF_cons h, List.length_append]
      have ih1 := TF_bound r (k + 1) ms cls hf.tail c
      obtain ⟨j, hj⟩ : ∃ j, cls.length = j + 1 := by
        cases cls with
        | nil => exact absurd (c.single_iff.mpr rfl) h
        | cons u s => exact ⟨s.length, rfl⟩
      rw [List.length_cons, hj]
      rw [hj] at ih1
      show _ ≤ bc r.length j + bc r.length (j + 1)
      by_cases q : ms.getD e.1 0 = ms.getD e.2 0
      · rw [if_neg (fun z => z q)]
        rw [List.length_nil]
        omega
      · rw [if_pos q, List.length_map]
        obtain ⟨cls', c', e'⟩ := c.step (hf e List.mem_cons_self).1 (hf e List.mem_cons_self).2 q
        have ih2 := TF_bound r (k + 1) _ cls' (by rw [asOne_length]; exact hf.tail) c'
        have : cls'.length = j := by omega
        rw [this] at ih2
        omega

/-! ### sums -/
def sm : Nat → (Nat → Int) → Int
  | 0, _ => 0
  | n + 1, f => sm n f + f n
theorem sm_congr {f g : Nat → Int} : ∀ {n : Nat}, (∀ i, i < n → f i = g i) → sm n f = sm n g
  | 0, _ => rfl
  | n + 1, h => by
    simp only [sm]
    rw [sm_congr (n := n) fun i hi => h i (by omega), h n (by omega)]
theorem sm_add (f g : Nat → Int) : ∀ n, sm n (fun i => f i + g i) = sm n f + sm n g
  | 0 => rfl
  | n + 1 => by
    simp only [sm]
    rw [sm_add f g n]
    omega
theorem sm_smul (a : Int) (f : Nat → Int) : ∀ n, sm n (fun i => a * f i) = a * sm n f
  | 0 => by simp [sm]
  | n + 1 => by
    simp only [sm]
    rw [sm_smul a f n, Int.mul_add]
theorem sm_zero : ∀ n, sm n (fun _ => 0) = 0
  | 0 => rfl
  | n + 1 => by
    simp only [sm]
    rw [sm_zero n]
    rfl
theorem sm_le {f g : Nat → Int} : ∀ {n : Nat}, (∀ i, i < n → f i ≤ g i) → sm n f ≤ sm n g
  | 0, _ => Int.le_refl _
  | n + 1, h => by
    simp only [sm]
    have := sm_le (n := n) fun i hi => h i (by omega)
    have := h n (by omega)
    omega
theorem sm_swap (f : Nat → Nat → Int) (n : Nat) : ∀ m, sm n (fun a => sm m (fun b => f a b)) = sm m (fun b => sm n (fun a => f a b))
  | 0 => by simp [sm, sm_zero]
  | m + 1 => by
    simp only [sm]
    rw [sm_add, sm_swap f n m]
theorem sm_pick (f : Nat → Int) (u : Nat) : ∀ n, sm n (fun a => if u = a then f a else 0) = if u < n then f u else 0
  | 0 => by simp [sm]
  | n + 1 => by
    simp only [sm]
    rw [sm_pick f u n]
    by_cases h1 : u < n
    · rw [if_pos h1, if_neg (by omega), if_pos (by omega)]; omega
    · by_cases h2 : u = n
      · rw [if_neg h1, if_pos h2, if_pos (by omega), h2]; omega
      · rw [if_neg h1, if_neg h2, if_neg (by omega)]; omega
/-- over all pairs of houses twice -/
theorem sm_sym (g : Nat → Nat → Int) (n : Nat) (hs : ∀ a b, a < n → b < n → g a b = g b a) (hd : ∀ a, a < n → g a a = 0) : sm n (fun a => sm n (fun b => g a b)) = 2 * sm n (fun a => sm n (fun b => if a < b then g a b else 0)) := by
  have e1 : sm n (fun a => sm n (fun b => g a b)) = sm n (fun a => sm n (fun b => (if a < b then g a b else 0) + (if b < a then g b a else 0))) := by
    refine sm_congr fun a ha => sm_congr fun b hb => ?_
    by_cases h1 : a < b
    · rw [if_pos h1, if_neg (by omega)]; omega
    · by_cases h2 : b < a
      · rw [if_neg h1, if_pos h2, hs a b ha hb]; omega
      · have : a = b := by omega
        subst this
        rw [if_neg h1, hd a ha]
        omega
  have e2 : sm n (fun a => sm n (fun b => if b < a then g b a else 0)) = sm n (fun a => sm n (fun b => if a < b then g a b else 0)) := sm_swap (fun a b => if b < a then g b a else 0) n n
  rw [e1]
  have e3 : sm n (fun a => sm n (fun b => (if a < b then g a b else 0) + (if b < a then g b a else 0))) = sm n (fun a => sm n (fun b => if a < b then g a b else 0)) + sm n (fun a => sm n (fun b => if b < a then g b a else 0)) := by
    rw [← sm_add]
    exact sm_congr fun a _ => sm_add _ _ n
  rw [e3, e2]
  omega

/-! ### the ties of a web -/
abbrev Tie := Nat × Nat × Nat
def tiesAB (w : Nat → Nat → Nat) (a b : Nat) : List Tie := (List.range (w a b)).map fun t => (a, b, t)
def tiesA (w : Nat → Nat → Nat) (a k : Nat) : List Tie := (List.range' (a + 1) k).flatMap (tiesAB w a)
def tiesTo (n : Nat) (w : Nat → Nat → Nat) (i : Nat) : List Tie := (List.range i).flatMap fun a => tiesA w a (n - (a + 1))
def ties (n : Nat) (w : Nat → Nat → Nat) : List Tie := tiesTo n w n
def edge (t : Tie) : Ed := (t.1, t.2.1)
def eds (n : Nat) (w : Nat → Nat → Nat) : List Ed := (ties n w).map edge
theorem tiesTo_succ (n : Nat) (w : Nat → Nat → Nat) (i : Nat) : tiesTo n w (i + 1) = tiesTo n w i ++ tiesA w i (n - (i + 1)) := by
  unfold tiesTo
  rw [List.range_succ, List.flatMap_append]
  simp
theorem tiesA_succ (w : Nat → Nat → Nat) (a k : Nat) : tiesA w a (k + 1) = tiesA w a k ++ tiesAB w a (a + 1 + k) := by
  unfold tiesA
  rw [List.range'_concat, List.flatMap_append]
  simp
def esum (g : Ed → Int) : List Ed → Int
  | [] => 0
  | e :: r => esum g r + g e
theorem esum_append (g : Ed → Int) : ∀ l r, esum g (l ++ r) = esum g l + esum g r
  | [], r => by simp [esum]
  | e :: l, r => by
    simp only [List.cons_append, esum]
    rw [esum_append g l r]
    omega
theorem esum_AB (g : Ed → Int) (w : Nat → Nat → Nat) (a b : Nat) : esum g ((tiesAB w a b).map edge) = w a b * g (a, b) := by
  unfold tiesAB
  rw [List.map_map]
  have : ∀ k, esum g ((List.range k).map (edge ∘ fun t => (a, b, t))) = k * g (a, b) := by
    intro k
    induction k with
    | zero => simp [esum]
    | succ k ih =>
      rw [List.range_succ, List.map_append, esum_append, ih]
      simp only [List.map_cons, List.map_nil, esum, Function.comp, edge]
      grind
  exact this _
theorem esum_A (g : Ed → Int) (w : Nat → Nat → Nat) (a : Nat) : ∀ k, esum g ((tiesA w a k).map edge) = sm (a + 1 + k) (fun b => if a < b then w a b * g (a, b) else 0)
  | 0 => by
    have e1 : tiesA w a 0 = [] := rfl
    rw [e1]
    have e2 : sm (a + 1 + 0) (fun b => if a < b then w a b * g (a, b) else 0) = sm (a + 1) (fun _ => 0) := sm_congr fun b hb => if_neg (by omega)
    rw [e2, sm_zero]
    rfl
  | k + 1 => by
    rw [tiesA_succ, List.map_append, esum_append, esum_A g w a k, esum_AB]
    show _ = sm (a + 1 + k) _ + (if a < a + 1 + k then _ else _)
    rw [if_pos (by omega)]
    rfl
theorem esum_To (g : Ed → Int) (n : Nat) (w : Nat → Nat → Nat) : ∀ i, i ≤ n → esum g ((tiesTo n w i).map edge) = sm i (fun a => sm n (fun b => if a < b then w a b * g (a, b) else 0))
  | 0, _ => rfl
  | i + 1, h => by
    rw [tiesTo_succ, List.map_append, esum_append, esum_To g n w i (by omega), esum_A]
    have : i + 1 + (n - (i + 1)) = n := by omega
    rw [this]
    rfl
theorem esum_eds (g : Ed → Int) (n : Nat) (w : Nat → Nat → Nat) : esum g (eds n w) = sm n (fun a => sm n (fun b => if a < b then w a b * g (a, b) else 0)) := esum_To g n w n (Nat.le_refl n)
theorem esum_idx (g : Ed → Int) (d : Ed) : ∀ l : List Ed, esum g l = sm l.length (fun k => g (l.getD k d)) := by
  intro l
  have rev : ∀ l : List Ed, esum g l.reverse = sm l.reverse.length (fun k => g (l.reverse.getD k d)) := by
    intro l
    induction l with
    | nil => rfl
    | cons e r ih =>
      rw [List.reverse_cons, esum_append, ih, List.length_append]
      show _ = sm (r.reverse.length + 1) _
      show _ = sm r.reverse.length _ + _
      congr 1
      · refine sm_congr fun i hi => ?_
        simp [List.getD, List.getElem?_append_left hi]
      · simp [esum, List.getD]
  have := rev l.reverse
  rw [List.reverse_reverse] at this
  exact this
theorem mem_ties {n : Nat} {w : Nat → Nat → Nat} {t : Tie} : t ∈ ties n w → t.1 < t.2.1 ∧ t.2.1 < n ∧ t.2.2 < w t.1 t.2.1 := by
  unfold ties tiesTo tiesA tiesAB
  intro h
  obtain ⟨a, ha, h⟩ := List.mem_flatMap.mp h
  obtain ⟨b, hb, h⟩ := List.mem_flatMap.mp h
  obtain ⟨c, hc, rfl⟩ := List.mem_map.mp h
  have ha := List.mem_range.mp ha
  have hb := List.mem_range'_1.mp hb
  have hc := List.mem_range.mp hc
  show a < b ∧ b < n ∧ c < w a b
  exact ⟨by omega, by omega, hc⟩
theorem fits_eds (n : Nat) (w : Nat → Nat → Nat) : Fits (eds n w) n := fun e he => by
  obtain ⟨t, ht, rfl⟩ := List.mem_map.mp he
  have := mem_ties ht
  exact ⟨Nat.lt_trans this.1 this.2.1, this.2.1⟩
/-- the matrix of a web -/
def Aw (n : Nat) (w : Nat → Nat → Nat) (u v : Nat) : Int := if u = v then sm n (fun j => (w u j : Int)) else -(w u v : Int)
/-- the houses above k are one with house 0 -/
def msk (n k : Nat) : List Nat := (List.range n).map fun i => if i ≤ k then i else 0
theorem msk_get (n k i : Nat) (h : i < n) : (msk n k).getD i 0 = if i ≤ k then i else 0 := by
  unfold msk
  simp [List.getD, List.getElem?_map, List.getElem?_range h]
theorem msk_length (n k : Nat) : (msk n k).length = n := by simp [msk]
theorem Lap_esum (ms : List Nat) (u v : Nat) : ∀ l : List Ed, Lap ms l u v = esum (fun e => xe ms e u * xe ms e v) l
  | [] => rfl
  | e :: r => by
    simp only [Lap, esum]
    rw [Lap_esum ms u v r]
theorem Lap_web {n k : Nat} {w : Nat → Nat → Nat} (sym : ∀ a b, a < n → b < n → w a b = w b a) (dia : ∀ a, a < n → w a a = 0) (hk : k < n) {u v : Nat} (hu : 1 ≤ u) (hu2 : u ≤ k) (hv : 1 ≤ v) (hv2 : v ≤ k) : Lap (msk n k) (eds n w) u v = Aw n w u v := by
  rw [Lap_esum, esum_eds]
  have xs : ∀ x, 1 ≤ x → x ≤ k → ∀ a b, a < n → b < n → xe (msk n k) (a, b) x = (if x = a then 1 else 0) - (if x = b then 1 else 0) := by
    intro x h1 h2 a b ha hb
    unfold xe
    rw [msk_get n k a ha, msk_get n k b hb]
    have e : ∀ i, (if x = (if i ≤ k then i else 0) then (1 : Int) else 0) = if x = i then 1 else 0 := fun i => by
      by_cases q : i ≤ k
      · rw [if_pos q]
      · rw [if_neg q, if_neg (by omega), if_neg (by omega)]
    rw [e, e]
  have e1 : sm n (fun a => sm n (fun b => if a < b then (w a b : Int) * (xe (msk n k) (a, b) u * xe (msk n k) (a, b) v) else 0)) = sm n (fun a => sm n (fun b => if a < b then (w a b : Int) * (((if u = a then 1 else 0) - (if u = b then 1 else 0)) * ((if v = a then 1 else 0) - (if v = b then 1 else 0))) else 0)) := by
    refine sm_congr fun a ha => sm_congr fun b hb => ?_
    rw [xs u hu hu2 a b ha hb, xs v hv hv2 a b ha hb]
  have hsum := sm_sym (fun a b => (w a b : Int) * (((if u = a then 1 else 0) - (if u = b then 1 else 0)) * ((if v = a then 1 else 0) - (if v = b then 1 else 0)))) n
    (fun a b ha hb => by rw [sym a b ha hb]; grind) (fun a ha => by rw [dia a ha]; simp)
  rw [e1]
  have hun : u < n := by omega
  have hvn : v < n := by omega
  have full : sm n (fun a => sm n (fun b => (w a b : Int) * (((if u = a then 1 else 0) - (if u = b then 1 else 0)) * ((if v = a then 1 else 0) - (if v = b then 1 else 0))))) = 2 * Aw n w u v := by
    have e2 : sm n (fun a => sm n (fun b => (w a b : Int) * (((if u = a then 1 else 0) - (if u = b then 1 else 0)) * ((if v = a then 1 else 0) - (if v = b then 1 else 0))))) =
        sm n (fun a => sm n (fun b => (if u = a then (if v = a then (w a b : Int) else 0) else 0) + (if u = b then (if v = b then (w a b : Int) else 0) else 0) + (-1) * (if u = a then (if v = b then (w a b : Int) else 0) else 0) + (-1) * (if v = a then (if u = b then (w a b : Int) else 0) else 0))) := by
      refine sm_congr fun a _ => sm_congr fun b _ => ?_
      have ind : ∀ (c d : Prop) [Decidable c] [Decidable d] (x : Int), (if c then (if d then x else 0) else 0) = (if c then 1 else 0) * (if d then 1 else 0) * x := fun c d _ _ x => by
        by_cases h1 : c <;> by_cases h2 : d <;> simp [h1, h2]
      rw [ind, ind, ind, ind]
      generalize (if u = a then (1 : Int) else 0) = p1
      generalize (if u = b then (1 : Int) else 0) = p2
      generalize (if v = a then (1 : Int) else 0) = p3
      generalize (if v = b then (1 : Int) else 0) = p4
      grind
    have s1 : sm n (fun a => sm n (fun b => if u = a then (if v = a then (w a b : Int) else 0) else 0)) = if v = u then sm n (fun b => (w u b : Int)) else 0 := by
      have : sm n (fun a => sm n (fun b => if u = a then (if v = a then (w a b : Int) else 0) else 0)) = sm n (fun a => if u = a then (if v = a then sm n (fun b => (w a b : Int)) else 0) else 0) := by
        refine sm_congr fun a _ => ?_
        by_cases h1 : u = a
        · by_cases h2 : v = a
          · simp [h1, h2]
          · simp [h1, h2, sm_zero]
        · simp [h1, sm_zero]
      rw [this, sm_pick, if_pos hun]
    have s2 : sm n (fun a => sm n (fun b => if u = b then (if v = b then (w a b : Int) else 0) else 0)) = if v = u then sm n (fun b => (w u b : Int)) else 0 := by
      rw [sm_swap (fun a b => if u = b then (if v = b then (w a b : Int) else 0) else 0) n n]
      have : sm n (fun b => sm n (fun a => if u = b then (if v = b then (w a b : Int) else 0) else 0)) = sm n (fun a => sm n (fun b => if u = a then (if v = a then (w a b : Int) else 0) else 0)) := by
        refine sm_congr fun a ha => sm_congr fun b hb => ?_
        rw [sym a b ha hb]
      rw [this, s1]
    have s3 : ∀ x y, x < n → y < n → sm n (fun a => sm n (fun b => if x = a then (if y = b then (w a b : Int) else 0) else 0)) = w x y := by
      intro x y hx hy
      have : sm n (fun a => sm n (fun b => if x = a then (if y = b then (w a b : Int) else 0) else 0)) = sm n (fun a => if x = a then (w a y : Int) else 0) := by
        refine sm_congr fun a _ => ?_
        by_cases h1 : x = a
        · simp only [if_pos h1]
          rw [sm_pick, if_pos hy]
        · simp only [if_neg h1]
          exact sm_zero n
      rw [this, sm_pick, if_pos hx]
    have lin : ∀ (p q r s : Nat → Nat → Int), sm n (fun a => sm n (fun b => p a b + q a b + (-1) * r a b + (-1) * s a b)) = sm n (fun a => sm n (fun b => p a b)) + sm n (fun a => sm n (fun b => q a b)) + (-1) * sm n (fun a => sm n (fun b => r a b)) + (-1) * sm n (fun a => sm n (fun b => s a b)) := by
      intro p q r s
      have : ∀ a, sm n (fun b => p a b + q a b + (-1) * r a b + (-1) * s a b) = sm n (fun b => p a b) + sm n (fun b => q a b) + (-1) * sm n (fun b => r a b) + (-1) * sm n (fun b => s a b) := fun a => by
        rw [sm_add, sm_add, sm_add, sm_smul, sm_smul]
      rw [sm_congr (fun a _ => this a), sm_add, sm_add, sm_add, sm_smul, sm_smul]
    rw [e2, lin, s1, s2, s3 u v hun hvn, s3 v u hvn hun, sym v u hvn hun]
    unfold Aw
    by_cases h : u = v
    · subst h
      rw [if_pos rfl, if_pos rfl, dia u hun]
      simp
      omega
    · rw [if_neg (fun x => h x.symm), if_neg h]
      omega
  rw [full] at hsum
  omega
theorem leads_mem : ∀ (k u : Nat), u ∈ leads k ↔ 1 ≤ u ∧ u ≤ k
  | 0, u => by
    show u ∈ [] ↔ _
    constructor
    · intro h; cases h
    · intro h; omega
  | k + 1, u => by
    show u ∈ leads k ++ [k + 1] ↔ _
    rw [List.mem_append, leads_mem k u, List.mem_singleton]
    omega
theorem leads_len : ∀ k, (leads k).length = k
  | 0 => rfl
  | k + 1 => by
    show (leads k ++ [k + 1]).length = _
    rw [List.length_append, leads_len k]
    rfl
theorem leads_nodup : ∀ k, (leads k).Nodup
  | 0 => List.nodup_nil
  | k + 1 => by
    show (leads k ++ [k + 1]).Nodup
    rw [List.nodup_append]
    refine ⟨leads_nodup k, by simp, fun a ha b hb => ?_⟩
    have := (leads_mem k a).mp ha
    have := List.mem_singleton.mp hb
    omega
theorem cl_msk {n k : Nat} (hk : k < n) : Cl (msk n k) (leads k) := by
  have e0 : (msk n k).getD 0 0 = 0 := by
    rw [msk_get n k 0 (by omega)]
    split <;> rfl
  refine ⟨by rw [msk_length]; omega, leads_nodup k, fun u => ?_⟩
  rw [leads_mem, e0]
  constructor
  · rintro ⟨h1, h2⟩
    refine ⟨?_, by omega⟩
    have : (msk n k).getD u 0 = u := by rw [msk_get n k u (by omega), if_pos h2]
    rw [← this]
    exact getD_mem (by rw [msk_length]; omega)
  · rintro ⟨hu, h0⟩
    obtain ⟨i, hi, ei⟩ := mem_getD hu
    rw [msk_length] at hi
    rw [msk_get n k i hi] at ei
    by_cases q : i ≤ k
    · rw [if_pos q] at ei; omega
    · rw [if_neg q] at ei; omega
theorem msk_full {n : Nat} (h : 0 < n) : msk n (n - 1) = List.range n := by
  unfold msk
  conv => rhs; rw [← List.map_id (List.range n)]
  apply List.map_congr_left
  intro i hi
  have := List.mem_range.mp hi
  simp only [id]
  rw [if_pos (by omega)]
theorem conn_msk {n k : Nat} {l : List Ed} (hf : Fits l n) (hc : Conn l (List.range n)) : Conn l (msk n k) := by
  intro φ q u hu v hv
  obtain ⟨i, hi, ei⟩ := mem_getD hu
  obtain ⟨j, hj, ej⟩ := mem_getD hv
  rw [msk_length] at hi hj
  have rg : ∀ i, i < n → (List.range n).getD i 0 = i := fun i hi => by simp [List.getD, List.getElem?_range hi]
  have := hc (fun i => φ ((msk n k).getD i 0)) (fun e he => by
    show φ ((msk n k).getD ((List.range n).getD e.1 0) 0) = φ ((msk n k).getD ((List.range n).getD e.2 0) 0)
    rw [rg _ (hf e he).1, rg _ (hf e he).2]
    exact q e he) i (List.mem_range.mpr hi) j (List.mem_range.mpr hj)
  rw [← ei, ← ej]
  exact this
/-- what a web of the law's is -/
structure Web (n : Nat) (w : Nat → Nat → Nat) : Prop where
  pos : 0 < n
  sym : ∀ a b, a < n → b < n → w a b = w b a
  dia : ∀ a, a < n → w a a = 0
  conn : Conn (eds n w) (List.range n)
section
variable {n : Nat} {w : Nat → Nat → Nat}
theorem Web.minor (W : Web n w) {k : Nat} (hk : k < n) : DA (Aw n w) (leads k) = ((TF (eds n w) 0 (msk n k)).length : Int) := by
  rw [T_lap (eds n w) 0 (msk n k) (leads k) (by rw [msk_length]; exact fits_eds n w) (cl_msk hk)]
  refine (DA_congr fun u hu v hv => ?_).symm
  have hu := (leads_mem k u).mp hu
  have hv := (leads_mem k v).mp hv
  exact Lap_web W.sym W.dia hk hu.1 hu.2 hv.1 hv.2
theorem Web.minor_pos (W : Web n w) {k : Nat} (hk : k < n) : 0 < DA (Aw n w) (leads k) := by
  rw [W.minor hk]
  have := TF_some (eds n w) 0 (msk n k) (by rw [msk_length]; exact fits_eds n w) (conn_msk (fits_eds n w) W.conn)
  omega
theorem Web.lead (W : Web n w) {k : Nat} (hk : k + 1 < n) : RB (Aw n w) k (k + 1) (k + 1) = ((TF (eds n w) 0 (msk n (k + 1))).length : Int) ∧ 0 < RB (Aw n w) k (k + 1) (k + 1) := by
  have := RB_pos (Aw n w) (n - 1) (fun k hk => W.minor_pos (by omega)) k (by omega)
  rw [W.minor hk] at this
  exact this
theorem Web.count (W : Web n w) (h : 2 ≤ n) : RB (Aw n w) (n - 2) (n - 1) (n - 1) = ((TF (eds n w) 0 (List.range n)).length : Int) := by
  have := (W.lead (k := n - 2) (by omega)).1
  have e : n - 2 + 1 = n - 1 := by omega
  rw [e, msk_full W.pos] at this
  exact this
theorem bc_pow (m : Nat) : ∀ k, bc m k ≤ 2 ^ m := by
  induction m with
  | zero => intro k; cases k <;> simp [bc]
  | succ m ih =>
    intro k
    cases k with
    | zero => exact Nat.one_le_two_pow
    | succ k =>
      show bc m k + bc m (k + 1) ≤ 2 ^ (m + 1)
      have := ih k
      have := ih (k + 1)
      rw [Nat.pow_succ]
      omega
theorem Web.lead_le (W : Web n w) {k : Nat} (hk : k + 1 < n) : RB (Aw n w) k (k + 1) (k + 1) ≤ 2 ^ (eds n w).length := by
  rw [(W.lead hk).1]
  have := TF_bound (eds n w) 0 (msk n (k + 1)) _ (by rw [msk_length]; exact fits_eds n w) (cl_msk hk)
  have := Nat.le_trans this (bc_pow _ _)
  exact_mod_cast this
theorem Web.bound (W : Web n w) : (TF (eds n w) 0 (List.range n)).length ≤ bc (eds n w).length (n - 1) := by
  have h := W.pos
  have := TF_bound (eds n w) 0 (msk n (n - 1)) _ (by rw [msk_length]; exact fits_eds n w) (cl_msk (by omega))
  rw [leads_len, msk_full h] at this
  exact this
/-! ### the entries stay small -/
theorem xe_abs (ms : List Nat) (e : Ed) (u : Nat) : -1 ≤ xe ms e u ∧ xe ms e u ≤ 1 := by
  unfold xe
  split <;> split <;> omega
theorem Lap_abs (ms : List Nat) (u v : Nat) : ∀ l : List Ed, -(l.length : Int) ≤ Lap ms l u v ∧ Lap ms l u v ≤ l.length
  | [] => by simp [Lap]
  | e :: r => by
    have ih := Lap_abs ms u v r
    have h1 := xe_abs ms e u
    have h2 := xe_abs ms e v
    simp only [Lap, List.length_cons]
    have : -1 ≤ xe ms e u * xe ms e v ∧ xe ms e u * xe ms e v ≤ 1 := by
      have c1 : xe ms e u = -1 ∨ xe ms e u = 0 ∨ xe ms e u = 1 := by omega
      rcases c1 with c | c | c <;> rw [c] <;> omega
    omega
theorem Web.entry (W : Web n w) {u v : Nat} (hu : 1 ≤ u) (hu2 : u < n) (hv : 1 ≤ v) (hv2 : v < n) : -((eds n w).length : Int) ≤ Aw n w u v ∧ Aw n w u v ≤ (eds n w).length := by
  rw [← Lap_web W.sym W.dia (k := n - 1) (by omega) hu (by omega) hv (by omega)]
  exact Lap_abs _ _ _ _
def Bd : Nat → Nat
  | 0 => 8
  | k + 1 => 2 * Bd k * Bd k
theorem RB_abs (A : Nat → Nat → Int) (n : Nat) (h0 : ∀ u v, 1 ≤ u → u < n → 1 ≤ v → v < n → (A u v).natAbs ≤ 8) (hp : ∀ k, k + 1 < n → 0 < RB A k (k + 1) (k + 1)) : ∀ k, k + 1 < n → ∀ u v, 1 ≤ u → u < n → 1 ≤ v → v < n → (RB A k u v).natAbs ≤ Bd k
  | 0, _, u, v, a, b, c, d => h0 u v a b c d
  | k + 1, hk, u, v, a, b, c, d => by
    have ih := RB_abs A n h0 hp k (by omega)
    rw [RB_succ]
    have pp : 0 < pv A k := by
      cases k with
      | zero => exact Int.one_pos
      | succ j => exact hp j (by omega)
    have i1 := ih (k + 1) (k + 1) (by omega) (by omega) (by omega) (by omega)
    have i2 := ih u v a b c d
    have i3 := ih u (k + 1) a b (by omega) (by omega)
    have i4 := ih (k + 1) v (by omega) (by omega) c d
    have m1 := Nat.mul_le_mul i1 i2
    have m2 := Nat.mul_le_mul i3 i4
    have e1 := Int.natAbs_mul (RB A k (k + 1) (k + 1)) (RB A k u v)
    have e2 := Int.natAbs_mul (RB A k u (k + 1)) (RB A k (k + 1) v)
    generalize RB A k (k + 1) (k + 1) * RB A k u v = X at e1 ⊢
    generalize RB A k u (k + 1) * RB A k (k + 1) v = Y at e2 ⊢
    have q : ((X - Y) / pv A k).natAbs ≤ (X - Y).natAbs := Int.natAbs_ediv_le_natAbs _ _
    show _ ≤ 2 * Bd k * Bd k
    have : 2 * Bd k * Bd k = Bd k * Bd k + Bd k * Bd k := by grind
    omega
end
end MT
end
/-! ## M4 -/
section
/-! M4: the trees that TF tells are trees: checked, spanning, unlike. The walk tie by tie. -/
set_option linter.all false
namespace MT
/-- the k-th tie's ends -/
abbrev eg (l : List Ed) (k : Nat) : Ed := l.getD k (0, 0)
def ChkOk (l : List Ed) : List Nat → Nat → List Nat → Prop
  | [], _, ms => single ms
  | k :: t, lo, ms => lo ≤ k ∧ k < l.length ∧ ms.getD (eg l k).1 0 ≠ ms.getD (eg l k).2 0 ∧ ChkOk l t (k + 1) (asOne ms (eg l k).1 (eg l k).2)
theorem ChkOk.lower {l : List Ed} {lo lo' : Nat} (h : lo' ≤ lo) : ∀ {t : List Nat} {ms : List Nat}, ChkOk l t lo ms → ChkOk l t lo' ms
  | [], _, c => c
  | k :: t, _, ⟨a, b⟩ => ⟨Nat.le_trans h a, b⟩
theorem drop_at {l : List Ed} {k : Nat} {e : Ed} {r : List Ed} (h : l.drop k = e :: r) : k < l.length ∧ eg l k = e ∧ l.drop (k + 1) = r := by
  have hk : k < l.length := by
    by_cases q : k < l.length
    · exact q
    · rw [List.drop_eq_nil_of_le (by omega)] at h
      cases h
  rw [List.drop_eq_getElem_cons hk] at h
  injection h with h1 h2
  exact ⟨hk, by simp [eg, List.getD, List.getElem?_eq_getElem hk, h1], h2⟩
theorem chk_of (l : List Ed) : ∀ (r : List Ed) (k : Nat), l.drop k = r → ∀ (ms t : List Nat), t ∈ TF r k ms → ChkOk l t k ms
  | [], k, _, ms, t, ht => by
    by_cases h : single ms
    · rw [TF_single h] at ht
      rw [List.mem_singleton.mp ht]
      exact h
    · rw [TF_nil h] at ht
      cases ht
  | e :: r, k, hd, ms, t, ht => by
    by_cases h : single ms
    · rw [TF_single h] at ht
      rw [List.mem_singleton.mp ht]
      exact h
    · rw [TF_cons h] at ht
      obtain ⟨h1, h2, h3⟩ := drop_at hd
      rcases List.mem_append.mp ht with ht | ht
      · by_cases q : ms.getD e.1 0 = ms.getD e.2 0
        · rw [if_neg (fun z => z q)] at ht
          cases ht
        · rw [if_pos q] at ht
          obtain ⟨t', ht', rfl⟩ := List.mem_map.mp ht
          refine ⟨Nat.le_refl _, h1, by rw [h2]; exact q, ?_⟩
          rw [h2]
          exact chk_of l r (k + 1) h3 _ _ ht'
      · exact (chk_of l r (k + 1) h3 ms t ht).lower (Nat.le_succ k)
theorem ChkOk.facts {l : List Ed} : ∀ {t : List Nat} {lo : Nat} {ms : List Nat}, ChkOk l t lo ms → (∀ k ∈ t, lo ≤ k ∧ k < l.length) ∧ t.Pairwise (· < ·)
  | [], _, _, _ => ⟨(fun _ h => nomatch h), List.Pairwise.nil⟩
  | k :: t, lo, ms, ⟨a, b, _, c⟩ => by
    obtain ⟨h1, h2⟩ := c.facts
    refine ⟨fun j hj => ?_, List.Pairwise.cons (fun j hj => ?_) h2⟩
    · rcases List.mem_cons.mp hj with rfl | hj
      · exact ⟨a, b⟩
      · have := h1 j hj; omega
    · have := h1 j hj; omega
theorem fits_map {l : List Ed} {n : Nat} (hf : Fits l n) {t : List Nat} (h : ∀ k ∈ t, k < l.length) : Fits (t.map (eg l)) n := fun e he => by
  obtain ⟨k, hk, rfl⟩ := List.mem_map.mp he
  have hl := h k hk
  have : eg l k = l[k] := by simp [eg, List.getD, List.getElem?_eq_getElem hl]
  rw [this]
  exact hf _ (List.getElem_mem hl)
theorem ChkOk.conn {l : List Ed} : ∀ {t : List Nat} {lo : Nat} {ms : List Nat}, Fits l ms.length → ChkOk l t lo ms → Conn (t.map (eg l)) ms
  | [], _, _, _, c => Conn.of_single c
  | k :: t, lo, ms, hf, ⟨a, b, q, c⟩ => by
    have h1 := (c.facts).1
    have hk : Fits [eg l k] ms.length := by
      have := fits_map hf (t := [k]) (fun j hj => by rw [List.mem_singleton.mp hj]; exact b)
      exact this
    have hk' := hk _ List.mem_cons_self
    have ih : Conn (t.map (eg l)) (asOne ms (eg l k).1 (eg l k).2) := ChkOk.conn (by rw [asOne_length]; exact hf) c
    exact (conn_step hk'.1 hk'.2 (fits_map hf fun j hj => (h1 j hj).2)).mp ih
/-- unlike trees -/
theorem TF_ge {r : List Ed} {k : Nat} {ms : List Nat} (h : ¬ single ms) (l : List Ed) (hd : l.drop k = r) : ∀ t ∈ TF r k ms, ∃ j t', t = j :: t' ∧ k ≤ j := fun t ht => by
  have c := chk_of l r k hd ms t ht
  cases t with
  | nil => exact absurd c h
  | cons j t' => exact ⟨j, t', rfl, c.1⟩
theorem nodup_cons_map (k : Nat) : ∀ ts : List (List Nat), ts.Nodup → (ts.map (k :: ·)).Nodup
  | [], _ => List.nodup_nil
  | t :: ts, h => by
    have h' := List.nodup_cons.mp h
    rw [List.map_cons, List.nodup_cons]
    refine ⟨fun hm => ?_, nodup_cons_map k ts h'.2⟩
    obtain ⟨t2, ht2, e⟩ := List.mem_map.mp hm
    injection e with _ e2
    exact h'.1 (e2 ▸ ht2)
theorem TF_nodup (l : List Ed) : ∀ (r : List Ed) (k : Nat), l.drop k = r → ∀ ms, (TF r k ms).Nodup
  | [], k, _, ms => by
    by_cases h : single ms
    · rw [TF_single h]; simp
    · rw [TF_nil h]; simp
  | e :: r, k, hd, ms => by
    by_cases h : single ms
    · rw [TF_single h]; simp
    · rw [TF_cons h]
      obtain ⟨h1, h2, h3⟩ := drop_at hd
      rw [List.nodup_append]
      refine ⟨?_, TF_nodup l r (k + 1) h3 ms, fun t ht t2 ht2 => ?_⟩
      · split
        · exact nodup_cons_map k _ (TF_nodup l r (k + 1) h3 _)
        · simp
      · obtain ⟨j, t', e2, hj⟩ := TF_ge h l h3 t2 ht2
        split at ht
        · obtain ⟨t1, ht1, rfl⟩ := List.mem_map.mp ht
          intro e3
          rw [e2] at e3
          injection e3 with e4
          omega
        · cases ht

/-! ### lists of numbers -/
theorem nodup_len : ∀ (m : Nat) (l : List Nat), l.Nodup → (∀ x ∈ l, x < m) → l.length ≤ m
  | 0, l, _, h => by
    cases l with
    | nil => exact Nat.le_refl _
    | cons a r => exact absurd (h a List.mem_cons_self) (by omega)
  | m + 1, l, nd, h => by
    have := nodup_len m (l.erase m) (nd.erase m) fun x hx => by
      have := (nd.mem_erase_iff.mp hx)
      have := h x this.2
      omega
    by_cases q : m ∈ l
    · rw [List.length_erase_of_mem q] at this
      omega
    · rw [List.erase_of_not_mem q] at this
      omega
theorem perm_of_sub : ∀ (a b : List Nat), a.Nodup → (∀ x ∈ a, x ∈ b) → b.length ≤ a.length → a.Perm b
  | [], b, _, _, h => by
    cases b with
    | nil => exact List.Perm.nil
    | cons x r => simp at h
  | x :: a, b, nd, hs, hl => by
    have hx := hs x List.mem_cons_self
    have nd' := List.nodup_cons.mp nd
    have ih := perm_of_sub a (b.erase x) nd'.2 (fun y hy => by
      have : y ≠ x := fun e => nd'.1 (e ▸ hy)
      exact (List.mem_erase_of_ne this).mpr (hs y (List.mem_cons_of_mem _ hy))) (by
      rw [List.length_erase_of_mem hx]
      simp at hl
      omega)
    exact (List.Perm.cons x ih).trans (List.perm_cons_erase hx).symm
theorem sorted_uniq : ∀ (a b : List Nat), a.Perm b → a.Pairwise (· ≤ ·) → b.Pairwise (· ≤ ·) → a = b
  | [], b, h, _, _ => by rw [List.nil_perm.mp h]
  | x :: a, [], h, _, _ => absurd (List.perm_nil.mp h) (by simp)
  | x :: a, y :: b, h, ha, hb => by
    have ha' := List.pairwise_cons.mp ha
    have hb' := List.pairwise_cons.mp hb
    have h1 : x ∈ y :: b := h.mem_iff.mp List.mem_cons_self
    have h2 : y ∈ x :: a := h.mem_iff.mpr List.mem_cons_self
    have e : x = y := by
      rcases List.mem_cons.mp h1 with e | h1
      · exact e
      · rcases List.mem_cons.mp h2 with e | h2
        · exact e.symm
        · have := ha'.1 y h2
          have := hb'.1 x h1
          omega
    subst e
    rw [sorted_uniq a b (List.Perm.cons_inv h) ha'.2 hb'.2]

/-! ### the walk -/
structure WS where
  mb : List Bool
  ht : List Int
  lk : List Nat
  lit : List Nat
def bAt (mb : List Bool) (h : Nat) : Bool := mb.getD h false
def hAt (ht : List Int) (h : Nat) : Int := ht.getD h 0
def nextT (l : List Ed) (lk : List Nat) (mb : List Bool) : Option Nat := (List.range l.length).find? fun k => !lk.contains k && (bAt mb (eg l k).1 != bAt mb (eg l k).2)
def hsOf (l : List Ed) (mb : List Bool) (k : Nat) : Nat := if bAt mb (eg l k).1 = true then (eg l k).2 else (eg l k).1
def wstep (l : List Ed) (B : Nat → Nat → Int → Bool) (s : WS) (k : Nat) : WS :=
  let h := hsOf l s.mb k
  let c := hAt s.ht h + 1
  { mb := if B k h c = true then s.mb.set h true else s.mb, ht := s.ht.set h c, lk := s.lk ++ [k], lit := if B k h c = true then s.lit ++ [k] else s.lit }
def walk (l : List Ed) (B : Nat → Nat → Int → Bool) : Nat → WS → WS
  | 0, s => s
  | f + 1, s => match nextT l s.lk s.mb with
    | none => s
    | some k => walk l B f (wstep l B s k)
def w0 (n base : Nat) : WS := ⟨(List.range n).map fun h => decide (h = base), List.replicate n 0, [], []⟩
theorem walk_none {l : List Ed} {B : Nat → Nat → Int → Bool} {s : WS} (h : nextT l s.lk s.mb = none) : ∀ f, walk l B f s = s
  | 0 => rfl
  | f + 1 => by
    show (match nextT l s.lk s.mb with | none => s | some k => _) = s
    rw [h]
theorem walk_some {l : List Ed} {B : Nat → Nat → Int → Bool} {s : WS} {k : Nat} (h : nextT l s.lk s.mb = some k) (f : Nat) : walk l B (f + 1) s = walk l B f (wstep l B s k) := by
  show (match nextT l s.lk s.mb with | none => s | some k => _) = _
  rw [h]
theorem nextT_some {l : List Ed} {lk : List Nat} {mb : List Bool} {k : Nat} (h : nextT l lk mb = some k) : k < l.length ∧ k ∉ lk ∧ bAt mb (eg l k).1 ≠ bAt mb (eg l k).2 := by
  unfold nextT at h
  have h1 := List.find?_some h
  have h2 := List.mem_range.mp (List.mem_of_find?_eq_some h)
  simp only [Bool.and_eq_true, Bool.not_eq_true', bne_iff_ne, ne_eq] at h1
  refine ⟨h2, fun hm => ?_, h1.2⟩
  have := List.contains_iff_mem.mpr hm
  rw [h1.1] at this
  cases this
theorem nextT_none {l : List Ed} {lk : List Nat} {mb : List Bool} (h : nextT l lk mb = none) : ∀ k, k < l.length → k ∉ lk → bAt mb (eg l k).1 = bAt mb (eg l k).2 := by
  intro k hk hn
  unfold nextT at h
  have := List.find?_eq_none.mp h k (List.mem_range.mpr hk)
  simp only [Bool.and_eq_true, Bool.not_eq_true', bne_iff_ne, ne_eq, not_and, Decidable.not_not] at this
  refine this ?_
  cases q : lk.contains k with
  | false => rfl
  | true => exact absurd (List.contains_iff_mem.mp q) hn
/-- does the tie touch the house? -/
def tch (l : List Ed) (k h : Nat) : Bool := decide ((eg l k).1 = h) || decide ((eg l k).2 = h)
def nburnt (mb : List Bool) : Nat := mb.countP id
structure WI (l : List Ed) (n base : Nat) (s : WS) : Prop where
  lm : s.mb.length = n
  lh : s.ht.length = n
  nd : s.lk.Nodup
  lt : ∀ k ∈ s.lk, k < l.length
  bs : bAt s.mb base = true
  lnd : s.lit.Nodup
  lsub : ∀ k ∈ s.lit, k ∈ s.lk
  cnt : s.lit.length + 1 = nburnt s.mb
  heat : ∀ h, h < n → bAt s.mb h = false → hAt s.ht h = sm l.length (fun k => if (k ∈ s.lk ∧ tch l k h = true) then 1 else 0)
  oth : ∀ k ∈ s.lk, ∀ h, bAt s.mb h = false → ((eg l k).1 = h → bAt s.mb (eg l k).2 = true) ∧ ((eg l k).2 = h → bAt s.mb (eg l k).1 = true)
theorem bAt_set {mb : List Bool} {h j : Nat} (hh : h < mb.length) : bAt (mb.set h true) j = if j = h then true else bAt mb j := by
  unfold bAt
  by_cases e : j = h
  · subst e
    rw [if_pos rfl]
    simp [List.getD, List.getElem?_set_self hh]
  · rw [if_neg e]
    simp [List.getD, List.getElem?_set_ne (Ne.symm e)]
theorem hAt_set {ht : List Int} {h j : Nat} {c : Int} (hh : h < ht.length) : hAt (ht.set h c) j = if j = h then c else hAt ht j := by
  unfold hAt
  by_cases e : j = h
  · subst e
    rw [if_pos rfl]
    simp [List.getD, List.getElem?_set_self hh]
  · rw [if_neg e]
    simp [List.getD, List.getElem?_set_ne (Ne.symm e)]
theorem bAt_lt {mb : List Bool} {h : Nat} (e : bAt mb h = true) : h < mb.length := by
  by_cases q : h < mb.length
  · exact q
  · unfold bAt at e
    rw [List.getD, List.getElem?_eq_none (by omega)] at e
    cases e
theorem nburnt_set : ∀ (mb : List Bool) (h : Nat), h < mb.length → bAt mb h = false → nburnt (mb.set h true) = nburnt mb + 1
  | [], _, hh, _ => by simp at hh
  | b :: r, 0, _, e => by
    have : b = false := e
    subst this
    simp [nburnt]
  | b :: r, h + 1, hh, e => by
    have ih := nburnt_set r h (by simpa using hh) e
    unfold nburnt at ih ⊢
    rw [List.set_cons_succ, List.countP_cons, List.countP_cons, ih]
    omega
/-- the house that is asked isn't burnt, the other end is -/
theorem hs_facts {l : List Ed} {n base : Nat} (hf : Fits l n) {s : WS} {k : Nat} (lm : s.mb.length = n) (h : nextT l s.lk s.mb = some k) :
    hsOf l s.mb k < n ∧ bAt s.mb (hsOf l s.mb k) = false ∧ tch l k (hsOf l s.mb k) = true ∧ (∀ j, bAt s.mb j = false → tch l k j = true → j = hsOf l s.mb k) ∧
    ((eg l k).1 = hsOf l s.mb k → bAt s.mb (eg l k).2 = true) ∧ ((eg l k).2 = hsOf l s.mb k → bAt s.mb (eg l k).1 = true) := by
  obtain ⟨h1, h2, h3⟩ := nextT_some h
  have hk := hf (eg l k) (by
    have : eg l k = l[k] := by simp [eg, List.getD, List.getElem?_eq_getElem h1]
    rw [this]
    exact List.getElem_mem h1)
  unfold hsOf tch
  cases e1 : bAt s.mb (eg l k).1 with
  | true =>
    rw [e1] at h3
    have e2 : bAt s.mb (eg l k).2 = false := by
      cases q : bAt s.mb (eg l k).2 with
      | false => rfl
      | true => exact absurd q.symm h3
    simp only [if_pos rfl, if_true]
    refine ⟨hk.2, e2, by simp, fun j hj ht => ?_, fun e => ?_, fun _ => trivial⟩
    · simp only [Bool.or_eq_true, decide_eq_true_eq] at ht
      rcases ht with ht | ht
      · rw [← ht, e1] at hj; cases hj
      · exact ht.symm
    · rw [← e]
      exact e1
  | false =>
    rw [e1] at h3
    have e2 : bAt s.mb (eg l k).2 = true := by
      cases q : bAt s.mb (eg l k).2 with
      | true => rfl
      | false => exact absurd q.symm h3
    simp only [if_neg (show ¬ (false = true) by simp)]
    refine ⟨hk.1, e1, by simp, fun j hj ht => ?_, fun _ => e2, fun e => ?_⟩
    · simp only [Bool.or_eq_true, decide_eq_true_eq] at ht
      rcases ht with ht | ht
      · exact ht.symm
      · rw [← ht, e2] at hj; cases hj
    · rw [e, e1] at e2
      cases e2
theorem sm_add_one (m k : Nat) (hk : k < m) (P : Nat → Prop) [DecidablePred P] (lk : List Nat) (hn : k ∉ lk) (hp : P k) :
    sm m (fun j => if (j ∈ lk ++ [k] ∧ P j) then 1 else 0) = sm m (fun j => if (j ∈ lk ∧ P j) then 1 else 0) + 1 := by
  have e : sm m (fun j => if (j ∈ lk ++ [k] ∧ P j) then 1 else 0) = sm m (fun j => (if (j ∈ lk ∧ P j) then 1 else 0) + (if k = j then 1 else 0)) := by
    refine sm_congr fun j _ => ?_
    by_cases h1 : k = j
    · subst h1
      rw [if_pos ⟨by simp, hp⟩, if_neg (fun z => hn z.1), if_pos rfl]
      rfl
    · have : (j ∈ lk ++ [k] ∧ P j) ↔ (j ∈ lk ∧ P j) := by
        rw [List.mem_append, List.mem_singleton]
        exact ⟨fun z => ⟨z.1.elim id fun e => absurd e.symm h1, z.2⟩, fun z => ⟨.inl z.1, z.2⟩⟩
      rw [if_neg h1]
      by_cases h2 : (j ∈ lk ∧ P j)
      · rw [if_pos h2, if_pos (this.mpr h2)]; rfl
      · rw [if_neg h2, if_neg (fun z => h2 (this.mp z))]; rfl
  rw [e, sm_add, sm_pick (fun _ => 1), if_pos hk]
theorem sm_add_none (m k : Nat) (P : Nat → Prop) [DecidablePred P] (lk : List Nat) (hp : ¬ P k) :
    sm m (fun j => if (j ∈ lk ++ [k] ∧ P j) then 1 else 0) = sm m (fun j => if (j ∈ lk ∧ P j) then 1 else 0) := by
  refine sm_congr fun j _ => ?_
  have : (j ∈ lk ++ [k] ∧ P j) ↔ (j ∈ lk ∧ P j) := by
    rw [List.mem_append, List.mem_singleton]
    exact ⟨fun z => ⟨z.1.elim id fun e => absurd (e ▸ z.2) hp, z.2⟩, fun z => ⟨.inl z.1, z.2⟩⟩
  by_cases h2 : (j ∈ lk ∧ P j)
  · rw [if_pos h2, if_pos (this.mpr h2)]
  · rw [if_neg h2, if_neg (fun z => h2 (this.mp z))]
theorem WI.step {l : List Ed} {n base : Nat} (hf : Fits l n) {B : Nat → Nat → Int → Bool} {s : WS} {k : Nat} (I : WI l n base s) (h : nextT l s.lk s.mb = some k) : WI l n base (wstep l B s k) := by
  obtain ⟨k1, k2, k3⟩ := nextT_some h
  obtain ⟨f1, f2, f3, f4, f5, f6⟩ := hs_facts (base := base) hf I.lm h
  have hm : hsOf l s.mb k < s.mb.length := by rw [I.lm]; exact f1
  have hh : hsOf l s.mb k < s.ht.length := by rw [I.lh]; exact f1
  -- the marks behind the step
  have mono : ∀ j, bAt s.mb j = true → bAt (wstep l B s k).mb j = true := fun j hj => by
    unfold wstep
    dsimp only
    split
    · rw [bAt_set hm]
      split
      · rfl
      · exact hj
    · exact hj
  have back : ∀ j, bAt (wstep l B s k).mb j = false → bAt s.mb j = false := fun j hj => by
    cases q : bAt s.mb j with
    | false => rfl
    | true => rw [mono j q] at hj; cases hj
  refine ⟨?_, ?_, ?_, ?_, mono _ I.bs, ?_, ?_, ?_, ?_, ?_⟩
  · unfold wstep; dsimp only; split <;> simp [I.lm]
  · unfold wstep; simp [I.lh]
  · unfold wstep
    dsimp only
    rw [List.nodup_append]
    exact ⟨I.nd, by simp, fun a ha b hb => by rw [List.mem_singleton.mp hb]; exact fun e => k2 (e ▸ ha)⟩
  · intro j hj
    unfold wstep at hj
    dsimp only at hj
    rcases List.mem_append.mp hj with hj | hj
    · exact I.lt j hj
    · rw [List.mem_singleton.mp hj]; exact k1
  · unfold wstep
    dsimp only
    split
    · rw [List.nodup_append]
      exact ⟨I.lnd, by simp, fun a ha b hb => by rw [List.mem_singleton.mp hb]; exact fun e => k2 (e ▸ I.lsub a ha)⟩
    · exact I.lnd
  · intro j hj
    unfold wstep at hj ⊢
    dsimp only at hj ⊢
    split at hj
    · rcases List.mem_append.mp hj with hj | hj
      · exact List.mem_append_left _ (I.lsub j hj)
      · exact List.mem_append_right _ hj
    · exact List.mem_append_left _ (I.lsub j hj)
  · unfold wstep
    dsimp only
    split
    · rw [List.length_append, nburnt_set _ _ hm f2, ← I.cnt]
      rfl
    · exact I.cnt
  · intro j hj hb
    have hb0 := back j hb
    have old := I.heat j hj hb0
    show hAt (s.ht.set (hsOf l s.mb k) (hAt s.ht (hsOf l s.mb k) + 1)) j = sm l.length (fun i => if (i ∈ s.lk ++ [k] ∧ tch l i j = true) then 1 else 0)
    rw [hAt_set hh]
    by_cases e : j = hsOf l s.mb k
    · rw [if_pos e, sm_add_one l.length k k1 (fun i => tch l i j = true) s.lk k2 (by rw [e]; exact f3), ← old, e]
    · rw [if_neg e, sm_add_none l.length k (fun i => tch l i j = true) s.lk fun z => e (f4 j hb0 z), old]
  · intro i hi j hb
    have hb0 := back j hb
    have hi : i ∈ s.lk ++ [k] := hi
    rcases List.mem_append.mp hi with hi | hi
    · have := I.oth i hi j hb0
      exact ⟨fun e => mono _ (this.1 e), fun e => mono _ (this.2 e)⟩
    · rw [List.mem_singleton.mp hi]
      have hj : tch l k j = true → j = hsOf l s.mb k := f4 j hb0
      refine ⟨fun e => mono _ (f5 ?_), fun e => mono _ (f6 ?_)⟩
      · rw [← hj (by unfold tch; rw [e]; simp)]; exact e
      · rw [← hj (by unfold tch; rw [e]; simp)]; exact e
theorem nburnt_w0 (n base : Nat) (h : base < n) : nburnt (w0 n base).mb = 1 := by
  have : ∀ m, ((List.range m).map fun h => decide (h = base)).countP id = if base < m then 1 else 0 := by
    intro m
    induction m with
    | zero => rfl
    | succ m ih =>
      rw [List.range_succ, List.map_append, List.countP_append, ih]
      by_cases q : base < m
      · rw [if_pos q, if_pos (by omega)]
        have : m ≠ base := by omega
        simp [this]
      · by_cases q2 : m = base
        · rw [if_neg q, if_pos (by omega)]
          simp [q2]
        · rw [if_neg q, if_neg (by omega)]
          simp [q2]
  show ((List.range n).map fun h => decide (h = base)).countP id = 1
  rw [this, if_pos h]
theorem w0_b (n base : Nat) {h : Nat} (hh : h < n) : bAt (w0 n base).mb h = decide (h = base) := by
  unfold bAt w0
  simp [List.getD, List.getElem?_map, List.getElem?_range hh]
theorem w0_inv (l : List Ed) (n base : Nat) (h : base < n) : WI l n base (w0 n base) := by
  refine ⟨by simp [w0], by simp [w0], by simp [w0], fun k hk => ?_, by rw [w0_b n base h]; simp, by simp [w0], fun k hk => ?_, by rw [nburnt_w0 n base h]; rfl, fun j hj _ => ?_, fun k hk => ?_⟩
  · exact absurd (show k ∈ [] from hk) (by simp)
  · exact absurd (show k ∈ [] from hk) (by simp)
  · have : sm l.length (fun k => if (k ∈ (w0 n base).lk ∧ tch l k j = true) then 1 else 0) = sm l.length (fun _ => 0) := sm_congr fun k _ => if_neg fun z => absurd (show k ∈ [] from z.1) (by simp)
    rw [this, sm_zero]
    unfold hAt w0
    simp [List.getD, List.getElem?_replicate, hj]
  · exact absurd (show k ∈ [] from hk) (by simp)
/-- the walk's fuel is enough -/
theorem walk_end {l : List Ed} {n base : Nat} (hf : Fits l n) (B : Nat → Nat → Int → Bool) : ∀ (f : Nat) (s : WS), WI l n base s → l.length < f + s.lk.length → nextT l (walk l B f s).lk (walk l B f s).mb = none ∧ WI l n base (walk l B f s)
  | 0, s, I, h => by
    have := nodup_len l.length s.lk I.nd I.lt
    omega
  | f + 1, s, I, h => by
    cases q : nextT l s.lk s.mb with
    | none => rw [walk_none q]; exact ⟨q, I⟩
    | some k =>
      rw [walk_some q]
      refine walk_end hf B f _ (I.step hf q) ?_
      show l.length < f + (s.lk ++ [k]).length
      rw [List.length_append]
      simp
      omega
/-- burnt houses stay, with their heat; others get more -/
theorem walk_mono {l : List Ed} {n base : Nat} (hf : Fits l n) (B : Nat → Nat → Int → Bool) : ∀ (f : Nat) (s : WS), WI l n base s → ∀ h, h < n →
    (bAt s.mb h = true → bAt (walk l B f s).mb h = true ∧ hAt (walk l B f s).ht h = hAt s.ht h) ∧
    (bAt s.mb h = false → hAt s.ht h ≤ hAt (walk l B f s).ht h ∧ (bAt (walk l B f s).mb h = true → hAt s.ht h + 1 ≤ hAt (walk l B f s).ht h))
  | 0, s, I, h, hh => ⟨fun e => ⟨e, rfl⟩, fun e => ⟨Int.le_refl _, fun e2 => absurd (e.symm.trans e2) (by simp)⟩⟩
  | f + 1, s, I, h, hh => by
    cases q : nextT l s.lk s.mb with
    | none =>
      rw [walk_none q]
      exact ⟨fun e => ⟨e, rfl⟩, fun e => ⟨Int.le_refl _, fun e2 => absurd (e.symm.trans e2) (by simp)⟩⟩
    | some k =>
      rw [walk_some q]
      have ih := walk_mono hf B f _ (I.step (B := B) hf q) h hh
      obtain ⟨f1, f2, f3, f4, f5, f6⟩ := hs_facts (base := base) hf I.lm q
      have hm : hsOf l s.mb k < s.mb.length := by rw [I.lm]; exact f1
      have hl : hsOf l s.mb k < s.ht.length := by rw [I.lh]; exact f1
      have eh : hAt (wstep l B s k).ht h = if h = hsOf l s.mb k then hAt s.ht (hsOf l s.mb k) + 1 else hAt s.ht h := hAt_set hl
      by_cases e : h = hsOf l s.mb k
      · rw [if_pos e] at eh
        refine ⟨(fun e2 => absurd ((e ▸ f2 : bAt s.mb h = false).symm.trans e2) (by simp)), fun _ => ?_⟩
        rw [e] at eh ih ⊢
        cases q2 : bAt (wstep l B s k).mb (hsOf l s.mb k) with
        | true =>
          have := (ih.1 q2).2
          rw [this, eh]
          exact ⟨by omega, fun _ => by omega⟩
        | false =>
          have := (ih.2 q2).1
          rw [eh] at this
          exact ⟨by omega, fun _ => by omega⟩
      · rw [if_neg e] at eh
        have eb : bAt (wstep l B s k).mb h = bAt s.mb h := by
          unfold wstep
          dsimp only
          split
          · rw [bAt_set hm, if_neg e]
          · rfl
        rw [eb, eh] at ih
        exact ih
/-- the walk by a purse goes like the walk by the tree -/
theorem walk_lock {l : List Ed} {n base : Nat} (hf : Fits l n) (B B' : Nat → Nat → Int → Bool) (F : WS) (hB : ∀ k h c, h < n → h ≠ base → B' k h c = decide (hAt F.ht h - 1 < c)) (all : ∀ h, h < n → bAt F.mb h = true) :
    ∀ (f : Nat) (s : WS), WI l n base s → walk l B f s = F → walk l B' f s = F
  | 0, s, I, e => e
  | f + 1, s, I, e => by
    cases q : nextT l s.lk s.mb with
    | none => rw [walk_none q] at e ⊢; exact e
    | some k =>
      rw [walk_some q] at e ⊢
      obtain ⟨f1, f2, f3, f4, f5, f6⟩ := hs_facts (base := base) hf I.lm q
      have hm : hsOf l s.mb k < s.mb.length := by rw [I.lm]; exact f1
      have hl : hsOf l s.mb k < s.ht.length := by rw [I.lh]; exact f1
      have nb : hsOf l s.mb k ≠ base := fun z => by
        have := I.bs
        rw [← z, f2] at this
        cases this
      have I1 := I.step (B := B) hf q
      have mono := walk_mono hf B f _ I1 (hsOf l s.mb k) f1
      rw [e] at mono
      have eh : hAt (wstep l B s k).ht (hsOf l s.mb k) = hAt s.ht (hsOf l s.mb k) + 1 := (hAt_set hl).trans (if_pos rfl)
      have same : B' k (hsOf l s.mb k) (hAt s.ht (hsOf l s.mb k) + 1) = B k (hsOf l s.mb k) (hAt s.ht (hsOf l s.mb k) + 1) := by
        rw [hB _ _ _ f1 nb]
        cases q2 : B k (hsOf l s.mb k) (hAt s.ht (hsOf l s.mb k) + 1) with
        | true =>
          have : bAt (wstep l B s k).mb (hsOf l s.mb k) = true := by
            unfold wstep
            dsimp only
            rw [if_pos q2, bAt_set hm, if_pos rfl]
          have := (mono.1 this).2
          rw [eh] at this
          exact decide_eq_true (by omega)
        | false =>
          have : bAt (wstep l B s k).mb (hsOf l s.mb k) = false := by
            unfold wstep
            dsimp only
            rw [if_neg (by rw [q2]; simp)]
            exact f2
          have := (mono.2 this).2 (all _ f1)
          rw [eh] at this
          exact decide_eq_false (by omega)
      have es : wstep l B' s k = wstep l B s k := by
        unfold wstep
        dsimp only
        rw [same]
      rw [es]
      exact walk_lock hf B B' F hB all f _ I1 e
end MT
end
/-! ## M5 -/
section
/-! M5: what the walk by a tree leaves: all burnt, lit the tree, the purse settled; the fire. -/
set_option linter.all false
namespace MT
section
variable {n base : Nat} {w : Nat → Nat → Nat} {t : List Nat}
/-- the walk by a tree -/
def BT (t : List Nat) : Nat → Nat → Int → Bool := fun k _ _ => t.contains k
def endW (n : Nat) (w : Nat → Nat → Nat) (base : Nat) (B : Nat → Nat → Int → Bool) : WS := walk (eds n w) B ((eds n w).length + 1) (w0 n base)
theorem end_inv (B : Nat → Nat → Int → Bool) (hb : base < n) : nextT (eds n w) (endW n w base B).lk (endW n w base B).mb = none ∧ WI (eds n w) n base (endW n w base B) :=
  walk_end (fits_eds n w) B _ _ (w0_inv _ n base hb) (by
    show (eds n w).length < (eds n w).length + 1 + [].length
    simp)
/-- lit ties are the tree's, and a looked tie of the tree has burnt ends -/
structure WT (l : List Ed) (t : List Nat) (s : WS) : Prop where
  sub : ∀ k ∈ s.lit, k ∈ t
  both : ∀ k ∈ s.lk, k ∈ t → bAt s.mb (eg l k).1 = true ∧ bAt s.mb (eg l k).2 = true
theorem wt_walk {l : List Ed} (hf : Fits l n) : ∀ (f : Nat) (s : WS), WI l n base s → WT l t s → WT l t (walk l (BT t) f s)
  | 0, s, I, T => T
  | f + 1, s, I, T => by
    cases q : nextT l s.lk s.mb with
    | none => rw [walk_none q]; exact T
    | some k =>
      rw [walk_some q]
      refine wt_walk hf f _ (I.step hf q) ⟨fun j hj => ?_, fun j hj hjt => ?_⟩
      · unfold wstep at hj
        dsimp only at hj
        split at hj
        · rename_i hc
          rcases List.mem_append.mp hj with hj | hj
          · exact T.sub j hj
          · rw [List.mem_singleton.mp hj]
            exact List.contains_iff_mem.mp hc
        · exact T.sub j hj
      · obtain ⟨f1, f2, f3, f4, f5, f6⟩ := hs_facts (base := base) hf I.lm q
        have hm : hsOf l s.mb k < s.mb.length := by rw [I.lm]; exact f1
        have mono : ∀ j, bAt s.mb j = true → bAt (wstep l (BT t) s k).mb j = true := fun j hj => by
          unfold wstep
          dsimp only
          split
          · rw [bAt_set hm]
            split
            · rfl
            · exact hj
          · exact hj
        have hj' : j ∈ s.lk ++ [k] := hj
        rcases List.mem_append.mp hj' with hj' | hj'
        · have := T.both j hj' hjt
          exact ⟨mono _ this.1, mono _ this.2⟩
        · have e := List.mem_singleton.mp hj'
          subst e
          have now : bAt (wstep l (BT t) s j).mb (hsOf l s.mb j) = true := by
            unfold wstep
            dsimp only
            rw [if_pos (show BT t j (hsOf l s.mb j) (hAt s.ht (hsOf l s.mb j) + 1) = true from List.contains_iff_mem.mpr hjt), bAt_set hm, if_pos rfl]
          have e1 : (eg l j).1 = hsOf l s.mb j ∨ (eg l j).2 = hsOf l s.mb j := by
            unfold tch at f3
            rw [Bool.or_eq_true, decide_eq_true_eq, decide_eq_true_eq] at f3
            exact f3
          rcases e1 with e1 | e1
          · exact ⟨by rw [e1]; exact now, mono _ (f5 e1)⟩
          · exact ⟨mono _ (f6 e1), by rw [e1]; exact now⟩
theorem count_all : ∀ (mb : List Bool), (∀ h, h < mb.length → bAt mb h = true) → nburnt mb = mb.length
  | [], _ => rfl
  | b :: r, h => by
    have h0 : b = true := h 0 (by simp)
    have ih := count_all r fun j hj => h (j + 1) (by simpa using hj)
    unfold nburnt at ih ⊢
    rw [List.countP_cons, ih, h0]
    simp
/-- a tree of the web -/
structure Tr (n : Nat) (w : Nat → Nat → Nat) (t : List Nat) : Prop where
  chk : ChkOk (eds n w) t 0 (List.range n)
  len : t.length + 1 = n
theorem tr_of (W : Web n w) (h : t ∈ TF (eds n w) 0 (List.range n)) : Tr n w t := by
  have hp := W.pos
  refine ⟨chk_of _ _ 0 (by simp) _ _ h, ?_⟩
  have c := cl_msk (n := n) (k := n - 1) (by omega)
  rw [msk_full hp] at c
  have := TF_lens (eds n w) 0 (List.range n) _ (by simpa using fits_eds n w) c t h
  rw [leads_len] at this
  omega
theorem Tr.all (T : Tr n w t) (hb : base < n) : ∀ h, h < n → bAt (endW n w base (BT t)).mb h = true := by
  obtain ⟨e1, I⟩ := end_inv (w := w) (BT t) hb
  have T0 : WT (eds n w) t (w0 n base) := ⟨fun k hk => absurd (show k ∈ [] from hk) (by simp), fun k hk => absurd (show k ∈ [] from hk) (by simp)⟩
  have WTe := wt_walk (t := t) (fits_eds n w) ((eds n w).length + 1) _ (w0_inv _ n base hb) T0
  have C := ChkOk.conn (by simpa using fits_eds n w) T.chk
  have fa := T.chk.facts.1
  have rg : ∀ i, i < n → (List.range n).getD i 0 = i := fun i hi => by simp [List.getD, List.getElem?_range hi]
  have fm := fits_map (fits_eds n w) (t := t) fun k hk => (fa k hk).2
  have key := C (fun u => if bAt (endW n w base (BT t)).mb u = true then 1 else 0) (fun e he => by
    show (if bAt _ ((List.range n).getD e.1 0) = true then 1 else 0) = (if bAt _ ((List.range n).getD e.2 0) = true then 1 else 0)
    rw [rg _ (fm e he).1, rg _ (fm e he).2]
    obtain ⟨k, hk, rfl⟩ := List.mem_map.mp he
    have : bAt (endW n w base (BT t)).mb (eg (eds n w) k).1 = bAt (endW n w base (BT t)).mb (eg (eds n w) k).2 := by
      by_cases hl : k ∈ (endW n w base (BT t)).lk
      · have := WTe.both k hl hk
        exact this.1.trans this.2.symm
      · exact nextT_none e1 k (fa k hk).2 hl
    rw [this])
  intro h hh
  have := key h (List.mem_range.mpr hh) base (List.mem_range.mpr hb)
  rw [show (if bAt (endW n w base (BT t)).mb base = true then 1 else 0) = 1 from if_pos I.bs] at this
  cases q : bAt (endW n w base (BT t)).mb h with
  | true => rfl
  | false =>
    rw [q] at this
    simp at this
theorem Tr.lit (T : Tr n w t) (hb : base < n) : (endW n w base (BT t)).lit.Perm t := by
  obtain ⟨e1, I⟩ := end_inv (w := w) (BT t) hb
  have T0 : WT (eds n w) t (w0 n base) := ⟨fun k hk => absurd (show k ∈ [] from hk) (by simp), fun k hk => absurd (show k ∈ [] from hk) (by simp)⟩
  have WTe := wt_walk (t := t) (fits_eds n w) ((eds n w).length + 1) _ (w0_inv _ n base hb) T0
  refine perm_of_sub _ _ I.lnd WTe.sub ?_
  have c := count_all (endW n w base (BT t)).mb fun h hh => T.all hb h (by rw [← I.lm]; exact hh)
  have c2 := I.cnt
  rw [c, I.lm] at c2
  have := T.len
  omega
theorem Tr.sorted (T : Tr n w t) (hb : base < n) {s : List Nat} (p : s.Perm (endW n w base (BT t)).lit) (hs : s.Pairwise (· ≤ ·)) : s = t :=
  sorted_uniq s t (p.trans (T.lit hb)) hs (T.chk.facts.2.imp fun h => Nat.le_of_lt h)
/-- the still purse -/
def pur (n : Nat) (w : Nat → Nat → Nat) (base : Nat) (t : List Nat) (h : Nat) : Int := if h = base then 0 else hAt (endW n w base (BT t)).ht h - 1
theorem Tr.heat_pos (T : Tr n w t) (hb : base < n) {h : Nat} (hh : h < n) (hne : h ≠ base) : 1 ≤ hAt (endW n w base (BT t)).ht h := by
  have := walk_mono (base := base) (fits_eds n w) (BT t) ((eds n w).length + 1) (w0 n base) (w0_inv _ n base hb) h hh
  have e : bAt (w0 n base).mb h = false := by
    rw [w0_b n base hh]
    exact decide_eq_false hne
  have z := (this.2 e).2 (T.all hb h hh)
  have z0 : hAt (w0 n base).ht h = 0 := by
    unfold hAt w0
    simp [List.getD, List.getElem?_replicate, hh]
  rw [z0] at z
  exact z
theorem Tr.pur_nn (T : Tr n w t) (hb : base < n) {h : Nat} (hh : h < n) : 0 ≤ pur n w base t h := by
  unfold pur
  split
  · omega
  · rename_i hne
    have := T.heat_pos hb hh hne
    omega
/-- the walk by any purse that has the still purse's coins but at the base -/
def BP (p : Nat → Int) : Nat → Nat → Int → Bool := fun _ h c => decide (p h < c)
theorem Tr.lock (T : Tr n w t) (hb : base < n) {p : Nat → Int} (hp : ∀ h, h < n → h ≠ base → p h = pur n w base t h) : endW n w base (BP p) = endW n w base (BT t) :=
  walk_lock (fits_eds n w) (BT t) (BP p) _ (fun k h c hh hne => by
    unfold BP
    rw [hp h hh hne]
    unfold pur
    rw [if_neg hne]) (T.all hb) _ _ (w0_inv _ n base hb) rfl
/-- unlike trees have unlike purses -/
theorem Tr.inj {t' : List Nat} (T : Tr n w t) (T' : Tr n w t') (hb : base < n) (h : ∀ j, j < n → pur n w base t j = pur n w base t' j) : t = t' := by
  have e1 := T.lock hb (p := pur n w base t) fun j _ _ => rfl
  have e2 := T'.lock hb (p := pur n w base t) fun j hj _ => h j hj
  rw [e1] at e2
  have l1 := T.lit hb
  have l2 := T'.lit hb
  rw [e2] at l1
  exact sorted_uniq t t' (l1.symm.trans l2) (T.chk.facts.2.imp fun h => Nat.le_of_lt h) (T'.chk.facts.2.imp fun h => Nat.le_of_lt h)

/-! ### the fire -/
/-- the ties from a house to those that S leaves out -/
def outS (n : Nat) (w : Nat → Nat → Nat) (S : Nat → Bool) (h : Nat) : Int := sm n (fun j => if S j = true then 0 else (w h j : Int))
theorem out_edges (W : Web n w) (S : Nat → Bool) {h : Nat} (hh : h < n) (hS : S h = true) :
    sm (eds n w).length (fun k => if ((eg (eds n w) k).1 = h ∧ S (eg (eds n w) k).2 = false) ∨ ((eg (eds n w) k).2 = h ∧ S (eg (eds n w) k).1 = false) then 1 else 0) = outS n w S h := by
  have e1 := esum_idx (fun e : Ed => if (e.1 = h ∧ S e.2 = false) ∨ (e.2 = h ∧ S e.1 = false) then 1 else 0) (0, 0) (eds n w)
  rw [← e1, esum_eds]
  have hsum := sm_sym (fun a b => (w a b : Int) * (if (a = h ∧ S b = false) ∨ (b = h ∧ S a = false) then 1 else 0)) n
    (fun a b ha hb => by
      have : ((a = h ∧ S b = false) ∨ (b = h ∧ S a = false)) ↔ ((b = h ∧ S a = false) ∨ (a = h ∧ S b = false)) := Or.comm
      rw [W.sym a b ha hb]
      by_cases q : (a = h ∧ S b = false) ∨ (b = h ∧ S a = false)
      · rw [if_pos q, if_pos (this.mp q)]
      · rw [if_neg q, if_neg (fun z => q (this.mpr z))])
    (fun a ha => by rw [W.dia a ha]; simp)
  have full : sm n (fun a => sm n (fun b => (w a b : Int) * (if (a = h ∧ S b = false) ∨ (b = h ∧ S a = false) then 1 else 0))) = 2 * outS n w S h := by
    have e2 : sm n (fun a => sm n (fun b => (w a b : Int) * (if (a = h ∧ S b = false) ∨ (b = h ∧ S a = false) then 1 else 0))) =
        sm n (fun a => sm n (fun b => (if h = a then (if S b = true then 0 else (w a b : Int)) else 0) + (if h = b then (if S a = true then 0 else (w a b : Int)) else 0))) := by
      refine sm_congr fun a _ => sm_congr fun b _ => ?_
      by_cases h1 : a = h
      · subst h1
        by_cases h2 : b = a
        · subst h2
          rw [hS]
          simp
        · have h3 : ¬ a = b := fun z => h2 z.symm
          cases hq : S b <;> simp [h2, h3, hq]
      · by_cases h2 : b = h
        · subst h2
          have h3 : ¬ b = a := fun z => h1 z.symm
          cases hq : S a <;> simp [h1, h3, hq]
        · have h3 : ¬ h = a := fun z => h1 z.symm
          have h4 : ¬ h = b := fun z => h2 z.symm
          simp [h1, h2, h3, h4]
    have s1 : sm n (fun a => sm n (fun b => if h = a then (if S b = true then 0 else (w a b : Int)) else 0)) = outS n w S h := by
      have : sm n (fun a => sm n (fun b => if h = a then (if S b = true then 0 else (w a b : Int)) else 0)) = sm n (fun a => if h = a then outS n w S a else 0) := by
        refine sm_congr fun a _ => ?_
        by_cases h1 : h = a
        · simp only [if_pos h1]; rfl
        · simp only [if_neg h1]; exact sm_zero n
      rw [this, sm_pick, if_pos hh]
    have s2 : sm n (fun a => sm n (fun b => if h = b then (if S a = true then 0 else (w a b : Int)) else 0)) = outS n w S h := by
      rw [sm_swap (fun a b => if h = b then (if S a = true then 0 else (w a b : Int)) else 0) n n]
      rw [← s1]
      refine sm_congr fun a ha => sm_congr fun b hb => ?_
      rw [W.sym a b ha hb]
    have : ∀ a, sm n (fun b => (if h = a then (if S b = true then 0 else (w a b : Int)) else 0) + (if h = b then (if S a = true then 0 else (w a b : Int)) else 0)) = sm n (fun b => if h = a then (if S b = true then 0 else (w a b : Int)) else 0) + sm n (fun b => if h = b then (if S a = true then 0 else (w a b : Int)) else 0) := fun a => sm_add _ _ n
    rw [e2, sm_congr (fun a _ => this a), sm_add, s1, s2]
    omega
  have hsum := full.symm.trans hsum
  have e3 : sm n (fun a => sm n (fun b => if a < b then (w a b : Int) * (if ((a, b) : Ed).1 = h ∧ S ((a, b) : Ed).2 = false ∨ ((a, b) : Ed).2 = h ∧ S ((a, b) : Ed).1 = false then 1 else 0) else 0)) = sm n (fun a => sm n (fun b => if a < b then (w a b : Int) * (if (a = h ∧ S b = false) ∨ (b = h ∧ S a = false) then 1 else 0) else 0)) := rfl
  rw [e3]
  omega
/-- in each set of houses without the base some house has fewer coins than ties to the others -/
theorem fire_walk (W : Web n w) (S : Nat → Bool) (B : Nat → Nat → Int → Bool) (F : WS) (all : ∀ h, h < n → bAt F.mb h = true) (h0 : Nat) (hh0 : h0 < n) (hS0 : S h0 = true) :
    ∀ (f : Nat) (s : WS), WI (eds n w) n base s → (∀ h, h < n → S h = true → bAt s.mb h = false) → walk (eds n w) B f s = F → ∃ h, h < n ∧ S h = true ∧ hAt F.ht h ≤ outS n w S h
  | 0, s, I, hun, e => by
    have := all h0 hh0
    rw [← e] at this
    exact absurd ((hun h0 hh0 hS0).symm.trans this) (by simp)
  | f + 1, s, I, hun, e => by
    cases q : nextT (eds n w) s.lk s.mb with
    | none =>
      rw [walk_none q] at e
      have := all h0 hh0
      rw [← e] at this
      exact absurd ((hun h0 hh0 hS0).symm.trans this) (by simp)
    | some k =>
      rw [walk_some q] at e
      have hf := fits_eds n w
      obtain ⟨k1, k2, k3⟩ := nextT_some q
      obtain ⟨f1, f2, f3, f4, f5, f6⟩ := hs_facts (base := base) hf I.lm q
      have hm : hsOf (eds n w) s.mb k < s.mb.length := by rw [I.lm]; exact f1
      have hl : hsOf (eds n w) s.mb k < s.ht.length := by rw [I.lh]; exact f1
      have I1 := I.step (B := B) hf q
      by_cases hc : S (hsOf (eds n w) s.mb k) = true ∧ B k (hsOf (eds n w) s.mb k) (hAt s.ht (hsOf (eds n w) s.mb k) + 1) = true
      · refine ⟨hsOf (eds n w) s.mb k, f1, hc.1, ?_⟩
        have nb : bAt (wstep (eds n w) B s k).mb (hsOf (eds n w) s.mb k) = true := by
          unfold wstep
          dsimp only
          rw [if_pos hc.2, bAt_set hm, if_pos rfl]
        have mono := (walk_mono hf B f _ I1 _ f1).1 nb
        rw [e] at mono
        have eh : hAt (wstep (eds n w) B s k).ht (hsOf (eds n w) s.mb k) = hAt s.ht (hsOf (eds n w) s.mb k) + 1 := (hAt_set hl).trans (if_pos rfl)
        rw [mono.2, eh, I.heat _ f1 f2, ← sm_add_one (eds n w).length k k1 (fun i => tch (eds n w) i (hsOf (eds n w) s.mb k) = true) s.lk k2 f3, ← out_edges W S f1 hc.1]
        refine sm_le fun i hi => ?_
        by_cases hi2 : i ∈ s.lk ++ [k] ∧ tch (eds n w) i (hsOf (eds n w) s.mb k) = true
        · rw [if_pos hi2]
          -- the other end is burnt, so not in S
          have burntS : ∀ j, j < n → bAt s.mb j = true → S j = false := fun j hj hbj => by
            cases qs : S j with
            | false => rfl
            | true => exact absurd ((hun j hj qs).symm.trans hbj) (by simp)
          have hfi := hf (eg (eds n w) i) (by
            have : eg (eds n w) i = (eds n w)[i] := by simp [eg, List.getD, List.getElem?_eq_getElem hi]
            rw [this]
            exact List.getElem_mem hi)
          have oth : ((eg (eds n w) i).1 = hsOf (eds n w) s.mb k → bAt s.mb (eg (eds n w) i).2 = true) ∧ ((eg (eds n w) i).2 = hsOf (eds n w) s.mb k → bAt s.mb (eg (eds n w) i).1 = true) := by
            rcases List.mem_append.mp hi2.1 with hi3 | hi3
            · exact I.oth i hi3 _ f2
            · rw [List.mem_singleton.mp hi3]; exact ⟨f5, f6⟩
          have ht := hi2.2
          unfold tch at ht
          rw [Bool.or_eq_true, decide_eq_true_eq, decide_eq_true_eq] at ht
          rw [if_pos]
          · exact Int.le_refl _
          · rcases ht with ht | ht
            · exact .inl ⟨ht, burntS _ hfi.2 (oth.1 ht)⟩
            · exact .inr ⟨ht, burntS _ hfi.1 (oth.2 ht)⟩
        · rw [if_neg hi2]
          split <;> omega
      · refine fire_walk W S B F all h0 hh0 hS0 f _ I1 (fun h hh hS => ?_) e
        have old := hun h hh hS
        unfold wstep
        dsimp only
        split
        · rename_i hb
          rw [bAt_set hm]
          split
          · rename_i eh
            exact absurd ⟨eh ▸ hS, hb⟩ hc
          · exact old
        · exact old
theorem Tr.fire (W : Web n w) (T : Tr n w t) (hb : base < n) (S : Nat → Bool) (hSb : S base = false) (h0 : Nat) (hh0 : h0 < n) (hS0 : S h0 = true) : ∃ h, h < n ∧ S h = true ∧ h ≠ base ∧ pur n w base t h < outS n w S h := by
  obtain ⟨h, a, b, c⟩ := fire_walk (base := base) W S (BT t) (endW n w base (BT t)) (T.all hb) h0 hh0 hS0 _ (w0 n base) (w0_inv _ n base hb) (fun j hj hS => by
    rw [w0_b n base hj]
    exact decide_eq_false fun z => by rw [z, hSb] at hS; cases hS) rfl
  have hne : h ≠ base := fun z => by rw [z, hSb] at b; cases b
  refine ⟨h, a, b, hne, ?_⟩
  unfold pur
  rw [if_neg hne]
  omega
end
end MT
end
/-! ## M7 -/
section
/-! M7: webs from lists of pairs and times. -/
set_option linter.all false
namespace MT
abbrev PT := (Nat × Nat) × Nat
/-- the times that a list tells -/
def wL : List PT → Nat → Nat → Nat
  | [], _, _ => 0
  | e :: r, a, b => (if (e.1.1 = a ∧ e.1.2 = b) ∨ (e.1.1 = b ∧ e.1.2 = a) then e.2 else 0) + wL r a b
def tsum : List PT → Nat
  | [] => 0
  | e :: r => e.2 + tsum r
theorem tsum_append : ∀ l r : List PT, tsum (l ++ r) = tsum l + tsum r
  | [], r => by simp [tsum]
  | e :: l, r => by
    show e.2 + tsum (l ++ r) = e.2 + tsum l + tsum r
    rw [tsum_append l r]
    omega
theorem wL_append (a b : Nat) : ∀ l r : List PT, wL (l ++ r) a b = wL l a b + wL r a b
  | [], r => by simp [wL]
  | e :: l, r => by
    show _ + wL (l ++ r) a b = _ + wL l a b + wL r a b
    rw [wL_append a b l r]
    omega
theorem wL_sym (a b : Nat) : ∀ l : List PT, wL l a b = wL l b a
  | [] => rfl
  | e :: r => by
    show _ + wL r a b = _ + wL r b a
    rw [wL_sym a b r]
    congr 1
    by_cases h : (e.1.1 = a ∧ e.1.2 = b) ∨ (e.1.1 = b ∧ e.1.2 = a)
    · rw [if_pos h, if_pos h.symm]
    · rw [if_neg h, if_neg (fun z => h z.symm)]
/-- fit keys, each once, few ties in all -/
structure TOk (n room : Nat) (l : List PT) : Prop where
  key : ∀ e ∈ l, e.1.1 < e.1.2 ∧ e.1.2 < n ∧ 1 ≤ e.2
  nd : (l.map (·.1)).Nodup
  sum : tsum l ≤ room
theorem wL_dia (a : Nat) : ∀ l : List PT, (∀ e ∈ l, e.1.1 < e.1.2) → wL l a a = 0
  | [], _ => rfl
  | e :: r, h => by
    have h1 := h e List.mem_cons_self
    show _ + wL r a a = 0
    rw [wL_dia a r fun e he => h e (List.mem_cons_of_mem _ he), if_neg (by omega)]
theorem wL_le (a b : Nat) : ∀ l : List PT, wL l a b ≤ tsum l
  | [] => Nat.le_refl _
  | e :: r => by
    have := wL_le a b r
    show _ + wL r a b ≤ e.2 + tsum r
    split <;> omega
theorem wL_pos {l : List PT} {e : PT} (he : e ∈ l) : e.2 ≤ wL l e.1.1 e.1.2 := by
  induction l with
  | nil => cases he
  | cons d r ih =>
    show e.2 ≤ _ + wL r e.1.1 e.1.2
    rcases List.mem_cons.mp he with z | z
    · subst z
      rw [if_pos (.inl ⟨rfl, rfl⟩)]
      omega
    · have := ih z
      omega
theorem wL_none {l : List PT} {x y : Nat} (hk : ∀ e ∈ l, e.1.1 < e.1.2) (hxy : x < y) (hn : (x, y) ∉ l.map (·.1)) : wL l x y = 0 := by
  induction l with
  | nil => rfl
  | cons d r ih =>
    show _ + wL r x y = 0
    rw [ih (fun e he => hk e (List.mem_cons_of_mem _ he)) fun z => hn (List.mem_cons_of_mem _ z), if_neg]
    have h1 := hk d List.mem_cons_self
    rintro (⟨e1, e2⟩ | ⟨e1, e2⟩)
    · exact hn (by
        rw [List.map_cons]
        have : d.1 = (x, y) := Prod.ext e1 e2
        rw [this]
        exact List.mem_cons_self)
    · omega
theorem eds_mem {n a b : Nat} {w : Nat → Nat → Nat} (ha : a < b) (hb : b < n) (hw : 1 ≤ w a b) : (a, b) ∈ eds n w := by
  refine List.mem_map.mpr ⟨(a, b, 0), ?_, rfl⟩
  refine List.mem_flatMap.mpr ⟨a, List.mem_range.mpr (by omega), List.mem_flatMap.mpr ⟨b, ?_, List.mem_map.mpr ⟨0, List.mem_range.mpr hw, rfl⟩⟩⟩
  rw [List.mem_range']
  exact ⟨b - (a + 1), by omega, by omega⟩
theorem esum_one : ∀ l : List Ed, esum (fun _ => 1) l = l.length
  | [] => rfl
  | e :: r => by
    show esum (fun _ => 1) r + 1 = _
    rw [esum_one r, List.length_cons]
    omega
theorem eds_len_wL (n : Nat) : ∀ l : List PT, (∀ e ∈ l, e.1.1 < e.1.2 ∧ e.1.2 < n) → ((eds n (wL l)).length : Int) = tsum l
  | [], _ => by
    rw [← esum_one, esum_eds]
    show sm n (fun a => sm n fun b => if a < b then ((0 : Nat) : Int) * 1 else 0) = 0
    have : ∀ a, sm n (fun b => if a < b then ((0 : Nat) : Int) * 1 else 0) = 0 := fun a => by
      rw [sm_congr (g := fun _ => 0) (fun b _ => by split <;> rfl), sm_zero]
    rw [sm_congr (g := fun _ => 0) (fun a _ => this a), sm_zero]
  | e :: r, h => by
    have ih := eds_len_wL n r fun d hd => h d (List.mem_cons_of_mem _ hd)
    have he := h e List.mem_cons_self
    rw [← esum_one, esum_eds] at ih ⊢
    have split_ : sm n (fun a => sm n (fun b => if a < b then ((wL (e :: r) a b : Nat) : Int) * 1 else 0)) =
        sm n (fun a => sm n (fun b => (if e.1.1 = a then (if e.1.2 = b then (e.2 : Int) else 0) else 0) + (if a < b then ((wL r a b : Nat) : Int) * 1 else 0))) := by
      refine sm_congr fun a _ => sm_congr fun b _ => ?_
      have e0 : wL (e :: r) a b = (if (e.1.1 = a ∧ e.1.2 = b) ∨ (e.1.1 = b ∧ e.1.2 = a) then e.2 else 0) + wL r a b := rfl
      rw [e0]
      by_cases hab : a < b
      · rw [if_pos hab, if_pos hab]
        by_cases h1 : e.1.1 = a
        · by_cases h2 : e.1.2 = b
          · rw [if_pos (.inl ⟨h1, h2⟩), if_pos h1, if_pos h2]
            push_cast
            omega
          · rw [if_neg (by omega), if_pos h1, if_neg h2]
            push_cast
            omega
        · rw [if_neg (by omega), if_neg h1]
          push_cast
          omega
      · rw [if_neg hab, if_neg hab]
        by_cases h1 : e.1.1 = a
        · rw [if_pos h1, if_neg (by omega)]
          omega
        · rw [if_neg h1]
          omega
    rw [split_]
    have : ∀ a, sm n (fun b => (if e.1.1 = a then (if e.1.2 = b then (e.2 : Int) else 0) else 0) + (if a < b then ((wL r a b : Nat) : Int) * 1 else 0)) =
        (if e.1.1 = a then (e.2 : Int) else 0) + sm n (fun b => if a < b then ((wL r a b : Nat) : Int) * 1 else 0) := fun a => by
      rw [sm_add]
      congr 1
      by_cases h1 : e.1.1 = a
      · simp only [if_pos h1]
        rw [sm_pick (fun _ => (e.2 : Int)), if_pos he.2]
      · simp only [if_neg h1]
        exact sm_zero n
    rw [sm_congr (fun a _ => this a), sm_add, sm_pick (fun _ => (e.2 : Int)), if_pos (by omega), ih]
    show (e.2 : Int) + (tsum r : Int) = ((e.2 + tsum r : Nat) : Int)
    omega
/-- the pairs join all houses -/
def CL (n : Nat) (l : List PT) : Prop := ∀ f : Nat → Nat, (∀ e ∈ l, f e.1.1 = f e.1.2) → ∀ a, a < n → ∀ b, b < n → f a = f b
theorem web_of {n room : Nat} {l : List PT} (hn : 0 < n) (T : TOk n room l) (C : CL n l) : Web n (wL l) where
  pos := hn
  sym := fun a b _ _ => wL_sym a b l
  dia := fun a _ => wL_dia a l fun e he => (T.key e he).1
  conn := fun φ h u hu v hv => by
    refine C φ (fun e he => ?_) u (List.mem_range.mp hu) v (List.mem_range.mp hv)
    have k := T.key e he
    have := h (e.1.1, e.1.2) (eds_mem k.1 k.2.1 (Nat.le_trans k.2.2 (wL_pos he)))
    have rg : ∀ i, i < n → (List.range n).getD i 0 = i := fun i hi => by simp [List.getD, List.getElem?_range hi]
    have this : φ ((List.range n).getD e.1.1 0) = φ ((List.range n).getD e.1.2 0) := this
    rw [rg _ (by omega), rg _ k.2.1] at this
    exact this
theorem eds_le {n room : Nat} {l : List PT} (T : TOk n room l) : (eds n (wL l)).length ≤ room := by
  have := eds_len_wL n l fun e he => ⟨(T.key e he).1, (T.key e he).2.1⟩
  have := T.sum
  omega
/-! ### made -/
theorem TOk.nil {n room : Nat} : TOk n room [] := ⟨fun e he => absurd he (by simp), List.nodup_nil, Nat.zero_le _⟩
theorem TOk.snoc {n room : Nat} {l : List PT} (T : TOk n room l) {a b v : Nat} (hab : a < b) (hb : b < n) (hv : 1 ≤ v) (hs : tsum l + v ≤ room) (hn : (a, b) ∉ l.map (·.1)) : TOk n room (l ++ [((a, b), v)]) := by
  refine ⟨fun e he => ?_, ?_, ?_⟩
  · rcases List.mem_append.mp he with z | z
    · exact T.key e z
    · rw [List.mem_singleton.mp z]
      exact ⟨hab, hb, hv⟩
  · rw [List.map_append, List.nodup_append]
    exact ⟨T.nd, by simp, fun x hx y hy z => hn (by
      rw [← (List.mem_singleton.mp hy : y = (a, b)), ← z]
      exact hx)⟩
  · rw [tsum_append]
    show tsum l + (v + 0) ≤ room
    omega
/-! ### names changed -/
def ren (nm : List Nat) (e : PT) : PT := ((min (nm.getD e.1.1 0) (nm.getD e.1.2 0), max (nm.getD e.1.1 0) (nm.getD e.1.2 0)), e.2)
theorem tsum_ren (nm : List Nat) : ∀ l : List PT, tsum (l.map (ren nm)) = tsum l
  | [] => rfl
  | e :: r => by
    show e.2 + tsum (r.map (ren nm)) = e.2 + tsum r
    rw [tsum_ren nm r]
theorem perm_at {n : Nat} {nm : List Nat} (p : nm.Perm (List.range n)) {i : Nat} (hi : i < n) : nm.getD i 0 < n := by
  have hl : nm.length = n := by rw [p.length_eq, List.length_range]
  have h : nm[i]'(by omega) ∈ nm := List.getElem_mem _
  have := List.mem_range.mp (p.mem_iff.mp h)
  simp [List.getD, List.getElem?_eq_getElem (show i < nm.length by omega)]
  exact this
theorem perm_inj {n : Nat} {nm : List Nat} (p : nm.Perm (List.range n)) {i j : Nat} (hi : i < n) (hj : j < n) (e : nm.getD i 0 = nm.getD j 0) : i = j := by
  have hl : nm.length = n := by rw [p.length_eq, List.length_range]
  have nd : nm.Nodup := p.nodup_iff.mpr List.nodup_range
  simp [List.getD, List.getElem?_eq_getElem (show i < nm.length by omega), List.getElem?_eq_getElem (show j < nm.length by omega)] at e
  exact (List.getElem_inj nd).mp e
theorem perm_sur {n : Nat} {nm : List Nat} (p : nm.Perm (List.range n)) {x : Nat} (hx : x < n) : ∃ i, i < n ∧ nm.getD i 0 = x := by
  have hl : nm.length = n := by rw [p.length_eq, List.length_range]
  obtain ⟨i, hi, e⟩ := List.getElem_of_mem (p.mem_iff.mpr (List.mem_range.mpr hx))
  exact ⟨i, by omega, by simp [List.getD, List.getElem?_eq_getElem hi, e]⟩
theorem ren_key {n : Nat} {nm : List Nat} (p : nm.Perm (List.range n)) {e : PT} (h1 : e.1.1 < e.1.2) (h2 : e.1.2 < n) : (ren nm e).1.1 < (ren nm e).1.2 ∧ (ren nm e).1.2 < n := by
  have a1 := perm_at p (i := e.1.1) (by omega)
  have a2 := perm_at p (i := e.1.2) h2
  have ne : nm.getD e.1.1 0 ≠ nm.getD e.1.2 0 := fun z => by
    have := perm_inj p (by omega) h2 z
    omega
  unfold ren
  dsimp only
  omega
theorem ren_inj {n : Nat} {nm : List Nat} (p : nm.Perm (List.range n)) {e d : PT} (h1 : e.1.1 < e.1.2) (h2 : e.1.2 < n) (h3 : d.1.1 < d.1.2) (h4 : d.1.2 < n) (h : (ren nm e).1 = (ren nm d).1) : e.1 = d.1 := by
  have q1 : min (nm.getD e.1.1 0) (nm.getD e.1.2 0) = min (nm.getD d.1.1 0) (nm.getD d.1.2 0) := congrArg Prod.fst h
  have q2 : max (nm.getD e.1.1 0) (nm.getD e.1.2 0) = max (nm.getD d.1.1 0) (nm.getD d.1.2 0) := congrArg Prod.snd h
  have e1 : e.1.1 < n := by omega
  have d1 : d.1.1 < n := by omega
  have key : (nm.getD e.1.1 0 = nm.getD d.1.1 0 ∧ nm.getD e.1.2 0 = nm.getD d.1.2 0) ∨ (nm.getD e.1.1 0 = nm.getD d.1.2 0 ∧ nm.getD e.1.2 0 = nm.getD d.1.1 0) := by omega
  rcases key with ⟨k1, k2⟩ | ⟨k1, k2⟩
  · exact Prod.ext (perm_inj p e1 d1 k1) (perm_inj p h2 h4 k2)
  · have := perm_inj p e1 h4 k1
    have := perm_inj p h2 d1 k2
    omega
theorem TOk.renamed {n room : Nat} {l : List PT} {nm : List Nat} (p : nm.Perm (List.range n)) (T : TOk n room l) : TOk n room (l.map (ren nm)) := by
  refine ⟨fun e he => ?_, ?_, by rw [tsum_ren]; exact T.sum⟩
  · obtain ⟨d, hd, rfl⟩ := List.mem_map.mp he
    have k := T.key d hd
    have := ren_key p k.1 k.2.1
    exact ⟨this.1, this.2, k.2.2⟩
  · rw [List.map_map]
    have key := T.key
    have nd := T.nd
    clear T
    induction l with
    | nil => exact List.nodup_nil
    | cons e r ih =>
      rw [List.map_cons, List.nodup_cons] at nd ⊢
      refine ⟨fun z => ?_, ih (fun d hd => key d (List.mem_cons_of_mem _ hd)) nd.2⟩
      obtain ⟨d, hd, hz⟩ := List.mem_map.mp z
      have k1 := key e List.mem_cons_self
      have k2 := key d (List.mem_cons_of_mem _ hd)
      have := ren_inj p k2.1 k2.2.1 k1.1 k1.2.1 hz
      exact nd.1 (this ▸ List.mem_map.mpr ⟨d, hd, rfl⟩)
theorem CL.renamed {n : Nat} {l : List PT} {nm : List Nat} (p : nm.Perm (List.range n)) (C : CL n l) : CL n (l.map (ren nm)) := fun f h a ha b hb => by
  obtain ⟨i, hi, e1⟩ := perm_sur p ha
  obtain ⟨j, hj, e2⟩ := perm_sur p hb
  have := C (fun x => f (nm.getD x 0)) (fun e he => by
    have := h _ (List.mem_map.mpr ⟨e, he, rfl⟩)
    have this : f (min (nm.getD e.1.1 0) (nm.getD e.1.2 0)) = f (max (nm.getD e.1.1 0) (nm.getD e.1.2 0)) := this
    show f (nm.getD e.1.1 0) = f (nm.getD e.1.2 0)
    by_cases q : nm.getD e.1.1 0 ≤ nm.getD e.1.2 0
    · rw [Nat.min_eq_left q, Nat.max_eq_right q] at this
      exact this
    · rw [Nat.min_eq_right (by omega), Nat.max_eq_left (by omega)] at this
      exact this.symm) i hi j hj
  rw [← e1, ← e2]
  exact this
/-- each house hangs on a lower one -/
theorem CL.low {n : Nat} {l : List PT} (h : ∀ x, 0 < x → x < n → ∃ y v, y < x ∧ ((y, x), v) ∈ l) : CL n l := fun f hf a ha b hb => by
  have key : ∀ x, x < n → f x = f 0 := by
    intro x
    induction x using Nat.strongRecOn with
    | _ x ih =>
      intro hx
      by_cases h0 : x = 0
      · rw [h0]
      · obtain ⟨y, v, hy, hm⟩ := h x (by omega) hx
        have := hf _ hm
        have this : f y = f x := this
        rw [← this]
        exact ih y hy (by omega)
  rw [key a ha, key b hb]
theorem CL.mono {n : Nat} {l l' : List PT} (C : CL n l) (h : ∀ e ∈ l, e ∈ l') : CL n l' := fun f hf => C f fun e he => hf e (h e he)
end MT
end
/-! ## T0 -/
section
set_option Elab.async false
set_option linter.all false
set_option maxRecDepth 100000
namespace K54
open PySem PySem.Spec PyProof.Rows L2
/-! ### the text -/
def topS (i : Nat) : Stmt := PySem.Challenge.pw_purseweb_k54_whole_trees_and_still_purse.main.body.getD i (.Pass ⟨0, 0, 0, 0⟩)
abbrev sTiesTo : Stmt := topS 14
abbrev sBurnt : Stmt := topS 15
abbrev sSettled : Stmt := topS 16
abbrev sTiesOf : Stmt := topS 18
abbrev sCounted : Stmt := topS 20
abbrev sTreeCount : Stmt := topS 21
abbrev sAsOne : Stmt := topS 22
abbrev sLastBegin : Stmt := topS 23
abbrev sTreesFrom : Stmt := topS 24
abbrev sTrees : Stmt := topS 25
abbrev sCheckTree : Stmt := topS 26
abbrev sNextTie : Stmt := topS 28
abbrev sWalked : Stmt := topS 29
abbrev sTreeOf : Stmt := topS 30
abbrev sStillOf : Stmt := topS 31
abbrev sStills : Stmt := topS 32
abbrev sCell : Stmt := topS 34
abbrev sWhole : Stmt := topS 35
abbrev sRenamed : Stmt := topS 36
abbrev sReadTimes : Stmt := topS 37
abbrev sHouses : Stmt := topS 38
abbrev sTimes : Stmt := topS 39
abbrev sSquare : Stmt := topS 40
abbrev sKind : Stmt := topS 41
abbrev sLTuple : Stmt := topS 42
abbrev sAllBurn : Stmt := topS 43
abbrev sLSettled : Stmt := topS 44
abbrev sTooMany : Stmt := topS 45
abbrev sLaw : Stmt := topS 46
theorem scTiesTo : FnScope ["web", "house", "others", "other"] ["web", "house", "others"] (defScope sTiesTo) := ⟨rfl, rfl, rfl, by decide +kernel, rfl, by decide +kernel, by decide +kernel⟩
theorem scBurnt : FnScope ["web", "purse", "base", "fire", "others", "ready", "house"] ["web", "purse", "base"] (defScope sBurnt) := ⟨rfl, rfl, rfl, by decide +kernel, rfl, by decide +kernel, by decide +kernel⟩
theorem scSettled : FnScope ["web", "purse", "base", "house"] ["web", "purse", "base"] (defScope sSettled) := ⟨rfl, rfl, rfl, by decide +kernel, rfl, by decide +kernel, by decide +kernel⟩
theorem scTiesOf : FnScope ["web", "found", "one", "other", "nth"] ["web"] (defScope sTiesOf) := ⟨rfl, rfl, rfl, by decide +kernel, rfl, by decide +kernel, by decide +kernel⟩
theorem scCounted : FnScope ["rows", "ahead", "sign", "at", "lead", "row", "k"] ["rows"] (defScope sCounted) := ⟨rfl, rfl, rfl, by decide +kernel, rfl, by decide +kernel, by decide +kernel⟩
theorem scTreeCount : FnScope ["web", "rows", "house", "row", "times"] ["web"] (defScope sTreeCount) := ⟨rfl, rfl, rfl, by decide +kernel, rfl, by decide +kernel, by decide +kernel⟩
theorem scAsOne : FnScope ["marks", "one", "other", "mark"] ["marks", "one", "other"] (defScope sAsOne) := ⟨rfl, rfl, rfl, by decide +kernel, rfl, by decide +kernel, by decide +kernel⟩
theorem scLastBegin : FnScope ["ties", "marks", "at"] ["ties", "marks"] (defScope sLastBegin) := ⟨rfl, rfl, rfl, by decide +kernel, rfl, by decide +kernel, by decide +kernel⟩
theorem scTreesFrom : FnScope ["ties", "at", "marks", "found", "k", "one", "other", "nth", "rest"] ["ties", "at", "marks"] (defScope sTreesFrom) := ⟨rfl, rfl, rfl, by decide +kernel, rfl, by decide +kernel, by decide +kernel⟩
theorem scTrees : FnScope ["web", "most"] ["web", "most"] (defScope sTrees) := ⟨rfl, rfl, rfl, by decide +kernel, rfl, by decide +kernel, by decide +kernel⟩
theorem scCheckTree : FnScope ["web", "tree", "ties", "marks", "ahead", "number", "one", "other", "nth"] ["web", "tree"] (defScope sCheckTree) := ⟨rfl, rfl, rfl, by decide +kernel, rfl, by decide +kernel, by decide +kernel⟩
theorem scNextTie : FnScope ["ties", "looked", "marks", "k"] ["ties", "looked", "marks"] (defScope sNextTie) := ⟨rfl, rfl, rfl, by decide +kernel, rfl, by decide +kernel, by decide +kernel⟩
theorem scWalked : FnScope ["web", "base", "burns", "ties", "marks", "heat", "looked", "lit", "at", "house"] ["web", "base", "burns"] (defScope sWalked) := ⟨rfl, rfl, rfl, by decide +kernel, rfl, by decide +kernel, by decide +kernel⟩
theorem scTreeOf : FnScope ["web", "base", "purse"] ["web", "base", "purse"] (defScope sTreeOf) := ⟨rfl, rfl, rfl, by decide +kernel, rfl, by decide +kernel, by decide +kernel⟩
theorem scStillOf : FnScope ["web", "base", "tree", "heat", "house"] ["web", "base", "tree"] (defScope sStillOf) := ⟨rfl, rfl, rfl, by decide +kernel, rfl, by decide +kernel, by decide +kernel⟩
theorem scStills : FnScope ["web", "base", "most", "tree"] ["web", "base", "most"] (defScope sStills) := ⟨rfl, rfl, rfl, by decide +kernel, rfl, by decide +kernel, by decide +kernel⟩
theorem scCell : FnScope ["_law_script", "_law_k"] ["_law_script", "_law_k"] (defScope sCell) := ⟨rfl, rfl, rfl, by decide +kernel, rfl, by decide +kernel, by decide +kernel⟩
theorem scWhole : FnScope ["_law_thing"] ["_law_thing"] (defScope sWhole) := ⟨rfl, rfl, rfl, by decide +kernel, rfl, by decide +kernel, by decide +kernel⟩
theorem scRenamed : FnScope ["_law_found", "_law_cell_here", "_law_many", "_law_names", "_law_house", "_law_told", "_law_one", "_law_other", "_law_pair"] ["_law_found", "_law_cell_here", "_law_many"] (defScope sRenamed) := ⟨rfl, rfl, rfl, by decide +kernel, rfl, by decide +kernel, by decide +kernel⟩
theorem scReadTimes : FnScope ["_law_rest", "_law_many", "_law_room", "_law_most", "_law_found", "_law_met", "_law_one", "_law_other", "_law_deep", "_law_turn"] ["_law_rest", "_law_many", "_law_room", "_law_most"] (defScope sReadTimes) := ⟨rfl, rfl, rfl, by decide +kernel, rfl, by decide +kernel, by decide +kernel⟩
theorem scHouses : FnScope ["_law_cell_here"] ["_law_cell_here"] (defScope sHouses) := ⟨rfl, rfl, rfl, by decide +kernel, rfl, by decide +kernel, by decide +kernel⟩
theorem scTimes : FnScope ["_law_script", "_law_at", "_law_many", "_law_first", "_law_room", "_law_found", "_law_house", "_law_cell_here", "_law_deep", "_law_k", "_law_one", "_law_other"] ["_law_script", "_law_at", "_law_many"] (defScope sTimes) := ⟨rfl, rfl, rfl, by decide +kernel, rfl, by decide +kernel, by decide +kernel⟩
theorem scSquare : FnScope ["_law_times_here", "_law_many", "_law_rows", "_law_one", "_law_other", "_law_house", "_law_row"] ["_law_times_here", "_law_many"] (defScope sSquare) := ⟨rfl, rfl, rfl, by decide +kernel, rfl, by decide +kernel, by decide +kernel⟩
theorem scKind : FnScope ["_law_e", "_law_found"] ["_law_e"] (defScope sKind) := ⟨rfl, rfl, rfl, by decide +kernel, rfl, by decide +kernel, by decide +kernel⟩
theorem scLTuple : FnScope ["_law_found", "_law_many", "_law_number"] ["_law_found", "_law_many"] (defScope sLTuple) := ⟨rfl, rfl, rfl, by decide +kernel, rfl, by decide +kernel, by decide +kernel⟩
theorem scAllBurn : FnScope ["_law_web", "_law_purse", "_law_base", "_law_lit", "_law_turn", "_law_house", "_law_near", "_law_other"] ["_law_web", "_law_purse", "_law_base"] (defScope sAllBurn) := ⟨rfl, rfl, rfl, by decide +kernel, rfl, by decide +kernel, by decide +kernel⟩
theorem scLSettled : FnScope ["_law_web", "_law_purse", "_law_base", "_law_rest"] ["_law_web", "_law_purse", "_law_base"] (defScope sLSettled) := ⟨rfl, rfl, rfl, by decide +kernel, rfl, by decide +kernel, by decide +kernel⟩
theorem scTooMany : FnScope ["_law_web", "_law_base", "_law_most", "_law_caught", "_law_due", "_law_e"] ["_law_web", "_law_base", "_law_most"] (defScope sTooMany) := ⟨rfl, rfl, rfl, by decide +kernel, rfl, by decide +kernel, by decide +kernel⟩
theorem scLaw : FnScope ["_law_script", "_law_many", "_law_web", "_law_base", "_law_found", "_law_some", "_law_k", "_law_purse", "_law_coins", "_law_told", "_law_ring"] ["_law_script"] (defScope sLaw) := ⟨rfl, rfl, rfl, by decide +kernel, rfl, by decide +kernel, by decide +kernel⟩
end K54
end
/-! ## T1 -/
section
set_option Elab.async false
set_option linter.all false
set_option maxRecDepth 100000
set_option maxHeartbeats 4000000
namespace K54
open PySem PySem.Spec PyProof.Rows L2
/-! ### heaps -/
theorem same_upd {H : Hp} {p : Addr} {o : HO} (h : H p = none) : Same H (upd H p o) := fun b x e => by
  rw [upd_ne (ne_of_none e h)]
  exact e
theorem seqT_of {K : PySem.W.Frag} {H H' : Hp} {a : Addr} {xs : List V} (e : Same H H') (h : SqT K H a xs) : SqT K H' a xs := by
  rcases h with (h | ⟨o, h⟩) | h
  · exact .inl (.inl (e _ _ h))
  · exact .inl (.inr ⟨o, e _ _ h⟩)
  · exact .inr h
/-- a list that was changed by itself: what stood elsewhere stands -/
theorem same_but {H H' : Hp} {p : Addr} {o : HO} (s : Same H H') (n : H p = none) : Same H (upd H' p o) := fun b x e => by
  rw [upd_ne (ne_of_none e n)]
  exact s b x e
/-! ### the web -/
def rowV (n : Nat) (w : Nat → Nat → Nat) (i : Nat) : List V := (List.range n).map fun j => V.int (w i j : Nat)
def WebAt (K : PySem.W.Frag) (H : Hp) (a : Addr) (n : Nat) (w : Nat → Nat → Nat) : Prop :=
  ∃ rs : List Addr, SqT K H a (rs.map V.ref) ∧ rs.length = n ∧ ∀ i r, rs[i]? = some r → SqT K H r (rowV n w i)
section
variable {K : PySem.W.Frag} {H H' : Hp} {a : Addr} {n : Nat} {w : Nat → Nat → Nat}
theorem WebAt.same (h : WebAt K H a n w) (s : Same H H') : WebAt K H' a n w := by
  obtain ⟨rs, h1, h2, h3⟩ := h
  exact ⟨rs, seqT_of s h1, h2, fun i r e => seqT_of s (h3 i r e)⟩
theorem WebAt.row (h : WebAt K H a n w) {i : Nat} (hi : i < n) : ∃ xs r, SqT K H a xs ∧ xs.length = n ∧ atI xs (i : Int) = some (.ref r) ∧ SqT K H r (rowV n w i) := by
  obtain ⟨rs, h1, h2, h3⟩ := h
  have e : rs[i]? = some rs[i] := List.getElem?_eq_getElem (by omega)
  exact ⟨_, rs[i], h1, by rw [List.length_map]; exact h2, atI_nat (by rw [List.getElem?_map, e]; rfl), h3 i _ e⟩
theorem WebAt.tup (h : WebAt K H a n w) : ∃ xs, SqT K H a xs ∧ xs.length = n := by
  obtain ⟨rs, h1, h2, h3⟩ := h
  exact ⟨_, h1, by rw [List.length_map]; exact h2⟩
theorem rowV_at {i j : Nat} (hj : j < n) : atI (rowV n w i) (j : Int) = some (.int (w i j : Nat)) := by
  refine atI_nat ?_
  unfold rowV
  rw [List.getElem?_map, List.getElem?_range hj]
  rfl
theorem rowV_len {i : Nat} : (rowV n w i).length = n := by simp [rowV]
end
/-- numbers as values -/
abbrev nV (l : List Nat) : List V := l.map fun k => V.int (k : Nat)
theorem nV_ints (l : List Nat) : nV l = (l.map fun k : Nat => ((k : Nat) : Int)).map V.int := by
  rw [List.map_map]
  rfl
theorem nV_get {l : List Nat} {i : Nat} {x : V} (h : (nV l)[i]? = some x) : ∃ k, l[i]? = some k ∧ x = V.int (k : Nat) := by
  rw [List.getElem?_map] at h
  cases e : l[i]? with
  | none => rw [e] at h; cases h
  | some k => rw [e] at h; exact ⟨k, rfl, (Option.some.inj h).symm⟩
theorem map_get {α : Type} {f : α → V} {l : List α} {i : Nat} {x : V} (h : (l.map f)[i]? = some x) : ∃ k, l[i]? = some k ∧ x = f k := by
  rw [List.getElem?_map] at h
  cases e : l[i]? with
  | none => rw [e] at h; cases h
  | some k => rw [e] at h; exact ⟨k, rfl, (Option.some.inj h).symm⟩
theorem take_snoc {α : Type} {l : List α} {i : Nat} {x : α} (h : l[i]? = some x) : l.take (i + 1) = l.take i ++ [x] := by
  rw [List.take_add_one, h]
  rfl
theorem line_lt {n : Nat} (h : n ≤ 100000) : n < sizeLine := Nat.lt_of_le_of_lt h (by rw [sizeLine_eq]; decide)
theorem line_le {n : Nat} (h : n ≤ 100000) : n ≤ sizeLine := Nat.le_of_lt (line_lt h)
/-- items of tuples and lists, the written part by its own letter -/
theorem ixt {X : Cx} (K : PySem.W.Frag) (h : X.K = K := by rfl) : IxR X (rIxT K) := h ▸ ix_tup
theorem ixl {X : Cx} (K : PySem.W.Frag) (h : X.K = K := by rfl) : IxR X (rIxL K) := h ▸ ix_list
/-- the built-in names are the built-ins still -/
structure Mg (mg : Str → Option Value) : Prop where
  sum : mg "sum" = none
  len : mg "len" = none
  range : mg "range" = none
  set : mg "set" = none
  list : mg "list" = none
  tuple : mg "tuple" = none
  sorted : mg "sorted" = none
  min : mg "min" = none
  max : mg "max" = none
  int : mg "int" = none
  bool : mg "bool" = none
  all : mg "all" = none
  isinstance : mg "isinstance" = none
  ve : mg "ValueError" = none
section
variable {P : Program} {w : World} {K : PySem.W.Frag} {mg : Str → Option Value} {base : Heap}
/-! ### ties_to -/
def tieSum (m : Nat → Nat → Nat) (h : Nat) (l : List Nat) : Int := (l.map fun o => (m h o : Int)).sum
def spTiesTo (K : PySem.W.Frag) : Sp := fun vs H Q _ => ∃ (a f : Addr) (n : Nat) (m : Nat → Nat → Nat) (h : Nat) (l : List Nat),
  vs = [.ref a, .int (h : Nat), .ref f] ∧ WebAt K H a n m ∧ h < n ∧ SqL K H f (nV l) ∧ (∀ o ∈ l, o < n) ∧ l.length ≤ 1000 ∧ ∀ H', Same H H' → Q (.int (tieSum m h l)) H'
theorem ok_tiesTo {f : Addr} {fd : FuncData} {k : Nat} (F : Fun K "ties_to" "ties_to" sTiesTo f fd) (M : Mg mg) : FnOk P w K mg base CX0 (k + 1) f fd ["web", "house", "others"] (spTiesTo K) := by
  refine F.ok scTiesTo (fun vs H Q E h => ?_) (fun cdv A outer s H vs Q E hr h => ?_)
  · obtain ⟨a, f, n, m, h, l, rfl, _⟩ := h
    rfl
  · obtain ⟨a, f, n, m, h, l, rfl, hW, hh, hL, hl, hlen, q⟩ := h
    refine ⟨_, pss_one (ps_ret (pe_callB (cr_sum rfl) (by rfl) M.sum (by decide +kernel) (pa_cons (pe_lc (own := [("other", 3)]) (g := gName 3) (tt := tYes) rfl scTiesTo.nd (pi_list (pv 2))
      (blkOk_by (N := ["web", "house", "others", "other"]) (sc := defScope sTiesTo) (by decide +kernel)) (fun _ _ _ _ _ => pg_name (i := 3) scTiesTo.nd rfl (Or.inl rfl)) (fun _ _ _ _ _ => pts_nil)
      (fun _ _ _ _ _ => pe_ix (ixt K) (pe_ix (ixt K) (pv 0) (pv 1) (fun _ _ => rfl)) (pv 3) (fun _ _ => rfl))) pa_nil))), ?_⟩
    refine ⟨.ref f, rfl, f, rfl, ⟨_, hL⟩, fun D hD => lc_list (K := K) (a := f) (xs := nV l) (fun i H' => Same H H' ∧ H' D = some (.lst (((l.take i).map fun o => V.int (m h o : Nat))))) ?_ ?_ ?_ ?_⟩
    · exact ⟨same_upd hD, upd_same⟩
    · exact fun i H' _ hp => hp.1.seq hL
    · rintro i x H' hx ⟨hs, hd⟩
      obtain ⟨o, ho, rfl⟩ := nV_get hx
      obtain ⟨xs, r, h1, _, h3, h4⟩ := (hW.same hs).row hh
      refine ⟨rfl, .ref a, rfl, .int (h : Nat), rfl, a, xs, _, .ref r, rfl, rfl, h1, h3, .int (o : Nat), rfl, r, _, _, _, rfl, rfl, h4, rowV_at (hl o (List.mem_of_getElem? ho)), _, hd, ?_, ?_, ?_⟩
      · rw [List.length_map, List.length_take]
        exact line_lt (by omega)
      · exact same_but hs hD
      · rw [upd_same, take_snoc ho, List.map_append]
        rfl
    · rintro H' ⟨hs, hd⟩
      refine ⟨D, l.map fun o => (m h o : Int), rfl, SqL.of ?_, q _ hs⟩
      rw [hd, show (nV l).length = l.length from List.length_map _, List.take_length, List.map_map]
      rfl
end
end K54
end
/-! ## T2 -/
section
set_option Elab.async false
set_option linter.all false
set_option maxRecDepth 100000
set_option maxHeartbeats 4000000
namespace K54
open PySem PySem.Spec PyProof.Rows L2
theorem inS {X : Cx} (K : PySem.W.Frag) (h : X.K = K := by rfl) : OpR X (compareOp .In) (rIn K false) := h ▸ op_in_seq
theorem notInS {X : Cx} (K : PySem.W.Frag) (h : X.K = K := by rfl) : OpR X (compareOp .NotIn) (rIn K true) := h ▸ op_notIn_seq
theorem lenS {X : Cx} (K : PySem.W.Frag) (h : X.K = K := by rfl) : CallR X (.builtin "len") (fun xs H Q => ∃ p ys, xs = [.ref p] ∧ (SqL K H p ys ∨ SqT K H p ys) ∧ Q (.int ys.length) H) := h ▸ call_len_seq
theorem nV_append (a b : List Nat) : nV (a ++ b) = nV a ++ nV b := List.map_append
theorem nV_len (a : List Nat) : (nV a).length = a.length := List.length_map _
theorem nV_cons (x : Nat) (a : List Nat) : nV (x :: a) = V.int (x : Nat) :: nV a := rfl
theorem flat_nV (l : List Nat) : (nV l).all flatV = true := by
  induction l with
  | nil => rfl
  | cons x r ih =>
    rw [nV_cons, List.all_cons, ih]
    rfl
theorem inV_nV (k : Nat) (l : List Nat) : inV (.int (k : Nat)) (nV l) = l.contains k := by
  induction l with
  | nil => rfl
  | cons x r ih =>
    have e : inV (.int (k : Nat)) (nV (x :: r)) = (eqV (.int (x : Nat)) (.int (k : Nat)) || inV (.int (k : Nat)) (nV r)) := rfl
    rw [e, ih, List.contains_cons]
    congr 1
    show decide ((x : Int) = (k : Int)) = (k == x)
    by_cases h : x = k
    · subst h; simp
    · have h1 : ¬ ((x : Int) = (k : Int)) := by omega
      have h2 : ¬ (k = x) := fun e => h e.symm
      rw [decide_eq_false h1]
      exact (beq_eq_false_iff_ne.mpr h2).symm
theorem some_int_inj {i j : Int} (h : V.int i = V.int j) : i = j := V.int.inj h
theorem dec_intV (i j : Int) : decide (V.int i = V.int j) = decide (i = j) := by
  by_cases h : i = j
  · subst h; simp
  · rw [decide_eq_false h, decide_eq_false (fun e => h (V.int.inj e))]
def purV (n : Nat) (c : Nat → Int) : List V := (List.range n).map fun h => V.int (c h)
theorem purV_at {n h : Nat} {c : Nat → Int} (hh : h < n) : atI (purV n c) (h : Int) = some (.int (c h)) := by
  refine atI_nat ?_
  unfold purV
  rw [List.getElem?_map, List.getElem?_range hh]
  rfl
theorem purV_len {n : Nat} {c : Nat → Int} : (purV n c).length = n := by simp [purV]
section
variable {P : Program} {w : World} {K : PySem.W.Frag} {mg : Str → Option Value} {base : Heap}
/-! ### as_one -/
def spAsOne (K : PySem.W.Frag) : Sp := fun vs H Q _ => ∃ (p : Addr) (ms : List Nat) (a b : Nat), vs = [.ref p, .int (a : Nat), .int (b : Nat)] ∧ SqL K H p (nV ms) ∧ a < ms.length ∧ b < ms.length ∧ ms.length ≤ 1000 ∧
  ∀ H' q, Same H H' → H q = none → H' q = some (.lst (nV (MT.asOne ms a b))) → Q (.ref q) H'
theorem nV_at {ms : List Nat} {a : Nat} (h : a < ms.length) : atI (nV ms) (a : Int) = some (.int (ms.getD a 0 : Nat)) := by
  refine atI_nat ?_
  rw [List.getElem?_map, List.getElem?_eq_getElem h]
  simp [List.getD, List.getElem?_eq_getElem h]
theorem ok_asOne {f : Addr} {fd : FuncData} {k : Nat} (F : Fun K "as_one" "as_one" sAsOne f fd) (M : Mg mg) : FnOk P w K mg base CX0 (k + 1) f fd ["marks", "one", "other"] (spAsOne K) := by
  refine F.ok scAsOne (fun vs H Q E h => ?_) (fun cdv A outer s H vs Q E hr h => ?_)
  · obtain ⟨p, ms, a, b, rfl, _⟩ := h
    rfl
  · obtain ⟨p, ms, a, b, rfl, hL, ha, hb, hlen, q⟩ := h
    refine ⟨_, pss_one (ps_ret (pe_lc (own := [("mark", 3)]) (g := gName 3) (tt := tYes) rfl scAsOne.nd (pi_list (pv 0))
      (blkOk_by (N := ["marks", "one", "other", "mark"]) (sc := defScope sAsOne) (by decide +kernel)) (fun _ _ _ _ _ => pg_name (i := 3) scAsOne.nd rfl (Or.inl rfl)) (fun _ _ _ _ _ => pts_nil)
      (fun _ _ _ _ _ => pe_ifExp (pt_cmpR op_eq (pv 3) (pe_ix (ixl K) (pv 0) (pv 2) (fun _ _ => rfl)) (nomark _)) (pe_ix (ixl K) (pv 0) (pv 1) (fun _ _ => rfl)) (pv 3)))), ?_⟩
    refine ⟨.ref p, rfl, p, rfl, ⟨_, hL⟩, fun D hD => lc_list (K := K) (a := p) (xs := nV ms) (fun i H' => Same H H' ∧ H' D = some (.lst (nV ((ms.take i).map fun m => if m = ms.getD b 0 then ms.getD a 0 else m)))) ?_ ?_ ?_ ?_⟩
    · exact ⟨same_upd hD, upd_same⟩
    · exact fun i H' _ hp => hp.1.seq hL
    · rintro i x H' hx ⟨hs, hd⟩
      obtain ⟨m, hm, rfl⟩ := nV_get hx
      have hL' : SqL K H' p (nV ms) := hs.seq hL
      have fin : ∀ y : Nat, y = (if m = ms.getD b 0 then ms.getD a 0 else m) → ∃ acc, H' D = some (.lst acc) ∧ acc.length < sizeLine ∧ (Same H (upd H' D (.lst (acc ++ [V.int (y : Nat)]))) ∧ upd H' D (.lst (acc ++ [V.int (y : Nat)])) D = some (.lst (nV ((ms.take (i + 1)).map fun m => if m = ms.getD b 0 then ms.getD a 0 else m)))) := fun y hy => by
        refine ⟨_, hd, ?_, same_but hs hD, ?_⟩
        · rw [nV_len, List.length_map, List.length_take]
          exact line_lt (by omega)
        · rw [upd_same, take_snoc hm, List.map_append, nV_append, hy]
          rfl
      refine ⟨rfl, _, rfl, .ref p, rfl, _, rfl, p, _, _, _, rfl, rfl, hL', nV_at hb, rfl, _, rfl, ite2 (fun e => ?_) (fun e => ?_)⟩
      · have e' : m = ms.getD b 0 := by
          have := V.int.inj (of_decide_eq_true e)
          omega
        exact ⟨.ref p, rfl, _, rfl, p, _, _, _, rfl, rfl, hL', nV_at ha, fin _ (by rw [if_pos e'])⟩
      · have e' : ¬ m = ms.getD b 0 := fun z => e (decide_eq_true (by rw [z]))
        exact ⟨_, rfl, fin m (by rw [if_neg e'])⟩
    · rintro H' ⟨hs, hd⟩
      refine q _ D hs hD ?_
      rw [hd, show (nV ms).length = ms.length from List.length_map _, List.take_length]
      rfl
end
end K54
end
/-! ## T3 -/
section
set_option Elab.async false
set_option linter.all false
set_option maxRecDepth 100000
set_option maxHeartbeats 4000000
namespace K54
open PySem PySem.Spec PyProof.Rows L2
section
variable {P : Program} {w : World} {K : PySem.W.Frag} {mg : Str → Option Value} {base : Heap}
/-! ### burnt -/
/-- no set of houses that holds the base keeps the fire in it -/
def FireOk (n : Nat) (m : Nat → Nat → Nat) (c : Nat → Int) (b : Nat) : Prop := ∀ lit : List Nat, lit.Nodup → (∀ x ∈ lit, x < n) → b ∈ lit → lit.length < n → ∃ h, h < n ∧ h ∉ lit ∧ c h < tieSum m h lit
def spBurnt (K : PySem.W.Frag) : Sp := fun vs H Q _ => ∃ (a p : Addr) (n b : Nat) (m : Nat → Nat → Nat) (c : Nat → Int),
  vs = [.ref a, .ref p, .int (b : Nat)] ∧ WebAt K H a n m ∧ SqT K H p (purV n c) ∧ b < n ∧ n ≤ 7 ∧ FireOk n m c b ∧ ∀ H' q fs, Same H H' → H q = none → H' q = some (.lst (nV fs)) → fs.length = n → Q (.ref q) H'
theorem ok_burnt {f fT : Addr} {fd fdT : FuncData} {k : Nat} (F : Fun K "burnt" "burnt" sBurnt f fd) (M : Mg mg) (FT : Fun K "ties_to" "ties_to" sTiesTo fT fdT) (bT : Binds K fdT ["web", "house", "others"] []) (gT : mg "ties_to" = some (.ref fT)) :
    FnOk P w K mg base CX0 (k + 2) f fd ["web", "purse", "base"] (spBurnt K) := by
  have GT : FnOk P w K mg base CX0 (k + 1) fT fdT ["web", "house", "others"] (spTiesTo K) := ok_tiesTo FT M
  refine F.ok scBurnt (fun vs H Q E h => ?_) (fun cdv A outer s H vs Q E hr h => ?_)
  · obtain ⟨a, p, n, b, m, c, rfl, _⟩ := h
    rfl
  · obtain ⟨a, p, n, b, m, c, rfl, hW, hP, hb, hn, hF, q⟩ := h
    refine ⟨_, pss_cons (ps_set (i := 3) scBurnt.nd rfl (.inr rfl) (pe_lst (pa_cons (pv 2) pa_nil)))
      (pss_one (ps_while PassesOwn.never (pt_val pe_bl)
        (pss_cons (ps_setLc (i := 4) (own := [("house", 6)]) (g := gName 6) (tt := tTest (tOp (rIn K true) (tVar 6) (tVar 3))) (te := tVar 6) rfl scBurnt.nd rfl rfl (sw_true rfl rfl rfl (by decide +kernel))
            (pi_range1 rfl M.range (pa_cons (pe_callB (lenS K) (by rfl) M.len PySem.boot_len (pa_cons (pv 0) pa_nil)) pa_nil))
            (blkOk_by (N := ["web", "purse", "base", "fire", "others", "ready", "house"]) (sc := defScope sBurnt) (by decide +kernel)) (fun _ _ _ _ _ => pg_name (i := 6) scBurnt.nd rfl (Or.inl rfl))
            (fun _ _ _ _ _ => pts_one (pt_cmpR (notInS K) (pv 6) (pv 3) (by rfl))) (fun _ _ _ _ _ => pv 6))
        (pss_cons (ps_setLc (i := 5) (own := [("house", 6)]) (g := gName 6) (te := tVar 6) rfl scBurnt.nd rfl rfl (sw_true rfl rfl rfl (by decide +kernel)) (pi_list (pv 4))
            (blkOk_by (N := ["web", "purse", "base", "fire", "others", "ready", "house"]) (sc := defScope sBurnt) (by decide +kernel)) (fun _ _ _ _ _ => pg_name (i := 6) scBurnt.nd rfl (Or.inl rfl))
            (fun _ _ _ _ _ => pts_one (pt_cmpR op_lt (pe_ix (ixt K) (pv 1) (pv 6) (fun _ _ => rfl)) (pe_call GT hr (by rfl) gT FT.kp bT .nil pass0 (pa_cons (pv 0) (pa_cons (pv 6) (pa_cons (pv 3) pa_nil)))) (nomark _))) (fun _ _ _ _ _ => pv 6))
        (pss_cons (ps_if (pt_cmpR op_eq (pe_callB (lenS K) (by rfl) M.len PySem.boot_len (pa_cons (pv 5) pa_nil)) pe_int (nomark _)) (pss_one (ps_ret (pv 3))) pss_nil)
        (pss_one (ps_expr (pe_bm PySem.F.plainAttrs_list PySem.F.slot_list_append PySem.F.type_list_append mt_append (pv 3) (pa_cons (pe_ix (ixl K) (pv 5) pe_int (fun _ _ => rfl)) pa_nil))))))))), ?_⟩
    -- fire = [base]
    refine ⟨_, rfl, by show 1 ≤ sizeLine; exact line_le (by decide), fun D hD => ?_⟩
    refine ⟨fun mm σ H1 => ∃ (lit : List Nat) (y4 y5 : Option V), σ = [some (.ref a), some (.ref p), some (.int (b : Nat)), some (.ref D), y4, y5, none] ∧ mm + lit.length = n ∧ Same H H1 ∧ H1 D = some (.lst (nV lit)) ∧ lit.Nodup ∧ (∀ x ∈ lit, x < n) ∧ b ∈ lit,
      ⟨n - 1, [b], none, none, rfl, by simp; omega, same_upd hD, upd_same, by simp, fun x hx => by rw [List.mem_singleton.mp hx]; exact hb, by simp⟩, fun mm σ H1 hI => ?_⟩
    obtain ⟨lit, y4, y5, rfl, hm, hs, hd, nd, lt, bm⟩ := hI
    refine ⟨true, rfl, iteT ⟨fun σ' H' => ∃ (lit : List Nat) (y4 y5 : Option V), σ' = [some (.ref a), some (.ref p), some (.int (b : Nat)), some (.ref D), y4, y5, none] ∧ mm + lit.length = n + 1 ∧ Same H H' ∧ H' D = some (.lst (nV lit)) ∧ lit.Nodup ∧ (∀ x ∈ lit, x < n) ∧ b ∈ lit, fun σ' H' hN => ?_, ?_⟩⟩
    · obtain ⟨lit', z4, z5, e, e2, e3⟩ := hN
      have : lit'.length ≤ n := MT.nodup_len n lit' e3.2.2.1 e3.2.2.2.1
      exact ⟨mm - 1, by omega, lit', z4, z5, e, by omega, e3⟩
    · -- others
      obtain ⟨xs, hX, hXl⟩ := (hW.same hs).tup
      refine ⟨.ref a, rfl, a, xs, rfl, .inr hX, n, by rw [hXl], by omega, by omega, fun D2 hD2 => ?_⟩
      rw [show ((n : Int)).toNat = n from rfl]
      refine lc_range (lo := 0) (n := n) (fun i H2 => Same H1 H2 ∧ H2 D2 = some (.lst (nV ((List.range i).filter fun x => !lit.contains x)))) ⟨same_upd hD2, upd_same⟩ (fun i H2 hi hp => ?_) (fun H2 hp => ?_)
      · obtain ⟨s2, d2⟩ := hp
        have hd2 := s2 _ _ hd
        have fin : List.filter (fun x => !lit.contains x) (List.range (i + 1)) = List.filter (fun x => !lit.contains x) (List.range i) ++ (if lit.contains i = true then [] else [i]) := by
          rw [List.range_succ, List.filter_append]
          congr 1
          cases hc : lit.contains i <;> simp [hc] <;> simpa using hc
        refine ⟨rfl, .int (0 + (i : Nat)), rfl, .ref D, rfl, D, nV lit, rfl, .inl (SqL.of hd2), rfl, flat_nV lit, _, rfl, ?_⟩
        rw [show ((0 : Int) + (i : Nat)) = (i : Nat) by omega, inV_nV]
        refine ite2 (fun e => ?_) (fun e => ?_)
        · have hc : lit.contains i = false := by
            have : (if true = true then !lit.contains i else lit.contains i) = true := e
            simpa using this
          refine ⟨_, rfl, _, d2, ?_, same_but s2 hD2, ?_⟩
          · rw [nV_len]
            exact line_lt (Nat.le_trans (List.length_filter_le _ _) (by rw [List.length_range]; omega))
          · rw [upd_same, fin, hc, nV_append]
            rfl
        · have hc : lit.contains i = true := by
            have : ¬ (if true = true then !lit.contains i else lit.contains i) = true := e
            simpa using this
          refine ⟨s2, ?_⟩
          rw [fin, hc, d2]
          simp
      · obtain ⟨s2, d2⟩ := hp
        -- ready
        have hd2 : H2 D = some (.lst (nV lit)) := s2 _ _ hd
        have sH2 : Same H H2 := hs.trans s2
        refine ⟨.ref D2, rfl, D2, rfl, ⟨_, SqL.of d2⟩, fun D3 hD3 => ?_⟩
        refine lc_list (K := K) (a := D2) (xs := nV ((List.range n).filter fun x => !lit.contains x)) (fun i H3 => Same H2 H3 ∧ H3 D3 = some (.lst (nV ((((List.range n).filter fun x => !lit.contains x).take i).filter fun x => decide (c x < tieSum m x lit))))) ⟨same_upd hD3, upd_same⟩ (fun i H3 _ hp => hp.1.seq (SqL.of d2)) (fun i x H3 hx hp => ?_) (fun H3 hp => ?_)
        · obtain ⟨s3, d3⟩ := hp
          obtain ⟨h, hh, rfl⟩ := nV_get hx
          have hmem := List.mem_of_getElem? hh
          have hhn : h < n := List.mem_range.mp (List.mem_filter.mp hmem).1
          have sH3 : Same H H3 := sH2.trans s3
          refine ⟨rfl, .ref p, rfl, .int (h : Nat), rfl, p, purV n c, _, _, rfl, rfl, seqT_of sH3 hP, purV_at hhn, .ref a, rfl, .int (h : Nat), rfl, .ref D, rfl, ?_⟩
          refine ⟨a, D, n, m, h, lit, rfl, hW.same sH3, hhn, SqL.of (s3 _ _ hd2), lt, ?_, fun H4 s4 => ?_⟩
          · have := MT.nodup_len n lit nd lt
            omega
          have sH4 : Same H2 H4 := s3.trans s4
          have fin : List.filter (fun x => decide (c x < tieSum m x lit)) (((List.range n).filter fun x => !lit.contains x).take (i + 1)) = List.filter (fun x => decide (c x < tieSum m x lit)) (((List.range n).filter fun x => !lit.contains x).take i) ++ (if c h < tieSum m h lit then [h] else []) := by
            rw [take_snoc hh, List.filter_append]
            congr 1
            by_cases hc : c h < tieSum m h lit <;> simp [hc]
          refine ⟨c h, tieSum m h lit, rfl, rfl, _, rfl, ite2 (fun e => ?_) (fun e => ?_)⟩
          · have hc := of_decide_eq_true e
            refine ⟨_, rfl, _, s4 _ _ d3, ?_, same_but sH4 hD3, ?_⟩
            · rw [nV_len]
              refine line_lt (Nat.le_trans (List.length_filter_le _ _) ?_)
              rw [List.length_take]
              have := List.length_filter_le (fun x => !lit.contains x) (List.range n)
              rw [List.length_range] at this
              omega
            · rw [upd_same, fin, if_pos hc, nV_append]
              rfl
          · have hc : ¬ c h < tieSum m h lit := fun z => e (decide_eq_true z)
            refine ⟨sH4, ?_⟩
            rw [fin, if_neg hc, List.append_nil]
            exact s4 _ _ d3
        · obtain ⟨s3, d3⟩ := hp
          rw [nV_len, List.take_length] at d3
          generalize hR : List.filter (fun x => decide (c x < tieSum m x lit)) ((List.range n).filter fun x => !lit.contains x) = R at d3
          have memR : ∀ x, x ∈ R ↔ (x < n ∧ x ∉ lit) ∧ c x < tieSum m x lit := fun x => by
            rw [← hR, List.mem_filter, List.mem_filter, List.mem_range]
            simp
          have sH3 : Same H H3 := sH2.trans s3
          have hd3 : H3 D = some (.lst (nV lit)) := s3 _ _ hd2
          refine ⟨.ref D3, rfl, D3, nV R, rfl, .inl (SqL.of d3), rfl, _, rfl, ?_⟩
          rw [dec_intV, nV_len]
          refine ite2 (fun e => ?_) (fun e => ?_)
          · -- nobody burns: all are burnt
            have hR0 : R = [] := by
              have := of_decide_eq_true e
              exact List.length_eq_zero_iff.mp (by omega)
            refine ⟨.ref D, rfl, q H3 D lit sH3 hD hd3 ?_⟩
            have le := MT.nodup_len n lit nd lt
            by_cases hlt : lit.length < n
            · obtain ⟨h, h1, h2, h3⟩ := hF lit nd lt bm hlt
              have := (memR h).mpr ⟨⟨h1, h2⟩, h3⟩
              rw [hR0] at this
              cases this
            · omega
          · have hR1 : R ≠ [] := fun z => e (by rw [z]; rfl)
            obtain ⟨r, R', hRc⟩ : ∃ r R', R = r :: R' := by
              cases R with
              | nil => exact absurd rfl hR1
              | cons r R' => exact ⟨r, R', rfl⟩
            have hr1 := (memR r).mp (by rw [hRc]; exact List.mem_cons_self)
            refine ⟨.ref D, rfl, .inl ⟨rfl, _, SqL.of hd3⟩, .ref D3, rfl, D3, nV R, 0, .int (r : Nat), rfl, rfl, SqL.of d3, by rw [hRc]; exact atI_nat (j := 0) rfl, D, nV lit, _, rfl, rfl, hd3, ?_, ?_⟩
            · rw [nV_len]
              have := MT.nodup_len n lit nd lt
              exact line_lt (by omega)
            · refine ⟨lit ++ [r], _, _, rfl, ?_, same_but sH3 hD, ?_, ?_, ?_, List.mem_append_left _ bm⟩
              · rw [List.length_append]
                simp
                omega
              · rw [upd_same, nV_append]
                rfl
              · rw [List.nodup_append]
                exact ⟨nd, by simp, fun x hx y hy => by rw [List.mem_singleton.mp hy]; exact fun z => hr1.1.2 (z ▸ hx)⟩
              · intro x hx
                rcases List.mem_append.mp hx with hx | hx
                · exact lt x hx
                · rw [List.mem_singleton.mp hx]; exact hr1.1.1
/-! ### is_settled -/
def spSettled (K : PySem.W.Frag) : Sp := fun vs H Q _ => ∃ (a p : Addr) (n b : Nat) (m : Nat → Nat → Nat) (c : Nat → Int),
  vs = [.ref a, .ref p, .int (b : Nat)] ∧ WebAt K H a n m ∧ SqT K H p (purV n c) ∧ b < n ∧ n ≤ 7 ∧ FireOk n m c b ∧ (∀ h, h < n → h ≠ b → 0 ≤ c h) ∧ ∀ H', Same H H' → Q (.bl true) H'
theorem ok_settled {f fB : Addr} {fd fdB : FuncData} {k : Nat} (F : Fun K "is_settled" "is_settled" sSettled f fd) (M : Mg mg) (FB : Fun K "burnt" "burnt" sBurnt fB fdB) (bB : Binds K fdB ["web", "purse", "base"] []) (gB : mg "burnt" = some (.ref fB))
    (GB : FnOk P w K mg base CX0 (k + 2) fB fdB ["web", "purse", "base"] (spBurnt K)) : FnOk P w K mg base CX0 (k + 3) f fd ["web", "purse", "base"] (spSettled K) := by
  refine F.ok scSettled (fun vs H Q E h => ?_) (fun cdv A outer s H vs Q E hr h => ?_)
  · obtain ⟨a, p, n, b, m, c, rfl, _⟩ := h
    rfl
  · obtain ⟨a, p, n, b, m, c, rfl, hW, hP, hb, hn, hF, hc, q⟩ := h
    refine ⟨_, pss_cons (ps_for PassesOwn.never rfl (pi_range1 rfl M.range (pa_cons (pe_callB (lenS K) (by rfl) M.len PySem.boot_len (pa_cons (pv 0) pa_nil)) pa_nil)) (pg_name (i := 3) scSettled.nd rfl (.inl rfl))
        (pss_one (ps_if (PW.pt (pw_and (pt_cmpR op_ne (pv 3) (pv 2) (nomark _)) (pw_and1 (pt_cmpR op_lt (pe_ix (ixt K) (pv 1) (pv 3) (fun _ _ => rfl)) pe_int (nomark _))))) (pss_one (ps_ret pe_bl)) pss_nil)))
      (pss_one (ps_ret (pe_cmpR op_eq (pe_callB (lenS K) (by rfl) M.len PySem.boot_len (pa_cons (pe_call GB hr (by rfl) gB FB.kp bB .nil pass0 (pa_cons (pv 0) (pa_cons (pv 1) (pa_cons (pv 2) pa_nil)))) pa_nil))
        (pe_callB (lenS K) (by rfl) M.len PySem.boot_len (pa_cons (pv 0) pa_nil)) (nomark _)))), ?_⟩
    obtain ⟨xs, hX, hXl⟩ := hW.tup
    refine ⟨.ref a, rfl, a, xs, rfl, .inr hX, n, by rw [hXl], by omega, by omega, ?_⟩
    rw [show ((n : Int)).toNat = n from rfl]
    refine for_range (lo := 0) (n := n) (fun i σ H1 => ∃ y, σ = [some (.ref a), some (.ref p), some (.int (b : Nat)), y] ∧ H1 = H) ⟨none, rfl, rfl⟩ (fun i σ H1 hi hp => ?_) (fun σ H1 hp => ?_)
    · obtain ⟨y, rfl, rfl⟩ := hp
      refine ⟨.int (0 + (i : Nat)), rfl, .int (b : Nat), rfl, rfl, _, rfl, ?_⟩
      rw [show ((0 : Int) + (i : Nat)) = (i : Nat) by omega, dec_intV]
      refine ite2 (fun e => ?_) (fun e => ?_)
      · have ne : i ≠ b := fun z => by
          subst z
          simp at e
        refine ⟨.ref p, rfl, .int (i : Nat), rfl, p, purV n c, _, _, rfl, rfl, hP, purV_at hi, _, _, rfl, rfl, _, rfl, ite2 (fun e2 => ?_) (fun e2 => ?_)⟩
        · have := of_decide_eq_true e2
          have := hc i hi ne
          omega
        · exact ⟨_, rfl, rfl⟩
      · exact iteF ⟨_, rfl, rfl⟩
    · obtain ⟨y, rfl, rfl⟩ := hp
      refine ⟨.ref a, rfl, .ref p, rfl, .int (b : Nat), rfl, a, p, n, b, m, c, rfl, hW, hP, hb, hn, hF, fun H' r fs s1 r0 hr1 hl => ?_⟩
      refine ⟨r, nV fs, rfl, .inl (SqL.of hr1), .ref a, rfl, a, xs, rfl, .inr (seqT_of s1 hX), rfl, ?_⟩
      rw [dec_intV, nV_len, hl, hXl, decide_eq_true rfl]
      exact q H' s1
end
end K54
end
/-! ## T4 -/
section
set_option Elab.async false
set_option linter.all false
set_option maxRecDepth 100000
set_option maxHeartbeats 4000000
namespace K54
open PySem PySem.Spec PyProof.Rows L2
open MT (Tie tiesAB tiesA tiesTo ties)
/-! ### the ties as they lie -/
abbrev tieV (t : Tie) : List V := [.int (t.1 : Nat), .int (t.2.1 : Nat), .int (t.2.2 : Nat)]
structure TupsAt (H : Hp) (qs : List Addr) (ts : List Tie) : Prop where
  len : qs.length = ts.length
  at_ : ∀ (i : Nat) (q : Addr) (t : Tie), qs[i]? = some q → ts[i]? = some t → H q = some (.tup (tieV t))
theorem TupsAt.same {H H' : Hp} {qs : List Addr} {ts : List Tie} (h : TupsAt H qs ts) (s : Same H H') : TupsAt H' qs ts := ⟨h.len, fun i q t a b => s _ _ (h.at_ i q t a b)⟩
theorem TupsAt.snoc {H : Hp} {qs : List Addr} {ts : List Tie} {q : Addr} {t : Tie} (h : TupsAt H qs ts) (e : H q = some (.tup (tieV t))) : TupsAt H (qs ++ [q]) (ts ++ [t]) := by
  have hl := h.len
  refine ⟨by simp [hl], fun i q' t' a b => ?_⟩
  by_cases hi : i < qs.length
  · rw [List.getElem?_append_left hi] at a
    rw [List.getElem?_append_left (by omega)] at b
    exact h.at_ i q' t' a b
  · rw [List.getElem?_append_right (by omega)] at a
    rw [List.getElem?_append_right (by omega)] at b
    have h0 : i - qs.length = 0 := by
      by_cases z : i - qs.length = 0
      · exact z
      · rw [List.getElem?_eq_none (by simp; omega)] at a
        cases a
    rw [h0] at a
    rw [show i - ts.length = 0 by omega] at b
    cases a
    cases b
    exact e
/-- the web is small -/
structure Small (n : Nat) (m : Nat → Nat → Nat) : Prop where
  n7 : n ≤ 7
  le : ∀ a b, a < n → b < n → m a b ≤ 20
theorem len_AB (m : Nat → Nat → Nat) (a b : Nat) : (tiesAB m a b).length = m a b := by simp [tiesAB]
theorem len_A {n : Nat} {m : Nat → Nat → Nat} (S : Small n m) {a : Nat} : ∀ k, a + 1 + k ≤ n → (tiesA m a k).length ≤ 20 * k
  | 0, _ => by simp [tiesA]
  | k + 1, h => by
    rw [MT.tiesA_succ, List.length_append, len_AB]
    have := len_A S (a := a) k (by omega)
    have := S.le a (a + 1 + k) (by omega) (by omega)
    omega
theorem len_To {n : Nat} {m : Nat → Nat → Nat} (S : Small n m) : ∀ i, i ≤ n → (tiesTo n m i).length ≤ 140 * i
  | 0, _ => by simp [tiesTo]
  | i + 1, h => by
    rw [MT.tiesTo_succ, List.length_append]
    have := len_To S i (by omega)
    have := len_A S (a := i) (n - (i + 1)) (by omega)
    have := S.n7
    omega
theorem len_ties {n : Nat} {m : Nat → Nat → Nat} (S : Small n m) : (ties n m).length ≤ 1000 := by
  have := len_To S n (Nat.le_refl n)
  have := S.n7
  show (tiesTo n m n).length ≤ 1000
  omega
section
variable {P : Program} {w : World} {K : PySem.W.Frag} {mg : Str → Option Value} {base : Heap}
def spTiesOf (K : PySem.W.Frag) : Sp := fun vs H Q _ => ∃ (a : Addr) (n : Nat) (m : Nat → Nat → Nat), vs = [.ref a] ∧ WebAt K H a n m ∧ Small n m ∧
  ∀ H' p qs, Same H H' → H p = none → H' p = some (.lst (qs.map V.ref)) → TupsAt H' qs (ties n m) → Q (.ref p) H'
theorem ok_tiesOf {f : Addr} {fd : FuncData} {k : Nat} (F : Fun K "ties_of" "ties_of" sTiesOf f fd) (M : Mg mg) : FnOk P w K mg base CX0 (k + 1) f fd ["web"] (spTiesOf K) := by
  refine F.ok scTiesOf (fun vs H Q E h => ?_) (fun cdv A outer s H vs Q E hr h => ?_)
  · obtain ⟨a, n, m, rfl, _⟩ := h
    rfl
  · obtain ⟨a, n, m, rfl, hW, S, q⟩ := h
    refine ⟨_, pss_cons (ps_set (i := 1) scTiesOf.nd rfl (.inl rfl) (pe_lst pa_nil))
      (pss_cons (ps_for PassesOwn.never rfl (pi_range1 rfl M.range (pa_cons (pe_callB (lenS K) (by rfl) M.len PySem.boot_len (pa_cons (pv 0) pa_nil)) pa_nil)) (pg_name (i := 2) scTiesOf.nd rfl (.inl rfl))
        (pss_one (ps_for PassesOwn.never rfl (pi_range2 (by rfl) M.range (pa_cons (pe_op op_add (pv 2) pe_int) (pa_cons (pe_callB (lenS K) (by rfl) M.len PySem.boot_len (pa_cons (pv 0) pa_nil)) pa_nil))) (pg_name (i := 3) scTiesOf.nd rfl (.inl rfl))
          (pss_one (ps_for PassesOwn.never rfl (pi_range1 rfl M.range (pa_cons (pe_ix (ixt K) (pe_ix (ixt K) (pv 0) (pv 2) (fun _ _ => rfl)) (pv 3) (fun _ _ => rfl)) pa_nil)) (pg_name (i := 4) scTiesOf.nd rfl (.inl rfl))
            (pss_one (ps_expr (pe_bm PySem.F.plainAttrs_list PySem.F.slot_list_append PySem.F.type_list_append mt_append (pv 1) (pa_cons (pe_tup (pa_cons (pv 2) (pa_cons (pv 3) (pa_cons (pv 4) pa_nil)))) pa_nil)))))))))
      (pss_one (ps_ret (pv 1)))), ?_⟩
    refine ⟨Nat.zero_le _, fun D hD => ?_⟩
    obtain ⟨xs, hX, hXl⟩ := hW.tup
    have n7 := S.n7
    have s0 : Same H (upd H D (.lst [])) := same_upd hD
    refine ⟨.ref a, rfl, a, xs, rfl, .inr (seqT_of s0 hX), n, by rw [hXl], by omega, by omega, ?_⟩
    rw [show ((n : Int)).toNat = n from rfl]
    -- the state: the list so far
    refine for_range (lo := 0) (n := n) (fun i σ H1 => ∃ y2 y3 y4 qs, σ = [some (.ref a), some (.ref D), y2, y3, y4] ∧ Same H H1 ∧ H1 D = some (.lst (qs.map V.ref)) ∧ TupsAt H1 qs (tiesTo n m i))
      ⟨none, none, none, [], rfl, s0, upd_same, ⟨rfl, fun i q t e _ => by simp at e⟩⟩ (fun i σ H1 hi hp => ?_) (fun σ H1 hp => ?_)
    · obtain ⟨y2, y3, y4, qs, rfl, s1, d1, t1⟩ := hp
      refine ⟨.int (0 + (i : Nat)), rfl, _, _, rfl, rfl, .ref a, rfl, a, xs, rfl, .inr (seqT_of s1 hX), _, n, by rw [hXl], ⟨by omega, by omega, by omega, by omega⟩, ?_⟩
      rw [show ((0 : Int) + (i : Nat) + 1) = ((i + 1 : Nat) : Int) by omega, show (((n : Int)) - ((i + 1 : Nat) : Int)).toNat = n - (i + 1) by omega]
      refine for_range (lo := ((i + 1 : Nat) : Int)) (n := n - (i + 1)) (fun j σ H2 => ∃ y3 y4 qs, σ = [some (.ref a), some (.ref D), some (.int (i : Nat)), y3, y4] ∧ Same H H2 ∧ H2 D = some (.lst (qs.map V.ref)) ∧ TupsAt H2 qs (tiesTo n m i ++ tiesA m i j))
        ⟨y3, y4, qs, by rw [show ((0 : Int) + (i : Nat)) = (i : Nat) by omega]; rfl, s1, d1, by
          have e : tiesA m i 0 = [] := rfl
          rw [e, List.append_nil]
          exact t1⟩ (fun j σ H2 hj hp2 => ?_) (fun σ H2 hp2 => ?_)
      · obtain ⟨z3, z4, qs2, rfl, s2, d2, t2⟩ := hp2
        have hb : i + 1 + j < n := by omega
        obtain ⟨ys, r, h1, _, h3, h4⟩ := (hW.same s2).row hi
        have eb : (((i + 1 : Nat) : Int) + (j : Nat)) = ((i + 1 + j : Nat) : Int) := by omega
        have lemm := S.le i (i + 1 + j) hi hb
        refine ⟨.ref a, rfl, .int (i : Nat), rfl, a, ys, _, .ref r, rfl, rfl, h1, h3, .int (((i + 1 : Nat) : Int) + (j : Nat)), rfl, r, rowV n m i, _, _, rfl, rfl, h4, by rw [eb]; exact rowV_at hb, (m i (i + 1 + j) : Nat), rfl, by omega, by omega, ?_⟩
        rw [show ((m i (i + 1 + j) : Nat) : Int).toNat = m i (i + 1 + j) from rfl]
        refine for_range (lo := 0) (n := m i (i + 1 + j)) (fun t σ H3 => ∃ y4 qs, σ = [some (.ref a), some (.ref D), some (.int (i : Nat)), some (.int (i + 1 + j : Nat)), y4] ∧ Same H H3 ∧ H3 D = some (.lst (qs.map V.ref)) ∧ TupsAt H3 qs (tiesTo n m i ++ tiesA m i j ++ (List.range t).map fun t => (i, i + 1 + j, t)))
          ⟨z4, qs2, by rw [eb]; rfl, s2, d2, by
            rw [List.range_zero, List.map_nil, List.append_nil]
            exact t2⟩ (fun t σ H3 ht hp3 => ?_) (fun σ H3 hp3 => ?_)
        · obtain ⟨u4, qs3, rfl, s3, d3, t3⟩ := hp3
          refine ⟨.ref D, rfl, .inl ⟨rfl, _, SqL.of d3⟩, .int (i : Nat), rfl, .int (i + 1 + j : Nat), rfl, .int (0 + (t : Nat)), rfl, (by show 3 ≤ sizeLine; exact line_le (by decide)), fun T hT => ?_⟩
          have nDT : D ≠ T := ne_of_none d3 hT
          have sT : Same H3 (upd H3 T (.tup [.int (i : Nat), .int (i + 1 + j : Nat), .int (0 + (t : Nat))])) := same_upd hT
          refine ⟨D, qs3.map V.ref, _, rfl, rfl, sT _ _ d3, ?_, ?_⟩
          · rw [List.length_map, t3.len]
            have l1 := len_To S i (by omega)
            have l2 := len_A S (a := i) j (by omega)
            rw [List.length_append, List.length_append, List.length_map, List.length_range]
            exact line_lt (by omega)
          · refine ⟨_, qs3 ++ [T], rfl, same_but (s3.trans sT) hD, by rw [upd_same, List.map_append]; rfl, ?_⟩
            rw [List.range_succ, List.map_append, ← List.append_assoc]
            have t4 : TupsAt (upd H3 T (.tup [.int (i : Nat), .int (i + 1 + j : Nat), .int (0 + (t : Nat))])) (qs3 ++ [T]) (tiesTo n m i ++ tiesA m i j ++ (List.range t).map (fun t => (i, i + 1 + j, t)) ++ [(i, i + 1 + j, t)]) := by
              refine (t3.same sT).snoc ?_
              rw [upd_same, show ((0 : Int) + (t : Nat)) = (t : Nat) by omega]
            refine ⟨t4.len, fun x q' t' ex et => ?_⟩
            have e := t4.at_ x q' t' ex et
            rw [upd_ne (fun z => by
              rw [z, upd_ne nDT, d3] at e
              cases e)]
            exact e
        · obtain ⟨u4, qs3, rfl, s3, d3, t3⟩ := hp3
          refine ⟨_, _, qs3, rfl, s3, d3, ?_⟩
          rw [MT.tiesA_succ, ← List.append_assoc]
          exact t3
      · obtain ⟨z3, z4, qs2, rfl, s2, d2, t2⟩ := hp2
        refine ⟨_, _, _, qs2, rfl, s2, d2, ?_⟩
        rw [MT.tiesTo_succ]
        exact t2
    · obtain ⟨y2, y3, y4, qs, rfl, s1, d1, t1⟩ := hp
      exact ⟨.ref D, rfl, q H1 D qs s1 hD d1 t1⟩
/-! ### next_tie -/
def optV : Option Nat → V
  | none => .non
  | some k => .int (k : Nat)
def edsOf (ts : List Tie) : List MT.Ed := ts.map MT.edge
theorem eg_of {ts : List Tie} {k : Nat} {t : Tie} (h : ts[k]? = some t) : MT.eg (edsOf ts) k = (t.1, t.2.1) := by
  unfold MT.eg edsOf
  simp [List.getD, List.getElem?_map, h, MT.edge]
def blV (l : List Bool) : List V := l.map V.bl
theorem blV_at {l : List Bool} {a : Nat} (h : a < l.length) : atI (blV l) (a : Int) = some (.bl (MT.bAt l a)) := by
  refine atI_nat ?_
  unfold blV MT.bAt
  rw [List.getElem?_map, List.getElem?_eq_getElem h]
  simp [List.getD, List.getElem?_eq_getElem h]
def spNextTie (K : PySem.W.Frag) : Sp := fun vs H Q _ => ∃ (p lk mk : Addr) (qs : List Addr) (ts : List Tie) (l : List Nat) (mb : List Bool), vs = [.ref p, .ref lk, .ref mk] ∧ SqL K H p (qs.map V.ref) ∧ TupsAt H qs ts ∧ ts.length ≤ 1000 ∧
  SqL K H lk (nV l) ∧ SqL K H mk (blV mb) ∧ (∀ t ∈ ts, t.1 < mb.length ∧ t.2.1 < mb.length) ∧ Q (optV (MT.nextT (edsOf ts) l mb)) H
theorem ok_nextTie {f : Addr} {fd : FuncData} {k : Nat} (F : Fun K "next_tie" "next_tie" sNextTie f fd) (M : Mg mg) : FnOk P w K mg base CX0 (k + 1) f fd ["ties", "looked", "marks"] (spNextTie K) := by
  refine F.ok scNextTie (fun vs H Q E h => ?_) (fun cdv A outer s H vs Q E hr h => ?_)
  · obtain ⟨p, lk, mk, qs, ts, l, mb, rfl, _⟩ := h
    rfl
  · obtain ⟨p, lk, mk, qs, ts, l, mb, rfl, hT, tt, hlen, hL, hM, hlt, q⟩ := h
    refine ⟨_, pss_cons (ps_for PassesOwn.never rfl (pi_range1 rfl M.range (pa_cons (pe_callB (lenS K) (by rfl) M.len PySem.boot_len (pa_cons (pv 0) pa_nil)) pa_nil)) (pg_name (i := 3) scNextTie.nd rfl (.inl rfl))
        (pss_one (ps_if (PW.pt (pw_and (pt_cmpR (notInS K) (pv 3) (pv 1) (by rfl)) (pw_and1 (pt_cmpR op_ne
            (pe_ix (ixl K) (pv 2) (pe_ix (ixt K) (pe_ix (ixl K) (pv 0) (pv 3) (fun _ _ => rfl)) pe_int (fun _ _ => rfl)) (fun _ _ => rfl))
            (pe_ix (ixl K) (pv 2) (pe_ix (ixt K) (pe_ix (ixl K) (pv 0) (pv 3) (fun _ _ => rfl)) pe_int (fun _ _ => rfl)) (fun _ _ => rfl)) (nomark _))))) (pss_one (ps_ret (pv 3))) pss_nil)))
      (pss_one (ps_ret pe_non)), ?_⟩
    have hq := tt.len
    refine ⟨.ref p, rfl, p, _, rfl, .inl hT, ts.length, by rw [List.length_map, hq], by omega, by omega, ?_⟩
    rw [show ((ts.length : Int)).toNat = ts.length from rfl]
    refine for_range (lo := 0) (n := ts.length) (fun i σ H1 => ∃ y, σ = [some (.ref p), some (.ref lk), some (.ref mk), y] ∧ H1 = H ∧ (List.range i).find? (fun k => !l.contains k && (MT.bAt mb (MT.eg (edsOf ts) k).1 != MT.bAt mb (MT.eg (edsOf ts) k).2)) = none)
      ⟨none, rfl, rfl, rfl⟩ (fun i σ H1 hi hp => ?_) (fun σ H1 hp => ?_)
    · obtain ⟨y, rfl, rfl, hn⟩ := hp
      have et : ts[i]? = some ts[i] := List.getElem?_eq_getElem hi
      have eq : qs[i]? = some (qs[i]'(by omega)) := List.getElem?_eq_getElem (by omega)
      have hTi := tt.at_ i _ _ eq et
      have e1 := eg_of et
      have bnd := hlt ts[i] (List.getElem_mem hi)
      have hq1 : atI (qs.map V.ref) (i : Int) = some (.ref (qs[i]'(by omega))) := atI_nat (by rw [List.getElem?_map, eq]; rfl)
      have step : ∀ (b : Bool), (!l.contains i && (MT.bAt mb (MT.eg (edsOf ts) i).1 != MT.bAt mb (MT.eg (edsOf ts) i).2)) = b → (List.range (i + 1)).find? (fun k => !l.contains k && (MT.bAt mb (MT.eg (edsOf ts) k).1 != MT.bAt mb (MT.eg (edsOf ts) k).2)) = if b = true then some i else none := fun b hb => by
        have e1 : List.find? (fun k => !l.contains k && (MT.bAt mb (MT.eg (edsOf ts) k).1 != MT.bAt mb (MT.eg (edsOf ts) k).2)) [i] = (match (!l.contains i && (MT.bAt mb (MT.eg (edsOf ts) i).1 != MT.bAt mb (MT.eg (edsOf ts) i).2)) with | true => some i | false => none) := rfl
        rw [List.range_succ, List.find?_append, hn, e1, hb]
        cases b <;> rfl
      refine ⟨.int (0 + (i : Nat)), rfl, .ref lk, rfl, lk, nV l, rfl, .inl hL, rfl, flat_nV l, _, rfl, ?_⟩
      rw [show ((0 : Int) + (i : Nat)) = (i : Nat) by omega, inV_nV]
      refine ite2 (fun e => ?_) (fun e => ?_)
      · have hc : l.contains i = false := by
          have : (if true = true then !l.contains i else l.contains i) = true := e
          simpa using this
        refine ⟨.ref mk, rfl, .ref p, rfl, .int (i : Nat), rfl, p, _, _, _, rfl, rfl, hT, hq1, _, _, _, _, rfl, rfl, SqT.of hTi, atI_nat (j := 0) rfl, mk, blV mb, _, _, rfl, rfl, hM, blV_at bnd.1,
          .ref mk, rfl, .ref p, rfl, .int (i : Nat), rfl, p, _, _, _, rfl, rfl, hT, hq1, _, _, _, _, rfl, rfl, SqT.of hTi, atI_nat (j := 1) rfl, mk, blV mb, _, _, rfl, rfl, hM, blV_at bnd.2, rfl, _, rfl, ?_⟩
        rw [dec_bl]
        refine ite2 (fun e2 => ?_) (fun e2 => ?_)
        · refine ⟨.int (i : Nat), rfl, ?_⟩
          have st := step true (by rw [hc, e1]; simpa using e2)
          rw [if_pos rfl] at st
          have fin : MT.nextT (edsOf ts) l mb = some i := by
            unfold MT.nextT
            have hle : (edsOf ts).length = ts.length := List.length_map _
            rw [hle]
            have sp : List.range ts.length = List.range (i + 1) ++ (List.range' (i + 1) (ts.length - (i + 1))) := by
              rw [List.range_eq_range', List.range_eq_range', show ts.length = (i + 1) + (ts.length - (i + 1)) by omega, ← List.range'_append_1]
              simp
            rw [sp, List.find?_append, st]
            rfl
          rw [fin] at q
          exact q
        · refine ⟨_, rfl, rfl, ?_⟩
          have st := step false (by rw [hc, e1]; simpa using e2)
          rw [if_neg (by simp)] at st
          exact st
      · have hc : l.contains i = true := by
          have : ¬ (if true = true then !l.contains i else l.contains i) = true := e
          simpa using this
        refine iteF ⟨_, rfl, rfl, ?_⟩
        have st := step false (by rw [hc]; rfl)
        rw [if_neg (by simp)] at st
        exact st
    · obtain ⟨y, rfl, rfl, hn⟩ := hp
      have fin : MT.nextT (edsOf ts) l mb = none := by
        unfold MT.nextT
        have hle : (edsOf ts).length = ts.length := List.length_map _
        rw [hle]
        exact hn
      rw [fin] at q
      exact q
end
end K54
end
/-! ## X1 -/
section
set_option Elab.async false
set_option linter.all false
set_option maxRecDepth 100000
set_option maxHeartbeats 4000000
namespace K54
open PySem PySem.Spec PyProof.Rows L2
/-! ### more rules: sets of ints, lists of ranges, items of lists to be added to -/
/-- how many different numbers -/
def dist (ns : List Int) : Nat := (firstMet (fun i => ns.getD i 0) ns.length).length
theorem dist_le (ns : List Int) : dist ns ≤ ns.length := firstMet_length_le _ _
section
variable {X : Cx}
theorem crSetInts (K : PySem.W.Frag) (hc : X.calm = true) (hK : X.K = K := by rfl) : CallR X (.type "set") (fun xs H Q => ∃ (l : Addr) (ns : List Int), xs = [.ref l] ∧ SqL K H l (ns.map V.int) ∧ ns.length ≤ 1000 ∧
    ∀ p S, H p = none → Q (.ref p) (upd H p (.set S (dist ns)))) := by
  subst hK
  intro pins s σ H xs us Q I r ⟨l, ns, e, hl, hb, q⟩
  subst e
  have eu := Vals.ref1 r
  subst eu
  obtain ⟨its, rv, pl, _⟩ := I.list hl
  have el : its.length = ns.length := by rw [← rv.length, List.length_map]
  refine call_set_list (I.ok.hd hc) pl.isList (ns := ns) (by simpa using rv.ints) (by rw [List.size_toArray, el]; unfold scanBound; omega) fun h1 t1 so kp => ?_
  have es : its.toArray.size = ns.length := by rw [List.size_toArray, el]
  rw [es] at so
  have nw : H s.heap.objs.size = none := I.hok.fresh (Nat.le_refl _)
  exact ⟨.ref s.heap.objs.size, _, I.laid (o := .set _ (dist ns)) (t' := t1) (fun b o hb2 => kp b o (Heap.lt_size hb2) hb2) (Nat.le_refl _) so, rfl, q _ _ nw⟩
theorem crLenSet : CallR X (.builtin "len") (fun xs H Q => ∃ (p : Addr) (S : Int → Bool) (n : Nat), xs = [.ref p] ∧ H p = some (.set S n) ∧ n ≤ 1000 ∧ Q (.int n) H) := by
  intro pins s σ H xs us Q I r ⟨p, S, n, e, hp, hn, q⟩
  subst e
  have eu := Vals.ref1 r
  subst eu
  have so : ObjOk X.prog X.w H s.heap p (.set S n) := I.hok p _ hp
  obtain ⟨o, es, ep, t, h1, h2, h3, _, _, _, h4, h5⟩ := so
  exact call_len_set h1 h2 h3 h4 (by omega) ⟨.int n, H, I.tok _, ⟨_, by rw [h5]⟩, q⟩
/-- range(n) as a value -/
theorem crRange1 : CallR X (.type "range") (fun xs H Q => ∃ j : Int, xs = [.int j] ∧ ∀ p, H p = none → Q (.ref p) (upd H p (.rng 0 j))) := by
  intro pins s σ H xs us Q I r ⟨j, e, q⟩
  subst e
  obtain ⟨u, eu, ru⟩ := vals1 r
  subst eu
  obtain ⟨t, et⟩ := ru
  subst et
  have nw : H s.heap.objs.size = none := I.hok.fresh (Nat.le_refl _)
  refine call_range_1 ⟨.ref s.heap.objs.size, upd H s.heap.objs.size (.rng 0 j), ?_, rfl, q _ nw⟩
  exact I.laid (t' := s.toks + 1 + 1) (fun b o hb => Heap.get?_push_of_some _ hb) (Nat.le_refl _) ⟨s.toks, t, s.toks + 1, Heap.get?_push_size _ rfl⟩
/-- list(r), r a range -/
theorem crListRng (hc : X.calm = true) : CallR X (.type "list") (fun xs H Q => ∃ (r : Addr) (n : Nat), xs = [.ref r] ∧ H r = some (.rng 0 n) ∧ n ≤ 1000 ∧ ∀ p, H p = none → Q (.ref p) (upd H p (.lst (nV (List.range n))))) := by
  intro pins s σ H xs us Q I r ⟨a, n, e, ha, hn, q⟩
  subst e
  have eu := Vals.ref1 r
  subst eu
  have ob : ObjOk X.prog X.w H s.heap a (.rng 0 n) := I.hok a _ ha
  obtain ⟨t, u, v, ho⟩ := ob
  have nw : H s.heap.objs.size = none := I.hok.fresh (Nat.le_refl _)
  refine call_list_range (n := n) (I.ok.hd hc) ho ?_ ?_ (by omega) fun h1 t1 acc c kp hS hit => ?_
  · exact small_one (by omega) (by omega) (by omega) (by omega)
  · rw [rangeSize_one]
    split <;> omega
  · refine ⟨.ref s.heap.objs.size, _, I.laid (o := .lst (nV (List.range n))) (t' := t1) kp (Nat.le_refl _) ⟨?_, acc.toList, c, ?_, by rw [Array.toArray_toList]; exact hS⟩, rfl, q _ nw⟩
    · rw [nV_len, List.length_range]
      exact line_le (by omega)
    · obtain ⟨hz, hv⟩ := hit
      have key : ∀ (l : List Value) (k : Nat), (∀ j v, l[j]? = some v → ∃ t, v = Value.int (0 + ((k + j : Nat) : Int) * 1) t) → Vals (nV (List.range' k l.length)) l := by
        intro l
        induction l with
        | nil => intro k _; exact .nil
        | cons x l ih =>
          intro k hx
          obtain ⟨t0, e0⟩ := hx 0 x rfl
          refine .cons ⟨t0, ?_⟩ (ih (k + 1) fun j v hj => ?_)
          · rw [e0]
            congr 1
            omega
          · obtain ⟨t1, e1⟩ := hx (j + 1) v (by simpa using hj)
            exact ⟨t1, by rw [e1]; congr 2; omega⟩
      have := key acc.toList 0 fun j v hj => by
        obtain ⟨t2, e2⟩ := hv j v (by simpa using hj)
        exact ⟨t2, by rw [e2, Nat.zero_add]⟩
      rw [Array.length_toList, hz] at this
      rw [List.range_eq_range']
      exact this
/-- xs[i] as what an in-place operator reads -/
theorem pgetL (K : PySem.W.Frag) (hK : X.K = K := by rfl) : PGet X (fun o i H Q => ∃ (p : Addr) (xs : List V) (j : Nat) (v : V), o = .ref p ∧ i = .int (j : Nat) ∧ SqL K H p xs ∧ xs[j]? = some v ∧ Q v H) := by
  subst hK
  intro pins s σ H o i ov iv Q I ro ri ⟨p, xs, j, v, e1, e2, hl, hv, q⟩
  subst e1 e2
  obtain rfl : ov = Value.ref p := ro
  obtain ⟨t, et⟩ := ri
  subst et
  obtain ⟨its, rv, pl, hz⟩ := I.list hl
  obtain ⟨u, hu, ru⟩ := rv.get hv
  have hj : j < xs.length := (List.getElem?_eq_some_iff.mp hv).1
  have hb := line63
  exact wpAny_getItem_list pl.isList (Int.natCast_nonneg j) (by omega) (by simpa using hu) ⟨v, H, I, ru, q⟩
end
end K54
end
/-! ## X2 -/
section
set_option Elab.async false
set_option linter.all false
set_option maxRecDepth 100000
set_option maxHeartbeats 800000
namespace K54
open PySem PySem.Spec PyProof.Rows L2
/-! ### more rules: the sum of a tuple; min of a tuple with a default -/
section
variable {X : Cx}
theorem crSumT (K : PySem.W.Frag) (hc : X.calm = true) (hK : X.K = K := by rfl) : CallR X (.builtin "sum") (fun vs H Q => ∃ (a : Addr) (ns : List Int), vs = [.ref a] ∧ SqT K H a (ns.map V.int) ∧ Q (.int ns.sum) H) := by
  subst hK
  intro pins s σ H vs us Q I r ⟨a, ns, e, ht, q⟩
  subst e
  have eu := Vals.ref1 r
  subst eu
  obtain ⟨its, rv, it, hz⟩ := I.tuple ht
  obtain ⟨xs, ex⟩ := (intsAre_of rv).allInts.items
  have hn : numsOf (intItems xs).toList = ns := by rw [← ex]; exact (intsAre_of rv).numsOf
  rw [nums_intItems] at hn
  rw [ex] at it
  refine PySem.W.ktm_sumG (I.ok.hd hc) it fun h1 t1 t2 kp => ?_
  rw [preSum_eq, List.take_of_length_le (by simp), hn]
  exact ⟨.int ns.sum, H, I.kept (t' := t1) kp, ⟨_, rfl⟩, q⟩
end
theorem args_min_dflt (a v : Value) : argsOk "min" ⟨[a], [(Str.ofString "default", v)]⟩ := by unfold argsOk; kernel_rfl
/-- an int, not below 0 -/
def NnV (v : Value) : Prop := ∃ (i : Int) (t : Tok), v = .int i t ∧ 0 ≤ i
section
variable {prog : Program} {w : World} {A : Around} {R : Result → Shared → Prop} {I : Addr} {fp wr : List Addr} {n : Nat} {P : Nat → Value → Prop} {St : Nat → Heap → Prop} {kw : List (Str × Value)}
/-- the turns of min, keywords beside, once there is a least one -/
theorem min_turns (W : Walks prog w A.in1 I fp wr n P St) (hP : ∀ i v, P i v → NnV v) (S : Addr) (hSf : S ∉ fp) : ∀ (k j : Nat) (s : Shared) (vb : Value) (c : Nat), n - j = k → j ≤ n → St j s.heap → NnV vb →
    s.heap.get? S = some { cls := .type "list", dict := none, data := .seq #[vb, vb] c, slots := #[] } →
    (∀ v h' tk, NnV v → (∀ b o, b ∉ wr → b ≠ S → s.heap.get? b = some o → h'.get? b = some o) → R (.ok (.ret v)) { s with heap := h', toks := tk }) →
    codeAny (model prog w) A (.builtin "min.loop" ⟨[.ref I, .none, .ref S], kw⟩) R s := by
  have hSw : S ∉ wr := fun h => hSf (W.sub _ h)
  have nm : (toString "min" ++ toString ".loop" : String) = "min.loop" := by decide
  intro k
  induction k with
  | zero =>
    intro j s vb c hk hj hst hb hS hR
    have hjn : j = n := by omega
    subst hjn
    refine codeAny_builtin PySem.F.entry_min_loop ?_
    rw [Around.under_plainId PySem.F.plain_min_loop _]
    refine (wpAny_bind (wpAny_seqItems hS rfl ?_) : wpAny _ A.in1 (seqItems? (.ref S) >>= _) _ _ s)
    refine wpAny_bind (wpAny_tryCatch (W.done s _ _ hst fun h1 t1 kp => ?_))
    have hS1 := kp S _ hSw hS
    refine wpAny_bind (wpAny_updateSeq hS1 rfl (wpAny_bind (wpAny_letGo (wpAny_pure ?_))))
    exact hR vb _ t1 hb fun b o bw bS e => (Heap.get?_update_other _ _ (Ne.symm bS)).trans (kp b o bw e)
  | succ k ih =>
    intro j s vb c hk hj hst hb hS hR
    have hlt : j < n := by omega
    obtain ⟨bi, bt, rfl, bn⟩ := hb
    refine codeAny_builtin PySem.F.entry_min_loop ?_
    rw [Around.under_plainId PySem.F.plain_min_loop _]
    refine (wpAny_bind (wpAny_seqItems hS rfl ?_) : wpAny _ A.in1 (seqItems? (.ref S) >>= _) _ _ s)
    refine wpAny_bind (wpAny_tryCatch (W.item j s _ _ hlt hst fun v h1 t1 pv st1 kp => ?_))
    obtain ⟨vi, vt, rfl, vn⟩ := hP j v pv
    have hS1 := kp S _ hSw hS
    refine wpAny_bind (wpAny_pure ?_)
    refine wpAny_bind (wpAny_tryCatch (wpAny_holding (wpAny_bind (HT.rcLt_int _ _ vi vt bi bt _ _ _ _ ?_))))
    refine wpAny_bind (wpAny_holding (wpAny_truthy_bool ?_))
    refine wpAny_bind (wpAny_letGo (wpAny_pure ?_))
    cases hd : decide (vi < bi) with
    | true =>
      simp only [if_true]
      refine wpAny_bind (wpAny_updateSeq hS1 rfl (wpAny_bind (wpAny_letGo ?_)))
      rw [nm]
      refine wpAny_pure ⟨plainId_quiet PySem.F.plain_min_loop _, ih (j + 1) _ (.int vi vt) _ (by omega) hlt (W.frame _ _ _ st1 fun b bf o e => ?_) ⟨vi, vt, rfl, vn⟩ (Heap.get?_update_self _ hS1 rfl) fun v2 h2 t2 n2 k2 => ?_⟩
      · exact (Heap.get?_update_other _ _ (fun h : S = b => hSf (by rw [h]; exact bf))).trans e
      · exact hR v2 h2 t2 n2 fun b o bw bS e => k2 b o bw bS ((Heap.get?_update_other _ _ (Ne.symm bS)).trans (kp b o bw e))
    | false =>
      simp only [Bool.false_eq_true, if_false]
      refine wpAny_bind (wpAny_letGo ?_)
      rw [nm]
      refine wpAny_pure ⟨plainId_quiet PySem.F.plain_min_loop _, ih (j + 1) _ (.int bi bt) c (by omega) hlt st1 ⟨bi, bt, rfl, bn⟩ hS1 fun v2 h2 t2 n2 k2 => ?_⟩
      exact hR v2 h2 t2 n2 fun b o bw bS e => k2 b o bw bS (kp b o bw e)
/-- min from its first turn on, with a default -/
theorem min_first {d : Value} (W : Walks prog w A.in1 I fp wr n P St) (hP : ∀ i v, P i v → NnV v) (S : Addr) (hSf : S ∉ fp) {s : Shared} {c : Nat} (hst : St 0 s.heap) (hd : NnV d)
    (hS : s.heap.get? S = some { cls := .type "list", dict := none, data := .seq #[] c, slots := #[] })
    (hR : ∀ v h' tk, NnV v → (∀ b o, b ∉ wr → b ≠ S → s.heap.get? b = some o → h'.get? b = some o) → R (.ok (.ret v)) { s with heap := h', toks := tk }) :
    codeAny (model prog w) A (.builtin "min.loop" ⟨[.ref I, .none, .ref S], [(Str.ofString "default", d)]⟩) R s := by
  have hSw : S ∉ wr := fun h => hSf (W.sub _ h)
  have nm : (toString "min" ++ toString ".loop" : String) = "min.loop" := by decide
  refine codeAny_builtin PySem.F.entry_min_loop ?_
  rw [Around.under_plainId PySem.F.plain_min_loop _]
  refine (wpAny_bind (wpAny_seqItems hS rfl ?_) : wpAny _ A.in1 (seqItems? (.ref S) >>= _) _ _ s)
  by_cases h0 : 0 < n
  · refine wpAny_bind (wpAny_tryCatch (W.item 0 s _ _ h0 hst fun v h1 t1 pv st1 kp => ?_))
    have hS1 := kp S _ hSw hS
    refine wpAny_bind (wpAny_pure ?_)
    refine wpAny_bind (wpAny_updateSeq hS1 rfl ?_)
    rw [nm]
    refine wpAny_pure ⟨plainId_quiet PySem.F.plain_min_loop _, min_turns W hP S hSf _ 1 _ v _ rfl h0 (W.frame _ _ _ st1 fun b bf o e => ?_) (hP 0 v pv) (Heap.get?_update_self _ hS1 rfl) fun v2 h2 t2 n2 k2 => ?_⟩
    · exact (Heap.get?_update_other _ _ (fun h : S = b => hSf (by rw [h]; exact bf))).trans e
    · exact hR v2 h2 t2 n2 fun b o bw bS e => k2 b o bw bS ((Heap.get?_update_other _ _ (Ne.symm bS)).trans (kp b o bw e))
  · have hn : n = 0 := by omega
    subst hn
    refine wpAny_bind (wpAny_tryCatch (W.done s _ _ hst fun h1 t1 kp => ?_))
    refine wpAny_bind (wpAny_rule (wpAny_pure ?_))
    exact hR d _ t1 hd fun b o bw _ e => kp b o bw e
end
section
variable {X : Cx}
/-- min(t, default=d), ints that aren't below 0: such a one -/
theorem crMinD (K : PySem.W.Frag) (hc : X.calm = true) (hK : X.K = K := by rfl) : CallRK X (.builtin "min") [Str.ofString "default"] (fun vs zs H Q => ∃ (a : Addr) (ns : List Int) (d : Int), vs = [.ref a] ∧ zs = [.int d] ∧ SqT K H a (ns.map V.int) ∧ (∀ i ∈ ns, 0 ≤ i) ∧ 0 ≤ d ∧
    ∀ i, 0 ≤ i → Q (.int i) H) := by
  subst hK
  intro pins s σ H vs zs us ws Q I r r2 ⟨a, ns, d, e1, e2, ht, hn, hd, q⟩
  subst e1 e2
  have eu := Vals.ref1 r
  subst eu
  obtain ⟨u, eu, ru⟩ := vals1 r2
  subst eu
  obtain ⟨t, et⟩ := ru
  subst et
  obtain ⟨its, rv, it, hz⟩ := I.tuple ht
  have ia := intsAre_of rv
  have nm : (toString "min" ++ toString ".loop" : String) = "min.loop" := by decide
  obtain ⟨o, ho, hcl, n0, hdt⟩ := id it
  have hne : a ≠ s.heap.objs.size := Nat.ne_of_lt (Heap.lt_size ho)
  have W := Walks.tuple (prog := X.prog) (w := X.w) (A := X.A.in1) (I.ok.hd hc) s.heap.objs.size a hne its.toArray
  have hP : ∀ (i : Nat) (v : Value), its.toArray[i]? = some v → NnV v := fun i v hv => by
    have hv' : its[i]? = some v := by simpa using hv
    have hl := rv.length
    rw [List.length_map] at hl
    have hi : i < ns.length := by rw [hl]; exact (List.getElem?_eq_some_iff.mp hv').1
    obtain ⟨u, hu, ru⟩ := rv.get (i := i) (x := .int ns[i]) (by rw [List.getElem?_map, List.getElem?_eq_getElem hi]; rfl)
    rw [hv'] at hu
    cases hu
    obtain ⟨t2, e2⟩ := ru
    exact ⟨_, t2, e2, hn _ (List.getElem_mem hi)⟩
  refine kmk_tree PySem.F.kind_min PySem.F.plain_min PySem.F.entry_min (args_min_dflt _ _) ?_
  refine wpAny_bind (wpAny_of_eq (show Builtin.Builtins.bindParams "min" ["key", "default"] 0 ⟨[], [(Str.ofString "default", .int d t)]⟩ = pure [none, some (.int d t)] from rfl) ?_)
  refine wpAny_bind (wpAny_pure ?_)
  refine wpAny_bind (wpAny_pyIter_tuple it ?_)
  refine wpAny_bind (wpAny_newObj_type ?_)
  rw [nm]
  refine wpAny_pure ⟨plainId_quiet PySem.F.plain_min_loop _, min_first W hP _ ?_ (d := .int d t) ?_ ⟨d, t, rfl, hd⟩ (Heap.get?_push_size _ rfl) fun v h1 t1 nv kp => ?_⟩
  · intro hm
    have sz : (s.heap.push { cls := .type "tuple_iterator", data := .fields #[.ref a, .int 0 0] }).objs.size = s.heap.objs.size + 1 := Heap.size_push ..
    have la := Heap.lt_size ho
    rcases List.mem_cons.mp hm with e | hm
    · rw [sz] at e
      exact absurd e (Nat.succ_ne_self _)
    · have e := List.mem_singleton.mp hm
      rw [sz] at e
      rw [← e] at la
      exact absurd la (Nat.not_lt.mpr (Nat.le_succ _))
  · refine ⟨⟨_, Heap.get?_push_of_some _ (Heap.get?_push_size _ rfl), rfl, rfl⟩, ?_⟩
    exact ⟨o, Heap.get?_push_of_some _ (Heap.get?_push_of_some _ ho), hcl, n0, hdt⟩
  · obtain ⟨i, t3, rfl, hi⟩ := nv
    refine ⟨.int i, H, I.kept (t' := t1) fun b o e => ?_, ⟨_, rfl⟩, q i hi⟩
    have lb := Heap.lt_size e
    refine kp b o (fun hm => ?_) (fun hm => ?_) (Heap.get?_push_of_some _ (Heap.get?_push_of_some _ e))
    · rw [List.mem_singleton.mp hm] at lb
      exact Nat.lt_irrefl _ lb
    · rw [hm, Heap.size_push] at lb
      exact absurd lb (Nat.not_lt.mpr (Nat.le_succ _))
end
end K54
end
/-! ## T5 -/
section
set_option Elab.async false
set_option linter.all false
set_option maxRecDepth 100000
set_option maxHeartbeats 4000000
namespace K54
open PySem PySem.Spec PyProof.Rows L2
open MT (Tie ties Conn Fits asOne single Cl TF)
/-! ### how many marks there are -/
def iV (ms : List Nat) : List Int := ms.map fun k : Nat => ((k : Nat) : Int)
theorem iV_get {ms : List Nat} {i : Nat} (h : i < ms.length) : (iV ms).getD i 0 = (ms.getD i 0 : Nat) := by
  unfold iV
  simp [List.getD, List.getElem?_map, List.getElem?_eq_getElem h]
theorem iV_len (ms : List Nat) : (iV ms).length = ms.length := List.length_map _
theorem dist_one {ms : List Nat} (hs : single ms) (h0 : 0 < ms.length) : dist (iV ms) = 1 := by
  have key : ∀ i, i < ms.length → firstMet (fun i => (iV ms).getD i 0) (i + 1) = [((ms.getD 0 0 : Nat) : Int)] := by
    intro i
    induction i with
    | zero =>
      intro h
      rw [firstMet_succ, firstMet_zero, iV_get h]
      rfl
    | succ i ih =>
      intro h
      rw [firstMet_succ, ih (by omega), iV_get h]
      have e : ms.getD (i + 1) 0 = ms.getD 0 0 := hs _ (MT.getD_mem h)
      rw [e]
      unfold step_dedup
      simp
  obtain ⟨k, hk⟩ : ∃ k, ms.length = k + 1 := ⟨ms.length - 1, by omega⟩
  unfold dist
  rw [iV_len, hk, key k (by omega)]
  rfl
theorem dist_more {ms : List Nat} (hs : ¬ single ms) : 2 ≤ dist (iV ms) := by
  obtain ⟨u, hu, hne⟩ : ∃ u, u ∈ ms ∧ u ≠ ms.getD 0 0 := by
    by_cases q : ∃ u, u ∈ ms ∧ u ≠ ms.getD 0 0
    · exact q
    · exact absurd (fun u hu => Decidable.byContradiction fun h => q ⟨u, hu, h⟩) hs
  have h0 : 0 < ms.length := List.length_pos_of_mem hu
  have mem : ∀ v : Nat, v ∈ ms → ((v : Nat) : Int) ∈ firstMet (fun i => (iV ms).getD i 0) (iV ms).length := fun v hv => by
    obtain ⟨i, hi, e⟩ := MT.mem_getD hv
    have a := firstMet_any (fun i => (iV ms).getD i 0) (iV ms).length (v : Int)
    have b : ((List.range (iV ms).length).map fun i => (iV ms).getD i 0).any (· == (v : Int)) = true := by
      rw [List.any_eq_true]
      refine ⟨((v : Nat) : Int), List.mem_map.mpr ⟨i, List.mem_range.mpr (by rw [iV_len]; exact hi), ?_⟩, by simp⟩
      rw [iV_get hi, e]
    rw [b, List.any_eq_true] at a
    obtain ⟨x, hx, ex⟩ := a
    have : x = (v : Int) := by simpa using ex
    rw [← this]
    exact hx
  have m1 := mem u hu
  have m2 := mem _ (MT.getD_mem h0)
  unfold dist
  generalize firstMet (fun i => (iV ms).getD i 0) (iV ms).length = l at m1 m2
  match l, m1, m2 with
  | [], m1, _ => cases m1
  | [x], m1, m2 =>
    have e1 := List.mem_singleton.mp m1
    have e2 := List.mem_singleton.mp m2
    exact absurd (by omega) hne
  | x :: y :: r, _, _ => simp
theorem nV_iV (ms : List Nat) : nV ms = (iV ms).map V.int := nV_ints ms
theorem catTS {X : Cx} (K : PySem.W.Frag) (h : X.K = K := by rfl) : OpR X (binaryOp .Add) (rCatT K) := h ▸ op_catT
theorem nodup_len_le : ∀ (a b : List Nat), a.Nodup → (∀ x ∈ a, x ∈ b) → a.length ≤ b.length
  | [], _, _, _ => Nat.zero_le _
  | x :: a, b, nd, hs => by
    have hx := hs x List.mem_cons_self
    have nd' := List.nodup_cons.mp nd
    have ih := nodup_len_le a (b.erase x) nd'.2 fun y hy => by
      have : y ≠ x := fun e => nd'.1 (e ▸ hy)
      exact (List.mem_erase_of_ne this).mpr (hs y (List.mem_cons_of_mem _ hy))
    rw [List.length_erase_of_mem hx] at ih
    have := List.length_pos_of_mem hx
    rw [List.length_cons]
    omega
/-- tuples of numbers at these addresses -/
structure RowsAt (H : Hp) (us : List Addr) (ts : List (List Nat)) : Prop where
  len : us.length = ts.length
  at_ : ∀ (i : Nat) (u : Addr) (t : List Nat), us[i]? = some u → ts[i]? = some t → H u = some (.tup (nV t))
theorem RowsAt.same {H H' : Hp} {us : List Addr} {ts : List (List Nat)} (h : RowsAt H us ts) (s : Same H H') : RowsAt H' us ts := ⟨h.len, fun i q t a b => s _ _ (h.at_ i q t a b)⟩
theorem RowsAt.snoc {H : Hp} {us : List Addr} {ts : List (List Nat)} {u : Addr} {t : List Nat} (h : RowsAt H us ts) (e : H u = some (.tup (nV t))) : RowsAt H (us ++ [u]) (ts ++ [t]) := by
  have hl := h.len
  refine ⟨by simp [hl], fun i q' t' a b => ?_⟩
  by_cases hi : i < us.length
  · rw [List.getElem?_append_left hi] at a
    rw [List.getElem?_append_left (by omega)] at b
    exact h.at_ i q' t' a b
  · rw [List.getElem?_append_right (by omega)] at a
    rw [List.getElem?_append_right (by omega)] at b
    have h0 : i - us.length = 0 := by
      by_cases z : i - us.length = 0
      · exact z
      · rw [List.getElem?_eq_none (by simp; omega)] at a
        cases a
    rw [h0] at a
    rw [show i - ts.length = 0 by omega] at b
    cases a
    cases b
    exact e
/-- another list is written -/
theorem RowsAt.upd {H : Hp} {us : List Addr} {ts : List (List Nat)} {D : Addr} {xs ys : List V} (h : RowsAt H us ts) (d : H D = some (.lst xs)) : RowsAt (L2.upd H D (.lst ys)) us ts :=
  ⟨h.len, fun i u t a b => by
    have e := h.at_ i u t a b
    rw [upd_ne (fun z => by rw [z, d] at e; cases e)]
    exact e⟩
section
variable {P : Program} {w : World} {K : PySem.W.Frag} {mg : Str → Option Value} {base : Heap}
/-! ### last_begin -/
def spLastBegin (K : PySem.W.Frag) : Sp := fun vs H Q _ => ∃ (p r : Addr) (qs : List Addr) (ts : List Tie) (ms : List Nat) (k0 : Nat), vs = [.ref p, .ref r] ∧ SqL K H p (qs.map V.ref) ∧ TupsAt H qs ts ∧ ts.length ≤ 1000 ∧ SqL K H r (nV ms) ∧ 0 < ms.length ∧ ms.length ≤ 7 ∧
  Fits (edsOf ts) ms.length ∧ k0 ≤ ts.length ∧ Conn ((edsOf ts).drop k0) ms ∧ ∀ H' b, Same H H' → k0 ≤ b → b ≤ ts.length → Conn ((edsOf ts).drop b) ms → (∀ k, b < k → k ≤ ts.length → ¬ Conn ((edsOf ts).drop k) ms) → Q (.int (b : Nat)) H'
theorem ok_lastBegin {f fA : Addr} {fd fdA : FuncData} {k : Nat} (F : Fun K "last_begin" "last_begin" sLastBegin f fd) (M : Mg mg) (FA : Fun K "as_one" "as_one" sAsOne fA fdA) (bA : Binds K fdA ["marks", "one", "other"] []) (gA : mg "as_one" = some (.ref fA)) :
    FnOk P w K mg base CX0 (k + 2) f fd ["ties", "marks"] (spLastBegin K) := by
  have GA : FnOk P w K mg base CX0 (k + 1) fA fdA ["marks", "one", "other"] (spAsOne K) := ok_asOne FA M
  refine F.ok scLastBegin (fun vs H Q E h => ?_) (fun cdv A outer s H vs Q E hr h => ?_)
  · obtain ⟨p, r, qs, ts, ms, k0, rfl, _⟩ := h
    rfl
  · obtain ⟨p, r, qs, ts, ms, k0, rfl, hT, tt, hlen, hM, h0, h7, hf, hk0, hc, q⟩ := h
    refine ⟨_, pss_cons (ps_set (i := 2) scLastBegin.nd rfl (.inl rfl) (pe_callB (lenS K) (by rfl) M.len PySem.boot_len (pa_cons (pv 0) pa_nil)))
      (pss_cons (ps_while PassesOwn.never (pt_cmpR op_gt (pe_callB crLenSet (by rfl) M.len PySem.boot_len (pa_cons (pe_callTy (crSetInts K rfl) (by rfl) M.set (by decide +kernel) (pa_cons (pv 1) pa_nil)) pa_nil)) pe_int (nomark _))
        (pss_cons (ps_aug (i := 2) scLastBegin.nd rfl (.inl rfl) pe_int ip_sub)
        (pss_one (ps_set (i := 1) scLastBegin.nd rfl (.inl rfl) (pe_call GA hr (by rfl) gA FA.kp bA .nil pass0 (pa_cons (pv 1)
          (pa_cons (pe_ix (ixt K) (pe_ix (ixl K) (pv 0) (pv 2) (fun _ _ => rfl)) pe_int (fun _ _ => rfl)) (pa_cons (pe_ix (ixt K) (pe_ix (ixl K) (pv 0) (pv 2) (fun _ _ => rfl)) pe_int (fun _ _ => rfl)) pa_nil))))))))
      (pss_one (ps_ret (pv 2)))), ?_⟩
    have hq := tt.len
    refine ⟨.ref p, rfl, p, _, rfl, .inl hT, ?_⟩
    rw [List.length_map, hq]
    have hle : (edsOf ts).length = ts.length := List.length_map _
    refine ⟨fun mm σ H1 => ∃ (r' : Addr) (b : Nat) (ms' : List Nat), mm = b ∧ σ = [some (.ref p), some (.ref r'), some (.int (b : Nat))] ∧ Same H H1 ∧ SqL K H1 r' (nV ms') ∧ ms'.length = ms.length ∧ b ≤ ts.length ∧ k0 ≤ b ∧ (∀ l, Fits l ms.length → (Conn l ms' ↔ Conn (l ++ (edsOf ts).drop b) ms)) ∧ (∀ k, b < k → k ≤ ts.length → ¬ Conn ((edsOf ts).drop k) ms),
      ⟨ts.length, r, ts.length, ms, rfl, rfl, Same.refl H, hM, rfl, Nat.le_refl _, hk0, fun l _ => by rw [List.drop_eq_nil_of_le (by omega), List.append_nil], fun k a b => absurd a (by omega)⟩, fun mm σ H1 hI => ?_⟩
    obtain ⟨r', b, ms', rfl, rfl, s1, hM1, hl1, hb, hkb, hiff, hno⟩ := hI
    have at0 : Conn [] ms' ↔ Conn ((edsOf ts).drop mm) ms := by
      have := hiff [] (fun e he => nomatch he)
      rw [List.nil_append] at this
      exact this
    refine ⟨.ref r', rfl, r', iV ms', rfl, by rw [← nV_iV]; exact hM1, by rw [iV_len]; omega, fun z S hz => ?_⟩
    have sz : Same H1 (upd H1 z (.set S (dist (iV ms')))) := same_upd hz
    refine ⟨z, S, _, rfl, upd_same, ?_, _, 1, rfl, rfl, _, rfl, ite2 (fun e => ?_) (fun e => ?_)⟩
    · have := dist_le (iV ms')
      rw [iV_len] at this
      omega
    · -- not one mark yet
      have hd := of_decide_eq_true e
      have hns : ¬ single ms' := fun hs => by
        rw [dist_one hs (by omega)] at hd
        omega
      have hnc : ¬ Conn ((edsOf ts).drop mm) ms := fun c => hns (MT.conn_iff_nil.mp (at0.mpr c))
      have hlt : k0 < mm := by
        by_cases q : k0 < mm
        · exact q
        · have : mm = k0 := by omega
          rw [this] at hnc
          exact absurd hc hnc
      obtain ⟨b, rfl⟩ : ∃ b, mm = b + 1 := ⟨mm - 1, by omega⟩
      have hbt : b < ts.length := by omega
      have et : ts[b]? = some ts[b] := List.getElem?_eq_getElem hbt
      have eq : qs[b]? = some (qs[b]'(by omega)) := List.getElem?_eq_getElem (by omega)
      have hTb := tt.at_ b _ _ eq et
      have e1 := eg_of et
      have hfb : (ts[b].1 < ms.length ∧ ts[b].2.1 < ms.length) := hf (MT.edge ts[b]) (List.mem_map.mpr ⟨_, List.getElem_mem hbt, rfl⟩)
      have hT2 : SqL K (upd H1 z (.set S (dist (iV ms')))) p (qs.map V.ref) := sz.seq (s1.seq hT)
      have hTup : SqT K (upd H1 z (.set S (dist (iV ms')))) (qs[b]'(by omega)) (tieV ts[b]) := SqT.of (sz _ _ (s1 _ _ hTb))
      have hix : atI (qs.map V.ref) ((b : Nat) : Int) = some (.ref (qs[b]'(by omega))) := atI_nat (by rw [List.getElem?_map, eq]; rfl)
      refine ⟨fun σ' H' => ∃ (r' : Addr) (b' : Nat) (ms'' : List Nat), b' = b ∧ σ' = [some (.ref p), some (.ref r'), some (.int (b' : Nat))] ∧ Same H H' ∧ SqL K H' r' (nV ms'') ∧ ms''.length = ms.length ∧ b' ≤ ts.length ∧ k0 ≤ b' ∧ (∀ l, Fits l ms.length → (Conn l ms'' ↔ Conn (l ++ (edsOf ts).drop b') ms)) ∧ (∀ k, b' < k → k ≤ ts.length → ¬ Conn ((edsOf ts).drop k) ms),
        fun σ' H' ⟨r2, b', ms2, e2, rest⟩ => ⟨b, by omega, r2, b', ms2, e2.symm, rest⟩, ?_⟩
      refine ⟨_, rfl, _, _, rfl, rfl, ?_⟩
      refine ⟨.ref r', rfl, .ref p, rfl, _, rfl, p, _, _, _, rfl, rfl, hT2, by show atI _ (((b + 1 : Nat) : Int) - 1) = _; rw [show (((b + 1 : Nat) : Int) - 1) = ((b : Nat) : Int) by omega]; exact hix, _, _, _, _, rfl, rfl, hTup, atI_nat (j := 0) rfl,
        .ref p, rfl, _, rfl, p, _, _, _, rfl, rfl, hT2, by show atI _ (((b + 1 : Nat) : Int) - 1) = _; rw [show (((b + 1 : Nat) : Int) - 1) = ((b : Nat) : Int) by omega]; exact hix, _, _, _, _, rfl, rfl, hTup, atI_nat (j := 1) rfl, ?_⟩
      refine ⟨r', ms', ts[b].1, ts[b].2.1, rfl, sz.seq hM1, by omega, by omega, by omega, fun H2 r2 s2 n2 d2 => ?_⟩
      refine ⟨r2, b, asOne ms' ts[b].1 ts[b].2.1, rfl, ?_, s1.trans (sz.trans s2), SqL.of d2, by rw [MT.asOne_length]; exact hl1, by omega, by omega, fun l hl => ?_, fun k h1 h2 => ?_⟩
      · show [some (V.ref p), some (V.ref r2), some (V.int (((b + 1 : Nat) : Int) - 1))] = _
        rw [show (((b + 1 : Nat) : Int) - 1) = ((b : Nat) : Int) by omega]
      · have hd1 : (edsOf ts).drop b = MT.edge ts[b] :: (edsOf ts).drop (b + 1) := by
          rw [List.drop_eq_getElem_cons (by rw [hle]; exact hbt)]
          congr 1
          simp [edsOf]
        have c1 := MT.conn_step (l := l) (ms := ms') (a := ts[b].1) (b := ts[b].2.1) (by omega) (by omega) (by rw [hl1]; exact hl)
        have c2 := hiff ((ts[b].1, ts[b].2.1) :: l) (fun e he => by
          rcases List.mem_cons.mp he with rfl | he
          · exact hfb
          · exact hl e he)
        rw [c1, c2, hd1]
        constructor
        · exact fun c => c.mono fun e he => by
            rcases List.mem_cons.mp he with rfl | he
            · exact List.mem_append_right _ List.mem_cons_self
            · rcases List.mem_append.mp he with he | he
              · exact List.mem_append_left _ he
              · exact List.mem_append_right _ (List.mem_cons_of_mem _ he)
        · exact fun c => c.mono fun e he => by
            rcases List.mem_append.mp he with he | he
            · exact List.mem_cons_of_mem _ (List.mem_append_left _ he)
            · rcases List.mem_cons.mp he with rfl | he
              · exact List.mem_cons_self
              · exact List.mem_cons_of_mem _ (List.mem_append_right _ he)
      · by_cases z : k = b + 1
        · rw [z]; exact hnc
        · exact hno k (by omega) h2
    · have hd : ¬ (1 : Int) < (dist (iV ms') : Nat) := fun z => e (decide_eq_true z)
      have hs : single ms' := Decidable.byContradiction fun hns => hd (by
        have := dist_more hns
        omega)
      exact ⟨_, rfl, q _ mm (s1.trans sz) hkb hb (at0.mp (MT.conn_iff_nil.mpr hs)) hno⟩
/-! ### trees_from -/
def spTF (K : PySem.W.Frag) : Nat → Sp
  | 0 => fun _ _ _ _ => False
  | d + 1 => fun vs H Q _ => ∃ (p r : Addr) (qs : List Addr) (ts : List Tie) (ms cls : List Nat) (a : Nat), vs = [.ref p, .int (a : Nat), .ref r] ∧ SqL K H p (qs.map V.ref) ∧ TupsAt H qs ts ∧ ts.length ≤ 1000 ∧ SqL K H r (nV ms) ∧ ms.length ≤ 7 ∧
      Fits (edsOf ts) ms.length ∧ a ≤ ts.length ∧ Conn ((edsOf ts).drop a) ms ∧ Cl ms cls ∧ cls.length ≤ d ∧ (TF ((edsOf ts).drop a) a ms).length ≤ 1000 ∧
      ∀ H' D us, Same H H' → H D = none → H' D = some (.lst (us.map V.ref)) → RowsAt H' us (TF ((edsOf ts).drop a) a ms) → Q (.ref D) H'
theorem ok_treesFrom {f fA fL : Addr} {fd fdA fdL : FuncData} {k : Nat} (F : Fun K "trees_from" "trees_from" sTreesFrom f fd) (bF : Binds K fd ["ties", "at", "marks"] []) (gF : mg "trees_from" = some (.ref f)) (M : Mg mg)
    (FA : Fun K "as_one" "as_one" sAsOne fA fdA) (bA : Binds K fdA ["marks", "one", "other"] []) (gA : mg "as_one" = some (.ref fA)) (FL : Fun K "last_begin" "last_begin" sLastBegin fL fdL) (bL : Binds K fdL ["ties", "marks"] []) (gL : mg "last_begin" = some (.ref fL)) :
    ∀ d, FnOk P w K mg base CX0 (k + 2 + d) f fd ["ties", "at", "marks"] (spTF K d)
  | 0 => ⟨fun _ _ _ _ h => h.elim, fun _ _ _ _ _ _ _ _ _ _ _ _ _ h => h.elim⟩
  | d + 1 => by
    have GA : FnOk P w K mg base CX0 (k + 1) fA fdA ["marks", "one", "other"] (spAsOne K) := ok_asOne FA M
    have GL : FnOk P w K mg base CX0 (k + 2) fL fdL ["ties", "marks"] (spLastBegin K) := ok_lastBegin FL M FA bA gA
    have GR := ok_treesFrom (k := k) F bF gF M FA bA gA FL bL gL d
    refine F.ok scTreesFrom (fun vs H Q E h => ?_) (fun cdv A outer s H vs Q E hr h => ?_)
    · obtain ⟨p, r, qs, ts, ms, cls, a, rfl, _⟩ := h
      rfl
    · obtain ⟨p, r, qs, ts, ms, cls, a, rfl, hT, tt, hlen, hM, h7, hf, ha, hc, hcl, hcd, hTF, q⟩ := h
      have hr1 : Room (k + 2 + d) (A.deeper (envOfC "trees_from" (defScope sTreesFrom) s.heap.objs.size f cdv)) := hr
      have hrL : Room (k + 2) (A.deeper (envOfC "trees_from" (defScope sTreesFrom) s.heap.objs.size f cdv)) := hr1.mono (by omega)
      have hrA : Room (k + 1) (A.deeper (envOfC "trees_from" (defScope sTreesFrom) s.heap.objs.size f cdv)) := hr1.mono (by omega)
      refine ⟨_, pss_cons (ps_if (pt_cmpR op_eq (pe_callB crLenSet (by rfl) M.len PySem.boot_len (pa_cons (pe_callTy (crSetInts K rfl) (by rfl) M.set (by decide +kernel) (pa_cons (pv 2) pa_nil)) pa_nil)) pe_int (nomark _))
          (pss_one (ps_ret (pe_lst (pa_cons (pe_tup pa_nil) pa_nil)))) pss_nil)
        (pss_cons (ps_set (i := 3) scTreesFrom.nd rfl (.inl rfl) (pe_lst pa_nil))
        (pss_cons (ps_for PassesOwn.never rfl (pi_range2 (by rfl) M.range (pa_cons (pv 1) (pa_cons (pe_op op_add (pe_call GL hrL (by rfl) gL FL.kp bL .nil pass0 (pa_cons (pv 0) (pa_cons (pv 2) pa_nil))) pe_int) pa_nil))) (pg_name (i := 4) scTreesFrom.nd rfl (.inl rfl))
          (pss_cons (ps_asg (pe_ix (ixl K) (pv 0) (pv 4) (fun _ _ => rfl)) (pg_tup rfl (pgs_cons (pg_name (i := 5) scTreesFrom.nd rfl (.inl rfl)) (pgs_cons (pg_name (i := 6) scTreesFrom.nd rfl (.inl rfl)) (pgs_cons (pg_name (i := 7) scTreesFrom.nd rfl (.inl rfl)) pgs_nil)))))
          (pss_one (ps_if (pt_cmpR op_ne (pe_ix (ixl K) (pv 2) (pv 5) (fun _ _ => rfl)) (pe_ix (ixl K) (pv 2) (pv 6) (fun _ _ => rfl)) (nomark _))
            (pss_one (ps_for PassesOwn.never rfl (pi_list (pe_call GR hr1 (by rfl) gF F.kp bF .nil pass0 (pa_cons (pv 0) (pa_cons (pe_op op_add (pv 4) pe_int) (pa_cons (pe_call GA hrA (by rfl) gA FA.kp bA .nil pass0 (pa_cons (pv 2) (pa_cons (pv 5) (pa_cons (pv 6) pa_nil)))) pa_nil)))))
              (pg_name (i := 8) scTreesFrom.nd rfl (.inl rfl)) (pss_one (ps_expr (pe_bm PySem.F.plainAttrs_list PySem.F.slot_list_append PySem.F.type_list_append mt_append (pv 3) (pa_cons (pe_op (catTS K) (pe_tup (pa_cons (pv 4) pa_nil)) (pv 8)) pa_nil)))))) pss_nil))))
        (pss_one (ps_ret (pv 3))))), ?_⟩
      have hq := tt.len
      have hle : (edsOf ts).length = ts.length := List.length_map _
      have h0 : 0 < ms.length := hcl.pos
      refine ⟨.ref r, rfl, r, iV ms, rfl, by rw [← nV_iV]; exact hM, by rw [iV_len]; omega, fun z S hz => ?_⟩
      have sz : Same H (upd H z (.set S (dist (iV ms)))) := same_upd hz
      refine ⟨z, S, _, rfl, upd_same, ?_, rfl, _, rfl, ?_⟩
      · have := dist_le (iV ms)
        rw [iV_len] at this
        omega
      rw [dec_intV]
      refine ite2 (fun e => ?_) (fun e => ?_)
      · -- one mark: the empty list
        have hd := of_decide_eq_true e
        have hs : single ms := Decidable.byContradiction fun hns => by
          have := dist_more hns
          omega
        refine ⟨line_le (by simp), fun u hu => ⟨by show 1 ≤ sizeLine; exact line_le (by decide), fun D hD => ?_⟩⟩
        have su := same_upd (o := .tup []) hu
        have sD := same_upd (o := .lst [.ref u]) hD
        refine q _ D [u] (sz.trans (su.trans sD)) (sz.free (su.free hD)) upd_same ?_
        rw [MT.TF_single hs]
        refine ⟨rfl, fun i u' t' a b => ?_⟩
        match i, a, b with
        | 0, a, b =>
          cases a
          cases b
          exact sD _ _ upd_same
        | i + 1, a, _ => simp at a
      · have hns : ¬ single ms := fun hs => e (by rw [dist_one hs h0]; rfl)
        -- found = []
        refine ⟨Nat.zero_le _, fun D hD => ?_⟩
        have s0 : Same H (upd (upd H z (.set S (dist (iV ms)))) D (.lst [])) := sz.trans (same_upd hD)
        have hDH : H D = none := sz.free hD
        refine ⟨.int (a : Nat), rfl, .ref p, rfl, .ref r, rfl, p, r, qs, ts, ms, a, rfl, s0.seq hT, tt.same s0, hlen, s0.seq hM, h0, h7, hf, ha, hc, fun H1 b sb hab hbl hcb hno => ?_⟩
        have s1 : Same H H1 := s0.trans sb
        have d1 : H1 D = some (.lst []) := sb _ _ upd_same
        have hbl2 : b < ts.length := by
          by_cases z : b < ts.length
          · exact z
          · rw [List.drop_eq_nil_of_le (by omega)] at hcb
            exact absurd hcb.nil_single hns
        refine ⟨_, _, rfl, rfl, (a : Nat), ((b : Nat) : Int) + 1, rfl, ⟨by omega, by omega, by omega, by omega⟩, ?_⟩
        rw [show (((b : Nat) : Int) + 1 - (a : Nat)).toNat = b + 1 - a by omega]
        refine for_range (lo := ((a : Nat) : Int)) (n := b + 1 - a) (fun i σ H2 => ∃ y4 y5 y6 y7 y8 us L, σ = [some (.ref p), some (.int (a : Nat)), some (.ref r), some (.ref D), y4, y5, y6, y7, y8] ∧ Same H H2 ∧ H2 D = some (.lst (us.map V.ref)) ∧ RowsAt H2 us L ∧ L ++ TF ((edsOf ts).drop (a + i)) (a + i) ms = TF ((edsOf ts).drop a) a ms)
          ⟨none, none, none, none, none, [], [], rfl, s1, d1, ⟨rfl, fun i u t e _ => by simp at e⟩, by rw [List.nil_append]; rfl⟩ (fun i σ H2 hi hp => ?_) (fun σ H2 hp => ?_)
        · obtain ⟨y4, y5, y6, y7, y8, us, L, rfl, s2, d2, t2, eL⟩ := hp
          have hit : a + i < ts.length := by omega
          have et : ts[a + i]? = some ts[a + i] := List.getElem?_eq_getElem hit
          have eq : qs[a + i]? = some (qs[a + i]'(by omega)) := List.getElem?_eq_getElem (by omega)
          have hTi := tt.at_ (a + i) _ _ eq et
          have ek : (((a : Nat) : Int) + (i : Nat)) = ((a + i : Nat) : Int) := by omega
          have hfi : (ts[a + i].1 < ms.length ∧ ts[a + i].2.1 < ms.length) := hf (MT.edge ts[a + i]) (List.mem_map.mpr ⟨_, List.getElem_mem hit, rfl⟩)
          have hix : atI (qs.map V.ref) (((a : Nat) : Int) + (i : Nat)) = some (.ref (qs[a + i]'(by omega))) := by
            rw [ek]
            exact atI_nat (by rw [List.getElem?_map, eq]; rfl)
          have hdr : (edsOf ts).drop (a + i) = MT.edge ts[a + i] :: (edsOf ts).drop (a + i + 1) := by
            rw [List.drop_eq_getElem_cons (by rw [hle]; exact hit)]
            congr 1
            simp [edsOf]
          have hcons := MT.TF_cons (e := MT.edge ts[a + i]) (r := (edsOf ts).drop (a + i + 1)) (k := a + i) hns
          rw [hdr, hcons] at eL
          have cD : Conn ((edsOf ts).drop (a + i)) ms := hcb.mono fun e he => by
            have : (edsOf ts).drop b = ((edsOf ts).drop (a + i)).drop (b - (a + i)) := by rw [List.drop_drop]; congr 1; omega
            rw [this] at he
            exact List.mem_of_mem_drop he
          refine ⟨.ref p, rfl, _, rfl, p, _, _, _, rfl, rfl, s2.seq hT, hix, _, _, rfl, SqT.of (s2 _ _ hTi), rfl, _, _, rfl, _, _, rfl, _, [], rfl, rfl, ?_⟩
          refine ⟨.ref r, rfl, .int (ts[a + i].1 : Nat), rfl, r, nV ms, _, _, rfl, rfl, s2.seq hM, nV_at hfi.1, .ref r, rfl, .int (ts[a + i].2.1 : Nat), rfl, r, nV ms, _, _, rfl, rfl, s2.seq hM, nV_at hfi.2, rfl, _, rfl, ?_⟩
          rw [dec_intV]
          refine ite2 (fun e2 => ?_) (fun e2 => ?_)
          · have hne : ms.getD ts[a + i].1 0 ≠ ms.getD ts[a + i].2.1 0 := fun z => by
              rw [z] at e2
              simp at e2
            rw [if_pos (show ms.getD (MT.edge ts[a + i]).1 0 ≠ ms.getD (MT.edge ts[a + i]).2 0 from hne)] at eL
            obtain ⟨cls', hcl', hcl2⟩ := hcl.step hfi.1 hfi.2 hne
            refine ⟨.ref p, rfl, _, rfl, _, _, rfl, rfl, .ref r, rfl, .int (ts[a + i].1 : Nat), rfl, .int (ts[a + i].2.1 : Nat), rfl, r, ms, ts[a + i].1, ts[a + i].2.1, rfl, s2.seq hM, hfi.1, hfi.2, by omega, fun H3 r3 s3 n3 d3 => ?_⟩
            have lenLe : L.length + (TF ((edsOf ts).drop (a + i + 1)) (a + i + 1) (asOne ms ts[a + i].1 ts[a + i].2.1)).length ≤ 1000 := by
              have := congrArg List.length eL
              rw [List.length_append, List.length_append, List.length_map] at this
              have e3 : (TF ((edsOf ts).drop (a + i + 1)) (a + i + 1) (asOne ms (MT.edge ts[a + i]).1 (MT.edge ts[a + i]).2)).length = (TF ((edsOf ts).drop (a + i + 1)) (a + i + 1) (asOne ms ts[a + i].1 ts[a + i].2.1)).length := rfl
              omega
            cases d with
            | zero => omega
            | succ d =>
              refine ⟨p, r3, qs, ts, asOne ms ts[a + i].1 ts[a + i].2.1, cls', a + i + 1, ?_, s3.seq (s2.seq hT), (tt.same s2).same s3, hlen, SqL.of d3, by rw [MT.asOne_length]; exact h7, by rw [MT.asOne_length]; exact hf, by omega, ?_, hcl', by omega, by omega, fun H4 D4 us4 s4 n4 d4 t4 => ?_⟩
              · rw [ek]
                rfl
              · refine (MT.conn_step hfi.1 hfi.2 ?_).mpr ?_
                · exact fun e he => hf e (List.mem_of_mem_drop he)
                · rw [hdr] at cD
                  exact cD
              · -- the rests
                have sH4 : Same H H4 := s2.trans (s3.trans s4)
                have dD4 : H4 D = some (.lst (us.map V.ref)) := s4 _ _ (s3 _ _ d2)
                have nDD : D4 ≠ D := fun z => by
                  rw [z, s3 _ _ d2] at n4
                  cases n4
                have tL4 : RowsAt H4 us L := (t2.same s3).same s4
                generalize hRest : TF ((edsOf ts).drop (a + i + 1)) (a + i + 1) (asOne ms ts[a + i].1 ts[a + i].2.1) = R at t4 lenLe
                have hRest2 : TF ((edsOf ts).drop (a + i + 1)) (a + i + 1) (asOne ms (MT.edge ts[a + i]).1 (MT.edge ts[a + i]).2) = R := hRest
                rw [hRest2] at eL
                refine ⟨D4, rfl, ⟨_, SqL.of d4⟩, ?_⟩
                let J : Nat → L2.St → Hp → Prop := fun j σ H5 => ∃ y8 us5, σ = [some (.ref p), some (.int (a : Nat)), some (.ref r), some (.ref D), some (.int (((a : Nat) : Int) + (i : Nat))), some (.int (ts[a + i].1 : Nat)), some (.int (ts[a + i].2.1 : Nat)), some (.int (ts[a + i].2.2 : Nat)), y8] ∧ Same H H5 ∧ H5 D4 = some (.lst (us4.map V.ref)) ∧ RowsAt H5 us4 R ∧ H5 D = some (.lst (us5.map V.ref)) ∧ RowsAt H5 us5 (L ++ (R.take j).map ((a + i) :: ·))
                refine for_list (K := K) (a := D4) (xs := us4.map V.ref) J
                  ⟨_, us, rfl, sH4, d4, t4, dD4, by rw [List.take_zero, List.map_nil, List.append_nil]; exact tL4⟩ (fun j σ H5 _ hp => SqL.of hp.choose_spec.choose_spec.2.2.1) (fun j x σ H5 hx hp => ?_) (fun σ H5 hp => ?_)
                · obtain ⟨z8, us5, rfl, s5, d5, t5, dd5, r5⟩ := hp
                  obtain ⟨u, hu, rfl⟩ := map_get hx
                  have hjl : j < us4.length := (List.getElem?_eq_some_iff.mp hu).1
                  have hR : R[j]? = some (R[j]'(by rw [← t5.len]; exact hjl)) := List.getElem?_eq_getElem _
                  have hUj := t5.at_ j u _ hu hR
                  refine ⟨.ref D, rfl, .inl ⟨rfl, _, SqL.of dd5⟩, .int (((a : Nat) : Int) + (i : Nat)), rfl, (by show 1 ≤ sizeLine; exact line_le (by decide)), fun g hg => ?_⟩
                  have sg : Same H5 (upd H5 g (.tup [.int (((a : Nat) : Int) + (i : Nat))])) := same_upd hg
                  have lenR : (R[j]'(by rw [← t5.len]; exact hjl)).length ≤ 7 := by
                    have lens : ∀ t ∈ R, t.length = cls'.length := by
                      rw [← hRest]
                      exact MT.TF_lens _ _ _ cls' (by rw [MT.asOne_length]; exact fun e he => hf e (List.mem_of_mem_drop he)) hcl'
                    have := lens _ (List.getElem_mem (by rw [← t5.len]; exact hjl))
                    have hcb : cls.length ≤ ms.length := by
                      have nd := hcl.nd
                      have sub : ∀ x ∈ cls, x ∈ ms := fun x hx => ((hcl.mem x).mp hx).1
                      exact nodup_len_le cls ms nd sub
                    omega
                  have fin : ∀ (g' : Addr) (H6 : Hp), Same H5 H6 → H6 g' = some (.tup (nV ((a + i) :: (R[j]'(by rw [← t5.len]; exact hjl))))) →
                      ∃ l xs y, V.ref D = V.ref l ∧ [V.ref g'] = [y] ∧ H6 l = some (.lst xs) ∧ xs.length < sizeLine ∧ J (j + 1) [some (V.ref p), some (V.int (a : Nat)), some (V.ref r), some (V.ref D), some (V.int (((a : Nat) : Int) + (i : Nat))), some (V.int (ts[a + i].1 : Nat)), some (V.int (ts[a + i].2.1 : Nat)), some (V.int (ts[a + i].2.2 : Nat)), some (V.ref u)] (upd H6 l (.lst (xs ++ [y]))) := fun g' H6 s6 hg' => by
                    refine ⟨D, us5.map V.ref, .ref g', rfl, rfl, s6 _ _ dd5, ?_, _, us5 ++ [g'], rfl, same_but (s5.trans s6) hDH, ?_, (t5.same s6).upd (s6 _ _ dd5), ?_, ?_⟩
                    · rw [List.length_map, r5.len, List.length_append, List.length_map, List.length_take]
                      exact line_lt (by omega)
                    · rw [upd_ne nDD]
                      exact s6 _ _ d5
                    · rw [upd_same, List.map_append]
                      rfl
                    · rw [take_snoc hR, List.map_append, ← List.append_assoc]
                      exact ((r5.same s6).snoc hg').upd (s6 _ _ dd5)
                  refine ⟨.ref u, rfl, g, u, _, _, rfl, rfl, SqT.of upd_same, SqT.of (sg _ _ hUj), by simp, ?_, fun hnil => ?_, fun hnn g2 hg2 => ?_⟩
                  · rw [nV_len]
                    exact line_le (by simp; omega)
                  · refine fin g _ sg ?_
                    rw [upd_same, nV_cons, hnil, ek]
                  · have sg2 := same_upd (o := .tup ([.int (((a : Nat) : Int) + (i : Nat))] ++ nV (R[j]'(by rw [← t5.len]; exact hjl)))) hg2
                    refine fin g2 _ (sg.trans sg2) ?_
                    rw [upd_same, nV_cons, ek]
                    rfl
                · obtain ⟨z8, us5, rfl, s5, d5, t5, dd5, r5⟩ := hp
                  rw [List.length_map, t5.len, List.take_length] at r5
                  refine ⟨_, _, _, _, _, us5, _, rfl, s5, dd5, r5, ?_⟩
                  rw [List.append_assoc]
                  exact eL
          · have heq : ms.getD ts[a + i].1 0 = ms.getD ts[a + i].2.1 0 := by
              have : ¬ (!decide (((ms.getD ts[a + i].1 0 : Nat) : Int) = (ms.getD ts[a + i].2.1 0 : Nat))) = true := e2
              simp only [Bool.not_eq_true', decide_eq_false_iff_not, Decidable.not_not] at this
              omega
            rw [if_neg (show ¬ ms.getD (MT.edge ts[a + i]).1 0 ≠ ms.getD (MT.edge ts[a + i]).2 0 from fun z => z heq), List.nil_append] at eL
            exact ⟨_, _, _, _, _, us, L, rfl, s2, d2, t2, eL⟩
        · obtain ⟨y4, y5, y6, y7, y8, us, L, rfl, s2, d2, t2, eL⟩ := hp
          have e0 : TF ((edsOf ts).drop (a + (b + 1 - a))) (a + (b + 1 - a)) ms = [] := by
            rw [show a + (b + 1 - a) = b + 1 by omega]
            exact MT.TF_empty _ _ _ (fun e he => hf e (List.mem_of_mem_drop he)) (hno (b + 1) (by omega) (by omega))
          rw [e0, List.append_nil] at eL
          rw [eL] at t2
          exact ⟨.ref D, rfl, q H2 D us s2 hDH d2 t2⟩
end
end K54
end
/-! ## T6 -/
section
set_option Elab.async false
set_option linter.all false
set_option maxRecDepth 100000
set_option maxHeartbeats 4000000
namespace K54
open PySem PySem.Spec PyProof.Rows L2
open MT (Tie ties Conn Fits asOne single Cl TF ChkOk)
theorem edsOf_ties (n : Nat) (m : Nat → Nat → Nat) : edsOf (ties n m) = MT.eds n m := rfl
section
variable {P : Program} {w : World} {K : PySem.W.Frag} {mg : Str → Option Value} {base : Heap}
/-! ### check_tree -/
def spCheck (K : PySem.W.Frag) : Sp := fun vs H Q _ => ∃ (a t : Addr) (n : Nat) (m : Nat → Nat → Nat) (tr : List Nat), vs = [.ref a, .ref t] ∧ WebAt K H a n m ∧ Small n m ∧ 0 < n ∧ SqT K H t (nV tr) ∧ ChkOk (MT.eds n m) tr 0 (List.range n) ∧
  ∀ H', Same H H' → Q .non H'
theorem ok_check {f fA fT : Addr} {fd fdA fdT : FuncData} {k : Nat} (F : Fun K "check_tree" "check_tree" sCheckTree f fd) (M : Mg mg) (FA : Fun K "as_one" "as_one" sAsOne fA fdA) (bA : Binds K fdA ["marks", "one", "other"] []) (gA : mg "as_one" = some (.ref fA))
    (FT : Fun K "ties_of" "ties_of" sTiesOf fT fdT) (bT : Binds K fdT ["web"] []) (gT : mg "ties_of" = some (.ref fT)) : FnOk P w K mg base CX0 (k + 2) f fd ["web", "tree"] (spCheck K) := by
  have GA : FnOk P w K mg base CX0 (k + 1) fA fdA ["marks", "one", "other"] (spAsOne K) := ok_asOne FA M
  have GT : FnOk P w K mg base CX0 (k + 1) fT fdT ["web"] (spTiesOf K) := ok_tiesOf FT M
  refine F.ok scCheckTree (fun vs H Q E h => ?_) (fun cdv A outer s H vs Q E hr h => ?_)
  · obtain ⟨a, t, n, m, tr, rfl, _⟩ := h
    rfl
  · obtain ⟨a, t, n, m, tr, rfl, hW, S, h0, hT, hc, q⟩ := h
    refine ⟨_, pss_cons (ps_set (i := 2) scCheckTree.nd rfl (.inl rfl) (pe_call GT hr (by rfl) gT FT.kp bT .nil pass0 (pa_cons (pv 0) pa_nil)))
      (pss_cons (ps_set (i := 3) scCheckTree.nd rfl (.inl rfl) (pe_callTy (crListRng rfl) (by rfl) M.list (by decide +kernel) (pa_cons (pe_callTy crRange1 (by rfl) M.range (by decide +kernel) (pa_cons (pe_callB (lenS K) (by rfl) M.len PySem.boot_len (pa_cons (pv 0) pa_nil)) pa_nil)) pa_nil)))
      (pss_cons (ps_set (i := 4) scCheckTree.nd rfl (.inl rfl) (pe_un un_neg pe_int))
      (pss_cons (ps_for PassesOwn.never rfl (pi_tup (pv 1)) (pg_name (i := 5) scCheckTree.nd rfl (.inl rfl))
        (pss_cons (ps_if (pt_not (pt_chain op_lt op_lt (pv 4) (pv 5) (pe_callB (lenS K) (by rfl) M.len PySem.boot_len (pa_cons (pv 2) pa_nil)))) pss_never pss_nil)
        (pss_cons (ps_asg (pe_ix (ixl K) (pv 2) (pv 5) (fun _ _ => rfl)) (pg_tup rfl (pgs_cons (pg_name (i := 6) scCheckTree.nd rfl (.inl rfl)) (pgs_cons (pg_name (i := 7) scCheckTree.nd rfl (.inl rfl)) (pgs_cons (pg_name (i := 8) scCheckTree.nd rfl (.inl rfl)) pgs_nil)))))
        (pss_cons (ps_if (pt_cmpR op_eq (pe_ix (ixl K) (pv 3) (pv 6) (fun _ _ => rfl)) (pe_ix (ixl K) (pv 3) (pv 7) (fun _ _ => rfl)) (nomark _)) pss_never pss_nil)
        (pss_cons (ps_set (i := 3) scCheckTree.nd rfl (.inl rfl) (pe_call GA hr (by rfl) gA FA.kp bA .nil pass0 (pa_cons (pv 3) (pa_cons (pv 6) (pa_cons (pv 7) pa_nil)))))
        (pss_one (ps_set (i := 4) scCheckTree.nd rfl (.inl rfl) (pv 5))))))))
      (pss_one (ps_if (pt_cmpR op_ne (pe_callB crLenSet (by rfl) M.len PySem.boot_len (pa_cons (pe_callTy (crSetInts K rfl) (by rfl) M.set (by decide +kernel) (pa_cons (pv 3) pa_nil)) pa_nil)) pe_int (nomark _)) pss_never pss_nil))))), ?_⟩
    obtain ⟨xs, hX, hXl⟩ := hW.tup
    have n7 := S.n7
    have ht1000 := len_ties S
    refine ⟨.ref a, rfl, a, n, m, rfl, hW, S, fun H1 p qs s1 n1 d1 t1 => ?_⟩
    refine ⟨.ref a, rfl, a, xs, rfl, .inr (seqT_of s1 hX), (n : Nat), by rw [hXl], fun r hr2 => ?_⟩
    have sr : Same H1 (upd H1 r (.rng 0 n)) := same_upd hr2
    refine ⟨r, n, rfl, upd_same, by omega, fun M0 hM0 => ?_⟩
    have sM : Same (upd H1 r (.rng 0 n)) (upd (upd H1 r (.rng 0 n)) M0 (.lst (nV (List.range n)))) := same_upd hM0
    have s2 : Same H1 (upd (upd H1 r (.rng 0 n)) M0 (.lst (nV (List.range n)))) := sr.trans sM
    refine ⟨_, rfl, .ref t, rfl, t, rfl, ⟨_, seqT_of (s1.trans s2) hT⟩, ?_⟩
    have hq := t1.len
    have hle : (edsOf (ties n m)).length = (ties n m).length := List.length_map _
    have hf : Fits (MT.eds n m) n := MT.fits_eds n m
    refine for_tup (K := K) (a := t) (xs := nV tr) (fun i σ H2 => ∃ (mr : Addr) (ms : List Nat) (lo : Nat) (y5 y6 y7 y8 : Option V), σ = [some (.ref a), some (.ref t), some (.ref p), some (.ref mr), some (.int ((lo : Int) - 1)), y5, y6, y7, y8] ∧ Same H1 H2 ∧ SqL K H2 mr (nV ms) ∧ ms.length = n ∧ ChkOk (MT.eds n m) (tr.drop i) lo ms)
      ⟨M0, List.range n, 0, none, none, none, none, rfl, s2, SqL.of upd_same, by rw [List.length_range], by rw [List.drop_zero]; exact hc⟩ (fun i σ H2 _ hp => ?_) (fun i x σ H2 hx hp => ?_) (fun σ H2 hp => ?_)
    · obtain ⟨_, _, _, _, _, _, _, _, sH, _⟩ := hp
      exact seqT_of (s1.trans sH) hT
    · obtain ⟨mr, ms, lo, y5, y6, y7, y8, rfl, sH, hm, hml, hck⟩ := hp
      obtain ⟨k0, hk, rfl⟩ := nV_get hx
      have hlt : i < tr.length := (List.getElem?_eq_some_iff.mp hk).1
      have hdr : tr.drop i = k0 :: tr.drop (i + 1) := by
        rw [List.drop_eq_getElem_cons hlt, (List.getElem?_eq_some_iff.mp hk).2]
      rw [hdr] at hck
      obtain ⟨c1, c2, c3, c4⟩ := hck
      have c2' : k0 < (ties n m).length := by rw [← hle]; exact c2
      have et : (ties n m)[k0]? = some (ties n m)[k0] := List.getElem?_eq_getElem c2'
      have eq : qs[k0]? = some (qs[k0]'(by omega)) := List.getElem?_eq_getElem (by omega)
      have hTk := t1.at_ k0 _ _ eq et
      have e1 : MT.eg (MT.eds n m) k0 = ((ties n m)[k0].1, (ties n m)[k0].2.1) := eg_of et
      rw [e1] at c3 c4
      have c3' : ms.getD (ties n m)[k0].1 0 ≠ ms.getD (ties n m)[k0].2.1 0 := c3
      have hfk : ((ties n m)[k0].1 < n ∧ (ties n m)[k0].2.1 < n) := hf (MT.edge (ties n m)[k0]) (List.mem_map.mpr ⟨_, List.getElem_mem c2', rfl⟩)
      have hP2 : SqL K H2 p (qs.map V.ref) := sH.seq (SqL.of d1)
      have hix : atI (qs.map V.ref) ((k0 : Nat) : Int) = some (.ref (qs[k0]'(by omega))) := atI_nat (by rw [List.getElem?_map, eq]; rfl)
      refine ⟨_, rfl, _, rfl, _, _, rfl, rfl, true, congrArg V.bl (decide_eq_true (show ((lo : Int) - 1) < (k0 : Nat) by omega)), ?_⟩
      refine iteT ⟨.ref p, rfl, p, _, rfl, .inl hP2, _, _, rfl, rfl, _, rfl, ?_⟩
      rw [List.length_map, hq, decide_eq_true (show ((k0 : Nat) : Int) < ((ties n m).length : Nat) by omega)]
      refine iteF ⟨.ref p, rfl, _, rfl, p, _, _, _, rfl, rfl, hP2, hix, _, _, rfl, SqT.of (sH _ _ hTk), rfl, _, _, rfl, _, _, rfl, _, [], rfl, rfl, ?_⟩
      refine ⟨.ref mr, rfl, .int ((ties n m)[k0].1 : Nat), rfl, mr, nV ms, _, _, rfl, rfl, hm, nV_at (by omega), .ref mr, rfl, .int ((ties n m)[k0].2.1 : Nat), rfl, mr, nV ms, _, _, rfl, rfl, hm, nV_at (by omega), rfl, _, rfl, ?_⟩
      rw [dec_intV, decide_eq_false (fun z => c3' (by omega))]
      refine iteF ⟨.ref mr, rfl, .int ((ties n m)[k0].1 : Nat), rfl, .int ((ties n m)[k0].2.1 : Nat), rfl, mr, ms, (ties n m)[k0].1, (ties n m)[k0].2.1, rfl, hm, by omega, by omega, by omega, fun H3 r3 s3 n3 d3 => ?_⟩
      refine ⟨.int (k0 : Nat), rfl, r3, asOne ms (ties n m)[k0].1 (ties n m)[k0].2.1, k0 + 1, some (.int (k0 : Nat)), some (.int ((ties n m)[k0].1 : Nat)), some (.int ((ties n m)[k0].2.1 : Nat)), some (.int ((ties n m)[k0].2.2 : Nat)), ?_, sH.trans s3, SqL.of d3, by rw [MT.asOne_length]; exact hml, c4⟩
      rw [show (((k0 + 1 : Nat) : Int) - 1) = (k0 : Nat) by omega]
      rfl
    · obtain ⟨mr, ms, lo, y5, y6, y7, y8, rfl, sH, hm, hml, hck⟩ := hp
      rw [nV_len, List.drop_length] at hck
      have hs : single ms := hck
      refine ⟨.ref mr, rfl, mr, iV ms, rfl, by rw [← nV_iV]; exact hm, by rw [iV_len]; omega, fun z S2 hz => ?_⟩
      refine ⟨z, S2, _, rfl, upd_same, by rw [dist_one hs (by omega)]; omega, rfl, _, rfl, ?_⟩
      rw [dec_intV, dist_one hs (by omega), decide_eq_true (show ((1 : Nat) : Int) = 1 from rfl)]
      exact iteF (q _ (s1.trans (sH.trans (same_upd hz))))
end
end K54
end
/-! ## T7 -/
section
set_option Elab.async false
set_option linter.all false
set_option maxRecDepth 100000
set_option maxHeartbeats 4000000
namespace K54
open PySem PySem.Spec PyProof.Rows L2
open MT (RB)
/-- the pivots and entries behind each step are fit -/
structure CountOk (d : Nat) (A : Nat → Nat → Int) : Prop where
  d7 : d ≤ 7
  pos : ∀ k, k < d → 0 < RB A k (k + 1) (k + 1)
  low : ∀ k, k < d → RB A k (k + 1) (k + 1) < 1073741824
  ent : ∀ k, k + 1 < d → ∀ u v, 1 ≤ u → u ≤ d → 1 ≤ v → v ≤ d → -(2 ^ 64) < RB A k u v ∧ RB A k u v < 2 ^ 64
/-- the rows that are left behind k steps: row i is that of k + 1 + i -/
def rowR (A : Nat → Nat → Int) (d k i : Nat) : List V := (List.range (d - k)).map fun c => V.int (RB A k (k + 1 + i) (k + 1 + c))
def MatAt (H : Hp) (D : Addr) (A : Nat → Nat → Int) (d k : Nat) : Prop := ∃ rs : List Addr, H D = some (.lst (rs.map V.ref)) ∧ rs.length = d - k ∧ ∀ (i : Nat) (r : Addr), rs[i]? = some r → H r = some (.lst (rowR A d k i))
theorem rowR_at {A : Nat → Nat → Int} {d k i c : Nat} (h : c < d - k) : atI (rowR A d k i) (c : Int) = some (.int (RB A k (k + 1 + i) (k + 1 + c))) := by
  refine atI_nat ?_
  unfold rowR
  rw [List.getElem?_map, List.getElem?_range h]
  rfl
theorem rowR_len {A : Nat → Nat → Int} {d k i : Nat} : (rowR A d k i).length = d - k := by simp [rowR]
theorem cut1V (xs : List V) : cutV xs (some 1) none = xs.drop 1 := by
  unfold cutV
  rw [show HT.sIx xs.length 0 (some 1) = min 1 xs.length from HT.sIx_nat xs.length 0 1, HT.sIx_none]
  cases xs with
  | nil => rfl
  | cons x r =>
    have e : min 1 (x :: r).length = 1 := by
      rw [List.length_cons]
      omega
    rw [e]
    show List.take ((x :: r).length - 1) r = r
    rw [List.length_cons, Nat.add_sub_cancel, List.take_length]
section
variable {P : Program} {w : World} {K : PySem.W.Frag} {mg : Str → Option Value} {base : Heap}
/-! ### counted -/
def stAt (l : List Stmt) (i : Nat) : Stmt := l.getD i (.Pass ⟨0, 0, 0, 0⟩)
def whileB : Stmt → List Stmt
  | .While _ b _ _ => b
  | _ => []
def asgV : Stmt → Expr
  | .Assign _ v _ => v
  | _ => .Constant .none 0 ⟨0, 0, 0, 0⟩
def lcScope : Expr → Scope
  | .ListComp _ _ sc _ => sc
  | _ => defScope sCounted
/-- the scope of the outer comprehension -/
abbrev scRows : Scope := lcScope (asgV (stAt (whileB (stAt (defBody sCounted) 3)) 5))
def countRes (d : Nat) (A : Nat → Nat → Int) : Int := if d = 0 then 1 else RB A (d - 1) d d
def spCounted (K : PySem.W.Frag) : Sp := fun vs H Q _ => ∃ (p : Addr) (d : Nat) (A : Nat → Nat → Int), vs = [.ref p] ∧ MatAt H p A d 0 ∧ CountOk d A ∧ ∀ H', Same H H' → Q (.int (countRes d A)) H'
theorem ok_counted {f : Addr} {fd : FuncData} {k : Nat} (F : Fun K "counted" "counted" sCounted f fd) (M : Mg mg) : FnOk P w K mg base CX0 (k + 1) f fd ["rows"] (spCounted K) := by
  refine F.ok scCounted (fun vs H Q E h => ?_) (fun cdv A outer s H vs Q E hr h => ?_)
  · obtain ⟨p, d, A, rfl, _⟩ := h
    rfl
  · obtain ⟨p, d, B, rfl, hM, C, q⟩ := h
    refine ⟨_, pss_cons (ps_setLc (i := 0) (own := [("row", 5)]) (g := gName 5) (tt := tYes) rfl scCounted.nd rfl rfl (sw_true rfl rfl rfl (by decide +kernel)) (pi_list (pv 0))
        (blkOk_by (N := ["rows", "ahead", "sign", "at", "lead", "row", "k"]) (sc := defScope sCounted) (by decide +kernel)) (fun _ _ _ _ _ => pg_name (i := 5) scCounted.nd rfl (Or.inl rfl)) (fun _ _ _ _ _ => pts_nil)
        (te := tCB (fun xs H Q => ∃ p ys, xs = [.ref p] ∧ (SqL K H p ys ∨ SqT K H p ys) ∧ ∀ l, H l = none → Q (.ref l) (upd H l (.lst ys))) (tCons (tVar 5) tNil))
        (fun _ _ _ _ _ => pe_callTy call_list_of (by rfl) M.list (by decide +kernel) (pa_cons (pv 5) pa_nil)))
      (pss_cons (ps_set (i := 1) scCounted.nd rfl (.inr rfl) pe_int)
      (pss_cons (ps_set (i := 2) scCounted.nd rfl (.inl rfl) pe_int)
      (pss_cons (ps_while PassesOwn.never (pt_cmpR op_gt (pe_callB (lenS K) (by rfl) M.len PySem.boot_len (pa_cons (pv 0) pa_nil)) pe_int (nomark _))
        (pss_cons (ps_set (i := 3) scCounted.nd rfl (.inl rfl) pe_int)
        (pss_cons (ps_while PassesOwn.never (PW.pt (pw_and (pt_cmpR op_lt (pv 3) (pe_callB (lenS K) (by rfl) M.len PySem.boot_len (pa_cons (pv 0) pa_nil)) (nomark _)) (pw_and1 (pt_cmpR op_eq (pe_ix (ixl K) (pe_ix (ixl K) (pv 0) (pv 3) (fun _ _ => rfl)) pe_int (fun _ _ => rfl)) pe_int (nomark _)))))
          (pss_one (ps_aug (i := 3) scCounted.nd rfl (.inl rfl) pe_int ip_add)))
        (pss_cons (ps_if (pt_cmpR op_eq (pv 3) (pe_callB (lenS K) (by rfl) M.len PySem.boot_len (pa_cons (pv 0) pa_nil)) (nomark _)) (pss_one (ps_ret pe_int)) pss_nil)
        (pss_cons (ps_if (pt_cmpR op_gt (pv 3) pe_int (nomark _)) pss_never pss_nil)
        (pss_cons (ps_set (i := 4) scCounted.nd rfl (.inr rfl) (pe_ix (ixl K) (pv 0) pe_int (fun _ _ => rfl)))
        (pss_cons (ps_setLc (i := 0) (own := [("row", 5)]) (g := gName 5) (tt := tYes) rfl scCounted.nd rfl rfl (sw_true rfl rfl rfl (by decide +kernel)) (pi_list (pe_slice sl_list (pv 0) (po_some pe_int) po_none))
          (blkOk_by (N := ["rows", "ahead", "sign", "at", "lead", "row", "k"]) (sc := defScope sCounted) (by decide +kernel)) (fun _ _ _ _ _ => pg_name (i := 5) scCounted.nd rfl (Or.inr rfl)) (fun _ _ _ _ _ => pts_nil)
          (te := tLc (iRng2 (tCons (tC (.int 1)) (tCons (tCB (fun xs H Q => ∃ p ys, xs = [.ref p] ∧ (SqL K H p ys ∨ SqT K H p ys) ∧ Q (.int ys.length) H) (tCons (tVar 5) tNil)) tNil))) (gName 6) tYes
            (tOp (rI CDiv fun i j => .int (i / j)) (tOp (rI0 fun i j => .int (i - j)) (tOp (rI CMul fun i j => .int (i * j)) (tOp (rIxL K) (tVar 4) (tC (.int 0))) (tOp (rIxL K) (tVar 5) (tVar 6))) (tOp (rI CMul fun i j => .int (i * j)) (tOp (rIxL K) (tVar 5) (tC (.int 0))) (tOp (rIxL K) (tVar 4) (tVar 6)))) (tVar 1)) [6])
          (fun s1 H1 C1 cl fp => pe_lc (own := [("k", 6)]) (g := gName 6) (tt := tYes) rfl scCounted.nd
            (pi_range2 (by rfl) M.range (pa_cons pe_int (pa_cons (pe_callB (lenS K) (by rfl) M.len PySem.boot_len (pa_cons (pv 5) pa_nil)) pa_nil)))
            (blkOk_by (N := ["rows", "ahead", "sign", "at", "lead", "row", "k"]) (sc := relS scRows (defScope sCounted)) (by decide +kernel)) (fun _ _ _ _ _ => pg_name (i := 6) scCounted.nd rfl (Or.inl rfl)) (fun _ _ _ _ _ => pts_nil)
            (fun _ _ _ _ _ => pe_op op_fdiv (pe_op op_sub (pe_op op_mul (pe_ix (ixl K) (pv 4) pe_int (fun _ _ => rfl)) (pe_ix (ixl K) (pv 5) (pv 6) (fun _ _ => rfl))) (pe_op op_mul (pe_ix (ixl K) (pv 5) pe_int (fun _ _ => rfl)) (pe_ix (ixl K) (pv 4) (pv 6) (fun _ _ => rfl)))) (pv 1))))
        (pss_one (ps_set (i := 1) scCounted.nd rfl (.inr rfl) (pe_ix (ixl K) (pv 4) pe_int (fun _ _ => rfl)))))))))))
      (pss_cons (ps_if (pt_cmpR op_eq (pe_callB (lenS K) (by rfl) M.len PySem.boot_len (pa_cons (pv 0) pa_nil)) pe_int (nomark _)) (pss_one (ps_ret pe_int)) pss_nil)
      (pss_one (ps_ret (pe_op op_mul (pv 2) (pe_ix (ixl K) (pe_ix (ixl K) (pv 0) pe_int (fun _ _ => rfl)) pe_int (fun _ _ => rfl))))))))), ?_⟩
    obtain ⟨rs0, hp0, hl0, hr0⟩ := hM
    have d7 := C.d7
    -- rows = [list(row) for row in rows]
    refine ⟨.ref p, rfl, p, rfl, ⟨_, SqL.of hp0⟩, fun D hD => ?_⟩
    refine lc_list (K := K) (a := p) (xs := rs0.map V.ref) (fun i H1 => Same H H1 ∧ ∃ rs : List Addr, H1 D = some (.lst (rs.map V.ref)) ∧ rs.length = i ∧ ∀ (j : Nat) (r : Addr), rs[j]? = some r → H r = none ∧ H1 r = some (.lst (rowR B d 0 j)))
      ⟨same_upd hD, [], upd_same, rfl, fun j r e => by simp at e⟩ (fun i H1 _ hp => hp.1.seq (SqL.of hp0)) (fun i x H1 hx hp => ?_) (fun H1 hp => ?_)
    · obtain ⟨s1, rs, d1, l1, r1⟩ := hp
      obtain ⟨r, hr2, rfl⟩ := map_get hx
      have hi : i < rs0.length := (List.getElem?_eq_some_iff.mp hr2).1
      have e0 := hr0 i r hr2
      refine ⟨rfl, .ref r, rfl, r, _, rfl, .inl (SqL.of (s1 _ _ e0)), fun u hu => ?_⟩
      have su := same_upd (o := .lst (rowR B d 0 i)) hu
      have nuD : u ≠ D := fun z => by rw [z, d1] at hu; cases hu
      refine ⟨_, su _ _ d1, ?_, same_but (s1.trans su) hD, rs ++ [u], by rw [upd_same, List.map_append]; rfl, by rw [List.length_append, l1]; rfl, fun j r' e => ?_⟩
      · rw [List.length_map, l1]
        exact line_lt (by omega)
      · by_cases hj : j < rs.length
        · rw [List.getElem?_append_left hj] at e
          obtain ⟨a1, a2⟩ := r1 j r' e
          refine ⟨a1, ?_⟩
          rw [upd_ne (fun z => by rw [z, hD] at a1; rw [z, d1] at a2; injection a2 with a2; injection a2 with a2; cases rs with
            | nil => simp at hj
            | cons y ys =>
              unfold rowR at a2
              cases hq : d - 0 with
              | zero => rw [hq] at a2; simp at a2
              | succ q => rw [hq, List.range_succ_eq_map] at a2; simp at a2), su _ _ a2]
        · have hj2 : j = rs.length := by
            have := (List.getElem?_eq_some_iff.mp e).1
            rw [List.length_append] at this
            simp at this
            omega
          subst hj2
          rw [List.getElem?_append_right (Nat.le_refl _), Nat.sub_self] at e
          cases e
          refine ⟨s1.free hu, ?_⟩
          rw [upd_ne nuD, upd_same, l1]
    · obtain ⟨s1, rs, d1, l1, r1⟩ := hp
      rw [List.length_map, hl0] at l1
      have mat : MatAt H1 D B d 0 := ⟨rs, d1, l1, fun i r e => (r1 i r e).2⟩
      clear r1 d1 l1 rs
      -- the loop
      refine ⟨fun mm σ H2 => ∃ (k : Nat) (D : Addr) (y3 y4 : Option V), mm + k = d ∧ (k < d ∨ d = 0) ∧ σ = [some (.ref D), some (.int (MT.pv B k)), some (.int 1), y3, y4, none, none] ∧ Same H H2 ∧ MatAt H2 D B d k,
        ⟨d, 0, D, none, none, by omega, by omega, rfl, s1, mat⟩, fun mm σ H2 hI => ?_⟩
      obtain ⟨k, D, y3, y4, hmk, hkd, rfl, s2, rs, hd, hl, hrow⟩ := hI
      refine ⟨.ref D, rfl, D, _, rfl, .inl (SqL.of hd), _, 1, rfl, rfl, _, rfl, ?_⟩
      rw [List.length_map, hl]
      refine ite2 (fun e => ?_) (fun e => ?_)
      · have hk1 : k + 1 < d := by
          have := of_decide_eq_true e
          omega
        obtain ⟨r0, hr00⟩ : ∃ r0, rs[0]? = some r0 := ⟨rs[0]'(by omega), List.getElem?_eq_getElem _⟩
        have hR0 := hrow 0 r0 hr00
        have pos := C.pos k (by omega)
        have hix0 : atI (rs.map V.ref) (0 : Int) = some (.ref r0) := atI_nat (j := 0) (by rw [List.getElem?_map, hr00]; rfl)
        have hp00 : atI (rowR B d k 0) (0 : Int) = some (.int (RB B k (k + 1) (k + 1))) := rowR_at (c := 0) (by omega)
        refine ⟨fun σ' H' => ∃ (D : Addr) (y3 y4 : Option V), σ' = [some (.ref D), some (.int (MT.pv B (k + 1))), some (.int 1), y3, y4, none, none] ∧ Same H H' ∧ MatAt H' D B d (k + 1), fun σ' H' hN => ?_, ?_⟩
        · obtain ⟨D', z3, z4, e1, e2, e3⟩ := hN
          exact ⟨mm - 1, by omega, k + 1, D', z3, z4, by omega, .inl hk1, e1, e2, e3⟩
        -- at = 0; the search ends at once
        refine ⟨fun m2 σ' H' => σ' = [some (.ref D), some (.int (MT.pv B k)), some (.int 1), some (.int 0), y4, none, none] ∧ H' = H2, ⟨0, rfl, rfl⟩, fun m2 σ' H' hJ => ?_⟩
        obtain ⟨rfl, rfl⟩ := hJ
        refine ⟨.int 0, rfl, .ref D, rfl, D, _, rfl, .inl (SqL.of hd), _, _, rfl, rfl, _, rfl, ?_⟩
        rw [List.length_map, hl, decide_eq_true (show (0 : Int) < ((d - k : Nat) : Int) by omega)]
        refine iteT ⟨.ref D, rfl, .int 0, rfl, D, _, _, _, rfl, rfl, SqL.of hd, hix0, r0, _, _, _, rfl, rfl, SqL.of hR0, hp00, rfl, _, rfl, ?_⟩
        rw [dec_intV, decide_eq_false (show ¬ RB B k (k + 1) (k + 1) = 0 by omega)]
        refine iteF ?_
        -- if at == len(rows)
        refine ⟨.int 0, rfl, .ref D, rfl, D, _, rfl, .inl (SqL.of hd), rfl, _, rfl, ?_⟩
        rw [dec_intV, List.length_map, hl, decide_eq_false (show ¬ (0 : Int) = ((d - k : Nat) : Int) by omega)]
        refine iteF ⟨.int 0, rfl, _, _, rfl, rfl, _, rfl, iteF ?_⟩
        -- lead = rows[0]
        refine ⟨.ref D, rfl, D, _, 0, _, rfl, rfl, SqL.of hd, hix0, ?_⟩
        -- rows = ..
        refine ⟨.ref D, rfl, 1, rfl, D, _, rfl, SqL.of hd, fun c hc => ?_⟩
        have sc1 := same_upd (o := .lst (cutV (rs.map V.ref) (some 1) none)) hc
        rw [cut1V] at sc1 ⊢
        refine ⟨c, rfl, ⟨_, SqL.of upd_same⟩, fun N hN => ?_⟩
        refine lc_list (K := K) (a := c) (xs := (rs.map V.ref).drop 1) (fun i H3 => Same H' H3 ∧ Same (upd H' c (.lst ((rs.map V.ref).drop 1))) H3 ∧ ∃ ns : List Addr, H3 N = some (.lst (ns.map V.ref)) ∧ ns.length = i ∧ ∀ (j : Nat) (r : Addr), ns[j]? = some r → r ≠ N ∧ H3 r = some (.lst (rowR B d (k + 1) j)))
          ⟨sc1.trans (same_upd hN), same_upd hN, [], upd_same, rfl, fun j r e => by simp at e⟩ (fun i H3 _ hp => hp.2.1.seq (SqL.of upd_same)) (fun i x H3 hx hp => ?_) (fun H3 hp => ?_)
        · obtain ⟨s3, s3c, ns, n1, n2, n3⟩ := hp
          have hx2 : (rs.map V.ref)[i + 1]? = some x := by
            rw [List.getElem?_drop, Nat.add_comm 1 i] at hx
            exact hx
          obtain ⟨r, hr2, rfl⟩ := map_get hx2
          have hi : i + 1 < d - k := by
            have := (List.getElem?_eq_some_iff.mp hr2).1
            omega
          have hRi := s3 _ _ (hrow (i + 1) r hr2)
          have hR03 := s3 _ _ hR0
          refine ⟨rfl, ?_⟩
          refine ⟨.ref r, rfl, r, _, rfl, .inl (SqL.of hRi), 1, ((d - k : Nat) : Int), by rw [rowR_len], ⟨by omega, by omega, by omega, by omega⟩, fun G hG => ?_⟩
          rw [show (((d - k : Nat) : Int) - 1).toNat = d - (k + 1) by omega]
          have nGN : N ≠ G := ne_of_none n1 hG
          refine lc_range (lo := 1) (n := d - (k + 1)) (fun j H4 => Same H3 H4 ∧ H4 G = some (.lst ((List.range j).map fun c => V.int (RB B (k + 1) (k + 1 + 1 + i) (k + 1 + 1 + c))))) ⟨same_upd hG, upd_same⟩ (fun j H4 hj hp4 => ?_) (fun H4 hp4 => ?_)
          · obtain ⟨s4, g4⟩ := hp4
            have hRi4 := s4 _ _ hRi
            have hR04 := s4 _ _ hR03
            have ej : ((1 : Int) + (j : Nat)) = ((j + 1 : Nat) : Int) := by omega
            have a1 : atI (rowR B d k 0) ((1 : Int) + (j : Nat)) = some (.int (RB B k (k + 1) (k + 1 + (j + 1)))) := by rw [ej]; exact rowR_at (i := 0) (by omega)
            have a2 : atI (rowR B d k (i + 1)) ((1 : Int) + (j : Nat)) = some (.int (RB B k (k + 1 + (i + 1)) (k + 1 + (j + 1)))) := by rw [ej]; exact rowR_at (by omega)
            have a3 : atI (rowR B d k (i + 1)) (0 : Int) = some (.int (RB B k (k + 1 + (i + 1)) (k + 1))) := rowR_at (c := 0) (by omega)
            have en := C.ent k (by omega)
            have pvp : 0 < MT.pv B k ∧ MT.pv B k < 1073741824 := by
              cases k with
              | zero => exact ⟨Int.one_pos, by show (1 : Int) < 1073741824; decide⟩
              | succ k => exact ⟨C.pos k (by omega), C.low k (by omega)⟩
            refine ⟨rfl, .ref r0, rfl, r0, _, 0, _, rfl, rfl, SqL.of hR04, hp00, .ref r, rfl, .int ((1 : Int) + (j : Nat)), rfl, r, _, _, _, rfl, rfl, SqL.of hRi4, a2, _, _, rfl, rfl, .inl (en _ _ (by omega) (by omega) (by omega) (by omega)),
              .ref r, rfl, r, _, 0, _, rfl, rfl, SqL.of hRi4, a3, .ref r0, rfl, .int ((1 : Int) + (j : Nat)), rfl, r0, _, _, _, rfl, rfl, SqL.of hR04, a1, _, _, rfl, rfl, .inl (en _ _ (by omega) (by omega) (by omega) (by omega)), _, _, rfl, rfl, .int (MT.pv B k), rfl, _, _, rfl, rfl, pvp, ?_⟩
            refine ⟨_, g4, ?_, same_but s4 hG, ?_⟩
            · rw [List.length_map, List.length_range]
              exact line_lt (by omega)
            · rw [upd_same, List.range_succ, List.map_append]
              have e1 := MT.RB_succ B k (k + 1 + 1 + i) (k + 1 + 1 + j)
              rw [show k + 1 + 1 + i = k + 1 + (i + 1) by omega, show k + 1 + 1 + j = k + 1 + (j + 1) by omega] at e1
              have e2 : V.int (RB B (k + 1) (k + 1 + 1 + i) (k + 1 + 1 + j)) = V.int ((RB B k (k + 1) (k + 1) * RB B k (k + 1 + (i + 1)) (k + 1 + (j + 1)) - RB B k (k + 1 + (i + 1)) (k + 1) * RB B k (k + 1) (k + 1 + (j + 1))) / MT.pv B k) := by
                rw [show k + 1 + 1 + i = k + 1 + (i + 1) by omega, show k + 1 + 1 + j = k + 1 + (j + 1) by omega, e1]
              rw [List.map_cons, List.map_nil, e2]
          · obtain ⟨s4, g4⟩ := hp4
            have hG3 : H3 G = none := hG
            refine ⟨_, s4 _ _ n1, ?_, ?_, ?_, ns ++ [G], by rw [upd_same, List.map_append]; rfl, by rw [List.length_append, n2]; rfl, fun j r' e => ?_⟩
            · rw [List.length_map, n2]
              exact line_lt (by omega)
            · have nH : H' N = none := sc1.free hN
              exact same_but (s3.trans s4) nH
            · exact same_but (s3c.trans s4) hN
            · by_cases hj : j < ns.length
              · rw [List.getElem?_append_left hj] at e
                obtain ⟨b1, b2⟩ := n3 j r' e
                exact ⟨b1, by rw [upd_ne b1]; exact s4 _ _ b2⟩
              · have hj2 : j = ns.length := by
                  have := (List.getElem?_eq_some_iff.mp e).1
                  rw [List.length_append] at this
                  simp at this
                  omega
                subst hj2
                rw [List.getElem?_append_right (Nat.le_refl _), Nat.sub_self] at e
                cases e
                refine ⟨nGN.symm, ?_⟩
                rw [upd_ne nGN.symm, g4, n2]
                rfl
        · obtain ⟨s3, s3c, ns, n1, n2, n3⟩ := hp
          rw [List.length_drop, List.length_map, hl] at n2
          -- ahead = lead[0]
          refine ⟨.ref r0, rfl, r0, _, 0, _, rfl, rfl, SqL.of (s3 _ _ hR0), hp00, ?_⟩
          exact ⟨N, _, _, rfl, s2.trans s3, ns, n1, by omega, fun i r e => (n3 i r e).2⟩
      · -- the end
        have hk1 : ¬ (1 : Int) < ((d - k : Nat) : Int) := fun z => e (decide_eq_true z)
        refine ⟨.ref D, rfl, D, _, rfl, .inl (SqL.of hd), rfl, _, rfl, ?_⟩
        rw [dec_intV, List.length_map, hl]
        refine ite2 (fun e2 => ?_) (fun e2 => ?_)
        · have := of_decide_eq_true e2
          have hd0 : d = 0 := by omega
          have := q H2 s2
          unfold countRes at this
          rw [if_pos hd0] at this
          exact this
        · have hdk : d - k = 1 := by
            have : ¬ ((d - k : Nat) : Int) = 0 := fun z => e2 (decide_eq_true z)
            omega
          obtain ⟨r0, hr00⟩ : ∃ r0, rs[0]? = some r0 := ⟨rs[0]'(by omega), List.getElem?_eq_getElem _⟩
          have hR0 := hrow 0 r0 hr00
          refine ⟨.int 1, rfl, .ref D, rfl, D, _, 0, _, rfl, rfl, SqL.of hd, atI_nat (j := 0) (by rw [List.getElem?_map, hr00]; rfl), r0, _, 0, _, rfl, rfl, SqL.of hR0, rowR_at (c := 0) (by omega), _, _, rfl, rfl, .inl ⟨by decide, by decide⟩, ?_⟩
          have := q H2 s2
          unfold countRes at this
          rw [if_neg (by omega)] at this
          have e3 : (1 : Int) * RB B k (k + 1 + 0) (k + 1 + 0) = RB B (d - 1) d d := by
            rw [Int.one_mul, show k + 1 + 0 = d by omega, show k = d - 1 by omega]
          show Q (.int ((1 : Int) * RB B k (k + 1 + 0) (k + 1 + 0))) H2
          rw [e3]
          exact this
/-! ### tree_count -/
def spTreeCount (K : PySem.W.Frag) : Sp := fun vs H Q _ => ∃ (a : Addr) (n : Nat) (m : Nat → Nat → Nat), vs = [.ref a] ∧ WebAt K H a n m ∧ 0 < n ∧ n ≤ 7 ∧ CountOk (n - 1) (MT.Aw n m) ∧ ∀ H', Same H H' → Q (.int (countRes (n - 1) (MT.Aw n m))) H'
theorem rowV_ints (n : Nat) (m : Nat → Nat → Nat) (h : Nat) : rowV n m h = ((List.range n).map fun j => ((m h j : Nat) : Int)).map V.int := by
  unfold rowV
  rw [List.map_map]
  rfl
theorem sum_sm (f : Nat → Int) : ∀ n, ((List.range n).map f).sum = MT.sm n f
  | 0 => rfl
  | n + 1 => by
    rw [List.range_succ, List.map_append, List.sum_append, sum_sm f n]
    simp [MT.sm]
theorem ok_treeCount {f fC : Addr} {fd fdC : FuncData} {k : Nat} (F : Fun K "tree_count" "tree_count" sTreeCount f fd) (M : Mg mg) (FC : Fun K "counted" "counted" sCounted fC fdC) (bC : Binds K fdC ["rows"] []) (gC : mg "counted" = some (.ref fC)) :
    FnOk P w K mg base CX0 (k + 2) f fd ["web"] (spTreeCount K) := by
  have GC : FnOk P w K mg base CX0 (k + 1) fC fdC ["rows"] (spCounted K) := ok_counted FC M
  refine F.ok scTreeCount (fun vs H Q E h => ?_) (fun cdv A outer s H vs Q E hr h => ?_)
  · obtain ⟨a, n, m, rfl, _⟩ := h
    rfl
  · obtain ⟨a, n, m, rfl, hW, h0, h7, C, q⟩ := h
    refine ⟨_, pss_cons (ps_set (i := 1) scTreeCount.nd rfl (.inl rfl) (pe_lst pa_nil))
      (pss_cons (ps_for PassesOwn.never rfl (pi_range2 (by rfl) M.range (pa_cons pe_int (pa_cons (pe_callB (lenS K) (by rfl) M.len PySem.boot_len (pa_cons (pv 0) pa_nil)) pa_nil))) (pg_name (i := 2) scTreeCount.nd rfl (.inl rfl))
        (pss_cons (ps_setLc (i := 3) (own := [("times", 4)]) (g := gName 4) (tt := tYes) (te := tOp (rI0 fun i j => .int (i - j)) (tC (.int 0)) (tVar 4)) rfl scTreeCount.nd rfl rfl (sw_true rfl rfl rfl (by decide +kernel)) (pi_tup (pe_ix (ixt K) (pv 0) (pv 2) (fun _ _ => rfl)))
          (blkOk_by (N := ["web", "rows", "house", "row", "times"]) (sc := defScope sTreeCount) (by decide +kernel)) (fun _ _ _ _ _ => pg_name (i := 4) scTreeCount.nd rfl (Or.inl rfl)) (fun _ _ _ _ _ => pts_nil) (fun _ _ _ _ _ => pe_op op_sub pe_int (pv 4)))
        (pss_cons (ps_asg (pe_callB (crSumT K rfl) (by rfl) M.sum (by decide +kernel) (pa_cons (pe_ix (ixt K) (pv 0) (pv 2) (fun _ _ => rfl)) pa_nil)) (pg_sub (pv 3) (pv 2) set_list))
        (pss_one (ps_expr (pe_bm PySem.F.plainAttrs_list PySem.F.slot_list_append PySem.F.type_list_append mt_append (pv 1) (pa_cons (pe_slice sl_list (pv 3) (po_some pe_int) po_none) pa_nil)))))))
      (pss_one (ps_ret (pe_call GC hr (by rfl) gC FC.kp bC .nil pass0 (pa_cons (pv 1) pa_nil))))), ?_⟩
    obtain ⟨xs, hX, hXl⟩ := hW.tup
    refine ⟨Nat.zero_le _, fun D hD => ?_⟩
    have s0 := same_upd (o := .lst []) hD
    refine ⟨.ref a, rfl, a, xs, rfl, .inr (seqT_of s0 hX), 1, (n : Nat), by rw [hXl], ⟨by omega, by omega, by omega, by omega⟩, ?_⟩
    rw [show (((n : Nat) : Int) - 1).toNat = n - 1 by omega]
    refine for_range (lo := 1) (n := n - 1) (fun i σ H1 => ∃ (y2 y3 : Option V) (rs : List Addr), σ = [some (.ref a), some (.ref D), y2, y3, none] ∧ Same H H1 ∧ H1 D = some (.lst (rs.map V.ref)) ∧ rs.length = i ∧ ∀ (j : Nat) (r : Addr), rs[j]? = some r → r ≠ D ∧ H1 r = some (.lst (rowR (MT.Aw n m) (n - 1) 0 j)))
      ⟨none, none, [], rfl, s0, upd_same, rfl, fun j r e => by simp at e⟩ (fun i σ H1 hi hp => ?_) (fun σ H1 hp => ?_)
    · obtain ⟨y2, y3, rs, rfl, s1, d1, l1, r1⟩ := hp
      have eh : ((1 : Int) + (i : Nat)) = ((i + 1 : Nat) : Int) := by omega
      obtain ⟨ys, r, h1, _, h3, h4⟩ := (hW.same s1).row (i := i + 1) (by omega)
      refine ⟨.ref a, rfl, .int ((1 : Int) + (i : Nat)), rfl, a, ys, _, .ref r, rfl, rfl, h1, by rw [eh]; exact h3, r, rfl, ⟨_, h4⟩, fun R hR => ?_⟩
      refine lc_tup (K := K) (a := r) (xs := rowV n m (i + 1)) (fun j H2 => Same H1 H2 ∧ H2 R = some (.lst ((List.range j).map fun c => V.int (0 - (m (i + 1) c : Nat))))) ⟨same_upd hR, upd_same⟩ (fun j H2 _ hp2 => seqT_of hp2.1 h4) (fun j x H2 hx hp2 => ?_) (fun H2 hp2 => ?_)
      · obtain ⟨s2, d2⟩ := hp2
        have hj : j < n := by
          have := (List.getElem?_eq_some_iff.mp hx).1
          rw [rowV_len] at this
          exact this
        have ex : x = .int (m (i + 1) j : Nat) := by
          unfold rowV at hx
          rw [List.getElem?_map, List.getElem?_range hj] at hx
          exact (Option.some.inj hx).symm
        subst ex
        refine ⟨rfl, .int (m (i + 1) j : Nat), rfl, _, _, rfl, rfl, _, d2, ?_, same_but s2 hR, ?_⟩
        · rw [List.length_map, List.length_range]
          exact line_lt (by omega)
        · rw [upd_same, List.range_succ, List.map_append]
          rfl
      · obtain ⟨s2, d2⟩ := hp2
        rw [rowV_len] at d2
        have nRD : R ≠ D := fun z => by rw [z, d1] at hR; cases hR
        obtain ⟨ys2, r2, h12, _, h32, h42⟩ := (hW.same (s1.trans s2)).row (i := i + 1) (by omega)
        refine ⟨.ref a, rfl, .int ((1 : Int) + (i : Nat)), rfl, a, ys2, _, .ref r2, rfl, rfl, h12, by rw [eh]; exact h32, r2, (List.range n).map (fun j => ((m (i + 1) j : Nat) : Int)), rfl, by rw [← rowV_ints]; exact h42, ?_⟩
        refine ⟨.ref R, rfl, .int ((1 : Int) + (i : Nat)), rfl, R, _, _, i + 1, rfl, rfl, d2, ?_, ?_⟩
        · rw [List.length_map, List.length_range, eh]
          unfold ixN
          rw [if_pos (by omega), if_pos (by omega)]
          rfl
        -- rows.append(row[1:])
        have dD : (upd H2 R (.lst (((List.range n).map fun c => V.int (0 - (m (i + 1) c : Nat))).set (i + 1) (.int ((List.range n).map fun j => ((m (i + 1) j : Nat) : Int)).sum)))) D = some (.lst (rs.map V.ref)) := by
          rw [upd_ne nRD.symm]
          exact s2 _ _ d1
        refine ⟨.ref D, rfl, .inl ⟨rfl, _, SqL.of dD⟩, .ref R, rfl, 1, rfl, R, _, rfl, SqL.of upd_same, fun c hc => ?_⟩
        have scc := same_upd (o := .lst (cutV (((List.range n).map fun c => V.int (0 - (m (i + 1) c : Nat))).set (i + 1) (.int ((List.range n).map fun j => ((m (i + 1) j : Nat) : Int)).sum)) (some 1) none)) hc
        have ncD : c ≠ D := fun z => by rw [z, dD] at hc; cases hc
        refine ⟨D, rs.map V.ref, _, rfl, rfl, scc _ _ dD, ?_, ?_⟩
        · rw [List.length_map, l1]
          exact line_lt (by omega)
        · have sR : Same H1 (upd H2 R (.lst (((List.range n).map fun c => V.int (0 - (m (i + 1) c : Nat))).set (i + 1) (.int ((List.range n).map fun j => ((m (i + 1) j : Nat) : Int)).sum)))) := same_but s2 hR
          refine ⟨_, _, rs ++ [c], rfl, same_but (s1.trans (sR.trans scc)) hD, by rw [upd_same, List.map_append]; rfl, by rw [List.length_append, l1]; rfl, fun j r' e => ?_⟩
          by_cases hj : j < rs.length
          · rw [List.getElem?_append_left hj] at e
            obtain ⟨b1, b2⟩ := r1 j r' e
            exact ⟨b1, by rw [upd_ne b1]; exact scc _ _ (sR _ _ b2)⟩
          · have hj2 : j = rs.length := by
              have := (List.getElem?_eq_some_iff.mp e).1
              rw [List.length_append] at this
              simp at this
              omega
            subst hj2
            rw [List.getElem?_append_right (Nat.le_refl _), Nat.sub_self] at e
            cases e
            refine ⟨ncD, ?_⟩
            rw [upd_ne ncD, upd_same, cut1V, l1, sum_sm]
            congr 2
            apply List.ext_getElem?
            intro t
            rw [List.getElem?_drop, List.getElem?_set]
            by_cases ht : t < n - 1
            · have er : (rowR (MT.Aw n m) (n - 1) 0 i)[t]? = some (V.int (MT.Aw n m (0 + 1 + i) (0 + 1 + t))) := by
                unfold rowR
                rw [List.getElem?_map, List.getElem?_range (show t < n - 1 - 0 by omega)]
                rfl
              rw [er]
              by_cases ht2 : i + 1 = 1 + t
              · rw [if_pos ht2, if_pos (by rw [List.length_map, List.length_range]; omega)]
                unfold MT.Aw
                rw [if_pos (by omega), show 0 + 1 + i = i + 1 by omega]
              · rw [if_neg ht2, List.getElem?_map, List.getElem?_range (show 1 + t < n by omega)]
                unfold MT.Aw
                rw [if_neg (by omega), show 0 + 1 + i = i + 1 by omega, show 0 + 1 + t = 1 + t by omega, ← Int.zero_sub]
                rfl
            · have er : (rowR (MT.Aw n m) (n - 1) 0 i)[t]? = none := List.getElem?_eq_none (by rw [rowR_len]; omega)
              rw [er, if_neg (by omega), List.getElem?_eq_none (by rw [List.length_map, List.length_range]; omega)]
    · obtain ⟨y2, y3, rs, rfl, s1, d1, l1, r1⟩ := hp
      refine ⟨.ref D, rfl, D, n - 1, MT.Aw n m, rfl, ⟨rs, d1, l1, fun i r e => (r1 i r e).2⟩, C, fun H2 s2 => q H2 (s1.trans s2)⟩
end
end K54
end
/-! ## X3 -/
section
set_option Elab.async false
set_option linter.all false
set_option maxRecDepth 100000
set_option maxHeartbeats 4000000
namespace K54
open PySem PySem.Spec PyProof.Rows L2 LamX NdefX
/-! ### a lambda with parameters, handed to a def and called there -/
/-- the lambda's words as a made function -/
abbrev lamF (X : Cx) (params : Arguments) (scope : Scope) (c' : Addr) : NF := ⟨"<lambda>", X.env.qual ++ "<lambda>", params, [], scope, cloFrom X.env.cells scope.names [], c'⟩
/-- what is known of it where the def begins that got it -/
structure LamIn (s : Shared) (H : Hp) (outer : List Env) (F : NF) (params : Arguments) (body : Expr) (f : Addr) (fr : List Str) (ws : List (Option V)) : Prop where
  obj : ∃ pm ctv, s.heap.get? f = some (PySem.W.kla_obj "<lambda>" F.qual params body F.scope F.cl pm F.c ctv)
  fn : H f = none
  nfr : f ∉ frs outer
  cells : CellsAt F.cl fr ws s.heap H
  ncf : ∀ y c, F.cl.lookup y = some c → c ∉ frs outer
/-- how its arguments bind -/
def LamBinds (F : NF) (params : Arguments) (body : Expr) (ps : List Str) : Prop := ∀ (pm ctv : Value) (us : List Value), us.length = ps.length →
  bindArgs (PySem.W.kla_fn "<lambda>" F.qual params body F.scope F.cl pm (.ref F.c) ctv) ⟨us, []⟩ = pure (ps.zip us)
theorem pe_act3 {Z : Cx} {F : NF} {f : Addr} {fr ps N' : List Str} {ws : List (Option V)} {params : Arguments} {body : Expr} {k i : Nat} {x : Str} {tb : TE} {e : Expr} {es : List Expr} {t : TA} {p1 p2 : Pos}
    (L : LamIn Z.s_0 Z.H_0 Z.outer F params body f fr ws) (hex : Z.ex = []) (S : NScope N' ps fr F.scope) (hb : LamBinds F params body ps) (hr : Room (k + 1) Z.A)
    (hbody : ∀ (A : Around) (outer : List Env) (s : Shared) (H : Hp), Room k (A.deeper (envF F f s.heap.objs.size)) → PE (ncx L2.CX0 Z.prog Z.w Z.K Z.mg Z.base N' F f A outer s H L2.E0) body tb)
    (hN : Z.N[i]? = some x) (hv : Vis Z.env.scope x) (ha : PA Z (e :: es) t) (hd : (x == ("__debug__" : Str)) = false := by decide) (hcd : (x == ("__classdict__" : Str)) = false := by decide)
    (he : starEach (e :: es) Z.env = (false, eval e Z.env) :: starEach es Z.env := by rfl) (hpl : (backTo p2 (starEach es Z.env)).any (·.1) = false := by rfl) :
    PE Z (.Call (.Name x p1) (e :: es) [] p2) (fun σ H Q => σ[i]? = some (some (.ref f)) ∧ t σ H fun vs H1 => vs.length = ps.length ∧ H1 F.c = some (CodeO F.c F.qual) ∧ tb (startF N' vs ws) H1 Q) := by
  refine ⟨fun pins s σ H Q I h => ?_⟩
  obtain ⟨hs, ht⟩ := h
  obtain ⟨pm, ctv, hobj⟩ := L.obj
  refine wpAny_Call_Name_kw (thn ((pe_var (pos := p1) (i := i) hN hv hd hcd).run pins s σ H (fun v H1 => v = .ref f ∧ H1 = H) I ⟨.ref f, hs, rfl, rfl⟩) fun u s1 ⟨v, H1, I1, r1, q1⟩ => ?_)
  obtain ⟨ev, eH⟩ := q1
  subst ev
  rw [eH] at I1
  obtain rfl : u = Value.ref f := r1
  have nx : ∀ b : Addr, b ∉ Z.ex := fun b => by rw [hex]; simp
  have at_ : ∀ {σ' : L2.St} {H' : Hp} {s' : Shared}, Inv Z pins σ' H' s' → s'.heap.get? f = some (PySem.W.kla_obj "<lambda>" F.qual params body F.scope F.cl pm F.c ctv) := fun J => J.base.keep f _ hobj L.fn L.nfr (nx f)
  refine PySem.W.callWith_F (first := []) ⟨_, _, _, _, at_ I1⟩ (thn (ha.run p2 pins s1 σ H _ I1 ht) fun us s2 ⟨vs, H2, I2, r, hl, hc, q⟩ => ⟨⟨_, _, _, _, at_ I2⟩, ?_⟩) he hpl
  show wpAny _ _ (call (.ref f) us) _ _ _
  have C : CellsAt F.cl fr ws s2.heap H2 := CellsAt.later L.cells L.ncf (fun y c e => nx c) I2
  have e0 := I2.env0
  have rc : codeAny (model Z.prog Z.w) Z.A (.call (.ref f) ⟨us, []⟩) (CR L2.CX0 Z.stack Z.prog Z.w H2 s2 Q L2.E0) s2 := by
    refine PySem.W.kla_callFunE hr.depth (at_ I2) rfl S.co S.gen rfl (codeO_at I2.hok hc) ?_
    rw [hb pm ctv us (by rw [← r.length]; exact hl)]
    refine wpAny_pure (wpAny_newFunctionEnv S.nocell (fun ⟨n, _⟩ hy => S.par n (List.of_mem_zip hy).1) (fun h₁ hns hsb => ⟨I2.nolimit.fresh _ hsb, ?_⟩) S.kind)
    show codeAny _ _ (.expr body (envF F f s2.heap.objs.size)) _ _
    have kp : ∀ b o, s2.heap.get? b = some o → h₁.get? b = some o := fun b o e => hsb.extBut b o (Nat.ne_of_lt (Heap.lt_size e)) (Heap.get?_push_of_some _ e)
    have J : Inv (ncx L2.CX0 Z.prog Z.w Z.K Z.mg Z.base N' F f Z.A Z.stack s2 H2 L2.E0) [] (startF N' vs ws) H2 { s2 with heap := h₁, toks := s2.toks + (ps.zip us).length } := inv_startN S hr.hd e0 hl r C hns kp
    refine PySem.W.kla_codeExpr (wpAny_mono ((hbody Z.A Z.stack s2 H2 (hr.deeper _)).run [] _ _ H2 Q J q) (fun v s' hq => ?_) fun e s' hq => hq)
    obtain ⟨w', H', J', rv, q⟩ := hq
    exact ⟨w', H', J'.os, J'.bare, J'.base, J'.hok, rv, q⟩
  refine wpAny_call (codeAny_mono rc fun r s' hq => ?_)
  cases r with
  | error e => exact (show False from hq).elim
  | ok fl =>
    cases fl with
    | ret u => exact I2.after hq
    | next => exact False.elim hq
    | brk => exact False.elim hq
    | cont => exact False.elim hq
/-- x(e1, e2, lambda ..: body): R: what the def makes of its two first arguments, of the lambda's captured cells, of the lambda -/
def tLam3 (T : List (Addr × Str)) (q : Str) (js : List Nat) (ta tb : TE) (R : V → V → List (Option V) → Addr → Addr → Hp → VK → Prop) : TE := fun σ H Q => ta σ H fun v1 H1 => tb σ H1 fun v2 H2 => Tabs T H2 ∧
  ∀ (f c' : Addr) (H3 : Hp), ExtN H2 H3 → Tabs T H3 → H3 c' = some (CodeO c' q) → R v1 v2 (js.map (slotAt σ)) f c' H3 Q
theorem pe_lamcall3 {X : Cx} {T : List (Addr × Str)} {R : V → V → List (Option V) → Addr → Addr → Hp → VK → Prop} {x a b d : Str} {g c P : Addr} {k : Nat} {stg : Stmt} {fdg : FuncData} {Ng : List Str} {e1 e2 : Expr} {ta tb : TE} {fr : List Str} {js : List Nat}
    {params : Arguments} {body : Expr} {scope : Scope} {p lpos pos : Pos} (hg : Gl X x) (hm : X.mg x = some (.ref g)) (Fg : Fun X.K x x stg g fdg) (hb : Binds X.K fdg [a, b, d] []) (Sg : FnScope Ng [a, b, d] (defScope stg))
    (hG : ∀ (f c' : Addr) (s : Shared) (H : Hp) (v1 v2 : V) (ws : List (Option V)) (Q : VK) (cdg : Value), LamIn s H X.stack (lamF X params scope c') params body f fr ws → H c' = some (CodeO c' (X.env.qual ++ "<lambda>")) → Room k (X.A.deeper (envOfC x (defScope stg) s.heap.objs.size g cdg)) → R v1 v2 ws f c' H Q →
      ∃ t, PSs (cxOf L2.CX0 X.prog X.w X.K X.mg X.base Ng x (defScope stg) g cdg X.A X.stack s H L2.E0).nox (defBody stg) t ∧ t { nx := fun _ H' => Q .non H', rt := Q } (start Ng [v1, v2, .ref f]) H)
    (TB : TabB X.base X.mg c P) (hcode : X.env.code = .ref c) (hmT : (P, X.env.qual ++ "<lambda>") ∈ T) (hu : ∀ p ∈ T, p.1 = P → p.2 = X.env.qual ++ "<lambda>") (hr : Room (k + 1) X.A) (hdef : defaultsOf params X.env = ([], []))
    (hfree : ∀ y ∈ scope.names, y.2 = .free → X.env.scope.names.lookup y.1 = some .cell ∨ X.env.scope.names.lookup y.1 = some .free) (hfr : ∀ y ∈ fr, (y, NameKind.free) ∈ scope.names) (hjs : js.map (fun j => X.N[j]?) = fr.map some) (hfn : ∀ y, X.fn y = true)
    (ha : PE X e1 ta) (hb2 : PE X e2 tb) (hs1 : starEach [e1, e2, .Lambda params body scope lpos] X.env = (false, eval e1 X.env) :: starEach [e2, .Lambda params body scope lpos] X.env := by rfl) (hs2 : starEach [e2, .Lambda params body scope lpos] X.env = (false, eval e2 X.env) :: starEach [.Lambda params body scope lpos] X.env := by rfl)
    (hpl : (backTo pos (starEach [e2, .Lambda params body scope lpos] X.env)).any (·.1) = false := by rfl) (hdb : (x == ("__debug__" : Str)) = false := by decide) :
    PE X (.Call (.Name x p) [e1, e2, .Lambda params body scope lpos] [] pos) (tLam3 T (X.env.qual ++ "<lambda>") js ta tb R) := by
  refine ⟨fun pins s σ H Q I h => ?_⟩
  refine wpAny_Call_Name_kw (ld_glob I hg hm ?_ hdb)
  refine PySem.W.callWith_K (h₀ := X.base) I.ok.mod.kin Fg.kp ?_ hs1 hpl
  rw [hs1, hs2]
  show wpAny _ _ (spliced ((false, eval e1 X.env) :: (false, eval e2 X.env) :: (false, eval (.Lambda params body scope lpos) X.env) :: backTo pos (starEach [] X.env))) _ _ s
  refine Calls.spliced_cons (thn (ha.run pins s σ H _ I h) fun u1 s1 ⟨v1, H1, I1, r1, h⟩ => ?_)
  refine Calls.spliced_cons (thn (hb2.run pins s1 σ H1 _ I1 h) fun u2 s2 ⟨v2, H2, I2, r2, hT, h⟩ => ?_)
  have hf : ∀ y ∈ scope.names, y.2 = .free → ∃ c, X.env.cells.lookup y.1 = some c := fun y hy e => (hfree y hy e).elim (fun z => I2.ok.has _ (.inl z)) fun z => I2.ok.has _ (.inr z)
  refine Calls.spliced_cons (lam_make2 I2 TB hcode hmT hu hT hdef hf fun f c' pm' ctv H3 s' I3 eN T3 hfo hf0 hfrn hco => ?_)
  refine Calls.spliced_nil ⟨I3.kIn, ?_⟩
  have Cp : Caps X (cloFrom X.env.cells scope.names []) fr js := Caps.made I3.ok hfree hfr hjs
  have L : LamIn s' H3 X.stack (lamF X params scope c') params body f fr (js.map (slotAt σ)) := ⟨⟨pm', ctv, hfo⟩, hf0, hfrn, cells_of I3 Cp, fun y c0 e z => by
    have e2 := Cp.sub y c0 e
    rcases List.mem_cons.mp (I3.stkSub _ z) with e3 | e3
    · exact I3.cne y c0 e2 e3
    · obtain ⟨_, o, ho, _⟩ := I3.ok.funs.mem e3
      exact absurd (Nat.lt_of_lt_of_le (Heap.lt_size ho) (I3.ok.cab y c0 (hfn y) e2)) (Nat.lt_irrefl _)⟩
  obtain ⟨oc, od, kV, doc, pm, an, cdv, ct, osl, rfl, lk, hcd⟩ := Fg.ex
  have rc : codeAny (model X.prog X.w) X.A (.call (.ref g) ⟨[u1, u2, .ref f], []⟩) (CR L2.CX0 X.stack X.prog X.w H3 s' Q L2.E0) s' := by
    refine run_ofS (N := Ng) (ps := [a, b, d]) (us := [u1, u2, .ref f]) (vs := [v1, v2, .ref f]) lk hcd Sg hr I3.env0 (by have := hb s' [u1, u2, .ref f] I3.kIn rfl; exact this) (.cons r1 (.cons r2 (.cons rfl .nil))) rfl fun hr' => ?_
    obtain ⟨t', ht', hq'⟩ := hG f c' s' H3 v1 v2 _ Q cdv L hco hr' (h f c' H3 eN T3 hco)
    exact ⟨t', ht'.nox, hq'⟩
  refine wpAny_call (codeAny_mono rc fun r s2 hq => ?_)
  cases r with
  | error e => exact (show False from hq).elim
  | ok fl =>
    cases fl with
    | ret u => exact I3.after hq
    | next => exact False.elim hq
    | brk => exact False.elim hq
    | cont => exact False.elim hq
end K54
end
/-! ## T8 -/
section
set_option Elab.async false
set_option linter.all false
set_option maxRecDepth 100000
set_option maxHeartbeats 4000000
namespace K54
open PySem PySem.Spec PyProof.Rows L2
open MT (Tie ties Fits WS WI endW nextT bAt hAt hsOf wstep walk w0)
theorem upd_at {H : Hp} {a b : Addr} {o x : HO} (h : H a = some x) (n : a ≠ b) : upd H b o a = some x := (upd_ne n).trans h
theorem TupsAt.upd {H : Hp} {us : List Addr} {ts : List Tie} {D : Addr} {xs : List V} {o : HO} (h : TupsAt H us ts) (d : H D = some (.lst xs)) : TupsAt (L2.upd H D o) us ts :=
  ⟨h.len, fun i q t a b => upd_at (h.at_ i q t a b) (fun z => by
    have := h.at_ i q t a b
    rw [z, d] at this
    cases this)⟩
abbrev hV (l : List Int) : List V := l.map V.int
theorem hV_at {l : List Int} {h : Nat} (hh : h < l.length) : (hV l)[h]? = some (.int (hAt l h)) := by
  unfold hAt
  rw [List.getElem?_map, List.getElem?_eq_getElem hh]
  simp [List.getD, List.getElem?_eq_getElem hh]
theorem ixN_nat {n h : Nat} (hh : h < n) : ixN n (h : Int) = some h := by
  unfold ixN
  rw [if_pos (by omega), if_pos (by omega)]
  rfl
theorem blV_len (l : List Bool) : (blV l).length = l.length := List.length_map _
section
variable {P : Program} {w : World} {K : PySem.W.Frag} {mg : Str → Option Value} {base : Heap}
/-- what a lambda at f makes of its three arguments: f stands in the third slot -/
abbrev Nw : List Str := ["web", "base", "burns", "ties", "marks", "heat", "looked", "lit", "at", "house"]
theorem walked_gives {g fT fN : Addr} {fdT fdN : FuncData} {k : Nat} {cdg : Value} {A : Around} {outer : List Env} {s : Shared} {H : Hp} (M : Mg mg)
    (FT : Fun K "ties_of" "ties_of" sTiesOf fT fdT) (bT : Binds K fdT ["web"] []) (gT : mg "ties_of" = some (.ref fT))
    (FN : Fun K "next_tie" "next_tie" sNextTie fN fdN) (bN : Binds K fdN ["ties", "looked", "marks"] []) (gN : mg "next_tie" = some (.ref fN))
    (hr : Room (k + 1) (A.deeper (envOfC "walked" (defScope sWalked) s.heap.objs.size g cdg)))
    {f c' : Addr} {q : Str} {tl : List V → Hp → VK → Prop} {B : Nat → Nat → Int → Bool} {a : Addr} {n b : Nat} {m : Nat → Nat → Nat} {Q : VK}
    (hact : ∀ {e1 e2 e3 : Expr} {t : TA} {p1 p2 : Pos}, PA (cxOf CX0 P w K mg base Nw "walked" (defScope sWalked) g cdg A outer s H E0).nox [e1, e2, e3] t →
      (starEach [e1, e2, e3] (envOfC "walked" (defScope sWalked) s.heap.objs.size g cdg) = (false, eval e1 (envOfC "walked" (defScope sWalked) s.heap.objs.size g cdg)) :: starEach [e2, e3] (envOfC "walked" (defScope sWalked) s.heap.objs.size g cdg)) →
      ((backTo p2 (starEach [e2, e3] (envOfC "walked" (defScope sWalked) s.heap.objs.size g cdg))).any (·.1) = false) →
      PE (cxOf CX0 P w K mg base Nw "walked" (defScope sWalked) g cdg A outer s H E0).nox (.Call (.Name "burns" p1) [e1, e2, e3] [] p2)
        (fun σ H' Q => σ[2]? = some (some (.ref f)) ∧ t σ H' fun vs H1 => vs.length = 3 ∧ H1 c' = some (LamX.CodeO c' q) ∧ tl vs H1 Q))
    (hc : H c' = some (LamX.CodeO c' q))
    (htl : ∀ (i h : Nat) (c : Int) (H1 : Hp) (Q : VK), Same H H1 → i < (ties n m).length → h < n → Q (.bl (B i h c)) H1 → tl [.int (i : Nat), .int (h : Nat), .int c] H1 Q)
    (hW : WebAt K H a n m) (S : Small n m) (hb : b < n)
    (q : ∀ H' p lp hp, Same H H' → H p = none → H' p = some (.tup [.ref lp, .ref hp]) → H' lp = some (.lst (nV (endW n m b B).lit)) → H' hp = some (.lst (hV (endW n m b B).ht)) → Q (.ref p) H') :
    ∃ t, PSs (cxOf CX0 P w K mg base Nw "walked" (defScope sWalked) g cdg A outer s H E0).nox (defBody sWalked) t ∧ t { nx := fun _ H' => Q .non H', rt := Q } (start Nw [.ref a, .int (b : Nat), .ref f]) H := by
  have GT : FnOk P w K mg base CX0 (k + 1) fT fdT ["web"] (spTiesOf K) := ok_tiesOf FT M
  have GN : FnOk P w K mg base CX0 (k + 1) fN fdN ["ties", "looked", "marks"] (spNextTie K) := ok_nextTie FN M
  refine ⟨_, pss_cons (ps_set (i := 3) scWalked.nd rfl (.inl rfl) (pe_call GT hr (by rfl) gT FT.kp bT .nil pass0 (pa_cons (pv 0) pa_nil)))
    (pss_cons (ps_setLc (i := 4) (own := [("house", 9)]) (g := gName 9) (tt := tYes) (te := tOp rEq (tVar 9) (tVar 1)) rfl scWalked.nd rfl rfl (sw_true rfl rfl rfl (by decide +kernel)) (pi_range1 rfl M.range (pa_cons (pe_callB (lenS K) (by rfl) M.len PySem.boot_len (pa_cons (pv 0) pa_nil)) pa_nil))
      (blkOk_by (N := Nw) (sc := defScope sWalked) (by decide +kernel)) (fun _ _ _ _ _ => pg_name (i := 9) scWalked.nd rfl (Or.inl rfl)) (fun _ _ _ _ _ => pts_nil) (fun _ _ _ _ _ => pe_cmpR op_eq (pv 9) (pv 1) (nomark _)))
    (pss_cons (ps_set (i := 5) scWalked.nd rfl (.inl rfl) (pe_op op_rep (pe_lst (pa_cons pe_int pa_nil)) (pe_callB (lenS K) (by rfl) M.len PySem.boot_len (pa_cons (pv 0) pa_nil))))
    (pss_cons (ps_set (i := 6) scWalked.nd rfl (.inl rfl) (pe_lst pa_nil))
    (pss_cons (ps_set (i := 7) scWalked.nd rfl (.inl rfl) (pe_lst pa_nil))
    (pss_cons (ps_set (i := 8) scWalked.nd rfl (.inl rfl) (pe_call GN hr (by rfl) gN FN.kp bN .nil pass0 (pa_cons (pv 3) (pa_cons (pv 6) (pa_cons (pv 4) pa_nil)))))
    (pss_cons (ps_while PassesOwn.never (pt_cmpR op_notN (pv 8) pe_non (nomark _))
      (pss_cons (ps_expr (pe_bm PySem.F.plainAttrs_list PySem.F.slot_list_append PySem.F.type_list_append mt_append (pv 6) (pa_cons (pv 8) pa_nil)))
      (pss_cons (ps_set (i := 9) scWalked.nd rfl (.inl rfl) (pe_ix (ixt K) (pe_ix (ixl K) (pv 3) (pv 8) (fun _ _ => rfl)) pe_int (fun _ _ => rfl)))
      (pss_cons (ps_if (pt_truth (pe_ix (ixl K) (pv 4) (pv 9) (fun _ _ => rfl)) (fun _ => rfl)) (pss_one (ps_set (i := 9) scWalked.nd rfl (.inl rfl) (pe_ix (ixt K) (pe_ix (ixl K) (pv 3) (pv 8) (fun _ _ => rfl)) pe_int (fun _ _ => rfl)))) pss_nil)
      (pss_cons (ps_augS (pv 5) (pv 9) (pgetL K) pe_int ip_add set_list)
      (pss_cons (ps_if (pt_truth (hact (pa_cons (pv 8) (pa_cons (pv 9) (pa_cons (pe_ix (ixl K) (pv 5) (pv 9) (fun _ _ => rfl)) pa_nil))) (by rfl) (by rfl)) (fun _ => rfl))
        (pss_cons (ps_asg pe_bl (pg_sub (pv 4) (pv 9) set_list))
        (pss_one (ps_expr (pe_bm PySem.F.plainAttrs_list PySem.F.slot_list_append PySem.F.type_list_append mt_append (pv 7) (pa_cons (pv 8) pa_nil))))) pss_nil)
      (pss_one (ps_set (i := 8) scWalked.nd rfl (.inl rfl) (pe_call GN hr (by rfl) gN FN.kp bN .nil pass0 (pa_cons (pv 3) (pa_cons (pv 6) (pa_cons (pv 4) pa_nil))))))))))))
    (pss_one (ps_ret (pe_tup (pa_cons (pv 7) (pa_cons (pv 5) pa_nil))))))))))), ?_⟩
  obtain ⟨xs, hX, hXl⟩ := hW.tup
  have n7 := S.n7
  have ht1000 := len_ties S
  have hle : (MT.eds n m).length = (ties n m).length := List.length_map _
  have hf : Fits (MT.eds n m) n := MT.fits_eds n m
  refine ⟨.ref a, rfl, a, n, m, rfl, hW, S, fun H1 p qs s1 n1 d1 t1 => ?_⟩
  have hq := t1.len
  refine ⟨.ref a, rfl, a, xs, rfl, .inr (seqT_of s1 hX), (n : Nat), by rw [hXl], by omega, by omega, fun mk hmk => ?_⟩
  rw [show ((n : Int)).toNat = n from rfl]
  have npm : p ≠ mk := ne_of_none d1 hmk
  refine lc_range (lo := 0) (n := n) (fun i H2 => Same H1 H2 ∧ H2 mk = some (.lst (blV ((List.range i).map fun h => decide (h = b))))) ⟨same_upd hmk, upd_same⟩ (fun i H2 hi hp2 => ?_) (fun H2 hp2 => ?_)
  · obtain ⟨s2, d2⟩ := hp2
    refine ⟨rfl, .int (0 + (i : Nat)), rfl, .int (b : Nat), rfl, rfl, _, d2, ?_, same_but s2 hmk, ?_⟩
    · rw [blV_len, List.length_map, List.length_range]
      exact line_lt (by omega)
    · have e : decide (V.int (0 + (i : Nat)) = V.int (b : Nat)) = decide (i = b) := by
        rw [dec_intV]
        by_cases z : i = b
        · rw [decide_eq_true z, decide_eq_true (by omega)]
        · rw [decide_eq_false z, decide_eq_false (by omega)]
      rw [upd_same, e, List.range_succ, List.map_append]
      unfold blV
      rw [List.map_append]
      rfl
  obtain ⟨s2, d2⟩ := hp2
  refine ⟨line_le (show 1 ≤ 100000 by decide), fun l hl => ?_⟩
  have sl := same_upd (o := .lst [V.int 0]) hl
  refine ⟨.ref a, rfl, a, xs, rfl, .inr (seqT_of (s1.trans (s2.trans sl)) hX), l, (xs.length : Nat), [.int 0], rfl, rfl, upd_same, by omega, by omega, line_le (by rw [hXl]; simp; omega), fun ht hht => ?_⟩
  have eht : (List.replicate ((xs.length : Nat) : Int).toNat [V.int 0]).flatten = hV (List.replicate n 0) := by
    rw [hXl, List.flatten_replicate_singleton]
    show List.replicate n (V.int 0) = List.map V.int (List.replicate n 0)
    rw [List.map_replicate]
  rw [eht]
  have s3 := same_upd (o := .lst (hV (List.replicate n 0))) hht
  have d2' : (L2.upd H2 l (.lst [V.int 0])) mk = some _ := sl _ _ d2
  have nmh : mk ≠ ht := ne_of_none d2' hht
  have d1' : (L2.upd H2 l (.lst [V.int 0])) p = some _ := sl _ _ (s2 _ _ d1)
  have nph : p ≠ ht := ne_of_none d1' hht
  have d1'' := s3 _ _ d1'
  have d2'' := s3 _ _ d2'
  refine ⟨Nat.zero_le _, fun lk hlk => ?_⟩
  have s4 := same_upd (o := .lst []) hlk
  have npk : p ≠ lk := ne_of_none d1'' hlk
  have nmk : mk ≠ lk := ne_of_none d2'' hlk
  have nhk : ht ≠ lk := ne_of_none (upd_same (H := L2.upd H2 l (.lst [V.int 0]))) hlk
  have d1a := s4 _ _ d1''
  have d2a := s4 _ _ d2''
  have d3a := s4 _ _ (upd_same (a := ht) (o := .lst (hV (List.replicate n 0))))
  refine ⟨Nat.zero_le _, fun lt hlt => ?_⟩
  have s5 := same_upd (o := .lst []) hlt
  have npt : p ≠ lt := ne_of_none d1a hlt
  have nmt : mk ≠ lt := ne_of_none d2a hlt
  have nht2 : ht ≠ lt := ne_of_none d3a hlt
  have nkt : lk ≠ lt := ne_of_none upd_same hlt
  have d1b := s5 _ _ d1a
  have d2b := s5 _ _ d2a
  have d3b := s5 _ _ d3a
  have d4b := s5 _ _ (upd_same (a := lk) (o := .lst []))
  have sAll : Same H1 _ := s2.trans (sl.trans (s3.trans (s4.trans s5)))
  have bnd : ∀ t ∈ ties n m, t.1 < n ∧ t.2.1 < n := fun t ht => hf (MT.edge t) (List.mem_map.mpr ⟨t, ht, rfl⟩)
  have w0I := MT.w0_inv (MT.eds n m) n b hb
  have mbb : ∀ {S' : WS}, S'.mb.length = n → ∀ t ∈ ties n m, t.1 < S'.mb.length ∧ t.2.1 < S'.mb.length := fun {S'} e t ht => by rw [e]; exact bnd t ht
  refine ⟨.ref p, rfl, .ref lk, rfl, .ref mk, rfl, p, lk, mk, qs, ties n m, (w0 n b).lk, (w0 n b).mb, rfl, SqL.of d1b, t1.same sAll, ht1000, SqL.of d4b, SqL.of d2b, mbb w0I.lm, ?_⟩
  -- the loop
  let J : Nat → L2.St → Hp → Prop := fun r σ H' => ∃ (y9 : Option V) (S' : WS), σ = [some (.ref a), some (.int (b : Nat)), some (.ref f), some (.ref p), some (.ref mk), some (.ref ht), some (.ref lk), some (.ref lt), some (optV (nextT (MT.eds n m) S'.lk S'.mb)), y9] ∧
    Same H1 H' ∧ H' mk = some (.lst (blV S'.mb)) ∧ H' ht = some (.lst (hV S'.ht)) ∧ H' lk = some (.lst (nV S'.lk)) ∧ H' lt = some (.lst (nV S'.lit)) ∧ WI (MT.eds n m) n b S' ∧ walk (MT.eds n m) B r S' = endW n m b B ∧ (MT.eds n m).length < r + S'.lk.length
  refine ⟨J, ⟨(MT.eds n m).length + 1, none, w0 n b, rfl, sAll, d2b, d3b, d4b, upd_same, w0I, rfl, by show _ < _ + 1 + [].length; simp⟩, fun r σ H' hJ => ?_⟩
  obtain ⟨y9, S', rfl, sH, e1, e2, e3, e4, I, hwk, hfuel⟩ := hJ
  have hlkn : ∀ kk, nextT (MT.eds n m) S'.lk S'.mb = some kk → S'.lk.length ≤ (MT.eds n m).length := fun _ _ => MT.nodup_len _ _ I.nd I.lt
  cases hn : nextT (MT.eds n m) S'.lk S'.mb with
  | none =>
    refine ⟨.non, rfl, rfl, _, rfl, iteF ?_⟩
    rw [MT.walk_none hn] at hwk
    subst hwk
    refine ⟨.ref lt, rfl, .ref ht, rfl, line_le (show 2 ≤ 100000 by decide), fun T hT => ?_⟩
    have sT := same_upd (o := .tup [V.ref lt, V.ref ht]) hT
    exact q _ T lt ht (s1.trans (sH.trans sT)) ((s1.trans sH).free hT) upd_same (sT _ _ e4) (sT _ _ e2)
  | some kk =>
    have hlq := hlkn kk hn
    cases r with
    | zero => omega
    | succ r =>
      rw [MT.walk_some hn] at hwk
      refine ⟨.int (kk : Nat), rfl, rfl, _, rfl, iteT ⟨J r, fun σ' H'' h => ⟨r, by omega, h⟩, ?_⟩⟩
      obtain ⟨k1, k2, k3⟩ := MT.nextT_some hn
      have k1' : kk < (ties n m).length := by rw [← hle]; exact k1
      obtain ⟨f1, f2, _, _, _, _⟩ := MT.hs_facts (base := b) hf I.lm hn
      have et : (ties n m)[kk]? = some (ties n m)[kk] := List.getElem?_eq_getElem k1'
      have eq : qs[kk]? = some (qs[kk]'(by omega)) := List.getElem?_eq_getElem (by omega)
      have hTk := t1.at_ kk _ _ eq et
      have eg1 : MT.eg (MT.eds n m) kk = ((ties n m)[kk].1, (ties n m)[kk].2.1) := eg_of et
      have hfk := bnd _ (List.getElem_mem k1')
      have hix : atI (qs.map V.ref) ((kk : Nat) : Int) = some (.ref (qs[kk]'(by omega))) := atI_nat (by rw [List.getElem?_map, eq]; rfl)
      have I1 := I.step (B := B) hf hn
      have nlk : H1 lk = none := (s2.trans (sl.trans s3)).free hlk
      have nlt : H1 lt = none := (s2.trans (sl.trans (s3.trans s4))).free hlt
      have nht : H1 ht = none := (s2.trans sl).free hht
      -- looked.append(at)
      have sA : Same H1 (L2.upd H' lk (.lst (nV S'.lk ++ [V.int (kk : Nat)]))) := same_but sH nlk
      have eA1 := upd_at (o := .lst (nV S'.lk ++ [V.int (kk : Nat)])) e1 nmk
      have eA2 := upd_at (o := .lst (nV S'.lk ++ [V.int (kk : Nat)])) e2 nhk
      have eA4 := upd_at (o := .lst (nV S'.lk ++ [V.int (kk : Nat)])) e4 nkt.symm
      refine ⟨.ref lk, rfl, .inl ⟨rfl, _, SqL.of e3⟩, .int (kk : Nat), rfl, lk, nV S'.lk, .int (kk : Nat), rfl, rfl, e3, by rw [nV_len]; exact line_lt (by omega), ?_⟩
      -- house = ties[at][0]
      obtain ⟨t0, ht0⟩ : ∃ t0, t0 = (ties n m)[kk].1 := ⟨_, rfl⟩
      obtain ⟨hs, hhs⟩ : ∃ hs, hs = hsOf (MT.eds n m) S'.mb kk := ⟨_, rfl⟩
      have hs1 : (if bAt S'.mb t0 = true then (ties n m)[kk].2.1 else t0) = hs := by
        rw [hhs, ht0]
        unfold MT.hsOf
        rw [eg1]
      rw [← hhs] at f1 f2
      have t0n : t0 < n := by rw [ht0]; exact hfk.1
      refine ⟨.ref p, rfl, .int (kk : Nat), rfl, p, _, _, _, rfl, rfl, SqL.of (sA _ _ d1), hix, _, _, _, V.int (t0 : Nat), rfl, rfl, SqT.of (sA _ _ hTk), (by rw [ht0]; exact atI_nat (j := 0) rfl), ?_⟩
      refine ⟨.ref mk, rfl, .int (t0 : Nat), rfl, mk, blV S'.mb, _, _, rfl, rfl, SqL.of eA1, blV_at (by rw [I.lm]; exact t0n), _, rfl, ?_⟩
      have hmS : hs < S'.mb.length := by rw [I.lm]; exact f1
      have hhS : hs < S'.ht.length := by rw [I.lh]; exact f1
      have w1 : (wstep (MT.eds n m) B S' kk).mb = if B kk hs (hAt S'.ht hs + 1) = true then S'.mb.set hs true else S'.mb := by rw [hhs]; rfl
      have w2 : (wstep (MT.eds n m) B S' kk).ht = S'.ht.set hs (hAt S'.ht hs + 1) := by rw [hhs]; rfl
      have w3 : (wstep (MT.eds n m) B S' kk).lk = S'.lk ++ [kk] := rfl
      have w4 : (wstep (MT.eds n m) B S' kk).lit = if B kk hs (hAt S'.ht hs + 1) = true then S'.lit ++ [kk] else S'.lit := by rw [hhs]; rfl
      have llit : S'.lit.length ≤ (MT.eds n m).length := MT.nodup_len _ _ I.lnd fun k hk => I.lt k (I.lsub k hk)
      have eA3 : (L2.upd H' lk (.lst (nV S'.lk ++ [V.int (kk : Nat)]))) lk = some (.lst (nV (wstep (MT.eds n m) B S' kk).lk)) := by
        rw [upd_same, w3, nV_append]
        rfl
      generalize L2.upd H' lk (.lst (nV S'.lk ++ [V.int (kk : Nat)])) = HA at *
      have vset : (hV S'.ht).set hs (.int (hAt S'.ht hs + 1)) = hV (wstep (MT.eds n m) B S' kk).ht := by
        rw [w2]
        exact (List.map_set ..).symm
      have sB : Same H1 (L2.upd HA ht (.lst ((hV S'.ht).set hs (.int (hAt S'.ht hs + 1))))) := same_but sA nht
      have eB1 := upd_at (o := .lst ((hV S'.ht).set hs (.int (hAt S'.ht hs + 1)))) eA1 nmh
      have eB3 := upd_at (o := .lst ((hV S'.ht).set hs (.int (hAt S'.ht hs + 1)))) eA3 nhk.symm
      have eB4 := upd_at (o := .lst ((hV S'.ht).set hs (.int (hAt S'.ht hs + 1)))) eA4 nht2.symm
      have eB2 : (L2.upd HA ht (.lst ((hV S'.ht).set hs (.int (hAt S'.ht hs + 1))))) ht = some (.lst (hV (wstep (MT.eds n m) B S' kk).ht)) := by rw [upd_same, vset]
      have eBat : atI ((hV S'.ht).set hs (.int (hAt S'.ht hs + 1))) ((hs : Nat) : Int) = some (.int (hAt S'.ht hs + 1)) := atI_nat (List.getElem?_set_self (by rw [List.length_map]; exact hhS))
      have eBh : (L2.upd HA ht (.lst ((hV S'.ht).set hs (.int (hAt S'.ht hs + 1))))) ht = some (.lst ((hV S'.ht).set hs (.int (hAt S'.ht hs + 1)))) := upd_same
      have fuel : (MT.eds n m).length < r + (wstep (MT.eds n m) B S' kk).lk.length := by
        rw [w3, List.length_append]
        show _ < r + (S'.lk.length + 1)
        omega
      refine ite2 (fun e => ?_) (fun e => ?_)
      · rw [if_pos e] at hs1
        refine ⟨.ref p, rfl, .int (kk : Nat), rfl, p, _, _, _, rfl, rfl, SqL.of (sA _ _ d1), hix, _, _, _, V.int (hs : Nat), rfl, rfl, SqT.of (sA _ _ hTk), (by rw [← hs1]; exact atI_nat (j := 1) rfl), ?_⟩
        refine ⟨.ref ht, rfl, .int (hs : Nat), rfl, ht, hV S'.ht, hs, _, rfl, rfl, SqL.of eA2, hV_at hhS, _, _, rfl, rfl, ht, hV S'.ht, _, hs, rfl, rfl, eA2, ixN_nat (by rw [List.length_map]; exact hhS), ?_⟩
        refine ⟨rfl, .int (kk : Nat), rfl, .int (hs : Nat), rfl, .ref ht, rfl, .int (hs : Nat), rfl, ht, _, _, _, rfl, rfl, SqL.of eBh, eBat, rfl, sB _ _ (s1 _ _ hc), ?_⟩
        refine htl kk hs (hAt S'.ht hs + 1) _ _ (s1.trans sB) k1' f1 ⟨_, rfl, ite2 (fun e2 => ?_) (fun e2 => ?_)⟩
        · rw [if_pos e2] at w1 w4
          have vb : (blV S'.mb).set hs (.bl true) = blV (wstep (MT.eds n m) B S' kk).mb := by
            rw [w1]
            exact (List.map_set ..).symm
          refine ⟨.ref mk, rfl, .int (hs : Nat), rfl, mk, blV S'.mb, _, hs, rfl, rfl, eB1, ixN_nat (by rw [blV_len]; exact hmS), ?_⟩
          rw [vb]
          have sC := same_but (o := .lst (blV (wstep (MT.eds n m) B S' kk).mb)) sB hmk
          have eC4 := upd_at (o := .lst (blV (wstep (MT.eds n m) B S' kk).mb)) eB4 nmt.symm
          have eC3 := upd_at (o := .lst (blV (wstep (MT.eds n m) B S' kk).mb)) eB3 nmk.symm
          have eC2 := upd_at (o := .lst (blV (wstep (MT.eds n m) B S' kk).mb)) eB2 nmh.symm
          refine ⟨.ref lt, rfl, .inl ⟨rfl, _, SqL.of eC4⟩, .int (kk : Nat), rfl, lt, nV S'.lit, .int (kk : Nat), rfl, rfl, eC4, by rw [nV_len]; exact line_lt (by omega), ?_⟩
          have vl : nV S'.lit ++ [V.int (kk : Nat)] = nV (wstep (MT.eds n m) B S' kk).lit := by rw [w4, nV_append]; rfl
          rw [vl]
          have sD := same_but (o := .lst (nV (wstep (MT.eds n m) B S' kk).lit)) sC nlt
          have eD1 := upd_at (o := .lst (nV (wstep (MT.eds n m) B S' kk).lit)) (upd_same (H := L2.upd HA ht (.lst ((hV S'.ht).set hs (.int (hAt S'.ht hs + 1))))) (a := mk) (o := .lst (blV (wstep (MT.eds n m) B S' kk).mb))) nmt
          have eD2 := upd_at (o := .lst (nV (wstep (MT.eds n m) B S' kk).lit)) eC2 nht2
          have eD3 := upd_at (o := .lst (nV (wstep (MT.eds n m) B S' kk).lit)) eC3 nkt
          exact ⟨.ref p, rfl, .ref lk, rfl, .ref mk, rfl, p, lk, mk, qs, ties n m, (wstep (MT.eds n m) B S' kk).lk, (wstep (MT.eds n m) B S' kk).mb, rfl, SqL.of (sD _ _ d1), t1.same sD, ht1000, SqL.of eD3, SqL.of eD1, mbb I1.lm,
            _, wstep (MT.eds n m) B S' kk, rfl, sD, eD1, eD2, eD3, upd_same, I1, hwk, fuel⟩
        · rw [if_neg e2] at w1 w4
          rw [← w1] at eB1
          rw [← w4] at eB4
          exact ⟨.ref p, rfl, .ref lk, rfl, .ref mk, rfl, p, lk, mk, qs, ties n m, (wstep (MT.eds n m) B S' kk).lk, (wstep (MT.eds n m) B S' kk).mb, rfl, SqL.of (sB _ _ d1), t1.same sB, ht1000, SqL.of eB3, SqL.of eB1, mbb I1.lm,
            _, wstep (MT.eds n m) B S' kk, rfl, sB, eB1, eB2, eB3, eB4, I1, hwk, fuel⟩
      · rw [if_neg e] at hs1
        obtain rfl : hs = t0 := hs1.symm
        refine ⟨.ref ht, rfl, .int (hs : Nat), rfl, ht, hV S'.ht, hs, _, rfl, rfl, SqL.of eA2, hV_at hhS, _, _, rfl, rfl, ht, hV S'.ht, _, hs, rfl, rfl, eA2, ixN_nat (by rw [List.length_map]; exact hhS), ?_⟩
        refine ⟨rfl, .int (kk : Nat), rfl, .int (hs : Nat), rfl, .ref ht, rfl, .int (hs : Nat), rfl, ht, _, _, _, rfl, rfl, SqL.of eBh, eBat, rfl, sB _ _ (s1 _ _ hc), ?_⟩
        refine htl kk hs (hAt S'.ht hs + 1) _ _ (s1.trans sB) k1' f1 ⟨_, rfl, ite2 (fun e2 => ?_) (fun e2 => ?_)⟩
        · rw [if_pos e2] at w1 w4
          have vb : (blV S'.mb).set hs (.bl true) = blV (wstep (MT.eds n m) B S' kk).mb := by
            rw [w1]
            exact (List.map_set ..).symm
          refine ⟨.ref mk, rfl, .int (hs : Nat), rfl, mk, blV S'.mb, _, hs, rfl, rfl, eB1, ixN_nat (by rw [blV_len]; exact hmS), ?_⟩
          rw [vb]
          have sC := same_but (o := .lst (blV (wstep (MT.eds n m) B S' kk).mb)) sB hmk
          have eC4 := upd_at (o := .lst (blV (wstep (MT.eds n m) B S' kk).mb)) eB4 nmt.symm
          have eC3 := upd_at (o := .lst (blV (wstep (MT.eds n m) B S' kk).mb)) eB3 nmk.symm
          have eC2 := upd_at (o := .lst (blV (wstep (MT.eds n m) B S' kk).mb)) eB2 nmh.symm
          refine ⟨.ref lt, rfl, .inl ⟨rfl, _, SqL.of eC4⟩, .int (kk : Nat), rfl, lt, nV S'.lit, .int (kk : Nat), rfl, rfl, eC4, by rw [nV_len]; exact line_lt (by omega), ?_⟩
          have vl : nV S'.lit ++ [V.int (kk : Nat)] = nV (wstep (MT.eds n m) B S' kk).lit := by rw [w4, nV_append]; rfl
          rw [vl]
          have sD := same_but (o := .lst (nV (wstep (MT.eds n m) B S' kk).lit)) sC nlt
          have eD1 := upd_at (o := .lst (nV (wstep (MT.eds n m) B S' kk).lit)) (upd_same (H := L2.upd HA ht (.lst ((hV S'.ht).set hs (.int (hAt S'.ht hs + 1))))) (a := mk) (o := .lst (blV (wstep (MT.eds n m) B S' kk).mb))) nmt
          have eD2 := upd_at (o := .lst (nV (wstep (MT.eds n m) B S' kk).lit)) eC2 nht2
          have eD3 := upd_at (o := .lst (nV (wstep (MT.eds n m) B S' kk).lit)) eC3 nkt
          exact ⟨.ref p, rfl, .ref lk, rfl, .ref mk, rfl, p, lk, mk, qs, ties n m, (wstep (MT.eds n m) B S' kk).lk, (wstep (MT.eds n m) B S' kk).mb, rfl, SqL.of (sD _ _ d1), t1.same sD, ht1000, SqL.of eD3, SqL.of eD1, mbb I1.lm,
            _, wstep (MT.eds n m) B S' kk, rfl, sD, eD1, eD2, eD3, upd_same, I1, hwk, fuel⟩
        · rw [if_neg e2] at w1 w4
          rw [← w1] at eB1
          rw [← w4] at eB4
          exact ⟨.ref p, rfl, .ref lk, rfl, .ref mk, rfl, p, lk, mk, qs, ties n m, (wstep (MT.eds n m) B S' kk).lk, (wstep (MT.eds n m) B S' kk).mb, rfl, SqL.of (sB _ _ d1), t1.same sB, ht1000, SqL.of eB3, SqL.of eB1, mbb I1.lm,
            _, wstep (MT.eds n m) B S' kk, rfl, sB, eB1, eB2, eB3, eB4, I1, hwk, fuel⟩
end
end K54
end
/-! ## T9 -/
section
set_option Elab.async false
set_option linter.all false
set_option maxRecDepth 100000
set_option maxHeartbeats 4000000
namespace K54
open PySem PySem.Spec PyProof.Rows L2 LamX NdefX
open MT (Tie ties Fits WS WI endW nextT bAt hAt hsOf wstep walk w0 Web Tr pur BP BT ChkOk)
/-! ### heaps whose tables grow -/
theorem seqL_ofN {K : PySem.W.Frag} {H H' : Hp} {a : Addr} {xs : List V} (e : ExtN H H') (h : SqL K H a xs) : SqL K H' a xs := by
  rcases h with (h | ⟨o, h⟩) | h
  · exact .inl (.inl (e _ _ h (fun ps z => by cases z)))
  · exact .inl (.inr ⟨o, e _ _ h (fun ps z => by cases z)⟩)
  · exact .inr h
theorem seqT_ofN {K : PySem.W.Frag} {H H' : Hp} {a : Addr} {xs : List V} (e : ExtN H H') (h : SqT K H a xs) : SqT K H' a xs := by
  rcases h with (h | ⟨o, h⟩) | h
  · exact .inl (.inl (e _ _ h (fun ps z => by cases z)))
  · exact .inl (.inr ⟨o, e _ _ h (fun ps z => by cases z)⟩)
  · exact .inr h
theorem WebAt.ext {K : PySem.W.Frag} {H H' : Hp} {a : Addr} {n : Nat} {w : Nat → Nat → Nat} (h : WebAt K H a n w) (s : ExtN H H') : WebAt K H' a n w := by
  obtain ⟨rs, h1, h2, h3⟩ := h
  exact ⟨rs, seqT_ofN s h1, h2, fun i r e => seqT_ofN s (h3 i r e)⟩
/-! ### the fire of a still purse -/
theorem tieSum_out (m : Nat → Nat → Nat) (n h : Nat) (l : List Nat) (nd : l.Nodup) (lt : ∀ x ∈ l, x < n) : tieSum m h l = MT.outS n m (fun j => !l.contains j) h := by
  induction l with
  | nil =>
    show (0 : Int) = MT.sm n _
    rw [MT.sm_congr (g := fun _ => 0) (fun j _ => by simp), MT.sm_zero]
  | cons x r ih =>
    have nd' := List.nodup_cons.mp nd
    have ih := ih nd'.2 fun y hy => lt y (List.mem_cons_of_mem _ hy)
    have e : MT.outS n m (fun j => !(x :: r).contains j) h = MT.outS n m (fun j => !r.contains j) h + MT.sm n (fun j => if x = j then (m h j : Int) else 0) := by
      unfold MT.outS
      rw [← MT.sm_add]
      refine MT.sm_congr fun j _ => ?_
      by_cases hj : x = j
      · subst hj
        have hx := nd'.1
        simp [hx]
      · have : (x :: r).contains j = r.contains j := by
          rw [List.contains_cons]
          have : (j == x) = false := beq_eq_false_iff_ne.mpr fun z => hj z.symm
          rw [this, Bool.false_or]
        show (if (!(x :: r).contains j) = true then (0 : Int) else (m h j : Int)) = (if (!r.contains j) = true then (0 : Int) else (m h j : Int)) + _
        rw [this, if_neg hj, Int.add_zero]
    rw [e, MT.sm_pick, if_pos (lt x List.mem_cons_self), ← ih]
    show ((m h x : Int) :: r.map fun o => (m h o : Int)).sum = _
    rw [List.sum_cons]
    show (m h x : Int) + tieSum m h r = _
    omega
theorem fire_ok {n b : Nat} {m : Nat → Nat → Nat} {tr : List Nat} {c : Nat → Int} (W : Web n m) (T : Tr n m tr) (hb : b < n) (hp : ∀ h, h < n → h ≠ b → c h = pur n m b tr h) : FireOk n m c b := by
  intro lit nd lt hm hl
  obtain ⟨h0, hh0, hn0⟩ : ∃ h0, h0 < n ∧ h0 ∉ lit := by
    refine Classical.byContradiction fun z => ?_
    have : ∀ x ∈ List.range n, x ∈ lit := fun x hx => Classical.byContradiction fun hx2 => z ⟨x, List.mem_range.mp hx, hx2⟩
    have := nodup_len_le (List.range n) lit List.nodup_range this
    rw [List.length_range] at this
    omega
  have nc : ∀ x, x ∉ lit → lit.contains x = false := fun x hx => by
    cases q : lit.contains x with
    | false => rfl
    | true => exact absurd (List.contains_iff_mem.mp q) hx
  obtain ⟨h, h1, h2, h3, h4⟩ := T.fire W hb (fun j => !lit.contains j) (by
    show (!lit.contains b) = false
    rw [List.contains_iff_mem.mpr hm]; rfl) h0 hh0 (by
    show (!lit.contains h0) = true
    rw [nc _ hn0]; rfl)
  refine ⟨h, h1, fun z => ?_, ?_⟩
  · rw [List.contains_iff_mem.mpr z] at h2
    cases h2
  · rw [hp h h1 h3, tieSum_out m n h lit nd lt]
    exact h4
/-! ### a def of the text with its code object's address -/
structure FunC (K : PySem.W.Frag) (x qual : Str) (st : Stmt) (f : Addr) (fd : FuncData) (c : Addr) : Prop where
  ex : ∃ (oc : Value) (od : Option Addr) (kV doc pm : Value) (an : Option Addr) (ct : Value) (osl : Array (Option Value)),
    fd = PySem.W.fnOf x qual (defArgs st) (defBody st) (defScope st) .none kV doc pm an (.ref c) ct ∧ K.lookup f = some ⟨oc, od, .func fd, osl⟩ ∧ PySem.W.codeIn K (.ref c) qual = true
  kp : PySem.W.keepIn K (.ref f) = true
section
variable {P : Program} {w : World} {K : PySem.W.Frag} {mg : Str → Option Value} {base : Heap}
theorem FunC.to {x qual : Str} {st : Stmt} {f c : Addr} {fd : FuncData} (F : FunC K x qual st f fd c) : Fun K x qual st f fd := by
  obtain ⟨oc, od, kV, doc, pm, an, ct, osl, e, lk, hcd⟩ := F.ex
  exact ⟨⟨oc, od, kV, doc, pm, an, _, ct, osl, e, lk, hcd⟩, F.kp⟩
theorem FunC.ok {x qual : Str} {st : Stmt} {f c : Addr} {fd : FuncData} {N ps : List Str} {k : Nat} {sp : Sp} (F : FunC K x qual st f fd c) (S : FnScope N ps (defScope st)) (len : ∀ vs H Q E, sp vs H Q E → vs.length = ps.length)
    (hbody : ∀ (A : Around) (outer : List Env) (s : Shared) (H : Hp) (vs : List V) (Q : VK) (E : XK), Room k (A.deeper (envOfC qual (defScope st) s.heap.objs.size f (.ref c))) → sp vs H Q E →
      ∃ t, PSs (cxOf CX0 P w K mg base N qual (defScope st) f (.ref c) A outer s H E).nox (defBody st) t ∧ t { nx := fun _ H' => Q .non H', rt := Q } (start N vs) H) : FnOk P w K mg base CX0 (k + 1) f fd ps sp := by
  obtain ⟨oc, od, kV, doc, pm, an, ct, osl, rfl, lk, hcd⟩ := F.ex
  refine fn_of lk hcd S len fun A outer s H vs Q E hr hsp => ?_
  obtain ⟨t, h, q⟩ := hbody A outer s H vs Q E hr hsp
  exact ⟨t, h.nox, q⟩
/-! ### tree_of -/
abbrev lamSc (x : Str) : Scope := { kind := .function, names := [("at", .local), ("house", .local), ("heat", .local), (x, .free)], isGenerator := false, isCoroutine := false }
theorem scLamP : NScope ["at", "house", "heat", "purse"] ["at", "house", "heat"] ["purse"] (lamSc "purse") := nscope_by (by decide +kernel)
theorem scLamT : NScope ["at", "house", "heat", "tree"] ["at", "house", "heat"] ["tree"] (lamSc "tree") := nscope_by (by decide +kernel)
abbrev qTree : Str := "tree_of.<locals>.<lambda>"
abbrev qStill : Str := "still_of.<locals>.<lambda>"
/-- what is known of the defs of the package -/
structure Defs (K : PySem.W.Frag) (mg : Str → Option Value) (fT fN fW fS fB fA fL fC : Addr) (dT dN dW dS dB dA dL dC : FuncData) : Prop where
  T : Fun K "ties_of" "ties_of" sTiesOf fT dT
  bT : Binds K dT ["web"] []
  gT : mg "ties_of" = some (.ref fT)
  N : Fun K "next_tie" "next_tie" sNextTie fN dN
  bN : Binds K dN ["ties", "looked", "marks"] []
  gN : mg "next_tie" = some (.ref fN)
  W : Fun K "walked" "walked" sWalked fW dW
  bW : Binds K dW ["web", "base", "burns"] []
  gW : mg "walked" = some (.ref fW)
  S : Fun K "is_settled" "is_settled" sSettled fS dS
  bS : Binds K dS ["web", "purse", "base"] []
  gS : mg "is_settled" = some (.ref fS)
  B : Fun K "burnt" "burnt" sBurnt fB dB
  bB : Binds K dB ["web", "purse", "base"] []
  gB : mg "burnt" = some (.ref fB)
  A : Fun K "as_one" "as_one" sAsOne fA dA
  bA : Binds K dA ["marks", "one", "other"] []
  gA : mg "as_one" = some (.ref fA)
  L : Fun K "ties_to" "ties_to" sTiesTo fL dL
  bL : Binds K dL ["web", "house", "others"] []
  gL : mg "ties_to" = some (.ref fL)
  C : Fun K "check_tree" "check_tree" sCheckTree fC dC
  bC : Binds K dC ["web", "tree"] []
  gC : mg "check_tree" = some (.ref fC)
def spTreeOf (K : PySem.W.Frag) (T : List (Addr × Str)) : Sp := fun vs H Q _ => ∃ (a u : Addr) (n b : Nat) (m : Nat → Nat → Nat) (c : Nat → Int) (tr : List Nat), vs = [.ref a, .int (b : Nat), .ref u] ∧ WebAt K H a n m ∧ Small n m ∧ Web n m ∧ b < n ∧ SqT K H u (purV n c) ∧ Tr n m tr ∧ (∀ h, h < n → h ≠ b → c h = pur n m b tr h) ∧ Tabs T H ∧
  ∀ H' r, ExtN H H' → Tabs T H' → H' r = some (.tup (nV tr)) → Q (.ref r) H'
theorem tabs_same {T : List (Addr × Str)} {H H' : Hp} (t : Tabs T H) (s : Same H H') : Tabs T H' := t.ext s
theorem ok_treeOf {f g cd Pt : Addr} {fd : FuncData} {k : Nat} {T : List (Addr × Str)} {fT fN fW fS fB fA fL fC : Addr} {dT dN dW dS dB dA dL dC : FuncData} (F : FunC K "tree_of" "tree_of" sTreeOf f fd cd) (M : Mg mg) (D : Defs K mg fT fN fW fS fB fA fL fC dT dN dW dS dB dA dL dC)
    (TB : TabB base mg cd Pt) (hmT : (Pt, qTree) ∈ T) (hu : ∀ p ∈ T, p.1 = Pt → p.2 = qTree) : FnOk P w K mg base CX0 (k + 4) f fd ["web", "base", "purse"] (spTreeOf K T) := by
  have GB : FnOk P w K mg base CX0 (k + 2) fB dB ["web", "purse", "base"] (spBurnt K) := ok_burnt D.B M D.L D.bL D.gL
  have GS : FnOk P w K mg base CX0 (k + 3) fS dS ["web", "purse", "base"] (spSettled K) := ok_settled D.S M D.B D.bB D.gB GB
  refine F.ok scTreeOf (fun vs H Q E h => ?_) (fun A outer s H vs Q E hr h => ?_)
  · obtain ⟨a, u, n, b, m, c, tr, rfl, _⟩ := h
    rfl
  · obtain ⟨a, u, n, b, m, c, tr, rfl, hW, S, W, hb, hU, hTr, hp, hTb, q⟩ := h
    refine ⟨_, pss_cons (ps_if (pt_not (pt_truth (pe_call GS hr (by rfl) D.gS D.S.kp D.bS .nil pass0 (pa_cons (pv 0) (pa_cons (pv 2) (pa_cons (pv 1) pa_nil)))) (fun _ => rfl))) pss_never pss_nil)
      (pss_one (ps_ret (pe_callTy call_tuple_of (by rfl) M.tuple (by decide +kernel) (pa_cons (pe_callB cr_sorted (by rfl) M.sorted (by decide +kernel) (pa_cons (pe_ix (ixt K)
        (pe_lamcall3 (T := T) (k := k + 2) (Ng := Nw) (fr := ["purse"]) (js := [2]) (R := fun v1 v2 ws f c' H Q => v1 = .ref a ∧ v2 = .int (b : Nat) ∧ ws = [some (.ref u)] ∧ WebAt K H a n m ∧ SqT K H u (purV n c) ∧
            ∀ H' p lp hp, Same H H' → H p = none → H' p = some (.tup [.ref lp, .ref hp]) → H' lp = some (.lst (nV (endW n m b (BP c)).lit)) → H' hp = some (.lst (hV (endW n m b (BP c)).ht)) → Q (.ref p) H')
          (by rfl) D.gW D.W D.bW scWalked (fun f c' s H v1 v2 ws Q cdg L hc hr' hR => ?lam) TB rfl hmT hu hr (by rfl) (ndef_free (sc := defScope sTreeOf) (fr := ["purse"]) (by decide +kernel)) (ndef_fr (sc := defScope sTreeOf) (by decide +kernel)) rfl (fun _ => rfl) (pv 0) (pv 1))
        pe_int (fun _ _ => rfl)) pa_nil)) pa_nil)))), ?_⟩
    case lam =>
      obtain ⟨rfl, rfl, rfl, hWl, hUl, ql⟩ := hR
      refine walked_gives (B := BP c) (tl := fun vs H1 Q => tOp (rI0 fun i j => .bl (decide (i < j))) (tOp (rIxT K) (tVar 3) (tVar 1)) (tVar 2) (startF ["at", "house", "heat", "purse"] vs [some (.ref u)]) H1 Q) M D.T D.bT D.gT D.N D.bN D.gN hr'
        (fun ha he hpl => pe_act3 L rfl scLamP (fun pm ctv us hl => match us, hl with | [_, _, _], _ => rfl) hr'
          (fun A outer s H _ => pe_cmpR op_lt (pe_ix (ixt K) (pv 3) (pv 1) (fun _ _ => rfl)) (pv 2) (nomark _)) rfl (.inl rfl) ha (he := he) (hpl := hpl)) hc (fun i h cc H1 Q s1 hi hh q => ?_) hWl S hb ql
      exact ⟨.ref u, rfl, .int (h : Nat), rfl, u, purV n c, _, _, rfl, rfl, seqT_of s1 hUl, purV_at hh, .int cc, rfl, _, _, rfl, rfl, q⟩
    refine ⟨.ref a, rfl, .ref u, rfl, .int (b : Nat), rfl, a, u, n, b, m, c, rfl, hW, hU, hb, S.n7, fire_ok W hTr hb hp, (fun h hh hne => by rw [hp h hh hne]; exact hTr.pur_nn hb hh), fun H1 s1 => ⟨_, rfl, ?_⟩⟩
    refine iteF ⟨.ref a, rfl, .int (b : Nat), rfl, tabs_same hTb s1, fun fl c' H2 e2 T2 hc2 => ⟨rfl, rfl, rfl, (hW.same s1).ext e2, seqT_ofN e2 (seqT_of s1 hU), fun H3 p lp hp2 s3 np dp dl dh => ?_⟩⟩
    have hlock := hTr.lock hb hp
    refine ⟨p, _, _, _, rfl, rfl, SqT.of dp, atI_nat (j := 0) rfl, lp, (endW n m b (BP c)).lit.map (fun k : Nat => ((k : Nat) : Int)), rfl, SqL.of (by rw [dl, nV_ints]), ?_, fun ns' r hperm hsort hr0 => ?_⟩
    · rw [List.length_map, hlock, (hTr.lit hb).length_eq]
      have := hTr.len
      have := S.n7
      omega
    · have hp' : ∃ l : List Nat, ns' = l.map (fun k : Nat => ((k : Nat) : Int)) ∧ l.Perm (endW n m b (BP c)).lit ∧ l.Pairwise (· ≤ ·) := by
        refine ⟨ns'.map Int.toNat, ?_, ?_, ?_⟩
        · rw [List.map_map]
          have : ∀ x ∈ ns', ((fun k : Nat => (k : Int)) ∘ Int.toNat) x = x := fun x hx => by
            obtain ⟨k0, _, rfl⟩ := List.mem_map.mp (hperm.mem_iff.mp hx)
            rfl
          rw [List.map_congr_left this, List.map_id']
        · have := hperm.map Int.toNat
          rw [List.map_map] at this
          have e : (Int.toNat ∘ fun k : Nat => ((k : Nat) : Int)) = id := rfl
          rw [e, List.map_id] at this
          exact this
        · rw [List.pairwise_map]
          exact hsort.imp fun h => by omega
      obtain ⟨l, rfl, lp', ls⟩ := hp'
      rw [hlock] at lp'
      have e := hTr.sorted hb lp' ls
      subst e
      refine ⟨r, _, rfl, .inl ⟨SqL.of upd_same, fun r2 hr2 => ?_⟩⟩
      have sR := same_upd (o := .lst ((l.map fun k : Nat => ((k : Nat) : Int)).map V.int)) hr0
      have sR2 := same_upd (o := .tup ((l.map fun k : Nat => ((k : Nat) : Int)).map V.int)) hr2
      have sA : Same H2 _ := s3.trans (sR.trans sR2)
      exact q _ r2 ((ExtN.of s1).trans (e2.trans (ExtN.of sA))) (tabs_same T2 sA) (by rw [upd_same, nV_ints])
/-! ### still_of -/
def spStillOf (K : PySem.W.Frag) (T : List (Addr × Str)) : Sp := fun vs H Q _ => ∃ (a t : Addr) (n b : Nat) (m : Nat → Nat → Nat) (tr : List Nat), vs = [.ref a, .int (b : Nat), .ref t] ∧ WebAt K H a n m ∧ Small n m ∧ Web n m ∧ b < n ∧ SqT K H t (nV tr) ∧ Tr n m tr ∧ Tabs T H ∧
  ∀ H' r, ExtN H H' → Tabs T H' → H' r = some (.tup (purV n (pur n m b tr))) → Q (.ref r) H'
theorem ok_stillOf {f cd Pt : Addr} {fd : FuncData} {k : Nat} {T : List (Addr × Str)} {fT fN fW fS fB fA fL fC : Addr} {dT dN dW dS dB dA dL dC : FuncData} (F : FunC K "still_of" "still_of" sStillOf f fd cd) (M : Mg mg) (D : Defs K mg fT fN fW fS fB fA fL fC dT dN dW dS dB dA dL dC)
    (TB : TabB base mg cd Pt) (hmT : (Pt, qStill) ∈ T) (hu : ∀ p ∈ T, p.1 = Pt → p.2 = qStill) : FnOk P w K mg base CX0 (k + 4) f fd ["web", "base", "tree"] (spStillOf K T) := by
  have GC : FnOk P w K mg base CX0 (k + 1 + 2) fC dC ["web", "tree"] (spCheck K) := ok_check D.C M D.A D.bA D.gA D.T D.bT D.gT
  refine F.ok scStillOf (fun vs H Q E h => ?_) (fun A outer s H vs Q E hr h => ?_)
  · obtain ⟨a, t, n, b, m, tr, rfl, _⟩ := h
    rfl
  · obtain ⟨a, t, n, b, m, tr, rfl, hW, S, W, hb, hT0, hTr, hTb, q⟩ := h
    refine ⟨_, pss_cons (ps_expr (pe_call GC hr (by rfl) D.gC D.C.kp D.bC .nil pass0 (pa_cons (pv 0) (pa_cons (pv 2) pa_nil))))
      (pss_cons (ps_set (i := 3) scStillOf.nd rfl (.inr rfl) (pe_ix (ixt K)
        (pe_lamcall3 (T := T) (k := k + 2) (Ng := Nw) (fr := ["tree"]) (js := [2]) (R := fun v1 v2 ws f c' H Q => v1 = .ref a ∧ v2 = .int (b : Nat) ∧ ws = [some (.ref t)] ∧ WebAt K H a n m ∧ SqT K H t (nV tr) ∧
            ∀ H' p lp hp, Same H H' → H p = none → H' p = some (.tup [.ref lp, .ref hp]) → H' lp = some (.lst (nV (endW n m b (BT tr)).lit)) → H' hp = some (.lst (hV (endW n m b (BT tr)).ht)) → Q (.ref p) H')
          (by rfl) D.gW D.W D.bW scWalked (fun f c' s H v1 v2 ws Q cdg L hc hr' hR => ?lam) TB rfl hmT hu hr (by rfl) (ndef_free (sc := defScope sStillOf) (fr := ["tree"]) (by decide +kernel)) (ndef_fr (sc := defScope sStillOf) (by decide +kernel)) rfl (fun _ => rfl) (pv 0) (pv 1))
        pe_int (fun _ _ => rfl)))
      (pss_one (ps_ret (pe_callTy call_tuple_of (by rfl) M.tuple (by decide +kernel) (pa_cons (pe_lc (own := [("house", 4)]) (g := gName 4) (tt := tYes) (te := tIf (tTest (tOp rEq (tVar 4) (tVar 1))) (tC (.int 0)) (tOp (rI0 fun i j => .int (i - j)) (tOp (rIxL K) (tVar 3) (tVar 4)) (tC (.int 1)))) rfl scStillOf.nd
          (pi_range1 rfl M.range (pa_cons (pe_callB (lenS K) (by rfl) M.len PySem.boot_len (pa_cons (pv 0) pa_nil)) pa_nil))
          (blkOk_by (N := ["web", "base", "tree", "heat", "house"]) (sc := defScope sStillOf) (by decide +kernel)) (fun _ _ _ _ _ => pg_name (i := 4) scStillOf.nd rfl (Or.inl rfl)) (fun _ _ _ _ _ => pts_nil)
          (fun _ _ _ _ _ => pe_ifExp (pt_cmpR op_eq (pv 4) (pv 1) (nomark _)) pe_int (pe_op op_sub (pe_ix (ixl K) (pv 3) (pv 4) (fun _ _ => rfl)) pe_int))) pa_nil))))), ?_⟩
    case lam =>
      obtain ⟨rfl, rfl, rfl, hWl, hUl, ql⟩ := hR
      refine walked_gives (B := BT tr) (tl := fun vs H1 Q => tOp (rIn K false) (tVar 0) (tVar 3) (startF ["at", "house", "heat", "tree"] vs [some (.ref t)]) H1 Q) M D.T D.bT D.gT D.N D.bN D.gN hr'
        (fun ha he hpl => pe_act3 L rfl scLamT (fun pm ctv us hl => match us, hl with | [_, _, _], _ => rfl) hr'
          (fun A outer s H _ => pe_cmpR (inS K) (pv 0) (pv 3) (by rfl)) rfl (.inl rfl) ha (he := he) (hpl := hpl)) hc (fun i h cc H1 Q s1 hi hh q => ?_) hWl S hb ql
      refine ⟨.int (i : Nat), rfl, .ref t, rfl, t, nV tr, rfl, .inr (seqT_of s1 hUl), rfl, flat_nV tr, ?_⟩
      show Q (.bl (inV (.int (i : Nat)) (nV tr))) H1
      rw [inV_nV]
      exact q
    have n7 := S.n7
    refine ⟨.ref a, rfl, .ref t, rfl, a, t, n, m, tr, rfl, hW, S, by omega, hT0, hTr.chk, fun H1 s1 => ?_⟩
    refine ⟨.ref a, rfl, .int (b : Nat), rfl, tabs_same hTb s1, fun fl c' H2 e2 T2 hc2 => ⟨rfl, rfl, rfl, (hW.same s1).ext e2, seqT_ofN e2 (seqT_of s1 hT0), fun H3 p lp hp2 s3 np dp dl dh => ?_⟩⟩
    refine ⟨p, _, _, _, rfl, rfl, SqT.of dp, atI_nat (j := 1) rfl, ?_⟩
    have hW3 : WebAt K H3 a n m := ((hW.same s1).ext e2).same s3
    obtain ⟨xs, hX, hXl⟩ := hW3.tup
    have hlh := (MT.end_inv (w := m) (BT tr) hb).2.lh
    refine ⟨.ref a, rfl, a, xs, rfl, .inr hX, (n : Nat), by rw [hXl], by omega, by omega, fun Dd hD => ?_⟩
    rw [show ((n : Int)).toNat = n from rfl]
    refine lc_range (lo := 0) (n := n) (fun i H4 => Same H3 H4 ∧ H4 Dd = some (.lst ((List.range i).map fun h => V.int (pur n m b tr h)))) ⟨same_upd hD, upd_same⟩ (fun i H4 hi hp4 => ?_) (fun H4 hp4 => ?_)
    · obtain ⟨s4, d4⟩ := hp4
      have fin : ∀ v : Int, v = pur n m b tr i → ∃ acc, H4 Dd = some (.lst acc) ∧ acc.length < sizeLine ∧ (Same H3 (L2.upd H4 Dd (.lst (acc ++ [V.int v]))) ∧ L2.upd H4 Dd (.lst (acc ++ [V.int v])) Dd = some (.lst ((List.range (i + 1)).map fun h => V.int (pur n m b tr h)))) := fun v hv => by
        refine ⟨_, d4, ?_, same_but s4 hD, ?_⟩
        · rw [List.length_map, List.length_range]
          exact line_lt (by omega)
        · rw [upd_same, List.range_succ, List.map_append, hv]
          rfl
      refine ⟨rfl, .int (0 + (i : Nat)), rfl, .int (b : Nat), rfl, rfl, _, rfl, ite2 (fun e => ?_) (fun e => ?_)⟩
      · have e' := V.int.inj (of_decide_eq_true e)
        exact fin 0 (by unfold MT.pur; rw [if_pos (by omega)])
      · have e' : ¬ ((0 : Int) + (i : Nat) = (b : Nat)) := fun z => e (decide_eq_true (by rw [z]))
        refine ⟨.ref hp2, rfl, .int (0 + (i : Nat)), rfl, hp2, hV (endW n m b (BT tr)).ht, _, _, rfl, rfl, SqL.of (s4 _ _ dh), ?_, _, _, rfl, rfl, fin (hAt (endW n m b (BT tr)).ht i - 1) (by unfold MT.pur; rw [if_neg (by omega)])⟩
        rw [show ((0 : Int) + (i : Nat)) = (i : Nat) by omega]
        exact atI_nat (hV_at (by rw [hlh]; exact hi))
    · obtain ⟨s4, d4⟩ := hp4
      refine ⟨Dd, _, rfl, .inl ⟨SqL.of d4, fun r hr0 => ?_⟩⟩
      have sR := same_upd (o := .tup (purV n (pur n m b tr))) hr0
      have sA : Same H2 _ := s3.trans (s4.trans sR)
      exact q _ r ((ExtN.of s1).trans (e2.trans (ExtN.of sA))) (tabs_same T2 sA) upd_same
end
end K54
end
/-! ## T10 -/
section
set_option Elab.async false
set_option linter.all false
set_option maxRecDepth 100000
set_option maxHeartbeats 4000000
namespace K54
open PySem PySem.Spec PyProof.Rows L2 LamX NdefX
open MT (Tie ties Web Tr pur TF eds RB Aw Cl Conn)
/-! ### counts -/
theorem count_ok {n : Nat} {m : Nat → Nat → Nat} (W : Web n m) (h7 : n ≤ 7) (h8 : (eds n m).length ≤ 8) : CountOk (n - 1) (Aw n m) := by
  have hp := W.pos
  refine ⟨by omega, fun k hk => (W.lead (by omega)).2, fun k hk => ?_, fun k hk u v hu hu2 hv hv2 => ?_⟩
  · have h1 := W.lead_le (k := k) (by omega)
    have h2 : (2 : Nat) ^ (eds n m).length ≤ 2 ^ 8 := Nat.pow_le_pow_right (by omega) h8
    have h3 : ((2 : Int)) ^ (eds n m).length ≤ 256 := by exact_mod_cast h2
    omega
  · have h1 := MT.RB_abs (Aw n m) n (fun u v a b c d => by
      have := W.entry a b c d
      omega) (fun k hk => (W.lead hk).2) k (by omega) u v hu (by omega) hv (by omega)
    have h2 : MT.Bd k ≤ 9223372036854775808 := by
      have hk4 : k ≤ 4 := by omega
      match k, hk4 with
      | 0, _ => decide
      | 1, _ => decide
      | 2, _ => decide
      | 3, _ => decide
      | 4, _ => decide
    omega
theorem msk_id (n : Nat) (hp : 0 < n) : MT.msk n (n - 1) = List.range n := MT.msk_full hp
theorem count_res {n : Nat} {m : Nat → Nat → Nat} (W : Web n m) : countRes (n - 1) (Aw n m) = ((TF (eds n m) 0 (List.range n)).length : Nat) := by
  have hp := W.pos
  unfold countRes
  by_cases h1 : n - 1 = 0
  · rw [if_pos h1]
    have : n = 1 := by omega
    subst this
    have hs : MT.single (List.range 1) := by
      intro a ha
      have := List.mem_range.mp ha
      show a = 0
      omega
    rw [MT.TF_single hs]
    rfl
  · rw [if_neg h1]
    have h2 := W.count (by omega)
    have e : n - 1 - 1 = n - 2 := by omega
    rw [e]
    exact h2
theorem trees_few {n : Nat} {m : Nat → Nat → Nat} (W : Web n m) (h7 : n ≤ 7) (h8 : (eds n m).length ≤ 8) (h9 : 4 < n → (eds n m).length ≤ n + 1) : (TF (eds n m) 0 (List.range n)).length < 64 := by
  have h := W.bound
  have hp := W.pos
  have key : MT.bc (eds n m).length (n - 1) < 64 := by
    generalize (eds n m).length = l at *
    have h1 : ∀ n < 8, ∀ l < 9, (4 < n → l ≤ n + 1) → MT.bc l (n - 1) < 64 := by decide +kernel
    exact h1 n (by omega) l (by omega) h9
  omega
/-! ### the ring -/
def ringW (a b : Nat) : Nat := if a % 2 = b % 2 then 0 else if a + b = 3 ∧ (a = 0 ∨ b = 0) then 5 else 4
theorem ring_res : countRes 3 (Aw 4 ringW) = 304 := by decide +kernel
theorem ring_ok : CountOk 3 (Aw 4 ringW) := by
  have h1 : ∀ k < 3, 0 < RB (Aw 4 ringW) k (k + 1) (k + 1) ∧ RB (Aw 4 ringW) k (k + 1) (k + 1) < 1073741824 := by decide +kernel
  have h2 : ∀ k < 2, ∀ u < 4, ∀ v < 4, -(2 ^ 64) < RB (Aw 4 ringW) k u v ∧ RB (Aw 4 ringW) k u v < 2 ^ 64 := by decide +kernel
  exact ⟨by decide, fun k hk => (h1 k hk).1, fun k hk => (h1 k hk).2, fun k hk u v _ hu _ hv => h2 k (by omega) u (by omega) v (by omega)⟩
end K54
end
/-! ## T11 -/
section
set_option Elab.async false
set_option linter.all false
set_option maxRecDepth 100000
set_option maxHeartbeats 4000000
namespace K54
open PySem PySem.Spec PyProof.Rows L2 LamX NdefX
open MT (Tie ties Web Tr pur TF eds RB Aw Cl Conn)
def clsBody : Stmt → List Stmt
  | .ClassDef _ _ _ b _ _ _ _ _ _ _ => b
  | _ => []
abbrev sInit : Stmt := stAt (clsBody (topS 6)) 0
theorem scInit : FnScope ["self", "most"] ["self", "most"] (defScope sInit) := ⟨rfl, rfl, rfl, by decide +kernel, rfl, by decide +kernel, by decide +kernel⟩
section
variable {P : Program} {w : World} {K : PySem.W.Frag} {mg : Str → Option Value} {base : Heap}
/-! ### TooMany -/
def spInit (K : PySem.W.Frag) : Sp := fun vs H Q _ => ∃ (e C : Addr) (mo : Int), vs = [.ref e, .int mo] ∧ OexC K C ∧ PySem.W.findIn K (.ref C) "most" = some none ∧ H e = some (exo e C none) ∧
  ∀ dx, H dx = none → dx ≠ e → Q .non (upd (upd H dx (exd dx [("most", .int mo)])) e (exo e C (some dx)))
theorem ok_init {f : Addr} {fd : FuncData} {k : Nat} (F : Fun K "__init__" "TooMany.__init__" sInit f fd) : FnOk P w K mg base CX0 (k + 1) f fd ["self", "most"] (spInit K) := by
  refine F.ok scInit (fun vs H Q E h => ?_) (fun cdv A outer s H vs Q E hr h => ?_)
  · obtain ⟨e, C, mo, rfl, _⟩ := h
    rfl
  · obtain ⟨e, C, mo, rfl, T, hno, he, q⟩ := h
    refine ⟨_, pss_one (ps_ost (pv 0) (pv 1)), ?_⟩
    exact ⟨.int mo, rfl, .ref e, rfl, e, C, rfl, T, hno, .inl ⟨he, fun dx n ne => q dx n ne⟩⟩
structure TmC (K : PySem.W.Frag) (mg : Str → Option Value) (C fI : Addr) (fdI : FuncData) : Prop where
  T : OexC K C
  iC : PySem.W.findIn K (.ref C) "__init__" = some (some (.ref fI))
  tI : PySem.W.typeIn K (.ref fI) = some (.type "function")
  noM : PySem.W.findIn K (.ref C) "most" = some none
  gC : mg "TooMany" = some (.ref C)
  Fi : Fun K "__init__" "TooMany.__init__" sInit fI fdI
  bi : Binds K fdI ["self", "most"] []
/-! ### trees -/
structure Defs2 (K : PySem.W.Frag) (mg : Str → Option Value) (fC fc fF fA fL fT : Addr) (dC dc dF dA dL dT : FuncData) : Prop where
  C : Fun K "tree_count" "tree_count" sTreeCount fC dC
  bC : Binds K dC ["web"] []
  gC : mg "tree_count" = some (.ref fC)
  c : Fun K "counted" "counted" sCounted fc dc
  bc : Binds K dc ["rows"] []
  gc : mg "counted" = some (.ref fc)
  F : Fun K "trees_from" "trees_from" sTreesFrom fF dF
  bF : Binds K dF ["ties", "at", "marks"] []
  gF : mg "trees_from" = some (.ref fF)
  A : Fun K "as_one" "as_one" sAsOne fA dA
  bA : Binds K dA ["marks", "one", "other"] []
  gA : mg "as_one" = some (.ref fA)
  L : Fun K "last_begin" "last_begin" sLastBegin fL dL
  bL : Binds K dL ["ties", "marks"] []
  gL : mg "last_begin" = some (.ref fL)
  T : Fun K "ties_of" "ties_of" sTiesOf fT dT
  bT : Binds K dT ["web"] []
  gT : mg "ties_of" = some (.ref fT)
def spTrees (K : PySem.W.Frag) (CT : Addr) : Sp := fun vs H Q E => ∃ (a : Addr) (n : Nat) (m : Nat → Nat → Nat) (mo : Int), vs = [.ref a, .int mo] ∧ WebAt K H a n m ∧ 0 < n ∧ n ≤ 7 ∧ CountOk (n - 1) (Aw n m) ∧
  (countRes (n - 1) (Aw n m) ≤ mo → Small n m ∧ Web n m ∧ (TF (eds n m) 0 (List.range n)).length ≤ 1000 ∧ ∀ H' D us, Same H H' → H D = none → H' D = some (.lst (us.map V.ref)) → RowsAt H' us (TF (eds n m) 0 (List.range n)) → Q (.ref D) H') ∧
  (mo < countRes (n - 1) (Aw n m) → ∀ d H', Same H H' → H' d = some (.xd [("most", .int mo)]) → E (.ref CT) (some d) H')
theorem ok_trees {f : Addr} {fd : FuncData} {k : Nat} {CT fI : Addr} {fdI : FuncData} {fC fc fF fA fL fT : Addr} {dC dc dF dA dL dT : FuncData} {dvs : List V} (F : FunD K "trees" "trees" (defArgs sTrees) (defBody sTrees) (defScope sTrees) dvs [] f fd) (M : Mg mg) (TM : TmC K mg CT fI fdI)
    (D : Defs2 K mg fC fc fF fA fL fT dC dc dF dA dL dT) : FnOk P w K mg base (L2.CX P w) (k + 11) f fd ["web", "most"] (spTrees K CT) := by
  have GC : FnOk P w K mg base CX0 (k + 8 + 2) fC dC ["web"] (spTreeCount K) := ok_treeCount D.C M D.c D.bc D.gc
  have GT : FnOk P w K mg base CX0 (k + 9 + 1) fT dT ["web"] (spTiesOf K) := ok_tiesOf D.T M
  have GF : FnOk P w K mg base CX0 (k + 2 + 8) fF dF ["ties", "at", "marks"] (spTF K 8) := ok_treesFrom D.F D.bF D.gF M D.A D.bA D.gA D.L D.bL D.gL 8
  have GI : FnOk P w K mg base CX0 (k + 8 + 1) fI fdI ["self", "most"] (spInit K) := ok_init TM.Fi
  refine F.ok scTrees (fun vs H Q E h => ?_) (fun cdv A outer s H vs Q E hr h => ?_)
  · obtain ⟨a, n, m, mo, rfl, _⟩ := h
    rfl
  · obtain ⟨a, n, m, mo, rfl, hW, h0, h7, hC, q1, q2⟩ := h
    refine ⟨_, pss_cons (ps_if (pt_cmpR op_gt (pe_call GC hr (by rfl) D.gC D.C.kp D.bC .nil pass0 (pa_cons (pv 0) pa_nil)) (pv 1) (nomark _))
        (pss_one (ps_raise rfl (takes_of rfl rfl rfl rfl) (pmk_oex TM.T TM.iC TM.tI GI hr TM.bi .nil pass0 (by rfl) TM.gC (pa_cons (pv 1) pa_nil)))) pss_nil)
      (pss_one (ps_ret (pe_call GF hr (by rfl) D.gF D.F.kp D.bF .nil pass0 (pa_cons (pe_call GT hr (by rfl) D.gT D.T.kp D.bT .nil pass0 (pa_cons (pv 0) pa_nil)) (pa_cons pe_int
        (pa_cons (pe_callTy (crListRng rfl) (by rfl) M.list (by decide +kernel) (pa_cons (pe_callTy crRange1 (by rfl) M.range (by decide +kernel) (pa_cons (pe_callB (lenS K) (by rfl) M.len PySem.boot_len (pa_cons (pv 0) pa_nil)) pa_nil)) pa_nil)) pa_nil)))))), ?_⟩
    refine ⟨.ref a, rfl, a, n, m, rfl, hW, h0, h7, hC, fun H1 s1 => ⟨_, rfl, _, _, rfl, rfl, _, rfl, ite2 (fun e => ?_) (fun e => ?_)⟩⟩
    · have e' : mo < countRes (n - 1) (Aw n m) := of_decide_eq_true e
      refine ⟨.int mo, rfl, (by show 1 ≤ 1000; omega), fun x hx => ⟨x, CT, mo, rfl, TM.T, TM.noM, upd_same, fun dx nd ne => ?_⟩⟩
      have nd1 : H1 dx = none := by
        rw [upd_ne ne] at nd
        exact nd
      refine ⟨rfl, dx, [("most", .int mo)], upd_same, upd_at upd_same ne, nd1, q2 e' dx _ (s1.trans fun b o eb => ?_) upd_same⟩
      have b1 : b ≠ x := ne_of_none eb hx
      have b2 : b ≠ dx := ne_of_none eb nd1
      rw [upd_ne b2, del_ne b1, upd_ne b1, upd_ne b2, upd_ne b1]
      exact eb
    · have e' : countRes (n - 1) (Aw n m) ≤ mo := by
        have : ¬ mo < countRes (n - 1) (Aw n m) := fun z => e (decide_eq_true z)
        omega
      obtain ⟨S, W, h1000, q⟩ := q1 e'
      obtain ⟨xs, hX, hXl⟩ := hW.tup
      refine ⟨.ref a, rfl, a, n, m, rfl, hW.same s1, S, fun H2 p qs s2 n2 d2 t2 => ?_⟩
      refine ⟨.ref a, rfl, a, xs, rfl, .inr (seqT_of (s1.trans s2) hX), (n : Nat), by rw [hXl], fun r hr2 => ?_⟩
      have sr : Same H2 (upd H2 r (.rng 0 n)) := same_upd hr2
      refine ⟨r, n, rfl, upd_same, by omega, fun M0 hM0 => ?_⟩
      have sM : Same (upd H2 r (.rng 0 n)) (upd (upd H2 r (.rng 0 n)) M0 (.lst (nV (List.range n)))) := same_upd hM0
      have cl := MT.cl_msk (n := n) (k := n - 1) (by omega)
      rw [MT.msk_full h0] at cl
      refine ⟨p, M0, qs, ties n m, List.range n, MT.leads (n - 1), 0, rfl, SqL.of (sM _ _ (sr _ _ d2)), (t2.same sr).same sM, len_ties S, SqL.of upd_same, by rw [List.length_range]; exact h7, by rw [List.length_range]; exact MT.fits_eds n m, Nat.zero_le _, W.conn, cl, by rw [MT.leads_len]; exact (by omega : n - 1 ≤ 7), h1000, fun H3 D3 us s3 n3 d3 t3 => ?_⟩
      have sA := s1.trans (s2.trans (sr.trans (sM.trans s3)))
      exact q H3 D3 us sA (s1.free (s2.free (sr.free (sM.free n3)))) d3 t3
end
end K54
end
/-! ## T12 -/
section
set_option Elab.async false
set_option linter.all false
set_option maxRecDepth 100000
set_option maxHeartbeats 4000000
namespace MT
theorem hAt_set_le {ht : List Int} {i j : Nat} {c : Int} : hAt (ht.set i c) j = c ∧ j = i ∨ hAt (ht.set i c) j = hAt ht j := by
  unfold hAt
  by_cases e : j = i
  · subst e
    by_cases h : j < ht.length
    · left
      simp [List.getD, List.getElem?_set_self h]
    · right
      rw [List.set_eq_of_length_le (by omega)]
  · right
    simp [List.getD, List.getElem?_set_ne (Ne.symm e)]
theorem heat_le {l : List Ed} {B : Nat → Nat → Int → Bool} : ∀ (f : Nat) (s : WS), (∀ h, hAt s.ht h ≤ s.lk.length) → ∀ h, hAt (walk l B f s).ht h ≤ (walk l B f s).lk.length
  | 0, s, hs => hs
  | f + 1, s, hs => by
    cases q : nextT l s.lk s.mb with
    | none => rw [walk_none q]; exact hs
    | some k =>
      rw [walk_some q]
      refine heat_le f _ fun h => ?_
      have e : (wstep l B s k).lk.length = s.lk.length + 1 := by
        show (s.lk ++ [k]).length = _
        rw [List.length_append]
        rfl
      rw [e]
      have e2 : (wstep l B s k).ht = s.ht.set (hsOf l s.mb k) (hAt s.ht (hsOf l s.mb k) + 1) := rfl
      rw [e2]
      rcases hAt_set_le (ht := s.ht) (i := hsOf l s.mb k) (j := h) (c := hAt s.ht (hsOf l s.mb k) + 1) with ⟨z, _⟩ | z
      · rw [z]
        have := hs (hsOf l s.mb k)
        omega
      · rw [z]
        have := hs h
        omega
theorem pur_le {n b : Nat} {w : Nat → Nat → Nat} {t : List Nat} (hb : b < n) (h : Nat) : pur n w b t h ≤ (eds n w).length := by
  unfold pur
  split
  · omega
  · have h1 := heat_le (l := eds n w) (B := BT t) ((eds n w).length + 1) (w0 n b) (fun h => by
      unfold hAt w0
      by_cases q : h < n
      · simp [List.getD, List.getElem?_replicate, q]
      · simp [List.getD, List.getElem?_replicate, q]) h
    have I := (end_inv (w := w) (BT t) hb).2
    have h2 := nodup_len _ _ I.nd I.lt
    have h1 : hAt (endW n w b (BT t)).ht h ≤ (endW n w b (BT t)).lk.length := h1
    omega
end MT
namespace K54
open PySem PySem.Spec PyProof.Rows L2 LamX NdefX
open MT (Tie ties Web Tr pur TF eds RB Aw Cl Conn)
/-! ### codes of purses -/
theorem code_inj {B : Int} : ∀ (ns ms : List Int), ns.length = ms.length → TS.Bd B ns → TS.Bd B ms → TS.code B ns = TS.code B ms → ns = ms
  | [], [], _, _, _, _ => rfl
  | [], _ :: _, h, _, _, _ => by simp at h
  | _ :: _, [], h, _, _, _ => by simp at h
  | d :: r, e :: q, hl, h1, h2, hc => by
    have hl' : r.length = q.length := by simpa using hl
    have key : ∀ {x y : Int}, x < y → TS.code B (x :: r) < TS.code B (y :: q) := fun h => TS.code_lt hl' h1.tail h2.tail h
    have key2 : ∀ {x y : Int}, x < y → TS.code B (x :: q) < TS.code B (y :: r) := fun h => TS.code_lt hl'.symm h2.tail h1.tail h
    rcases Int.lt_trichotomy d e with h | h | h
    · have := key h
      omega
    · subst h
      rw [code_inj r q hl' h1.tail h2.tail]
      by_cases z : TS.code B r < TS.code B q
      · have := (TS.code_same (B := B) (d := d) hl').mpr z
        omega
      · by_cases z2 : TS.code B q < TS.code B r
        · have := (TS.code_same (B := B) (d := d) hl'.symm).mpr z2
          omega
        · omega
    · have := key2 h
      omega
abbrev Le (x y : List Int) : Prop := TS.code 1000 x ≤ TS.code 1000 y
/-- pl is pl0 sorted -/
structure Srt (pl pl0 : List (List Int)) : Prop where
  perm : pl.Perm pl0
  up : pl.Pairwise Le
theorem Srt.uniq {a b c : List (List Int)} {d : Nat} (h1 : Srt a c) (h2 : Srt b c) (hd : ∀ p ∈ c, p.length = d ∧ TS.Bd 1000 p) : a = b := by
  refine List.Perm.eq_of_pairwise (le := Le) (fun x y hx hy h1' h2' => ?_) h1.up h2.up (h1.perm.trans h2.perm.symm)
  have mx := hd x (h1.perm.mem_iff.mp hx)
  have my := hd y (h2.perm.mem_iff.mp hy)
  exact code_inj x y (by omega) mx.2 my.2 (Int.le_antisymm h1' h2')
abbrev purL (n : Nat) (m : Nat → Nat → Nat) (b : Nat) (tr : List Nat) : List Int := (List.range n).map (pur n m b tr)
abbrev trsOf (n : Nat) (m : Nat → Nat → Nat) : List (List Nat) := TF (eds n m) 0 (List.range n)
abbrev pursAll (n : Nat) (m : Nat → Nat → Nat) (b : Nat) : List (List Int) := (trsOf n m).map (purL n m b)
theorem purs_ok {n b : Nat} {m : Nat → Nat → Nat} (W : Web n m) (hb : b < n) (h8 : (eds n m).length ≤ 8) : ∀ p ∈ pursAll n m b, p.length = n ∧ TS.Bd 1000 p := fun p hp => by
  obtain ⟨tr, ht, rfl⟩ := List.mem_map.mp hp
  have T := MT.tr_of W ht
  refine ⟨by rw [List.length_map, List.length_range], fun x hx => ?_⟩
  obtain ⟨h, hh, rfl⟩ := List.mem_map.mp hx
  have h1 := T.pur_nn hb (List.mem_range.mp hh)
  have h2 := MT.pur_le (w := m) (t := tr) hb h
  omega
theorem purV_purL (n : Nat) (m : Nat → Nat → Nat) (b : Nat) (tr : List Nat) : purV n (pur n m b tr) = hV (purL n m b tr) := by
  show (List.range n).map _ = ((List.range n).map (pur n m b tr)).map V.int
  rw [List.map_map]
  rfl
/-! ### lists of tuples of ints -/
structure IRows (H : Hp) (ys : List V) (pl : List (List Int)) : Prop where
  len : ys.length = pl.length
  at_ : ∀ (i : Nat) (y : V) (p : List Int), ys[i]? = some y → pl[i]? = some p → ∃ u, y = .ref u ∧ H u = some (.tup (hV p))
section
variable {H H' : Hp} {ys : List V} {pl : List (List Int)}
theorem IRows.nil : IRows H [] [] := ⟨rfl, fun i y p e _ => by simp at e⟩
theorem IRows.ext (h : IRows H ys pl) (e : ExtN H H') : IRows H' ys pl := ⟨h.len, fun i y p a b => by
  obtain ⟨u, e1, e2⟩ := h.at_ i y p a b
  exact ⟨u, e1, e _ _ e2 (fun ps z => by cases z)⟩⟩
theorem IRows.same (h : IRows H ys pl) (s : Same H H') : IRows H' ys pl := h.ext (ExtN.of s)
theorem IRows.upd (h : IRows H ys pl) {D : Addr} {xs : List V} {o : HO} (d : H D = some (.lst xs)) : IRows (L2.upd H D o) ys pl := ⟨h.len, fun i y p a b => by
  obtain ⟨u, e1, e2⟩ := h.at_ i y p a b
  exact ⟨u, e1, upd_at e2 (fun z => by rw [z, d] at e2; cases e2)⟩⟩
theorem IRows.snoc (h : IRows H ys pl) {u : Addr} {p : List Int} (e : H u = some (.tup (hV p))) : IRows H (ys ++ [.ref u]) (pl ++ [p]) := by
  have hl := h.len
  refine ⟨by simp [hl], fun i y q a b => ?_⟩
  by_cases hi : i < ys.length
  · rw [List.getElem?_append_left hi] at a
    rw [List.getElem?_append_left (by omega)] at b
    exact h.at_ i y q a b
  · rw [List.getElem?_append_right (by omega)] at a
    rw [List.getElem?_append_right (by omega)] at b
    have h0 : i - ys.length = 0 := by
      by_cases z : i - ys.length = 0
      · exact z
      · rw [List.getElem?_eq_none (by simp; omega)] at a
        cases a
    rw [h0] at a
    rw [show i - pl.length = 0 by omega] at b
    cases a
    cases b
    exact ⟨u, rfl, e⟩
theorem IRows.mem (h : IRows H ys pl) {y : V} (hy : y ∈ ys) : ∃ u p, y = .ref u ∧ p ∈ pl ∧ H u = some (.tup (hV p)) := by
  obtain ⟨i, hi⟩ := List.mem_iff_getElem?.mp hy
  have hlt : i < pl.length := by rw [← h.len]; exact (List.getElem?_eq_some_iff.mp hi).1
  obtain ⟨u, e1, e2⟩ := h.at_ i y pl[i] hi (List.getElem?_eq_getElem hlt)
  exact ⟨u, _, e1, List.getElem_mem hlt, e2⟩
/-- the numbers of the tuple that a value names -/
def intsAt (H : Hp) : V → List Int
  | .ref u => match H u with
    | some (.tup xs) => xs.map fun v => match v with
      | .int i => i
      | _ => 0
    | _ => []
  | _ => []
theorem intsAt_tup {u : Addr} {p : List Int} (e : H u = some (.tup (hV p))) : intsAt H (.ref u) = p := by
  unfold intsAt
  simp only [e]
  rw [List.map_map]
  exact List.map_id' p
theorem IRows.map (h : IRows H ys pl) : ys.map (intsAt H) = pl := by
  refine List.ext_getElem? fun i => ?_
  rw [List.getElem?_map]
  cases e : ys[i]? with
  | none =>
    have : pl.length ≤ i := by
      rw [← h.len]
      exact List.getElem?_eq_none_iff.mp e
    rw [List.getElem?_eq_none this]
    rfl
  | some y =>
    have hlt : i < pl.length := by rw [← h.len]; exact (List.getElem?_eq_some_iff.mp e).1
    obtain ⟨u, e1, e2⟩ := h.at_ i y pl[i] e (List.getElem?_eq_getElem hlt)
    subst e1
    rw [Option.map_some, intsAt_tup e2, List.getElem?_eq_getElem hlt]
/-- reordered -/
theorem IRows.perm (h : IRows H ys pl) {zs : List V} (p : zs.Perm ys) : IRows H zs (zs.map (intsAt H)) ∧ (zs.map (intsAt H)).Perm pl := by
  refine ⟨⟨by rw [List.length_map], fun i y q a b => ?_⟩, ?_⟩
  · obtain ⟨u, p', e1, _, e2⟩ := h.mem (p.mem_iff.mp (List.mem_of_getElem? a))
    subst e1
    rw [List.getElem?_map, a, Option.map_some, intsAt_tup e2] at b
    cases b
    exact ⟨u, rfl, e2⟩
  · rw [← h.map]
    exact p.map _
end
/-! ### heaps whose tables grow: a list of ours is written -/
theorem extN_but {H H' : Hp} {p : Addr} {o : HO} (s : ExtN H H') (n : H p = none) : ExtN H (upd H' p o) := fun b x e nt => by
  rw [upd_ne (ne_of_none e n)]
  exact s b x e nt
theorem tabs_upd {T : List (Addr × Str)} {H : Hp} {D : Addr} {xs : List V} {o : HO} (t : Tabs T H) (d : H D = some (.lst xs)) : Tabs T (upd H D o) := fun p hp => by
  obtain ⟨ps, h1, h2, h3⟩ := t p hp
  refine ⟨ps, upd_at h1 (fun z => by rw [z, d] at h1; cases h1), h2, fun pos cv hc => ?_⟩
  obtain ⟨c, e1, e2⟩ := h3 pos cv hc
  exact ⟨c, e1, upd_at e2 (fun z => by rw [z, d] at e2; unfold CodeO at e2; cases e2)⟩
section
variable {P : Program} {w : World} {K : PySem.W.Frag} {mg : Str → Option Value} {base : Heap}
def New (H : Hp) (r : Addr) : Prop := ∀ x o, H x = some o → (∀ ps, o ≠ .tbl ps) → x ≠ r
theorem new_of {H H' : Hp} {r : Addr} (e : ExtN H H') (n : H' r = none) : New H r := fun x o h nt z => by
  have := e x o h nt
  rw [z, n] at this
  cases this
def spStills (K : PySem.W.Frag) (T : List (Addr × Str)) (CT : Addr) : Sp := fun vs H Q E => ∃ (a : Addr) (n b : Nat) (m : Nat → Nat → Nat) (mo : Int), vs = [.ref a, .int (b : Nat), .int mo] ∧ WebAt K H a n m ∧ b < n ∧ n ≤ 7 ∧ CountOk (n - 1) (Aw n m) ∧ Tabs T H ∧
  (countRes (n - 1) (Aw n m) ≤ mo → Small n m ∧ Web n m ∧ (eds n m).length ≤ 8 ∧ (trsOf n m).length < 64 ∧ ∀ H' r ys pl, ExtN H H' → Tabs T H' → New H r → H' r = some (.lst ys) → IRows H' ys pl → Srt pl (pursAll n m b) → Q (.ref r) H') ∧
  (mo < countRes (n - 1) (Aw n m) → ∀ d H', ExtN H H' → Tabs T H' → H' d = some (.xd [("most", .int mo)]) → E (.ref CT) (some d) H')
theorem ok_stills {f : Addr} {fd : FuncData} {k : Nat} {T : List (Addr × Str)} {CT fS fTr : Addr} {dS dTr : FuncData} {dvs : List V} (F : FunD K "stills" "stills" (defArgs sStills) (defBody sStills) (defScope sStills) dvs [] f fd) (M : Mg mg)
    (GS : FnOk P w K mg base CX0 (k + 4) fS dS ["web", "base", "tree"] (spStillOf K T)) (kS : PySem.W.keepIn K (.ref fS) = true) (bS : Binds K dS ["web", "base", "tree"] []) (gS : mg "still_of" = some (.ref fS))
    (GT : FnOk P w K mg base (L2.CX P w) (k + 11) fTr dTr ["web", "most"] (spTrees K CT)) (kT : PySem.W.keepIn K (.ref fTr) = true) (bT : Binds K dTr ["web", "most"] []) (gT : mg "trees" = some (.ref fTr)) : FnOk P w K mg base (L2.CX P w) (k + 12) f fd ["web", "base", "most"] (spStills K T CT) := by
  refine F.ok scStills (fun vs H Q E h => ?_) (fun cdv A outer s H vs Q E hr h => ?_)
  · obtain ⟨a, n, b, m, mo, rfl, _⟩ := h
    rfl
  · obtain ⟨a, n, b, m, mo, rfl, hW, hb, h7, hC, hTb, q1, q2⟩ := h
    have hrS : Room (k + 4) (A.deeper (envOfC "stills" (defScope sStills) s.heap.objs.size f cdv)) := hr.mono (by omega)
    refine ⟨_, pss_one (ps_ret (pe_callB (cr_sortT (d := n) (B := 1000) (by omega)) (by rfl) M.sorted (by decide +kernel) (pa_cons (pe_lc (own := [("tree", 3)]) (g := gName 3) (tt := tYes) (te := tCall (spStillOf K T) [] E0 (tCons (tVar 0) (tCons (tVar 1) (tCons (tVar 3) tNil)))) rfl scStills.nd
      (pi_list (pe_call (E := E) GT hr (by rfl) gT kT bT .nil (passes_call (W := fun cls d _ H => E cls d H) (takes_of rfl rfl rfl rfl) (fun _ _ _ _ h => h)) (pa_cons (pv 0) (pa_cons (pv 2) pa_nil))))
      (blkOk_by (N := ["web", "base", "most", "tree"]) (sc := defScope sStills) (by decide +kernel)) (fun _ _ _ _ _ => pg_name (i := 3) scStills.nd rfl (Or.inl rfl)) (fun _ _ _ _ _ => pts_nil)
      (fun _ _ _ _ _ => pe_call GS hrS (by rfl) gS kS bS .nil pass0 (pa_cons (pv 0) (pa_cons (pv 1) (pa_cons (pv 3) pa_nil))))) pa_nil))), ?_⟩
    refine ⟨.ref a, rfl, .int mo, rfl, a, n, m, mo, rfl, hW, by omega, h7, hC, fun hle => ?_, fun hlt d H' s1 e => q2 hlt d H' (ExtN.of s1) (tabs_same hTb s1) e⟩
    obtain ⟨S, W, h8, h64, q⟩ := q1 hle
    refine ⟨S, W, by show (trsOf n m).length ≤ 1000; omega, fun H1 D us s1 n1 d1 t1 => ?_⟩
    refine ⟨D, rfl, ⟨_, SqL.of d1⟩, fun L hL => ?_⟩
    have eL := ExtN.of (same_upd (o := .lst []) hL)
    have T1 := tabs_same hTb s1
    have htl := t1.len
    refine lc_list (K := K) (a := D) (xs := us.map V.ref) (fun i H2 => ExtN H1 H2 ∧ Tabs T H2 ∧ ∃ zs, H2 L = some (.lst zs) ∧ IRows H2 zs (((trsOf n m).take i).map (purL n m b)))
      ⟨eL, tabs_same T1 (same_upd hL), [], upd_same, IRows.nil⟩ (fun i H2 _ hp => seqL_ofN hp.1 (SqL.of d1)) (fun i x H2 hx hp => ?_) (fun H2 hp => ?_)
    · obtain ⟨e2, T2, zs, dz, rz⟩ := hp
      obtain ⟨u, hu, rfl⟩ := map_get hx
      have hi : i < (trsOf n m).length := by rw [← htl]; exact (List.getElem?_eq_some_iff.mp hu).1
      have etr : (trsOf n m)[i]? = some (trsOf n m)[i] := List.getElem?_eq_getElem hi
      have eu := t1.at_ i u _ hu etr
      refine ⟨rfl, .ref a, rfl, .int (b : Nat), rfl, .ref u, rfl, a, u, n, b, m, (trsOf n m)[i], rfl, (hW.same s1).ext e2, S, W, hb, seqT_ofN e2 (SqT.of eu), MT.tr_of W (List.getElem_mem hi), T2, fun H3 r e3 T3 hr3 => ?_⟩
      have dz3 := e3 _ _ dz (fun ps z => by cases z)
      rw [purV_purL] at hr3
      refine ⟨zs, dz3, ?_, extN_but (e2.trans e3) hL, tabs_upd T3 dz3, zs ++ [.ref r], upd_same, ?_⟩
      · rw [rz.len, List.length_map, List.length_take]
        exact line_lt (by omega)
      · have := ((rz.ext e3).snoc hr3).upd (o := .lst (zs ++ [.ref r])) dz3
        rw [take_snoc etr, List.map_append]
        exact this
    · obtain ⟨e2, T2, zs, dz, rz⟩ := hp
      rw [List.length_map, htl, List.take_length] at rz
      have hlen : zs.length = (trsOf n m).length := by rw [rz.len, List.length_map]
      have pok := purs_ok W hb h8
      refine ⟨L, zs, rfl, SqL.of dz, by omega, fun x hx => ?_, fun ys p hperm hsort hp0 => ?_⟩
      · obtain ⟨u, pp, e1, hm, e3⟩ := rz.mem hx
        exact ⟨pp, ⟨u, e1, SqT.of e3⟩, pok pp hm⟩
      · obtain ⟨ry, py⟩ := rz.perm hperm
        have sp := same_upd (o := .lst ys) hp0
        have eA : ExtN H1 (upd H2 p (.lst ys)) := e2.trans (ExtN.of sp)
        refine q _ p ys _ ((ExtN.of s1).trans eA) (tabs_same T2 sp) (new_of ((ExtN.of s1).trans e2) hp0) upd_same (ry.same sp) ⟨py, ?_⟩
        rw [List.pairwise_map]
        refine hsort.imp_of_mem fun {x y} hx hy h => ?_
        obtain ⟨u1, p1, a1, _, a3⟩ := ry.mem hx
        obtain ⟨u2, p2, b1, _, b3⟩ := ry.mem hy
        subst a1 b1
        rw [intsAt_tup a3, intsAt_tup b3]
        exact h p1 p2 ⟨u1, rfl, SqT.of a3⟩ ⟨u2, rfl, SqT.of b3⟩
end
end K54
end
/-! ## X4 -/
section
set_option Elab.async false
set_option linter.all false
set_option maxRecDepth 100000
set_option maxHeartbeats 4000000
namespace K54
open PySem PySem.Spec PyProof.Rows L2
/-! ### an error that is kept behind its except clause -/
/-- an error object: its class, its dict's address -/
def EcO (a : Addr) (cls : Value) (d : Option Addr) : HO := .ext fun h => ∃ (oe : Obj) (vs : Array Value), h.get? a = some oe ∧ Zc cls d oe ∧ oe.data = .fields vs
theorem ecO_ok {P : Program} {w : World} {H : Hp} {h : Heap} {a : Addr} {cls : Value} {d : Option Addr} {oe : Obj} {vs : Array Value} (e : h.get? a = some oe) (z : Zc cls d oe) (hd : oe.data = .fields vs) : ObjOk P w H h a (EcO a cls d) :=
  ⟨⟨oe, vs, e, z, hd⟩, ⟨oe, e⟩, fun _ _ ⟨o, v, q, r⟩ k => ⟨o, v, k o q, r⟩⟩
theorem ecO_at {P : Program} {w : World} {H : Hp} {h : Heap} {a : Addr} {cls : Value} {d : Option Addr} (hok : HOk P w H h) (e : H a = some (EcO a cls d)) : ∃ (oe : Obj) (vs : Array Value), h.get? a = some oe ∧ Zc cls d oe ∧ oe.data = .fields vs := by
  have x : ObjOk P w H h a (EcO a cls d) := hok a _ e
  exact x.1
section
variable {X : Cx} {pins : List (Addr × Obj)} {σ : L2.St} {H : Hp} {s : Shared}
/-- an object that came since the entry is told of from now on -/
theorem inv_hold {a : Addr} {cls : Value} {d : Option Addr} {oe : Obj} {vs : Array Value} (I : Inv X pins σ H s) (ha : s.heap.get? a = some oe) (hz : Zc cls d oe) (hd : oe.data = .fields vs) (na : H a = none) (n0 : X.s_0.heap.get? a = none) (nL : a ≠ X.env.locals) (nP : ∀ p ∈ X.pn ++ pins, p.1 ≠ a) :
    Inv X pins σ (upd H a (EcO a cls d)) s := by
  have other : ∀ {b : Addr} {o : HO}, H b = some o → b ≠ a := fun e => ne_of_none e na
  have old : ∀ {b : Addr} {o : Obj}, X.s_0.heap.get? b = some o → b ≠ a := fun {b o} e z => by
    rw [z, n0] at e
    cases e
  have cellN : ∀ x c, X.env.cells.lookup x = some c → c ≠ a := fun x c e z => by
    obtain ⟨v, o, ho, hv⟩ := I.cell x c e
    rw [z, ha] at ho
    cases ho
    rw [hd] at hv
    cases hv
  exact {
    ok := I.ok, os := I.os, bare := I.bare, loc := I.loc, cell := I.cell, len := I.len
    base := {
      keep := I.base.keep, slot := I.base.slot, there := I.base.there
      free := fun b o e n hx => (upd_ne (old e)).trans (I.base.free b o e n hx)
      tups := fun b xs e => upd_at (I.base.tups b xs e) (other (I.base.tups b xs e))
      frzs := fun b o u e => upd_at (I.base.frzs b o u e) (other (I.base.frzs b o u e))
      tbls := fun b ps e => by
        obtain ⟨more, q⟩ := I.base.tbls b ps e
        exact ⟨more, upd_at q (other q)⟩ }
    free := (upd_ne nL.symm).trans I.free
    freeC := fun x c e => (upd_ne (cellN x c e)).trans (I.freeC x c e)
    pin := fun p hp => by
      obtain ⟨p1, p2, p3⟩ := I.pin p hp
      exact ⟨p1, (upd_ne (nP p hp)).trans p2, p3⟩
    hok := I.hok.laidN (fun _ _ e => e) na (ecO_ok ha hz hd) }
/-- the context of an except suite whose error is told of in the heap -/
theorem inv_suite0 {a : Addr} (I : Inv X pins σ H s) : Inv (X.suite a (X.pn ++ pins)) [] σ H s :=
  { ok := I.ok.suite _ _, os := I.os, bare := I.bare, base := I.base, loc := I.loc, cell := I.cell, free := I.free, freeC := I.freeC, hok := I.hok, len := I.len
    pin := fun p hp => I.pin p (by rw [List.append_nil] at hp; exact hp) }
theorem inv_unsuite0 {a : Addr} {pn' : List (Addr × Obj)} (I : Inv (X.suite a (X.pn ++ pins)) pn' σ H s) (ok : X.Ok) : Inv X pins σ H s :=
  { ok := ok, os := I.os, bare := I.bare, base := I.base, loc := I.loc, cell := I.cell, free := I.free, freeC := I.freeC, hok := I.hok, len := I.len
    pin := fun p hp => I.pin p (List.mem_append_left _ hp) }
end
/-- what the clause wishes of an error of the body -/
def wHold (K : PySem.W.Frag) (c : Value) (i : Nat) (ts : TS) (D : Ends) : WX := fun cls d σ H =>
  PySem.W.exmOne K cls c = some true ∧ ∀ a, H a = none → ts { nx := fun σ' H' => D.nx (σ'.set i none) H', rt := fun _ _ => False } (σ.set i (some (.ref a))) (upd H a (EcO a cls d))
section
variable {X : Cx} {x n : Str} {c : Value} {i : Nat} {body suite : List Stmt} {b₀ : Stmt} {np pos pos' : Pos} {tb : WX → TS} {ts : TS}
theorem ps_try_hold (hs : X.stack = X.env :: X.outer) (hex : X.ex = []) (hf : X.env.frame = some X.env.locals) (hN : X.N.Nodup) (hi : X.N[i]? = some n) (hln : X.env.kindOf n = some .local) (hc : Names X x c)
    (hb : ∀ (W : WX) (pn : List (Addr × Obj)) (xe : Value → Shared → Prop), Takes (X.tr pn xe) W → PSs (X.tr pn xe) body (tb W))
    (hsu : ∀ (a : Addr) (pn : List (Addr × Obj)), PSs (X.suite a pn) (b₀ :: suite) ts) :
    PS X (.Try body [.ExceptHandler (some (.Name x np)) (some n) (b₀ :: suite) pos'] [] [] pos) (fun D σ H => tb (wHold X.K c i ts D) D σ H) := by
  refine ⟨fun pins s σ H D I h => wpAny_Try_except ?_⟩
  have ok := I.ok
  have hA : X.A.frames = some (X.env :: X.outer) := by rw [ok.frames, hs]
  refine wpAny_mono ((hb (wHold X.K c i ts D) (X.pn ++ pins) (fun e s₁ => wpAny (model X.prog X.w) X.A (noteFrame e X.env) (fun _ s₂ => wpAny (model X.prog X.w) X.A (setFlight e none) (fun _ s₃ =>
    wpAny (model X.prog X.w) X.A (handleBy e X.env [.ExceptHandler (some (.Name x np)) (some n) (b₀ :: suite) pos']) (SP X pins D) X.xe s₃) X.xe s₂) X.xe s₁) (fun u s' ex => ?_)).run [] s σ H D (I.toTry _) h) (fun f s1 q => ?_) fun _ _ z => z
  · obtain ⟨a, B, sI, pins', τ, G, cls, d, rfl, Jt, nb, up, sky, na, os, ag, hm, hq⟩ := ex
    have J : Inv X pins τ G sI := Jt.ofTry ok
    have sky2 : Sky B (X.env :: X.outer) a (Zc cls d) X.env.locals s'.heap := by rw [← hs]; exact sky
    refine Sky.land Zc.steady hA hf sky2 fun g1 f1 u1 => ?_
    have J1 : Inv X pins τ G { s' with heap := g1 } := J.landed nb f1.1 (up.trans u1) os ag
    obtain ⟨o1, v1, e1, z1, d1⟩ := f1.there
    -- where the error's object doesn't lie
    have nfr : a ∉ frs (X.env :: X.outer) := fun hm2 => by
      obtain ⟨_, o', e', hnf⟩ := f1.2.2.1.mem hm2
      rw [e1] at e'
      cases e'
      exact hnf _ d1
    have nL : a ≠ X.env.locals := fun z => nfr (List.mem_filterMap.mpr ⟨X.env, List.mem_cons_self, by rw [hf, z]⟩)
    have nI : sI.heap.get? a = none := by
      cases e : sI.heap.get? a with
      | none => rfl
      | some o =>
        have z := nb a o e (by rw [hs]; exact nfr)
        rw [f1.2.1] at z
        cases z
    have n0 : X.s_0.heap.get? a = none := by
      cases e : X.s_0.heap.get? a with
      | none => rfl
      | some o =>
        obtain ⟨o', z⟩ := J.base.there a o e (by rw [hex]; simp)
        rw [nI] at z
        cases z
    have nP : ∀ p ∈ X.pn ++ pins, p.1 ≠ a := fun p hp z => by
      have := (J.pin p hp).1
      rw [z, nI] at this
      cases this
    have look : PySem.W.Looks (model X.prog X.w) g1 (typeOf (.ref a)) cls := fun A' Q' E' s' k q => wpAny_typeOf_ref (k _ _ e1) (by rw [z1.1]; exact q)
    have S1 := inv_suite0 (a := a) J1
    have named : ∀ {Q : Value → Shared → Prop} {E : Value → Shared → Prop}, Q c { s' with heap := g1 } → wpAny (model X.prog X.w) (X.A.mark (some (.ref a))) (eval (.Name x np) X.env) Q E { s' with heap := g1 } := fun q => by
      rcases hc with ⟨hg, hdb, h1 | ⟨h1, h2, h3⟩⟩
      · exact ld_glob (X := X.suite a (X.pn ++ pins)) S1 hg h1 q hdb
      · exact ld_blt (X := X.suite a (X.pn ++ pins)) S1 hg h1 h2 q h3 hdb
    refine wpAny_handleBy_cons (codeAny_handlers_test (named ((PySem.W.exm_one (M := model X.prog X.w) J1.kIn look hm).here ?_))) (by intro q; cases q)
    refine codeAny_handlers_suite_as (HandSPX.lands_againZ f1 fun g2 f2 u2 => ?_)
    have J2 : Inv X pins τ G { s' with heap := g2 } := J.landed nb f2.1 ((up.trans u1).trans u2) os ag
    obtain ⟨o2, v2, e2, z2, d2⟩ := f2.there
    have S2 := inv_suite0 (a := a) (inv_hold J2 e2 z2 d2 na n0 nL nP)
    refine store_ok (X := X.suite a (X.pn ++ pins)) (v := .ref a) S2 hN hi (.inl hln) rfl (fun s5 S5 => ?_) (.inr hln)
    refine wpAny_mono ((hsu a (X.pn ++ pins)).run [] s5 _ _ _ S5 (hq a na)) (fun f s6 q => ?_) fun _ _ z => z.elim
    cases f with
    | next =>
      obtain ⟨σ6, H6, S6, q6⟩ := q
      exact gone_ok (inv_unsuite0 S6 ok) hN hi hln fun s7 J7 => ⟨_, _, J7, q6⟩
    | brk =>
      obtain ⟨_, _, _, z⟩ := q
      exact z.elim
    | cont =>
      obtain ⟨_, _, _, z⟩ := q
      exact z.elim
    | ret u =>
      obtain ⟨_, _, _, _, _, z⟩ := q
      exact z.elim
  · cases f with
    | next =>
      obtain ⟨σ', H', J, z⟩ := q
      exact wpAny_execs_nil ⟨σ', H', J.ofTry ok, z⟩
    | ret u =>
      obtain ⟨v, σ', H', J, r, z⟩ := q
      exact ⟨v, σ', H', J.ofTry ok, r, z⟩
    | brk =>
      obtain ⟨σ', H', J, z⟩ := q
      exact ⟨σ', H', J.ofTry ok, z⟩
    | cont =>
      obtain ⟨σ', H', J, z⟩ := q
      exact ⟨σ', H', J.ofTry ok, z⟩
end
end K54
end
/-! ## X5 -/
section
set_option Elab.async false
set_option linter.all false
set_option maxRecDepth 100000
set_option maxHeartbeats 4000000
namespace K54
open PySem PySem.Spec PySem.Calls PyProof.Rows L2
section
variable {prog : Program} {w : World} {A : Around} {E : Value → Shared → Prop} {s : Shared} {K : PySem.W.Frag} {x D : Addr} {ox : Obj} {od : Option Obj}
/-- what an error class says of __class__ where its instances may have a dict -/
theorem own_class (C : ExcC K D) (o : Obj) : PySem.W.findObj K D (some o) "__class__" = some (.bind (.builtin "getset_descriptor.__get__") (.builtin "object.__class__")) :=
  PySem.W.findObj_data (by obtain ⟨cd, hc, _⟩ := PySem.W.any_some C.hd; rw [hc]; rfl) C.ha C.hn C.ht
/-- BaseException.__getattribute__(x, "__class__") -/
theorem base_class {P : Value → Shared → Prop} {tk : Tok} (C : ExcC K D) (X : K.In s.heap) (I : PySem.W.InstAt s.heap x ox D od) (hf : PySem.W.findObj K D od "__class__" = some (.bind (.builtin "getset_descriptor.__get__") (.builtin "object.__class__"))) (h : P (.ref D) s) :
    wpAny (model prog w) A (call (.builtin "BaseException.__getattribute__") [.ref x, .str "__class__" tk]) P E s := by
  obtain ⟨hp, g, d, t, os⟩ := s
  have ty := I.type (M := model prog w)
  have fd := PySem.W.looks_find (M := model prog w) X I hf
  refine wpAny_call (codeAny_call_builtin PySem.F.excAttr_ValueError.ga.plain PySem.F.entry_bexc_ga ?_)
  refine @PySem.W.check_slot (model prog w) _ _ ⟨hp, g, d, t, os⟩ "BaseException.__getattribute__" "BaseException" "__getattribute__" (.ref x) [.str "__class__" tk] [] _ (by decide +kernel) (by decide +kernel) (ty.andThen (PySem.W.looks_subIn X C.hs)) (PySem.F.args_bexc_ga (.ref x) (.str "__class__" tk)) ?_
  unfold Builtin.«object.__getattribute__»
  refine wpAny_bind (wpAny_of_eq (a := ((Value.ref x : Value), [Value.str "__class__" tk])) (by first | rfl | (simp only [slotArgs]; rfl)) ?_)
  refine wpAny_bind (wpAny_pure (wpAny_bind (ty.at (wpAny_bind (fd.at ?_)))))
  show wpAny _ _ (holding [Value.builtin "object.__class__"] (call (.builtin "getset_descriptor.__get__") [.builtin "object.__class__", .ref x, .ref D]) >>= ret) _ _ _
  exact wpAny_bind (wpAny_holding (wpAny_call (PySem.W.class_get (s := ⟨hp, g, d, t, os⟩) (ox := ox) (od := od) X I C.hm (wpAny_pure h))))
/-- x.__class__ as isinstance looks for it -/
theorem err_class {Q : Option Value → Shared → Prop} (C : ExcC K D) (X : K.In s.heap) (I : PySem.W.InstAt s.heap x ox D od) (hf : PySem.W.findObj K D od "__class__" = some (.bind (.builtin "getset_descriptor.__get__") (.builtin "object.__class__"))) (h : Q (some (.ref D)) { s with toks := s.toks + 1 }) :
    wpAny (model prog w) A (getAttr? (.ref x) "__class__") Q E s := by
  obtain ⟨hp, g, d, t, os⟩ := s
  have ty := I.type (M := model prog w)
  have notHook : (onTheHeap (Value.ref D) && Value.builtin "BaseException.__getattribute__" == Value.builtin "object.__getattribute__") = false := by
    rw [show (Value.builtin "BaseException.__getattribute__" == Value.builtin "object.__getattribute__") = false by decide +kernel]
    rfl
  unfold getAttr? getAttrBy? getAttrBy
  refine wpAny_bind (wpAny_mkText (wpAny_bind (wpAny_attempt (wpAny_holding (wpAny_bind (ty.at (wpAny_bind ((PySem.W.looks_findIn X C.hg).at ?_))))))))
  show wpAny _ _ (if (onTheHeap (Value.ref D) && Value.builtin "BaseException.__getattribute__" == Value.builtin "object.__getattribute__") = true then _ else _) _ _ _
  rw [notHook, if_neg Bool.false_ne_true]
  unfold getAttrByItsOwn hookBefore
  refine wpAny_bind ?_
  rw [if_pos (show onTheHeap (Value.ref D) = true from rfl)]
  refine (PySem.W.looks_findIn X C.hk).at (wpAny_bind (wpAny_attempt (wpAny_holding ?_)))
  unfold callGetattribute
  rw [show (false && onTheHeap (Value.builtin "BaseException.__getattribute__")) = false from rfl, if_neg Bool.false_ne_true]
  unfold boundAndCalled
  rw [PySem.F.excAttr_ValueError.ga.bind (.ref x)]
  refine wpAny_bind (wpAny_pure ?_)
  refine base_class (s := ⟨hp, g, d, t + 1, os⟩) C X I hf ?_
  show wpAny _ _ (handedOut (.ref D)) _ _ _
  rw [PySem.W.handedOut_of (v := .ref D) rfl]
  first
    | exact wpAny_pure (wpAny_pure h)
    | exact wpAny_pure h
    | exact wpAny_pure (wpAny_bind (wpAny_pure (wpAny_pure h)))
theorem cls_there (C : ExcC K D) : ∃ cd, PySem.W.clsIn K D = some cd := by
  obtain ⟨cd, hc, _⟩ := PySem.W.any_some C.hd
  exact ⟨cd, hc⟩
theorem err_kit (C : ExcC K D) (o : Obj) : PySem.W.KitX K (.ref x) (.ref D) (fun h => PySem.W.InstAt h x ox D (some o)) where
  ty := fun _ _ _ I => I.type
  it := fun _ _ X _ => by
    obtain ⟨cd, hc⟩ := cls_there C
    unfold PySem.W.clsIn at hc
    split at hc
    · rename_i ho
      intro A' Q' E' s' k q
      unfold isType loadHead
      exact wpAny_bind (wpAny_loadPart (k _ _ (X _ _ ho)) (wpAny_pure q))
    · cases hc
  ne := fun h tp dd its n sl X htp => by
    obtain ⟨cd, hc⟩ := cls_there C
    refine Bool.eq_false_iff.mpr fun q => ?_
    obtain rfl : D = tp := Value.ref.inj (beq_iff_eq.mp q)
    unfold PySem.W.clsIn at hc
    split at hc
    · rename_i ho
      have z := (X _ _ ho).symm.trans htp
      cases z
    · cases hc
  ca := fun X I k => err_class C X I (own_class C o) k
end
section
variable {X : Cx}
/-- an error with a dict of its own, held as a value, as an instance -/
theorem err_at {pins : List (Addr × Obj)} {σ : L2.St} {H : Hp} {s : Shared} {a C d : Addr} {fs : List (Str × V)} (I : Inv X pins σ H s) (e : H a = some (EcO a (.ref C) (some d))) (ed : H d = some (.xd fs)) :
    ∃ (oe : Obj) (od : Obj) (mA : Str → Option Value), PySem.W.InstAt s.heap a oe C (some od) ∧ s.heap.get? d = some od ∧ s.heap.Ns1 d mA ∧ ∀ f, RelO (fs.lookup f) (mA f) := by
  obtain ⟨oe, vs, h1, hz, hd⟩ := ecO_at I.hok e
  have hx : ObjOk X.prog X.w H s.heap d (.xd fs) := I.hok d _ ed
  obtain ⟨mA, hns, hr⟩ := hx
  obtain ⟨o, es, ep, ho, hn⟩ := id hns
  exact ⟨oe, o, mA, ⟨h1, hz.1, by unfold PySem.W.notCls; rw [hd] <;> rfl, by rw [hz.2]; exact ho⟩, ho, hns, hr⟩
/-- isinstance(e, c), c a class -/
def rIsH (K : PySem.W.Frag) : List V → Hp → VK → Prop := fun xs H Q => ∃ (a D d : Addr) (fs : List (Str × V)) (c : V) (cv : Value) (b : Bool), xs = [.ref a, c] ∧ H a = some (EcO a (.ref D) (some d)) ∧ H d = some (.xd fs) ∧ ExcC K D ∧ (∀ u, RelV c u → u = cv) ∧ PySem.W.kitOne K (.ref D) cv = some b ∧ Q (.bl b) H
theorem call_isH (K : PySem.W.Frag) (hK : X.K = K := by rfl) : CallR X (.builtin "isinstance") (rIsH K) := by
  subst hK
  intro pins s σ H xs us Q I r h
  obtain ⟨a, D, d, fs, c, cv, b, rfl, ea, ed, C, hcv, e, q⟩ := h
  cases r with
  | cons rx rr =>
    cases rr with
    | cons rt rr =>
      cases rr
      cases rx
      have ec := hcv _ rt
      subst ec
      obtain ⟨oe, od, mA, J, _, _, _⟩ := err_at I ea ed
      exact PySem.W.kia_one (err_kit C od) I.kIn J e (fun z => nomatch z) fun tk => ⟨.bl b, H, I.kept (t' := tk) fun _ _ z => z, rfl, q⟩
/-- e.f -/
def tFldH (K : PySem.W.Frag) (f : Str) (te : TE) : TE := fun σ H Q => te σ H fun x H1 => ∃ (a C d : Addr) (fs : List (Str × V)) (v : V), x = .ref a ∧ H1 a = some (EcO a (.ref C) (some d)) ∧ H1 d = some (.xd fs) ∧ XfC K C ∧ PySem.W.findIn K (.ref C) f = some none ∧ fs.lookup f = some v ∧ Q v H1
theorem pe_fldH (K : PySem.W.Frag) {e : Expr} {te : TE} {pos : Pos} {f : Str} (he : PE X e te) (hK : X.K = K := by rfl) (hb : attributeBase e f X.env (eval e X.env) = eval e X.env := by rfl) : PE X (.Attribute e f pos) (tFldH K f te) := by
  subst hK
  refine ⟨fun pins s σ H Q I h => attr_of hb (thn (he.run pins s σ H _ I h) fun u s1 ⟨x, H1, I1, rx, a, C, d, fs, v, ex, ea, ed, T, hno, l, q⟩ => ?_)⟩
  subst ex
  obtain rfl : u = Value.ref a := rx
  obtain ⟨oe, od, mA, J, hod, hns, hr⟩ := err_at I1 ea ed
  obtain ⟨od2, ho2, hl⟩ := lookIn_ns hns
  rw [hod] at ho2
  cases ho2
  obtain ⟨u, hu, ru⟩ := RelO.some_of (v := v) (o := mA f) (by rw [← l]; exact hr f)
  exact HandSPX.exc_get I1.kIn J T.ga T.gg T.exC (PySem.W.findObj_own T.hdC hno rfl (by rw [hl, hu])) (handed_of ru) ⟨v, H1, I1.tok _, ru, q⟩
end
end K54
end
/-! ## T13 -/
section
set_option Elab.async false
set_option linter.all false
set_option maxRecDepth 100000
set_option maxHeartbeats 4000000
namespace K54
open PySem PySem.Spec PyProof.Rows L2 LamX NdefX
open MT (PT wL TOk CL tsum)
section
variable {P : Program} {w : World} {K : PySem.W.Frag} {mg : Str → Option Value} {base : Heap}
/-! ### _law_cell -/
def cellN (ns : List Int) (j : Nat) : Int := ns.getD j 0
theorem cell_cut (ns : List Int) (j : Nat) : atI (cutV (ns.map V.int) (some (j : Nat)) (some ((j : Nat) + 1)) ++ [V.int 0]) 0 = some (.int (cellN ns j)) := by
  refine atI_nat (j := 0) ?_
  unfold cutV
  rw [show (((j : Nat) : Int) + 1) = ((j + 1 : Nat) : Int) by omega, HT.sIx_nat, HT.sIx_nat, List.length_map]
  by_cases h : j < ns.length
  · have e : ((ns.map V.int).drop (min j ns.length)).take (min (j + 1) ns.length - min j ns.length) = [V.int (ns[j])] := by
      rw [Nat.min_eq_left (by omega), Nat.min_eq_left (by omega), Nat.add_sub_cancel_left, List.drop_eq_getElem_cons (by rw [List.length_map]; exact h), List.take_succ_cons, List.take_zero, List.getElem_map]
    rw [e]
    unfold cellN
    simp [List.getD, List.getElem?_eq_getElem h]
  · have e : ((ns.map V.int).drop (min j ns.length)).take (min (j + 1) ns.length - min j ns.length) = [] := by
      rw [Nat.min_eq_right (by omega), Nat.min_eq_right (by omega), Nat.sub_self, List.take_zero]
    rw [e]
    unfold cellN
    simp [List.getD, List.getElem?_eq_none (show ns.length ≤ j by omega)]
def spCell2 (K : PySem.W.Frag) : Sp := fun vs H Q _ => ∃ (l : Addr) (ns : List Int) (j : Nat), vs = [.ref l, .int (j : Nat)] ∧ SqL K H l (ns.map V.int) ∧ ns.length ≤ 1000 ∧ ∀ H', Same H H' → Q (.int (cellN ns j)) H'
theorem ok_cell {f : Addr} {fd : FuncData} {k : Nat} (F : Fun K "_law_cell" "_law_cell" sCell f fd) : FnOk P w K mg base CX0 (k + 1) f fd ["_law_script", "_law_k"] (spCell2 K) := by
  refine F.ok scCell (fun vs H Q E h => ?_) (fun cdv A outer s H vs Q E hr h => ?_)
  · obtain ⟨l, ns, j, rfl, _⟩ := h
    rfl
  · obtain ⟨l, ns, j, rfl, hL, hlen, q⟩ := h
    refine ⟨_, pss_one (ps_ret (pe_ix (ixl K) (pe_op op_cat (pe_slice sl_list (pv 0) (po_some (pv 1)) (po_some (pe_op op_add (pv 1) pe_int))) (pe_lst (pa_cons pe_int pa_nil))) pe_int (fun _ _ => rfl))), ?_⟩
    refine ⟨.ref l, rfl, .int (j : Nat), rfl, (j : Nat), rfl, .int (j : Nat), rfl, _, _, rfl, rfl, ((j : Nat) : Int) + 1, rfl, l, _, rfl, hL, fun p hp => ?_⟩
    refine ⟨line_le (show 1 ≤ 100000 by decide), fun z hz => ?_⟩
    have s1 := same_upd (o := .lst (cutV (ns.map V.int) (some (j : Nat)) (some ((j : Nat) + 1)))) hp
    have s2 := same_upd (o := .lst [V.int 0]) hz
    have hc := cutV_length (ns.map V.int) (some (j : Nat)) (some (((j : Nat) : Int) + 1))
    rw [List.length_map] at hc
    refine ⟨p, z, _, _, rfl, rfl, s2 _ _ upd_same, upd_same, line_le (show _ ≤ 100000 by simp only [List.length_cons, List.length_nil]; omega), fun r hr2 => ?_⟩
    have s3 := same_upd (o := .lst (cutV (ns.map V.int) (some (j : Nat)) (some ((j : Nat) + 1)) ++ [V.int 0])) hr2
    exact ⟨r, _, 0, _, rfl, rfl, SqL.of upd_same, cell_cut ns j, q _ (s1.trans (s2.trans s3))⟩
/-! ### _law_whole -/
def spWhole : Sp := fun vs H Q _ => ∃ i : Int, vs = [.int i] ∧ Q (.bl true) H
theorem ok_whole {f : Addr} {fd : FuncData} {k : Nat} (F : Fun K "_law_whole" "_law_whole" sWhole f fd) (M : Mg mg) : FnOk P w K mg base CX0 (k + 1) f fd ["_law_thing"] spWhole := by
  refine F.ok scWhole (fun vs H Q E h => ?_) (fun cdv A outer s H vs Q E hr h => ?_)
  · obtain ⟨i, rfl, _⟩ := h
    rfl
  · obtain ⟨i, rfl, q⟩ := h
    refine ⟨_, pss_one (ps_ret (pe_and (pe_callB call_isi (by rfl) M.isinstance (by decide +kernel) (pa_cons (pv 0) (pa_cons (pe_bltn (by rfl) M.int (by decide +kernel) (show RelV (.ty "int") (.type "int") from rfl)) pa_nil)))
      (pe_one (pe_notT (pe_callB call_isi (by rfl) M.isinstance (by decide +kernel) (pa_cons (pv 0) (pa_cons (pe_bltn (by rfl) M.bool (by decide +kernel) (show RelV (.ty "bool") (.type "bool") from rfl)) pa_nil))))))), ?_⟩
    refine ⟨.int i, rfl, .int i, .ty "int", .type "int", .type "int", true, rfl, .ty "int", .base (.int i), kit_ty (by decide +kernel), true, rfl, iteT ?_⟩
    exact ⟨.int i, rfl, .int i, .ty "bool", .type "int", .type "bool", false, rfl, .ty "bool", .base (.int i), kit_ty (by decide +kernel), false, rfl, q⟩
/-! ### _law_houses -/
def housesOf (c : Int) : Nat := if c / 4 % 4 = 3 then 5 + (c / 16 % 3).toNat else 1 + (c % 4).toNat
theorem houses_bd (c : Int) : 1 ≤ housesOf c ∧ housesOf c ≤ 7 := by
  unfold housesOf
  split <;> omega
def spHouses : Sp := fun vs H Q _ => ∃ c : Int, vs = [.int c] ∧ Q (.int (housesOf c : Nat)) H
theorem ok_houses {f : Addr} {fd : FuncData} {k : Nat} (F : Fun K "_law_houses" "_law_houses" sHouses f fd) (M : Mg mg) : FnOk P w K mg base CX0 (k + 1) f fd ["_law_cell_here"] spHouses := by
  refine F.ok scHouses (fun vs H Q E h => ?_) (fun cdv A outer s H vs Q E hr h => ?_)
  · obtain ⟨i, rfl, _⟩ := h
    rfl
  · obtain ⟨c, rfl, q⟩ := h
    refine ⟨_, pss_cons (ps_if (pt_cmpR op_eq (pe_op op_mod (pe_op op_fdiv (pv 0) pe_int) pe_int) pe_int (nomark _)) (pss_one (ps_ret (pe_op op_add pe_int (pe_op op_mod (pe_op op_fdiv (pv 0) pe_int) pe_int)))) pss_nil)
      (pss_one (ps_ret (pe_op op_add pe_int (pe_op op_mod (pv 0) pe_int)))), ?_⟩
    refine ⟨.int c, rfl, c, 4, rfl, rfl, ⟨by omega, by omega⟩, _, _, rfl, rfl, (by show (0 : Int) < 4; omega), rfl, _, rfl, ite2 (fun e => ?_) (fun e => ?_)⟩
    · have e' : c / 4 % 4 = 3 := V.int.inj (of_decide_eq_true e)
      refine ⟨.int c, rfl, c, 16, rfl, rfl, ⟨by omega, by omega⟩, _, _, rfl, rfl, (by show (0 : Int) < 3; omega), _, _, rfl, rfl, ?_⟩
      have : (5 : Int) + c / 16 % 3 = (housesOf c : Nat) := by
        unfold housesOf
        rw [if_pos e']
        omega
      show Q (.int (5 + c / 16 % 3)) H
      rw [this]
      exact q
    · have e' : ¬ c / 4 % 4 = 3 := fun z => e (decide_eq_true (congrArg V.int z))
      refine ⟨.int c, rfl, c, 4, rfl, rfl, (by show (0 : Int) < 4; omega), _, _, rfl, rfl, ?_⟩
      have : (1 : Int) + c % 4 = (housesOf c : Nat) := by
        unfold housesOf
        rw [if_neg e']
        omega
      show Q (.int (1 + c % 4)) H
      rw [this]
      exact q
end
end K54
end
/-! ## T14 -/
section
set_option Elab.async false
set_option linter.all false
set_option maxRecDepth 100000
set_option maxHeartbeats 4000000
namespace K54
open PySem PySem.Spec PyProof.Rows L2 LamX NdefX
open MT (PT wL TOk CL tsum)
/-! ### dicts of pairs -/
abbrev kk (p : Nat × Nat) : List Key := [.inl ((p.1 : Nat) : Int), .inl ((p.2 : Nat) : Int)]
def kT (l : List PT) : List (List Key × V) := l.map fun e => (kk e.1, V.int (e.2 : Nat))
def lk (l : List PT) (p : Nat × Nat) : Option Nat := (l.find? fun e => decide (e.1 = p)).map (·.2)
theorem kk_inj {p q : Nat × Nat} (h : kk p = kk q) : p = q := by
  simp only [List.cons.injEq, Sum.inl.injEq] at h
  exact Prod.ext (by omega) (by omega)
theorem valV_kT (p : Nat × Nat) : ∀ l : List PT, valV (kT l) (kk p) = (lk l p).map fun v => V.int (v : Nat)
  | [] => rfl
  | e :: r => by
    by_cases h : e.1 = p
    · have h1 : valV (kT (e :: r)) (kk p) = some (V.int (e.2 : Nat)) := valV_pos (p := (kk e.1, V.int (e.2 : Nat))) (by rw [h])
      have h2 : lk (e :: r) p = some e.2 := by simp [lk, List.find?_cons, h]
      rw [h1, h2]
      rfl
    · have h1 : valV (kT (e :: r)) (kk p) = valV (kT r) (kk p) := valV_neg (p := (kk e.1, V.int (e.2 : Nat))) fun z => h (kk_inj z)
      have h2 : lk (e :: r) p = lk r p := by simp [lk, List.find?_cons, h]
      rw [h1, h2]
      exact valV_kT p r
theorem lk_none {l : List PT} {p : Nat × Nat} (h : p ∉ l.map (·.1)) : lk l p = none := by
  unfold lk
  rw [List.find?_eq_none.mpr fun e he => by
    simp only [decide_eq_true_eq]
    exact fun z => h (z ▸ List.mem_map.mpr ⟨e, he, rfl⟩)]
  rfl
theorem lk_some {l : List PT} (nd : (l.map (·.1)).Nodup) {e : PT} (he : e ∈ l) : lk l e.1 = some e.2 := by
  induction l with
  | nil => cases he
  | cons d r ih =>
    rw [List.map_cons, List.nodup_cons] at nd
    rcases List.mem_cons.mp he with z | z
    · subst z
      simp [lk, List.find?_cons]
    · have : ¬ d.1 = e.1 := fun q => nd.1 (q ▸ List.mem_map.mpr ⟨e, z, rfl⟩)
      have h2 : lk (d :: r) e.1 = lk r e.1 := by simp [lk, List.find?_cons, this]
      rw [h2]
      exact ih nd.2 z
theorem lk_isSome {l : List PT} {p : Nat × Nat} : (lk l p).isSome = decide (p ∈ l.map (·.1)) := by
  by_cases h : p ∈ l.map (·.1)
  · rw [decide_eq_true h]
    obtain ⟨e, he, rfl⟩ := List.mem_map.mp h
    unfold lk
    rw [Option.isSome_map, List.find?_isSome]
    exact ⟨e, he, by simp⟩
  · rw [decide_eq_false h, lk_none h]
    rfl
theorem kT_len (l : List PT) : (kT l).length = l.length := List.length_map _
theorem kT_get {l : List PT} {i : Nat} {k : List Key} {v : V} (h : (kT l)[i]? = some (k, v)) : ∃ e, l[i]? = some e ∧ k = kk e.1 ∧ v = .int (e.2 : Nat) := by
  unfold kT at h
  rw [List.getElem?_map] at h
  cases q : l[i]? with
  | none => rw [q] at h; cases h
  | some e =>
    rw [q] at h
    cases h
    exact ⟨e, rfl, rfl, rfl⟩
theorem kT_put {l : List PT} {p : Nat × Nat} {v : Nat} (h : p ∉ l.map (·.1)) : putK (kT l) (kk p) (V.int (v : Nat)) = kT (l ++ [(p, v)]) := by
  rw [putK_new _ (by rw [valV_kT, lk_none h]; rfl)]
  unfold kT
  rw [List.map_append]
  rfl
/-! ### rows that are written -/
def setW (w : Nat → Nat → Nat) (a b v : Nat) : Nat → Nat → Nat := fun x y => if x = a ∧ y = b then v else w x y
theorem rowV_congr {n i : Nat} {w w' : Nat → Nat → Nat} (h : ∀ j, j < n → w i j = w' i j) : rowV n w i = rowV n w' i := by
  unfold rowV
  exact List.map_congr_left fun j hj => by rw [h j (List.mem_range.mp hj)]
theorem rowV_set {n : Nat} {w : Nat → Nat → Nat} {a b v : Nat} : (rowV n w a).set b (.int (v : Nat)) = rowV n (setW w a b v) a := by
  refine List.ext_getElem? fun j => ?_
  unfold rowV
  by_cases hj : j < n
  · by_cases e : j = b
    · subst e
      rw [List.getElem?_set_self (by simpa using hj), List.getElem?_map, List.getElem?_range hj]
      show _ = some (V.int ((setW w a j v a j : Nat) : Int))
      unfold setW
      rw [if_pos ⟨rfl, rfl⟩]
    · rw [List.getElem?_set_ne (Ne.symm e), List.getElem?_map, List.getElem?_map, List.getElem?_range hj]
      show some (V.int ((w a j : Nat) : Int)) = some (V.int ((setW w a b v a j : Nat) : Int))
      unfold setW
      rw [if_neg (fun z => e z.2)]
  · rw [List.getElem?_eq_none (by simp; omega), List.getElem?_eq_none (by simp; omega)]
structure RowsM (H : Hp) (D : Addr) (rs : List Addr) (n : Nat) (w : Nat → Nat → Nat) : Prop where
  top : H D = some (.lst (rs.map V.ref))
  len : rs.length = n
  nd : rs.Nodup
  ne : ∀ r ∈ rs, r ≠ D
  row : ∀ i r, rs[i]? = some r → H r = some (.lst (rowV n w i))
theorem RowsM.same {H H' : Hp} {D : Addr} {rs : List Addr} {n : Nat} {w : Nat → Nat → Nat} (h : RowsM H D rs n w) (s : Same H H') : RowsM H' D rs n w := ⟨s _ _ h.top, h.len, h.nd, h.ne, fun i r e => s _ _ (h.row i r e)⟩
theorem RowsM.congr {H : Hp} {D : Addr} {rs : List Addr} {n : Nat} {w w' : Nat → Nat → Nat} (h : RowsM H D rs n w) (e : ∀ i j, i < n → j < n → w i j = w' i j) : RowsM H D rs n w' :=
  ⟨h.top, h.len, h.nd, h.ne, fun i r q => by rw [← rowV_congr fun j hj => e i j (by rw [← h.len]; exact (List.getElem?_eq_some_iff.mp q).1) hj]; exact h.row i r q⟩
theorem RowsM.set {H : Hp} {D : Addr} {rs : List Addr} {n : Nat} {w : Nat → Nat → Nat} (h : RowsM H D rs n w) {a r : Nat} {b v : Nat} (hr : rs[a]? = some r) : RowsM (upd H r (.lst ((rowV n w a).set b (.int (v : Nat))))) D rs n (setW w a b v) := by
  refine ⟨upd_at h.top (fun z => h.ne r (List.mem_of_getElem? hr) z.symm), h.len, h.nd, h.ne, fun i q e => ?_⟩
  by_cases hi : i = a
  · subst hi
    rw [hr] at e
    cases e
    rw [upd_same, rowV_set]
  · have : q ≠ r := fun z => by
      subst z
      obtain ⟨h1, e1⟩ := List.getElem?_eq_some_iff.mp hr
      obtain ⟨h2, e2⟩ := List.getElem?_eq_some_iff.mp e
      exact hi ((List.getElem_inj h.nd).mp (e2.trans e1.symm))
    rw [upd_ne this, h.row i q e]
    rw [rowV_congr fun j _ => by
      show w i j = setW w a b v i j
      unfold setW
      rw [if_neg fun z => hi z.1]]
theorem wL_step {n : Nat} {l : List PT} (hk : ∀ e ∈ l, e.1.1 < e.1.2) (nd : (l.map (·.1)).Nodup) {i : Nat} {e : PT} (he : l[i]? = some e) (x y : Nat) :
    setW (setW (wL (l.take i)) e.1.1 e.1.2 e.2) e.1.2 e.1.1 e.2 x y = wL (l.take (i + 1)) x y := by
  rw [take_snoc he, MT.wL_append]
  have hlt := hk e (List.mem_of_getElem? he)
  have hne : e.1 ∉ (l.take i).map (·.1) := fun z => by
    have hsplit : l.map (·.1) = (l.take i).map (·.1) ++ (l.drop i).map (·.1) := by rw [← List.map_append, List.take_append_drop]
    rw [hsplit, List.nodup_append] at nd
    refine nd.2.2 _ z e.1 ?_ rfl
    obtain ⟨hi, ei⟩ := List.getElem?_eq_some_iff.mp he
    rw [List.drop_eq_getElem_cons hi, ei]
    exact List.mem_map.mpr ⟨e, List.mem_cons_self, rfl⟩
  have z1 : wL (l.take i) e.1.1 e.1.2 = 0 := MT.wL_none (fun d hd => hk d (List.mem_of_mem_take hd)) hlt hne
  have z2 : wL (l.take i) e.1.2 e.1.1 = 0 := by rw [MT.wL_sym]; exact z1
  have one : wL [e] x y = if (e.1.1 = x ∧ e.1.2 = y) ∨ (e.1.1 = y ∧ e.1.2 = x) then e.2 else 0 := by
    show _ + 0 = _
    omega
  rw [one]
  unfold setW
  by_cases h1 : x = e.1.2 ∧ y = e.1.1
  · rw [if_pos h1, if_pos (.inr ⟨h1.2.symm, h1.1.symm⟩), h1.1, h1.2, z2]
    omega
  · rw [if_neg h1]
    by_cases h2 : x = e.1.1 ∧ y = e.1.2
    · rw [if_pos h2, if_pos (.inl ⟨h2.1.symm, h2.2.symm⟩), h2.1, h2.2, z1]
      omega
    · rw [if_neg h2, if_neg (by
        rintro (⟨q1, q2⟩ | ⟨q1, q2⟩)
        · exact h2 ⟨q1.symm, q2.symm⟩
        · exact h1 ⟨q2.symm, q1.symm⟩)]
      omega
end K54
end
/-! ## T15 -/
section
set_option Elab.async false
set_option linter.all false
set_option maxRecDepth 100000
set_option maxHeartbeats 4000000
namespace K54
open PySem PySem.Spec PyProof.Rows L2 LamX NdefX
open MT (PT wL TOk CL tsum)
section
variable {P : Program} {w : World} {K : PySem.W.Frag} {mg : Str → Option Value} {base : Heap}
/-! ### _law_square -/
def spSquare (K : PySem.W.Frag) : Sp := fun vs H Q _ => ∃ (d : Addr) (n room : Nat) (l : List PT), vs = [.ref d, .int (n : Nat)] ∧ H d = some (.dT (kT l)) ∧ TOk n room l ∧ n ≤ 7 ∧ ∀ H' p, Same H H' → WebAt K H' p n (wL l) → Q (.ref p) H'
theorem ok_square {f : Addr} {fd : FuncData} {k : Nat} (F : Fun K "_law_square" "_law_square" sSquare f fd) (M : Mg mg) : FnOk P w K mg base CX0 (k + 1) f fd ["_law_times_here", "_law_many"] (spSquare K) := by
  refine F.ok scSquare (fun vs H Q E h => ?_) (fun cdv A outer s H vs Q E hr h => ?_)
  · obtain ⟨d, n, room, l, rfl, _⟩ := h
    rfl
  · obtain ⟨d, n, room, l, rfl, hd, T, h7, q⟩ := h
    have hu := hu_of hr
    refine ⟨_, pss_cons (ps_setLc (i := 2) (own := [("_law_house", 5)]) (g := gName 5) (tt := tYes) (te := tOp rRep (tLst (tCons (tC (.int 0)) tNil)) (tVar 1)) rfl scSquare.nd rfl rfl (sw_true rfl rfl rfl (by decide +kernel)) (pi_range1 rfl M.range (pa_cons (pv 1) pa_nil))
        (blkOk_by (N := ["_law_times_here", "_law_many", "_law_rows", "_law_one", "_law_other", "_law_house", "_law_row"]) (sc := defScope sSquare) (by decide +kernel)) (fun _ _ _ _ _ => pg_name (i := 5) scSquare.nd rfl (Or.inl rfl)) (fun _ _ _ _ _ => pts_nil)
        (fun _ _ _ _ _ => pe_op op_rep (pe_lst (pa_cons pe_int pa_nil)) (pv 1)))
      (pss_cons (ps_lock (ps_for PassesOwn.never rfl (pi_keys (pv 0)) (pg_tup rfl (pgs_cons (pg_name (i := 3) scSquare.nd rfl (.inl rfl)) (pgs_cons (pg_name (i := 4) scSquare.nd rfl (.inl rfl)) pgs_nil)))
        (pss_cons (ps_asg (pe_dget hu (pv 0) (pe_tup (pa_cons (pv 3) (pa_cons (pv 4) pa_nil))) (fun _ _ => rfl)) (pg_sub (pe_ix (ixl K) (pv 2) (pv 3) (fun _ _ => rfl)) (pv 4) set_list))
        (pss_one (ps_asg (pe_dget hu (pv 0) (pe_tup (pa_cons (pv 3) (pa_cons (pv 4) pa_nil))) (fun _ _ => rfl)) (pg_sub (pe_ix (ixl K) (pv 2) (pv 4) (fun _ _ => rfl)) (pv 3) set_list))))))
      (pss_one (ps_ret (pe_callTy call_tuple_of (by rfl) M.tuple (by decide +kernel) (pa_cons (pe_lc (own := [("_law_row", 6)]) (g := gName 6) (tt := tYes)
        (te := tCB (fun xs H Q => ∃ p ys, xs = [.ref p] ∧ ((SqL K H p ys ∧ ∀ l, H l = none → Q (.ref l) (upd H l (.tup ys))) ∨ (SqT K H p ys ∧ Q (.ref p) H))) (tCons (tVar 6) tNil)) rfl scSquare.nd (pi_list (pv 2))
        (blkOk_by (N := ["_law_times_here", "_law_many", "_law_rows", "_law_one", "_law_other", "_law_house", "_law_row"]) (sc := defScope sSquare) (by decide +kernel)) (fun _ _ _ _ _ => pg_name (i := 6) scSquare.nd rfl (Or.inl rfl)) (fun _ _ _ _ _ => pts_nil)
        (fun _ _ _ _ _ => pe_callTy call_tuple_of (by rfl) M.tuple (by decide +kernel) (pa_cons (pv 6) pa_nil))) pa_nil))))), ?_⟩
    have hT2 : ∀ e ∈ l, e.1.1 < e.1.2 := fun e he => (T.key e he).1
    have row0 : ∀ i, (List.replicate ((n : Nat) : Int).toNat [V.int 0]).flatten = rowV n (fun _ _ => 0) i := fun i => by
      rw [Int.toNat_natCast, List.flatten_replicate_singleton]
      unfold rowV
      refine List.ext_getElem? fun j => ?_
      rw [List.getElem?_replicate, List.getElem?_map]
      by_cases h : j < n
      · rw [if_pos h, List.getElem?_range h]
        rfl
      · rw [if_neg h, List.getElem?_eq_none (by simp; omega)]
        rfl
    refine ⟨.int (n : Nat), rfl, (n : Nat), rfl, by omega, by omega, fun D hD => ?_⟩
    rw [show ((n : Nat) : Int).toNat = n from rfl]
    refine lc_range (lo := 0) (n := n) (fun i H1 => Same H H1 ∧ ∃ rs : List Addr, H1 D = some (.lst (rs.map V.ref)) ∧ rs.length = i ∧ rs.Nodup ∧ (∀ r ∈ rs, r ≠ D ∧ H r = none) ∧ ∀ (j : Nat) (r : Addr), rs[j]? = some r → H1 r = some (.lst (rowV n (fun _ _ => 0) j)))
      ⟨same_upd hD, [], upd_same, rfl, List.nodup_nil, fun r hr => absurd hr (by simp), fun j r e => by simp at e⟩ (fun i H1 hi hp => ?_) (fun H1 hp => ?_)
    · obtain ⟨s1, rs, d1, l1, nd1, ne1, r1⟩ := hp
      refine ⟨rfl, line_le (show 1 ≤ 100000 by decide), fun z hz => ⟨.int (n : Nat), rfl, z, (n : Nat), [.int 0], rfl, rfl, upd_same, by omega, by omega, line_le (show 1 * ((n : Nat) : Int).toNat ≤ 100000 by omega), fun r hr2 => ?_⟩⟩
      have sz := same_upd (o := .lst [V.int 0]) hz
      rw [row0 i]
      have sr := same_upd (o := .lst (rowV n (fun _ _ => 0) i)) hr2
      have s2 : Same H1 _ := sz.trans sr
      have d2 := s2 _ _ d1
      have nrD : r ≠ D := fun e => by rw [e, sz _ _ d1] at hr2; cases hr2
      have nrm : ∀ r' ∈ rs, r' ≠ r := fun r' hm e => by
        obtain ⟨j, hj⟩ := List.mem_iff_getElem?.mp hm
        have := sz _ _ (r1 j r' hj)
        rw [e, hr2] at this
        cases this
      refine ⟨_, d2, by rw [List.length_map, l1]; exact line_lt (by omega), same_but (s1.trans s2) hD, rs ++ [r], by rw [upd_same, List.map_append]; rfl, by rw [List.length_append, l1]; rfl, ?_, fun r' hm => ?_, fun j r' e => ?_⟩
      · rw [List.nodup_append]
        exact ⟨nd1, by simp, fun x hx y hy => by rw [List.mem_singleton.mp hy]; exact nrm x hx⟩
      · rcases List.mem_append.mp hm with hm | hm
        · exact ne1 r' hm
        · rw [List.mem_singleton.mp hm]
          exact ⟨nrD, s1.free (sz.free hr2)⟩
      · by_cases hj : j < rs.length
        · rw [List.getElem?_append_left hj] at e
          exact upd_at (s2 _ _ (r1 j r' e)) (ne1 r' (List.mem_of_getElem? e)).1
        · have hj2 : j = rs.length := by
            have := (List.getElem?_eq_some_iff.mp e).1
            rw [List.length_append] at this
            simp at this
            omega
          subst hj2
          rw [List.getElem?_append_right (Nat.le_refl _), Nat.sub_self] at e
          cases e
          rw [l1]
          exact upd_at upd_same nrD
    · obtain ⟨s1, rs, d1, l1, nd1, ne1, r1⟩ := hp
      have hd1 := s1 _ _ hd
      have nDd : D ≠ d := fun z => by rw [z, hd1] at d1; cases d1
      have nrd : ∀ r ∈ rs, r ≠ d := fun r hm z => by
        have := (ne1 r hm).2
        rw [z, hd] at this
        cases this
      refine ⟨d, .dT (kT l), hd1, True.intro, fun od => ?_⟩
      refine ⟨.ref d, rfl, d, od, rfl, .inr ⟨kT l, upd_same, ?_⟩⟩
      refine for_it walk_keysT (fun i σ H2 => ∃ y3 y4, σ = [some (.ref d), some (.int (n : Nat)), some (.ref D), y3, y4, none, none] ∧ Same (upd H d (.frz od (.dT (kT l)))) H2 ∧ RowsM H2 D rs n (wL (l.take i)))
        ⟨none, none, rfl, fun b o e => ?_, ⟨upd_at d1 nDd, l1, nd1, fun r hm => (ne1 r hm).1, fun i r e => upd_at (r1 i r e) (nrd r (List.mem_of_getElem? e))⟩⟩ (fun i σ H2 _ hp => ?_) (fun i x σ H2 H3 hi hp hy => ?_) (fun σ H2 hp => ?_)
      · by_cases hb : b = d
        · subst hb
          rw [upd_same] at e ⊢
          exact e
        · rw [upd_ne hb] at e ⊢
          exact s1 _ _ e
      · obtain ⟨_, _, _, sB, _⟩ := hp
        exact sB _ _ upd_same
      · obtain ⟨y3, y4, rfl, sB, R⟩ := hp
        obtain ⟨rfl, k0, v0, qt, hk, rfl, hq⟩ := hy
        obtain ⟨e, he, rfl, rfl⟩ := kT_get hk
        have key := T.key e (List.mem_of_getElem? he)
        have ha : e.1.1 < rs.length := by omega
        have hb : e.1.2 < rs.length := by omega
        have era : rs[e.1.1]? = some rs[e.1.1] := List.getElem?_eq_getElem ha
        have erb : rs[e.1.2]? = some rs[e.1.2] := List.getElem?_eq_getElem hb
        have get : ∀ {H4 : Hp} {t : Addr}, Same (upd H d (.frz od (.dT (kT l)))) H4 → H4 t = some (.tup [.int (e.1.1 : Nat), .int (e.1.2 : Nat)]) → DGet H4 d (.ref t) (some (.int (e.2 : Nat))) := fun s4 ht =>
          .inr ⟨kT l, kk e.1, _, .inr ⟨od, s4 _ _ upd_same⟩, rfl, ht, by rw [valV_kT, lk_some T.nd (List.mem_of_getElem? he)]; rfl⟩
        have nB : ∀ {r : Addr}, r ∈ rs → (upd H d (.frz od (.dT (kT l)))) r = none := fun hm => (upd_ne (nrd _ hm)).trans (ne1 _ hm).2
        refine ⟨_, _, rfl, SqT.of hq, rfl, _, _, rfl, _, [], rfl, rfl, ?_⟩
        refine ⟨.ref d, rfl, .int (e.1.1 : Nat), rfl, .int (e.1.2 : Nat), rfl, line_le (show 2 ≤ 100000 by decide), fun t ht => ?_⟩
        have st := same_upd (o := .tup [V.int (e.1.1 : Nat), V.int (e.1.2 : Nat)]) ht
        have R1 := R.same st
        have sB1 := sB.trans st
        refine ⟨d, .int (e.2 : Nat), rfl, get sB1 upd_same, .ref D, rfl, .int (e.1.1 : Nat), rfl, D, rs.map V.ref, _, .ref rs[e.1.1], rfl, rfl, SqL.of R1.top, atI_nat (by rw [List.getElem?_map, era]; rfl), .int (e.1.2 : Nat), rfl, rs[e.1.1], _, _, e.1.2, rfl, rfl, R1.row _ _ era, ixN_nat (by rw [rowV_len]; omega), ?_⟩
        have R2 := R1.set (v := e.2) (b := e.1.2) era
        have sB2 := same_but (o := .lst ((rowV n (wL (l.take i)) e.1.1).set e.1.2 (.int (e.2 : Nat)))) sB1 (nB (List.mem_of_getElem? era))
        refine ⟨.ref d, rfl, .int (e.1.1 : Nat), rfl, .int (e.1.2 : Nat), rfl, line_le (show 2 ≤ 100000 by decide), fun t2 ht2 => ?_⟩
        have st2 := same_upd (o := .tup [V.int (e.1.1 : Nat), V.int (e.1.2 : Nat)]) ht2
        have R3 := R2.same st2
        have sB3 := sB2.trans st2
        refine ⟨d, .int (e.2 : Nat), rfl, get sB3 upd_same, .ref D, rfl, .int (e.1.2 : Nat), rfl, D, rs.map V.ref, _, .ref rs[e.1.2], rfl, rfl, SqL.of R3.top, atI_nat (by rw [List.getElem?_map, erb]; rfl), .int (e.1.1 : Nat), rfl, rs[e.1.2], _, _, e.1.1, rfl, rfl, R3.row _ _ erb, ixN_nat (by rw [rowV_len]; omega), ?_⟩
        have R4 := R3.set (v := e.2) (b := e.1.1) erb
        exact ⟨_, _, rfl, same_but sB3 (nB (List.mem_of_getElem? erb)), R4.congr fun x y _ _ => wL_step (n := n) hT2 T.nd he x y⟩
      · obtain ⟨y3, y4, rfl, sB, R⟩ := hp
        rw [kT_len, List.take_length] at R
        refine ⟨sB _ _ upd_same, ?_⟩
        have s3 : Same H (upd H2 d (.dT (kT l))) := fun b o e => by
          by_cases hb : b = d
          · subst hb
            rw [hd] at e
            cases e
            exact upd_same
          · exact upd_at (sB _ _ (upd_at e hb)) hb
        have R3 : RowsM (upd H2 d (.dT (kT l))) D rs n (wL l) := ⟨upd_at R.top nDd, R.len, R.nd, R.ne, fun i r e => upd_at (R.row i r e) (nrd r (List.mem_of_getElem? e))⟩
        generalize upd H2 d (.dT (kT l)) = H3 at s3 R3
        refine ⟨.ref D, rfl, D, rfl, ⟨_, SqL.of R3.top⟩, fun D2 hD2 => ?_⟩
        refine lc_list (K := K) (a := D) (xs := rs.map V.ref) (fun i H4 => Same H3 H4 ∧ ∃ ts : List Addr, H4 D2 = some (.lst (ts.map V.ref)) ∧ ts.length = i ∧ ∀ (j : Nat) (t : Addr), ts[j]? = some t → H4 t = some (.tup (rowV n (wL l) j)))
          ⟨same_upd hD2, [], upd_same, rfl, fun j t e => by simp at e⟩ (fun i H4 _ hp => hp.1.seq (SqL.of R3.top)) (fun i x H4 hx hp => ?_) (fun H4 hp => ?_)
        · obtain ⟨s4, ts, d4, l4, t4⟩ := hp
          obtain ⟨r, hr2, rfl⟩ := map_get hx
          have hi : i < rs.length := (List.getElem?_eq_some_iff.mp hr2).1
          refine ⟨rfl, .ref r, rfl, r, _, rfl, .inl ⟨SqL.of (s4 _ _ (R3.row i r hr2)), fun t ht => ?_⟩⟩
          have st := same_upd (o := .tup (rowV n (wL l) i)) ht
          have ntD : t ≠ D2 := fun z => by rw [z, d4] at ht; cases ht
          refine ⟨_, st _ _ d4, by rw [List.length_map, l4]; exact line_lt (by omega), same_but (s4.trans st) hD2, ts ++ [t], by rw [upd_same, List.map_append]; rfl, by rw [List.length_append, l4]; rfl, fun j t' e => ?_⟩
          by_cases hj : j < ts.length
          · rw [List.getElem?_append_left hj] at e
            have := st _ _ (t4 j t' e)
            exact upd_at this (fun z => by rw [z, st _ _ d4] at this; cases this)
          · have hj2 : j = ts.length := by
              have := (List.getElem?_eq_some_iff.mp e).1
              rw [List.length_append] at this
              simp at this
              omega
            subst hj2
            rw [List.getElem?_append_right (Nat.le_refl _), Nat.sub_self] at e
            cases e
            rw [l4]
            exact upd_at upd_same ntD
        · obtain ⟨s4, ts, d4, l4, t4⟩ := hp
          rw [List.length_map, R3.len] at l4
          refine ⟨D2, _, rfl, .inl ⟨SqL.of d4, fun p hp0 => ?_⟩⟩
          have sp := same_upd (o := .tup (ts.map V.ref)) hp0
          exact q _ p (s3.trans (s4.trans sp)) ⟨ts, SqT.of upd_same, l4, fun i t e => SqT.of (sp _ _ (t4 i t e))⟩
end
end K54
end
/-! ## T16 -/
section
set_option Elab.async false
set_option linter.all false
set_option maxRecDepth 100000
set_option maxHeartbeats 4000000
namespace K54
open PySem PySem.Spec PyProof.Rows L2 LamX NdefX
open MT (PT wL TOk CL tsum ren)
section
variable {P : Program} {w : World} {K : PySem.W.Frag} {mg : Str → Option Value} {base : Heap}
theorem len_tsum : ∀ l : List PT, (∀ e ∈ l, 1 ≤ e.2) → l.length ≤ tsum l
  | [], _ => Nat.le_refl _
  | e :: r, h => by
    have := len_tsum r fun d hd => h d (List.mem_cons_of_mem _ hd)
    have := h e List.mem_cons_self
    show r.length + 1 ≤ e.2 + tsum r
    omega
theorem TOk_len {n room : Nat} {l : List PT} (T : TOk n room l) : l.length ≤ room := Nat.le_trans (len_tsum l fun e he => (T.key e he).2.2) T.sum
/-- houses met from house 0 -/
structure Met (n : Nat) (l : List PT) (ms : List Nat) : Prop where
  nd : ms.Nodup
  lt : ∀ x ∈ ms, x < n
  con : ∀ f : Nat → Nat, (∀ e ∈ l, f e.1.1 = f e.1.2) → ∀ x ∈ ms, f x = f 0
theorem Met.len {n : Nat} {l : List PT} {ms : List Nat} (m : Met n l ms) : ms.length ≤ n := MT.nodup_len n ms m.nd m.lt
theorem Met.more {n : Nat} {l : List PT} {ms : List Nat} (m : Met n l ms) {e : PT} (he : e ∈ l) {a b : Nat} (hab : (e.1.1 = a ∧ e.1.2 = b) ∨ (e.1.1 = b ∧ e.1.2 = a)) (ha : a ∈ ms) (hb : b ∉ ms) (hn : b < n) : Met n l (ms ++ [b]) := by
  refine ⟨?_, fun x hx => ?_, fun f hf x hx => ?_⟩
  · rw [List.nodup_append]
    exact ⟨m.nd, by simp, fun x hx y hy z => hb (by rw [← (List.mem_singleton.mp hy : y = b), ← z]; exact hx)⟩
  · rcases List.mem_append.mp hx with h | h
    · exact m.lt x h
    · rw [List.mem_singleton.mp h]; exact hn
  · rcases List.mem_append.mp hx with h | h
    · exact m.con f hf x h
    · rw [List.mem_singleton.mp h]
      have h1 := hf e he
      have h2 := m.con f hf a ha
      rcases hab with ⟨p, q⟩ | ⟨p, q⟩
      · rw [p, q] at h1; rw [← h1]; exact h2
      · rw [p, q] at h1; rw [h1]; exact h2
theorem Met.all {n : Nat} {l : List PT} {ms : List Nat} (m : Met n l ms) (h : ms.length = n) : CL n l := fun f hf a ha b hb => by
  have mem : ∀ x, x < n → x ∈ ms := fun x hx => Decidable.byContradiction fun hn => by
    have : (ms ++ [x]).length ≤ n := MT.nodup_len n _ (by
      rw [List.nodup_append]
      exact ⟨m.nd, by simp, fun y hy z hz q => hn (by rw [← (List.mem_singleton.mp hz : z = x), ← q]; exact hy)⟩) fun y hy => by
        rcases List.mem_append.mp hy with q | q
        · exact m.lt y q
        · rw [List.mem_singleton.mp q]; exact hx
    rw [List.length_append] at this
    simp at this
    omega
  rw [m.con f hf a (mem a ha), m.con f hf b (mem b hb)]
/-! ### _law_renamed -/
theorem nodup_take {l : List PT} (nd : (l.map (·.1)).Nodup) {i : Nat} {e : PT} (he : l[i]? = some e) : e.1 ∉ (l.take i).map (·.1) := fun z => by
  have hsplit : l.map (·.1) = (l.take i).map (·.1) ++ (l.drop i).map (·.1) := by rw [← List.map_append, List.take_append_drop]
  rw [hsplit, List.nodup_append] at nd
  refine nd.2.2 _ z e.1 ?_ rfl
  obtain ⟨hi, ei⟩ := List.getElem?_eq_some_iff.mp he
  rw [List.drop_eq_getElem_cons hi, ei]
  exact List.mem_map.mpr ⟨e, List.mem_cons_self, rfl⟩
theorem pair_eq (nm : List Nat) (e : PT) : [V.int (if ((nm.getD e.1.2 0 : Nat) : Int) < (nm.getD e.1.1 0 : Nat) then ((nm.getD e.1.2 0 : Nat) : Int) else (nm.getD e.1.1 0 : Nat)), V.int (if ((nm.getD e.1.2 0 : Nat) : Int) > (nm.getD e.1.1 0 : Nat) then ((nm.getD e.1.2 0 : Nat) : Int) else (nm.getD e.1.1 0 : Nat))] = (kk (ren nm e).1).map kV := by
  have h1 : (if ((nm.getD e.1.2 0 : Nat) : Int) < (nm.getD e.1.1 0 : Nat) then ((nm.getD e.1.2 0 : Nat) : Int) else (nm.getD e.1.1 0 : Nat)) = (((ren nm e).1.1 : Nat) : Int) := by
    show _ = ((min (nm.getD e.1.1 0) (nm.getD e.1.2 0) : Nat) : Int)
    split <;> omega
  have h2 : (if ((nm.getD e.1.2 0 : Nat) : Int) > (nm.getD e.1.1 0 : Nat) then ((nm.getD e.1.2 0 : Nat) : Int) else (nm.getD e.1.1 0 : Nat)) = (((ren nm e).1.2 : Nat) : Int) := by
    show _ = ((max (nm.getD e.1.1 0) (nm.getD e.1.2 0) : Nat) : Int)
    split <;> omega
  rw [h1, h2]
  rfl
theorem perm_ins {nm : List Nat} {i : Nat} (p : nm.Perm (List.range i)) (j : Nat) : (nm.take j ++ [i] ++ nm.drop j).Perm (List.range (i + 1)) := by
  rw [List.append_assoc, List.range_succ]
  refine (List.perm_middle (l₁ := nm.take j) (l₂ := nm.drop j) (a := i)).trans ?_
  rw [List.take_append_drop]
  exact (List.Perm.cons i p).trans (List.perm_append_singleton i _).symm
def spRenamed (K : PySem.W.Frag) : Sp := fun vs H Q _ => ∃ (d : Addr) (c : Int) (n room : Nat) (l : List PT), vs = [.ref d, .int c, .int (n : Nat)] ∧ H d = some (.dT (kT l)) ∧ TOk n room l ∧ room ≤ 8 ∧ CL n l ∧ n ≤ 7 ∧ ∀ H' d' l', Same H H' → H' d' = some (.dT (kT l')) → TOk n room l' → CL n l' → Q (.ref d') H'
theorem ok_renamed {f : Addr} {fd : FuncData} {k : Nat} (F : Fun K "_law_renamed" "_law_renamed" sRenamed f fd) (M : Mg mg) : FnOk P w K mg base CX0 (k + 1) f fd ["_law_found", "_law_cell_here", "_law_many"] (spRenamed K) := by
  refine F.ok scRenamed (fun vs H Q E h => ?_) (fun cdv A outer s H vs Q E hr h => ?_)
  · obtain ⟨d, c, n, room, l, rfl, _⟩ := h
    rfl
  · obtain ⟨d, c, n, room, l, rfl, hd, T, h8, C, h7, q⟩ := h
    have hu := hu_of hr
    refine ⟨_, pss_cons (ps_set (i := 3) scRenamed.nd rfl (.inl rfl) (pe_lst pa_nil))
      (pss_cons (ps_for PassesOwn.never rfl (pi_range1 rfl M.range (pa_cons (pv 2) pa_nil)) (pg_name (i := 4) scRenamed.nd rfl (.inl rfl))
        (pss_cons (ps_expr (pe_bm PySem.F.plainAttrs_list PySem.F.slot_list_insert PySem.F.type_list_insert mt_insert (pv 3) (pa_cons (pe_op op_mod (pv 1) (pe_op op_add (pv 4) pe_int)) (pa_cons (pv 4) pa_nil))))
        (pss_one (ps_set (i := 1) scRenamed.nd rfl (.inl rfl) (pe_op op_fdiv (pv 1) (pe_op op_add (pv 4) pe_int))))))
      (pss_cons (ps_set (i := 5) scRenamed.nd rfl (.inl rfl) pe_dnewT)
      (pss_cons (ps_lock (ps_for PassesOwn.never rfl (pi_keys (pv 0)) (pg_tup rfl (pgs_cons (pg_name (i := 6) scRenamed.nd rfl (.inl rfl)) (pgs_cons (pg_name (i := 7) scRenamed.nd rfl (.inl rfl)) pgs_nil)))
        (pss_cons (ps_set (i := 8) scRenamed.nd rfl (.inl rfl) (pe_tup (pa_cons (pe_callB (call_min2 rfl) (by rfl) M.min (by decide +kernel) (pa_cons (pe_ix (ixl K) (pv 3) (pv 6) (fun _ _ => rfl)) (pa_cons (pe_ix (ixl K) (pv 3) (pv 7) (fun _ _ => rfl)) pa_nil)))
            (pa_cons (pe_callB (call_max2 rfl) (by rfl) M.max (by decide +kernel) (pa_cons (pe_ix (ixl K) (pv 3) (pv 6) (fun _ _ => rfl)) (pa_cons (pe_ix (ixl K) (pv 3) (pv 7) (fun _ _ => rfl)) pa_nil))) pa_nil))))
        (pss_one (ps_asg (pe_dget hu (pv 0) (pe_tup (pa_cons (pv 6) (pa_cons (pv 7) pa_nil))) (fun _ _ => rfl)) (pg_sub (pv 5) (pv 8) (set_dict hu)))))))
      (pss_one (ps_ret (pv 5)))))), ?_⟩
    refine ⟨Nat.zero_le _, fun N hN => ?_⟩
    refine ⟨.int (n : Nat), rfl, (n : Nat), rfl, by omega, by omega, ?_⟩
    rw [show ((n : Nat) : Int).toNat = n from rfl]
    refine for_range (lo := 0) (n := n) (fun i σ H1 => ∃ (c' : Int) (y4 : Option V) (nm : List Nat), σ = [some (.ref d), some (.int c'), some (.int (n : Nat)), some (.ref N), y4, none, none, none, none] ∧ Same H H1 ∧ H1 N = some (.lst (nV nm)) ∧ nm.Perm (List.range i))
      ⟨c, none, [], rfl, same_upd hN, upd_same, List.Perm.refl _⟩ (fun i σ H1 hi hp => ?_) (fun σ H1 hp => ?_)
    · obtain ⟨c', y4, nm, rfl, s1, n1, p1⟩ := hp
      have hl : nm.length = i := by rw [p1.length_eq, List.length_range]
      have hpos : (0 : Int) < 0 + (i : Nat) + 1 := by omega
      refine ⟨.ref N, rfl, .inl ⟨rfl, _, SqL.of n1⟩, .int c', rfl, .int (0 + (i : Nat)), rfl, _, _, rfl, rfl, _, _, rfl, rfl, hpos, .int (0 + (i : Nat)), rfl, N, nV nm, _, .int (0 + (i : Nat)), rfl, rfl, n1, by rw [nV_len]; exact line_lt (by omega), Int.emod_nonneg _ (by omega), ?_, ?_⟩
      · have := Int.emod_lt_of_pos c' hpos
        show c' % (0 + (i : Nat) + 1) < 2 ^ 63
        omega
      · have e : (nV nm).take (c' % (0 + (i : Nat) + 1)).toNat ++ [V.int (0 + (i : Nat))] ++ (nV nm).drop (c' % (0 + (i : Nat) + 1)).toNat = nV (nm.take (c' % (0 + (i : Nat) + 1)).toNat ++ [i] ++ nm.drop (c' % (0 + (i : Nat) + 1)).toNat) := by
          rw [nV_append, nV_append, show ((0 : Int) + (i : Nat)) = (i : Nat) by omega]
          unfold nV
          rw [List.map_take, List.map_drop]
          rfl
        refine ⟨.int c', rfl, .int (0 + (i : Nat)), rfl, _, _, rfl, rfl, _, _, rfl, rfl, ⟨hpos, by show (0 : Int) + (i : Nat) + 1 < 1073741824; omega⟩, _, _, _, rfl, same_but s1 hN, by rw [upd_same]; exact congrArg (fun z => some (HO.lst z)) e, perm_ins p1 _⟩
    · obtain ⟨c', y4, nm, rfl, s1, n1, p1⟩ := hp
      refine fun D hD => ?_
      have hd1 := s1 _ _ hd
      have nDd : D ≠ d := fun z => by rw [z, hd1] at hD; cases hD
      have nDN : D ≠ N := fun z => by rw [z, n1] at hD; cases hD
      have nNd : N ≠ d := fun z => by rw [z, hd1] at n1; cases n1
      have sD := same_upd (o := .dT []) hD
      have T' := T.renamed p1
      refine ⟨d, .dT (kT l), sD _ _ hd1, True.intro, fun od => ?_⟩
      refine ⟨.ref d, rfl, d, od, rfl, .inr ⟨kT l, upd_same, ?_⟩⟩
      have hB0 : (upd H1 d (.frz od (.dT (kT l)))) D = none := (upd_ne nDd).trans hD
      refine for_it walk_keysT (fun i σ H2 => ∃ y4 y6 y7 y8, σ = [some (.ref d), some (.int c'), some (.int (n : Nat)), some (.ref N), y4, some (.ref D), y6, y7, y8] ∧ Same (upd H1 d (.frz od (.dT (kT l)))) H2 ∧ H2 D = some (.dT (kT ((l.map (ren nm)).take i))))
        ⟨y4, none, none, none, rfl, fun b o e => ?_, (upd_ne nDd).trans upd_same⟩ (fun i σ H2 _ hp => ?_) (fun i x σ H2 H3 hi hp hy => ?_) (fun σ H2 hp => ?_)
      · by_cases hb : b = d
        · subst hb
          rw [upd_same] at e ⊢
          exact e
        · rw [upd_ne hb] at e ⊢
          exact sD _ _ e
      · obtain ⟨_, _, _, _, _, sB, _⟩ := hp
        exact sB _ _ upd_same
      · obtain ⟨y4', y6, y7, y8, rfl, sB, dD⟩ := hp
        obtain ⟨rfl, k0, v0, qt, hk, rfl, hq⟩ := hy
        obtain ⟨e, he, rfl, rfl⟩ := kT_get hk
        have key := T.key e (List.mem_of_getElem? he)
        have hl : nm.length = n := by rw [p1.length_eq, List.length_range]
        have hN3 := sB _ _ (upd_at n1 nNd)
        have ia := nV_at (ms := nm) (a := e.1.1) (by omega)
        have ib := nV_at (ms := nm) (a := e.1.2) (by omega)
        refine ⟨_, _, rfl, SqT.of hq, rfl, _, _, rfl, _, [], rfl, rfl, ?_⟩
        refine ⟨.ref N, rfl, .int (e.1.1 : Nat), rfl, N, _, _, _, rfl, rfl, SqL.of hN3, ia, .ref N, rfl, .int (e.1.2 : Nat), rfl, N, _, _, _, rfl, rfl, SqL.of hN3, ib, _, _, rfl, .ref N, rfl, .int (e.1.1 : Nat), rfl, N, _, _, _, rfl, rfl, SqL.of hN3, ia, .ref N, rfl, .int (e.1.2 : Nat), rfl, N, _, _, _, rfl, rfl, SqL.of hN3, ib, _, _, rfl,
          line_le (show 2 ≤ 100000 by decide), fun pr hpr => ?_⟩
        rw [pair_eq nm e]
        have sp := same_upd (o := .tup ((kk (ren nm e).1).map kV)) hpr
        have dD2 := sp _ _ dD
        refine ⟨.ref d, rfl, .int (e.1.1 : Nat), rfl, .int (e.1.2 : Nat), rfl, line_le (show 2 ≤ 100000 by decide), fun t ht => ?_⟩
        have st := same_upd (o := .tup [V.int (e.1.1 : Nat), V.int (e.1.2 : Nat)]) ht
        have sA := sB.trans (sp.trans st)
        have eren : (l.map (ren nm))[i]? = some (ren nm e) := by rw [List.getElem?_map, he]; rfl
        refine ⟨d, .int (e.2 : Nat), rfl, .inr ⟨kT l, kk e.1, _, .inr ⟨od, sA _ _ upd_same⟩, rfl, upd_same, by rw [valV_kT, lk_some T.nd (List.mem_of_getElem? he)]; rfl⟩, .ref D, rfl, .ref pr, rfl, D, _, rfl, DPut.t (st _ _ dD2) (st _ _ upd_same) ?_, ?_⟩
        · rw [kT_len, List.length_take]
          have : (l.map (ren nm)).length = l.length := List.length_map _
          have hsz : l.length ≤ 8 := by
            have := T.sum
            have hh : ∀ l : List PT, (∀ e ∈ l, 1 ≤ e.2) → l.length ≤ tsum l := by
              intro l
              induction l with
              | nil => intro _; exact Nat.le_refl _
              | cons e r ih =>
                intro h
                have := ih fun d hd => h d (List.mem_cons_of_mem _ hd)
                have := h e List.mem_cons_self
                show r.length + 1 ≤ e.2 + tsum r
                omega
            have := hh l fun e he => (T.key e he).2.2
            omega
          exact line_lt (by omega)
        · refine ⟨_, _, _, _, rfl, same_but sA hB0, ?_⟩
          rw [upd_same, take_snoc eren]
          exact congrArg (fun z => some (HO.dT z)) (kT_put (nodup_take T'.nd eren))
      · obtain ⟨y4', y6, y7, y8, rfl, sB, dD⟩ := hp
        rw [kT_len, ← List.length_map (ren nm), List.take_length] at dD
        refine ⟨sB _ _ upd_same, ?_⟩
        refine ⟨.ref D, rfl, q _ D (l.map (ren nm)) (fun b o e => ?_) (upd_at dD nDd) T' (C.renamed p1)⟩
        by_cases hb : b = d
        · subst hb
          rw [hd] at e
          cases e
          exact upd_same
        · exact upd_at (sB _ _ (upd_at (s1 _ _ e) hb)) hb
/-! ### _law_read_times -/
abbrev RS := Int × Nat × List PT
def rdDp (r : Int) (room : Nat) : Nat := (if ((room : Nat) : Int) < r % 2 * (1 + r / 2 % 9) then ((room : Nat) : Int) else r % 2 * (1 + r / 2 % 9)).toNat
def rdR (r : Int) : Int := if r % 2 = 0 then r / 2 else r / 2 / 9
def stepP (i j : Nat) (s : RS) : RS := (rdR s.1, s.2.1 - rdDp s.1 s.2.1, if 0 < rdDp s.1 s.2.1 then s.2.2 ++ [((i, j), rdDp s.1 s.2.1)] else s.2.2)
def rdIn (i k : Nat) (s : RS) : RS := (List.range k).foldl (fun s j => stepP i (i + 1 + j) s) s
def rdOut (n k : Nat) (s : RS) : RS := (List.range k).foldl (fun s i => rdIn i (n - (i + 1)) s) s
theorem rdIn_succ (i k : Nat) (s : RS) : rdIn i (k + 1) s = stepP i (i + 1 + k) (rdIn i k s) := by
  unfold rdIn
  rw [List.range_succ, List.foldl_append]
  rfl
theorem rdOut_succ (n k : Nat) (s : RS) : rdOut n (k + 1) s = rdIn k (n - (k + 1)) (rdOut n k s) := by
  unfold rdOut
  rw [List.range_succ, List.foldl_append]
  rfl
def stM1 (ms : List Nat) (e : PT) : List Nat := if e.1.1 ∈ ms ∧ e.1.2 ∉ ms then ms ++ [e.1.2] else ms
def stM2 (ms : List Nat) (e : PT) : List Nat := if e.1.2 ∈ ms ∧ e.1.1 ∉ ms then ms ++ [e.1.1] else ms
def stM (ms : List Nat) (e : PT) : List Nat := stM2 (stM1 ms e) e
def mtOut (l : List PT) (k : Nat) : List Nat := (List.range k).foldl (fun ms _ => l.foldl stM ms) [0]
theorem mtOut_succ (l : List PT) (k : Nat) : mtOut l (k + 1) = l.foldl stM (mtOut l k) := by
  unfold mtOut
  rw [List.range_succ, List.foldl_append]
  rfl
def readOk (r : Int) (n room : Nat) : Bool := decide ((mtOut (rdOut n n (r, room, [])).2.2 n).length = n)
def spRead (K : PySem.W.Frag) : Sp := fun vs H Q _ => ∃ (r : Int) (n room : Nat), vs = [.int r, .int (n : Nat), .int (room : Nat), .int 9] ∧ 0 < n ∧ n ≤ 7 ∧ room ≤ 8 ∧ (readOk r n room = false → ∀ H', Same H H' → Q .non H') ∧
  (readOk r n room = true → ∀ H' d l, Same H H' → H' d = some (.dT (kT l)) → TOk n room l → CL n l → Q (.ref d) H')
theorem ok_read {f : Addr} {fd : FuncData} {k : Nat} (F : Fun K "_law_read_times" "_law_read_times" sReadTimes f fd) (M : Mg mg) : FnOk P w K mg base CX0 (k + 1) f fd ["_law_rest", "_law_many", "_law_room", "_law_most"] (spRead K) := by
  refine F.ok scReadTimes (fun vs H Q E h => ?_) (fun cdv A outer s H vs Q E hr h => ?_)
  · obtain ⟨r, n, room, rfl, _⟩ := h
    rfl
  · obtain ⟨r, n, room, rfl, h0, h7, h8, q1, q2⟩ := h
    have hu := hu_of hr
    refine ⟨_, pss_cons (ps_set (i := 4) scReadTimes.nd rfl (.inl rfl) pe_dnewT)
      (pss_cons (ps_set (i := 5) scReadTimes.nd rfl (.inl rfl) (pe_lst (pa_cons pe_int pa_nil)))
      (pss_cons (ps_for PassesOwn.never rfl (pi_range1 rfl M.range (pa_cons (pv 1) pa_nil)) (pg_name (i := 6) scReadTimes.nd rfl (.inl rfl))
        (pss_one (ps_for PassesOwn.never rfl (pi_range2 (by rfl) M.range (pa_cons (pe_op op_add (pv 6) pe_int) (pa_cons (pv 1) pa_nil))) (pg_name (i := 7) scReadTimes.nd rfl (.inl rfl))
          (pss_cons (ps_set (i := 8) scReadTimes.nd rfl (.inl rfl) (pe_callB (call_min2 rfl) (by rfl) M.min (by decide +kernel) (pa_cons (pe_op op_mul (pe_op op_mod (pv 0) pe_int) (pe_op op_add pe_int (pe_op op_mod (pe_op op_fdiv (pv 0) pe_int) (pv 3)))) (pa_cons (pv 2) pa_nil))))
          (pss_cons (ps_set (i := 0) scReadTimes.nd rfl (.inl rfl) (pe_ix (ixl K) (pe_lst (pa_cons (pe_op op_fdiv (pv 0) pe_int) (pa_cons (pe_op op_fdiv (pe_op op_fdiv (pv 0) pe_int) (pv 3)) pa_nil))) (pe_op op_mod (pv 0) pe_int) (fun _ _ => rfl)))
          (pss_one (ps_if (pt_cmpR op_gt (pv 8) pe_int (nomark _))
            (pss_cons (ps_asg (pv 8) (pg_sub (pv 4) (pe_tup (pa_cons (pv 6) (pa_cons (pv 7) pa_nil))) (set_dict hu)))
            (pss_one (ps_set (i := 2) scReadTimes.nd rfl (.inl rfl) (pe_op op_sub (pv 2) (pv 8))))) pss_nil)))))))
      (pss_cons (ps_for PassesOwn.never rfl (pi_range1 rfl M.range (pa_cons (pv 1) pa_nil)) (pg_name (i := 9) scReadTimes.nd rfl (.inl rfl))
        (pss_one (ps_lock (ps_for PassesOwn.never rfl (pi_keys (pv 4)) (pg_tup rfl (pgs_cons (pg_name (i := 6) scReadTimes.nd rfl (.inl rfl)) (pgs_cons (pg_name (i := 7) scReadTimes.nd rfl (.inl rfl)) pgs_nil)))
          (pss_cons (ps_if (PW.pt (pw_and (pt_cmpR (inS K) (pv 6) (pv 5) (by rfl)) (pw_and1 (pt_cmpR (notInS K) (pv 7) (pv 5) (by rfl)))))
            (pss_one (ps_expr (pe_bm PySem.F.plainAttrs_list PySem.F.slot_list_append PySem.F.type_list_append mt_append (pv 5) (pa_cons (pv 7) pa_nil)))) pss_nil)
          (pss_one (ps_if (PW.pt (pw_and (pt_cmpR (inS K) (pv 7) (pv 5) (by rfl)) (pw_and1 (pt_cmpR (notInS K) (pv 6) (pv 5) (by rfl)))))
            (pss_one (ps_expr (pe_bm PySem.F.plainAttrs_list PySem.F.slot_list_append PySem.F.type_list_append mt_append (pv 5) (pa_cons (pv 6) pa_nil)))) pss_nil)))))))
      (pss_one (ps_ret (pe_ix (ixl K) (pe_lst (pa_cons pe_non (pa_cons (pv 4) pa_nil))) (pe_callTy call_int1 (by rfl) M.int (by decide +kernel) (pa_cons (pe_cmpR op_eq (pe_callB (lenS K) (by rfl) M.len PySem.boot_len (pa_cons (pv 5) pa_nil)) (pv 1) (nomark _)) pa_nil)) (fun _ _ => rfl))))))), ?_⟩
    refine fun D hD => ?_
    have s0 := same_upd (o := .dT []) hD
    refine ⟨line_le (show 1 ≤ 100000 by decide), fun Mt hMt0 => ?_⟩
    have hMt : H Mt = none := s0.free hMt0
    have nDM : D ≠ Mt := fun z => by rw [← z, upd_same] at hMt0; cases hMt0
    have s1 := s0.trans (same_upd (o := .lst [V.int 0]) hMt0)
    refine ⟨.int (n : Nat), rfl, (n : Nat), rfl, by omega, by omega, ?_⟩
    rw [show ((n : Nat) : Int).toNat = n from rfl]
    refine for_range (lo := 0) (n := n) (fun i σ H1 => ∃ (r' : Int) (room' : Nat) (l : List PT) (y6 y7 y8 : Option V), σ = [some (.int r'), some (.int (n : Nat)), some (.int (room' : Nat)), some (.int 9), some (.ref D), some (.ref Mt), y6, y7, y8, none] ∧ Same H H1 ∧ H1 Mt = some (.lst (nV [0])) ∧ H1 D = some (.dT (kT l)) ∧ TOk n room l ∧ tsum l + room' ≤ room ∧ (∀ e ∈ l, e.1.1 < i) ∧ (r', room', l) = rdOut n i (r, room, []))
      ⟨r, room, [], none, none, none, rfl, s1, upd_same, upd_at upd_same nDM, TOk.nil, by show 0 + room ≤ room; omega, fun e he => absurd he (by simp), rfl⟩ (fun i σ H1 hi hp => ?_) (fun σ H1 hp => ?_)
    · obtain ⟨r', room', l, y6, y7, y8, rfl, sH, hm, hDl, T, hsum, hlt, heq⟩ := hp
      refine ⟨.int (0 + (i : Nat)), rfl, _, _, rfl, rfl, .int (n : Nat), rfl, _, (n : Nat), rfl, ⟨by omega, by omega, by omega, by omega⟩, ?_⟩
      rw [show ((0 : Int) + (i : Nat) + 1) = ((i + 1 : Nat) : Int) by omega, show (((n : Nat) : Int) - ((i + 1 : Nat) : Int)).toNat = n - (i + 1) by omega]
      refine for_range (lo := ((i + 1 : Nat) : Int)) (n := n - (i + 1)) (fun j σ H2 => ∃ (r' : Int) (room' : Nat) (l : List PT) (y7 y8 : Option V), σ = [some (.int r'), some (.int (n : Nat)), some (.int (room' : Nat)), some (.int 9), some (.ref D), some (.ref Mt), some (.int (i : Nat)), y7, y8, none] ∧ Same H H2 ∧ H2 Mt = some (.lst (nV [0])) ∧ H2 D = some (.dT (kT l)) ∧ TOk n room l ∧ tsum l + room' ≤ room ∧ (∀ e ∈ l, e.1.1 < i ∨ (e.1.1 = i ∧ e.1.2 < i + 1 + j)) ∧ (r', room', l) = rdIn i j (rdOut n i (r, room, [])))
        ⟨r', room', l, y7, y8, by rw [show ((0 : Int) + (i : Nat)) = (i : Nat) by omega]; rfl, sH, hm, hDl, T, hsum, fun e he => .inl (hlt e he), heq⟩ (fun j σ H2 hj hp2 => ?_) (fun σ H2 hp2 => ?_)
      · obtain ⟨r2, room2, l2, z7, z8, rfl, s2, m2, d2, T2, hs2, hl2, heq2⟩ := hp2
        have hb : i + 1 + j < n := by omega
        rw [show (((i + 1 : Nat) : Int) + (j : Nat)) = ((i + 1 + j : Nat) : Int) by omega]
        have hmod : 0 ≤ r2 % 2 ∧ r2 % 2 < 2 := by omega
        have hm9 : 0 ≤ r2 / 2 % 9 := Int.emod_nonneg _ (by omega)
        have hprod : 0 ≤ r2 % 2 * (1 + r2 / 2 % 9) := Int.mul_nonneg hmod.1 (by omega)
        -- the times of this pair
        obtain ⟨dp, hdd⟩ : ∃ dp : Nat, dp = rdDp r2 room2 := ⟨_, rfl⟩
        have hdp : (if ((room2 : Nat) : Int) < r2 % 2 * (1 + r2 / 2 % 9) then ((room2 : Nat) : Int) else r2 % 2 * (1 + r2 / 2 % 9)) = (dp : Nat) := by
          rw [hdd]
          unfold rdDp
          rw [Int.toNat_of_nonneg]
          split <;> omega
        have hdl : dp ≤ room2 := by
          by_cases h : ((room2 : Nat) : Int) < r2 % 2 * (1 + r2 / 2 % 9)
          · rw [if_pos h] at hdp
            omega
          · rw [if_neg h] at hdp
            omega
        obtain ⟨r3, hr3d⟩ : ∃ r3, r3 = rdR r2 := ⟨_, rfl⟩
        have hr3 : atI [V.int (r2 / 2), V.int (r2 / 2 / 9)] (r2 % 2) = some (.int r3) := by
          rw [hr3d]
          unfold rdR
          by_cases h : r2 % 2 = 0
          · rw [if_pos h, h]
            exact atI_nat (j := 0) rfl
          · have h1 : r2 % 2 = 1 := by omega
            rw [if_neg h, h1]
            exact atI_nat (j := 1) rfl
        have heq3 : rdIn i (j + 1) (rdOut n i (r, room, [])) = (r3, room2 - dp, if 0 < dp then l2 ++ [((i, i + 1 + j), dp)] else l2) := by
          rw [rdIn_succ, ← heq2, hr3d, hdd]
          rfl
        refine ⟨.int r2, rfl, _, _, rfl, rfl, (by show (0 : Int) < 2; omega), .int r2, rfl, _, _, rfl, rfl, ⟨by omega, by omega⟩, .int 9, rfl, _, _, rfl, rfl, (by show (0 : Int) < 9; omega), _, _, rfl, rfl, _, _, rfl, rfl, .inl ⟨?_, ?_⟩, .int (room2 : Nat), rfl, r2 % 2 * (1 + r2 / 2 % 9), ((room2 : Nat) : Int), rfl, ?_⟩
        · show -(2 ^ 64) < r2 % 2
          omega
        · show r2 % 2 < 2 ^ 64
          omega
        rw [hdp]
        refine ⟨.int r2, rfl, _, _, rfl, rfl, ⟨by omega, by omega⟩, .int r2, rfl, _, _, rfl, rfl, ⟨by omega, by omega⟩, .int 9, rfl, _, _, rfl, rfl, ⟨by omega, by omega⟩, line_le (show 2 ≤ 100000 by decide), fun z hz => ?_⟩
        have sz := same_upd (o := .lst [V.int (r2 / 2), V.int (r2 / 2 / 9)]) hz
        refine ⟨.int r2, rfl, _, _, rfl, rfl, (by show (0 : Int) < 2; omega), z, _, _, .int r3, rfl, rfl, SqL.of upd_same, hr3, ?_⟩
        have s3 := s2.trans sz
        have m3 := sz _ _ m2
        have d3 := sz _ _ d2
        refine ⟨.int (dp : Nat), rfl, _, _, rfl, rfl, _, rfl, ite2 (fun e1 => ?_) (fun e1 => ?_)⟩
        · have e1' : (0 : Int) < (dp : Nat) := of_decide_eq_true e1
          refine ⟨.int (dp : Nat), rfl, .ref D, rfl, .int (i : Nat), rfl, .int (i + 1 + j : Nat), rfl, line_le (show 2 ≤ 100000 by decide), fun t ht => ?_⟩
          have st := same_upd (o := .tup [V.int (i : Nat), V.int (i + 1 + j : Nat)]) ht
          have hnew : (i, i + 1 + j) ∉ l2.map (·.1) := fun hmem => by
            obtain ⟨e, he, heq⟩ := List.mem_map.mp hmem
            have := hl2 e he
            rw [heq] at this
            rcases this with h | ⟨_, h⟩ <;> (dsimp only at h; omega)
          have hll := TOk_len T2
          refine ⟨D, _, rfl, DPut.t (k := kk (i, i + 1 + j)) (st _ _ d3) upd_same (by rw [kT_len]; exact line_lt (by omega)), ?_⟩
          refine ⟨.int (room2 : Nat), rfl, .int (dp : Nat), rfl, _, _, rfl, rfl, ?_⟩
          refine ⟨r3, room2 - dp, l2 ++ [((i, i + 1 + j), dp)], some (.int (i + 1 + j : Nat)), some (.int (dp : Nat)), ?_, same_but (s3.trans st) hD, upd_at (st _ _ m3) nDM.symm, ?_, T2.snoc (by omega) hb (by omega) (by omega) hnew, ?_, fun e he => ?_, ?_⟩
          · rw [show (((room2 - dp : Nat) : Int)) = ((room2 : Nat) : Int) - (dp : Nat) by omega]
            rfl
          · rw [upd_same]
            exact congrArg (fun z => some (HO.dT z)) (kT_put hnew)
          · rw [MT.tsum_append]
            show tsum l2 + (dp + 0) + (room2 - dp) ≤ room
            omega
          · rcases List.mem_append.mp he with h | h
            · rcases hl2 e h with q | ⟨q, q2⟩
              · exact .inl q
              · exact .inr ⟨q, by omega⟩
            · rw [List.mem_singleton.mp h]
              exact .inr ⟨rfl, by show i + 1 + j < i + 1 + (j + 1); omega⟩
          · rw [heq3, if_pos (by omega)]
        · have e1' : ¬ (0 : Int) < (dp : Nat) := fun z => e1 (decide_eq_true z)
          refine ⟨r3, room2, l2, _, _, rfl, s3, m3, d3, T2, hs2, fun e he => ?_, ?_⟩
          · rcases hl2 e he with q | ⟨q, q2⟩
            · exact .inl q
            · exact .inr ⟨q, by omega⟩
          · rw [heq3, if_neg (by omega), show room2 - dp = room2 by omega]
      · obtain ⟨r2, room2, l2, z7, z8, rfl, s2, m2, d2, T2, hs2, hl2, heq2⟩ := hp2
        refine ⟨r2, room2, l2, _, _, _, rfl, s2, m2, d2, T2, hs2, fun e he => ?_, by rw [rdOut_succ]; exact heq2⟩
        have := hl2 e he
        omega
    · obtain ⟨r', room', l, y6, y7, y8, rfl, sH, hm, hDl, T, hsum, _, heq⟩ := hp
      have hl : (rdOut n n (r, room, [])).2.2 = l := by rw [← heq]
      refine ⟨.int (n : Nat), rfl, (n : Nat), rfl, by omega, by omega, ?_⟩
      rw [show ((n : Nat) : Int).toNat = n from rfl]
      have cin : ∀ {x : Nat} {ms : List Nat}, (if false = true then !ms.contains x else ms.contains x) = true → x ∈ ms := fun {x ms} h => by
        have : ms.contains x = true := by simpa using h
        exact List.contains_iff_mem.mp this
      have cinN : ∀ {x : Nat} {ms : List Nat}, ¬ (if false = true then !ms.contains x else ms.contains x) = true → x ∉ ms := fun {x ms} h hm => h (by rw [List.contains_iff_mem.mpr hm]; rfl)
      have cnotN : ∀ {x : Nat} {ms : List Nat}, ¬ (if true = true then !ms.contains x else ms.contains x) = true → x ∈ ms := fun {x ms} h => by
        have : ms.contains x = true := by simpa using h
        exact List.contains_iff_mem.mp this
      have cnot : ∀ {x : Nat} {ms : List Nat}, (if true = true then !ms.contains x else ms.contains x) = true → x ∉ ms := fun {x ms} h hm => by
        rw [List.contains_iff_mem.mpr hm] at h
        simp at h
      refine for_range (lo := 0) (n := n) (fun i σ H1 => ∃ (ms : List Nat) (y6 y7 y9 : Option V), σ = [some (.int r'), some (.int (n : Nat)), some (.int (room' : Nat)), some (.int 9), some (.ref D), some (.ref Mt), y6, y7, y8, y9] ∧ Same H H1 ∧ H1 Mt = some (.lst (nV ms)) ∧ H1 D = some (.dT (kT l)) ∧ Met n l ms ∧ ms = mtOut l i)
        ⟨[0], y6, y7, none, rfl, sH, hm, hDl, ⟨by simp, fun x hx => by rw [List.mem_singleton.mp hx]; exact h0, fun f _ x hx => by rw [List.mem_singleton.mp hx]⟩, rfl⟩ (fun i σ H1 hi hp => ?_) (fun σ H1 hp => ?_)
      · obtain ⟨ms, y6, y7, y9, rfl, s1, m1, d1, met, hms⟩ := hp
        refine ⟨D, .dT (kT l), d1, True.intro, fun od => ?_⟩
        refine ⟨.ref D, rfl, D, od, rfl, .inr ⟨kT l, upd_same, ?_⟩⟩
        refine for_it walk_keysT (fun k σ H2 => ∃ (ms : List Nat) (y6 y7 y9 : Option V), σ = [some (.int r'), some (.int (n : Nat)), some (.int (room' : Nat)), some (.int 9), some (.ref D), some (.ref Mt), y6, y7, y8, y9] ∧ Same H H2 ∧ H2 D = some (.frz od (.dT (kT l))) ∧ H2 Mt = some (.lst (nV ms)) ∧ Met n l ms ∧ ms = (l.take k).foldl stM (mtOut l i))
          ⟨ms, _, _, _, rfl, same_but s1 hD, upd_same, upd_at m1 nDM.symm, met, hms⟩ (fun k σ H2 _ hp => ?_) (fun k x σ H2 H3 hk hp hy => ?_) (fun σ H2 hp => ?_)
        · obtain ⟨_, _, _, _, _, _, f2, _⟩ := hp
          exact f2
        · obtain ⟨ms, y6, y7, y9, rfl, s2, f2, m2, met, hms⟩ := hp
          obtain ⟨rfl, k0, v0, qt, hkk, rfl, hq⟩ := hy
          obtain ⟨e, he, rfl, rfl⟩ := kT_get hkk
          have hel := List.mem_of_getElem? he
          have key := T.key e hel
          have fin : ∀ ms', ms' = stM ms e → ms' = (l.take (k + 1)).foldl stM (mtOut l i) := fun ms' h => by
            rw [take_snoc he, List.foldl_append, ← hms]
            exact h
          refine ⟨_, _, rfl, SqT.of hq, rfl, _, _, rfl, _, [], rfl, rfl, ?_⟩
          refine ⟨.int (e.1.1 : Nat), rfl, .ref Mt, rfl, Mt, nV ms, rfl, .inl (SqL.of m2), rfl, flat_nV _, _, rfl, ?_⟩
          rw [inV_nV]
          refine ite2 (fun e1 => ?_) (fun e1 => iteF ?_)
          · have e1' := cin e1
            refine ⟨.int (e.1.2 : Nat), rfl, .ref Mt, rfl, Mt, nV ms, rfl, .inl (SqL.of m2), rfl, flat_nV _, _, rfl, ?_⟩
            rw [inV_nV]
            refine ite2 (fun e2 => ?_) (fun e2 => ?_)
            · have e2' := cnot e2
              have lm := met.len
              refine ⟨.ref Mt, rfl, .inl ⟨rfl, _, SqL.of m2⟩, .int (e.1.2 : Nat), rfl, Mt, nV ms, .int (e.1.2 : Nat), rfl, rfl, m2, by rw [nV_len]; exact line_lt (by omega), ?_⟩
              have s3 := same_but (o := .lst (nV ms ++ [V.int (e.1.2 : Nat)])) s2 hMt
              have f3 := upd_at (o := .lst (nV ms ++ [V.int (e.1.2 : Nat)])) f2 nDM
              have m3 : (upd H3 Mt (.lst (nV ms ++ [V.int (e.1.2 : Nat)]))) Mt = some (.lst (nV (ms ++ [e.1.2]))) := by rw [upd_same, nV_append]; rfl
              have met3 := met.more hel (.inl ⟨rfl, rfl⟩) e1' e2' key.2.1
              have q1 : stM1 ms e = (ms ++ [e.1.2]) := if_pos ⟨e1', e2'⟩
              refine ⟨.int (e.1.2 : Nat), rfl, .ref Mt, rfl, Mt, nV (ms ++ [e.1.2]), rfl, .inl (SqL.of m3), rfl, flat_nV _, _, rfl, ?_⟩
              rw [inV_nV]
              refine ite2 (fun e3 => ?_) (fun e3 => iteF ⟨_, _, _, _, rfl, s3, f3, m3, met3, fin _ (by unfold stM; rw [q1]; exact (if_neg fun z => cinN e3 z.1).symm)⟩)
              have e3' := cin e3
              refine ⟨.int (e.1.1 : Nat), rfl, .ref Mt, rfl, Mt, nV (ms ++ [e.1.2]), rfl, .inl (SqL.of m3), rfl, flat_nV _, _, rfl, ?_⟩
              rw [inV_nV]
              refine ite2 (fun e4 => ?_) (fun e4 => ⟨_, _, _, _, rfl, s3, f3, m3, met3, fin _ (by unfold stM; rw [q1]; exact (if_neg fun z => z.2 (cnotN e4)).symm)⟩)
              have e4' := cnot e4
              have lm := met3.len
              refine ⟨.ref Mt, rfl, .inl ⟨rfl, _, SqL.of m3⟩, .int (e.1.1 : Nat), rfl, Mt, nV (ms ++ [e.1.2]), .int (e.1.1 : Nat), rfl, rfl, m3, by rw [nV_len]; exact line_lt (by omega), ?_⟩
              exact ⟨_, _, _, _, rfl, same_but s3 hMt, upd_at f3 nDM, by rw [upd_same, nV_append (ms ++ [e.1.2]) [e.1.1]]; rfl, met3.more hel (.inr ⟨rfl, rfl⟩) e3' e4' (by omega), fin _ (by unfold stM; rw [q1]; exact (if_pos ⟨e3', e4'⟩).symm)⟩
            · skip
              have q1 : stM1 ms e = ms := if_neg fun z => z.2 (cnotN e2)
              refine ⟨.int (e.1.2 : Nat), rfl, .ref Mt, rfl, Mt, nV ms, rfl, .inl (SqL.of m2), rfl, flat_nV _, _, rfl, ?_⟩
              rw [inV_nV]
              refine ite2 (fun e3 => ?_) (fun e3 => iteF ⟨_, _, _, _, rfl, s2, f2, m2, met, fin _ (by unfold stM; rw [q1]; exact (if_neg fun z => cinN e3 z.1).symm)⟩)
              have e3' := cin e3
              refine ⟨.int (e.1.1 : Nat), rfl, .ref Mt, rfl, Mt, nV ms, rfl, .inl (SqL.of m2), rfl, flat_nV _, _, rfl, ?_⟩
              rw [inV_nV]
              refine ite2 (fun e4 => ?_) (fun e4 => ⟨_, _, _, _, rfl, s2, f2, m2, met, fin _ (by unfold stM; rw [q1]; exact (if_neg fun z => z.2 (cnotN e4)).symm)⟩)
              have e4' := cnot e4
              have lm := met.len
              refine ⟨.ref Mt, rfl, .inl ⟨rfl, _, SqL.of m2⟩, .int (e.1.1 : Nat), rfl, Mt, nV ms, .int (e.1.1 : Nat), rfl, rfl, m2, by rw [nV_len]; exact line_lt (by omega), ?_⟩
              exact ⟨_, _, _, _, rfl, same_but s2 hMt, upd_at f2 nDM, by rw [upd_same, nV_append ms [e.1.1]]; rfl, met.more hel (.inr ⟨rfl, rfl⟩) e3' e4' (by omega), fin _ (by unfold stM; rw [q1]; exact (if_pos ⟨e3', e4'⟩).symm)⟩
          · skip
            have q1 : stM1 ms e = ms := if_neg fun z => cinN e1 z.1
            refine ⟨.int (e.1.2 : Nat), rfl, .ref Mt, rfl, Mt, nV ms, rfl, .inl (SqL.of m2), rfl, flat_nV _, _, rfl, ?_⟩
            rw [inV_nV]
            refine ite2 (fun e3 => ?_) (fun e3 => iteF ⟨_, _, _, _, rfl, s2, f2, m2, met, fin _ (by unfold stM; rw [q1]; exact (if_neg fun z => cinN e3 z.1).symm)⟩)
            have e3' := cin e3
            refine ⟨.int (e.1.1 : Nat), rfl, .ref Mt, rfl, Mt, nV ms, rfl, .inl (SqL.of m2), rfl, flat_nV _, _, rfl, ?_⟩
            rw [inV_nV]
            refine ite2 (fun e4 => ?_) (fun e4 => ⟨_, _, _, _, rfl, s2, f2, m2, met, fin _ (by unfold stM; rw [q1]; exact (if_neg fun z => z.2 (cnotN e4)).symm)⟩)
            have e4' := cnot e4
            have lm := met.len
            refine ⟨.ref Mt, rfl, .inl ⟨rfl, _, SqL.of m2⟩, .int (e.1.1 : Nat), rfl, Mt, nV ms, .int (e.1.1 : Nat), rfl, rfl, m2, by rw [nV_len]; exact line_lt (by omega), ?_⟩
            exact ⟨_, _, _, _, rfl, same_but s2 hMt, upd_at f2 nDM, by rw [upd_same, nV_append ms [e.1.1]]; rfl, met.more hel (.inr ⟨rfl, rfl⟩) e3' e4' (by omega), fin _ (by unfold stM; rw [q1]; exact (if_pos ⟨e3', e4'⟩).symm)⟩
        · obtain ⟨ms, y6, y7, y9, rfl, s2, f2, m2, met, hms⟩ := hp
          rw [kT_len, List.take_length] at hms
          exact ⟨f2, ms, _, _, _, rfl, same_but s2 hD, upd_at m2 nDM.symm, upd_same, met, by rw [mtOut_succ]; exact hms⟩
      · obtain ⟨ms, y6, y7, y9, rfl, s1, m1, d1, met, hms⟩ := hp
        have hro : readOk r n room = decide (ms.length = n) := by
          unfold readOk
          rw [hl, ← hms]
        refine ⟨.ref D, rfl, line_le (show 2 ≤ 100000 by decide), fun z hz => ?_⟩
        have sz := same_upd (o := .lst [V.non, V.ref D]) hz
        refine ⟨.ref Mt, rfl, Mt, nV ms, rfl, .inl (SqL.of (sz _ _ m1)), .int (n : Nat), rfl, rfl, .inr ⟨_, rfl, ?_⟩⟩
        rw [dec_intV, nV_len]
        by_cases hml : ms.length = n
        · rw [decide_eq_true (show ((ms.length : Nat) : Int) = (n : Nat) by omega)]
          exact ⟨z, _, _, .ref D, rfl, rfl, SqL.of upd_same, atI_nat (j := 1) rfl, q2 (by rw [hro]; exact decide_eq_true hml) _ D l (s1.trans sz) (sz _ _ d1) T (met.all hml)⟩
        · rw [decide_eq_false (show ¬ ((ms.length : Nat) : Int) = (n : Nat) by omega)]
          exact ⟨z, _, _, .non, rfl, rfl, SqL.of upd_same, atI_nat (j := 0) rfl, q1 (by rw [hro]; exact decide_eq_false hml) _ (s1.trans sz)⟩
end
end K54
end
/-! ## T17 -/
section
set_option Elab.async false
set_option linter.all false
set_option maxRecDepth 100000
set_option maxHeartbeats 4000000
namespace K54
open PySem PySem.Spec PyProof.Rows L2 LamX NdefX
open MT (PT wL TOk CL tsum ren)
section
variable {P : Program} {w : World} {K : PySem.W.Frag} {mg : Str → Option Value} {base : Heap}
/-! ### _law_times -/
def roomOf (n : Nat) : Nat := if 4 < n then n + 1 else 8
theorem room_le {n : Nat} (h : n ≤ 7) : roomOf n ≤ 8 := by
  unfold roomOf
  split <;> omega
def spTimes (K : PySem.W.Frag) : Sp := fun vs H Q _ => ∃ (s : Addr) (ns : List Int) (at_ n : Nat), vs = [.ref s, .int (at_ : Nat), .int (n : Nat)] ∧ SqL K H s (ns.map V.int) ∧ ns.length ≤ 1000 ∧ 0 < n ∧ n ≤ 7 ∧
  ∀ H' d l, Same H H' → H' d = some (.dT (kT l)) → TOk n (roomOf n) l → CL n l → Q (.ref d) H'
theorem ok_times {f fC fR fN : Addr} {fd dC dR dN : FuncData} {k : Nat} (F : Fun K "_law_times" "_law_times" sTimes f fd) (M : Mg mg) (FC : Fun K "_law_cell" "_law_cell" sCell fC dC) (bC : Binds K dC ["_law_script", "_law_k"] []) (gC : mg "_law_cell" = some (.ref fC))
    (FR : Fun K "_law_read_times" "_law_read_times" sReadTimes fR dR) (bR : Binds K dR ["_law_rest", "_law_many", "_law_room", "_law_most"] []) (gR : mg "_law_read_times" = some (.ref fR))
    (FN : Fun K "_law_renamed" "_law_renamed" sRenamed fN dN) (bN : Binds K dN ["_law_found", "_law_cell_here", "_law_many"] []) (gN : mg "_law_renamed" = some (.ref fN)) : FnOk P w K mg base CX0 (k + 2) f fd ["_law_script", "_law_at", "_law_many"] (spTimes K) := by
  have GC : FnOk P w K mg base CX0 (k + 1) fC dC ["_law_script", "_law_k"] (spCell2 K) := ok_cell FC
  have GR : FnOk P w K mg base CX0 (k + 1) fR dR ["_law_rest", "_law_many", "_law_room", "_law_most"] (spRead K) := ok_read FR M
  have GN : FnOk P w K mg base CX0 (k + 1) fN dN ["_law_found", "_law_cell_here", "_law_many"] (spRenamed K) := ok_renamed FN M
  refine F.ok scTimes (fun vs H Q E h => ?_) (fun cdv A outer s H vs Q E hr h => ?_)
  · obtain ⟨s, ns, at_, n, rfl, _⟩ := h
    rfl
  · obtain ⟨s, ns, at_, n, rfl, hS, hlen, h0, h7, q⟩ := h
    have hu := hu_of hr
    refine ⟨_, pss_cons (ps_set (i := 3) scTimes.nd rfl (.inl rfl) (pe_call GC hr (by rfl) gC FC.kp bC .nil pass0 (pa_cons (pv 0) (pa_cons (pv 1) pa_nil))))
      (pss_cons (ps_set (i := 4) scTimes.nd rfl (.inl rfl) (pe_ix (ixl K) (pe_lst (pa_cons pe_int (pa_cons (pe_op op_add (pv 2) pe_int) pa_nil))) (pe_callTy call_int1 (by rfl) M.int (by decide +kernel) (pa_cons (pe_cmpR op_gt (pv 2) pe_int (nomark _)) pa_nil)) (fun _ _ => rfl)))
      (pss_cons (ps_if (PW.pt (pw_and (pt_cmpR op_eq (pe_op op_mod (pv 3) pe_int) pe_int (nomark _)) (pw_and1 (pt_cmpR op_notN (pe_call GR hr (by rfl) gR FR.kp bR .nil pass0 (pa_cons (pe_op op_fdiv (pv 3) pe_int) (pa_cons (pv 2) (pa_cons (pv 4) (pa_cons pe_int pa_nil))))) pe_non (nomark _)))))
        (pss_one (ps_ret (pe_call GR hr (by rfl) gR FR.kp bR .nil pass0 (pa_cons (pe_op op_fdiv (pv 3) pe_int) (pa_cons (pv 2) (pa_cons (pv 4) (pa_cons pe_int pa_nil))))))) pss_nil)
      (pss_cons (ps_set (i := 5) scTimes.nd rfl (.inl rfl) pe_dnewT)
      (pss_cons (ps_for PassesOwn.never rfl (pi_range2 (by rfl) M.range (pa_cons pe_int (pa_cons (pv 2) pa_nil))) (pg_name (i := 6) scTimes.nd rfl (.inl rfl))
        (pss_cons (ps_set (i := 7) scTimes.nd rfl (.inl rfl) (pe_call GC hr (by rfl) gC FC.kp bC .nil pass0 (pa_cons (pv 0) (pa_cons (pe_op op_add (pv 1) (pv 6)) pa_nil))))
        (pss_cons (ps_set (i := 8) scTimes.nd rfl (.inl rfl) (pe_callB (call_min2 rfl) (by rfl) M.min (by decide +kernel) (pa_cons (pe_ix (ixl K) (pe_lst (pa_cons pe_int (pa_cons pe_int (pa_cons pe_int (pa_cons pe_int (pa_cons pe_int pa_nil)))))) (pe_op op_mod (pe_op op_fdiv (pv 7) (pv 6)) pe_int) (fun _ _ => rfl))
          (pa_cons (pe_op op_sub (pv 4) (pe_op op_sub (pe_op op_sub (pv 2) pe_int) (pv 6))) pa_nil))))
        (pss_cons (ps_asg (pv 8) (pg_sub (pv 5) (pe_tup (pa_cons (pe_op op_mod (pv 7) (pv 6)) (pa_cons (pv 6) pa_nil))) (set_dict hu)))
        (pss_one (ps_set (i := 4) scTimes.nd rfl (.inl rfl) (pe_op op_sub (pv 4) (pv 8))))))))
      (pss_cons (ps_set (i := 9) scTimes.nd rfl (.inl rfl) (pe_op op_add (pv 1) (pe_ix (ixl K) (pe_lst (pa_cons pe_int (pa_cons pe_int pa_nil))) (pe_callTy call_int1 (by rfl) M.int (by decide +kernel) (pa_cons (pe_cmpR op_gt (pv 2) pe_int (nomark _)) pa_nil)) (fun _ _ => rfl))))
      (pss_cons (ps_for PassesOwn.never rfl (pi_range1 rfl M.range (pa_cons (pv 2) pa_nil)) (pg_name (i := 10) scTimes.nd rfl (.inl rfl))
        (pss_one (ps_for PassesOwn.never rfl (pi_range2 (by rfl) M.range (pa_cons (pe_op op_add (pv 10) pe_int) (pa_cons (pv 2) pa_nil))) (pg_name (i := 11) scTimes.nd rfl (.inl rfl))
          (pss_cons (ps_set (i := 8) scTimes.nd rfl (.inl rfl) (pe_ix (ixl K) (pe_lst (pa_cons pe_int (pa_cons pe_int (pa_cons pe_int (pa_cons pe_int (pa_cons pe_int pa_nil)))))) (pe_op op_mod (pe_call GC hr (by rfl) gC FC.kp bC .nil pass0 (pa_cons (pv 0) (pa_cons (pv 9) pa_nil))) pe_int) (fun _ _ => rfl)))
          (pss_cons (ps_set (i := 9) scTimes.nd rfl (.inl rfl) (pe_op op_add (pv 9) pe_int))
          (pss_one (ps_if (PW.pt (pw_and (pt_cmp (pc_dnotin hu (pe_tup (pa_cons (pv 10) (pa_cons (pv 11) pa_nil))) (pv 5))) (pw_and1 (pt_chain op_lt op_le pe_int (pv 8) (pv 4)))))
            (pss_cons (ps_asg (pv 8) (pg_sub (pv 5) (pe_tup (pa_cons (pv 10) (pa_cons (pv 11) pa_nil))) (set_dict hu)))
            (pss_one (ps_set (i := 4) scTimes.nd rfl (.inl rfl) (pe_op op_sub (pv 4) (pv 8))))) pss_nil)))))))
      (pss_one (ps_ret (pe_call GN hr (by rfl) gN FN.kp bN .nil pass0 (pa_cons (pv 5) (pa_cons (pe_op op_fdiv (pe_call GC hr (by rfl) gC FC.kp bC .nil pass0 (pa_cons (pv 0) (pa_cons (pv 1) pa_nil))) pe_int) (pa_cons (pv 2) pa_nil)))))))))))), ?_⟩
    refine ⟨.ref s, rfl, .int (at_ : Nat), rfl, s, ns, at_, rfl, hS, hlen, fun H1 s1 => ?_⟩
    obtain ⟨c0, hc0⟩ : ∃ c0, c0 = cellN ns at_ := ⟨_, rfl⟩
    rw [← hc0]
    have hix : atI [V.int 8, V.int (((n : Nat) : Int) + 1)] (if decide ((4 : Int) < (n : Nat)) = true then (1 : Int) else 0) = some (.int (roomOf n : Nat)) := by
      unfold roomOf
      by_cases h4 : 4 < n
      · rw [decide_eq_true (show (4 : Int) < (n : Nat) by omega), if_pos h4]
        rfl
      · rw [decide_eq_false (show ¬ (4 : Int) < (n : Nat) by omega), if_neg h4]
        rfl
    refine ⟨.int (n : Nat), rfl, _, _, rfl, rfl, line_le (show 2 ≤ 100000 by decide), fun z hz => ⟨.int (n : Nat), rfl, _, _, rfl, rfl, .inr ⟨_, rfl, z, _, _, .int (roomOf n : Nat), rfl, rfl, SqL.of upd_same, hix, ?_⟩⟩⟩
    have sz := same_upd (o := .lst [V.int 8, V.int (((n : Nat) : Int) + 1)]) hz
    have s2 := s1.trans sz
    refine ⟨.int c0, rfl, _, _, rfl, rfl, (by show (0 : Int) < 2; omega), rfl, _, rfl, ite2 (fun e => ?_) (fun e => iteF ?_)⟩
    · refine ⟨.int c0, rfl, _, _, rfl, rfl, ⟨by omega, by omega⟩, .int (n : Nat), rfl, .int (roomOf n : Nat), rfl, c0 / 2, n, roomOf n, rfl, h0, h7, room_le h7, fun hno H3 s3 => ?_, fun hyes H3 d l s3 hd T C => ?_⟩
      · refine ⟨rfl, _, rfl, iteF ?_⟩
        have s4 := s2.trans s3
        refine fun D hD => ?_
        have sd := s4.trans (same_upd (o := .dT []) hD)
        have hDH : H D = none := (s4).free hD
        refine ⟨.int (n : Nat), rfl, 1, (n : Nat), rfl, ⟨by omega, by omega, by omega, by omega⟩, ?_⟩
        rw [show (((n : Nat) : Int) - 1).toNat = n - 1 by omega]
        refine for_range (lo := 1) (n := n - 1) (fun i σ H1 => ∃ (room' : Nat) (l : List PT) (y6 y7 y8 : Option V), σ = [some (.ref s), some (.int (at_ : Nat)), some (.int (n : Nat)), some (.int c0), some (.int (room' : Nat)), some (.ref D), y6, y7, y8, none, none, none] ∧ Same H H1 ∧ H1 D = some (.dT (kT l)) ∧ TOk n (roomOf n) l ∧ tsum l + room' ≤ roomOf n ∧ n - 1 - i ≤ room' ∧ (∀ e ∈ l, e.1.2 < i + 1) ∧ ∀ x, 0 < x → x < i + 1 → ∃ y v, y < x ∧ ((y, x), v) ∈ l)
          ⟨roomOf n, [], none, none, none, rfl, sd, upd_same, TOk.nil, by show 0 + _ ≤ _; omega, by unfold roomOf; split <;> omega, fun e he => absurd he (by simp), fun x h1 h2 => by omega⟩ (fun i σ H1 hi hp => ?_) (fun σ H1 hp => ?_)
        · obtain ⟨room', l, y6, y7, y8, rfl, s1, d1, T, hsum, hrm, hlt, hang⟩ := hp
          have eh : ((1 : Int) + (i : Nat)) = ((i + 1 : Nat) : Int) := by omega
          have hposh : (0 : Int) < 1 + (i : Nat) := by omega
          refine ⟨.ref s, rfl, .int (at_ : Nat), rfl, .int (1 + (i : Nat)), rfl, _, _, rfl, rfl, s, ns, at_ + (i + 1), congrArg (fun z => [V.ref s, V.int z]) (by omega : ((at_ : Nat) : Int) + (1 + (i : Nat)) = ((at_ + (i + 1) : Nat) : Int)), s1.seq hS, hlen, fun H2 s2 => ?_⟩
          generalize cellN ns (at_ + (i + 1)) = c
          obtain ⟨t, ht, ht1, ht3⟩ : ∃ t : Int, atI [V.int 1, V.int 1, V.int 1, V.int 2, V.int 3] (c / (1 + (i : Nat)) % 5) = some (.int t) ∧ 1 ≤ t ∧ t ≤ 3 := by
            have h1 : 0 ≤ c / (1 + (i : Nat)) % 5 := Int.emod_nonneg _ (by omega)
            have h2 : c / (1 + (i : Nat)) % 5 < 5 := Int.emod_lt_of_pos _ (by omega)
            generalize c / (1 + (i : Nat)) % 5 = m at h1 h2
            have : m = 0 ∨ m = 1 ∨ m = 2 ∨ m = 3 ∨ m = 4 := by omega
            rcases this with rfl | rfl | rfl | rfl | rfl
            · exact ⟨1, rfl, by omega, by omega⟩
            · exact ⟨1, rfl, by omega, by omega⟩
            · exact ⟨1, rfl, by omega, by omega⟩
            · exact ⟨2, rfl, by omega, by omega⟩
            · exact ⟨3, rfl, by omega, by omega⟩
          obtain ⟨dp, hdp, hd1, hd2⟩ : ∃ dp : Nat, (if ((room' : Nat) : Int) - (((n : Nat) : Int) - 1 - (1 + (i : Nat))) < t then ((room' : Nat) : Int) - (((n : Nat) : Int) - 1 - (1 + (i : Nat))) else t) = (dp : Nat) ∧ 1 ≤ dp ∧ dp + (n - 1 - (i + 1)) ≤ room' := by
            by_cases h : ((room' : Nat) : Int) - (((n : Nat) : Int) - 1 - (1 + (i : Nat))) < t
            · exact ⟨(((room' : Nat) : Int) - (((n : Nat) : Int) - 1 - (1 + (i : Nat)))).toNat, by rw [if_pos h, Int.toNat_of_nonneg (by omega)], by omega, by omega⟩
            · exact ⟨t.toNat, by rw [if_neg h, Int.toNat_of_nonneg (by omega)], by omega, by omega⟩
          refine ⟨line_le (show 5 ≤ 100000 by decide), fun z hz => ⟨.int c, rfl, .int (1 + (i : Nat)), rfl, _, _, rfl, rfl, ⟨hposh, by show (1 : Int) + (i : Nat) < 1073741824; omega⟩, _, _, rfl, rfl, (by show (0 : Int) < 5; omega), z, _, _, .int t, rfl, rfl, SqL.of upd_same, ht,
            .int (room' : Nat), rfl, .int (n : Nat), rfl, _, _, rfl, rfl, .int (1 + (i : Nat)), rfl, _, _, rfl, rfl, _, _, rfl, rfl, t, ((room' : Nat) : Int) - (((n : Nat) : Int) - 1 - (1 + (i : Nat))), rfl, ?_⟩⟩
          rw [hdp]
          have sz := same_upd (o := .lst [V.int 1, V.int 1, V.int 1, V.int 2, V.int 3]) hz
          have d2 := sz _ _ (s2 _ _ d1)
          obtain ⟨y, hy⟩ : ∃ y : Nat, c % (1 + (i : Nat)) = (y : Nat) := ⟨(c % (1 + (i : Nat))).toNat, by rw [Int.toNat_of_nonneg (Int.emod_nonneg _ (by omega))]⟩
          have hylt : y < i + 1 := by
            have := Int.emod_lt_of_pos c hposh
            omega
          refine ⟨.int (dp : Nat), rfl, .ref D, rfl, .int c, rfl, .int (1 + (i : Nat)), rfl, _, _, rfl, rfl, hposh, .int (1 + (i : Nat)), rfl, line_le (show 2 ≤ 100000 by decide), fun tp htp => ?_⟩
          have stp := same_upd (o := .tup [V.int (c % (1 + (i : Nat))), V.int (1 + (i : Nat))]) htp
          have hnew : (y, i + 1) ∉ l.map (·.1) := fun hm => by
            obtain ⟨e, he, heq⟩ := List.mem_map.mp hm
            have := hlt e he
            rw [heq] at this
            dsimp only at this
            omega
          have hll := TOk_len T
          have hr8 := room_le h7
          refine ⟨D, _, rfl, DPut.t (k := kk (y, i + 1)) (stp _ _ d2) (by rw [upd_same]; show some (HO.tup [V.int (c % (1 + (i : Nat))), V.int (1 + (i : Nat))]) = _; rw [hy, eh]; rfl) (by rw [kT_len]; exact line_lt (by omega)), ?_⟩
          refine ⟨.int (room' : Nat), rfl, .int (dp : Nat), rfl, _, _, rfl, rfl, ?_⟩
          refine ⟨room' - dp, l ++ [((y, i + 1), dp)], some (.int (1 + (i : Nat))), some (.int c), some (.int (dp : Nat)), ?_, same_but (s1.trans (s2.trans (sz.trans stp))) hDH, ?_, T.snoc hylt (by omega) hd1 (by omega) hnew, ?_, by omega, fun e he => ?_, fun x hx1 hx2 => ?_⟩
          · rw [show (((room' - dp : Nat) : Int)) = ((room' : Nat) : Int) - (dp : Nat) by omega]
            rfl
          · rw [upd_same]
            exact congrArg (fun z => some (HO.dT z)) (kT_put hnew)
          · rw [MT.tsum_append]
            show tsum l + (dp + 0) + (room' - dp) ≤ roomOf n
            omega
          · rcases List.mem_append.mp he with h | h
            · have := hlt e h
              omega
            · rw [List.mem_singleton.mp h]
              show i + 1 < i + 1 + 1
              omega
          · by_cases hx : x < i + 1
            · obtain ⟨y', v', a1, a2⟩ := hang x hx1 hx
              exact ⟨y', v', a1, List.mem_append_left _ a2⟩
            · have : x = i + 1 := by omega
              subst this
              exact ⟨y, dp, hylt, List.mem_append_right _ (List.mem_singleton.mpr rfl)⟩
        · obtain ⟨room', l, y6, y7, y8, rfl, s1, d1, T, hsum, _, _, hang⟩ := hp
          have C : CL n l := CL.low fun x h1 h2 => hang x h1 (by omega)
          obtain ⟨k0, hk0⟩ : ∃ k0 : Nat, atI [V.int 5, V.int 27] (if decide ((4 : Int) < (n : Nat)) = true then (1 : Int) else 0) = some (.int (k0 : Nat)) := by
            by_cases h4 : (4 : Int) < (n : Nat)
            · rw [decide_eq_true h4]
              exact ⟨27, rfl⟩
            · rw [decide_eq_false h4]
              exact ⟨5, rfl⟩
          refine ⟨.int (at_ : Nat), rfl, line_le (show 2 ≤ 100000 by decide), fun z hz => ⟨.int (n : Nat), rfl, _, _, rfl, rfl, .inr ⟨_, rfl, z, _, _, .int (k0 : Nat), rfl, rfl, SqL.of upd_same, hk0, _, _, rfl, rfl, ?_⟩⟩⟩
          have sz := same_upd (o := .lst [V.int 5, V.int 27]) hz
          refine ⟨.int (n : Nat), rfl, (n : Nat), rfl, by omega, by omega, ?_⟩
          rw [show ((n : Nat) : Int).toNat = n from rfl]
          refine for_range (lo := 0) (n := n) (fun i σ H1 => ∃ (room' : Nat) (l : List PT) (kq : Nat) (y6 y7 y8 y10 y11 : Option V), σ = [some (.ref s), some (.int (at_ : Nat)), some (.int (n : Nat)), some (.int c0), some (.int (room' : Nat)), some (.ref D), y6, y7, y8, some (.int (kq : Nat)), y10, y11] ∧ Same H H1 ∧ H1 D = some (.dT (kT l)) ∧ TOk n (roomOf n) l ∧ tsum l + room' ≤ roomOf n ∧ CL n l)
            ⟨room', l, at_ + k0, y6, y7, y8, none, none, by rw [show (((at_ + k0 : Nat) : Int)) = ((at_ : Nat) : Int) + (k0 : Nat) by omega]; rfl, s1.trans sz, sz _ _ d1, T, hsum, C⟩ (fun i σ H2 hi hp => ?_) (fun σ H2 hp => ?_)
          · obtain ⟨room2, l2, kq, y6, y7, y8, y10, y11, rfl, s2, d2, T2, hs2, C2⟩ := hp
            refine ⟨.int (0 + (i : Nat)), rfl, _, _, rfl, rfl, .int (n : Nat), rfl, _, (n : Nat), rfl, ⟨by omega, by omega, by omega, by omega⟩, ?_⟩
            rw [show ((0 : Int) + (i : Nat) + 1) = ((i + 1 : Nat) : Int) by omega, show (((n : Nat) : Int) - ((i + 1 : Nat) : Int)).toNat = n - (i + 1) by omega]
            refine for_range (lo := ((i + 1 : Nat) : Int)) (n := n - (i + 1)) (fun j σ H1 => ∃ (room' : Nat) (l : List PT) (kq : Nat) (y6 y7 y8 y11 : Option V), σ = [some (.ref s), some (.int (at_ : Nat)), some (.int (n : Nat)), some (.int c0), some (.int (room' : Nat)), some (.ref D), y6, y7, y8, some (.int (kq : Nat)), some (.int (i : Nat)), y11] ∧ Same H H1 ∧ H1 D = some (.dT (kT l)) ∧ TOk n (roomOf n) l ∧ tsum l + room' ≤ roomOf n ∧ CL n l)
              ⟨room2, l2, kq, y6, y7, y8, y11, by rw [show ((0 : Int) + (i : Nat)) = (i : Nat) by omega]; rfl, s2, d2, T2, hs2, C2⟩ (fun j σ H3 hj hp3 => ?_) (fun σ H3 hp3 => ?_)
            · obtain ⟨room3, l3, k3, y6, y7, y8, y11, rfl, s3, d3, T3, hs3, C3⟩ := hp3
              have hb : i + 1 + j < n := by omega
              rw [show (((i + 1 : Nat) : Int) + (j : Nat)) = ((i + 1 + j : Nat) : Int) by omega]
              refine ⟨line_le (show 5 ≤ 100000 by decide), fun z hz => ?_⟩
              have sz := same_upd (o := .lst [V.int 0, V.int 1, V.int 0, V.int 1, V.int 2]) hz
              refine ⟨.ref s, rfl, .int (k3 : Nat), rfl, s, ns, k3, rfl, (s3.trans sz).seq hS, hlen, fun H4 s4 => ?_⟩
              generalize cellN ns k3 = c
              obtain ⟨dp, hdp⟩ : ∃ dp : Nat, atI [V.int 0, V.int 1, V.int 0, V.int 1, V.int 2] (c % 5) = some (.int (dp : Nat)) := by
                have h1 : 0 ≤ c % 5 := Int.emod_nonneg _ (by omega)
                have h2 : c % 5 < 5 := Int.emod_lt_of_pos _ (by omega)
                generalize c % 5 = m at h1 h2
                have : m = 0 ∨ m = 1 ∨ m = 2 ∨ m = 3 ∨ m = 4 := by omega
                rcases this with rfl | rfl | rfl | rfl | rfl
                · exact ⟨0, rfl⟩
                · exact ⟨1, rfl⟩
                · exact ⟨0, rfl⟩
                · exact ⟨1, rfl⟩
                · exact ⟨2, rfl⟩
              refine ⟨_, _, rfl, rfl, (by show (0 : Int) < 5; omega), z, _, _, .int (dp : Nat), rfl, rfl, SqL.of (s4 _ _ upd_same), hdp, ?_⟩
              have sA := s3.trans (sz.trans s4)
              have d4 := s4 _ _ (sz _ _ d3)
              refine ⟨.int (k3 : Nat), rfl, _, _, rfl, rfl, .int (i : Nat), rfl, .int (i + 1 + j : Nat), rfl, line_le (show 2 ≤ 100000 by decide), fun t ht => ?_⟩
              have st := same_upd (o := .tup [V.int (i : Nat), V.int (i + 1 + j : Nat)]) ht
              have d5 := st _ _ d4
              refine ⟨.ref D, rfl, D, _, rfl, DGet.t (k := kk (i, i + 1 + j)) d5 upd_same, _, rfl, ?_⟩
              rw [valV_kT, Option.isSome_map, lk_isSome]
              have back : ∀ {Hz : Hp}, Same H Hz → Hz D = some (.dT (kT l3)) → ∃ (room' : Nat) (l : List PT) (kq : Nat) (z6 z7 z8 z11 : Option V), [some (.ref s), some (.int (at_ : Nat)), some (.int (n : Nat)), some (.int c0), some (.int (room3 : Nat)), some (.ref D), y6, y7, some (.int (dp : Nat)), some (.int (((k3 : Nat) : Int) + 1)), some (.int (i : Nat)), some (.int (i + 1 + j : Nat))] = [some (.ref s), some (.int (at_ : Nat)), some (.int (n : Nat)), some (.int c0), some (.int (room' : Nat)), some (.ref D), z6, z7, z8, some (.int (kq : Nat)), some (.int (i : Nat)), z11] ∧ Same H Hz ∧ Hz D = some (.dT (kT l)) ∧ TOk n (roomOf n) l ∧ tsum l + room' ≤ roomOf n ∧ CL n l := fun a1 a2 => ⟨room3, l3, k3 + 1, _, _, _, _, rfl, a1, a2, T3, hs3, C3⟩
              refine ite2 (fun e1 => ?_) (fun e1 => iteF (back (sA.trans st) d5))
              have hnew : (i, i + 1 + j) ∉ l3.map (·.1) := by
                have : decide ((i, i + 1 + j) ∈ l3.map (·.1)) = false := by simpa using e1
                exact of_decide_eq_false this
              by_cases hd0 : (0 : Int) < (dp : Nat)
              · refine ⟨.int (dp : Nat), rfl, _, _, rfl, rfl, true, congrArg V.bl (decide_eq_true hd0), iteT ⟨.int (room3 : Nat), rfl, _, _, rfl, rfl, _, rfl, ite2 (fun e2 => ?_) (fun e2 => back (sA.trans st) d5)⟩⟩
                have e2' : ((dp : Nat) : Int) ≤ (room3 : Nat) := of_decide_eq_true e2
                refine ⟨.int (dp : Nat), rfl, .ref D, rfl, .int (i : Nat), rfl, .int (i + 1 + j : Nat), rfl, line_le (show 2 ≤ 100000 by decide), fun t2 ht2 => ?_⟩
                have st2 := same_upd (o := .tup [V.int (i : Nat), V.int (i + 1 + j : Nat)]) ht2
                have hll := TOk_len T3
                have hr8 := room_le h7
                refine ⟨D, _, rfl, DPut.t (k := kk (i, i + 1 + j)) (st2 _ _ d5) upd_same (by rw [kT_len]; exact line_lt (by omega)), .int (room3 : Nat), rfl, .int (dp : Nat), rfl, _, _, rfl, rfl, ?_⟩
                refine ⟨room3 - dp, l3 ++ [((i, i + 1 + j), dp)], k3 + 1, y6, y7, some (.int (dp : Nat)), some (.int (i + 1 + j : Nat)), ?_, same_but (sA.trans (st.trans st2)) hDH, ?_, T3.snoc (by omega) hb (by omega) (by omega) hnew, ?_, C3.mono fun e he => List.mem_append_left _ he⟩
                · rw [show (((room3 - dp : Nat) : Int)) = ((room3 : Nat) : Int) - (dp : Nat) by omega]
                  rfl
                · rw [upd_same]
                  exact congrArg (fun z => some (HO.dT z)) (kT_put hnew)
                · rw [MT.tsum_append]
                  show tsum l3 + (dp + 0) + (room3 - dp) ≤ roomOf n
                  omega
              · exact ⟨.int (dp : Nat), rfl, _, _, rfl, rfl, false, congrArg V.bl (decide_eq_false hd0), iteF ⟨false, rfl, iteF (back (sA.trans st) d5)⟩⟩
            · obtain ⟨room3, l3, k3, y6, y7, y8, y11, rfl, s3, d3, T3, hs3, C3⟩ := hp3
              exact ⟨room3, l3, k3, _, _, _, _, _, rfl, s3, d3, T3, hs3, C3⟩
          · obtain ⟨room2, l2, kq, y6, y7, y8, y10, y11, rfl, s2, d2, T2, hs2, C2⟩ := hp
            refine ⟨.ref D, rfl, .ref s, rfl, .int (at_ : Nat), rfl, s, ns, at_, rfl, s2.seq hS, hlen, fun H3 s3 => ?_⟩
            refine ⟨_, _, rfl, rfl, ⟨by omega, by omega⟩, .int (n : Nat), rfl, D, _, n, roomOf n, l2, rfl, s3 _ _ d2, T2, room_le h7, C2, h7, fun H4 d' l' s4 hd4 T4 C4 => q H4 d' l' (s2.trans (s3.trans s4)) hd4 T4 C4⟩
      · refine ⟨rfl, _, rfl, iteT ?_⟩
        refine ⟨.int c0, rfl, _, _, rfl, rfl, ⟨by omega, by omega⟩, .int (n : Nat), rfl, .int (roomOf n : Nat), rfl, c0 / 2, n, roomOf n, rfl, h0, h7, room_le h7, fun hno => ?_, fun _ H4 d2 l2 s4 hd2 T2 C2 => q H4 d2 l2 (s2.trans (s3.trans s4)) hd2 T2 C2⟩
        rw [hyes] at hno
        cases hno
    · skip
      refine fun D hD => ?_
      have sd := s2.trans (same_upd (o := .dT []) hD)
      have hDH : H D = none := (s2).free hD
      refine ⟨.int (n : Nat), rfl, 1, (n : Nat), rfl, ⟨by omega, by omega, by omega, by omega⟩, ?_⟩
      rw [show (((n : Nat) : Int) - 1).toNat = n - 1 by omega]
      refine for_range (lo := 1) (n := n - 1) (fun i σ H1 => ∃ (room' : Nat) (l : List PT) (y6 y7 y8 : Option V), σ = [some (.ref s), some (.int (at_ : Nat)), some (.int (n : Nat)), some (.int c0), some (.int (room' : Nat)), some (.ref D), y6, y7, y8, none, none, none] ∧ Same H H1 ∧ H1 D = some (.dT (kT l)) ∧ TOk n (roomOf n) l ∧ tsum l + room' ≤ roomOf n ∧ n - 1 - i ≤ room' ∧ (∀ e ∈ l, e.1.2 < i + 1) ∧ ∀ x, 0 < x → x < i + 1 → ∃ y v, y < x ∧ ((y, x), v) ∈ l)
        ⟨roomOf n, [], none, none, none, rfl, sd, upd_same, TOk.nil, by show 0 + _ ≤ _; omega, by unfold roomOf; split <;> omega, fun e he => absurd he (by simp), fun x h1 h2 => by omega⟩ (fun i σ H1 hi hp => ?_) (fun σ H1 hp => ?_)
      · obtain ⟨room', l, y6, y7, y8, rfl, s1, d1, T, hsum, hrm, hlt, hang⟩ := hp
        have eh : ((1 : Int) + (i : Nat)) = ((i + 1 : Nat) : Int) := by omega
        have hposh : (0 : Int) < 1 + (i : Nat) := by omega
        refine ⟨.ref s, rfl, .int (at_ : Nat), rfl, .int (1 + (i : Nat)), rfl, _, _, rfl, rfl, s, ns, at_ + (i + 1), congrArg (fun z => [V.ref s, V.int z]) (by omega : ((at_ : Nat) : Int) + (1 + (i : Nat)) = ((at_ + (i + 1) : Nat) : Int)), s1.seq hS, hlen, fun H2 s2 => ?_⟩
        generalize cellN ns (at_ + (i + 1)) = c
        obtain ⟨t, ht, ht1, ht3⟩ : ∃ t : Int, atI [V.int 1, V.int 1, V.int 1, V.int 2, V.int 3] (c / (1 + (i : Nat)) % 5) = some (.int t) ∧ 1 ≤ t ∧ t ≤ 3 := by
          have h1 : 0 ≤ c / (1 + (i : Nat)) % 5 := Int.emod_nonneg _ (by omega)
          have h2 : c / (1 + (i : Nat)) % 5 < 5 := Int.emod_lt_of_pos _ (by omega)
          generalize c / (1 + (i : Nat)) % 5 = m at h1 h2
          have : m = 0 ∨ m = 1 ∨ m = 2 ∨ m = 3 ∨ m = 4 := by omega
          rcases this with rfl | rfl | rfl | rfl | rfl
          · exact ⟨1, rfl, by omega, by omega⟩
          · exact ⟨1, rfl, by omega, by omega⟩
          · exact ⟨1, rfl, by omega, by omega⟩
          · exact ⟨2, rfl, by omega, by omega⟩
          · exact ⟨3, rfl, by omega, by omega⟩
        obtain ⟨dp, hdp, hd1, hd2⟩ : ∃ dp : Nat, (if ((room' : Nat) : Int) - (((n : Nat) : Int) - 1 - (1 + (i : Nat))) < t then ((room' : Nat) : Int) - (((n : Nat) : Int) - 1 - (1 + (i : Nat))) else t) = (dp : Nat) ∧ 1 ≤ dp ∧ dp + (n - 1 - (i + 1)) ≤ room' := by
          by_cases h : ((room' : Nat) : Int) - (((n : Nat) : Int) - 1 - (1 + (i : Nat))) < t
          · exact ⟨(((room' : Nat) : Int) - (((n : Nat) : Int) - 1 - (1 + (i : Nat)))).toNat, by rw [if_pos h, Int.toNat_of_nonneg (by omega)], by omega, by omega⟩
          · exact ⟨t.toNat, by rw [if_neg h, Int.toNat_of_nonneg (by omega)], by omega, by omega⟩
        refine ⟨line_le (show 5 ≤ 100000 by decide), fun z hz => ⟨.int c, rfl, .int (1 + (i : Nat)), rfl, _, _, rfl, rfl, ⟨hposh, by show (1 : Int) + (i : Nat) < 1073741824; omega⟩, _, _, rfl, rfl, (by show (0 : Int) < 5; omega), z, _, _, .int t, rfl, rfl, SqL.of upd_same, ht,
          .int (room' : Nat), rfl, .int (n : Nat), rfl, _, _, rfl, rfl, .int (1 + (i : Nat)), rfl, _, _, rfl, rfl, _, _, rfl, rfl, t, ((room' : Nat) : Int) - (((n : Nat) : Int) - 1 - (1 + (i : Nat))), rfl, ?_⟩⟩
        rw [hdp]
        have sz := same_upd (o := .lst [V.int 1, V.int 1, V.int 1, V.int 2, V.int 3]) hz
        have d2 := sz _ _ (s2 _ _ d1)
        obtain ⟨y, hy⟩ : ∃ y : Nat, c % (1 + (i : Nat)) = (y : Nat) := ⟨(c % (1 + (i : Nat))).toNat, by rw [Int.toNat_of_nonneg (Int.emod_nonneg _ (by omega))]⟩
        have hylt : y < i + 1 := by
          have := Int.emod_lt_of_pos c hposh
          omega
        refine ⟨.int (dp : Nat), rfl, .ref D, rfl, .int c, rfl, .int (1 + (i : Nat)), rfl, _, _, rfl, rfl, hposh, .int (1 + (i : Nat)), rfl, line_le (show 2 ≤ 100000 by decide), fun tp htp => ?_⟩
        have stp := same_upd (o := .tup [V.int (c % (1 + (i : Nat))), V.int (1 + (i : Nat))]) htp
        have hnew : (y, i + 1) ∉ l.map (·.1) := fun hm => by
          obtain ⟨e, he, heq⟩ := List.mem_map.mp hm
          have := hlt e he
          rw [heq] at this
          dsimp only at this
          omega
        have hll := TOk_len T
        have hr8 := room_le h7
        refine ⟨D, _, rfl, DPut.t (k := kk (y, i + 1)) (stp _ _ d2) (by rw [upd_same]; show some (HO.tup [V.int (c % (1 + (i : Nat))), V.int (1 + (i : Nat))]) = _; rw [hy, eh]; rfl) (by rw [kT_len]; exact line_lt (by omega)), ?_⟩
        refine ⟨.int (room' : Nat), rfl, .int (dp : Nat), rfl, _, _, rfl, rfl, ?_⟩
        refine ⟨room' - dp, l ++ [((y, i + 1), dp)], some (.int (1 + (i : Nat))), some (.int c), some (.int (dp : Nat)), ?_, same_but (s1.trans (s2.trans (sz.trans stp))) hDH, ?_, T.snoc hylt (by omega) hd1 (by omega) hnew, ?_, by omega, fun e he => ?_, fun x hx1 hx2 => ?_⟩
        · rw [show (((room' - dp : Nat) : Int)) = ((room' : Nat) : Int) - (dp : Nat) by omega]
          rfl
        · rw [upd_same]
          exact congrArg (fun z => some (HO.dT z)) (kT_put hnew)
        · rw [MT.tsum_append]
          show tsum l + (dp + 0) + (room' - dp) ≤ roomOf n
          omega
        · rcases List.mem_append.mp he with h | h
          · have := hlt e h
            omega
          · rw [List.mem_singleton.mp h]
            show i + 1 < i + 1 + 1
            omega
        · by_cases hx : x < i + 1
          · obtain ⟨y', v', a1, a2⟩ := hang x hx1 hx
            exact ⟨y', v', a1, List.mem_append_left _ a2⟩
          · have : x = i + 1 := by omega
            subst this
            exact ⟨y, dp, hylt, List.mem_append_right _ (List.mem_singleton.mpr rfl)⟩
      · obtain ⟨room', l, y6, y7, y8, rfl, s1, d1, T, hsum, _, _, hang⟩ := hp
        have C : CL n l := CL.low fun x h1 h2 => hang x h1 (by omega)
        obtain ⟨k0, hk0⟩ : ∃ k0 : Nat, atI [V.int 5, V.int 27] (if decide ((4 : Int) < (n : Nat)) = true then (1 : Int) else 0) = some (.int (k0 : Nat)) := by
          by_cases h4 : (4 : Int) < (n : Nat)
          · rw [decide_eq_true h4]
            exact ⟨27, rfl⟩
          · rw [decide_eq_false h4]
            exact ⟨5, rfl⟩
        refine ⟨.int (at_ : Nat), rfl, line_le (show 2 ≤ 100000 by decide), fun z hz => ⟨.int (n : Nat), rfl, _, _, rfl, rfl, .inr ⟨_, rfl, z, _, _, .int (k0 : Nat), rfl, rfl, SqL.of upd_same, hk0, _, _, rfl, rfl, ?_⟩⟩⟩
        have sz := same_upd (o := .lst [V.int 5, V.int 27]) hz
        refine ⟨.int (n : Nat), rfl, (n : Nat), rfl, by omega, by omega, ?_⟩
        rw [show ((n : Nat) : Int).toNat = n from rfl]
        refine for_range (lo := 0) (n := n) (fun i σ H1 => ∃ (room' : Nat) (l : List PT) (kq : Nat) (y6 y7 y8 y10 y11 : Option V), σ = [some (.ref s), some (.int (at_ : Nat)), some (.int (n : Nat)), some (.int c0), some (.int (room' : Nat)), some (.ref D), y6, y7, y8, some (.int (kq : Nat)), y10, y11] ∧ Same H H1 ∧ H1 D = some (.dT (kT l)) ∧ TOk n (roomOf n) l ∧ tsum l + room' ≤ roomOf n ∧ CL n l)
          ⟨room', l, at_ + k0, y6, y7, y8, none, none, by rw [show (((at_ + k0 : Nat) : Int)) = ((at_ : Nat) : Int) + (k0 : Nat) by omega]; rfl, s1.trans sz, sz _ _ d1, T, hsum, C⟩ (fun i σ H2 hi hp => ?_) (fun σ H2 hp => ?_)
        · obtain ⟨room2, l2, kq, y6, y7, y8, y10, y11, rfl, s2, d2, T2, hs2, C2⟩ := hp
          refine ⟨.int (0 + (i : Nat)), rfl, _, _, rfl, rfl, .int (n : Nat), rfl, _, (n : Nat), rfl, ⟨by omega, by omega, by omega, by omega⟩, ?_⟩
          rw [show ((0 : Int) + (i : Nat) + 1) = ((i + 1 : Nat) : Int) by omega, show (((n : Nat) : Int) - ((i + 1 : Nat) : Int)).toNat = n - (i + 1) by omega]
          refine for_range (lo := ((i + 1 : Nat) : Int)) (n := n - (i + 1)) (fun j σ H1 => ∃ (room' : Nat) (l : List PT) (kq : Nat) (y6 y7 y8 y11 : Option V), σ = [some (.ref s), some (.int (at_ : Nat)), some (.int (n : Nat)), some (.int c0), some (.int (room' : Nat)), some (.ref D), y6, y7, y8, some (.int (kq : Nat)), some (.int (i : Nat)), y11] ∧ Same H H1 ∧ H1 D = some (.dT (kT l)) ∧ TOk n (roomOf n) l ∧ tsum l + room' ≤ roomOf n ∧ CL n l)
            ⟨room2, l2, kq, y6, y7, y8, y11, by rw [show ((0 : Int) + (i : Nat)) = (i : Nat) by omega]; rfl, s2, d2, T2, hs2, C2⟩ (fun j σ H3 hj hp3 => ?_) (fun σ H3 hp3 => ?_)
          · obtain ⟨room3, l3, k3, y6, y7, y8, y11, rfl, s3, d3, T3, hs3, C3⟩ := hp3
            have hb : i + 1 + j < n := by omega
            rw [show (((i + 1 : Nat) : Int) + (j : Nat)) = ((i + 1 + j : Nat) : Int) by omega]
            refine ⟨line_le (show 5 ≤ 100000 by decide), fun z hz => ?_⟩
            have sz := same_upd (o := .lst [V.int 0, V.int 1, V.int 0, V.int 1, V.int 2]) hz
            refine ⟨.ref s, rfl, .int (k3 : Nat), rfl, s, ns, k3, rfl, (s3.trans sz).seq hS, hlen, fun H4 s4 => ?_⟩
            generalize cellN ns k3 = c
            obtain ⟨dp, hdp⟩ : ∃ dp : Nat, atI [V.int 0, V.int 1, V.int 0, V.int 1, V.int 2] (c % 5) = some (.int (dp : Nat)) := by
              have h1 : 0 ≤ c % 5 := Int.emod_nonneg _ (by omega)
              have h2 : c % 5 < 5 := Int.emod_lt_of_pos _ (by omega)
              generalize c % 5 = m at h1 h2
              have : m = 0 ∨ m = 1 ∨ m = 2 ∨ m = 3 ∨ m = 4 := by omega
              rcases this with rfl | rfl | rfl | rfl | rfl
              · exact ⟨0, rfl⟩
              · exact ⟨1, rfl⟩
              · exact ⟨0, rfl⟩
              · exact ⟨1, rfl⟩
              · exact ⟨2, rfl⟩
            refine ⟨_, _, rfl, rfl, (by show (0 : Int) < 5; omega), z, _, _, .int (dp : Nat), rfl, rfl, SqL.of (s4 _ _ upd_same), hdp, ?_⟩
            have sA := s3.trans (sz.trans s4)
            have d4 := s4 _ _ (sz _ _ d3)
            refine ⟨.int (k3 : Nat), rfl, _, _, rfl, rfl, .int (i : Nat), rfl, .int (i + 1 + j : Nat), rfl, line_le (show 2 ≤ 100000 by decide), fun t ht => ?_⟩
            have st := same_upd (o := .tup [V.int (i : Nat), V.int (i + 1 + j : Nat)]) ht
            have d5 := st _ _ d4
            refine ⟨.ref D, rfl, D, _, rfl, DGet.t (k := kk (i, i + 1 + j)) d5 upd_same, _, rfl, ?_⟩
            rw [valV_kT, Option.isSome_map, lk_isSome]
            have back : ∀ {Hz : Hp}, Same H Hz → Hz D = some (.dT (kT l3)) → ∃ (room' : Nat) (l : List PT) (kq : Nat) (z6 z7 z8 z11 : Option V), [some (.ref s), some (.int (at_ : Nat)), some (.int (n : Nat)), some (.int c0), some (.int (room3 : Nat)), some (.ref D), y6, y7, some (.int (dp : Nat)), some (.int (((k3 : Nat) : Int) + 1)), some (.int (i : Nat)), some (.int (i + 1 + j : Nat))] = [some (.ref s), some (.int (at_ : Nat)), some (.int (n : Nat)), some (.int c0), some (.int (room' : Nat)), some (.ref D), z6, z7, z8, some (.int (kq : Nat)), some (.int (i : Nat)), z11] ∧ Same H Hz ∧ Hz D = some (.dT (kT l)) ∧ TOk n (roomOf n) l ∧ tsum l + room' ≤ roomOf n ∧ CL n l := fun a1 a2 => ⟨room3, l3, k3 + 1, _, _, _, _, rfl, a1, a2, T3, hs3, C3⟩
            refine ite2 (fun e1 => ?_) (fun e1 => iteF (back (sA.trans st) d5))
            have hnew : (i, i + 1 + j) ∉ l3.map (·.1) := by
              have : decide ((i, i + 1 + j) ∈ l3.map (·.1)) = false := by simpa using e1
              exact of_decide_eq_false this
            by_cases hd0 : (0 : Int) < (dp : Nat)
            · refine ⟨.int (dp : Nat), rfl, _, _, rfl, rfl, true, congrArg V.bl (decide_eq_true hd0), iteT ⟨.int (room3 : Nat), rfl, _, _, rfl, rfl, _, rfl, ite2 (fun e2 => ?_) (fun e2 => back (sA.trans st) d5)⟩⟩
              have e2' : ((dp : Nat) : Int) ≤ (room3 : Nat) := of_decide_eq_true e2
              refine ⟨.int (dp : Nat), rfl, .ref D, rfl, .int (i : Nat), rfl, .int (i + 1 + j : Nat), rfl, line_le (show 2 ≤ 100000 by decide), fun t2 ht2 => ?_⟩
              have st2 := same_upd (o := .tup [V.int (i : Nat), V.int (i + 1 + j : Nat)]) ht2
              have hll := TOk_len T3
              have hr8 := room_le h7
              refine ⟨D, _, rfl, DPut.t (k := kk (i, i + 1 + j)) (st2 _ _ d5) upd_same (by rw [kT_len]; exact line_lt (by omega)), .int (room3 : Nat), rfl, .int (dp : Nat), rfl, _, _, rfl, rfl, ?_⟩
              refine ⟨room3 - dp, l3 ++ [((i, i + 1 + j), dp)], k3 + 1, y6, y7, some (.int (dp : Nat)), some (.int (i + 1 + j : Nat)), ?_, same_but (sA.trans (st.trans st2)) hDH, ?_, T3.snoc (by omega) hb (by omega) (by omega) hnew, ?_, C3.mono fun e he => List.mem_append_left _ he⟩
              · rw [show (((room3 - dp : Nat) : Int)) = ((room3 : Nat) : Int) - (dp : Nat) by omega]
                rfl
              · rw [upd_same]
                exact congrArg (fun z => some (HO.dT z)) (kT_put hnew)
              · rw [MT.tsum_append]
                show tsum l3 + (dp + 0) + (room3 - dp) ≤ roomOf n
                omega
            · exact ⟨.int (dp : Nat), rfl, _, _, rfl, rfl, false, congrArg V.bl (decide_eq_false hd0), iteF ⟨false, rfl, iteF (back (sA.trans st) d5)⟩⟩
          · obtain ⟨room3, l3, k3, y6, y7, y8, y11, rfl, s3, d3, T3, hs3, C3⟩ := hp3
            exact ⟨room3, l3, k3, _, _, _, _, _, rfl, s3, d3, T3, hs3, C3⟩
        · obtain ⟨room2, l2, kq, y6, y7, y8, y10, y11, rfl, s2, d2, T2, hs2, C2⟩ := hp
          refine ⟨.ref D, rfl, .ref s, rfl, .int (at_ : Nat), rfl, s, ns, at_, rfl, s2.seq hS, hlen, fun H3 s3 => ?_⟩
          refine ⟨_, _, rfl, rfl, ⟨by omega, by omega⟩, .int (n : Nat), rfl, D, _, n, roomOf n, l2, rfl, s3 _ _ d2, T2, room_le h7, C2, h7, fun H4 d' l' s4 hd4 T4 C4 => q H4 d' l' (s2.trans (s3.trans s4)) hd4 T4 C4⟩
end
end K54
end
/-! ## T18 -/
section
set_option Elab.async false
set_option linter.all false
set_option maxRecDepth 100000
set_option maxHeartbeats 4000000
namespace K54
open PySem PySem.Spec PyProof.Rows L2 LamX NdefX
section
variable {X : Cx}
/-- l.count(True) of truth values -/
theorem crCount (K : PySem.W.Frag) (hK : X.K = K := by rfl) : MtR X "list.count" (fun x vs H Q => ∃ (a : Addr) (bs : List Bool), x = .ref a ∧ vs = [.bl true] ∧ SqL K H a (blV bs) ∧ Q (.int (bs.countP id : Nat)) H) := by
  subst hK
  intro pins s σ H x vs v us Q I rx rxs ⟨a, bs, e1, e2, hs, q⟩
  subst e1 e2
  cases rx
  cases rxs with
  | cons ry rt =>
    rename_i uy ut
    cases rt
    obtain ⟨its, rv, ⟨⟨cls, dd, data, sl⟩, n, ho, hc, hdn, hd⟩, hlen⟩ := I.list hs
    simp only at hc hd
    subst hc hd
    have flat : ∀ l : List Bool, (blV l).all flatV = true := fun l => by
      unfold blV
      induction l with
      | nil => rfl
      | cons b r ih => rw [List.map_cons, List.all_cons, ih]; rfl
    have cnt : ∀ (l : List Bool) (us : List Value), Vals (blV l) us → us.countP (eqU (.bl true)) = l.countP id := fun l => by
      induction l with
      | nil => intro us r; cases r; rfl
      | cons b l ih =>
        intro us r
        cases r with
        | cons r1 r2 =>
          rw [List.countP_cons, List.countP_cons, ih _ r2, eqU_of r1 rfl]
          congr 1
          cases b <;> rfl
    refine call_meets PySem.F.slot_list_count ⟨_, ho, rfl⟩ PySem.F.entry_list_count (PySem.F.args_list_count_2 _ _) (SeqAt.list_countAt a its.toArray n dd sl uy (eqU (.bl true))) ⟨ho, fun u' hu' => mem_eqAt ry rfl rv (flat bs) u' (by simpa using hu'), ?_⟩
    rw [show its.toArray.toList = its by simp, cnt bs its rv]
    exact ⟨.int (bs.countP id : Nat), H, I.tok _, ⟨_, rfl⟩, q⟩
end
section
variable {P : Program} {w : World} {K : PySem.W.Frag} {mg : Str → Option Value} {base : Heap}
/-! ### _law_kind -/
def IsC (K : PySem.W.Frag) (mg : Str → Option Value) (CT : Addr) (x : Str) (b : Bool) : Prop := ∃ a, mg x = some (.ref a) ∧ PySem.W.kitOne K (.ref CT) (.ref a) = some b
structure KindC (K : PySem.W.Frag) (mg : Str → Option Value) (CT : Addr) : Prop where
  C : ExcC K CT
  x : XfC K CT
  no : PySem.W.findIn K (.ref CT) "most" = some none
  a0 : IsC K mg CT "NoWeb" false
  a1 : IsC K mg CT "Apart" false
  a2 : IsC K mg CT "NoText" false
  a3 : IsC K mg CT "NoOrder" false
  a4 : IsC K mg CT "TooMany" true
  a5 : IsC K mg CT "NotSettled" false
  a6 : IsC K mg CT "NoTree" false
  a7 : IsC K mg CT "NoTotal" false
  a8 : IsC K mg CT "NoEnds" false
  a9 : IsC K mg CT "NoRow" false
  a10 : IsC K mg CT "NoName" false
  ve : PySem.W.kitOne K (.ref CT) (.type "ValueError") = some true
def spKind (K : PySem.W.Frag) (CT : Addr) : Sp := fun vs H Q _ => ∃ (a d : Addr) (fs : List (Str × V)), vs = [.ref a] ∧ H a = some (EcO a (.ref CT) (some d)) ∧ H d = some (.xd fs) ∧ ∀ H', Same H H' → Q (.int 4) H'
theorem ok_kind {f CT : Addr} {fd : FuncData} {k : Nat} (F : Fun K "_law_kind" "_law_kind" sKind f fd) (M : Mg mg) (KC : KindC K mg CT) : FnOk P w K mg base CX0 (k + 1) f fd ["_law_e"] (spKind K CT) := by
  refine F.ok scKind (fun vs H Q E h => ?_) (fun cdv A outer s H vs Q E hr h => ?_)
  · obtain ⟨a, d, fs, rfl, _⟩ := h
    rfl
  · obtain ⟨a, d, fs, rfl, ha, hd, q⟩ := h
    obtain ⟨c0, g0, k0⟩ := KC.a0
    obtain ⟨c1, g1, k1⟩ := KC.a1
    obtain ⟨c2, g2, k2⟩ := KC.a2
    obtain ⟨c3, g3, k3⟩ := KC.a3
    obtain ⟨c4, g4, k4⟩ := KC.a4
    obtain ⟨c5, g5, k5⟩ := KC.a5
    obtain ⟨c6, g6, k6⟩ := KC.a6
    obtain ⟨c7, g7, k7⟩ := KC.a7
    obtain ⟨c8, g8, k8⟩ := KC.a8
    obtain ⟨c9, g9, k9⟩ := KC.a9
    obtain ⟨c10, g10, k10⟩ := KC.a10
    have rr : ∀ a : Addr, RelV (.ref a) (.ref a) := fun _ => rfl
    refine ⟨_, pss_cons (ps_set (i := 1) scKind.nd rfl (.inl rfl) (pe_lst (pa_cons (pe_callB (call_isH K) (by rfl) M.isinstance (by decide +kernel) (pa_cons (pv 0) (pa_cons (pe_glob (by rfl) g0 (rr _)) pa_nil))) (pa_cons (pe_callB (call_isH K) (by rfl) M.isinstance (by decide +kernel) (pa_cons (pv 0) (pa_cons (pe_glob (by rfl) g1 (rr _)) pa_nil)))
        (pa_cons (pe_callB (call_isH K) (by rfl) M.isinstance (by decide +kernel) (pa_cons (pv 0) (pa_cons (pe_glob (by rfl) g2 (rr _)) pa_nil))) (pa_cons (pe_callB (call_isH K) (by rfl) M.isinstance (by decide +kernel) (pa_cons (pv 0) (pa_cons (pe_glob (by rfl) g3 (rr _)) pa_nil))) pa_nil))))))
      (pss_cons (ps_set (i := 1) scKind.nd rfl (.inl rfl) (pe_op op_cat (pv 1) (pe_lst (pa_cons (pe_callB (call_isH K) (by rfl) M.isinstance (by decide +kernel) (pa_cons (pv 0) (pa_cons (pe_glob (by rfl) g4 (rr _)) pa_nil))) (pa_cons (pe_callB (call_isH K) (by rfl) M.isinstance (by decide +kernel) (pa_cons (pv 0) (pa_cons (pe_glob (by rfl) g5 (rr _)) pa_nil)))
        (pa_cons (pe_callB (call_isH K) (by rfl) M.isinstance (by decide +kernel) (pa_cons (pv 0) (pa_cons (pe_glob (by rfl) g6 (rr _)) pa_nil))) pa_nil))))))
      (pss_cons (ps_set (i := 1) scKind.nd rfl (.inl rfl) (pe_op op_cat (pv 1) (pe_lst (pa_cons (pe_callB (call_isH K) (by rfl) M.isinstance (by decide +kernel) (pa_cons (pv 0) (pa_cons (pe_glob (by rfl) g7 (rr _)) pa_nil))) (pa_cons (pe_callB (call_isH K) (by rfl) M.isinstance (by decide +kernel) (pa_cons (pv 0) (pa_cons (pe_glob (by rfl) g8 (rr _)) pa_nil)))
        (pa_cons (pe_callB (call_isH K) (by rfl) M.isinstance (by decide +kernel) (pa_cons (pv 0) (pa_cons (pe_glob (by rfl) g9 (rr _)) pa_nil))) (pa_cons (pe_callB (call_isH K) (by rfl) M.isinstance (by decide +kernel) (pa_cons (pv 0) (pa_cons (pe_glob (by rfl) g10 (rr _)) pa_nil))) pa_nil)))))))
      (pss_cons (ps_if (PW.pt (pw_or (pt_not (pt_truth (pe_callB (call_isH K) (by rfl) M.isinstance (by decide +kernel) (pa_cons (pv 0) (pa_cons (pe_bltn (by rfl) M.ve (by decide +kernel) (show RelV (.ty "ValueError") (.type "ValueError") from rfl)) pa_nil))) (fun _ => rfl)))
          (pw_or1 (pt_cmpR op_ne (pe_bm PySem.F.plainAttrs_list PySem.F.slot_list_count PySem.F.type_list_count (crCount K) (pv 1) (pa_cons pe_bl pa_nil)) pe_int (nomark _))))) pss_never pss_nil)
      (pss_one (ps_ret (pe_bm PySem.F.plainAttrs_list PySem.F.slot_list_index PySem.F.type_list_index mt_index (pv 1) (pa_cons pe_bl pa_nil))))))), ?_⟩
    refine ⟨.ref a, rfl, a, CT, d, fs, .ref c0, .ref c0, false, rfl, ha, hd, KC.C, (fun u r => r), k0, .ref a, rfl, a, CT, d, fs, .ref c1, .ref c1, false, rfl, ha, hd, KC.C, (fun u r => r), k1, .ref a, rfl, a, CT, d, fs, .ref c2, .ref c2, false, rfl, ha, hd, KC.C, (fun u r => r), k2, .ref a, rfl, a, CT, d, fs, .ref c3, .ref c3, false, rfl, ha, hd, KC.C, (fun u r => r), k3, line_le (show 4 ≤ 100000 by decide), fun l1 h1 => ?_⟩
    have s1 := same_upd (o := .lst [V.bl false, V.bl false, V.bl false, V.bl false]) h1
    have ha1 := s1 _ _ ha
    have hd1 := s1 _ _ hd
    have e1 : (upd H l1 (.lst [V.bl false, V.bl false, V.bl false, V.bl false])) l1 = some _ := upd_same
    generalize upd H l1 (.lst [V.bl false, V.bl false, V.bl false, V.bl false]) = H1 at *
    refine ⟨.ref l1, rfl, .ref a, rfl, a, CT, d, fs, .ref c4, .ref c4, true, rfl, ha1, hd1, KC.C, (fun u r => r), k4, .ref a, rfl, a, CT, d, fs, .ref c5, .ref c5, false, rfl, ha1, hd1, KC.C, (fun u r => r), k5, .ref a, rfl, a, CT, d, fs, .ref c6, .ref c6, false, rfl, ha1, hd1, KC.C, (fun u r => r), k6, line_le (show 3 ≤ 100000 by decide), fun l2 h2 => ?_⟩
    have s2 := same_upd (o := .lst [V.bl true, V.bl false, V.bl false]) h2
    refine ⟨l1, l2, _, _, rfl, rfl, s2 _ _ e1, upd_same, line_le (show 7 ≤ 100000 by decide), fun l3 h3 => ?_⟩
    have s3 := s2.trans (same_upd (o := .lst ([V.bl false, V.bl false, V.bl false, V.bl false] ++ [V.bl true, V.bl false, V.bl false])) h3)
    have ha3 := s3 _ _ ha1
    have hd3 := s3 _ _ hd1
    have e3 : (upd (upd H1 l2 (.lst [V.bl true, V.bl false, V.bl false])) l3 (.lst ([V.bl false, V.bl false, V.bl false, V.bl false] ++ [V.bl true, V.bl false, V.bl false]))) l3 = some _ := upd_same
    generalize upd (upd H1 l2 (.lst [V.bl true, V.bl false, V.bl false])) l3 (.lst ([V.bl false, V.bl false, V.bl false, V.bl false] ++ [V.bl true, V.bl false, V.bl false])) = H3 at *
    refine ⟨.ref l3, rfl, .ref a, rfl, a, CT, d, fs, .ref c7, .ref c7, false, rfl, ha3, hd3, KC.C, (fun u r => r), k7, .ref a, rfl, a, CT, d, fs, .ref c8, .ref c8, false, rfl, ha3, hd3, KC.C, (fun u r => r), k8, .ref a, rfl, a, CT, d, fs, .ref c9, .ref c9, false, rfl, ha3, hd3, KC.C, (fun u r => r), k9, .ref a, rfl, a, CT, d, fs, .ref c10, .ref c10, false, rfl, ha3, hd3, KC.C, (fun u r => r), k10, line_le (show 4 ≤ 100000 by decide), fun l4 h4 => ?_⟩
    have s4 := same_upd (o := .lst [V.bl false, V.bl false, V.bl false, V.bl false]) h4
    refine ⟨l3, l4, _, _, rfl, rfl, s4 _ _ e3, upd_same, line_le (show 11 ≤ 100000 by decide), fun l5 h5 => ?_⟩
    have s5 := s4.trans (same_upd (o := .lst ([V.bl false, V.bl false, V.bl false, V.bl false] ++ [V.bl true, V.bl false, V.bl false] ++ [V.bl false, V.bl false, V.bl false, V.bl false])) h5)
    have ha5 := s5 _ _ ha3
    have hd5 := s5 _ _ hd3
    have e5 : (upd (upd H3 l4 (.lst [V.bl false, V.bl false, V.bl false, V.bl false])) l5 (.lst ([V.bl false, V.bl false, V.bl false, V.bl false] ++ [V.bl true, V.bl false, V.bl false] ++ [V.bl false, V.bl false, V.bl false, V.bl false]))) l5 = some (.lst (blV [false, false, false, false, true, false, false, false, false, false, false])) := upd_same
    have sA := s1.trans (s3.trans s5)
    generalize upd (upd H3 l4 (.lst [V.bl false, V.bl false, V.bl false, V.bl false])) l5 (.lst ([V.bl false, V.bl false, V.bl false, V.bl false] ++ [V.bl true, V.bl false, V.bl false] ++ [V.bl false, V.bl false, V.bl false, V.bl false])) = H5 at *
    refine ⟨.ref a, rfl, a, CT, d, fs, .ty "ValueError", .type "ValueError", true, rfl, ha5, hd5, KC.C, (fun u r => r), KC.ve, true, rfl, iteF ?_⟩
    refine ⟨.ref l5, rfl, .inl ⟨rfl, _, SqL.of e5⟩, l5, [false, false, false, false, true, false, false, false, false, false, false], rfl, rfl, SqL.of e5, rfl, false, congrArg V.bl (by decide), iteF ?_⟩
    refine ⟨.ref l5, rfl, .inl ⟨rfl, _, SqL.of e5⟩, l5, _, .bl true, 4, .bl true, rfl, rfl, SqL.of e5, rfl, rfl, rfl, rfl, fun m z hm hz => ?_, q _ sA⟩
    match m, hm with
    | 0, _ => cases hz; rfl
    | 1, _ => cases hz; rfl
    | 2, _ => cases hz; rfl
    | 3, _ => cases hz; rfl
end
end K54
end
/-! ## T19 -/
section
set_option Elab.async false
set_option linter.all false
set_option maxRecDepth 100000
set_option maxHeartbeats 4000000
namespace K54
open PySem PySem.Spec PyProof.Rows L2 LamX NdefX
theorem tieSum_append (m : Nat → Nat → Nat) (h : Nat) (a b : List Nat) : tieSum m h (a ++ b) = tieSum m h a + tieSum m h b := by
  unfold tieSum
  rw [List.map_append, List.sum_append]
theorem tieSum_nn (m : Nat → Nat → Nat) (h : Nat) : ∀ l, 0 ≤ tieSum m h l
  | [] => Int.le_refl _
  | x :: r => by
    have := tieSum_nn m h r
    unfold tieSum at this ⊢
    rw [List.map_cons, List.sum_cons]
    omega
theorem not_cont {x : Nat} {l : List Nat} (h : x ∉ l) : l.contains x = false := by
  cases q : l.contains x with
  | false => rfl
  | true => exact absurd (List.contains_iff_mem.mp q) h
section
variable {P : Program} {w : World} {K : PySem.W.Frag} {mg : Str → Option Value} {base : Heap}
/-! ### _law_tuple -/
def spLTuple : Sp := fun vs H Q _ => ∃ (u : Addr) (n : Nat) (p : List Int), vs = [.ref u, .int (n : Nat)] ∧ H u = some (.tup (hV p)) ∧ p.length = n ∧ n ≤ 1000 ∧ ∀ H', Same H H' → Q (.bl true) H'
theorem ok_ltuple {f fW : Addr} {fd dW : FuncData} {k : Nat} (F : Fun K "_law_tuple" "_law_tuple" sLTuple f fd) (M : Mg mg) (FW : Fun K "_law_whole" "_law_whole" sWhole fW dW) (bW : Binds K dW ["_law_thing"] []) (gW : mg "_law_whole" = some (.ref fW)) :
    FnOk P w K mg base CX0 (k + 2) f fd ["_law_found", "_law_many"] spLTuple := by
  have GW : FnOk P w K mg base CX0 (k + 1) fW dW ["_law_thing"] spWhole := ok_whole FW M
  refine F.ok scLTuple (fun vs H Q E h => ?_) (fun cdv A outer s H vs Q E hr h => ?_)
  · obtain ⟨u, n, p, rfl, _⟩ := h
    rfl
  · obtain ⟨u, n, p, rfl, hu, hl, hn, q⟩ := h
    refine ⟨_, pss_one (ps_ret (pe_and (pe_callB call_isi (by rfl) M.isinstance (by decide +kernel) (pa_cons (pv 0) (pa_cons (pe_bltn (by rfl) M.tuple (by decide +kernel) (show RelV (.ty "tuple") (.type "tuple") from rfl)) pa_nil)))
      (pe_and (pe_cmpR op_eq (pe_callB (lenS K) (by rfl) M.len PySem.boot_len (pa_cons (pv 0) pa_nil)) (pv 1) (nomark _))
      (pe_one (pe_callB (cr_all rfl) (by rfl) M.all (by decide +kernel) (pa_cons (pe_lc (own := [("_law_number", 2)]) (g := gName 2) (tt := tYes) (te := tCall spWhole [] E0 (tCons (tVar 2) tNil)) rfl scLTuple.nd (pi_tup (pv 0))
        (blkOk_by (N := ["_law_found", "_law_many", "_law_number"]) (sc := defScope sLTuple) (by decide +kernel)) (fun _ _ _ _ _ => pg_name (i := 2) scLTuple.nd rfl (Or.inl rfl)) (fun _ _ _ _ _ => pts_nil)
        (fun _ _ _ _ _ => pe_call GW hr (by rfl) gW FW.kp bW .nil pass0 (pa_cons (pv 2) pa_nil))) pa_nil)))))), ?_⟩
    refine ⟨.ref u, rfl, .ref u, .ty "tuple", .type "tuple", .type "tuple", true, rfl, .ty "tuple", .base (.tup hu), kit_ty (by decide +kernel), true, rfl, iteT ?_⟩
    refine ⟨.ref u, rfl, u, hV p, rfl, .inr (SqT.of hu), .int (n : Nat), rfl, rfl, true, congrArg V.bl (by rw [dec_intV, List.length_map, hl]; exact decide_eq_true rfl), iteT ?_⟩
    refine ⟨.ref u, rfl, u, rfl, ⟨_, SqT.of hu⟩, fun D hD => lc_tup (K := K) (a := u) (xs := hV p) (fun i H' => Same H H' ∧ H' D = some (.lst (blV (List.replicate i true)))) ⟨same_upd hD, upd_same⟩ (fun i H' _ hp => SqT.of (hp.1 _ _ hu)) (fun i x H' hx hp => ?_) (fun H' hp => ?_)⟩
    · obtain ⟨s1, d1⟩ := hp
      obtain ⟨z, hz, rfl⟩ := map_get hx
      have hi : i < p.length := (List.getElem?_eq_some_iff.mp hz).1
      refine ⟨rfl, .int z, rfl, z, rfl, _, d1, by rw [blV_len, List.length_replicate]; exact line_lt (by omega), same_but s1 hD, ?_⟩
      rw [upd_same, List.replicate_succ']
      unfold blV
      rw [List.map_append]
      rfl
    · obtain ⟨s1, d1⟩ := hp
      refine ⟨D, _, rfl, SqL.of d1, ?_⟩
      have : (List.replicate (hV p).length true).all id = true := by rw [List.all_replicate]; simp
      rw [this]
      exact q _ s1
/-! ### _law_all_burn -/
def spAllBurn (K : PySem.W.Frag) : Sp := fun vs H Q _ => ∃ (a u : Addr) (n b : Nat) (m : Nat → Nat → Nat) (c : Nat → Int), vs = [.ref a, .ref u, .int (b : Nat)] ∧ WebAt K H a n m ∧ SqT K H u (purV n c) ∧ b < n ∧ n ≤ 7 ∧ FireOk n m c b ∧ ∀ H', Same H H' → Q (.bl true) H'
theorem ok_allBurn {f : Addr} {fd : FuncData} {k : Nat} (F : Fun K "_law_all_burn" "_law_all_burn" sAllBurn f fd) (M : Mg mg) : FnOk P w K mg base CX0 (k + 1) f fd ["_law_web", "_law_purse", "_law_base"] (spAllBurn K) := by
  refine F.ok scAllBurn (fun vs H Q E h => ?_) (fun cdv A outer s H vs Q E hr h => ?_)
  · obtain ⟨a, u, n, b, m, c, rfl, _⟩ := h
    rfl
  · obtain ⟨a, u, n, b, m, c, rfl, hW, hU, hb, h7, hF, q⟩ := h
    refine ⟨_, pss_cons (ps_set (i := 3) scAllBurn.nd rfl (.inl rfl) (pe_lst (pa_cons (pv 2) pa_nil)))
      (pss_cons (ps_for PassesOwn.never rfl (pi_range1 rfl M.range (pa_cons (pe_callB (lenS K) (by rfl) M.len PySem.boot_len (pa_cons (pv 0) pa_nil)) pa_nil)) (pg_name (i := 4) scAllBurn.nd rfl (.inl rfl))
        (pss_one (ps_for PassesOwn.never rfl (pi_range1 rfl M.range (pa_cons (pe_callB (lenS K) (by rfl) M.len PySem.boot_len (pa_cons (pv 0) pa_nil)) pa_nil)) (pg_name (i := 5) scAllBurn.nd rfl (.inr rfl))
          (pss_cons (ps_set (i := 6) scAllBurn.nd rfl (.inl rfl) (pe_callB (cr_sum rfl) (by rfl) M.sum (by decide +kernel) (pa_cons (pe_lc (own := [("_law_other", 7)]) (g := gName 7) (tt := tYes) (te := tOp (rIxT K) (tOp (rIxT K) (tVar 0) (tVar 5)) (tVar 7)) rfl scAllBurn.nd (pi_list (pv 3))
            (blkOk_by (N := ["_law_web", "_law_purse", "_law_base", "_law_lit", "_law_turn", "_law_house", "_law_near", "_law_other"]) (sc := defScope sAllBurn) (by decide +kernel)) (fun _ _ _ _ _ => pg_name (i := 7) scAllBurn.nd rfl (Or.inl rfl)) (fun _ _ _ _ _ => pts_nil)
            (fun _ _ _ _ _ => pe_ix (ixt K) (pe_ix (ixt K) (pv 0) (pv 5) (fun _ _ => rfl)) (pv 7) (fun _ _ => rfl))) pa_nil)))
          (pss_one (ps_if (PW.pt (pw_and (pt_cmpR (notInS K) (pv 5) (pv 3) (by rfl)) (pw_and1 (pt_cmpR op_lt (pe_ix (ixt K) (pv 1) (pv 5) (fun _ _ => rfl)) (pv 6) (nomark _)))))
            (pss_one (ps_expr (pe_bm PySem.F.plainAttrs_list PySem.F.slot_list_append PySem.F.type_list_append mt_append (pv 3) (pa_cons (pv 5) pa_nil)))) pss_nil))))))
      (pss_one (ps_ret (pe_cmpR op_eq (pe_callB (lenS K) (by rfl) M.len PySem.boot_len (pa_cons (pv 3) pa_nil)) (pe_callB (lenS K) (by rfl) M.len PySem.boot_len (pa_cons (pv 0) pa_nil)) (nomark _))))), ?_⟩
    obtain ⟨xs, hX, hXl⟩ := hW.tup
    refine ⟨.int (b : Nat), rfl, line_le (show 1 ≤ 100000 by decide), fun L hL => ?_⟩
    have s0 := same_upd (o := .lst [V.int (b : Nat)]) hL
    refine ⟨.ref a, rfl, a, xs, rfl, .inr (seqT_of s0 hX), (n : Nat), by rw [hXl], by omega, by omega, ?_⟩
    rw [show ((n : Nat) : Int).toNat = n from rfl]
    refine for_range (lo := 0) (n := n) (fun i σ H1 => ∃ (lit : List Nat) (y4 y5 y6 : Option V), σ = [some (.ref a), some (.ref u), some (.int (b : Nat)), some (.ref L), y4, y5, y6, none] ∧ Same H H1 ∧ H1 L = some (.lst (nV lit)) ∧ lit.Nodup ∧ (∀ x ∈ lit, x < n) ∧ b ∈ lit ∧ (i + 1 ≤ lit.length ∨ lit.length = n))
      ⟨[b], none, none, none, rfl, s0, upd_same, by simp, fun x hx => by rw [List.mem_singleton.mp hx]; exact hb, by simp, .inl (by simp)⟩ (fun i σ H1 hi hp => ?_) (fun σ H1 hp => ?_)
    · obtain ⟨l0, y4, y5, y6, rfl, s1, d1, nd0, lt0, hb0, hl0⟩ := hp
      refine ⟨.ref a, rfl, a, xs, rfl, .inr (seqT_of s1 hX), (n : Nat), by rw [hXl], by omega, by omega, ?_⟩
      rw [show ((n : Nat) : Int).toNat = n from rfl]
      refine for_range (lo := 0) (n := n) (fun j σ H2 => ∃ (ex : List Nat) (y4 y5 y6 : Option V), σ = [some (.ref a), some (.ref u), some (.int (b : Nat)), some (.ref L), y4, y5, y6, none] ∧ Same H H2 ∧ H2 L = some (.lst (nV (l0 ++ ex))) ∧ (l0 ++ ex).Nodup ∧ (∀ x ∈ l0 ++ ex, x < n) ∧ ∀ h, h < j → h ∈ l0 ++ ex ∨ ¬ c h < tieSum m h l0)
        ⟨[], _, y5, y6, rfl, s1, by rw [List.append_nil]; exact d1, by rw [List.append_nil]; exact nd0, by rw [List.append_nil]; exact lt0, fun h hh => by omega⟩ (fun j σ H2 hj hp2 => ?_) (fun σ H2 hp2 => ?_)
      · obtain ⟨ex, z4, z5, z6, rfl, s2, d2, nd2, lt2, hd2⟩ := hp2
        have ej : ((0 : Int) + (j : Nat)) = (j : Nat) := by omega
        have hlen := MT.nodup_len n _ nd2 lt2
        refine ⟨.ref L, rfl, L, rfl, ⟨_, SqL.of d2⟩, fun D hD => lc_list (K := K) (a := L) (xs := nV (l0 ++ ex)) (fun t H' => Same H2 H' ∧ H' D = some (.lst ((((l0 ++ ex).take t).map fun o => V.int (m j o : Nat))))) ⟨same_upd hD, upd_same⟩ (fun t H' _ hp => hp.1.seq (SqL.of d2)) (fun t x H' hx hp => ?_) (fun H' hp => ?_)⟩
        · obtain ⟨s3, d3⟩ := hp
          obtain ⟨o, ho, rfl⟩ := nV_get hx
          obtain ⟨ys, r, h1, _, h3, h4⟩ := (hW.same (s2.trans s3)).row hj
          refine ⟨rfl, .ref a, rfl, .int (0 + (j : Nat)), rfl, a, ys, _, .ref r, rfl, rfl, h1, by rw [ej]; exact h3, .int (o : Nat), rfl, r, _, _, _, rfl, rfl, h4, rowV_at (lt2 o (List.mem_of_getElem? ho)), _, d3, ?_, same_but s3 hD, ?_⟩
          · rw [List.length_map, List.length_take]
            exact line_lt (by omega)
          · rw [upd_same, take_snoc ho, List.map_append]
            rfl
        · obtain ⟨s3, d3⟩ := hp
          rw [nV_len, List.take_length] at d3
          refine ⟨D, (l0 ++ ex).map fun o => (m j o : Int), rfl, SqL.of (by rw [d3, List.map_map]; rfl), ?_⟩
          have d4 := s3 _ _ d2
          have sA := s2.trans s3
          have hLD : H2 D = none := hD
          refine ⟨.int (0 + (j : Nat)), rfl, .ref L, rfl, L, nV (l0 ++ ex), rfl, .inl (SqL.of d4), rfl, flat_nV _, _, rfl, ?_⟩
          rw [ej, inV_nV]
          refine ite2 (fun e1 => ?_) (fun e1 => iteF ⟨ex, _, _, _, rfl, sA, d4, nd2, lt2, fun h hh => ?_⟩)
          · have hni : j ∉ l0 ++ ex := fun hm => by
              have e1 : (if true = true then !(l0 ++ ex).contains j else (l0 ++ ex).contains j) = true := e1
              rw [List.contains_iff_mem.mpr hm] at e1
              simp at e1
            refine ⟨.ref u, rfl, .int (j : Nat), rfl, u, purV n c, _, _, rfl, rfl, seqT_of sA hU, purV_at hj, _, rfl, _, _, rfl, rfl, _, rfl, ite2 (fun e2 => ?_) (fun e2 => ⟨ex, _, _, _, rfl, sA, d4, nd2, lt2, fun h hh => ?_⟩)⟩
            · refine ⟨.ref L, rfl, .inl ⟨rfl, _, SqL.of d4⟩, .int (j : Nat), rfl, L, nV (l0 ++ ex), _, rfl, rfl, d4, by rw [nV_len]; exact line_lt (by omega), ?_⟩
              refine ⟨ex ++ [j], _, _, _, rfl, same_but sA hL, ?_, ?_, fun x hx => ?_, fun h hh => ?_⟩
              · rw [upd_same, ← List.append_assoc, nV_append (l0 ++ ex) [j]]
                rfl
              · rw [← List.append_assoc, List.nodup_append]
                exact ⟨nd2, by simp, fun x hx y hy z => hni (by rw [← (List.mem_singleton.mp hy : y = j), ← z]; exact hx)⟩
              · rw [← List.append_assoc] at hx
                rcases List.mem_append.mp hx with h | h
                · exact lt2 x h
                · rw [List.mem_singleton.mp h]; exact hj
              · rw [← List.append_assoc]
                by_cases hz : h < j
                · rcases hd2 h hz with q | q
                  · exact .inl (List.mem_append_left _ q)
                  · exact .inr q
                · have : h = j := by omega
                  subst this
                  exact .inl (List.mem_append_right _ (List.mem_singleton.mpr rfl))
            · by_cases hz : h < j
              · exact hd2 h hz
              · have : h = j := by omega
                subst this
                refine .inr fun hc => e2 (decide_eq_true ?_)
                show c h < ((l0 ++ ex).map fun o => (m h o : Int)).sum
                have e3 : ((l0 ++ ex).map fun o => (m h o : Int)).sum = tieSum m h (l0 ++ ex) := rfl
                rw [e3, tieSum_append]
                have := tieSum_nn m h ex
                omega
          · by_cases hz : h < j
            · exact hd2 h hz
            · have : h = j := by omega
              subst this
              have e1 : ¬ (if true = true then !(l0 ++ ex).contains h else (l0 ++ ex).contains h) = true := e1
              refine .inl (Decidable.byContradiction fun hn => e1 ?_)
              show (!(l0 ++ ex).contains h) = true
              rw [not_cont hn]
              rfl
      · obtain ⟨ex, z4, z5, z6, rfl, s2, d2, nd2, lt2, hd2⟩ := hp2
        refine ⟨l0 ++ ex, _, _, _, rfl, s2, d2, nd2, lt2, List.mem_append_left _ hb0, ?_⟩
        have hlen := MT.nodup_len n _ nd2 lt2
        rw [List.length_append] at hlen ⊢
        rcases hl0 with h | h
        · by_cases hfull : l0.length = n
          · omega
          · obtain ⟨h', h1, h2, h3⟩ := hF l0 nd0 lt0 hb0 (by omega)
            rcases hd2 h' h1 with z | z
            · rcases List.mem_append.mp z with z | z
              · exact absurd z h2
              · have := List.length_pos_of_mem z
                omega
            · exact absurd h3 z
        · omega
    · obtain ⟨lit, y4, y5, y6, rfl, s1, d1, nd, lt, hbm, hl⟩ := hp
      have hlen := MT.nodup_len n _ nd lt
      refine ⟨.ref L, rfl, L, _, rfl, .inl (SqL.of d1), .ref a, rfl, a, xs, rfl, .inr (seqT_of s1 hX), rfl, ?_⟩
      rw [dec_intV, nV_len, hXl, decide_eq_true (show ((lit.length : Nat) : Int) = (n : Nat) by omega)]
      exact q _ s1
end
end K54
end
/-! ## T20 -/
section
set_option Elab.async false
set_option linter.all false
set_option maxRecDepth 100000
set_option maxHeartbeats 4000000
namespace K54
open PySem PySem.Spec PyProof.Rows L2 LamX NdefX
open MT (Web Aw eds)
section
variable {X : Cx}
/-- t[lo:hi], whatever it gives -/
def rSlB (K : PySem.W.Frag) : V → Option Int → Option Int → Hp → VK → Prop := fun x lo hi H Q => ∃ a xs, x = .ref a ∧ SqT K H a xs ∧ ∀ H' r, Same H H' → SqT K H' r (cutV xs lo hi) → Q (.ref r) H'
theorem slB (K : PySem.W.Frag) (hK : X.K = K := by rfl) : SlR X (rSlB K) := by
  subst hK
  intro pins s σ H x v vl vu lo hi sl Q I rx hs pl pu ⟨a, xs, e, hx, q⟩
  refine sl_tupA pins s σ H x v vl vu lo hi sl Q I rx hs pl pu ⟨a, xs, e, hx, fun hw => q H a (Same.refl H) ?_, fun _ p hp => q _ p (same_upd hp) (SqT.of upd_same)⟩
  have : cutV xs lo hi = xs := by
    unfold cutV
    rw [hw.1, hw.2, List.drop_zero, Nat.sub_zero, List.take_length]
  rw [this]
  exact hx
/-- t + u, whatever it gives -/
def rCatB (K : PySem.W.Frag) : R2 := fun x y H Q => ∃ a b xs ys, x = .ref a ∧ y = .ref b ∧ SqT K H a xs ∧ SqT K H b ys ∧ xs.length + ys.length ≤ sizeLine ∧ ∀ H' r, Same H H' → SqT K H' r (xs ++ ys) → Q (.ref r) H'
theorem catB (K : PySem.W.Frag) (hK : X.K = K := by rfl) : OpR X (binaryOp .Add) (rCatB K) := by
  subst hK
  intro pins s σ H x y v u Q I rx ry ⟨a, b, xs, ys, e1, e2, ha, hb, hz, q⟩
  refine op_catA pins s σ H x y v u Q I rx ry ⟨a, b, xs, ys, e1, e2, ha, hb, hz, fun h => q H b (Same.refl H) (by rw [h]; exact hb), fun _ h => q H a (Same.refl H) (by rw [h, List.append_nil]; exact ha), fun _ _ p hp => q _ p (same_upd hp) (SqT.of upd_same)⟩
end
theorem cut_to (xs : List V) (b : Nat) : cutV xs none (some (b : Nat)) = xs.take b := by
  unfold cutV
  rw [HT.sIx_none, HT.sIx_nat, List.drop_zero, Nat.sub_zero]
  by_cases h : b ≤ xs.length
  · rw [Nat.min_eq_left h]
  · rw [Nat.min_eq_right (by omega), List.take_length, List.take_of_length_le (by omega)]
theorem cut_from (xs : List V) (b : Nat) : cutV xs (some (((b : Nat) : Int) + 1)) none = xs.drop (b + 1) := by
  unfold cutV
  rw [show (((b : Nat) : Int) + 1) = ((b + 1 : Nat) : Int) by omega, HT.sIx_none, HT.sIx_nat]
  by_cases h : b + 1 ≤ xs.length
  · rw [Nat.min_eq_left h, List.take_of_length_le (by rw [List.length_drop]; omega)]
  · rw [Nat.min_eq_right (by omega), List.drop_length, List.take_nil, List.drop_of_length_le (by omega)]
section
variable {P : Program} {w : World} {K : PySem.W.Frag} {mg : Str → Option Value} {base : Heap}
/-! ### _law_settled -/
def spLSettled (K : PySem.W.Frag) : Sp := fun vs H Q _ => ∃ (a u : Addr) (n b : Nat) (m : Nat → Nat → Nat) (c : Nat → Int), vs = [.ref a, .ref u, .int (b : Nat)] ∧ WebAt K H a n m ∧ SqT K H u (purV n c) ∧ b < n ∧ n ≤ 7 ∧ FireOk n m c b ∧ (∀ h, h < n → 0 ≤ c h) ∧ ∀ H', Same H H' → Q (.bl true) H'
theorem ok_lsettled {f fA : Addr} {fd dA : FuncData} {k : Nat} (F : Fun K "_law_settled" "_law_settled" sLSettled f fd) (M : Mg mg) (FA : Fun K "_law_all_burn" "_law_all_burn" sAllBurn fA dA) (bA : Binds K dA ["_law_web", "_law_purse", "_law_base"] []) (gA : mg "_law_all_burn" = some (.ref fA)) :
    FnOk P w K mg base CX0 (k + 2) f fd ["_law_web", "_law_purse", "_law_base"] (spLSettled K) := by
  have GA : FnOk P w K mg base CX0 (k + 1) fA dA ["_law_web", "_law_purse", "_law_base"] (spAllBurn K) := ok_allBurn FA M
  refine F.ok scLSettled (fun vs H Q E h => ?_) (fun cdv A outer s H vs Q E hr h => ?_)
  · obtain ⟨a, u, n, b, m, c, rfl, _⟩ := h
    rfl
  · obtain ⟨a, u, n, b, m, c, rfl, hW, hU, hb, h7, hF, hc, q⟩ := h
    refine ⟨_, pss_cons (ps_set (i := 3) scLSettled.nd rfl (.inl rfl) (pe_op (catB K) (pe_slice (slB K) (pv 1) po_none (po_some (pv 2))) (pe_slice (slB K) (pv 1) (po_some (pe_op op_add (pv 2) pe_int)) po_none)))
      (pss_cons (ps_if (pt_cmpR op_lt (pe_callBK (crMinD K rfl) (by rfl) M.min (by decide +kernel) (pa_cons (pv 3) pa_nil) (pk_cons pe_int pk_nil)) pe_int (nomark _)) pss_never pss_nil)
      (pss_one (ps_ret (pe_call GA hr (by rfl) gA FA.kp bA .nil pass0 (pa_cons (pv 0) (pa_cons (pv 1) (pa_cons (pv 2) pa_nil))))))), ?_⟩
    refine ⟨.ref u, rfl, .int (b : Nat), rfl, (b : Nat), rfl, u, _, rfl, hU, fun H1 r1 s1 t1 => ?_⟩
    refine ⟨.ref u, rfl, .int (b : Nat), rfl, _, _, rfl, rfl, _, rfl, u, _, rfl, seqT_of s1 hU, fun H2 r2 s2 t2 => ?_⟩
    rw [cut_to] at t1
    have t2 : SqT K H2 r2 (cutV (purV n c) (some (((b : Nat) : Int) + 1)) none) := t2
    rw [cut_from] at t2
    refine ⟨r1, r2, _, _, rfl, rfl, seqT_of s2 t1, t2, line_le (by rw [List.length_take, List.length_drop, purV_len]; omega), fun H3 r3 s3 t3 => ?_⟩
    have ev : (purV n c).take b ++ (purV n c).drop (b + 1) = (((List.range n).map c).take b ++ ((List.range n).map c).drop (b + 1)).map V.int := by
      rw [List.map_append, List.map_take, List.map_drop, List.map_map]
      rfl
    rw [ev] at t3
    refine ⟨.ref r3, rfl, r3, _, 0, rfl, rfl, t3, fun x hx => ?_, Int.le_refl 0, fun i hi => ⟨_, _, rfl, rfl, false, congrArg V.bl (decide_eq_false (by omega)), iteF ?_⟩⟩
    · have : x ∈ (List.range n).map c := (List.mem_append.mp hx).elim List.mem_of_mem_take List.mem_of_mem_drop
      obtain ⟨h, hh, rfl⟩ := List.mem_map.mp this
      exact hc h (List.mem_range.mp hh)
    · have sA := s1.trans (s2.trans s3)
      exact ⟨.ref a, rfl, .ref u, rfl, .int (b : Nat), rfl, a, u, n, b, m, c, rfl, hW.same sA, seqT_of sA hU, hb, h7, hF, fun H4 s4 => q H4 (sA.trans s4)⟩
end
end K54
end
/-! ## T21 -/
section
set_option Elab.async false
set_option linter.all false
set_option maxRecDepth 100000
set_option maxHeartbeats 4000000
namespace K54
open PySem PySem.Spec PyProof.Rows L2 LamX NdefX
open MT (Web Aw eds)
section
variable {X : Cx} {CX : CXT} {k : Nat} {f : Addr} {fd : FuncData} {ps : List Str} {sp : Sp} {E : L2.St → XK} {x : Str} {p pos : Pos} {e : Expr} {es : List Expr} {t : TA} {ds : List Value} {dvs : List V}
/-- f(e, ..) in a try, the defaults filling up -/
theorem pe_callX (F : FnOk X.prog X.w X.K X.mg X.base CX k f fd ps sp) (hr : Room k X.A) (hg : Gl X x) (hm : X.mg x = some (.ref f)) (hk : PySem.W.keepIn X.K (.ref f) = true) (hb : Binds X.K fd ps ds) (hd : Vals dvs ds) (hx : ∀ σ, PassesAt CX X σ (E σ))
    (ha : PA X (e :: es) t) (hdb : (x == ("__debug__" : Str)) = false := by decide) (he : starEach (e :: es) X.env = (false, eval e X.env) :: starEach es X.env := by rfl) (hpl : (backTo pos (starEach es X.env)).any (·.1) = false := by rfl) :
    PE X (.Call (.Name x p) (e :: es) [] pos) (fun σ H Q => t σ H fun vs H1 => sp (vs ++ dvs) H1 Q (E σ)) := by
  refine ⟨fun pins s σ H Q I h => wpAny_Call_Name_kw (ld_glob I hg hm (PySem.W.callWith_K (h₀ := X.base) I.ok.mod.kin hk (thn (ha.run pos pins s σ H _ I h) fun us s1 ⟨vs, H1, I1, r, q⟩ => ⟨I1.kIn, ?_⟩) he hpl) hdb)⟩
  have r2 : Vals (vs ++ dvs) (us ++ ds) := r.append hd
  have hl : (us ++ ds).length = ps.length := r2.length.symm.trans (F.len _ _ _ _ q)
  refine wpAny_call (codeAny_mono (F.run X.A X.stack s1 H1 ⟨us, []⟩ (us ++ ds) (vs ++ dvs) Q (E σ) hr I1.env0 (hb s1 us I1.kIn hl) r2 q) fun o s' hq => ?_)
  rcases o with er | fl
  · exact hx σ pins H1 s1 er s' I1 hq
  · cases fl with
    | ret u => exact I1.after hq
    | next => exact False.elim hq
    | brk => exact False.elim hq
    | cont => exact False.elim hq
end
section
variable {P : Program} {w : World} {K : PySem.W.Frag} {mg : Str → Option Value} {base : Heap}
/-! ### _law_too_many -/
def spTooMany (K : PySem.W.Frag) (T : List (Addr × Str)) : Sp := fun vs H Q _ => ∃ (a : Addr) (n b : Nat) (m : Nat → Nat → Nat) (mv : V) (mo : Int), vs = [.ref a, .int (b : Nat), mv] ∧ WebAt K H a n m ∧ b < n ∧ n ≤ 7 ∧ CountOk (n - 1) (Aw n m) ∧ Tabs T H ∧
  ((mv = .non ∧ mo = 300) ∨ mv = .int mo) ∧ mo < countRes (n - 1) (Aw n m) ∧ ∀ H', ExtN H H' → Tabs T H' → Q (.bl true) H'
theorem ok_tooMany {f fS fK fW CT PEr : Addr} {fd dS dK dW : FuncData} {k : Nat} {T : List (Addr × Str)} {ds : List Value} (F : Fun K "_law_too_many" "_law_too_many" sTooMany f fd) (M : Mg mg) (KC : KindC K mg CT)
    (GS : FnOk P w K mg base (L2.CX P w) (k + 12) fS dS ["web", "base", "most"] (spStills K T CT)) (kS : PySem.W.keepIn K (.ref fS) = true) (b3 : Binds K dS ["web", "base", "most"] []) (b2 : Binds K dS ["web", "base", "most"] ds) (hds : Vals [V.int 300] ds) (gS : mg "stills" = some (.ref fS))
    (FK : Fun K "_law_kind" "_law_kind" sKind fK dK) (bK : Binds K dK ["_law_e"] []) (gK : mg "_law_kind" = some (.ref fK)) (FW : Fun K "_law_whole" "_law_whole" sWhole fW dW) (bW : Binds K dW ["_law_thing"] []) (gW : mg "_law_whole" = some (.ref fW))
    (gP : mg "PurseError" = some (.ref PEr)) (eP : PySem.W.exmOne K (.ref CT) (.ref PEr) = some true) : FnOk P w K mg base CX0 (k + 13) f fd ["_law_web", "_law_base", "_law_most"] (spTooMany K T) := by
  have GK : FnOk P w K mg base CX0 (k + 11 + 1) fK dK ["_law_e"] (spKind K CT) := ok_kind FK M KC
  have GW : FnOk P w K mg base CX0 (k + 11 + 1) fW dW ["_law_thing"] spWhole := ok_whole FW M
  refine F.ok scTooMany (fun vs H Q E h => ?_) (fun cdv A outer s H vs Q E hr h => ?_)
  · obtain ⟨a, n, b, m, mv, mo, rfl, _⟩ := h
    rfl
  · obtain ⟨a, n, b, m, mv, mo, rfl, hW, hb, h7, hC, hTb, hmv, hlt, q⟩ := h
    refine ⟨_, pss_cons (ps_set (i := 3) scTooMany.nd rfl (.inl rfl) pe_non)
      (pss_cons (ps_set (i := 4) scTooMany.nd rfl (.inl rfl) (pv 2))
      (pss_cons (ps_try_hold (i := 5) (x := "PurseError") (c := .ref PEr)
          (tb := fun W => tIfS (tTest (tOp (fun x y H Q => y = .non ∧ Q (.bl (decide (x = .non))) H) (tVar 2) (tC .non))) (tSeq (tAsg (tC (.int 300)) (gName 4)) (tDrop (fun σ H Q => tCons (tVar 0) (tCons (tVar 1) tNil) σ H fun vs H1 => spStills K T CT (vs ++ [.int 300]) H1 Q (WE W σ))))
            (tDrop (fun σ H Q => tCons (tVar 0) (tCons (tVar 1) (tCons (tVar 2) tNil)) σ H fun vs H1 => spStills K T CT (vs ++ []) H1 Q (WE W σ))))
          (ts := tAsg (tVar 5) (gName 3)) rfl rfl rfl scTooMany.nd rfl rfl ⟨rfl, by decide, .inl gP⟩
          (fun W pn xe tk => pss_one (ps_if (pt_cmpR op_isN (pv 2) pe_non (nomark _))
            (pss_cons (ps_set (i := 4) scTooMany.nd rfl (.inl rfl) pe_int) (pss_one (ps_expr (by exact (pe_callX GS hr (by rfl) gS kS b2 hds (fun σ => passAt tk σ) (by exact (pa_cons (pv 0) (pa_cons (pv 1) pa_nil))))))))
            (pss_one (ps_expr (by exact (pe_callX GS hr (by rfl) gS kS b3 .nil (fun σ => passAt tk σ) (by exact (pa_cons (pv 0) (pa_cons (pv 1) (pa_cons (pv 2) pa_nil))))))))))
          (fun a pn => pss_one (ps_set (i := 3) scTooMany.nd rfl (.inl rfl) (pv 5))))
      (pss_one (ps_ret (pe_and (pe_cmpR op_notN (pv 3) pe_non (nomark _)) (pe_and (pe_cmpR op_eq (pe_call GK hr (by rfl) gK FK.kp bK .nil pass0 (pa_cons (pv 3) pa_nil)) pe_int (nomark _))
        (pe_and (pe_call GW hr (by rfl) gW FW.kp bW .nil pass0 (pa_cons (pe_fldH K (pv 3)) pa_nil)) (pe_one (pe_cmpR op_eq (pe_fldH K (pv 3)) (pv 4) (nomark _)))))))))), ?_⟩
    refine ⟨mv, rfl, ?_⟩
    rcases hmv with ⟨rfl, rfl⟩ | rfl
    · refine ⟨.non, rfl, rfl, true, rfl, iteT ⟨.ref a, rfl, .int (b : Nat), rfl, a, n, b, m, 300, rfl, hW, hb, h7, hC, hTb, fun hle => by omega, fun _ => fun d H' e1 T1 hd => ⟨eP, fun x hx => ?_⟩⟩⟩
      have nxd : d ≠ x := ne_of_none hd hx
      have s2 := same_upd (o := EcO x (.ref CT) (some d)) hx
      have ex : (upd H' x (EcO x (.ref CT) (some d))) x = some (EcO x (.ref CT) (some d)) := upd_same
      have ed := upd_at (o := EcO x (.ref CT) (some d)) hd nxd
      generalize upd H' x (EcO x (.ref CT) (some d)) = H2 at *
      have lkm : List.lookup ("most" : Str) [(("most" : Str), V.int 300)] = some (V.int 300) := by simp [List.lookup]
      refine ⟨.ref x, rfl, .ref x, rfl, rfl, true, rfl, iteT ⟨.ref x, rfl, x, d, _, rfl, ex, ed, fun H3 s3 => ⟨rfl, true, congrArg V.bl (decide_eq_true rfl), iteT ?_⟩⟩⟩
      refine ⟨.ref x, rfl, x, CT, d, _, .int 300, rfl, s3 _ _ ex, s3 _ _ ed, KC.x, KC.no, lkm, 300, rfl, true, rfl, iteT ?_⟩
      refine ⟨.ref x, rfl, x, CT, d, _, .int 300, rfl, s3 _ _ ex, s3 _ _ ed, KC.x, KC.no, lkm, .int 300, rfl, rfl, ?_⟩
      rw [decide_eq_true (rfl : V.int 300 = V.int 300)]
      exact q H3 (e1.trans (ExtN.of (s2.trans s3))) (tabs_same T1 (s2.trans s3))
    · refine ⟨.int mo, rfl, rfl, false, rfl, iteF ⟨.ref a, rfl, .int (b : Nat), rfl, .int mo, rfl, a, n, b, m, mo, rfl, hW, hb, h7, hC, hTb, fun hle => by omega, fun _ => fun d H' e1 T1 hd => ⟨eP, fun x hx => ?_⟩⟩⟩
      have nxd : d ≠ x := ne_of_none hd hx
      have s2 := same_upd (o := EcO x (.ref CT) (some d)) hx
      have ex : (upd H' x (EcO x (.ref CT) (some d))) x = some (EcO x (.ref CT) (some d)) := upd_same
      have ed := upd_at (o := EcO x (.ref CT) (some d)) hd nxd
      generalize upd H' x (EcO x (.ref CT) (some d)) = H2 at *
      have lkm : List.lookup ("most" : Str) [(("most" : Str), V.int mo)] = some (V.int mo) := by simp [List.lookup]
      refine ⟨.ref x, rfl, .ref x, rfl, rfl, true, rfl, iteT ⟨.ref x, rfl, x, d, _, rfl, ex, ed, fun H3 s3 => ⟨rfl, true, congrArg V.bl (decide_eq_true rfl), iteT ?_⟩⟩⟩
      refine ⟨.ref x, rfl, x, CT, d, _, .int mo, rfl, s3 _ _ ex, s3 _ _ ed, KC.x, KC.no, lkm, mo, rfl, true, rfl, iteT ?_⟩
      refine ⟨.ref x, rfl, x, CT, d, _, .int mo, rfl, s3 _ _ ex, s3 _ _ ed, KC.x, KC.no, lkm, .int mo, rfl, rfl, ?_⟩
      rw [decide_eq_true (rfl : V.int mo = V.int mo)]
      exact q H3 (e1.trans (ExtN.of (s2.trans s3))) (tabs_same T1 (s2.trans s3))
end
end K54
end
/-! ## T22 -/
section
set_option Elab.async false
set_option linter.all false
set_option maxRecDepth 100000
set_option maxHeartbeats 4000000
namespace K54
open PySem PySem.Spec PyProof.Rows L2 LamX NdefX
open MT (Web Aw eds Tr pur PT wL TOk CL)
/-! ### data: tuples of ints, lists of them -/
abbrev dI (p : List Int) : PyData := .tuple (p.map PyData.int)
abbrev dL (pl : List (List Int)) : PyData := .list (pl.map dI)
theorem lay_ints : ∀ p : List Int, PyData.canLayAll0 (p.map PyData.int) = true ∧ PyData.depthAll (p.map PyData.int) ≤ 1
  | [] => ⟨by simp [PyData.canLayAll0], by simp [PyData.depthAll]⟩
  | x :: r => by
    have := lay_ints r
    refine ⟨by simp [PyData.canLayAll0, PyData.canLay0, this.1], ?_⟩
    show max (PyData.depth (.int x)) (PyData.depthAll (r.map PyData.int)) ≤ 1
    have : PyData.depth (.int x) ≤ 1 := by simp [PyData.depth]
    omega
theorem lay_dI (p : List Int) : PyData.canLay0 (dI p) = true ∧ PyData.depth (dI p) ≤ 2 := by
  have := lay_ints p
  refine ⟨by simp [PyData.canLay0, this.1], ?_⟩
  show PyData.depthAll (p.map PyData.int) + 1 ≤ 2
  omega
theorem lay_all : ∀ pl : List (List Int), PyData.canLayAll0 (pl.map dI) = true ∧ PyData.depthAll (pl.map dI) ≤ 2
  | [] => ⟨by simp [PyData.canLayAll0], by simp [PyData.depthAll]⟩
  | x :: r => by
    have h := lay_all r
    have h1 := lay_dI x
    refine ⟨by rw [List.map_cons]; simp [PyData.canLayAll0, h.1, h1.1], ?_⟩
    show max (PyData.depth (dI x)) (PyData.depthAll (r.map dI)) ≤ 2
    omega
theorem shaped_dI (p : List Int) : SeqAt.shaped (dI p) = true := by
  unfold SeqAt.shaped
  rw [(lay_dI p).1, decide_eq_true (Nat.le_trans (lay_dI p).2 (by decide))]
  rfl
theorem shaped_dL (pl : List (List Int)) : SeqAt.shaped (dL pl) = true := by
  have h := lay_all pl
  unfold SeqAt.shaped
  have e1 : PyData.canLay0 (dL pl) = true := by simp [PyData.canLay0, h.1]
  have e2 : PyData.depth (dL pl) ≤ 64 := by
    show PyData.depthAll (pl.map dI) + 1 ≤ 64
    omega
  rw [e1, decide_eq_true e2]
  rfl
theorem eqv_dI (p : List Int) : PyData.eqv (dI p) (dI p) = true := SeqAt.eqv_refl _ (lay_dI p).1
theorem eqv_dL (pl : List (List Int)) : PyData.eqv (dL pl) (dL pl) = true := SeqAt.eqv_refl _ (SeqAt.canLay_of_shaped (shaped_dL pl))
theorem dpAll_ints (K : PySem.W.Frag) (H : Hp) : ∀ p : List Int, DpAll K H (hV p) (p.map PyData.int)
  | [] => .nil
  | x :: r => .cons (.int x) (dpAll_ints K H r)
theorem dp_tup {K : PySem.W.Frag} {H : Hp} {u : Addr} {p : List Int} (h : SqT K H u (hV p)) : Dp K H (.ref u) (dI p) := .tup h (dpAll_ints K H p)
theorem dpAll_rows {K : PySem.W.Frag} {H : Hp} : ∀ {ys : List V} {pl : List (List Int)}, IRows H ys pl → DpAll K H ys (pl.map dI)
  | [], [], _ => .nil
  | [], _ :: _, h => by have := h.len; simp at this
  | _ :: _, [], h => by have := h.len; simp at this
  | y :: ys, p :: pl, h => by
    obtain ⟨u, e1, e2⟩ := h.at_ 0 y p rfl rfl
    subst e1
    refine .cons (dp_tup (SqT.of e2)) (dpAll_rows ⟨by have := h.len; simpa using this, fun i y' p' a b => h.at_ (i + 1) y' p' (by simpa using a) (by simpa using b)⟩)
theorem dp_rows {K : PySem.W.Frag} {H : Hp} {r : Addr} {ys : List V} {pl : List (List Int)} (hr : H r = some (.lst ys)) (h : IRows H ys pl) : Dp K H (.ref r) (dL pl) := .lst (SqL.of hr) (dpAll_rows h)
/-- what sorted gives -/
theorem srt_of {K : PySem.W.Frag} {H : Hp} {zs ys : List V} {pl : List (List Int)} (rz : IRows H zs pl) (hp : ys.Perm zs) (hs : ys.Pairwise (fun x y => ∀ n m, TupI K H x n → TupI K H y m → TS.code 1000 n ≤ TS.code 1000 m)) : ∃ pl', IRows H ys pl' ∧ Srt pl' pl := by
  obtain ⟨ry, py⟩ := rz.perm hp
  refine ⟨_, ry, py, ?_⟩
  rw [List.pairwise_map]
  refine hs.imp_of_mem fun {x y} hx hy h => ?_
  obtain ⟨u1, p1, a1, _, a3⟩ := ry.mem hx
  obtain ⟨u2, p2, b1, _, b3⟩ := ry.mem hy
  subst a1 b1
  rw [intsAt_tup a3, intsAt_tup b3]
  exact h p1 p2 ⟨u1, rfl, SqT.of a3⟩ ⟨u2, rfl, SqT.of b3⟩
section
variable {X : Cx}
/-- len(set), a set of tuples of ints -/
theorem crLenSetT (K : PySem.W.Frag) (hK : X.K = K := by rfl) : CallR X (.builtin "len") (fun xs H Q => ∃ (p : Addr) (L : List (Addr × List Int)), xs = [.ref p] ∧ H p = some (SetTO X.prog X.w p L) ∧ (∀ q ∈ L, SqT K H q.1 (q.2.map V.int)) ∧ ((L.map (·.2)).Nodup → Q (.int (L.length : Nat)) H)) := by
  subst hK
  intro pins s σ H xs us Q I r ⟨p, L, e, hp, ht, q⟩
  subst e
  have eu := Vals.ref1 r
  subst eu
  have so : ObjOk X.prog X.w H s.heap p (SetTO X.prog X.w p L) := I.hok p _ hp
  have T0 : SetT0 X.prog X.w s.heap p L := so.1
  obtain ⟨es, ep, t, R⟩ := T0.full fun q hq => I.isT (ht q hq)
  obtain ⟨o, ho, hex, hd⟩ := R.ob
  have hf := R.fits
  have hn := R.size
  have h64 := R.few
  refine call_len_set ho hex hd hf (by rw [hn]; omega) ⟨.int (L.length : Nat), H, I.tok _, ⟨_, by rw [hn]⟩, q R.nd⟩
end
/-! ### defs as they are called -/
structure CalE (P : Program) (w : World) (K : PySem.W.Frag) (mg : Str → Option Value) (base : Heap) (CX : CXT) (k : Nat) (x : Str) (ps : List Str) (dvs : List V) (sp : Sp) : Prop where
  ex : ∃ (f : Addr) (fd : FuncData) (ds : List Value), FnOk P w K mg base CX k f fd ps sp ∧ mg x = some (.ref f) ∧ PySem.W.keepIn K (.ref f) = true ∧ Binds K fd ps ds ∧ Vals dvs ds
theorem pe_cal {X : Cx} {CX : CXT} {k : Nat} {x : Str} {ps : List Str} {dvs : List V} {sp : Sp} {E : XK} {p pos : Pos} {e : Expr} {es : List Expr} {t : TA} (c : CalE X.prog X.w X.K X.mg X.base CX k x ps dvs sp) (hr : Room k X.A) (hg : Gl X x) (hx : Passes CX X E) (ha : PA X (e :: es) t)
    (hdb : (x == ("__debug__" : Str)) = false := by decide) (he : starEach (e :: es) X.env = (false, eval e X.env) :: starEach es X.env := by rfl) (hpl : (backTo pos (starEach es X.env)).any (·.1) = false := by rfl) : PE X (.Call (.Name x p) (e :: es) [] pos) (tCall sp dvs E t) := by
  obtain ⟨f, fd, ds, F, gm, kp, hb, hd⟩ := c.ex
  exact pe_call F hr hg gm kp hb hd hx ha hdb he hpl
end K54
end
/-! ## T24 -/
section
set_option Elab.async false
set_option linter.all false
set_option maxRecDepth 100000
set_option maxHeartbeats 4000000
namespace K54
open PySem PySem.Spec PyProof.Rows L2 LamX NdefX
open MT (Web Aw eds Tr pur PT wL TOk CL TF)
theorem RowsAt.ext {H H' : Hp} {us : List Addr} {ts : List (List Nat)} (h : RowsAt H us ts) (e : ExtN H H') : RowsAt H' us ts := ⟨h.len, fun i u t a b => e _ _ (h.at_ i u t a b) (fun ps z => by cases z)⟩
theorem IRows.pairs {H : Hp} : ∀ {zs : List V} {pl : List (List Int)}, IRows H zs pl → ∃ ks : List (Addr × List Int), zs = ks.map (fun p => V.ref p.1) ∧ pl = ks.map (·.2) ∧ ∀ p ∈ ks, H p.1 = some (.tup (hV p.2))
  | [], [], _ => ⟨[], rfl, rfl, fun p hp => absurd hp (by simp)⟩
  | [], _ :: _, h => by have := h.len; simp at this
  | _ :: _, [], h => by have := h.len; simp at this
  | z :: zs, p :: pl, h => by
    obtain ⟨u, e1, e2⟩ := h.at_ 0 z p rfl rfl
    subst e1
    obtain ⟨ks, a, b, c⟩ := IRows.pairs (H := H) (zs := zs) (pl := pl) ⟨by have := h.len; simpa using this, fun i y' p' a b => h.at_ (i + 1) y' p' (by simpa using a) (by simpa using b)⟩
    refine ⟨(u, p) :: ks, by rw [a]; rfl, by rw [b]; rfl, fun q hq => ?_⟩
    rcases List.mem_cons.mp hq with r | r
    · rw [r]; exact e2
    · exact c q r
theorem nodup_map_on {α β : Type} {f : α → β} : ∀ {l : List α}, l.Nodup → (∀ x ∈ l, ∀ y ∈ l, f x = f y → x = y) → (l.map f).Nodup
  | [], _, _ => List.nodup_nil
  | a :: r, nd, inj => by
    rw [List.nodup_cons] at nd
    rw [List.map_cons, List.nodup_cons]
    refine ⟨fun z => ?_, nodup_map_on nd.2 fun x hx y hy => inj x (List.mem_cons_of_mem _ hx) y (List.mem_cons_of_mem _ hy)⟩
    obtain ⟨b, hb, e⟩ := List.mem_map.mp z
    exact nd.1 (inj b (List.mem_cons_of_mem _ hb) a List.mem_cons_self e ▸ hb)
theorem len_le_of {α : Type} [DecidableEq α] : ∀ (a b : List α), a.Nodup → (∀ x ∈ a, x ∈ b) → a.length ≤ b.length
  | [], _, _, _ => Nat.zero_le _
  | x :: r, b, nd, s => by
    rw [List.nodup_cons] at nd
    have hx := s x List.mem_cons_self
    have := len_le_of r (b.erase x) nd.2 fun y hy => by
      have ne : y ≠ x := fun z => nd.1 (z ▸ hy)
      exact (List.mem_erase_of_ne ne).mpr (s y (List.mem_cons_of_mem _ hy))
    rw [List.length_erase_of_mem hx] at this
    have := List.length_pos_of_mem hx
    rw [List.length_cons]
    omega
theorem purs_nodup {n b : Nat} {m : Nat → Nat → Nat} (W : Web n m) (hb : b < n) : (pursAll n m b).Nodup := by
  refine nodup_map_on (MT.TF_nodup (eds n m) (eds n m) 0 rfl _) fun x hx y hy e => ?_
  have Tx := MT.tr_of W hx
  have Ty := MT.tr_of W hy
  refine Tx.inj Ty hb fun j hj => ?_
  have := congrArg (fun l : List Int => l.getD j 0) e
  have e1 : (purL n m b x).getD j 0 = pur n m b x j := by simp [List.getD, List.getElem?_map, List.getElem?_range hj]
  have e2 : (purL n m b y).getD j 0 = pur n m b y j := by simp [List.getD, List.getElem?_map, List.getElem?_range hj]
  rw [← e1, ← e2]
  exact this
theorem pur_base (n : Nat) (m : Nat → Nat → Nat) (b : Nat) (tr : List Nat) : pur n m b tr b = 0 := by
  unfold MT.pur
  rw [if_pos rfl]
theorem pur_with {n b : Nat} {c : Nat → Int} {x : Int} (hb : b < n) : (purV n c).take b ++ [V.int x] ++ (purV n c).drop (b + 1) = purV n (fun h => if h = b then x else c h) := by
  have e : (purV n c).take b ++ [V.int x] ++ (purV n c).drop (b + 1) = (purV n c).set b (.int x) := by
    rw [List.set_eq_take_append_cons_drop, if_pos (by rw [purV_len]; exact hb), List.append_assoc]
    rfl
  rw [e]
  refine List.ext_getElem? fun j => ?_
  unfold purV
  by_cases hj : j < n
  · by_cases h : j = b
    · subst h
      rw [List.getElem?_set_self (by simpa using hj), List.getElem?_map, List.getElem?_range hj]
      show _ = some (V.int (if j = j then x else c j))
      rw [if_pos rfl]
    · rw [List.getElem?_set_ne (Ne.symm h), List.getElem?_map, List.getElem?_map, List.getElem?_range hj]
      show some (V.int (c j)) = some (V.int (if j = b then x else c j))
      rw [if_neg h]
  · rw [List.getElem?_eq_none (by simp; omega), List.getElem?_eq_none (by simp; omega)]
theorem small_of {n : Nat} {l : List PT} (h7 : n ≤ 7) (T : TOk n (roomOf n) l) : Small n (wL l) := ⟨h7, fun a b _ _ => by
  have := MT.wL_le a b l
  have := T.sum
  have := room_le h7
  omega⟩
theorem web_facts {n : Nat} {l : List PT} (h0 : 0 < n) (h7 : n ≤ 7) (T : TOk n (roomOf n) l) (C : CL n l) : Web n (wL l) ∧ (eds n (wL l)).length ≤ 8 ∧ (trsOf n (wL l)).length < 64 ∧ CountOk (n - 1) (Aw n (wL l)) ∧ countRes (n - 1) (Aw n (wL l)) = ((trsOf n (wL l)).length : Nat) := by
  have W := MT.web_of h0 T C
  have h8 : (eds n (wL l)).length ≤ 8 := Nat.le_trans (MT.eds_le T) (room_le h7)
  refine ⟨W, h8, trees_few W h7 h8 fun h => ?_, count_ok W h7 h8, count_res W⟩
  have := MT.eds_le T
  unfold roomOf at this
  rw [if_pos h] at this
  exact this
end K54
end
/-! ## T23 -/
section
set_option Elab.async false
set_option linter.all false
set_option maxRecDepth 100000
set_option maxHeartbeats 4000000
namespace K54
open PySem PySem.Spec PyProof.Rows L2 LamX NdefX
open MT (Web Aw eds Tr pur PT wL TOk CL TF)
abbrev Nl : List Str := ["_law_script", "_law_many", "_law_web", "_law_base", "_law_found", "_law_some", "_law_k", "_law_purse", "_law_coins", "_law_told", "_law_ring"]
section
variable {P : Program} {w : World} {K : PySem.W.Frag} {mg : Str → Option Value} {base : Heap}
structure Cals (P : Program) (w : World) (K : PySem.W.Frag) (mg : Str → Option Value) (base : Heap) (k : Nat) (T : List (Addr × Str)) (CT : Addr) : Prop where
  cell : CalE P w K mg base CX0 k "_law_cell" ["_law_script", "_law_k"] [] (spCell2 K)
  houses : CalE P w K mg base CX0 k "_law_houses" ["_law_cell_here"] [] spHouses
  square : CalE P w K mg base CX0 k "_law_square" ["_law_times_here", "_law_many"] [] (spSquare K)
  times : CalE P w K mg base CX0 k "_law_times" ["_law_script", "_law_at", "_law_many"] [] (spTimes K)
  trees : CalE P w K mg base (L2.CX P w) k "trees" ["web", "most"] [.int 300] (spTrees K CT)
  stillOf : CalE P w K mg base CX0 k "still_of" ["web", "base", "tree"] [] (spStillOf K T)
  treeOf : CalE P w K mg base CX0 k "tree_of" ["web", "base", "purse"] [] (spTreeOf K T)
  tuple : CalE P w K mg base CX0 k "_law_tuple" ["_law_found", "_law_many"] [] spLTuple
  settled : CalE P w K mg base CX0 k "_law_settled" ["_law_web", "_law_purse", "_law_base"] [] (spLSettled K)
  stills2 : CalE P w K mg base (L2.CX P w) k "stills" ["web", "base", "most"] [.int 300] (spStills K T CT)
  stills3 : CalE P w K mg base (L2.CX P w) k "stills" ["web", "base", "most"] [] (spStills K T CT)
  tooMany : CalE P w K mg base CX0 k "_law_too_many" ["_law_web", "_law_base", "_law_most"] [] (spTooMany K T)
def spLaw (K : PySem.W.Frag) (T : List (Addr × Str)) : Sp := fun vs H Q _ => ∃ (s : Addr) (ns : List Int), vs = [.ref s] ∧ SqL K H s (ns.map V.int) ∧ ns.length ≤ 1000 ∧ Tabs T H ∧ ∀ H', Q (.bl true) H'
theorem ok_law {f CT : Addr} {fd : FuncData} {k : Nat} {T : List (Addr × Str)} (F : Fun K "law" "law" sLaw f fd) (M : Mg mg) (C : Cals P w K mg base k T CT) : FnOk P w K mg base CX0 (k + 1) f fd ["_law_script"] (spLaw K T) := by
  refine F.ok scLaw (fun vs H Q E h => ?_) (fun cdv A outer s H vs Q E hr h => ?_)
  · obtain ⟨s, ns, rfl, _⟩ := h
    rfl
  · obtain ⟨s, ns, rfl, hS, hlen, hTb, q⟩ := h
    have hu := hr.units
    refine ⟨_, pss_cons (ps_set (i := 1) scLaw.nd rfl (.inr rfl) (pe_cal C.houses hr (by rfl) pass0 (pa_cons (pe_cal C.cell hr (by rfl) pass0 (pa_cons (pv 0) (pa_cons pe_int pa_nil))) pa_nil)))
      (pss_cons (ps_set (i := 2) scLaw.nd rfl (.inl rfl) (pe_cal C.square hr (by rfl) pass0 (pa_cons (pe_cal C.times hr (by rfl) pass0 (pa_cons (pv 0) (pa_cons pe_int (pa_cons (pv 1) pa_nil)))) (pa_cons (pv 1) pa_nil))))
      (pss_cons (ps_set (i := 3) scLaw.nd rfl (.inl rfl) (pe_op op_mod (pe_cal C.cell hr (by rfl) pass0 (pa_cons (pv 0) (pa_cons pe_int pa_nil))) (pv 1)))
      (pss_cons (ps_set (i := 4) scLaw.nd rfl (.inl rfl) (pe_lst pa_nil))
      (pss_cons (ps_set (i := 5) scLaw.nd rfl (.inl rfl) (pe_cal (E := E0) C.trees hr (by rfl) passL (pa_cons (pv 2) pa_nil)))
      (pss_cons (ps_for PassesOwn.never rfl (pi_range1 rfl M.range (pa_cons (pe_callB (lenS K) (by rfl) M.len PySem.boot_len (pa_cons (pv 5) pa_nil)) pa_nil)) (pg_name (i := 6) scLaw.nd rfl (.inl rfl))
      (pss_cons (ps_set (i := 7) scLaw.nd rfl (.inl rfl) (pe_cal C.stillOf hr (by rfl) pass0 (pa_cons (pv 2) (pa_cons (pv 3) (pa_cons (pe_ix (ixl K) (pv 5) (pv 6) (fun _ _ => rfl)) pa_nil)))))
      (pss_cons (ps_if (PW.pt (pw_or (pt_not (pt_truth (pe_cal C.tuple hr (by rfl) pass0 (pa_cons (pv 7) (pa_cons (pv 1) pa_nil))) (fun _ => rfl))) (pw_or (pt_cmpR op_ne (pe_ix (ixt K) (pv 7) (pv 3) (fun _ _ => rfl)) pe_int (nomark _)) (pw_or1 (pt_not (pt_truth (pe_cal C.settled hr (by rfl) pass0 (pa_cons (pv 2) (pa_cons (pv 7) (pa_cons (pv 3) pa_nil)))) (fun _ => rfl))))))) (pss_one (ps_ret pe_bl)) pss_nil)
      (pss_cons (ps_set (i := 8) scLaw.nd rfl (.inl rfl) (pe_op op_sub (pe_op op_mod (pe_cal C.cell hr (by rfl) pass0 (pa_cons (pv 0) (pa_cons (pe_op op_add pe_int (pe_op op_mod (pv 6) pe_int)) pa_nil))) pe_int) pe_int))
      (pss_cons (ps_if (pt_cmpR (op_neD hu) (pe_cal C.treeOf hr (by rfl) pass0 (pa_cons (pv 2) (pa_cons (pv 3) (pa_cons (pe_op (catB K) (pe_op (catB K) (pe_slice (slB K) (pv 7) po_none (po_some (pv 3))) (pe_tup (pa_cons (pv 8) pa_nil))) (pe_slice (slB K) (pv 7) (po_some (pe_op op_add (pv 3) pe_int)) po_none)) pa_nil)))) (pe_ix (ixl K) (pv 5) (pv 6) (fun _ _ => rfl)) (nomark _)) (pss_one (ps_ret pe_bl)) pss_nil)
      (pss_one (ps_expr (pe_bm PySem.F.plainAttrs_list PySem.F.slot_list_append PySem.F.type_list_append mt_append (pv 4) (pa_cons (pv 7) pa_nil)))))))))
      (pss_cons (ps_set (i := 9) scLaw.nd rfl (.inl rfl) (pe_cal (E := E0) C.stills2 hr (by rfl) passL (pa_cons (pv 2) (pa_cons (pv 3) pa_nil))))
      (pss_cons (ps_if (PW.pt (pw_or (pt_not (pt_truth (pe_callB call_isi (by rfl) M.isinstance (by decide +kernel) (pa_cons (pv 9) (pa_cons (pe_bltn (by rfl) M.list (by decide +kernel) (show RelV (.ty "list") (.type "list") from rfl)) pa_nil))) (fun _ => rfl))) (pw_or (pt_cmpR (op_neD hu) (pv 9) (pe_callB (cr_sortT (d := housesOf (cellN ns 0)) (B := 1000) (houses_bd _).1) (by rfl) M.sorted (by decide +kernel) (pa_cons (pv 4) pa_nil)) (nomark _)) (pw_or1 (pt_cmpR op_ne (pe_callB (crLenSetT K) (by rfl) M.len PySem.boot_len (pa_cons (pe_callTy (cr_setOfT rfl hu) (by rfl) M.set (by decide +kernel) (pa_cons (pv 4) pa_nil)) pa_nil)) (pe_callB (lenS K) (by rfl) M.len PySem.boot_len (pa_cons (pv 4) pa_nil)) (nomark _)))))) (pss_one (ps_ret pe_bl)) pss_nil)
      (pss_cons (ps_if (PW.pt (pw_or (pt_not (pt_truth (pe_callB (cr_all rfl) (by rfl) M.all (by decide +kernel) (pa_cons (pe_lc (own := [("_law_purse", 7)]) (g := gName 7) (tt := tYes) (te := tCall spLTuple [] E0 (tCons (tVar 7) (tCons (tVar 1) tNil))) rfl scLaw.nd (pi_list (pv 9)) (blkOk_by (N := Nl) (sc := defScope sLaw) (by decide +kernel)) (fun _ _ _ _ _ => pg_name (i := 7) scLaw.nd rfl (Or.inl rfl)) (fun _ _ _ _ _ => pts_nil) (fun _ _ _ _ _ => (pe_cal C.tuple hr (by rfl) pass0 (pa_cons (pv 7) (pa_cons (pv 1) pa_nil))))) pa_nil)) (fun _ => rfl))) (pw_or1 (pt_cmpR (op_neD hu) (pe_cal (E := E0) C.stills3 hr (by rfl) passL (pa_cons (pv 2) (pa_cons (pv 3) (pa_cons (pe_callB (lenS K) (by rfl) M.len PySem.boot_len (pa_cons (pv 4) pa_nil)) pa_nil)))) (pe_callB (cr_sortT (d := housesOf (cellN ns 0)) (B := 1000) (houses_bd _).1) (by rfl) M.sorted (by decide +kernel) (pa_cons (pv 4) pa_nil)) (nomark _))))) (pss_one (ps_ret pe_bl)) pss_nil)
      (pss_cons (ps_expr (pe_bm0 PySem.F.plainAttrs_list PySem.F.slot_list_clear PySem.F.type_list_clear mt_clear (pv 9)))
      (pss_cons (ps_set (i := 10) scLaw.nd rfl (.inl rfl) (pe_tup (pa_cons (pe_tup (pa_cons pe_int (pa_cons pe_int (pa_cons pe_int (pa_cons pe_int pa_nil))))) (pa_cons (pe_tup (pa_cons pe_int (pa_cons pe_int (pa_cons pe_int (pa_cons pe_int pa_nil))))) (pa_cons (pe_tup (pa_cons pe_int (pa_cons pe_int (pa_cons pe_int (pa_cons pe_int pa_nil))))) (pa_cons (pe_tup (pa_cons pe_int (pa_cons pe_int (pa_cons pe_int (pa_cons pe_int pa_nil))))) pa_nil))))))
      (pss_cons (ps_if (pt_not (pt_truth (pe_cal C.tooMany hr (by rfl) pass0 (pa_cons (pv 10) (pa_cons (pe_op op_mod (pe_cal C.cell hr (by rfl) pass0 (pa_cons (pv 0) (pa_cons pe_int pa_nil))) pe_int) (pa_cons pe_non pa_nil)))) (fun _ => rfl))) (pss_one (ps_ret pe_bl)) pss_nil)
      (pss_one (ps_ret (pe_and (pe_cal C.tooMany hr (by rfl) pass0 (pa_cons (pv 2) (pa_cons (pv 3) (pa_cons (pe_op op_sub (pe_callB (lenS K) (by rfl) M.len PySem.boot_len (pa_cons (pv 4) pa_nil)) pe_int) pa_nil)))) (pe_one (pe_cmpR (op_eqD hu) (pe_cal (E := E0) C.stills2 hr (by rfl) passL (pa_cons (pv 2) (pa_cons (pv 3) pa_nil))) (pe_callB (cr_sortT (d := housesOf (cellN ns 0)) (B := 1000) (houses_bd _).1) (by rfl) M.sorted (by decide +kernel) (pa_cons (pv 4) pa_nil)) (nomark _))))))))))))))))), ?_⟩
    obtain ⟨n, hn⟩ : ∃ n, n = housesOf (cellN ns 0) := ⟨_, rfl⟩
    have hnb := houses_bd (cellN ns 0)
    rw [← hn] at hnb ⊢
    have h0 : 0 < n := by omega
    have h7 : n ≤ 7 := hnb.2
    refine ⟨.ref s, rfl, s, ns, 0, rfl, hS, hlen, fun H1 s1 => ⟨cellN ns 0, rfl, ?_⟩⟩
    rw [← hn]
    refine ⟨.ref s, rfl, .int (n : Nat), rfl, s, ns, 1, n, rfl, s1.seq hS, hlen, h0, h7, fun H2 d l s2 hd TK C0 => ⟨.int (n : Nat), rfl, d, n, roomOf n, l, rfl, hd, TK, h7, fun H3 p s3 hW3 => ?_⟩⟩
    obtain ⟨W, h8, h64, hCo, hCr⟩ := web_facts h0 h7 TK C0
    have hSm := small_of h7 TK
    generalize wL l = m at *
    have s13 := s1.trans (s2.trans s3)
    have hcnt : countRes (n - 1) (Aw n m) ≤ 300 := by rw [hCr]; omega
    refine ⟨.ref s, rfl, s, ns, 12, rfl, s13.seq hS, hlen, fun H4 s4 => ⟨.int (n : Nat), rfl, _, _, rfl, rfl, (by show (0 : Int) < (n : Nat); omega), ?_⟩⟩
    obtain ⟨b, hbI⟩ : ∃ b : Nat, cellN ns 12 % ((n : Nat) : Int) = (b : Nat) := ⟨(cellN ns 12 % ((n : Nat) : Int)).toNat, by rw [Int.toNat_of_nonneg (Int.emod_nonneg _ (by omega))]⟩
    have hb : b < n := by
      have := Int.emod_lt_of_pos (cellN ns 12) (show (0 : Int) < (n : Nat) by omega)
      omega
    rw [show (fun i j => V.int (i % j)) (cellN ns 12) ((n : Nat) : Int) = V.int (b : Nat) from by show V.int _ = _; rw [hbI]]
    have s14 := s13.trans s4
    have hS4 := s14.seq hS
    have hW4 := hW3.same s4
    have T4 := tabs_same hTb s14
    refine ⟨Nat.zero_le _, fun Fd hFd => ?_⟩
    have sF := same_upd (o := .lst []) hFd
    refine ⟨.ref p, rfl, p, n, m, 300, rfl, hW4.same sF, h0, h7, hCo, fun _ => ⟨hSm, W, by show (trsOf n m).length ≤ 1000; omega, fun H5 D us s5 n5 d5 t5 => ?_⟩, fun hlt => by omega⟩
    have htl : us.length = (trsOf n m).length := t5.len
    have nDF : D ≠ Fd := fun z => by rw [z, upd_same] at n5; cases n5
    have dF5 := s5 _ _ (upd_same (a := Fd) (o := .lst []))
    have s45 := sF.trans s5
    refine ⟨.ref D, rfl, D, _, rfl, .inl (SqL.of d5), (us.length : Nat), by rw [List.length_map], by omega, by omega, ?_⟩
    rw [show ((us.length : Nat) : Int).toNat = us.length from rfl]
    refine for_range (lo := 0) (n := us.length) (fun i σ H' => ∃ (y6 y7 y8 : Option V) (zs : List V), σ = [some (.ref s), some (.int (n : Nat)), some (.ref p), some (.int (b : Nat)), some (.ref Fd), some (.ref D), y6, y7, y8, none, none] ∧ ExtN H4 H' ∧ Tabs T H' ∧ H' D = some (.lst (us.map V.ref)) ∧ RowsAt H' us (trsOf n m) ∧ H' Fd = some (.lst zs) ∧ IRows H' zs (((trsOf n m).take i).map (purL n m b)))
      ⟨none, none, none, [], rfl, ExtN.of s45, tabs_same T4 s45, d5, t5, dF5, IRows.nil⟩ (fun i σ H' hi hp => ?_) (fun σ H' hp => ?_)
    · obtain ⟨y6, y7, y8, zs, rfl, e0, Tb, dD, tD, dF, rz⟩ := hp
      have ei : ((0 : Int) + (i : Nat)) = (i : Nat) := by omega
      have hit : i < (trsOf n m).length := by omega
      have eu : us[i]? = some us[i] := List.getElem?_eq_getElem hi
      have etr : (trsOf n m)[i]? = some (trsOf n m)[i] := List.getElem?_eq_getElem hit
      have hut := tD.at_ i _ _ eu etr
      have hTr := MT.tr_of W (List.getElem_mem hit)
      generalize us[i] = u at *
      generalize (trsOf n m)[i] = tr at *
      have hix : atI (us.map V.ref) ((0 : Int) + (i : Nat)) = some (.ref u) := by rw [ei]; exact atI_nat (by rw [List.getElem?_map, eu]; rfl)
      refine ⟨.ref p, rfl, .int (b : Nat), rfl, .ref D, rfl, .int (0 + (i : Nat)), rfl, D, _, _, .ref u, rfl, rfl, SqL.of dD, hix, p, u, n, b, m, tr, rfl, hW4.ext e0, hSm, W, hb, SqT.of hut, hTr, Tb, fun H6 r e6 T6 hr6 => ?_⟩
      have hr6' : H6 r = some (.tup (hV (purL n m b tr))) := by rw [hr6, purV_purL]
      refine ⟨.ref r, rfl, .int (n : Nat), rfl, r, n, purL n m b tr, rfl, hr6', by rw [List.length_map, List.length_range], by omega, fun H7 s7 => ⟨true, rfl, iteF ?_⟩⟩
      refine ⟨.ref r, rfl, .int (b : Nat), rfl, r, purV n (pur n m b tr), _, _, rfl, rfl, SqT.of (s7 _ _ hr6), purV_at hb, rfl, false, congrArg V.bl (by rw [pur_base]; rfl), iteF ?_⟩
      refine ⟨.ref p, rfl, .ref r, rfl, .int (b : Nat), rfl, p, r, n, b, m, pur n m b tr, rfl, (hW4.ext (e0.trans e6)).same s7, SqT.of (s7 _ _ hr6), hb, h7, fire_ok W hTr hb fun _ _ _ => rfl, fun h hh => hTr.pur_nn hb hh, fun H8 s8 => ⟨true, rfl, iteF ?_⟩⟩
      have s68 := s7.trans s8
      have e8 : ExtN H4 H8 := (e0.trans e6).trans (ExtN.of s68)
      -- coins
      refine ⟨.ref s, rfl, .int (0 + (i : Nat)), rfl, _, _, rfl, rfl, (by show (0 : Int) < 48; omega), _, _, rfl, rfl, s, ns, 13 + i % 48, congrArg (fun z => [V.ref s, V.int z]) (by omega : (13 : Int) + (0 + (i : Nat)) % 48 = ((13 + i % 48 : Nat) : Int)), seqL_ofN e8 hS4, hlen, fun H9 s9 => ?_⟩
      generalize cellN ns (13 + i % 48) = cc
      refine ⟨_, _, rfl, rfl, (by show (0 : Int) < 41; omega), _, _, rfl, rfl, ?_⟩
      have s69 := s68.trans s9
      have hr9 := s69 _ _ hr6
      -- tree_of
      refine ⟨.ref p, rfl, .int (b : Nat), rfl, .ref r, rfl, .int (b : Nat), rfl, (b : Nat), rfl, r, _, rfl, SqT.of hr9, fun Ha ra sa ta => ⟨.int (cc % 41 - 20), rfl, line_le (show 1 ≤ 100000 by decide), fun tb htb => ?_⟩⟩
      rw [cut_to] at ta
      have stb := same_upd (o := .tup [V.int (cc % 41 - 20)]) htb
      have hl1 : ((purV n (pur n m b tr)).take b).length ≤ 7 := by rw [List.length_take, purV_len]; omega
      refine ⟨ra, tb, _, _, rfl, rfl, seqT_of stb ta, SqT.of upd_same, line_le (by show _ + 1 ≤ 100000; omega), fun Hc rc sc tc => ?_⟩
      have sac := sa.trans (stb.trans sc)
      refine ⟨.ref r, rfl, .int (b : Nat), rfl, _, _, rfl, rfl, _, rfl, r, _, rfl, SqT.of (sac _ _ hr9), fun Hd rd sd td => ?_⟩
      have td : SqT K Hd rd (cutV (purV n (pur n m b tr)) (some (((b : Nat) : Int) + 1)) none) := td
      rw [cut_from] at td
      refine ⟨rc, rd, _, _, rfl, rfl, seqT_of sd tc, td, line_le (by rw [List.length_append, List.length_drop, purV_len]; show _ + 1 + _ ≤ 100000; omega), fun He re se te => ?_⟩
      rw [pur_with hb] at te
      have s9e := sac.trans (sd.trans se)
      have e9 : ExtN H6 He := ExtN.of (s69.trans s9e)
      have e4e : ExtN H4 He := (e0.trans e6).trans e9
      refine ⟨p, re, n, b, m, _, tr, rfl, hW4.ext e4e, hSm, W, hb, te, hTr, fun h _ hne => if_neg hne, tabs_same T6 (s69.trans s9e), fun Hf rf ef Tf hrf => ?_⟩
      have e6f : ExtN H6 Hf := e9.trans ef
      have dDf := e6f _ _ (e6 _ _ dD (fun ps z => by cases z)) (fun ps z => by cases z)
      have hutf := e6f _ _ (e6 _ _ hut (fun ps z => by cases z)) (fun ps z => by cases z)
      have ntr : nV tr = hV (tr.map fun k : Nat => ((k : Nat) : Int)) := nV_ints tr
      refine ⟨.ref D, rfl, .int (0 + (i : Nat)), rfl, D, _, _, .ref u, rfl, rfl, SqL.of dDf, hix, dI (tr.map fun k : Nat => ((k : Nat) : Int)), dI (tr.map fun k : Nat => ((k : Nat) : Int)), dp_tup (SqT.of (by rw [hrf, ntr])), dp_tup (SqT.of (by rw [hutf, ntr])), shaped_dI _, shaped_dI _, false, congrArg V.bl (by rw [eqv_dI]; rfl), iteF ?_⟩
      have dFf := e6f _ _ (e6 _ _ dF (fun ps z => by cases z)) (fun ps z => by cases z)
      have hrf6 := e6f _ _ hr6' (fun ps z => by cases z)
      have e4f : ExtN H4 Hf := (e0.trans e6).trans e6f
      have tDf := tD.ext (e6.trans e6f)
      have rzf := rz.ext (e6.trans e6f)
      refine ⟨.ref Fd, rfl, .inl ⟨rfl, _, SqL.of dFf⟩, .ref r, rfl, Fd, zs, .ref r, rfl, rfl, dFf, by rw [rz.len, List.length_map, List.length_take]; exact line_lt (by omega), ?_⟩
      refine ⟨_, _, _, zs ++ [.ref r], rfl, extN_but e4f hFd, tabs_upd Tf dFf, upd_at dDf nDF, tDf.upd dFf, upd_same, ?_⟩
      have := (rzf.snoc hrf6).upd (o := .lst (zs ++ [.ref r])) dFf
      rw [take_snoc etr, List.map_append]
      exact this
    · obtain ⟨y6, y7, y8, zs, rfl, e0, Tb, dD, tD, dF, rz⟩ := hp
      have tfull : (trsOf n m).take us.length = trsOf n m := by rw [htl, List.take_length]
      rw [tfull] at rz
      have hzl : zs.length = (trsOf n m).length := by rw [rz.len, List.length_map]
      have pok := purs_ok W hb h8
      -- sorted(found), wherever found stands
      have mem : ∀ {Hx : Hp}, IRows Hx zs (pursAll n m b) → ∀ x ∈ zs, ∃ q, TupI K Hx x q ∧ q.length = n ∧ TS.Bd 1000 q := fun rx x hx => by
        obtain ⟨u, pp, a1, a2, a3⟩ := rx.mem hx
        exact ⟨pp, ⟨u, a1, SqT.of a3⟩, pok pp a2⟩
      refine ⟨.ref p, rfl, .int (b : Nat), rfl, p, n, b, m, 300, rfl, hW4.ext e0, hb, h7, hCo, Tb, fun _ => ⟨hSm, W, h8, h64, fun H6 r ys pl e6 T6 new6 hr6 ry sp => ?_⟩, fun hlt => by omega⟩
      have dF6 := e6 _ _ dF (fun ps z => by cases z)
      have nFr : Fd ≠ r := new6 _ _ dF (fun ps z => by cases z)
      have rz6 := rz.ext e6
      have e46 := e0.trans e6
      have hyl : ys.length = (trsOf n m).length := by rw [ry.len, sp.perm.length_eq, List.length_map]
      have plok : ∀ q ∈ pl, q.length = n ∧ TS.Bd 1000 q := fun q hq => pok q (sp.perm.mem_iff.mp hq)
      -- the first test
      refine ⟨.ref r, rfl, .ref r, .ty "list", .type "list", .type "list", true, rfl, .ty "list", .base (.lst hr6), kit_ty (by decide +kernel), true, rfl, iteF ?_⟩
      refine ⟨.ref r, rfl, .ref Fd, rfl, Fd, zs, rfl, SqL.of dF6, by omega, mem rz6, fun y2 q2 hp2 hs2 hq2 => ?_⟩
      obtain ⟨pl2, ry2, sp2⟩ := srt_of (K := K) rz6 hp2 hs2
      have epl : pl2 = pl := sp2.uniq sp pok
      subst epl
      have sq2 := same_upd (o := .lst y2) hq2
      refine ⟨dL pl2, dL pl2, dp_rows (sq2 _ _ hr6) (ry.same sq2), dp_rows upd_same (ry2.same sq2), shaped_dL _, shaped_dL _, false, congrArg V.bl (by rw [eqv_dL]; rfl), iteF ?_⟩
      have dF7 := sq2 _ _ dF6
      have hr7 := sq2 _ _ hr6
      have rz7 := rz6.same sq2
      have ry7 := ry.same sq2
      have T7 := tabs_same T6 sq2
      have e47 := e46.trans (ExtN.of sq2)
      generalize upd H6 q2 (.lst y2) = H7 at *
      obtain ⟨ks, ek, epk0, hks⟩ := rz7.pairs
      have epk : pursAll n m b = ks.map (·.2) := epk0
      have hpl : (pursAll n m b).length = (trsOf n m).length := List.length_map _
      have hkl : ks.length = zs.length := by rw [ek, List.length_map]
      refine ⟨.ref Fd, rfl, Fd, ks, rfl, SqL.of (by rw [dF7, ek]), fun q hq => SqT.of (hks q hq), by omega, fun a L ha sub sup => ?_⟩
      have sa := same_upd (o := SetTO P w a L) ha
      refine ⟨a, L, rfl, upd_same, fun q hq => SqT.of (sa _ _ (hks q (sub q hq))), fun nd => ?_⟩
      have hLl : L.length = zs.length := by
        have pnd := purs_nodup W hb
        have h1 := len_le_of (L.map (·.2)) (pursAll n m b) nd fun x hx => by
          obtain ⟨q, hq, rfl⟩ := List.mem_map.mp hx
          rw [epk]
          exact List.mem_map.mpr ⟨q, sub q hq, rfl⟩
        have h2 := len_le_of (pursAll n m b) (L.map (·.2)) pnd fun x hx => by
          rw [epk] at hx
          obtain ⟨q, hq, rfl⟩ := List.mem_map.mp hx
          exact sup q hq
        have hL2 : (L.map (·.2)).length = L.length := List.length_map _
        omega
      refine ⟨.ref Fd, rfl, Fd, zs, rfl, .inl (SqL.of (sa _ _ dF7)), rfl, false, congrArg V.bl (by rw [hLl]; simp), iteF ?_⟩
      have dF8 := sa _ _ dF7
      have hr8 := sa _ _ hr7
      have rz8 := rz7.same sa
      have ry8 := ry7.same sa
      have T8 := tabs_same T7 sa
      have e48 := e47.trans (ExtN.of sa)
      -- the second test
      refine ⟨.ref r, rfl, r, rfl, ⟨_, SqL.of hr8⟩, fun D2 hD2 => ?_⟩
      refine lc_list (K := K) (a := r) (xs := ys) (fun i H' => Same (upd H7 a (SetTO P w a L)) H' ∧ H' D2 = some (.lst (blV (List.replicate i true)))) ⟨same_upd hD2, upd_same⟩ (fun i H' _ hp => SqL.of (hp.1 _ _ hr8)) (fun i x H' hx hp => ?_) (fun H9 hp => ?_)
      · obtain ⟨sx, dx⟩ := hp
        obtain ⟨u, pp, a1, a2, a3⟩ := ry8.mem (List.mem_of_getElem? hx)
        subst a1
        have hi2 : i < ys.length := (List.getElem?_eq_some_iff.mp hx).1
        refine ⟨rfl, .ref u, rfl, .int (n : Nat), rfl, u, n, pp, rfl, sx _ _ a3, (plok pp a2).1, by omega, fun Hy sy => ?_⟩
        have dy := sy _ _ dx
        refine ⟨_, dy, by rw [blV_len, List.length_replicate]; exact line_lt (by omega), same_but (sx.trans sy) hD2, ?_⟩
        rw [upd_same, List.replicate_succ']
        unfold blV
        rw [List.map_append]
        rfl
      · obtain ⟨s9, d9⟩ := hp
        refine ⟨D2, _, rfl, SqL.of d9, true, ?_, iteF ?_⟩
        · show true = (List.replicate ys.length true).all id
          rw [List.all_replicate]
          simp
        have dF9 := s9 _ _ dF8
        have hr9 := s9 _ _ hr8
        have rz9 := rz8.same s9
        have T9 := tabs_same T8 s9
        have e49 := e48.trans (ExtN.of s9)
        refine ⟨.ref p, rfl, .int (b : Nat), rfl, .ref Fd, rfl, Fd, zs, rfl, .inl (SqL.of dF9), p, n, b, m, (zs.length : Nat), rfl, hW4.ext e49, hb, h7, hCo, T9, fun _ => ⟨hSm, W, h8, h64, fun Ha r3 y3 pl3 ea Ta newa hra rya spa => ?_⟩, fun hlt => by rw [hCr, hzl] at hlt; omega⟩
        have dFa := ea _ _ dF9 (fun ps z => by cases z)
        have rza := rz9.ext ea
        refine ⟨.ref Fd, rfl, Fd, zs, rfl, SqL.of dFa, by omega, mem rza, fun y4 q4 hp4 hs4 hq4 => ?_⟩
        obtain ⟨pl4, ry4, sp4⟩ := srt_of (K := K) rza hp4 hs4
        have epl4 : pl4 = pl3 := sp4.uniq spa pok
        subst epl4
        have sq4 := same_upd (o := .lst y4) hq4
        refine ⟨dL pl4, dL pl4, dp_rows (sq4 _ _ hra) (rya.same sq4), dp_rows upd_same (ry4.same sq4), shaped_dL _, shaped_dL _, false, congrArg V.bl (by rw [eqv_dL]; rfl), iteF ?_⟩
        have dFb := sq4 _ _ dFa
        have hrb := sq4 _ _ (ea _ _ hr9 (fun ps z => by cases z))
        have rzb := rza.same sq4
        have Tbb := tabs_same Ta sq4
        have e4b := (e49.trans ea).trans (ExtN.of sq4)
        generalize upd Ha q4 (.lst y4) = Hb at *
        -- told.clear()
        refine ⟨.ref r, rfl, .inl ⟨rfl, _, SqL.of hrb⟩, r, ys, rfl, rfl, hrb, ?_⟩
        have new4 : ∀ x o, H4 x = some o → (∀ ps, o ≠ .tbl ps) → x ≠ r := fun x o hx nt => new6 x o (e0 x o hx nt) nt
        have e4c : ExtN H4 (upd Hb r (.lst [])) := fun x o hx nt => upd_at (e4b x o hx nt) (new4 x o hx nt)
        have dFc := upd_at (o := .lst []) dFb nFr
        have rzc := rzb.upd (o := .lst []) hrb
        have Tc := tabs_upd (o := .lst []) Tbb hrb
        generalize upd Hb r (.lst []) = Hc at *
        -- the ring
        refine ⟨line_le (show 4 ≤ 100000 by decide), fun t1 g1 => ⟨line_le (show 4 ≤ 100000 by decide), fun t2 g2 => ⟨line_le (show 4 ≤ 100000 by decide), fun t3 g3 => ⟨line_le (show 4 ≤ 100000 by decide), fun t4 g4 => ⟨line_le (show 4 ≤ 100000 by decide), fun R gR => ?_⟩⟩⟩⟩⟩
        have r1 := same_upd (o := .tup [V.int 0, V.int 4, V.int 0, V.int 5]) g1
        have r2 := same_upd (o := .tup [V.int 4, V.int 0, V.int 4, V.int 0]) g2
        have r3' := same_upd (o := .tup [V.int 0, V.int 4, V.int 0, V.int 4]) g3
        have r4 := same_upd (o := .tup [V.int 5, V.int 0, V.int 4, V.int 0]) g4
        have rR := same_upd (o := .tup [V.ref t1, V.ref t2, V.ref t3, V.ref t4]) gR
        have h1 := rR _ _ (r4 _ _ (r3' _ _ (r2 _ _ (upd_same (H := Hc) (a := t1) (o := .tup [V.int 0, V.int 4, V.int 0, V.int 5])))))
        have h2 := rR _ _ (r4 _ _ (r3' _ _ (upd_same (a := t2) (o := .tup [V.int 4, V.int 0, V.int 4, V.int 0]))))
        have h3 := rR _ _ (r4 _ _ (upd_same (a := t3) (o := .tup [V.int 0, V.int 4, V.int 0, V.int 4])))
        have h4 := rR _ _ (upd_same (a := t4) (o := .tup [V.int 5, V.int 0, V.int 4, V.int 0]))
        have sR := r1.trans (r2.trans (r3'.trans (r4.trans rR)))
        have hRt : (upd (upd (upd (upd (upd Hc t1 (.tup [V.int 0, V.int 4, V.int 0, V.int 5])) t2 (.tup [V.int 4, V.int 0, V.int 4, V.int 0])) t3 (.tup [V.int 0, V.int 4, V.int 0, V.int 4])) t4 (.tup [V.int 5, V.int 0, V.int 4, V.int 0])) R (.tup [V.ref t1, V.ref t2, V.ref t3, V.ref t4])) R = some (.tup [V.ref t1, V.ref t2, V.ref t3, V.ref t4]) := upd_same
        generalize upd (upd (upd (upd (upd Hc t1 (.tup [V.int 0, V.int 4, V.int 0, V.int 5])) t2 (.tup [V.int 4, V.int 0, V.int 4, V.int 0])) t3 (.tup [V.int 0, V.int 4, V.int 0, V.int 4])) t4 (.tup [V.int 5, V.int 0, V.int 4, V.int 0])) R (.tup [V.ref t1, V.ref t2, V.ref t3, V.ref t4]) = HR at *
        have hWR : WebAt K HR R 4 ringW := ⟨[t1, t2, t3, t4], SqT.of hRt, rfl, fun i r e => by
          match i, e with
          | 0, e => cases e; exact SqT.of h1
          | 1, e => cases e; exact SqT.of h2
          | 2, e => cases e; exact SqT.of h3
          | 3, e => cases e; exact SqT.of h4
          | i + 4, e => simp at e⟩
        have e4R := e4c.trans (ExtN.of sR)
        have dFR := sR _ _ dFc
        have rzR := rzc.same sR
        have TR := tabs_same Tc sR
        refine ⟨.ref R, rfl, .ref s, rfl, s, ns, 61, rfl, seqL_ofN e4R hS4, hlen, fun Hd sd => ⟨_, _, rfl, rfl, (by show (0 : Int) < 4; omega), ?_⟩⟩
        obtain ⟨b4, hb4⟩ : ∃ b4 : Nat, cellN ns 61 % 4 = (b4 : Nat) := ⟨(cellN ns 61 % 4).toNat, by rw [Int.toNat_of_nonneg (Int.emod_nonneg _ (by omega))]⟩
        refine ⟨R, 4, b4, ringW, .non, 300, congrArg (fun z => [V.ref R, V.int z, V.non]) hb4, hWR.same sd, by omega, by omega, ring_ok, tabs_same TR sd, .inl ⟨rfl, rfl⟩, by show (300 : Int) < countRes 3 (Aw 4 ringW); rw [ring_res]; decide, fun He ee Te => ⟨true, rfl, iteF ?_⟩⟩
        have eRe : ExtN HR He := (ExtN.of sd).trans ee
        have e4e := e4R.trans eRe
        have dFe := eRe _ _ dFR (fun ps z => by cases z)
        have rze := rzR.ext eRe
        refine ⟨.ref p, rfl, .int (b : Nat), rfl, .ref Fd, rfl, Fd, zs, rfl, .inl (SqL.of dFe), _, _, rfl, rfl, p, n, b, m, .int (((zs.length : Nat) : Int) - 1), ((zs.length : Nat) : Int) - 1, rfl, hW4.ext e4e, hb, h7, hCo, Te, .inr rfl, by rw [hCr, hzl]; omega, fun Hg eg Tg => ⟨true, rfl, iteT ?_⟩⟩
        have dFg := eg _ _ dFe (fun ps z => by cases z)
        have rzg := rze.ext eg
        refine ⟨.ref p, rfl, .int (b : Nat), rfl, p, n, b, m, 300, rfl, hW4.ext (e4e.trans eg), hb, h7, hCo, Tg, fun _ => ⟨hSm, W, h8, h64, fun Hh r5 y5 pl5 eh Th newh hrh ryh sph => ?_⟩, fun hlt => by omega⟩
        have dFh := eh _ _ dFg (fun ps z => by cases z)
        have rzh := rzg.ext eh
        refine ⟨.ref Fd, rfl, Fd, zs, rfl, SqL.of dFh, by omega, mem rzh, fun y6 q6 hp6 hs6 hq6 => ?_⟩
        obtain ⟨pl6, ry6, sp6⟩ := srt_of (K := K) rzh hp6 hs6
        have epl6 : pl6 = pl5 := sp6.uniq sph pok
        subst epl6
        have sq6 := same_upd (o := .lst y6) hq6
        refine ⟨dL pl6, dL pl6, dp_rows (sq6 _ _ hrh) (ryh.same sq6), dp_rows upd_same (ry6.same sq6), shaped_dL _, shaped_dL _, ?_⟩
        rw [eqv_dL]
        exact q _
end
end K54
end
/-! ## T25 -/
section
set_option Elab.async false
set_option linter.all false
set_option maxRecDepth 100000
set_option maxHeartbeats 4000000
namespace K54
open PySem PySem.Spec PyProof.Rows L2 LamX NdefX
section
variable {P : Program} {w : World} {K : PySem.W.Frag} {mg : Str → Option Value} {base : Heap} {h : Heap}
/-- a def as it stands -/
def FunAt (K : PySem.W.Frag) (mg : Str → Option Value) (x : Str) (st : Stmt) : Prop := ∃ (f : Addr) (fd : FuncData), Fun K x x st f fd ∧ mg x = some (.ref f)
def FunCAt (K : PySem.W.Frag) (mg : Str → Option Value) (x : Str) (st : Stmt) (c : Addr) : Prop := ∃ (f : Addr) (fd : FuncData), FunC K x x st f fd c ∧ mg x = some (.ref f)
def FunDAt (K : PySem.W.Frag) (mg : Str → Option Value) (x : Str) (st : Stmt) (dvs : List V) : Prop := ∃ (f : Addr) (fd : FuncData), FunD K x x (defArgs st) (defBody st) (defScope st) dvs [] f fd ∧ mg x = some (.ref f)
theorem funAt {x : Str} {st : Stmt} {f : Addr} {oc kV doc pm cdv ct : Value} {od an : Option Addr} {osl : Array (Option Value)} (X : K.In h) (G : h.Ns mainGlobals mg) (a : PySem.W.nsIn K mainGlobals x = some (some (.ref f)))
    (l : K.lookup f = some ⟨oc, od, .func (PySem.W.fnOf x x (defArgs st) (defBody st) (defScope st) .none kV doc pm an cdv ct), osl⟩) (c : PySem.W.codeIn K cdv x = true) (k : PySem.W.keepIn K (.ref f) = true) : FunAt K mg x st := ⟨f, _, fun_mk l c k, PySem.W.mg_of X G a⟩
theorem funCAt {x : Str} {st : Stmt} {f cd : Addr} {oc kV doc pm ct : Value} {od an : Option Addr} {osl : Array (Option Value)} (X : K.In h) (G : h.Ns mainGlobals mg) (a : PySem.W.nsIn K mainGlobals x = some (some (.ref f)))
    (l : K.lookup f = some ⟨oc, od, .func (PySem.W.fnOf x x (defArgs st) (defBody st) (defScope st) .none kV doc pm an (.ref cd) ct), osl⟩) (c : PySem.W.codeIn K (.ref cd) x = true) (k : PySem.W.keepIn K (.ref f) = true) : FunCAt K mg x st cd :=
  ⟨f, _, ⟨⟨oc, od, kV, doc, pm, an, ct, osl, rfl, l, c⟩, k⟩, PySem.W.mg_of X G a⟩
theorem funDAt {x : Str} {st : Stmt} {f TD : Addr} {oc kV doc pm cdv ct : Value} {od an oT : Option Addr} {osl slT : Array (Option Value)} {cT : Value} {i : Int} {tk : Tok} {nT : Nat} (X : K.In h) (G : h.Ns mainGlobals mg) (a : PySem.W.nsIn K mainGlobals x = some (some (.ref f)))
    (l : K.lookup f = some ⟨oc, od, .func (PySem.W.fnOf x x (defArgs st) (defBody st) (defScope st) (.ref TD) kV doc pm an cdv ct), osl⟩) (c : PySem.W.codeIn K cdv x = true) (k : PySem.W.keepIn K (.ref f) = true) (t : K.lookup TD = some ⟨cT, oT, .seq #[.int i tk] nT, slT⟩) : FunDAt K mg x st [.int i] :=
  ⟨f, _, ⟨⟨oc, od, _, kV, doc, pm, an, cdv, ct, osl, rfl, l, c, .inr ⟨by simp, TD, _, [.int i tk], nT, rfl, t, rfl, .cons ⟨tk, rfl⟩ .nil⟩, .inl rfl⟩, k⟩, PySem.W.mg_of X G a⟩
/-- a class whose relation to CT is told -/
theorem isC {CT a : Addr} {x : Str} {b : Bool} (X : K.In h) (G : h.Ns mainGlobals mg) (g : PySem.W.nsIn K mainGlobals x = some (some (.ref a))) (e : PySem.W.kitOne K (.ref CT) (.ref a) = some b) : IsC K mg CT x b := ⟨a, PySem.W.mg_of X G g, e⟩
structure AllF (K : PySem.W.Frag) (mg : Str → Option Value) (c1 c2 : Addr) : Prop where
  tiesTo : FunAt K mg "ties_to" sTiesTo
  burnt : FunAt K mg "burnt" sBurnt
  settled : FunAt K mg "is_settled" sSettled
  tiesOf : FunAt K mg "ties_of" sTiesOf
  counted : FunAt K mg "counted" sCounted
  treeCount : FunAt K mg "tree_count" sTreeCount
  asOne : FunAt K mg "as_one" sAsOne
  lastBegin : FunAt K mg "last_begin" sLastBegin
  treesFrom : FunAt K mg "trees_from" sTreesFrom
  trees : FunDAt K mg "trees" sTrees [.int 300]
  checkTree : FunAt K mg "check_tree" sCheckTree
  nextTie : FunAt K mg "next_tie" sNextTie
  walked : FunAt K mg "walked" sWalked
  treeOf : FunCAt K mg "tree_of" sTreeOf c1
  stillOf : FunCAt K mg "still_of" sStillOf c2
  stills : FunDAt K mg "stills" sStills [.int 300]
  cell : FunAt K mg "_law_cell" sCell
  whole : FunAt K mg "_law_whole" sWhole
  renamed : FunAt K mg "_law_renamed" sRenamed
  readTimes : FunAt K mg "_law_read_times" sReadTimes
  houses : FunAt K mg "_law_houses" sHouses
  times : FunAt K mg "_law_times" sTimes
  square : FunAt K mg "_law_square" sSquare
  kind : FunAt K mg "_law_kind" sKind
  ltuple : FunAt K mg "_law_tuple" sLTuple
  allBurn : FunAt K mg "_law_all_burn" sAllBurn
  lsettled : FunAt K mg "_law_settled" sLSettled
  tooMany : FunAt K mg "_law_too_many" sTooMany
  law : FunAt K mg "law" sLaw
theorem all_ok {c1 P1 c2 P2 CT fI : Addr} {fdI : FuncData} (A : AllF K mg c1 c2) (M : Mg mg) (TM : TmC K mg CT fI fdI) (KC : KindC K mg CT) (PEr : ∃ a, mg "PurseError" = some (.ref a) ∧ PySem.W.exmOne K (.ref CT) (.ref a) = some true) (hP : P1 ≠ P2) :
    ∃ (fa : Addr) (fd : FuncData), mg "law" = some (.ref fa) ∧ (∀ (s : Shared) (u : Value), BindsTo s fd ⟨[u], []⟩ [("_law_script", u)]) ∧
      ∀ base : Heap, TabB base mg c1 P1 → TabB base mg c2 P2 → FnOk P w K mg base CX0 14 fa fd ["_law_script"] (spLaw K [(P1, qTree), (P2, qStill)]) := by
  obtain ⟨f1, d1, F1, g1⟩ := A.tiesTo
  obtain ⟨f2, d2, F2, g2⟩ := A.burnt
  obtain ⟨f3, d3, F3, g3⟩ := A.settled
  obtain ⟨f4, d4, F4, g4⟩ := A.tiesOf
  obtain ⟨f5, d5, F5, g5⟩ := A.counted
  obtain ⟨f6, d6, F6, g6⟩ := A.treeCount
  obtain ⟨f7, d7, F7, g7⟩ := A.asOne
  obtain ⟨f8, d8, F8, g8⟩ := A.lastBegin
  obtain ⟨f9, d9, F9, g9⟩ := A.treesFrom
  obtain ⟨f10, d10, F10, g10⟩ := A.trees
  obtain ⟨f11, d11, F11, g11⟩ := A.checkTree
  obtain ⟨f12, d12, F12, g12⟩ := A.nextTie
  obtain ⟨f13, d13, F13, g13⟩ := A.walked
  obtain ⟨f14, d14, F14, g14⟩ := A.treeOf
  obtain ⟨f15, d15, F15, g15⟩ := A.stillOf
  obtain ⟨f16, d16, F16, g16⟩ := A.stills
  obtain ⟨f17, d17, F17, g17⟩ := A.cell
  obtain ⟨f18, d18, F18, g18⟩ := A.whole
  obtain ⟨f19, d19, F19, g19⟩ := A.renamed
  obtain ⟨f20, d20, F20, g20⟩ := A.readTimes
  obtain ⟨f21, d21, F21, g21⟩ := A.houses
  obtain ⟨f22, d22, F22, g22⟩ := A.times
  obtain ⟨f23, d23, F23, g23⟩ := A.square
  obtain ⟨f24, d24, F24, g24⟩ := A.kind
  obtain ⟨f25, d25, F25, g25⟩ := A.ltuple
  obtain ⟨f26, d26, F26, g26⟩ := A.allBurn
  obtain ⟨f27, d27, F27, g27⟩ := A.lsettled
  obtain ⟨f28, d28, F28, g28⟩ := A.tooMany
  obtain ⟨f29, d29, F29, g29⟩ := A.law
  obtain ⟨pe, gpe, epe⟩ := PEr
  have b1 := F1.binds (ps := ["web", "house", "others"]) fun _ _ _ _ _ _ us hl => match us, hl with | [_, _, _], _ => rfl
  have b2 := F2.binds (ps := ["web", "purse", "base"]) fun _ _ _ _ _ _ us hl => match us, hl with | [_, _, _], _ => rfl
  have b3 := F3.binds (ps := ["web", "purse", "base"]) fun _ _ _ _ _ _ us hl => match us, hl with | [_, _, _], _ => rfl
  have b4 := F4.binds (ps := ["web"]) fun _ _ _ _ _ _ us hl => match us, hl with | [_], _ => rfl
  have b5 := F5.binds (ps := ["rows"]) fun _ _ _ _ _ _ us hl => match us, hl with | [_], _ => rfl
  have b6 := F6.binds (ps := ["web"]) fun _ _ _ _ _ _ us hl => match us, hl with | [_], _ => rfl
  have b7 := F7.binds (ps := ["marks", "one", "other"]) fun _ _ _ _ _ _ us hl => match us, hl with | [_, _, _], _ => rfl
  have b8 := F8.binds (ps := ["ties", "marks"]) fun _ _ _ _ _ _ us hl => match us, hl with | [_, _], _ => rfl
  have b9 := F9.binds (ps := ["ties", "at", "marks"]) fun _ _ _ _ _ _ us hl => match us, hl with | [_, _, _], _ => rfl
  have b11 := F11.binds (ps := ["web", "tree"]) fun _ _ _ _ _ _ us hl => match us, hl with | [_, _], _ => rfl
  have b12 := F12.binds (ps := ["ties", "looked", "marks"]) fun _ _ _ _ _ _ us hl => match us, hl with | [_, _, _], _ => rfl
  have b13 := F13.binds (ps := ["web", "base", "burns"]) fun _ _ _ _ _ _ us hl => match us, hl with | [_, _, _], _ => rfl
  have b14 := F14.to.binds (ps := ["web", "base", "purse"]) fun _ _ _ _ _ _ us hl => match us, hl with | [_, _, _], _ => rfl
  have b15 := F15.to.binds (ps := ["web", "base", "tree"]) fun _ _ _ _ _ _ us hl => match us, hl with | [_, _, _], _ => rfl
  have b17 := F17.binds (ps := ["_law_script", "_law_k"]) fun _ _ _ _ _ _ us hl => match us, hl with | [_, _], _ => rfl
  have b18 := F18.binds (ps := ["_law_thing"]) fun _ _ _ _ _ _ us hl => match us, hl with | [_], _ => rfl
  have b19 := F19.binds (ps := ["_law_found", "_law_cell_here", "_law_many"]) fun _ _ _ _ _ _ us hl => match us, hl with | [_, _, _], _ => rfl
  have b20 := F20.binds (ps := ["_law_rest", "_law_many", "_law_room", "_law_most"]) fun _ _ _ _ _ _ us hl => match us, hl with | [_, _, _, _], _ => rfl
  have b21 := F21.binds (ps := ["_law_cell_here"]) fun _ _ _ _ _ _ us hl => match us, hl with | [_], _ => rfl
  have b22 := F22.binds (ps := ["_law_script", "_law_at", "_law_many"]) fun _ _ _ _ _ _ us hl => match us, hl with | [_, _, _], _ => rfl
  have b23 := F23.binds (ps := ["_law_times_here", "_law_many"]) fun _ _ _ _ _ _ us hl => match us, hl with | [_, _], _ => rfl
  have b24 := F24.binds (ps := ["_law_e"]) fun _ _ _ _ _ _ us hl => match us, hl with | [_], _ => rfl
  have b25 := F25.binds (ps := ["_law_found", "_law_many"]) fun _ _ _ _ _ _ us hl => match us, hl with | [_, _], _ => rfl
  have b26 := F26.binds (ps := ["_law_web", "_law_purse", "_law_base"]) fun _ _ _ _ _ _ us hl => match us, hl with | [_, _, _], _ => rfl
  have b27 := F27.binds (ps := ["_law_web", "_law_purse", "_law_base"]) fun _ _ _ _ _ _ us hl => match us, hl with | [_, _, _], _ => rfl
  have b28 := F28.binds (ps := ["_law_web", "_law_base", "_law_most"]) fun _ _ _ _ _ _ us hl => match us, hl with | [_, _, _], _ => rfl
  obtain ⟨tds, tdv, tb1⟩ := F10.binds1 (ps := ["web", "most"]) 1 0 (by simp) rfl fun TT kV doc pm an cdv ct us its h1 h2 => match us, its, h1, h2 with | [_], [_], _, _ => ⟨_, rfl, rfl⟩
  obtain ⟨tds2, tdv2, tb2⟩ := F10.binds1 (ps := ["web", "most"]) 2 1 (by simp) rfl fun TT kV doc pm an cdv ct us its h1 h2 => match us, its, h1, h2 with | [_, _], [_], _, _ => ⟨_, rfl, rfl⟩
  obtain ⟨sds, sdv, sb1⟩ := F16.binds1 (ps := ["web", "base", "most"]) 2 0 (by simp) rfl fun TT kV doc pm an cdv ct us its h1 h2 => match us, its, h1, h2 with | [_, _], [_], _, _ => ⟨_, rfl, rfl⟩
  obtain ⟨sds2, sdv2, sb2⟩ := F16.binds1 (ps := ["web", "base", "most"]) 3 1 (by simp) rfl fun TT kV doc pm an cdv ct us its h1 h2 => match us, its, h1, h2 with | [_, _, _], [_], _, _ => ⟨_, rfl, rfl⟩
  cases tdv2
  cases sdv2
  have D1 : Defs K mg f4 f12 f13 f3 f2 f7 f1 f11 d4 d12 d13 d3 d2 d7 d1 d11 := ⟨F4, b4, g4, F12, b12, g12, F13, b13, g13, F3, b3, g3, F2, b2, g2, F7, b7, g7, F1, b1, g1, F11, b11, g11⟩
  have D2 : Defs2 K mg f6 f5 f9 f7 f8 f4 d6 d5 d9 d7 d8 d4 := ⟨F6, b6, g6, F5, b5, g5, F9, b9, g9, F7, b7, g7, F8, b8, g8, F4, b4, g4⟩
  obtain ⟨ocL, odL, kVL, docL, pmL, anL, cdvL, ctL, oslL, eL, lkL, hcL⟩ := F29.ex
  refine ⟨f29, d29, g29, fun s u => by subst eL; exact .of_eq rfl, fun base TB1 TB2 => ?_⟩
  have hu1 : ∀ p ∈ [(P1, qTree), (P2, qStill)], p.1 = P1 → p.2 = qTree := fun p hp e => by
    rcases List.mem_cons.mp hp with z | z
    · rw [z]
    · rw [List.mem_singleton.mp z] at e
      exact absurd e.symm hP
  have hu2 : ∀ p ∈ [(P1, qTree), (P2, qStill)], p.1 = P2 → p.2 = qStill := fun p hp e => by
    rcases List.mem_cons.mp hp with z | z
    · rw [z] at e
      exact absurd e hP
    · rw [List.mem_singleton.mp z]
  have GTO : FnOk P w K mg base CX0 (9 + 4) f14 d14 ["web", "base", "purse"] (spTreeOf K [(P1, qTree), (P2, qStill)]) := ok_treeOf (g := f14) F14 M D1 TB1 List.mem_cons_self hu1
  have GSO : FnOk P w K mg base CX0 (0 + 4) f15 d15 ["web", "base", "tree"] (spStillOf K [(P1, qTree), (P2, qStill)]) := ok_stillOf F15 M D1 TB2 (List.mem_cons_of_mem _ List.mem_cons_self) hu2
  have GSO2 : FnOk P w K mg base CX0 (9 + 4) f15 d15 ["web", "base", "tree"] (spStillOf K [(P1, qTree), (P2, qStill)]) := ok_stillOf F15 M D1 TB2 (List.mem_cons_of_mem _ List.mem_cons_self) hu2
  have GT : FnOk P w K mg base (L2.CX P w) (0 + 11) f10 d10 ["web", "most"] (spTrees K CT) := ok_trees F10 M TM D2
  have GT2 : FnOk P w K mg base (L2.CX P w) (2 + 11) f10 d10 ["web", "most"] (spTrees K CT) := ok_trees F10 M TM D2
  have GS : FnOk P w K mg base (L2.CX P w) (0 + 12) f16 d16 ["web", "base", "most"] (spStills K [(P1, qTree), (P2, qStill)] CT) := ok_stills F16 M GSO F15.kp b15 g15 GT F10.kp tb2 g10
  have GTM : FnOk P w K mg base CX0 (0 + 13) f28 d28 ["_law_web", "_law_base", "_law_most"] (spTooMany K [(P1, qTree), (P2, qStill)]) := ok_tooMany F28 M KC GS F16.kp sb2 sb1 sdv g16 F24 b24 g24 F18 b18 g18 gpe epe
  have C : Cals P w K mg base 13 [(P1, qTree), (P2, qStill)] CT := {
    cell := ⟨f17, d17, [], ok_cell (k := 12) F17, g17, F17.kp, b17, .nil⟩
    houses := ⟨f21, d21, [], ok_houses (k := 12) F21 M, g21, F21.kp, b21, .nil⟩
    square := ⟨f23, d23, [], ok_square (k := 12) F23 M, g23, F23.kp, b23, .nil⟩
    times := ⟨f22, d22, [], ok_times (k := 11) F22 M F17 b17 g17 F20 b20 g20 F19 b19 g19, g22, F22.kp, b22, .nil⟩
    trees := ⟨f10, d10, tds, GT2, g10, F10.kp, tb1, tdv⟩
    stillOf := ⟨f15, d15, [], GSO2, g15, F15.kp, b15, .nil⟩
    treeOf := ⟨f14, d14, [], GTO, g14, F14.kp, b14, .nil⟩
    tuple := ⟨f25, d25, [], ok_ltuple (k := 11) F25 M F18 b18 g18, g25, F25.kp, b25, .nil⟩
    settled := ⟨f27, d27, [], ok_lsettled (k := 11) F27 M F26 b26 g26, g27, F27.kp, b27, .nil⟩
    stills2 := ⟨f16, d16, sds, GS.mono (by omega), g16, F16.kp, sb1, sdv⟩
    stills3 := ⟨f16, d16, [], GS.mono (by omega), g16, F16.kp, sb2, .nil⟩
    tooMany := ⟨f28, d28, [], GTM, g28, F28.kp, b28, .nil⟩ }
  exact ok_law F29 M C
end
end K54
end
/-! ## T26 -/
section
set_option Elab.async false
set_option linter.all false
set_option maxRecDepth 100000
set_option maxHeartbeats 4000000
namespace K54
open PySem PySem.Spec PyProof.Rows L2 LamX NdefX
/-! ### the end: what the top has left -/
section
variable {K : PySem.W.Frag} {mg : Str → Option Value} {h : Heap}
theorem kit_ref {t : Value} {C : Addr} {b : Bool} (hn : (t == .ref C) = false) (hc : PySem.W.isClsIn K C = true) (ht : PySem.W.typeIn K (.ref C) = some (.type "type")) (hs : PySem.W.subIn K t (.ref C) = some b) : PySem.W.kitOne K t (.ref C) = some b := by
  have hc' : (PySem.W.clsIn K C).isSome = true := hc
  have e2 : ((PySem.W.clsIn K C).isSome && PySem.W.typeIn K (.ref C) == some (.type "type")) = true := by rw [hc', ht] <;> rfl
  unfold PySem.W.kitOne
  rw [if_neg (by rw [hn]; exact Bool.false_ne_true)]
  show (if ((PySem.W.clsIn K C).isSome && PySem.W.typeIn K (.ref C) == some (.type "type")) = true then PySem.W.subIn K t (.ref C) else none) = some b
  rw [if_pos e2]
  exact hs
theorem kit_self {C : Addr} : PySem.W.kitOne K (.ref C) (.ref C) = some true := by
  unfold PySem.W.kitOne
  rw [if_pos (by simp)]
theorem kit_typ {C : Addr} {T : String} {b : Bool} (hm : PySem.W.kitMeta T = true) (hs : PySem.W.subIn K (.ref C) (.type T) = some b) : PySem.W.kitOne K (.ref C) (.type T) = some b := by
  unfold PySem.W.kitOne
  rw [if_neg (by intro z; cases (beq_iff_eq.mp z))]
  show (if PySem.W.kitMeta T = true then PySem.W.subIn K (.ref C) (.type T) else none) = some b
  rw [if_pos hm]
  exact hs
theorem isCn {CT C : Addr} {x : Str} {b : Bool} (X : K.In h) (G : h.Ns mainGlobals mg) (a : PySem.W.nsIn K mainGlobals x = some (some (.ref C))) (hn : ((.ref CT : Value) == .ref C) = false) (hc : PySem.W.isClsIn K C = true) (ht : PySem.W.typeIn K (.ref C) = some (.type "type")) (hs : PySem.W.subIn K (.ref CT) (.ref C) = some b) : IsC K mg CT x b :=
  isC X G a (kit_ref hn hc ht hs)
theorem mg_mk (X : K.In h) (G : h.Ns mainGlobals mg) (e : ∀ x ∈ (["sum", "len", "range", "set", "list", "tuple", "sorted", "min", "max", "int", "bool", "all", "isinstance", "ValueError"] : List Str), PySem.W.nsIn K mainGlobals x = some none) : Mg mg :=
  ⟨PySem.W.mg_none_of X G (e _ (by simp)), PySem.W.mg_none_of X G (e _ (by simp)), PySem.W.mg_none_of X G (e _ (by simp)), PySem.W.mg_none_of X G (e _ (by simp)), PySem.W.mg_none_of X G (e _ (by simp)), PySem.W.mg_none_of X G (e _ (by simp)), PySem.W.mg_none_of X G (e _ (by simp)),
    PySem.W.mg_none_of X G (e _ (by simp)), PySem.W.mg_none_of X G (e _ (by simp)), PySem.W.mg_none_of X G (e _ (by simp)), PySem.W.mg_none_of X G (e _ (by simp)), PySem.W.mg_none_of X G (e _ (by simp)), PySem.W.mg_none_of X G (e _ (by simp)), PySem.W.mg_none_of X G (e _ (by simp))⟩
/-- the class TooMany: all that is asked of it -/
theorem tm_mk {CT PE fI : Addr} (X : K.In h) (G : h.Ns mainGlobals mg) {nm q : Str} {N : Addr} {bs : List Value} {sn : List Str} {sub : List Value} {ab : Bool} {col : Option Bool} {dd : Option Addr} {m0 m1 m2 m3 m5 : Option Value}
    {od an : Option Addr} {sl : Array (Option Value)} {oc kV dc pm cd ct : Value}
    (aC : PySem.W.nsIn K mainGlobals "TooMany" = some (some (.ref CT)))
    (xL : K.lookup CT = some (excClassObj nm q CT N bs [.ref PE, .type "ValueError", .type "Exception", .type "BaseException", .type "object"] true sn sub ab col dd m0 m1 m2 m3 m5 "ValueError.__new__"))
    (sa : PySem.W.findIn K (.ref CT) "__setattr__" = some (some (.builtin "object.__setattr__"))) (ga : PySem.W.findIn K (.ref CT) "__getattribute__" = some (some (.builtin "BaseException.__getattribute__"))) (gg : PySem.W.findIn K (.ref CT) "__getattr__" = some none) (nb : PySem.W.findIn K (.ref CT) "most" = some none)
    (a1 : PySem.W.findIn K (.ref CT) "__init__" = some (some (.ref fI))) (t1 : PySem.W.typeIn K (.ref fI) = some (.type "function"))
    (l1 : K.lookup fI = some ⟨oc, od, .func (PySem.W.fnOf "__init__" "TooMany.__init__" (defArgs sInit) (defBody sInit) (defScope sInit) .none kV dc pm an cd ct), sl⟩) (c1 : PySem.W.codeIn K cd "TooMany.__init__" = true) (k1 : PySem.W.keepIn K (.ref fI) = true)
    (kC : PySem.W.keepIn K (.ref CT) = true) (eC : PySem.W.subIn K (.ref CT) (.type "BaseException") = some true) (tC : PySem.W.typeIn K (.ref CT) = some (.type "type")) (hC : PySem.W.hasDictIn K CT = true)
    (ha : PySem.W.findIn K (.ref CT) "__class__" = some (some (.builtin "object.__class__"))) (hn : PySem.W.specialIn K (.builtin "object.__class__") "__get__" = some (some (.builtin "getset_descriptor.__get__"))) (ht : PySem.W.takesIn K (.builtin "object.__class__") = some true) (hm : PySem.W.mroIn K CT (.type "object") = some true) :
    ∃ fdI, TmC K mg CT fI fdI ∧ ExcC K CT ∧ XfC K CT := by
  have FI := fun_mk (st := sInit) l1 c1 k1
  refine ⟨_, ⟨⟨⟨_, _, _, _, _, _, _, _, _, _, _, _, _, _, _, xL, by show PySem.HandSPX.refsVE [.type "ValueError", .type "Exception", .type "BaseException", .type "object"] = true; decide +kernel⟩, sa, eC, tC, kC⟩, a1, t1, nb, PySem.W.mg_of X G aC, FI, ?_⟩, ⟨ga, gg, eC, hC, ha, hn, ht, hm⟩, ⟨ga, gg, eC, hC⟩⟩
  exact FI.binds fun _ _ _ _ _ _ us hl => match us, hl with | [_, _], _ => rfl
theorem law_at {l : PySem.W.OpenLaw} {w : World} {fa c1 P1 c2 P2 CT fI : Addr} {fdI : FuncData} (X : K.In h) (G : h.Ns mainGlobals mg) (hfa : mg "law" = some (.ref fa))
    (t1 : h.get? P1 = some { cls := .none, data := .fields #[] }) (t2 : h.get? P2 = some { cls := .none, data := .fields #[] }) (n1 : K.lookup P1 = none) (n2 : K.lookup P2 = none) (h1 : PySem.W.codeHdIn K c1 P1 = true) (h2 : PySem.W.codeHdIn K c2 P2 = true) (hP : P1 ≠ P2)
    (A : AllF K mg c1 c2) (M : Mg mg) (TM : TmC K mg CT fI fdI) (KC : KindC K mg CT) (PEr : ∃ a, mg "PurseError" = some (.ref a) ∧ PySem.W.exmOne K (.ref CT) (.ref a) = some true) : LamX.LawAtS l w K L2.CX0 14 63 "_law_script" mg fa h := by
  obtain ⟨fa', fd, e, hb, hF⟩ := all_ok (P := l.prog) (w := w) A M TM KC PEr hP
  have e' := hfa.symm.trans e
  cases e'
  refine ⟨fd, [(c1, P1), (c2, P2)], spLaw K [(P1, qTree), (P2, qStill)], ?_, ?_, ?_, hb, fun H a ns hl _ hT hS => ?_, fun base _ _ hTB => hF base (hTB (c1, P1) List.mem_cons_self) (hTB (c2, P2) (List.mem_cons_of_mem _ List.mem_cons_self))⟩
  · exact List.forall_mem_cons.mpr ⟨t1, List.forall_mem_cons.mpr ⟨t2, fun _ z => nomatch z⟩⟩
  · exact List.forall_mem_cons.mpr ⟨n1, List.forall_mem_cons.mpr ⟨n2, fun _ z => nomatch z⟩⟩
  · exact List.forall_mem_cons.mpr ⟨PySem.W.codeHd_of_K X h1, List.forall_mem_cons.mpr ⟨PySem.W.codeHd_of_K X h2, fun _ z => nomatch z⟩⟩
  · refine ⟨a, ns, rfl, hS, by omega, ?_, fun _ => rfl⟩
    exact List.forall_mem_cons.mpr ⟨LamX.TabS.nil (hT (c1, P1) List.mem_cons_self), List.forall_mem_cons.mpr ⟨LamX.TabS.nil (hT (c2, P2) (List.mem_cons_of_mem _ List.mem_cons_self)), fun _ z => nomatch z⟩⟩
theorem law_end {l : PySem.W.OpenLaw} {w : World} {fa c1 P1 c2 P2 CT fI PE : Addr} (X : K.In h) (G : h.Ns mainGlobals mg) (hfa : mg "law" = some (.ref fa))
    (t1 : h.get? P1 = some { cls := .none, data := .fields #[] }) (t2 : h.get? P2 = some { cls := .none, data := .fields #[] }) (hP : P1 ≠ P2) (A : AllF K mg c1 c2) (h1 : PySem.W.codeHdIn K c1 P1 = true) (h2 : PySem.W.codeHdIn K c2 P2 = true) (n1 : K.lookup P1 = none) (n2 : K.lookup P2 = none)
    (M : Mg mg) (TX : ∃ fdI, TmC K mg CT fI fdI ∧ ExcC K CT ∧ XfC K CT) (p1 : PySem.W.nsIn K mainGlobals "PurseError" = some (some (.ref PE)))
    (p2 : PySem.W.subIn K (.ref PE) (.type "BaseException") = some true) (p3 : PySem.W.hasDictIn K PE = true) (p4 : PySem.W.typeIn K (.ref PE) = some (.type "type")) (p5 : PySem.W.subIn K (.ref CT) (.ref PE) = some true)
    (a0 : IsC K mg CT "NoWeb" false) (a1 : IsC K mg CT "Apart" false) (a2 : IsC K mg CT "NoText" false) (a3 : IsC K mg CT "NoOrder" false) (a4 : IsC K mg CT "TooMany" true) (a5 : IsC K mg CT "NotSettled" false)
    (a6 : IsC K mg CT "NoTree" false) (a7 : IsC K mg CT "NoTotal" false) (a8 : IsC K mg CT "NoEnds" false) (a9 : IsC K mg CT "NoRow" false) (a10 : IsC K mg CT "NoName" false)
    (v1 : PySem.W.subIn K (.ref CT) (.type "ValueError") = some true) : LamX.LawAtS l w K L2.CX0 14 63 "_law_script" mg fa h := by
  obtain ⟨fdI, TM, EC, XC⟩ := TX
  exact law_at X G hfa t1 t2 n1 n2 h1 h2 hP A M TM ⟨EC, XC, TM.noM, a0, a1, a2, a3, a4, a5, a6, a7, a8, a9, a10, kit_typ (by decide +kernel) v1⟩ ⟨PE, PySem.W.mg_of X G p1, PySem.W.exm_ref p2 p3 p4 p5⟩
end
end K54
end
open PySem PySem.W PyProof.Rows
set_option Elab.async false
set_option maxRecDepth 100000 in
set_option maxHeartbeats 0 in
theorem PySem.Challenge.cw_purseweb_k54_whole_trees_and_still_purse_holds : PySem.Challenge.rw_purseweb_k54_whole_trees_and_still_purse.Holds := by
  w_on; o_law; k_head; (case hw => w_witness2)
  k_fill
  refine LamX.walk_ofTs (n := 63) (k := 14) (CX := fun _ => L2.CX0) (x := "_law_script") rfl (by rw [PySem.sizeLine_eq]; decide) rfl ⟨rfl, by decide, by decide⟩ (fun w h Y => PySem.W.km_in_of Y) ?F (fun _ _ _ _ _ z => z)
  case F =>
    intro w mg fa h Y KX G hmg
    have TT := PySem.W.km_tabs_of Y
    refine' K54.law_end (P1 := 269) (P2 := 276) KX G hmg (TT _ (by k_mem)) (TT _ (by k_mem)) (by decide) ?zA ?zh1 ?zh2 ?zn1 ?zn2 ?zM ?zTX ?zp1 ?zp2 ?zp3 ?zp4 ?zp5 ?za0 ?za1 ?za2 ?za3 ?za4 ?za5 ?za6 ?za7 ?za8 ?za9 ?za10 ?zv1
    case zA =>
      constructor
      · refine' K54.funAt KX G ?za ?zl ?zc ?zk; (case za => k_is); (case zl => k_is); (case zc => k_is); (case zk => k_is)
      · refine' K54.funAt KX G ?za ?zl ?zc ?zk; (case za => k_is); (case zl => k_is); (case zc => k_is); (case zk => k_is)
      · refine' K54.funAt KX G ?za ?zl ?zc ?zk; (case za => k_is); (case zl => k_is); (case zc => k_is); (case zk => k_is)
      · refine' K54.funAt KX G ?za ?zl ?zc ?zk; (case za => k_is); (case zl => k_is); (case zc => k_is); (case zk => k_is)
      · refine' K54.funAt KX G ?za ?zl ?zc ?zk; (case za => k_is); (case zl => k_is); (case zc => k_is); (case zk => k_is)
      · refine' K54.funAt KX G ?za ?zl ?zc ?zk; (case za => k_is); (case zl => k_is); (case zc => k_is); (case zk => k_is)
      · refine' K54.funAt KX G ?za ?zl ?zc ?zk; (case za => k_is); (case zl => k_is); (case zc => k_is); (case zk => k_is)
      · refine' K54.funAt KX G ?za ?zl ?zc ?zk; (case za => k_is); (case zl => k_is); (case zc => k_is); (case zk => k_is)
      · refine' K54.funAt KX G ?za ?zl ?zc ?zk; (case za => k_is); (case zl => k_is); (case zc => k_is); (case zk => k_is)
      · refine' K54.funDAt KX G ?za ?zl ?zc ?zk ?zt; (case za => k_is); (case zl => k_is); (case zc => k_is); (case zk => k_is); (case zt => k_is)
      · refine' K54.funAt KX G ?za ?zl ?zc ?zk; (case za => k_is); (case zl => k_is); (case zc => k_is); (case zk => k_is)
      · refine' K54.funAt KX G ?za ?zl ?zc ?zk; (case za => k_is); (case zl => k_is); (case zc => k_is); (case zk => k_is)
      · refine' K54.funAt KX G ?za ?zl ?zc ?zk; (case za => k_is); (case zl => k_is); (case zc => k_is); (case zk => k_is)
      · refine' K54.funCAt KX G ?za ?zl ?zc ?zk; (case za => k_is); (case zl => k_is); (case zc => k_is); (case zk => k_is)
      · refine' K54.funCAt KX G ?za ?zl ?zc ?zk; (case za => k_is); (case zl => k_is); (case zc => k_is); (case zk => k_is)
      · refine' K54.funDAt KX G ?za ?zl ?zc ?zk ?zt; (case za => k_is); (case zl => k_is); (case zc => k_is); (case zk => k_is); (case zt => k_is)
      · refine' K54.funAt KX G ?za ?zl ?zc ?zk; (case za => k_is); (case zl => k_is); (case zc => k_is); (case zk => k_is)
      · refine' K54.funAt KX G ?za ?zl ?zc ?zk; (case za => k_is); (case zl => k_is); (case zc => k_is); (case zk => k_is)
      · refine' K54.funAt KX G ?za ?zl ?zc ?zk; (case za => k_is); (case zl => k_is); (case zc => k_is); (case zk => k_is)
      · refine' K54.funAt KX G ?za ?zl ?zc ?zk; (case za => k_is); (case zl => k_is); (case zc => k_is); (case zk => k_is)
      · refine' K54.funAt KX G ?za ?zl ?zc ?zk; (case za => k_is); (case zl => k_is); (case zc => k_is); (case zk => k_is)
      · refine' K54.funAt KX G ?za ?zl ?zc ?zk; (case za => k_is); (case zl => k_is); (case zc => k_is); (case zk => k_is)
      · refine' K54.funAt KX G ?za ?zl ?zc ?zk; (case za => k_is); (case zl => k_is); (case zc => k_is); (case zk => k_is)
      · refine' K54.funAt KX G ?za ?zl ?zc ?zk; (case za => k_is); (case zl => k_is); (case zc => k_is); (case zk => k_is)
      · refine' K54.funAt KX G ?za ?zl ?zc ?zk; (case za => k_is); (case zl => k_is); (case zc => k_is); (case zk => k_is)
      · refine' K54.funAt KX G ?za ?zl ?zc ?zk; (case za => k_is); (case zl => k_is); (case zc => k_is); (case zk => k_is)
      · refine' K54.funAt KX G ?za ?zl ?zc ?zk; (case za => k_is); (case zl => k_is); (case zc => k_is); (case zk => k_is)
      · refine' K54.funAt KX G ?za ?zl ?zc ?zk; (case za => k_is); (case zl => k_is); (case zc => k_is); (case zk => k_is)
      · refine' K54.funAt KX G ?za ?zl ?zc ?zk; (case za => k_is); (case zl => k_is); (case zc => k_is); (case zk => k_is)
    case zh1 => kernel_rfl
    case zh2 => kernel_rfl
    case zn1 => kernel_rfl
    case zn2 => kernel_rfl
    case zM =>
      constructor
      all_goals refine PySem.W.mg_none_of KX G ?_
      all_goals k_is
    case zTX =>
      refine' K54.tm_mk KX G ?zaC ?zxL ?zsa ?zga ?zgg ?znb ?zb1 ?zt1 ?zl1 ?zc1 ?zk1 ?zkC ?zeC ?ztC ?zhC ?zha ?zhn ?zht ?zhm
      (case zaC => k_is); (case zxL => k_is); (case zsa => k_is); (case zga => k_is); (case zgg => k_is); (case znb => k_is); (case zb1 => k_is); (case zt1 => k_is); (case zl1 => k_is); (case zc1 => k_is); (case zk1 => k_is)
      (case zkC => k_is); (case zeC => k_is); (case ztC => k_is); (case zhC => k_is); (case zha => k_is); (case zhn => k_is); (case zht => k_is); (case zhm => k_is)
    (case zp1 => k_is); (case zp2 => k_is); (case zp3 => k_is); (case zp4 => k_is); (case zp5 => k_is)
    case za0 => refine' K54.isCn KX G ?za ?zn ?zc ?zt ?zs; (case za => k_is); (case zn => rfl); (case zc => k_is); (case zt => k_is); (case zs => k_is)
    case za1 => refine' K54.isCn KX G ?za ?zn ?zc ?zt ?zs; (case za => k_is); (case zn => rfl); (case zc => k_is); (case zt => k_is); (case zs => k_is)
    case za2 => refine' K54.isCn KX G ?za ?zn ?zc ?zt ?zs; (case za => k_is); (case zn => rfl); (case zc => k_is); (case zt => k_is); (case zs => k_is)
    case za3 => refine' K54.isCn KX G ?za ?zn ?zc ?zt ?zs; (case za => k_is); (case zn => rfl); (case zc => k_is); (case zt => k_is); (case zs => k_is)
    case za4 => exact K54.isC KX G (by k_is) K54.kit_self
    case za5 => refine' K54.isCn KX G ?za ?zn ?zc ?zt ?zs; (case za => k_is); (case zn => rfl); (case zc => k_is); (case zt => k_is); (case zs => k_is)
    case za6 => refine' K54.isCn KX G ?za ?zn ?zc ?zt ?zs; (case za => k_is); (case zn => rfl); (case zc => k_is); (case zt => k_is); (case zs => k_is)
    case za7 => refine' K54.isCn KX G ?za ?zn ?zc ?zt ?zs; (case za => k_is); (case zn => rfl); (case zc => k_is); (case zt => k_is); (case zs => k_is)
    case za8 => refine' K54.isCn KX G ?za ?zn ?zc ?zt ?zs; (case za => k_is); (case zn => rfl); (case zc => k_is); (case zt => k_is); (case zs => k_is)
    case za9 => refine' K54.isCn KX G ?za ?zn ?zc ?zt ?zs; (case za => k_is); (case zn => rfl); (case zc => k_is); (case zt => k_is); (case zs => k_is)
    case za10 => refine' K54.isCn KX G ?za ?zn ?zc ?zt ?zs; (case za => k_is); (case zn => rfl); (case zc => k_is); (case zt => k_is); (case zs => k_is)
    case zv1 => k_is
#print axioms PySem.Challenge.cw_purseweb_k54_whole_trees_and_still_purse_holds
