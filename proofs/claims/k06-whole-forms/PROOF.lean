import PyProof.Rows.All
import Wide.All
import OpenK.AllK
import Wide.FinOn
import HandS.ForMost
import HandS.Strs
import HandS.SetFor
import HandS.TupAny
import HandS.Evl
import PySem.Challenge.RW_placewords_k06_whole_forms_tell_words
set_option Elab.async false
set_option linter.all false
set_option maxRecDepth 100000
namespace Trc

/-! ## letters, places, projections -/
variable (pl : Nat → List Nat)

/-- two letters have a common place -/
def dep (a b : Nat) : Bool := (pl a).any fun p => (pl b).contains p
/-- the letters of a word that happen at a place -/
def proj (p : Nat) (w : List Nat) : List Nat := w.filter fun a => (pl a).contains p
/-- equal place words, everywhere -/
def Sim (u v : List Nat) : Prop := ∀ p, proj pl p u = proj pl p v
/-- every letter has a place -/
def Full (w : List Nat) : Prop := ∀ a ∈ w, pl a ≠ []

variable {pl}

theorem dep_iff {a b : Nat} : dep pl a b = true ↔ ∃ p, p ∈ pl a ∧ p ∈ pl b := by
  simp [dep]
theorem dep_false {a b : Nat} : dep pl a b = false ↔ ∀ p, p ∈ pl a → p ∉ pl b := by
  simp [dep]
theorem dep_symm (a b : Nat) : dep pl a b = dep pl b a := by
  rw [Bool.eq_iff_iff, dep_iff, dep_iff]
  exact ⟨fun ⟨p, h, k⟩ => ⟨p, k, h⟩, fun ⟨p, h, k⟩ => ⟨p, k, h⟩⟩
theorem dep_self {a : Nat} (h : pl a ≠ []) : dep pl a a = true := by
  rw [dep_iff]
  obtain ⟨p, hp⟩ := List.exists_mem_of_ne_nil _ h
  exact ⟨p, hp, hp⟩

theorem proj_nil (p : Nat) : proj pl p [] = [] := rfl
theorem proj_append (p : Nat) (u v : List Nat) : proj pl p (u ++ v) = proj pl p u ++ proj pl p v := by
  simp [proj]
theorem proj_cons_in {p a : Nat} (h : p ∈ pl a) (w : List Nat) : proj pl p (a :: w) = a :: proj pl p w := by
  simp [proj, h]
theorem proj_cons_out {p a : Nat} (h : p ∉ pl a) (w : List Nat) : proj pl p (a :: w) = proj pl p w := by
  simp [proj, h]
theorem mem_proj {p a : Nat} {w : List Nat} : a ∈ proj pl p w ↔ a ∈ w ∧ p ∈ pl a := by
  simp [proj]
theorem proj_none {p : Nat} {w : List Nat} (h : ∀ b ∈ w, p ∉ pl b) : proj pl p w = [] := by
  simp [proj]
  exact h

theorem Sim.refl (u : List Nat) : Sim pl u u := fun _ => rfl
theorem Sim.symm {u v : List Nat} (h : Sim pl u v) : Sim pl v u := fun p => (h p).symm
theorem Sim.trans {u v w : List Nat} (h : Sim pl u v) (k : Sim pl v w) : Sim pl u w := fun p => (h p).trans (k p)
theorem Sim.mem {u v : List Nat} (h : Sim pl u v) (fu : Full pl u) {a : Nat} (ha : a ∈ u) : a ∈ v := by
  obtain ⟨p, hp⟩ := List.exists_mem_of_ne_nil _ (fu a ha)
  have k : a ∈ proj pl p u := mem_proj.mpr ⟨ha, hp⟩
  rw [h p] at k
  exact (mem_proj.mp k).1
theorem Full.nil : Full pl [] := fun a h => by cases h
theorem Full.sub {u v : List Nat} (f : Full pl v) (h : ∀ a ∈ u, a ∈ v) : Full pl u := fun a ha => f a (h a ha)

/-- a could come first in u -/
def Avail (pl : Nat → List Nat) (u : List Nat) (a : Nat) : Prop := ∀ p ∈ pl a, (proj pl p u).head? = some a

theorem Avail.sim {u v : List Nat} {a : Nat} (h : Sim pl u v) (k : Avail pl u a) : Avail pl v a := fun p hp => by
  rw [← h p]
  exact k p hp

theorem avail_of {x y : List Nat} {a : Nat} (hx : ∀ b ∈ x, dep pl a b = false) : Avail pl (x ++ a :: y) a := fun p hp => by
  rw [proj_append, proj_none (fun b hb => dep_false.mp (hx b hb) p hp), proj_cons_in hp]
  rfl

theorem avail_split {a : Nat} (ha : pl a ≠ []) : ∀ {u : List Nat}, Avail pl u a → ∃ x y, u = x ++ a :: y ∧ a ∉ x ∧ ∀ b ∈ x, dep pl a b = false
  | [], h => by
    obtain ⟨p, hp⟩ := List.exists_mem_of_ne_nil _ ha
    have k := h p hp
    simp [proj_nil] at k
  | b :: u, h => by
    by_cases e : b = a
    · exact ⟨[], u, by simp [e], by simp, by simp⟩
    · have out : ∀ p ∈ pl a, p ∉ pl b := fun p hp q => by
        have k := h p hp
        rw [proj_cons_in q] at k
        exact e (Option.some.inj k)
      have h' : Avail pl u a := fun p hp => by
        have k := h p hp
        rw [proj_cons_out (out p hp)] at k
        exact k
      obtain ⟨x, y, rfl, h1, h2⟩ := avail_split ha h'
      refine ⟨b :: x, y, rfl, ?_, ?_⟩
      · intro q
        rcases List.mem_cons.mp q with q | q
        · exact e q.symm
        · exact h1 q
      · intro c hc
        rcases List.mem_cons.mp hc with q | q
        · rw [q]
          exact dep_false.mpr out
        · exact h2 c q

/-- taking a out of u, where it could come first -/
theorem sim_front {x y : List Nat} {a : Nat} (hx : ∀ b ∈ x, dep pl a b = false) : Sim pl (x ++ a :: y) (a :: (x ++ y)) := fun p => by
  by_cases hp : p ∈ pl a
  · rw [proj_append, proj_none (fun b hb => dep_false.mp (hx b hb) p hp), proj_cons_in hp, proj_cons_in hp, proj_append, proj_none (fun b hb => dep_false.mp (hx b hb) p hp)]
    rfl
  · rw [proj_append, proj_cons_out hp, proj_cons_out hp, proj_append]
theorem sim_cons {a : Nat} {u v : List Nat} : Sim pl (a :: u) (a :: v) ↔ Sim pl u v := by
  constructor
  · intro h p
    have k := h p
    by_cases hp : p ∈ pl a
    · rw [proj_cons_in hp, proj_cons_in hp] at k
      exact List.tail_eq_of_cons_eq k
    · rw [proj_cons_out hp, proj_cons_out hp] at k
      exact k
  · intro h p
    by_cases hp : p ∈ pl a
    · rw [proj_cons_in hp, proj_cons_in hp, h p]
    · rw [proj_cons_out hp, proj_cons_out hp, h p]
theorem sim_append {x u v : List Nat} (h : Sim pl u v) : Sim pl (x ++ u) (x ++ v) := fun p => by
  rw [proj_append, proj_append, h p]
theorem sim_nil {u : List Nat} (fu : Full pl u) (h : Sim pl u []) : u = [] := by
  cases u with
  | nil => rfl
  | cons a u =>
    have := h.mem fu List.mem_cons_self
    cases this

theorem avail_cons_self {a : Nat} {u : List Nat} : Avail pl (a :: u) a := fun p hp => by
  rw [proj_cons_in hp]
  rfl

/-- the first letter of one word, found in the other -/
theorem front {a : Nat} {u v : List Nat} (ha : pl a ≠ []) (h : Sim pl u (a :: v)) : ∃ x y, u = x ++ a :: y ∧ a ∉ x ∧ (∀ b ∈ x, dep pl a b = false) ∧ Sim pl (x ++ y) v := by
  have k : Avail pl u a := (avail_cons_self).sim h.symm
  obtain ⟨x, y, rfl, h1, h2⟩ := avail_split ha k
  exact ⟨x, y, rfl, h1, h2, sim_cons.mp ((sim_front h2).symm.trans h)⟩

theorem Sim.length : ∀ {v u : List Nat}, Full pl u → Full pl v → Sim pl u v → u.length = v.length
  | [], u, fu, _, h => by rw [sim_nil fu h]
  | a :: v, u, fu, fv, h => by
    obtain ⟨x, y, rfl, _, _, k⟩ := front (fv a List.mem_cons_self) h
    have := Sim.length (fu.sub fun b hb => by
      rcases List.mem_append.mp hb with q | q
      · exact List.mem_append_left _ q
      · exact List.mem_append_right _ (List.mem_cons_of_mem _ q)) (fv.sub fun b hb => List.mem_cons_of_mem _ hb) k
    rw [List.length_append] at this
    rw [List.length_append, List.length_cons, List.length_cons]
    omega

/-- one word from the other by exchanges of independent neighbours -/
inductive Tr (pl : Nat → List Nat) : List Nat → List Nat → Prop
  | refl (u : List Nat) : Tr pl u u
  | swap (x : List Nat) (a b : Nat) (y : List Nat) : dep pl a b = false → Tr pl (x ++ a :: b :: y) (x ++ b :: a :: y)
  | trans {u v w : List Nat} : Tr pl u v → Tr pl v w → Tr pl u w

theorem Tr.cons {u v : List Nat} (c : Nat) (h : Tr pl u v) : Tr pl (c :: u) (c :: v) := by
  induction h with
  | refl u => exact .refl _
  | swap x a b y k => exact .swap (c :: x) a b y k
  | trans _ _ h k => exact .trans h k
theorem Tr.front {a : Nat} : ∀ {x : List Nat} (y : List Nat), (∀ b ∈ x, dep pl a b = false) → Tr pl (x ++ a :: y) (a :: (x ++ y))
  | [], y, _ => .refl _
  | b :: x, y, h => by
    have k : Tr pl (x ++ a :: y) (a :: (x ++ y)) := Tr.front y fun c hc => h c (List.mem_cons_of_mem _ hc)
    refine .trans (Tr.cons b k) ?_
    refine .swap [] b a (x ++ y) ?_
    rw [dep_symm]
    exact h b List.mem_cons_self
theorem tr_of_sim : ∀ {v u : List Nat}, Full pl u → Full pl v → Sim pl u v → Tr pl u v
  | [], u, fu, _, h => by rw [sim_nil fu h]; exact .refl _
  | a :: v, u, fu, fv, h => by
    obtain ⟨x, y, rfl, _, h2, k⟩ := Trc.front (fv a List.mem_cons_self) h
    refine .trans (Tr.front y h2) (Tr.cons a (tr_of_sim (fu.sub fun b hb => ?_) (fv.sub fun b hb => List.mem_cons_of_mem _ hb) k))
    rcases List.mem_append.mp hb with q | q
    · exact List.mem_append_left _ q
    · exact List.mem_append_right _ (List.mem_cons_of_mem _ q)

/-! ## the least form -/
/-- o is what the greedy choice makes of w -/
inductive Lf (pl : Nat → List Nat) : List Nat → List Nat → Prop
  | nil : Lf pl [] []
  | step {x y o : List Nat} {a : Nat} : (∀ b ∈ x, dep pl a b = false) → (∀ c ∈ x ++ a :: y, Avail pl (x ++ a :: y) c → a ≤ c) → Lf pl (x ++ y) o → Lf pl (x ++ a :: y) (a :: o)

theorem mem_out {x y : List Nat} {a b : Nat} (hb : b ∈ x ++ y) : b ∈ x ++ a :: y := by
  rcases List.mem_append.mp hb with q | q
  · exact List.mem_append_left _ q
  · exact List.mem_append_right _ (List.mem_cons_of_mem _ q)

theorem Lf.sim {w o : List Nat} (h : Lf pl w o) : Sim pl w o := by
  induction h with
  | nil => exact .refl _
  | step h1 _ _ ih => exact (sim_front h1).trans (sim_cons.mpr ih)
theorem Lf.mem {w o : List Nat} (h : Lf pl w o) : ∀ a ∈ o, a ∈ w := by
  induction h with
  | nil => intro a h; exact h
  | step h1 _ _ ih =>
    intro c hc
    rcases List.mem_cons.mp hc with q | q
    · rw [q]; simp
    · exact mem_out (ih c q)
theorem Lf.length {w o : List Nat} (h : Lf pl w o) : o.length = w.length := by
  induction h with
  | nil => rfl
  | step h1 _ _ ih =>
    rw [List.length_cons, ih, List.length_append, List.length_append, List.length_cons]
    omega
theorem Lf.same {u o : List Nat} (h : Lf pl u o) : ∀ {v o' : List Nat}, Full pl u → Full pl v → Lf pl v o' → Sim pl u v → o = o' := by
  induction h with
  | nil =>
    intro v o' _ fv k e
    have : v = [] := sim_nil fv e.symm
    subst this
    generalize hw : ([] : List Nat) = w at k
    cases k with
    | nil => rfl
    | step _ _ _ => simp at hw
  | @step x y o a h1 h2 h3 ih =>
    intro v o' fu fv k e
    have ha : a ∈ x ++ a :: y := by simp
    have av : Avail pl v a := (avail_of h1).sim e
    generalize hv : v = v0 at k
    cases k with
    | nil =>
      subst hv
      have := e.mem fu ha
      cases this
    | @step x' y' o' c k1 k2 k3 =>
      subst hv
      have hc : c ∈ x' ++ c :: y' := by simp
      have ac : Avail pl (x ++ a :: y) c := (avail_of k1).sim e.symm
      have hac : a ≤ c := h2 c (e.symm.mem fv hc) ac
      have hca : c ≤ a := k2 a (e.mem fu ha) av
      have : a = c := Nat.le_antisymm hac hca
      subst this
      have e2 : Sim pl (x ++ y) (x' ++ y') := sim_cons.mp ((sim_front h1).symm.trans (e.trans (sim_front k1)))
      rw [ih (fu.sub fun b hb => mem_out hb) (fv.sub fun b hb => mem_out hb) k3 e2]

/-- the letters that may not come next, behind the letter l -/
def nextB (pl : Nat → List Nat) (B : Nat → Bool) (l : Nat) : Nat → Bool := fun c => (B c || decide (c < l)) && !dep pl l c
def least (pl : Nat → List Nat) : (Nat → Bool) → List Nat → Bool
  | _, [] => true
  | B, l :: w => if B l then false else least pl (nextB pl B l) w

theorem avail_back {x y : List Nat} {a c : Nat} (h1 : ∀ b ∈ x, dep pl a b = false) (hi : dep pl a c = false) (h : Avail pl (x ++ y) c) : Avail pl (x ++ a :: y) c := fun p hp => by
  have hpa : p ∉ pl a := fun q => dep_false.mp hi p q hp
  have k := h p hp
  rw [proj_append] at k
  rw [proj_append, proj_cons_out hpa]
  exact k
theorem Lf.least {w o : List Nat} (h : Lf pl w o) : ∀ (B : Nat → Bool), Full pl w → (∀ c ∈ w, B c = true → ¬ Avail pl w c) → Trc.least pl B o = true := by
  induction h with
  | nil => intro B _ _; rfl
  | @step x y o a h1 h2 h3 ih =>
    intro B fw hB
    have ha : a ∈ x ++ a :: y := by simp
    have hBa : B a = false := by
      cases e : B a with
      | false => rfl
      | true => exact absurd (avail_of h1) (hB a ha e)
    show (if B a = true then false else Trc.least pl (nextB pl B a) o) = true
    rw [hBa]
    refine ih _ (fw.sub fun b hb => mem_out hb) fun c hc hb av => ?_
    have hc' : c ∈ x ++ a :: y := mem_out hc
    simp only [nextB, Bool.and_eq_true, Bool.or_eq_true, decide_eq_true_eq, Bool.not_eq_true'] at hb
    have av' : Avail pl (x ++ a :: y) c := avail_back h1 hb.2 av
    rcases hb.1 with q | q
    · exact hB c hc' q av'
    · have := h2 c hc' av'
      omega

/-! ## swaps -/
/-- exchange the letters at i and i + 1 -/
def swap1 (w : List Nat) (i : Nat) : List Nat := (w.set i (w.getD (i + 1) 0)).set (i + 1) (w.getD i 0)
def canSwap (pl : Nat → List Nat) (w : List Nat) (i : Nat) : Bool := decide (i + 1 < w.length) && !dep pl (w.getD i 0) (w.getD (i + 1) 0)
def runS (pl : Nat → List Nat) : List Nat → List Nat → Option (List Nat)
  | w, [] => some w
  | w, i :: is => if canSwap pl w i then runS pl (swap1 w i) is else none
theorem runS_snoc {i : Nat} : ∀ {is : List Nat} {w v : List Nat}, runS pl w is = some v → canSwap pl v i = true → runS pl w (is ++ [i]) = some (swap1 v i)
  | [], w, v, h, k => by
    have e : w = v := Option.some.inj h
    subst e
    show (if canSwap pl w i = true then some (swap1 w i) else none) = _
    rw [if_pos k]
  | j :: is, w, v, h, k => by
    have h' : (if canSwap pl w j = true then runS pl (swap1 w j) is else none) = some v := h
    show (if canSwap pl w j = true then runS pl (swap1 w j) (is ++ [i]) else none) = _
    by_cases c : canSwap pl w j = true
    · rw [if_pos c] at h' ⊢
      exact runS_snoc h' k
    · rw [if_neg c] at h'
      cases h'
theorem getD_at {x y : List Nat} {a : Nat} : (x ++ a :: y).getD x.length 0 = a := by
  simp
theorem getD_at1 {x y : List Nat} {a b : Nat} : (x ++ a :: b :: y).getD (x.length + 1) 0 = b := by
  simp
theorem set_at {x y : List Nat} {a b : Nat} : (x ++ a :: y).set x.length b = x ++ b :: y := by
  simp
theorem swap1_at (x y : List Nat) (a b : Nat) : swap1 (x ++ a :: b :: y) x.length = x ++ b :: a :: y := by
  unfold swap1
  rw [getD_at, getD_at1, set_at]
  have e : x ++ b :: b :: y = (x ++ [b]) ++ b :: y := by simp
  have l : x.length + 1 = (x ++ [b]).length := by simp
  rw [e, l, set_at]
  simp
theorem canSwap_at {x y : List Nat} {a b : Nat} (h : dep pl a b = false) : canSwap pl (x ++ a :: b :: y) x.length = true := by
  unfold canSwap
  rw [getD_at, getD_at1, h]
  simp

end Trc

namespace Trc
variable {pl : Nat → List Nat}

/-! ## layers -/
/-- the depth of a letter, by the depths of the letters -/
def dmax (pl : Nat → List Nat) (deps : List Nat) (a : Nat) : Nat := (List.range deps.length).foldl (fun d o => if dep pl a o = true then max d (deps.getD o 0) else d) 0
def put : List (List Nat) → Nat → Nat → List (List Nat)
  | [], _, a => [[a]]
  | l :: r, 0, a => (l ++ [a]) :: r
  | l :: r, d + 1, a => l :: put r d a
def lstep (pl : Nat → List Nat) (s : List (List Nat) × List Nat) (a : Nat) : List (List Nat) × List Nat := (put s.1 (dmax pl s.2 a) a, s.2.set a (dmax pl s.2 a + 1))
def lrun (pl : Nat → List Nat) (m : Nat) (w : List Nat) : List (List Nat) × List Nat := w.foldl (lstep pl) ([], List.replicate m 0)
def srt (l : List Nat) : List Nat := l.mergeSort fun a b => decide (a ≤ b)
def layersM (pl : Nat → List Nat) (m : Nat) (w : List Nat) : List (List Nat) := (lrun pl m w).1.map srt

theorem srt_perm (l : List Nat) : (srt l).Perm l := List.mergeSort_perm l _
theorem srt_sorted (l : List Nat) : (srt l).Pairwise (· ≤ ·) := by
  have h := List.pairwise_mergeSort (le := fun a b : Nat => decide (a ≤ b)) (by simp; omega) (by simp; omega) l
  simpa [srt] using h
theorem srt_unique {l s : List Nat} (h : s.Perm l) (k : s.Pairwise (· ≤ ·)) : s = srt l :=
  List.Perm.eq_of_pairwise (fun a b _ _ h1 h2 => Nat.le_antisymm h1 h2) k (srt_sorted l) (h.trans (srt_perm l).symm)
theorem srt_congr {l l' : List Nat} (h : l.Perm l') : srt l = srt l' := srt_unique ((srt_perm l).trans h) (srt_sorted l)

theorem dfold_ge {deps : List Nat} {a : Nat} : ∀ (l : List Nat) (d : Nat), d ≤ l.foldl (fun d o => if dep pl a o = true then max d (deps.getD o 0) else d) d
  | [], d => Nat.le_refl _
  | o :: l, d => by
    rw [List.foldl_cons]
    refine Nat.le_trans ?_ (dfold_ge l _)
    split <;> omega
theorem dfold_mem {deps : List Nat} {a o : Nat} (ho : dep pl a o = true) : ∀ (l : List Nat) (d : Nat), o ∈ l → deps.getD o 0 ≤ l.foldl (fun d o => if dep pl a o = true then max d (deps.getD o 0) else d) d
  | [], d, h => by cases h
  | c :: l, d, h => by
    rw [List.foldl_cons]
    rcases List.mem_cons.mp h with e | e
    · rw [← e, if_pos ho]
      exact Nat.le_trans (Nat.le_max_right _ _) (dfold_ge l _)
    · exact dfold_mem ho l _ e
theorem dfold_le {deps : List Nat} {a n : Nat} (hn : ∀ o, deps.getD o 0 ≤ n) : ∀ (l : List Nat) (d : Nat), d ≤ n → l.foldl (fun d o => if dep pl a o = true then max d (deps.getD o 0) else d) d ≤ n
  | [], d, h => h
  | o :: l, d, h => by
    rw [List.foldl_cons]
    refine dfold_le hn l _ ?_
    have := hn o
    split <;> omega
theorem dfold_congr {deps deps' : List Nat} {a : Nat} : ∀ (l : List Nat) (d : Nat), (∀ o ∈ l, dep pl a o = true → deps.getD o 0 = deps'.getD o 0) →
    l.foldl (fun d o => if dep pl a o = true then max d (deps.getD o 0) else d) d = l.foldl (fun d o => if dep pl a o = true then max d (deps'.getD o 0) else d) d
  | [], d, h => rfl
  | o :: l, d, h => by
    rw [List.foldl_cons, List.foldl_cons]
    by_cases e : dep pl a o = true
    · rw [if_pos e, if_pos e, h o List.mem_cons_self e]
      exact dfold_congr l _ fun c hc => h c (List.mem_cons_of_mem _ hc)
    · rw [if_neg e, if_neg e]
      exact dfold_congr l _ fun c hc => h c (List.mem_cons_of_mem _ hc)

theorem getD_set {l : List Nat} {i j v : Nat} (hi : i < l.length) : (l.set i v).getD j 0 = if j = i then v else l.getD j 0 := by
  rw [List.getD_eq_getElem?_getD, List.getElem?_set, List.getD_eq_getElem?_getD]
  by_cases e : i = j
  · subst e
    simp [hi]
  · rw [if_neg e, if_neg (fun q => e q.symm)]

theorem put_length : ∀ (f : List (List Nat)) (d a : Nat), d ≤ f.length → (put f d a).length = max f.length (d + 1)
  | [], d, a, h => by
    have : d = 0 := by simpa using h
    subst this
    rfl
  | l :: r, 0, a, h => by
    show r.length + 1 = _
    simp
  | l :: r, d + 1, a, h => by
    show (put r d a).length + 1 = _
    rw [put_length r d a (by simpa using h)]
    simp
theorem put_getD : ∀ (f : List (List Nat)) (d a i : Nat), d ≤ f.length → (put f d a).getD i [] = if i = d then f.getD d [] ++ [a] else f.getD i []
  | [], d, a, i, h => by
    have : d = 0 := by simpa using h
    subst this
    cases i with
    | zero => rfl
    | succ i => simp [put]
  | l :: r, 0, a, i, h => by
    cases i with
    | zero => rfl
    | succ i => simp [put]
  | l :: r, d + 1, a, i, h => by
    cases i with
    | zero => simp [put]
    | succ i =>
      have := put_getD r d a i (by simpa using h)
      simpa [put] using this
theorem put_lt : ∀ (f : List (List Nat)) (d a : Nat), d < f.length → put f d a = f.set d (f.getD d [] ++ [a])
  | [], d, a, h => by cases h
  | l :: r, 0, a, h => by simp [put]
  | l :: r, d + 1, a, h => by
    have := put_lt r d a (by simpa using h)
    simp [put, this]
theorem put_end : ∀ (f : List (List Nat)) (a : Nat), put f f.length a = f ++ [[a]]
  | [], a => rfl
  | l :: r, a => by
    show l :: put r r.length a = _
    rw [put_end r a]
    rfl

/-- the state of the loop: nothing stands above what its letters say -/
structure Good (pl : Nat → List Nat) (m : Nat) (s : List (List Nat) × List Nat) : Prop where
  len : s.2.length = m
  top : ∀ o, s.2.getD o 0 ≤ s.1.length
  low : ∀ i, ∀ b ∈ s.1.getD i [], b < m ∧ i + 1 ≤ s.2.getD b 0
  one : ∀ i p, (proj pl p (s.1.getD i [])).length ≤ 1

theorem Good.dle {m : Nat} {s : List (List Nat) × List Nat} (g : Good pl m s) (a : Nat) : dmax pl s.2 a ≤ s.1.length := dfold_le g.top _ _ (Nat.zero_le _)
theorem Good.above {m : Nat} {s : List (List Nat) × List Nat} (g : Good pl m s) {a i b : Nat} (hi : dmax pl s.2 a ≤ i) (hb : b ∈ s.1.getD i []) : dep pl a b = false := by
  cases e : dep pl a b with
  | false => rfl
  | true =>
    obtain ⟨h1, h2⟩ := g.low i b hb
    have : s.2.getD b 0 ≤ dmax pl s.2 a := dfold_mem e _ _ (List.mem_range.mpr (by rw [g.len]; exact h1))
    omega
theorem good0 (m : Nat) : Good pl m ([], List.replicate m 0) where
  len := by simp
  top := fun o => by
    rw [List.getD_eq_getElem?_getD]
    by_cases h : o < m
    · simp [List.getElem?_replicate, h]
    · simp [List.getElem?_replicate, h]
  low := fun i b h => by simp at h
  one := fun i p => by simp [proj]
theorem Good.step {m : Nat} {s : List (List Nat) × List Nat} (g : Good pl m s) {a : Nat} (ha : a < m) (fa : pl a ≠ []) : Good pl m (lstep pl s a) where
  len := by
    show (s.2.set a _).length = m
    rw [List.length_set]
    exact g.len
  top := fun o => by
    show (s.2.set a _).getD o 0 ≤ (put s.1 (dmax pl s.2 a) a).length
    rw [put_length _ _ _ (g.dle a), getD_set (by rw [g.len]; exact ha)]
    have := g.top o
    split <;> omega
  low := fun i b hb => by
    have hb' : b ∈ (put s.1 (dmax pl s.2 a) a).getD i [] := hb
    rw [put_getD _ _ _ _ (g.dle a)] at hb'
    show b < m ∧ i + 1 ≤ (s.2.set a (dmax pl s.2 a + 1)).getD b 0
    rw [getD_set (by rw [g.len]; exact ha)]
    have old : ∀ {j}, b ∈ s.1.getD j [] → b < m ∧ j + 1 ≤ if b = a then dmax pl s.2 a + 1 else s.2.getD b 0 := fun {j} h => by
      obtain ⟨h1, h2⟩ := g.low j b h
      refine ⟨h1, ?_⟩
      by_cases e : b = a
      · rw [if_pos e]
        by_cases le : dmax pl s.2 a ≤ j
        · have := g.above le h
          rw [e, dep_self fa] at this
          cases this
        · omega
      · rw [if_neg e]
        exact h2
    by_cases e : i = dmax pl s.2 a
    · rw [if_pos e] at hb'
      rcases List.mem_append.mp hb' with q | q
      · rw [e]
        exact old q
      · rw [List.mem_singleton.mp q, if_pos rfl]
        exact ⟨ha, by omega⟩
    · rw [if_neg e] at hb'
      exact old hb'
  one := fun i p => by
    show (proj pl p ((put s.1 (dmax pl s.2 a) a).getD i [])).length ≤ 1
    rw [put_getD _ _ _ _ (g.dle a)]
    by_cases e : i = dmax pl s.2 a
    · rw [if_pos e, proj_append]
      by_cases hp : p ∈ pl a
      · rw [proj_none (fun b hb => dep_false.mp (g.above (Nat.le_refl _) hb) p hp), proj_cons_in hp]
        exact Nat.le_refl _
      · rw [proj_cons_out hp, proj_nil, List.append_nil]
        exact g.one _ _
    · rw [if_neg e]
      exact g.one _ _

theorem flat_put (p a : Nat) : ∀ (f : List (List Nat)) (d : Nat), d ≤ f.length → (∀ i, d < i → ∀ b ∈ f.getD i [], dep pl a b = false) → proj pl p (put f d a).flatten = proj pl p f.flatten ++ proj pl p [a]
  | [], d, h, k => by
    show proj pl p ([a] ++ []) = [] ++ _
    simp
  | l :: r, 0, h, k => by
    show proj pl p ((l ++ [a]) ++ r.flatten) = proj pl p (l ++ r.flatten) ++ _
    rw [proj_append, proj_append, proj_append]
    by_cases hp : p ∈ pl a
    · have z : proj pl p r.flatten = [] := proj_none fun b hb q => by
        obtain ⟨x, hx, hbx⟩ := List.mem_flatten.mp hb
        obtain ⟨i, hi, e⟩ := List.getElem_of_mem hx
        have := k (i + 1) (by omega) b (by simp [List.getD_eq_getElem?_getD, hi, e, hbx])
        exact dep_false.mp this p hp q
      rw [z]
      simp
    · rw [proj_cons_out hp, proj_nil]
      simp
  | l :: r, d + 1, h, k => by
    show proj pl p (l ++ (put r d a).flatten) = proj pl p (l ++ r.flatten) ++ _
    rw [proj_append, proj_append, flat_put p a r d (by simpa using h) fun i hi b hb => k (i + 1) (by omega) b (by simpa using hb), List.append_assoc]

theorem lrun_snoc (m : Nat) (w : List Nat) (a : Nat) : lrun pl m (w ++ [a]) = lstep pl (lrun pl m w) a := by
  simp [lrun]
theorem lrun_ok (m : Nat) (w : List Nat) : Full pl w → (∀ a ∈ w, a < m) → Good pl m (lrun pl m w) ∧ Sim pl (lrun pl m w).1.flatten w := by
  induction h : w.length generalizing w with
  | zero =>
    intro _ _
    have : w = [] := List.eq_nil_of_length_eq_zero h
    subst this
    exact ⟨good0 m, fun p => rfl⟩
  | succ n ih =>
    intro fw hw
    have hne : w ≠ [] := by
      intro e
      rw [e] at h
      cases h
    obtain ⟨v, a, rfl⟩ : ∃ v a, w = v ++ [a] := ⟨w.dropLast, w.getLast hne, (List.dropLast_concat_getLast hne).symm⟩
    have hn : v.length = n := by simpa using h
    obtain ⟨g, e⟩ := ih v hn (fw.sub fun b hb => List.mem_append_left _ hb) fun b hb => hw b (List.mem_append_left _ hb)
    rw [lrun_snoc]
    have am : a ∈ v ++ [a] := by simp
    refine ⟨g.step (hw a am) (fw a am), fun p => ?_⟩
    show proj pl p (put (lrun pl m v).1 (dmax pl (lrun pl m v).2 a) a).flatten = _
    rw [flat_put p a _ _ (g.dle a) fun i hi b hb => g.above (Nat.le_of_lt hi) hb, e p, proj_append]

theorem proj_perm1 {p : Nat} {l s : List Nat} (h : s.Perm l) (k : (proj pl p l).length ≤ 1) : proj pl p s = proj pl p l := by
  have q : (proj pl p s).Perm (proj pl p l) := h.filter _
  generalize proj pl p s = x at q
  generalize proj pl p l = y at q k
  match y, k with
  | [], _ => exact q.eq_nil
  | [c], _ => exact q.eq_singleton
theorem proj_flat_srt {p : Nat} : ∀ (f : List (List Nat)), (∀ l ∈ f, (proj pl p l).length ≤ 1) → proj pl p (f.map srt).flatten = proj pl p f.flatten
  | [], _ => rfl
  | l :: r, h => by
    show proj pl p (srt l ++ (r.map srt).flatten) = proj pl p (l ++ r.flatten)
    rw [proj_append, proj_append, proj_perm1 (srt_perm l) (h l List.mem_cons_self), proj_flat_srt r fun x hx => h x (List.mem_cons_of_mem _ hx)]
theorem layers_sim {m : Nat} {w : List Nat} (fw : Full pl w) (hw : ∀ a ∈ w, a < m) : Sim pl (layersM pl m w).flatten w := fun p => by
  obtain ⟨g, e⟩ := lrun_ok m w fw hw
  rw [← e p]
  refine proj_flat_srt _ fun l hl => ?_
  obtain ⟨i, hi, q⟩ := List.getElem_of_mem hl
  have := g.one i p
  rw [List.getD_eq_getElem?_getD, List.getElem?_eq_getElem hi, q] at this
  exact this

/-- two states that differ within their layers only -/
def Al (s t : List (List Nat) × List Nat) : Prop := s.2 = t.2 ∧ s.1.length = t.1.length ∧ ∀ i, (s.1.getD i []).Perm (t.1.getD i [])
theorem Al.refl (s : List (List Nat) × List Nat) : Al s s := ⟨rfl, rfl, fun _ => .refl _⟩
theorem Al.trans {s t u : List (List Nat) × List Nat} (h : Al s t) (k : Al t u) : Al s u := ⟨h.1.trans k.1, h.2.1.trans k.2.1, fun i => (h.2.2 i).trans (k.2.2 i)⟩
theorem Al.step {m : Nat} {s t : List (List Nat) × List Nat} (h : Al s t) (g : Good pl m s) (g' : Good pl m t) (a : Nat) : Al (lstep pl s a) (lstep pl t a) := by
  obtain ⟨h1, h2, h3⟩ := h
  refine ⟨?_, ?_, fun i => ?_⟩
  · show s.2.set a _ = t.2.set a _
    rw [h1]
  · show (put s.1 _ a).length = (put t.1 _ a).length
    rw [put_length _ _ _ (g.dle a), put_length _ _ _ (g'.dle a), h1, h2]
  · show ((put s.1 _ a).getD i []).Perm ((put t.1 _ a).getD i [])
    rw [put_getD _ _ _ _ (g.dle a), put_getD _ _ _ _ (g'.dle a), h1]
    by_cases e : i = dmax pl t.2 a
    · rw [if_pos e, if_pos e]
      exact (h3 _).append_right _
    · rw [if_neg e, if_neg e]
      exact h3 i
theorem dmax_set {m : Nat} {s : List (List Nat) × List Nat} (g : Good pl m s) {a b v : Nat} (ha : a < m) (h : dep pl b a = false) : dmax pl (s.2.set a v) b = dmax pl s.2 b := by
  unfold dmax
  rw [List.length_set]
  refine dfold_congr _ _ fun o _ ho => ?_
  rw [getD_set (by rw [g.len]; exact ha), if_neg]
  intro e
  rw [e, h] at ho
  cases ho
theorem swap_al {m : Nat} {s : List (List Nat) × List Nat} (g : Good pl m s) {a b : Nat} (ha : a < m) (hb : b < m) (fa : pl a ≠ []) (fb : pl b ≠ []) (h : dep pl a b = false) : Al (lstep pl (lstep pl s a) b) (lstep pl (lstep pl s b) a) := by
  have h' : dep pl b a = false := by rw [dep_symm]; exact h
  have ne : a ≠ b := fun e => by
    rw [e, dep_self fb] at h
    cases h
  have e1 : dmax pl (lstep pl s a).2 b = dmax pl s.2 b := dmax_set g ha h'
  have e2 : dmax pl (lstep pl s b).2 a = dmax pl s.2 a := dmax_set g hb h
  have ga := g.step ha fa
  have gb := g.step hb fb
  have la : (lstep pl s a).1.length = max s.1.length (dmax pl s.2 a + 1) := put_length _ _ _ (g.dle a)
  have lb : (lstep pl s b).1.length = max s.1.length (dmax pl s.2 b + 1) := put_length _ _ _ (g.dle b)
  have ka : ∀ i, (lstep pl s a).1.getD i [] = if i = dmax pl s.2 a then s.1.getD (dmax pl s.2 a) [] ++ [a] else s.1.getD i [] := fun i => put_getD _ _ _ _ (g.dle a)
  have kb : ∀ i, (lstep pl s b).1.getD i [] = if i = dmax pl s.2 b then s.1.getD (dmax pl s.2 b) [] ++ [b] else s.1.getD i [] := fun i => put_getD _ _ _ _ (g.dle b)
  refine ⟨?_, ?_, fun i => ?_⟩
  · show ((lstep pl s a).2.set b (dmax pl (lstep pl s a).2 b + 1)) = ((lstep pl s b).2.set a (dmax pl (lstep pl s b).2 a + 1))
    rw [e1, e2]
    show (s.2.set a _).set b _ = (s.2.set b _).set a _
    exact List.set_comm _ _ ne
  · show (put (lstep pl s a).1 (dmax pl (lstep pl s a).2 b) b).length = (put (lstep pl s b).1 (dmax pl (lstep pl s b).2 a) a).length
    rw [put_length _ _ _ (ga.dle b), put_length _ _ _ (gb.dle a), e1, e2, la, lb]
    omega
  · show ((put (lstep pl s a).1 (dmax pl (lstep pl s a).2 b) b).getD i []).Perm ((put (lstep pl s b).1 (dmax pl (lstep pl s b).2 a) a).getD i [])
    rw [put_getD _ _ _ _ (ga.dle b), put_getD _ _ _ _ (gb.dle a), e1, e2, ka, kb, ka, kb]
    by_cases x : i = dmax pl s.2 b
    · by_cases y : i = dmax pl s.2 a
      · have xy : dmax pl s.2 b = dmax pl s.2 a := x.symm.trans y
        rw [if_pos x, if_pos xy, if_pos y, if_pos xy.symm, xy, List.append_assoc, List.append_assoc]
        exact List.Perm.append_left _ (.swap _ _ _)
      · have xy : ¬ dmax pl s.2 b = dmax pl s.2 a := fun q => y (x.trans q)
        rw [if_pos x, if_neg xy, if_neg y, if_pos x]
    · by_cases y : i = dmax pl s.2 a
      · have xy : ¬ dmax pl s.2 a = dmax pl s.2 b := fun q => x (y.trans q)
        rw [if_neg x, if_pos y, if_pos y, if_neg xy]
      · rw [if_neg x, if_neg y, if_neg y, if_neg x]

theorem fold_good {m : Nat} : ∀ (w : List Nat) {s : List (List Nat) × List Nat}, Good pl m s → Full pl w → (∀ a ∈ w, a < m) → Good pl m (w.foldl (lstep pl) s)
  | [], s, g, _, _ => g
  | a :: w, s, g, fw, hw => fold_good w (g.step (hw a List.mem_cons_self) (fw a List.mem_cons_self)) (fw.sub fun b hb => List.mem_cons_of_mem _ hb) fun b hb => hw b (List.mem_cons_of_mem _ hb)
theorem fold_al {m : Nat} : ∀ (w : List Nat) {s t : List (List Nat) × List Nat}, Al s t → Good pl m s → Good pl m t → Full pl w → (∀ a ∈ w, a < m) → Al (w.foldl (lstep pl) s) (w.foldl (lstep pl) t)
  | [], s, t, h, _, _, _, _ => h
  | a :: w, s, t, h, g, g', fw, hw => by
    have ha := hw a List.mem_cons_self
    have fa := fw a List.mem_cons_self
    exact fold_al w (h.step g g' a) (g.step ha fa) (g'.step ha fa) (fw.sub fun b hb => List.mem_cons_of_mem _ hb) fun b hb => hw b (List.mem_cons_of_mem _ hb)
theorem Tr.mem {u v : List Nat} (h : Tr pl u v) : ∀ a, a ∈ u ↔ a ∈ v := by
  induction h with
  | refl u => exact fun _ => Iff.rfl
  | swap x a b y k =>
    intro c
    simp only [List.mem_append, List.mem_cons]
    constructor
    · rintro (h | h | h | h)
      · exact .inl h
      · exact .inr (.inr (.inl h))
      · exact .inr (.inl h)
      · exact .inr (.inr (.inr h))
    · rintro (h | h | h | h)
      · exact .inl h
      · exact .inr (.inr (.inl h))
      · exact .inr (.inl h)
      · exact .inr (.inr (.inr h))
  | trans _ _ h k => exact fun a => (h a).trans (k a)
theorem tr_al {m : Nat} {u v : List Nat} (h : Tr pl u v) : Full pl u → (∀ a ∈ u, a < m) → Al (lrun pl m u) (lrun pl m v) := by
  induction h with
  | refl u => exact fun _ _ => Al.refl _
  | swap x a b y k =>
    intro fu hu
    have am : a ∈ x ++ a :: b :: y := by simp
    have bm : b ∈ x ++ a :: b :: y := by simp
    have fx : Full pl x := fu.sub fun c hc => List.mem_append_left _ hc
    have hx : ∀ c ∈ x, c < m := fun c hc => hu c (List.mem_append_left _ hc)
    have fy : Full pl y := fu.sub fun c hc => by simp [hc]
    have hy : ∀ c ∈ y, c < m := fun c hc => hu c (by simp [hc])
    have g := fold_good (pl := pl) x (good0 m) fx hx
    unfold lrun
    rw [List.foldl_append, List.foldl_append, List.foldl_cons, List.foldl_cons, List.foldl_cons, List.foldl_cons]
    exact fold_al y (swap_al g (hu a am) (hu b bm) (fu a am) (fu b bm) k) ((g.step (hu a am) (fu a am)).step (hu b bm) (fu b bm)) ((g.step (hu b bm) (fu b bm)).step (hu a am) (fu a am)) fy hy
  | trans h1 h2 ih1 ih2 =>
    intro fu hu
    exact (ih1 fu hu).trans (ih2 (fu.sub fun a ha => (h1.mem a).mpr ha) fun a ha => hu a ((h1.mem a).mpr ha))
theorem al_srt {s t : List (List Nat) × List Nat} (h : Al s t) : s.1.map srt = t.1.map srt := by
  obtain ⟨_, h2, h3⟩ := h
  refine List.ext_getElem (by simp [h2]) fun i hi hj => ?_
  rw [List.length_map] at hi hj
  have := h3 i
  rw [List.getD_eq_getElem?_getD, List.getD_eq_getElem?_getD, List.getElem?_eq_getElem hi, List.getElem?_eq_getElem hj] at this
  rw [List.getElem_map, List.getElem_map]
  exact srt_congr this
/-- THE LAYERS tell the words -/
theorem layers_iff {m : Nat} {u v : List Nat} (fu : Full pl u) (hu : ∀ a ∈ u, a < m) (fv : Full pl v) (hv : ∀ a ∈ v, a < m) : layersM pl m u = layersM pl m v ↔ Sim pl u v := by
  constructor
  · intro h
    refine (layers_sim fu hu).symm.trans ?_
    rw [h]
    exact layers_sim fv hv
  · intro h
    exact al_srt (tr_al (tr_of_sim fu fv h) fu hu)
/-- THE LEAST FORMS tell the words -/
theorem lf_iff {u v o o' : List Nat} (fu : Full pl u) (fv : Full pl v) (h : Lf pl u o) (k : Lf pl v o') : o = o' ↔ Sim pl u v := by
  constructor
  · intro e
    subst e
    exact h.sim.trans k.sim.symm
  · intro e
    exact h.same fu fv k e
theorem lf_least {u o : List Nat} (fu : Full pl u) (h : Lf pl u o) : least pl (fun _ => false) o = true := h.least _ fu fun _ _ e => by cases e

end Trc

namespace Trc
variable {pl : Nat → List Nat}

/-! ## the positions of the letters that could come first -/
def firsts (pl : Nat → List Nat) (w : List Nat) : List Nat := (List.range w.length).filter fun k => !(w.take k).any fun b => dep pl b (w.getD k 0)
theorem mem_firsts {w : List Nat} {k : Nat} : k ∈ firsts pl w ↔ k < w.length ∧ ∀ b ∈ w.take k, dep pl b (w.getD k 0) = false := by
  simp [firsts]
theorem firsts_zero {w : List Nat} (h : w ≠ []) : 0 ∈ firsts pl w := by
  rw [mem_firsts]
  refine ⟨List.length_pos_iff.mpr h, fun b hb => ?_⟩
  simp at hb
theorem split_at {w : List Nat} {k : Nat} (h : k < w.length) : w = w.take k ++ w.getD k 0 :: w.drop (k + 1) := by
  have e : w.getD k 0 = w[k] := by
    rw [List.getD_eq_getElem?_getD, List.getElem?_eq_getElem h]
    rfl
  rw [e, List.getElem_cons_drop]
  exact (List.take_append_drop k w).symm
theorem lf_pick {w o : List Nat} {k : Nat} (fw : Full pl w) (hk : k ∈ firsts pl w) (hm : ∀ j ∈ firsts pl w, w.getD k 0 ≤ w.getD j 0) (h : Lf pl (w.eraseIdx k) o) : Lf pl w (w.getD k 0 :: o) := by
  obtain ⟨k1, k2⟩ := mem_firsts.mp hk
  have e := split_at k1
  have el : w.eraseIdx k = w.take k ++ w.drop (k + 1) := List.eraseIdx_eq_take_drop_succ w k
  rw [el] at h
  have h1 : ∀ b ∈ w.take k, dep pl (w.getD k 0) b = false := fun b hb => by
    rw [dep_symm]
    exact k2 b hb
  have h2 : ∀ c ∈ w, Avail pl w c → w.getD k 0 ≤ c := fun c hc av => by
    obtain ⟨x, y, e2, _, hx⟩ := avail_split (fw c hc) av
    have g : w.getD x.length 0 = c := by
      rw [e2]
      exact getD_at
    have m : x.length ∈ firsts pl w := by
      rw [mem_firsts, g]
      refine ⟨by rw [e2]; simp, fun b hb => ?_⟩
      have : w.take x.length = x := by rw [e2]; simp
      rw [this] at hb
      rw [dep_symm]
      exact hx b hb
    have := hm _ m
    rw [g] at this
    exact this
  generalize w.take k = x at *
  generalize w.drop (k + 1) = y at *
  generalize w.getD k 0 = a at *
  subst e
  exact .step h1 h2 h

/-! ## bits -/
theorem sub_and_bit : ∀ (i a m : Nat), (a - (a &&& m)).testBit i = (a.testBit i && !m.testBit i)
  | i, a, m => by
    have d : (a &&& m) / 2 = a / 2 &&& m / 2 := Nat.and_div_two
    have le2 : (a / 2 &&& m / 2) ≤ a / 2 := Nat.and_le_left
    have md : (a &&& m) % 2 = if a % 2 = 1 ∧ m % 2 = 1 then 1 else 0 := by
      have := @Nat.and_mod_two_eq_one a m
      split <;> omega
    cases i with
    | zero =>
      rw [Nat.testBit_zero, Nat.testBit_zero, Nat.testBit_zero]
      have : (a - (a &&& m)) % 2 = 1 ↔ a % 2 = 1 ∧ ¬ m % 2 = 1 := by
        split at md <;> omega
      rw [Bool.eq_iff_iff]
      simp [this]
    | succ i =>
      rw [Nat.testBit_succ, Nat.testBit_succ, Nat.testBit_succ, ← sub_and_bit i (a / 2) (m / 2)]
      congr 1
      split at md <;> omega

/-- the dependent letters of a, as a number -/
def maskTo (pl : Nat → List Nat) (a : Nat) : Nat → Nat
  | 0 => 0
  | b + 1 => if dep pl a b = true then maskTo pl a b ||| 2 ^ b else maskTo pl a b
theorem maskTo_bit (a c : Nat) : ∀ b, (maskTo pl a b).testBit c = (decide (c < b) && dep pl a c)
  | 0 => by simp [maskTo]
  | b + 1 => by
    have ih := maskTo_bit a c b
    unfold maskTo
    by_cases e : c = b
    · subst e
      split
      · rename_i h
        rw [Nat.testBit_or, ih, Nat.testBit_two_pow_self, h]
        simp
      · rename_i h
        rw [ih]
        simp [h]
    · have : decide (c < b + 1) = decide (c < b) := by
        rw [Bool.eq_iff_iff]
        simp
        omega
      rw [this]
      split
      · rw [Nat.testBit_or, ih, Nat.testBit_two_pow_of_ne (fun q => e q.symm)]
        simp
      · exact ih
theorem lesser_bit (l c : Nat) : (2 ^ l - 1).testBit c = decide (c < l) := Nat.testBit_two_pow_sub_one ..
/-- the place words decide -/
def same (pl : Nat → List Nat) (k : Nat) (u v : List Nat) : Bool := (List.range k).all fun p => decide (proj pl p u = proj pl p v)
theorem same_iff {k : Nat} {u v : List Nat} (hu : ∀ a ∈ u, ∀ p ∈ pl a, p < k) (hv : ∀ a ∈ v, ∀ p ∈ pl a, p < k) : same pl k u v = true ↔ Sim pl u v := by
  unfold same
  rw [List.all_eq_true]
  constructor
  · intro h p
    by_cases hp : p < k
    · exact of_decide_eq_true (h p (List.mem_range.mpr hp))
    · rw [proj_none fun b hb q => hp (hu b hb p q), proj_none fun b hb q => hp (hv b hb p q)]
  · intro h p _
    exact decide_eq_true (h p)
theorem same_symm {k : Nat} {u v : List Nat} (h : same pl k u v = true) : same pl k v u = true := by
  unfold same at *
  rw [List.all_eq_true] at *
  intro p hp
  exact decide_eq_true (of_decide_eq_true (h p hp)).symm

end Trc

namespace Trc
variable {pl : Nat → List Nat}
theorem take_eq_of_first {x x' y y' : List Nat} {a : Nat} (e : x ++ a :: y = x' ++ a :: y') (h : a ∉ x) (h' : a ∉ x') : x = x' ∧ y = y' := by
  induction x generalizing x' with
  | nil =>
    cases x' with
    | nil => exact ⟨rfl, by simpa using e⟩
    | cons b x' =>
      have : a = b := by simpa using (List.cons.inj e).1
      exact absurd (by rw [this]; exact List.mem_cons_self) h'
  | cons c x ih =>
    cases x' with
    | nil =>
      have : c = a := by simpa using (List.cons.inj e).1
      exact absurd (by rw [this]; exact List.mem_cons_self) h
    | cons b x' =>
      obtain ⟨e1, e2⟩ := List.cons.inj (by simpa using e : c :: (x ++ a :: y) = b :: (x' ++ a :: y'))
      obtain ⟨q1, q2⟩ := ih e2 (fun z => h (List.mem_cons_of_mem _ z)) (fun z => h' (List.mem_cons_of_mem _ z))
      exact ⟨by rw [e1, q1], q2⟩
/-- the letter that the loop of swaps has found -/
theorem first_at {r v : List Nat} {a j : Nat} (ha : pl a ≠ []) (h : Sim pl r (a :: v)) (hj : r[j]? = some a) (hno : ∀ i, i < j → r[i]? ≠ some a) : ∃ x y, r = x ++ a :: y ∧ x.length = j ∧ (∀ b ∈ x, dep pl a b = false) ∧ Sim pl (x ++ y) v := by
  obtain ⟨x, y, e, h1, h2, h3⟩ := front ha h
  refine ⟨x, y, e, ?_, h2, h3⟩
  have g : r[x.length]? = some a := by rw [e]; simp
  rcases Nat.lt_trichotomy x.length j with q | q | q
  · exact absurd g (hno _ q)
  · exact q
  · have : x[j]? = some a := by
      rw [e, List.getElem?_append_left q] at hj
      exact hj
    exact absurd (List.mem_of_getElem? this) h1
theorem first_there {r v : List Nat} {a j : Nat} (ha : pl a ≠ []) (h : Sim pl r (a :: v)) (hno : ∀ i, i < j → r[i]? ≠ some a) : j < r.length := by
  obtain ⟨x, y, e, h1, h2, h3⟩ := front ha h
  have g : r[x.length]? = some a := by rw [e]; simp
  have l : x.length < r.length := by rw [e]; simp
  rcases Nat.lt_or_ge x.length j with q | q
  · exact absurd g (hno _ q)
  · omega
end Trc

namespace Plw
open PySem L2 Trc
/-! ### The text by places -/
def top (i : Nat) : Stmt := PySem.Challenge.pw_placewords_k06_whole_forms_tell_words.main.body.getD i (.Pass ⟨0, 0, 0, 0⟩)
abbrev sFits : Stmt := top 6
abbrev sInit : Stmt := inClass (top 7) 0
abbrev sIndep : Stmt := top 8
abbrev sMasks : Stmt := top 9
abbrev sLayers : Stmt := top 11
abbrev sFirst : Stmt := top 12
abbrev sLeast : Stmt := top 13
abbrev sNext : Stmt := top 14
abbrev sIsL : Stmt := top 15
abbrev sPlaceW : Stmt := top 17
abbrev sEquiv : Stmt := top 18
abbrev sSwaps : Stmt := top 19
abbrev sSwapped : Stmt := top 20
abbrev sDraws : Stmt := top 22
abbrev sTake : Stmt := top 23
abbrev sAlph : Stmt := top 24
abbrev sFree : Stmt := top 25
abbrev sWord : Stmt := top 26
abbrev sPlace : Stmt := top 27
abbrev sAlike : Stmt := top 28
abbrev sShuf : Stmt := top 29
abbrev sLaw : Stmt := top 30

/-! ### The data -/
/-- a natural number as a value -/
abbrev vN (n : Nat) : V := .int (n : Int)
/-- the places of a letter -/
def pls (ls : List (List Nat)) (a : Nat) : List Nat := ls.getD a []
/-- at each of these addresses the tuple of these numbers -/
def Rows (H : Hp) (rs : List Addr) (ls : List (List Nat)) : Prop := rs.length = ls.length ∧ ∀ i r, rs[i]? = some r → H r = some (.tup ((ls.getD i []).map vN))
theorem Rows.same {H H' : Hp} {rs : List Addr} {ls : List (List Nat)} (h : Rows H rs ls) (s : Same H H') : Rows H' rs ls := ⟨h.1, fun i r e => s _ _ (h.2 i r e)⟩
theorem Rows.get {H : Hp} {rs : List Addr} {ls : List (List Nat)} (h : Rows H rs ls) {i : Nat} (hi : i < ls.length) : ∃ r, rs[i]? = some r ∧ H r = some (.tup ((ls.getD i []).map vN)) := by
  have hr : i < rs.length := by rw [h.1]; exact hi
  exact ⟨rs[i], List.getElem?_eq_getElem hr, h.2 i _ (List.getElem?_eq_getElem hr)⟩
theorem Rows.nil (H : Hp) : Rows H [] [] := ⟨rfl, fun i r e => by simp at e⟩
theorem Rows.snoc {H : Hp} {rs : List Addr} {ls : List (List Nat)} {r : Addr} {l : List Nat} (h : Rows H rs ls) (e : H r = some (.tup (l.map vN))) : Rows H (rs ++ [r]) (ls ++ [l]) := by
  refine ⟨by simp [h.1], fun i q hq => ?_⟩
  by_cases hi : i < rs.length
  · rw [List.getElem?_append_left hi] at hq
    have := h.2 i q hq
    rw [List.getD_eq_getElem?_getD] at this
    rw [List.getD_eq_getElem?_getD, List.getElem?_append_left (by rw [← h.1]; exact hi)]
    exact this
  · rw [List.getElem?_append_right (by omega)] at hq
    have h0 : i - rs.length = 0 := by
      rcases Nat.eq_zero_or_pos (i - rs.length) with z | z
      · exact z
      · rw [List.getElem?_eq_none (by simp; omega)] at hq
        cases hq
    rw [h0] at hq
    have : r = q := by simpa using hq
    rw [List.getD_eq_getElem?_getD, List.getElem?_append_right (by rw [← h.1]; omega), ← h.1, h0, ← this]
    simpa using e
/-- the alphabets that are not refused -/
structure AlOk (k : Nat) (ls : List (List Nat)) : Prop where
  k1 : 1 ≤ k
  k4 : k ≤ 4
  m1 : 1 ≤ ls.length
  m6 : ls.length ≤ 6
  ne : ∀ l ∈ ls, l ≠ []
  up : ∀ l ∈ ls, l.Pairwise (· < ·)
  lt : ∀ l ∈ ls, ∀ p ∈ l, p < k
theorem pls_mem {ls : List (List Nat)} {a : Nat} (h : a < ls.length) : pls ls a ∈ ls := by
  unfold pls
  rw [List.getD_eq_getElem?_getD, List.getElem?_eq_getElem h]
  exact List.getElem_mem h
theorem AlOk.full {k : Nat} {ls : List (List Nat)} (o : AlOk k ls) {w : List Nat} (h : ∀ a ∈ w, a < ls.length) : Full (pls ls) w := fun a ha => o.ne _ (pls_mem (h a ha))
theorem AlOk.bd {k : Nat} {ls : List (List Nat)} (o : AlOk k ls) {w : List Nat} (h : ∀ a ∈ w, a < ls.length) : ∀ a ∈ w, ∀ p ∈ pls ls a, p < k := fun a ha => o.lt _ (pls_mem (h a ha))
/-- the fields of an alphabet -/
def flds (k : Nat) (t : Addr) : List (Str × V) := putF "letters" (.ref t) (putF "places" (vN k) [])
theorem f_lp : ¬ (("letters" : Str) = "places") := by decide +kernel
theorem f_pl : ¬ (("places" : Str) = "letters") := by decide +kernel
theorem flds_places (k : Nat) (t : Addr) : (flds k t).lookup ("places" : Str) = some (vN k) := by
  unfold flds
  rw [lookup_putF, if_neg f_pl, lookup_putF, if_pos rfl]
theorem flds_letters (k : Nat) (t : Addr) : (flds k t).lookup ("letters" : Str) = some (.ref t) := by
  unfold flds
  rw [lookup_putF, if_pos rfl]
/-- an alphabet at p -/
def Alp (C : Addr) (H : Hp) (p : Addr) (k : Nat) (ls : List (List Nat)) : Prop := ∃ (dx t : Addr) (rs : List Addr), H p = some (.ins C dx (flds k t)) ∧ H t = some (.tup (rs.map V.ref)) ∧ Rows H rs ls
theorem Alp.same {C : Addr} {H H' : Hp} {p : Addr} {k : Nat} {ls : List (List Nat)} (h : Alp C H p k ls) (s : Same H H') : Alp C H' p k ls := by
  obtain ⟨dx, t, rs, h1, h2, h3⟩ := h
  exact ⟨dx, t, rs, s _ _ h1, s _ _ h2, h3.same s⟩
/-- what the top says of the class and of the built-ins -/
structure Txt (K : PySem.W.Frag) (mg : Str → Option Value) (C : Addr) : Prop where
  cl : Cls K C
  nP : NoAttr K C "places"
  nL : NoAttr K C "letters"
  mgC : mg "Alphabet" = some (.ref C)
  len : mg "len" = none
  range : mg "range" = none
  tuple : mg "tuple" = none
  list : mg "list" = none
  int : mg "int" = none
  sorted : mg "sorted" = none
  set : mg "set" = none
  max : mg "max" = none
  mp : ∃ t, mg "MOST_PLACES" = some (.int 4 t)
  ml : ∃ t, mg "MOST_LETTERS" = some (.int 6 t)
/-- what tuple(..) asks -/
def rTupOf (K : PySem.W.Frag) : List V → Hp → VK → Prop := fun xs H Q => ∃ p ys, xs = [.ref p] ∧ ((SqL K H p ys ∧ ∀ l, H l = none → Q (.ref l) (upd H l (.tup ys))) ∨ (SqT K H p ys ∧ Q (.ref p) H))
theorem cr_tupOf {X : Cx} {K : PySem.W.Frag} (e : X.K = K) : CallR X (.type "tuple") (rTupOf K) := by
  subst e
  exact call_tuple_of
/-- all that stood elsewhere stands -/
def But (p : Addr) (H H' : Hp) : Prop := ∀ b o, b ≠ p → H b = some o → H' b = some o
theorem seqT {K : PySem.W.Frag} {H : Hp} {a : Addr} {xs : List V} (h : H a = some (.tup xs)) : SqT K H a xs := .inl (.inl h)
theorem same_upd {H : Hp} {p : Addr} {o : HO} (h : H p = none) : Same H (upd H p o) := fun b u e => by
  rw [upd_ne (ne_of_none e h)]
  exact e
theorem vN_at {xs : List Nat} {i a : Nat} (h : xs[i]? = some a) : (xs.map vN)[i]? = some (vN a) := by
  rw [List.getElem?_map, h]
  rfl
theorem small {n : Nat} (h : n ≤ 1000) : n ≤ sizeLine := Nat.le_of_lt (Nat.lt_of_le_of_lt h (by decide))
theorem flat_vN (l : List Nat) : (l.map vN).all flatV = true := by
  rw [List.all_eq_true]
  intro x hx
  obtain ⟨n, _, rfl⟩ := List.mem_map.mp hx
  rfl
theorem ref_at {rs : List Addr} {i : Nat} {x : V} (h : (rs.map V.ref)[i]? = some x) : ∃ r, rs[i]? = some r ∧ x = .ref r := by
  rw [List.getElem?_map] at h
  cases e : rs[i]? with
  | none => rw [e] at h; cases h
  | some r => rw [e] at h; exact ⟨r, rfl, (Option.some.inj h).symm⟩
theorem inV_vN (p : Nat) (l : List Nat) : inV (vN p) (l.map vN) = l.contains p := by
  unfold inV
  rw [List.any_map]
  rw [Bool.eq_iff_iff, List.any_eq_true, List.contains_iff_mem]
  constructor
  · rintro ⟨x, hx, e⟩
    have : x = p := by
      have e' : eqV (vN x) (vN p) = true := e
      have e2 : (x : Int) = (p : Int) := by simpa [eqV] using e'
      omega
    rw [← this]
    exact hx
  · intro h
    exact ⟨p, h, by simp [eqV]⟩
end Plw

set_option maxHeartbeats 4000000
namespace Plw
open PySem L2 Trc
def spIndep (C : Addr) : Sp := fun vs H Q _ => ∃ (p : Addr) (k : Nat) (ls : List (List Nat)) (a b : Nat), vs = [.ref p, vN a, vN b] ∧ Alp C H p k ls ∧ a < ls.length ∧ b < ls.length ∧ Q (.bl (!dep (pls ls) a b)) H
section
variable {P : Program} {w : World} {K : PySem.W.Frag} {mg : Str → Option Value} {base : Heap}
theorem scIndep : FnScope ["alphabet", "first", "second", "place"] ["alphabet", "first", "second"] (defScope sIndep) := ⟨rfl, rfl, rfl, by decide +kernel, rfl, by decide +kernel, by decide +kernel⟩
theorem ok_indep {f C : Addr} {fd : FuncData} (F : Fun K "independent" "independent" sIndep f fd) (T : Txt K mg C) : FnOk P w K mg base CX0 1 f fd ["alphabet", "first", "second"] (spIndep C) := by
  refine F.ok scIndep (fun vs H Q E h => ?_) (fun cdv A outer s H vs Q E hr h => ?_)
  · obtain ⟨p, k, ls, a, b, rfl, _⟩ := h
    rfl
  · obtain ⟨p, k, ls, a, b, rfl, al, ha, hb, q⟩ := h
    obtain ⟨dx, t, rs, h1, h2, h3⟩ := id al
    obtain ⟨ra, ea, ta⟩ := h3.get ha
    obtain ⟨rb, eb, tb⟩ := h3.get hb
    have ixa : atI (rs.map V.ref) (a : Int) = some (.ref ra) := atI_nat (by rw [List.getElem?_map, ea]; rfl)
    have ixb : atI (rs.map V.ref) (b : Int) = some (.ref rb) := atI_nat (by rw [List.getElem?_map, eb]; rfl)
    refine ⟨_, pss_cons (ps_for PassesOwn.never rfl (pi_tup (pe_ix ix_tup (pe_fld (pv 0) rfl) (pv 1) (fun _ _ => rfl))) (pg_name (i := 3) scIndep.nd rfl (Or.inl rfl))
        (pss_one (ps_if (pt_cmpR op_in_seq (pv 3) (pe_ix ix_tup (pe_fld (pv 0) rfl) (pv 2) (fun _ _ => rfl)) rfl) (pss_one (ps_ret pe_bl)) pss_nil)))
      (pss_one (ps_ret pe_bl)), ?_⟩
    refine ⟨_, rfl, p, C, dx, _, _, rfl, h1, T.cl, T.nL, flds_letters _ _, _, rfl, t, _, _, _, rfl, rfl, seqT h2, ixa, ra, rfl, ⟨_, seqT ta⟩,
      for_tup (K := K) (a := ra) (xs := (ls.getD a []).map vN) (fun i σ H' => H' = H ∧ (∃ v, σ = [some (.ref p), some (vN a), some (vN b), v]) ∧ ∀ x ∈ (ls.getD a []).take i, (ls.getD b []).contains x = false)
        ⟨rfl, ⟨none, rfl⟩, by simp⟩ (fun i σ H' _ hh => hh.1 ▸ seqT ta) ?_ ?_⟩
    · rintro i x σ H' hi ⟨rfl, ⟨v, rfl⟩, hno⟩
      obtain ⟨n, hn, rfl⟩ : ∃ n, (ls.getD a [])[i]? = some n ∧ x = vN n := by
        rw [List.getElem?_map] at hi
        cases e : (ls.getD a [])[i]? with
        | none => rw [e] at hi; cases hi
        | some n => rw [e] at hi; exact ⟨n, rfl, (Option.some.inj hi).symm⟩
      refine ⟨_, rfl, _, rfl, p, C, dx, _, _, rfl, h1, T.cl, T.nL, flds_letters _ _, _, rfl, t, _, _, _, rfl, rfl, seqT h2, ixb, rb, _, rfl, .inr (seqT tb), rfl, flat_vN _, _, rfl, ?_⟩
      show if inV (vN n) ((ls.getD b []).map vN) = true then _ else _
      rw [inV_vN]
      cases e : (ls.getD b []).contains n with
      | true =>
        refine iteT ?_
        have : dep (pls ls) a b = true := dep_iff.mpr ⟨n, List.mem_of_getElem? hn, List.contains_iff_mem.mp e⟩
        rw [this] at q
        exact q
      | false =>
        refine iteF ⟨rfl, ⟨_, rfl⟩, fun y hy => ?_⟩
        rw [List.take_add_one, hn] at hy
        rcases List.mem_append.mp hy with z | z
        · exact hno y z
        · have : y = n := by simpa using z
          rw [this]
          exact e
    · rintro σ H' ⟨rfl, ⟨v, rfl⟩, hno⟩
      have : dep (pls ls) a b = false := dep_false.mpr fun x hx hxb => by
        have z := hno x (by rw [List.length_map, List.take_length]; exact hx)
        have y : (ls.getD b []).contains x = true := List.contains_iff_mem.mpr hxb
        rw [y] at z
        cases z
      rw [this] at q
      exact q
end
end Plw

set_option maxHeartbeats 4000000
namespace Plw
open PySem L2 Trc
def spFits : Sp := fun vs H Q _ => ∃ (r : Addr) (k : Nat) (l : List Nat), vs = [.ref r, vN k] ∧ H r = some (.tup (l.map vN)) ∧ l ≠ [] ∧ l.length ≤ 1000 ∧ l.Pairwise (· < ·) ∧ (∀ p ∈ l, p < k) ∧ Q (.bl true) H
section
variable {P : Program} {w : World} {K : PySem.W.Frag} {mg : Str → Option Value} {base : Heap}
theorem scFits : FnScope ["letter", "places", "k"] ["letter", "places"] (defScope sFits) := ⟨rfl, rfl, rfl, by decide +kernel, rfl, by decide +kernel, by decide +kernel⟩
theorem ok_fits {f C : Addr} {fd : FuncData} (F : Fun K "fits" "fits" sFits f fd) (T : Txt K mg C) : FnOk P w K mg base CX0 1 f fd ["letter", "places"] spFits := by
  refine F.ok scFits (fun vs H Q E h => ?_) (fun cdv A outer s H vs Q E hr h => ?_)
  · obtain ⟨r, k, l, rfl, _⟩ := h
    rfl
  · obtain ⟨r, k, l, rfl, hr1, hne, hlen, hup, hlt, q⟩ := h
    have hpos : 0 < l.length := List.length_pos_iff.mpr hne
    have ix : ∀ i, i < l.length → atI (l.map vN) (i : Int) = some (vN (l.getD i 0)) := fun i hi => atI_nat (vN_at (by rw [List.getD_eq_getElem?_getD, List.getElem?_eq_getElem hi]; rfl))
    refine ⟨_, pss_cons (ps_if (pt_cmpR op_eq (pe_callB call_len_seq (by rfl) T.len PySem.boot_len (pa_cons (pv 0) pa_nil)) pe_int (nomark _)) (pss_one (ps_ret pe_bl)) pss_nil)
      (pss_cons (ps_for PassesOwn.never rfl (pi_range1 rfl T.range (pa_cons (pe_callB call_len_seq (by rfl) T.len PySem.boot_len (pa_cons (pv 0) pa_nil)) pa_nil)) (pg_name (i := 2) scFits.nd rfl (Or.inl rfl))
        (pss_one (ps_if (PW.pt (pw_or (pt_cmpR op_lt (pe_ix ix_tup (pv 0) (pv 2) (fun _ _ => rfl)) pe_int (nomark _))
            (pw_or (pt_cmpR op_ge (pe_ix ix_tup (pv 0) (pv 2) (fun _ _ => rfl)) (pv 1) (nomark _))
              (pw_or1 (PW.pt (pw_and (pt_cmpR op_gt (pv 2) pe_int (nomark _)) (pw_and1 (pt_cmpR op_le (pe_ix ix_tup (pv 0) (pv 2) (fun _ _ => rfl)) (pe_ix ix_tup (pv 0) (pe_op op_sub (pv 2) pe_int) (fun _ _ => rfl)) (nomark _))))))))) (pss_one (ps_ret pe_bl)) pss_nil)))
      (pss_one (ps_ret pe_bl))), ?_⟩
    refine ⟨_, rfl, r, _, rfl, .inr (seqT hr1), rfl, _, rfl, ?_⟩
    have e0 : decide (V.int (((l.map vN).length : Nat) : Int) = V.int 0) = false := decide_eq_false fun e => by
      injection e with e
      rw [List.length_map] at e
      omega
    rw [e0]
    refine iteF ?_
    refine ⟨_, rfl, r, _, rfl, .inr (seqT hr1), _, rfl, by rw [List.length_map]; omega, by rw [List.length_map]; omega,
      for_range (fun i σ H' => H' = H ∧ ∃ v, σ = [some (.ref r), some (vN k), v]) ⟨rfl, none, rfl⟩ ?_ ?_⟩
    · rintro i σ H' hi ⟨rfl, v, rfl⟩
      have hi' : i < l.length := by rw [List.length_map] at hi; omega
      have hm : l.getD i 0 ∈ l := by
        rw [List.getD_eq_getElem?_getD, List.getElem?_eq_getElem hi']
        exact List.getElem_mem hi'
      have e1 : (0 : Int) + (i : Int) = (i : Int) := Int.zero_add _
      rw [e1]
      refine ⟨_, rfl, _, rfl, r, _, _, _, rfl, rfl, seqT hr1, ix i hi', _, _, rfl, rfl, _, rfl, ?_⟩
      rw [decide_eq_false (by omega)]
      refine iteF ⟨_, rfl, _, rfl, r, _, _, _, rfl, rfl, seqT hr1, ix i hi', _, rfl, _, _, rfl, rfl, _, rfl, ?_⟩
      have hk := hlt _ hm
      rw [decide_eq_false (by omega)]
      refine iteF ⟨_, rfl, _, _, rfl, rfl, _, rfl, ?_⟩
      by_cases hz : 0 < i
      · rw [decide_eq_true (by omega)]
        have ixm : atI (l.map vN) ((i : Int) - 1) = some (vN (l.getD (i - 1) 0)) := by
          have : (i : Int) - 1 = ((i - 1 : Nat) : Int) := by omega
          rw [this]
          exact ix _ (by omega)
        refine iteT ⟨_, rfl, _, rfl, r, _, _, _, rfl, rfl, seqT hr1, ix i hi', _, rfl, _, rfl, _, _, rfl, rfl, r, _, _, _, rfl, rfl, seqT hr1, ixm, _, _, rfl, rfl, _, rfl, ?_⟩
        · have hp := List.pairwise_iff_getElem.mp hup (i - 1) i (by omega) hi' (by omega)
          have g1 : l.getD i 0 = l[i] := by rw [List.getD_eq_getElem?_getD, List.getElem?_eq_getElem hi']; rfl
          have g2 : l.getD (i - 1) 0 = l[i - 1] := by rw [List.getD_eq_getElem?_getD, List.getElem?_eq_getElem (by omega)]; rfl
          rw [decide_eq_false (by omega)]
          exact iteF ⟨rfl, _, rfl⟩
      · rw [decide_eq_false (by omega)]
        exact iteF ⟨rfl, _, rfl⟩
    · rintro σ H' ⟨rfl, v, rfl⟩
      exact q
end
end Plw

set_option maxHeartbeats 4000000
namespace Plw
open PySem L2 Trc


def spInit (C : Addr) : Sp := fun vs H Q _ => ∃ (p dx a : Addr) (k : Nat) (rs : List Addr) (ls : List (List Nat)), vs = [.ref p, vN k, .ref a] ∧ H p = some (.ins C dx []) ∧ H a = some (.lst (rs.map V.ref)) ∧ Rows H rs ls ∧ AlOk k ls ∧
  ∀ H' : Hp, But p H H' → Alp C H' p k ls → Q .non H'
section
variable {P : Program} {w : World} {K : PySem.W.Frag} {mg : Str → Option Value} {base : Heap}
theorem scInit : FnScope ["self", "places", "letters", "valid", "letter"] ["self", "places", "letters"] (defScope sInit) := ⟨rfl, rfl, rfl, by decide +kernel, rfl, by decide +kernel, by decide +kernel⟩
theorem AlOk.short {k : Nat} {ls : List (List Nat)} (o : AlOk k ls) {l : List Nat} (h : l ∈ ls) : l.length ≤ 1000 := by
  have : l.length ≤ (List.range k).length := List.Nodup.length_le_of_subset ((o.up l h).imp fun h => Nat.ne_of_lt h) fun x hx => List.mem_range.mpr (o.lt l h x hx)
  rw [List.length_range] at this
  have := o.k4
  omega
theorem ok_init {f fF C : Addr} {fd fdF : FuncData} (F : Fun K "__init__" "Alphabet.__init__" sInit f fd) (T : Txt K mg C) (FF : Fun K "fits" "fits" sFits fF fdF) (bF : Binds K fdF ["letter", "places"] []) (mF : mg "fits" = some (.ref fF)) :
    FnOk P w K mg base CX0 2 f fd ["self", "places", "letters"] (spInit C) := by
  have GF : FnOk P w K mg base CX0 1 fF fdF ["letter", "places"] spFits := ok_fits FF T
  refine F.ok scInit (fun vs H Q E h => ?_) (fun cdv A outer s H vs Q E hr h => ?_)
  · obtain ⟨p, dx, a, k, rs, ls, rfl, _⟩ := h
    rfl
  · obtain ⟨p, dx, a, k, rs, ls, rfl, hp, ha, hR, hO, q⟩ := h
    obtain ⟨t4, mp⟩ := T.mp
    obtain ⟨t6, ml⟩ := T.ml
    have lenA : (rs.map V.ref).length = ls.length := by rw [List.length_map]; exact hR.1
    have npa : a ≠ p := ne_of ha hp (by intro z; cases z)
    refine ⟨_, pss_cons (ps_set (i := 3) scInit.nd rfl (Or.inl rfl) (pe_and (pe_chain op_le op_le pe_int (pv 1) (pe_glob (v := .int 4) rfl mp ⟨_, rfl⟩))
          (pe_one (pe_chain op_le op_le pe_int (pe_callB call_len_seq (by rfl) T.len PySem.boot_len (pa_cons (pv 2) pa_nil)) (pe_glob (v := .int 6) rfl ml ⟨_, rfl⟩)))))
      (pss_cons (ps_for PassesOwn.never rfl (pi_list (pv 2)) (pg_name (i := 4) scInit.nd rfl (Or.inl rfl))
        (pss_one (ps_set (i := 3) scInit.nd rfl (Or.inl rfl) (pe_and (pv 3) (pe_one (pe_call GF hr rfl mF FF.kp bF .nil pass0 (pa_cons (pv 4) (pa_cons (pv 1) pa_nil))))))))
      (pss_cons (ps_if (pt_not (pt_val (pv 3))) pss_never pss_nil)
      (pss_cons (ps_fld (pv 0) (pv 1) rfl)
      (pss_one (ps_fld (pv 0) (pe_callTy call_tuple_of (by rfl) T.tuple (by decide +kernel) (pa_cons
        (pe_lc (own := [("letter", 4)]) (g := gName 4) (tt := tYes) (te := tCB (rTupOf K) (tCons (tVar 4) tNil)) rfl scInit.nd (pi_list (pv 2)) (blkOk_by (N := ["self", "places", "letters", "valid", "letter"]) (sc := defScope sInit) (by decide +kernel))
          (fun _ _ _ _ _ => pg_name (i := 4) scInit.nd rfl (Or.inl rfl)) (fun _ _ _ _ _ => pts_nil)
          (fun _ _ _ _ _ => pe_callTy (T := "tuple") (cr_tupOf rfl) (by rfl) T.tuple (by decide +kernel) (pa_cons (pv 4) pa_nil))) pa_nil)) rfl))))), ?_⟩
    refine ⟨_, rfl, _, _, rfl, rfl, _, rfl, ?_⟩
    have := hO.k1
    have := hO.k4
    have := hO.m1
    have := hO.m6
    rw [decide_eq_true (by omega)]
    refine iteT ⟨_, _, rfl, rfl, _, rfl, ?_⟩
    rw [decide_eq_true (by omega)]
    refine iteT ⟨_, rfl, a, _, rfl, .inl (.inl (.inl ha)), _, _, rfl, rfl, _, rfl, ?_⟩
    rw [decide_eq_true (by omega)]
    refine iteT ⟨_, _, rfl, rfl, ?_⟩
    have e6 : decide ((((rs.map V.ref).length : Nat) : Int) ≤ 6) = true := decide_eq_true (by omega)
    refine ⟨_, rfl, a, rfl, ⟨_, .inl (.inl ha)⟩, for_list (K := K) (a := a) (xs := rs.map V.ref) (fun i σ H' => H' = H ∧ ∃ v, σ = [some (.ref p), some (vN k), some (.ref a), some (.bl true), v])
      ⟨rfl, none, by
        show [some (V.ref p), some (vN k), some (V.ref a), some (V.bl (decide ((((rs.map V.ref).length : Nat) : Int) ≤ 6))), none] = _
        rw [e6]⟩ (fun i σ H' _ hh => hh.1 ▸ .inl (.inl ha)) ?_ ?_⟩
    · rintro i x σ H' hi ⟨rfl, v, rfl⟩
      obtain ⟨r, hr1, rfl⟩ := ref_at hi
      have hi' : i < ls.length := by rw [← hR.1]; exact (List.getElem?_eq_some_iff.mp hr1).1
      have hm : ls.getD i [] ∈ ls := pls_mem hi'
      refine ⟨_, rfl, _, rfl, iteT ⟨_, rfl, _, rfl, r, k, _, rfl, hR.2 i r hr1, hO.ne _ hm, hO.short hm, hO.up _ hm, hO.lt _ hm, rfl, _, rfl⟩⟩
    · rintro σ H' ⟨rfl, v, rfl⟩
      refine ⟨_, rfl, _, rfl, iteF ?_⟩
      refine ⟨_, rfl, _, rfl, p, C, dx, _, rfl, hp, T.cl, T.nP, (by show 0 < 1000; decide), ?_⟩
      have ha1 : upd H' p (.ins C dx (putF "places" (vN k) [])) a = some (.lst (rs.map V.ref)) := by rw [upd_ne npa]; exact ha
      refine ⟨_, rfl, a, rfl, ⟨_, .inl (.inl ha1)⟩, fun D hD => ?_⟩
      have npD : p ≠ D := fun z => by rw [z, upd_same] at hD; cases hD
      have naD : a ≠ D := ne_of_none ha1 hD
      refine lc_list (K := K) (a := a) (xs := rs.map V.ref) (fun i H2 => Same (upd H' p (.ins C dx (putF "places" (vN k) []))) H2 ∧ H2 D = some (.lst ((rs.take i).map V.ref)))
        ⟨same_upd hD, upd_same⟩ (fun i H2 _ hh => .inl (.inl (hh.1 _ _ ha1))) ?_ ?_
      · rintro i x H2 hi ⟨s2, d2⟩
        obtain ⟨r, hr1, rfl⟩ := ref_at hi
        have hrp : r ≠ p := ne_of (hR.2 i r hr1) hp (by intro z; cases z)
        have hr2 : H2 r = some (.tup ((ls.getD i []).map vN)) := s2 _ _ (by rw [upd_ne hrp]; exact hR.2 i r hr1)
        have hlen : rs.length ≤ 6 := by rw [hR.1]; omega
        refine ⟨rfl, _, rfl, r, _, rfl, .inr ⟨seqT hr2, _, d2, ?_, ?_, ?_⟩⟩
        · rw [List.length_map, List.length_take]
          exact small1000 (by omega)
        · exact fun b o e => by
            have nb : b ≠ D := ne_of_none e hD
            rw [upd_ne nb]
            exact s2 _ _ e
        · rw [upd_same, List.take_add_one, hr1]
          simp
      · rintro H2 ⟨s2, d2⟩
        rw [List.length_map, List.take_length] at d2
        refine ⟨D, _, rfl, .inl ⟨.inl (.inl d2), fun l hl => ?_⟩⟩
        have npl : p ≠ l := ne_of_none (s2 _ _ upd_same) hl
        refine ⟨_, rfl, p, C, dx, _, rfl, Eq.trans (upd_ne npl) (s2 _ _ upd_same), T.cl, T.nL, (by show 1 < 1000; decide), ?_⟩
        have big : But p H' (upd (upd H2 l (.tup (rs.map V.ref))) p (.ins C dx (putF "letters" (.ref l) (putF "places" (vN k) [])))) := fun b o nb e => by
          have e1 : upd H' p (.ins C dx (putF "places" (vN k) [])) b = some o := by rw [upd_ne nb]; exact e
          have e2 := s2 _ _ e1
          rw [upd_ne nb, upd_ne (ne_of_none e2 hl)]
          exact e2
        refine q _ big ⟨dx, l, rs, upd_same, ?_, hR.1, fun i r e => ?_⟩
        · rw [upd_ne npl.symm, upd_same]
        · exact big _ _ (ne_of (hR.2 i r e) hp (by intro z; cases z)) (hR.2 i r e)
end
end Plw

set_option maxHeartbeats 4000000
namespace Plw
open PySem L2 Trc
/-- the masks, as values -/
def masksV (ls : List (List Nat)) : List V := (List.range ls.length).map fun a => vN (maskTo (pls ls) a ls.length)
theorem masksV_len (ls : List (List Nat)) : (masksV ls).length = ls.length := by simp [masksV]
theorem masksV_at {ls : List (List Nat)} {a : Nat} (h : a < ls.length) : atI (masksV ls) (a : Int) = some (vN (maskTo (pls ls) a ls.length)) := atI_nat (by
  unfold masksV
  rw [List.getElem?_map, List.getElem?_range h]
  rfl)
theorem or_one (m j : Nat) : Builtin.bitOr (m : Int) (1 * 2 ^ ((j : Int)).toNat) = ((m ||| 2 ^ j : Nat) : Int) := by
  have e : (1 : Int) * 2 ^ ((j : Int)).toNat = ((2 ^ j : Nat) : Int) := by
    rw [Int.one_mul, Int.toNat_natCast]
    exact (Int.natCast_pow 2 j).symm
  rw [e, Bits.bitOr_pp (Int.natCast_nonneg _) (Int.natCast_nonneg _), Int.toNat_natCast, Int.toNat_natCast]
def spMasks (C : Addr) : Sp := fun vs H Q _ => ∃ (p : Addr) (k : Nat) (ls : List (List Nat)), vs = [.ref p] ∧ Alp C H p k ls ∧ ls.length ≤ 6 ∧ ∀ H' q, Same H H' → H q = none → H' q = some (.lst (masksV ls)) → Q (.ref q) H'
section
variable {P : Program} {w : World} {K : PySem.W.Frag} {mg : Str → Option Value} {base : Heap}
theorem scMasks : FnScope ["alphabet", "found", "first", "mask", "second"] ["alphabet"] (defScope sMasks) := ⟨rfl, rfl, rfl, by decide +kernel, rfl, by decide +kernel, by decide +kernel⟩
theorem ok_masks {f fI C : Addr} {fd fdI : FuncData} (F : Fun K "masks" "masks" sMasks f fd) (T : Txt K mg C) (FI : Fun K "independent" "independent" sIndep fI fdI) (bI : Binds K fdI ["alphabet", "first", "second"] []) (mI : mg "independent" = some (.ref fI)) :
    FnOk P w K mg base CX0 2 f fd ["alphabet"] (spMasks C) := by
  have GI : FnOk P w K mg base CX0 1 fI fdI ["alphabet", "first", "second"] (spIndep C) := ok_indep FI T
  refine F.ok scMasks (fun vs H Q E h => ?_) (fun cdv A outer s H vs Q E hr h => ?_)
  · obtain ⟨p, k, ls, rfl, _⟩ := h
    rfl
  · obtain ⟨p, k, ls, rfl, al, h6, q⟩ := h
    refine ⟨_, pss_cons (ps_set (i := 1) scMasks.nd rfl (Or.inl rfl) (pe_lst pa_nil))
      (pss_cons (ps_for PassesOwn.never rfl (pi_range1 rfl T.range (pa_cons (pe_callB call_len_seq (by rfl) T.len PySem.boot_len (pa_cons (pe_fld (pv 0) rfl) pa_nil)) pa_nil)) (pg_name (i := 2) scMasks.nd rfl (Or.inl rfl))
        (pss_cons (ps_set (i := 3) scMasks.nd rfl (Or.inl rfl) pe_int)
        (pss_cons (ps_for PassesOwn.never rfl (pi_range1 rfl T.range (pa_cons (pe_callB call_len_seq (by rfl) T.len PySem.boot_len (pa_cons (pe_fld (pv 0) rfl) pa_nil)) pa_nil)) (pg_name (i := 4) scMasks.nd rfl (Or.inl rfl))
          (pss_one (ps_if (pt_not (pt_val (pe_call GI hr rfl mI FI.kp bI .nil pass0 (pa_cons (pv 0) (pa_cons (pv 2) (pa_cons (pv 4) pa_nil))))))
            (pss_one (ps_set (i := 3) scMasks.nd rfl (Or.inl rfl) (pe_op op_or (pv 3) (pe_op op_shl pe_int (pv 4))))) pss_nil)))
        (pss_one (ps_expr (pe_bm PySem.F.plainAttrs_list PySem.F.slot_list_append PySem.F.type_list_append mt_append (pv 1) (pa_cons (pv 3) pa_nil)))))))
      (pss_one (ps_ret (pv 1)))), ?_⟩
    refine ⟨Nat.zero_le _, fun l hl => ?_⟩
    have s1 : Same H (upd H l (.lst [])) := same_upd hl
    obtain ⟨dx, t, rs, h1, h2, h3⟩ := id (al.same s1)
    have lenR : (rs.map V.ref).length = ls.length := by rw [List.length_map]; exact h3.1
    refine ⟨_, rfl, p, C, dx, _, _, rfl, h1, T.cl, T.nL, flds_letters _ _, t, _, rfl, .inr (seqT h2), _, rfl, by omega, by omega,
      for_range (fun i σ H' => Same H H' ∧ H' l = some (.lst ((masksV ls).take i)) ∧ ∃ v2 v3 v4, σ = [some (.ref p), some (.ref l), v2, v3, v4]) ⟨s1, upd_same, none, none, none, rfl⟩ ?_ ?_⟩
    · rintro i σ H' hi ⟨s2, hl2, v2, v3, v4, rfl⟩
      have hi' : i < ls.length := by omega
      obtain ⟨dx, t, rs, h1, h2, h3⟩ := id (al.same s2)
      have lenR : (rs.map V.ref).length = ls.length := by rw [List.length_map]; exact h3.1
      have e1 : (0 : Int) + (i : Int) = (i : Int) := Int.zero_add _
      rw [e1]
      refine ⟨_, rfl, p, C, dx, _, _, rfl, h1, T.cl, T.nL, flds_letters _ _, t, _, rfl, .inr (seqT h2), _, rfl, by omega, by omega,
        for_range (fun j σ H'' => H'' = H' ∧ ∃ v4, σ = [some (.ref p), some (.ref l), some (vN i), some (vN (maskTo (pls ls) i j)), v4]) ⟨rfl, v4, rfl⟩ ?_ ?_⟩
      · rintro j σ H'' hj ⟨rfl, v4, rfl⟩
        have hj' : j < ls.length := by omega
        have e2 : (0 : Int) + (j : Int) = (j : Int) := Int.zero_add _
        rw [e2]
        refine ⟨_, rfl, _, rfl, _, rfl, p, k, ls, i, j, rfl, al.same s2, hi', hj', _, rfl, ?_⟩
        cases e : dep (pls ls) i j with
        | true =>
          refine iteT ⟨_, rfl, _, rfl, _, _, rfl, rfl, ⟨by omega, by omega, by decide⟩, _, _, rfl, rfl, rfl, some (vN j), ?_⟩
          show [some (V.ref p), some (V.ref l), some (vN i), some (V.int (Builtin.bitOr (maskTo (pls ls) i j : Nat) (1 * 2 ^ ((j : Int)).toNat))), some (vN j)] = _
          rw [or_one]
          have : maskTo (pls ls) i (j + 1) = maskTo (pls ls) i j ||| 2 ^ j := by
            show (if dep (pls ls) i j = true then _ else _) = _
            rw [if_pos e]
          rw [this]
        | false =>
          refine iteF ⟨rfl, some (vN j), ?_⟩
          have : maskTo (pls ls) i (j + 1) = maskTo (pls ls) i j := by
            show (if dep (pls ls) i j = true then _ else _) = _
            rw [e, if_neg Bool.false_ne_true]
          rw [this]
          rfl
      · rintro σ H'' ⟨rfl, v4, rfl⟩
        have eL : ((((rs.map V.ref).length : Nat) : Int)).toNat = ls.length := by omega
        rw [eL]
        refine ⟨_, rfl, .inl ⟨rfl, _, .inl (.inl hl2)⟩, _, rfl, l, _, _, rfl, rfl, hl2, ?_, ?_, ?_, _, _, _, rfl⟩
        · rw [List.length_take]
          exact small1000 (by omega)
        · exact fun b o e => by
            rw [upd_ne (ne_of_none e hl)]
            exact s2 _ _ e
        · rw [upd_same, List.take_add_one]
          have := masksV_at hi'
          obtain ⟨z, e3, e4, _⟩ := atI_get this
          have : (masksV ls)[i]? = some (vN (maskTo (pls ls) i ls.length)) := by
            unfold masksV
            rw [List.getElem?_map, List.getElem?_range hi']
            rfl
          rw [this]
          rfl
    · rintro σ H' ⟨s2, hl2, v2, v3, v4, rfl⟩
      have eL : ((((rs.map V.ref).length : Nat) : Int)).toNat = ls.length := by omega
      rw [eL, List.take_of_length_le (by rw [masksV_len]; omega)] at hl2
      exact ⟨_, rfl, q _ _ s2 hl hl2⟩
end
end Plw

set_option maxHeartbeats 4000000
namespace Plw
open PySem L2 Trc
theorem one_shl (l : Nat) : (1 : Int) * 2 ^ ((l : Int)).toNat - 1 = ((2 ^ l - 1 : Nat) : Int) := by
  have e : (1 : Int) * 2 ^ ((l : Int)).toNat = ((2 ^ l : Nat) : Int) := by
    rw [Int.one_mul, Int.toNat_natCast]
    exact (Int.natCast_pow 2 l).symm
  have : 0 < 2 ^ l := Nat.two_pow_pos l
  rw [e]
  omega
theorem or_nat (a b : Nat) : Builtin.bitOr (a : Int) (b : Int) = ((a ||| b : Nat) : Int) := by
  rw [Bits.bitOr_pp (Int.natCast_nonneg _) (Int.natCast_nonneg _), Int.toNat_natCast, Int.toNat_natCast]
theorem and_not (a m : Nat) : Builtin.bitAnd (a : Int) (Builtin.bitNot (m : Int)) = ((a - (a &&& m) : Nat) : Int) := by
  have h1 : decide (0 ≤ (a : Int)) = true := decide_eq_true (Int.natCast_nonneg _)
  have h2 : decide (0 ≤ Builtin.bitNot (m : Int)) = false := decide_eq_false (by unfold Builtin.bitNot; omega)
  have h3 : Builtin.bitNot (Builtin.bitNot (m : Int)) = (m : Int) := by unfold Builtin.bitNot; omega
  unfold Builtin.bitAnd
  rw [h1, h2]
  show (a : Int) - (((a : Int).toNat &&& (Builtin.bitNot (Builtin.bitNot (m : Int))).toNat : Nat) : Int) = _
  rw [h3, Int.toNat_natCast, Int.toNat_natCast]
  have : (a &&& m) ≤ a := Nat.and_le_left
  omega
theorem bit_test (B l : Nat) : decide (V.int (Builtin.bitAnd ((B : Int) / 2 ^ ((l : Int)).toNat) 1) = V.int 1) = B.testBit l := by
  have e : (B : Int) / 2 ^ ((l : Int)).toNat = ((B / 2 ^ l : Nat) : Int) := by
    rw [Int.toNat_natCast, Int.natCast_ediv, Int.natCast_pow]
    rfl
  have m : Builtin.bitAnd ((B / 2 ^ l : Nat) : Int) 1 = ((B / 2 ^ l : Nat) : Int) % 2 := Bits.bitAnd_mask (x := ((B / 2 ^ l : Nat) : Int)) 1 (Int.natCast_nonneg _)
  rw [e, m, Nat.testBit_eq_decide_div_mod_eq]
  rw [Bool.eq_iff_iff, decide_eq_true_iff, decide_eq_true_iff]
  constructor
  · intro h
    injection h with h
    omega
  · intro h
    have e2 : ((B / 2 ^ l : Nat) : Int) % 2 = 1 := by omega
    rw [e2]
theorem least_congr {pl : Nat → List Nat} {m : Nat} : ∀ {w : List Nat} {B B' : Nat → Bool}, (∀ a ∈ w, a < m) → (∀ c, c < m → B c = B' c) → least pl B w = least pl B' w
  | [], _, _, _, _ => rfl
  | l :: w, B, B', hw, h => by
    show (if B l then false else least pl (nextB pl B l) w) = (if B' l then false else least pl (nextB pl B' l) w)
    rw [h l (hw l List.mem_cons_self), least_congr (B := nextB pl B l) (B' := nextB pl B' l) (fun a ha => hw a (List.mem_cons_of_mem _ ha)) fun c hc => by simp only [nextB, h c hc]]
def spNext : Sp := fun vs H Q _ => ∃ (d : Addr) (ls : List (List Nat)) (B l : Nat), vs = [.ref d, vN B, vN l] ∧ H d = some (.lst (masksV ls)) ∧ l < ls.length ∧ ls.length ≤ 6 ∧
  ∀ B' : Nat, (∀ c, c < ls.length → B'.testBit c = nextB (pls ls) (fun c => B.testBit c) l c) → Q (vN B') H
section
variable {P : Program} {w : World} {K : PySem.W.Frag} {mg : Str → Option Value} {base : Heap}
theorem scNext : FnScope ["dependent", "barred", "letter", "lesser"] ["dependent", "barred", "letter"] (defScope sNext) := ⟨rfl, rfl, rfl, by decide +kernel, rfl, by decide +kernel, by decide +kernel⟩
theorem ok_next {f C : Addr} {fd : FuncData} (F : Fun K "next_barred" "next_barred" sNext f fd) : FnOk P w K mg base CX0 1 f fd ["dependent", "barred", "letter"] spNext := by
  refine F.ok scNext (fun vs H Q E h => ?_) (fun cdv A outer s H vs Q E hr h => ?_)
  · obtain ⟨d, ls, B, l, rfl, _⟩ := h
    rfl
  · obtain ⟨d, ls, B, l, rfl, hd, hl, h6, q⟩ := h
    refine ⟨_, pss_cons (ps_set (i := 3) scNext.nd rfl (Or.inl rfl) (pe_op op_sub (pe_op op_shl pe_int (pv 2)) pe_int))
      (pss_one (ps_ret (pe_op op_and (pe_op op_or (pv 1) (pv 3)) (pe_un un_inv (pe_ix ix_list (pv 0) (pv 2) (fun _ _ => rfl)))))), ?_⟩
    refine ⟨_, rfl, _, _, rfl, rfl, ⟨by omega, by omega, by decide⟩, _, _, rfl, rfl, _, rfl, _, rfl, _, _, rfl, rfl, _, rfl, _, rfl, d, _, _, _, rfl, rfl, .inl (.inl hd), masksV_at hl, _, rfl, _, _, rfl, rfl, ?_⟩
    have e : Builtin.bitAnd (Builtin.bitOr (B : Int) ((1 : Int) * 2 ^ ((l : Int)).toNat - 1)) (Builtin.bitNot (maskTo (pls ls) l ls.length : Nat)) = (((B ||| (2 ^ l - 1)) - ((B ||| (2 ^ l - 1)) &&& maskTo (pls ls) l ls.length) : Nat) : Int) := by
      rw [one_shl, or_nat, and_not]
    show Q (V.int (Builtin.bitAnd (Builtin.bitOr (B : Int) ((1 : Int) * 2 ^ ((l : Int)).toNat - 1)) (Builtin.bitNot (maskTo (pls ls) l ls.length : Nat)))) H
    rw [e]
    refine q _ fun c hc => ?_
    rw [sub_and_bit, Nat.testBit_or, lesser_bit, maskTo_bit]
    simp [nextB, hc]
def spIsL (C : Addr) : Sp := fun vs H Q _ => ∃ (p wa : Addr) (k : Nat) (ls : List (List Nat)) (o : List Nat), vs = [.ref p, .ref wa] ∧ Alp C H p k ls ∧ ls.length ≤ 6 ∧ H wa = some (.tup (o.map vN)) ∧ (∀ a ∈ o, a < ls.length) ∧
  least (pls ls) (fun _ => false) o = true ∧ ∀ H', Same H H' → Q (.bl true) H'
theorem scIsL : FnScope ["alphabet", "word", "dependent", "barred", "letter"] ["alphabet", "word"] (defScope sIsL) := ⟨rfl, rfl, rfl, by decide +kernel, rfl, by decide +kernel, by decide +kernel⟩
theorem vN_of {xs : List Nat} {i : Nat} {x : V} (h : (xs.map vN)[i]? = some x) : ∃ n, xs[i]? = some n ∧ x = vN n := by
  rw [List.getElem?_map] at h
  cases e : xs[i]? with
  | none => rw [e] at h; cases h
  | some r => rw [e] at h; exact ⟨r, rfl, (Option.some.inj h).symm⟩
theorem drop_at {xs : List Nat} {i n : Nat} (h : xs[i]? = some n) : xs.drop i = n :: xs.drop (i + 1) := by
  obtain ⟨hi, e⟩ := List.getElem?_eq_some_iff.mp h
  rw [← e]
  exact List.drop_eq_getElem_cons hi
theorem ok_isL {f fM fX C : Addr} {fd fdM fdX : FuncData} (F : Fun K "is_least" "is_least" sIsL f fd) (GM : FnOk P w K mg base CX0 2 fM fdM ["alphabet"] (spMasks C)) (kM : PySem.W.keepIn K (.ref fM) = true) (bM : Binds K fdM ["alphabet"] []) (mM : mg "masks" = some (.ref fM))
    (FX : Fun K "next_barred" "next_barred" sNext fX fdX) (bX : Binds K fdX ["dependent", "barred", "letter"] []) (mX : mg "next_barred" = some (.ref fX)) :
    FnOk P w K mg base CX0 3 f fd ["alphabet", "word"] (spIsL C) := by
  have GX : FnOk P w K mg base CX0 1 fX fdX ["dependent", "barred", "letter"] spNext := ok_next (C := C) FX
  refine F.ok scIsL (fun vs H Q E h => ?_) (fun cdv A outer s H vs Q E hr h => ?_)
  · obtain ⟨p, wa, k, ls, o, rfl, _⟩ := h
    rfl
  · obtain ⟨p, wa, k, ls, o, rfl, al, h6, hw, hlt, hle, q⟩ := h
    have hr1 : Room 1 _ := hr.mono (by decide)
    refine ⟨_, pss_cons (ps_set (i := 2) scIsL.nd rfl (Or.inl rfl) (pe_call GM hr rfl mM kM bM .nil pass0 (pa_cons (pv 0) pa_nil)))
      (pss_cons (ps_set (i := 3) scIsL.nd rfl (Or.inl rfl) pe_int)
      (pss_cons (ps_for PassesOwn.never rfl (pi_tup (pv 1)) (pg_name (i := 4) scIsL.nd rfl (Or.inl rfl))
        (pss_cons (ps_if (pt_cmpR op_eq (pe_op op_and (pe_op op_shr (pv 3) (pv 4)) pe_int) pe_int (nomark _)) (pss_one (ps_ret pe_bl)) pss_nil)
        (pss_one (ps_set (i := 3) scIsL.nd rfl (Or.inl rfl) (pe_call GX hr1 rfl mX FX.kp bX .nil pass0 (pa_cons (pv 2) (pa_cons (pv 3) (pa_cons (pv 4) pa_nil))))))))
      (pss_one (ps_ret pe_bl)))), ?_⟩
    refine ⟨_, rfl, p, k, ls, rfl, al, h6, fun H1 d s1 hn hd => ?_⟩
    refine ⟨_, rfl, wa, rfl, ⟨_, seqT (s1 _ _ hw)⟩, for_tup (K := K) (a := wa) (xs := o.map vN) (fun i σ H' => H' = H1 ∧ ∃ (B : Nat) (v : Option V), σ = [some (.ref p), some (.ref wa), some (.ref d), some (vN B), v] ∧ least (pls ls) (fun c => B.testBit c) (o.drop i) = true)
      ⟨rfl, 0, none, rfl, ?_⟩ (fun i σ H' _ hh => hh.1 ▸ seqT (s1 _ _ hw)) ?_ ?_⟩
    · have : (fun c => (0 : Nat).testBit c) = fun _ => false := by
        funext c
        exact Nat.zero_testBit c
      rw [this]
      exact hle
    · rintro i x σ H' hi ⟨rfl, B, v, rfl, hB⟩
      obtain ⟨a, ha, rfl⟩ := vN_of hi
      have hal : a < ls.length := hlt a (List.mem_of_getElem? ha)
      rw [drop_at ha] at hB
      have hB' : (if B.testBit a then false else least (pls ls) (nextB (pls ls) (fun c => B.testBit c) a) (o.drop (i + 1))) = true := hB
      refine ⟨_, rfl, _, rfl, _, _, rfl, rfl, by show (0 : Int) ≤ (a : Int); omega, _, _, rfl, rfl, rfl, _, rfl, ?_⟩
      show if decide (V.int (Builtin.bitAnd ((B : Int) / 2 ^ ((a : Int)).toNat) 1) = V.int 1) = true then _ else _
      rw [bit_test]
      cases e : B.testBit a with
      | true =>
        rw [e, if_pos rfl] at hB'
        cases hB'
      | false =>
        rw [e, if_neg Bool.false_ne_true] at hB'
        refine iteF ⟨_, rfl, _, rfl, _, rfl, d, ls, B, a, rfl, hd, hal, h6, fun B' hb => ⟨rfl, B', _, rfl, ?_⟩⟩
        rw [least_congr (fun c hc => hlt c (List.mem_of_mem_drop hc)) hb]
        exact hB'
    · rintro σ H' ⟨rfl, B, v, rfl, hB⟩
      exact q _ s1
end
end Plw

set_option maxHeartbeats 4000000
namespace Plw
open PySem L2 Trc
theorem bit_test0 (B l : Nat) : decide (V.int (Builtin.bitAnd ((B : Int) / 2 ^ ((l : Int)).toNat) 1) = V.int 0) = !B.testBit l := by
  have e : (B : Int) / 2 ^ ((l : Int)).toNat = ((B / 2 ^ l : Nat) : Int) := by
    rw [Int.toNat_natCast, Int.natCast_ediv, Int.natCast_pow]
    rfl
  have m : Builtin.bitAnd ((B / 2 ^ l : Nat) : Int) 1 = ((B / 2 ^ l : Nat) : Int) % 2 := Bits.bitAnd_mask (x := ((B / 2 ^ l : Nat) : Int)) 1 (Int.natCast_nonneg _)
  rw [e, m, Nat.testBit_eq_decide_div_mod_eq]
  rw [Bool.eq_iff_iff, decide_eq_true_iff, Bool.not_eq_true', decide_eq_false_iff_not]
  constructor
  · intro h
    injection h with h
    omega
  · intro h
    have e2 : ((B / 2 ^ l : Nat) : Int) % 2 = 0 := by omega
    rw [e2]
def spFirst (C : Addr) : Sp := fun vs H Q _ => ∃ (p wa : Addr) (k : Nat) (ls : List (List Nat)) (r : List Nat), vs = [.ref p, .ref wa] ∧ Alp C H p k ls ∧ ls.length ≤ 6 ∧ H wa = some (.lst (r.map vN)) ∧ (∀ a ∈ r, a < ls.length) ∧ r.length ≤ 1000 ∧
  ∀ H' q, Same H H' → H q = none → H' q = some (.lst ((firsts (pls ls) r).map vN)) → Q (.ref q) H'
section
variable {P : Program} {w : World} {K : PySem.W.Frag} {mg : Str → Option Value} {base : Heap}
theorem scFirst : FnScope ["alphabet", "word", "found", "blocked", "dependent", "k"] ["alphabet", "word"] (defScope sFirst) := ⟨rfl, rfl, rfl, by decide +kernel, rfl, by decide +kernel, by decide +kernel⟩
theorem ok_first {f fM C : Addr} {fd fdM : FuncData} (F : Fun K "first_letters" "first_letters" sFirst f fd) (T : Txt K mg C) (GM : FnOk P w K mg base CX0 2 fM fdM ["alphabet"] (spMasks C)) (kM : PySem.W.keepIn K (.ref fM) = true) (bM : Binds K fdM ["alphabet"] []) (mM : mg "masks" = some (.ref fM)) :
    FnOk P w K mg base CX0 3 f fd ["alphabet", "word"] (spFirst C) := by
  refine F.ok scFirst (fun vs H Q E h => ?_) (fun cdv A outer s H vs Q E hr h => ?_)
  · obtain ⟨p, wa, k, ls, r, rfl, _⟩ := h
    rfl
  · obtain ⟨p, wa, k, ls, r, rfl, al, h6, hw, hlt, hlen, q⟩ := h
    refine ⟨_, pss_cons (ps_set (i := 2) scFirst.nd rfl (Or.inl rfl) (pe_lst pa_nil))
      (pss_cons (ps_set (i := 3) scFirst.nd rfl (Or.inl rfl) pe_int)
      (pss_cons (ps_set (i := 4) scFirst.nd rfl (Or.inl rfl) (pe_call GM hr rfl mM kM bM .nil pass0 (pa_cons (pv 0) pa_nil)))
      (pss_cons (ps_for PassesOwn.never rfl (pi_range1 rfl T.range (pa_cons (pe_callB call_len_seq (by rfl) T.len PySem.boot_len (pa_cons (pv 1) pa_nil)) pa_nil)) (pg_name (i := 5) scFirst.nd rfl (Or.inl rfl))
        (pss_cons (ps_if (pt_cmpR op_eq (pe_op op_and (pe_op op_shr (pv 3) (pe_ix ix_list (pv 1) (pv 5) (fun _ _ => rfl))) pe_int) pe_int (nomark _))
            (pss_one (ps_expr (pe_bm PySem.F.plainAttrs_list PySem.F.slot_list_append PySem.F.type_list_append mt_append (pv 2) (pa_cons (pv 5) pa_nil)))) pss_nil)
        (pss_one (ps_set (i := 3) scFirst.nd rfl (Or.inl rfl) (pe_op op_or (pv 3) (pe_ix ix_list (pv 4) (pe_ix ix_list (pv 1) (pv 5) (fun _ _ => rfl)) (fun _ _ => rfl)))))))
      (pss_one (ps_ret (pv 2)))))), ?_⟩
    refine ⟨Nat.zero_le _, fun l hl => ?_⟩
    have s1 : Same H (upd H l (.lst [])) := same_upd hl
    refine ⟨_, rfl, p, k, ls, rfl, al.same s1, h6, fun H1 d s2 hn hd => ?_⟩
    have s3 : Same H H1 := s1.trans s2
    have hl1 : H1 l = some (.lst []) := s2 _ _ upd_same
    have nld : l ≠ d := fun z => by rw [← z, upd_same] at hn; cases hn
    have eR : ((((r.map vN).length : Nat) : Int)).toNat = r.length := by rw [List.length_map]; omega
    refine ⟨_, rfl, wa, _, rfl, .inl (.inl (.inl (s3 _ _ hw))), _, rfl, by rw [List.length_map]; omega, by rw [List.length_map]; omega,
      for_range (fun i σ H' => But l H1 H' ∧ H' l = some (.lst (((List.range i).filter fun k => !(r.take k).any fun b => dep (pls ls) b (r.getD k 0)).map vN)) ∧
        ∃ (B : Nat) (v : Option V), σ = [some (.ref p), some (.ref wa), some (.ref l), some (vN B), some (.ref d), v] ∧ ∀ c, c < ls.length → B.testBit c = (r.take i).any fun b => dep (pls ls) b c)
      ⟨fun b o _ e => e, hl1, 0, none, rfl, fun c _ => by rw [Nat.zero_testBit]; rfl⟩ ?_ ?_⟩
    · rintro i σ H' hi ⟨bt, hl2, B, v, rfl, hB⟩
      rw [eR] at hi
      have e1 : (0 : Int) + (i : Int) = (i : Int) := Int.zero_add _
      rw [e1]
      have hw' : H' wa = some (.lst (r.map vN)) := bt _ _ (ne_of_none hw hl) (s3 _ _ hw)
      have hd' : H' d = some (.lst (masksV ls)) := bt _ _ nld.symm hd
      have hg : r[i]? = some (r.getD i 0) := by rw [List.getD_eq_getElem?_getD, List.getElem?_eq_getElem hi]; rfl
      have ix : atI (r.map vN) (i : Int) = some (vN (r.getD i 0)) := atI_nat (vN_at hg)
      have ha : r.getD i 0 < ls.length := hlt _ (List.mem_of_getElem? hg)
      have next : ∀ c, c < ls.length → (B ||| maskTo (pls ls) (r.getD i 0) ls.length).testBit c = (r.take (i + 1)).any fun b => dep (pls ls) b c := fun c hc => by
        rw [Nat.testBit_or, hB c hc, maskTo_bit, List.take_add_one, hg]
        simp [hc]
      refine ⟨_, rfl, _, rfl, _, rfl, wa, _, _, _, rfl, rfl, .inl (.inl hw'), ix, _, _, rfl, rfl, by show (0 : Int) ≤ (r.getD i 0 : Nat); omega, _, _, rfl, rfl, rfl, _, rfl, ?_⟩
      show if decide (V.int (Builtin.bitAnd ((B : Int) / 2 ^ (((r.getD i 0 : Nat) : Int)).toNat) 1) = V.int 0) = true then _ else _
      rw [bit_test0, hB _ ha]
      have fl : (List.range (i + 1)).filter (fun k => !(r.take k).any fun b => dep (pls ls) b (r.getD k 0)) = (List.range i).filter (fun k => !(r.take k).any fun b => dep (pls ls) b (r.getD k 0)) ++ if (!(r.take i).any fun b => dep (pls ls) b (r.getD i 0)) = true then [i] else [] := by
        rw [List.range_succ, List.filter_append]
        congr 1
        simp only [List.filter_cons, List.filter_nil]
      have eB : V.int (Builtin.bitOr (B : Int) ((maskTo (pls ls) (r.getD i 0) ls.length : Nat) : Int)) = vN (B ||| maskTo (pls ls) (r.getD i 0) ls.length) := by rw [or_nat]
      cases e : (!(r.take i).any fun b => dep (pls ls) b (r.getD i 0)) with
      | true =>
        rw [e, if_pos rfl] at fl
        refine iteT ⟨_, rfl, .inl ⟨rfl, _, .inl (.inl hl2)⟩, _, rfl, l, _, _, rfl, rfl, hl2, ?_, ?_⟩
        · rw [List.length_map]
          refine small1000 ?_
          have := List.length_filter_le (fun k => !(r.take k).any fun b => dep (pls ls) b (r.getD k 0)) (List.range i)
          rw [List.length_range] at this
          omega
        · have nwl : wa ≠ l := ne_of_none hw hl
          have hw2 : ∀ {o}, upd H' l o wa = some (.lst (r.map vN)) := by intro o; rw [upd_ne nwl]; exact hw'
          have hd2 : ∀ {o}, upd H' l o d = some (.lst (masksV ls)) := by intro o; rw [upd_ne nld.symm]; exact hd'
          refine ⟨_, rfl, _, rfl, _, rfl, _, rfl, wa, _, _, _, rfl, rfl, .inl (.inl hw2), ix, d, _, _, _, rfl, rfl, .inl (.inl hd2), masksV_at ha, _, _, rfl, rfl, fun b o nb z => ?_, ?_, _, some (vN i), ?_, next⟩
          · rw [upd_ne nb]
            exact bt b o nb z
          · rw [upd_same, fl, List.map_append]
            rfl
          · show [some (V.ref p), some (V.ref wa), some (V.ref l), some (V.int (Builtin.bitOr (B : Int) ((maskTo (pls ls) (r.getD i 0) ls.length : Nat) : Int))), some (V.ref d), some (vN i)] = _
            rw [eB]
      | false =>
        rw [e, if_neg Bool.false_ne_true, List.append_nil] at fl
        refine iteF ⟨_, rfl, _, rfl, _, rfl, _, rfl, wa, _, _, _, rfl, rfl, .inl (.inl hw'), ix, d, _, _, _, rfl, rfl, .inl (.inl hd'), masksV_at ha, _, _, rfl, rfl, bt, ?_, _, some (vN i), ?_, next⟩
        · rw [fl]
          exact hl2
        · show [some (V.ref p), some (V.ref wa), some (V.ref l), some (V.int (Builtin.bitOr (B : Int) ((maskTo (pls ls) (r.getD i 0) ls.length : Nat) : Int))), some (V.ref d), some (vN i)] = _
          rw [eB]
    · rintro σ H' ⟨bt, hl2, B, v, rfl, hB⟩
      rw [eR] at hl2
      exact ⟨_, rfl, q _ _ (fun b o e => bt b o (ne_of_none e hl) (s3 _ _ e)) hl hl2⟩
end
end Plw

set_option maxHeartbeats 4000000
namespace Plw
open PySem L2 Trc
theorem ixn {n j : Nat} (h : j < n) : ixN n (j : Int) = some j := by
  unfold ixN
  rw [if_pos (by omega), if_pos (by omega)]
  simp
theorem seqn {n j : Nat} (h : j < n) : seqIndex? (j : Int) n = some j := (ixN_seq (ixn h)).1
theorem erase_vN (l : List Nat) (j : Nat) : (l.map vN).eraseIdx j = (l.eraseIdx j).map vN := by
  rw [List.eraseIdx_eq_take_drop_succ, List.eraseIdx_eq_take_drop_succ, List.map_append, List.map_take, List.map_drop]
theorem gd {l : List Nat} {i : Nat} (h : i < l.length) : l[i]? = some (l.getD i 0) := by
  rw [List.getD_eq_getElem?_getD, List.getElem?_eq_getElem h]
  rfl
theorem gd_mem {l : List Nat} {i : Nat} (h : i < l.length) : l.getD i 0 ∈ l := List.mem_of_getElem? (gd h)
theorem ix_vN {l : List Nat} {i : Nat} (h : i < l.length) : atI (l.map vN) (i : Int) = some (vN (l.getD i 0)) := atI_nat (vN_at (gd h))
def spLeast (C : Addr) : Sp := fun vs H Q _ => ∃ (p wa : Addr) (k : Nat) (ls : List (List Nat)) (w : List Nat), vs = [.ref p, .ref wa] ∧ Alp C H p k ls ∧ AlOk k ls ∧ H wa = some (.tup (w.map vN)) ∧ (∀ a ∈ w, a < ls.length) ∧ w.length ≤ 500 ∧
  ∀ H' q o, Same H H' → H' q = some (.tup (o.map vN)) → Lf (pls ls) w o → Q (.ref q) H'
section
variable {P : Program} {w : World} {K : PySem.W.Frag} {mg : Str → Option Value} {base : Heap}
theorem scLeast : FnScope ["alphabet", "word", "rest", "found", "best", "k"] ["alphabet", "word"] (defScope sLeast) := ⟨rfl, rfl, rfl, by decide +kernel, rfl, by decide +kernel, by decide +kernel⟩
theorem ok_least {f fF C : Addr} {fd fdF : FuncData} (F : Fun K "least_form" "least_form" sLeast f fd) (T : Txt K mg C) (GF : FnOk P w K mg base CX0 3 fF fdF ["alphabet", "word"] (spFirst C)) (kF : PySem.W.keepIn K (.ref fF) = true) (bF : Binds K fdF ["alphabet", "word"] []) (mF : mg "first_letters" = some (.ref fF)) :
    FnOk P w K mg base CX0 4 f fd ["alphabet", "word"] (spLeast C) := by
  refine F.ok scLeast (fun vs H Q E h => ?_) (fun cdv A outer s H vs Q E hr h => ?_)
  · obtain ⟨p, wa, k, ls, w, rfl, _⟩ := h
    rfl
  · obtain ⟨p, wa, k, ls, w, rfl, al, ok, hw, hlt, hlen, q⟩ := h
    refine ⟨_, pss_cons (ps_set (i := 2) scLeast.nd rfl (Or.inl rfl) (pe_callTy call_list_of (by rfl) T.list (by decide +kernel) (pa_cons (pv 1) pa_nil)))
      (pss_cons (ps_set (i := 3) scLeast.nd rfl (Or.inl rfl) (pe_lst pa_nil))
      (pss_cons (ps_while PassesOwn.never (pt_cmpR op_gt (pe_callB call_len_seq (by rfl) T.len PySem.boot_len (pa_cons (pv 2) pa_nil)) pe_int (nomark _))
        (pss_cons (ps_set (i := 4) scLeast.nd rfl (Or.inl rfl) (pe_un un_neg pe_int))
        (pss_cons (ps_for PassesOwn.never rfl (pi_list (pe_call GF hr rfl mF kF bF .nil pass0 (pa_cons (pv 0) (pa_cons (pv 2) pa_nil)))) (pg_name (i := 5) scLeast.nd rfl (Or.inl rfl))
          (pss_one (ps_if (PW.pt (pw_or (pt_cmpR op_lt (pv 4) pe_int (nomark _)) (pw_or1 (pt_cmpR op_lt (pe_ix ix_list (pv 2) (pv 5) (fun _ _ => rfl)) (pe_ix ix_list (pv 2) (pv 4) (fun _ _ => rfl)) (nomark _)))))
            (pss_one (ps_set (i := 4) scLeast.nd rfl (Or.inl rfl) (pv 5))) pss_nil)))
        (pss_one (ps_expr (pe_bm PySem.F.plainAttrs_list PySem.F.slot_list_append PySem.F.type_list_append mt_append (pv 3) (pa_cons
          (pe_bm PySem.F.plainAttrs_list PySem.F.slot_list_pop PySem.F.type_list_pop mt_popAt (pv 2) (pa_cons (pv 4) pa_nil)) pa_nil)))))))
      (pss_one (ps_ret (pe_callTy call_tuple_of (by rfl) T.tuple (by decide +kernel) (pa_cons (pv 3) pa_nil)))))), ?_⟩
    refine ⟨_, rfl, wa, _, rfl, .inr (seqT hw), fun l hl => ?_⟩
    refine ⟨Nat.zero_le _, fun g hg => ?_⟩
    have s1 : Same H (upd H l (.lst (w.map vN))) := same_upd hl
    have s2 : Same H (upd (upd H l (.lst (w.map vN))) g (.lst [])) := s1.trans (same_upd hg)
    have nlg : l ≠ g := fun z => by rw [← z, upd_same] at hg; cases hg
    have hg0 : H g = none := s1.free hg
    refine ⟨fun m σ H' => ∃ (r o : List Nat) (v4 v5 : Option V), r.length = m ∧ Same H H' ∧ H' l = some (.lst (r.map vN)) ∧ H' g = some (.lst (o.map vN)) ∧ σ = [some (.ref p), some (.ref wa), some (.ref l), some (.ref g), v4, v5] ∧
        (∀ a ∈ r, a < ls.length) ∧ o.length + r.length ≤ 500 ∧ ∀ z, Lf (pls ls) r z → Lf (pls ls) w (o ++ z),
      ⟨_, w, [], none, none, rfl, s2, by rw [upd_ne nlg, upd_same], upd_same, rfl, hlt, by simpa using hlen, fun z hz => hz⟩, ?_⟩
    rintro m σ H' ⟨r, o, v4, v5, rfl, s3, hl3, hg3, rfl, hrlt, hro, hlf⟩
    refine ⟨_, rfl, l, _, rfl, .inl (.inl (.inl hl3)), _, _, rfl, rfl, _, rfl, ?_⟩
    rw [List.length_map]
    by_cases hpos : r.length = 0
    · rw [decide_eq_false (by omega)]
      refine iteF ?_
      have : r = [] := List.eq_nil_of_length_eq_zero hpos
      subst this
      have hz := hlf [] .nil
      rw [List.append_nil] at hz
      exact ⟨_, rfl, g, _, rfl, .inl ⟨.inl (.inl hg3), fun q' hq' => q _ _ o (s3.trans (same_upd hq')) upd_same hz⟩⟩
    · rw [decide_eq_true (by omega)]
      refine iteT ?_
      refine ⟨fun σ' H2 => ∃ m', m' < r.length ∧ ∃ (r o : List Nat) (v4 v5 : Option V), r.length = m' ∧ Same H H2 ∧ H2 l = some (.lst (r.map vN)) ∧ H2 g = some (.lst (o.map vN)) ∧ σ' = [some (.ref p), some (.ref wa), some (.ref l), some (.ref g), v4, v5] ∧
        (∀ a ∈ r, a < ls.length) ∧ o.length + r.length ≤ 500 ∧ ∀ z, Lf (pls ls) r z → Lf (pls ls) w (o ++ z), fun σ' H2 h => h, ?_⟩
      refine ⟨_, rfl, _, rfl, _, rfl, p, l, k, ls, r, rfl, al.same s3, ok.m6, hl3, hrlt, by omega, fun H2 fq s4 hfq hf2 => ?_⟩
      have hl4 := s4 _ _ hl3
      have hg4 := s4 _ _ hg3
      have fl : ∀ j ∈ firsts (pls ls) r, j < r.length := fun j hj => (mem_firsts.mp hj).1
      refine ⟨fq, rfl, ⟨_, .inl (.inl hf2)⟩, for_list (K := K) (a := fq) (xs := (firsts (pls ls) r).map vN) (fun i σ' H3 => H3 = H2 ∧ ∃ (b : Int) (v5 : Option V), σ' = [some (.ref p), some (.ref wa), some (.ref l), some (.ref g), some (.int b), v5] ∧
          ((i = 0 ∧ b = -1) ∨ ∃ j : Nat, b = (j : Int) ∧ j ∈ firsts (pls ls) r ∧ ∀ c ∈ (firsts (pls ls) r).take i, r.getD j 0 ≤ r.getD c 0))
        ⟨rfl, -1, v5, rfl, .inl ⟨rfl, rfl⟩⟩ (fun i σ' H3 _ hh => hh.1 ▸ .inl (.inl hf2)) ?_ ?_⟩
      · rintro i x σ' H3 hi ⟨rfl, b, v5, rfl, hb⟩
        obtain ⟨j, hj, rfl⟩ := vN_of hi
        have hjm : j ∈ firsts (pls ls) r := List.mem_of_getElem? hj
        have hjr := fl j hjm
        have ixj := ix_vN hjr
        refine ⟨_, rfl, _, _, rfl, rfl, _, rfl, ?_⟩
        rcases hb with ⟨rfl, rfl⟩ | ⟨c, rfl, hcm, hle⟩
        · rw [decide_eq_true (by omega)]
          refine iteT (iteT ⟨_, rfl, rfl, _, _, rfl, .inr ⟨j, rfl, hjm, fun d hd => ?_⟩⟩)
          rw [List.take_add_one, hj] at hd
          have : d = j := by simpa using hd
          rw [this]
          exact Nat.le_refl _
        · have ixc := ix_vN (fl c hcm)
          rw [decide_eq_false (by omega)]
          refine iteF ⟨_, rfl, _, rfl, l, _, _, _, rfl, rfl, .inl (.inl hl4), ixj, _, rfl, _, rfl, l, _, _, _, rfl, rfl, .inl (.inl hl4), ixc, _, _, rfl, rfl, _, rfl, ?_⟩
          have tk : ∀ d, d ∈ (firsts (pls ls) r).take (i + 1) → d ∈ (firsts (pls ls) r).take i ∨ d = j := fun d hd => by
            rw [List.take_add_one, hj] at hd
            rcases List.mem_append.mp hd with z | z
            · exact .inl z
            · exact .inr (by simpa using z)
          by_cases lt : r.getD j 0 < r.getD c 0
          · rw [decide_eq_true (by omega)]
            refine iteT ⟨_, rfl, rfl, _, _, rfl, .inr ⟨j, rfl, hjm, fun d hd => ?_⟩⟩
            rcases tk d hd with z | z
            · have := hle d z
              omega
            · rw [z]
              exact Nat.le_refl _
          · rw [decide_eq_false (by omega)]
            refine iteF ⟨rfl, _, _, rfl, .inr ⟨c, rfl, hcm, fun d hd => ?_⟩⟩
            rcases tk d hd with z | z
            · exact hle d z
            · rw [z]
              omega
      · rintro σ' H3 ⟨rfl, b, v5, rfl, hb⟩
        rw [List.length_map] at hb
        have hne : r ≠ [] := fun z => hpos (by rw [z]; rfl)
        rcases hb with ⟨h0, _⟩ | ⟨c, rfl, hcm, hle⟩
        · have z := firsts_zero (pl := pls ls) hne
          rw [List.eq_nil_of_length_eq_zero h0] at z
          cases z
        · have hcr := fl c hcm
          rw [List.take_length] at hle
          refine ⟨_, rfl, .inl ⟨rfl, _, .inl (.inl hg4)⟩, _, rfl, .inl ⟨rfl, _, .inl (.inl hl4)⟩, _, rfl, l, _, _, c, _, rfl, rfl, hl4, by omega, by omega, seqn (by rw [List.length_map]; exact hcr), vN_at (gd hcr), ?_⟩
          refine ⟨g, _, _, rfl, rfl, by rw [upd_ne nlg.symm]; exact hg4, by rw [List.length_map]; exact small1000 (by omega), ?_⟩
          have le : (r.eraseIdx c).length = r.length - 1 := by rw [List.length_eraseIdx, if_pos hcr]
          refine ⟨_, ?_, r.eraseIdx c, o ++ [r.getD c 0], _, _, rfl, ?_, ?_, ?_, rfl, ?_, ?_, ?_⟩
          · omega
          · exact fun b u e => by
              rw [upd_ne (ne_of_none e hg0), upd_ne (ne_of_none e hl)]
              exact s4 _ _ (s3 _ _ e)
          · rw [upd_ne nlg, upd_same, erase_vN]
          · rw [upd_same, List.map_append]
            rfl
          · exact fun a ha => hrlt a (List.mem_of_mem_eraseIdx ha)
          · rw [List.length_append, le, List.length_singleton]
            omega
          · intro z hz
            rw [List.append_assoc]
            exact hlf _ (lf_pick (ok.full hrlt) hcm hle hz)
end
end Plw

set_option maxHeartbeats 4000000
namespace Plw
open PySem L2 Trc
/-! ### plain facts of the layers -/
theorem lrun_next {pl : Nat → List Nat} {m : Nat} {w : List Nat} {i a : Nat} (h : w[i]? = some a) : lrun pl m (w.take (i + 1)) = lstep pl (lrun pl m (w.take i)) a := by
  rw [List.take_add_one, h]
  exact lrun_snoc m _ a
theorem lrun_size {pl : Nat → List Nat} {m : Nat} : ∀ (n : Nat) (w : List Nat), w.length = n → Full pl w → (∀ a ∈ w, a < m) → (lrun pl m w).1.length ≤ n ∧ ∀ j, ((lrun pl m w).1.getD j []).length ≤ n
  | 0, w, h, _, _ => by
    have : w = [] := List.eq_nil_of_length_eq_zero h
    subst this
    exact ⟨Nat.le_refl _, fun j => by simp [lrun]⟩
  | n + 1, w, h, fw, hw => by
    have hne : w ≠ [] := by
      intro e
      rw [e] at h
      cases h
    obtain ⟨v, a, rfl⟩ : ∃ v a, w = v ++ [a] := ⟨w.dropLast, w.getLast hne, (List.dropLast_concat_getLast hne).symm⟩
    have fv : Full pl v := fw.sub fun b hb => List.mem_append_left _ hb
    have hv : ∀ a ∈ v, a < m := fun b hb => hw b (List.mem_append_left _ hb)
    obtain ⟨h1, h2⟩ := lrun_size n v (by simpa using h) fv hv
    have g := (lrun_ok m v fv hv).1
    have dl := g.dle a
    rw [lrun_snoc]
    refine ⟨?_, fun j => ?_⟩
    · show (put (lrun pl m v).1 _ a).length ≤ n + 1
      rw [put_length _ _ _ dl]
      omega
    · show ((put (lrun pl m v).1 _ a).getD j []).length ≤ n + 1
      rw [put_getD _ _ _ _ dl]
      split
      · rw [List.length_append, List.length_singleton]
        have := h2 (dmax pl (lrun pl m v).2 a)
        omega
      · have := h2 j
        omega
def grow (f : List (List Nat)) (d : Nat) : List (List Nat) := if d = f.length then f ++ [[]] else f
theorem put_grow {f : List (List Nat)} {d : Nat} (a : Nat) (h : d ≤ f.length) : d < (grow f d).length ∧ put f d a = (grow f d).set d ((grow f d).getD d [] ++ [a]) := by
  unfold grow
  by_cases e : d = f.length
  · subst e
    rw [if_pos rfl, put_end]
    exact ⟨by simp, by simp⟩
  · rw [if_neg e]
    have : d < f.length := by omega
    exact ⟨this, put_lt f d a this⟩
theorem srt_int {l : List Nat} {ns : List Int} (h : ns.Perm (l.map fun n : Nat => (n : Int))) (k : ns.Pairwise (· ≤ ·)) : ns = (srt l).map fun n : Nat => (n : Int) := by
  refine List.Perm.eq_of_pairwise (le := fun a b : Int => a ≤ b) (fun a b _ _ h1 h2 => Int.le_antisymm h1 h2) k ?_ (h.trans ((srt_perm l).map _).symm)
  refine List.Pairwise.map _ (fun a b hab => ?_) (srt_sorted l)
  exact Int.ofNat_le.mpr hab
theorem zeros (m : Nat) : (List.replicate ((m : Int)).toNat [V.int 0]).flatten = (List.replicate m 0).map vN := by
  rw [Int.toNat_natCast]
  induction m with
  | zero => rfl
  | succ m ih =>
    rw [List.replicate_succ, List.flatten_cons, ih, List.replicate_succ]
    rfl
theorem dfold_next {pl : Nat → List Nat} {deps : List Nat} {a j : Nat} : (List.range (j + 1)).foldl (fun d o => if dep pl a o = true then max d (deps.getD o 0) else d) 0 =
    if dep pl a j = true then max ((List.range j).foldl (fun d o => if dep pl a o = true then max d (deps.getD o 0) else d) 0) (deps.getD j 0) else (List.range j).foldl (fun d o => if dep pl a o = true then max d (deps.getD o 0) else d) 0 := by
  rw [List.range_succ, List.foldl_append]
  rfl
def spLayers (C : Addr) : Sp := fun vs H Q _ => ∃ (p wa : Addr) (k : Nat) (ls : List (List Nat)) (w : List Nat), vs = [.ref p, .ref wa] ∧ Alp C H p k ls ∧ AlOk k ls ∧ H wa = some (.tup (w.map vN)) ∧ (∀ a ∈ w, a < ls.length) ∧ w.length ≤ 50 ∧
  ∀ H' q ts, Same H H' → H' q = some (.lst (ts.map V.ref)) → Rows H' ts (layersM (pls ls) ls.length w) → Q (.ref q) H'
/-- at each of these addresses, all different and new since H, the list of these numbers -/
structure Lists (H H' : Hp) (qs : List Addr) (f : List (List Nat)) : Prop where
  len : qs.length = f.length
  at_ : ∀ i q, qs[i]? = some q → H' q = some (.lst ((f.getD i []).map vN)) ∧ H q = none
  nd : qs.Nodup
theorem Lists.snoc {H H' H'' : Hp} {qs : List Addr} {f : List (List Nat)} {q : Addr} (h : Lists H H' qs f) (hn : H q = none) (ho : H' q = none) (he : H'' q = some (.lst [])) (k : ∀ b o, H' b = some o → b ∈ qs → H'' b = some o) : Lists H H'' (qs ++ [q]) (f ++ [[]]) where
  len := by simp [h.len]
  at_ := fun i r hr => by
    by_cases hi : i < qs.length
    · rw [List.getElem?_append_left hi] at hr
      obtain ⟨h1, h2⟩ := h.at_ i r hr
      refine ⟨?_, h2⟩
      rw [List.getD_eq_getElem?_getD, List.getElem?_append_left (by rw [← h.len]; exact hi), ← List.getD_eq_getElem?_getD]
      exact k _ _ h1 (List.mem_of_getElem? hr)
    · rw [List.getElem?_append_right (by omega)] at hr
      have h0 : i - qs.length = 0 := by
        rcases Nat.eq_zero_or_pos (i - qs.length) with z | z
        · exact z
        · rw [List.getElem?_eq_none (by simp; omega)] at hr
          cases hr
      rw [h0] at hr
      have : q = r := by simpa using hr
      subst this
      refine ⟨?_, hn⟩
      rw [List.getD_eq_getElem?_getD, List.getElem?_append_right (by rw [← h.len]; omega), ← h.len, h0]
      exact he
  nd := by
    rw [List.nodup_append]
    refine ⟨h.nd, by simp, fun a ha b hb => ?_⟩
    have : b = q := by simpa using hb
    subst this
    intro e
    subst e
    obtain ⟨i, hi, e⟩ := List.getElem_of_mem ha
    have := (h.at_ i a (by rw [List.getElem?_eq_getElem hi, e])).1
    rw [ho] at this
    cases this
theorem Lists.put {H H' : Hp} {qs : List Addr} {f : List (List Nat)} {q : Addr} {d : Nat} {l : List Nat} (h : Lists H H' qs f) (hq : qs[d]? = some q) : Lists H (upd H' q (.lst (l.map vN))) qs (f.set d l) where
  len := by rw [List.length_set]; exact h.len
  at_ := fun i r hr => by
    obtain ⟨h1, h2⟩ := h.at_ i r hr
    refine ⟨?_, h2⟩
    have hd : d < f.length := by rw [← h.len]; exact (List.getElem?_eq_some_iff.mp hq).1
    by_cases e : i = d
    · subst e
      rw [hr] at hq
      have : r = q := Option.some.inj hq
      subst this
      rw [upd_same, List.getD_eq_getElem?_getD, List.getElem?_set_self hd]
      rfl
    · have ne : r ≠ q := fun z => by
        subst z
        exact e (nd_ix h.nd hr hq)
      rw [upd_ne ne, List.getD_eq_getElem?_getD, List.getElem?_set_ne (fun z => e z.symm), ← List.getD_eq_getElem?_getD]
      exact h1
  nd := h.nd
theorem Lists.keep {H H' H'' : Hp} {qs : List Addr} {f : List (List Nat)} (h : Lists H H' qs f) (k : ∀ b o, H' b = some o → b ∈ qs → H'' b = some o) : Lists H H'' qs f where
  len := h.len
  at_ := fun i r hr => ⟨k _ _ (h.at_ i r hr).1 (List.mem_of_getElem? hr), (h.at_ i r hr).2⟩
  nd := h.nd
section
variable {P : Program} {w : World} {K : PySem.W.Frag} {mg : Str → Option Value} {base : Heap}
theorem scLayers : FnScope ["alphabet", "word", "found", "depths", "dependent", "letter", "depth", "other", "layer"] ["alphabet", "word"] (defScope sLayers) := ⟨rfl, rfl, rfl, by decide +kernel, rfl, by decide +kernel, by decide +kernel⟩
theorem ok_layers {f fM C : Addr} {fd fdM : FuncData} (F : Fun K "layers" "layers" sLayers f fd) (T : Txt K mg C) (GM : FnOk P w K mg base CX0 2 fM fdM ["alphabet"] (spMasks C)) (kM : PySem.W.keepIn K (.ref fM) = true) (bM : Binds K fdM ["alphabet"] []) (mM : mg "masks" = some (.ref fM)) :
    FnOk P w K mg base CX0 3 f fd ["alphabet", "word"] (spLayers C) := by
  refine F.ok scLayers (fun vs H Q E h => ?_) (fun cdv A outer s H vs Q E hr h => ?_)
  · obtain ⟨p, wa, k, ls, w, rfl, _⟩ := h
    rfl
  · obtain ⟨p, wa, k, ls, w, rfl, al, ok, hw, hlt, hlen, q⟩ := h
    have fw := ok.full hlt
    refine ⟨_, pss_cons (ps_set (i := 2) scLayers.nd rfl (Or.inl rfl) (pe_lst pa_nil))
      (pss_cons (ps_set (i := 3) scLayers.nd rfl (Or.inl rfl) (pe_op op_rep (pe_lst (pa_cons pe_int pa_nil)) (pe_callB call_len_seq (by rfl) T.len PySem.boot_len (pa_cons (pe_fld (pv 0) rfl) pa_nil))))
      (pss_cons (ps_set (i := 4) scLayers.nd rfl (Or.inl rfl) (pe_call GM hr rfl mM kM bM .nil pass0 (pa_cons (pv 0) pa_nil)))
      (pss_cons (ps_for PassesOwn.never rfl (pi_tup (pv 1)) (pg_name (i := 5) scLayers.nd rfl (Or.inl rfl))
        (pss_cons (ps_set (i := 6) scLayers.nd rfl (Or.inl rfl) pe_int)
        (pss_cons (ps_for PassesOwn.never rfl (pi_range1 rfl T.range (pa_cons (pe_callB call_len_seq (by rfl) T.len PySem.boot_len (pa_cons (pv 3) pa_nil)) pa_nil)) (pg_name (i := 7) scLayers.nd rfl (Or.inl rfl))
          (pss_one (ps_if (pt_cmpR op_eq (pe_op op_and (pe_op op_shr (pe_ix ix_list (pv 4) (pv 5) (fun _ _ => rfl)) (pv 7)) pe_int) pe_int (nomark _))
            (pss_one (ps_set (i := 6) scLayers.nd rfl (Or.inl rfl) (pe_callB (call_max2 rfl) (by rfl) T.max (by decide +kernel) (pa_cons (pv 6) (pa_cons (pe_ix ix_list (pv 3) (pv 7) (fun _ _ => rfl)) pa_nil))))) pss_nil)))
        (Evl.pss_cut (ps_if (pt_cmpR op_eq (pv 6) (pe_callB call_len_seq (by rfl) T.len PySem.boot_len (pa_cons (pv 2) pa_nil)) (nomark _))
            (pss_one (ps_expr (pe_bm PySem.F.plainAttrs_list PySem.F.slot_list_append PySem.F.type_list_append mt_append (pv 2) (pa_cons (pe_lst pa_nil) pa_nil)))) pss_nil)
        (pss_cons (ps_expr (pe_bm PySem.F.plainAttrs_list PySem.F.slot_list_append PySem.F.type_list_append mt_append (pe_ix ix_list (pv 2) (pv 6) (fun _ _ => rfl)) (pa_cons (pv 5) pa_nil)))
        (pss_one (ps_asg (pe_op op_add (pv 6) pe_int) (pg_sub (pv 3) (pv 5) set_list))))))))
      (pss_one (ps_ret (pe_lc (own := [("layer", 8)]) (g := gName 8) (tt := tYes) (te := tCB (rTupOf K) (tCons (tCB (rSorted K) (tCons (tVar 8) tNil)) tNil)) rfl scLayers.nd (pi_list (pv 2))
          (blkOk_by (N := ["alphabet", "word", "found", "depths", "dependent", "letter", "depth", "other", "layer"]) (sc := defScope sLayers) (by decide +kernel))
          (fun _ _ _ _ _ => pg_name (i := 8) scLayers.nd rfl (Or.inl rfl)) (fun _ _ _ _ _ => pts_nil)
          (fun _ _ _ _ _ => pe_callTy (T := "tuple") (cr_tupOf rfl) (by rfl) T.tuple (by decide +kernel) (pa_cons (pe_callB (id := "sorted") cr_sorted (by rfl) T.sorted (by decide +kernel) (pa_cons (pv 8) pa_nil)) pa_nil)))))))), ?_⟩
    have m1 := ok.m1
    have m6 := ok.m6
    refine ⟨Nat.zero_le _, fun fa hfa => ?_⟩
    have s1 : Same H (upd H fa (.lst [])) := same_upd hfa
    refine ⟨by decide, fun za hza => ?_⟩
    have s2 := s1.trans (same_upd (o := .lst [V.int 0]) hza)
    obtain ⟨dx, t, rs, h1, h2, h3⟩ := id (al.same s2)
    have lenR : (rs.map V.ref).length = ls.length := by rw [List.length_map]; exact h3.1
    refine ⟨_, rfl, p, C, dx, _, _, rfl, h1, T.cl, T.nL, flds_letters _ _, t, _, rfl, .inr (seqT h2), za, _, _, rfl, rfl, upd_same, by omega, by omega, ?_, fun da hda => ?_⟩
    · rw [List.length_singleton, lenR, Int.toNat_natCast, Nat.one_mul]
      exact small (by omega)
    · rw [lenR, zeros]
      have s3 := s2.trans (same_upd (o := .lst ((List.replicate ls.length 0).map vN)) hda)
      refine ⟨_, rfl, p, k, ls, rfl, al.same s3, m6, fun H2 md s4 hmd hm => ?_⟩
      have s5 : Same H H2 := s3.trans s4
      have nfz : fa ≠ za := fun z => by rw [← z, upd_same] at hza; cases hza
      have nfd : fa ≠ da := fun z => by rw [← z, upd_ne nfz, upd_same] at hda; cases hda
      have hfa2 : H2 fa = some (.lst []) := s4 _ _ (by rw [upd_ne nfd, upd_ne nfz, upd_same])
      have hda2 : H2 da = some (.lst ((List.replicate ls.length 0).map vN)) := s4 _ _ upd_same
      have hda0 : H da = none := s2.free hda
      have nmf : md ≠ fa := fun z => by rw [z, upd_ne nfd, upd_ne nfz, upd_same] at hmd; cases hmd
      have nmd : md ≠ da := fun z => by rw [z, upd_same] at hmd; cases hmd
      have old : ∀ {H' : Hp}, (∀ b o, b ≠ fa → b ≠ da → H2 b = some o → H' b = some o) → Same H H' := fun {H'} hb b o e => hb b o (ne_of_none e hfa) (ne_of_none e hda0) (s5 _ _ e)
      refine ⟨_, rfl, wa, rfl, ⟨_, seqT (s5 _ _ hw)⟩, for_tup (K := K) (a := wa) (xs := w.map vN) (fun i σ H' => (∀ b o, b ≠ fa → b ≠ da → H2 b = some o → H' b = some o) ∧ H' da = some (.lst ((lrun (pls ls) ls.length (w.take i)).2.map vN)) ∧
          (∃ v5 v6 v7 v8, σ = [some (.ref p), some (.ref wa), some (.ref fa), some (.ref da), some (.ref md), v5, v6, v7, v8]) ∧ ∃ qs, H' fa = some (.lst (qs.map V.ref)) ∧ Lists H2 H' qs (lrun (pls ls) ls.length (w.take i)).1)
        ⟨fun b o _ _ e => e, hda2, ⟨none, none, none, none, rfl⟩, [], hfa2, rfl, fun i r e => by simp at e, List.nodup_nil⟩ (fun i σ H' _ hh => seqT (old hh.1 _ _ hw)) ?_ ?_⟩
      · rintro i x σ H' hi ⟨hb, hd, ⟨v5, v6, v7, v8, rfl⟩, qs, hf, hL⟩
        obtain ⟨a, ha, rfl⟩ := vN_of hi
        have hil : i < w.length := (List.getElem?_eq_some_iff.mp ha).1
        have haL : a < ls.length := hlt a (List.mem_of_getElem? ha)
        have hmd2 : H' md = some (.lst (masksV ls)) := hb _ _ nmf nmd hm
        have ft : Full (pls ls) (w.take i) := fw.sub fun b hb => List.mem_of_mem_take hb
        have ht : ∀ a ∈ w.take i, a < ls.length := fun b hb => hlt b (List.mem_of_mem_take hb)
        have g := (lrun_ok ls.length (w.take i) ft ht).1
        have sz := lrun_size _ (w.take i) rfl ft ht
        rw [List.length_take] at sz
        have nx := lrun_next (pl := pls ls) (m := ls.length) ha
        have dl := g.dle a
        generalize hst : lrun (pls ls) ls.length (w.take i) = st at *
        obtain ⟨fnd, deps⟩ := st
        have gl : deps.length = ls.length := g.len
        have hd : H' da = some (.lst (deps.map vN)) := hd
        have glm : (deps.map vN).length = ls.length := by rw [List.length_map]; exact gl
        have eD : ((((deps.map vN).length : Nat) : Int)).toNat = deps.length := by rw [List.length_map]; omega
        refine ⟨_, rfl, da, _, rfl, .inl (.inl (.inl hd)), _, rfl, by rw [glm]; omega, by rw [glm]; omega,
          for_range (fun j σ H'' => H'' = H' ∧ ∃ v7 v8, σ = [some (.ref p), some (.ref wa), some (.ref fa), some (.ref da), some (.ref md), some (vN a), some (vN ((List.range j).foldl (fun d o => if dep (pls ls) a o = true then max d (deps.getD o 0) else d) 0)), v7, v8])
            ⟨rfl, v7, v8, rfl⟩ ?_ ?_⟩
        · rintro j σ H'' hj ⟨rfl, v7, v8, rfl⟩
          rw [eD] at hj
          have e1 : (0 : Int) + (j : Int) = (j : Int) := Int.zero_add _
          rw [e1]
          refine ⟨_, rfl, _, rfl, md, _, _, _, rfl, rfl, .inl (.inl hmd2), masksV_at haL, _, rfl, _, _, rfl, rfl, by show (0 : Int) ≤ (j : Int); omega, _, _, rfl, rfl, rfl, _, rfl, ?_⟩
          show if decide (V.int (Builtin.bitAnd (((maskTo (pls ls) a ls.length : Nat) : Int) / 2 ^ ((j : Int)).toNat) 1) = V.int 1) = true then _ else _
          rw [bit_test, maskTo_bit, decide_eq_true (by omega), Bool.true_and]
          cases e : dep (pls ls) a j with
          | true =>
            refine iteT ⟨_, rfl, _, rfl, _, rfl, da, _, _, _, rfl, rfl, .inl (.inl hd), ix_vN hj, _, _, rfl, rfl, some (vN j), v8, ?_⟩
            have : (if ((deps.getD j 0 : Nat) : Int) > ((List.range j).foldl (fun d o => if dep (pls ls) a o = true then max d (deps.getD o 0) else d) 0 : Nat) then ((deps.getD j 0 : Nat) : Int) else ((List.range j).foldl (fun d o => if dep (pls ls) a o = true then max d (deps.getD o 0) else d) 0 : Nat)) =
                ((max ((List.range j).foldl (fun d o => if dep (pls ls) a o = true then max d (deps.getD o 0) else d) 0) (deps.getD j 0) : Nat) : Int) := by
              split <;> omega
            show [some (V.ref p), some (V.ref wa), some (V.ref fa), some (V.ref da), some (V.ref md), some (vN a), some (V.int _), some (vN j), v8] = _
            rw [dfold_next, e, if_pos rfl, this]
          | false =>
            refine iteF ⟨rfl, some (vN j), v8, ?_⟩
            rw [dfold_next, e, if_neg Bool.false_ne_true]
            rfl
        · rintro σ H'' ⟨rfl, v7, v8, rfl⟩
          rw [eD]
          have hqf : qs.length = fnd.length := hL.len
          have dd : (List.range deps.length).foldl (fun d o => if dep (pls ls) a o = true then max d (deps.getD o 0) else d) 0 = dmax (pls ls) deps a := rfl
          rw [dd]
          generalize hdm : dmax (pls ls) deps a = d at *
          have dlf : d ≤ fnd.length := dl
          obtain ⟨pg1, pg2⟩ := put_grow (f := fnd) (d := d) a dlf
          refine ⟨fun σ2 H3 => (∀ b o, b ≠ fa → b ≠ da → H2 b = some o → H3 b = some o) ∧ H3 da = some (.lst (deps.map vN)) ∧
            σ2 = [some (.ref p), some (.ref wa), some (.ref fa), some (.ref da), some (.ref md), some (vN a), some (vN d), v7, v8] ∧ ∃ qs, H3 fa = some (.lst (qs.map V.ref)) ∧ Lists H2 H3 qs (grow fnd d), ?_, ?_⟩
          · refine ⟨_, rfl, _, rfl, fa, _, rfl, .inl (.inl (.inl hf)), rfl, _, rfl, ?_⟩
            rw [List.length_map]
            by_cases e : d = fnd.length
            · rw [decide_eq_true (by rw [e, hqf])]
              refine iteT ⟨_, rfl, .inl ⟨rfl, _, .inl (.inl hf)⟩, Nat.zero_le _, fun nq hnq => ?_⟩
              have nfq : fa ≠ nq := ne_of_none hf hnq
              have ndq : da ≠ nq := ne_of_none hd hnq
              have hq2 : H2 nq = none := by
                cases z : H2 nq with
                | none => rfl
                | some o =>
                  rw [hb nq o nfq.symm ndq.symm z] at hnq
                  cases hnq
              refine ⟨fa, _, _, rfl, rfl, by rw [upd_ne nfq]; exact hf, by rw [List.length_map]; exact small1000 (by omega), fun b o n1 n2 z => ?_, ?_, rfl, qs ++ [nq], ?_, ?_⟩
              · have z' := hb b o n1 n2 z
                rw [upd_ne n1, upd_ne (ne_of_none z' hnq)]
                exact z'
              · rw [upd_ne nfd.symm, upd_ne ndq]
                exact hd
              · rw [upd_same, List.map_append]
                rfl
              · have : grow fnd d = fnd ++ [[]] := if_pos e
                rw [this]
                refine hL.snoc hq2 hnq (by rw [upd_ne nfq.symm, upd_same]) fun b o z hbq => ?_
                obtain ⟨j, hj, ej⟩ := List.getElem_of_mem hbq
                have hn := (hL.at_ j b (by rw [List.getElem?_eq_getElem hj, ej])).2
                have nbf : b ≠ fa := fun y => by rw [y, hfa2] at hn; cases hn
                rw [upd_ne nbf, upd_ne (ne_of_none z hnq)]
                exact z
            · rw [decide_eq_false (by rw [hqf]; intro z; injection z with z; omega)]
              have : grow fnd d = fnd := if_neg e
              rw [this]
              exact iteF ⟨hb, hd, rfl, qs, hf, hL⟩
          · rintro σ2 H3 ⟨hb3, hd3, rfl, qs3, hf3, hL3⟩
            have dq : d < qs3.length := by rw [hL3.len]; exact pg1
            have eq3 : qs3[d]? = some qs3[d] := List.getElem?_eq_getElem dq
            obtain ⟨hq3, hq30⟩ := hL3.at_ d _ eq3
            have nqf : qs3[d] ≠ fa := fun y => by rw [y, hfa2] at hq30; cases hq30
            have nqd : qs3[d] ≠ da := fun y => by rw [y, hda2] at hq30; cases hq30
            have ixq : atI (qs3.map V.ref) (d : Int) = some (.ref qs3[d]) := atI_nat (by rw [List.getElem?_map, eq3]; rfl)
            have glen : ((grow fnd d).getD d []).length ≤ 1000 := by
              unfold grow
              by_cases e : d = fnd.length
              · rw [if_pos e, List.getD_eq_getElem?_getD, e]
                simp
              · rw [if_neg e]
                have : (fnd.getD d []).length ≤ min i w.length := sz.2 d
                omega
            refine ⟨_, rfl, _, rfl, fa, _, _, _, rfl, rfl, .inl (.inl hf3), ixq, .inl ⟨rfl, _, .inl (.inl hq3)⟩, _, rfl, _, _, _, rfl, rfl, hq3, by rw [List.length_map]; exact small1000 glen, ?_⟩
            refine ⟨_, rfl, _, _, rfl, rfl, _, rfl, _, rfl, da, _, _, _, rfl, rfl, by rw [upd_ne nqd.symm]; exact hd3, ixn (by rw [List.length_map, gl]; exact haL), ?_⟩
            rw [nx]
            have e1 : (deps.map vN).set a (vN (d + 1)) = (deps.set a (d + 1)).map vN := List.map_set.symm
            refine ⟨fun b o n1 n2 z => ?_, ?_, ⟨_, _, _, _, rfl⟩, qs3, ?_, ?_⟩
            · rw [upd_ne n2, upd_ne (ne_of_none z hq30)]
              exact hb3 b o n1 n2 z
            · rw [upd_same]
              show some (HO.lst ((deps.map vN).set a (vN (d + 1)))) = some (HO.lst ((deps.set a (dmax (pls ls) deps a + 1)).map vN))
              rw [hdm, e1]
            · rw [upd_ne nfd, upd_ne nqf.symm]
              exact hf3
            · show Lists H2 _ qs3 (put fnd (dmax (pls ls) deps a) a)
              rw [hdm, pg2]
              have := hL3.put (l := (grow fnd d).getD d [] ++ [a]) eq3
              rw [List.map_append] at this
              refine this.keep fun b o z hbq => ?_
              obtain ⟨j, hj, ej⟩ := List.getElem_of_mem hbq
              have hn := (hL3.at_ j b (by rw [List.getElem?_eq_getElem hj, ej])).2
              have nbd : b ≠ da := fun y => by rw [y, hda2] at hn; cases hn
              rw [upd_ne nbd]
              exact z
      · rintro σ H' ⟨hb, hd, ⟨v5, v6, v7, v8, rfl⟩, qs, hf, hL⟩
        rw [List.length_map, List.take_length] at hL
        have sz := lrun_size _ w rfl fw hlt
        have hqf : qs.length = (lrun (pls ls) ls.length w).1.length := hL.len
        refine ⟨_, rfl, fa, rfl, ⟨_, .inl (.inl hf)⟩, fun D hD => ?_⟩
        have nfD : fa ≠ D := ne_of_none hf hD
        refine lc_list (K := K) (a := fa) (xs := qs.map V.ref) (fun i H3 => Same H' H3 ∧ ∃ ts : List Addr, H3 D = some (.lst (ts.map V.ref)) ∧ Rows H3 ts (((lrun (pls ls) ls.length w).1.take i).map srt))
          ⟨same_upd hD, [], upd_same, Rows.nil _⟩ (fun i H3 _ hh => .inl (.inl (hh.1 _ _ hf))) ?_ ?_
        · rintro i x H3 hi ⟨s6, ts, hts, hR⟩
          obtain ⟨r, hr1, rfl⟩ := ref_at hi
          obtain ⟨hr2, _⟩ := hL.at_ i r hr1
          have hr3 := s6 _ _ hr2
          have hif : i < (lrun (pls ls) ls.length w).1.length := by rw [← hqf]; exact (List.getElem?_eq_some_iff.mp hr1).1
          have hsz : ((lrun (pls ls) ls.length w).1.getD i []).length ≤ w.length := sz.2 i
          have em : (((lrun (pls ls) ls.length w).1.getD i []).map fun n : Nat => (n : Int)).map V.int = ((lrun (pls ls) ls.length w).1.getD i []).map vN := by rw [List.map_map]; rfl
          refine ⟨rfl, _, rfl, r, ((lrun (pls ls) ls.length w).1.getD i []).map fun n : Nat => (n : Int), rfl, .inl (.inl (by rw [em]; exact hr3)), by rw [List.length_map]; omega, fun ns' p' pm sd hp' => ?_⟩
          have es := srt_int pm sd
          subst es
          refine ⟨p', _, rfl, .inl ⟨.inl (.inl upd_same), fun l hl => ?_⟩⟩
          have hDp : D ≠ p' := ne_of_none hts hp'
          have hts2 : upd H3 p' (.lst (((srt ((lrun (pls ls) ls.length w).1.getD i [])).map fun n : Nat => (n : Int)).map V.int)) D = some (.lst (ts.map V.ref)) := by rw [upd_ne hDp]; exact hts
          have hDl : D ≠ l := ne_of_none hts2 hl
          have hl3 : H3 l = none := by
            cases z : H3 l with
            | none => rfl
            | some o =>
              have : upd H3 p' (.lst (((srt ((lrun (pls ls) ls.length w).1.getD i [])).map fun n : Nat => (n : Int)).map V.int)) l = some o := by
                rw [upd_ne (ne_of_none z hp')]
                exact z
              rw [this] at hl
              cases hl
          have tl : ts.length ≤ 50 := by
            rw [hR.1, List.length_map, List.length_take]
            have := sz.1
            omega
          refine ⟨_, by rw [upd_ne hDl]; exact hts2, by rw [List.length_map]; exact small1000 (by omega), fun b o z => ?_, ts ++ [l], ?_, ?_⟩
          · have nb : b ≠ D := ne_of_none z hD
            have z3 := s6 _ _ z
            rw [upd_ne nb, upd_ne (ne_of_none z3 hl3), upd_ne (ne_of_none z3 hp')]
            exact z3
          · rw [upd_same, List.map_append]
            rfl
          · have etk : (lrun (pls ls) ls.length w).1.take (i + 1) = (lrun (pls ls) ls.length w).1.take i ++ [(lrun (pls ls) ls.length w).1.getD i []] := by
              rw [List.take_add_one, List.getD_eq_getElem?_getD, List.getElem?_eq_getElem hif]
              rfl
            rw [etk, List.map_append]
            have base1 : Rows (upd (upd (upd H3 p' (.lst (((srt ((lrun (pls ls) ls.length w).1.getD i [])).map fun n : Nat => (n : Int)).map V.int))) l (.tup (((srt ((lrun (pls ls) ls.length w).1.getD i [])).map fun n : Nat => (n : Int)).map V.int))) D (.lst (ts.map V.ref ++ [V.ref l]))) ts (((lrun (pls ls) ls.length w).1.take i).map srt) := by
              refine ⟨hR.1, fun j y ey => ?_⟩
              have z3 := hR.2 j y ey
              have ny : y ≠ D := ne_of z3 hts (by intro z; cases z)
              rw [upd_ne ny, upd_ne (ne_of_none z3 hl3), upd_ne (ne_of_none z3 hp')]
              exact z3
            refine base1.snoc ?_
            rw [upd_ne hDl.symm, upd_same, List.map_map]
            rfl
        · rintro H3 ⟨s6, ts, hts, hR⟩
          rw [List.length_map, hqf, List.take_length] at hR
          exact q _ _ ts ((old hb).trans s6) hts hR
end
end Plw

set_option maxHeartbeats 4000000
namespace Plw
open PySem L2 Trc
/-! ### the tuples and the layers as data, compared -/
def tupD (l : List Nat) : PyData := .tuple (l.map fun n : Nat => .int (n : Int))
def laysD (f : List (List Nat)) : PyData := .list (f.map tupD)
theorem eqv_ints : ∀ (l l' : List Nat), PyData.eqvAll (l.map fun n : Nat => PyData.int (n : Int)) (l'.map fun n : Nat => PyData.int (n : Int)) = decide (l = l')
  | [], [] => by simp [PyData.eqvAll]
  | [], b :: l' => by simp [PyData.eqvAll]
  | a :: l, [] => by simp [PyData.eqvAll]
  | a :: l, b :: l' => by
    have ih := eqv_ints l l'
    rw [List.map_cons, List.map_cons]
    unfold PyData.eqvAll
    rw [ih]
    have e : PyData.eqv (.int (a : Int)) (.int (b : Int)) = decide (a = b) := by
      unfold PyData.eqv
      rw [Bool.eq_iff_iff]
      simp
      omega
    rw [e, Bool.eq_iff_iff]
    simp
theorem eqv_tup (l l' : List Nat) : PyData.eqv (tupD l) (tupD l') = decide (l = l') := by
  unfold tupD PyData.eqv
  exact eqv_ints l l'
theorem eqv_tups : ∀ (f g : List (List Nat)), PyData.eqvAll (f.map tupD) (g.map tupD) = decide (f = g)
  | [], [] => by simp [PyData.eqvAll]
  | [], b :: l' => by simp [PyData.eqvAll]
  | a :: l, [] => by simp [PyData.eqvAll]
  | a :: l, b :: l' => by
    have ih := eqv_tups l l'
    rw [List.map_cons, List.map_cons]
    unfold PyData.eqvAll
    rw [ih, eqv_tup, Bool.eq_iff_iff]
    simp
theorem eqv_lays (f g : List (List Nat)) : PyData.eqv (laysD f) (laysD g) = decide (f = g) := by
  unfold laysD PyData.eqv
  exact eqv_tups f g
theorem dp_ints {K : PySem.W.Frag} {H : Hp} : ∀ l : List Nat, DpAll K H (l.map vN) (l.map fun n : Nat => PyData.int (n : Int))
  | [] => .nil
  | a :: l => .cons (.int _) (dp_ints l)
theorem dp_tup {K : PySem.W.Frag} {H : Hp} {a : Addr} {l : List Nat} (h : SqT K H a (l.map vN)) : Dp K H (.ref a) (tupD l) := .tup h (dp_ints l)
theorem dp_rows {K : PySem.W.Frag} {H : Hp} : ∀ {rs : List Addr} {f : List (List Nat)}, Rows H rs f → DpAll K H (rs.map V.ref) (f.map tupD)
  | [], [], _ => .nil
  | [], _ :: _, h => by cases h.1
  | _ :: _, [], h => by cases h.1
  | r :: rs, l :: f, h => .cons (dp_tup (seqT (h.2 0 r rfl))) (dp_rows ⟨Nat.succ.inj h.1, fun i q e => h.2 (i + 1) q e⟩)
theorem dp_lays {K : PySem.W.Frag} {H : Hp} {a : Addr} {rs : List Addr} {f : List (List Nat)} (h : SqL K H a (rs.map V.ref)) (r : Rows H rs f) : Dp K H (.ref a) (laysD f) := .lst h (dp_rows r)
theorem lay_ints : ∀ l : List Nat, PyData.canLayAll0 (l.map fun n : Nat => PyData.int (n : Int)) = true ∧ PyData.depthAll (l.map fun n : Nat => PyData.int (n : Int)) ≤ 1
  | [] => by simp [PyData.canLayAll0, PyData.depthAll]
  | a :: l => by
    have ih := lay_ints l
    simp only [List.map_cons, PyData.canLayAll0, PyData.canLay0, PyData.depthAll, PyData.depth, Bool.true_and]
    exact ⟨ih.1, by omega⟩
theorem lay_tups : ∀ f : List (List Nat), PyData.canLayAll0 (f.map tupD) = true ∧ PyData.depthAll (f.map tupD) ≤ 2
  | [] => by simp [PyData.canLayAll0, PyData.depthAll]
  | a :: l => by
    have ih := lay_tups l
    have ia := lay_ints a
    simp only [List.map_cons, PyData.canLayAll0, PyData.depthAll, tupD, PyData.canLay0, PyData.depth, Bool.and_eq_true]
    have h1 := ih.2
    have h2 := ia.2
    exact ⟨⟨ia.1, ih.1⟩, by omega⟩
theorem shaped_tup (l : List Nat) : SeqAt.shaped (tupD l) = true := by
  have h := lay_ints l
  unfold SeqAt.shaped tupD
  simp only [PyData.canLay0, PyData.depth, Bool.and_eq_true, decide_eq_true_eq]
  have h2 := h.2
  exact ⟨h.1, decide_eq_true (by omega)⟩
theorem shaped_lays (f : List (List Nat)) : SeqAt.shaped (laysD f) = true := by
  have h := lay_tups f
  unfold SeqAt.shaped laysD
  simp only [PyData.canLay0, PyData.depth, Bool.and_eq_true, decide_eq_true_eq]
  have h2 := h.2
  exact ⟨h.1, decide_eq_true (by omega)⟩
end Plw

set_option maxHeartbeats 4000000
namespace Plw
open PySem L2 Trc
theorem vN_in {xs : List Nat} {i : Nat} {x : V} (h : (xs.map vN)[i]? = some x) : ∃ n, xs[i]? = some n ∧ x = vN n := by
  rw [List.getElem?_map] at h
  cases e : xs[i]? with
  | none => rw [e] at h; cases h
  | some r => rw [e] at h; exact ⟨r, rfl, (Option.some.inj h).symm⟩
theorem proj_next {pl : Nat → List Nat} {p i a : Nat} {w : List Nat} (h : w[i]? = some a) : proj pl p (w.take (i + 1)) = proj pl p (w.take i) ++ if (pl a).contains p = true then [a] else [] := by
  rw [List.take_add_one, h, proj_append]
  congr 1
  by_cases e : p ∈ pl a
  · rw [if_pos (List.contains_iff_mem.mpr e)]
    show proj pl p [a] = [a]
    rw [proj_cons_in e]
    rfl
  · rw [if_neg (fun z => e (List.contains_iff_mem.mp z))]
    show proj pl p [a] = []
    rw [proj_cons_out e]
    rfl
theorem proj_len {pl : Nat → List Nat} {p : Nat} {w : List Nat} : (proj pl p w).length ≤ w.length := List.length_filter_le _ _
def spPlaceW (C : Addr) : Sp := fun vs H Q _ => ∃ (p wa : Addr) (k : Nat) (ls : List (List Nat)) (w : List Nat) (x : Nat), vs = [.ref p, .ref wa, vN x] ∧ Alp C H p k ls ∧ H wa = some (.tup (w.map vN)) ∧ (∀ a ∈ w, a < ls.length) ∧ w.length ≤ 500 ∧
  ∀ H' q, Same H H' → H' q = some (.tup ((proj (pls ls) x w).map vN)) → Q (.ref q) H'
def spPlace : Sp := fun vs H Q _ => ∃ (L wa : Addr) (rs : List Addr) (ls : List (List Nat)) (w : List Nat) (x : Nat), vs = [.ref L, .ref wa, vN x] ∧ H L = some (.lst (rs.map V.ref)) ∧ Rows H rs ls ∧ H wa = some (.tup (w.map vN)) ∧ (∀ a ∈ w, a < ls.length) ∧ w.length ≤ 500 ∧
  ∀ H' q, Same H H' → H' q = some (.tup ((proj (pls ls) x w).map vN)) → Q (.ref q) H'
def spEquiv (C : Addr) : Sp := fun vs H Q _ => ∃ (p a b : Addr) (k : Nat) (ls : List (List Nat)) (u v : List Nat), vs = [.ref p, .ref a, .ref b] ∧ Alp C H p k ls ∧ k ≤ 4 ∧ H a = some (.tup (u.map vN)) ∧ (∀ c ∈ u, c < ls.length) ∧ u.length ≤ 500 ∧ H b = some (.tup (v.map vN)) ∧ (∀ c ∈ v, c < ls.length) ∧ v.length ≤ 500 ∧
  ∀ H', Same H H' → Q (.bl (same (pls ls) k u v)) H'
def spAlike : Sp := fun vs H Q _ => ∃ (L a b : Addr) (k : Nat) (rs : List Addr) (ls : List (List Nat)) (u v : List Nat), vs = [vN k, .ref L, .ref a, .ref b] ∧ H L = some (.lst (rs.map V.ref)) ∧ Rows H rs ls ∧ k ≤ 4 ∧ H a = some (.tup (u.map vN)) ∧ (∀ c ∈ u, c < ls.length) ∧ u.length ≤ 500 ∧ H b = some (.tup (v.map vN)) ∧ (∀ c ∈ v, c < ls.length) ∧ v.length ≤ 500 ∧
  ∀ H', Same H H' → Q (.bl (same (pls ls) k u v)) H'
theorem same_no {pl : Nat → List Nat} {k i : Nat} {u v : List Nat} (h : i < k) (e : ¬ proj pl i u = proj pl i v) : same pl k u v = false := by
  cases z : same pl k u v with
  | false => rfl
  | true =>
    unfold same at z
    rw [List.all_eq_true] at z
    exact absurd (of_decide_eq_true (z i (List.mem_range.mpr h))) e
theorem same_yes {pl : Nat → List Nat} {k : Nat} {u v : List Nat} (h : ∀ i, i < k → proj pl i u = proj pl i v) : same pl k u v = true := by
  unfold same
  rw [List.all_eq_true]
  exact fun i hi => decide_eq_true (h i (List.mem_range.mp hi))
section
variable {P : Program} {w : World} {K : PySem.W.Frag} {mg : Str → Option Value} {base : Heap}
theorem scPlaceW : FnScope ["alphabet", "word", "place", "letter"] ["alphabet", "word", "place"] (defScope sPlaceW) := ⟨rfl, rfl, rfl, by decide +kernel, rfl, by decide +kernel, by decide +kernel⟩
theorem ok_placeW {f C : Addr} {fd : FuncData} (F : Fun K "place_word" "place_word" sPlaceW f fd) (T : Txt K mg C) : FnOk P w K mg base CX0 1 f fd ["alphabet", "word", "place"] (spPlaceW C) := by
  refine F.ok scPlaceW (fun vs H Q E h => ?_) (fun cdv A outer s H vs Q E hr h => ?_)
  · obtain ⟨p, wa, k, ls, w, x, rfl, _⟩ := h
    rfl
  · obtain ⟨p, wa, k, ls, w, x, rfl, al, hw, hlt, hlen, q⟩ := h
    refine ⟨_, pss_one (ps_ret (pe_callTy call_tuple_of (by rfl) T.tuple (by decide +kernel) (pa_cons
      (pe_lc (own := [("letter", 3)]) (g := gName 3) (tt := tTest (tOp (rIn K false) (tVar 2) (tOp (rIxT K) (tFld K (tVar 0) "letters") (tVar 3)))) (te := tVar 3) rfl scPlaceW.nd (pi_tup (pv 1))
        (blkOk_by (N := ["alphabet", "word", "place", "letter"]) (sc := defScope sPlaceW) (by decide +kernel)) (fun _ _ _ _ _ => pg_name (i := 3) scPlaceW.nd rfl (Or.inl rfl))
        (fun _ _ _ _ _ => pts_one (pt_cmpR op_in_seq (pv 2) (pe_ix ix_tup (pe_fld (pv 0) rfl) (pv 3) (fun _ _ => rfl)) rfl)) (fun _ _ _ _ _ => pv 3)) pa_nil))), ?_⟩
    refine ⟨_, rfl, wa, rfl, ⟨_, seqT hw⟩, fun D hD => ?_⟩
    refine lc_tup (K := K) (a := wa) (xs := w.map vN) (fun i H3 => Same H H3 ∧ H3 D = some (.lst ((proj (pls ls) x (w.take i)).map vN)))
      ⟨same_upd hD, upd_same⟩ (fun i H3 _ hh => seqT (hh.1 _ _ hw)) ?_ ?_
    · rintro i y H3 hi ⟨s3, hd⟩
      obtain ⟨a, ha, rfl⟩ := vN_in hi
      have haL : a < ls.length := hlt a (List.mem_of_getElem? ha)
      obtain ⟨dx, t, rs, h1, h2, h3⟩ := id (al.same s3)
      obtain ⟨r, er, tr⟩ := h3.get haL
      have ixr : atI (rs.map V.ref) (a : Int) = some (.ref r) := atI_nat (by rw [List.getElem?_map, er]; rfl)
      have pn := proj_next (pl := pls ls) (p := x) ha
      refine ⟨rfl, _, rfl, _, rfl, p, C, dx, _, _, rfl, h1, T.cl, T.nL, flds_letters _ _, _, rfl, t, _, _, _, rfl, rfl, seqT h2, ixr, r, _, rfl, .inr (seqT tr), rfl, flat_vN _, _, rfl, ?_⟩
      show if inV (vN x) ((ls.getD a []).map vN) = true then _ else _
      rw [inV_vN]
      cases e : (ls.getD a []).contains x with
      | true =>
        have e' : (pls ls a).contains x = true := e
        rw [e', if_pos rfl] at pn
        refine iteT ⟨_, rfl, _, hd, ?_, fun b o z => ?_, ?_⟩
        · rw [List.length_map]
          refine small1000 (Nat.le_trans proj_len ?_)
          rw [List.length_take]
          omega
        · rw [upd_ne (ne_of_none z hD)]
          exact s3 _ _ z
        · rw [upd_same, pn, List.map_append]
          rfl
      | false =>
        have e' : (pls ls a).contains x = false := e
        rw [e', if_neg Bool.false_ne_true, List.append_nil] at pn
        refine iteF ⟨s3, ?_⟩
        rw [pn]
        exact hd
    · rintro H3 ⟨s3, hd⟩
      rw [List.length_map, List.take_length] at hd
      exact ⟨D, _, rfl, .inl ⟨.inl (.inl hd), fun l hl => q _ _ (s3.trans (same_upd hl)) upd_same⟩⟩
theorem scPlace : FnScope ["_law_letters", "_law_word_here", "_law_place_here", "_law_letter"] ["_law_letters", "_law_word_here", "_law_place_here"] (defScope sPlace) := ⟨rfl, rfl, rfl, by decide +kernel, rfl, by decide +kernel, by decide +kernel⟩
theorem ok_place {f C : Addr} {fd : FuncData} (F : Fun K "_law_place" "_law_place" sPlace f fd) (T : Txt K mg C) : FnOk P w K mg base CX0 1 f fd ["_law_letters", "_law_word_here", "_law_place_here"] spPlace := by
  refine F.ok scPlace (fun vs H Q E h => ?_) (fun cdv A outer s H vs Q E hr h => ?_)
  · obtain ⟨p, wa, k, ls, w, x, rfl, _⟩ := h
    rfl
  · obtain ⟨L, wa, rs, ls, w, x, rfl, hLs, hRs, hw, hlt, hlen, q⟩ := h
    refine ⟨_, pss_one (ps_ret (pe_callTy call_tuple_of (by rfl) T.tuple (by decide +kernel) (pa_cons
      (pe_lc (own := [("_law_letter", 3)]) (g := gName 3) (tt := tTest (tOp (rIn K false) (tVar 2) (tOp (rIxL K) (tVar 0) (tVar 3)))) (te := tVar 3) rfl scPlace.nd (pi_tup (pv 1))
        (blkOk_by (N := ["_law_letters", "_law_word_here", "_law_place_here", "_law_letter"]) (sc := defScope sPlace) (by decide +kernel)) (fun _ _ _ _ _ => pg_name (i := 3) scPlace.nd rfl (Or.inl rfl))
        (fun _ _ _ _ _ => pts_one (pt_cmpR op_in_seq (pv 2) (pe_ix ix_list (pv 0) (pv 3) (fun _ _ => rfl)) rfl)) (fun _ _ _ _ _ => pv 3)) pa_nil))), ?_⟩
    refine ⟨_, rfl, wa, rfl, ⟨_, seqT hw⟩, fun D hD => ?_⟩
    refine lc_tup (K := K) (a := wa) (xs := w.map vN) (fun i H3 => Same H H3 ∧ H3 D = some (.lst ((proj (pls ls) x (w.take i)).map vN)))
      ⟨same_upd hD, upd_same⟩ (fun i H3 _ hh => seqT (hh.1 _ _ hw)) ?_ ?_
    · rintro i y H3 hi ⟨s3, hd⟩
      obtain ⟨a, ha, rfl⟩ := vN_in hi
      have haL : a < ls.length := hlt a (List.mem_of_getElem? ha)
      obtain ⟨r, er, tr⟩ := (hRs.same s3).get haL
      have ixr : atI (rs.map V.ref) (a : Int) = some (.ref r) := atI_nat (by rw [List.getElem?_map, er]; rfl)
      have pn := proj_next (pl := pls ls) (p := x) ha
      refine ⟨rfl, _, rfl, _, rfl, _, rfl, L, _, _, _, rfl, rfl, .inl (.inl (s3 _ _ hLs)), ixr, r, _, rfl, .inr (seqT tr), rfl, flat_vN _, _, rfl, ?_⟩
      show if inV (vN x) ((ls.getD a []).map vN) = true then _ else _
      rw [inV_vN]
      cases e : (ls.getD a []).contains x with
      | true =>
        have e' : (pls ls a).contains x = true := e
        rw [e', if_pos rfl] at pn
        refine iteT ⟨_, rfl, _, hd, ?_, fun b o z => ?_, ?_⟩
        · rw [List.length_map]
          refine small1000 (Nat.le_trans proj_len ?_)
          rw [List.length_take]
          omega
        · rw [upd_ne (ne_of_none z hD)]
          exact s3 _ _ z
        · rw [upd_same, pn, List.map_append]
          rfl
      | false =>
        have e' : (pls ls a).contains x = false := e
        rw [e', if_neg Bool.false_ne_true, List.append_nil] at pn
        refine iteF ⟨s3, ?_⟩
        rw [pn]
        exact hd
    · rintro H3 ⟨s3, hd⟩
      rw [List.length_map, List.take_length] at hd
      exact ⟨D, _, rfl, .inl ⟨.inl (.inl hd), fun l hl => q _ _ (s3.trans (same_upd hl)) upd_same⟩⟩
theorem scEquiv : FnScope ["alphabet", "first", "second", "place"] ["alphabet", "first", "second"] (defScope sEquiv) := ⟨rfl, rfl, rfl, by decide +kernel, rfl, by decide +kernel, by decide +kernel⟩
theorem ok_equiv {f fP C : Addr} {fd fdP : FuncData} (F : Fun K "equivalent" "equivalent" sEquiv f fd) (T : Txt K mg C) (FP : Fun K "place_word" "place_word" sPlaceW fP fdP) (bP : Binds K fdP ["alphabet", "word", "place"] []) (mP : mg "place_word" = some (.ref fP)) :
    FnOk P w K mg base CX0 2 f fd ["alphabet", "first", "second"] (spEquiv C) := by
  have GP : FnOk P w K mg base CX0 1 fP fdP ["alphabet", "word", "place"] (spPlaceW C) := ok_placeW FP T
  refine F.ok scEquiv (fun vs H Q E h => ?_) (fun cdv A outer s H vs Q E hr h => ?_)
  · obtain ⟨p, a, b, k, ls, u, v, rfl, _⟩ := h
    rfl
  · obtain ⟨p, a, b, k, ls, u, v, rfl, al, hk, ha, hua, hul, hb, hvb, hvl, q⟩ := h
    refine ⟨_, pss_cons (ps_for PassesOwn.never rfl (pi_range1 rfl T.range (pa_cons (pe_fld (pv 0) rfl) pa_nil)) (pg_name (i := 3) scEquiv.nd rfl (Or.inl rfl))
        (pss_one (ps_if (pt_cmpR (op_neD hr.units) (pe_call GP hr rfl mP FP.kp bP .nil pass0 (pa_cons (pv 0) (pa_cons (pv 1) (pa_cons (pv 3) pa_nil))))
          (pe_call GP hr rfl mP FP.kp bP .nil pass0 (pa_cons (pv 0) (pa_cons (pv 2) (pa_cons (pv 3) pa_nil)))) (nomark _)) (pss_one (ps_ret pe_bl)) pss_nil)))
      (pss_one (ps_ret pe_bl)), ?_⟩
    obtain ⟨dx, t, rs, h1, h2, h3⟩ := id al
    refine ⟨_, rfl, p, C, dx, _, _, rfl, h1, T.cl, T.nP, flds_places _ _, _, rfl, by omega, by omega,
      for_range (fun i σ H' => Same H H' ∧ (∃ v', σ = [some (.ref p), some (.ref a), some (.ref b), v']) ∧ ∀ j, j < i → proj (pls ls) j u = proj (pls ls) j v) ⟨Same.refl H, ⟨none, rfl⟩, fun j h => by cases h⟩ ?_ ?_⟩
    · rintro i σ H' hi ⟨s1, ⟨v', rfl⟩, hall⟩
      have hik : i < k := by omega
      have e1 : (0 : Int) + (i : Int) = (i : Int) := Int.zero_add _
      rw [e1]
      refine ⟨_, rfl, _, rfl, _, rfl, p, a, k, ls, u, i, rfl, al.same s1, s1 _ _ ha, hua, hul, fun H2 q1 s2 hq1 => ?_⟩
      have s12 := s1.trans s2
      refine ⟨_, rfl, _, rfl, _, rfl, p, b, k, ls, v, i, rfl, al.same s12, s12 _ _ hb, hvb, hvl, fun H3 q2 s3 hq2 => ?_⟩
      refine ⟨tupD (proj (pls ls) i u), tupD (proj (pls ls) i v), dp_tup (seqT (s3 _ _ hq1)), dp_tup (seqT hq2), shaped_tup _, shaped_tup _, _, rfl, ?_⟩
      show if (!PyData.eqv (tupD (proj (pls ls) i u)) (tupD (proj (pls ls) i v))) = true then _ else _
      rw [eqv_tup]
      have s123 := s12.trans s3
      by_cases e : proj (pls ls) i u = proj (pls ls) i v
      · rw [decide_eq_true e]
        refine iteF ⟨s123, ⟨_, rfl⟩, fun j hj => ?_⟩
        rcases Nat.lt_succ_iff_lt_or_eq.mp hj with z | z
        · exact hall j z
        · rw [z]
          exact e
      · rw [decide_eq_false e]
        refine iteT ?_
        have := q _ s123
        rw [same_no hik e] at this
        exact this
    · rintro σ H' ⟨s1, ⟨v', rfl⟩, hall⟩
      have := q _ s1
      rw [same_yes fun i hi => hall i (by omega)] at this
      exact this
theorem scAlike : FnScope ["_law_count", "_law_letters", "_law_first", "_law_second", "_law_place_here"] ["_law_count", "_law_letters", "_law_first", "_law_second"] (defScope sAlike) := ⟨rfl, rfl, rfl, by decide +kernel, rfl, by decide +kernel, by decide +kernel⟩
theorem ok_alike {f fP C : Addr} {fd fdP : FuncData} (F : Fun K "_law_alike" "_law_alike" sAlike f fd) (T : Txt K mg C) (FP : Fun K "_law_place" "_law_place" sPlace fP fdP) (bP : Binds K fdP ["_law_letters", "_law_word_here", "_law_place_here"] []) (mP : mg "_law_place" = some (.ref fP)) :
    FnOk P w K mg base CX0 2 f fd ["_law_count", "_law_letters", "_law_first", "_law_second"] spAlike := by
  have GP : FnOk P w K mg base CX0 1 fP fdP ["_law_letters", "_law_word_here", "_law_place_here"] spPlace := ok_place FP T
  refine F.ok scAlike (fun vs H Q E h => ?_) (fun cdv A outer s H vs Q E hr h => ?_)
  · obtain ⟨p, a, b, k, rs, ls, u, v, rfl, _⟩ := h
    rfl
  · obtain ⟨L, a, b, k, rs, ls, u, v, rfl, hL, hR, hk, ha, hua, hul, hb, hvb, hvl, q⟩ := h
    refine ⟨_, pss_cons (ps_for PassesOwn.never rfl (pi_range1 rfl T.range (pa_cons (pv 0) pa_nil)) (pg_name (i := 4) scAlike.nd rfl (Or.inl rfl))
        (pss_one (ps_if (pt_cmpR (op_neD hr.units) (pe_call GP hr rfl mP FP.kp bP .nil pass0 (pa_cons (pv 1) (pa_cons (pv 2) (pa_cons (pv 4) pa_nil))))
          (pe_call GP hr rfl mP FP.kp bP .nil pass0 (pa_cons (pv 1) (pa_cons (pv 3) (pa_cons (pv 4) pa_nil)))) (nomark _)) (pss_one (ps_ret pe_bl)) pss_nil)))
      (pss_one (ps_ret pe_bl)), ?_⟩
    refine ⟨_, rfl, _, rfl, by omega, by omega,
      for_range (fun i σ H' => Same H H' ∧ (∃ v', σ = [some (vN k), some (.ref L), some (.ref a), some (.ref b), v']) ∧ ∀ j, j < i → proj (pls ls) j u = proj (pls ls) j v) ⟨Same.refl H, ⟨none, rfl⟩, fun j h => by cases h⟩ ?_ ?_⟩
    · rintro i σ H' hi ⟨s1, ⟨v', rfl⟩, hall⟩
      have hik : i < k := by omega
      have e1 : (0 : Int) + (i : Int) = (i : Int) := Int.zero_add _
      rw [e1]
      refine ⟨_, rfl, _, rfl, _, rfl, L, a, rs, ls, u, i, rfl, s1 _ _ hL, hR.same s1, s1 _ _ ha, hua, hul, fun H2 q1 s2 hq1 => ?_⟩
      have s12 := s1.trans s2
      refine ⟨_, rfl, _, rfl, _, rfl, L, b, rs, ls, v, i, rfl, s12 _ _ hL, hR.same s12, s12 _ _ hb, hvb, hvl, fun H3 q2 s3 hq2 => ?_⟩
      refine ⟨tupD (proj (pls ls) i u), tupD (proj (pls ls) i v), dp_tup (seqT (s3 _ _ hq1)), dp_tup (seqT hq2), shaped_tup _, shaped_tup _, _, rfl, ?_⟩
      show if (!PyData.eqv (tupD (proj (pls ls) i u)) (tupD (proj (pls ls) i v))) = true then _ else _
      rw [eqv_tup]
      have s123 := s12.trans s3
      by_cases e : proj (pls ls) i u = proj (pls ls) i v
      · rw [decide_eq_true e]
        refine iteF ⟨s123, ⟨_, rfl⟩, fun j hj => ?_⟩
        rcases Nat.lt_succ_iff_lt_or_eq.mp hj with z | z
        · exact hall j z
        · rw [z]
          exact e
      · rw [decide_eq_false e]
        refine iteT ?_
        have := q _ s123
        rw [same_no hik e] at this
        exact this
    · rintro σ H' ⟨s1, ⟨v', rfl⟩, hall⟩
      have := q _ s1
      rw [same_yes fun i hi => hall i (by omega)] at this
      exact this
end
end Plw

set_option maxHeartbeats 4000000
namespace Plw
open PySem L2 Trc
theorem set_vN {l : List Nat} {i a : Nat} : (l.map vN).set i (vN a) = (l.set i a).map vN := List.map_set.symm
theorem swap1_len (x : List Nat) (i : Nat) : (swap1 x i).length = x.length := by simp [swap1]
theorem swap1_mem {x : List Nat} {i c : Nat} (h : c ∈ swap1 x i) (hi : i + 1 < x.length) : c ∈ x := by
  rcases List.mem_or_eq_of_mem_set h with h | h
  · rcases List.mem_or_eq_of_mem_set h with h | h
    · exact h
    · rw [h]
      exact gd_mem hi
  · rw [h]
    exact gd_mem (by omega)
def spSwapped (C : Addr) : Sp := fun vs H Q _ => ∃ (p wa pa : Addr) (k : Nat) (ls : List (List Nat)) (u v ps : List Nat), vs = [.ref p, .ref wa, .ref pa] ∧ Alp C H p k ls ∧ H wa = some (.tup (u.map vN)) ∧ (∀ c ∈ u, c < ls.length) ∧ H pa = some (.lst (ps.map vN)) ∧ u.length ≤ 500 ∧
  runS (pls ls) u ps = some v ∧ ∀ H' q, Same H H' → H' q = some (.tup (v.map vN)) → Q (.ref q) H'
section
variable {P : Program} {w : World} {K : PySem.W.Frag} {mg : Str → Option Value} {base : Heap}
theorem scSwapped : FnScope ["alphabet", "word", "positions", "now", "at"] ["alphabet", "word", "positions"] (defScope sSwapped) := ⟨rfl, rfl, rfl, by decide +kernel, rfl, by decide +kernel, by decide +kernel⟩
theorem ok_swapped {f fI C : Addr} {fd fdI : FuncData} (F : Fun K "swapped" "swapped" sSwapped f fd) (T : Txt K mg C) (FI : Fun K "independent" "independent" sIndep fI fdI) (bI : Binds K fdI ["alphabet", "first", "second"] []) (mI : mg "independent" = some (.ref fI)) :
    FnOk P w K mg base CX0 2 f fd ["alphabet", "word", "positions"] (spSwapped C) := by
  have GI : FnOk P w K mg base CX0 1 fI fdI ["alphabet", "first", "second"] (spIndep C) := ok_indep FI T
  refine F.ok scSwapped (fun vs H Q E h => ?_) (fun cdv A outer s H vs Q E hr h => ?_)
  · obtain ⟨p, wa, pa, k, ls, u, v, ps, rfl, _⟩ := h
    rfl
  · obtain ⟨p, wa, pa, k, ls, u, v, ps, rfl, al, hw, hlt, hp, hlen, hrun, q⟩ := h
    refine ⟨_, pss_cons (ps_set (i := 3) scSwapped.nd rfl (Or.inl rfl) (pe_callTy call_list_of (by rfl) T.list (by decide +kernel) (pa_cons (pv 1) pa_nil)))
      (pss_cons (ps_for PassesOwn.never rfl (pi_list (pv 2)) (pg_name (i := 4) scSwapped.nd rfl (Or.inl rfl))
        (pss_cons (ps_if (PW.pt (pw_or (pt_cmpR op_lt (pv 4) pe_int (nomark _)) (pw_or (pt_cmpR op_ge (pe_op op_add (pv 4) pe_int) (pe_callB call_len_seq (by rfl) T.len PySem.boot_len (pa_cons (pv 3) pa_nil)) (nomark _))
            (pw_or1 (pt_not (pt_val (pe_call GI hr rfl mI FI.kp bI .nil pass0 (pa_cons (pv 0) (pa_cons (pe_ix ix_list (pv 3) (pv 4) (fun _ _ => rfl)) (pa_cons (pe_ix ix_list (pv 3) (pe_op op_add (pv 4) pe_int) (fun _ _ => rfl)) pa_nil))))))))))
            (pss_one (ps_ret pe_non)) pss_nil)
        (pss_one (ps_asg (pe_tup (pa_cons (pe_ix ix_list (pv 3) (pe_op op_add (pv 4) pe_int) (fun _ _ => rfl)) (pa_cons (pe_ix ix_list (pv 3) (pv 4) (fun _ _ => rfl)) pa_nil)))
          (pg_tup rfl (pgs_cons (pg_sub (pv 3) (pv 4) set_list) (pgs_cons (pg_sub (pv 3) (pe_op op_add (pv 4) pe_int) set_list) pgs_nil)))))))
      (pss_one (ps_ret (pe_callTy call_tuple_of (by rfl) T.tuple (by decide +kernel) (pa_cons (pv 3) pa_nil))))), ?_⟩
    refine ⟨_, rfl, wa, _, rfl, .inr (seqT hw), fun l hl => ?_⟩
    have s1 : Same H (upd H l (.lst (u.map vN))) := same_upd hl
    have hp1 := s1 _ _ hp
    have npl : pa ≠ l := ne_of_none hp hl
    refine ⟨_, rfl, pa, rfl, ⟨_, .inl (.inl hp1)⟩, for_list (K := K) (a := pa) (xs := ps.map vN) (fun i σ H' => Same H H' ∧ ∃ (x : List Nat) (v' : Option V), H' l = some (.lst (x.map vN)) ∧ σ = [some (.ref p), some (.ref wa), some (.ref pa), some (.ref l), v'] ∧ x.length = u.length ∧ (∀ c ∈ x, c < ls.length) ∧ runS (pls ls) x (ps.drop i) = some v)
      ⟨s1, u, none, upd_same, rfl, rfl, hlt, hrun⟩ (fun i σ H' _ hh => .inl (.inl (hh.1 _ _ hp))) ?_ ?_⟩
    · rintro i y σ H' hi ⟨s2, x, v', hx, rfl, hxl, hxlt, hrx⟩
      obtain ⟨j, hj, rfl⟩ := vN_in hi
      rw [drop_at hj] at hrx
      have hrx' : (if canSwap (pls ls) x j = true then runS (pls ls) (swap1 x j) (ps.drop (i + 1)) else none) = some v := hrx
      have cs : canSwap (pls ls) x j = true := by
        cases z : canSwap (pls ls) x j with
        | true => rfl
        | false =>
          rw [z, if_neg Bool.false_ne_true] at hrx'
          cases hrx'
      rw [cs, if_pos rfl] at hrx'
      have cs2 : j + 1 < x.length ∧ dep (pls ls) (x.getD j 0) (x.getD (j + 1) 0) = false := by
        unfold canSwap at cs
        rw [Bool.and_eq_true, decide_eq_true_iff, Bool.not_eq_true'] at cs
        exact cs
      obtain ⟨c1, c2⟩ := cs2
      have ix0 := ix_vN (l := x) (i := j) (by omega)
      have ix1 : atI (x.map vN) ((j : Int) + 1) = some (vN (x.getD (j + 1) 0)) := ix_vN (l := x) (i := j + 1) c1
      have al2 := al.same s2
      refine ⟨_, rfl, _, _, rfl, rfl, _, rfl, ?_⟩
      rw [decide_eq_false (by omega)]
      refine iteF ⟨_, rfl, _, _, rfl, rfl, _, rfl, l, _, rfl, .inl (.inl (.inl hx)), _, _, rfl, rfl, _, rfl, ?_⟩
      rw [decide_eq_false (by rw [List.length_map]; omega)]
      refine iteF ⟨_, rfl, _, rfl, _, rfl, l, _, _, _, rfl, rfl, .inl (.inl hx), ix0, _, rfl, _, rfl, _, _, rfl, rfl, l, _, _, _, rfl, rfl, .inl (.inl hx), ix1, p, k, ls, _, _, rfl, al2, hxlt _ (gd_mem (by omega)), hxlt _ (gd_mem c1), _, rfl, ?_⟩
      rw [c2]
      refine iteF ⟨_, rfl, _, rfl, _, _, rfl, rfl, l, _, _, _, rfl, rfl, .inl (.inl hx), ix1, _, rfl, _, rfl, l, _, _, _, rfl, rfl, .inl (.inl hx), ix0, by show 2 ≤ sizeLine; decide, fun t ht => ?_⟩
      have nlt : l ≠ t := ne_of_none hx ht
      refine ⟨t, _, rfl, seqT upd_same, rfl, _, _, rfl, _, rfl, _, rfl, l, _, _, j, rfl, rfl, by rw [upd_ne nlt]; exact hx, ixn (by rw [List.length_map]; omega), ?_⟩
      have e1 : (x.map vN).set j (vN (x.getD (j + 1) 0)) = (x.set j (x.getD (j + 1) 0)).map vN := set_vN
      rw [e1]
      refine ⟨_, _, rfl, _, rfl, _, rfl, _, _, rfl, rfl, l, _, _, j + 1, rfl, rfl, upd_same, ixn (j := j + 1) (by rw [List.length_map, List.length_set]; exact c1), ?_⟩
      have e2 : ((x.set j (x.getD (j + 1) 0)).map vN).set (j + 1) (vN (x.getD j 0)) = (swap1 x j).map vN := set_vN
      rw [e2]
      refine ⟨rfl, fun b o z => ?_, swap1 x j, _, upd_same, rfl, by rw [swap1_len]; exact hxl, fun c hc => hxlt c (swap1_mem hc c1), hrx'⟩
      have z2 := s2 _ _ z
      rw [upd_ne (ne_of_none z hl), upd_ne (ne_of_none z hl), upd_ne (ne_of_none z2 ht)]
      exact z2
    · rintro σ H' ⟨s2, x, v', hx, rfl, hxl, hxlt, hrx⟩
      rw [List.length_map, List.drop_length] at hrx
      have : x = v := Option.some.inj hrx
      subst this
      exact ⟨_, rfl, l, _, rfl, .inl ⟨.inl (.inl hx), fun g hg => q _ _ (s2.trans (same_upd hg)) upd_same⟩⟩
end
end Plw

set_option maxHeartbeats 4000000
namespace Plw
open PySem L2 Trc
def spSwaps (C : Addr) : Sp := fun vs H Q _ => ∃ (p a b : Addr) (k : Nat) (ls : List (List Nat)) (u v : List Nat), vs = [.ref p, .ref a, .ref b] ∧ Alp C H p k ls ∧ AlOk k ls ∧ H a = some (.tup (u.map vN)) ∧ (∀ c ∈ u, c < ls.length) ∧ u.length ≤ 50 ∧ H b = some (.tup (v.map vN)) ∧ (∀ c ∈ v, c < ls.length) ∧ v.length ≤ 50 ∧
  (same (pls ls) k u v = false → ∀ H', Same H H' → Q .non H') ∧
  (same (pls ls) k u v = true → ∀ H' q ps, Same H H' → H' q = some (.lst (ps.map vN)) → runS (pls ls) u ps = some v → Q (.ref q) H')
theorem at_app {A B : List Nat} {j n : Nat} (h : B[j]? = some n) (e : Nat) (he : e = A.length + j) : atI ((A ++ B).map vN) (e : Int) = some (vN n) := atI_nat (vN_at (by
  subst he
  rw [List.getElem?_append_right (Nat.le_add_right _ _), Nat.add_sub_cancel_left]
  exact h))
section
variable {P : Program} {w : World} {K : PySem.W.Frag} {mg : Str → Option Value} {base : Heap}
theorem scSwaps : FnScope ["alphabet", "first", "second", "now", "found", "k", "at"] ["alphabet", "first", "second"] (defScope sSwaps) := ⟨rfl, rfl, rfl, by decide +kernel, rfl, by decide +kernel, by decide +kernel⟩
theorem ok_swaps {f fE C : Addr} {fd fdE : FuncData} (F : Fun K "swaps" "swaps" sSwaps f fd) (T : Txt K mg C) (GE : FnOk P w K mg base CX0 2 fE fdE ["alphabet", "first", "second"] (spEquiv C)) (kE : PySem.W.keepIn K (.ref fE) = true) (bE : Binds K fdE ["alphabet", "first", "second"] []) (mE : mg "equivalent" = some (.ref fE)) :
    FnOk P w K mg base CX0 3 f fd ["alphabet", "first", "second"] (spSwaps C) := by
  refine F.ok scSwaps (fun vs H Q E h => ?_) (fun cdv A outer s H vs Q E hr h => ?_)
  · obtain ⟨p, a, b, k, ls, u, v, rfl, _⟩ := h
    rfl
  · obtain ⟨p, a, b, k, ls, u, v, rfl, al, ok, ha, hua, hul, hb, hvb, hvl, q0, q1⟩ := h
    refine ⟨_, pss_cons (ps_if (pt_not (pt_val (pe_call GE hr rfl mE kE bE .nil pass0 (pa_cons (pv 0) (pa_cons (pv 1) (pa_cons (pv 2) pa_nil)))))) (pss_one (ps_ret pe_non)) pss_nil)
      (pss_cons (ps_set (i := 3) scSwaps.nd rfl (Or.inl rfl) (pe_callTy call_list_of (by rfl) T.list (by decide +kernel) (pa_cons (pv 1) pa_nil)))
      (pss_cons (ps_set (i := 4) scSwaps.nd rfl (Or.inl rfl) (pe_lst pa_nil))
      (pss_cons (ps_for PassesOwn.never rfl (pi_range1 rfl T.range (pa_cons (pe_callB call_len_seq (by rfl) T.len PySem.boot_len (pa_cons (pv 2) pa_nil)) pa_nil)) (pg_name (i := 5) scSwaps.nd rfl (Or.inl rfl))
        (pss_cons (ps_set (i := 6) scSwaps.nd rfl (Or.inl rfl) (pv 5))
        (pss_cons (ps_while PassesOwn.never (pt_cmpR op_ne (pe_ix ix_list (pv 3) (pv 6) (fun _ _ => rfl)) (pe_ix ix_tup (pv 2) (pv 5) (fun _ _ => rfl)) (nomark _))
          (pss_one (ps_aug (i := 6) scSwaps.nd rfl (Or.inl rfl) pe_int ip_add)))
        (pss_one (ps_while PassesOwn.never (pt_cmpR op_gt (pv 6) (pv 5) (nomark _))
          (pss_cons (ps_asg (pe_tup (pa_cons (pe_ix ix_list (pv 3) (pv 6) (fun _ _ => rfl)) (pa_cons (pe_ix ix_list (pv 3) (pe_op op_sub (pv 6) pe_int) (fun _ _ => rfl)) pa_nil)))
            (pg_tup rfl (pgs_cons (pg_sub (pv 3) (pe_op op_sub (pv 6) pe_int) set_list) (pgs_cons (pg_sub (pv 3) (pv 6) set_list) pgs_nil))))
          (pss_cons (ps_aug (i := 6) scSwaps.nd rfl (Or.inl rfl) pe_int ip_sub)
          (pss_one (ps_expr (pe_bm PySem.F.plainAttrs_list PySem.F.slot_list_append PySem.F.type_list_append mt_append (pv 4) (pa_cons (pv 6) pa_nil)))))))))))
      (pss_one (ps_ret (pv 4)))))), ?_⟩
    refine ⟨_, rfl, _, rfl, _, rfl, p, a, b, k, ls, u, v, rfl, al, ok.k4, ha, hua, by omega, hb, hvb, by omega, fun H1 s1 => ⟨_, rfl, ?_⟩⟩
    cases hs : same (pls ls) k u v with
    | false => exact iteT (q0 hs _ s1)
    | true =>
      refine iteF ?_
      have fu := ok.full hua
      have fv := ok.full hvb
      have sim : Sim (pls ls) u v := (same_iff (ok.bd hua) (ok.bd hvb)).mp hs
      refine ⟨_, rfl, a, _, rfl, .inr (seqT (s1 _ _ ha)), fun nw hnw => ?_⟩
      refine ⟨Nat.zero_le _, fun fo hfo => ?_⟩
      have s2 : Same H (upd H1 nw (.lst (u.map vN))) := s1.trans (same_upd hnw)
      have s3 : Same H (upd (upd H1 nw (.lst (u.map vN))) fo (.lst [])) := s2.trans (same_upd hfo)
      have nnf : nw ≠ fo := fun z => by rw [← z, upd_same] at hfo; cases hfo
      have hnw0 : H nw = none := s1.free hnw
      have hfo0 : H fo = none := s2.free hfo
      have hbL : ∀ {H' : Hp}, Same H H' → SqT K H' b (v.map vN) := fun {H'} h => seqT (h _ _ hb)
      refine ⟨_, rfl, b, _, rfl, .inr (hbL s3), _, rfl, by rw [List.length_map]; omega, by rw [List.length_map]; omega,
        for_range (fun i σ H' => Same H H' ∧ (∃ v5 v6, σ = [some (.ref p), some (.ref a), some (.ref b), some (.ref nw), some (.ref fo), v5, v6]) ∧
          ∃ r ps : List Nat, H' nw = some (.lst ((v.take i ++ r).map vN)) ∧ H' fo = some (.lst (ps.map vN)) ∧ ps.length ≤ i * 50 ∧ runS (pls ls) u ps = some (v.take i ++ r) ∧ Sim (pls ls) r (v.drop i) ∧ (∀ c ∈ r, c < ls.length) ∧ r.length ≤ 50)
          ⟨s3, ⟨none, none, rfl⟩, u, [], by rw [upd_ne nnf, upd_same]; rfl, upd_same, Nat.zero_le _, rfl, sim, hua, hul⟩ ?_ ?_⟩
      · rintro i σ H' hi ⟨s4, ⟨v5, v6, rfl⟩, r, ps, hn4, hf4, hpl, hrun, hsim, hrlt, hrl⟩
        rw [List.length_map] at hi
        have hi' : i < v.length := by omega
        have e1 : (0 : Int) + (i : Int) = (i : Int) := Int.zero_add _
        rw [e1]
        have hvi : v[i]? = some (v.getD i 0) := gd hi'
        have tkl : (v.take i).length = i := by rw [List.length_take]; omega
        have pc : pls ls (v.getD i 0) ≠ [] := fv _ (gd_mem hi')
        have ixv := ix_vN (l := v) hi'
        have tk1 : v.take (i + 1) = v.take i ++ [v.getD i 0] := by
          rw [List.take_add_one, hvi]
          rfl
        rw [drop_at hvi] at hsim
        generalize hc : v.getD i 0 = c at *
        -- at = k; while now[at] != second[k]: at += 1
        refine ⟨_, rfl, ?_⟩
        refine ⟨fun m σ H'' => H'' = H' ∧ ∃ j : Nat, j ≤ 50 ∧ m = 50 - j ∧ σ = [some (.ref p), some (.ref a), some (.ref b), some (.ref nw), some (.ref fo), some (vN i), some (vN (i + j))] ∧ ∀ t, t < j → r[t]? ≠ some c,
          ⟨50, rfl, 0, by omega, rfl, rfl, fun t ht => by cases ht⟩, ?_⟩
        rintro m σ H'' ⟨rfl, j, hj50, rfl, rfl, hno⟩
        have hjr : j < r.length := first_there pc hsim hno
        have hrj : r[j]? = some (r.getD j 0) := gd hjr
        refine ⟨_, rfl, _, rfl, nw, _, _, _, rfl, rfl, .inl (.inl hn4), at_app hrj (i + j) (by rw [tkl]), _, rfl, _, rfl, b, _, _, _, rfl, rfl, hbL s4, ixv, rfl, _, rfl, ?_⟩
        by_cases e : r.getD j 0 = c
        · -- found: while at > k
          rw [decide_eq_true (by rw [e])]
          refine iteF ?_
          have hjc : r[j]? = some c := by rw [hrj, e]
          obtain ⟨x, y, rfl, hxl, hxi, hxs⟩ := first_at pc hsim hjc hno
          refine ⟨fun m σ H2 => Same H H2 ∧ ∃ x1 x2 ps' : List Nat, m = x1.length ∧ x1 ++ x2 = x ∧ σ = [some (.ref p), some (.ref a), some (.ref b), some (.ref nw), some (.ref fo), some (vN i), some (vN (i + x1.length))] ∧
              H2 nw = some (.lst ((v.take i ++ x1 ++ c :: (x2 ++ y)).map vN)) ∧ H2 fo = some (.lst (ps'.map vN)) ∧ ps'.length + x1.length ≤ i * 50 + j ∧ runS (pls ls) u ps' = some (v.take i ++ x1 ++ c :: (x2 ++ y)),
            ⟨_, s4, x, [], ps, rfl, by simp, by rw [hxl], by rw [hn4, List.append_assoc]; rfl, hf4, by omega, by rw [hrun, List.append_assoc]; rfl⟩, ?_⟩
          rintro m σ H2 ⟨s5, x1, x2, ps', rfl, hx12, rfl, hn5, hf5, hpl5, hrun5⟩
          refine ⟨_, rfl, _, rfl, _, _, rfl, rfl, _, rfl, ?_⟩
          rcases List.eq_nil_or_concat x1 with rfl | ⟨z, bb, rfl⟩
          · -- at = k
            rw [decide_eq_false (by show ¬ ((i : Int) < ((i + 0 : Nat) : Int)); omega)]
            refine iteF ⟨s5, ⟨_, _, rfl⟩, x2 ++ y, ps', ?_, hf5, ?_, ?_, ?_, ?_, ?_⟩
            · rw [hn5, tk1, List.append_nil, List.append_assoc]
              rfl
            · have : ([] : List Nat).length = 0 := rfl
              omega
            · rw [hrun5, tk1, List.append_nil, List.append_assoc]
              rfl
            · have : x2 = x := hx12
              rw [this]
              exact hxs
            · have : x2 = x := hx12
              rw [this]
              exact fun d hd => hrlt d (mem_out hd)
            · have : x2 = x := hx12
              rw [this]
              rw [List.length_append, List.length_cons] at hrl
              rw [List.length_append]
              omega
          · rw [List.concat_eq_append] at hx12 hn5 hrun5 hpl5 ⊢
            have zl : (z ++ [bb]).length = z.length + 1 := by simp
            rw [zl] at hpl5 ⊢
            rw [decide_eq_true (by omega)]
            refine iteT ?_
            have hbx : bb ∈ x := by rw [← hx12]; simp
            have hcb : dep (pls ls) bb c = false := by rw [dep_symm]; exact hxi bb hbx
            have hAl : (v.take i ++ z).length = i + z.length := by rw [List.length_append, tkl]
            have form : v.take i ++ (z ++ [bb]) ++ c :: (x2 ++ y) = (v.take i ++ z) ++ bb :: c :: (x2 ++ y) := by simp
            rw [form] at hn5 hrun5
            generalize hAA : v.take i ++ z = AA at *
            have ixc : atI ((AA ++ bb :: c :: (x2 ++ y)).map vN) ((i + (z.length + 1) : Nat) : Int) = some (vN c) := at_app (A := AA) (B := bb :: c :: (x2 ++ y)) (j := 1) rfl _ (by omega)
            have eI : ((i + (z.length + 1) : Nat) : Int) - 1 = ((AA.length : Nat) : Int) := by omega
            have ixb : atI ((AA ++ bb :: c :: (x2 ++ y)).map vN) (((i + (z.length + 1) : Nat) : Int) - 1) = some (vN bb) := by
              rw [eI]
              exact at_app (A := AA) (B := bb :: c :: (x2 ++ y)) (j := 0) rfl _ rfl
            have len0 : ((AA ++ bb :: c :: (x2 ++ y)).map vN).length = AA.length + (2 + (x2 ++ y).length) := by
              rw [List.length_map, List.length_append, List.length_cons, List.length_cons]
              omega
            have ixnb : ixN ((AA ++ bb :: c :: (x2 ++ y)).map vN).length (((i + (z.length + 1) : Nat) : Int) - 1) = some AA.length := by
              rw [eI]
              exact ixn (by omega)
            refine ⟨fun σ' H3 => ∃ m', m' < z.length + 1 ∧ Same H H3 ∧ ∃ x1 x2 ps' : List Nat, m' = x1.length ∧ x1 ++ x2 = x ∧ σ' = [some (.ref p), some (.ref a), some (.ref b), some (.ref nw), some (.ref fo), some (vN i), some (vN (i + x1.length))] ∧
              H3 nw = some (.lst ((v.take i ++ x1 ++ c :: (x2 ++ y)).map vN)) ∧ H3 fo = some (.lst (ps'.map vN)) ∧ ps'.length + x1.length ≤ i * 50 + j ∧ runS (pls ls) u ps' = some (v.take i ++ x1 ++ c :: (x2 ++ y)), fun σ' H3 h => h, ?_⟩
            have eZ : ((i + (z.length + 1) : Nat) : Int) - 1 = ((i + z.length : Nat) : Int) := by omega
            refine ⟨_, rfl, _, rfl, nw, _, _, _, rfl, rfl, .inl (.inl hn5), ixc, _, rfl, _, rfl, _, _, rfl, rfl, nw, _, _, _, rfl, rfl, .inl (.inl hn5), ixb, by show 2 ≤ sizeLine; decide, fun t ht => ?_⟩
            have nnt : nw ≠ t := ne_of_none hn5 ht
            have nft : fo ≠ t := ne_of_none hf5 ht
            have set1 : ((AA ++ bb :: c :: (x2 ++ y)).map vN).set AA.length (vN c) = (AA ++ c :: c :: (x2 ++ y)).map vN := by rw [set_vN, set_at]
            have set2 : ((AA ++ c :: c :: (x2 ++ y)).map vN).set (AA.length + 1) (vN bb) = (AA ++ c :: bb :: (x2 ++ y)).map vN := by
              have e2 : AA ++ c :: c :: (x2 ++ y) = (AA ++ [c]) ++ c :: (x2 ++ y) := by simp
              have l2 : AA.length + 1 = (AA ++ [c]).length := by simp
              rw [set_vN, e2, l2, set_at]
              simp
            have ixn2 : ixN ((AA ++ c :: c :: (x2 ++ y)).map vN).length ((i + (z.length + 1) : Nat) : Int) = some (AA.length + 1) := by
              have : i + (z.length + 1) = AA.length + 1 := by omega
              rw [this]
              refine ixn ?_
              rw [List.length_map, List.length_append, List.length_cons, List.length_cons]
              omega
            refine ⟨t, _, rfl, seqT upd_same, rfl, _, _, rfl, _, rfl, _, rfl, _, _, rfl, rfl, nw, _, _, _, rfl, rfl, by rw [upd_ne nnt]; exact hn5, ixnb, ?_⟩
            rw [set1]
            refine ⟨_, _, rfl, _, rfl, _, rfl, nw, _, _, _, rfl, rfl, upd_same, ixn2, ?_⟩
            rw [set2]
            have hf6 : upd (upd (upd H2 t (.tup [vN c, vN bb])) nw (.lst ((AA ++ c :: c :: (x2 ++ y)).map vN))) nw (.lst ((AA ++ c :: bb :: (x2 ++ y)).map vN)) fo = some (.lst (ps'.map vN)) := by
              rw [upd_ne nnf.symm, upd_ne nnf.symm, upd_ne nft]
              exact hf5
            refine ⟨rfl, _, rfl, _, _, rfl, rfl, _, rfl, .inl ⟨rfl, _, .inl (.inl hf6)⟩, _, rfl, fo, _, _, rfl, rfl, hf6, ?_, ?_⟩
            · rw [List.length_map]
              refine Nat.lt_of_le_of_lt (m := 5000) ?_ (by decide)
              omega
            · refine ⟨z.length, by omega, fun bq oq zq => ?_, z, bb :: x2, ps' ++ [i + z.length], rfl, ?_, ?_, ?_, ?_, ?_, ?_⟩
              · have z5 := s5 _ _ zq
                rw [upd_ne (ne_of_none zq hfo0), upd_ne (ne_of_none zq hnw0), upd_ne (ne_of_none zq hnw0), upd_ne (ne_of_none z5 ht)]
                exact z5
              · rw [← hx12]
                simp
              · show [some (V.ref p), some (V.ref a), some (V.ref b), some (V.ref nw), some (V.ref fo), some (vN i), some (V.int (((i + (z.length + 1) : Nat) : Int) - 1))] = _
                rw [eZ]
              · rw [upd_ne nnf, upd_same, hAA]
                rfl
              · rw [upd_same, List.map_append]
                show some (HO.lst (ps'.map vN ++ [V.int (((i + (z.length + 1) : Nat) : Int) - 1)])) = _
                rw [eZ]
                rfl
              · rw [List.length_append, List.length_singleton]
                omega
              · have r1 := runS_snoc (i := AA.length) hrun5 (canSwap_at hcb)
                rw [swap1_at] at r1
                rw [hAA, ← hAl, r1]
                rfl
        · rw [decide_eq_false (by intro z; injection z with z; omega)]
          refine iteT ⟨fun σ' H3 => ∃ m', m' < 50 - j ∧ H3 = H'' ∧ ∃ j : Nat, j ≤ 50 ∧ m' = 50 - j ∧ σ' = [some (.ref p), some (.ref a), some (.ref b), some (.ref nw), some (.ref fo), some (vN i), some (vN (i + j))] ∧ ∀ t, t < j → r[t]? ≠ some c, fun σ' H3 h => h, ?_⟩
          refine ⟨_, rfl, _, _, rfl, rfl, 50 - (j + 1), by omega, rfl, j + 1, by omega, rfl, rfl, fun t ht => ?_⟩
          rcases Nat.lt_succ_iff_lt_or_eq.mp ht with z | z
          · exact hno t z
          · rw [z, hrj]
            intro y
            exact e (Option.some.inj y)
      · rintro σ H' ⟨s4, ⟨v5, v6, rfl⟩, r, ps, hn4, hf4, hpl, hrun, hsim, hrlt, hrl⟩
        have eL : ((((v.map vN).length : Nat) : Int)).toNat = v.length := by rw [List.length_map]; omega
        rw [eL] at hrun hsim
        rw [List.drop_length] at hsim
        have : r = [] := sim_nil (ok.full hrlt) hsim
        subst this
        rw [List.append_nil, List.take_length] at hrun
        exact ⟨_, rfl, q1 hs _ _ ps s4 hf4 hrun⟩
end
end Plw

set_option maxHeartbeats 4000000
namespace Plw
open PySem PySem.Spec PyProof.Rows L2 Trc
/-! ### set(xs), xs a list of ints (the hand layer has the rule for a tuple, in a for: its road is gone here for a list) -/
abbrev setO0 (w : World) : Obj := { cls := .type "set", dict := none, data := .set #[] 0 (.fresh 0 0 (!w.params.followText "set-order")) }
section
variable {P : Program} {w : World} {E : Value → Shared → Prop} {s : Shared}
/-- behind the call: a set at a new address, its members those of ns; all that stood stands -/
def SetMade (w : World) (ns : List Int) (s : Shared) (h' : Heap) (c : Nat) : Prop := SetR w h' s.heap.objs.size (fun j => decide (j ∈ ns)) c ∧ c ≤ ns.length ∧ ∀ b o, s.heap.get? b = some o → h'.get? b = some o
/-- the filling of the new set, by its __init__ -/
theorem fill_list {B : Around} {R : Result → Shared → Prop} {l : Addr} {items : Array Value} {ns : List Int} (calm : B.handled = none) (isl : s.heap.IsList l items) (nums : IntsAre items.toList ns) (few : ns.length + 1 < scanBound)
    (h : ∀ h' tk c, SetMade w ns s h' c → R (.ok (.ret .none)) { s with heap := h', toks := tk }) :
    codeAny (model P w) B (.builtin "set.update.loop" ⟨[.ref s.heap.objs.size, .ref (s.heap.push (setO0 w)).objs.size], []⟩) R
      { s with heap := (s.heap.push (setO0 w)).push { cls := .type "list_iterator", data := .fields #[.ref l, .int 0 0] } } := by
  have sz : items.size = ns.length := (Array.length_toList (xs := items)).symm.trans (IntsAre.length nums)
  have atS : (s.heap.push (setO0 w)).get? s.heap.objs.size = some (setO0 w) := Heap.get?_push_size _ rfl
  have lt : l < s.heap.objs.size := isl.elim fun _ z => Heap.lt_size z.1
  have e1 : (s.heap.push (setO0 w)).objs.size = s.heap.objs.size + 1 := Heap.size_push ..
  have two : ∀ {p : Prop} {b : Addr}, b < s.heap.objs.size → b ∈ [(s.heap.push (setO0 w)).objs.size] → p := fun {p b} z y => by
    rw [e1] at y
    exact absurd (List.mem_singleton.mp y) (Nat.ne_of_lt (Nat.lt_succ_of_lt z))
  have nI : l ≠ (s.heap.push (setO0 w)).objs.size := fun z => two lt (List.mem_singleton.mpr z)
  have nS : s.heap.objs.size ∉ [(s.heap.push (setO0 w)).objs.size, l] := by
    rw [e1]
    simp only [List.mem_cons, List.not_mem_nil, or_false]
    exact fun z => z.elim (fun y => absurd y (Nat.ne_of_lt (Nat.lt_succ_self _))) fun y => absurd y (Nat.ne_of_gt lt)
  have val : ∀ (i : Nat) (v : Value), items[i]? = some v → ∃ k t, ns[i]? = some k ∧ v = .int k t := fun i v hv => by
    have hi : i < ns.length := sz ▸ (Array.getElem?_eq_some_iff.mp hv).1
    have at_ := IntsAre.int_at nums i v ((Array.getElem?_toList ..).trans hv)
    refine at_.elim fun t z => ⟨ns[i], t, List.getElem?_eq_getElem hi, ?_⟩
    rw [z, List.getD_eq_getElem?_getD, List.getElem?_eq_getElem hi] <;> rfl
  refine set_update_ints (((Walks.list (prog := P) (w := w) (A := B.in1) calm _ l nI items)).toS) _ nS ns sz few val items.size 0 _ rfl (Nat.zero_le _)
    ⟨⟨_, Heap.get?_push_size _ rfl, rfl, rfl⟩, (isl.push _).push _⟩ ⟨0, Nat.le_refl 0, setR_new_at (Heap.get?_push_of_some _ atS)⟩ ?_
  rintro ⟨h', g', d', tk', os'⟩ c mv hc S
  cases (show g' = s.gens from mv.gens)
  cases (show d' = s.drawn from mv.drawn)
  cases (show os' = s.os from mv.os)
  refine h h' tk' c ⟨S, sz ▸ hc, fun b o z => mv.heap b o (fun y => ?_) (Heap.get?_push_of_some _ (Heap.get?_push_of_some _ z))⟩
  exact (List.mem_cons.mp y).elim (fun y => absurd y (Nat.ne_of_lt (Heap.lt_size z))) (two (Heap.lt_size z))
set_option maxHeartbeats 16000000 in
theorem call_set_ints {B : Around} {l : Addr} {items : Array Value} {ns : List Int} {Q : Value → Shared → Prop} (calm : B.handled = none) (isl : s.heap.IsList l items) (nums : IntsAre items.toList ns) (few : ns.length + 1 < scanBound)
    (h : ∀ h' tk c, SetMade w ns s h' c → Q (.ref s.heap.objs.size) { s with heap := h', toks := tk }) : wpAny (model P w) B (call (.type "set") [.ref l]) Q E s := by
  have tc := F.called_set
  obtain ⟨c0, tl, k1⟩ := tc.mro
  have k2 := tc.made
  have k3 := tc.sub
  have k4 := tc.notType
  have k5 := tc.canCreate
  have k6 := F.typeCall_set_1 (.ref l)
  -- type.__call__: __new__, then __init__
  refine wpAny_call (codeAny_of_tree (show wpAny _ _ (callAny (.type "set") _) _ _ _ from wpAny_pure ⟨Code.quiet_builtin _ (by decide +kernel), codeAny_builtin F.entry_type_call ?_⟩))
  rw [Around.under_plain (weight_type_call_type _ [.ref l] []) rfl]
  repeat any_goals first | assumption | wp_step
  refine codeAny_mono (code_set_led1 (w := w) (.ref l) (E := E) (Q₁ := fun o s' => o = .ref s.heap.objs.size ∧ s' = { s with heap := s.heap.push (setO0 w) }) ⟨rfl, rfl⟩) fun r s' z => ?_
  match r, z with
  | .error _, z => exact z
  | .ok .next, z => exact z.elim
  | .ok .brk, z => exact z.elim
  | .ok .cont, z => exact z.elim
  | .ok (.ret o), z =>
    obtain ⟨rfl, rfl⟩ := z
    have atS : (s.heap.push (setO0 w)).get? s.heap.objs.size = some (setO0 w) := Heap.get?_push_size _ rfl
    have isS : Shared.TypeIs { s with heap := s.heap.push (setO0 w) } (.ref s.heap.objs.size) "set" := ⟨_, atS, rfl⟩
    have k7 := tc.init.lookup
    have k8 := tc.init.bind (.ref s.heap.objs.size)
    repeat any_goals first | assumption | wp_step
    refine codeAny_mono (codeAny_call_builtin (R := wants (fun r s' => r = .none ∧ ∃ h' tk c, s' = { s with heap := h', toks := tk } ∧ SetMade w ns s h' c) E) tc.init.plain F.entry_set_init (check_set_init_1 isS ?_)) fun r s' z => ?_
    · -- __init__: the list walked, each item added
      have isl' := isl
      obtain ⟨⟨cl, od, dat, sl⟩, at_, rfl, n, rfl⟩ := isl'
      have k9 := Heap.get?_push_of_some (setO0 w) at_
      have k10 := F.sub_list_set
      have k11 := F.sub_list_frozenset
      have k12 : (Value.type "list" == Value.type "dict") = false := by decide
      unfold Builtin.«set.__init__»
      unfold noKeywords Builtin.Frozenset.updateFrom
      generalize it : pyIter = IT
      wp_walk
      subst it
      refine wpAny_pyIter_list (isl.push (setO0 w)) (wpAny_bind (wpAny_runValue (fill_list (w := w) (by simp [calm]) isl nums few fun h' tk c made => ?_)))
      exact wpAny_pure (show wpAny _ _ (ret Value.none) _ _ _ from wpAny_pure ⟨rfl, h', tk, c, rfl, made⟩)
    · match r, z with
      | .error _, z => exact z
      | .ok .next, z => exact z.elim
      | .ok .brk, z => exact z.elim
      | .ok .cont, z => exact z.elim
      | .ok (.ret v), ⟨e1, h', tk, c, e2, made⟩ =>
        subst e1 e2
        repeat any_goals first | assumption | wp_step
        exact h _ _ _ made
end
section
variable {X : Cx}
/-- set(xs), xs a list of ints -/
def rSetInts (K : PySem.W.Frag) (w : World) : List V → Hp → VK → Prop := fun xs H Q => ∃ (l : Addr) (ns : List Int), xs = [V.ref l] ∧ SqL K H l (ns.map V.int) ∧ ns.length ≤ 60 ∧ ∀ a c, H a = none → c ≤ ns.length → Q (.ref a) (upd H a (SetO w a (fun j => decide (j ∈ ns)) c))
theorem cr_setInts (hc : X.calm = true) : CallR X (.type "set") (rSetInts X.K X.w) := by
  intro pins s σ H xs us Q I r h
  obtain ⟨l, ns, rfl, hl, hf, q⟩ := h
  rw [Vals.ref1 r]
  obtain ⟨its, rv, pl, hz⟩ := I.list hl
  refine call_set_ints (P := X.prog) (w := X.w) (ns := ns) (I.ok.hd hc) pl.isList (by simpa using ints_of_vals rv) (by unfold scanBound; omega) fun h' tk c ⟨R, hc', k⟩ => ?_
  exact ⟨.ref s.heap.objs.size, upd H s.heap.objs.size (SetO X.w s.heap.objs.size (fun j => decide (j ∈ ns)) c), I.laid (t' := tk) k (Nat.le_refl _) (setO_new R), rfl, q _ c (I.hok.fresh (Nat.le_refl _)) hc'⟩
end
end Plw

set_option maxHeartbeats 4000000
namespace Plw
open PySem L2 Trc
theorem int_in {ns : List Int} {i : Nat} {x : V} (h : (ns.map V.int)[i]? = some x) : ∃ n, ns[i]? = some n ∧ x = .int n := by
  rw [List.getElem?_map] at h
  cases e : ns[i]? with
  | none => rw [e] at h; cases h
  | some r => rw [e] at h; exact ⟨r, rfl, (Option.some.inj h).symm⟩
/-! ### one draw -/
def spTake : Sp := fun vs H Q _ => ∃ (d : Addr) (ds : List Int) (lim : Nat), vs = [.ref d, vN lim] ∧ H d = some (.lst (ds.map V.int)) ∧ 0 < lim ∧ ∀ H' n ds', But d H H' → H' d = some (.lst ((ds' : List Int).map V.int)) → n < lim → Q (vN n) H'
section
variable {P : Program} {w : World} {K : PySem.W.Frag} {mg : Str → Option Value} {base : Heap}
theorem scTake : FnScope ["_law_draws_here", "_law_limit"] ["_law_draws_here", "_law_limit"] (defScope sTake) := ⟨rfl, rfl, rfl, by decide +kernel, rfl, by decide +kernel, by decide +kernel⟩
theorem ok_take {f C : Addr} {fd : FuncData} (F : Fun K "_law_take" "_law_take" sTake f fd) (T : Txt K mg C) : FnOk P w K mg base CX0 1 f fd ["_law_draws_here", "_law_limit"] spTake := by
  refine F.ok scTake (fun vs H Q E h => ?_) (fun cdv A outer s H vs Q E hr h => ?_)
  · obtain ⟨d, ds, lim, rfl, _⟩ := h
    rfl
  · obtain ⟨d, ds, lim, rfl, hd, hl, q⟩ := h
    refine ⟨_, pss_cons (ps_if (pt_cmpR op_eq (pe_callB call_len_seq (by rfl) T.len PySem.boot_len (pa_cons (pv 0) pa_nil)) pe_int (nomark _)) (pss_one (ps_ret pe_int)) pss_nil)
      (pss_one (ps_ret (pe_op op_mod (pe_callTy call_int1 (by rfl) T.int (by decide +kernel) (pa_cons (pe_bm0 PySem.F.plainAttrs_list PySem.F.slot_list_pop PySem.F.type_list_pop mt_pop (pv 0)) pa_nil)) (pv 1)))), ?_⟩
    refine ⟨_, rfl, d, _, rfl, .inl (.inl (.inl hd)), rfl, _, rfl, ?_⟩
    rw [List.length_map]
    by_cases hz : ds.length = 0
    · rw [decide_eq_true (by rw [hz]; rfl)]
      refine iteT ?_
      exact q H 0 ds (fun b o _ e => e) hd hl
    · rw [decide_eq_false (by intro z; injection z with z; omega)]
      have hlt : ds.length - 1 < ds.length := by omega
      have hy : (ds.map V.int)[(ds.map V.int).length - 1]? = some (.int (ds[ds.length - 1]'hlt)) := by
        rw [List.length_map, List.getElem?_map, List.getElem?_eq_getElem hlt]
        rfl
      refine iteF ⟨_, rfl, .inl ⟨rfl, _, .inl (.inl hd)⟩, d, _, _, rfl, rfl, hd, hy, .inl ⟨_, rfl, _, rfl, _, _, rfl, rfl, by show (0 : Int) < (lim : Int); omega, ?_⟩⟩
      generalize ds[ds.length - 1]'hlt = y
      have h0 : 0 ≤ y % (lim : Int) := Int.emod_nonneg _ (by omega)
      have h1 : y % (lim : Int) < lim := Int.emod_lt_of_pos _ (by omega)
      have e : V.int (y % (lim : Int)) = vN (y % (lim : Int)).toNat := by
        show V.int _ = V.int _
        rw [Int.toNat_of_nonneg h0]
      show Q (V.int (y % (lim : Int))) _
      rw [e]
      refine q _ _ ds.dropLast (fun b o nb z => ?_) ?_ (by omega)
      · rw [upd_ne nb]
        exact z
      · rw [upd_same, List.map_dropLast]

/-! ### are two letters free of one another: any answer will do -/
def spFree : Sp := fun vs H Q _ => ∃ (L : Addr) (rs : List Addr) (ls : List (List Nat)) (a b : Nat), vs = [.ref L, vN a, vN b] ∧ H L = some (.lst (rs.map V.ref)) ∧ Rows H rs ls ∧ a < ls.length ∧ b < ls.length ∧ (pls ls a).length ≤ 500 ∧ ∀ H' t, Same H H' → Q (.bl t) H'
theorem scFree : FnScope ["_law_letters", "_law_first", "_law_second", "_law_place_here"] ["_law_letters", "_law_first", "_law_second"] (defScope sFree) := ⟨rfl, rfl, rfl, by decide +kernel, rfl, by decide +kernel, by decide +kernel⟩
theorem ok_free {f C : Addr} {fd : FuncData} (F : Fun K "_law_free" "_law_free" sFree f fd) (T : Txt K mg C) : FnOk P w K mg base CX0 1 f fd ["_law_letters", "_law_first", "_law_second"] spFree := by
  refine F.ok scFree (fun vs H Q E h => ?_) (fun cdv A outer s H vs Q E hr h => ?_)
  · obtain ⟨L, rs, ls, a, b, rfl, _⟩ := h
    rfl
  · obtain ⟨L, rs, ls, a, b, rfl, hL, hR, ha, hb, hlen, q⟩ := h
    obtain ⟨ra, ea, ta⟩ := hR.get ha
    obtain ⟨rb, eb, tb⟩ := hR.get hb
    have ixa : atI (rs.map V.ref) (a : Int) = some (.ref ra) := atI_nat (by rw [List.getElem?_map, ea]; rfl)
    have ixb : atI (rs.map V.ref) (b : Int) = some (.ref rb) := atI_nat (by rw [List.getElem?_map, eb]; rfl)
    refine ⟨_, pss_one (ps_ret (pe_cmpR op_eq (pe_callB call_len_seq (by rfl) T.len PySem.boot_len (pa_cons
      (pe_lc (own := [("_law_place_here", 3)]) (g := gName 3) (tt := tTest (tOp (rIn K false) (tVar 3) (tOp (rIxL K) (tVar 0) (tVar 2)))) (te := tVar 3) rfl scFree.nd (pi_tup (pe_ix ix_list (pv 0) (pv 1) (fun _ _ => rfl)))
        (blkOk_by (N := ["_law_letters", "_law_first", "_law_second", "_law_place_here"]) (sc := defScope sFree) (by decide +kernel)) (fun _ _ _ _ _ => pg_name (i := 3) scFree.nd rfl (Or.inl rfl))
        (fun _ _ _ _ _ => pts_one (pt_cmpR op_in_seq (pv 3) (pe_ix ix_list (pv 0) (pv 2) (fun _ _ => rfl)) rfl)) (fun _ _ _ _ _ => pv 3)) pa_nil)) pe_int (nomark _))), ?_⟩
    refine ⟨_, rfl, _, rfl, L, _, _, _, rfl, rfl, .inl (.inl hL), ixa, ra, rfl, ⟨_, seqT ta⟩, fun D hD => ?_⟩
    refine lc_tup (K := K) (a := ra) (xs := (ls.getD a []).map vN) (fun i H3 => Same H H3 ∧ ∃ acc, H3 D = some (.lst acc) ∧ acc.length ≤ i)
      ⟨same_upd hD, [], upd_same, Nat.le_refl _⟩ (fun i H3 _ hh => seqT (hh.1 _ _ ta)) ?_ ?_
    · rintro i y H3 hi ⟨s3, acc, hd, hac⟩
      obtain ⟨n, hn, rfl⟩ := vN_in hi
      have hil : i < (ls.getD a []).length := (List.getElem?_eq_some_iff.mp hn).1
      have hlen' : (ls.getD a []).length ≤ 500 := hlen
      refine ⟨rfl, _, rfl, _, rfl, _, rfl, L, _, _, _, rfl, rfl, .inl (.inl (s3 _ _ hL)), ixb, rb, _, rfl, .inr (seqT (s3 _ _ tb)), rfl, flat_vN _, _, rfl, ?_⟩
      refine ite2 (fun _ => ?_) (fun _ => ?_)
      · refine ⟨_, rfl, acc, hd, small1000 (by omega), fun b o z => ?_, _, upd_same, by rw [List.length_append, List.length_singleton]; omega⟩
        rw [upd_ne (ne_of_none z hD)]
        exact s3 _ _ z
      · exact ⟨s3, acc, hd, by omega⟩
    · rintro H3 ⟨s3, acc, hd, hac⟩
      exact ⟨D, _, rfl, .inl (.inl (.inl hd)), rfl, q _ _ s3⟩

/-! ### a word -/
def spWord : Sp := fun vs H Q _ => ∃ (d : Addr) (ds : List Int) (m most : Nat), vs = [.ref d, vN m, vN most] ∧ H d = some (.lst (ds.map V.int)) ∧ 0 < m ∧ most ≤ 100 ∧
  ∀ H' q o ds', But d H H' → H' d = some (.lst ((ds' : List Int).map V.int)) → H' q = some (.tup ((o : List Nat).map vN)) → (∀ a ∈ o, a < m) → o.length ≤ most → Q (.ref q) H'
theorem scWord : FnScope ["_law_draws_here", "_law_letters", "_law_most", "_law_k"] ["_law_draws_here", "_law_letters", "_law_most"] (defScope sWord) := ⟨rfl, rfl, rfl, by decide +kernel, rfl, by decide +kernel, by decide +kernel⟩
theorem ok_word {f fT C : Addr} {fd fdT : FuncData} (F : Fun K "_law_word" "_law_word" sWord f fd) (T : Txt K mg C) (FT : Fun K "_law_take" "_law_take" sTake fT fdT) (bT : Binds K fdT ["_law_draws_here", "_law_limit"] []) (mT : mg "_law_take" = some (.ref fT)) :
    FnOk P w K mg base CX0 2 f fd ["_law_draws_here", "_law_letters", "_law_most"] spWord := by
  have GT : FnOk P w K mg base CX0 1 fT fdT ["_law_draws_here", "_law_limit"] spTake := ok_take FT T
  refine F.ok scWord (fun vs H Q E h => ?_) (fun cdv A outer s H vs Q E hr h => ?_)
  · obtain ⟨d, ds, m, most, rfl, _⟩ := h
    rfl
  · obtain ⟨d, ds, m, most, rfl, hd, hm, hmost, q⟩ := h
    refine ⟨_, pss_one (ps_ret (pe_callTy call_tuple_of (by rfl) T.tuple (by decide +kernel) (pa_cons
      (pe_lc (own := [("_law_k", 3)]) (g := gName 3) (tt := tYes) (te := tCall spTake [] E0 (tCons (tVar 0) (tCons (tVar 1) tNil))) rfl scWord.nd
        (pi_range1 rfl T.range (pa_cons (pe_call GT hr rfl mT FT.kp bT .nil pass0 (pa_cons (pv 0) (pa_cons (pe_op op_add (pv 2) pe_int) pa_nil))) pa_nil))
        (blkOk_by (N := ["_law_draws_here", "_law_letters", "_law_most", "_law_k"]) (sc := defScope sWord) (by decide +kernel)) (fun _ _ _ _ _ => pg_name (i := 3) scWord.nd rfl (Or.inl rfl))
        (fun _ _ _ _ _ => pts_nil) (fun _ _ _ _ _ => pe_call GT hr rfl mT FT.kp bT .nil pass0 (pa_cons (pv 0) (pa_cons (pv 1) pa_nil)))) pa_nil))), ?_⟩
    refine ⟨_, rfl, _, rfl, _, _, rfl, rfl, d, ds, most + 1, rfl, hd, by omega, fun H1 n ds1 b1 hd1 hn => ?_⟩
    refine ⟨_, rfl, by omega, by omega, fun D hD => ?_⟩
    have ndD : d ≠ D := ne_of_none hd1 hD
    refine lc_range (lo := 0) (n := ((n : Int)).toNat) (fun i H3 => But d H H3 ∧ (∃ ds3 : List Int, H3 d = some (.lst (ds3.map V.int))) ∧ ∃ o : List Nat, H3 D = some (.lst (o.map vN)) ∧ o.length = i ∧ ∀ a ∈ o, a < m)
      ⟨fun b o nb z => by
        have z1 := b1 b o nb z
        rw [upd_ne (ne_of_none z1 hD)]
        exact z1, ⟨ds1, by rw [upd_ne ndD]; exact hd1⟩, [], upd_same, rfl, fun a h => by cases h⟩ ?_ ?_
    · rintro i H3 hi ⟨b3, ⟨ds3, hd3⟩, o, hD3, ho, hom⟩
      refine ⟨rfl, _, rfl, _, rfl, d, ds3, m, rfl, hd3, hm, fun H4 a ds4 b4 hd4 ha => ?_⟩
      refine ⟨_, b4 _ _ ndD.symm hD3, by rw [List.length_map]; exact small1000 (by omega), fun b u nb z => ?_, ⟨ds4, by rw [upd_ne ndD]; exact hd4⟩, o ++ [a], ?_, ?_, ?_⟩
      · have z3 := b3 b u nb z
        have nbD : b ≠ D := fun y => by
          have z1 := b1 b u nb z
          rw [y, hD] at z1
          cases z1
        rw [upd_ne nbD]
        exact b4 _ _ nb z3
      · rw [upd_same, List.map_append]
        rfl
      · rw [List.length_append, List.length_singleton, ho]
      · intro c hc
        rcases List.mem_append.mp hc with z | z
        · exact hom c z
        · rw [List.mem_singleton.mp z]
          exact ha
    · rintro H3 ⟨b3, ⟨ds3, hd3⟩, o, hD3, ho, hom⟩
      refine ⟨D, _, rfl, .inl ⟨.inl (.inl hD3), fun l hl => ?_⟩⟩
      have ndl : d ≠ l := ne_of_none hd3 hl
      refine q _ l o ds3 (fun b u nb z => ?_) (by rw [upd_ne ndl]; exact hd3) upd_same hom (by omega)
      have z3 := b3 b u nb z
      rw [upd_ne (ne_of_none z3 hl)]
      exact z3
end
end Plw

set_option maxHeartbeats 4000000
namespace Plw
open PySem L2 Trc
def spDraws (K : PySem.W.Frag) : Sp := fun vs H Q _ => ∃ (a : Addr) (ns : List Int) (n : Nat), vs = [.ref a, vN n] ∧ SqL K H a (ns.map V.int) ∧ ns.length ≤ 63 ∧ n ≤ 500 ∧ ∀ H' q ds, Same H H' → H q = none → H' q = some (.lst ((ds : List Int).map V.int)) → Q (.ref q) H'
section
variable {P : Program} {w : World} {K : PySem.W.Frag} {mg : Str → Option Value} {base : Heap}
theorem scDraws : FnScope ["_law_script", "_law_count", "_law_cells", "_law_found", "_law_mixed", "_law_k", "_law_j", "_law_cell", "_law_again"] ["_law_script", "_law_count"] (defScope sDraws) := ⟨rfl, rfl, rfl, by decide +kernel, rfl, by decide +kernel, by decide +kernel⟩
theorem small_mul {i j : Int} (h0 : 0 ≤ i) (h1 : i < 2 ^ 64) : CMul i j := .inl ⟨by omega, h1⟩
theorem ok_draws {f C : Addr} {fd : FuncData} (F : Fun K "_law_draws" "_law_draws" sDraws f fd) (T : Txt K mg C) : FnOk P w K mg base CX0 1 f fd ["_law_script", "_law_count"] (spDraws K) := by
  refine F.ok scDraws (fun vs H Q E h => ?_) (fun cdv A outer s H vs Q E hr h => ?_)
  · obtain ⟨a, ns, n, rfl, _⟩ := h
    rfl
  · obtain ⟨a, ns, n, rfl, ha, hns, hn, q⟩ := h
    refine ⟨_, pss_cons (ps_set (i := 2) scDraws.nd rfl (Or.inl rfl) (pe_callTy call_list_of (by rfl) T.list (by decide +kernel) (pa_cons (pv 0) pa_nil))) <|
      Evl.pss_cut (ps_if (pt_cmpR op_eq (pe_callB call_len_seq (by rfl) T.len PySem.boot_len (pa_cons (pv 2) pa_nil)) pe_int (nomark _))
        (pss_one (ps_set (i := 2) scDraws.nd rfl (Or.inl rfl) (pe_lst (pa_cons pe_int pa_nil)))) pss_nil) <|
      pss_cons (ps_set (i := 3) scDraws.nd rfl (Or.inl rfl) (pe_lst pa_nil)) <|
      pss_cons (ps_set (i := 4) scDraws.nd rfl (Or.inl rfl) pe_int) <|
      pss_cons (ps_for PassesOwn.never rfl (pi_range1 rfl T.range (pa_cons (pv 1) pa_nil)) (pg_name (i := 5) scDraws.nd rfl (Or.inl rfl)) <|
        pss_cons (ps_set (i := 6) scDraws.nd rfl (Or.inl rfl) (pe_op op_mod (pv 5) (pe_callB call_len_seq (by rfl) T.len PySem.boot_len (pa_cons (pv 2) pa_nil)))) <|
        pss_cons (ps_set (i := 7) scDraws.nd rfl (Or.inl rfl) (pe_ix ix_list (pv 2) (pv 6) (fun _ _ => rfl))) <|
        pss_cons (ps_set (i := 4) scDraws.nd rfl (Or.inl rfl) (pe_op op_mod (pe_callTy call_int1 (by rfl) T.int (by decide +kernel) (pa_cons
            (pe_op op_add (pe_op op_add (pe_op op_add (pe_op op_mul (pv 4) pe_int)
              (pe_op op_mul (pe_op op_mod (pe_callTy call_int1 (by rfl) T.int (by decide +kernel) (pa_cons (pv 7) pa_nil)) pe_int) pe_int))
              (pe_op op_mul (pv 5) pe_int)) pe_int) pa_nil)) pe_int)) <|
        pss_cons (ps_set (i := 8) scDraws.nd rfl (Or.inl rfl) (pe_op op_mod (pe_callTy call_int1 (by rfl) T.int (by decide +kernel) (pa_cons
            (pe_op op_add (pe_op op_add (pe_op op_mul (pv 4) (pv 4)) (pe_op op_mul pe_int (pv 4))) (pv 5)) pa_nil)) pe_int)) <|
        pss_one (ps_if (pt_cmpR op_ge (pv 7) (pe_op op_pow pe_int pe_int) (nomark _))
          (pss_cons (ps_expr (pe_bm PySem.F.plainAttrs_list PySem.F.slot_list_append PySem.F.type_list_append mt_append (pv 3) (pa_cons (pe_op op_mod (pe_callTy call_int1 (by rfl) T.int (by decide +kernel) (pa_cons (pv 7) pa_nil)) pe_int) pa_nil))) <|
           pss_one (ps_asg (pe_op op_fdiv (pv 7) pe_int) (pg_sub (pv 2) (pv 6) set_list)))
          (pss_one (ps_expr (pe_bm PySem.F.plainAttrs_list PySem.F.slot_list_append PySem.F.type_list_append mt_append (pv 3) (pa_cons (pe_op op_mod (pe_callTy call_int1 (by rfl) T.int (by decide +kernel) (pa_cons (pv 8) pa_nil)) pe_int) pa_nil)))))) <|
      pss_cons (ps_expr (pe_bm0 PySem.F.plainAttrs_list PySem.F.slot_list_reverse PySem.F.type_list_reverse mt_reverse (pv 3))) <|
      pss_one (ps_ret (pv 3)), ?_⟩
    refine ⟨_, rfl, a, _, rfl, .inl ha, fun c0 hc0 => ?_⟩
    refine ⟨fun σ H1 => ∃ (c : Addr) (cs : List Int), σ = [some (.ref a), some (vN n), some (.ref c), none, none, none, none, none, none] ∧ Same H H1 ∧ H c = none ∧ H1 c = some (.lst (cs.map V.int)) ∧ cs ≠ [] ∧ cs.length ≤ 63, ?_, ?_⟩
    · have s1 : Same H (upd H c0 (.lst (ns.map V.int))) := same_upd hc0
      refine ⟨_, rfl, c0, _, rfl, .inl (.inl (.inl upd_same)), rfl, _, rfl, ?_⟩
      rw [List.length_map]
      by_cases hz : ns.length = 0
      · rw [decide_eq_true (by rw [hz]; rfl)]
        refine iteT ⟨by decide, fun c1 hc1 => ⟨c1, [7], rfl, s1.trans (same_upd hc1), s1.free hc1, upd_same, by simp, by decide⟩⟩
      · rw [decide_eq_false (by intro z; injection z with z; omega)]
        exact iteF ⟨c0, ns, rfl, s1, hc0, upd_same, fun z => hz (by rw [z]; rfl), hns⟩
    · rintro σ H1 ⟨c, cs, rfl, s1, hc, hc1, hne, hcl⟩
      have hpos : 0 < cs.length := List.length_pos_iff.mpr hne
      refine ⟨Nat.zero_le _, fun g hg => ?_⟩
      have ncg : c ≠ g := ne_of_none hc1 hg
      have hg0 : H g = none := s1.free hg
      refine ⟨_, rfl, _, rfl, by omega, by omega,
        for_range (fun i σ H' => Same H H' ∧ (∃ (mx : Int) (v5 v6 v7 v8 : Option V), 0 ≤ mx ∧ mx < 2147483647 ∧ σ = [some (.ref a), some (vN n), some (.ref c), some (.ref g), some (.int mx), v5, v6, v7, v8]) ∧
            (∃ cs' : List Int, cs'.length = cs.length ∧ H' c = some (.lst (cs'.map V.int))) ∧ ∃ fs : List Int, fs.length ≤ i ∧ H' g = some (.lst (fs.map V.int)))
          ⟨s1.trans (same_upd hg), ⟨12345, none, none, none, none, by decide, by decide, rfl⟩, ⟨cs, rfl, by rw [upd_ne ncg]; exact hc1⟩, [], Nat.le_refl _, upd_same⟩ ?_ ?_⟩
      · rintro i σ H' hi ⟨s2, ⟨mx, v5, v6, v7, v8, m0, m1, rfl⟩, ⟨cs', hcl', hc'⟩, fs, hfl, hf'⟩
        have e1 : (0 : Int) + (i : Int) = (i : Int) := Int.zero_add _
        rw [e1]
        have hin : i < n := by omega
        have hpos' : 0 < cs'.length := by omega
        have hj : i % cs'.length < cs'.length := Nat.mod_lt _ hpos'
        obtain ⟨cell, hcell⟩ : ∃ y, cs'[i % cs'.length]? = some y := ⟨_, List.getElem?_eq_getElem hj⟩
        have lenm : (((cs'.map V.int).length : Nat) : Int) = ((cs'.length : Nat) : Int) := by rw [List.length_map]
        have eJ : (i : Int) % ((((cs'.map V.int).length : Nat)) : Int) = ((i % cs'.length : Nat) : Int) := by
          rw [lenm]
          exact (Int.natCast_emod i cs'.length).symm
        have ixc : atI (cs'.map V.int) ((i : Int) % ((((cs'.map V.int).length : Nat)) : Int)) = some (.int cell) := by
          rw [eJ]
          exact atI_nat (by rw [List.getElem?_map, hcell]; rfl)
        have ixs : ixN (cs'.map V.int).length ((i : Int) % ((((cs'.map V.int).length : Nat)) : Int)) = some (i % cs'.length) := by
          rw [eJ]
          exact ixn (by rw [List.length_map]; exact hj)
        refine ⟨_, rfl, _, rfl, c, _, rfl, .inl (.inl (.inl hc')), _, _, rfl, rfl, by rw [lenm]; omega, ?_⟩
        refine ⟨_, rfl, _, rfl, c, _, _, _, rfl, rfl, .inl (.inl hc'), ixc, ?_⟩
        refine ⟨_, rfl, _, _, rfl, rfl, small_mul m0 (by omega), _, rfl, .inl ⟨_, rfl, _, _, rfl, rfl, (by show (0 : Int) < 1000003; decide), _, _, rfl, rfl, small_mul (Int.emod_nonneg _ (by decide)) (Int.lt_trans (Int.emod_lt_of_pos _ (by decide)) (by decide)), _, _, rfl, rfl, ?_⟩⟩
        refine ⟨_, rfl, _, _, rfl, rfl, small_mul (by omega) (by omega), _, _, rfl, rfl, _, _, rfl, rfl, .inl ⟨_, rfl, _, _, rfl, rfl, (by show (0 : Int) < 2147483647; decide), ?_⟩⟩
        have M0 : ∀ z : Int, 0 ≤ z % 2147483647 := fun z => Int.emod_nonneg _ (by decide)
        have M1 : ∀ z : Int, z % 2147483647 < 2147483647 := fun z => Int.emod_lt_of_pos _ (by decide)
        refine ⟨_, rfl, _, rfl, _, _, rfl, rfl, small_mul (M0 _) (Int.lt_trans (M1 _) (by decide)), _, rfl, _, _, rfl, rfl, small_mul (by decide) (by decide), _, _, rfl, rfl, _, rfl, _, _, rfl, rfl,
          .inl ⟨_, rfl, _, _, rfl, rfl, (by show (0 : Int) < 1000003; decide), ?_⟩⟩
        refine ⟨_, rfl, _, _, rfl, rfl, ⟨by decide, by decide, by decide⟩, _, _, rfl, rfl, _, rfl, ?_⟩
        have szf : (fs.map V.int).length < sizeLine := by rw [List.length_map]; exact small1000 (by omega)
        have nx : ∀ {o}, Same H (upd H' g o) := fun {o} b u z => by
          rw [upd_ne (ne_of_none z hg0)]
          exact s2 _ _ z
        have hcg : ∀ {o}, upd H' g o c = some (.lst (cs'.map V.int)) := by
          intro o
          rw [upd_ne ncg]
          exact hc'
        refine ite2 (fun _ => ?_) (fun _ => ?_)
        · refine ⟨_, rfl, .inl ⟨rfl, _, .inl (.inl hf')⟩, _, rfl, .inl ⟨_, rfl, _, _, rfl, rfl, (by show (0 : Int) < 1000; decide), g, _, _, rfl, rfl, hf', szf, ?_⟩⟩
          refine ⟨_, rfl, _, _, rfl, rfl, ⟨by decide, by decide⟩, _, rfl, _, rfl, c, _, _, _, rfl, rfl, hcg, ixs, ?_⟩
          refine ⟨fun b u z => ?_, ⟨_, _, _, _, _, M0 _, M1 _, rfl⟩, ⟨cs'.set (i % cs'.length) (cell / 1000), by rw [List.length_set, hcl'], ?_⟩, fs ++ [cell % 1000], ?_, ?_⟩
          · rw [upd_ne (ne_of_none z hc)]
            exact nx _ _ z
          · rw [upd_same, List.map_set]
          · rw [List.length_append, List.length_singleton]
            omega
          · rw [upd_ne ncg.symm, upd_same, List.map_append]
            rfl
        · refine ⟨_, rfl, .inl ⟨rfl, _, .inl (.inl hf')⟩, _, rfl, .inl ⟨_, rfl, _, _, rfl, rfl, (by show (0 : Int) < 1000; decide), g, _, _, rfl, rfl, hf', szf, ?_⟩⟩
          have lst : ∀ (H9 : Hp) (y : Int), ∃ fs2 : List Int, fs2.length ≤ i + 1 ∧ upd H9 g (.lst (fs.map V.int ++ [V.int y])) g = some (.lst (fs2.map V.int)) := fun H9 y =>
            ⟨fs ++ [y], by rw [List.length_append, List.length_singleton]; omega, by rw [upd_same, List.map_append]; rfl⟩
          exact ⟨nx, ⟨_, _, _, _, _, M0 _, M1 _, rfl⟩, ⟨cs', hcl', hcg⟩, lst _ _⟩
      · rintro σ H' ⟨s2, ⟨mx, v5, v6, v7, v8, m0, m1, rfl⟩, _, fs, hfl, hf'⟩
        refine ⟨_, rfl, .inl ⟨rfl, _, .inl (.inl hf')⟩, g, _, rfl, rfl, hf', ?_⟩
        refine ⟨_, rfl, q _ _ fs.reverse (fun b o z => ?_) hg0 (by rw [upd_same, List.map_reverse])⟩
        rw [upd_ne (ne_of_none z hg0)]
        exact s2 _ _ z
end
end Plw

set_option maxHeartbeats 4000000
namespace Plw
open PySem L2 Trc
def spShuf : Sp := fun vs H Q _ => ∃ (d L wa : Addr) (ds : List Int) (rs : List Addr) (ls : List (List Nat)) (w : List Nat) (n : Nat), vs = [.ref d, .ref L, .ref wa, vN n] ∧ H d = some (.lst (ds.map V.int)) ∧ H L = some (.lst (rs.map V.ref)) ∧ L ≠ d ∧ Rows H rs ls ∧
  (∀ a, a < ls.length → (pls ls a).length ≤ 500) ∧ H wa = some (.tup (w.map vN)) ∧ (∀ a ∈ w, a < ls.length) ∧ w.length ≤ 500 ∧ n ≤ 500 ∧
  ∀ H' q o ds', But d H H' → H' d = some (.lst ((ds' : List Int).map V.int)) → H' q = some (.tup ((o : List Nat).map vN)) → (∀ a ∈ o, a < ls.length) → o.length = w.length → Q (.ref q) H'
theorem Rows.but {d : Addr} {H H' : Hp} {ds : List V} {rs : List Addr} {ls : List (List Nat)} (h : Rows H rs ls) (hd : H d = some (.lst ds)) (s : But d H H') : Rows H' rs ls := ⟨h.1, fun i r e => s _ _ (ne_of (h.2 i r e) hd (by intro z; cases z)) (h.2 i r e)⟩
section
variable {P : Program} {w : World} {K : PySem.W.Frag} {mg : Str → Option Value} {base : Heap}
theorem scShuf : FnScope ["_law_draws_here", "_law_letters", "_law_word_here", "_law_times", "_law_found", "_law_k", "_law_at", "_law_one"] ["_law_draws_here", "_law_letters", "_law_word_here", "_law_times"] (defScope sShuf) := ⟨rfl, rfl, rfl, by decide +kernel, rfl, by decide +kernel, by decide +kernel⟩
theorem ok_shuf {f fT fR C : Addr} {fd fdT fdR : FuncData} (F : Fun K "_law_shuffled" "_law_shuffled" sShuf f fd) (T : Txt K mg C) (FT : Fun K "_law_take" "_law_take" sTake fT fdT) (bT : Binds K fdT ["_law_draws_here", "_law_limit"] []) (mT : mg "_law_take" = some (.ref fT))
    (FR : Fun K "_law_free" "_law_free" sFree fR fdR) (bR : Binds K fdR ["_law_letters", "_law_first", "_law_second"] []) (mR : mg "_law_free" = some (.ref fR)) :
    FnOk P w K mg base CX0 2 f fd ["_law_draws_here", "_law_letters", "_law_word_here", "_law_times"] spShuf := by
  have GT : FnOk P w K mg base CX0 1 fT fdT ["_law_draws_here", "_law_limit"] spTake := ok_take FT T
  have GR : FnOk P w K mg base CX0 1 fR fdR ["_law_letters", "_law_first", "_law_second"] spFree := ok_free FR T
  refine F.ok scShuf (fun vs H Q E h => ?_) (fun cdv A outer s H vs Q E hr h => ?_)
  · obtain ⟨d, L, wa, ds, rs, ls, w, n, rfl, _⟩ := h
    rfl
  · obtain ⟨d, L, wa, ds, rs, ls, w, n, rfl, hd, hL, nLd, hR, hsm, hw, hlt, hlen, hn, q⟩ := h
    refine ⟨_, pss_cons (ps_set (i := 4) scShuf.nd rfl (Or.inl rfl) (pe_callTy call_list_of (by rfl) T.list (by decide +kernel) (pa_cons (pv 2) pa_nil))) <|
      pss_cons (ps_for PassesOwn.never rfl (pi_range1 rfl T.range (pa_cons (pv 3) pa_nil)) (pg_name (i := 5) scShuf.nd rfl (Or.inl rfl)) <|
        pss_one (ps_if (pt_cmpR op_gt (pe_callB call_len_seq (by rfl) T.len PySem.boot_len (pa_cons (pv 4) pa_nil)) pe_int (nomark _))
          (pss_cons (ps_set (i := 6) scShuf.nd rfl (Or.inl rfl) (pe_call GT hr rfl mT FT.kp bT .nil pass0 (pa_cons (pv 0) (pa_cons (pe_op op_sub (pe_callB call_len_seq (by rfl) T.len PySem.boot_len (pa_cons (pv 4) pa_nil)) pe_int) pa_nil)))) <|
           pss_one (ps_if (pt_val (pe_call GR hr rfl mR FR.kp bR .nil pass0 (pa_cons (pv 1) (pa_cons (pe_ix ix_list (pv 4) (pv 6) (fun _ _ => rfl)) (pa_cons (pe_ix ix_list (pv 4) (pe_op op_add (pv 6) pe_int) (fun _ _ => rfl)) pa_nil)))))
             (pss_cons (ps_set (i := 7) scShuf.nd rfl (Or.inl rfl) (pe_ix ix_list (pv 4) (pv 6) (fun _ _ => rfl))) <|
              pss_cons (ps_asg (pe_ix ix_list (pv 4) (pe_op op_add (pv 6) pe_int) (fun _ _ => rfl)) (pg_sub (pv 4) (pv 6) set_list)) <|
              pss_one (ps_asg (pv 7) (pg_sub (pv 4) (pe_op op_add (pv 6) pe_int) set_list))) pss_nil)) pss_nil)) <|
      pss_one (ps_ret (pe_callTy call_tuple_of (by rfl) T.tuple (by decide +kernel) (pa_cons (pv 4) pa_nil))), ?_⟩
    refine ⟨_, rfl, wa, _, rfl, .inr (seqT hw), fun g hg => ?_⟩
    have ndg : d ≠ g := ne_of_none hd hg
    refine ⟨_, rfl, _, rfl, by omega, by omega,
      for_range (fun i σ H' => But d H H' ∧ (∃ ds' : List Int, H' d = some (.lst (ds'.map V.int))) ∧ (∃ v5 v6 v7, σ = [some (.ref d), some (.ref L), some (.ref wa), some (vN n), some (.ref g), v5, v6, v7]) ∧
          ∃ o : List Nat, H' g = some (.lst (o.map vN)) ∧ o.length = w.length ∧ ∀ a ∈ o, a < ls.length)
        ⟨fun b u nb z => by rw [upd_ne (ne_of_none z hg)]; exact z, ⟨ds, by rw [upd_ne ndg]; exact hd⟩, ⟨none, none, none, rfl⟩, w, upd_same, rfl, hlt⟩ ?_ ?_⟩
    · rintro i σ H' hi ⟨b1, ⟨ds1, hd1⟩, ⟨v5, v6, v7, rfl⟩, o, ho, hol, hom⟩
      refine ⟨_, rfl, g, _, rfl, .inl (.inl (.inl ho)), _, _, rfl, rfl, _, rfl, ?_⟩
      rw [List.length_map]
      by_cases hz : 1 < o.length
      · rw [decide_eq_true (by omega)]
        have eL : V.int ((((o.map vN).length : Nat) : Int) - 1) = vN (o.length - 1) := by
          show V.int _ = V.int _
          rw [List.length_map]
          congr 1
          omega
        refine iteT ⟨_, rfl, _, rfl, g, _, rfl, .inl (.inl (.inl ho)), _, _, rfl, rfl, d, ds1, o.length - 1, ?_, hd1, by omega, fun H2 j ds2 b2 hd2 hj => ?_⟩
        · show [V.ref d, V.int ((((o.map vN).length : Nat) : Int) - 1)] = _
          rw [eL]
        · have ho2 : H2 g = some (.lst (o.map vN)) := b2 _ _ ndg.symm ho
          have b12 : But d H H2 := fun b u nb z => b2 _ _ nb (b1 b u nb z)
          have hR2 := hR.but hd b12
          have hL2 := b12 _ _ nLd hL
          have ix0 := ix_vN (l := o) (i := j) (by omega)
          have ix1 : atI (o.map vN) ((j : Int) + 1) = some (vN (o.getD (j + 1) 0)) := ix_vN (l := o) (i := j + 1) (by omega)
          have m0 : o.getD j 0 < ls.length := hom _ (gd_mem (by omega))
          have m1 : o.getD (j + 1) 0 < ls.length := hom _ (gd_mem (by omega))
          refine ⟨_, rfl, _, rfl, _, rfl, g, _, _, _, rfl, rfl, .inl (.inl ho2), ix0, _, rfl, _, rfl, _, _, rfl, rfl, g, _, _, _, rfl, rfl, .inl (.inl ho2), ix1, L, rs, ls, _, _, rfl, hL2, hR2, m0, m1, hsm _ m0, fun H3 t s3 => ⟨t, rfl, ?_⟩⟩
          have ho3 := s3 _ _ ho2
          have hd3 := s3 _ _ hd2
          have b13 : But d H H3 := fun b u nb z => s3 _ _ (b12 b u nb z)
          refine ite2 (fun _ => ?_) (fun _ => ?_)
          · refine ⟨_, rfl, _, rfl, g, _, _, _, rfl, rfl, .inl (.inl ho3), ix0, ?_⟩
            refine ⟨_, rfl, _, rfl, _, _, rfl, rfl, g, _, _, _, rfl, rfl, .inl (.inl ho3), ix1, _, rfl, _, rfl, g, _, _, j, rfl, rfl, ho3, ixn (by rw [List.length_map]; omega), ?_⟩
            have e1 : (o.map vN).set j (vN (o.getD (j + 1) 0)) = (o.set j (o.getD (j + 1) 0)).map vN := set_vN
            rw [e1]
            refine ⟨_, rfl, _, rfl, _, rfl, _, _, rfl, rfl, g, _, _, j + 1, rfl, rfl, upd_same, ixn (j := j + 1) (by rw [List.length_map, List.length_set]; omega), ?_⟩
            have e2 : ((o.set j (o.getD (j + 1) 0)).map vN).set (j + 1) (vN (o.getD j 0)) = (swap1 o j).map vN := set_vN
            rw [e2]
            refine ⟨fun b u nb z => ?_, ⟨ds2, by rw [upd_ne ndg, upd_ne ndg]; exact hd3⟩, ⟨_, _, _, rfl⟩, swap1 o j, upd_same, by rw [swap1_len, hol], fun c hc => hom c (swap1_mem hc (by omega))⟩
            have nbg : b ≠ g := ne_of_none z hg
            rw [upd_ne nbg, upd_ne nbg]
            exact b13 b u nb z
          · exact ⟨b13, ⟨ds2, hd3⟩, ⟨_, _, _, rfl⟩, o, ho3, hol, hom⟩
      · rw [decide_eq_false (by omega)]
        exact iteF ⟨b1, ⟨ds1, hd1⟩, ⟨_, _, _, rfl⟩, o, ho, hol, hom⟩
    · rintro σ H' ⟨b1, ⟨ds1, hd1⟩, ⟨v5, v6, v7, rfl⟩, o, ho, hol, hom⟩
      refine ⟨_, rfl, g, _, rfl, .inl ⟨.inl (.inl ho), fun l hl => ?_⟩⟩
      have ndl : d ≠ l := ne_of_none hd1 hl
      refine q _ l o ds1 (fun b u nb z => ?_) (by rw [upd_ne ndl]; exact hd1) upd_same hom hol
      have z3 := b1 b u nb z
      rw [upd_ne (ne_of_none z3 hl)]
      exact z3
end
end Plw

set_option maxHeartbeats 4000000
namespace Plw
open PySem L2 Trc
def spAlph : Sp := fun vs H Q _ => ∃ (d : Addr) (ds : List Int), vs = [.ref d, vN 4, vN 6] ∧ H d = some (.lst (ds.map V.int)) ∧
  ∀ H' t L k rs ls ds', But d H H' → H' d = some (.lst ((ds' : List Int).map V.int)) → H' t = some (.tup [vN k, .ref L]) → L ≠ d → H' L = some (.lst ((rs : List Addr).map V.ref)) → Rows H' rs ls → AlOk k ls → Q (.ref t) H'
/-- a rising list of ints from 0 up is one of natural numbers -/
theorem nats_of {o : List Nat} {k : Nat} {ns : List Int} (hne : o ≠ []) (hk : ∀ a ∈ o, a < k) (up : ns.Pairwise (· < ·)) (mem : ∀ z : Int, z ∈ ns ↔ decide (z ∈ o.map fun n : Nat => (n : Int)) = true) :
    ∃ l : List Nat, ns.map V.int = l.map vN ∧ l ≠ [] ∧ l.Pairwise (· < ·) ∧ ∀ p ∈ l, p < k := by
  have inn : ∀ z ∈ ns, ∃ n ∈ o, (n : Int) = z := fun z hz => by
    have := of_decide_eq_true ((mem z).mp hz)
    simpa using this
  refine ⟨ns.map Int.toNat, ?_, ?_, ?_, ?_⟩
  · rw [List.map_map]
    refine List.map_congr_left fun z hz => ?_
    obtain ⟨n, _, rfl⟩ := inn z hz
    rfl
  · intro e
    obtain ⟨a, ha⟩ := List.exists_mem_of_ne_nil _ hne
    have h1 : (a : Int) ∈ ns := (mem a).mpr (decide_eq_true (List.mem_map.mpr ⟨a, ha, rfl⟩))
    have h2 : ns = [] := by
      cases ns with
      | nil => rfl
      | cons x r => cases e
    rw [h2] at h1
    cases h1
  · rw [List.pairwise_map]
    refine List.Pairwise.imp_of_mem (fun {a b} ha hb hab => ?_) up
    obtain ⟨n, _, rfl⟩ := inn a ha
    obtain ⟨m, _, rfl⟩ := inn b hb
    rw [Int.toNat_natCast, Int.toNat_natCast]
    omega
  · intro p hp
    obtain ⟨z, hz, rfl⟩ := List.mem_map.mp hp
    obtain ⟨n, hn, rfl⟩ := inn z hz
    rw [Int.toNat_natCast]
    exact hk n hn
section
variable {P : Program} {w : World} {K : PySem.W.Frag} {mg : Str → Option Value} {base : Heap}
theorem scAlph : FnScope ["_law_draws_here", "_law_places", "_law_most", "_law_count", "_law_letters", "_law_k", "_law_size", "_law_there", "_law_j"] ["_law_draws_here", "_law_places", "_law_most"] (defScope sAlph) := ⟨rfl, rfl, rfl, by decide +kernel, rfl, by decide +kernel, by decide +kernel⟩
theorem ok_alph {f fT C : Addr} {fd fdT : FuncData} (F : Fun K "_law_alphabet" "_law_alphabet" sAlph f fd) (T : Txt K mg C) (FT : Fun K "_law_take" "_law_take" sTake fT fdT) (bT : Binds K fdT ["_law_draws_here", "_law_limit"] []) (mT : mg "_law_take" = some (.ref fT)) :
    FnOk P w K mg base CX0 2 f fd ["_law_draws_here", "_law_places", "_law_most"] spAlph := by
  have GT : FnOk P w K mg base CX0 1 fT fdT ["_law_draws_here", "_law_limit"] spTake := ok_take FT T
  refine F.ok scAlph (fun vs H Q E h => ?_) (fun cdv A outer s H vs Q E hr h => ?_)
  · obtain ⟨d, ds, rfl, _⟩ := h
    rfl
  · obtain ⟨d, ds, rfl, hd, q⟩ := h
    refine ⟨_, pss_cons (ps_set (i := 3) scAlph.nd rfl (Or.inr rfl) (pe_op op_add pe_int (pe_call GT hr rfl mT FT.kp bT .nil pass0 (pa_cons (pv 0) (pa_cons (pv 1) pa_nil))))) <|
      pss_cons (ps_set (i := 4) scAlph.nd rfl (Or.inl rfl) (pe_lst pa_nil)) <|
      pss_cons (ps_for PassesOwn.never rfl (pi_range1 rfl T.range (pa_cons (pe_op op_add pe_int (pe_call GT hr rfl mT FT.kp bT .nil pass0 (pa_cons (pv 0) (pa_cons (pv 2) pa_nil)))) pa_nil)) (pg_name (i := 5) scAlph.nd rfl (Or.inl rfl)) <|
        pss_cons (ps_set (i := 6) scAlph.nd rfl (Or.inl rfl) (pe_ix ix_list (pe_lst (pa_cons pe_int (pa_cons pe_int (pa_cons pe_int (pa_cons pe_int (pa_cons pe_int (pa_cons pe_int pa_nil)))))))
          (pe_call GT hr rfl mT FT.kp bT .nil pass0 (pa_cons (pv 0) (pa_cons pe_int pa_nil))) (fun _ _ => rfl))) <|
        pss_cons (ps_setLc (i := 7) (own := [("_law_j", 8)]) (g := gName 8) (tt := tYes) (te := tCall spTake [] E0 (tCons (tVar 0) (tCons (tVar 3) tNil))) rfl scAlph.nd rfl rfl (sw_true rfl rfl rfl (by decide +kernel))
          (pi_range1 rfl T.range (pa_cons (pv 6) pa_nil)) (blkOk_by (N := ["_law_draws_here", "_law_places", "_law_most", "_law_count", "_law_letters", "_law_k", "_law_size", "_law_there", "_law_j"]) (sc := defScope sAlph) (by decide +kernel))
          (fun _ _ _ _ _ => pg_name (i := 8) scAlph.nd rfl (Or.inl rfl)) (fun _ _ _ _ _ => pts_nil) (fun _ _ _ _ _ => pe_call GT hr rfl mT FT.kp bT .nil pass0 (pa_cons (pv 0) (pa_cons (pv 3) pa_nil)))) <|
        pss_one (ps_expr (pe_bm PySem.F.plainAttrs_list PySem.F.slot_list_append PySem.F.type_list_append mt_append (pv 4) (pa_cons (pe_callTy call_tuple_of (by rfl) T.tuple (by decide +kernel) (pa_cons
          (pe_callB (cr_sortedSet rfl) (by rfl) T.sorted (by decide +kernel) (pa_cons (pe_callTy (cr_setInts rfl) (by rfl) T.set (by decide +kernel) (pa_cons (pv 7) pa_nil)) pa_nil)) pa_nil)) pa_nil)))) <|
      pss_one (ps_ret (pe_tup (pa_cons (pv 3) (pa_cons (pv 4) pa_nil)))), ?_⟩
    refine ⟨_, rfl, _, rfl, d, ds, 4, rfl, hd, by decide, fun H1 c0 ds1 b1 hd1 hc0 => ⟨_, _, rfl, rfl, ?_⟩⟩
    have ek : V.int (1 + (c0 : Int)) = vN (1 + c0) := by
      show V.int _ = V.int _
      congr 1
    refine ⟨Nat.zero_le _, fun g hg => ?_⟩
    have ndg : d ≠ g := ne_of_none hd1 hg
    have hg0 : ∀ b o, b ≠ d → H b = some o → b ≠ g := fun b o nb z => ne_of_none (b1 _ _ nb z) hg
    refine ⟨_, rfl, _, rfl, d, ds1, 6, rfl, by rw [upd_ne ndg]; exact hd1, by decide, fun H2 c1 ds2 b2 hd2 hc1 => ⟨_, _, rfl, rfl, ?_⟩⟩
    have b12 : But d H H2 := fun b o nb z => b2 _ _ nb (by rw [upd_ne (hg0 b o nb z)]; exact b1 _ _ nb z)
    have hg2 : H2 g = some (.lst []) := b2 _ _ ndg.symm upd_same
    refine ⟨_, rfl, by omega, by omega,
      for_range (fun i σ H' => But d H H' ∧ (∃ ds' : List Int, H' d = some (.lst (ds'.map V.int))) ∧ (∃ v5 v6 v7 v8, σ = [some (.ref d), some (vN 4), some (vN 6), some (vN (1 + c0)), some (.ref g), v5, v6, v7, v8]) ∧
          ∃ (rs : List Addr) (ls : List (List Nat)), H' g = some (.lst (rs.map V.ref)) ∧ Rows H' rs ls ∧ ls.length = i ∧ ∀ l ∈ ls, l ≠ [] ∧ l.Pairwise (· < ·) ∧ ∀ p ∈ l, p < 1 + c0)
        ⟨b12, ⟨ds2, hd2⟩, ⟨none, none, none, none, by
          show [some (V.ref d), some (vN 4), some (vN 6), some (V.int (1 + (c0 : Int))), some (V.ref g), none, none, none, none] = _
          rw [ek]⟩, [], [], hg2, Rows.nil _, rfl, fun l hl => by cases hl⟩ ?_ ?_⟩
    · rintro i σ H' hi ⟨b3, ⟨ds3, hd3⟩, ⟨v5, v6, v7, v8, rfl⟩, rs, ls, hgr, hRr, hli, hall⟩
      -- size = [1, 1, 1, 2, 2, 3][take(6)]
      refine ⟨by decide, fun t0 ht0 => ?_⟩
      have ndt : d ≠ t0 := ne_of_none hd3 ht0
      refine ⟨_, rfl, d, ds3, 6, rfl, by rw [upd_ne ndt]; exact hd3, by decide, fun H4 j ds4 b4 hd4 hj => ?_⟩
      have ht4 := b4 _ _ ndt.symm (upd_same (H := H'))
      obtain ⟨sz, hsz, z1, z3⟩ : ∃ sz : Nat, ([V.int 1, V.int 1, V.int 1, V.int 2, V.int 2, V.int 3] : List V)[j]? = some (vN sz) ∧ 1 ≤ sz ∧ sz ≤ 3 := by
        match j, hj with
        | 0, _ => exact ⟨1, rfl, by decide, by decide⟩
        | 1, _ => exact ⟨1, rfl, by decide, by decide⟩
        | 2, _ => exact ⟨1, rfl, by decide, by decide⟩
        | 3, _ => exact ⟨2, rfl, by decide, by decide⟩
        | 4, _ => exact ⟨2, rfl, by decide, by decide⟩
        | 5, _ => exact ⟨3, rfl, by decide, by decide⟩
        | j + 6, h => exact absurd h (by omega)
      refine ⟨t0, _, _, _, rfl, rfl, .inl (.inl ht4), atI_nat hsz, ?_⟩
      have s4 : ∀ b o, b ≠ d → H' b = some o → H4 b = some o := fun b o nb z => b4 _ _ nb (by rw [upd_ne (ne_of_none z ht0)]; exact z)
      refine ⟨_, rfl, _, rfl, by omega, by omega, fun D hD => ?_⟩
      have ndD : d ≠ D := ne_of_none hd4 hD
      have hD' : ∀ b o, b ≠ d → H' b = some o → b ≠ D := fun b o nb z => ne_of_none (s4 b o nb z) hD
      refine lc_range (lo := 0) (n := ((sz : Int)).toNat) (fun j H5 => (∀ b o, b ≠ d → H' b = some o → H5 b = some o) ∧ (∃ ds5 : List Int, H5 d = some (.lst (ds5.map V.int))) ∧ ∃ o : List Nat, H5 D = some (.lst (o.map vN)) ∧ o.length = j ∧ ∀ a ∈ o, a < 1 + c0)
        ⟨fun b o nb z => by rw [upd_ne (hD' b o nb z)]; exact s4 b o nb z, ⟨ds4, by rw [upd_ne ndD]; exact hd4⟩, [], upd_same, rfl, fun a h => by cases h⟩ ?_ ?_
      · rintro j5 H5 hj5 ⟨s5, ⟨ds5, hd5⟩, o, hD5, ho, hom⟩
        refine ⟨rfl, _, rfl, _, rfl, d, ds5, 1 + c0, rfl, hd5, by omega, fun H6 a ds6 b6 hd6 ha => ?_⟩
        refine ⟨_, b6 _ _ ndD.symm hD5, by rw [List.length_map]; exact small1000 (by omega), fun b u nb z => ?_, ⟨ds6, by rw [upd_ne ndD]; exact hd6⟩, o ++ [a], ?_, ?_, ?_⟩
        · rw [upd_ne (hD' b u nb z)]
          exact b6 _ _ nb (s5 b u nb z)
        · rw [upd_same, List.map_append]
          rfl
        · rw [List.length_append, List.length_singleton, ho]
        · intro c hc
          rcases List.mem_append.mp hc with z | z
          · exact hom c z
          · rw [List.mem_singleton.mp z]
            exact ha
      · rintro H5 ⟨s5, ⟨ds5, hd5⟩, o, hD5, ho, hom⟩
        have hg5 := s5 _ _ ndg.symm hgr
        have hone : o ≠ [] := fun z => by
          rw [z] at ho
          have : ((sz : Int)).toNat = 0 := ho.symm
          omega
        have em : o.map vN = (o.map fun n : Nat => (n : Int)).map V.int := by rw [List.map_map]; rfl
        refine ⟨_, rfl, .inl ⟨rfl, _, .inl (.inl hg5)⟩, _, rfl, D, o.map fun n : Nat => (n : Int), rfl, .inl (.inl (by rw [← em]; exact hD5)), by rw [List.length_map, ho]; omega, fun sa c hsa hcle => ?_⟩
        rw [List.length_map, ho] at hcle
        refine ⟨sa, _, c, rfl, upd_same, by omega, fun ns p up mem _ hp => ?_⟩
        refine ⟨p, _, rfl, .inl ⟨.inl (.inl upd_same), fun l hl => ?_⟩⟩
        obtain ⟨lt, elt, l1, l2, l3⟩ := nats_of hone hom up mem
        rw [elt] at hl ⊢
        have kp : ∀ b u, H5 b = some u → (upd (upd (upd H5 sa (SetO w sa (fun j => decide (j ∈ o.map fun n : Nat => (n : Int))) c)) p (.lst (lt.map vN))) l (.tup (lt.map vN))) b = some u := fun b u z => by
          have n1 : b ≠ sa := ne_of_none z hsa
          have z1 : upd H5 sa (SetO w sa (fun j => decide (j ∈ o.map fun n : Nat => (n : Int))) c) b = some u := by rw [upd_ne n1]; exact z
          have n2 : b ≠ p := ne_of_none z1 hp
          have z2 : upd (upd H5 sa (SetO w sa (fun j => decide (j ∈ o.map fun n : Nat => (n : Int))) c)) p (.lst (lt.map vN)) b = some u := by rw [upd_ne n2]; exact z1
          rw [upd_ne (ne_of_none z2 hl)]
          exact z2
        have hgl := kp _ _ hg5
        have ngl : g ≠ l := by
          intro z
          rw [← z] at hl
          have n1 : g ≠ sa := ne_of_none hg5 hsa
          have z1 : upd H5 sa (SetO w sa (fun j => decide (j ∈ o.map fun n : Nat => (n : Int))) c) g = some (.lst (rs.map V.ref)) := by rw [upd_ne n1]; exact hg5
          have n2 : g ≠ p := ne_of_none z1 hp
          rw [upd_ne n2, upd_ne n1, hg5] at hl
          cases hl
        refine ⟨g, _, _, rfl, rfl, hgl, ?_, ?_⟩
        · rw [List.length_map, hRr.1, hli]
          exact small1000 (by omega)
        · refine ⟨fun b u nb z => ?_, ⟨ds5, ?_⟩, ⟨_, _, _, _, rfl⟩, rs ++ [l], ls ++ [lt], ?_, ?_, ?_, ?_⟩
          · rw [upd_ne (hg0 b u nb z)]
            exact kp _ _ (s5 _ _ nb (b3 _ _ nb z))
          · rw [upd_ne ndg]
            exact kp _ _ hd5
          · rw [upd_same, List.map_append]
            rfl
          · have r1 : Rows (upd (upd (upd (upd H5 sa (SetO w sa (fun j => decide (j ∈ o.map fun n : Nat => (n : Int))) c)) p (.lst (lt.map vN))) l (.tup (lt.map vN))) g (.lst (rs.map V.ref ++ [V.ref l]))) rs ls := by
              refine ⟨hRr.1, fun i2 r er => ?_⟩
              have zr := hRr.2 i2 r er
              have nrg : r ≠ g := ne_of zr hgr (by intro z; cases z)
              have nrd : r ≠ d := ne_of zr hd3 (by intro z; cases z)
              rw [upd_ne nrg]
              exact kp _ _ (s5 _ _ nrd zr)
            refine r1.snoc ?_
            rw [upd_ne ngl.symm, upd_same]
          · rw [List.length_append, List.length_singleton, hli]
          · intro l9 hl9
            rcases List.mem_append.mp hl9 with z | z
            · exact hall l9 z
            · rw [List.mem_singleton.mp z]
              exact ⟨l1, l2, l3⟩
    · rintro σ H' ⟨b3, ⟨ds3, hd3⟩, ⟨v5, v6, v7, v8, rfl⟩, rs, ls, hgr, hRr, hli, hall⟩
      refine ⟨_, rfl, _, rfl, by show 2 ≤ sizeLine; decide, fun t ht => ?_⟩
      have ndt : d ≠ t := ne_of_none hd3 ht
      have kt : Same H' (upd H' t (.tup [vN (1 + c0), .ref g])) := same_upd ht
      refine q _ t g (1 + c0) rs ls ds3 (fun b u nb z => kt _ _ (b3 _ _ nb z)) (kt _ _ hd3) upd_same ndg.symm (kt _ _ hgr) (hRr.same kt) ⟨by omega, by omega, by omega, by omega, fun l hl => (hall l hl).1, fun l hl => (hall l hl).2.1, fun l hl => (hall l hl).2.2⟩
end
end Plw

set_option maxHeartbeats 8000000
namespace Plw
open PySem L2 Trc
/-- a def by its name -/
def Callee (P : Program) (w : World) (K : PySem.W.Frag) (mg : Str → Option Value) (base : Heap) (x : Str) (k : Nat) (ps : List Str) (sp : Sp) : Prop :=
  ∃ f fd, FnOk P w K mg base CX0 k f fd ps sp ∧ PySem.W.keepIn K (.ref f) = true ∧ Binds K fd ps [] ∧ mg x = some (.ref f)
/-! ### slices and sums of tuples -/
theorem sl_any {K : PySem.W.Frag} {H : Hp} {a : Addr} {l r : List Nat} {lo hi : Option Int} {Q : VK} (ha : H a = some (.tup (l.map vN))) (e : cutV (l.map vN) lo hi = r.map vN)
    (q : ∀ p H1, Same H H1 → H1 p = some (.tup (r.map vN)) → Q (.ref p) H1) : rSlA K (.ref a) lo hi H Q := by
  refine ⟨a, _, rfl, seqT ha, fun hw => ?_, fun _ p hp => ?_⟩
  · refine q a H (Same.refl H) ?_
    unfold cutV at e
    rw [hw.1, hw.2, List.drop_zero, Nat.sub_zero, List.take_length] at e
    rw [ha, e]
  · rw [e]
    exact q p _ (same_upd hp) upd_same
theorem cat_any {K : PySem.W.Frag} {H : Hp} {a b : Addr} {l r : List Nat} {Q : VK} (ha : H a = some (.tup (l.map vN))) (hb : H b = some (.tup (r.map vN))) (len : l.length + r.length ≤ 1000)
    (q : ∀ p H1, Same H H1 → H1 p = some (.tup ((l ++ r).map vN)) → Q (.ref p) H1) : rCatA K (.ref a) (.ref b) H Q := by
  refine ⟨a, b, _, _, rfl, rfl, seqT ha, seqT hb, by rw [List.length_map, List.length_map]; exact small len, fun e => ?_, fun _ e => ?_, fun _ _ p hp => ?_⟩
  · refine q b H (Same.refl H) ?_
    rw [List.map_append, e]
    exact hb
  · refine q a H (Same.refl H) ?_
    rw [List.map_append, e, List.append_nil]
    exact ha
  · refine q p _ (same_upd hp) ?_
    rw [upd_same, List.map_append]
theorem cut_front (l : List Nat) (n : Nat) : cutV (l.map vN) none (some (n : Int)) = (l.take n).map vN := by
  unfold cutV
  rw [HT.sIx_none, HT.sIx_nat, List.drop_zero, Nat.sub_zero, List.map_take, List.length_map]
  rw [Nat.min_def]
  split
  · rfl
  · rw [List.take_of_length_le (by rw [List.length_map]; exact Nat.le_refl _), List.take_of_length_le (by rw [List.length_map]; omega)]
theorem cut_back (l : List Nat) (n : Nat) {z : Int} (hz : z = (n : Int)) : cutV (l.map vN) (some z) none = (l.drop n).map vN := by
  subst hz
  unfold cutV
  rw [HT.sIx_none, HT.sIx_nat, List.map_drop, List.length_map, Nat.min_def]
  split
  · rw [List.take_of_length_le]
    rw [List.length_drop, List.length_map]
    exact Nat.le_refl _
  · rw [List.drop_of_length_le (by rw [List.length_map]; exact Nat.le_refl _), List.drop_of_length_le (by rw [List.length_map]; omega), List.take_nil]
theorem np {σ : L2.St} {H : Hp} {Q : Option Int → Hp → Prop} (h : Q none H) : tNoPart σ H Q := h
/-! ### what the law knows of the heap -/
structure Wld (C : Addr) (H : Hp) (d x L wd ot : Addr) (k : Nat) (rs : List Addr) (ls : List (List Nat)) (w o : List Nat) : Prop where
  hd : ∃ ds : List Int, H d = some (.lst (ds.map V.int))
  al : Alp C H x k ls
  hL : H L = some (.lst (rs.map V.ref))
  nL : L ≠ d
  hR : Rows H rs ls
  hw : H wd = some (.tup (w.map vN))
  ho : H ot = some (.tup (o.map vN))
theorem Alp.but {C d : Addr} {H H' : Hp} {ds : List V} {p : Addr} {k : Nat} {ls : List (List Nat)} (h : Alp C H p k ls) (hd : H d = some (.lst ds)) (s : But d H H') : Alp C H' p k ls := by
  obtain ⟨dx, t, rs, h1, h2, h3⟩ := h
  exact ⟨dx, t, rs, s _ _ (ne_of h1 hd (by intro z; cases z)) h1, s _ _ (ne_of h2 hd (by intro z; cases z)) h2, h3.but hd s⟩
theorem Wld.same {C : Addr} {H H' : Hp} {d x L wd ot : Addr} {k : Nat} {rs : List Addr} {ls : List (List Nat)} {w o : List Nat} (h : Wld C H d x L wd ot k rs ls w o) (s : Same H H') : Wld C H' d x L wd ot k rs ls w o :=
  ⟨⟨h.hd.choose, s _ _ h.hd.choose_spec⟩, h.al.same s, s _ _ h.hL, h.nL, h.hR.same s, s _ _ h.hw, s _ _ h.ho⟩
theorem Wld.but {C : Addr} {H H' : Hp} {d x L wd ot : Addr} {k : Nat} {rs : List Addr} {ls : List (List Nat)} {w o : List Nat} {ds' : List Int} (h : Wld C H d x L wd ot k rs ls w o) (s : But d H H') (hd : H' d = some (.lst (ds'.map V.int))) : Wld C H' d x L wd ot k rs ls w o := by
  obtain ⟨ds, h0⟩ := h.hd
  exact ⟨⟨ds', hd⟩, h.al.but h0 s, s _ _ h.nL h.hL, h.nL, h.hR.but h0 s, s _ _ (ne_of h.hw h0 (by intro z; cases z)) h.hw, s _ _ (ne_of h.ho h0 (by intro z; cases z)) h.ho⟩
theorem Wld.other {C : Addr} {H : Hp} {d x L wd ot ot' : Addr} {k : Nat} {rs : List Addr} {ls : List (List Nat)} {w o o' : List Nat} (h : Wld C H d x L wd ot k rs ls w o) (e : H ot' = some (.tup (o'.map vN))) : Wld C H d x L wd ot' k rs ls w o' :=
  ⟨h.hd, h.al, h.hL, h.nL, h.hR, h.hw, e⟩
def spLaw (K : PySem.W.Frag) : Sp := fun vs H Q _ => ∃ (a : Addr) (ns : List Int), vs = [.ref a] ∧ SqL K H a (ns.map V.int) ∧ ns.length ≤ 63 ∧ ∀ H', Q (.bl true) H'
theorem ne_false {X : Type} [DecidableEq X] {a b : X} {A B : Prop} (e : a = b) (h : B) : if (!decide (a = b)) = true then A else B := iteNS e h
section
variable {P : Program} {w : World} {K : PySem.W.Frag} {mg : Str → Option Value} {base : Heap}
theorem scLaw : FnScope ["_law_script", "_law_draws_here", "_law_count", "_law_letters", "_law_alphabet_here", "_law_word_here", "_law_other", "_law_kind", "_law_at", "_law_expected", "_law_least", "_law_positions"] ["_law_script"] (defScope sLaw) := ⟨rfl, rfl, rfl, by decide +kernel, rfl, by decide +kernel, by decide +kernel⟩
theorem ok_law {f fI C : Addr} {fd fdI : FuncData} (F : Fun K "law" "law" sLaw f fd) (T : Txt K mg C) (M : Mk K C fI) (GI : FnOk P w K mg base CX0 2 fI fdI ["self", "places", "letters"] (spInit C)) (bI : Binds K fdI ["self", "places", "letters"] [])
    (cD : Callee P w K mg base "_law_draws" 1 ["_law_script", "_law_count"] (spDraws K)) (cA : Callee P w K mg base "_law_alphabet" 2 ["_law_draws_here", "_law_places", "_law_most"] spAlph)
    (cW : Callee P w K mg base "_law_word" 2 ["_law_draws_here", "_law_letters", "_law_most"] spWord) (cS : Callee P w K mg base "_law_shuffled" 2 ["_law_draws_here", "_law_letters", "_law_word_here", "_law_times"] spShuf)
    (cT : Callee P w K mg base "_law_take" 1 ["_law_draws_here", "_law_limit"] spTake) (cL : Callee P w K mg base "_law_alike" 2 ["_law_count", "_law_letters", "_law_first", "_law_second"] spAlike)
    (cE : Callee P w K mg base "equivalent" 2 ["alphabet", "first", "second"] (spEquiv C)) (cY : Callee P w K mg base "layers" 3 ["alphabet", "word"] (spLayers C)) (cF : Callee P w K mg base "least_form" 4 ["alphabet", "word"] (spLeast C))
    (cI : Callee P w K mg base "is_least" 3 ["alphabet", "word"] (spIsL C)) (cP : Callee P w K mg base "swaps" 3 ["alphabet", "first", "second"] (spSwaps C)) (cQ : Callee P w K mg base "swapped" 2 ["alphabet", "word", "positions"] (spSwapped C)) :
    FnOk P w K mg base CX0 5 f fd ["_law_script"] (spLaw K) := by
  obtain ⟨fD, dD, GD, kD, bD, mD⟩ := cD
  obtain ⟨fA, dA, GA, kA, bA, mA⟩ := cA
  obtain ⟨fW, dW, GW, kW, bW, mW⟩ := cW
  obtain ⟨fS, dS, GS, kS, bS, mS⟩ := cS
  obtain ⟨fT, dT, GT, kT, bT, mT⟩ := cT
  obtain ⟨fL, dL, GL, kL, bL, mL⟩ := cL
  obtain ⟨fE, dE, GE, kE, bE, mE⟩ := cE
  obtain ⟨fY, dY, GY, kY, bY, mY⟩ := cY
  obtain ⟨fF, dF, GF, kF, bF, mF⟩ := cF
  obtain ⟨fJ, dJ, GJ, kJ, bJ, mJ⟩ := cI
  obtain ⟨fP, dP, GP, kP, bP, mP⟩ := cP
  obtain ⟨fQ, dQ, GQ, kQ, bQ, mQ⟩ := cQ
  refine F.ok scLaw (fun vs H Q E h => ?_) (fun cdv A outer s H vs Q E hr h => ?_)
  · obtain ⟨a, ns, rfl, _⟩ := h
    rfl
  · obtain ⟨a, ns, rfl, hS, hlen, q⟩ := h
    have r1 : Room 1 _ := hr.mono (by decide)
    have r2 : Room 2 _ := hr.mono (by decide)
    have r3 : Room 3 _ := hr.mono (by decide)
    refine ⟨_, pss_cons (ps_set (i := 1) scLaw.nd rfl (Or.inl rfl) (pe_call GD r1 rfl mD kD bD .nil pass0 (pa_cons (pv 0) (pa_cons pe_int pa_nil)))) <|
      pss_cons (ps_asg (pe_call GA r2 rfl mA kA bA .nil pass0 (pa_cons (pv 1) (pa_cons pe_int (pa_cons pe_int pa_nil))))
        (pg_tup rfl (pgs_cons (pg_name (i := 2) scLaw.nd rfl (Or.inl rfl)) (pgs_cons (pg_name (i := 3) scLaw.nd rfl (Or.inl rfl)) pgs_nil)))) <|
      pss_cons (ps_set (i := 4) scLaw.nd rfl (Or.inl rfl) (pe_make M GI r3 (by rfl) T.mgC bI .nil pass0 (pa_cons (pv 2) (pa_cons (pe_callTy call_list_of (by rfl) T.list (by decide +kernel) (pa_cons (pv 3) pa_nil)) pa_nil)))) <|
      pss_cons (ps_set (i := 5) scLaw.nd rfl (Or.inl rfl) (pe_call GW r2 rfl mW kW bW .nil pass0 (pa_cons (pv 1) (pa_cons (pe_callB call_len_seq (by rfl) T.len PySem.boot_len (pa_cons (pv 3) pa_nil)) (pa_cons pe_int pa_nil))))) <|
      pss_cons (ps_set (i := 6) scLaw.nd rfl (Or.inl rfl) (pe_call GS r2 rfl mS kS bS .nil pass0 (pa_cons (pv 1) (pa_cons (pv 3) (pa_cons (pv 5) (pa_cons pe_int pa_nil)))))) <|
      pss_cons (ps_set (i := 7) scLaw.nd rfl (Or.inl rfl) (pe_call GT r1 rfl mT kT bT .nil pass0 (pa_cons (pv 1) (pa_cons pe_int pa_nil)))) <|
      Evl.pss_cut (ps_if (PW.pt (pw_and (pt_cmpR op_gt (pe_callB call_len_seq (by rfl) T.len PySem.boot_len (pa_cons (pv 6) pa_nil)) pe_int (nomark _)) (pw_and1 (pt_cmpR op_eq (pv 7) pe_int (nomark _)))))
        (pss_cons (ps_set (i := 8) scLaw.nd rfl (Or.inl rfl) (pe_call GT r1 rfl mT kT bT .nil pass0 (pa_cons (pv 1) (pa_cons (pe_op op_sub (pe_callB call_len_seq (by rfl) T.len PySem.boot_len (pa_cons (pv 6) pa_nil)) pe_int) pa_nil)))) <|
         pss_one (ps_set (i := 6) scLaw.nd rfl (Or.inl rfl) (pe_op op_catA (pe_op op_catA (pe_slice sl_tupA (pv 6) po_none (po_some (pv 8)))
           (pe_tup (pa_cons (pe_ix ix_tup (pv 6) (pe_op op_add (pv 8) pe_int) (fun _ _ => rfl)) (pa_cons (pe_ix ix_tup (pv 6) (pv 8) (fun _ _ => rfl)) pa_nil))))
           (pe_slice sl_tupA (pv 6) (po_some (pe_op op_add (pv 8) pe_int)) po_none)))) pss_nil) <|
      Evl.pss_cut (ps_if (PW.pt (pw_and (pt_cmpR op_gt (pe_callB call_len_seq (by rfl) T.len PySem.boot_len (pa_cons (pv 6) pa_nil)) pe_int (nomark _)) (pw_and1 (pt_cmpR op_eq (pv 7) pe_int (nomark _)))))
        (pss_cons (ps_set (i := 8) scLaw.nd rfl (Or.inl rfl) (pe_call GT r1 rfl mT kT bT .nil pass0 (pa_cons (pv 1) (pa_cons (pe_callB call_len_seq (by rfl) T.len PySem.boot_len (pa_cons (pv 6) pa_nil)) pa_nil)))) <|
         pss_one (ps_set (i := 6) scLaw.nd rfl (Or.inl rfl) (pe_op op_catA (pe_op op_catA (pe_slice sl_tupA (pv 6) po_none (po_some (pv 8)))
           (pe_tup (pa_cons (pe_call GT r1 rfl mT kT bT .nil pass0 (pa_cons (pv 1) (pa_cons (pe_callB call_len_seq (by rfl) T.len PySem.boot_len (pa_cons (pv 3) pa_nil)) pa_nil))) pa_nil)))
           (pe_slice sl_tupA (pv 6) (po_some (pe_op op_add (pv 8) pe_int)) po_none)))) pss_nil) <|
      pss_cons (ps_set (i := 9) scLaw.nd rfl (Or.inl rfl) (pe_call GL r2 rfl mL kL bL .nil pass0 (pa_cons (pv 2) (pa_cons (pv 3) (pa_cons (pv 5) (pa_cons (pv 6) pa_nil)))))) <|
      pss_cons (ps_if (pt_cmpR op_ne (pe_call GE r2 rfl mE kE bE .nil pass0 (pa_cons (pv 4) (pa_cons (pv 5) (pa_cons (pv 6) pa_nil)))) (pv 9) (nomark _)) (pss_one (ps_ret pe_bl)) pss_nil) <|
      pss_cons (ps_if (pt_cmpR op_ne (pe_cmpR (op_eqD hr.units) (pe_call GY r3 rfl mY kY bY .nil pass0 (pa_cons (pv 4) (pa_cons (pv 5) pa_nil))) (pe_call GY r3 rfl mY kY bY .nil pass0 (pa_cons (pv 4) (pa_cons (pv 6) pa_nil))) (nomark _)) (pv 9) (nomark _)) (pss_one (ps_ret pe_bl)) pss_nil) <|
      pss_cons (ps_set (i := 10) scLaw.nd rfl (Or.inl rfl) (pe_call GF hr rfl mF kF bF .nil pass0 (pa_cons (pv 4) (pa_cons (pv 5) pa_nil)))) <|
      pss_cons (ps_if (PW.pt (pw_or (pt_cmpR op_ne (pe_cmpR (op_eqD hr.units) (pv 10) (pe_call GF hr rfl mF kF bF .nil pass0 (pa_cons (pv 4) (pa_cons (pv 6) pa_nil))) (nomark _)) (pv 9) (nomark _))
          (pw_or1 (pt_not (pt_val (pe_call GJ r3 rfl mJ kJ bJ .nil pass0 (pa_cons (pv 4) (pa_cons (pv 10) pa_nil)))))))) (pss_one (ps_ret pe_bl)) pss_nil) <|
      pss_cons (ps_if (PW.pt (pw_or (pt_cmpR (op_neD hr.units) (pe_call GY r3 rfl mY kY bY .nil pass0 (pa_cons (pv 4) (pa_cons (pv 10) pa_nil))) (pe_call GY r3 rfl mY kY bY .nil pass0 (pa_cons (pv 4) (pa_cons (pv 5) pa_nil))) (nomark _))
          (pw_or1 (pt_not (pt_val (pe_call GL r2 rfl mL kL bL .nil pass0 (pa_cons (pv 2) (pa_cons (pv 3) (pa_cons (pv 10) (pa_cons (pv 5) pa_nil)))))))))) (pss_one (ps_ret pe_bl)) pss_nil) <|
      pss_cons (ps_set (i := 11) scLaw.nd rfl (Or.inl rfl) (pe_call GP r3 rfl mP kP bP .nil pass0 (pa_cons (pv 4) (pa_cons (pv 5) (pa_cons (pv 6) pa_nil))))) <|
      pss_cons (ps_if (pt_cmpR op_ne (pe_cmpR op_notN (pv 11) pe_non (nomark _)) (pv 9) (nomark _)) (pss_one (ps_ret pe_bl)) pss_nil) <|
      pss_one (ps_ret (pe_or (pe_cmpR op_isN (pv 11) pe_non (nomark _)) (pe_one (pe_cmpR (op_eqD hr.units) (pe_call GQ r2 rfl mQ kQ bQ .nil pass0 (pa_cons (pv 4) (pa_cons (pv 5) (pa_cons (pv 11) pa_nil)))) (pv 6) (nomark _))))), ?_⟩
    refine ⟨_, rfl, a, ns, 100, rfl, hS, hlen, by decide, fun H1 d ds1 s1 hdn hd1 => ?_⟩
    refine ⟨_, rfl, d, ds1, rfl, hd1, fun H2 t L k rs ls ds2 b2 hd2 ht nL hL hR ok => ?_⟩
    have m1 := ok.m1
    have m6 := ok.m6
    have lsm : ∀ c, c < ls.length → (pls ls c).length ≤ 500 := fun c hc => by
      have h1 : (pls ls c).length ≤ (List.range k).length := List.Nodup.length_le_of_subset ((ok.up _ (pls_mem hc)).imp fun h => Nat.ne_of_lt h) fun x hx => List.mem_range.mpr (ok.lt _ (pls_mem hc) x hx)
      rw [List.length_range] at h1
      have := ok.k4
      omega
    refine ⟨t, _, rfl, seqT ht, rfl, _, _, rfl, _, _, rfl, rfl, ?_⟩
    -- Alphabet(count, list(letters))
    refine ⟨_, rfl, _, rfl, L, _, rfl, .inl (.inl (.inl hL)), fun c hc => ?_⟩
    have s3 : Same H2 (upd H2 c (.lst (rs.map V.ref))) := same_upd hc
    intro x dx hx hdx ndx
    have s4 : Same H2 (upd (upd (upd H2 c (.lst (rs.map V.ref))) dx (.own x)) x (.ins C dx [])) := s3.trans ((same_upd hdx).trans (same_upd (by rw [upd_ne ndx.symm]; exact hx)))
    have ncx : c ≠ x := fun z => by rw [z, upd_same] at hx; cases hx
    have ncd : c ≠ dx := fun z => by rw [z, upd_same] at hdx; cases hdx
    refine ⟨x, dx, c, k, rs, ls, rfl, upd_same, by rw [upd_ne ncx, upd_ne ncd, upd_same], hR.same s4, ok, fun H5 b5 al5 => ⟨rfl, ?_⟩⟩
    have hx2 : H2 x = none := s3.free hx
    have s5 : Same H2 H5 := fun b u z => b5 _ _ (ne_of_none z hx2) (s4 _ _ z)
    have hd5 := s5 _ _ hd2
    have hL5 := s5 _ _ hL
    have hR5 := hR.same s5
    -- word, other, kind
    have eM : V.int (((rs.map V.ref).length : Nat) : Int) = vN ls.length := by rw [List.length_map, hR.1]
    refine ⟨_, rfl, _, rfl, L, _, rfl, .inl (.inl (.inl hL5)), d, ds2, ls.length, 14, ?_, hd5, by omega, by decide, fun H6 wd w ds6 b6 hd6 hw6 hwm hwl => ?_⟩
    · show [V.ref d, V.int (((rs.map V.ref).length : Nat) : Int), V.int 14] = _
      rw [eM]
      rfl
    have hL6 := b6 _ _ nL hL5
    have hR6 := hR5.but hd5 b6
    refine ⟨_, rfl, _, rfl, _, rfl, d, L, wd, ds6, rs, ls, w, 25, rfl, hd6, hL6, nL, hR6, lsm, hw6, hwm, by omega, by decide, fun H7 ot o ds7 b7 hd7 ho7 hom hol => ?_⟩
    have W7 : Wld C H7 d x L wd ot k rs ls w o := ⟨⟨ds7, hd7⟩, (al5.but hd5 b6).but hd6 b7, b7 _ _ nL hL6, nL, hR6.but hd6 b7, b7 _ _ (ne_of hw6 hd6 (by intro z; cases z)) hw6, ho7⟩
    refine ⟨_, rfl, d, ds7, 4, rfl, hd7, by decide, fun H8 kd ds8 b8 hd8 hkd => ?_⟩
    have W8 := W7.but b8 hd8
    -- two neighbours exchanged
    refine ⟨fun σ H9 => ∃ (ot : Addr) (o : List Nat) (v8 : Option V), σ = [some (.ref a), some (.ref d), some (vN k), some (.ref L), some (.ref x), some (.ref wd), some (.ref ot), some (vN kd), v8, none, none, none] ∧ Wld C H9 d x L wd ot k rs ls w o ∧ (∀ c ∈ o, c < ls.length) ∧ o.length ≤ 20, ?_, ?_⟩
    · refine ⟨_, rfl, ot, _, rfl, .inr (seqT W8.ho), _, _, rfl, rfl, _, rfl, ?_⟩
      rw [List.length_map]
      by_cases h1 : 1 < o.length
      · rw [decide_eq_true (by omega)]
        refine iteT ⟨_, rfl, rfl, _, rfl, ?_⟩
        refine ite2 (fun _ => ?_) (fun _ => ?_)
        · have eL : V.int ((((o.map vN).length : Nat) : Int) - 1) = vN (o.length - 1) := by
            show V.int _ = V.int _
            rw [List.length_map]
            congr 1
            omega
          refine ⟨_, rfl, _, rfl, ot, _, rfl, .inr (seqT W8.ho), _, _, rfl, rfl, d, ds8, o.length - 1, ?_, hd8, by omega, fun H9 j ds9 b9 hd9 hj => ?_⟩
          · show [V.ref d, V.int ((((o.map vN).length : Nat) : Int) - 1)] = _
            rw [eL]
          · have W9 := W8.but b9 hd9
            refine ⟨_, rfl, _, rfl, _, rfl, sl_any W9.ho (cut_front o j) fun p1 H10 s10 hp1 => ?_⟩
            have W10 := W9.same s10
            have ix0 := ix_vN (l := o) (i := j) (by omega)
            have ix1 : atI (o.map vN) ((j : Int) + 1) = some (vN (o.getD (j + 1) 0)) := ix_vN (l := o) (i := j + 1) (by omega)
            refine ⟨_, rfl, _, rfl, _, _, rfl, rfl, ot, _, _, _, rfl, rfl, seqT W10.ho, ix1, _, rfl, _, rfl, ot, _, _, _, rfl, rfl, seqT W10.ho, ix0, by show 2 ≤ sizeLine; decide, fun p2 hp2 => ?_⟩
            have s11 := same_upd (o := .tup [vN (o.getD (j + 1) 0), vN (o.getD j 0)]) hp2
            have hp2' : upd H10 p2 (.tup [vN (o.getD (j + 1) 0), vN (o.getD j 0)]) p2 = some (.tup ([o.getD (j + 1) 0, o.getD j 0].map vN)) := upd_same
            have lt1 : (o.take j).length ≤ o.length := List.length_take_le' _ _
            have lt2 : (o.drop (j + 2)).length ≤ o.length := by rw [List.length_drop]; omega
            refine cat_any (s11 _ _ hp1) hp2' (by simp; omega) fun p3 H12 s12 hp3 => ?_
            have W12 := (W10.same s11).same s12
            refine ⟨_, rfl, _, rfl, _, _, rfl, rfl, _, rfl, np (sl_any W12.ho (cut_back o (j + 2) (by omega)) fun p4 H13 s13 hp4 => ?_)⟩
            have W13 := W12.same s13
            refine cat_any (s13 _ _ hp3) hp4 (by simp; omega) fun p5 H14 s14 hp5 => ?_
            refine ⟨p5, _, _, rfl, (W13.same s14).other hp5, fun c hc => ?_, ?_⟩
            · rcases List.mem_append.mp hc with hc | hc
              · rcases List.mem_append.mp hc with hc | hc
                · exact hom c (List.mem_of_mem_take hc)
                · rcases List.mem_cons.mp hc with hc | hc
                  · rw [hc]
                    exact hom _ (gd_mem (by omega))
                  · rw [List.mem_singleton.mp hc]
                    exact hom _ (gd_mem (by omega))
              · exact hom c (List.mem_of_mem_drop hc)
            · rw [List.length_append, List.length_append, List.length_take, List.length_drop]
              show min j o.length + 2 + (o.length - (j + 2)) ≤ 20
              omega
        · exact ⟨ot, o, none, rfl, W8, hom, by omega⟩
      · rw [decide_eq_false (by omega)]
        exact ⟨ot, o, none, rfl, W8, hom, by omega⟩
    · -- a letter changed
      clear hol hom ho7 W7 W8 hd8 b8 hd7 b7
      rintro σ H9 ⟨ot, o, v8, rfl, W9, hom, hol⟩
      refine ⟨fun σ H10 => ∃ (ot : Addr) (o : List Nat) (v8 : Option V), σ = [some (.ref a), some (.ref d), some (vN k), some (.ref L), some (.ref x), some (.ref wd), some (.ref ot), some (vN kd), v8, none, none, none] ∧ Wld C H10 d x L wd ot k rs ls w o ∧ (∀ c ∈ o, c < ls.length) ∧ o.length ≤ 30, ?_, ?_⟩
      · refine ⟨_, rfl, ot, _, rfl, .inr (seqT W9.ho), _, _, rfl, rfl, _, rfl, ?_⟩
        rw [List.length_map]
        by_cases h1 : 0 < o.length
        · rw [decide_eq_true (by omega)]
          refine iteT ⟨_, rfl, rfl, _, rfl, ?_⟩
          refine ite2 (fun _ => ?_) (fun _ => ?_)
          · have eL : V.int (((o.map vN).length : Nat) : Int) = vN o.length := by rw [List.length_map]
            obtain ⟨ds9, hd9⟩ := W9.hd
            refine ⟨_, rfl, _, rfl, ot, _, rfl, .inr (seqT W9.ho), d, ds9, o.length, ?_, hd9, h1, fun H10 j ds10 b10 hd10 hj => ?_⟩
            · show [V.ref d, V.int (((o.map vN).length : Nat) : Int)] = _
              rw [eL]
            · have W10 := W9.but b10 hd10
              refine ⟨_, rfl, _, rfl, _, rfl, sl_any W10.ho (cut_front o j) fun p1 H11 s11 hp1 => ?_⟩
              have W11 := W10.same s11
              have hd11 := s11 _ _ hd10
              refine ⟨_, rfl, _, rfl, L, _, rfl, .inl (.inl (.inl W11.hL)), d, ds10, ls.length, ?_, hd11, by omega, fun H12 z ds12 b12 hd12 hz => ?_⟩
              · show [V.ref d, V.int (((rs.map V.ref).length : Nat) : Int)] = _
                rw [eM]
              · have W12 := W11.but b12 hd12
                have hp12 := b12 _ _ (ne_of hp1 hd11 (by intro z; cases z)) hp1
                refine ⟨by show 1 ≤ sizeLine; decide, fun p2 hp2 => ?_⟩
                have s13 := same_upd (o := .tup [vN z]) hp2
                have hp2' : upd H12 p2 (.tup [vN z]) p2 = some (.tup ([z].map vN)) := upd_same
                have lt1 : (o.take j).length ≤ o.length := List.length_take_le' _ _
                have lt2 : (o.drop (j + 1)).length ≤ o.length := by rw [List.length_drop]; omega
                refine cat_any (s13 _ _ hp12) hp2' (by simp; omega) fun p3 H14 s14 hp3 => ?_
                have W14 := (W12.same s13).same s14
                refine ⟨_, rfl, _, rfl, _, _, rfl, rfl, _, rfl, np (sl_any W14.ho (cut_back o (j + 1) (by omega)) fun p4 H15 s15 hp4 => ?_)⟩
                have W15 := W14.same s15
                refine cat_any (s15 _ _ hp3) hp4 (by simp; omega) fun p5 H16 s16 hp5 => ?_
                refine ⟨p5, _, _, rfl, (W15.same s16).other hp5, fun c hc => ?_, ?_⟩
                · rcases List.mem_append.mp hc with hc | hc
                  · rcases List.mem_append.mp hc with hc | hc
                    · exact hom c (List.mem_of_mem_take hc)
                    · rw [List.mem_singleton.mp hc]
                      exact hz
                  · exact hom c (List.mem_of_mem_drop hc)
                · rw [List.length_append, List.length_append, List.length_take, List.length_drop]
                  show min j o.length + 1 + (o.length - (j + 1)) ≤ 30
                  omega
          · exact ⟨ot, o, v8, rfl, W9, hom, by omega⟩
        · rw [decide_eq_false (by omega)]
          exact ⟨ot, o, v8, rfl, W9, hom, by omega⟩
      · clear hol hom W9
        rintro σ H10 ⟨ot, o, v8, rfl, W10, hom, hol⟩
        have fw := ok.full hwm
        have fo := ok.full hom
        -- what is asked
        have k4 := ok.k4
        refine ⟨_, rfl, _, rfl, _, rfl, _, rfl, L, wd, ot, k, rs, ls, w, o, rfl, W10.hL, W10.hR, k4, W10.hw, hwm, by omega, W10.ho, hom, by omega, fun H11 s11 => ?_⟩
        have W11 := W10.same s11
        have simI := same_iff (pl := pls ls) (k := k) (ok.bd hwm) (ok.bd hom)
        generalize hE : same (pls ls) k w o = EE at *
        refine ⟨_, rfl, _, rfl, _, rfl, x, wd, ot, k, ls, w, o, rfl, W11.al, k4, W11.hw, hwm, by omega, W11.ho, hom, by omega, fun H12 s12 => ?_⟩
        have W12 := W11.same s12
        refine ⟨_, rfl, rfl, _, rfl, ne_false (by rw [hE]) ?_⟩
        -- the layers
        refine ⟨_, rfl, _, rfl, x, wd, k, ls, w, rfl, W12.al, ok, W12.hw, hwm, by omega, fun H13 l1 t1 s13 hl1 hR1 => ?_⟩
        have W13 := W12.same s13
        refine ⟨_, rfl, _, rfl, x, ot, k, ls, o, rfl, W13.al, ok, W13.ho, hom, by omega, fun H14 l2 t2 s14 hl2 hR2 => ?_⟩
        have W14 := W13.same s14
        have lI := layers_iff (pl := pls ls) (m := ls.length) fw hwm fo hom
        refine ⟨_, _, dp_lays (.inl (.inl (s14 _ _ hl1))) (hR1.same s14), dp_lays (.inl (.inl hl2)) hR2, shaped_lays _, shaped_lays _, _, rfl, rfl, _, rfl, ne_false ?_ ?_⟩
        · rw [eqv_lays]
          congr 1
          rw [Bool.eq_iff_iff, decide_eq_true_iff, lI, simI]
        -- the least forms
        refine ⟨_, rfl, _, rfl, x, wd, k, ls, w, rfl, W14.al, ok, W14.hw, hwm, by omega, fun H15 q1 o1 s15 hq1 lf1 => ?_⟩
        have W15 := W14.same s15
        refine ⟨_, rfl, _, rfl, _, rfl, x, ot, k, ls, o, rfl, W15.al, ok, W15.ho, hom, by omega, fun H16 q2 o2 s16 hq2 lf2 => ?_⟩
        have W16 := W15.same s16
        have hq16 := s16 _ _ hq1
        have o1m : ∀ c ∈ o1, c < ls.length := fun c hc => hwm c (lf1.mem c hc)
        have fI := lf_iff (pl := pls ls) fw fo lf1 lf2
        refine ⟨_, _, dp_tup (seqT hq16), dp_tup (seqT hq2), shaped_tup _, shaped_tup _, _, rfl, rfl, _, rfl, ne_false ?_ ?_⟩
        · rw [eqv_tup]
          congr 1
          rw [Bool.eq_iff_iff, decide_eq_true_iff, fI, simI]
        refine ⟨_, rfl, _, rfl, x, q1, k, ls, o1, rfl, W16.al, m6, hq16, o1m, lf_least fw lf1, fun H17 s17 => ⟨_, rfl, iteF ?_⟩⟩
        have W17 := W16.same s17
        have hq17 := s17 _ _ hq16
        -- the least form's layers and place words
        refine ⟨_, rfl, _, rfl, x, q1, k, ls, o1, rfl, W17.al, ok, hq17, o1m, by rw [lf1.length]; omega, fun H18 l3 t3 s18 hl3 hR3 => ?_⟩
        have W18 := W17.same s18
        refine ⟨_, rfl, _, rfl, x, wd, k, ls, w, rfl, W18.al, ok, W18.hw, hwm, by omega, fun H19 l4 t4 s19 hl4 hR4 => ?_⟩
        have W19 := W18.same s19
        have hq19 := s19 _ _ (s18 _ _ hq17)
        have eqL : layersM (pls ls) ls.length o1 = layersM (pls ls) ls.length w := (layers_iff (ok.full o1m) o1m fw hwm).mpr lf1.sim.symm
        refine ⟨_, _, dp_lays (.inl (.inl (s19 _ _ hl3))) (hR3.same s19), dp_lays (.inl (.inl hl4)) hR4, shaped_lays _, shaped_lays _, _, rfl, ?_⟩
        show if (!PyData.eqv (laysD (layersM (pls ls) ls.length o1)) (laysD (layersM (pls ls) ls.length w))) = true then _ else _
        rw [eqv_lays]
        refine ne_false eqL ?_
        refine ⟨_, rfl, _, rfl, _, rfl, _, rfl, L, q1, wd, k, rs, ls, o1, w, rfl, W19.hL, W19.hR, k4, hq19, o1m, by rw [lf1.length]; omega, W19.hw, hwm, by omega, fun H20 s20 => ⟨_, rfl, ?_⟩⟩
        have W20 := W19.same s20
        have sm : same (pls ls) k o1 w = true := (same_iff (ok.bd o1m) (ok.bd hwm)).mpr lf1.sim.symm
        rw [sm]
        refine iteF ?_
        -- the swaps
        refine ⟨_, rfl, _, rfl, _, rfl, x, wd, ot, k, ls, w, o, rfl, W20.al, ok, W20.hw, hwm, by omega, W20.ho, hom, by omega, fun e H21 s21 => ?_, fun e H21 g ps s21 hg hrun => ?_⟩
        · have ee : EE = false := hE.symm.trans e
          subst ee
          refine ⟨_, rfl, rfl, _, rfl, rfl, _, rfl, iteF ?_⟩
          exact ⟨_, rfl, rfl, true, rfl, iteT (q _)⟩
        · have ee : EE = true := hE.symm.trans e
          subst ee
          have W21 := W20.same s21
          refine ⟨_, rfl, rfl, _, rfl, rfl, _, rfl, iteF ?_⟩
          refine ⟨_, rfl, rfl, false, rfl, iteF ?_⟩
          refine ⟨_, rfl, _, rfl, _, rfl, x, wd, g, k, ls, w, o, ps, rfl, W21.al, W21.hw, hwm, hg, by omega, hrun, fun H22 q3 s22 hq3 => ?_⟩
          have W22 := W21.same s22
          refine ⟨_, rfl, tupD o, tupD o, dp_tup (seqT hq3), dp_tup (seqT W22.ho), shaped_tup _, shaped_tup _, ?_⟩
          show Q (V.bl (PyData.eqv (tupD o) (tupD o))) H22
          rw [eqv_tup, decide_eq_true rfl]
          exact q _
end
end Plw

set_option maxHeartbeats 8000000
namespace Plw
open PySem L2 Trc
/-! ### What the top has written, the head -/
theorem all_mk {l : PySem.W.OpenLaw} {w : World} {K : PySem.W.Frag} {h : Heap} {mg : Str → Option Value} {fa C : Addr} (X : K.In h) (G : h.Ns mainGlobals mg) (hfa : mg "law" = some (.ref fa))
    {fFits : Addr} {odFits anFits : Option Addr} {slFits : Array (Option Value)} {ocFits kVFits dcFits pmFits cdFits ctFits : Value}
    {fInit : Addr} {odInit anInit : Option Addr} {slInit : Array (Option Value)} {ocInit kVInit dcInit pmInit cdInit ctInit : Value}
    {fIndep : Addr} {odIndep anIndep : Option Addr} {slIndep : Array (Option Value)} {ocIndep kVIndep dcIndep pmIndep cdIndep ctIndep : Value}
    {fMasks : Addr} {odMasks anMasks : Option Addr} {slMasks : Array (Option Value)} {ocMasks kVMasks dcMasks pmMasks cdMasks ctMasks : Value}
    {fLayers : Addr} {odLayers anLayers : Option Addr} {slLayers : Array (Option Value)} {ocLayers kVLayers dcLayers pmLayers cdLayers ctLayers : Value}
    {fFirst : Addr} {odFirst anFirst : Option Addr} {slFirst : Array (Option Value)} {ocFirst kVFirst dcFirst pmFirst cdFirst ctFirst : Value}
    {fLeast : Addr} {odLeast anLeast : Option Addr} {slLeast : Array (Option Value)} {ocLeast kVLeast dcLeast pmLeast cdLeast ctLeast : Value}
    {fNext : Addr} {odNext anNext : Option Addr} {slNext : Array (Option Value)} {ocNext kVNext dcNext pmNext cdNext ctNext : Value}
    {fIsL : Addr} {odIsL anIsL : Option Addr} {slIsL : Array (Option Value)} {ocIsL kVIsL dcIsL pmIsL cdIsL ctIsL : Value}
    {fPlaceW : Addr} {odPlaceW anPlaceW : Option Addr} {slPlaceW : Array (Option Value)} {ocPlaceW kVPlaceW dcPlaceW pmPlaceW cdPlaceW ctPlaceW : Value}
    {fEquiv : Addr} {odEquiv anEquiv : Option Addr} {slEquiv : Array (Option Value)} {ocEquiv kVEquiv dcEquiv pmEquiv cdEquiv ctEquiv : Value}
    {fSwaps : Addr} {odSwaps anSwaps : Option Addr} {slSwaps : Array (Option Value)} {ocSwaps kVSwaps dcSwaps pmSwaps cdSwaps ctSwaps : Value}
    {fSwapped : Addr} {odSwapped anSwapped : Option Addr} {slSwapped : Array (Option Value)} {ocSwapped kVSwapped dcSwapped pmSwapped cdSwapped ctSwapped : Value}
    {fDraws : Addr} {odDraws anDraws : Option Addr} {slDraws : Array (Option Value)} {ocDraws kVDraws dcDraws pmDraws cdDraws ctDraws : Value}
    {fTake : Addr} {odTake anTake : Option Addr} {slTake : Array (Option Value)} {ocTake kVTake dcTake pmTake cdTake ctTake : Value}
    {fAlph : Addr} {odAlph anAlph : Option Addr} {slAlph : Array (Option Value)} {ocAlph kVAlph dcAlph pmAlph cdAlph ctAlph : Value}
    {fFree : Addr} {odFree anFree : Option Addr} {slFree : Array (Option Value)} {ocFree kVFree dcFree pmFree cdFree ctFree : Value}
    {fWord : Addr} {odWord anWord : Option Addr} {slWord : Array (Option Value)} {ocWord kVWord dcWord pmWord cdWord ctWord : Value}
    {fPlace : Addr} {odPlace anPlace : Option Addr} {slPlace : Array (Option Value)} {ocPlace kVPlace dcPlace pmPlace cdPlace ctPlace : Value}
    {fAlike : Addr} {odAlike anAlike : Option Addr} {slAlike : Array (Option Value)} {ocAlike kVAlike dcAlike pmAlike cdAlike ctAlike : Value}
    {fShuf : Addr} {odShuf anShuf : Option Addr} {slShuf : Array (Option Value)} {ocShuf kVShuf dcShuf pmShuf cdShuf ctShuf : Value}
    {fLaw : Addr} {odLaw anLaw : Option Addr} {slLaw : Array (Option Value)} {ocLaw kVLaw dcLaw pmLaw cdLaw ctLaw : Value}
    (aFits : PySem.W.nsIn K mainGlobals "fits" = some (some (.ref fFits)))
    (lFits : K.lookup fFits = some ⟨ocFits, odFits, .func (PySem.W.fnOf "fits" "fits" (defArgs sFits) (defBody sFits) (defScope sFits) .none kVFits dcFits pmFits anFits cdFits ctFits), slFits⟩)
    (cFits : PySem.W.codeIn K cdFits "fits" = true) (kFits : PySem.W.keepIn K (.ref fFits) = true)
    (aInit : PySem.W.findIn K (.ref C) "__init__" = some (some (.ref fInit))) (iInit : PySem.W.isFn K (.ref fInit) = true)
    (lInit : K.lookup fInit = some ⟨ocInit, odInit, .func (PySem.W.fnOf "__init__" "Alphabet.__init__" (defArgs sInit) (defBody sInit) (defScope sInit) .none kVInit dcInit pmInit anInit cdInit ctInit), slInit⟩)
    (cInit : PySem.W.codeIn K cdInit "Alphabet.__init__" = true) (kInit : PySem.W.keepIn K (.ref fInit) = true)
    (aIndep : PySem.W.nsIn K mainGlobals "independent" = some (some (.ref fIndep)))
    (lIndep : K.lookup fIndep = some ⟨ocIndep, odIndep, .func (PySem.W.fnOf "independent" "independent" (defArgs sIndep) (defBody sIndep) (defScope sIndep) .none kVIndep dcIndep pmIndep anIndep cdIndep ctIndep), slIndep⟩)
    (cIndep : PySem.W.codeIn K cdIndep "independent" = true) (kIndep : PySem.W.keepIn K (.ref fIndep) = true)
    (aMasks : PySem.W.nsIn K mainGlobals "masks" = some (some (.ref fMasks)))
    (lMasks : K.lookup fMasks = some ⟨ocMasks, odMasks, .func (PySem.W.fnOf "masks" "masks" (defArgs sMasks) (defBody sMasks) (defScope sMasks) .none kVMasks dcMasks pmMasks anMasks cdMasks ctMasks), slMasks⟩)
    (cMasks : PySem.W.codeIn K cdMasks "masks" = true) (kMasks : PySem.W.keepIn K (.ref fMasks) = true)
    (aLayers : PySem.W.nsIn K mainGlobals "layers" = some (some (.ref fLayers)))
    (lLayers : K.lookup fLayers = some ⟨ocLayers, odLayers, .func (PySem.W.fnOf "layers" "layers" (defArgs sLayers) (defBody sLayers) (defScope sLayers) .none kVLayers dcLayers pmLayers anLayers cdLayers ctLayers), slLayers⟩)
    (cLayers : PySem.W.codeIn K cdLayers "layers" = true) (kLayers : PySem.W.keepIn K (.ref fLayers) = true)
    (aFirst : PySem.W.nsIn K mainGlobals "first_letters" = some (some (.ref fFirst)))
    (lFirst : K.lookup fFirst = some ⟨ocFirst, odFirst, .func (PySem.W.fnOf "first_letters" "first_letters" (defArgs sFirst) (defBody sFirst) (defScope sFirst) .none kVFirst dcFirst pmFirst anFirst cdFirst ctFirst), slFirst⟩)
    (cFirst : PySem.W.codeIn K cdFirst "first_letters" = true) (kFirst : PySem.W.keepIn K (.ref fFirst) = true)
    (aLeast : PySem.W.nsIn K mainGlobals "least_form" = some (some (.ref fLeast)))
    (lLeast : K.lookup fLeast = some ⟨ocLeast, odLeast, .func (PySem.W.fnOf "least_form" "least_form" (defArgs sLeast) (defBody sLeast) (defScope sLeast) .none kVLeast dcLeast pmLeast anLeast cdLeast ctLeast), slLeast⟩)
    (cLeast : PySem.W.codeIn K cdLeast "least_form" = true) (kLeast : PySem.W.keepIn K (.ref fLeast) = true)
    (aNext : PySem.W.nsIn K mainGlobals "next_barred" = some (some (.ref fNext)))
    (lNext : K.lookup fNext = some ⟨ocNext, odNext, .func (PySem.W.fnOf "next_barred" "next_barred" (defArgs sNext) (defBody sNext) (defScope sNext) .none kVNext dcNext pmNext anNext cdNext ctNext), slNext⟩)
    (cNext : PySem.W.codeIn K cdNext "next_barred" = true) (kNext : PySem.W.keepIn K (.ref fNext) = true)
    (aIsL : PySem.W.nsIn K mainGlobals "is_least" = some (some (.ref fIsL)))
    (lIsL : K.lookup fIsL = some ⟨ocIsL, odIsL, .func (PySem.W.fnOf "is_least" "is_least" (defArgs sIsL) (defBody sIsL) (defScope sIsL) .none kVIsL dcIsL pmIsL anIsL cdIsL ctIsL), slIsL⟩)
    (cIsL : PySem.W.codeIn K cdIsL "is_least" = true) (kIsL : PySem.W.keepIn K (.ref fIsL) = true)
    (aPlaceW : PySem.W.nsIn K mainGlobals "place_word" = some (some (.ref fPlaceW)))
    (lPlaceW : K.lookup fPlaceW = some ⟨ocPlaceW, odPlaceW, .func (PySem.W.fnOf "place_word" "place_word" (defArgs sPlaceW) (defBody sPlaceW) (defScope sPlaceW) .none kVPlaceW dcPlaceW pmPlaceW anPlaceW cdPlaceW ctPlaceW), slPlaceW⟩)
    (cPlaceW : PySem.W.codeIn K cdPlaceW "place_word" = true) (kPlaceW : PySem.W.keepIn K (.ref fPlaceW) = true)
    (aEquiv : PySem.W.nsIn K mainGlobals "equivalent" = some (some (.ref fEquiv)))
    (lEquiv : K.lookup fEquiv = some ⟨ocEquiv, odEquiv, .func (PySem.W.fnOf "equivalent" "equivalent" (defArgs sEquiv) (defBody sEquiv) (defScope sEquiv) .none kVEquiv dcEquiv pmEquiv anEquiv cdEquiv ctEquiv), slEquiv⟩)
    (cEquiv : PySem.W.codeIn K cdEquiv "equivalent" = true) (kEquiv : PySem.W.keepIn K (.ref fEquiv) = true)
    (aSwaps : PySem.W.nsIn K mainGlobals "swaps" = some (some (.ref fSwaps)))
    (lSwaps : K.lookup fSwaps = some ⟨ocSwaps, odSwaps, .func (PySem.W.fnOf "swaps" "swaps" (defArgs sSwaps) (defBody sSwaps) (defScope sSwaps) .none kVSwaps dcSwaps pmSwaps anSwaps cdSwaps ctSwaps), slSwaps⟩)
    (cSwaps : PySem.W.codeIn K cdSwaps "swaps" = true) (kSwaps : PySem.W.keepIn K (.ref fSwaps) = true)
    (aSwapped : PySem.W.nsIn K mainGlobals "swapped" = some (some (.ref fSwapped)))
    (lSwapped : K.lookup fSwapped = some ⟨ocSwapped, odSwapped, .func (PySem.W.fnOf "swapped" "swapped" (defArgs sSwapped) (defBody sSwapped) (defScope sSwapped) .none kVSwapped dcSwapped pmSwapped anSwapped cdSwapped ctSwapped), slSwapped⟩)
    (cSwapped : PySem.W.codeIn K cdSwapped "swapped" = true) (kSwapped : PySem.W.keepIn K (.ref fSwapped) = true)
    (aDraws : PySem.W.nsIn K mainGlobals "_law_draws" = some (some (.ref fDraws)))
    (lDraws : K.lookup fDraws = some ⟨ocDraws, odDraws, .func (PySem.W.fnOf "_law_draws" "_law_draws" (defArgs sDraws) (defBody sDraws) (defScope sDraws) .none kVDraws dcDraws pmDraws anDraws cdDraws ctDraws), slDraws⟩)
    (cDraws : PySem.W.codeIn K cdDraws "_law_draws" = true) (kDraws : PySem.W.keepIn K (.ref fDraws) = true)
    (aTake : PySem.W.nsIn K mainGlobals "_law_take" = some (some (.ref fTake)))
    (lTake : K.lookup fTake = some ⟨ocTake, odTake, .func (PySem.W.fnOf "_law_take" "_law_take" (defArgs sTake) (defBody sTake) (defScope sTake) .none kVTake dcTake pmTake anTake cdTake ctTake), slTake⟩)
    (cTake : PySem.W.codeIn K cdTake "_law_take" = true) (kTake : PySem.W.keepIn K (.ref fTake) = true)
    (aAlph : PySem.W.nsIn K mainGlobals "_law_alphabet" = some (some (.ref fAlph)))
    (lAlph : K.lookup fAlph = some ⟨ocAlph, odAlph, .func (PySem.W.fnOf "_law_alphabet" "_law_alphabet" (defArgs sAlph) (defBody sAlph) (defScope sAlph) .none kVAlph dcAlph pmAlph anAlph cdAlph ctAlph), slAlph⟩)
    (cAlph : PySem.W.codeIn K cdAlph "_law_alphabet" = true) (kAlph : PySem.W.keepIn K (.ref fAlph) = true)
    (aFree : PySem.W.nsIn K mainGlobals "_law_free" = some (some (.ref fFree)))
    (lFree : K.lookup fFree = some ⟨ocFree, odFree, .func (PySem.W.fnOf "_law_free" "_law_free" (defArgs sFree) (defBody sFree) (defScope sFree) .none kVFree dcFree pmFree anFree cdFree ctFree), slFree⟩)
    (cFree : PySem.W.codeIn K cdFree "_law_free" = true) (kFree : PySem.W.keepIn K (.ref fFree) = true)
    (aWord : PySem.W.nsIn K mainGlobals "_law_word" = some (some (.ref fWord)))
    (lWord : K.lookup fWord = some ⟨ocWord, odWord, .func (PySem.W.fnOf "_law_word" "_law_word" (defArgs sWord) (defBody sWord) (defScope sWord) .none kVWord dcWord pmWord anWord cdWord ctWord), slWord⟩)
    (cWord : PySem.W.codeIn K cdWord "_law_word" = true) (kWord : PySem.W.keepIn K (.ref fWord) = true)
    (aPlace : PySem.W.nsIn K mainGlobals "_law_place" = some (some (.ref fPlace)))
    (lPlace : K.lookup fPlace = some ⟨ocPlace, odPlace, .func (PySem.W.fnOf "_law_place" "_law_place" (defArgs sPlace) (defBody sPlace) (defScope sPlace) .none kVPlace dcPlace pmPlace anPlace cdPlace ctPlace), slPlace⟩)
    (cPlace : PySem.W.codeIn K cdPlace "_law_place" = true) (kPlace : PySem.W.keepIn K (.ref fPlace) = true)
    (aAlike : PySem.W.nsIn K mainGlobals "_law_alike" = some (some (.ref fAlike)))
    (lAlike : K.lookup fAlike = some ⟨ocAlike, odAlike, .func (PySem.W.fnOf "_law_alike" "_law_alike" (defArgs sAlike) (defBody sAlike) (defScope sAlike) .none kVAlike dcAlike pmAlike anAlike cdAlike ctAlike), slAlike⟩)
    (cAlike : PySem.W.codeIn K cdAlike "_law_alike" = true) (kAlike : PySem.W.keepIn K (.ref fAlike) = true)
    (aShuf : PySem.W.nsIn K mainGlobals "_law_shuffled" = some (some (.ref fShuf)))
    (lShuf : K.lookup fShuf = some ⟨ocShuf, odShuf, .func (PySem.W.fnOf "_law_shuffled" "_law_shuffled" (defArgs sShuf) (defBody sShuf) (defScope sShuf) .none kVShuf dcShuf pmShuf anShuf cdShuf ctShuf), slShuf⟩)
    (cShuf : PySem.W.codeIn K cdShuf "_law_shuffled" = true) (kShuf : PySem.W.keepIn K (.ref fShuf) = true)
    (aLaw : PySem.W.nsIn K mainGlobals "law" = some (some (.ref fLaw)))
    (lLaw : K.lookup fLaw = some ⟨ocLaw, odLaw, .func (PySem.W.fnOf "law" "law" (defArgs sLaw) (defBody sLaw) (defScope sLaw) .none kVLaw dcLaw pmLaw anLaw cdLaw ctLaw), slLaw⟩)
    (cLaw : PySem.W.codeIn K cdLaw "law" = true) (kLaw : PySem.W.keepIn K (.ref fLaw) = true)
    {tP tL : Tok} (aC : PySem.W.nsIn K mainGlobals "Alphabet" = some (some (.ref C))) (aP : PySem.W.nsIn K mainGlobals "MOST_PLACES" = some (some (.int 4 tP))) (aL : PySem.W.nsIn K mainGlobals "MOST_LETTERS" = some (some (.int 6 tL)))
    (pg : PySem.W.plainGet K C Str.empty = true) (hd : PySem.W.hasDictIn K C = true) (po : PySem.W.plainOver K C = true) (sa : PySem.W.findIn K (.ref C) "__setattr__" = some (some (.builtin "object.__setattr__"))) (mk : PySem.W.makesIn K C = true) (kc : PySem.W.keepIn K (.ref C) = true)
    (nP : PySem.W.findIn K (.ref C) "places" = some none) (nL : PySem.W.findIn K (.ref C) "letters" = some none)
    (zlen : PySem.W.nsIn K mainGlobals "len" = some none) (zrange : PySem.W.nsIn K mainGlobals "range" = some none) (ztuple : PySem.W.nsIn K mainGlobals "tuple" = some none) (zlist : PySem.W.nsIn K mainGlobals "list" = some none) (zint : PySem.W.nsIn K mainGlobals "int" = some none) (zsorted : PySem.W.nsIn K mainGlobals "sorted" = some none) (zset : PySem.W.nsIn K mainGlobals "set" = some none) (zmax : PySem.W.nsIn K mainGlobals "max" = some none) :
    ∃ fd : FuncData, (∀ (s : Shared) (v : Value), BindsTo s fd ⟨[v], []⟩ [("_law_script", v)]) ∧ ∀ base : Heap, K.In base → base.Ns mainGlobals mg → FnOk l.prog w K mg base CX0 5 fa fd ["_law_script"] (spLaw K) := by
  have e := hfa.symm.trans (PySem.W.mg_of X G aLaw)
  cases e
  have T : Txt K mg C := ⟨⟨pg, hd, po, sa⟩, nP, nL, PySem.W.mg_of X G aC, PySem.W.mg_none_of X G zlen, PySem.W.mg_none_of X G zrange, PySem.W.mg_none_of X G ztuple, PySem.W.mg_none_of X G zlist, PySem.W.mg_none_of X G zint, PySem.W.mg_none_of X G zsorted, PySem.W.mg_none_of X G zset, PySem.W.mg_none_of X G zmax, ⟨tP, PySem.W.mg_of X G aP⟩, ⟨tL, PySem.W.mg_of X G aL⟩⟩
  have FFits := fun_mk (st := sFits) lFits cFits kFits
  have bFits := FFits.binds (ps := ["letter", "places"]) fun _ _ _ _ _ _ us hl => match us, hl with | [_, _], _ => rfl
  have mFits := PySem.W.mg_of X G aFits
  have FInit := fun_mk (st := sInit) lInit cInit kInit
  have bInit := FInit.binds (ps := ["self", "places", "letters"]) fun _ _ _ _ _ _ us hl => match us, hl with | [_, _, _], _ => rfl
  have FIndep := fun_mk (st := sIndep) lIndep cIndep kIndep
  have bIndep := FIndep.binds (ps := ["alphabet", "first", "second"]) fun _ _ _ _ _ _ us hl => match us, hl with | [_, _, _], _ => rfl
  have mIndep := PySem.W.mg_of X G aIndep
  have FMasks := fun_mk (st := sMasks) lMasks cMasks kMasks
  have bMasks := FMasks.binds (ps := ["alphabet"]) fun _ _ _ _ _ _ us hl => match us, hl with | [_], _ => rfl
  have mMasks := PySem.W.mg_of X G aMasks
  have FLayers := fun_mk (st := sLayers) lLayers cLayers kLayers
  have bLayers := FLayers.binds (ps := ["alphabet", "word"]) fun _ _ _ _ _ _ us hl => match us, hl with | [_, _], _ => rfl
  have mLayers := PySem.W.mg_of X G aLayers
  have FFirst := fun_mk (st := sFirst) lFirst cFirst kFirst
  have bFirst := FFirst.binds (ps := ["alphabet", "word"]) fun _ _ _ _ _ _ us hl => match us, hl with | [_, _], _ => rfl
  have mFirst := PySem.W.mg_of X G aFirst
  have FLeast := fun_mk (st := sLeast) lLeast cLeast kLeast
  have bLeast := FLeast.binds (ps := ["alphabet", "word"]) fun _ _ _ _ _ _ us hl => match us, hl with | [_, _], _ => rfl
  have mLeast := PySem.W.mg_of X G aLeast
  have FNext := fun_mk (st := sNext) lNext cNext kNext
  have bNext := FNext.binds (ps := ["dependent", "barred", "letter"]) fun _ _ _ _ _ _ us hl => match us, hl with | [_, _, _], _ => rfl
  have mNext := PySem.W.mg_of X G aNext
  have FIsL := fun_mk (st := sIsL) lIsL cIsL kIsL
  have bIsL := FIsL.binds (ps := ["alphabet", "word"]) fun _ _ _ _ _ _ us hl => match us, hl with | [_, _], _ => rfl
  have mIsL := PySem.W.mg_of X G aIsL
  have FPlaceW := fun_mk (st := sPlaceW) lPlaceW cPlaceW kPlaceW
  have bPlaceW := FPlaceW.binds (ps := ["alphabet", "word", "place"]) fun _ _ _ _ _ _ us hl => match us, hl with | [_, _, _], _ => rfl
  have mPlaceW := PySem.W.mg_of X G aPlaceW
  have FEquiv := fun_mk (st := sEquiv) lEquiv cEquiv kEquiv
  have bEquiv := FEquiv.binds (ps := ["alphabet", "first", "second"]) fun _ _ _ _ _ _ us hl => match us, hl with | [_, _, _], _ => rfl
  have mEquiv := PySem.W.mg_of X G aEquiv
  have FSwaps := fun_mk (st := sSwaps) lSwaps cSwaps kSwaps
  have bSwaps := FSwaps.binds (ps := ["alphabet", "first", "second"]) fun _ _ _ _ _ _ us hl => match us, hl with | [_, _, _], _ => rfl
  have mSwaps := PySem.W.mg_of X G aSwaps
  have FSwapped := fun_mk (st := sSwapped) lSwapped cSwapped kSwapped
  have bSwapped := FSwapped.binds (ps := ["alphabet", "word", "positions"]) fun _ _ _ _ _ _ us hl => match us, hl with | [_, _, _], _ => rfl
  have mSwapped := PySem.W.mg_of X G aSwapped
  have FDraws := fun_mk (st := sDraws) lDraws cDraws kDraws
  have bDraws := FDraws.binds (ps := ["_law_script", "_law_count"]) fun _ _ _ _ _ _ us hl => match us, hl with | [_, _], _ => rfl
  have mDraws := PySem.W.mg_of X G aDraws
  have FTake := fun_mk (st := sTake) lTake cTake kTake
  have bTake := FTake.binds (ps := ["_law_draws_here", "_law_limit"]) fun _ _ _ _ _ _ us hl => match us, hl with | [_, _], _ => rfl
  have mTake := PySem.W.mg_of X G aTake
  have FAlph := fun_mk (st := sAlph) lAlph cAlph kAlph
  have bAlph := FAlph.binds (ps := ["_law_draws_here", "_law_places", "_law_most"]) fun _ _ _ _ _ _ us hl => match us, hl with | [_, _, _], _ => rfl
  have mAlph := PySem.W.mg_of X G aAlph
  have FFree := fun_mk (st := sFree) lFree cFree kFree
  have bFree := FFree.binds (ps := ["_law_letters", "_law_first", "_law_second"]) fun _ _ _ _ _ _ us hl => match us, hl with | [_, _, _], _ => rfl
  have mFree := PySem.W.mg_of X G aFree
  have FWord := fun_mk (st := sWord) lWord cWord kWord
  have bWord := FWord.binds (ps := ["_law_draws_here", "_law_letters", "_law_most"]) fun _ _ _ _ _ _ us hl => match us, hl with | [_, _, _], _ => rfl
  have mWord := PySem.W.mg_of X G aWord
  have FPlace := fun_mk (st := sPlace) lPlace cPlace kPlace
  have bPlace := FPlace.binds (ps := ["_law_letters", "_law_word_here", "_law_place_here"]) fun _ _ _ _ _ _ us hl => match us, hl with | [_, _, _], _ => rfl
  have mPlace := PySem.W.mg_of X G aPlace
  have FAlike := fun_mk (st := sAlike) lAlike cAlike kAlike
  have bAlike := FAlike.binds (ps := ["_law_count", "_law_letters", "_law_first", "_law_second"]) fun _ _ _ _ _ _ us hl => match us, hl with | [_, _, _, _], _ => rfl
  have mAlike := PySem.W.mg_of X G aAlike
  have FShuf := fun_mk (st := sShuf) lShuf cShuf kShuf
  have bShuf := FShuf.binds (ps := ["_law_draws_here", "_law_letters", "_law_word_here", "_law_times"]) fun _ _ _ _ _ _ us hl => match us, hl with | [_, _, _, _], _ => rfl
  have mShuf := PySem.W.mg_of X G aShuf
  have FLaw := fun_mk (st := sLaw) lLaw cLaw kLaw
  have mLaw := PySem.W.mg_of X G aLaw
  refine ⟨PySem.W.fnOf "law" "law" (defArgs sLaw) (defBody sLaw) (defScope sLaw) .none kVLaw dcLaw pmLaw anLaw cdLaw ctLaw, fun s v => .of_eq rfl, fun base _ _ => ?_⟩
  have GM : FnOk l.prog w K mg base CX0 2 fMasks _ ["alphabet"] (spMasks C) := ok_masks FMasks T FIndep bIndep mIndep
  have GF : FnOk l.prog w K mg base CX0 3 fFirst _ ["alphabet", "word"] (spFirst C) := ok_first FFirst T GM FMasks.kp bMasks mMasks
  have GE : FnOk l.prog w K mg base CX0 2 fEquiv _ ["alphabet", "first", "second"] (spEquiv C) := ok_equiv FEquiv T FPlaceW bPlaceW mPlaceW
  exact ok_law FLaw T ⟨mk, aInit, iInit, kc⟩ (ok_init FInit T FFits bFits mFits) bInit
    ⟨_, _, ok_draws FDraws T, FDraws.kp, bDraws, mDraws⟩
    ⟨_, _, ok_alph FAlph T FTake bTake mTake, FAlph.kp, bAlph, mAlph⟩
    ⟨_, _, ok_word FWord T FTake bTake mTake, FWord.kp, bWord, mWord⟩
    ⟨_, _, ok_shuf FShuf T FTake bTake mTake FFree bFree mFree, FShuf.kp, bShuf, mShuf⟩
    ⟨_, _, ok_take FTake T, FTake.kp, bTake, mTake⟩
    ⟨_, _, ok_alike FAlike T FPlace bPlace mPlace, FAlike.kp, bAlike, mAlike⟩
    ⟨_, _, GE, FEquiv.kp, bEquiv, mEquiv⟩
    ⟨_, _, ok_layers FLayers T GM FMasks.kp bMasks mMasks, FLayers.kp, bLayers, mLayers⟩
    ⟨_, _, ok_least FLeast T GF FFirst.kp bFirst mFirst, FLeast.kp, bLeast, mLeast⟩
    ⟨_, _, ok_isL FIsL GM FMasks.kp bMasks mMasks FNext bNext mNext, FIsL.kp, bIsL, mIsL⟩
    ⟨_, _, ok_swaps FSwaps T GE FEquiv.kp bEquiv mEquiv, FSwaps.kp, bSwaps, mSwaps⟩
    ⟨_, _, ok_swapped FSwapped T FIndep bIndep mIndep, FSwapped.kp, bSwapped, mSwapped⟩
theorem walk {l : PySem.W.OpenLaw} {q : Program} {loose : List Str} {XP : (Str → Option Value) → Heap → Prop} {YP : World → Heap → Prop} {d : DefRec} {K : Params → PySem.W.Frag} (hn : l.most = some 63) (hdf : d.params.defaults = [])
    (hY : ∀ (w : World) (h : Heap), YP w h → (K w.params).In h)
    (F : ∀ (w : World) (mg : Str → Option Value) (fa : Addr) (h : Heap), (K w.params).In h → h.Ns mainGlobals mg → mg d.name = some (.ref fa) →
      ∃ fd : FuncData, (∀ (s : Shared) (u : Value), BindsTo s fd ⟨[u], []⟩ [("_law_script", u)]) ∧ ∀ base : Heap, (K w.params).In base → base.Ns mainGlobals mg → FnOk l.prog w (K w.params) mg base CX0 5 fa fd ["_law_script"] (spLaw (K w.params))) :
    PySem.W.WalkO q loose XP YP l.row.toRowW d [] (fun f vs => PySem.call f vs) :=
  L2.walk_of (n := 63) (k := 5) (x := "_law_script") (CX := fun _ => CX0) (sp := fun w => spLaw (K w.params)) hn (by decide) hdf ⟨rfl, by decide, by decide⟩ hY F (fun _ _ a ns hl _ hS => ⟨a, ns, rfl, hS, hl, fun _ => rfl⟩) fun _ _ _ _ _ z => z
end Plw

open PySem PySem.W PyProof.Rows in
set_option maxRecDepth 100000 in
set_option maxHeartbeats 0 in
theorem PySem.Challenge.cw_placewords_k06_whole_forms_tell_words_holds : PySem.Challenge.rw_placewords_k06_whole_forms_tell_words.Holds := by
  w_on; o_law; k_head; (case hw => w_witness2)
  k_fill
  refine Plw.walk (l := PySem.Challenge.rw_placewords_k06_whole_forms_tell_words) rfl rfl (fun w h Y => PySem.W.kIn_of Y) ?F
  case F =>
    intro w mg fa h KX G hmg
    refine' Plw.all_mk KX G hmg ?aFits ?lFits ?cFits ?kFits ?aInit ?iInit ?lInit ?cInit ?kInit ?aIndep ?lIndep ?cIndep ?kIndep ?aMasks ?lMasks ?cMasks ?kMasks ?aLayers ?lLayers ?cLayers ?kLayers ?aFirst ?lFirst ?cFirst ?kFirst ?aLeast ?lLeast ?cLeast ?kLeast ?aNext ?lNext ?cNext ?kNext ?aIsL ?lIsL ?cIsL ?kIsL ?aPlaceW ?lPlaceW ?cPlaceW ?kPlaceW ?aEquiv ?lEquiv ?cEquiv ?kEquiv ?aSwaps ?lSwaps ?cSwaps ?kSwaps ?aSwapped ?lSwapped ?cSwapped ?kSwapped ?aDraws ?lDraws ?cDraws ?kDraws ?aTake ?lTake ?cTake ?kTake ?aAlph ?lAlph ?cAlph ?kAlph ?aFree ?lFree ?cFree ?kFree ?aWord ?lWord ?cWord ?kWord ?aPlace ?lPlace ?cPlace ?kPlace ?aAlike ?lAlike ?cAlike ?kAlike ?aShuf ?lShuf ?cShuf ?kShuf ?aLaw ?lLaw ?cLaw ?kLaw ?aC ?aP ?aL ?pg ?hd ?po ?sa ?mk ?kc ?nP ?nL ?zlen ?zrange ?ztuple ?zlist ?zint ?zsorted ?zset ?zmax
    (case aC => k_is)
    (case aFits => k_is)
    (case lFits => k_is)
    (case cFits => k_is)
    (case kFits => k_is)
    (case aInit => k_is)
    (case iInit => k_is)
    (case lInit => k_is)
    (case cInit => k_is)
    (case kInit => k_is)
    (case aIndep => k_is)
    (case lIndep => k_is)
    (case cIndep => k_is)
    (case kIndep => k_is)
    (case aMasks => k_is)
    (case lMasks => k_is)
    (case cMasks => k_is)
    (case kMasks => k_is)
    (case aLayers => k_is)
    (case lLayers => k_is)
    (case cLayers => k_is)
    (case kLayers => k_is)
    (case aFirst => k_is)
    (case lFirst => k_is)
    (case cFirst => k_is)
    (case kFirst => k_is)
    (case aLeast => k_is)
    (case lLeast => k_is)
    (case cLeast => k_is)
    (case kLeast => k_is)
    (case aNext => k_is)
    (case lNext => k_is)
    (case cNext => k_is)
    (case kNext => k_is)
    (case aIsL => k_is)
    (case lIsL => k_is)
    (case cIsL => k_is)
    (case kIsL => k_is)
    (case aPlaceW => k_is)
    (case lPlaceW => k_is)
    (case cPlaceW => k_is)
    (case kPlaceW => k_is)
    (case aEquiv => k_is)
    (case lEquiv => k_is)
    (case cEquiv => k_is)
    (case kEquiv => k_is)
    (case aSwaps => k_is)
    (case lSwaps => k_is)
    (case cSwaps => k_is)
    (case kSwaps => k_is)
    (case aSwapped => k_is)
    (case lSwapped => k_is)
    (case cSwapped => k_is)
    (case kSwapped => k_is)
    (case aDraws => k_is)
    (case lDraws => k_is)
    (case cDraws => k_is)
    (case kDraws => k_is)
    (case aTake => k_is)
    (case lTake => k_is)
    (case cTake => k_is)
    (case kTake => k_is)
    (case aAlph => k_is)
    (case lAlph => k_is)
    (case cAlph => k_is)
    (case kAlph => k_is)
    (case aFree => k_is)
    (case lFree => k_is)
    (case cFree => k_is)
    (case kFree => k_is)
    (case aWord => k_is)
    (case lWord => k_is)
    (case cWord => k_is)
    (case kWord => k_is)
    (case aPlace => k_is)
    (case lPlace => k_is)
    (case cPlace => k_is)
    (case kPlace => k_is)
    (case aAlike => k_is)
    (case lAlike => k_is)
    (case cAlike => k_is)
    (case kAlike => k_is)
    (case aShuf => k_is)
    (case lShuf => k_is)
    (case cShuf => k_is)
    (case kShuf => k_is)
    (case aLaw => k_is)
    (case lLaw => k_is)
    (case cLaw => k_is)
    (case kLaw => k_is)
    (case aP => k_is)
    (case aL => k_is)
    (case pg => k_is)
    (case hd => k_is)
    (case po => k_is)
    (case sa => k_is)
    (case mk => k_is)
    (case kc => k_is)
    (case nP => k_is)
    (case nL => k_is)
    (case zlen => k_is)
    (case zrange => k_is)
    (case ztuple => k_is)
    (case zlist => k_is)
    (case zint => k_is)
    (case zsorted => k_is)
    (case zset => k_is)
    (case zmax => k_is)
