import PyProof.Rows.All
import Wide.All
import OpenK.AllK
import Wide.FinOn
import HandS.ForMost
import HandS.TupAny
import HandS.SortKw
import PyProof.MinMaxWalk
import PyProof.DictWalks
import PyProof.SumWalkG
import HandS.Sort
import PyProof.Draws
import PyProof.EnumMake
import KE.KDictZip
import KE.GoesMore
import KE.GoesEnum
import PyProof.ListStr
import PyProof.SliceStr2
import KE.KRevSl
import HandS.Style
import HandS.TupSets
import HandS.SetBool
import HandS.SortOrd
import HandS.Comp
import KE.KSortTupAny
import HandS.Replace
import HandS.IsInst
import HandS.Walk
import HandS.Flow
import HandS.DictComp
import PyProof.StrWalks
import HandS.Set
import HandS.SetFor
import HandS.SetTxtIn
import PyProof.Rows.SortShellAny
import PySem.Challenge.RW_mustoccur_k61_whole_counts_of_open_texts
set_option Elab.async false
set_option linter.all false
set_option maxRecDepth 100000
set_option maxHeartbeats 4000000
namespace K61

/-! ## sums over the numbers below k -/
def sm : Nat → (Nat → Nat) → Nat
  | 0, _ => 0
  | k + 1, f => sm k f + f k

theorem sm_le {k : Nat} {f g : Nat → Nat} (h : ∀ i, i < k → f i ≤ g i) : sm k f ≤ sm k g := by
  induction k with
  | zero => exact Nat.le_refl _
  | succ k ih =>
    have h1 := ih (fun i hi => h i (Nat.lt_succ_of_lt hi))
    have h2 := h k (Nat.lt_succ_self k)
    show sm k f + f k ≤ sm k g + g k
    omega

theorem sm_congr {k : Nat} {f g : Nat → Nat} (h : ∀ i, i < k → f i = g i) : sm k f = sm k g :=
  Nat.le_antisymm (sm_le fun i hi => Nat.le_of_eq (h i hi)) (sm_le fun i hi => Nat.le_of_eq (h i hi).symm)

theorem sm_wide {k m : Nat} {f : Nat → Nat} (h : k ≤ m) : sm k f ≤ sm m f := by
  induction m with
  | zero =>
    have e : k = 0 := by omega
    subst e
    exact Nat.le_refl _
  | succ m ih =>
    by_cases e : k = m + 1
    · subst e
      exact Nat.le_refl _
    · have := ih (by omega)
      show sm k f ≤ sm m f + f m
      omega

theorem sm_mul (k : Nat) (f : Nat → Nat) (c : Nat) : sm k (fun i => f i * c) = sm k f * c := by
  induction k with
  | zero => show 0 = 0 * c; omega
  | succ k ih =>
    show sm k (fun i => f i * c) + f k * c = (sm k f + f k) * c
    rw [ih, Nat.add_mul]

theorem sm_add (k : Nat) (f g : Nat → Nat) : sm k (fun i => f i + g i) = sm k f + sm k g := by
  induction k with
  | zero => rfl
  | succ k ih =>
    show sm k (fun i => f i + g i) + (f k + g k) = sm k f + f k + (sm k g + g k)
    rw [ih]
    omega

theorem sm_zero (k : Nat) : sm k (fun _ => 0) = 0 := by
  induction k with
  | zero => rfl
  | succ k ih => show sm k (fun _ => 0) + 0 = 0; rw [ih]

theorem sm_swap (k m : Nat) (f : Nat → Nat → Nat) : sm k (fun i => sm m (fun j => f i j)) = sm m (fun j => sm k (fun i => f i j)) := by
  induction k with
  | zero => exact (sm_zero m).symm
  | succ k ih =>
    show sm k (fun i => sm m (fun j => f i j)) + sm m (fun j => f k j) = sm m (fun j => sm k (fun i => f i j) + f k j)
    rw [ih, sm_add]

theorem sm_one (k : Nat) {f : Nat → Nat} (h : ∀ i, f i ≤ 1) : sm k f ≤ k := by
  induction k with
  | zero => exact Nat.le_refl _
  | succ k ih =>
    have := h k
    show sm k f + f k ≤ k + 1
    omega

theorem sm_pos {k : Nat} {f : Nat → Nat} : sm k f ≠ 0 ↔ ∃ i, i < k ∧ f i ≠ 0 := by
  induction k with
  | zero => exact ⟨fun h => absurd rfl h, fun ⟨_, h, _⟩ => absurd h (Nat.not_lt_zero _)⟩
  | succ k ih =>
    constructor
    · intro h
      by_cases c : f k = 0
      · have h1 : sm k f ≠ 0 := fun e => h (by show sm k f + f k = 0; omega)
        obtain ⟨i, hi, hf⟩ := ih.1 h1
        exact ⟨i, Nat.lt_succ_of_lt hi, hf⟩
      · exact ⟨k, Nat.lt_succ_self k, c⟩
    · rintro ⟨i, hi, hf⟩ e
      have e' : sm k f + f k = 0 := e
      by_cases c : i = k
      · subst c; omega
      · exact ih.2 ⟨i, by omega, hf⟩ (by omega)

/-! ## counting words -/
section
open Classical
/-- how many words of n letters below k have a property -/
noncomputable def cnt (k : Nat) : Nat → (List Nat → Prop) → Nat
  | 0, p => if p [] then 1 else 0
  | n + 1, p => sm k fun l => cnt k n fun w => p (l :: w)

theorem cnt_zero_yes {k : Nat} {p : List Nat → Prop} (h : p []) : cnt k 0 p = 1 := if_pos h
theorem cnt_zero_no {k : Nat} {p : List Nat → Prop} (h : ¬ p []) : cnt k 0 p = 0 := if_neg h

/-- a word over the letters below k -/
def Over (k : Nat) (w : List Nat) : Prop := ∀ a ∈ w, a < k

theorem Over.nil {k : Nat} : Over k [] := fun _ h => nomatch h
theorem Over.cons {k a : Nat} {w : List Nat} (ha : a < k) (h : Over k w) : Over k (a :: w) := fun b hb => by
  rcases List.mem_cons.mp hb with e | hb
  · exact e ▸ ha
  · exact h b hb

theorem cnt_le {k m n : Nat} {p q : List Nat → Prop} (hk : k ≤ m) (h : ∀ w, w.length = n → Over k w → p w → q w) : cnt k n p ≤ cnt m n q := by
  induction n generalizing p q with
  | zero =>
    show (if p [] then 1 else 0) ≤ (if q [] then 1 else 0)
    by_cases c : p []
    · rw [if_pos c, if_pos (h [] rfl Over.nil c)]
      exact Nat.le_refl _
    · rw [if_neg c]
      exact Nat.zero_le _
  | succ n ih =>
    show sm k (fun l => cnt k n fun w => p (l :: w)) ≤ sm m (fun l => cnt m n fun w => q (l :: w))
    refine Nat.le_trans (sm_le fun l hl => ?_) (sm_wide hk)
    exact ih fun w hw ho hp => h (l :: w) (by rw [List.length_cons, hw]) (ho.cons hl) hp

theorem cnt_congr {k n : Nat} {p q : List Nat → Prop} (h : ∀ w, w.length = n → Over k w → (p w ↔ q w)) : cnt k n p = cnt k n q :=
  Nat.le_antisymm (cnt_le (Nat.le_refl _) fun w a b => (h w a b).1) (cnt_le (Nat.le_refl _) fun w a b => (h w a b).2)

/-- words of two lengths together: at most the product -/
theorem cnt_add {k a b : Nat} {p q r : List Nat → Prop} (h : ∀ u v, p (u ++ v) → q u ∧ r v) : cnt k (a + b) p ≤ cnt k a q * cnt k b r := by
  induction a generalizing p q with
  | zero =>
    rw [Nat.zero_add]
    show cnt k b p ≤ (if q [] then 1 else 0) * cnt k b r
    by_cases c : q []
    · rw [if_pos c, Nat.one_mul]
      exact cnt_le (Nat.le_refl _) fun w _ _ hp => (h [] w hp).2
    · rw [if_neg c, Nat.zero_mul]
      have e : cnt k b p ≤ cnt k b (fun _ => False) := cnt_le (Nat.le_refl _) fun w _ _ hp => c (h [] w hp).1
      have z : ∀ n, cnt k n (fun _ => False) = 0 := by
        intro n
        induction n with
        | zero => exact if_neg fun x => x
        | succ n ih =>
          show sm k (fun _ => cnt k n fun _ => False) = 0
          rw [ih]
          exact sm_zero k
      rw [z] at e
      exact e
  | succ a ih =>
    have e : a + 1 + b = (a + b) + 1 := by omega
    rw [e]
    show sm k (fun l => cnt k (a + b) fun w => p (l :: w)) ≤ sm k (fun l => cnt k a fun w => q (l :: w)) * cnt k b r
    rw [← sm_mul]
    exact sm_le fun l _ => ih fun u v hp => h (l :: u) v hp

theorem cnt_one {k : Nat} (p : List Nat → Prop) : cnt k 1 p ≤ k :=
  sm_one k fun i => by
    show (if p [i] then 1 else 0) ≤ 1
    by_cases c : p [i]
    · rw [if_pos c]; exact Nat.le_refl _
    · rw [if_neg c]; exact Nat.zero_le _

theorem cnt_snoc (k n : Nat) (p : List Nat → Prop) : cnt k (n + 1) p = sm k fun l => cnt k n fun w => p (w ++ [l]) := by
  induction n generalizing p with
  | zero => rfl
  | succ n ih =>
    show sm k (fun l => cnt k (n + 1) fun w => p (l :: w)) = _
    have e : ∀ l, cnt k (n + 1) (fun w => p (l :: w)) = sm k fun m => cnt k n fun w => p (l :: (w ++ [m])) := fun l => ih fun w => p (l :: w)
    rw [sm_congr fun l _ => e l, sm_swap]
    rfl

theorem cnt_rev (k n : Nat) (p : List Nat → Prop) : cnt k n (fun w => p w.reverse) = cnt k n p := by
  induction n generalizing p with
  | zero => rfl
  | succ n ih =>
    rw [cnt_snoc k n p]
    show sm k (fun l => cnt k n fun w => p (l :: w).reverse) = _
    refine sm_congr fun l _ => ?_
    rw [← ih fun w => p (w ++ [l])]
    exact cnt_congr fun w _ _ => by rw [List.reverse_cons]

end

/-! ## open words -/
/-- no block of w is in B -/
def Op (B : List Nat → Prop) (w : List Nat) : Prop := ∀ u v x, w = u ++ v ++ x → ¬ B v

theorem Op.split {B : List Nat → Prop} {u v : List Nat} (h : Op B (u ++ v)) : Op B u ∧ Op B v :=
  ⟨fun a b c e => h a b (c ++ v) (by rw [e]; simp only [List.append_assoc]), fun a b c e => h (u ++ a) b c (by rw [e]; simp only [List.append_assoc])⟩

/-- the number of open words of a length -/
noncomputable def num (k : Nat) (B : List Nat → Prop) (n : Nat) : Nat := cnt k n (Op B)

theorem num_add (k : Nat) (B : List Nat → Prop) (a b : Nat) : num k B (a + b) ≤ num k B a * num k B b := cnt_add fun _ _ h => h.split
theorem num_succ (k : Nat) (B : List Nat → Prop) (a : Nat) : num k B (a + 1) ≤ num k B a * k :=
  Nat.le_trans (num_add k B a 1) (Nat.mul_le_mul_left _ (cnt_one _))
theorem num_zero_up {k : Nat} {B : List Nat → Prop} {a b : Nat} (h : a ≤ b) (z : num k B a = 0) : num k B b = 0 := by
  have e : b = a + (b - a) := by omega
  have q := num_add k B a (b - a)
  rw [← e, z, Nat.zero_mul] at q
  omega

theorem Op.mono {B C : List Nat → Prop} {w : List Nat} (h : Op C w) (s : ∀ v, B v → C v) : Op B w := fun u v x e b => h u v x e (s v b)
theorem num_less {k : Nat} {B C : List Nat → Prop} (s : ∀ v, B v → C v) (n : Nat) : num k C n ≤ num k B n :=
  cnt_le (Nat.le_refl _) fun _ _ _ h => h.mono s
theorem num_congr {k : Nat} {B C : List Nat → Prop} (s : ∀ v, B v ↔ C v) (n : Nat) : num k B n = num k C n :=
  Nat.le_antisymm (num_less (fun v => (s v).2) n) (num_less (fun v => (s v).1) n)
/-- fewer letters -/
theorem num_letters {k m : Nat} {B C : List Nat → Prop} (hk : k ≤ m) (s : ∀ v, Over k v → C v → B v) (n : Nat) : num k B n ≤ num m C n :=
  cnt_le hk fun w _ ho h u v x e c => h u v x e (s v (fun a ha => ho a (by rw [e]; simp [ha])) c)
/-- turned round -/
theorem Op.rev {B : List Nat → Prop} {w : List Nat} : Op (fun v => B v.reverse) w ↔ Op B w.reverse := by
  constructor
  · intro h u v x e b
    refine h x.reverse v.reverse u.reverse ?_ (by show B v.reverse.reverse; rw [List.reverse_reverse]; exact b)
    have e2 := congrArg List.reverse e
    rw [List.reverse_reverse] at e2
    rw [e2]
    simp only [List.reverse_append, List.append_assoc]
  · intro h u v x e b
    refine h x.reverse v.reverse u.reverse ?_ b
    rw [e]
    simp only [List.reverse_append, List.append_assoc]
theorem num_rev (k : Nat) (B : List Nat → Prop) (n : Nat) : num k (fun v => B v.reverse) n = num k B n := by
  unfold num
  rw [← cnt_rev k n (Op B)]
  exact cnt_congr fun w _ _ => Op.rev

/-! ## blocked words -/
/-- the values of a pattern p's signs: not empty, at most m letters, all below k -/
def Good (k m : Nat) (v : List Nat) : Prop := v ≠ [] ∧ v.length ≤ m ∧ Over k v
def Bl (p : List Nat) (k m : Nat) (w : List Nat) : Prop := ∃ f : Nat → List Nat, (∀ x ∈ p, Good k m (f x)) ∧ w = p.flatMap f

theorem Bl.longer {p : List Nat} {k m m' : Nat} (h : m ≤ m') {w : List Nat} (b : Bl p k m w) : Bl p k m' w := by
  obtain ⟨f, h1, h2⟩ := b
  exact ⟨f, fun x hx => ⟨(h1 x hx).1, Nat.le_trans (h1 x hx).2.1 h, (h1 x hx).2.2⟩, h2⟩
theorem Bl.fewer {p : List Nat} {k k' m : Nat} {w : List Nat} (o : Over k' w) (b : Bl p k m w) : Bl p k' m w := by
  obtain ⟨f, h1, h2⟩ := b
  refine ⟨f, fun x hx => ⟨(h1 x hx).1, (h1 x hx).2.1, fun a ha => o a ?_⟩, h2⟩
  rw [h2]
  exact List.mem_flatMap.mpr ⟨x, hx, ha⟩
theorem Bl.rev {p : List Nat} {k m : Nat} {w : List Nat} (b : Bl p k m w) : Bl p.reverse k m w.reverse := by
  obtain ⟨f, h1, h2⟩ := b
  refine ⟨fun x => (f x).reverse, fun x hx => ?_, ?_⟩
  · obtain ⟨a, b, c⟩ := h1 x (List.mem_reverse.mp hx)
    exact ⟨fun e => a (List.reverse_eq_nil_iff.mp e), by rw [List.length_reverse]; exact b, fun y hy => c y (List.mem_reverse.mp hy)⟩
  · rw [h2]
    clear h1 h2
    induction p with
    | nil => rfl
    | cons x p ih =>
      rw [List.flatMap_cons, List.reverse_append, ih, List.reverse_cons, List.flatMap_append]
      simp
theorem Bl_rev (p : List Nat) (k m : Nat) (w : List Nat) : Bl p.reverse k m w ↔ Bl p k m w.reverse := by
  constructor
  · intro h
    have := h.rev
    rw [List.reverse_reverse] at this
    exact this
  · intro h
    have := h.rev
    rw [List.reverse_reverse] at this
    exact this
theorem flatMap_congr' {p : List Nat} {f g : Nat → List Nat} (h : ∀ x ∈ p, f x = g x) : p.flatMap f = p.flatMap g := by
  induction p with
  | nil => rfl
  | cons x p ih =>
    rw [List.flatMap_cons, List.flatMap_cons, h x List.mem_cons_self, ih fun y hy => h y (List.mem_cons_of_mem _ hy)]
/-- other names -/
theorem Bl_map {p : List Nat} {r : Nat → Nat} (inj : ∀ x ∈ p, ∀ y ∈ p, r x = r y → x = y) (k m : Nat) (w : List Nat) : Bl (p.map r) k m w ↔ Bl p k m w := by
  have fm : ∀ (f : Nat → List Nat) (q : List Nat), (q.map r).flatMap f = q.flatMap fun x => f (r x) := fun f q => by
    induction q with
    | nil => rfl
    | cons x q ih => rw [List.map_cons, List.flatMap_cons, List.flatMap_cons, ih]
  constructor
  · rintro ⟨f, h1, h2⟩
    exact ⟨fun x => f (r x), fun x hx => h1 (r x) (List.mem_map.mpr ⟨x, hx, rfl⟩), by rw [h2, fm]⟩
  · rintro ⟨f, h1, h2⟩
    classical
    let g : Nat → List Nat := fun y => if h : ∃ x, x ∈ p ∧ r x = y then f h.choose else []
    have hg : ∀ x ∈ p, g (r x) = f x := fun x hx => by
      have h : ∃ z, z ∈ p ∧ r z = r x := ⟨x, hx, rfl⟩
      have e : g (r x) = f h.choose := dif_pos h
      rw [e, inj _ h.choose_spec.1 x hx h.choose_spec.2]
    refine ⟨g, fun y hy => ?_, ?_⟩
    · obtain ⟨x, hx, rfl⟩ := List.mem_map.mp hy
      rw [hg x hx]
      exact h1 x hx
    · rw [h2, fm]
      exact (flatMap_congr' fun x hx => hg x hx).symm
theorem Bl.ne_nil {p : List Nat} {k m : Nat} (hp : p ≠ []) : ¬ Bl p k m [] := by
  rintro ⟨f, h1, h2⟩
  cases p with
  | nil => exact hp rfl
  | cons x p =>
    rw [List.flatMap_cons] at h2
    exact (h1 x List.mem_cons_self).1 (List.append_eq_nil_iff.mp h2.symm).1
theorem Bl.over {p : List Nat} {k m : Nat} {w : List Nat} (b : Bl p k m w) : Over k w := by
  obtain ⟨f, h1, h2⟩ := b
  intro a ha
  rw [h2] at ha
  obtain ⟨x, hx, h⟩ := List.mem_flatMap.mp ha
  exact (h1 x hx).2.2 a h
theorem Bl.len {p : List Nat} {k m : Nat} {w : List Nat} (b : Bl p k m w) : w.length ≤ m * p.length := by
  obtain ⟨f, h1, h2⟩ := b
  rw [h2]
  clear h2
  induction p with
  | nil => simp
  | cons x p ih =>
    rw [List.flatMap_cons, List.length_append, List.length_cons, Nat.mul_add, Nat.mul_one]
    have a := (h1 x List.mem_cons_self).2.1
    have b := ih fun y hy => h1 y (List.mem_cons_of_mem _ hy)
    omega

/-! ## what the law asks of the counts -/
/-- what longest_open tells: .inl h: the longest have h letters -/
def Told (k : Nat) (B : List Nat → Prop) : Option Nat → Prop
  | some h => num k B h ≠ 0 ∧ num k B (h + 1) = 0
  | none => ∀ n, num k B n ≠ 0
theorem Told.iff {k : Nat} {B : List Nat → Prop} {h : Nat} (t : Told k B (some h)) (n : Nat) : num k B n = 0 ↔ h < n := by
  obtain ⟨t1, t2⟩ := t
  constructor
  · intro z
    rcases Nat.lt_or_ge h n with c | c
    · exact c
    · exact absurd (num_zero_up c z) t1
  · intro c
    exact num_zero_up (by omega) t2
end K61

namespace K61

/-! ## suffixes -/
def Suf (v u : List Nat) : Prop := ∃ x, u = x ++ v
theorem Suf.refl (u : List Nat) : Suf u u := ⟨[], rfl⟩
theorem Suf.nil (u : List Nat) : Suf [] u := ⟨u, by rw [List.append_nil]⟩
theorem Suf.trans {u v w : List Nat} (a : Suf u v) (b : Suf v w) : Suf u w := by
  obtain ⟨x, rfl⟩ := a
  obtain ⟨y, rfl⟩ := b
  exact ⟨y ++ x, by rw [List.append_assoc]⟩
theorem Suf.len {u v : List Nat} (a : Suf u v) : u.length ≤ v.length := by
  obtain ⟨x, rfl⟩ := a
  rw [List.length_append]
  omega
theorem Suf.of_nil {u : List Nat} (a : Suf u []) : u = [] := by
  obtain ⟨x, e⟩ := a
  exact (List.append_eq_nil_iff.mp e.symm).2
theorem Suf.cons_iff {v u : List Nat} {a : Nat} : Suf v (a :: u) ↔ v = a :: u ∨ Suf v u := by
  constructor
  · rintro ⟨x, e⟩
    cases x with
    | nil => exact .inl e.symm
    | cons b x =>
      rw [List.cons_append] at e
      exact .inr ⟨x, (List.cons.inj e).2⟩
  · rintro (rfl | ⟨x, e⟩)
    · exact Suf.refl _
    · exact ⟨a :: x, by rw [e]; rfl⟩
/-- of two suffixes of a word the shorter is one of the longer -/
theorem Suf.both {u v w : List Nat} (a : Suf u w) (b : Suf v w) (h : u.length ≤ v.length) : Suf u v := by
  obtain ⟨x, e1⟩ := a
  obtain ⟨y, e2⟩ := b
  have e : x ++ u = y ++ v := e1.symm.trans e2
  rcases List.append_eq_append_iff.mp e with ⟨z, h1, h2⟩ | ⟨z, h1, h2⟩
  · have : z.length = 0 := by
      have q := congrArg List.length h2
      rw [List.length_append] at q
      omega
    have z0 : z = [] := List.eq_nil_of_length_eq_zero this
    rw [z0, List.nil_append] at h2
    exact ⟨[], h2.symm⟩
  · exact ⟨z, h2⟩
theorem Suf.eq {u v w : List Nat} (a : Suf u w) (b : Suf v w) (h : u.length = v.length) : u = v := by
  obtain ⟨x, e⟩ := a.both b (Nat.le_of_eq h)
  have q := congrArg List.length e
  rw [List.length_append] at q
  have z : x = [] := List.eq_nil_of_length_eq_zero (by omega)
  rw [z] at e
  exact e.symm
theorem Suf.snoc {v u : List Nat} {a : Nat} : Suf v (u ++ [a]) ↔ v = [] ∨ ∃ y, v = y ++ [a] ∧ Suf y u := by
  constructor
  · rintro ⟨x, e⟩
    rcases List.eq_nil_or_concat v with rfl | ⟨y, b, rfl⟩
    · exact .inl rfl
    · right
      rw [List.concat_eq_append, ← List.append_assoc] at e
      obtain ⟨e1, e2⟩ := List.append_inj' e rfl
      refine ⟨y, ?_, x, e1⟩
      rw [List.concat_eq_append, (List.cons.inj e2).1]
  · rintro (rfl | ⟨y, rfl, x, rfl⟩)
    · exact Suf.nil _
    · exact ⟨x, by rw [List.append_assoc]⟩

/-! ## lists by places -/
theorem nd_at {α : Type} {l : List α} (h : l.Nodup) {i j : Nat} {x : α} (a : l[i]? = some x) (b : l[j]? = some x) : i = j := by
  obtain ⟨hi, e1⟩ := List.getElem?_eq_some_iff.mp a
  obtain ⟨hj, e2⟩ := List.getElem?_eq_some_iff.mp b
  exact (List.getElem_inj h).mp (e1.trans e2.symm)
theorem at_lt {α : Type} {l : List α} {i : Nat} {x : α} (a : l[i]? = some x) : i < l.length := (List.getElem?_eq_some_iff.mp a).1
theorem at_mem {α : Type} {l : List α} {i : Nat} {x : α} (a : l[i]? = some x) : x ∈ l := List.mem_of_getElem? a
theorem at_some {α : Type} {l : List α} {i : Nat} (h : i < l.length) : ∃ x, l[i]? = some x := ⟨l[i], List.getElem?_eq_getElem h⟩
theorem mem_at {α : Type} {l : List α} {x : α} (h : x ∈ l) : ∃ i : Nat, l[i]? = some x := List.mem_iff_getElem?.mp h
theorem at_snoc {α : Type} {l : List α} {y x : α} {i : Nat} : (l ++ [y])[i]? = some x ↔ l[i]? = some x ∨ (i = l.length ∧ x = y) := by
  constructor
  · intro h
    rcases Nat.lt_trichotomy i l.length with c | c | c
    · rw [List.getElem?_append_left c] at h
      exact .inl h
    · subst c
      rw [List.getElem?_append_right (Nat.le_refl _), Nat.sub_self] at h
      exact .inr ⟨rfl, (Option.some.inj h).symm⟩
    · have := at_lt h
      rw [List.length_append, List.length_singleton] at this
      omega
  · rintro (h | ⟨rfl, rfl⟩)
    · rw [List.getElem?_append_left (at_lt h)]
      exact h
    · rw [List.getElem?_append_right (Nat.le_refl _), Nat.sub_self]
      rfl
theorem len_of_nd : ∀ (n : Nat) (l : List Nat), l.Nodup → (∀ x ∈ l, x < n) → l.length ≤ n
  | 0, [], _, _ => Nat.le_refl _
  | 0, x :: l, _, h => absurd (h x List.mem_cons_self) (Nat.not_lt_zero _)
  | n + 1, l, h, hl => by
    have h1 : (l.erase n).Nodup := h.erase n
    have h2 := len_of_nd n (l.erase n) h1 fun x hx => by
      have hx' := (h.mem_erase_iff).mp hx
      have := hl x hx'.2
      have := hx'.1
      omega
    have h3 : l.length ≤ (l.erase n).length + 1 := by
      rw [List.length_erase]
      split <;> omega
    omega
theorem mem_take_at {α : Type} {l : List α} {n : Nat} {x : α} : x ∈ l.take n ↔ ∃ i, i < n ∧ l[i]? = some x := by
  rw [List.mem_iff_getElem?]
  constructor
  · rintro ⟨i, h⟩
    rw [List.getElem?_take] at h
    by_cases c : i < n
    · rw [if_pos c] at h
      exact ⟨i, c, h⟩
    · rw [if_neg c] at h
      cases h
  · rintro ⟨i, c, h⟩
    exact ⟨i, by rw [List.getElem?_take, if_pos c]; exact h⟩

/-! ## trees of words -/
structure Tri (k : Nat) (ws : List (List Nat)) : Prop where
  root : ws[0]? = some []
  nd : ws.Nodup
  pre : ∀ u a, u ++ [a] ∈ ws → u ∈ ws
  ov : ∀ u ∈ ws, Over k u
/-- c is the child of s by a -/
def Ch (ws : List (List Nat)) (s a c : Nat) : Prop := ∃ u, ws[s]? = some u ∧ ws[c]? = some (u ++ [a])

section
variable {k : Nat} {ws : List (List Nat)}
theorem Ch.uniq (T : Tri k ws) {s a c d : Nat} (h : Ch ws s a c) (h' : Ch ws s a d) : c = d := by
  obtain ⟨u, e1, e2⟩ := h
  obtain ⟨v, f1, f2⟩ := h'
  have e : u = v := Option.some.inj (e1.symm.trans f1)
  subst e
  exact nd_at T.nd e2 f2
theorem Ch.back (T : Tri k ws) {s t a b c : Nat} (h : Ch ws s a c) (h' : Ch ws t b c) : s = t ∧ a = b := by
  obtain ⟨u, e1, e2⟩ := h
  obtain ⟨v, f1, f2⟩ := h'
  have e : u ++ [a] = v ++ [b] := Option.some.inj (e2.symm.trans f2)
  obtain ⟨g1, g2⟩ := List.append_inj' e rfl
  subst g1
  exact ⟨nd_at T.nd e1 f1, (List.cons.inj g2).1⟩
theorem Ch.lt {s a c : Nat} (h : Ch ws s a c) : s < ws.length ∧ c < ws.length := by
  obtain ⟨u, e1, e2⟩ := h
  exact ⟨at_lt e1, at_lt e2⟩
theorem Ch.letter (T : Tri k ws) {s a c : Nat} (h : Ch ws s a c) : a < k := by
  obtain ⟨u, e1, e2⟩ := h
  exact T.ov _ (at_mem e2) a (by simp)
theorem Ch.not0 (T : Tri k ws) {s a : Nat} (h : Ch ws s a 0) : False := by
  obtain ⟨u, e1, e2⟩ := h
  rw [T.root] at e2
  have := Option.some.inj e2
  exact absurd this.symm (by simp)

/-! ### one word more -/
theorem Tri.more (T : Tri k ws) {u : List Nat} {s a : Nat} (hs : ws[s]? = some u) (ha : a < k) (hn : ∀ c, ¬ Ch ws s a c) : Tri k (ws ++ [u ++ [a]]) where
  root := by
    rw [List.getElem?_append_left (at_lt T.root)]
    exact T.root
  nd := by
    refine List.nodup_append.mpr ⟨T.nd, by simp, fun x hx y hy e => ?_⟩
    rw [List.mem_singleton.mp hy] at e
    subst e
    obtain ⟨c, hc⟩ := mem_at hx
    exact hn c ⟨u, hs, hc⟩
  pre := fun v b h => by
    rcases List.mem_append.mp h with h | h
    · exact List.mem_append_left _ (T.pre v b h)
    · obtain ⟨e, _⟩ := List.append_inj' (List.mem_singleton.mp h) rfl
      exact List.mem_append_left _ (e ▸ at_mem hs)
  ov := fun v hv => by
    rcases List.mem_append.mp hv with h | h
    · exact T.ov v h
    · rw [List.mem_singleton.mp h]
      intro b hb
      rcases List.mem_append.mp hb with hb | hb
      · exact T.ov u (at_mem hs) b hb
      · exact (List.mem_singleton.mp hb) ▸ ha
theorem Ch.more (T : Tri k ws) {u : List Nat} {s a : Nat} (hs : ws[s]? = some u) (hn : ∀ c, ¬ Ch ws s a c) {t b c : Nat} :
    Ch (ws ++ [u ++ [a]]) t b c ↔ Ch ws t b c ∨ (t = s ∧ b = a ∧ c = ws.length) := by
  constructor
  · rintro ⟨v, e1, e2⟩
    rcases at_snoc.mp e1 with f1 | ⟨f1, f1'⟩
    · rcases at_snoc.mp e2 with f2 | ⟨f2, f2'⟩
      · exact .inl ⟨v, f1, f2⟩
      · obtain ⟨g1, g2⟩ := List.append_inj' f2' rfl
        subst g1
        exact .inr ⟨nd_at T.nd f1 hs, (List.cons.inj g2).1, f2⟩
    · exfalso
      rw [f1'] at e2
      rcases at_snoc.mp e2 with f2 | ⟨f2, f2'⟩
      · have := T.pre _ _ (at_mem f2)
        obtain ⟨d, hd⟩ := mem_at this
        exact hn d ⟨u, hs, hd⟩
      · have := congrArg List.length f2'
        simp at this
  · rintro (⟨v, e1, e2⟩ | ⟨rfl, rfl, rfl⟩)
    · exact ⟨v, at_snoc.mpr (.inl e1), at_snoc.mpr (.inl e2)⟩
    · exact ⟨u, at_snoc.mpr (.inl hs), at_snoc.mpr (.inr ⟨rfl, rfl⟩)⟩

/-! ### the longest suffix that is in the tree -/
def LS (ws : List (List Nat)) (u : List Nat) (s : Nat) : Prop := ∃ v, ws[s]? = some v ∧ Suf v u ∧ ∀ x ∈ ws, Suf x u → x.length ≤ v.length
theorem LS.lt {u : List Nat} {s : Nat} (h : LS ws u s) : s < ws.length := by
  obtain ⟨v, e, _⟩ := h
  exact at_lt e
theorem LS.self {u : List Nat} {s : Nat} (h : ws[s]? = some u) : LS ws u s := ⟨u, h, Suf.refl u, fun _ _ q => q.len⟩
theorem LS.uniq (T : Tri k ws) {u : List Nat} {s t : Nat} (a : LS ws u s) (b : LS ws u t) : s = t := by
  obtain ⟨v, e1, f1, g1⟩ := a
  obtain ⟨w, e2, f2, g2⟩ := b
  have e : v = w := f1.eq f2 (Nat.le_antisymm (g2 v (at_mem e1) f1) (g1 w (at_mem e2) f2))
  subst e
  exact nd_at T.nd e1 e2
theorem LS.congr {u w : List Nat} (h : ∀ x ∈ ws, Suf x u ↔ Suf x w) {s : Nat} (a : LS ws u s) : LS ws w s := by
  obtain ⟨v, e, f, g⟩ := a
  exact ⟨v, e, (h v (at_mem e)).1 f, fun x hx q => g x hx ((h x hx).2 q)⟩
theorem LS.tail {a : Nat} {u : List Nat} (hn : (a :: u) ∉ ws) {s : Nat} (h : LS ws u s) : LS ws (a :: u) s := by
  refine h.congr fun x hx => ?_
  constructor
  · exact fun q => Suf.cons_iff.mpr (.inr q)
  · intro q
    rcases Suf.cons_iff.mp q with e | q
    · exact absurd (e ▸ hx) hn
    · exact q
theorem LS.step (T : Tri k ws) {u v : List Nat} {s a : Nat} (h : LS ws u s) (hs : ws[s]? = some v) {t : Nat} : LS ws (v ++ [a]) t ↔ LS ws (u ++ [a]) t := by
  obtain ⟨v', e, f, g⟩ := h
  have ev : v' = v := Option.some.inj (e.symm.trans hs)
  subst ev
  have key : ∀ x ∈ ws, Suf x (v' ++ [a]) ↔ Suf x (u ++ [a]) := fun x hx => by
    constructor
    · intro q
      rcases Suf.snoc.mp q with rfl | ⟨y, rfl, q'⟩
      · exact Suf.nil _
      · exact Suf.snoc.mpr (.inr ⟨y, rfl, Suf.trans q' f⟩)
    · intro q
      rcases Suf.snoc.mp q with rfl | ⟨y, rfl, q'⟩
      · exact Suf.nil _
      · exact Suf.snoc.mpr (.inr ⟨y, rfl, Suf.both q' f (g y (T.pre y a hx) q')⟩)
  exact ⟨fun z => z.congr key, fun z => z.congr fun x hx => (key x hx).symm⟩
theorem LS.zero (T : Tri k ws) : LS ws [] 0 := LS.self T.root
end

/-! ## the machine -/
/-- the state behind s by the letter a -/
def dl (mv : List (List Nat)) (s a : Nat) : Nat := (mv.getD s []).getD a 0
def runs (mv : List (List Nat)) (s : Nat) (w : List Nat) : Nat := w.foldl (dl mv) s
theorem runs_snoc (mv : List (List Nat)) (s : Nat) (w : List Nat) (a : Nat) : runs mv s (w ++ [a]) = dl mv (runs mv s w) a := by
  unfold runs
  rw [List.foldl_append]
  rfl
/-- does the machine stop there -/
def stop (st : List Bool) (s : Nat) : Bool := st.getD s false

structure Mach (k n : Nat) (mv : List (List Nat)) (st : List Bool) (B : List Nat → Prop) : Prop where
  pos : 0 < n
  ml : mv.length = n
  sl : st.length = n
  row : ∀ r ∈ mv, r.length = k ∧ ∀ c ∈ r, c < n
  acc : ∀ w, Over k w → (stop st (runs mv 0 w) = true ↔ ∃ v, Suf v w ∧ B v)

/-! ## the computation of the moves -/
/-- the loop over the queue: the states before `i` are finished -/
structure Con (k : Nat) (ws : List (List Nat)) (B : List Nat → Prop) (mv : List (List Nat)) (st : List Bool) (fb qu : List Nat) (i : Nat) : Prop where
  tri : Tri k ws
  sub : ∀ v, B v → v ∈ ws
  ml : mv.length = ws.length
  sl : st.length = ws.length
  fl : fb.length = ws.length
  row : ∀ r ∈ mv, r.length = k ∧ ∀ c ∈ r, c < ws.length
  qnd : qu.Nodup
  qlt : ∀ s ∈ qu, s < ws.length
  il : i ≤ qu.length
  q0 : qu[0]? = some 0
  mem : ∀ c, c ∈ qu ↔ c = 0 ∨ ∃ s a, s ∈ qu.take i ∧ Ch ws s a c
  srt : ∀ (p q s t : Nat) (u v : List Nat), p < q → qu[p]? = some s → qu[q]? = some t → ws[s]? = some u → ws[t]? = some v → u.length ≤ v.length
  fbk : ∀ c ∈ qu, ∀ u, ws[c]? = some u → LS ws u.tail (fb.getD c 0)
  done : ∀ s ∈ qu.take i, ∀ u, ws[s]? = some u → (∀ a, a < k → LS ws (u ++ [a]) (dl mv s a)) ∧ (stop st s = true ↔ ∃ v, Suf v u ∧ B v)
  todo : ∀ s, s ∉ qu.take i → ∀ u, ws[s]? = some u → (stop st s = true ↔ B u)
/-- within: s = qu[i] is at work, its letters below j are finished -/
structure Con2 (k : Nat) (ws : List (List Nat)) (B : List Nat → Prop) (mv : List (List Nat)) (st : List Bool) (fb qu : List Nat) (i s j : Nat) : Prop where
  tri : Tri k ws
  sub : ∀ v, B v → v ∈ ws
  ml : mv.length = ws.length
  sl : st.length = ws.length
  fl : fb.length = ws.length
  row : ∀ r ∈ mv, r.length = k ∧ ∀ c ∈ r, c < ws.length
  qnd : qu.Nodup
  qlt : ∀ s ∈ qu, s < ws.length
  hs : qu[i]? = some s
  q0 : qu[0]? = some 0
  mem : ∀ c, c ∈ qu ↔ c = 0 ∨ (∃ s a, s ∈ qu.take i ∧ Ch ws s a c) ∨ ∃ a, a < j ∧ Ch ws s a c
  srt : ∀ (p q s t : Nat) (u v : List Nat), p < q → qu[p]? = some s → qu[q]? = some t → ws[s]? = some u → ws[t]? = some v → u.length ≤ v.length
  fbk : ∀ c ∈ qu, ∀ u, ws[c]? = some u → LS ws u.tail (fb.getD c 0)
  done : ∀ s ∈ qu.take i, ∀ u, ws[s]? = some u → (∀ a, a < k → LS ws (u ++ [a]) (dl mv s a)) ∧ (stop st s = true ↔ ∃ v, Suf v u ∧ B v)
  cur : ∀ u, ws[s]? = some u → (∀ a, a < j → LS ws (u ++ [a]) (dl mv s a)) ∧ (stop st s = true ↔ ∃ v, Suf v u ∧ B v)
  todo : ∀ t, t ∉ qu.take i → t ≠ s → ∀ u, ws[t]? = some u → (stop st t = true ↔ B u)

section
variable {k : Nat} {ws : List (List Nat)} {B : List Nat → Prop} {mv : List (List Nat)} {st : List Bool} {fb qu : List Nat} {i s j : Nat}

theorem getD_at {α : Type} {l : List α} {n : Nat} {d x : α} (h : l[n]? = some x) : l.getD n d = x := by
  rw [List.getD_eq_getElem?_getD, h]
  rfl
theorem getD_set {α : Type} (l : List α) (n m : Nat) (x d : α) (h : n < l.length) : (l.set n x).getD m d = if m = n then x else l.getD m d := by
  rw [List.getD_eq_getElem?_getD, List.getD_eq_getElem?_getD, List.getElem?_set]
  by_cases c : n = m
  · subst c
    rw [if_pos rfl, if_pos h, if_pos rfl]
    rfl
  · rw [if_neg c, if_neg (Ne.symm c)]
theorem at_getD {α : Type} {l : List α} {n : Nat} (d : α) (h : n < l.length) : l[n]? = some (l.getD n d) := by
  rw [List.getD_eq_getElem?_getD, List.getElem?_eq_getElem h]
  rfl

theorem Con.begin (T : Tri k ws) (sub : ∀ v, B v → v ∈ ws) {mv0 : List (List Nat)} {fb0 : List Nat} (ml : mv0.length = ws.length) (sl : st.length = ws.length) (fl : fb0.length = ws.length)
    (row : ∀ r ∈ mv0, r.length = k ∧ ∀ c ∈ r, c < ws.length) (f0 : ∀ x ∈ fb0, x = 0) (hB : ∀ s u, ws[s]? = some u → (stop st s = true ↔ B u)) : Con k ws B mv0 st fb0 [0] 0 where
  tri := T
  sub := sub
  ml := ml
  sl := sl
  fl := fl
  row := row
  qnd := by simp
  qlt := fun s hs => (List.mem_singleton.mp hs) ▸ at_lt T.root
  il := Nat.zero_le _
  q0 := rfl
  mem := fun c => by
    rw [List.mem_singleton]
    constructor
    · exact .inl
    · rintro (h | ⟨s, a, h, _⟩)
      · exact h
      · exact absurd h (by simp)
  srt := fun p q s t u v h1 h2 h3 _ _ => by
    have := at_lt h3
    rw [List.length_singleton] at this
    omega
  fbk := fun c hc u hu => by
    rw [List.mem_singleton.mp hc] at hu ⊢
    have e : u = [] := Option.some.inj (hu.symm.trans T.root)
    subst e
    have h0 : 0 < fb0.length := by rw [fl]; exact at_lt T.root
    have := f0 _ (at_mem (at_getD 0 h0))
    rw [this]
    exact LS.zero T
  done := fun s hs => absurd hs (by simp)
  todo := fun s _ u hu => hB s u hu

/-- the shorter ones are finished -/
theorem Con.short (C : Con k ws B mv st fb qu i) (hs : qu[i]? = some s) {u : List Nat} (hu : ws[s]? = some u) : ∀ (n : Nat) (v : List Nat) (t : Nat), v.length = n → ws[t]? = some v → v.length < u.length → t ∈ qu.take i := by
  intro n
  induction n with
  | zero =>
    intro v t hv ht hlt
    have e : v = [] := List.eq_nil_of_length_eq_zero hv
    subst e
    have t0 : t = 0 := nd_at C.tri.nd ht C.tri.root
    subst t0
    refine mem_take_at.mpr ⟨0, ?_, C.q0⟩
    rcases Nat.eq_zero_or_pos i with c | c
    · exfalso
      subst c
      have : s = 0 := Option.some.inj (hs.symm.trans C.q0)
      subst this
      have : u = [] := Option.some.inj (hu.symm.trans C.tri.root)
      subst this
      exact absurd hlt (by simp)
    · exact c
  | succ n ih =>
    intro v t hv ht hlt
    rcases List.eq_nil_or_concat v with rfl | ⟨y, b, rfl⟩
    · simp at hv
    · rw [List.concat_eq_append] at hv ht hlt
      rw [List.length_append, List.length_singleton] at hv hlt
      obtain ⟨t', ht'⟩ := mem_at (C.tri.pre y b (at_mem ht))
      have h1 := ih y t' (by omega) ht' (by omega)
      have h2 : t ∈ qu := (C.mem t).mpr (.inr ⟨t', b, h1, y, ht', ht⟩)
      obtain ⟨q, hq⟩ := mem_at h2
      refine mem_take_at.mpr ⟨q, ?_, hq⟩
      rcases Nat.lt_trichotomy q i with c | c | c
      · exact c
      · exfalso
        subst c
        have : s = t := Option.some.inj (hs.symm.trans hq)
        subst this
        have : u = y ++ [b] := Option.some.inj (hu.symm.trans ht)
        rw [this, List.length_append, List.length_singleton] at hlt
        omega
      · exfalso
        have := C.srt i q s t u (y ++ [b]) c hs hq hu ht
        rw [List.length_append, List.length_singleton] at this
        omega

/-- a state's own fallback is finished -/
theorem Con.back (C : Con k ws B mv st fb qu i) (hs : qu[i]? = some s) {u : List Nat} (hu : ws[s]? = some u) (h0 : s ≠ 0) :
    u ≠ [] ∧ LS ws u.tail (fb.getD s 0) ∧ fb.getD s 0 ∈ qu.take i ∧ fb.getD s 0 < ws.length := by
  have hn : u ≠ [] := fun e => h0 (by subst e; exact nd_at C.tri.nd hu C.tri.root)
  have hl := C.fbk s (at_mem hs) u hu
  refine ⟨hn, hl, ?_, hl.lt⟩
  obtain ⟨v, e, f, g⟩ := hl
  refine C.short hs hu v.length v _ rfl e ?_
  have := f.len
  rw [List.length_tail] at this
  have : u.length ≠ 0 := fun z => hn (List.eq_nil_of_length_eq_zero z)
  omega

/-- the stop's own value -/
theorem Con.stop (C : Con k ws B mv st fb qu i) (hs : qu[i]? = some s) {u : List Nat} (hu : ws[s]? = some u) :
    (K61.stop st s || K61.stop st (fb.getD s 0)) = true ↔ ∃ v, Suf v u ∧ B v := by
  have nt : s ∉ qu.take i := fun h => by
    obtain ⟨q, hq, e⟩ := mem_take_at.mp h
    have := nd_at C.qnd e hs
    omega
  have h1 := C.todo s nt u hu
  rw [Bool.or_eq_true, h1]
  by_cases c : s = 0
  · subst c
    have e : u = [] := Option.some.inj (hu.symm.trans C.tri.root)
    subst e
    have hl := C.fbk 0 (at_mem hs) [] hu
    have f0 : fb.getD 0 0 = 0 := LS.uniq C.tri hl (LS.zero C.tri)
    rw [f0, h1]
    constructor
    · rintro (h | h)
      · exact ⟨[], Suf.nil _, h⟩
      · exact ⟨[], Suf.nil _, h⟩
    · rintro ⟨v, h, b⟩
      exact .inl (h.of_nil ▸ b)
  · obtain ⟨hn, hl, hm, _⟩ := C.back hs hu c
    obtain ⟨v, e, f, g⟩ := hl
    rw [(C.done _ hm v e).2]
    constructor
    · rintro (h | ⟨x, hx, b⟩)
      · exact ⟨u, Suf.refl u, h⟩
      · refine ⟨x, hx.trans (f.trans ?_), b⟩
        cases u with
        | nil => exact Suf.nil _
        | cons a r => exact Suf.cons_iff.mpr (.inr (Suf.refl _))
    · rintro ⟨x, hx, b⟩
      cases u with
      | nil => exact absurd rfl hn
      | cons a r =>
        rcases Suf.cons_iff.mp hx with e' | hx
        · exact .inl (e' ▸ b)
        · exact .inr ⟨x, hx.both f (g x (C.sub x b) hx), b⟩

theorem Con.enter (C : Con k ws B mv st fb qu i) (hs : qu[i]? = some s) : Con2 k ws B mv (st.set s (K61.stop st s || K61.stop st (fb.getD s 0))) fb qu i s 0 := by
  have hlt : s < st.length := by rw [C.sl]; exact C.qlt s (at_mem hs)
  have nt : s ∉ qu.take i := fun h => by
    obtain ⟨q, hq, e⟩ := mem_take_at.mp h
    have := nd_at C.qnd e hs
    omega
  have hst : ∀ t, K61.stop (st.set s (K61.stop st s || K61.stop st (fb.getD s 0))) t = if t = s then (K61.stop st s || K61.stop st (fb.getD s 0)) else K61.stop st t := fun t => getD_set st s t _ false hlt
  exact {
    tri := C.tri
    sub := C.sub
    ml := C.ml
    sl := by rw [List.length_set]; exact C.sl
    fl := C.fl
    row := C.row
    qnd := C.qnd
    qlt := C.qlt
    hs := hs
    q0 := C.q0
    mem := fun c => by
      rw [C.mem c]
      constructor
      · rintro (h | h)
        · exact .inl h
        · exact .inr (.inl h)
      · rintro (h | h | ⟨a, h, _⟩)
        · exact .inl h
        · exact .inr h
        · exact absurd h (Nat.not_lt_zero _)
    srt := C.srt
    fbk := C.fbk
    done := fun t ht u hu => by
      have hne : t ≠ s := fun e => nt (by rw [← e]; exact ht)
      rw [hst t, if_neg hne]
      exact C.done t ht u hu
    cur := fun u hu => ⟨fun a h => absurd h (Nat.not_lt_zero _), by rw [hst s, if_pos rfl]; exact C.stop hs hu⟩
    todo := fun t ht hne u hu => by
      rw [hst t, if_neg hne]
      exact C.todo t ht u hu }

/-- what is read for `back` -/
theorem Con2.back (C : Con2 k ws B mv st fb qu i s j) {u : List Nat} (hj : j < k)
    (hm : fb.getD s 0 ∈ qu.take i) (hl : LS ws u.tail (fb.getD s 0)) (hn : u ≠ []) : LS ws (u ++ [j]).tail (dl mv (fb.getD s 0) j) := by
  obtain ⟨v, e, _⟩ := id hl
  have := (C.done _ hm v e).1 j hj
  have q := (LS.step C.tri hl e (a := j)).mp this
  cases u with
  | nil => exact absurd rfl hn
  | cons a r => exact q
theorem Con2.back0 (C : Con2 k ws B mv st fb qu i 0 j) {u : List Nat} (hu : ws[0]? = some u) : LS ws (u ++ [j]).tail 0 := by
  have e : u = [] := Option.some.inj (hu.symm.trans C.tri.root)
  subst e
  exact LS.zero C.tri

theorem dl_set {r : List Nat} (hs : s < mv.length) (hr : mv[s]? = some r) (hj : j < r.length) (x t a : Nat) :
    dl (mv.set s (r.set j x)) t a = if t = s ∧ a = j then x else dl mv t a := by
  unfold dl
  rw [getD_set mv s t _ [] hs]
  by_cases c : t = s
  · subst c
    rw [if_pos rfl, getD_set r j a x 0 hj, getD_at hr]
    by_cases d : a = j
    · rw [if_pos d, if_pos ⟨rfl, d⟩]
    · rw [if_neg d, if_neg fun z => d z.2]
  · rw [if_neg c, if_neg fun z => c z.1]
theorem row_set {n : Nat} {r : List Nat} (h : ∀ r ∈ mv, r.length = k ∧ ∀ c ∈ r, c < n) (hr : mv[s]? = some r) {x : Nat} (hx : x < n) :
    ∀ r' ∈ mv.set s (r.set j x), r'.length = k ∧ ∀ c ∈ r', c < n := fun r' hr' => by
  rcases List.mem_or_eq_of_mem_set hr' with q | q
  · exact h r' q
  · subst q
    obtain ⟨h1, h2⟩ := h r (at_mem hr)
    refine ⟨by rw [List.length_set]; exact h1, fun c hc => ?_⟩
    rcases List.mem_or_eq_of_mem_set hc with q | q
    · exact h2 c q
    · exact q ▸ hx

/-- a letter without a child -/
theorem Con2.bare (C : Con2 k ws B mv st fb qu i s j) {u r : List Nat} {bk : Nat} (hu : ws[s]? = some u) (hr : mv[s]? = some r) (hj : j < k) (hb : LS ws (u ++ [j]).tail bk) (hn : ∀ c, ¬ Ch ws s j c) :
    Con2 k ws B (mv.set s (r.set j bk)) st fb qu i s (j + 1) := by
  have hrl : j < r.length := by rw [(C.row r (at_mem hr)).1]; exact hj
  have nt : s ∉ qu.take i := fun h => by
    obtain ⟨q, hq, e⟩ := mem_take_at.mp h
    have := nd_at C.qnd e C.hs
    omega
  have hd := dl_set (mv := mv) (at_lt hr) hr hrl bk
  have new : LS ws (u ++ [j]) bk := by
    have hm : (u ++ [j]) ∉ ws := fun h => by
      obtain ⟨c, hc⟩ := mem_at h
      exact hn c ⟨u, hu, hc⟩
    cases e : u ++ [j] with
    | nil => exact absurd e (by simp)
    | cons a w =>
      rw [e] at hm hb
      exact LS.tail hm hb
  exact {
    tri := C.tri
    sub := C.sub
    ml := by rw [List.length_set]; exact C.ml
    sl := C.sl
    fl := C.fl
    row := row_set C.row hr hb.lt
    qnd := C.qnd
    qlt := C.qlt
    hs := C.hs
    q0 := C.q0
    mem := fun c => by
      rw [C.mem c]
      constructor
      · rintro (h | h | ⟨a, h, q⟩)
        · exact .inl h
        · exact .inr (.inl h)
        · exact .inr (.inr ⟨a, by omega, q⟩)
      · rintro (h | h | ⟨a, h, q⟩)
        · exact .inl h
        · exact .inr (.inl h)
        · refine .inr (.inr ⟨a, ?_, q⟩)
          rcases Nat.lt_or_ge a j with c | c
          · exact c
          · have : a = j := by omega
            subst this
            exact absurd q (hn _)
    srt := C.srt
    fbk := C.fbk
    done := fun t ht v hv => by
      have hne : t ≠ s := fun e => nt (e ▸ ht)
      refine ⟨fun a ha => ?_, (C.done t ht v hv).2⟩
      rw [hd, if_neg fun z => hne z.1]
      exact (C.done t ht v hv).1 a ha
    cur := fun v hv => by
      have e : v = u := Option.some.inj (hv.symm.trans hu)
      subst e
      refine ⟨fun a ha => ?_, (C.cur v hv).2⟩
      rw [hd]
      by_cases c : a = j
      · subst c
        rw [if_pos ⟨rfl, rfl⟩]
        exact new
      · rw [if_neg fun z => c z.2]
        exact (C.cur v hv).1 a (by omega)
    todo := C.todo }

/-- a letter with a child -/
theorem Con2.kid (C : Con2 k ws B mv st fb qu i s j) {u r : List Nat} {bk c : Nat} (hu : ws[s]? = some u) (hr : mv[s]? = some r) (hj : j < k) (hb : LS ws (u ++ [j]).tail bk) (hc : Ch ws s j c) :
    c ∉ qu ∧ Con2 k ws B (mv.set s (r.set j c)) st (fb.set c bk) (qu ++ [c]) i s (j + 1) := by
  have hrl : j < r.length := by rw [(C.row r (at_mem hr)).1]; exact hj
  have hi : i < qu.length := at_lt C.hs
  have nt : s ∉ qu.take i := fun h => by
    obtain ⟨q, hq, e⟩ := mem_take_at.mp h
    have := nd_at C.qnd e C.hs
    omega
  have tk : (qu ++ [c]).take i = qu.take i := List.take_append_of_le_length (Nat.le_of_lt hi)
  have hd := dl_set (mv := mv) (at_lt hr) hr hrl c
  have hcw : ws[c]? = some (u ++ [j]) := by
    obtain ⟨v, e1, e2⟩ := hc
    have e : v = u := Option.some.inj (e1.symm.trans hu)
    exact e ▸ e2
  have hnq : c ∉ qu := fun h => by
    rcases (C.mem c).mp h with h | ⟨t, a, ht, q⟩ | ⟨a, ha, q⟩
    · subst h
      exact Ch.not0 C.tri hc
    · exact nt ((Ch.back C.tri q hc).1 ▸ ht)
    · have := (Ch.back C.tri q hc).2
      omega
  have hcl : c < fb.length := by rw [C.fl]; exact hc.lt.2
  refine ⟨hnq, ?_⟩
  exact {
    tri := C.tri
    sub := C.sub
    ml := by rw [List.length_set]; exact C.ml
    sl := C.sl
    fl := by rw [List.length_set]; exact C.fl
    row := row_set C.row hr hc.lt.2
    qnd := List.nodup_append.mpr ⟨C.qnd, by simp, fun x hx y hy e => hnq (by rw [List.mem_singleton.mp hy] at e; exact e ▸ hx)⟩
    qlt := fun t ht => by
      rcases List.mem_append.mp ht with h | h
      · exact C.qlt t h
      · rw [List.mem_singleton.mp h]
        exact hc.lt.2
    hs := by rw [List.getElem?_append_left hi]; exact C.hs
    q0 := by rw [List.getElem?_append_left (by omega)]; exact C.q0
    mem := fun d => by
      rw [tk, List.mem_append, List.mem_singleton, C.mem d]
      constructor
      · rintro ((h | h | ⟨a, h, q⟩) | rfl)
        · exact .inl h
        · exact .inr (.inl h)
        · exact .inr (.inr ⟨a, by omega, q⟩)
        · exact .inr (.inr ⟨j, by omega, hc⟩)
      · rintro (h | h | ⟨a, h, q⟩)
        · exact .inl (.inl h)
        · exact .inl (.inr (.inl h))
        · rcases Nat.lt_or_ge a j with z | z
          · exact .inl (.inr (.inr ⟨a, z, q⟩))
          · have : a = j := by omega
            subst this
            exact .inr (Ch.uniq C.tri q hc)
    srt := fun p q x y v w hpq hx hy hv hw => by
      rcases at_snoc.mp hy with hy | ⟨hy, rfl⟩
      · rcases at_snoc.mp hx with hx | ⟨hx, _⟩
        · exact C.srt p q x y v w hpq hx hy hv hw
        · have := at_lt hy
          omega
      · have ew : w = u ++ [j] := Option.some.inj (hw.symm.trans hcw)
        rw [ew, List.length_append, List.length_singleton]
        rcases at_snoc.mp hx with hx | ⟨hx, _⟩
        · -- all that stand are at most one longer than u
          have low : ∀ t ∈ qu.take i, ∀ z, ws[t]? = some z → z.length ≤ u.length := fun t ht z hz => by
            obtain ⟨q', hq', e'⟩ := mem_take_at.mp ht
            exact C.srt q' i t s z u hq' e' C.hs hz hu
          rcases (C.mem x).mp (at_mem hx) with h | ⟨t, a, ht, q'⟩ | ⟨a, ha, q'⟩
          · subst h
            have : v = [] := Option.some.inj (hv.symm.trans C.tri.root)
            subst this
            exact Nat.zero_le _
          · obtain ⟨z, e1, e2⟩ := q'
            have : v = z ++ [a] := Option.some.inj (hv.symm.trans e2)
            rw [this, List.length_append, List.length_singleton]
            have := low t ht z e1
            omega
          · obtain ⟨z, e1, e2⟩ := q'
            have e3 : z = u := Option.some.inj (e1.symm.trans hu)
            have : v = z ++ [a] := Option.some.inj (hv.symm.trans e2)
            rw [this, e3, List.length_append, List.length_singleton]
            exact Nat.le_refl _
        · omega
    fbk := fun d hd' v hv => by
      rw [getD_set fb c d bk 0 hcl]
      by_cases e : d = c
      · subst e
        rw [if_pos rfl]
        have : v = u ++ [j] := Option.some.inj (hv.symm.trans hcw)
        subst this
        exact hb
      · rw [if_neg e]
        rcases List.mem_append.mp hd' with h | h
        · exact C.fbk d h v hv
        · exact absurd (List.mem_singleton.mp h) e
    done := fun t ht v hv => by
      rw [tk] at ht
      have hne : t ≠ s := fun e => nt (e ▸ ht)
      refine ⟨fun a ha => ?_, (C.done t ht v hv).2⟩
      rw [hd, if_neg fun z => hne z.1]
      exact (C.done t ht v hv).1 a ha
    cur := fun v hv => by
      have e : v = u := Option.some.inj (hv.symm.trans hu)
      subst e
      refine ⟨fun a ha => ?_, (C.cur v hv).2⟩
      rw [hd]
      by_cases e : a = j
      · subst e
        rw [if_pos ⟨rfl, rfl⟩]
        exact LS.self hcw
      · rw [if_neg fun z => e z.2]
        exact (C.cur v hv).1 a (by omega)
    todo := fun t ht => by
      rw [tk] at ht
      exact C.todo t ht }

/-- all letters are finished -/
theorem Con2.leave (C : Con2 k ws B mv st fb qu i s k) : Con k ws B mv st fb qu (i + 1) := by
  have tk : qu.take (i + 1) = qu.take i ++ [s] := by
    rw [List.take_add_one, C.hs]
    rfl
  exact {
    tri := C.tri
    sub := C.sub
    ml := C.ml
    sl := C.sl
    fl := C.fl
    row := C.row
    qnd := C.qnd
    qlt := C.qlt
    il := at_lt C.hs
    q0 := C.q0
    mem := fun c => by
      rw [C.mem c, tk]
      constructor
      · rintro (h | ⟨t, a, h, q⟩ | ⟨a, h, q⟩)
        · exact .inl h
        · exact .inr ⟨t, a, List.mem_append_left _ h, q⟩
        · exact .inr ⟨s, a, List.mem_append_right _ (List.mem_singleton.mpr rfl), q⟩
      · rintro (h | ⟨t, a, h, q⟩)
        · exact .inl h
        · rcases List.mem_append.mp h with h | h
          · exact .inr (.inl ⟨t, a, h, q⟩)
          · rw [List.mem_singleton.mp h] at q
            exact .inr (.inr ⟨a, q.letter C.tri, q⟩)
    srt := C.srt
    fbk := C.fbk
    done := fun t ht u hu => by
      rw [tk] at ht
      rcases List.mem_append.mp ht with h | h
      · exact C.done t h u hu
      · rw [List.mem_singleton.mp h] at hu ⊢
        exact C.cur u hu
    todo := fun t ht u hu => by
      rw [tk] at ht
      exact C.todo t (fun h => ht (List.mem_append_left _ h)) (fun e => ht (List.mem_append_right _ (List.mem_singleton.mpr e))) u hu }

theorem Con.len (C : Con k ws B mv st fb qu i) : qu.length ≤ ws.length := len_of_nd _ _ C.qnd C.qlt
theorem Con2.len (C : Con2 k ws B mv st fb qu i s j) : qu.length ≤ ws.length := len_of_nd _ _ C.qnd C.qlt

/-- the whole queue is finished: the machine is right -/
theorem Con.mach (C : Con k ws B mv st fb qu qu.length) : Mach k ws.length mv st B := by
  have tk : qu.take qu.length = qu := List.take_length
  have all : ∀ (n : Nat) (v : List Nat) (t : Nat), v.length = n → ws[t]? = some v → t ∈ qu := by
    intro n
    induction n with
    | zero =>
      intro v t hv ht
      have e : v = [] := List.eq_nil_of_length_eq_zero hv
      subst e
      exact (C.mem t).mpr (.inl (nd_at C.tri.nd ht C.tri.root))
    | succ n ih =>
      intro v t hv ht
      rcases List.eq_nil_or_concat v with rfl | ⟨y, b, rfl⟩
      · simp at hv
      · rw [List.concat_eq_append] at hv ht
        rw [List.length_append, List.length_singleton] at hv
        obtain ⟨t', ht'⟩ := mem_at (C.tri.pre y b (at_mem ht))
        exact (C.mem t).mpr (.inr ⟨t', b, by rw [tk]; exact ih y t' (by omega) ht', y, ht', ht⟩)
  have fin : ∀ t v, ws[t]? = some v → (∀ a, a < k → LS ws (v ++ [a]) (dl mv t a)) ∧ (K61.stop st t = true ↔ ∃ x, Suf x v ∧ B x) := fun t v ht =>
    C.done t (by rw [tk]; exact all v.length v t rfl ht) v ht
  have run : ∀ (n : Nat) (w : List Nat), w.length = n → Over k w → LS ws w (runs mv 0 w) := by
    intro n
    induction n with
    | zero =>
      intro w hw _
      have e : w = [] := List.eq_nil_of_length_eq_zero hw
      subst e
      exact LS.zero C.tri
    | succ n ih =>
      intro w hw ho
      rcases List.eq_nil_or_concat w with rfl | ⟨y, b, rfl⟩
      · simp at hw
      · rw [List.concat_eq_append] at hw ho ⊢
        rw [List.length_append, List.length_singleton] at hw
        have h1 := ih y (by omega) fun a ha => ho a (List.mem_append_left _ ha)
        have hb : b < k := ho b (List.mem_append_right _ (List.mem_singleton.mpr rfl))
        obtain ⟨v, e, f, g⟩ := id h1
        rw [runs_snoc]
        exact (LS.step C.tri h1 e).mp ((fin _ v e).1 b hb)
  exact {
    pos := at_lt C.tri.root
    ml := C.ml
    sl := C.sl
    row := C.row
    acc := fun w ho => by
      have h1 := run w.length w rfl ho
      obtain ⟨v, e, f, g⟩ := h1
      rw [(fin _ v e).2]
      constructor
      · rintro ⟨x, hx, b⟩
        exact ⟨x, hx.trans f, b⟩
      · rintro ⟨x, hx, b⟩
        exact ⟨x, hx.both f (g x (C.sub x b) hx), b⟩ }
end
end K61

namespace K61

/-! ## the steps of a state -/
def stp (st : List Bool) : Nat → List Nat → List (Nat × Nat)
  | _, [] => []
  | l, c :: r => if stop st c = true then stp st (l + 1) r else (l, c) :: stp st (l + 1) r
def steps (mv : List (List Nat)) (st : List Bool) (s : Nat) : List (Nat × Nat) := stp st 0 (mv.getD s [])

theorem stp_snoc (st : List Bool) (c : Nat) : ∀ (r : List Nat) (l : Nat), stp st l (r ++ [c]) = stp st l r ++ if stop st c = true then [] else [(l + r.length, c)]
  | [], l => by
    show (if stop st c = true then [] else [(l, c)]) = [] ++ _
    rw [List.nil_append]
    rfl
  | d :: r, l => by
    have ih := stp_snoc st c r (l + 1)
    have e : l + 1 + r.length = l + (d :: r).length := by
      rw [List.length_cons]
      omega
    rw [e] at ih
    show (if stop st d = true then stp st (l + 1) (r ++ [c]) else (l, d) :: stp st (l + 1) (r ++ [c])) = (if stop st d = true then stp st (l + 1) r else (l, d) :: stp st (l + 1) r) ++ _
    rw [ih]
    by_cases h : stop st d = true
    · rw [if_pos h, if_pos h]
    · rw [if_neg h, if_neg h]
      rfl
theorem stp_len (st : List Bool) : ∀ (r : List Nat) (l : Nat), (stp st l r).length ≤ r.length
  | [], _ => Nat.le_refl _
  | d :: r, l => by
    have ih := stp_len st r (l + 1)
    show (if stop st d = true then stp st (l + 1) r else (l, d) :: stp st (l + 1) r).length ≤ r.length + 1
    by_cases h : stop st d = true
    · rw [if_pos h]
      omega
    · rw [if_neg h, List.length_cons]
      omega
theorem stp_mem (st : List Bool) {a c : Nat} : ∀ {r : List Nat} {l : Nat}, (a, c) ∈ stp st l r ↔ stop st c = false ∧ ∃ i, r[i]? = some c ∧ a = l + i
  | [], l => by
    constructor
    · intro h
      exact absurd h (by show (a, c) ∉ []; simp)
    · rintro ⟨_, i, h, _⟩
      simp at h
  | d :: r, l => by
    have ih := stp_mem st (a := a) (c := c) (r := r) (l := l + 1)
    show (a, c) ∈ (if stop st d = true then stp st (l + 1) r else (l, d) :: stp st (l + 1) r) ↔ _
    constructor
    · intro h
      by_cases hd : stop st d = true
      · rw [if_pos hd] at h
        obtain ⟨h1, i, h2, h3⟩ := ih.mp h
        exact ⟨h1, i + 1, by rw [List.getElem?_cons_succ]; exact h2, by omega⟩
      · rw [if_neg hd] at h
        rcases List.mem_cons.mp h with h | h
        · injection h with e1 e2
          subst e1
          subst e2
          exact ⟨Bool.eq_false_iff.mpr hd, 0, rfl, rfl⟩
        · obtain ⟨h1, i, h2, h3⟩ := ih.mp h
          exact ⟨h1, i + 1, by rw [List.getElem?_cons_succ]; exact h2, by omega⟩
    · rintro ⟨h1, i, h2, h3⟩
      cases i with
      | zero =>
        have e : d = c := Option.some.inj h2
        subst e
        rw [if_neg (by rw [h1]; exact Bool.false_ne_true)]
        have : a = l := by omega
        rw [this]
        exact List.mem_cons_self
      | succ i =>
        rw [List.getElem?_cons_succ] at h2
        have q := ih.mpr ⟨h1, i, h2, by omega⟩
        by_cases hd : stop st d = true
        · rw [if_pos hd]
          exact q
        · rw [if_neg hd]
          exact List.mem_cons_of_mem _ q

section
variable {k n : Nat} {mv : List (List Nat)} {st : List Bool} {B : List Nat → Prop}
theorem Mach.rowAt (M : Mach k n mv st B) {s : Nat} (h : s < n) : ∃ r, mv[s]? = some r ∧ r.length = k ∧ (∀ c ∈ r, c < n) ∧ mv.getD s [] = r := by
  obtain ⟨r, hr⟩ := at_some (l := mv) (i := s) (by rw [M.ml]; exact h)
  obtain ⟨h1, h2⟩ := M.row r (at_mem hr)
  exact ⟨r, hr, h1, h2, getD_at hr⟩
theorem Mach.dl_lt (M : Mach k n mv st B) {s a : Nat} (h : s < n) (ha : a < k) : dl mv s a < n := by
  obtain ⟨r, hr, h1, h2, e⟩ := M.rowAt h
  unfold dl
  rw [e]
  exact h2 _ (at_mem (at_getD 0 (by rw [h1]; exact ha)))
theorem Mach.mem (M : Mach k n mv st B) {s : Nat} (h : s < n) {a c : Nat} : (a, c) ∈ steps mv st s ↔ a < k ∧ c = dl mv s a ∧ stop st c = false := by
  obtain ⟨r, hr, h1, h2, e⟩ := M.rowAt h
  unfold steps dl
  rw [stp_mem, e]
  constructor
  · rintro ⟨q1, i, q2, q3⟩
    have : a = i := by omega
    subst this
    exact ⟨by rw [← h1]; exact at_lt q2, (getD_at q2).symm, q1⟩
  · rintro ⟨q1, q2, q3⟩
    exact ⟨q3, a, by rw [q2]; exact at_getD 0 (by rw [h1]; exact q1), by omega⟩
theorem Mach.later (M : Mach k n mv st B) {s : Nat} (h : s < n) {e : Nat × Nat} (he : e ∈ steps mv st s) : e.2 < n := by
  obtain ⟨a, c⟩ := e
  obtain ⟨q1, q2, _⟩ := (M.mem h).mp he
  show c < n
  rw [q2]
  exact M.dl_lt h q1
theorem Mach.few (M : Mach k n mv st B) {s : Nat} (h : s < n) : (steps mv st s).length ≤ k := by
  obtain ⟨r, hr, h1, h2, e⟩ := M.rowAt h
  unfold steps
  rw [e, ← h1]
  exact stp_len st r 0

/-! ## paths -/
def pth (mv : List (List Nat)) (st : List Bool) : Nat → Nat → Nat
  | 0, _ => 1
  | m + 1, s => ((steps mv st s).map fun e => pth mv st m e.2).sum

theorem stp_sum (st : List Bool) (g : Nat → Nat) (r : List Nat) : ∀ m, m ≤ r.length →
    ((stp st 0 (r.take m)).map fun e => g e.2).sum = sm m fun a => if stop st (r.getD a 0) = true then 0 else g (r.getD a 0)
  | 0, _ => rfl
  | m + 1, h => by
    have ih := stp_sum st g r m (by omega)
    have hm : r[m]? = some (r.getD m 0) := at_getD 0 (by omega)
    have e : r.take (m + 1) = r.take m ++ [r.getD m 0] := by
      rw [List.take_add_one, hm]
      rfl
    rw [e, stp_snoc, List.map_append, List.sum_append, ih]
    show sm m _ + _ = sm m _ + (if stop st (r.getD m 0) = true then 0 else g (r.getD m 0))
    congr 1
    by_cases c : stop st (r.getD m 0) = true
    · rw [if_pos c, if_pos c]
      rfl
    · rw [if_neg c, if_neg c]
      show g (r.getD m 0) + 0 = _
      rw [Nat.add_zero]
theorem Mach.pth_succ (M : Mach k n mv st B) {s m : Nat} (h : s < n) : pth mv st (m + 1) s = sm k fun a => if stop st (dl mv s a) = true then 0 else pth mv st m (dl mv s a) := by
  obtain ⟨r, hr, h1, h2, e⟩ := M.rowAt h
  show ((steps mv st s).map fun e => pth mv st m e.2).sum = _
  unfold steps dl
  rw [e]
  have q := stp_sum st (pth mv st m) r r.length (Nat.le_refl _)
  rw [List.take_length, h1] at q
  exact q

/-- no stop on the way of w from s -/
def okF (mv : List (List Nat)) (st : List Bool) (s : Nat) (w : List Nat) : Prop := ∀ u v, w = u ++ v → u ≠ [] → stop st (runs mv s u) = false
theorem okF_cons {s a : Nat} {w : List Nat} : okF mv st s (a :: w) ↔ stop st (dl mv s a) = false ∧ okF mv st (dl mv s a) w := by
  constructor
  · intro h
    refine ⟨h [a] w rfl (by simp), fun u v e hu => h (a :: u) v (by rw [e]; rfl) (by simp)⟩
  · rintro ⟨h1, h2⟩ u v e hu
    cases u with
    | nil => exact absurd rfl hu
    | cons b u =>
      rw [List.cons_append] at e
      obtain ⟨e1, e2⟩ := List.cons.inj e
      subst e1
      show stop st (runs mv (dl mv s a) u) = false
      by_cases c : u = []
      · subst c
        exact h1
      · exact h2 u v e2 c
theorem Mach.pth_cnt (M : Mach k n mv st B) : ∀ (m s : Nat), s < n → pth mv st m s = cnt k m (okF mv st s)
  | 0, s, _ => by
    have c : okF mv st s [] := fun u v e hu => absurd (List.append_eq_nil_iff.mp e.symm).1 hu
    exact (cnt_zero_yes c).symm
  | m + 1, s, h => by
    rw [M.pth_succ h]
    show _ = sm k fun a => cnt k m fun w => okF mv st s (a :: w)
    refine sm_congr fun a ha => ?_
    by_cases c : stop st (dl mv s a) = true
    · rw [if_pos c]
      have e : cnt k m (fun w => okF mv st s (a :: w)) ≤ cnt k m (fun _ => False) := cnt_le (Nat.le_refl _) fun w _ _ hp => by
        have := (okF_cons.mp hp).1
        rw [c] at this
        cases this
      have z : ∀ n, cnt k n (fun _ => False) = 0 := by
        intro n
        induction n with
        | zero => exact cnt_zero_no fun x => x
        | succ n ih =>
          show sm k (fun _ => cnt k n fun _ => False) = 0
          rw [ih]
          exact sm_zero k
      rw [z] at e
      omega
    · rw [if_neg c, M.pth_cnt m _ (M.dl_lt h ha)]
      exact cnt_congr fun w _ _ => by
        rw [okF_cons]
        exact ⟨fun z => ⟨Bool.eq_false_iff.mpr c, z⟩, fun z => z.2⟩
theorem Mach.pth_num (M : Mach k n mv st B) (hB : ¬ B []) (m : Nat) : pth mv st m 0 = num k B m := by
  rw [M.pth_cnt m 0 M.pos]
  refine cnt_congr fun w _ ho => ?_
  constructor
  · intro h u v x e b
    have hu : u ++ v ≠ [] := fun z => hB ((List.append_eq_nil_iff.mp z).2 ▸ b)
    have q := h (u ++ v) x e hu
    have o : Over k (u ++ v) := fun a ha => ho a (by rw [e]; exact List.mem_append_left _ ha)
    have := (M.acc (u ++ v) o).mpr ⟨v, ⟨u, rfl⟩, b⟩
    rw [q] at this
    cases this
  · intro h u v e hu
    have o : Over k u := fun a ha => ho a (by rw [e]; exact List.mem_append_left _ ha)
    cases c : stop st (runs mv 0 u) with
    | false => rfl
    | true =>
      obtain ⟨x, ⟨y, hy⟩, b⟩ := (M.acc u o).mp c
      exact absurd b (h y x v (by rw [e, hy]))

/-! ## the longest ways -/
/-- kn: the states from which no way is endless, hv: the greatest lengths; R: closed under steps -/
structure Hts (mv : List (List Nat)) (st : List Bool) (R kn : List Nat) (hv : Nat → Nat) : Prop where
  zero : 0 ∈ R
  shut : ∀ s ∈ R, ∀ e ∈ steps mv st s, e.2 ∈ R
  sub : ∀ s ∈ kn, s ∈ R
  low : ∀ s ∈ kn, ∀ e ∈ steps mv st s, e.2 ∈ kn ∧ hv e.2 + 1 ≤ hv s
  met : ∀ s ∈ kn, hv s = 0 ∨ ∃ e ∈ steps mv st s, hv e.2 + 1 = hv s
  rest : ∀ s ∈ R, s ∉ kn → ∃ e ∈ steps mv st s, e.2 ∉ kn

theorem sum_ne_zero {l : List Nat} : l.sum ≠ 0 ↔ ∃ x ∈ l, x ≠ 0 := by
  induction l with
  | nil =>
    constructor
    · intro h; exact absurd rfl h
    · rintro ⟨x, h, _⟩; cases h
  | cons a l ih =>
    rw [List.sum_cons]
    constructor
    · intro h
      by_cases c : a = 0
      · obtain ⟨x, hx, q⟩ := ih.mp (by omega)
        exact ⟨x, List.mem_cons_of_mem _ hx, q⟩
      · exact ⟨a, List.mem_cons_self, c⟩
    · rintro ⟨x, hx, q⟩
      rcases List.mem_cons.mp hx with e | hx
      · subst e; omega
      · have := ih.mpr ⟨x, hx, q⟩
        omega
theorem pth_ne {m s : Nat} : pth mv st (m + 1) s ≠ 0 ↔ ∃ e ∈ steps mv st s, pth mv st m e.2 ≠ 0 := by
  show ((steps mv st s).map fun e => pth mv st m e.2).sum ≠ 0 ↔ _
  rw [sum_ne_zero]
  constructor
  · rintro ⟨x, hx, q⟩
    obtain ⟨e, he, rfl⟩ := List.mem_map.mp hx
    exact ⟨e, he, q⟩
  · rintro ⟨e, he, q⟩
    exact ⟨_, List.mem_map.mpr ⟨e, he, rfl⟩, q⟩

theorem Hts.top {R kn : List Nat} {hv : Nat → Nat} (H : Hts mv st R kn hv) : ∀ (h s : Nat), s ∈ kn → hv s = h → pth mv st h s ≠ 0
  | 0, s, _, _ => by show (1 : Nat) ≠ 0; decide
  | h + 1, s, hs, e => by
    rcases H.met s hs with z | ⟨x, hx, q⟩
    · omega
    · exact pth_ne.mpr ⟨x, hx, H.top h x.2 (H.low s hs x hx).1 (by omega)⟩
theorem Hts.over {R kn : List Nat} {hv : Nat → Nat} (H : Hts mv st R kn hv) : ∀ (m s : Nat), s ∈ kn → hv s < m → pth mv st m s = 0
  | 0, _, _, h => absurd h (Nat.not_lt_zero _)
  | m + 1, s, hs, h => by
    rcases Nat.eq_zero_or_pos (pth mv st (m + 1) s) with c | c
    · exact c
    · exfalso
      obtain ⟨x, hx, q⟩ := pth_ne.mp (Nat.ne_of_gt c)
      obtain ⟨a, b⟩ := H.low s hs x hx
      exact q (H.over m x.2 a (by omega))
theorem Hts.never {R kn : List Nat} {hv : Nat → Nat} (H : Hts mv st R kn hv) : ∀ (m s : Nat), s ∈ R → s ∉ kn → pth mv st m s ≠ 0
  | 0, s, _, _ => by show (1 : Nat) ≠ 0; decide
  | m + 1, s, hs, hn => by
    obtain ⟨e, he, q⟩ := H.rest s hs hn
    exact pth_ne.mpr ⟨e, he, H.never m e.2 (H.shut s hs e he) q⟩
theorem Hts.told (M : Mach k n mv st B) (hB : ¬ B []) {R kn : List Nat} {hv : Nat → Nat} (H : Hts mv st R kn hv) :
    (0 ∈ kn → Told k B (some (hv 0))) ∧ (0 ∉ kn → Told k B none) := by
  refine ⟨fun h => ⟨?_, ?_⟩, fun h m => ?_⟩
  · rw [← M.pth_num hB]
    exact H.top _ 0 h rfl
  · rw [← M.pth_num hB]
    exact H.over _ 0 h (Nat.lt_succ_self _)
  · rw [← M.pth_num hB]
    exact H.never m 0 H.zero h

/-! ### the loop that finds them -/
/-- the number of steps of s whose later state is not in l; .. is t -/
def deg (mv : List (List Nat)) (st : List Bool) (l : List Nat) (s : Nat) : Nat := (steps mv st s).countP fun e => decide (e.2 ∉ l)
def hits (mv : List (List Nat)) (st : List Bool) (t s : Nat) : Nat := (steps mv st s).countP fun e => decide (e.2 = t)
theorem countP_split (l : List Nat) (t : Nat) (ht : t ∉ l) : ∀ es : List (Nat × Nat),
    (es.countP fun e => decide (e.2 ∉ l ++ [t])) + (es.countP fun e => decide (e.2 = t)) = es.countP fun e => decide (e.2 ∉ l)
  | [] => rfl
  | e :: es => by
    have ih := countP_split l t ht es
    rw [List.countP_cons, List.countP_cons, List.countP_cons]
    by_cases c : e.2 = t
    · have h1 : ¬ (e.2 ∉ l ++ [t]) := fun z => z (List.mem_append_right _ (List.mem_singleton.mpr c))
      have h2 : e.2 ∉ l := fun z => ht (c ▸ z)
      rw [decide_eq_false h1, decide_eq_true c, decide_eq_true h2]
      simp only [if_true, Bool.false_eq_true, if_false]
      omega
    · by_cases d : e.2 ∈ l
      · have h1 : ¬ (e.2 ∉ l ++ [t]) := fun z => z (List.mem_append_left _ d)
        have h2 : ¬ (e.2 ∉ l) := fun z => z d
        rw [decide_eq_false h1, decide_eq_false c, decide_eq_false h2]
        simp only [Bool.false_eq_true, if_false]
        omega
      · have h1 : e.2 ∉ l ++ [t] := fun z => by
          rcases List.mem_append.mp z with z | z
          · exact d z
          · exact c (List.mem_singleton.mp z)
        rw [decide_eq_true h1, decide_eq_false c, decide_eq_true d]
        simp only [if_true, Bool.false_eq_true, if_false]
        omega
theorem deg_split {l : List Nat} {t : Nat} (ht : t ∉ l) (s : Nat) : deg mv st (l ++ [t]) s + hits mv st t s = deg mv st l s := countP_split l t ht _
theorem deg_zero {l : List Nat} {s : Nat} : deg mv st l s = 0 ↔ ∀ e ∈ steps mv st s, e.2 ∈ l := by
  unfold deg
  rw [List.countP_eq_zero]
  constructor
  · intro h e he
    have := h e he
    simpa using this
  · intro h e he
    simpa using h e he

structure HL (mv : List (List Nat)) (st : List Bool) (R qu : List Nat) (i : Nat) (ms : Nat → Int) (hv : Nat → Nat) : Prop where
  qnd : qu.Nodup
  sub : ∀ s ∈ qu, s ∈ R
  il : i ≤ qu.length
  mis : ∀ s ∈ R, ms s = (deg mv st (qu.take i) s : Nat)
  inq : ∀ s ∈ R, s ∈ qu ↔ ms s = 0
  low : ∀ s ∈ qu.take i, ∀ e ∈ steps mv st s, e.2 ∈ qu.take i ∧ hv e.2 + 1 ≤ hv s
  met : ∀ s ∈ qu.take i, hv s = 0 ∨ ∃ e ∈ steps mv st s, hv e.2 + 1 = hv s
/-- within: t = qu[i], its list bs of earlier states is taken up to j -/
structure HL2 (mv : List (List Nat)) (st : List Bool) (R qu : List Nat) (i t : Nat) (bs : List Nat) (j : Nat) (ms : Nat → Int) (hv : Nat → Nat) : Prop where
  qnd : qu.Nodup
  sub : ∀ s ∈ qu, s ∈ R
  ht : qu[i]? = some t
  cb : ∀ s ∈ R, bs.count s = hits mv st t s
  bR : ∀ s ∈ bs, s ∈ R
  mis : ∀ s ∈ R, ms s = (deg mv st (qu.take i) s : Nat) - ((bs.take j).count s : Nat)
  inq : ∀ s ∈ R, s ∈ qu ↔ ms s = 0
  low : ∀ s ∈ qu.take (i + 1), ∀ e ∈ steps mv st s, e.2 ∈ qu.take i ∧ hv e.2 + 1 ≤ hv s
  met : ∀ s ∈ qu.take (i + 1), hv s = 0 ∨ ∃ e ∈ steps mv st s, hv e.2 + 1 = hv s

variable {R qu bs : List Nat} {i j t : Nat} {ms : Nat → Int} {hv : Nat → Nat}
theorem HL.here (L : HL mv st R qu i ms hv) (ht : qu[i]? = some t) : ∀ e ∈ steps mv st t, e.2 ∈ qu.take i := by
  have h1 := (L.inq t (L.sub t (at_mem ht))).mp (at_mem ht)
  rw [L.mis t (L.sub t (at_mem ht))] at h1
  exact deg_zero.mp (by omega)
theorem nd_not_take {l : List Nat} (h : l.Nodup) (ht : l[i]? = some t) : t ∉ l.take i := fun z => by
  obtain ⟨q, hq, e⟩ := mem_take_at.mp z
  have := nd_at h e ht
  omega
theorem take_succ_at {α : Type} {l : List α} {i : Nat} {t : α} (ht : l[i]? = some t) : l.take (i + 1) = l.take i ++ [t] := by
  rw [List.take_add_one, ht]
  rfl
/-- found[t] = h is stored -/
theorem HL.enter (L : HL mv st R qu i ms hv) (ht : qu[i]? = some t) (hbs : ∀ s ∈ R, bs.count s = hits mv st t s) (hbR : ∀ s ∈ bs, s ∈ R) {h : Nat} (h1 : ∀ e ∈ steps mv st t, hv e.2 + 1 ≤ h) (h2 : h = 0 ∨ ∃ e ∈ steps mv st t, hv e.2 + 1 = h) :
    HL2 mv st R qu i t bs 0 ms (fun s => if s = t then h else hv s) := by
  have nt := nd_not_take L.qnd ht
  have tk := take_succ_at ht
  have other : ∀ s ∈ qu.take i, (if s = t then h else hv s) = hv s := fun s hs => if_neg fun (e : s = t) => nt (e ▸ hs)
  have here := L.here ht
  exact {
    qnd := L.qnd
    sub := L.sub
    ht := ht
    cb := hbs
    bR := hbR
    mis := fun s hs => by rw [L.mis s hs]; simp
    inq := L.inq
    low := fun s hs e he => by
      rw [tk] at hs
      rcases List.mem_append.mp hs with q | q
      · obtain ⟨a, b⟩ := L.low s q e he
        refine ⟨a, ?_⟩
        show (if e.2 = t then h else hv e.2) + 1 ≤ (if s = t then h else hv s)
        rw [other s q, other e.2 a]
        exact b
      · have es := List.mem_singleton.mp q
        subst es
        refine ⟨here e he, ?_⟩
        show (if e.2 = s then h else hv e.2) + 1 ≤ (if s = s then h else hv s)
        rw [if_pos rfl, other e.2 (here e he)]
        exact h1 e he
    met := fun s hs => by
      rw [tk] at hs
      show (if s = t then h else hv s) = 0 ∨ ∃ e ∈ steps mv st s, (if e.2 = t then h else hv e.2) + 1 = (if s = t then h else hv s)
      rcases List.mem_append.mp hs with q | q
      · rw [other s q]
        rcases L.met s q with z | ⟨e, he, z⟩
        · exact .inl z
        · exact .inr ⟨e, he, by rw [other e.2 (L.low s q e he).1]; exact z⟩
      · have es := List.mem_singleton.mp q
        subst es
        rw [if_pos rfl]
        rcases h2 with z | ⟨e, he, z⟩
        · exact .inl z
        · exact .inr ⟨e, he, by rw [other e.2 (here e he)]; exact z⟩ }
theorem HL2.room (L : HL2 mv st R qu i t bs j ms hv) {b : Nat} (hb : bs[j]? = some b) : 1 ≤ ms b := by
  have hR := L.bR b (at_mem hb)
  rw [L.mis b hR]
  have h1 := L.cb b hR
  have nt := nd_not_take L.qnd L.ht
  have h2 := deg_split (mv := mv) (st := st) nt b
  have h3 : (bs.take (j + 1)).count b ≤ bs.count b := (List.take_sublist _ _).count_le b
  rw [take_succ_at hb, List.count_append] at h3
  have h4 : [b].count b = 1 := by simp
  omega
/-- missing[b] -= 1 -/
theorem HL2.turn (L : HL2 mv st R qu i t bs j ms hv) {b : Nat} (hb : bs[j]? = some b) :
    (ms b - 1 = 0 → b ∉ qu ∧ HL2 mv st R (qu ++ [b]) i t bs (j + 1) (fun s => if s = b then ms b - 1 else ms s) hv) ∧
    (ms b - 1 ≠ 0 → HL2 mv st R qu i t bs (j + 1) (fun s => if s = b then ms b - 1 else ms s) hv) := by
  have hR := L.bR b (at_mem hb)
  have room := L.room hb
  have hnb : b ∉ qu := fun z => by
    have := (L.inq b hR).mp z
    omega
  have cnt1 : ∀ s, ((bs.take (j + 1)).count s : Nat) = (bs.take j).count s + if s = b then 1 else 0 := fun s => by
    rw [take_succ_at hb, List.count_append]
    by_cases c : s = b
    · subst c
      rw [if_pos rfl]
      simp
    · rw [if_neg c]
      have : [b].count s = 0 := by
        rw [List.count_eq_zero]
        simp [c]
      rw [this]
  have hms : ∀ q : List Nat, q.take i = qu.take i → ∀ s ∈ R, (if s = b then ms b - 1 else ms s) = (deg mv st (q.take i) s : Nat) - ((bs.take (j + 1)).count s : Nat) := fun q eq s hs => by
    rw [cnt1 s, eq]
    by_cases c : s = b
    · subst c
      rw [if_pos rfl, if_pos rfl, L.mis s hs]
      omega
    · rw [if_neg c, if_neg c, L.mis s hs]
      omega
  constructor
  · intro z
    have hi : i < qu.length := at_lt L.ht
    have tk : (qu ++ [b]).take i = qu.take i := List.take_append_of_le_length (Nat.le_of_lt hi)
    have tk1 : (qu ++ [b]).take (i + 1) = qu.take (i + 1) := List.take_append_of_le_length hi
    exact ⟨hnb, {
      qnd := List.nodup_append.mpr ⟨L.qnd, by simp, fun x hx y hy e => hnb (by rw [List.mem_singleton.mp hy] at e; exact e ▸ hx)⟩
      sub := fun s hs => by
        rcases List.mem_append.mp hs with h | h
        · exact L.sub s h
        · exact (List.mem_singleton.mp h) ▸ hR
      ht := by rw [List.getElem?_append_left hi]; exact L.ht
      cb := L.cb
      bR := L.bR
      mis := hms _ tk
      inq := fun s hs => by
        rw [List.mem_append, List.mem_singleton]
        by_cases c : s = b
        · subst c
          rw [if_pos rfl]
          exact ⟨fun _ => z, fun _ => .inr rfl⟩
        · rw [if_neg c, ← L.inq s hs]
          exact ⟨fun q => q.resolve_right c, .inl⟩
      low := by rw [tk1, tk]; exact L.low
      met := by rw [tk1]; exact L.met }⟩
  · intro z
    exact {
      qnd := L.qnd
      sub := L.sub
      ht := L.ht
      cb := L.cb
      bR := L.bR
      mis := hms _ rfl
      inq := fun s hs => by
        by_cases c : s = b
        · subst c
          rw [if_pos rfl]
          exact ⟨fun q => absurd q hnb, fun q => absurd q z⟩
        · rw [if_neg c]
          exact L.inq s hs
      low := L.low
      met := L.met }
theorem HL2.leave (L : HL2 mv st R qu i t bs bs.length ms hv) : HL mv st R qu (i + 1) ms hv := by
  have nt := nd_not_take L.qnd L.ht
  have tk := take_succ_at L.ht
  exact {
    qnd := L.qnd
    sub := L.sub
    il := at_lt L.ht
    mis := fun s hs => by
      rw [L.mis s hs, List.take_length, L.cb s hs, tk]
      have := deg_split (mv := mv) (st := st) nt s
      omega
    inq := L.inq
    low := fun s hs e he => by
      obtain ⟨a, b⟩ := L.low s hs e he
      exact ⟨by rw [tk]; exact List.mem_append_left _ a, b⟩
    met := L.met }
theorem HL.hts (L : HL mv st R qu qu.length ms hv) (zero : 0 ∈ R) (shut : ∀ s ∈ R, ∀ e ∈ steps mv st s, e.2 ∈ R) : Hts mv st R qu hv := by
  have tk : qu.take qu.length = qu := List.take_length
  exact {
    zero := zero
    shut := shut
    sub := L.sub
    low := fun s hs e he => by
      have := L.low s (by rw [tk]; exact hs) e he
      rw [tk] at this
      exact this
    met := fun s hs => L.met s (by rw [tk]; exact hs)
    rest := fun s hs hn => by
      have h1 : ms s ≠ 0 := fun z => hn ((L.inq s hs).mpr z)
      rw [L.mis s hs, tk] at h1
      have h2 : ¬ ∀ e ∈ steps mv st s, e.2 ∈ qu := fun z => h1 (by rw [deg_zero.mpr z]; rfl)
      by_cases c : ∃ e ∈ steps mv st s, e.2 ∉ qu
      · exact c
      · exfalso
        refine h2 fun e he => ?_
        by_cases d : e.2 ∈ qu
        · exact d
        · exact absurd ⟨e, he, d⟩ c }
end
end K61

namespace K61
open PySem PySem.Spec PyProof.Rows L2

/-! ### t += u -/
theorem tup_no_iadd : typeLookup (.type "tuple") (dunderI "add") = pure none := am_miss_of_fast (by decide +kernel)
section
variable {prog : Program} {w : World} {A : Around} {E : Value → Shared → Prop} {s : Shared}
theorem icat_tup {t b : Addr} {vs ws : List Value} {Q : Value → Shared → Prop} (ht : IsTup s.heap t vs.toArray) (hb : IsTup s.heap b ws.toArray)
    (h0 : vs = [] → Q (.ref b) s) (h1 : vs ≠ [] → ws = [] → Q (.ref t) s)
    (h2 : vs ≠ [] → ws ≠ [] → Q (.ref s.heap.objs.size) { s with heap := s.heap.push { cls := .type "tuple", data := .seq (vs ++ ws).toArray } })
    (hz : vs.length + ws.length ≤ sizeLine) : wpAny (model prog w) A (inplaceOp .Add (.ref t) (.ref b)) Q E s := by
  obtain ⟨⟨c1, d1, x1, s1⟩, o1, e1, n1, f1⟩ := id ht
  obtain ⟨⟨c2, d2, x2, s2⟩, o2, e2, n2, f2⟩ := id hb
  simp only at e1 f1 e2 f2
  subst e1 f1 e2 f2
  refine wpAny_inplaceOp_concat ⟨_, o1, rfl⟩ ⟨_, o2, rfl⟩ tup_no_iadd noFill_tuple_add seq_tuple_add ?_
  by_cases hv : vs = []
  · subst hv
    exact call_meets PySem.F.slot_tuple_add ⟨_, o1, rfl⟩ PySem.F.entry_tuple_add (PySem.F.args_tuple_add_2 _ _)
      (tuple_addW0 t b ([] : List Value).toArray ws.toArray n1 n2 d1 d2 s1 s2 (by simp)) ⟨o1, o2, h0 rfl⟩
  · by_cases hw : ws = []
    · exact call_meets PySem.F.slot_tuple_add ⟨_, o1, rfl⟩ PySem.F.entry_tuple_add (PySem.F.args_tuple_add_2 _ _)
        (tuple_addW1 t b vs.toArray ws.toArray n1 n2 d1 d2 s1 s2 (by simpa using hv) (by simp [hw])) ⟨o1, o2, h1 hv hw⟩
    · refine call_meets PySem.F.slot_tuple_add ⟨_, o1, rfl⟩ PySem.F.entry_tuple_add (PySem.F.args_tuple_add_2 _ _)
        (tuple_addW2 t b vs.toArray ws.toArray n1 n2 d1 d2 s1 s2 (by simpa using hv) (by simpa using hw) (by rw [List.size_toArray, List.size_toArray]; exact hz)) ⟨o1, o2, ?_⟩
      rw [show vs.toArray ++ ws.toArray = (vs ++ ws).toArray by simp]
      exact h2 hv hw

/-! ### xs.extend(t), t a tuple -/
theorem ext_tup (l : Addr) (items : Array Value) (n : Nat) (b : Addr) (items2 : Array Value) (n2 : Nat) (d2 : Option Addr) (s2 : Array (Option Value))
    (h0 : ¬ (!items.isEmpty && Builtin.List.listTooLong (items.size + items2.size)) = true) (h1 : items.size ≤ sizeLine) (h2 : items.size + items2.size ≤ sizeLine + 1) :
    Meets (Builtin.«list.extend» ⟨[.ref l, .ref b], []⟩) (fun _ R s => s.heap.get? l = some { cls := .type "list", dict := none, data := .seq items n, slots := #[] } ∧
      s.heap.get? b = some { cls := .type "tuple", dict := d2, data := .seq items2 n2, slots := s2 } ∧ R (.ok (.ret Value.none)) { s with heap := s.heap.update l (Obj.mapSeq fun x => x ++ items2), toks := s.toks }) :=
  .of_wp fun prog w A R s h => by
    obtain ⟨hp, g, d, tk, os⟩ := s
    obtain ⟨hl, hb, h⟩ := h
    have q1 := AutoSeq1.idx_int
    have q2 := AutoSeq1.sub_tuple_tuple
    have q3 := AutoSeq1.sub_list_list
    have q4 := AutoSeq1.sub_tuple_list
    have q5 := AutoSeq1.sub_list_tuple
    have hz : (items ++ items2).size ≤ sizeLine + 1 := by rw [Array.size_append]; exact h2
    wp_walk using (wpAny_updateSeq hl rfl (hz := h1) (_hz' := hz)), wpAny_loadPart' hl, wpAny_loadPart' hb
    exact ⟨_, rfl, h⟩
end
section
variable {X : Cx}
def rICatA (K : PySem.W.Frag) : R2 := fun x y H Q => ∃ a b xs ys, x = .ref a ∧ y = .ref b ∧ SqT K H a xs ∧ SqT K H b ys ∧ xs.length + ys.length ≤ sizeLine ∧
  (xs = [] → Q (.ref b) H) ∧ (xs ≠ [] → ys = [] → Q (.ref a) H) ∧ (xs ≠ [] → ys ≠ [] → ∀ p, H p = none → Q (.ref p) (upd H p (.tup (xs ++ ys))))
theorem iop_catA : PIp X .Add (rICatA X.K) := by
  intro pins s σ H x y v u Q I rx ry h
  obtain ⟨a, b, xs, ys, rfl, rfl, ha, hb, hz, q0, q1, q2⟩ := h
  cases rx
  cases ry
  obtain ⟨its, r1, p1, _⟩ := I.tuple ha
  obtain ⟨its2, r2, p2, _⟩ := I.tuple hb
  refine icat_tup p1 p2 (fun z => ⟨.ref b, H, I, rfl, q0 (r1.nil_iff.mp z)⟩) (fun z1 z2 => ⟨.ref a, H, I, rfl, q1 (fun z => z1 (r1.nil_iff.mpr z)) (r2.nil_iff.mp z2)⟩) (fun z1 z2 => ?_) (by rw [← r1.length, ← r2.length]; exact hz)
  refine ⟨.ref s.heap.objs.size, _, I.laid (t' := s.toks) (o := .tup (xs ++ ys)) (fun b ob q => Heap.get?_push_of_some _ q) (Nat.le_refl _) ?_, rfl, q2 (fun z => z1 (r1.nil_iff.mpr z)) (fun z => z2 (r2.nil_iff.mpr z)) _ (I.hok.fresh (Nat.le_refl _))⟩
  exact ⟨by rw [List.length_append]; exact hz, _, r1.append r2, IsTup.new _ _⟩
def rExtT (K : PySem.W.Frag) : V → List V → Hp → VK → Prop := fun x vs H Q => ∃ l b xs zs, x = .ref l ∧ vs = [.ref b] ∧ H l = some (.lst xs) ∧ SqT K H b zs ∧ xs.length + zs.length ≤ sizeLine ∧ Q .non (upd H l (.lst (xs ++ zs)))
theorem mt_extT : MtM X "list.extend" (rExtT X.K) := by
  intro pins s σ H x vs v us Q I rx rv h
  obtain ⟨l, b, xs, zs, rfl, rfl, hH, hB, hz, q⟩ := h
  cases rx
  obtain ⟨u, rfl, ru⟩ := rv.one
  cases ru
  obtain ⟨z, its, n, r, hl, e⟩ := I.lstM hH
  obtain ⟨its2, r2, p2, _⟩ := I.tuple hB
  obtain ⟨⟨c2, d2, x2, s2⟩, o2, e2, n2, f2⟩ := id p2
  simp only at e2 f2
  subst e2 f2
  have l2 := r2.length
  have hsz : its.toArray.size + its2.toArray.size ≤ sizeLine := by rw [List.size_toArray, List.size_toArray]; omega
  have hlong : ¬ (!its.toArray.isEmpty && Builtin.List.listTooLong (its.toArray.size + its2.toArray.size)) = true := by
    rw [notLongL hsz, Bool.and_false]
    exact Bool.false_ne_true
  refine call_meets F.slot_list_extend ⟨_, e, rfl⟩ F.entry_list_extend (F.args_list_extend_2 _ _)
    (ext_tup l its.toArray n b its2.toArray n2 d2 s2 hlong (by rw [List.size_toArray]; omega) (by omega)) ⟨e, o2, ?_⟩
  refine ⟨.non, _, I.lset (its' := its ++ its2) hH e (by simp) (r.append r2) ?_, rfl, q⟩
  rw [List.length_append]
  omega
end
end K61

namespace K61
open PySem PySem.Spec PyProof.Rows L2

/-! ### max(xs, default=d) over a list of ints -/
theorem args_maxd (a d : Value) : argsOk "max" ⟨[a], [(Str.ofString "default", d)]⟩ := by unfold argsOk; kernel_rfl
/-- what is kept beside the iterator: nothing, or the greatest so far twice -/
def Keep (ns : List Int) (j : Nat) (old : Array Value) : Prop :=
  (j = 0 ∧ old = #[]) ∨ (0 < j ∧ ∃ m t, old = #[.int m t, .int m t] ∧ m ∈ ns.take j ∧ ∀ a ∈ ns.take j, a ≤ m)
def Res (ns : List Int) (d v : Value) : Prop := (ns = [] ∧ v = d) ∨ (ns ≠ [] ∧ ∃ m t, v = .int m t ∧ m ∈ ns ∧ ∀ a ∈ ns, a ≤ m)
theorem take_more {ns : List Int} {j : Nat} {i : Int} (h : ns[j]? = some i) : ns.take (j + 1) = ns.take j ++ [i] := by
  rw [List.take_add_one, h]
  rfl
section
variable {prog : Program} {w : World} {A : Around} {R : Result → Shared → Prop} {I : Addr} {fp wr : List Addr} {St : Nat → Heap → Prop}
theorem maxd_loop {ns : List Int} {d : Value} (W : Walks prog w A.in1 I fp wr ns.length (fun i v => ∃ n t, ns[i]? = some n ∧ v = .int n t) St) (S : Addr) (hSf : S ∉ fp) :
    ∀ (k j : Nat) (s : Shared) (old : Array Value) (c : Nat), ns.length - j = k → j ≤ ns.length → St j s.heap → Keep ns j old →
    s.heap.get? S = some { cls := .type "list", dict := none, data := .seq old c, slots := #[] } →
    (∀ v h' tk, Res ns d v → (∀ b o, b ∉ wr → b ≠ S → s.heap.get? b = some o → h'.get? b = some o) → R (.ok (.ret v)) { s with heap := h', toks := tk }) →
    codeAny (model prog w) A (.builtin "max.loop" ⟨[.ref I, .none, .ref S], [(Str.ofString "default", d)]⟩) R s := by
  have hSw : S ∉ wr := fun h => hSf (W.sub _ h)
  have nm : (toString "max" ++ toString ".loop" : String) = "max.loop" := by decide
  intro k
  induction k with
  | zero =>
    intro j s old c hk hj hst hK hS hR
    have hin : j = ns.length := by omega
    refine codeAny_builtin F.entry_max_loop ?_
    rw [Around.under_plainId F.plain_max_loop _]
    show wpAny _ A.in1 (seqItems? (.ref S) >>= _) _ _ s
    refine wpAny_bind (wpAny_seqItems hS rfl ?_)
    show wpAny _ A.in1 (tryCatch (pyNext (.ref I)) _ >>= _) _ _ s
    refine wpAny_bind (wpAny_tryCatch (W.done s _ _ (hin ▸ hst) fun h' tk hk' => ?_))
    rcases hK with ⟨e0, rfl⟩ | ⟨e0, m, t, rfl, hm, hle⟩
    · have n0 : ns = [] := List.eq_nil_of_length_eq_zero (by omega)
      show wpAny _ A.in1 (rule _ >>= _) _ _ _
      exact wpAny_bind (wpAny_rule (wpAny_pure (hR d h' tk (.inl ⟨n0, rfl⟩) fun b o hb _ e => hk' b o hb e)))
    · have hS' := hk' S _ hSw hS
      rw [hin, List.take_length] at hm hle
      have nn : ns ≠ [] := fun z => by rw [z] at hm; cases hm
      show wpAny _ A.in1 (updateSeq S (fun _ => #[]) >>= _) _ _ _
      refine wpAny_bind ?_
      refine wpAny_updateSeq hS' rfl (wpAny_bind (wpAny_letGo (wpAny_pure ?_)))
      exact hR _ _ tk (.inr ⟨nn, m, t, rfl, hm, hle⟩) fun b o hbw hbS e => (Heap.get?_update_other _ _ (Ne.symm hbS)).trans (hk' b o hbw e)
  | succ k ih =>
    intro j s old c hk hj hst hK hS hR
    have hlt : j < ns.length := by omega
    refine codeAny_builtin F.entry_max_loop ?_
    rw [Around.under_plainId F.plain_max_loop _]
    show wpAny _ A.in1 (seqItems? (.ref S) >>= _) _ _ s
    refine wpAny_bind (wpAny_seqItems hS rfl ?_)
    show wpAny _ A.in1 (tryCatch (pyNext (.ref I)) _ >>= _) _ _ s
    refine wpAny_bind (wpAny_tryCatch (W.item j s _ _ hlt hst fun v h' tk hP hst' hk' => ?_))
    obtain ⟨i, ti, hi, rfl⟩ := hP
    have tk1 := take_more hi
    have hS' := hk' S _ hSw hS
    have nS : ∀ b ∈ fp, S ≠ b := fun b hb e => hSf (e ▸ hb)
    rcases hK with ⟨e0, rfl⟩ | ⟨e0, m, t, rfl, hm, hle⟩
    · show wpAny _ A.in1 (updateSeq S (fun _ => #[.int i ti, .int i ti]) >>= _) _ _ _
      refine wpAny_bind ?_
      refine wpAny_updateSeq hS' rfl ?_
      rw [nm]
      refine wpAny_pure ⟨plainId_quiet F.plain_max_loop _, ih (j + 1) _ _ _ (by omega) hlt (W.frame _ _ _ hst' fun b hb o e => ?_) (.inr ⟨Nat.succ_pos _, i, ti, rfl, ?_, ?_⟩) (Heap.get?_update_self _ hS' rfl) fun v' h'' tk'' hP' hk'' => ?_⟩
      · exact (Heap.get?_update_other _ _ (nS b hb)).trans e
      · rw [tk1]; simp
      · intro a ha
        rw [tk1, e0] at ha
        simp at ha
        omega
      · exact hR v' h'' tk'' hP' fun b o hbw hbS e => hk'' b o hbw hbS ((Heap.get?_update_other _ _ (Ne.symm hbS)).trans (hk' b o hbw e))
    · show wpAny _ A.in1 (tryCatch (holding [.int i ti, .int i ti] (richCompare .Gt (.int i ti) (.int m t) >>= _)) _ >>= _) _ _ _
      have cmp : ∀ {Q : Value → Shared → Prop} {E : Value → Shared → Prop} {s : Shared}, Q (.bool (decide (i > m))) s → wpAny (model prog w) A.in1 (richCompare .Gt (.int i ti) (.int m t)) Q E s := fun {Q E s} h =>
        richCompare_gives (op := .Gt) (typeIs_int s _ ti) (typeIs_int s _ t) F.slot_int_gt F.entry_int_gt (F.args_int_gt_2 _ _) (gives_int_gt _ _ ti t) (fun x => nomatch x) h
      refine wpAny_bind (wpAny_tryCatch (wpAny_holding (wpAny_bind (cmp ?_))))
      refine wpAny_bind (wpAny_holding (wpAny_truthy_bool ?_))
      refine wpAny_bind (wpAny_letGo (wpAny_pure ?_))
      by_cases hb : i > m
      · rw [decide_eq_true hb]
        simp only [if_true]
        refine wpAny_bind ?_
        refine wpAny_updateSeq hS' rfl (wpAny_bind (wpAny_letGo ?_))
        rw [nm]
        refine wpAny_pure ⟨plainId_quiet F.plain_max_loop _, ih (j + 1) _ _ _ (by omega) hlt (W.frame _ _ _ hst' fun b hbf o e => ?_) (.inr ⟨Nat.succ_pos _, i, ti, rfl, ?_, ?_⟩) (Heap.get?_update_self _ hS' rfl) fun v' h'' tk'' hP' hk'' => ?_⟩
        · exact (Heap.get?_update_other _ _ (nS b hbf)).trans e
        · rw [tk1]; simp
        · intro a ha
          rw [tk1] at ha
          rcases List.mem_append.mp ha with z | z
          · have := hle a z
            omega
          · rw [List.mem_singleton.mp z]
            exact Int.le_refl _
        · exact hR v' h'' tk'' hP' fun b o hbw hbS e => hk'' b o hbw hbS ((Heap.get?_update_other _ _ (Ne.symm hbS)).trans (hk' b o hbw e))
      · rw [decide_eq_false hb]
        simp only [Bool.false_eq_true, if_false]
        refine wpAny_bind (wpAny_letGo ?_)
        rw [nm]
        refine wpAny_pure ⟨plainId_quiet F.plain_max_loop _, ih (j + 1) _ _ c (by omega) hlt hst' (.inr ⟨Nat.succ_pos _, m, t, rfl, ?_, ?_⟩) hS' fun v' h'' tk'' hP' hk'' => ?_⟩
        · rw [tk1]
          exact List.mem_append_left _ hm
        · intro a ha
          rw [tk1] at ha
          rcases List.mem_append.mp ha with z | z
          · exact hle a z
          · rw [List.mem_singleton.mp z]
            omega
        · exact hR v' h'' tk'' hP' fun b o hbw hbS e => hk'' b o hbw hbS (hk' b o hbw e)
end
section
variable {prog : Program} {w : World} {A : Around} {E : Value → Shared → Prop} {s : Shared}
/-- a built-in function with keywords whose first part hands on -/
theorem call_handing {id : String} {b : Builtin} {us : List Value} {kw : List (Str × Value)} {Q : Value → Shared → Prop} (hk : builtinKind id = none) (hp : plainId id = true) (hb : entryFor table id = some b) (ha : argsOk id ⟨us, kw⟩)
    (hc : wpAny (model prog w) A.in1 (b ⟨us, kw⟩) (fun fin s' => match fin with
      | .done f => (match (Except.ok f : Result) with | .ok (.ret v) => Q v s' | .ok _ => False | .error e => E e s')
      | .again c' => c'.quiet = true ∧ codeAny (model prog w) A c' (fun r s' => match r with | .ok (.ret v) => Q v s' | .ok _ => False | .error e => E e s') s') E s) :
    wpAny (model prog w) A (call (.builtin id) us kw) Q E s := by
  refine wpAny_call (codeAny_call_builtin hp hb ?_)
  simp only [checkBuiltinCall, hk]
  cases hg : Manifest.signature? id with
  | none => exact wpAny_pure hc
  | some sg =>
    have e : Bind.checkArgs id sg ⟨us, kw⟩ = pure () := by simpa only [argsOk, hg] using ha
    simp only [e]
    exact wpAny_pure hc
theorem maxd_raw {l : Addr} {its : List Value} {ns : List Int} {d : Value} {Q : Value → Shared → Prop} (hh : A.handled = none) (hl : s.heap.IsList l its.toArray) (hi : IntsAre its ns)
    (h : ∀ v h' tk, Res ns d v → (∀ b o, s.heap.get? b = some o → h'.get? b = some o) → Q v { s with heap := h', toks := tk }) :
    wpAny (model prog w) A (call (.builtin "max") [.ref l] [(Str.ofString "default", d)]) Q E s := by
  have nm : (toString "max" ++ toString ".loop" : String) = "max.loop" := by decide
  obtain ⟨xs, e⟩ := hi.allInts.items
  have hn : numsOf (intItems xs).toList = ns := by rw [← e]; exact hi.numsOf
  rw [nums_intItems] at hn
  rw [e] at hl
  have hsz : (intItems xs).size = ns.length := by rw [← hn]; simp [intItems]
  refine call_handing F.kind_max F.plain_max F.entry_max (args_maxd _ _) ?_
  show wpAny _ A.in1 (Builtin.Builtins.bindParams "max" ["key", "default"] 0 ⟨[], [(Str.ofString "default", d)]⟩ >>= _) _ _ s
  refine wpAny_bind (wpAny_of_eq (show Builtin.Builtins.bindParams "max" ["key", "default"] 0 ⟨[], [(Str.ofString "default", d)]⟩ = pure [none, some d] from rfl) ?_)
  refine wpAny_bind (wpAny_pure ?_)
  refine wpAny_bind (iter_intList hl fun s2 es st hfp hlI => ?_)
  subst es
  refine wpAny_bind (wpAny_newObj_type ?_)
  rw [nm]
  have hSf : (s.heap.push { cls := .type "list_iterator", data := .fields #[.ref l, .int 0 0] }).objs.size ∉ [s.heap.objs.size, l] := fun hm => Nat.lt_irrefl _ (hfp _ hm)
  have W := Walks.list (prog := prog) (w := w) (A := A.in1) hh s.heap.objs.size l hlI (intItems xs)
  rw [hsz] at W
  have W' : Walks prog w A.in1 s.heap.objs.size [s.heap.objs.size, l] [s.heap.objs.size] ns.length (fun i v => ∃ n t, ns[i]? = some n ∧ v = .int n t) (fun i h => h.IsListIter s.heap.objs.size l i ∧ h.IsList l (intItems xs)) :=
    { W with
      item := fun i s Q E hi st hQ => W.item i s Q E hi st fun v h' tk hP st' hk => hQ v h' tk (by
        obtain ⟨t, rfl⟩ := intItems_at hP
        refine ⟨_, t, ?_, rfl⟩
        have hx : i < xs.size := by
          have := hsz
          simp [intItems] at this
          omega
        rw [← hn, List.getElem?_map, Array.getElem?_toList]
        simp [numAt, hx]) st' hk }
  refine wpAny_pure ⟨plainId_quiet F.plain_max_loop _, maxd_loop W' _ hSf ns.length 0 _ #[] _ rfl (Nat.zero_le _) (W'.frame _ _ _ st fun b _ o e => Heap.get?_push_of_some _ e) (.inl ⟨rfl, rfl⟩) (Heap.get?_push_size _ rfl) fun v h' tk hP hk => ?_⟩
  refine h v h' tk hP fun b o q => hk b o (fun z => ?_) ?_ (Heap.get?_push_of_some _ (Heap.get?_push_of_some _ q))
  · exact absurd (List.mem_singleton.mp z ▸ Heap.lt_size q) (Nat.lt_irrefl _)
  · have h1 := Heap.lt_size q
    rw [Heap.size_push]
    exact Nat.ne_of_lt (Nat.lt_succ_of_lt h1)
end
section
variable {X : Cx}
def rMaxD (K : PySem.W.Frag) : List V → List V → Hp → VK → Prop := fun vs zs H Q => ∃ (a : Addr) (ns : List Int) (d : Int), vs = [V.ref a] ∧ zs = [V.int d] ∧ SqL K H a (ns.map V.int) ∧
  (ns = [] → Q (.int d) H) ∧ (ns ≠ [] → ∀ m, m ∈ ns → (∀ y, y ∈ ns → y ≤ m) → Q (.int m) H)
theorem cr_maxD (hc : X.calm = true) : CallRK X (.builtin "max") [Str.ofString "default"] (rMaxD X.K) := by
  intro pins s σ H vs zs us ws Q I r rz h
  obtain ⟨a, ns, d, rfl, rfl, hs, q1, q2⟩ := h
  obtain ⟨its, rv, hl, _⟩ := I.list hs
  obtain rfl := Vals.ref1 r
  obtain ⟨w1, rfl, t1, rfl⟩ := vals1 rz
  refine maxd_raw (I.ok.hd hc) hl.isList rv.ints fun v h' tk hr hk => ?_
  rcases hr with ⟨n0, rfl⟩ | ⟨n0, m, t, rfl, hm, hle⟩
  · exact ⟨.int d, H, I.kept hk, ⟨_, rfl⟩, q1 n0⟩
  · exact ⟨.int m, H, I.kept hk, ⟨_, rfl⟩, q2 n0 m hm hle⟩
end
end K61

namespace K61
open PySem PySem.Spec PyProof.Rows L2
/-! ### sum(o.values()), a dict with int values -/
theorem preSum_list (is : List Int) : ∀ k, k ≤ is.length → preSum (fun i => is.getD i 0) k = (is.take k).sum
  | 0, _ => rfl
  | k + 1, h => by
    have ih := preSum_list is k (by omega)
    have e : is[k]? = some (is.getD k 0) := by
      rw [List.getD_eq_getElem?_getD, List.getElem?_eq_getElem (show k < is.length by omega)]
      rfl
    show preSum (fun i => is.getD i 0) k + is.getD k 0 = _
    rw [ih, List.take_add_one, e, List.sum_append]
    simp
section
variable {X : Cx} {o : Expr} {p pos apos mpos : Pos} {td : TE}
def tSumVals (td : TE) : TE := fun σ H Q => td σ H fun x H1 => ∃ (a : Addr) (kvs : List (Key × V)) (is : List Int), x = V.ref a ∧ H1 a = some (.dK kvs) ∧ kvs.map (·.2) = is.map V.int ∧ Q (.int is.sum) H1
theorem pe_sumVals (hc : X.calm = true) (hg : Gl X "sum") (hm : X.mg "sum" = none) (hd : PE X o td) (hbase : attributeBase o "values" X.env (eval o X.env) = eval o X.env := by rfl) (hline : (apos.endLine == mpos.line) = true := by rfl)
    (hse : starEach [Expr.Call (.Attribute o "values" apos) [] [] mpos] X.env = [(false, eval (Expr.Call (.Attribute o "values" apos) [] [] mpos) X.env)] := by rfl) :
    PE X (.Call (.Name "sum" p) [.Call (.Attribute o "values" apos) [] [] mpos] [] pos) (tSumVals td) := by
  refine ⟨fun pins s σ H Q I h => ?_⟩
  refine wpAny_Call_Name_kw (ld_blt I hg hm (u := .builtin "sum") (by first | rfl | decide +kernel) ?_ (by first | decide +kernel | decide) (by first | decide +kernel | decide))
  rw [hse]
  refine PySem.callWith_builtin1 (wpAny_Call_method0_late hbase hline (thn (hd.run pins s σ H _ I h) fun v s1 ⟨x, H1, I1, r1, a, kvs, is, ex, ha, hv, q⟩ => ?_))
  subst ex
  obtain rfl : v = Value.ref a := r1
  obtain ⟨_, hsys, vs, rel, dof⟩ := dk_of I1.hok ha
  obtain ⟨ep, dat⟩ := dof.dictAt
  obtain ⟨ob, es, ho, ex, hdat, hko, hpr, hnd⟩ := id dat
  refine ⟨"dict", "dict.values", F.plainAttrs_dict, F.slot_dict_values, F.type_dict_values, ⟨ob, ho, ex.1⟩, fun b e => ?_, Calls.callWith_builtin rfl (PySem.evalArgs_none ?_)⟩
  · cases e
    exact ⟨ob, ho, ex.2.1⟩
  refine call_meetsIn F.slot_dict_values ⟨ob, ho, ex.1⟩ F.entry_dict_values (F.args_dict_values_1 _) (meets_dict_values (mixKind X.prog X.w) a hsys) ⟨⟨vs, dof⟩, ?_⟩
  have k1 : ∀ b u, s1.heap.get? b = some u → (s1.heap.push { cls := .type "dict_values", data := .fields #[.ref a] }).get? b = some u := fun b u e => Heap.get?_push_of_some _ e
  have dat1 : (s1.heap.push { cls := .type "dict_values", data := .fields #[.ref a] }).DictAt (mixKind X.prog X.w) a vs ep := dat.keep k1
  have hlv : vs.length = is.length := by
    have e1 := congrArg List.length hv
    rw [List.length_map, List.length_map] at e1
    rw [← e1]
    exact (KV.length rel).symm
  have hval : ∀ (i : Nat) (v : Value), (∃ k, vs[i]? = some (k, v)) → ∃ t, v = Value.int (is.getD i 0) t := fun i v ⟨k, hk⟩ => by
    obtain ⟨x, h1, h2⟩ := KV.at' rel hk
    have e1 : (kvs.map (·.2))[i]? = some x := by
      rw [List.getElem?_map, h1]
      rfl
    rw [hv, List.getElem?_map] at e1
    obtain ⟨j, hj, e2⟩ := Option.map_eq_some_iff.mp e1
    subst e2
    obtain ⟨t, e3⟩ := h2
    refine ⟨t, ?_⟩
    rw [e3, List.getD_eq_getElem?_getD, hj]
    rfl
  refine call_sum_walkG (wpAny_pyIter_values (v := s1.heap.objs.size) (d := a) ⟨_, Heap.get?_push_size _ rfl, rfl, rfl⟩ dat1 ?_)
  have hlt : a < s1.heap.objs.size := Heap.lt_size ho
  have hsz : (s1.heap.push { cls := .type "dict_values", data := .fields #[.ref a] }).objs.size = s1.heap.objs.size + 1 := Heap.size_push _ _
  refine ⟨_, _, _, _, _, _, fun i => is.getD i 0, rfl, Walks.dictValues (knd := mixKind X.prog X.w) (A := X.A.in1) (I.ok.hd hc) (s1.heap.push { cls := .type "dict_values", data := .fields #[.ref a] }).objs.size a (by rw [hsz]; exact Nat.ne_of_lt (Nat.lt_succ_of_lt hlt)) vs ep,
    ⟨⟨_, Heap.get?_push_size _ rfl, rfl, rfl⟩, dat1.keep fun b u e => Heap.get?_push_of_some _ e⟩, fun b hb => ?_, hval, fun h' tk t' hk => ?_⟩
  · show b < ((s1.heap.push _).push _).objs.size
    rw [Heap.size_push, Heap.size_push]
    rw [hsz] at hb
    rcases List.mem_cons.mp hb with e | hb
    · rw [e]
      exact Nat.lt_succ_self _
    · have e : b = a := List.mem_singleton.mp hb
      rw [e]
      exact Nat.lt_succ_of_lt (Nat.lt_succ_of_lt hlt)
  · rw [hlv, preSum_list is _ (Nat.le_refl _), List.take_length]
    refine ⟨.int _, H1, I1.kept (t' := tk) fun b u e => hk b u (fun hmem => ?_) (Heap.get?_push_of_some _ (k1 b u e)), ⟨_, rfl⟩, q⟩
    have e1 : b = (s1.heap.push { cls := .type "dict_values", data := .fields #[.ref a] }).objs.size := List.mem_singleton.mp hmem
    have e2 := Heap.lt_size e
    rw [hsz] at e1
    rw [e1] at e2
    exact absurd e2 (Nat.not_lt.mpr (Nat.le_succ _))
end
end K61

namespace K61
open PySem PySem.Spec PyProof.Rows L2
/-! ### enumerate(str) -/
def Ites (z : Str) : It :=
  ⟨fun i _ => i < z.cps.size, fun i H v H' => ∃ T c, v = .ref T ∧ H T = none ∧ H' = upd H T (.tup [.int (i : Nat), .str ⟨#[c]⟩]) ∧ z.cps[i]? = some c, fun i _ => z.cps.size ≤ i⟩
theorem draws_str {prog : Program} {w : World} {A : Around} (hh : A.handled = none) (it : Addr) (x : Str) (t : Tok) :
    Draws prog w A it [it] x.cps.size (fun i v => ∃ c u, x.cps[i]? = some c ∧ v = .str ⟨#[c]⟩ u) (fun i h => h.IsStrIter it (strIterType x) x t i) := by
  unfold strIterType
  split
  · exact Draws.strAscii hh it x t
  · exact Draws.strWide hh it x t
theorem turn_enums {P : Program} {w : World} {K : PySem.W.Frag} {elts : List Expr} {kk : Nat} {tpos : Pos} (z : Str) (t : Tok) (e it : Addr) :
    Turn P w K (.Tuple elts kk tpos) (Ites z) [e, it] e (fun i h => (∃ old, IsEnum h e it ((i : Nat) : Int) old) ∧ h.IsStrIter it (strIterType z) z t i ∧ e ≠ it ∧ i ≤ z.cps.size) where
  mem := by simp
  obj := fun i h st b hb => by
    obtain ⟨⟨old, he⟩, ⟨o, ho, hc, hd⟩, _⟩ := st
    rcases (by simpa using hb : b = e ∨ b = it) with q | q
    · subst q; exact ⟨_, he, fun v q => nomatch q⟩
    · subst q; exact ⟨o, ho, fun v q => by rw [hd] at q; cases q⟩
  keep := fun i h h' st k => by
    obtain ⟨⟨old, he⟩, ⟨o, ho, r⟩, hne, hle⟩ := st
    exact ⟨⟨old, k e (by simp) _ he⟩, ⟨o, k it (by simp) o ho, r⟩, hne, hle⟩
  item := by
    intro X hP hw hK hc i pins s σ H E I hf st hg
    subst hP hw hK
    obtain ⟨⟨old, he⟩, hit, hne, hle⟩ := st
    have hg' : i < z.cps.size := hg
    have hel : e < s.heap.objs.size := Heap.lt_size he
    have hil : it < s.heap.objs.size := by obtain ⟨_, q, _⟩ := hit; exact Heap.lt_size q
    have D := draws_str (prog := X.prog) (w := X.w) (A := X.A.in1) (I.ok.hd hc) it z t
    refine wpAny_pyNext_enum_itemD (i := i) D he hit hg' hne (by simpa using hne) fun u h' tk hu ho hit' hT hsz hk => ?_
    obtain ⟨c, tu, hcx, rfl⟩ := hu
    refine ⟨_, rfl, wpAny_letOwnedTupleGo_enum (s := { s with heap := h', toks := tk + 1 }) ho fun h2 he' sb => ?_⟩
    have hT2 : h2.get? s.heap.objs.size = some { cls := .type "tuple", data := .seq #[.int i tk, .str ⟨#[c]⟩ tu] } := (sb.2 _ (Nat.ne_of_gt hel)).trans hT
    have new : ObjOk X.prog X.w (upd H s.heap.objs.size (.tup [.int (i : Nat), .str ⟨#[c]⟩])) h2 s.heap.objs.size (.tup [.int (i : Nat), .str ⟨#[c]⟩]) :=
      ⟨by show 2 ≤ sizeLine; decide, [.int i tk, .str ⟨#[c]⟩ tu], .cons ⟨_, rfl⟩ (.cons ⟨_, rfl⟩ .nil), ⟨_, hT2, rfl, _, rfl⟩⟩
    have I1 : Inv X pins σ (upd H s.heap.objs.size (.tup [.int (i : Nat), .str ⟨#[c]⟩])) { s with heap := h2, toks := tk + 1 } :=
      I.turnedNew (ch := [e, it]) (fun b ob hb q => (sb.2 b (fun z => hb (by simp [z]))).trans (hk b ob (fun z => hb (by simp [z])) (fun z => hb (by simp [z])) q)) hf (Nat.le_refl _) new
    refine ⟨.ref s.heap.objs.size, _, I1, rfl, ⟨_, c, rfl, I.hok.fresh (Nat.le_refl _), rfl, hcx⟩, ⟨⟨.str ⟨#[c]⟩ tu, ?_⟩, ?_, hne, hg'⟩, fun b hb => ?_⟩
    · have e1 : ((i + 1 : Nat) : Int) = (i : Int) + 1 := by omega
      rw [e1]
      exact he'
    · obtain ⟨o, q, r⟩ := hit'
      exact ⟨o, (sb.2 it (Ne.symm hne)).trans q, r⟩
    · have hb' : b < s.heap.objs.size := by
        rcases (by simpa using hb : b = e ∨ b = it) with q | q
        · subst q; exact hel
        · subst q; exact hil
      rw [upd_ne (Nat.ne_of_lt hb')]
      exact (hf b hb).1
  done := by
    intro X hP hw hK hc i pins s σ H E I hf st hg
    subst hP hw hK
    obtain ⟨⟨old, he⟩, hit, hne, hle⟩ := st
    have hi : i = z.cps.size := Nat.le_antisymm hle hg
    obtain ⟨f0, f1, f2, f3, f4, f5⟩ := hf it (by simp)
    have D := draws_str (prog := X.prog) (w := X.w) (A := X.A.in1) (I.ok.hd hc) it z t
    rw [hi] at hit
    refine wpAny_pyNext_enum_endD D he hit fun h' eb => ⟨rfl, I.turned (t' := s.toks) (fun b o hb q => eb b o hb q) f0 f1 f3 f4 f5⟩
  self := fun A i s Q E st h => let ⟨⟨_, he⟩, _⟩ := st; wpAny_pyIter_enum he h
def iEnumS (ta : TA) : TI := fun σ H R => ta σ H fun vs H1 => ∃ z, vs = [.str z] ∧ R (Ites z) H1
theorem pi_enumS {X : Cx} {e : Expr} {ta : TA} {p pos tpos : Pos} {elts : List Expr} {kk : Nat} (hg : Gl X "enumerate") (hm : X.mg "enumerate" = none) (ha : PA X [e] ta) (hs : starEach [e] X.env = [(false, eval e X.env)] := by rfl) :
    PI X (.Tuple elts kk tpos) (.Call (.Name "enumerate" p) [e] [] pos) (iEnumS ta) := by
  refine ⟨fun pins s σ H R I h => ?_⟩
  refine Call_ (ld_blt I hg hm boot_enumerate (PyProof.Rows.callWith_type1 (thn (ha.run pos pins s σ H _ I h) fun us s1 ⟨vs, H1, I1, r1, q1⟩ => ?_) hs rfl))
  obtain ⟨z, ex, q⟩ := q1
  subst ex
  cases r1 with
  | cons r rr =>
    cases rr
    obtain ⟨t, rfl⟩ := r
    refine call_enumerate_str fun h' he hit hsz hk => wpAny_pyIter_enum he ?_
    have I2 : Inv X pins σ H1 { s1 with heap := h' } := I1.kept (t' := s1.toks) hk
    refine ⟨s1.heap.objs.size + 1, [s1.heap.objs.size + 1, s1.heap.objs.size], _, _, H1, rfl, I2, turn_enums z t (s1.heap.objs.size + 1) s1.heap.objs.size, ⟨⟨.none, he⟩, hit, Nat.succ_ne_self _, Nat.zero_le _⟩, fun b hb => ?_, q⟩
    have hle : s1.heap.objs.size ≤ b := by
      rcases (by simpa using hb : b = s1.heap.objs.size + 1 ∨ b = s1.heap.objs.size) with z | z
      · rw [z]; exact Nat.le_add_right _ _
      · rw [z]; exact Nat.le_refl _
    exact I1.fpOk hle (I1.hok.fresh hle)
end K61

namespace K61
open PySem PySem.Spec PyProof.Rows L2
/-! ### dict(zip(text, tuple)) -/
section
variable {prog : Program} {w : World} {A : Around} {E : Value → Shared → Prop} {s : Shared} {z TI TO i1 i2 : Addr} {fp1 fp2 : List Addr} {n1 n2 i : Nat} {P1 P2 : Nat → Value → Prop} {St1 St2 : Nat → Heap → Prop}
/-- next of a zip whose last tuple is still held: a new one -/
theorem zheld_item {T : Addr} {f : Bool} {oT : Obj} {Q : Value → Shared → Prop} (S : ZipSep2 z TI TO i1 i2 fp1 fp2) (D1 : Draws prog w A i1 fp1 n1 P1 St1) (D2 : Draws prog w A i2 fp2 n2 P2 St2)
    (hz : IsZipHeld s.heap z TI TO T f) (hT : s.heap.get? T = some oT) (hTI : IsTupOf2 s.heap TI (.ref i1) (.ref i2)) (st1 : St1 i s.heap) (st2 : St2 i s.heap) (hlt1 : i < n1) (hlt2 : i < n2)
    (hQ : ∀ x1 x2 h' tk, P1 i x1 → P2 i x2 → IsZipHeld h' z TI TO T true → St1 (i + 1) h' → St2 (i + 1) h' → IsTupOf2 h' s.heap.objs.size x1 x2 → h'.objs.size = s.heap.objs.size + 1 →
      (∀ c o, c ≠ z → c ≠ i1 → c ≠ i2 → s.heap.get? c = some o → h'.get? c = some o) → Q (.ref s.heap.objs.size) { s with heap := h', toks := tk }) :
    wpAny (model prog w) A (Builtin.«zip.__next__» ⟨[.ref z], []⟩) (fun fin s' => ∃ v, fin = .done (.ret v) ∧ Q v s') E s := by
  obtain ⟨hp, g, d, tk0, os⟩ := s
  show wpAny _ _ (field (.ref z) 2 >>= _) _ _ _
  refine wpAny_bind (wpAny_field hz rfl (x := .bool false) rfl ?_)
  show wpAny _ _ (field (.ref z) 3 >>= _) _ _ _
  refine wpAny_bind (wpAny_field hz rfl (x := .ref TI) rfl ?_)
  refine wpAny_bind (wpAny_seqItems hTI rfl ?_)
  show wpAny _ _ (Builtin.SmallTypes.ownedTupleIsFree (.ref z) >>= _) _ _ _
  refine wpAny_bind (wpAny_tupleHeld_zip (s := ⟨hp, g, d, tk0, os⟩) hz hT fun g1 hz1 sb1 => ?_)
  replace sb1 : Heap.SameBut z hp g1 := sb1
  simp only [Bool.false_eq_true, if_false]
  refine wpAny_bind ?_
  rw [← Array.forIn_toList]
  simp only [List.forIn_cons, List.forIn_nil]
  refine wpAny_bind (wpAny_bind (wpAny_holding ?_))
  show wpAny _ _ (Builtin.SmallTypes.nextOf (.ref i1) >>= _) _ _ ⟨g1, g, d, tk0, os⟩
  refine wpAny_bind (D1.item i _ _ _ hlt1 (D1.over st1 sb1 S.zf1) fun x1 g2 tk1 hx1 sn1 sb2 => wpAny_pure ?_)
  replace sb2 : Heap.SameBut i1 g1 g2 := sb2
  refine wpAny_pure ?_
  refine wpAny_bind (wpAny_bind (wpAny_holding ?_))
  show wpAny _ _ (Builtin.SmallTypes.nextOf (.ref i2) >>= _) _ _ ⟨g2, g, d, tk1, os⟩
  refine wpAny_bind (D2.item i _ _ _ hlt2 (D2.over (D2.over st2 sb1 S.zf2) sb2 S.sep1_2) fun x2 g3 tk2 hx2 sn2 sb3 => wpAny_pure ?_)
  replace sb3 : Heap.SameBut i2 g2 g3 := sb3
  refine wpAny_pure (wpAny_pure ?_)
  show wpAny _ _ (newTuple [x1, x2] >>= _) _ _ ⟨g3, g, d, tk2, os⟩
  refine wpAny_bind (wpAny_newTuple ?_)
  have hsz : g3.objs.size = hp.objs.size := by rw [sb3.1, sb2.1, sb1.1]
  have hz3 : IsZipHeld g3 z TI TO T true := sb3.extBut _ _ S.zi2 (sb2.extBut _ _ S.zi1 hz1)
  have hk : ∀ c o, c ≠ z → c ≠ i1 → c ≠ i2 → hp.get? c = some o → g3.get? c = some o := fun c o c1 c2 c3 e => sb3.extBut _ _ c3 (sb2.extBut _ _ c2 (sb1.extBut _ _ c1 e))
  have j1 : St1 (i + 1) g3 := D1.over sn1 sb3 S.sep2_1
  refine wpAny_pure ⟨_, rfl, ?_⟩
  have up : ∀ c o, g3.get? c = some o → (g3.push { cls := .type "tuple", data := .seq #[x1, x2] }).get? c = some o := fun c o e => Heap.get?_push_of_some _ e
  have hp' : IsTupOf2 (g3.push { cls := .type "tuple", data := .seq #[x1, x2] }) g3.objs.size x1 x2 := Heap.get?_push_size _ rfl
  have hz4 : (g3.push { cls := .type "tuple", data := .seq #[x1, x2] }).objs.size = g3.objs.size + 1 := Heap.size_push ..
  show Q (.ref g3.objs.size) _
  rw [hsz] at hp' hz4 ⊢
  exact hQ x1 x2 _ tk2 hx1 hx2 (up _ _ hz3) (D1.frame _ _ _ j1 fun b _ o e => up b o e) (D2.frame _ _ _ sn2 fun b _ o e => up b o e) hp' hz4 fun c o c1 c2 c3 e => up c o (hk c o c1 c2 c3 e)
theorem zheld_end {T : Addr} {f : Bool} {oT : Obj} {Q : Fin → Shared → Prop} (S : ZipSep2 z TI TO i1 i2 fp1 fp2) (D1 : Draws prog w A i1 fp1 n1 P1 St1) (D2 : Draws prog w A i2 fp2 n2 P2 St2)
    (hz : IsZipHeld s.heap z TI TO T f) (hT : s.heap.get? T = some oT) (hTI : IsTupOf2 s.heap TI (.ref i1) (.ref i2)) (st1 : St1 i s.heap) (st2 : St2 i s.heap) (hle1 : i ≤ n1) (hle2 : i ≤ n2) (hend : i = n1 ∨ i = n2)
    (hE : ∀ h' tk e, (∀ c o, c ≠ z → c ≠ i1 → c ≠ i2 → s.heap.get? c = some o → h'.get? c = some o) → (∃ o, h'.get? e = some o ∧ o.cls = .type "StopIteration") → E (.ref e) { s with heap := h', toks := tk }) :
    wpAny (model prog w) A (Builtin.«zip.__next__» ⟨[.ref z], []⟩) Q E s := by
  obtain ⟨hp, g, d, tk0, os⟩ := s
  show wpAny _ _ (field (.ref z) 2 >>= _) _ _ _
  refine wpAny_bind (wpAny_field hz rfl (x := .bool false) rfl ?_)
  show wpAny _ _ (field (.ref z) 3 >>= _) _ _ _
  refine wpAny_bind (wpAny_field hz rfl (x := .ref TI) rfl ?_)
  refine wpAny_bind (wpAny_seqItems hTI rfl ?_)
  show wpAny _ _ (Builtin.SmallTypes.ownedTupleIsFree (.ref z) >>= _) _ _ _
  refine wpAny_bind (wpAny_tupleHeld_zip (s := ⟨hp, g, d, tk0, os⟩) hz hT fun g1 hz1 sb1 => ?_)
  replace sb1 : Heap.SameBut z hp g1 := sb1
  simp only [Bool.false_eq_true, if_false]
  refine wpAny_bind ?_
  rw [← Array.forIn_toList]
  simp only [List.forIn_cons, List.forIn_nil]
  refine wpAny_bind (wpAny_bind (wpAny_holding ?_))
  show wpAny _ _ (Builtin.SmallTypes.nextOf (.ref i1) >>= _) _ _ ⟨g1, g, d, tk0, os⟩
  by_cases hlt1 : i < n1
  · refine wpAny_bind (D1.item i _ _ _ hlt1 (D1.over st1 sb1 S.zf1) fun x1 g2 tk1 hx1 sn1 sb2 => wpAny_pure ?_)
    replace sb2 : Heap.SameBut i1 g1 g2 := sb2
    refine wpAny_pure ?_
    have hi2 : i = n2 := by omega
    refine wpAny_bind (wpAny_bind (wpAny_holding ?_))
    show wpAny _ _ (Builtin.SmallTypes.nextOf (.ref i2) >>= _) _ _ ⟨g2, g, d, tk1, os⟩
    refine wpAny_bind (D2.done ⟨g2, g, d, tk1, os⟩ _ _ (by rw [← hi2]; exact D2.over (D2.over st2 sb1 S.zf2) sb2 S.sep1_2) fun q e hq he => ?_)
    exact hE q tk1 e (fun c o c1 c2 c3 x => hq _ _ c3 (sb2.extBut _ _ c2 (sb1.extBut _ _ c1 x))) he
  · have hi1 : i = n1 := by omega
    refine wpAny_bind (D1.done ⟨g1, g, d, tk0, os⟩ _ _ (by rw [← hi1]; exact D1.over st1 sb1 S.zf1) fun q e hq he => ?_)
    exact hE q tk0 e (fun c o c1 c2 c3 x => hq _ _ c2 (sb1.extBut _ _ c1 x)) he
theorem zheld_next {T : Addr} {f : Bool} {oT : Obj} {Q : Option Value → Shared → Prop} (S : ZipSep2 z TI TO i1 i2 fp1 fp2) (D1 : Draws prog w A.in1 i1 fp1 n1 P1 St1) (D2 : Draws prog w A.in1 i2 fp2 n2 P2 St2)
    (hz : IsZipHeld s.heap z TI TO T f) (hT : s.heap.get? T = some oT) (hTI : IsTupOf2 s.heap TI (.ref i1) (.ref i2)) (st1 : St1 i s.heap) (st2 : St2 i s.heap) (hlt1 : i < n1) (hlt2 : i < n2)
    (hQ : ∀ x1 x2 h' tk, P1 i x1 → P2 i x2 → IsZipHeld h' z TI TO T true → St1 (i + 1) h' → St2 (i + 1) h' → IsTupOf2 h' s.heap.objs.size x1 x2 → h'.objs.size = s.heap.objs.size + 1 →
      (∀ c o, c ≠ z → c ≠ i1 → c ≠ i2 → s.heap.get? c = some o → h'.get? c = some o) → Q (some (.ref s.heap.objs.size)) { s with heap := h', toks := tk }) :
    wpAny (model prog w) A (pyNext (.ref z)) Q E s := by
  have ty : s.TypeIs (.ref z) "zip" := ⟨_, hz, rfl⟩
  unfold pyNext
  exact wpAny_bind (wpAny_attempt (wpAny_callSpecial?_slot (name := Str.ofString "__next__") ty F.slot_zip_next
    (wpAny_call_entry F.slot_zip_next ty F.entry_zip_next
      (zheld_item S D1 D2 hz hT hTI st1 st2 hlt1 hlt2 fun x1 x2 h' tk a1 a2 a3 a4 a5 a6 a7 a8 => wpAny_pure (hQ x1 x2 h' tk a1 a2 a3 a4 a5 a6 a7 a8)) (F.args_zip_next_1 _))))
theorem zheld_stop {T : Addr} {f : Bool} {oT : Obj} {Q : Option Value → Shared → Prop} (S : ZipSep2 z TI TO i1 i2 fp1 fp2) (D1 : Draws prog w A.in1 i1 fp1 n1 P1 St1) (D2 : Draws prog w A.in1 i2 fp2 n2 P2 St2)
    (hz : IsZipHeld s.heap z TI TO T f) (hT : s.heap.get? T = some oT) (hTI : IsTupOf2 s.heap TI (.ref i1) (.ref i2)) (st1 : St1 i s.heap) (st2 : St2 i s.heap) (hle1 : i ≤ n1) (hle2 : i ≤ n2) (hend : i = n1 ∨ i = n2)
    (hQ : ∀ h' tk, (∀ c o, c ≠ z → c ≠ i1 → c ≠ i2 → s.heap.get? c = some o → h'.get? c = some o) → Q none { s with heap := h', toks := tk }) : wpAny (model prog w) A (pyNext (.ref z)) Q E s := by
  have ty : s.TypeIs (.ref z) "zip" := ⟨_, hz, rfl⟩
  unfold pyNext
  refine wpAny_bind (wpAny_attempt (wpAny_callSpecial?_slot (name := Str.ofString "__next__") ty F.slot_zip_next
    (wpAny_call_entry F.slot_zip_next ty F.entry_zip_next (zheld_end S D1 D2 hz hT hTI st1 st2 hle1 hle2 hend fun h' tk e hk he => ?_) (F.args_zip_next_1 _))))
  obtain ⟨o, ho, hc⟩ := he
  refine wpAny_bind (wpAny_isInstance (T := "StopIteration") (b := true) ⟨o, ho, hc⟩ isSubtype_stop ?_)
  exact wpAny_pure (hQ _ _ hk)

/-- zip over a text and a tuple as the argument of dict() -/
theorem zip_arg {x : Str} {t : Tok} {l : Addr} {ys : Array Value} (S : ZipSep2 z TI TO i1 i2 [i1] [i2, l]) (hl : l ≠ i2) (lz : l ≠ z) (lT : l ≠ TO) (l1 : l ≠ i1) :
    PairArg prog w "zip" z [z, TI, TO, i1, i2, l] [z, TO, i1, i2] (min x.cps.size ys.size) (fun i k v => (∃ c u, x.cps[i]? = some c ∧ k = .str ⟨#[c]⟩ u) ∧ ys[i]? = some v)
      (fun h => IsZip h z TI TO .none ∧ IsTupOf2 h TI (.ref i1) (.ref i2) ∧ (∃ a b, IsTupOf2 h TO a b) ∧ h.IsStrIter i1 (strIterType x) x t 0 ∧ h.IsTupleIter i2 l 0 ∧ h.IsTuple l ys) where
  type := fun s ok => ⟨_, ok.1, rfl⟩
  notDict := by decide
  keep := fun h h' ok hk => by
    obtain ⟨hz, hTI, ⟨a, b, hTO⟩, h1, h2, hl1⟩ := ok
    exact ⟨hk _ _ hz, hk _ _ hTI, ⟨a, b, hk _ _ hTO⟩, (let ⟨o, ho, r⟩ := h1; ⟨o, hk _ _ ho, r⟩), h2.at fun o e => hk _ o e, hl1.at fun o e => hk _ o e⟩
  there := fun h ok b hb => by
    obtain ⟨hz, hTI, ⟨a, c, hTO⟩, ⟨o1, h1, _⟩, ⟨o2, h2, _⟩, ⟨o3, hl1, _⟩⟩ := ok
    simp only [List.mem_cons, List.not_mem_nil, or_false] at hb
    rcases hb with rfl | rfl | rfl | rfl | rfl | rfl
    all_goals first | exact ⟨_, hz⟩ | exact ⟨_, hTI⟩ | exact ⟨_, hTO⟩ | exact ⟨_, h1⟩ | exact ⟨_, h2⟩ | exact ⟨_, hl1⟩
  sub := fun b hb => by simp at hb ⊢; rcases hb with rfl | rfl | rfl | rfl <;> simp
  noKeys := fun A s Q E hA ok h => getAttrOr_miss_zip ok.1 rfl rfl rfl zip_no_keys (by decide +kernel) hA h
  iter := fun A s d Q E hA ok hd hdf h => by
    obtain ⟨hz, hTI, ⟨a, b, hTO⟩, h1, h2, hl1⟩ := ok
    simp only [List.mem_cons, List.not_mem_nil, or_false, not_or] at hdf
    obtain ⟨dz, dTI, dTO, di1, di2, dl⟩ := hdf
    have D1 := Draws.text (prog := prog) (w := w) (A := A.in1) hA i1 x t
    have D2 := Draws.tuple (prog := prog) (w := w) (A := A.in1) hA i2 l hl ys
    refine wpAny_pyIter_zip hz (h z [z, TO, i1, i2] (fun i h => IsTupOf2 h TI (.ref i1) (.ref i2) ∧ h.IsStrIter i1 (strIterType x) x t i ∧ (h.IsTupleIter i2 l i ∧ h.IsTuple l ys) ∧
      ((IsZip h z TI TO .none ∧ ∃ a b, IsTupOf2 h TO a b) ∨ ∃ T f oT, IsZipHeld h z TI TO T f ∧ h.get? T = some oT ∧ T ≠ z ∧ T ≠ i1 ∧ T ≠ i2 ∧ T ≠ d)) s.heap s.toks ?_
      ⟨hTI, h1, ⟨h2, hl1⟩, .inl ⟨hz, a, b, hTO⟩⟩ (fun _ _ e => e) fun b hb => .inl hb)
    exact {
      off := fun hm => by
        simp only [List.mem_cons, List.not_mem_nil, or_false] at hm
        rcases hm with e | e | e | e
        · exact dz e
        · exact dTO e
        · exact di1 e
        · exact di2 e
      frame := fun i h1' h2' st hk => by
        obtain ⟨hTI, h1, ⟨h2, hl1⟩, hz⟩ := st
        refine ⟨hk _ _ (Ne.symm dTI) hTI, (let ⟨o, ho, r⟩ := h1; ⟨o, hk _ o (Ne.symm di1) ho, r⟩), ⟨h2.at fun o e => hk _ o (Ne.symm di2) e, hl1.at fun o e => hk _ o (Ne.symm dl) e⟩, ?_⟩
        rcases hz with ⟨hz, a, b, hTO⟩ | ⟨T, f, oT, hz, hT, r1, r2, r3, r4⟩
        · exact .inl ⟨hk _ _ (Ne.symm dz) hz, a, b, hk _ _ (Ne.symm dTO) hTO⟩
        · exact .inr ⟨T, f, oT, hk _ _ (Ne.symm dz) hz, hk _ _ r4 hT, r1, r2, r3, r4⟩
      item := fun i s1 Q1 E1 hi st hds hQ => by
        obtain ⟨hTI, h1, h2, hz⟩ := st
        have hix : i < x.cps.size := Nat.lt_of_lt_of_le hi (Nat.min_le_left ..)
        have hiy : i < ys.size := Nat.lt_of_lt_of_le hi (Nat.min_le_right ..)
        have lt : ∀ {c o}, s1.heap.get? c = some o → s1.heap.objs.size ≠ c := fun e => Nat.ne_of_gt (Heap.lt_size e)
        have n1 : s1.heap.objs.size ≠ i1 := let ⟨_, e, _⟩ := h1; lt e
        have n2 : s1.heap.objs.size ≠ i2 := let ⟨_, e, _⟩ := h2.1; lt e
        rcases hz with ⟨hz, a, b, hTO⟩ | ⟨T, f, oT, hz, hT, r1, r2, r3, r4⟩
        · refine wpAny_pyNext_zipD2_item (i := i) S D1 D2 hz hTI hTO h1 h2 hix hiy fun x1 x2 h' tk p1 p2 b1 b2 d1 d2 b5 b6 hk => ?_
          exact hQ s1.heap.objs.size x1 x2 h' tk ⟨p1, p2⟩ (.inl ⟨_, b5, rfl, _, rfl⟩)
            ⟨hk _ _ S.TIz S.TITO S.TIi1 S.TIi2 hTI, d1, d2, .inr ⟨s1.heap.objs.size, false, _, b1, b5, lt hz, n1, n2, Nat.ne_of_gt hds⟩⟩
            fun c o hc e => hk c o (fun q => hc (by simp [q])) (fun q => hc (by simp [q])) (fun q => hc (by simp [q])) (fun q => hc (by simp [q])) e
        · refine zheld_next (i := i) S D1 D2 hz hT hTI h1 h2 hix hiy fun x1 x2 h' tk p1 p2 b1 d1 d2 b5 b6 hk => ?_
          exact hQ s1.heap.objs.size x1 x2 h' tk ⟨p1, p2⟩ (.inl ⟨_, b5, rfl, _, rfl⟩)
            ⟨hk _ _ S.TIz S.TIi1 S.TIi2 hTI, d1, d2, .inr ⟨T, true, oT, b1, hk _ _ r1 r2 r3 hT, r1, r2, r3, r4⟩⟩
            fun c o hc e => hk c o (fun q => hc (by simp [q])) (fun q => hc (by simp [q])) (fun q => hc (by simp [q])) e
      done := fun s1 Q1 E1 st hQ => by
        obtain ⟨hTI, h1, h2, hz⟩ := st
        have m1 : min x.cps.size ys.size ≤ x.cps.size := Nat.min_le_left ..
        have m2 : min x.cps.size ys.size ≤ ys.size := Nat.min_le_right ..
        have m3 : min x.cps.size ys.size = x.cps.size ∨ min x.cps.size ys.size = ys.size := by omega
        rcases hz with ⟨hz, a, b, hTO⟩ | ⟨T, f, oT, hz, hT, r1, r2, r3, r4⟩
        · exact wpAny_pyNext_zipD2_end S D1 D2 hz hTI hTO h1 h2 m1 m2 m3 fun h' tk hk => hQ h' tk fun c o hc e => hk c o (fun q => hc (by simp [q])) (fun q => hc (by simp [q])) (fun q => hc (by simp [q])) (fun q => hc (by simp [q])) e
        · exact zheld_stop S D1 D2 hz hT hTI h1 h2 m1 m2 m3 fun h' tk hk => hQ h' tk fun c o hc e => hk c o (fun q => hc (by simp [q])) (fun q => hc (by simp [q])) (fun q => hc (by simp [q])) e }
end
/-- the pairs of a text's signs and values -/
def signPairs (z : Str) (vs : List V) : List (Key × V) := (z.cps.toList.map fun c => (Sum.inr ⟨#[c]⟩ : Key)).zip vs
theorem not_new5 {b N : Nat} (h : b < N) : ¬ (b = N + 4 ∨ b = N + 3 ∨ b = N ∨ b = N + 1) := by omega
theorem big_ne5 {a b c : Nat} (h : c < a) (e : b = a + 5) : b ≠ c := by omega
theorem le_of5 {a b : Nat} (e : b = a + 5) : a ≤ b := by omega
section
variable {X : Cx}
def tDictZip (K : PySem.W.Frag) (ta tb : TE) : TE := fun σ H Q => ta σ H fun x H1 => tb σ H1 fun y H2 => ∃ (z : Str) (a : Addr) (vs : List V), x = .str z ∧ y = .ref a ∧ SqT K H2 a vs ∧ z.cps.size = vs.length ∧
  ∀ p, H2 p = none → Q (.ref p) (upd H2 p (.dK (mergeK [] (signPairs z vs))))
theorem pe_dictZip {e1 e2 : Expr} {ta tb : TE} {p p2 pos pos2 : Pos} (hc : X.calm = true) (hg : Gl X "dict") (hm : X.mg "dict" = none) (hg2 : Gl X "zip") (hm2 : X.mg "zip" = none) (h1 : PE X e1 ta) (h2 : PE X e2 tb)
    (hs : starEach [e1, e2] X.env = (false, eval e1 X.env) :: starEach [e2] X.env := by rfl) (hs' : starEach [e2] X.env = (false, eval e2 X.env) :: starEach [] X.env := by rfl)
    (hs2 : starEach [.Call (.Name "zip" p2) [e1, e2] [] pos2] X.env = (false, eval (.Call (.Name "zip" p2) [e1, e2] [] pos2) X.env) :: starEach [] X.env := by rfl) :
    PE X (.Call (.Name "dict" p) [.Call (.Name "zip" p2) [e1, e2] [] pos2] [] pos) (tDictZip X.K ta tb) := by
  refine ⟨fun pins s σ H Q I h => ?_⟩
  refine Call_ (ld_blt I hg hm boot_dict (PyProof.Rows.callWith_type1 (args_cons (Call_ (ld_blt I hg2 hm2 PyProof.Rows.boot_zip (PyProof.Rows.callWith_type1 (args_cons (thn (h1.run pins s σ H _ I h) fun u1 s1 ⟨x, H1, I1, r1, q1⟩ =>
    args_cons (thn (h2.run pins s1 σ H1 _ I1 q1) fun u2 s2 ⟨y, H2, I2, r2, q2⟩ => args_nil ?_) hs') hs) hs (by rw [hs']; rfl)))) hs2) hs2 rfl))
  obtain ⟨z, a, vs, ex, ey, hq, hzl, q⟩ := q2
  subst ex
  subst ey
  obtain ⟨t, rfl⟩ := r1
  obtain rfl : u2 = Value.ref a := r2
  obtain ⟨its, rv, p', hz⟩ := I2.tuple hq
  have pT : s2.heap.IsTuple a its.toArray := p'
  have hl := rv.length
  obtain ⟨oa, hoa, _⟩ := id pT
  have alt : a < s2.heap.objs.size := Heap.lt_size hoa
  refine zip_begins2 (begins_text z t) (begins_tuple a its.toArray) trivial pT fun h' hz0 hTI hTO g1 g2 hsz hk => args_nil ?_
  have S := zip_sep2 (N := s2.heap.objs.size) (fp1 := []) (fp2 := [a]) (fun b hb => absurd hb (by simp)) (fun b hb => (List.mem_singleton.mp hb) ▸ alt)
  have ne : ∀ k, a ≠ s2.heap.objs.size + k := fun k => Nat.ne_of_lt (Nat.lt_of_lt_of_le alt (Nat.le_add_right _ _))
  have P := zip_arg (prog := X.prog) (w := X.w) (x := z) (t := t) (l := a) (ys := its.toArray) S (ne 1) (ne 4) (ne 3) (ne 0)
  let prs : List (Key × Value) := (z.cps.toList.map fun c => (Sum.inr ⟨#[c]⟩ : Key)).zip its
  have hn : prs.length = min z.cps.size its.toArray.size := by
    show ((z.cps.toList.map fun c => (Sum.inr ⟨#[c]⟩ : Key)).zip its).length = _
    rw [List.length_zip, List.length_map, List.size_toArray]
    rfl
  have hpairs : PairsHave (mixKind X.prog X.w) (min z.cps.size its.toArray.size) (fun i k v => (∃ c u, z.cps[i]? = some c ∧ k = Value.str ⟨#[c]⟩ u) ∧ its.toArray[i]? = some v) prs := by
    refine ⟨hn, fun i key v hr => ?_⟩
    obtain ⟨⟨c, u, hcx, rfl⟩, hv⟩ := hr
    refine ⟨Sum.inr ⟨#[c]⟩, ?_, keyIs_str ⟨#[c]⟩ u⟩
    show ((z.cps.toList.map fun c => (Sum.inr ⟨#[c]⟩ : Key)).zip its)[i]? = _
    rw [List.getElem?_zip_eq_some]
    refine ⟨?_, by simpa using hv⟩
    rw [List.getElem?_map, Array.getElem?_toList, hcx]
    rfl
  refine call_dict_pairs (knd := mixKind X.prog X.w) (kvs := prs) P (I2.ok.hd hc) ⟨hz0, hTI, ⟨_, _, hTO⟩, ⟨_, g1, rfl, rfl⟩, ⟨_, g2, rfl, rfl⟩, pT.at fun o e => hk _ o e⟩ hpairs ?_ fun h2 tk hd' hk2 => ?_
  · have : its.toArray.size ≤ sizeLine := by rw [List.size_toArray, ← hl]; exact hz
    omega
  · have rel : KV (signPairs z vs) prs := by
      have key : ∀ (ks : List Key) (xs : List V) (us : List Value), Vals xs us → KV (ks.zip xs) (ks.zip us) := by
        intro ks
        induction ks with
        | nil => intro xs us _; exact .nil
        | cons k ks ih =>
          intro xs us r
          cases r with
          | nil => exact .nil
          | cons a b => exact .cons ⟨rfl, a⟩ (ih _ _ b)
      exact key _ _ _ rv
    have hlen : (mergeK [] (signPairs z vs)).length ≤ sizeLine := by
      refine Nat.le_trans (length_mergeK (signPairs z vs) []) ?_
      show 0 + ((z.cps.toList.map fun c => (Sum.inr ⟨#[c]⟩ : Key)).zip vs).length ≤ _
      rw [List.length_zip]
      have := hz
      omega
    have hb : (h'.objs.size == sysModules) = false := by
      exact beq_eq_false_iff_ne.mpr (big_ne5 I2.big hsz)
    have old : ∀ b o, s2.heap.get? b = some o → h2.get? b = some o := fun b o e => by
      have lt := Heap.lt_size e
      refine hk2 b o (fun hm => ?_) (hk b o e)
      simp only [List.mem_cons, List.not_mem_nil, or_false] at hm
      exact not_new5 lt hm
    have le : s2.heap.objs.size ≤ h'.objs.size := le_of5 hsz
    exact ⟨.ref h'.objs.size, upd H2 h'.objs.size (.dK (mergeK [] (signPairs z vs))), I2.laid (t' := tk) old le (show ObjOk X.prog X.w _ _ _ (.dK _) from ⟨hlen, hb, merged [] prs, KV.merge rel .nil, hd'⟩), rfl, q _ (I2.hok.fresh le)⟩
end
end K61

namespace K61
open PySem PySem.Spec PyProof.Rows L2
/-- the text of one sign -/
def sg (c : Nat) : Str := ⟨#[c]⟩
/-! ### list(text) -/
theorem vals_of_get : ∀ (xs : List V) (us : List Value), xs.length = us.length → (∀ (i : Nat) (x : V) (u : Value), xs[i]? = some x → us[i]? = some u → RelV x u) → Vals xs us
  | [], [], _, _ => .nil
  | x :: xs, u :: us, h, k => .cons (k 0 x u rfl rfl) (vals_of_get xs us (by simpa using h) fun i y v a b => k (i + 1) y v (by simpa using a) (by simpa using b))
  | [], _ :: _, h, _ => by simp at h
  | _ :: _, [], h, _ => by simp at h
section
variable {X : Cx}
theorem call_list_txt (hc : X.calm = true) : CallR X (.type "list") (fun xs H Q => ∃ z : Str, xs = [.str z] ∧ z.cps.size ≤ sizeLine ∧ ∀ l, H l = none → Q (.ref l) (upd H l (.lst (z.cps.toList.map fun c => .str (sg c))))) := by
  intro pins s σ H xs us Q I r h
  obtain ⟨z, rfl, hz, q⟩ := h
  obtain ⟨u, rfl, t, rfl⟩ := vals1 r
  refine call_list_str (I.ok.hd hc) z t (fun h' tk acc c hk hS hi => ?_) hz
  have hv : Vals (z.cps.toList.map fun c => V.str (sg c)) acc.toList := by
    refine vals_of_get _ _ ?_ fun i x u hx hu => ?_
    · rw [List.length_map, Array.length_toList, Array.length_toList]
      exact hi.1.symm
    · rw [Array.getElem?_toList] at hu
      obtain ⟨d, w, hd, rfl⟩ := hi.2 i u hu
      rw [List.getElem?_map, Array.getElem?_toList, hd] at hx
      have hx' := Option.some.inj hx
      subst hx'
      exact ⟨w, rfl⟩
  have ln : (z.cps.toList.map fun c => V.str (sg c)).length ≤ sizeLine := by
    rw [List.length_map, Array.length_toList]
    exact hz
  refine ⟨.ref s.heap.objs.size, _, I.laid (t' := tk) (o := .lst (z.cps.toList.map fun c => .str (sg c))) hk (Nat.le_refl _) ⟨ln, acc.toList, c, hv, ?_⟩, rfl, q _ (I.hok.fresh (Nat.le_refl _))⟩
  rw [Array.toArray_toList]
  exact hS
/-! ### text[::-1] -/
def tRevS (te : TE) : TE := fun σ H Q => te σ H fun x H1 => ∃ z : Str, x = .str z ∧ z.length ≤ sizeLine ∧ Q (.str ⟨z.cps.toList.reverse.toArray⟩) H1
theorem pe_revS {e : Expr} {te : TE} {k : Nat} {p1 p2 p3 pos : Pos} (he : PE X e te) : PE X (.Subscript e (.Slice none none (some (.UnaryOp .USub (.Constant (.int 1) k p1) p2)) p3) pos) (tRevS te) := by
  refine ⟨fun pins s σ H Q I h => ?_⟩
  refine Subscript_ (thn (he.run pins s σ H _ I h) fun v s1 ⟨x, H1, I1, r1, q1⟩ => ?_)
  obtain ⟨z, ex, hz, q⟩ := q1
  subst ex
  obtain ⟨t, rfl⟩ := r1
  have hst : PO X (some (.UnaryOp .USub (.Constant (.int 1) k p1) p2)) (tPart (tUn (rU fun i => .int (-i)) (tC (.int 1)))) := po_some (pe_un un_neg pe_int)
  refine wpAny_Slice (thn (po_none.run pins s1 σ H1 (fun o H2 => o = none ∧ H2 = H1) I1 ⟨rfl, rfl⟩) fun vl s2 ⟨l, H2, I2, pl, el, e2⟩ => ?_)
  subst el e2
  refine thn (po_none.run pins s2 σ H2 (fun o H3 => o = none ∧ H3 = H2) I2 ⟨rfl, rfl⟩) fun vu s3 ⟨u, H3, I3, pu, eu, e3⟩ => ?_
  subst eu e3
  refine thn (hst.run pins s3 σ H3 (fun o H4 => o = some (-1) ∧ H4 = H3) I3 ⟨1, rfl, -1, rfl, rfl, rfl⟩) fun vs s4 ⟨o, H4, I4, ps, eo, e4⟩ => ?_
  subst eo e4
  obtain ⟨l0, rfl, el⟩ := IsPart.raw pl
  obtain ⟨u0, rfl, eu⟩ := IsPart.raw pu
  obtain ⟨st0, rfl, es⟩ := IsPart.raw ps
  have I5 : Inv X pins σ H4 { s4 with heap := s4.heap.push { cls := .type "slice", data := .fields #[partValue l0, partValue u0, partValue st0] } } := I4.kept (t' := s4.toks) fun b ob q => Heap.get?_push_of_some _ q
  show wpAny (model X.prog X.w) X.A (subscriptTail e (.Slice none none (some (.UnaryOp .USub (.Constant (.int 1) k p1) p2)) p3) (.str z t) (.ref s4.heap.objs.size)) (EP X pins σ Q) X.xe { s4 with heap := s4.heap.push { cls := .type "slice", data := .fields #[partValue l0, partValue u0, partValue st0] } }
  refine tail_any (ops := [.str z t, .ref s4.heap.objs.size]) (typeIs_str _ z t) PySem.F.slot_str_getitem.lookup ?_ (by with_unfolding_all rfl)
  refine wpAny_getItem_str_slice (l := l0) (u := u0) (st := st0) ⟨_, Heap.get?_push_size _ rfl, rfl, rfl⟩ (by rw [es]; rfl) ?_
  have pk : slicePicked z l0 u0 st0 = (List.range z.cps.size).reverse := by
    unfold slicePicked
    rw [el, eu, es]
    show sliceRange ((z.cps.size : Int) - 1) (-1) (-1) = _
    rw [PySem.W.krv_sliceRange, PySem.W.krv_range]
  unfold sliceMade
  rw [es, pk]
  rw [if_neg (by simp)]
  rw [List.filterMap_reverse, PySem.W.krv_all]
  refine ⟨?_, .str _, H4, I5.tok _, ⟨_, rfl⟩, q⟩
  show z.cps.toList.reverse.toArray.size ≤ sizeLine
  rw [List.size_toArray, List.length_reverse]
  exact hz
end
end K61

/-! The table of a set of tuples, larger than the library's: only what it holds, never in which order. -/
namespace K61
open PySem PySem.Spec PyProof.Rows L2

/-! ### i -> 5 i + 1 meets all of a power of two -/
def gx : Nat → Nat
  | 0 => 0
  | k + 1 => gx k * 5 + 1
theorem gx_plus (a : Nat) : ∀ k, gx (k + a) = 5 ^ k * gx a + gx k
  | 0 => by simp [gx]
  | k + 1 => by
    have e : k + 1 + a = (k + a) + 1 := by omega
    rw [e]
    show gx (k + a) * 5 + 1 = 5 ^ (k + 1) * gx a + (gx k * 5 + 1)
    rw [gx_plus a k, Nat.pow_succ, Nat.add_mul, Nat.mul_right_comm]
    omega
theorem five_odd : ∀ k, 5 ^ k % 4 = 1
  | 0 => rfl
  | k + 1 => by rw [Nat.pow_succ, Nat.mul_mod, five_odd k]
/-- gx (2^e) is 2^e times an odd number -/
theorem gx_two : ∀ e, ∃ q, gx (2 ^ e) = 2 ^ e * (2 * q + 1)
  | 0 => ⟨0, rfl⟩
  | e + 1 => by
    obtain ⟨q, h⟩ := gx_two e
    have h5 := five_odd (2 ^ e)
    obtain ⟨r, hr⟩ : ∃ r, 5 ^ (2 ^ e) = 4 * r + 1 := ⟨5 ^ (2 ^ e) / 4, by omega⟩
    have e2 : 2 ^ (e + 1) = 2 ^ e + 2 ^ e := by rw [Nat.pow_succ]; omega
    refine ⟨r * (2 * q + 1) + q, ?_⟩
    rw [e2, gx_plus, hr, h]
    generalize 2 ^ e = T
    have a1 : (4 * r + 1) * (T * (2 * q + 1)) + T * (2 * q + 1) = T * ((4 * r + 2) * (2 * q + 1)) := by
      rw [Nat.mul_left_comm T (4 * r + 2) (2 * q + 1)]
      exact (Nat.succ_mul (4 * r + 1) (T * (2 * q + 1))).symm
    rw [a1, show T + T = T * 2 by omega, Nat.mul_assoc]
    have a2 : (4 * r + 2) * (2 * q + 1) = 2 * (2 * (r * (2 * q + 1) + q) + 1) := by
      have e3 : 4 * r + 2 = 2 * (2 * r + 1) := by omega
      have e4 : (2 * r + 1) * (2 * q + 1) = 2 * r * (2 * q + 1) + (2 * q + 1) := Nat.succ_mul _ _
      rw [e3, Nat.mul_assoc 2 (2 * r + 1) (2 * q + 1), e4, Nat.mul_assoc 2 r (2 * q + 1)]
      generalize r * (2 * q + 1) = Z
      omega
    rw [a2]
theorem gx_all : ∀ e j, j < 2 ^ e → ∃ k, k < 2 ^ e ∧ gx k % 2 ^ e = j
  | 0, j, h => ⟨0, Nat.one_pos, by
    have h1 : j < 1 := h
    show 0 % 1 = j
    omega⟩
  | e + 1, j, h => by
    have e2 : 2 ^ (e + 1) = 2 * 2 ^ e := by rw [Nat.pow_succ]; omega
    have hT : 0 < 2 ^ e := Nat.pow_pos (by decide)
    obtain ⟨k, hk, hj⟩ := gx_all e (j % 2 ^ e) (Nat.mod_lt _ hT)
    obtain ⟨q, hq⟩ := gx_two e
    have h5 := five_odd k
    obtain ⟨r, hr⟩ : ∃ r, 5 ^ k = 2 * r + 1 := ⟨5 ^ k / 2, by omega⟩
    have hs : gx (k + 2 ^ e) = 2 ^ (e + 1) * ((2 * r + 1) * q + r) + 2 ^ e + gx k := by
      rw [gx_plus, hq, hr, e2]
      generalize 2 ^ e = T
      have a1 : (2 * r + 1) * (T * (2 * q + 1)) = T * (2 * ((2 * r + 1) * q + r) + 1) := by
        rw [Nat.mul_left_comm]
        congr 1
        rw [Nat.mul_add, Nat.mul_one, Nat.mul_left_comm]
        generalize (2 * r + 1) * q = Z
        omega
      rw [a1, Nat.mul_add, Nat.mul_one, ← Nat.mul_assoc, Nat.mul_comm T 2]
    have hs2 : gx (k + 2 ^ e) % 2 ^ (e + 1) = (2 ^ e + gx k) % 2 ^ (e + 1) := by
      rw [hs, Nat.add_assoc, Nat.mul_add_mod]
    rw [e2] at h hs2 ⊢
    generalize 2 ^ e = T at *
    -- both residues
    have g1 : gx k % (2 * T) = j ∨ (T + gx k) % (2 * T) = j := by
      generalize gx k = G at hj
      have d1 := Nat.div_add_mod G T
      have d2 := Nat.div_add_mod j T
      have m1 := Nat.mod_lt G hT
      have hj2 : j / T < 2 := Nat.div_lt_of_lt_mul (by rw [Nat.mul_comm]; exact h)
      rw [hj] at d1
      generalize j % T = J at *
      generalize G / T = A at *
      generalize j / T = B at *
      rcases Nat.mod_two_eq_zero_or_one (A + B) with z | z
      · left
        obtain ⟨c, hc⟩ : ∃ c, A = 2 * c + B := by
          by_cases hAB : B ≤ A
          · exact ⟨(A - B) / 2, by omega⟩
          · exact absurd z (by omega)
        have : G = 2 * T * c + j := by
          rw [← d1, ← d2, hc, Nat.mul_add, Nat.mul_left_comm T 2 c, ← Nat.mul_assoc, Nat.add_assoc]
        rw [this, Nat.mul_add_mod]
        exact Nat.mod_eq_of_lt h
      · right
        obtain ⟨c, hc⟩ : ∃ c, A + 1 = 2 * c + B := by
          exact ⟨(A + 1 - B) / 2, by omega⟩
        have : T + G = 2 * T * c + j := by
          rw [← d1, ← d2]
          have e3 : T + (T * A + J) = T * (A + 1) + J := by rw [Nat.mul_add, Nat.mul_one]; omega
          rw [e3, hc, Nat.mul_add, Nat.mul_left_comm T 2 c, ← Nat.mul_assoc, Nat.add_assoc]
        rw [this, Nat.mul_add_mod]
        exact Nat.mod_eq_of_lt h
    rcases g1 with g | g
    · exact ⟨k, by omega, g⟩
    · exact ⟨k + T, by omega, by rw [hs2]; exact g⟩
theorem lcg_gx {m T : Nat} (h : m + 1 = T) : ∀ k, lcgN m k = gx k % T
  | 0 => by rw [← h]; exact (Nat.mod_eq_of_lt (Nat.succ_pos _)).symm
  | k + 1 => by
    show (lcgN m k * 5 + 1) % (m + 1) = (gx k * 5 + 1) % T
    rw [lcg_gx h k, h, Nat.add_mod, Nat.mul_mod, Nat.mod_mod, ← Nat.mul_mod, ← Nat.add_mod]

/-- the tables' masks -/
def Msk (m : Nat) : Prop := ∃ e, m + 1 = 2 ^ e
theorem lcg_wrap {m : Nat} (h : Msk m) (k : Nat) : lcgN m (k + (m + 1)) = lcgN m k := by
  obtain ⟨e, he⟩ := h
  obtain ⟨q, hq⟩ := gx_two e
  rw [lcg_gx he, lcg_gx he, he, gx_plus, hq, Nat.mul_left_comm, Nat.mul_add_mod]
theorem from_any {m i j : Nat} (h : Msk m) (hi : i ≤ m) (hj : j ≤ m) : ∃ k, k ≤ m ∧ lcgI m i k = j := by
  have ⟨e, he⟩ := h
  obtain ⟨a, ha, ea⟩ := gx_all e i (by omega)
  obtain ⟨b, hb, eb⟩ := gx_all e j (by omega)
  rw [← lcg_gx he] at ea eb
  rw [← ea]
  by_cases c : a ≤ b
  · refine ⟨b - a, by omega, ?_⟩
    rw [lcgN_add, show a + (b - a) = b by omega, eb]
  · refine ⟨b + (m + 1) - a, by omega, ?_⟩
    rw [lcgN_add, show a + (b + (m + 1) - a) = b + (m + 1) by omega, lcg_wrap h, eb]
/-- some run begins at the slot -/
theorem run_at {m j : Nat} (hm : Msk m) (x : Int) (hj : j ≤ m) : ∃ n, n ≤ m + 12 ∧ runI m (SetTable.bits x) n = j := by
  obtain ⟨k, hk, e⟩ := from_any hm (runI_le m (SetTable.bits x) 12) hj
  refine ⟨12 + k, by omega, ?_⟩
  rw [runI_tail (bits_lt x)]
  exact e
/-- on the way each slot comes in time -/
theorem way_at {m j : Nat} (hm : Msk m) (x : Int) (hj : j ≤ m) : ∃ k, k < 10 * SetTable.turns m ∧ way m x k = j := by
  obtain ⟨n, hn, e⟩ := run_at hm x hj
  obtain ⟨k, hk, e2⟩ := run_nth m (SetTable.bits x) n
  refine ⟨k, by unfold SetTable.turns; omega, ?_⟩
  show (nth m _ k).j = j
  rw [e2, ← e] <;> rfl
theorem way_in (m : Nat) (x : Int) (k : Nat) : way m x k ≤ m := by
  have hi : SetTable.bits x % (m + 1) < m + 1 := Nat.mod_lt _ (Nat.succ_pos _)
  have r := runEnd_bd (show SetTable.bits x % (m + 1) ≤ m by omega)
  have q := nth_in (m := m) k (runAt m (SetTable.bits x % (m + 1)) (SetTable.bits x)) (by
    dsimp only [runAt]
    omega)
  exact Nat.le_trans (Nat.le_add_right _ _) q
/-- the first slot of the way that is not of the list -/
theorem way_free {m : Nat} (hm : Msk m) (l : List Nat) (hl : l.length ≤ m) (x : Int) : ∃ K, K < 10 * SetTable.turns m ∧ way m x K ∉ l ∧ ∀ k, k < K → way m x k ∈ l := by
  obtain ⟨j, hj, hn⟩ := st_missing l (m + 1) (by omega)
  obtain ⟨k, hk, e⟩ := way_at hm x (show j ≤ m by omega)
  obtain ⟨K, h1, h2, h3⟩ := st_least (p := fun k => way m x k ∉ l) k (by rw [e]; exact hn)
  exact ⟨K, by omega, h2, fun k' h => Classical.byContradiction fun z => h3 k' h z⟩

/-! ### laying anew -/
/-- so many have a seat -/
structure Seats (m n : Nat) (ow : Array (Option Nat)) : Prop where
  size : ow.size = m + 1
  each : ∀ k, k < n → ∃ j, j ≤ m ∧ oAt ow j = some k
  few : ∃ ps : List Nat, ps.length = n ∧ ∀ j, j ≤ m → oAt ow j ≠ none → j ∈ ps
theorem Seats.none (m : Nat) : Seats m 0 (Array.replicate (m + 1) none) :=
  ⟨Array.size_replicate, fun k h => absurd h (Nat.not_lt_zero _), [], rfl, fun j h z => absurd (oAt_init h) z⟩
/-- the next one finds a seat -/
theorem Seats.next {m n : Nat} {ow : Array (Option Nat)} (hm : Msk m) (S : Seats m n ow) (hn : n ≤ m) (x : Int) :
    ∃ j, SetTable.layClean.free m ow (SetTable.turns m) (SetTable.bits x % (m + 1)) (SetTable.bits x) = some j ∧ Seats m (n + 1) (ow.setIfInBounds j (some n)) := by
  obtain ⟨ps, hps, hin⟩ := S.few
  obtain ⟨j0, h0, hn0⟩ := st_missing ps (m + 1) (by omega)
  obtain ⟨r, hr, er⟩ := run_at hm x (show j0 ≤ m by omega)
  -- that slot is free, so some slot of the way is the first free one
  have hfree : oAt ow j0 = Option.none := Classical.byContradiction fun z => hn0 (hin j0 (by omega) z)
  have hway : way m x (off m (SetTable.bits x % (m + 1)) (SetTable.bits x) r) = j0 := by
    show (nth m _ _).j = j0
    rw [nth_off, itL_run, er] <;> rfl
  obtain ⟨K, k1, k2, k3⟩ := st_least (p := fun k => oAt ow (way m x k) = Option.none) _ (by rw [hway]; exact hfree)
  have hj : way m x K ≤ m := way_in m x K
  have found := free_spec m ow (SetTable.turns m) r _ _ K (by unfold SetTable.turns; omega) k1
    (fun k hk => by
      cases z : oAt ow (way m x k) with
      | none => exact absurd z (k3 k hk)
      | some _ => rfl)
    (congrArg Option.isNone (show oAt ow (way m x K) = Option.none from k2))
  refine ⟨way m x K, found, ?_, fun k hk => ?_, way m x K :: ps, by rw [List.length_cons, hps], fun j hjm z => ?_⟩
  · rw [Array.size_setIfInBounds]
    exact S.size
  · by_cases c : k = n
    · subst c
      exact ⟨way m x K, hj, oAt_set_self _ (by rw [S.size]; omega)⟩
    · obtain ⟨j, h1, h2⟩ := S.each k (by omega)
      have ne : j ≠ way m x K := fun z => by
        rw [z, k2] at h2
        cases h2
      exact ⟨j, h1, by rw [oAt_set_ne _ ne]; exact h2⟩
  · by_cases c : j = way m x K
    · exact c ▸ List.mem_cons_self
    · rw [oAt_set_ne _ c] at z
      exact List.mem_cons_of_mem _ (hin j hjm z)
theorem seat_all {m : Nat} (hm : Msk m) : ∀ (xs : List Int) (n : Nat) (ow : Array (Option Nat)), Seats m n ow → n + xs.length ≤ m →
    ∃ ow', xs.foldl (stepF m) (some (ow, n)) = some (ow', n + xs.length) ∧ Seats m (n + xs.length) ow'
  | [], n, ow, S, _ => ⟨ow, rfl, S⟩
  | x :: xs, n, ow, S, h => by
    have h' : n + 1 + xs.length ≤ m := by
      rw [List.length_cons] at h
      omega
    obtain ⟨j, e, S'⟩ := S.next hm (by omega) x
    obtain ⟨ow', f, S2⟩ := seat_all hm xs (n + 1) _ S' h'
    have el : n + 1 + xs.length = n + (x :: xs).length := by
      rw [List.length_cons]
      omega
    rw [el] at f S2
    exact ⟨ow', by rw [List.foldl_cons, stepF_some e]; exact f, S2⟩
/-- a table of all of them -/
theorem anew (t : SetTable) {xs : Array Int} {want M : Nat} (hw : SetTable.sizeAbove want - 1 = M) (hM : Msk M) (hn : xs.size ≤ M) :
    ∃ t' order, t.relaid xs want = some (t', order) ∧ order.toList.Perm (List.range xs.size) ∧ Ris t'.place.toList ∧ t'.place.size = xs.size ∧ t'.mask = M ∧ t'.led = t.led ∧ t'.plain = t.plain ∧ t'.dummies = #[] := by
  obtain ⟨ow, f, S⟩ := seat_all hM xs.toList 0 _ (Seats.none M) (by rw [Array.length_toList]; omega)
  rw [Array.length_toList, Nat.zero_add] at f S
  have e : t.relaid xs want = some (tabOf t M ow, ((liveOf M ow).map (·.2)).toArray) := by
    rw [relaid_eq, hw, layClean_eq, f] <;> rfl
  have r := (relaid_ris e).1
  have nd : ((liveOf M ow).map (·.1)).Nodup := List.Pairwise.imp (fun h => Nat.ne_of_lt h) (show Ris ((liveOf M ow).map (·.1)) from r)
  obtain ⟨ps, p1, p2⟩ := S.few
  have up : (liveOf M ow).length ≤ xs.size := by
    have q := nat_nodup_len _ ps nd fun j hj => by
      obtain ⟨⟨j', k⟩, hq, rfl⟩ := List.mem_map.mp hj
      obtain ⟨b1, b2⟩ := (mem_live S.size).1 hq
      exact p2 _ b1 (by rw [b2]; simp)
    rwa [List.length_map, p1] at q
  have cov : ∀ k, k < xs.size → k ∈ (liveOf M ow).map (·.2) := fun k hk => by
    obtain ⟨j, b1, b2⟩ := S.each k hk
    exact List.mem_map.mpr ⟨(j, k), (mem_live S.size).2 ⟨b1, b2⟩, rfl⟩
  have dn := nat_nodup_len (List.range xs.size) ((liveOf M ow).map (·.2)) List.nodup_range fun k hk => cov k (List.mem_range.mp hk)
  rw [List.length_map, List.length_range] at dn
  have hl : (liveOf M ow).length = xs.size := Nat.le_antisymm up dn
  refine ⟨_, _, e, perm_range _ _ (by rw [List.length_map]; exact hl) cov, r, ?_, rfl, rfl, rfl, rfl⟩
  show ((liveOf M ow).map (·.1)).toArray.size = xs.size
  rw [List.size_toArray, List.length_map]
  exact hl
end K61

/-! A set of tuples of ints that holds up to 2048 of them; told is only which are in it. -/
namespace K61
open PySem PySem.Spec PyProof.Rows L2

/-- the masks that a growing set has, with what it grows to -/
def Grow (m : Nat) : Prop := m = 7 ∨ m = 31 ∨ m = 127 ∨ m = 511 ∨ m = 2047 ∨ m = 8191
theorem Grow.msk {m : Nat} (h : Grow m) : Msk m := by
  rcases h with e | e | e | e | e | e
  · exact ⟨3, by rw [e]⟩
  · exact ⟨5, by rw [e]⟩
  · exact ⟨7, by rw [e]⟩
  · exact ⟨9, by rw [e]⟩
  · exact ⟨11, by rw [e]⟩
  · exact ⟨13, by rw [e]⟩
theorem Grow.le {m : Nat} (h : Grow m) : m ≤ 8191 := by
  rcases h with e | e | e | e | e | e <;> omega
theorem Grow.odd {m : Nat} (h : Grow m) : m % 2 = 1 := by
  rcases h with e | e | e | e | e | e <;> subst e <;> rfl
theorem Grow.up {m n : Nat} (h : Grow m) (h1 : n * 5 < m * 3) (h2 : m * 3 ≤ (n + 1) * 5) (h3 : n < 2048) :
    ∃ M, SetTable.sizeAbove (SetTable.grown (n + 1)) - 1 = M ∧ Grow M ∧ SetTable.sizeAbove (SetTable.grown (n + 1)) ≤ 8192 ∧ (n + 1) * 5 < M * 3 := by
  rcases h with e | e | e | e | e | e
  · have q : n = 4 := by omega
    subst q
    exact ⟨31, by decide +kernel, .inr (.inl rfl), by decide +kernel, by decide⟩
  · have q : n = 18 := by omega
    subst q
    exact ⟨127, by decide +kernel, .inr (.inr (.inl rfl)), by decide +kernel, by decide⟩
  · have q : n = 76 := by omega
    subst q
    exact ⟨511, by decide +kernel, .inr (.inr (.inr (.inl rfl))), by decide +kernel, by decide⟩
  · have q : n = 306 := by omega
    subst q
    exact ⟨2047, by decide +kernel, .inr (.inr (.inr (.inr (.inl rfl)))), by decide +kernel, by decide⟩
  · have q : n = 1228 := by omega
    subst q
    exact ⟨8191, by decide +kernel, .inr (.inr (.inr (.inr (.inr rfl)))), by decide +kernel, by decide⟩
  · exact absurd h2 (by omega)

section
variable {P : Program} {w : World} {A : Around} {E : Value → Shared → Prop} {s : Shared}

/-- what the set at a is: its rows are the tuples of L -/
structure Bag (P : Program) (w : World) (h : Heap) (a : Addr) (L : List (Addr × List Int)) (es : Array (Int × Value)) (ep : Nat) (t : SetTable) : Prop where
  obj : ∃ o, h.get? a = some o ∧ o.ExactSet ∧ o.data = .set es ep t
  rows : es.toList.map (·.2) = L.map fun p => Value.ref p.1
  ris : Ris t.place.toList
  bare : t.dummies = #[]
  size : t.place.size = L.length
  grow : Grow t.mask
  tups : ∀ p ∈ L, IsT P w h p.2 p.1
  plain : t.plain = true
  led : w.params.followText "set-order" = true ∨ t.led = true
  room : L.length * 5 < t.mask * 3
  few : L.length ≤ 2048
variable {a : Addr} {L : List (Addr × List Int)} {es : Array (Int × Value)} {ep : Nat} {t : SetTable}
theorem Bag.esize {h : Heap} (B : Bag P w h a L es ep t) : es.size = L.length := by
  have q := congrArg List.length B.rows
  rwa [List.length_map, List.length_map, Array.length_toList] at q
theorem fits_of {t : SetTable} {n : Nat} (h1 : t.dummies = #[]) (h2 : t.place.size = n) (h3 : n ≤ t.mask) : t.fits n = true := by
  unfold SetTable.fits SetTable.fill
  rw [h1, h2]
  simp [h3]
theorem Bag.fits {h : Heap} (B : Bag P w h a L es ep t) : t.fits es.size = true := by
  have r := B.room
  exact fits_of B.bare (B.size.trans B.esize.symm) (by rw [B.esize]; omega)
theorem Bag.at {h : Heap} (B : Bag P w h a L es ep t) {i : Nat} (hi : i < L.length) : ∃ g, es[i]? = some (g, Value.ref L[i].1) := by
  have q := congrArg (fun l => l[i]?) B.rows
  simp only [List.getElem?_map, List.getElem?_eq_getElem hi, Option.map_some] at q
  obtain ⟨⟨g, v⟩, e1, e2⟩ := Option.map_eq_some_iff.mp q
  refine ⟨g, ?_⟩
  rw [← Array.getElem?_toList, e1, show v = Value.ref L[i].1 from e2]
theorem nth_dummy (m : Nat) : ∀ (n : Nat) (p : SetTable.Probe), p.dummy = none → (nth m p n).dummy = none
  | 0, _, h => h
  | n + 1, p, h => nth_dummy m n (adv m p) (by unfold adv; split <;> exact h)

/-- the search by which a tuple is added -/
theorem Bag.search (B : Bag P w s.heap a L es ep t) {x : Addr} {k : List Int} (hx : IsT P w s.heap k x) (hu : A.units < cLine) (g : Int) {K : Nat} (hf : K < 10 * SetTable.turns t.mask) (hK : way t.mask g K ∉ t.place.toList)
    (hb : ∀ c, c < K → way t.mask g c ∈ t.place.toList) {Q : SetFound → Shared → Prop} (yes : (∃ p ∈ L, p.2 = k) → Q (.there none) s) (no : Q (.free (way t.mask g K) false) s) :
    ∀ (n c : Nat) (st : Option SetTable.Probe), st.getD (t.probeStart g) = nth t.mask (t.probeStart g) c → c ≤ K → K - c < n → wpAny (model P w) A (setSearchFrom a (.ref x) g true n st) Q E s := by
  intro n
  induction n with
  | zero => intro c st _ _ h; exact absurd h (Nat.not_lt_zero _)
  | succ n ih =>
    intro c st hst hc hn
    obtain ⟨o, ho, hex, hd⟩ := B.obj
    rw [setSearchFrom_succ]
    refine wpAny_bind (wpAny_setState_of ho hd B.fits ?_)
    dsimp only
    refine wp_if_neg (by unfold SetTable.gaveWay; rw [B.grow.odd]; decide) ?_
    try refine wpAny_bind (wpAny_pure ?_)
    have sh : ∀ q, nth t.mask (nth t.mask (t.probeStart g) c) q = nth t.mask (t.probeStart g) (c + q) := fun q => (nth_add t.mask c _ q).symm
    have word := go_spec t B.ris B.bare (fun i => (es[i]?.map (·.1)).getD 0) g (10 * SetTable.turns t.mask) (K - c) (nth t.mask (t.probeStart g) c) (nth_dummy _ _ _ rfl) (by omega)
      (fun q hq => by rw [sh]; exact hb (c + q) (by omega)) (by rw [sh, Nat.add_sub_cancel' hc]; exact hK)
    rw [hst]
    rcases word with ⟨q, i, hq, hi, _, _, e⟩ | ⟨_, e⟩
    · rw [show t.probe (fun i => (es[i]?.map (·.1)).getD 0) g (nth t.mask (t.probeStart g) c) = _ from e]
      dsimp only
      rw [sh] at hi
      have hil : i < L.length := by
        rw [← B.size, ← Array.length_toList]
        exact (List.getElem?_eq_some_iff.mp hi).1
      have ht := B.tups L[i] (List.getElem_mem hil)
      obtain ⟨g', he⟩ := B.at hil
      have rest : wpAny (model P w) A (searchRest a (.ref x) g true n es t (nth t.mask (nth t.mask (t.probeStart g) c) q).j i (nth t.mask (nth t.mask (t.probeStart g) c) (q + 1))) Q E s := by
        unfold searchRest
        rw [he]
        dsimp only
        refine wpAny_bind (wpAny_holding (wpAny_eqBool_tuple hu ht hx ?_))
        refine wpAny_bind (wpAny_setState_of ho hd B.fits ?_)
        dsimp only
        by_cases same : L[i].2 = k
        · exact wp_if_pos (by simp [same]) (wpAny_pure (yes ⟨_, List.getElem_mem hil, same⟩))
        · refine wp_if_neg (by simp [same]) ?_
          try refine wpAny_bind (wpAny_pure ?_)
          have live : t.slot (nth t.mask (nth t.mask (t.probeStart g) c) q).j = .live i := by
            rw [sh]
            exact slot_live B.ris hi
          simp only [sameMem, if_true, live, he]
          refine wpAny_bind (wpAny_isSame_ref_self (wpAny_bind (wpAny_pure ?_)))
          simp only [if_true]
          refine wp_if_neg (by simp [same]) ?_
          refine ih (c + (q + 1)) _ ?_ (by omega) (by omega)
          exact sh (q + 1)
      by_cases hl : t.led = true
      · refine wp_if_neg (by simp [hl]) ?_
        first
          | exact rest
          | exact wpAny_bind (wpAny_pure rest)
      · refine wp_if_pos (by simp [hl]) ?_
        refine wpAny_bind (seen_tup hx (fun y hy => ?_) ?_)
        · obtain ⟨e0, h0, rfl⟩ := List.mem_map.mp hy
          have h1 : e0 ∈ es.toList := by
            have h2 : e0 ∈ es ∧ e0.1 = g := by simpa using h0
            simpa using h2.1
          have h3 : e0.2 ∈ L.map fun p => Value.ref p.1 := by
            rw [← B.rows]
            exact List.mem_map.mpr ⟨e0, h1, rfl⟩
          obtain ⟨p, hp, e4⟩ := List.mem_map.mp h3
          exact ⟨p.2, p.1, e4.symm, B.tups p hp⟩
        · refine wp_if_neg (by decide) ?_
          first
            | exact rest
            | exact wpAny_bind (wpAny_pure rest)
    · rw [sh, Nat.add_sub_cancel' hc] at e
      rw [show t.probe (fun i => (es[i]?.map (·.1)).getD 0) g (nth t.mask (t.probeStart g) c) = _ from e]
      exact wpAny_pure no

theorem ins_perm {α : Type} (l : List α) (p : Nat) (x : α) : (l.take p ++ x :: l.drop p).Perm (x :: l) := by
  have h := List.perm_middle (a := x) (l₁ := l.take p) (l₂ := l.drop p)
  rwa [List.take_append_drop] at h
theorem pick_all {α : Type} (l : List α) {o : List Nat} (ho : o.Perm (List.range l.length)) : (o.filterMap fun i => l[i]?).Perm l := by
  have h := ho.filterMap fun i => l[i]?
  have e : (List.range l.length).filterMap (fun i => l[i]?) = l := by
    clear h ho
    induction l with
    | nil => rfl
    | cons x l ih =>
      rw [List.length_cons, List.range_succ_eq_map, List.filterMap_cons_some (f := fun i => (x :: l)[i]?) (a := 0) (b := x) rfl, List.filterMap_map]
      congr 1
  rwa [e] at h
theorem pick_map {α β : Type} (f : α → β) (l : List α) (o : List Nat) : (o.filterMap fun i => l[i]?).map f = o.filterMap fun i => (l.map f)[i]? := by
  rw [List.map_filterMap]
  congr 1
  funext i
  rw [List.getElem?_map]

/-- the table made anew, larger -/
theorem bag_relay {o : Obj} (ho : s.heap.get? a = some o) (hex : o.ExactSet) (hd : o.data = .set es ep t) (rows : es.toList.map (·.2) = L.map fun p => Value.ref p.1) (h1 : t.dummies = #[]) (h2 : t.place.size = es.size) (h3 : es.size ≤ t.mask)
    (tups : ∀ p ∈ L, IsT P w s.heap p.2 p.1) (pl : t.plain = true) (ld : w.params.followText "set-order" = true ∨ t.led = true) (few : L.length ≤ 2048) {want M : Nat} (hw : SetTable.sizeAbove want - 1 = M) (hM : Grow M) (hw2 : SetTable.sizeAbove want ≤ 8192)
    (room : L.length * 5 < M * 3) {Q : Unit → Shared → Prop} (hQ : ∀ h' L' es' ep' t', Heap.SameBut a s.heap h' → Bag P w h' a L' es' ep' t' → L'.Perm L → Q () { s with heap := h' }) : wpAny (model P w) A (setRelay a want) Q E s := by
  have hsl : es.size = L.length := by
    have q := congrArg List.length rows
    rwa [List.length_map, List.length_map, Array.length_toList] at q
  obtain ⟨t', od, e, hp, hr, hz, em, el, epl, ed⟩ := anew t (xs := es.map (·.1)) hw hM.msk (by rw [Array.size_map, hsl]; omega)
  rw [Array.size_map] at hp hz
  have p1 : (od.filterMap (es[·]?)).toList = od.toList.filterMap fun i => es.toList[i]? := by
    rw [Array.toList_filterMap]
    congr 1
    funext i
    exact Array.getElem?_toList.symm
  have p2 : (od.filterMap (es[·]?)).toList.map (·.2) = (od.toList.filterMap fun i => L[i]?).map fun p => Value.ref p.1 := by
    rw [p1, pick_map, rows, pick_map]
  have p3 : (od.toList.filterMap fun i => L[i]?).Perm L := pick_all L (by rw [← hsl]; exact hp)
  have p4 : (od.filterMap (es[·]?)).size = es.size := by
    have q := congrArg List.length p2
    rw [List.length_map, List.length_map, Array.length_toList, p3.length_eq] at q
    rw [q, hsl]
  rw [setRelay_eq]
  refine wpAny_bind (wpAny_setState_of ho hd (fits_of h1 h2 h3) ?_)
  dsimp only
  refine wp_if_neg (by rw [sizeLine_eq]; omega) ?_
  try refine wpAny_bind (wpAny_pure ?_)
  rw [e]
  dsimp only
  refine wpAny_bind (wp_if_neg (by rw [p4]; simp) ?_)
  first
    | refine wpAny_bind (wpAny_pure (wpAny_pure ?_))
    | refine wpAny_pure ?_
  dsimp only
  refine wpAny_storeSet_of ho hd ?_ (by rw [p4, hsl, sizeLine_eq]; omega)
  have sb : Heap.SameBut a s.heap (s.heap.update a (Obj.putSet (od.filterMap (es[·]?)) t')) := Heap.SameBut.update ..
  exact hQ _ _ _ (ep + 1) t' sb ⟨⟨_, store_at ho hd, ⟨hex.1, hex.2.1, hex.2.2⟩, rfl⟩, p2, hr, ed, by rw [hz, hsl, p3.length_eq], by rw [em]; exact hM, fun p hm => isT_same (tups p (p3.mem_iff.mp hm)) ho hd sb,
    by rw [epl]; exact pl, by rw [el]; exact ld, by rw [p3.length_eq, em]; exact room, by rw [p3.length_eq]; exact few⟩ p3

/-- one is added -/
theorem Bag.add (B : Bag P w s.heap a L es ep t) {x : Addr} {k : List Int} (hx : IsT P w s.heap k x) (hu : A.units < cLine) (few : L.length < 2048) {g : Int} {Q : Bool → Shared → Prop}
    (hQ : ∀ b h' L' es' ep' t', Heap.SameBut a s.heap h' → Bag P w h' a L' es' ep' t' → (L' = L ∧ (∃ p ∈ L, p.2 = k)) ∨ L'.Perm ((x, k) :: L) → Q b { s with heap := h' }) :
    wpAny (model P w) A (setAddHashed a (.ref x) g) Q E s := by
  obtain ⟨o, ho, hex, hd⟩ := B.obj
  have hroom := B.room
  have hmask := B.grow.le
  have hes := B.esize
  obtain ⟨K, kf, kn, kb⟩ := way_free B.grow.msk t.place.toList (by rw [Array.length_toList, B.size]; omega) g
  unfold setAddHashed
  refine wpAny_holding ?_
  rw [show (100000 : Nat) = 99999 + 1 from rfl, setAddHashedIn_succ]
  refine wpAny_bind (wpAny_setState_of ho hd B.fits ?_)
  dsimp only
  refine wp_if_neg (by simp [byScan, Value.scannable]) ?_
  try refine wpAny_bind (wpAny_pure ?_)
  refine wpAny_bind (m := setSearch a (.ref x) g true) ?_
  unfold setSearch
  have big : K - 0 < 100000 := by
    unfold SetTable.turns at kf
    omega
  refine B.search hx hu g kf kn kb (fun old => ?_) ?_ 100000 0 none rfl (Nat.zero_le _) big
  · exact wpAny_pure (hQ false s.heap L es ep t (Heap.SameBut.refl a s.heap) B (.inl ⟨rfl, old⟩))
  · dsimp only
    refine wpAny_bind (wpAny_setState_of ho hd B.fits ?_)
    have nothere : t.place[SetTable.below t.place (way t.mask g K)]? ≠ some (way t.mask g K) := fun z => kn (List.mem_of_getElem? (by rw [Array.getElem?_toList]; exact z))
    have a1 := ris_insert B.ris nothere
    have a2 := put_place t (way t.mask g K)
    have a3 := put_dm B.bare (way t.mask g K)
    have hle : SetTable.below t.place (way t.mask g K) ≤ t.place.toList.length := by
      rw [Array.length_toList]
      exact (below_cut B.ris (way t.mask g K)).1
    have a4 : (t.put (way t.mask g K)).1.place.size = L.length + 1 := by
      rw [← Array.length_toList, a2, len_ins _ hle, Array.length_toList, B.size]
    have a5 : (t.put (way t.mask g K)).1.mask = t.mask := rfl
    have a6 : (t.put (way t.mask g K)).1.led = t.led := rfl
    have a7 : (t.put (way t.mask g K)).1.plain = true := B.plain
    have a8 : Ris (t.put (way t.mask g K)).1.place.toList := a1
    have a9 : (t.put (way t.mask g K)).2 = SetTable.below t.place (way t.mask g K) := rfl
    clear a1 a2
    dsimp only
    generalize t.put (way t.mask g K) = tp at a3 a4 a5 a6 a7 a8 a9 ⊢
    obtain ⟨t1, p⟩ := tp
    dsimp only at a3 a4 a5 a6 a7 a8 a9 ⊢
    rw [← a9] at hle
    first
      | (refine wpAny_bind (wp_if_pos a7 ?_); refine hashBy_tup hx ?_)
      | refine wp_if_pos a7 (wpAny_bind (hashBy_tup hx ?_))
    simp only [if_true]
    have row : (SetTable.insertAt es p (g, Value.ref x)).toList.map (·.2) = (L.take p ++ (x, k) :: L.drop p).map fun q => Value.ref q.1 := by
      rw [SetTable.toList_insertAt, List.map_append, List.map_cons, List.map_take, List.map_drop, B.rows, List.map_append, List.map_cons, List.map_take, List.map_drop]
    have pm := ins_perm L p (x, k)
    have hlen : (L.take p ++ (x, k) :: L.drop p).length = L.length + 1 := pm.length_eq
    generalize L.take p ++ (x, k) :: L.drop p = L1 at row pm hlen
    have he1 : (SetTable.insertAt es p (g, Value.ref x)).size = L.length + 1 := by
      have q := congrArg List.length row
      rwa [List.length_map, List.length_map, Array.length_toList, hlen] at q
    generalize SetTable.insertAt es p (g, Value.ref x) = es1 at row he1 ⊢
    refine wpAny_bind (wpAny_storeSet_of ho hd ?_ (by rw [he1, sizeLine_eq]; omega))
    have sb : Heap.SameBut a s.heap (s.heap.update a (Obj.putSet es1 t1)) := Heap.SameBut.update ..
    have ho1 := store_at (es' := es1) (t' := t1) ho hd
    generalize s.heap.update a (Obj.putSet es1 t1) = h1 at sb ho1 ⊢
    have tup1 : ∀ q ∈ L1, IsT P w h1 q.2 q.1 := fun q hq => by
      rcases List.mem_cons.mp (pm.mem_iff.mp hq) with z | z
      · rw [z]
        exact isT_same hx ho hd sb
      · exact isT_same (B.tups q z) ho hd sb
    have led1 : w.params.followText "set-order" = true ∨ t1.led = true := by
      rw [a6]
      exact B.led
    have fill : t1.tooFull = decide ((L.length + 1) * 5 ≥ t.mask * 3) := by
      unfold SetTable.tooFull SetTable.fill
      rw [a3, a4, a5] <;> rfl
    by_cases hf : (L.length + 1) * 5 ≥ t.mask * 3
    · have hf1 : t1.tooFull = true := by rw [fill]; exact decide_eq_true hf
      obtain ⟨M, m1, m2, m3, m4⟩ := B.grow.up hroom hf few
      rw [hes]
      have go := bag_relay (s := { s with heap := h1 }) (A := A) (E := E) ho1 ⟨hex.1, hex.2.1, hex.2.2⟩ rfl row a3 (by rw [a4, he1]) (by rw [he1, a5]; omega) tup1 a7 led1 (by rw [hlen]; omega) m1 m2 m3 (by rw [hlen]; exact m4)
        (Q := fun _ s' => wpAny (model P w) A (pure true) Q E s') fun h2 L2 es2 ep2 t2 sb2 B2 pm2 => wpAny_pure (hQ true h2 L2 es2 ep2 t2 (sb.trans sb2) B2 (.inr (pm2.trans pm)))
      first
        | exact wpAny_bind (wp_if_pos (by simp [hf1]) go)
        | exact wp_if_pos (by simp [hf1]) (wpAny_bind go)
    · have hf1 : t1.tooFull = false := by rw [fill]; exact decide_eq_false hf
      have fin : wpAny (model P w) A (pure true) Q E { s with heap := h1 } := wpAny_pure (hQ true h1 L1 es1 (ep + 1) t1 sb
        ⟨⟨_, ho1, ⟨hex.1, hex.2.1, hex.2.2⟩, rfl⟩, row, a8, a3, by rw [a4, hlen], by rw [a5]; exact B.grow, tup1, a7, led1, by rw [hlen, a5]; omega, by rw [hlen]; omega⟩ (.inr pm))
      first
        | exact wp_if_neg (by simp [hf1]) fin
        | exact wpAny_bind (wp_if_neg (by simp [hf1]) (wpAny_pure fin))
        | exact wp_if_neg (by simp [hf1]) (wpAny_bind (wpAny_pure fin))

/-- set.add -/
theorem Bag.call (B : Bag P w s.heap a L es ep t) {x : Addr} {k : List Int} (hx : IsT P w s.heap k x) (hu : A.units + 9 < cLine) (few : L.length < 2048) {Q : Value → Shared → Prop}
    (hQ : ∀ (tk : Nat) h' L' es' ep' t', Heap.SameBut a s.heap h' → Bag P w h' a L' es' ep' t' → (L' = L ∧ (∃ p ∈ L, p.2 = k)) ∨ L'.Perm ((x, k) :: L) → Q .none { s with heap := h', toks := tk }) :
    wpAny (model P w) A (PySem.call (.builtin "set.add") [.ref a, .ref x]) Q E s := by
  have hT : s.TypeIs (.ref a) "set" := by
    obtain ⟨o, ho, hex, _⟩ := B.obj
    exact ⟨o, ho, hex.1⟩
  refine wpAny_call_entry F.slot_set_add hT F.entry_set_add ?_ (F.args_set_add_2 _ _)
  unfold Builtin.«set.add» Builtin.Frozenset.oneOther
  simp only [List.isEmpty_nil, bind_assoc]
  unfold Builtin.Frozenset.addrOf setAdd
  refine wpAny_bind (m := pure _) (wpAny_pure ?_)
  try dsimp only
  refine wpAny_bind (m := pure _) (wpAny_pure ?_)
  try dsimp only
  refine wpAny_bind (wpAny_holding ?_)
  have hu1 : A.in1.units < cLine := by
    have : A.in1.units ≤ A.units + 1 := by first | exact Nat.le_refl _ | simp [Around.in1] | (unfold Around.in1; simp)
    omega
  refine wpAny_bind (wpAny_pyHash_tuple hu1 hx ?_)
  refine Bag.add (s := { s with toks := s.toks + (k.length + 1) }) B hx hu1 few fun b h' L' es' ep' t' sb B' d => ?_
  exact wpAny_pure ⟨_, rfl, hQ _ h' L' es' ep' t' sb B' d⟩
end
end K61

/-! {elt for x in xs} of tuples of ints, and sorted(..) of it. -/
namespace K61
open PySem PySem.Spec PyProof.Rows L2

/-- the set at a without its tuples -/
def Bag0 (w : World) (h : Heap) (a : Addr) (L : List (Addr × List Int)) : Prop := ∃ (es : Array (Int × Value)) (ep : Nat) (t : SetTable), (∃ o, h.get? a = some o ∧ o.ExactSet ∧ o.data = .set es ep t) ∧
  (es.toList.map (·.2) = L.map fun p => Value.ref p.1) ∧ Ris t.place.toList ∧ t.dummies = #[] ∧ t.place.size = L.length ∧ Grow t.mask ∧ t.plain = true ∧ (w.params.followText "set-order" = true ∨ t.led = true) ∧ L.length * 5 < t.mask * 3 ∧ L.length ≤ 2048
def BagO (w : World) (a : Addr) (L : List (Addr × List Int)) : HO := .ext fun h => Bag0 w h a L
theorem Bag.bare0 {P : Program} {w : World} {h : Heap} {a : Addr} {L : List (Addr × List Int)} {es : Array (Int × Value)} {ep : Nat} {t : SetTable} (B : Bag P w h a L es ep t) : Bag0 w h a L :=
  ⟨es, ep, t, B.obj, B.rows, B.ris, B.bare, B.size, B.grow, B.plain, B.led, B.room, B.few⟩
theorem Bag0.full {P : Program} {w : World} {h : Heap} {a : Addr} {L : List (Addr × List Int)} (B : Bag0 w h a L) (tups : ∀ p ∈ L, IsT P w h p.2 p.1) : ∃ es ep t, Bag P w h a L es ep t := by
  obtain ⟨es, ep, t, h1, h2, h3, h4, h5, h6, h7, h8, h9, h10⟩ := B
  exact ⟨es, ep, t, h1, h2, h3, h4, h5, h6, tups, h7, h8, h9, h10⟩
theorem bag0_at {w : World} {h h' : Heap} {a : Addr} {L : List (Addr × List Int)} (B : Bag0 w h a L) (k : ∀ o, h.get? a = some o → h'.get? a = some o) : Bag0 w h' a L := by
  obtain ⟨es, ep, t, ⟨o, ho, r⟩, q⟩ := B
  exact ⟨es, ep, t, ⟨o, k o ho, r⟩, q⟩
theorem bagO_ok {P : Program} {w : World} {H : Hp} {h : Heap} {a : Addr} {L : List (Addr × List Int)} (B : Bag0 w h a L) : ObjOk P w H h a (BagO w a L) := by
  have ⟨_, _, _, ⟨o, ho, _⟩, _⟩ := B
  exact ⟨B, ⟨o, ho⟩, fun _ _ p k => bag0_at p k⟩
theorem bag_new {w : World} (h : Heap) : Bag0 w (h.push { cls := .type "set", dict := none, data := .set #[] 0 (.fresh 0 0 (!w.params.followText "set-order")) }) h.objs.size [] := by
  refine ⟨#[], 0, _, ⟨_, Heap.get?_push_size _ rfl, ⟨rfl, rfl, rfl⟩, rfl⟩, rfl, List.Pairwise.nil, rfl, rfl, .inl rfl, rfl, ?_, (show 0 * 5 < 7 * 3 by decide), (show 0 ≤ 2048 by decide)⟩
  show _ ∨ (!w.params.followText "set-order") = true
  cases w.params.followText "set-order" <;> simp

section
variable {X : Cx} {pins : List (Addr × Obj)} {σ : L2.St} {H : Hp} {s : Shared}
theorem bag_of (I : Inv X pins σ H s) {D : Addr} {L : List (Addr × List Int)} (hD : H D = some (BagO X.w D L)) (ht : ∀ p ∈ L, SqT X.K H p.1 (p.2.map V.int)) : ∃ es ep t, Bag X.prog X.w s.heap D L es ep t :=
  Bag0.full (I.hok D _ hD).1 fun p hp => I.isT (ht p hp)
theorem bag_put {E : Value → Shared → Prop} {D c : Addr} {k : List Int} {L : List (Addr × List Int)} {Q : Value → Shared → Prop} (hu : X.A.units + 9 < cLine) (I : Inv X pins σ H s) (hD : H D = some (BagO X.w D L)) (ht : ∀ p ∈ L, SqT X.K H p.1 (p.2.map V.int))
    (hc : SqT X.K H c (k.map V.int)) (few : L.length < 2048)
    (h : ∀ s' L', Inv X pins σ (upd H D (BagO X.w D L')) s' → (L' = L ∧ (∃ p ∈ L, p.2 = k)) ∨ L'.Perm ((c, k) :: L) → Q .none s') : wpAny (model X.prog X.w) X.A (PySem.call (.builtin "set.add") [.ref D, .ref c]) Q E s := by
  obtain ⟨es, ep, t, B⟩ := bag_of I hD ht
  refine B.call (I.isT hc) hu few fun tk h' L' es' ep' t' sb B' d => ?_
  have he : ∃ u, h'.get? D = some u := by
    obtain ⟨o, ho, _⟩ := B'.obj
    exact ⟨o, ho⟩
  exact h _ L' (I.write (e := D) (t' := tk) (by rw [hD]; trivial) (.inl rfl) (fun b u hb hu => (sb.2 b hb).trans hu) he (bagO_ok B'.bare0)) d
end

/-! ### the comprehension -/
section
variable {X : Cx}
/-- {elt for target in iter}, elt a tuple of ints -/
def tBag (K : PySem.W.Frag) (w : World) (wi : TI) (g : TG) (tt : TT) (te : TE) (vs : List Nat) : TE := fun σ H Q => wi σ H fun J H1 => ∀ D, H1 D = none → ∃ W : Nat → Nat → Hp → Prop, (∃ m, W 0 m (upd H1 D (BagO w D []))) ∧
  ∀ i m H, W i m H → (J.stop i H ∧ Q (.ref D) H) ∨ (J.go i H ∧ ∃ Nx : Hp → Prop, (∀ H', Nx H' → ∃ m', m' < m ∧ W (i + 1) m' H') ∧
    ∀ x H', J.yld i H x H' → g x (wipe σ vs) H' fun σ2 H2 => wipe σ2 vs = wipe σ vs ∧ tt σ2 H2 fun b H3 => if b = true then te σ2 H3 fun y H4 => ∃ (c : Addr) (k : List Int) (L : List (Addr × List Int)), y = .ref c ∧ SqT K H4 c (k.map V.int) ∧
      H4 D = some (BagO w D L) ∧ (∀ p ∈ L, SqT K H4 p.1 (p.2.map V.int)) ∧ L.length < 2048 ∧ (∀ L', (L' = L ∧ (∃ p ∈ L, p.2 = k)) ∨ L'.Perm ((c, k) :: L) → Nx (upd H4 D (BagO w D L'))) else Nx H3)
theorem pe_bag {elt tg iter : Expr} {ifs : List Expr} {scope : Scope} {own : List (PySem.Str × Nat)} {pos : Pos} {wi : TI} {g : TG} {tt : TT} {te : TE} (hc : X.calm = true) (hN : X.N.Nodup) (hu : X.A.units + 9 < cLine) (hi : PI X tg iter wi) (ok : BlkOk X.N X.env.scope scope own)
    (hg : ∀ (s : Shared) (H : Hp) (C : Addr) (cl : List (PySem.Str × Addr)) (fp : List Addr), PG (X.blk s H scope (compEnvC scope cl C X.env) fp) tg g)
    (ht : ∀ (s : Shared) (H : Hp) (C : Addr) (cl : List (PySem.Str × Addr)) (fp : List Addr), PTs (X.blk s H scope (compEnvC scope cl C X.env) fp) ifs tt)
    (he : ∀ (s : Shared) (H : Hp) (C : Addr) (cl : List (PySem.Str × Addr)) (fp : List Addr), PE (X.blk s H scope (compEnvC scope cl C X.env) fp) elt te)
    (hs : ∀ x, foldedSetIterable iter X.env x = pure x := by intro _; rfl) : PE X (.SetComp elt [⟨tg, iter, ifs, 0⟩] scope pos) (tBag X.K X.w wi g tt te (own.map (·.2))) := by
  refine ⟨fun pins s σ H Q I h => ?_⟩
  rw [PpSet.eval_SetComp]
  have fr : ∀ y ∈ scope.names, y.2 = .free → ∃ c, X.env.cells.lookup y.1 = some c := fun y hy e => (ok.free y hy e).elim (fun k => I.ok.has _ (.inl k)) fun k => I.ok.has _ (.inr k)
  refine wpAny_comprehension_free rfl hs (closure_ok fr) ok.kind (fun y hy e => by rw [ok.uniq y hy, e]) (thn (hi.run pins s σ H _ I h) fun xv s1 hx => thn hx fun itv s2 got => ?_)
  obtain ⟨it, fp, tn, J, H2, rfl, I2, T, st2, f2, q⟩ := got
  refine PpSet.newSet_ok (newEnv_comp ?_)
  generalize hD : s2.heap.objs.size = D
  obtain ⟨W, ⟨m0, w0⟩, turn⟩ := q D (I2.hok.fresh (Nat.le_of_eq hD))
  generalize hs3 : ({ s2 with heap := s2.heap.push { cls := .type "set", dict := none, data := .set #[] 0 (.fresh 0 0 (!X.w.params.followText "set-order")) } } : Shared) = s3
  have h3 : s3.heap = s2.heap.push { cls := .type "set", dict := none, data := .set #[] 0 (.fresh 0 0 (!X.w.params.followText "set-order")) } := by rw [← hs3]
  have I3 : Inv X pins σ (upd H2 D (BagO X.w D [])) s3 := by
    rw [← hs3]
    exact I2.laid (t' := s2.toks) (fun b o e => Heap.get?_push_of_some _ e) (Nat.le_of_eq hD) (by rw [← hD]; exact bagO_ok (bag_new s2.heap))
  have f3 : ∀ b ∈ fp, FpOk X pins (upd H2 D (BagO X.w D [])) b ∧ b < s3.heap.objs.size := fun b hb => by
    obtain ⟨o, e, _⟩ := T.obj _ _ st2 b hb
    have hlt := Heap.lt_size e
    have ne : b ≠ D := by rw [← hD]; exact Nat.ne_of_lt hlt
    exact ⟨⟨by rw [upd_ne ne]; exact (f2 b hb).1, (f2 b hb).2⟩, by rw [h3, Heap.size_push]; exact Nat.lt_succ_of_lt hlt⟩
  have st3 : tn 0 s3.heap := T.keep _ _ _ st2 fun b _ o e => by rw [h3]; exact Heap.get?_push_of_some _ e
  have I4 := block_start I3 ok hN f3
  generalize hH3 : upd H2 D (BagO X.w D []) = H3 at I3 I4 w0 f3
  have pg := hg s3 H3 s3.heap.objs.size (cellsFrom (s3.heap.objs.size + 1) scope.names (cloFrom X.env.cells scope.names [])) fp
  have pt := ht s3 H3 s3.heap.objs.size (cellsFrom (s3.heap.objs.size + 1) scope.names (cloFrom X.env.cells scope.names [])) fp
  have pe := he s3 H3 s3.heap.objs.size (cellsFrom (s3.heap.objs.size + 1) scope.names (cloFrom X.env.cells scope.names [])) fp
  show codeAny _ _ (.compStart (.SetComp elt [⟨tg, iter, ifs, 0⟩] scope pos) 0 (.ref it) (.ref D) (compEnvC scope (cellsFrom (s3.heap.objs.size + 1) scope.names (cloFrom X.env.cells scope.names [])) s3.heap.objs.size X.env)) _ { s3 with heap := pushCells (s3.heap.push { cls := .type "dict", data := .dict #[] }) scope.names }
  generalize hce : compEnvC scope (cellsFrom (s3.heap.objs.size + 1) scope.names (cloFrom X.env.cells scope.names [])) s3.heap.objs.size X.env = ce at I4 pg pt pe ⊢
  have cL : ce.locals = s3.heap.objs.size := by subst hce; rfl
  have nfp : ∀ b ∈ fp, H3 b = none := fun b hb => (f3 b hb).1.1
  generalize hs4 : ({ s3 with heap := pushCells (s3.heap.push { cls := .type "dict", data := .dict #[] }) scope.names } : Shared) = s4 at I4 ⊢
  have st4 : tn 0 s4.heap := T.keep _ _ _ st3 fun b _ o e => by rw [← hs4]; exact pushCells_keeps _ _ _ _ (Heap.get?_push_of_some _ e)
  have still : ∀ {σ' : L2.St} {H' : Hp} {s' : Shared}, Inv (X.blk s3 H3 scope ce fp) [] σ' H' s' → (∀ b ∈ fp, H' b = none) → ∀ b ∈ fp, FpOk (X.blk s3 H3 scope ce fp) [] H' b := fun {σ' H' s'} I' hn b hb =>
    ⟨hn b hb, (I'.ok.exf b hb).1, I'.ok.exfs b hb, .inl hb, fun x c e => (I'.ok.exf b hb).2 x c e, fun p hp => by simp [Cx.blk] at hp⟩
  refine PpSet.codeAny_compStart_set (rest := []) ?_ (T.self X.A 0 _ _ _ st4 ?_)
  all_goals
    refine PpSet.compLoopS_any (fun n s' => ∃ i H', Inv (X.blk s3 H3 scope ce fp) [] (wipe σ (own.map (·.2))) H' s' ∧ tn i s'.heap ∧ (∀ b ∈ fp, H' b = none) ∧ W i n H') ?_ m0 ⟨0, H3, I4, st4, nfp, w0⟩
    rintro n s5 ⟨i, H5, I5, st5, n5, w5⟩
    rcases turn i n H5 w5 with ⟨stop, qq⟩ | ⟨go, Nx, hNx, step⟩
    · refine thnF (T.done (X.blk s3 H3 scope ce fp) rfl rfl rfl hc i [] s5 _ H5 (fun _ _ => False) I5 (still I5 n5) st5 stop) fun r s6 ⟨hr, I6⟩ => ?_
      subst hr
      have I7 : Inv X pins σ H5 s6 := I3.call' (ch := fp) I6.os I6.base I6.hok I6.bare fun b hb => ⟨(f3 b hb).1.2.2.2.1, (f3 b hb).1.2.1, (f3 b hb).1.2.2.2.2.1, (f3 b hb).1.2.2.2.2.2⟩
      have nC : H5 s3.heap.objs.size = none := cL ▸ (show H5 ce.locals = none from I6.free)
      obtain ⟨m, hn, _⟩ := I6.loc
      have hn : s6.heap.Ns s3.heap.objs.size m := cL ▸ (show s6.heap.Ns ce.locals m from hn)
      obtain ⟨f0, f1, _, f4, f5, f6⟩ := I3.fpOk (Nat.le_refl _) nC
      exact ⟨m, hn, fun h'' sb => ⟨.ref D, H5, I7.turned (t' := s6.toks) (fun b o hb e => (sb.2 b hb).trans e) f0 f1 f4 f5 f6, rfl, qq⟩⟩
    · refine thnF (T.item (X.blk s3 H3 scope ce fp) rfl rfl rfl hc i [] s5 _ H5 (fun _ _ => False) I5 (still I5 n5) st5 go) fun r s6 ⟨u, hr, h6⟩ => ?_
      subst hr
      refine thnF h6 fun _ s7 ⟨x, H7, I7, r7, y7, st7, n7⟩ => ?_
      have I7' := I7.pinned (still I7 n7) (T.obj _ _ st7)
      refine thnF (pg.run _ s7 _ H7 x u _ I7' r7 (step x H7 y7)) fun _ s8 ⟨σ8, H8, I8, hw8, q8⟩ => thnF (pt.run _ s8 σ8 H8 _ I8 q8) fun b s9 ⟨H9, I9, q9⟩ => ?_
      have fin : ∀ {s' : Shared} {H' : Hp}, Inv (X.blk s3 H3 scope ce fp) ([] ++ pinsAt fp s7.heap) σ8 H' s' → Nx H' → ∃ m, m < n ∧ ∃ i H', Inv (X.blk s3 H3 scope ce fp) [] (wipe σ (own.map (·.2))) H' s' ∧ tn i s'.heap ∧ (∀ b ∈ fp, H' b = none) ∧ W i m H' := fun {s' H'} I' nx => by
        obtain ⟨m', hm, w'⟩ := hNx H' nx
        have pin' : ∀ b ∈ fp, ∀ o, s7.heap.get? b = some o → s'.heap.get? b = some o ∧ H' b = none := fun b hb o e => by
          have z := I'.pin (b, o) (List.mem_append_right _ (List.mem_append_right _ (mem_pinsAt hb e)))
          exact ⟨z.1, z.2.1⟩
        refine ⟨m', hm, i + 1, H', (I'.unpinned (pins := [])).weak (by rw [← hw8, wipe_length]) (fun j v e => ?_), T.keep _ _ _ st7 fun b hb o e => (pin' b hb o e).1, fun b hb => ?_, w'⟩
        · exact (wipe_some (hw8 ▸ e)).1
        · obtain ⟨o, e, _⟩ := T.obj _ _ st7 b hb
          exact (pin' b hb o e).2
      cases b with
      | false => exact fin I9 q9
      | true =>
        refine thnF (pe.run _ s9 σ8 H9 _ I9 q9) fun z s10 ⟨yv, H10, I10, r10, c, k, L, ey, hcT, hDb, hLt, few, nx⟩ => ?_
        subst ey
        obtain rfl : z = Value.ref c := r10
        exact bag_put (X := X.blk s3 H3 scope ce fp) hu I10 hDb hLt hcT few fun s11 L' I11 d => fin I11 (nx L' d)
end

/-! ### sorted -/
abbrev ints1 : Nat → Bool := fun _ => false
def keyV (h : Heap) (v : Value) : List (Int ⊕ List Nat) := (tupKey h ints1 v).getD []
def ltV (h : Heap) (v u : Value) : Bool := lexLt itemOrd (keyV h v) (keyV h u)
theorem ltV_swo (h : Heap) : SrtO.Swo (ltV h) := by
  refine ⟨fun x y e => ?_, fun x y z e1 e2 => ?_⟩
  · cases c : ltV h y x with
    | false => rfl
    | true =>
      have t := lex_trans _ _ _ e c
      rw [lex_irrefl] at t
      cases t
  · cases c : ltV h z x with
    | false => rfl
    | true =>
      rcases lex_negTrans _ (keyV h y) _ c with t | t
      · rw [show ltV h z y = true from t] at e2
        cases e2
      · rw [show ltV h y x = true from t] at e1
        cases e1
theorem items_ints {P : Program} {w : World} {k : List Int} {vs : List Value} (h : ItemsAre (intKind P w) k vs) : ∀ i, tupItems ints1 i vs = some (k.map Sum.inl) := by
  induction h with
  | nil => intro i; rfl
  | @cons n v ks vs h1 _ ih =>
    intro i
    obtain ⟨t, rfl⟩ := Value.isInt_shape h1
    show (if ints1 i = true then none else (tupItems ints1 (i + 1) vs).map (Sum.inl n :: ·)) = _
    rw [if_neg Bool.false_ne_true, ih]
    rfl
theorem key_of {P : Program} {w : World} {h : Heap} {k : List Int} {b : Addr} (x : IsT P w h k b) : tupKey h ints1 (.ref b) = some (k.map Sum.inl) := by
  obtain ⟨o, its, n, ho, _, hd, hi⟩ := x
  simp only [tupKey, ho, hd]
  exact items_ints hi 0
/-- v is a tuple of ints, and not the empty one -/
def Row (P : Program) (w : World) (h : Heap) (v : Value) : Prop := ∃ k b, v = Value.ref b ∧ IsT P w h k b ∧ k ≠ []
theorem rows_first {P : Program} {w : World} {h : Heap} : ∀ vs : List Value, (∀ v ∈ vs, Row P w h v) → ∃ fs, TupsOf h ints1 vs fs ∧ fs.length = vs.length
  | [], _ => ⟨[], .nil, rfl⟩
  | v :: vs, hv => by
    obtain ⟨fs, h1, h2⟩ := rows_first vs fun u hu => hv u (List.mem_cons_of_mem _ hu)
    obtain ⟨k, b, rfl, ⟨o, its, n, ho, hc, hd, hi⟩, hne⟩ := hv v List.mem_cons_self
    cases k with
    | nil => exact absurd rfl hne
    | cons x k =>
      generalize hl : its.toList = l at hi
      cases hi with
      | @cons _ f _ l2 g1 g2 =>
        obtain ⟨t, rfl⟩ := Value.isInt_shape g1
        refine ⟨Value.int x t :: fs, .cons ⟨b, o, its, n, rfl, ho, hc, hd, ?_, fun _ => ⟨x, t, rfl⟩, fun z => absurd z Bool.false_ne_true⟩ h1, congrArg (· + 1) h2⟩
        rw [← Array.getElem?_toList, hl] <;> rfl
section
variable {P : Program} {w : World} {A : Around} {E : Value → Shared → Prop} {s : Shared}
theorem rows_sortable {a : Addr} {vs : List Value} (h0 : 0 < vs.length) (hv : ∀ v ∈ vs, Row P w s.heap v) (ha : ∀ o, s.heap.get? a = some o → o.cls ≠ .type "tuple") : SrtO.SortableO P w A s a vs (ltV s.heap) := by
  intro h' keep
  have mv : ∀ {k : List Int} {b : Addr}, IsT P w s.heap k b → IsT P w h' k b := fun {k b} x => by
    obtain ⟨o, its, n, ho, hc, r⟩ := x
    exact ⟨o, its, n, keep b o (fun z => ha o (z ▸ ho) hc) ho, hc, r⟩
  obtain ⟨fs, f1, f2⟩ := rows_first (P := P) (w := w) (h := h') vs fun v hm => by
    obtain ⟨k, b, e, x, ne⟩ := hv v hm
    exact ⟨k, b, e, mv x, ne⟩
  refine ⟨_, fun Q E hq => tup_kind (s := { s with heap := h' }) (by omega) f1 hq, fun p q hp hq => ?_⟩
  obtain ⟨k1, b1, e1, x1, _⟩ := hv p.1 hp
  obtain ⟨k2, b2, e2, x2, _⟩ := hv q.1 hq
  rw [e1, e2]
  refine tup_ltAt (s := { s with heap := h' }) (shape := ints1) true A _ _ _ (k1.map Sum.inl) (k2.map Sum.inl) (key_of (mv x1)) (key_of (mv x2)) ⟨rfl, ?_⟩
  show lexLt itemOrd (k1.map Sum.inl) (k2.map Sum.inl) = lexLt itemOrd (keyV s.heap p.1) (keyV s.heap q.1)
  rw [e1, e2]
  unfold keyV
  rw [key_of x1, key_of x2] <;> rfl
theorem bag_sorted {a : Addr} {L : List (Addr × List Int)} {es : Array (Int × Value)} {ep : Nat} {t : SetTable} {Q : Value → Shared → Prop} (B : Bag P w s.heap a L es ep t) (hh : A.handled = none) (ne : ∀ p ∈ L, p.2 ≠ [])
    (hQ : ∀ s' p (out : List Value) (c : Nat), (∀ b o, s.heap.get? b = some o → s'.heap.get? b = some o) → s'.gens = s.gens → s'.os = s.os → s.heap.objs.size ≤ p → s'.heap.get? p = some (seqObj "list" out.toArray c) →
      out.Perm (L.map fun q => Value.ref q.1) → Q (.ref p) s') : wpAny (model P w) A (PySem.call (.builtin "sorted") [.ref a]) Q E s := by
  obtain ⟨o, ho, hex, hd⟩ := B.obj
  have few := B.few
  refine Calls.call_function_entry kind_sorted plain_sorted entry_sorted (args_sorted1 _) ?_
  unfold Builtin.«sorted»
  refine wpAny_bind (m := checkCount "sorted" 1 1 _) (wpAny_pure ?_)
  refine wpAny_bind (collect_set (A := A.in1) hh ⟨o, ho, hex.1, hd⟩ B.fits (by rw [B.esize]; unfold scanBound; omega) B.ris B.led fun s1 vs k1 hz g1 o1 pm => ?_)
  rw [B.rows] at pm
  have hlen : vs.length = L.length := by rw [pm.length_eq, List.length_map]
  have hline : vs.length ≤ sizeLine := by rw [sizeLine_eq]; omega
  refine wpAny_bind (wpAny_newList ?_ hline)
  have hoL : (s1.heap.push (seqObj "list" vs.toArray 0)).get? s1.heap.objs.size = some (seqObj "list" vs.toArray 0) := Heap.get?_push_size _ rfl
  have row : ∀ v ∈ vs, Row P w (s1.heap.push (seqObj "list" vs.toArray 0)) v := fun v hv => by
    obtain ⟨q, hq, rfl⟩ := List.mem_map.mp (pm.mem_iff.mp hv)
    exact ⟨q.2, q.1, rfl, isT_keep (B.tups q hq) fun b u e => Heap.get?_push_of_some _ (k1 b u e), ne q hq⟩
  refine wpAny_bind (wpAny_holding (wpAny_call_entry (s := { s1 with heap := s1.heap.push (seqObj "list" vs.toArray 0) }) slot_list_sort ⟨_, hoL, rfl⟩ entry_list_sort (SrtO.list_sort_ord (s := { s1 with heap := s1.heap.push (seqObj "list" vs.toArray 0) }) (ltV_swo _) hoL hline
    (fun h2 => rows_sortable (s := { s1 with heap := s1.heap.push (seqObj "list" vs.toArray 0) }) (by omega) row fun o e c => ?_) fun out hs hb => ⟨_, rfl, ?_⟩) (args_list_sort _)))
  · have e' : some o = some (seqObj "list" vs.toArray 0) := e.symm.trans hoL
    cases e'
    exact absurd (Value.type.inj c) (by decide)
  · obtain ⟨c, hc⟩ := sortedHeap_at (vs := vs) (out := out.toArray) hoL
    refine wpAny_pure ⟨_, rfl, hQ _ s1.heap.objs.size out c (fun b u e => ?_) g1 o1 hz hc (hb.perm.trans pm)⟩
    have q := k1 b u e
    have hlt := Heap.lt_size q
    show (sortedHeap (s1.heap.push (seqObj "list" vs.toArray 0)) s1.heap.objs.size vs out.toArray).get? b = some u
    rw [sortedHeap_old (Nat.ne_of_lt hlt) (by rw [size_push']; exact Nat.lt_succ_of_lt hlt)]
    exact Heap.get?_push_of_some _ q
end
/-- sorted(set): some order of its tuples -/
def rSortBag (K : PySem.W.Frag) (w : World) : List V → Hp → VK → Prop := fun vs H Q => ∃ (a : Addr) (L : List (Addr × List Int)), vs = [V.ref a] ∧ H a = some (BagO w a L) ∧ (∀ p ∈ L, SqT K H p.1 (p.2.map V.int) ∧ p.2 ≠ []) ∧
  ∀ (ys : List V) (p : Addr), ys.Perm (L.map fun q => V.ref q.1) → H p = none → Q (.ref p) (upd H p (.lst ys))
theorem cr_sortBag {X : Cx} (hc : X.calm = true) : CallR X (.builtin "sorted") (rSortBag X.K X.w) := by
  intro pins s σ H vs us Q I r h
  obtain ⟨a, L, rfl, ha, hk, q⟩ := h
  obtain ⟨es, ep, t, B⟩ := bag_of I ha fun p hp => (hk p hp).1
  rw [Vals.ref1 r]
  refine bag_sorted B (I.ok.hd hc) (fun p hp => (hk p hp).2) fun s' p out c k g o hp hg pm => ?_
  have all : ∀ u ∈ out, ∃ b, u = Value.ref b := fun u hu => by
    obtain ⟨z, _, e⟩ := List.mem_map.mp (pm.mem_iff.mp hu)
    exact ⟨z.1, e.symm⟩
  have hn : H p = none := I.hok.fresh hp
  have pv : (out.map bkV).Perm (L.map fun q => V.ref q.1) := by
    have z := pm.map bkV
    rw [List.map_map] at z
    exact z
  have few := B.few
  have J : Inv X pins σ (upd H p (.lst (out.map bkV))) s' := I.call' (ch := []) o (Un.laid k hp hn) (I.hok.laid k hp ⟨by rw [List.length_map, pm.length_eq, List.length_map, sizeLine_eq]; omega, out, c, bkV_vals all, hg⟩) (by rw [g]; exact I.bare) (fun _ z => nomatch z)
  exact ⟨.ref p, _, J, rfl, q _ p pv hn⟩

/-- over a list that the block leaves as it is -/
theorem bag_list {K : PySem.W.Frag} {w : World} {a : Addr} {xs : List V} {g : TG} {tt : TT} {te : TE} {vs : List Nat} {σ : L2.St} {H1 : Hp} {D : Addr} {Qd : Hp → Prop} (Pv : Nat → Hp → Prop) (h0 : Pv 0 (upd H1 D (BagO w D []))) (hl : ∀ i H, i ≤ xs.length → Pv i H → SqL K H a xs)
    (step : ∀ i x H, xs[i]? = some x → Pv i H → g x (wipe σ vs) H fun σ2 H2 => wipe σ2 vs = wipe σ vs ∧ tt σ2 H2 fun b H3 => if b = true then te σ2 H3 fun y H4 => ∃ (c : Addr) (k : List Int) (L : List (Addr × List Int)), y = .ref c ∧ SqT K H4 c (k.map V.int) ∧
      H4 D = some (BagO w D L) ∧ (∀ p ∈ L, SqT K H4 p.1 (p.2.map V.int)) ∧ L.length < 2048 ∧ (∀ L', (L' = L ∧ (∃ p ∈ L, p.2 = k)) ∨ L'.Perm ((c, k) :: L) → Pv (i + 1) (upd H4 D (BagO w D L'))) else Pv (i + 1) H3) (hd : ∀ H, Pv xs.length H → Qd H) :
    ∃ W : Nat → Nat → Hp → Prop, (∃ m, W 0 m (upd H1 D (BagO w D []))) ∧
      ∀ i m H, W i m H → ((Itl K a).stop i H ∧ Qd H) ∨ ((Itl K a).go i H ∧ ∃ Nx : Hp → Prop, (∀ H', Nx H' → ∃ m', m' < m ∧ W (i + 1) m' H') ∧
        ∀ x H', (Itl K a).yld i H x H' → g x (wipe σ vs) H' fun σ2 H2 => wipe σ2 vs = wipe σ vs ∧ tt σ2 H2 fun b H3 => if b = true then te σ2 H3 fun y H4 => ∃ (c : Addr) (k : List Int) (L : List (Addr × List Int)), y = .ref c ∧ SqT K H4 c (k.map V.int) ∧
          H4 D = some (BagO w D L) ∧ (∀ p ∈ L, SqT K H4 p.1 (p.2.map V.int)) ∧ L.length < 2048 ∧ (∀ L', (L' = L ∧ (∃ p ∈ L, p.2 = k)) ∨ L'.Perm ((c, k) :: L) → Nx (upd H4 D (BagO w D L'))) else Nx H3) := by
  refine ⟨fun i m H => m + i = xs.length ∧ Pv i H, ⟨xs.length, by simp, h0⟩, fun i m H ⟨e, p⟩ => ?_⟩
  have q := hl i H (by omega) p
  cases m with
  | zero =>
    have e' : i = xs.length := by omega
    subst e'
    exact .inl ⟨⟨xs, q, Nat.le_refl _⟩, hd H p⟩
  | succ m =>
    have hlt : i < xs.length := by omega
    exact .inr ⟨⟨xs, xs[i], q, List.getElem?_eq_getElem hlt⟩, Pv (i + 1), fun H' p' => ⟨m, Nat.lt_succ_self m, by omega, p'⟩, fun x H' ⟨e1, y⟩ => e1 ▸ step i x H (y xs q) p⟩
end K61

/-! Patterns as lists of signs. -/
namespace K61
open PySem PySem.Spec PyProof.Rows L2

def top (i : Nat) : Stmt := PySem.Challenge.pw_mustoccur_k61_whole_counts_of_open_texts.main.body.getD i (.Pass ⟨0, 0, 0, 0⟩)

/-- the text of these signs -/
def tx (p : List Nat) : Str := ⟨p.toArray⟩
theorem tx_len (p : List Nat) : (tx p).length = p.length := List.size_toArray
theorem tx_size (p : List Nat) : (tx p).cps.size = p.length := List.size_toArray
theorem tx_cps (p : List Nat) : (tx p).cps.toList = p := rfl
theorem tx_at {p : List Nat} {i c : Nat} (h : (tx p).cps[i]? = some c) : p[i]? = some c := by
  rw [← Array.getElem?_toList] at h
  exact h
theorem tx_of {p : List Nat} {i c : Nat} (h : p[i]? = some c) : (tx p).cps[i]? = some c := by
  rw [← Array.getElem?_toList]
  exact h
theorem tx_inj {p q : List Nat} : tx p = tx q ↔ p = q := by
  constructor
  · intro h
    have e : (tx p).cps.toList = (tx q).cps.toList := by rw [h]
    exact e
  · intro h
    rw [h]

/-- the first place of c -/
def ix : List Nat → Nat → Nat
  | [], _ => 0
  | a :: l, c => if a = c then 0 else ix l c + 1
theorem ix_at : ∀ {l : List Nat} {c : Nat}, c ∈ l → l[ix l c]? = some c
  | a :: l, c, h => by
    by_cases e : a = c
    · subst e
      show (a :: l)[if a = a then 0 else ix l a + 1]? = some a
      rw [if_pos rfl]
      rfl
    · show (a :: l)[if a = c then 0 else ix l c + 1]? = some c
      rw [if_neg e]
      exact ix_at ((List.mem_cons.mp h).resolve_left (Ne.symm e))
theorem ix_lt {l : List Nat} {c : Nat} (h : c ∈ l) : ix l c < l.length := at_lt (ix_at h)
theorem ix_min : ∀ {l : List Nat} {c k : Nat}, k < ix l c → l[k]? ≠ some c
  | [], _, _, h => absurd h (Nat.not_lt_zero _)
  | a :: l, c, k, h => by
    have h' : k < if a = c then 0 else ix l c + 1 := h
    by_cases e : a = c
    · rw [if_pos e] at h'
      exact absurd h' (Nat.not_lt_zero _)
    · rw [if_neg e] at h'
      cases k with
      | zero => exact fun z => e (Option.some.inj z)
      | succ k => exact ix_min (l := l) (Nat.lt_of_succ_lt_succ h')
theorem ix_inj {l : List Nat} {c d : Nat} (hc : c ∈ l) (hd : d ∈ l) (e : ix l c = ix l d) : c = d := by
  have h1 := ix_at hc
  rw [e, ix_at hd] at h1
  exact (Option.some.inj h1).symm
/-- text.index(sign) -/
theorem occ_sign {p : List Nat} {c : Nat} (h : c ∈ p) : ∃ rest, Builtin.Str.occurrences (tx p) (sg c) 0 (tx p).length 1 = ix p c :: rest := by
  have at_ : ∀ i, PySem.StrLaws.At (tx p) (sg c) (tx p).length i ↔ p[i]? = some c := fun i => PySem.StrLaws.subAt_one (tx p) c i
  rcases PySem.StrLaws.occ_head (tx p) (sg c) 1 (Nat.le_refl _) with ⟨_, hn⟩ | ⟨i, r, e, hi, hm⟩
  · exact absurd ((at_ _).mpr (ix_at h)) (hn _)
  · have e1 : i = ix p c := by
      rcases Nat.lt_trichotomy i (ix p c) with z | z | z
      · exact absurd ((at_ i).mp hi) (ix_min z)
      · exact z
      · exact absurd ((at_ _).mpr (ix_at h)) (hm _ z)
    exact ⟨r, e1 ▸ e⟩

/-! ### the distinct signs -/
def dist (p : List Nat) : List Nat := p.foldl (fun acc c => if c ∈ acc then acc else acc ++ [c]) []
theorem dist_snoc (p : List Nat) (c : Nat) : dist (p ++ [c]) = if c ∈ dist p then dist p else dist p ++ [c] := by
  unfold dist
  rw [List.foldl_append]
  rfl
theorem dist_step {p : List Nat} {i c : Nat} (h : p[i]? = some c) : dist (p.take (i + 1)) = if c ∈ dist (p.take i) then dist (p.take i) else dist (p.take i) ++ [c] := by
  rw [List.take_add_one, h]
  exact dist_snoc _ c
theorem mem_dist_take (p : List Nat) : ∀ (i : Nat) (c : Nat), c ∈ dist (p.take i) ↔ c ∈ p.take i
  | 0, c => by
    show c ∈ ([] : List Nat) ↔ c ∈ []
    exact Iff.rfl
  | i + 1, c => by
    have ih := mem_dist_take p i
    cases e : p[i]? with
    | none =>
      have hl := List.getElem?_eq_none_iff.mp e
      have e1 : p.take (i + 1) = p.take i := by rw [List.take_of_length_le hl, List.take_of_length_le (by omega)]
      rw [e1]
      exact ih c
    | some d =>
      rw [dist_step e, List.take_add_one, e]
      by_cases m : d ∈ dist (p.take i)
      · rw [if_pos m, ih c]
        constructor
        · exact fun z => List.mem_append_left _ z
        · intro z
          rcases List.mem_append.mp z with z | z
          · exact z
          · have : c = d := by simpa using z
            subst this
            exact (ih c).mp m
      · rw [if_neg m, List.mem_append, List.mem_append, ih c]
        constructor
        · rintro (z | z)
          · exact .inl z
          · exact .inr (by simpa using z)
        · rintro (z | z)
          · exact .inl z
          · exact .inr (by simpa using z)
theorem mem_dist {p : List Nat} {c : Nat} : c ∈ dist p ↔ c ∈ p := by
  have h := mem_dist_take p p.length c
  rw [List.take_length] at h
  exact h
theorem dist_nd (p : List Nat) : ∀ i, (dist (p.take i)).Nodup
  | 0 => List.nodup_nil
  | i + 1 => by
    have ih := dist_nd p i
    cases e : p[i]? with
    | none =>
      have hl := List.getElem?_eq_none_iff.mp e
      have e1 : p.take (i + 1) = p.take i := by rw [List.take_of_length_le hl, List.take_of_length_le (by omega)]
      rw [e1]
      exact ih
    | some d =>
      rw [dist_step e]
      by_cases m : d ∈ dist (p.take i)
      · rw [if_pos m]
        exact ih
      · rw [if_neg m]
        refine List.nodup_append.mpr ⟨ih, by simp, fun x hx y hy z => ?_⟩
        rw [List.mem_singleton.mp hy] at z
        exact m (z ▸ hx)
theorem dist_nodup (p : List Nat) : (dist p).Nodup := by
  have h := dist_nd p p.length
  rw [List.take_length] at h
  exact h
theorem dist_len_take (p : List Nat) : ∀ i, (dist (p.take i)).length ≤ i
  | 0 => Nat.le_refl _
  | i + 1 => by
    have ih := dist_len_take p i
    cases e : p[i]? with
    | none =>
      have hl := List.getElem?_eq_none_iff.mp e
      have e1 : p.take (i + 1) = p.take i := by rw [List.take_of_length_le hl, List.take_of_length_le (by omega)]
      rw [e1]
      omega
    | some d =>
      rw [dist_step e]
      split
      · omega
      · rw [List.length_append, List.length_singleton]
        omega
theorem dist_len (p : List Nat) : (dist p).length ≤ p.length := by
  have h := dist_len_take p p.length
  rw [List.take_length] at h
  exact h
theorem dist_ne {p : List Nat} (h : p ≠ []) : dist p ≠ [] := by
  cases p with
  | nil => exact absurd rfl h
  | cons a p =>
    intro z
    have : a ∈ dist (a :: p) := mem_dist.mpr List.mem_cons_self
    rw [z] at this
    cases this
/-- first met at its own place -/
theorem first_at {p : List Nat} {i c : Nat} (h : p[i]? = some c) : ix p c = i ↔ c ∉ dist (p.take i) := by
  have hm := at_mem h
  rw [mem_dist_take]
  constructor
  · intro e z
    obtain ⟨j, hj, e2⟩ := mem_take_at.mp z
    exact ix_min (l := p) (by omega) e2
  · intro n
    rcases Nat.lt_trichotomy (ix p c) i with z | z | z
    · exact absurd (mem_take_at.mpr ⟨_, z, ix_at hm⟩) n
    · exact z
    · exact absurd h (ix_min z)

/-- a pattern that the program takes -/
structure PatOk (p : List Nat) : Prop where
  low : ∀ c ∈ p, 97 ≤ c ∧ c < 123
  len : p.length ≤ 40
  few : (dist p).length ≤ 8
/-- the letters renamed in the order of their coming -/
def norm (p : List Nat) : List Nat := p.map fun c => 97 + ix (dist p) c
theorem norm_len (p : List Nat) : (norm p).length = p.length := List.length_map _
theorem norm_inj {p : List Nat} : ∀ x ∈ p, ∀ y ∈ p, 97 + ix (dist p) x = 97 + ix (dist p) y → x = y := fun x hx y hy e =>
  ix_inj (mem_dist.mpr hx) (mem_dist.mpr hy) (by omega)
theorem small_ok {p : List Nat} (h : ∀ c ∈ p, 97 ≤ c ∧ c < 123) (l : p.length ≤ 8) : PatOk p := ⟨h, by omega, Nat.le_trans (dist_len p) l⟩
theorem norm_ok {p : List Nat} (l : p.length ≤ 8) : PatOk (norm p) := by
  refine small_ok (fun c hc => ?_) (by rw [norm_len]; exact l)
  obtain ⟨d, hd, rfl⟩ := List.mem_map.mp hc
  have := ix_lt (mem_dist.mpr hd)
  have := dist_len p
  omega
theorem rev_ok {p : List Nat} (h : PatOk p) (l : p.length ≤ 8) : PatOk p.reverse := small_ok (fun c hc => h.low c (List.mem_reverse.mp hc)) (by rw [List.length_reverse]; exact l)
/-- as many signs, in whatever names and order -/
theorem nd_perm_len {a b : List Nat} (ha : a.Nodup) (hb : b.Nodup) (h : ∀ x, x ∈ a ↔ x ∈ b) : a.length = b.length := by
  have p : a.Perm b := (List.perm_ext_iff_of_nodup ha hb).mpr h
  exact p.length_eq
theorem dist_rev_len (p : List Nat) : (dist p.reverse).length = (dist p).length := nd_perm_len (dist_nodup _) (dist_nodup _) fun x => by rw [mem_dist, mem_dist, List.mem_reverse]
theorem dist_norm_len (p : List Nat) : (dist (norm p)).length = (dist p).length := by
  have h : (dist (norm p)).length = ((dist p).map fun c => 97 + ix (dist p) c).length := by
    refine nd_perm_len (dist_nodup _) ?_ fun x => ?_
    · refine List.pairwise_map.mpr (List.Pairwise.imp_of_mem (fun {a b} ha hb hne e => hne ?_) (dist_nodup p))
      exact norm_inj a (mem_dist.mp ha) b (mem_dist.mp hb) e
    · rw [mem_dist]
      unfold norm
      rw [List.mem_map, List.mem_map]
      constructor
      · rintro ⟨a, ha, e⟩
        exact ⟨a, mem_dist.mpr ha, e⟩
      · rintro ⟨a, ha, e⟩
        exact ⟨a, mem_dist.mp ha, e⟩
  rw [h, List.length_map]

/-! ### heaps -/
theorem same_upd {H : Hp} {p : Addr} {o : HO} (h : H p = none) : Same H (upd H p o) := fun b x e => by
  rw [upd_ne (ne_of_none e h)]
  exact e
theorem same_put {H H' : Hp} {p : Addr} {o : HO} (s : Same H H') (h : H p = none) : Same H (upd H' p o) := fun b x e => by
  rw [upd_ne (ne_of_none e h)]
  exact s _ _ e
theorem sameT {K : PySem.W.Frag} {H H' : Hp} {a : Addr} {xs : List V} (e : Same H H') (h : SqT K H a xs) : SqT K H' a xs :=
  h.imp (fun r => r.imp (e _ _) fun ⟨o, z⟩ => ⟨o, e _ _ z⟩) id
/-- ints as values -/
def nv (w : List Nat) : List V := w.map fun (a : Nat) => V.int (a : Int)
theorem nv_len (w : List Nat) : (nv w).length = w.length := List.length_map _
theorem nv_app (u w : List Nat) : nv (u ++ w) = nv u ++ nv w := List.map_append
theorem nv_at {w : List Nat} {i a : Nat} (h : w[i]? = some a) : (nv w)[i]? = some (.int (a : Nat)) := by
  unfold nv
  rw [List.getElem?_map, h]
  rfl
theorem nv_get {w : List Nat} {i : Nat} {x : V} (h : (nv w)[i]? = some x) : ∃ a : Nat, w[i]? = some a ∧ x = .int (a : Int) := by
  unfold nv at h
  rw [List.getElem?_map] at h
  obtain ⟨a, e1, e2⟩ := Option.map_eq_some_iff.mp h
  exact ⟨a, e1, e2.symm⟩
theorem nv_ints (w : List Nat) : nv w = (w.map fun (a : Nat) => (a : Int)).map V.int := by
  unfold nv
  rw [List.map_map]
  rfl
/-- signs as values -/
def sv (p : List Nat) : List V := p.map fun c => V.str (sg c)
theorem sv_get {w : List Nat} {i : Nat} {x : V} (h : (sv w)[i]? = some x) : ∃ a : Nat, w[i]? = some a ∧ x = .str (sg a) := by
  unfold sv at h
  rw [List.getElem?_map] at h
  obtain ⟨a, e1, e2⟩ := Option.map_eq_some_iff.mp h
  exact ⟨a, e1, e2.symm⟩
theorem joinL_one : ∀ p : List Nat, TL.joinL [] (p.map fun c => [c]) = p
  | [] => rfl
  | [_] => rfl
  | a :: b :: p => congrArg (a :: ·) (joinL_one (b :: p))
theorem join_sg (p : List Nat) : Txt.join (tx []) (p.map sg) = tx p := by
  refine TL.ext_tl ((congrArg TL.tl (TL.join_eq (tx []) (p.map sg))).trans ((TL.tl_join (tx []) (p.map sg)).trans ?_))
  have e : (p.map sg).map TL.tl = p.map fun c => [c] := by
    rw [List.map_map]
    rfl
  rw [e]
  exact joinL_one p
theorem join_room (p : List Nat) : ((p.map sg).map (·.length)).sum + (p.map sg).length * (tx []).length = p.length := by
  have e : (tx []).length = 0 := rfl
  rw [e, Nat.mul_zero, Nat.add_zero, List.map_map]
  induction p with
  | nil => rfl
  | cons a p ih =>
    rw [List.map_cons, List.sum_cons, ih, List.length_cons]
    show 1 + p.length = _
    omega
end K61

/-! The small defs: checks and patterns. -/
namespace K61
open PySem PySem.Spec PyProof.Rows L2

abbrev sIsInt : Stmt := top 9
abbrev sBetween : Stmt := top 10
abbrev sVars : Stmt := top 11
abbrev sDistinct : Stmt := top 12
abbrev sFits : Stmt := top 13
abbrev sNeedP : Stmt := top 14
abbrev sNeedC : Stmt := top 15
abbrev sNormal : Stmt := top 17
abbrev sFilled : Stmt := top 18
abbrev sNeedB : Stmt := top 24

def abc : Str := Str.ofString "abcdefghijklmnopqrstuvwxyz"
theorem abc_tx : abc = tx ((List.range 26).map fun i => 97 + i) := by decide +kernel
theorem abc_at {i : Nat} (h : i < 26) : ((List.range 26).map fun i => 97 + i)[i]? = some (97 + i) := by
  rw [List.getElem?_map, List.getElem?_range h]
  rfl
/-- what the names of the module hold -/
structure Nm (mg : Str → Option Value) : Prop where
  isinstance : mg "isinstance" = none
  int : mg "int" = none
  bool : mg "bool" = none
  str : mg "str" = none
  all : mg "all" = none
  enumerate : mg "enumerate" = none
  len : mg "len" = none
  tuple : mg "tuple" = none
  range : mg "range" = none
  sorted : mg "sorted" = none
  dict : mg "dict" = none
  zip : mg "zip" = none
  sum : mg "sum" = none
  max : mg "max" = none
  min : mg "min" = none
  list : mg "list" = none
  abs : mg "abs" = none
  set : mg "set" = none
  alpha : ∃ t, mg "ALPHABET" = some (.str abc t)
  mPat : ∃ t, mg "MAX_PATTERN" = some (.int 40 t)
  mVar : ∃ t, mg "MAX_VARIABLES" = some (.int 8 t)
  mLet : ∃ t, mg "MAX_LETTERS" = some (.int 4 t)
  mLon : ∃ t, mg "MAX_LONGEST" = some (.int 4 t)
  mSiz : ∃ t, mg "MAX_SIZE" = some (.int 4096 t)
  mLen : ∃ t, mg "MAX_LENGTH" = some (.int 200 t)

theorem itC {c : Bool} {A B : Prop} (h : c = true) (a : A) : if c = true then A else B := by
  rw [if_pos h]
  exact a
theorem itN {c : Bool} {A B : Prop} (h : c = false) (b : B) : if c = true then A else B := by
  rw [h]
  exact iteF b
theorem walk_enums {z : Str} : Walk (Ites z) z.cps.size (fun _ => True) (fun i H v H' => ∃ T c, v = .ref T ∧ H T = none ∧ H' = upd H T (.tup [.int (i : Nat), .str ⟨#[c]⟩]) ∧ z.cps[i]? = some c) :=
  ⟨fun _ _ hi _ => hi, fun _ _ => Nat.le_refl _, fun _ _ _ _ _ _ y => y⟩

section
variable {P : Program} {w : World} {K : PySem.W.Frag} {mg : Str → Option Value} {base : Heap}

/-! ### is_integer, is_between -/
def spIsInt : Sp := fun vs H Q _ => ∃ n : Int, vs = [.int n] ∧ Q (.bl true) H
theorem sc_isInt : FnScope ["value"] ["value"] (defScope sIsInt) := ⟨rfl, rfl, rfl, by decide +kernel, rfl, by decide +kernel, by decide +kernel⟩
theorem ok_isInt {f : Addr} {fd : FuncData} (F : Fun K "is_integer" "is_integer" sIsInt f fd) (N : Nm mg) : FnOk P w K mg base CX0 1 f fd ["value"] spIsInt := by
  refine F.ok sc_isInt (fun vs H Q E h => ?_) (fun cdv A outer s H vs Q E hr h => ?_)
  · obtain ⟨n, rfl, _⟩ := h
    rfl
  · obtain ⟨n, rfl, k⟩ := h
    refine ⟨_, pss_one (ps_ret (pe_and (pe_callB call_isi (by rfl) N.isinstance boot_isinstance (pa_cons (pv 0) (pa_cons (pe_bltn (v := .ty "int") (by rfl) N.int (by decide +kernel) rfl) pa_nil)))
      (pe_one (pe_not (pe_callB call_isi (by rfl) N.isinstance boot_isinstance (pa_cons (pv 0) (pa_cons (pe_bltn (v := .ty "bool") (by rfl) N.bool (by decide +kernel) rfl) pa_nil))))))), ?_⟩
    refine ⟨_, rfl, _, _, _, _, true, rfl, .ty "int", .base (.int n), kit_ty (by decide +kernel), true, rfl, ?_⟩
    refine itC rfl ⟨_, rfl, _, _, _, _, false, rfl, .ty "bool", .base (.int n), kit_ty (by decide +kernel), false, rfl, k⟩

def spBetween : Sp := fun vs H Q _ => ∃ n l h : Int, vs = [.int n, .int l, .int h] ∧ l ≤ n ∧ n ≤ h ∧ Q (.bl true) H
theorem sc_between : FnScope ["value", "low", "high"] ["value", "low", "high"] (defScope sBetween) := ⟨rfl, rfl, rfl, by decide +kernel, rfl, by decide +kernel, by decide +kernel⟩
theorem ok_between {f g : Addr} {fd fdg : FuncData} (F : Fun K "is_between" "is_between" sBetween f fd) (G : FnOk P w K mg base CX0 1 g fdg ["value"] spIsInt) (mG : mg "is_integer" = some (.ref g)) (kG : PySem.W.keepIn K (.ref g) = true) (bG : Binds K fdg ["value"] []) :
    FnOk P w K mg base CX0 2 f fd ["value", "low", "high"] spBetween := by
  refine F.ok sc_between (fun vs H Q E h => ?_) (fun cdv A outer s H vs Q E hr h => ?_)
  · obtain ⟨n, l, m, rfl, _⟩ := h
    rfl
  · obtain ⟨n, l, m, rfl, h1, h2, k⟩ := h
    refine ⟨_, pss_one (ps_ret (pe_and (pe_call G hr (by rfl) mG kG bG .nil pass0 (pa_cons (pv 0) pa_nil)) (pe_one (pe_chain op_le op_le (pv 1) (pv 0) (pv 2))))), ?_⟩
    refine ⟨_, rfl, n, rfl, true, rfl, itC rfl ⟨_, rfl, _, rfl, l, n, rfl, rfl, _, rfl, itC (decide_eq_true h1) ⟨_, rfl, n, m, rfl, rfl, ?_⟩⟩⟩
    show Q (.bl (decide (n ≤ m))) H
    rw [decide_eq_true h2]
    exact k

/-! ### are_variables, distinct -/
def spVars : Sp := fun vs H Q _ => ∃ p : List Nat, vs = [.str (tx p)] ∧ (∀ c ∈ p, 97 ≤ c ∧ c < 123) ∧ p.length ≤ 1000 ∧ ∀ H', Same H H' → Q (.bl true) H'
theorem sc_vars : FnScope ["value", "sign"] ["value"] (defScope sVars) := ⟨rfl, rfl, rfl, by decide +kernel, rfl, by decide +kernel, by decide +kernel⟩
theorem ok_vars {f : Addr} {fd : FuncData} (F : Fun K "are_variables" "are_variables" sVars f fd) (N : Nm mg) : FnOk P w K mg base CX0 1 f fd ["value"] spVars := by
  refine F.ok sc_vars (fun vs H Q E h => ?_) (fun cdv A outer s H vs Q E hr h => ?_)
  · obtain ⟨p, rfl, _⟩ := h
    rfl
  · obtain ⟨p, rfl, low, hl, k⟩ := h
    obtain ⟨ta, hal⟩ := N.alpha
    refine ⟨_, pss_one (ps_ret (pe_and (pe_callB call_isi (by rfl) N.isinstance boot_isinstance (pa_cons (pv 0) (pa_cons (pe_bltn (v := .ty "str") (by rfl) N.str (by decide +kernel) rfl) pa_nil)))
      (pe_one (pe_callB (cr_all rfl) (by rfl) N.all (by decide +kernel) (pa_cons (pe_lc (own := [("sign", 1)]) (g := gName 1) (tt := tYes) rfl sc_vars.nd (pi_str (pv 0)) (blkOk_by (N := ["value", "sign"]) (sc := defScope sVars) (by decide +kernel))
        (fun _ _ _ _ _ => pg_name (i := 1) sc_vars.nd rfl (Or.inl rfl)) (fun _ _ _ _ _ => pts_nil) (fun _ _ _ _ _ => pe_cmpR op_in_sign (pv 1) (pe_glob (v := .str abc) (by rfl) hal ⟨_, rfl⟩) rfl)) pa_nil))))), ?_⟩
    refine ⟨_, rfl, _, _, _, _, true, rfl, .ty "str", .base (.str _), kit_ty (by decide +kernel), true, rfl, itC rfl ?_⟩
    refine ⟨_, rfl, _, rfl, fun D hD => lc_it walk_str (fun i H' => Same H H' ∧ H' D = some (.lst ((List.replicate i true).map V.bl))) ⟨same_upd hD, upd_same⟩ (fun _ _ _ _ => trivial) ?_ ?_⟩
    · rintro i x H1 H2 hi ⟨s1, hd⟩ ⟨rfl, c, hc, rfl⟩
      have hm := low c (at_mem (tx_at hc))
      refine ⟨rfl, _, rfl, c, abc, rfl, rfl, _, hd, ?_, same_put s1 hD, ?_⟩
      · rw [tx_size] at hi
        rw [List.length_map, List.length_replicate]
        exact small1000 (by omega)
      · have e : decide (c ∈ abc.cps.toList) = true := by
          refine decide_eq_true ?_
          rw [abc_tx, tx_cps]
          refine List.mem_map.mpr ⟨c - 97, List.mem_range.mpr (by omega), by omega⟩
        rw [upd_same, e, List.replicate_succ', List.map_append]
        rfl
    · rintro H1 ⟨s1, hd⟩
      refine ⟨D, List.replicate (tx p).cps.size true, rfl, SqL.of hd, ?_⟩
      rw [show (List.replicate (tx p).cps.size true).all id = true from by
        rw [List.all_eq_true]
        intro b hb
        exact List.eq_of_mem_replicate hb]
      exact k _ s1

def spDistinct : Sp := fun vs H Q _ => ∃ p : List Nat, vs = [.str (tx p)] ∧ p.length ≤ 1000 ∧ ∀ H', Same H H' → Q (.str (tx (dist p))) H'
theorem sc_distinct : FnScope ["pattern", "index", "sign"] ["pattern"] (defScope sDistinct) := ⟨rfl, rfl, rfl, by decide +kernel, rfl, by decide +kernel, by decide +kernel⟩
theorem ok_distinct {f : Addr} {fd : FuncData} (F : Fun K "distinct" "distinct" sDistinct f fd) (N : Nm mg) : FnOk P w K mg base CX0 1 f fd ["pattern"] spDistinct := by
  refine F.ok sc_distinct (fun vs H Q E h => ?_) (fun cdv A outer s H vs Q E hr h => ?_)
  · obtain ⟨p, rfl, _⟩ := h
    rfl
  · obtain ⟨p, rfl, hl, k⟩ := h
    refine ⟨_, pss_one (ps_ret (pe_join pe_str (pe_lc (own := [("index", 1), ("sign", 2)]) (g := gTup K 2 (gCons (gName 1) (gCons (gName 2) gNil))) rfl sc_distinct.nd (pi_enumS (by rfl) N.enumerate (pa_cons (pv 0) pa_nil))
      (blkOk_by (N := ["pattern", "index", "sign"]) (sc := defScope sDistinct) (by decide +kernel))
      (fun _ _ _ _ _ => pg_tup rfl (pgs_cons (pg_name (i := 1) sc_distinct.nd rfl (Or.inl rfl)) (pgs_cons (pg_name (i := 2) sc_distinct.nd rfl (Or.inl rfl)) pgs_nil)))
      (fun _ _ _ _ _ => pts_one (pt_cmpR op_eq (pe_m1 PySem.F.slot_str_index PySem.F.type_str_index mt_sindex (pv 0) (pv 2)) (pv 1) (nomark _))) (fun _ _ _ _ _ => pv 2)))), ?_⟩
    refine ⟨⟨_, rfl⟩, _, rfl, _, rfl, fun D hD => lc_it walk_enums (fun i H' => Same H H' ∧ H' D = some (.lst (sv (dist (p.take i))))) ⟨same_upd hD, upd_same⟩ (fun _ _ _ _ => trivial) ?_ ?_⟩
    · rintro i x H1 H2 hi ⟨s1, hd⟩ ⟨T, c, rfl, hT, rfl, hc⟩
      have hp := tx_at hc
      obtain ⟨rest, ho⟩ := occ_sign (at_mem hp)
      have hd2 : upd H1 T (.tup [.int (i : Nat), .str (sg c)]) D = some (.lst (sv (dist (p.take i)))) := by
        rw [upd_ne (ne_of_none hd hT)]
        exact hd
      have s2 : Same H (upd H1 T (.tup [.int (i : Nat), .str (sg c)])) := s1.trans (same_upd hT)
      refine ⟨T, _, rfl, .inl (.inl upd_same), rfl, _, _, rfl, _, _, rfl, rfl, rfl, ?_⟩
      refine ⟨_, rfl, ⟨_, rfl⟩, _, rfl, _, _, _, _, rfl, rfl, ho, _, rfl, rfl, _, rfl, ?_⟩
      by_cases e : ix p c = i
      · refine itC (decide_eq_true (by rw [e])) ⟨_, rfl, _, hd2, ?_, same_put s2 hD, ?_⟩
        · have := dist_len_take p i
          rw [tx_size] at hi
          rw [show (sv (dist (p.take i))).length = (dist (p.take i)).length from List.length_map _]
          exact small1000 (by omega)
        · rw [upd_same, dist_step hp, if_neg ((first_at hp).mp e)]
          unfold sv
          rw [List.map_append]
          rfl
      · refine itN (decide_eq_false fun z => e (by have := V.int.inj z; omega)) ⟨s2, ?_⟩
        rw [dist_step hp, if_pos (Classical.byContradiction fun z => e ((first_at hp).mpr z))]
        exact hd2
    · rintro H1 ⟨s1, hd⟩
      have e : p.take (tx p).cps.size = p := by rw [tx_size, List.take_length]
      rw [e] at hd
      refine ⟨_, D, (dist p).map sg, rfl, rfl, .inl (SqL.of (by rw [List.map_map]; exact hd)), ?_, ?_⟩
      · have q := join_room (dist p)
        have q2 := dist_len p
        rw [show (Str.ofString "" : Str) = tx [] from rfl]
        omega
      · rw [show (Str.ofString "" : Str) = tx [] from rfl, join_sg]
        exact k _ s1
end
end K61

/-! The small defs, on: the needs, normal, filled. -/
namespace K61
open PySem PySem.Spec PyProof.Rows L2
/-- a def that the module's name holds -/
structure At (P : Program) (w : World) (K : PySem.W.Frag) (mg : Str → Option Value) (base : Heap) (x : Str) (k : Nat) (ps : List Str) (sp : Sp) where
  a : Addr
  fd : FuncData
  ok : FnOk P w K mg base CX0 k a fd ps sp
  m : mg x = some (.ref a)
  kp : PySem.W.keepIn K (.ref a) = true
  b : Binds K fd ps []

section
variable {P : Program} {w : World} {K : PySem.W.Frag} {mg : Str → Option Value} {base : Heap}

def spFits : Sp := fun vs H Q _ => ∃ p : List Nat, vs = [.str (tx p)] ∧ PatOk p ∧ ∀ H', Same H H' → Q (.bl true) H'
theorem sc_fits : FnScope ["value"] ["value"] (defScope sFits) := ⟨rfl, rfl, rfl, by decide +kernel, rfl, by decide +kernel, by decide +kernel⟩
theorem ok_fits {f : Addr} {fd : FuncData} (F : Fun K "fits_pattern" "fits_pattern" sFits f fd) (N : Nm mg) (V1 : At P w K mg base "are_variables" 1 ["value"] spVars) (D : At P w K mg base "distinct" 1 ["pattern"] spDistinct) :
    FnOk P w K mg base CX0 2 f fd ["value"] spFits := by
  refine F.ok sc_fits (fun vs H Q E h => ?_) (fun cdv A outer s H vs Q E hr h => ?_)
  · obtain ⟨p, rfl, _⟩ := h
    rfl
  · obtain ⟨p, rfl, ok, k⟩ := h
    obtain ⟨t1, m1⟩ := N.mPat
    obtain ⟨t2, m2⟩ := N.mVar
    refine ⟨_, pss_cons (ps_if (PW.pt (pw_or (pt_not (pt_val (pe_call V1.ok hr (by rfl) V1.m V1.kp V1.b .nil pass0 (pa_cons (pv 0) pa_nil))))
        (pw_or1 (pt_cmpR op_gt (pe_callB call_len_str (by rfl) N.len PySem.boot_len (pa_cons (pv 0) pa_nil)) (pe_glob (v := .int 40) (by rfl) m1 ⟨_, rfl⟩) (nomark _))))) (pss_one ps_never) pss_nil)
      (pss_one (ps_ret (pe_cmpR op_le (pe_callB call_len_str (by rfl) N.len PySem.boot_len (pa_cons (pe_call D.ok hr (by rfl) D.m D.kp D.b .nil pass0 (pa_cons (pv 0) pa_nil)) pa_nil)) (pe_glob (v := .int 8) (by rfl) m2 ⟨_, rfl⟩) (nomark _)))), ?_⟩
    have hl := ok.len
    refine ⟨_, rfl, p, rfl, ok.low, by omega, fun H1 s1 => ⟨true, rfl, ?_⟩⟩
    refine itN rfl ⟨_, rfl, _, rfl, by rw [tx_len, sizeLine_eq]; omega, _, _, rfl, rfl, _, rfl, itN (decide_eq_false (by rw [tx_len]; omega)) ?_⟩
    refine ⟨_, rfl, p, rfl, by omega, fun H2 s2 => ⟨_, rfl, by rw [tx_len, sizeLine_eq]; have := ok.few; omega, _, _, rfl, rfl, ?_⟩⟩
    show Q (.bl (decide (((tx (dist p)).length : Int) ≤ 8))) H2
    rw [decide_eq_true (by rw [tx_len]; have := ok.few; omega)]
    exact k _ (s1.trans s2)

def spNeedP : Sp := fun vs H Q _ => ∃ p : List Nat, vs = [.str (tx p)] ∧ PatOk p ∧ ∀ H', Same H H' → Q .non H'
theorem sc_needP : FnScope ["value"] ["value"] (defScope sNeedP) := ⟨rfl, rfl, rfl, by decide +kernel, rfl, by decide +kernel, by decide +kernel⟩
theorem ok_needP {f : Addr} {fd : FuncData} (F : Fun K "need_pattern" "need_pattern" sNeedP f fd) (G : At P w K mg base "fits_pattern" 2 ["value"] spFits) : FnOk P w K mg base CX0 3 f fd ["value"] spNeedP := by
  refine F.ok sc_needP (fun vs H Q E h => ?_) (fun cdv A outer s H vs Q E hr h => ?_)
  · obtain ⟨p, rfl, _⟩ := h
    rfl
  · obtain ⟨p, rfl, ok, k⟩ := h
    refine ⟨_, pss_one (ps_if (pt_not (pt_val (pe_call G.ok hr (by rfl) G.m G.kp G.b .nil pass0 (pa_cons (pv 0) pa_nil)))) (pss_one ps_never) pss_nil), ?_⟩
    exact ⟨_, rfl, p, rfl, ok, fun H1 s1 => ⟨true, rfl, itN rfl (k _ s1)⟩⟩

def spNeedC : Sp := fun vs H Q _ => ∃ n l h : Int, vs = [.int n, .int l, .int h] ∧ l ≤ n ∧ n ≤ h ∧ Q .non H
theorem sc_needC : FnScope ["value", "low", "high"] ["value", "low", "high"] (defScope sNeedC) := ⟨rfl, rfl, rfl, by decide +kernel, rfl, by decide +kernel, by decide +kernel⟩
theorem ok_needC {f : Addr} {fd : FuncData} (F : Fun K "need_count" "need_count" sNeedC f fd) (G : At P w K mg base "is_between" 2 ["value", "low", "high"] spBetween) : FnOk P w K mg base CX0 3 f fd ["value", "low", "high"] spNeedC := by
  refine F.ok sc_needC (fun vs H Q E h => ?_) (fun cdv A outer s H vs Q E hr h => ?_)
  · obtain ⟨n, l, m, rfl, _⟩ := h
    rfl
  · obtain ⟨n, l, m, rfl, h1, h2, k⟩ := h
    refine ⟨_, pss_one (ps_if (pt_not (pt_val (pe_call G.ok hr (by rfl) G.m G.kp G.b .nil pass0 (pa_cons (pv 0) (pa_cons (pv 1) (pa_cons (pv 2) pa_nil)))))) (pss_one ps_never) pss_nil), ?_⟩
    exact ⟨_, rfl, _, rfl, _, rfl, n, l, m, rfl, h1, h2, true, rfl, itN rfl k⟩

/-! ### normal -/
def spNormal : Sp := fun vs H Q _ => ∃ p : List Nat, vs = [.str (tx p)] ∧ PatOk p ∧ ∀ H', Same H H' → Q (.str (tx (norm p))) H'
theorem sc_normal : FnScope ["pattern", "order", "sign"] ["pattern"] (defScope sNormal) := ⟨rfl, rfl, rfl, by decide +kernel, rfl, by decide +kernel, by decide +kernel⟩
theorem ok_normal {f : Addr} {fd : FuncData} (F : Fun K "normal" "normal" sNormal f fd) (N : Nm mg) (G : At P w K mg base "need_pattern" 3 ["value"] spNeedP) (D : At P w K mg base "distinct" 1 ["pattern"] spDistinct) :
    FnOk P w K mg base CX0 4 f fd ["pattern"] spNormal := by
  refine F.ok sc_normal (fun vs H Q E h => ?_) (fun cdv A outer s H vs Q E hr h => ?_)
  · obtain ⟨p, rfl, _⟩ := h
    rfl
  · obtain ⟨p, rfl, ok, k⟩ := h
    obtain ⟨ta, hal⟩ := N.alpha
    have hl := ok.len
    refine ⟨_, pss_cons (ps_expr (pe_call G.ok hr (by rfl) G.m G.kp G.b .nil pass0 (pa_cons (pv 0) pa_nil)))
      (pss_cons (ps_set (i := 1) sc_normal.nd rfl (Or.inr rfl) (pe_call D.ok (hr.mono (by decide)) (by rfl) D.m D.kp D.b .nil pass0 (pa_cons (pv 0) pa_nil)))
      (pss_one (ps_ret (pe_join pe_str (pe_lc (own := [("sign", 2)]) (g := gName 2) (tt := tYes) rfl sc_normal.nd (pi_str (pv 0)) (blkOk_by (N := ["pattern", "order", "sign"]) (sc := defScope sNormal) (by decide +kernel))
        (fun _ _ _ _ _ => pg_name (i := 2) sc_normal.nd rfl (Or.inl rfl)) (fun _ _ _ _ _ => pts_nil)
        (fun _ _ _ _ _ => pe_ix ix_str (pe_glob (v := .str abc) (by rfl) hal ⟨_, rfl⟩) (pe_m1 PySem.F.slot_str_index PySem.F.type_str_index mt_sindex (pv 1) (pv 2)) (fun _ _ => rfl))))))), ?_⟩
    refine ⟨_, rfl, p, rfl, ok, fun H1 s1 => ⟨_, rfl, p, rfl, by omega, fun H2 s2 => ?_⟩⟩
    refine ⟨⟨_, rfl⟩, _, rfl, _, rfl, fun D1 hD => lc_it walk_str (fun i H' => Same H2 H' ∧ H' D1 = some (.lst (sv (norm (p.take i) |>.map id |> fun _ => (p.take i).map fun c => 97 + ix (dist p) c)))) ⟨same_upd hD, upd_same⟩ (fun _ _ _ _ => trivial) ?_ ?_⟩
    · rintro i x H3 H4 hi ⟨s3, hd⟩ ⟨rfl, c, hc, rfl⟩
      have hp := tx_at hc
      have hm := mem_dist.mpr (at_mem hp)
      obtain ⟨rest, ho⟩ := occ_sign hm
      have hix := ix_lt hm
      have hfew := ok.few
      refine ⟨rfl, _, rfl, ⟨_, rfl⟩, _, rfl, _, _, _, _, rfl, rfl, ho, _, _, 97 + ix (dist p) c, rfl, rfl, by decide +kernel, ?_, _, hd, ?_, same_put s3 hD, ?_⟩
      · refine atI_nat ?_
        rw [abc_tx, tx_cps]
        exact abc_at (by omega)
      · rw [tx_size] at hi
        show ((List.map _ _).length : Nat) < _
        rw [List.length_map, List.length_map, List.length_take]
        exact small1000 (by omega)
      · rw [upd_same]
        show some (HO.lst (sv ((p.take i).map fun c => 97 + ix (dist p) c) ++ _)) = some (HO.lst (sv ((p.take (i + 1)).map fun c => 97 + ix (dist p) c)))
        rw [List.take_add_one, hp]
        unfold sv
        rw [List.map_append, List.map_append]
        rfl
    · rintro H3 ⟨s3, hd⟩
      have e : p.take (tx p).cps.size = p := by rw [tx_size, List.take_length]
      have hd' : H3 D1 = some (.lst (sv (norm p))) := by
        have z : H3 D1 = some (.lst (sv ((p.take (tx p).cps.size).map fun c => 97 + ix (dist p) c))) := hd
        rw [e] at z
        exact z
      refine ⟨_, D1, (norm p).map sg, rfl, rfl, .inl (SqL.of (by rw [List.map_map]; exact hd')), ?_, ?_⟩
      · have q := join_room (norm p)
        have q2 := norm_len p
        rw [show (Str.ofString "" : Str) = tx [] from rfl]
        omega
      · rw [show (Str.ofString "" : Str) = tx [] from rfl, join_sg]
        exact k _ (s1.trans (s2.trans s3))

/-! ### filled -/
def spFilled (K : PySem.W.Frag) : Sp := fun vs H Q _ => ∃ (p : List Nat) (d : Addr) (kvs : List (Key × V)) (g : Nat → List Nat), vs = [.str (tx p), .ref d] ∧ H d = some (.dK kvs) ∧ p.length ≤ 40 ∧
  (∀ c ∈ p, (g c).length ≤ 100 ∧ ∃ t, valV kvs (.inr (sg c)) = some (.ref t) ∧ SqT K H t (nv (g c))) ∧ ∀ H' t, Same H H' → H t = none → H' t = some (.tup (nv (p.flatMap g))) → Q (.ref t) H'
theorem sc_filled : FnScope ["pattern", "values", "letters", "sign"] ["pattern", "values"] (defScope sFilled) := ⟨rfl, rfl, rfl, by decide +kernel, rfl, by decide +kernel, by decide +kernel⟩
theorem flat_len {g : Nat → List Nat} {n : Nat} : ∀ {p : List Nat}, (∀ c ∈ p, (g c).length ≤ n) → (p.flatMap g).length ≤ p.length * n
  | [], _ => Nat.zero_le _
  | a :: p, h => by
    have ih := flat_len (p := p) fun c hc => h c (List.mem_cons_of_mem _ hc)
    have h1 := h a List.mem_cons_self
    rw [List.flatMap_cons, List.length_append, List.length_cons, Nat.succ_mul]
    omega
theorem ok_filled {f : Addr} {fd : FuncData} (F : Fun K "filled" "filled" sFilled f fd) (N : Nm mg) : FnOk P w K mg base CX0 1 f fd ["pattern", "values"] (spFilled K) := by
  refine F.ok sc_filled (fun vs H Q E h => ?_) (fun cdv A outer s H vs Q E hr h => ?_)
  · obtain ⟨p, d, kvs, g, rfl, _⟩ := h
    rfl
  · obtain ⟨p, d, kvs, g, rfl, hd, hl, hv, k⟩ := h
    refine ⟨_, pss_cons (ps_set (i := 2) sc_filled.nd rfl (Or.inl rfl) (pe_lst pa_nil)) (pss_cons (ps_for PassesOwn.never rfl (pi_str (pv 0)) (pg_name (i := 3) sc_filled.nd rfl (Or.inl rfl))
      (pss_one (ps_expr (pe_bm PySem.F.plainAttrs_list PySem.F.slot_list_extend PySem.F.type_list_extend mt_extT (pv 2) (pa_cons (pe_dget (hu_of hr) (pv 1) (pv 3) (fun _ _ => rfl)) pa_nil)))))
      (pss_one (ps_ret (pe_callTy call_tuple_of (by rfl) N.tuple (by decide +kernel) (pa_cons (pv 2) pa_nil))))), ?_⟩
    refine ⟨Nat.zero_le _, fun l hL => ⟨_, rfl, _, rfl, for_it walk_str (fun i σ H' => ∃ v, σ = [some (.str (tx p)), some (.ref d), some (.ref l), v] ∧ Same H H' ∧ H' l = some (.lst (nv ((p.take i).flatMap g)))) ⟨none, rfl, same_upd hL, upd_same⟩ (fun _ _ _ _ _ => trivial) ?_ ?_⟩⟩
    · rintro i x σ H1 H2 hi ⟨v, rfl, s1, h1⟩ ⟨rfl, c, hc, rfl⟩
      have hp := tx_at hc
      obtain ⟨hg, t, hval, hT⟩ := hv c (at_mem hp)
      have hd1 : H2 d = some (.dK kvs) := s1 _ _ hd
      refine ⟨_, rfl, .inl ⟨rfl, _, SqL.of h1⟩, _, rfl, _, rfl, d, _, rfl, (hval ▸ DGet.k (k := Sum.inr (sg c)) hd1), l, t, _, nv (g c), rfl, rfl, h1, sameT s1 hT, ?_, ?_⟩
      · rw [nv_len, nv_len, sizeLine_eq]
        have q := flat_len (g := g) (n := 100) (p := p.take i) fun c hc => (hv c (List.mem_of_mem_take hc)).1
        rw [List.length_take] at q
        have : min i p.length ≤ 40 := by omega
        have : min i p.length * 100 ≤ 40 * 100 := Nat.mul_le_mul_right _ this
        omega
      · refine ⟨_, rfl, same_put s1 hL, ?_⟩
        rw [upd_same, List.take_add_one, hp, List.flatMap_append, nv_app]
        simp
    · rintro σ H1 ⟨v, rfl, s1, h1⟩
      have e : p.take (tx p).cps.size = p := by rw [tx_size, List.take_length]
      rw [e] at h1
      refine ⟨_, rfl, l, _, rfl, .inl ⟨SqL.of h1, fun t hT => ?_⟩⟩
      exact k _ t (s1.trans (same_upd hT)) (s1.free hT) upd_same

/-! ### need_bounds -/
def spNeedB : Sp := fun vs H Q _ => ∃ (p : List Nat) (k m : Nat), vs = [.str (tx p), .int (k : Int), .int (m : Int)] ∧ PatOk p ∧ p ≠ [] ∧ 1 ≤ k ∧ k ≤ 4 ∧ 1 ≤ m ∧ m ≤ 4 ∧ ∀ H', Same H H' → Q .non H'
theorem sc_needB : FnScope ["pattern", "letters", "longest"] ["pattern", "letters", "longest"] (defScope sNeedB) := ⟨rfl, rfl, rfl, by decide +kernel, rfl, by decide +kernel, by decide +kernel⟩
theorem ok_needB {f : Addr} {fd : FuncData} (F : Fun K "need_bounds" "need_bounds" sNeedB f fd) (N : Nm mg) (G : At P w K mg base "need_pattern" 3 ["value"] spNeedP) (C : At P w K mg base "need_count" 3 ["value", "low", "high"] spNeedC) :
    FnOk P w K mg base CX0 4 f fd ["pattern", "letters", "longest"] spNeedB := by
  refine F.ok sc_needB (fun vs H Q E h => ?_) (fun cdv A outer s H vs Q E hr h => ?_)
  · obtain ⟨p, k, m, rfl, _⟩ := h
    rfl
  · obtain ⟨p, k, m, rfl, ok, ne, k1, k4, m1, m4, q⟩ := h
    obtain ⟨t1, g1⟩ := N.mLet
    obtain ⟨t2, g2⟩ := N.mLon
    refine ⟨_, pss_cons (ps_expr (pe_call G.ok hr (by rfl) G.m G.kp G.b .nil pass0 (pa_cons (pv 0) pa_nil)))
      (pss_cons (ps_if (pt_cmpR op_eq (pv 0) pe_str (nomark _)) (pss_one ps_never) pss_nil)
      (pss_cons (ps_expr (pe_call C.ok hr (by rfl) C.m C.kp C.b .nil pass0 (pa_cons (pv 1) (pa_cons pe_int (pa_cons (pe_glob (v := .int 4) (by rfl) g1 ⟨_, rfl⟩) pa_nil)))))
      (pss_one (ps_expr (pe_call C.ok hr (by rfl) C.m C.kp C.b .nil pass0 (pa_cons (pv 2) (pa_cons pe_int (pa_cons (pe_glob (v := .int 4) (by rfl) g2 ⟨_, rfl⟩) pa_nil)))))))), ?_⟩
    refine ⟨_, rfl, p, rfl, ok, fun H1 s1 => ⟨_, rfl, rfl, _, rfl, itN (decide_eq_false fun z => ?_) ?_⟩⟩
    · have z2 : tx p = tx [] := V.str.inj z
      exact ne (tx_inj.mp z2)
    · exact ⟨_, rfl, _, _, _, rfl, by omega, by omega, _, rfl, _, _, _, rfl, by omega, by omega, q _ s1⟩
end
end K61

/-! Lists of texts, and the walks of comprehensions with two for. -/
namespace K61
open PySem PySem.Spec PyProof.Rows L2

/-! ### two for in one comprehension -/
section
variable {J : It} {n : Nat} {G : Hp → Prop} {Y : Nat → Hp → V → Hp → Prop}
/-- the inner walk, the new list at D -/
theorem in_it (w : Walk J n G Y) {g : TG} {tt : TT} {te : TE} {vs : List Nat} {σ : L2.St} {H1 : Hp} {D : Addr} {Qd : Hp → Prop} (Pv : Nat → Hp → Prop) (h0 : Pv 0 H1) (hG : ∀ i H, i ≤ n → Pv i H → G H)
    (hs : ∀ i x H H', i < n → Pv i H → Y i H x H' → g x (wipe σ vs) H' fun σ2 H2 => wipe σ2 vs = wipe σ vs ∧ tt σ2 H2 fun b H3 => if b = true then te σ2 H3 fun y H4 => ∃ acc, H4 D = some (.lst acc) ∧ acc.length < sizeLine ∧ Pv (i + 1) (upd H4 D (.lst (acc ++ [y]))) else Pv (i + 1) H3)
    (hd : ∀ H, Pv n H → Qd H) : ∃ W1 : Nat → Nat → Hp → Prop, (∃ m, W1 0 m H1) ∧ ∀ j k H, W1 j k H → (J.stop j H ∧ Qd H) ∨ (J.go j H ∧ ∃ Nx1 : Hp → Prop, (∀ H', Nx1 H' → ∃ k', k' < k ∧ W1 (j + 1) k' H') ∧
      ∀ x H', J.yld j H x H' → g x (wipe σ vs) H' fun σ2 H2 => wipe σ2 vs = wipe σ vs ∧ tt σ2 H2 fun b H3 => if b = true then te σ2 H3 fun y H4 => ∃ acc, H4 D = some (.lst acc) ∧ acc.length < sizeLine ∧ Nx1 (upd H4 D (.lst (acc ++ [y]))) else Nx1 H3) := by
  refine ⟨fun i m H => m + i = n ∧ Pv i H, ⟨n, by simp, h0⟩, fun i m H ⟨e, p⟩ => ?_⟩
  have q := hG i H (by omega) p
  cases m with
  | zero =>
    have e' : i = n := by omega
    subst e'
    exact .inl ⟨w.stops H q, hd H p⟩
  | succ m =>
    have hlt : i < n := by omega
    exact .inr ⟨w.goes i H hlt q, Pv (i + 1), fun H' p' => ⟨m, Nat.lt_succ_self m, by omega, p'⟩, fun x H' y => hs i x H H' hlt p (w.yields i H x H' hlt q y)⟩
/-- the outer walk: one turn T is left to the caller -/
theorem out_it (w : Walk J n G Y) {T : V → Hp → (Hp → Prop) → Prop} {H0 : Hp} {Qd : Hp → Prop} (Pv : Nat → Hp → Prop) (h0 : Pv 0 H0) (hG : ∀ i H, i ≤ n → Pv i H → G H)
    (hs : ∀ i x H H', i < n → Pv i H → Y i H x H' → T x H' (Pv (i + 1))) (hd : ∀ H, Pv n H → Qd H) :
    ∃ W : Nat → Nat → Hp → Prop, (∃ m, W 0 m H0) ∧ ∀ i m H, W i m H → (J.stop i H ∧ Qd H) ∨ (J.go i H ∧ ∃ Nx : Hp → Prop, (∀ H', Nx H' → ∃ m', m' < m ∧ W (i + 1) m' H') ∧ ∀ x H', J.yld i H x H' → T x H' Nx) := by
  refine ⟨fun i m H => m + i = n ∧ Pv i H, ⟨n, by simp, h0⟩, fun i m H ⟨e, p⟩ => ?_⟩
  have q := hG i H (by omega) p
  cases m with
  | zero =>
    have e' : i = n := by omega
    subst e'
    exact .inl ⟨w.stops H q, hd H p⟩
  | succ m =>
    have hlt : i < n := by omega
    exact .inr ⟨w.goes i H hlt q, Pv (i + 1), fun H' p' => ⟨m, Nat.lt_succ_self m, by omega, p'⟩, fun x H' y => hs i x H H' hlt p (w.yields i H x H' hlt q y)⟩
end

/-! ### lists of tuples of letters -/
inductive Tw (K : PySem.W.Frag) (H : Hp) : List V → List (List Nat) → Prop
  | nil : Tw K H [] []
  | cons {t : Addr} {w : List Nat} {xs : List V} {ws : List (List Nat)} : SqT K H t (nv w) → Tw K H xs ws → Tw K H (.ref t :: xs) (w :: ws)
section
variable {K : PySem.W.Frag} {H H' : Hp}
theorem Tw.same {xs : List V} {ws : List (List Nat)} (h : Tw K H xs ws) (s : Same H H') : Tw K H' xs ws := by
  induction h with
  | nil => exact .nil
  | cons a _ ih => exact .cons (sameT s a) ih
theorem Tw.app {xs ys : List V} {ws us : List (List Nat)} (h : Tw K H xs ws) (g : Tw K H ys us) : Tw K H (xs ++ ys) (ws ++ us) := by
  induction h with
  | nil => exact g
  | cons a _ ih => exact .cons a ih
theorem Tw.len {xs : List V} {ws : List (List Nat)} (h : Tw K H xs ws) : xs.length = ws.length := by
  induction h with
  | nil => rfl
  | cons a _ ih => exact congrArg (· + 1) ih
theorem Tw.get {xs : List V} {ws : List (List Nat)} (h : Tw K H xs ws) : ∀ {i : Nat} {x : V}, xs[i]? = some x → ∃ t w, x = .ref t ∧ ws[i]? = some w ∧ SqT K H t (nv w) := by
  induction h with
  | nil => intro i x e; cases e
  | cons a _ ih =>
    intro i x e
    cases i with
    | zero => exact ⟨_, _, (Option.some.inj e).symm, rfl, a⟩
    | succ i => exact ih e
theorem tupU {t D : Addr} {xs zs : List V} {o : HO} (h : SqT K H t xs) (hD : H D = some (.lst zs)) : SqT K (upd H D o) t xs := by
  rcases h with h | h
  · have ne : t ≠ D := by
      rintro rfl
      rcases h with h | ⟨_, h⟩
      · rw [hD] at h
        cases h
      · rw [hD] at h
        cases h
    exact .inl (h.imp (fun e => by rw [upd_ne ne]; exact e) fun ⟨u, e⟩ => ⟨u, by rw [upd_ne ne]; exact e⟩)
  · exact .inr h
theorem Tw.upd {D : Addr} {xs zs : List V} {ws : List (List Nat)} {o : HO} (h : Tw K H xs ws) (hD : H D = some (.lst zs)) : Tw K (L2.upd H D o) xs ws := by
  induction h with
  | nil => exact .nil
  | cons a _ ih => exact .cons (tupU a hD) ih
theorem Tw.one {t : Addr} {w : List Nat} (h : SqT K H t (nv w)) : Tw K H [.ref t] [w] := .cons h .nil
end

/-! ### all texts of a length, of lengths up to one -/
def lay (k : Nat) : Nat → List (List Nat)
  | 0 => [[]]
  | s + 1 => (lay k s).flatMap fun t => (List.range k).map fun a => t ++ [a]
def sh (k : Nat) : Nat → List (List Nat)
  | 0 => []
  | s + 1 => sh k s ++ lay k (s + 1)
theorem ext_len (k : Nat) (l : List (List Nat)) : (l.flatMap fun t => (List.range k).map fun a => t ++ [a]).length = l.length * k := by
  induction l with
  | nil => simp
  | cons t l ih =>
    rw [List.flatMap_cons, List.length_append, ih, List.length_map, List.length_range, List.length_cons, Nat.succ_mul]
    omega
theorem lay_len (k : Nat) : ∀ s, (lay k s).length = k ^ s
  | 0 => rfl
  | s + 1 => by
    show ((lay k s).flatMap fun t => (List.range k).map fun a => t ++ [a]).length = _
    rw [ext_len, lay_len k s, Nat.pow_succ]
theorem mem_lay {k : Nat} : ∀ {s : Nat} {w : List Nat}, w ∈ lay k s ↔ w.length = s ∧ Over k w
  | 0, w => by
    show w ∈ [[]] ↔ _
    rw [List.mem_singleton]
    constructor
    · rintro rfl
      exact ⟨rfl, Over.nil⟩
    · rintro ⟨h, _⟩
      exact List.eq_nil_of_length_eq_zero h
  | s + 1, w => by
    show w ∈ (lay k s).flatMap _ ↔ _
    rw [List.mem_flatMap]
    constructor
    · rintro ⟨t, ht, hw⟩
      obtain ⟨a, ha, rfl⟩ := List.mem_map.mp hw
      obtain ⟨h1, h2⟩ := mem_lay.mp ht
      refine ⟨by rw [List.length_append, h1]; rfl, fun b hb => ?_⟩
      rcases List.mem_append.mp hb with z | z
      · exact h2 b z
      · rw [List.mem_singleton.mp z]
        exact List.mem_range.mp ha
    · rintro ⟨h1, h2⟩
      rcases List.eq_nil_or_concat w with rfl | ⟨t, a, rfl⟩
      · cases h1
      · rw [List.concat_eq_append] at h1 h2 ⊢
        rw [List.length_append, List.length_singleton] at h1
        refine ⟨t, mem_lay.mpr ⟨by omega, fun b hb => h2 b (List.mem_append_left _ hb)⟩, List.mem_map.mpr ⟨a, List.mem_range.mpr (h2 a (by simp)), rfl⟩⟩
theorem mem_sh {k : Nat} : ∀ {m : Nat} {w : List Nat}, w ∈ sh k m ↔ Good k m w
  | 0, w => by
    constructor
    · intro h
      cases h
    · rintro ⟨h1, h2, _⟩
      exact absurd (List.eq_nil_of_length_eq_zero (Nat.le_zero.mp h2)) h1
  | m + 1, w => by
    show w ∈ sh k m ++ lay k (m + 1) ↔ _
    rw [List.mem_append, mem_sh, mem_lay]
    constructor
    · rintro (⟨h1, h2, h3⟩ | ⟨h1, h2⟩)
      · exact ⟨h1, by omega, h3⟩
      · exact ⟨fun z => by simp [z] at h1, by omega, h2⟩
    · rintro ⟨h1, h2, h3⟩
      by_cases c : w.length = m + 1
      · exact .inr ⟨c, h3⟩
      · exact .inl ⟨h1, by omega, h3⟩
/-- how many -/
def many (k m : Nat) : Nat := (sh k m).length
theorem many_succ (k m : Nat) : many k (m + 1) = many k m + k ^ (m + 1) := by
  unfold many
  show (sh k m ++ lay k (m + 1)).length = _
  rw [List.length_append, lay_len]
theorem many_up (k : Nat) {m n : Nat} (h : m ≤ n) : many k m ≤ many k n := by
  induction n with
  | zero => rw [Nat.le_zero.mp h]; exact Nat.le_refl _
  | succ n ih =>
    by_cases c : m = n + 1
    · rw [c]; exact Nat.le_refl _
    · have := ih (by omega)
      rw [many_succ]
      omega
theorem many_wide {k j : Nat} (h : k ≤ j) : ∀ m, many k m ≤ many j m
  | 0 => Nat.le_refl _
  | m + 1 => by
    have := many_wide h m
    have := Nat.pow_le_pow_left h (m + 1)
    rw [many_succ, many_succ]
    omega
theorem many_340 {k m : Nat} (hk : k ≤ 4) (hm : m ≤ 4) : many k m ≤ 340 := by
  have h1 := many_wide hk m
  have h2 := many_up 4 hm
  have h3 : many 4 4 = 340 := by
    rw [many_succ, many_succ, many_succ, many_succ]
    rfl
  omega
theorem lay_256 {k s : Nat} (hk : k ≤ 4) (hs : s ≤ 4) : (lay k s).length ≤ 256 := by
  rw [lay_len]
  have h1 := Nat.pow_le_pow_left hk s
  have h2 := Nat.pow_le_pow_right (show 0 < 4 by decide) hs
  have : (4 : Nat) ^ 4 = 256 := rfl
  omega
theorem many_pos {k m : Nat} (hk : 1 ≤ k) (hm : 1 ≤ m) : 1 ≤ many k m := by
  have h1 := many_up k hm
  rw [show many k 1 = k from by rw [many_succ, show many k 0 = 0 from rfl, Nat.pow_one, Nat.zero_add]] at h1
  omega

section
variable {P : Program} {w : World} {K : PySem.W.Frag} {mg : Str → Option Value} {base : Heap}
abbrev sShort : Stmt := top 25
def spShort (K : PySem.W.Frag) : Sp := fun vs H Q _ => ∃ k m : Nat, vs = [.int (k : Int), .int (m : Int)] ∧ k ≤ 4 ∧ m ≤ 4 ∧ ∀ H' l xs, Same H H' → H l = none → H' l = some (.lst xs) → Tw K H' xs (sh k m) → Q (.ref l) H'
theorem sc_short : FnScope ["letters", "longest", "found", "ends", "size", "text", "letter"] ["letters", "longest"] (defScope sShort) := ⟨rfl, rfl, rfl, by decide +kernel, rfl, by decide +kernel, by decide +kernel⟩
theorem flat_take {α : Type} {l : List α} {i : Nat} {x : α} {β : Type} (f : α → List β) (h : l[i]? = some x) : (l.take (i + 1)).flatMap f = (l.take i).flatMap f ++ f x := by
  rw [List.take_add_one, h, List.flatMap_append]
  simp
theorem ok_short {f : Addr} {fd : FuncData} (F : Fun K "short_texts" "short_texts" sShort f fd) (N : Nm mg) : FnOk P w K mg base CX0 1 f fd ["letters", "longest"] (spShort K) := by
  refine F.ok sc_short (fun vs H Q E h => ?_) (fun cdv A outer s H vs Q E hr h => ?_)
  · obtain ⟨k, m, rfl, _⟩ := h
    rfl
  · obtain ⟨k, m, rfl, k4, m4, q⟩ := h
    refine ⟨_, pss_cons (ps_par rfl sc_short.nd (i := 2) (j := 3) rfl rfl (by decide) rfl rfl (pa_cons (pe_lst pa_nil) (pa_cons (pe_lst (pa_cons (pe_tup pa_nil) pa_nil)) pa_nil)) (by rfl))
      (pss_cons (ps_for PassesOwn.never rfl (pi_range1 (by rfl) N.range (pa_cons (pv 1) pa_nil)) (pg_name (i := 4) sc_short.nd rfl (Or.inl rfl))
        (pss_cons (ps_setLc2 (i := 3) (own := [("text", 5), ("letter", 6)]) (vs1 := [6]) (g := gName 5) (tt := tYes) (g1 := gName 6) (tt1 := tYes) (te := tOp (rCatA K) (tVar 5) (tTup (tCons (tVar 6) tNil))) rfl sc_short.nd rfl rfl (sw_true rfl rfl rfl (by decide +kernel)) (pi_list (pv 3))
            (blkOk_by (N := ["letters", "longest", "found", "ends", "size", "text", "letter"]) (sc := defScope sShort) (by decide +kernel)) (by decide)
            (fun _ _ _ _ _ => pg_name (i := 5) sc_short.nd rfl (Or.inl rfl)) (fun _ _ _ _ _ => pts_nil)
            (fun _ _ _ _ _ => pi_range1 (by rfl) N.range (pa_cons (pv 0) pa_nil)) (fun _ _ _ _ _ => pg_name (i := 6) sc_short.nd rfl (Or.inl rfl)) (fun _ _ _ _ _ => pts_nil)
            (fun _ _ _ _ _ => pe_op op_catA (pv 5) (pe_tup (pa_cons (pv 6) pa_nil))))
          (pss_one (ps_expr (pe_bm PySem.F.plainAttrs_list PySem.F.slot_list_extend PySem.F.type_list_extend mt_extend (pv 2) (pa_cons (pv 3) pa_nil))))))
      (pss_one (ps_ret (pv 2)))), ?_⟩
    refine ⟨Nat.zero_le _, fun l hl => ⟨Nat.zero_le _, fun t0 ht0 => ⟨by show 1 ≤ sizeLine; decide, fun e0 he0 => ⟨_, _, rfl, ?_⟩⟩⟩⟩
    have s0 : Same H (upd (upd (upd H l (.lst [])) t0 (.tup [])) e0 (.lst [.ref t0])) := (same_upd hl).trans ((same_upd ht0).trans (same_upd he0))
    have hl3 : (upd (upd (upd H l (.lst [])) t0 (.tup [])) e0 (.lst [.ref t0])) l = some (.lst []) := (same_upd he0) _ _ ((same_upd ht0) _ _ upd_same)
    have tw0 : Tw K (upd (upd (upd H l (.lst [])) t0 (.tup [])) e0 (.lst [.ref t0])) [.ref t0] (lay k 0) := Tw.one (SqT.of ((same_upd he0) _ _ upd_same))
    have e0f : H e0 = none := ((same_upd hl).trans (same_upd ht0)).free he0
    refine ⟨_, rfl, (m : Int), rfl, by omega, by omega, ?_⟩
    refine for_it walk_range (fun i σ H' => ∃ e v xs ys, σ = [some (.int (k : Int)), some (.int (m : Int)), some (.ref l), some (.ref e), v, none, none] ∧ Same H H' ∧ H' l = some (.lst xs) ∧ Tw K H' xs (sh k i) ∧ H e = none ∧ H' e = some (.lst ys) ∧ Tw K H' ys (lay k i))
      ⟨e0, none, [], _, rfl, s0, hl3, .nil, e0f, upd_same, tw0⟩ (fun _ _ _ _ _ => trivial) ?_ ?_
    · rintro i x σ H1 H2 hi ⟨e, v, xs, ys, rfl, s1, h1, tx1, he, h2, ty⟩ ⟨rfl, rfl⟩
      have hi4 : i < 4 := by
        have : (m : Int).toNat = m := Int.toNat_natCast m
        omega
      refine ⟨_, rfl, e, rfl, ⟨_, SqL.of h2⟩, fun D hD => ?_⟩
      have hlay := lay_256 k4 (show i ≤ 4 by omega)
      have hy := ty.len
      refine out_it walk_list (fun j Hc => ∃ zs, Same H2 Hc ∧ Hc D = some (.lst zs) ∧ Tw K Hc zs (((lay k i).take j).flatMap fun t => (List.range k).map fun a => t ++ [a])) ⟨[], same_upd hD, upd_same, .nil⟩ (fun j Hc hj ⟨zs, sc, _⟩ => sc.seq (SqL.of h2)) ?_ ?_
      · rintro j x H3 H4 hj ⟨zs, s3, h3, t3⟩ ⟨rfl, hx⟩
        obtain ⟨t, w, rfl, hw, hT⟩ := ty.get hx
        refine ⟨rfl, _, rfl, (k : Int), rfl, by omega, by omega, ?_⟩
        refine in_it walk_range (fun a Hc => ∃ zs, Same H2 Hc ∧ Hc D = some (.lst zs) ∧ Tw K Hc zs ((((lay k i).take j).flatMap fun t => (List.range k).map fun a => t ++ [a]) ++ ((List.range k).take a).map fun a => w ++ [a])) ⟨zs, s3, h3, by simpa using t3⟩ (fun _ _ _ _ => trivial) ?_ ?_
        · rintro a x H5 H6 ha ⟨us, s5, h5, t5⟩ ⟨rfl, rfl⟩
          have hak : a < k := by
            have : (k : Int).toNat = k := Int.toNat_natCast k
            omega
          have hlt : us.length < sizeLine := by
            rw [t5.len, List.length_append, ext_len, List.length_map, List.length_take, List.length_take, List.length_range, sizeLine_eq]
            have : min j (lay k i).length * k ≤ 256 * 4 := Nat.mul_le_mul (by omega) k4
            omega
          refine ⟨rfl, _, rfl, _, rfl, by show 1 ≤ sizeLine; decide, fun p hp => ?_⟩
          have hT6 : SqT K H6 t (nv w) := sameT s5 hT
          have e1 : ((0 : Int) + (a : Nat)) = (a : Int) := by omega
          have s6 : Same H6 (upd H6 p (.tup [.int ((0 : Int) + (a : Nat))])) := same_upd hp
          have tk : (List.range k).take (a + 1) = (List.range k).take a ++ [a] := by
            rw [List.take_add_one, List.getElem?_range hak]
            rfl
          have fin : ∀ {H7 : Hp} {c : Addr}, Same H6 H7 → SqT K H7 c (nv (w ++ [a])) → ∃ acc, H7 D = some (.lst acc) ∧ acc.length < sizeLine ∧ ∃ zs, Same H2 (upd H7 D (.lst (acc ++ [.ref c]))) ∧ (upd H7 D (.lst (acc ++ [.ref c]))) D = some (.lst zs) ∧
              Tw K (upd H7 D (.lst (acc ++ [.ref c]))) zs ((((lay k i).take j).flatMap fun t => (List.range k).map fun a => t ++ [a]) ++ ((List.range k).take (a + 1)).map fun a => w ++ [a]) := fun {H7 c} s7 hc => by
            refine ⟨us, s7 _ _ h5, hlt, us ++ [.ref c], same_put (s5.trans s7) hD, upd_same, ?_⟩
            rw [tk, List.map_append, ← List.append_assoc]
            exact ((t5.same s7).upd (s7 _ _ h5)).app (Tw.one (tupU hc (s7 _ _ h5)))
          have one : SqT K (upd H6 p (.tup [.int ((0 : Int) + (a : Nat))])) p (nv [a]) := SqT.of (by rw [upd_same, e1]; rfl)
          refine ⟨t, p, nv w, _, rfl, rfl, sameT s6 hT6, SqT.of upd_same, ?_, fun z => ?_, fun _ z => absurd z (by simp), fun _ _ p2 hp2 => ?_⟩
          · have hw4 := (mem_lay.mp (at_mem hw)).1
            rw [nv_len, hw4, sizeLine_eq]
            show i + 1 ≤ _
            omega
          · have hn : w = [] := List.map_eq_nil_iff.mp z
            subst hn
            exact fin s6 one
          · refine fin (s6.trans (same_upd hp2)) (SqT.of ?_)
            rw [upd_same, nv_app]
            show some (HO.tup (nv w ++ [V.int (0 + (a : Int))])) = _
            rw [e1]
            rfl
        · rintro H5 ⟨us, s5, h5, t5⟩
          have e2 : (k : Int).toNat = k := Int.toNat_natCast k
          rw [e2, List.take_of_length_le (Nat.le_of_eq List.length_range), ← flat_take _ hw] at t5
          exact ⟨us, s5, h5, t5⟩
      · rintro H3 ⟨zs, s3, h3, t3⟩
        rw [hy, List.take_length] at t3
        have t3' : Tw K H3 zs (lay k (i + 1)) := t3
        have hDl : l ≠ D := ne_of_none h1 hD
        have hl3' := s3 _ _ h1
        have hz := lay_256 k4 (show i + 1 ≤ 4 by omega)
        have hs := many_340 k4 (show i ≤ 4 by omega)
        unfold many at hs
        refine ⟨_, rfl, .inl ⟨rfl, _, SqL.of hl3'⟩, _, rfl, l, D, xs, zs, rfl, rfl, hl3', h3, ?_, ?_⟩
        · rw [tx1.len, t3'.len, sizeLine_eq]
          omega
        · refine ⟨D, _, xs ++ zs, zs, rfl, same_put (s1.trans s3) hl, upd_same, (((tx1.same s3).app t3').upd hl3'), s1.free hD, by rw [upd_ne hDl.symm]; exact h3, t3'.upd hl3'⟩
    · rintro σ H1 ⟨e, v, xs, ys, rfl, s1, h1, tx1, he, h2, ty⟩
      have e2 : (m : Int).toNat = m := Int.toNat_natCast m
      rw [e2] at tx1
      exact ⟨_, rfl, q _ l xs s1 hl h1 tx1⟩
end
end K61

/-! need_size and blocked. -/
namespace K61
open PySem PySem.Spec PyProof.Rows L2

/-! ### the choices -/
def chs (S : List (List Nat)) : Nat → List (List (List Nat))
  | 0 => [[]]
  | s + 1 => (chs S s).flatMap fun c => S.map fun u => c ++ [u]
theorem app_len (S : List (List Nat)) (l : List (List (List Nat))) : (l.flatMap fun c => S.map fun u => c ++ [u]).length = l.length * S.length := by
  induction l with
  | nil => simp
  | cons t l ih =>
    rw [List.flatMap_cons, List.length_append, ih, List.length_map, List.length_cons, Nat.succ_mul]
    omega
theorem chs_len (S : List (List Nat)) : ∀ s, (chs S s).length = S.length ^ s
  | 0 => rfl
  | s + 1 => by
    show ((chs S s).flatMap fun c => S.map fun u => c ++ [u]).length = _
    rw [app_len, chs_len S s, Nat.pow_succ]
theorem mem_chs {S : List (List Nat)} : ∀ {s : Nat} {c : List (List Nat)}, c ∈ chs S s ↔ c.length = s ∧ ∀ u ∈ c, u ∈ S
  | 0, c => by
    show c ∈ [[]] ↔ _
    rw [List.mem_singleton]
    constructor
    · rintro rfl
      exact ⟨rfl, fun _ h => nomatch h⟩
    · rintro ⟨h, _⟩
      exact List.eq_nil_of_length_eq_zero h
  | s + 1, c => by
    show c ∈ (chs S s).flatMap _ ↔ _
    rw [List.mem_flatMap]
    constructor
    · rintro ⟨t, ht, hw⟩
      obtain ⟨a, ha, rfl⟩ := List.mem_map.mp hw
      obtain ⟨h1, h2⟩ := mem_chs.mp ht
      refine ⟨by rw [List.length_append, h1]; rfl, fun b hb => ?_⟩
      rcases List.mem_append.mp hb with z | z
      · exact h2 b z
      · rw [List.mem_singleton.mp z]
        exact ha
    · rintro ⟨h1, h2⟩
      rcases List.eq_nil_or_concat c with rfl | ⟨t, a, rfl⟩
      · cases h1
      · rw [List.concat_eq_append] at h1 h2 ⊢
        rw [List.length_append, List.length_singleton] at h1
        exact ⟨t, mem_chs.mpr ⟨by omega, fun b hb => h2 b (List.mem_append_left _ hb)⟩, List.mem_map.mpr ⟨a, h2 a (by simp), rfl⟩⟩
/-- the word of a choice -/
def word (p : List Nat) (c : List (List Nat)) : List Nat := p.flatMap fun x => c.getD (ix (dist p) x) []
/-- the words of all choices are the blocked ones -/
theorem word_bl {p : List Nat} {k m : Nat} {w : List Nat} : (∃ c ∈ chs (sh k m) (dist p).length, w = word p c) ↔ Bl p k m w := by
  constructor
  · rintro ⟨c, hc, rfl⟩
    obtain ⟨h1, h2⟩ := mem_chs.mp hc
    refine ⟨fun x => c.getD (ix (dist p) x) [], fun x hx => ?_, rfl⟩
    have hlt := ix_lt (mem_dist.mpr hx)
    exact mem_sh.mp (h2 _ (at_mem (at_getD [] (by rw [h1]; exact hlt))))
  · rintro ⟨f, h1, rfl⟩
    refine ⟨(dist p).map f, mem_chs.mpr ⟨List.length_map _, fun u hu => ?_⟩, ?_⟩
    · obtain ⟨x, hx, rfl⟩ := List.mem_map.mp hu
      exact mem_sh.mpr (h1 x (mem_dist.mp hx))
    · refine flatMap_congr' fun x hx => ?_
      have e := ix_at (mem_dist.mpr hx)
      refine (getD_at ?_).symm
      rw [List.getElem?_map, e]
      rfl

/-! ### dicts with distinct keys -/
theorem val_skip {k : Key} : ∀ {more kvs : List (Key × V)}, (∀ kv ∈ more, kv.1 ≠ k) → valV (mergeK kvs more) k = valV kvs k
  | [], _, _ => rfl
  | kv :: more, kvs, h => by
    show valV (mergeK (putK kvs kv.1 kv.2) more) k = _
    rw [val_skip fun x hx => h x (List.mem_cons_of_mem _ hx), valV_put, if_neg (Ne.symm (h kv List.mem_cons_self))]
theorem val_merge {k : Key} {v : V} : ∀ {more kvs : List (Key × V)}, (more.map (·.1)).Nodup → (k, v) ∈ more → valV (mergeK kvs more) k = some v
  | kv :: more, kvs, nd, h => by
    rw [List.map_cons, List.nodup_cons] at nd
    show valV (mergeK (putK kvs kv.1 kv.2) more) k = _
    rcases List.mem_cons.mp h with e | h
    · subst e
      rw [val_skip fun x hx z => nd.1 (List.mem_map.mpr ⟨x, hx, z⟩), valV_put, if_pos rfl]
    · exact val_merge nd.2 h
theorem sg_inj {a b : Nat} (h : sg a = sg b) : a = b := by
  have e : (sg a).cps.toList = (sg b).cps.toList := by rw [h]
  exact (List.cons.inj e).1
theorem pairs_keys {q : List Nat} {vs : List V} (h : q.length = vs.length) : (signPairs (tx q) vs).map (·.1) = q.map fun c => (Sum.inr (sg c) : Key) := by
  unfold signPairs
  rw [tx_cps]
  exact List.map_fst_zip (by rw [List.length_map]; omega)
theorem pairs_val {q : List Nat} {vs : List V} (h : q.length = vs.length) (nd : q.Nodup) {i c : Nat} {v : V} (hc : q[i]? = some c) (hv : vs[i]? = some v) : valV (mergeK [] (signPairs (tx q) vs)) (.inr (sg c)) = some v := by
  refine val_merge ?_ ?_
  · rw [pairs_keys h]
    exact List.pairwise_map.mpr (List.Pairwise.imp (fun hne e => hne (sg_inj (Sum.inr.inj e))) nd)
  · refine List.mem_iff_getElem?.mpr ⟨i, ?_⟩
    unfold signPairs
    rw [tx_cps, List.getElem?_zip_eq_some]
    refine ⟨?_, hv⟩
    rw [List.getElem?_map, hc]
    rfl

section
variable {P : Program} {w : World} {K : PySem.W.Frag} {mg : Str → Option Value} {base : Heap}
abbrev sNeedS : Stmt := top 26
/-- the size that the program reckons -/
def size (p : List Nat) (k m : Nat) : Nat := m * p.length * many k m ^ (dist p).length
theorem size_step {p : List Nat} {k m i : Nat} (h : 1 ≤ many k m) (hi : i ≤ (dist p).length) : m * p.length * many k m ^ i ≤ size p k m := Nat.mul_le_mul_left _ (Nat.pow_le_pow_right h hi)
def spNeedS : Sp := fun vs H Q _ => ∃ (p : List Nat) (k m : Nat), vs = [.str (tx p), .int (k : Int), .int (m : Int)] ∧ p.length ≤ 40 ∧ 1 ≤ k ∧ k ≤ 4 ∧ 1 ≤ m ∧ m ≤ 4 ∧ size p k m ≤ 4096 ∧ ∀ H', Same H H' → Q .non H'
theorem sc_needS : FnScope ["pattern", "letters", "longest", "many", "size", "sign"] ["pattern", "letters", "longest"] (defScope sNeedS) := ⟨rfl, rfl, rfl, by decide +kernel, rfl, by decide +kernel, by decide +kernel⟩
theorem ok_needS {f : Addr} {fd : FuncData} (F : Fun K "need_size" "need_size" sNeedS f fd) (N : Nm mg) (S : At P w K mg base "short_texts" 1 ["letters", "longest"] (spShort K)) (D : At P w K mg base "distinct" 1 ["pattern"] spDistinct) :
    FnOk P w K mg base CX0 2 f fd ["pattern", "letters", "longest"] spNeedS := by
  refine F.ok sc_needS (fun vs H Q E h => ?_) (fun cdv A outer s H vs Q E hr h => ?_)
  · obtain ⟨p, k, m, rfl, _⟩ := h
    rfl
  · obtain ⟨p, k, m, rfl, hp, k1, k4, m1, m4, hs, q⟩ := h
    obtain ⟨tm, gm⟩ := N.mSiz
    refine ⟨_, pss_cons (ps_set (i := 3) sc_needS.nd rfl (Or.inl rfl) (pe_callB call_len_seq (by rfl) N.len PySem.boot_len (pa_cons (pe_call S.ok hr (by rfl) S.m S.kp S.b .nil pass0 (pa_cons (pv 1) (pa_cons (pv 2) pa_nil))) pa_nil)))
      (pss_cons (ps_set (i := 4) sc_needS.nd rfl (Or.inl rfl) (pe_op op_mul (pv 2) (pe_callB call_len_str (by rfl) N.len PySem.boot_len (pa_cons (pv 0) pa_nil))))
      (pss_cons (ps_for PassesOwn.never rfl (pi_str (pe_call D.ok hr (by rfl) D.m D.kp D.b .nil pass0 (pa_cons (pv 0) pa_nil))) (pg_name (i := 5) sc_needS.nd rfl (Or.inl rfl)) (pss_one (ps_aug (i := 4) sc_needS.nd rfl (Or.inl rfl) (pv 3) iop_mul)))
      (pss_one (ps_if (pt_cmpR op_gt (pv 4) (pe_glob (v := .int 4096) (by rfl) gm ⟨_, rfl⟩) (nomark _)) (pss_one ps_never) pss_nil)))), ?_⟩
    refine ⟨_, rfl, _, rfl, k, m, rfl, k4, m4, fun H1 l xs s1 hl h1 tx1 => ⟨l, xs, rfl, .inl (SqL.of h1), ?_⟩⟩
    have hx : (xs.length : Int) = (many k m : Nat) := congrArg _ tx1.len
    have hm1 := many_pos k1 m1
    refine ⟨_, rfl, _, rfl, _, rfl, by rw [tx_len, sizeLine_eq]; omega, _, _, rfl, rfl, .inl ⟨by omega, by omega⟩, ?_⟩
    refine ⟨_, rfl, p, rfl, by omega, fun H2 s2 => ⟨_, rfl, ?_⟩⟩
    refine for_it walk_str (fun i σ H' => ∃ v, σ = [some (.str (tx p)), some (.int (k : Int)), some (.int (m : Int)), some (.int (many k m : Nat)), some (.int ((m * p.length * many k m ^ i : Nat) : Int)), v] ∧ Same H H')
      ⟨none, ?_, s1.trans s2⟩ (fun _ _ _ _ _ => trivial) ?_ ?_
    · rw [hx, tx_len, Nat.pow_zero, Nat.mul_one, Int.natCast_mul]
      rfl
    · rintro i x σ H3 H4 hi ⟨v, rfl, s3⟩ ⟨rfl, c, hc, rfl⟩
      rw [tx_size] at hi
      have hb := size_step (p := p) (k := k) (m := m) hm1 (Nat.le_of_lt hi)
      refine ⟨_, rfl, _, rfl, _, _, rfl, rfl, .inl ⟨by omega, by omega⟩, some (.str ⟨#[c]⟩), ?_, s3⟩
      rw [Nat.pow_succ, ← Nat.mul_assoc, Int.natCast_mul (m * p.length * many k m ^ i)]
      rfl
    · rintro σ H3 ⟨v, rfl, s3⟩
      refine ⟨_, rfl, _, _, rfl, rfl, _, rfl, itN (decide_eq_false ?_) (q _ s3)⟩
      rw [tx_size]
      show ¬ (4096 : Int) < ((size p k m : Nat) : Int)
      omega
end

/-! ### lists of choices -/
inductive Tc (K : PySem.W.Frag) (H : Hp) : List V → List (List (List Nat)) → Prop
  | nil : Tc K H [] []
  | cons {t : Addr} {us xs : List V} {c : List (List Nat)} {cs : List (List (List Nat))} : SqT K H t us → Tw K H us c → Tc K H xs cs → Tc K H (.ref t :: xs) (c :: cs)
section
variable {K : PySem.W.Frag} {H H' : Hp}
theorem Tc.same {xs : List V} {cs : List (List (List Nat))} (h : Tc K H xs cs) (s : Same H H') : Tc K H' xs cs := by
  induction h with
  | nil => exact .nil
  | cons a b _ ih => exact .cons (sameT s a) (b.same s) ih
theorem Tc.app {xs ys : List V} {cs ds : List (List (List Nat))} (h : Tc K H xs cs) (g : Tc K H ys ds) : Tc K H (xs ++ ys) (cs ++ ds) := by
  induction h with
  | nil => exact g
  | cons a b _ ih => exact .cons a b ih
theorem Tc.len {xs : List V} {cs : List (List (List Nat))} (h : Tc K H xs cs) : xs.length = cs.length := by
  induction h with
  | nil => rfl
  | cons _ _ _ ih => exact congrArg (· + 1) ih
theorem Tc.get {xs : List V} {cs : List (List (List Nat))} (h : Tc K H xs cs) : ∀ {i : Nat} {x : V}, xs[i]? = some x → ∃ t us c, x = .ref t ∧ cs[i]? = some c ∧ SqT K H t us ∧ Tw K H us c := by
  induction h with
  | nil => intro i x e; cases e
  | cons a b _ ih =>
    intro i x e
    cases i with
    | zero => exact ⟨_, _, _, (Option.some.inj e).symm, rfl, a, b⟩
    | succ i => exact ih e
theorem Tc.upd {D : Addr} {xs zs : List V} {cs : List (List (List Nat))} {o : HO} (h : Tc K H xs cs) (hD : H D = some (.lst zs)) : Tc K (L2.upd H D o) xs cs := by
  induction h with
  | nil => exact .nil
  | cons a b _ ih => exact .cons (tupU a hD) (b.upd hD) ih
theorem Tc.one {t : Addr} {us : List V} {c : List (List Nat)} (h : SqT K H t us) (g : Tw K H us c) : Tc K H [.ref t] [c] := .cons h g .nil
end
end K61

/-! blocked. -/
namespace K61
open PySem PySem.Spec PyProof.Rows L2

def inz (u : List Nat) : List Int := u.map fun (a : Nat) => (a : Int)
theorem inz_nv (u : List Nat) : (inz u).map V.int = nv u := (nv_ints u).symm
theorem inz_inj : ∀ {u v : List Nat}, inz u = inz v → u = v
  | [], [], _ => rfl
  | [], _ :: _, h => by cases h
  | _ :: _, [], h => by cases h
  | a :: u, b :: v, h => by
    obtain ⟨h1, h2⟩ := List.cons.inj h
    have h3 : (a : Int) = (b : Int) := h1
    have : a = b := by omega
    rw [this, inz_inj (u := u) (v := v) h2]
theorem nv_inj {u v : List Nat} (h : nv u = nv v) : u = v := by
  rw [nv_ints, nv_ints] at h
  refine inz_inj ?_
  have inj : ∀ (a b : List Int), a.map V.int = b.map V.int → a = b := by
    intro a
    induction a with
    | nil => intro b e; cases b with
      | nil => rfl
      | cons _ _ => cases e
    | cons x a ih => intro b e; cases b with
      | nil => cases e
      | cons y b =>
        obtain ⟨e1, e2⟩ := List.cons.inj e
        rw [V.int.inj e1, ih b e2]
  exact inj _ _ h
theorem tw_of {K : PySem.W.Frag} {H : Hp} {R : List Nat → Prop} : ∀ {ys : List V}, (∀ y ∈ ys, ∃ t u, y = .ref t ∧ H t = some (.tup (nv u)) ∧ R u) →
    ∃ us, Tw K H ys us ∧ (∀ u ∈ us, R u) ∧ ∀ t u, V.ref t ∈ ys → H t = some (.tup (nv u)) → u ∈ us
  | [], _ => ⟨[], .nil, fun _ h => (by cases h), fun _ _ h => (by cases h)⟩
  | y :: ys, h => by
    obtain ⟨us, h1, h2, h3⟩ := tw_of (K := K) (R := R) (ys := ys) fun z hz => h z (List.mem_cons_of_mem _ hz)
    obtain ⟨t, u, rfl, hu, hr⟩ := h y List.mem_cons_self
    refine ⟨u :: us, .cons (SqT.of hu) h1, fun v hv => ?_, fun t' v hm hv => ?_⟩
    · rcases List.mem_cons.mp hv with e | e
      · rw [e]
        exact hr
      · exact h2 v e
    · rcases List.mem_cons.mp hm with e | e
      · have et : t' = t := V.ref.inj e
        subst et
        have : nv v = nv u := HO.tup.inj (Option.some.inj (hv.symm.trans hu))
        rw [nv_inj this]
        exact List.mem_cons_self
      · exact List.mem_cons_of_mem _ (h3 t' v e hv)
theorem chs_few {p : List Nat} {k m i : Nat} (k1 : 1 ≤ k) (k4 : k ≤ 4) (m1 : 1 ≤ m) (hp : p ≠ []) (hs : size p k m ≤ 4096) (hi : i ≤ (dist p).length) : (chs (sh k m) i).length ≤ 2048 := by
  rw [chs_len]
  have hm := many_pos k1 m1
  have h1 : many k m ^ i ≤ many k m ^ (dist p).length := Nat.pow_le_pow_right hm hi
  have hl : 1 ≤ p.length := List.length_pos_iff.mpr hp
  show many k m ^ i ≤ 2048
  unfold size at hs
  by_cases c : 2 ≤ m * p.length
  · have h2 : 2 * many k m ^ (dist p).length ≤ m * p.length * many k m ^ (dist p).length := Nat.mul_le_mul_right _ c
    omega
  · have hmp : m * p.length = 1 := by
      have : 1 ≤ m * p.length := Nat.mul_pos m1 hl
      omega
    have e1 : m = 1 := Nat.eq_one_of_mul_eq_one_right hmp
    have e2 : p.length = 1 := Nat.eq_one_of_mul_eq_one_left hmp
    have hd := dist_len p
    subst e1
    have e3 : many k 1 = k := by rw [many_succ, show many k 0 = 0 from rfl, Nat.pow_one, Nat.zero_add]
    rw [e3] at h1 ⊢
    have h3 : k ^ (dist p).length ≤ k ^ 1 := Nat.pow_le_pow_right k1 (by omega)
    rw [Nat.pow_one] at h3
    omega

section
variable {P : Program} {w : World} {K : PySem.W.Frag} {mg : Str → Option Value} {base : Heap}
abbrev sBlocked : Stmt := top 27
def spBlocked (K : PySem.W.Frag) : Sp := fun vs H Q _ => ∃ (p : List Nat) (k m : Nat), vs = [.str (tx p), .int (k : Int), .int (m : Int)] ∧ p.length ≤ 40 ∧ p ≠ [] ∧ 1 ≤ k ∧ k ≤ 4 ∧ 1 ≤ m ∧ m ≤ 4 ∧ size p k m ≤ 4096 ∧
  ∀ H' l xs ws, Same H H' → H l = none → H' l = some (.lst xs) → Tw K H' xs ws → (∀ v, v ∈ ws ↔ Bl p k m v) → ws.length ≤ 2048 → Q (.ref l) H'
theorem sc_blocked : FnScope ["pattern", "letters", "longest", "choices", "some", "order", "sign", "known", "text", "texts"] ["pattern", "letters", "longest"] (defScope sBlocked) := ⟨rfl, rfl, rfl, by decide +kernel, rfl, by decide +kernel, by decide +kernel⟩
theorem ok_blocked {f : Addr} {fd : FuncData} (F : Fun K "blocked" "blocked" sBlocked f fd) (N : Nm mg) (S : At P w K mg base "short_texts" 1 ["letters", "longest"] (spShort K)) (D : At P w K mg base "distinct" 1 ["pattern"] spDistinct)
    (L : At P w K mg base "filled" 1 ["pattern", "values"] (spFilled K)) : FnOk P w K mg base CX0 2 f fd ["pattern", "letters", "longest"] (spBlocked K) := by
  refine F.ok sc_blocked (fun vs H Q E h => ?_) (fun cdv A outer s H vs Q E hr h => ?_)
  · obtain ⟨p, k, m, rfl, _⟩ := h
    rfl
  · obtain ⟨p, k, m, rfl, hp, hne, k1, k4, m1, m4, hs, q⟩ := h
    refine ⟨_, pss_cons (ps_asg (pe_tup (pa_cons (pe_lst (pa_cons (pe_tup pa_nil) pa_nil)) (pa_cons (pe_call S.ok hr (by rfl) S.m S.kp S.b .nil pass0 (pa_cons (pv 1) (pa_cons (pv 2) pa_nil))) pa_nil)))
        (pg_tup rfl (pgs_cons (pg_name (i := 3) sc_blocked.nd rfl (Or.inl rfl)) (pgs_cons (pg_name (i := 4) sc_blocked.nd rfl (Or.inr rfl)) pgs_nil))))
      (pss_cons (ps_set (i := 5) sc_blocked.nd rfl (Or.inr rfl) (pe_call D.ok hr (by rfl) D.m D.kp D.b .nil pass0 (pa_cons (pv 0) pa_nil)))
      (pss_cons (ps_for PassesOwn.never rfl (pi_str (pv 5)) (pg_name (i := 6) sc_blocked.nd rfl (Or.inl rfl))
        (pss_one (ps_setLc2 (i := 3) (own := [("known", 7), ("text", 8)]) (vs1 := [8]) (g := gName 7) (tt := tYes) (g1 := gName 8) (tt1 := tYes) (wi1 := iList K (tVar 4)) (te := tOp (rCatA K) (tVar 7) (tTup (tCons (tVar 8) tNil))) rfl sc_blocked.nd rfl rfl (sw_true rfl rfl rfl (by decide +kernel)) (pi_list (pv 3))
            (blkOk_by (N := ["pattern", "letters", "longest", "choices", "some", "order", "sign", "known", "text", "texts"]) (sc := defScope sBlocked) (by decide +kernel)) (by decide)
            (fun _ _ _ _ _ => pg_name (i := 7) sc_blocked.nd rfl (Or.inl rfl)) (fun _ _ _ _ _ => pts_nil)
            (fun _ _ _ _ _ => pi_list (pv 4)) (fun _ _ _ _ _ => pg_name (i := 8) sc_blocked.nd rfl (Or.inl rfl)) (fun _ _ _ _ _ => pts_nil)
            (fun _ _ _ _ _ => pe_op op_catA (pv 7) (pe_tup (pa_cons (pv 8) pa_nil))))))
      (pss_one (ps_ret (pe_callB (cr_sortBag rfl) (by rfl) N.sorted (by decide +kernel) (pa_cons (pe_bag (own := [("texts", 9)]) (g := gName 9) (tt := tYes) (te := tCall (spFilled K) [] E0 (tCons (tVar 0) (tCons (tDictZip K (tVar 5) (tVar 9)) tNil))) rfl sc_blocked.nd (Nat.lt_of_le_of_lt (Nat.add_le_add_left (by decide : 9 ≤ 64) _) hr.units) (pi_list (pv 3))
          (blkOk_by (N := ["pattern", "letters", "longest", "choices", "some", "order", "sign", "known", "text", "texts"]) (sc := defScope sBlocked) (by decide +kernel))
          (fun _ _ _ _ _ => pg_name (i := 9) sc_blocked.nd rfl (Or.inl rfl)) (fun _ _ _ _ _ => pts_nil)
          (fun _ _ _ _ _ => pe_call L.ok hr (by rfl) L.m L.kp L.b .nil pass0 (pa_cons (pv 0) (pa_cons (pe_dictZip rfl (by rfl) N.dict (by rfl) N.zip (pv 5) (pv 9)) pa_nil)))) pa_nil)))))), ?_⟩
    refine ⟨Nat.zero_le _, fun t0 ht0 => ⟨by show 1 ≤ sizeLine; decide, fun e0 he0 => ⟨_, rfl, _, rfl, k, m, rfl, k4, m4, fun H1 l xs s1 hl h1 tx1 => ⟨by show 2 ≤ sizeLine; decide, fun t1 ht1 => ?_⟩⟩⟩⟩
    have s0 : Same H (upd (upd H t0 (.tup [])) e0 (.lst [.ref t0])) := (same_upd ht0).trans (same_upd he0)
    have s2 : Same H (upd H1 t1 (.tup [.ref e0, .ref l])) := s0.trans (s1.trans (same_upd ht1))
    have he2 : (upd H1 t1 (.tup [.ref e0, .ref l])) e0 = some (.lst [.ref t0]) := (same_upd ht1) _ _ (s1 _ _ upd_same)
    have ht2 : (upd H1 t1 (.tup [.ref e0, .ref l])) t0 = some (.tup []) := (same_upd ht1) _ _ (s1 _ _ ((same_upd he0) _ _ upd_same))
    have hl2 : (upd H1 t1 (.tup [.ref e0, .ref l])) l = some (.lst xs) := (same_upd ht1) _ _ h1
    have tx2 : Tw K (upd H1 t1 (.tup [.ref e0, .ref l])) xs (sh k m) := tx1.same (same_upd ht1)
    have ht3 : (upd H1 t1 (.tup [.ref e0, .ref l])) t1 = some (.tup [.ref e0, .ref l]) := upd_same
    generalize upd H1 t1 (.tup [.ref e0, .ref l]) = H2 at s2 he2 ht2 hl2 tx2 ht3 ⊢
    refine ⟨t1, _, rfl, SqT.of ht3, rfl, _, _, rfl, _, _, rfl, rfl, ?_⟩
    refine ⟨_, rfl, p, rfl, by omega, fun H3 s3 => ⟨_, rfl, _, rfl, ?_⟩⟩
    refine for_it walk_str (fun i σ H' => ∃ e ys v, σ = [some (.str (tx p)), some (.int (k : Int)), some (.int (m : Int)), some (.ref e), some (.ref l), some (.str (tx (dist p))), v, none, none, none] ∧ Same H H' ∧ H' l = some (.lst xs) ∧ Tw K H' xs (sh k m) ∧
        H' e = some (.lst ys) ∧ Tc K H' ys (chs (sh k m) i)) ⟨e0, _, none, rfl, s2.trans s3, s3 _ _ hl2, tx2.same s3, s3 _ _ he2, Tc.one (SqT.of (s3 _ _ ht2)) .nil⟩ (fun _ _ _ _ _ => trivial) ?_ ?_
    · rintro i x σ H4 H5 hi ⟨e, ys, v, rfl, s4, hl4, tx4, he4, tc4⟩ ⟨rfl, ch, hch, rfl⟩
      rw [tx_size] at hi
      refine ⟨_, rfl, e, rfl, ⟨_, SqL.of he4⟩, fun D1 hD => ?_⟩
      have hfew := chs_few k1 k4 m1 hne hs (Nat.le_of_lt hi)
      have hm3 := many_340 k4 m4
      refine out_it walk_list (fun j Hc => ∃ zs, Same H5 Hc ∧ Hc D1 = some (.lst zs) ∧ Tc K Hc zs (((chs (sh k m) i).take j).flatMap fun c => (sh k m).map fun u => c ++ [u])) ⟨[], same_upd hD, upd_same, .nil⟩ (fun j Hc hj ⟨zs, sc, _⟩ => sc.seq (SqL.of he4)) ?_ ?_
      · rintro j x H6 H7 hj ⟨zs, s6, h6, t6⟩ ⟨rfl, hx⟩
        obtain ⟨t, us, c, rfl, hc, hT, hU⟩ := tc4.get hx
        refine ⟨rfl, _, rfl, l, rfl, ⟨_, SqL.of (s6 _ _ hl4)⟩, ?_⟩
        refine in_it walk_list (fun a Hc => ∃ zs, Same H5 Hc ∧ Hc D1 = some (.lst zs) ∧ Tc K Hc zs ((((chs (sh k m) i).take j).flatMap fun c => (sh k m).map fun u => c ++ [u]) ++ ((sh k m).take a).map fun u => c ++ [u])) ⟨zs, s6, h6, by simpa using t6⟩
          (fun a Hc _ ⟨zs, sc, _⟩ => SqL.of (sc _ _ hl4)) ?_ ?_
        · rintro a x H8 H9 ha ⟨vs, s8, h8, t8⟩ ⟨rfl, hxa⟩
          have tx9 := tx4.same s8
          obtain ⟨tu, u, rfl, hu, hTu⟩ := tx9.get hxa
          have hlt : vs.length < sizeLine := by
            rw [t8.len, List.length_append, app_len, List.length_map, List.length_take, List.length_take, sizeLine_eq]
            have h1 : min j (chs (sh k m) i).length * (sh k m).length ≤ 2048 * 340 := Nat.mul_le_mul (by omega) hm3
            have h2 : min a (sh k m).length ≤ 340 := by
              unfold many at hm3
              omega
            omega
          refine ⟨rfl, _, rfl, _, rfl, by show 1 ≤ sizeLine; decide, fun p1 hp1 => ?_⟩
          have s9 : Same H9 (upd H9 p1 (.tup [.ref tu])) := same_upd hp1
          have hTc : SqT K H9 t us := sameT s8 hT
          have hUc : Tw K H9 us c := hU.same s8
          have ofl : Tw K H9 [.ref tu] [u] := Tw.one hTu
          have tk : ((sh k m).take (a + 1)).map (fun u => c ++ [u]) = ((sh k m).take a).map (fun u => c ++ [u]) ++ [c ++ [u]] := by
            rw [List.take_add_one, hu, List.map_append]
            rfl
          have fin : ∀ {Hz : Hp} {b : Addr} {bs : List V}, Same H9 Hz → SqT K Hz b bs → Tw K Hz bs (c ++ [u]) → ∃ acc, Hz D1 = some (.lst acc) ∧ acc.length < sizeLine ∧ ∃ zs, Same H5 (upd Hz D1 (.lst (acc ++ [.ref b]))) ∧ (upd Hz D1 (.lst (acc ++ [.ref b]))) D1 = some (.lst zs) ∧
              Tc K (upd Hz D1 (.lst (acc ++ [.ref b]))) zs ((((chs (sh k m) i).take j).flatMap fun c => (sh k m).map fun u => c ++ [u]) ++ ((sh k m).take (a + 1)).map fun u => c ++ [u]) := fun {Hz b bs} sz hb hbs => by
            refine ⟨vs, sz _ _ h8, hlt, vs ++ [.ref b], same_put (s8.trans sz) hD, upd_same, ?_⟩
            rw [tk, ← List.append_assoc]
            exact ((t8.same sz).upd (sz _ _ h8)).app (Tc.one (tupU hb (sz _ _ h8)) (hbs.upd (sz _ _ h8)))
          refine ⟨t, p1, us, _, rfl, rfl, sameT s9 hTc, SqT.of upd_same, ?_, fun z => ?_, fun _ z => absurd z (by simp), fun _ _ p2 hp2 => ?_⟩
          · have hc1 := (mem_chs.mp (at_mem hc)).1
            rw [hU.len, hc1, sizeLine_eq]
            show i + 1 ≤ _
            have := dist_len p
            omega
          · subst z
            have hc0 : c = [] := List.eq_nil_of_length_eq_zero hU.len.symm
            subst hc0
            exact fin s9 (SqT.of upd_same) (ofl.same s9)
          · exact fin (s9.trans (same_upd hp2)) (SqT.of upd_same) ((hUc.app ofl).same (s9.trans (same_upd hp2)))
        · rintro H8 ⟨vs, s8, h8, t8⟩
          rw [tx4.len, List.take_length, ← flat_take _ hc] at t8
          exact ⟨vs, s8, h8, t8⟩
      · rintro H6 ⟨zs, s6, h6, t6⟩
        rw [tc4.len, List.take_length] at t6
        exact ⟨D1, zs, _, rfl, s4.trans s6, s6 _ _ hl4, tx4.same s6, h6, t6⟩
    · rintro σ H4 ⟨e, ys, v, rfl, s4, hl4, tx4, he4, tc4⟩
      rw [tx_size] at tc4
      refine ⟨_, rfl, e, rfl, ⟨_, SqL.of he4⟩, fun D1 hD => ?_⟩
      have hfew := chs_few k1 k4 m1 hne hs (Nat.le_refl _)
      have hD0 : H D1 = none := s4.free hD
      refine bag_list (fun i Hc => ∃ L : List (Addr × List Int), Same H4 Hc ∧ Hc D1 = some (BagO w D1 L) ∧ L.length ≤ i ∧ (∀ r ∈ L, Hc r.1 = some (.tup (r.2.map V.int)) ∧ ∃ c ∈ chs (sh k m) (dist p).length, r.2 = inz (word p c)) ∧
          ∀ (j : Nat) (c : List (List Nat)), j < i → (chs (sh k m) (dist p).length)[j]? = some c → ∃ r ∈ L, r.2 = inz (word p c))
        ⟨[], same_upd hD, upd_same, Nat.le_refl _, fun _ h => (by cases h), fun _ _ h => absurd h (Nat.not_lt_zero _)⟩ (fun j Hc hj ⟨_, sc, _⟩ => sc.seq (SqL.of he4)) ?_ ?_
      · rintro i x H5 hx ⟨L0, s5, hL, hlen, hrow, hcov⟩
        obtain ⟨t, us, c, rfl, hc, hT, hU⟩ := tc4.get hx
        have hlt := at_lt hc
        obtain ⟨hc1, hc2⟩ := mem_chs.mp (at_mem hc)
        have hlu : us.length = (dist p).length := hU.len.trans hc1
        refine ⟨rfl, _, rfl, _, rfl, _, rfl, tx (dist p), t, us, rfl, rfl, sameT s5 hT, by rw [tx_size, hlu], fun d hd => ?_⟩
        have s6 : Same H5 (upd H5 d (.dK (mergeK [] (signPairs (tx (dist p)) us)))) := same_upd hd
        refine ⟨p, d, _, fun x => c.getD (ix (dist p) x) [], rfl, upd_same, hp, fun x hx => ?_, fun H7 T s7 hT0 hT7 => ?_⟩
        · have hxd := mem_dist.mpr hx
          have hix := ix_lt hxd
          obtain ⟨v, hv⟩ := at_some (l := us) (i := ix (dist p) x) (by rw [hlu]; exact hix)
          obtain ⟨tv, u, rfl, hu, hTu⟩ := hU.get hv
          have eg : c.getD (ix (dist p) x) [] = u := getD_at hu
          have hgood := mem_sh.mp (hc2 u (at_mem hu))
          refine ⟨?_, tv, pairs_val hlu.symm (dist_nodup p) (ix_at hxd) hv, ?_⟩
          · show (c.getD (ix (dist p) x) []).length ≤ 100
            rw [eg]
            have := hgood.2.1
            omega
          · show SqT K _ tv (nv (c.getD (ix (dist p) x) []))
            rw [eg]
            exact sameT s6 (sameT s5 hTu)
        · have hw7 : H7 T = some (.tup ((inz (word p c)).map V.int)) := by
            rw [inz_nv]
            exact hT7
          have sH7 : Same H5 H7 := s6.trans s7
          have hD7 := sH7 _ _ hL
          have row7 : ∀ r ∈ L0, H7 r.1 = some (.tup (r.2.map V.int)) := fun r hr => sH7 _ _ (hrow r hr).1
          refine ⟨T, inz (word p c), L0, rfl, SqT.of hw7, hD7, fun r hr => SqT.of (row7 r hr), by omega, fun L' hL' => ?_⟩
          have neD : ∀ {t : Addr} {zs : List V}, H7 t = some (.tup zs) → t ≠ D1 := fun {t zs} e z => by
            rw [z, hD7] at e
            cases e
          have keep : ∀ {t : Addr} {zs : List V}, H7 t = some (.tup zs) → (upd H7 D1 (BagO w D1 L')) t = some (.tup zs) := fun {t zs} e => by
            rw [upd_ne (neD e)]
            exact e
          refine ⟨L', same_put (s5.trans sH7) hD, upd_same, ?_, fun r hr => ?_, fun j c' hj hc' => ?_⟩
          · rcases hL' with ⟨e, _⟩ | pm
            · rw [e]
              omega
            · rw [pm.length_eq, List.length_cons]
              omega
          · have hm : r = (T, inz (word p c)) ∨ r ∈ L0 := by
              rcases hL' with ⟨e, _⟩ | pm
              · exact .inr (e ▸ hr)
              · exact List.mem_cons.mp (pm.mem_iff.mp hr)
            rcases hm with rfl | hm
            · exact ⟨keep hw7, c, at_mem hc, rfl⟩
            · exact ⟨keep (row7 r hm), (hrow r hm).2⟩
          · have up : ∀ r ∈ L0, r ∈ L' := fun r hr => by
              rcases hL' with ⟨e, _⟩ | pm
              · exact e ▸ hr
              · exact pm.mem_iff.mpr (List.mem_cons_of_mem _ hr)
            by_cases cj : j < i
            · obtain ⟨r, hr, er⟩ := hcov j c' cj hc'
              exact ⟨r, up r hr, er⟩
            · have ej : j = i := by omega
              subst ej
              have ec : c' = c := Option.some.inj (hc'.symm.trans hc)
              subst ec
              rcases hL' with ⟨e, r, hr, er⟩ | pm
              · exact ⟨r, e ▸ hr, er⟩
              · exact ⟨(T, inz (word p c')), pm.mem_iff.mpr List.mem_cons_self, rfl⟩
      · rintro H5 ⟨L0, s5, hL, hlen, hrow, hcov⟩
        rw [tc4.len] at hlen hcov
        have hne0 : ∀ r ∈ L0, r.2 ≠ [] := fun r hr z => by
          obtain ⟨_, c, hc, e⟩ := hrow r hr
          have e2 : word p c = [] := by
            rw [e] at z
            exact List.map_eq_nil_iff.mp z
          exact Bl.ne_nil hne (word_bl.mp ⟨c, hc, e2.symm⟩)
        refine ⟨D1, L0, rfl, hL, fun r hr => ⟨SqT.of (hrow r hr).1, hne0 r hr⟩, fun zs p2 pm hp2 => ?_⟩
        have s6 : Same H5 (upd H5 p2 (.lst zs)) := same_upd hp2
        have good : ∀ y ∈ zs, ∃ t u, y = .ref t ∧ (upd H5 p2 (.lst zs)) t = some (.tup (nv u)) ∧ Bl p k m u := fun y hy => by
          obtain ⟨r, hr, rfl⟩ := List.mem_map.mp (pm.mem_iff.mp hy)
          obtain ⟨h1, c, hc, e⟩ := hrow r hr
          refine ⟨r.1, word p c, rfl, s6 _ _ ?_, word_bl.mp ⟨c, hc, rfl⟩⟩
          rw [h1, e, inz_nv]
        obtain ⟨ws, tws, hr1, hr2⟩ := tw_of (K := K) good
        refine q _ p2 zs ws (s4.trans (s5.trans s6)) ((s4.trans s5).free hp2) upd_same tws (fun v => ⟨hr1 v, fun hv => ?_⟩) ?_
        · obtain ⟨c, hc, rfl⟩ := word_bl.mpr hv
          obtain ⟨j, hj⟩ := mem_at hc
          obtain ⟨r, hr, er⟩ := hcov j c (at_lt hj) hj
          refine hr2 r.1 _ (pm.mem_iff.mpr (List.mem_map.mpr ⟨r, hr, rfl⟩)) (s6 _ _ ?_)
          rw [(hrow r hr).1, er, inz_nv]
        · rw [← tws.len, pm.length_eq, List.length_map]
          omega
end
end K61

/-! Recognizer.put. -/
namespace K61
open PySem PySem.Spec PyProof.Rows L2

abbrev sRec : Stmt := top 28
abbrev sInit : Stmt := inClass sRec 0
abbrev sPut : Stmt := inClass sRec 1
abbrev sConnect : Stmt := inClass sRec 2
abbrev sSteps : Stmt := inClass sRec 3
abbrev sReach : Stmt := inClass sRec 5

/-- the fields of a recognizer -/
structure Fl (fs : List (Str × V)) (k : Nat) (lc ls lf lm : Addr) : Prop where
  letters : fs.lookup ("letters" : Str) = some (.int (k : Int))
  children : fs.lookup ("children" : Str) = some (.ref lc)
  stops : fs.lookup ("stops" : Str) = some (.ref ls)
  fallback : fs.lookup ("fallback" : Str) = some (.ref lf)
  moves : fs.lookup ("moves" : Str) = some (.ref lm)
  put : fs.lookup ("put" : Str) = none
  connect : fs.lookup ("connect" : Str) = none
  steps : fs.lookup ("steps" : Str) = none
  reachable : fs.lookup ("reachable" : Str) = none
  few : fs.length ≤ 20
theorem Fl.remove {fs : List (Str × V)} {k : Nat} {lc ls lf lm : Addr} (F : Fl fs k lc ls lf lm) (h : fs.length ≤ 10) (l : Addr) : Fl (putF "moves" (.ref l) fs) k lc ls lf l where
  letters := by rw [lookup_putF, if_neg (by decide +kernel)]; exact F.letters
  children := by rw [lookup_putF, if_neg (by decide +kernel)]; exact F.children
  stops := by rw [lookup_putF, if_neg (by decide +kernel)]; exact F.stops
  fallback := by rw [lookup_putF, if_neg (by decide +kernel)]; exact F.fallback
  moves := by rw [lookup_putF, if_pos rfl]
  put := by rw [lookup_putF, if_neg (by decide +kernel)]; exact F.put
  connect := by rw [lookup_putF, if_neg (by decide +kernel)]; exact F.connect
  steps := by rw [lookup_putF, if_neg (by decide +kernel)]; exact F.steps
  reachable := by rw [lookup_putF, if_neg (by decide +kernel)]; exact F.reachable
  few := by
    have := length_putF "moves" (.ref l) fs
    omega
/-- what the class gives -/
structure RT (K : PySem.W.Frag) (mg : Str → Option Value) (C : Addr) : Prop where
  cl : Cls K C
  nL : NoAttr K C "letters"
  nC : NoAttr K C "children"
  nS : NoAttr K C "stops"
  nF : NoAttr K C "fallback"
  nM : NoAttr K C "moves"
  mg : mg "Recognizer" = some (.ref C)

/-- the children of s in its dict -/
def Kid (ws : List (List Nat)) (s : Nat) (kvs : List (Key × V)) : Prop :=
  ∀ a : Nat, (∀ t : Nat, Ch ws s a t → valV kvs (.inl (a : Int)) = some (.int (t : Int))) ∧ ((∀ t, ¬ Ch ws s a t) → valV kvs (.inl (a : Int)) = none)
theorem Kid.cases {ws : List (List Nat)} {s : Nat} {kvs : List (Key × V)} (h : Kid ws s kvs) (a : Nat) : (∃ t : Nat, Ch ws s a t ∧ valV kvs (.inl (a : Int)) = some (.int (t : Int))) ∨ ((∀ t, ¬ Ch ws s a t) ∧ valV kvs (.inl (a : Int)) = none) := by
  by_cases c : ∃ t, Ch ws s a t
  · obtain ⟨t, ht⟩ := c
    exact .inl ⟨t, ht, (h a).1 t ht⟩
  · exact .inr ⟨fun t ht => c ⟨t, ht⟩, (h a).2 fun t ht => c ⟨t, ht⟩⟩

/-- a recognizer that is being filled: behind H0 -/
structure Put (C : Addr) (H0 H : Hp) (p dx lc ls lf lm : Addr) (fs : List (Str × V)) (k : Nat) (cs : List Addr) (st : List Bool) (ws : List (List Nat)) (D : List Nat → Prop) : Prop where
  same : Same H0 H
  p0 : H0 p = none
  c0 : H0 lc = none
  s0 : H0 ls = none
  f0 : H0 lf = none
  m0 : H0 lm = none
  n0 : ∀ c ∈ cs, H0 c = none
  cs_ : lc ≠ ls
  cf : lc ≠ lf
  cm : lc ≠ lm
  sf : ls ≠ lf
  sm : ls ≠ lm
  fm : lf ≠ lm
  fl : Fl fs k lc ls lf lm
  hp : H p = some (.ins C dx fs)
  hc : H lc = some (.lst (cs.map V.ref))
  hs : H ls = some (.lst (st.map V.bl))
  hf : H lf = some (.lst (nv (List.replicate ws.length 0)))
  hm : H lm = some (.lst [])
  cnd : cs.Nodup
  cl : cs.length = ws.length
  sl : st.length = ws.length
  dic : ∀ (s : Nat) (c : Addr), cs[s]? = some c → ∃ kvs, H c = some (.dK kvs) ∧ kvs.length ≤ ws.length ∧ Kid ws s kvs
  tri : Tri k ws
  acc : ∀ (s : Nat) (u : List Nat), ws[s]? = some u → (stop st s = true ↔ D u)
  sub : ∀ u, D u → u ∈ ws

section
variable {C : Addr} {H0 H : Hp} {p dx lc ls lf lm : Addr} {fs : List (Str × V)} {k : Nat} {cs : List Addr} {st : List Bool} {ws : List (List Nat)} {D : List Nat → Prop}
theorem put_len (kvs : List (Key × V)) (x : Key) (v : V) : (putK kvs x v).length ≤ kvs.length + 1 := length_putK kvs x v
/-- one state more -/
theorem Put.grow (P : Put C H0 H p dx lc ls lf lm fs k cs st ws D) {s a : Nat} {u : List Nat} {c d : Addr} {kvs : List (Key × V)} (hs : ws[s]? = some u) (ha : a < k) (hn : ∀ t, ¬ Ch ws s a t) (hcs : cs[s]? = some c) (hk : H c = some (.dK kvs)) (hkl : kvs.length ≤ ws.length) (kid : Kid ws s kvs)
    (hd : (upd H c (.dK (putK kvs (.inl (a : Int)) (.int (ws.length : Int))))) d = none) :
    Put C H0 (upd (upd (upd (upd (upd H c (.dK (putK kvs (.inl (a : Int)) (.int (ws.length : Int))))) d (.dK [])) lc (.lst (cs.map V.ref ++ [.ref d]))) ls (.lst (st.map V.bl ++ [.bl false]))) lf (.lst (nv (List.replicate ws.length 0) ++ [.int 0])))
      p dx lc ls lf lm fs k (cs ++ [d]) (st ++ [false]) (ws ++ [u ++ [a]]) D := by
  have n1 : p ≠ c := ne_of P.hp hk (by intro z; cases z)
  have n2 : lc ≠ c := ne_of P.hc hk (by intro z; cases z)
  have n3 : ls ≠ c := ne_of P.hs hk (by intro z; cases z)
  have n4 : lf ≠ c := ne_of P.hf hk (by intro z; cases z)
  have n5 : lm ≠ c := ne_of P.hm hk (by intro z; cases z)
  have m1 : p ≠ lc := ne_of P.hp P.hc (by intro z; cases z)
  have m2 : p ≠ ls := ne_of P.hp P.hs (by intro z; cases z)
  have m3 : p ≠ lf := ne_of P.hp P.hf (by intro z; cases z)
  have dc : d ≠ c := fun z => by rw [z, upd_same] at hd; cases hd
  have hd0 : H d = none := by rw [upd_ne dc] at hd; exact hd
  have d1 : p ≠ d := ne_of_none P.hp hd0
  have d2 : lc ≠ d := ne_of_none P.hc hd0
  have d3 : ls ≠ d := ne_of_none P.hs hd0
  have d4 : lf ≠ d := ne_of_none P.hf hd0
  have d5 : lm ≠ d := ne_of_none P.hm hd0
  have c0 : H0 c = none := P.n0 c (at_mem hcs)
  have d0 : H0 d = none := P.same.free hd0
  have other : ∀ b, b ≠ c → b ≠ d → b ≠ lc → b ≠ ls → b ≠ lf → (upd (upd (upd (upd (upd H c (.dK (putK kvs (.inl (a : Int)) (.int (ws.length : Int))))) d (.dK [])) lc (.lst (cs.map V.ref ++ [.ref d]))) ls (.lst (st.map V.bl ++ [.bl false]))) lf (.lst (nv (List.replicate ws.length 0) ++ [.int 0]))) b = H b :=
    fun b h1 h2 h3 h4 h5 => by rw [upd_ne h5, upd_ne h4, upd_ne h3, upd_ne h2, upd_ne h1]
  have atc : (upd (upd (upd (upd (upd H c (.dK (putK kvs (.inl (a : Int)) (.int (ws.length : Int))))) d (.dK [])) lc (.lst (cs.map V.ref ++ [.ref d]))) ls (.lst (st.map V.bl ++ [.bl false]))) lf (.lst (nv (List.replicate ws.length 0) ++ [.int 0]))) c = some (.dK (putK kvs (.inl (a : Int)) (.int (ws.length : Int)))) := by
    rw [upd_ne n4.symm, upd_ne n3.symm, upd_ne n2.symm, upd_ne dc.symm, upd_same]
  have atd : (upd (upd (upd (upd (upd H c (.dK (putK kvs (.inl (a : Int)) (.int (ws.length : Int))))) d (.dK [])) lc (.lst (cs.map V.ref ++ [.ref d]))) ls (.lst (st.map V.bl ++ [.bl false]))) lf (.lst (nv (List.replicate ws.length 0) ++ [.int 0]))) d = some (.dK []) := by
    rw [upd_ne d4.symm, upd_ne d3.symm, upd_ne d2.symm, upd_same]
  have T := P.tri.more hs ha hn
  have more := fun (t b c : Nat) => Ch.more P.tri hs hn (t := t) (b := b) (c := c)
  have len1 : (ws ++ [u ++ [a]]).length = ws.length + 1 := by rw [List.length_append]; rfl
  exact {
    same := same_put (same_put (same_put (same_put (same_put P.same c0) d0) P.c0) P.s0) P.f0
    p0 := P.p0
    c0 := P.c0
    s0 := P.s0
    f0 := P.f0
    m0 := P.m0
    n0 := fun b hb => by
      rcases List.mem_append.mp hb with z | z
      · exact P.n0 b z
      · rw [List.mem_singleton.mp z]
        exact d0
    cs_ := P.cs_
    cf := P.cf
    cm := P.cm
    sf := P.sf
    sm := P.sm
    fm := P.fm
    fl := P.fl
    hp := by rw [other p n1 d1 m1 m2 m3]; exact P.hp
    hc := by
      rw [upd_ne P.cf, upd_ne P.cs_, upd_same, List.map_append]
      rfl
    hs := by
      rw [upd_ne P.sf, upd_same, List.map_append]
      rfl
    hf := by
      rw [upd_same, len1, List.replicate_succ', nv_app]
      rfl
    hm := by rw [other lm n5 d5 P.cm.symm P.sm.symm P.fm.symm]; exact P.hm
    cnd := by
      refine List.nodup_append.mpr ⟨P.cnd, by simp, fun x hx y hy z => ?_⟩
      rw [List.mem_singleton.mp hy] at z
      subst z
      obtain ⟨i, hi⟩ := mem_at hx
      obtain ⟨kv, hkv, _⟩ := P.dic i x hi
      rw [hd0] at hkv
      cases hkv
    cl := by rw [List.length_append, len1, P.cl]; rfl
    sl := by rw [List.length_append, len1, P.sl]; rfl
    dic := fun t b hb => by
      rcases at_snoc.mp hb with z | ⟨z1, z2⟩
      · by_cases e : t = s
        · subst e
          have eb : b = c := Option.some.inj (z.symm.trans hcs)
          subst eb
          refine ⟨_, atc, by rw [len1]; have := put_len kvs (.inl (a : Int)) (.int (ws.length : Int)); omega, fun x => ⟨fun y hy => ?_, fun hy => ?_⟩⟩
          · rw [valV_put]
            rcases (more t x y).mp hy with h | ⟨_, h1, h2⟩
            · have : ¬ ((.inl (x : Int) : Key) = .inl (a : Int)) := fun q => by
                have q' : (x : Int) = a := Sum.inl.inj q
                have q2 : x = a := by omega
                rw [q2] at h
                exact hn y h
              rw [if_neg this]
              exact (kid x).1 y h
            · rw [h1, h2, if_pos rfl]
          · have hxa : x ≠ a := fun q => hy ws.length ((more t x ws.length).mpr (.inr ⟨rfl, q, rfl⟩))
            rw [valV_put, if_neg (fun q => hxa (by have q' : (x : Int) = a := Sum.inl.inj q; omega))]
            exact (kid x).2 fun y h => hy y ((more t x y).mpr (.inl h))
        · obtain ⟨kv, h1, h2, h3⟩ := P.dic t b z
          have bc : b ≠ c := fun q => e (nd_at P.cnd (q ▸ z) hcs)
          have b1 : b ≠ lc := ne_of h1 P.hc (by intro z; cases z)
          have b2 : b ≠ ls := ne_of h1 P.hs (by intro z; cases z)
          have b3 : b ≠ lf := ne_of h1 P.hf (by intro z; cases z)
          have bd : b ≠ d := ne_of_none h1 hd0
          refine ⟨kv, by rw [other b bc bd b1 b2 b3]; exact h1, by rw [len1]; omega, fun x => ⟨fun y hy => ?_, fun hy => ?_⟩⟩
          · rcases (more t x y).mp hy with h | ⟨h, _⟩
            · exact (h3 x).1 y h
            · exact absurd h e
          · exact (h3 x).2 fun y h => hy y ((more t x y).mpr (.inl h))
      · subst z2
        refine ⟨[], atd, Nat.zero_le _, fun x => ⟨fun y hy => ?_, fun _ => rfl⟩⟩
        rw [P.cl] at z1
        rcases (more t x y).mp hy with h | ⟨h, _⟩
        · exact absurd h.lt.1 (by omega)
        · exact absurd (at_lt hs) (by omega)
    tri := T
    acc := fun t v hv => by
      rcases at_snoc.mp hv with z | ⟨z1, z2⟩
      · have hlt : t < st.length := by rw [P.sl]; exact at_lt z
        have e : stop (st ++ [false]) t = stop st t := by
          unfold stop
          rw [List.getD_eq_getElem?_getD, List.getD_eq_getElem?_getD, List.getElem?_append_left hlt]
        rw [e]
        exact P.acc t v z
      · subst z2
        have e : stop (st ++ [false]) t = false := by
          unfold stop
          rw [List.getD_eq_getElem?_getD, z1, ← P.sl, List.getElem?_append_right (Nat.le_refl _), Nat.sub_self]
          rfl
        rw [e]
        constructor
        · intro z
          cases z
        · intro z
          exact absurd ⟨u, hs, mem_at (P.sub _ z) |>.choose_spec⟩ (hn _)
    sub := fun v hv => List.mem_append_left _ (P.sub v hv) }
/-- a word is marked -/
theorem Put.mark (P : Put C H0 H p dx lc ls lf lm fs k cs st ws D) {s : Nat} {u : List Nat} (hs : ws[s]? = some u) :
    Put C H0 (upd H ls (.lst ((st.map V.bl).set s (.bl true)))) p dx lc ls lf lm fs k cs (st.set s true) ws (fun v => v = u ∨ D v) := by
  have m2 : p ≠ ls := ne_of P.hp P.hs (by intro z; cases z)
  have hlt : s < st.length := by rw [P.sl]; exact at_lt hs
  exact {
    same := same_put P.same P.s0
    p0 := P.p0
    c0 := P.c0
    s0 := P.s0
    f0 := P.f0
    m0 := P.m0
    n0 := P.n0
    cs_ := P.cs_
    cf := P.cf
    cm := P.cm
    sf := P.sf
    sm := P.sm
    fm := P.fm
    fl := P.fl
    hp := by rw [upd_ne m2]; exact P.hp
    hc := by rw [upd_ne P.cs_]; exact P.hc
    hs := by
      rw [upd_same, List.map_set]
    hf := by rw [upd_ne P.sf.symm]; exact P.hf
    hm := by rw [upd_ne P.sm.symm]; exact P.hm
    cnd := P.cnd
    cl := P.cl
    sl := by rw [List.length_set]; exact P.sl
    dic := fun t b hb => by
      obtain ⟨kv, h1, h2, h3⟩ := P.dic t b hb
      exact ⟨kv, by rw [upd_ne (ne_of h1 P.hs (by intro z; cases z))]; exact h1, h2, h3⟩
    tri := P.tri
    acc := fun t v hv => by
      have e : stop (st.set s true) t = if t = s then true else stop st t := getD_set st s t true false hlt
      rw [e]
      by_cases c : t = s
      · subst c
        have : v = u := Option.some.inj (hv.symm.trans hs)
        rw [if_pos rfl]
        exact ⟨fun _ => .inl this, fun _ => rfl⟩
      · rw [if_neg c, P.acc t v hv]
        constructor
        · exact .inr
        · rintro (z | z)
          · subst z
            exact absurd (nd_at P.tri.nd hv hs) c
          · exact z
    sub := fun v hv => by
      rcases hv with z | z
      · rw [z]
        exact at_mem hs
      · exact P.sub v z }
end
end K61

/-! Recognizer.put, the walk. -/
namespace K61
open PySem PySem.Spec PyProof.Rows L2
section
variable {P : Program} {w : World} {K : PySem.W.Frag} {mg : Str → Option Value} {base : Heap}
def spPut (K : PySem.W.Frag) (C : Addr) : Sp := fun vs H Q _ => ∃ (H0 : Hp) (p t dx lc ls lf lm : Addr) (fs : List (Str × V)) (k : Nat) (cs : List Addr) (st : List Bool) (ws : List (List Nat)) (D : List Nat → Prop) (u : List Nat), vs = [.ref p, .ref t] ∧
  Put C H0 H p dx lc ls lf lm fs k cs st ws D ∧ SqT K H0 t (nv u) ∧ Over k u ∧ ws.length + u.length ≤ 100000 ∧
  ∀ (H' : Hp) (cs' : List Addr) (st' : List Bool) (ws' : List (List Nat)), Put C H0 H' p dx lc ls lf lm fs k cs' st' ws' (fun v => v = u ∨ D v) → ws'.length ≤ ws.length + u.length → Q .non H'
theorem sc_put : FnScope ["self", "text", "state", "letter"] ["self", "text"] (defScope sPut) := ⟨rfl, rfl, rfl, by decide +kernel, rfl, by decide +kernel, by decide +kernel⟩
theorem ix_nat {n j : Nat} (hj : j < n) : ixN n (j : Int) = some j := by
  unfold ixN
  rw [if_pos (by omega), if_pos (by omega)]
  rfl
theorem len_lt {n : Nat} (h : n ≤ 100000) : n < sizeLine := by
  rw [sizeLine_eq]
  omega
theorem ok_put {f C : Addr} {fd : FuncData} (F : Fun K "put" "Recognizer.put" sPut f fd) (N : Nm mg) (T : RT K mg C) : FnOk P w K mg base CX0 1 f fd ["self", "text"] (spPut K C) := by
  refine F.ok sc_put (fun vs H Q E h => ?_) (fun cdv A outer s H vs Q E hr h => ?_)
  · obtain ⟨H0, p, t, _, _, _, _, _, _, _, _, _, _, _, _, rfl, _⟩ := h
    rfl
  · obtain ⟨H0, p, t, dx, lc, ls, lf, lm, fs, k, cs, st, ws, D, u, rfl, PT, hT, hov, hlen, q⟩ := h
    have hu := hu_of hr
    refine ⟨_, pss_cons (ps_set (i := 2) sc_put.nd rfl (Or.inl rfl) pe_int) (pss_cons (ps_for PassesOwn.never rfl (pi_tup (pv 1)) (pg_name (i := 3) sc_put.nd rfl (Or.inl rfl))
        (pss_cons (ps_if (pt_cmp (pc_dnotin hu (pv 3) (pe_ix ix_list (pe_fld (pv 0) rfl) (pv 2) (fun _ _ => rfl))))
            (pss_cons (ps_dput hu (pe_ix ix_list (pe_fld (pv 0) rfl) (pv 2) (fun _ _ => rfl)) (pv 3) (pe_callB call_len_seq (by rfl) N.len PySem.boot_len (pa_cons (pe_fld (pv 0) rfl) pa_nil)) rfl)
            (pss_cons (ps_expr (pe_bm PySem.F.plainAttrs_list PySem.F.slot_list_append PySem.F.type_list_append mt_append (pe_fld (pv 0) rfl) (pa_cons pe_dnewK pa_nil)))
            (pss_cons (ps_expr (pe_bm PySem.F.plainAttrs_list PySem.F.slot_list_append PySem.F.type_list_append mt_append (pe_fld (pv 0) rfl) (pa_cons pe_bl pa_nil)))
            (pss_one (ps_expr (pe_bm PySem.F.plainAttrs_list PySem.F.slot_list_append PySem.F.type_list_append mt_append (pe_fld (pv 0) rfl) (pa_cons pe_int pa_nil)))))))
            pss_nil)
          (pss_one (ps_set (i := 2) sc_put.nd rfl (Or.inl rfl) (pe_dget hu (pe_ix ix_list (pe_fld (pv 0) rfl) (pv 2) (fun _ _ => rfl)) (pv 3) (fun _ _ => rfl))))))
      (pss_one (ps_asg pe_bl (pg_sub (pe_fld (pv 0) rfl) (pv 2) set_list)))), ?_⟩
    refine ⟨_, rfl, t, rfl, ⟨_, sameT PT.same hT⟩, ?_⟩
    refine for_tup (K := K) (a := t) (xs := nv u) (fun i σ H' => ∃ (sn : Nat) (v : Option V) (cs' : List Addr) (st' : List Bool) (ws' : List (List Nat)), σ = [some (.ref p), some (.ref t), some (.int (sn : Int)), v] ∧ Put C H0 H' p dx lc ls lf lm fs k cs' st' ws' D ∧
        ws'[sn]? = some (u.take i) ∧ ws'.length ≤ ws.length + i) ⟨0, none, cs, st, ws, rfl, PT, PT.tri.root, Nat.le_refl _⟩ (fun i σ H' _ ⟨_, _, _, _, _, _, R, _⟩ => sameT R.same hT) ?_ ?_
    · rintro i x σ H1 hx ⟨sn, v, cs1, st1, ws1, rfl, R, hsn, hl⟩
      obtain ⟨a, hua, rfl⟩ := nv_get hx
      have hiu := at_lt hua
      have hak : a < k := hov a (at_mem hua)
      have tk : u.take (i + 1) = u.take i ++ [a] := by
        rw [List.take_add_one, hua]
        rfl
      obtain ⟨c, hc⟩ := at_some (l := cs1) (i := sn) (by rw [R.cl]; exact at_lt hsn)
      obtain ⟨kvs, hk, hkl, kid⟩ := R.dic sn c hc
      have hcat : atI (cs1.map V.ref) (sn : Int) = some (.ref c) := atI_nat (by rw [List.getElem?_map, hc]; rfl)
      refine ⟨_, rfl, _, rfl, p, C, dx, fs, _, rfl, R.hp, T.cl, T.nC, R.fl.children, _, rfl, lc, _, _, .ref c, rfl, rfl, SqL.of R.hc, hcat, c, _, rfl, DGet.k (k := Sum.inl (a : Int)) hk, _, rfl, ?_⟩
      rcases kid.cases a with ⟨t1, ht1, hv1⟩ | ⟨hno, hv1⟩
      · refine itN (by rw [hv1]; rfl) ?_
        refine ⟨_, rfl, p, C, dx, fs, _, rfl, R.hp, T.cl, T.nC, R.fl.children, _, rfl, lc, _, _, .ref c, rfl, rfl, SqL.of R.hc, hcat, _, rfl, c, .int (t1 : Int), rfl, hv1 ▸ DGet.k (k := Sum.inl (a : Int)) hk, ?_⟩
        obtain ⟨u1, e1, e2⟩ := ht1
        have eu : u1 = u.take i := Option.some.inj (e1.symm.trans hsn)
        subst eu
        exact ⟨t1, _, cs1, st1, ws1, rfl, R, by rw [tk]; exact e2, by omega⟩
      · refine itC (by rw [hv1]; rfl) ?_
        have hz1 : cs1.length < sizeLine := len_lt (by rw [R.cl]; omega)
        have hz2 : st1.length < sizeLine := len_lt (by rw [R.sl]; omega)
        have n1 : p ≠ c := ne_of R.hp hk (by intro z; cases z)
        have n2 : lc ≠ c := ne_of R.hc hk (by intro z; cases z)
        have n3 : ls ≠ c := ne_of R.hs hk (by intro z; cases z)
        have n4 : lf ≠ c := ne_of R.hf hk (by intro z; cases z)
        have m1 : p ≠ lc := ne_of R.hp R.hc (by intro z; cases z)
        have m2 : p ≠ ls := ne_of R.hp R.hs (by intro z; cases z)
        refine ⟨_, rfl, p, C, dx, fs, _, rfl, R.hp, T.cl, T.nC, R.fl.children, lc, _, rfl, .inl (SqL.of R.hc), ?_⟩
        rw [List.length_map, R.cl]
        refine ⟨_, rfl, p, C, dx, fs, _, rfl, R.hp, T.cl, T.nC, R.fl.children, _, rfl, lc, _, _, .ref c, rfl, rfl, SqL.of R.hc, hcat, _, rfl, c, _, rfl, DPut.k (k := Sum.inl (a : Int)) hk (len_lt (by omega)), ?_⟩
        have hp1 : (upd H1 c (.dK (putK kvs (.inl (a : Int)) (.int (ws1.length : Int))))) p = some (.ins C dx fs) := by rw [upd_ne n1]; exact R.hp
        have hc1 : (upd H1 c (.dK (putK kvs (.inl (a : Int)) (.int (ws1.length : Int))))) lc = some (.lst (cs1.map V.ref)) := by rw [upd_ne n2]; exact R.hc
        refine ⟨_, rfl, p, C, dx, fs, _, rfl, hp1, T.cl, T.nC, R.fl.children, .inl ⟨rfl, _, SqL.of hc1⟩, fun d hd => ?_⟩
        have G := R.grow hsn hak hno hc hk hkl kid hd
        have dc : d ≠ c := fun z => by rw [z, upd_same] at hd; cases hd
        have hd0 : H1 d = none := by rw [upd_ne dc] at hd; exact hd
        have d1 : p ≠ d := ne_of_none R.hp hd0
        have d2 : lc ≠ d := ne_of_none R.hc hd0
        have d3 : ls ≠ d := ne_of_none R.hs hd0
        have d4 : lf ≠ d := ne_of_none R.hf hd0
        refine ⟨lc, _, _, rfl, rfl, by rw [upd_ne d2]; exact hc1, by rw [List.length_map]; exact hz1, ?_⟩
        refine ⟨_, rfl, p, C, dx, fs, _, rfl, by rw [upd_ne m1, upd_ne d1]; exact hp1, T.cl, T.nS, R.fl.stops, ?_⟩
        have hs3 : (upd (upd (upd H1 c (.dK (putK kvs (.inl (a : Int)) (.int (ws1.length : Int))))) d (.dK [])) lc (.lst (cs1.map V.ref ++ [.ref d]))) ls = some (.lst (st1.map V.bl)) := by
          rw [upd_ne R.cs_.symm, upd_ne d3, upd_ne n3]
          exact R.hs
        refine ⟨.inl ⟨rfl, _, SqL.of hs3⟩, ls, _, _, rfl, rfl, hs3, by rw [List.length_map]; exact hz2, ?_⟩
        refine ⟨_, rfl, p, C, dx, fs, _, rfl, by rw [upd_ne m2, upd_ne m1, upd_ne d1]; exact hp1, T.cl, T.nF, R.fl.fallback, ?_⟩
        have hf3 : (upd (upd (upd (upd H1 c (.dK (putK kvs (.inl (a : Int)) (.int (ws1.length : Int))))) d (.dK [])) lc (.lst (cs1.map V.ref ++ [.ref d]))) ls (.lst (st1.map V.bl ++ [.bl false]))) lf = some (.lst (nv (List.replicate ws1.length 0))) := by
          rw [upd_ne R.sf.symm, upd_ne R.cf.symm, upd_ne d4, upd_ne n4]
          exact R.hf
        refine ⟨.inl ⟨rfl, _, SqL.of hf3⟩, lf, _, _, rfl, rfl, hf3, len_lt (by rw [nv_len, List.length_replicate]; omega), ?_⟩
        have hcs5 : (cs1 ++ [d])[sn]? = some c := at_snoc.mpr (.inl hc)
        obtain ⟨kv5, hk5, _, kid5⟩ := G.dic sn c hcs5
        have child : Ch (ws1 ++ [u.take i ++ [a]]) sn a ws1.length := ((Ch.more R.tri hsn hno).mpr (.inr ⟨rfl, rfl, rfl⟩))
        have hval := (kid5 a).1 _ child
        refine ⟨_, rfl, p, C, dx, fs, _, rfl, G.hp, T.cl, T.nC, R.fl.children, _, rfl, lc, _, _, .ref c, rfl, rfl, SqL.of G.hc, atI_nat (by rw [List.getElem?_map, hcs5]; rfl), _, rfl, c, .int (ws1.length : Int), rfl, ?_, ?_⟩
        · exact hval ▸ DGet.k (k := Sum.inl (a : Int)) hk5
        · refine ⟨ws1.length, _, cs1 ++ [d], st1 ++ [false], ws1 ++ [u.take i ++ [a]], rfl, G, ?_, ?_⟩
          · rw [tk]
            exact at_snoc.mpr (.inr ⟨rfl, rfl⟩)
          · rw [List.length_append, List.length_singleton]
            omega
    · rintro σ H1 ⟨sn, v, cs1, st1, ws1, rfl, R, hsn, hl⟩
      rw [nv_len, List.take_length] at hsn
      rw [nv_len] at hl
      refine ⟨_, rfl, p, C, dx, fs, _, rfl, R.hp, T.cl, T.nS, R.fl.stops, _, rfl, ls, _, _, sn, rfl, rfl, R.hs, ix_nat ?_, q _ cs1 _ ws1 (R.mark hsn) hl⟩
      rw [List.length_map, R.sl]
      exact at_lt hsn
end
end K61

/-! Recognizer.connect: what stands in the heap. -/
namespace K61
open PySem PySem.Spec PyProof.Rows L2

theorem out_of {rs : List Addr} {b r : Addr} (h : b ∉ rs) (hr : r ∈ rs) : b ≠ r := fun z => h (z ▸ hr)
/-- a recognizer at rest -/
structure Rec (K : PySem.W.Frag) (C : Addr) (H : Hp) (p : Addr) (k : Nat) (mv : List (List Nat)) (st : List Bool) : Prop where
  all : ∃ (dx lc ls lf lm : Addr) (fs : List (Str × V)) (rs : List Addr), H p = some (.ins C dx fs) ∧ Fl fs k lc ls lf lm ∧ H ls = some (.lst (st.map V.bl)) ∧ H lm = some (.lst (rs.map V.ref)) ∧ rs.length = mv.length ∧
    ∀ (s : Nat) (r : Addr), rs[s]? = some r → ∃ row, mv[s]? = some row ∧ H r = some (.lst (nv row))
theorem Rec.same {K : PySem.W.Frag} {C : Addr} {H H' : Hp} {p : Addr} {k : Nat} {mv : List (List Nat)} {st : List Bool} (R : Rec K C H p k mv st) (s : Same H H') : Rec K C H' p k mv st := by
  obtain ⟨dx, lc, ls, lf, lm, fs, rs, h1, h2, h3, h4, h5, h6⟩ := R.all
  refine ⟨dx, lc, ls, lf, lm, fs, rs, s _ _ h1, h2, s _ _ h3, s _ _ h4, h5, fun t r hr => ?_⟩
  obtain ⟨row, a, b⟩ := h6 t r hr
  exact ⟨row, a, s _ _ b⟩

/-- a recognizer whose moves are being laid -/
structure Cn (C : Addr) (H0 H : Hp) (p dx lc ls lf lm q : Addr) (fs : List (Str × V)) (k : Nat) (cs rs : List Addr) (st : List Bool) (mv : List (List Nat)) (fb qu : List Nat) (ws : List (List Nat)) : Prop where
  same : Same H0 H
  out : ∀ b ∈ p :: lc :: ls :: lf :: lm :: q :: (cs ++ rs), H0 b = none
  nd : (lc :: ls :: lf :: lm :: q :: rs).Nodup
  fl : Fl fs k lc ls lf lm
  hp : H p = some (.ins C dx fs)
  hc : H lc = some (.lst (cs.map V.ref))
  hs : H ls = some (.lst (st.map V.bl))
  hf : H lf = some (.lst (nv fb))
  hm : H lm = some (.lst (rs.map V.ref))
  hq : H q = some (.lst (nv qu))
  rl : rs.length = mv.length
  rows : ∀ (s : Nat) (r : Addr), rs[s]? = some r → ∃ row, mv[s]? = some row ∧ H r = some (.lst (nv row))
  cl : cs.length = ws.length
  dic : ∀ (s : Nat) (c : Addr), cs[s]? = some c → ∃ kvs, H c = some (.dK kvs) ∧ Kid ws s kvs

section
variable {K : PySem.W.Frag} {C : Addr} {H0 H : Hp} {p dx lc ls lf lm q : Addr} {fs : List (Str × V)} {k : Nat} {cs rs : List Addr} {st : List Bool} {mv : List (List Nat)} {fb qu : List Nat} {ws : List (List Nat)}
/-- a list object b of it is written: what is elsewhere stays -/
theorem Cn.off (P : Cn C H0 H p dx lc ls lf lm q fs k cs rs st mv fb qu ws) {b : Addr} {xs : List V} (hb : H b = some (.lst xs)) (o : HO) : (upd H b o) p = some (.ins C dx fs) ∧ ∀ (s : Nat) (c : Addr), cs[s]? = some c → ∃ kvs, (upd H b o) c = some (.dK kvs) ∧ Kid ws s kvs := by
  refine ⟨by rw [upd_ne (ne_of P.hp hb (by intro z; cases z))]; exact P.hp, fun s c hc => ?_⟩
  obtain ⟨kv, h1, h2⟩ := P.dic s c hc
  exact ⟨kv, by rw [upd_ne (ne_of h1 hb (by intro z; cases z))]; exact h1, h2⟩
theorem Cn.nds (P : Cn C H0 H p dx lc ls lf lm q fs k cs rs st mv fb qu ws) : (lc ≠ ls ∧ lc ≠ lf ∧ lc ≠ lm ∧ lc ≠ q ∧ lc ∉ rs) ∧ (ls ≠ lf ∧ ls ≠ lm ∧ ls ≠ q ∧ ls ∉ rs) ∧ (lf ≠ lm ∧ lf ≠ q ∧ lf ∉ rs) ∧ (lm ≠ q ∧ lm ∉ rs) ∧ q ∉ rs ∧ rs.Nodup := by
  have h := P.nd
  simp only [List.nodup_cons, List.mem_cons, not_or] at h
  exact h
theorem Cn.stops (P : Cn C H0 H p dx lc ls lf lm q fs k cs rs st mv fb qu ws) (s : Nat) (b : Bool) : Cn C H0 (upd H ls (.lst ((st.map V.bl).set s (.bl b)))) p dx lc ls lf lm q fs k cs rs (st.set s b) mv fb qu ws := by
  obtain ⟨⟨a1, a2, a3, a4, a5⟩, ⟨b2, b3, b4, b5⟩, ⟨c3, c4, c5⟩, ⟨d4, d5⟩, e5, f5⟩ := P.nds
  obtain ⟨o1, o2⟩ := P.off P.hs (.lst ((st.map V.bl).set s (.bl b)))
  exact {
    same := same_put P.same (P.out ls (by simp))
    out := P.out
    nd := P.nd
    fl := P.fl
    hp := o1
    hc := by rw [upd_ne a1]; exact P.hc
    hs := by rw [upd_same, List.map_set]
    hf := by rw [upd_ne b2.symm]; exact P.hf
    hm := by rw [upd_ne b3.symm]; exact P.hm
    hq := by rw [upd_ne b4.symm]; exact P.hq
    rl := P.rl
    rows := fun t r hr => by
      obtain ⟨row, h1, h2⟩ := P.rows t r hr
      exact ⟨row, h1, by rw [upd_ne (Ne.symm (out_of b5 (at_mem hr)))]; exact h2⟩
    cl := P.cl
    dic := o2 }
theorem Cn.fall (P : Cn C H0 H p dx lc ls lf lm q fs k cs rs st mv fb qu ws) (s x : Nat) : Cn C H0 (upd H lf (.lst ((nv fb).set s (.int (x : Int))))) p dx lc ls lf lm q fs k cs rs st mv (fb.set s x) qu ws := by
  obtain ⟨⟨a1, a2, a3, a4, a5⟩, ⟨b2, b3, b4, b5⟩, ⟨c3, c4, c5⟩, ⟨d4, d5⟩, e5, f5⟩ := P.nds
  obtain ⟨o1, o2⟩ := P.off P.hf (.lst ((nv fb).set s (.int (x : Int))))
  exact {
    same := same_put P.same (P.out lf (by simp))
    out := P.out
    nd := P.nd
    fl := P.fl
    hp := o1
    hc := by rw [upd_ne a2]; exact P.hc
    hs := by rw [upd_ne b2]; exact P.hs
    hf := by rw [upd_same]; unfold nv; rw [List.map_set]
    hm := by rw [upd_ne c3.symm]; exact P.hm
    hq := by rw [upd_ne c4.symm]; exact P.hq
    rl := P.rl
    rows := fun t r hr => by
      obtain ⟨row, h1, h2⟩ := P.rows t r hr
      exact ⟨row, h1, by rw [upd_ne (Ne.symm (out_of c5 (at_mem hr)))]; exact h2⟩
    cl := P.cl
    dic := o2 }
theorem Cn.push (P : Cn C H0 H p dx lc ls lf lm q fs k cs rs st mv fb qu ws) (x : Nat) : Cn C H0 (upd H q (.lst (nv qu ++ [.int (x : Int)]))) p dx lc ls lf lm q fs k cs rs st mv fb (qu ++ [x]) ws := by
  obtain ⟨⟨a1, a2, a3, a4, a5⟩, ⟨b2, b3, b4, b5⟩, ⟨c3, c4, c5⟩, ⟨d4, d5⟩, e5, f5⟩ := P.nds
  obtain ⟨o1, o2⟩ := P.off P.hq (.lst (nv qu ++ [.int (x : Int)]))
  exact {
    same := same_put P.same (P.out q (by simp))
    out := P.out
    nd := P.nd
    fl := P.fl
    hp := o1
    hc := by rw [upd_ne a4]; exact P.hc
    hs := by rw [upd_ne b4]; exact P.hs
    hf := by rw [upd_ne c4]; exact P.hf
    hm := by rw [upd_ne d4]; exact P.hm
    hq := by rw [upd_same, nv_app]; rfl
    rl := P.rl
    rows := fun t r hr => by
      obtain ⟨row, h1, h2⟩ := P.rows t r hr
      exact ⟨row, h1, by rw [upd_ne (Ne.symm (out_of e5 (at_mem hr)))]; exact h2⟩
    cl := P.cl
    dic := o2 }
theorem Cn.move (P : Cn C H0 H p dx lc ls lf lm q fs k cs rs st mv fb qu ws) {s : Nat} {r : Addr} {row : List Nat} (hr : rs[s]? = some r) (hrow : mv[s]? = some row) (j x : Nat) :
    Cn C H0 (upd H r (.lst ((nv row).set j (.int (x : Int))))) p dx lc ls lf lm q fs k cs rs st (mv.set s (row.set j x)) fb qu ws := by
  obtain ⟨⟨a1, a2, a3, a4, a5⟩, ⟨b2, b3, b4, b5⟩, ⟨c3, c4, c5⟩, ⟨d4, d5⟩, e5, f5⟩ := P.nds
  have hm := at_mem hr
  obtain ⟨row', g1, g2⟩ := P.rows s r hr
  have er : row' = row := Option.some.inj (g1.symm.trans hrow)
  subst er
  obtain ⟨o1, o2⟩ := P.off g2 (.lst ((nv row').set j (.int (x : Int))))
  exact {
    same := same_put P.same (P.out r (by simp [hm]))
    out := P.out
    nd := P.nd
    fl := P.fl
    hp := o1
    hc := by rw [upd_ne (out_of a5 hm)]; exact P.hc
    hs := by rw [upd_ne (out_of b5 hm)]; exact P.hs
    hf := by rw [upd_ne (out_of c5 hm)]; exact P.hf
    hm := by rw [upd_ne (out_of d5 hm)]; exact P.hm
    hq := by rw [upd_ne (out_of e5 hm)]; exact P.hq
    rl := by rw [List.length_set]; exact P.rl
    rows := fun t b hb => by
      by_cases e : t = s
      · subst e
        have eb : b = r := Option.some.inj (hb.symm.trans hr)
        subst eb
        refine ⟨row'.set j x, ?_, ?_⟩
        · rw [List.getElem?_set, if_pos rfl, if_pos (at_lt g1)]
        · rw [upd_same]
          unfold nv
          rw [List.map_set]
      · obtain ⟨row2, h1, h2⟩ := P.rows t b hb
        refine ⟨row2, by rw [List.getElem?_set, if_neg (Ne.symm e)]; exact h1, ?_⟩
        rw [upd_ne (fun (z : b = r) => e (nd_at f5 (z ▸ hb) hr))]
        exact h2
    cl := P.cl
    dic := o2 }
theorem Cn.rest (P : Cn C H0 H p dx lc ls lf lm q fs k cs rs st mv fb qu ws) : Rec K C H p k mv st := ⟨dx, lc, ls, lf, lm, fs, rs, P.hp, P.fl, P.hs, P.hm, P.rl, P.rows⟩
end
end K61

/-! Recognizer.connect, the walk. -/
namespace K61
open PySem PySem.Spec PyProof.Rows L2
section
variable {P : Program} {w : World} {K : PySem.W.Frag} {mg : Str → Option Value} {base : Heap}
def spConnect (K : PySem.W.Frag) (C : Addr) : Sp := fun vs H Q _ => ∃ (H0 : Hp) (p dx lc ls lf lm : Addr) (fs : List (Str × V)) (k : Nat) (cs : List Addr) (st : List Bool) (ws : List (List Nat)) (D : List Nat → Prop), vs = [.ref p] ∧
  Put C H0 H p dx lc ls lf lm fs k cs st ws D ∧ fs.length ≤ 10 ∧ k ≤ 4 ∧ ws.length ≤ 100000 ∧
  ∀ (H' : Hp) (mv : List (List Nat)) (st' : List Bool), Same H0 H' → Rec K C H' p k mv st' → Mach k ws.length mv st' D → Q .non H'
theorem sc_connect : FnScope ["self", "state", "queue", "at", "letter", "back", "child"] ["self"] (defScope sConnect) := ⟨rfl, rfl, rfl, by decide +kernel, rfl, by decide +kernel, by decide +kernel⟩
theorem rep_zero (k : Nat) : (List.replicate k [V.int 0]).flatten = nv (List.replicate k 0) := by
  induction k with
  | zero => rfl
  | succ k ih =>
    rw [List.replicate_succ, List.flatten_cons, ih, List.replicate_succ]
    rfl
theorem ok_connect {f C : Addr} {fd : FuncData} (F : Fun K "connect" "Recognizer.connect" sConnect f fd) (N : Nm mg) (T : RT K mg C) : FnOk P w K mg base CX0 1 f fd ["self"] (spConnect K C) := by
  refine F.ok sc_connect (fun vs H Q E h => ?_) (fun cdv A outer s H vs Q E hr h => ?_)
  · obtain ⟨H0, p, _, _, _, _, _, _, _, _, _, _, _, rfl, _⟩ := h
    rfl
  · obtain ⟨H0, p, dx, lc, ls, lf, lm, fs, k, cs, st, ws, D, rfl, PT, hfs, hk4, hwl, q⟩ := h
    have hu := hu_of hr
    refine ⟨_, pss_cons (ps_fld (pv 0) (pe_lc (own := [("state", 1)]) (g := gName 1) (tt := tYes) (te := tOp rRep (tLst (tCons (tC (.int 0)) tNil)) (tFld K (tVar 0) "letters")) rfl sc_connect.nd (pi_list (pe_fld (pv 0) rfl))
          (blkOk_by (N := ["self", "state", "queue", "at", "letter", "back", "child"]) (sc := defScope sConnect) (by decide +kernel)) (fun _ _ _ _ _ => pg_name (i := 1) sc_connect.nd rfl (Or.inl rfl)) (fun _ _ _ _ _ => pts_nil)
          (fun _ _ _ _ _ => pe_op op_rep (pe_lst (pa_cons pe_int pa_nil)) (pe_fld (pv 0) rfl))) rfl)
      (pss_cons (ps_par rfl sc_connect.nd (i := 2) (j := 3) rfl rfl (by decide) rfl rfl (pa_cons (pe_lst (pa_cons pe_int pa_nil)) (pa_cons pe_int pa_nil)) (by rfl))
      (pss_one (ps_while PassesOwn.never (pt_cmpR op_lt (pv 3) (pe_callB call_len_seq (by rfl) N.len PySem.boot_len (pa_cons (pv 2) pa_nil)) (nomark _))
        (pss_cons (ps_set (i := 1) sc_connect.nd rfl (Or.inl rfl) (pe_ix ix_list (pv 2) (pv 3) (fun _ _ => rfl)))
        (pss_cons (ps_aug (i := 3) sc_connect.nd rfl (Or.inl rfl) pe_int iop_add)
        (pss_cons (ps_asg (pe_orT (pe_ix ix_list (pe_fld (pv 0) rfl) (pv 1) (fun _ _ => rfl)) (pe_one (pe_ix ix_list (pe_fld (pv 0) rfl) (pe_ix ix_list (pe_fld (pv 0) rfl) (pv 1) (fun _ _ => rfl)) (fun _ _ => rfl)))) (pg_sub (pe_fld (pv 0) rfl) (pv 1) set_list))
        (pss_one (ps_for PassesOwn.never rfl (pi_range1 (by rfl) N.range (pa_cons (pe_fld (pv 0) rfl) pa_nil)) (pg_name (i := 4) sc_connect.nd rfl (Or.inl rfl))
          (pss_cons (ps_set (i := 5) sc_connect.nd rfl (Or.inl rfl) (pe_ifExp (pt_cmpR op_gt (pv 1) pe_int (nomark _)) (pe_ix ix_list (pe_ix ix_list (pe_fld (pv 0) rfl) (pe_ix ix_list (pe_fld (pv 0) rfl) (pv 1) (fun _ _ => rfl)) (fun _ _ => rfl)) (pv 4) (fun _ _ => rfl)) pe_int))
          (pss_cons (ps_set (i := 6) sc_connect.nd rfl (Or.inl rfl) (pe_dget1 hu (pe_ix ix_list (pe_fld (pv 0) rfl) (pv 1) (fun _ _ => rfl)) (pv 4) ⟨rfl, rfl, rfl, rfl⟩))
          (pss_cons (ps_asg (pe_ifExp (pt_cmp (pc_isN (pv 6)) rfl) (pv 5) (pv 6)) (pg_sub (pe_ix ix_list (pe_fld (pv 0) rfl) (pv 1) (fun _ _ => rfl)) (pv 4) set_list))
          (pss_one (ps_if (pt_cmp (pc_notN (pv 6)) rfl) (pss_cons (ps_asg (pv 5) (pg_sub (pe_fld (pv 0) rfl) (pv 6) set_list))
              (pss_one (ps_expr (pe_bm PySem.F.plainAttrs_list PySem.F.slot_list_append PySem.F.type_list_append mt_append (pv 2) (pa_cons (pv 6) pa_nil))))) pss_nil))))))))))))), ?_⟩
    -- the rows of zeros
    refine ⟨_, rfl, p, C, dx, fs, _, rfl, PT.hp, T.cl, T.nC, PT.fl.children, lc, rfl, ⟨_, SqL.of PT.hc⟩, fun l hl => ?_⟩
    refine lc_list (K := K) (a := lc) (xs := cs.map V.ref) (fun i Hc => ∃ rs : List Addr, Same H Hc ∧ Hc l = some (.lst (rs.map V.ref)) ∧ rs.length = i ∧ rs.Nodup ∧ ∀ r ∈ rs, H r = none ∧ r ≠ l ∧ Hc r = some (.lst (nv (List.replicate k 0))))
      ⟨[], same_upd hl, upd_same, rfl, List.nodup_nil, fun _ h => (by cases h)⟩ (fun i Hc _ ⟨_, sc, _⟩ => sc.seq (SqL.of PT.hc)) ?_ ?_
    · rintro i x H1 hx ⟨rs, s1, h1, hrl, hnd, hall⟩
      have hil := at_lt hx
      rw [List.length_map, PT.cl] at hil
      refine ⟨rfl, by show 1 ≤ sizeLine; decide, fun z hz => ?_⟩
      have s2 : Same H1 (upd H1 z (.lst [.int 0])) := same_upd hz
      refine ⟨_, rfl, p, C, dx, fs, _, rfl, s2 _ _ (s1 _ _ PT.hp), T.cl, T.nL, PT.fl.letters, z, _, _, rfl, rfl, upd_same, by omega, by omega, ?_, fun r hr => ?_⟩
      · show 1 * _ ≤ _
        rw [Int.toNat_natCast, sizeLine_eq]
        omega
      · have s3 : Same (upd H1 z (.lst [.int 0])) (upd (upd H1 z (.lst [.int 0])) r (.lst (List.replicate (k : Int).toNat [V.int 0]).flatten)) := same_upd hr
        have s13 := s2.trans s3
        have er : (upd (upd H1 z (.lst [.int 0])) r (.lst (List.replicate (k : Int).toNat [V.int 0]).flatten)) r = some (.lst (nv (List.replicate k 0))) := by
          rw [upd_same, Int.toNat_natCast, rep_zero]
        have hrl1 : r ≠ l := (ne_of_none (s2 _ _ h1) hr).symm
        have hrn : r ∉ rs := fun z => by
          have := (hall r z).2.2
          exact absurd rfl (ne_of_none (s2 _ _ this) hr)
        refine ⟨_, s13 _ _ h1, ?_, rs ++ [r], same_put (s1.trans s13) hl, ?_, ?_, ?_, fun b hb => ?_⟩
        · rw [List.length_map, hrl]
          exact len_lt (by omega)
        · rw [upd_same, List.map_append]
          rfl
        · rw [List.length_append, hrl]
          rfl
        · exact List.nodup_append.mpr ⟨hnd, by simp, fun x hx y hy z => hrn (by rw [List.mem_singleton.mp hy] at z; exact z ▸ hx)⟩
        · rcases List.mem_append.mp hb with z1 | z1
          · obtain ⟨g1, g2, g3⟩ := hall b z1
            exact ⟨g1, g2, by rw [upd_ne g2]; exact s13 _ _ g3⟩
          · rw [List.mem_singleton.mp z1]
            exact ⟨(s1.trans s2).free hr, hrl1, by rw [upd_ne hrl1]; exact er⟩
    · rintro H1 ⟨rs, s1, h1, hrl, hnd, hall⟩
      rw [List.length_map, PT.cl] at hrl
      refine ⟨_, rfl, p, C, dx, fs, rfl, s1 _ _ PT.hp, T.cl, T.nM, by omega, by show 1 ≤ sizeLine; decide, fun qa hqa => ⟨_, _, rfl, ?_⟩⟩
      have hlH : H l = none := hl
      have hp1 := s1 _ _ PT.hp
      have npl : p ≠ l := ne_of_none PT.hp hlH
      have hqp : qa ≠ p := fun z => by rw [z, upd_same] at hqa; cases hqa
      have hq1 : H1 qa = none := by rw [upd_ne hqp] at hqa; exact hqa
      have hqH : H qa = none := s1.free hq1
      have at3 : ∀ b, b ≠ p → b ≠ qa → (upd (upd H1 p (.ins C dx (putF "moves" (.ref l) fs))) qa (.lst [.int 0])) b = H1 b := fun b h1 h2 => by rw [upd_ne h2, upd_ne h1]
      have keep : ∀ {b : Addr} {o : HO}, H b = some o → b ≠ p → (upd (upd H1 p (.ins C dx (putF "moves" (.ref l) fs))) qa (.lst [.int 0])) b = some o := fun {b o} hb h1 => by
        rw [at3 b h1 (ne_of_none hb hqH)]
        exact s1 _ _ hb
      have mp : ∀ {b : Addr} {xs : List V}, H b = some (.lst xs) → b ≠ p := fun {b xs} hb => (ne_of PT.hp hb (by intro z; cases z)).symm
      have C0 : Cn C H0 (upd (upd H1 p (.ins C dx (putF "moves" (.ref l) fs))) qa (.lst [.int 0])) p dx lc ls lf l qa (putF "moves" (.ref l) fs) k cs rs st (List.replicate ws.length (List.replicate k 0)) (List.replicate ws.length 0) [0] ws := {
        same := same_put (same_put (PT.same.trans s1) PT.p0) (PT.same.free hqH)
        out := fun b hb => by
          simp only [List.mem_cons, List.mem_append] at hb
          rcases hb with e | e | e | e | e | e | e | e
          · rw [e]; exact PT.p0
          · rw [e]; exact PT.c0
          · rw [e]; exact PT.s0
          · rw [e]; exact PT.f0
          · rw [e]; exact PT.same.free hlH
          · rw [e]; exact PT.same.free hqH
          · exact PT.n0 b e
          · exact PT.same.free (hall b e).1
        nd := by
          have nr : ∀ {b : Addr} {o : HO}, H b = some o → b ∉ rs := fun {b o} hb z => by
            rw [(hall b z).1] at hb
            cases hb
          have qr : qa ∉ rs := fun z => by
            have := (hall qa z).2.2
            rw [hq1] at this
            cases this
          have lr : l ∉ rs := fun z => (hall l z).2.1 rfl
          have ql : l ≠ qa := ne_of_none h1 hq1
          simp only [List.nodup_cons, List.mem_cons, not_or]
          exact ⟨⟨PT.cs_, PT.cf, ne_of_none PT.hc hlH, ne_of_none PT.hc hqH, nr PT.hc⟩, ⟨PT.sf, ne_of_none PT.hs hlH, ne_of_none PT.hs hqH, nr PT.hs⟩, ⟨ne_of_none PT.hf hlH, ne_of_none PT.hf hqH, nr PT.hf⟩, ⟨ql, lr⟩, qr, hnd⟩
        fl := PT.fl.remove hfs l
        hp := by rw [upd_ne hqp.symm, upd_same]
        hc := keep PT.hc (mp PT.hc)
        hs := keep PT.hs (mp PT.hs)
        hf := keep PT.hf (mp PT.hf)
        hm := by
          rw [at3 l npl.symm (ne_of_none h1 hq1)]
          exact h1
        hq := by
          rw [upd_same]
          rfl
        rl := by rw [hrl, List.length_replicate]
        rows := fun t r hr => by
          have hm := at_mem hr
          obtain ⟨g1, g2, g3⟩ := hall r hm
          have ht := at_lt hr
          refine ⟨List.replicate k 0, by rw [List.getElem?_replicate, if_pos (by omega)], ?_⟩
          rw [at3 r (fun z => by rw [z] at g1; rw [PT.hp] at g1; cases g1) (ne_of_none g3 hq1)]
          exact g3
        cl := PT.cl
        dic := fun t c hc => by
          obtain ⟨kv, g1, _, g3⟩ := PT.dic t c hc
          exact ⟨kv, keep g1 (ne_of PT.hp g1 (by intro z; cases z)).symm, g3⟩ }
      have K0 : Con k ws D (List.replicate ws.length (List.replicate k 0)) st (List.replicate ws.length 0) [0] 0 := by
        refine Con.begin PT.tri PT.sub (List.length_replicate) PT.sl (List.length_replicate) (fun r hr => ?_) (fun x hx => List.eq_of_mem_replicate hx) PT.acc
        rw [List.eq_of_mem_replicate hr]
        exact ⟨List.length_replicate, fun c hc => by rw [List.eq_of_mem_replicate hc]; exact at_lt PT.tri.root⟩
      generalize upd (upd H1 p (.ins C dx (putF "moves" (.ref l) fs))) qa (.lst [.int 0]) = H3 at C0
      generalize putF "moves" (.ref l) fs = gs at C0
      refine ⟨fun m σ H' => ∃ (i : Nat) (st1 : List Bool) (mv1 : List (List Nat)) (fb1 qu1 : List Nat) (v1 v4 v5 v6 : Option V), m + i = ws.length ∧ σ = [some (.ref p), v1, some (.ref qa), some (.int (i : Int)), v4, v5, v6] ∧ Cn C H0 H' p dx lc ls lf l qa gs k cs rs st1 mv1 fb1 qu1 ws ∧ Con k ws D mv1 st1 fb1 qu1 i ∧ i ≤ qu1.length,
        ⟨ws.length, 0, _, _, _, [0], none, none, none, none, rfl, rfl, C0, K0, Nat.zero_le _⟩, ?_⟩
      rintro m σ H4 ⟨i, st1, mv1, fb1, qu1, v1, v4, v5, v6, hmi, rfl, C1, K1, hiq⟩
      refine ⟨_, rfl, _, rfl, qa, _, rfl, .inl (SqL.of C1.hq), _, _, rfl, rfl, _, rfl, ?_⟩
      by_cases hlt : i < qu1.length
      · refine itC (decide_eq_true (by rw [nv_len]; omega)) ?_
        obtain ⟨sn, hsn⟩ := at_some hlt
        have hsw := K1.qlt sn (at_mem hsn)
        obtain ⟨u, hu1⟩ := at_some hsw
        have hql := K1.len
        have hfl := (K1.fbk sn (at_mem hsn) u hu1).lt
        have hst : (st1.map V.bl)[sn]? = some (.bl (stop st1 sn)) := by
          rw [List.getElem?_map, at_getD false (by rw [K1.sl]; exact hsw)]
          rfl
        have hstf : (st1.map V.bl)[fb1.getD sn 0]? = some (.bl (stop st1 (fb1.getD sn 0))) := by
          rw [List.getElem?_map, at_getD false (by rw [K1.sl]; exact hfl)]
          rfl
        have hfb : (nv fb1)[sn]? = some (.int ((fb1.getD sn 0 : Nat) : Int)) := nv_at (at_getD 0 (by rw [K1.fl]; exact hsw))
        have orv : ∀ (σ : L2.St) (R : VK), σ[0]? = some (some (.ref p)) → σ[1]? = some (some (.int (sn : Int))) → R (.bl (stop st1 sn || stop st1 (fb1.getD sn 0))) H4 →
            tOrT K (tOp (rIxL K) (tFld K (tVar 0) "stops") (tVar 1)) (tOp (rIxL K) (tFld K (tVar 0) "stops") (tOp (rIxL K) (tFld K (tVar 0) "fallback") (tVar 1))) σ H4 R := fun σ R h0 h1 hR => by
          refine ⟨_, h0, p, C, dx, gs, _, rfl, C1.hp, T.cl, T.nS, C1.fl.stops, _, h1, ls, _, _, _, rfl, rfl, SqL.of C1.hs, atI_nat hst, stop st1 sn, rfl, ?_⟩
          cases hb : stop st1 sn with
          | true =>
            rw [hb] at hR
            exact itC rfl hR
          | false =>
            rw [hb] at hR
            refine itN rfl ⟨_, h0, p, C, dx, gs, _, rfl, C1.hp, T.cl, T.nS, C1.fl.stops, _, h0, p, C, dx, gs, _, rfl, C1.hp, T.cl, T.nF, C1.fl.fallback, _, h1, lf, _, _, _, rfl, rfl, SqL.of C1.hf, atI_nat hfb, ls, _, _, _, rfl, rfl, SqL.of C1.hs, atI_nat hstf, hR⟩
        have sz : sn < (st1.map V.bl).length := by
          rw [List.length_map, K1.sl]
          exact hsw
        refine ⟨fun σ' H' => ∃ (st1 : List Bool) (mv1 : List (List Nat)) (fb1 qu1 : List Nat) (v1 v4 v5 v6 : Option V), σ' = [some (.ref p), v1, some (.ref qa), some (.int ((i + 1 : Nat) : Int)), v4, v5, v6] ∧ Cn C H0 H' p dx lc ls lf l qa gs k cs rs st1 mv1 fb1 qu1 ws ∧ Con k ws D mv1 st1 fb1 qu1 (i + 1) ∧ i + 1 ≤ qu1.length,
          fun σ' H' ⟨a1, a2, a3, a4, a5, a6, a7, a8, a9⟩ => ⟨m - 1, by omega, i + 1, a1, a2, a3, a4, a5, a6, a7, a8, by omega, a9⟩, ?_⟩
        refine ⟨_, rfl, _, rfl, qa, _, _, _, rfl, rfl, SqL.of C1.hq, atI_nat (nv_at hsn), _, rfl, _, _, rfl, rfl, ?_⟩
        refine orv _ _ rfl rfl ?_
        refine ⟨_, rfl, p, C, dx, gs, _, rfl, C1.hp, T.cl, T.nS, C1.fl.stops, _, rfl, ls, _, _, sn, rfl, rfl, C1.hs, ix_nat sz, ?_⟩
        have C2 := C1.stops sn (stop st1 sn || stop st1 (fb1.getD sn 0))
        have K2 := K1.enter hsn
        generalize upd H4 ls (.lst ((st1.map V.bl).set sn (.bl (stop st1 sn || stop st1 (fb1.getD sn 0))))) = H5 at C2 ⊢
        generalize st1.set sn (stop st1 sn || stop st1 (fb1.getD sn 0)) = st2 at C2 K2
        refine ⟨_, rfl, p, C, dx, gs, _, rfl, C2.hp, T.cl, T.nL, C2.fl.letters, (k : Int), rfl, by omega, by omega, ?_⟩
        refine for_it walk_range (fun j σ H' => ∃ (mv2 : List (List Nat)) (fb2 qu2 : List Nat) (v4 v5 v6 : Option V), σ = [some (.ref p), some (.int (sn : Int)), some (.ref qa), some (.int ((i : Int) + 1)), v4, v5, v6] ∧ Cn C H0 H' p dx lc ls lf l qa gs k cs rs st2 mv2 fb2 qu2 ws ∧
            Con2 k ws D mv2 st2 fb2 qu2 i sn j ∧ fb2.getD sn 0 = fb1.getD sn 0 ∧ (sn ≠ 0 → fb1.getD sn 0 ∈ qu2.take i)) ⟨mv1, fb1, qu1, v4, v5, v6, rfl, C2, K2, rfl, fun h0 => (K1.back hsn hu1 h0).2.2.1⟩ (fun _ _ _ _ _ => trivial) ?_ ?_
        · rintro j x σ H6 H7 hj ⟨mv2, fb2, qu2, w4, w5, w6, rfl, C3, K3, hf3, hq3⟩ ⟨rfl, rfl⟩
          have hjk : j < k := by
            have : (k : Int).toNat = k := Int.toNat_natCast k
            omega
          have ej : ((0 : Int) + (j : Nat)) = (j : Int) := by omega
          have hil : i ≤ qu2.length := Nat.le_of_lt (at_lt K3.hs)
          -- the row of sn
          obtain ⟨r, hr⟩ := at_some (l := rs) (i := sn) (by rw [C3.rl, K3.ml]; exact hsw)
          obtain ⟨row, hrow, hrH⟩ := C3.rows sn r hr
          have hrl := (K3.row row (at_mem hrow)).1
          obtain ⟨c, hc⟩ := at_some (l := cs) (i := sn) (by rw [C3.cl]; exact hsw)
          obtain ⟨kvs, hk, kid⟩ := C3.dic sn c hc
          have hcat : atI (cs.map V.ref) (sn : Int) = some (.ref c) := atI_nat (by rw [List.getElem?_map, hc]; rfl)
          have hrat : atI (rs.map V.ref) (sn : Int) = some (.ref r) := atI_nat (by rw [List.getElem?_map, hr]; rfl)
          -- what follows once back is known
          have hb : ∃ bk : Nat, LS ws (u ++ [j]).tail bk ∧ ∀ (σ : L2.St) (R : VK), σ[0]? = some (some (.ref p)) → σ[1]? = some (some (.int (sn : Int))) → σ[4]? = some (some (.int ((0 : Int) + (j : Nat)))) → R (.int (bk : Int)) H7 →
              tIf (tTest (tOp (rI0 fun i j => V.bl (decide (j < i))) (tVar 1) (tC (.int 0)))) (tOp (rIxL K) (tOp (rIxL K) (tFld K (tVar 0) "moves") (tOp (rIxL K) (tFld K (tVar 0) "fallback") (tVar 1))) (tVar 4)) (tC (.int 0)) σ H7 R := by
            by_cases h0 : sn = 0
            · subst h0
              refine ⟨0, K3.back0 hu1, fun σ R g0 g1 g4 hR => ⟨_, g1, _, _, rfl, rfl, _, rfl, itN (decide_eq_false (by omega)) hR⟩⟩
            · obtain ⟨b1, b2, _, b4⟩ := K1.back hsn hu1 h0
              have hm := hq3 h0
              have hls := K3.back hjk (by rw [hf3]; exact hm) (by rw [hf3]; exact b2) b1
              rw [hf3] at hls
              refine ⟨dl mv2 (fb1.getD sn 0) j, hls, fun σ R g0 g1 g4 hR => ⟨_, g1, _, _, rfl, rfl, _, rfl, itC (decide_eq_true (by omega)) ?_⟩⟩
              obtain ⟨rf, hrf⟩ := at_some (l := rs) (i := fb1.getD sn 0) (by rw [C3.rl, K3.ml]; exact b4)
              obtain ⟨rowf, hrowf, hrfH⟩ := C3.rows _ rf hrf
              have hrowl := (K3.row rowf (at_mem hrowf)).1
              have hfb3 : (nv fb2)[sn]? = some (.int ((fb1.getD sn 0 : Nat) : Int)) := by
                rw [← hf3]
                exact nv_at (at_getD 0 (by rw [K3.fl]; exact hsw))
              have hdl : dl mv2 (fb1.getD sn 0) j = rowf.getD j 0 := by
                unfold dl
                rw [getD_at hrowf]
              refine ⟨_, g0, p, C, dx, gs, _, rfl, C3.hp, T.cl, T.nM, C3.fl.moves, _, g0, p, C, dx, gs, _, rfl, C3.hp, T.cl, T.nF, C3.fl.fallback, _, g1, lf, _, _, _, rfl, rfl, SqL.of C3.hf, atI_nat hfb3,
                l, _, _, .ref rf, rfl, rfl, SqL.of C3.hm, atI_nat (by rw [List.getElem?_map, hrf]; rfl), _, g4, rf, _, _, _, rfl, rfl, SqL.of hrfH, ?_, hR⟩
              rw [ej, hdl]
              exact atI_nat (nv_at (at_getD 0 (by rw [hrowl]; exact hjk)))
          obtain ⟨bk, hbk, hgo⟩ := hb
          have hbl := hbk.lt
          refine hgo _ _ rfl rfl rfl ?_
          have hjr : j < (nv row).length := by rw [nv_len, hrl]; exact hjk
          have hix : ixN (nv row).length ((0 : Int) + (j : Nat)) = some j := by
            rw [ej]
            exact ix_nat hjr
          rcases kid.cases j with ⟨t, ht, hv⟩ | ⟨hno, hv⟩
          · have hD : DGet H7 c (.int ((0 : Int) + (j : Nat))) (some (.int (t : Int))) := by
              rw [ej]
              exact hv ▸ DGet.k (k := Sum.inl (j : Int)) hk
            refine ⟨_, rfl, p, C, dx, gs, _, rfl, C3.hp, T.cl, T.nC, C3.fl.children, _, rfl, lc, _, _, .ref c, rfl, rfl, SqL.of C3.hc, hcat, c, rfl, .inl ⟨kvs, .inl hk⟩, _, rfl, _, hD, ?_⟩
            obtain ⟨hnq, K4⟩ := K3.kid hu1 hrow hjk hbk ht
            have C4 := ((C3.move hr hrow j t).fall t bk).push t
            have n1 := (C3.move hr hrow j t)
            have n2 := n1.fall t bk
            have htl : t < (nv fb2).length := by rw [nv_len, K3.fl]; exact ht.lt.2
            refine ⟨_, rfl, _, rfl, itN (decide_eq_false (by intro z; cases z)) ⟨_, rfl, _, rfl, p, C, dx, gs, _, rfl, C3.hp, T.cl, T.nM, C3.fl.moves, _, rfl, l, _, _, .ref r, rfl, rfl, SqL.of C3.hm, hrat, _, rfl, r, _, _, j, rfl, rfl, hrH, hix, ?_⟩⟩
            refine ⟨_, rfl, _, rfl, itC (by rw [decide_eq_false (by intro z; cases z)]; rfl) ?_⟩
            refine ⟨_, rfl, _, rfl, p, C, dx, gs, _, rfl, n1.hp, T.cl, T.nF, n1.fl.fallback, _, rfl, lf, _, _, t, rfl, rfl, n1.hf, ix_nat htl, ?_⟩
            refine ⟨_, rfl, .inl ⟨rfl, _, SqL.of n2.hq⟩, _, rfl, qa, _, _, rfl, rfl, n2.hq, len_lt (by rw [nv_len]; have := K3.len; omega), ?_⟩
            refine ⟨_, _, _, _, _, _, rfl, C4, K4, ?_, fun h0 => ?_⟩
            · have hne : sn ≠ t := fun z => hnq (z ▸ at_mem K3.hs)
              rw [getD_set fb2 t sn bk 0 (by rw [← nv_len fb2]; exact htl), if_neg hne]
              exact hf3
            · rw [List.take_append_of_le_length hil]
              exact hq3 h0
          · have hD : DGet H7 c (.int ((0 : Int) + (j : Nat))) (none) := by
              rw [ej]
              exact hv ▸ DGet.k (k := Sum.inl (j : Int)) hk
            refine ⟨_, rfl, p, C, dx, gs, _, rfl, C3.hp, T.cl, T.nC, C3.fl.children, _, rfl, lc, _, _, .ref c, rfl, rfl, SqL.of C3.hc, hcat, c, rfl, .inl ⟨kvs, .inl hk⟩, _, rfl, _, hD, ?_⟩
            have K4 := K3.bare hu1 hrow hjk hbk hno
            have C4 := C3.move hr hrow j bk
            refine ⟨_, rfl, _, rfl, itC (decide_eq_true rfl) ⟨_, rfl, _, rfl, p, C, dx, gs, _, rfl, C3.hp, T.cl, T.nM, C3.fl.moves, _, rfl, l, _, _, .ref r, rfl, rfl, SqL.of C3.hm, hrat, _, rfl, r, _, _, j, rfl, rfl, hrH, hix, ?_⟩⟩
            refine ⟨_, rfl, _, rfl, itN (by simp) ?_⟩
            exact ⟨_, _, _, _, _, _, rfl, C4, K4, hf3, hq3⟩
        · rintro σ H6 ⟨mv2, fb2, qu2, w4, w5, w6, rfl, C3, K3, hf3, hq3⟩
          have e2 : (k : Int).toNat = k := Int.toNat_natCast k
          rw [e2] at K3
          exact ⟨st2, mv2, fb2, qu2, _, _, _, _, rfl, C3, K3.leave, at_lt K3.hs⟩
      · refine itN (decide_eq_false (by rw [nv_len]; omega)) ?_
        have e : i = qu1.length := by omega
        subst e
        exact q _ mv1 st1 C1.same C1.rest K1.mach
end
end K61

/-! Recognizer.steps, Recognizer.__init__. -/
namespace K61
open PySem PySem.Spec PyProof.Rows L2

/-- pairs as tuples -/
inductive Pr (K : PySem.W.Frag) (H : Hp) : List V → List (Nat × Nat) → Prop
  | nil : Pr K H [] []
  | cons {t : Addr} {e : Nat × Nat} {xs : List V} {es : List (Nat × Nat)} : SqT K H t [.int (e.1 : Int), .int (e.2 : Int)] → Pr K H xs es → Pr K H (.ref t :: xs) (e :: es)
section
variable {K : PySem.W.Frag} {H H' : Hp}
theorem Pr.same {xs : List V} {es : List (Nat × Nat)} (h : Pr K H xs es) (s : Same H H') : Pr K H' xs es := by
  induction h with
  | nil => exact .nil
  | cons a _ ih => exact .cons (sameT s a) ih
theorem Pr.app {xs ys : List V} {es fs : List (Nat × Nat)} (h : Pr K H xs es) (g : Pr K H ys fs) : Pr K H (xs ++ ys) (es ++ fs) := by
  induction h with
  | nil => exact g
  | cons a _ ih => exact .cons a ih
theorem Pr.len {xs : List V} {es : List (Nat × Nat)} (h : Pr K H xs es) : xs.length = es.length := by
  induction h with
  | nil => rfl
  | cons a _ ih => exact congrArg (· + 1) ih
theorem Pr.get {xs : List V} {es : List (Nat × Nat)} (h : Pr K H xs es) : ∀ {i : Nat} {x : V}, xs[i]? = some x → ∃ (t : Addr) (e : Nat × Nat), x = .ref t ∧ es[i]? = some e ∧ SqT K H t [.int (e.1 : Int), .int (e.2 : Int)] := by
  induction h with
  | nil => intro i x e; cases e
  | cons a _ ih =>
    intro i x e
    cases i with
    | zero => exact ⟨_, _, (Option.some.inj e).symm, rfl, a⟩
    | succ i => exact ih e
theorem Pr.upd {D : Addr} {xs zs : List V} {es : List (Nat × Nat)} {o : HO} (h : Pr K H xs es) (hD : H D = some (.lst zs)) : Pr K (L2.upd H D o) xs es := by
  induction h with
  | nil => exact .nil
  | cons a _ ih => exact .cons (tupU a hD) ih
theorem Pr.updD {D : Addr} {xs : List V} {kv : List (Key × V)} {es : List (Nat × Nat)} {o : HO} (h : Pr K H xs es) (hD : H D = some (.dK kv)) : Pr K (L2.upd H D o) xs es := by
  induction h with
  | nil => exact .nil
  | @cons t e xs es a _ ih =>
    refine .cons ?_ ih
    rcases a with a | a
    · have ne : t ≠ D := by
        rintro rfl
        rcases a with a | ⟨_, a⟩ <;> (rw [hD] at a; cases a)
      exact .inl (a.imp (fun e => by rw [upd_ne ne]; exact e) fun ⟨u, e⟩ => ⟨u, by rw [upd_ne ne]; exact e⟩)
    · exact .inr a
theorem Pr.one {t : Addr} {e : Nat × Nat} (h : SqT K H t [.int (e.1 : Int), .int (e.2 : Int)]) : Pr K H [.ref t] [e] := .cons h .nil
end

section
variable {P : Program} {w : World} {K : PySem.W.Frag} {mg : Str → Option Value} {base : Heap}
def spSteps (K : PySem.W.Frag) (C : Addr) : Sp := fun vs H Q _ => ∃ (p : Addr) (s k n : Nat) (mv : List (List Nat)) (st : List Bool) (B : List Nat → Prop), vs = [.ref p, .int (s : Int)] ∧ Rec K C H p k mv st ∧ Mach k n mv st B ∧ s < n ∧ k ≤ 4 ∧
  ∀ H' l xs, Same H H' → H l = none → H' l = some (.lst xs) → Pr K H' xs (steps mv st s) → Q (.ref l) H'
theorem sc_steps : FnScope ["self", "state", "letter", "later"] ["self", "state"] (defScope sSteps) := ⟨rfl, rfl, rfl, by decide +kernel, rfl, by decide +kernel, by decide +kernel⟩
theorem ok_steps {f C : Addr} {fd : FuncData} (F : Fun K "steps" "Recognizer.steps" sSteps f fd) (N : Nm mg) (T : RT K mg C) : FnOk P w K mg base CX0 1 f fd ["self", "state"] (spSteps K C) := by
  refine F.ok sc_steps (fun vs H Q E h => ?_) (fun cdv A outer s H vs Q E hr h => ?_)
  · obtain ⟨p, s, _, _, _, _, _, rfl, _⟩ := h
    rfl
  · obtain ⟨p, sn, k, n, mv, st, B, rfl, R, M, hsn, hk4, q⟩ := h
    obtain ⟨dx, lc, ls, lf, lm, fs, rs, h1, h2, h3, h4, h5, h6⟩ := R.all
    obtain ⟨row, hrow, hrl, hrc, hrd⟩ := M.rowAt hsn
    obtain ⟨r, hr0⟩ := at_some (l := rs) (i := sn) (by rw [h5, M.ml]; exact hsn)
    obtain ⟨row', g1, g2⟩ := h6 sn r hr0
    have er : row' = row := Option.some.inj (g1.symm.trans hrow)
    subst er
    refine ⟨_, pss_one (ps_ret (pe_lc (own := [("letter", 2), ("later", 3)]) (g := gTup K 2 (gCons (gName 2) (gCons (gName 3) gNil))) (tt := tNot (tB (tOp (rIxL K) (tFld K (tVar 0) "stops") (tVar 3)))) rfl sc_steps.nd
      (pi_enum (by rfl) N.enumerate (pa_cons (pe_ix ix_list (pe_fld (pv 0) rfl) (pv 1) (fun _ _ => rfl)) pa_nil))
      (blkOk_by (N := ["self", "state", "letter", "later"]) (sc := defScope sSteps) (by decide +kernel))
      (fun _ _ _ _ _ => pg_tup rfl (pgs_cons (pg_name (i := 2) sc_steps.nd rfl (Or.inl rfl)) (pgs_cons (pg_name (i := 3) sc_steps.nd rfl (Or.inl rfl)) pgs_nil)))
      (fun _ _ _ _ _ => pts_one (pt_not (pt_val (pe_ix ix_list (pe_fld (pv 0) rfl) (pv 3) (fun _ _ => rfl))))) (fun _ _ _ _ _ => pe_tup (pa_cons (pv 2) (pa_cons (pv 3) pa_nil))))), ?_⟩
    refine ⟨_, rfl, p, C, dx, fs, _, rfl, h1, T.cl, T.nM, h2.moves, _, rfl, lm, _, _, .ref r, rfl, rfl, SqL.of h4, atI_nat (by rw [List.getElem?_map, hr0]; rfl), r, _, rfl, SqL.of g2, fun D hD => ?_⟩
    refine lc_it walk_enum (fun i Hc => ∃ xs, Same H Hc ∧ Hc D = some (.lst xs) ∧ Pr K Hc xs (stp st 0 (row'.take i))) ⟨[], same_upd hD, upd_same, .nil⟩ (fun i Hc _ ⟨_, sc, _⟩ => sc.seq (SqL.of g2)) ?_ ?_
    · rintro i x H1 H2 hi ⟨xs, s1, hd, pr⟩ ⟨t, x1, x2, rfl, ht, rfl, e1, e2⟩
      obtain ⟨c, hc, rfl⟩ := nv_get e2
      have ex1 : x1 = .int ((i : Nat) : Int) := (Option.some.inj e1).symm
      subst ex1
      have s2 : Same H (upd H1 t (.tup [.int ((i : Nat) : Int), .int (c : Int)])) := s1.trans (same_upd ht)
      have hcn : c < n := hrc c (at_mem hc)
      have hst : (st.map V.bl)[c]? = some (.bl (stop st c)) := by
        rw [List.getElem?_map, at_getD false (by rw [M.sl]; exact hcn)]
        rfl
      have hd2 := (same_upd (o := .tup [.int ((i : Nat) : Int), .int (c : Int)]) ht) _ _ hd
      have tk : row'.take (i + 1) = row'.take i ++ [c] := by
        rw [List.take_add_one, hc]
        rfl
      have hlen : (row'.take i).length = i := by
        rw [List.length_take]
        have := at_lt hc
        omega
      refine ⟨t, _, rfl, SqT.of upd_same, rfl, _, _, rfl, _, _, rfl, rfl, rfl, _, rfl, p, C, dx, fs, _, rfl, s2 _ _ h1, T.cl, T.nS, h2.stops, _, rfl, ls, _, _, _, rfl, rfl, SqL.of (s2 _ _ h3), atI_nat hst, _, rfl, ?_⟩
      by_cases hs : stop st c = true
      · refine itN (by rw [hs]; rfl) ⟨xs, s2, hd2, ?_⟩
        rw [tk, stp_snoc, if_pos hs, List.append_nil]
        exact pr.same (same_upd ht)
      · refine itC (by simp [hs]) ⟨_, rfl, _, rfl, by show 2 ≤ sizeLine; decide, fun b hb => ?_⟩
        have s3 : Same (upd H1 t (.tup [.int ((i : Nat) : Int), .int (c : Int)])) (upd (upd H1 t (.tup [.int ((i : Nat) : Int), .int (c : Int)])) b (.tup [.int ((i : Nat) : Int), .int (c : Int)])) := same_upd hb
        have hd3 := s3 _ _ hd2
        refine ⟨xs, hd3, ?_, xs ++ [.ref b], same_put (s2.trans s3) hD, upd_same, ?_⟩
        · have q1 := pr.len
          have q2 := stp_len st (row'.take i) 0
          have q3 := at_lt hc
          exact len_lt (by omega)
        · rw [tk, stp_snoc, if_neg hs, hlen, Nat.zero_add]
          exact (((pr.same (same_upd ht)).same s3).upd hd3).app (Pr.one (tupU (SqT.of upd_same) hd3))
    · rintro H1 ⟨xs, s1, hd, pr⟩
      rw [nv_len, List.take_length] at pr
      refine q _ D xs s1 hD hd ?_
      unfold steps
      rw [hrd]
      exact pr
end
end K61

/-! Recognizer.__init__. -/
namespace K61
open PySem PySem.Spec PyProof.Rows L2
/-- a method of the class -/
structure Mt (P : Program) (w : World) (K : PySem.W.Frag) (mg : Str → Option Value) (base : Heap) (C : Addr) (x : Str) (k : Nat) (ps : List Str) (sp : Sp) where
  a : Addr
  fd : FuncData
  ok : FnOk P w K mg base CX0 k a fd ps sp
  m : Meth K C x a
  b : Binds K fd ps []
section
variable {P : Program} {w : World} {K : PySem.W.Frag} {mg : Str → Option Value} {base : Heap}
def spInit (K : PySem.W.Frag) (C : Addr) : Sp := fun vs H Q _ => ∃ (H0 : Hp) (p dx l : Addr) (xs : List V) (us : List (List Nat)) (k : Nat), vs = [.ref p, .ref l, .int (k : Int)] ∧ Same H0 H ∧ H0 p = none ∧ H p = some (.ins C dx []) ∧
  SqL K H0 l xs ∧ Tw K H0 xs us ∧ (∀ u ∈ us, Over k u ∧ u.length ≤ 40) ∧ us.length ≤ 2048 ∧ k ≤ 4 ∧
  ∀ (H' : Hp) (n : Nat) (mv : List (List Nat)) (st : List Bool), Same H0 H' → Rec K C H' p k mv st → Mach k n mv st (fun v => v ∈ us) → n ≤ 100000 → Q .non H'
theorem sc_init : FnScope ["self", "some", "letters", "text"] ["self", "some", "letters"] (defScope sInit) := ⟨rfl, rfl, rfl, by decide +kernel, rfl, by decide +kernel, by decide +kernel⟩
theorem put_congr {C : Addr} {H0 H : Hp} {p dx lc ls lf lm : Addr} {fs : List (Str × V)} {k : Nat} {cs : List Addr} {st : List Bool} {ws : List (List Nat)} {D D' : List Nat → Prop} (R : Put C H0 H p dx lc ls lf lm fs k cs st ws D) (h : ∀ v, D v ↔ D' v) :
    Put C H0 H p dx lc ls lf lm fs k cs st ws D' := by
  have e : D = D' := funext fun v => propext (h v)
  rw [← e]
  exact R
abbrev fs5 (k : Nat) (lc ls lf lm : Addr) : List (Str × V) := putF "moves" (.ref lm) (putF "fallback" (.ref lf) (putF "stops" (.ref ls) (putF "children" (.ref lc) (putF "letters" (.int (k : Int)) []))))
theorem fs5_len (k : Nat) (lc ls lf lm : Addr) : (fs5 k lc ls lf lm).length ≤ 5 := by
  have h1 := length_putF "moves" (.ref lm) (putF "fallback" (.ref lf) (putF "stops" (.ref ls) (putF "children" (.ref lc) (putF "letters" (.int (k : Int)) []))))
  have h2 := length_putF "fallback" (.ref lf) (putF "stops" (.ref ls) (putF "children" (.ref lc) (putF "letters" (.int (k : Int)) [])))
  have h3 := length_putF "stops" (.ref ls) (putF "children" (.ref lc) (putF "letters" (.int (k : Int)) []))
  have h4 := length_putF "children" (.ref lc) (putF "letters" (.int (k : Int)) [])
  have h5 := length_putF "letters" (.int (k : Int)) []
  simp only [List.length_nil] at h5
  show (putF "moves" (.ref lm) (putF "fallback" (.ref lf) (putF "stops" (.ref ls) (putF "children" (.ref lc) (putF "letters" (.int (k : Int)) []))))).length ≤ 5
  omega
theorem fs5_fl (k : Nat) (lc ls lf lm : Addr) : Fl (fs5 k lc ls lf lm) k lc ls lf lm where
  letters := by rw [lookup_putF, if_neg (by decide +kernel), lookup_putF, if_neg (by decide +kernel), lookup_putF, if_neg (by decide +kernel), lookup_putF, if_neg (by decide +kernel), lookup_putF, if_pos rfl]
  children := by rw [lookup_putF, if_neg (by decide +kernel), lookup_putF, if_neg (by decide +kernel), lookup_putF, if_neg (by decide +kernel), lookup_putF, if_pos rfl]
  stops := by rw [lookup_putF, if_neg (by decide +kernel), lookup_putF, if_neg (by decide +kernel), lookup_putF, if_pos rfl]
  fallback := by rw [lookup_putF, if_neg (by decide +kernel), lookup_putF, if_pos rfl]
  moves := by rw [lookup_putF, if_pos rfl]
  put := by rw [lookup_putF, if_neg (by decide +kernel), lookup_putF, if_neg (by decide +kernel), lookup_putF, if_neg (by decide +kernel), lookup_putF, if_neg (by decide +kernel), lookup_putF, if_neg (by decide +kernel)]; rfl
  connect := by rw [lookup_putF, if_neg (by decide +kernel), lookup_putF, if_neg (by decide +kernel), lookup_putF, if_neg (by decide +kernel), lookup_putF, if_neg (by decide +kernel), lookup_putF, if_neg (by decide +kernel)]; rfl
  steps := by rw [lookup_putF, if_neg (by decide +kernel), lookup_putF, if_neg (by decide +kernel), lookup_putF, if_neg (by decide +kernel), lookup_putF, if_neg (by decide +kernel), lookup_putF, if_neg (by decide +kernel)]; rfl
  reachable := by rw [lookup_putF, if_neg (by decide +kernel), lookup_putF, if_neg (by decide +kernel), lookup_putF, if_neg (by decide +kernel), lookup_putF, if_neg (by decide +kernel), lookup_putF, if_neg (by decide +kernel)]; rfl
  few := by
    have := fs5_len k lc ls lf lm
    omega
theorem stage {H0 H : Hp} {p l : Addr} {u : HO} (o o1 : HO) (s : Same H0 H) (p0 : H0 p = none) (hp : H p = some u) (hl : H l = none) :
    Same H0 (upd (upd H l o) p o1) ∧ (upd (upd H l o) p o1) l = some o ∧ (upd (upd H l o) p o1) p = some o1 ∧ (∀ b x, H b = some x → b ≠ p → (upd (upd H l o) p o1) b = some x) ∧ l ≠ p ∧ H0 l = none := by
  have ne : p ≠ l := ne_of_none hp hl
  refine ⟨same_put (same_put s (s.free hl)) p0, by rw [upd_ne ne.symm, upd_same], upd_same, fun b x hb h => ?_, ne.symm, s.free hl⟩
  rw [upd_ne h, upd_ne (ne_of_none hb hl)]
  exact hb
theorem ok_init {f C : Addr} {fd : FuncData} (F : Fun K "__init__" "Recognizer.__init__" sInit f fd) (N : Nm mg) (T : RT K mg C) (PU : Mt P w K mg base C "put" 1 ["self", "text"] (spPut K C)) (CO : Mt P w K mg base C "connect" 1 ["self"] (spConnect K C)) :
    FnOk P w K mg base CX0 2 f fd ["self", "some", "letters"] (spInit K C) := by
  refine F.ok sc_init (fun vs H Q E h => ?_) (fun cdv A outer s H vs Q E hr h => ?_)
  · obtain ⟨H0, p, dx, l, xs, us, k, rfl, _⟩ := h
    rfl
  · obtain ⟨H0, p, dx, l, xs, us, k, rfl, s0, hp0, hp, hL, tw, hgood, hfew, hk4, q⟩ := h
    refine ⟨_, pss_cons (ps_fld (pv 0) (pv 2) rfl) (pss_cons (ps_fld (pv 0) (pe_lst (pa_cons pe_dnewK pa_nil)) rfl) (pss_cons (ps_fld (pv 0) (pe_lst (pa_cons pe_bl pa_nil)) rfl) (pss_cons (ps_fld (pv 0) (pe_lst (pa_cons pe_int pa_nil)) rfl) (pss_cons (ps_fld (pv 0) (pe_lst pa_nil) rfl)
      (pss_cons (ps_for PassesOwn.never rfl (pi_list (pv 1)) (pg_name (i := 3) sc_init.nd rfl (Or.inl rfl)) (pss_one (ps_expr (pe_meth (pv 0) T.cl PU.m PU.ok hr PU.b .nil pass0 (pa_cons (pv 3) pa_nil)))))
      (pss_one (ps_expr (pe_meth0 (pv 0) T.cl CO.m CO.ok hr CO.b .nil pass0)))))))), ?_⟩
    have p1 := length_putF "letters" (.int (k : Int)) []
    simp only [List.length_nil] at p1
    refine ⟨_, rfl, _, rfl, p, C, dx, [], rfl, hp, T.cl, T.nL, by show 0 < 1000; decide, ?_⟩
    have s1 : Same H0 (upd H p (.ins C dx (putF "letters" (.int (k : Int)) []))) := same_put s0 hp0
    have q1 : (upd H p (.ins C dx (putF "letters" (.int (k : Int)) []))) p = some (.ins C dx (putF "letters" (.int (k : Int)) [])) := upd_same
    generalize upd H p (.ins C dx (putF "letters" (.int (k : Int)) [])) = H1 at s1 q1 ⊢
    refine fun d hd => ⟨by show 1 ≤ sizeLine; decide, fun lc hlc => ?_⟩
    have hpd : p ≠ d := ne_of_none q1 hd
    have q2 : (upd H1 d (.dK [])) p = some (.ins C dx (putF "letters" (.int (k : Int)) [])) := by rw [upd_ne hpd]; exact q1
    have d0 : H0 d = none := s1.free hd
    obtain ⟨s3, c3, q3, o3, ncp, c0⟩ := stage (.lst [.ref d]) (.ins C dx (putF "children" (.ref lc) (putF "letters" (.int (k : Int)) []))) (same_put (o := .dK []) s1 d0) hp0 q2 hlc
    refine ⟨_, rfl, p, C, dx, putF "letters" (.int (k : Int)) [], rfl, by rw [upd_ne ncp.symm]; exact q2, T.cl, T.nC, by omega, ?_⟩
    have d3 := o3 d _ upd_same hpd.symm
    have p2 := length_putF "children" (.ref lc) (putF "letters" (.int (k : Int)) [])
    generalize upd (upd (upd H1 d (.dK [])) lc (.lst [.ref d])) p (.ins C dx (putF "children" (.ref lc) (putF "letters" (.int (k : Int)) []))) = H3 at s3 c3 q3 o3 d3 ⊢
    refine ⟨by show 1 ≤ sizeLine; decide, fun ls hls => ?_⟩
    obtain ⟨s4, b4, q4, o4, nsp, b0⟩ := stage (.lst [.bl false]) (.ins C dx (putF "stops" (.ref ls) (putF "children" (.ref lc) (putF "letters" (.int (k : Int)) [])))) s3 hp0 q3 hls
    refine ⟨_, rfl, p, C, dx, putF "children" (.ref lc) (putF "letters" (.int (k : Int)) []), rfl, by rw [upd_ne nsp.symm]; exact q3, T.cl, T.nS, by omega, ?_⟩
    have d4 := o4 d _ d3 hpd.symm
    have c4 := o4 lc _ c3 ncp
    have ncs : lc ≠ ls := ne_of_none c3 hls
    have p3 := length_putF "stops" (.ref ls) (putF "children" (.ref lc) (putF "letters" (.int (k : Int)) []))
    generalize upd (upd H3 ls (.lst [.bl false])) p (.ins C dx (putF "stops" (.ref ls) (putF "children" (.ref lc) (putF "letters" (.int (k : Int)) [])))) = H4 at s4 b4 q4 o4 d4 c4 ⊢
    refine ⟨by show 1 ≤ sizeLine; decide, fun lf hlf => ?_⟩
    obtain ⟨s5, f5, q5, o5, nfp, f0⟩ := stage (.lst [.int 0]) (.ins C dx (putF "fallback" (.ref lf) (putF "stops" (.ref ls) (putF "children" (.ref lc) (putF "letters" (.int (k : Int)) []))))) s4 hp0 q4 hlf
    refine ⟨_, rfl, p, C, dx, putF "stops" (.ref ls) (putF "children" (.ref lc) (putF "letters" (.int (k : Int)) [])), rfl, by rw [upd_ne nfp.symm]; exact q4, T.cl, T.nF, by omega, ?_⟩
    have d5 := o5 d _ d4 hpd.symm
    have c5 := o5 lc _ c4 ncp
    have b5 := o5 ls _ b4 nsp
    have ncf : lc ≠ lf := ne_of_none c4 hlf
    have nsf : ls ≠ lf := ne_of_none b4 hlf
    have p4 := length_putF "fallback" (.ref lf) (putF "stops" (.ref ls) (putF "children" (.ref lc) (putF "letters" (.int (k : Int)) [])))
    generalize upd (upd H4 lf (.lst [.int 0])) p (.ins C dx (putF "fallback" (.ref lf) (putF "stops" (.ref ls) (putF "children" (.ref lc) (putF "letters" (.int (k : Int)) []))))) = H5 at s5 f5 q5 o5 d5 c5 b5 ⊢
    refine ⟨Nat.zero_le _, fun lm hlm => ?_⟩
    obtain ⟨s6, m6, q6, o6, nmp, m0⟩ := stage (.lst []) (.ins C dx (fs5 k lc ls lf lm)) s5 hp0 q5 hlm
    refine ⟨_, rfl, p, C, dx, putF "fallback" (.ref lf) (putF "stops" (.ref ls) (putF "children" (.ref lc) (putF "letters" (.int (k : Int)) []))), rfl, by rw [upd_ne nmp.symm]; exact q5, T.cl, T.nM, by omega, ?_⟩
    have d6 := o6 d _ d5 hpd.symm
    have c6 := o6 lc _ c5 ncp
    have b6 := o6 ls _ b5 nsp
    have f6 := o6 lf _ f5 nfp
    have ncm : lc ≠ lm := ne_of_none c5 hlm
    have nsm : ls ≠ lm := ne_of_none b5 hlm
    have nfm : lf ≠ lm := ne_of_none f5 hlm
    show tSeq _ _ _ _ (upd (upd H5 lm (.lst [])) p (.ins C dx (fs5 k lc ls lf lm)))
    generalize upd (upd H5 lm (.lst [])) p (.ins C dx (fs5 k lc ls lf lm)) = H6 at s6 m6 q6 o6 d6 c6 b6 f6 ⊢
    have PT : Put C H0 H6 p dx lc ls lf lm (fs5 k lc ls lf lm) k [d] [false] [[]] (fun v => v ∈ us.take 0) := {
      same := s6
      p0 := hp0
      c0 := c0
      s0 := b0
      f0 := f0
      m0 := m0
      n0 := fun c hc => by rw [List.mem_singleton.mp hc]; exact d0
      cs_ := ncs
      cf := ncf
      cm := ncm
      sf := nsf
      sm := nsm
      fm := nfm
      fl := fs5_fl k lc ls lf lm
      hp := q6
      hc := c6
      hs := b6
      hf := f6
      hm := m6
      cnd := by simp
      cl := rfl
      sl := rfl
      dic := fun t c hc => by
        cases t with
        | zero =>
          have e : d = c := Option.some.inj hc
          subst e
          refine ⟨[], d6, Nat.zero_le _, fun a => ⟨fun y hy => ?_, fun _ => rfl⟩⟩
          obtain ⟨v, h1, h2⟩ := hy
          have hv : v = [] := by
            cases t0 : ([[]] : List (List Nat))[0]? with
            | none => cases t0
            | some z => exact (Option.some.inj h1).symm
          subst hv
          cases y with
          | zero => cases h2
          | succ y => cases h2
        | succ t => cases hc
      tri := ⟨rfl, by simp, fun v a hv => by
        have := List.mem_singleton.mp hv
        simp at this, fun v hv => by rw [List.mem_singleton.mp hv]; exact Over.nil⟩
      acc := fun t v hv => by
        cases t with
        | zero =>
          constructor
          · intro z
            cases z
          · intro z
            cases z
        | succ t => cases hv
      sub := fun v hv => by cases hv }
    refine ⟨_, rfl, l, rfl, ⟨xs, s6.seq hL⟩, ?_⟩
    refine for_list (K := K) (a := l) (xs := xs) (fun i σ H' => ∃ (v : Option V) (cs : List Addr) (st : List Bool) (ws : List (List Nat)), σ = [some (.ref p), some (.ref l), some (.int (k : Int)), v] ∧ Put C H0 H' p dx lc ls lf lm (fs5 k lc ls lf lm) k cs st ws (fun v => v ∈ us.take i) ∧ ws.length ≤ 1 + i * 40)
      ⟨none, _, _, _, rfl, PT, Nat.le_refl _⟩ (fun i σ H' _ ⟨_, _, _, _, _, R, _⟩ => R.same.seq hL) ?_ ?_
    · rintro i x σ H7 hx ⟨v, cs, st, ws, rfl, R, hw⟩
      obtain ⟨t, u, rfl, hu, hT⟩ := tw.get hx
      obtain ⟨ho, hul⟩ := hgood u (at_mem hu)
      have hi := at_lt hu
      refine ⟨_, rfl, p, dx, _, rfl, R.hp, R.fl.put, _, rfl, H0, p, t, dx, lc, ls, lf, lm, _, k, cs, st, ws, _, u, rfl, R, hT, ho, by omega, fun H8 cs' st' ws' R' hw' => ?_⟩
      refine ⟨_, cs', st', ws', rfl, put_congr R' fun v => ?_, by omega⟩
      rw [List.take_add_one, hu]
      simp only [Option.toList_some, List.mem_append, List.mem_singleton]
      exact Or.comm
    · rintro σ H7 ⟨v, cs, st, ws, rfl, R, hw⟩
      rw [tw.len, List.take_length] at R
      rw [tw.len] at hw
      refine ⟨_, rfl, p, dx, _, rfl, R.hp, R.fl.connect, H0, p, dx, lc, ls, lf, lm, _, k, cs, st, ws, _, rfl, R, ?_, hk4, by omega, fun H8 mv st' s8 R8 M8 => q _ _ mv st' s8 R8 M8 (by omega)⟩
      have := fs5_len k lc ls lf lm
      omega
end
end K61

/-! recognizer, Recognizer.reachable. -/
namespace K61
open PySem PySem.Spec PyProof.Rows L2
section
variable {P : Program} {w : World} {K : PySem.W.Frag} {mg : Str → Option Value} {base : Heap}
abbrev sRecog : Stmt := top 29
def spRecog (K : PySem.W.Frag) (C : Addr) : Sp := fun vs H Q _ => ∃ (p : List Nat) (k m : Nat), vs = [.str (tx p), .int (k : Int), .int (m : Int)] ∧ p.length ≤ 8 ∧ p ≠ [] ∧ 1 ≤ k ∧ k ≤ 4 ∧ 1 ≤ m ∧ m ≤ 4 ∧ size p k m ≤ 4096 ∧
  ∀ (H' : Hp) (x : Addr) (n : Nat) (mv : List (List Nat)) (st : List Bool), Same H H' → Rec K C H' x k mv st → Mach k n mv st (Bl p k m) → n ≤ 100000 → Q (.ref x) H'
theorem sc_recog : FnScope ["pattern", "letters", "longest"] ["pattern", "letters", "longest"] (defScope sRecog) := ⟨rfl, rfl, rfl, by decide +kernel, rfl, by decide +kernel, by decide +kernel⟩
theorem ok_recog {f C fI : Addr} {fd fdI : FuncData} (F : Fun K "recognizer" "recognizer" sRecog f fd) (N : Nm mg) (T : RT K mg C) (M : Mk K C fI) (GI : FnOk P w K mg base CX0 2 fI fdI ["self", "some", "letters"] (spInit K C)) (bI : Binds K fdI ["self", "some", "letters"] [])
    (S : At P w K mg base "need_size" 2 ["pattern", "letters", "longest"] spNeedS) (B : At P w K mg base "blocked" 2 ["pattern", "letters", "longest"] (spBlocked K)) : FnOk P w K mg base CX0 4 f fd ["pattern", "letters", "longest"] (spRecog K C) := by
  refine F.ok sc_recog (fun vs H Q E h => ?_) (fun cdv A outer s H vs Q E hr h => ?_)
  · obtain ⟨p, k, m, rfl, _⟩ := h
    rfl
  · obtain ⟨p, k, m, rfl, hp, hne, k1, k4, m1, m4, hs, q⟩ := h
    refine ⟨_, pss_cons (ps_expr (pe_call S.ok (hr.mono (by decide)) (by rfl) S.m S.kp S.b .nil pass0 (pa_cons (pv 0) (pa_cons (pv 1) (pa_cons (pv 2) pa_nil)))))
      (pss_one (ps_ret (pe_make M GI hr (by rfl) T.mg bI .nil pass0 (pa_cons (pe_call B.ok (hr.mono (by decide)) (by rfl) B.m B.kp B.b .nil pass0 (pa_cons (pv 0) (pa_cons (pv 1) (pa_cons (pv 2) pa_nil)))) (pa_cons (pv 1) pa_nil))))), ?_⟩
    refine ⟨_, rfl, _, rfl, _, rfl, p, k, m, rfl, by omega, k1, k4, m1, m4, hs, fun H1 s1 => ?_⟩
    refine ⟨_, rfl, _, rfl, _, rfl, p, k, m, rfl, by omega, hne, k1, k4, m1, m4, hs, fun H2 l xs ws s2 hl h2 tw hmem hfew => ⟨_, rfl, ?_⟩⟩
    intro x dx nx ndx nex
    have s3 : Same H2 (upd (upd H2 dx (.own x)) x (.ins C dx [])) := fun b o e => by
      rw [upd_ne (ne_of_none e nx), upd_ne (ne_of_none e ndx)]
      exact e
    refine ⟨H2, x, dx, l, xs, ws, k, rfl, s3, nx, upd_same, SqL.of h2, tw, fun u hu => ?_, hfew, k4, fun H4 n mv st s4 R4 M4 hn => ⟨rfl, ?_⟩⟩
    · have hb := (hmem u).mp hu
      refine ⟨hb.over, ?_⟩
      have h1 := hb.len
      have h3 : m * p.length ≤ 4 * 8 := Nat.mul_le_mul m4 hp
      omega
    · have e : (fun v => v ∈ ws) = Bl p k m := funext fun v => propext (hmem v)
      rw [e] at M4
      exact q H4 x n mv st (s1.trans (s2.trans s4)) R4 M4 hn

/-! ### reachable -/
/-- the dict of what was met -/
def Seen (kvs : List (Key × V)) (R : List Nat) : Prop := kvs.length ≤ R.length ∧ ∀ s : Nat, valV kvs (.inl (s : Int)) = if s ∈ R then some (.bl true) else none
theorem Seen.add {kvs : List (Key × V)} {R : List Nat} (h : Seen kvs R) {t : Nat} : Seen (putK kvs (.inl (t : Int)) (.bl true)) (R ++ [t]) := by
  refine ⟨?_, fun s => ?_⟩
  · have := length_putK kvs (.inl (t : Int)) (.bl true)
    rw [List.length_append, List.length_singleton]
    have := h.1
    omega
  · rw [valV_put]
    by_cases e : s = t
    · subst e
      rw [if_pos rfl, if_pos (by simp)]
    · have n1 : ¬ ((.inl (s : Int) : Key) = .inl (t : Int)) := fun z => e (by have := Sum.inl.inj z; omega)
      rw [if_neg n1, h.2 s]
      by_cases m : s ∈ R
      · rw [if_pos m, if_pos (List.mem_append_left _ m)]
      · rw [if_neg m, if_neg (fun z => by
          rcases List.mem_append.mp z with z | z
          · exact m z
          · exact e (List.mem_singleton.mp z))]
def spReach (K : PySem.W.Frag) (C : Addr) : Sp := fun vs H Q _ => ∃ (p : Addr) (k n : Nat) (mv : List (List Nat)) (st : List Bool) (B : List Nat → Prop), vs = [.ref p] ∧ Rec K C H p k mv st ∧ Mach k n mv st B ∧ n ≤ 100000 ∧ k ≤ 4 ∧
  ∀ (H' : Hp) (l : Addr) (R : List Nat), Same H H' → H l = none → H' l = some (.lst (nv R)) → R.Nodup → 0 ∈ R → (∀ s ∈ R, s < n) → (∀ s ∈ R, ∀ e ∈ steps mv st s, e.2 ∈ R) → Q (.ref l) H'
theorem sc_reach : FnScope ["self", "found", "known", "at", "letter", "later"] ["self"] (defScope sReach) := ⟨rfl, rfl, rfl, by decide +kernel, rfl, by decide +kernel, by decide +kernel⟩
theorem ok_reach {f C : Addr} {fd : FuncData} (F : Fun K "reachable" "Recognizer.reachable" sReach f fd) (N : Nm mg) (T : RT K mg C) (S : Mt P w K mg base C "steps" 1 ["self", "state"] (spSteps K C)) : FnOk P w K mg base CX0 2 f fd ["self"] (spReach K C) := by
  refine F.ok sc_reach (fun vs H Q E h => ?_) (fun cdv A outer s H vs Q E hr h => ?_)
  · obtain ⟨p, _, _, _, _, _, rfl, _⟩ := h
    rfl
  · obtain ⟨p, k, n, mv, st, B, rfl, R, M, hn, hk4, q⟩ := h
    have hu := hu_of hr
    refine ⟨_, pss_cons (ps_par3 (i := 1) (j := 2) (l := 3) rfl sc_reach.nd rfl rfl rfl (by decide) (by decide) (by decide) rfl rfl rfl (pa_cons (pe_lst (pa_cons pe_int pa_nil)) (pa_cons (pe_disp (pps_cons pe_int pe_bl pps_nil) (by rfl) (by rfl) (fun z => by cases z) (by decide)) (pa_cons pe_int pa_nil))) (by rfl))
      (pss_cons (ps_while PassesOwn.never (pt_cmpR op_lt (pv 3) (pe_callB call_len_seq (by rfl) N.len PySem.boot_len (pa_cons (pv 1) pa_nil)) (nomark _))
        (pss_cons (ps_for PassesOwn.never rfl (pi_list (pe_meth (pv 0) T.cl S.m S.ok hr S.b .nil pass0 (pa_cons (pe_ix ix_list (pv 1) (pv 3) (fun _ _ => rfl)) pa_nil)))
            (pg_tup rfl (pgs_cons (pg_name (i := 4) sc_reach.nd rfl (Or.inl rfl)) (pgs_cons (pg_name (i := 5) sc_reach.nd rfl (Or.inl rfl)) pgs_nil)))
            (pss_one (ps_if (pt_cmp (pc_dnotin hu (pv 5) (pv 2)))
              (pss_cons (ps_dput hu (pv 2) (pv 5) pe_bl rfl) (pss_one (ps_expr (pe_bm PySem.F.plainAttrs_list PySem.F.slot_list_append PySem.F.type_list_append mt_append (pv 1) (pa_cons (pv 5) pa_nil))))) pss_nil)))
        (pss_one (ps_aug (i := 3) sc_reach.nd rfl (Or.inl rfl) pe_int iop_add))))
      (pss_one (ps_ret (pv 1)))), ?_⟩
    refine ⟨by show 1 ≤ sizeLine; decide, fun l hl d hd => ⟨upd_same, [(.inl (0 : Int), .bl true)], rfl, by decide, _, _, _, rfl, ?_⟩⟩
    have e0 : mergeK [] [((.inl (0 : Int) : Key), V.bl true)] = putK [] (.inl ((0 : Nat) : Int)) (.bl true) := rfl
    have hd0 : H d = none := (same_upd hl).free hd
    have nld : l ≠ d := ne_of_none upd_same hd
    have s0 : Same H (upd (upd (upd H l (.lst [.int 0])) d (.dK [])) d (.dK (putK [] (.inl ((0 : Nat) : Int)) (.bl true)))) := same_put (same_put (same_upd hl) hd0) hd0
    have l0 : (upd (upd (upd H l (.lst [.int 0])) d (.dK [])) d (.dK (putK [] (.inl ((0 : Nat) : Int)) (.bl true)))) l = some (.lst (nv [0])) := by
      rw [upd_ne nld, upd_ne nld, upd_same]
      rfl
    have d0 : (upd (upd (upd H l (.lst [.int 0])) d (.dK [])) d (.dK (putK [] (.inl ((0 : Nat) : Int)) (.bl true)))) d = some (.dK (putK [] (.inl ((0 : Nat) : Int)) (.bl true))) := upd_same
    have n0 : Seen (putK [] (.inl ((0 : Nat) : Int)) (.bl true)) [0] := Seen.add (R := []) ⟨Nat.le_refl _, fun s => by rw [if_neg (by simp)]; rfl⟩
    rw [e0]
    generalize upd (upd (upd H l (.lst [.int 0])) d (.dK [])) d (.dK (putK [] (.inl ((0 : Nat) : Int)) (.bl true))) = H1 at s0 l0 d0 ⊢
    refine ⟨fun μ σ H' => ∃ (i : Nat) (X : List Nat) (kvs : List (Key × V)) (v4 v5 : Option V), μ + i = n ∧ σ = [some (.ref p), some (.ref l), some (.ref d), some (.int (i : Int)), v4, v5] ∧ Same H H' ∧ H' l = some (.lst (nv X)) ∧ H' d = some (.dK kvs) ∧ Seen kvs X ∧ X.Nodup ∧ 0 ∈ X ∧ (∀ s ∈ X, s < n) ∧
      i ≤ X.length ∧ ∀ s ∈ X.take i, ∀ e ∈ steps mv st s, e.2 ∈ X, ⟨n, 0, [0], _, none, none, rfl, rfl, s0, l0, d0, n0, by simp, by simp, fun s hs => by rw [List.mem_singleton.mp hs]; exact M.pos, Nat.zero_le _, fun _ h => (by cases h)⟩, ?_⟩
    rintro μ σ H2 ⟨i, X, kvs, v4, v5, hμ, rfl, s2, hl2, hd2, hseen, hnd, h0, hlt, hi, hcl⟩
    have hXn := len_of_nd n X hnd hlt
    refine ⟨_, rfl, _, rfl, l, _, rfl, .inl (SqL.of hl2), _, _, rfl, rfl, _, rfl, ?_⟩
    by_cases hc : i < X.length
    · refine itC (decide_eq_true (by rw [nv_len]; omega)) ?_
      obtain ⟨t, ht⟩ := at_some hc
      have htn := hlt t (at_mem ht)
      refine ⟨fun σ' H' => ∃ (X : List Nat) (kvs : List (Key × V)) (v4 v5 : Option V), σ' = [some (.ref p), some (.ref l), some (.ref d), some (.int ((i + 1 : Nat) : Int)), v4, v5] ∧ Same H H' ∧ H' l = some (.lst (nv X)) ∧ H' d = some (.dK kvs) ∧ Seen kvs X ∧ X.Nodup ∧ 0 ∈ X ∧ (∀ s ∈ X, s < n) ∧
        i + 1 ≤ X.length ∧ ∀ s ∈ X.take (i + 1), ∀ e ∈ steps mv st s, e.2 ∈ X, fun σ' H' ⟨a1, a2, a3, a4, a5, a6⟩ => ⟨μ - 1, by omega, i + 1, a1, a2, a3, a4, by omega, a5, a6⟩, ?_⟩
      have R2 := R.same s2
      obtain ⟨dx, lc, ls, lf, lm, fs, rs, g1, g2, _⟩ := R2.all
      refine ⟨_, rfl, p, dx, fs, rfl, g1, g2.steps, _, rfl, _, rfl, l, _, _, _, rfl, rfl, SqL.of hl2, atI_nat (nv_at ht), p, t, k, n, mv, st, B, rfl, R2, M, htn, hk4, fun H3 b xs s3 hb hb3 pr => ⟨b, rfl, ⟨_, SqL.of hb3⟩, ?_⟩⟩
      have hl3 := s3 _ _ hl2
      have hd3 := s3 _ _ hd2
      have nbl : b ≠ l := (ne_of_none hl2 hb).symm
      have nbd : b ≠ d := (ne_of_none hd2 hb).symm
      have nld2 : l ≠ d := ne_of hl2 hd2 (by intro z; cases z)
      refine for_list (K := K) (a := b) (xs := xs) (fun j σ H' => ∃ (Y : List Nat) (kvs : List (Key × V)) (v4 v5 : Option V), σ = [some (.ref p), some (.ref l), some (.ref d), some (.int (i : Int)), v4, v5] ∧ Same H H' ∧ H' l = some (.lst (nv Y)) ∧ H' d = some (.dK kvs) ∧ H' b = some (.lst xs) ∧ Pr K H' xs (steps mv st t) ∧
          Seen kvs Y ∧ Y.Nodup ∧ (∀ s ∈ X, s ∈ Y) ∧ (∀ s ∈ Y, s < n) ∧ X.length ≤ Y.length ∧ Y.take (i + 1) = X.take (i + 1) ∧ ∀ (q : Nat) (e : Nat × Nat), q < j → (steps mv st t)[q]? = some e → e.2 ∈ Y)
        ⟨X, kvs, v4, v5, rfl, s2.trans s3, hl3, hd3, hb3, pr, hseen, hnd, fun _ h => h, hlt, Nat.le_refl _, rfl, fun _ _ h => absurd h (Nat.not_lt_zero _)⟩
        (fun j σ H' _ ⟨_, _, _, _, _, _, _, _, hb', _⟩ => SqL.of hb') ?_ ?_
      · rintro j x σ H4 hx ⟨Y, kv2, w4, w5, rfl, s4, hl4, hd4, hb4, pr4, hseen4, hnd4, hsub, hlt4, hlen4, htk, hcov⟩
        obtain ⟨tt, e, rfl, he, hT⟩ := pr4.get hx
        have hen : e.2 < n := M.later htn (at_mem he)
        have hYn := len_of_nd n Y hnd4 hlt4
        refine ⟨tt, _, rfl, hT, rfl, _, _, rfl, _, _, rfl, rfl, ?_⟩
        refine ⟨_, rfl, _, rfl, d, _, rfl, DGet.k (k := Sum.inl (e.2 : Int)) hd4, _, rfl, ?_⟩
        rw [hseen4.2 e.2]
        by_cases hm : e.2 ∈ Y
        · refine itN (by rw [if_pos hm]; rfl) ?_
          refine ⟨Y, kv2, _, _, rfl, s4, hl4, hd4, hb4, pr4, hseen4, hnd4, hsub, hlt4, hlen4, htk, fun q e' hq he' => ?_⟩
          by_cases cq : q < j
          · exact hcov q e' cq he'
          · have eq : q = j := by omega
            subst eq
            have : e' = e := Option.some.inj (he'.symm.trans he)
            rw [this]
            exact hm
        · refine itC (by rw [if_neg hm]; rfl) ?_
          have hz : kv2.length < sizeLine := len_lt (by have := hseen4.1; omega)
          refine ⟨_, rfl, _, rfl, d, _, rfl, DPut.k (k := Sum.inl (e.2 : Int)) hd4 hz, ?_⟩
          have hl5 : (upd H4 d (.dK (putK kv2 (.inl (e.2 : Int)) (.bl true)))) l = some (.lst (nv Y)) := by rw [upd_ne nld2]; exact hl4
          refine ⟨_, rfl, .inl ⟨rfl, _, SqL.of hl5⟩, _, rfl, l, _, _, rfl, rfl, hl5, len_lt (by rw [nv_len]; omega), ?_⟩
          refine ⟨Y ++ [e.2], _, _, _, rfl, same_put (same_put s4 hd0) hl, ?_, ?_, ?_, (pr4.updD hd4).upd hl5, hseen4.add, ?_, fun s hs => List.mem_append_left _ (hsub s hs), fun s hs => ?_, ?_, ?_, fun q e' hq he' => ?_⟩
          · rw [upd_same, nv_app]
            rfl
          · rw [upd_ne nld2.symm, upd_same]
          · rw [upd_ne nbl, upd_ne nbd]
            exact hb4
          · exact List.nodup_append.mpr ⟨hnd4, by simp, fun x hx y hy z => hm (by rw [List.mem_singleton.mp hy] at z; exact z ▸ hx)⟩
          · rcases List.mem_append.mp hs with z | z
            · exact hlt4 s z
            · rw [List.mem_singleton.mp z]
              exact hen
          · rw [List.length_append]
            omega
          · rw [List.take_append_of_le_length (by omega)]
            exact htk
          · by_cases cq : q < j
            · exact List.mem_append_left _ (hcov q e' cq he')
            · have eq : q = j := by omega
              subst eq
              have : e' = e := Option.some.inj (he'.symm.trans he)
              rw [this]
              simp
      · rintro σ H4 ⟨Y, kv2, w4, w5, rfl, s4, hl4, hd4, hb4, pr4, hseen4, hnd4, hsub, hlt4, hlen4, htk, hcov⟩
        refine ⟨_, rfl, _, _, rfl, rfl, ?_⟩
        refine ⟨Y, kv2, _, _, rfl, s4, hl4, hd4, hseen4, hnd4, hsub 0 h0, hlt4, by omega, fun s hs e he => ?_⟩
        rw [htk, take_succ_at ht] at hs
        rcases List.mem_append.mp hs with z | z
        · exact hsub _ (hcl s z e he)
        · rw [List.mem_singleton.mp z] at he
          obtain ⟨q, hq⟩ := mem_at he
          exact hcov q e (by rw [pr4.len]; exact at_lt hq) hq
    · refine itN (decide_eq_false (by rw [nv_len]; omega)) ⟨_, rfl, q _ l X s2 hl hl2 hnd h0 hlt ?_⟩
      have e : X.take i = X := List.take_of_length_le (by omega)
      rw [e] at hcl
      exact hcl
end
end K61

/-! count_open. -/
namespace K61
open PySem PySem.Spec PyProof.Rows L2

/-! ### dicts from states to numbers -/
def kvOf (cs : List (Nat × Nat)) : List (Key × V) := cs.map fun e => (.inl (e.1 : Int), .int (e.2 : Int))
theorem key_nat {a b : Nat} : ((.inl (a : Int) : Key) = .inl (b : Int)) ↔ a = b := by
  constructor
  · intro h
    have := Sum.inl.inj h
    omega
  · intro h
    rw [h]
/-- m more at s -/
def bump (s m : Nat) : List (Nat × Nat) → List (Nat × Nat)
  | [] => [(s, m)]
  | e :: r => if e.1 = s then (e.1, e.2 + m) :: r else e :: bump s m r
/-- what stands at s -/
def look (s : Nat) : List (Nat × Nat) → Nat
  | [] => 0
  | e :: r => if e.1 = s then e.2 else look s r
theorem val_kvOf (s : Nat) : ∀ cs : List (Nat × Nat), valV (kvOf cs) (.inl (s : Int)) = if s ∈ cs.map (·.1) then some (.int (look s cs : Nat)) else none
  | [] => rfl
  | e :: r => by
    have ih := val_kvOf s r
    by_cases c : e.1 = s
    · have h1 : valV (kvOf (e :: r)) (.inl (s : Int)) = some (.int (e.2 : Int)) := by
        unfold valV kvOf
        rw [List.map_cons, List.find?_cons, decide_eq_true (key_nat.mpr c)]
        rfl
      have h2 : look s (e :: r) = e.2 := if_pos c
      rw [h1, if_pos (by rw [List.map_cons, c]; exact List.mem_cons_self), h2]
    · have h1 : valV (kvOf (e :: r)) (.inl (s : Int)) = valV (kvOf r) (.inl (s : Int)) := by
        unfold valV kvOf
        rw [List.map_cons, List.find?_cons, decide_eq_false (fun z => c (key_nat.mp z))]
      have h2 : look s (e :: r) = look s r := if_neg c
      rw [h1, ih, h2, List.map_cons]
      by_cases m : s ∈ r.map (·.1)
      · rw [if_pos m, if_pos (List.mem_cons_of_mem _ m)]
      · rw [if_neg m, if_neg (fun z => (List.mem_cons.mp z).elim (fun e => c e.symm) m)]
theorem bump_keys (s m x : Nat) : ∀ cs : List (Nat × Nat), x ∈ (bump s m cs).map (·.1) ↔ x = s ∨ x ∈ cs.map (·.1)
  | [] => by simp [bump]
  | e :: r => by
    have ih := bump_keys s m x r
    unfold bump
    by_cases c : e.1 = s
    · rw [if_pos c, List.map_cons, List.map_cons, List.mem_cons]
      constructor
      · exact .inr
      · rintro (z | z)
        · exact .inl (z.trans c.symm)
        · exact z
    · rw [if_neg c, List.map_cons, List.map_cons, List.mem_cons, List.mem_cons, ih]
      constructor
      · rintro (z | z | z)
        · exact .inr (.inl z)
        · exact .inl z
        · exact .inr (.inr z)
      · rintro (z | z | z)
        · exact .inr (.inl z)
        · exact .inl z
        · exact .inr (.inr z)
theorem bump_nd (s m : Nat) : ∀ cs : List (Nat × Nat), (cs.map (·.1)).Nodup → ((bump s m cs).map (·.1)).Nodup
  | [], _ => by simp [bump]
  | e :: r, h => by
    rw [List.map_cons, List.nodup_cons] at h
    have ih := bump_nd s m r h.2
    unfold bump
    by_cases c : e.1 = s
    · rw [if_pos c, List.map_cons, List.nodup_cons]
      exact h
    · rw [if_neg c, List.map_cons, List.nodup_cons]
      refine ⟨fun z => ?_, ih⟩
      rcases (bump_keys s m e.1 r).mp z with z | z
      · exact c z
      · exact h.1 z
theorem put_skip {x : Key} {v : V} : ∀ {kvs : List (Key × V)}, (∀ kv ∈ kvs, kv.1 ≠ x) → kvs.map (fun kv => if kv.1 = x then (kv.1, v) else kv) = kvs
  | [], _ => rfl
  | kv :: kvs, h => by
    rw [List.map_cons, if_neg (h kv List.mem_cons_self), put_skip fun a ha => h a (List.mem_cons_of_mem _ ha)]
theorem put_same {x : Key} {v w : V} {kvs : List (Key × V)} (h : ∀ kv ∈ kvs, kv.1 ≠ x) : putK ((x, w) :: kvs) x v = (x, v) :: kvs := by
  unfold putK
  rw [if_pos (by simp), List.map_cons, if_pos rfl, put_skip h]
theorem put_other {x y : Key} {v w : V} {kvs : List (Key × V)} (h : y ≠ x) : putK ((y, w) :: kvs) x v = (y, w) :: putK kvs x v := by
  unfold putK
  rw [List.any_cons, decide_eq_false h, Bool.false_or]
  by_cases c : (kvs.any fun kv => decide (kv.1 = x)) = true
  · rw [if_pos c, if_pos c, List.map_cons, if_neg h]
  · rw [if_neg c, if_neg c]
    rfl
theorem put_kvOf (s m : Nat) : ∀ cs : List (Nat × Nat), (cs.map (·.1)).Nodup → putK (kvOf cs) (.inl (s : Int)) (.int ((look s cs + m : Nat) : Int)) = kvOf (bump s m cs)
  | [], _ => by
    show [((.inl (s : Int) : Key), V.int ((0 + m : Nat) : Int))] = [(.inl (s : Int), .int (m : Int))]
    rw [Nat.zero_add]
  | e :: r, h => by
    rw [List.map_cons, List.nodup_cons] at h
    have ih := put_kvOf s m r h.2
    by_cases c : e.1 = s
    · have h1 : look s (e :: r) = e.2 := if_pos c
      have h2 : bump s m (e :: r) = (e.1, e.2 + m) :: r := if_pos c
      rw [h1, h2]
      subst c
      refine put_same fun kv hkv z => ?_
      obtain ⟨a, ha, rfl⟩ := List.mem_map.mp hkv
      have : a.1 = e.1 := key_nat.mp z
      exact h.1 (List.mem_map.mpr ⟨a, ha, this⟩)
    · have h1 : look s (e :: r) = look s r := if_neg c
      have h2 : bump s m (e :: r) = e :: bump s m r := if_neg c
      rw [h1, h2]
      show putK ((.inl (e.1 : Int), .int (e.2 : Int)) :: kvOf r) _ _ = _
      rw [put_other (fun z => c (key_nat.mp z)), ih]
      rfl
theorem look_none {s : Nat} : ∀ {cs : List (Nat × Nat)}, s ∉ cs.map (·.1) → look s cs = 0
  | [], _ => rfl
  | e :: r, h => by
    rw [List.map_cons] at h
    have h1 : ¬ e.1 = s := fun z => h (z ▸ List.mem_cons_self)
    show (if e.1 = s then e.2 else look s r) = 0
    rw [if_neg h1]
    exact look_none fun z => h (List.mem_cons_of_mem _ z)
theorem val_getD (s : Nat) (cs : List (Nat × Nat)) : (valV (kvOf cs) (.inl (s : Int))).getD (.int 0) = .int (look s cs : Nat) := by
  rw [val_kvOf]
  by_cases m : s ∈ cs.map (·.1)
  · rw [if_pos m]
    rfl
  · rw [if_neg m, look_none m]
    rfl
def wsum (f : Nat → Nat) (cs : List (Nat × Nat)) : Nat := (cs.map fun e => e.2 * f e.1).sum
theorem wsum_bump (f : Nat → Nat) (s m : Nat) : ∀ cs : List (Nat × Nat), wsum f (bump s m cs) = wsum f cs + m * f s
  | [] => by
    show m * f s + 0 = 0 + m * f s
    omega
  | e :: r => by
    have ih := wsum_bump f s m r
    unfold bump
    by_cases c : e.1 = s
    · rw [if_pos c]
      show (e.2 + m) * f e.1 + wsum f r = e.2 * f e.1 + wsum f r + m * f s
      rw [c, Nat.add_mul]
      omega
    · rw [if_neg c]
      show e.2 * f e.1 + wsum f (bump s m r) = e.2 * f e.1 + wsum f r + m * f s
      rw [ih]
      omega
theorem wsum_one (cs : List (Nat × Nat)) : wsum (fun _ => 1) cs = (cs.map (·.2)).sum := by
  unfold wsum
  congr 1
  exact List.map_congr_left fun e _ => Nat.mul_one _
theorem sum_int (l : List Nat) : (l.map fun (a : Nat) => (a : Int)).sum = (l.sum : Nat) := by
  induction l with
  | nil => rfl
  | cons a l ih =>
    rw [List.map_cons, List.sum_cons, ih, List.sum_cons]
    omega
/-- a table of counts of states below n -/
structure Tab (n : Nat) (cs : List (Nat × Nat)) : Prop where
  nd : (cs.map (·.1)).Nodup
  lt : ∀ e ∈ cs, e.1 < n
theorem Tab.len {n : Nat} {cs : List (Nat × Nat)} (T : Tab n cs) : cs.length ≤ n := by
  have h := len_of_nd n _ T.nd fun x hx => by
    obtain ⟨e, he, rfl⟩ := List.mem_map.mp hx
    exact T.lt e he
  rwa [List.length_map] at h
theorem Tab.bump {n : Nat} {cs : List (Nat × Nat)} (T : Tab n cs) {s m : Nat} (hs : s < n) : Tab n (K61.bump s m cs) := by
  refine ⟨bump_nd s m cs T.nd, fun e he => ?_⟩
  rcases (bump_keys s m e.1 cs).mp (List.mem_map.mpr ⟨e, he, rfl⟩) with z | z
  · omega
  · obtain ⟨a, ha, h⟩ := List.mem_map.mp z
    rw [← h]
    exact T.lt a ha
theorem Rec.aside {K : PySem.W.Frag} {C : Addr} {H : Hp} {p : Addr} {k : Nat} {mv : List (List Nat)} {st : List Bool} {d : Addr} {u : HO} (R : Rec K C H p k mv st) (hd : H d = some u) (n1 : ∀ C dx fs, HO.ins C dx fs ≠ u) (n2 : ∀ xs, HO.lst xs ≠ u) (o : HO) : Rec K C (upd H d o) p k mv st := by
  obtain ⟨dx, lc, ls, lf, lm, fs, rs, h1, h2, h3, h4, h5, h6⟩ := R.all
  refine ⟨dx, lc, ls, lf, lm, fs, rs, ?_, h2, ?_, ?_, h5, fun t r hr => ?_⟩
  · rw [upd_ne (ne_of h1 hd (n1 _ _ _))]; exact h1
  · rw [upd_ne (ne_of h3 hd (n2 _))]; exact h3
  · rw [upd_ne (ne_of h4 hd (n2 _))]; exact h4
  · obtain ⟨row, a, b⟩ := h6 t r hr
    exact ⟨row, a, by rw [upd_ne (ne_of b hd (n2 _))]; exact b⟩
theorem Rec.off {K : PySem.W.Frag} {C : Addr} {H : Hp} {p : Addr} {k : Nat} {mv : List (List Nat)} {st : List Bool} {d : Addr} {kvs : List (Key × V)} (R : Rec K C H p k mv st) (hd : H d = some (.dK kvs)) (o : HO) : Rec K C (upd H d o) p k mv st :=
  R.aside hd (fun _ _ _ z => by cases z) (fun _ z => by cases z) o
theorem Rec.offF {K : PySem.W.Frag} {C : Addr} {H : Hp} {p : Addr} {k : Nat} {mv : List (List Nat)} {st : List Bool} {d : Addr} {od : Obj} {kvs : List (Key × V)} (R : Rec K C H p k mv st) (hd : H d = some (.frz od (.dK kvs))) (o : HO) : Rec K C (upd H d o) p k mv st :=
  R.aside hd (fun _ _ _ z => by cases z) (fun _ z => by cases z) o

section
variable {P : Program} {w : World} {K : PySem.W.Frag} {mg : Str → Option Value} {base : Heap}
abbrev sCount : Stmt := top 30
def spCount (K : PySem.W.Frag) : Sp := fun vs H Q _ => ∃ (p : List Nat) (k m t : Nat), vs = [.str (tx p), .int (k : Int), .int (m : Int), .int (t : Int)] ∧ PatOk p ∧ p.length ≤ 8 ∧ p ≠ [] ∧ 1 ≤ k ∧ k ≤ 4 ∧ 1 ≤ m ∧ m ≤ 4 ∧ size p k m ≤ 4096 ∧ t ≤ 200 ∧
  ∀ H' : Hp, Same H H' → Q (.int (num k (Bl p k m) t : Nat)) H'
theorem sc_count : FnScope ["pattern", "letters", "longest", "length", "machine", "counts", "index", "later_counts", "state", "many", "letter", "later"] ["pattern", "letters", "longest", "length"] (defScope sCount) := ⟨rfl, rfl, rfl, by decide +kernel, rfl, by decide +kernel, by decide +kernel⟩
theorem ok_count {f C : Addr} {fd : FuncData} (F : Fun K "count_open" "count_open" sCount f fd) (N : Nm mg) (T : RT K mg C) (NB : At P w K mg base "need_bounds" 4 ["pattern", "letters", "longest"] spNeedB) (NC : At P w K mg base "need_count" 3 ["value", "low", "high"] spNeedC)
    (RG : At P w K mg base "recognizer" 4 ["pattern", "letters", "longest"] (spRecog K C)) (S : Mt P w K mg base C "steps" 1 ["self", "state"] (spSteps K C)) : FnOk P w K mg base CX0 5 f fd ["pattern", "letters", "longest", "length"] (spCount K) := by
  refine F.ok sc_count (fun vs H Q E h => ?_) (fun cdv A outer s H vs Q E hr h => ?_)
  · obtain ⟨p, k, m, t, rfl, _⟩ := h
    rfl
  · obtain ⟨p, k, m, t, rfl, hpo, hp8, hne, k1, k4, m1, m4, hs, ht, q⟩ := h
    have hu := hu_of hr
    obtain ⟨tl, gl⟩ := N.mLen
    refine ⟨_, pss_cons (ps_expr (pe_call NB.ok hr (by rfl) NB.m NB.kp NB.b .nil pass0 (pa_cons (pv 0) (pa_cons (pv 1) (pa_cons (pv 2) pa_nil)))))
      (pss_cons (ps_expr (pe_call NC.ok (hr.mono (by decide)) (by rfl) NC.m NC.kp NC.b .nil pass0 (pa_cons (pv 3) (pa_cons pe_int (pa_cons (pe_glob (v := .int 200) (by rfl) gl ⟨_, rfl⟩) pa_nil)))))
      (pss_cons (ps_par rfl sc_count.nd (i := 4) (j := 5) rfl rfl (by decide) rfl rfl (pa_cons (pe_call RG.ok hr (by rfl) RG.m RG.kp RG.b .nil pass0 (pa_cons (pv 0) (pa_cons (pv 1) (pa_cons (pv 2) pa_nil)))) (pa_cons (pe_disp (pps_cons pe_int pe_int pps_nil) (by rfl) (by rfl) (fun z => by cases z) (by decide)) pa_nil)) (by rfl))
      (pss_cons (ps_for PassesOwn.never rfl (pi_range1 (by rfl) N.range (pa_cons (pv 3) pa_nil)) (pg_name (i := 6) sc_count.nd rfl (Or.inl rfl))
        (pss_cons (ps_set (i := 7) sc_count.nd rfl (Or.inl rfl) pe_dnewK)
        (pss_cons (ps_lock (ps_for PassesOwn.never rfl (pi_items (pv 5)) (pg_tup rfl (pgs_cons (pg_name (i := 8) sc_count.nd rfl (Or.inl rfl)) (pgs_cons (pg_name (i := 9) sc_count.nd rfl (Or.inl rfl)) pgs_nil)))
          (pss_one (ps_for PassesOwn.never rfl (pi_list (pe_meth (pv 4) T.cl S.m S.ok (hr.mono (by decide)) S.b .nil pass0 (pa_cons (pv 8) pa_nil))) (pg_tup rfl (pgs_cons (pg_name (i := 10) sc_count.nd rfl (Or.inl rfl)) (pgs_cons (pg_name (i := 11) sc_count.nd rfl (Or.inl rfl)) pgs_nil)))
            (pss_one (ps_dput hu (pv 7) (pv 11) (pe_op op_add (pe_dget2 hu (pv 7) (pv 11) pe_int ⟨rfl, rfl, rfl, rfl⟩) (pv 9)) rfl))))))
        (pss_one (ps_set (i := 5) sc_count.nd rfl (Or.inl rfl) (pv 7))))))
      (pss_one (ps_ret (pe_sumVals rfl (by rfl) N.sum (pv 5))))))), ?_⟩
    refine ⟨_, rfl, _, rfl, _, rfl, p, k, m, rfl, hpo, hne, k1, k4, m1, m4, fun H1 s1 => ?_⟩
    refine ⟨_, rfl, _, _, _, rfl, by omega, by omega, ?_⟩
    refine ⟨_, rfl, _, rfl, _, rfl, p, k, m, rfl, hp8, hne, k1, k4, m1, m4, hs, fun H2 x n mv st s2 R2 M hn d0 hd0 => ⟨upd_same, [(.inl (0 : Int), .int 1)], rfl, by decide, _, _, rfl, ?_⟩⟩
    have e0 : mergeK [] [((.inl (0 : Int) : Key), V.int 1)] = kvOf [(0, 1)] := rfl
    rw [e0]
    have s12 := s1.trans s2
    have hd0H : H d0 = none := s12.free hd0
    have s3 : Same H (upd (upd H2 d0 (.dK [])) d0 (.dK (kvOf [(0, 1)]))) := same_put (same_put s12 hd0H) hd0H
    have R3 : Rec K C (upd (upd H2 d0 (.dK [])) d0 (.dK (kvOf [(0, 1)]))) x k mv st := (R2.same (same_upd (o := .dK []) hd0)).off upd_same _
    have d3 : (upd (upd H2 d0 (.dK [])) d0 (.dK (kvOf [(0, 1)]))) d0 = some (.dK (kvOf [(0, 1)])) := upd_same
    generalize upd (upd H2 d0 (.dK [])) d0 (.dK (kvOf [(0, 1)])) = H3 at s3 R3 d3 ⊢
    have hB : ¬ Bl p k m [] := Bl.ne_nil hne
    refine ⟨_, rfl, (t : Int), rfl, by omega, by omega, ?_⟩
    refine for_it walk_range (fun i σ H' => ∃ (d : Addr) (cs : List (Nat × Nat)) (v6 v7 v8 v9 v10 v11 : Option V), σ = [some (.str (tx p)), some (.int (k : Int)), some (.int (m : Int)), some (.int (t : Int)), some (.ref x), some (.ref d), v6, v7, v8, v9, v10, v11] ∧ Same H H' ∧ Rec K C H' x k mv st ∧
        H d = none ∧ H' d = some (.dK (kvOf cs)) ∧ Tab n cs ∧ wsum (pth mv st (t - i)) cs = pth mv st t 0)
      ⟨d0, [(0, 1)], none, none, none, none, none, none, rfl, s3, R3, hd0H, d3, ⟨by simp, fun e he => by rw [List.mem_singleton.mp he]; exact M.pos⟩, by show 1 * pth mv st (t - 0) 0 + 0 = _; rw [Nat.one_mul, Nat.sub_zero, Nat.add_zero]⟩ (fun _ _ _ _ _ => trivial) ?_ ?_
    · rintro i y σ H4 H5 hi ⟨d, cs, v6, v7, v8, v9, v10, v11, rfl, s5, R5, hdH, hd5, TB, hsum⟩ ⟨rfl, rfl⟩
      have hit : i < t := by
        have : (t : Int).toNat = t := Int.toNat_natCast t
        omega
      obtain ⟨r, hr1⟩ : ∃ r, t - i = r + 1 := ⟨t - i - 1, by omega⟩
      have hr2 : t - (i + 1) = r := by omega
      rw [hr1] at hsum
      intro d2 hd2
      have hd2H : H d2 = none := s5.free hd2
      have ndd : d ≠ d2 := ne_of_none hd5 hd2
      have hd6 : (upd H5 d2 (.dK [])) d = some (.dK (kvOf cs)) := by rw [upd_ne ndd]; exact hd5
      have s6 : Same H (upd H5 d2 (.dK [])) := same_put s5 hd2H
      have R6 := R5.same (same_upd (o := .dK []) hd2)
      refine ⟨d, .dK (kvOf cs), hd6, trivial, fun od => ?_⟩
      have s7 : Same H (upd (upd H5 d2 (.dK [])) d (.frz od (.dK (kvOf cs)))) := same_put s6 hdH
      have R7 := R6.off hd6 (.frz od (.dK (kvOf cs)))
      have h27 : (upd (upd H5 d2 (.dK [])) d (.frz od (.dK (kvOf cs)))) d2 = some (.dK (kvOf [])) := by rw [upd_ne ndd.symm, upd_same]; rfl
      refine ⟨_, rfl, d, od, kvOf cs, rfl, upd_same, ?_⟩
      refine for_it walk_items (fun j σ H' => ∃ (c2 : List (Nat × Nat)) (v8 v9 v10 v11 : Option V), σ = [some (.str (tx p)), some (.int (k : Int)), some (.int (m : Int)), some (.int (t : Int)), some (.ref x), some (.ref d), some (.int ((0 : Int) + (i : Nat))), some (.ref d2), v8, v9, v10, v11] ∧ Same H H' ∧ Rec K C H' x k mv st ∧
          H' d = some (.frz od (.dK (kvOf cs))) ∧ H' d2 = some (.dK (kvOf c2)) ∧ Tab n c2 ∧ wsum (pth mv st r) c2 = wsum (pth mv st (r + 1)) (cs.take j))
        ⟨[], v8, v9, v10, v11, rfl, s7, R7, upd_same, h27, ⟨by simp, fun e he => by cases he⟩, rfl⟩ (fun j σ H' _ ⟨_, _, _, _, _, _, _, _, hf, _⟩ => hf) ?_ ?_
      · rintro j y σ H6 H7 hj ⟨c2, w8, w9, w10, w11, rfl, s8, R8, hf8, hd8, TB8, hs8⟩ ⟨TT, y1, y2, rfl, hTT, rfl, ey1, ey2⟩
        have hjl : j < cs.length := by
          unfold kvOf at hj
          rwa [List.length_map] at hj
        obtain ⟨e, he⟩ := at_some hjl
        have hke : (kvOf cs)[j]? = some (.inl (e.1 : Int), .int (e.2 : Int)) := by
          unfold kvOf
          rw [List.getElem?_map, he]
          rfl
        have ey1' : y1 = .int (e.1 : Int) := by
          have z : ((kvOf cs)[j]?).map (fun kv => kV kv.1) = some y1 := ey1
          rw [hke] at z
          exact (Option.some.inj z).symm
        have ey2' : y2 = .int (e.2 : Int) := by
          have z : ((kvOf cs)[j]?).map Prod.snd = some y2 := ey2
          rw [hke] at z
          exact (Option.some.inj z).symm
        subst ey1' ey2'
        have hen := TB.lt e (at_mem he)
        have s9 : Same H6 (upd H6 TT (.tup [.int (e.1 : Int), .int (e.2 : Int)])) := same_upd hTT
        refine ⟨TT, _, rfl, SqT.of upd_same, rfl, _, _, rfl, _, _, rfl, rfl, ?_⟩
        have R9 := R8.same s9
        have hf9 := s9 _ _ hf8
        have hd9 := s9 _ _ hd8
        have s89 := s8.trans s9
        generalize upd H6 TT (.tup [.int (e.1 : Int), .int (e.2 : Int)]) = H8 at R9 hf9 hd9 s89 ⊢
        obtain ⟨dx, lc, ls, lf, lm, fs, rs, g1, g2, _⟩ := R9.all
        refine ⟨_, rfl, x, dx, fs, rfl, g1, g2.steps, _, rfl, x, e.1, k, n, mv, st, Bl p k m, rfl, R9, M, hen, k4, fun H9 b xs s10 hb hb9 pr => ⟨b, rfl, ⟨_, SqL.of hb9⟩, ?_⟩⟩
        have nb2 : b ≠ d2 := (ne_of_none hd9 hb).symm
        refine for_list (K := K) (a := b) (xs := xs) (fun q σ H' => ∃ (c3 : List (Nat × Nat)) (v10 v11 : Option V), σ = [some (.str (tx p)), some (.int (k : Int)), some (.int (m : Int)), some (.int (t : Int)), some (.ref x), some (.ref d), some (.int ((0 : Int) + (i : Nat))), some (.ref d2), some (.int (e.1 : Int)), some (.int (e.2 : Int)), v10, v11] ∧ Same H H' ∧ Rec K C H' x k mv st ∧
            H' d = some (.frz od (.dK (kvOf cs))) ∧ H' d2 = some (.dK (kvOf c3)) ∧ H' b = some (.lst xs) ∧ Pr K H' xs (steps mv st e.1) ∧ Tab n c3 ∧ wsum (pth mv st r) c3 = wsum (pth mv st r) c2 + e.2 * (((steps mv st e.1).take q).map fun a => pth mv st r a.2).sum)
          ⟨c2, w10, w11, rfl, s89.trans s10, R9.same s10, s10 _ _ hf9, s10 _ _ hd9, hb9, pr, TB8, by simp⟩ (fun q σ H' _ ⟨_, _, _, _, _, _, _, _, hb', _⟩ => SqL.of hb') ?_ ?_
        · rintro q y σ H10 hy ⟨c3, u10, u11, rfl, s11, R11, hf11, hd11, hb11, pr11, TB11, hs11⟩
          obtain ⟨tt, a, rfl, ha, hT⟩ := pr11.get hy
          have han : a.2 < n := M.later hen (at_mem ha)
          refine ⟨tt, _, rfl, hT, rfl, _, _, rfl, _, _, rfl, rfl, ?_⟩
          refine ⟨_, rfl, d2, rfl, .inl ⟨_, .inl hd11⟩, _, rfl, _, DGet.k (k := Sum.inl (a.2 : Int)) hd11, _, rfl, _, _, val_getD a.2 c3, rfl, ?_⟩
          have hz : (kvOf c3).length < sizeLine := len_lt (by unfold kvOf; rw [List.length_map]; have := TB11.len; omega)
          refine ⟨_, rfl, _, rfl, d2, _, rfl, DPut.k (k := Sum.inl (a.2 : Int)) hd11 hz, ?_⟩
          have ep : putK (kvOf c3) (.inl (a.2 : Int)) (.int (((look a.2 c3 : Nat) : Int) + (e.2 : Int))) = kvOf (bump a.2 e.2 c3) := by
            rw [← put_kvOf a.2 e.2 c3 TB11.nd, Int.natCast_add]
          refine ⟨bump a.2 e.2 c3, _, _, rfl, same_put s11 hd2H, R11.off hd11 _, ?_, ?_, ?_, pr11.updD hd11, TB11.bump han, ?_⟩
          · rw [upd_ne ndd]
            exact hf11
          · rw [upd_same]
            exact congrArg (fun z => some (HO.dK z)) ep
          · rw [upd_ne nb2]
            exact hb11
          · rw [wsum_bump, hs11, List.take_add_one, ha, List.map_append, List.sum_append, Nat.mul_add]
            simp only [Option.toList_some, List.map_cons, List.map_nil, List.sum_cons, List.sum_nil, Nat.add_zero]
            omega
        · rintro σ H10 ⟨c3, u10, u11, rfl, s11, R11, hf11, hd11, hb11, pr11, TB11, hs11⟩
          rw [pr11.len, List.take_length] at hs11
          refine ⟨c3, _, _, _, _, rfl, s11, R11, hf11, hd11, TB11, ?_⟩
          rw [hs11, hs8, List.take_add_one, he]
          unfold wsum
          rw [List.map_append, List.sum_append]
          simp only [Option.toList_some, List.map_cons, List.map_nil, List.sum_cons, List.sum_nil, Nat.add_zero]
          rfl
      · rintro σ H6 ⟨c2, w8, w9, w10, w11, rfl, s8, R8, hf8, hd8, TB8, hs8⟩
        have hl : (kvOf cs).length = cs.length := List.length_map _
        rw [hl, List.take_length] at hs8
        refine ⟨hf8, _, rfl, d2, c2, _, _, _, _, _, _, rfl, same_put s8 hdH, ?_, hd2H, ?_, TB8, ?_⟩
        · exact R8.offF hf8 _
        · rw [upd_ne ndd.symm]
          exact hd8
        · rw [hr2, hs8]
          exact hsum
    · rintro σ H4 ⟨d, cs, v6, v7, v8, v9, v10, v11, rfl, s5, R5, hdH, hd5, TB, hsum⟩
      have e1 : (t : Int).toNat = t := Int.toNat_natCast t
      rw [e1, Nat.sub_self] at hsum
      refine ⟨_, rfl, d, kvOf cs, (cs.map (·.2)).map (fun (a : Nat) => (a : Int)), rfl, hd5, ?_, ?_⟩
      · unfold kvOf
        rw [List.map_map, List.map_map, List.map_map]
        rfl
      · rw [sum_int, ← wsum_one]
        have e2 : wsum (fun _ => 1) cs = pth mv st t 0 := hsum
        rw [e2, M.pth_num hB]
        exact q _ s5
end
end K61

/-! heights: dicts over a list of states; the first loop. -/
namespace K61
open PySem PySem.Spec PyProof.Rows L2

/-- a dict with the keys L, in this order -/
def kvG (L : List Nat) (g : Nat → V) : List (Key × V) := L.map fun (s : Nat) => (.inl (s : Int), g s)
theorem kvG_len (L : List Nat) (g : Nat → V) : (kvG L g).length = L.length := List.length_map _
theorem kvG_congr {L : List Nat} {g h : Nat → V} (e : ∀ s ∈ L, g s = h s) : kvG L g = kvG L h := List.map_congr_left fun s hs => by rw [e s hs]
theorem val_kvG (s : Nat) (g : Nat → V) : ∀ L : List Nat, valV (kvG L g) (.inl (s : Int)) = if s ∈ L then some (g s) else none
  | [] => rfl
  | t :: L => by
    have ih := val_kvG s g L
    by_cases c : t = s
    · subst c
      have h1 : valV (kvG (t :: L) g) (.inl (t : Int)) = some (g t) := by
        unfold valV kvG
        rw [List.map_cons, List.find?_cons, decide_eq_true rfl]
        rfl
      rw [h1, if_pos List.mem_cons_self]
    · have h1 : valV (kvG (t :: L) g) (.inl (s : Int)) = valV (kvG L g) (.inl (s : Int)) := by
        unfold valV kvG
        rw [List.map_cons, List.find?_cons, decide_eq_false (fun z => c (key_nat.mp z))]
      rw [h1, ih]
      by_cases m : s ∈ L
      · rw [if_pos m, if_pos (List.mem_cons_of_mem _ m)]
      · rw [if_neg m, if_neg (fun z => (List.mem_cons.mp z).elim (fun e => c e.symm) m)]
theorem val_in {s : Nat} {g : Nat → V} {L : List Nat} (h : s ∈ L) : valV (kvG L g) (.inl (s : Int)) = some (g s) := by
  rw [val_kvG, if_pos h]
theorem kvG_any (s : Nat) (g : Nat → V) (L : List Nat) : ((kvG L g).any fun kv => decide (kv.1 = (.inl (s : Int) : Key))) = true ↔ s ∈ L := by
  rw [List.any_eq_true]
  constructor
  · rintro ⟨kv, h1, h2⟩
    obtain ⟨t, ht, rfl⟩ := List.mem_map.mp h1
    have : t = s := key_nat.mp (of_decide_eq_true h2)
    rw [← this]
    exact ht
  · intro h
    exact ⟨_, List.mem_map.mpr ⟨s, h, rfl⟩, decide_eq_true rfl⟩
theorem put_old {s : Nat} {g : Nat → V} {L : List Nat} (h : s ∈ L) (v : V) : putK (kvG L g) (.inl (s : Int)) v = kvG L (fun (t : Nat) => if t = s then v else g t) := by
  unfold putK
  rw [if_pos ((kvG_any s g L).mpr h)]
  unfold kvG
  rw [List.map_map]
  refine List.map_congr_left fun t _ => ?_
  show (if ((.inl (t : Int) : Key) = .inl (s : Int)) then ((.inl (t : Int) : Key), v) else (.inl (t : Int), g t)) = (.inl (t : Int), if t = s then v else g t)
  by_cases c : t = s
  · rw [if_pos (key_nat.mpr c), if_pos c]
  · rw [if_neg (fun z => c (key_nat.mp z)), if_neg c]
theorem put_new {s : Nat} {g : Nat → V} {L : List Nat} (h : s ∉ L) (v : V) : putK (kvG L g) (.inl (s : Int)) v = kvG (L ++ [s]) (fun (t : Nat) => if t = s then v else g t) := by
  unfold putK
  rw [if_neg (fun z => h ((kvG_any s g L).mp z))]
  unfold kvG
  rw [List.map_append]
  congr 1
  · refine List.map_congr_left fun t ht => ?_
    show (Sum.inl (t : Int), g t) = (Sum.inl (t : Int), if t = s then v else g t)
    rw [if_neg (fun (z : t = s) => h (z ▸ ht))]
  · show _ = [((.inl (s : Int) : Key), if s = s then v else g s)]
    rw [if_pos rfl]

/-- the queue of heights at its beginning -/
theorem HL.begin {mv : List (List Nat)} {st : List Bool} {R : List Nat} (hR : R.Nodup) (hv : Nat → Nat) : HL mv st R (R.filter fun s => decide ((steps mv st s).length = 0)) 0 (fun s => ((steps mv st s).length : Int)) hv where
  qnd := hR.filter _
  sub := fun s hs => (List.mem_filter.mp hs).1
  il := Nat.zero_le _
  mis := fun s hs => by
    unfold deg
    have e : ((steps mv st s).countP fun e => decide (e.2 ∉ (List.take 0 (R.filter fun s => decide ((steps mv st s).length = 0))))) = (steps mv st s).length := by
      rw [List.countP_eq_length]
      intro a _
      simp
    rw [e]
  inq := fun s hs => by
    rw [List.mem_filter]
    constructor
    · rintro ⟨_, h⟩
      have := of_decide_eq_true h
      omega
    · intro h
      exact ⟨hs, decide_eq_true (by omega)⟩
  low := fun s hs => by cases hs
  met := fun s hs => by cases hs

/-- the lists of earlier states: a dict db from the states R to lists at ad -/
structure Bf (H : Hp) (db : Addr) (R : List Nat) (ad : Nat → Addr) (bl : Nat → List Nat) : Prop where
  hd : H db = some (.dK (kvG R fun s => .ref (ad s)))
  at_ : ∀ s ∈ R, H (ad s) = some (.lst (nv (bl s)))
  inj : ∀ s ∈ R, ∀ t ∈ R, ad s = ad t → s = t
theorem Bf.same {H H' : Hp} {db : Addr} {R : List Nat} {ad : Nat → Addr} {bl : Nat → List Nat} (B : Bf H db R ad bl) (s : Same H H') : Bf H' db R ad bl := ⟨s _ _ B.hd, fun t ht => s _ _ (B.at_ t ht), B.inj⟩
/-- what is written elsewhere -/
theorem Bf.off {H : Hp} {db : Addr} {R : List Nat} {ad : Nat → Addr} {bl : Nat → List Nat} (B : Bf H db R ad bl) {d : Addr} (n1 : d ≠ db) (n2 : ∀ s ∈ R, d ≠ ad s) (o : HO) : Bf (upd H d o) db R ad bl :=
  ⟨by rw [upd_ne n1.symm]; exact B.hd, fun t ht => by rw [upd_ne (n2 t ht).symm]; exact B.at_ t ht, B.inj⟩
theorem Bf.push {H : Hp} {db : Addr} {R : List Nat} {ad : Nat → Addr} {bl : Nat → List Nat} (B : Bf H db R ad bl) {c : Nat} (hc : c ∈ R) (s : Nat) :
    Bf (upd H (ad c) (.lst (nv (bl c) ++ [.int (s : Int)]))) db R ad (fun t => if t = c then bl c ++ [s] else bl t) := by
  have nd : db ≠ ad c := ne_of B.hd (B.at_ c hc) (by intro z; cases z)
  refine ⟨by rw [upd_ne nd]; exact B.hd, fun t ht => ?_, B.inj⟩
  show _ = some (HO.lst (nv (if t = c then bl c ++ [s] else bl t)))
  by_cases e : t = c
  · subst e
    rw [upd_same, if_pos rfl, nv_app]
    rfl
  · rw [upd_ne (fun z => e (B.inj t ht c hc z)), if_neg e]
    exact B.at_ t ht
end K61

/-! heights, the walk. -/
namespace K61
open PySem PySem.Spec PyProof.Rows L2
section
variable {P : Program} {w : World} {K : PySem.W.Frag} {mg : Str → Option Value} {base : Heap}
def rMaxD1 (K : PySem.W.Frag) : List V → List V → Hp → VK → Prop := fun vs zs H Q => ∃ (a : Addr) (ns : List Int) (d : Int), vs = [V.ref a] ∧ zs = [V.int d] ∧ SqL K H a (ns.map V.int) ∧
  ∀ m : Int, ((ns = [] ∧ m = d) ∨ (m ∈ ns ∧ ∀ y, y ∈ ns → y ≤ m)) → Q (.int m) H
theorem cr_maxD1 {X : Cx} (hc : X.calm = true) : CallRK X (.builtin "max") [Str.ofString "default"] (rMaxD1 X.K) := by
  intro pins s σ H vs zs us ws Q I r rz h
  obtain ⟨a, ns, d, e1, e2, hs, q⟩ := h
  exact cr_maxD hc pins s σ H vs zs us ws Q I r rz ⟨a, ns, d, e1, e2, hs, fun z => q d (.inl ⟨z, rfl⟩), fun _ m hm hg => q m (.inr ⟨hm, hg⟩)⟩
theorem filt_yes {p : Nat → Bool} {s : Nat} (h : p s = true) : [s].filter p = [s] := by
  rw [List.filter_cons, if_pos h]
  rfl
theorem filt_no {p : Nat → Bool} {s : Nat} (h : p s = false) : [s].filter p = [] := by
  rw [List.filter_cons, if_neg (by rw [h]; exact Bool.false_ne_true)]
  rfl
abbrev sHeights : Stmt := top 31
def spHeights (K : PySem.W.Frag) (C : Addr) : Sp := fun vs H Q _ => ∃ (x : Addr) (k n : Nat) (mv : List (List Nat)) (st : List Bool) (B : List Nat → Prop), vs = [.ref x] ∧ Rec K C H x k mv st ∧ Mach k n mv st B ∧ n ≤ 100000 ∧ k ≤ 4 ∧
  ∀ (H' : Hp) (d : Addr) (R kn : List Nat) (hv : Nat → Nat), Same H H' → H d = none → H' d = some (.dK (kvG kn fun s => .int (hv s : Int))) → Hts mv st R kn hv → (∀ s ∈ R, s < n) → Q (.ref d) H'
theorem sc_heights : FnScope ["machine", "states", "state", "before", "missing", "letter", "later", "queue", "found", "at", "earlier"] ["machine"] (defScope sHeights) := ⟨rfl, rfl, rfl, by decide +kernel, rfl, by decide +kernel, by decide +kernel⟩
theorem ok_heights {f C : Addr} {fd : FuncData} (F : Fun K "heights" "heights" sHeights f fd) (N : Nm mg) (T : RT K mg C) (RE : Mt P w K mg base C "reachable" 2 ["self"] (spReach K C)) (S : Mt P w K mg base C "steps" 1 ["self", "state"] (spSteps K C)) :
    FnOk P w K mg base CX0 3 f fd ["machine"] (spHeights K C) := by
  refine F.ok sc_heights (fun vs H Q E h => ?_) (fun cdv A outer s H vs Q E hr h => ?_)
  · obtain ⟨x, _, _, _, _, _, rfl, _⟩ := h
    rfl
  · obtain ⟨x, k, n, mv, st, B, rfl, R0, M, hn, hk4, q⟩ := h
    have hu := hu_of hr
    refine ⟨_, pss_cons (ps_set (i := 1) sc_heights.nd rfl (Or.inl rfl) (pe_meth0 (pv 0) T.cl RE.m RE.ok hr RE.b .nil pass0))
      (pss_cons (ps_asg (pe_tup (pa_cons (pe_dc (own := [("state", 2)]) (g := gName 2) (tt := tYes) (tk := tVar 2) (tv := tLst tNil) rfl sc_heights.nd (pi_list (pv 1))
            (blkOk_by (N := ["machine", "states", "state", "before", "missing", "letter", "later", "queue", "found", "at", "earlier"]) (sc := defScope sHeights) (by decide +kernel))
            (fun _ _ _ _ _ => pg_name (i := 2) sc_heights.nd rfl (Or.inl rfl)) (fun _ _ _ _ _ => pts_nil) (fun _ _ _ _ _ => pv 2) (fun _ _ _ _ _ => pe_lst pa_nil)) (pa_cons pe_dnewK pa_nil)))
          (pg_tup rfl (pgs_cons (pg_name (i := 3) sc_heights.nd rfl (Or.inl rfl)) (pgs_cons (pg_name (i := 4) sc_heights.nd rfl (Or.inr rfl)) pgs_nil))))
      (pss_cons (ps_for PassesOwn.never rfl (pi_list (pv 1)) (pg_name (i := 2) sc_heights.nd rfl (Or.inl rfl))
        (pss_cons (ps_dput hu (pv 4) (pv 2) (pe_callB call_len_seq (by rfl) N.len PySem.boot_len (pa_cons (pe_meth (pv 0) T.cl S.m S.ok (hr.mono (by decide)) S.b .nil pass0 (pa_cons (pv 2) pa_nil)) pa_nil)) rfl)
        (pss_one (ps_for PassesOwn.never rfl (pi_list (pe_meth (pv 0) T.cl S.m S.ok (hr.mono (by decide)) S.b .nil pass0 (pa_cons (pv 2) pa_nil)))
          (pg_tup rfl (pgs_cons (pg_name (i := 5) sc_heights.nd rfl (Or.inl rfl)) (pgs_cons (pg_name (i := 6) sc_heights.nd rfl (Or.inl rfl)) pgs_nil)))
          (pss_one (ps_expr (pe_bm PySem.F.plainAttrs_list PySem.F.slot_list_append PySem.F.type_list_append mt_append (pe_dget hu (pv 3) (pv 6) (fun _ _ => rfl)) (pa_cons (pv 2) pa_nil))))))))
      (pss_cons (ps_asg (pe_tup (pa_cons (pe_lc (own := [("state", 2)]) (g := gName 2) (te := tVar 2) rfl sc_heights.nd (pi_list (pv 1))
            (blkOk_by (N := ["machine", "states", "state", "before", "missing", "letter", "later", "queue", "found", "at", "earlier"]) (sc := defScope sHeights) (by decide +kernel))
            (fun _ _ _ _ _ => pg_name (i := 2) sc_heights.nd rfl (Or.inl rfl)) (fun _ _ _ _ _ => pts_one (pt_cmpR op_eq (pe_dget hu (pv 4) (pv 2) (fun _ _ => rfl)) pe_int (nomark _))) (fun _ _ _ _ _ => pv 2)) (pa_cons pe_dnewK (pa_cons pe_int pa_nil))))
          (pg_tup rfl (pgs_cons (pg_name (i := 7) sc_heights.nd rfl (Or.inl rfl)) (pgs_cons (pg_name (i := 8) sc_heights.nd rfl (Or.inr rfl)) (pgs_cons (pg_name (i := 9) sc_heights.nd rfl (Or.inl rfl)) pgs_nil)))))
      (pss_cons (ps_while PassesOwn.never (pt_cmpR op_lt (pv 9) (pe_callB call_len_seq (by rfl) N.len PySem.boot_len (pa_cons (pv 7) pa_nil)) (nomark _))
        (pss_cons (ps_set (i := 2) sc_heights.nd rfl (Or.inl rfl) (pe_ix ix_list (pv 7) (pv 9) (fun _ _ => rfl)))
        (pss_cons (ps_aug (i := 9) sc_heights.nd rfl (Or.inl rfl) pe_int iop_add)
        (pss_cons (ps_dput hu (pv 8) (pv 2) (pe_callBK (cr_maxD1 rfl) (by rfl) N.max (by decide +kernel) (pa_cons (pe_lc (own := [("letter", 5), ("later", 6)]) (g := gTup K 2 (gCons (gName 5) (gCons (gName 6) gNil))) (tt := tYes) rfl sc_heights.nd
              (pi_list (pe_meth (pv 0) T.cl S.m S.ok (hr.mono (by decide)) S.b .nil pass0 (pa_cons (pv 2) pa_nil)))
              (blkOk_by (N := ["machine", "states", "state", "before", "missing", "letter", "later", "queue", "found", "at", "earlier"]) (sc := defScope sHeights) (by decide +kernel))
              (fun _ _ _ _ _ => pg_tup rfl (pgs_cons (pg_name (i := 5) sc_heights.nd rfl (Or.inl rfl)) (pgs_cons (pg_name (i := 6) sc_heights.nd rfl (Or.inl rfl)) pgs_nil))) (fun _ _ _ _ _ => pts_nil)
              (fun _ _ _ _ _ => pe_op op_add (pe_dget hu (pv 8) (pv 6) (fun _ _ => rfl)) pe_int)) pa_nil) (pk_cons pe_int pk_nil)) rfl)
        (pss_one (ps_for PassesOwn.never rfl (pi_list (pe_dget hu (pv 3) (pv 2) (fun _ _ => rfl))) (pg_name (i := 10) sc_heights.nd rfl (Or.inl rfl))
          (pss_cons (ps_daug hu (pv 4) (pv 10) pe_int in_sub (fun _ _ _ => rfl))
          (pss_one (ps_if (pt_cmpR op_eq (pe_dget hu (pv 4) (pv 10) (fun _ _ => rfl)) pe_int (nomark _))
            (pss_one (ps_expr (pe_bm PySem.F.plainAttrs_list PySem.F.slot_list_append PySem.F.type_list_append mt_append (pv 7) (pa_cons (pv 10) pa_nil)))) pss_nil)))))))))
      (pss_one (ps_ret (pv 8))))))), ?_⟩
    obtain ⟨dx, lc, ls, lf, lm, fs, rs, g1, g2, _⟩ := R0.all
    refine ⟨_, rfl, x, dx, fs, rfl, g1, g2.reachable, x, k, n, mv, st, B, rfl, R0, M, hn, hk4, fun H1 l R s1 hl h1 hnd h0 hlt hcl => ?_⟩
    have hRn := len_of_nd n R hnd hlt
    -- before = {state: [] for state in states}
    refine ⟨_, rfl, l, rfl, ⟨_, SqL.of h1⟩, fun db hdb => ?_⟩
    refine out_it walk_list (fun i Hc => ∃ ad : Nat → Addr, Same H1 Hc ∧ Hc db = some (.dK (kvG (R.take i) fun s => .ref (ad s))) ∧ (∀ s ∈ R.take i, H1 (ad s) = none ∧ ad s ≠ db ∧ Hc (ad s) = some (.lst (nv []))) ∧ ∀ s ∈ R.take i, ∀ t ∈ R.take i, ad s = ad t → s = t)
      ⟨fun _ => db, same_upd hdb, upd_same, fun _ h => (by cases h), fun _ h => (by cases h)⟩ (fun i Hc _ ⟨_, sc, _⟩ => sc.seq (SqL.of h1)) ?_ ?_
    · rintro i y H2 H3 hi ⟨ad, s2, hd2, had, hinj⟩ ⟨rfl, hy⟩
      obtain ⟨sn, hsn, rfl⟩ := nv_get hy
      have hnt : sn ∉ R.take i := nd_not_take hnd hsn
      have tk : R.take (i + 1) = R.take i ++ [sn] := take_succ_at hsn
      refine ⟨rfl, _, rfl, Nat.zero_le _, fun a ha => ?_⟩
      have s3 : Same H3 (upd H3 a (.lst [])) := same_upd ha
      have nad : a ≠ db := (ne_of_none hd2 ha).symm
      refine ⟨_, Sum.inl (sn : Int), rfl, s3 _ _ hd2, len_lt (by rw [kvG_len, List.length_take]; omega), fun t => if t = sn then a else ad t, same_put (s2.trans s3) hdb, ?_, fun t ht => ?_, fun t ht u hu2 e => ?_⟩
      · rw [upd_same, put_new hnt, tk]
        refine congrArg (fun z => some (HO.dK z)) (kvG_congr fun t _ => ?_)
        show (if t = sn then V.ref a else V.ref (ad t)) = V.ref (if t = sn then a else ad t)
        by_cases c : t = sn
        · rw [if_pos c, if_pos c]
        · rw [if_neg c, if_neg c]
      · show H1 (if t = sn then a else ad t) = none ∧ (if t = sn then a else ad t) ≠ db ∧ _
        by_cases c : t = sn
        · simp only [if_pos c]
          exact ⟨s2.free ha, nad, by rw [upd_ne nad, upd_same]; rfl⟩
        · simp only [if_neg c]
          rw [tk] at ht
          have ht' : t ∈ R.take i := by
            rcases List.mem_append.mp ht with z | z
            · exact z
            · exact absurd (List.mem_singleton.mp z) c
          obtain ⟨e1, e2, e3⟩ := had t ht'
          exact ⟨e1, e2, by rw [upd_ne e2]; exact s3 _ _ e3⟩
      · rw [tk] at ht hu2
        have key : ∀ z ∈ R.take i ++ [sn], z = sn ∨ (z ≠ sn ∧ z ∈ R.take i) := fun z hz => by
          by_cases c : z = sn
          · exact .inl c
          · rcases List.mem_append.mp hz with y | y
            · exact .inr ⟨c, y⟩
            · exact absurd (List.mem_singleton.mp y) c
        rcases key t ht with c | ⟨c, ct⟩
        · rcases key u hu2 with c' | ⟨c', cu⟩
          · rw [c, c']
          · simp only [if_pos c, if_neg c'] at e
            have := (had u cu).2.2
            rw [← e, ha] at this
            cases this
        · rcases key u hu2 with c' | ⟨c', cu⟩
          · simp only [if_neg c, if_pos c'] at e
            have := (had t ct).2.2
            rw [e, ha] at this
            cases this
          · simp only [if_neg c, if_neg c'] at e
            exact hinj t ct u cu e
    · rintro H2 ⟨ad, s2, hd2, had, hinj⟩
      rw [nv_len, List.take_length] at hd2 had hinj
      refine fun dm hdm => ⟨by show 2 ≤ sizeLine; decide, fun tt htt => ⟨tt, _, rfl, SqT.of upd_same, rfl, _, _, rfl, _, _, rfl, rfl, ?_⟩⟩
      have sm1 : Same H2 (upd H2 dm (.dK [])) := same_upd hdm
      have sm2 : Same (upd H2 dm (.dK [])) (upd (upd H2 dm (.dK [])) tt (.tup [.ref db, .ref dm])) := same_upd htt
      have sA := s1.trans s2
      have s3 := sA.trans (sm1.trans sm2)
      have B3 : Bf (upd (upd H2 dm (.dK [])) tt (.tup [.ref db, .ref dm])) db R ad (fun _ => []) := Bf.same ⟨hd2, fun s hs => (had s hs).2.2, hinj⟩ (sm1.trans sm2)
      have hm3 : (upd (upd H2 dm (.dK [])) tt (.tup [.ref db, .ref dm])) dm = some (.dK []) := sm2 _ _ upd_same
      have hl3 : (upd (upd H2 dm (.dK [])) tt (.tup [.ref db, .ref dm])) l = some (.lst (nv R)) := (s2.trans (sm1.trans sm2)) _ _ h1
      have hdbH : H db = none := s1.free hdb
      have hdmH : H dm = none := sA.free hdm
      have hadH : ∀ s ∈ R, H (ad s) = none := fun s hs => s1.free (had s hs).1
      have hadl : ∀ s ∈ R, ad s ≠ l := fun s hs z => by
        have := (had s hs).1
        rw [z, h1] at this
        cases this
      have hadm : ∀ s ∈ R, dm ≠ ad s := fun s hs z => by
        have := (had s hs).2.2
        rw [← z, hdm] at this
        cases this
      have ndm : dm ≠ db := (ne_of_none hd2 hdm).symm
      have R3 := R0.same s3
      generalize upd (upd H2 dm (.dK [])) tt (.tup [.ref db, .ref dm]) = H3 at s3 B3 hm3 hl3 R3 ⊢
      refine ⟨_, rfl, l, rfl, ⟨_, SqL.of hl3⟩, ?_⟩
      refine for_list (K := K) (a := l) (xs := nv R) (fun i σ H' => ∃ (bl : Nat → List Nat) (v2 v5 v6 : Option V), σ = [some (.ref x), some (.ref l), v2, some (.ref db), some (.ref dm), v5, v6, none, none, none, none] ∧ Same H H' ∧ Rec K C H' x k mv st ∧ H' l = some (.lst (nv R)) ∧ Bf H' db R ad bl ∧
          H' dm = some (.dK (kvG (R.take i) fun s => .int ((steps mv st s).length : Int))) ∧ (∀ t ∈ R, ∀ s ∈ R, (bl t).count s = if s ∈ R.take i then hits mv st t s else 0) ∧ (∀ t ∈ R, ∀ s ∈ bl t, s ∈ R) ∧ ∀ t, (bl t).length ≤ i * 4)
        ⟨fun _ => [], none, none, none, rfl, s3, R3, hl3, B3, hm3, fun t _ s _ => by rw [if_neg (by simp)]; rfl, fun _ _ _ h => (by cases h), fun _ => Nat.zero_le _⟩ (fun i σ H' _ ⟨_, _, _, _, _, _, _, hl', _⟩ => SqL.of hl') ?_ ?_
      · rintro i y σ H4 hy ⟨bl, v2, v5, v6, rfl, s4, R4, hl4, B4, hm4, hcnt, hsub, hlen4⟩
        obtain ⟨sn, hsn, rfl⟩ := nv_get hy
        have hsR := at_mem hsn
        have hsn' := hlt sn hsR
        have hnt : sn ∉ R.take i := nd_not_take hnd hsn
        have tk : R.take (i + 1) = R.take i ++ [sn] := take_succ_at hsn
        obtain ⟨dx4, lc4, ls4, lf4, lm4, fs4, rs4, q1, q2, _⟩ := R4.all
        refine ⟨_, rfl, x, dx4, fs4, rfl, q1, q2.steps, _, rfl, x, sn, k, n, mv, st, B, rfl, R4, M, hsn', hk4, fun H5 b xs s5 hb hb5 pr5 => ⟨b, xs, rfl, .inl (SqL.of hb5), ?_⟩⟩
        have hm5 := s5 _ _ hm4
        have hl5 := s5 _ _ hl4
        have B5 := B4.same s5
        have R5 := R4.same s5
        have s45 := s4.trans s5
        refine ⟨_, rfl, _, rfl, dm, _, rfl, DPut.k (k := Sum.inl (sn : Int)) hm5 (len_lt (by rw [kvG_len, List.length_take]; omega)), ?_⟩
        have ep : putK (kvG (R.take i) fun s => .int ((steps mv st s).length : Int)) (.inl (sn : Int)) (.int (xs.length : Int)) = kvG (R.take (i + 1)) fun s => .int ((steps mv st s).length : Int) := by
          rw [put_new hnt, tk]
          refine kvG_congr fun t _ => ?_
          show (if t = sn then V.int (xs.length : Int) else V.int ((steps mv st t).length : Int)) = V.int ((steps mv st t).length : Int)
          by_cases c : t = sn
          · rw [if_pos c, c, pr5.len]
          · rw [if_neg c]
        rw [ep]
        have s6 : Same H (upd H5 dm (.dK (kvG (R.take (i + 1)) fun s => .int ((steps mv st s).length : Int)))) := same_put s45 hdmH
        have R6 := R5.off hm5 (.dK (kvG (R.take (i + 1)) fun s => .int ((steps mv st s).length : Int)))
        have hl6 : (upd H5 dm (.dK (kvG (R.take (i + 1)) fun s => .int ((steps mv st s).length : Int)))) l = some (.lst (nv R)) := by
          rw [upd_ne (ne_of hl5 hm5 (by intro z; cases z))]
          exact hl5
        have B6 := B5.off ndm hadm (.dK (kvG (R.take (i + 1)) fun s => .int ((steps mv st s).length : Int)))
        have hm6 : (upd H5 dm (.dK (kvG (R.take (i + 1)) fun s => .int ((steps mv st s).length : Int)))) dm = some (.dK (kvG (R.take (i + 1)) fun s => .int ((steps mv st s).length : Int))) := upd_same
        generalize upd H5 dm (.dK (kvG (R.take (i + 1)) fun s => .int ((steps mv st s).length : Int))) = H6 at s6 R6 hl6 B6 hm6 ⊢
        obtain ⟨dx6, lc6, ls6, lf6, lm6, fs6, rs6, q3, q4, _⟩ := R6.all
        refine ⟨_, rfl, x, dx6, fs6, rfl, q3, q4.steps, _, rfl, x, sn, k, n, mv, st, B, rfl, R6, M, hsn', hk4, fun H7 b2 ys s7 hb2 hb7 pr7 => ⟨b2, rfl, ⟨_, SqL.of hb7⟩, ?_⟩⟩
        have nb2 : ∀ s ∈ R, b2 ≠ ad s := fun s hs => (ne_of_none (B6.at_ s hs) hb2).symm
        refine for_list (K := K) (a := b2) (xs := ys) (fun q σ H' => ∃ (c2 : Nat → List Nat) (v5 v6 : Option V), σ = [some (.ref x), some (.ref l), some (.int (sn : Int)), some (.ref db), some (.ref dm), v5, v6, none, none, none, none] ∧ Same H H' ∧ Rec K C H' x k mv st ∧ H' l = some (.lst (nv R)) ∧ Bf H' db R ad c2 ∧
            H' dm = some (.dK (kvG (R.take (i + 1)) fun s => .int ((steps mv st s).length : Int))) ∧ H' b2 = some (.lst ys) ∧ Pr K H' ys (steps mv st sn) ∧ (∀ t ∈ R, ∀ s ∈ R, (c2 t).count s = (bl t).count s + if s = sn then ((steps mv st sn).take q).countP (fun e => decide (e.2 = t)) else 0) ∧ (∀ t ∈ R, ∀ s ∈ c2 t, s ∈ R) ∧ ∀ t, (c2 t).length ≤ i * 4 + q)
          ⟨bl, v5, v6, rfl, s6.trans s7, R6.same s7, s7 _ _ hl6, B6.same s7, s7 _ _ hm6, hb7, pr7, fun t _ s _ => by by_cases c : s = sn <;> simp [c], hsub, hlen4⟩ (fun q σ H' _ ⟨_, _, _, _, _, _, _, _, _, hb', _⟩ => SqL.of hb') ?_ ?_
        · rintro q y σ H8 hy8 ⟨c2, w5, w6, rfl, s8, R8, hl8, B8, hm8, hb8, pr8, hc8, hsub8, hlen8'⟩
          obtain ⟨tt8, e, rfl, he, hT⟩ := pr8.get hy8
          have heR : e.2 ∈ R := hcl sn hsR e (at_mem he)
          refine ⟨tt8, _, rfl, hT, rfl, _, _, rfl, _, _, rfl, rfl, ?_⟩
          have hv8 : DGet H8 db (.int (e.2 : Int)) (some (.ref (ad e.2))) := by
            have z := DGet.k (k := Sum.inl (e.2 : Int)) B8.hd
            rw [val_in heR] at z
            exact z
          have hat8 := B8.at_ e.2 heR
          have nl8 : l ≠ ad e.2 := (hadl e.2 heR).symm
          have hfew := M.few hsn'
          have hq4 := at_lt he
          have hi4 := at_lt hsn
          have hlen8 : (c2 e.2).length ≤ 1000000 := by
            have := hlen8' e.2
            omega
          refine ⟨_, rfl, _, rfl, db, _, rfl, hv8, .inl ⟨rfl, _, SqL.of hat8⟩, _, rfl, ad e.2, _, _, rfl, rfl, hat8, by rw [nv_len, sizeLine_eq]; omega, ?_⟩
          refine ⟨_, _, _, rfl, same_put s8 (hadH e.2 heR), ?_, by rw [upd_ne nl8]; exact hl8, B8.push heR sn, ?_, ?_, pr8.upd hat8, fun t ht s hs => ?_, fun t ht s hs => ?_, fun t => ?_⟩
          · exact R0.same (same_put s8 (hadH e.2 heR))
          · rw [upd_ne (hadm e.2 heR)]
            exact hm8
          · rw [upd_ne (nb2 e.2 heR)]
            exact hb8
          · show (if t = e.2 then c2 e.2 ++ [sn] else c2 t).count s = _
            rw [List.take_add_one, he, List.countP_append]
            have h8 := hc8 t ht s hs
            by_cases ct : t = e.2
            · rw [if_pos ct, ← ct, List.count_append, h8]
              by_cases cs : s = sn
              · rw [if_pos cs, if_pos cs, cs]
                simp [ct]
                omega
              · rw [if_neg cs, if_neg cs]
                simp [Ne.symm cs]
            · rw [if_neg ct, h8]
              by_cases cs : s = sn
              · rw [if_pos cs, if_pos cs]
                simp [Ne.symm ct]
              · rw [if_neg cs, if_neg cs]
          · have hs' : s ∈ (if t = e.2 then c2 e.2 ++ [sn] else c2 t) := hs
            by_cases ct : t = e.2
            · rw [if_pos ct] at hs'
              rcases List.mem_append.mp hs' with z | z
              · exact hsub8 e.2 heR s z
              · rw [List.mem_singleton.mp z]
                exact hsR
            · rw [if_neg ct] at hs'
              exact hsub8 t ht s hs'
          · show (if t = e.2 then c2 e.2 ++ [sn] else c2 t).length ≤ _
            have h1 := hlen8' e.2
            have h2 := hlen8' t
            by_cases ct : t = e.2
            · rw [if_pos ct, List.length_append, List.length_singleton]
              omega
            · rw [if_neg ct]
              omega
        · rintro σ H8 ⟨c2, w5, w6, rfl, s8, R8, hl8, B8, hm8, hb8, pr8, hc8, hsub8, hlen8'⟩
          rw [pr8.len, List.take_length] at hc8
          have hfew := M.few hsn'
          refine ⟨c2, _, _, _, rfl, s8, R8, hl8, B8, hm8, fun t ht s hs => ?_, hsub8, fun t => ?_⟩
          rotate_left
          · have := hlen8' t
            rw [pr8.len] at this
            omega
          rw [hc8 t ht s hs, hcnt t ht s hs, tk]
          by_cases cs : s = sn
          · subst cs
            rw [if_neg hnt, if_pos rfl, if_pos (by simp), Nat.zero_add]
            rfl
          · rw [if_neg cs, Nat.add_zero]
            by_cases m : s ∈ R.take i
            · rw [if_pos m, if_pos (List.mem_append_left _ m)]
            · rw [if_neg m, if_neg (fun z => (List.mem_append.mp z).elim m fun y => cs (List.mem_singleton.mp y))]
      · rintro σ H4 ⟨bl, v2, v5, v6, rfl, s4, R4, hl4, B4, hm4, hcnt, hsub, hlen4⟩
        rw [nv_len] at hcnt hm4 hlen4
        rw [List.take_length] at hm4 hcnt
        have hits4 : ∀ t ∈ R, ∀ s ∈ R, (bl t).count s = hits mv st t s := fun t ht s hs => by rw [hcnt t ht s hs, if_pos hs]
        refine ⟨_, rfl, l, rfl, ⟨_, SqL.of hl4⟩, fun qa hqa => ?_⟩
        refine lc_list (K := K) (a := l) (xs := nv R) (fun i Hc => Same H4 Hc ∧ Hc qa = some (.lst (nv ((R.take i).filter fun s => decide ((steps mv st s).length = 0))))) ⟨same_upd hqa, upd_same⟩ (fun i Hc _ ⟨sc, _⟩ => sc.seq (SqL.of hl4)) ?_ ?_
        · rintro i y H5 hy ⟨s5, hq5⟩
          obtain ⟨sn, hsn, rfl⟩ := nv_get hy
          have hsR := at_mem hsn
          have hm5 := s5 _ _ hm4
          have hv5 : DGet H5 dm (.int (sn : Int)) (some (.int ((steps mv st sn).length : Int))) := by
            have z := DGet.k (k := Sum.inl (sn : Int)) hm5
            rw [val_in hsR] at z
            exact z
          refine ⟨rfl, _, rfl, _, rfl, dm, _, rfl, hv5, rfl, _, rfl, ?_⟩
          by_cases c : (steps mv st sn).length = 0
          · refine itC (decide_eq_true (by rw [c]; rfl)) ⟨_, rfl, _, hq5, ?_, same_put s5 hqa, ?_⟩
            · have h1 := List.length_filter_le (fun s => decide ((steps mv st s).length = 0)) (R.take i)
              rw [List.length_take] at h1
              exact len_lt (by rw [nv_len]; omega)
            · have e1 : ([sn].filter fun s => decide ((steps mv st s).length = 0)) = [sn] := by
                exact filt_yes (p := fun s => decide ((steps mv st s).length = 0)) (decide_eq_true c)
              rw [upd_same, take_succ_at hsn, List.filter_append, e1, nv_app]
              rfl
          · refine itN (decide_eq_false fun z => c (by have := V.int.inj z; omega)) ⟨s5, ?_⟩
            have e1 : ([sn].filter fun s => decide ((steps mv st s).length = 0)) = [] := by
              exact filt_no (p := fun s => decide ((steps mv st s).length = 0)) (decide_eq_false c)
            rw [take_succ_at hsn, List.filter_append, e1, List.append_nil]
            exact hq5
        · rintro H5 ⟨s5, hq5⟩
          rw [nv_len, List.take_length] at hq5
          refine fun df hdf => ⟨by show 3 ≤ sizeLine; decide, fun tt htt => ⟨tt, _, rfl, SqT.of upd_same, rfl, _, _, rfl, _, _, rfl, _, _, rfl, rfl, ?_⟩⟩
          have sn1 : Same H5 (upd H5 df (.dK [])) := same_upd hdf
          have sn2 : Same (upd H5 df (.dK [])) (upd (upd H5 df (.dK [])) tt (.tup [.ref qa, .ref df, .int 0])) := same_upd htt
          have sn := sn1.trans sn2
          have s45 := s4.trans s5
          have s6 := s45.trans sn
          have B6 := B4.same (s5.trans sn)
          have hm6 := (s5.trans sn) _ _ hm4
          have hq6 := sn _ _ hq5
          have hf6 : (upd (upd H5 df (.dK [])) tt (.tup [.ref qa, .ref df, .int 0])) df = some (.dK []) := sn2 _ _ upd_same
          have hqaH : H qa = none := s4.free hqa
          have hdfH : H df = none := s45.free hdf
          have nqad : ∀ s ∈ R, qa ≠ ad s := fun s hs => (ne_of_none (B4.at_ s hs) hqa).symm
          have nqdb : qa ≠ db := (ne_of_none B4.hd hqa).symm
          have nqdm : qa ≠ dm := (ne_of_none hm4 hqa).symm
          have nfad : ∀ s ∈ R, df ≠ ad s := fun s hs => (ne_of_none ((B4.same s5).at_ s hs) hdf).symm
          have nfdb : df ≠ db := (ne_of_none (B4.same s5).hd hdf).symm
          have nfdm : df ≠ dm := (ne_of_none (s5 _ _ hm4) hdf).symm
          have nfqa : df ≠ qa := (ne_of_none hq5 hdf).symm
          generalize upd (upd H5 df (.dK [])) tt (.tup [.ref qa, .ref df, .int 0]) = H6 at s6 B6 hm6 hq6 hf6 ⊢
          have L0 := HL.begin (mv := mv) (st := st) hnd (fun _ => 0)
          generalize R.filter (fun s => decide ((steps mv st s).length = 0)) = qu0 at hq6 L0

          refine ⟨fun μ σ H' => ∃ (i : Nat) (qu : List Nat) (ms : Nat → Int) (hv : Nat → Nat) (v2 v5 v6 v10 : Option V), μ + i = R.length ∧ σ = [some (.ref x), some (.ref l), v2, some (.ref db), some (.ref dm), v5, v6, some (.ref qa), some (.ref df), some (.int (i : Int)), v10] ∧
              Same H H' ∧ Bf H' db R ad bl ∧ H' dm = some (.dK (kvG R fun s => .int (ms s))) ∧ H' qa = some (.lst (nv qu)) ∧ H' df = some (.dK (kvG (qu.take i) fun s => .int (hv s : Int))) ∧ HL mv st R qu i ms hv,
            ⟨R.length, 0, qu0, _, _, v2, v5, v6, none, rfl, rfl, s6, B6, hm6, hq6, hf6, L0⟩, ?_⟩
          rintro μ σ H7 ⟨i, qu, ms, hv, u2, u5, u6, u10, hμ, rfl, s7, B7, hm7, hq7, hf7, L7⟩
          have hquR : qu.length ≤ R.length := nat_nodup_len qu R L7.qnd L7.sub
          refine ⟨_, rfl, _, rfl, qa, _, rfl, .inl (SqL.of hq7), _, _, rfl, rfl, _, rfl, ?_⟩
          by_cases hlt7 : i < qu.length
          · refine itC (decide_eq_true (by rw [nv_len]; omega)) ?_
            obtain ⟨t, ht⟩ := at_some hlt7
            have htR := L7.sub t (at_mem ht)
            have htn := hlt t htR
            have hnt := nd_not_take L7.qnd ht
            have tk := take_succ_at ht
            have here := L7.here ht
            refine ⟨fun σ' H' => ∃ (qu : List Nat) (ms : Nat → Int) (hv : Nat → Nat) (v2 v5 v6 v10 : Option V), σ' = [some (.ref x), some (.ref l), v2, some (.ref db), some (.ref dm), v5, v6, some (.ref qa), some (.ref df), some (.int ((i + 1 : Nat) : Int)), v10] ∧
                Same H H' ∧ Bf H' db R ad bl ∧ H' dm = some (.dK (kvG R fun s => .int (ms s))) ∧ H' qa = some (.lst (nv qu)) ∧ H' df = some (.dK (kvG (qu.take (i + 1)) fun s => .int (hv s : Int))) ∧ HL mv st R qu (i + 1) ms hv,
              fun σ' H' ⟨a1, a2, a3, a4, a5, a6, a7, a8⟩ => ⟨μ - 1, by omega, i + 1, a1, a2, a3, a4, a5, a6, a7, by omega, a8⟩, ?_⟩
            refine ⟨_, rfl, _, rfl, qa, _, _, _, rfl, rfl, SqL.of hq7, atI_nat (nv_at ht), _, rfl, _, _, rfl, rfl, ?_⟩
            have R7 := R0.same s7
            obtain ⟨dx7, lc7, ls7, lf7, lm7, fs7, rs7, q5, q6, _⟩ := R7.all
            refine ⟨_, rfl, x, dx7, fs7, rfl, q5, q6.steps, _, rfl, x, t, k, n, mv, st, B, rfl, R7, M, htn, hk4, fun H8 b xs s8 hb hb8 pr => ⟨b, rfl, ⟨_, SqL.of hb8⟩, fun D hD => ?_⟩⟩
            have hfew := M.few htn
            refine lc_list (K := K) (a := b) (xs := xs) (fun j Hc => Same H8 Hc ∧ Hc D = some (.lst ((((steps mv st t).take j).map fun e => ((hv e.2 : Int) + 1)).map V.int))) ⟨same_upd hD, upd_same⟩ (fun j Hc _ ⟨sc, _⟩ => sc.seq (SqL.of hb8)) ?_ ?_
            · rintro j y H9 hy ⟨s9, hd9⟩
              obtain ⟨tt9, e, rfl, he, hT⟩ := (pr.same s9).get hy
              have hm9 := here e (at_mem he)
              have hv9 : DGet H9 df (.int (e.2 : Int)) (some (.int (hv e.2 : Int))) := by
                have z := DGet.k (k := Sum.inl (e.2 : Int)) ((s8.trans s9) _ _ hf7)
                rw [val_in hm9] at z
                exact z
              refine ⟨tt9, _, rfl, hT, rfl, _, _, rfl, _, _, rfl, rfl, rfl, _, rfl, _, rfl, df, _, rfl, hv9, _, _, rfl, rfl, _, hd9, ?_, same_put s9 hD, ?_⟩
              · rw [List.length_map, List.length_map, List.length_take]
                exact len_lt (by omega)
              · rw [upd_same, List.take_add_one, he, List.map_append, List.map_append]
                rfl
            · rintro H9 ⟨s9, hd9⟩
              rw [pr.len, List.take_length] at hd9
              refine ⟨D, _, 0, rfl, rfl, SqL.of hd9, fun mm hmm => ?_⟩
              obtain ⟨h, rfl, hh1, hh2⟩ : ∃ h : Nat, mm = (h : Int) ∧ (∀ e ∈ steps mv st t, hv e.2 + 1 ≤ h) ∧ (h = 0 ∨ ∃ e ∈ steps mv st t, hv e.2 + 1 = h) := by
                rcases hmm with ⟨z, rfl⟩ | ⟨hm, hge⟩
                · refine ⟨0, rfl, fun e he => ?_, .inl rfl⟩
                  have := List.map_eq_nil_iff.mp z
                  rw [this] at he
                  cases he
                · obtain ⟨e, he, rfl⟩ := List.mem_map.mp hm
                  exact ⟨hv e.2 + 1, by omega, fun e' he' => by have := hge _ (List.mem_map.mpr ⟨e', he', rfl⟩); omega, .inr ⟨e, he, rfl⟩⟩
              have s79 := s8.trans s9
              have hf9 := s79 _ _ hf7
              have hz : (kvG (qu.take i) fun s => .int (hv s : Int)).length < sizeLine := len_lt (by rw [kvG_len, List.length_take]; omega)
              refine ⟨_, rfl, _, rfl, df, _, rfl, DPut.k (k := Sum.inl (t : Int)) hf9 hz, ?_⟩
              have ep : putK (kvG (qu.take i) fun s => .int (hv s : Int)) (.inl (t : Int)) (.int (h : Int)) = kvG (qu.take (i + 1)) fun s => .int ((if s = t then h else hv s : Nat) : Int) := by
                rw [put_new hnt, tk]
                refine kvG_congr fun u _ => ?_
                show (if u = t then V.int (h : Int) else V.int (hv u : Int)) = V.int ((if u = t then h else hv u : Nat) : Int)
                by_cases c : u = t
                · rw [if_pos c, if_pos c]
                · rw [if_neg c, if_neg c]
              rw [ep]
              have s10 : Same H (upd H9 df (.dK (kvG (qu.take (i + 1)) fun s => .int ((if s = t then h else hv s : Nat) : Int)))) := same_put (s7.trans s79) hdfH
              have B10 := (B7.same s79).off nfdb nfad (.dK (kvG (qu.take (i + 1)) fun s => .int ((if s = t then h else hv s : Nat) : Int)))
              have hm10 : (upd H9 df (.dK (kvG (qu.take (i + 1)) fun s => .int ((if s = t then h else hv s : Nat) : Int)))) dm = some (.dK (kvG R fun s => .int (ms s))) := by rw [upd_ne nfdm.symm]; exact s79 _ _ hm7
              have hq10 : (upd H9 df (.dK (kvG (qu.take (i + 1)) fun s => .int ((if s = t then h else hv s : Nat) : Int)))) qa = some (.lst (nv qu)) := by rw [upd_ne nfqa.symm]; exact s79 _ _ hq7
              have hf10 : (upd H9 df (.dK (kvG (qu.take (i + 1)) fun s => .int ((if s = t then h else hv s : Nat) : Int)))) df = some (.dK (kvG (qu.take (i + 1)) fun s => .int ((if s = t then h else hv s : Nat) : Int))) := upd_same
              generalize upd H9 df (.dK (kvG (qu.take (i + 1)) fun s => .int ((if s = t then h else hv s : Nat) : Int))) = H10 at s10 B10 hm10 hq10 hf10 ⊢
              have hvb : DGet H10 db (.int (t : Int)) (some (.ref (ad t))) := by
                have z := DGet.k (k := Sum.inl (t : Int)) B10.hd
                rw [val_in htR] at z
                exact z
              have hat := B10.at_ t htR
              refine ⟨_, rfl, _, rfl, db, _, rfl, hvb, ad t, rfl, ⟨_, SqL.of hat⟩, ?_⟩
              have E0 := L7.enter ht (hits4 t htR) (hsub t htR) hh1 hh2
              refine for_list (K := K) (a := ad t) (xs := nv (bl t)) (fun j σ H' => ∃ (qu2 : List Nat) (ms2 : Nat → Int) (v10 : Option V), σ = [some (.ref x), some (.ref l), some (.int (t : Int)), some (.ref db), some (.ref dm), u5, u6, some (.ref qa), some (.ref df), some (.int ((i : Int) + 1)), v10] ∧ Same H H' ∧ Bf H' db R ad bl ∧
                  H' dm = some (.dK (kvG R fun s => .int (ms2 s))) ∧ H' qa = some (.lst (nv qu2)) ∧ H' df = some (.dK (kvG (qu2.take (i + 1)) fun s => .int ((if s = t then h else hv s : Nat) : Int))) ∧ HL2 mv st R qu2 i t (bl t) j ms2 (fun s => if s = t then h else hv s))
                ⟨qu, ms, u10, rfl, s10, B10, hm10, hq10, hf10, E0⟩ (fun j σ H' _ ⟨_, _, _, _, _, B', _⟩ => SqL.of (B'.at_ t htR)) ?_ ?_
              · rintro j y σ H11 hy ⟨qu2, ms2, w10, rfl, s11, B11, hm11, hq11, hf11, E11⟩
                obtain ⟨e, he, rfl⟩ := nv_get hy
                have heR := hsub t htR e (at_mem he)
                have hvm : DGet H11 dm (.int (e : Int)) (some (.int (ms2 e))) := by
                  have z := DGet.k (k := Sum.inl (e : Int)) hm11
                  rw [val_in heR] at z
                  exact z
                have hzm : (kvG R fun s => .int (ms2 s)).length < sizeLine := len_lt (by rw [kvG_len]; omega)
                refine ⟨_, rfl, _, rfl, dm, _, rfl, hvm, _, _, rfl, rfl, _, DPut.k (k := Sum.inl (e : Int)) hm11 hzm, ?_⟩
                have ep2 : putK (kvG R fun s => .int (ms2 s)) (.inl (e : Int)) (.int (ms2 e - 1)) = kvG R fun s => .int (if s = e then ms2 e - 1 else ms2 s) := by
                  rw [put_old heR]
                  refine kvG_congr fun u _ => ?_
                  show (if u = e then V.int (ms2 e - 1) else V.int (ms2 u)) = V.int (if u = e then ms2 e - 1 else ms2 u)
                  by_cases c : u = e
                  · rw [if_pos c, if_pos c]
                  · rw [if_neg c, if_neg c]
                rw [ep2]
                have s12 : Same H (upd H11 dm (.dK (kvG R fun s => .int (if s = e then ms2 e - 1 else ms2 s)))) := same_put s11 hdmH
                have B12 := B11.off ndm hadm (.dK (kvG R fun s => .int (if s = e then ms2 e - 1 else ms2 s)))
                have hm12 : (upd H11 dm (.dK (kvG R fun s => .int (if s = e then ms2 e - 1 else ms2 s)))) dm = some (.dK (kvG R fun s => .int (if s = e then ms2 e - 1 else ms2 s))) := upd_same
                have hq12 : (upd H11 dm (.dK (kvG R fun s => .int (if s = e then ms2 e - 1 else ms2 s)))) qa = some (.lst (nv qu2)) := by rw [upd_ne nqdm]; exact hq11
                have hf12 : (upd H11 dm (.dK (kvG R fun s => .int (if s = e then ms2 e - 1 else ms2 s)))) df = some (.dK (kvG (qu2.take (i + 1)) fun s => .int ((if s = t then h else hv s : Nat) : Int))) := by rw [upd_ne nfdm]; exact hf11
                generalize upd H11 dm (.dK (kvG R fun s => .int (if s = e then ms2 e - 1 else ms2 s))) = H12 at s12 B12 hm12 hq12 hf12 ⊢
                have hvm2 : DGet H12 dm (.int (e : Int)) (some (.int (ms2 e - 1))) := by
                  have z := DGet.k (k := Sum.inl (e : Int)) hm12
                  rw [val_in heR, if_pos rfl] at z
                  exact z
                obtain ⟨t1, t2⟩ := E11.turn he
                refine ⟨_, rfl, _, rfl, dm, _, rfl, hvm2, rfl, _, rfl, ?_⟩
                by_cases c : ms2 e - 1 = 0
                · obtain ⟨hnq, E12⟩ := t1 c
                  have hq2R : qu2.length ≤ R.length := nat_nodup_len qu2 R E11.qnd E11.sub
                  refine itC (decide_eq_true (by rw [c])) ⟨_, rfl, .inl ⟨rfl, _, SqL.of hq12⟩, _, rfl, qa, _, _, rfl, rfl, hq12, len_lt (by rw [nv_len]; omega), ?_⟩
                  refine ⟨qu2 ++ [e], _, _, rfl, same_put s12 hqaH, B12.off nqdb nqad _, ?_, ?_, ?_, E12⟩
                  · rw [upd_ne nqdm.symm]
                    exact hm12
                  · rw [upd_same, nv_app]
                    rfl
                  · rw [upd_ne nfqa, List.take_append_of_le_length (at_lt E11.ht)]
                    exact hf12
                · exact itN (decide_eq_false fun z => c (V.int.inj z)) ⟨qu2, _, _, rfl, s12, B12, hm12, hq12, hf12, t2 c⟩
              · rintro σ H11 ⟨qu2, ms2, w10, rfl, s11, B11, hm11, hq11, hf11, E11⟩
                rw [nv_len] at E11
                exact ⟨qu2, ms2, _, _, _, _, _, rfl, s11, B11, hm11, hq11, hf11, E11.leave⟩
          · refine itN (decide_eq_false (by rw [nv_len]; omega)) ⟨_, rfl, q _ df R qu hv s7 hdfH ?_ ?_ hlt⟩
            · rw [List.take_of_length_le (by omega)] at hf7
              exact hf7
            · have e : i = qu.length := Nat.le_antisymm L7.il (by omega)
              subst e
              exact L7.hts h0 hcl
end
end K61

/-! endless, longest_open. -/
namespace K61
open PySem PySem.Spec PyProof.Rows L2
section
variable {P : Program} {w : World} {K : PySem.W.Frag} {mg : Str → Option Value} {base : Heap}
abbrev sEndless : Stmt := top 32
abbrev sLongest : Stmt := top 33
def spEndless (K : PySem.W.Frag) (C : Addr) : Sp := fun vs H Q _ => ∃ (x d : Addr) (k n : Nat) (mv : List (List Nat)) (st : List Bool) (B : List Nat → Prop) (R kn : List Nat) (hv : Nat → Nat), vs = [.ref x, .ref d] ∧ Rec K C H x k mv st ∧ Mach k n mv st B ∧ n ≤ 100000 ∧ k ≤ 4 ∧
  H d = some (.dK (kvG kn fun s => .int (hv s : Int))) ∧ Hts mv st R kn hv ∧ (∀ s ∈ R, s < n) ∧ 0 ∉ kn ∧
  ∀ (H' : Hp) (t ta tb : Addr) (us : List V), Same H H' → H' t = some (.tup [.str (Str.ofString "endless"), .ref ta, .ref tb]) → SqT K H' ta us → Q (.ref t) H'
theorem sc_endless : FnScope ["machine", "known", "state", "letters", "seen", "step", "letter"] ["machine", "known"] (defScope sEndless) := ⟨rfl, rfl, rfl, by decide +kernel, rfl, by decide +kernel, by decide +kernel⟩
theorem ok_endless {f C : Addr} {fd : FuncData} (F : Fun K "endless" "endless" sEndless f fd) (N : Nm mg) (T : RT K mg C) (S : Mt P w K mg base C "steps" 1 ["self", "state"] (spSteps K C)) : FnOk P w K mg base CX0 2 f fd ["machine", "known"] (spEndless K C) := by
  refine F.ok sc_endless (fun vs H Q E h => ?_) (fun cdv A outer s H vs Q E hr h => ?_)
  · obtain ⟨x, d, _, _, _, _, _, _, _, _, rfl, _⟩ := h
    rfl
  · obtain ⟨x, d, k, n, mv, st, B, R, kn, hv, rfl, R0, M, hn, hk4, hd, HT, hRn, h0, q⟩ := h
    have hu := hu_of hr
    refine ⟨_, pss_cons (ps_par3 (i := 2) (j := 3) (l := 4) rfl sc_endless.nd rfl rfl rfl (by decide) (by decide) (by decide) rfl rfl rfl (pa_cons pe_int (pa_cons (pe_lst pa_nil) (pa_cons pe_dnewK pa_nil))) (by rfl))
      (pss_cons (ps_while PassesOwn.never (pt_cmp (pc_dnotin hu (pv 2) (pv 4)))
        (pss_cons (ps_dput hu (pv 4) (pv 2) (pe_callB call_len_seq (by rfl) N.len PySem.boot_len (pa_cons (pv 3) pa_nil)) rfl)
        (pss_cons (ps_asg (pe_ix ix_list (pe_lc (own := [("step", 5)]) (g := gName 5) (tt := tB (tDNotIn (tOp (rIxT K) (tVar 5) (tC (.int 1))) (tVar 1))) (te := tVar 5) rfl sc_endless.nd (pi_list (pe_meth (pv 0) T.cl S.m S.ok hr S.b .nil pass0 (pa_cons (pv 2) pa_nil)))
            (blkOk_by (N := ["machine", "known", "state", "letters", "seen", "step", "letter"]) (sc := defScope sEndless) (by decide +kernel)) (fun _ _ _ _ _ => pg_name (i := 5) sc_endless.nd rfl (Or.inl rfl))
            (fun _ _ _ _ _ => pts_one (pt_cmp (pc_dnotin hu (pe_ix ix_tup (pv 5) pe_int (fun _ _ => rfl)) (pv 1)))) (fun _ _ _ _ _ => pv 5)) pe_int (fun _ _ => rfl))
          (pg_tup rfl (pgs_cons (pg_name (i := 6) sc_endless.nd rfl (Or.inl rfl)) (pgs_cons (pg_name (i := 2) sc_endless.nd rfl (Or.inl rfl)) pgs_nil))))
        (pss_one (ps_expr (pe_bm PySem.F.plainAttrs_list PySem.F.slot_list_append PySem.F.type_list_append mt_append (pv 3) (pa_cons (pv 6) pa_nil)))))))
      (pss_one (ps_ret (pe_tup (pa_cons pe_str (pa_cons (pe_callTy call_tuple_of (by rfl) N.tuple (by decide +kernel) (pa_cons (pe_slice sl_list (pv 3) po_none (po_some (pe_dget hu (pv 4) (pv 2) (fun _ _ => rfl)))) pa_nil))
        (pa_cons (pe_callTy call_tuple_of (by rfl) N.tuple (by decide +kernel) (pa_cons (pe_slice sl_list (pv 3) (po_some (pe_dget hu (pv 4) (pv 2) (fun _ _ => rfl))) po_none) pa_nil)) pa_nil))))))), ?_⟩
    refine ⟨Nat.zero_le _, fun l hl d2 hd2 => ⟨_, _, _, rfl, ?_⟩⟩
    have hd2H : H d2 = none := (same_upd hl).free hd2
    have nld : l ≠ d2 := ne_of_none upd_same hd2
    have s0 : Same H (upd (upd H l (.lst [])) d2 (.dK [])) := (same_upd hl).trans (same_upd hd2)
    have l0 : (upd (upd H l (.lst [])) d2 (.dK [])) l = some (.lst []) := by rw [upd_ne nld, upd_same]
    have e0 : (upd (upd H l (.lst [])) d2 (.dK [])) d2 = some (.dK (kvG [] fun _ => .int (0 : Int))) := upd_same
    generalize upd (upd H l (.lst [])) d2 (.dK []) = H1 at s0 l0 e0 ⊢
    refine ⟨fun μ σ H' => ∃ (sn : Nat) (Z : List Nat) (idx : Nat → Int) (us : List V) (v5 v6 : Option V), μ + Z.length = n ∧ σ = [some (.ref x), some (.ref d), some (.int (sn : Int)), some (.ref l), some (.ref d2), v5, v6] ∧ Same H H' ∧ H' l = some (.lst us) ∧ us.length = Z.length ∧ H' d2 = some (.dK (kvG Z fun s => .int (idx s))) ∧
        Z.Nodup ∧ (∀ s ∈ Z, s < n) ∧ sn ∈ R ∧ sn ∉ kn, ⟨n, 0, [], fun _ => 0, [], none, none, rfl, rfl, s0, l0, rfl, e0, List.nodup_nil, fun _ h => (by cases h), HT.zero, h0⟩, ?_⟩
    rintro μ σ H2 ⟨sn, Z, idx, us, v5, v6, hμ, rfl, s2, hl2, hul, hd22, hnd, hlt, hsR, hsk⟩
    have hZn := len_of_nd n Z hnd hlt
    refine ⟨_, rfl, _, rfl, d2, _, rfl, DGet.k (k := Sum.inl (sn : Int)) hd22, _, rfl, ?_⟩
    by_cases hin : sn ∈ Z
    · refine itN (by rw [val_in hin]; rfl) ?_
      have hvs : ∀ {H' : Hp}, Same H2 H' → DGet H' d2 (.int (sn : Int)) (some (.int (idx sn))) := fun {H'} s3 => by
        have z := DGet.k (k := Sum.inl (sn : Int)) (s3 _ _ hd22)
        rw [val_in hin] at z
        exact z
      refine ⟨_, rfl, _, rfl, _, rfl, d2, _, rfl, hvs (Same.refl _), _, rfl, l, us, rfl, SqL.of hl2, fun c hc => ⟨c, _, rfl, .inl ⟨SqL.of upd_same, fun ta hta => ?_⟩⟩⟩
      have s3 := (same_upd (o := .lst (cutV us none (some (idx sn)))) hc)
      have s4 := s3.trans (same_upd (o := .tup (cutV us none (some (idx sn)))) hta)
      have hta4 : (upd (upd H2 c (.lst (cutV us none (some (idx sn))))) ta (.tup (cutV us none (some (idx sn))))) ta = some (.tup (cutV us none (some (idx sn)))) := upd_same
      generalize upd (upd H2 c (.lst (cutV us none (some (idx sn))))) ta (.tup (cutV us none (some (idx sn)))) = H4 at s4 hta4 ⊢
      refine ⟨_, rfl, _, rfl, _, rfl, d2, _, rfl, hvs s4, _, rfl, l, us, rfl, SqL.of (s4 _ _ hl2), fun c2 hc2 => ⟨c2, _, rfl, .inl ⟨SqL.of upd_same, fun tb htb => ?_⟩⟩⟩
      have s5 := (same_upd (o := .lst (cutV us (some (idx sn)) none)) hc2).trans (same_upd (o := .tup (cutV us (some (idx sn)) none)) htb)
      refine ⟨by show 3 ≤ sizeLine; decide, fun t ht => ?_⟩
      have s6 := s5.trans (same_upd (o := .tup [.str (Str.ofString "endless"), .ref ta, .ref tb]) ht)
      exact q _ t ta tb _ (s2.trans (s4.trans s6)) upd_same (SqT.of (s6 _ _ hta4))
    · refine itC (by rw [val_kvG, if_neg hin]; rfl) ?_
      have hsn := hRn sn hsR
      have hnd' : (Z ++ [sn]).Nodup := List.nodup_append.mpr ⟨hnd, by simp, fun a ha b hb z => hin (by rw [List.mem_singleton.mp hb] at z; exact z ▸ ha)⟩
      have hlt' : ∀ s ∈ Z ++ [sn], s < n := fun s hs => by
        rcases List.mem_append.mp hs with z | z
        · exact hlt s z
        · rw [List.mem_singleton.mp z]
          exact hsn
      have hZn' := len_of_nd n _ hnd' hlt'
      rw [List.length_append, List.length_singleton] at hZn'
      refine ⟨fun σ' H' => ∃ (sn' : Nat) (idx : Nat → Int) (us : List V) (v5 v6 : Option V), σ' = [some (.ref x), some (.ref d), some (.int (sn' : Int)), some (.ref l), some (.ref d2), v5, v6] ∧ Same H H' ∧ H' l = some (.lst us) ∧ us.length = (Z ++ [sn]).length ∧ H' d2 = some (.dK (kvG (Z ++ [sn]) fun s => .int (idx s))) ∧
          sn' ∈ R ∧ sn' ∉ kn, fun σ' H' ⟨a1, a2, a3, a4, a5, a6, a7, a8, a9, a10, a11⟩ => ⟨μ - 1, by omega, a1, Z ++ [sn], a2, a3, a4, a5, by rw [List.length_append, List.length_singleton]; omega, a6, a7, a8, a9, a10, hnd', hlt', a11⟩, ?_⟩
      refine ⟨_, rfl, l, us, rfl, .inl (SqL.of hl2), _, rfl, _, rfl, d2, _, rfl, DPut.k (k := Sum.inl (sn : Int)) hd22 (len_lt (by rw [kvG_len]; omega)), ?_⟩
      have ep : putK (kvG Z fun s => .int (idx s)) (.inl (sn : Int)) (.int (us.length : Int)) = kvG (Z ++ [sn]) fun s => .int (if s = sn then (us.length : Int) else idx s) := by
        rw [put_new hin]
        refine kvG_congr fun u _ => ?_
        show (if u = sn then V.int (us.length : Int) else V.int (idx u)) = V.int (if u = sn then (us.length : Int) else idx u)
        by_cases c : u = sn
        · rw [if_pos c, if_pos c]
        · rw [if_neg c, if_neg c]
      rw [ep]
      have s3 : Same H (upd H2 d2 (.dK (kvG (Z ++ [sn]) fun s => .int (if s = sn then (us.length : Int) else idx s)))) := same_put s2 hd2H
      have hl3 : (upd H2 d2 (.dK (kvG (Z ++ [sn]) fun s => .int (if s = sn then (us.length : Int) else idx s)))) l = some (.lst us) := by rw [upd_ne nld]; exact hl2
      have hd3 : (upd H2 d2 (.dK (kvG (Z ++ [sn]) fun s => .int (if s = sn then (us.length : Int) else idx s)))) d2 = some (.dK (kvG (Z ++ [sn]) fun s => .int (if s = sn then (us.length : Int) else idx s))) := upd_same
      generalize upd H2 d2 (.dK (kvG (Z ++ [sn]) fun s => .int (if s = sn then (us.length : Int) else idx s))) = H3 at s3 hl3 hd3 ⊢
      have R3 := R0.same s3
      obtain ⟨dx3, lc3, ls3, lf3, lm3, fs3, rs3, q5, q6, _⟩ := R3.all
      refine ⟨_, rfl, x, dx3, fs3, rfl, q5, q6.steps, _, rfl, x, sn, k, n, mv, st, B, rfl, R3, M, hsn, hk4, fun H4 b xs s4 hb hb4 pr => ⟨b, rfl, ⟨_, SqL.of hb4⟩, fun D hD => ?_⟩⟩
      have hfew := M.few hsn
      have hdk4 := (s3.trans s4) _ _ hd
      refine lc_list (K := K) (a := b) (xs := xs) (fun j Hc => ∃ ys, Same H4 Hc ∧ Hc D = some (.lst ys) ∧ Pr K Hc ys (((steps mv st sn).take j).filter fun e => decide (e.2 ∉ kn))) ⟨[], same_upd hD, upd_same, .nil⟩ (fun j Hc _ ⟨_, sc, _⟩ => sc.seq (SqL.of hb4)) ?_ ?_
      · rintro j y H5 hy ⟨ys, s5, hD5, pr5⟩
        obtain ⟨tt, e, rfl, he, hT⟩ := (pr.same s5).get hy
        have hyl : ys.length < sizeLine := len_lt (by
          rw [pr5.len]
          have := List.length_filter_le (fun e : Nat × Nat => decide (e.2 ∉ kn)) ((steps mv st sn).take j)
          rw [List.length_take] at this
          omega)
        refine ⟨rfl, _, rfl, tt, _, _, .int (e.2 : Int), rfl, rfl, hT, atI_nat (j := 1) rfl, _, rfl, d, _, rfl, DGet.k (k := Sum.inl (e.2 : Int)) (s5 _ _ hdk4), _, rfl, ?_⟩
        rw [List.take_add_one, he]
        by_cases c : e.2 ∈ kn
        · refine itN (by rw [val_in c]; rfl) ⟨ys, s5, hD5, ?_⟩
          rw [List.filter_append, show ((some e).toList.filter fun e => decide (e.2 ∉ kn)) = [] from by simp [c], List.append_nil]
          exact pr5
        · refine itC (by rw [val_kvG, if_neg c]; rfl) ⟨_, rfl, ys, hD5, hyl, ys ++ [.ref tt], same_put s5 hD, upd_same, ?_⟩
          rw [List.filter_append, show ((some e).toList.filter fun e => decide (e.2 ∉ kn)) = [e] from by simp [c]]
          exact (pr5.upd hD5).app (Pr.one (tupU hT hD5))
      · rintro H5 ⟨ys, s5, hD5, pr5⟩
        rw [pr.len, List.take_length] at pr5
        obtain ⟨e0, he0, hn0⟩ := HT.rest sn hsR hsk
        have hne : 0 < ys.length := by
          rw [pr5.len]
          exact List.length_pos_of_mem (List.mem_filter.mpr ⟨he0, decide_eq_true hn0⟩)
        obtain ⟨y0, hy0⟩ := at_some hne
        obtain ⟨tt, e, rfl, he, hT⟩ := pr5.get hy0
        obtain ⟨hes, hek⟩ := List.mem_filter.mp (at_mem he)
        have hek' : e.2 ∉ kn := of_decide_eq_true hek
        refine ⟨D, ys, _, _, rfl, rfl, SqL.of hD5, atI_nat (j := 0) hy0, tt, _, rfl, hT, rfl, _, _, rfl, _, _, rfl, rfl, ?_⟩
        have hl5 := (s4.trans s5) _ _ hl3
        have hd5 := (s4.trans s5) _ _ hd3
        have s35 := s3.trans (s4.trans s5)
        refine ⟨_, rfl, .inl ⟨rfl, _, SqL.of hl5⟩, _, rfl, l, us, _, rfl, rfl, hl5, len_lt (by omega), ?_⟩
        refine ⟨e.2, fun s => if s = sn then (us.length : Int) else idx s, us ++ [.int (e.1 : Int)], _, _, rfl, same_put s35 hl, upd_same, ?_, ?_, HT.shut sn hsR e hes, hek'⟩
        · rw [List.length_append, List.length_append, hul]
          rfl
        · rw [upd_ne nld.symm]
          exact hd5
def spLongest (K : PySem.W.Frag) : Sp := fun vs H Q _ => ∃ (p : List Nat) (k m : Nat), vs = [.str (tx p), .int (k : Int), .int (m : Int)] ∧ PatOk p ∧ p.length ≤ 8 ∧ p ≠ [] ∧ 1 ≤ k ∧ k ≤ 4 ∧ 1 ≤ m ∧ m ≤ 4 ∧ size p k m ≤ 4096 ∧
  (∀ (H' : Hp) (t ta : Addr) (us : List V), Same H H' → H' t = some (.tup [.str (Str.ofString "finite"), .ref ta]) → SqT K H' ta us → Told k (Bl p k m) (some us.length) → Q (.ref t) H') ∧
  (∀ (H' : Hp) (t ta tb : Addr) (us : List V), Same H H' → H' t = some (.tup [.str (Str.ofString "endless"), .ref ta, .ref tb]) → SqT K H' ta us → Told k (Bl p k m) none → Q (.ref t) H')
theorem sc_longest : FnScope ["pattern", "letters", "longest", "machine", "known", "state", "text", "step", "letter"] ["pattern", "letters", "longest"] (defScope sLongest) := ⟨rfl, rfl, rfl, by decide +kernel, rfl, by decide +kernel, by decide +kernel⟩
theorem ok_longest {f C : Addr} {fd : FuncData} (F : Fun K "longest_open" "longest_open" sLongest f fd) (N : Nm mg) (T : RT K mg C) (NB : At P w K mg base "need_bounds" 4 ["pattern", "letters", "longest"] spNeedB) (RG : At P w K mg base "recognizer" 4 ["pattern", "letters", "longest"] (spRecog K C))
    (HE : At P w K mg base "heights" 3 ["machine"] (spHeights K C)) (EN : At P w K mg base "endless" 2 ["machine", "known"] (spEndless K C)) (S : Mt P w K mg base C "steps" 1 ["self", "state"] (spSteps K C)) : FnOk P w K mg base CX0 5 f fd ["pattern", "letters", "longest"] (spLongest K) := by
  refine F.ok sc_longest (fun vs H Q E h => ?_) (fun cdv A outer s H vs Q E hr h => ?_)
  · obtain ⟨p, k, m, rfl, _⟩ := h
    rfl
  · obtain ⟨p, k, m, rfl, hpo, hp8, hne, k1, k4, m1, m4, hs, qF, qE⟩ := h
    have hu := hu_of hr
    refine ⟨_, pss_cons (ps_expr (pe_call NB.ok hr (by rfl) NB.m NB.kp NB.b .nil pass0 (pa_cons (pv 0) (pa_cons (pv 1) (pa_cons (pv 2) pa_nil)))))
      (pss_cons (ps_set (i := 3) sc_longest.nd rfl (Or.inl rfl) (pe_call RG.ok hr (by rfl) RG.m RG.kp RG.b .nil pass0 (pa_cons (pv 0) (pa_cons (pv 1) (pa_cons (pv 2) pa_nil)))))
      (pss_cons (ps_set (i := 4) sc_longest.nd rfl (Or.inr rfl) (pe_call HE.ok (hr.mono (by decide)) (by rfl) HE.m HE.kp HE.b .nil pass0 (pa_cons (pv 3) pa_nil)))
      (pss_cons (ps_if (pt_cmp (pc_dnotin hu pe_int (pv 4))) (pss_one (ps_ret (pe_call EN.ok (hr.mono (by decide)) (by rfl) EN.m EN.kp EN.b .nil pass0 (pa_cons (pv 3) (pa_cons (pv 4) pa_nil))))) pss_nil)
      (pss_cons (ps_asg (pe_tup (pa_cons pe_int (pa_cons (pe_tup pa_nil) pa_nil))) (pg_tup rfl (pgs_cons (pg_name (i := 5) sc_longest.nd rfl (Or.inr rfl)) (pgs_cons (pg_name (i := 6) sc_longest.nd rfl (Or.inl rfl)) pgs_nil))))
      (pss_cons (ps_while PassesOwn.never (pt_cmpR op_gt (pe_dget hu (pv 4) (pv 5) (fun _ _ => rfl)) pe_int (nomark _))
        (pss_cons (ps_asg (pe_ix ix_list (pe_lc (own := [("step", 7)]) (g := gName 7) (tt := tTest (tOp rEq (tDGet (tVar 4) (tOp (rIxT K) (tVar 7) (tC (.int 1)))) (tOp (rI0 fun i j => .int (i - j)) (tDGet (tVar 4) (tVar 5)) (tC (.int 1))))) (te := tVar 7) rfl sc_longest.nd
            (pi_list (pe_meth (pv 3) T.cl S.m S.ok (hr.mono (by decide)) S.b .nil pass0 (pa_cons (pv 5) pa_nil)))
            (blkOk_by (N := ["pattern", "letters", "longest", "machine", "known", "state", "text", "step", "letter"]) (sc := defScope sLongest) (by decide +kernel)) (fun _ _ _ _ _ => pg_name (i := 7) sc_longest.nd rfl (Or.inl rfl))
            (fun _ _ _ _ _ => pts_one (pt_cmpR op_eq (pe_dget hu (pv 4) (pe_ix ix_tup (pv 7) pe_int (fun _ _ => rfl)) (fun _ _ => rfl)) (pe_op op_sub (pe_dget hu (pv 4) (pv 5) (fun _ _ => rfl)) pe_int) (nomark _))) (fun _ _ _ _ _ => pv 7)) pe_int (fun _ _ => rfl))
          (pg_tup rfl (pgs_cons (pg_name (i := 8) sc_longest.nd rfl (Or.inl rfl)) (pgs_cons (pg_name (i := 5) sc_longest.nd rfl (Or.inr rfl)) pgs_nil))))
        (pss_one (ps_aug (i := 6) sc_longest.nd rfl (Or.inl rfl) (pe_tup (pa_cons (pv 8) pa_nil)) iop_catA))))
      (pss_one (ps_ret (pe_tup (pa_cons pe_str (pa_cons (pv 6) pa_nil)))))))))), ?_⟩
    refine ⟨_, rfl, _, rfl, _, rfl, p, k, m, rfl, hpo, hne, k1, k4, m1, m4, fun H1 s1 => ?_⟩
    refine ⟨_, rfl, _, rfl, _, rfl, p, k, m, rfl, hp8, hne, k1, k4, m1, m4, hs, fun H2 x n mv st s2 R2 M hn => ?_⟩
    refine ⟨_, rfl, x, k, n, mv, st, Bl p k m, rfl, R2, M, hn, k4, fun H3 d R kn hv s3 hd hd3 HT hRn => ?_⟩
    have hB : ¬ Bl p k m [] := Bl.ne_nil hne
    obtain ⟨tF, tE⟩ := HT.told M hB
    have s13 := s1.trans (s2.trans s3)
    have R3 := R2.same s3
    refine ⟨_, rfl, d, _, rfl, DGet.k (k := Sum.inl ((0 : Nat) : Int)) hd3, _, rfl, ?_⟩
    by_cases h0 : 0 ∈ kn
    · refine itN (by rw [val_in h0]; rfl) ?_
      have told := tF h0
      refine ⟨Nat.zero_le _, fun t0 ht0 => ⟨by show 2 ≤ sizeLine; decide, fun t1 ht1 => ⟨t1, _, rfl, SqT.of upd_same, rfl, _, _, rfl, _, _, rfl, rfl, ?_⟩⟩⟩
      have s4 : Same H3 (upd (upd H3 t0 (.tup [])) t1 (.tup [.int 0, .ref t0])) := (same_upd ht0).trans (same_upd ht1)
      have h4 : (upd (upd H3 t0 (.tup [])) t1 (.tup [.int 0, .ref t0])) t0 = some (.tup []) := (same_upd ht1) _ _ upd_same
      generalize upd (upd H3 t0 (.tup [])) t1 (.tup [.int 0, .ref t0]) = H4 at s4 h4 ⊢
      refine ⟨fun μ σ H' => ∃ (sn : Nat) (tt : Addr) (us : List V) (Z : List Nat) (v7 v8 : Option V), μ = hv sn ∧ σ = [some (.str (tx p)), some (.int (k : Int)), some (.int (m : Int)), some (.ref x), some (.ref d), some (.int (sn : Int)), some (.ref tt), v7, v8] ∧ Same H3 H' ∧ SqT K H' tt us ∧ sn ∈ kn ∧ us.length + hv sn = hv 0 ∧
          Z.length = us.length ∧ Z.Nodup ∧ ∀ z ∈ Z, z < n ∧ hv sn < hv z, ⟨hv 0, 0, t0, [], [], none, none, rfl, rfl, s4, SqT.of h4, h0, by rw [List.length_nil, Nat.zero_add], rfl, List.nodup_nil, fun _ h => (by cases h)⟩, ?_⟩
      rintro μ σ H5 ⟨sn, tt, us, Z, v7, v8, rfl, rfl, s5, hT5, hsk, hlen, hZl, hZn, hZ⟩
      have hvd : ∀ {H' : Hp} {s : Nat}, Same H5 H' → s ∈ kn → DGet H' d (.int (s : Int)) (some (.int (hv s : Int))) := fun {H' s} s6 hs => by
        have z := DGet.k (k := Sum.inl (s : Int)) ((s5.trans s6) _ _ hd3)
        rw [val_in hs] at z
        exact z
      have hZ1 := len_of_nd n Z hZn fun z hz => (hZ z hz).1
      refine ⟨_, rfl, _, rfl, d, _, rfl, hvd (Same.refl _) hsk, _, _, rfl, rfl, _, rfl, ?_⟩
      by_cases hz : hv sn = 0
      · refine itN (decide_eq_false (by omega)) ⟨_, rfl, by show 2 ≤ sizeLine; decide, fun t ht => ?_⟩
        have s6 := same_upd (o := .tup [.str (Str.ofString "finite"), .ref tt]) ht
        refine qF _ t tt us (s13.trans (s5.trans s6)) upd_same (sameT s6 hT5) ?_
        have e : us.length = hv 0 := by omega
        rw [e]
        exact told
      · refine itC (decide_eq_true (by omega)) ?_
        have hsn : sn < n := hRn sn (HT.sub sn hsk)
        refine ⟨fun σ' H' => ∃ (s' : Nat) (tt : Addr) (us' : List V) (v7 v8 : Option V), σ' = [some (.str (tx p)), some (.int (k : Int)), some (.int (m : Int)), some (.ref x), some (.ref d), some (.int (s' : Int)), some (.ref tt), v7, v8] ∧ Same H3 H' ∧ SqT K H' tt us' ∧ s' ∈ kn ∧ us'.length = us.length + 1 ∧ hv s' + 1 = hv sn,
          fun σ' H' ⟨s', a2, a3, a4, a5, a6, a7, a8, a9, a10, a11⟩ => ⟨hv s', by omega, s', a2, a3, Z ++ [sn], a4, a5, rfl, a6, a7, a8, a9, by omega, by rw [List.length_append, a10, hZl]; rfl,
            List.nodup_append.mpr ⟨hZn, by simp, fun a ha b hb z => by rw [List.mem_singleton.mp hb] at z; have := (hZ a ha).2; rw [z] at this; omega⟩, fun z hz => by
              rcases List.mem_append.mp hz with y | y
              · have := hZ z y
                exact ⟨this.1, by omega⟩
              · rw [List.mem_singleton.mp y]
                exact ⟨hsn, by omega⟩⟩, ?_⟩
        have R5 := R3.same s5
        obtain ⟨dx3, lc3, ls3, lf3, lm3, fs3, rs3, q5, q6, _⟩ := R5.all
        refine ⟨_, rfl, x, dx3, fs3, rfl, q5, q6.steps, _, rfl, x, sn, k, n, mv, st, Bl p k m, rfl, R5, M, hsn, k4, fun H6 b xs s6 hb hb6 pr => ⟨b, rfl, ⟨_, SqL.of hb6⟩, fun D hD => ?_⟩⟩
        have hfew := M.few hsn
        refine lc_list (K := K) (a := b) (xs := xs) (fun j Hc => ∃ ys, Same H6 Hc ∧ Hc D = some (.lst ys) ∧ Pr K Hc ys (((steps mv st sn).take j).filter fun e => decide (hv e.2 + 1 = hv sn))) ⟨[], same_upd hD, upd_same, .nil⟩ (fun j Hc _ ⟨_, sc, _⟩ => sc.seq (SqL.of hb6)) ?_ ?_
        · rintro j y H7 hy ⟨ys, s7, hD7, pr7⟩
          obtain ⟨tt7, e, rfl, he, hT⟩ := (pr.same s7).get hy
          have hek := (HT.low sn hsk e (at_mem he)).1
          have hyl : ys.length < sizeLine := len_lt (by
            rw [pr7.len]
            have := List.length_filter_le (fun e : Nat × Nat => decide (hv e.2 + 1 = hv sn)) ((steps mv st sn).take j)
            rw [List.length_take] at this
            omega)
          refine ⟨rfl, _, rfl, _, rfl, tt7, _, _, .int (e.2 : Int), rfl, rfl, hT, atI_nat (j := 1) rfl, d, _, rfl, hvd (s6.trans s7) hek, _, rfl, _, rfl, d, _, rfl, hvd (s6.trans s7) hsk, _, _, rfl, rfl, rfl, _, rfl, ?_⟩
          rw [List.take_add_one, he]
          by_cases c : hv e.2 + 1 = hv sn
          · refine itC (decide_eq_true (congrArg V.int (by omega))) ⟨_, rfl, ys, hD7, hyl, ys ++ [.ref tt7], same_put s7 hD, upd_same, ?_⟩
            rw [List.filter_append, show ((some e).toList.filter fun e => decide (hv e.2 + 1 = hv sn)) = [e] from by simp [c]]
            exact (pr7.upd hD7).app (Pr.one (tupU hT hD7))
          · refine itN (decide_eq_false fun z => c (by have := V.int.inj z; omega)) ⟨ys, s7, hD7, ?_⟩
            rw [List.filter_append, show ((some e).toList.filter fun e => decide (hv e.2 + 1 = hv sn)) = [] from by simp [c], List.append_nil]
            exact pr7
        · rintro H7 ⟨ys, s7, hD7, pr7⟩
          rw [pr.len, List.take_length] at pr7
          obtain ⟨e0, he0, hn0⟩ := (HT.met sn hsk).resolve_left hz
          have hpos : 0 < ys.length := by
            rw [pr7.len]
            exact List.length_pos_of_mem (List.mem_filter.mpr ⟨he0, decide_eq_true hn0⟩)
          obtain ⟨y0, hy0⟩ := at_some hpos
          obtain ⟨tt7, e, rfl, he, hT⟩ := pr7.get hy0
          obtain ⟨hes, hek⟩ := List.mem_filter.mp (at_mem he)
          have hek' : hv e.2 + 1 = hv sn := of_decide_eq_true hek
          have hekn := (HT.low sn hsk e hes).1
          refine ⟨D, ys, _, _, rfl, rfl, SqL.of hD7, atI_nat (j := 0) hy0, tt7, _, rfl, hT, rfl, _, _, rfl, _, _, rfl, rfl, ?_⟩
          have s57 := s6.trans s7
          refine ⟨_, rfl, _, rfl, by show 1 ≤ sizeLine; decide, fun c1 hc1 => ?_⟩
          have s8 := s57.trans (same_upd (o := .tup [.int (e.1 : Int)]) hc1)
          refine ⟨tt, c1, us, _, rfl, rfl, sameT s8 hT5, SqT.of upd_same, ?_, fun z => ?_, fun _ z => absurd z (by simp), fun _ _ c2 hc2 => ?_⟩
          · show us.length + 1 ≤ sizeLine
            rw [sizeLine_eq]
            omega
          · exact ⟨e.2, c1, [.int (e.1 : Int)], _, _, rfl, s5.trans s8, SqT.of upd_same, hekn, by rw [z]; rfl, hek'⟩
          · exact ⟨e.2, c2, us ++ [.int (e.1 : Int)], _, _, rfl, s5.trans (s8.trans (same_upd hc2)), SqT.of upd_same, hekn, by rw [List.length_append]; rfl, hek'⟩
    · refine itC (by rw [val_kvG, if_neg h0]; rfl) ?_
      exact ⟨_, rfl, _, rfl, x, d, k, n, mv, st, Bl p k m, R, kn, hv, rfl, R3, M, hn, k4, hd3, HT, hRn, h0, fun H4 t ta tb us s4 ht hta => qE H4 t ta tb us (s13.trans s4) ht hta (tE h0)⟩
end
end K61

/-! sorted(set(text)): how many. -/
namespace K61
open PySem PySem.Spec PyProof.Rows L2
section
variable {P : Program} {w : World} {A : Around} {E : Value → Shared → Prop} {s : Shared} {a : Addr}

/-- a row of the set -/
def RowS (w : World) (L : List Str) (e : Int × Value) : Prop := ∃ z ∈ L, ∃ tk, e.2 = .str z tk ∧ e.1 = hashStr w z
/-- the set of texts at a, its members L -/
structure Txs (w : World) (h : Heap) (a : Addr) (L : List Str) (es : Array (Int × Value)) (ep : Nat) (t : SetTable) : Prop where
  obj : ∃ o, h.get? a = some o ∧ o.ExactSet ∧ o.data = .set es ep t
  rows : ∀ e ∈ es.toList, RowS w L e
  all : ∀ z ∈ L, ∃ e ∈ es.toList, ∃ tk, e.2 = .str z tk
  size : es.size = L.length
  nd : L.Nodup
  few : L.length < scanBound
  fits : t.fits es.size = true
  ris : Ris t.place.toList
  led : w.params.followText "set-order" = true ∨ t.led = true
variable {L : List Str} {es : Array (Int × Value)} {ep : Nat} {t : SetTable}
theorem rowS_elems {l : List (Int × Value)} (g : ∀ e ∈ l, RowS w L e) : ElemsOf (PySem.strKind P w) l := fun e he => by
  obtain ⟨z, _, tk, h1, h2⟩ := g e he
  refine ⟨⟨z, ?_, h2⟩, ?_⟩
  · rw [h1]
    exact strKind_is P w z tk
  · rw [h1] <;> rfl
theorem RowS.key {e : Int × Value} (g : RowS w L e) {z : Str} (h : (PySem.strKind P w).is z e.2 = true) : ∃ tk, e.2 = .str z tk := by
  obtain ⟨z', _, tk, h1, _⟩ := g
  rw [h1] at h
  have := (PySem.strKind P w).inj _ _ _ (strKind_is P w z' tk) h
  subst this
  exact ⟨tk, h1⟩
theorem set_at {h : Heap} {o : Obj} (ho : h.get? a = some o) (hd : o.data = .set es ep t) (es' : Array (Int × Value)) (t' : SetTable) : (h.update a (Obj.putSet es' t')).get? a = some { o with data := .set es' (ep + 1) t' } := by
  have q := Heap.get?_update_self (Obj.putSet es' t') ho (by rw [putSet_of es' t' hd]; rfl)
  rwa [putSet_of es' t' hd] at q
theorem Txs.add (B : Txs w s.heap a L es ep t) {z : Str} {tk : Tok} (room : L.length + 1 < scanBound) {Q : Bool → Shared → Prop}
    (hQ : ∀ b h' es' ep' t', Heap.SameBut a s.heap h' → Txs w h' a (if z ∈ L then L else z :: L) es' ep' t' → Q b { s with heap := h' }) : wpAny (model P w) A (setAddHashed a (.str z tk) (hashStr w z)) Q E s := by
  obtain ⟨o, ho, hex, hd⟩ := B.obj
  have key : (PySem.strKind P w).is z (.str z tk) = true := strKind_is P w z tk
  have elems : ElemsOf (PySem.strKind P w) es.toList := rowS_elems B.rows
  have small : es.size < scanBound := by rw [B.size]; exact B.few
  show wpAny (model P w) A (setAddHashed a (.str z tk) ((PySem.strKind P w).hash z)) Q E s
  unfold setAddHashed setAddHashedIn
  refine wpAny_holding (wpAny_bind (wpAny_setState_of ho hd B.fits ?_))
  dsimp only
  rw [byScan_of rfl small elems, if_pos rfl]
  refine wpAny_bind ?_
  unfold setAddByScan
  refine wpAny_bind (wpAny_rule (wpAny_bind (wpAny_setScan_of key ho hd B.fits elems ?_)))
  cases hf : List.findIdx? (fun e => (PySem.strKind P w).is z e.2) es.toList with
  | some j =>
    dsimp only
    obtain ⟨hj, pj, _⟩ := List.findIdx?_eq_some_iff_getElem.mp hf
    obtain ⟨z', hz', tk', h1, _⟩ := B.rows _ (List.getElem_mem hj)
    have hm : z ∈ L := by
      rw [h1] at pj
      have e := (PySem.strKind P w).inj _ _ _ (strKind_is P w z' tk') pj
      exact e ▸ hz'
    refine wpAny_pure (wpAny_pure ?_)
    exact hQ _ s.heap es ep t (Heap.SameBut.refl a s.heap) (by rw [if_pos hm]; exact B)
  | none =>
    dsimp only
    have hm : z ∉ L := fun hz => by
      obtain ⟨e, he, tk', h1⟩ := B.all z hz
      have c := List.findIdx?_eq_none_iff.mp hf e he
      rw [h1, strKind_is P w z tk'] at c
      cases c
    have gave : ∀ (b : Bool) (s₁ : Shared) (Q' : Unit → Shared → Prop), Q' () s₁ → wpAny (model P w) A (match b with | true => rule "set.scan.the-table-gave-way" | false => pure ()) Q' E s₁ :=
      fun b s₁ Q' q => by cases b <;> first | exact wpAny_pure q | exact wpAny_rule q
    have pm := layNew_perm t es ((PySem.strKind P w).hash z) (.str z tk)
    have f1 := layNew_fits t es ((PySem.strKind P w).hash z) (.str z tk)
    have r1 := layNew_ris t es ((PySem.strKind P w).hash z) (.str z tk) B.ris
    have l1 := layNew_led t es ((PySem.strKind P w).hash z) (.str z tk)
    generalize layNew t es ((PySem.strKind P w).hash z) (.str z tk) = lay at pm f1 r1 l1 ⊢
    obtain ⟨es1, t1, dummy, gv⟩ := lay
    dsimp only at pm f1 r1 l1 ⊢
    rw [Array.toList_push] at pm
    have led1 : w.params.followText "set-order" = true ∨ t1.led = true := B.led.imp id fun y => by rw [l1]; exact y
    have mem1 : ∀ e, e ∈ es1.toList ↔ e ∈ es.toList ∨ e = (hashStr w z, .str z tk) := fun e => by
      rw [pm.mem_iff, List.mem_append, List.mem_singleton]
      exact Iff.rfl
    have rows1 : ∀ e ∈ es1.toList, RowS w (z :: L) e := fun e he => by
      rcases (mem1 e).mp he with y | y
      · obtain ⟨z', h1, h2⟩ := B.rows e y
        exact ⟨z', List.mem_cons_of_mem _ h1, h2⟩
      · rw [y]
        exact ⟨z, List.mem_cons_self, tk, rfl, rfl⟩
    have all1 : ∀ y ∈ z :: L, ∃ e ∈ es1.toList, ∃ tk, e.2 = .str y tk := fun y hy => by
      rcases List.mem_cons.mp hy with c | c
      · exact ⟨_, (mem1 _).mpr (.inr rfl), tk, by rw [c]⟩
      · obtain ⟨e, he, h1⟩ := B.all y c
        exact ⟨e, (mem1 e).mpr (.inl he), h1⟩
    have size1 : es1.size = (z :: L).length := by
      have q := pm.length_eq
      rw [List.length_append, List.length_singleton, Array.length_toList, Array.length_toList, B.size] at q
      rw [q, List.length_cons]
    have nd1 : (z :: L).Nodup := List.nodup_cons.mpr ⟨hm, B.nd⟩
    have few1 : (z :: L).length < scanBound := by rw [List.length_cons]; exact room
    have b1 : es1.size < scanBound := by rw [size1]; exact few1
    -- what stands once the table is written
    have fin : ∀ (t2 : SetTable) (g : Bool → Sem Unit) (c : Bool), (∀ (b : Bool) (s₁ : Shared) (Q' : Unit → Shared → Prop), Q' () s₁ → wpAny (model P w) A (g b) Q' E s₁) → t2.fits es1.size = true → Ris t2.place.toList → (w.params.followText "set-order" = true ∨ t2.led = true) →
        wpAny (model P w) A (do
          storeSet a es1 t2
          if c = true then do
              g (relayAll t2 es1 (SetTable.grown es1.size)).2.2
              storeSet a (relayAll t2 es1 (SetTable.grown es1.size)).1 (relayAll t2 es1 (SetTable.grown es1.size)).2.1
              pure (some true)
            else pure (some true)) (fun r s' => r = some true ∧ ∃ h' es' ep' t', s' = { s with heap := h' } ∧ Heap.SameBut a s.heap h' ∧ Txs w h' a (z :: L) es' ep' t') E s := fun t2 g c hg f2 r2 l2 => by
      refine wpAny_bind (wpAny_storeSet_of ho hd ?_ (fits_of_scanBound b1))
      have ho1 := set_at ho hd es1 t2
      have sb1 := Heap.SameBut.update s.heap a (Obj.putSet es1 t2)
      cases c with
      | false => exact wp_if_neg (by decide) (wpAny_pure ⟨rfl, _, es1, _, t2, rfl, sb1, ⟨_, ho1, hex, rfl⟩, rows1, all1, size1, nd1, few1, f2, r2, l2⟩)
      | true =>
        refine wp_if_pos rfl ?_
        have pm2 := relayAll_perm t2 es1 (SetTable.grown es1.size)
        have f3 := relayAll_fits t2 es1 (SetTable.grown es1.size)
        have r3 := relayAll_ris t2 es1 (SetTable.grown es1.size)
        have l3 := relayAll_led t2 es1 (SetTable.grown es1.size)
        generalize relayAll t2 es1 (SetTable.grown es1.size) = rel at pm2 f3 r3 l3 ⊢
        obtain ⟨es2, t3, gv2⟩ := rel
        dsimp only at pm2 f3 r3 l3 ⊢
        have size2 : es2.size = (z :: L).length := by
          have q := pm2.length_eq
          rw [Array.length_toList, Array.length_toList, size1] at q
          exact q
        refine wpAny_bind (hg _ _ _ (wpAny_bind (wpAny_storeSet_of ho1 rfl ?_ (fits_of_scanBound (by rw [size2]; exact few1)))))
        refine wpAny_pure ⟨rfl, _, es2, _, t3, rfl, sb1.trans (Heap.SameBut.update _ a _), ⟨_, set_at ho1 rfl es2 t3, hex, rfl⟩, fun e he => rows1 e (pm2.mem_iff.mp he), fun y hy => ?_, size2, nd1, few1, f3, r3, l2.imp id fun y => by rw [l3]; exact y⟩
        obtain ⟨e, he, h1⟩ := all1 y hy
        exact ⟨e, pm2.mem_iff.mpr he, h1⟩
    have after : ∀ (r : Option Bool) (s' : Shared), (r = some true ∧ ∃ h' es' ep' t', s' = { s with heap := h' } ∧ Heap.SameBut a s.heap h' ∧ Txs w h' a (z :: L) es' ep' t') → ∀ b, Q b s' := fun r s' ⟨_, h', es', ep', t', e, sb, B'⟩ b => by
      rw [e]
      exact hQ b h' es' ep' t' sb (by rw [if_neg hm]; exact B')
    refine wpAny_bind (gave _ _ _ ?_)
    split
    · refine wpAny_bind ?_
      rw [hashByValue_scannable 8 rfl]
      refine wpAny_pure ?_
      refine wpAny_mono (fin _ _ _ gave ?_ ?_ ?_) (fun r s' q => ?_) fun _ _ y => y
      · first | (split <;> first | exact f1 | exact SetTable.fits_plain_off f1) | exact f1
      · first | (split <;> exact r1) | exact r1
      · first | (split <;> exact led1) | exact led1
      · obtain ⟨rfl, q⟩ := q
        exact wpAny_pure (after _ s' ⟨rfl, q⟩ true)
    · refine wpAny_bind (wpAny_pure ?_)
      simp only [↓reduceIte]
      refine wpAny_mono (fin _ _ _ gave f1 r1 led1) (fun r s' q => ?_) fun _ _ y => y
      obtain ⟨rfl, q⟩ := q
      exact wpAny_pure (after _ s' ⟨rfl, q⟩ true)
end
end K61

/-! sorted(set(text)): the calls. -/
namespace K61
open PySem PySem.Spec PyProof.Rows L2

/-- L are the signs of p up to i -/
def Lof (p : List Nat) (i : Nat) (L : List Str) : Prop := L.Perm ((dist (p.take i)).map sg)
theorem Lof.step {p : List Nat} {i c : Nat} {L : List Str} (h : Lof p i L) (hc : p[i]? = some c) : Lof p (i + 1) (if sg c ∈ L then L else sg c :: L) := by
  have mem : sg c ∈ L ↔ c ∈ dist (p.take i) := by
    rw [h.mem_iff, List.mem_map]
    constructor
    · rintro ⟨d, hd, e⟩
      exact sg_inj e ▸ hd
    · intro hd
      exact ⟨c, hd, rfl⟩
  unfold Lof
  rw [dist_step hc]
  by_cases m : c ∈ dist (p.take i)
  · rw [if_pos m, if_pos (mem.mpr m)]
    exact h
  · rw [if_neg m, if_neg (fun z => m (mem.mp z)), List.map_append]
    exact (h.cons (sg c)).trans (List.perm_append_singleton (sg c) _).symm
section
variable {P : Program} {w : World} {A : Around} {E : Value → Shared → Prop} {s : Shared}

theorem txs_keep {h h' : Heap} {a : Addr} {L : List Str} {es : Array (Int × Value)} {ep : Nat} {t : SetTable} (B : Txs w h a L es ep t) (k : ∀ o, h.get? a = some o → h'.get? a = some o) : Txs w h' a L es ep t := by
  obtain ⟨o, ho, r⟩ := B.obj
  exact ⟨⟨o, k o ho, r⟩, B.rows, B.all, B.size, B.nd, B.few, B.fits, B.ris, B.led⟩
theorem txs_new (h : Heap) (w : World) {a : Addr} (ho : h.get? a = some { cls := .type "set", dict := none, data := .set #[] 0 (.fresh 0 0 (!w.params.followText "set-order")) }) : Txs w h a [] #[] 0 (.fresh 0 0 (!w.params.followText "set-order")) where
  obj := ⟨_, ho, ⟨rfl, rfl, rfl⟩, rfl⟩
  rows := fun e he => (by cases he)
  all := fun z hz => (by cases hz)
  size := rfl
  nd := List.nodup_nil
  few := by show 0 < scanBound; decide
  fits := rfl
  ris := List.Pairwise.nil
  led := by
    show _ ∨ (!w.params.followText "set-order") = true
    cases w.params.followText "set-order" <;> simp
/-- set.update's loop over the signs -/
theorem txs_loop {I : Addr} {fp wr : List Addr} {G : Array GenState → Array GenState → Prop} {n : Nat} {Pv : Nat → Value → Prop} {St : Nat → Shared → Prop} {R : Result → Shared → Prop} (W : WalksS P w A.in1 I fp wr G n Pv St) (S : Addr) (hSf : S ∉ fp) (p : List Nat) (hn : n = p.length)
    (hb : p.length + 1 < scanBound) (hval : ∀ i v, Pv i v → ∃ c tk, p[i]? = some c ∧ v = .str (sg c) tk) :
    ∀ (k i : Nat) (s : Shared), n - i = k → i ≤ n → St i s → (∃ L es ep t, Txs w s.heap S L es ep t ∧ Lof p i L) → (∀ s' L es ep t, Moved (S :: wr) G s s' → Txs w s'.heap S L es ep t → Lof p n L → R (.ok (.ret .none)) s') →
      codeAny (model P w) A (.builtin "set.update.loop" ⟨[.ref S, .ref I], []⟩) R s := by
  have hSw : S ∉ wr := fun h => hSf (W.sub _ h)
  have up : ∀ b ∈ wr, b ∈ S :: wr := fun b hb => List.mem_cons_of_mem _ hb
  intro k
  induction k with
  | zero =>
    rintro i s hk hi hst ⟨L, es, ep, t, B, g⟩ hR
    have e : i = n := by omega
    subst e
    refine codeAny_builtin PyProof.Rows.F.entry_set_update_loop ?_
    rw [Around.under_plainId PyProof.Rows.F.plain_set_update_loop _]
    show wpAny _ A.in1 (pyNext (.ref I) >>= _) _ _ s
    refine wpAny_bind (W.done s _ _ hst fun s' hm => ?_)
    exact wpAny_pure (hR s' L es ep t (hm.mono up) (txs_keep B fun o e => hm.heap S o hSw e) g)
  | succ k ih =>
    rintro i s hk hi hst ⟨L, es, ep, t, B, g⟩ hR
    have hlt : i < n := by omega
    refine codeAny_builtin PyProof.Rows.F.entry_set_update_loop ?_
    rw [Around.under_plainId PyProof.Rows.F.plain_set_update_loop _]
    show wpAny _ A.in1 (pyNext (.ref I) >>= _) _ _ s
    refine wpAny_bind (W.item i s _ _ hlt hst fun v s1 hP st1 hm => ?_)
    obtain ⟨c, tk, hc, rfl⟩ := hval i v hP
    have B1 := txs_keep B fun o e => hm.heap S o hSw e
    have room : L.length + 1 < scanBound := by
      have h1 := g.length_eq
      rw [List.length_map] at h1
      have h2 := dist_len_take p i
      omega
    show wpAny _ A.in1 (holding [Value.str (sg c) tk] (setAdd S (.str (sg c) tk)) >>= _) _ _ s1
    refine wpAny_bind (wpAny_holding ?_)
    unfold setAdd
    refine wpAny_holding (wpAny_bind ((PySem.strKind P w).pyHash (k := sg c) (strKind_is P w (sg c) tk) ?_))
    refine Txs.add (s := { s1 with toks := s1.toks + 1 }) B1 room fun b h' es' ep' t' sb B2 => ?_
    refine wpAny_pure ⟨plainId_quiet PyProof.Rows.F.plain_set_update_loop _, ih (i + 1) _ (by omega) hlt (W.frame _ s1 _ _ st1 (Nat.le_succ _) fun b hb o e => ?_) ⟨_, es', ep', t', B2, g.step hc⟩ fun s2 L2 es2 ep2 t2 hm2 B3 g3 => ?_⟩
    · exact (sb.2 b fun (z : b = S) => hSf (z ▸ hb)).trans e
    · refine hR s2 L2 es2 ep2 t2 (Moved.trans W.gtrans ((hm.mono up).then_heap (Nat.le_succ _) fun b o hb e => ?_) hm2) B3 g3
      exact (sb.2 b fun (z : b = S) => hb (z ▸ List.mem_cons_self)).trans e

theorem set_of_text {p : List Nat} {tk : Tok} {Q : Value → Shared → Prop} (hh : A.handled = none) (hb : p.length + 1 < scanBound)
    (h : ∀ (h' : Heap) (tk' : Nat) L es ep t, Txs w h' s.heap.objs.size L es ep t → Lof p p.length L → (∀ b o, s.heap.get? b = some o → h'.get? b = some o) → Q (.ref s.heap.objs.size) { s with heap := h', toks := tk' }) :
    wpAny (model P w) A (PySem.call (.type "set") [.str (tx p) tk]) Q E s := by
  obtain ⟨c, tl, hmro⟩ := PySem.F.called_set.mro
  have hmade := PySem.F.called_set.made
  have hsub := PySem.F.called_set.sub
  refine wpAny_call (codeAny_of_tree ?_)
  show wpAny _ _ (callAny (.type "set") _) _ _ _
  refine wpAny_pure ⟨Code.quiet_builtin _ (by decide +kernel), codeAny_builtin PySem.F.entry_type_call ?_⟩
  rw [Around.under_plain (weight_type_call_type "set" [.str (tx p) tk] []) rfl]
  have h1 := PySem.F.called_set.notType
  have h2 := PySem.F.called_set.canCreate
  have hct := PySem.F.typeCall_set_1 (.str (tx p) tk)
  repeat (any_goals (first | assumption | wp_step))
  refine codeAny_mono (code_set_led1 (.str (tx p) tk) (E := E) (Q₁ := fun obj s₁ => obj = .ref s.heap.objs.size ∧ s₁ = { s with heap := s.heap.push { cls := .type "set", dict := none, data := .set #[] 0 (.fresh 0 0 (!w.params.followText "set-order")) } }) ⟨rfl, rfl⟩) fun r s₁ hr => ?_
  cases r with
  | error e => exact hr
  | ok fl =>
    cases fl with
    | ret obj =>
      obtain ⟨rfl, rfl⟩ := hr
      have hS : (s.heap.push { cls := .type "set", dict := none, data := .set #[] 0 (.fresh 0 0 (!w.params.followText "set-order")) }).get? s.heap.objs.size = some { cls := .type "set", dict := none, data := .set #[] 0 (.fresh 0 0 (!w.params.followText "set-order")) } := Heap.get?_push_size _ rfl
      have hT : Shared.TypeIs { s with heap := s.heap.push { cls := .type "set", dict := none, data := .set #[] 0 (.fresh 0 0 (!w.params.followText "set-order")) } } (.ref s.heap.objs.size) "set" := ⟨_, hS, rfl⟩
      have hli := PySem.F.called_set.init.lookup
      have hbi := PySem.F.called_set.init.bind (.ref s.heap.objs.size)
      repeat (any_goals (first | assumption | wp_step))
      refine codeAny_mono (codeAny_call_builtin (R := wants (fun r s₂ => r = .none ∧ ∃ h' tk' L es ep t, s₂ = { s with heap := h', toks := tk' } ∧ Txs w h' s.heap.objs.size L es ep t ∧ Lof p p.length L ∧ ∀ b o, s.heap.get? b = some o → h'.get? b = some o) E)
        PySem.F.called_set.init.plain PySem.F.entry_set_init (check_set_init_1 hT ?_)) fun r₂ s₂ hr₂ => ?_
      · have q1 := PySem.F.sub_str_set
        have q2 := PySem.F.sub_str_frozenset
        have q3 : (Value.type "str" == Value.type "dict") = false := by decide
        unfold Builtin.«set.__init__» noKeywords Builtin.Frozenset.updateFrom
        generalize hPI : pyIter = PI
        wp_walk
        subst hPI
        have hh3 : A.in1.in1.in1.handled = none := by simp [hh]
        have hz : (s.heap.push { cls := .type "set", dict := none, data := .set #[] 0 (.fresh 0 0 (!w.params.followText "set-order")) }).objs.size = s.heap.objs.size + 1 := Heap.size_push ..
        refine wpAny_pyIter_str fun o St W hst => wpAny_bind (wpAny_runValue ?_)
        have hS2 : ((s.heap.push { cls := .type "set", dict := none, data := .set #[] 0 (.fresh 0 0 (!w.params.followText "set-order")) }).push o).get? s.heap.objs.size = some { cls := .type "set", dict := none, data := .set #[] 0 (.fresh 0 0 (!w.params.followText "set-order")) } := Heap.get?_push_of_some _ hS
        have kept : ∀ b u, s.heap.get? b = some u → ((s.heap.push { cls := .type "set", dict := none, data := .set #[] 0 (.fresh 0 0 (!w.params.followText "set-order")) }).push o).get? b = some u := fun b u e => Heap.get?_push_of_some _ (Heap.get?_push_of_some _ e)
        refine txs_loop (W A.in1.in1.in1 hh3).toS s.heap.objs.size (fun z => ?_) p (tx_size p) hb (fun i v ⟨c, tk', hc, e⟩ => ⟨c, tk', tx_at hc, e⟩) _ 0 _ rfl (Nat.zero_le _) hst ⟨[], _, _, _, txs_new _ w hS2, List.Perm.refl _⟩ fun s' L es ep t hm B g => ?_
        · have e := List.mem_singleton.mp z
          rw [hz] at e
          exact absurd e (Nat.ne_of_lt (Nat.lt_succ_self _))
        · obtain ⟨h', g', d', tk', os'⟩ := s'
          have eg : g' = s.gens := hm.gens
          have ed : d' = s.drawn := hm.drawn
          have eo : os' = s.os := hm.os
          subst eg; subst ed; subst eo
          rw [tx_size] at g
          refine wpAny_pure ?_
          show wpAny _ _ (ret Value.none) _ _ _
          refine wpAny_pure ⟨rfl, h', tk', L, es, ep, t, rfl, B, g, fun b u e => hm.heap b u (fun hb' => ?_) (kept b u e)⟩
          have hlt := Heap.lt_size e
          rcases List.mem_cons.mp hb' with z | z
          · rw [z] at hlt
            exact absurd hlt (Nat.lt_irrefl _)
          · rw [List.mem_singleton.mp z, hz] at hlt
            exact absurd hlt (Nat.not_lt.mpr (Nat.le_succ _))
      · cases r₂ with
        | error e => exact hr₂
        | ok fl₂ =>
          cases fl₂ with
          | ret r =>
            obtain ⟨rfl, h', tk', L, es, ep, t, rfl, B, g, kk⟩ := hr₂
            repeat (any_goals (first | assumption | wp_step))
            exact h _ _ _ _ _ _ B g kk
          | _ => exact hr₂.elim
    | _ => exact hr.elim
end
end K61

/-! sorted(set(text)): the rule. -/
namespace K61
open PySem PySem.Spec PyProof.Rows L2
section
variable {P : Program} {w : World} {A : Around} {E : Value → Shared → Prop} {s : Shared}
theorem txs_sorted {a : Addr} {L : List Str} {es : Array (Int × Value)} {ep : Nat} {t : SetTable} {Q : Value → Shared → Prop} (B : Txs w s.heap a L es ep t) (hh : A.handled = none)
    (hQ : ∀ s' p (out : List Value) (ss : List Str) (c : Nat), (∀ b o, s.heap.get? b = some o → s'.heap.get? b = some o) → s'.gens = s.gens → s'.os = s.os → s.heap.objs.size ≤ p → s'.heap.get? p = some (seqObj "list" out.toArray c) → StrsAre out ss → ss.length = L.length → Q (.ref p) s') :
    wpAny (model P w) A (PySem.call (.builtin "sorted") [.ref a]) Q E s := by
  obtain ⟨o, ho, hex, hd⟩ := B.obj
  have few := B.few
  have fewL : L.length ≤ sizeLine := fits_of_scanBound few
  refine Calls.call_function_entry kind_sorted plain_sorted entry_sorted (args_sorted1 _) ?_
  unfold Builtin.«sorted»
  refine wpAny_bind (m := checkCount "sorted" 1 1 _) (wpAny_pure ?_)
  refine wpAny_bind (collect_set (A := A.in1) hh ⟨o, ho, hex.1, hd⟩ B.fits (by rw [B.size]; exact few) B.ris B.led fun s1 vs k1 hz g1 o1 pm => ?_)
  have hlen : vs.length = L.length := by rw [pm.length_eq, List.length_map, Array.length_toList, B.size]
  have hS : StrsAre vs (vs.map strOf) := strsAre_map vs fun v hv => by
    obtain ⟨e, he, rfl⟩ := List.mem_map.mp (pm.mem_iff.mp hv)
    obtain ⟨z, _, tk, h1, _⟩ := B.rows e he
    exact ⟨z, tk, h1⟩
  refine wpAny_bind (wpAny_newList ?_ (by rw [hlen]; exact fewL))
  have hoL : (s1.heap.push (seqObj "list" vs.toArray 0)).get? s1.heap.objs.size = some (seqObj "list" vs.toArray 0) := Heap.get?_push_size _ rfl
  refine wpAny_bind (wpAny_holding (wpAny_call_entry (s := { s1 with heap := s1.heap.push (seqObj "list" vs.toArray 0) }) slot_list_sort ⟨_, hoL, rfl⟩ entry_list_sort
    (list_sort_treeKAny (s := { s1 with heap := s1.heap.push (seqObj "list" vs.toArray 0) }) strKind_oneLt hoL hS.keysOf (fun v₁ v₂ rest e => keyKind_strs (by rw [← e]; exact hS)) (by rw [hlen]; exact fewL) fun st' hp hs => ⟨_, rfl, ?_⟩) (args_list_sort _)))
  obtain ⟨ss, h1, h2, _⟩ := sorted_out_str hS hp hs
  obtain ⟨c, hc⟩ := sortedHeap_at (vs := vs) (out := ((arrOf st').map (·.2))) hoL
  refine wpAny_pure ⟨_, rfl, hQ _ s1.heap.objs.size _ ss c (fun b u e => ?_) g1 o1 hz (by rw [Array.toArray_toList]; exact hc) h1 (by rw [h2.length_eq, List.length_map, hlen])⟩
  have q := k1 b u e
  have hlt := Heap.lt_size q
  show (sortedHeap (s1.heap.push (seqObj "list" vs.toArray 0)) s1.heap.objs.size vs _).get? b = some u
  rw [sortedHeap_old (Nat.ne_of_lt hlt) (by rw [size_push']; exact Nat.lt_succ_of_lt hlt)]
  exact Heap.get?_push_of_some _ q
end
section
variable {X : Cx}
/-- sorted(set(text)): a list with as many items as the text has distinct signs -/
def tSetSort (ta : TE) : TE := fun σ H Q => ta σ H fun x H1 => ∃ p : List Nat, x = V.str (tx p) ∧ p.length ≤ 1000 ∧ ∀ (ys : List V) (l : Addr), ys.length = (dist p).length → H1 l = none → Q (.ref l) (upd H1 l (.lst ys))
theorem pe_setSort {a : Expr} {ta : TE} {p p2 q pos : Pos} (hc : X.calm = true) (hg : Gl X "sorted") (hm : X.mg "sorted" = none) (hg2 : Gl X "set") (hm2 : X.mg "set" = none) (ha : PE X a ta)
    (na : starEach [a] X.env = (false, eval a X.env) :: starEach [] X.env := by rfl) : PE X (.Call (.Name "sorted" p) [.Call (.Name "set" p2) [a] [] q] [] pos) (tSetSort ta) := by
  refine ⟨fun pins s σ H Q I h => ?_⟩
  refine Call_ (ld_blt I hg hm (u := .builtin "sorted") (by decide +kernel) ?_)
  refine PyProof.Rows.callWith_builtin1 (PyProof.Rows.args_cons ?_ rfl) rfl rfl
  refine Call_ (ld_blt I hg2 hm2 PyProof.Rows.boot_set ?_)
  refine PyProof.Rows.callWith_type1 (PyProof.Rows.args_cons (thn (ha.run pins s σ H _ I h) fun v s1 ⟨x, H1, I1, r1, q1⟩ => PyProof.Rows.args_nil ?_) na) na rfl
  obtain ⟨pt, rfl, h1, q1⟩ := q1
  obtain ⟨tk, rfl⟩ := r1
  refine set_of_text (I1.ok.hd hc) (by unfold scanBound; omega) fun h' tk' L es ep t B g kk => ?_
  refine PyProof.Rows.args_nil ?_
  have I2 : Inv X pins σ H1 { s1 with heap := h', toks := tk' } := I1.kept fun b o e => kk b o e
  refine txs_sorted (s := { s1 with heap := h', toks := tk' }) B (I1.ok.hd hc) fun s' pp out ss c k2 g2 o2 hpp hg' hss hsl => ?_
  have hn : H1 pp = none := I2.hok.fresh hpp
  have few := B.few
  have hlen : (ss.map V.str).length ≤ sizeLine := by
    rw [List.length_map, hsl]
    exact fits_of_scanBound few
  have J : Inv X pins σ (upd H1 pp (.lst (ss.map V.str))) s' := I2.call' (ch := []) o2 (Un.laid k2 hpp hn) (I2.hok.laid k2 hpp ⟨hlen, out, c, vals_of_strs hss, hg'⟩) (by rw [g2]; exact I2.bare) (fun _ z => nomatch z)
  refine ⟨.ref pp, _, J, rfl, q1 _ pp ?_ hn⟩
  have e1 := g.length_eq
  rw [List.length_map, List.take_length] at e1
  rw [List.length_map, hsl, e1]
end
end K61

/-! The law's own defs: _law_short, _law_size, _law_ways. -/
namespace K61
open PySem PySem.Spec PyProof.Rows L2
section
variable {P : Program} {w : World} {K : PySem.W.Frag} {mg : Str → Option Value} {base : Heap}
abbrev sLShort : Stmt := top 40
abbrev sLSize : Stmt := top 41
abbrev sLWays : Stmt := top 42
def spLShort : Sp := fun vs H Q _ => ∃ k m : Nat, vs = [.int (k : Int), .int (m : Int)] ∧ k ≤ 4 ∧ m ≤ 4 ∧ ∀ H' l xs, Same H H' → H l = none → H' l = some (.lst xs) → xs.length = many k m → Q (.ref l) H'
theorem sc_lshort : FnScope ["_law_letters", "_law_longest", "_law_found", "_law_ends", "_law_k", "_law_longer", "_law_text", "_law_letter"] ["_law_letters", "_law_longest"] (defScope sLShort) := ⟨rfl, rfl, rfl, by decide +kernel, rfl, by decide +kernel, by decide +kernel⟩
theorem ok_lshort {f : Addr} {fd : FuncData} (F : Fun K "_law_short" "_law_short" sLShort f fd) (N : Nm mg) : FnOk P w K mg base CX0 1 f fd ["_law_letters", "_law_longest"] spLShort := by
  refine F.ok sc_lshort (fun vs H Q E h => ?_) (fun cdv A outer s H vs Q E hr h => ?_)
  · obtain ⟨k, m, rfl, _⟩ := h
    rfl
  · obtain ⟨k, m, rfl, k4, m4, q⟩ := h
    refine ⟨_, pss_cons (ps_par rfl sc_lshort.nd (i := 2) (j := 3) rfl rfl (by decide) rfl rfl (pa_cons (pe_lst pa_nil) (pa_cons (pe_lst (pa_cons (pe_tup pa_nil) pa_nil)) pa_nil)) (by rfl))
      (pss_cons (ps_for PassesOwn.never rfl (pi_range1 (by rfl) N.range (pa_cons (pv 1) pa_nil)) (pg_name (i := 4) sc_lshort.nd rfl (Or.inl rfl))
        (pss_cons (ps_set (i := 5) sc_lshort.nd rfl (Or.inl rfl) (pe_lst pa_nil))
        (pss_cons (ps_for PassesOwn.never rfl (pi_list (pv 3)) (pg_name (i := 6) sc_lshort.nd rfl (Or.inr rfl))
          (pss_one (ps_expr (pe_bm PySem.F.plainAttrs_list PySem.F.slot_list_extend PySem.F.type_list_extend mt_extend (pv 5) (pa_cons (pe_lc (own := [("_law_letter", 7)]) (g := gName 7) (tt := tYes) (te := tOp (rCatA K) (tVar 6) (tTup (tCons (tVar 7) tNil))) rfl sc_lshort.nd
            (pi_range1 (by rfl) N.range (pa_cons (pv 0) pa_nil)) (blkOk_by (N := ["_law_letters", "_law_longest", "_law_found", "_law_ends", "_law_k", "_law_longer", "_law_text", "_law_letter"]) (sc := defScope sLShort) (by decide +kernel))
            (fun _ _ _ _ _ => pg_name (i := 7) sc_lshort.nd rfl (Or.inl rfl)) (fun _ _ _ _ _ => pts_nil) (fun _ _ _ _ _ => pe_op op_catA (pv 6) (pe_tup (pa_cons (pv 7) pa_nil)))) pa_nil)))))
        (pss_one (ps_par rfl sc_lshort.nd (i := 2) (j := 3) rfl rfl (by decide) rfl rfl (pa_cons (pe_op op_cat (pv 2) (pv 5)) (pa_cons (pv 5) pa_nil)) (by rfl))))))
      (pss_one (ps_ret (pv 2)))), ?_⟩
    refine ⟨Nat.zero_le _, fun l hl => ⟨Nat.zero_le _, fun t0 ht0 => ⟨by show 1 ≤ sizeLine; decide, fun e0 he0 => ⟨_, _, rfl, ?_⟩⟩⟩⟩
    have s0 : Same H (upd (upd (upd H l (.lst [])) t0 (.tup [])) e0 (.lst [.ref t0])) := (same_upd hl).trans ((same_upd ht0).trans (same_upd he0))
    have hl3 : (upd (upd (upd H l (.lst [])) t0 (.tup [])) e0 (.lst [.ref t0])) l = some (.lst []) := (same_upd he0) _ _ ((same_upd ht0) _ _ upd_same)
    have tw0 : Tw K (upd (upd (upd H l (.lst [])) t0 (.tup [])) e0 (.lst [.ref t0])) [.ref t0] (lay k 0) := Tw.one (SqT.of ((same_upd he0) _ _ upd_same))
    have h30 : (upd (upd (upd H l (.lst [])) t0 (.tup [])) e0 (.lst [.ref t0])) e0 = some (.lst [.ref t0]) := upd_same
    generalize upd (upd (upd H l (.lst [])) t0 (.tup [])) e0 (.lst [.ref t0]) = H1 at s0 hl3 tw0 h30 ⊢
    refine ⟨_, rfl, (m : Int), rfl, by omega, by omega, ?_⟩
    refine for_it walk_range (fun i σ H' => ∃ (c e : Addr) (v4 v5 v6 : Option V) (xs ys : List V), σ = [some (.int (k : Int)), some (.int (m : Int)), some (.ref c), some (.ref e), v4, v5, v6, none] ∧ Same H H' ∧ H c = none ∧ H' c = some (.lst xs) ∧ xs.length = many k i ∧ H' e = some (.lst ys) ∧ Tw K H' ys (lay k i))
      ⟨l, e0, none, none, none, [], _, rfl, s0, hl, hl3, rfl, h30, tw0⟩ (fun _ _ _ _ _ => trivial) ?_ ?_
    · rintro i x σ H2 H3 hi ⟨c, e, v4, v5, v6, xs, ys, rfl, s2, hc, hc2, hxl, he2, ty⟩ ⟨rfl, rfl⟩
      have hi4 : i < 4 := by
        have : (m : Int).toNat = m := Int.toNat_natCast m
        omega
      have hlay := lay_256 k4 (show i ≤ 4 by omega)
      have hlay' := lay_256 k4 (show i + 1 ≤ 4 by omega)
      have hmany := many_340 k4 (show i ≤ 4 by omega)
      refine ⟨Nat.zero_le _, fun g hg => ?_⟩
      have sg1 : Same H3 (upd H3 g (.lst [])) := same_upd hg
      have hgH := s2.free hg
      refine ⟨_, rfl, e, rfl, ⟨_, SqL.of (sg1 _ _ he2)⟩, ?_⟩
      refine for_list (K := K) (a := e) (xs := ys) (fun j σ H' => ∃ (v6 : Option V) (zs : List V), σ = [some (.int (k : Int)), some (.int (m : Int)), some (.ref c), some (.ref e), some (.int ((0 : Int) + (i : Nat))), some (.ref g), v6, none] ∧ Same H H' ∧ Same H3 H' ∧ H' g = some (.lst zs) ∧
          Tw K H' zs (((lay k i).take j).flatMap fun t => (List.range k).map fun a => t ++ [a])) ⟨v6, [], rfl, s2.trans sg1, sg1, upd_same, .nil⟩ (fun j σ H' _ ⟨_, _, _, _, s4, _⟩ => SqL.of (s4 _ _ he2)) ?_ ?_
      · rintro j x σ H4 hx ⟨w6, zs, rfl, s4, s34, hg4, tz⟩
        obtain ⟨t, u, rfl, hu, hT⟩ := (ty.same s34).get hx
        have hjl := at_lt hu
        refine ⟨_, rfl, .inl ⟨rfl, _, SqL.of hg4⟩, _, rfl, (k : Int), rfl, by omega, by omega, fun d hd => ?_⟩
        refine lc_it walk_range (fun a Hc => ∃ us, Same H4 Hc ∧ Hc d = some (.lst us) ∧ Tw K Hc us (((List.range k).take a).map fun a => u ++ [a])) ⟨[], same_upd hd, upd_same, .nil⟩ (fun _ _ _ _ => trivial) ?_ ?_
        · rintro a y H5 H6 ha ⟨us, s5, hd5, tu⟩ ⟨rfl, rfl⟩
          have hak : a < k := by
            have : (k : Int).toNat = k := Int.toNat_natCast k
            omega
          have hul : us.length < sizeLine := len_lt (by
            rw [tu.len, List.length_map, List.length_take, List.length_range]
            omega)
          refine ⟨rfl, _, rfl, _, rfl, by show 1 ≤ sizeLine; decide, fun p1 hp1 => ?_⟩
          have e1 : ((0 : Int) + (a : Nat)) = (a : Int) := by omega
          have s6 : Same H6 (upd H6 p1 (.tup [.int ((0 : Int) + (a : Nat))])) := same_upd hp1
          have tk : (List.range k).take (a + 1) = (List.range k).take a ++ [a] := by
            rw [List.take_add_one, List.getElem?_range hak]
            rfl
          have fin : ∀ {H7 : Hp} {b : Addr}, Same H6 H7 → SqT K H7 b (nv (u ++ [a])) → ∃ acc, H7 d = some (.lst acc) ∧ acc.length < sizeLine ∧ ∃ us, Same H4 (upd H7 d (.lst (acc ++ [.ref b]))) ∧ (upd H7 d (.lst (acc ++ [.ref b]))) d = some (.lst us) ∧
              Tw K (upd H7 d (.lst (acc ++ [.ref b]))) us (((List.range k).take (a + 1)).map fun a => u ++ [a]) := fun {H7 b} s7 hb => by
            refine ⟨us, s7 _ _ hd5, hul, us ++ [.ref b], same_put (s5.trans s7) hd, upd_same, ?_⟩
            rw [tk, List.map_append]
            exact ((tu.same s7).upd (s7 _ _ hd5)).app (Tw.one (tupU hb (s7 _ _ hd5)))
          have one : SqT K (upd H6 p1 (.tup [.int ((0 : Int) + (a : Nat))])) p1 (nv [a]) := SqT.of (by rw [upd_same, e1]; rfl)
          have hT6 : SqT K H6 t (nv u) := sameT s5 hT
          refine ⟨t, p1, nv u, _, rfl, rfl, sameT s6 hT6, SqT.of upd_same, ?_, fun z => ?_, fun _ z => absurd z (by simp), fun _ _ p2 hp2 => ?_⟩
          · have hw4 := (mem_lay.mp (at_mem hu)).1
            rw [nv_len, hw4, sizeLine_eq]
            show i + 1 ≤ _
            omega
          · have hn : u = [] := List.map_eq_nil_iff.mp z
            subst hn
            exact fin s6 one
          · refine fin (s6.trans (same_upd hp2)) (SqT.of ?_)
            rw [upd_same, nv_app]
            show some (HO.tup (nv u ++ [V.int (0 + (a : Int))])) = _
            rw [e1]
            rfl
        · rintro H5 ⟨us, s5, hd5, tu⟩
          have e2 : (k : Int).toNat = k := Int.toNat_natCast k
          rw [e2, List.take_of_length_le (Nat.le_of_eq List.length_range)] at tu
          have hg5 := s5 _ _ hg4
          refine ⟨g, d, zs, us, rfl, rfl, hg5, hd5, ?_, ?_⟩
          · rw [tz.len, tu.len, ext_len, List.length_map, List.length_range, List.length_take, sizeLine_eq]
            have : min j (lay k i).length * k ≤ 256 * 4 := Nat.mul_le_mul (by omega) k4
            omega
          · refine ⟨_, zs ++ us, rfl, same_put (s4.trans s5) hgH, same_put (s34.trans s5) hg, upd_same, ?_⟩
            rw [flat_take _ hu]
            exact ((tz.same s5).app tu).upd hg5
      · rintro σ H4 ⟨w6, zs, rfl, s4, s34, hg4, tz⟩
        rw [ty.len, List.take_length] at tz
        have tz' : Tw K H4 zs (lay k (i + 1)) := tz
        have hc4 := s34 _ _ hc2
        refine ⟨_, rfl, _, rfl, c, g, xs, zs, rfl, rfl, hc4, hg4, ?_, fun p1 hp1 => ⟨_, rfl, _, _, rfl, ?_⟩⟩
        · rw [hxl, tz'.len, sizeLine_eq]
          omega
        · have s5 := same_upd (o := .lst (xs ++ zs)) hp1
          refine ⟨p1, g, _, _, _, xs ++ zs, zs, rfl, s4.trans s5, s4.free hp1, upd_same, ?_, s5 _ _ hg4, tz'.same s5⟩
          rw [List.length_append, hxl, tz'.len, many_succ, lay_len]
    · rintro σ H2 ⟨c, e, v4, v5, v6, xs, ys, rfl, s2, hc, hc2, hxl, he2, ty⟩
      have e2 : (m : Int).toNat = m := Int.toNat_natCast m
      rw [e2] at hxl
      exact ⟨_, rfl, q _ c xs s2 hc hc2 hxl⟩
/-! ### _law_size, _law_ways -/
def spLSize : Sp := fun vs H Q _ => ∃ (p : List Nat) (k m : Nat), vs = [.str (tx p), .int (k : Int), .int (m : Int)] ∧ p.length ≤ 1000 ∧ k ≤ 4 ∧ m ≤ 4 ∧ ∀ H', Same H H' → Q (.int (size p k m : Nat)) H'
theorem sc_lsize : FnScope ["_law_pattern_here", "_law_letters", "_law_longest", "_law_size_here", "_law_sign"] ["_law_pattern_here", "_law_letters", "_law_longest"] (defScope sLSize) := ⟨rfl, rfl, rfl, by decide +kernel, rfl, by decide +kernel, by decide +kernel⟩
theorem ok_lsize {f : Addr} {fd : FuncData} (F : Fun K "_law_size" "_law_size" sLSize f fd) (N : Nm mg) (S : At P w K mg base "_law_short" 1 ["_law_letters", "_law_longest"] spLShort) : FnOk P w K mg base CX0 2 f fd ["_law_pattern_here", "_law_letters", "_law_longest"] spLSize := by
  refine F.ok sc_lsize (fun vs H Q E h => ?_) (fun cdv A outer s H vs Q E hr h => ?_)
  · obtain ⟨p, k, m, rfl, _⟩ := h
    rfl
  · obtain ⟨p, k, m, rfl, hp, k4, m4, q⟩ := h
    refine ⟨_, pss_cons (ps_set (i := 3) sc_lsize.nd rfl (Or.inl rfl) (pe_op op_mul (pv 2) (pe_callB call_len_str (by rfl) N.len PySem.boot_len (pa_cons (pv 0) pa_nil))))
      (pss_cons (ps_for PassesOwn.never rfl (pi_list (pe_setSort rfl (by rfl) N.sorted (by rfl) N.set (pv 0))) (pg_name (i := 4) sc_lsize.nd rfl (Or.inl rfl))
        (pss_one (ps_set (i := 3) sc_lsize.nd rfl (Or.inl rfl) (pe_op op_mul (pv 3) (pe_callB call_len_seq (by rfl) N.len PySem.boot_len (pa_cons (pe_call S.ok hr (by rfl) S.m S.kp S.b .nil pass0 (pa_cons (pv 1) (pa_cons (pv 2) pa_nil))) pa_nil))))))
      (pss_one (ps_ret (pv 3)))), ?_⟩
    have hm := many_340 k4 m4
    refine ⟨_, rfl, _, rfl, _, rfl, by rw [tx_len, sizeLine_eq]; omega, _, _, rfl, rfl, .inl ⟨by omega, by omega⟩, ?_⟩
    refine ⟨_, rfl, p, rfl, hp, fun ys l hyl hl => ⟨l, rfl, ⟨ys, SqL.of upd_same⟩, ?_⟩⟩
    have s1 : Same H (upd H l (.lst ys)) := same_upd hl
    refine for_list (K := K) (a := l) (xs := ys) (fun i σ H' => ∃ v, σ = [some (.str (tx p)), some (.int (k : Int)), some (.int (m : Int)), some (.int ((m * p.length * many k m ^ i : Nat) : Int)), v] ∧ Same (upd H l (.lst ys)) H')
      ⟨none, by rw [tx_len, Nat.pow_zero, Nat.mul_one, Int.natCast_mul]; rfl, Same.refl _⟩ (fun i σ H' _ ⟨_, _, s2⟩ => SqL.of (s2 _ _ upd_same)) ?_ ?_
    · rintro i x σ H2 hx ⟨v, rfl, s2⟩
      refine ⟨_, rfl, _, rfl, _, rfl, k, m, rfl, k4, m4, fun H3 b xs s3 hb hb3 hxl => ⟨b, xs, rfl, .inl (SqL.of hb3), ?_⟩⟩
      rw [hxl]
      refine ⟨_, _, rfl, rfl, .inr ⟨by omega, by omega⟩, some x, ?_, s2.trans s3⟩
      rw [Nat.pow_succ, ← Nat.mul_assoc, Int.natCast_mul (m * p.length * many k m ^ i)]
      rfl
    · rintro σ H2 ⟨v, rfl, s2⟩
      refine ⟨_, rfl, ?_⟩
      rw [hyl]
      exact q _ (s1.trans s2)
def spLWays : Sp := fun vs H Q _ => ∃ k t : Nat, vs = [.int (k : Int), .int (t : Int)] ∧ k ≤ 4 ∧ t ≤ 100000 ∧ Q (.int (k ^ (t - 1) : Nat)) H
theorem sc_lways : FnScope ["_law_letters", "_law_length", "_law_found", "_law_k"] ["_law_letters", "_law_length"] (defScope sLWays) := ⟨rfl, rfl, rfl, by decide +kernel, rfl, by decide +kernel, by decide +kernel⟩
theorem ok_lways {f : Addr} {fd : FuncData} (F : Fun K "_law_ways" "_law_ways" sLWays f fd) (N : Nm mg) : FnOk P w K mg base CX0 1 f fd ["_law_letters", "_law_length"] spLWays := by
  refine F.ok sc_lways (fun vs H Q E h => ?_) (fun cdv A outer s H vs Q E hr h => ?_)
  · obtain ⟨k, t, rfl, _⟩ := h
    rfl
  · obtain ⟨k, t, rfl, k4, ht, q⟩ := h
    refine ⟨_, pss_cons (ps_set (i := 2) sc_lways.nd rfl (Or.inl rfl) pe_int) (pss_cons (ps_for PassesOwn.never rfl (pi_range1 (by rfl) N.range (pa_cons (pe_op op_sub (pv 1) pe_int) pa_nil)) (pg_name (i := 3) sc_lways.nd rfl (Or.inl rfl))
        (pss_one (ps_set (i := 2) sc_lways.nd rfl (Or.inl rfl) (pe_op op_mul (pv 2) (pv 0))))) (pss_one (ps_ret (pv 2)))), ?_⟩
    refine ⟨_, rfl, _, _, rfl, rfl, (t : Int) - 1, rfl, by omega, by omega, ?_⟩
    refine for_it walk_range (fun i σ H' => ∃ v, σ = [some (.int (k : Int)), some (.int (t : Int)), some (.int ((k ^ i : Nat) : Int)), v] ∧ H' = H) ⟨none, rfl, rfl⟩ (fun _ _ _ _ _ => trivial) ?_ ?_
    · rintro i x σ H2 H3 hi ⟨v, rfl, rfl⟩ ⟨rfl, rfl⟩
      refine ⟨_, rfl, _, rfl, _, _, rfl, rfl, .inr ⟨by omega, by omega⟩, some (.int ((0 : Int) + (i : Nat))), ?_, rfl⟩
      rw [Nat.pow_succ, Int.natCast_mul]
      rfl
    · rintro σ H2 ⟨v, rfl, rfl⟩
      have e : ((t : Int) - 1).toNat = t - 1 := by omega
      rw [e]
      exact ⟨_, rfl, q⟩
end
end K61

/-! The law's own defs: the pen, the draw. -/
namespace K61
open PySem PySem.Spec PyProof.Rows L2
/-- all but what stands at d -/
def But (d : Addr) (H H' : Hp) : Prop := ∀ b o, b ≠ d → H b = some o → H' b = some o
theorem But.refl (d : Addr) (H : Hp) : But d H H := fun _ _ _ e => e
theorem But.trans {d : Addr} {H H1 H2 : Hp} (a : But d H H1) (b : But d H1 H2) : But d H H2 := fun x o n e => b x o n (a x o n e)
theorem But.put {d : Addr} {H H1 : Hp} (a : But d H H1) (o : HO) : But d H (upd H1 d o) := fun x u n e => by
  rw [upd_ne n]
  exact a x u n e
theorem But.of {d : Addr} {H H1 : Hp} (s : Same H H1) : But d H H1 := fun x o _ e => s x o e
theorem But.same {d : Addr} {H0 H H1 : Hp} (s : Same H0 H) (h : H0 d = none) (a : But d H H1) : Same H0 H1 := fun x o e => a x o (ne_of_none e h) (s x o e)
def nC : Str := Str.ofString "cells"
def nN : Str := Str.ofString "next"
def nR : Str := Str.ofString "rest"
theorem cn : (Sum.inr nC : Key) ≠ .inr nN := by decide +kernel
theorem cr : (Sum.inr nC : Key) ≠ .inr nR := by decide +kernel
theorem nr : (Sum.inr nN : Key) ≠ .inr nR := by decide +kernel
def pen (c : Addr) (i r : Int) : List (Key × V) := [(.inr nC, .ref c), (.inr nN, .int i), (.inr nR, .int r)]
theorem get_c (c : Addr) (i r : Int) : valV (pen c i r) (.inr nC) = some (.ref c) := by
  unfold valV pen
  rw [List.find?_cons, decide_eq_true rfl]
  rfl
theorem get_n (c : Addr) (i r : Int) : valV (pen c i r) (.inr nN) = some (.int i) := by
  unfold valV pen
  rw [List.find?_cons, decide_eq_false cn, List.find?_cons, decide_eq_true rfl]
  rfl
theorem get_r (c : Addr) (i r : Int) : valV (pen c i r) (.inr nR) = some (.int r) := by
  unfold valV pen
  rw [List.find?_cons, decide_eq_false cr, List.find?_cons, decide_eq_false nr, List.find?_cons, decide_eq_true rfl]
  rfl
theorem put_n (c : Addr) (i r j : Int) : putK (pen c i r) (.inr nN) (.int j) = pen c j r := by
  unfold pen
  rw [put_other cn, put_same (fun kv hkv => by
    rw [List.mem_singleton.mp hkv]
    exact fun z => nr z.symm)]
theorem put_r (c : Addr) (i r j : Int) : putK (pen c i r) (.inr nR) (.int j) = pen c i j := by
  unfold pen
  rw [put_other cr, put_other nr, put_same (fun kv hkv => by cases hkv)]
/-- a pen at d over these cells, i taken -/
def Pen (H : Hp) (d c : Addr) (is : List Int) (i : Nat) : Prop := is.length ≤ 63 ∧ H c = some (.lst (is.map V.int)) ∧ ∃ r : Int, 0 ≤ r ∧ H d = some (.dK (pen c i r))
theorem Pen.len {H : Hp} {d c : Addr} {is : List Int} {i : Nat} (h : Pen H d c is i) : is.length ≤ 63 := h.1
theorem pen_ne {H : Hp} {d c : Addr} {is : List Int} {kvs : List (Key × V)} (h : H c = some (.lst (is.map V.int))) (h' : H d = some (.dK kvs)) : c ≠ d := ne_of h h' (fun z => by cases z)
theorem Pen.same {H H' : Hp} {d c : Addr} {is : List Int} {i : Nat} (h : Pen H d c is i) (s : Same H H') : Pen H' d c is i := by
  obtain ⟨a, b, r, x, y⟩ := h
  exact ⟨a, s _ _ b, r, x, s _ _ y⟩
theorem sameL {K : PySem.W.Frag} {H H' : Hp} {a : Addr} {xs : List V} (e : Same H H') (h : SqL K H a xs) : SqL K H' a xs :=
  h.imp (fun r => r.imp (e _ _) fun ⟨o, z⟩ => ⟨o, e _ _ z⟩) id
theorem eqv_nil (ds : List PyData) : (!PyData.eqv (.list ds) (.list [])) = decide (ds ≠ []) := by
  cases ds <;> rfl
theorem shaped_nil : SeqAt.shaped (.list []) = true := by decide +kernel
theorem dp_ints {K : PySem.W.Frag} {H : Hp} : ∀ is : List Int, DpAll K H (is.map V.int) (is.map PyData.int)
  | [] => .nil
  | i :: is => .cons (.int i) (dp_ints is)
theorem cut_map {f : Int → V} (is : List Int) (k : Nat) : cutV (is.map f) none (some (k : Int)) = (is.take k).map f := by
  unfold cutV
  have e1 : HT.sIx (is.map f).length 0 none = 0 := rfl
  rw [e1, HT.sIx_nat, List.drop_zero, Nat.sub_zero, List.length_map, ← List.map_take]
  congr 1
  by_cases h : k ≤ is.length
  · rw [Nat.min_eq_left h]
  · rw [Nat.min_eq_right (by omega), List.take_of_length_le (by omega), List.take_of_length_le (by omega)]

section
variable {P : Program} {w : World} {K : PySem.W.Frag} {mg : Str → Option Value} {base : Heap}
abbrev sLPen : Stmt := top 35
abbrev sLDraw : Stmt := top 36
def spLPen (K : PySem.W.Frag) : Sp := fun vs H Q _ => ∃ (a : Addr) (is : List Int), vs = [.ref a] ∧ SqL K H a (is.map V.int) ∧ is.length ≤ 63 ∧ ∀ H' d c, Same H H' → H d = none → Pen H' d c is 0 → Q (.ref d) H'
theorem sc_lpen : FnScope ["_law_script"] ["_law_script"] (defScope sLPen) := ⟨rfl, rfl, rfl, by decide +kernel, rfl, by decide +kernel, by decide +kernel⟩
theorem ok_lpen {f : Addr} {fd : FuncData} (F : Fun K "_law_pen" "_law_pen" sLPen f fd) (N : Nm mg) : FnOk P w K mg base CX0 1 f fd ["_law_script"] (spLPen K) := by
  refine F.ok sc_lpen (fun vs H Q E h => ?_) (fun cdv A outer s H vs Q E hr h => ?_)
  · obtain ⟨a, is, rfl, _⟩ := h
    rfl
  · obtain ⟨a, is, rfl, hs, hl, q⟩ := h
    refine ⟨_, pss_one (ps_ret (pe_disp (pps_cons pe_str (pe_callTy call_list_of (by rfl) N.list (by decide +kernel) (pa_cons (pe_slice sl_list (pv 0) po_none (po_some pe_int)) pa_nil)) (pps_cons pe_str pe_int (pps_cons pe_str pe_int pps_nil))) (by rfl) (by rfl) (fun z => by cases z) (by decide))), ?_⟩
    intro d hd
    have s1 : Same H (upd H d (.dK [])) := same_upd hd
    have hs1 : SqL K (upd H d (.dK [])) a (is.map V.int) := sameL s1 hs
    have hd1 : (upd H d (.dK [])) d = some (.dK []) := upd_same
    generalize upd H d (.dK []) = H1 at s1 hs1 hd1 ⊢
    refine ⟨_, rfl, _, rfl, a, _, rfl, hs1, fun p hp => ?_⟩
    rw [show ((63 : Int)) = ((63 : Nat) : Int) from rfl, cut_map, List.take_of_length_le hl]
    have s2 : Same H1 (upd H1 p (.lst (is.map V.int))) := same_upd hp
    refine ⟨p, _, rfl, .inl (SqL.of upd_same), fun c hc => ?_⟩
    have s3 := s2.trans (same_upd (o := .lst (is.map V.int)) hc)
    have hc3 : (upd (upd H1 p (.lst (is.map V.int))) c (.lst (is.map V.int))) c = some (.lst (is.map V.int)) := upd_same
    generalize upd (upd H1 p (.lst (is.map V.int))) c (.lst (is.map V.int)) = H3 at s3 hc3 ⊢
    have hd3 := s3 _ _ hd1
    refine ⟨hd3, [(.inr nC, .ref c), (.inr nN, .int 0), (.inr nR, .int 0)], rfl, (by show 3 ≤ 15; omega), ?_⟩
    refine q _ d c (same_put (s1.trans s3) hd) hd ⟨hl, ?_, 0, Int.le_refl _, ?_⟩
    · rw [upd_ne (pen_ne hc3 hd3)]
      exact hc3
    · rw [upd_same]
      rfl

def spLDraw : Sp := fun vs H Q _ => ∃ (d c : Addr) (is : List Int) (i m : Nat), vs = [.ref d, .int (m : Int)] ∧ Pen H d c is i ∧ 0 < m ∧ m < 1000000 ∧ i ≤ 1000000 ∧
  ∀ (H' : Hp) (v i' : Nat), But d H H' → Pen H' d c is i' → i' ≤ i + 1 → v < m → Q (.int (v : Int)) H'
theorem sc_ldraw : FnScope ["_law_pen_here", "_law_many", "_law_digit", "_law_index", "_law_cell", "_law_mix"] ["_law_pen_here", "_law_many"] (defScope sLDraw) := ⟨rfl, rfl, rfl, by decide +kernel, rfl, by decide +kernel, by decide +kernel⟩
theorem mod_nat {x : Int} {m : Nat} (h : 0 < m) : ∃ v : Nat, x % (m : Int) = (v : Int) ∧ v < m := by
  have h1 : 0 ≤ x % (m : Int) := Int.emod_nonneg _ (by omega)
  have h2 : x % (m : Int) < m := Int.emod_lt_of_pos _ (by omega)
  exact ⟨(x % (m : Int)).toNat, by omega, by omega⟩
theorem mod_lt (x : Int) {m : Int} (h : 0 < m) : 0 ≤ x % m ∧ x % m < m := ⟨Int.emod_nonneg _ (by omega), Int.emod_lt_of_pos _ h⟩
theorem cm1 (a z : Int) : CMul a (z % 2147483629) := by
  have h := mod_lt z (show (0 : Int) < 2147483629 by decide)
  exact .inr ⟨by omega, by omega⟩
theorem cm2 (a z : Int) : CMul (z % 2147483587) a := by
  have h := mod_lt z (show (0 : Int) < 2147483587 by decide)
  exact .inl ⟨by omega, by omega⟩
theorem ok_ldraw {f : Addr} {fd : FuncData} (F : Fun K "_law_draw" "_law_draw" sLDraw f fd) (N : Nm mg) : FnOk P w K mg base CX0 1 f fd ["_law_pen_here", "_law_many"] spLDraw := by
  refine F.ok sc_ldraw (fun vs H Q E h => ?_) (fun cdv A outer s H vs Q E hr h => ?_)
  · obtain ⟨_, _, _, _, _, rfl, _⟩ := h
    rfl
  · obtain ⟨d, c, is, i, m, rfl, ⟨hl, hc, r, hr0, hd⟩, m0, m1, hi, q⟩ := h
    have hu := hu_of hr
    refine ⟨_, pss_cons (ps_if (pt_cmpR op_gt (pe_dget hu (pv 0) pe_str (fun _ _ => rfl)) pe_int (nomark _))
        (pss_cons (ps_set (i := 2) sc_ldraw.nd rfl (Or.inl rfl) (pe_op op_mod (pe_dget hu (pv 0) pe_str (fun _ _ => rfl)) (pv 1)))
        (pss_cons (ps_dput hu (pv 0) pe_str (pe_op op_fdiv (pe_dget hu (pv 0) pe_str (fun _ _ => rfl)) (pv 1)) rfl)
        (pss_one (ps_ret (pv 2))))) pss_nil)
      (pss_cons (ps_set (i := 3) sc_ldraw.nd rfl (Or.inl rfl) (pe_dget hu (pv 0) pe_str (fun _ _ => rfl)))
      (pss_cons (ps_dput hu (pv 0) pe_str (pe_op op_add (pv 3) pe_int) rfl)
      (pss_cons (ps_set (i := 4) sc_ldraw.nd rfl (Or.inl rfl) (pe_op op_add (pe_op op_mul pe_int (pv 3)) pe_int))
      (pss_cons (ps_if (pt_cmpR (op_neD hr.units) (pe_dget hu (pv 0) pe_str (fun _ _ => rfl)) (pe_lst pa_nil) (nomark _))
        (pss_one (ps_set (i := 4) sc_ldraw.nd rfl (Or.inl rfl) (pe_ix ix_list (pe_dget hu (pv 0) pe_str (fun _ _ => rfl)) (pe_op op_mod (pv 3) (pe_callB call_len_seq (by rfl) N.len PySem.boot_len (pa_cons (pe_dget hu (pv 0) pe_str (fun _ _ => rfl)) pa_nil))) (fun _ _ => rfl)))) pss_nil)
      (pss_cons (ps_if (PW.pt (pw_and (pt_cmpR op_lt (pv 3) (pe_callB call_len_seq (by rfl) N.len PySem.boot_len (pa_cons (pe_dget hu (pv 0) pe_str (fun _ _ => rfl)) pa_nil)) (nomark _))
          (pw_and1 (pt_cmpR op_ge (pe_callB call_abs (by rfl) N.abs PyProof.Rows.boot_abs (pa_cons (pv 4) pa_nil)) (pe_op op_pow pe_int pe_int) (nomark _)))))
        (pss_cons (ps_dput hu (pv 0) pe_str (pe_op op_fdiv (pe_op op_sub (pe_callB call_abs (by rfl) N.abs PyProof.Rows.boot_abs (pa_cons (pv 4) pa_nil)) (pe_op op_pow pe_int pe_int)) (pv 1)) rfl)
        (pss_one (ps_ret (pe_op op_mod (pe_op op_sub (pe_callB call_abs (by rfl) N.abs PyProof.Rows.boot_abs (pa_cons (pv 4) pa_nil)) (pe_op op_pow pe_int pe_int)) (pv 1))))) pss_nil)
      (pss_cons (ps_set (i := 5) sc_ldraw.nd rfl (Or.inl rfl) (pe_op op_mod (pe_op op_add (pe_op op_add (pe_op op_add (pe_op op_mul (pe_op op_mod (pv 4) pe_int) pe_int) (pe_op op_mul (pe_op op_mul pe_int (pv 3)) (pv 3))) (pe_op op_mul pe_int (pv 3))) pe_int) pe_int))
      (pss_cons (ps_set (i := 5) sc_ldraw.nd rfl (Or.inl rfl) (pe_op op_mod (pe_op op_add (pe_op op_add (pe_op op_add (pe_op op_mul (pv 5) (pv 5)) (pe_op op_mul pe_int (pv 5))) (pe_op op_mul pe_int (pv 3))) pe_int) pe_int))
      (pss_one (ps_ret (pe_op op_mod (pe_op op_fdiv (pe_op op_mod (pe_op op_mul (pv 5) (pe_op op_add (pv 5) pe_int)) pe_int) pe_int) (pv 1))))))))))), ?_⟩
    have mi : (0 : Int) < (m : Int) := by omega
    have cd := pen_ne hc hd
    have q2 : ∀ (H' : Hp) (x : Int) (i' : Nat), But d H H' → Pen H' d c is i' → i' ≤ i + 1 → Q (.int (x % (m : Int))) H' := fun H' x i' b p l => by
      obtain ⟨v, hv, hvm⟩ := mod_nat (x := x) m0
      rw [hv]
      exact q H' v i' b p l hvm
    have dget : ∀ {H1 : Hp} {i1 r1 : Int} {k : Str} {v : V}, H1 d = some (.dK (pen c i1 r1)) → valV (pen c i1 r1) (.inr k) = some v → DGet H1 d (.str k) (some v) := fun h e => e ▸ DGet.k (k := .inr _) h
    have gR : DGet H d (.str nR) (some (.int r)) := dget hd (get_r c i r)
    refine ⟨_, rfl, d, _, rfl, gR, _, _, rfl, rfl, _, rfl, ?_⟩
    by_cases hp : 0 < r
    · refine itC (decide_eq_true hp) ?_
      refine ⟨_, rfl, d, _, rfl, gR, _, rfl, _, _, rfl, rfl, mi, ?_⟩
      refine ⟨_, rfl, d, _, rfl, gR, _, rfl, _, _, rfl, rfl, ⟨mi, by omega⟩, _, rfl, d, _, rfl, DPut.k (k := .inr nR) hd (by show 3 < sizeLine; decide), ?_⟩
      rw [put_r]
      exact ⟨_, rfl, q2 _ _ i ((But.refl d H).put _) ⟨hl, by rw [upd_ne cd]; exact hc, r / m, Int.ediv_nonneg hr0 (by omega), upd_same⟩ (by omega)⟩
    · refine itN (decide_eq_false hp) ?_
      have gN : DGet H d (.str nN) (some (.int (i : Int))) := dget hd (get_n c i r)
      refine ⟨_, rfl, d, _, rfl, gN, ?_⟩
      refine ⟨_, rfl, _, _, rfl, rfl, _, rfl, d, _, rfl, DPut.k (k := .inr nN) hd (by show 3 < sizeLine; decide), ?_⟩
      rw [put_n]
      have b1 : But d H (upd H d (.dK (pen c ((i : Int) + 1) r))) := (But.refl d H).put _
      have hd1 : (upd H d (.dK (pen c ((i : Int) + 1) r))) d = some (.dK (pen c ((i : Int) + 1) r)) := upd_same
      have hc1 : (upd H d (.dK (pen c ((i : Int) + 1) r))) c = some (.lst (is.map V.int)) := b1 _ _ cd hc
      generalize upd H d (.dK (pen c ((i : Int) + 1) r)) = H1 at b1 hd1 hc1 ⊢
      refine ⟨_, rfl, 29, _, rfl, rfl, .inl ⟨by decide, by decide⟩, _, _, rfl, rfl, ?_⟩
      have gC1 : DGet H1 d (.str nC) (some (.ref c)) := dget hd1 (get_c c _ r)
      refine ⟨_, rfl, d, _, rfl, gC1, Nat.zero_le _, fun e he => ?_⟩
      have s2 : Same H1 (upd H1 e (.lst [])) := same_upd he
      have he2 : (upd H1 e (.lst [])) e = some (.lst []) := upd_same
      generalize upd H1 e (.lst []) = H2 at s2 he2 ⊢
      have hd2 := s2 _ _ hd1
      have hc2 := s2 _ _ hc1
      have b2 : But d H H2 := b1.trans (.of s2)
      have gC2 : DGet H2 d (.str nC) (some (.ref c)) := dget hd2 (get_c c _ r)
      refine ⟨.list (is.map PyData.int), .list [], .lst (SqL.of hc2) (dp_ints is), .lst (SqL.of he2) .nil, PySem.W.shaped_ints is, shaped_nil, ?_⟩
      rw [eqv_nil]
      refine ⟨_, rfl, ?_⟩
      have i64 : -(2 ^ 64) < (i : Int) ∧ (i : Int) < 2 ^ 64 := ⟨by omega, by omega⟩
      have z0 : (0 : Int) < 2147483647 := by decide
      have z1 : (0 : Int) < 2147483629 := by decide
      have z2 : (0 : Int) < 2147483587 := by decide
      have z3 : (0 : Int) < 2147483579 := by decide
      have pw : CPow 10 18 := ⟨by decide, by decide, by decide⟩
      by_cases ne : is.map PyData.int ≠ []
      have hpos : 0 < (is.map V.int).length := by
        rw [List.length_map]
        cases is with
        | nil => exact absurd rfl ne
        | cons a r => exact Nat.succ_pos _
      obtain ⟨j, hj, hjl⟩ := mod_nat (x := (i : Int)) hpos
      obtain ⟨x, hx⟩ := at_some (l := is) (by rwa [List.length_map] at hjl)
      have hx' : (is.map V.int)[j]? = some (.int x) := by
        rw [List.getElem?_map, hx]
        rfl
      refine itC (decide_eq_true ne) ?_
      refine ⟨_, rfl, d, _, rfl, gC2, _, rfl, _, rfl, d, _, rfl, gC2, c, _, rfl, .inl (SqL.of hc2), _, _, rfl, rfl, by omega, c, _, _, _, rfl, rfl, SqL.of hc2, (by rw [hj]; exact atI_nat hx'), ?_⟩
      rotate_left
      refine itN (decide_eq_false ne) ?_
      dsimp only
      generalize (29 * (i : Int) + 7) = x
      rotate_left
      all_goals
        refine ⟨_, rfl, _, rfl, d, _, rfl, gC2, c, _, rfl, .inl (SqL.of hc2), _, _, rfl, rfl, _, rfl, ?_⟩
        clear ne
        by_cases h1 : (i : Int) < ((is.map V.int).length : Nat)
        · refine itC (decide_eq_true h1) ?_
          refine ⟨_, rfl, x, rfl, 10, 18, rfl, rfl, pw, _, _, rfl, rfl, _, rfl, ?_⟩
          by_cases h2 : (10 : Int) ^ (18 : Int).toNat ≤ (if x < 0 then -x else x)
          · refine itC (decide_eq_true h2) ?_
            refine ⟨_, rfl, x, rfl, 10, 18, rfl, rfl, pw, _, _, rfl, rfl, _, rfl, _, _, rfl, rfl, ⟨mi, by omega⟩, _, rfl, d, _, rfl, DPut.k (k := .inr nR) hd2 (by show 3 < sizeLine; decide), ?_⟩
            rw [put_r]
            refine ⟨_, rfl, x, rfl, 10, 18, rfl, rfl, pw, _, _, rfl, rfl, _, rfl, _, _, rfl, rfl, mi, ?_⟩
            exact q2 _ _ (i + 1) (b2.put _) ⟨hl, by rw [upd_ne cd]; exact hc2, _, Int.ediv_nonneg (Int.sub_nonneg.mpr h2) (by omega), upd_same⟩ (Nat.le_refl _)
          · refine itN (decide_eq_false h2) ?_
            refine ⟨_, rfl, _, 2147483647, rfl, rfl, z0, _, 48271, rfl, rfl, .inr ⟨by decide, by decide⟩, _, rfl, 69621, _, rfl, rfl, .inl ⟨by decide, by decide⟩, _, rfl, _, _, rfl, rfl, .inr i64, _, _, rfl, rfl, _, rfl, 30011, _, rfl, rfl, .inl ⟨by decide, by decide⟩, _, _, rfl, rfl, _, 17, rfl, rfl, _, 2147483629, rfl, rfl, z1, ?_⟩
            refine ⟨_, rfl, _, rfl, _, _, rfl, rfl, cm1 _ _, _, rfl, 40692, _, rfl, rfl, .inl ⟨by decide, by decide⟩, _, _, rfl, rfl, _, rfl, 5, _, rfl, rfl, .inl ⟨by decide, by decide⟩, _, _, rfl, rfl, _, 11, rfl, rfl, _, 2147483587, rfl, rfl, z2, ?_⟩
            refine ⟨_, rfl, _, rfl, _, 16807, rfl, rfl, _, _, rfl, rfl, cm2 _ _, _, 2147483579, rfl, rfl, z3, _, 32, rfl, rfl, ⟨by decide, by decide⟩, _, rfl, _, _, rfl, rfl, mi, ?_⟩
            exact q2 _ _ (i + 1) b2 ⟨hl, hc2, r, hr0, hd2⟩ (Nat.le_refl _)
        · refine itN (decide_eq_false h1) ?_
          refine ⟨_, rfl, _, 2147483647, rfl, rfl, z0, _, 48271, rfl, rfl, .inr ⟨by decide, by decide⟩, _, rfl, 69621, _, rfl, rfl, .inl ⟨by decide, by decide⟩, _, rfl, _, _, rfl, rfl, .inr i64, _, _, rfl, rfl, _, rfl, 30011, _, rfl, rfl, .inl ⟨by decide, by decide⟩, _, _, rfl, rfl, _, 17, rfl, rfl, _, 2147483629, rfl, rfl, z1, ?_⟩
          refine ⟨_, rfl, _, rfl, _, _, rfl, rfl, cm1 _ _, _, rfl, 40692, _, rfl, rfl, .inl ⟨by decide, by decide⟩, _, _, rfl, rfl, _, rfl, 5, _, rfl, rfl, .inl ⟨by decide, by decide⟩, _, _, rfl, rfl, _, 11, rfl, rfl, _, 2147483587, rfl, rfl, z2, ?_⟩
          refine ⟨_, rfl, _, rfl, _, 16807, rfl, rfl, _, _, rfl, rfl, cm2 _ _, _, 2147483579, rfl, rfl, z3, _, 32, rfl, rfl, ⟨by decide, by decide⟩, _, rfl, _, _, rfl, rfl, mi, ?_⟩
          exact q2 _ _ (i + 1) b2 ⟨hl, hc2, r, hr0, hd2⟩ (Nat.le_refl _)
end
end K61

/-! The law's own defs: the pick, the shuffled texts, the pattern. -/
namespace K61
open PySem PySem.Spec PyProof.Rows L2
def gs (cs : List Nat) : List V := cs.map fun c => V.str (sg c)
theorem gs_len (cs : List Nat) : (gs cs).length = cs.length := List.length_map _
theorem gs_at {cs : List Nat} {i c : Nat} (h : cs[i]? = some c) : (gs cs)[i]? = some (.str (sg c)) := by
  unfold gs
  rw [List.getElem?_map, h]
  rfl
theorem gs_app (a b : List Nat) : gs (a ++ b) = gs a ++ gs b := List.map_append
theorem gs_erase : ∀ (cs : List Nat) (v : Nat), (gs cs).eraseIdx v = gs (cs.eraseIdx v)
  | [], _ => rfl
  | _ :: _, 0 => rfl
  | c :: cs, v + 1 => congrArg (V.str (sg c) :: ·) (gs_erase cs v)
def gd (cs : List Nat) : List PyData := cs.map fun c => PyData.str (sg c)
theorem dp_gs {K : PySem.W.Frag} {H : Hp} : ∀ cs : List Nat, DpAll K H (gs cs) (gd cs)
  | [] => .nil
  | c :: cs => .cons (.str _) (dp_gs cs)
theorem sg_ok {c : Nat} (h : c < 123) : PyData.strOk (sg c) = true := by
  unfold PyData.strOk sg
  simp only [List.all_toArray, List.all_cons, List.all_nil, Bool.and_true]
  exact decide_eq_true (by omega)
theorem gd_lay : ∀ cs : List Nat, (∀ c ∈ cs, c < 123) → PyData.canLayAll0 (gd cs) = true
  | [], _ => by simp [gd, PyData.canLayAll0]
  | c :: cs, h => by
    have h1 := gd_lay cs fun x hx => h x (List.mem_cons_of_mem _ hx)
    have h2 := sg_ok (h c List.mem_cons_self)
    unfold gd at h1 ⊢
    simp only [List.map_cons, PyData.canLayAll0, PyData.canLay0, h1, h2, Bool.and_self]
theorem gd_deep : ∀ cs : List Nat, PyData.depthAll (gd cs) = 0
  | [] => by simp [gd, PyData.depthAll]
  | c :: cs => by
    have h1 := gd_deep cs
    unfold gd at h1 ⊢
    simp only [List.map_cons, PyData.depthAll, PyData.depth, h1, Nat.max_self]
theorem gd_shaped (cs : List Nat) (h : ∀ c ∈ cs, c < 123) : SeqAt.shaped (.list (gd cs)) = true := by
  show (PyData.canLay0 (.list (gd cs)) && decide (PyData.depth (.list (gd cs)) ≤ 64)) = true
  rw [Bool.and_eq_true]
  exact ⟨by simp only [PyData.canLay0]; exact gd_lay cs h, decide_eq_true (by simp only [PyData.depth, gd_deep cs]; omega)⟩
theorem cut_gs (cs : List Nat) (k : Nat) : cutV (gs cs) none (some (k : Int)) = gs (cs.take k) := by
  unfold cutV
  have e1 : HT.sIx (gs cs).length 0 none = 0 := rfl
  rw [e1, HT.sIx_nat, List.drop_zero, Nat.sub_zero, gs_len]
  unfold gs
  rw [← List.map_take]
  congr 1
  by_cases h : k ≤ cs.length
  · rw [Nat.min_eq_left h]
  · rw [Nat.min_eq_right (by omega), List.take_of_length_le (by omega), List.take_of_length_le (by omega)]
def names6 : List Nat := [97, 98, 99, 120, 121, 122]
theorem names6_tx : (Str.ofString "abcxyz") = tx names6 := by decide +kernel

section
variable {P : Program} {w : World} {K : PySem.W.Frag} {mg : Str → Option Value} {base : Heap}
abbrev sLPick : Stmt := top 37
abbrev sLShuf : Stmt := top 38
abbrev sLPat : Stmt := top 39
def spLPick : Sp := fun vs H Q _ => ∃ (d c : Addr) (is : List Int) (i : Nat) (a : Addr) (cs : List Nat), vs = [.ref d, .ref a] ∧ Pen H d c is i ∧ H a = some (.lst (gs cs)) ∧ cs ≠ [] ∧ cs.length ≤ 1000 ∧ i ≤ 1000000 ∧
  ∀ (H' : Hp) (x i' : Nat), But d H H' → Pen H' d c is i' → i' ≤ i + 1 → x ∈ cs → Q (.str (sg x)) H'
theorem sc_lpick : FnScope ["_law_pen_here", "_law_choices"] ["_law_pen_here", "_law_choices"] (defScope sLPick) := ⟨rfl, rfl, rfl, by decide +kernel, rfl, by decide +kernel, by decide +kernel⟩
theorem ok_lpick {f : Addr} {fd : FuncData} (F : Fun K "_law_pick" "_law_pick" sLPick f fd) (N : Nm mg) (D : At P w K mg base "_law_draw" 1 ["_law_pen_here", "_law_many"] spLDraw) : FnOk P w K mg base CX0 2 f fd ["_law_pen_here", "_law_choices"] spLPick := by
  refine F.ok sc_lpick (fun vs H Q E h => ?_) (fun cdv A outer s H vs Q E hr h => ?_)
  · obtain ⟨_, _, _, _, _, _, rfl, _⟩ := h
    rfl
  · obtain ⟨d, c, is, i, a, cs, rfl, p, ha, hne, hl, hi, q⟩ := h
    refine ⟨_, pss_one (ps_ret (pe_ix ix_list (pv 1) (pe_call D.ok hr (by rfl) D.m D.kp D.b .nil pass0 (pa_cons (pv 0) (pa_cons (pe_callB call_len_seq (by rfl) N.len PySem.boot_len (pa_cons (pv 1) pa_nil)) pa_nil))) (fun _ _ => rfl))), ?_⟩
    have hpos : 0 < cs.length := List.length_pos_iff.mpr hne
    have ad : a ≠ d := by
      obtain ⟨_, _, r, _, hd⟩ := p
      exact ne_of ha hd (fun z => by cases z)
    refine ⟨_, rfl, _, rfl, _, rfl, a, _, rfl, .inl (SqL.of ha), d, c, is, i, cs.length, by rw [gs_len]; rfl, p, hpos, by omega, hi, fun H' v i' b p' hi' hv => ?_⟩
    obtain ⟨x, hx⟩ := at_some (l := cs) hv
    exact ⟨a, _, _, _, rfl, rfl, SqL.of (b _ _ ad ha), atI_nat (gs_at hx), q H' x i' b p' hi' (at_mem hx)⟩
def spLShuf : Sp := fun vs H Q _ => ∃ (d c : Addr) (is : List Int) (i : Nat) (p : List Nat), vs = [.ref d, .str (tx p)] ∧ Pen H d c is i ∧ p.length ≤ 100 ∧ (∀ x ∈ p, x < 123) ∧ i ≤ 100000 ∧
  ∀ (H' : Hp) (l : Addr) (q : List Nat) (i' : Nat), But d H H' → Pen H' d c is i' → i' ≤ i + p.length → H l = none → H' l = some (.lst (gs q)) → q.length = p.length → (∀ x ∈ q, x ∈ p) → Q (.ref l) H'
theorem sc_lshuf : FnScope ["_law_pen_here", "_law_values", "_law_rest", "_law_found"] ["_law_pen_here", "_law_values"] (defScope sLShuf) := ⟨rfl, rfl, rfl, by decide +kernel, rfl, by decide +kernel, by decide +kernel⟩
theorem seqIx {j n : Nat} (h : j < n) : seqIndex? ((j : Nat) : Int) n = some j := by
  unfold seqIndex?
  have h1 : ¬ ((j : Int) < 0) := by omega
  simp only [h1, if_false]
  have h2 : (decide ((0 : Int) ≤ j) && decide ((j : Int) < n)) = true := by
    rw [Bool.and_eq_true]
    exact ⟨decide_eq_true (by omega), decide_eq_true (by omega)⟩
  rw [if_pos h2]
  rfl
theorem ok_lshuf {f : Addr} {fd : FuncData} (F : Fun K "_law_shuffled" "_law_shuffled" sLShuf f fd) (N : Nm mg) (D : At P w K mg base "_law_draw" 1 ["_law_pen_here", "_law_many"] spLDraw) : FnOk P w K mg base CX0 2 f fd ["_law_pen_here", "_law_values"] spLShuf := by
  refine F.ok sc_lshuf (fun vs H Q E h => ?_) (fun cdv A outer s H vs Q E hr h => ?_)
  · obtain ⟨_, _, _, _, _, rfl, _⟩ := h
    rfl
  · obtain ⟨d, c, is, i, p, rfl, pn, hl, hlow, hi, q⟩ := h
    have hu := hu_of hr
    refine ⟨_, pss_cons (ps_par rfl sc_lshuf.nd (i := 2) (j := 3) rfl rfl (by decide) rfl rfl (pa_cons (pe_callTy (call_list_txt rfl) (by rfl) N.list (by decide +kernel) (pa_cons (pv 1) pa_nil)) (pa_cons (pe_lst pa_nil) pa_nil)) (by rfl))
      (pss_cons (ps_while PassesOwn.never (pt_cmpR (op_neD hr.units) (pv 2) (pe_lst pa_nil) (nomark _))
        (pss_one (ps_expr (pe_bm PySem.F.plainAttrs_list PySem.F.slot_list_append PySem.F.type_list_append mt_append (pv 3) (pa_cons
          (pe_bm PySem.F.plainAttrs_list PySem.F.slot_list_pop PySem.F.type_list_pop mt_popAt (pv 2) (pa_cons (pe_call D.ok hr (by rfl) D.m D.kp D.b .nil pass0 (pa_cons (pv 0) (pa_cons (pe_callB call_len_seq (by rfl) N.len PySem.boot_len (pa_cons (pv 2) pa_nil)) pa_nil))) pa_nil)) pa_nil)))))
      (pss_one (ps_ret (pv 3)))), ?_⟩
    refine ⟨_, rfl, tx p, rfl, by rw [tx_size, sizeLine_eq]; omega, fun a ha => ⟨Nat.zero_le _, fun g hg => ⟨_, _, rfl, ?_⟩⟩⟩
    have s1 : Same H (upd (upd H a (.lst (gs p))) g (.lst [])) := (same_upd ha).trans (same_upd hg)
    have ha1 : (upd (upd H a (.lst (gs p))) g (.lst [])) a = some (.lst (gs p)) := (same_upd hg) _ _ upd_same
    have hg1 : (upd (upd H a (.lst (gs p))) g (.lst [])) g = some (.lst (gs [])) := upd_same
    have hgH : H g = none := (same_upd ha).free hg
    have ag : a ≠ g := ne_of_none upd_same hg
    show tSeq _ _ _ _ (upd (upd H a (.lst (gs p))) g (.lst []))
    generalize upd (upd H a (.lst (gs p))) g (.lst []) = H1 at s1 ha1 hg1 ⊢
    refine ⟨fun μ σ H' => ∃ (r u : List Nat) (i' : Nat), μ = r.length ∧ σ = [some (.ref d), some (.str (tx p)), some (.ref a), some (.ref g)] ∧ But d H H' ∧ Pen H' d c is i' ∧ i' ≤ i + u.length ∧ H' a = some (.lst (gs r)) ∧ H' g = some (.lst (gs u)) ∧ r.length + u.length = p.length ∧ (∀ x ∈ r, x ∈ p) ∧ (∀ x ∈ u, x ∈ p),
      ⟨p.length, p, [], i, rfl, rfl, .of s1, pn.same s1, Nat.le_refl _, ha1, hg1, rfl, fun _ h => h, fun _ h => by cases h⟩, ?_⟩
    rintro μ σ H2 ⟨r, u, i', rfl, rfl, b2, p2, hi2, ha2, hg2, hru, hr2, hu2⟩
    have ad : a ≠ d := by
      obtain ⟨_, _, _, _, hd⟩ := p2
      exact ne_of ha2 hd (fun z => by cases z)
    have gd' : g ≠ d := by
      obtain ⟨_, _, _, _, hd⟩ := p2
      exact ne_of hg2 hd (fun z => by cases z)
    refine ⟨_, rfl, Nat.zero_le _, fun e he => ?_⟩
    have s3 : Same H2 (upd H2 e (.lst [])) := same_upd he
    have he3 : (upd H2 e (.lst [])) e = some (.lst []) := upd_same
    generalize upd H2 e (.lst []) = H3 at s3 he3 ⊢
    refine ⟨.list (gd r), .list [], .lst (SqL.of (s3 _ _ ha2)) (dp_gs r), .lst (SqL.of he3) .nil, gd_shaped r (fun x hx => hlow x (hr2 x hx)), shaped_nil, ?_⟩
    rw [eqv_nil]
    refine ⟨_, rfl, ?_⟩
    by_cases hc : gd r ≠ []
    · refine itC (decide_eq_true hc) ?_
      have hpos : 0 < r.length := by
        cases r with
        | nil => exact absurd rfl hc
        | cons x y => exact Nat.succ_pos _
      refine ⟨fun σ' H' => ∃ (r' u' : List Nat) (i' : Nat), r.length = r'.length + 1 ∧ σ' = [some (.ref d), some (.str (tx p)), some (.ref a), some (.ref g)] ∧ But d H H' ∧ Pen H' d c is i' ∧ i' ≤ i + u'.length ∧ H' a = some (.lst (gs r')) ∧ H' g = some (.lst (gs u')) ∧ r'.length + u'.length = p.length ∧ (∀ x ∈ r', x ∈ p) ∧ (∀ x ∈ u', x ∈ p),
        fun σ' H' ⟨r', u', i', a1, a2, a3⟩ => ⟨r'.length, by omega, r', u', i', rfl, a2, a3⟩, ?_⟩
      have ha3 := s3 _ _ ha2
      have hg3 := s3 _ _ hg2
      refine ⟨_, rfl, .inl ⟨rfl, _, SqL.of hg3⟩, _, rfl, .inl ⟨rfl, _, SqL.of ha3⟩, _, rfl, _, rfl, a, _, rfl, .inl (SqL.of ha3), d, c, is, i', r.length, by rw [gs_len]; rfl, p2.same s3, hpos, by omega, by omega, fun H4 v i4 b4 p4 hi4 hv => ?_⟩
      obtain ⟨x, hx⟩ := at_some (l := r) hv
      have ha4 := b4 _ _ ad ha3
      have hg4 := b4 _ _ gd' hg3
      refine ⟨a, _, _, v, _, rfl, rfl, ha4, by omega, by omega, by rw [gs_len]; exact seqIx hv, gs_at hx, ?_⟩
      have eE : (gs r).eraseIdx v = gs (r.eraseIdx v) := by
        exact gs_erase r v
      rw [eE]
      have b5 : ∀ (o : HO), ∀ b u, b ≠ a → H4 b = some u → (upd H4 a o) b = some u := fun o b u n e => by rw [upd_ne n]; exact e
      have hg5 := b5 (.lst (gs (r.eraseIdx v))) _ _ (Ne.symm ag) hg4
      refine ⟨g, _, _, rfl, rfl, hg5, len_lt (by rw [gs_len]; omega), ?_⟩
      have hp4 : Pen (upd (upd H4 a (.lst (gs (r.eraseIdx v)))) g (.lst (gs u ++ [.str (sg x)]))) d c is i4 := by
        obtain ⟨z1, z2, rr, z3, z4⟩ := p4
        have ca : c ≠ a := fun z => by
          obtain ⟨_, y2, _, _, y4⟩ := pn
          exact absurd (z ▸ y2) (by rw [ha]; exact fun z => by cases z)
        have cg : c ≠ g := fun z => by
          obtain ⟨_, y2, _, _, y4⟩ := pn
          exact absurd (z ▸ y2) (by rw [hgH]; exact fun z => by cases z)
        refine ⟨z1, ?_, rr, z3, ?_⟩
        · rw [upd_ne cg, upd_ne ca]; exact z2
        · rw [upd_ne (Ne.symm gd'), upd_ne (Ne.symm ad)]; exact z4
      have hb : But d H (upd (upd H4 a (.lst (gs (r.eraseIdx v)))) g (.lst (gs u ++ [.str (sg x)]))) := fun b o n e => by
        rw [upd_ne (ne_of_none e hgH), upd_ne (ne_of_none e ha)]
        exact (b2.trans ((But.of s3).trans b4)) _ _ n e
      refine ⟨r.eraseIdx v, u ++ [x], i4, by rw [List.length_eraseIdx_of_lt hv]; omega, rfl, hb, hp4, by rw [List.length_append]; show i4 ≤ i + (u.length + 1); omega, ?_, ?_, ?_, fun y hy => hr2 y (List.mem_of_mem_eraseIdx hy), fun y hy => ?_⟩
      · rw [upd_ne ag, upd_same]
      · rw [upd_same, gs_app]
        rfl
      · rw [List.length_eraseIdx_of_lt hv, List.length_append]
        show r.length - 1 + (u.length + 1) = _
        omega
      · rcases List.mem_append.mp hy with h | h
        · exact hu2 y h
        · rw [List.mem_singleton.mp h]
          exact hr2 x (at_mem hx)
    · refine itN (decide_eq_false hc) ?_
      have hr0 : r = [] := by
        cases r with
        | nil => rfl
        | cons x y => exact absurd (fun z => by cases z) hc
      subst hr0
      exact ⟨_, rfl, q _ g u i' (b2.trans (.of s3)) (p2.same s3) (by simp at hru; omega) hgH (s3 _ _ hg2) (by simpa using hru) hu2⟩
/-! ### _law_pattern -/
def spLPat : Sp := fun vs H Q _ => ∃ (d c : Addr) (is : List Int) (i : Nat), vs = [.ref d, .int 6, .int 3] ∧ Pen H d c is i ∧ i ≤ 100000 ∧
  ∀ (H' : Hp) (p : List Nat) (i' : Nat), But d H H' → Pen H' d c is i' → i' ≤ i + 20 → p ≠ [] → p.length ≤ 6 → (∀ x ∈ p, 97 ≤ x ∧ x < 123) → Q (.str (tx p)) H'
theorem sc_lpat : FnScope ["_law_pen_here", "_law_most", "_law_many", "_law_names", "_law_k"] ["_law_pen_here", "_law_most", "_law_many"] (defScope sLPat) := ⟨rfl, rfl, rfl, by decide +kernel, rfl, by decide +kernel, by decide +kernel⟩
theorem ok_lpat {f : Addr} {fd : FuncData} (F : Fun K "_law_pattern" "_law_pattern" sLPat f fd) (N : Nm mg) (D : At P w K mg base "_law_draw" 1 ["_law_pen_here", "_law_many"] spLDraw)
    (S : At P w K mg base "_law_shuffled" 2 ["_law_pen_here", "_law_values"] spLShuf) (C : At P w K mg base "_law_pick" 2 ["_law_pen_here", "_law_choices"] spLPick) : FnOk P w K mg base CX0 3 f fd ["_law_pen_here", "_law_most", "_law_many"] spLPat := by
  refine F.ok sc_lpat (fun vs H Q E h => ?_) (fun cdv A outer s H vs Q E hr h => ?_)
  · obtain ⟨_, _, _, _, rfl, _⟩ := h
    rfl
  · obtain ⟨d, c, is, i, rfl, pn, hi, q⟩ := h
    refine ⟨_, pss_cons (ps_set (i := 3) sc_lpat.nd rfl (Or.inr rfl) (pe_slice sl_list (pe_call S.ok hr (by rfl) S.m S.kp S.b .nil pass0 (pa_cons (pv 0) (pa_cons pe_str pa_nil))) po_none
        (po_some (pe_op op_add pe_int (pe_call D.ok (hr.mono (by decide)) (by rfl) D.m D.kp D.b .nil pass0 (pa_cons (pv 0) (pa_cons (pv 2) pa_nil)))))))
      (pss_one (ps_ret (pe_join pe_str (pe_lc (own := [("_law_k", 4)]) (g := gName 4) (tt := tYes) (te := tCall spLPick [] E0 (tCons (tVar 0) (tCons (tVar 3) tNil))) rfl sc_lpat.nd
        (pi_range1 (by rfl) N.range (pa_cons (pe_op op_add pe_int (pe_call D.ok (hr.mono (by decide)) (by rfl) D.m D.kp D.b .nil pass0 (pa_cons (pv 0) (pa_cons (pv 1) pa_nil)))) pa_nil)) (blkOk_by (N := ["_law_pen_here", "_law_most", "_law_many", "_law_names", "_law_k"]) (sc := defScope sLPat) (by decide +kernel))
        (fun _ _ _ _ _ => pg_name (i := 4) sc_lpat.nd rfl (Or.inl rfl)) (fun _ _ _ _ _ => pts_nil) (fun _ _ _ _ _ => pe_call C.ok hr (by rfl) C.m C.kp C.b .nil pass0 (pa_cons (pv 0) (pa_cons (pv 3) pa_nil))))))), ?_⟩
    refine ⟨_, rfl, d, c, is, i, names6, by rw [← names6_tx]; rfl, pn, by decide, by decide, by omega, fun H1 l u i1 b1 p1 hi1 hl hl1 hul hun => ?_⟩
    refine ⟨_, rfl, _, rfl, d, c, is, i1, 3, rfl, p1, by decide, by decide, by have : names6.length = 6 := rfl; omega, fun H2 v i2 b2 p2 hi2 hv => ?_⟩
    have ld : l ≠ d := fun z => by
      obtain ⟨_, _, _, _, y⟩ := pn
      exact absurd (z ▸ y) (by rw [hl]; exact fun z => by cases z)
    refine ⟨1, _, rfl, rfl, _, rfl, l, _, rfl, SqL.of (b2 _ _ ld hl1), fun e he => ?_⟩
    have ev : (1 + (v : Int)) = ((v + 1 : Nat) : Int) := by omega
    have u6 : u.length = 6 := hul
    rw [ev, cut_gs]
    have s3 : Same H2 (upd H2 e (.lst (gs (u.take (v + 1))))) := same_upd he
    have he3 : (upd H2 e (.lst (gs (u.take (v + 1))))) e = some (.lst (gs (u.take (v + 1)))) := upd_same
    generalize upd H2 e (.lst (gs (u.take (v + 1)))) = H3 at s3 he3 ⊢
    have hne : u.take (v + 1) ≠ [] := fun z => by
      have := congrArg List.length z
      rw [List.length_take, u6] at this
      simp at this
    have hin : ∀ x ∈ u.take (v + 1), 97 ≤ x ∧ x < 123 := fun x hx => by
      have h := hun x (List.mem_of_mem_take hx)
      exact (by decide : ∀ x ∈ names6, 97 ≤ x ∧ x < 123) x h
    have hcl : (u.take (v + 1)).length ≤ 1000 := by rw [List.length_take]; omega
    generalize u.take (v + 1) = cs at he3 hne hin hcl ⊢
    refine ⟨⟨_, rfl⟩, _, rfl, _, rfl, d, c, is, i2, 6, rfl, p2.same s3, by decide, by decide, by omega, fun H4 v2 i4 b4 p4 hi4 hv2 => ?_⟩
    have ed : e ≠ d := fun z => by
      obtain ⟨_, _, _, _, y⟩ := p2
      exact absurd (z ▸ y) (by rw [he]; exact fun z => by cases z)
    have he4 := b4 _ _ ed he3
    have b04 : But d H H4 := b1.trans (b2.trans ((But.of s3).trans b4))
    have e0 : Str.ofString "" = tx [] := rfl
    refine ⟨1, _, rfl, rfl, _, rfl, by omega, by omega, fun D hD => ?_⟩
    refine lc_it walk_range (fun j Hc => ∃ (r : List Nat) (i' : Nat), But d H4 Hc ∧ Hc D = some (.lst (gs r)) ∧ r.length = j ∧ Pen Hc d c is i' ∧ i' ≤ i4 + j ∧ ∀ x ∈ r, x ∈ cs) ⟨[], i4, .of (same_upd hD), upd_same, rfl, p4.same (same_upd hD), Nat.le_refl _, fun _ h => by cases h⟩ (fun _ _ _ _ => trivial) ?_ ?_
    · rintro j y H5 H6 hj ⟨r, i5, b5, hD5, hrl, p5, hi5, hr5⟩ ⟨rfl, rfl⟩
      have hj6 : j < 6 := by
        have : (1 + (v2 : Int)).toNat = v2 + 1 := by omega
        have hj' : j < (1 + (v2 : Int)).toNat := hj
        omega
      have Dd : D ≠ d := by
        obtain ⟨_, _, _, _, y⟩ := p5
        exact ne_of hD5 y (fun z => by cases z)
      refine ⟨rfl, _, rfl, _, rfl, d, c, is, i5, e, cs, rfl, p5, b5 _ _ ed he4, hne, hcl, by omega, fun H7 x i7 b7 p7 hi7 hx => ?_⟩
      have hD7 := b7 _ _ Dd hD5
      refine ⟨_, hD7, len_lt (by rw [gs_len]; omega), r ++ [x], i7, fun b o n ho => ?_, ?_, by rw [List.length_append, hrl]; rfl, ?_, by omega, fun y hy => ?_⟩
      · rw [upd_ne (ne_of_none ho hD)]
        exact (b5.trans b7) _ _ n ho
      · rw [upd_same, gs_app]
        rfl
      · obtain ⟨z1, z2, rr, z3, z4⟩ := p7
        refine ⟨z1, ?_, rr, z3, ?_⟩
        · rw [upd_ne (ne_of_none (p4.2.1) hD)]
          exact z2
        · rw [upd_ne (Ne.symm Dd)]
          exact z4
      · rcases List.mem_append.mp hy with h | h
        · exact hr5 y h
        · rw [List.mem_singleton.mp h]
          exact hx
    · rintro H5 ⟨r, i5, b5, hD5, hrl, p5, hi5, hr5⟩
      have hrl' : r.length = v2 + 1 := by
        have : (1 + (v2 : Int)).toNat = v2 + 1 := by omega
        have hj' : r.length = (1 + (v2 : Int)).toNat := hrl
        omega
      have eg : gs r = (r.map sg).map V.str := by
        unfold gs
        rw [List.map_map]
        rfl
      refine ⟨_, D, r.map sg, rfl, rfl, .inl (SqL.of (eg ▸ hD5)), by rw [e0, join_room]; omega, ?_⟩
      rw [e0, join_sg]
      have hrl2 : (1 + (v2 : Int)).toNat = v2 + 1 := by omega
      have hi5' : i5 ≤ i4 + (1 + (v2 : Int)).toNat := hi5
      exact q H5 r i5 (b04.trans b5) p5 (by omega) (fun z => by rw [z] at hrl'; cases hrl') (by omega) fun x hx => hin x (hr5 x hx)
end
end K61

/-! The law's own defs: the bounds. -/
namespace K61
open PySem PySem.Spec PyProof.Rows L2
theorem many_11 : many 1 1 = 1 := by decide +kernel
theorem size_11 {p : List Nat} (h : p.length ≤ 1) : size p 1 1 ≤ 1 := by
  unfold size
  rw [many_11, Nat.one_pow, Nat.mul_one, Nat.one_mul]
  exact h
theorem max2_le {i j : Int} (h : ¬ (0 : Int) < (if j > i then j else i)) : i ≤ 0 ∧ j ≤ 0 := by
  split at h <;> omega
theorem max2_gt {i j : Int} (h : (0 : Int) < (if j > i then j else i)) : 0 < i ∨ 0 < j := by
  split at h <;> omega
theorem cut_tx (p : List Nat) (hp : p ≠ []) : cutS (tx p) none (some (-1)) = tx p.dropLast := by
  have h1 : 0 < p.length := List.length_pos_iff.mpr hp
  unfold cutS
  have e1 : HT.sIx (tx p).length 0 none = 0 := rfl
  have e2 : HT.sIx (tx p).length (tx p).length (some (-1)) = p.length - 1 := by
    show (-1 + ((tx p).length : Int)).toNat = _
    rw [tx_len]
    omega
  rw [e1, e2, tx_cps, List.drop_zero, Nat.sub_zero, List.dropLast_eq_take]
  rfl
section
variable {P : Program} {w : World} {K : PySem.W.Frag} {mg : Str → Option Value} {base : Heap}
abbrev sLBounds : Stmt := top 43
def spLBounds : Sp := fun vs H Q _ => ∃ (d c : Addr) (is : List Int) (i : Nat), vs = [.ref d, .int 300] ∧ Pen H d c is i ∧ i ≤ 50000 ∧
  ∀ (H' : Hp) (b : Addr) (p : List Nat) (k m i' : Nat), But d H H' → Pen H' d c is i' → i' ≤ i + 50 → H' b = some (.tup [.str (tx p), .int (k : Int), .int (m : Int)]) → p ≠ [] → p.length ≤ 6 → (∀ x ∈ p, 97 ≤ x ∧ x < 123) → 1 ≤ k → k ≤ 4 → 1 ≤ m → m ≤ 4 → size p k m ≤ 4096 → Q (.ref b) H'
theorem sc_lbounds : FnScope ["_law_pen_here", "_law_limit", "_law_pattern_here", "_law_letters", "_law_longest"] ["_law_pen_here", "_law_limit"] (defScope sLBounds) := ⟨rfl, rfl, rfl, by decide +kernel, rfl, by decide +kernel, by decide +kernel⟩
theorem ok_lbounds {f : Addr} {fd : FuncData} (F : Fun K "_law_bounds" "_law_bounds" sLBounds f fd) (N : Nm mg) (PA : At P w K mg base "_law_pattern" 3 ["_law_pen_here", "_law_most", "_law_many"] spLPat)
    (D : At P w K mg base "_law_draw" 1 ["_law_pen_here", "_law_many"] spLDraw) (Z : At P w K mg base "_law_size" 2 ["_law_pattern_here", "_law_letters", "_law_longest"] spLSize)
    (Y : At P w K mg base "_law_ways" 1 ["_law_letters", "_law_length"] spLWays) : FnOk P w K mg base CX0 4 f fd ["_law_pen_here", "_law_limit"] spLBounds := by
  refine F.ok sc_lbounds (fun vs H Q E h => ?_) (fun cdv A outer s H vs Q E hr h => ?_)
  · obtain ⟨_, _, _, _, rfl, _⟩ := h
    rfl
  · obtain ⟨d, c, is, i, rfl, pn, hi, q⟩ := h
    refine ⟨_, pss_cons (ps_par3 (i := 2) (j := 3) (l := 4) rfl sc_lbounds.nd rfl rfl rfl (by decide) (by decide) (by decide) rfl rfl rfl
        (pa_cons (pe_call PA.ok hr (by rfl) PA.m PA.kp PA.b .nil pass0 (pa_cons (pv 0) (pa_cons pe_int (pa_cons pe_int pa_nil))))
        (pa_cons (pe_op op_add pe_int (pe_call D.ok (hr.mono (by decide)) (by rfl) D.m D.kp D.b .nil pass0 (pa_cons (pv 0) (pa_cons pe_int pa_nil))))
        (pa_cons (pe_op op_add pe_int (pe_call D.ok (hr.mono (by decide)) (by rfl) D.m D.kp D.b .nil pass0 (pa_cons (pv 0) (pa_cons pe_int pa_nil)))) pa_nil))) (by rfl))
      (pss_cons (ps_while PassesOwn.never (pt_cmpR op_gt (pe_callB (call_max2 rfl) (by rfl) N.max PyProof.Rows.boot_max
          (pa_cons (pe_op op_sub (pe_call Z.ok (hr.mono (by decide)) (by rfl) Z.m Z.kp Z.b .nil pass0 (pa_cons (pv 2) (pa_cons (pv 3) (pa_cons (pv 4) pa_nil)))) pe_int)
          (pa_cons (pe_op op_sub (pe_call Y.ok (hr.mono (by decide)) (by rfl) Y.m Y.kp Y.b .nil pass0 (pa_cons (pv 3) (pa_cons (pe_op op_mul (pv 4) (pe_callB call_len_str (by rfl) N.len PySem.boot_len (pa_cons (pv 2) pa_nil))) pa_nil))) (pv 1)) pa_nil))) pe_int (nomark _))
        (pss_one (ps_if (PW.pt (pw_and (pt_cmpR op_gt (pv 4) pe_int (nomark _)) (pw_and1 (pt_cmpR op_eq (pe_call D.ok (hr.mono (by decide)) (by rfl) D.m D.kp D.b .nil pass0 (pa_cons (pv 0) (pa_cons pe_int pa_nil))) pe_int (nomark _)))))
          (pss_one (ps_set (i := 4) sc_lbounds.nd rfl (Or.inl rfl) (pe_op op_sub (pv 4) pe_int)))
          (pss_one (ps_if (pt_cmpR op_gt (pv 3) pe_int (nomark _))
            (pss_one (ps_set (i := 3) sc_lbounds.nd rfl (Or.inl rfl) (pe_op op_sub (pv 3) pe_int)))
            (pss_one (ps_if (pt_cmpR op_gt (pe_callB call_len_str (by rfl) N.len PySem.boot_len (pa_cons (pv 2) pa_nil)) pe_int (nomark _))
              (pss_one (ps_set (i := 2) sc_lbounds.nd rfl (Or.inl rfl) (pe_slice sl_str (pv 2) po_none (po_some (pe_un un_neg pe_int)))))
              (pss_one (ps_asg (pe_tup (pa_cons pe_int (pa_cons pe_int pa_nil))) (pg_tup rfl (pgs_cons (pg_name (i := 3) sc_lbounds.nd rfl (Or.inl rfl)) (pgs_cons (pg_name (i := 4) sc_lbounds.nd rfl (Or.inl rfl)) pgs_nil))))))))))))
      (pss_one (ps_ret (pe_tup (pa_cons (pv 2) (pa_cons (pv 3) (pa_cons (pv 4) pa_nil))))))), ?_⟩
    refine ⟨_, rfl, d, c, is, i, rfl, pn, by omega, fun H1 p i1 b1 p1 hi1 hpn hp6 hpl => ?_⟩
    refine ⟨_, rfl, d, c, is, i1, 4, rfl, p1, by decide, by decide, by omega, fun H2 v2 i2 b2 p2 hi2 hv2 => ⟨1, _, rfl, rfl, ?_⟩⟩
    refine ⟨_, rfl, d, c, is, i2, 4, rfl, p2, by decide, by decide, by omega, fun H3 v3 i3 b3 p3 hi3 hv3 => ⟨1, _, rfl, rfl, _, _, _, rfl, ?_⟩⟩
    refine ⟨fun μ σ H' => ∃ (p : List Nat) (k m i' : Nat), μ = k + m + p.length ∧ σ = [some (.ref d), some (.int 300), some (.str (tx p)), some (.int (k : Int)), some (.int (m : Int))] ∧ But d H H' ∧ Pen H' d c is i' ∧ i' + (k + m + p.length) ≤ i + 40 ∧ p ≠ [] ∧ p.length ≤ 6 ∧ (∀ x ∈ p, 97 ≤ x ∧ x < 123) ∧ 1 ≤ k ∧ k ≤ 4 ∧ 1 ≤ m ∧ m ≤ 4,
      ⟨_, p, v2 + 1, v3 + 1, i3, rfl, ?_, b1.trans (b2.trans b3), p3, by omega, hpn, hp6, hpl, by omega, by omega, by omega, by omega⟩, ?_⟩
    · have e2 : (1 + (v2 : Int)) = ((v2 + 1 : Nat) : Int) := by omega
      have e3 : (1 + (v3 : Int)) = ((v3 + 1 : Nat) : Int) := by omega
      rw [← e2, ← e3]
      rfl
    rintro μ σ H4 ⟨p, k, m, i4, rfl, rfl, b4, p4, hi4, hpn, hp6, hpl, k1, k4, m1, m4⟩
    have hmp : m * p.length ≤ 4 * 6 := Nat.mul_le_mul m4 hp6
    refine ⟨_, rfl, _, rfl, _, rfl, p, k, m, rfl, by omega, k4, m4, fun H5 s5 => ⟨_, 4096, rfl, rfl, ?_⟩⟩
    refine ⟨_, rfl, _, rfl, _, rfl, _, rfl, by rw [tx_len, sizeLine_eq]; omega, _, _, rfl, rfl, .inl ⟨by omega, by omega⟩, k, m * p.length, by rw [tx_len, Int.natCast_mul]; rfl, k4, by omega, ?_⟩
    refine ⟨_, rfl, _, 300, rfl, rfl, _, _, rfl, _, 0, rfl, rfl, _, rfl, ?_⟩
    have p5 := p4.same s5
    have b5 : But d H H5 := b4.trans (.of s5)
    by_cases hc : (0 : Int) < (if ((k ^ (m * p.length - 1) : Nat) : Int) - 300 > ((size p k m : Nat) : Int) - 4096 then ((k ^ (m * p.length - 1) : Nat) : Int) - 300 else ((size p k m : Nat) : Int) - 4096)
    · refine itC (decide_eq_true hc) ?_
      refine ⟨fun σ' H' => ∃ (p' : List Nat) (k' m' i' : Nat), k' + m' + p'.length < k + m + p.length ∧ σ' = [some (.ref d), some (.int 300), some (.str (tx p')), some (.int (k' : Int)), some (.int (m' : Int))] ∧ But d H H' ∧ Pen H' d c is i' ∧ i' + (k' + m' + p'.length) ≤ i + 40 ∧ p' ≠ [] ∧ p'.length ≤ 6 ∧ (∀ x ∈ p', 97 ≤ x ∧ x < 123) ∧ 1 ≤ k' ∧ k' ≤ 4 ∧ 1 ≤ m' ∧ m' ≤ 4,
        fun σ' H' ⟨p', k', m', i', a1, a2⟩ => ⟨k' + m' + p'.length, a1, p', k', m', i', rfl, a2⟩, ?_⟩
      have subN : ∀ {n : Nat}, 1 ≤ n → ((n : Int) - 1) = ((n - 1 : Nat) : Int) := fun h => by omega
      refine ⟨_, rfl, _, 1, rfl, rfl, _, rfl, ?_⟩
      by_cases hm : (1 : Int) < (m : Int)
      · refine itC (decide_eq_true hm) ?_
        refine ⟨_, rfl, d, c, is, i4, 2, rfl, p5, by decide, by decide, by omega, fun H6 v i6 b6 p6 hi6 hv => ⟨rfl, _, rfl, ?_⟩⟩
        by_cases h0 : V.int (v : Int) = V.int 0
        · refine itC (decide_eq_true h0) ?_
          refine ⟨_, rfl, _, 1, rfl, rfl, p, k, m - 1, i6, by omega, ?_, b5.trans b6, p6, by omega, hpn, hp6, hpl, k1, k4, by omega, by omega⟩
          rw [← subN m1]
          rfl
        · refine itN (decide_eq_false h0) ?_
          have b6' : But d H H6 := b5.trans b6
          refine ⟨_, rfl, _, 2, rfl, rfl, _, rfl, ?_⟩
          by_cases hk : (2 : Int) < (k : Int)
          · refine itC (decide_eq_true hk) ?_
            refine ⟨_, rfl, _, 1, rfl, rfl, p, k - 1, m, i6, by omega, ?_, b6', p6, by omega, hpn, hp6, hpl, by omega, by omega, m1, m4⟩
            rw [← subN k1]
            rfl
          · refine itN (decide_eq_false hk) ?_
            refine ⟨_, rfl, _, rfl, by rw [tx_len, sizeLine_eq]; omega, _, 1, rfl, rfl, _, rfl, ?_⟩
            by_cases hl : (1 : Int) < ((tx p).length : Int)
            · refine itC (decide_eq_true hl) ?_
              rw [tx_len] at hl
              refine ⟨_, rfl, 1, rfl, _, rfl, tx p, rfl, by rw [tx_len, sizeLine_eq]; omega, p.dropLast, k, m, i6, by rw [List.length_dropLast]; omega, ?_, b6', p6, by rw [List.length_dropLast]; omega, ?_, by rw [List.length_dropLast]; omega, fun x hx => hpl x (List.dropLast_subset p hx), k1, k4, m1, m4⟩
              · rw [← cut_tx p hpn]
                rfl
              · intro z
                have := congrArg List.length z
                rw [List.length_dropLast] at this
                simp at this
                omega
            · refine itN (decide_eq_false hl) ?_
              rw [tx_len] at hl
              have hne : ¬ (k = 1 ∧ m = 1) := fun ⟨ek, em⟩ => by
                subst ek em
                have z1 := size_11 (p := p) (by omega)
                have z2 : (1 : Nat) ^ (1 * p.length - 1) = 1 := Nat.one_pow _
                rw [z2] at hc
                rcases max2_gt hc with z | z <;> omega
              refine ⟨by show 2 ≤ sizeLine; decide, fun t ht => ⟨t, _, rfl, SqT.of upd_same, rfl, _, _, rfl, _, _, rfl, rfl, p, 1, 1, i6, by omega, rfl, b6'.trans (.of (same_upd ht)), p6.same (same_upd ht), by omega, hpn, hp6, hpl, by omega, by omega, by omega, by omega⟩⟩
      · refine itN (decide_eq_false hm) ?_
        have b6' : But d H H5 := b5
        have p6 := p5
        have hi6 : i4 ≤ i4 + 1 := by omega
        refine ⟨_, rfl, _, 2, rfl, rfl, _, rfl, ?_⟩
        by_cases hk : (2 : Int) < (k : Int)
        · refine itC (decide_eq_true hk) ?_
          refine ⟨_, rfl, _, 1, rfl, rfl, p, k - 1, m, i4, by omega, ?_, b6', p6, by omega, hpn, hp6, hpl, by omega, by omega, m1, m4⟩
          rw [← subN k1]
          rfl
        · refine itN (decide_eq_false hk) ?_
          refine ⟨_, rfl, _, rfl, by rw [tx_len, sizeLine_eq]; omega, _, 1, rfl, rfl, _, rfl, ?_⟩
          by_cases hl : (1 : Int) < ((tx p).length : Int)
          · refine itC (decide_eq_true hl) ?_
            rw [tx_len] at hl
            refine ⟨_, rfl, 1, rfl, _, rfl, tx p, rfl, by rw [tx_len, sizeLine_eq]; omega, p.dropLast, k, m, i4, by rw [List.length_dropLast]; omega, ?_, b6', p6, by rw [List.length_dropLast]; omega, ?_, by rw [List.length_dropLast]; omega, fun x hx => hpl x (List.dropLast_subset p hx), k1, k4, m1, m4⟩
            · rw [← cut_tx p hpn]
              rfl
            · intro z
              have := congrArg List.length z
              rw [List.length_dropLast] at this
              simp at this
              omega
          · refine itN (decide_eq_false hl) ?_
            rw [tx_len] at hl
            have hne : ¬ (k = 1 ∧ m = 1) := fun ⟨ek, em⟩ => by
              subst ek em
              have z1 := size_11 (p := p) (by omega)
              have z2 : (1 : Nat) ^ (1 * p.length - 1) = 1 := Nat.one_pow _
              rw [z2] at hc
              rcases max2_gt hc with z | z <;> omega
            refine ⟨by show 2 ≤ sizeLine; decide, fun t ht => ⟨t, _, rfl, SqT.of upd_same, rfl, _, _, rfl, _, _, rfl, rfl, p, 1, 1, i4, by omega, rfl, b6'.trans (.of (same_upd ht)), p6.same (same_upd ht), by omega, hpn, hp6, hpl, by omega, by omega, by omega, by omega⟩⟩
    · refine itN (decide_eq_false hc) ?_
      have hz := (max2_le hc).1
      refine ⟨_, rfl, _, rfl, _, rfl, by show 3 ≤ sizeLine; decide, fun t ht => ?_⟩
      have s6 := same_upd (o := .tup [.str (tx p), .int (k : Int), .int (m : Int)]) ht
      exact q _ t p k m i4 (b5.trans (.of s6)) (p5.same s6) (by omega) upd_same hpn hp6 hpl k1 k4 m1 m4 (by omega)
end
end K61

/-! The law. -/
namespace K61
open PySem PySem.Spec PyProof.Rows L2
theorem size_norm (p : List Nat) (k m : Nat) : size (norm p) k m = size p k m := by
  unfold size
  rw [norm_len, dist_norm_len]
theorem size_rev (p : List Nat) (k m : Nat) : size p.reverse k m = size p k m := by
  unfold size
  rw [List.length_reverse, dist_rev_len]
theorem size_le (p : List Nat) {k k' m m' : Nat} (h : k ≤ k') (g : m ≤ m') : size p k m ≤ size p k' m' := by
  unfold size
  have h1 : many k m ≤ many k' m' := Nat.le_trans (many_wide h m) (many_up k' g)
  exact Nat.mul_le_mul (Nat.mul_le_mul_right _ g) (Nat.pow_le_pow_left h1 _)
theorem num_norm (p : List Nat) (k m n : Nat) : num k (Bl (norm p) k m) n = num k (Bl p k m) n := num_congr (fun v => Bl_map norm_inj k m v) n
theorem num_turn (p : List Nat) (k m n : Nat) : num k (Bl p.reverse k m) n = num k (Bl p k m) n := by
  rw [num_congr (fun v => Bl_rev p k m v) n]
  exact num_rev k (Bl p k m) n
theorem num_pow (k : Nat) (B : List Nat → Prop) : ∀ a : Nat, num k B a ≤ k ^ a
  | 0 => by
    classical
    show (if Op B [] then 1 else 0) ≤ 1
    split <;> omega
  | a + 1 => by
    rw [Nat.pow_succ]
    exact Nat.le_trans (num_succ k B a) (Nat.mul_le_mul_right _ (num_pow k B a))
theorem skip3 {c : Bool} {H : Hp} {A B : Hp → Prop} {U : Prop} (G : Hp → Prop) (rest : ∀ H', G H' → B H') (h0 : c = false → G H) (h : c = true → (∀ H', G H' → B H') → U) : if c = true then U else (if false = true then A H else B H) := by
  cases c with
  | false => exact rest H (h0 rfl)
  | true => exact h rfl rest
section
variable {P : Program} {w : World} {K : PySem.W.Frag} {mg : Str → Option Value} {base : Heap}
abbrev sLaw : Stmt := top 44
def spLaw (K : PySem.W.Frag) : Sp := fun vs H Q _ => ∃ (a : Addr) (ns : List Int), vs = [.ref a] ∧ SqL K H a (ns.map V.int) ∧ ns.length ≤ 63 ∧ ∀ H', Q (.bl true) H'
abbrev nmLaw : List Str := ["_law_script", "_law_pen_here", "_law_turn", "_law_pattern_here", "_law_letters", "_law_longest", "_law_first", "_law_second", "_law_k", "_law_counts", "_law_others", "_law_one", "_law_told", "_law_number", "_law_length"]
theorem sc_law : FnScope nmLaw ["_law_script"] (defScope sLaw) := ⟨rfl, rfl, rfl, by decide +kernel, rfl, by decide +kernel, by decide +kernel⟩
theorem ok_law {f : Addr} {fd : FuncData} (F : Fun K "law" "law" sLaw f fd) (N : Nm mg) (LP : At P w K mg base "_law_pen" 1 ["_law_script"] (spLPen K)) (BO : At P w K mg base "_law_bounds" 4 ["_law_pen_here", "_law_limit"] spLBounds)
    (D : At P w K mg base "_law_draw" 1 ["_law_pen_here", "_law_many"] spLDraw) (NO : At P w K mg base "normal" 4 ["pattern"] spNormal) (CO : At P w K mg base "count_open" 5 ["pattern", "letters", "longest", "length"] (spCount K))
    (LO : At P w K mg base "longest_open" 5 ["pattern", "letters", "longest"] (spLongest K)) : FnOk P w K mg base CX0 6 f fd ["_law_script"] (spLaw K) := by
  refine F.ok sc_law (fun vs H Q E h => ?_) (fun cdv A outer s H vs Q E hr h => ?_)
  · obtain ⟨a, ns, rfl, _⟩ := h
    rfl
  · obtain ⟨a, ns, rfl, hs, hl, q⟩ := h
    refine ⟨_, pss_cons (ps_set (i := 1) sc_law.nd rfl (Or.inl rfl) (pe_call LP.ok (hr.mono (by decide)) (by rfl) LP.m LP.kp LP.b .nil pass0 (pa_cons (pv 0) pa_nil)))
      (pss_cons (ps_for PassesOwn.never rfl (pi_range1 (by rfl) N.range (pa_cons (pe_op op_add pe_int (pe_callB (call_min2 rfl) (by rfl) N.min PyProof.Rows.boot_min (pa_cons pe_int (pa_cons (pe_callB call_len_seq (by rfl) N.len PySem.boot_len (pa_cons (pv 0) pa_nil)) pa_nil)))) pa_nil)) (pg_name (i := 2) sc_law.nd rfl (Or.inl rfl))
        (pss_cons (ps_asg (pe_call BO.ok (hr.mono (by decide)) (by rfl) BO.m BO.kp BO.b .nil pass0 (pa_cons (pv 1) (pa_cons pe_int pa_nil)))
          (pg_tup rfl (pgs_cons (pg_name (i := 3) sc_law.nd rfl (Or.inr rfl)) (pgs_cons (pg_name (i := 4) sc_law.nd rfl (Or.inr rfl)) (pgs_cons (pg_name (i := 5) sc_law.nd rfl (Or.inr rfl)) pgs_nil)))))
        (pss_cons (ps_asg (pe_tup (pa_cons (pe_call D.ok (hr.mono (by decide)) (by rfl) D.m D.kp D.b .nil pass0 (pa_cons (pv 1) (pa_cons pe_int pa_nil))) (pa_cons (pe_call D.ok (hr.mono (by decide)) (by rfl) D.m D.kp D.b .nil pass0 (pa_cons (pv 1) (pa_cons pe_int pa_nil))) pa_nil)))
          (pg_tup rfl (pgs_cons (pg_name (i := 6) sc_law.nd rfl (Or.inr rfl)) (pgs_cons (pg_name (i := 7) sc_law.nd rfl (Or.inl rfl)) pgs_nil))))
        (pss_cons (ps_set (i := 9) sc_law.nd rfl (Or.inr rfl) (pe_lc (own := [("_law_k", 8)]) (g := gName 8) (tt := tYes) (te := tCall (spCount K) [] E0 (tCons (tVar 3) (tCons (tVar 4) (tCons (tVar 5) (tCons (tVar 8) tNil))))) rfl sc_law.nd
            (pi_tup (pe_tup (pa_cons (pv 6) (pa_cons (pv 7) (pa_cons (pe_op op_add (pv 6) (pv 7)) (pa_cons (pe_op op_add (pv 6) pe_int) pa_nil)))))) (blkOk_by (N := nmLaw) (sc := defScope sLaw) (by decide +kernel))
            (fun _ _ _ _ _ => pg_name (i := 8) sc_law.nd rfl (Or.inl rfl)) (fun _ _ _ _ _ => pts_nil) (fun _ _ _ _ _ => pe_call CO.ok hr (by rfl) CO.m CO.kp CO.b .nil pass0 (pa_cons (pv 3) (pa_cons (pv 4) (pa_cons (pv 5) (pa_cons (pv 8) pa_nil)))))))
        (pss_cons (ps_if (PW.pt (pw_or (pt_cmpR op_gt (pe_ix ix_list (pv 9) pe_int (fun _ _ => rfl)) (pe_op op_mul (pe_ix ix_list (pv 9) pe_int (fun _ _ => rfl)) (pe_ix ix_list (pv 9) pe_int (fun _ _ => rfl))) (nomark _))
            (pw_or1 (pt_cmpR op_gt (pe_ix ix_list (pv 9) pe_int (fun _ _ => rfl)) (pe_op op_mul (pe_ix ix_list (pv 9) pe_int (fun _ _ => rfl)) (pv 4)) (nomark _))))) (pss_one (ps_ret pe_bl)) pss_nil)
        (pss_cons (ps_set (i := 10) sc_law.nd rfl (Or.inl rfl) (pe_lst (pa_cons (pe_call NO.ok (hr.mono (by decide)) (by rfl) NO.m NO.kp NO.b .nil pass0 (pa_cons (pv 3) pa_nil)) (pa_cons (pe_revS (pv 3)) (pa_cons (pe_call NO.ok (hr.mono (by decide)) (by rfl) NO.m NO.kp NO.b .nil pass0 (pa_cons (pe_revS (pv 3)) pa_nil)) pa_nil)))))
        (pss_cons (ps_if (pt_cmpR (op_neD hr.units) (pe_lc (own := [("_law_one", 11)]) (g := gName 11) (tt := tTest (tOp rNe (tCall (spCount K) [] E0 (tCons (tVar 11) (tCons (tVar 4) (tCons (tVar 5) (tCons (tVar 6) tNil))))) (tOp (rIxL K) (tVar 9) (tC (.int 0))))) (te := tVar 11) rfl sc_law.nd
            (pi_list (pv 10)) (blkOk_by (N := nmLaw) (sc := defScope sLaw) (by decide +kernel))
            (fun _ _ _ _ _ => pg_name (i := 11) sc_law.nd rfl (Or.inl rfl)) (fun _ _ _ _ _ => pts_one (pt_cmpR op_ne (pe_call CO.ok hr (by rfl) CO.m CO.kp CO.b .nil pass0 (pa_cons (pv 11) (pa_cons (pv 4) (pa_cons (pv 5) (pa_cons (pv 6) pa_nil))))) (pe_ix ix_list (pv 9) pe_int (fun _ _ => rfl)) (nomark _))) (fun _ _ _ _ _ => pv 11))
            (pe_lst pa_nil) (nomark _)) (pss_one (ps_ret pe_bl)) pss_nil)
        (pss_cons (ps_if (PW.pt (pw_and (pt_cmpR op_gt (pv 5) pe_int (nomark _)) (pw_and1 (pt_cmpR op_lt (pe_call CO.ok hr (by rfl) CO.m CO.kp CO.b .nil pass0 (pa_cons (pv 3) (pa_cons (pv 4) (pa_cons (pe_op op_sub (pv 5) pe_int) (pa_cons (pv 6) pa_nil))))) (pe_ix ix_list (pv 9) pe_int (fun _ _ => rfl)) (nomark _))))) (pss_one (ps_ret pe_bl)) pss_nil)
        (pss_cons (ps_if (PW.pt (pw_and (pt_cmpR op_gt (pv 4) pe_int (nomark _)) (pw_and1 (pt_cmpR op_gt (pe_call CO.ok hr (by rfl) CO.m CO.kp CO.b .nil pass0 (pa_cons (pv 3) (pa_cons (pe_op op_sub (pv 4) pe_int) (pa_cons (pv 5) (pa_cons (pv 6) pa_nil))))) (pe_ix ix_list (pv 9) pe_int (fun _ _ => rfl)) (nomark _))))) (pss_one (ps_ret pe_bl)) pss_nil)
        (pss_cons (ps_set (i := 12) sc_law.nd rfl (Or.inl rfl) (pe_call LO.ok hr (by rfl) LO.m LO.kp LO.b .nil pass0 (pa_cons (pv 3) (pa_cons (pv 4) (pa_cons (pv 5) pa_nil)))))
        (pss_cons (ps_for PassesOwn.never rfl (pi_list (pe_lst (pa_cons (pe_tup (pa_cons (pv 6) (pa_cons (pe_ix ix_list (pv 9) pe_int (fun _ _ => rfl)) pa_nil))) (pa_cons (pe_tup (pa_cons (pv 7) (pa_cons (pe_ix ix_list (pv 9) pe_int (fun _ _ => rfl)) pa_nil)))
            (pa_cons (pe_tup (pa_cons (pe_op op_add (pv 6) (pv 7)) (pa_cons (pe_ix ix_list (pv 9) pe_int (fun _ _ => rfl)) pa_nil))) pa_nil))))) (pg_tup rfl (pgs_cons (pg_name (i := 8) sc_law.nd rfl (Or.inl rfl)) (pgs_cons (pg_name (i := 13) sc_law.nd rfl (Or.inl rfl)) pgs_nil)))
          (pss_one (ps_if (pt_cmpR op_ne (pe_cmpR op_eq (pv 13) pe_int (nomark _)) (pe_and (pe_cmpR op_eq (pe_ix ix_tup (pv 12) pe_int (fun _ _ => rfl)) pe_str (nomark _))
            (pe_one (pe_cmpR op_lt (pe_callB call_len_seq (by rfl) N.len PySem.boot_len (pa_cons (pe_ix ix_tup (pv 12) pe_int (fun _ _ => rfl)) pa_nil)) (pv 8) (nomark _)))) (by rfl)) (pss_one (ps_ret pe_bl)) pss_nil)))
        (pss_cons (ps_set (i := 14) sc_law.nd rfl (Or.inl rfl) (pe_op op_add (pe_callB call_len_seq (by rfl) N.len PySem.boot_len (pa_cons (pe_ix ix_tup (pv 12) pe_int (fun _ _ => rfl)) pa_nil)) pe_int))
        (pss_one (ps_if (PW.pt (pw_and (pt_cmpR op_eq (pe_ix ix_tup (pv 12) pe_int (fun _ _ => rfl)) pe_str (nomark _)) (pw_and (pt_cmpR op_lt (pv 14) pe_int (nomark _))
          (pw_and1 (pt_cmpR op_ne (pe_call CO.ok hr (by rfl) CO.m CO.kp CO.b .nil pass0 (pa_cons (pv 3) (pa_cons (pv 4) (pa_cons (pv 5) (pa_cons (pv 14) pa_nil))))) pe_int (nomark _))))))
          (pss_one (ps_ret pe_bl)) pss_nil))))))))))))))
      (pss_one (ps_ret pe_bl))), ?_⟩
    refine ⟨_, rfl, a, ns, rfl, hs, hl, fun H1 d c s1 hd p1 => ?_⟩
    refine ⟨_, rfl, a, _, rfl, .inl (sameL s1 hs), 3, _, rfl, 2, _, rfl, rfl, _, rfl, ?_, ?_, ?_⟩
    · split <;> omega
    · rw [List.length_map]
      split <;> omega
    have hn5 : (2 + (if (((ns.map V.int).length : Nat) : Int) < 3 then (((ns.map V.int).length : Nat) : Int) else 3)).toNat ≤ 5 := by
      split <;> omega
    refine for_it walk_range (fun j σ H' => ∃ (v2 v3 v4 v5 v6 v7 v8 v9 v10 v11 v12 v13 v14 : Option V) (i' : Nat), σ = [some (.ref a), some (.ref d), v2, v3, v4, v5, v6, v7, v8, v9, v10, v11, v12, v13, v14] ∧ Pen H' d c ns i' ∧ i' ≤ 60 * j)
      ⟨none, none, none, none, none, none, none, none, none, none, none, none, none, 0, rfl, p1, Nat.zero_le _⟩ (fun _ _ _ _ _ => trivial) ?_ ?_
    · rintro j x σ H2 H3 hj ⟨v2, v3, v4, v5, v6, v7, v8, v9, v10, v11, v12, v13, v14, i2, rfl, p2, hi2⟩ ⟨rfl, rfl⟩
      refine ⟨_, rfl, d, c, ns, i2, rfl, p2, by omega, fun H4 b p k m i4 b4 p4 hi4 hb4 hpn hp6 hpl k1 k4 m1 m4 hsz => ?_⟩
      refine ⟨b, _, rfl, SqT.of hb4, rfl, _, _, rfl, _, _, rfl, _, _, rfl, rfl, ?_⟩
      refine ⟨_, rfl, d, c, ns, i4, 31, rfl, p4, by decide, by decide, by omega, fun H5 t1 i5 b5 p5 hi5 ht1 => ?_⟩
      refine ⟨_, rfl, d, c, ns, i5, 31, rfl, p5, by decide, by decide, by omega, fun H6 t2 i6 b6 p6 hi6 ht2 => ?_⟩
      refine ⟨by show 2 ≤ sizeLine; decide, fun tp htp => ⟨tp, _, rfl, SqT.of upd_same, rfl, _, _, rfl, _, _, rfl, rfl, ?_⟩⟩
      have p7 := p6.same (same_upd (o := .tup [.int (t1 : Int), .int (t2 : Int)]) htp)
      generalize upd H6 tp (.tup [.int (t1 : Int), .int (t2 : Int)]) = H7 at p7 ⊢
      have hpo : PatOk p := small_ok hpl (by omega)
      have done : ∀ {H' : Hp}, Same H7 H' → ∃ i', Pen H' d c ns i' ∧ i' ≤ 60 * (j + 1) := fun s => ⟨i6, p7.same s, by omega⟩
      clear p1 p2 p4 p5 p6 b4 b5 b6 hb4
      refine ⟨_, rfl, _, rfl, _, rfl, _, rfl, _, _, rfl, rfl, _, rfl, _, _, rfl, rfl, by show 4 ≤ sizeLine; decide, fun te hte => ⟨te, rfl, ⟨_, SqT.of upd_same⟩, fun L hL => ?_⟩⟩
      obtain ⟨nb, hnb⟩ : ∃ nb, nb = num k (Bl p k m) := ⟨_, rfl⟩
      have f1 : nb (t1 + t2) ≤ nb t1 * nb t2 := by rw [hnb]; exact num_add _ _ _ _
      have f2 : nb (t1 + 1) ≤ nb t1 * k := by rw [hnb]; exact num_succ _ _ _
      have f0 : ∀ t, t ≤ 31 → nb t < 2 ^ 63 := fun t ht => by
        rw [hnb]
        refine Nat.lt_of_le_of_lt (Nat.le_trans (num_pow k (Bl p k m) t) (Nat.le_trans (Nat.pow_le_pow_left k4 t) (Nat.pow_le_pow_right (by decide) ht))) (by decide)
      have s7 : Same H7 (upd H7 te (.tup [.int (t1 : Int), .int (t2 : Int), .int ((t1 : Int) + (t2 : Int)), .int ((t1 : Int) + 1)])) := same_upd hte
      have ht7 : (upd H7 te (.tup [.int (t1 : Int), .int (t2 : Int), .int ((t1 : Int) + (t2 : Int)), .int ((t1 : Int) + 1)])) te = some (.tup (nv [t1, t2, t1 + t2, t1 + 1])) := upd_same
      generalize upd H7 te (.tup [.int (t1 : Int), .int (t2 : Int), .int ((t1 : Int) + (t2 : Int)), .int ((t1 : Int) + 1)]) = H8 at s7 ht7 hL ⊢
      refine lc_tup (K := K) (a := te) (xs := nv [t1, t2, t1 + t2, t1 + 1]) (fun e Hc => Same H8 Hc ∧ Hc L = some (.lst (nv (([t1, t2, t1 + t2, t1 + 1].take e).map nb)))) ⟨same_upd hL, upd_same⟩ (fun e Hc _ ⟨sc, _⟩ => SqT.of (sc _ _ ht7)) ?_ ?_
      · rintro e y Hc hy ⟨sc, hLc⟩
        obtain ⟨t, ht, rfl⟩ : ∃ t, [t1, t2, t1 + t2, t1 + 1][e]? = some t ∧ V.int (t : Int) = y := by
          unfold nv at hy
          rw [List.getElem?_map] at hy
          cases hq : [t1, t2, t1 + t2, t1 + 1][e]? with
          | none => rw [hq] at hy; cases hy
          | some t => rw [hq] at hy; exact ⟨t, rfl, Option.some.inj hy⟩
        have ht200 : t ≤ 200 := by
          have hm := at_mem ht
          simp only [List.mem_cons, List.not_mem_nil, or_false] at hm
          omega
        have he4 : e < 4 := at_lt ht
        refine ⟨rfl, _, rfl, _, rfl, _, rfl, _, rfl, p, k, m, t, rfl, hpo, by omega, hpn, k1, k4, m1, m4, hsz, ht200, fun H9 s9 => ⟨_, s9 _ _ hLc, ?_, same_put (sc.trans s9) hL, ?_⟩⟩
        · refine len_lt ?_
          rw [nv_len, List.length_map, List.length_take]
          omega
        · rw [upd_same, take_succ_at ht, List.map_append, nv_app, hnb]
          rfl
      rintro H9 ⟨s9, hL9'⟩
      have hL9 : H9 L = some (.lst [.int (nb t1 : Nat), .int (nb t2 : Nat), .int (nb (t1 + t2) : Nat), .int (nb (t1 + 1) : Nat)]) := hL9'
      clear hL9'
      have s79 := s7.trans s9
      clear s7 s9 ht7 p7
      have g0 := f0 t1 (by omega)
      have g1 := f0 t2 (by omega)
      refine ⟨_, rfl, L, _, _, _, rfl, rfl, SqL.of hL9, atI_nat (j := 2) rfl, _, rfl, L, _, _, _, rfl, rfl, SqL.of hL9, atI_nat (j := 0) rfl, _, rfl, L, _, _, _, rfl, rfl, SqL.of hL9, atI_nat (j := 1) rfl, _, _, rfl, rfl, .inl ⟨by omega, by omega⟩, _, _, rfl, rfl, _, rfl, ?_⟩
      refine itN (decide_eq_false (by rw [← Int.natCast_mul]; omega)) ?_
      refine ⟨_, rfl, L, _, _, _, rfl, rfl, SqL.of hL9, atI_nat (j := 3) rfl, _, rfl, L, _, _, _, rfl, rfl, SqL.of hL9, atI_nat (j := 0) rfl, _, rfl, _, _, rfl, rfl, .inr ⟨by omega, by omega⟩, _, _, rfl, rfl, _, rfl, ?_⟩
      refine itN (decide_eq_false (by rw [← Int.natCast_mul]; omega)) ?_
      have pr : PatOk p.reverse := rev_ok hpo (by omega)
      have rl : p.reverse.length = p.length := List.length_reverse
      have nl := norm_len p
      have nrl := norm_len p.reverse
      refine ⟨_, rfl, p, rfl, hpo, fun H10 s10 => ?_⟩
      refine ⟨_, rfl, tx p, rfl, by rw [tx_len, sizeLine_eq]; omega, ?_⟩
      refine ⟨_, rfl, tx p, rfl, by rw [tx_len, sizeLine_eq]; omega, p.reverse, rfl, pr, fun H11 s11 => ?_⟩
      refine ⟨by show 3 ≤ sizeLine; decide, fun O hO => ?_⟩
      have s12 : Same H11 (upd H11 O (.lst [.str (tx (norm p)), .str (tx p.reverse), .str (tx (norm p.reverse))])) := same_upd hO
      have hO12 : (upd H11 O (.lst [.str (tx (norm p)), .str (tx p.reverse), .str (tx (norm p.reverse))])) O = some (.lst [.str (tx (norm p)), .str (tx p.reverse), .str (tx (norm p.reverse))]) := upd_same
      show tSeq _ _ _ _ (upd H11 O (.lst [.str (tx (norm p)), .str (tx p.reverse), .str (tx (norm p.reverse))]))
      generalize upd H11 O (.lst [.str (tx (norm p)), .str (tx p.reverse), .str (tx (norm p.reverse))]) = H12 at s12 hO12 ⊢
      have s912 : Same H9 H12 := s10.trans (s11.trans s12)
      clear s10 s11 s12 hO
      have hL12 := s912 _ _ hL9
      have others : ∀ {e : Nat} {y : V}, [V.str (tx (norm p)), .str (tx p.reverse), .str (tx (norm p.reverse))][e]? = some y → ∃ r : List Nat, y = .str (tx r) ∧ PatOk r ∧ r.length = p.length ∧ size r k m = size p k m ∧ num k (Bl r k m) t1 = nb t1 := fun {e y} hy => by
        have hm := at_mem hy
        simp only [List.mem_cons, List.not_mem_nil, or_false] at hm
        rcases hm with rfl | rfl | rfl
        · exact ⟨_, rfl, norm_ok (by omega), nl, size_norm p k m, by rw [num_norm, hnb]⟩
        · exact ⟨_, rfl, pr, rl, size_rev p k m, by rw [num_turn, hnb]⟩
        · exact ⟨_, rfl, norm_ok (by omega), nrl.trans rl, by rw [size_norm, size_rev], by rw [num_norm, num_turn, hnb]⟩
      refine ⟨_, rfl, O, rfl, ⟨_, SqL.of hO12⟩, fun Z hZ => ?_⟩
      refine lc_list (K := K) (a := O) (xs := [V.str (tx (norm p)), .str (tx p.reverse), .str (tx (norm p.reverse))]) (fun e Hc => Same H12 Hc ∧ Hc Z = some (.lst [])) ⟨same_upd hZ, upd_same⟩ (fun e Hc _ ⟨sc, _⟩ => SqL.of (sc _ _ hO12)) ?_ ?_
      · rintro e y Hc hy ⟨sc, hZc⟩
        obtain ⟨r, rfl, hro, hrl, hrs, hrn⟩ := others hy
        refine ⟨rfl, _, rfl, _, rfl, _, rfl, _, rfl, r, k, m, t1, rfl, hro, by omega, (fun z => hpn (List.length_eq_zero_iff.mp (by rw [← hrl, z]; rfl))), k1, k4, m1, m4, by omega, by omega, fun H13 s13 => ?_⟩
        refine ⟨_, rfl, L, _, _, _, rfl, rfl, SqL.of ((sc.trans s13) _ _ hL12), atI_nat (j := 0) rfl, rfl, _, rfl, ?_⟩
        exact itN (by rw [hrn]; simp) ⟨sc.trans s13, s13 _ _ hZc⟩
      rintro H13 ⟨s13, hZ13⟩
      refine ⟨Nat.zero_le _, fun e he => ?_⟩
      have s14 : Same H13 (upd H13 e (.lst [])) := same_upd he
      have he14 : (upd H13 e (.lst [])) e = some (.lst []) := upd_same
      generalize upd H13 e (.lst []) = H14 at s14 he14 ⊢
      refine ⟨.list [], .list [], .lst (SqL.of (s14 _ _ hZ13)) .nil, .lst (SqL.of he14) .nil, shaped_nil, shaped_nil, _, rfl, itN rfl ?_⟩
      have s714 : Same H7 H14 := s79.trans (s912.trans (s13.trans s14))
      have hL14 := (s13.trans s14) _ _ hL12
      clear s79 s912 s13 s14 hZ13 he14 hL9 hL12 hO12 he hZ others pr rl nl nrl
      refine ⟨_, rfl, _, 1, rfl, rfl, _, rfl, ?_⟩
      refine skip3 (fun H' => Same H14 H') (fun H15 s15 => ?_) (fun _ => Same.refl _) (fun hm rest => ?_)
      rotate_left
      · have hm' : (1 : Int) < (m : Int) := of_decide_eq_true hm
        refine ⟨_, rfl, _, rfl, _, rfl, _, 1, rfl, rfl, _, rfl, p, k, m - 1, t1, ?_, hpo, by omega, hpn, k1, k4, by omega, by omega, Nat.le_trans (size_le p (Nat.le_refl _) (by omega)) hsz, by omega, fun H15 s15 => ?_⟩
        · have e1 : ((m : Int) - 1) = ((m - 1 : Nat) : Int) := by omega
          rw [← e1]
          rfl
        refine ⟨_, rfl, L, _, _, _, rfl, rfl, SqL.of (s15 _ _ hL14), atI_nat (j := 0) rfl, _, _, rfl, rfl, _, rfl, ?_⟩
        have g : nb t1 ≤ num k (Bl p k (m - 1)) t1 := by rw [hnb]; exact num_less (fun v => Bl.longer (by omega)) t1
        exact itN (decide_eq_false (by omega)) (rest _ s15)
      have hL15 := s15 _ _ hL14
      have s715 := s714.trans s15
      clear s714 s15 hL14
      refine ⟨_, rfl, _, 1, rfl, rfl, _, rfl, ?_⟩
      refine skip3 (fun H' => Same H15 H') (fun H16 s16 => ?_) (fun _ => Same.refl _) (fun hm rest => ?_)
      rotate_left
      · have hm' : (1 : Int) < (k : Int) := of_decide_eq_true hm
        refine ⟨_, rfl, _, rfl, _, 1, rfl, rfl, _, rfl, _, rfl, p, k - 1, m, t1, ?_, hpo, by omega, hpn, by omega, by omega, m1, m4, Nat.le_trans (size_le p (by omega) (Nat.le_refl _)) hsz, by omega, fun H16 s16 => ?_⟩
        · have e1 : ((k : Int) - 1) = ((k - 1 : Nat) : Int) := by omega
          rw [← e1]
          rfl
        refine ⟨_, rfl, L, _, _, _, rfl, rfl, SqL.of (s16 _ _ hL15), atI_nat (j := 0) rfl, _, _, rfl, rfl, _, rfl, ?_⟩
        have g : num (k - 1) (Bl p (k - 1) m) t1 ≤ nb t1 := by rw [hnb]; exact num_letters (by omega) (fun v o b => b.fewer o) t1
        exact itN (decide_eq_false (by omega)) (rest _ s16)
      have hL16 := s16 _ _ hL15
      have s716 := s715.trans s16
      clear s715 s16 hL15
      refine ⟨_, rfl, _, rfl, _, rfl, p, k, m, rfl, hpo, by omega, hpn, k1, k4, m1, m4, hsz, fun H17 T ta us s17 hT hta told => ?_, fun H17 T ta tb us s17 hT hta told => ?_⟩
      · have z0 : ∀ n, nb n = 0 ↔ (Str.ofString "finite" = Str.ofString "finite" ∧ us.length < n) := fun n => by
          rw [hnb, told.iff n]
          exact ⟨fun h => ⟨rfl, h⟩, fun h => h.2⟩
        have a0 : [V.str (Str.ofString "finite"), V.ref ta][0]? = some (V.str (Str.ofString "finite")) := rfl
        have a1 : [V.str (Str.ofString "finite"), V.ref ta][1]? = some (V.ref ta) := rfl
        generalize [V.str (Str.ofString "finite"), V.ref ta] = ws at hT a0 a1
        obtain ⟨z, hz⟩ : ∃ z, z = Str.ofString "finite" := ⟨_, rfl⟩
        rw [← hz] at a0
        have z1 : ∀ n, nb n = 0 ↔ (z = Str.ofString "finite" ∧ us.length < n) := by rw [hz]; exact z0
        clear told z0 hz
        have hL17 := s17 _ _ hL16
        have s717 := s716.trans s17
        clear s716 s17 hL16
        refine ⟨_, rfl, _, rfl, L, _, _, _, rfl, rfl, SqL.of hL17, atI_nat (j := 0) rfl, by show 2 ≤ sizeLine; decide, fun q1 hq1 => ?_⟩
        have sa : Same H17 (upd H17 q1 (.tup [.int (t1 : Int), .int (nb t1 : Nat)])) := same_upd hq1
        have ha : (upd H17 q1 (.tup [.int (t1 : Int), .int (nb t1 : Nat)])) q1 = some (.tup [.int (t1 : Int), .int (nb t1 : Nat)]) := upd_same
        generalize upd H17 q1 (.tup [.int (t1 : Int), .int (nb t1 : Nat)]) = H18 at sa ha ⊢
        refine ⟨_, rfl, _, rfl, L, _, _, _, rfl, rfl, SqL.of (sa _ _ hL17), atI_nat (j := 1) rfl, by show 2 ≤ sizeLine; decide, fun q2 hq2 => ?_⟩
        have sb : Same H18 (upd H18 q2 (.tup [.int (t2 : Int), .int (nb t2 : Nat)])) := same_upd hq2
        have hb : (upd H18 q2 (.tup [.int (t2 : Int), .int (nb t2 : Nat)])) q2 = some (.tup [.int (t2 : Int), .int (nb t2 : Nat)]) := upd_same
        generalize upd H18 q2 (.tup [.int (t2 : Int), .int (nb t2 : Nat)]) = H19 at sb hb ⊢
        refine ⟨_, rfl, _, rfl, _, _, rfl, rfl, _, rfl, L, _, _, _, rfl, rfl, SqL.of ((sa.trans sb) _ _ hL17), atI_nat (j := 2) rfl, by show 2 ≤ sizeLine; decide, fun q3 hq3 => ?_⟩
        have sc : Same H19 (upd H19 q3 (.tup [.int ((t1 : Int) + (t2 : Int)), .int (nb (t1 + t2) : Nat)])) := same_upd hq3
        have hc : (upd H19 q3 (.tup [.int ((t1 : Int) + (t2 : Int)), .int (nb (t1 + t2) : Nat)])) q3 = some (.tup [.int ((t1 + t2 : Nat) : Int), .int (nb (t1 + t2) : Nat)]) := upd_same
        generalize upd H19 q3 (.tup [.int ((t1 : Int) + (t2 : Int)), .int (nb (t1 + t2) : Nat)]) = H20 at sc hc ⊢
        refine ⟨by show 3 ≤ sizeLine; decide, fun O2 hO2 => ⟨O2, rfl, ⟨_, SqL.of upd_same⟩, ?_⟩⟩
        have sd : Same H20 (upd H20 O2 (.lst [.ref q1, .ref q2, .ref q3])) := same_upd hO2
        have hd21 : (upd H20 O2 (.lst [.ref q1, .ref q2, .ref q3])) O2 = some (.lst [.ref q1, .ref q2, .ref q3]) := upd_same
        generalize upd H20 O2 (.lst [.ref q1, .ref q2, .ref q3]) = H21 at sd hd21 ⊢
        have ha21 := (sb.trans (sc.trans sd)) _ _ ha
        have hb21 := (sc.trans sd) _ _ hb
        have hc21 := sd _ _ hc
        have s1721 := sa.trans (sb.trans (sc.trans sd))
        have hT21 := s1721 _ _ hT
        have hta21 := sameT s1721 hta
        have s721 := s717.trans s1721
        clear sa sb sc sd ha hb hc hq1 hq2 hq3 hO2 hT hta s717 s1721 hL17
        have pick : ∀ {e : Nat} {y : V}, [V.ref q1, .ref q2, .ref q3][e]? = some y → ∃ (qa : Addr) (tt : Nat), y = .ref qa ∧ H21 qa = some (.tup [.int (tt : Int), .int (nb tt : Nat)]) := fun {e y} hy => by
          have hm := at_mem hy
          simp only [List.mem_cons, List.not_mem_nil, or_false] at hm
          rcases hm with rfl | rfl | rfl
          · exact ⟨_, _, rfl, ha21⟩
          · exact ⟨_, _, rfl, hb21⟩
          · exact ⟨_, _, rfl, hc21⟩
        refine for_list (K := K) (a := O2) (xs := [V.ref q1, .ref q2, .ref q3]) (fun e σ H' => ∃ w8 w13 : Option V, σ = [some (.ref a), some (.ref d), some (.int ((0 : Int) + (j : Nat))), some (.str (tx p)), some (.int (k : Int)), some (.int (m : Int)), some (.int (t1 : Int)), some (.int (t2 : Int)), w8, some (.ref L), some (.ref O), v11, some (.ref T), w13, v14] ∧ Same H21 H')
          ⟨v8, v13, rfl, Same.refl _⟩ (fun e σ H' _ ⟨_, _, _, s⟩ => SqL.of (s _ _ hd21)) ?_ ?_
        · rintro e y σ H22 hy ⟨w8, w13, rfl, s22⟩
          obtain ⟨qa, tt, rfl, hqa⟩ := pick hy
          have hT22 := s22 _ _ hT21
          refine ⟨qa, _, rfl, SqT.of (s22 _ _ hqa), rfl, _, _, rfl, _, _, rfl, rfl, ?_⟩
          refine ⟨_, rfl, rfl, _, rfl, T, _, _, _, rfl, rfl, SqT.of hT22, atI_nat (j := 0) a0, rfl, _, rfl, ?_⟩
          by_cases c1 : V.str z = V.str (Str.ofString "finite")
          · refine itC (decide_eq_true c1) ?_
            refine ⟨_, rfl, T, _, _, _, rfl, rfl, SqT.of hT22, atI_nat (j := 1) a1, ta, us, rfl, .inr (sameT s22 hta21), _, rfl, _, _, rfl, rfl, rfl, _, rfl, itN ?_ ⟨_, _, rfl, s22⟩⟩
            have e1 : decide (V.int (nb tt : Nat) = V.int 0) = decide ((us.length : Int) < (tt : Int)) := by
              refine decide_eq_decide.mpr ⟨fun h => ?_, fun h => ?_⟩
              · have h0 : nb tt = 0 := by have := V.int.inj h; omega
                have := ((z1 tt).mp h0).2
                omega
              · have h0 := (z1 tt).mpr ⟨V.str.inj c1, by omega⟩
                rw [h0]
                rfl
            rw [e1]
            simp
          · refine itN (decide_eq_false c1) ⟨rfl, _, rfl, itN ?_ ⟨_, _, rfl, s22⟩⟩
            have e1 : decide (V.int (nb tt : Nat) = V.int 0) = false := by
              refine decide_eq_false fun h => ?_
              have h0 : nb tt = 0 := by have := V.int.inj h; omega
              exact c1 (congrArg V.str ((z1 tt).mp h0).1)
            rw [e1]
            simp
        rintro σ H22 ⟨w8, w13, rfl, s22⟩
        have hT22 := s22 _ _ hT21
        have fin : ∀ {H' : Hp}, Same H22 H' → ∃ i', Pen H' d c ns i' ∧ i' ≤ 60 * (j + 1) := fun s => done (s721.trans (s22.trans s))
        refine ⟨_, rfl, T, _, _, _, rfl, rfl, SqT.of hT22, atI_nat (j := 1) a1, ta, us, rfl, .inr (sameT s22 hta21), _, 1, rfl, rfl, ?_⟩
        refine ⟨_, rfl, T, _, _, _, rfl, rfl, SqT.of hT22, atI_nat (j := 0) a0, rfl, _, rfl, ?_⟩
        by_cases c1 : V.str z = V.str (Str.ofString "finite")
        · refine itC (decide_eq_true c1) ?_
          refine ⟨_, rfl, _, 201, rfl, rfl, _, rfl, ?_⟩
          by_cases c2 : (us.length : Int) + 1 < 201
          · refine itC (decide_eq_true c2) ?_
            refine ⟨_, rfl, _, rfl, _, rfl, _, rfl, p, k, m, us.length + 1, rfl, hpo, by omega, hpn, k1, k4, m1, m4, hsz, by omega, fun H23 s23 => ⟨rfl, _, rfl, itN ?_ ?_⟩⟩
            · have h0 : num k (Bl p k m) (us.length + 1) = 0 := by
                rw [← hnb]
                exact (z1 _).mpr ⟨V.str.inj c1, by omega⟩
              rw [h0]
              simp
            · obtain ⟨i9, p9, h9⟩ := fin s23
              exact ⟨_, _, _, _, _, _, _, _, _, _, _, _, _, i9, rfl, p9, h9⟩
          · refine itN (decide_eq_false c2) (itN rfl ?_)
            obtain ⟨i9, p9, h9⟩ := fin (Same.refl _)
            exact ⟨_, _, _, _, _, _, _, _, _, _, _, _, _, i9, rfl, p9, h9⟩
        · refine itN (decide_eq_false c1) (itN rfl ?_)
          obtain ⟨i9, p9, h9⟩ := fin (Same.refl _)
          exact ⟨_, _, _, _, _, _, _, _, _, _, _, _, _, i9, rfl, p9, h9⟩
      · have ne : Str.ofString "endless" ≠ Str.ofString "finite" := by decide +kernel
        have z0 : ∀ n, nb n = 0 ↔ (Str.ofString "endless" = Str.ofString "finite" ∧ us.length < n) := fun n => by
          rw [hnb]
          exact ⟨fun h => absurd h (told n), fun h => absurd h.1 ne⟩
        have a0 : [V.str (Str.ofString "endless"), V.ref ta, V.ref tb][0]? = some (V.str (Str.ofString "endless")) := rfl
        have a1 : [V.str (Str.ofString "endless"), V.ref ta, V.ref tb][1]? = some (V.ref ta) := rfl
        generalize [V.str (Str.ofString "endless"), V.ref ta, V.ref tb] = ws at hT a0 a1
        have z1 := z0
        clear z0 ne
        generalize Str.ofString "endless" = z at a0 z1
        clear told
        have hL17 := s17 _ _ hL16
        have s717 := s716.trans s17
        clear s716 s17 hL16
        refine ⟨_, rfl, _, rfl, L, _, _, _, rfl, rfl, SqL.of hL17, atI_nat (j := 0) rfl, by show 2 ≤ sizeLine; decide, fun q1 hq1 => ?_⟩
        have sa : Same H17 (upd H17 q1 (.tup [.int (t1 : Int), .int (nb t1 : Nat)])) := same_upd hq1
        have ha : (upd H17 q1 (.tup [.int (t1 : Int), .int (nb t1 : Nat)])) q1 = some (.tup [.int (t1 : Int), .int (nb t1 : Nat)]) := upd_same
        generalize upd H17 q1 (.tup [.int (t1 : Int), .int (nb t1 : Nat)]) = H18 at sa ha ⊢
        refine ⟨_, rfl, _, rfl, L, _, _, _, rfl, rfl, SqL.of (sa _ _ hL17), atI_nat (j := 1) rfl, by show 2 ≤ sizeLine; decide, fun q2 hq2 => ?_⟩
        have sb : Same H18 (upd H18 q2 (.tup [.int (t2 : Int), .int (nb t2 : Nat)])) := same_upd hq2
        have hb : (upd H18 q2 (.tup [.int (t2 : Int), .int (nb t2 : Nat)])) q2 = some (.tup [.int (t2 : Int), .int (nb t2 : Nat)]) := upd_same
        generalize upd H18 q2 (.tup [.int (t2 : Int), .int (nb t2 : Nat)]) = H19 at sb hb ⊢
        refine ⟨_, rfl, _, rfl, _, _, rfl, rfl, _, rfl, L, _, _, _, rfl, rfl, SqL.of ((sa.trans sb) _ _ hL17), atI_nat (j := 2) rfl, by show 2 ≤ sizeLine; decide, fun q3 hq3 => ?_⟩
        have sc : Same H19 (upd H19 q3 (.tup [.int ((t1 : Int) + (t2 : Int)), .int (nb (t1 + t2) : Nat)])) := same_upd hq3
        have hc : (upd H19 q3 (.tup [.int ((t1 : Int) + (t2 : Int)), .int (nb (t1 + t2) : Nat)])) q3 = some (.tup [.int ((t1 + t2 : Nat) : Int), .int (nb (t1 + t2) : Nat)]) := upd_same
        generalize upd H19 q3 (.tup [.int ((t1 : Int) + (t2 : Int)), .int (nb (t1 + t2) : Nat)]) = H20 at sc hc ⊢
        refine ⟨by show 3 ≤ sizeLine; decide, fun O2 hO2 => ⟨O2, rfl, ⟨_, SqL.of upd_same⟩, ?_⟩⟩
        have sd : Same H20 (upd H20 O2 (.lst [.ref q1, .ref q2, .ref q3])) := same_upd hO2
        have hd21 : (upd H20 O2 (.lst [.ref q1, .ref q2, .ref q3])) O2 = some (.lst [.ref q1, .ref q2, .ref q3]) := upd_same
        generalize upd H20 O2 (.lst [.ref q1, .ref q2, .ref q3]) = H21 at sd hd21 ⊢
        have ha21 := (sb.trans (sc.trans sd)) _ _ ha
        have hb21 := (sc.trans sd) _ _ hb
        have hc21 := sd _ _ hc
        have s1721 := sa.trans (sb.trans (sc.trans sd))
        have hT21 := s1721 _ _ hT
        have hta21 := sameT s1721 hta
        have s721 := s717.trans s1721
        clear sa sb sc sd ha hb hc hq1 hq2 hq3 hO2 hT hta s717 s1721 hL17
        have pick : ∀ {e : Nat} {y : V}, [V.ref q1, .ref q2, .ref q3][e]? = some y → ∃ (qa : Addr) (tt : Nat), y = .ref qa ∧ H21 qa = some (.tup [.int (tt : Int), .int (nb tt : Nat)]) := fun {e y} hy => by
          have hm := at_mem hy
          simp only [List.mem_cons, List.not_mem_nil, or_false] at hm
          rcases hm with rfl | rfl | rfl
          · exact ⟨_, _, rfl, ha21⟩
          · exact ⟨_, _, rfl, hb21⟩
          · exact ⟨_, _, rfl, hc21⟩
        refine for_list (K := K) (a := O2) (xs := [V.ref q1, .ref q2, .ref q3]) (fun e σ H' => ∃ w8 w13 : Option V, σ = [some (.ref a), some (.ref d), some (.int ((0 : Int) + (j : Nat))), some (.str (tx p)), some (.int (k : Int)), some (.int (m : Int)), some (.int (t1 : Int)), some (.int (t2 : Int)), w8, some (.ref L), some (.ref O), v11, some (.ref T), w13, v14] ∧ Same H21 H')
          ⟨v8, v13, rfl, Same.refl _⟩ (fun e σ H' _ ⟨_, _, _, s⟩ => SqL.of (s _ _ hd21)) ?_ ?_
        · rintro e y σ H22 hy ⟨w8, w13, rfl, s22⟩
          obtain ⟨qa, tt, rfl, hqa⟩ := pick hy
          have hT22 := s22 _ _ hT21
          refine ⟨qa, _, rfl, SqT.of (s22 _ _ hqa), rfl, _, _, rfl, _, _, rfl, rfl, ?_⟩
          refine ⟨_, rfl, rfl, _, rfl, T, _, _, _, rfl, rfl, SqT.of hT22, atI_nat (j := 0) a0, rfl, _, rfl, ?_⟩
          by_cases c1 : V.str z = V.str (Str.ofString "finite")
          · refine itC (decide_eq_true c1) ?_
            refine ⟨_, rfl, T, _, _, _, rfl, rfl, SqT.of hT22, atI_nat (j := 1) a1, ta, us, rfl, .inr (sameT s22 hta21), _, rfl, _, _, rfl, rfl, rfl, _, rfl, itN ?_ ⟨_, _, rfl, s22⟩⟩
            have e1 : decide (V.int (nb tt : Nat) = V.int 0) = decide ((us.length : Int) < (tt : Int)) := by
              refine decide_eq_decide.mpr ⟨fun h => ?_, fun h => ?_⟩
              · have h0 : nb tt = 0 := by have := V.int.inj h; omega
                have := ((z1 tt).mp h0).2
                omega
              · have h0 := (z1 tt).mpr ⟨V.str.inj c1, by omega⟩
                rw [h0]
                rfl
            rw [e1]
            simp
          · refine itN (decide_eq_false c1) ⟨rfl, _, rfl, itN ?_ ⟨_, _, rfl, s22⟩⟩
            have e1 : decide (V.int (nb tt : Nat) = V.int 0) = false := by
              refine decide_eq_false fun h => ?_
              have h0 : nb tt = 0 := by have := V.int.inj h; omega
              exact c1 (congrArg V.str ((z1 tt).mp h0).1)
            rw [e1]
            simp
        rintro σ H22 ⟨w8, w13, rfl, s22⟩
        have hT22 := s22 _ _ hT21
        have fin : ∀ {H' : Hp}, Same H22 H' → ∃ i', Pen H' d c ns i' ∧ i' ≤ 60 * (j + 1) := fun s => done (s721.trans (s22.trans s))
        refine ⟨_, rfl, T, _, _, _, rfl, rfl, SqT.of hT22, atI_nat (j := 1) a1, ta, us, rfl, .inr (sameT s22 hta21), _, 1, rfl, rfl, ?_⟩
        refine ⟨_, rfl, T, _, _, _, rfl, rfl, SqT.of hT22, atI_nat (j := 0) a0, rfl, _, rfl, ?_⟩
        by_cases c1 : V.str z = V.str (Str.ofString "finite")
        · refine itC (decide_eq_true c1) ?_
          refine ⟨_, rfl, _, 201, rfl, rfl, _, rfl, ?_⟩
          by_cases c2 : (us.length : Int) + 1 < 201
          · refine itC (decide_eq_true c2) ?_
            refine ⟨_, rfl, _, rfl, _, rfl, _, rfl, p, k, m, us.length + 1, rfl, hpo, by omega, hpn, k1, k4, m1, m4, hsz, by omega, fun H23 s23 => ⟨rfl, _, rfl, itN ?_ ?_⟩⟩
            · have h0 : num k (Bl p k m) (us.length + 1) = 0 := by
                rw [← hnb]
                exact (z1 _).mpr ⟨V.str.inj c1, by omega⟩
              rw [h0]
              simp
            · obtain ⟨i9, p9, h9⟩ := fin s23
              exact ⟨_, _, _, _, _, _, _, _, _, _, _, _, _, i9, rfl, p9, h9⟩
          · refine itN (decide_eq_false c2) (itN rfl ?_)
            obtain ⟨i9, p9, h9⟩ := fin (Same.refl _)
            exact ⟨_, _, _, _, _, _, _, _, _, _, _, _, _, i9, rfl, p9, h9⟩
        · refine itN (decide_eq_false c1) (itN rfl ?_)
          obtain ⟨i9, p9, h9⟩ := fin (Same.refl _)
          exact ⟨_, _, _, _, _, _, _, _, _, _, _, _, _, i9, rfl, p9, h9⟩
    · rintro σ H2 _
      exact q H2
end
end K61

/-! What the top has written. -/
namespace K61
open PySem PySem.Spec PyProof.Rows L2
theorem all_mk {l : PySem.W.OpenLaw} {w : World} {K : PySem.W.Frag} {h : Heap} {mg : Str → Option Value} {fa C : Addr} (X : K.In h) (G : h.Ns mainGlobals mg) (hfa : mg "law" = some (.ref fa))
    (aC : PySem.W.nsIn K mainGlobals "Recognizer" = some (some (.ref C))) (pg : PySem.W.plainGet K C Str.empty = true) (hd : PySem.W.hasDictIn K C = true) (po : PySem.W.plainOver K C = true) (sa : PySem.W.findIn K (.ref C) "__setattr__" = some (some (.builtin "object.__setattr__"))) (mk : PySem.W.makesIn K C = true) (kc : PySem.W.keepIn K (.ref C) = true)
    (n_letters : PySem.W.findIn K (.ref C) "letters" = some none)
    (n_children : PySem.W.findIn K (.ref C) "children" = some none)
    (n_stops : PySem.W.findIn K (.ref C) "stops" = some none)
    (n_fallback : PySem.W.findIn K (.ref C) "fallback" = some none)
    (n_moves : PySem.W.findIn K (.ref C) "moves" = some none)
    (z_isinstance : PySem.W.nsIn K mainGlobals "isinstance" = some none)
    (z_int : PySem.W.nsIn K mainGlobals "int" = some none)
    (z_bool : PySem.W.nsIn K mainGlobals "bool" = some none)
    (z_str : PySem.W.nsIn K mainGlobals "str" = some none)
    (z_all : PySem.W.nsIn K mainGlobals "all" = some none)
    (z_enumerate : PySem.W.nsIn K mainGlobals "enumerate" = some none)
    (z_len : PySem.W.nsIn K mainGlobals "len" = some none)
    (z_tuple : PySem.W.nsIn K mainGlobals "tuple" = some none)
    (z_range : PySem.W.nsIn K mainGlobals "range" = some none)
    (z_sorted : PySem.W.nsIn K mainGlobals "sorted" = some none)
    (z_dict : PySem.W.nsIn K mainGlobals "dict" = some none)
    (z_zip : PySem.W.nsIn K mainGlobals "zip" = some none)
    (z_sum : PySem.W.nsIn K mainGlobals "sum" = some none)
    (z_max : PySem.W.nsIn K mainGlobals "max" = some none)
    (z_min : PySem.W.nsIn K mainGlobals "min" = some none)
    (z_list : PySem.W.nsIn K mainGlobals "list" = some none)
    (z_abs : PySem.W.nsIn K mainGlobals "abs" = some none)
    (z_set : PySem.W.nsIn K mainGlobals "set" = some none)
    {t_alpha : Tok} (c_alpha : PySem.W.nsIn K mainGlobals "ALPHABET" = some (some (.str abc t_alpha)))
    {t_mPat : Tok} (c_mPat : PySem.W.nsIn K mainGlobals "MAX_PATTERN" = some (some (.int 40 t_mPat)))
    {t_mVar : Tok} (c_mVar : PySem.W.nsIn K mainGlobals "MAX_VARIABLES" = some (some (.int 8 t_mVar)))
    {t_mLet : Tok} (c_mLet : PySem.W.nsIn K mainGlobals "MAX_LETTERS" = some (some (.int 4 t_mLet)))
    {t_mLon : Tok} (c_mLon : PySem.W.nsIn K mainGlobals "MAX_LONGEST" = some (some (.int 4 t_mLon)))
    {t_mSiz : Tok} (c_mSiz : PySem.W.nsIn K mainGlobals "MAX_SIZE" = some (some (.int 4096 t_mSiz)))
    {t_mLen : Tok} (c_mLen : PySem.W.nsIn K mainGlobals "MAX_LENGTH" = some (some (.int 200 t_mLen)))
    {f_is_integer : Addr} {od_is_integer an_is_integer : Option Addr} {sl_is_integer : Array (Option Value)} {oc_is_integer kV_is_integer dc_is_integer pm_is_integer cd_is_integer ct_is_integer : Value}
    (a_is_integer : PySem.W.nsIn K mainGlobals "is_integer" = some (some (.ref f_is_integer)))
    (l_is_integer : K.lookup f_is_integer = some ⟨oc_is_integer, od_is_integer, .func (PySem.W.fnOf "is_integer" "is_integer" (defArgs sIsInt) (defBody sIsInt) (defScope sIsInt) .none kV_is_integer dc_is_integer pm_is_integer an_is_integer cd_is_integer ct_is_integer), sl_is_integer⟩) (c_is_integer : PySem.W.codeIn K cd_is_integer "is_integer" = true) (k_is_integer : PySem.W.keepIn K (.ref f_is_integer) = true)
    {f_is_between : Addr} {od_is_between an_is_between : Option Addr} {sl_is_between : Array (Option Value)} {oc_is_between kV_is_between dc_is_between pm_is_between cd_is_between ct_is_between : Value}
    (a_is_between : PySem.W.nsIn K mainGlobals "is_between" = some (some (.ref f_is_between)))
    (l_is_between : K.lookup f_is_between = some ⟨oc_is_between, od_is_between, .func (PySem.W.fnOf "is_between" "is_between" (defArgs sBetween) (defBody sBetween) (defScope sBetween) .none kV_is_between dc_is_between pm_is_between an_is_between cd_is_between ct_is_between), sl_is_between⟩) (c_is_between : PySem.W.codeIn K cd_is_between "is_between" = true) (k_is_between : PySem.W.keepIn K (.ref f_is_between) = true)
    {f_are_variables : Addr} {od_are_variables an_are_variables : Option Addr} {sl_are_variables : Array (Option Value)} {oc_are_variables kV_are_variables dc_are_variables pm_are_variables cd_are_variables ct_are_variables : Value}
    (a_are_variables : PySem.W.nsIn K mainGlobals "are_variables" = some (some (.ref f_are_variables)))
    (l_are_variables : K.lookup f_are_variables = some ⟨oc_are_variables, od_are_variables, .func (PySem.W.fnOf "are_variables" "are_variables" (defArgs sVars) (defBody sVars) (defScope sVars) .none kV_are_variables dc_are_variables pm_are_variables an_are_variables cd_are_variables ct_are_variables), sl_are_variables⟩) (c_are_variables : PySem.W.codeIn K cd_are_variables "are_variables" = true) (k_are_variables : PySem.W.keepIn K (.ref f_are_variables) = true)
    {f_distinct : Addr} {od_distinct an_distinct : Option Addr} {sl_distinct : Array (Option Value)} {oc_distinct kV_distinct dc_distinct pm_distinct cd_distinct ct_distinct : Value}
    (a_distinct : PySem.W.nsIn K mainGlobals "distinct" = some (some (.ref f_distinct)))
    (l_distinct : K.lookup f_distinct = some ⟨oc_distinct, od_distinct, .func (PySem.W.fnOf "distinct" "distinct" (defArgs sDistinct) (defBody sDistinct) (defScope sDistinct) .none kV_distinct dc_distinct pm_distinct an_distinct cd_distinct ct_distinct), sl_distinct⟩) (c_distinct : PySem.W.codeIn K cd_distinct "distinct" = true) (k_distinct : PySem.W.keepIn K (.ref f_distinct) = true)
    {f_fits_pattern : Addr} {od_fits_pattern an_fits_pattern : Option Addr} {sl_fits_pattern : Array (Option Value)} {oc_fits_pattern kV_fits_pattern dc_fits_pattern pm_fits_pattern cd_fits_pattern ct_fits_pattern : Value}
    (a_fits_pattern : PySem.W.nsIn K mainGlobals "fits_pattern" = some (some (.ref f_fits_pattern)))
    (l_fits_pattern : K.lookup f_fits_pattern = some ⟨oc_fits_pattern, od_fits_pattern, .func (PySem.W.fnOf "fits_pattern" "fits_pattern" (defArgs sFits) (defBody sFits) (defScope sFits) .none kV_fits_pattern dc_fits_pattern pm_fits_pattern an_fits_pattern cd_fits_pattern ct_fits_pattern), sl_fits_pattern⟩) (c_fits_pattern : PySem.W.codeIn K cd_fits_pattern "fits_pattern" = true) (k_fits_pattern : PySem.W.keepIn K (.ref f_fits_pattern) = true)
    {f_need_pattern : Addr} {od_need_pattern an_need_pattern : Option Addr} {sl_need_pattern : Array (Option Value)} {oc_need_pattern kV_need_pattern dc_need_pattern pm_need_pattern cd_need_pattern ct_need_pattern : Value}
    (a_need_pattern : PySem.W.nsIn K mainGlobals "need_pattern" = some (some (.ref f_need_pattern)))
    (l_need_pattern : K.lookup f_need_pattern = some ⟨oc_need_pattern, od_need_pattern, .func (PySem.W.fnOf "need_pattern" "need_pattern" (defArgs sNeedP) (defBody sNeedP) (defScope sNeedP) .none kV_need_pattern dc_need_pattern pm_need_pattern an_need_pattern cd_need_pattern ct_need_pattern), sl_need_pattern⟩) (c_need_pattern : PySem.W.codeIn K cd_need_pattern "need_pattern" = true) (k_need_pattern : PySem.W.keepIn K (.ref f_need_pattern) = true)
    {f_need_count : Addr} {od_need_count an_need_count : Option Addr} {sl_need_count : Array (Option Value)} {oc_need_count kV_need_count dc_need_count pm_need_count cd_need_count ct_need_count : Value}
    (a_need_count : PySem.W.nsIn K mainGlobals "need_count" = some (some (.ref f_need_count)))
    (l_need_count : K.lookup f_need_count = some ⟨oc_need_count, od_need_count, .func (PySem.W.fnOf "need_count" "need_count" (defArgs sNeedC) (defBody sNeedC) (defScope sNeedC) .none kV_need_count dc_need_count pm_need_count an_need_count cd_need_count ct_need_count), sl_need_count⟩) (c_need_count : PySem.W.codeIn K cd_need_count "need_count" = true) (k_need_count : PySem.W.keepIn K (.ref f_need_count) = true)
    {f_normal : Addr} {od_normal an_normal : Option Addr} {sl_normal : Array (Option Value)} {oc_normal kV_normal dc_normal pm_normal cd_normal ct_normal : Value}
    (a_normal : PySem.W.nsIn K mainGlobals "normal" = some (some (.ref f_normal)))
    (l_normal : K.lookup f_normal = some ⟨oc_normal, od_normal, .func (PySem.W.fnOf "normal" "normal" (defArgs sNormal) (defBody sNormal) (defScope sNormal) .none kV_normal dc_normal pm_normal an_normal cd_normal ct_normal), sl_normal⟩) (c_normal : PySem.W.codeIn K cd_normal "normal" = true) (k_normal : PySem.W.keepIn K (.ref f_normal) = true)
    {f_filled : Addr} {od_filled an_filled : Option Addr} {sl_filled : Array (Option Value)} {oc_filled kV_filled dc_filled pm_filled cd_filled ct_filled : Value}
    (a_filled : PySem.W.nsIn K mainGlobals "filled" = some (some (.ref f_filled)))
    (l_filled : K.lookup f_filled = some ⟨oc_filled, od_filled, .func (PySem.W.fnOf "filled" "filled" (defArgs sFilled) (defBody sFilled) (defScope sFilled) .none kV_filled dc_filled pm_filled an_filled cd_filled ct_filled), sl_filled⟩) (c_filled : PySem.W.codeIn K cd_filled "filled" = true) (k_filled : PySem.W.keepIn K (.ref f_filled) = true)
    {f_need_bounds : Addr} {od_need_bounds an_need_bounds : Option Addr} {sl_need_bounds : Array (Option Value)} {oc_need_bounds kV_need_bounds dc_need_bounds pm_need_bounds cd_need_bounds ct_need_bounds : Value}
    (a_need_bounds : PySem.W.nsIn K mainGlobals "need_bounds" = some (some (.ref f_need_bounds)))
    (l_need_bounds : K.lookup f_need_bounds = some ⟨oc_need_bounds, od_need_bounds, .func (PySem.W.fnOf "need_bounds" "need_bounds" (defArgs sNeedB) (defBody sNeedB) (defScope sNeedB) .none kV_need_bounds dc_need_bounds pm_need_bounds an_need_bounds cd_need_bounds ct_need_bounds), sl_need_bounds⟩) (c_need_bounds : PySem.W.codeIn K cd_need_bounds "need_bounds" = true) (k_need_bounds : PySem.W.keepIn K (.ref f_need_bounds) = true)
    {f_short_texts : Addr} {od_short_texts an_short_texts : Option Addr} {sl_short_texts : Array (Option Value)} {oc_short_texts kV_short_texts dc_short_texts pm_short_texts cd_short_texts ct_short_texts : Value}
    (a_short_texts : PySem.W.nsIn K mainGlobals "short_texts" = some (some (.ref f_short_texts)))
    (l_short_texts : K.lookup f_short_texts = some ⟨oc_short_texts, od_short_texts, .func (PySem.W.fnOf "short_texts" "short_texts" (defArgs sShort) (defBody sShort) (defScope sShort) .none kV_short_texts dc_short_texts pm_short_texts an_short_texts cd_short_texts ct_short_texts), sl_short_texts⟩) (c_short_texts : PySem.W.codeIn K cd_short_texts "short_texts" = true) (k_short_texts : PySem.W.keepIn K (.ref f_short_texts) = true)
    {f_need_size : Addr} {od_need_size an_need_size : Option Addr} {sl_need_size : Array (Option Value)} {oc_need_size kV_need_size dc_need_size pm_need_size cd_need_size ct_need_size : Value}
    (a_need_size : PySem.W.nsIn K mainGlobals "need_size" = some (some (.ref f_need_size)))
    (l_need_size : K.lookup f_need_size = some ⟨oc_need_size, od_need_size, .func (PySem.W.fnOf "need_size" "need_size" (defArgs sNeedS) (defBody sNeedS) (defScope sNeedS) .none kV_need_size dc_need_size pm_need_size an_need_size cd_need_size ct_need_size), sl_need_size⟩) (c_need_size : PySem.W.codeIn K cd_need_size "need_size" = true) (k_need_size : PySem.W.keepIn K (.ref f_need_size) = true)
    {f_blocked : Addr} {od_blocked an_blocked : Option Addr} {sl_blocked : Array (Option Value)} {oc_blocked kV_blocked dc_blocked pm_blocked cd_blocked ct_blocked : Value}
    (a_blocked : PySem.W.nsIn K mainGlobals "blocked" = some (some (.ref f_blocked)))
    (l_blocked : K.lookup f_blocked = some ⟨oc_blocked, od_blocked, .func (PySem.W.fnOf "blocked" "blocked" (defArgs sBlocked) (defBody sBlocked) (defScope sBlocked) .none kV_blocked dc_blocked pm_blocked an_blocked cd_blocked ct_blocked), sl_blocked⟩) (c_blocked : PySem.W.codeIn K cd_blocked "blocked" = true) (k_blocked : PySem.W.keepIn K (.ref f_blocked) = true)
    {f_put : Addr} {od_put an_put : Option Addr} {sl_put : Array (Option Value)} {oc_put kV_put dc_put pm_put cd_put ct_put : Value}
    (a_put : PySem.W.findIn K (.ref C) "put" = some (some (.ref f_put))) (i_put : PySem.W.isFn K (.ref f_put) = true)
    (l_put : K.lookup f_put = some ⟨oc_put, od_put, .func (PySem.W.fnOf "put" "Recognizer.put" (defArgs sPut) (defBody sPut) (defScope sPut) .none kV_put dc_put pm_put an_put cd_put ct_put), sl_put⟩) (c_put : PySem.W.codeIn K cd_put "Recognizer.put" = true) (k_put : PySem.W.keepIn K (.ref f_put) = true)
    {f_connect : Addr} {od_connect an_connect : Option Addr} {sl_connect : Array (Option Value)} {oc_connect kV_connect dc_connect pm_connect cd_connect ct_connect : Value}
    (a_connect : PySem.W.findIn K (.ref C) "connect" = some (some (.ref f_connect))) (i_connect : PySem.W.isFn K (.ref f_connect) = true)
    (l_connect : K.lookup f_connect = some ⟨oc_connect, od_connect, .func (PySem.W.fnOf "connect" "Recognizer.connect" (defArgs sConnect) (defBody sConnect) (defScope sConnect) .none kV_connect dc_connect pm_connect an_connect cd_connect ct_connect), sl_connect⟩) (c_connect : PySem.W.codeIn K cd_connect "Recognizer.connect" = true) (k_connect : PySem.W.keepIn K (.ref f_connect) = true)
    {f___init__ : Addr} {od___init__ an___init__ : Option Addr} {sl___init__ : Array (Option Value)} {oc___init__ kV___init__ dc___init__ pm___init__ cd___init__ ct___init__ : Value}
    (a___init__ : PySem.W.findIn K (.ref C) "__init__" = some (some (.ref f___init__))) (i___init__ : PySem.W.isFn K (.ref f___init__) = true)
    (l___init__ : K.lookup f___init__ = some ⟨oc___init__, od___init__, .func (PySem.W.fnOf "__init__" "Recognizer.__init__" (defArgs sInit) (defBody sInit) (defScope sInit) .none kV___init__ dc___init__ pm___init__ an___init__ cd___init__ ct___init__), sl___init__⟩) (c___init__ : PySem.W.codeIn K cd___init__ "Recognizer.__init__" = true) (k___init__ : PySem.W.keepIn K (.ref f___init__) = true)
    {f_steps : Addr} {od_steps an_steps : Option Addr} {sl_steps : Array (Option Value)} {oc_steps kV_steps dc_steps pm_steps cd_steps ct_steps : Value}
    (a_steps : PySem.W.findIn K (.ref C) "steps" = some (some (.ref f_steps))) (i_steps : PySem.W.isFn K (.ref f_steps) = true)
    (l_steps : K.lookup f_steps = some ⟨oc_steps, od_steps, .func (PySem.W.fnOf "steps" "Recognizer.steps" (defArgs sSteps) (defBody sSteps) (defScope sSteps) .none kV_steps dc_steps pm_steps an_steps cd_steps ct_steps), sl_steps⟩) (c_steps : PySem.W.codeIn K cd_steps "Recognizer.steps" = true) (k_steps : PySem.W.keepIn K (.ref f_steps) = true)
    {f_reachable : Addr} {od_reachable an_reachable : Option Addr} {sl_reachable : Array (Option Value)} {oc_reachable kV_reachable dc_reachable pm_reachable cd_reachable ct_reachable : Value}
    (a_reachable : PySem.W.findIn K (.ref C) "reachable" = some (some (.ref f_reachable))) (i_reachable : PySem.W.isFn K (.ref f_reachable) = true)
    (l_reachable : K.lookup f_reachable = some ⟨oc_reachable, od_reachable, .func (PySem.W.fnOf "reachable" "Recognizer.reachable" (defArgs sReach) (defBody sReach) (defScope sReach) .none kV_reachable dc_reachable pm_reachable an_reachable cd_reachable ct_reachable), sl_reachable⟩) (c_reachable : PySem.W.codeIn K cd_reachable "Recognizer.reachable" = true) (k_reachable : PySem.W.keepIn K (.ref f_reachable) = true)
    {f_recognizer : Addr} {od_recognizer an_recognizer : Option Addr} {sl_recognizer : Array (Option Value)} {oc_recognizer kV_recognizer dc_recognizer pm_recognizer cd_recognizer ct_recognizer : Value}
    (a_recognizer : PySem.W.nsIn K mainGlobals "recognizer" = some (some (.ref f_recognizer)))
    (l_recognizer : K.lookup f_recognizer = some ⟨oc_recognizer, od_recognizer, .func (PySem.W.fnOf "recognizer" "recognizer" (defArgs sRecog) (defBody sRecog) (defScope sRecog) .none kV_recognizer dc_recognizer pm_recognizer an_recognizer cd_recognizer ct_recognizer), sl_recognizer⟩) (c_recognizer : PySem.W.codeIn K cd_recognizer "recognizer" = true) (k_recognizer : PySem.W.keepIn K (.ref f_recognizer) = true)
    {f_count_open : Addr} {od_count_open an_count_open : Option Addr} {sl_count_open : Array (Option Value)} {oc_count_open kV_count_open dc_count_open pm_count_open cd_count_open ct_count_open : Value}
    (a_count_open : PySem.W.nsIn K mainGlobals "count_open" = some (some (.ref f_count_open)))
    (l_count_open : K.lookup f_count_open = some ⟨oc_count_open, od_count_open, .func (PySem.W.fnOf "count_open" "count_open" (defArgs sCount) (defBody sCount) (defScope sCount) .none kV_count_open dc_count_open pm_count_open an_count_open cd_count_open ct_count_open), sl_count_open⟩) (c_count_open : PySem.W.codeIn K cd_count_open "count_open" = true) (k_count_open : PySem.W.keepIn K (.ref f_count_open) = true)
    {f_heights : Addr} {od_heights an_heights : Option Addr} {sl_heights : Array (Option Value)} {oc_heights kV_heights dc_heights pm_heights cd_heights ct_heights : Value}
    (a_heights : PySem.W.nsIn K mainGlobals "heights" = some (some (.ref f_heights)))
    (l_heights : K.lookup f_heights = some ⟨oc_heights, od_heights, .func (PySem.W.fnOf "heights" "heights" (defArgs sHeights) (defBody sHeights) (defScope sHeights) .none kV_heights dc_heights pm_heights an_heights cd_heights ct_heights), sl_heights⟩) (c_heights : PySem.W.codeIn K cd_heights "heights" = true) (k_heights : PySem.W.keepIn K (.ref f_heights) = true)
    {f_endless : Addr} {od_endless an_endless : Option Addr} {sl_endless : Array (Option Value)} {oc_endless kV_endless dc_endless pm_endless cd_endless ct_endless : Value}
    (a_endless : PySem.W.nsIn K mainGlobals "endless" = some (some (.ref f_endless)))
    (l_endless : K.lookup f_endless = some ⟨oc_endless, od_endless, .func (PySem.W.fnOf "endless" "endless" (defArgs sEndless) (defBody sEndless) (defScope sEndless) .none kV_endless dc_endless pm_endless an_endless cd_endless ct_endless), sl_endless⟩) (c_endless : PySem.W.codeIn K cd_endless "endless" = true) (k_endless : PySem.W.keepIn K (.ref f_endless) = true)
    {f_longest_open : Addr} {od_longest_open an_longest_open : Option Addr} {sl_longest_open : Array (Option Value)} {oc_longest_open kV_longest_open dc_longest_open pm_longest_open cd_longest_open ct_longest_open : Value}
    (a_longest_open : PySem.W.nsIn K mainGlobals "longest_open" = some (some (.ref f_longest_open)))
    (l_longest_open : K.lookup f_longest_open = some ⟨oc_longest_open, od_longest_open, .func (PySem.W.fnOf "longest_open" "longest_open" (defArgs sLongest) (defBody sLongest) (defScope sLongest) .none kV_longest_open dc_longest_open pm_longest_open an_longest_open cd_longest_open ct_longest_open), sl_longest_open⟩) (c_longest_open : PySem.W.codeIn K cd_longest_open "longest_open" = true) (k_longest_open : PySem.W.keepIn K (.ref f_longest_open) = true)
    {f__law_pen : Addr} {od__law_pen an__law_pen : Option Addr} {sl__law_pen : Array (Option Value)} {oc__law_pen kV__law_pen dc__law_pen pm__law_pen cd__law_pen ct__law_pen : Value}
    (a__law_pen : PySem.W.nsIn K mainGlobals "_law_pen" = some (some (.ref f__law_pen)))
    (l__law_pen : K.lookup f__law_pen = some ⟨oc__law_pen, od__law_pen, .func (PySem.W.fnOf "_law_pen" "_law_pen" (defArgs sLPen) (defBody sLPen) (defScope sLPen) .none kV__law_pen dc__law_pen pm__law_pen an__law_pen cd__law_pen ct__law_pen), sl__law_pen⟩) (c__law_pen : PySem.W.codeIn K cd__law_pen "_law_pen" = true) (k__law_pen : PySem.W.keepIn K (.ref f__law_pen) = true)
    {f__law_draw : Addr} {od__law_draw an__law_draw : Option Addr} {sl__law_draw : Array (Option Value)} {oc__law_draw kV__law_draw dc__law_draw pm__law_draw cd__law_draw ct__law_draw : Value}
    (a__law_draw : PySem.W.nsIn K mainGlobals "_law_draw" = some (some (.ref f__law_draw)))
    (l__law_draw : K.lookup f__law_draw = some ⟨oc__law_draw, od__law_draw, .func (PySem.W.fnOf "_law_draw" "_law_draw" (defArgs sLDraw) (defBody sLDraw) (defScope sLDraw) .none kV__law_draw dc__law_draw pm__law_draw an__law_draw cd__law_draw ct__law_draw), sl__law_draw⟩) (c__law_draw : PySem.W.codeIn K cd__law_draw "_law_draw" = true) (k__law_draw : PySem.W.keepIn K (.ref f__law_draw) = true)
    {f__law_pick : Addr} {od__law_pick an__law_pick : Option Addr} {sl__law_pick : Array (Option Value)} {oc__law_pick kV__law_pick dc__law_pick pm__law_pick cd__law_pick ct__law_pick : Value}
    (a__law_pick : PySem.W.nsIn K mainGlobals "_law_pick" = some (some (.ref f__law_pick)))
    (l__law_pick : K.lookup f__law_pick = some ⟨oc__law_pick, od__law_pick, .func (PySem.W.fnOf "_law_pick" "_law_pick" (defArgs sLPick) (defBody sLPick) (defScope sLPick) .none kV__law_pick dc__law_pick pm__law_pick an__law_pick cd__law_pick ct__law_pick), sl__law_pick⟩) (c__law_pick : PySem.W.codeIn K cd__law_pick "_law_pick" = true) (k__law_pick : PySem.W.keepIn K (.ref f__law_pick) = true)
    {f__law_shuffled : Addr} {od__law_shuffled an__law_shuffled : Option Addr} {sl__law_shuffled : Array (Option Value)} {oc__law_shuffled kV__law_shuffled dc__law_shuffled pm__law_shuffled cd__law_shuffled ct__law_shuffled : Value}
    (a__law_shuffled : PySem.W.nsIn K mainGlobals "_law_shuffled" = some (some (.ref f__law_shuffled)))
    (l__law_shuffled : K.lookup f__law_shuffled = some ⟨oc__law_shuffled, od__law_shuffled, .func (PySem.W.fnOf "_law_shuffled" "_law_shuffled" (defArgs sLShuf) (defBody sLShuf) (defScope sLShuf) .none kV__law_shuffled dc__law_shuffled pm__law_shuffled an__law_shuffled cd__law_shuffled ct__law_shuffled), sl__law_shuffled⟩) (c__law_shuffled : PySem.W.codeIn K cd__law_shuffled "_law_shuffled" = true) (k__law_shuffled : PySem.W.keepIn K (.ref f__law_shuffled) = true)
    {f__law_pattern : Addr} {od__law_pattern an__law_pattern : Option Addr} {sl__law_pattern : Array (Option Value)} {oc__law_pattern kV__law_pattern dc__law_pattern pm__law_pattern cd__law_pattern ct__law_pattern : Value}
    (a__law_pattern : PySem.W.nsIn K mainGlobals "_law_pattern" = some (some (.ref f__law_pattern)))
    (l__law_pattern : K.lookup f__law_pattern = some ⟨oc__law_pattern, od__law_pattern, .func (PySem.W.fnOf "_law_pattern" "_law_pattern" (defArgs sLPat) (defBody sLPat) (defScope sLPat) .none kV__law_pattern dc__law_pattern pm__law_pattern an__law_pattern cd__law_pattern ct__law_pattern), sl__law_pattern⟩) (c__law_pattern : PySem.W.codeIn K cd__law_pattern "_law_pattern" = true) (k__law_pattern : PySem.W.keepIn K (.ref f__law_pattern) = true)
    {f__law_short : Addr} {od__law_short an__law_short : Option Addr} {sl__law_short : Array (Option Value)} {oc__law_short kV__law_short dc__law_short pm__law_short cd__law_short ct__law_short : Value}
    (a__law_short : PySem.W.nsIn K mainGlobals "_law_short" = some (some (.ref f__law_short)))
    (l__law_short : K.lookup f__law_short = some ⟨oc__law_short, od__law_short, .func (PySem.W.fnOf "_law_short" "_law_short" (defArgs sLShort) (defBody sLShort) (defScope sLShort) .none kV__law_short dc__law_short pm__law_short an__law_short cd__law_short ct__law_short), sl__law_short⟩) (c__law_short : PySem.W.codeIn K cd__law_short "_law_short" = true) (k__law_short : PySem.W.keepIn K (.ref f__law_short) = true)
    {f__law_size : Addr} {od__law_size an__law_size : Option Addr} {sl__law_size : Array (Option Value)} {oc__law_size kV__law_size dc__law_size pm__law_size cd__law_size ct__law_size : Value}
    (a__law_size : PySem.W.nsIn K mainGlobals "_law_size" = some (some (.ref f__law_size)))
    (l__law_size : K.lookup f__law_size = some ⟨oc__law_size, od__law_size, .func (PySem.W.fnOf "_law_size" "_law_size" (defArgs sLSize) (defBody sLSize) (defScope sLSize) .none kV__law_size dc__law_size pm__law_size an__law_size cd__law_size ct__law_size), sl__law_size⟩) (c__law_size : PySem.W.codeIn K cd__law_size "_law_size" = true) (k__law_size : PySem.W.keepIn K (.ref f__law_size) = true)
    {f__law_ways : Addr} {od__law_ways an__law_ways : Option Addr} {sl__law_ways : Array (Option Value)} {oc__law_ways kV__law_ways dc__law_ways pm__law_ways cd__law_ways ct__law_ways : Value}
    (a__law_ways : PySem.W.nsIn K mainGlobals "_law_ways" = some (some (.ref f__law_ways)))
    (l__law_ways : K.lookup f__law_ways = some ⟨oc__law_ways, od__law_ways, .func (PySem.W.fnOf "_law_ways" "_law_ways" (defArgs sLWays) (defBody sLWays) (defScope sLWays) .none kV__law_ways dc__law_ways pm__law_ways an__law_ways cd__law_ways ct__law_ways), sl__law_ways⟩) (c__law_ways : PySem.W.codeIn K cd__law_ways "_law_ways" = true) (k__law_ways : PySem.W.keepIn K (.ref f__law_ways) = true)
    {f__law_bounds : Addr} {od__law_bounds an__law_bounds : Option Addr} {sl__law_bounds : Array (Option Value)} {oc__law_bounds kV__law_bounds dc__law_bounds pm__law_bounds cd__law_bounds ct__law_bounds : Value}
    (a__law_bounds : PySem.W.nsIn K mainGlobals "_law_bounds" = some (some (.ref f__law_bounds)))
    (l__law_bounds : K.lookup f__law_bounds = some ⟨oc__law_bounds, od__law_bounds, .func (PySem.W.fnOf "_law_bounds" "_law_bounds" (defArgs sLBounds) (defBody sLBounds) (defScope sLBounds) .none kV__law_bounds dc__law_bounds pm__law_bounds an__law_bounds cd__law_bounds ct__law_bounds), sl__law_bounds⟩) (c__law_bounds : PySem.W.codeIn K cd__law_bounds "_law_bounds" = true) (k__law_bounds : PySem.W.keepIn K (.ref f__law_bounds) = true)
    {f_law : Addr} {od_law an_law : Option Addr} {sl_law : Array (Option Value)} {oc_law kV_law dc_law pm_law cd_law ct_law : Value}
    (a_law : PySem.W.nsIn K mainGlobals "law" = some (some (.ref f_law)))
    (l_law : K.lookup f_law = some ⟨oc_law, od_law, .func (PySem.W.fnOf "law" "law" (defArgs sLaw) (defBody sLaw) (defScope sLaw) .none kV_law dc_law pm_law an_law cd_law ct_law), sl_law⟩) (c_law : PySem.W.codeIn K cd_law "law" = true) (k_law : PySem.W.keepIn K (.ref f_law) = true)
    : ∃ fd : FuncData, (∀ (s : Shared) (v : Value), BindsTo s fd ⟨[v], []⟩ [("_law_script", v)]) ∧ ∀ base : Heap, K.In base → base.Ns mainGlobals mg → FnOk l.prog w K mg base CX0 6 fa fd ["_law_script"] (spLaw K) := by
  have e := hfa.symm.trans (PySem.W.mg_of X G a_law)
  cases e
  have N : Nm mg := ⟨PySem.W.mg_none_of X G z_isinstance, PySem.W.mg_none_of X G z_int, PySem.W.mg_none_of X G z_bool, PySem.W.mg_none_of X G z_str, PySem.W.mg_none_of X G z_all, PySem.W.mg_none_of X G z_enumerate, PySem.W.mg_none_of X G z_len, PySem.W.mg_none_of X G z_tuple, PySem.W.mg_none_of X G z_range, PySem.W.mg_none_of X G z_sorted, PySem.W.mg_none_of X G z_dict, PySem.W.mg_none_of X G z_zip, PySem.W.mg_none_of X G z_sum, PySem.W.mg_none_of X G z_max, PySem.W.mg_none_of X G z_min, PySem.W.mg_none_of X G z_list, PySem.W.mg_none_of X G z_abs, PySem.W.mg_none_of X G z_set, ⟨_, PySem.W.mg_of X G c_alpha⟩, ⟨_, PySem.W.mg_of X G c_mPat⟩, ⟨_, PySem.W.mg_of X G c_mVar⟩, ⟨_, PySem.W.mg_of X G c_mLet⟩, ⟨_, PySem.W.mg_of X G c_mLon⟩, ⟨_, PySem.W.mg_of X G c_mSiz⟩, ⟨_, PySem.W.mg_of X G c_mLen⟩⟩
  have T : RT K mg C := ⟨⟨pg, hd, po, sa⟩, n_letters, n_children, n_stops, n_fallback, n_moves, PySem.W.mg_of X G aC⟩
  have F_is_integer := fun_mk (st := sIsInt) l_is_integer c_is_integer k_is_integer
  have b_is_integer := F_is_integer.binds (ps := ["value"]) fun _ _ _ _ _ _ us hl => match us, hl with | [_], _ => rfl
  have F_is_between := fun_mk (st := sBetween) l_is_between c_is_between k_is_between
  have b_is_between := F_is_between.binds (ps := ["value", "low", "high"]) fun _ _ _ _ _ _ us hl => match us, hl with | [_, _, _], _ => rfl
  have F_are_variables := fun_mk (st := sVars) l_are_variables c_are_variables k_are_variables
  have b_are_variables := F_are_variables.binds (ps := ["value"]) fun _ _ _ _ _ _ us hl => match us, hl with | [_], _ => rfl
  have F_distinct := fun_mk (st := sDistinct) l_distinct c_distinct k_distinct
  have b_distinct := F_distinct.binds (ps := ["pattern"]) fun _ _ _ _ _ _ us hl => match us, hl with | [_], _ => rfl
  have F_fits_pattern := fun_mk (st := sFits) l_fits_pattern c_fits_pattern k_fits_pattern
  have b_fits_pattern := F_fits_pattern.binds (ps := ["value"]) fun _ _ _ _ _ _ us hl => match us, hl with | [_], _ => rfl
  have F_need_pattern := fun_mk (st := sNeedP) l_need_pattern c_need_pattern k_need_pattern
  have b_need_pattern := F_need_pattern.binds (ps := ["value"]) fun _ _ _ _ _ _ us hl => match us, hl with | [_], _ => rfl
  have F_need_count := fun_mk (st := sNeedC) l_need_count c_need_count k_need_count
  have b_need_count := F_need_count.binds (ps := ["value", "low", "high"]) fun _ _ _ _ _ _ us hl => match us, hl with | [_, _, _], _ => rfl
  have F_normal := fun_mk (st := sNormal) l_normal c_normal k_normal
  have b_normal := F_normal.binds (ps := ["pattern"]) fun _ _ _ _ _ _ us hl => match us, hl with | [_], _ => rfl
  have F_filled := fun_mk (st := sFilled) l_filled c_filled k_filled
  have b_filled := F_filled.binds (ps := ["pattern", "values"]) fun _ _ _ _ _ _ us hl => match us, hl with | [_, _], _ => rfl
  have F_need_bounds := fun_mk (st := sNeedB) l_need_bounds c_need_bounds k_need_bounds
  have b_need_bounds := F_need_bounds.binds (ps := ["pattern", "letters", "longest"]) fun _ _ _ _ _ _ us hl => match us, hl with | [_, _, _], _ => rfl
  have F_short_texts := fun_mk (st := sShort) l_short_texts c_short_texts k_short_texts
  have b_short_texts := F_short_texts.binds (ps := ["letters", "longest"]) fun _ _ _ _ _ _ us hl => match us, hl with | [_, _], _ => rfl
  have F_need_size := fun_mk (st := sNeedS) l_need_size c_need_size k_need_size
  have b_need_size := F_need_size.binds (ps := ["pattern", "letters", "longest"]) fun _ _ _ _ _ _ us hl => match us, hl with | [_, _, _], _ => rfl
  have F_blocked := fun_mk (st := sBlocked) l_blocked c_blocked k_blocked
  have b_blocked := F_blocked.binds (ps := ["pattern", "letters", "longest"]) fun _ _ _ _ _ _ us hl => match us, hl with | [_, _, _], _ => rfl
  have F_put := fun_mk (st := sPut) l_put c_put k_put
  have b_put := F_put.binds (ps := ["self", "text"]) fun _ _ _ _ _ _ us hl => match us, hl with | [_, _], _ => rfl
  have F_connect := fun_mk (st := sConnect) l_connect c_connect k_connect
  have b_connect := F_connect.binds (ps := ["self"]) fun _ _ _ _ _ _ us hl => match us, hl with | [_], _ => rfl
  have F___init__ := fun_mk (st := sInit) l___init__ c___init__ k___init__
  have b___init__ := F___init__.binds (ps := ["self", "some", "letters"]) fun _ _ _ _ _ _ us hl => match us, hl with | [_, _, _], _ => rfl
  have F_steps := fun_mk (st := sSteps) l_steps c_steps k_steps
  have b_steps := F_steps.binds (ps := ["self", "state"]) fun _ _ _ _ _ _ us hl => match us, hl with | [_, _], _ => rfl
  have F_reachable := fun_mk (st := sReach) l_reachable c_reachable k_reachable
  have b_reachable := F_reachable.binds (ps := ["self"]) fun _ _ _ _ _ _ us hl => match us, hl with | [_], _ => rfl
  have F_recognizer := fun_mk (st := sRecog) l_recognizer c_recognizer k_recognizer
  have b_recognizer := F_recognizer.binds (ps := ["pattern", "letters", "longest"]) fun _ _ _ _ _ _ us hl => match us, hl with | [_, _, _], _ => rfl
  have F_count_open := fun_mk (st := sCount) l_count_open c_count_open k_count_open
  have b_count_open := F_count_open.binds (ps := ["pattern", "letters", "longest", "length"]) fun _ _ _ _ _ _ us hl => match us, hl with | [_, _, _, _], _ => rfl
  have F_heights := fun_mk (st := sHeights) l_heights c_heights k_heights
  have b_heights := F_heights.binds (ps := ["machine"]) fun _ _ _ _ _ _ us hl => match us, hl with | [_], _ => rfl
  have F_endless := fun_mk (st := sEndless) l_endless c_endless k_endless
  have b_endless := F_endless.binds (ps := ["machine", "known"]) fun _ _ _ _ _ _ us hl => match us, hl with | [_, _], _ => rfl
  have F_longest_open := fun_mk (st := sLongest) l_longest_open c_longest_open k_longest_open
  have b_longest_open := F_longest_open.binds (ps := ["pattern", "letters", "longest"]) fun _ _ _ _ _ _ us hl => match us, hl with | [_, _, _], _ => rfl
  have F__law_pen := fun_mk (st := sLPen) l__law_pen c__law_pen k__law_pen
  have b__law_pen := F__law_pen.binds (ps := ["_law_script"]) fun _ _ _ _ _ _ us hl => match us, hl with | [_], _ => rfl
  have F__law_draw := fun_mk (st := sLDraw) l__law_draw c__law_draw k__law_draw
  have b__law_draw := F__law_draw.binds (ps := ["_law_pen_here", "_law_many"]) fun _ _ _ _ _ _ us hl => match us, hl with | [_, _], _ => rfl
  have F__law_pick := fun_mk (st := sLPick) l__law_pick c__law_pick k__law_pick
  have b__law_pick := F__law_pick.binds (ps := ["_law_pen_here", "_law_choices"]) fun _ _ _ _ _ _ us hl => match us, hl with | [_, _], _ => rfl
  have F__law_shuffled := fun_mk (st := sLShuf) l__law_shuffled c__law_shuffled k__law_shuffled
  have b__law_shuffled := F__law_shuffled.binds (ps := ["_law_pen_here", "_law_values"]) fun _ _ _ _ _ _ us hl => match us, hl with | [_, _], _ => rfl
  have F__law_pattern := fun_mk (st := sLPat) l__law_pattern c__law_pattern k__law_pattern
  have b__law_pattern := F__law_pattern.binds (ps := ["_law_pen_here", "_law_most", "_law_many"]) fun _ _ _ _ _ _ us hl => match us, hl with | [_, _, _], _ => rfl
  have F__law_short := fun_mk (st := sLShort) l__law_short c__law_short k__law_short
  have b__law_short := F__law_short.binds (ps := ["_law_letters", "_law_longest"]) fun _ _ _ _ _ _ us hl => match us, hl with | [_, _], _ => rfl
  have F__law_size := fun_mk (st := sLSize) l__law_size c__law_size k__law_size
  have b__law_size := F__law_size.binds (ps := ["_law_pattern_here", "_law_letters", "_law_longest"]) fun _ _ _ _ _ _ us hl => match us, hl with | [_, _, _], _ => rfl
  have F__law_ways := fun_mk (st := sLWays) l__law_ways c__law_ways k__law_ways
  have b__law_ways := F__law_ways.binds (ps := ["_law_letters", "_law_length"]) fun _ _ _ _ _ _ us hl => match us, hl with | [_, _], _ => rfl
  have F__law_bounds := fun_mk (st := sLBounds) l__law_bounds c__law_bounds k__law_bounds
  have b__law_bounds := F__law_bounds.binds (ps := ["_law_pen_here", "_law_limit"]) fun _ _ _ _ _ _ us hl => match us, hl with | [_, _], _ => rfl
  refine ⟨PySem.W.fnOf "law" "law" (defArgs sLaw) (defBody sLaw) (defScope sLaw) .none kV_law dc_law pm_law an_law cd_law ct_law, fun s v => .of_eq rfl, fun base _ _ => ?_⟩
  have M_is_integer : FnOk l.prog w K mg base CX0 1 f_is_integer _ ["value"] spIsInt := ok_isInt F_is_integer N
  have A_is_integer : At l.prog w K mg base "is_integer" 1 ["value"] spIsInt := ⟨_, _, M_is_integer, PySem.W.mg_of X G a_is_integer, k_is_integer, b_is_integer⟩
  have M_is_between : FnOk l.prog w K mg base CX0 2 f_is_between _ ["value", "low", "high"] spBetween := ok_between F_is_between A_is_integer.ok A_is_integer.m A_is_integer.kp A_is_integer.b
  have A_is_between : At l.prog w K mg base "is_between" 2 ["value", "low", "high"] spBetween := ⟨_, _, M_is_between, PySem.W.mg_of X G a_is_between, k_is_between, b_is_between⟩
  have M_are_variables : FnOk l.prog w K mg base CX0 1 f_are_variables _ ["value"] spVars := ok_vars F_are_variables N
  have A_are_variables : At l.prog w K mg base "are_variables" 1 ["value"] spVars := ⟨_, _, M_are_variables, PySem.W.mg_of X G a_are_variables, k_are_variables, b_are_variables⟩
  have M_distinct : FnOk l.prog w K mg base CX0 1 f_distinct _ ["pattern"] spDistinct := ok_distinct F_distinct N
  have A_distinct : At l.prog w K mg base "distinct" 1 ["pattern"] spDistinct := ⟨_, _, M_distinct, PySem.W.mg_of X G a_distinct, k_distinct, b_distinct⟩
  have M_fits_pattern : FnOk l.prog w K mg base CX0 2 f_fits_pattern _ ["value"] spFits := ok_fits F_fits_pattern N A_are_variables A_distinct
  have A_fits_pattern : At l.prog w K mg base "fits_pattern" 2 ["value"] spFits := ⟨_, _, M_fits_pattern, PySem.W.mg_of X G a_fits_pattern, k_fits_pattern, b_fits_pattern⟩
  have M_need_pattern : FnOk l.prog w K mg base CX0 3 f_need_pattern _ ["value"] spNeedP := ok_needP F_need_pattern A_fits_pattern
  have A_need_pattern : At l.prog w K mg base "need_pattern" 3 ["value"] spNeedP := ⟨_, _, M_need_pattern, PySem.W.mg_of X G a_need_pattern, k_need_pattern, b_need_pattern⟩
  have M_need_count : FnOk l.prog w K mg base CX0 3 f_need_count _ ["value", "low", "high"] spNeedC := ok_needC F_need_count A_is_between
  have A_need_count : At l.prog w K mg base "need_count" 3 ["value", "low", "high"] spNeedC := ⟨_, _, M_need_count, PySem.W.mg_of X G a_need_count, k_need_count, b_need_count⟩
  have M_normal : FnOk l.prog w K mg base CX0 4 f_normal _ ["pattern"] spNormal := ok_normal F_normal N A_need_pattern A_distinct
  have A_normal : At l.prog w K mg base "normal" 4 ["pattern"] spNormal := ⟨_, _, M_normal, PySem.W.mg_of X G a_normal, k_normal, b_normal⟩
  have M_filled : FnOk l.prog w K mg base CX0 1 f_filled _ ["pattern", "values"] (spFilled K) := ok_filled F_filled N
  have A_filled : At l.prog w K mg base "filled" 1 ["pattern", "values"] (spFilled K) := ⟨_, _, M_filled, PySem.W.mg_of X G a_filled, k_filled, b_filled⟩
  have M_need_bounds : FnOk l.prog w K mg base CX0 4 f_need_bounds _ ["pattern", "letters", "longest"] spNeedB := ok_needB F_need_bounds N A_need_pattern A_need_count
  have A_need_bounds : At l.prog w K mg base "need_bounds" 4 ["pattern", "letters", "longest"] spNeedB := ⟨_, _, M_need_bounds, PySem.W.mg_of X G a_need_bounds, k_need_bounds, b_need_bounds⟩
  have M_short_texts : FnOk l.prog w K mg base CX0 1 f_short_texts _ ["letters", "longest"] (spShort K) := ok_short F_short_texts N
  have A_short_texts : At l.prog w K mg base "short_texts" 1 ["letters", "longest"] (spShort K) := ⟨_, _, M_short_texts, PySem.W.mg_of X G a_short_texts, k_short_texts, b_short_texts⟩
  have M_need_size : FnOk l.prog w K mg base CX0 2 f_need_size _ ["pattern", "letters", "longest"] spNeedS := ok_needS F_need_size N A_short_texts A_distinct
  have A_need_size : At l.prog w K mg base "need_size" 2 ["pattern", "letters", "longest"] spNeedS := ⟨_, _, M_need_size, PySem.W.mg_of X G a_need_size, k_need_size, b_need_size⟩
  have M_blocked : FnOk l.prog w K mg base CX0 2 f_blocked _ ["pattern", "letters", "longest"] (spBlocked K) := ok_blocked F_blocked N A_short_texts A_distinct A_filled
  have A_blocked : At l.prog w K mg base "blocked" 2 ["pattern", "letters", "longest"] (spBlocked K) := ⟨_, _, M_blocked, PySem.W.mg_of X G a_blocked, k_blocked, b_blocked⟩
  have M_put : FnOk l.prog w K mg base CX0 1 f_put _ ["self", "text"] (spPut K C) := ok_put F_put N T
  have A_put : Mt l.prog w K mg base C "put" 1 ["self", "text"] (spPut K C) := ⟨_, _, M_put, ⟨a_put, i_put, k_put⟩, b_put⟩
  have M_connect : FnOk l.prog w K mg base CX0 1 f_connect _ ["self"] (spConnect K C) := ok_connect F_connect N T
  have A_connect : Mt l.prog w K mg base C "connect" 1 ["self"] (spConnect K C) := ⟨_, _, M_connect, ⟨a_connect, i_connect, k_connect⟩, b_connect⟩
  have M___init__ : FnOk l.prog w K mg base CX0 2 f___init__ _ ["self", "some", "letters"] (spInit K C) := ok_init F___init__ N T A_put A_connect
  have A___init__ : Mt l.prog w K mg base C "__init__" 2 ["self", "some", "letters"] (spInit K C) := ⟨_, _, M___init__, ⟨a___init__, i___init__, k___init__⟩, b___init__⟩
  have M_steps : FnOk l.prog w K mg base CX0 1 f_steps _ ["self", "state"] (spSteps K C) := ok_steps F_steps N T
  have A_steps : Mt l.prog w K mg base C "steps" 1 ["self", "state"] (spSteps K C) := ⟨_, _, M_steps, ⟨a_steps, i_steps, k_steps⟩, b_steps⟩
  have M_reachable : FnOk l.prog w K mg base CX0 2 f_reachable _ ["self"] (spReach K C) := ok_reach F_reachable N T A_steps
  have A_reachable : Mt l.prog w K mg base C "reachable" 2 ["self"] (spReach K C) := ⟨_, _, M_reachable, ⟨a_reachable, i_reachable, k_reachable⟩, b_reachable⟩
  have M_recognizer : FnOk l.prog w K mg base CX0 4 f_recognizer _ ["pattern", "letters", "longest"] (spRecog K C) := ok_recog F_recognizer N T ⟨mk, a___init__, i___init__, kc⟩ M___init__ b___init__ A_need_size A_blocked
  have A_recognizer : At l.prog w K mg base "recognizer" 4 ["pattern", "letters", "longest"] (spRecog K C) := ⟨_, _, M_recognizer, PySem.W.mg_of X G a_recognizer, k_recognizer, b_recognizer⟩
  have M_count_open : FnOk l.prog w K mg base CX0 5 f_count_open _ ["pattern", "letters", "longest", "length"] (spCount K) := ok_count F_count_open N T A_need_bounds A_need_count A_recognizer A_steps
  have A_count_open : At l.prog w K mg base "count_open" 5 ["pattern", "letters", "longest", "length"] (spCount K) := ⟨_, _, M_count_open, PySem.W.mg_of X G a_count_open, k_count_open, b_count_open⟩
  have M_heights : FnOk l.prog w K mg base CX0 3 f_heights _ ["machine"] (spHeights K C) := ok_heights F_heights N T A_reachable A_steps
  have A_heights : At l.prog w K mg base "heights" 3 ["machine"] (spHeights K C) := ⟨_, _, M_heights, PySem.W.mg_of X G a_heights, k_heights, b_heights⟩
  have M_endless : FnOk l.prog w K mg base CX0 2 f_endless _ ["machine", "known"] (spEndless K C) := ok_endless F_endless N T A_steps
  have A_endless : At l.prog w K mg base "endless" 2 ["machine", "known"] (spEndless K C) := ⟨_, _, M_endless, PySem.W.mg_of X G a_endless, k_endless, b_endless⟩
  have M_longest_open : FnOk l.prog w K mg base CX0 5 f_longest_open _ ["pattern", "letters", "longest"] (spLongest K) := ok_longest F_longest_open N T A_need_bounds A_recognizer A_heights A_endless A_steps
  have A_longest_open : At l.prog w K mg base "longest_open" 5 ["pattern", "letters", "longest"] (spLongest K) := ⟨_, _, M_longest_open, PySem.W.mg_of X G a_longest_open, k_longest_open, b_longest_open⟩
  have M__law_pen : FnOk l.prog w K mg base CX0 1 f__law_pen _ ["_law_script"] (spLPen K) := ok_lpen F__law_pen N
  have A__law_pen : At l.prog w K mg base "_law_pen" 1 ["_law_script"] (spLPen K) := ⟨_, _, M__law_pen, PySem.W.mg_of X G a__law_pen, k__law_pen, b__law_pen⟩
  have M__law_draw : FnOk l.prog w K mg base CX0 1 f__law_draw _ ["_law_pen_here", "_law_many"] spLDraw := ok_ldraw F__law_draw N
  have A__law_draw : At l.prog w K mg base "_law_draw" 1 ["_law_pen_here", "_law_many"] spLDraw := ⟨_, _, M__law_draw, PySem.W.mg_of X G a__law_draw, k__law_draw, b__law_draw⟩
  have M__law_pick : FnOk l.prog w K mg base CX0 2 f__law_pick _ ["_law_pen_here", "_law_choices"] spLPick := ok_lpick F__law_pick N A__law_draw
  have A__law_pick : At l.prog w K mg base "_law_pick" 2 ["_law_pen_here", "_law_choices"] spLPick := ⟨_, _, M__law_pick, PySem.W.mg_of X G a__law_pick, k__law_pick, b__law_pick⟩
  have M__law_shuffled : FnOk l.prog w K mg base CX0 2 f__law_shuffled _ ["_law_pen_here", "_law_values"] spLShuf := ok_lshuf F__law_shuffled N A__law_draw
  have A__law_shuffled : At l.prog w K mg base "_law_shuffled" 2 ["_law_pen_here", "_law_values"] spLShuf := ⟨_, _, M__law_shuffled, PySem.W.mg_of X G a__law_shuffled, k__law_shuffled, b__law_shuffled⟩
  have M__law_pattern : FnOk l.prog w K mg base CX0 3 f__law_pattern _ ["_law_pen_here", "_law_most", "_law_many"] spLPat := ok_lpat F__law_pattern N A__law_draw A__law_shuffled A__law_pick
  have A__law_pattern : At l.prog w K mg base "_law_pattern" 3 ["_law_pen_here", "_law_most", "_law_many"] spLPat := ⟨_, _, M__law_pattern, PySem.W.mg_of X G a__law_pattern, k__law_pattern, b__law_pattern⟩
  have M__law_short : FnOk l.prog w K mg base CX0 1 f__law_short _ ["_law_letters", "_law_longest"] spLShort := ok_lshort F__law_short N
  have A__law_short : At l.prog w K mg base "_law_short" 1 ["_law_letters", "_law_longest"] spLShort := ⟨_, _, M__law_short, PySem.W.mg_of X G a__law_short, k__law_short, b__law_short⟩
  have M__law_size : FnOk l.prog w K mg base CX0 2 f__law_size _ ["_law_pattern_here", "_law_letters", "_law_longest"] spLSize := ok_lsize F__law_size N A__law_short
  have A__law_size : At l.prog w K mg base "_law_size" 2 ["_law_pattern_here", "_law_letters", "_law_longest"] spLSize := ⟨_, _, M__law_size, PySem.W.mg_of X G a__law_size, k__law_size, b__law_size⟩
  have M__law_ways : FnOk l.prog w K mg base CX0 1 f__law_ways _ ["_law_letters", "_law_length"] spLWays := ok_lways F__law_ways N
  have A__law_ways : At l.prog w K mg base "_law_ways" 1 ["_law_letters", "_law_length"] spLWays := ⟨_, _, M__law_ways, PySem.W.mg_of X G a__law_ways, k__law_ways, b__law_ways⟩
  have M__law_bounds : FnOk l.prog w K mg base CX0 4 f__law_bounds _ ["_law_pen_here", "_law_limit"] spLBounds := ok_lbounds F__law_bounds N A__law_pattern A__law_draw A__law_size A__law_ways
  have A__law_bounds : At l.prog w K mg base "_law_bounds" 4 ["_law_pen_here", "_law_limit"] spLBounds := ⟨_, _, M__law_bounds, PySem.W.mg_of X G a__law_bounds, k__law_bounds, b__law_bounds⟩
  exact ok_law (fun_mk (st := sLaw) l_law c_law k_law) N A__law_pen A__law_bounds A__law_draw A_normal A_count_open A_longest_open
theorem walk {l : PySem.W.OpenLaw} {q : Program} {loose : List Str} {XP : (Str → Option Value) → Heap → Prop} {YP : World → Heap → Prop} {d : DefRec} {K : Params → PySem.W.Frag} (hn : l.most = some 63) (hdf : d.params.defaults = [])
    (hY : ∀ (w : World) (h : Heap), YP w h → (K w.params).In h)
    (F : ∀ (w : World) (mg : Str → Option Value) (fa : Addr) (h : Heap), (K w.params).In h → h.Ns mainGlobals mg → mg d.name = some (.ref fa) →
      ∃ fd : FuncData, (∀ (s : Shared) (u : Value), BindsTo s fd ⟨[u], []⟩ [("_law_script", u)]) ∧ ∀ base : Heap, (K w.params).In base → base.Ns mainGlobals mg → FnOk l.prog w (K w.params) mg base CX0 6 fa fd ["_law_script"] (spLaw (K w.params))) :
    PySem.W.WalkO q loose XP YP l.row.toRowW d [] (fun f vs => PySem.call f vs) :=
  L2.walk_of (n := 63) (k := 6) (x := "_law_script") (CX := fun _ => CX0) (sp := fun w => spLaw (K w.params)) hn (by decide) hdf ⟨rfl, by decide, by decide⟩ hY F (fun _ _ a ns hl _ hS => ⟨a, ns, rfl, hS, hl, fun _ => rfl⟩) fun _ _ _ _ _ z => z
end K61

open PySem PySem.W PyProof.Rows in
set_option maxRecDepth 100000 in
set_option maxHeartbeats 0 in
theorem PySem.Challenge.cw_mustoccur_k61_whole_counts_of_open_texts_holds : PySem.Challenge.rw_mustoccur_k61_whole_counts_of_open_texts.Holds := by
  w_on; o_law; k_head; (case hw => w_witness2)
  k_fill
  refine K61.walk (l := PySem.Challenge.rw_mustoccur_k61_whole_counts_of_open_texts) rfl rfl (fun w h Y => PySem.W.kIn_of Y) ?F
  case F =>
    intro w mg fa h KX G hmg
    refine' K61.all_mk KX G hmg ?aC ?pg ?hd ?po ?sa ?mk ?kc ?n_letters ?n_children ?n_stops ?n_fallback ?n_moves ?z_isinstance ?z_int ?z_bool ?z_str ?z_all ?z_enumerate ?z_len ?z_tuple ?z_range ?z_sorted ?z_dict ?z_zip ?z_sum ?z_max ?z_min ?z_list ?z_abs ?z_set ?c_alpha ?c_mPat ?c_mVar ?c_mLet ?c_mLon ?c_mSiz ?c_mLen ?a_is_integer ?l_is_integer ?c_is_integer ?k_is_integer ?a_is_between ?l_is_between ?c_is_between ?k_is_between ?a_are_variables ?l_are_variables ?c_are_variables ?k_are_variables ?a_distinct ?l_distinct ?c_distinct ?k_distinct ?a_fits_pattern ?l_fits_pattern ?c_fits_pattern ?k_fits_pattern ?a_need_pattern ?l_need_pattern ?c_need_pattern ?k_need_pattern ?a_need_count ?l_need_count ?c_need_count ?k_need_count ?a_normal ?l_normal ?c_normal ?k_normal ?a_filled ?l_filled ?c_filled ?k_filled ?a_need_bounds ?l_need_bounds ?c_need_bounds ?k_need_bounds ?a_short_texts ?l_short_texts ?c_short_texts ?k_short_texts ?a_need_size ?l_need_size ?c_need_size ?k_need_size ?a_blocked ?l_blocked ?c_blocked ?k_blocked ?a_put ?i_put ?l_put ?c_put ?k_put ?a_connect ?i_connect ?l_connect ?c_connect ?k_connect ?a___init__ ?i___init__ ?l___init__ ?c___init__ ?k___init__ ?a_steps ?i_steps ?l_steps ?c_steps ?k_steps ?a_reachable ?i_reachable ?l_reachable ?c_reachable ?k_reachable ?a_recognizer ?l_recognizer ?c_recognizer ?k_recognizer ?a_count_open ?l_count_open ?c_count_open ?k_count_open ?a_heights ?l_heights ?c_heights ?k_heights ?a_endless ?l_endless ?c_endless ?k_endless ?a_longest_open ?l_longest_open ?c_longest_open ?k_longest_open ?a__law_pen ?l__law_pen ?c__law_pen ?k__law_pen ?a__law_draw ?l__law_draw ?c__law_draw ?k__law_draw ?a__law_pick ?l__law_pick ?c__law_pick ?k__law_pick ?a__law_shuffled ?l__law_shuffled ?c__law_shuffled ?k__law_shuffled ?a__law_pattern ?l__law_pattern ?c__law_pattern ?k__law_pattern ?a__law_short ?l__law_short ?c__law_short ?k__law_short ?a__law_size ?l__law_size ?c__law_size ?k__law_size ?a__law_ways ?l__law_ways ?c__law_ways ?k__law_ways ?a__law_bounds ?l__law_bounds ?c__law_bounds ?k__law_bounds ?a_law ?l_law ?c_law ?k_law
    (case aC => k_is)
    (case pg => k_is)
    (case hd => k_is)
    (case po => k_is)
    (case sa => k_is)
    (case mk => k_is)
    (case kc => k_is)
    (case n_letters => k_is)
    (case n_children => k_is)
    (case n_stops => k_is)
    (case n_fallback => k_is)
    (case n_moves => k_is)
    (case z_isinstance => k_is)
    (case z_int => k_is)
    (case z_bool => k_is)
    (case z_str => k_is)
    (case z_all => k_is)
    (case z_enumerate => k_is)
    (case z_len => k_is)
    (case z_tuple => k_is)
    (case z_range => k_is)
    (case z_sorted => k_is)
    (case z_dict => k_is)
    (case z_zip => k_is)
    (case z_sum => k_is)
    (case z_max => k_is)
    (case z_min => k_is)
    (case z_list => k_is)
    (case z_abs => k_is)
    (case z_set => k_is)
    (case c_alpha => k_is)
    (case c_mPat => k_is)
    (case c_mVar => k_is)
    (case c_mLet => k_is)
    (case c_mLon => k_is)
    (case c_mSiz => k_is)
    (case c_mLen => k_is)
    (case a_is_integer => k_is)
    (case l_is_integer => k_is)
    (case c_is_integer => k_is)
    (case k_is_integer => k_is)
    (case a_is_between => k_is)
    (case l_is_between => k_is)
    (case c_is_between => k_is)
    (case k_is_between => k_is)
    (case a_are_variables => k_is)
    (case l_are_variables => k_is)
    (case c_are_variables => k_is)
    (case k_are_variables => k_is)
    (case a_distinct => k_is)
    (case l_distinct => k_is)
    (case c_distinct => k_is)
    (case k_distinct => k_is)
    (case a_fits_pattern => k_is)
    (case l_fits_pattern => k_is)
    (case c_fits_pattern => k_is)
    (case k_fits_pattern => k_is)
    (case a_need_pattern => k_is)
    (case l_need_pattern => k_is)
    (case c_need_pattern => k_is)
    (case k_need_pattern => k_is)
    (case a_need_count => k_is)
    (case l_need_count => k_is)
    (case c_need_count => k_is)
    (case k_need_count => k_is)
    (case a_normal => k_is)
    (case l_normal => k_is)
    (case c_normal => k_is)
    (case k_normal => k_is)
    (case a_filled => k_is)
    (case l_filled => k_is)
    (case c_filled => k_is)
    (case k_filled => k_is)
    (case a_need_bounds => k_is)
    (case l_need_bounds => k_is)
    (case c_need_bounds => k_is)
    (case k_need_bounds => k_is)
    (case a_short_texts => k_is)
    (case l_short_texts => k_is)
    (case c_short_texts => k_is)
    (case k_short_texts => k_is)
    (case a_need_size => k_is)
    (case l_need_size => k_is)
    (case c_need_size => k_is)
    (case k_need_size => k_is)
    (case a_blocked => k_is)
    (case l_blocked => k_is)
    (case c_blocked => k_is)
    (case k_blocked => k_is)
    (case a_put => k_is)
    (case i_put => k_is)
    (case l_put => k_is)
    (case c_put => k_is)
    (case k_put => k_is)
    (case a_connect => k_is)
    (case i_connect => k_is)
    (case l_connect => k_is)
    (case c_connect => k_is)
    (case k_connect => k_is)
    (case a___init__ => k_is)
    (case i___init__ => k_is)
    (case l___init__ => k_is)
    (case c___init__ => k_is)
    (case k___init__ => k_is)
    (case a_steps => k_is)
    (case i_steps => k_is)
    (case l_steps => k_is)
    (case c_steps => k_is)
    (case k_steps => k_is)
    (case a_reachable => k_is)
    (case i_reachable => k_is)
    (case l_reachable => k_is)
    (case c_reachable => k_is)
    (case k_reachable => k_is)
    (case a_recognizer => k_is)
    (case l_recognizer => k_is)
    (case c_recognizer => k_is)
    (case k_recognizer => k_is)
    (case a_count_open => k_is)
    (case l_count_open => k_is)
    (case c_count_open => k_is)
    (case k_count_open => k_is)
    (case a_heights => k_is)
    (case l_heights => k_is)
    (case c_heights => k_is)
    (case k_heights => k_is)
    (case a_endless => k_is)
    (case l_endless => k_is)
    (case c_endless => k_is)
    (case k_endless => k_is)
    (case a_longest_open => k_is)
    (case l_longest_open => k_is)
    (case c_longest_open => k_is)
    (case k_longest_open => k_is)
    (case a__law_pen => k_is)
    (case l__law_pen => k_is)
    (case c__law_pen => k_is)
    (case k__law_pen => k_is)
    (case a__law_draw => k_is)
    (case l__law_draw => k_is)
    (case c__law_draw => k_is)
    (case k__law_draw => k_is)
    (case a__law_pick => k_is)
    (case l__law_pick => k_is)
    (case c__law_pick => k_is)
    (case k__law_pick => k_is)
    (case a__law_shuffled => k_is)
    (case l__law_shuffled => k_is)
    (case c__law_shuffled => k_is)
    (case k__law_shuffled => k_is)
    (case a__law_pattern => k_is)
    (case l__law_pattern => k_is)
    (case c__law_pattern => k_is)
    (case k__law_pattern => k_is)
    (case a__law_short => k_is)
    (case l__law_short => k_is)
    (case c__law_short => k_is)
    (case k__law_short => k_is)
    (case a__law_size => k_is)
    (case l__law_size => k_is)
    (case c__law_size => k_is)
    (case k__law_size => k_is)
    (case a__law_ways => k_is)
    (case l__law_ways => k_is)
    (case c__law_ways => k_is)
    (case k__law_ways => k_is)
    (case a__law_bounds => k_is)
    (case l__law_bounds => k_is)
    (case c__law_bounds => k_is)
    (case k__law_bounds => k_is)
    (case a_law => k_is)
    (case l_law => k_is)
    (case c_law => k_is)
    (case k_law => k_is)


#print axioms PySem.Challenge.cw_mustoccur_k61_whole_counts_of_open_texts_holds
