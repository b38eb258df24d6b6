import PyProof.Rows.All
import Wide.All
import OpenK.AllK
import Wide.FinOn
import KE.KStateDown
import KE.KDictDisplayH
import KE.KDictKeyed
import HandS.ForMost
import HandS.Defaults
import HandS.MakeKw
import HandS.MakeKwOnly
import HandS.TupSets
import HandS.DictTup
import HandS.SetKeys
import HandS.TupAny
import HandS.TupLen
import HandS.IsInst
import HandS.CallLocal
import HandS.CallRecv
import HandS.NoneIn
import HandS.Conv
import HandS.Wide
import HandS.Zip
import HandS.Steps
import HandS.OwnIter
import HandS.IterVal
import HandS.SortInts
import HandS.WordsExc
import HandS.Head0
import HandS.Head1
import HandS.Head2
import HandS.HeadEnd
import HandS.HeadHook1
import HandS.HeadHook2
import KE.GoesMore
import HandS.Evl
import PySem.Challenge.RW_huestrips_k90_whole_middle_rows
set_option Elab.async false
set_option linter.all false
set_option maxRecDepth 100000
/-! Plain mathematics: sums over lists, labels by first meeting, the growth lemma. -/
namespace Hue

/-! ### sums over lists -/
def S {α : Type} (l : List α) (f : α → Int) : Int := (l.map f).sum

theorem S_nil {α : Type} (f : α → Int) : S [] f = 0 := rfl
theorem S_cons {α : Type} (a : α) (l : List α) (f : α → Int) : S (a :: l) f = f a + S l f := by
  simp [S]
theorem S_append {α : Type} (l m : List α) (f : α → Int) : S (l ++ m) f = S l f + S m f := by
  simp [S]
theorem S_single {α : Type} (a : α) (f : α → Int) : S [a] f = f a := by
  simp [S]
theorem S_map {α β : Type} (g : α → β) (l : List α) (f : β → Int) : S (l.map g) f = S l (fun a => f (g a)) := by
  simp [S, List.map_map, Function.comp_def]
theorem S_congr {α : Type} {l : List α} {f g : α → Int} (h : ∀ a ∈ l, f a = g a) : S l f = S l g := by
  unfold S; rw [List.map_congr_left h]
theorem S_zero {α : Type} (l : List α) : S l (fun _ => 0) = 0 := by
  induction l with
  | nil => rfl
  | cons a l ih => rw [S_cons, ih]; rfl
theorem S_add {α : Type} (l : List α) (f g : α → Int) : S l (fun a => f a + g a) = S l f + S l g := by
  induction l with
  | nil => rfl
  | cons a l ih => rw [S_cons, S_cons, S_cons, ih]; omega
theorem S_mul {α : Type} (l : List α) (c : Int) (f : α → Int) : S l (fun a => c * f a) = c * S l f := by
  induction l with
  | nil => simp [S]
  | cons a l ih => rw [S_cons, S_cons, ih, Int.mul_add]
theorem S_mul_right {α : Type} (l : List α) (c : Int) (f : α → Int) : S l (fun a => f a * c) = S l f * c := by
  induction l with
  | nil => simp [S]
  | cons a l ih => rw [S_cons, S_cons, ih, Int.add_mul]
theorem S_flatMap {α β : Type} (l : List α) (g : α → List β) (f : β → Int) : S (l.flatMap g) f = S l (fun a => S (g a) f) := by
  induction l with
  | nil => rfl
  | cons a l ih => rw [List.flatMap_cons, S_append, S_cons, ih]
theorem S_swap {α β : Type} (l : List α) (m : List β) (f : α → β → Int) : S l (fun a => S m (fun b => f a b)) = S m (fun b => S l (fun a => f a b)) := by
  induction l with
  | nil => rw [S_nil]; exact (S_zero m).symm
  | cons a l ih =>
    rw [S_cons, ih, ← S_add]
    exact S_congr fun b _ => (S_cons a l fun a => f a b).symm
theorem S_filter {α : Type} (l : List α) (p : α → Bool) (f : α → Int) : S (l.filter p) f = S l (fun a => if p a = true then f a else 0) := by
  induction l with
  | nil => rfl
  | cons a l ih =>
    rw [List.filter_cons, S_cons, ← ih]
    cases h : p a with
    | true => simp [S_cons]
    | false => simp
theorem S_filterMap {α β : Type} (l : List α) (p : α → Option β) (f : β → Int) : S (l.filterMap p) f = S l (fun a => match p a with | some b => f b | none => 0) := by
  induction l with
  | nil => rfl
  | cons a l ih =>
    rw [S_cons, ← ih, List.filterMap_cons]
    cases h : p a with
    | some b => simp [S_cons]
    | none => simp
theorem S_perm {α : Type} {l m : List α} (h : l.Perm m) (f : α → Int) : S l f = S m f := by
  induction h with
  | nil => rfl
  | cons a _ ih => rw [S_cons, S_cons, ih]
  | swap a b l => rw [S_cons, S_cons, S_cons, S_cons]; omega
  | trans _ _ ih1 ih2 => rw [ih1, ih2]
/-- picking one item out of a list without repeats -/
theorem S_pick {α : Type} [DecidableEq α] {l : List α} (hn : l.Nodup) {a : α} (ha : a ∈ l) (f : α → Int) : S l (fun b => if a = b then f b else 0) = f a := by
  induction l with
  | nil => cases ha
  | cons b l ih =>
    rw [S_cons]
    have hb := List.nodup_cons.mp hn
    by_cases e : a = b
    · subst e
      rw [if_pos rfl]
      have : S l (fun b => if a = b then f b else 0) = 0 :=
        Eq.trans (S_congr fun c hc => if_neg fun (q : a = c) => hb.1 (q ▸ hc)) (S_zero l)
      omega
    · rw [if_neg e, ih hb.2 (by rcases List.mem_cons.mp ha with q | q; exact absurd q e; exact q)]
      omega
theorem S_pick_none {α : Type} [DecidableEq α] {l : List α} {a : α} (ha : a ∉ l) (f : α → Int) : S l (fun b => if a = b then f b else 0) = 0 :=
  Eq.trans (S_congr fun c hc => if_neg fun (q : a = c) => ha (q ▸ hc)) (S_zero l)
/-- one place of a sum -/
theorem S_pick' {α : Type} [DecidableEq α] {l : List α} (hn : l.Nodup) {a : α} (ha : a ∈ l) (c : Int) : S l (fun b => if b = a then c else 0) = c := by
  have h := S_pick hn ha (fun _ => c)
  refine Eq.trans (S_congr fun b _ => ?_) h
  by_cases e : b = a
  · rw [if_pos e, if_pos e.symm]
  · rw [if_neg e, if_neg (fun q => e q.symm)]

/-! ### labels by first meeting -/
/-- the label of a hue, with the hues E met so far -/
def lbl (E : List Nat) (h : Nat) : Nat := if h ∈ E then E.idxOf h else E.length
def more (E : List Nat) (h : Nat) : List Nat := if h ∈ E then E else E ++ [h]
def lab (E : List Nat) : List Nat → List Nat
  | [] => []
  | h :: c => lbl E h :: lab (more E h) c
def env (E : List Nat) : List Nat → List Nat
  | [] => E
  | h :: c => env (more E h) c

theorem lab_length : ∀ (c E : List Nat), (lab E c).length = c.length
  | [], _ => rfl
  | h :: c, E => by simp [lab, lab_length c]
theorem lab_append : ∀ (c d E : List Nat), lab E (c ++ d) = lab E c ++ lab (env E c) d
  | [], _, _ => rfl
  | h :: c, d, E => by simp [lab, env, lab_append c d]
theorem env_append : ∀ (c d E : List Nat), env E (c ++ d) = env (env E c) d
  | [], _, _ => rfl
  | h :: c, d, E => by simp [env, env_append c d]
theorem lab_snoc (c E : List Nat) (h : Nat) : lab E (c ++ [h]) = lab E c ++ [lbl (env E c) h] := by
  rw [lab_append]; rfl
theorem env_snoc (c E : List Nat) (h : Nat) : env E (c ++ [h]) = more (env E c) h := by
  rw [env_append]; rfl
theorem mem_more {E : List Nat} {h x : Nat} : x ∈ more E h ↔ x ∈ E ∨ x = h := by
  unfold more
  split
  · rename_i hh
    constructor
    · exact .inl
    · rintro (q | q)
      · exact q
      · exact q ▸ hh
  · simp
theorem mem_env : ∀ {c E : List Nat} {x : Nat}, x ∈ env E c ↔ x ∈ E ∨ x ∈ c
  | [], E, x => by simp [env]
  | h :: c, E, x => by
    unfold env
    rw [mem_env (c := c), mem_more, List.mem_cons, or_assoc]
theorem nodup_more {E : List Nat} {h : Nat} (hn : E.Nodup) : (more E h).Nodup := by
  unfold more
  split
  · exact hn
  · rename_i q
    rw [List.nodup_append]
    refine ⟨hn, by simp, fun a ha b hb => ?_⟩
    rw [List.mem_singleton] at hb
    intro e
    exact q (hb ▸ e ▸ ha)
theorem nodup_env : ∀ {c E : List Nat}, E.Nodup → (env E c).Nodup
  | [], _, h => h
  | _ :: c, _, h => nodup_env (c := c) (nodup_more h)
theorem more_prefix (E : List Nat) (h : Nat) : E <+: more E h := by
  unfold more
  split
  · exact List.prefix_refl E
  · exact List.prefix_append E [h]
theorem env_prefix : ∀ (c E : List Nat), E <+: env E c
  | [], E => List.prefix_refl E
  | h :: c, E => (more_prefix E h).trans (env_prefix c (more E h))
theorem idxOf_prefix {E F : List Nat} (h : E <+: F) {x : Nat} (hx : x ∈ E) : F.idxOf x = E.idxOf x := by
  obtain ⟨r, rfl⟩ := h
  rw [List.idxOf_append, if_pos hx]
theorem lbl_eq (E : List Nat) (h : Nat) : lbl E h = (more E h).idxOf h := by
  unfold lbl more
  split
  · rfl
  · rename_i q
    rw [List.idxOf_append, if_neg q]
    simp
/-- every label is the hue's place among all that are met -/
theorem lab_idx : ∀ (c E : List Nat), lab E c = c.map (env E c).idxOf
  | [], _ => rfl
  | h :: c, E => by
    have ih := lab_idx c (more E h)
    show lbl E h :: lab (more E h) c = (env (more E h) c).idxOf h :: c.map (env (more E h) c).idxOf
    rw [ih, lbl_eq, idxOf_prefix (env_prefix c (more E h)) (mem_more.mpr (.inr rfl))]
theorem lbl_le (E : List Nat) (h : Nat) : lbl E h ≤ E.length := by
  unfold lbl
  split
  · exact Nat.le_of_lt (List.idxOf_lt_length_of_mem ‹_›)
  · exact Nat.le_refl _
theorem more_length (E : List Nat) (h : Nat) : (more E h).length = max E.length (lbl E h + 1) := by
  unfold more lbl
  split
  · have := List.idxOf_lt_length_of_mem ‹h ∈ E›
    omega
  · simp
/-- two met hues are the same just if their places are -/
theorem idx_inj {E : List Nat} {x y : Nat} (hx : x ∈ E) (hy : y ∈ E) : E.idxOf x = E.idxOf y ↔ x = y := by
  constructor
  · intro e
    have h1 := List.getElem_idxOf (List.idxOf_lt_length_of_mem hx)
    have h2 := List.getElem_idxOf (List.idxOf_lt_length_of_mem hy)
    rw [← h1, ← h2]
    simp only [e]
  · intro e
    rw [e]
theorem getD_map (f : Nat → Nat) : ∀ (c : List Nat) (i : Nat), i < c.length → (c.map f).getD i 0 = f (c.getD i 0)
  | [], i, h => by simp at h
  | a :: c, 0, _ => by simp
  | a :: c, i + 1, h => by
    have := getD_map f c i (by simpa using h)
    simpa using this
theorem getD_mem : ∀ (c : List Nat) (i : Nat), i < c.length → c.getD i 0 ∈ c
  | [], i, h => by simp at h
  | a :: c, 0, _ => by simp
  | a :: c, i + 1, h => by
    have := getD_mem c i (by simpa using h)
    simp only [List.getD_cons_succ]
    exact List.mem_cons_of_mem _ this

theorem S_range_succ (n : Nat) (f : Nat → Int) : S (List.range (n + 1)) f = S (List.range n) f + f n := by
  rw [List.range_succ, S_append, S_single]
/-- the hues below q, by their labels: each met one has its own, the others all have the next -/
theorem S_lbl (q : Nat) : ∀ (E : List Nat), E.Nodup → (∀ x ∈ E, x < q) → ∀ f : Nat → Int, S (List.range q) (fun h => f (lbl E h)) = S (List.range E.length) f + ((q : Int) - E.length) * f E.length := by
  intro E
  induction h : E.length generalizing E with
  | zero =>
    intro _ _ f
    have e : E = [] := List.eq_nil_of_length_eq_zero h
    subst e
    have : S (List.range q) (fun h => f (lbl [] h)) = S (List.range q) (fun _ => f 0 * 1) := S_congr fun a _ => by simp [lbl]
    rw [this, S_mul]
    have hq : ∀ n, S (List.range n) (fun _ => (1 : Int)) = n := by
      intro n
      induction n with
      | zero => rfl
      | succ n ih => rw [S_range_succ, ih]; omega
    rw [hq]
    simp [S, Int.mul_comm]
  | succ u ih =>
    intro hn hb f
    obtain ⟨F, e, rfl⟩ : ∃ F e, E = F ++ [e] := ⟨E.dropLast, E.getLast (by intro z; simp [z] at h), (List.dropLast_concat_getLast _).symm⟩
    have hF : F.length = u := by simpa using h
    have hn' := List.nodup_append.mp hn
    have he : e ∉ F := fun q => hn'.2.2 e q e (by simp) rfl
    have heq : e < q := hb e (by simp)
    have h2 := ih F hF hn'.1 (fun x hx => hb x (by simp [hx])) (fun i => if i < u then f i else f (u + 1))
    have h3 : S (List.range u) (fun i => if i < u then f i else f (u + 1)) = S (List.range u) f := S_congr fun i hi => if_pos (List.mem_range.mp hi)
    rw [h3, if_neg (Nat.lt_irrefl u)] at h2
    have h4 : S (List.range q) (fun h => f (lbl (F ++ [e]) h)) = S (List.range q) (fun h => (if lbl F h < u then f (lbl F h) else f (u + 1)) + (if h = e then f u - f (u + 1) else 0)) := by
      refine S_congr fun x _ => ?_
      by_cases hx : x ∈ F
      · have hxe : x ≠ e := fun z => he (z ▸ hx)
        have l1 : lbl F x = F.idxOf x := by simp [lbl, hx]
        have l2 : lbl (F ++ [e]) x = F.idxOf x := by simp [lbl, hx, List.idxOf_append]
        have l3 : F.idxOf x < u := hF ▸ List.idxOf_lt_length_of_mem hx
        rw [l1, l2, if_pos l3, if_neg hxe]; omega
      · have l1 : lbl F x = u := by simp [lbl, hx, hF]
        by_cases hxe : x = e
        · subst hxe
          have l2 : lbl (F ++ [x]) x = u := by simp [lbl, List.idxOf_append, hx, hF]
          rw [l1, l2, if_neg (Nat.lt_irrefl u), if_pos rfl]; omega
        · have l2 : lbl (F ++ [e]) x = u + 1 := by simp [lbl, hx, hxe, hF]
          rw [l1, l2, if_neg (Nat.lt_irrefl u), if_neg hxe]; omega
    rw [h4, S_add, h2, S_pick' List.nodup_range (List.mem_range.mpr heq), S_range_succ]
    have : ((q : Int) - (u : Int)) * f (u + 1) = ((q : Int) - ((u + 1 : Nat) : Int)) * f (u + 1) + f (u + 1) := by
      rw [show ((q : Int) - (u : Int)) = ((q : Int) - ((u + 1 : Nat) : Int)) + 1 by omega, Int.add_mul, Int.one_mul]
    omega

/-! ### the program's own steps, as plain functions -/
def fits (L : List Nat) (c : Nat) (U T : List Nat) : Bool := U.all (fun p => decide (L.getD p 0 ≠ c)) && T.all (fun p => decide (L.getD p 0 = c))
def at_ (ps : List (Nat × Nat)) (y : Nat) : List Nat := (ps.filter fun p => decide (p.2 = y)).map (·.1)
def step1 (U T : List Nat) (x : List Nat × Nat) (c : Nat) : Option (List Nat × Nat) := if fits x.1 c U T = true then some (x.1 ++ [c], max x.2 (c + 1)) else none
def one (U T : List Nat) (x : List Nat × Nat) : List (List Nat × Nat) := (List.range (x.2 + 1)).filterMap (step1 U T x)
def with1 (lots : List (List Nat × Nat)) (U T : List Nat) : List (List Nat × Nat) := lots.flatMap (one U T)
def gro (un sa : List (Nat × Nat)) : Nat → Nat → List (List Nat × Nat) → List (List Nat × Nat)
  | _, 0, lots => lots
  | j, k + 1, lots => gro un sa (j + 1) k (with1 lots (at_ un j) (at_ sa j))
def fal (q : Int) (s : Nat) : Nat → Int
  | 0 => 1
  | k + 1 => fal q s k * (q - s - k)
/-- colourings of k more places behind c, with q hues, each weighed by G -/
def ways (q : Nat) (un sa : List (Nat × Nat)) : Nat → Nat → List Nat → (List Nat → Int) → Int
  | _, 0, c, G => G c
  | j, k + 1, c, G => S (List.range q) fun h => if fits c h (at_ un j) (at_ sa j) = true then ways q un sa (j + 1) k (c ++ [h]) G else 0

theorem fal_shift (q : Int) (s : Nat) : ∀ k, fal q s (k + 1) = (q - s) * fal q (s + 1) k
  | 0 => by simp [fal]
  | k + 1 => by
    have ih := fal_shift q s k
    show fal q s (k + 1) * (q - s - ((k + 1 : Nat) : Int)) = (q - s) * (fal q (s + 1) k * (q - ((s + 1 : Nat) : Int) - k))
    rw [ih, Int.mul_assoc]
    congr 2
    omega
theorem mem_step1 {U T : List Nat} {x y : List Nat × Nat} {c : Nat} : step1 U T x c = some y ↔ fits x.1 c U T = true ∧ y = (x.1 ++ [c], max x.2 (c + 1)) := by
  unfold step1
  split
  · rename_i h
    constructor
    · intro e; exact ⟨h, (Option.some.inj e).symm⟩
    · intro e; rw [e.2]
  · rename_i h
    constructor
    · intro e; cases e
    · intro e; exact absurd e.1 h
theorem mem_one {U T : List Nat} {x y : List Nat × Nat} : y ∈ one U T x ↔ ∃ c, c ≤ x.2 ∧ fits x.1 c U T = true ∧ y = (x.1 ++ [c], max x.2 (c + 1)) := by
  unfold one
  rw [List.mem_filterMap]
  constructor
  · rintro ⟨c, h1, h2⟩
    exact ⟨c, by have := List.mem_range.mp h1; omega, mem_step1.mp h2⟩
  · rintro ⟨c, h1, h2⟩
    exact ⟨c, List.mem_range.mpr (by omega), mem_step1.mpr h2⟩
theorem with1_append (a b : List (List Nat × Nat)) (U T : List Nat) : with1 (a ++ b) U T = with1 a U T ++ with1 b U T := by
  simp [with1]
theorem gro_append (un sa : List (Nat × Nat)) : ∀ (k j : Nat) (a b : List (List Nat × Nat)), gro un sa j k (a ++ b) = gro un sa j k a ++ gro un sa j k b
  | 0, _, _, _ => rfl
  | k + 1, j, a, b => by
    show gro un sa (j + 1) k (with1 (a ++ b) _ _) = _
    rw [with1_append, gro_append un sa k]
    rfl
theorem gro_nil (un sa : List (Nat × Nat)) : ∀ (k j : Nat), gro un sa j k [] = []
  | 0, _ => rfl
  | k + 1, j => gro_nil un sa k (j + 1)
/-- each lot grows by itself -/
theorem gro_lots (un sa : List (Nat × Nat)) (j k : Nat) : ∀ lots : List (List Nat × Nat), gro un sa j k lots = lots.flatMap fun x => gro un sa j k [x]
  | [] => by rw [gro_nil]; rfl
  | x :: r => by
    rw [List.flatMap_cons, ← gro_lots un sa j k r, ← gro_append]
    rfl
theorem gro_le {un sa : List (Nat × Nat)} : ∀ {k j : Nat} {L : List Nat} {u : Nat} {y : List Nat × Nat}, y ∈ gro un sa j k [(L, u)] → u ≤ y.2
  | 0, _, L, u, y, h => by
    have : y = (L, u) := by simpa [gro] using h
    rw [this]; exact Nat.le_refl _
  | k + 1, j, L, u, y, h => by
    have h : y ∈ gro un sa (j + 1) k (with1 [(L, u)] (at_ un j) (at_ sa j)) := h
    rw [gro_lots, List.mem_flatMap] at h
    obtain ⟨x, hx, hy⟩ := h
    have hx : x ∈ one (at_ un j) (at_ sa j) (L, u) := by simpa [with1] using hx
    obtain ⟨c, h1, _, rfl⟩ := mem_one.mp hx
    have := gro_le hy
    have h3 : u ≤ max u (c + 1) := Nat.le_max_left _ _
    exact Nat.le_trans h3 this
theorem mem_at {ps : List (Nat × Nat)} {y p : Nat} : p ∈ at_ ps y ↔ (p, y) ∈ ps := by
  unfold at_
  rw [List.mem_map]
  constructor
  · rintro ⟨⟨a, b⟩, h1, h2⟩
    have h3 := List.mem_filter.mp h1
    have h4 : b = y := by simpa using h3.2
    have h2 : a = p := h2
    subst h4; subst h2
    exact h3.1
  · intro h
    exact ⟨(p, y), List.mem_filter.mpr ⟨h, by simp⟩, rfl⟩
theorem fits_iff {L : List Nat} {c : Nat} {U T : List Nat} : fits L c U T = true ↔ (∀ p ∈ U, L.getD p 0 ≠ c) ∧ ∀ p ∈ T, L.getD p 0 = c := by
  unfold fits
  rw [Bool.and_eq_true, List.all_eq_true, List.all_eq_true]
  simp only [decide_eq_true_eq]
/-- hues fit just if their labels do -/
theorem fits_lab {M c : List Nat} {h : Nat} {U T : List Nat} (hU : ∀ p ∈ U, p < c.length) (hT : ∀ p ∈ T, p < c.length) : fits (lab M c) (lbl (env M c) h) U T = fits c h U T := by
  have key : ∀ p, p < c.length → ((lab M c).getD p 0 = lbl (env M c) h ↔ c.getD p 0 = h) := by
    intro p hp
    have e1 : (lab M c).getD p 0 = (more (env M c) h).idxOf (c.getD p 0) := by
      have := lab_idx (c ++ [h]) M
      rw [lab_snoc, env_snoc, List.map_append] at this
      have := List.append_inj_left' this (by simp)
      rw [this, getD_map _ _ _ hp]
    rw [e1, lbl_eq]
    exact idx_inj (mem_more.mpr (.inl (mem_env.mpr (.inr (getD_mem c p hp))))) (mem_more.mpr (.inr rfl))
  rw [Bool.eq_iff_iff, fits_iff, fits_iff]
  constructor
  · rintro ⟨a, b⟩
    exact ⟨fun p hp e => a p hp ((key p (hU p hp)).mpr e), fun p hp => (key p (hT p hp)).mp (b p hp)⟩
  · rintro ⟨a, b⟩
    exact ⟨fun p hp e => a p hp ((key p (hU p hp)).mp e), fun p hp => (key p (hT p hp)).mpr (b p hp)⟩
/-- THE GROWTH LEMMA: colourings by hues, weighed by their labels, are labels weighed by falling products -/
theorem growth {q : Nat} {un sa : List (Nat × Nat)} {M : List Nat} (hM : M.Nodup) (hMq : ∀ x ∈ M, x < q) (hu : ∀ p ∈ un, p.1 < p.2) (hs : ∀ p ∈ sa, p.1 < p.2) (g : List Nat → Int) :
    ∀ (k j : Nat) (c : List Nat), c.length = j → (∀ x ∈ c, x < q) →
      ways q un sa j k c (fun d => g (lab M d)) = S (gro un sa j k [(lab M c, (env M c).length)]) (fun y => fal q (env M c).length (y.2 - (env M c).length) * g y.1) := by
  intro k
  induction k with
  | zero =>
    intro j c _ _
    show g (lab M c) = _
    show _ = S [(lab M c, (env M c).length)] _
    rw [S_single]
    simp [fal]
  | succ k ih =>
    intro j c hc hcq
    let u := (env M c).length
    let F : List Nat × Nat → Int := fun x => S (gro un sa (j + 1) k [x]) (fun y => fal q x.2 (y.2 - x.2) * g y.1)
    let ψ : Nat → Int := fun i => if fits (lab M c) i (at_ un j) (at_ sa j) = true then F (lab M c ++ [i], max u (i + 1)) else 0
    have hE : (env M c).Nodup := nodup_env hM
    have hEq : ∀ x ∈ env M c, x < q := fun x hx => by
      rcases mem_env.mp hx with h | h
      · exact hMq x h
      · exact hcq x h
    have e1 : ways q un sa j (k + 1) c (fun d => g (lab M d)) = S (List.range q) (fun h => ψ (lbl (env M c) h)) := by
      refine S_congr fun h hh => ?_
      have hf := fits_lab (M := M) (c := c) (h := h) (U := at_ un j) (T := at_ sa j) (fun p hp => hc ▸ hu _ (mem_at.mp hp)) (fun p hp => hc ▸ hs _ (mem_at.mp hp))
      show _ = (if fits (lab M c) (lbl (env M c) h) (at_ un j) (at_ sa j) = true then _ else 0)
      rw [hf]
      by_cases hb : fits c h (at_ un j) (at_ sa j) = true
      · rw [if_pos hb, if_pos hb]
        rw [ih (j + 1) (c ++ [h]) (by simp [hc]) (fun x hx => by
          rcases List.mem_append.mp hx with q1 | q1
          · exact hcq x q1
          · rw [List.mem_singleton.mp q1]; exact List.mem_range.mp hh)]
        show _ = S (gro un sa (j + 1) k [(lab M c ++ [lbl (env M c) h], max u (lbl (env M c) h + 1))]) _
        rw [lab_snoc, env_snoc, more_length]
      · rw [if_neg hb, if_neg hb]
    have e2 : S (gro un sa j (k + 1) [(lab M c, u)]) (fun y => fal q u (y.2 - u) * g y.1) = S (List.range (u + 1)) (fun i => if fits (lab M c) i (at_ un j) (at_ sa j) = true then S (gro un sa (j + 1) k [(lab M c ++ [i], max u (i + 1))]) (fun y => fal q u (y.2 - u) * g y.1) else 0) := by
      show S (gro un sa (j + 1) k (with1 [(lab M c, u)] (at_ un j) (at_ sa j))) _ = _
      rw [gro_lots, S_flatMap]
      have : with1 [(lab M c, u)] (at_ un j) (at_ sa j) = one (at_ un j) (at_ sa j) (lab M c, u) := by simp [with1]
      rw [this]
      unfold one
      rw [S_filterMap]
      refine S_congr fun i _ => ?_
      unfold step1
      by_cases hb : fits (lab M c) i (at_ un j) (at_ sa j) = true
      · simp only [hb, if_true]
      · simp only [hb]; simp
    show _ = S (gro un sa j (k + 1) [(lab M c, u)]) (fun y => fal q u (y.2 - u) * g y.1)
    rw [e1, S_lbl q (env M c) hE hEq, e2, S_range_succ]
    congr 1
    · refine S_congr fun i hi => ?_
      have hi : i < u := List.mem_range.mp hi
      show (if _ then F _ else 0) = _
      have hm : max u (i + 1) = u := by omega
      show (if _ then S (gro un sa (j + 1) k [(lab M c ++ [i], max u (i + 1))]) (fun y => fal q (max u (i + 1)) (y.2 - max u (i + 1)) * g y.1) else 0) = _
      rw [hm]
    · show ((q : Int) - (u : Int)) * (if fits (lab M c) u (at_ un j) (at_ sa j) = true then S (gro un sa (j + 1) k [(lab M c ++ [u], max u (u + 1))]) (fun y => fal q (max u (u + 1)) (y.2 - max u (u + 1)) * g y.1) else 0) = _
      have hm : max u (u + 1) = u + 1 := by omega
      rw [hm]
      by_cases hb : fits (lab M c) u (at_ un j) (at_ sa j) = true
      · rw [if_pos hb, if_pos hb, ← S_mul]
        refine S_congr fun y hy => ?_
        have hle : u + 1 ≤ y.2 := gro_le hy
        have e : y.2 - u = (y.2 - (u + 1)) + 1 := by omega
        rw [e, fal_shift, Int.mul_assoc]
      · rw [if_neg hb, if_neg hb, Int.mul_zero]
end Hue

/-! Lumping: labels against hues, a piece's table against its true transfer. -/
namespace Hue
def usedBy (L : List Nat) (m : Nat) : Nat := L.foldl (fun a x => max a (x + 1)) m
theorem usedBy_lab : ∀ (c M : List Nat), usedBy (lab M c) M.length = (env M c).length
  | [], _ => rfl
  | h :: c, M => by
    show usedBy (lab (more M h) c) (max M.length (lbl M h + 1)) = _
    rw [← more_length]
    exact usedBy_lab c (more M h)
/-- the start of a part: its own places fit -/
def fitsAll (un sa : List (Nat × Nat)) (c : List Nat) : Bool := (List.range c.length).all fun p => fits c (c.getD p 0) (at_ un p) (at_ sa p)
def grown (un sa : List (Nat × Nat)) (n : Nat) (start : List Nat) (m : Nat) : List (List Nat × Nat) :=
  if fitsAll un sa start = true then gro un sa start.length (n - start.length) [(start, usedBy start m)] else []
/-- colourings of a part of n places that begin with c -/
def ways0 (q : Nat) (un sa : List (Nat × Nat)) (n : Nat) (c : List Nat) (G : List Nat → Int) : Int :=
  if fitsAll un sa c = true then ways q un sa c.length (n - c.length) c G else 0
theorem lab_get_eq {M c : List Nat} {p p' : Nat} (hp : p < c.length) (hp' : p' < c.length) : (lab M c).getD p 0 = (lab M c).getD p' 0 ↔ c.getD p 0 = c.getD p' 0 := by
  rw [lab_idx, getD_map _ _ _ hp, getD_map _ _ _ hp']
  exact idx_inj (mem_env.mpr (.inr (getD_mem c p hp))) (mem_env.mpr (.inr (getD_mem c p' hp')))
theorem fitsAll_lab {un sa : List (Nat × Nat)} (hu : ∀ p ∈ un, p.1 < p.2) (hs : ∀ p ∈ sa, p.1 < p.2) (M c : List Nat) : fitsAll un sa (lab M c) = fitsAll un sa c := by
  unfold fitsAll
  rw [lab_length, Bool.eq_iff_iff, List.all_eq_true, List.all_eq_true]
  have key : ∀ p, p ∈ List.range c.length → (fits (lab M c) ((lab M c).getD p 0) (at_ un p) (at_ sa p) = true ↔ fits c (c.getD p 0) (at_ un p) (at_ sa p) = true) := by
    intro p hp
    have hp : p < c.length := List.mem_range.mp hp
    rw [fits_iff, fits_iff]
    constructor
    · rintro ⟨a, b⟩
      exact ⟨fun x hx e => a x hx ((lab_get_eq (Nat.lt_trans (hu _ (mem_at.mp hx)) hp) hp).mpr e), fun x hx => (lab_get_eq (Nat.lt_trans (hs _ (mem_at.mp hx)) hp) hp).mp (b x hx)⟩
    · rintro ⟨a, b⟩
      exact ⟨fun x hx e => a x hx ((lab_get_eq (Nat.lt_trans (hu _ (mem_at.mp hx)) hp) hp).mp e), fun x hx => (lab_get_eq (Nat.lt_trans (hs _ (mem_at.mp hx)) hp) hp).mpr (b x hx)⟩
  exact ⟨fun h p hp => (key p hp).mp (h p hp), fun h p hp => (key p hp).mpr (h p hp)⟩
/-- what a part is to be: pairs in order, within its places -/
structure Ok (un sa : List (Nat × Nat)) (n : Nat) : Prop where
  un : ∀ p ∈ un, p.1 < p.2 ∧ p.2 < n
  sa : ∀ p ∈ sa, p.1 < p.2 ∧ p.2 < n
theorem growth0 {q : Nat} {un sa : List (Nat × Nat)} {n : Nat} (ok : Ok un sa n) {M : List Nat} (hM : M.Nodup) (hMq : ∀ x ∈ M, x < q) (g : List Nat → Int) {c : List Nat} (hc : ∀ x ∈ c, x < q) :
    ways0 q un sa n c (fun d => g (lab M d)) = S (grown un sa n (lab M c) M.length) (fun y => fal q (usedBy (lab M c) M.length) (y.2 - usedBy (lab M c) M.length) * g y.1) := by
  unfold ways0 grown
  rw [fitsAll_lab (fun p h => (ok.un p h).1) (fun p h => (ok.sa p h).1)]
  by_cases h : fitsAll un sa c = true
  · rw [if_pos h, if_pos h, lab_length, usedBy_lab]
    exact growth hM hMq (fun p h => (ok.un p h).1) (fun p h => (ok.sa p h).1) g _ _ c rfl hc
  · rw [if_neg h, if_neg h]
    rfl
/-! ### numbering anew -/
def nrm (m : Nat) (L : List Nat) : List Nat := lab (List.range m) L
theorem lab_map (f : Nat → Nat) : ∀ (d E : List Nat), (∀ x y, (x ∈ E ∨ x ∈ d) → (y ∈ E ∨ y ∈ d) → f x = f y → x = y) → lab (E.map f) (d.map f) = lab E d
  | [], _, _ => rfl
  | h :: d, E, inj => by
    have hm : f h ∈ E.map f ↔ h ∈ E := by
      constructor
      · intro k
        obtain ⟨x, hx, e⟩ := List.mem_map.mp k
        rw [← inj x h (.inl hx) (.inr (by simp)) e]
        exact hx
      · exact List.mem_map_of_mem
    have hi : ∀ E : List Nat, (∀ x ∈ E, f x = f h → x = h) → (E.map f).idxOf (f h) = E.idxOf h := by
      intro E
      induction E with
      | nil => intro _; rfl
      | cons a E ih =>
        intro k
        rw [List.map_cons, List.idxOf_cons, List.idxOf_cons, ih fun x hx => k x (by simp [hx])]
        by_cases e : a = h
        · simp [e]
        · have : f a ≠ f h := fun z => e (k a (by simp) z)
          simp only [beq_eq_false_iff_ne.mpr e, beq_eq_false_iff_ne.mpr this]
    have h1 : lbl (E.map f) (f h) = lbl E h := by
      unfold lbl
      by_cases k : h ∈ E
      · rw [if_pos k, if_pos (hm.mpr k)]
        exact hi E fun x hx e => inj x h (.inl hx) (.inr (by simp)) e
      · rw [if_neg k, if_neg (fun z => k (hm.mp z)), List.length_map]
    have h2 : more (E.map f) (f h) = (more E h).map f := by
      unfold more
      by_cases k : h ∈ E
      · rw [if_pos k, if_pos (hm.mpr k)]
      · rw [if_neg k, if_neg (fun z => k (hm.mp z))]; simp
    show lbl (E.map f) (f h) :: lab (more (E.map f) (f h)) (d.map f) = lbl E h :: lab (more E h) d
    rw [h1, h2, lab_map f d (more E h)]
    intro x y hx hy e
    refine inj x y ?_ ?_ e
    · rcases hx with hx | hx
      · rcases mem_more.mp hx with q | q
        · exact .inl q
        · exact .inr (by simp [q])
      · exact .inr (by simp [hx])
    · rcases hy with hx | hx
      · rcases mem_more.mp hx with q | q
        · exact .inl q
        · exact .inr (by simp [q])
      · exact .inr (by simp [hx])
theorem map_idx_prefix {M F : List Nat} (hF : F.Nodup) (hp : M <+: F) : M.map F.idxOf = List.range M.length := by
  obtain ⟨r, rfl⟩ := hp
  have hM : M.Nodup := (List.nodup_append.mp hF).1
  apply List.ext_getElem
  · simp
  · intro i h1 h2
    have hi : i < M.length := by simpa using h1
    rw [List.getElem_map, List.getElem_range, List.idxOf_append, if_pos (List.getElem_mem hi)]
    exact hM.idxOf_getElem i hi
/-- the labels of some hues by the places where they were met, numbered anew, are their own labels -/
theorem nrm_idx {M F d : List Nat} (hF : F.Nodup) (hp : M <+: F) (hd : ∀ x ∈ d, x ∈ F) : nrm M.length (d.map F.idxOf) = lab M d := by
  unfold nrm
  rw [← map_idx_prefix hF hp]
  refine lab_map F.idxOf d M fun x y hx hy e => ?_
  have mem : ∀ z, (z ∈ M ∨ z ∈ d) → z ∈ F := by
    rintro z (h | h)
    · obtain ⟨r, rfl⟩ := hp
      exact List.mem_append_left _ h
    · exact hd z h
  exact (idx_inj (mem x hx) (mem y hy)).mp e
/-- the places r .. 2r - 1 -/
def rightOf (r : Nat) (d : List Nat) : List Nat := (d.drop r).take r
theorem nrm_right {M : List Nat} (hM : M.Nodup) (r : Nat) (d : List Nat) : nrm M.length (rightOf r (lab M d)) = lab M (rightOf r d) := by
  have : rightOf r (lab M d) = (rightOf r d).map (env M d).idxOf := by
    unfold rightOf
    rw [lab_idx, ← List.map_drop, ← List.map_take]
  rw [this]
  exact nrm_idx (nodup_env hM) (env_prefix d M) fun x hx => mem_env.mpr (.inr (List.drop_subset _ _ (List.take_subset _ _ hx)))
theorem nrm_left {M : List Nat} (hM : M.Nodup) (r : Nat) (d : List Nat) : nrm M.length ((lab M d).take r) = lab M (d.take r) := by
  have : (lab M d).take r = (d.take r).map (env M d).idxOf := by
    rw [lab_idx, ← List.map_take]
  rw [this]
  exact nrm_idx (nodup_env hM) (env_prefix d M) fun x hx => mem_env.mpr (.inr (List.take_subset _ _ hx))

/-! ### a piece: its true transfer, its table -/
structure Pc where
  inner : Nat
  un : List (Nat × Nat)
  sa : List (Nat × Nat)
def Tr (q r : Nat) (p : Pc) (f : List Nat → Int) (l : List Nat) : Int := ways0 q p.un p.sa (2 * r + p.inner) l fun d => f (rightOf r d)
def tab (q r m : Nat) (p : Pc) (s t : List Nat) : Int :=
  S (grown p.un p.sa (2 * r + p.inner) s m) fun y => if nrm m (rightOf r y.1) = t then fal q (usedBy s m) (y.2 - usedBy s m) else 0
/-- the labels of a rim, all of them, each once -/
structure States (r m : Nat) (St : List (List Nat)) : Prop where
  nd : St.Nodup
  all : ∀ d : List Nat, d.length = r → nrm m d ∈ St
theorem gro_length {un sa : List (Nat × Nat)} : ∀ {k j : Nat} {L : List Nat} {u : Nat} {y : List Nat × Nat}, y ∈ gro un sa j k [(L, u)] → y.1.length = L.length + k
  | 0, _, L, u, y, h => by
    have : y = (L, u) := by simpa [gro] using h
    rw [this]; rfl
  | k + 1, j, L, u, y, h => by
    have h : y ∈ gro un sa (j + 1) k (with1 [(L, u)] (at_ un j) (at_ sa j)) := h
    rw [gro_lots, List.mem_flatMap] at h
    obtain ⟨x, hx, hy⟩ := h
    have hx : x ∈ one (at_ un j) (at_ sa j) (L, u) := by simpa [with1] using hx
    obtain ⟨c, h1, _, rfl⟩ := mem_one.mp hx
    have := gro_length hy
    rw [this]
    show (L ++ [c]).length + k = L.length + (k + 1)
    rw [List.length_append, List.length_singleton]
    omega
theorem grown_length {un sa : List (Nat × Nat)} {n m : Nat} {s : List Nat} {y : List Nat × Nat} (hs : s.length ≤ n) (h : y ∈ grown un sa n s m) : y.1.length = n := by
  unfold grown at h
  split at h
  · have := gro_length h
    omega
  · cases h
def mulT (St : List (List Nat)) (A : List Nat → List Nat → Int) (e : List Nat → Int) (s : List Nat) : Int := S St fun t => A s t * e t
theorem lump {q r : Nat} {p : Pc} (ok : Ok p.un p.sa (2 * r + p.inner)) {M : List Nat} (hM : M.Nodup) (hMq : ∀ x ∈ M, x < q) {St : List (List Nat)} (hS : States r M.length St) (e : List Nat → Int) {l : List Nat} (hl : l.length = r) (hlq : ∀ x ∈ l, x < q) :
    mulT St (tab q r M.length p) e (lab M l) = Tr q r p (fun l' => e (lab M l')) l := by
  have h1 : Tr q r p (fun l' => e (lab M l')) l = ways0 q p.un p.sa (2 * r + p.inner) l (fun d => (fun L => e (nrm M.length (rightOf r L))) (lab M d)) := by
    show ways0 _ _ _ _ _ _ = ways0 _ _ _ _ _ _
    congr 1
    funext d
    show e (lab M (rightOf r d)) = e (nrm M.length (rightOf r (lab M d)))
    rw [nrm_right hM]
  rw [h1, growth0 ok hM hMq (fun L => e (nrm M.length (rightOf r L))) hlq]
  unfold mulT tab
  have h2 : ∀ t, S (grown p.un p.sa (2 * r + p.inner) (lab M l) M.length) (fun y => if nrm M.length (rightOf r y.1) = t then fal q (usedBy (lab M l) M.length) (y.2 - usedBy (lab M l) M.length) else 0) * e t
      = S (grown p.un p.sa (2 * r + p.inner) (lab M l) M.length) (fun y => if nrm M.length (rightOf r y.1) = t then fal q (usedBy (lab M l) M.length) (y.2 - usedBy (lab M l) M.length) * e t else 0) := by
    intro t
    rw [← S_mul_right]
    refine S_congr fun y _ => ?_
    split
    · rfl
    · rw [Int.zero_mul]
  rw [S_congr fun t _ => h2 t, S_swap]
  refine S_congr fun y hy => ?_
  have hlen : y.1.length = 2 * r + p.inner := grown_length (by rw [lab_length, hl]; omega) hy
  have hin : nrm M.length (rightOf r y.1) ∈ St := hS.all _ (by unfold rightOf; rw [List.length_take, List.length_drop, hlen]; omega)
  exact S_pick hS.nd hin (fun t => fal q (usedBy (lab M l) M.length) (y.2 - usedBy (lab M l) M.length) * e t)
end Hue

/-! All partings, all tuples, the run's line of numbers, and the three laws. -/
namespace Hue
/-! ### the partings of a rim -/
def parts (r m : Nat) : List (List Nat × Nat) := gro [] [] 0 r [([], m)]
theorem with1_nd {lots : List (List Nat × Nat)} {U T : List Nat} (h : lots.Pairwise fun x y => x.1 ≠ y.1) (hl : ∀ x ∈ lots, ∀ y ∈ lots, x.1.length = y.1.length) : (with1 lots U T).Pairwise fun x y => x.1 ≠ y.1 := by
  unfold with1
  rw [List.pairwise_flatMap]
  constructor
  · intro x _
    unfold one
    rw [List.pairwise_filterMap]
    refine List.Pairwise.imp (R := fun a b => a ≠ b) ?_ (List.nodup_range (n := x.2 + 1))
    intro c d hcd y hy z hz e
    rw [(mem_step1.mp hy).2, (mem_step1.mp hz).2] at e
    have := List.append_inj_right' e rfl
    exact hcd (by simpa using this)
  · refine List.Pairwise.imp_of_mem ?_ h
    intro a b ha hb hab y hy z hz e
    obtain ⟨c, _, _, rfl⟩ := mem_one.mp hy
    obtain ⟨d, _, _, rfl⟩ := mem_one.mp hz
    exact hab (List.append_inj_left e (hl a ha b hb))
theorem with1_len {lots : List (List Nat × Nat)} {U T : List Nat} {n : Nat} (hl : ∀ x ∈ lots, x.1.length = n) : ∀ y ∈ with1 lots U T, y.1.length = n + 1 := by
  intro y hy
  unfold with1 at hy
  obtain ⟨x, hx, hy⟩ := List.mem_flatMap.mp hy
  obtain ⟨c, _, _, rfl⟩ := mem_one.mp hy
  show (x.1 ++ [c]).length = n + 1
  rw [List.length_append, hl x hx]
  rfl
theorem gro_nd {un sa : List (Nat × Nat)} : ∀ {k j n : Nat} {lots : List (List Nat × Nat)}, (lots.Pairwise fun x y => x.1 ≠ y.1) → (∀ x ∈ lots, x.1.length = n) → (gro un sa j k lots).Pairwise fun x y => x.1 ≠ y.1
  | 0, _, _, _, h, _ => h
  | k + 1, j, n, _, h, hl => gro_nd (k := k) (j := j + 1) (n := n + 1) (with1_nd h fun x hx y hy => (hl x hx).trans (hl y hy).symm) (with1_len hl)
theorem gro_all {M : List Nat} : ∀ (d c : List Nat), (lab M (c ++ d), (env M (c ++ d)).length) ∈ gro [] [] c.length d.length [(lab M c, (env M c).length)]
  | [], c => by
    rw [List.append_nil]
    exact List.mem_singleton.mpr rfl
  | h :: d, c => by
    have ih := gro_all (M := M) d (c ++ [h])
    have e : c ++ h :: d = (c ++ [h]) ++ d := by simp
    rw [e]
    show _ ∈ gro [] [] (c.length + 1) d.length (with1 [(lab M c, (env M c).length)] [] [])
    rw [List.length_append] at ih
    rw [gro_lots, List.mem_flatMap]
    refine ⟨(lab M (c ++ [h]), (env M (c ++ [h])).length), ?_, ih⟩
    have : with1 [(lab M c, (env M c).length)] [] [] = one [] [] (lab M c, (env M c).length) := by simp [with1]
    rw [this, mem_one]
    exact ⟨lbl (env M c) h, lbl_le _ _, by simp [fits], by rw [lab_snoc, env_snoc, more_length]⟩
theorem parts_states {r m : Nat} {St : List (List Nat)} (h : St.Perm ((parts r m).map (·.1))) : States r m St where
  nd := by
    rw [h.nodup_iff]
    have : (parts r m).Pairwise fun x y => x.1 ≠ y.1 := gro_nd (n := 0) (by simp) (by simp)
    exact List.pairwise_map.mpr this
  all := fun d hd => by
    rw [h.mem_iff]
    have := gro_all (M := List.range m) d []
    rw [List.nil_append, hd] at this
    refine List.mem_map.mpr ⟨(lab (List.range m) d, (env (List.range m) d).length), ?_, rfl⟩
    simpa [parts, lab, env] using this
theorem parts_mem_len {r m : Nat} {x : List Nat × Nat} (h : x ∈ parts r m) : x.1.length = r := by
  have := gro_length h
  simpa using this

/-! ### all tuples of hues -/
def tuples (q : Nat) : Nat → List (List Nat)
  | 0 => [[]]
  | k + 1 => (tuples q k).flatMap fun l => (List.range q).map fun h => l ++ [h]
theorem mem_tuples {q : Nat} : ∀ {k : Nat} {l : List Nat}, l ∈ tuples q k ↔ l.length = k ∧ ∀ x ∈ l, x < q
  | 0, l => by
    constructor
    · intro h
      have : l = [] := by simpa [tuples] using h
      subst this
      exact ⟨rfl, fun x hx => by cases hx⟩
    · rintro ⟨h, _⟩
      have : l = [] := List.eq_nil_of_length_eq_zero h
      subst this
      simp [tuples]
  | k + 1, l => by
    unfold tuples
    rw [List.mem_flatMap]
    constructor
    · rintro ⟨a, ha, hl⟩
      obtain ⟨h, hh, rfl⟩ := List.mem_map.mp hl
      obtain ⟨h1, h2⟩ := mem_tuples.mp ha
      refine ⟨by simp [h1], fun x hx => ?_⟩
      rcases List.mem_append.mp hx with q1 | q1
      · exact h2 x q1
      · rw [List.mem_singleton.mp q1]; exact List.mem_range.mp hh
    · rintro ⟨h1, h2⟩
      have hne : l ≠ [] := by intro z; simp [z] at h1
      refine ⟨l.dropLast, mem_tuples.mpr ⟨by simp [h1], fun x hx => h2 x (List.dropLast_subset _ hx)⟩, List.mem_map.mpr ⟨l.getLast hne, List.mem_range.mpr (h2 _ (List.getLast_mem hne)), List.dropLast_concat_getLast hne⟩⟩
theorem tuples_nd (q : Nat) : ∀ k, (tuples q k).Nodup
  | 0 => by simp [tuples]
  | k + 1 => by
    unfold tuples
    show List.Pairwise _ _
    rw [List.pairwise_flatMap]
    constructor
    · intro l _
      rw [List.pairwise_map]
      refine List.Pairwise.imp ?_ (List.nodup_range (n := q))
      intro a b hab e
      exact hab (by simpa using e)
    · refine List.Pairwise.imp_of_mem ?_ (tuples_nd q k)
      intro a b ha hb hab x hx y hy e
      obtain ⟨c, _, rfl⟩ := List.mem_map.mp hx
      obtain ⟨d, _, rfl⟩ := List.mem_map.mp hy
      exact hab (List.append_inj_left e ((mem_tuples.mp ha).1.trans (mem_tuples.mp hb).1.symm))
theorem S_tuples_cons (q : Nat) : ∀ (k : Nat) (F : List Nat → Int), S (tuples q (k + 1)) F = S (List.range q) fun h => S (tuples q k) fun e => F (h :: e)
  | 0, F => by
    show S (([[]] : List (List Nat)).flatMap fun l => (List.range q).map fun h => l ++ [h]) F = _
    rw [S_flatMap, S_single, S_map]
    refine S_congr fun h _ => ?_
    show F ([] ++ [h]) = S [[]] _
    rw [S_single]; rfl
  | k + 1, F => by
    show S ((tuples q (k + 1)).flatMap fun l => (List.range q).map fun h => l ++ [h]) F = _
    rw [S_flatMap]
    have e1 : S (tuples q (k + 1)) (fun a => S ((List.range q).map fun h => a ++ [h]) F) = S (tuples q (k + 1)) (fun a => S (List.range q) fun h => F (a ++ [h])) := S_congr fun a _ => S_map _ _ _
    rw [e1, S_tuples_cons q k]
    refine S_congr fun h _ => ?_
    show _ = S ((tuples q k).flatMap fun l => (List.range q).map fun h => l ++ [h]) fun e => F (h :: e)
    rw [S_flatMap]
    refine S_congr fun a _ => ?_
    rw [S_map]
    rfl

/-! ### true colourings as tuples -/
theorem getD_app {c d : List Nat} {p : Nat} (h : p < c.length) : (c ++ d).getD p 0 = c.getD p 0 := by
  simp [List.getD_eq_getElem?_getD, List.getElem?_append_left h]
theorem fits_app {c d : List Nat} {h : Nat} {U T : List Nat} (hU : ∀ p ∈ U, p < c.length) (hT : ∀ p ∈ T, p < c.length) : fits (c ++ d) h U T = fits c h U T := by
  rw [Bool.eq_iff_iff, fits_iff, fits_iff]
  constructor
  · rintro ⟨a, b⟩
    exact ⟨fun p hp => getD_app (d := d) (hU p hp) ▸ a p hp, fun p hp => getD_app (d := d) (hT p hp) ▸ b p hp⟩
  · rintro ⟨a, b⟩
    exact ⟨fun p hp => (getD_app (d := d) (hU p hp)).symm ▸ a p hp, fun p hp => (getD_app (d := d) (hT p hp)).symm ▸ b p hp⟩
/-- the pairs are kept -/
def keeps (un sa : List (Nat × Nat)) (d : List Nat) : Bool := un.all (fun p => decide (d.getD p.1 0 ≠ d.getD p.2 0)) && sa.all (fun p => decide (d.getD p.1 0 = d.getD p.2 0))
theorem keeps_iff {un sa : List (Nat × Nat)} {d : List Nat} : keeps un sa d = true ↔ (∀ p ∈ un, d.getD p.1 0 ≠ d.getD p.2 0) ∧ ∀ p ∈ sa, d.getD p.1 0 = d.getD p.2 0 := by
  unfold keeps
  rw [Bool.and_eq_true, List.all_eq_true, List.all_eq_true]
  simp only [decide_eq_true_eq]
theorem fitsAll_iff {un sa : List (Nat × Nat)} {c : List Nat} : fitsAll un sa c = true ↔ (∀ p ∈ un, p.2 < c.length → c.getD p.1 0 ≠ c.getD p.2 0) ∧ ∀ p ∈ sa, p.2 < c.length → c.getD p.1 0 = c.getD p.2 0 := by
  unfold fitsAll
  rw [List.all_eq_true]
  constructor
  · intro h
    refine ⟨fun p hp hl => ?_, fun p hp hl => ?_⟩
    · exact (fits_iff.mp (h p.2 (List.mem_range.mpr hl))).1 p.1 (mem_at.mpr hp)
    · exact (fits_iff.mp (h p.2 (List.mem_range.mpr hl))).2 p.1 (mem_at.mpr hp)
  · rintro ⟨a, b⟩ y hy
    have hy := List.mem_range.mp hy
    exact fits_iff.mpr ⟨fun x hx => a (x, y) (mem_at.mp hx) hy, fun x hx => b (x, y) (mem_at.mp hx) hy⟩
theorem fitsAll_keeps {un sa : List (Nat × Nat)} {n : Nat} (ok : Ok un sa n) {d : List Nat} (hd : d.length = n) : fitsAll un sa d = keeps un sa d := by
  rw [Bool.eq_iff_iff, fitsAll_iff, keeps_iff]
  exact ⟨fun h => ⟨fun p hp => h.1 p hp (hd ▸ (ok.un p hp).2), fun p hp => h.2 p hp (hd ▸ (ok.sa p hp).2)⟩, fun h => ⟨fun p hp _ => h.1 p hp, fun p hp _ => h.2 p hp⟩⟩
theorem fitsAll_pre {un sa : List (Nat × Nat)} (hu : ∀ p ∈ un, p.1 < p.2) (hs : ∀ p ∈ sa, p.1 < p.2) {c d : List Nat} (h : fitsAll un sa (c ++ d) = true) : fitsAll un sa c = true := by
  rw [fitsAll_iff] at h ⊢
  refine ⟨fun p hp hl => ?_, fun p hp hl => ?_⟩
  · have := h.1 p hp (by rw [List.length_append]; omega)
    rwa [getD_app hl, getD_app (Nat.lt_trans (hu p hp) hl)] at this
  · have := h.2 p hp (by rw [List.length_append]; omega)
    rwa [getD_app hl, getD_app (Nat.lt_trans (hs p hp) hl)] at this
theorem fitsAll_snoc {un sa : List (Nat × Nat)} (hu : ∀ p ∈ un, p.1 < p.2) (hs : ∀ p ∈ sa, p.1 < p.2) {c : List Nat} {h : Nat} (hc : fitsAll un sa c = true) : fitsAll un sa (c ++ [h]) = fits c h (at_ un c.length) (at_ sa c.length) := by
  have e : (c ++ [h]).getD c.length 0 = h := by simp [List.getD_eq_getElem?_getD]
  have lt : ∀ x, x < (c ++ [h]).length ↔ x < c.length ∨ x = c.length := by
    intro x; rw [List.length_append, List.length_singleton]; omega
  rw [fitsAll_iff] at hc
  rw [Bool.eq_iff_iff, fitsAll_iff, fits_iff]
  constructor
  · rintro ⟨a, b⟩
    refine ⟨fun x hx => ?_, fun x hx => ?_⟩
    · have := a (x, c.length) (mem_at.mp hx) ((lt _).mpr (.inr rfl))
      rwa [e, getD_app (hu _ (mem_at.mp hx))] at this
    · have := b (x, c.length) (mem_at.mp hx) ((lt _).mpr (.inr rfl))
      rwa [e, getD_app (hs _ (mem_at.mp hx))] at this
  · rintro ⟨a, b⟩
    refine ⟨fun p hp hl => ?_, fun p hp hl => ?_⟩
    · rcases (lt _).mp hl with hl | hl
      · rw [getD_app hl, getD_app (Nat.lt_trans (hu p hp) hl)]
        exact hc.1 p hp hl
      · have hp1 : p.1 < c.length := hl ▸ hu p hp
        rw [hl, e, getD_app hp1]
        exact a p.1 (mem_at.mpr (hl ▸ hp))
    · rcases (lt _).mp hl with hl | hl
      · rw [getD_app hl, getD_app (Nat.lt_trans (hs p hp) hl)]
        exact hc.2 p hp hl
      · have hp1 : p.1 < c.length := hl ▸ hs p hp
        rw [hl, e, getD_app hp1]
        exact b p.1 (mem_at.mpr (hl ▸ hp))
theorem ways_tuples {q : Nat} {un sa : List (Nat × Nat)} (hu : ∀ p ∈ un, p.1 < p.2) (hs : ∀ p ∈ sa, p.1 < p.2) (G : List Nat → Int) :
    ∀ (k : Nat) (c : List Nat), fitsAll un sa c = true → ways q un sa c.length k c G = S (tuples q k) fun e => if fitsAll un sa (c ++ e) = true then G (c ++ e) else 0
  | 0, c, hc => by
    show G c = S [[]] _
    rw [S_single, List.append_nil, if_pos hc]
  | k + 1, c, hc => by
    show S (List.range q) _ = _
    rw [S_tuples_cons]
    refine S_congr fun h _ => ?_
    have e := fitsAll_snoc hu hs (h := h) hc
    have app : ∀ e : List Nat, c ++ h :: e = (c ++ [h]) ++ e := fun e => by simp
    by_cases hf : fits c h (at_ un c.length) (at_ sa c.length) = true
    · rw [if_pos hf]
      have hl : (c ++ [h]).length = c.length + 1 := by simp
      rw [← hl, ways_tuples hu hs G k (c ++ [h]) (e.trans hf)]
      exact S_congr fun e _ => by rw [← app e]
    · rw [if_neg hf]
      refine (Eq.trans (S_congr fun x _ => if_neg ?_) (S_zero (tuples q k))).symm
      intro z
      rw [app] at z
      exact hf (e ▸ fitsAll_pre hu hs z)
theorem ways0_tuples {q : Nat} {un sa : List (Nat × Nat)} {n : Nat} (ok : Ok un sa n) (G : List Nat → Int) {c : List Nat} (hc : c.length ≤ n) :
    ways0 q un sa n c G = S (tuples q (n - c.length)) fun e => if keeps un sa (c ++ e) = true then G (c ++ e) else 0 := by
  have hu : ∀ p ∈ un, p.1 < p.2 := fun p h => (ok.un p h).1
  have hs : ∀ p ∈ sa, p.1 < p.2 := fun p h => (ok.sa p h).1
  have key : ∀ e ∈ tuples q (n - c.length), fitsAll un sa (c ++ e) = keeps un sa (c ++ e) := fun e he => fitsAll_keeps ok (by rw [List.length_append, (mem_tuples.mp he).1]; omega)
  unfold ways0
  by_cases h : fitsAll un sa c = true
  · rw [if_pos h, ways_tuples hu hs G _ c h]
    exact S_congr fun e he => by rw [key e he]
  · rw [if_neg h]
    refine (Eq.trans (S_congr fun e he => if_neg ?_) (S_zero (tuples q (n - c.length)))).symm
    intro z
    exact h (fitsAll_pre hu hs ((key e he).trans z))
end Hue

/-! Operators, the run's numbers, the three laws. -/
namespace Hue
/-! ### ways are linear, and read G at colourings alone -/
theorem ways_congr {q : Nat} {un sa : List (Nat × Nat)} {G G' : List Nat → Int} : ∀ (k j : Nat) (c : List Nat), (∀ x ∈ c, x < q) → (∀ d : List Nat, d.length = c.length + k → (∀ x ∈ d, x < q) → G d = G' d) → ways q un sa j k c G = ways q un sa j k c G'
  | 0, _, c, hc, h => h c rfl hc
  | k + 1, j, c, hc, h => by
    refine S_congr fun x hx => ?_
    split
    · refine ways_congr k (j + 1) (c ++ [x]) (fun y hy => ?_) fun d hd => h d (by rw [hd, List.length_append, List.length_singleton]; omega)
      rcases List.mem_append.mp hy with q1 | q1
      · exact hc y q1
      · rw [List.mem_singleton.mp q1]; exact List.mem_range.mp hx
    · rfl
theorem ways_sum {q : Nat} {un sa : List (Nat × Nat)} {α : Type} (ms : List α) (a : α → Int) (F : α → List Nat → Int) : ∀ (k j : Nat) (c : List Nat), ways q un sa j k c (fun d => S ms fun m => a m * F m d) = S ms fun m => a m * ways q un sa j k c (F m)
  | 0, _, _ => rfl
  | k + 1, j, c => by
    show S (List.range q) _ = S ms fun m => a m * S (List.range q) _
    have : (fun m => a m * S (List.range q) fun h => if fits c h (at_ un j) (at_ sa j) = true then ways q un sa (j + 1) k (c ++ [h]) (F m) else 0)
        = fun m => S (List.range q) fun h => a m * if fits c h (at_ un j) (at_ sa j) = true then ways q un sa (j + 1) k (c ++ [h]) (F m) else 0 := by
      funext m; rw [S_mul]
    rw [this, S_swap]
    refine S_congr fun h _ => ?_
    split
    · exact ways_sum ms a F k (j + 1) (c ++ [h])
    · refine (Eq.trans (S_congr fun m _ => Int.mul_zero _) (S_zero ms)).symm
theorem ways0_congr {q : Nat} {un sa : List (Nat × Nat)} {n : Nat} {G G' : List Nat → Int} {c : List Nat} (hl : c.length ≤ n) (hc : ∀ x ∈ c, x < q) (h : ∀ d : List Nat, d.length = n → (∀ x ∈ d, x < q) → G d = G' d) : ways0 q un sa n c G = ways0 q un sa n c G' := by
  unfold ways0
  split
  · exact ways_congr _ _ c hc fun d hd => h d (by rw [hd]; omega)
  · rfl
theorem ways0_sum {q : Nat} {un sa : List (Nat × Nat)} {n : Nat} {α : Type} (ms : List α) (a : α → Int) (F : α → List Nat → Int) (c : List Nat) : ways0 q un sa n c (fun d => S ms fun m => a m * F m d) = S ms fun m => a m * ways0 q un sa n c (F m) := by
  unfold ways0
  split
  · exact ways_sum ms a F _ _ c
  · exact (Eq.trans (S_congr fun m _ => Int.mul_zero _) (S_zero ms)).symm
/-! ### rows of pieces -/
def Pcs (r : Nat) (ps : List Pc) : Prop := ∀ p ∈ ps, Ok p.un p.sa (2 * r + p.inner)
def TrR (q r : Nat) : List Pc → (List Nat → Int) → List Nat → Int
  | [], f => f
  | p :: ps, f => Tr q r p (TrR q r ps f)
def TrN (q r : Nat) (row : List Pc) : Nat → (List Nat → Int) → List Nat → Int
  | 0, f => f
  | n + 1, f => TrR q r row (TrN q r row n f)
def Agree (q r : Nat) (f g : List Nat → Int) : Prop := ∀ l : List Nat, l.length = r → (∀ x ∈ l, x < q) → f l = g l
theorem right_len {r i : Nat} {d : List Nat} (h : d.length = 2 * r + i) : (rightOf r d).length = r := by
  unfold rightOf
  rw [List.length_take, List.length_drop, h]; omega
theorem right_lt {q r : Nat} {d : List Nat} (h : ∀ x ∈ d, x < q) : ∀ x ∈ rightOf r d, x < q := fun x hx => h x (List.drop_subset _ _ (List.take_subset _ _ hx))
theorem Tr_agree {q r : Nat} {p : Pc} {f g : List Nat → Int} (h : Agree q r f g) : Agree q r (Tr q r p f) (Tr q r p g) := fun l hl hq =>
  ways0_congr (by omega) hq fun d hd hdq => h _ (right_len hd) (right_lt hdq)
theorem TrR_agree {q r : Nat} : ∀ {ps : List Pc} {f g : List Nat → Int}, Agree q r f g → Agree q r (TrR q r ps f) (TrR q r ps g)
  | [], _, _, h => h
  | _ :: ps, _, _, h => Tr_agree (TrR_agree (ps := ps) h)
theorem TrN_agree {q r : Nat} {row : List Pc} : ∀ {n : Nat} {f g : List Nat → Int}, Agree q r f g → Agree q r (TrN q r row n f) (TrN q r row n g)
  | 0, _, _, h => h
  | n + 1, _, _, h => TrR_agree (TrN_agree (n := n) h)
theorem TrR_sum {q r : Nat} {α : Type} (ms : List α) (a : α → Int) : ∀ (ps : List Pc) (F : α → List Nat → Int), TrR q r ps (fun l => S ms fun m => a m * F m l) = fun l => S ms fun m => a m * TrR q r ps (F m) l
  | [], _ => rfl
  | p :: ps, F => by
    show Tr q r p (TrR q r ps fun l => S ms fun m => a m * F m l) = _
    rw [TrR_sum ms a ps F]
    funext l
    exact ways0_sum ms a (fun m d => TrR q r ps (F m) (rightOf r d)) l
theorem TrN_sum {q r : Nat} {row : List Pc} {α : Type} (ms : List α) (a : α → Int) : ∀ (n : Nat) (F : α → List Nat → Int), TrN q r row n (fun l => S ms fun m => a m * F m l) = fun l => S ms fun m => a m * TrN q r row n (F m) l
  | 0, _ => rfl
  | n + 1, F => by
    show TrR q r row (TrN q r row n fun l => S ms fun m => a m * F m l) = _
    rw [TrN_sum ms a n F, TrR_sum]
    rfl
theorem TrN_add {q r : Nat} {row : List Pc} (b : Nat) (f : List Nat → Int) : ∀ a : Nat, TrN q r row (a + b) f = TrN q r row a (TrN q r row b f)
  | 0 => by rw [Nat.zero_add]; rfl
  | a + 1 => by
    rw [show a + 1 + b = (a + b) + 1 by omega]
    show TrR q r row (TrN q r row (a + b) f) = TrR q r row (TrN q r row a (TrN q r row b f))
    rw [TrN_add b f a]
def del (t l : List Nat) : Int := if l = t then 1 else 0
/-- THE WAYS between two rim colourings -/
def btw (q r : Nat) (row : List Pc) (n : Nat) (l t : List Nat) : Int := TrN q r row n (del t) l
theorem TrN_expand {q r : Nat} {row : List Pc} (n : Nat) (f : List Nat → Int) {l : List Nat} (hl : l.length = r) (hq : ∀ x ∈ l, x < q) :
    TrN q r row n f l = S (tuples q r) fun mid => f mid * btw q r row n l mid := by
  have h : Agree q r f (fun l' => S (tuples q r) fun mid => f mid * del mid l') := by
    intro l' hl' hq'
    have := S_pick (tuples_nd q r) (mem_tuples.mpr ⟨hl', hq'⟩) f
    rw [← this]
    refine S_congr fun mid _ => ?_
    unfold del
    split
    · rw [Int.mul_one]
    · rw [Int.mul_zero]
  rw [TrN_agree (n := n) h l hl hq, TrN_sum]
  rfl
/-- LAW ONE: over two lengths -/
theorem law_between {q r : Nat} {row : List Pc} (a b : Nat) {l t : List Nat} (hl : l ∈ tuples q r) :
    btw q r row (a + b) l t = S (tuples q r) fun mid => btw q r row a l mid * btw q r row b mid t := by
  obtain ⟨h1, h2⟩ := mem_tuples.mp hl
  show TrN q r row (a + b) (del t) l = _
  rw [TrN_add, TrN_expand a _ h1 h2]
  exact S_congr fun mid _ => Int.mul_comm _ _
/-! ### the run's tables -/
def mI (s t : List Nat) : Int := if s = t then 1 else 0
def mMul (St : List (List Nat)) (A B : List Nat → List Nat → Int) (s t : List Nat) : Int := S St fun u => A s u * B u t
def rowT (q r m : Nat) (St : List (List Nat)) (ps : List Pc) : List Nat → List Nat → Int := ps.foldl (fun A p => mMul St A (tab q r m p)) mI
theorem mulT_mMul (St : List (List Nat)) (A B : List Nat → List Nat → Int) (e : List Nat → Int) (s : List Nat) : mulT St (mMul St A B) e s = mulT St A (mulT St B e) s := by
  unfold mulT mMul
  have : ∀ t, (S St fun u => A s u * B u t) * e t = S St fun u => A s u * (B u t * e t) := by
    intro t
    rw [← S_mul_right]
    exact S_congr fun u _ => Int.mul_assoc _ _ _
  rw [S_congr fun t _ => this t, S_swap]
  exact S_congr fun u _ => S_mul _ _ _
theorem mulT_fold (q r m : Nat) (St : List (List Nat)) (e : List Nat → Int) : ∀ (ps : List Pc) (A : List Nat → List Nat → Int) (s : List Nat),
    mulT St (ps.foldl (fun A p => mMul St A (tab q r m p)) A) e s = mulT St A (fun s' => ps.foldr (fun p v => mulT St (tab q r m p) v) e s') s
  | [], _, _ => rfl
  | p :: ps, A, s => by
    show mulT St (ps.foldl _ (mMul St A (tab q r m p))) e s = _
    rw [mulT_fold q r m St e ps, mulT_mMul]
    rfl
theorem mulT_I {St : List (List Nat)} (hn : St.Nodup) (e : List Nat → Int) {s : List Nat} (hs : s ∈ St) : mulT St mI e s = e s := by
  unfold mulT mI
  refine Eq.trans (S_congr fun t _ => ?_) (S_pick hn hs e)
  split
  · rw [Int.one_mul]
  · rw [Int.zero_mul]
theorem mulT_congr {St : List (List Nat)} {A : List Nat → List Nat → Int} {e e' : List Nat → Int} (h : ∀ t ∈ St, e t = e' t) (s : List Nat) : mulT St A e s = mulT St A e' s :=
  S_congr fun t ht => by rw [h t ht]
/-- a row's table is its true transfer -/
theorem lump_row {q r : Nat} {M : List Nat} (hM : M.Nodup) (hMq : ∀ x ∈ M, x < q) {St : List (List Nat)} (hS : States r M.length St) (e : List Nat → Int) : ∀ {ps : List Pc}, Pcs r ps →
    Agree q r (fun l => ps.foldr (fun p v => mulT St (tab q r M.length p) v) e (lab M l)) (TrR q r ps fun l => e (lab M l))
  | [], _ => fun _ _ _ => rfl
  | p :: ps, ok => by
    intro l hl hq
    show mulT St (tab q r M.length p) (ps.foldr _ e) (lab M l) = Tr q r p (TrR q r ps fun l => e (lab M l)) l
    rw [lump (ok p (by simp)) hM hMq hS _ hl hq]
    exact Tr_agree (lump_row hM hMq hS e fun x hx => ok x (by simp [hx])) l hl hq
def mulN (St : List (List Nat)) (A : List Nat → List Nat → Int) : Nat → (List Nat → Int) → List Nat → Int
  | 0, e => e
  | n + 1, e => mulT St A (mulN St A n e)
theorem lab_nrm {M : List Nat} (hM : M.Nodup) (l : List Nat) : nrm M.length ((lab M l)) = lab M l := by
  have := nrm_left hM l.length l
  rwa [List.take_of_length_le (by rw [lab_length]; exact Nat.le_refl _), List.take_length] at this
theorem lab_in {r : Nat} {M : List Nat} (hM : M.Nodup) {St : List (List Nat)} (hS : States r M.length St) {l : List Nat} (hl : l.length = r) : lab M l ∈ St := by
  rw [← lab_nrm hM l]
  exact hS.all _ (by rw [lab_length, hl])
theorem lump_n {q r : Nat} {M : List Nat} (hM : M.Nodup) (hMq : ∀ x ∈ M, x < q) {St : List (List Nat)} (hS : States r M.length St) (e : List Nat → Int) {row : List Pc} (ok : Pcs r row) : ∀ n : Nat,
    Agree q r (fun l => mulN St (rowT q r M.length St row) n e (lab M l)) (TrN q r row n fun l => e (lab M l))
  | 0 => fun _ _ _ => rfl
  | n + 1 => by
    intro l hl hq
    show mulT St (rowT q r M.length St row) (mulN St (rowT q r M.length St row) n e) (lab M l) = TrR q r row (TrN q r row n fun l => e (lab M l)) l
    unfold rowT
    rw [mulT_fold, mulT_I hS.nd _ (lab_in hM hS hl)]
    refine Eq.trans (lump_row hM hMq hS _ ok l hl hq) ?_
    exact TrR_agree (lump_n hM hMq hS e ok n) l hl hq
/-- the line of numbers behind n rows -/
def lin (St : List (List Nat)) (A : List Nat → List Nat → Int) (f : List Nat → Int) : Nat → List Nat → Int
  | 0, t => f t
  | n + 1, t => S St fun s => lin St A f n s * A s t
theorem lin_val (St : List (List Nat)) (A : List Nat → List Nat → Int) (f : List Nat → Int) : ∀ (n : Nat) (e : List Nat → Int), S St (fun t => lin St A f n t * e t) = S St fun s => f s * mulN St A n e s
  | 0, _ => rfl
  | n + 1, e => by
    have : ∀ t, lin St A f (n + 1) t * e t = S St fun s => lin St A f n s * (A s t * e t) := by
      intro t
      show (S St fun s => lin St A f n s * A s t) * e t = _
      rw [← S_mul_right]
      exact S_congr fun s _ => Int.mul_assoc _ _ _
    rw [S_congr fun t _ => this t, S_swap]
    have h2 : ∀ s, S St (fun t => lin St A f n s * (A s t * e t)) = lin St A f n s * mulT St A e s := fun s => S_mul _ _ _
    rw [S_congr fun s _ => h2 s, lin_val St A f n]
    refine S_congr fun s _ => ?_
    congr 1
    have comm : ∀ n, mulN St A n (mulT St A e) = mulN St A (n + 1) e := by
      intro n
      induction n with
      | zero => rfl
      | succ n ih => show mulT St A (mulN St A n (mulT St A e)) = _; rw [ih]; rfl
    rw [comm]
/-- the number that a run yields behind n rows -/
def val (St : List (List Nat)) (A : List Nat → List Nat → Int) (f e : List Nat → Int) (n : Nat) : Int := S St fun t => lin St A f n t * e t
/-! ### between -/
theorem lab_self_inj : ∀ {M t l : List Nat}, (∀ x ∈ t, x ∈ M) → lab M l = lab M t → l = t
  | M, [], l, _, e => by
    have : l.length = 0 := by rw [← lab_length l M, e]; rfl
    exact List.eq_nil_of_length_eq_zero this
  | M, x :: t, [], _, e => by cases e
  | M, x :: t, y :: l, h, e => by
    have e : lbl M y :: lab (more M y) l = lbl M x :: lab (more M x) t := e
    injection e with e1 e2
    have hx : x ∈ M := h x (by simp)
    have l1 : lbl M x = M.idxOf x := by simp [lbl, hx]
    have l2 : lbl M y < M.length := by rw [e1, l1]; exact List.idxOf_lt_length_of_mem hx
    have hy : y ∈ M := by
      refine Classical.byContradiction fun z => ?_
      simp [lbl, z] at l2
    have l3 : lbl M y = M.idxOf y := by simp [lbl, hy]
    have exy : y = x := (idx_inj hy hx).mp (by rw [← l3, ← l1, e1])
    subst exy
    have m1 : more M y = M := by simp [more, hy]
    rw [m1] at e2
    rw [lab_self_inj (fun z hz => h z (by simp [hz])) e2]
theorem between_val {q r : Nat} {row : List Pc} (ok : Pcs r row) {l t : List Nat} (hl : l ∈ tuples q r) (ht : t ∈ tuples q r) {St : List (List Nat)} (hS : States r (env [] t).length St) (n : Nat) (f e : List Nat → Int)
    (hf : ∀ s ∈ St, f s = if s = lab (env [] t) l then 1 else 0) (he : ∀ s ∈ St, e s = if s = lab [] t then 1 else 0) :
    val St (rowT q r (env [] t).length St row) f e n = btw q r row n l t := by
  obtain ⟨hl1, hl2⟩ := mem_tuples.mp hl
  obtain ⟨ht1, ht2⟩ := mem_tuples.mp ht
  have hM : (env [] t).Nodup := nodup_env List.nodup_nil
  have hMq : ∀ x ∈ env [] t, x < q := fun x hx => by
    rcases mem_env.mp hx with z | z
    · cases z
    · exact ht2 x z
  have hall : ∀ x ∈ t, x ∈ env [] t := fun x hx => mem_env.mpr (.inr hx)
  have self : lab (env [] t) t = lab [] t := by
    have h0 : ∀ (d E : List Nat), (∀ x ∈ d, x ∈ E) → env E d = E := by
      intro d
      induction d with
      | nil => intro E _; rfl
      | cons a d ih =>
        intro E h
        show env (more E a) d = E
        have : more E a = E := by simp [more, h a (by simp)]
        rw [this]
        exact ih E fun x hx => h x (by simp [hx])
    rw [lab_idx, lab_idx, h0 t (env [] t) hall]
  have hin := lab_in hM hS hl1
  unfold val
  rw [lin_val]
  have h1 : S St (fun s => f s * mulN St (rowT q r (env [] t).length St row) n e s) = mulN St (rowT q r (env [] t).length St row) n e (lab (env [] t) l) := by
    refine Eq.trans (S_congr fun s hs => ?_) (S_pick hS.nd hin fun s => mulN St (rowT q r (env [] t).length St row) n e s)
    rw [hf s hs]
    by_cases z : s = lab (env [] t) l
    · rw [if_pos z, if_pos z.symm, Int.one_mul]
    · rw [if_neg z, if_neg (fun w => z w.symm), Int.zero_mul]
  rw [h1]
  have h2 := lump_n hM hMq hS e ok n l hl1 hl2
  rw [show mulN St (rowT q r (env [] t).length St row) n e (lab (env [] t) l) = TrN q r row n (fun l => e (lab (env [] t) l)) l from h2]
  refine TrN_agree (n := n) (fun l' hl' _ => ?_) l hl1 hl2
  show e (lab (env [] t) l') = del t l'
  rw [he _ (lab_in hM hS hl'), ← self]
  unfold del
  by_cases z : l' = t
  · rw [if_pos z, z, if_pos rfl]
  · rw [if_neg z, if_neg fun w => z (lab_self_inj hall w)]
end Hue

/-! The strip's number, the ring's number. -/
namespace Hue
theorem S_tuples_split (q a : Nat) : ∀ (b : Nat) (F : List Nat → Int), S (tuples q (a + b)) F = S (tuples q a) fun m => S (tuples q b) fun e => F (m ++ e)
  | 0, F => by
    refine S_congr fun m _ => ?_
    show F m = S [[]] _
    rw [S_single, List.append_nil]
  | b + 1, F => by
    show S ((tuples q (a + b)).flatMap fun l => (List.range q).map fun h => l ++ [h]) F = _
    rw [S_flatMap, S_tuples_split q a b]
    refine S_congr fun m _ => ?_
    show _ = S ((tuples q b).flatMap fun l => (List.range q).map fun h => l ++ [h]) _
    rw [S_flatMap]
    refine S_congr fun e _ => ?_
    rw [S_map, S_map]
    exact S_congr fun h _ => by rw [List.append_assoc]
/-- a cap's number of colourings on from a rim -/
def capE (q r : Nat) (c : Pc) (l : List Nat) : Int := ways0 q c.un c.sa (r + c.inner) l fun _ => 1
def startT (q r : Nat) (c : Pc) (s : List Nat) : Int := S (grown c.un c.sa (r + c.inner) [] 0) fun y => if nrm 0 (y.1.take r) = s then fal q 0 y.2 else 0
def endT (q r : Nat) (c : Pc) (s : List Nat) : Int := S (grown c.un c.sa (r + c.inner) s 0) fun y => fal q (usedBy s 0) (y.2 - usedBy s 0)
/-- the strip's number, as the law reckons it -/
def strip (q r : Nat) (row : List Pc) (n : Nat) (h t : Pc) : Int :=
  S (tuples q (r + h.inner)) fun a => if keeps h.un h.sa a = true then S (tuples q (r + t.inner)) fun b => if keeps t.un t.sa b = true then btw q r row n (a.take r) (b.take r) else 0 else 0
theorem capE_sum {q r : Nat} {c : Pc} (ok : Ok c.un c.sa (r + c.inner)) (X : List Nat → Int) :
    (S (tuples q r) fun mid => capE q r c mid * X mid) = S (tuples q (r + c.inner)) fun b => if keeps c.un c.sa b = true then X (b.take r) else 0 := by
  rw [S_tuples_split]
  refine S_congr fun m hm => ?_
  obtain ⟨h1, h2⟩ := mem_tuples.mp hm
  unfold capE
  rw [ways0_tuples ok (fun _ => 1) (c := m) (by omega), show r + c.inner - m.length = c.inner by omega, ← S_mul_right]
  refine S_congr fun e _ => ?_
  have : (m ++ e).take r = m := by rw [← h1]; exact List.take_left
  rw [this]
  split
  · rw [Int.one_mul]
  · rw [Int.zero_mul]
theorem strip_val {q r : Nat} {row : List Pc} (ok : Pcs r row) {h t : Pc} (okh : Ok h.un h.sa (r + h.inner)) (okt : Ok t.un t.sa (r + t.inner)) {St : List (List Nat)} (hS : States r 0 St) (n : Nat) (f e : List Nat → Int)
    (hf : ∀ s ∈ St, f s = startT q r h s) (he : ∀ s ∈ St, e s = endT q r t s) : val St (rowT q r 0 St row) f e n = strip q r row n h t := by
  have hM : ([] : List Nat).Nodup := List.nodup_nil
  have hMq : ∀ x ∈ ([] : List Nat), x < q := fun x hx => by cases hx
  unfold val
  rw [lin_val]
  have e1 : S St (fun s => f s * mulN St (rowT q r 0 St row) n e s) = S (grown h.un h.sa (r + h.inner) [] 0) fun y => fal q 0 y.2 * mulN St (rowT q r 0 St row) n e (nrm 0 (y.1.take r)) := by
    have : ∀ s ∈ St, f s * mulN St (rowT q r 0 St row) n e s = S (grown h.un h.sa (r + h.inner) [] 0) fun y => if nrm 0 (y.1.take r) = s then fal q 0 y.2 * mulN St (rowT q r 0 St row) n e s else 0 := by
      intro s hs
      rw [hf s hs]
      unfold startT
      rw [← S_mul_right]
      refine S_congr fun y _ => ?_
      split
      · rfl
      · rw [Int.zero_mul]
    rw [S_congr this, S_swap]
    refine S_congr fun y hy => ?_
    have hlen : y.1.length = r + h.inner := grown_length (Nat.zero_le _) hy
    exact S_pick hS.nd (hS.all _ (by rw [List.length_take, hlen]; omega)) fun s => fal q 0 y.2 * mulN St (rowT q r 0 St row) n e s
  rw [e1]
  have e2 := growth0 okh hM hMq (fun L => mulN St (rowT q r 0 St row) n e (nrm 0 (L.take r))) (c := []) (fun x hx => by cases hx)
  have e3 : S (grown h.un h.sa (r + h.inner) [] 0) (fun y => fal q 0 y.2 * mulN St (rowT q r 0 St row) n e (nrm 0 (y.1.take r))) = ways0 q h.un h.sa (r + h.inner) [] fun d => mulN St (rowT q r 0 St row) n e (nrm 0 ((lab [] d).take r)) := e2.symm
  have e4 : ways0 q h.un h.sa (r + h.inner) [] (fun d => mulN St (rowT q r 0 St row) n e (nrm 0 ((lab [] d).take r))) = ways0 q h.un h.sa (r + h.inner) [] fun d => TrN q r row n (capE q r t) (d.take r) := by
    refine ways0_congr (Nat.zero_le _) (fun x hx => by cases hx) fun d hd hdq => ?_
    have hlen : (d.take r).length = r := by rw [List.length_take, hd]; omega
    have hlt : ∀ x ∈ d.take r, x < q := fun x hx => hdq x (List.take_subset _ _ hx)
    have e5 : nrm 0 ((lab [] d).take r) = lab [] (d.take r) := nrm_left hM r d
    rw [e5]
    refine Eq.trans (lump_n hM hMq hS e ok n (d.take r) hlen hlt) ?_
    refine TrN_agree (n := n) (fun l' hl' hq' => ?_) _ hlen hlt
    show e (lab [] l') = capE q r t l'
    rw [he _ (lab_in hM hS hl')]
    unfold capE endT
    refine Eq.trans (S_congr fun y _ => ?_) (growth0 okt hM hMq (fun _ => 1) hq').symm
    rw [Int.mul_one]
    rfl
  rw [e3, e4, ways0_tuples okh _ (Nat.zero_le _)]
  unfold strip
  refine S_congr fun a ha => ?_
  obtain ⟨ha1, ha2⟩ := mem_tuples.mp ha
  rw [List.nil_append]
  split
  · have hlen : (a.take r).length = r := by
      rw [List.length_take, ha1]
      show min r (r + h.inner - 0) = r
      omega
    have hlt : ∀ x ∈ a.take r, x < q := fun x hx => ha2 x (List.take_subset _ _ hx)
    rw [TrN_expand n _ hlen hlt, capE_sum okt]
  · rfl
/-! ### the ring -/
theorem nrm_self : ∀ {p : List Nat} {m : Nat}, (∀ x ∈ p, x < m) → nrm m p = p
  | [], _, _ => rfl
  | a :: p, m, h => by
    have ha : a ∈ List.range m := List.mem_range.mpr (h a (by simp))
    have h1 : lbl (List.range m) a = a := by
      unfold lbl
      rw [if_pos ha]
      have := List.nodup_range (n := m).idxOf_getElem a (by simpa using h a (by simp))
      simpa using this
    have h2 : more (List.range m) a = List.range m := by unfold more; rw [if_pos ha]
    show lbl (List.range m) a :: lab (more (List.range m) a) p = a :: p
    rw [h1, h2]
    exact congrArg (a :: ·) (nrm_self fun x hx => h x (by simp [hx]))
theorem usedBy_snoc (L : List Nat) (c m : Nat) : usedBy (L ++ [c]) m = max (usedBy L m) (c + 1) := by
  unfold usedBy
  rw [List.foldl_append]
  rfl
theorem usedBy_ge : ∀ (L : List Nat) (m : Nat), m ≤ usedBy L m
  | [], _ => Nat.le_refl _
  | a :: L, m => Nat.le_trans (Nat.le_max_left m (a + 1)) (usedBy_ge L (max m (a + 1)))
theorem usedBy_lt : ∀ {L : List Nat} {m x : Nat}, x ∈ L → x < usedBy L m
  | a :: L, m, x, h => by
    show x < usedBy L (max m (a + 1))
    rcases List.mem_cons.mp h with h | h
    · have := usedBy_ge L (max m (a + 1))
      omega
    · exact usedBy_lt h
theorem gro_used {un sa : List (Nat × Nat)} {m : Nat} : ∀ {k j : Nat} {L : List Nat} {y : List Nat × Nat}, y ∈ gro un sa j k [(L, usedBy L m)] → y.2 = usedBy y.1 m
  | 0, _, L, y, h => by
    have : y = (L, usedBy L m) := by simpa [gro] using h
    rw [this]
  | k + 1, j, L, y, h => by
    have h : y ∈ gro un sa (j + 1) k (with1 [(L, usedBy L m)] (at_ un j) (at_ sa j)) := h
    rw [gro_lots, List.mem_flatMap] at h
    obtain ⟨x, hx, hy⟩ := h
    have hx : x ∈ one (at_ un j) (at_ sa j) (L, usedBy L m) := by simpa [with1] using hx
    obtain ⟨c, h1, _, rfl⟩ := mem_one.mp hx
    have hy : y ∈ gro un sa (j + 1) k [(L ++ [c], max (usedBy L m) (c + 1))] := hy
    rw [← usedBy_snoc] at hy
    exact gro_used hy
theorem env_self : ∀ (d E : List Nat), (∀ x ∈ d, x ∈ E) → env E d = E
  | [], _, _ => rfl
  | a :: d, E, h => by
    show env (more E a) d = E
    have : more E a = E := by simp [more, h a (by simp)]
    rw [this]
    exact env_self d E fun x hx => h x (by simp [hx])
theorem ring_val {q r : Nat} {row : List Pc} (ok : Pcs r row) {Ps : List (List Nat)} (hP : Ps.Perm ((parts r 0).map (·.1))) {St : List Nat → List (List Nat)} (hS : ∀ p ∈ Ps, States r (usedBy p 0) (St p)) (n : Nat) (f e : List Nat → List Nat → Int)
    (hf : ∀ p ∈ Ps, ∀ s ∈ St p, f p s = if s = p then fal q 0 (usedBy p 0) else 0) (he : ∀ p ∈ Ps, ∀ s ∈ St p, e p s = if s = p then 1 else 0) :
    (S Ps fun p => val (St p) (rowT q r (usedBy p 0) (St p) row) (f p) (e p) n) = S (tuples q r) fun l => btw q r row n l l := by
  let g : List Nat → Int := fun p => mulN (St p) (rowT q r (usedBy p 0) (St p) row) n (e p) p
  have inP : ∀ p ∈ Ps, p ∈ St p := by
    intro p hp
    obtain ⟨y, hy, rfl⟩ := List.mem_map.mp (hP.mem_iff.mp hp)
    have hl := parts_mem_len hy
    have := (hS y.1 hp).all y.1 hl
    rwa [nrm_self fun x hx => usedBy_lt hx] at this
  have e1 : (S Ps fun p => val (St p) (rowT q r (usedBy p 0) (St p) row) (f p) (e p) n) = S Ps fun p => fal q 0 (usedBy p 0) * g p := by
    refine S_congr fun p hp => ?_
    unfold val
    rw [lin_val]
    refine Eq.trans (S_congr fun s hs => ?_) (S_pick (hS p hp).nd (inP p hp) fun s => fal q 0 (usedBy p 0) * mulN (St p) (rowT q r (usedBy p 0) (St p) row) n (e p) s)
    rw [hf p hp s hs]
    by_cases z : s = p
    · rw [if_pos z, if_pos z.symm]
    · rw [if_neg z, if_neg (fun w => z w.symm), Int.zero_mul]
  rw [e1, S_perm hP, S_map]
  have e2 : S (parts r 0) (fun y => fal q 0 (usedBy y.1 0) * g y.1) = S (parts r 0) fun y => fal q 0 (y.2 - 0) * g y.1 := by
    refine S_congr fun y hy => ?_
    have : y.2 = usedBy y.1 0 := gro_used (L := []) (m := 0) hy
    rw [← this]; rfl
  rw [e2]
  have hu : ∀ p ∈ ([] : List (Nat × Nat)), p.1 < p.2 := fun p h => by cases h
  have e3 := growth (q := q) (un := []) (sa := []) (M := []) List.nodup_nil (fun x hx => by cases hx) hu hu g r 0 [] rfl (fun x hx => by cases hx)
  refine Eq.trans e3.symm ?_
  have e4 := ways_tuples (q := q) (un := []) (sa := []) hu hu (fun d => g (lab [] d)) r [] rfl
  refine Eq.trans e4 (S_congr fun l hl => ?_)
  obtain ⟨h1, h2⟩ := mem_tuples.mp hl
  have hk : fitsAll [] [] ([] ++ l) = true := fitsAll_iff.mpr ⟨fun _ hp => (nomatch hp), fun _ hp => (nomatch hp)⟩
  rw [if_pos hk, List.nil_append]
  have hin : lab [] l ∈ Ps := by
    rw [hP.mem_iff]
    have := gro_all (M := []) l []
    rw [List.nil_append, h1] at this
    exact List.mem_map.mpr ⟨_, this, rfl⟩
  have hu2 : usedBy (lab [] l) 0 = (env [] l).length := usedBy_lab l []
  have hSl : States r (env [] l).length (St (lab [] l)) := hu2 ▸ hS _ hin
  have self : lab (env [] l) l = lab [] l := by
    rw [lab_idx, lab_idx, env_self l (env [] l) fun x hx => mem_env.mpr (.inr hx)]
  have e5 := between_val (q := q) ok hl hl hSl n (fun s => if s = lab (env [] l) l then 1 else 0) (e (lab [] l)) (fun s _ => rfl) (fun s hs => he _ hin s hs)
  rw [← e5]
  unfold val
  rw [lin_val]
  show mulN (St (lab [] l)) (rowT q r (usedBy (lab [] l) 0) (St (lab [] l)) row) n (e (lab [] l)) (lab [] l) = _
  rw [hu2, self]
  have e6 := S_pick hSl.nd (inP _ hin) fun s => mulN (St (lab [] l)) (rowT q r (env [] l).length (St (lab [] l)) row) n (e (lab [] l)) s
  rw [← e6]
  refine S_congr fun s _ => ?_
  by_cases z : s = lab [] l
  · rw [if_pos z, if_pos z.symm, Int.one_mul]
  · rw [if_neg z, if_neg (fun w => z w.symm), Int.zero_mul]
end Hue

/-! Tables as lists; sizes. -/
namespace Hue
def dot0 (xs ys : List Int) : Int := ((xs.zip ys).map fun p => p.1 * p.2).sum
theorem dot_map {α : Type} (St : List α) (f g : α → Int) : dot0 (St.map f) (St.map g) = S St fun s => f s * g s := by
  unfold dot0 S
  induction St with
  | nil => rfl
  | cons a l ih =>
    simp only [List.map_cons, List.zip_cons_cons, List.sum_cons] at ih ⊢
    rw [ih]
def col0 (M : List (List Int)) (j : Nat) : List Int := M.map fun r => r.getD j 0
theorem col_map {α : Type} (St : List α) (B : α → α → Int) {j : Nat} {t : α} (h : St[j]? = some t) : col0 (St.map fun s => St.map (B s)) j = St.map fun s => B s t := by
  unfold col0
  rw [List.map_map]
  refine List.map_congr_left fun s _ => ?_
  show (St.map (B s)).getD j 0 = B s t
  rw [List.getD_eq_getElem?_getD, List.getElem?_map, h]
  rfl
theorem range_map {α β : Type} (St : List α) (F : Nat → β) (G : α → β) (h : ∀ (j : Nat) (t : α), St[j]? = some t → F j = G t) : (List.range St.length).map F = St.map G := by
  apply List.ext_getElem
  · simp
  · intro i h1 h2
    have hi : i < St.length := by simpa using h1
    rw [List.getElem_map, List.getElem_map, List.getElem_range]
    exact h i _ (List.getElem?_eq_getElem hi)
def prodM0 (A B : List (List Int)) : List (List Int) := A.map fun line => (List.range B.length).map fun j => dot0 line (col0 B j)
theorem prod_map (St : List (List Nat)) (A B : List Nat → List Nat → Int) : prodM0 (St.map fun s => St.map (A s)) (St.map fun s => St.map (B s)) = St.map fun s => St.map (mMul St A B s) := by
  unfold prodM0
  rw [List.map_map, List.length_map]
  refine List.map_congr_left fun s _ => ?_
  refine range_map St _ _ fun j t h => ?_
  rw [col_map St B h, dot_map]
  rfl
def ledM0 (l : List Int) (M : List (List Int)) : List Int := (List.range M.length).map fun j => dot0 l (col0 M j)
theorem led_map (St : List (List Nat)) (f : List Nat → Int) (A : List Nat → List Nat → Int) : ledM0 (St.map f) (St.map fun s => St.map (A s)) = St.map fun t => S St fun s => f s * A s t := by
  unfold ledM0
  rw [List.length_map]
  refine range_map St _ _ fun j t h => ?_
  rw [col_map St A h, dot_map]
/-! ### sizes -/
theorem S_bound {α : Type} {l : List α} {f : α → Int} {B : Nat} (h : ∀ a ∈ l, (f a).natAbs ≤ B) : (S l f).natAbs ≤ l.length * B := by
  induction l with
  | nil => simp [S]
  | cons a l ih =>
    rw [S_cons, List.length_cons, Nat.add_mul]
    have h1 := h a (by simp)
    have h2 := ih fun b hb => h b (by simp [hb])
    have h3 := Int.natAbs_add_le (f a) (S l f)
    omega
theorem S_pow {α : Type} {l : List α} {f : α → Int} {b c : Nat} (hl : l.length ≤ 2 ^ c) (h : ∀ a ∈ l, (f a).natAbs < 2 ^ b) : (S l f).natAbs < 2 ^ (b + c) := by
  have h1 : (S l f).natAbs ≤ l.length * (2 ^ b - 1) := S_bound fun a ha => by have := h a ha; omega
  have h2 : l.length * (2 ^ b - 1) ≤ 2 ^ c * (2 ^ b - 1) := Nat.mul_le_mul_right _ hl
  have h3 : 2 ^ c * (2 ^ b - 1) < 2 ^ c * 2 ^ b := by
    have hb : 0 < 2 ^ b := Nat.two_pow_pos b
    exact Nat.mul_lt_mul_of_pos_left (by omega) (Nat.two_pow_pos c)
  rw [Nat.pow_add, Nat.mul_comm (2 ^ b)]
  omega
theorem mul_pow {i j : Int} {a b : Nat} (ha : i.natAbs < 2 ^ a) (hb : j.natAbs < 2 ^ b) : (i * j).natAbs < 2 ^ (a + b) := by
  rw [Int.natAbs_mul, Nat.pow_add]
  exact Nat.mul_lt_mul'' ha hb
theorem fal_bound {q s : Nat} (hq : q ≤ 16) : ∀ {k : Nat}, s + k ≤ 16 → (fal q s k).natAbs ≤ 16 ^ k
  | 0, _ => by simp [fal]
  | k + 1, h => by
    show (fal q s k * ((q : Int) - s - k)).natAbs ≤ 16 ^ k * 16
    rw [Int.natAbs_mul]
    exact Nat.mul_le_mul (fal_bound hq (by omega)) (by omega)
theorem fal_lt {q s k : Nat} (hq : q ≤ 16) (h : s + k ≤ 10) : (fal q s k).natAbs < 2 ^ 41 := by
  have h1 := fal_bound hq (show s + k ≤ 16 by omega)
  have h2 : 16 ^ k ≤ 16 ^ 10 := Nat.pow_le_pow_right (by decide) (by omega)
  have h3 : (16 : Nat) ^ 10 < 2 ^ 41 := by decide
  omega
theorem mMul_bound {St : List (List Nat)} {A B : List Nat → List Nat → Int} {a b : Nat} (hl : St.length ≤ 16) (hA : ∀ s ∈ St, ∀ t ∈ St, (A s t).natAbs < 2 ^ a) (hB : ∀ s ∈ St, ∀ t ∈ St, (B s t).natAbs < 2 ^ b) : ∀ s ∈ St, ∀ t ∈ St, (mMul St A B s t).natAbs < 2 ^ (a + b + 4) :=
  fun s hs t ht => S_pow (c := 4) hl fun u hu => mul_pow (hA s hs u hu) (hB u hu t ht)
theorem mI_bound (s t : List Nat) : (mI s t).natAbs < 2 ^ 1 := by
  unfold mI
  split <;> decide
theorem lin_bound {St : List (List Nat)} {A : List Nat → List Nat → Int} {f : List Nat → Int} {a b : Nat} (hl : St.length ≤ 16) (hA : ∀ s ∈ St, ∀ t ∈ St, (A s t).natAbs < 2 ^ a) (hf : ∀ s ∈ St, (f s).natAbs < 2 ^ b) : ∀ n, ∀ t ∈ St, (lin St A f n t).natAbs < 2 ^ (b + n * (a + 4))
  | 0, t, ht => by simpa [lin] using hf t ht
  | n + 1, t, ht => by
    show (S St fun s => lin St A f n s * A s t).natAbs < _
    have h := S_pow (c := 4) hl fun s hs => mul_pow (lin_bound hl hA hf n s hs) (hA s hs t ht)
    have e : b + n * (a + 4) + a + 4 = b + (n + 1) * (a + 4) := by rw [Nat.add_mul, Nat.one_mul]; omega
    rw [e] at h
    exact h
end Hue

set_option maxHeartbeats 4000000
namespace Hue
open PySem PySem.W PyProof.Rows L2
/-! ### the text by places -/
def top (i : Nat) : Stmt := PySem.Challenge.pw_huestrips_k90_whole_middle_rows.main.body.getD i (.Pass ⟨0, 0, 0, 0⟩)
/-! ### data in the heap -/
def nV (n : Nat) : V := .int (n : Int)
/-- a tuple of numbers at a -/
def TupN (H : Hp) (a : Addr) (l : List Nat) : Prop := H a = some (.tup (l.map nV))
/-- a list of numbers at a -/
def LstN (H : Hp) (a : Addr) (l : List Nat) : Prop := H a = some (.lst (l.map nV))
theorem nV_get {l : List Nat} {i : Nat} {v : V} (h : (l.map nV)[i]? = some v) : ∃ x, l[i]? = some x ∧ v = nV x := by
  rw [List.getElem?_map] at h
  cases e : l[i]? with
  | none => rw [e] at h; cases h
  | some x => rw [e] at h; exact ⟨x, rfl, (Option.some.inj h).symm⟩
theorem at_nV {l : List Nat} {i : Nat} (h : i < l.length) : atI (l.map nV) ((i : Nat) : Int) = some (nV (l.getD i 0)) := by
  refine atI_nat ?_
  rw [List.getElem?_map, List.getD_eq_getElem?_getD, List.getElem?_eq_getElem h]
  rfl
theorem nV_eq {a b : Nat} : (nV a = nV b) ↔ a = b := by
  unfold nV
  constructor
  · intro h
    injection h with h
    exact Int.ofNat.inj h
  · intro h
    rw [h]
/-! ### hidden addresses: what a proof may still change -/
def hide (Z : List Addr) (H : Hp) : Hp := fun b => if b ∈ Z then none else H b
theorem hide_in {Z : List Addr} {H : Hp} {b : Addr} (h : b ∈ Z) : hide Z H b = none := if_pos h
theorem hide_out {Z : List Addr} {H : Hp} {b : Addr} (h : b ∉ Z) : hide Z H b = H b := if_neg h
theorem hide_nil (H : Hp) : hide [] H = H := by
  funext b
  exact if_neg (by simp)
theorem hide_sub (Z : List Addr) (H : Hp) : Same (hide Z H) H := fun b o e => by
  by_cases h : b ∈ Z
  · rw [hide_in h] at e; cases e
  · rw [hide_out h] at e; exact e
theorem hide_same {H H' : Hp} (Z : List Addr) (h : Same H H') : Same (hide Z H) (hide Z H') := fun b o e => by
  by_cases hb : b ∈ Z
  · rw [hide_in hb] at e; cases e
  · rw [hide_out hb] at e ⊢; exact h b o e
theorem hide_mono {Z Z' : List Addr} {H : Hp} (h : ∀ b ∈ Z, b ∈ Z') : Same (hide Z' H) (hide Z H) := fun b o e => by
  by_cases hb : b ∈ Z'
  · rw [hide_in hb] at e; cases e
  · rw [hide_out hb] at e
    rw [hide_out fun z => hb (h b z)]
    exact e
theorem hide_upd {Z : List Addr} {H : Hp} {a : Addr} {o : HO} (h : a ∈ Z) : hide Z (upd H a o) = hide Z H := by
  funext b
  by_cases hb : b ∈ Z
  · rw [hide_in hb, hide_in hb]
  · rw [hide_out hb, hide_out hb, upd_ne (fun (e : b = a) => hb (e ▸ h))]
theorem same_new {H : Hp} {a : Addr} {o : HO} (h : H a = none) : Same H (upd H a o) := fun b u e => by
  rw [upd_ne (ne_of_none e h)]
  exact e
/-- all but what is hidden stays, the hidden one is changed -/
theorem same_hide_upd {Z : List Addr} {H H' : Hp} {a : Addr} {o : HO} (ha : a ∈ Z) (h : Same (hide Z H) H') : Same (hide Z H) (upd H' a o) := fun b u e => by
  have : b ≠ a := fun z => by
    rw [z, hide_in ha] at e
    cases e
  rw [upd_ne this]
  exact h b u e
theorem upd_keep {H H' : Hp} {a : Addr} {o : HO} (h : Same H H') (ha : H a = none) : Same H (upd H' a o) := fun b u e => by
  rw [upd_ne (ne_of_none e ha)]
  exact h b u e
theorem TupN.keep {H H' : Hp} {a : Addr} {l : List Nat} (s : Same H H') (h : TupN H a l) : TupN H' a l := s _ _ h
theorem LstN.keep {H H' : Hp} {a : Addr} {l : List Nat} (s : Same H H') (h : LstN H a l) : LstN H' a l := s _ _ h
/-! ### pairs of a part, lots, lists of lists -/
theorem pd_len {α β : Type} {F : α → β → Prop} : ∀ {l : List α} {m : List β}, Paired F l m → l.length = m.length
  | _, _, .nil => rfl
  | _, _, .cons _ t => by rw [List.length_cons, List.length_cons, pd_len t]
theorem pd_get {α β : Type} {F : α → β → Prop} : ∀ {l : List α} {m : List β} {i : Nat} {y : β}, Paired F l m → m[i]? = some y → ∃ x, l[i]? = some x ∧ F x y
  | _, _, i, y, .nil, h => by simp at h
  | _, _, 0, y, .cons r _, h => by
    simp at h; subst h
    exact ⟨_, rfl, r⟩
  | _, _, i + 1, y, .cons _ t, h => by
    simp at h
    obtain ⟨x, h1, h2⟩ := pd_get t h
    exact ⟨x, by simpa using h1, h2⟩
theorem pd_getL {α β : Type} {F : α → β → Prop} : ∀ {l : List α} {m : List β} {i : Nat} {x : α}, Paired F l m → l[i]? = some x → ∃ y, m[i]? = some y ∧ F x y
  | _, _, i, y, .nil, h => by simp at h
  | _, _, 0, y, .cons r _, h => by
    simp at h; subst h
    exact ⟨_, rfl, r⟩
  | _, _, i + 1, y, .cons _ t, h => by
    simp at h
    obtain ⟨x, h1, h2⟩ := pd_getL t h
    exact ⟨x, by simpa using h1, h2⟩
theorem pd_snoc {α β : Type} {F : α → β → Prop} : ∀ {l : List α} {m : List β} {x : α} {y : β}, Paired F l m → F x y → Paired F (l ++ [x]) (m ++ [y])
  | _, _, _, _, .nil, h => .cons h .nil
  | _, _, _, _, .cons r t, h => .cons r (pd_snoc t h)
theorem pd_imp {α β : Type} {F G : α → β → Prop} : ∀ {l : List α} {m : List β}, Paired F l m → (∀ a b, F a b → G a b) → Paired G l m
  | _, _, .nil, _ => .nil
  | _, _, .cons r t, f => .cons (f _ _ r) (pd_imp t f)
/-- a lot: a pair of labels and the number in use -/
def RLot (H : Hp) (x : List Nat × Nat) (v : V) : Prop := ∃ t a, v = .ref t ∧ H t = some (.tup [.ref a, nV x.2]) ∧ TupN H a x.1
theorem RLot.keep {H H' : Hp} {x : List Nat × Nat} {v : V} (s : Same H H') (h : RLot H x v) : RLot H' x v := by
  obtain ⟨t, a, h1, h2, h3⟩ := h
  exact ⟨t, a, h1, s _ _ h2, s _ _ h3⟩
def Lots (H : Hp) (D : Addr) (l : List (List Nat × Nat)) : Prop := ∃ vs, H D = some (.lst vs) ∧ Paired (RLot H) l vs
theorem Lots.keep {H H' : Hp} {D : Addr} {l : List (List Nat × Nat)} (s : Same H H') (h : Lots H D l) : Lots H' D l := by
  obtain ⟨vs, h1, h2⟩ := h
  exact ⟨vs, s _ _ h1, pd_imp h2 fun _ _ r => r.keep s⟩
/-- a list of lists of numbers -/
def RLst (H : Hp) (x : List Nat) (v : V) : Prop := ∃ a, v = .ref a ∧ LstN H a x
theorem RLst.keep {H H' : Hp} {x : List Nat} {v : V} (s : Same H H') (h : RLst H x v) : RLst H' x v := by
  obtain ⟨a, h1, h2⟩ := h
  exact ⟨a, h1, s _ _ h2⟩
/-- a pair of places -/
def RPair (H : Hp) (x : Nat × Nat) (v : V) : Prop := ∃ t, v = .ref t ∧ H t = some (.tup [nV x.1, nV x.2])
theorem RPair.keep {H H' : Hp} {x : Nat × Nat} {v : V} (s : Same H H') (h : RPair H x v) : RPair H' x v := by
  obtain ⟨a, h1, h2⟩ := h
  exact ⟨a, h1, s _ _ h2⟩
/-- a tuple of pairs, a list of pairs -/
def PairsT (H : Hp) (a : Addr) (l : List (Nat × Nat)) : Prop := ∃ vs, H a = some (.tup vs) ∧ Paired (RPair H) l vs
def PairsL (H : Hp) (a : Addr) (l : List (Nat × Nat)) : Prop := ∃ vs, H a = some (.lst vs) ∧ Paired (RPair H) l vs
theorem PairsT.keep {H H' : Hp} {a : Addr} {l : List (Nat × Nat)} (s : Same H H') (h : PairsT H a l) : PairsT H' a l := by
  obtain ⟨vs, h1, h2⟩ := h
  exact ⟨vs, s _ _ h1, pd_imp h2 fun _ _ r => r.keep s⟩
theorem PairsL.keep {H H' : Hp} {a : Addr} {l : List (Nat × Nat)} (s : Same H H') (h : PairsL H a l) : PairsL H' a l := by
  obtain ⟨vs, h1, h2⟩ := h
  exact ⟨vs, s _ _ h1, pd_imp h2 fun _ _ r => r.keep s⟩
abbrev FnP (K : PySem.W.Frag) (x : Str) (st : Stmt) (f : Addr) (fd : FuncData) : Prop := FunD K x x (defArgs st) (defBody st) (defScope st) [] [] f fd
theorem fn_binds {K : PySem.W.Frag} {x : Str} {st : Stmt} {f : Addr} {fd : FuncData} {ps : List Str} (F : FnP K x st f fd)
    (h : ∀ (kV doc pm : Value) (an : Option Addr) (cdv ct : Value) (us : List Value), us.length = ps.length → bindArgs (PySem.W.fnOf x x (defArgs st) (defBody st) (defScope st) .none kV doc pm an cdv ct) ⟨us, []⟩ = pure (ps.zip us)) : Binds K fd ps [] := FunD.bindsN F h
theorem small {n : Nat} (h : n ≤ 1000) : n < sizeLine := Nat.lt_of_le_of_lt h (by decide)
theorem small' {n : Nat} (h : n ≤ 1000) : n ≤ sizeLine := Nat.le_of_lt (small h)
theorem max_nV (i j : Nat) : V.int (if (j : Int) > (i : Int) then (j : Int) else (i : Int)) = nV (max i j) := by
  unfold nV
  congr 1
  split <;> omega
end Hue

set_option maxHeartbeats 0
namespace Hue
open PySem PySem.Spec PyProof.Rows L2
def dd0 : He.DefD := ⟨("ties_of", none), "ties_of", "ties_of", defArgs (top 12), defBody (top 12), defScope (top 12), [], []⟩
def dd1 : He.DefD := ⟨("fits", none), "fits", "fits", defArgs (top 13), defBody (top 13), defScope (top 13), [], []⟩
def dd2 : He.DefD := ⟨("used_by", none), "used_by", "used_by", defArgs (top 14), defBody (top 14), defScope (top 14), [], []⟩
def dd3 : He.DefD := ⟨("with_one_more", none), "with_one_more", "with_one_more", defArgs (top 16), defBody (top 16), defScope (top 16), [], []⟩
def dd4 : He.DefD := ⟨("grown", none), "grown", "grown", defArgs (top 15), defBody (top 15), defScope (top 15), [], []⟩
def dd5 : He.DefD := ⟨("normal", none), "normal", "normal", defArgs (top 17), defBody (top 17), defScope (top 17), [], []⟩
def dd6 : He.DefD := ⟨("partings", none), "partings", "partings", defArgs (top 18), defBody (top 18), defScope (top 18), [.int 0], []⟩
def dd7 : He.DefD := ⟨("counted", none), "counted", "counted", defArgs (top 41), defBody (top 41), defScope (top 41), [], []⟩
def dd8 : He.DefD := ⟨("whole", none), "whole", "whole", defArgs (top 51), defBody (top 51), defScope (top 51), [], []⟩
def dd9 : He.DefD := ⟨("number_of", none), "number_of", "number_of", defArgs (top 42), defBody (top 42), defScope (top 42), [], []⟩
def dd10 : He.DefD := ⟨("fallen", none), "fallen", "fallen", defArgs (top 30), defBody (top 30), defScope (top 30), [], []⟩
def dd11 : He.DefD := ⟨("product", none), "product", "product", defArgs (top 47), defBody (top 47), defScope (top 47), [], []⟩
def dd12 : He.DefD := ⟨("led", none), "led", "led", defArgs (top 48), defBody (top 48), defScope (top 48), [], []⟩
def dd13 : He.DefD := ⟨("piece_steps", none), "piece_steps", "piece_steps", defArgs (top 43), defBody (top 43), defScope (top 43), [], []⟩
def dd14 : He.DefD := ⟨("cap_starts", none), "cap_starts", "cap_starts", defArgs (top 44), defBody (top 44), defScope (top 44), [], []⟩
def dd15 : He.DefD := ⟨("cap_ends", none), "cap_ends", "cap_ends", defArgs (top 45), defBody (top 45), defScope (top 45), [], []⟩
def dd16 : He.DefD := ⟨("is_number", none), "is_number", "is_number", defArgs (top 20), defBody (top 20), defScope (top 20), [], []⟩
def dd17 : He.DefD := ⟨("require_number", none), "require_number", "require_number", defArgs (top 21), defBody (top 21), defScope (top 21), [], []⟩
def dd18 : He.DefD := ⟨("is_pair", none), "is_pair", "is_pair", defArgs (top 22), defBody (top 22), defScope (top 22), [], []⟩
def dd19 : He.DefD := ⟨("in_order", none), "in_order", "in_order", defArgs (top 23), defBody (top 23), defScope (top 23), [], []⟩
def dd20 : He.DefD := ⟨("runs_of", none), "runs_of", "runs_of", defArgs (top 50), defBody (top 50), defScope (top 50), [], []⟩
def dd21 : He.DefD := ⟨("require_web", none), "require_web", "require_web", defArgs (top 34), defBody (top 34), defScope (top 34), [], []⟩
def dd22 : He.DefD := ⟨("require_row", none), "require_row", "require_row", defArgs (top 32), defBody (top 32), defScope (top 32), [], []⟩
def dd23 : He.DefD := ⟨("require_rim", none), "require_rim", "require_rim", defArgs (top 54), defBody (top 54), defScope (top 54), [], []⟩
def dd24 : He.DefD := ⟨("require_below", none), "require_below", "require_below", defArgs (top 55), defBody (top 55), defScope (top 55), [], []⟩
def dd25 : He.DefD := ⟨("run_between", none), "run_between", "run_between", defArgs (top 56), defBody (top 56), defScope (top 56), [], []⟩
def dd26 : He.DefD := ⟨("_law_mixed", none), "_law_mixed", "_law_mixed", defArgs (top 59), defBody (top 59), defScope (top 59), [], []⟩
def dd27 : He.DefD := ⟨("_law_draw", none), "_law_draw", "_law_draw", defArgs (top 61), defBody (top 61), defScope (top 61), [], []⟩
def dd28 : He.DefD := ⟨("_law_pairs", none), "_law_pairs", "_law_pairs", defArgs (top 62), defBody (top 62), defScope (top 62), [], []⟩
def dd29 : He.DefD := ⟨("_law_part", none), "_law_part", "_law_part", defArgs (top 63), defBody (top 63), defScope (top 63), [], []⟩
def dd30 : He.DefD := ⟨("_law_tuples", none), "_law_tuples", "_law_tuples", defArgs (top 69), defBody (top 69), defScope (top 69), [], []⟩
def dd31 : He.DefD := ⟨("_law_longer", none), "_law_longer", "_law_longer", defArgs (top 68), defBody (top 68), defScope (top 68), [], []⟩
def dd32 : He.DefD := ⟨("_law_keeps", none), "_law_keeps", "_law_keeps", defArgs (top 70), defBody (top 70), defScope (top 70), [], []⟩
def dd33 : He.DefD := ⟨("checked_pairs", none), "checked_pairs", "checked_pairs", defArgs (top 24), defBody (top 24), defScope (top 24), [], []⟩
def dd34 : He.DefD := ⟨("require_sizes", none), "require_sizes", "require_sizes", defArgs (top 25), defBody (top 25), defScope (top 25), [], []⟩
def dd35 : He.DefD := ⟨("_law_cap", none), "_law_cap", "_law_cap", defArgs (top 65), defBody (top 65), defScope (top 65), [], []⟩
def dd36 : He.DefD := ⟨("_law_cap_ways", none), "_law_cap_ways", "_law_cap_ways", defArgs (top 73), defBody (top 73), defScope (top 73), [], []⟩
def dd37 : He.DefD := ⟨("_law_made", none), "_law_made", "_law_made", defArgs (top 66), defBody (top 66), defScope (top 66), [], []⟩
def dd38 : He.DefD := ⟨("count", none), "count", "count", defArgs (top 53), defBody (top 53), defScope (top 53), [], []⟩
def dd39 : He.DefD := ⟨("require_cap", none), "require_cap", "require_cap", defArgs (top 33), defBody (top 33), defScope (top 33), [], []⟩
def dd40 : He.DefD := ⟨("_law_piece", none), "_law_piece", "_law_piece", defArgs (top 64), defBody (top 64), defScope (top 64), [], []⟩
def dd41 : He.DefD := ⟨("_law_bare", none), "_law_bare", "_law_bare", defArgs (top 76), defBody (top 76), defScope (top 76), [], []⟩
def dd42 : He.DefD := ⟨("_law_inside", none), "_law_inside", "_law_inside", defArgs (top 77), defBody (top 77), defScope (top 77), [], []⟩
def dd43 : He.DefD := ⟨("between", none), "between", "between", defArgs (top 57), defBody (top 57), defScope (top 57), [], []⟩
def dd44 : He.DefD := ⟨("_law_caps_right", none), "_law_caps_right", "_law_caps_right", defArgs (top 79), defBody (top 79), defScope (top 79), [], []⟩
def dd45 : He.DefD := ⟨("_law_purse", none), "_law_purse", "_law_purse", defArgs (top 60), defBody (top 60), defScope (top 60), [], []⟩
def dd46 : He.DefD := ⟨("_law_right", none), "_law_right", "_law_right", defArgs (top 78), defBody (top 78), defScope (top 78), [], []⟩
def dd47 : He.DefD := ⟨("law", none), "law", "law", defArgs (top 80), defBody (top 80), defScope (top 80), [], []⟩
def dd48 : He.DefD := ⟨("Row", some "__iter__"), "__iter__", "Row.__iter__", defArgs (inClass (top 28) 2), defBody (inClass (top 28) 2), defScope (inClass (top 28) 2), [], []⟩
def dd49 : He.DefD := ⟨("Run", some "table_at"), "table_at", "Run.table_at", defArgs (inClass (top 46) 2), defBody (inClass (top 46) 2), defScope (inClass (top 46) 2), [], []⟩
def dd50 : He.DefD := ⟨("Run", some "ends_at"), "ends_at", "Run.ends_at", defArgs (inClass (top 46) 3), defBody (inClass (top 46) 3), defScope (inClass (top 46) 3), [], []⟩
def dd51 : He.DefD := ⟨("Run", some "__init__"), "__init__", "Run.__init__", defArgs (inClass (top 46) 0), defBody (inClass (top 46) 0), defScope (inClass (top 46) 0), [], []⟩
def dd52 : He.DefD := ⟨("Walk", some "__init__"), "__init__", "Walk.__init__", defArgs (inClass (top 49) 0), defBody (inClass (top 49) 0), defScope (inClass (top 49) 0), [], []⟩
def dd53 : He.DefD := ⟨("Walk", some "first_ways"), "first_ways", "Walk.first_ways", defArgs (inClass (top 49) 3), defBody (inClass (top 49) 3), defScope (inClass (top 49) 3), [], []⟩
def dd54 : He.DefD := ⟨("Cap", some "__init__"), "__init__", "Cap.__init__", defArgs (inClass (top 26) 0), defBody (inClass (top 26) 0), defScope (inClass (top 26) 0), [.int 0], []⟩
def dd55 : He.DefD := ⟨("Piece", some "__init__"), "__init__", "Piece.__init__", defArgs (inClass (top 27) 0), defBody (inClass (top 27) 0), defScope (inClass (top 27) 0), [.int 0], []⟩
def dd56 : He.DefD := ⟨("Strip", some "__init__"), "__init__", "Strip.__init__", defArgs (inClass (top 38) 0), defBody (inClass (top 38) 0), defScope (inClass (top 38) 0), [], []⟩
def dd57 : He.DefD := ⟨("Row", some "__init__"), "__init__", "Row.__init__", defArgs (inClass (top 28) 0), defBody (inClass (top 28) 0), defScope (inClass (top 28) 0), [], []⟩
def dd58 : He.DefD := ⟨("Ring", some "__init__"), "__init__", "Ring.__init__", defArgs (inClass (top 39) 0), defBody (inClass (top 39) 0), defScope (inClass (top 39) 0), [], []⟩
def fn0 : List He.DefD := [dd0, dd1, dd2, dd3, dd4, dd5, dd6, dd7, dd8, dd9, dd10, dd11, dd12, dd13, dd14, dd15, dd16, dd17, dd18, dd19, dd20, dd21, dd22, dd23, dd24, dd25, dd26, dd27, dd28, dd29]
def fn1 : List He.DefD := [dd30, dd31, dd32, dd33, dd34, dd35, dd36, dd37, dd38, dd39, dd40, dd41, dd42, dd43, dd44, dd45, dd46, dd47, dd48, dd49, dd50, dd51, dd52, dd53, dd54, dd55, dd56, dd57, dd58]
def fn : List He.DefD := fn0 ++ (fn1)
def fa0 : List He.Fa := [.glo "ties_of", .glo "fits", .glo "used_by", .glo "with_one_more", .glo "grown", .glo "normal", .glo "partings", .glo "counted", .glo "whole", .glo "number_of", .glo "fallen", .glo "product", .glo "led", .glo "piece_steps", .glo "cap_starts", .glo "cap_ends", .glo "is_number", .glo "require_number", .glo "is_pair", .glo "in_order", .glo "runs_of", .glo "require_web", .glo "require_row", .glo "require_rim", .glo "require_below", .glo "run_between", .glo "_law_mixed", .glo "_law_draw", .glo "_law_pairs", .glo "_law_part"]
def fa1 : List He.Fa := [.glo "_law_tuples", .glo "_law_longer", .glo "_law_keeps", .glo "checked_pairs", .glo "require_sizes", .glo "_law_cap", .glo "_law_cap_ways", .glo "_law_made", .glo "count", .glo "require_cap", .glo "_law_piece", .glo "_law_bare", .glo "_law_inside", .glo "between", .glo "_law_caps_right", .glo "_law_purse", .glo "_law_right", .glo "law", .glo "Cap", .glo "Piece", .glo "Row", .glo "Run", .glo "Walk", .glo "Strip", .glo "Ring", .free "range", .free "len", .free "tuple", .free "max", .free "list"]
def fa2 : List He.Fa := [.free "sorted", .free "sum", .free "zip", .free "int", .free "iter", .free "isinstance", .free "bool", .free "set", .free "enumerate", .free "dict", .free "min", .cls "Cap", .noat "Cap" "rim", .noat "Cap" "inner", .noat "Cap" "unlike", .noat "Cap" "same", .cls "Piece", .noat "Piece" "rim", .noat "Piece" "inner", .noat "Piece" "unlike", .noat "Piece" "same", .cls "Row", .noat "Row" "held", .noat "Row" "rim", .cls "Run", .noat "Run" "states", .noat "Run" "pieces", .noat "Run" "starts", .noat "Run" "ends", .cls "Walk"]
def fa3 : List He.Fa := [.noat "Walk" "trim", .noat "Walk" "ways", .cls "Strip", .noat "Strip" "head", .noat "Strip" "row", .noat "Strip" "tail", .cls "Ring", .noat "Ring" "row", .meth "Run" "table_at", .meth "Run" "ends_at", .meth "Walk" "first_ways", .meth "Row" "__iter__", .mkr "Cap", .mkr "Piece", .mkr "Row", .mkr "Run", .mkr "Walk", .mkr "Strip", .mkr "Ring"]
def fa : List He.Fa := fa0 ++ (fa1 ++ (fa2 ++ (fa3)))
def names1 : List PySem.Str := ["_wall", "__name__", "HueError", "InvalidNumber", "InvalidPairs", "InvalidPieces", "InvalidRow", "InvalidCap", "UnlikeRims", "InvalidWeb", "InvalidHues", "ties_of", "fits", "used_by", "grown", "with_one_more", "normal", "partings", "is_number", "require_number", "is_pair", "in_order", "checked_pairs", "require_sizes", "Cap", "Piece", "Row"]
def names2 : List PySem.Str := ["fallen", "require_row", "require_cap", "require_web", "Frame", "between_two", "row_times", "Strip", "Ring", "counted", "number_of", "piece_steps", "cap_starts", "cap_ends", "Run", "product", "led", "Walk", "runs_of", "whole", "count", "require_rim", "require_below", "run_between", "between"]
def names3 : List PySem.Str := ["_law_mixed", "_law_purse", "_law_draw", "_law_pairs", "_law_part", "_law_piece", "_law_cap", "_law_made", "_law_web", "_law_longer", "_law_tuples", "_law_keeps", "_law_next", "_law_turns", "_law_cap_ways", "_law_walked", "_law_some_web", "_law_bare", "_law_inside", "_law_right", "_law_caps_right"]
def insB (K : PySem.W.Frag) (x : PySem.Str) : Bool := He.eqO (PySem.W.findIn K (.ref (He.ga K x)) "__class__") (some (some (.builtin "object.__class__"))) && decide (PySem.W.mroIn K (He.ga K x) (.type "object") = some true)
def gbB (K : PySem.W.Frag) : Bool := He.eqO (PySem.W.specialIn K (.builtin "object.__class__") "__get__") (some (some (.builtin "getset_descriptor.__get__"))) && decide (PySem.W.takesIn K (.builtin "object.__class__") = some true)
def kiB (K : PySem.W.Frag) (x y : PySem.Str) (b : Bool) : Bool := decide (PySem.W.kitOne K (.ref (He.ga K x)) (.ref (He.ga K y)) = some b)
def exB (K : PySem.W.Frag) : Bool := gbB K && ((insB K "Cap" && (insB K "Piece" && (insB K "Row" && (insB K "Strip" && (insB K "Ring"))))) && (kiB K "Cap" "Cap" true && (kiB K "Piece" "Piece" true && (kiB K "Row" "Row" true && (kiB K "Strip" "Strip" true && (kiB K "Ring" "Ring" true && (kiB K "Strip" "Ring" false && (kiB K "Ring" "Strip" false))))))))
def obX (K : PySem.W.Frag) : Bool × He.AlD := (exB K, He.obsD fa fn K)
abbrev R : PySem.W.OpenRow := PySem.W.OpenLaw.row PySem.Challenge.rw_huestrips_k90_whole_middle_rows
def obG (g : Addr → Option Obj) : Bool × He.AlD := obX (He.frG g (He.asD g 4))
def hk : PySem.W.Hook where
  α := Bool × He.AlD
  obs := fun s => obG s.heap.get?
  val := fun _ => (true, He.valD fn)
  says := fun _ h => ∃ K : PySem.W.Frag, K.In h ∧ exB K = true ∧ He.SaysD fa fn K
  of := fun _ _ e => ⟨_, He.frG_in, congrArg Prod.fst e, congrArg Prod.snd e⟩
  keeps := fun _ _ _ ⟨K, hK, c⟩ k => ⟨K, PySem.W.Frag.In.keeps hK k, c⟩
def ob (s : PySem.W.SharedT) : Bool × He.AlD := obG (HandSHeadRun.getT s)
theorem ob_eq (s : PySem.W.SharedT) : ob s = hk.obs s.abs := by
  have e : HandSHeadRun.getT s = s.abs.heap.get? := funext (HandSHeadRun.getT_eq s)
  show obG (HandSHeadRun.getT s) = obG s.abs.heap.get?
  rw [e]
end Hue

set_option maxHeartbeats 0
namespace Hue
open PySem PySem.Spec PyProof.Rows L2
theorem head_run (w : World) : HandSHeadRun.RunEq R (PySem.W.view R.prog [80]) hk ob 20000 (names1 ++ (names2 ++ names3)) w := by
  intro os
  kernel_rfl
end Hue

set_option maxHeartbeats 4000000
namespace Hue
open PySem PySem.W PyProof.Rows L2
/-! ### own rules out of the layer's -/
section
variable {X : Cx}
theorem opr_imp {f : Value → Value → Sem Value} {r r' : R2} (ho : OpR X f r) (h : ∀ x y H Q, r' x y H Q → r x y H Q) : OpR X f r' :=
  fun pins s σ H x y v u Q I rx ry q => ho pins s σ H x y v u Q I rx ry (h x y H Q q)
theorem slr_imp {r r' : V → Option Int → Option Int → Hp → VK → Prop} (ho : SlR X r) (h : ∀ x l u H Q, r' x l u H Q → r x l u H Q) : SlR X r' :=
  fun pins s σ H x v vl vu lo hi sl Q I rx hs pl pu q => ho pins s σ H x v vl vu lo hi sl Q I rx hs pl pu (h x lo hi H Q q)
/-- t + u of tuples that stand: some tuple of both -/
def rCatN : R2 := fun x y H Q => ∃ a b xs ys, x = .ref a ∧ y = .ref b ∧ H a = some (.tup xs) ∧ H b = some (.tup ys) ∧ xs.length + ys.length ≤ sizeLine ∧
  ∀ p H', Same H H' → (∀ d, H d = none → d ≠ p → H' d = none) → H' p = some (.tup (xs ++ ys)) → Q (.ref p) H'
theorem fresh_new {H : Hp} {p : Addr} {o : HO} : ∀ d, H d = none → d ≠ p → upd H p o d = none := fun d h n => by rw [upd_ne n]; exact h
theorem op_catN : OpR X (binaryOp .Add) rCatN := opr_imp op_catA fun x y H Q h => by
  obtain ⟨a, b, xs, ys, rfl, rfl, ha, hb, hz, k⟩ := h
  refine ⟨a, b, xs, ys, rfl, rfl, SqT.of ha, SqT.of hb, hz, fun e => ?_, fun _ e => ?_, fun _ _ p hp => ?_⟩
  · refine k b H (Same.refl H) (fun d h _ => h) ?_
    rw [hb, e]; rfl
  · refine k a H (Same.refl H) (fun d h _ => h) ?_
    rw [ha, e, List.append_nil]
  · exact k p _ (same_new hp) fresh_new upd_same
/-- t[lo:hi] of a tuple that stands: some tuple of these -/
def rSlN : V → Option Int → Option Int → Hp → VK → Prop := fun x lo hi H Q => ∃ a xs, x = .ref a ∧ H a = some (.tup xs) ∧
  ∀ p H', Same H H' → (∀ d, H d = none → d ≠ p → H' d = none) → H' p = some (.tup (cutV xs lo hi)) → Q (.ref p) H'
theorem sl_tupN : SlR X rSlN := slr_imp sl_tupA fun x l u H Q h => by
  obtain ⟨a, xs, rfl, ha, k⟩ := h
  refine ⟨a, xs, rfl, SqT.of ha, fun e => ?_, fun _ p hp => ?_⟩
  · refine k a H (Same.refl H) (fun d h _ => h) ?_
    rw [ha]
    unfold cutV
    rw [e.1, e.2]
    simp
  · exact k p _ (same_new hp) fresh_new upd_same
end
/-- a list that the code may change stands where nothing else is read -/
theorem hide_new {Z : List Addr} {H H' : Hp} (h : Same H H') : Same (hide Z H) (hide Z H') := hide_same Z h
end Hue
namespace Hue
open PySem PySem.W PyProof.Rows L2
/-! ### a list or a tuple walked -/
section
variable {X : Cx} {tg : Expr}
def iSeq (K : PySem.W.Frag) (tl : TE) : TI := fun σ H R => tl σ H fun x H1 => ∃ a, x = .ref a ∧ (((∃ xs, SqL K H1 a xs) ∧ R (Itl K a) H1) ∨ ((∃ xs, SqT K H1 a xs) ∧ R (Itt K a) H1))
theorem pi_seq {l : Expr} {tl : TE} (hl : PE X l tl) : PI X tg l (iSeq X.K tl) := by
  refine ⟨fun pins s σ H R I h => ?_⟩
  refine thn (hl.run pins s σ H _ I h) fun v s1 ⟨x, H1, I1, r1, q1⟩ => ?_
  obtain ⟨a, e, q⟩ := q1
  subst e
  cases r1
  rcases q with ⟨⟨xs, hq⟩, q⟩ | ⟨⟨xs, hq⟩, q⟩
  · obtain ⟨its, rv, p, hz⟩ := I1.list hq
    refine wpAny_pyIter_list p.isList ?_
    refine ⟨s1.heap.objs.size, [s1.heap.objs.size], _, _, H1, rfl, I1.kept (t' := s1.toks) fun b o e => Heap.get?_push_of_some _ e, turn_list a _, ⟨_, Heap.get?_push_size _ rfl, rfl, rfl⟩, fun b hb => ?_, q⟩
    have e : b = s1.heap.objs.size := by simpa using hb
    subst e
    exact I1.fpOk (Nat.le_refl _) (I1.hok.fresh (Nat.le_refl _))
  · obtain ⟨its, rv, p, hz⟩ := I1.tuple hq
    refine wpAny_pyIter_tuple (show s1.heap.IsTuple a its.toArray from p) ?_
    refine ⟨s1.heap.objs.size, [s1.heap.objs.size], _, _, H1, rfl, I1.kept (t' := s1.toks) fun b o e => Heap.get?_push_of_some _ e, turn_tuple a _, ⟨_, Heap.get?_push_size _ rfl, rfl, rfl⟩, fun b hb => ?_, q⟩
    have e : b = s1.heap.objs.size := by simpa using hb
    subst e
    exact I1.fpOk (Nat.le_refl _) (I1.hok.fresh (Nat.le_refl _))
end
theorem for_seq {K : PySem.W.Frag} {a : Addr} {xs : List V} {g : TG} {tb : TS} {D : Ends} {σ : L2.St} {H : Hp} (Pv : Nat → L2.St → Hp → Prop) (h0 : Pv 0 σ H)
    (hl : (∀ i σ H, i ≤ xs.length → Pv i σ H → SqL K H a xs) ∨ (∀ i σ H, i ≤ xs.length → Pv i σ H → SqT K H a xs))
    (hs : ∀ i x σ H, xs[i]? = some x → Pv i σ H → g x σ H fun σ2 H2 => tb { D with nx := Pv (i + 1), ct := Pv (i + 1), bk := D.nx } σ2 H2) (hd : ∀ σ H, Pv xs.length σ H → D.nx σ H) :
    ((∃ xs, SqL K H a xs) ∧ ∃ W : Nat → Nat → L2.St → Hp → Prop, (∃ m, W 0 m σ H) ∧ ∀ i m σ H, W i m σ H →
      ((Itl K a).stop i H ∧ D.nx σ H) ∨ ((Itl K a).go i H ∧ ∃ N : L2.St → Hp → Prop, (∀ σ' H', N σ' H' → ∃ m', m' < m ∧ W (i + 1) m' σ' H') ∧ ∀ x H', (Itl K a).yld i H x H' → g x σ H' fun σ2 H2 => tb { D with nx := N, ct := N, bk := D.nx } σ2 H2)) ∨
    ((∃ xs, SqT K H a xs) ∧ ∃ W : Nat → Nat → L2.St → Hp → Prop, (∃ m, W 0 m σ H) ∧ ∀ i m σ H, W i m σ H →
      ((Itt K a).stop i H ∧ D.nx σ H) ∨ ((Itt K a).go i H ∧ ∃ N : L2.St → Hp → Prop, (∀ σ' H', N σ' H' → ∃ m', m' < m ∧ W (i + 1) m' σ' H') ∧ ∀ x H', (Itt K a).yld i H x H' → g x σ H' fun σ2 H2 => tb { D with nx := N, ct := N, bk := D.nx } σ2 H2)) := by
  rcases hl with hl | hl
  · exact .inl ⟨⟨_, hl 0 _ _ (Nat.zero_le _) h0⟩, for_list Pv h0 hl hs hd⟩
  · exact .inr ⟨⟨_, hl 0 _ _ (Nat.zero_le _) h0⟩, for_tup Pv h0 hl hs hd⟩
end Hue

set_option maxHeartbeats 4000000
/-! Own rules of the layer: setdefault, items() and displays of dicts with tuple keys. -/
namespace Hue
open PySem PySem.W PyProof.Rows L2
section
variable {X : Cx} {pins : List (Addr × Obj)} {σ : L2.St} {H : Hp} {s : Shared} {a b : Addr} {r : Value} {d : V} {k : List Key} {A : Around} {E : Value → Shared → Prop}
theorem d_setdT {kvs : List (List Key × V)} {Q : Value → Shared → Prop} (hu : A.units + 1 < cLine) (I : Inv X pins σ H s) (e : H a = some (.dT kvs)) (eb : H b = some (.tup (k.map kV))) (rd : RelV d r) (hl : kvs.length < sizeLine)
    (h1 : ∀ v, valV kvs k = some v → ∀ (w' : Value) (s' : Shared), Inv X pins σ H s' → RelV v w' → Q w' s') (h2 : valV kvs k = none → ∀ (w' : Value) (s' : Shared), Inv X pins σ (upd H a (.dT (putK kvs k d))) s' → RelV d w' → Q w' s') :
    wpAny (model X.prog X.w) A (call (.builtin "dict.setdefault") [.ref a, .ref b, r]) Q E s := by
  obtain ⟨z, hd, xs, rel, dd⟩ := dt_of I.hok e
  have hz : xs.length ≤ sizeLine := by rw [← Paired.length rel]; exact z
  have hl2 : (putK kvs k d).length ≤ sizeLine := by have := length_putK kvs k d; omega
  refine call_setdefault_heap (hsz := hz) (tupleKind_room_in1 hu) (key_of I.hok eb) hd dd (fun p hp => ?_) fun hn h' dd' hs => ?_
  · have q := KT.val rel k
    rw [hp] at q
    cases q0 : valV kvs k with
    | none => rw [q0] at q; exact (show False from q).elim
    | some v0 => rw [q0] at q; exact h1 v0 q0 _ _ (I.tok _) q
  · have q := KT.val rel k
    rw [hn] at q
    cases q0 : valV kvs k with
    | some v0 => rw [q0] at q; exact (show False from q).elim
    | none =>
      obtain ⟨q, es, ep, hq, g2, g3, g4, _, g5⟩ := dd'
      refine h2 q0 _ _ (d_write I (by rw [e]; exact True.intro) hs ⟨q, hq⟩ ⟨hl2, hd, _, (rel.put k eb rd).keeps fun c ys ec => ?_, q, es, ep, hq, g2, g3, g4, g5⟩) rd
      rw [upd_ne (ne_of ec e (fun z => nomatch z))]
      exact ec
end
/-- d.setdefault(y, z), the keys tuples -/
def tDSetdT (td ty tx : TE) : TE := fun σ H Q => td σ H fun x H1 => ∃ a, x = .ref a ∧ IsD H1 a ∧ ty σ H1 fun y H2 => tx σ H2 fun z H3 => ∃ (kvs : List (List Key × V)) (k : List Key) (b : Addr), H3 a = some (.dT kvs) ∧ y = .ref b ∧ H3 b = some (.tup (k.map kV)) ∧ kvs.length < sizeLine ∧
  (∀ v, valV kvs k = some v → Q v H3) ∧ (valV kvs k = none → Q z (upd H3 a (.dT (putK kvs k z))))
section
variable {X : Cx} {o e f : Expr} {td ty tx : TE} {apos cpos : Pos}
theorem pe_dsetdT (hu : X.A.units + 1 < cLine) (ho : PE X o td) (he : PE X e ty) (hf : PE X f tx) (m : M2 X o "setdefault" apos e f cpos) : PE X (.Call (.Attribute o "setdefault" apos) [e, f] [] cpos) (tDSetdT td ty tx) := by
  refine ⟨fun pins s σ H Q I h => ?_⟩
  refine wpAny_Call_method m.base m.few m.line PySem.F.plainAttrs_dict PySem.F.slot_dict_setdefault PySem.F.type_dict_setdefault (thn (ho.run pins s σ H _ I h) fun u s1 ⟨x, H1, I1, rx, a, ex, d, q1⟩ => ?_)
  subst ex
  obtain rfl : u = Value.ref a := rx
  obtain ⟨t1, t2, _⟩ := isD_at I1 d
  refine ⟨t1, t2, ?_⟩
  rw [m.trees]
  refine Calls.callWith_builtin rfl (Calls.evalArgs_plain (Calls.spliced_cons (thn (he.run pins s1 σ H1 _ I1 q1) fun iv s2 ⟨y, H2, I2, ry, q2⟩ =>
    Calls.spliced_cons (thn (hf.run pins s2 σ H2 _ I2 q2) fun fv s3 ⟨z, H3, I3, rz, kvs, k, b, ea, ey, eb, hl, q3, q4⟩ => Calls.spliced_nil ?_))))
  subst ey
  obtain rfl : iv = Value.ref b := ry
  exact d_setdT hu I3 ea eb rz hl (fun v hv w' s4 I4 rw' => ⟨v, _, I4, rw', q3 v hv⟩) fun hn w' s4 I4 rw' => ⟨z, _, I4, rw', q4 hn⟩
end
/-! ### items() -/
section
variable {X : Cx} {pins : List (Addr × Obj)} {σ : L2.St} {H : Hp} {s : Shared} {d : Addr} {o : Obj}
theorem frzTV {kvs : List (List Key × V)} (I : Inv X pins σ H s) (h : H d = some (.frz o (.dT kvs))) :
    (d == sysModules) = false ∧ s.heap.get? d = some o ∧ o.ExactDict ∧ ∃ (es : Array DictEntry) (ep : Nat), o.data = .dict es ep ∧ es.size = kvs.length ∧
      ∀ (i : Nat) (k : List Key) (v : V), kvs[i]? = some (k, v) → ∃ (en : DictEntry) (q : Addr), es[i]? = some en ∧ en.key = .ref q ∧ H q = some (.tup (k.map kV)) ∧ RelV v en.val := by
  obtain ⟨hd, z, hs, xs, pr, o', es, ep, ho, hx, hdt, he, _⟩ := I.hok d _ h
  rw [hd] at ho
  cases ho
  refine ⟨hs, hd, hx, es, ep, hdt, ?_, fun i k v e => ?_⟩
  · have l1 : es.size = xs.length := size_of_entries he
    have l2 : kvs.length = xs.length := Paired.length pr
    omega
  · obtain ⟨b, hb, e1, e2, e3⟩ := paired_get pr e
    have q := entry_at he i
    rw [hb] at q
    exact ⟨_, b.2.1, q, rfl, e2, e3⟩
end
/-- the pairs of a locked dict with tuple keys, each a new tuple of the key's own tuple and the value -/
def ItiT (d : Addr) (o : Obj) (kvs : List (List Key × V)) : It :=
  ⟨fun i H => H d = some (.frz o (.dT kvs)) ∧ i < kvs.length, fun i H x H' => ∃ T k v q, kvs[i]? = some (k, v) ∧ x = .ref T ∧ H T = none ∧ H q = some (.tup (k.map kV)) ∧ H' = upd H T (.tup [.ref q, v]), fun i H => H d = some (.frz o (.dT kvs)) ∧ kvs.length ≤ i⟩
section
variable {P : Program} {w : World} {K : PySem.W.Frag} {tg : Expr} {d : Addr} {o : Obj} {es : Array DictEntry} {ep : Nat}
theorem turn_itemsT {kvs : List (List Key × V)} {elts : List Expr} {kk : Nat} {tpos : Pos} (it : Addr) (hod : o.data = .dict es ep) :
    Turn P w K (.Tuple elts kk tpos) (ItiT d o kvs) [it] it (fun i h => ∃ ok ov, IsItemIter h it d i kvs.length ep ok ov) where
  mem := by simp
  obj := fun i h st b hb => by
    have e : b = it := by simpa using hb
    subst e
    obtain ⟨ok, ov, e⟩ := st
    exact ⟨_, e, fun v z => nomatch z⟩
  keep := fun i h h' st k => let ⟨ok, ov, e⟩ := st; ⟨ok, ov, k it (by simp) _ e⟩
  item := by
    intro X hP hw hK hc i pins s σ H E I hf st hg
    subst hP hw hK
    obtain ⟨hd, hi⟩ := hg
    obtain ⟨hs, hgd, hx, es', ep', hdt, hsz, ent⟩ := frzTV I hd
    obtain ⟨rfl, rfl⟩ := dict_ep hod hdt
    obtain ⟨⟨k, v⟩, hkv⟩ : ∃ p, kvs[i]? = some p := ⟨kvs[i], List.getElem?_eq_getElem hi⟩
    obtain ⟨en, q, hen, ek, hq, rv⟩ := ent i k v hkv
    obtain ⟨ok, ov, he⟩ := st
    rw [← hsz] at he
    have hi2 : i < es'.size := by omega
    have een : es'[i] = en := by
      have := Array.getElem?_eq_some_iff.mp hen
      exact this.2
    have hlt : it < s.heap.objs.size := Heap.lt_size he
    refine DT.nextI he ⟨o, hgd, hx, hdt⟩ hi2 fun h' ho hT hz hk => ?_
    rw [een] at hT
    refine ⟨_, rfl, wpAny_letOwnedTupleGo_items (s := { s with heap := h' }) ho fun h'' he' sb => ?_⟩
    have hT2 : h''.get? s.heap.objs.size = some { cls := .type "tuple", data := .seq #[en.key, en.val] } := (sb.2 _ (Nat.ne_of_gt hlt)).trans hT
    have new : ObjOk X.prog X.w (upd H s.heap.objs.size (.tup [.ref q, v])) h'' s.heap.objs.size (.tup [.ref q, v]) :=
      ⟨by show 2 ≤ sizeLine; decide, [en.key, en.val], .cons ek (.cons rv .nil), ⟨_, hT2, rfl, _, rfl⟩⟩
    have I1 : Inv X pins σ (upd H s.heap.objs.size (.tup [.ref q, v])) { s with heap := h'' } :=
      I.turnedNew (t' := s.toks) (ch := [it]) (fun b ob hb e => (sb.2 b (by simpa using hb)).trans (hk b ob (by simpa using hb) e)) hf (Nat.le_refl _) new
    refine ⟨.ref s.heap.objs.size, _, I1, rfl, ⟨_, k, v, q, hkv, rfl, I.hok.fresh (Nat.le_refl _), hq, rfl⟩, ⟨es'[i].key, es'[i].val, ?_⟩, fun b hb => ?_⟩
    · rw [← hsz]; exact he'
    · have e : b = it := by simpa using hb
      rw [e, upd_ne (Nat.ne_of_lt hlt)]
      exact (hf it (by simp)).1
  done := by
    intro X hP hw hK hc i pins s σ H E I hf st hg
    subst hP hw hK
    obtain ⟨hd, hi⟩ := hg
    obtain ⟨f0, f1, f2, f3, f4, f5⟩ := hf it (by simp)
    obtain ⟨hs, hgd, hx, es', ep', hdt, hsz, ent⟩ := frzTV I hd
    obtain ⟨rfl, rfl⟩ := dict_ep hod hdt
    obtain ⟨ok, ov, he⟩ := st
    rw [← hsz] at he
    exact DT.endI (I.ok.hd hc) he ⟨o, hgd, hx, hdt⟩ (by omega) fun h' eb => ⟨rfl, I.turned (t' := s.toks) (fun b ob hb e => eb b ob hb e) f0 f1 f3 f4 f5⟩
  self := fun A i s Q E st h => let ⟨_, _, e⟩ := st; PySem.W.kcp_self e h
end
def iItemsT (td : TE) : TI := fun σ H R => td σ H fun x H1 => ∃ d o kvs, x = .ref d ∧ H1 d = some (.frz o (.dT kvs)) ∧ R (ItiT d o kvs) H1
section
variable {X : Cx} {tg e : Expr} {td : TE} {apos cpos : Pos}
theorem pi_itemsT {elts : List Expr} {kk : Nat} {tpos : Pos} (he : PE X e td) (hbase : attributeBase e "items" X.env (eval e X.env) = eval e X.env := by rfl) (hline : (apos.endLine == cpos.line) = true := by rfl) :
    PI X (.Tuple elts kk tpos) (.Call (.Attribute e "items" apos) [] [] cpos) (iItemsT td) := by
  refine ⟨fun pins s σ H R I h => ?_⟩
  refine wpAny_Call_method (T := "dict") (id := "dict.items") hbase rfl hline PySem.F.plainAttrs_dict PySem.F.slot_dict_items PySem.F.type_dict_items (thn (he.run pins s σ H _ I h) fun u s1 ⟨x, H1, I1, rx, d, o, kvs, ex, hd, q⟩ => ?_)
  subst ex
  obtain rfl : u = Value.ref d := rx
  obtain ⟨hs, hgd, hx, es, ep, hdt, hsz, ent⟩ := frzTV I1 hd
  have raw : DT.Raw s1.heap d es ep := ⟨o, hgd, hx, hdt⟩
  have I2 : Inv X pins σ H1 { s1 with heap := s1.heap.push { cls := .type "dict_items", data := .fields #[.ref d] } } := I1.kept (t' := s1.toks) fun b ob q => Heap.get?_push_of_some _ q
  have fin : wpAny (model X.prog X.w) X.A (pyIter (.ref s1.heap.objs.size)) (PIE X pins σ (.Tuple elts kk tpos) R) X.xe { s1 with heap := s1.heap.push { cls := .type "dict_items", data := .fields #[.ref d] } } := by
    refine DT.iterI (d := d) ⟨_, Heap.get?_push_size _ rfl, rfl, rfl⟩ (raw.push _) (pi_one (tk := s1.toks) I2 _ (turn_itemsT _ hdt) ⟨.none, .none, ?_⟩ q)
    rw [← hsz]
    exact Heap.get?_push_size _ rfl
  refine ⟨raw.typeIs, fun b eb => ⟨o, by cases eb; exact hgd, hx.2.1⟩, ?_⟩
  · show wpAny _ _ (callWith cpos (.builtin "dict.items") [.ref d] [] []) _ X.xe s1
    exact method_meetsIn PySem.F.slot_dict_items PySem.F.entry_dict_items rfl (PySem.evalArgs_none ⟨rfl, raw.typeIs, PySem.F.args_dict_items_1 _, _, DT.meetsItems hs, raw, fin⟩)
end
/-! ### {k: v}, the key a tuple -/
def tDisp1 (tk tv : TE) : TE := fun σ H Q => ∀ p, H p = none → tPairs [(tk, tv)] σ (upd H p (.dT [])) fun ps H2 => H2 p = some (.dT []) ∧ ∃ (k : List Key) (b : Addr) (y : V), ps = [(.ref b, y)] ∧ H2 b = some (.tup (k.map kV)) ∧ Q (.ref p) (upd H2 p (.dT [(k, y)]))
section
variable {X : Cx}
theorem pe_disp1 {k v : Expr} {tk tv : TE} {pos : Pos} (hu : X.A.units + 1 < cLine) (hk : PE X k tk) (hv : PE X v tv) : PE X (.Dict [some k] [v] pos) (tDisp1 tk tv) := by
  refine ⟨fun pins s σ H Q I q => ?_⟩
  have hn := I.hok.fresh (Nat.le_refl s.heap.objs.size)
  have I1 := I.laid (a := s.heap.objs.size) (o := .dT []) (h' := s.heap.push { cls := .type "dict", data := .dict #[] }) (t' := s.toks) (fun _ _ q => Heap.get?_push_of_some _ q) (Nat.le_refl _) (dt_empty s.heap I.big)
  have hw := (pps_cons hk hv (pps_nil (X := X) (pos := pos))).run pins _ σ _ _ I1 (q _ hn)
  rw [arm_eval_Dict, zip_pairTrees [some k] [v] X.env pos rfl rfl, dictDisplay_pairs _ (by intro z; cases z) (by show 1 < 17; decide)]
  refine wpAny_bind (wpAny_standAt (wpAny_bind (wpAny_subDictH (knd := tupleKind (mixKind X.prog X.w)) (Q := fun d s' => wpAny (model X.prog X.w) X.A (pure (Value.ref d)) (EP X pins σ Q) X.xe s') (Nat.lt_of_succ_lt hu) (by show 1 ≤ 15; decide) (thn hw fun ws s2 ⟨ps, H2, I2, rel, e, k, b, y, ep, eb, q2⟩ => ?_))))
  subst ep
  obtain ⟨kv, vv, rfl, r1, r2⟩ : ∃ kv vv, ws = [(kv, vv)] ∧ RelV (.ref b) kv ∧ RelV y vv := by
    cases rel with
    | cons r t =>
      cases t
      exact ⟨_, _, rfl, r.1, r.2⟩
  obtain rfl : kv = Value.ref b := r1
  obtain ⟨z, hd, xs0, r0, dd⟩ := dt_of I2.hok e
  cases r0
  refine ⟨[(k, b, vv)], ⟨rfl, rfl, key_of I2.hok eb, trivial⟩, dd, fun h' tk' dd' hs => wpAny_pure ⟨.ref s.heap.objs.size, _, ?_, rfl, q2⟩⟩
  obtain ⟨qo, es, ep, hq, g2, g3, g4, _, g5⟩ := dd'
  refine d_write I2 (by rw [e]; exact True.intro) hs ⟨qo, hq⟩ ⟨by show 1 ≤ sizeLine; decide, hd, _, (Paired.cons ⟨rfl, ?_, r2⟩ .nil), qo, es, ep, hq, g2, g3, g4, g5⟩
  rw [upd_ne (ne_of eb e (fun z => nomatch z))]
  exact eb
end
theorem take_snoc {α : Type} {l : List α} {j : Nat} {x : α} (h : l[j]? = some x) : l.take (j + 1) = l.take j ++ [x] := by
  rw [List.take_add_one, h]; rfl
/-! ### loops and comprehensions over anything that is walked -/
theorem lc_any {J : It} {n : Nat} {g : TG} {tt : TT} {te : TE} {vs : List Nat} {σ : L2.St} {H1 : Hp} {D : Addr} {Qd : Hp → Prop} (Pv : Nat → Hp → Prop) (h0 : Pv 0 (upd H1 D (.lst []))) (hgo : ∀ i H, i < n → Pv i H → J.go i H) (hst : ∀ H, Pv n H → J.stop n H)
    (hs : ∀ i x H H', i < n → Pv i H → J.yld i H x H' → g x (wipe σ vs) H' fun σ2 H2 => wipe σ2 vs = wipe σ vs ∧ tt σ2 H2 fun b H3 =>
      if b = true then te σ2 H3 fun y H4 => ∃ acc, H4 D = some (.lst acc) ∧ acc.length < sizeLine ∧ Pv (i + 1) (upd H4 D (.lst (acc ++ [y]))) else Pv (i + 1) H3) (hd : ∀ H, Pv n H → Qd H) :
    ∃ W : Nat → Nat → Hp → Prop, (∃ m, W 0 m (upd H1 D (.lst []))) ∧ ∀ i m H, W i m H →
      (J.stop i H ∧ Qd H) ∨ (J.go i H ∧ ∃ Nx : Hp → Prop, (∀ H', Nx H' → ∃ m', m' < m ∧ W (i + 1) m' H') ∧ ∀ x H', J.yld i H x H' → g x (wipe σ vs) H' fun σ2 H2 => wipe σ2 vs = wipe σ vs ∧ tt σ2 H2 fun b H3 =>
        if b = true then te σ2 H3 fun y H4 => ∃ acc, H4 D = some (.lst acc) ∧ acc.length < sizeLine ∧ Nx (upd H4 D (.lst (acc ++ [y]))) else Nx H3) := by
  refine ⟨fun i m H => m = n - i ∧ i ≤ n ∧ Pv i H, ⟨n, by simp, Nat.zero_le _, h0⟩, ?_⟩
  rintro i m H ⟨rfl, hi, p⟩
  by_cases hlt : i < n
  · exact .inr ⟨hgo i H hlt p, Pv (i + 1), fun H' p' => ⟨n - (i + 1), by omega, rfl, hlt, p'⟩, fun x H' y => hs i x H H' hlt p y⟩
  · have e : i = n := by omega
    subst e
    exact .inl ⟨hst H p, hd H p⟩
theorem for_any {J : It} {n : Nat} {g : TG} {tb : TS} {D : Ends} {σ : L2.St} {H : Hp} (Pv : Nat → L2.St → Hp → Prop) (h0 : Pv 0 σ H) (hgo : ∀ i σ H, i < n → Pv i σ H → J.go i H) (hst : ∀ σ H, Pv n σ H → J.stop n H)
    (hs : ∀ i x σ H H', i < n → Pv i σ H → J.yld i H x H' → g x σ H' fun σ2 H2 => tb { D with nx := Pv (i + 1), ct := Pv (i + 1), bk := D.nx } σ2 H2) (hd : ∀ σ H, Pv n σ H → D.nx σ H) :
    ∃ W : Nat → Nat → L2.St → Hp → Prop, (∃ m, W 0 m σ H) ∧ ∀ i m σ H, W i m σ H →
      (J.stop i H ∧ D.nx σ H) ∨ (J.go i H ∧ ∃ N : L2.St → Hp → Prop, (∀ σ' H', N σ' H' → ∃ m', m' < m ∧ W (i + 1) m' σ' H') ∧ ∀ x H', J.yld i H x H' → g x σ H' fun σ2 H2 => tb { D with nx := N, ct := N, bk := D.nx } σ2 H2) := by
  refine ⟨fun i m σ H => m = n - i ∧ i ≤ n ∧ Pv i σ H, ⟨n, by simp, Nat.zero_le _, h0⟩, ?_⟩
  rintro i m σ H ⟨rfl, hi, p⟩
  by_cases hlt : i < n
  · exact .inr ⟨hgo i σ H hlt p, Pv (i + 1), fun σ' H' p' => ⟨n - (i + 1), by omega, rfl, hlt, p'⟩, fun x H' y => hs i x σ H H' hlt p y⟩
  · have e : i = n := by omega
    subst e
    exact .inl ⟨hst σ H p, hd σ H p⟩
theorem upd_back {H : Hp} {a : Addr} {o u : HO} (h : H a = some o) : upd (upd H a u) a o = H := by
  rw [upd_upd]
  funext b
  by_cases e : b = a
  · rw [e, upd_same, h]
  · rw [upd_ne e]
theorem upd_comm {H : Hp} {a b : Addr} {o u : HO} (h : a ≠ b) : upd (upd H a o) b u = upd (upd H b u) a o := by
  funext c
  by_cases e : c = a
  · subst e
    rw [upd_ne h, upd_same, upd_same]
  · by_cases e2 : c = b
    · subst e2
      rw [upd_same, upd_ne e, upd_same]
    · rw [upd_ne e2, upd_ne e, upd_ne e, upd_ne e2]
end Hue

set_option maxHeartbeats 4000000
namespace Hue
open PySem PySem.W PySem.Spec PyProof.Rows L2
/-! ### o.f(e, ..): f a field that holds a function -/
def tFCall (K : PySem.W.Frag) (m : Str) (g : Addr) (sp : Sp) (dvs : List V) (E : XK) (ta : TE) (t : TA) : TE := fun σ H Q => ta σ H fun x H1 => ∃ a C dx fs, x = .ref a ∧ H1 a = some (.ins C dx fs) ∧ Cls K C ∧ NoAttr K C m ∧ fs.lookup m = some (.ref g) ∧ t σ H1 fun vs H2 => sp (vs ++ dvs) H2 Q E
section
variable {X : Cx} {CX : CXT} {k : Nat} {f : Addr} {fd : FuncData} {ps : List Str} {sp : Sp} {E : XK} {m : Str} {apos pos : Pos} {e o : Expr} {es : List Expr} {ta : TE} {t : TA} {dvs : List V} {ds : List Value}
theorem pe_callF {pl : Sem Bool} (he : PE X o ta) (F : FnOk X.prog X.w X.K X.mg X.base CX k f fd ps sp) (hr : Room k X.A) (hk : PySem.W.keepIn X.K (.ref f) = true) (hb : Binds X.K fd ps ds) (hd : Vals dvs ds) (hx : Passes CX X E) (ha : PA X (e :: es) t)
    (hst : starEach (e :: es) X.env = (false, eval e X.env) :: starEach es X.env := by rfl) (hpl : (backTo pos (starEach es X.env)).any (·.1) = false := by rfl)
    (ht : eval (.Call (.Attribute o m apos) (e :: es) [] pos) X.env = (do
      let ov ← eval o X.env
      standAt apos.atName
      let (f, first) ← holding [ov] (getMethod ov m pl)
      callWith pos f first (backTo pos (starEach (e :: es) X.env)) (backToKw pos (keywordEach [] X.env))) := by rfl) :
    PE X (.Call (.Attribute o m apos) (e :: es) [] pos) (tFCall X.K m f sp dvs E ta t) := by
  refine ⟨fun pins s σ H Q I h => ?_⟩
  refine PySem.W.methodCall_KW (pl := pl) (thn (he.run pins s σ H _ I h) fun u s1 ⟨x, H1, I1, rx, a, C, dx, fs, ex, ea, c, n, l, q⟩ => ?_) ht
  subst ex
  obtain rfl : u = Value.ref a := rx
  obtain ⟨mA, O, _⟩ := ins_get I1.hok ea
  obtain ⟨od, J, _⟩ := O.look
  refine PySem.W.method_usual (r := none) I1.kIn J (plainGet_of (c.get m)).1 (plainGet_of (c.get m)).2 n rfl (getattr_ok I1 ea c n l fun u s2 I2 ru => ?_)
  obtain rfl : u = Value.ref f := ru
  refine PySem.W.callWith_K (first := []) (h₀ := X.base) I.ok.mod.kin hk (thn (ha.run pos pins s2 σ H1 _ I2 q) fun us s3 ⟨vs, H2, I3, r, q2⟩ => ⟨I3.kIn, ?_⟩) hst hpl
  exact run_fn F hr hb hd hx I3 r q2
end
/-! ### pow of a wide base -/
def CPowW (i j : Int) : Prop := 0 ≤ j ∧ (Builtin.Int.intBits i : Int) * j ≤ 2 ^ 27
theorem op_powW {X : Cx} : OpR X (binaryOp .Pow) (rI CPowW fun i j => .int (i ^ j.toNat)) := opI fun _ _ _ _ _ _ _ hc q => pow_int hc.1 hc.2 q
/-! ### enumerate(tuple) -/
theorem meets_enumerate_newT (l : Addr) (items : Array Value) (n : Nat) (dct : Option Addr) (sl : Array (Option Value)) :
    Meets (Builtin.«enumerate.__new__» ⟨[.type "enumerate", .ref l], []⟩) (fun _ R s => s.heap.get? l = some { cls := .type "tuple", dict := dct, data := .seq items n, slots := sl } ∧
      R (.ok (.ret (.ref (s.heap.push { cls := .type "tuple_iterator", data := .fields #[.ref l, .int 0 0] }).objs.size)))
        { s with heap := (s.heap.push { cls := .type "tuple_iterator", data := .fields #[.ref l, .int 0 0] }).push { cls := .type "enumerate", data := .fields #[.none, .bool false, .ref s.heap.objs.size, rawInt 0, .none, .none] } }) :=
  .of_wp fun prog w A R s h => by
    obtain ⟨hp, g, d, tk, os⟩ := s; obtain ⟨hl, h⟩ := h
    have hsub := sub_enumerate
    have hL : Heap.IsTuple (Shared.heap ⟨hp, g, d, tk, os⟩) l items := ⟨_, hl, rfl, n, rfl⟩
    wp_walk using AutoSeq1.wpAny_loadPart' hl
    refine wpAny_stack_any fun st => wpAny_pure ?_
    split
    · rename_i c _ _ _ _ _
      cases (c == Value.type "enumerate")
      · wp_walk using AutoSeq1.wpAny_loadPart' hl, wpAny_pyIter_tuple hL
        exact ⟨_, rfl, h⟩
      · wp_walk using AutoSeq1.wpAny_loadPart' hl, wpAny_pyIter_tuple hL
        exact ⟨_, rfl, h⟩
    · wp_walk using AutoSeq1.wpAny_loadPart' hl, wpAny_pyIter_tuple hL
      exact ⟨_, rfl, h⟩
theorem call_enumerate_tuple {prog : Program} {w : World} {A : Around} {E : Value → Shared → Prop} {s : Shared} {l : Addr} {items : Array Value} {Q : Value → Shared → Prop} (hL : s.heap.IsTuple l items)
    (h : ∀ h', IsEnum h' (s.heap.objs.size + 1) s.heap.objs.size 0 .none → h'.IsTupleIter s.heap.objs.size l 0 → h'.objs.size = s.heap.objs.size + 2 →
      (∀ b o, s.heap.get? b = some o → h'.get? b = some o) → Q (.ref (s.heap.objs.size + 1)) { s with heap := h' }) :
    wpAny (model prog w) A (call (.type "enumerate") [.ref l]) Q E s := by
  obtain ⟨⟨c, dct, dt, sl⟩, hl, hc, n, hd⟩ := hL
  replace hc : c = .type "tuple" := hc
  replace hd : dt = .seq items n := hd
  subst hc hd
  refine callType_new F.called_enumerate (by decide) (F.typeCall_enumerate_1 _) (F.newCall_enumerate_1 _) (fun obj => F.args_object_init_2 obj _) F.entry_enumerate_new
    (meets_enumerate_newT l items n dct sl) ⟨hl, ?_⟩
  have hz : (s.heap.push { cls := .type "tuple_iterator", data := .fields #[.ref l, .int 0 0] }).objs.size = s.heap.objs.size + 1 := Heap.size_push ..
  show _ ∧ _
  rw [hz]
  have he : IsEnum ((s.heap.push { cls := .type "tuple_iterator", data := .fields #[.ref l, .int 0 0] }).push
      { cls := .type "enumerate", data := .fields #[.none, .bool false, .ref s.heap.objs.size, rawInt 0, .none, .none] }) (s.heap.objs.size + 1) s.heap.objs.size 0 .none := by
    have := Heap.get?_push_size (s.heap.push { cls := .type "tuple_iterator", data := .fields #[.ref l, .int 0 0] })
      (o := { cls := .type "enumerate", data := .fields #[.none, .bool false, .ref s.heap.objs.size, rawInt 0, .none, .none] }) rfl
    rw [hz] at this; exact this
  refine ⟨⟨_, he, rfl⟩, h _ he ⟨_, Heap.get?_push_of_some _ (Heap.get?_push_size _ rfl), rfl, rfl⟩ (by rw [Heap.size_push, hz]) fun b o x => Heap.get?_push_of_some _ (Heap.get?_push_of_some _ x)⟩
/-- the tuple at a, each item in a new pair -/
def IteT (K : PySem.W.Frag) (a : Addr) : It :=
  ⟨fun i H => ∃ (xs : List V) (x : V), SqT K H a xs ∧ xs[i]? = some x, fun i H v H' => ∃ T x, v = .ref T ∧ H T = none ∧ H' = upd H T (.tup [.int (i : Nat), x]) ∧ ∀ xs, SqT K H a xs → xs[i]? = some x, fun i H => ∃ xs : List V, SqT K H a xs ∧ xs.length = i⟩
theorem turn_enumT {P : Program} {w : World} {K : PySem.W.Frag} {elts : List Expr} {kk : Nat} {tpos : Pos} (a e it : Addr) :
    Turn P w K (.Tuple elts kk tpos) (IteT K a) [e, it] e (fun i h => (∃ old, IsEnum h e it ((i : Nat) : Int) old) ∧ h.IsTupleIter it a i ∧ e ≠ it ∧ a ≠ it ∧ a ≠ e) where
  mem := by simp
  obj := fun i h st b hb => by
    obtain ⟨⟨old, he⟩, ⟨o, ho, hc, hd⟩, _⟩ := st
    have e' : b = e ∨ b = it := by simpa using hb
    rcases e' with z | z
    · rw [z]; exact ⟨_, he, fun v q => nomatch q⟩
    · rw [z]; exact ⟨o, ho, fun v q => by rw [hd] at q; cases q⟩
  keep := fun i h h' st k => let ⟨⟨old, he⟩, hi, hne⟩ := st; ⟨⟨old, k e (by simp) _ he⟩, hi.at fun o q => k it (by simp) o q, hne⟩
  item := by
    intro X hP hw hK hc i pins s σ H E I hf st hg
    subst hP hw hK
    obtain ⟨⟨old, he⟩, hit, hne, hai, hae⟩ := st
    obtain ⟨xs, x, hq, hx⟩ := hg
    obtain ⟨its, rv, p, hz⟩ := I.tuple hq
    obtain ⟨u, hu, ru⟩ := rv.get hx
    have hel : e < s.heap.objs.size := Heap.lt_size he
    have hil : it < s.heap.objs.size := by obtain ⟨_, q, _⟩ := hit; exact Heap.lt_size q
    have pT : s.heap.IsTuple a its.toArray := p
    have hlen : i < its.toArray.size := by rw [List.size_toArray]; exact (List.getElem?_eq_some_iff.mp hu).1
    refine wpAny_pyNext_enum_itemD (Draws.tuple (A := X.A.in1) (I.ok.hd hc) it a hai its.toArray) he ⟨hit, pT⟩ hlen hne (by simp [hne, Ne.symm hae]) fun x' h' tk hP ho hst' hT hsz hk => ?_
    obtain ⟨hit', hpT'⟩ := hst'
    have hxu : x' = u := by
      have h1 : its.toArray[i]? = some u := by rw [List.getElem?_toArray]; exact hu
      rw [h1] at hP
      exact (Option.some.inj hP).symm
    subst hxu
    refine ⟨_, rfl, wpAny_letOwnedTupleGo_enum (s := { s with heap := h', toks := tk + 1 }) ho fun h'' he' sb => ?_⟩
    have hT2 : h''.get? s.heap.objs.size = some { cls := .type "tuple", data := .seq #[.int i tk, x'] } := (sb.2 _ (Nat.ne_of_gt hel)).trans hT
    have new : ObjOk X.prog X.w (upd H s.heap.objs.size (.tup [.int (i : Nat), x])) h'' s.heap.objs.size (.tup [.int (i : Nat), x]) :=
      ⟨by show 2 ≤ sizeLine; decide, [.int i tk, x'], .cons ⟨_, rfl⟩ (.cons ru .nil), ⟨_, hT2, rfl, _, rfl⟩⟩
    have I1 : Inv X pins σ (upd H s.heap.objs.size (.tup [.int (i : Nat), x])) { s with heap := h'', toks := tk + 1 } :=
      I.turnedNew (ch := [e, it]) (fun b ob hb q => (sb.2 b (fun z => hb (by simp [z]))).trans (hk b ob (fun z => hb (by simp [z])) (fun z => hb (by simp [z])) q)) hf (Nat.le_refl _) new
    refine ⟨.ref s.heap.objs.size, _, I1, rfl, ⟨_, x, rfl, I.hok.fresh (Nat.le_refl _), rfl, fun ys hy => by rw [I.tuple_inj hy hq]; exact hx⟩, ⟨⟨x', ?_⟩, hit'.at fun o q => (sb.2 it (Ne.symm hne)).trans q, hne, hai, hae⟩, fun b hb => ?_⟩
    · have e1 : ((i + 1 : Nat) : Int) = (i : Int) + 1 := by omega
      rw [e1]; exact he'
    · have hb' : b < s.heap.objs.size := by
        have e' : b = e ∨ b = it := by simpa using hb
        rcases e' with z | z
        · rw [z]; exact hel
        · rw [z]; exact hil
      rw [upd_ne (Nat.ne_of_lt hb')]
      exact (hf b hb).1
  done := by
    intro X hP hw hK hc i pins s σ H E I hf st hg
    subst hP hw hK
    obtain ⟨⟨old, he⟩, hit, hne, hai, hae⟩ := st
    obtain ⟨xs, hq, hx⟩ := hg
    obtain ⟨its, rv, p, hz⟩ := I.tuple hq
    obtain ⟨f0, f1, f2, f3, f4, f5⟩ := hf it (by simp)
    have hl := rv.length
    have pT : s.heap.IsTuple a its.toArray := p
    have hsz : its.toArray.size = i := by rw [List.size_toArray]; omega
    exact wpAny_pyNext_enum_endD (Draws.tuple (A := X.A.in1) (I.ok.hd hc) it a hai its.toArray) he (by rw [hsz]; exact ⟨hit, pT⟩) fun h' eb => ⟨rfl, I.turned (t' := s.toks) (fun b o hb q => eb b o hb q) f0 f1 f3 f4 f5⟩
  self := fun A i s Q E st h => let ⟨⟨_, he⟩, _⟩ := st; wpAny_pyIter_enum he h
/-- enumerate(x), x a list or a tuple -/
def iEnumS (K : PySem.W.Frag) (ta : TA) : TI := fun σ H R => ta σ H fun vs H1 => ∃ a, vs = [.ref a] ∧ (((∃ xs, SqL K H1 a xs) ∧ R (Ite K a) H1) ∨ ((∃ xs, SqT K H1 a xs) ∧ R (IteT K a) H1))
theorem pi_enumS {X : Cx} {e : Expr} {ta : TA} {p pos tpos : Pos} {elts : List Expr} {kk : Nat} (hg : Gl X "enumerate") (hm : X.mg "enumerate" = none) (ha : PA X [e] ta) (hs : starEach [e] X.env = [(false, eval e X.env)] := by rfl) :
    PI X (.Tuple elts kk tpos) (.Call (.Name "enumerate" p) [e] [] pos) (iEnumS X.K ta) := by
  refine ⟨fun pins s σ H R I h => ?_⟩
  refine Call_ (ld_blt I hg hm boot_enumerate (PyProof.Rows.callWith_type1 (thn (ha.run pos pins s σ H _ I h) fun us s1 ⟨vs, H1, I1, r1, q1⟩ => ?_) hs rfl))
  obtain ⟨a, ex, hq⟩ := q1
  subst ex
  obtain ⟨u, rfl, ru⟩ := vals1 r1
  cases ru
  have hfp : ∀ b ∈ [s1.heap.objs.size + 1, s1.heap.objs.size], FpOk X pins H1 b := fun b hb => by
    have e' : b = s1.heap.objs.size + 1 ∨ b = s1.heap.objs.size := by simpa using hb
    have hle : s1.heap.objs.size ≤ b := by
      rcases e' with z | z
      · rw [z]; exact Nat.le_add_right _ _
      · rw [z]; exact Nat.le_refl _
    exact I1.fpOk hle (I1.hok.fresh hle)
  rcases hq with ⟨⟨xs, hq⟩, q⟩ | ⟨⟨xs, hq⟩, q⟩
  · obtain ⟨its, rv, p', hz⟩ := I1.list hq
    refine call_enumerate_list p'.isList fun h' he hit hsz hk => wpAny_pyIter_enum he ?_
    have I2 : Inv X pins σ H1 { s1 with heap := h' } := I1.kept (t' := s1.toks) hk
    exact ⟨s1.heap.objs.size + 1, [s1.heap.objs.size + 1, s1.heap.objs.size], _, _, H1, rfl, I2, turn_enum a (s1.heap.objs.size + 1) s1.heap.objs.size, ⟨⟨.none, he⟩, hit, Nat.succ_ne_self _⟩, hfp, q⟩
  · obtain ⟨its, rv, p', hz⟩ := I1.tuple hq
    have pT : s1.heap.IsTuple a its.toArray := p'
    have hal : a < s1.heap.objs.size := by obtain ⟨_, q, _⟩ := pT; exact Heap.lt_size q
    refine call_enumerate_tuple pT fun h' he hit hsz hk => wpAny_pyIter_enum he ?_
    have I2 : Inv X pins σ H1 { s1 with heap := h' } := I1.kept (t' := s1.toks) hk
    exact ⟨s1.heap.objs.size + 1, [s1.heap.objs.size + 1, s1.heap.objs.size], _, _, H1, rfl, I2, turn_enumT a (s1.heap.objs.size + 1) s1.heap.objs.size, ⟨⟨.none, he⟩, hit, Nat.succ_ne_self _, Nat.ne_of_lt hal, Nat.ne_of_lt (Nat.lt_succ_of_lt hal)⟩, hfp, q⟩
end Hue

set_option maxHeartbeats 4000000
namespace Hue
open PySem PySem.W PySem.Spec PyProof.Rows L2 ItX
/-! ### a def run from one state: what is promised may speak of that state -/
theorem fn_run {CX : CXT} {P : Program} {w : World} {K : PySem.W.Frag} {mg : Str → Option Value} {base : Heap} {k : Nat} {f : Addr} {name qual : Str} {params : Arguments} {body : List Stmt} {scope : Scope} {dvs : List V} {kws : List (Str × V)} {fd : FuncData}
    {N ps : List Str} (F : FunD K name qual params body scope dvs kws f fd) (S : FnScope N ps scope) {A : Around} {outer : List Env} {s : Shared} {H : Hp} {args : Args} {us : List Value} {vs : List V} {Q : VK} {E : XK} (hr : Room (k + 1) A) (e0 : Env0 P w K mg base A outer s H)
    (hb : BindsTo s fd args (ps.zip us)) (r : Vals vs us) (hl : vs.length = ps.length)
    (hbody : ∀ cdv, Room k (A.deeper (envOfC qual scope s.heap.objs.size f cdv)) → ∃ t, PSs (cxOf CX P w K mg base N qual scope f cdv A outer s H E) body t ∧ t { nx := fun _ H' => Q .non H', rt := Q } (start N vs) H) :
    codeAny (model P w) A (.call (.ref f) args) (CR CX outer P w H s Q E) s := by
  obtain ⟨oc, od, dV, kV, doc, pm, an, cdv, ct, osl, rfl, lk, hcd, _, _⟩ := F.ex
  have KX : K.In s.heap := e0.mod.kin.keeps fun b o e => (e0.bs b o e).1
  have lim : s.heap.NoLimit := e0.mod.nolimit.keeps fun b o e => (e0.bs b o e).1
  have hkind : ∀ y ∈ ps.zip us, scope.names.lookup y.1 = some .local ∨ (scope.names.lookup y.1 = some .cell ∧ ((cellsFrom (s.heap.objs.size + 1) scope.names []).lookup y.1).isSome = true) := fun ⟨n, v⟩ hy => by
    rcases S.par n (List.of_mem_zip hy).1 with q | q
    · exact .inl q
    · exact .inr ⟨q, PySem.W.cellsFrom_some _ _ _ (.inl q)⟩
  refine codeAny_call_function hr.depth (KX _ _ lk) rfl S.co S.gen rfl (PySem.W.codeRec_of KX hcd) (hb _ _ _ _ ?_)
  refine wpAny_newFunctionEnv_cells S.kind hkind fun env he s1 x => ?_
  subst he
  refine ⟨lim.keeps x.toInCall.keep, codeAny_func ?_⟩
  obtain ⟨t, ht, hq⟩ := hbody cdv (hr.deeper _)
  have I : Inv (cxOf CX P w K mg base N qual scope f cdv A outer s H E) [] (start N vs) H s1 := inv_start S hr.hd e0 hl r x
  refine wpAny_mono (ht.run [] s1 (start N vs) H _ I hq) (fun fl s' hs => ?_) fun e s' hs => hs
  have fin : ∀ {σ' : L2.St} {H' : Hp} {v : V} {u : Value}, Inv (cxOf CX P w K mg base N qual scope f cdv A outer s H E) [] σ' H' s' → RelV v u → Q v H' → CE outer P w H s Q u s' :=
    fun {σ' H' v u} J rv q => ⟨v, H', J.os, J.bare, J.base, J.hok, rv, q⟩
  cases fl with
  | ret u =>
    obtain ⟨v, σ', H', J, rv, q⟩ := hs
    exact fin J rv q
  | next =>
    obtain ⟨σ', H', J, q⟩ := hs
    exact fin (v := V.non) (u := Value.none) J rfl q
  | brk =>
    obtain ⟨_, _, _, q⟩ := hs
    exact False.elim q
  | cont =>
    obtain ⟨_, _, _, q⟩ := hs
    exact False.elim q
/-! ### iter(t), t a tuple -/
def titObj (l : Addr) : Obj := { cls := .type "tuple_iterator", data := .fields #[.ref l, .int 0 0] }
def ItT (l it : Addr) : HO := .ext fun h => h.get? it = some (titObj l)
theorem call_iter_tuple {prog : Program} {w : World} {A : Around} {E : Value → Shared → Prop} {s : Shared} {l : Addr} {items : Array Value} {Q : Value → Shared → Prop} (hl : s.heap.IsTuple l items) (h : Q (.ref s.heap.objs.size) { s with heap := s.heap.push (titObj l) }) :
    wpAny (model prog w) A (call (.builtin "iter") [.ref l]) Q E s := by
  refine Calls.call_function_entry (by decide +kernel) (by decide +kernel) PySem.W.kdk_entry_iter (PySem.W.kdk_args_iter _) ?_
  unfold Builtin.«iter»
  refine wpAny_bind (m := someArgs "iter" 1 2 _) (wpAny_of_eq (a := [Value.ref l]) (by first | rfl | kernel_rfl!) ?_)
  show wpAny _ _ (pyIter (.ref l) >>= _) _ _ _
  refine wpAny_bind (wpAny_pyIter_tuple hl ?_)
  exact wpAny_pure ⟨_, rfl, h⟩
def rIterT (K : PySem.W.Frag) (n : Nat) : List V → Hp → VK → Prop := fun xs H Q => ∃ (l : Addr) (zs : List V), xs = [.ref l] ∧ SqT K H l zs ∧ ∀ it, H it = Option.none → n ≤ it → Q (.ref it) (upd H it (ItT l it))
theorem call_iterT {X : Cx} : CallR X (.builtin "iter") (rIterT X.K X.s_0.heap.objs.size) := by
  intro pins s σ H xs us Q I r h
  obtain ⟨l, zs, rfl, hq, q⟩ := h
  obtain ⟨u, rfl, ru⟩ := vals1 r
  cases ru
  obtain ⟨its, rv, pl, hz⟩ := I.tuple hq
  refine call_iter_tuple (show s.heap.IsTuple l its.toArray from pl) ?_
  have e : (s.heap.push (titObj l)).get? s.heap.objs.size = some (titObj l) := Heap.get?_push_size _ rfl
  exact ⟨.ref s.heap.objs.size, _, I.laid (o := ItT l s.heap.objs.size) (t' := s.toks) (fun b u e => Heap.get?_push_of_some _ e) (Nat.le_refl _) ⟨e, ⟨_, e⟩, fun h1 h2 q k => k _ q⟩, rfl, q _ (I.hok.fresh (Nat.le_refl _)) I.sz⟩
/-! ### Row.__iter__ -/
abbrev sRowIter : Stmt := inClass (top 28) 2
theorem scRowIter : FnScope ["self"] ["self"] (defScope sRowIter) := ⟨rfl, rfl, rfl, by decide +kernel, rfl, by decide +kernel, by decide +kernel⟩
/-- what is known of the class Row -/
structure RowC (K : PySem.W.Frag) (C : Addr) : Prop where
  cl : Cls K C
  nH : NoAttr K C "held"
  nR : NoAttr K C "rim"
structure RowIt (K : PySem.W.Frag) (C f : Addr) (fd : FuncData) : Prop where
  c : RowC K C
  it : PySem.W.findIn K (.ref C) "__iter__" = some (some (.ref f))
  fn : PySem.W.isFn K (.ref f) = true
  F : FunD K "__iter__" "Row.__iter__" (defArgs sRowIter) (defBody sRowIter) (defScope sRowIter) [] [] f fd
def rowF (t : Addr) (r : Nat) : List (Str × V) := [("held", .ref t), ("rim", nV r)]
/-- for piece in row: what the row holds -/
def iRow (K : PySem.W.Frag) (C : Addr) (te : TE) : TI := fun σ H R => te σ H fun x H1 => ∃ a dx t r xs, x = .ref a ∧ H1 a = some (.ins C dx (rowF t r)) ∧ SqT K H1 t xs ∧ R (Itt K t) H1
theorem pi_row {X : Cx} {tg e : Expr} {te : TE} {C f : Addr} {fd : FuncData} (T : RowIt X.K C f fd) (gI : X.mg "iter" = none) (hr : Room 1 X.A) (he : PE X e te) : PI X tg e (iRow X.K C te) := by
  have bF : Binds X.K fd ["self"] [] := FunD.bindsN T.F fun _ _ _ _ _ _ us hl => match us, hl with | [_], _ => rfl
  refine ⟨fun pins s σ H R I h => ?_⟩
  refine thn (he.run pins s σ H _ I h) fun u s1 ⟨x, H1, I1, rx, a, dx, t, r, xs, ex, ea, ht, q⟩ => ?_
  subst ex
  obtain rfl : u = Value.ref a := rx
  obtain ⟨mA, O, _⟩ := ins_get I1.hok ea
  obtain ⟨od, J, _⟩ := O.look
  obtain ⟨m, hF⟩ := I1.fr
  refine PySem.W.owit_iter hF I1.ok.mod.kin J T.it T.fn ?_
  have r2 : Vals [V.ref a] [Value.ref a] := .cons rfl .nil
  refine wpAny_call (codeAny_mono (fn_run (CX := CX0) (k := 0) T.F scRowIter hr I1.env0 (bF s1 [.ref a] I1.kIn rfl) r2 rfl (Q := fun v H' => ∃ it, v = .ref it ∧ H1 it = none ∧ s1.heap.objs.size ≤ it ∧ H' = upd H1 it (ItT t it)) (E := fun _ _ _ => False) fun cdv hr2 => ?_) fun r s' hq => ?_)
  · refine ⟨_, PSs.nox (pss_one (ps_ret (pe_callB call_iterT (by rfl) gI (by decide +kernel) (pa_cons (pe_fld (pv 0) rfl) pa_nil)))), ?_⟩
    exact ⟨_, rfl, a, C, dx, _, .ref t, rfl, ea, T.c.cl, T.c.nH, rfl, t, xs, rfl, ht, fun it h1 h2 => ⟨it, rfl, h1, h2, rfl⟩⟩
  cases r with
  | error e => exact pass0 pins σ H1 s1 e s' I1 hq
  | ok fl =>
    cases fl with
    | ret u =>
      obtain ⟨v, H', I2, rv, it, rfl, hn, hsz, rfl⟩ := I1.after hq
      obtain rfl : u = Value.ref it := rv
      have eo : s'.heap.get? it = some (titObj t) := (I2.hok it _ upd_same).1
      have hT : s'.TypeIs (.ref it) "tuple_iterator" := ⟨_, eo, rfl⟩
      unfold PySem.W.OwitIt
      refine wpAny_specialOf (name := Str.ofString "__next__") hT F.slot_tuple_iterator_next.lookup ?_
      have I3 : Inv X pins σ H1 s' := by
        have := inv_drop I2 (show upd H1 it (ItT t it) it = some (.ext _) from upd_same)
        rwa [dropH_upd hn] at this
      have fp : FpOk X pins H1 it := by
        have := inv_fp I2 (a := it) upd_same (Nat.le_trans I1.sz hsz)
        rwa [dropH_upd hn] at this
      refine ⟨it, [it], _, _, H1, rfl, I3, turn_tuple t it, ⟨_, eo, rfl, rfl⟩, fun b hb => ?_, q⟩
      have e : b = it := by simpa using hb
      rw [e]
      exact fp
    | next => exact False.elim hq
    | brk => exact False.elim hq
    | cont => exact False.elim hq
end Hue

set_option maxHeartbeats 4000000
namespace Hue
open PySem PySem.W PyProof.Rows L2
section
variable {P : Program} {w : World} {K : PySem.W.Frag} {mg : Str → Option Value} {base : Heap}
/-! ### fits -/
abbrev sFits : Stmt := top 13
def spFits : Sp := fun vs H Q _ => ∃ (a1 a2 a3 : Addr) (L U T : List Nat) (c : Nat), vs = [.ref a1, nV c, .ref a2, .ref a3] ∧ TupN H a1 L ∧ LstN H a2 U ∧ LstN H a3 T ∧ (∀ p ∈ U, p < L.length) ∧ (∀ p ∈ T, p < L.length) ∧ Q (.bl (fits L c U T)) H
theorem scFits : FnScope ["labels", "label", "unlike", "same", "place"] ["labels", "label", "unlike", "same"] (defScope sFits) := ⟨rfl, rfl, rfl, by decide +kernel, rfl, by decide +kernel, by decide +kernel⟩
theorem fits_take_false {L U T : List Nat} {c i x : Nat} (h : U[i]? = some x) (e : L.getD x 0 = c) : fits L c U T = false := by
  have hm : x ∈ U := List.mem_of_getElem? h
  cases hf : fits L c U T with
  | false => rfl
  | true => exact absurd e ((fits_iff.mp hf).1 x hm)
theorem fits_take_false2 {L U T : List Nat} {c i x : Nat} (h : T[i]? = some x) (e : ¬ L.getD x 0 = c) : fits L c U T = false := by
  have hm : x ∈ T := List.mem_of_getElem? h
  cases hf : fits L c U T with
  | false => rfl
  | true => exact absurd ((fits_iff.mp hf).2 x hm) e
theorem ok_fits {f : Addr} {fd : FuncData} (F : FnP K "fits" sFits f fd) : FnOk P w K mg base CX0 1 f fd ["labels", "label", "unlike", "same"] spFits := by
  refine F.ok scFits (fun vs H Q E h => ?_) (fun cdv A outer s H vs Q E hr h => ?_)
  · obtain ⟨a1, a2, a3, L, U, T, c, rfl, _⟩ := h
    rfl
  · obtain ⟨a1, a2, a3, L, U, T, c, rfl, hL, hU, hT, bU, bT, hQ⟩ := h
    refine ⟨_, PSs.nox (pss_cons (ps_for PassesOwn.never rfl (pi_list (pv 2)) (pg_name (i := 4) scFits.nd rfl (.inl rfl)) (pss_one (ps_if (pt_cmpR op_eq (pe_ix ix_tup (pv 0) (pv 4) (fun _ _ => rfl)) (pv 1) (nomark _)) (pss_one (ps_ret pe_bl)) pss_nil)))
      (pss_cons (ps_for PassesOwn.never rfl (pi_list (pv 3)) (pg_name (i := 4) scFits.nd rfl (.inl rfl)) (pss_one (ps_if (pt_cmpR op_ne (pe_ix ix_tup (pv 0) (pv 4) (fun _ _ => rfl)) (pv 1) (nomark _)) (pss_one (ps_ret pe_bl)) pss_nil)))
        (pss_one (ps_ret pe_bl)))), ?_⟩
    refine ⟨_, rfl, a2, rfl, ⟨_, SqL.of hU⟩, for_list (K := K) (a := a2) (xs := U.map nV) (fun i σ H' => H' = H ∧ (∃ v, σ = [some (.ref a1), some (nV c), some (.ref a2), some (.ref a3), v]) ∧ ∀ j x, j < i → U[j]? = some x → L.getD x 0 ≠ c)
      ⟨rfl, ⟨none, rfl⟩, fun j x h => absurd h (Nat.not_lt_zero j)⟩ (fun i σ H' _ h => h.1 ▸ SqL.of hU) ?_ ?_⟩
    · rintro i y σ H' hi ⟨rfl, ⟨v, rfl⟩, hp⟩
      obtain ⟨x, hx, rfl⟩ := nV_get hi
      have hxL : x < L.length := bU x (List.mem_of_getElem? hx)
      refine ⟨_, rfl, _, rfl, a1, _, _, _, rfl, rfl, SqT.of hL, at_nV hxL, _, rfl, rfl, _, rfl, ?_⟩
      refine ite2 (fun h => ?_) (fun h => ?_)
      · have e : L.getD x 0 = c := nV_eq.mp (of_decide_eq_true h)
        rw [fits_take_false hx e] at hQ
        exact hQ
      · refine ⟨rfl, ⟨_, rfl⟩, fun j z hj hz => ?_⟩
        rcases Nat.lt_succ_iff_lt_or_eq.mp hj with hj | rfl
        · exact hp j z hj hz
        · rw [hx] at hz
          cases hz
          intro e
          exact h (decide_eq_true (nV_eq.mpr e))
    · rintro σ H2 ⟨rfl, ⟨v, rfl⟩, hp⟩
      refine ⟨_, rfl, a3, rfl, ⟨_, SqL.of hT⟩, for_list (K := K) (a := a3) (xs := T.map nV) (fun i σ H' => H' = H2 ∧ (∃ v, σ = [some (.ref a1), some (nV c), some (.ref a2), some (.ref a3), v]) ∧ ∀ j x, j < i → T[j]? = some x → L.getD x 0 = c)
        ⟨rfl, ⟨v, rfl⟩, fun j x h => absurd h (Nat.not_lt_zero j)⟩ (fun i σ H' _ h => h.1 ▸ SqL.of hT) ?_ ?_⟩
      · rintro i y σ H' hi ⟨rfl, ⟨v, rfl⟩, hq⟩
        obtain ⟨x, hx, rfl⟩ := nV_get hi
        have hxL : x < L.length := bT x (List.mem_of_getElem? hx)
        refine ⟨_, rfl, _, rfl, a1, _, _, _, rfl, rfl, SqT.of hL, at_nV hxL, _, rfl, rfl, _, rfl, ?_⟩
        refine ite2 (fun h => ?_) (fun h => ?_)
        · have e : ¬ L.getD x 0 = c := fun z => by
            rw [decide_eq_true (nV_eq.mpr z)] at h
            cases h
          rw [fits_take_false2 hx e] at hQ
          exact hQ
        · refine ⟨rfl, ⟨_, rfl⟩, fun j z hj hz => ?_⟩
          rcases Nat.lt_succ_iff_lt_or_eq.mp hj with hj | rfl
          · exact hq j z hj hz
          · rw [hx] at hz
            cases hz
            refine Classical.byContradiction fun e => h ?_
            rw [decide_eq_false (fun z => e (nV_eq.mp z))]
            rfl
      · rintro σ H' ⟨rfl, ⟨v, rfl⟩, hq⟩
        have e : fits L c U T = true := fits_iff.mpr ⟨fun p hp' => by
          obtain ⟨j, hj⟩ := List.getElem?_of_mem hp'
          exact hp j p (by have := (List.getElem?_eq_some_iff.mp hj).1; simpa using this) hj, fun p hp' => by
          obtain ⟨j, hj⟩ := List.getElem?_of_mem hp'
          exact hq j p (by have := (List.getElem?_eq_some_iff.mp hj).1; simpa using this) hj⟩
        rw [e] at hQ
        exact hQ
end
end Hue

set_option maxHeartbeats 4000000
namespace Hue
open PySem PySem.W PyProof.Rows L2
section
variable {P : Program} {w : World} {K : PySem.W.Frag} {mg : Str → Option Value} {base : Heap}
/-! ### used_by -/
abbrev sUsed : Stmt := top 14
def spUsed : Sp := fun vs H Q _ => ∃ (a : Addr) (L : List Nat) (m : Nat), vs = [.ref a, nV m] ∧ TupN H a L ∧ L.length ≤ 100 ∧ ∀ H', Same H H' → Q (nV (usedBy L m)) H'
theorem scUsed : FnScope ["labels", "marked"] ["labels", "marked"] (defScope sUsed) := ⟨rfl, rfl, rfl, by decide +kernel, rfl, by decide +kernel, by decide +kernel⟩
theorem usedBy_is {L : List Nat} {m : Nat} {z : Int} (h1 : z = (m : Int) - 1 ∨ ∃ x ∈ L, z = (x : Int)) (h2 : (m : Int) - 1 ≤ z ∧ ∀ x ∈ L, (x : Int) ≤ z) : z + 1 = ((usedBy L m : Nat) : Int) := by
  have a1 : ∀ (L : List Nat) (m : Nat), (usedBy L m = m ∨ ∃ x ∈ L, usedBy L m = x + 1) := by
    intro L
    induction L with
    | nil => intro m; exact .inl rfl
    | cons a L ih =>
      intro m
      have e : usedBy (a :: L) m = usedBy L (max m (a + 1)) := rfl
      rw [e]
      rcases ih (max m (a + 1)) with h | ⟨x, hx, h⟩
      · rw [h]
        by_cases c : a + 1 ≤ m
        · exact .inl (by omega)
        · exact .inr ⟨a, by simp, by omega⟩
      · exact .inr ⟨x, by simp [hx], h⟩
  have a2 := usedBy_ge L m
  have a3 : ∀ x ∈ L, x < usedBy L m := fun x hx => usedBy_lt hx
  rcases a1 L m with h | ⟨x, hx, h⟩
  · rcases h1 with q | ⟨y, hy, q⟩
    · omega
    · have := a3 y hy
      have := h2.1
      omega
  · have b1 := h2.2 x hx
    rcases h1 with q | ⟨y, hy, q⟩
    · omega
    · have := a3 y hy
      omega
theorem ok_used {f : Addr} {fd : FuncData} (F : FnP K "used_by" sUsed f fd) (gM : mg "max" = none) (gL : mg "list" = none) : FnOk P w K mg base CX0 1 f fd ["labels", "marked"] spUsed := by
  refine F.ok scUsed (fun vs H Q E h => ?_) (fun cdv A outer s H vs Q E hr h => ?_)
  · obtain ⟨a, L, m, rfl, _⟩ := h
    rfl
  · obtain ⟨a, L, m, rfl, hL, hlen, hQ⟩ := h
    refine ⟨_, PSs.nox (pss_one (ps_ret (pe_op op_add (pe_callB (cr_max rfl) (by rfl) gM (by decide +kernel) (pa_cons (pe_op op_cat (pe_lst (pa_cons (pe_op op_sub (pv 1) pe_int) pa_nil)) (pe_callTy call_list_of (by rfl) gL (by decide +kernel) (pa_cons (pv 0) pa_nil))) pa_nil)) pe_int))), ?_⟩
    refine ⟨_, rfl, _, _, rfl, rfl, small' (n := 1) (by decide), fun p hp => ?_⟩
    have s1 := same_new (o := .lst [V.int ((m : Int) - 1)]) hp
    refine ⟨_, rfl, a, _, rfl, .inr (SqT.of (s1 _ _ hL)), fun l hl => ?_⟩
    have s2 := same_new (o := .lst (L.map nV)) hl
    have npl : p ≠ l := ne_of_none upd_same hl
    refine ⟨p, l, [V.int ((m : Int) - 1)], L.map nV, rfl, rfl, (upd_ne npl).trans upd_same, upd_same, small' (by rw [List.length_map]; show 1 + L.length ≤ 1000; omega), fun r hR => ?_⟩
    have s3 := same_new (o := .lst ([V.int ((m : Int) - 1)] ++ L.map nV)) hR
    refine ⟨r, ((m : Int) - 1) :: L.map (fun (x : Nat) => (x : Int)), rfl, SqL.of ?_, by simp, fun z hz hle => ?_⟩
    · rw [upd_same, List.map_cons, List.map_map]
      rfl
    · refine ⟨_, _, rfl, rfl, ?_⟩
      have e : z + 1 = ((usedBy L m : Nat) : Int) := by
        refine usedBy_is ?_ ⟨hle _ (by simp), fun x hx => hle _ (List.mem_cons_of_mem _ (List.mem_map.mpr ⟨x, hx, rfl⟩))⟩
        rcases List.mem_cons.mp hz with q | q
        · exact .inl q
        · obtain ⟨x, hx, e⟩ := List.mem_map.mp q
          exact .inr ⟨x, hx, e.symm⟩
      show Q (V.int (z + 1)) _
      rw [e]
      exact hQ _ (s1.trans (s2.trans s3))
end
end Hue

set_option maxHeartbeats 4000000
namespace Hue
open PySem PySem.W PyProof.Rows L2
section
variable {P : Program} {w : World} {K : PySem.W.Frag} {mg : Str → Option Value} {base : Heap}
/-! ### with_one_more -/
abbrev sOne : Stmt := top 16
/-- lots whose labels have n places, so many in use at most; U, T places among them -/
def spOne : Sp := fun vs H Q _ => ∃ (a1 a2 a3 : Addr) (lots : List (List Nat × Nat)) (U T : List Nat) (n : Nat), vs = [.ref a1, .ref a2, .ref a3] ∧ Lots H a1 lots ∧ LstN H a2 U ∧ LstN H a3 T ∧ (∀ x ∈ lots, x.1.length = n ∧ x.2 ≤ 100) ∧ n ≤ 100 ∧ (∀ p ∈ U, p < n) ∧ (∀ p ∈ T, p < n) ∧ (with1 lots U T).length ≤ 100000 ∧
  ∀ H' D, Same H H' → H D = none → Lots H' D (with1 lots U T) → Q (.ref D) H'
theorem scOne : FnScope ["lots", "unlike", "same", "found", "labels", "used", "label"] ["lots", "unlike", "same"] (defScope sOne) := ⟨rfl, rfl, rfl, by decide +kernel, rfl, by decide +kernel, by decide +kernel⟩
theorem with1_take {lots : List (List Nat × Nat)} {U T : List Nat} {i : Nat} {x : List Nat × Nat} (h : lots[i]? = some x) : with1 (lots.take (i + 1)) U T = with1 (lots.take i) U T ++ one U T x := by
  rw [List.take_add_one, h]
  simp [with1]
theorem one_take {U T : List Nat} {x : List Nat × Nat} {j : Nat} : ((List.range (j + 1)).filterMap (step1 U T x)) = ((List.range j).filterMap (step1 U T x)) ++ (if fits x.1 j U T = true then [(x.1 ++ [j], max x.2 (j + 1))] else []) := by
  rw [List.range_succ, List.filterMap_append]
  congr 1
  unfold step1
  by_cases h : fits x.1 j U T = true
  · simp [h]
  · simp [h]
theorem filterMap_take_le {U T : List Nat} {x : List Nat × Nat} {j : Nat} (h : j ≤ x.2 + 1) : ((List.range j).filterMap (step1 U T x)).length ≤ (one U T x).length := by
  unfold one
  have : List.range j <+: List.range (x.2 + 1) := by
    rw [show x.2 + 1 = j + (x.2 + 1 - j) by omega, List.range_add]
    exact List.prefix_append _ _
  obtain ⟨r, e⟩ := this
  rw [← e, List.filterMap_append, List.length_append]
  omega
theorem with1_take_le {lots : List (List Nat × Nat)} {U T : List Nat} {i : Nat} {x : List Nat × Nat} (h : lots[i]? = some x) : (with1 (lots.take i) U T ++ one U T x).length ≤ (with1 lots U T).length := by
  rw [← with1_take h]
  have e : lots = lots.take (i + 1) ++ lots.drop (i + 1) := (List.take_append_drop _ _).symm
  have e2 : with1 lots U T = with1 (lots.take (i + 1)) U T ++ with1 (lots.drop (i + 1)) U T := by
    rw [← with1_append, ← e]
  rw [e2, List.length_append]
  omega
theorem ok_one {f fF : Addr} {fd fdF : FuncData} (F : FnP K "with_one_more" sOne f fd) (FF : FnP K "fits" sFits fF fdF) (gF : mg "fits" = some (.ref fF)) (gR : mg "range" = none) (gM : mg "max" = none) :
    FnOk P w K mg base CX0 2 f fd ["lots", "unlike", "same"] spOne := by
  have GF : FnOk P w K mg base CX0 1 fF fdF ["labels", "label", "unlike", "same"] spFits := ok_fits FF
  have bF : Binds K fdF ["labels", "label", "unlike", "same"] [] := fn_binds FF fun _ _ _ _ _ _ us hl => match us, hl with | [_, _, _, _], _ => rfl
  refine F.ok scOne (fun vs H Q E h => ?_) (fun cdv A outer s H vs Q E hr h => ?_)
  · obtain ⟨a1, a2, a3, lots, U, T, n, rfl, _⟩ := h
    rfl
  · obtain ⟨a1, a2, a3, lots, U, T, n, rfl, ⟨ws, hws, pws⟩, hU, hT, hlots, hn, bU, bT, hsz, hQ⟩ := h
    refine ⟨_, PSs.nox (pss_cons (ps_set (i := 3) scOne.nd rfl (.inl rfl) (pe_lst pa_nil))
      (pss_cons (ps_for PassesOwn.never rfl (pi_list (pv 0)) (pg_tup rfl (pgs_cons (pg_name (i := 4) scOne.nd rfl (.inl rfl)) (pgs_cons (pg_name (i := 5) scOne.nd rfl (.inl rfl)) pgs_nil)))
        (pss_one (ps_for PassesOwn.never rfl (pi_range1 (by rfl) gR (pa_cons (pe_op op_add (pv 5) pe_int) pa_nil)) (pg_name (i := 6) scOne.nd rfl (.inl rfl))
          (pss_one (ps_if (pt_val (pe_call GF hr (by rfl) gF FF.kp bF .nil pass0 (pa_cons (pv 4) (pa_cons (pv 6) (pa_cons (pv 1) (pa_cons (pv 2) pa_nil))))))
            (pss_one (ps_expr (pe_bm PySem.F.plainAttrs_list PySem.F.slot_list_append PySem.F.type_list_append mt_append (pv 3) (pa_cons (pe_tup (pa_cons (pe_op op_catN (pv 4) (pe_tup (pa_cons (pv 6) pa_nil))) (pa_cons (pe_callB (call_max2 rfl) (by rfl) gM (by decide +kernel) (pa_cons (pv 5) (pa_cons (pe_op op_add (pv 6) pe_int) pa_nil))) pa_nil))) pa_nil)))) pss_nil)))))
      (pss_one (ps_ret (pv 3))))), ?_⟩
    refine ⟨Nat.zero_le _, fun D hD => ?_⟩
    have sD := same_new (o := .lst []) hD
    -- what stands ahead of turn i of the outer loop
    refine ⟨_, rfl, a1, rfl, ⟨_, SqL.of (sD _ _ hws)⟩, for_list (K := K) (a := a1) (xs := ws)
      (fun i σ H' => Same H H' ∧ (∃ v4 v5 v6, σ = [some (.ref a1), some (.ref a2), some (.ref a3), some (.ref D), v4, v5, v6]) ∧ ∃ vs, H' D = some (.lst vs) ∧ Paired (RLot (hide [D] H')) (with1 (lots.take i) U T) vs)
      ⟨sD, ⟨_, _, _, rfl⟩, [], upd_same, .nil⟩ (fun i σ H' _ h => SqL.of (h.1 _ _ hws)) ?_ ?_⟩
    · rintro i y σ H1 hi ⟨s1, ⟨v4, v5, v6, rfl⟩, vs, hDv, pv⟩
      obtain ⟨x, hx, t, a, rfl, ht, hL⟩ := pd_get pws hi
      obtain ⟨hxl, hxu⟩ := hlots x (List.mem_of_getElem? hx)
      refine ⟨t, _, rfl, SqT.of (s1 _ _ ht), rfl, _, _, rfl, _, _, rfl, rfl, ?_⟩
      refine ⟨_, rfl, _, _, rfl, rfl, _, rfl, by omega, by omega, for_range (lo := 0) (n := (((x.2 : Nat) : Int) + 1).toNat)
        (fun j σ H' => Same H H' ∧ (∃ v6, σ = [some (.ref a1), some (.ref a2), some (.ref a3), some (.ref D), some (.ref a), some (nV x.2), v6]) ∧ ∃ vs, H' D = some (.lst vs) ∧ Paired (RLot (hide [D] H')) (with1 (lots.take i) U T ++ (List.range j).filterMap (step1 U T x)) vs)
        ⟨s1, ⟨_, rfl⟩, vs, hDv, by simpa using pv⟩ ?_ ?_⟩
      · rintro j σ H2 hj ⟨s2, ⟨v6, rfl⟩, vs2, hD2, pv2⟩
        have hjx : j ≤ x.2 := by omega
        have ej : V.int (0 + (j : Int)) = nV j := by rw [Int.zero_add]; rfl
        refine ⟨_, rfl, _, rfl, _, rfl, _, rfl, a, a2, a3, x.1, U, T, j, by rw [ej]; rfl, s2 _ _ hL, s2 _ _ hU, s2 _ _ hT, fun p hp => hxl ▸ bU p hp, fun p hp => hxl ▸ bT p hp, _, rfl, ?_⟩
        rw [ej]
        refine ite2 (fun hf => ?_) (fun hf => ?_)
        · refine ⟨_, rfl, .inl ⟨rfl, _, SqL.of hD2⟩, _, rfl, _, rfl, small' (n := 1) (by decide), fun p hp => ?_⟩
          have s3 := same_new (o := .tup [nV j]) hp
          refine ⟨a, p, x.1.map nV, [nV j], rfl, rfl, s3 _ _ (s2 _ _ hL), upd_same, small' (by rw [List.length_map, hxl]; show n + 1 ≤ 1000; omega), fun b H3 s4 fr hb => ?_⟩
          refine ⟨_, rfl, _, rfl, _, _, rfl, rfl, _, _, rfl, ?_⟩
          rw [show (x.2 : Int) = ((x.2 : Nat) : Int) from rfl]
          refine ⟨small' (n := 2) (by decide), fun t2 ht2 => ?_⟩
          have s5 := same_new (o := .tup [.ref b, .int (if ((j : Int) + 1) > ((x.2 : Nat) : Int) then ((j : Int) + 1) else ((x.2 : Nat) : Int))]) ht2
          have s25 := s3.trans (s4.trans s5)
          have hD5 := s25 _ _ hD2
          have hlen : vs2.length ≤ 100000 := by
            have h1 := pd_len pv2
            have h2 := with1_take_le (U := U) (T := T) hx
            have h3 := filterMap_take_le (U := U) (T := T) (x := x) (j := j) (by omega)
            rw [List.length_append] at h1 h2
            omega
          refine ⟨D, vs2, _, rfl, rfl, hD5, Nat.lt_of_le_of_lt hlen (by decide), ?_⟩
          have hbD : t2 ≠ D := fun z => by rw [z, (s3.trans s4) _ _ hD2] at ht2; cases ht2
          have hbD2 : b ≠ D := fun z => by
            rw [z, (s3.trans s4) _ _ hD2] at hb
            cases hb
          refine ⟨upd_keep (s2.trans s25) hD, ⟨_, rfl⟩, _, upd_same, ?_⟩
          rw [hide_upd (List.mem_singleton.mpr rfl), one_take, if_pos hf, ← List.append_assoc]
          refine pd_snoc (pd_imp pv2 fun _ _ r => r.keep (hide_same [D] s25)) ⟨t2, b, rfl, ?_, ?_⟩
          · rw [hide_out (by simpa using hbD), upd_same]
            show some (HO.tup [V.ref b, V.int (if ((j + 1 : Nat) : Int) > ((x.2 : Nat) : Int) then ((j + 1 : Nat) : Int) else ((x.2 : Nat) : Int))]) = _
            rw [max_nV]
          · show hide [D] _ b = _
            rw [hide_out (by simpa using hbD2)]
            refine s5 _ _ ?_
            rw [hb, List.map_append]
            rfl
        · refine ⟨s2, ⟨_, rfl⟩, vs2, hD2, ?_⟩
          rw [one_take, if_neg hf]
          simpa using pv2
      · rintro σ H2 ⟨s2, ⟨v6, rfl⟩, vs2, hD2, pv2⟩
        refine ⟨s2, ⟨_, _, _, rfl⟩, vs2, hD2, ?_⟩
        have e : (((x.2 : Nat) : Int) + 1).toNat = x.2 + 1 := by omega
        rw [e] at pv2
        rw [with1_take hx]
        exact pv2
    · rintro σ H1 ⟨s1, ⟨v4, v5, v6, rfl⟩, vs, hDv, pv⟩
      refine ⟨_, rfl, hQ H1 D s1 hD ⟨vs, hDv, ?_⟩⟩
      rw [← pd_len pws, List.take_length] at pv
      exact pd_imp pv fun _ _ r => r.keep (hide_sub _ _)
end
end Hue

set_option maxHeartbeats 4000000
namespace Hue
open PySem PySem.W PyProof.Rows L2
/-! ### parts -/
/-- what is known of the class of caps, of pieces -/
structure PartC (K : PySem.W.Frag) (C : Addr) : Prop where
  cl : Cls K C
  nR : NoAttr K C "rim"
  nI : NoAttr K C "inner"
  nU : NoAttr K C "unlike"
  nS : NoAttr K C "same"
def partF (r i : Nat) (tu ts : Addr) : List (Str × V) := [("rim", nV r), ("inner", nV i), ("unlike", .ref tu), ("same", .ref ts)]
theorem partF_rim (r i : Nat) (tu ts : Addr) : (partF r i tu ts).lookup ("rim" : Str) = some (nV r) := rfl
theorem partF_inner (r i : Nat) (tu ts : Addr) : (partF r i tu ts).lookup ("inner" : Str) = some (nV i) := rfl
theorem partF_unlike (r i : Nat) (tu ts : Addr) : (partF r i tu ts).lookup ("unlike" : Str) = some (.ref tu) := rfl
theorem partF_same (r i : Nat) (tu ts : Addr) : (partF r i tu ts).lookup ("same" : Str) = some (.ref ts) := rfl
def PartAt (C : Addr) (H : Hp) (p : Addr) (r i : Nat) (un sa : List (Nat × Nat)) : Prop := ∃ dx tu ts, H p = some (.ins C dx (partF r i tu ts)) ∧ PairsT H tu un ∧ PairsT H ts sa
theorem PartAt.keep {C : Addr} {H H' : Hp} {p : Addr} {r i : Nat} {un sa : List (Nat × Nat)} (s : Same H H') (h : PartAt C H p r i un sa) : PartAt C H' p r i un sa := by
  obtain ⟨dx, tu, ts, h1, h2, h3⟩ := h
  exact ⟨dx, tu, ts, s _ _ h1, h2.keep s, h3.keep s⟩
/-- at u a list of n lists of numbers, the k-th is f k -/
def TiesAt (H : Hp) (u : Addr) (n : Nat) (f : Nat → List Nat) : Prop := ∃ as : List Addr, H u = some (.lst (as.map V.ref)) ∧ as.length = n ∧ ∀ (k : Nat) (a : Addr), as[k]? = some a → LstN H a (f k)
theorem TiesAt.keep {H H' : Hp} {u : Addr} {n : Nat} {f : Nat → List Nat} (s : Same H H') (h : TiesAt H u n f) : TiesAt H' u n f := by
  obtain ⟨as, h1, h2, h3⟩ := h
  exact ⟨as, s _ _ h1, h2, fun k a e => s _ _ (h3 k a e)⟩
theorem at_snoc (l : List (Nat × Nat)) (x y k : Nat) : at_ (l ++ [(x, y)]) k = if y = k then at_ l k ++ [x] else at_ l k := by
  unfold at_
  rw [List.filter_append, List.map_append]
  by_cases h : y = k
  · simp [h]
  · simp [h]
/-- fresh lists, all of them empty, for a range's comprehension -/
structure Fam (H1 H' : Hp) (D : Addr) (as : List Addr) : Prop where
  lst : H' D = some (.lst (as.map V.ref))
  nd : (D :: as).Nodup
  new : ∀ a ∈ D :: as, H1 a = none
  emp : ∀ a ∈ as, H' a = some (.lst [])
theorem Fam.more {H1 H' : Hp} {D b : Addr} {as : List Addr} (fam : Fam H1 H' D as) (s1 : Same H1 H') (hb : H' b = none) : Fam H1 (upd (upd H' b (.lst [])) D (.lst (as.map V.ref ++ [.ref b]))) D (as ++ [b]) := by
  have hbD : b ≠ D := fun z => by rw [z, fam.lst] at hb; cases hb
  have hba : b ∉ as := fun z => by rw [fam.emp b z] at hb; cases hb
  have hDa : D ∉ as := (List.nodup_cons.mp fam.nd).1
  refine ⟨by rw [upd_same, List.map_append]; rfl, ?_, ?_, ?_⟩
  · rw [List.nodup_cons]
    refine ⟨fun z => ?_, ?_⟩
    · rcases List.mem_append.mp z with z | z
      · exact hDa z
      · exact hbD (List.mem_singleton.mp z).symm
    · rw [List.nodup_append]
      refine ⟨(List.nodup_cons.mp fam.nd).2, by simp, fun a ha c hc e => ?_⟩
      rw [List.mem_singleton] at hc
      subst hc; subst e
      exact hba ha
  · intro a ha
    rcases List.mem_cons.mp ha with rfl | ha
    · exact fam.new a (by simp)
    · rcases List.mem_append.mp ha with ha | ha
      · exact fam.new a (by simp [ha])
      · rw [List.mem_singleton.mp ha]
        exact s1.free hb
  · intro a ha
    have haD : a ≠ D := fun z => by
      rcases List.mem_append.mp ha with ha | ha
      · exact hDa (z ▸ ha)
      · exact hbD ((List.mem_singleton.mp ha).symm.trans z)
    rw [upd_ne haD]
    rcases List.mem_append.mp ha with ha | ha
    · rw [upd_ne (fun (z : a = b) => hba (z ▸ ha))]
      exact fam.emp a ha
    · rw [List.mem_singleton.mp ha]
      exact upd_same
section
variable {P : Program} {w : World} {K : PySem.W.Frag} {mg : Str → Option Value} {base : Heap}
/-! ### ties_of -/
abbrev sTies : Stmt := top 12
def spTies (K : PySem.W.Frag) : Sp := fun vs H Q _ => ∃ (C p : Addr) (r i n : Nat) (un sa : List (Nat × Nat)), vs = [.ref p, nV n] ∧ PartC K C ∧ PartAt C H p r i un sa ∧ (∀ x ∈ un, x.2 < n) ∧ (∀ x ∈ sa, x.2 < n) ∧ n ≤ 100 ∧ un.length ≤ 1000 ∧ sa.length ≤ 1000 ∧
  ∀ H' t u v, Same H H' → H' t = some (.tup [.ref u, .ref v]) → TiesAt H' u n (at_ un) → TiesAt H' v n (at_ sa) → Q (.ref t) H'
abbrev nTies : List Str := ["part", "count", "unlike", "same", "x", "y", "place"]
theorem scTies : FnScope nTies ["part", "count"] (defScope sTies) := ⟨rfl, rfl, rfl, by decide +kernel, rfl, by decide +kernel, by decide +kernel⟩
theorem same_hide_trans {Z : List Addr} {H H1 H2 : Hp} (a : Same (hide Z H) H1) (b : Same H1 H2) : Same (hide Z H) H2 := a.trans b
theorem not_mem_of_get {as : List Addr} {H : Hp} {b : Addr} {o : HO} (h : ∀ a ∈ as, H a = none) (e : H b = some o) : b ∉ as := fun z => by rw [h b z] at e; cases e
/-- one pair's store: the place's list gets one more -/
theorem ties_store {H' : Hp} {as : List Addr} {l : List (Nat × Nat)} {x y : Nat} {b : Addr} (nd : as.Nodup) (hb : as[y]? = some b) (h : ∀ (k : Nat) (a : Addr), as[k]? = some a → LstN H' a (at_ l k)) :
    ∀ (k : Nat) (a : Addr), as[k]? = some a → LstN (upd H' b (.lst ((at_ l y).map nV ++ [nV x]))) a (at_ (l ++ [(x, y)]) k) := by
  intro k a ha
  rw [at_snoc]
  by_cases e : y = k
  · subst e
    rw [hb] at ha
    cases ha
    rw [if_pos rfl]
    show upd _ _ _ _ = _
    rw [upd_same, List.map_append]
    rfl
  · rw [if_neg e]
    have : a ≠ b := fun z => by
      subst z
      exact e (nd_ix nd hb ha)
    show upd _ _ _ _ = _
    rw [upd_ne this]
    exact h k a ha
theorem ok_ties {f : Addr} {fd : FuncData} (F : FnP K "ties_of" sTies f fd) (gR : mg "range" = none) : FnOk P w K mg base CX0 1 f fd ["part", "count"] (spTies K) := by
  refine F.ok scTies (fun vs H Q E h => ?_) (fun cdv A outer s H vs Q E hr h => ?_)
  · obtain ⟨C, p, r, i, n, un, sa, rfl, _⟩ := h
    rfl
  · obtain ⟨C, p, r, i, n, un, sa, rfl, pc, ⟨dx, tu, ts, hp, ⟨wu, hwu, pwu⟩, ⟨wsa, hwsa, pwsa⟩⟩, bu, bs, hn, lu, ls, hQ⟩ := h
    refine ⟨_, PSs.nox (pss_cons (ps_setLc (i := 2) (own := [("place", 6)]) (g := gName 6) (tt := tYes) rfl scTies.nd rfl rfl (sw_true rfl rfl rfl (by decide +kernel)) (pi_range1 (by rfl) gR (pa_cons (pv 1) pa_nil)) (blkOk_by (N := nTies) (sc := defScope sTies) (by decide +kernel)) (fun _ _ _ _ _ => pg_name (i := 6) scTies.nd rfl (.inl rfl)) (fun _ _ _ _ _ => pts_nil) (fun _ _ _ _ _ => pe_lst pa_nil))
      (pss_cons (ps_setLc (i := 3) (own := [("place", 6)]) (g := gName 6) (tt := tYes) rfl scTies.nd rfl rfl (sw_true rfl rfl rfl (by decide +kernel)) (pi_range1 (by rfl) gR (pa_cons (pv 1) pa_nil)) (blkOk_by (N := nTies) (sc := defScope sTies) (by decide +kernel)) (fun _ _ _ _ _ => pg_name (i := 6) scTies.nd rfl (.inl rfl)) (fun _ _ _ _ _ => pts_nil) (fun _ _ _ _ _ => pe_lst pa_nil))
      (pss_cons (ps_for PassesOwn.never rfl (pi_tup (pe_fld (pv 0) rfl)) (pg_tup rfl (pgs_cons (pg_name (i := 4) scTies.nd rfl (.inl rfl)) (pgs_cons (pg_name (i := 5) scTies.nd rfl (.inl rfl)) pgs_nil)))
        (pss_one (ps_expr (pe_bm PySem.F.plainAttrs_list PySem.F.slot_list_append PySem.F.type_list_append mt_append (pe_ix ix_list (pv 2) (pv 5) (fun _ _ => rfl)) (pa_cons (pv 4) pa_nil)))))
      (pss_cons (ps_for PassesOwn.never rfl (pi_tup (pe_fld (pv 0) rfl)) (pg_tup rfl (pgs_cons (pg_name (i := 4) scTies.nd rfl (.inl rfl)) (pgs_cons (pg_name (i := 5) scTies.nd rfl (.inl rfl)) pgs_nil)))
        (pss_one (ps_expr (pe_bm PySem.F.plainAttrs_list PySem.F.slot_list_append PySem.F.type_list_append mt_append (pe_ix ix_list (pv 3) (pv 5) (fun _ _ => rfl)) (pa_cons (pv 4) pa_nil)))))
      (pss_one (ps_ret (pe_tup (pa_cons (pv 2) (pa_cons (pv 3) pa_nil))))))))), ?_⟩
    refine ⟨_, rfl, _, rfl, by omega, by omega, fun D hD => lc_range (lo := 0) (n := ((n : Nat) : Int).toNat) (fun k H' => Same H H' ∧ ∃ as, as.length = k ∧ Fam H H' D as)
      ⟨same_new hD, [], rfl, ⟨upd_same, by simp, by simpa using hD, by simp⟩⟩ ?_ ?_⟩
    · rintro k H1 hk ⟨s1, as, hl, fam⟩
      refine ⟨rfl, Nat.zero_le _, fun b hb => ?_⟩
      have s2 := same_new (o := .lst []) hb
      exact ⟨as.map V.ref, s2 _ _ fam.lst, small (by rw [List.length_map]; omega), upd_keep (s1.trans s2) hD, as ++ [b], by rw [List.length_append, hl]; rfl, fam.more s1 hb⟩
    · rintro H1 ⟨s1, as1, hl1, fam1⟩
      refine ⟨_, rfl, _, rfl, by omega, by omega, fun D2 hD2 => lc_range (lo := 0) (n := ((n : Nat) : Int).toNat) (fun k H' => Same H1 H' ∧ ∃ as, as.length = k ∧ Fam H1 H' D2 as)
        ⟨same_new hD2, [], rfl, ⟨upd_same, by simp, by simpa using hD2, by simp⟩⟩ ?_ ?_⟩
      · rintro k H2 hk ⟨s2, as, hl, fam⟩
        refine ⟨rfl, Nat.zero_le _, fun b hb => ?_⟩
        have s3 := same_new (o := .lst []) hb
        exact ⟨as.map V.ref, s3 _ _ fam.lst, small (by rw [List.length_map]; omega), upd_keep (s2.trans s3) hD2, as ++ [b], by rw [List.length_append, hl]; rfl, fam.more s2 hb⟩
      · rintro H2 ⟨s2, as2, hl2, fam2⟩
        have sHide : ∀ {H : Hp} {as : List Addr}, (∀ a ∈ as, H a = none) → hide as H = H := by
          intro H as h
          funext b
          by_cases z : b ∈ as
          · rw [hide_in z, h b z]
          · rw [hide_out z]
        have n1 : as1.length = n := by rw [hl1]; omega
        have n2 : as2.length = n := by rw [hl2]; omega
        have h1new : ∀ a ∈ as1, H a = none := fun a ha => fam1.new a (by simp [ha])
        have h2new : ∀ a ∈ as2, H1 a = none := fun a ha => fam2.new a (by simp [ha])
        have key1 : Same H (hide as1 H2) := by
          have := hide_same as1 (s1.trans s2)
          rwa [sHide h1new] at this
        -- the first loop
        refine ⟨_, rfl, p, C, dx, _, _, rfl, (s1.trans s2) _ _ hp, pc.cl, pc.nU, partF_unlike r i tu ts, tu, rfl, ⟨_, SqT.of ((s1.trans s2) _ _ hwu)⟩, for_tup (K := K) (a := tu) (xs := wu)
          (fun k σ H' => Same (hide as1 H2) H' ∧ (∃ v4 v5, σ = [some (.ref p), some (nV n), some (.ref D), some (.ref D2), v4, v5, none]) ∧ ∀ (j : Nat) (a : Addr), as1[j]? = some a → LstN H' a (at_ (un.take k) j))
          ⟨hide_sub _ _, ⟨_, _, rfl⟩, fun j a ha => s2 _ _ (fam1.emp a (List.mem_of_getElem? ha))⟩ (fun k σ H' _ h => SqT.of (h.1 _ _ (key1 _ _ hwu))) ?_ ?_⟩
        · rintro k yv σ H3 hk ⟨s3, ⟨v4, v5, rfl⟩, hl3⟩
          obtain ⟨⟨x, y⟩, hx, t, rfl, ht⟩ := pd_get pwu hk
          have hy : y < n := bu (x, y) (List.mem_of_getElem? hx)
          obtain ⟨b, hb⟩ : ∃ b, as1[y]? = some b := ⟨as1[y]'(by omega), List.getElem?_eq_getElem _⟩
          have hD3 : H3 D = some (.lst (as1.map V.ref)) := s3 _ _ (by rw [hide_out (List.nodup_cons.mp fam1.nd).1]; exact s2 _ _ fam1.lst)
          have hb3 := hl3 y b hb
          refine ⟨t, _, rfl, SqT.of (s3 _ _ (key1 _ _ ht)), rfl, _, _, rfl, _, _, rfl, rfl, ?_⟩
          refine ⟨_, rfl, _, rfl, D, as1.map V.ref, (y : Int), .ref b, rfl, rfl, SqL.of hD3, atI_nat (by rw [List.getElem?_map, hb]; rfl), .inl ⟨rfl, _, SqL.of hb3⟩, _, rfl, b, _, _, rfl, rfl, hb3, ?_, ?_⟩
          · refine small ?_
            rw [List.length_map]
            unfold at_
            rw [List.length_map]
            have h1 := List.length_filter_le (fun p => decide (p.2 = y)) (un.take k)
            have h2 : (un.take k).length ≤ un.length := by rw [List.length_take]; omega
            omega
          · refine ⟨same_hide_upd (List.mem_of_getElem? hb) s3, ⟨_, _, rfl⟩, ?_⟩
            have e : un.take (k + 1) = un.take k ++ [(x, y)] := by rw [List.take_add_one, hx]; rfl
            rw [e]
            exact ties_store (List.nodup_cons.mp fam1.nd).2 hb hl3
        · rintro σ H3 ⟨s3, ⟨v4, v5, rfl⟩, hl3⟩
          rw [← pd_len pwu, List.take_length] at hl3
          have hD3 : H3 D = some (.lst (as1.map V.ref)) := s3 _ _ (by rw [hide_out (List.nodup_cons.mp fam1.nd).1]; exact s2 _ _ fam1.lst)
          have off : ∀ a ∈ D2 :: as2, a ∉ as1 := fun a ha z => by
            have h1 := fam2.new a ha
            rw [fam1.emp a z] at h1
            cases h1
          have hD23 : H3 D2 = some (.lst (as2.map V.ref)) := s3 _ _ (by rw [hide_out (off D2 (by simp))]; exact fam2.lst)
          have emp3 : ∀ a ∈ as2, H3 a = some (.lst []) := fun a ha => s3 _ _ (by rw [hide_out (off a (by simp [ha]))]; exact fam2.emp a ha)
          have sH3 : Same H H3 := key1.trans s3
          have h2H3 : Same H (hide as2 H3) := by
            have := hide_same as2 sH3
            rwa [sHide (fun a ha => s1.free (h2new a ha))] at this
          refine ⟨_, rfl, p, C, dx, _, _, rfl, sH3 _ _ hp, pc.cl, pc.nS, partF_same r i tu ts, ts, rfl, ⟨_, SqT.of (sH3 _ _ hwsa)⟩, for_tup (K := K) (a := ts) (xs := wsa)
            (fun k σ H' => Same (hide as2 H3) H' ∧ (∃ v4 v5, σ = [some (.ref p), some (nV n), some (.ref D), some (.ref D2), v4, v5, none]) ∧ ∀ (j : Nat) (a : Addr), as2[j]? = some a → LstN H' a (at_ (sa.take k) j))
            ⟨hide_sub _ _, ⟨_, _, rfl⟩, fun j a ha => emp3 a (List.mem_of_getElem? ha)⟩ (fun k σ H' _ h => SqT.of (h.1 _ _ (h2H3 _ _ hwsa))) ?_ ?_⟩
          · rintro k yv σ H4 hk ⟨s4, ⟨v4, v5, rfl⟩, hl4⟩
            obtain ⟨⟨x, y⟩, hx, t, rfl, ht⟩ := pd_get pwsa hk
            have hy : y < n := bs (x, y) (List.mem_of_getElem? hx)
            obtain ⟨b, hb⟩ : ∃ b, as2[y]? = some b := ⟨as2[y]'(by omega), List.getElem?_eq_getElem _⟩
            have hD4 : H4 D2 = some (.lst (as2.map V.ref)) := s4 _ _ (by rw [hide_out (List.nodup_cons.mp fam2.nd).1]; exact hD23)
            have hb4 := hl4 y b hb
            refine ⟨t, _, rfl, SqT.of (s4 _ _ (h2H3 _ _ ht)), rfl, _, _, rfl, _, _, rfl, rfl, ?_⟩
            refine ⟨_, rfl, _, rfl, D2, as2.map V.ref, (y : Int), .ref b, rfl, rfl, SqL.of hD4, atI_nat (by rw [List.getElem?_map, hb]; rfl), .inl ⟨rfl, _, SqL.of hb4⟩, _, rfl, b, _, _, rfl, rfl, hb4, ?_, ?_⟩
            · refine small ?_
              rw [List.length_map]
              unfold at_
              rw [List.length_map]
              have h1 := List.length_filter_le (fun p => decide (p.2 = y)) (sa.take k)
              have h2 : (sa.take k).length ≤ sa.length := by rw [List.length_take]; omega
              omega
            · refine ⟨same_hide_upd (List.mem_of_getElem? hb) s4, ⟨_, _, rfl⟩, ?_⟩
              have e : sa.take (k + 1) = sa.take k ++ [(x, y)] := by rw [List.take_add_one, hx]; rfl
              rw [e]
              exact ties_store (List.nodup_cons.mp fam2.nd).2 hb hl4
          · rintro σ H4 ⟨s4, ⟨v4, v5, rfl⟩, hl4⟩
            rw [← pd_len pwsa, List.take_length] at hl4
            have hD4 : H4 D2 = some (.lst (as2.map V.ref)) := s4 _ _ (by rw [hide_out (List.nodup_cons.mp fam2.nd).1]; exact hD23)
            have off1 : ∀ a ∈ D :: as1, a ∉ as2 := fun a ha z => by
              have h1 := h2new a z
              rcases List.mem_cons.mp ha with rfl | ha
              · rw [fam1.lst] at h1; cases h1
              · rw [fam1.emp a ha] at h1; cases h1
            refine ⟨_, rfl, _, rfl, small' (n := 2) (by decide), fun t ht => ?_⟩
            have s5 := same_new (o := .tup [.ref D, .ref D2]) ht
            refine hQ _ t D D2 (h2H3.trans (s4.trans s5)) upd_same ?_ ?_
            · refine TiesAt.keep s5 ⟨as1, s4 _ _ (by rw [hide_out (off1 D (by simp))]; exact hD3), n1, fun k a ha => s4 _ _ ?_⟩
              rw [hide_out (off1 a (by simp [List.mem_of_getElem? ha]))]
              exact hl3 k a ha
            · exact TiesAt.keep s5 ⟨as2, hD4, n2, hl4⟩
end
end Hue

set_option maxHeartbeats 4000000
namespace Hue
open PySem PySem.W PyProof.Rows L2
section
variable {P : Program} {w : World} {K : PySem.W.Frag} {mg : Str → Option Value} {base : Heap}
/-! ### grown -/
theorem filterMap_len_le {α β : Type} (f : α → Option β) : ∀ l : List α, (l.filterMap f).length ≤ l.length
  | [] => Nat.le_refl _
  | a :: l => by
    have := filterMap_len_le f l
    rw [List.filterMap_cons]
    cases f a with
    | none => simp only [List.length_cons]; omega
    | some b => simp only [List.length_cons]; omega
theorem with1_size {lots : List (List Nat × Nat)} {U T : List Nat} {u : Nat} : (∀ x ∈ lots, x.2 + 1 ≤ u) → (with1 lots U T).length ≤ lots.length * u := by
  induction lots with
  | nil => intro _; simp [with1]
  | cons x r ih =>
    intro h
    have e : with1 (x :: r) U T = one U T x ++ with1 r U T := by simp [with1]
    rw [e, List.length_append, List.length_cons, Nat.add_mul]
    have h1 := ih fun y hy => h y (by simp [hy])
    have h2 : (one U T x).length ≤ x.2 + 1 := by
      have := filterMap_len_le (step1 U T x) (List.range (x.2 + 1))
      rwa [List.length_range] at this
    have h3 := h x (by simp)
    omega
theorem with1_used {lots : List (List Nat × Nat)} {U T : List Nat} {u : Nat} (h : ∀ x ∈ lots, x.2 ≤ u) : ∀ y ∈ with1 lots U T, y.2 ≤ u + 1 := by
  intro y hy
  obtain ⟨x, hx, hy⟩ := List.mem_flatMap.mp hy
  obtain ⟨c, hc, _, rfl⟩ := mem_one.mp hy
  have := h x hx
  show max x.2 (c + 1) ≤ u + 1
  omega
/-- growing step by step: what stands behind i steps -/
theorem gro_step {un sa : List (Nat × Nat)} : ∀ (i j : Nat) (lots : List (List Nat × Nat)), gro un sa j (i + 1) lots = with1 (gro un sa j i lots) (at_ un (j + i)) (at_ sa (j + i))
  | 0, j, lots => rfl
  | i + 1, j, lots => by
    show gro un sa (j + 1) (i + 1) (with1 lots (at_ un j) (at_ sa j)) = with1 (gro un sa (j + 1) i (with1 lots (at_ un j) (at_ sa j))) _ _
    rw [gro_step i (j + 1)]
    rw [show j + 1 + i = j + (i + 1) by omega]
theorem gro_bounds {un sa : List (Nat × Nat)} {j u n : Nat} {lots : List (List Nat × Nat)} (h1 : ∀ x ∈ lots, x.2 ≤ u) (h2 : ∀ x ∈ lots, x.1.length = n) (hl : lots.length ≤ 1) (B : Nat) : ∀ i, u + i ≤ B →
    (∀ y ∈ gro un sa j i lots, y.2 ≤ u + i) ∧ (∀ y ∈ gro un sa j i lots, y.1.length = n + i) ∧ (gro un sa j i lots).length ≤ B ^ i
  | 0, _ => ⟨h1, h2, hl⟩
  | i + 1, hi => by
    obtain ⟨a, b, c⟩ := gro_bounds (un := un) (sa := sa) (j := j) h1 h2 hl B i (by omega)
    rw [gro_step]
    refine ⟨with1_used a, with1_len b, ?_⟩
    have := with1_size (U := at_ un (j + i)) (T := at_ sa (j + i)) (u := B) fun x hx => by have := a x hx; omega
    rw [Nat.pow_succ]
    exact Nat.le_trans this (Nat.mul_le_mul_right B c)
abbrev sGrown : Stmt := top 15
def spGrown (K : PySem.W.Frag) : Sp := fun vs H Q _ => ∃ (C p a : Addr) (r i n m : Nat) (un sa : List (Nat × Nat)) (st : List Nat), vs = [.ref p, nV n, .ref a, nV m] ∧ PartC K C ∧ PartAt C H p r i un sa ∧ Ok un sa n ∧ TupN H a st ∧
  st.length ≤ n ∧ n ≤ 5 + st.length ∧ st.length ≤ 10 ∧ usedBy st m + (n - st.length) ≤ 10 ∧ un.length ≤ 1000 ∧ sa.length ≤ 1000 ∧
  ∀ H' D, Same H H' → H D = none → Lots H' D (grown un sa n st m) → Q (.ref D) H'
abbrev nGrown : List Str := ["part", "count", "start", "marked", "unlike", "same", "place", "found"]
theorem scGrown : FnScope nGrown ["part", "count", "start", "marked"] (defScope sGrown) := ⟨rfl, rfl, rfl, by decide +kernel, rfl, by decide +kernel, by decide +kernel⟩
structure GGrown (K : PySem.W.Frag) (mg : Str → Option Value) where
  fT : Addr
  fdT : FuncData
  FT : FnP K "ties_of" sTies fT fdT
  gT : mg "ties_of" = some (.ref fT)
  fF : Addr
  fdF : FuncData
  FF : FnP K "fits" sFits fF fdF
  gF : mg "fits" = some (.ref fF)
  fU : Addr
  fdU : FuncData
  FU : FnP K "used_by" sUsed fU fdU
  gU : mg "used_by" = some (.ref fU)
  fO : Addr
  fdO : FuncData
  FO : FnP K "with_one_more" sOne fO fdO
  gO : mg "with_one_more" = some (.ref fO)
  range : mg "range" = none
  len : mg "len" = none
  tuple : mg "tuple" = none
  max : mg "max" = none
  list : mg "list" = none
theorem ok_grown {f : Addr} {fd : FuncData} (F : FnP K "grown" sGrown f fd) (G : GGrown K mg) : FnOk P w K mg base CX0 3 f fd ["part", "count", "start", "marked"] (spGrown K) := by
  have GT : FnOk P w K mg base CX0 2 G.fT G.fdT ["part", "count"] (spTies K) := (ok_ties G.FT G.range).mono (by decide)
  have bT : Binds K G.fdT ["part", "count"] [] := fn_binds G.FT fun _ _ _ _ _ _ us hl => match us, hl with | [_, _], _ => rfl
  have GF : FnOk P w K mg base CX0 2 G.fF G.fdF ["labels", "label", "unlike", "same"] spFits := (ok_fits G.FF).mono (by decide)
  have bF : Binds K G.fdF ["labels", "label", "unlike", "same"] [] := fn_binds G.FF fun _ _ _ _ _ _ us hl => match us, hl with | [_, _, _, _], _ => rfl
  have GU : FnOk P w K mg base CX0 2 G.fU G.fdU ["labels", "marked"] spUsed := (ok_used G.FU G.max G.list).mono (by decide)
  have bU : Binds K G.fdU ["labels", "marked"] [] := fn_binds G.FU fun _ _ _ _ _ _ us hl => match us, hl with | [_, _], _ => rfl
  have GO : FnOk P w K mg base CX0 2 G.fO G.fdO ["lots", "unlike", "same"] spOne := ok_one G.FO G.FF G.gF G.range G.max
  have bO : Binds K G.fdO ["lots", "unlike", "same"] [] := fn_binds G.FO fun _ _ _ _ _ _ us hl => match us, hl with | [_, _, _], _ => rfl
  refine F.ok scGrown (fun vs H Q E h => ?_) (fun cdv A outer s H vs Q E hr h => ?_)
  · obtain ⟨C, p, a, r, i, n, m, un, sa, st, rfl, _⟩ := h
    rfl
  · obtain ⟨C, p, a, r, i, n, m, un, sa, st, rfl, pc, hp, ok, ha, h1, h2, h3, h4, lu, ls, hQ⟩ := h
    refine ⟨_, PSs.nox (pss_cons (ps_asg (pe_call GT hr (by rfl) G.gT G.FT.kp bT .nil pass0 (pa_cons (pv 0) (pa_cons (pv 1) pa_nil))) (pg_tup rfl (pgs_cons (pg_name (i := 4) scGrown.nd rfl (.inl rfl)) (pgs_cons (pg_name (i := 5) scGrown.nd rfl (.inl rfl)) pgs_nil))))
      (pss_cons (ps_for PassesOwn.never rfl (pi_range1 (by rfl) G.range (pa_cons (pe_callB call_len_seq (by rfl) G.len boot_len (pa_cons (pv 2) pa_nil)) pa_nil)) (pg_name (i := 6) scGrown.nd rfl (.inl rfl))
        (pss_one (ps_if (pt_not (pt_val (pe_call GF hr (by rfl) G.gF G.FF.kp bF .nil pass0 (pa_cons (pv 2) (pa_cons (pe_ix ix_tup (pv 2) (pv 6) (fun _ _ => rfl)) (pa_cons (pe_ix ix_list (pv 4) (pv 6) (fun _ _ => rfl)) (pa_cons (pe_ix ix_list (pv 5) (pv 6) (fun _ _ => rfl)) pa_nil)))))))
          (pss_one (ps_ret (pe_lst pa_nil))) pss_nil)))
      (pss_cons (ps_set (i := 7) scGrown.nd rfl (.inl rfl) (pe_lst (pa_cons (pe_tup (pa_cons (pe_callTy call_tupleT (by rfl) G.tuple (by decide +kernel) (pa_cons (pv 2) pa_nil)) (pa_cons (pe_call GU hr (by rfl) G.gU G.FU.kp bU .nil pass0 (pa_cons (pv 2) (pa_cons (pv 3) pa_nil))) pa_nil))) pa_nil)))
      (pss_cons (ps_for PassesOwn.never rfl (pi_range2 (by rfl) G.range (pa_cons (pe_callB call_len_seq (by rfl) G.len boot_len (pa_cons (pv 2) pa_nil)) (pa_cons (pv 1) pa_nil))) (pg_name (i := 6) scGrown.nd rfl (.inl rfl))
        (pss_one (ps_set (i := 7) scGrown.nd rfl (.inl rfl) (pe_call GO hr (by rfl) G.gO G.FO.kp bO .nil pass0 (pa_cons (pv 7) (pa_cons (pe_ix ix_list (pv 4) (pv 6) (fun _ _ => rfl)) (pa_cons (pe_ix ix_list (pv 5) (pv 6) (fun _ _ => rfl)) pa_nil)))))))
      (pss_one (ps_ret (pv 7))))))), ?_⟩
    refine ⟨_, rfl, _, rfl, C, p, r, i, n, un, sa, rfl, pc, hp, fun x hx => (ok.un x hx).2, fun x hx => (ok.sa x hx).2, by omega, lu, ls, fun H1 t u v s1 ht hu hv => ?_⟩
    obtain ⟨us, hus, lus, pus⟩ := hu
    obtain ⟨vs, hvs, lvs, pvs⟩ := hv
    refine ⟨t, _, rfl, SqT.of ht, rfl, _, _, rfl, _, _, rfl, rfl, ?_⟩
    have getU : ∀ {H'} {j : Nat}, Same H1 H' → j < n → ∃ b, us[j]? = some b ∧ LstN H' b (at_ un j) := fun {H' j} s hj =>
      ⟨us[j]'(by omega), List.getElem?_eq_getElem _, (pus j _ (List.getElem?_eq_getElem (by omega))).keep s⟩
    have getV : ∀ {H'} {j : Nat}, Same H1 H' → j < n → ∃ b, vs[j]? = some b ∧ LstN H' b (at_ sa j) := fun {H' j} s hj =>
      ⟨vs[j]'(by omega), List.getElem?_eq_getElem _, (pvs j _ (List.getElem?_eq_getElem (by omega))).keep s⟩
    refine ⟨_, rfl, a, _, rfl, .inr (SqT.of (s1 _ _ ha)), ((st.map nV).length : Int), rfl, by omega, by rw [List.length_map]; omega, for_range (lo := 0) (n := (((st.map nV).length : Nat) : Int).toNat)
      (fun j σ H' => H' = H1 ∧ (∃ v6, σ = [some (.ref p), some (nV n), some (.ref a), some (nV m), some (.ref u), some (.ref v), v6, none]) ∧ ∀ q, q < j → fits st (st.getD q 0) (at_ un q) (at_ sa q) = true)
      ⟨rfl, ⟨_, rfl⟩, fun q hq => absurd hq (Nat.not_lt_zero q)⟩ ?_ ?_⟩
    · rintro j σ H2 hj ⟨rfl, ⟨v6, rfl⟩, hall⟩
      have hj : j < st.length := by simpa using hj
      rw [Int.zero_add]
      obtain ⟨b, hb, hbl⟩ := getU (Same.refl _) (show j < n by omega)
      obtain ⟨c, hc, hcl⟩ := getV (Same.refl _) (show j < n by omega)
      refine ⟨_, rfl, _, rfl, _, rfl, a, _, _, _, rfl, rfl, SqT.of (s1 _ _ ha), at_nV hj, _, rfl, _, rfl, u, _, _, .ref b, rfl, rfl, SqL.of hus, atI_nat (by rw [List.getElem?_map, hb]; rfl), _, rfl, _, rfl, v, _, _, .ref c, rfl, rfl, SqL.of hvs, atI_nat (by rw [List.getElem?_map, hc]; rfl), ?_⟩
      refine ⟨a, b, c, st, at_ un j, at_ sa j, st.getD j 0, rfl, s1 _ _ ha, hbl, hcl, fun x hx => Nat.lt_trans (ok.un _ (mem_at.mp hx)).1 hj, fun x hx => Nat.lt_trans (ok.sa _ (mem_at.mp hx)).1 hj, _, rfl, ?_⟩
      refine ite2 (fun hf => ?_) (fun hf => ?_)
      · refine ⟨Nat.zero_le _, fun D hD => ?_⟩
        refine hQ _ D (s1.trans (same_new hD)) (s1.free hD) ⟨[], upd_same, ?_⟩
        have e : grown un sa n st m = [] := by
          unfold grown
          rw [if_neg]
          intro z
          have := List.all_eq_true.mp z j (List.mem_range.mpr hj)
          rw [this] at hf
          cases hf
        rw [e]
        exact .nil
      · refine ⟨rfl, ⟨_, rfl⟩, fun q hq => ?_⟩
        rcases Nat.lt_succ_iff_lt_or_eq.mp hq with hq | rfl
        · exact hall q hq
        · cases hx : fits st (st.getD q 0) (at_ un q) (at_ sa q) with
          | true => rfl
          | false => rw [hx] at hf; exact absurd rfl hf
    · rintro σ H2 ⟨rfl, ⟨v6, rfl⟩, hall⟩
      have hfit : fitsAll un sa st = true := List.all_eq_true.mpr fun q hq => hall q (by simpa using hq)
      refine ⟨_, rfl, a, _, rfl, SqT.of (s1 _ _ ha), _, rfl, _, rfl, a, st, m, rfl, s1 _ _ ha, by omega, fun H3 s3 => ?_⟩
      refine ⟨small' (n := 2) (by decide), fun t2 ht2 => ⟨small' (n := 1) (by decide), fun D hD => ?_⟩⟩
      have s4 := s3.trans ((same_new (o := .tup [.ref a, nV (usedBy st m)]) ht2).trans (same_new (o := .lst [.ref t2]) hD))
      have nD : t2 ≠ D := fun z => by rw [← z, upd_same] at hD; cases hD
      have hD0 : H D = none := (s1.trans (s3.trans (same_new ht2))).free hD
      refine ⟨_, rfl, a, _, rfl, .inr (SqT.of (s4 _ _ (s1 _ _ ha))), _, rfl, ((st.map nV).length : Int), (n : Int), rfl, by rw [List.length_map]; omega, for_range (lo := ((st.map nV).length : Int)) (n := ((n : Int) - ((st.map nV).length : Int)).toNat)
        (fun j σ H' => Same H2 H' ∧ (∃ v6 D, σ = [some (.ref p), some (nV n), some (.ref a), some (nV m), some (.ref u), some (.ref v), v6, some (.ref D)] ∧ H D = none ∧ Lots H' D (gro un sa st.length j [(st, usedBy st m)])))
        ⟨s4, _, D, rfl, hD0, [.ref t2], upd_same, .cons ⟨t2, a, rfl, by rw [upd_ne nD]; exact upd_same, s4 _ _ (s1 _ _ ha)⟩ .nil⟩ ?_ ?_⟩
      · rintro j σ H4 hj ⟨s5, v6, D, rfl, hD, hlots⟩
        have hj : j < n - st.length := by rw [List.length_map] at hj; omega
        have ej : (((st.map nV).length : Nat) : Int) + (j : Int) = ((st.length + j : Nat) : Int) := by rw [List.length_map]; omega
        rw [ej]
        obtain ⟨b, hb, hbl⟩ := getU s5 (show st.length + j < n by omega)
        obtain ⟨c, hc, hcl⟩ := getV s5 (show st.length + j < n by omega)
        obtain ⟨g1, g2, g3⟩ := gro_bounds (un := un) (sa := sa) (j := st.length) (u := usedBy st m) (n := st.length) (lots := [(st, usedBy st m)]) (fun x hx => by rw [List.mem_singleton.mp hx]; exact Nat.le_refl _) (fun x hx => by rw [List.mem_singleton.mp hx]) (Nat.le_refl _) 10 (j + 1) (by omega)
        obtain ⟨g4, g5, _⟩ := gro_bounds (un := un) (sa := sa) (j := st.length) (u := usedBy st m) (n := st.length) (lots := [(st, usedBy st m)]) (fun x hx => by rw [List.mem_singleton.mp hx]; exact Nat.le_refl _) (fun x hx => by rw [List.mem_singleton.mp hx]) (Nat.le_refl _) 10 j (by omega)
        have hpow : 10 ^ (j + 1) ≤ 10 ^ 5 := Nat.pow_le_pow_right (by decide) (by omega)
        refine ⟨_, rfl, _, rfl, _, rfl, u, _, _, .ref b, rfl, rfl, SqL.of (s5 _ _ hus), atI_nat (by rw [List.getElem?_map, hb]; rfl), _, rfl, _, rfl, v, _, _, .ref c, rfl, rfl, SqL.of (s5 _ _ hvs), atI_nat (by rw [List.getElem?_map, hc]; rfl), ?_⟩
        refine ⟨D, b, c, _, at_ un (st.length + j), at_ sa (st.length + j), st.length + j, rfl, hlots, hbl, hcl, fun x hx => ⟨g5 x hx, by have := g4 x hx; omega⟩, by omega, fun x hx => (ok.un _ (mem_at.mp hx)).1, fun x hx => (ok.sa _ (mem_at.mp hx)).1, ?_, fun H5 D' s6 hD' hl => ?_⟩
        · rw [← gro_step]
          exact Nat.le_trans g3 hpow
        · refine ⟨s5.trans s6, _, D', rfl, (s1.trans s5).free hD', ?_⟩
          rw [gro_step]
          exact hl
      · rintro σ H4 ⟨s5, v6, D, rfl, hD, hlots⟩
        refine ⟨_, rfl, hQ H4 D (s1.trans s5) hD ?_⟩
        unfold grown
        rw [if_pos hfit]
        have e : ((n : Int) - (((st.map nV).length : Nat) : Int)).toNat = n - st.length := by rw [List.length_map]; omega
        rw [← e]
        exact hlots
end
end Hue

set_option maxHeartbeats 4000000
namespace Hue
open PySem PySem.W PyProof.Rows L2
section
variable {P : Program} {w : World} {K : PySem.W.Frag} {mg : Str → Option Value} {base : Heap}
/-! ### normal -/
abbrev sNormal : Stmt := top 17
def spNormal : Sp := fun vs H Q _ => ∃ (a : Addr) (L : List Nat) (m : Nat), vs = [.ref a, nV m] ∧ (LstN H a L ∨ TupN H a L) ∧ L.length ≤ 100 ∧ ∀ H' b, Same H H' → TupN H' b (nrm m L) → Q (.ref b) H'
abbrev nNormal : List Str := ["labels", "marked", "numbers", "found", "label"]
theorem scNormal : FnScope nNormal ["labels", "marked"] (defScope sNormal) := ⟨rfl, rfl, rfl, by decide +kernel, rfl, by decide +kernel, by decide +kernel⟩
def kN (x : Nat) : Key := .inl (x : Int)
theorem kN_inj {x y : Nat} : kN x = kN y ↔ x = y := by
  unfold kN
  constructor
  · intro h
    injection h with h
    exact Int.ofNat.inj h
  · intro h; rw [h]
/-- the dict of new numbers, when E has been met -/
structure Nums (m : Nat) (E : List Nat) (kvs : List (Key × V)) : Prop where
  len : kvs.length + m = E.length
  pre : List.range m <+: E
  get : ∀ x, m ≤ x → valV kvs (kN x) = if x ∈ E then some (nV (E.idxOf x)) else none
theorem Nums.more_new {m : Nat} {E : List Nat} {kvs : List (Key × V)} {x : Nat} (h : Nums m E kvs) (hx : m ≤ x) (hn : x ∉ E) : Nums m (more E x) (putK kvs (kN x) (nV (m + kvs.length))) := by
  have e : more E x = E ++ [x] := by unfold more; rw [if_neg hn]
  have hv : valV kvs (kN x) = none := by rw [h.get x hx, if_neg hn]
  refine ⟨?_, h.pre.trans (more_prefix E x), fun y hy => ?_⟩
  · rw [putK_new _ hv, e, List.length_append, List.length_append, List.length_singleton, List.length_singleton]
    have := h.len
    omega
  · rw [valV_put]
    by_cases z : y = x
    · subst z
      rw [if_pos rfl, if_pos (mem_more.mpr (.inr rfl)), ← lbl_eq]
      unfold lbl
      rw [if_neg hn]
      have := h.len
      rw [show m + kvs.length = E.length by omega]
    · rw [if_neg (fun q => z (kN_inj.mp q)), h.get y hy]
      by_cases q : y ∈ E
      · rw [if_pos q, if_pos (mem_more.mpr (.inl q)), idxOf_prefix (more_prefix E x) q]
      · rw [if_neg q, if_neg fun w => (mem_more.mp w).elim q z]
theorem small_lbl {m : Nat} {E : List Nat} {x : Nat} (h : List.range m <+: E) (hx : x < m) : x ∈ E ∧ lbl E x = x := by
  obtain ⟨r, rfl⟩ := h
  have hm : x ∈ List.range m := List.mem_range.mpr hx
  have hE : x ∈ List.range m ++ r := List.mem_append_left _ hm
  refine ⟨hE, ?_⟩
  unfold lbl
  rw [if_pos hE, List.idxOf_append, if_pos hm]
  have := List.nodup_range (n := m).idxOf_getElem x (by simpa using hx)
  simpa using this
theorem ok_normal {f : Addr} {fd : FuncData} (F : FnP K "normal" sNormal f fd) (gL : mg "len" = none) (gT : mg "tuple" = none) : FnOk P w K mg base CX0 1 f fd ["labels", "marked"] spNormal := by
  refine F.ok scNormal (fun vs H Q E h => ?_) (fun cdv A outer s H vs Q E hr h => ?_)
  · obtain ⟨a, L, m, rfl, _⟩ := h
    rfl
  · obtain ⟨a, L, m, rfl, hL, hlen, hQ⟩ := h
    have hu := hu_of hr
    refine ⟨_, PSs.nox (pss_cons (ps_set (i := 2) scNormal.nd rfl (.inl rfl) pe_dnewK) (pss_cons (ps_set (i := 3) scNormal.nd rfl (.inl rfl) (pe_lst pa_nil))
      (pss_cons (ps_for PassesOwn.never rfl (pi_seq (pv 0)) (pg_name (i := 4) scNormal.nd rfl (.inl rfl))
          (pss_cons (ps_if (pt_cmpR op_ge (pv 4) (pv 1) (nomark _)) (pss_one (ps_expr (pe_dsetd (pv 2) (pv 4) (pe_op op_add (pv 1) (pe_callB call_lenD (by rfl) gL boot_len (pa_cons (pv 2) pa_nil))) ⟨rfl, rfl, rfl, rfl⟩))) pss_nil)
          (pss_one (ps_expr (pe_bm PySem.F.plainAttrs_list PySem.F.slot_list_append PySem.F.type_list_append mt_append (pv 3) (pa_cons (pe_ifExp (pt_cmpR op_lt (pv 4) (pv 1) (nomark _)) (pv 4) (pe_dget hu (pv 2) (pv 4) (fun _ _ => rfl))) pa_nil))))))
      (pss_one (ps_ret (pe_callTy call_tuple_of (by rfl) gT (by decide +kernel) (pa_cons (pv 3) pa_nil))))))), ?_⟩
    intro d hd
    have sd := same_new (o := .dK []) hd
    refine ⟨Nat.zero_le _, fun D hD => ?_⟩
    have sD := same_new (o := .lst []) hD
    have ndD : d ≠ D := fun z => by rw [← z, upd_same] at hD; cases hD
    have hD0 : H D = none := sd.free hD
    refine ⟨_, rfl, a, rfl, for_seq (K := K) (a := a) (xs := L.map nV)
      (fun i σ H' => Same H H' ∧ (∃ v4 kvs, σ = [some (.ref a), some (nV m), some (.ref d), some (.ref D), v4] ∧ H' d = some (.dK kvs) ∧ Nums m (env (List.range m) (L.take i)) kvs) ∧ H' D = some (.lst ((lab (List.range m) (L.take i)).map nV)))
      ⟨sd.trans sD, ⟨_, [], rfl, by rw [upd_ne ndD]; exact upd_same, ⟨by simp [env], List.prefix_refl _, fun x hx => by rw [if_neg]; rfl; simpa [env] using hx⟩⟩, upd_same⟩ ?_ ?_ ?_⟩
    · rcases hL with hL | hL
      · exact .inl fun i σ H' _ h => SqL.of (h.1 _ _ hL)
      · exact .inr fun i σ H' _ h => SqT.of (h.1 _ _ hL)
    · rintro i y σ H1 hi ⟨s1, ⟨v4, kvs, rfl, hdk, nums⟩, hDl⟩
      obtain ⟨x, hx, rfl⟩ := nV_get hi
      have et : L.take (i + 1) = L.take i ++ [x] := by rw [List.take_add_one, hx]; rfl
      have hil : i < L.length := (List.getElem?_eq_some_iff.mp hx).1
      have hlen : ((lab (List.range m) (L.take i)).map nV).length ≤ 1000 := by rw [List.length_map, lab_length, List.length_take]; omega
      have hkl : kvs.length ≤ 100 := by
        have h1 := nums.len
        have h2 : (env (List.range m) (L.take i)).length ≤ m + i := by
          have key : ∀ (c E : List Nat), (env E c).length ≤ E.length + c.length := by
            intro c
            induction c with
            | nil => intro E; exact Nat.le_refl _
            | cons h c ih =>
              intro E
              have h1 := ih (more E h)
              have h2 := more_length E h
              have h3 := lbl_le E h
              show (env (more E h) c).length ≤ _
              rw [List.length_cons]
              omega
          have := key (L.take i) (List.range m)
          rw [List.length_range, List.length_take] at this
          omega
        omega
      -- what stands behind the item, whatever the label was
      have fin : ∀ (H2 : Hp) (kvs2 : List (Key × V)), Same H1 H2 ∨ (∃ kv, H2 = upd H1 d (.dK kv)) → True := fun _ _ _ => trivial
      refine ⟨_, rfl, _, rfl, _, _, rfl, rfl, _, rfl, ?_⟩
      refine ite2 (fun hm => ?_) (fun hm => ?_)
      · have hmx : m ≤ x := by simpa using of_decide_eq_true hm
        refine ⟨_, rfl, d, rfl, .inl ⟨_, Rd.of hdk⟩, _, rfl, _, rfl, _, rfl, d, kvs, rfl, hdk, _, _, rfl, rfl, kvs, kN x, hdk, rfl, small (by omega), fun v hv => ?_, fun hv => ?_⟩
        · have hg := nums.get x hmx
          rw [hv] at hg
          by_cases z : x ∈ env (List.range m) (L.take i)
          · rw [if_pos z] at hg
            refine ⟨_, rfl, .inl ⟨rfl, _, SqL.of hDl⟩, _, rfl, _, rfl, _, _, rfl, rfl, _, rfl, ?_⟩
            refine ite2 (fun z' => absurd (of_decide_eq_true z') (show ¬ ((x : Int) < (m : Int)) by omega)) (fun _ => ?_)
            refine ⟨_, rfl, _, rfl, d, nV ((env (List.range m) (L.take i)).idxOf x), rfl, .inl ⟨kvs, kN x, Rd.of hdk, rfl, by rw [nums.get x hmx, if_pos z]⟩, D, _, _, rfl, rfl, hDl, small hlen, ?_⟩
            refine ⟨upd_keep s1 hD0, ⟨_, kvs, rfl, by rw [upd_ne ndD]; exact hdk, ?_⟩, ?_⟩
            · rw [et, env_snoc]
              have e : more (env (List.range m) (L.take i)) x = env (List.range m) (L.take i) := by unfold more; rw [if_pos z]
              rw [e]
              exact nums
            · rw [upd_same, et, lab_snoc, List.map_append]
              have e : lbl (env (List.range m) (L.take i)) x = (env (List.range m) (L.take i)).idxOf x := by unfold lbl; rw [if_pos z]
              rw [e]
              rfl
          · rw [if_neg z] at hg
            cases hg
        · have z : x ∉ env (List.range m) (L.take i) := fun z => by
            have hg := nums.get x hmx
            rw [hv, if_pos z] at hg
            cases hg
          have nums2 := nums.more_new hmx z
          have eV : V.int ((m : Int) + (kvs.length : Int)) = nV (m + kvs.length) := by unfold nV; congr 1
          refine ⟨_, rfl, .inl ⟨rfl, _, SqL.of (by rw [upd_ne ndD.symm]; exact hDl)⟩, _, rfl, _, rfl, _, _, rfl, rfl, _, rfl, ?_⟩
          refine ite2 (fun z' => absurd (of_decide_eq_true z') (show ¬ ((x : Int) < (m : Int)) by omega)) (fun _ => ?_)
          have hg2 := nums2.get x hmx
          rw [if_pos (mem_more.mpr (.inr rfl)), ← lbl_eq] at hg2
          refine ⟨_, rfl, _, rfl, d, nV (lbl (env (List.range m) (L.take i)) x), rfl, .inl ⟨_, kN x, Rd.of upd_same, rfl, ?_⟩, D, _, _, rfl, rfl, by rw [upd_ne ndD.symm]; exact hDl, small hlen, ?_⟩
          · show _ = valV (putK kvs (kN x) (V.int ((m : Int) + (kvs.length : Int)))) (kN x)
            rw [eV, hg2]
          · refine ⟨upd_keep (upd_keep s1 hd) hD0, ⟨_, _, rfl, by rw [upd_ne ndD]; exact upd_same, ?_⟩, ?_⟩
            · rw [et, env_snoc]
              show Nums m _ (putK kvs (kN x) (V.int ((m : Int) + (kvs.length : Int))))
              rw [eV]
              exact nums2
            · rw [upd_same, et, lab_snoc, List.map_append]
              rfl
      · have hxm : x < m := by
          refine Classical.byContradiction fun z => hm (decide_eq_true ?_)
          show (m : Int) ≤ (x : Int)
          omega
        obtain ⟨z, el⟩ := small_lbl (nums.pre) hxm
        refine ⟨_, rfl, .inl ⟨rfl, _, SqL.of hDl⟩, _, rfl, _, rfl, _, _, rfl, rfl, _, rfl, ?_⟩
        refine ite2 (fun _ => ?_) (fun z' => absurd (decide_eq_true (show (x : Int) < (m : Int) by omega)) z')
        refine ⟨_, rfl, D, _, _, rfl, rfl, hDl, small hlen, ?_⟩
        refine ⟨upd_keep s1 hD0, ⟨_, kvs, rfl, by rw [upd_ne ndD]; exact hdk, ?_⟩, ?_⟩
        · rw [et, env_snoc]
          have e : more (env (List.range m) (L.take i)) x = env (List.range m) (L.take i) := by unfold more; rw [if_pos z]
          rw [e]
          exact nums
        · rw [upd_same, et, lab_snoc, List.map_append, el]
          rfl
    · rintro σ H1 ⟨s1, ⟨v4, kvs, rfl, hdk, nums⟩, hDl⟩
      rw [List.length_map, List.take_length] at hDl
      exact ⟨_, rfl, D, _, rfl, .inl ⟨SqL.of hDl, fun l hl => hQ _ l (s1.trans (same_new hl)) upd_same⟩⟩
end
end Hue

set_option maxHeartbeats 4000000
namespace Hue
open PySem PySem.W PyProof.Rows L2
section
variable {P : Program} {w : World} {K : PySem.W.Frag} {mg : Str → Option Value} {base : Heap}
/-! ### partings -/
def RTup (H : Hp) (x : List Nat) (v : V) : Prop := ∃ a, v = .ref a ∧ TupN H a x
theorem RTup.keep {H H' : Hp} {x : List Nat} {v : V} (s : Same H H') (h : RTup H x v) : RTup H' x v := by
  obtain ⟨a, h1, h2⟩ := h
  exact ⟨a, h1, s _ _ h2⟩
/-- a list of tuples of numbers -/
def TupsAt (H : Hp) (D : Addr) (l : List (List Nat)) : Prop := ∃ vs, H D = some (.lst vs) ∧ Paired (RTup H) l vs
theorem TupsAt.keep {H H' : Hp} {D : Addr} {l : List (List Nat)} (s : Same H H') (h : TupsAt H D l) : TupsAt H' D l := by
  obtain ⟨vs, h1, h2⟩ := h
  exact ⟨vs, s _ _ h1, pd_imp h2 fun _ _ r => r.keep s⟩
theorem pd_perm {α β : Type} {F : α → β → Prop} {m m' : List β} (h : m'.Perm m) : ∀ {l : List α}, Paired F l m → ∃ l' : List α, l'.Perm l ∧ Paired F l' m' := by
  induction h with
  | nil => intro l h; exact ⟨l, .refl _, h⟩
  | cons a _ ih =>
    intro l h
    cases h with
    | cons r t =>
      obtain ⟨l', p, q⟩ := ih t
      exact ⟨_, p.cons _, .cons r q⟩
  | swap a b r =>
    intro l h
    cases h with
    | cons r1 t =>
      cases t with
      | cons r2 t => exact ⟨_, .swap _ _ _, .cons r2 (.cons r1 t)⟩
  | trans _ _ ih1 ih2 =>
    intro l h
    obtain ⟨l1, p1, q1⟩ := ih2 h
    obtain ⟨l2, p2, q2⟩ := ih1 q1
    exact ⟨l2, p2.trans p1, q2⟩
abbrev sParts : Stmt := top 18
abbrev FnParts (K : PySem.W.Frag) (f : Addr) (fd : FuncData) : Prop := FunD K "partings" "partings" (defArgs sParts) (defBody sParts) (defScope sParts) [.int 0] [] f fd
def spParts : Sp := fun vs H Q _ => ∃ (r m : Nat), vs = [nV r, nV m] ∧ 1 ≤ r ∧ r ≤ 2 ∧ m ≤ 2 ∧ ∀ H' D St, Same H H' → H D = none → St.Perm ((parts r m).map (·.1)) → TupsAt H' D St → Q (.ref D) H'
abbrev nParts : List Str := ["rim", "marked", "found", "place", "labels", "used"]
theorem scParts : FnScope nParts ["rim", "marked"] (defScope sParts) := ⟨rfl, rfl, rfl, by decide +kernel, rfl, by decide +kernel, by decide +kernel⟩
theorem parts_small {r m : Nat} (hr : r ≤ 2) (hm : m ≤ 2) : ∀ y ∈ parts r m, y.1.length = r ∧ (∀ x ∈ y.1, x < 64) ∧ y.2 ≤ 4 := by
  intro y hy
  obtain ⟨a, b, _⟩ := gro_bounds (un := []) (sa := []) (j := 0) (u := m) (n := 0) (lots := [([], m)]) (fun x hx => by rw [List.mem_singleton.mp hx]; exact Nat.le_refl _) (fun x hx => by rw [List.mem_singleton.mp hx]; rfl) (Nat.le_refl _) 4 r (by omega)
  have h1 := a y hy
  have h2 := b y hy
  have h3 : y.2 = usedBy y.1 m := gro_used (L := []) hy
  refine ⟨by omega, fun x hx => ?_, by omega⟩
  have := usedBy_lt (m := m) hx
  omega
theorem parts_len {r m : Nat} (hr : r ≤ 2) (hm : m ≤ 2) : (parts r m).length ≤ 16 := by
  obtain ⟨_, _, c⟩ := gro_bounds (un := []) (sa := []) (j := 0) (u := m) (n := 0) (lots := [([], m)]) (fun x hx => by rw [List.mem_singleton.mp hx]; exact Nat.le_refl _) (fun x hx => by rw [List.mem_singleton.mp hx]; rfl) (Nat.le_refl _) 4 r (by omega)
  have : 4 ^ r ≤ 4 ^ 2 := Nat.pow_le_pow_right (by decide) hr
  exact Nat.le_trans c this
theorem ok_parts {f fO fF : Addr} {fd fdO fdF : FuncData} (F : FnParts K f fd) (FO : FnP K "with_one_more" sOne fO fdO) (gO : mg "with_one_more" = some (.ref fO)) (FF : FnP K "fits" sFits fF fdF) (gF : mg "fits" = some (.ref fF))
    (gR : mg "range" = none) (gM : mg "max" = none) (gS : mg "sorted" = none) : FnOk P w K mg base CX0 3 f fd ["rim", "marked"] spParts := by
  have GO : FnOk P w K mg base CX0 2 fO fdO ["lots", "unlike", "same"] spOne := ok_one FO FF gF gR gM
  have bO : Binds K fdO ["lots", "unlike", "same"] [] := fn_binds FO fun _ _ _ _ _ _ us hl => match us, hl with | [_, _, _], _ => rfl
  refine F.ok scParts (fun vs H Q E h => ?_) (fun cdv A outer s H vs Q E hr h => ?_)
  · obtain ⟨r, m, rfl, _⟩ := h
    rfl
  · obtain ⟨r, m, rfl, h1, h2, h3, hQ⟩ := h
    refine ⟨_, PSs.nox (pss_cons (ps_set (i := 2) scParts.nd rfl (.inl rfl) (pe_lst (pa_cons (pe_tup (pa_cons (pe_tup pa_nil) (pa_cons (pv 1) pa_nil))) pa_nil)))
      (pss_cons (ps_for PassesOwn.never rfl (pi_range1 (by rfl) gR (pa_cons (pv 0) pa_nil)) (pg_name (i := 3) scParts.nd rfl (.inl rfl))
        (pss_one (ps_set (i := 2) scParts.nd rfl (.inl rfl) (pe_call GO hr (by rfl) gO FO.kp bO .nil pass0 (pa_cons (pv 2) (pa_cons (pe_lst pa_nil) (pa_cons (pe_lst pa_nil) pa_nil)))))))
      (pss_one (ps_ret (pe_callB (cr_sortT (B := 64) h1) (by rfl) gS (by decide +kernel) (pa_cons (pe_lc (own := [("labels", 4), ("used", 5)]) (g := gTup K 2 (gCons (gName 4) (gCons (gName 5) gNil))) (tt := tYes) rfl scParts.nd (pi_list (pv 2)) (blkOk_by (N := nParts) (sc := defScope sParts) (by decide +kernel))
        (fun _ _ _ _ _ => pg_tup rfl (pgs_cons (pg_name (i := 4) scParts.nd rfl (.inl rfl)) (pgs_cons (pg_name (i := 5) scParts.nd rfl (.inl rfl)) pgs_nil))) (fun _ _ _ _ _ => pts_nil) (fun _ _ _ _ _ => pv 4)) pa_nil)))))), ?_⟩
    refine ⟨Nat.zero_le _, fun t0 ht0 => ⟨_, rfl, small' (n := 2) (by decide), fun t1 ht1 => ⟨small' (n := 1) (by decide), fun D hD => ?_⟩⟩⟩
    have s1 := same_new (o := .tup []) ht0
    have s2 := same_new (o := .tup [.ref t0, nV m]) ht1
    have s3 := same_new (o := .lst [.ref t1]) hD
    have n1 : t1 ≠ D := fun z => by rw [← z, upd_same] at hD; cases hD
    have n0 : t0 ≠ t1 := fun z => by rw [← z, upd_same] at ht1; cases ht1
    refine ⟨_, rfl, (r : Int), rfl, by omega, by omega, for_range (lo := 0) (n := ((r : Nat) : Int).toNat)
      (fun i σ H' => Same H H' ∧ ∃ v3 D, σ = [some (nV r), some (nV m), some (.ref D), v3, none, none] ∧ H D = none ∧ Lots H' D (gro [] [] 0 i [([], m)]))
      ⟨s1.trans (s2.trans s3), _, D, rfl, (s1.trans s2).free hD, [.ref t1], upd_same, .cons ⟨t1, t0, rfl, by rw [upd_ne n1]; exact upd_same, s3 _ _ (s2 _ _ upd_same)⟩ .nil⟩ ?_ ?_⟩
    · rintro i σ H1 hi ⟨s4, v3, D, rfl, hD, hl⟩
      obtain ⟨g1, g2, g3⟩ := gro_bounds (un := []) (sa := []) (j := 0) (u := m) (n := 0) (lots := [([], m)]) (fun x hx => by rw [List.mem_singleton.mp hx]; exact Nat.le_refl _) (fun x hx => by rw [List.mem_singleton.mp hx]; rfl) (Nat.le_refl _) 4 (i + 1) (by omega)
      obtain ⟨g4, g5, _⟩ := gro_bounds (un := []) (sa := []) (j := 0) (u := m) (n := 0) (lots := [([], m)]) (fun x hx => by rw [List.mem_singleton.mp hx]; exact Nat.le_refl _) (fun x hx => by rw [List.mem_singleton.mp hx]; rfl) (Nat.le_refl _) 4 i (by omega)
      have hp : 4 ^ (i + 1) ≤ 4 ^ 2 := Nat.pow_le_pow_right (by decide) (by omega)
      refine ⟨_, rfl, Nat.zero_le _, fun u hu => ⟨Nat.zero_le _, fun v hv => ?_⟩⟩
      have s5 := same_new (o := .lst []) hu
      have s6 := same_new (o := .lst []) hv
      have s56 := s5.trans s6
      have e : with1 (gro [] [] 0 i [([], m)]) [] [] = gro [] [] 0 (i + 1) [([], m)] := (gro_step i 0 [([], m)]).symm
      refine ⟨D, u, v, _, [], [], 0 + i, rfl, hl.keep s56, s6 _ _ upd_same, upd_same, fun x hx => ⟨g5 x hx, by have := g4 x hx; omega⟩, by omega, fun x hx => (by cases hx), fun x hx => (by cases hx), ?_, fun H2 D' s7 hD' hl' => ?_⟩
      · rw [e]
        have : (4 : Nat) ^ 2 = 16 := rfl
        omega
      · rw [e] at hl'
        exact ⟨s4.trans (s56.trans s7), _, D', rfl, (s4.trans s56).free hD', hl'⟩
    · rintro σ H1 ⟨s4, v3, D, rfl, hD, ws, hws, pws⟩
      have hr' : ((r : Nat) : Int).toNat = r := by omega
      rw [hr'] at pws
      refine ⟨_, rfl, D, rfl, ⟨_, SqL.of hws⟩, fun T hT => lc_list (K := K) (a := D) (xs := ws) (fun i H' => Same H1 H' ∧ ∃ vs, H' T = some (.lst vs) ∧ Paired (RTup H1) (((parts r m).take i).map (·.1)) vs)
        ⟨same_new hT, [], upd_same, .nil⟩ (fun i H' _ h => SqL.of (h.1 _ _ hws)) ?_ ?_⟩
      · rintro i y H2 hi ⟨s5, vs, hvs, pvs⟩
        obtain ⟨x, hx, t, a, rfl, ht, ha⟩ := pd_get pws hi
        refine ⟨t, _, rfl, SqT.of (s5 _ _ ht), rfl, _, _, rfl, _, _, rfl, rfl, rfl, ?_⟩
        have hx2 : (parts r m)[i]? = some x := hx
        have hlen : vs.length ≤ 1000 := by
          rw [← pd_len pvs, List.length_map, List.length_take]
          have := parts_len h2 h3
          omega
        refine ⟨_, rfl, vs, hvs, small hlen, upd_keep s5 hT, _, upd_same, ?_⟩
        rw [List.take_add_one, hx2, List.map_append]
        exact pd_snoc pvs ⟨a, rfl, ha⟩
      · rintro H2 ⟨s5, vs, hvs, pvs⟩
        have hwl : ws.length = (parts r m).length := (pd_len pws).symm
        rw [hwl, List.take_length] at pvs
        refine ⟨T, vs, rfl, SqL.of hvs, ?_, fun x hx => ?_, fun ys D3 hys _ hD3 => ?_⟩
        · rw [← pd_len pvs, List.length_map]
          have := parts_len h2 h3
          omega
        · obtain ⟨i, hi⟩ := List.getElem?_of_mem hx
          obtain ⟨L, hL, a, rfl, ha⟩ := pd_get pvs hi
          obtain ⟨y, hy, rfl⟩ := List.mem_map.mp (List.mem_of_getElem? hL)
          obtain ⟨l1, l2, _⟩ := parts_small h2 h3 y hy
          refine ⟨y.1.map fun (z : Nat) => (z : Int), ⟨a, rfl, SqT.of ?_⟩, by rw [List.length_map, l1], ?_⟩
          · rw [List.map_map]
            exact s5 _ _ ha
          · intro z hz
            obtain ⟨q, hq, rfl⟩ := List.mem_map.mp hz
            have := l2 q hq
            omega
        · obtain ⟨St, p1, p2⟩ := pd_perm hys pvs
          have s7 := same_new (o := .lst ys) hD3
          refine hQ _ D3 St (s4.trans (s5.trans s7)) ((s4.trans s5).free hD3) p1 ⟨ys, upd_same, pd_imp p2 fun _ _ r => r.keep (s5.trans s7)⟩
end
end Hue

set_option maxHeartbeats 4000000
namespace Hue
open PySem PySem.W PyProof.Rows L2
/-! ### weights: numbers of ways by (labels there, new ones) -/
abbrev Wt := List ((Nat × Nat) × Nat)
def kNN (k : Nat × Nat) : List Key := [.inl (k.1 : Int), .inl (k.2 : Int)]
def wkvs (W : Wt) : List (List Key × V) := W.map fun x => (kNN x.1, nV x.2)
def wsum (q : Nat) (W : Wt) : Int := S W fun x => (x.2 : Int) * fal q x.1.1 x.1.2
def tot (W : Wt) : Nat := (W.map (·.2)).sum
structure WOk (W : Wt) : Prop where
  nd : (W.map (·.1)).Nodup
  sm : ∀ x ∈ W, x.1.1 ≤ 100 ∧ x.1.2 ≤ 100
theorem kNN_inj {a b : Nat × Nat} : kNN a = kNN b ↔ a = b := by
  constructor
  · intro h
    unfold kNN at h
    injection h with h1 h2
    injection h2 with h2 _
    injection h1 with h1
    injection h2 with h2
    exact Prod.ext (Int.ofNat.inj h1) (Int.ofNat.inj h2)
  · intro h; rw [h]
theorem mem_tot {W : Wt} {x : (Nat × Nat) × Nat} (h : x ∈ W) : x.2 ≤ tot W := by
  unfold tot
  have key : ∀ (l : List Nat) (y : Nat), y ∈ l → y ≤ l.sum := by
    intro l
    induction l with
    | nil => intro y hy; cases hy
    | cons a l ih =>
      intro y hy
      rw [List.sum_cons]
      rcases List.mem_cons.mp hy with rfl | hy
      · omega
      · have := ih y hy; omega
  exact key _ _ (List.mem_map.mpr ⟨x, h, rfl⟩)
theorem valV_wkvs_none {W : Wt} {k : Nat × Nat} (h : k ∉ W.map (·.1)) : valV (wkvs W) (kNN k) = none := by
  unfold valV
  rw [Option.map_eq_none_iff, List.find?_eq_none]
  intro p hp
  obtain ⟨x, hx, rfl⟩ := List.mem_map.mp hp
  simp only [decide_eq_true_eq]
  intro e
  exact h (List.mem_map.mpr ⟨x, hx, kNN_inj.mp e⟩)
theorem valV_append {κ : Type} [DecidableEq κ] {a b : List (κ × V)} {k : κ} (h : valV a k = none) : valV (a ++ b) k = valV b k := by
  unfold valV at *
  rw [Option.map_eq_none_iff] at h
  rw [List.find?_append, h]
  rfl
/-- one more of a key -/
theorem bump {W : Wt} (ok : WOk W) {k : Nat × Nat} (hk : k.1 ≤ 100 ∧ k.2 ≤ 100) : ∃ W' : Wt, ∃ c : Nat, (valV (wkvs W) (kNN k)).getD (.int 0) = .int (c : Int) ∧ putK (wkvs W) (kNN k) (.int ((c : Int) + 1)) = wkvs W' ∧ WOk W' ∧ (∀ q, wsum q W' = wsum q W + fal q k.1 k.2) ∧ tot W' = tot W + 1 ∧ W'.length ≤ W.length + 1 := by
  by_cases h : k ∈ W.map (·.1)
  · obtain ⟨x, hx, rfl⟩ := List.mem_map.mp h
    obtain ⟨A, B, rfl⟩ := List.append_of_mem hx
    obtain ⟨k, c⟩ := x
    have nd := ok.nd
    rw [List.map_append, List.map_cons] at nd
    have hA : k ∉ A.map (·.1) := fun z => (List.nodup_append.mp nd).2.2 k z k (by simp) rfl
    have hB : k ∉ B.map (·.1) := (List.nodup_cons.mp (List.nodup_append.mp nd).2.1).1
    have e1 : wkvs (A ++ (k, c) :: B) = wkvs A ++ (kNN k, nV c) :: wkvs B := by simp [wkvs]
    have hv : valV (wkvs (A ++ (k, c) :: B)) (kNN k) = some (nV c) := by
      rw [e1, valV_append (valV_wkvs_none hA)]
      exact valV_pos rfl
    refine ⟨A ++ (k, c + 1) :: B, c, by rw [hv]; rfl, ?_, ⟨?_, ?_⟩, ?_, ?_, ?_⟩
    · have same : ∀ (L : Wt), k ∉ L.map (·.1) → (wkvs L).map (fun kv => if kv.1 = kNN k then (kv.1, V.int ((c : Int) + 1)) else kv) = wkvs L := by
        intro L hL
        unfold wkvs
        rw [List.map_map]
        refine List.map_congr_left fun y hy => ?_
        show (if kNN y.1 = kNN k then _ else _) = _
        rw [if_neg]
        intro e
        exact hL (List.mem_map.mpr ⟨y, hy, kNN_inj.mp e⟩)
      unfold putK
      rw [if_pos (by rw [valV_any, hv]; rfl), e1, List.map_append, List.map_cons, same A hA, same B hB]
      simp [wkvs, nV]
    · rw [List.map_append, List.map_cons]
      exact nd
    · intro x hx
      rcases List.mem_append.mp hx with z | z
      · exact ok.sm x (by simp [z])
      · rcases List.mem_cons.mp z with rfl | z
        · exact hk
        · exact ok.sm x (by simp [z])
    · intro q
      unfold wsum
      rw [S_append, S_append, S_cons, S_cons]
      show _ + (((c + 1 : Nat) : Int) * fal q k.1 k.2 + _) = _ + ((c : Int) * fal q k.1 k.2 + _) + fal q k.1 k.2
      have : (((c + 1 : Nat) : Int)) * fal q k.1 k.2 = (c : Int) * fal q k.1 k.2 + fal q k.1 k.2 := by
        rw [show ((c + 1 : Nat) : Int) = (c : Int) + 1 by omega, Int.add_mul, Int.one_mul]
      omega
    · unfold tot
      simp only [List.map_append, List.map_cons, List.sum_append, List.sum_cons]
      omega
    · simp only [List.length_append, List.length_cons]
      omega
  · have hv := valV_wkvs_none h
    refine ⟨W ++ [(k, 1)], 0, by rw [hv]; rfl, ?_, ⟨?_, ?_⟩, ?_, ?_, ?_⟩
    · rw [putK_new _ hv]
      simp [wkvs, nV]
    · rw [List.map_append, List.nodup_append]
      refine ⟨ok.nd, by simp, fun a ha b hb e => ?_⟩
      have : b = k := by simpa using hb
      exact h (this ▸ e ▸ ha)
    · intro x hx
      rcases List.mem_append.mp hx with z | z
      · exact ok.sm x z
      · rw [List.mem_singleton.mp z]; exact hk
    · intro q
      unfold wsum
      rw [S_append, S_single]
      simp
    · simp [tot]
    · simp
section
variable {P : Program} {w : World} {K : PySem.W.Frag} {mg : Str → Option Value} {base : Heap}
/-! ### counted -/
abbrev sCounted : Stmt := top 41
def spCounted : Sp := fun vs H Q _ => ∃ (a b : Addr) (W : Wt) (k : Nat × Nat), vs = [.ref a, .ref b] ∧ H a = some (.dT (wkvs W)) ∧ H b = some (.tup [nV k.1, nV k.2]) ∧ WOk W ∧ k.1 ≤ 100 ∧ k.2 ≤ 100 ∧ W.length ≤ 1000000 ∧
  ∀ W' : Wt, WOk W' → (∀ q, wsum q W' = wsum q W + fal q k.1 k.2) → tot W' = tot W + 1 → W'.length ≤ W.length + 1 → Q .non (upd H a (.dT (wkvs W')))
theorem scCounted : FnScope ["lots", "key"] ["lots", "key"] (defScope sCounted) := ⟨rfl, rfl, rfl, by decide +kernel, rfl, by decide +kernel, by decide +kernel⟩
theorem ok_counted {f : Addr} {fd : FuncData} (F : FnP K "counted" sCounted f fd) : FnOk P w K mg base CX0 1 f fd ["lots", "key"] spCounted := by
  refine F.ok scCounted (fun vs H Q E h => ?_) (fun cdv A outer s H vs Q E hr h => ?_)
  · obtain ⟨a, b, W, k, rfl, _⟩ := h
    rfl
  · obtain ⟨a, b, W, k, rfl, ha, hb, ok, h1, h2, hl, hQ⟩ := h
    have hu := hu_of hr
    obtain ⟨W', c, e1, e2, g1, g2, g3, g4⟩ := bump ok ⟨h1, h2⟩
    refine ⟨_, PSs.nox (pss_one (ps_dput hu (pv 0) (pv 1) (pe_op op_add (pe_dget2 hu (pv 0) (pv 1) pe_int ⟨rfl, rfl, rfl, rfl⟩) pe_int) rfl)), ?_⟩
    have hb' : H b = some (.tup ((kNN k).map kV)) := hb
    refine ⟨_, rfl, a, rfl, .inr ⟨_, Rd.of ha⟩, _, rfl, _, DGet.t ha hb', ?_⟩
    rw [e1]
    refine ⟨_, _, rfl, rfl, _, rfl, _, rfl, a, _, rfl, DPut.t ha hb' ?_, ?_⟩
    · unfold wkvs
      rw [List.length_map]
      exact Nat.lt_of_le_of_lt hl (by decide)
    · show Q .non _
      rw [e2]
      exact hQ W' g1 g2 g3 g4
/-! ### fallen -/
abbrev sFallen : Stmt := top 30
def spFallen : Sp := fun vs H Q _ => ∃ (q s m : Nat), vs = [nV q, nV s, nV m] ∧ q ≤ 1000 ∧ s ≤ 1000 ∧ m ≤ 1000 ∧ Q (.int (fal q s m)) H
theorem scFallen : FnScope ["hues", "start", "many", "found", "number"] ["hues", "start", "many"] (defScope sFallen) := ⟨rfl, rfl, rfl, by decide +kernel, rfl, by decide +kernel, by decide +kernel⟩
theorem ok_fallen {f : Addr} {fd : FuncData} (F : FnP K "fallen" sFallen f fd) (gR : mg "range" = none) : FnOk P w K mg base CX0 1 f fd ["hues", "start", "many"] spFallen := by
  refine F.ok scFallen (fun vs H Q E h => ?_) (fun cdv A outer s H vs Q E hr h => ?_)
  · obtain ⟨q, z, m, rfl, _⟩ := h
    rfl
  · obtain ⟨q, z, m, rfl, h1, h2, h3, hQ⟩ := h
    refine ⟨_, PSs.nox (pss_cons (ps_set (i := 3) scFallen.nd rfl (.inl rfl) pe_int) (pss_cons (ps_for PassesOwn.never rfl (pi_range1 (by rfl) gR (pa_cons (pv 2) pa_nil)) (pg_name (i := 4) scFallen.nd rfl (.inl rfl))
      (pss_one (ps_set (i := 3) scFallen.nd rfl (.inl rfl) (pe_op op_mul (pv 3) (pe_op op_sub (pe_op op_sub (pv 0) (pv 1)) (pv 4)))))) (pss_one (ps_ret (pv 3))))), ?_⟩
    refine ⟨_, rfl, (m : Int), rfl, by omega, by omega, for_range (lo := 0) (n := ((m : Nat) : Int).toNat) (fun i σ H' => H' = H ∧ ∃ v4, σ = [some (nV q), some (nV z), some (nV m), some (.int (fal q z i)), v4]) ⟨rfl, _, rfl⟩ ?_ ?_⟩
    · rintro i σ H1 hi ⟨rfl, v4, rfl⟩
      refine ⟨_, rfl, _, rfl, _, rfl, _, _, rfl, rfl, _, rfl, _, _, rfl, rfl, _, _, rfl, rfl, .inr ⟨by omega, by omega⟩, rfl, some (.int (0 + (i : Int))), ?_⟩
      show _ = [some (nV q), some (nV z), some (nV m), some (.int (fal q z i * ((q : Int) - z - i))), some (.int (0 + (i : Int)))]
      rw [show (q : Int) - z - i = (q : Int) - z - (0 + (i : Int)) by omega]
      rfl
    · rintro σ H1 ⟨rfl, v4, rfl⟩
      refine ⟨_, rfl, ?_⟩
      have e : ((m : Nat) : Int).toNat = m := by omega
      rw [e]
      exact hQ
/-! ### number_of -/
abbrev sNumber : Stmt := top 42
def spNumber : Sp := fun vs H Q _ => ∃ (a : Addr) (W : Wt) (q : Nat), vs = [.ref a, nV q] ∧ H a = some (.dT (wkvs W)) ∧ WOk W ∧ tot W ≤ 1000000 ∧ W.length ≤ 1000000 ∧ q ≤ 100 ∧ ∀ H', Same H H' → Q (.int (wsum q W)) H'
abbrev nNumber : List Str := ["weights", "hues", "start", "many", "ways"]
theorem scNumber : FnScope nNumber ["weights", "hues"] (defScope sNumber) := ⟨rfl, rfl, rfl, by decide +kernel, rfl, by decide +kernel, by decide +kernel⟩
theorem ok_number {f fF : Addr} {fd fdF : FuncData} (F : FnP K "number_of" sNumber f fd) (FF : FnP K "fallen" sFallen fF fdF) (gF : mg "fallen" = some (.ref fF)) (gR : mg "range" = none) (gS : mg "sum" = none) : FnOk P w K mg base CX0 2 f fd ["weights", "hues"] spNumber := by
  have GF : FnOk P w K mg base CX0 1 fF fdF ["hues", "start", "many"] spFallen := ok_fallen FF gR
  have bF : Binds K fdF ["hues", "start", "many"] [] := fn_binds FF fun _ _ _ _ _ _ us hl => match us, hl with | [_, _, _], _ => rfl
  refine F.ok scNumber (fun vs H Q E h => ?_) (fun cdv A outer s H vs Q E hr h => ?_)
  · obtain ⟨a, W, q, rfl, _⟩ := h
    rfl
  · obtain ⟨a, W, q, rfl, ha, ok, ht, hl, hq, hQ⟩ := h
    refine ⟨_, PSs.nox (pss_one (ps_ret (pe_callB (cr_sum rfl) (by rfl) gS (by decide +kernel) (pa_cons (pe_lock (pe_lc (own := [("start", 2), ("many", 3), ("ways", 4)]) (g := gTup K 2 (gCons (gTup K 2 (gCons (gName 2) (gCons (gName 3) gNil))) (gCons (gName 4) gNil))) (tt := tYes) rfl scNumber.nd (pi_itemsT (pv 0)) (blkOk_by (N := nNumber) (sc := defScope sNumber) (by decide +kernel))
      (fun _ _ _ _ _ => pg_tup rfl (pgs_cons (pg_tup rfl (pgs_cons (pg_name (i := 2) scNumber.nd rfl (.inl rfl)) (pgs_cons (pg_name (i := 3) scNumber.nd rfl (.inl rfl)) pgs_nil))) (pgs_cons (pg_name (i := 4) scNumber.nd rfl (.inl rfl)) pgs_nil))) (fun _ _ _ _ _ => pts_nil)
      (fun _ _ _ _ _ => pe_op op_mul (pv 4) (pe_call GF hr (by rfl) gF FF.kp bF .nil pass0 (pa_cons (pv 1) (pa_cons (pv 2) (pa_cons (pv 3) pa_nil))))))) pa_nil)))), ?_⟩
    refine ⟨a, _, ha, trivial, fun od => ⟨_, rfl, a, od, wkvs W, rfl, upd_same, fun D hD => lc_any (n := (wkvs W).length)
      (fun i H' => Same (hide [a] H) H' ∧ H' a = some (.frz od (.dT (wkvs W))) ∧ H' D = some (.lst ((W.take i).map fun x => V.int ((x.2 : Int) * fal q x.1.1 x.1.2)))) ?_ (fun i H' hi h => ⟨h.2.1, hi⟩) (fun H' h => ⟨h.2.1, Nat.le_refl _⟩) ?_ ?_⟩⟩
    all_goals have hD0 : D ≠ a → H D = none := fun n => by rw [upd_ne n] at hD; exact hD
    · have hDa : a ≠ D := fun z => by rw [← z, upd_same] at hD; cases hD
      have hD0 : H D = none := by rw [upd_ne hDa.symm] at hD; exact hD
      refine ⟨?_, by rw [upd_ne hDa]; exact upd_same, upd_same⟩
      refine upd_keep (same_hide_upd (by simp) (hide_sub _ _)) ?_
      rw [hide_out (by simpa using hDa.symm)]
      exact hD0
    · rintro i x H1 H2 hi ⟨s1, h1, h2⟩ ⟨T, k, v, qa, hkv, rfl, hT, hqa, rfl⟩
      have hi' : i < W.length := by rw [wkvs, List.length_map] at hi; exact hi
      have hx : W[i]? = some W[i] := List.getElem?_eq_getElem hi'
      generalize W[i] = x at hx
      have hkv2 : (wkvs W)[i]? = some (kNN x.1, nV x.2) := by rw [wkvs, List.getElem?_map, hx]; rfl
      rw [hkv2] at hkv
      cases hkv
      have hmem := List.mem_of_getElem? hx
      have hsm := ok.sm x hmem
      have htt := mem_tot hmem
      have nT : T ≠ a := fun z => by rw [z, h1] at hT; cases hT
      have nTD : T ≠ D := fun z => by rw [z, h2] at hT; cases hT
      have nTq : qa ≠ T := fun z => by rw [z, hT] at hqa; cases hqa
      refine ⟨T, _, rfl, SqT.of upd_same, rfl, _, _, rfl, ⟨qa, _, rfl, SqT.of ((upd_ne nTq).trans hqa), rfl, _, _, rfl, _, _, rfl, rfl, _, _, rfl, rfl, rfl, ?_⟩⟩
      refine ⟨_, rfl, _, rfl, _, rfl, _, rfl, q, x.1.1, x.1.2, rfl, by omega, by omega, by omega, _, _, rfl, rfl, .inl ⟨by omega, by omega⟩, _, by rw [upd_ne nTD.symm]; exact h2, ?_, ?_⟩
      · refine Nat.lt_of_le_of_lt (show _ ≤ 1000000 from ?_) (by decide)
        rw [List.length_map, List.length_take]
        omega
      · have fT : hide [a] H T = none := s1.free hT
        have nDa : D ≠ a := fun z => by rw [z, h1] at h2; cases h2
        have fD : hide [a] H D = none := by
          rw [hide_out (by simpa using nDa)]
          exact hD0 nDa
        refine ⟨upd_keep (upd_keep s1 fT) fD, ?_, ?_⟩
        · rw [upd_ne nDa.symm, upd_ne nT.symm]
          exact h1
        · rw [upd_same, List.take_add_one, hx, List.map_append]
          rfl
    · rintro H1 ⟨s1, h1, h2⟩
      have hl2 : (wkvs W).length = W.length := by rw [wkvs, List.length_map]
      rw [hl2, List.take_length] at h2
      have nDa : D ≠ a := fun z => by rw [z, h1] at h2; cases h2
      refine ⟨h1, D, W.map (fun x => (x.2 : Int) * fal q x.1.1 x.1.2), rfl, SqL.of ?_, ?_⟩
      · rw [upd_ne nDa, h2, List.map_map]
        rfl
      · refine hQ _ ?_
        intro b o e
        by_cases z : b = a
        · rw [z, upd_same, ← ha, ← z]
          exact e
        · rw [upd_ne z]
          exact s1 b o (by rw [hide_out (by simpa using z)]; exact e)
end
end Hue

set_option maxHeartbeats 4000000
namespace Hue
open PySem PySem.W PyProof.Rows L2
theorem pe_imp {X : Cx} {e : Expr} {t t' : TE} (h : PE X e t) (i : ∀ σ H Q, t' σ H Q → t σ H Q) : PE X e t' := ⟨fun pins s σ H Q I q => h.run pins s σ H Q I (i σ H Q q)⟩
/-- d.setdefault(y, z), both ways at once -/
def tDSetdN (td ty tx : TE) : TE := fun σ H Q => td σ H fun x H1 => ∃ a, x = .ref a ∧ IsD H1 a ∧ ty σ H1 fun y H2 => tx σ H2 fun z H3 => ∃ (kvs : List (List Key × V)) (k : List Key) (b : Addr), H3 a = some (.dT kvs) ∧ y = .ref b ∧ H3 b = some (.tup (k.map kV)) ∧ kvs.length < sizeLine ∧
  ∀ v H4, ((valV kvs k = some v ∧ H4 = H3) ∨ (valV kvs k = none ∧ v = z ∧ H4 = upd H3 a (.dT (kvs ++ [(k, z)])))) → Q v H4
theorem pe_dsetdN {X : Cx} {o e f : Expr} {td ty tx : TE} {apos cpos : Pos} (hu : X.A.units + 1 < cLine) (ho : PE X o td) (he : PE X e ty) (hf : PE X f tx) (m : M2 X o "setdefault" apos e f cpos) :
    PE X (.Call (.Attribute o "setdefault" apos) [e, f] [] cpos) (tDSetdN td ty tx) := by
  refine ⟨fun pins s σ H Q I h => ?_⟩
  refine wpAny_Call_method m.base m.few m.line PySem.F.plainAttrs_dict PySem.F.slot_dict_setdefault PySem.F.type_dict_setdefault (thn (ho.run pins s σ H _ I h) fun u s1 ⟨x, H1, I1, rx, a, ex, d, q1⟩ => ?_)
  subst ex
  obtain rfl : u = Value.ref a := rx
  obtain ⟨t1, t2, _⟩ := isD_at I1 d
  refine ⟨t1, t2, ?_⟩
  rw [m.trees]
  refine Calls.callWith_builtin rfl (Calls.evalArgs_plain (Calls.spliced_cons (thn (he.run pins s1 σ H1 _ I1 q1) fun iv s2 ⟨y, H2, I2, ry, q2⟩ =>
    Calls.spliced_cons (thn (hf.run pins s2 σ H2 _ I2 q2) fun fv s3 ⟨z, H3, I3, rz, kvs, k, b, ea, ey, eb, hl, q3⟩ => Calls.spliced_nil ?_))))
  subst ey
  obtain rfl : iv = Value.ref b := ry
  exact d_setdT hu I3 ea eb rz hl (fun v hv w' s4 I4 rw' => ⟨v, _, I4, rw', q3 v _ (.inl ⟨hv, rfl⟩)⟩) fun hn w' s4 I4 rw' => ⟨z, _, I4, rw', by rw [putK_new _ hn]; exact q3 _ _ (.inr ⟨hn, rfl, rfl⟩)⟩
/-! ### steps: for labels, numbers of ways -/
def kL (l : List Nat) : List Key := l.map kN
theorem kL_inj {a b : List Nat} : kL a = kL b ↔ a = b := by
  constructor
  · intro h
    unfold kL at h
    induction a generalizing b with
    | nil => cases b with
      | nil => rfl
      | cons x b => cases h
    | cons y a ih => cases b with
      | nil => cases h
      | cons x b =>
        rw [List.map_cons, List.map_cons] at h
        injection h with h1 h2
        rw [kN_inj.mp h1, ih h2]
  · intro h; rw [h]
theorem kL_tup {H : Hp} {b : Addr} {l : List Nat} (h : TupN H b l) : H b = some (.tup ((kL l).map kV)) := by
  rw [h]
  unfold kL
  rw [List.map_map]
  rfl
abbrev Steps := List (List Nat × Addr × Wt)
def skvs (T : Steps) : List (List Key × V) := T.map fun e => (kL e.1, V.ref e.2.1)
def tsum (q : Nat) (T : Steps) (t : List Nat) : Int := S T fun e => if e.1 = t then wsum q e.2.2 else 0
theorem valV_skvs_none {T : Steps} {t : List Nat} (h : t ∉ T.map (·.1)) : valV (skvs T) (kL t) = none := by
  unfold valV
  rw [Option.map_eq_none_iff, List.find?_eq_none]
  intro p hp
  obtain ⟨x, hx, rfl⟩ := List.mem_map.mp hp
  simp only [decide_eq_true_eq]
  intro e
  exact h (List.mem_map.mpr ⟨x, hx, kL_inj.mp e⟩)
theorem valV_skvs_some {A B : Steps} {t : List Nat} {a : Addr} {W : Wt} (h : t ∉ A.map (·.1)) : valV (skvs (A ++ (t, a, W) :: B)) (kL t) = some (.ref a) := by
  have e1 : skvs (A ++ (t, a, W) :: B) = skvs A ++ (kL t, V.ref a) :: skvs B := by simp [skvs]
  rw [e1, valV_append (valV_skvs_none h)]
  exact valV_pos rfl
structure Inner (H1 H' : Hp) (s : Addr) (T : Steps) (n : Nat) : Prop where
  same : Same H1 H'
  at_ : H' s = some (.dT (skvs T))
  news : H1 s = none
  lots : ∀ e ∈ T, H' e.2.1 = some (.dT (wkvs e.2.2)) ∧ WOk e.2.2 ∧ tot e.2.2 ≤ n ∧ e.2.2.length ≤ n
  new : ∀ e ∈ T, H1 e.2.1 = none
  nda : (s :: T.map (·.2.1)).Nodup
  ndk : (T.map (·.1)).Nodup
  len : T.length ≤ n
theorem Inner.keep {H1 H' H2 : Hp} {s : Addr} {T : Steps} {n : Nat} (h : Inner H1 H' s T n) (k : Same H' H2) : Inner H1 H2 s T n :=
  ⟨h.same.trans k, k _ _ h.at_, h.news, fun e he => ⟨k _ _ (h.lots e he).1, (h.lots e he).2⟩, h.new, h.nda, h.ndk, h.len⟩
theorem Inner.there {H1 H' : Hp} {s : Addr} {T : Steps} {n : Nat} (h : Inner H1 H' s T n) {t : List Nat} {v : V} (hv : valV (skvs T) (kL t) = some v) : ∃ A a W B, T = A ++ (t, a, W) :: B ∧ v = .ref a ∧ t ∉ A.map (·.1) := by
  by_cases z : t ∈ T.map (·.1)
  · obtain ⟨⟨t, a, W⟩, hx, rfl⟩ := List.mem_map.mp z
    obtain ⟨A, B, rfl⟩ := List.append_of_mem hx
    have nd := h.ndk
    rw [List.map_append, List.map_cons] at nd
    have hA : t ∉ A.map (·.1) := fun z => (List.nodup_append.mp nd).2.2 t z t (by simp) rfl
    rw [valV_skvs_some hA] at hv
    cases hv
    exact ⟨A, a, W, B, rfl, rfl, hA⟩
  · rw [valV_skvs_none z] at hv
    cases hv
/-- a key that was not there -/
theorem Inner.add {H1 H' : Hp} {s p : Addr} {T : Steps} {n : Nat} (h : Inner H1 H' s T n) {t : List Nat} (hv : valV (skvs T) (kL t) = none) (hp : H' p = some (.dT [])) (hp1 : H1 p = none) (hps : p ≠ s) (hpT : p ∉ T.map (·.2.1)) :
    Inner H1 (upd H' s (.dT (skvs T ++ [(kL t, .ref p)]))) s (T ++ [(t, p, [])]) (n + 1) := by
  have hsT : s ∉ T.map (·.2.1) := (List.nodup_cons.mp h.nda).1
  refine ⟨upd_keep h.same h.news, ?_, h.news, ?_, ?_, ?_, ?_, ?_⟩
  · rw [upd_same]
    simp [skvs]
  · intro e he
    rcases List.mem_append.mp he with he | he
    · obtain ⟨a, b, c, d⟩ := h.lots e he
      refine ⟨?_, b, by omega, by omega⟩
      rw [upd_ne]
      · exact a
      · intro z
        exact hsT (List.mem_map.mpr ⟨e, he, z⟩)
    · rw [List.mem_singleton.mp he]
      refine ⟨?_, ⟨by simp, by simp⟩, by simp [tot], by simp⟩
      show upd H' s _ p = _
      rw [upd_ne hps, hp]
      rfl
  · intro e he
    rcases List.mem_append.mp he with he | he
    · exact h.new e he
    · rw [List.mem_singleton.mp he]
      exact hp1
  · rw [List.map_append, List.nodup_cons]
    refine ⟨fun z => ?_, ?_⟩
    · rcases List.mem_append.mp z with z | z
      · exact hsT z
      · have : s = p := by simpa using z
        exact hps this.symm
    · rw [List.nodup_append]
      refine ⟨(List.nodup_cons.mp h.nda).2, by simp, fun a ha b hb e => ?_⟩
      have : b = p := by simpa using hb
      exact hpT (this ▸ e ▸ ha)
  · rw [List.map_append, List.nodup_append]
    refine ⟨h.ndk, by simp, fun a ha b hb e => ?_⟩
    have hbt : b = t := by simpa using hb
    subst hbt; subst e
    have : ∃ e ∈ T, e.1 = a := by
      obtain ⟨e, he, q⟩ := List.mem_map.mp ha
      exact ⟨e, he, q⟩
    obtain ⟨⟨t, a', W⟩, he, rfl⟩ := this
    obtain ⟨A, B, rfl⟩ := List.append_of_mem he
    have nd := h.ndk
    rw [List.map_append, List.map_cons] at nd
    rw [valV_skvs_some fun z => (List.nodup_append.mp nd).2.2 t z t (by simp) rfl] at hv
    cases hv
  · rw [List.length_append, List.length_singleton]
    have := h.len
    omega
/-- one more of a weight -/
theorem Inner.count {H1 H' : Hp} {s a : Addr} {A B : Steps} {t : List Nat} {W W' : Wt} {n : Nat} (h : Inner H1 H' s (A ++ (t, a, W) :: B) n) (ok : WOk W') (h1 : tot W' ≤ n + 1) (h2 : W'.length ≤ n + 1) :
    Inner H1 (upd H' a (.dT (wkvs W'))) s (A ++ (t, a, W') :: B) (n + 1) := by
  have ha1 : H1 a = none := h.new (t, a, W) (by simp)
  have nd := h.nda
  rw [List.map_append, List.map_cons] at nd
  have hsa : s ≠ a := fun z => (List.nodup_cons.mp nd).1 (by simp [z])
  have nd2 := (List.nodup_cons.mp nd).2
  have haA : a ∉ A.map (·.2.1) := fun z => (List.nodup_append.mp nd2).2.2 a z a (by simp) rfl
  have haB : a ∉ B.map (·.2.1) := (List.nodup_cons.mp (List.nodup_append.mp nd2).2.1).1
  have keys : (A ++ (t, a, W') :: B).map (·.1) = (A ++ (t, a, W) :: B).map (·.1) := by simp
  have addrs : (A ++ (t, a, W') :: B).map (·.2.1) = (A ++ (t, a, W) :: B).map (·.2.1) := by simp
  refine ⟨upd_keep h.same ha1, ?_, h.news, ?_, ?_, by rw [addrs]; exact h.nda, by rw [keys]; exact h.ndk, ?_⟩
  · rw [upd_ne hsa, h.at_]
    simp [skvs]
  · intro e he
    have old : ∀ e, e ∈ A ∨ e ∈ B → upd H' a (.dT (wkvs W')) e.2.1 = some (.dT (wkvs e.2.2)) ∧ WOk e.2.2 ∧ tot e.2.2 ≤ n + 1 ∧ e.2.2.length ≤ n + 1 := by
      intro e he
      obtain ⟨x, y, z, u⟩ := h.lots e (by rcases he with he | he <;> simp [he])
      refine ⟨?_, y, by omega, by omega⟩
      rw [upd_ne, x]
      intro z
      rcases he with he | he
      · exact haA (List.mem_map.mpr ⟨e, he, z⟩)
      · exact haB (List.mem_map.mpr ⟨e, he, z⟩)
    rcases List.mem_append.mp he with he | he
    · exact old e (.inl he)
    · rcases List.mem_cons.mp he with rfl | he
      · exact ⟨upd_same, ok, h1, h2⟩
      · exact old e (.inr he)
  · intro e he
    rcases List.mem_append.mp he with he | he
    · exact h.new e (by simp [he])
    · rcases List.mem_cons.mp he with rfl | he
      · exact ha1
      · exact h.new e (by simp [he])
  · have := h.len
    simp only [List.length_append, List.length_cons] at this ⊢
    omega
theorem tsum_add (q : Nat) (T : Steps) (t t' : List Nat) (p : Addr) : tsum q (T ++ [(t, p, [])]) t' = tsum q T t' := by
  unfold tsum
  rw [S_append, S_single]
  show _ + (if t = t' then wsum q [] else 0) = _
  rw [show wsum q [] = 0 from rfl, ite_self, Int.add_zero]
theorem tsum_count (q : Nat) (A B : Steps) (t t' : List Nat) (a : Addr) (W W' : Wt) (d : Int) (h : wsum q W' = wsum q W + d) : tsum q (A ++ (t, a, W') :: B) t' = tsum q (A ++ (t, a, W) :: B) t' + if t = t' then d else 0 := by
  unfold tsum
  rw [S_append, S_append, S_cons, S_cons]
  show _ + ((if t = t' then wsum q W' else 0) + _) = _ + ((if t = t' then wsum q W else 0) + _) + _
  by_cases e : t = t'
  · rw [if_pos e, if_pos e, if_pos e]; omega
  · rw [if_neg e, if_neg e, if_neg e]; omega
/-- finished: a dict of labels' numbers of ways, f by the number of hues and the labels -/
def StepsAt (H : Hp) (s : Addr) (f : Nat → List Nat → Int) : Prop := ∃ T : Steps, H s = some (.dT (skvs T)) ∧ T.length ≤ 1000000 ∧ (T.map (·.1)).Nodup ∧ (∀ e ∈ T, H e.2.1 = some (.dT (wkvs e.2.2)) ∧ WOk e.2.2 ∧ tot e.2.2 ≤ 1000000 ∧ e.2.2.length ≤ 1000000) ∧ ∀ q t, tsum q T t = f q t
theorem StepsAt.keep {H H' : Hp} {s : Addr} {f : Nat → List Nat → Int} (k : Same H H') (h : StepsAt H s f) : StepsAt H' s f := by
  obtain ⟨T, a, b, c, d, e⟩ := h
  exact ⟨T, k _ _ a, b, c, fun x hx => ⟨k _ _ (d x hx).1, (d x hx).2⟩, e⟩
/-- what a look-up in it yields -/
theorem tsum_look {T : Steps} (nd : (T.map (·.1)).Nodup) (q : Nat) (t : List Nat) : (∃ a W, (t, a, W) ∈ T ∧ valV (skvs T) (kL t) = some (.ref a) ∧ tsum q T t = wsum q W) ∨ (valV (skvs T) (kL t) = none ∧ tsum q T t = 0) := by
  by_cases z : t ∈ T.map (·.1)
  · obtain ⟨⟨t, a, W⟩, hx, rfl⟩ := List.mem_map.mp z
    obtain ⟨A, B, rfl⟩ := List.append_of_mem hx
    rw [List.map_append, List.map_cons] at nd
    have hA : t ∉ A.map (·.1) := fun z => (List.nodup_append.mp nd).2.2 t z t (by simp) rfl
    have hB : t ∉ B.map (·.1) := (List.nodup_cons.mp (List.nodup_append.mp nd).2.1).1
    refine .inl ⟨a, W, hx, valV_skvs_some hA, ?_⟩
    unfold tsum
    rw [S_append, S_cons]
    have zero : ∀ L : Steps, t ∉ L.map (·.1) → S L (fun e => if e.1 = t then wsum q e.2.2 else 0) = 0 := by
      intro L hL
      refine Eq.trans (S_congr fun e he => if_neg fun z => hL (List.mem_map.mpr ⟨e, he, z⟩)) (S_zero L)
    rw [zero A hA, zero B hB]
    show 0 + ((if t = t then wsum q W else 0) + 0) = _
    rw [if_pos rfl]; omega
  · refine .inr ⟨valV_skvs_none z, ?_⟩
    exact Eq.trans (S_congr fun e he => if_neg fun w => z (List.mem_map.mpr ⟨e, he, w⟩)) (S_zero T)
end Hue

set_option maxHeartbeats 4000000
namespace Hue
open PySem PySem.W PyProof.Rows L2
def FoundAt (H : Hp) (d : Addr) (St : List (List Nat)) (F : List Nat → Nat → List Nat → Int) : Prop := ∃ as : List Addr, as.length = St.length ∧ H d = some (.dT ((St.zip as).map fun p => (kL p.1, V.ref p.2))) ∧ ∀ s a, (s, a) ∈ St.zip as → StepsAt H a (F s)
theorem FoundAt.keep {H H' : Hp} {d : Addr} {St : List (List Nat)} {F : List Nat → Nat → List Nat → Int} (k : Same H H') (h : FoundAt H d St F) : FoundAt H' d St F := by
  obtain ⟨as, a, b, c⟩ := h
  exact ⟨as, a, k _ _ b, fun s x hx => (c s x hx).keep k⟩
theorem grown_bounds {un sa : List (Nat × Nat)} {n m : Nat} {s : List Nat} (h1 : s.length ≤ n) (h2 : n ≤ 4 + s.length) (h4 : usedBy s m + (n - s.length) ≤ 10) :
    (grown un sa n s m).length ≤ 10000 ∧ ∀ y ∈ grown un sa n s m, y.2 ≤ 10 ∧ usedBy s m ≤ y.2 ∧ y.1.length = n := by
  unfold grown
  split
  · obtain ⟨a, b, c⟩ := gro_bounds (un := un) (sa := sa) (j := s.length) (u := usedBy s m) (n := s.length) (lots := [(s, usedBy s m)]) (fun x hx => by rw [List.mem_singleton.mp hx]; exact Nat.le_refl _) (fun x hx => by rw [List.mem_singleton.mp hx]) (Nat.le_refl _) 10 (n - s.length) h4
    refine ⟨Nat.le_trans c (Nat.le_trans (Nat.pow_le_pow_right (by decide) (show n - s.length ≤ 4 by omega)) (by decide)), fun y hy => ⟨by have := a y hy; omega, gro_le hy, by have := b y hy; omega⟩⟩
  · exact ⟨Nat.zero_le _, fun y hy => by cases hy⟩
theorem cut_right {L : List Nat} {r i : Nat} (h : L.length = 2 * r + i) : cutV (L.map nV) (some (r : Int)) (some (2 * (r : Int))) = (rightOf r L).map nV := by
  unfold cutV rightOf
  rw [show (2 * (r : Int)) = ((2 * r : Nat) : Int) by omega, HT.sIx_nat, HT.sIx_nat, List.length_map, h, ← List.map_drop, ← List.map_take]
  rw [show min r (2 * r + i) = r by omega, show min (2 * r) (2 * r + i) = 2 * r by omega, show 2 * r - r = r by omega]
theorem parts_of_perm {r m : Nat} {St : List (List Nat)} (h : St.Perm ((parts r m).map (·.1))) (hr : r ≤ 2) (hm : m ≤ 2) : ∀ s ∈ St, s.length = r ∧ usedBy s m ≤ 4 := by
  intro s hs
  obtain ⟨y, hy, rfl⟩ := List.mem_map.mp (h.mem_iff.mp hs)
  obtain ⟨a, _, c⟩ := parts_small hr hm y hy
  have e : y.2 = usedBy y.1 m := gro_used (L := []) hy
  exact ⟨a, by omega⟩
theorem steps_of_perm_len {r m : Nat} {St : List (List Nat)} (h : St.Perm ((parts r m).map (·.1))) (hr : r ≤ 2) (hm : m ≤ 2) : St.length ≤ 16 := by
  rw [h.length_eq, List.length_map]
  exact parts_len hr hm
section
variable {P : Program} {w : World} {K : PySem.W.Frag} {mg : Str → Option Value} {base : Heap}
/-! ### piece_steps -/
abbrev sSteps : Stmt := top 43
def spSteps (K : PySem.W.Frag) : Sp := fun vs H Q _ => ∃ (C p : Addr) (r i m : Nat) (un sa : List (Nat × Nat)), vs = [.ref p, nV r, nV m] ∧ PartC K C ∧ PartAt C H p r i un sa ∧ Ok un sa (2 * r + i) ∧ 1 ≤ r ∧ r ≤ 2 ∧ m ≤ 2 ∧ 2 * r + i ≤ 5 ∧ un.length ≤ 1000 ∧ sa.length ≤ 1000 ∧
  ∀ H' d St, Same H H' → H d = none → St.Perm ((parts r m).map (·.1)) → FoundAt H' d St (fun s q t => tab q r m ⟨i, un, sa⟩ s t) → Q (.ref d) H'
abbrev nSteps : List Str := ["piece", "rim", "marked", "found", "state", "steps", "start", "labels", "used", "lots"]
theorem scSteps : FnScope nSteps ["piece", "rim", "marked"] (defScope sSteps) := ⟨rfl, rfl, rfl, by decide +kernel, rfl, by decide +kernel, by decide +kernel⟩
/-- what the defs of the tables need of the module -/
structure GTab (K : PySem.W.Frag) (mg : Str → Option Value) extends GGrown K mg where
  fG : Addr
  fdG : FuncData
  FG : FnP K "grown" sGrown fG fdG
  gG : mg "grown" = some (.ref fG)
  fN : Addr
  fdN : FuncData
  FN : FnP K "normal" sNormal fN fdN
  gN : mg "normal" = some (.ref fN)
  fP : Addr
  fdP : FuncData
  FP : FnParts K fP fdP
  gP : mg "partings" = some (.ref fP)
  fC : Addr
  fdC : FuncData
  FC : FnP K "counted" sCounted fC fdC
  gC : mg "counted" = some (.ref fC)
  sorted : mg "sorted" = none
theorem parts_binds2 {f : Addr} {fd : FuncData} (F : FnParts K f fd) : Binds K fd ["rim", "marked"] [] := by
  obtain ⟨ds, h1, h2⟩ := F.binds1 (ps := ["rim", "marked"]) 2 1 (by simp) rfl (fun T kV doc pm an cdv ct us its hu hi => match us, its, hu, hi with
    | [a, b], [c], _, _ => ⟨_, rfl, rfl⟩)
  cases h1
  exact h2
theorem parts_binds1 {f : Addr} {fd : FuncData} (F : FnParts K f fd) : ∃ ds, Vals [V.int 0] ds ∧ Binds K fd ["rim", "marked"] ds :=
  F.binds1 (ps := ["rim", "marked"]) 1 0 (by simp) rfl (fun T kV doc pm an cdv ct us its hu hi => match us, its, hu, hi with
    | [a], [c], _, _ => ⟨_, rfl, rfl⟩)
theorem RLot.hid {H : Hp} {x : List Nat × Nat} {v : V} {s : Addr} {o : List (List Key × V)} (hs : H s = some (.dT o)) (h : RLot H x v) : RLot (hide [s] H) x v := by
  obtain ⟨t, a, h1, h2, h3⟩ := h
  refine ⟨t, a, h1, ?_, ?_⟩
  · rw [hide_out]
    · exact h2
    · intro z
      rw [List.mem_singleton.mp z, hs] at h2
      cases h2
  · show hide [s] H a = _
    rw [hide_out]
    · exact h3
    · intro z
      rw [TupN, List.mem_singleton.mp z, hs] at h3
      cases h3
theorem Inner.mono {H1 H' : Hp} {s : Addr} {T : Steps} {n m : Nat} (h : Inner H1 H' s T n) (k : n ≤ m) : Inner H1 H' s T m :=
  ⟨h.same, h.at_, h.news, fun e he => let ⟨a, b, c, d⟩ := h.lots e he; ⟨a, b, Nat.le_trans c k, Nat.le_trans d k⟩, h.new, h.nda, h.ndk, Nat.le_trans h.len k⟩
theorem hide_one_none {H : Hp} {a : Addr} (h : H a = none) : hide [a] H = H := by
  funext b
  by_cases z : b ∈ [a]
  · rw [hide_in z, List.mem_singleton.mp z, h]
  · rw [hide_out z]
theorem zip_snoc {α β : Type} {a : List α} {b : List β} {x : α} {y : β} (h : a.length = b.length) : (a ++ [x]).zip (b ++ [y]) = a.zip b ++ [(x, y)] := by
  rw [List.zip_append h]; rfl
theorem ok_steps {f : Addr} {fd : FuncData} (F : FnP K "piece_steps" sSteps f fd) (G : GTab K mg) : FnOk P w K mg base CX0 4 f fd ["piece", "rim", "marked"] (spSteps K) := by
  have GG : FnOk P w K mg base CX0 3 G.fG G.fdG ["part", "count", "start", "marked"] (spGrown K) := ok_grown G.FG G.toGGrown
  have bG : Binds K G.fdG ["part", "count", "start", "marked"] [] := fn_binds G.FG fun _ _ _ _ _ _ us hl => match us, hl with | [_, _, _, _], _ => rfl
  have GN : FnOk P w K mg base CX0 3 G.fN G.fdN ["labels", "marked"] spNormal := (ok_normal G.FN G.len G.tuple).mono (by decide)
  have bN : Binds K G.fdN ["labels", "marked"] [] := fn_binds G.FN fun _ _ _ _ _ _ us hl => match us, hl with | [_, _], _ => rfl
  have GU : FnOk P w K mg base CX0 3 G.fU G.fdU ["labels", "marked"] spUsed := (ok_used G.FU G.max G.list).mono (by decide)
  have bU : Binds K G.fdU ["labels", "marked"] [] := fn_binds G.FU fun _ _ _ _ _ _ us hl => match us, hl with | [_, _], _ => rfl
  have GP : FnOk P w K mg base CX0 3 G.fP G.fdP ["rim", "marked"] spParts := ok_parts G.FP G.FO G.gO G.FF G.gF G.range G.max G.sorted
  have bP : Binds K G.fdP ["rim", "marked"] [] := parts_binds2 G.FP
  have GC : FnOk P w K mg base CX0 3 G.fC G.fdC ["lots", "key"] spCounted := (ok_counted G.FC).mono (by decide)
  have bC : Binds K G.fdC ["lots", "key"] [] := fn_binds G.FC fun _ _ _ _ _ _ us hl => match us, hl with | [_, _], _ => rfl
  refine F.ok scSteps (fun vs H Q E h => ?_) (fun cdv A outer s H vs Q E hr h => ?_)
  · obtain ⟨C, p, r, i, m, un, sa, rfl, _⟩ := h
    rfl
  · obtain ⟨C, p, r, i, m, un, sa, rfl, pc, hp, ok, h1, h2, h3, h4, lu, ls, hQ⟩ := h
    have hu := hu_of hr
    refine ⟨_, PSs.nox (pss_cons (ps_set (i := 3) scSteps.nd rfl (.inl rfl) pe_dnewT)
      (pss_cons (ps_for PassesOwn.never rfl (pi_list (pe_call GP hr (by rfl) G.gP G.FP.kp bP .nil pass0 (pa_cons (pv 1) (pa_cons (pv 2) pa_nil)))) (pg_name (i := 4) scSteps.nd rfl (.inl rfl))
        (pss_cons (ps_set (i := 5) scSteps.nd rfl (.inl rfl) pe_dnewT)
        (pss_cons (ps_set (i := 6) scSteps.nd rfl (.inl rfl) (pe_call GU hr (by rfl) G.gU G.FU.kp bU .nil pass0 (pa_cons (pv 4) (pa_cons (pv 2) pa_nil))))
        (pss_cons (ps_for PassesOwn.never rfl (pi_list (pe_call GG hr (by rfl) G.gG G.FG.kp bG .nil pass0 (pa_cons (pv 0) (pa_cons (pe_op op_add (pe_op op_mul pe_int (pv 1)) (pe_fld (pv 0) rfl)) (pa_cons (pv 4) (pa_cons (pv 2) pa_nil)))))) (pg_tup rfl (pgs_cons (pg_name (i := 7) scSteps.nd rfl (.inl rfl)) (pgs_cons (pg_name (i := 8) scSteps.nd rfl (.inl rfl)) pgs_nil)))
          (pss_cons (ps_set (i := 9) scSteps.nd rfl (.inl rfl) (pe_dsetdN hu (pv 5) (pe_call GN hr (by rfl) G.gN G.FN.kp bN .nil pass0 (pa_cons (pe_slice sl_tupN (pv 7) (po_some (pv 1)) (po_some (pe_op op_mul pe_int (pv 1)))) (pa_cons (pv 2) pa_nil))) pe_dnewT ⟨rfl, rfl, rfl, rfl⟩))
          (pss_one (ps_expr (pe_call GC hr (by rfl) G.gC G.FC.kp bC .nil pass0 (pa_cons (pv 9) (pa_cons (pe_tup (pa_cons (pv 6) (pa_cons (pe_op op_sub (pv 8) (pv 6)) pa_nil))) pa_nil)))))))
        (pss_one (ps_dput hu (pv 3) (pv 4) (pv 5) rfl))))))
      (pss_one (ps_ret (pv 3))))), ?_⟩
    intro d hd
    have sd := same_new (o := .dT []) hd
    refine ⟨_, rfl, _, rfl, r, m, rfl, h1, h2, h3, fun H1 D St s1 hD hperm ⟨ws, hws, pws⟩ => ?_⟩
    have ndD : d ≠ D := fun z => by rw [z] at s1; rw [← z, upd_same] at hD; cases hD
    have hSt := parts_of_perm hperm h2 h3
    have hSl := steps_of_perm_len hperm h2 h3
    have hnd : St.Nodup := (parts_states hperm).nd
    have sH1 : Same H H1 := sd.trans s1
    -- the heap without the dict that grows
    have base0 : Same H (hide [d] H1) := by
      have := hide_same [d] sH1
      have e : hide [d] H = H := by
        funext b
        by_cases z : b ∈ [d]
        · rw [hide_in z, List.mem_singleton.mp z, hd]
        · rw [hide_out z]
      rwa [e] at this
    refine ⟨D, rfl, ⟨_, SqL.of hws⟩, for_list (K := K) (a := D) (xs := ws)
      (fun j σ H' => Same (hide [d] H1) H' ∧ (∃ v4 v5 v6 v7 v8 v9, σ = [some (.ref p), some (nV r), some (nV m), some (.ref d), v4, v5, v6, v7, v8, v9]) ∧ ∃ as : List Addr, as.length = j ∧ H' d = some (.dT (((St.take j).zip as).map fun p => (kL p.1, V.ref p.2))) ∧ ∀ s a, (s, a) ∈ (St.take j).zip as → StepsAt (hide [d] H') a (fun q t => tab q r m ⟨i, un, sa⟩ s t))
      ⟨hide_sub _ _, ⟨_, _, _, _, _, _, rfl⟩, [], rfl, s1 _ _ upd_same, fun s a h => by cases h⟩ (fun j σ H' _ h => SqL.of (h.1 _ _ (by rw [hide_out (by simpa using ndD.symm)]; exact hws))) ?_ ?_⟩
    · rintro j y σ H2 hj ⟨s2, ⟨v4, v5, v6, v7, v8, v9, rfl⟩, as, has, hd2, hall⟩
      obtain ⟨st, hst, a, rfl, ha⟩ := pd_get pws hj
      obtain ⟨lst, ust⟩ := hSt st (List.mem_of_getElem? hst)
      have hjl : j < St.length := (List.getElem?_eq_some_iff.mp hst).1
      have nad : a ≠ d := fun z => by rw [TupN, z, s1 _ _ upd_same] at ha; cases ha
      have ha2 : TupN H2 a st := s2 _ _ (by rw [hide_out (by simpa using nad)]; exact ha)
      have sH2 : Same H H2 := base0.trans s2
      intro sp hsp
      have s3 := same_new (o := .dT []) hsp
      refine ⟨_, rfl, _, rfl, a, st, m, rfl, ha2.keep s3, by omega, fun H3 s4 => ?_⟩
      obtain ⟨dx, tu, ts, hpi, hpu, hps⟩ := hp.keep (sH2.trans (s3.trans s4))
      refine ⟨_, rfl, _, rfl, _, _, rfl, rfl, .inl ⟨by decide, by decide⟩, _, rfl, p, C, dx, _, _, rfl, hpi, pc.cl, pc.nI, partF_inner r i tu ts, _, _, rfl, rfl, _, rfl, _, rfl, ?_⟩
      have en : V.int (2 * (r : Int) + (i : Int)) = nV (2 * r + i) := by unfold nV; congr 1
      obtain ⟨gl, gy⟩ := grown_bounds (un := un) (sa := sa) (n := 2 * r + i) (m := m) (s := st) (by omega) (by omega) (by omega)
      refine ⟨C, p, a, r, i, 2 * r + i, m, un, sa, st, by rw [← en]; rfl, pc, ⟨dx, tu, ts, hpi, hpu, hps⟩, ok, (ha2.keep s3).keep s4, by omega, by omega, by omega, by omega, lu, ls, fun H4 D4 s5 hD4 hl4 => ?_⟩
      obtain ⟨gs, hgs, pgs⟩ := hl4
      have s35 := s3.trans (s4.trans s5)
      have hsp4 : H4 sp = some (.dT (skvs [])) := (s4.trans s5) _ _ upd_same
      have hb2 : Same H2 (hide [sp] H4) := by
        have := hide_same [sp] s35
        rwa [hide_one_none hsp] at this
      have nDs : D4 ≠ sp := fun z => by rw [z, hsp4] at hgs; cases hgs
      have hgB : hide [sp] H4 D4 = some (.lst gs) := by rw [hide_out (by simpa using nDs)]; exact hgs
      have nds : d ≠ sp := fun z => by rw [z, hsp] at hd2; cases hd2
      refine ⟨D4, rfl, ⟨_, SqL.of hgs⟩, for_list (K := K) (a := D4) (xs := gs)
        (fun k σ H' => (∃ v7 v8 v9, σ = [some (.ref p), some (nV r), some (nV m), some (.ref d), some (.ref a), some (.ref sp), some (nV (usedBy st m)), v7, v8, v9]) ∧ ∃ T, Inner (hide [sp] H4) H' sp T (2 * k) ∧
          ∀ q t, tsum q T t = S ((grown un sa (2 * r + i) st m).take k) fun y => if nrm m (rightOf r y.1) = t then fal q (usedBy st m) (y.2 - usedBy st m) else 0)
        ⟨⟨_, _, _, rfl⟩, [], ⟨hide_sub _ _, hsp4, hide_in (by simp), fun e he => (by cases he), fun e he => (by cases he), by simp, by simp, Nat.le_refl _⟩, fun q t => rfl⟩ (fun k σ H' _ h => SqL.of (h.2.choose_spec.1.same _ _ hgB)) ?_ ?_⟩
      · rintro k y σ H5 hk ⟨⟨v7, v8, v9, rfl⟩, T, inn, hsum⟩
        obtain ⟨x, hx, hlot⟩ := pd_get pgs hk
        obtain ⟨t, aL, rfl, ht, hL⟩ := (hlot.hid hsp4).keep inn.same
        obtain ⟨b1, b2, b3⟩ := gy x (List.mem_of_getElem? hx)
        have hkl : k < (grown un sa (2 * r + i) st m).length := (List.getElem?_eq_some_iff.mp hx).1
        refine ⟨t, _, rfl, SqT.of ht, rfl, _, _, rfl, _, _, rfl, rfl, ?_⟩
        refine ⟨_, rfl, sp, rfl, .inr ⟨_, Rd.of inn.at_⟩, _, rfl, _, rfl, _, rfl, _, rfl, _, _, rfl, rfl, .inl ⟨by decide, by decide⟩, _, rfl, aL, _, rfl, hL, fun c H6 s6 fr hc => ?_⟩
        rw [cut_right b3] at hc
        refine ⟨_, rfl, c, rightOf r x.1, m, rfl, .inr hc, by unfold rightOf; rw [List.length_take]; omega, fun H7 c2 s7 hc2 => ?_⟩
        intro pn hpn
        have s8 := same_new (o := .dT []) hpn
        have s58 := s6.trans (s7.trans s8)
        have inn8 := inn.keep s58
        have hpB : hide [sp] H4 pn = none := (inn.same.trans (s6.trans s7)).free hpn
        have hps : pn ≠ sp := fun z => by rw [z, (inn.keep (s6.trans s7)).at_] at hpn; cases hpn
        have hpT : pn ∉ T.map (·.2.1) := fun z => by
          obtain ⟨e, he, q⟩ := List.mem_map.mp z
          rw [← q, ((inn.keep (s6.trans s7)).lots e he).1] at hpn
          cases hpn
        have hlenT : (skvs T).length ≤ 100000 := by
          have := inn.len
          rw [skvs, List.length_map]; omega
        refine ⟨skvs T, kL (nrm m (rightOf r x.1)), c2, inn8.at_, rfl, kL_tup (hc2.keep s8), Nat.lt_of_le_of_lt hlenT (by decide), fun v H9 hcase => ?_⟩
        obtain ⟨A, aW, W, B, rfl, inn9, hs9⟩ : ∃ A aW W B, v = .ref aW ∧ Inner (hide [sp] H4) H9 sp (A ++ (nrm m (rightOf r x.1), aW, W) :: B) (2 * k + 1) ∧ ∀ q t, tsum q (A ++ (nrm m (rightOf r x.1), aW, W) :: B) t = tsum q T t := by
          rcases hcase with ⟨hv, rfl⟩ | ⟨hv, rfl, rfl⟩
          · obtain ⟨A, aW, W, B, rfl, rfl, _⟩ := inn8.there hv
            exact ⟨A, aW, W, B, rfl, inn8.mono (by omega), fun _ _ => rfl⟩
          · refine ⟨T, pn, [], [], rfl, inn8.add hv upd_same hpB hps hpT, fun q t => tsum_add q T _ t pn⟩
        refine ⟨_, rfl, _, rfl, _, rfl, _, rfl, _, _, rfl, rfl, small' (n := 2) (by decide), fun tc htc => ?_⟩
        have s10 := same_new (o := .tup [nV (usedBy st m), .int ((x.2 : Int) - (usedBy st m : Int))]) htc
        have inn10 := inn9.keep s10
        obtain ⟨l1, l2, l3, l4⟩ := inn10.lots (nrm m (rightOf r x.1), aW, W) (by simp)
        have el : V.int ((x.2 : Int) - (usedBy st m : Int)) = nV (x.2 - usedBy st m) := by unfold nV; congr 1; omega
        refine ⟨aW, tc, W, (usedBy st m, x.2 - usedBy st m), rfl, l1, by rw [← el]; exact upd_same, l2, by show usedBy st m ≤ 100; omega, by show x.2 - usedBy st m ≤ 100; omega, by show W.length ≤ 1000000; have : W.length ≤ 2 * k + 1 := l4; omega, fun W' ok' hq ht' hl' => ?_⟩
        have l3' : tot W ≤ 2 * k + 1 := l3
        have l4' : W.length ≤ 2 * k + 1 := l4
        refine ⟨⟨_, _, _, rfl⟩, _, inn10.count ok' (by omega) (by omega), fun q t => ?_⟩
        rw [tsum_count q A B (nrm m (rightOf r x.1)) t aW W W' _ (hq q), hs9, hsum, take_snoc hx, S_append, S_single]
      · rintro σ H5 ⟨⟨v7, v8, v9, rfl⟩, T, inn, hsum⟩
        rw [← pd_len pgs, List.take_length] at hsum
        have s25 : Same H2 H5 := hb2.trans inn.same
        have hd5 := s25 _ _ hd2
        have hkey : valV (((St.take j).zip as).map fun p => (kL p.1, V.ref p.2)) (kL st) = none := by
          unfold valV
          rw [Option.map_eq_none_iff, List.find?_eq_none]
          intro q hq
          obtain ⟨⟨s', a'⟩, hm, rfl⟩ := List.mem_map.mp hq
          simp only [decide_eq_true_eq]
          intro e
          have e2 : s' = st := kL_inj.mp e
          subst e2
          have h5 : s' ∈ St.take j := (List.of_mem_zip hm).1
          obtain ⟨j', hj', e3⟩ := List.getElem_of_mem h5
          have h6 : j' < j := by rw [List.length_take] at hj'; omega
          rw [List.getElem_take] at e3
          have := nd_ix hnd (show St[j']? = some s' by rw [← e3]; exact List.getElem?_eq_getElem _) hst
          omega
        refine ⟨_, rfl, _, rfl, _, rfl, d, _, rfl, DPut.t hd5 (kL_tup (ha2.keep s25)) ?_, ?_⟩
        · refine small ?_
          rw [List.length_map, List.length_zip, List.length_take]; omega
        · refine ⟨same_hide_upd (by simp) (s2.trans s25), ⟨_, _, _, _, _, _, rfl⟩, as ++ [sp], by rw [List.length_append, has]; rfl, ?_, ?_⟩
          · rw [upd_same, putK_new _ hkey, take_snoc hst, zip_snoc (by rw [has, List.length_take]; omega), List.map_append]
            rfl
          · intro s' a' hm
            rw [hide_upd (by simp)]
            rw [take_snoc hst, zip_snoc (by rw [has, List.length_take]; omega)] at hm
            rcases List.mem_append.mp hm with hm | hm
            · exact (hall s' a' hm).keep (hide_same [d] s25)
            · have := List.mem_singleton.mp hm
              cases this
              have hdB : hide [sp] H4 d ≠ none := by
                rw [hide_out (by simpa using nds), s35 _ _ hd2]
                exact fun z => nomatch z
              have g1 := gl
              have g2 := inn.len
              have g3 : gs.length ≤ 10000 := by rw [← pd_len pgs]; exact gl
              refine ⟨T, ?_, by omega, inn.ndk, fun e he => ?_, hsum⟩
              · rw [hide_out (by simpa using nds.symm)]
                exact inn.at_
              · obtain ⟨c1, c2, c3, c4⟩ := inn.lots e he
                refine ⟨?_, c2, by omega, by omega⟩
                rw [hide_out]
                · exact c1
                · intro z
                  rw [List.mem_singleton] at z
                  exact hdB (z ▸ inn.new e he)
    · rintro σ H2 ⟨s2, ⟨v4, v5, v6, v7, v8, v9, rfl⟩, as, has, hd2, hall⟩
      have hlen : ws.length = St.length := (pd_len pws).symm
      rw [hlen, List.take_length] at hd2
      rw [hlen, List.take_length] at hall
      refine ⟨_, rfl, hQ H2 d St (base0.trans s2) hd hperm ⟨as, by omega, hd2, fun s a h => (hall s a h).keep (hide_sub _ _)⟩⟩
end
end Hue

set_option maxHeartbeats 4000000
namespace Hue
open PySem PySem.W PyProof.Rows L2
theorem cut_left {L : List Nat} {r : Nat} (h : r ≤ L.length) : cutV (L.map nV) none (some (r : Int)) = (L.take r).map nV := by
  unfold cutV
  rw [HT.sIx_none, HT.sIx_nat, List.length_map, List.drop_zero, Nat.sub_zero, ← List.map_take]
  rw [show min r L.length = r by omega]
/-- finished: for each labels of a rim its weights -/
def EndsAt (H : Hp) (d : Addr) (St : List (List Nat)) (e : List Nat → Nat → Int) : Prop := ∃ (as : List Addr) (Ws : List Nat → Wt), as.length = St.length ∧ H d = some (.dT ((St.zip as).map fun p => (kL p.1, V.ref p.2))) ∧
  ∀ s a, (s, a) ∈ St.zip as → H a = some (.dT (wkvs (Ws s))) ∧ WOk (Ws s) ∧ tot (Ws s) ≤ 1000000 ∧ (Ws s).length ≤ 1000000 ∧ ∀ q, wsum q (Ws s) = e s q
theorem EndsAt.keep {H H' : Hp} {d : Addr} {St : List (List Nat)} {e : List Nat → Nat → Int} (k : Same H H') (h : EndsAt H d St e) : EndsAt H' d St e := by
  obtain ⟨as, Ws, a, b, c⟩ := h
  exact ⟨as, Ws, a, k _ _ b, fun s x hx => ⟨k _ _ (c s x hx).1, (c s x hx).2⟩⟩
section
variable {P : Program} {w : World} {K : PySem.W.Frag} {mg : Str → Option Value} {base : Heap}
/-! ### cap_starts -/
abbrev sStarts : Stmt := top 44
def spStarts (K : PySem.W.Frag) : Sp := fun vs H Q _ => ∃ (C p : Addr) (r i : Nat) (un sa : List (Nat × Nat)), vs = [.ref p] ∧ PartC K C ∧ PartAt C H p r i un sa ∧ Ok un sa (r + i) ∧ r + i ≤ 4 ∧ un.length ≤ 1000 ∧ sa.length ≤ 1000 ∧
  ∀ H' d, Same H H' → H d = none → StepsAt H' d (fun q t => startT q r ⟨i, un, sa⟩ t) → Q (.ref d) H'
abbrev nStarts : List Str := ["cap", "found", "labels", "used"]
theorem scStarts : FnScope nStarts ["cap"] (defScope sStarts) := ⟨rfl, rfl, rfl, by decide +kernel, rfl, by decide +kernel, by decide +kernel⟩
theorem ok_starts {f : Addr} {fd : FuncData} (F : FnP K "cap_starts" sStarts f fd) (G : GTab K mg) : FnOk P w K mg base CX0 4 f fd ["cap"] (spStarts K) := by
  have GG : FnOk P w K mg base CX0 3 G.fG G.fdG ["part", "count", "start", "marked"] (spGrown K) := ok_grown G.FG G.toGGrown
  have bG : Binds K G.fdG ["part", "count", "start", "marked"] [] := fn_binds G.FG fun _ _ _ _ _ _ us hl => match us, hl with | [_, _, _, _], _ => rfl
  have GN : FnOk P w K mg base CX0 3 G.fN G.fdN ["labels", "marked"] spNormal := (ok_normal G.FN G.len G.tuple).mono (by decide)
  have bN : Binds K G.fdN ["labels", "marked"] [] := fn_binds G.FN fun _ _ _ _ _ _ us hl => match us, hl with | [_, _], _ => rfl
  have GC : FnOk P w K mg base CX0 3 G.fC G.fdC ["lots", "key"] spCounted := (ok_counted G.FC).mono (by decide)
  have bC : Binds K G.fdC ["lots", "key"] [] := fn_binds G.FC fun _ _ _ _ _ _ us hl => match us, hl with | [_, _], _ => rfl
  refine F.ok scStarts (fun vs H Q E h => ?_) (fun cdv A outer s H vs Q E hr h => ?_)
  · obtain ⟨C, p, r, i, un, sa, rfl, _⟩ := h
    rfl
  · obtain ⟨C, p, r, i, un, sa, rfl, pc, hp, ok, h1, lu, ls, hQ⟩ := h
    have hu := hu_of hr
    refine ⟨_, PSs.nox (pss_cons (ps_set (i := 1) scStarts.nd rfl (.inl rfl) pe_dnewT)
      (pss_cons (ps_for PassesOwn.never rfl (pi_list (pe_call GG hr (by rfl) G.gG G.FG.kp bG .nil pass0 (pa_cons (pv 0) (pa_cons (pe_op op_add (pe_fld (pv 0) rfl) (pe_fld (pv 0) rfl)) (pa_cons (pe_tup pa_nil) (pa_cons pe_int pa_nil)))))) (pg_tup rfl (pgs_cons (pg_name (i := 2) scStarts.nd rfl (.inl rfl)) (pgs_cons (pg_name (i := 3) scStarts.nd rfl (.inl rfl)) pgs_nil)))
          (pss_one (ps_expr (pe_call GC hr (by rfl) G.gC G.FC.kp bC .nil pass0 (pa_cons (pe_dsetdN hu (pv 1) (pe_call GN hr (by rfl) G.gN G.FN.kp bN .nil pass0 (pa_cons (pe_slice sl_tupN (pv 2) po_none (po_some (pe_fld (pv 0) rfl))) (pa_cons pe_int pa_nil))) pe_dnewT ⟨rfl, rfl, rfl, rfl⟩) (pa_cons (pe_tup (pa_cons pe_int (pa_cons (pv 3) pa_nil))) pa_nil))))))
      (pss_one (ps_ret (pv 1))))), ?_⟩
    intro sp hsp
    have s1 := same_new (o := .dT []) hsp
    obtain ⟨dx, tu, ts, hpi, hpu, hps⟩ := hp.keep s1
    refine ⟨_, rfl, _, rfl, p, C, dx, _, _, rfl, hpi, pc.cl, pc.nR, partF_rim r i tu ts, _, rfl, p, C, dx, _, _, rfl, hpi, pc.cl, pc.nI, partF_inner r i tu ts, _, _, rfl, rfl, Nat.zero_le _, fun te hte => ?_⟩
    have s2 := same_new (o := .tup []) hte
    have en : V.int ((r : Int) + (i : Int)) = nV (r + i) := by unfold nV; congr 1
    obtain ⟨gl, gy⟩ := grown_bounds (un := un) (sa := sa) (n := r + i) (m := 0) (s := []) (Nat.zero_le _) (by show r + i ≤ 4 + 0; omega) (by show 0 + (r + i - 0) ≤ 10; omega)
    refine ⟨C, p, te, r, i, r + i, 0, un, sa, [], by rw [← en]; rfl, pc, (hp.keep s1).keep s2, ok, upd_same, Nat.zero_le _, by show r + i ≤ 5 + 0; omega, Nat.zero_le _, by show 0 + (r + i - 0) ≤ 10; omega, lu, ls, fun H4 D4 s5 hD4 hl4 => ?_⟩
    obtain ⟨gs, hgs, pgs⟩ := hl4
    have s15 := s1.trans (s2.trans s5)
    have hsp4 : H4 sp = some (.dT (skvs [])) := (s2.trans s5) _ _ upd_same
    have hb2 : Same H (hide [sp] H4) := by
      have := hide_same [sp] s15
      rwa [hide_one_none hsp] at this
    have nDs : D4 ≠ sp := fun z => by rw [z, hsp4] at hgs; cases hgs
    have hgB : hide [sp] H4 D4 = some (.lst gs) := by rw [hide_out (by simpa using nDs)]; exact hgs
    refine ⟨D4, rfl, ⟨_, SqL.of hgs⟩, for_list (K := K) (a := D4) (xs := gs)
      (fun k σ H' => (∃ v2 v3, σ = [some (.ref p), some (.ref sp), v2, v3]) ∧ ∃ T, Inner (hide [sp] H4) H' sp T (2 * k) ∧
        ∀ q t, tsum q T t = S ((grown un sa (r + i) [] 0).take k) fun y => if nrm 0 (y.1.take r) = t then fal q 0 y.2 else 0)
      ⟨⟨_, _, rfl⟩, [], ⟨hide_sub _ _, hsp4, hide_in (by simp), fun e he => (by cases he), fun e he => (by cases he), by simp, by simp, Nat.le_refl _⟩, fun q t => rfl⟩ (fun k σ H' _ h => SqL.of (h.2.choose_spec.1.same _ _ hgB)) ?_ ?_⟩
    · rintro k y σ H5 hk ⟨⟨v2, v3, rfl⟩, T, inn, hsum⟩
      obtain ⟨x, hx, hlot⟩ := pd_get pgs hk
      obtain ⟨t, aL, rfl, ht, hL⟩ := (hlot.hid hsp4).keep inn.same
      obtain ⟨b1, b2, b3⟩ := gy x (List.mem_of_getElem? hx)
      have hkl : k < (grown un sa (r + i) [] 0).length := (List.getElem?_eq_some_iff.mp hx).1
      obtain ⟨dx, tu, ts, hpi, _, _⟩ := hp.keep (hb2.trans inn.same)
      refine ⟨t, _, rfl, SqT.of ht, rfl, _, _, rfl, _, _, rfl, rfl, ?_⟩
      refine ⟨_, rfl, sp, rfl, .inr ⟨_, Rd.of inn.at_⟩, _, rfl, _, rfl, p, C, dx, _, _, rfl, hpi, pc.cl, pc.nR, partF_rim r i tu ts, _, rfl, aL, _, rfl, hL, fun c H6 s6 fr hc => ?_⟩
      rw [cut_left (by omega)] at hc
      refine ⟨c, x.1.take r, 0, rfl, .inr hc, by rw [List.length_take]; omega, fun H7 c2 s7 hc2 => ?_⟩
      intro pn hpn
      have s8 := same_new (o := .dT []) hpn
      have s58 := s6.trans (s7.trans s8)
      have inn8 := inn.keep s58
      have hpB : hide [sp] H4 pn = none := (inn.same.trans (s6.trans s7)).free hpn
      have hps : pn ≠ sp := fun z => by rw [z, (inn.keep (s6.trans s7)).at_] at hpn; cases hpn
      have hpT : pn ∉ T.map (·.2.1) := fun z => by
        obtain ⟨e, he, q⟩ := List.mem_map.mp z
        rw [← q, ((inn.keep (s6.trans s7)).lots e he).1] at hpn
        cases hpn
      have hlenT : (skvs T).length ≤ 100000 := by
        have := inn.len
        rw [skvs, List.length_map]; omega
      refine ⟨skvs T, kL (nrm 0 (x.1.take r)), c2, inn8.at_, rfl, kL_tup (hc2.keep s8), Nat.lt_of_le_of_lt hlenT (by decide), fun v H9 hcase => ?_⟩
      obtain ⟨A, aW, W, B, rfl, inn9, hs9⟩ : ∃ A aW W B, v = .ref aW ∧ Inner (hide [sp] H4) H9 sp (A ++ (nrm 0 (x.1.take r), aW, W) :: B) (2 * k + 1) ∧ ∀ q t, tsum q (A ++ (nrm 0 (x.1.take r), aW, W) :: B) t = tsum q T t := by
        rcases hcase with ⟨hv, rfl⟩ | ⟨hv, rfl, rfl⟩
        · obtain ⟨A, aW, W, B, rfl, rfl, _⟩ := inn8.there hv
          exact ⟨A, aW, W, B, rfl, inn8.mono (by omega), fun _ _ => rfl⟩
        · refine ⟨T, pn, [], [], rfl, inn8.add hv upd_same hpB hps hpT, fun q t => tsum_add q T _ t pn⟩
      refine ⟨_, rfl, small' (n := 2) (by decide), fun tc htc => ?_⟩
      have s10 := same_new (o := .tup [.int 0, nV x.2]) htc
      have inn10 := inn9.keep s10
      obtain ⟨l1, l2, l3, l4⟩ := inn10.lots (nrm 0 (x.1.take r), aW, W) (by simp)
      refine ⟨aW, tc, W, (0, x.2), rfl, l1, upd_same, l2, Nat.zero_le _, by show x.2 ≤ 100; omega, by show W.length ≤ 1000000; have : W.length ≤ 2 * k + 1 := l4; omega, fun W' ok' hq ht' hl' => ?_⟩
      have l3' : tot W ≤ 2 * k + 1 := l3
      have l4' : W.length ≤ 2 * k + 1 := l4
      refine ⟨⟨_, _, rfl⟩, _, inn10.count ok' (by omega) (by omega), fun q t => ?_⟩
      rw [tsum_count q A B (nrm 0 (x.1.take r)) t aW W W' _ (hq q), hs9, hsum, take_snoc hx, S_append, S_single]
    · rintro σ H5 ⟨⟨v2, v3, rfl⟩, T, inn, hsum⟩
      rw [← pd_len pgs, List.take_length] at hsum
      have g2 := inn.len
      have g3 : gs.length ≤ 10000 := by rw [← pd_len pgs]; exact gl
      exact ⟨_, rfl, hQ H5 sp (hb2.trans inn.same) hsp ⟨T, inn.at_, by omega, inn.ndk, fun e he => let ⟨a, b, c, d⟩ := inn.lots e he; ⟨a, b, by omega, by omega⟩, hsum⟩⟩
/-! ### cap_ends -/
abbrev sEnds : Stmt := top 45
def spEnds (K : PySem.W.Frag) : Sp := fun vs H Q _ => ∃ (C p : Addr) (r i : Nat) (un sa : List (Nat × Nat)), vs = [.ref p] ∧ PartC K C ∧ PartAt C H p r i un sa ∧ Ok un sa (r + i) ∧ 1 ≤ r ∧ r ≤ 2 ∧ r + i ≤ 4 ∧ un.length ≤ 1000 ∧ sa.length ≤ 1000 ∧
  ∀ H' d St, Same H H' → H d = none → St.Perm ((parts r 0).map (·.1)) → EndsAt H' d St (fun s q => endT q r ⟨i, un, sa⟩ s) → Q (.ref d) H'
abbrev nEnds : List Str := ["cap", "found", "state", "lots", "start", "labels", "used"]
theorem scEnds : FnScope nEnds ["cap"] (defScope sEnds) := ⟨rfl, rfl, rfl, by decide +kernel, rfl, by decide +kernel, by decide +kernel⟩
theorem ok_ends {f : Addr} {fd : FuncData} (F : FnP K "cap_ends" sEnds f fd) (G : GTab K mg) : FnOk P w K mg base CX0 4 f fd ["cap"] (spEnds K) := by
  have GG : FnOk P w K mg base CX0 3 G.fG G.fdG ["part", "count", "start", "marked"] (spGrown K) := ok_grown G.FG G.toGGrown
  have bG : Binds K G.fdG ["part", "count", "start", "marked"] [] := fn_binds G.FG fun _ _ _ _ _ _ us hl => match us, hl with | [_, _, _, _], _ => rfl
  have GU : FnOk P w K mg base CX0 3 G.fU G.fdU ["labels", "marked"] spUsed := (ok_used G.FU G.max G.list).mono (by decide)
  have bU : Binds K G.fdU ["labels", "marked"] [] := fn_binds G.FU fun _ _ _ _ _ _ us hl => match us, hl with | [_, _], _ => rfl
  have GP : FnOk P w K mg base CX0 3 G.fP G.fdP ["rim", "marked"] spParts := ok_parts G.FP G.FO G.gO G.FF G.gF G.range G.max G.sorted
  obtain ⟨ds, vds, bP⟩ := parts_binds1 G.FP
  have GC : FnOk P w K mg base CX0 3 G.fC G.fdC ["lots", "key"] spCounted := (ok_counted G.FC).mono (by decide)
  have bC : Binds K G.fdC ["lots", "key"] [] := fn_binds G.FC fun _ _ _ _ _ _ us hl => match us, hl with | [_, _], _ => rfl
  refine F.ok scEnds (fun vs H Q E h => ?_) (fun cdv A outer s H vs Q E hr h => ?_)
  · obtain ⟨C, p, r, i, un, sa, rfl, _⟩ := h
    rfl
  · obtain ⟨C, p, r, i, un, sa, rfl, pc, hp, ok, h1, h2, h3, lu, ls, hQ⟩ := h
    have hu := hu_of hr
    refine ⟨_, PSs.nox (pss_cons (ps_set (i := 1) scEnds.nd rfl (.inl rfl) pe_dnewT)
      (pss_cons (ps_for PassesOwn.never rfl (pi_list (pe_call GP hr (by rfl) G.gP G.FP.kp bP vds pass0 (pa_cons (pe_fld (pv 0) rfl) pa_nil))) (pg_name (i := 2) scEnds.nd rfl (.inl rfl))
        (pss_cons (ps_set (i := 3) scEnds.nd rfl (.inl rfl) pe_dnewT)
        (pss_cons (ps_set (i := 4) scEnds.nd rfl (.inl rfl) (pe_call GU hr (by rfl) G.gU G.FU.kp bU .nil pass0 (pa_cons (pv 2) (pa_cons pe_int pa_nil))))
        (pss_cons (ps_for PassesOwn.never rfl (pi_list (pe_call GG hr (by rfl) G.gG G.FG.kp bG .nil pass0 (pa_cons (pv 0) (pa_cons (pe_op op_add (pe_fld (pv 0) rfl) (pe_fld (pv 0) rfl)) (pa_cons (pv 2) (pa_cons pe_int pa_nil)))))) (pg_tup rfl (pgs_cons (pg_name (i := 5) scEnds.nd rfl (.inl rfl)) (pgs_cons (pg_name (i := 6) scEnds.nd rfl (.inl rfl)) pgs_nil)))
          (pss_one (ps_expr (pe_call GC hr (by rfl) G.gC G.FC.kp bC .nil pass0 (pa_cons (pv 3) (pa_cons (pe_tup (pa_cons (pv 4) (pa_cons (pe_op op_sub (pv 6) (pv 4)) pa_nil))) pa_nil))))))
        (pss_one (ps_dput hu (pv 1) (pv 2) (pv 3) rfl))))))
      (pss_one (ps_ret (pv 1))))), ?_⟩
    intro d hd
    have sd := same_new (o := .dT []) hd
    obtain ⟨dx, tu, ts, hpi, hpu, hps⟩ := hp.keep sd
    refine ⟨_, rfl, p, C, dx, _, _, rfl, hpi, pc.cl, pc.nR, partF_rim r i tu ts, r, 0, rfl, h1, h2, Nat.zero_le _, fun H1 D St s1 hD hperm ⟨ws, hws, pws⟩ => ?_⟩
    have ndD : d ≠ D := fun z => by rw [← z, upd_same] at hD; cases hD
    have hSt := parts_of_perm hperm h2 (Nat.zero_le _)
    have hSl := steps_of_perm_len hperm h2 (Nat.zero_le _)
    have hnd : St.Nodup := (parts_states hperm).nd
    have sH1 : Same H H1 := sd.trans s1
    have base0 : Same H (hide [d] H1) := by
      have := hide_same [d] sH1
      rwa [hide_one_none hd] at this
    refine ⟨D, rfl, ⟨_, SqL.of hws⟩, for_list (K := K) (a := D) (xs := ws)
      (fun j σ H' => Same (hide [d] H1) H' ∧ (∃ v2 v3 v4 v5 v6, σ = [some (.ref p), some (.ref d), v2, v3, v4, v5, v6]) ∧ ∃ (as : List Addr) (Ws : List Nat → Wt), as.length = j ∧ H' d = some (.dT (((St.take j).zip as).map fun p => (kL p.1, V.ref p.2))) ∧
        ∀ s a, (s, a) ∈ (St.take j).zip as → hide [d] H' a = some (.dT (wkvs (Ws s))) ∧ WOk (Ws s) ∧ tot (Ws s) ≤ 1000000 ∧ (Ws s).length ≤ 1000000 ∧ ∀ q, wsum q (Ws s) = endT q r ⟨i, un, sa⟩ s)
      ⟨hide_sub _ _, ⟨_, _, _, _, _, rfl⟩, [], fun _ => [], rfl, s1 _ _ upd_same, fun s a h => by cases h⟩ (fun j σ H' _ h => SqL.of (h.1 _ _ (by rw [hide_out (by simpa using ndD.symm)]; exact hws))) ?_ ?_⟩
    · rintro j y σ H2 hj ⟨s2, ⟨v2, v3, v4, v5, v6, rfl⟩, as, Ws, has, hd2, hall⟩
      obtain ⟨st, hst, a, rfl, ha⟩ := pd_get pws hj
      obtain ⟨lst, ust⟩ := hSt st (List.mem_of_getElem? hst)
      have hjl : j < St.length := (List.getElem?_eq_some_iff.mp hst).1
      have nad : a ≠ d := fun z => by rw [TupN, z, s1 _ _ upd_same] at ha; cases ha
      have ha2 : TupN H2 a st := s2 _ _ (by rw [hide_out (by simpa using nad)]; exact ha)
      have sH2 : Same H H2 := base0.trans s2
      intro sp hsp
      have s3 := same_new (o := .dT []) hsp
      refine ⟨_, rfl, a, st, 0, rfl, ha2.keep s3, by omega, fun H3 s4 => ?_⟩
      obtain ⟨dx, tu, ts, hpi, hpu, hps⟩ := hp.keep (sH2.trans (s3.trans s4))
      have en : V.int ((r : Int) + (i : Int)) = nV (r + i) := by unfold nV; congr 1
      obtain ⟨gl, gy⟩ := grown_bounds (un := un) (sa := sa) (n := r + i) (m := 0) (s := st) (by omega) (by omega) (by omega)
      refine ⟨_, rfl, _, rfl, p, C, dx, _, _, rfl, hpi, pc.cl, pc.nR, partF_rim r i tu ts, _, rfl, p, C, dx, _, _, rfl, hpi, pc.cl, pc.nI, partF_inner r i tu ts, _, _, rfl, rfl, _, rfl, ?_⟩
      refine ⟨C, p, a, r, i, r + i, 0, un, sa, st, by rw [← en]; rfl, pc, ⟨dx, tu, ts, hpi, hpu, hps⟩, ok, (ha2.keep s3).keep s4, by omega, by omega, by omega, by omega, lu, ls, fun H4 D4 s5 hD4 hl4 => ?_⟩
      obtain ⟨gs, hgs, pgs⟩ := hl4
      have s35 := s3.trans (s4.trans s5)
      have hsp4 : H4 sp = some (.dT (wkvs [])) := (s4.trans s5) _ _ upd_same
      have hb2 : Same H2 (hide [sp] H4) := by
        have := hide_same [sp] s35
        rwa [hide_one_none hsp] at this
      have nDs : D4 ≠ sp := fun z => by rw [z, hsp4] at hgs; cases hgs
      have hgB : hide [sp] H4 D4 = some (.lst gs) := by rw [hide_out (by simpa using nDs)]; exact hgs
      have nds : d ≠ sp := fun z => by rw [z, hsp] at hd2; cases hd2
      have hspB : hide [sp] H4 sp = none := hide_in (by simp)
      refine ⟨D4, rfl, ⟨_, SqL.of hgs⟩, for_list (K := K) (a := D4) (xs := gs)
        (fun k σ H' => (∃ v5 v6, σ = [some (.ref p), some (.ref d), some (.ref a), some (.ref sp), some (nV (usedBy st 0)), v5, v6]) ∧ Same (hide [sp] H4) H' ∧ ∃ W, H' sp = some (.dT (wkvs W)) ∧ WOk W ∧ tot W ≤ k ∧ W.length ≤ k ∧
          ∀ q, wsum q W = S ((grown un sa (r + i) st 0).take k) fun y => fal q (usedBy st 0) (y.2 - usedBy st 0))
        ⟨⟨_, _, rfl⟩, hide_sub _ _, [], hsp4, ⟨by simp, by simp⟩, Nat.le_refl _, Nat.le_refl _, fun q => rfl⟩ (fun k σ H' _ h => SqL.of (h.2.1 _ _ hgB)) ?_ ?_⟩
      · rintro k y σ H5 hk ⟨⟨v5, v6, rfl⟩, s6, W, hW, okW, tW, lW, hsum⟩
        obtain ⟨x, hx, hlot⟩ := pd_get pgs hk
        have hsp4' : H4 sp = some (.dT (skvs [])) := hsp4
        obtain ⟨t, aL, rfl, ht, hL⟩ := (hlot.hid hsp4').keep s6
        obtain ⟨b1, b2, b3⟩ := gy x (List.mem_of_getElem? hx)
        have hkl : k < (grown un sa (r + i) st 0).length := (List.getElem?_eq_some_iff.mp hx).1
        refine ⟨t, _, rfl, SqT.of ht, rfl, _, _, rfl, _, _, rfl, rfl, ?_⟩
        refine ⟨_, rfl, _, rfl, _, rfl, _, rfl, _, _, rfl, rfl, small' (n := 2) (by decide), fun tc htc => ?_⟩
        have s10 := same_new (o := .tup [nV (usedBy st 0), .int ((x.2 : Int) - (usedBy st 0 : Int))]) htc
        have el : V.int ((x.2 : Int) - (usedBy st 0 : Int)) = nV (x.2 - usedBy st 0) := by unfold nV; congr 1; omega
        refine ⟨sp, tc, W, (usedBy st 0, x.2 - usedBy st 0), rfl, s10 _ _ hW, by rw [← el]; exact upd_same, okW, by show usedBy st 0 ≤ 100; omega, by show x.2 - usedBy st 0 ≤ 100; omega, by omega, fun W' ok' hq ht' hl' => ?_⟩
        refine ⟨⟨_, _, rfl⟩, upd_keep (s6.trans s10) hspB, W', upd_same, ok', by omega, by omega, fun q => ?_⟩
        rw [hq q, hsum, take_snoc hx, S_append, S_single]
      · rintro σ H5 ⟨⟨v5, v6, rfl⟩, s6, W, hW, okW, tW, lW, hsum⟩
        rw [← pd_len pgs, List.take_length] at hsum
        have s25 : Same H2 H5 := hb2.trans s6
        have hd5 := s25 _ _ hd2
        have hkey : valV (((St.take j).zip as).map fun p => (kL p.1, V.ref p.2)) (kL st) = none := by
          unfold valV
          rw [Option.map_eq_none_iff, List.find?_eq_none]
          intro q hq
          obtain ⟨⟨s', a'⟩, hm, rfl⟩ := List.mem_map.mp hq
          simp only [decide_eq_true_eq]
          intro e
          have e2 : s' = st := kL_inj.mp e
          subst e2
          have h5 : s' ∈ St.take j := (List.of_mem_zip hm).1
          obtain ⟨j', hj', e3⟩ := List.getElem_of_mem h5
          have h6 : j' < j := by rw [List.length_take] at hj'; omega
          rw [List.getElem_take] at e3
          have := nd_ix hnd (show St[j']? = some s' by rw [← e3]; exact List.getElem?_eq_getElem _) hst
          omega
        have g3 : gs.length ≤ 10000 := by rw [← pd_len pgs]; exact gl
        refine ⟨_, rfl, _, rfl, _, rfl, d, _, rfl, DPut.t hd5 (kL_tup (ha2.keep s25)) ?_, ?_⟩
        · refine small ?_
          rw [List.length_map, List.length_zip, List.length_take]; omega
        · refine ⟨same_hide_upd (by simp) (s2.trans s25), ⟨_, _, _, _, _, rfl⟩, as ++ [sp], fun s => if s = st then W else Ws s, by rw [List.length_append, has]; rfl, ?_, ?_⟩
          · rw [upd_same, putK_new _ hkey, take_snoc hst, zip_snoc (by rw [has, List.length_take]; omega), List.map_append]
            rfl
          · intro s' a' hm
            rw [hide_upd (by simp)]
            rw [take_snoc hst, zip_snoc (by rw [has, List.length_take]; omega)] at hm
            rcases List.mem_append.mp hm with hm1 | hm1
            · have hne : s' ≠ st := by
                intro e2
                have h5 : s' ∈ St.take j := (List.of_mem_zip hm1).1
                subst e2
                obtain ⟨j', hj', e3⟩ := List.getElem_of_mem h5
                have h6 : j' < j := by rw [List.length_take] at hj'; omega
                rw [List.getElem_take] at e3
                have := nd_ix hnd (show St[j']? = some s' by rw [← e3]; exact List.getElem?_eq_getElem _) hst
                omega
              obtain ⟨x1, x2⟩ := hall s' a' hm1
              show hide [d] H5 a' = some (.dT (wkvs (if s' = st then W else Ws s'))) ∧ WOk (if s' = st then W else Ws s') ∧ tot (if s' = st then W else Ws s') ≤ 1000000 ∧ (if s' = st then W else Ws s').length ≤ 1000000 ∧ ∀ q, wsum q (if s' = st then W else Ws s') = _
              rw [if_neg hne]
              exact ⟨hide_same [d] s25 _ _ x1, x2⟩
            · have := List.mem_singleton.mp hm1
              cases this
              show hide [d] H5 sp = some (.dT (wkvs (if st = st then W else Ws st))) ∧ WOk (if st = st then W else Ws st) ∧ tot (if st = st then W else Ws st) ≤ 1000000 ∧ (if st = st then W else Ws st).length ≤ 1000000 ∧ ∀ q, wsum q (if st = st then W else Ws st) = _
              rw [if_pos rfl, hide_out (by simpa using nds.symm)]
              exact ⟨hW, okW, by omega, by omega, hsum⟩
    · rintro σ H2 ⟨s2, ⟨v2, v3, v4, v5, v6, rfl⟩, as, Ws, has, hd2, hall⟩
      have hlen : ws.length = St.length := (pd_len pws).symm
      rw [hlen, List.take_length] at hd2
      rw [hlen, List.take_length] at hall
      refine ⟨_, rfl, hQ H2 d St (base0.trans s2) hd hperm ⟨as, Ws, by omega, hd2, fun s a h => let ⟨x, y⟩ := hall s a h; ⟨hide_sub _ _ _ _ x, y⟩⟩⟩
end
end Hue

set_option maxHeartbeats 4000000
namespace Hue
open PySem PySem.W PyProof.Rows L2
/-! ### lists and tables of whole numbers -/
def LstI (H : Hp) (a : Addr) (l : List Int) : Prop := H a = some (.lst (l.map V.int))
def RRow (H : Hp) (l : List Int) (v : V) : Prop := ∃ b, v = .ref b ∧ LstI H b l
theorem RRow.keep {H H' : Hp} {l : List Int} {v : V} (s : Same H H') (h : RRow H l v) : RRow H' l v := by
  obtain ⟨b, h1, h2⟩ := h
  exact ⟨b, h1, s _ _ h2⟩
def MatAt (H : Hp) (a : Addr) (M : List (List Int)) : Prop := ∃ vs, H a = some (.lst vs) ∧ Paired (RRow H) M vs
theorem MatAt.keep {H H' : Hp} {a : Addr} {M : List (List Int)} (s : Same H H') (h : MatAt H a M) : MatAt H' a M := by
  obtain ⟨vs, h1, h2⟩ := h
  exact ⟨vs, s _ _ h1, pd_imp h2 fun _ _ r => r.keep s⟩
abbrev dot (xs ys : List Int) : Int := ((xs.zip ys).map fun p => p.1 * p.2).sum
abbrev col (M : List (List Int)) (j : Nat) : List Int := M.map fun r => r.getD j 0
/-- below 2 ^ b in size -/
def Bnd (b : Nat) (l : List Int) : Prop := ∀ x ∈ l, x.natAbs < 2 ^ b
theorem iV_get {l : List Int} {i : Nat} {v : V} (h : (l.map V.int)[i]? = some v) : ∃ x, l[i]? = some x ∧ v = .int x := by
  rw [List.getElem?_map] at h
  cases e : l[i]? with
  | none => rw [e] at h; cases h
  | some x => rw [e] at h; exact ⟨x, rfl, (Option.some.inj h).symm⟩
theorem at_iV {l : List Int} {i : Nat} (h : i < l.length) : atI (l.map V.int) ((i : Nat) : Int) = some (.int (l.getD i 0)) := by
  refine atI_nat ?_
  rw [List.getElem?_map, List.getD_eq_getElem?_getD, List.getElem?_eq_getElem h]
  rfl
section
variable {P : Program} {w : World} {K : PySem.W.Frag} {mg : Str → Option Value} {base : Heap}
/-! ### whole -/
abbrev sWhole : Stmt := top 51
def spWhole : Sp := fun vs H Q _ => ∃ i : Int, vs = [.int i] ∧ Q (.int i) H
theorem scWhole : FnScope ["number"] ["number"] (defScope sWhole) := ⟨rfl, rfl, rfl, by decide +kernel, rfl, by decide +kernel, by decide +kernel⟩
theorem ok_whole {f : Addr} {fd : FuncData} (F : FnP K "whole" sWhole f fd) : FnOk P w K mg base CX0 1 f fd ["number"] spWhole := by
  refine F.ok scWhole (fun vs H Q E h => ?_) (fun cdv A outer s H vs Q E hr h => ?_)
  · obtain ⟨i, rfl, _⟩ := h
    rfl
  · obtain ⟨i, rfl, hQ⟩ := h
    exact ⟨_, PSs.nox (pss_one (ps_ret (pv 0))), _, rfl, hQ⟩
/-! ### led -/
abbrev sLed : Stmt := top 48
/-- a line of n numbers behind a square table -/
def ledM (l : List Int) (M : List (List Int)) : List Int := (List.range M.length).map fun j => dot l (col M j)
def spLed (fW : Addr) : Sp := fun vs H Q _ => ∃ (a b : Addr) (l : List Int) (M : List (List Int)) (n bl bm : Nat), vs = [.ref a, .ref b, .ref fW] ∧ LstI H a l ∧ MatAt H b M ∧ l.length = n ∧ M.length = n ∧ (∀ r ∈ M, r.length = n ∧ Bnd bm r) ∧ Bnd bl l ∧ n ≤ 100 ∧ 0 < bl ∧ 0 < bm ∧ bl + bm ≤ 1000000 ∧
  ∀ H' D, Same H H' → H D = none → LstI H' D (ledM l M) → Q (.ref D) H'
abbrev nLed : List Str := ["line", "table", "trim", "found", "place", "number", "row"]
theorem scLed : FnScope nLed ["line", "table", "trim"] (defScope sLed) := ⟨rfl, rfl, rfl, by decide +kernel, rfl, by decide +kernel, by decide +kernel⟩
theorem dot_take {xs ys : List Int} {i : Nat} {x y : Int} (hx : xs[i]? = some x) (hy : ys[i]? = some y) : ((xs.zip ys).take (i + 1)).map (fun p => p.1 * p.2) = ((xs.zip ys).take i).map (fun p => p.1 * p.2) ++ [x * y] := by
  have : (xs.zip ys)[i]? = some (x, y) := by
    rw [List.getElem?_zip_eq_some]
    exact ⟨hx, hy⟩
  rw [List.take_add_one, this, List.map_append]
  rfl
theorem ok_led {f fW : Addr} {fd fdW : FuncData} (F : FnP K "led" sLed f fd) (FW : FnP K "whole" sWhole fW fdW) (gR : mg "range" = none) (gL : mg "len" = none) (gS : mg "sum" = none) (gZ : mg "zip" = none) : FnOk P w K mg base CX0 2 f fd ["line", "table", "trim"] (spLed fW) := by
  have GW : FnOk P w K mg base CX0 1 fW fdW ["number"] spWhole := ok_whole FW
  have bW : Binds K fdW ["number"] [] := fn_binds FW fun _ _ _ _ _ _ us hl => match us, hl with | [_], _ => rfl
  refine F.ok scLed (fun vs H Q E h => ?_) (fun cdv A outer s H vs Q E hr h => ?_)
  · obtain ⟨a, b, l, M, n, bl, bm, rfl, _⟩ := h
    rfl
  · obtain ⟨a, b, l, M, n, bl, bm, rfl, ha, hb, hl, hm, hM, hlb, hn, b1, b2, b3, hQ⟩ := h
    refine ⟨_, PSs.nox (pss_cons (ps_set (i := 3) scLed.nd rfl (.inl rfl) (pe_lst pa_nil)) (pss_cons (ps_for PassesOwn.never rfl (pi_range1 (by rfl) gR (pa_cons (pe_callB call_len_seq (by rfl) gL boot_len (pa_cons (pv 1) pa_nil)) pa_nil)) (pg_name (i := 4) scLed.nd rfl (.inr rfl))
      (pss_one (ps_expr (pe_bm PySem.F.plainAttrs_list PySem.F.slot_list_append PySem.F.type_list_append mt_append (pv 3) (pa_cons (pe_callL GW hr (i := 2) rfl (.inl rfl) FW.kp bW .nil pass0 (pa_cons (pe_callB (cr_sum rfl) (by rfl) gS (by decide +kernel) (pa_cons
        (pe_lc (own := [("number", 5), ("row", 6)]) (g := gTup K 2 (gCons (gName 5) (gCons (gName 6) gNil))) (tt := tYes) rfl scLed.nd (pi_zip (by rfl) gZ (pa_cons (pv 0) (pa_cons (pv 1) pa_nil))) (blkOk_by (N := nLed) (sc := defScope sLed) (by decide +kernel))
          (fun _ _ _ _ _ => pg_tup rfl (pgs_cons (pg_name (i := 5) scLed.nd rfl (.inl rfl)) (pgs_cons (pg_name (i := 6) scLed.nd rfl (.inl rfl)) pgs_nil))) (fun _ _ _ _ _ => pts_nil)
          (fun _ _ _ _ _ => pe_op op_mulW (pv 5) (pe_ix (r := rIxL K) ix_list (pv 6) (pv 4) (fun _ _ => rfl)))) pa_nil)) pa_nil)) pa_nil))))) (pss_one (ps_ret (pv 3))))), ?_⟩
    refine ⟨Nat.zero_le _, fun D hD => ?_⟩
    obtain ⟨ws, hws, pws⟩ := hb
    have sD := same_new (o := .lst []) hD
    have hwl : ws.length = n := by rw [← pd_len pws, hm]
    refine ⟨_, rfl, b, _, rfl, .inl (SqL.of (sD _ _ hws)), (ws.length : Int), rfl, by omega, by omega, for_range (lo := 0) (n := ((ws.length : Nat) : Int).toNat)
      (fun j σ H' => Same H H' ∧ (∃ v4, σ = [some (.ref a), some (.ref b), some (.ref fW), some (.ref D), v4, none, none]) ∧ H' D = some (.lst (((List.range j).map fun j => dot l (col M j)).map V.int)))
      ⟨sD, ⟨_, rfl⟩, upd_same⟩ ?_ ?_⟩
    · rintro j σ H1 hj ⟨s1, ⟨v4, rfl⟩, hD1⟩
      have hj : j < n := by omega
      rw [Int.zero_add]
      refine ⟨_, rfl, .inl ⟨rfl, _, SqL.of hD1⟩, rfl, _, rfl, _, rfl, a, b, l.map V.int, ws, rfl, SqL.of (s1 _ _ ha), SqL.of (s1 _ _ hws), fun E1 hE => lc_any (n := n)
        (fun i H' => Same H1 H' ∧ H' E1 = some (.lst ((((l.zip (col M j)).take i).map fun p => p.1 * p.2).map V.int))) ⟨same_new hE, upd_same⟩ (fun i H' hi h => ?_) (fun H' h => ?_) ?_ ?_⟩
      · have s1' := s1.trans h.1
        exact ⟨_, _, _, _, SqL.of (s1' _ _ ha), SqL.of (s1' _ _ hws), List.getElem?_eq_getElem (by rw [List.length_map]; omega), List.getElem?_eq_getElem (by omega)⟩
      · have s1' := s1.trans h.1
        exact ⟨_, _, SqL.of (s1' _ _ ha), SqL.of (s1' _ _ hws), .inl (by rw [List.length_map]; omega)⟩
      · rintro i v H2 H3 hi ⟨s2, hE2⟩ ⟨T, x, y, rfl, hT, rfl, fx, fy⟩
        have s12 := s1.trans s2
        have hx := fx _ (SqL.of (s12 _ _ ha))
        have hy := fy _ (SqL.of (s12 _ _ hws))
        obtain ⟨xi, hxi, rfl⟩ := iV_get hx
        obtain ⟨row, hrow, c, rfl, hc⟩ := pd_get pws hy
        obtain ⟨r1, r2⟩ := hM row (List.mem_of_getElem? hrow)
        have sT := same_new (o := .tup [.int xi, .ref c]) hT
        refine ⟨T, _, rfl, SqT.of upd_same, rfl, _, _, rfl, _, _, rfl, rfl, rfl, ?_⟩
        have hrj : j < row.length := by omega
        refine ⟨_, rfl, _, rfl, _, rfl, c, _, _, _, rfl, rfl, SqL.of ((s12.trans sT) _ _ hc), at_iV hrj, _, _, rfl, rfl, ?_, _, sT _ _ hE2, ?_, ?_⟩
        · refine wide_mul (hlb xi (List.mem_of_getElem? hxi)) (r2 _ ?_) b1 b2 b3
          rw [List.getD_eq_getElem?_getD, List.getElem?_eq_getElem hrj]
          exact List.getElem_mem hrj
        · refine small ?_
          rw [List.length_map, List.length_map, List.length_take]; omega
        · refine ⟨upd_keep (s2.trans sT) ?_, ?_⟩
          · exact hE
          · rw [upd_same]
            have hcj : (col M j)[i]? = some (row.getD j 0) := by
              unfold col
              rw [List.getElem?_map, hrow]
              rfl
            rw [dot_take hxi hcj, List.map_append]
            rfl
      · rintro H2 ⟨s2, hE2⟩
        have hz : (l.zip (col M j)).length = n := by
          unfold col
          rw [List.length_zip, List.length_map]; omega
        rw [List.take_of_length_le (by omega)] at hE2
        refine ⟨E1, _, rfl, SqL.of hE2, _, rfl, D, _, _, rfl, rfl, s2 _ _ hD1, ?_, ?_⟩
        · refine small ?_
          rw [List.length_map, List.length_map, List.length_range]; omega
        · refine ⟨upd_keep (s1.trans s2) hD, ⟨_, rfl⟩, ?_⟩
          rw [upd_same, List.range_succ, List.map_append, List.map_append]
          rfl
    · rintro σ H1 ⟨s1, ⟨v4, rfl⟩, hD1⟩
      refine ⟨_, rfl, hQ H1 D s1 hD ?_⟩
      unfold ledM LstI
      rw [hm, ← hwl]
      have : ((ws.length : Nat) : Int).toNat = ws.length := by omega
      rw [this] at hD1
      exact hD1
end
end Hue

set_option maxHeartbeats 4000000
namespace Hue
open PySem PySem.W PyProof.Rows L2
section
variable {P : Program} {w : World} {K : PySem.W.Frag} {mg : Str → Option Value} {base : Heap}
/-! ### product -/
abbrev sProd : Stmt := top 47
def prodM (A B : List (List Int)) : List (List Int) := A.map fun line => (List.range B.length).map fun j => dot line (col B j)
def spProd (fW : Addr) : Sp := fun vs H Q _ => ∃ (a b : Addr) (A B : List (List Int)) (n ba bb : Nat), vs = [.ref a, .ref b, .ref fW] ∧ MatAt H a A ∧ MatAt H b B ∧ A.length = n ∧ B.length = n ∧ (∀ r ∈ A, r.length = n ∧ Bnd ba r) ∧ (∀ r ∈ B, r.length = n ∧ Bnd bb r) ∧ n ≤ 100 ∧ 0 < ba ∧ 0 < bb ∧ ba + bb ≤ 1000000 ∧
  ∀ H' D, Same H H' → H D = none → MatAt H' D (prodM A B) → Q (.ref D) H'
abbrev nProd : List Str := ["one", "other", "trim", "line", "columns", "found", "place", "column", "left", "right"]
abbrev cScope (l : List (Str × NameKind)) : Scope := { kind := .function, names := l, isGenerator := false, isCoroutine := false }
theorem scProd : FnScope nProd ["one", "other", "trim"] (defScope sProd) := ⟨rfl, rfl, rfl, by decide +kernel, rfl, by decide +kernel, by decide +kernel⟩
theorem RRow.hid {Z : List Addr} {H : Hp} {l : List Int} {v : V} (h : RRow H l v) (k : ∀ b, LstI H b l → v = .ref b → b ∉ Z) : RRow (hide Z H) l v := by
  obtain ⟨b, e, h⟩ := h
  exact ⟨b, e, by show hide Z H b = _; rw [hide_out (k b h e)]; exact h⟩
theorem ok_prod {f fW : Addr} {fd fdW : FuncData} (F : FnP K "product" sProd f fd) (FW : FnP K "whole" sWhole fW fdW) (gR : mg "range" = none) (gL : mg "len" = none) (gS : mg "sum" = none) (gZ : mg "zip" = none) : FnOk P w K mg base CX0 2 f fd ["one", "other", "trim"] (spProd fW) := by
  have GW : FnOk P w K mg base CX0 1 fW fdW ["number"] spWhole := ok_whole FW
  have bW : Binds K fdW ["number"] [] := fn_binds FW fun _ _ _ _ _ _ us hl => match us, hl with | [_], _ => rfl
  refine F.ok scProd (fun vs H Q E h => ?_) (fun cdv A outer s H vs Q E hr h => ?_)
  · obtain ⟨a, b, A, B, n, ba, bb, rfl, _⟩ := h
    rfl
  · obtain ⟨a, b, MA, MB, n, ba, bb, rfl, ha, hb, hla, hlb, hA, hB, hn, b1, b2, b3, hQ⟩ := h
    refine ⟨_, PSs.nox (pss_cons (ps_setLc (i := 4) (own := [("place", 6)]) (g := gName 6) (tt := tYes) rfl scProd.nd rfl rfl (sw_true rfl rfl rfl (by decide +kernel)) (pi_range1 (by rfl) gR (pa_cons (pe_callB call_len_seq (by rfl) gL boot_len (pa_cons (pv 1) pa_nil)) pa_nil)) (blkOk_by (N := nProd) (sc := defScope sProd) (by decide +kernel)) (fun _ _ _ _ _ => pg_name (i := 6) scProd.nd rfl (.inr rfl)) (fun _ _ _ _ _ => pts_nil)
        (fun _ _ _ _ _ => pe_lc (own := [("line", 3)]) (g := gName 3) (tt := tYes) (te := tOp (rIxL K) (tVar 3) (tVar 6)) (wi := iList K (tVar 1)) rfl scProd.nd (pi_list (pv 1)) (blkOk_by (N := nProd) (sc := relS (cScope [(".0", .local), ("place", .cell), ("other", .free)]) (defScope sProd)) (by decide +kernel)) (fun _ _ _ _ _ => pg_name (i := 3) scProd.nd rfl (.inl rfl)) (fun _ _ _ _ _ => pts_nil) (fun _ _ _ _ _ => pe_ix (r := rIxL K) ix_list (pv 3) (pv 6) (fun _ _ => rfl))))
      (pss_cons (ps_set (i := 5) scProd.nd rfl (.inl rfl) (pe_lst pa_nil))
      (pss_cons (ps_for PassesOwn.never rfl (pi_list (pv 0)) (pg_name (i := 3) scProd.nd rfl (.inr rfl))
        (pss_one (ps_expr (pe_bm PySem.F.plainAttrs_list PySem.F.slot_list_append PySem.F.type_list_append mt_append (pv 5) (pa_cons
          (pe_lc (own := [("column", 7)]) (g := gName 7) (tt := tYes) rfl scProd.nd (pi_list (pv 4)) (blkOk_by (N := nProd) (sc := defScope sProd) (by decide +kernel)) (fun _ _ _ _ _ => pg_name (i := 7) scProd.nd rfl (.inl rfl)) (fun _ _ _ _ _ => pts_nil)
            (fun _ _ _ _ _ => pe_callL GW hr (i := 2) rfl (.inr (.inl rfl)) FW.kp bW .nil pass0 (pa_cons (pe_callB (r := rSum K) (cr_sum rfl) (by rfl) gS (by decide +kernel) (pa_cons
              (pe_lc (own := [("left", 8), ("right", 9)]) (g := gTup K 2 (gCons (gName 8) (gCons (gName 9) gNil))) (tt := tYes) (te := tOp (rI CMulW fun i j => .int (i * j)) (tVar 8) (tVar 9)) (wi := iZip K (tCons (tVar 3) (tCons (tVar 7) tNil))) rfl scProd.nd (pi_zip (by rfl) gZ (pa_cons (pv 3) (pa_cons (pv 7) pa_nil))) (blkOk_by (N := nProd) (sc := relS (cScope [(".0", .local), ("column", .local), ("sum", .globalImplicit), ("zip", .globalImplicit), ("line", .free), ("trim", .free)]) (defScope sProd)) (by decide +kernel))
                (fun _ _ _ _ _ => pg_tup rfl (pgs_cons (pg_name (i := 8) scProd.nd rfl (.inl rfl)) (pgs_cons (pg_name (i := 9) scProd.nd rfl (.inl rfl)) pgs_nil))) (fun _ _ _ _ _ => pts_nil) (fun _ _ _ _ _ => pe_op op_mulW (pv 8) (pv 9))) pa_nil)) pa_nil))) pa_nil)))))
      (pss_one (ps_ret (pv 5)))))), ?_⟩
    obtain ⟨wb, hwb, pwb⟩ := hb
    obtain ⟨wa, hwa, pwa⟩ := ha
    have hwbl : wb.length = n := by rw [← pd_len pwb, hlb]
    have hwal : wa.length = n := by rw [← pd_len pwa, hla]
    have hcol : ∀ j, (col MB j).length = n := fun j => by unfold col; rw [List.length_map, hlb]
    refine ⟨_, rfl, b, _, rfl, .inl (SqL.of hwb), (wb.length : Int), rfl, by omega, by omega, fun D hD => lc_range (lo := 0) (n := ((wb.length : Nat) : Int).toNat)
      (fun k H' => Same H H' ∧ ∃ vs, H' D = some (.lst vs) ∧ Paired (RRow (hide [D] H')) ((List.range k).map (col MB)) vs) ⟨same_new hD, [], upd_same, .nil⟩ ?_ ?_⟩
    · rintro k H1 hk ⟨s1, vs, hvs, pvs⟩
      have hk : k < n := by omega
      rw [Int.zero_add]
      refine ⟨rfl, _, rfl, b, rfl, ⟨_, SqL.of (s1 _ _ hwb)⟩, fun E1 hE => lc_list (K := K) (a := b) (xs := wb) (fun i H' => Same H1 H' ∧ H' E1 = some (.lst (((col MB k).take i).map V.int))) ⟨same_new hE, upd_same⟩ (fun i H' _ h => SqL.of ((s1.trans h.1) _ _ hwb)) ?_ ?_⟩
      · rintro i y H2 hi ⟨s2, hE2⟩
        obtain ⟨row, hrow, c, rfl, hc⟩ := pd_get pwb hi
        obtain ⟨r1, r2⟩ := hB row (List.mem_of_getElem? hrow)
        have hil : i < n := by have := (List.getElem?_eq_some_iff.mp hi).1; omega
        refine ⟨rfl, _, rfl, _, rfl, c, _, _, _, rfl, rfl, SqL.of ((s1.trans s2) _ _ hc), at_iV (by omega), _, hE2, ?_, ?_⟩
        · refine small ?_
          rw [List.length_map, List.length_take]; omega
        · refine ⟨upd_keep s2 hE, ?_⟩
          have hcj : (col MB k)[i]? = some (row.getD k 0) := by
            unfold col
            rw [List.getElem?_map, hrow]
            rfl
          rw [upd_same, take_snoc hcj, List.map_append]
          rfl
      · rintro H2 ⟨s2, hE2⟩
        rw [List.take_of_length_le (by rw [hcol]; omega)] at hE2
        have nED : E1 ≠ D := fun z => by rw [z, hvs] at hE; cases hE
        refine ⟨vs, s2 _ _ hvs, ?_, upd_keep (s1.trans s2) hD, _, upd_same, ?_⟩
        · refine small ?_
          rw [← pd_len pvs, List.length_map, List.length_range]; omega
        · rw [hide_upd (by simp), List.range_succ, List.map_append]
          refine pd_snoc (pd_imp pvs fun _ _ r => r.keep (hide_same [D] s2)) ⟨E1, rfl, ?_⟩
          show hide [D] H2 E1 = _
          rw [hide_out (by simpa using nED)]
          exact hE2
    · rintro H1 ⟨s1, vc, hvc, pvc⟩
      have hkn : ((wb.length : Nat) : Int).toNat = n := by omega
      rw [hkn] at pvc
      have hvcl : vc.length = n := by rw [← pd_len pvc, List.length_map, List.length_range]
      have pvc1 : Paired (RRow H1) ((List.range n).map (col MB)) vc := pd_imp pvc fun _ _ r => r.keep (hide_sub _ _)
      refine ⟨Nat.zero_le _, fun F hF => ?_⟩
      have sF := same_new (o := .lst []) hF
      refine ⟨_, rfl, a, rfl, ⟨_, SqL.of (sF _ _ (s1 _ _ hwa))⟩, for_list (K := K) (a := a) (xs := wa)
        (fun j σ H' => Same H1 H' ∧ (∃ v3, σ = [some (.ref a), some (.ref b), some (.ref fW), v3, some (.ref D), some (.ref F), none, none, none, none]) ∧ ∃ vs, H' F = some (.lst vs) ∧ Paired (RRow (hide [F] H')) ((MA.take j).map fun line => (List.range n).map fun j => dot line (col MB j)) vs)
        ⟨sF, ⟨_, rfl⟩, [], upd_same, .nil⟩ (fun j σ H' _ h => SqL.of ((s1.trans h.1) _ _ hwa)) ?_ ?_⟩
      · rintro j y σ H2 hj ⟨s2, ⟨v3, rfl⟩, vs, hvs, pvs⟩
        obtain ⟨line, hline, c, rfl, hc⟩ := pd_get pwa hj
        obtain ⟨la1, la2⟩ := hA line (List.mem_of_getElem? hline)
        have s12 := s1.trans s2
        have hc2 := s12 _ _ hc
        refine ⟨_, rfl, .inl ⟨rfl, _, SqL.of hvs⟩, _, rfl, D, rfl, ⟨_, SqL.of (s2 _ _ hvc)⟩, fun E1 hE => lc_list (K := K) (a := D) (xs := vc) (fun i H' => Same H2 H' ∧ H' E1 = some (.lst ((((List.range n).take i).map fun j => dot line (col MB j)).map V.int))) ⟨same_new hE, upd_same⟩ (fun i H' _ h => SqL.of ((s2.trans h.1) _ _ hvc)) ?_ ?_⟩
        · rintro i y H3 hi ⟨s3, hE3⟩
          obtain ⟨cc, hcc, e, rfl, he⟩ := pd_get pvc1 hi
          have hil : i < n := by have := (List.getElem?_eq_some_iff.mp hi).1; omega
          have hcc2 : cc = col MB i := by
            rw [List.getElem?_map, List.getElem?_range hil] at hcc
            exact (Option.some.inj hcc).symm
          subst hcc2
          have s23 := s2.trans s3
          refine ⟨rfl, rfl, _, rfl, _, rfl, c, e, line.map V.int, (col MB i).map V.int, rfl, SqL.of (s3 _ _ hc2), SqL.of (s23 _ _ he), fun G hG => lc_any (n := n)
            (fun u H' => Same H3 H' ∧ H' G = some (.lst ((((line.zip (col MB i)).take u).map fun p => p.1 * p.2).map V.int))) ⟨same_new hG, upd_same⟩ (fun u H' hu h => ?_) (fun H' h => ?_) ?_ ?_⟩
          · exact ⟨_, _, _, _, SqL.of (h.1 _ _ (s3 _ _ hc2)), SqL.of (h.1 _ _ (s23 _ _ he)), List.getElem?_eq_getElem (by rw [List.length_map]; omega), List.getElem?_eq_getElem (by rw [List.length_map, hcol]; omega)⟩
          · exact ⟨_, _, SqL.of (h.1 _ _ (s3 _ _ hc2)), SqL.of (h.1 _ _ (s23 _ _ he)), .inl (by rw [List.length_map]; omega)⟩
          · rintro u v H4 H5 hu ⟨s4, hG4⟩ ⟨T, x, y, rfl, hT, rfl, fx, fy⟩
            have hx := fx _ (SqL.of (s4 _ _ (s3 _ _ hc2)))
            have hy := fy _ (SqL.of (s4 _ _ (s23 _ _ he)))
            obtain ⟨xi, hxi, rfl⟩ := iV_get hx
            obtain ⟨yi, hyi, rfl⟩ := iV_get hy
            have sT := same_new (o := .tup [.int xi, .int yi]) hT
            refine ⟨T, _, rfl, SqT.of upd_same, rfl, _, _, rfl, _, _, rfl, rfl, rfl, ?_⟩
            refine ⟨_, rfl, _, rfl, _, _, rfl, rfl, ?_, _, sT _ _ hG4, ?_, ?_⟩
            · refine wide_mul (la2 xi (List.mem_of_getElem? hxi)) ?_ b1 b2 b3
              unfold col at hyi
              rw [List.getElem?_map] at hyi
              cases hr1 : MB[u]? with
              | none => rw [hr1] at hyi; cases hyi
              | some row =>
                rw [hr1] at hyi
                obtain ⟨r1, r2⟩ := hB row (List.mem_of_getElem? hr1)
                have : row.getD i 0 = yi := Option.some.inj hyi
                rw [← this]
                refine r2 _ ?_
                rw [List.getD_eq_getElem?_getD, List.getElem?_eq_getElem (by omega)]
                exact List.getElem_mem _
            · refine small ?_
              rw [List.length_map, List.length_map, List.length_take]; omega
            · refine ⟨upd_keep (s4.trans sT) hG, ?_⟩
              rw [upd_same, dot_take hxi hyi, List.map_append]
              rfl
          · rintro H4 ⟨s4, hG4⟩
            rw [List.take_of_length_le (by rw [List.length_zip, hcol]; omega)] at hG4
            refine ⟨G, _, rfl, SqL.of hG4, _, rfl, _, s4 _ _ hE3, ?_, ?_⟩
            · refine small ?_
              rw [List.length_map, List.length_map, List.length_take]; omega
            · refine ⟨upd_keep (s3.trans s4) hE, ?_⟩
              rw [upd_same, take_snoc (List.getElem?_range hil), List.map_append, List.map_append]
              rfl
        · rintro H3 ⟨s3, hE3⟩
          rw [List.take_of_length_le (by rw [List.length_range]; omega)] at hE3
          have nEF : E1 ≠ F := fun z => by rw [z, hvs] at hE; cases hE
          refine ⟨F, vs, _, rfl, rfl, s3 _ _ hvs, ?_, ?_⟩
          · refine small ?_
            rw [← pd_len pvs, List.length_map, List.length_take]; omega
          · refine ⟨upd_keep (s2.trans s3) hF, ⟨_, rfl⟩, _, upd_same, ?_⟩
            rw [hide_upd (by simp), take_snoc hline, List.map_append]
            refine pd_snoc (pd_imp pvs fun _ _ r => r.keep (hide_same [F] s3)) ⟨E1, rfl, ?_⟩
            show hide [F] H3 E1 = _
            rw [hide_out (by simpa using nEF)]
            exact hE3
      · rintro σ H2 ⟨s2, ⟨v3, rfl⟩, vs, hvs, pvs⟩
        have hF0 : H F = none := s1.free hF
        refine ⟨_, rfl, hQ H2 F (s1.trans s2) hF0 ⟨vs, hvs, ?_⟩⟩
        unfold prodM
        rw [hwal, List.take_of_length_le (by omega)] at pvs
        rw [hlb]
        exact pd_imp pvs fun _ _ r => r.keep (hide_sub _ _)
end
end Hue

set_option maxHeartbeats 4000000
namespace Hue
open PySem PySem.W PyProof.Rows L2
/-! ### sizes -/
theorem fal_any {q s k : Nat} (hq : q ≤ 100) (hs : s ≤ 100) : k ≤ 100 → (fal q s k).natAbs ≤ 2 ^ (9 * k) := by
  induction k with
  | zero => intro _; simp [fal]
  | succ k ih =>
    intro hk
    show (fal q s k * ((q : Int) - s - k)).natAbs ≤ 2 ^ (9 * (k + 1))
    rw [Int.natAbs_mul, show 9 * (k + 1) = 9 * k + 9 by omega, Nat.pow_add]
    exact Nat.mul_le_mul (ih (by omega)) (by omega)
theorem wsum_any {q : Nat} (hq : q ≤ 100) : ∀ {W : Wt}, (∀ x ∈ W, x.1.1 ≤ 100 ∧ x.1.2 ≤ 100) → (wsum q W).natAbs ≤ tot W * 2 ^ 900
  | [], _ => by simp [wsum, S, tot]
  | x :: W, h => by
    have ih := wsum_any hq (W := W) fun y hy => h y (by simp [hy])
    obtain ⟨h1, h2⟩ := h x (by simp)
    have hf := fal_any (k := x.1.2) hq h1 h2
    have hp : 2 ^ (9 * x.1.2) ≤ 2 ^ 900 := Nat.pow_le_pow_right (by decide) (by omega)
    have e : wsum q (x :: W) = (x.2 : Int) * fal q x.1.1 x.1.2 + wsum q W := by unfold wsum; rw [S_cons]
    have et : tot (x :: W) = x.2 + tot W := by simp [tot]
    rw [e, et, Nat.add_mul]
    have hm : ((x.2 : Int) * fal q x.1.1 x.1.2).natAbs ≤ x.2 * 2 ^ 900 := by
      rw [Int.natAbs_mul, Int.natAbs_natCast]
      exact Nat.mul_le_mul_left _ (Nat.le_trans hf hp)
    exact Nat.le_trans (Int.natAbs_add_le _ _) (Nat.add_le_add hm ih)
theorem wsum_lt {q : Nat} {W : Wt} (hq : q ≤ 100) (ok : WOk W) (ht : tot W ≤ 1000000) : (wsum q W).natAbs < 2 ^ 920 := by
  have h := wsum_any hq ok.sm
  have h2 : tot W * 2 ^ 900 ≤ 1000000 * 2 ^ 900 := Nat.mul_le_mul_right _ ht
  have h3 : (1000000 : Nat) * 2 ^ 900 < 2 ^ 20 * 2 ^ 900 := Nat.mul_lt_mul_of_pos_right (by decide) (Nat.two_pow_pos _)
  rw [← Nat.pow_add] at h3
  omega
theorem tsum_lt {q : Nat} {T : Steps} {t : List Nat} (hq : q ≤ 100) (nd : (T.map (·.1)).Nodup) (h : ∀ e ∈ T, WOk e.2.2 ∧ tot e.2.2 ≤ 1000000) : (tsum q T t).natAbs < 2 ^ 920 := by
  rcases tsum_look nd q t with ⟨a, W, h1, _, h2⟩ | ⟨_, h2⟩
  · rw [h2]
    obtain ⟨h3, h4⟩ := h _ h1
    exact wsum_lt hq h3 h4
  · rw [h2]
    exact Nat.two_pow_pos _
theorem StepsAt.lt {H : Hp} {s : Addr} {f : Nat → List Nat → Int} (h : StepsAt H s f) {q : Nat} (hq : q ≤ 100) (t : List Nat) : (f q t).natAbs < 2 ^ 920 := by
  obtain ⟨T, _, _, nd, hl, hs⟩ := h
  rw [← hs q t]
  exact tsum_lt hq nd fun e he => let ⟨_, b, c, _⟩ := hl e he; ⟨b, c⟩
/-- what stands for the labels t in a dict of labels' numbers -/
theorem StepsAt.look {H : Hp} {s : Addr} {f : Nat → List Nat → Int} (h : StepsAt H s f) (q : Nat) (t : List Nat) : ∃ kvs : List (List Key × V), H s = some (.dT kvs) ∧
    ((∃ a W, valV kvs (kL t) = some (.ref a) ∧ H a = some (.dT (wkvs W)) ∧ WOk W ∧ tot W ≤ 1000000 ∧ W.length ≤ 1000000 ∧ wsum q W = f q t) ∨ (valV kvs (kL t) = none ∧ f q t = 0)) := by
  obtain ⟨T, h1, _, nd, hl, hs⟩ := h
  refine ⟨_, h1, ?_⟩
  rcases tsum_look nd q t with ⟨a, W, g1, g2, g3⟩ | ⟨g2, g3⟩
  · obtain ⟨l1, l2, l3, l4⟩ := hl _ g1
    exact .inl ⟨a, W, g2, l1, l2, l3, l4, by rw [← hs, g3]⟩
  · exact .inr ⟨g2, by rw [← hs, g3]⟩
theorem find_zip {α β : Type} {P : α → Bool} : ∀ {l : List α} {m : List β}, l.length = m.length → (∃ x ∈ l, P x = true) → ∃ x y, (x, y) ∈ l.zip m ∧ P x = true ∧ (l.zip m).find? (fun p => P p.1) = some (x, y)
  | [], _, _, h => by obtain ⟨x, hx, _⟩ := h; cases hx
  | x :: l, [], e, _ => by cases e
  | x :: l, y :: m, e, h => by
    by_cases hx : P x = true
    · exact ⟨x, y, by simp, hx, by rw [List.zip_cons_cons, List.find?_cons]; simp [hx]⟩
    · have h' : ∃ z ∈ l, P z = true := by
        obtain ⟨z, hz, pz⟩ := h
        rcases List.mem_cons.mp hz with rfl | hz
        · exact absurd pz hx
        · exact ⟨z, hz, pz⟩
      obtain ⟨a, b, h1, h2, h3⟩ := find_zip (l := l) (m := m) (by simpa using e) h'
      exact ⟨a, b, by rw [List.zip_cons_cons]; exact List.mem_cons_of_mem _ h1, h2, by rw [List.zip_cons_cons, List.find?_cons]; simp only [Bool.not_eq_true] at hx; rw [hx]; exact h3⟩
/-- what stands for a state in the dict of a piece's steps -/
theorem FoundAt.look {H : Hp} {d : Addr} {St : List (List Nat)} {F : List Nat → Nat → List Nat → Int} (h : FoundAt H d St F) {s : List Nat} (hs : s ∈ St) : ∃ (kvs : List (List Key × V)) (a : Addr), H d = some (.dT kvs) ∧ valV kvs (kL s) = some (.ref a) ∧ StepsAt H a (F s) := by
  obtain ⟨as, h1, h2, h3⟩ := h
  obtain ⟨x, y, g1, g2, g3⟩ := find_zip (P := fun z => decide (kL z = kL s)) (l := St) (m := as) h1.symm ⟨s, hs, decide_eq_true rfl⟩
  have ex : x = s := kL_inj.mp (of_decide_eq_true g2)
  subst ex
  refine ⟨_, y, h2, ?_, h3 _ _ g1⟩
  unfold valV
  rw [List.find?_map]
  show (Option.map _ (Option.map _ ((St.zip as).find? fun p => decide (kL p.1 = kL x)))) = _
  rw [g3]
  rfl
/-! ### == of tuples of numbers -/
def dN (l : List Nat) : List PyData := l.map fun (n : Nat) => PyData.int (n : Int)
theorem dpAll_nV {K : PySem.W.Frag} {H : Hp} : ∀ l : List Nat, DpAll K H (l.map nV) (dN l)
  | [] => .nil
  | n :: l => .cons (.int _) (dpAll_nV l)
theorem dN_lay : ∀ l : List Nat, PyData.canLayAll0 (dN l) = true
  | [] => by simp [dN, PyData.canLayAll0]
  | n :: l => by have := dN_lay l; simp only [dN, List.map_cons, PyData.canLayAll0, PyData.canLay0, Bool.true_and]; exact this
theorem dN_depth : ∀ l : List Nat, PyData.depthAll (dN l) = 0
  | [] => by simp [dN, PyData.depthAll]
  | n :: l => by have := dN_depth l; simp only [dN, List.map_cons, PyData.depthAll, PyData.depth] at this ⊢; omega
theorem dN_eqv : ∀ l m : List Nat, PyData.eqvAll (dN l) (dN m) = decide (l = m)
  | [], [] => by simp [dN, PyData.eqvAll]
  | [], _ :: _ => by simp [dN, PyData.eqvAll]
  | _ :: _, [] => by simp [dN, PyData.eqvAll]
  | a :: l, b :: m => by
    have := dN_eqv l m
    unfold dN at this ⊢
    simp only [List.map_cons, PyData.eqvAll, PyData.eqv, this]
    by_cases h : a = b
    · subst h
      by_cases h2 : l = m <;> simp [h2]
    · have : ¬ ((a : Int) = (b : Int)) := by omega
      simp [h, this]
theorem tup_shaped (l : List Nat) : SeqAt.shaped (.tuple (dN l)) = true := by
  unfold SeqAt.shaped
  rw [Bool.and_eq_true]
  refine ⟨by simp only [PyData.canLay0]; exact dN_lay l, decide_eq_true ?_⟩
  simp only [PyData.depth, dN_depth]
  decide
def rEqN : R2 := fun x y H Q => ∃ a b l m, x = .ref a ∧ y = .ref b ∧ TupN H a l ∧ TupN H b m ∧ Q (.bl (decide (l = m))) H
theorem op_eqN {X : Cx} (hu : X.A.units + 64 < cLine) : OpR X (compareOp .Eq) rEqN :=
  opr_imp (op_eqD hu) fun x y H Q h => by
    obtain ⟨a, b, l, m, rfl, rfl, ha, hb, q⟩ := h
    refine ⟨.tuple (dN l), .tuple (dN m), .tup (SqT.of ha) (dpAll_nV l), .tup (SqT.of hb) (dpAll_nV m), tup_shaped l, tup_shaped m, ?_⟩
    have e : PyData.eqv (.tuple (dN l)) (.tuple (dN m)) = decide (l = m) := by simp only [PyData.eqv]; exact dN_eqv l m
    rw [e]
    exact q
/-! ### a run -/
structure RunC (K : PySem.W.Frag) (C : Addr) : Prop where
  cl : Cls K C
  nSt : NoAttr K C "states"
  nPc : NoAttr K C "pieces"
  nS : NoAttr K C "starts"
  nE : NoAttr K C "ends"
def runF (aS aP a1 a2 : Addr) : List (Str × V) := [("states", .ref aS), ("pieces", .ref aP), ("starts", .ref a1), ("ends", .ref a2)]
theorem runF_st (aS aP a1 a2 : Addr) : (runF aS aP a1 a2).lookup ("states" : Str) = some (.ref aS) := rfl
theorem runF_pc (aS aP a1 a2 : Addr) : (runF aS aP a1 a2).lookup ("pieces" : Str) = some (.ref aP) := rfl
theorem runF_s (aS aP a1 a2 : Addr) : (runF aS aP a1 a2).lookup ("starts" : Str) = some (.ref a1) := rfl
theorem runF_e (aS aP a1 a2 : Addr) : (runF aS aP a1 a2).lookup ("ends" : Str) = some (.ref a2) := rfl
structure RunD where
  r : Nat
  m : Nat
  row : List Pc
  St : List (List Nat)
  f : Nat → List Nat → Int
  e : Nat → List Nat → Int
structure RunD.Ok (D : RunD) : Prop where
  r1 : 1 ≤ D.r
  r2 : D.r ≤ 2
  m2 : D.m ≤ 2
  st : D.St.Perm ((parts D.r D.m).map (·.1))
  len : D.row.length ≤ 10
def RFound (H : Hp) (r m : Nat) (pc : Pc) (v : V) : Prop := ∃ d Sd, v = .ref d ∧ Sd.Perm ((parts r m).map (·.1)) ∧ FoundAt H d Sd fun s q t => tab q r m pc s t
theorem RFound.keep {H H' : Hp} {r m : Nat} {pc : Pc} {v : V} (k : Same H H') (h : RFound H r m pc v) : RFound H' r m pc v := by
  obtain ⟨d, Sd, a, b, c⟩ := h
  exact ⟨d, Sd, a, b, c.keep k⟩
def PcsAt (H : Hp) (a : Addr) (r m : Nat) (row : List Pc) : Prop := ∃ vs, H a = some (.lst vs) ∧ Paired (RFound H r m) row vs
theorem PcsAt.keep {H H' : Hp} {a : Addr} {r m : Nat} {row : List Pc} (k : Same H H') (h : PcsAt H a r m row) : PcsAt H' a r m row := by
  obtain ⟨vs, h1, h2⟩ := h
  exact ⟨vs, k _ _ h1, pd_imp h2 fun _ _ r => r.keep k⟩
def RunAt (C : Addr) (H : Hp) (p : Addr) (D : RunD) : Prop := D.Ok ∧ ∃ dx aS aP a1 a2, H p = some (.ins C dx (runF aS aP a1 a2)) ∧ TupsAt H aS D.St ∧ PcsAt H aP D.r D.m D.row ∧ StepsAt H a1 D.f ∧ StepsAt H a2 D.e
theorem RunAt.keep {C : Addr} {H H' : Hp} {p : Addr} {D : RunD} (k : Same H H') (h : RunAt C H p D) : RunAt C H' p D := by
  obtain ⟨ok, dx, aS, aP, a1, a2, h1, h2, h3, h4, h5⟩ := h
  exact ⟨ok, dx, aS, aP, a1, a2, k _ _ h1, h2.keep k, h3.keep k, h4.keep k, h5.keep k⟩
theorem PcsAt.lt {H : Hp} {a : Addr} {r m : Nat} {row : List Pc} {St : List (List Nat)} (h : PcsAt H a r m row) (hS : St.Perm ((parts r m).map (·.1))) {q : Nat} (hq : q ≤ 100) : ∀ p ∈ row, ∀ s ∈ St, ∀ t ∈ St, (tab q r m p s t).natAbs < 2 ^ 920 := by
  obtain ⟨vs, h1, h2⟩ := h
  intro p hp s hs t _
  obtain ⟨i, hi⟩ := List.getElem?_of_mem hp
  obtain ⟨v, _, d, Sd, rfl, g1, g2⟩ := pd_getL h2 hi
  obtain ⟨kvs, b, _, _, g3⟩ := g2.look (s := s) ((hS.trans g1.symm).mem_iff.mp hs)
  exact g3.lt hq t
theorem rowT_lt {q r m : Nat} {St : List (List Nat)} {row : List Pc} (hl : St.length ≤ 16) (h : ∀ p ∈ row, ∀ s ∈ St, ∀ t ∈ St, (tab q r m p s t).natAbs < 2 ^ 920) : ∀ j, j ≤ row.length → ∀ s ∈ St, ∀ t ∈ St, (rowT q r m St (row.take j) s t).natAbs < 2 ^ (1 + 924 * j)
  | 0, _ => fun s _ t _ => mI_bound s t
  | j + 1, hj => by
    have hx : row[j]? = some row[j] := List.getElem?_eq_getElem hj
    have e : rowT q r m St (row.take (j + 1)) = mMul St (rowT q r m St (row.take j)) (tab q r m row[j]) := by
      unfold rowT
      rw [take_snoc hx, List.foldl_append]
      rfl
    rw [e, show 1 + 924 * (j + 1) = (1 + 924 * j) + 920 + 4 by omega]
    exact mMul_bound hl (rowT_lt hl h j (by omega)) (h _ (List.getElem_mem _))
end Hue

set_option maxHeartbeats 4000000
namespace Hue
open PySem PySem.W PyProof.Rows L2
section
variable {P : Program} {w : World} {K : PySem.W.Frag} {mg : Str → Option Value} {base : Heap}
/-! ### table_at -/
abbrev sTab : Stmt := inClass (top 46) 2
def spTab (K : PySem.W.Frag) (fW : Addr) : Sp := fun vs H Q _ => ∃ (C p : Addr) (D : RunD) (q : Nat), vs = [.ref p, nV q, .ref fW] ∧ RunC K C ∧ RunAt C H p D ∧ q ≤ 100 ∧
  ∀ H' a, Same H H' → H a = none → MatAt H' a (D.St.map fun s => D.St.map (rowT q D.r D.m D.St D.row s)) → Q (.ref a) H'
abbrev nTab : List Str := ["self", "hues", "trim", "state", "found", "steps", "table", "lots", "other", "target"]
theorem scTab : FnScope nTab ["self", "hues", "trim"] (defScope sTab) := ⟨rfl, rfl, rfl, by decide +kernel, rfl, by decide +kernel, by decide +kernel⟩
structure GRun (K : PySem.W.Frag) (mg : Str → Option Value) extends GTab K mg where
  fW : Addr
  fdW : FuncData
  FW : FnP K "whole" sWhole fW fdW
  gW : mg "whole" = some (.ref fW)
  fX : Addr
  fdX : FuncData
  FX : FnP K "number_of" sNumber fX fdX
  gX : mg "number_of" = some (.ref fX)
  fA : Addr
  fdA : FuncData
  FA : FnP K "fallen" sFallen fA fdA
  gA : mg "fallen" = some (.ref fA)
  fD : Addr
  fdD : FuncData
  FD : FnP K "product" sProd fD fdD
  gD : mg "product" = some (.ref fD)
  fL : Addr
  fdL : FuncData
  FL : FnP K "led" sLed fL fdL
  gL : mg "led" = some (.ref fL)
  sum : mg "sum" = none
  zip : mg "zip" = none
  int : mg "int" = none
theorem ok_tab {f : Addr} {fd : FuncData} (F : FunD K "table_at" "Run.table_at" (defArgs sTab) (defBody sTab) (defScope sTab) [] [] f fd) (G : GRun K mg) : FnOk P w K mg base CX0 3 f fd ["self", "hues", "trim"] (spTab K G.fW) := by
  have GW : FnOk P w K mg base CX0 1 G.fW G.fdW ["number"] spWhole := ok_whole G.FW
  have bW : Binds K G.fdW ["number"] [] := fn_binds G.FW fun _ _ _ _ _ _ us hl => match us, hl with | [_], _ => rfl
  have GN : FnOk P w K mg base CX0 2 G.fX G.fdX ["weights", "hues"] spNumber := ok_number G.FX G.FA G.gA G.range G.sum
  have bN : Binds K G.fdX ["weights", "hues"] [] := fn_binds G.FX fun _ _ _ _ _ _ us hl => match us, hl with | [_, _], _ => rfl
  have GD : FnOk P w K mg base CX0 2 G.fD G.fdD ["one", "other", "trim"] (spProd G.fW) := ok_prod G.FD G.FW G.range G.len G.sum G.zip
  have bD : Binds K G.fdD ["one", "other", "trim"] [] := fn_binds G.FD fun _ _ _ _ _ _ us hl => match us, hl with | [_, _, _], _ => rfl
  refine F.ok scTab (fun vs H Q E h => ?_) (fun cdv A outer s H vs Q E hr h => ?_)
  · obtain ⟨C, p, D, q, rfl, _⟩ := h
    rfl
  · obtain ⟨C, p, D, q, rfl, rc, hp, hq, hQ⟩ := h
    have hu := hu_of hr
    have hr1 : Room 1 _ := hr.mono (by decide)
    refine ⟨_, PSs.nox (pss_cons (ps_setLc (i := 4) (own := [("state", 3)]) (g := gName 3) (tt := tYes) rfl scTab.nd rfl rfl (sw_true rfl rfl rfl (by decide +kernel)) (pi_list (pe_fld (pv 0) rfl)) (blkOk_by (N := nTab) (sc := defScope sTab) (by decide +kernel)) (fun _ _ _ _ _ => pg_name (i := 3) scTab.nd rfl (.inr rfl)) (fun _ _ _ _ _ => pts_nil)
        (fun _ _ _ _ _ => pe_lc (own := [("other", 8)]) (g := gName 8) (tt := tYes) (wi := iList K (tFld K (tVar 0) "states")) rfl scTab.nd (pi_list (pe_fld (pv 0) rfl)) (blkOk_by (N := nTab) (sc := relS (cScope [(".0", .local), ("state", .cell), ("self", .free)]) (defScope sTab)) (by decide +kernel)) (fun _ _ _ _ _ => pg_name (i := 8) scTab.nd rfl (.inl rfl)) (fun _ _ _ _ _ => pts_nil)
          (fun _ _ _ _ _ => pe_callTy call_int1 (by rfl) G.int (by decide +kernel) (pa_cons (pe_cmpR (op_eqN hr.units) (pv 3) (pv 8) (nomark _)) pa_nil))))
      (pss_cons (ps_for PassesOwn.never rfl (pi_list (pe_fld (pv 0) rfl)) (pg_name (i := 5) scTab.nd rfl (.inl rfl))
        (pss_cons (ps_set (i := 6) scTab.nd rfl (.inl rfl) (pe_lst pa_nil))
        (pss_cons (ps_for PassesOwn.never rfl (pi_list (pe_fld (pv 0) rfl)) (pg_name (i := 3) scTab.nd rfl (.inl rfl))
          (pss_cons (ps_set (i := 7) scTab.nd rfl (.inr rfl) (pe_dget hu (pv 5) (pv 3) (fun _ _ => rfl)))
          (pss_one (ps_expr (pe_bm PySem.F.plainAttrs_list PySem.F.slot_list_append PySem.F.type_list_append mt_append (pv 6) (pa_cons
            (pe_lc (own := [("target", 9)]) (g := gName 9) (tt := tYes) rfl scTab.nd (pi_list (pe_fld (pv 0) rfl)) (blkOk_by (N := nTab) (sc := defScope sTab) (by decide +kernel)) (fun _ _ _ _ _ => pg_name (i := 9) scTab.nd rfl (.inl rfl)) (fun _ _ _ _ _ => pts_nil)
              (fun _ _ _ _ _ => pe_callL GW hr1 (i := 2) rfl (.inr (.inl rfl)) G.FW.kp bW .nil pass0 (pa_cons (pe_call GN hr (by rfl) G.gX G.FX.kp bN .nil pass0 (pa_cons (pe_dget2 hu (pv 7) (pv 9) pe_dnewT ⟨rfl, rfl, rfl, rfl⟩) (pa_cons (pv 1) pa_nil))) pa_nil))) pa_nil))))))
        (pss_one (ps_set (i := 4) scTab.nd rfl (.inl rfl) (pe_call GD hr (by rfl) G.gD G.FD.kp bD .nil pass0 (pa_cons (pv 4) (pa_cons (pv 6) (pa_cons (pv 2) pa_nil)))))))))
      (pss_one (ps_ret (pv 4))))), ?_⟩
    obtain ⟨ok, dx, aS, aP, a1, a2, hI, ⟨ws, hws, pws⟩, ⟨ps, hps, pps⟩, hs1, hs2⟩ := hp
    have hSl := steps_of_perm_len ok.st ok.r2 ok.m2
    have hwl : ws.length = D.St.length := (pd_len pws).symm
    have hpl : ps.length = D.row.length := (pd_len pps).symm
    have hnd : D.St.Nodup := (parts_states ok.st).nd
    refine ⟨_, rfl, p, C, dx, _, _, rfl, hI, rc.cl, rc.nSt, runF_st aS aP a1 a2, aS, rfl, ⟨_, SqL.of hws⟩, fun F0 hF0 => lc_list (K := K) (a := aS) (xs := ws)
      (fun k H' => Same H H' ∧ ∃ vs, H' F0 = some (.lst vs) ∧ Paired (RRow (hide [F0] H')) ((D.St.take k).map fun s => D.St.map (mI s)) vs) ⟨same_new hF0, [], upd_same, .nil⟩ (fun i H' _ h => SqL.of (h.1 _ _ hws)) ?_ ?_⟩
    · rintro k y H1 hk ⟨s1, vs, hvs, pvs⟩
      obtain ⟨st, hst, b, rfl, hb⟩ := pd_get pws hk
      refine ⟨rfl, _, rfl, p, C, dx, _, _, rfl, s1 _ _ hI, rc.cl, rc.nSt, runF_st aS aP a1 a2, aS, rfl, ⟨_, SqL.of (s1 _ _ hws)⟩, fun E1 hE => lc_list (K := K) (a := aS) (xs := ws) (fun i H' => Same H1 H' ∧ H' E1 = some (.lst (((D.St.take i).map (mI st)).map V.int))) ⟨same_new hE, upd_same⟩ (fun i H' _ h => SqL.of ((s1.trans h.1) _ _ hws)) ?_ ?_⟩
      · rintro i y H2 hi ⟨s2, hE2⟩
        obtain ⟨tt, htt, c, rfl, hc⟩ := pd_get pws hi
        have s12 := s1.trans s2
        refine ⟨rfl, _, rfl, _, rfl, b, c, st, tt, rfl, rfl, hb.keep s12, hc.keep s12, .inr ⟨_, rfl, _, hE2, ?_, ?_⟩⟩
        · refine small ?_
          rw [List.length_map, List.length_map, List.length_take]; omega
        · refine ⟨upd_keep s2 hE, ?_⟩
          rw [upd_same, take_snoc htt, List.map_append, List.map_append]
          have : (V.int (if decide (st = tt) = true then 1 else 0)) = V.int (mI st tt) := by
            unfold mI
            by_cases z : st = tt <;> simp [z]
          rw [this]
          rfl
      · rintro H2 ⟨s2, hE2⟩
        rw [List.take_of_length_le (by omega)] at hE2
        have nEF : E1 ≠ F0 := fun z => by rw [z, hvs] at hE; cases hE
        refine ⟨vs, s2 _ _ hvs, ?_, upd_keep (s1.trans s2) hF0, _, upd_same, ?_⟩
        · refine small ?_
          rw [← pd_len pvs, List.length_map, List.length_take]; omega
        · rw [hide_upd (by simp), take_snoc hst, List.map_append]
          refine pd_snoc (pd_imp pvs fun _ _ r => r.keep (hide_same [F0] s2)) ⟨E1, rfl, ?_⟩
          show hide [F0] H2 E1 = _
          rw [hide_out (by simpa using nEF)]
          exact hE2
    · rintro H1 ⟨s1, v0, hv0, pv0⟩
      rw [List.take_of_length_le (by omega)] at pv0
      have mat0 : MatAt H1 F0 (D.St.map fun s => D.St.map (mI s)) := ⟨v0, hv0, pd_imp pv0 fun _ _ r => r.keep (hide_sub _ _)⟩
      refine ⟨_, rfl, p, C, dx, _, _, rfl, s1 _ _ hI, rc.cl, rc.nPc, runF_pc aS aP a1 a2, aP, rfl, ⟨_, SqL.of (s1 _ _ hps)⟩, for_list (K := K) (a := aP) (xs := ps)
        (fun j σ H' => Same H H' ∧ (∃ v3 M v5 v6 v7, σ = [some (.ref p), some (nV q), some (.ref G.fW), v3, some (.ref M), v5, v6, v7, none, none] ∧ H M = none ∧ MatAt H' M (D.St.map fun s => D.St.map (rowT q D.r D.m D.St (D.row.take j) s))))
        ⟨s1, _, _, _, _, _, rfl, hF0, mat0⟩ (fun j σ H' _ h => SqL.of (h.1 _ _ hps)) ?_ ?_⟩
      · rintro j y σ H2 hj ⟨s2, v3, M, v5, v6, v7, rfl, hM0, hM⟩
        obtain ⟨pc, hpc, d, Sd, rfl, perm, hd⟩ := pd_get pps hj
        have hjl : j < D.row.length := by have := (List.getElem?_eq_some_iff.mp hj).1; omega
        refine ⟨Nat.zero_le _, fun T hT => ?_⟩
        have s3 := same_new (o := .lst []) hT
        have s23 := s2.trans s3
        have hT0 : H T = none := s2.free hT
        refine ⟨_, rfl, p, C, dx, _, _, rfl, s23 _ _ hI, rc.cl, rc.nSt, runF_st aS aP a1 a2, aS, rfl, ⟨_, SqL.of (s23 _ _ hws)⟩, for_list (K := K) (a := aS) (xs := ws)
          (fun k σ H' => Same H2 H' ∧ (∃ v3 v7, σ = [some (.ref p), some (nV q), some (.ref G.fW), v3, some (.ref M), some (.ref d), some (.ref T), v7, none, none]) ∧ ∃ vs, H' T = some (.lst vs) ∧ Paired (RRow (hide [T] H')) ((D.St.take k).map fun s => D.St.map (tab q D.r D.m pc s)) vs)
          ⟨s3, ⟨_, _, rfl⟩, [], upd_same, .nil⟩ (fun k σ H' _ h => SqL.of ((s2.trans h.1) _ _ hws)) ?_ ?_⟩
        · rintro k y σ H3 hk ⟨s4, ⟨v3, v7, rfl⟩, vs, hvs, pvs⟩
          obtain ⟨st, hst, b, rfl, hb⟩ := pd_get pws hk
          have s24 := s2.trans s4
          obtain ⟨kvs, lo, hk1, hk2, hlo⟩ := (hd.keep s24).look (s := st) ((ok.st.trans perm.symm).mem_iff.mp (List.mem_of_getElem? hst))
          refine ⟨_, rfl, _, rfl, d, .ref lo, rfl, ?_, ?_⟩
          · have := DGet.t hk1 (kL_tup (hb.keep s24))
            rw [hk2] at this
            exact this
          refine ⟨_, rfl, .inl ⟨rfl, _, SqL.of hvs⟩, _, rfl, p, C, dx, _, _, rfl, s24 _ _ hI, rc.cl, rc.nSt, runF_st aS aP a1 a2, aS, rfl, ⟨_, SqL.of (s24 _ _ hws)⟩, fun E1 hE => lc_list (K := K) (a := aS) (xs := ws)
            (fun i H' => Same H3 H' ∧ H' E1 = some (.lst (((D.St.take i).map (tab q D.r D.m pc st)).map V.int))) ⟨same_new hE, upd_same⟩ (fun i H' _ h => SqL.of ((s24.trans h.1) _ _ hws)) ?_ ?_⟩
          · rintro i y H4 hi ⟨s5, hE4⟩
            obtain ⟨tg, htg, c, rfl, hc⟩ := pd_get pws hi
            have s25 := s24.trans s5
            obtain ⟨ls, hl1, hl2⟩ := (hlo.keep s5).look q tg
            refine ⟨rfl, rfl, _, rfl, lo, rfl, .inr ⟨_, Rd.of hl1⟩, _, rfl, fun pn hpn => ?_⟩
            have s6 := same_new (o := .dT []) hpn
            refine ⟨_, DGet.t (s6 _ _ hl1) (kL_tup ((hc.keep s25).keep s6)), ?_⟩
            have fin : ∀ (i' : Int) (H5 : Hp), i' = tab q D.r D.m pc st tg → Same H4 H5 → ∃ acc, H5 E1 = some (.lst acc) ∧ acc.length < sizeLine ∧ (Same H3 (upd H5 E1 (.lst (acc ++ [V.int i']))) ∧ upd H5 E1 (.lst (acc ++ [V.int i'])) E1 = some (.lst (((D.St.take (i + 1)).map (tab q D.r D.m pc st)).map V.int))) := fun i' H5 e s7 => by
              refine ⟨_, s7 _ _ hE4, ?_, upd_keep (s5.trans s7) hE, ?_⟩
              · refine small ?_
                rw [List.length_map, List.length_map, List.length_take]; omega
              · rw [upd_same, take_snoc htg, List.map_append, List.map_append, e]
                rfl
            rcases hl2 with ⟨aW, W, g1, g2, g3, g4, g5, g6⟩ | ⟨g1, g2⟩
            · rw [g1]
              exact ⟨_, rfl, aW, W, q, rfl, s6 _ _ g2, g3, g4, g5, hq, fun H5 s7 => ⟨_, rfl, fin _ H5 g6 (s6.trans s7)⟩⟩
            · rw [g1]
              exact ⟨_, rfl, pn, [], q, rfl, upd_same, ⟨by simp, by simp⟩, Nat.zero_le _, Nat.zero_le _, hq, fun H5 s7 => ⟨_, rfl, fin _ H5 (by rw [g2]; rfl) (s6.trans s7)⟩⟩
          · rintro H4 ⟨s5, hE4⟩
            rw [List.take_of_length_le (by omega)] at hE4
            have nET : E1 ≠ T := fun z => by rw [z, hvs] at hE; cases hE
            refine ⟨T, vs, _, rfl, rfl, s5 _ _ hvs, ?_, ?_⟩
            · refine small ?_
              rw [← pd_len pvs, List.length_map, List.length_take]; omega
            · refine ⟨upd_keep (s4.trans s5) hT, ⟨_, _, rfl⟩, _, upd_same, ?_⟩
              rw [hide_upd (by simp), take_snoc hst, List.map_append]
              refine pd_snoc (pd_imp pvs fun _ _ r => r.keep (hide_same [T] s5)) ⟨E1, rfl, ?_⟩
              show hide [T] H4 E1 = _
              rw [hide_out (by simpa using nET)]
              exact hE4
        · rintro σ H3 ⟨s4, ⟨v3, v7, rfl⟩, vs, hvs, pvs⟩
          rw [List.take_of_length_le (by omega)] at pvs
          have s24 := s2.trans s4
          have hlt := PcsAt.lt (show PcsAt H aP D.r D.m D.row from ⟨ps, hps, pps⟩) ok.st hq
          refine ⟨_, rfl, _, rfl, _, rfl, M, T, _, _, D.St.length, 1 + 924 * j, 920, rfl, hM.keep s4, ⟨vs, hvs, pd_imp pvs fun _ _ r => r.keep (hide_sub _ _)⟩, by rw [List.length_map], by rw [List.length_map], ?_, ?_, by omega, by omega, by omega, ?_, fun H4 M' s5 hM' hmat => ?_⟩
          · intro l hl
            obtain ⟨st, hst, rfl⟩ := List.mem_map.mp hl
            refine ⟨by rw [List.length_map], fun x hx => ?_⟩
            obtain ⟨tg, htg, rfl⟩ := List.mem_map.mp hx
            exact rowT_lt hSl hlt j (by omega) st hst tg htg
          · intro l hl
            obtain ⟨st, hst, rfl⟩ := List.mem_map.mp hl
            refine ⟨by rw [List.length_map], fun x hx => ?_⟩
            obtain ⟨tg, htg, rfl⟩ := List.mem_map.mp hx
            exact hlt pc (List.mem_of_getElem? hpc) st hst tg htg
          · have := ok.len
            omega
          · refine ⟨s24.trans s5, _, M', _, _, _, rfl, s24.free hM', ?_⟩
            have e : prodM (D.St.map fun s => D.St.map (rowT q D.r D.m D.St (D.row.take j) s)) (D.St.map fun s => D.St.map (tab q D.r D.m pc s)) = D.St.map fun s => D.St.map (rowT q D.r D.m D.St (D.row.take (j + 1)) s) := by
              refine Eq.trans (prod_map D.St _ _) ?_
              have : rowT q D.r D.m D.St (D.row.take (j + 1)) = mMul D.St (rowT q D.r D.m D.St (D.row.take j)) (tab q D.r D.m pc) := by
                unfold rowT
                rw [take_snoc hpc, List.foldl_append]
                rfl
              rw [this]
            rw [← e]
            exact hmat
      · rintro σ H2 ⟨s2, v3, M, v5, v6, v7, rfl, hM0, hM⟩
        rw [List.take_of_length_le (by omega)] at hM
        exact ⟨_, rfl, hQ H2 M s2 hM0 hM⟩
end
end Hue

set_option maxHeartbeats 4000000
namespace Hue
open PySem PySem.W PyProof.Rows L2
theorem hid_ins {H : Hp} {p C dx b : Addr} {fs : List (Str × V)} {o : HO} (hp : H p = some (.ins C dx fs)) (hb : H b = some o) (no : ∀ C dx fs, o ≠ .ins C dx fs) : hide [p] H b = some o := by
  rw [hide_out]
  · exact hb
  · intro z
    rw [List.mem_singleton.mp z, hp] at hb
    exact no _ _ _ (Option.some.inj hb).symm
theorem TupsAt.hid {H : Hp} {p C dx D : Addr} {fs : List (Str × V)} {l : List (List Nat)} (hp : H p = some (.ins C dx fs)) (h : TupsAt H D l) : TupsAt (hide [p] H) D l := by
  obtain ⟨vs, h1, h2⟩ := h
  refine ⟨vs, hid_ins hp h1 (fun _ _ _ z => nomatch z), pd_imp h2 fun x v r => ?_⟩
  obtain ⟨a, e, h⟩ := r
  exact ⟨a, e, hid_ins hp h fun _ _ _ z => nomatch z⟩
theorem hid_no {H : Hp} {p b : Addr} {u o : HO} (hp : H p = some u) (hb : H b = some o) (no : u ≠ o) : hide [p] H b = some o := by
  rw [hide_out]
  · exact hb
  · intro z
    rw [List.mem_singleton.mp z, hp] at hb
    exact no (Option.some.inj hb)
theorem StepsAt.hid {H : Hp} {p D : Addr} {u : HO} {f : Nat → List Nat → Int} (hp : H p = some u) (no : ∀ kvs, u ≠ .dT kvs) (h : StepsAt H D f) : StepsAt (hide [p] H) D f := by
  obtain ⟨T, h1, h2, h3, h4, h5⟩ := h
  exact ⟨T, hid_no hp h1 (no _), h2, h3, fun e he => let ⟨a, b⟩ := h4 e he; ⟨hid_no hp a (no _), b⟩, h5⟩
theorem FoundAt.hid {H : Hp} {p D : Addr} {u : HO} {St : List (List Nat)} {F : List Nat → Nat → List Nat → Int} (hp : H p = some u) (no : ∀ kvs, u ≠ .dT kvs) (h : FoundAt H D St F) : FoundAt (hide [p] H) D St F := by
  obtain ⟨as, h1, h2, h3⟩ := h
  exact ⟨as, h1, hid_no hp h2 (no _), fun s a hm => (h3 s a hm).hid hp no⟩
/-! ### a row -/
structure PcOk (r : Nat) (c : Pc) : Prop where
  ok : Ok c.un c.sa (2 * r + c.inner)
  sz : 2 * r + c.inner ≤ 5
  lu : c.un.length ≤ 1000
  ls : c.sa.length ≤ 1000
def RPiece (C : Addr) (r : Nat) (H : Hp) (c : Pc) (v : V) : Prop := ∃ b, v = .ref b ∧ PartAt C H b r c.inner c.un c.sa
theorem RPiece.keep {C : Addr} {r : Nat} {H H' : Hp} {c : Pc} {v : V} (k : Same H H') (h : RPiece C r H c v) : RPiece C r H' c v := by
  obtain ⟨b, e, h⟩ := h
  exact ⟨b, e, h.keep k⟩
/-- a row of pieces (CR: the class Row, CP: the class Piece) stands at a -/
def RowAt (CR CP : Addr) (H : Hp) (a : Addr) (r : Nat) (row : List Pc) : Prop := ∃ dx t vs, H a = some (.ins CR dx (rowF t r)) ∧ H t = some (.tup vs) ∧ Paired (RPiece CP r H) row vs
theorem RowAt.keep {CR CP : Addr} {H H' : Hp} {a r} {row : List Pc} (k : Same H H') (h : RowAt CR CP H a r row) : RowAt CR CP H' a r row := by
  obtain ⟨dx, t, vs, h1, h2, h3⟩ := h
  exact ⟨dx, t, vs, k _ _ h1, k _ _ h2, pd_imp h3 fun _ _ r => r.keep k⟩
theorem rowF_held (t : Addr) (r : Nat) : (rowF t r).lookup ("held" : Str) = some (.ref t) := rfl
theorem rowF_rim (t : Addr) (r : Nat) : (rowF t r).lookup ("rim" : Str) = some (nV r) := rfl
structure RowOk (r : Nat) (row : List Pc) : Prop where
  r1 : 1 ≤ r
  r2 : r ≤ 2
  len : row.length ≤ 10
  pcs : ∀ c ∈ row, PcOk r c
section
variable {P : Program} {w : World} {K : PySem.W.Frag} {mg : Str → Option Value} {base : Heap}
/-! ### ends_at -/
abbrev sEndsAt : Stmt := inClass (top 46) 3
def spEndsAt (K : PySem.W.Frag) (fW : Addr) : Sp := fun vs H Q _ => ∃ (C p : Addr) (D : RunD) (q : Nat), vs = [.ref p, nV q, .ref fW] ∧ RunC K C ∧ RunAt C H p D ∧ q ≤ 100 ∧
  ∀ H' t a b, Same H H' → H' t = some (.tup [.ref a, .ref b]) → LstI H' a (D.St.map (D.f q)) → LstI H' b (D.St.map (D.e q)) → Q (.ref t) H'
abbrev nEndsAt : List Str := ["self", "hues", "trim", "starts", "state"]
theorem scEndsAt : FnScope nEndsAt ["self", "hues", "trim"] (defScope sEndsAt) := ⟨rfl, rfl, rfl, by decide +kernel, rfl, by decide +kernel, by decide +kernel⟩
theorem ok_endsAt {f : Addr} {fd : FuncData} (F : FunD K "ends_at" "Run.ends_at" (defArgs sEndsAt) (defBody sEndsAt) (defScope sEndsAt) [] [] f fd) (G : GRun K mg) : FnOk P w K mg base CX0 3 f fd ["self", "hues", "trim"] (spEndsAt K G.fW) := by
  have GW : FnOk P w K mg base CX0 1 G.fW G.fdW ["number"] spWhole := ok_whole G.FW
  have bW : Binds K G.fdW ["number"] [] := fn_binds G.FW fun _ _ _ _ _ _ us hl => match us, hl with | [_], _ => rfl
  have GN : FnOk P w K mg base CX0 2 G.fX G.fdX ["weights", "hues"] spNumber := ok_number G.FX G.FA G.gA G.range G.sum
  have bN : Binds K G.fdX ["weights", "hues"] [] := fn_binds G.FX fun _ _ _ _ _ _ us hl => match us, hl with | [_, _], _ => rfl
  refine F.ok scEndsAt (fun vs H Q E h => ?_) (fun cdv A outer s H vs Q E hr h => ?_)
  · obtain ⟨C, p, D, q, rfl, _⟩ := h
    rfl
  · obtain ⟨C, p, D, q, rfl, rc, hp, hq, hQ⟩ := h
    have hu := hu_of hr
    have hr1 : Room 1 _ := hr.mono (by decide)
    refine ⟨_, PSs.nox (pss_cons (ps_setLc (i := 3) (own := [("state", 4)]) (g := gName 4) (tt := tYes) rfl scEndsAt.nd rfl rfl (sw_true rfl rfl rfl (by decide +kernel)) (pi_list (pe_fld (pv 0) rfl)) (blkOk_by (N := nEndsAt) (sc := defScope sEndsAt) (by decide +kernel)) (fun _ _ _ _ _ => pg_name (i := 4) scEndsAt.nd rfl (.inl rfl)) (fun _ _ _ _ _ => pts_nil)
        (fun _ _ _ _ _ => pe_callL GW hr1 (i := 2) rfl (.inr (.inl rfl)) G.FW.kp bW .nil pass0 (pa_cons (pe_call GN hr (by rfl) G.gX G.FX.kp bN .nil pass0 (pa_cons (pe_dget2 (td := tFld K (tVar 0) "starts") hu (pe_fld (pv 0) rfl) (pv 4) pe_dnewT ⟨rfl, rfl, rfl, rfl⟩) (pa_cons (pv 1) pa_nil))) pa_nil)))
      (pss_one (ps_ret (pe_tup (pa_cons (pv 3) (pa_cons
        (pe_lc (own := [("state", 4)]) (g := gName 4) (tt := tYes) rfl scEndsAt.nd (pi_list (pe_fld (pv 0) rfl)) (blkOk_by (N := nEndsAt) (sc := defScope sEndsAt) (by decide +kernel)) (fun _ _ _ _ _ => pg_name (i := 4) scEndsAt.nd rfl (.inl rfl)) (fun _ _ _ _ _ => pts_nil)
          (fun _ _ _ _ _ => pe_callL GW hr1 (i := 2) rfl (.inr (.inl rfl)) G.FW.kp bW .nil pass0 (pa_cons (pe_call GN hr (by rfl) G.gX G.FX.kp bN .nil pass0 (pa_cons (pe_dget2 (td := tFld K (tVar 0) "ends") hu (pe_fld (pv 0) rfl) (pv 4) pe_dnewT ⟨rfl, rfl, rfl, rfl⟩) (pa_cons (pv 1) pa_nil))) pa_nil))) pa_nil)))))), ?_⟩
    obtain ⟨ok, dx, aS, aP, a1, a2, hI, ⟨ws, hws, pws⟩, hP, hs1, hs2⟩ := hp
    have hSl := steps_of_perm_len ok.st ok.r2 ok.m2
    have hwl : ws.length = D.St.length := (pd_len pws).symm
    refine ⟨_, rfl, p, C, dx, _, _, rfl, hI, rc.cl, rc.nSt, runF_st aS aP a1 a2, aS, rfl, ⟨_, SqL.of hws⟩, fun E1 hE => lc_list (K := K) (a := aS) (xs := ws)
      (fun i H' => Same H H' ∧ H' E1 = some (.lst (((D.St.take i).map (D.f q)).map V.int))) ⟨same_new hE, upd_same⟩ (fun i H' _ h => SqL.of (h.1 _ _ hws)) ?_ ?_⟩
    · rintro i y H4 hi ⟨s5, hE4⟩
      obtain ⟨tg, htg, c, rfl, hc⟩ := pd_get pws hi
      obtain ⟨ls, hl1, hl2⟩ := (hs1.keep s5).look q tg
      refine ⟨rfl, rfl, _, rfl, p, C, dx, _, _, rfl, s5 _ _ hI, rc.cl, rc.nS, runF_s aS aP a1 a2, a1, rfl, .inr ⟨_, Rd.of hl1⟩, _, rfl, fun pn hpn => ?_⟩
      have s6 := same_new (o := .dT []) hpn
      refine ⟨_, DGet.t (s6 _ _ hl1) (kL_tup ((hc.keep s5).keep s6)), ?_⟩
      have fin : ∀ (i' : Int) (H5 : Hp), i' = D.f q tg → Same H4 H5 → ∃ acc, H5 E1 = some (.lst acc) ∧ acc.length < sizeLine ∧ (Same H (upd H5 E1 (.lst (acc ++ [V.int i']))) ∧ upd H5 E1 (.lst (acc ++ [V.int i'])) E1 = some (.lst (((D.St.take (i + 1)).map (D.f q)).map V.int))) := fun i' H5 e s7 => by
        refine ⟨_, s7 _ _ hE4, ?_, upd_keep (s5.trans s7) hE, ?_⟩
        · refine small ?_
          rw [List.length_map, List.length_map, List.length_take]; omega
        · rw [upd_same, take_snoc htg, List.map_append, List.map_append, e]
          rfl
      rcases hl2 with ⟨aW, W, g1, g2, g3, g4, g5, g6⟩ | ⟨g1, g2⟩
      · rw [g1]
        exact ⟨_, rfl, aW, W, q, rfl, s6 _ _ g2, g3, g4, g5, hq, fun H5 s7 => ⟨_, rfl, fin _ H5 g6 (s6.trans s7)⟩⟩
      · rw [g1]
        exact ⟨_, rfl, pn, [], q, rfl, upd_same, ⟨by simp, by simp⟩, Nat.zero_le _, Nat.zero_le _, hq, fun H5 s7 => ⟨_, rfl, fin _ H5 (by rw [g2]; rfl) (s6.trans s7)⟩⟩
    · rintro H1 ⟨s1, hE1⟩
      rw [List.take_of_length_le (by omega)] at hE1
      refine ⟨_, rfl, _, rfl, p, C, dx, _, _, rfl, s1 _ _ hI, rc.cl, rc.nSt, runF_st aS aP a1 a2, aS, rfl, ⟨_, SqL.of (s1 _ _ hws)⟩, fun E2 hE => lc_list (K := K) (a := aS) (xs := ws)
        (fun i H' => Same H1 H' ∧ H' E2 = some (.lst (((D.St.take i).map (D.e q)).map V.int))) ⟨same_new hE, upd_same⟩ (fun i H' _ h => SqL.of ((s1.trans h.1) _ _ hws)) ?_ ?_⟩
      · rintro i y H4 hi ⟨s5', hE4⟩
        have s5 := s1.trans s5'
        obtain ⟨tg, htg, c, rfl, hc⟩ := pd_get pws hi
        obtain ⟨ls, hl1, hl2⟩ := (hs2.keep s5).look q tg
        refine ⟨rfl, rfl, _, rfl, p, C, dx, _, _, rfl, s5 _ _ hI, rc.cl, rc.nE, runF_e aS aP a1 a2, a2, rfl, .inr ⟨_, Rd.of hl1⟩, _, rfl, fun pn hpn => ?_⟩
        have s6 := same_new (o := .dT []) hpn
        refine ⟨_, DGet.t (s6 _ _ hl1) (kL_tup ((hc.keep s5).keep s6)), ?_⟩
        have fin : ∀ (i' : Int) (H5 : Hp), i' = D.e q tg → Same H4 H5 → ∃ acc, H5 E2 = some (.lst acc) ∧ acc.length < sizeLine ∧ (Same H1 (upd H5 E2 (.lst (acc ++ [V.int i']))) ∧ upd H5 E2 (.lst (acc ++ [V.int i'])) E2 = some (.lst (((D.St.take (i + 1)).map (D.e q)).map V.int))) := fun i' H5 e s7 => by
          refine ⟨_, s7 _ _ hE4, ?_, upd_keep (s5'.trans s7) hE, ?_⟩
          · refine small ?_
            rw [List.length_map, List.length_map, List.length_take]; omega
          · rw [upd_same, take_snoc htg, List.map_append, List.map_append, e]
            rfl
        rcases hl2 with ⟨aW, W, g1, g2, g3, g4, g5, g6⟩ | ⟨g1, g2⟩
        · rw [g1]
          exact ⟨_, rfl, aW, W, q, rfl, s6 _ _ g2, g3, g4, g5, hq, fun H5 s7 => ⟨_, rfl, fin _ H5 g6 (s6.trans s7)⟩⟩
        · rw [g1]
          exact ⟨_, rfl, pn, [], q, rfl, upd_same, ⟨by simp, by simp⟩, Nat.zero_le _, Nat.zero_le _, hq, fun H5 s7 => ⟨_, rfl, fin _ H5 (by rw [g2]; rfl) (s6.trans s7)⟩⟩
      · rintro H2 ⟨s2, hE2⟩
        rw [List.take_of_length_le (by omega)] at hE2
        refine ⟨small' (n := 2) (by decide), fun tp htp => ?_⟩
        have s3 := same_new (o := .tup [.ref E1, .ref E2]) htp
        exact hQ _ tp E1 E2 (s1.trans (s2.trans s3)) upd_same (s3 _ _ (s2 _ _ hE1)) (s3 _ _ hE2)
end
end Hue

set_option maxHeartbeats 4000000
namespace Hue
open PySem PySem.W PyProof.Rows L2
theorem putR1 (a : V) : putF "states" a [] = [(("states" : Str), a)] := rfl
theorem putR2 (a b : V) : putF "pieces" b [(("states" : Str), a)] = [(("states" : Str), a), ("pieces", b)] := rfl
theorem putR3 (a b c : V) : putF "starts" c [(("states" : Str), a), ("pieces", b)] = [(("states" : Str), a), ("pieces", b), ("starts", c)] := rfl
theorem putR4 (a b c d : V) : putF "ends" d [(("states" : Str), a), ("pieces", b), ("starts", c)] = [(("states" : Str), a), ("pieces", b), ("starts", c), ("ends", d)] := rfl
section
variable {P : Program} {w : World} {K : PySem.W.Frag} {mg : Str → Option Value} {base : Heap}
/-! ### Run.__init__ -/
abbrev sRunInit : Stmt := inClass (top 46) 0
structure GRow (K : PySem.W.Frag) (mg : Str → Option Value) extends GRun K mg where
  fS : Addr
  fdS : FuncData
  FS : FnP K "piece_steps" sSteps fS fdS
  gS : mg "piece_steps" = some (.ref fS)
  CR : Addr
  CP : Addr
  CU : Addr
  fI : Addr
  fdI : FuncData
  rowC : RowIt K CR fI fdI
  pcC : PartC K CP
  runC : RunC K CU
  iter : mg "iter" = none
theorem TupsAt.hidL {H : Hp} {aS D : Addr} {vs : List V} {l : List (List Nat)} (hD : H D = some (.lst vs)) (n : aS ≠ D) (h : TupsAt H aS l) : TupsAt (hide [D] H) aS l := by
  obtain ⟨ws, h1, h2⟩ := h
  refine ⟨ws, by rw [hide_out (by simpa using n)]; exact h1, pd_imp h2 fun x v r => ?_⟩
  obtain ⟨a, e, h⟩ := r
  exact ⟨a, e, hid_no hD h fun z => nomatch z⟩
theorem PcsAt.hidL {H : Hp} {aP D : Addr} {vs : List V} {r m : Nat} {row : List Pc} (hD : H D = some (.lst vs)) (n : aP ≠ D) (h : PcsAt H aP r m row) : PcsAt (hide [D] H) aP r m row := by
  obtain ⟨ws, h1, h2⟩ := h
  refine ⟨ws, by rw [hide_out (by simpa using n)]; exact h1, pd_imp h2 fun x v g => ?_⟩
  obtain ⟨d, Sd, e, pm, hf⟩ := g
  exact ⟨d, Sd, e, pm, hf.hid hD fun _ z => nomatch z⟩
/-- a new run: it stands also where an old list is hidden -/
def RunNew (CU : Addr) (H H' : Hp) (p : Addr) (D : RunD) : Prop := RunAt CU H' p D ∧ ∀ (D0 : Addr) (vs : List V), H D0 = some (.lst vs) → RunAt CU (hide [D0] H') p D
def spRunInit (CU CR CP : Addr) : Sp := fun vs H Q _ => ∃ (p ra a1 a2 dx : Addr) (r m : Nat) (row : List Pc) (f e : Nat → List Nat → Int), vs = [.ref p, .ref ra, nV m, .ref a1, .ref a2] ∧ H p = some (.ins CU dx []) ∧ RowAt CR CP (hide [p] H) ra r row ∧ RowOk r row ∧ m ≤ 2 ∧
  StepsAt (hide [p] H) a1 f ∧ StepsAt (hide [p] H) a2 e ∧ ∀ H' St, Same (hide [p] H) H' → RunNew CU H H' p ⟨r, m, row, St, f, e⟩ → Q .non H'
abbrev nRunInit : List Str := ["self", "row", "marked", "starts", "ends", "piece"]
theorem scRunInit : FnScope nRunInit ["self", "row", "marked", "starts", "ends"] (defScope sRunInit) := ⟨rfl, rfl, rfl, by decide +kernel, rfl, by decide +kernel, by decide +kernel⟩
theorem ok_runInit {f : Addr} {fd : FuncData} (F : FunD K "__init__" "Run.__init__" (defArgs sRunInit) (defBody sRunInit) (defScope sRunInit) [] [] f fd) (G : GRow K mg) : FnOk P w K mg base CX0 5 f fd ["self", "row", "marked", "starts", "ends"] (spRunInit G.CU G.CR G.CP) := by
  have GP : FnOk P w K mg base CX0 4 G.fP G.fdP ["rim", "marked"] spParts := (ok_parts G.FP G.FO G.gO G.FF G.gF G.range G.max G.sorted).mono (by decide)
  have bP : Binds K G.fdP ["rim", "marked"] [] := parts_binds2 G.FP
  have GS : FnOk P w K mg base CX0 4 G.fS G.fdS ["piece", "rim", "marked"] (spSteps K) := ok_steps G.FS G.toGTab
  have bS : Binds K G.fdS ["piece", "rim", "marked"] [] := fn_binds G.FS fun _ _ _ _ _ _ us hl => match us, hl with | [_, _, _], _ => rfl
  refine F.ok scRunInit (fun vs H Q E h => ?_) (fun cdv A outer s H vs Q E hr h => ?_)
  · obtain ⟨p, ra, a1, a2, dx, r, m, row, ff, ee, rfl, _⟩ := h
    rfl
  · obtain ⟨p, ra, a1, a2, dx, r, m, row, ff, ee, rfl, hp, hrow, ok, hm, hs1, hs2, hQ⟩ := h
    have hr1 : Room 1 _ := hr.mono (by decide)
    refine ⟨_, PSs.nox (pss_cons (ps_fld (pv 0) (pe_call GP hr (by rfl) G.gP G.FP.kp bP .nil pass0 (pa_cons (pe_fld (pv 1) rfl) (pa_cons (pv 2) pa_nil))) rfl)
      (pss_cons (ps_fld (pv 0) (pe_lc (own := [("piece", 5)]) (g := gName 5) (tt := tYes) rfl scRunInit.nd (pi_row G.rowC G.iter hr1 (pv 1)) (blkOk_by (N := nRunInit) (sc := defScope sRunInit) (by decide +kernel)) (fun _ _ _ _ _ => pg_name (i := 5) scRunInit.nd rfl (.inl rfl)) (fun _ _ _ _ _ => pts_nil)
          (fun _ _ _ _ _ => pe_call (t := tCons (tVar 5) (tCons (tFld K (tVar 1) "rim") (tCons (tVar 2) tNil))) GS hr (by rfl) G.gS G.FS.kp bS .nil pass0 (pa_cons (pv 5) (pa_cons (pe_fld (pv 1) rfl) (pa_cons (pv 2) pa_nil))))) rfl)
      (pss_cons (ps_fld (pv 0) (pv 3) rfl) (pss_one (ps_fld (pv 0) (pv 4) rfl))))), ?_⟩
    obtain ⟨dr, t, ws, hr0, ht0, pt0⟩ := hrow.keep (hide_sub [p] H)
    refine ⟨_, rfl, ra, G.CR, dr, _, _, rfl, hr0, G.rowC.c.cl, G.rowC.c.nR, rowF_rim t r, _, rfl, r, m, rfl, ok.r1, ok.r2, hm, fun H1 aS St s1 hA perm tups => ?_⟩
    refine ⟨_, rfl, p, G.CU, dx, [], rfl, s1 _ _ hp, G.runC.cl, G.runC.nSt, (by show 0 < 1000; decide), ?_⟩
    rw [putR1]
    have hp1 := s1 _ _ hp
    have B1 : Same (hide [p] H) (hide [p] H1) := hide_same [p] s1
    have up1 : hide [p] (upd H1 p (.ins G.CU dx [("states", .ref aS)])) = hide [p] H1 := hide_upd (by simp)
    have S2 : Same (hide [p] H1) (upd H1 p (.ins G.CU dx [("states", .ref aS)])) := by
      have := hide_sub [p] (upd H1 p (.ins G.CU dx [("states", .ref aS)]))
      rwa [up1] at this
    have tups1 := tups.hid hp1
    have hp2 : upd H1 p (.ins G.CU dx [("states", .ref aS)]) p = some (.ins G.CU dx [("states", .ref aS)]) := upd_same
    revert up1 S2 hp2
    generalize upd H1 p (.ins G.CU dx [("states", .ref aS)]) = H2
    intro up1 S2 hp2
    obtain ⟨dr, t, ws, hr2, ht2, pt2⟩ := hrow.keep (B1.trans S2)
    refine ⟨_, rfl, ra, dr, t, r, ws, rfl, hr2, SqT.of ht2, fun D hD => lc_tup (K := K) (a := t) (xs := ws)
      (fun i H' => Same H2 H' ∧ ∃ vs, H' D = some (.lst vs) ∧ Paired (RFound (hide [D] H') r m) (row.take i) vs) ⟨same_new hD, [], upd_same, .nil⟩ (fun i H' _ h => SqT.of (h.1 _ _ ht2)) ?_ ?_⟩
    · rintro i y H3 hi ⟨s3, vs, hvs, pvs⟩
      obtain ⟨pc, hpc, b, rfl, hb⟩ := pd_get pt2 hi
      have po := ok.pcs pc (List.mem_of_getElem? hpc)
      have hil : i < row.length := (List.getElem?_eq_some_iff.mp hpc).1
      refine ⟨rfl, _, rfl, _, rfl, ra, G.CR, dr, _, _, rfl, s3 _ _ hr2, G.rowC.c.cl, G.rowC.c.nR, rowF_rim t r, _, rfl, ?_⟩
      refine ⟨G.CP, b, r, pc.inner, m, pc.un, pc.sa, rfl, G.pcC, hb.keep s3, po.ok, ok.r1, ok.r2, hm, po.sz, po.lu, po.ls, fun H4 d Sd s4 hd perm2 hf => ?_⟩
      have hD4 := s4 _ _ hvs
      refine ⟨vs, hD4, ?_, upd_keep (s3.trans s4) hD, _, upd_same, ?_⟩
      · refine small ?_
        rw [← pd_len pvs, List.length_take]
        have := ok.len
        omega
      · rw [hide_upd (by simp), take_snoc hpc]
        exact pd_snoc (pd_imp pvs fun _ _ r => r.keep (hide_same [D] s4)) ⟨d, Sd, rfl, perm2, hf.hid hD4 fun _ z => nomatch z⟩
    · rintro H3 ⟨s3, vs, hvs, pvs⟩
      have hwl : ws.length = row.length := (pd_len pt2).symm
      rw [List.take_of_length_le (by omega)] at pvs
      have hp3 := s3 _ _ hp2
      refine ⟨_, rfl, p, G.CU, dx, _, rfl, hp3, G.runC.cl, G.runC.nPc, (by show 1 < 1000; decide), ?_⟩
      rw [putR2]
      refine ⟨_, rfl, _, rfl, p, G.CU, dx, _, rfl, upd_same, G.runC.cl, G.runC.nS, (by show 2 < 1000; decide), ?_⟩
      rw [putR3]
      refine ⟨_, rfl, _, rfl, p, G.CU, dx, _, rfl, upd_same, G.runC.cl, G.runC.nE, (by show 3 < 1000; decide), ?_⟩
      rw [putR4]
      have B3 : Same (hide [p] H1) (hide [p] H3) := by
        have := hide_same [p] s3
        rwa [up1] at this
      have BF : ∀ (o1 o2 o3 : HO), hide [p] (upd (upd (upd H3 p o1) p o2) p o3) = hide [p] H3 := fun o1 o2 o3 => by
        rw [hide_upd (by simp), hide_upd (by simp), hide_upd (by simp)]
      have SF : ∀ (o1 o2 o3 : HO), Same (hide [p] H3) (upd (upd (upd H3 p o1) p o2) p o3) := fun o1 o2 o3 => by
        have := hide_sub [p] (upd (upd (upd H3 p o1) p o2) p o3)
        rwa [BF] at this
      have nDp : D ≠ p := fun z => by rw [z, hp2] at hD; cases hD
      have pcs3 : PcsAt (hide [p] H3) D r m row := by
        refine ⟨vs, by rw [hide_out (by simpa using nDp)]; exact hvs, pd_imp pvs fun _ _ h => ?_⟩
        obtain ⟨d, Sd, e, pm, hf⟩ := h.keep (hide_sub [D] H3)
        exact ⟨d, Sd, e, pm, hf.hid hp3 fun _ z => nomatch z⟩
      have SZ := (B1.trans B3).trans (SF (.ins G.CU dx [("states", .ref aS), ("pieces", .ref D)]) (.ins G.CU dx [("states", .ref aS), ("pieces", .ref D), ("starts", .ref a1)]) (.ins G.CU dx (runF aS D a1 a2)))
      have rok : RunD.Ok ⟨r, m, row, St, ff, ee⟩ := ⟨ok.r1, ok.r2, hm, perm, ok.len⟩
      have t1 := tups1.keep (B3.trans (SF (.ins G.CU dx [("states", .ref aS), ("pieces", .ref D)]) (.ins G.CU dx [("states", .ref aS), ("pieces", .ref D), ("starts", .ref a1)]) (.ins G.CU dx (runF aS D a1 a2))))
      have t2 := pcs3.keep (SF (.ins G.CU dx [("states", .ref aS), ("pieces", .ref D)]) (.ins G.CU dx [("states", .ref aS), ("pieces", .ref D), ("starts", .ref a1)]) (.ins G.CU dx (runF aS D a1 a2)))
      have t3 := hs1.keep SZ
      have t4 := hs2.keep SZ
      have hpp : (upd (upd (upd H3 p (.ins G.CU dx [("states", .ref aS), ("pieces", .ref D)])) p (.ins G.CU dx [("states", .ref aS), ("pieces", .ref D), ("starts", .ref a1)])) p (.ins G.CU dx (runF aS D a1 a2))) p = some (.ins G.CU dx (runF aS D a1 a2)) := upd_same
      refine hQ _ St SZ ⟨⟨rok, dx, aS, D, a1, a2, hpp, t1, t2, t3, t4⟩, fun D0 vs0 h0 => ?_⟩
      have n0 : p ≠ D0 := fun z => by rw [← z, hp] at h0; cases h0
      have h0' := SZ D0 _ (by rw [hide_out (by simpa using n0.symm)]; exact h0)
      have nS : aS ≠ D0 := fun z => by rw [← z, hA] at h0; cases h0
      have nD : D ≠ D0 := fun z => by
        have : hide [p] H D0 = some (.lst vs0) := by rw [hide_out (by simpa using n0.symm)]; exact h0
        rw [← z] at this
        rw [(B1.trans S2) _ _ this] at hD
        cases hD
      exact ⟨rok, dx, aS, D, a1, a2, by rw [hide_out (by simpa using n0)]; exact hpp, t1.hidL h0' nS, t2.hidL h0' nD, t3.hid h0' (fun _ z => nomatch z), t4.hid h0' (fun _ z => nomatch z)⟩
end
end Hue

set_option maxHeartbeats 4000000
namespace Hue
open PySem PySem.W PyProof.Rows L2
/-! ### the walk over some runs -/
def RunD.A (D : RunD) (q : Nat) : List Nat → List Nat → Int := rowT q D.r D.m D.St D.row
def RunD.val (D : RunD) (q k : Nat) : Int := Hue.val D.St (D.A q) (D.f q) (D.e q) k
structure WalkC (K : PySem.W.Frag) (C : Addr) : Prop where
  cl : Cls K C
  nT : NoAttr K C "trim"
  nW : NoAttr K C "ways"
def walkF (fW wa : Addr) : List (Str × V) := [("trim", .ref fW), ("ways", .ref wa)]
theorem walkF_trim (fW wa : Addr) : (walkF fW wa).lookup ("trim" : Str) = some (.ref fW) := rfl
theorem walkF_ways (fW wa : Addr) : (walkF fW wa).lookup ("ways" : Str) = some (.ref wa) := rfl
theorem putW1 (a : V) : putF "trim" a [] = [(("trim" : Str), a)] := rfl
theorem putW2 (a b : V) : putF "ways" b [(("trim" : Str), a)] = [(("trim" : Str), a), ("ways", b)] := rfl
theorem St_pos {D : RunD} (ok : D.Ok) : 0 < D.St.length := by
  have hS := parts_states ok.st
  refine List.length_pos_of_mem (lab_in (M := List.range D.m) List.nodup_range (St := D.St) (r := D.r) (by simpa using hS) (l := List.replicate D.r 0) (by simp))
def RRun (CU : Addr) (H : Hp) (D : RunD) (v : V) : Prop := ∃ p, v = .ref p ∧ RunAt CU H p D
theorem RRun.keep {CU : Addr} {H H' : Hp} {D : RunD} {v : V} (k : Same H H') (h : RRun CU H D v) : RRun CU H' D v := by
  obtain ⟨p, e, h⟩ := h
  exact ⟨p, e, h.keep k⟩
def RunsAt (CU : Addr) (H : Hp) (a : Addr) (Ds : List RunD) : Prop := ∃ vs, H a = some (.lst vs) ∧ Paired (RRun CU H) Ds vs
theorem RunsAt.keep {CU : Addr} {H H' : Hp} {a : Addr} {Ds : List RunD} (k : Same H H') (h : RunsAt CU H a Ds) : RunsAt CU H' a Ds := by
  obtain ⟨vs, h1, h2⟩ := h
  exact ⟨vs, k _ _ h1, pd_imp h2 fun _ _ r => r.keep k⟩
structure WayB (q : Nat) (D : RunD) : Prop where
  ok : D.Ok
  f : ∀ s ∈ D.St, (D.f q s).natAbs < 2 ^ 920
  e : ∀ s ∈ D.St, (D.e q s).natAbs < 2 ^ 920
  A : ∀ s ∈ D.St, ∀ t ∈ D.St, (D.A q s t).natAbs < 2 ^ 9241
def RWay (q : Nat) (H : Hp) (D : RunD) (v : V) : Prop := ∃ t a b l M, v = .ref t ∧ H t = some (.tup [.ref a, .ref b, .ref l]) ∧ LstI H a (D.St.map (D.f q)) ∧ LstI H b (D.St.map (D.e q)) ∧ H l = some (.lst [.ref M]) ∧ MatAt H M (D.St.map fun s => D.St.map (D.A q s)) ∧ WayB q D
theorem RWay.keep {q : Nat} {H H' : Hp} {D : RunD} {v : V} (k : Same H H') (h : RWay q H D v) : RWay q H' D v := by
  obtain ⟨t, a, b, l, M, e, h1, h2, h3, h4, h5, h6⟩ := h
  exact ⟨t, a, b, l, M, e, k _ _ h1, k _ _ h2, k _ _ h3, k _ _ h4, h5.keep k, h6⟩
def WaysAt (q : Nat) (H : Hp) (a : Addr) (Ds : List RunD) : Prop := ∃ vs, H a = some (.lst vs) ∧ Paired (RWay q H) Ds vs
theorem WaysAt.keep {q : Nat} {H H' : Hp} {a : Addr} {Ds : List RunD} (k : Same H H') (h : WaysAt q H a Ds) : WaysAt q H' a Ds := by
  obtain ⟨vs, h1, h2⟩ := h
  exact ⟨vs, k _ _ h1, pd_imp h2 fun _ _ r => r.keep k⟩
def WalkAt (CW fW : Addr) (q : Nat) (H : Hp) (p : Addr) (Ds : List RunD) : Prop := ∃ dx wa, H p = some (.ins CW dx (walkF fW wa)) ∧ WaysAt q H wa Ds
theorem WalkAt.keep {CW fW : Addr} {q : Nat} {H H' : Hp} {p : Addr} {Ds : List RunD} (k : Same H H') (h : WalkAt CW fW q H p Ds) : WalkAt CW fW q H' p Ds := by
  obtain ⟨dx, wa, h1, h2⟩ := h
  exact ⟨dx, wa, k _ _ h1, h2.keep k⟩
theorem lstI_ne {H : Hp} {wa a : Addr} {vs : List V} {l : List Int} (h : H wa = some (.lst vs)) (hv : ∀ v ∈ vs, ∃ t, v = V.ref t) (hl : 0 < l.length) (ha : LstI H a l) : a ≠ wa := by
  intro z
  rw [LstI, z, h] at ha
  have e : vs = l.map V.int := by injection ha with ha; injection ha
  cases l with
  | nil => cases hl
  | cons x l =>
    obtain ⟨t, ht⟩ := hv (.int x) (by rw [e]; simp)
    cases ht
theorem RWay.refs {q : Nat} {H : Hp} {Ds : List RunD} {vs : List V} (h : Paired (RWay q H) Ds vs) : ∀ v ∈ vs, ∃ t, v = V.ref t := fun v hv => by
  obtain ⟨i, hi⟩ := List.getElem?_of_mem hv
  obtain ⟨D, _, t, _, _, _, _, e, _⟩ := pd_get h hi
  exact ⟨t, e⟩
section
variable {P : Program} {w : World} {K : PySem.W.Frag} {mg : Str → Option Value} {base : Heap}
/-! ### Walk.__init__ -/
abbrev sWalkInit : Stmt := inClass (top 49) 0
structure GWalk (K : PySem.W.Frag) (mg : Str → Option Value) extends GRow K mg where
  CW : Addr
  walkC : WalkC K CW
  fT1 : Addr
  fdT1 : FuncData
  FT1 : FunD K "table_at" "Run.table_at" (defArgs sTab) (defBody sTab) (defScope sTab) [] [] fT1 fdT1
  mT1 : Meth K CU "table_at" fT1
  fE1 : Addr
  fdE1 : FuncData
  FE1 : FunD K "ends_at" "Run.ends_at" (defArgs sEndsAt) (defBody sEndsAt) (defScope sEndsAt) [] [] fE1 fdE1
  mE1 : Meth K CU "ends_at" fE1
def spWalkInit (CU CW fW : Addr) : Sp := fun vs H Q _ => ∃ (p ra dx : Addr) (q : Nat) (Ds : List RunD), vs = [.ref p, .ref ra, nV q, .ref fW] ∧ H p = some (.ins CW dx []) ∧ RunsAt CU (hide [p] H) ra Ds ∧ q ≤ 100 ∧ Ds.length ≤ 1000 ∧
  ∀ H', Same (hide [p] H) H' → WalkAt CW fW q H' p Ds → Q .non H'
abbrev nWalkInit : List Str := ["self", "runs", "hues", "trim", "run", "starts", "ends"]
theorem scWalkInit : FnScope nWalkInit ["self", "runs", "hues", "trim"] (defScope sWalkInit) := ⟨rfl, rfl, rfl, by decide +kernel, rfl, by decide +kernel, by decide +kernel⟩
theorem ok_walkInit {f : Addr} {fd : FuncData} (F : FunD K "__init__" "Walk.__init__" (defArgs sWalkInit) (defBody sWalkInit) (defScope sWalkInit) [] [] f fd) (G : GWalk K mg) : FnOk P w K mg base CX0 4 f fd ["self", "runs", "hues", "trim"] (spWalkInit G.CU G.CW G.fW) := by
  have GT : FnOk P w K mg base CX0 3 G.fT1 G.fdT1 ["self", "hues", "trim"] (spTab K G.fW) := ok_tab G.FT1 G.toGRun
  have bT : Binds K G.fdT1 ["self", "hues", "trim"] [] := FunD.bindsN G.FT1 fun _ _ _ _ _ _ us hl => match us, hl with | [_, _, _], _ => rfl
  have GE : FnOk P w K mg base CX0 3 G.fE1 G.fdE1 ["self", "hues", "trim"] (spEndsAt K G.fW) := ok_endsAt G.FE1 G.toGRun
  have bE : Binds K G.fdE1 ["self", "hues", "trim"] [] := FunD.bindsN G.FE1 fun _ _ _ _ _ _ us hl => match us, hl with | [_, _, _], _ => rfl
  refine F.ok scWalkInit (fun vs H Q E h => ?_) (fun cdv A outer s H vs Q E hr h => ?_)
  · obtain ⟨p, ra, dx, q, Ds, rfl, _⟩ := h
    rfl
  · obtain ⟨p, ra, dx, q, Ds, rfl, hp, hruns, hq, hlen, hQ⟩ := h
    refine ⟨_, PSs.nox (pss_cons (ps_fld (pv 0) (pv 3) rfl) (pss_cons (ps_fld (pv 0) (pe_lst pa_nil) rfl)
      (pss_one (ps_for PassesOwn.never rfl (pi_list (pv 1)) (pg_name (i := 4) scWalkInit.nd rfl (.inl rfl))
        (pss_cons (ps_asg (pe_meth (pv 4) G.runC.cl G.mE1 GE hr bE .nil pass0 (pa_cons (pv 2) (pa_cons (pv 3) pa_nil))) (pg_tup rfl (pgs_cons (pg_name (i := 5) scWalkInit.nd rfl (.inl rfl)) (pgs_cons (pg_name (i := 6) scWalkInit.nd rfl (.inl rfl)) pgs_nil))))
        (pss_one (ps_expr (pe_bm PySem.F.plainAttrs_list PySem.F.slot_list_append PySem.F.type_list_append mt_append (pe_fld (pv 0) rfl) (pa_cons (pe_tup (pa_cons (pv 5) (pa_cons (pv 6) (pa_cons (pe_lst (pa_cons (pe_meth (pv 4) G.runC.cl G.mT1 GT hr bT .nil pass0 (pa_cons (pv 2) (pa_cons (pv 3) pa_nil))) pa_nil)) pa_nil)))) pa_nil))))))))), ?_⟩
    refine ⟨_, rfl, _, rfl, p, G.CW, dx, [], rfl, hp, G.walkC.cl, G.walkC.nT, (by show 0 < 1000; decide), ?_⟩
    rw [putW1]
    refine ⟨Nat.zero_le _, fun wa hwa => ?_⟩
    have npw : p ≠ wa := fun z => by rw [← z, upd_same] at hwa; cases hwa
    refine ⟨_, rfl, p, G.CW, dx, _, rfl, by rw [upd_ne npw]; exact upd_same, G.walkC.cl, G.walkC.nW, (by show 1 < 1000; decide), ?_⟩
    rw [putW2]
    have hwaH : H wa = none := by rw [upd_ne npw.symm] at hwa; exact hwa
    have hwaB : hide [p] H wa = none := by rw [hide_out (by simpa using npw.symm)]; exact hwaH
    have S0 : Same (hide [p] H) (upd (upd (upd H p (.ins G.CW dx [("trim", .ref G.fW)])) wa (.lst [])) p (.ins G.CW dx [("trim", .ref G.fW), ("ways", .ref wa)])) :=
      same_hide_upd (by simp) (upd_keep (same_hide_upd (by simp) (hide_sub _ _)) hwaB)
    have hp0 : (upd (upd (upd H p (.ins G.CW dx [("trim", .ref G.fW)])) wa (.lst [])) p (.ins G.CW dx [("trim", .ref G.fW), ("ways", .ref wa)])) p = some (.ins G.CW dx (walkF G.fW wa)) := upd_same
    have hw0 : (upd (upd (upd H p (.ins G.CW dx [("trim", .ref G.fW)])) wa (.lst [])) p (.ins G.CW dx [("trim", .ref G.fW), ("ways", .ref wa)])) wa = some (.lst []) := by rw [upd_ne npw.symm]; exact upd_same
    revert S0 hp0 hw0
    generalize upd (upd (upd H p (.ins G.CW dx [("trim", .ref G.fW)])) wa (.lst [])) p (.ins G.CW dx [("trim", .ref G.fW), ("ways", .ref wa)]) = H0
    intro S0 hp0 hw0
    obtain ⟨ws, hws, pws⟩ := hruns
    refine ⟨_, rfl, ra, rfl, ⟨_, SqL.of (S0 _ _ hws)⟩, for_list (K := K) (a := ra) (xs := ws)
      (fun j σ H' => Same (hide [p] H) H' ∧ H' p = some (.ins G.CW dx (walkF G.fW wa)) ∧ (∃ v4 v5 v6, σ = [some (.ref p), some (.ref ra), some (nV q), some (.ref G.fW), v4, v5, v6]) ∧ ∃ vs, H' wa = some (.lst vs) ∧ Paired (RWay q (hide [wa] H')) (Ds.take j) vs)
      ⟨S0, hp0, ⟨_, _, _, rfl⟩, [], hw0, .nil⟩ (fun j σ H' _ h => SqL.of (h.1 _ _ hws)) ?_ ?_⟩
    · rintro j y σ H1 hj ⟨s1, hp1, ⟨v4, v5, v6, rfl⟩, vs, hvs, pvs⟩
      obtain ⟨D, hD, ru, rfl, hru⟩ := pd_get pws hj
      have hjl : j < Ds.length := (List.getElem?_eq_some_iff.mp hD).1
      have hru1 := hru.keep s1
      obtain ⟨ok, dr, aS, aP, a1, a2, hI, tS, tP, tf, te⟩ := id hru1
      have hpos := St_pos ok
      have rfs := RWay.refs pvs
      refine ⟨_, rfl, ru, dr, _, rfl, hI, rfl, _, rfl, _, rfl, G.CU, ru, D, q, rfl, G.runC, hru1, hq, fun H2 t a b s2 ht ha hb => ?_⟩
      have hvs2 := s2 _ _ hvs
      have na : a ≠ wa := lstI_ne hvs2 rfs (by rw [List.length_map]; exact hpos) ha
      have nb : b ≠ wa := lstI_ne hvs2 rfs (by rw [List.length_map]; exact hpos) hb
      refine ⟨t, _, rfl, SqT.of ht, rfl, _, _, rfl, _, _, rfl, rfl, ?_⟩
      refine ⟨_, rfl, p, G.CW, dx, _, .ref wa, rfl, s2 _ _ hp1, G.walkC.cl, G.walkC.nW, walkF_ways G.fW wa, .inl ⟨rfl, _, SqL.of hvs2⟩, _, rfl, _, rfl, _, rfl, ru, dr, _, rfl, s2 _ _ hI, rfl, _, rfl, _, rfl, G.CU, ru, D, q, rfl, G.runC, hru1.keep s2, hq, fun H3 M s3 hM hmat => ?_⟩
      refine ⟨small' (n := 1) (by decide), fun L hL => ⟨small' (n := 3) (by decide), fun T hT => ?_⟩⟩
      have s4 := same_new (o := .lst [.ref M]) hL
      have s5 := same_new (o := .tup [.ref a, .ref b, .ref L]) hT
      have s25 := s3.trans (s4.trans s5)
      have s15 := s2.trans s25
      refine ⟨wa, vs, _, rfl, rfl, s15 _ _ hvs, ?_, ?_⟩
      · refine small ?_
        rw [← pd_len pvs, List.length_take]; omega
      · have nT : T ≠ wa := fun z => by rw [z, (s2.trans (s3.trans s4)) _ _ hvs] at hT; cases hT
        have nL : L ≠ wa := fun z => by rw [z, (s2.trans s3) _ _ hvs] at hL; cases hL
        have nM : M ≠ wa := fun z => by rw [z, hvs2] at hM; cases hM
        refine ⟨upd_keep (s1.trans s15) hwaB, by rw [upd_ne npw]; exact s15 _ _ hp1, ⟨_, _, _, rfl⟩, _, upd_same, ?_⟩
        rw [hide_upd (by simp), take_snoc hD]
        have hide5 : ∀ {c : Addr} {o : HO}, c ≠ wa → ∀ (Hx : Hp), Hx c = some o → hide [wa] Hx c = some o := fun nc Hx e => by rw [hide_out (by simpa using nc)]; exact e
        refine pd_snoc (pd_imp pvs fun _ _ r => r.keep (hide_same [wa] s15)) ⟨T, a, b, L, M, rfl, hide5 nT _ upd_same, hide5 na _ (s25 _ _ ha), hide5 nb _ (s25 _ _ hb), hide5 nL _ (s5 _ _ upd_same), ?_, ok, fun s _ => tf.lt hq s, fun s _ => te.lt hq s, ?_⟩
        · obtain ⟨rs, hrs, prs⟩ := hmat
          refine ⟨rs, hide5 nM _ ((s4.trans s5) _ _ hrs), ?_⟩
          have key : ∀ (R : List (List Int)) (us : List V), (∀ l ∈ R, 0 < l.length) → Paired (RRow H3) R us → Paired (RRow (hide [wa] (upd (upd H3 L (.lst [.ref M])) T (.tup [.ref a, .ref b, .ref L])))) R us := by
            intro R us hR h
            induction h with
            | nil => exact .nil
            | cons r _ ih =>
              refine .cons ?_ (ih fun l hl => hR l (by simp [hl]))
              obtain ⟨c, ec, hc⟩ := r
              have nc : c ≠ wa := lstI_ne (s3 _ _ hvs2) rfs (hR _ (by simp)) hc
              exact ⟨c, ec, hide5 nc _ ((s4.trans s5) _ _ hc)⟩
          refine key _ _ (fun l hl => ?_) prs
          obtain ⟨z, _, rfl⟩ := List.mem_map.mp hl
          rw [List.length_map]
          exact hpos
        · have h := rowT_lt (q := q) (steps_of_perm_len ok.st ok.r2 ok.m2) (tP.lt ok.st hq) D.row.length (Nat.le_refl _)
          rw [List.take_length] at h
          intro z hz t ht
          refine Nat.lt_of_lt_of_le (h z hz t ht) (Nat.pow_le_pow_right (by decide) ?_)
          have := ok.len
          omega
    · rintro σ H1 ⟨s1, hp1, ⟨v4, v5, v6, rfl⟩, vs, hvs, pvs⟩
      have hwl : ws.length = Ds.length := (pd_len pws).symm
      rw [List.take_of_length_le (by omega)] at pvs
      exact hQ H1 s1 ⟨dx, wa, hp1, vs, hvs, pd_imp pvs fun _ _ r => r.keep (hide_sub _ _)⟩
end
end Hue

set_option maxHeartbeats 4000000
namespace Hue
open PySem PySem.W PyProof.Rows L2
theorem dot_St {α : Type} (St : List α) (f g : α → Int) : ((((St.map f).zip (St.map g)).map fun p => p.1 * p.2)).sum = S St fun s => f s * g s := dot_map St f g
theorem led_St (St : List (List Nat)) (f : List Nat → Int) (A : List Nat → List Nat → Int) : ledM (St.map f) (St.map fun s => St.map (A s)) = St.map fun t => S St fun s => f s * A s t := led_map St f A
theorem S_take_succ {α : Type} {l : List α} {j : Nat} {x : α} (h : l[j]? = some x) (F : α → Int) : S (l.take (j + 1)) F = S (l.take j) F + F x := by
  rw [take_snoc h, S_append, S_single]
theorem ixN_at {n j : Nat} (hj : j < n) : ixN n (j : Int) = some j := by
  unfold ixN
  rw [if_pos (by omega), if_pos (by omega)]
  rfl
theorem set_range (g : Nat → Int) {many i : Nat} (hi : i < many) (x : Int) : (((List.range many).map g).map V.int).set i (V.int x) = ((List.range many).map fun k => if k = i then x else g k).map V.int := by
  refine List.ext_getElem? fun k => ?_
  by_cases hk : k = i
  · subst hk
    rw [List.getElem?_set_self (by rw [List.length_map, List.length_map, List.length_range]; exact hi), List.getElem?_map, List.getElem?_map, List.getElem?_range hi]
    show _ = some (V.int (if k = k then _ else _))
    rw [if_pos rfl]
  · rw [List.getElem?_set_ne (fun z => hk z.symm), List.getElem?_map, List.getElem?_map, List.getElem?_map, List.getElem?_map]
    by_cases hkm : k < many
    · rw [List.getElem?_range hkm]
      show some (V.int (g k)) = some (V.int (if k = i then _ else _))
      rw [if_neg hk]
    · rw [List.getElem?_eq_none (by rw [List.length_range]; omega)]
      rfl
section
variable {P : Program} {w : World} {K : PySem.W.Frag} {mg : Str → Option Value} {base : Heap}
/-! ### first_ways -/
abbrev sFirst : Stmt := inClass (top 49) 3
def spFirst (CW fW : Addr) : Sp := fun vs H Q _ => ∃ (p : Addr) (many q : Nat) (Ds : List RunD), vs = [.ref p, nV many] ∧ WalkAt CW fW q H p Ds ∧ many ≤ 20 ∧
  ∀ H' a, Same H H' → H a = none → LstI H' a ((List.range many).map fun k => S Ds fun D => D.val q k) → Q (.ref a) H'
abbrev nFirst : List Str := ["self", "many", "found", "starts", "ends", "powers", "line", "n", "number", "end"]
theorem scFirst : FnScope nFirst ["self", "many"] (defScope sFirst) := ⟨rfl, rfl, rfl, by decide +kernel, rfl, by decide +kernel, by decide +kernel⟩
theorem lin_bnd {q : Nat} {D : RunD} (b : WayB q D) (n : Nat) : ∀ t ∈ D.St, (lin D.St (D.A q) (D.f q) n t).natAbs < 2 ^ (920 + n * 9245) :=
  lin_bound (a := 9241) (b := 920) (steps_of_perm_len b.ok.st b.ok.r2 b.ok.m2) b.A b.f n
theorem ok_first {f : Addr} {fd : FuncData} (F : FunD K "first_ways" "Walk.first_ways" (defArgs sFirst) (defBody sFirst) (defScope sFirst) [] [] f fd) (G : GWalk K mg) : FnOk P w K mg base CX0 3 f fd ["self", "many"] (spFirst G.CW G.fW) := by
  have GW : FnOk P w K mg base CX0 1 G.fW G.fdW ["number"] spWhole := ok_whole G.FW
  have bW : Binds K G.fdW ["number"] [] := fn_binds G.FW fun _ _ _ _ _ _ us hl => match us, hl with | [_], _ => rfl
  have GL : FnOk P w K mg base CX0 2 G.fL G.fdL ["line", "table", "trim"] (spLed G.fW) := ok_led G.FL G.FW G.range G.len G.sum G.zip
  have bL : Binds K G.fdL ["line", "table", "trim"] [] := fn_binds G.FL fun _ _ _ _ _ _ us hl => match us, hl with | [_, _, _], _ => rfl
  refine F.ok scFirst (fun vs H Q E h => ?_) (fun cdv A outer s H vs Q E hr h => ?_)
  · obtain ⟨p, many, q, Ds, rfl, _⟩ := h
    rfl
  · obtain ⟨p, many, q, Ds, rfl, hw, hm, hQ⟩ := h
    have hr1 : Room 1 _ := hr.mono (by decide)
    refine ⟨_, PSs.nox (pss_cons (ps_set (i := 2) scFirst.nd rfl (.inl rfl) (pe_op op_rep (pe_lst (pa_cons pe_int pa_nil)) (pv 1)))
      (pss_cons (ps_for PassesOwn.never rfl (pi_list (pe_fld (pv 0) rfl)) (pg_tup rfl (pgs_cons (pg_name (i := 3) scFirst.nd rfl (.inl rfl)) (pgs_cons (pg_name (i := 4) scFirst.nd rfl (.inl rfl)) (pgs_cons (pg_name (i := 5) scFirst.nd rfl (.inl rfl)) pgs_nil))))
        (pss_cons (ps_set (i := 6) scFirst.nd rfl (.inl rfl) (pv 3))
        (pss_one (ps_for PassesOwn.never rfl (pi_range1 (by rfl) G.range (pa_cons (pv 1) pa_nil)) (pg_name (i := 7) scFirst.nd rfl (.inl rfl))
          (pss_cons (ps_asg (pe_op op_add (pe_ix ix_list (pv 2) (pv 7) (fun _ _ => rfl)) (pe_callB (cr_sum rfl) (by rfl) G.sum (by decide +kernel) (pa_cons
              (pe_lc (own := [("number", 8), ("end", 9)]) (g := gTup K 2 (gCons (gName 8) (gCons (gName 9) gNil))) (tt := tYes) rfl scFirst.nd (pi_zip (by rfl) G.zip (pa_cons (pv 6) (pa_cons (pv 4) pa_nil))) (blkOk_by (N := nFirst) (sc := defScope sFirst) (by decide +kernel))
                (fun _ _ _ _ _ => pg_tup rfl (pgs_cons (pg_name (i := 8) scFirst.nd rfl (.inl rfl)) (pgs_cons (pg_name (i := 9) scFirst.nd rfl (.inl rfl)) pgs_nil))) (fun _ _ _ _ _ => pts_nil) (fun _ _ _ _ _ => pe_op op_mulW (pv 8) (pv 9))) pa_nil))) (pg_sub (pv 2) (pv 7) set_list))
          (pss_one (ps_set (i := 6) scFirst.nd rfl (.inl rfl) (pe_call GL hr (by rfl) G.gL G.FL.kp bL .nil pass0 (pa_cons (pv 6) (pa_cons (pe_ix ix_list (pv 5) pe_int (fun _ _ => rfl)) (pa_cons (pe_fld (pv 0) rfl) pa_nil)))))))))))
      (pss_one (ps_ret (pe_lc (own := [("number", 8)]) (g := gName 8) (tt := tYes) (te := tFCall K "trim" G.fW spWhole [] E0 (tVar 0) (tCons (tVar 8) tNil)) rfl scFirst.nd (pi_list (pv 2)) (blkOk_by (N := nFirst) (sc := defScope sFirst) (by decide +kernel)) (fun _ _ _ _ _ => pg_name (i := 8) scFirst.nd rfl (.inl rfl)) (fun _ _ _ _ _ => pts_nil)
        (fun _ _ _ _ _ => pe_callF (pv 0) GW hr1 G.FW.kp bW .nil pass0 (pa_cons (pv 8) pa_nil))))))), ?_⟩
    obtain ⟨dx, wa, hI, ws, hws, pws⟩ := hw
    have hwl : ws.length = Ds.length := (pd_len pws).symm
    refine ⟨small' (n := 1) (by decide), fun Z hZ => ?_⟩
    have sZ := same_new (o := .lst [V.int 0]) hZ
    refine ⟨_, rfl, Z, (many : Int), [V.int 0], rfl, rfl, upd_same, by omega, by omega, ?_, fun D hD => ?_⟩
    · refine small' ?_
      have : ((many : Nat) : Int).toNat = many := by omega
      rw [this]
      simp only [List.length_singleton]
      omega
    have s1 := sZ.trans (same_new (o := .lst (List.replicate ((many : Nat) : Int).toNat [V.int 0]).flatten) hD)
    have hD0 : H D = none := sZ.free hD
    have e0 : (List.replicate ((many : Nat) : Int).toNat [V.int 0]).flatten = ((List.range many).map fun k => (0 : Int)).map V.int := by
      have : ((many : Nat) : Int).toNat = many := by omega
      rw [this]
      have key : ∀ m : Nat, (List.replicate m [V.int 0]).flatten = ((List.range m).map fun k => (0 : Int)).map V.int := by
        intro m
        induction m with
        | zero => rfl
        | succ m ih =>
          rw [List.range_succ, List.map_append, List.map_append, ← ih, List.replicate_succ', List.flatten_append]
          rfl
      exact key many
    refine ⟨_, rfl, p, G.CW, dx, _, _, rfl, s1 _ _ hI, G.walkC.cl, G.walkC.nW, walkF_ways G.fW wa, wa, rfl, ⟨_, SqL.of (s1 _ _ hws)⟩, for_list (K := K) (a := wa) (xs := ws)
      (fun j σ H' => Same H H' ∧ (∃ v3 v4 v5 v6 v7, σ = [some (.ref p), some (nV many), some (.ref D), v3, v4, v5, v6, v7, none, none]) ∧ LstI H' D ((List.range many).map fun k => S (Ds.take j) fun D => D.val q k))
      ⟨s1, ⟨_, _, _, _, _, rfl⟩, ?_⟩ (fun j σ H' _ h => SqL.of (h.1 _ _ hws)) ?_ ?_⟩
    · show upd _ D _ D = _
      rw [upd_same, e0]
      rfl
    · rintro j y σ H1 hj ⟨s2, ⟨v3, v4, v5, v6, v7, rfl⟩, hL⟩
      obtain ⟨R, hR, t, a, b, l, M, rfl, ht, ha, hb, hl, hM, wb⟩ := pd_get pws hj
      have hSl := steps_of_perm_len wb.ok.st wb.ok.r2 wb.ok.m2
      refine ⟨t, _, rfl, SqT.of (s2 _ _ ht), rfl, _, _, rfl, _, _, rfl, _, _, rfl, rfl, ?_⟩
      refine ⟨_, rfl, ?_⟩
      have m0 : ((many : Nat) : Int).toNat = many := by omega
      refine ⟨_, rfl, (many : Int), rfl, by omega, by omega, for_range (lo := 0) (n := ((many : Nat) : Int).toNat)
        (fun i σ H' => Same H H' ∧ (∃ v7 ln, σ = [some (.ref p), some (nV many), some (.ref D), some (.ref a), some (.ref b), some (.ref l), some (.ref ln), v7, none, none] ∧ LstI (hide [D] H') ln (R.St.map (lin R.St (R.A q) (R.f q) i))) ∧
          LstI H' D ((List.range many).map fun k => (S (Ds.take j) fun D => D.val q k) + if k < i then R.val q k else 0))
        ⟨s2, ⟨_, a, rfl, ?_⟩, ?_⟩ ?_ ?_⟩
      · show hide [D] H1 a = _
        rw [hide_out]
        · exact s2 _ _ ha
        · intro z
          rw [List.mem_singleton.mp z, LstI, hD0] at ha
          cases ha
      · have : ∀ k : Nat, ((S (Ds.take j) fun D => D.val q k) + if k < 0 then R.val q k else 0) = S (Ds.take j) fun D => D.val q k := fun k => by rw [if_neg (Nat.not_lt_zero k), Int.add_zero]
        simp only [this]
        exact hL
      · rintro i σ H2 hi ⟨s3, ⟨v7, ln, rfl, hln⟩, hL2⟩
        have hi : i < many := by omega
        rw [Int.zero_add]
        have hln2 : LstI H2 ln (R.St.map (lin R.St (R.A q) (R.f q) i)) := hide_sub [D] H2 _ _ hln
        have hb2 : LstI H2 b (R.St.map (R.e q)) := s3 _ _ hb
        have gD : ((List.range many).map fun k => (S (Ds.take j) fun D => D.val q k) + if k < i then R.val q k else 0)[i]? = some ((S (Ds.take j) fun D => D.val q i) + 0) := by
          rw [List.getElem?_map, List.getElem?_range hi]
          show some ((S (Ds.take j) fun D => D.val q i) + if i < i then R.val q i else 0) = _
          rw [if_neg (Nat.lt_irrefl i)]
        have atD : atI (((List.range many).map fun k => (S (Ds.take j) fun D => D.val q k) + if k < i then R.val q k else 0).map V.int) ((i : Nat) : Int) = some (.int ((S (Ds.take j) fun D => D.val q i) + 0)) := by
          refine atI_nat ?_
          rw [List.getElem?_map, gD]
          rfl
        refine ⟨_, rfl, _, rfl, D, _, _, _, rfl, rfl, SqL.of hL2, atD, _, rfl, _, rfl, ln, b, _, _, rfl, SqL.of hln2, SqL.of hb2, fun E1 hE => lc_any (n := R.St.length)
          (fun u H' => Same H2 H' ∧ H' E1 = some (.lst ((((R.St.map (lin R.St (R.A q) (R.f q) i)).zip (R.St.map (R.e q))).take u).map (fun p => p.1 * p.2) |>.map V.int))) ⟨same_new hE, upd_same⟩ (fun u H' hu h => ?_) (fun H' h => ?_) ?_ ?_⟩
        · exact ⟨_, _, _, _, SqL.of (h.1 _ _ hln2), SqL.of (h.1 _ _ hb2), List.getElem?_eq_getElem (by rw [List.length_map, List.length_map]; omega), List.getElem?_eq_getElem (by rw [List.length_map, List.length_map]; omega)⟩
        · exact ⟨_, _, SqL.of (h.1 _ _ hln2), SqL.of (h.1 _ _ hb2), .inl (by rw [List.length_map, List.length_map]; omega)⟩
        · rintro u v H3 H4 hu ⟨s4, hE4⟩ ⟨T, x, y, rfl, hT, rfl, fx, fy⟩
          have hx := fx _ (SqL.of (s4 _ _ hln2))
          have hy := fy _ (SqL.of (s4 _ _ hb2))
          obtain ⟨xi, hxi, rfl⟩ := iV_get hx
          obtain ⟨yi, hyi, rfl⟩ := iV_get hy
          have sT := same_new (o := .tup [.int xi, .int yi]) hT
          refine ⟨T, _, rfl, SqT.of upd_same, rfl, _, _, rfl, _, _, rfl, rfl, rfl, ?_⟩
          refine ⟨_, rfl, _, rfl, _, _, rfl, rfl, ?_, _, sT _ _ hE4, ?_, ?_⟩
          · obtain ⟨z1, hz1, rfl⟩ := List.mem_map.mp (List.mem_of_getElem? hxi)
            obtain ⟨z2, hz2, rfl⟩ := List.mem_map.mp (List.mem_of_getElem? hyi)
            exact wide_mul (lin_bnd wb i z1 hz1) (wb.e z2 hz2) (by omega) (by omega) (by omega)
          · refine small ?_
            rw [List.length_map, List.length_map, List.length_take, List.length_zip, List.length_map, List.length_map]; omega
          · refine ⟨upd_keep (s4.trans sT) hE, ?_⟩
            rw [upd_same]
            show some (HO.lst (List.map V.int (List.map (fun (p : Int × Int) => p.1 * p.2) (List.take u _)) ++ [V.int (xi * yi)])) = _
            rw [dot_take hxi hyi, List.map_append]
            rfl
        · rintro H3 ⟨s4, hE4⟩
          rw [List.take_of_length_le (by rw [List.length_zip, List.length_map, List.length_map]; omega)] at hE4
          have eD : D ≠ E1 := fun z => by rw [← z, hL2] at hE; cases hE
          refine ⟨E1, _, rfl, SqL.of hE4, ?_⟩
          rw [dot_St]
          refine ⟨_, _, rfl, rfl, ?_⟩
          have hD3 := s4 _ _ hL2
          refine ⟨_, rfl, _, rfl, D, _, _, i, rfl, rfl, hD3, ixN_at (by rw [List.length_map, List.length_map, List.length_range]; exact hi), ?_⟩
          rw [set_range _ hi]
          have efun : (fun k => if k = i then (S (Ds.take j) fun D => D.val q i) + 0 + (S R.St fun s => lin R.St (R.A q) (R.f q) i s * R.e q s) else (S (Ds.take j) fun D => D.val q k) + if k < i then R.val q k else 0) = fun k => (S (Ds.take j) fun D => D.val q k) + if k < i + 1 then R.val q k else 0 := by
            funext k
            by_cases hk : k = i
            · subst hk
              rw [if_pos rfl, if_pos (Nat.lt_succ_self k), Int.add_zero]
              rfl
            · rw [if_neg hk]
              by_cases h2 : k < i
              · rw [if_pos h2, if_pos (by omega)]
              · rw [if_neg h2, if_neg (by omega)]
          rw [efun]
          have s34 : Same H (upd H3 D (.lst (((List.range many).map fun k => (S (Ds.take j) fun D => D.val q k) + if k < i + 1 then R.val q k else 0).map V.int))) := upd_keep (s3.trans s4) hD0
          have hln3 : LstI (hide [D] H3) ln (R.St.map (lin R.St (R.A q) (R.f q) i)) := hide_same [D] s4 _ _ hln
          have SD : Same (hide [D] H3) (upd H3 D (.lst (((List.range many).map fun k => (S (Ds.take j) fun D => D.val q k) + if k < i + 1 then R.val q k else 0).map V.int))) := same_hide_upd (by simp) (hide_sub _ _)
          have hn4 := SD _ _ hln3
          have hD4 : upd H3 D (.lst (((List.range many).map fun k => (S (Ds.take j) fun D => D.val q k) + if k < i + 1 then R.val q k else 0).map V.int)) D = some (.lst (((List.range many).map fun k => (S (Ds.take j) fun D => D.val q k) + if k < i + 1 then R.val q k else 0).map V.int)) := upd_same
          revert s34 SD hn4 hD4
          generalize upd H3 D (.lst (((List.range many).map fun k => (S (Ds.take j) fun D => D.val q k) + if k < i + 1 then R.val q k else 0).map V.int)) = H4
          intro s34 SD hn4 hD4
          refine ⟨_, rfl, _, rfl, l, _, _, .ref M, rfl, rfl, SqL.of (s34 _ _ hl), rfl, _, rfl, p, G.CW, dx, _, _, rfl, s34 _ _ hI, G.walkC.cl, G.walkC.nT, walkF_trim G.fW wa, ?_⟩
          refine ⟨ln, M, _, _, R.St.length, 920 + i * 9245, 9241, rfl, hn4, hM.keep s34, by rw [List.length_map], by rw [List.length_map], ?_, ?_, by omega, by omega, by omega, by omega, fun H5 L' s5 hL' hled => ?_⟩
          · intro z hz
            obtain ⟨st, hst, rfl⟩ := List.mem_map.mp hz
            refine ⟨by rw [List.length_map], fun x hx => ?_⟩
            obtain ⟨tg, htg, rfl⟩ := List.mem_map.mp hx
            exact wb.A st hst tg htg
          · intro x hx
            obtain ⟨tg, htg, rfl⟩ := List.mem_map.mp hx
            exact lin_bnd wb i tg htg
          · rw [led_St] at hled
            have nL : L' ≠ D := fun z => by rw [z, hD4] at hL'; cases hL'
            refine ⟨s34.trans s5, ⟨_, L', rfl, ?_⟩, s5 _ _ hD4⟩
            show hide [D] H5 L' = _
            rw [hide_out (by simpa using nL)]
            exact hled
      · rintro σ H2 ⟨s3, ⟨v7, ln, rfl, hln⟩, hL2⟩
        refine ⟨s3, ⟨_, _, _, _, _, rfl⟩, ?_⟩
        have efun : ((List.range many).map fun k => (S (Ds.take j) fun D => D.val q k) + if k < ((many : Nat) : Int).toNat then R.val q k else 0) = (List.range many).map fun k => S (Ds.take (j + 1)) fun D => D.val q k := by
          refine List.map_congr_left fun k hk => ?_
          have := List.mem_range.mp hk
          rw [if_pos (by omega), S_take_succ hR]
        rw [← efun]
        exact hL2
    · rintro σ H1 ⟨s2, ⟨v3, v4, v5, v6, v7, rfl⟩, hL⟩
      rw [hwl, List.take_length] at hL
      refine ⟨_, rfl, D, rfl, ⟨_, SqL.of hL⟩, fun E1 hE => lc_list (K := K) (a := D) (xs := ((List.range many).map fun k => S Ds fun D => D.val q k).map V.int) (fun i H' => Same H1 H' ∧ H' E1 = some (.lst ((((List.range many).map fun k => S Ds fun D => D.val q k).take i).map V.int))) ⟨same_new hE, upd_same⟩ (fun i H' _ h => SqL.of (h.1 _ _ hL)) ?_ ?_⟩
      · rintro i y H2 hi ⟨s3, hE2⟩
        obtain ⟨x, hx, rfl⟩ := iV_get hi
        refine ⟨rfl, _, rfl, p, G.CW, dx, _, rfl, (s2.trans s3) _ _ hI, G.walkC.cl, G.walkC.nT, walkF_trim G.fW wa, _, rfl, _, rfl, _, hE2, ?_, ?_⟩
        · refine small ?_
          rw [List.length_map, List.length_take, List.length_map, List.length_range]; omega
        · refine ⟨upd_keep s3 hE, ?_⟩
          rw [upd_same, take_snoc hx, List.map_append]
          rfl
      · rintro H2 ⟨s3, hE2⟩
        rw [List.take_of_length_le (by simp)] at hE2
        exact hQ H2 E1 (s2.trans s3) (s2.free hE) hE2
end
end Hue

set_option maxHeartbeats 4000000
namespace Hue
open PySem PySem.W PyProof.Rows L2
def nrmP (p : Nat × Nat) : Nat × Nat := if p.1 < p.2 then p else (p.2, p.1)
/-- what the checks of pieces need of the module -/
structure GIs (mg : Str → Option Value) : Prop where
  isinstance : mg "isinstance" = none
  int : mg "int" = none
  bool : mg "bool" = none
  tuple : mg "tuple" = none
  list : mg "list" = none
  set : mg "set" = none
  sorted : mg "sorted" = none
  len : mg "len" = none
  enumerate : mg "enumerate" = none
section
variable {P : Program} {w : World} {K : PySem.W.Frag} {mg : Str → Option Value} {base : Heap}
/-! ### is_number, require_number -/
abbrev sIsNum : Stmt := top 20
def spIsNum : Sp := fun vs H Q _ => ∃ n : Nat, vs = [nV n] ∧ Q (.bl true) H
theorem scIsNum : FnScope ["thing"] ["thing"] (defScope sIsNum) := ⟨rfl, rfl, rfl, by decide +kernel, rfl, by decide +kernel, by decide +kernel⟩
theorem ok_isNum {f : Addr} {fd : FuncData} (F : FnP K "is_number" sIsNum f fd) (G : GIs mg) : FnOk P w K mg base CX0 1 f fd ["thing"] spIsNum := by
  refine F.ok scIsNum (fun vs H Q E h => ?_) (fun cdv A outer s H vs Q E hr h => ?_)
  · obtain ⟨n, rfl, _⟩ := h
    rfl
  · obtain ⟨n, rfl, hQ⟩ := h
    refine ⟨_, PSs.nox (pss_one (ps_ret (pe_and (pe_callB call_isi (by rfl) G.isinstance (by decide +kernel) (pa_cons (pv 0) (pa_cons (pe_bltn (v := .ty "int") (by rfl) G.int (by decide +kernel) rfl) pa_nil)))
      (pe_and (pe_not (pe_callB call_isi (by rfl) G.isinstance (by decide +kernel) (pa_cons (pv 0) (pa_cons (pe_bltn (v := .ty "bool") (by rfl) G.bool (by decide +kernel) rfl) pa_nil)))) (pe_one (pe_cmpR op_ge (pv 0) pe_int (nomark _))))))), ?_⟩
    refine ⟨_, rfl, _, _, .type "int", .type "int", true, rfl, .ty "int", .base (.int _), kit_ty (by decide +kernel), true, rfl, iteT ?_⟩
    refine ⟨_, rfl, _, _, .type "int", .type "bool", false, rfl, .ty "bool", .base (.int _), kit_ty (by decide +kernel), false, rfl, true, rfl, iteT ?_⟩
    refine ⟨_, rfl, _, _, rfl, rfl, ?_⟩
    have e : decide ((0 : Int) ≤ (n : Int)) = true := decide_eq_true (by omega)
    show Q (.bl (decide ((0 : Int) ≤ (n : Int)))) H
    rw [e]
    exact hQ
abbrev sReqNum : Stmt := top 21
def spReqNum : Sp := fun vs H Q _ => ∃ n : Nat, vs = [nV n] ∧ Q .non H
theorem scReqNum : FnScope ["thing"] ["thing"] (defScope sReqNum) := ⟨rfl, rfl, rfl, by decide +kernel, rfl, by decide +kernel, by decide +kernel⟩
theorem ok_reqNum {f fN : Addr} {fd fdN : FuncData} (F : FnP K "require_number" sReqNum f fd) (FN : FnP K "is_number" sIsNum fN fdN) (gN : mg "is_number" = some (.ref fN)) (G : GIs mg) : FnOk P w K mg base CX0 2 f fd ["thing"] spReqNum := by
  have GN : FnOk P w K mg base CX0 1 fN fdN ["thing"] spIsNum := ok_isNum FN G
  have bN : Binds K fdN ["thing"] [] := fn_binds FN fun _ _ _ _ _ _ us hl => match us, hl with | [_], _ => rfl
  refine F.ok scReqNum (fun vs H Q E h => ?_) (fun cdv A outer s H vs Q E hr h => ?_)
  · obtain ⟨n, rfl, _⟩ := h
    rfl
  · obtain ⟨n, rfl, hQ⟩ := h
    refine ⟨_, PSs.nox (pss_one (ps_if (pt_not (pt_val (pe_call GN hr (by rfl) gN FN.kp bN .nil pass0 (pa_cons (pv 0) pa_nil)))) (pss_one ps_never) pss_nil)), ?_⟩
    refine ⟨_, rfl, n, rfl, true, rfl, ?_⟩
    exact ite2 (fun z => by cases z) fun _ => hQ
/-! ### is_pair -/
abbrev sIsPair : Stmt := top 22
def spIsPair : Sp := fun vs H Q _ => ∃ (t : Addr) (x y n : Nat), vs = [.ref t, nV n] ∧ H t = some (.tup [nV x, nV y]) ∧ x < n ∧ y < n ∧ x ≠ y ∧ Q (.bl true) H
theorem scIsPair : FnScope ["thing", "count"] ["thing", "count"] (defScope sIsPair) := ⟨rfl, rfl, rfl, by decide +kernel, rfl, by decide +kernel, by decide +kernel⟩
theorem ok_isPair {f fN : Addr} {fd fdN : FuncData} (F : FnP K "is_pair" sIsPair f fd) (FN : FnP K "is_number" sIsNum fN fdN) (gN : mg "is_number" = some (.ref fN)) (G : GIs mg) : FnOk P w K mg base CX0 2 f fd ["thing", "count"] spIsPair := by
  have GN : FnOk P w K mg base CX0 1 fN fdN ["thing"] spIsNum := ok_isNum FN G
  have bN : Binds K fdN ["thing"] [] := fn_binds FN fun _ _ _ _ _ _ us hl => match us, hl with | [_], _ => rfl
  refine F.ok scIsPair (fun vs H Q E h => ?_) (fun cdv A outer s H vs Q E hr h => ?_)
  · obtain ⟨t, x, y, n, rfl, _⟩ := h
    rfl
  · obtain ⟨t, x, y, n, rfl, ht, hx, hy, hxy, hQ⟩ := h
    refine ⟨_, PSs.nox (pss_cons (ps_if (PW.pt (pw_or (pt_not (pt_val (pe_callB call_isi (by rfl) G.isinstance (by decide +kernel) (pa_cons (pv 0) (pa_cons (pe_bltn (v := .ty "tuple") (by rfl) G.tuple (by decide +kernel) rfl) pa_nil)))))
        (pw_or (pt_cmpR op_ne (pe_callB call_len_seq (by rfl) G.len boot_len (pa_cons (pv 0) pa_nil)) pe_int (nomark _))
        (pw_or (pt_not (pt_val (pe_call GN hr (by rfl) gN FN.kp bN .nil pass0 (pa_cons (pe_ix ix_tup (pv 0) pe_int (fun _ _ => rfl)) pa_nil))))
        (pw_or1 (pt_not (pt_val (pe_call GN hr (by rfl) gN FN.kp bN .nil pass0 (pa_cons (pe_ix ix_tup (pv 0) pe_int (fun _ _ => rfl)) pa_nil)))))))))
        (pss_one (ps_ret pe_bl)) pss_nil)
      (pss_one (ps_ret (pe_and (pe_cmpR op_lt (pe_ix ix_tup (pv 0) pe_int (fun _ _ => rfl)) (pv 1) (nomark _)) (pe_and (pe_cmpR op_lt (pe_ix ix_tup (pv 0) pe_int (fun _ _ => rfl)) (pv 1) (nomark _)) (pe_one (pe_cmpR op_ne (pe_ix ix_tup (pv 0) pe_int (fun _ _ => rfl)) (pe_ix ix_tup (pv 0) pe_int (fun _ _ => rfl)) (nomark _)))))))), ?_⟩
    refine ⟨_, rfl, _, _, .type "tuple", .type "tuple", true, rfl, .ty "tuple", .base (.tup ht), kit_ty (by decide +kernel), true, rfl, ?_⟩
    refine ite2 (fun z => by cases z) fun _ => ?_
    refine ⟨_, rfl, t, _, rfl, .inr (SqT.of ht), rfl, false, rfl, ?_⟩
    refine ite2 (fun z => by cases z) fun _ => ?_
    refine ⟨_, rfl, t, _, _, _, rfl, rfl, SqT.of ht, rfl, x, rfl, true, rfl, ?_⟩
    refine ite2 (fun z => by cases z) fun _ => ?_
    refine ⟨_, rfl, t, _, _, _, rfl, rfl, SqT.of ht, rfl, y, rfl, true, rfl, ?_⟩
    refine ite2 (fun z => by cases z) fun _ => ?_
    refine ⟨_, rfl, t, _, _, _, rfl, rfl, SqT.of ht, rfl, _, rfl, _, _, rfl, rfl, _, rfl, ?_⟩
    have e1 : decide ((x : Int) < (n : Int)) = true := decide_eq_true (by omega)
    have e2 : decide ((y : Int) < (n : Int)) = true := decide_eq_true (by omega)
    refine ite2 (fun _ => ?_) fun z => absurd e1 z
    refine ⟨_, rfl, t, _, _, _, rfl, rfl, SqT.of ht, rfl, _, rfl, _, _, rfl, rfl, _, rfl, ?_⟩
    refine ite2 (fun _ => ?_) fun z => absurd e2 z
    refine ⟨_, rfl, t, _, _, _, rfl, rfl, SqT.of ht, rfl, _, rfl, t, _, _, _, rfl, rfl, SqT.of ht, rfl, rfl, ?_⟩
    have e3 : (!decide (nV x = nV y)) = true := by
      rw [decide_eq_false (fun z => hxy (nV_eq.mp z))]
      rfl
    show Q (.bl (!decide (nV x = nV y))) H
    rw [e3]
    exact hQ
end
end Hue

set_option maxHeartbeats 4000000
namespace Hue
open PySem PySem.W PyProof.Rows L2
def PairsS (K : PySem.W.Frag) (H : Hp) (a : Addr) (l : List (Nat × Nat)) : Prop := ∃ vs, (H a = some (.lst vs) ∨ H a = some (.tup vs)) ∧ Paired (RPair H) l vs
theorem PairsS.keep {K : PySem.W.Frag} {H H' : Hp} {a : Addr} {l : List (Nat × Nat)} (k : Same H H') (h : PairsS K H a l) : PairsS K H' a l := by
  obtain ⟨vs, h1, h2⟩ := h
  exact ⟨vs, h1.imp (k _ _) (k _ _), pd_imp h2 fun _ _ r => r.keep k⟩
theorem RPair.hid {H : Hp} {x : Nat × Nat} {v : V} {D : Addr} {acc : List V} (hD : H D = some (.lst acc)) (h : RPair H x v) : RPair (hide [D] H) x v := by
  obtain ⟨t, e, h⟩ := h
  exact ⟨t, e, hid_no hD h fun z => nomatch z⟩
/-- pairs that stand, as the kit's rules for sets of tuples take them -/
theorem pairs_ks {H : Hp} : ∀ {l : List (Nat × Nat)} {vs : List V}, Paired (RPair H) l vs → ∃ ks : List (Addr × List Int), vs = ks.map (fun p => V.ref p.1) ∧ ks.map (·.2) = l.map (fun x => [(x.1 : Int), (x.2 : Int)]) ∧ ∀ p ∈ ks, H p.1 = some (.tup (p.2.map V.int))
  | [], _, .nil => ⟨[], rfl, rfl, fun p h => by cases h⟩
  | x :: l, _, .cons r t => by
    obtain ⟨ks, h1, h2, h3⟩ := pairs_ks t
    obtain ⟨a, e, h⟩ := r
    refine ⟨(a, [(x.1 : Int), (x.2 : Int)]) :: ks, by rw [e, h1]; rfl, by rw [List.map_cons, List.map_cons, h2], fun p hp => ?_⟩
    rcases List.mem_cons.mp hp with rfl | hp
    · exact h
    · exact h3 p hp
def unI (l : List Int) : Nat × Nat := ((l.getD 0 0).toNat, (l.getD 1 0).toNat)
section
variable {P : Program} {w : World} {K : PySem.W.Frag} {mg : Str → Option Value} {base : Heap}
/-! ### in_order -/
abbrev sInOrder : Stmt := top 23
def spInOrder (K : PySem.W.Frag) : Sp := fun vs H Q _ => ∃ (a : Addr) (l : List (Nat × Nat)), vs = [.ref a] ∧ PairsS K H a l ∧ l.length < 64 ∧ (∀ p ∈ l, p.1 < 64 ∧ p.2 < 64) ∧
  ∀ H' t l', Same H H' → PairsT H' t l' → (∀ p, p ∈ l' ↔ p ∈ l.map nrmP) → l'.length < 64 → Q (.ref t) H'
abbrev nInOrder : List Str := ["pairs", "x", "y"]
theorem scInOrder : FnScope nInOrder ["pairs"] (defScope sInOrder) := ⟨rfl, rfl, rfl, by decide +kernel, rfl, by decide +kernel, by decide +kernel⟩
theorem ok_inOrder {f : Addr} {fd : FuncData} (F : FnP K "in_order" sInOrder f fd) (G : GIs mg) : FnOk P w K mg base CX0 1 f fd ["pairs"] (spInOrder K) := by
  refine F.ok scInOrder (fun vs H Q E h => ?_) (fun cdv A outer s H vs Q E hr h => ?_)
  · obtain ⟨a, l, rfl, _⟩ := h
    rfl
  · obtain ⟨a, l, rfl, ⟨vs0, ha, pvs0⟩, hl, hb, hQ⟩ := h
    refine ⟨_, PSs.nox (pss_one (ps_ret (pe_callTy call_tuple_of (by rfl) G.tuple (by decide +kernel) (pa_cons (pe_callB (cr_sortedT rfl) (by rfl) G.sorted (by decide +kernel) (pa_cons (pe_callTy (cr_setOfT rfl hr.units) (by rfl) G.set (by decide +kernel) (pa_cons
      (pe_lc (own := [("x", 1), ("y", 2)]) (g := gTup K 2 (gCons (gName 1) (gCons (gName 2) gNil))) (tt := tYes) rfl scInOrder.nd (pi_seq (pv 0)) (blkOk_by (N := nInOrder) (sc := defScope sInOrder) (by decide +kernel))
        (fun _ _ _ _ _ => pg_tup rfl (pgs_cons (pg_name (i := 1) scInOrder.nd rfl (.inl rfl)) (pgs_cons (pg_name (i := 2) scInOrder.nd rfl (.inl rfl)) pgs_nil))) (fun _ _ _ _ _ => pts_nil)
        (fun _ _ _ _ _ => pe_ifExp (pt_cmpR op_lt (pv 1) (pv 2) (nomark _)) (pe_tup (pa_cons (pv 1) (pa_cons (pv 2) pa_nil))) (pe_tup (pa_cons (pv 2) (pa_cons (pv 1) pa_nil))))) pa_nil)) pa_nil)) pa_nil)))), ?_⟩
    refine ⟨_, rfl, a, rfl, ?_⟩
    have hlen : vs0.length = l.length := (pd_len pvs0).symm
    have fin : ∀ (D : Addr) (H1 : Hp), H D = none → Same H H1 → (∃ vs, H1 D = some (.lst vs) ∧ Paired (RPair (hide [D] H1)) ((l.take l.length).map nrmP) vs) →
        rSetOfT K P w [V.ref D] H1 fun x H2 => rSortedT K P w [x] H2 fun x H3 => (fun xs (H : Hp) (Q : VK) => ∃ p ys, xs = [V.ref p] ∧ ((SqL K H p ys ∧ ∀ l, H l = none → Q (.ref l) (upd H l (.tup ys))) ∨ (SqT K H p ys ∧ Q (.ref p) H))) [x] H3 Q := by
      intro D H1 hD s1 ⟨vs, hvs, pvs⟩
      rw [List.take_length] at pvs
      obtain ⟨ks, hks, hk2, hk3⟩ := pairs_ks (pd_imp pvs fun _ _ r => r.keep (hide_sub [D] H1))
      have hkl : ks.length = l.length := by
        have := congrArg List.length hk2
        simpa using this
      have hbn : ∀ p ∈ l.map nrmP, p.1 < 64 ∧ p.2 < 64 := fun p hp => by
        obtain ⟨z, hz, rfl⟩ := List.mem_map.mp hp
        have := hb z hz
        unfold nrmP
        split
        · exact this
        · exact ⟨this.2, this.1⟩
      have hform : ∀ p ∈ ks, ∃ z ∈ l.map nrmP, p.2 = [(z.1 : Int), (z.2 : Int)] := fun p hp => by
        have : p.2 ∈ ks.map (·.2) := List.mem_map.mpr ⟨p, hp, rfl⟩
        rw [hk2] at this
        obtain ⟨z, hz, e⟩ := List.mem_map.mp this
        exact ⟨z, hz, e.symm⟩
      refine ⟨D, ks, rfl, SqL.of (by rw [hvs, hks]), fun p hp => SqT.of (hk3 p hp), by omega, fun a L ha0 hL1 hL2 => ?_⟩
      have s2 := same_new (o := SetTO P w a L) ha0
      refine ⟨a, L, 2, 64, rfl, upd_same, fun p hp => SqT.of (s2 _ _ (hk3 p (hL1 p hp))), by decide, fun p hp => ?_, fun L' p pm nd hl' pw hp => ?_⟩
      · obtain ⟨z, hz, e⟩ := hform p (hL1 p hp)
        rw [e]
        refine ⟨rfl, fun m hm => ?_⟩
        have := hbn z hz
        simp only [List.mem_cons, List.not_mem_nil, or_false] at hm
        rcases hm with rfl | rfl <;> omega
      · have s3 := same_new (o := .lst (L'.map fun q => V.ref q.1)) hp
        refine ⟨p, _, rfl, .inl ⟨SqL.of upd_same, fun t ht => ?_⟩⟩
        have s4 := same_new (o := .tup (L'.map fun q => V.ref q.1)) ht
        have sub : ∀ q ∈ L', q ∈ ks := fun q hq => hL1 q (pm.mem_iff.mp hq)
        have s24 := s2.trans (s3.trans s4)
        refine hQ _ t (L'.map fun q => unI q.2) (s1.trans s24) ⟨_, upd_same, ?_⟩ (fun z => ?_) (by rw [List.length_map]; exact hl')
        · have key : ∀ (M : List (Addr × List Int)), (∀ q ∈ M, q ∈ ks) → Paired (RPair (upd (upd (upd H1 a (SetTO P w a L)) p (.lst (L'.map fun q => V.ref q.1))) t (.tup (L'.map fun q => V.ref q.1)))) (M.map fun q => unI q.2) (M.map fun q => V.ref q.1) := by
            intro M
            induction M with
            | nil => intro _; exact .nil
            | cons q M ih =>
              intro hM
              refine .cons ⟨q.1, rfl, ?_⟩ (ih fun r hr => hM r (by simp [hr]))
              have h1 := s24 _ _ (hk3 q (hM q (by simp)))
              obtain ⟨z, hz, e⟩ := hform q (hM q (by simp))
              show _ = some (HO.tup [nV (unI q.2).1, nV (unI q.2).2])
              rw [h1, e]
              rfl
          exact key L' sub
        · constructor
          · intro hz
            obtain ⟨q, hq, rfl⟩ := List.mem_map.mp hz
            obtain ⟨z, hz, e⟩ := hform q (sub q hq)
            rw [e]
            exact hz
          · intro hz
            have h1 : [(z.1 : Int), (z.2 : Int)] ∈ ks.map (·.2) := by rw [hk2]; exact List.mem_map.mpr ⟨z, hz, rfl⟩
            obtain ⟨q, hq, e⟩ := List.mem_map.mp h1
            obtain ⟨q', hq', e'⟩ := List.mem_map.mp (hL2 q hq)
            refine List.mem_map.mpr ⟨q', pm.mem_iff.mpr hq', ?_⟩
            rw [e', e]
            rfl
    have step : ∀ (D : Addr) (i : Nat) (y : V) (H1 : Hp), H D = none → vs0[i]? = some y → Same H H1 → (∃ vs, H1 D = some (.lst vs) ∧ Paired (RPair (hide [D] H1)) ((l.take i).map nrmP) vs) →
        ∃ (T : Addr) (x1 x2 : Nat), y = .ref T ∧ H1 T = some (.tup [nV x1, nV x2]) ∧ ∀ t, H1 t = none → ∃ acc, (upd H1 t (.tup [nV (nrmP (x1, x2)).1, nV (nrmP (x1, x2)).2])) D = some (.lst acc) ∧ acc.length < sizeLine ∧
          (Same H (upd (upd H1 t (.tup [nV (nrmP (x1, x2)).1, nV (nrmP (x1, x2)).2])) D (.lst (acc ++ [.ref t]))) ∧ ∃ vs, (upd (upd H1 t (.tup [nV (nrmP (x1, x2)).1, nV (nrmP (x1, x2)).2])) D (.lst (acc ++ [.ref t]))) D = some (.lst vs) ∧ Paired (RPair (hide [D] (upd (upd H1 t (.tup [nV (nrmP (x1, x2)).1, nV (nrmP (x1, x2)).2])) D (.lst (acc ++ [.ref t]))))) ((l.take (i + 1)).map nrmP) vs) := by
      intro D i y H1 hD hy s1 ⟨vs, hvs, pvs⟩
      obtain ⟨x, hx, T, rfl, hT⟩ := pd_get pvs0 hy
      have hil : i < l.length := (List.getElem?_eq_some_iff.mp hx).1
      refine ⟨T, x.1, x.2, rfl, s1 _ _ hT, fun t ht => ⟨vs, ?_⟩⟩
      have s2 := same_new (o := .tup [nV (nrmP (x.1, x.2)).1, nV (nrmP (x.1, x.2)).2]) ht
      have ntD : t ≠ D := fun z => by rw [z, hvs] at ht; cases ht
      refine ⟨s2 _ _ hvs, ?_, upd_keep (s1.trans s2) hD, _, upd_same, ?_⟩
      · refine small ?_
        rw [← pd_len pvs, List.length_map, List.length_take]; omega
      · rw [hide_upd (by simp), take_snoc hx, List.map_append]
        refine pd_snoc (pd_imp pvs fun _ _ r => r.keep (hide_same [D] s2)) ⟨t, rfl, ?_⟩
        show hide [D] _ t = _
        rw [hide_out (by simpa using ntD)]
        exact upd_same
    rcases ha with ha | ha
    · refine .inl ⟨⟨_, SqL.of ha⟩, fun D hD => lc_any (n := l.length) (fun i H' => Same H H' ∧ ∃ vs, H' D = some (.lst vs) ∧ Paired (RPair (hide [D] H')) ((l.take i).map nrmP) vs) ⟨same_new hD, [], upd_same, .nil⟩ (fun i H' hi h => ⟨_, _, SqL.of (h.1 _ _ ha), List.getElem?_eq_getElem (by omega)⟩) (fun H' h => ⟨_, SqL.of (h.1 _ _ ha), by omega⟩) ?_ (fun H1 h => fin D H1 hD h.1 h.2)⟩
      rintro i y H1 H2 hi ⟨s1, h1⟩ ⟨rfl, hy⟩
      obtain ⟨T, x1, x2, rfl, hT, k⟩ := step D i y _ hD (hy _ (SqL.of (s1 _ _ ha))) s1 h1
      refine ⟨T, _, rfl, SqT.of hT, rfl, _, _, rfl, _, _, rfl, rfl, rfl, ?_⟩
      refine ⟨_, rfl, _, rfl, _, _, rfl, rfl, _, rfl, ?_⟩
      unfold nrmP at k
      refine ite2 (fun h => ?_) fun h => ?_
      · have : x1 < x2 := by have := of_decide_eq_true h; omega
        rw [if_pos this] at k
        exact ⟨_, rfl, _, rfl, small' (n := 2) (by decide), k⟩
      · have : ¬ x1 < x2 := fun z => h (decide_eq_true (by omega))
        rw [if_neg this] at k
        exact ⟨_, rfl, _, rfl, small' (n := 2) (by decide), k⟩
    · refine .inr ⟨⟨_, SqT.of ha⟩, fun D hD => lc_any (n := l.length) (fun i H' => Same H H' ∧ ∃ vs, H' D = some (.lst vs) ∧ Paired (RPair (hide [D] H')) ((l.take i).map nrmP) vs) ⟨same_new hD, [], upd_same, .nil⟩ (fun i H' hi h => ⟨_, _, SqT.of (h.1 _ _ ha), List.getElem?_eq_getElem (by omega)⟩) (fun H' h => ⟨_, SqT.of (h.1 _ _ ha), by omega⟩) ?_ (fun H1 h => fin D H1 hD h.1 h.2)⟩
      rintro i y H1 H2 hi ⟨s1, h1⟩ ⟨rfl, hy⟩
      obtain ⟨T, x1, x2, rfl, hT, k⟩ := step D i y _ hD (hy _ (SqT.of (s1 _ _ ha))) s1 h1
      refine ⟨T, _, rfl, SqT.of hT, rfl, _, _, rfl, _, _, rfl, rfl, rfl, ?_⟩
      refine ⟨_, rfl, _, rfl, _, _, rfl, rfl, _, rfl, ?_⟩
      unfold nrmP at k
      refine ite2 (fun h => ?_) fun h => ?_
      · have : x1 < x2 := by have := of_decide_eq_true h; omega
        rw [if_pos this] at k
        exact ⟨_, rfl, _, rfl, small' (n := 2) (by decide), k⟩
      · have : ¬ x1 < x2 := fun z => h (decide_eq_true (by omega))
        rw [if_neg this] at k
        exact ⟨_, rfl, _, rfl, small' (n := 2) (by decide), k⟩
end
end Hue

set_option maxHeartbeats 4000000
namespace Hue
open PySem PySem.W PyProof.Rows L2
theorem PairsT.hid {H : Hp} {p C dx a : Addr} {fs : List (Str × V)} {l : List (Nat × Nat)} (hp : H p = some (.ins C dx fs)) (h : PairsT H a l) : PairsT (hide [p] H) a l := by
  obtain ⟨vs, h1, h2⟩ := h
  refine ⟨vs, hid_no hp h1 (fun z => nomatch z), pd_imp h2 fun x v r => ?_⟩
  obtain ⟨t, e, h⟩ := r
  exact ⟨t, e, hid_no hp h fun z => nomatch z⟩
theorem putP1 (a : V) : putF "rim" a [] = [(("rim" : Str), a)] := rfl
theorem putP2 (a b : V) : putF "inner" b [(("rim" : Str), a)] = [(("rim" : Str), a), ("inner", b)] := rfl
theorem putP3 (a b c : V) : putF "unlike" c [(("rim" : Str), a), ("inner", b)] = [(("rim" : Str), a), ("inner", b), ("unlike", c)] := rfl
theorem putP4 (a b c d : V) : putF "same" d [(("rim" : Str), a), ("inner", b), ("unlike", c)] = [(("rim" : Str), a), ("inner", b), ("unlike", c), ("same", d)] := rfl
/-- pairs of two places below n -/
def Below (n : Nat) (l : List (Nat × Nat)) : Prop := ∀ x ∈ l, x.1 < n ∧ x.2 < n ∧ x.1 ≠ x.2
section
variable {P : Program} {w : World} {K : PySem.W.Frag} {mg : Str → Option Value} {base : Heap}
structure GPc (K : PySem.W.Frag) (mg : Str → Option Value) extends GIs mg where
  fN : Addr
  fdN : FuncData
  FN : FnP K "is_number" sIsNum fN fdN
  gN : mg "is_number" = some (.ref fN)
  fQ : Addr
  fdQ : FuncData
  FQ : FnP K "require_number" sReqNum fQ fdQ
  gQ : mg "require_number" = some (.ref fQ)
  fP : Addr
  fdP : FuncData
  FP : FnP K "is_pair" sIsPair fP fdP
  gP : mg "is_pair" = some (.ref fP)
  fO : Addr
  fdO : FuncData
  FO : FnP K "in_order" sInOrder fO fdO
  gO : mg "in_order" = some (.ref fO)
/-! ### checked_pairs -/
abbrev sChecked : Stmt := top 24
def spChecked (K : PySem.W.Frag) : Sp := fun vs H Q _ => ∃ (a : Addr) (l : List (Nat × Nat)) (n : Nat), vs = [.ref a, nV n] ∧ PairsS K H a l ∧ l.length < 64 ∧ Below n l ∧ n ≤ 10 ∧
  ∀ H' t l', Same H H' → PairsT H' t l' → (∀ p, p ∈ l' ↔ p ∈ l.map nrmP) → l'.length < 64 → Q (.ref t) H'
abbrev nChecked : List Str := ["thing", "count", "place", "pair"]
theorem scChecked : FnScope nChecked ["thing", "count"] (defScope sChecked) := ⟨rfl, rfl, rfl, by decide +kernel, rfl, by decide +kernel, by decide +kernel⟩
theorem kit_lt (K : PySem.W.Frag) : PySem.W.kitAny K (.type "list") [.type "list", .type "tuple"] = some true := kitAny_cons (b := true) (kit_ty (by decide +kernel)) (fun z => by cases z) (fun _ => rfl)
theorem kit_tt (K : PySem.W.Frag) : PySem.W.kitAny K (.type "tuple") [.type "list", .type "tuple"] = some true := kitAny_cons (b := false) (kit_ty (by decide +kernel)) (fun _ => kitAny_cons (b := true) (kit_ty (by decide +kernel)) (fun z => by cases z) (fun _ => rfl)) (fun z => by cases z)
theorem ok_checked {f : Addr} {fd : FuncData} (F : FnP K "checked_pairs" sChecked f fd) (G : GPc K mg) : FnOk P w K mg base CX0 3 f fd ["thing", "count"] (spChecked K) := by
  have GP : FnOk P w K mg base CX0 2 G.fP G.fdP ["thing", "count"] spIsPair := ok_isPair G.FP G.FN G.gN G.toGIs
  have bP : Binds K G.fdP ["thing", "count"] [] := fn_binds G.FP fun _ _ _ _ _ _ us hl => match us, hl with | [_, _], _ => rfl
  have GO : FnOk P w K mg base CX0 2 G.fO G.fdO ["pairs"] (spInOrder K) := (ok_inOrder G.FO G.toGIs).mono (by decide)
  have bO : Binds K G.fdO ["pairs"] [] := fn_binds G.FO fun _ _ _ _ _ _ us hl => match us, hl with | [_], _ => rfl
  refine F.ok scChecked (fun vs H Q E h => ?_) (fun cdv A outer s H vs Q E hr h => ?_)
  · obtain ⟨a, l, n, rfl, _⟩ := h
    rfl
  · obtain ⟨a, l, n, rfl, ⟨vs0, ha, pvs0⟩, hl, hb, hn, hQ⟩ := h
    refine ⟨_, PSs.nox (pss_cons (ps_if (pt_not (pt_val (pe_callB call_isiT (by rfl) G.isinstance (by decide +kernel) (pa_cons (pv 0) (pa_cons (pe_tup (pa_cons (pe_bltn (v := .ty "list") (by rfl) G.list (by decide +kernel) rfl) (pa_cons (pe_bltn (v := .ty "tuple") (by rfl) G.tuple (by decide +kernel) rfl) pa_nil))) pa_nil))))) (pss_one ps_never) pss_nil)
      (pss_cons (ps_for PassesOwn.never rfl (pi_enumS (by rfl) G.enumerate (pa_cons (pv 0) pa_nil)) (pg_tup rfl (pgs_cons (pg_name (i := 2) scChecked.nd rfl (.inl rfl)) (pgs_cons (pg_name (i := 3) scChecked.nd rfl (.inl rfl)) pgs_nil)))
        (pss_one (ps_if (pt_not (pt_val (pe_call GP hr (by rfl) G.gP G.FP.kp bP .nil pass0 (pa_cons (pv 3) (pa_cons (pv 1) pa_nil))))) (pss_one ps_never) pss_nil)))
      (pss_one (ps_ret (pe_call GO hr (by rfl) G.gO G.FO.kp bO .nil pass0 (pa_cons (pv 0) pa_nil)))))), ?_⟩
    have hlen : vs0.length = l.length := (pd_len pvs0).symm
    refine ⟨_, rfl, small' (n := 2) (by decide), fun tp htp => ?_⟩
    have s1 := same_new (o := .tup [.ty "list", .ty "tuple"]) htp
    have main : ∀ σ H', (∃ v2 v3, σ = [some (.ref a), some (nV n), v2, v3]) → Same H H' → (tRet (tCall (spInOrder K) [] E0 (tCons (tVar 0) tNil))) { nx := fun _ H' => Q .non H', rt := Q } σ H' := by
      rintro σ H' ⟨v2, v3, rfl⟩ s2
      refine ⟨_, rfl, a, l, rfl, ⟨vs0, ha.imp (s2 _ _) (s2 _ _), pd_imp pvs0 fun _ _ r => r.keep s2⟩, hl, fun p hp => ?_, fun H3 t l' s3 hp hm hl' => hQ H3 t l' (s2.trans s3) hp hm hl'⟩
      have := hb p hp
      omega
    have step : ∀ (i : Nat) (v : V) (H1 : Hp), Same H H1 → vs0[i]? = some v → ∃ (t : Addr) (x y : Nat), v = .ref t ∧ H1 t = some (.tup [nV x, nV y]) ∧ x < n ∧ y < n ∧ x ≠ y := by
      intro i v H1 s2 hv
      obtain ⟨z, hz, t, rfl, ht⟩ := pd_get pvs0 hv
      obtain ⟨b1, b2, b3⟩ := hb z (List.mem_of_getElem? hz)
      exact ⟨t, z.1, z.2, rfl, s2 _ _ ht, b1, b2, b3⟩
    rcases ha with ha | ha
    · refine ⟨_, tp, [.ty "list", .ty "tuple"], .type "list", [.type "list", .type "tuple"], true, rfl, upd_same, .cons (.ty _) (.cons (.ty _) .nil), .base (.lst (s1 _ _ ha)), kit_lt K, true, rfl, ?_⟩
      refine ite2 (fun z => by cases z) fun _ => ?_
      refine ⟨_, rfl, a, rfl, .inl ⟨⟨_, SqL.of (s1 _ _ ha)⟩, for_any (n := l.length) (fun i σ H' => Same H H' ∧ ∃ v2 v3, σ = [some (.ref a), some (nV n), v2, v3]) ⟨s1, _, _, rfl⟩ (fun i σ H' hi h => ⟨_, _, SqL.of (h.1 _ _ ha), List.getElem?_eq_getElem (by omega)⟩) (fun σ H' h => ⟨_, SqL.of (h.1 _ _ ha), by omega⟩) ?_ (fun σ H' h => main σ H' h.2 h.1)⟩⟩
      rintro i y σ H1 H2 hi ⟨s2, v2, v3, rfl⟩ ⟨T, v, rfl, hT, rfl, hv⟩
      have s3 := same_new (o := .tup [.int (i : Nat), v]) hT
      obtain ⟨t, x, y, rfl, ht, b1, b2, b3⟩ := step i v _ (s2.trans s3) (hv _ (SqL.of (s2 _ _ ha)))
      refine ⟨T, _, rfl, SqT.of upd_same, rfl, _, _, rfl, _, _, rfl, rfl, ?_⟩
      refine ⟨_, rfl, _, rfl, t, x, y, n, rfl, ht, b1, b2, b3, true, rfl, ?_⟩
      refine ite2 (fun z => by cases z) fun _ => ?_
      exact ⟨s2.trans s3, _, _, rfl⟩
    · refine ⟨_, tp, [.ty "list", .ty "tuple"], .type "tuple", [.type "list", .type "tuple"], true, rfl, upd_same, .cons (.ty _) (.cons (.ty _) .nil), .base (.tup (s1 _ _ ha)), kit_tt K, true, rfl, ?_⟩
      refine ite2 (fun z => by cases z) fun _ => ?_
      refine ⟨_, rfl, a, rfl, .inr ⟨⟨_, SqT.of (s1 _ _ ha)⟩, for_any (n := l.length) (fun i σ H' => Same H H' ∧ ∃ v2 v3, σ = [some (.ref a), some (nV n), v2, v3]) ⟨s1, _, _, rfl⟩ (fun i σ H' hi h => ⟨_, _, SqT.of (h.1 _ _ ha), List.getElem?_eq_getElem (by omega)⟩) (fun σ H' h => ⟨_, SqT.of (h.1 _ _ ha), by omega⟩) ?_ (fun σ H' h => main σ H' h.2 h.1)⟩⟩
      rintro i y σ H1 H2 hi ⟨s2, v2, v3, rfl⟩ ⟨T, v, rfl, hT, rfl, hv⟩
      have s3 := same_new (o := .tup [.int (i : Nat), v]) hT
      obtain ⟨t, x, y, rfl, ht, b1, b2, b3⟩ := step i v _ (s2.trans s3) (hv _ (SqT.of (s2 _ _ ha)))
      refine ⟨T, _, rfl, SqT.of upd_same, rfl, _, _, rfl, _, _, rfl, rfl, ?_⟩
      refine ⟨_, rfl, _, rfl, t, x, y, n, rfl, ht, b1, b2, b3, true, rfl, ?_⟩
      refine ite2 (fun z => by cases z) fun _ => ?_
      exact ⟨s2.trans s3, _, _, rfl⟩
/-! ### require_sizes -/
abbrev sSizes : Stmt := top 25
def spSizes : Sp := fun vs H Q _ => ∃ (r i : Nat), vs = [nV r, nV i] ∧ 1 ≤ r ∧ Q .non H
theorem scSizes : FnScope ["rim", "inner"] ["rim", "inner"] (defScope sSizes) := ⟨rfl, rfl, rfl, by decide +kernel, rfl, by decide +kernel, by decide +kernel⟩
theorem ok_sizes {f : Addr} {fd : FuncData} (F : FnP K "require_sizes" sSizes f fd) (G : GPc K mg) : FnOk P w K mg base CX0 3 f fd ["rim", "inner"] spSizes := by
  have GN : FnOk P w K mg base CX0 2 G.fN G.fdN ["thing"] spIsNum := (ok_isNum G.FN G.toGIs).mono (by decide)
  have bN : Binds K G.fdN ["thing"] [] := fn_binds G.FN fun _ _ _ _ _ _ us hl => match us, hl with | [_], _ => rfl
  have GQ : FnOk P w K mg base CX0 2 G.fQ G.fdQ ["thing"] spReqNum := ok_reqNum G.FQ G.FN G.gN G.toGIs
  have bQ : Binds K G.fdQ ["thing"] [] := fn_binds G.FQ fun _ _ _ _ _ _ us hl => match us, hl with | [_], _ => rfl
  refine F.ok scSizes (fun vs H Q E h => ?_) (fun cdv A outer s H vs Q E hr h => ?_)
  · obtain ⟨r, i, rfl, _⟩ := h
    rfl
  · obtain ⟨r, i, rfl, h1, hQ⟩ := h
    refine ⟨_, PSs.nox (pss_cons (ps_if (PW.pt (pw_or (pt_not (pt_val (pe_call GN hr (by rfl) G.gN G.FN.kp bN .nil pass0 (pa_cons (pv 0) pa_nil)))) (pw_or1 (pt_cmpR op_eq (pv 0) pe_int (nomark _))))) (pss_one ps_never) pss_nil)
      (pss_one (ps_expr (pe_call GQ hr (by rfl) G.gQ G.FQ.kp bQ .nil pass0 (pa_cons (pv 1) pa_nil))))), ?_⟩
    refine ⟨_, rfl, r, rfl, true, rfl, ?_⟩
    refine ite2 (fun z => by cases z) fun _ => ?_
    refine ⟨_, rfl, rfl, _, rfl, ?_⟩
    have e : decide (nV r = V.int 0) = false := decide_eq_false fun z => by
      have := nV_eq (a := r) (b := 0)
      have := this.mp z
      omega
    refine ite2 (fun z => ?_) fun _ => ?_
    · rw [show decide (nV r = V.int 0) = false from e] at z
      cases z
    · exact ⟨_, rfl, i, rfl, hQ⟩
end
end Hue

set_option maxHeartbeats 4000000
namespace Hue
open PySem PySem.W PyProof.Rows L2
section
variable {P : Program} {w : World} {K : PySem.W.Frag} {mg : Str → Option Value} {base : Heap}
/-! ### Cap.__init__ -/
abbrev sCapI : Stmt := inClass (top 26) 0
def spCapI (K : PySem.W.Frag) (C : Addr) : Sp := fun vs H Q _ => ∃ (p dx u t : Addr) (r i : Nat) (un sa : List (Nat × Nat)), vs = [.ref p, nV r, nV i, .ref u, .ref t] ∧ H p = some (.ins C dx []) ∧ PairsS K (hide [p] H) u un ∧ PairsS K (hide [p] H) t sa ∧ 1 ≤ r ∧ r + i ≤ 10 ∧
  Below (r + i) un ∧ Below (r + i) sa ∧ un.length < 64 ∧ sa.length < 64 ∧
  ∀ H' un' sa', Same (hide [p] H) H' → PartAt C H' p r i un' sa' → (∀ q, q ∈ un' ↔ q ∈ un.map nrmP) → (∀ q, q ∈ sa' ↔ q ∈ sa.map nrmP) → un'.length < 64 → sa'.length < 64 → Q .non H'
abbrev nCapI : List Str := ["self", "rim", "inner", "unlike", "same"]
theorem scCapI : FnScope nCapI nCapI (defScope sCapI) := ⟨rfl, rfl, rfl, by decide +kernel, rfl, by decide +kernel, by decide +kernel⟩
theorem ok_CapI {C f fC fS : Addr} {fd fdC fdS : FuncData} (F : FunD K "__init__" "Cap.__init__" (defArgs sCapI) (defBody sCapI) (defScope sCapI) [.int 0] [] f fd) (T : PartC K C) (FC : FnP K "checked_pairs" sChecked fC fdC) (gC : mg "checked_pairs" = some (.ref fC)) (FS : FnP K "require_sizes" sSizes fS fdS) (gS : mg "require_sizes" = some (.ref fS)) (G : GPc K mg) :
    FnOk P w K mg base CX0 4 f fd nCapI (spCapI K C) := by
  have GC : FnOk P w K mg base CX0 3 fC fdC ["thing", "count"] (spChecked K) := ok_checked FC G
  have bC : Binds K fdC ["thing", "count"] [] := fn_binds FC fun _ _ _ _ _ _ us hl => match us, hl with | [_, _], _ => rfl
  have GS : FnOk P w K mg base CX0 3 fS fdS ["rim", "inner"] spSizes := ok_sizes FS G
  have bS : Binds K fdS ["rim", "inner"] [] := fn_binds FS fun _ _ _ _ _ _ us hl => match us, hl with | [_, _], _ => rfl
  refine F.ok scCapI (fun vs H Q E h => ?_) (fun cdv A outer s H vs Q E hr h => ?_)
  · obtain ⟨p, dx, u, t, r, i, un, sa, rfl, _⟩ := h
    rfl
  · obtain ⟨p, dx, u, t, r, i, un, sa, rfl, hp, hu, ht, h1, h2, b1, b2, l1, l2, hQ⟩ := h
    refine ⟨_, PSs.nox (pss_cons (ps_expr (pe_call GS hr (by rfl) gS FS.kp bS .nil pass0 (pa_cons (pv 1) (pa_cons (pv 2) pa_nil))))
      (pss_cons (ps_fld (pv 0) (pv 1) rfl) (pss_cons (ps_fld (pv 0) (pv 2) rfl)
      (pss_cons (ps_fld (pv 0) (pe_call GC hr (by rfl) gC FC.kp bC .nil pass0 (pa_cons (pv 3) (pa_cons (pe_op op_add (pv 1) (pv 2)) pa_nil))) rfl)
      (pss_one (ps_fld (pv 0) (pe_call GC hr (by rfl) gC FC.kp bC .nil pass0 (pa_cons (pv 4) (pa_cons (pe_op op_add (pv 1) (pv 2)) pa_nil))) rfl)))))), ?_⟩
    refine ⟨_, rfl, _, rfl, r, i, rfl, h1, ?_⟩
    refine ⟨_, rfl, _, rfl, p, C, dx, [], rfl, hp, T.cl, T.nR, (by show 0 < 1000; decide), ?_⟩
    rw [putP1]
    refine ⟨_, rfl, _, rfl, p, C, dx, _, rfl, upd_same, T.cl, T.nI, (by show 1 < 1000; decide), ?_⟩
    rw [putP2]
    have S0 : Same (hide [p] H) (upd (upd H p (.ins C dx [("rim", nV r)])) p (.ins C dx [("rim", nV r), ("inner", nV i)])) := same_hide_upd (by simp) (same_hide_upd (by simp) (hide_sub _ _))
    have hp0 : (upd (upd H p (.ins C dx [("rim", nV r)])) p (.ins C dx [("rim", nV r), ("inner", nV i)])) p = some (.ins C dx [("rim", nV r), ("inner", nV i)]) := upd_same
    have hB0 : hide [p] (upd (upd H p (.ins C dx [("rim", nV r)])) p (.ins C dx [("rim", nV r), ("inner", nV i)])) = hide [p] H := by rw [hide_upd (by simp), hide_upd (by simp)]
    revert S0 hp0 hB0
    generalize upd (upd H p (.ins C dx [("rim", nV r)])) p (.ins C dx [("rim", nV r), ("inner", nV i)]) = H0
    intro S0 hp0 hB0
    have en : V.int ((r : Int) + (i : Int)) = nV (r + i) := by unfold nV; congr 1
    refine ⟨_, rfl, _, rfl, _, rfl, _, _, rfl, rfl, ?_⟩
    refine ⟨u, un, r + i, by rw [← en]; rfl, hu.keep S0, l1, b1, h2, fun H1 tu un' s1 hpu hm1 hl1 => ?_⟩
    refine ⟨_, rfl, p, C, dx, _, rfl, s1 _ _ hp0, T.cl, T.nU, (by show 2 < 1000; decide), ?_⟩
    rw [putP3]
    have S1 : Same (hide [p] H) (hide [p] H1) := by
      have := hide_same [p] s1
      rwa [hB0] at this
    have hpu1 := hpu.hid (s1 _ _ hp0)
    have S2 : Same (hide [p] H1) (upd H1 p (.ins C dx [("rim", nV r), ("inner", nV i), ("unlike", .ref tu)])) := same_hide_upd (by simp) (hide_sub _ _)
    have hp2 : (upd H1 p (.ins C dx [("rim", nV r), ("inner", nV i), ("unlike", .ref tu)])) p = some (.ins C dx [("rim", nV r), ("inner", nV i), ("unlike", .ref tu)]) := upd_same
    have hB2 : hide [p] (upd H1 p (.ins C dx [("rim", nV r), ("inner", nV i), ("unlike", .ref tu)])) = hide [p] H1 := hide_upd (by simp)
    revert S2 hp2 hB2
    generalize upd H1 p (.ins C dx [("rim", nV r), ("inner", nV i), ("unlike", .ref tu)]) = H2
    intro S2 hp2 hB2
    have en : V.int ((r : Int) + (i : Int)) = nV (r + i) := by unfold nV; congr 1
    refine ⟨_, rfl, _, rfl, _, rfl, _, _, rfl, rfl, ?_⟩
    refine ⟨t, sa, r + i, by rw [← en]; rfl, ht.keep (S1.trans S2), l2, b2, h2, fun H3 ts sa' s3 hps hm2 hl2 => ?_⟩
    refine ⟨_, rfl, p, C, dx, _, rfl, s3 _ _ hp2, T.cl, T.nS, (by show 3 < 1000; decide), ?_⟩
    rw [putP4]
    have S3 : Same (hide [p] H1) (hide [p] H3) := by
      have := hide_same [p] s3
      rwa [hB2] at this
    have hps3 := hps.hid (s3 _ _ hp2)
    have S4 : Same (hide [p] H3) (upd H3 p (.ins C dx (partF r i tu ts))) := same_hide_upd (by simp) (hide_sub _ _)
    exact hQ _ un' sa' (S1.trans (S3.trans S4)) ⟨dx, tu, ts, upd_same, hpu1.keep (S3.trans S4), hps3.keep S4⟩ hm1 hm2 hl1 hl2
/-! ### Piece.__init__ -/
abbrev sPcI : Stmt := inClass (top 27) 0
def spPcI (K : PySem.W.Frag) (C : Addr) : Sp := fun vs H Q _ => ∃ (p dx u t : Addr) (r i : Nat) (un sa : List (Nat × Nat)), vs = [.ref p, nV r, nV i, .ref u, .ref t] ∧ H p = some (.ins C dx []) ∧ PairsS K (hide [p] H) u un ∧ PairsS K (hide [p] H) t sa ∧ 1 ≤ r ∧ 2 * r + i ≤ 10 ∧
  Below (2 * r + i) un ∧ Below (2 * r + i) sa ∧ un.length < 64 ∧ sa.length < 64 ∧
  ∀ H' un' sa', Same (hide [p] H) H' → PartAt C H' p r i un' sa' → (∀ q, q ∈ un' ↔ q ∈ un.map nrmP) → (∀ q, q ∈ sa' ↔ q ∈ sa.map nrmP) → un'.length < 64 → sa'.length < 64 → Q .non H'
abbrev nPcI : List Str := ["self", "rim", "inner", "unlike", "same"]
theorem scPcI : FnScope nPcI nPcI (defScope sPcI) := ⟨rfl, rfl, rfl, by decide +kernel, rfl, by decide +kernel, by decide +kernel⟩
theorem ok_PcI {C f fC fS : Addr} {fd fdC fdS : FuncData} (F : FunD K "__init__" "Piece.__init__" (defArgs sPcI) (defBody sPcI) (defScope sPcI) [.int 0] [] f fd) (T : PartC K C) (FC : FnP K "checked_pairs" sChecked fC fdC) (gC : mg "checked_pairs" = some (.ref fC)) (FS : FnP K "require_sizes" sSizes fS fdS) (gS : mg "require_sizes" = some (.ref fS)) (G : GPc K mg) :
    FnOk P w K mg base CX0 4 f fd nPcI (spPcI K C) := by
  have GC : FnOk P w K mg base CX0 3 fC fdC ["thing", "count"] (spChecked K) := ok_checked FC G
  have bC : Binds K fdC ["thing", "count"] [] := fn_binds FC fun _ _ _ _ _ _ us hl => match us, hl with | [_, _], _ => rfl
  have GS : FnOk P w K mg base CX0 3 fS fdS ["rim", "inner"] spSizes := ok_sizes FS G
  have bS : Binds K fdS ["rim", "inner"] [] := fn_binds FS fun _ _ _ _ _ _ us hl => match us, hl with | [_, _], _ => rfl
  refine F.ok scPcI (fun vs H Q E h => ?_) (fun cdv A outer s H vs Q E hr h => ?_)
  · obtain ⟨p, dx, u, t, r, i, un, sa, rfl, _⟩ := h
    rfl
  · obtain ⟨p, dx, u, t, r, i, un, sa, rfl, hp, hu, ht, h1, h2, b1, b2, l1, l2, hQ⟩ := h
    refine ⟨_, PSs.nox (pss_cons (ps_expr (pe_call GS hr (by rfl) gS FS.kp bS .nil pass0 (pa_cons (pv 1) (pa_cons (pv 2) pa_nil))))
      (pss_cons (ps_fld (pv 0) (pv 1) rfl) (pss_cons (ps_fld (pv 0) (pv 2) rfl)
      (pss_cons (ps_fld (pv 0) (pe_call GC hr (by rfl) gC FC.kp bC .nil pass0 (pa_cons (pv 3) (pa_cons (pe_op op_add (pe_op op_mul pe_int (pv 1)) (pv 2)) pa_nil))) rfl)
      (pss_one (ps_fld (pv 0) (pe_call GC hr (by rfl) gC FC.kp bC .nil pass0 (pa_cons (pv 4) (pa_cons (pe_op op_add (pe_op op_mul pe_int (pv 1)) (pv 2)) pa_nil))) rfl)))))), ?_⟩
    refine ⟨_, rfl, _, rfl, r, i, rfl, h1, ?_⟩
    refine ⟨_, rfl, _, rfl, p, C, dx, [], rfl, hp, T.cl, T.nR, (by show 0 < 1000; decide), ?_⟩
    rw [putP1]
    refine ⟨_, rfl, _, rfl, p, C, dx, _, rfl, upd_same, T.cl, T.nI, (by show 1 < 1000; decide), ?_⟩
    rw [putP2]
    have S0 : Same (hide [p] H) (upd (upd H p (.ins C dx [("rim", nV r)])) p (.ins C dx [("rim", nV r), ("inner", nV i)])) := same_hide_upd (by simp) (same_hide_upd (by simp) (hide_sub _ _))
    have hp0 : (upd (upd H p (.ins C dx [("rim", nV r)])) p (.ins C dx [("rim", nV r), ("inner", nV i)])) p = some (.ins C dx [("rim", nV r), ("inner", nV i)]) := upd_same
    have hB0 : hide [p] (upd (upd H p (.ins C dx [("rim", nV r)])) p (.ins C dx [("rim", nV r), ("inner", nV i)])) = hide [p] H := by rw [hide_upd (by simp), hide_upd (by simp)]
    revert S0 hp0 hB0
    generalize upd (upd H p (.ins C dx [("rim", nV r)])) p (.ins C dx [("rim", nV r), ("inner", nV i)]) = H0
    intro S0 hp0 hB0
    have en : V.int (2 * (r : Int) + (i : Int)) = nV (2 * r + i) := by unfold nV; congr 1
    refine ⟨_, rfl, _, rfl, _, _, rfl, rfl, .inl ⟨by decide, by decide⟩, _, rfl, _, _, rfl, rfl, ?_⟩
    refine ⟨u, un, 2 * r + i, by rw [← en]; rfl, hu.keep S0, l1, b1, h2, fun H1 tu un' s1 hpu hm1 hl1 => ?_⟩
    refine ⟨_, rfl, p, C, dx, _, rfl, s1 _ _ hp0, T.cl, T.nU, (by show 2 < 1000; decide), ?_⟩
    rw [putP3]
    have S1 : Same (hide [p] H) (hide [p] H1) := by
      have := hide_same [p] s1
      rwa [hB0] at this
    have hpu1 := hpu.hid (s1 _ _ hp0)
    have S2 : Same (hide [p] H1) (upd H1 p (.ins C dx [("rim", nV r), ("inner", nV i), ("unlike", .ref tu)])) := same_hide_upd (by simp) (hide_sub _ _)
    have hp2 : (upd H1 p (.ins C dx [("rim", nV r), ("inner", nV i), ("unlike", .ref tu)])) p = some (.ins C dx [("rim", nV r), ("inner", nV i), ("unlike", .ref tu)]) := upd_same
    have hB2 : hide [p] (upd H1 p (.ins C dx [("rim", nV r), ("inner", nV i), ("unlike", .ref tu)])) = hide [p] H1 := hide_upd (by simp)
    revert S2 hp2 hB2
    generalize upd H1 p (.ins C dx [("rim", nV r), ("inner", nV i), ("unlike", .ref tu)]) = H2
    intro S2 hp2 hB2
    have en : V.int (2 * (r : Int) + (i : Int)) = nV (2 * r + i) := by unfold nV; congr 1
    refine ⟨_, rfl, _, rfl, _, _, rfl, rfl, .inl ⟨by decide, by decide⟩, _, rfl, _, _, rfl, rfl, ?_⟩
    refine ⟨t, sa, 2 * r + i, by rw [← en]; rfl, ht.keep (S1.trans S2), l2, b2, h2, fun H3 ts sa' s3 hps hm2 hl2 => ?_⟩
    refine ⟨_, rfl, p, C, dx, _, rfl, s3 _ _ hp2, T.cl, T.nS, (by show 3 < 1000; decide), ?_⟩
    rw [putP4]
    have S3 : Same (hide [p] H1) (hide [p] H3) := by
      have := hide_same [p] s3
      rwa [hB2] at this
    have hps3 := hps.hid (s3 _ _ hp2)
    have S4 : Same (hide [p] H3) (upd H3 p (.ins C dx (partF r i tu ts))) := same_hide_upd (by simp) (hide_sub _ _)
    exact hQ _ un' sa' (S1.trans (S3.trans S4)) ⟨dx, tu, ts, upd_same, hpu1.keep (S3.trans S4), hps3.keep S4⟩ hm1 hm2 hl1 hl2
end
end Hue

set_option maxHeartbeats 4000000
namespace Hue
open PySem PySem.W PyProof.Rows L2
/-- what isinstance needs of a class -/
structure InsK (K : PySem.W.Frag) (C : Addr) : Prop where
  cl : Cls K C
  ha : PySem.W.findIn K (.ref C) "__class__" = some (some (.builtin "object.__class__"))
  hn : PySem.W.specialIn K (.builtin "object.__class__") "__get__" = some (some (.builtin "getset_descriptor.__get__"))
  htk : PySem.W.takesIn K (.builtin "object.__class__") = some true
  hm : PySem.W.mroIn K C (.type "object") = some true
theorem InsK.ty {K : PySem.W.Frag} {C a dx : Addr} {H : Hp} {fs : List (Str × V)} (I : InsK K C) (h : H a = some (.ins C dx fs)) : TyX K H (.ref a) (.ref C) := .base (.ins h I.cl I.ha I.hn I.htk I.hm)
theorem putW3 (a : V) : putF "held" a [] = [(("held" : Str), a)] := rfl
theorem putW4 (a b : V) : putF "rim" b [(("held" : Str), a)] = [(("held" : Str), a), ("rim", b)] := rfl
def PiecesL (CP : Addr) (H : Hp) (a : Addr) (r : Nat) (row : List Pc) : Prop := ∃ vs, H a = some (.lst vs) ∧ Paired (RPiece CP r H) row vs
theorem PiecesL.keep {CP : Addr} {H H' : Hp} {a : Addr} {r : Nat} {row : List Pc} (k : Same H H') (h : PiecesL CP H a r row) : PiecesL CP H' a r row := by
  obtain ⟨vs, h1, h2⟩ := h
  exact ⟨vs, k _ _ h1, pd_imp h2 fun _ _ r => r.keep k⟩
section
variable {P : Program} {w : World} {K : PySem.W.Frag} {mg : Str → Option Value} {base : Heap}
/-! ### Row.__init__ -/
abbrev sRowInit : Stmt := inClass (top 28) 0
def spRowInit (CR CP : Addr) : Sp := fun vs H Q _ => ∃ (p dx a : Addr) (r : Nat) (row : List Pc), vs = [.ref p, .ref a] ∧ H p = some (.ins CR dx []) ∧ PiecesL CP (hide [p] H) a r row ∧ 1 ≤ row.length ∧ row.length ≤ 10 ∧
  ∀ H', Same (hide [p] H) H' → RowAt CR CP H' p r row → Q .non H'
abbrev nRowInit : List Str := ["self", "pieces", "place", "piece"]
theorem scRowInit : FnScope nRowInit ["self", "pieces"] (defScope sRowInit) := ⟨rfl, rfl, rfl, by decide +kernel, rfl, by decide +kernel, by decide +kernel⟩
theorem ok_rowInit {f CR CP : Addr} {fd : FuncData} (F : FunD K "__init__" "Row.__init__" (defArgs sRowInit) (defBody sRowInit) (defScope sRowInit) [] [] f fd) (T : RowC K CR) (TP : PartC K CP) (IP : InsK K CP) (gP : mg "Piece" = some (.ref CP)) (kP : PySem.W.kitOne K (.ref CP) (.ref CP) = some true) (G : GIs mg) :
    FnOk P w K mg base CX0 1 f fd ["self", "pieces"] (spRowInit CR CP) := by
  refine F.ok scRowInit (fun vs H Q E h => ?_) (fun cdv A outer s H vs Q E hr h => ?_)
  · obtain ⟨p, dx, a, r, row, rfl, _⟩ := h
    rfl
  · obtain ⟨p, dx, a, r, row, rfl, hp, ⟨vs0, ha0, pvs0⟩, l1, l2, hQ⟩ := h
    refine ⟨_, PSs.nox (pss_cons (ps_if (PW.pt (pw_or (pt_not (pt_val (pe_callB call_isiT (by rfl) G.isinstance (by decide +kernel) (pa_cons (pv 1) (pa_cons (pe_tup (pa_cons (pe_bltn (v := .ty "list") (by rfl) G.list (by decide +kernel) rfl) (pa_cons (pe_bltn (v := .ty "tuple") (by rfl) G.tuple (by decide +kernel) rfl) pa_nil))) pa_nil)))))
          (pw_or1 (pt_cmpR op_eq (pe_callB call_len_seq (by rfl) G.len boot_len (pa_cons (pv 1) pa_nil)) pe_int (nomark _))))) (pss_one ps_never) pss_nil)
      (pss_cons (ps_for PassesOwn.never rfl (pi_enumS (by rfl) G.enumerate (pa_cons (pv 1) pa_nil)) (pg_tup rfl (pgs_cons (pg_name (i := 2) scRowInit.nd rfl (.inl rfl)) (pgs_cons (pg_name (i := 3) scRowInit.nd rfl (.inl rfl)) pgs_nil)))
        (pss_one (ps_if (pt_not (pt_val (pe_callB call_isi (by rfl) G.isinstance (by decide +kernel) (pa_cons (pv 3) (pa_cons (pe_glob (v := .ref CP) (by rfl) gP rfl) pa_nil))))) (pss_one ps_never) pss_nil)))
      (pss_cons (ps_if (pt_cmpR (op_neD hr.units) (pe_lc (own := [("piece", 3)]) (g := gName 3) (te := tC (.int 1)) (tt := tTest (tOp rNe (tFld K (tVar 3) "rim") (tFld K (tOp (rIxL K) (tVar 1) (tC (.int 0))) "rim"))) rfl scRowInit.nd (pi_list (pv 1)) (blkOk_by (N := nRowInit) (sc := defScope sRowInit) (by decide +kernel)) (fun _ _ _ _ _ => pg_name (i := 3) scRowInit.nd rfl (.inl rfl))
          (fun _ _ _ _ _ => pts_one (pt_cmpR op_ne (pe_fld (pv 3) rfl) (pe_fld (pe_ix (r := rIxL K) ix_list (pv 1) pe_int (fun _ _ => rfl)) rfl) (nomark _))) (fun _ _ _ _ _ => pe_int)) (pe_lst pa_nil) (nomark _)) (pss_one ps_never) pss_nil)
      (pss_cons (ps_fld (pv 0) (pe_callTy call_tuple_of (by rfl) G.tuple (by decide +kernel) (pa_cons (pv 1) pa_nil)) rfl)
      (pss_one (ps_fld (pv 0) (pe_fld (pe_ix ix_list (pv 1) pe_int (fun _ _ => rfl)) rfl) rfl)))))), ?_⟩
    have ha : H a = some (.lst vs0) := hide_sub [p] H _ _ ha0
    have pvs : Paired (RPiece CP r H) row vs0 := pd_imp pvs0 fun _ _ r => r.keep (hide_sub [p] H)
    have hlen : vs0.length = row.length := (pd_len pvs).symm
    refine ⟨_, rfl, small' (n := 2) (by decide), fun tp htp => ?_⟩
    have s1 := same_new (o := .tup [.ty "list", .ty "tuple"]) htp
    refine ⟨_, tp, [.ty "list", .ty "tuple"], .type "list", [.type "list", .type "tuple"], true, rfl, upd_same, .cons (.ty _) (.cons (.ty _) .nil), .base (.lst (s1 _ _ ha)), kit_lt K, true, rfl, ?_⟩
    refine ite2 (fun z => by cases z) fun _ => ?_
    have e0 : decide (V.int (vs0.length : Int) = V.int 0) = false := decide_eq_false fun z => by
      injection z with z
      omega
    refine ⟨_, rfl, a, _, rfl, .inl (SqL.of (s1 _ _ ha)), rfl, _, rfl, ?_⟩
    refine ite2 (fun z => ?_) fun _ => ?_
    · rw [show decide (V.int (vs0.length : Int) = V.int 0) = false from e0] at z
      cases z
    refine ⟨_, rfl, a, rfl, .inl ⟨⟨_, SqL.of (s1 _ _ ha)⟩, for_any (n := row.length) (fun i σ H' => Same H H' ∧ ∃ v2 v3, σ = [some (.ref p), some (.ref a), v2, v3]) ⟨s1, _, _, rfl⟩ (fun i σ H' hi h => ⟨_, _, SqL.of (h.1 _ _ ha), List.getElem?_eq_getElem (by omega)⟩) (fun σ H' h => ⟨_, SqL.of (h.1 _ _ ha), by omega⟩) ?_ ?_⟩⟩
    · rintro i y σ H1 H2 hi ⟨s2, v2, v3, rfl⟩ ⟨T1, v, rfl, hT, rfl, hv⟩
      have s3 := same_new (o := .tup [.int (i : Nat), v]) hT
      have hv := hv _ (SqL.of (s2 _ _ ha))
      obtain ⟨pc, hpc, b, rfl, dxb, tu, ts, hb, _⟩ := pd_get pvs hv
      refine ⟨T1, _, rfl, SqT.of upd_same, rfl, _, _, rfl, _, _, rfl, rfl, ?_⟩
      refine ⟨_, rfl, _, _, .ref CP, .ref CP, true, rfl, .own CP, IP.ty ((s2.trans s3) _ _ hb), kP, true, rfl, ?_⟩
      refine ite2 (fun z => by cases z) fun _ => ?_
      exact ⟨s2.trans s3, _, _, rfl⟩
    · rintro σ H1 ⟨s2, v2, v3, rfl⟩
      obtain ⟨p0, hp0⟩ : ∃ x, row[0]? = some x := ⟨row[0], List.getElem?_eq_getElem (by omega)⟩
      obtain ⟨v0, hv0, b0, rfl, dx0, tu0, ts0, hb0, _⟩ := pd_getL pvs hp0
      have at0 : atI vs0 0 = some (.ref b0) := atI_nat (j := 0) hv0
      refine ⟨_, rfl, a, rfl, ⟨_, SqL.of (s2 _ _ ha)⟩, fun D hD => lc_list (K := K) (a := a) (xs := vs0) (fun i H' => Same H1 H' ∧ H' D = some (.lst [])) ⟨same_new hD, upd_same⟩ (fun i H' _ h => SqL.of ((s2.trans h.1) _ _ ha)) ?_ ?_⟩
      · rintro i y H2 hi ⟨s3, hD3⟩
        obtain ⟨pc, hpc, b, rfl, dxb, tu, ts, hb, _⟩ := pd_get pvs hi
        refine ⟨rfl, _, rfl, b, CP, dxb, _, _, rfl, (s2.trans s3) _ _ hb, TP.cl, TP.nR, partF_rim _ _ tu ts, _, rfl, a, _, _, _, rfl, rfl, SqL.of ((s2.trans s3) _ _ ha), at0, b0, CP, dx0, _, _, rfl, (s2.trans s3) _ _ hb0, TP.cl, TP.nR, partF_rim _ _ tu0 ts0, rfl, _, rfl, ?_⟩
        refine ite2 (fun z => ?_) fun _ => ?_
        · exfalso
          rw [decide_eq_true rfl] at z
          cases z
        · exact ⟨s3, hD3⟩
      · rintro H2 ⟨s3, hD3⟩
        refine ⟨Nat.zero_le _, fun E1 hE => ?_⟩
        have s4 := same_new (o := .lst []) hE
        refine ⟨.list [], .list [], .lst (SqL.of (s4 _ _ hD3)) .nil, .lst (SqL.of upd_same) .nil, by decide, by decide, _, rfl, ?_⟩
        have e1 : (!PyData.eqv (.list []) (.list [])) = false := by simp [PyData.eqv, PyData.eqvAll]
        refine ite2 (fun z => ?_) fun _ => ?_
        · rw [e1] at z
          cases z
        have s5 := s2.trans (s3.trans s4)
        refine ⟨_, rfl, a, _, rfl, .inl ⟨SqL.of (s5 _ _ ha), fun t ht => ?_⟩⟩
        have s6 := same_new (o := .tup vs0) ht
        have s56 := s5.trans s6
        have hp6 := s56 _ _ hp
        refine ⟨_, rfl, p, CR, dx, [], rfl, hp6, T.cl, T.nH, (by show 0 < 1000; decide), ?_⟩
        rw [putW3]
        have npt : t ≠ p := fun z => by rw [z, s5 _ _ hp] at ht; cases ht
        have S7 : ∀ o : HO, Same (hide [p] H) (upd (upd (upd (upd H2 E1 (.lst [])) t (.tup vs0)) p (.ins CR dx [("held", .ref t)])) p o) := fun o => same_hide_upd (by simp) (same_hide_upd (by simp) ((hide_sub _ _).trans s56))
        have ne : ∀ {b : Addr} {o : HO}, hide [p] H b = some o → b ≠ p := fun {b o} e z => by rw [z, hide_in (by simp)] at e; cases e
        have hav : (upd (upd (upd H2 E1 (.lst [])) t (.tup vs0)) p (.ins CR dx [("held", .ref t)])) a = some (.lst vs0) := by rw [upd_ne (ne ha0)]; exact s56 _ _ ha
        have hbv : ∃ dx0 tu0 ts0, (upd (upd (upd H2 E1 (.lst [])) t (.tup vs0)) p (.ins CR dx [("held", .ref t)])) b0 = some (.ins CP dx0 (partF r p0.inner tu0 ts0)) := by
          obtain ⟨v, hv, b, e, dxb, tu, ts, hb, _⟩ := pd_getL pvs0 hp0
          rw [hv0] at hv
          cases hv
          cases e
          exact ⟨dxb, tu, ts, by rw [upd_ne (ne hb)]; exact s56 _ _ (hide_sub [p] H _ _ hb)⟩
        obtain ⟨dx1, tu1, ts1, hb1⟩ := hbv
        refine ⟨_, rfl, a, _, _, _, rfl, rfl, SqL.of hav, at0, b0, CP, dx1, _, _, rfl, hb1, TP.cl, TP.nR, partF_rim _ _ tu1 ts1, _, rfl, p, CR, dx, _, rfl, upd_same, T.cl, T.nR, (by show 1 < 1000; decide), ?_⟩
        rw [putW4]
        refine hQ _ (S7 _) ⟨dx, t, vs0, upd_same, ?_, pd_imp pvs0 fun _ _ r => r.keep (S7 _)⟩
        rw [upd_ne npt, upd_ne npt]
        exact upd_same
end
end Hue

set_option maxHeartbeats 4000000
namespace Hue
open PySem PySem.W PyProof.Rows L2
theorem putS1 (a : V) : putF "head" a [] = [(("head" : Str), a)] := rfl
theorem putS2 (a b : V) : putF "row" b [(("head" : Str), a)] = [(("head" : Str), a), ("row", b)] := rfl
theorem putS3 (a b c : V) : putF "tail" c [(("head" : Str), a), ("row", b)] = [(("head" : Str), a), ("row", b), ("tail", c)] := rfl
theorem putG1 (a : V) : putF "row" a [] = [(("row" : Str), a)] := rfl
def stripF (h r t : Addr) : List (Str × V) := [("head", .ref h), ("row", .ref r), ("tail", .ref t)]
theorem stripF_head (h r t : Addr) : (stripF h r t).lookup ("head" : Str) = some (.ref h) := rfl
theorem stripF_row (h r t : Addr) : (stripF h r t).lookup ("row" : Str) = some (.ref r) := rfl
theorem stripF_tail (h r t : Addr) : (stripF h r t).lookup ("tail" : Str) = some (.ref t) := rfl
structure StripC (K : PySem.W.Frag) (C : Addr) : Prop where
  cl : Cls K C
  nH : NoAttr K C "head"
  nR : NoAttr K C "row"
  nT : NoAttr K C "tail"
structure RingC (K : PySem.W.Frag) (C : Addr) : Prop where
  cl : Cls K C
  nR : NoAttr K C "row"
/-- the classes of pieces, rows and webs, as the module has made them -/
structure GCls (K : PySem.W.Frag) (mg : Str → Option Value) extends GIs mg where
  CC : Addr
  CPc : Addr
  CRw : Addr
  CS : Addr
  CG : Addr
  capC : PartC K CC
  pieceC : PartC K CPc
  rowC' : RowC K CRw
  stripC : StripC K CS
  ringC : RingC K CG
  iC : InsK K CC
  iP : InsK K CPc
  iR : InsK K CRw
  iS : InsK K CS
  iG : InsK K CG
  gCc : mg "Cap" = some (.ref CC)
  gPc : mg "Piece" = some (.ref CPc)
  gRw : mg "Row" = some (.ref CRw)
  gSt : mg "Strip" = some (.ref CS)
  gRg : mg "Ring" = some (.ref CG)
  kC : PySem.W.kitOne K (.ref CC) (.ref CC) = some true
  kP : PySem.W.kitOne K (.ref CPc) (.ref CPc) = some true
  kR : PySem.W.kitOne K (.ref CRw) (.ref CRw) = some true
  kS : PySem.W.kitOne K (.ref CS) (.ref CS) = some true
  kG : PySem.W.kitOne K (.ref CG) (.ref CG) = some true
  kSG : PySem.W.kitOne K (.ref CS) (.ref CG) = some false
  kGS : PySem.W.kitOne K (.ref CG) (.ref CS) = some false
section
variable {P : Program} {w : World} {K : PySem.W.Frag} {mg : Str → Option Value} {base : Heap}
def spReqI (C : Addr) : Sp := fun vs H Q _ => ∃ (a dx : Addr) (fs : List (Str × V)), vs = [.ref a] ∧ H a = some (.ins C dx fs) ∧ Q .non H
abbrev sReqRow : Stmt := top 32
theorem scReqRow : FnScope ["thing"] ["thing"] (defScope sReqRow) := ⟨rfl, rfl, rfl, by decide +kernel, rfl, by decide +kernel, by decide +kernel⟩
theorem ok_ReqRow {f : Addr} {fd : FuncData} (F : FnP K "require_row" sReqRow f fd) (G : GCls K mg) : FnOk P w K mg base CX0 1 f fd ["thing"] (spReqI G.CRw) := by
  refine F.ok scReqRow (fun vs H Q E h => ?_) (fun cdv A outer s H vs Q E hr h => ?_)
  · obtain ⟨a, dx, fs, rfl, _⟩ := h
    rfl
  · obtain ⟨a, dx, fs, rfl, ha, hQ⟩ := h
    refine ⟨_, PSs.nox (pss_one (ps_if (pt_not (pt_val (pe_callB call_isi (by rfl) G.isinstance (by decide +kernel) (pa_cons (pv 0) (pa_cons (pe_glob (v := .ref G.CRw) (by rfl) G.gRw rfl) pa_nil))))) (pss_one ps_never) pss_nil)), ?_⟩
    refine ⟨_, rfl, _, _, .ref G.CRw, .ref G.CRw, true, rfl, .own G.CRw, G.iR.ty ha, G.kR, true, rfl, ?_⟩
    exact ite2 (fun z => by cases z) fun _ => hQ
abbrev sReqCap : Stmt := top 33
theorem scReqCap : FnScope ["thing"] ["thing"] (defScope sReqCap) := ⟨rfl, rfl, rfl, by decide +kernel, rfl, by decide +kernel, by decide +kernel⟩
theorem ok_ReqCap {f : Addr} {fd : FuncData} (F : FnP K "require_cap" sReqCap f fd) (G : GCls K mg) : FnOk P w K mg base CX0 1 f fd ["thing"] (spReqI G.CC) := by
  refine F.ok scReqCap (fun vs H Q E h => ?_) (fun cdv A outer s H vs Q E hr h => ?_)
  · obtain ⟨a, dx, fs, rfl, _⟩ := h
    rfl
  · obtain ⟨a, dx, fs, rfl, ha, hQ⟩ := h
    refine ⟨_, PSs.nox (pss_one (ps_if (pt_not (pt_val (pe_callB call_isi (by rfl) G.isinstance (by decide +kernel) (pa_cons (pv 0) (pa_cons (pe_glob (v := .ref G.CC) (by rfl) G.gCc rfl) pa_nil))))) (pss_one ps_never) pss_nil)), ?_⟩
    refine ⟨_, rfl, _, _, .ref G.CC, .ref G.CC, true, rfl, .own G.CC, G.iC.ty ha, G.kC, true, rfl, ?_⟩
    exact ite2 (fun z => by cases z) fun _ => hQ
abbrev sReqWeb : Stmt := top 34
def spReqWeb (CS CG : Addr) : Sp := fun vs H Q _ => ∃ (a dx : Addr) (fs : List (Str × V)), vs = [.ref a] ∧ (H a = some (.ins CS dx fs) ∨ H a = some (.ins CG dx fs)) ∧ Q .non H
theorem scReqWeb : FnScope ["thing"] ["thing"] (defScope sReqWeb) := ⟨rfl, rfl, rfl, by decide +kernel, rfl, by decide +kernel, by decide +kernel⟩
theorem same_req {Q : VK} {H : Hp} : True := trivial
def spReqWeb' (CS CG : Addr) : Sp := fun vs H Q _ => ∃ (a dx : Addr) (fs : List (Str × V)), vs = [.ref a] ∧ (H a = some (.ins CS dx fs) ∨ H a = some (.ins CG dx fs)) ∧ ∀ H', Same H H' → Q .non H'
theorem ok_reqWeb {f : Addr} {fd : FuncData} (F : FnP K "require_web" sReqWeb f fd) (G : GCls K mg) : FnOk P w K mg base CX0 1 f fd ["thing"] (spReqWeb' G.CS G.CG) := by
  refine F.ok scReqWeb (fun vs H Q E h => ?_) (fun cdv A outer s H vs Q E hr h => ?_)
  · obtain ⟨a, dx, fs, rfl, _⟩ := h
    rfl
  · obtain ⟨a, dx, fs, rfl, ha, hQ⟩ := h
    refine ⟨_, PSs.nox (pss_one (ps_if (pt_not (pt_val (pe_callB call_isiT (by rfl) G.isinstance (by decide +kernel) (pa_cons (pv 0) (pa_cons (pe_tup (pa_cons (pe_glob (v := .ref G.CS) (by rfl) G.gSt rfl) (pa_cons (pe_glob (v := .ref G.CG) (by rfl) G.gRg rfl) pa_nil))) pa_nil))))) (pss_one ps_never) pss_nil)), ?_⟩
    refine ⟨_, rfl, small' (n := 2) (by decide), fun tp htp => ?_⟩
    have s1 := same_new (o := .tup [.ref G.CS, .ref G.CG]) htp
    rcases ha with ha | ha
    · refine ⟨_, tp, [.ref G.CS, .ref G.CG], .ref G.CS, [.ref G.CS, .ref G.CG], true, rfl, upd_same, .cons (.own _) (.cons (.own _) .nil), G.iS.ty (s1 _ _ ha), kitAny_cons (b := true) G.kS (fun z => by cases z) (fun _ => rfl), true, rfl, ?_⟩
      exact ite2 (fun z => by cases z) fun _ => hQ _ s1
    · refine ⟨_, tp, [.ref G.CS, .ref G.CG], .ref G.CG, [.ref G.CS, .ref G.CG], true, rfl, upd_same, .cons (.own _) (.cons (.own _) .nil), G.iG.ty (s1 _ _ ha), kitAny_cons (b := false) G.kGS (fun _ => kitAny_cons (b := true) G.kG (fun z => by cases z) (fun _ => rfl)) (fun z => by cases z), true, rfl, ?_⟩
      exact ite2 (fun z => by cases z) fun _ => hQ _ s1
/-! ### Strip, Ring -/
abbrev sStripI : Stmt := inClass (top 38) 0
def StripAt (CS CC CR CP : Addr) (H : Hp) (p : Addr) (r : Nat) (row : List Pc) (hd tl : Pc) : Prop := ∃ dx h ra t, H p = some (.ins CS dx (stripF h ra t)) ∧ PartAt CC H h r hd.inner hd.un hd.sa ∧ RowAt CR CP H ra r row ∧ PartAt CC H t r tl.inner tl.un tl.sa
theorem StripAt.keep {CS CC CR CP : Addr} {H H' : Hp} {p : Addr} {r : Nat} {row : List Pc} {hd tl : Pc} (k : Same H H') (h : StripAt CS CC CR CP H p r row hd tl) : StripAt CS CC CR CP H' p r row hd tl := by
  obtain ⟨dx, h, ra, t, a, b, c, d⟩ := h
  exact ⟨dx, h, ra, t, k _ _ a, b.keep k, c.keep k, d.keep k⟩
def spStripI (CS CC CR CP : Addr) : Sp := fun vs H Q _ => ∃ (p dx h ra t : Addr) (r : Nat) (row : List Pc) (hd tl : Pc), vs = [.ref p, .ref h, .ref ra, .ref t] ∧ H p = some (.ins CS dx []) ∧ PartAt CC (hide [p] H) h r hd.inner hd.un hd.sa ∧ RowAt CR CP (hide [p] H) ra r row ∧ PartAt CC (hide [p] H) t r tl.inner tl.un tl.sa ∧
  ∀ H', Same (hide [p] H) H' → StripAt CS CC CR CP H' p r row hd tl → Q .non H'
abbrev nStripI : List Str := ["self", "head", "row", "tail"]
theorem scStripI : FnScope nStripI nStripI (defScope sStripI) := ⟨rfl, rfl, rfl, by decide +kernel, rfl, by decide +kernel, by decide +kernel⟩
theorem ok_stripI {f fC fR : Addr} {fd fdC fdR : FuncData} (F : FunD K "__init__" "Strip.__init__" (defArgs sStripI) (defBody sStripI) (defScope sStripI) [] [] f fd) (G : GCls K mg) (FC : FnP K "require_cap" sReqCap fC fdC) (gC : mg "require_cap" = some (.ref fC)) (FR : FnP K "require_row" sReqRow fR fdR) (gR : mg "require_row" = some (.ref fR)) :
    FnOk P w K mg base CX0 2 f fd nStripI (spStripI G.CS G.CC G.CRw G.CPc) := by
  have GC : FnOk P w K mg base CX0 1 fC fdC ["thing"] (spReqI G.CC) := ok_ReqCap FC G
  have bC : Binds K fdC ["thing"] [] := fn_binds FC fun _ _ _ _ _ _ us hl => match us, hl with | [_], _ => rfl
  have GR : FnOk P w K mg base CX0 1 fR fdR ["thing"] (spReqI G.CRw) := ok_ReqRow FR G
  have bR : Binds K fdR ["thing"] [] := fn_binds FR fun _ _ _ _ _ _ us hl => match us, hl with | [_], _ => rfl
  refine F.ok scStripI (fun vs H Q E h => ?_) (fun cdv A outer s H vs Q E hr h => ?_)
  · obtain ⟨p, dx, h, ra, t, r, row, hd, tl, rfl, _⟩ := h
    rfl
  · obtain ⟨p, dx, h, ra, t, r, row, hd, tl, rfl, hp, hh, hrw, ht, hQ⟩ := h
    refine ⟨_, PSs.nox (pss_cons (ps_expr (pe_call GC hr (by rfl) gC FC.kp bC .nil pass0 (pa_cons (pv 1) pa_nil)))
      (pss_cons (ps_expr (pe_call GR hr (by rfl) gR FR.kp bR .nil pass0 (pa_cons (pv 2) pa_nil)))
      (pss_cons (ps_expr (pe_call GC hr (by rfl) gC FC.kp bC .nil pass0 (pa_cons (pv 3) pa_nil)))
      (pss_cons (ps_if (PW.pt (pw_or (pt_cmpR op_ne (pe_fld (pv 1) rfl) (pe_fld (pv 2) rfl) (nomark _)) (pw_or1 (pt_cmpR op_ne (pe_fld (pv 3) rfl) (pe_fld (pv 2) rfl) (nomark _))))) (pss_one ps_never) pss_nil)
      (pss_cons (ps_fld (pv 0) (pv 1) rfl) (pss_cons (ps_fld (pv 0) (pv 2) rfl) (pss_one (ps_fld (pv 0) (pv 3) rfl)))))))), ?_⟩
    obtain ⟨dh, hu, hs, eh, _⟩ := hh.keep (hide_sub [p] H)
    obtain ⟨dr, tr, vr, er, _⟩ := hrw.keep (hide_sub [p] H)
    obtain ⟨dt, tu, ts, et, _⟩ := ht.keep (hide_sub [p] H)
    refine ⟨_, rfl, h, dh, _, rfl, eh, ?_⟩
    refine ⟨_, rfl, ra, dr, _, rfl, er, ?_⟩
    refine ⟨_, rfl, t, dt, _, rfl, et, ?_⟩
    have en : (!decide (nV r = nV r)) = false := by rw [decide_eq_true rfl]; rfl
    refine ⟨_, rfl, h, G.CC, dh, _, _, rfl, eh, G.capC.cl, G.capC.nR, partF_rim _ _ hu hs, _, rfl, ra, G.CRw, dr, _, _, rfl, er, G.rowC'.cl, G.rowC'.nR, rowF_rim tr r, rfl, _, rfl, ?_⟩
    refine ite2 (fun z => ?_) fun _ => ?_
    · exfalso
      rw [en] at z
      cases z
    refine ⟨_, rfl, t, G.CC, dt, _, _, rfl, et, G.capC.cl, G.capC.nR, partF_rim _ _ tu ts, _, rfl, ra, G.CRw, dr, _, _, rfl, er, G.rowC'.cl, G.rowC'.nR, rowF_rim tr r, rfl, _, rfl, ?_⟩
    refine ite2 (fun z => ?_) fun _ => ?_
    · exfalso
      rw [en] at z
      cases z
    refine ⟨_, rfl, _, rfl, p, G.CS, dx, [], rfl, hp, G.stripC.cl, G.stripC.nH, (by show 0 < 1000; decide), ?_⟩
    rw [putS1]
    refine ⟨_, rfl, _, rfl, p, G.CS, dx, _, rfl, upd_same, G.stripC.cl, G.stripC.nR, (by show 1 < 1000; decide), ?_⟩
    rw [putS2]
    refine ⟨_, rfl, _, rfl, p, G.CS, dx, _, rfl, upd_same, G.stripC.cl, G.stripC.nT, (by show 2 < 1000; decide), ?_⟩
    rw [putS3]
    have S1 : ∀ o1 o2 o3 : HO, Same (hide [p] H) (upd (upd (upd H p o1) p o2) p o3) := fun o1 o2 o3 => same_hide_upd (by simp) (same_hide_upd (by simp) (same_hide_upd (by simp) (hide_sub _ _)))
    exact hQ _ (S1 _ _ _) ⟨dx, h, ra, t, upd_same, hh.keep (S1 _ _ _), hrw.keep (S1 _ _ _), ht.keep (S1 _ _ _)⟩
abbrev sRingI : Stmt := inClass (top 39) 0
def ringF (r : Addr) : List (Str × V) := [("row", .ref r)]
theorem ringF_row (r : Addr) : (ringF r).lookup ("row" : Str) = some (.ref r) := rfl
def RingAt (CG CR CP : Addr) (H : Hp) (p : Addr) (r : Nat) (row : List Pc) : Prop := ∃ dx ra, H p = some (.ins CG dx (ringF ra)) ∧ RowAt CR CP H ra r row
theorem RingAt.keep {CG CR CP : Addr} {H H' : Hp} {p : Addr} {r : Nat} {row : List Pc} (k : Same H H') (h : RingAt CG CR CP H p r row) : RingAt CG CR CP H' p r row := by
  obtain ⟨dx, ra, a, b⟩ := h
  exact ⟨dx, ra, k _ _ a, b.keep k⟩
def spRingI (CG CR CP : Addr) : Sp := fun vs H Q _ => ∃ (p dx ra : Addr) (r : Nat) (row : List Pc), vs = [.ref p, .ref ra] ∧ H p = some (.ins CG dx []) ∧ RowAt CR CP (hide [p] H) ra r row ∧
  ∀ H', Same (hide [p] H) H' → RingAt CG CR CP H' p r row → Q .non H'
theorem scRingI : FnScope ["self", "row"] ["self", "row"] (defScope sRingI) := ⟨rfl, rfl, rfl, by decide +kernel, rfl, by decide +kernel, by decide +kernel⟩
theorem ok_ringI {f fR : Addr} {fd fdR : FuncData} (F : FunD K "__init__" "Ring.__init__" (defArgs sRingI) (defBody sRingI) (defScope sRingI) [] [] f fd) (G : GCls K mg) (FR : FnP K "require_row" sReqRow fR fdR) (gR : mg "require_row" = some (.ref fR)) :
    FnOk P w K mg base CX0 2 f fd ["self", "row"] (spRingI G.CG G.CRw G.CPc) := by
  have GR : FnOk P w K mg base CX0 1 fR fdR ["thing"] (spReqI G.CRw) := ok_ReqRow FR G
  have bR : Binds K fdR ["thing"] [] := fn_binds FR fun _ _ _ _ _ _ us hl => match us, hl with | [_], _ => rfl
  refine F.ok scRingI (fun vs H Q E h => ?_) (fun cdv A outer s H vs Q E hr h => ?_)
  · obtain ⟨p, dx, ra, r, row, rfl, _⟩ := h
    rfl
  · obtain ⟨p, dx, ra, r, row, rfl, hp, hrw, hQ⟩ := h
    refine ⟨_, PSs.nox (pss_cons (ps_expr (pe_call GR hr (by rfl) gR FR.kp bR .nil pass0 (pa_cons (pv 1) pa_nil))) (pss_one (ps_fld (pv 0) (pv 1) rfl))), ?_⟩
    obtain ⟨dr, tr, vr, er, _⟩ := hrw.keep (hide_sub [p] H)
    refine ⟨_, rfl, ra, dr, _, rfl, er, ?_⟩
    refine ⟨_, rfl, _, rfl, p, G.CG, dx, [], rfl, hp, G.ringC.cl, G.ringC.nR, (by show 0 < 1000; decide), ?_⟩
    rw [putG1]
    have S1 : ∀ o1 : HO, Same (hide [p] H) (upd H p o1) := fun o1 => same_hide_upd (by simp) (hide_sub _ _)
    exact hQ _ (S1 _) ⟨dx, ra, upd_same, hrw.keep (S1 _)⟩
end
end Hue

set_option maxHeartbeats 4000000
namespace Hue
open PySem PySem.W PyProof.Rows L2
theorem make_same {H : Hp} {x dx C : Addr} (hx : H x = none) (hd : H dx = none) : Same H (hide [x] (upd (upd H dx (.own x)) x (.ins C dx []))) := fun b o e => by
  have n1 : b ≠ x := ne_of_none e hx
  have n2 : b ≠ dx := ne_of_none e hd
  rw [hide_out (by simpa using n1), upd_ne n1, upd_ne n2]
  exact e
theorem steps_one {H : Hp} {s a : Addr} {p : List Nat} {x y : Nat} (hs : H s = some (.dT [(kL p, V.ref a)])) (ha : H a = some (.dT [(kNN (x, y), V.int 1)])) (hx : x ≤ 100) (hy : y ≤ 100) : StepsAt H s (fun q t => if p = t then fal q x y else 0) := by
  refine ⟨[(p, a, [((x, y), 1)])], hs, by simp, by simp, fun e he => ?_, fun q t => ?_⟩
  · rw [List.mem_singleton.mp he]
    refine ⟨ha, ⟨by simp, fun z hz => ?_⟩, by simp [tot], by simp⟩
    rw [List.mem_singleton.mp hz]
    exact ⟨hx, hy⟩
  · unfold tsum
    rw [S_single]
    show (if p = t then wsum q [((x, y), 1)] else 0) = _
    have : wsum q [((x, y), 1)] = fal q x y := by
      unfold wsum
      rw [S_single]
      show ((1 : Nat) : Int) * fal q x y = fal q x y
      simp
    rw [this]
theorem S_pick2 {α : Type} [DecidableEq α] (l : List α) (nd : l.Nodup) (t : α) (f : α → Int) : (S l fun x => if x = t then f x else 0) = if t ∈ l then f t else 0 := by
  induction l with
  | nil => simp [S]
  | cons a l ih =>
    rw [S_cons, ih (List.nodup_cons.mp nd).2]
    by_cases h : a = t
    · subst h
      have : a ∉ l := (List.nodup_cons.mp nd).1
      simp [this]
    · have h' : ¬ t = a := fun z => h z.symm
      simp [h, h']
theorem EndsAt.steps {H : Hp} {d : Addr} {Sd : List (List Nat)} {e : List Nat → Nat → Int} (h : EndsAt H d Sd e) (nd : Sd.Nodup) (hl : Sd.length ≤ 1000) : StepsAt H d (fun q t => if t ∈ Sd then e t q else 0) := by
  obtain ⟨as, Ws, h1, h2, h3⟩ := h
  have hz : ((Sd.zip as).map fun p => p.1) = Sd := by
    rw [← List.unzip_fst, List.unzip_zip (by omega)]
  refine ⟨(Sd.zip as).map fun p => (p.1, p.2, Ws p.1), ?_, ?_, ?_, ?_, ?_⟩
  · rw [h2, skvs, List.map_map]
    rfl
  · rw [List.length_map, List.length_zip]; omega
  · rw [List.map_map]
    have : ((fun e : List Nat × Addr × Wt => e.1) ∘ fun p : List Nat × Addr => (p.1, p.2, Ws p.1)) = fun p => p.1 := rfl
    rw [this, hz]
    exact nd
  · intro x hx
    obtain ⟨p, hp, rfl⟩ := List.mem_map.mp hx
    obtain ⟨a, b, c, d, _⟩ := h3 p.1 p.2 hp
    exact ⟨a, b, c, d⟩
  · intro q t
    unfold tsum
    rw [S_map]
    have e1 : (S (Sd.zip as) fun p => if p.1 = t then wsum q (Ws p.1) else 0) = S (Sd.zip as) fun p => if p.1 = t then e p.1 q else 0 := by
      refine S_congr fun p hp => ?_
      obtain ⟨_, _, _, _, h⟩ := h3 p.1 p.2 hp
      rw [h q]
    have e2 : (S (Sd.zip as) fun p => if p.1 = t then e p.1 q else 0) = S Sd fun s => if s = t then e s q else 0 := by
      conv => rhs; rw [← hz]
      rw [S_map]
    show (S (Sd.zip as) fun p => if p.1 = t then wsum q (Ws p.1) else 0) = _
    refine (e1.trans e2).trans ((S_pick2 Sd nd t fun s => e s q).trans ?_)
    by_cases h : t ∈ Sd <;> simp [h]
theorem parts_used {r : Nat} {St : List (List Nat)} (h : St.Perm ((parts r 0).map (·.1))) : ∀ s ∈ St, usedBy s 0 ≤ r := by
  intro s hs
  obtain ⟨y, hy, rfl⟩ := List.mem_map.mp (h.mem_iff.mp hs)
  obtain ⟨a, _, _⟩ := gro_bounds (un := []) (sa := []) (j := 0) (u := 0) (n := 0) (lots := [([], 0)]) (fun x hx => by rw [List.mem_singleton.mp hx]; exact Nat.le_refl _) (fun x hx => by rw [List.mem_singleton.mp hx]; rfl) (Nat.le_refl _) r r (by omega)
  have e : y.2 = usedBy y.1 0 := gro_used (L := []) hy
  have := a y hy
  omega
def ringRun (r : Nat) (row : List Pc) (St : List Nat → List (List Nat)) (p : List Nat) : RunD := ⟨r, usedBy p 0, row, St p, fun q t => if p = t then fal q 0 (usedBy p 0) else 0, fun q t => if p = t then fal q 0 0 else 0⟩
theorem ringRun_eq {r : Nat} {row : List Pc} {St St' : List Nat → List (List Nat)} {p : List Nat} (h : St p = St' p) : ringRun r row St p = ringRun r row St' p := by
  unfold ringRun
  rw [h]
theorem ringRun_is {r : Nat} {row : List Pc} {St : List Nat → List (List Nat)} {p : List Nat} {S1 : List (List Nat)} (h : St p = S1) : ringRun r row St p = ⟨r, usedBy p 0, row, S1, fun q t => if p = t then fal q 0 (usedBy p 0) else 0, fun q t => if p = t then fal q 0 0 else 0⟩ := by
  unfold ringRun
  rw [h]
section
variable {P : Program} {w : World} {K : PySem.W.Frag} {mg : Str → Option Value} {base : Heap}
structure GAll (K : PySem.W.Frag) (mg : Str → Option Value) extends GWalk K mg where
  is : GIs mg
  CC : Addr
  CS : Addr
  CG : Addr
  capC : PartC K CC
  stripC : StripC K CS
  ringC : RingC K CG
  iC : InsK K CC
  iP : InsK K CP
  iR : InsK K CR
  iS : InsK K CS
  iG : InsK K CG
  gCc : mg "Cap" = some (.ref CC)
  gPc : mg "Piece" = some (.ref CP)
  gRw : mg "Row" = some (.ref CR)
  gSt : mg "Strip" = some (.ref CS)
  gRg : mg "Ring" = some (.ref CG)
  kC : PySem.W.kitOne K (.ref CC) (.ref CC) = some true
  kP : PySem.W.kitOne K (.ref CP) (.ref CP) = some true
  kR : PySem.W.kitOne K (.ref CR) (.ref CR) = some true
  kS : PySem.W.kitOne K (.ref CS) (.ref CS) = some true
  kG : PySem.W.kitOne K (.ref CG) (.ref CG) = some true
  kSG : PySem.W.kitOne K (.ref CS) (.ref CG) = some false
  kGS : PySem.W.kitOne K (.ref CG) (.ref CS) = some false
  fRI : Addr
  fdRI : FuncData
  FRI : FunD K "__init__" "Run.__init__" (defArgs sRunInit) (defBody sRunInit) (defScope sRunInit) [] [] fRI fdRI
  mkU : Mk K CU fRI
  gRun : mg "Run" = some (.ref CU)
  fWI : Addr
  fdWI : FuncData
  FWI : FunD K "__init__" "Walk.__init__" (defArgs sWalkInit) (defBody sWalkInit) (defScope sWalkInit) [] [] fWI fdWI
  mkW : Mk K CW fWI
  gWalk : mg "Walk" = some (.ref CW)
  fFW : Addr
  fdFW : FuncData
  FFW : FunD K "first_ways" "Walk.first_ways" (defArgs sFirst) (defBody sFirst) (defScope sFirst) [] [] fFW fdFW
  mFW : Meth K CW "first_ways" fFW
  fCS : Addr
  fdCS : FuncData
  FCS : FnP K "cap_starts" sStarts fCS fdCS
  gCS : mg "cap_starts" = some (.ref fCS)
  fCE : Addr
  fdCE : FuncData
  FCE : FnP K "cap_ends" sEnds fCE fdCE
  gCE : mg "cap_ends" = some (.ref fCE)
@[reducible] def GAll.cls (G : GAll K mg) : GCls K mg := { toGIs := G.is, CC := G.CC, CPc := G.CP, CRw := G.CR, CS := G.CS, CG := G.CG, capC := G.capC, pieceC := G.pcC, rowC' := G.rowC.c, stripC := G.stripC, ringC := G.ringC, iC := G.iC, iP := G.iP, iR := G.iR, iS := G.iS, iG := G.iG, gCc := G.gCc, gPc := G.gPc, gRw := G.gRw, gSt := G.gSt, gRg := G.gRg, kC := G.kC, kP := G.kP, kR := G.kR, kS := G.kS, kG := G.kG, kSG := G.kSG, kGS := G.kGS }
structure CapOk (r : Nat) (c : Pc) : Prop where
  ok : Ok c.un c.sa (r + c.inner)
  sz : r + c.inner ≤ 4
  lu : c.un.length ≤ 1000
  ls : c.sa.length ≤ 1000
/-! ### runs_of -/
abbrev sRunsOf : Stmt := top 50
def spRunsOf (CU CS CG CC CR CP : Addr) : Sp := fun vs H Q _ => ∃ (a : Addr) (r : Nat) (row : List Pc), vs = [.ref a] ∧ RowOk r row ∧
  ((∃ hd tl, StripAt CS CC CR CP H a r row hd tl ∧ CapOk r hd ∧ CapOk r tl ∧ ∀ (H' : Hp) (D : Addr) (St Sd : List (List Nat)), Same H H' → St.Perm ((parts r 0).map (·.1)) → Sd.Perm ((parts r 0).map (·.1)) → RunsAt CU H' D [⟨r, 0, row, St, fun q t => startT q r hd t, fun q t => if t ∈ Sd then endT q r tl t else 0⟩] → Q (.ref D) H') ∨
   (RingAt CG CR CP H a r row ∧ ∀ (H' : Hp) (D : Addr) (Ps : List (List Nat)) (St : List Nat → List (List Nat)), Same H H' → Ps.Perm ((parts r 0).map (·.1)) → (∀ p ∈ Ps, (St p).Perm ((parts r (usedBy p 0)).map (·.1))) → RunsAt CU H' D (Ps.map (ringRun r row St)) → Q (.ref D) H'))
abbrev nRunsOf : List Str := ["web", "found", "labels", "marked"]
theorem scRunsOf : FnScope nRunsOf ["web"] (defScope sRunsOf) := ⟨rfl, rfl, rfl, by decide +kernel, rfl, by decide +kernel, by decide +kernel⟩
theorem ok_runsOf {f : Addr} {fd : FuncData} (F : FnP K "runs_of" sRunsOf f fd) (G : GAll K mg) : FnOk P w K mg base CX0 7 f fd ["web"] (spRunsOf G.CU G.CS G.CG G.CC G.CR G.CP) := by
  have GR : FnOk P w K mg base CX0 5 G.fRI G.fdRI ["self", "row", "marked", "starts", "ends"] (spRunInit G.CU G.CR G.CP) := ok_runInit G.FRI G.toGRow
  have bR : Binds K G.fdRI ["self", "row", "marked", "starts", "ends"] [] := FunD.bindsN G.FRI fun _ _ _ _ _ _ us hl => match us, hl with | [_, _, _, _, _], _ => rfl
  have GS : FnOk P w K mg base CX0 6 G.fCS G.fdCS ["cap"] (spStarts K) := (ok_starts G.FCS G.toGTab).mono (by decide)
  have bS : Binds K G.fdCS ["cap"] [] := fn_binds G.FCS fun _ _ _ _ _ _ us hl => match us, hl with | [_], _ => rfl
  have GE : FnOk P w K mg base CX0 6 G.fCE G.fdCE ["cap"] (spEnds K) := (ok_ends G.FCE G.toGTab).mono (by decide)
  have bE : Binds K G.fdCE ["cap"] [] := fn_binds G.FCE fun _ _ _ _ _ _ us hl => match us, hl with | [_], _ => rfl
  have GU : FnOk P w K mg base CX0 6 G.fU G.fdU ["labels", "marked"] spUsed := (ok_used G.FU G.max G.list).mono (by decide)
  have bU : Binds K G.fdU ["labels", "marked"] [] := fn_binds G.FU fun _ _ _ _ _ _ us hl => match us, hl with | [_, _], _ => rfl
  have GP : FnOk P w K mg base CX0 6 G.fP G.fdP ["rim", "marked"] spParts := (ok_parts G.FP G.FO G.gO G.FF G.gF G.range G.max G.sorted).mono (by decide)
  obtain ⟨ds, vds, bP⟩ := parts_binds1 G.FP
  refine F.ok scRunsOf (fun vs H Q E h => ?_) (fun cdv A outer s H vs Q E hr h => ?_)
  · obtain ⟨a, r, row, rfl, _⟩ := h
    rfl
  · obtain ⟨a, r, row, rfl, ok, hw⟩ := h
    have hu := hu_of hr
    refine ⟨_, PSs.nox (pss_cons (ps_if (pt_not (pt_val (pe_callB call_isi (by rfl) G.is.isinstance (by decide +kernel) (pa_cons (pv 0) (pa_cons (pe_glob (v := .ref G.CG) (by rfl) G.gRg rfl) pa_nil)))))
        (pss_one (ps_ret (pe_lst (pa_cons (pe_make G.mkU GR hr (by rfl) G.gRun bR .nil pass0 (pa_cons (pe_fld (pv 0) rfl) (pa_cons pe_int (pa_cons (pe_call GS hr (by rfl) G.gCS G.FCS.kp bS .nil pass0 (pa_cons (pe_fld (pv 0) rfl) pa_nil)) (pa_cons (pe_call GE hr (by rfl) G.gCE G.FCE.kp bE .nil pass0 (pa_cons (pe_fld (pv 0) rfl) pa_nil)) pa_nil))))) pa_nil)))) pss_nil)
      (pss_cons (ps_set (i := 1) scRunsOf.nd rfl (.inl rfl) (pe_lst pa_nil))
      (pss_cons (ps_for PassesOwn.never rfl (pi_list (pe_call GP hr (by rfl) G.gP G.FP.kp bP vds pass0 (pa_cons (pe_fld (pe_fld (pv 0) rfl) rfl) pa_nil))) (pg_name (i := 2) scRunsOf.nd rfl (.inl rfl))
        (pss_cons (ps_set (i := 3) scRunsOf.nd rfl (.inl rfl) (pe_call GU hr (by rfl) G.gU G.FU.kp bU .nil pass0 (pa_cons (pv 2) (pa_cons pe_int pa_nil))))
        (pss_one (ps_expr (pe_bm PySem.F.plainAttrs_list PySem.F.slot_list_append PySem.F.type_list_append mt_append (pv 1) (pa_cons (pe_make G.mkU GR hr (by rfl) G.gRun bR .nil pass0 (pa_cons (pe_fld (pv 0) rfl) (pa_cons (pv 3)
          (pa_cons (pe_disp1 hu (pv 2) (pe_disp1 hu (pe_tup (pa_cons pe_int (pa_cons (pv 3) pa_nil))) pe_int)) (pa_cons (pe_disp1 hu (pv 2) (pe_disp1 hu (pe_tup (pa_cons pe_int (pa_cons pe_int pa_nil))) pe_int)) pa_nil))))) pa_nil))))))
      (pss_one (ps_ret (pv 1)))))), ?_⟩
    rcases hw with ⟨hd, tl, hst, okh, okt, hQ⟩ | ⟨hst, hQ⟩
    · obtain ⟨dx, h, ra, t, hI, hh, hrw, ht⟩ := id hst
      refine ⟨_, rfl, _, _, .ref G.CS, .ref G.CG, false, rfl, .own G.CG, G.iS.ty hI, G.kSG, false, rfl, ?_⟩
      refine ite2 (fun _ => ?_) fun z => absurd rfl z
      refine ⟨_, rfl, a, G.CS, dx, _, _, rfl, hI, G.stripC.cl, G.stripC.nR, stripF_row h ra t, ?_⟩
      refine ⟨_, rfl, a, G.CS, dx, _, _, rfl, hI, G.stripC.cl, G.stripC.nH, stripF_head h ra t, ?_⟩
      refine ⟨G.CC, h, r, hd.inner, hd.un, hd.sa, rfl, G.capC, hh, okh.ok, okh.sz, okh.lu, okh.ls, fun H1 d1 s1 hd1 hs1 => ?_⟩
      refine ⟨_, rfl, a, G.CS, dx, _, _, rfl, s1 _ _ hI, G.stripC.cl, G.stripC.nT, stripF_tail h ra t, ?_⟩
      refine ⟨G.CC, t, r, tl.inner, tl.un, tl.sa, rfl, G.capC, ht.keep s1, okt.ok, ok.r1, ok.r2, okt.sz, okt.lu, okt.ls, fun H2 d2 Sd s2 hd2 perm hs2 => ?_⟩
      intro x dxx hx hdx hne
      have s3 := make_same (C := G.CU) hx hdx
      have s02 := s1.trans s2
      have hSd := steps_of_perm_len perm ok.r2 (Nat.zero_le 2)
      refine ⟨x, ra, d1, d2, dxx, r, 0, row, _, _, rfl, upd_same, (hrw.keep s02).keep s3, ok, Nat.zero_le _, (hs1.keep s2).keep s3, (hs2.steps (parts_states perm).nd (by omega)).keep s3, fun H3 St s4 hrun => ⟨rfl, ?_⟩⟩
      refine ⟨small' (n := 1) (by decide), fun D hD => ?_⟩
      have s5 := same_new (o := .lst [.ref x]) hD
      exact hQ _ D St Sd (s02.trans (s3.trans (s4.trans s5))) hrun.1.1.st perm ⟨_, upd_same, .cons ⟨x, rfl, hrun.1.keep s5⟩ .nil⟩
    · obtain ⟨dx, ra, hI, hrw⟩ := id hst
      refine ⟨_, rfl, _, _, .ref G.CG, .ref G.CG, true, rfl, .own G.CG, G.iG.ty hI, G.kG, true, rfl, ?_⟩
      refine ite2 (fun z => by cases z) fun _ => ?_
      refine ⟨Nat.zero_le _, fun D hD => ?_⟩
      have s1 := same_new (o := .lst []) hD
      obtain ⟨dr, tr, vr, er, _⟩ := id hrw
      refine ⟨_, rfl, a, G.CG, dx, _, _, rfl, s1 _ _ hI, G.ringC.cl, G.ringC.nR, ringF_row ra, ra, G.CR, dr, _, _, rfl, s1 _ _ er, G.rowC.c.cl, G.rowC.c.nR, rowF_rim tr r, ?_⟩
      refine ⟨r, 0, rfl, ok.r1, ok.r2, Nat.zero_le _, fun H1 D1 Ps s2 hD1 perm ⟨ws, hws, pws⟩ => ?_⟩
      have nd := (parts_states perm).nd
      have hPl := steps_of_perm_len perm ok.r2 (Nat.zero_le 2)
      have hPs := parts_of_perm perm ok.r2 (Nat.zero_le 2)
      have hwl : ws.length = Ps.length := (pd_len pws).symm
      have nDD : D1 ≠ D := fun z => by rw [z, upd_same] at hD1; cases hD1
      have hDB : hide [D] H1 D = none := hide_in (by simp)
      have SB : Same H (hide [D] H1) := by
        have := hide_same [D] (s1.trans s2)
        rwa [hide_one_none hD] at this
      refine ⟨D1, rfl, ⟨_, SqL.of hws⟩, for_list (K := K) (a := D1) (xs := ws)
        (fun j σ H' => Same (hide [D] H1) H' ∧ (∃ v2 v3, σ = [some (.ref a), some (.ref D), v2, v3]) ∧ ∃ (St : List Nat → List (List Nat)) (vs : List V), (∀ p ∈ Ps.take j, (St p).Perm ((parts r (usedBy p 0)).map Prod.fst)) ∧ H' D = some (.lst vs) ∧ Paired (RRun G.CU (hide [D] H')) ((Ps.take j).map (ringRun r row St)) vs)
        ⟨hide_sub _ _, ⟨_, _, rfl⟩, fun _ => [], [], fun p hp => absurd hp (by simp), s2 _ _ upd_same, .nil⟩ (fun j σ H' _ h => SqL.of (h.1 _ _ (by rw [hide_out (by simpa using nDD)]; exact hws))) ?_ ?_⟩
      · rintro j y σ H2 hj ⟨s3, ⟨v2, v3, rfl⟩, St, vs, hSt, hvs, pvs⟩
        obtain ⟨p, hp, c, rfl, hc⟩ := pd_get pws hj
        have hjl : j < Ps.length := (List.getElem?_eq_some_iff.mp hp).1
        have ncD : c ≠ D := fun z => by
          rw [TupN, z, s2 _ _ upd_same] at hc
          cases hc
        have hc2 : TupN H2 c p := s3 _ _ (by rw [hide_out (by simpa using ncD)]; exact hc)
        obtain ⟨lp, up⟩ := hPs p (List.mem_of_getElem? hp)
        have up2 := parts_used perm p (List.mem_of_getElem? hp)
        have r2 := ok.r2
        have sH2 : Same H H2 := SB.trans s3
        refine ⟨_, rfl, c, p, 0, rfl, hc2, by omega, fun H3 s4 => ?_⟩
        have s34 := s4
        refine ⟨_, rfl, .inl ⟨rfl, _, SqL.of (s4 _ _ hvs)⟩, _, rfl, a, G.CG, dx, _, _, rfl, (sH2.trans s4) _ _ hI, G.ringC.cl, G.ringC.nR, ringF_row ra, _, rfl, ?_⟩
        -- {labels: {(0, marked): 1}}
        intro p1 hp1
        refine ⟨_, rfl, ?_⟩
        intro p2 hp2
        refine ⟨_, rfl, small' (n := 2) (by decide), fun t1 ht1 => ?_⟩
        have q1 := same_new (o := .dT []) hp1
        have q2 := same_new (o := .dT []) hp2
        have q3 := same_new (o := .tup [V.int 0, nV (usedBy p 0)]) ht1
        have n12 : p1 ≠ p2 := fun z => by rw [← z, upd_same] at hp2; cases hp2
        refine ⟨q3 _ _ upd_same, kNN (0, usedBy p 0), t1, .int 1, rfl, upd_same, ?_⟩
        have np2t : p2 ≠ t1 := fun z => by rw [← z, upd_same] at ht1; cases ht1
        have np1t : p1 ≠ t1 := fun z => by rw [← z, upd_ne n12, upd_same] at ht1; cases ht1
        have b2 : Same H3 (upd (upd (upd (upd H3 p1 (.dT [])) p2 (.dT [])) t1 (.tup [V.int 0, nV (usedBy p 0)])) p2 (.dT [(kNN (0, usedBy p 0), .int 1)])) := upd_keep (q1.trans (q2.trans q3)) (by rw [upd_ne n12.symm] at hp2; exact hp2)
        have e1 : (upd (upd (upd (upd H3 p1 (.dT [])) p2 (.dT [])) t1 (.tup [V.int 0, nV (usedBy p 0)])) p2 (.dT [(kNN (0, usedBy p 0), .int 1)])) p1 = some (.dT []) := by
          rw [upd_ne n12, upd_ne np1t, upd_ne n12]
          exact upd_same
        have e2 : (upd (upd (upd (upd H3 p1 (.dT [])) p2 (.dT [])) t1 (.tup [V.int 0, nV (usedBy p 0)])) p2 (.dT [(kNN (0, usedBy p 0), .int 1)])) p2 = some (.dT [(kNN (0, usedBy p 0), .int 1)]) := upd_same
        revert b2 e1 e2
        generalize upd (upd (upd (upd H3 p1 (.dT [])) p2 (.dT [])) t1 (.tup [V.int 0, nV (usedBy p 0)])) p2 (.dT [(kNN (0, usedBy p 0), .int 1)]) = H4
        intro b2 e1 e2
        have hc4 : TupN H4 c p := (hc2.keep s4).keep b2
        refine ⟨e1, kL p, c, .ref p2, rfl, kL_tup hc4, ?_⟩
        have b3 : Same H3 (upd H4 p1 (.dT [(kL p, .ref p2)])) := upd_keep b2 hp1
        have f1 : StepsAt (upd H4 p1 (.dT [(kL p, .ref p2)])) p1 (fun q t => if p = t then fal q 0 (usedBy p 0) else 0) := steps_one upd_same (by rw [upd_ne n12.symm]; exact e2) (by omega) (by omega)
        revert b3 f1
        generalize upd H4 p1 (.dT [(kL p, .ref p2)]) = H5
        intro b3 f1
        -- {labels: {(0, 0): 1}}
        intro p3 hp3
        refine ⟨_, rfl, ?_⟩
        intro p4 hp4
        refine ⟨small' (n := 2) (by decide), fun t2 ht2 => ?_⟩
        have q1 := same_new (o := .dT []) hp3
        have q2 := same_new (o := .dT []) hp4
        have q3 := same_new (o := .tup [V.int 0, V.int 0]) ht2
        have n34 : p3 ≠ p4 := fun z => by rw [← z, upd_same] at hp4; cases hp4
        refine ⟨q3 _ _ upd_same, kNN (0, 0), t2, .int 1, rfl, upd_same, ?_⟩
        have np4t : p4 ≠ t2 := fun z => by rw [← z, upd_same] at ht2; cases ht2
        have np3t : p3 ≠ t2 := fun z => by rw [← z, upd_ne n34, upd_same] at ht2; cases ht2
        have b4 : Same H5 (upd (upd (upd (upd H5 p3 (.dT [])) p4 (.dT [])) t2 (.tup [V.int 0, V.int 0])) p4 (.dT [(kNN (0, 0), .int 1)])) := upd_keep (q1.trans (q2.trans q3)) (by rw [upd_ne n34.symm] at hp4; exact hp4)
        have e3 : (upd (upd (upd (upd H5 p3 (.dT [])) p4 (.dT [])) t2 (.tup [V.int 0, V.int 0])) p4 (.dT [(kNN (0, 0), .int 1)])) p3 = some (.dT []) := by
          rw [upd_ne n34, upd_ne np3t, upd_ne n34]
          exact upd_same
        have e4 : (upd (upd (upd (upd H5 p3 (.dT [])) p4 (.dT [])) t2 (.tup [V.int 0, V.int 0])) p4 (.dT [(kNN (0, 0), .int 1)])) p4 = some (.dT [(kNN (0, 0), .int 1)]) := upd_same
        revert b4 e3 e4
        generalize upd (upd (upd (upd H5 p3 (.dT [])) p4 (.dT [])) t2 (.tup [V.int 0, V.int 0])) p4 (.dT [(kNN (0, 0), .int 1)]) = H6
        intro b4 e3 e4
        have hc6 : TupN H6 c p := ((hc2.keep s4).keep b3).keep b4
        refine ⟨e3, kL p, c, .ref p4, rfl, kL_tup hc6, ?_⟩
        have b5 : Same H5 (upd H6 p3 (.dT [(kL p, .ref p4)])) := upd_keep b4 hp3
        have f2 : StepsAt (upd H6 p3 (.dT [(kL p, .ref p4)])) p3 (fun q t => if p = t then fal q 0 0 else 0) := steps_one upd_same (by rw [upd_ne n34.symm]; exact e4) (by omega) (by omega)
        revert b5 f2
        generalize upd H6 p3 (.dT [(kL p, .ref p4)]) = H7
        intro b5 f2
        -- Run(..)
        intro x dxx hx hdx hne
        have s5 := make_same (C := G.CU) hx hdx
        have s27 : Same H2 H7 := s4.trans (b3.trans b5)
        refine ⟨x, ra, p1, p3, dxx, r, usedBy p 0, row, _, _, rfl, upd_same, (hrw.keep (sH2.trans s27)).keep s5, ok, by omega, (f1.keep b5).keep s5, f2.keep s5, fun H8 St1 s6 hrun => ⟨rfl, ?_⟩⟩
        have s28 : Same H2 H8 := s27.trans (s5.trans s6)
        have hD8 := s28 _ _ hvs
        refine ⟨D, vs, _, rfl, rfl, hD8, ?_, ?_⟩
        · refine small ?_
          rw [← pd_len pvs, List.length_map, List.length_take]; omega
        · have npT : p ∉ Ps.take j := by
            intro hm
            obtain ⟨j', hj', e⟩ := List.getElem_of_mem hm
            have h6 : j' < j := by rw [List.length_take] at hj'; omega
            rw [List.getElem_take] at e
            have := nd_ix nd (show Ps[j']? = some p by rw [← e]; exact List.getElem?_eq_getElem _) hp
            omega
          refine ⟨upd_keep (s3.trans s28) hDB, ⟨_, _, rfl⟩, fun z => if z = p then St1 else St z, _, fun z hz => ?_, upd_same, ?_⟩
          · show ((if z = p then St1 else St z)).Perm _
            rw [take_snoc hp] at hz
            rcases List.mem_append.mp hz with hz | hz
            · have : z ≠ p := fun e => npT (e ▸ hz)
              rw [if_neg this]
              exact hSt z hz
            · have := List.mem_singleton.mp hz
              subst this
              rw [if_pos rfl]
              exact hrun.1.1.st
          · rw [hide_upd (by simp), take_snoc hp, List.map_append]
            have ecg : (Ps.take j).map (ringRun r row fun z => if z = p then St1 else St z) = (Ps.take j).map (ringRun r row St) := by
              refine List.map_congr_left fun z hz => ?_
              have : z ≠ p := fun e => npT (e ▸ hz)
              exact ringRun_eq (if_neg this)
            rw [ecg]
            refine pd_snoc (pd_imp pvs fun _ _ r => r.keep (hide_same [D] s28)) ?_
            have ern : ringRun r row (fun z => if z = p then St1 else St z) p = ⟨r, usedBy p 0, row, St1, fun q t => if p = t then fal q 0 (usedBy p 0) else 0, fun q t => if p = t then fal q 0 0 else 0⟩ := by
              exact ringRun_is (if_pos rfl)
            show RRun G.CU (hide [D] H8) (ringRun r row (fun z => if z = p then St1 else St z) p) (.ref x)
            rw [ern]
            have nDx : D ≠ x := fun z => by rw [← z, s27 _ _ hvs] at hx; cases hx
            have nDdx : D ≠ dxx := fun z => by rw [← z, s27 _ _ hvs] at hdx; cases hdx
            exact ⟨x, rfl, hrun.2 D vs (by rw [upd_ne nDx, upd_ne nDdx]; exact s27 _ _ hvs)⟩
      · rintro σ H2 ⟨s3, ⟨v2, v3, rfl⟩, St, vs, hSt, hvs, pvs⟩
        rw [hwl, List.take_length] at hSt pvs
        exact ⟨_, rfl, hQ H2 D Ps St (SB.trans s3) perm hSt ⟨vs, hvs, pd_imp pvs fun _ _ r => r.keep (hide_sub _ _)⟩⟩
end
end Hue

set_option maxHeartbeats 4000000
namespace Hue
open PySem PySem.W PyProof.Rows L2
theorem RowOk.pcs' {r : Nat} {row : List Pc} (h : RowOk r row) : Pcs r row := fun p hp => (h.pcs p hp).ok
theorem strip_run {q r n : Nat} {row : List Pc} {hd tl : Pc} {St Sd : List (List Nat)} (ok : RowOk r row) (okh : CapOk r hd) (okt : CapOk r tl) (h1 : St.Perm ((parts r 0).map (·.1))) (h2 : Sd.Perm ((parts r 0).map (·.1))) :
    RunD.val ⟨r, 0, row, St, fun q t => startT q r hd t, fun q t => if t ∈ Sd then endT q r tl t else 0⟩ q n = strip q r row n hd tl := by
  refine strip_val (St := St) ok.pcs' okh.ok okt.ok (parts_states h1) n _ _ (fun s _ => rfl) (fun s hs => ?_)
  have : s ∈ Sd := (h1.trans h2.symm).mem_iff.mp hs
  exact if_pos this
theorem ring_run {q r n : Nat} {row : List Pc} {Ps : List (List Nat)} {St : List Nat → List (List Nat)} (ok : RowOk r row) (h1 : Ps.Perm ((parts r 0).map (·.1))) (h2 : ∀ p ∈ Ps, (St p).Perm ((parts r (usedBy p 0)).map (·.1))) :
    (S (Ps.map (ringRun r row St)) fun D => D.val q n) = S (tuples q r) fun l => btw q r row n l l := by
  rw [S_map]
  refine ring_val (St := St) ok.pcs' h1 (fun p hp => parts_states (h2 p hp)) n (fun p => fun s => if p = s then fal q 0 (usedBy p 0) else 0) (fun p => fun s => if p = s then fal q 0 0 else 0) (fun p _ s _ => ?_) (fun p _ s _ => ?_)
  · by_cases h : p = s
    · subst h; simp
    · have : ¬ s = p := fun z => h z.symm
      simp [h, this]
  · by_cases h : p = s
    · subst h; simp [fal]
    · have : ¬ s = p := fun z => h z.symm
      simp [h, this]
theorem at_list {F : Nat → Int} {many n : Nat} (h : n < many) : atI (((List.range many).map F).map V.int) ((n : Nat) : Int) = some (.int (F n)) := by
  refine atI_nat ?_
  rw [List.getElem?_map, List.getElem?_map, List.getElem?_range h]
  rfl
section
variable {P : Program} {w : World} {K : PySem.W.Frag} {mg : Str → Option Value} {base : Heap}
/-- what count and between need over it -/
structure GTop (K : PySem.W.Frag) (mg : Str → Option Value) extends GAll K mg where
  pcs : GPc K mg
  fRO : Addr
  fdRO : FuncData
  FRO : FnP K "runs_of" sRunsOf fRO fdRO
  gRO : mg "runs_of" = some (.ref fRO)
  fRW : Addr
  fdRW : FuncData
  FRW : FnP K "require_web" sReqWeb fRW fdRW
  gRW : mg "require_web" = some (.ref fRW)
  fRR : Addr
  fdRR : FuncData
  FRR : FnP K "require_row" sReqRow fRR fdRR
  gRR : mg "require_row" = some (.ref fRR)
  dict : mg "dict" = none
/-! ### count -/
abbrev sCount : Stmt := top 53
def spCount (CS CG CC CR CP : Addr) : Sp := fun vs H Q _ => ∃ (a : Addr) (r n q : Nat) (row : List Pc), vs = [.ref a, nV n, nV q] ∧ RowOk r row ∧ q ≤ 100 ∧ n ≤ 15 ∧
  ((∃ hd tl, StripAt CS CC CR CP H a r row hd tl ∧ CapOk r hd ∧ CapOk r tl ∧ ∀ H', Same H H' → Q (.int (strip q r row n hd tl)) H') ∨
   (RingAt CG CR CP H a r row ∧ ∀ H', Same H H' → Q (.int (S (tuples q r) fun l => btw q r row n l l)) H'))
theorem scCount : FnScope ["web", "n", "hues"] ["web", "n", "hues"] (defScope sCount) := ⟨rfl, rfl, rfl, by decide +kernel, rfl, by decide +kernel, by decide +kernel⟩
theorem ok_count {f : Addr} {fd : FuncData} (F : FnP K "count" sCount f fd) (G : GTop K mg) : FnOk P w K mg base CX0 8 f fd ["web", "n", "hues"] (spCount G.CS G.CG G.CC G.CR G.CP) := by
  have GW : FnOk P w K mg base CX0 7 G.fRW G.fdRW ["thing"] (spReqWeb' G.CS G.CG) := (ok_reqWeb G.FRW G.cls).mono (by decide)
  have bW : Binds K G.fdRW ["thing"] [] := fn_binds G.FRW fun _ _ _ _ _ _ us hl => match us, hl with | [_], _ => rfl
  have GQ : FnOk P w K mg base CX0 7 G.pcs.fQ G.pcs.fdQ ["thing"] spReqNum := (ok_reqNum G.pcs.FQ G.pcs.FN G.pcs.gN G.pcs.toGIs).mono (by decide)
  have bQ : Binds K G.pcs.fdQ ["thing"] [] := fn_binds G.pcs.FQ fun _ _ _ _ _ _ us hl => match us, hl with | [_], _ => rfl
  have GR : FnOk P w K mg base CX0 7 G.fRO G.fdRO ["web"] (spRunsOf G.CU G.CS G.CG G.CC G.CR G.CP) := ok_runsOf G.FRO G.toGAll
  have bR : Binds K G.fdRO ["web"] [] := fn_binds G.FRO fun _ _ _ _ _ _ us hl => match us, hl with | [_], _ => rfl
  have GI : FnOk P w K mg base CX0 6 G.fWI G.fdWI ["self", "runs", "hues", "trim"] (spWalkInit G.CU G.CW G.fW) := (ok_walkInit G.FWI G.toGWalk).mono (by decide)
  have bI : Binds K G.fdWI ["self", "runs", "hues", "trim"] [] := FunD.bindsN G.FWI fun _ _ _ _ _ _ us hl => match us, hl with | [_, _, _, _], _ => rfl
  have GF : FnOk P w K mg base CX0 7 G.fFW G.fdFW ["self", "many"] (spFirst G.CW G.fW) := (ok_first G.FFW G.toGWalk).mono (by decide)
  have bF : Binds K G.fdFW ["self", "many"] [] := FunD.bindsN G.FFW fun _ _ _ _ _ _ us hl => match us, hl with | [_, _], _ => rfl
  refine F.ok scCount (fun vs H Q E h => ?_) (fun cdv A outer s H vs Q E hr h => ?_)
  · obtain ⟨a, r, n, q, row, rfl, _⟩ := h
    rfl
  · obtain ⟨a, r, n, q, row, rfl, ok, hq, hn, hw⟩ := h
    refine ⟨_, PSs.nox (pss_cons (ps_expr (pe_call GW hr (by rfl) G.gRW G.FRW.kp bW .nil pass0 (pa_cons (pv 0) pa_nil)))
      (pss_cons (ps_expr (pe_call GQ hr (by rfl) G.pcs.gQ G.pcs.FQ.kp bQ .nil pass0 (pa_cons (pv 1) pa_nil)))
      (pss_cons (ps_expr (pe_call GQ hr (by rfl) G.pcs.gQ G.pcs.FQ.kp bQ .nil pass0 (pa_cons (pv 2) pa_nil)))
      (pss_one (ps_ret (pe_ix ix_list (pe_meth (pe_make G.mkW GI hr (by rfl) G.gWalk bI .nil pass0 (pa_cons (pe_call GR hr (by rfl) G.gRO G.FRO.kp bR .nil pass0 (pa_cons (pv 0) pa_nil)) (pa_cons (pv 2) (pa_cons (pe_glob (v := .ref G.fW) (by rfl) G.gW rfl) pa_nil))))
        G.walkC.cl G.mFW GF hr bF .nil pass0 (pa_cons (pe_op op_add (pv 1) pe_int) pa_nil)) (pv 1) (fun _ _ => rfl))))))), ?_⟩
    have tail : ∀ (H2 : Hp) (D : Addr) (Ds : List RunD) (z : Int), Same H H2 → RunsAt G.CU H2 D Ds → Ds.length ≤ 1000 → (S Ds fun D => D.val q n) = z → (∀ H', Same H H' → Q (.int z) H') →
        ∀ x dx, H2 x = none → H2 dx = none → dx ≠ x → spWalkInit G.CU G.CW G.fW [.ref x, .ref D, nV q, .ref G.fW] (upd (upd H2 dx (.own x)) x (.ins G.CW dx [])) (fun v H3 => v = .non ∧ ∃ a dx fs, V.ref x = .ref a ∧ H3 a = some (.ins G.CW dx fs) ∧ fs.lookup ("first_ways" : Str) = none ∧
          spFirst G.CW G.fW [.ref a, nV (n + 1)] H3 (fun u H4 => rIxL K u (nV n) H4 Q) E0) E0 := by
      intro H2 D Ds z s2 hruns hlen hz hQ x dx hx hdx hne
      have s3 := make_same (C := G.CW) hx hdx
      refine ⟨x, D, dx, q, Ds, rfl, upd_same, hruns.keep s3, hq, hlen, fun H3 s4 hwalk => ⟨rfl, ?_⟩⟩
      obtain ⟨dw, wa, hI, _⟩ := id hwalk
      refine ⟨x, dw, _, rfl, hI, rfl, x, n + 1, q, Ds, rfl, hwalk, by omega, fun H4 L s5 _ hl => ?_⟩
      have hat := at_list (F := fun k => S Ds fun D => D.val q k) (many := n + 1) (n := n) (by omega)
      refine ⟨L, _, _, _, rfl, rfl, SqL.of hl, hat, ?_⟩
      show Q (.int (S Ds fun D => D.val q n)) H4
      rw [hz]
      exact hQ H4 (s2.trans (s3.trans (s4.trans s5)))
    rcases hw with ⟨hd, tl, hst, okh, okt, hQ⟩ | ⟨hst, hQ⟩
    · obtain ⟨dx, h, ra, t, hI, _⟩ := id hst
      refine ⟨_, rfl, a, dx, _, rfl, .inl hI, fun H1 s1 => ?_⟩
      refine ⟨_, rfl, n, rfl, _, rfl, q, rfl, ?_⟩
      refine ⟨_, rfl, a, r, row, rfl, ok, .inl ⟨hd, tl, hst.keep s1, okh, okt, fun H2 D St Sd s2 p1 p2 hruns => ?_⟩⟩
      refine ⟨_, rfl, ?_⟩
      intro x dxx hx hdx hne
      obtain ⟨p, ra', dx', q', Ds', g1, g2, g3, g4, g5, g6⟩ := tail H2 D _ _ (s1.trans s2) hruns (by simp) ((S_single _ _).trans (strip_run ok okh okt p1 p2)) hQ x dxx hx hdx hne
      refine ⟨p, ra', dx', q', Ds', g1, g2, g3, g4, g5, fun H3 s3 hw => ?_⟩
      obtain ⟨z1, a', dx2, fs, e1, e2, e3, p4, many, q4, Ds4, e5, e6, e7, e8⟩ := g6 H3 s3 hw
      cases e1
      refine ⟨z1, x, dx2, fs, rfl, e2, e3, _, rfl, _, _, rfl, rfl, p4, many, q4, Ds4, e5, e6, e7, fun H4 L s4 h4 hl => ?_⟩
      exact ⟨_, rfl, e8 H4 L s4 h4 hl⟩
    · obtain ⟨dx, ra, hI, _⟩ := id hst
      refine ⟨_, rfl, a, dx, _, rfl, .inr hI, fun H1 s1 => ?_⟩
      refine ⟨_, rfl, n, rfl, _, rfl, q, rfl, ?_⟩
      refine ⟨_, rfl, a, r, row, rfl, ok, .inr ⟨hst.keep s1, fun H2 D Ps St s2 p1 p2 hruns => ?_⟩⟩
      refine ⟨_, rfl, ?_⟩
      intro x dxx hx hdx hne
      obtain ⟨p, ra', dx', q', Ds', g1, g2, g3, g4, g5, g6⟩ := tail H2 D _ _ (s1.trans s2) hruns (by rw [List.length_map]; have := steps_of_perm_len p1 ok.r2 (Nat.zero_le 2); omega) (ring_run ok p1 p2) hQ x dxx hx hdx hne
      refine ⟨p, ra', dx', q', Ds', g1, g2, g3, g4, g5, fun H3 s3 hw => ?_⟩
      obtain ⟨z1, a', dx2, fs, e1, e2, e3, p4, many, q4, Ds4, e5, e6, e7, e8⟩ := g6 H3 s3 hw
      cases e1
      refine ⟨z1, x, dx2, fs, rfl, e2, e3, _, rfl, _, _, rfl, rfl, p4, many, q4, Ds4, e5, e6, e7, fun H4 L s4 h4 hl => ?_⟩
      exact ⟨_, rfl, e8 H4 L s4 h4 hl⟩
end
end Hue

set_option maxHeartbeats 4000000
namespace Hue
open PySem PySem.W PyProof.Rows L2
/-- {t: {(0, 0): 1}} -/
theorem disp_steps {tk : TE} {σ : L2.St} {H : Hp} {Q : VK} {c : Addr} {p : List Nat} (hc : TupN H c p) (hk : ∀ H1 Q', Q' (.ref c) H1 → tk σ H1 Q') (k : ∀ H' d, Same H H' → StepsAt H' d (fun q t => if p = t then fal q 0 0 else 0) → Q (.ref d) H') :
    tDisp1 tk (tDisp1 (tTup (tCons (tC (.int 0)) (tCons (tC (.int 0)) tNil))) (tC (.int 1))) σ H Q := by
  intro p3 hp3
  refine hk _ _ ?_
  intro p4 hp4
  refine ⟨small' (n := 2) (by decide), fun t2 ht2 => ?_⟩
  have q1 := same_new (o := .dT []) hp3
  have q2 := same_new (o := .dT []) hp4
  have q3 := same_new (o := .tup [V.int 0, V.int 0]) ht2
  have n34 : p3 ≠ p4 := fun z => by rw [← z, upd_same] at hp4; cases hp4
  refine ⟨q3 _ _ upd_same, kNN (0, 0), t2, .int 1, rfl, upd_same, ?_⟩
  have np4t : p4 ≠ t2 := fun z => by rw [← z, upd_same] at ht2; cases ht2
  have np3t : p3 ≠ t2 := fun z => by rw [← z, upd_ne n34, upd_same] at ht2; cases ht2
  have b4 : Same H (upd (upd (upd (upd H p3 (.dT [])) p4 (.dT [])) t2 (.tup [V.int 0, V.int 0])) p4 (.dT [(kNN (0, 0), .int 1)])) := upd_keep (q1.trans (q2.trans q3)) (by rw [upd_ne n34.symm] at hp4; exact hp4)
  have e3 : (upd (upd (upd (upd H p3 (.dT [])) p4 (.dT [])) t2 (.tup [V.int 0, V.int 0])) p4 (.dT [(kNN (0, 0), .int 1)])) p3 = some (.dT []) := by
    rw [upd_ne n34, upd_ne np3t, upd_ne n34]
    exact upd_same
  have e4 : (upd (upd (upd (upd H p3 (.dT [])) p4 (.dT [])) t2 (.tup [V.int 0, V.int 0])) p4 (.dT [(kNN (0, 0), .int 1)])) p4 = some (.dT [(kNN (0, 0), .int 1)]) := upd_same
  revert b4 e3 e4
  generalize upd (upd (upd (upd H p3 (.dT [])) p4 (.dT [])) t2 (.tup [V.int 0, V.int 0])) p4 (.dT [(kNN (0, 0), .int 1)]) = H6
  intro b4 e3 e4
  have hc6 : TupN H6 c p := hc.keep b4
  refine ⟨e3, kL p, c, .ref p4, rfl, kL_tup hc6, ?_⟩
  have b5 : Same H (upd H6 p3 (.dT [(kL p, .ref p4)])) := upd_keep b4 hp3
  exact k _ p3 b5 (steps_one upd_same (by rw [upd_ne n34.symm]; exact e4) (by omega) (by omega))
theorem env_len (c E : List Nat) : (env E c).length ≤ E.length + c.length := by
  induction c generalizing E with
  | nil => exact Nat.le_refl _
  | cons h c ih =>
    have h1 := ih (more E h)
    have h2 := more_length E h
    have h3 := lbl_le E h
    show (env (more E h) c).length ≤ _
    rw [List.length_cons]
    omega
theorem Nums.more_old {E : List Nat} {kvs : List (Key × V)} {x : Nat} (h : Nums 0 E kvs) (hx : x ∈ E) : Nums 0 (more E x) kvs := by
  have e : more E x = E := by unfold more; rw [if_pos hx]
  rw [e]
  exact h
section
variable {P : Program} {w : World} {K : PySem.W.Frag} {mg : Str → Option Value} {base : Heap}
/-! ### require_rim, require_below -/
abbrev sReqRim : Stmt := top 54
def spReqRim : Sp := fun vs H Q _ => ∃ (a : Addr) (l : List Nat) (r : Nat), vs = [.ref a, nV r] ∧ TupN H a l ∧ l.length = r ∧ r ≤ 100 ∧ ∀ H', Same H H' → Q .non H'
abbrev nReqRim : List Str := ["thing", "rim", "hue"]
theorem scReqRim : FnScope nReqRim ["thing", "rim"] (defScope sReqRim) := ⟨rfl, rfl, rfl, by decide +kernel, rfl, by decide +kernel, by decide +kernel⟩
theorem ok_reqRim {f : Addr} {fd : FuncData} (F : FnP K "require_rim" sReqRim f fd) (G : GPc K mg) : FnOk P w K mg base CX0 2 f fd ["thing", "rim"] spReqRim := by
  have GN : FnOk P w K mg base CX0 1 G.fN G.fdN ["thing"] spIsNum := ok_isNum G.FN G.toGIs
  have bN : Binds K G.fdN ["thing"] [] := fn_binds G.FN fun _ _ _ _ _ _ us hl => match us, hl with | [_], _ => rfl
  refine F.ok scReqRim (fun vs H Q E h => ?_) (fun cdv A outer s H vs Q E hr h => ?_)
  · obtain ⟨a, l, r, rfl, _⟩ := h
    rfl
  · obtain ⟨a, l, r, rfl, ha, hl, hr1, hQ⟩ := h
    refine ⟨_, PSs.nox (pss_one (ps_if (PW.pt (pw_or (pt_not (pt_val (pe_callB call_isi (by rfl) G.isinstance (by decide +kernel) (pa_cons (pv 0) (pa_cons (pe_bltn (v := .ty "tuple") (by rfl) G.tuple (by decide +kernel) rfl) pa_nil)))))
        (pw_or (pt_cmpR op_ne (pe_callB call_len_seq (by rfl) G.len boot_len (pa_cons (pv 0) pa_nil)) (pv 1) (nomark _))
        (pw_or1 (pt_cmpR (op_neD hr.units) (pe_lc (own := [("hue", 2)]) (g := gName 2) (te := tC (.int 1)) rfl scReqRim.nd (pi_tup (pv 0)) (blkOk_by (N := nReqRim) (sc := defScope sReqRim) (by decide +kernel)) (fun _ _ _ _ _ => pg_name (i := 2) scReqRim.nd rfl (.inl rfl))
          (fun _ _ _ _ _ => pts_one (pt_not (pt_val (pe_call GN hr (by rfl) G.gN G.FN.kp bN .nil pass0 (pa_cons (pv 2) pa_nil))))) (fun _ _ _ _ _ => pe_int)) (pe_lst pa_nil) (nomark _)))))) (pss_one ps_never) pss_nil)), ?_⟩
    refine ⟨_, rfl, _, _, .type "tuple", .type "tuple", true, rfl, .ty "tuple", .base (.tup ha), kit_ty (by decide +kernel), true, rfl, ?_⟩
    refine ite2 (fun z => by cases z) fun _ => ?_
    have e1 : (!decide (V.int ((l.map nV).length : Int) = nV r)) = false := by
      rw [List.length_map, hl]
      show (!decide (nV r = nV r)) = false
      rw [decide_eq_true rfl]
      rfl
    refine ⟨_, rfl, a, _, rfl, .inr (SqT.of ha), _, rfl, rfl, _, rfl, ?_⟩
    refine ite2 (fun z => ?_) fun _ => ?_
    · exfalso
      rw [show (!decide (V.int ((l.map nV).length : Int) = nV r)) = false from e1] at z
      cases z
    refine ⟨_, rfl, a, rfl, ⟨_, SqT.of ha⟩, fun D hD => lc_tup (K := K) (a := a) (xs := l.map nV) (fun i H' => Same H H' ∧ H' D = some (.lst [])) ⟨same_new hD, upd_same⟩ (fun i H' _ h => SqT.of (h.1 _ _ ha)) ?_ ?_⟩
    · rintro i y H2 hi ⟨s3, hD3⟩
      obtain ⟨x, hx, rfl⟩ := nV_get hi
      refine ⟨rfl, _, rfl, x, rfl, true, rfl, ?_⟩
      refine ite2 (fun z => by cases z) fun _ => ⟨s3, hD3⟩
    · rintro H2 ⟨s3, hD3⟩
      refine ⟨Nat.zero_le _, fun E1 hE => ?_⟩
      have s4 := same_new (o := .lst []) hE
      refine ⟨.list [], .list [], .lst (SqL.of (s4 _ _ hD3)) .nil, .lst (SqL.of upd_same) .nil, by decide, by decide, _, rfl, ?_⟩
      have e1 : (!PyData.eqv (.list []) (.list [])) = false := by simp [PyData.eqv, PyData.eqvAll]
      refine ite2 (fun z => ?_) fun _ => hQ _ (s3.trans s4)
      exfalso
      rw [e1] at z
      cases z
abbrev sReqBel : Stmt := top 55
def spReqBel : Sp := fun vs H Q _ => ∃ (a : Addr) (l : List Nat) (q : Nat), vs = [.ref a, nV q] ∧ TupN H a l ∧ (∀ x ∈ l, x < q) ∧ ∀ H', Same H H' → Q .non H'
abbrev nReqBel : List Str := ["thing", "hues", "hue"]
theorem scReqBel : FnScope nReqBel ["thing", "hues"] (defScope sReqBel) := ⟨rfl, rfl, rfl, by decide +kernel, rfl, by decide +kernel, by decide +kernel⟩
theorem ok_reqBel {f : Addr} {fd : FuncData} (F : FnP K "require_below" sReqBel f fd) : FnOk P w K mg base CX0 1 f fd ["thing", "hues"] spReqBel := by
  refine F.ok scReqBel (fun vs H Q E h => ?_) (fun cdv A outer s H vs Q E hr h => ?_)
  · obtain ⟨a, l, q, rfl, _⟩ := h
    rfl
  · obtain ⟨a, l, q, rfl, ha, hl, hQ⟩ := h
    refine ⟨_, PSs.nox (pss_one (ps_if (pt_cmpR (op_neD hr.units) (pe_lc (own := [("hue", 2)]) (g := gName 2) (te := tC (.int 1)) rfl scReqBel.nd (pi_tup (pv 0)) (blkOk_by (N := nReqBel) (sc := defScope sReqBel) (by decide +kernel)) (fun _ _ _ _ _ => pg_name (i := 2) scReqBel.nd rfl (.inl rfl))
          (fun _ _ _ _ _ => pts_one (pt_cmpR op_ge (pv 2) (pv 1) (nomark _))) (fun _ _ _ _ _ => pe_int)) (pe_lst pa_nil) (nomark _)) (pss_one ps_never) pss_nil)), ?_⟩
    refine ⟨_, rfl, a, rfl, ⟨_, SqT.of ha⟩, fun D hD => lc_tup (K := K) (a := a) (xs := l.map nV) (fun i H' => Same H H' ∧ H' D = some (.lst [])) ⟨same_new hD, upd_same⟩ (fun i H' _ h => SqT.of (h.1 _ _ ha)) ?_ ?_⟩
    · rintro i y H2 hi ⟨s3, hD3⟩
      obtain ⟨x, hx, rfl⟩ := nV_get hi
      have hxq := hl x (List.mem_of_getElem? hx)
      refine ⟨rfl, _, rfl, _, rfl, _, _, rfl, rfl, _, rfl, ?_⟩
      refine ite2 (fun z => ?_) fun _ => ⟨s3, hD3⟩
      exfalso
      have := of_decide_eq_true z
      omega
    · rintro H2 ⟨s3, hD3⟩
      refine ⟨Nat.zero_le _, fun E1 hE => ?_⟩
      have s4 := same_new (o := .lst []) hE
      refine ⟨.list [], .list [], .lst (SqL.of (s4 _ _ hD3)) .nil, .lst (SqL.of upd_same) .nil, by decide, by decide, _, rfl, ?_⟩
      have e1 : (!PyData.eqv (.list []) (.list [])) = false := by simp [PyData.eqv, PyData.eqvAll]
      refine ite2 (fun z => ?_) fun _ => hQ _ (s3.trans s4)
      exfalso
      rw [e1] at z
      cases z
/-! ### run_between -/
abbrev sRunB : Stmt := top 56
def btwRun (r : Nat) (row : List Pc) (St : List (List Nat)) (l t : List Nat) : RunD := ⟨r, (env [] t).length, row, St, fun q s => if lab (env [] t) l = s then fal q 0 0 else 0, fun q s => if lab [] t = s then fal q 0 0 else 0⟩
def spRunB (CU CR CP : Addr) : Sp := fun vs H Q _ => ∃ (ra a b : Addr) (r : Nat) (row : List Pc) (l t : List Nat), vs = [.ref ra, .ref a, .ref b] ∧ RowAt CR CP H ra r row ∧ RowOk r row ∧ TupN H a l ∧ TupN H b t ∧ l.length = r ∧ t.length = r ∧
  ∀ H' p St, Same H H' → RunAt CU H' p (btwRun r row St l t) → Q (.ref p) H'
abbrev nRunB : List Str := ["row", "left", "right", "marks", "hue", "ends", "labels", "starts"]
theorem scRunB : FnScope nRunB ["row", "left", "right"] (defScope sRunB) := ⟨rfl, rfl, rfl, by decide +kernel, rfl, by decide +kernel, by decide +kernel⟩
theorem ok_runB {f : Addr} {fd : FuncData} (F : FnP K "run_between" sRunB f fd) (G : GTop K mg) : FnOk P w K mg base CX0 7 f fd ["row", "left", "right"] (spRunB G.CU G.CR G.CP) := by
  have GR : FnOk P w K mg base CX0 5 G.fRI G.fdRI ["self", "row", "marked", "starts", "ends"] (spRunInit G.CU G.CR G.CP) := ok_runInit G.FRI G.toGRow
  have bR : Binds K G.fdRI ["self", "row", "marked", "starts", "ends"] [] := FunD.bindsN G.FRI fun _ _ _ _ _ _ us hl => match us, hl with | [_, _, _, _, _], _ => rfl
  have GN : FnOk P w K mg base CX0 6 G.fN G.fdN ["labels", "marked"] spNormal := (ok_normal G.FN G.len G.tuple).mono (by decide)
  have bN : Binds K G.fdN ["labels", "marked"] [] := fn_binds G.FN fun _ _ _ _ _ _ us hl => match us, hl with | [_, _], _ => rfl
  refine F.ok scRunB (fun vs H Q E h => ?_) (fun cdv A outer s H vs Q E hr h => ?_)
  · obtain ⟨ra, a, b, r, row, l, t, rfl, _⟩ := h
    rfl
  · obtain ⟨ra, a, b, r, row, l, t, rfl, hrow, ok, ha, hb, hl, ht, hQ⟩ := h
    have hu := hu_of hr
    refine ⟨_, PSs.nox (pss_cons (ps_set (i := 3) scRunB.nd rfl (.inr rfl) pe_dnewK)
      (pss_cons (ps_for PassesOwn.never rfl (pi_tup (pv 2)) (pg_name (i := 4) scRunB.nd rfl (.inl rfl)) (pss_one (ps_expr (pe_dsetd (pv 3) (pv 4) (pe_callB call_lenD (by rfl) G.len boot_len (pa_cons (pv 3) pa_nil)) ⟨rfl, rfl, rfl, rfl⟩))))
      (pss_cons (ps_set (i := 5) scRunB.nd rfl (.inl rfl) (pe_callTy call_tuple_of (by rfl) G.tuple (by decide +kernel) (pa_cons (pe_lc (own := [("hue", 4)]) (g := gName 4) (tt := tYes) (te := tDGet (tVar 3) (tVar 4)) rfl scRunB.nd (pi_tup (pv 2)) (blkOk_by (N := nRunB) (sc := defScope sRunB) (by decide +kernel)) (fun _ _ _ _ _ => pg_name (i := 4) scRunB.nd rfl (.inl rfl)) (fun _ _ _ _ _ => pts_nil)
          (fun _ _ _ _ _ => pe_dget hu (pv 3) (pv 4) (fun _ _ => rfl))) pa_nil)))
      (pss_cons (ps_set (i := 6) scRunB.nd rfl (.inr rfl) (pe_callTy call_dictD (by rfl) G.dict (by decide +kernel) (pa_cons (pv 3) pa_nil)))
      (pss_cons (ps_for PassesOwn.never rfl (pi_tup (pv 1)) (pg_name (i := 4) scRunB.nd rfl (.inl rfl)) (pss_one (ps_expr (pe_dsetd (pv 6) (pv 4) (pe_callB call_lenD (by rfl) G.len boot_len (pa_cons (pv 6) pa_nil)) ⟨rfl, rfl, rfl, rfl⟩))))
      (pss_cons (ps_set (i := 7) scRunB.nd rfl (.inl rfl) (pe_call GN hr (by rfl) G.gN G.FN.kp bN .nil pass0 (pa_cons (pe_lc (own := [("hue", 4)]) (g := gName 4) (tt := tYes) (te := tDGet (tVar 6) (tVar 4)) rfl scRunB.nd (pi_tup (pv 1)) (blkOk_by (N := nRunB) (sc := defScope sRunB) (by decide +kernel)) (fun _ _ _ _ _ => pg_name (i := 4) scRunB.nd rfl (.inl rfl)) (fun _ _ _ _ _ => pts_nil)
          (fun _ _ _ _ _ => pe_dget hu (pv 6) (pv 4) (fun _ _ => rfl))) (pa_cons (pe_callB call_lenD (by rfl) G.len boot_len (pa_cons (pv 3) pa_nil)) pa_nil))))
      (pss_one (ps_ret (pe_make G.mkU GR hr (by rfl) G.gRun bR .nil pass0 (pa_cons (pv 0) (pa_cons (pe_callB call_lenD (by rfl) G.len boot_len (pa_cons (pv 3) pa_nil)) (pa_cons (pe_disp1 hu (pv 7) (pe_disp1 hu (pe_tup (pa_cons pe_int (pa_cons pe_int pa_nil))) pe_int))
          (pa_cons (pe_disp1 hu (pv 5) (pe_disp1 hu (pe_tup (pa_cons pe_int (pa_cons pe_int pa_nil))) pe_int)) pa_nil))))))))))))), ?_⟩
    obtain ⟨dr, tr, vr, er, _⟩ := id hrow
    intro d hd
    have sd := same_new (o := .dK []) hd
    have nums0 : Nums 0 (env [] (t.take 0)) [] := ⟨rfl, List.prefix_refl _, fun x _ => by rw [if_neg]; rfl; simp [env]⟩
    have hle : ∀ {E : List Nat} {kvs : List (Key × V)}, Nums 0 E kvs → E.length ≤ 100 → kvs.length < sizeLine := fun n h => by
      refine small ?_
      have := n.len
      omega
    have hr2 := ok.r2
    -- for hue in right: marks.setdefault(hue, len(marks))
    refine ⟨_, rfl, b, rfl, ⟨_, SqT.of (sd _ _ hb)⟩, for_tup (K := K) (a := b) (xs := t.map nV)
      (fun i σ H' => Same H H' ∧ ∃ v4 kvs, σ = [some (.ref ra), some (.ref a), some (.ref b), some (.ref d), v4, none, none, none] ∧ H' d = some (.dK kvs) ∧ Nums 0 (env [] (t.take i)) kvs)
      ⟨sd, _, [], rfl, upd_same, nums0⟩ (fun i σ H' _ h => SqT.of (h.1 _ _ hb)) ?_ ?_⟩
    · rintro i y σ H1 hi ⟨s1, v4, kvs, rfl, hdk, nums⟩
      obtain ⟨x, hx, rfl⟩ := nV_get hi
      have et := take_snoc hx
      have hil : i < t.length := (List.getElem?_eq_some_iff.mp hx).1
      have el : (env [] (t.take i)).length ≤ 100 := by
        have := env_len (t.take i) []
        rw [List.length_take] at this
        simp only [List.length_nil] at this
        omega
      refine ⟨_, rfl, d, rfl, .inl ⟨_, Rd.of hdk⟩, _, rfl, _, rfl, d, kvs, rfl, hdk, kvs, kN x, hdk, rfl, hle nums el, fun v hv => ?_, fun hv => ?_⟩
      · have hg := nums.get x (Nat.zero_le _)
        rw [hv] at hg
        by_cases z : x ∈ env [] (t.take i)
        · refine ⟨s1, _, kvs, rfl, hdk, ?_⟩
          rw [et, env_snoc]
          exact nums.more_old z
        · rw [if_neg z] at hg
          cases hg
      · have z : x ∉ env [] (t.take i) := fun z => by
          have hg := nums.get x (Nat.zero_le _)
          rw [hv, if_pos z] at hg
          cases hg
        refine ⟨upd_keep s1 hd, _, _, rfl, upd_same, ?_⟩
        rw [et, env_snoc]
        have := nums.more_new (Nat.zero_le _) z
        rw [Nat.zero_add] at this
        exact this
    · rintro σ H1 ⟨s1, v4, kM, rfl, hdM, numsM⟩
      rw [List.length_map, List.take_length] at numsM
      have eM : (env [] t).length ≤ r := by
        have := env_len t []
        simp only [List.length_nil] at this
        omega
      have lM : kM.length = (env [] t).length := by have := numsM.len; omega
      -- ends = tuple([marks[hue] for hue in right])
      refine ⟨_, rfl, b, rfl, ⟨_, SqT.of (s1 _ _ hb)⟩, fun D hD => lc_tup (K := K) (a := b) (xs := t.map nV) (fun i H' => Same H1 H' ∧ H' D = some (.lst (((lab [] t).take i).map nV))) ⟨same_new hD, upd_same⟩ (fun i H' _ h => SqT.of ((s1.trans h.1) _ _ hb)) ?_ ?_⟩
      · rintro i y H2 hi ⟨s2, hD2⟩
        obtain ⟨x, hx, rfl⟩ := nV_get hi
        have hmem : x ∈ env [] t := mem_env.mpr (.inr (List.mem_of_getElem? hx))
        have hil : i < t.length := (List.getElem?_eq_some_iff.mp hx).1
        have hlab : (lab [] t)[i]? = some ((env [] t).idxOf x) := by
          rw [lab_idx, List.getElem?_map, hx]
          rfl
        refine ⟨rfl, _, rfl, _, rfl, d, nV ((env [] t).idxOf x), rfl, .inl ⟨kM, kN x, Rd.of (s2 _ _ hdM), rfl, by rw [numsM.get x (Nat.zero_le _), if_pos hmem]⟩, _, hD2, ?_, upd_keep s2 hD, ?_⟩
        · refine small ?_
          rw [List.length_map, List.length_take]
          omega
        · rw [upd_same, take_snoc hlab, List.map_append]
          rfl
      · rintro H2 ⟨s2, hD2⟩
        rw [List.take_of_length_le (by rw [lab_length, List.length_map]; exact Nat.le_refl _)] at hD2
        refine ⟨D, _, rfl, .inl ⟨SqL.of hD2, fun ae hae => ?_⟩⟩
        have s3 := same_new (o := .tup ((lab [] t).map nV)) hae
        have hends : TupN (upd H2 ae (.tup ((lab [] t).map nV))) ae (lab [] t) := upd_same
        have s13 := s2.trans s3
        revert s3 hends s13
        generalize upd H2 ae (.tup ((lab [] t).map nV)) = H3
        intro s3 hends s13
        -- labels = dict(marks)
        refine ⟨_, rfl, d, kM, rfl, Rd.of (s13 _ _ hdM), fun e he => ?_⟩
        have s4 := same_new (o := .dK kM) he
        have s14 := s1.trans (s13.trans s4)
        refine ⟨_, rfl, a, rfl, ⟨_, SqT.of (s14 _ _ ha)⟩, for_tup (K := K) (a := a) (xs := l.map nV)
          (fun i σ H' => Same H3 H' ∧ ∃ v4 kvs, σ = [some (.ref ra), some (.ref a), some (.ref b), some (.ref d), v4, some (.ref ae), some (.ref e), none] ∧ H' e = some (.dK kvs) ∧ Nums 0 (env (env [] t) (l.take i)) kvs)
          ⟨s4, _, kM, rfl, upd_same, numsM⟩ (fun i σ H' _ h => SqT.of ((s1.trans (s13.trans h.1)) _ _ ha)) ?_ ?_⟩
        · rintro i y σ H4 hi ⟨s5, v4, kvs, rfl, hek, nums⟩
          obtain ⟨x, hx, rfl⟩ := nV_get hi
          have et := take_snoc hx
          have hil : i < l.length := (List.getElem?_eq_some_iff.mp hx).1
          have el : (env (env [] t) (l.take i)).length ≤ 100 := by
            have := env_len (l.take i) (env [] t)
            rw [List.length_take] at this
            omega
          refine ⟨_, rfl, e, rfl, .inl ⟨_, Rd.of hek⟩, _, rfl, _, rfl, e, kvs, rfl, hek, kvs, kN x, hek, rfl, hle nums el, fun v hv => ?_, fun hv => ?_⟩
          · have hg := nums.get x (Nat.zero_le _)
            rw [hv] at hg
            by_cases z : x ∈ env (env [] t) (l.take i)
            · refine ⟨s5, _, kvs, rfl, hek, ?_⟩
              rw [et, env_snoc]
              exact nums.more_old z
            · rw [if_neg z] at hg
              cases hg
          · have z : x ∉ env (env [] t) (l.take i) := fun z => by
              have hg := nums.get x (Nat.zero_le _)
              rw [hv, if_pos z] at hg
              cases hg
            refine ⟨upd_keep s5 he, _, _, rfl, upd_same, ?_⟩
            rw [et, env_snoc]
            have := nums.more_new (Nat.zero_le _) z
            rw [Nat.zero_add] at this
            exact this
        · rintro σ H4 ⟨s5, v4, kL', rfl, hek, numsL⟩
          rw [List.length_map, List.take_length] at numsL
          have s15 := s1.trans (s13.trans s5)
          -- starts = normal([labels[hue] for hue in left], len(marks))
          refine ⟨_, rfl, a, rfl, ⟨_, SqT.of (s15 _ _ ha)⟩, fun D2 hD2' => lc_tup (K := K) (a := a) (xs := l.map nV) (fun i H' => Same H4 H' ∧ H' D2 = some (.lst (((lab (env [] t) l).take i).map nV))) ⟨same_new hD2', upd_same⟩ (fun i H' _ h => SqT.of ((s15.trans h.1) _ _ ha)) ?_ ?_⟩
          · rintro i y H5 hi ⟨s6, hD5⟩
            obtain ⟨x, hx, rfl⟩ := nV_get hi
            have hmem : x ∈ env (env [] t) l := mem_env.mpr (.inr (List.mem_of_getElem? hx))
            have hil : i < l.length := (List.getElem?_eq_some_iff.mp hx).1
            have hlab : (lab (env [] t) l)[i]? = some ((env (env [] t) l).idxOf x) := by
              rw [lab_idx, List.getElem?_map, hx]
              rfl
            refine ⟨rfl, _, rfl, _, rfl, e, nV ((env (env [] t) l).idxOf x), rfl, .inl ⟨kL', kN x, Rd.of (s6 _ _ hek), rfl, by rw [numsL.get x (Nat.zero_le _), if_pos hmem]⟩, _, hD5, ?_, upd_keep s6 hD2', ?_⟩
            · refine small ?_
              rw [List.length_map, List.length_take]
              omega
            · rw [upd_same, take_snoc hlab, List.map_append]
              rfl
          · rintro H5 ⟨s6, hD5⟩
            rw [List.take_of_length_le (by rw [lab_length, List.length_map]; exact Nat.le_refl _)] at hD5
            have hdM5 : H5 d = some (.dK kM) := (s13.trans (s5.trans s6)) _ _ hdM
            refine ⟨_, rfl, d, kM, rfl, hdM5, D2, lab (env [] t) l, (env [] t).length, by rw [← lM]; rfl, .inl hD5, by rw [lab_length]; omega, fun H6 c s7 hc => ?_⟩
            rw [lab_nrm (nodup_env List.nodup_nil)] at hc
            have s16 := s15.trans (s6.trans s7)
            -- Run(..)
            refine ⟨_, rfl, _, rfl, d, kM, rfl, s7 _ _ hdM5, ?_⟩
            refine disp_steps hc (fun H1 Q' q => ⟨_, rfl, q⟩) fun H7 d1 s8 f1 => ?_
            refine disp_steps (hends.keep (s5.trans (s6.trans (s7.trans s8)))) (fun H1 Q' q => ⟨_, rfl, q⟩) fun H8 d2 s9 f2 => ?_
            intro x dxx hx hdx hne
            have s10 := make_same (C := G.CU) hx hdx
            have s18 := s16.trans (s8.trans s9)
            refine ⟨x, ra, d1, d2, dxx, r, (env [] t).length, row, _, _, by rw [← lM]; rfl, upd_same, (hrow.keep s18).keep s10, ok, by omega, (f1.keep s9).keep s10, f2.keep s10, fun H9 St s11 hrun => ⟨rfl, ?_⟩⟩
            exact hQ H9 x St (s18.trans (s10.trans s11)) hrun.1
end
end Hue

set_option maxHeartbeats 4000000
namespace Hue
open PySem PySem.W PyProof.Rows L2
theorem btw_run {q r n : Nat} {row : List Pc} {St : List (List Nat)} {l t : List Nat} (ok : RowOk r row) (hl : l ∈ tuples q r) (ht : t ∈ tuples q r) (h : St.Perm ((parts r (env [] t).length).map (·.1))) : RunD.val (btwRun r row St l t) q n = btw q r row n l t := by
  refine between_val ok.pcs' hl ht (parts_states h) n _ _ (fun s _ => ?_) (fun s _ => ?_)
  · show (if lab (env [] t) l = s then fal q 0 0 else 0) = _
    by_cases h : lab (env [] t) l = s
    · subst h; simp [fal]
    · have : ¬ s = lab (env [] t) l := fun z => h z.symm
      simp [h, this]
  · show (if lab [] t = s then fal q 0 0 else 0) = _
    by_cases h : lab [] t = s
    · subst h; simp [fal]
    · have : ¬ s = lab [] t := fun z => h z.symm
      simp [h, this]
theorem RunAt.wayB {CU : Addr} {H : Hp} {p : Addr} {D : RunD} {q : Nat} (h : RunAt CU H p D) (hq : q ≤ 100) : WayB q D := by
  obtain ⟨ok, dx, aS, aP, a1, a2, _, _, tP, tf, te⟩ := h
  refine ⟨ok, fun s _ => tf.lt hq s, fun s _ => te.lt hq s, fun z hz t ht => ?_⟩
  have h := rowT_lt (q := q) (steps_of_perm_len ok.st ok.r2 ok.m2) (tP.lt ok.st hq) D.row.length (Nat.le_refl _)
  rw [List.take_length] at h
  refine Nat.lt_of_lt_of_le (h z hz t ht) (Nat.pow_le_pow_right (by decide) ?_)
  have := ok.len
  omega
theorem WayB.val_lt {q n : Nat} {D : RunD} (b : WayB q D) (hn : n ≤ 15) : (D.val q n).natAbs < 2 ^ 200000 := by
  have h : (D.val q n).natAbs < 2 ^ ((920 + n * 9245 + 920) + 4) := by
    unfold RunD.val Hue.val
    refine S_pow (steps_of_perm_len b.ok.st b.ok.r2 b.ok.m2) fun t ht => ?_
    exact mul_pow (lin_bnd b n t ht) (b.e t ht)
  exact Nat.lt_of_lt_of_le h (Nat.pow_le_pow_right (by decide) (by omega))
section
variable {P : Program} {w : World} {K : PySem.W.Frag} {mg : Str → Option Value} {base : Heap}
structure GBtw (K : PySem.W.Frag) (mg : Str → Option Value) extends GTop K mg where
  fQR : Addr
  fdQR : FuncData
  FQR : FnP K "require_rim" sReqRim fQR fdQR
  gQR : mg "require_rim" = some (.ref fQR)
  fQB : Addr
  fdQB : FuncData
  FQB : FnP K "require_below" sReqBel fQB fdQB
  gQB : mg "require_below" = some (.ref fQB)
  fRB : Addr
  fdRB : FuncData
  FRB : FnP K "run_between" sRunB fRB fdRB
  gRB : mg "run_between" = some (.ref fRB)
/-! ### between -/
abbrev sBtw : Stmt := top 57
def spBtw (CR CP : Addr) : Sp := fun vs H Q _ => ∃ (ra a b : Addr) (r n q : Nat) (row : List Pc) (l t : List Nat), vs = [.ref ra, nV n, .ref a, .ref b, nV q] ∧ RowAt CR CP H ra r row ∧ RowOk r row ∧ TupN H a l ∧ TupN H b t ∧ l ∈ tuples q r ∧ t ∈ tuples q r ∧ q ≤ 100 ∧ n ≤ 15 ∧
  ∀ H', Same H H' → (btw q r row n l t).natAbs < 2 ^ 200000 → Q (.int (btw q r row n l t)) H'
abbrev nBtw : List Str := ["row", "n", "left", "right", "hues"]
theorem scBtw : FnScope nBtw nBtw (defScope sBtw) := ⟨rfl, rfl, rfl, by decide +kernel, rfl, by decide +kernel, by decide +kernel⟩
theorem ok_btw {f : Addr} {fd : FuncData} (F : FnP K "between" sBtw f fd) (G : GBtw K mg) : FnOk P w K mg base CX0 8 f fd nBtw (spBtw G.CR G.CP) := by
  have GW : FnOk P w K mg base CX0 7 G.fRR G.fdRR ["thing"] (spReqI G.CR) := (ok_ReqRow G.FRR G.cls).mono (by decide)
  have bW : Binds K G.fdRR ["thing"] [] := fn_binds G.FRR fun _ _ _ _ _ _ us hl => match us, hl with | [_], _ => rfl
  have GQ : FnOk P w K mg base CX0 7 G.pcs.fQ G.pcs.fdQ ["thing"] spReqNum := (ok_reqNum G.pcs.FQ G.pcs.FN G.pcs.gN G.pcs.toGIs).mono (by decide)
  have bQ : Binds K G.pcs.fdQ ["thing"] [] := fn_binds G.pcs.FQ fun _ _ _ _ _ _ us hl => match us, hl with | [_], _ => rfl
  have GM : FnOk P w K mg base CX0 7 G.fQR G.fdQR ["thing", "rim"] spReqRim := (ok_reqRim G.FQR G.pcs).mono (by decide)
  have bM : Binds K G.fdQR ["thing", "rim"] [] := fn_binds G.FQR fun _ _ _ _ _ _ us hl => match us, hl with | [_, _], _ => rfl
  have GL : FnOk P w K mg base CX0 7 G.fQB G.fdQB ["thing", "hues"] spReqBel := (ok_reqBel G.FQB).mono (by decide)
  have bL : Binds K G.fdQB ["thing", "hues"] [] := fn_binds G.FQB fun _ _ _ _ _ _ us hl => match us, hl with | [_, _], _ => rfl
  have GR : FnOk P w K mg base CX0 7 G.fRB G.fdRB ["row", "left", "right"] (spRunB G.CU G.CR G.CP) := ok_runB G.FRB G.toGTop
  have bR : Binds K G.fdRB ["row", "left", "right"] [] := fn_binds G.FRB fun _ _ _ _ _ _ us hl => match us, hl with | [_, _, _], _ => rfl
  have GI : FnOk P w K mg base CX0 6 G.fWI G.fdWI ["self", "runs", "hues", "trim"] (spWalkInit G.CU G.CW G.fW) := (ok_walkInit G.FWI G.toGWalk).mono (by decide)
  have bI : Binds K G.fdWI ["self", "runs", "hues", "trim"] [] := FunD.bindsN G.FWI fun _ _ _ _ _ _ us hl => match us, hl with | [_, _, _, _], _ => rfl
  have GF : FnOk P w K mg base CX0 7 G.fFW G.fdFW ["self", "many"] (spFirst G.CW G.fW) := (ok_first G.FFW G.toGWalk).mono (by decide)
  have bF : Binds K G.fdFW ["self", "many"] [] := FunD.bindsN G.FFW fun _ _ _ _ _ _ us hl => match us, hl with | [_, _], _ => rfl
  refine F.ok scBtw (fun vs H Q E h => ?_) (fun cdv A outer s H vs Q E hr h => ?_)
  · obtain ⟨ra, a, b, r, n, q, row, l, t, rfl, _⟩ := h
    rfl
  · obtain ⟨ra, a, b, r, n, q, row, l, t, rfl, hrow, ok, ha, hb, hl, ht, hq, hn, hQ⟩ := h
    refine ⟨_, PSs.nox (pss_cons (ps_expr (pe_call GW hr (by rfl) G.gRR G.FRR.kp bW .nil pass0 (pa_cons (pv 0) pa_nil)))
      (pss_cons (ps_expr (pe_call GQ hr (by rfl) G.pcs.gQ G.pcs.FQ.kp bQ .nil pass0 (pa_cons (pv 1) pa_nil)))
      (pss_cons (ps_expr (pe_call GM hr (by rfl) G.gQR G.FQR.kp bM .nil pass0 (pa_cons (pv 2) (pa_cons (pe_fld (pv 0) rfl) pa_nil))))
      (pss_cons (ps_expr (pe_call GM hr (by rfl) G.gQR G.FQR.kp bM .nil pass0 (pa_cons (pv 3) (pa_cons (pe_fld (pv 0) rfl) pa_nil))))
      (pss_cons (ps_expr (pe_call GQ hr (by rfl) G.pcs.gQ G.pcs.FQ.kp bQ .nil pass0 (pa_cons (pv 4) pa_nil)))
      (pss_cons (ps_expr (pe_call GL hr (by rfl) G.gQB G.FQB.kp bL .nil pass0 (pa_cons (pv 2) (pa_cons (pv 4) pa_nil))))
      (pss_cons (ps_expr (pe_call GL hr (by rfl) G.gQB G.FQB.kp bL .nil pass0 (pa_cons (pv 3) (pa_cons (pv 4) pa_nil))))
      (pss_one (ps_ret (pe_ix ix_list (pe_meth (pe_make G.mkW GI hr (by rfl) G.gWalk bI .nil pass0 (pa_cons (pe_lst (pa_cons (pe_call GR hr (by rfl) G.gRB G.FRB.kp bR .nil pass0 (pa_cons (pv 0) (pa_cons (pv 2) (pa_cons (pv 3) pa_nil)))) pa_nil)) (pa_cons (pv 4) (pa_cons (pe_glob (v := .ref G.fW) (by rfl) G.gW rfl) pa_nil))))
        G.walkC.cl G.mFW GF hr bF .nil pass0 (pa_cons (pe_op op_add (pv 1) pe_int) pa_nil)) (pv 1) (fun _ _ => rfl))))))))))), ?_⟩
    obtain ⟨dr, tr, vr, er, _⟩ := id hrow
    obtain ⟨l1, l2⟩ := mem_tuples.mp hl
    obtain ⟨t1, t2⟩ := mem_tuples.mp ht
    have hr2 := ok.r2
    refine ⟨_, rfl, ra, dr, _, rfl, er, ?_⟩
    refine ⟨_, rfl, n, rfl, ?_⟩
    refine ⟨_, rfl, _, rfl, ra, G.CR, dr, _, _, rfl, er, G.rowC.c.cl, G.rowC.c.nR, rowF_rim tr r, a, l, r, rfl, ha, l1, by omega, fun H1 s1 => ?_⟩
    refine ⟨_, rfl, _, rfl, ra, G.CR, dr, _, _, rfl, s1 _ _ er, G.rowC.c.cl, G.rowC.c.nR, rowF_rim tr r, b, t, r, rfl, hb.keep s1, t1, by omega, fun H2 s2 => ?_⟩
    refine ⟨_, rfl, q, rfl, ?_⟩
    have s12 := s1.trans s2
    refine ⟨_, rfl, _, rfl, a, l, q, rfl, ha.keep s12, l2, fun H3 s3 => ?_⟩
    have s13 := s12.trans s3
    refine ⟨_, rfl, _, rfl, b, t, q, rfl, hb.keep s13, t2, fun H4 s4 => ?_⟩
    have s14 := s13.trans s4
    refine ⟨_, rfl, _, rfl, _, rfl, ra, a, b, r, row, l, t, rfl, hrow.keep s14, ok, ha.keep s14, hb.keep s14, l1, t1, fun H5 p St s5 hrun => ?_⟩
    refine ⟨small' (n := 1) (by decide), fun D hD => ?_⟩
    have s6 := same_new (o := .lst [.ref p]) hD
    have s16 := s14.trans (s5.trans s6)
    refine ⟨_, rfl, ?_⟩
    intro x dx hx hdx hne
    have s7 := make_same (C := G.CW) hx hdx
    have hruns : RunsAt G.CU (upd H5 D (.lst [.ref p])) D [btwRun r row St l t] := ⟨_, upd_same, .cons ⟨p, rfl, hrun.keep s6⟩ .nil⟩
    refine ⟨x, D, dx, q, [btwRun r row St l t], rfl, upd_same, hruns.keep s7, hq, by simp, fun H6 s8 hwalk => ⟨rfl, ?_⟩⟩
    obtain ⟨dw, wa, hI, _⟩ := id hwalk
    refine ⟨x, dw, _, rfl, hI, rfl, _, rfl, _, _, rfl, rfl, x, n + 1, q, [btwRun r row St l t], rfl, hwalk, by omega, fun H7 L s9 _ hl7 => ?_⟩
    have hat := at_list (F := fun k => S [btwRun r row St l t] fun D => D.val q k) (many := n + 1) (n := n) (by omega)
    refine ⟨_, rfl, L, _, _, _, rfl, rfl, SqL.of hl7, hat, ?_⟩
    have e : (S [btwRun r row St l t] fun D => D.val q n) = btw q r row n l t := (S_single _ _).trans (btw_run ok hl ht hrun.1.st)
    show Q (.int (S [btwRun r row St l t] fun D => D.val q n)) H7
    rw [e]
    refine hQ H7 (s16.trans (s7.trans (s8.trans s9))) ?_
    rw [← btw_run (n := n) ok hl ht hrun.1.st]
    exact (hrun.wayB hq).val_lt hn
end
end Hue

set_option maxHeartbeats 4000000
namespace Hue
open PySem PySem.W PyProof.Rows L2
def PurseAt (H : Hp) (p : Addr) (b : Nat) : Prop := ∃ x y z : Int, H p = some (.lst [.int x, .int y, .int z]) ∧ 0 ≤ x ∧ 0 ≤ y ∧ y < 2147483648 ∧ 0 ≤ z ∧ z ≤ (b : Int)
theorem PurseAt.keep {H H' : Hp} {p : Addr} {b : Nat} (k : Same H H') (h : PurseAt H p b) : PurseAt H' p b := by
  obtain ⟨x, y, z, e, r⟩ := h
  exact ⟨x, y, z, k _ _ e, r⟩
theorem PurseAt.mono {H : Hp} {p : Addr} {b c : Nat} (h : PurseAt H p b) (l : b ≤ c) : PurseAt H p c := by
  obtain ⟨x, y, z, e, a1, a2, a3, a4, a5⟩ := h
  exact ⟨x, y, z, e, a1, a2, a3, a4, by omega⟩
section
variable {P : Program} {w : World} {K : PySem.W.Frag} {mg : Str → Option Value} {base : Heap}
/-! ### _law_mixed -/
abbrev sMixed : Stmt := top 59
def spMixed : Sp := fun vs H Q _ => ∃ y z : Int, vs = [.int y, .int z] ∧ 0 ≤ y ∧ y < 2147483648 ∧ 0 ≤ z ∧ z < 4611686018427387904 ∧ ∀ m : Int, 0 ≤ m → Q (.int m) H
abbrev nMixed : List Str := ["_law_cell", "_law_k", "_law_stirred"]
theorem scMixed : FnScope nMixed ["_law_cell", "_law_k"] (defScope sMixed) := ⟨rfl, rfl, rfl, by decide +kernel, rfl, by decide +kernel, by decide +kernel⟩
theorem ok_mixed {f : Addr} {fd : FuncData} (F : FnP K "_law_mixed" sMixed f fd) (gI : mg "int" = none) : FnOk P w K mg base CX0 1 f fd ["_law_cell", "_law_k"] spMixed := by
  refine F.ok scMixed (fun vs H Q E h => ?_) (fun cdv A outer s H vs Q E hr h => ?_)
  · obtain ⟨y, z, rfl, _⟩ := h
    rfl
  · obtain ⟨y, z, rfl, y0, y1, z0, z1, hQ⟩ := h
    refine ⟨_, PSs.nox (pss_cons (ps_set (i := 2) scMixed.nd rfl (.inl rfl) (pe_op op_mod (pe_callTy call_int1 (by rfl) gI (by decide +kernel) (pa_cons (pe_op op_add (pe_op op_add (pe_op op_add (pe_op op_mul (pv 0) pe_int) (pe_op op_mul (pe_op op_mul pe_int (pv 1)) (pv 1))) (pe_op op_mul pe_int (pv 1))) pe_int) pa_nil)) pe_int))
      (pss_one (ps_ret (pe_op op_fdiv (pe_op op_mod (pe_callTy call_int1 (by rfl) gI (by decide +kernel) (pa_cons (pe_op op_add (pe_op op_add (pe_op op_mul (pv 2) (pv 2)) (pe_op op_mul pe_int (pv 2))) pe_int) pa_nil)) pe_int) pe_int)))), ?_⟩
    refine ⟨_, rfl, _, _, rfl, rfl, .inr ⟨by decide, by decide⟩, _, rfl, _, _, rfl, rfl, .inl ⟨by decide, by decide⟩, _, rfl, _, _, rfl, rfl, .inr ⟨by omega, by omega⟩, _, _, rfl, rfl, _, rfl, _, _, rfl, rfl, .inl ⟨by decide, by decide⟩, _, _, rfl, rfl, _, _, rfl, rfl, .inl ⟨_, rfl, _, _, rfl, rfl, (by show (0 : Int) < 2147483647; decide), ?_⟩⟩
    have b0 : 0 ≤ (y * 2654435761 + 40503 * z * z + 97 * z + 13) % 2147483647 := Int.emod_nonneg _ (by decide)
    have b1 : (y * 2654435761 + 40503 * z * z + 97 * z + 13) % 2147483647 < 2147483647 := Int.emod_lt_of_pos _ (by decide)
    revert b0 b1
    generalize (y * 2654435761 + 40503 * z * z + 97 * z + 13) % 2147483647 = t
    intro b0 b1
    refine ⟨_, rfl, _, rfl, _, _, rfl, rfl, .inl ⟨by omega, by omega⟩, _, rfl, _, _, rfl, rfl, .inl ⟨by decide, by decide⟩, _, _, rfl, rfl, _, _, rfl, rfl, .inl ⟨_, rfl, _, _, rfl, rfl, (by show (0 : Int) < 2147483629; decide), _, _, rfl, rfl, ⟨by decide, by decide⟩, ?_⟩⟩
    exact hQ _ (Int.ediv_nonneg (Int.emod_nonneg _ (by decide)) (by decide))
/-! ### _law_purse -/
abbrev sPurse : Stmt := top 60
def spPurse (K : PySem.W.Frag) : Sp := fun vs H Q _ => ∃ (a : Addr) (ns : List Int) (n : Nat), vs = [.ref a, nV n] ∧ SqL K H a (ns.map V.int) ∧ ns.length ≤ 63 ∧ n ≤ 10 ∧ ∀ H' p, Same H H' → H p = none → PurseAt H' p 10000 → Q (.ref p) H'
abbrev nPurse : List Str := ["_law_cells", "_law_at", "_law_cell"]
theorem scPurse : FnScope nPurse ["_law_cells", "_law_at"] (defScope sPurse) := ⟨rfl, rfl, rfl, by decide +kernel, rfl, by decide +kernel, by decide +kernel⟩
theorem ok_purse {f : Addr} {fd : FuncData} (F : FnP K "_law_purse" sPurse f fd) (gI : mg "int" = none) (gL : mg "len" = none) (gM : mg "max" = none) : FnOk P w K mg base CX0 1 f fd ["_law_cells", "_law_at"] (spPurse K) := by
  refine F.ok scPurse (fun vs H Q E h => ?_) (fun cdv A outer s H vs Q E hr h => ?_)
  · obtain ⟨a, ns, n, rfl, _⟩ := h
    rfl
  · obtain ⟨a, ns, n, rfl, ha, hlen, hn, hQ⟩ := h
    refine ⟨_, PSs.nox (pss_cons (ps_set (i := 2) scPurse.nd rfl (.inl rfl) pe_int)
      (pss_cons (ps_if (pt_cmpR op_lt (pv 1) (pe_callB call_len_seq (by rfl) gL boot_len (pa_cons (pv 0) pa_nil)) (nomark _)) (pss_one (ps_set (i := 2) scPurse.nd rfl (.inl rfl) (pe_ix ix_list (pv 0) (pv 1) (fun _ _ => rfl)))) pss_nil)
      (pss_one (ps_ret (pe_lst (pa_cons (pe_op op_mod (pe_callTy call_int1 (by rfl) gI (by decide +kernel) (pa_cons (pe_callB (call_max2 rfl) (by rfl) gM (by decide +kernel) (pa_cons (pe_op op_sub (pv 2) (pe_op op_pow pe_int pe_int)) (pa_cons pe_int pa_nil))) pa_nil)) (pe_op op_powW (pe_op op_pow pe_int pe_int) pe_int))
        (pa_cons (pe_op op_mod (pe_callTy call_int1 (by rfl) gI (by decide +kernel) (pa_cons (pv 2) pa_nil)) pe_int) (pa_cons (pe_op op_mul pe_int (pv 1)) pa_nil)))))))), ?_⟩
    have main : ∀ c : Int, (tRet (tLst (tCons (tOp (rI (fun _ j => 0 < j) fun i j => .int (i % j)) (tCB (fun xs H Q => (∃ i, xs = [.int i] ∧ Q (.int i) H) ∨ ∃ k, xs = [.bl k] ∧ Q (.int (if k then 1 else 0)) H) (tCons (tCB (fun xs H Q => ∃ i j, xs = [.int i, .int j] ∧ Q (.int (if j > i then j else i)) H) (tCons (tOp (rI0 fun i j => .int (i - j)) (tVar 2) (tOp (rI CPow fun i j => .int (i ^ j.toNat)) (tC (.int 10)) (tC (.int 18)))) (tCons (tC (.int 0)) tNil))) tNil)) (tOp (rI CPowW fun i j => .int (i ^ j.toNat)) (tOp (rI CPow fun i j => .int (i ^ j.toNat)) (tC (.int 10)) (tC (.int 60))) (tC (.int 8))))
        (tCons (tOp (rI (fun _ j => 0 < j) fun i j => .int (i % j)) (tCB (fun xs H Q => (∃ i, xs = [.int i] ∧ Q (.int i) H) ∨ ∃ k, xs = [.bl k] ∧ Q (.int (if k then 1 else 0)) H) (tCons (tVar 2) tNil)) (tC (.int 2147483647))) (tCons (tOp (rI CMul fun i j => .int (i * j)) (tC (.int 1000)) (tVar 1)) tNil))))) { nx := fun _ H' => Q .non H', rt := Q } [some (.ref a), some (nV n), some (.int c)] H := by
      intro c
      refine ⟨_, rfl, _, _, rfl, rfl, ⟨by decide, by decide, by decide⟩, _, _, rfl, rfl, _, _, rfl, .inl ⟨_, rfl, ?_⟩⟩
      refine ⟨_, _, rfl, rfl, ⟨by decide, by decide, by decide⟩, _, _, rfl, rfl, ⟨by decide, by decide +kernel⟩, _, _, rfl, rfl, (by show (0 : Int) < (10 ^ Int.toNat 60) ^ Int.toNat 8; decide +kernel), ?_⟩
      refine ⟨_, rfl, .inl ⟨_, rfl, _, _, rfl, rfl, (by show (0 : Int) < 2147483647; decide), _, rfl, _, _, rfl, rfl, .inl ⟨by decide, by decide⟩, small' (n := 3) (by decide), fun p hp => ?_⟩⟩
      refine hQ _ p (same_new hp) hp ⟨_, _, _, upd_same, Int.emod_nonneg _ (by decide +kernel), Int.emod_nonneg _ (by decide), ?_, by omega, by omega⟩
      have := Int.emod_lt_of_pos c (show (0 : Int) < 2147483647 by decide)
      omega
    refine ⟨_, rfl, _, rfl, a, _, rfl, .inl ha, _, _, rfl, rfl, _, rfl, ?_⟩
    refine ite2 (fun z => ?_) (fun z => ?_)
    · have hlt : n < ns.length := by
        have := of_decide_eq_true z
        rw [List.length_map] at this
        omega
      exact ⟨_, rfl, _, rfl, a, _, _, _, rfl, rfl, ha, at_iV hlt, main _⟩
    · exact main 0
/-! ### _law_draw -/
abbrev sDraw : Stmt := top 61
def spDraw : Sp := fun vs H Q _ => ∃ (p : Addr) (n b : Nat), vs = [.ref p, nV n] ∧ PurseAt H p b ∧ 1 ≤ n ∧ n ≤ 1000 ∧ b ≤ 1000000000 ∧ ∀ H' k, k < n → Same (hide [p] H) H' → PurseAt H' p (b + 1) → Q (nV k) H'
abbrev nDraw : List Str := ["_law_purse_here", "_law_out_of", "_law_drawn"]
theorem scDraw : FnScope nDraw ["_law_purse_here", "_law_out_of"] (defScope sDraw) := ⟨rfl, rfl, rfl, by decide +kernel, rfl, by decide +kernel, by decide +kernel⟩
theorem mod_nV {m : Int} {n : Nat} (hn : 1 ≤ n) (hm : 0 ≤ m) : ∃ k : Nat, k < n ∧ m % (n : Int) = (k : Int) := by
  refine ⟨(m % (n : Int)).toNat, ?_, ?_⟩
  · have h1 := Int.emod_lt_of_pos m (show (0 : Int) < n by omega)
    have h2 := Int.emod_nonneg m (show (n : Int) ≠ 0 by omega)
    omega
  · have h2 := Int.emod_nonneg m (show (n : Int) ≠ 0 by omega)
    omega
theorem ok_draw {f fM : Addr} {fd fdM : FuncData} (F : FnP K "_law_draw" sDraw f fd) (FM : FnP K "_law_mixed" sMixed fM fdM) (gM : mg "_law_mixed" = some (.ref fM)) (gI : mg "int" = none) : FnOk P w K mg base CX0 2 f fd ["_law_purse_here", "_law_out_of"] spDraw := by
  have GM : FnOk P w K mg base CX0 1 fM fdM ["_law_cell", "_law_k"] spMixed := ok_mixed FM gI
  have bM : Binds K fdM ["_law_cell", "_law_k"] [] := fn_binds FM fun _ _ _ _ _ _ us hl => match us, hl with | [_, _], _ => rfl
  refine F.ok scDraw (fun vs H Q E h => ?_) (fun cdv A outer s H vs Q E hr h => ?_)
  · obtain ⟨p, n, b, rfl, _⟩ := h
    rfl
  · obtain ⟨p, n, b, rfl, ⟨x, y, z, hp, x0, y0, y1, z0, z1⟩, n1, n2, hb, hQ⟩ := h
    refine ⟨_, PSs.nox (pss_cons (ps_if (pt_cmpR op_gt (pe_ix ix_list (pv 0) pe_int (fun _ _ => rfl)) pe_int (nomark _))
        (pss_cons (ps_set (i := 2) scDraw.nd rfl (.inl rfl) (pe_op op_mod (pe_callTy call_int1 (by rfl) gI (by decide +kernel) (pa_cons (pe_ix ix_list (pv 0) pe_int (fun _ _ => rfl)) pa_nil)) (pv 1)))
        (pss_cons (ps_asg (pe_op op_fdivW (pe_ix ix_list (pv 0) pe_int (fun _ _ => rfl)) (pv 1)) (pg_sub (pv 0) pe_int set_list))
        (pss_one (ps_ret (pv 2))))) pss_nil)
      (pss_cons (ps_asg (pe_op op_add (pe_ix ix_list (pv 0) pe_int (fun _ _ => rfl)) pe_int) (pg_sub (pv 0) pe_int set_list))
      (pss_one (ps_ret (pe_op op_mod (pe_callTy call_int1 (by rfl) gI (by decide +kernel) (pa_cons (pe_call GM hr (by rfl) gM FM.kp bM .nil pass0 (pa_cons (pe_ix ix_list (pv 0) pe_int (fun _ _ => rfl)) (pa_cons (pe_ix ix_list (pv 0) pe_int (fun _ _ => rfl)) pa_nil))) pa_nil)) (pv 1)))))), ?_⟩
    have SH : ∀ o, Same (hide [p] H) (upd H p o) := fun o => same_hide_upd (by simp) (hide_sub _ _)
    refine ⟨_, rfl, p, _, _, _, rfl, rfl, SqL.of hp, rfl, _, _, rfl, rfl, _, rfl, ?_⟩
    refine ite2 (fun hx => ?_) (fun hx => ?_)
    · obtain ⟨k, hk, ek⟩ := mod_nV n1 x0
      refine ⟨_, rfl, p, _, _, _, rfl, rfl, SqL.of hp, rfl, .inl ⟨_, rfl, _, rfl, _, _, rfl, rfl, by omega, ?_⟩⟩
      refine ⟨_, rfl, p, _, _, _, rfl, rfl, SqL.of hp, rfl, _, rfl, _, _, rfl, rfl, ⟨by omega, ?_⟩, _, rfl, p, _, _, 0, rfl, rfl, hp, rfl, ?_⟩
      · have : ((n : Int).natAbs).log2 < 10 := PySem.Flt.log2_lt_of (by decide) (by omega)
        omega
      · refine ⟨_, rfl, ?_⟩
        show Q (.int (x % (n : Int))) _
        rw [ek]
        refine hQ _ k hk (SH _) ⟨x / (n : Int), y, z, upd_same, Int.ediv_nonneg x0 (by omega), y0, y1, z0, by omega⟩
    · refine ⟨_, rfl, p, _, _, _, rfl, rfl, SqL.of hp, rfl, _, _, rfl, rfl, _, rfl, p, _, _, 2, rfl, rfl, hp, rfl, ?_⟩
      have hp2 : upd H p (.lst ([V.int x, V.int y, V.int z].set 2 (V.int (z + 1)))) p = some (.lst [.int x, .int y, .int (z + 1)]) := upd_same
      refine ⟨_, rfl, p, _, _, _, rfl, rfl, SqL.of hp2, rfl, _, rfl, p, _, _, _, rfl, rfl, SqL.of hp2, rfl, y, z + 1, rfl, y0, y1, by omega, by omega, fun m hm => ?_⟩
      obtain ⟨k, hk, ek⟩ := mod_nV n1 hm
      refine .inl ⟨_, rfl, _, rfl, _, _, rfl, rfl, by omega, ?_⟩
      show Q (.int (m % (n : Int))) _
      rw [ek]
      exact hQ _ k hk (SH _) ⟨x, y, z + 1, hp2, x0, y0, y1, by omega, by omega⟩
end
end Hue

set_option maxHeartbeats 4000000
namespace Hue
open PySem PySem.W PyProof.Rows L2
theorem hide_again {Z : List Addr} {H H' : Hp} (h : Same (hide Z H) H') : Same (hide Z H) (hide Z H') := fun b o e => by
  by_cases hb : b ∈ Z
  · rw [hide_in hb] at e; cases e
  · have := h b o e
    rw [hide_out hb]
    exact this
theorem hide_free {p a : Addr} {H : Hp} {o : HO} (hp : H p = some o) (h : H a = none) : hide [p] H a = none := by
  rw [hide_out]
  · exact h
  · intro z
    rw [List.mem_singleton.mp z, hp] at h
    cases h
theorem PairsL.hid {p D : Addr} {H : Hp} {xs : List V} {l : List (Nat × Nat)} (hp : H p = some (.lst xs)) (n : D ≠ p) (h : PairsL H D l) : PairsL (hide [p] H) D l := by
  obtain ⟨vs, h1, h2⟩ := h
  exact ⟨vs, by rw [hide_out (by simpa using n)]; exact h1, pd_imp h2 fun _ _ r => r.hid hp⟩
/-- a part as the law keeps it -/
def RawAt (H : Hp) (t : Addr) (r i : Nat) (un sa : List (Nat × Nat)) : Prop := ∃ A T, H t = some (.tup [nV r, nV i, .ref A, .ref T]) ∧ PairsL H A un ∧ PairsL H T sa
theorem RawAt.keep {H H' : Hp} {t : Addr} {r i : Nat} {un sa : List (Nat × Nat)} (k : Same H H') (h : RawAt H t r i un sa) : RawAt H' t r i un sa := by
  obtain ⟨A, T, a, b, c⟩ := h
  exact ⟨A, T, k _ _ a, b.keep k, c.keep k⟩
/-- the same, its lists not there before -/
def RawNew (H H' : Hp) (t : Addr) (r i : Nat) (un sa : List (Nat × Nat)) : Prop := ∃ A T, H' t = some (.tup [nV r, nV i, .ref A, .ref T]) ∧ PairsL H' A un ∧ PairsL H' T sa ∧ H A = none ∧ H T = none
theorem RawNew.at_ {H H' : Hp} {t : Addr} {r i : Nat} {un sa : List (Nat × Nat)} (h : RawNew H H' t r i un sa) : RawAt H' t r i un sa := by
  obtain ⟨A, T, a, b, c, _⟩ := h
  exact ⟨A, T, a, b, c⟩
theorem RawNew.keep {H H' H2 : Hp} {t : Addr} {r i : Nat} {un sa : List (Nat × Nat)} (k : Same H' H2) (h : RawNew H H' t r i un sa) : RawNew H H2 t r i un sa := by
  obtain ⟨A, T, a, b, c, d⟩ := h
  exact ⟨A, T, k _ _ a, b.keep k, c.keep k, d⟩
theorem RawNew.from {H0 H H' : Hp} {t : Addr} {r i : Nat} {un sa : List (Nat × Nat)} (k : Same H0 H) (h : RawNew H H' t r i un sa) : RawNew H0 H' t r i un sa := by
  obtain ⟨A, T, a, b, c, d, e⟩ := h
  exact ⟨A, T, a, b, c, k.free d, k.free e⟩
theorem RawNew.hidN {H H' : Hp} {t D : Addr} {r i : Nat} {un sa : List (Nat × Nat)} {vs ws : List V} (h : RawNew H H' t r i un sa) (hD : H D = some (.lst vs)) (hD' : H' D = some (.lst ws)) : RawNew H (hide [D] H') t r i un sa := by
  obtain ⟨A, T, a, b, c, d, e⟩ := h
  have nA : A ≠ D := fun z => by rw [z, hD] at d; cases d
  have nT : T ≠ D := fun z => by rw [z, hD] at e; cases e
  exact ⟨A, T, hid_no hD' a (fun z => nomatch z), b.hid hD' nA, c.hid hD' nT, d, e⟩
/-- a new part stands also where an old list is hidden -/
theorem RawNew.hid {H H' : Hp} {t D : Addr} {r i : Nat} {un sa : List (Nat × Nat)} {vs ws : List V} (h : RawNew H H' t r i un sa) (hD : H D = some (.lst vs)) (hD' : H' D = some (.lst ws)) : RawAt (hide [D] H') t r i un sa := by
  obtain ⟨A, T, a, b, c, d, e⟩ := h
  have nA : A ≠ D := fun z => by rw [z, hD] at d; cases d
  have nT : T ≠ D := fun z => by rw [z, hD] at e; cases e
  exact ⟨A, T, hid_no hD' a (fun z => nomatch z), b.hid hD' nA, c.hid hD' nT⟩
section
variable {P : Program} {w : World} {K : PySem.W.Frag} {mg : Str → Option Value} {base : Heap}
structure GDraw (K : PySem.W.Frag) (mg : Str → Option Value) where
  fM : Addr
  fdM : FuncData
  FM : FnP K "_law_mixed" sMixed fM fdM
  gM : mg "_law_mixed" = some (.ref fM)
  fD : Addr
  fdD : FuncData
  FD : FnP K "_law_draw" sDraw fD fdD
  gD : mg "_law_draw" = some (.ref fD)
  int : mg "int" = none
  max : mg "max" = none
  range : mg "range" = none
/-! ### _law_pairs -/
abbrev sPairs : Stmt := top 62
def spPairs : Sp := fun vs H Q _ => ∃ (p : Addr) (n m b : Nat), vs = [.ref p, nV n, nV m] ∧ PurseAt H p b ∧ 1 ≤ n ∧ n ≤ 10 ∧ m ≤ 30 ∧ b ≤ 100000000 ∧
  ∀ H' D l, Same (hide [p] H) H' → PurseAt H' p (b + 60) → PairsL (hide [p] H') D l → hide [p] H D = none → l.length ≤ m → Below n l → Q (.ref D) H'
abbrev nPairs : List Str := ["_law_purse_here", "_law_places", "_law_many", "_law_found", "_law_turn", "_law_x", "_law_y"]
theorem scPairs : FnScope nPairs ["_law_purse_here", "_law_places", "_law_many"] (defScope sPairs) := ⟨rfl, rfl, rfl, by decide +kernel, rfl, by decide +kernel, by decide +kernel⟩
theorem ok_pairs {f : Addr} {fd : FuncData} (F : FnP K "_law_pairs" sPairs f fd) (G : GDraw K mg) : FnOk P w K mg base CX0 3 f fd ["_law_purse_here", "_law_places", "_law_many"] spPairs := by
  have GD : FnOk P w K mg base CX0 2 G.fD G.fdD ["_law_purse_here", "_law_out_of"] spDraw := ok_draw G.FD G.FM G.gM G.int
  have bD : Binds K G.fdD ["_law_purse_here", "_law_out_of"] [] := fn_binds G.FD fun _ _ _ _ _ _ us hl => match us, hl with | [_, _], _ => rfl
  refine F.ok scPairs (fun vs H Q E h => ?_) (fun cdv A outer s H vs Q E hr h => ?_)
  · obtain ⟨p, n, m, b, rfl, _⟩ := h
    rfl
  · obtain ⟨p, n, m, b, rfl, hp, n1, n2, hm, hb, hQ⟩ := h
    refine ⟨_, PSs.nox (pss_cons (ps_set (i := 3) scPairs.nd rfl (.inl rfl) (pe_lst pa_nil))
      (pss_cons (ps_for PassesOwn.never rfl (pi_range1 (by rfl) G.range (pa_cons (pv 2) pa_nil)) (pg_name (i := 4) scPairs.nd rfl (.inl rfl))
        (pss_cons (ps_par (i := 5) (j := 6) rfl scPairs.nd rfl rfl (by decide) rfl rfl (pa_cons (pe_call GD hr (by rfl) G.gD G.FD.kp bD .nil pass0 (pa_cons (pv 0) (pa_cons (pv 1) pa_nil)))
            (pa_cons (pe_call GD hr (by rfl) G.gD G.FD.kp bD .nil pass0 (pa_cons (pv 0) (pa_cons (pe_callB (call_max2 rfl) (by rfl) G.max (by decide +kernel) (pa_cons pe_int (pa_cons (pe_op op_sub (pv 1) pe_int) pa_nil))) pa_nil))) pa_nil)) (by rfl))
        (pss_one (ps_if (pt_cmpR op_gt (pv 1) pe_int (nomark _))
          (pss_one (ps_expr (pe_bm PySem.F.plainAttrs_list PySem.F.slot_list_append PySem.F.type_list_append mt_append (pv 3) (pa_cons (pe_tup (pa_cons (pv 5) (pa_cons (pe_ifExp (pt_cmpR op_lt (pv 6) (pv 5) (nomark _)) (pv 6) (pe_op op_add (pv 6) pe_int)) pa_nil))) pa_nil)))) pss_nil))))
      (pss_one (ps_ret (pv 3))))), ?_⟩
    obtain ⟨xs0, hx0⟩ : ∃ xs, H p = some (.lst xs) := by
      obtain ⟨x, y, z, e, _⟩ := hp
      exact ⟨_, e⟩
    refine ⟨Nat.zero_le _, fun D hD => ?_⟩
    have sD := same_new (o := .lst []) hD
    have nDp : D ≠ p := fun z => by rw [z, hx0] at hD; cases hD
    have hDB : hide [p] H D = none := hide_free hx0 hD
    have m0 : ((m : Nat) : Int).toNat = m := by omega
    refine ⟨_, rfl, (m : Int), rfl, by omega, by omega, for_range (lo := 0) (n := ((m : Nat) : Int).toNat)
      (fun i σ H' => Same (hide [p] H) H' ∧ PurseAt H' p (b + 2 * i) ∧ (∃ v4 v5 v6, σ = [some (.ref p), some (nV n), some (nV m), some (.ref D), v4, v5, v6]) ∧ ∃ l vs, H' D = some (.lst vs) ∧ Paired (RPair H') l vs ∧ l.length ≤ i ∧ Below n l)
      ⟨(hide_sub [p] H).trans sD, hp.keep sD, ⟨_, _, _, rfl⟩, [], [], upd_same, .nil, Nat.le_refl _, fun x hx => by cases hx⟩ ?_ ?_⟩
    · rintro i σ H1 hi ⟨s1, hp1, ⟨v4, v5, v6, rfl⟩, l, vs, hD1, pvs, hll, hbl⟩
      obtain ⟨xs1, hx1⟩ : ∃ xs, H1 p = some (.lst xs) := by
        obtain ⟨x, y, z, e, _⟩ := hp1
        exact ⟨_, e⟩
      refine ⟨_, rfl, _, rfl, p, n, b + 2 * i, rfl, hp1, n1, by omega, by omega, fun H2 x hx s2 hp2 => ?_⟩
      obtain ⟨xs2, hx2⟩ : ∃ xs, H2 p = some (.lst xs) := by
        obtain ⟨x, y, z, e, _⟩ := hp2
        exact ⟨_, e⟩
      obtain ⟨k, ek, k1⟩ : ∃ k : Nat, V.int (if ((n : Int) - 1) > 1 then ((n : Int) - 1) else 1) = nV k ∧ (1 ≤ k ∧ k ≤ 10 ∧ (1 < n → k = n - 1)) := by
        by_cases h : ((n : Int) - 1) > 1
        · rw [if_pos h]
          exact ⟨n - 1, by unfold nV; congr 1; omega, by omega, by omega, fun _ => rfl⟩
        · rw [if_neg h]
          exact ⟨1, rfl, by omega, by omega, fun _ => by omega⟩
      refine ⟨_, rfl, _, rfl, _, _, rfl, rfl, _, _, rfl, ?_⟩
      rw [ek]
      refine ⟨p, k, b + 2 * i + 1, rfl, hp2, k1.1, by omega, by omega, fun H3 y hy s3 hp3 => ⟨_, _, rfl, ?_⟩⟩
      have hD2 : H2 D = some (.lst vs) := s2 _ _ (by rw [hide_out (by simpa using nDp)]; exact hD1)
      have hD3 : H3 D = some (.lst vs) := s3 _ _ (by rw [hide_out (by simpa using nDp)]; exact hD2)
      have pvs3 : Paired (RPair H3) l vs := pd_imp pvs fun _ _ r => ((((r.hid hx1).keep s2).hid hx2).keep s3)
      have s13 : Same (hide [p] H) H3 := by
        have a1 := hide_again s1
        have a2 := hide_again s2
        exact (a1.trans a2).trans s3
      refine ⟨_, rfl, _, _, rfl, rfl, _, rfl, ?_⟩
      refine ite2 (fun hn => ?_) (fun hn => ?_)
      · have hn1 : 1 < n := by have := of_decide_eq_true hn; omega
        have ekn := k1.2.2 hn1
        refine ⟨_, rfl, .inl ⟨rfl, _, SqL.of hD3⟩, _, rfl, _, rfl, _, rfl, _, _, rfl, rfl, _, rfl, ?_⟩
        have fin : ∀ yy : Nat, yy < n → x ≠ yy → ∀ t, H3 t = none → ∃ l' xs y', V.ref D = V.ref l' ∧ [V.ref t] = [y'] ∧ (upd H3 t (.tup [nV x, nV yy])) l' = some (.lst xs) ∧ xs.length < sizeLine ∧
            (Same (hide [p] H) (upd (upd H3 t (.tup [nV x, nV yy])) l' (.lst (xs ++ [y']))) ∧ PurseAt (upd (upd H3 t (.tup [nV x, nV yy])) l' (.lst (xs ++ [y']))) p (b + 2 * (i + 1)) ∧
              ∃ l vs, (upd (upd H3 t (.tup [nV x, nV yy])) l' (.lst (xs ++ [y']))) D = some (.lst vs) ∧ Paired (RPair (upd (upd H3 t (.tup [nV x, nV yy])) l' (.lst (xs ++ [y'])))) l vs ∧ l.length ≤ i + 1 ∧ Below n l) := by
          intro yy hyy hne t ht
          have st := same_new (o := .tup [nV x, nV yy]) ht
          have hDt := st _ _ hD3
          have ntD : t ≠ D := fun z => by rw [z, hD3] at ht; cases ht
          have SD : Same (hide [D] (upd H3 t (.tup [nV x, nV yy]))) (upd (upd H3 t (.tup [nV x, nV yy])) D (.lst (vs ++ [.ref t]))) := same_hide_upd (by simp) (hide_sub _ _)
          refine ⟨D, vs, _, rfl, rfl, hDt, ?_, upd_keep (s13.trans st) hDB, ?_, l ++ [(x, yy)], _, upd_same, ?_, ?_, ?_⟩
          · refine small ?_
            rw [← pd_len pvs]
            omega
          · have := hp3.keep st
            obtain ⟨x', y', z', e', r'⟩ := this.mono (show b + 2 * i + 1 + 1 ≤ b + 2 * (i + 1) by omega)
            exact ⟨x', y', z', by rw [upd_ne nDp.symm]; exact e', r'⟩
          · refine pd_snoc (pd_imp pvs3 fun _ _ r => ((r.keep st).hid hDt).keep SD) ⟨t, rfl, ?_⟩
            rw [upd_ne ntD]
            exact upd_same
          · rw [List.length_append, List.length_singleton]; omega
          · intro z hz
            rcases List.mem_append.mp hz with hz | hz
            · exact hbl z hz
            · rw [List.mem_singleton.mp hz]
              exact ⟨hx, hyy, hne⟩
        refine ite2 (fun hyx => ?_) (fun hyx => ?_)
        · have : y < x := by have := of_decide_eq_true hyx; omega
          refine ⟨_, rfl, small' (n := 2) (by decide), fun t ht => ?_⟩
          obtain ⟨l', xs, y', g1, g2, g3, g4, g5, g6, g7⟩ := fin y (by omega) (by omega) t ht
          exact ⟨l', xs, y', g1, g2, g3, g4, g5, g6, ⟨_, _, _, rfl⟩, g7⟩
        · have : ¬ y < x := fun z => hyx (decide_eq_true (by omega))
          refine ⟨_, rfl, _, _, rfl, rfl, small' (n := 2) (by decide), fun t ht => ?_⟩
          obtain ⟨l', xs, y', g1, g2, g3, g4, g5, g6, g7⟩ := fin (y + 1) (by omega) (by omega) t ht
          exact ⟨l', xs, y', g1, g2, g3, g4, g5, g6, ⟨_, _, _, rfl⟩, g7⟩
      · exact ⟨s13, hp3.mono (by omega), ⟨_, _, _, rfl⟩, l, vs, hD3, pvs3, by omega, hbl⟩
    · rintro σ H1 ⟨s1, hp1, ⟨v4, v5, v6, rfl⟩, l, vs, hD1, pvs, hll, hbl⟩
      obtain ⟨xs1, hx1⟩ : ∃ xs, H1 p = some (.lst xs) := by
        obtain ⟨x, y, z, e, _⟩ := hp1
        exact ⟨_, e⟩
      exact ⟨_, rfl, hQ H1 D l s1 (hp1.mono (by omega)) (PairsL.hid hx1 nDp ⟨vs, hD1, pvs⟩) hDB (by omega) hbl⟩
end
end Hue

set_option maxHeartbeats 4000000
namespace Hue
open PySem PySem.W PyProof.Rows L2
theorem PurseAt.lst {H : Hp} {p : Addr} {b : Nat} (h : PurseAt H p b) : ∃ xs, H p = some (.lst xs) := by
  obtain ⟨x, y, z, e, _⟩ := h
  exact ⟨_, e⟩
theorem pick6 {k : Nat} (h : k < 6) : ∃ c : Nat, c ≤ 2 ∧ atI [V.int 0, V.int 0, V.int 0, V.int 1, V.int 1, V.int 2] ((k : Nat) : Int) = some (nV c) := by
  match k, h with
  | 0, _ => exact ⟨0, by omega, rfl⟩
  | 1, _ => exact ⟨0, by omega, rfl⟩
  | 2, _ => exact ⟨0, by omega, rfl⟩
  | 3, _ => exact ⟨1, by omega, rfl⟩
  | 4, _ => exact ⟨1, by omega, rfl⟩
  | 5, _ => exact ⟨2, by omega, rfl⟩
theorem cut_any {L : List V} {r : Nat} : cutV L none (some (r : Int)) = L.take r := by
  unfold cutV
  rw [HT.sIx_nat]
  show (L.drop 0).take (min r L.length - 0) = _
  rw [List.drop_zero, Nat.sub_zero]
  by_cases h : r ≤ L.length
  · rw [Nat.min_eq_left h]
  · rw [Nat.min_eq_right (by omega), List.take_of_length_le (Nat.le_refl _), List.take_of_length_le (by omega)]
theorem pd_append {α β : Type} {F : α → β → Prop} : ∀ {l l' : List α} {m m' : List β}, Paired F l m → Paired F l' m' → Paired F (l ++ l') (m ++ m')
  | _, _, _, _, .nil, h => h
  | _, _, _, _, .cons r t, h => .cons r (pd_append t h)
theorem pd_take {α β : Type} {F : α → β → Prop} : ∀ {l : List α} {m : List β} (n : Nat), Paired F l m → Paired F (l.take n) (m.take n)
  | _, _, 0, _ => by simp; exact .nil
  | _, _, n + 1, .nil => by simp; exact .nil
  | _, _, n + 1, .cons r t => .cons r (pd_take n t)
/-- what is drawn of a part with n places -/
structure RawOk (n : Nat) (un sa : List (Nat × Nat)) : Prop where
  lu : un.length ≤ 30
  ls : sa.length ≤ 30
  bu : Below n un
  bs : Below n sa
section
variable {P : Program} {w : World} {K : PySem.W.Frag} {mg : Str → Option Value} {base : Heap}
structure GPart (K : PySem.W.Frag) (mg : Str → Option Value) extends GDraw K mg where
  fPs : Addr
  fdPs : FuncData
  FPs : FnP K "_law_pairs" sPairs fPs fdPs
  gPs : mg "_law_pairs" = some (.ref fPs)
/-! ### _law_part -/
abbrev sPart : Stmt := top 63
def spPart : Sp := fun vs H Q _ => ∃ (p : Addr) (n r i b : Nat), vs = [.ref p, nV n, nV r, nV i] ∧ PurseAt H p b ∧ 1 ≤ n ∧ n ≤ 10 ∧ b ≤ 10000000 ∧
  ∀ H' t un sa, Same (hide [p] H) H' → PurseAt H' p (b + 200) → RawNew (hide [p] H) (hide [p] H') t r i un sa → RawOk n un sa → un.length ≤ 20 → sa.length ≤ 2 → Q (.ref t) H'
abbrev nPart : List Str := ["_law_purse_here", "_law_places", "_law_rim", "_law_inner", "_law_apart", "_law_tied"]
theorem scPart : FnScope nPart ["_law_purse_here", "_law_places", "_law_rim", "_law_inner"] (defScope sPart) := ⟨rfl, rfl, rfl, by decide +kernel, rfl, by decide +kernel, by decide +kernel⟩
theorem ok_part {f : Addr} {fd : FuncData} (F : FnP K "_law_part" sPart f fd) (G : GPart K mg) : FnOk P w K mg base CX0 4 f fd ["_law_purse_here", "_law_places", "_law_rim", "_law_inner"] spPart := by
  have GD : FnOk P w K mg base CX0 3 G.fD G.fdD ["_law_purse_here", "_law_out_of"] spDraw := (ok_draw G.FD G.FM G.gM G.int).mono (by decide)
  have bD : Binds K G.fdD ["_law_purse_here", "_law_out_of"] [] := fn_binds G.FD fun _ _ _ _ _ _ us hl => match us, hl with | [_, _], _ => rfl
  have GP : FnOk P w K mg base CX0 3 G.fPs G.fdPs ["_law_purse_here", "_law_places", "_law_many"] spPairs := ok_pairs G.FPs G.toGDraw
  have bP : Binds K G.fdPs ["_law_purse_here", "_law_places", "_law_many"] [] := fn_binds G.FPs fun _ _ _ _ _ _ us hl => match us, hl with | [_, _, _], _ => rfl
  refine F.ok scPart (fun vs H Q E h => ?_) (fun cdv A outer s H vs Q E hr h => ?_)
  · obtain ⟨p, n, r, i, b, rfl, _⟩ := h
    rfl
  · obtain ⟨p, n, r, i, b, rfl, hp, n1, n2, hb, hQ⟩ := h
    refine ⟨_, PSs.nox (pss_cons (ps_set (i := 4) scPart.nd rfl (.inl rfl) (pe_call GP hr (by rfl) G.gPs G.FPs.kp bP .nil pass0 (pa_cons (pv 0) (pa_cons (pv 1) (pa_cons (pe_call GD hr (by rfl) G.gD G.FD.kp bD .nil pass0 (pa_cons (pv 0) (pa_cons (pe_op op_mul pe_int (pv 1)) pa_nil))) pa_nil)))))
      (pss_cons (ps_set (i := 5) scPart.nd rfl (.inl rfl) (pe_call GP hr (by rfl) G.gPs G.FPs.kp bP .nil pass0 (pa_cons (pv 0) (pa_cons (pv 1) (pa_cons (pe_ix ix_list (pe_lst (pa_cons pe_int (pa_cons pe_int (pa_cons pe_int (pa_cons pe_int (pa_cons pe_int (pa_cons pe_int pa_nil)))))))
          (pe_call GD hr (by rfl) G.gD G.FD.kp bD .nil pass0 (pa_cons (pv 0) (pa_cons pe_int pa_nil))) (fun _ _ => rfl)) pa_nil)))))
      (pss_one (ps_ret (pe_tup (pa_cons (pv 2) (pa_cons (pv 3) (pa_cons (pv 4) (pa_cons (pv 5) pa_nil))))))))), ?_⟩
    have e2 : V.int (2 * (n : Int)) = nV (2 * n) := by unfold nV; congr 1
    refine ⟨_, rfl, _, rfl, _, rfl, _, rfl, _, _, rfl, rfl, .inl ⟨by decide, by decide⟩, ?_⟩
    refine ⟨p, 2 * n, b, by rw [← e2]; rfl, hp, by omega, by omega, by omega, fun H1 m hm s1 hp1 => ?_⟩
    refine ⟨p, n, m, b + 1, rfl, hp1, n1, n2, by omega, by omega, fun H2 A un s2 hp2 hA fA lA bA => ?_⟩
    refine ⟨_, rfl, _, rfl, small' (n := 6) (by decide), fun L hL => ?_⟩
    have s3 := same_new (o := .lst [V.int 0, V.int 0, V.int 0, V.int 1, V.int 1, V.int 2]) hL
    have hp3 := hp2.keep s3
    obtain ⟨xs2, hx2⟩ := hp2.lst
    have nLp : L ≠ p := fun z => by rw [z, hx2] at hL; cases hL
    refine ⟨_, rfl, p, 6, _, rfl, hp3, by decide, by decide, by omega, fun H4 k hk s4 hp4 => ?_⟩
    obtain ⟨c, hc, hat⟩ := pick6 hk
    have hL4 : H4 L = some (.lst [V.int 0, V.int 0, V.int 0, V.int 1, V.int 1, V.int 2]) := s4 _ _ (by rw [hide_out (by simpa using nLp)]; exact upd_same)
    refine ⟨L, _, _, _, rfl, rfl, SqL.of hL4, hat, ?_⟩
    refine ⟨p, n, c, _, rfl, hp4, n1, n2, by omega, by omega, fun H5 T sa s5 hp5 hT fT lT bT => ?_⟩
    refine ⟨_, rfl, _, rfl, _, rfl, _, rfl, small' (n := 4) (by decide), fun t ht => ?_⟩
    have s6 := same_new (o := .tup [nV r, nV i, .ref A, .ref T]) ht
    obtain ⟨xs5, hx5⟩ := hp5.lst
    have ntp : t ≠ p := fun z => by rw [z, hx5] at ht; cases ht
    have a1 := hide_again s1
    have a2 := hide_again s2
    have a3 := hide_same [p] s3
    have a4 := hide_again s4
    have a5 := hide_again s5
    have a6 := hide_same [p] s6
    have a26 : Same (hide [p] H2) (hide [p] (upd H5 t (.tup [nV r, nV i, .ref A, .ref T]))) := a3.trans (a4.trans (a5.trans a6))
    refine hQ _ t un sa ((a1.trans (a2.trans a26)).trans (hide_sub _ _)) ((hp5.keep s6).mono (by omega)) ⟨A, T, by rw [hide_out (by simpa using ntp)]; exact upd_same, hA.keep a26, hT.keep a6, a1.free fA, (a1.trans (a2.trans (a3.trans a4))).free fT⟩ ⟨by omega, by omega, bA, bT⟩ (by omega) (by omega)
/-! ### _law_piece -/
abbrev sLPiece : Stmt := top 64
structure GLPiece (K : PySem.W.Frag) (mg : Str → Option Value) extends GPart K mg where
  fPt : Addr
  fdPt : FuncData
  FPt : FnP K "_law_part" sPart fPt fdPt
  gPt : mg "_law_part" = some (.ref fPt)
def spLPiece : Sp := fun vs H Q _ => ∃ (p : Addr) (r b : Nat), vs = [.ref p, nV r, nV 5] ∧ PurseAt H p b ∧ 1 ≤ r ∧ r ≤ 2 ∧ b ≤ 1000000 ∧
  ∀ H' t i un sa, Same (hide [p] H) H' → PurseAt H' p (b + 300) → RawNew (hide [p] H) (hide [p] H') t r i un sa → RawOk (2 * r + i) un sa → 2 * r + i ≤ 5 → Q (.ref t) H'
abbrev nLPiece : List Str := ["_law_purse_here", "_law_rim", "_law_most", "_law_inner", "_law_piece_here", "_law_k"]
theorem scLPiece : FnScope nLPiece ["_law_purse_here", "_law_rim", "_law_most"] (defScope sLPiece) := ⟨rfl, rfl, rfl, by decide +kernel, rfl, by decide +kernel, by decide +kernel⟩
theorem RPair.mk {H : Hp} {t : Addr} {x y : Nat} (h : H t = some (.tup [nV x, nV y])) : RPair H (x, y) (.ref t) := ⟨t, rfl, h⟩
theorem ok_lpiece {f : Addr} {fd : FuncData} (F : FnP K "_law_piece" sLPiece f fd) (G : GLPiece K mg) : FnOk P w K mg base CX0 5 f fd ["_law_purse_here", "_law_rim", "_law_most"] spLPiece := by
  have GD : FnOk P w K mg base CX0 4 G.fD G.fdD ["_law_purse_here", "_law_out_of"] spDraw := (ok_draw G.FD G.FM G.gM G.int).mono (by decide)
  have bD : Binds K G.fdD ["_law_purse_here", "_law_out_of"] [] := fn_binds G.FD fun _ _ _ _ _ _ us hl => match us, hl with | [_, _], _ => rfl
  have GP : FnOk P w K mg base CX0 4 G.fPt G.fdPt ["_law_purse_here", "_law_places", "_law_rim", "_law_inner"] spPart := ok_part G.FPt G.toGPart
  have bP : Binds K G.fdPt ["_law_purse_here", "_law_places", "_law_rim", "_law_inner"] [] := fn_binds G.FPt fun _ _ _ _ _ _ us hl => match us, hl with | [_, _, _, _], _ => rfl
  refine F.ok scLPiece (fun vs H Q E h => ?_) (fun cdv A outer s H vs Q E hr h => ?_)
  · obtain ⟨p, r, b, rfl, _⟩ := h
    rfl
  · obtain ⟨p, r, b, rfl, hp, r1, r2, hb, hQ⟩ := h
    refine ⟨_, PSs.nox (pss_cons (ps_set (i := 3) scLPiece.nd rfl (.inl rfl) (pe_call GD hr (by rfl) G.gD G.FD.kp bD .nil pass0 (pa_cons (pv 0) (pa_cons (pe_callB (call_max2 rfl) (by rfl) G.max (by decide +kernel) (pa_cons pe_int (pa_cons (pe_op op_add (pe_op op_sub (pv 2) (pe_op op_mul pe_int (pv 1))) pe_int) pa_nil))) pa_nil))))
      (pss_cons (ps_set (i := 4) scLPiece.nd rfl (.inl rfl) (pe_call GP hr (by rfl) G.gPt G.FPt.kp bP .nil pass0 (pa_cons (pv 0) (pa_cons (pe_op op_add (pe_op op_mul pe_int (pv 1)) (pv 3)) (pa_cons (pv 1) (pa_cons (pv 3) pa_nil))))))
      (pss_cons (ps_if (pt_cmpR op_gt (pe_call GD hr (by rfl) G.gD G.FD.kp bD .nil pass0 (pa_cons (pv 0) (pa_cons pe_int pa_nil))) pe_int (nomark _))
        (pss_one (ps_set (i := 4) scLPiece.nd rfl (.inl rfl) (pe_tup (pa_cons (pv 1) (pa_cons (pv 3) (pa_cons (pe_op op_cat (pe_ix ix_tup (pv 4) pe_int (fun _ _ => rfl))
          (pe_lc (own := [("_law_k", 5)]) (g := gName 5) (tt := tYes) rfl scLPiece.nd (pi_range1 (by rfl) G.range (pa_cons (pv 1) pa_nil)) (blkOk_by (N := nLPiece) (sc := defScope sLPiece) (by decide +kernel)) (fun _ _ _ _ _ => pg_name (i := 5) scLPiece.nd rfl (.inl rfl)) (fun _ _ _ _ _ => pts_nil)
            (fun _ _ _ _ _ => pe_tup (pa_cons (pv 5) (pa_cons (pe_op op_add (pv 1) (pv 5)) pa_nil))))) (pa_cons (pe_slice sl_list (pe_ix ix_tup (pv 4) pe_int (fun _ _ => rfl)) po_none (po_some pe_int)) pa_nil))))))) pss_nil)
      (pss_one (ps_ret (pv 4)))))), ?_⟩
    obtain ⟨xs0, hx0⟩ := hp.lst
    have ek : V.int (if ((5 : Int) - 2 * (r : Int) + 1) > 1 then ((5 : Int) - 2 * (r : Int) + 1) else 1) = nV (6 - 2 * r) := by
      rw [if_pos (by omega)]
      unfold nV
      congr 1
      omega
    refine ⟨_, rfl, _, rfl, _, rfl, _, _, rfl, rfl, .inl ⟨by decide, by decide⟩, _, _, rfl, rfl, _, _, rfl, rfl, _, _, rfl, ?_⟩
    refine ⟨p, 6 - 2 * r, b, by rw [← ek]; rfl, hp, by omega, by omega, by omega, fun H1 i hi s1 hp1 => ?_⟩
    have en : V.int (2 * (r : Int) + (i : Int)) = nV (2 * r + i) := by unfold nV; congr 1
    refine ⟨_, rfl, _, rfl, _, _, rfl, rfl, .inl ⟨by decide, by decide⟩, _, rfl, _, _, rfl, rfl, _, rfl, _, rfl, p, 2 * r + i, r, i, b + 1, by rw [← en]; rfl, hp1, by omega, by omega, by omega, fun H2 t un sa s2 hp2 hraw okr lu ls => ?_⟩
    have a1 := hide_again s1
    have a2 := hide_again s2
    refine ⟨_, rfl, p, 3, _, rfl, hp2, by decide, by decide, by omega, fun H3 k hk s3 hp3 => ?_⟩
    have a3 := hide_again s3
    obtain ⟨xs3, hx3⟩ := hp3.lst
    have hraw3 := (hraw.keep a3).from a1
    refine ⟨_, _, rfl, rfl, _, rfl, ?_⟩
    refine ite2 (fun _ => ?_) (fun _ => ?_)
    · obtain ⟨A, T, ht, hA, hT⟩ := hraw3.at_
      have ht3 := hide_sub [p] H3 _ _ ht
      obtain ⟨vA, hvA, pA⟩ := hA
      obtain ⟨vT, hvT, pT⟩ := hT
      refine ⟨_, rfl, _, rfl, _, rfl, t, _, _, .ref A, rfl, rfl, SqT.of ht3, rfl, ?_⟩
      refine ⟨_, rfl, (r : Int), rfl, by omega, by omega, fun D hD => lc_range (lo := 0) (n := ((r : Nat) : Int).toNat)
        (fun j H' => Same H3 H' ∧ ∃ vs, H' D = some (.lst vs) ∧ Paired (RPair (hide [D] H')) ((List.range j).map fun j => (j, r + j)) vs) ⟨same_new hD, [], upd_same, .nil⟩ ?_ ?_⟩
      · rintro j H4 hj ⟨s4, vs, hvs, pvs⟩
        rw [Int.zero_add]
        refine ⟨rfl, _, rfl, _, rfl, _, rfl, _, _, rfl, rfl, small' (n := 2) (by decide), fun q hq => ⟨vs, ?_⟩⟩
        have s5 := same_new (o := .tup [V.int ((j : Nat) : Int), V.int ((r : Int) + ((j : Nat) : Int))]) hq
        have nqD : q ≠ D := fun z => by rw [z, hvs] at hq; cases hq
        refine ⟨s5 _ _ hvs, ?_, upd_keep (s4.trans s5) hD, _, upd_same, ?_⟩
        · refine small ?_
          rw [← pd_len pvs, List.length_map, List.length_range]; omega
        · rw [hide_upd (by simp), List.range_succ, List.map_append]
          refine pd_snoc (pd_imp pvs fun _ _ r => r.keep (hide_same [D] s5)) ⟨q, rfl, ?_⟩
          show hide [D] _ q = _
          rw [hide_out (by simpa using nqD)]
          exact upd_same
      · rintro H4 ⟨s4, vs, hvs, pvs⟩
        have hrn : ((r : Nat) : Int).toNat = r := by omega
        rw [hrn] at pvs
        have vl : vs.length = r := by rw [← pd_len pvs, List.length_map, List.length_range]
        have vAl : vA.length = un.length := (pd_len pA).symm
        refine ⟨A, D, vA, vs, rfl, rfl, s4 _ _ (hide_sub [p] H3 _ _ hvA), hvs, small' (by omega), fun c hc => ?_⟩
        have s5 := same_new (o := .lst (vA ++ vs)) hc
        refine ⟨_, rfl, t, _, _, .ref T, rfl, rfl, SqT.of ((s4.trans s5) _ _ ht3), rfl, _, rfl, T, vT, rfl, SqL.of ((s4.trans s5) _ _ (hide_sub [p] H3 _ _ hvT)), fun c2 hc2 => ?_⟩
        have s6 := same_new (o := .lst (cutV vT none (some 1))) hc2
        refine ⟨small' (n := 4) (by decide), fun t2 ht2 => ?_⟩
        have s7 := same_new (o := .tup [nV r, nV i, .ref c, .ref c2]) ht2
        have hx6 := (s4.trans (s5.trans s6)) _ _ hx3
        have ncp : c ≠ p := fun z => by rw [z, s4 _ _ hx3] at hc; cases hc
        have nc2p : c2 ≠ p := fun z => by rw [z, (s4.trans s5) _ _ hx3] at hc2; cases hc2
        have nt2p : t2 ≠ p := fun z => by rw [z, hx6] at ht2; cases ht2
        have a37 := hide_same [p] (s4.trans (s5.trans (s6.trans s7)))
        have a47 := hide_same [p] (s5.trans (s6.trans s7))
        have hx4 := s4 _ _ hx3
        refine ⟨_, rfl, hQ _ t2 i (un ++ (List.range r).map fun j => (j, r + j)) (sa.take 1) ((a1.trans (a2.trans (a3.trans a37))).trans (hide_sub _ _)) ((hp3.keep (s4.trans (s5.trans (s6.trans s7)))).mono (by omega)) ⟨c, c2, by rw [hide_out (by simpa using nt2p)]; exact upd_same, ?_, ?_, ?_, ?_⟩ ?_ (by omega)⟩
        · refine ⟨vA ++ vs, ?_, pd_append (pd_imp pA fun _ _ r => r.keep a37) (pd_imp pvs fun _ _ r => ((r.keep (hide_sub [D] H4)).hid hx4).keep a47)⟩
          rw [hide_out (by simpa using ncp)]
          exact (s6.trans s7) _ _ upd_same
        · refine ⟨vT.take 1, ?_, pd_imp (pd_take 1 pT) fun _ _ r => r.keep a37⟩
          rw [hide_out (by simpa using nc2p)]
          have := s7 _ _ (show upd (upd H4 c (.lst (vA ++ vs))) c2 (.lst (cutV vT none (some 1))) c2 = some (.lst (cutV vT none (some ((1 : Nat) : Int)))) from upd_same)
          rw [cut_any] at this
          exact this
        · exact ((a1.trans (a2.trans a3)).trans ((hide_sub [p] H3).trans s4)).free hc
        · exact ((a1.trans (a2.trans a3)).trans ((hide_sub [p] H3).trans (s4.trans s5))).free hc2
        · refine ⟨by rw [List.length_append, List.length_map, List.length_range]; omega, by rw [List.length_take]; omega, fun z hz => ?_, fun z hz => okr.bs z (List.mem_of_mem_take hz)⟩
          rcases List.mem_append.mp hz with hz | hz
          · exact okr.bu z hz
          · obtain ⟨j, hj, rfl⟩ := List.mem_map.mp hz
            have := List.mem_range.mp hj
            show j < 2 * r + i ∧ r + j < 2 * r + i ∧ j ≠ r + j
            omega
    · exact ⟨_, rfl, hQ H3 t i un sa ((a1.trans (a2.trans a3)).trans (hide_sub _ _)) (hp3.mono (by omega)) hraw3 okr (by omega)⟩
end
end Hue

set_option maxHeartbeats 4000000
namespace Hue
open PySem PySem.W PyProof.Rows L2
section
variable {P : Program} {w : World} {K : PySem.W.Frag} {mg : Str → Option Value} {base : Heap}
/-! ### _law_cap -/
abbrev sLCap : Stmt := top 65
def spLCap : Sp := fun vs H Q _ => ∃ (p : Addr) (r b : Nat), vs = [.ref p, nV r, nV (r + 1)] ∧ PurseAt H p b ∧ 1 ≤ r ∧ r ≤ 2 ∧ b ≤ 1000000 ∧
  ∀ H' t i un sa, Same (hide [p] H) H' → PurseAt H' p (b + 300) → RawNew (hide [p] H) (hide [p] H') t r i un sa → RawOk (r + i) un sa → i ≤ 1 → Q (.ref t) H'
abbrev nLCap : List Str := ["_law_purse_here", "_law_rim", "_law_most", "_law_inner"]
theorem scLCap : FnScope nLCap ["_law_purse_here", "_law_rim", "_law_most"] (defScope sLCap) := ⟨rfl, rfl, rfl, by decide +kernel, rfl, by decide +kernel, by decide +kernel⟩
theorem ok_lcap {f : Addr} {fd : FuncData} (F : FnP K "_law_cap" sLCap f fd) (G : GLPiece K mg) : FnOk P w K mg base CX0 5 f fd ["_law_purse_here", "_law_rim", "_law_most"] spLCap := by
  have GD : FnOk P w K mg base CX0 4 G.fD G.fdD ["_law_purse_here", "_law_out_of"] spDraw := (ok_draw G.FD G.FM G.gM G.int).mono (by decide)
  have bD : Binds K G.fdD ["_law_purse_here", "_law_out_of"] [] := fn_binds G.FD fun _ _ _ _ _ _ us hl => match us, hl with | [_, _], _ => rfl
  have GP : FnOk P w K mg base CX0 4 G.fPt G.fdPt ["_law_purse_here", "_law_places", "_law_rim", "_law_inner"] spPart := ok_part G.FPt G.toGPart
  have bP : Binds K G.fdPt ["_law_purse_here", "_law_places", "_law_rim", "_law_inner"] [] := fn_binds G.FPt fun _ _ _ _ _ _ us hl => match us, hl with | [_, _, _, _], _ => rfl
  refine F.ok scLCap (fun vs H Q E h => ?_) (fun cdv A outer s H vs Q E hr h => ?_)
  · obtain ⟨p, r, b, rfl, _⟩ := h
    rfl
  · obtain ⟨p, r, b, rfl, hp, r1, r2, hb, hQ⟩ := h
    refine ⟨_, PSs.nox (pss_cons (ps_set (i := 3) scLCap.nd rfl (.inl rfl) (pe_call GD hr (by rfl) G.gD G.FD.kp bD .nil pass0 (pa_cons (pv 0) (pa_cons (pe_callB (call_max2 rfl) (by rfl) G.max (by decide +kernel) (pa_cons pe_int (pa_cons (pe_op op_add (pe_op op_sub (pv 2) (pv 1)) pe_int) pa_nil))) pa_nil))))
      (pss_one (ps_ret (pe_call GP hr (by rfl) G.gPt G.FPt.kp bP .nil pass0 (pa_cons (pv 0) (pa_cons (pe_op op_add (pv 1) (pv 3)) (pa_cons (pv 1) (pa_cons (pv 3) pa_nil)))))))), ?_⟩
    have ek : V.int (if (((r + 1 : Nat) : Int) - (r : Int) + 1) > 1 then (((r + 1 : Nat) : Int) - (r : Int) + 1) else 1) = nV 2 := by
      rw [if_pos (by omega)]
      unfold nV
      congr 1
      omega
    refine ⟨_, rfl, _, rfl, _, rfl, _, _, rfl, rfl, _, _, rfl, rfl, _, _, rfl, ?_⟩
    refine ⟨p, 2, b, by rw [← ek]; rfl, hp, by omega, by omega, by omega, fun H1 i hi s1 hp1 => ?_⟩
    have en : V.int ((r : Int) + (i : Int)) = nV (r + i) := by unfold nV; congr 1
    refine ⟨_, rfl, _, rfl, _, rfl, _, _, rfl, rfl, _, rfl, _, rfl, p, r + i, r, i, b + 1, by rw [← en]; rfl, hp1, by omega, by omega, by omega, fun H2 t un sa s2 hp2 hraw okr lu ls => ?_⟩
    exact hQ H2 t i un sa (((hide_again s1).trans (hide_again s2)).trans (hide_sub _ _)) (hp2.mono (by omega)) (hraw.from (hide_again s1)) okr (by omega)
/-! ### _law_inside, _law_bare -/
abbrev sInside : Stmt := top 77
def ins (n : Nat) (l : List (Nat × Nat)) : List (Nat × Nat) := l.filter fun x => decide (x.1 < n ∧ x.2 < n)
def spInside : Sp := fun vs H Q _ => ∃ (a : Addr) (n : Nat) (l : List (Nat × Nat)), vs = [.ref a, nV n] ∧ PairsL H a l ∧ l.length ≤ 100 ∧ ∀ H' D, Same H H' → H D = none → PairsL H' D (ins n l) → Q (.ref D) H'
abbrev nInside : List Str := ["_law_pairs_here", "_law_places", "_law_x", "_law_y"]
theorem scInside : FnScope nInside ["_law_pairs_here", "_law_places"] (defScope sInside) := ⟨rfl, rfl, rfl, by decide +kernel, rfl, by decide +kernel, by decide +kernel⟩
theorem ok_inside {f : Addr} {fd : FuncData} (F : FnP K "_law_inside" sInside f fd) : FnOk P w K mg base CX0 1 f fd ["_law_pairs_here", "_law_places"] spInside := by
  refine F.ok scInside (fun vs H Q E h => ?_) (fun cdv A outer s H vs Q E hr h => ?_)
  · obtain ⟨a, n, l, rfl, _⟩ := h
    rfl
  · obtain ⟨a, n, l, rfl, ⟨ws, hws, pws⟩, hl, hQ⟩ := h
    refine ⟨_, PSs.nox (pss_one (ps_ret (pe_lc (own := [("_law_x", 2), ("_law_y", 3)]) (g := gTup K 2 (gCons (gName 2) (gCons (gName 3) gNil))) rfl scInside.nd (pi_list (pv 0)) (blkOk_by (N := nInside) (sc := defScope sInside) (by decide +kernel))
      (fun _ _ _ _ _ => pg_tup rfl (pgs_cons (pg_name (i := 2) scInside.nd rfl (.inl rfl)) (pgs_cons (pg_name (i := 3) scInside.nd rfl (.inl rfl)) pgs_nil)))
      (fun _ _ _ _ _ => pts_one (PW.pt (pw_and (pt_cmpR op_lt (pv 2) (pv 1) (nomark _)) (pw_and1 (pt_cmpR op_lt (pv 3) (pv 1) (nomark _))))))
      (fun _ _ _ _ _ => pe_tup (pa_cons (pv 2) (pa_cons (pv 3) pa_nil)))))), ?_⟩
    refine ⟨_, rfl, a, rfl, ⟨_, SqL.of hws⟩, fun D hD => lc_list (K := K) (a := a) (xs := ws) (fun i H' => Same H H' ∧ ∃ vs, H' D = some (.lst vs) ∧ Paired (RPair (hide [D] H')) (ins n (l.take i)) vs) ⟨same_new hD, [], upd_same, .nil⟩ (fun i H' _ h => SqL.of (h.1 _ _ hws)) ?_ ?_⟩
    · rintro i y H1 hi ⟨s1, vs, hvs, pvs⟩
      obtain ⟨x, hx, t, rfl, ht⟩ := pd_get pws hi
      have hil : i < l.length := (List.getElem?_eq_some_iff.mp hx).1
      have hlen : vs.length ≤ 1000 := by
        rw [← pd_len pvs]
        refine Nat.le_trans (List.length_filter_le _ _) ?_
        rw [List.length_take]; omega
      refine ⟨t, _, rfl, SqT.of (s1 _ _ ht), rfl, _, _, rfl, _, _, rfl, rfl, rfl, ?_⟩
      refine ⟨_, rfl, _, rfl, _, _, rfl, rfl, _, rfl, ?_⟩
      have out : ¬ (x.1 < n ∧ x.2 < n) → ins n (l.take (i + 1)) = ins n (l.take i) := fun h => by
        unfold ins
        rw [take_snoc hx, List.filter_append]
        have : [x].filter (fun x => decide (x.1 < n ∧ x.2 < n)) = [] := by simp only [List.filter_cons, List.filter_nil]; rw [if_neg (by simpa using h)]
        rw [this, List.append_nil]
      refine ite2 (fun h1 => ?_) fun h1 => ?_
      · have b1 : x.1 < n := by have := of_decide_eq_true h1; omega
        refine ⟨_, rfl, _, rfl, _, _, rfl, rfl, _, rfl, ?_⟩
        refine ite2 (fun h2 => ?_) fun h2 => ?_
        · have b2 : x.2 < n := by have := of_decide_eq_true h2; omega
          refine ⟨_, rfl, _, rfl, small' (n := 2) (by decide), fun q hq => ⟨vs, ?_⟩⟩
          have s5 := same_new (o := .tup [nV x.1, nV x.2]) hq
          have nqD : q ≠ D := fun z => by rw [z, hvs] at hq; cases hq
          refine ⟨s5 _ _ hvs, small hlen, upd_keep (s1.trans s5) hD, _, upd_same, ?_⟩
          have e : ins n (l.take (i + 1)) = ins n (l.take i) ++ [x] := by
            unfold ins
            rw [take_snoc hx, List.filter_append]
            congr 1
            simp only [List.filter_cons, List.filter_nil]
            rw [if_pos (by simpa using ⟨b1, b2⟩)]
          rw [hide_upd (by simp), e]
          refine pd_snoc (pd_imp pvs fun _ _ r => r.keep (hide_same [D] s5)) ⟨q, rfl, ?_⟩
          show hide [D] _ q = _
          rw [hide_out (by simpa using nqD)]
          exact upd_same
        · have b2 : ¬ x.2 < n := fun z => h2 (decide_eq_true (by omega))
          exact ⟨s1, vs, hvs, by rw [out fun z => b2 z.2]; exact pvs⟩
      · have b1 : ¬ x.1 < n := fun z => h1 (decide_eq_true (by omega))
        refine ite2 (fun h2 => by cases h2) fun h2 => ?_
        exact ⟨s1, vs, hvs, by rw [out fun z => b1 z.1]; exact pvs⟩
    · rintro H1 ⟨s1, vs, hvs, pvs⟩
      have hwl : ws.length = l.length := (pd_len pws).symm
      rw [hwl, List.take_length] at pvs
      exact hQ H1 D s1 hD ⟨vs, hvs, pd_imp pvs fun _ _ r => r.keep (hide_sub _ _)⟩
abbrev sBare : Stmt := top 76
def spBare : Sp := fun vs H Q _ => ∃ (t : Addr) (r i : Nat) (un sa : List (Nat × Nat)), vs = [.ref t] ∧ RawAt H t r i un sa ∧ un.length ≤ 100 ∧ sa.length ≤ 100 ∧ r ≤ 10 ∧ ∀ H' t', Same H H' → RawNew H H' t' r 0 (ins (2 * r) un) (ins (2 * r) sa) → Q (.ref t') H'
abbrev nBare : List Str := ["_law_piece_here", "_law_rim"]
theorem scBare : FnScope nBare ["_law_piece_here"] (defScope sBare) := ⟨rfl, rfl, rfl, by decide +kernel, rfl, by decide +kernel, by decide +kernel⟩
theorem ok_bare {f fI : Addr} {fd fdI : FuncData} (F : FnP K "_law_bare" sBare f fd) (FI : FnP K "_law_inside" sInside fI fdI) (gI : mg "_law_inside" = some (.ref fI)) : FnOk P w K mg base CX0 2 f fd ["_law_piece_here"] spBare := by
  have GI : FnOk P w K mg base CX0 1 fI fdI ["_law_pairs_here", "_law_places"] spInside := ok_inside FI
  have bI : Binds K fdI ["_law_pairs_here", "_law_places"] [] := fn_binds FI fun _ _ _ _ _ _ us hl => match us, hl with | [_, _], _ => rfl
  refine F.ok scBare (fun vs H Q E h => ?_) (fun cdv A outer s H vs Q E hr h => ?_)
  · obtain ⟨t, r, i, un, sa, rfl, _⟩ := h
    rfl
  · obtain ⟨t, r, i, un, sa, rfl, ⟨A, T, ht, hA, hT⟩, lu, ls, hr1, hQ⟩ := h
    refine ⟨_, PSs.nox (pss_cons (ps_set (i := 1) scBare.nd rfl (.inl rfl) (pe_ix ix_tup (pv 0) pe_int (fun _ _ => rfl)))
      (pss_one (ps_ret (pe_tup (pa_cons (pv 1) (pa_cons pe_int (pa_cons (pe_call GI hr (by rfl) gI FI.kp bI .nil pass0 (pa_cons (pe_ix ix_tup (pv 0) pe_int (fun _ _ => rfl)) (pa_cons (pe_op op_mul pe_int (pv 1)) pa_nil)))
        (pa_cons (pe_call GI hr (by rfl) gI FI.kp bI .nil pass0 (pa_cons (pe_ix ix_tup (pv 0) pe_int (fun _ _ => rfl)) (pa_cons (pe_op op_mul pe_int (pv 1)) pa_nil))) pa_nil)))))))), ?_⟩
    have en : V.int (2 * (r : Int)) = nV (2 * r) := by unfold nV; congr 1
    refine ⟨_, rfl, t, _, _, _, rfl, rfl, SqT.of ht, rfl, ?_⟩
    refine ⟨_, rfl, _, rfl, t, _, _, _, rfl, rfl, SqT.of ht, rfl, _, rfl, _, _, rfl, rfl, .inl ⟨by decide, by decide⟩, A, 2 * r, un, by rw [← en]; rfl, hA, lu, fun H1 D s1 fD hD => ?_⟩
    refine ⟨_, rfl, t, _, _, _, rfl, rfl, SqT.of (s1 _ _ ht), rfl, _, rfl, _, _, rfl, rfl, .inl ⟨by decide, by decide⟩, T, 2 * r, sa, by rw [← en]; rfl, hT.keep s1, ls, fun H2 D2 s2 fD2 hD2 => ?_⟩
    refine ⟨small' (n := 4) (by decide), fun t2 ht2 => ?_⟩
    have s3 := same_new (o := .tup [nV r, .int 0, .ref D, .ref D2]) ht2
    exact hQ _ t2 (s1.trans (s2.trans s3)) ⟨D, D2, upd_same, (hD.keep s2).keep s3, hD2.keep s3, fD, s1.free fD2⟩
end
end Hue

set_option maxHeartbeats 4000000
namespace Hue
open PySem PySem.W PyProof.Rows L2
/-- what two places' pairs, put in order, keep -/
theorem ok_norm {n : Nat} {un sa un' sa' : List (Nat × Nat)} (h1 : Below n un) (h2 : Below n sa) (m1 : ∀ p, p ∈ un' ↔ p ∈ un.map nrmP) (m2 : ∀ p, p ∈ sa' ↔ p ∈ sa.map nrmP) : Ok un' sa' n := by
  have key : ∀ (l l' : List (Nat × Nat)), Below n l → (∀ p, p ∈ l' ↔ p ∈ l.map nrmP) → ∀ p ∈ l', p.1 < p.2 ∧ p.2 < n := by
    intro l l' hb hm p hp
    obtain ⟨z, hz, rfl⟩ := List.mem_map.mp ((hm p).mp hp)
    obtain ⟨b1, b2, b3⟩ := hb z hz
    unfold nrmP
    split
    · exact ⟨by assumption, b2⟩
    · exact ⟨by show z.2 < z.1; omega, b1⟩
  exact ⟨key un un' h1 m1, key sa sa' h2 m2⟩
theorem keeps_norm {un sa un' sa' : List (Nat × Nat)} (m1 : ∀ p, p ∈ un' ↔ p ∈ un.map nrmP) (m2 : ∀ p, p ∈ sa' ↔ p ∈ sa.map nrmP) (d : List Nat) : keeps un' sa' d = keeps un sa d := by
  rw [Bool.eq_iff_iff, keeps_iff, keeps_iff]
  have fwd : ∀ (R : Nat → Nat → Prop), (∀ a b, R a b → R b a) → ∀ (l l' : List (Nat × Nat)), (∀ p, p ∈ l' ↔ p ∈ l.map nrmP) → ((∀ p ∈ l', R (d.getD p.1 0) (d.getD p.2 0)) ↔ ∀ p ∈ l, R (d.getD p.1 0) (d.getD p.2 0)) := by
    intro R sym l l' hm
    constructor
    · intro h p hp
      have := h (nrmP p) ((hm _).mpr (List.mem_map.mpr ⟨p, hp, rfl⟩))
      unfold nrmP at this
      split at this
      · exact this
      · exact sym _ _ this
    · intro h p hp
      obtain ⟨z, hz, rfl⟩ := List.mem_map.mp ((hm p).mp hp)
      have := h z hz
      unfold nrmP
      split
      · exact this
      · exact sym _ _ this
  rw [fwd (fun a b => a ≠ b) (fun _ _ h => h.symm) un un' m1, fwd (fun a b => a = b) (fun _ _ h => h.symm) sa sa' m2]
section
variable {P : Program} {w : World} {K : PySem.W.Frag} {mg : Str → Option Value} {base : Heap}
structure GMade (K : PySem.W.Frag) (mg : Str → Option Value) where
  pc : GPc K mg
  CC : Addr
  CP : Addr
  capC : PartC K CC
  pieceC : PartC K CP
  gCc : mg "Cap" = some (.ref CC)
  gPc : mg "Piece" = some (.ref CP)
  fCI : Addr
  fdCI : FuncData
  FCI : FunD K "__init__" "Cap.__init__" (defArgs sCapI) (defBody sCapI) (defScope sCapI) [.int 0] [] fCI fdCI
  mkC : Mk K CC fCI
  fPI : Addr
  fdPI : FuncData
  FPI : FunD K "__init__" "Piece.__init__" (defArgs sPcI) (defBody sPcI) (defScope sPcI) [.int 0] [] fPI fdPI
  mkP : Mk K CP fPI
  fCh : Addr
  fdCh : FuncData
  FCh : FnP K "checked_pairs" sChecked fCh fdCh
  gCh : mg "checked_pairs" = some (.ref fCh)
  fSz : Addr
  fdSz : FuncData
  FSz : FnP K "require_sizes" sSizes fSz fdSz
  gSz : mg "require_sizes" = some (.ref fSz)
/-! ### _law_made -/
abbrev sMade : Stmt := top 66
def spMade (CC CP : Addr) : Sp := fun vs H Q _ => ∃ (t : Addr) (r i : Nat) (un sa : List (Nat × Nat)), RawAt H t r i un sa ∧ 1 ≤ r ∧ r ≤ 2 ∧
  ((vs = [.ref t, .bl true] ∧ RawOk (2 * r + i) un sa ∧ 2 * r + i ≤ 5 ∧ ∀ H' p c, Same H H' → PcOk r c → c.inner = i → PartAt CP H' p r c.inner c.un c.sa → Q (.ref p) H') ∨
   (vs = [.ref t, .bl false] ∧ RawOk (r + i) un sa ∧ r + i ≤ 4 ∧ ∀ H' p c, Same H H' → CapOk r c → c.inner = i → (∀ d, keeps c.un c.sa d = keeps un sa d) → PartAt CC H' p r c.inner c.un c.sa → Q (.ref p) H'))
abbrev nMade : List Str := ["_law_raw", "_law_is_piece", "_law_rim", "_law_inner", "_law_apart", "_law_tied"]
theorem scMade : FnScope nMade ["_law_raw", "_law_is_piece"] (defScope sMade) := ⟨rfl, rfl, rfl, by decide +kernel, rfl, by decide +kernel, by decide +kernel⟩
theorem made_binds {f : Addr} {fd : FuncData} {q : Str} {st : Stmt} {N : List Str} (F : FunD K "__init__" q (defArgs st) (defBody st) (defScope st) [.int 0] [] f fd)
    (h : ∀ (T : Addr) (kV doc pm : Value) (an : Option Addr) (cdv ct a b c d e g : Value), ∃ k, bindArgs (PySem.W.fnOf "__init__" q (defArgs st) (defBody st) (defScope st) (.ref T) kV doc pm an cdv ct) ⟨[a, b, c], [(("unlike" : Str), e), ("same", g)]⟩ = seqItems? (.ref T) >>= k ∧ k (some #[d]) = pure (N.zip [a, b, c, e, g])) :
    ∃ its : List Value, KBn K fd N 3 ["unlike", "same"] (fun us ws => us ++ ws) (fun vs zs => vs ++ zs) :=
  FunD.kbindsD F 3 ["unlike", "same"] (fun us _ ws => us ++ ws) (by simp) (fun r _ t => r.append t) fun T kV doc pm an cdv ct us its ws h1 h2 h3 => match us, its, ws, h1, h2, h3 with
    | [a, b, c], [d], [e, g], _, _, _ => h T kV doc pm an cdv ct a b c d e g
theorem ok_made {f : Addr} {fd : FuncData} (F : FnP K "_law_made" sMade f fd) (G : GMade K mg) : FnOk P w K mg base CX0 6 f fd ["_law_raw", "_law_is_piece"] (spMade G.CC G.CP) := by
  have GC : FnOk P w K mg base CX0 4 G.fCI G.fdCI nCapI (spCapI K G.CC) := ok_CapI G.FCI G.capC G.FCh G.gCh G.FSz G.gSz G.pc
  have GP : FnOk P w K mg base CX0 4 G.fPI G.fdPI nPcI (spPcI K G.CP) := ok_PcI G.FPI G.pieceC G.FCh G.gCh G.FSz G.gSz G.pc
  obtain ⟨_, bC⟩ := made_binds (N := nCapI) G.FCI fun T kV doc pm an cdv ct a b c d e g => ⟨_, rfl, rfl⟩
  obtain ⟨_, bP⟩ := made_binds (N := nPcI) G.FPI fun T kV doc pm an cdv ct a b c d e g => ⟨_, rfl, rfl⟩
  refine F.ok scMade (fun vs H Q E h => ?_) (fun cdv A outer s H vs Q E hr h => ?_)
  · obtain ⟨t, r, i, un, sa, _, _, _, h | h⟩ := h
    · obtain ⟨rfl, _⟩ := h
      rfl
    · obtain ⟨rfl, _⟩ := h
      rfl
  · obtain ⟨t, r, i, un, sa, ⟨A0, T0, ht, ⟨vA, hvA, pA⟩, ⟨vT, hvT, pT⟩⟩, r1, r2, hw⟩ := h
    refine ⟨_, PSs.nox (pss_cons (ps_asg (pv 0) (pg_tup rfl (pgs_cons (pg_name (i := 2) scMade.nd rfl (.inl rfl)) (pgs_cons (pg_name (i := 3) scMade.nd rfl (.inl rfl)) (pgs_cons (pg_name (i := 4) scMade.nd rfl (.inl rfl)) (pgs_cons (pg_name (i := 5) scMade.nd rfl (.inl rfl)) pgs_nil))))))
      (pss_cons (ps_if (pt_val (pv 1)) (pss_one (ps_ret (pe_makeN G.mkP GP hr (by rfl) G.gPc bP pass0 (pa_cons (pv 2) (pa_cons (pv 3) pa_nil)) (pk_cons (pe_callTy call_list_of (by rfl) G.pc.list (by decide +kernel) (pa_cons (pv 4) pa_nil)) (pk_cons (pe_callTy call_tuple_of (by rfl) G.pc.tuple (by decide +kernel) (pa_cons (pv 5) pa_nil)) pk_nil))))) pss_nil)
      (pss_one (ps_ret (pe_makeN G.mkC GC hr (by rfl) G.gCc bC pass0 (pa_cons (pv 2) (pa_cons (pv 3) pa_nil)) (pk_cons (pe_callTy call_list_of (by rfl) G.pc.list (by decide +kernel) (pa_cons (pv 4) pa_nil)) (pk_cons (pe_callTy call_tuple_of (by rfl) G.pc.tuple (by decide +kernel) (pa_cons (pv 5) pa_nil)) pk_nil))))))), ?_⟩
    have al : vA.length = un.length := (pd_len pA).symm
    have tl : vT.length = sa.length := (pd_len pT).symm
    rcases hw with ⟨rfl, okr, sz, hQ⟩ | ⟨rfl, okr, sz, hQ⟩
    · refine ⟨_, rfl, t, _, rfl, SqT.of ht, rfl, _, _, rfl, _, _, rfl, _, _, rfl, _, _, rfl, rfl, ?_⟩
      refine ⟨_, rfl, true, rfl, ?_⟩
      refine ite2 (fun _ => ?_) fun z => absurd rfl z
      refine ⟨_, rfl, _, rfl, _, rfl, A0, vA, rfl, .inl (SqL.of hvA), fun L hL => ?_⟩
      have s1 := same_new (o := .lst vA) hL
      refine ⟨_, rfl, T0, vT, rfl, .inl ⟨SqL.of (s1 _ _ hvT), fun U hU => ?_⟩⟩
      have s2 := same_new (o := .tup vT) hU
      have s12 := s1.trans s2
      have hL2 := s2 _ _ (show upd H L (.lst vA) L = some (.lst vA) from upd_same)
      refine ⟨rfl, rfl, fun x dx hx hdx hne => ?_⟩
      have s3 := make_same (C := G.CP) hx hdx
      have s13 := s12.trans s3
      refine ⟨x, dx, L, U, r, i, un, sa, rfl, upd_same, ⟨vA, .inl (s3 _ _ hL2), pd_imp pA fun _ _ r => r.keep s13⟩, ⟨vT, .inr (s3 _ _ upd_same), pd_imp pT fun _ _ r => r.keep s13⟩, r1, by omega, okr.bu, okr.bs, by have := okr.lu; omega, by have := okr.ls; omega, fun H5 un' sa' s4 hpart m1 m2 l1 l2 => ⟨rfl, ?_⟩⟩
      exact hQ H5 x ⟨i, un', sa'⟩ (s13.trans s4) ⟨ok_norm okr.bu okr.bs m1 m2, sz, by show un'.length ≤ 1000; omega, by show sa'.length ≤ 1000; omega⟩ rfl hpart
    · refine ⟨_, rfl, t, _, rfl, SqT.of ht, rfl, _, _, rfl, _, _, rfl, _, _, rfl, _, _, rfl, rfl, ?_⟩
      refine ⟨_, rfl, false, rfl, ?_⟩
      refine ite2 (fun z => by cases z) fun _ => ?_
      refine ⟨_, rfl, _, rfl, _, rfl, A0, vA, rfl, .inl (SqL.of hvA), fun L hL => ?_⟩
      have s1 := same_new (o := .lst vA) hL
      refine ⟨_, rfl, T0, vT, rfl, .inl ⟨SqL.of (s1 _ _ hvT), fun U hU => ?_⟩⟩
      have s2 := same_new (o := .tup vT) hU
      have s12 := s1.trans s2
      have hL2 := s2 _ _ (show upd H L (.lst vA) L = some (.lst vA) from upd_same)
      refine ⟨rfl, rfl, fun x dx hx hdx hne => ?_⟩
      have s3 := make_same (C := G.CC) hx hdx
      have s13 := s12.trans s3
      refine ⟨x, dx, L, U, r, i, un, sa, rfl, upd_same, ⟨vA, .inl (s3 _ _ hL2), pd_imp pA fun _ _ r => r.keep s13⟩, ⟨vT, .inr (s3 _ _ upd_same), pd_imp pT fun _ _ r => r.keep s13⟩, r1, by omega, okr.bu, okr.bs, by have := okr.lu; omega, by have := okr.ls; omega, fun H5 un' sa' s4 hpart m1 m2 l1 l2 => ⟨rfl, ?_⟩⟩
      exact hQ H5 x ⟨i, un', sa'⟩ (s13.trans s4) ⟨ok_norm okr.bu okr.bs m1 m2, sz, by show un'.length ≤ 1000; omega, by show sa'.length ≤ 1000; omega⟩ rfl (fun d => keeps_norm m1 m2 d) hpart
end
end Hue

set_option maxHeartbeats 4000000
namespace Hue
open PySem PySem.W PyProof.Rows L2
theorem tuples_len (q : Nat) : ∀ k : Nat, (tuples q k).length = q ^ k
  | 0 => rfl
  | k + 1 => by
    show ((tuples q k).flatMap fun l => (List.range q).map fun h => l ++ [h]).length = q ^ k * q
    rw [List.length_flatMap]
    have : (tuples q k).map (fun l => ((List.range q).map fun h => l ++ [h]).length) = (tuples q k).map fun _ => q := by
      refine List.map_congr_left fun l _ => ?_
      rw [List.length_map, List.length_range]
    rw [this, ← tuples_len q k]
    have key : ∀ l : List (List Nat), (l.map fun _ => q).sum = l.length * q := by
      intro l
      induction l with
      | nil => simp
      | cons a l ih => rw [List.map_cons, List.sum_cons, ih, List.length_cons, Nat.add_mul]; omega
    exact key _
def ext1 (q : Nat) (l : List (List Nat)) : List (List Nat) := l.flatMap fun x => (List.range q).map fun h => x ++ [h]
theorem ext1_len (q : Nat) : ∀ l : List (List Nat), (ext1 q l).length = l.length * q
  | [] => by simp [ext1]
  | x :: l => by
    have := ext1_len q l
    unfold ext1 at this ⊢
    rw [List.flatMap_cons, List.length_append, this, List.length_map, List.length_range, List.length_cons, Nat.add_mul]
    omega
theorem RTup.hid {H : Hp} {x : List Nat} {v : V} {D : Addr} {acc : List V} (hD : H D = some (.lst acc)) (h : RTup H x v) : RTup (hide [D] H) x v := by
  obtain ⟨a, e, h⟩ := h
  exact ⟨a, e, hid_no hD h fun z => nomatch z⟩
section
variable {P : Program} {w : World} {K : PySem.W.Frag} {mg : Str → Option Value} {base : Heap}
/-! ### _law_longer -/
abbrev sLonger : Stmt := top 68
def spLonger : Sp := fun vs H Q _ => ∃ (a : Addr) (q : Nat) (l : List (List Nat)), vs = [.ref a, nV q] ∧ TupsAt H a l ∧ q ≤ 10 ∧ l.length ≤ 300 ∧ l.length * q ≤ 1000 ∧ (∀ x ∈ l, x.length ≤ 100) ∧ ∀ H' D, Same H H' → TupsAt H' D (ext1 q l) → Q (.ref D) H'
abbrev nLonger : List Str := ["_law_lines", "_law_q", "_law_found", "_law_line", "_law_hue"]
theorem scLonger : FnScope nLonger ["_law_lines", "_law_q"] (defScope sLonger) := ⟨rfl, rfl, rfl, by decide +kernel, rfl, by decide +kernel, by decide +kernel⟩
theorem ok_longer {f : Addr} {fd : FuncData} (F : FnP K "_law_longer" sLonger f fd) (gR : mg "range" = none) : FnOk P w K mg base CX0 1 f fd ["_law_lines", "_law_q"] spLonger := by
  refine F.ok scLonger (fun vs H Q E h => ?_) (fun cdv A outer s H vs Q E hr h => ?_)
  · obtain ⟨a, q, l, rfl, _⟩ := h
    rfl
  · obtain ⟨a, q, l, rfl, ⟨ws, hws, pws⟩, hq, hl, hlq, hx, hQ⟩ := h
    refine ⟨_, PSs.nox (pss_cons (ps_set (i := 2) scLonger.nd rfl (.inl rfl) (pe_lst pa_nil))
      (pss_cons (ps_for PassesOwn.never rfl (pi_list (pv 0)) (pg_name (i := 3) scLonger.nd rfl (.inr rfl))
        (pss_one (ps_set (i := 2) scLonger.nd rfl (.inl rfl) (pe_op op_cat (pv 2) (pe_lc (own := [("_law_hue", 4)]) (g := gName 4) (tt := tYes) rfl scLonger.nd (pi_range1 (by rfl) gR (pa_cons (pv 1) pa_nil)) (blkOk_by (N := nLonger) (sc := defScope sLonger) (by decide +kernel)) (fun _ _ _ _ _ => pg_name (i := 4) scLonger.nd rfl (.inl rfl)) (fun _ _ _ _ _ => pts_nil)
          (fun _ _ _ _ _ => pe_op op_catN (pv 3) (pe_tup (pa_cons (pv 4) pa_nil))))))))
      (pss_one (ps_ret (pv 2))))), ?_⟩
    refine ⟨Nat.zero_le _, fun D0 hD0 => ?_⟩
    have s0 := same_new (o := .lst []) hD0
    have hwl : ws.length = l.length := (pd_len pws).symm
    refine ⟨_, rfl, a, rfl, ⟨_, SqL.of (s0 _ _ hws)⟩, for_list (K := K) (a := a) (xs := ws)
      (fun j σ H' => Same H H' ∧ ∃ D v3, σ = [some (.ref a), some (nV q), some (.ref D), v3, none] ∧ TupsAt H' D (ext1 q (l.take j)))
      ⟨s0, D0, _, rfl, [], upd_same, .nil⟩ (fun j σ H' _ h => SqL.of (h.1 _ _ hws)) ?_ ?_⟩
    · rintro j y σ H1 hj ⟨s1, D, v3, rfl, vD, hvD, pD⟩
      obtain ⟨x, hx', c, rfl, hc⟩ := pd_get pws hj
      have hjl : j < l.length := (List.getElem?_eq_some_iff.mp hx').1
      have hxl := hx x (List.mem_of_getElem? hx')
      have hqn : ((q : Nat) : Int).toNat = q := by omega
      refine ⟨_, rfl, _, rfl, (q : Int), rfl, by omega, by omega, fun E hE => lc_range (lo := 0) (n := ((q : Nat) : Int).toNat)
        (fun k H' => Same H1 H' ∧ ∃ vs, H' E = some (.lst vs) ∧ Paired (RTup (hide [E] H')) ((List.range k).map fun h => x ++ [h]) vs) ⟨same_new hE, [], upd_same, .nil⟩ ?_ ?_⟩
      · rintro k H2 hk ⟨s2, vs, hvs, pvs⟩
        rw [Int.zero_add]
        refine ⟨rfl, _, rfl, _, rfl, small' (n := 1) (by decide), fun t ht => ?_⟩
        have s3 := same_new (o := .tup [V.int ((k : Nat) : Int)]) ht
        refine ⟨c, t, _, _, rfl, rfl, (s2.trans s3) _ _ (s1 _ _ hc), upd_same, small' (by rw [List.length_map]; show x.length + 1 ≤ 1000; omega), fun p H3 s4 _ hp => ?_⟩
        have s24 := s3.trans s4
        have hE3 := s24 _ _ hvs
        have npE : p ≠ E := fun z => by rw [z, hE3] at hp; cases hp
        refine ⟨vs, hE3, ?_, upd_keep (s2.trans s24) hE, _, upd_same, ?_⟩
        · refine small ?_
          rw [← pd_len pvs, List.length_map, List.length_range]; omega
        · rw [hide_upd (by simp), List.range_succ, List.map_append]
          refine pd_snoc (pd_imp pvs fun _ _ r => r.keep (hide_same [E] s24)) ⟨p, rfl, ?_⟩
          show hide [E] H3 p = _
          rw [hide_out (by simpa using npE), hp, List.map_append]
          rfl
      · rintro H2 ⟨s2, vs, hvs, pvs⟩
        rw [hqn] at pvs
        have vl : vs.length = q := by rw [← pd_len pvs, List.length_map, List.length_range]
        have vDl : vD.length ≤ 3000 := by
          rw [← pd_len pD, ext1_len, List.length_take]
          have : min j l.length ≤ 300 := by omega
          have := Nat.mul_le_mul this hq
          omega
        refine ⟨D, E, vD, vs, rfl, rfl, s2 _ _ hvD, hvs, ?_, fun F hF => ?_⟩
        · exact Nat.le_of_lt (Nat.lt_of_le_of_lt (show vD.length + vs.length ≤ 10000 by omega) (by decide))
        · have s3 := same_new (o := .lst (vD ++ vs)) hF
          refine ⟨s1.trans (s2.trans s3), F, _, rfl, vD ++ vs, upd_same, ?_⟩
          have e : ext1 q (l.take (j + 1)) = ext1 q (l.take j) ++ (List.range q).map fun h => x ++ [h] := by
            unfold ext1
            rw [take_snoc hx', List.flatMap_append]
            simp
          rw [e]
          exact pd_append (pd_imp pD fun _ _ r => r.keep (s2.trans s3)) (pd_imp pvs fun _ _ r => (r.keep (hide_sub [E] H2)).keep s3)
    · rintro σ H1 ⟨s1, D, v3, rfl, hD⟩
      rw [hwl, List.take_length] at hD
      exact ⟨_, rfl, hQ H1 D s1 hD⟩
/-! ### _law_tuples -/
abbrev sTuples : Stmt := top 69
def spTuples : Sp := fun vs H Q _ => ∃ (q k : Nat), vs = [nV q, nV k] ∧ q ≤ 4 ∧ k ≤ 4 ∧ ∀ H' D, Same H H' → TupsAt H' D (tuples q k) → Q (.ref D) H'
abbrev nTuples : List Str := ["_law_q", "_law_places", "_law_found", "_law_place"]
theorem scTuples : FnScope nTuples ["_law_q", "_law_places"] (defScope sTuples) := ⟨rfl, rfl, rfl, by decide +kernel, rfl, by decide +kernel, by decide +kernel⟩
theorem ok_tuples {f fL : Addr} {fd fdL : FuncData} (F : FnP K "_law_tuples" sTuples f fd) (FL : FnP K "_law_longer" sLonger fL fdL) (gL : mg "_law_longer" = some (.ref fL)) (gR : mg "range" = none) : FnOk P w K mg base CX0 2 f fd ["_law_q", "_law_places"] spTuples := by
  have GL : FnOk P w K mg base CX0 1 fL fdL ["_law_lines", "_law_q"] spLonger := ok_longer FL gR
  have bL : Binds K fdL ["_law_lines", "_law_q"] [] := fn_binds FL fun _ _ _ _ _ _ us hl => match us, hl with | [_, _], _ => rfl
  refine F.ok scTuples (fun vs H Q E h => ?_) (fun cdv A outer s H vs Q E hr h => ?_)
  · obtain ⟨q, k, rfl, _⟩ := h
    rfl
  · obtain ⟨q, k, rfl, hq, hk, hQ⟩ := h
    refine ⟨_, PSs.nox (pss_cons (ps_set (i := 2) scTuples.nd rfl (.inl rfl) (pe_lst (pa_cons (pe_tup pa_nil) pa_nil)))
      (pss_cons (ps_for PassesOwn.never rfl (pi_range1 (by rfl) gR (pa_cons (pv 1) pa_nil)) (pg_name (i := 3) scTuples.nd rfl (.inl rfl))
        (pss_one (ps_set (i := 2) scTuples.nd rfl (.inl rfl) (pe_call GL hr (by rfl) gL FL.kp bL .nil pass0 (pa_cons (pv 2) (pa_cons (pv 0) pa_nil))))))
      (pss_one (ps_ret (pv 2))))), ?_⟩
    refine ⟨Nat.zero_le _, fun t ht => ⟨small' (n := 1) (by decide), fun D hD => ?_⟩⟩
    have s1 := same_new (o := .tup []) ht
    have s2 := same_new (o := .lst [.ref t]) hD
    refine ⟨_, rfl, (k : Int), rfl, by omega, by omega, for_range (lo := 0) (n := ((k : Nat) : Int).toNat)
      (fun i σ H' => Same H H' ∧ ∃ D v3, σ = [some (nV q), some (nV k), some (.ref D), v3] ∧ TupsAt H' D (tuples q i))
      ⟨s1.trans s2, D, _, rfl, [.ref t], upd_same, .cons ⟨t, rfl, s2 _ _ upd_same⟩ .nil⟩ ?_ ?_⟩
    · rintro i σ H1 hi ⟨s3, D, v3, rfl, hD⟩
      have hi : i < k := by omega
      have hl := tuples_len q i
      have h1 : q ^ i ≤ 4 ^ 3 := Nat.le_trans (Nat.pow_le_pow_left hq i) (Nat.pow_le_pow_right (by decide) (by omega))
      have h64 : (4 : Nat) ^ 3 = 64 := rfl
      refine ⟨_, rfl, _, rfl, D, q, tuples q i, rfl, hD, by omega, by omega, ?_, fun x hx => ?_, fun H2 D2 s4 hD2 => ?_⟩
      · rw [hl]
        have := Nat.mul_le_mul (show q ^ i ≤ 64 by omega) hq
        omega
      · have := (mem_tuples.mp hx).1
        omega
      · exact ⟨s3.trans s4, D2, _, rfl, hD2⟩
    · rintro σ H1 ⟨s3, D, v3, rfl, hD⟩
      have : ((k : Nat) : Int).toNat = k := by omega
      rw [this] at hD
      exact ⟨_, rfl, hQ H1 D s3 hD⟩
end
end Hue

set_option maxHeartbeats 4000000
namespace Hue
open PySem PySem.W PyProof.Rows L2
/-! ### lists of ones -/
theorem ones_dp {K : PySem.W.Frag} {H : Hp} : ∀ n : Nat, DpAll K H (List.replicate n (V.int 1)) (List.replicate n (PyData.int 1))
  | 0 => .nil
  | n + 1 => .cons (.int 1) (ones_dp n)
theorem ones_lay : ∀ n : Nat, PyData.canLayAll0 (List.replicate n (PyData.int 1)) = true
  | 0 => by simp [PyData.canLayAll0]
  | n + 1 => by rw [List.replicate_succ]; simp only [PyData.canLayAll0, PyData.canLay0, ones_lay n]; rfl
theorem ones_depth : ∀ n : Nat, PyData.depthAll (List.replicate n (PyData.int 1)) = 0
  | 0 => by simp [PyData.depthAll]
  | n + 1 => by rw [List.replicate_succ]; simp only [PyData.depthAll, PyData.depth, ones_depth n]; rfl
theorem ones_shaped (n : Nat) : SeqAt.shaped (.list (List.replicate n (PyData.int 1))) = true := by
  unfold SeqAt.shaped
  rw [Bool.and_eq_true]
  refine ⟨by simp only [PyData.canLay0]; exact ones_lay n, decide_eq_true ?_⟩
  simp only [PyData.depth, ones_depth]
  decide
theorem ones_eqv (n : Nat) : PyData.eqv (.list (List.replicate n (PyData.int 1))) (.list []) = decide (n = 0) := by
  cases n with
  | zero => simp [PyData.eqv, PyData.eqvAll]
  | succ n => rw [List.replicate_succ]; simp [PyData.eqv, PyData.eqvAll]
def cnt {α : Type} (p : α → Bool) (l : List α) : Nat := (l.filter p).length
theorem cnt_snoc {α : Type} {p : α → Bool} {l : List α} {j : Nat} {x : α} (h : l[j]? = some x) : cnt p (l.take (j + 1)) = cnt p (l.take j) + if p x = true then 1 else 0 := by
  unfold cnt
  rw [take_snoc h, List.filter_append, List.length_append]
  congr 1
  by_cases hx : p x = true
  · simp [hx]
  · simp [hx]
theorem cnt_zero {α : Type} {p : α → Bool} {l : List α} : cnt p l = 0 ↔ ∀ x ∈ l, ¬ p x = true := by
  unfold cnt
  rw [List.length_eq_zero_iff, List.filter_eq_nil_iff]
theorem cnt_le {α : Type} (p : α → Bool) (l : List α) : cnt p l ≤ l.length := List.length_filter_le _ _
section
variable {P : Program} {w : World} {K : PySem.W.Frag} {mg : Str → Option Value} {base : Heap}
/-! ### _law_keeps -/
abbrev sKeeps : Stmt := top 70
def spKeeps : Sp := fun vs H Q _ => ∃ (t a : Addr) (r i : Nat) (un sa : List (Nat × Nat)) (d : List Nat), vs = [.ref t, .ref a] ∧ RawAt H t r i un sa ∧ TupN H a d ∧ Below d.length un ∧ Below d.length sa ∧ un.length ≤ 100 ∧ sa.length ≤ 100 ∧
  ∀ H', Same H H' → Q (.bl (keeps un sa d)) H'
abbrev nKeeps : List Str := ["_law_part_here", "_law_line", "_law_broken", "_law_x", "_law_y"]
theorem scKeeps : FnScope nKeeps ["_law_part_here", "_law_line"] (defScope sKeeps) := ⟨rfl, rfl, rfl, by decide +kernel, rfl, by decide +kernel, by decide +kernel⟩
theorem ok_keeps {f : Addr} {fd : FuncData} (F : FnP K "_law_keeps" sKeeps f fd) : FnOk P w K mg base CX0 1 f fd ["_law_part_here", "_law_line"] spKeeps := by
  refine F.ok scKeeps (fun vs H Q E h => ?_) (fun cdv A outer s H vs Q E hr h => ?_)
  · obtain ⟨t, a, r, i, un, sa, d, rfl, _⟩ := h
    rfl
  · obtain ⟨t, a, r, i, un, sa, d, rfl, ⟨A0, T0, ht, ⟨vA, hvA, pA⟩, ⟨vT, hvT, pT⟩⟩, ha, bu, bs, lu, ls, hQ⟩ := h
    refine ⟨_, PSs.nox (pss_cons (ps_setLc (i := 2) (own := [("_law_x", 3), ("_law_y", 4)]) (g := gTup K 2 (gCons (gName 3) (gCons (gName 4) gNil))) (te := tC (.int 1)) (tt := tTest (tOp rEq (tOp (rIxT K) (tVar 1) (tVar 3)) (tOp (rIxT K) (tVar 1) (tVar 4)))) rfl scKeeps.nd rfl rfl (sw_true rfl rfl rfl (by decide +kernel)) (pi_list (pe_ix ix_tup (pv 0) pe_int (fun _ _ => rfl))) (blkOk_by (N := nKeeps) (sc := defScope sKeeps) (by decide +kernel))
        (fun _ _ _ _ _ => pg_tup rfl (pgs_cons (pg_name (i := 3) scKeeps.nd rfl (.inl rfl)) (pgs_cons (pg_name (i := 4) scKeeps.nd rfl (.inl rfl)) pgs_nil)))
        (fun _ _ _ _ _ => pts_one (pt_cmpR op_eq (pe_ix (r := rIxT K) ix_tup (pv 1) (pv 3) (fun _ _ => rfl)) (pe_ix (r := rIxT K) ix_tup (pv 1) (pv 4) (fun _ _ => rfl)) (nomark _))) (fun _ _ _ _ _ => pe_int))
      (pss_one (ps_ret (pe_and (pe_cmpR (op_eqD hr.units) (pv 2) (pe_lst pa_nil) (nomark _)) (pe_one (pe_cmpR (op_eqD hr.units)
        (pe_lc (own := [("_law_x", 3), ("_law_y", 4)]) (g := gTup K 2 (gCons (gName 3) (gCons (gName 4) gNil))) (te := tC (.int 1)) (tt := tTest (tOp rNe (tOp (rIxT K) (tVar 1) (tVar 3)) (tOp (rIxT K) (tVar 1) (tVar 4)))) rfl scKeeps.nd (pi_list (pe_ix ix_tup (pv 0) pe_int (fun _ _ => rfl))) (blkOk_by (N := nKeeps) (sc := defScope sKeeps) (by decide +kernel))
        (fun _ _ _ _ _ => pg_tup rfl (pgs_cons (pg_name (i := 3) scKeeps.nd rfl (.inl rfl)) (pgs_cons (pg_name (i := 4) scKeeps.nd rfl (.inl rfl)) pgs_nil)))
        (fun _ _ _ _ _ => pts_one (pt_cmpR op_ne (pe_ix (r := rIxT K) ix_tup (pv 1) (pv 3) (fun _ _ => rfl)) (pe_ix (r := rIxT K) ix_tup (pv 1) (pv 4) (fun _ _ => rfl)) (nomark _))) (fun _ _ _ _ _ => pe_int)) (pe_lst pa_nil) (nomark _))))))), ?_⟩
    have lA : vA.length = un.length := (pd_len pA).symm
    have lT : vT.length = sa.length := (pd_len pT).symm
    let pU : Nat × Nat → Bool := fun x => decide (d.getD x.1 0 = d.getD x.2 0)
    let pS : Nat × Nat → Bool := fun x => decide (¬ d.getD x.1 0 = d.getD x.2 0)
    refine ⟨_, rfl, t, _, _, .ref A0, rfl, rfl, SqT.of ht, rfl, A0, rfl, ⟨_, SqL.of hvA⟩, fun D hD => lc_list (K := K) (a := A0) (xs := vA) (fun j H' => Same H H' ∧ H' D = some (.lst (List.replicate (cnt pU (un.take j)) (V.int 1)))) ⟨same_new hD, upd_same⟩ (fun j H' _ h => SqL.of (h.1 _ _ hvA)) ?_ ?_⟩
    · rintro j y H1 hj ⟨s1, hD1⟩
      obtain ⟨x, hx, q, rfl, hq⟩ := pd_get pA hj
      obtain ⟨b1, b2, b3⟩ := bu x (List.mem_of_getElem? hx)
      refine ⟨q, _, rfl, SqT.of (s1 _ _ hq), rfl, _, _, rfl, _, _, rfl, rfl, rfl, ?_⟩
      refine ⟨_, rfl, _, rfl, a, _, _, _, rfl, rfl, SqT.of (s1 _ _ ha), at_nV b1, _, rfl, _, rfl, a, _, _, _, rfl, rfl, SqT.of (s1 _ _ ha), at_nV b2, rfl, _, rfl, ?_⟩
      have hlen : (List.replicate (cnt pU (un.take j)) (V.int 1)).length < sizeLine := by
        refine small ?_
        rw [List.length_replicate]
        have := cnt_le pU (un.take j)
        rw [List.length_take] at this
        omega
      refine ite2 (fun z => ?_) fun z => ?_
      · have e : d.getD x.1 0 = d.getD x.2 0 := nV_eq.mp (of_decide_eq_true z)
        refine ⟨_, hD1, hlen, upd_keep s1 hD, ?_⟩
        rw [upd_same, cnt_snoc hx, if_pos (show pU x = true from decide_eq_true e), List.replicate_succ']
      · have e : ¬ d.getD x.1 0 = d.getD x.2 0 := fun q => z (decide_eq_true (nV_eq.mpr q))
        refine ⟨s1, ?_⟩
        rw [cnt_snoc hx, if_neg (show ¬ pU x = true from fun q => e (of_decide_eq_true q))]
        exact hD1
    · rintro H1 ⟨s1, hD1⟩
      rw [List.take_of_length_le (by omega)] at hD1
      refine ⟨_, rfl, Nat.zero_le _, fun E1 hE => ?_⟩
      have s2 := same_new (o := .lst []) hE
      refine ⟨_, .list [], .lst (SqL.of (s2 _ _ hD1)) (ones_dp _), .lst (SqL.of upd_same) .nil, ones_shaped _, by decide, _, rfl, ?_⟩
      refine ite2 (fun z => ?_) fun z => ?_
      · rw [ones_eqv] at z
        have z0 := cnt_zero.mp (of_decide_eq_true z)
        have s12 := s1.trans s2
        refine ⟨_, rfl, t, _, _, .ref T0, rfl, rfl, SqT.of (s12 _ _ ht), rfl, T0, rfl, ⟨_, SqL.of (s12 _ _ hvT)⟩, fun D2 hD2 => lc_list (K := K) (a := T0) (xs := vT) (fun j H' => Same (upd H1 E1 (.lst [])) H' ∧ H' D2 = some (.lst (List.replicate (cnt pS (sa.take j)) (V.int 1)))) ⟨same_new hD2, upd_same⟩ (fun j H' _ h => SqL.of ((s12.trans h.1) _ _ hvT)) ?_ ?_⟩
        · rintro j y H2 hj ⟨s3, hD3⟩
          obtain ⟨x, hx, q, rfl, hq⟩ := pd_get pT hj
          obtain ⟨b1, b2, b3⟩ := bs x (List.mem_of_getElem? hx)
          have s13 := s12.trans s3
          refine ⟨q, _, rfl, SqT.of (s13 _ _ hq), rfl, _, _, rfl, _, _, rfl, rfl, rfl, ?_⟩
          refine ⟨_, rfl, _, rfl, a, _, _, _, rfl, rfl, SqT.of (s13 _ _ ha), at_nV b1, _, rfl, _, rfl, a, _, _, _, rfl, rfl, SqT.of (s13 _ _ ha), at_nV b2, rfl, _, rfl, ?_⟩
          have hlen : (List.replicate (cnt pS (sa.take j)) (V.int 1)).length < sizeLine := by
            refine small ?_
            rw [List.length_replicate]
            have := cnt_le pS (sa.take j)
            rw [List.length_take] at this
            omega
          refine ite2 (fun z' => ?_) fun z' => ?_
          · have e : ¬ d.getD x.1 0 = d.getD x.2 0 := fun q => by
              rw [decide_eq_true (nV_eq.mpr q)] at z'
              cases z'
            refine ⟨_, hD3, hlen, upd_keep s3 hD2, ?_⟩
            rw [upd_same, cnt_snoc hx, if_pos (show pS x = true from decide_eq_true e), List.replicate_succ']
          · have e : d.getD x.1 0 = d.getD x.2 0 := Classical.byContradiction fun q => z' (by rw [decide_eq_false (fun w => q (nV_eq.mp w))]; rfl)
            refine ⟨s3, ?_⟩
            rw [cnt_snoc hx, if_neg (show ¬ pS x = true from fun q => of_decide_eq_true q e)]
            exact hD3
        · rintro H2 ⟨s3, hD3⟩
          rw [List.take_of_length_le (by omega)] at hD3
          refine ⟨Nat.zero_le _, fun E2 hE2 => ?_⟩
          have s4 := same_new (o := .lst []) hE2
          refine ⟨_, .list [], .lst (SqL.of (s4 _ _ hD3)) (ones_dp _), .lst (SqL.of upd_same) .nil, ones_shaped _, by decide, ?_⟩
          have e : PyData.eqv (.list (List.replicate (cnt pS sa) (PyData.int 1))) (.list []) = keeps un sa d := by
            rw [ones_eqv, Bool.eq_iff_iff, decide_eq_true_eq, keeps_iff, cnt_zero]
            constructor
            · intro h
              refine ⟨fun p hp q => z0 p hp (decide_eq_true q), fun p hp => Classical.byContradiction fun q => h p hp (decide_eq_true q)⟩
            · rintro ⟨_, h2⟩ p hp q
              exact of_decide_eq_true q (h2 p hp)
          show Q (.bl (PyData.eqv (.list (List.replicate (cnt pS sa) (PyData.int 1))) (.list []))) _
          rw [e]
          exact hQ _ (s12.trans (s3.trans s4))
      · rw [ones_eqv] at z
        have e : keeps un sa d = false := by
          rw [Bool.eq_false_iff]
          intro h
          have h1 := (keeps_iff.mp h).1
          refine z (decide_eq_true (cnt_zero.mpr fun p hp q => h1 p hp (of_decide_eq_true q)))
        rw [e] at hQ
        exact hQ _ (s1.trans s2)
end
end Hue

set_option maxHeartbeats 4000000
namespace Hue
open PySem PySem.W PyProof.Rows L2
/-! ### numbers of colourings by their rim -/
abbrev Cw := List (List Nat × Nat)
def ckvs (W : Cw) : List (List Key × V) := W.map fun x => (kL x.1, nV x.2)
theorem ckvs_none {W : Cw} {t : List Nat} (h : t ∉ W.map (·.1)) : valV (ckvs W) (kL t) = none := by
  unfold valV
  rw [Option.map_eq_none_iff, List.find?_eq_none]
  intro p hp
  obtain ⟨x, hx, rfl⟩ := List.mem_map.mp hp
  simp only [decide_eq_true_eq]
  intro e
  exact h (List.mem_map.mpr ⟨x, hx, kL_inj.mp e⟩)
theorem cbump {W : Cw} (nd : (W.map (·.1)).Nodup) (t : List Nat) : ∃ (W' : Cw) (c : Nat), (valV (ckvs W) (kL t)).getD (.int 0) = .int (c : Int) ∧ putK (ckvs W) (kL t) (.int ((c : Int) + 1)) = ckvs W' ∧ (W'.map (·.1)).Nodup ∧ W'.length ≤ W.length + 1 ∧
    (∀ F : List Nat → Int, S W' (fun x => (x.2 : Int) * F x.1) = S W (fun x => (x.2 : Int) * F x.1) + F t) ∧ ∀ x ∈ W', (x.1 = t ∨ ∃ y ∈ W, y.1 = x.1) ∧ ∀ n, (∀ y ∈ W, y.2 ≤ n) → x.2 ≤ n + 1 := by
  by_cases h : t ∈ W.map (·.1)
  · obtain ⟨x, hx, rfl⟩ := List.mem_map.mp h
    obtain ⟨A, B, rfl⟩ := List.append_of_mem hx
    obtain ⟨t, c⟩ := x
    have nd' := nd
    rw [List.map_append, List.map_cons] at nd'
    have hA : t ∉ A.map (·.1) := fun z => (List.nodup_append.mp nd').2.2 t z t (by simp) rfl
    have hB : t ∉ B.map (·.1) := (List.nodup_cons.mp (List.nodup_append.mp nd').2.1).1
    have e1 : ckvs (A ++ (t, c) :: B) = ckvs A ++ (kL t, nV c) :: ckvs B := by simp [ckvs]
    have hv : valV (ckvs (A ++ (t, c) :: B)) (kL t) = some (nV c) := by
      rw [e1, valV_append (ckvs_none hA)]
      exact valV_pos rfl
    refine ⟨A ++ (t, c + 1) :: B, c, by rw [hv]; rfl, ?_, ?_, ?_, ?_, ?_⟩
    · have same : ∀ (L : Cw), t ∉ L.map (·.1) → (ckvs L).map (fun kv => if kv.1 = kL t then (kv.1, V.int ((c : Int) + 1)) else kv) = ckvs L := by
        intro L hL
        unfold ckvs
        rw [List.map_map]
        refine List.map_congr_left fun y hy => ?_
        show (if kL y.1 = kL t then _ else _) = _
        rw [if_neg]
        intro e
        exact hL (List.mem_map.mpr ⟨y, hy, kL_inj.mp e⟩)
      unfold putK
      rw [if_pos (by rw [valV_any, hv]; rfl), e1, List.map_append, List.map_cons, same A hA, same B hB]
      simp [ckvs, nV]
    · rw [List.map_append, List.map_cons]
      exact nd'
    · simp only [List.length_append, List.length_cons]; omega
    · intro F
      rw [S_append, S_append, S_cons, S_cons]
      show _ + (((c + 1 : Nat) : Int) * F t + _) = _ + ((c : Int) * F t + _) + F t
      have : (((c + 1 : Nat) : Int)) * F t = (c : Int) * F t + F t := by
        rw [show ((c + 1 : Nat) : Int) = (c : Int) + 1 by omega, Int.add_mul, Int.one_mul]
      omega
    · intro x hx
      rcases List.mem_append.mp hx with z | z
      · exact ⟨.inr ⟨x, by simp [z], rfl⟩, fun n hn => by have := hn x (by simp [z]); omega⟩
      · rcases List.mem_cons.mp z with rfl | z
        · exact ⟨.inl rfl, fun n hn => by have := hn (t, c) (by simp); show c + 1 ≤ n + 1; omega⟩
        · exact ⟨.inr ⟨x, by simp [z], rfl⟩, fun n hn => by have := hn x (by simp [z]); omega⟩
  · have hv := ckvs_none h
    refine ⟨W ++ [(t, 1)], 0, by rw [hv]; rfl, ?_, ?_, ?_, ?_, ?_⟩
    · rw [putK_new _ hv]
      simp [ckvs, nV]
    · rw [List.map_append, List.nodup_append]
      refine ⟨nd, by simp, fun a ha b hb e => ?_⟩
      have : b = t := by simpa using hb
      exact h (this ▸ e ▸ ha)
    · simp
    · intro F
      rw [S_append, S_single]
      simp
    · intro x hx
      rcases List.mem_append.mp hx with z | z
      · exact ⟨.inr ⟨x, z, rfl⟩, fun n hn => by have := hn x z; omega⟩
      · rw [List.mem_singleton.mp z]
        exact ⟨.inl rfl, fun n hn => by show 1 ≤ n + 1; omega⟩
/-- W: how many colourings of a part with n places have which colours on the rim -/
structure CapW (q r n : Nat) (un sa : List (Nat × Nat)) (W : Cw) : Prop where
  nd : (W.map (·.1)).Nodup
  len : W.length ≤ 300
  mem : ∀ x ∈ W, x.1 ∈ tuples q r ∧ x.2 ≤ 300
  sum : ∀ F : List Nat → Int, S W (fun x => (x.2 : Int) * F x.1) = S (tuples q n) fun a => if keeps un sa a = true then F (a.take r) else 0
section
variable {P : Program} {w : World} {K : PySem.W.Frag} {mg : Str → Option Value} {base : Heap}
structure GTups (K : PySem.W.Frag) (mg : Str → Option Value) where
  fT : Addr
  fdT : FuncData
  FT : FnP K "_law_tuples" sTuples fT fdT
  gT : mg "_law_tuples" = some (.ref fT)
  fL : Addr
  fdL : FuncData
  FL : FnP K "_law_longer" sLonger fL fdL
  gL : mg "_law_longer" = some (.ref fL)
  fK : Addr
  fdK : FuncData
  FK : FnP K "_law_keeps" sKeeps fK fdK
  gK : mg "_law_keeps" = some (.ref fK)
  range : mg "range" = none
/-! ### _law_cap_ways -/
abbrev sCapWays : Stmt := top 73
def spCapWays : Sp := fun vs H Q _ => ∃ (t : Addr) (q r i : Nat) (un sa : List (Nat × Nat)), vs = [.ref t, nV q] ∧ RawAt H t r i un sa ∧ RawOk (r + i) un sa ∧ q ≤ 4 ∧ r + i ≤ 4 ∧ ∀ H' d W, Same H H' → H d = none → H' d = some (.dT (ckvs W)) → CapW q r (r + i) un sa W → Q (.ref d) H'
abbrev nCapWays : List Str := ["_law_cap_here", "_law_q", "_law_found", "_law_line"]
theorem scCapWays : FnScope nCapWays ["_law_cap_here", "_law_q"] (defScope sCapWays) := ⟨rfl, rfl, rfl, by decide +kernel, rfl, by decide +kernel, by decide +kernel⟩
theorem ok_capWays {f : Addr} {fd : FuncData} (F : FnP K "_law_cap_ways" sCapWays f fd) (G : GTups K mg) : FnOk P w K mg base CX0 3 f fd ["_law_cap_here", "_law_q"] spCapWays := by
  have GT : FnOk P w K mg base CX0 2 G.fT G.fdT ["_law_q", "_law_places"] spTuples := ok_tuples G.FT G.FL G.gL G.range
  have bT : Binds K G.fdT ["_law_q", "_law_places"] [] := fn_binds G.FT fun _ _ _ _ _ _ us hl => match us, hl with | [_, _], _ => rfl
  have GK : FnOk P w K mg base CX0 2 G.fK G.fdK ["_law_part_here", "_law_line"] spKeeps := (ok_keeps G.FK).mono (by decide)
  have bK : Binds K G.fdK ["_law_part_here", "_law_line"] [] := fn_binds G.FK fun _ _ _ _ _ _ us hl => match us, hl with | [_, _], _ => rfl
  refine F.ok scCapWays (fun vs H Q E h => ?_) (fun cdv A outer s H vs Q E hr h => ?_)
  · obtain ⟨t, q, r, i, un, sa, rfl, _⟩ := h
    rfl
  · obtain ⟨t, q, r, i, un, sa, rfl, hraw, okr, hq, hri, hQ⟩ := h
    have hu := hu_of hr
    refine ⟨_, PSs.nox (pss_cons (ps_set (i := 2) scCapWays.nd rfl (.inl rfl) pe_dnewT)
      (pss_cons (ps_for PassesOwn.never rfl (pi_list (pe_call GT hr (by rfl) G.gT G.FT.kp bT .nil pass0 (pa_cons (pv 1) (pa_cons (pe_op op_add (pe_ix ix_tup (pv 0) pe_int (fun _ _ => rfl)) (pe_ix ix_tup (pv 0) pe_int (fun _ _ => rfl))) pa_nil)))) (pg_name (i := 3) scCapWays.nd rfl (.inl rfl))
        (pss_one (ps_if (pt_val (pe_call GK hr (by rfl) G.gK G.FK.kp bK .nil pass0 (pa_cons (pv 0) (pa_cons (pv 3) pa_nil))))
          (pss_one (ps_dput hu (pv 2) (pe_slice sl_tupN (pv 3) po_none (po_some (pe_ix ix_tup (pv 0) pe_int (fun _ _ => rfl)))) (pe_op op_add (pe_dget2 hu (pv 2) (pe_slice sl_tupN (pv 3) po_none (po_some (pe_ix ix_tup (pv 0) pe_int (fun _ _ => rfl)))) pe_int ⟨rfl, rfl, rfl, rfl⟩) pe_int) rfl)) pss_nil)))
      (pss_one (ps_ret (pv 2))))), ?_⟩
    intro d hd
    have sd := same_new (o := .dT []) hd
    obtain ⟨A0, T0, ht, hA, hT⟩ := id hraw
    refine ⟨_, rfl, _, rfl, t, _, _, _, rfl, rfl, SqT.of (sd _ _ ht), rfl, _, rfl, t, _, _, _, rfl, rfl, SqT.of (sd _ _ ht), rfl, _, _, rfl, rfl, q, r + i, rfl, hq, hri, fun H1 D s1 ⟨ws, hws, pws⟩ => ?_⟩
    have nD : D ≠ d := fun z => by rw [z, s1 _ _ upd_same] at hws; cases hws
    have sH1 : Same H (hide [d] H1) := by
      have := hide_same [d] (sd.trans s1)
      rwa [hide_one_none hd] at this
    have hdB : hide [d] H1 d = none := hide_in (by simp)
    have hws' : hide [d] H1 D = some (.lst ws) := by rw [hide_out (by simpa using nD)]; exact hws
    have hwl : ws.length = (tuples q (r + i)).length := (pd_len pws).symm
    have hl256 : (tuples q (r + i)).length ≤ 256 := by
      rw [tuples_len]
      exact Nat.le_trans (Nat.pow_le_pow_left hq _) (Nat.pow_le_pow_right (by decide) hri)
    refine ⟨D, rfl, ⟨_, SqL.of hws⟩, for_list (K := K) (a := D) (xs := ws)
      (fun j σ H' => Same (hide [d] H1) H' ∧ (∃ v3, σ = [some (.ref t), some (nV q), some (.ref d), v3]) ∧ ∃ W : Cw, H' d = some (.dT (ckvs W)) ∧ (W.map (·.1)).Nodup ∧ W.length ≤ j ∧ (∀ x ∈ W, x.1 ∈ tuples q r ∧ x.2 ≤ j) ∧
        ∀ F : List Nat → Int, S W (fun x => (x.2 : Int) * F x.1) = S ((tuples q (r + i)).take j) fun a => if keeps un sa a = true then F (a.take r) else 0)
      ⟨hide_sub _ _, ⟨_, rfl⟩, [], s1 _ _ upd_same, by simp, Nat.le_refl _, fun x hx => absurd hx (by simp), fun F => rfl⟩ (fun j σ H' _ h => SqL.of (h.1 _ _ hws')) ?_ ?_⟩
    · rintro j y σ H2 hj ⟨s2, ⟨v3, rfl⟩, W, hW, nd, hl, hm, hsum⟩
      obtain ⟨x, hx, c, rfl, hc⟩ := pd_get pws hj
      have hjl : j < (tuples q (r + i)).length := (List.getElem?_eq_some_iff.mp hx).1
      obtain ⟨lx, bx⟩ := mem_tuples.mp (List.mem_of_getElem? hx)
      have nc : c ≠ d := fun z => by rw [TupN, z, s1 _ _ upd_same] at hc; cases hc
      have hc2 : TupN H2 c x := s2 _ _ (by rw [hide_out (by simpa using nc)]; exact hc)
      have sH2 := sH1.trans s2
      refine ⟨_, rfl, _, rfl, t, c, r, i, un, sa, x, rfl, hraw.keep sH2, hc2, by rw [lx]; exact okr.bu, by rw [lx]; exact okr.bs, by have := okr.lu; omega, by have := okr.ls; omega, fun H3 s3 => ⟨_, rfl, ?_⟩⟩
      have hsnoc : ∀ F : List Nat → Int, (S ((tuples q (r + i)).take (j + 1)) fun a => if keeps un sa a = true then F (a.take r) else 0) = (S ((tuples q (r + i)).take j) fun a => if keeps un sa a = true then F (a.take r) else 0) + if keeps un sa x = true then F (x.take r) else 0 := fun F => by
        rw [take_snoc hx, S_append, S_single]
      have hW3 := s3 _ _ hW
      have ht3 := (sH2.trans s3) _ _ ht
      refine ite2 (fun hk => ?_) fun hk => ?_
      · refine ⟨_, rfl, d, rfl, .inr ⟨_, Rd.of hW3⟩, _, rfl, _, rfl, t, _, _, _, rfl, rfl, SqT.of ht3, rfl, _, rfl, c, _, rfl, s3 _ _ hc2, fun e1 H4 s4 _ he1 => ?_⟩
        rw [cut_left (by omega)] at he1
        obtain ⟨W', cc, g1, g2, g3, g4, g5, g6⟩ := cbump nd (x.take r)
        refine ⟨_, DGet.t (s4 _ _ hW3) (kL_tup he1), ?_⟩
        rw [g1]
        refine ⟨_, _, rfl, rfl, _, rfl, _, rfl, _, rfl, t, _, _, _, rfl, rfl, SqT.of (s4 _ _ ht3), rfl, _, rfl, c, _, rfl, s4 _ _ (s3 _ _ hc2), fun e2 H5 s5 _ he2 => ?_⟩
        rw [cut_left (by omega)] at he2
        have s35 := s3.trans (s4.trans s5)
        refine ⟨d, _, rfl, DPut.t (s35 _ _ hW) (kL_tup he2) ?_, ?_⟩
        · refine small ?_
          unfold ckvs
          rw [List.length_map]; omega
        · refine ⟨upd_keep (s2.trans s35) hdB, ⟨_, rfl⟩, W', ?_, g3, by omega, fun z hz => ?_, fun F => ?_⟩
          · rw [upd_same]
            show some (HO.dT (putK (ckvs W) (kL (x.take r)) (V.int ((cc : Int) + 1)))) = _
            rw [g2]
          · obtain ⟨h1, h2⟩ := g6 z hz
            refine ⟨?_, h2 j fun y hy => (hm y hy).2⟩
            rcases h1 with h1 | ⟨y, hy, h1⟩
            · rw [h1]
              exact mem_tuples.mpr ⟨by rw [List.length_take]; omega, fun v hv => bx v (List.mem_of_mem_take hv)⟩
            · rw [← h1]
              exact (hm y hy).1
          · rw [g5, hsum, hsnoc, if_pos hk]
      · refine ⟨s2.trans s3, ⟨_, rfl⟩, W, hW3, nd, by omega, fun z hz => ⟨(hm z hz).1, by have := (hm z hz).2; omega⟩, fun F => ?_⟩
        rw [hsum, hsnoc, if_neg hk, Int.add_zero]
    · rintro σ H2 ⟨s2, ⟨v3, rfl⟩, W, hW, nd, hl, hm, hsum⟩
      rw [hwl] at hl hm hsum
      rw [List.take_length] at hsum
      exact ⟨_, rfl, hQ H2 d W (sH1.trans s2) hd hW ⟨nd, by omega, fun x hx => ⟨(hm x hx).1, by have := (hm x hx).2; omega⟩, hsum⟩⟩
end
end Hue

set_option maxHeartbeats 4000000
namespace Hue
open PySem PySem.W PyProof.Rows L2
theorem same_unlock {H H' : Hp} {d : Addr} {u : HO} (h : H d = some u) (k : Same (hide [d] H) H') : Same H (upd H' d u) := fun b o e => by
  by_cases z : b = d
  · rw [z, upd_same, ← h, ← z]
    exact e
  · rw [upd_ne z]
    exact k b o (by rw [hide_out (by simpa using z)]; exact e)
theorem lock_same {H : Hp} {d : Addr} {u : HO} : Same (hide [d] H) (upd H d u) := same_hide_upd (by simp) (hide_sub _ _)
/-- a table of numbers by two rims -/
def TblAt (H : Hp) (d : Addr) (q r : Nat) (F : List Nat → List Nat → Int) : Prop := ∃ kvs : List (List Key × V), H d = some (.dT kvs) ∧ kvs.length ≤ 10000 ∧ ∀ x ∈ tuples q r, ∀ y ∈ tuples q r, valV kvs (kL (x ++ y)) = some (.int (F x y))
theorem TblAt.keep {H H' : Hp} {d : Addr} {q r : Nat} {F : List Nat → List Nat → Int} (k : Same H H') (h : TblAt H d q r F) : TblAt H' d q r F := by
  obtain ⟨kvs, a, b⟩ := h
  exact ⟨kvs, k _ _ a, b⟩
theorem strip_total {q r n : Nat} {row : List Pc} {hu hs tu ts : List (Nat × Nat)} {hd tl : Pc} {W1 W2 : Cw} (h1 : CapW q r (r + hd.inner) hu hs W1) (h2 : CapW q r (r + tl.inner) tu ts W2)
    (k1 : ∀ d, keeps hd.un hd.sa d = keeps hu hs d) (k2 : ∀ d, keeps tl.un tl.sa d = keeps tu ts d) :
    (S W1 fun x => S W2 fun y => ((x.2 : Int) * btw q r row n x.1 y.1) * (y.2 : Int)) = strip q r row n hd tl := by
  have e1 : (S W1 fun x => S W2 fun y => ((x.2 : Int) * btw q r row n x.1 y.1) * (y.2 : Int)) = S W1 fun x => (x.2 : Int) * S W2 fun y => (y.2 : Int) * btw q r row n x.1 y.1 := by
    refine S_congr fun x _ => ?_
    rw [← S_mul]
    refine S_congr fun y _ => ?_
    rw [Int.mul_assoc, Int.mul_comm (btw q r row n x.1 y.1)]
  rw [e1, h1.sum fun z => S W2 fun y => (y.2 : Int) * btw q r row n z y.1]
  unfold strip
  refine S_congr fun a _ => ?_
  rw [k1 a]
  by_cases h : keeps hu hs a = true
  · rw [if_pos h, if_pos h, h2.sum fun z => btw q r row n (a.take r) z]
    refine S_congr fun b _ => ?_
    rw [k2 b]
  · rw [if_neg h, if_neg h]
theorem ckvs_at {W : Cw} (nd : (W.map (·.1)).Nodup) {x : List Nat × Nat} (hx : x ∈ W) : valV (ckvs W) (kL x.1) = some (nV x.2) := by
  obtain ⟨A, B, rfl⟩ := List.append_of_mem hx
  have nd' := nd
  rw [List.map_append, List.map_cons] at nd'
  have hA : x.1 ∉ A.map (·.1) := fun z => (List.nodup_append.mp nd').2.2 x.1 z x.1 (by simp) rfl
  have e1 : ckvs (A ++ x :: B) = ckvs A ++ (kL x.1, nV x.2) :: ckvs B := by simp [ckvs]
  rw [e1, valV_append (ckvs_none hA)]
  exact valV_pos rfl
theorem ckvs_get {W : Cw} {i : Nat} {k : List Key} {v : V} (h : (ckvs W)[i]? = some (k, v)) : ∃ x, W[i]? = some x ∧ k = kL x.1 ∧ v = nV x.2 := by
  unfold ckvs at h
  rw [List.getElem?_map] at h
  cases e : W[i]? with
  | none => rw [e] at h; cases h
  | some x => rw [e] at h; cases h; exact ⟨x, rfl, rfl, rfl⟩
theorem kL_nV (l : List Nat) : (kL l).map kV = l.map nV := by
  unfold kL
  rw [List.map_map]
  rfl
theorem tup_kL {H : Hp} {a : Addr} {l : List Nat} (h : H a = some (.tup ((kL l).map kV))) : TupN H a l := by
  rw [kL_nV] at h
  exact h
section
variable {P : Program} {w : World} {K : PySem.W.Frag} {mg : Str → Option Value} {base : Heap}
structure GCaps (K : PySem.W.Frag) (mg : Str → Option Value) where
  top : GBtw K mg
  lp : GLPiece K mg
  tu : GTups K mg
  md : GMade K mg
  eC : md.CC = top.CC
  eP : md.CP = top.CP
  fLC : Addr
  fdLC : FuncData
  FLC : FnP K "_law_cap" sLCap fLC fdLC
  gLC : mg "_law_cap" = some (.ref fLC)
  fCW : Addr
  fdCW : FuncData
  FCW : FnP K "_law_cap_ways" sCapWays fCW fdCW
  gCW : mg "_law_cap_ways" = some (.ref fCW)
  fMd : Addr
  fdMd : FuncData
  FMd : FnP K "_law_made" sMade fMd fdMd
  gMd : mg "_law_made" = some (.ref fMd)
  fCt : Addr
  fdCt : FuncData
  FCt : FnP K "count" sCount fCt fdCt
  gCt : mg "count" = some (.ref fCt)
  fSI : Addr
  fdSI : FuncData
  FSI : FunD K "__init__" "Strip.__init__" (defArgs sStripI) (defBody sStripI) (defScope sStripI) [] [] fSI fdSI
  mkS : Mk K top.CS fSI
  fRC : Addr
  fdRC : FuncData
  FRC : FnP K "require_cap" sReqCap fRC fdRC
  gRC : mg "require_cap" = some (.ref fRC)
theorem count_binds {f : Addr} {fd : FuncData} (F : FnP K "count" sCount f fd) : KBn K fd ["web", "n", "hues"] 2 ["hues"] (fun us ws => us ++ ws) (fun vs zs => vs ++ zs) := by
  obtain ⟨oc, od, dV, kV, doc, pm, an, cdv, ct, osl, rfl, lk, hcd, hdv, _⟩ := F.ex
  refine ⟨fun s us ws _ h1 h2 => ?_, fun r t => r.append t⟩
  rcases hdv with ⟨_, rfl⟩ | ⟨e, _⟩
  · match us, ws, h1, h2 with
    | [a, b], [c], _, _ => exact .of_eq rfl
  · exact absurd rfl e
/-! ### _law_caps_right -/
abbrev sCaps : Stmt := Hue.top 79
def spCaps (CR CP : Addr) : Sp := fun vs H Q _ => ∃ (p ra d : Addr) (n q r b : Nat) (row : List Pc), vs = [.ref p, .ref ra, .ref d, nV n, nV q] ∧ PurseAt H p b ∧ b ≤ 500000 ∧ RowAt CR CP (hide [p] H) ra r row ∧ RowOk r row ∧ TblAt (hide [p] H) d q r (btw q r row n) ∧ q ≤ 4 ∧ n ≤ 15 ∧
  ∀ H', Same (hide [p] H) H' → Q (.bl true) H'
abbrev nCaps : List Str := ["_law_purse_here", "_law_line", "_law_later", "_law_many", "_law_q", "_law_head", "_law_tail", "_law_begins", "_law_ends", "_law_total", "_law_one", "_law_end", "_law_two"]
theorem scCaps : FnScope nCaps ["_law_purse_here", "_law_line", "_law_later", "_law_many", "_law_q"] (defScope sCaps) := ⟨rfl, rfl, rfl, by decide +kernel, rfl, by decide +kernel, by decide +kernel⟩
theorem ok_caps {f : Addr} {fd : FuncData} (F : FnP K "_law_caps_right" sCaps f fd) (G : GCaps K mg) : FnOk P w K mg base CX0 9 f fd ["_law_purse_here", "_law_line", "_law_later", "_law_many", "_law_q"] (spCaps G.top.CR G.top.CP) := by
  have GC : FnOk P w K mg base CX0 8 G.fLC G.fdLC ["_law_purse_here", "_law_rim", "_law_most"] spLCap := (ok_lcap G.FLC G.lp).mono (by decide)
  have bC : Binds K G.fdLC ["_law_purse_here", "_law_rim", "_law_most"] [] := fn_binds G.FLC fun _ _ _ _ _ _ us hl => match us, hl with | [_, _, _], _ => rfl
  have GW : FnOk P w K mg base CX0 8 G.fCW G.fdCW ["_law_cap_here", "_law_q"] spCapWays := (ok_capWays G.FCW G.tu).mono (by decide)
  have bW : Binds K G.fdCW ["_law_cap_here", "_law_q"] [] := fn_binds G.FCW fun _ _ _ _ _ _ us hl => match us, hl with | [_, _], _ => rfl
  have GM : FnOk P w K mg base CX0 8 G.fMd G.fdMd ["_law_raw", "_law_is_piece"] (spMade G.md.CC G.md.CP) := (ok_made G.FMd G.md).mono (by decide)
  have bM : Binds K G.fdMd ["_law_raw", "_law_is_piece"] [] := fn_binds G.FMd fun _ _ _ _ _ _ us hl => match us, hl with | [_, _], _ => rfl
  have GN : FnOk P w K mg base CX0 8 G.fCt G.fdCt ["web", "n", "hues"] (spCount G.top.CS G.top.CG G.top.CC G.top.CR G.top.CP) := ok_count G.FCt G.top.toGTop
  have bN := count_binds G.FCt
  have GS : FnOk P w K mg base CX0 7 G.fSI G.fdSI nStripI (spStripI G.top.CS G.top.CC G.top.CR G.top.CP) := (ok_stripI G.FSI G.top.cls G.FRC G.gRC G.top.FRR G.top.gRR).mono (by decide)
  have bS : Binds K G.fdSI nStripI [] := FunD.bindsN G.FSI fun _ _ _ _ _ _ us hl => match us, hl with | [_, _, _, _], _ => rfl
  refine F.ok scCaps (fun vs H Q E h => ?_) (fun cdv A outer s H vs Q E hr h => ?_)
  · obtain ⟨p, ra, d, n, q, r, b, row, rfl, _⟩ := h
    rfl
  · obtain ⟨p, ra, d, n, q, r, b, row, rfl, hp, hb, hrow, ok, htb, hq, hn, hQ⟩ := h
    have hu := hu_of hr
    refine ⟨_, PSs.nox (pss_cons (ps_asg (pe_lc (own := [("_law_end", 11)]) (g := gName 11) (tt := tYes) (te := tCall spLCap [] E0 (tCons (tVar 0) (tCons (tFld K (tVar 1) "rim") (tCons (tOp (rI0 fun i j => .int (i + j)) (tFld K (tVar 1) "rim") (tC (.int 1))) tNil)))) rfl scCaps.nd (pi_range1 (by rfl) G.tu.range (pa_cons pe_int pa_nil)) (blkOk_by (N := nCaps) (sc := defScope sCaps) (by decide +kernel)) (fun _ _ _ _ _ => pg_name (i := 11) scCaps.nd rfl (.inl rfl)) (fun _ _ _ _ _ => pts_nil)
          (fun _ _ _ _ _ => pe_call GC hr (by rfl) G.gLC G.FLC.kp bC .nil pass0 (pa_cons (pv 0) (pa_cons (pe_fld (pv 1) rfl) (pa_cons (pe_op op_add (pe_fld (pv 1) rfl) pe_int) pa_nil))))) (pg_unl rfl (pgs_cons (pg_name (i := 5) scCaps.nd rfl (.inl rfl)) (pgs_cons (pg_name (i := 6) scCaps.nd rfl (.inl rfl)) pgs_nil))))
      (pss_cons (ps_asg (pe_tup (pa_cons (pe_call GW hr (by rfl) G.gCW G.FCW.kp bW .nil pass0 (pa_cons (pv 5) (pa_cons (pv 4) pa_nil))) (pa_cons (pe_call GW hr (by rfl) G.gCW G.FCW.kp bW .nil pass0 (pa_cons (pv 6) (pa_cons (pv 4) pa_nil))) pa_nil))) (pg_tup rfl (pgs_cons (pg_name (i := 7) scCaps.nd rfl (.inr rfl)) (pgs_cons (pg_name (i := 8) scCaps.nd rfl (.inr rfl)) pgs_nil))))
      (pss_cons (ps_set (i := 9) scCaps.nd rfl (.inl rfl) pe_int)
      (pss_cons (ps_lock (ps_for PassesOwn.never rfl (pi_keys (pv 7)) (pg_name (i := 10) scCaps.nd rfl (.inr rfl))
        (pss_one (ps_set (i := 9) scCaps.nd rfl (.inl rfl) (pe_op op_add (pv 9) (pe_callB (cr_sum rfl) (by rfl) G.top.sum (by decide +kernel) (pa_cons
          (pe_lock (pe_lc (own := [("_law_two", 12)]) (g := gName 12) (tt := tYes) (te := tOp (rI CMul fun i j => .int (i * j)) (tOp (rI CMul fun i j => .int (i * j)) (tDGet (tVar 7) (tVar 10)) (tDGet (tVar 2) (tOp rCatN (tVar 10) (tVar 12)))) (tDGet (tVar 8) (tVar 12))) rfl scCaps.nd (pi_keys (pv 8)) (blkOk_by (N := nCaps) (sc := defScope sCaps) (by decide +kernel)) (fun _ _ _ _ _ => pg_name (i := 12) scCaps.nd rfl (.inl rfl)) (fun _ _ _ _ _ => pts_nil)
            (fun _ _ _ _ _ => pe_op op_mul (pe_op op_mul (pe_dget hu (pv 7) (pv 10) (fun _ _ => rfl)) (pe_dget hu (pv 2) (pe_op op_catN (pv 10) (pv 12)) (fun _ _ => rfl))) (pe_dget hu (pv 8) (pv 12) (fun _ _ => rfl))))) pa_nil)))))))
      (pss_one (ps_ret (pe_cmpR op_eq (pe_callN GN hr (by rfl) G.gCt G.FCt.kp bN pass0 (pa_cons (pe_make G.mkS GS hr (by rfl) G.top.gSt bS .nil pass0 (pa_cons (pe_call GM hr (by rfl) G.gMd G.FMd.kp bM .nil pass0 (pa_cons (pv 5) (pa_cons pe_bl pa_nil))) (pa_cons (pv 1) (pa_cons (pe_call GM hr (by rfl) G.gMd G.FMd.kp bM .nil pass0 (pa_cons (pv 6) (pa_cons pe_bl pa_nil))) pa_nil)))) (pa_cons (pv 3) pa_nil)) (pk_cons (pv 4) pk_nil)) (pv 9) (nomark _)))))))), ?_⟩
    obtain ⟨xs0, hx0⟩ := hp.lst
    have B0 : Same (hide [p] H) H := hide_sub [p] H
    obtain ⟨dr, tr, vr, er, _⟩ := id hrow
    have hr2 := ok.r2
    have n2 : ((2 : Int)).toNat = 2 := rfl
    -- head, tail
    refine ⟨(2 : Int), rfl, by decide, by decide, fun D hD => lc_range (lo := 0) (n := (2 : Int).toNat)
      (fun k H' => Same (hide [p] H) H' ∧ PurseAt H' p (b + 300 * k) ∧ D ≠ p ∧ ∃ raws : List (Addr × Nat × List (Nat × Nat) × List (Nat × Nat)), raws.length = k ∧ H' D = some (.lst (raws.map fun z => V.ref z.1)) ∧ ∀ z ∈ raws, RawAt (hide [D] (hide [p] H')) z.1 r z.2.1 z.2.2.1 z.2.2.2 ∧ RawOk (r + z.2.1) z.2.2.1 z.2.2.2 ∧ z.2.1 ≤ 1) ?_ ?_ ?_⟩
    · have nDp : D ≠ p := fun z => by rw [z, hx0] at hD; cases hD
      exact ⟨B0.trans (same_new hD), hp.keep (same_new hD), nDp, [], rfl, upd_same, fun z hz => absurd hz (by simp)⟩
    · rintro k H1 hk ⟨s1, hp1, nDp, raws, hl, hD1, hall⟩
      have hk2 : k < 2 := hk
      have hDB : hide [p] H D = none := by rw [hide_out (by simpa using nDp)]; exact hD
      have er1 := s1 _ _ er
      refine ⟨rfl, _, rfl, _, rfl, ra, G.top.CR, dr, _, _, rfl, er1, G.top.rowC.c.cl, G.top.rowC.c.nR, rowF_rim tr r, _, rfl, ra, G.top.CR, dr, _, _, rfl, er1, G.top.rowC.c.cl, G.top.rowC.c.nR, rowF_rim tr r, _, _, rfl, rfl, p, r, b + 300 * k, rfl, hp1, ok.r1, ok.r2, by omega, fun H2 t i un sa s2 hp2 hraw okr hi => ?_⟩
      have hD2 : H2 D = some (.lst (raws.map fun z => V.ref z.1)) := s2 _ _ (by rw [hide_out (by simpa using nDp)]; exact hD1)
      have a2 := hide_again s2
      have hraw' : RawAt (hide [D] (hide [p] H2)) t r i un sa := by
        have hDp : hide [p] H2 D = some (.lst (raws.map fun z => V.ref z.1)) := by rw [hide_out (by simpa using nDp)]; exact hD2
        exact hraw.hid (show hide [p] H1 D = some (.lst (raws.map fun z => V.ref z.1)) by rw [hide_out (by simpa using nDp)]; exact hD1) hDp
      refine ⟨_, hD2, ?_, upd_keep (((hide_again s1).trans a2).trans (hide_sub _ _)) hDB, ?_, nDp, raws ++ [(t, i, un, sa)], by rw [List.length_append, hl]; rfl, ?_, fun z hz => ?_⟩
      · refine small ?_
        rw [List.length_map]; omega
      · obtain ⟨x, y, z, e, rest⟩ := hp2.mono (show b + 300 * k + 300 ≤ b + 300 * (k + 1) by omega)
        exact ⟨x, y, z, by rw [upd_ne nDp.symm]; exact e, rest⟩
      · rw [upd_same, List.map_append]
        rfl
      · have e : hide [D] (hide [p] (upd H2 D (.lst ((raws.map fun z => V.ref z.1) ++ [V.ref t])))) = hide [D] (hide [p] H2) := by
          funext c
          by_cases z1 : c ∈ [D]
          · rw [hide_in z1, hide_in z1]
          · rw [hide_out z1, hide_out z1]
            by_cases z2 : c ∈ [p]
            · rw [hide_in z2, hide_in z2]
            · rw [hide_out z2, hide_out z2, upd_ne (by simpa using z1)]
        rw [e]
        rcases List.mem_append.mp hz with hz | hz
        · obtain ⟨g1, g2⟩ := hall z hz
          exact ⟨g1.keep (hide_same [D] a2), g2⟩
        · rw [List.mem_singleton.mp hz]
          exact ⟨hraw', okr, hi⟩
    · rintro H1 ⟨s1, hp1, nDp, raws, hl, hD1, hall⟩
      obtain ⟨⟨t0, i0, un0, sa0⟩, ⟨t1, i1, un1, sa1⟩, rfl⟩ : ∃ z0 z1, raws = [z0, z1] := by
        match raws, hl with
        | [z0, z1], _ => exact ⟨z0, z1, rfl⟩
      obtain ⟨raw0, okr0, hi0⟩ := hall (t0, i0, un0, sa0) (by simp)
      obtain ⟨raw1, okr1, hi1⟩ := hall (t1, i1, un1, sa1) (by simp)
      have out1 : Same (hide [D] (hide [p] H1)) H1 := (hide_sub [D] _).trans (hide_sub [p] H1)
      have raw0 : RawAt H1 t0 r i0 un0 sa0 := raw0.keep out1
      have raw1 : RawAt H1 t1 r i1 un1 sa1 := raw1.keep out1
      refine ⟨D, _, rfl, SqL.of hD1, rfl, _, _, rfl, _, _, rfl, rfl, ?_⟩
      have hi0 : i0 ≤ 1 := hi0
      have hi1 : i1 ≤ 1 := hi1
      -- begins, ends
      refine ⟨_, rfl, _, rfl, t0, q, r, i0, un0, sa0, rfl, raw0, okr0, hq, by omega, fun H2 d1 W1 s2 hd1 hW1 cw1 => ?_⟩
      refine ⟨_, rfl, _, rfl, t1, q, r, i1, un1, sa1, rfl, raw1.keep s2, okr1, hq, by omega, fun H3 d2 W2 s3 hd2 hW2 cw2 => ?_⟩
      refine ⟨small' (n := 2) (by decide), fun tt htt => ?_⟩
      have s4 := same_new (o := .tup [.ref d1, .ref d2]) htt
      refine ⟨tt, _, rfl, SqT.of upd_same, rfl, _, _, rfl, _, _, rfl, rfl, ?_⟩
      have s14 := s2.trans (s3.trans s4)
      have hW1' := (s3.trans s4) _ _ hW1
      have hW2' := s4 _ _ hW2
      have n12 : d1 ≠ d2 := fun z => by rw [← z, hW1] at hd2; cases hd2
      obtain ⟨kvT, hT0, lT, hTv⟩ := htb
      have hT1 : H1 d = some (.dT kvT) := s1 _ _ hT0
      have nd1 : d ≠ d1 := fun z => by rw [← z, hT1] at hd1; cases hd1
      have nd2 : d ≠ d2 := fun z => by rw [← z, s2 _ _ hT1] at hd2; cases hd2
      revert s14 hW1' hW2'
      generalize upd H3 tt (.tup [.ref d1, .ref d2]) = H4
      intro s14 hW1' hW2'
      have hT4 := s14 _ _ hT1
      -- total
      refine ⟨d1, .dT (ckvs W1), hW1', trivial, fun od => ?_⟩
      have wl1 : (ckvs W1).length = W1.length := by unfold ckvs; rw [List.length_map]
      have wl2 : (ckvs W2).length = W2.length := by unfold ckvs; rw [List.length_map]
      refine ⟨_, rfl, d1, od, rfl, .inr ⟨ckvs W1, upd_same, for_any (n := (ckvs W1).length)
        (fun j σ H' => Same (hide [d1] H4) H' ∧ H' d1 = some (.frz od (.dT (ckvs W1))) ∧ ∃ v10, σ = [some (.ref p), some (.ref ra), some (.ref d), some (nV n), some (nV q), some (.ref t0), some (.ref t1), some (.ref d1), some (.ref d2), some (.int (S (W1.take j) fun x => S W2 fun y => ((x.2 : Int) * btw q r row n x.1 y.1) * (y.2 : Int))), v10, none, none])
        ⟨lock_same, upd_same, _, rfl⟩ (fun j σ H' hj h => ⟨h.2.1, hj⟩) (fun σ H' h => ⟨h.2.1, Nat.le_refl _⟩) ?_ ?_⟩⟩
      · rintro j y σ H5 H5' hj ⟨s5, hl1, v10, rfl⟩ ⟨rfl, k, v, qa, hkv, rfl, hqa⟩
        obtain ⟨x, hx, rfl, rfl⟩ := ckvs_get hkv
        obtain ⟨xt, xs⟩ := cw1.mem x (List.mem_of_getElem? hx)
        have hqaN : TupN H5' qa x.1 := tup_kL hqa
        have h5d2 : H5' d2 = some (.dT (ckvs W2)) := s5 _ _ (by rw [hide_out (by simpa using n12.symm)]; exact hW2')
        have h5d : H5' d = some (.dT kvT) := s5 _ _ (by rw [hide_out (by simpa using nd1)]; exact hT4)
        refine ⟨_, rfl, d2, .dT (ckvs W2), h5d2, trivial, fun od2 => ⟨_, rfl, d2, od2, rfl, .inr ⟨ckvs W2, upd_same, fun E hE => ?_⟩⟩⟩
        have nE : d2 ≠ E := fun z => by rw [← z, upd_same] at hE; cases hE
        have hE5 : H5' E = none := by rw [upd_ne nE.symm] at hE; exact hE
        have hEB : hide [d2] H5' E = none := by rw [hide_out (by simpa using nE.symm)]; exact hE5
        refine lc_any (n := (ckvs W2).length)
          (fun i H' => Same (hide [d2] H5') H' ∧ H' d2 = some (.frz od2 (.dT (ckvs W2))) ∧ H' E = some (.lst ((W2.take i).map fun y => V.int (((x.2 : Int) * btw q r row n x.1 y.1) * (y.2 : Int)))))
          ⟨upd_keep lock_same hEB, by rw [upd_ne nE]; exact upd_same, upd_same⟩ (fun i H' hi h => ⟨h.2.1, hi⟩) (fun H' h => ⟨h.2.1, Nat.le_refl _⟩) ?_ ?_
        · rintro i y H6 H6' hi ⟨s6, hl2, hE6⟩ ⟨rfl, k2, v2, qb, hkv2, rfl, hqb⟩
          obtain ⟨y, hy, rfl, rfl⟩ := ckvs_get hkv2
          obtain ⟨yt, ys⟩ := cw2.mem y (List.mem_of_getElem? hy)
          have ok6 : ∀ {c : Addr} {o : HO}, c ≠ d2 → H5' c = some o → H6' c = some o := fun nc e => s6 _ _ (by rw [hide_out (by simpa using nc)]; exact e)
          have nqa : qa ≠ d2 := fun z => by rw [TupN, z, h5d2] at hqaN; cases hqaN
          have hqa6 : TupN H6' qa x.1 := ok6 nqa hqaN
          have hqb6 : TupN H6' qb y.1 := tup_kL hqb
          obtain ⟨lx, _⟩ := mem_tuples.mp xt
          obtain ⟨ly, _⟩ := mem_tuples.mp yt
          refine ⟨rfl, _, rfl, _, rfl, d1, nV x.2, rfl, .inr ⟨ckvs W1, kL x.1, qa, .inr ⟨od, ok6 n12 hl1⟩, rfl, kL_tup hqa6, (ckvs_at cw1.nd (List.mem_of_getElem? hx)).symm⟩, ?_⟩
          refine ⟨_, rfl, _, rfl, _, rfl, qa, qb, _, _, rfl, rfl, hqa6, hqb6, small' (by rw [List.length_map, List.length_map]; omega), fun pp H7 s7 _ hpp => ?_⟩
          have hppN : TupN H7 pp (x.1 ++ y.1) := by
            show H7 pp = _
            rw [hpp, List.map_append]
          refine ⟨d, .int (btw q r row n x.1 y.1), rfl, .inr ⟨kvT, kL (x.1 ++ y.1), pp, .inl (s7 _ _ (ok6 nd2 h5d)), rfl, kL_tup hppN, (hTv x.1 xt y.1 yt).symm⟩, _, _, rfl, rfl, .inl ⟨by omega, by omega⟩, ?_⟩
          refine ⟨_, rfl, _, rfl, d2, nV y.2, rfl, .inr ⟨ckvs W2, kL y.1, qb, .inr ⟨od2, s7 _ _ hl2⟩, rfl, kL_tup (hqb6.keep s7), (ckvs_at cw2.nd (List.mem_of_getElem? hy)).symm⟩, _, _, rfl, rfl, .inr ⟨by omega, by omega⟩, _, s7 _ _ hE6, ?_, upd_keep (s6.trans s7) hEB, ?_, ?_⟩
          · refine small ?_
            rw [List.length_map, List.length_take]
            have := cw2.len
            omega
          · rw [upd_ne nE]
            exact s7 _ _ hl2
          · rw [upd_same, take_snoc hy, List.map_append]
            rfl
        · rintro H6 ⟨s6, hl2, hE6⟩
          rw [wl2, List.take_length] at hE6
          refine ⟨hl2, E, W2.map (fun y => ((x.2 : Int) * btw q r row n x.1 y.1) * (y.2 : Int)), rfl, SqL.of ?_, ?_⟩
          · rw [upd_ne nE.symm, hE6, List.map_map]
            rfl
          have s56 : Same H5' (upd H6 d2 (.dT (ckvs W2))) := same_unlock h5d2 s6
          refine ⟨_, _, rfl, rfl, s5.trans s56, s56 _ _ hl1, some (.ref qa), ?_⟩
          rw [take_snoc hx, S_append, S_single]
          rfl
      · rintro σ H5 ⟨s5, hl1, v10, rfl⟩
        rw [wl1, List.take_length]
        refine ⟨hl1, ?_⟩
        have s45 : Same H4 (upd H5 d1 (.dT (ckvs W1))) := same_unlock hW1' s5
        revert s45
        generalize upd H5 d1 (.dT (ckvs W1)) = H6
        intro s45
        have s16 := s14.trans s45
        refine ⟨_, rfl, t0, r, i0, un0, sa0, raw0.keep s16, ok.r1, ok.r2, .inr ⟨rfl, okr0, by omega, fun H8 ph hd s8 okh ei kh hpart => ?_⟩⟩
        refine ⟨_, rfl, _, rfl, t1, r, i1, un1, sa1, (raw1.keep s16).keep s8, ok.r1, ok.r2, .inr ⟨rfl, okr1, by omega, fun H9 pt tl s9 okt et kt hpart2 => ?_⟩⟩
        intro x dx hx hdx hne
        have s10 := make_same (C := G.top.CS) hx hdx
        rw [G.eC] at hpart hpart2
        have s19 := s16.trans (s8.trans s9)
        have sAll : Same (hide [p] H) H9 := s1.trans s19
        refine ⟨x, dx, ph, ra, pt, r, row, hd, tl, rfl, upd_same, (hpart.keep s9).keep s10, (hrow.keep sAll).keep s10, hpart2.keep s10, fun H10 s11 hstrip => ⟨rfl, ?_⟩⟩
        refine ⟨_, rfl, _, rfl, rfl, rfl, x, r, n, q, row, rfl, ok, by omega, hn, .inl ⟨hd, tl, hstrip, okh, okt, fun H11 s12 => ?_⟩⟩
        have tot : (S W1 fun x => S W2 fun y => ((x.2 : Int) * btw q r row n x.1 y.1) * (y.2 : Int)) = strip q r row n hd tl := by
          subst ei et
          exact strip_total cw1 cw2 kh kt
        refine ⟨_, rfl, rfl, ?_⟩
        have e : decide (V.int (strip q r row n hd tl) = V.int (S W1 fun x => S W2 fun y => ((x.2 : Int) * btw q r row n x.1 y.1) * (y.2 : Int))) = true := decide_eq_true (by rw [tot])
        show Q (.bl (decide (V.int (strip q r row n hd tl) = V.int (S W1 fun x => S W2 fun y => ((x.2 : Int) * btw q r row n x.1 y.1) * (y.2 : Int))))) _
        rw [e]
        exact hQ _ (sAll.trans (s10.trans (s11.trans s12)))
end
end Hue

set_option maxHeartbeats 4000000
namespace Hue
open PySem PySem.W PyProof.Rows L2
abbrev Raw := Nat × List (Nat × Nat) × List (Nat × Nat)
def RRaw (r : Nat) (H : Hp) (z : Raw) (v : V) : Prop := ∃ t, v = .ref t ∧ RawAt H t r z.1 z.2.1 z.2.2
theorem RRaw.keep {r : Nat} {H H' : Hp} {z : Raw} {v : V} (k : Same H H') (h : RRaw r H z v) : RRaw r H' z v := by
  obtain ⟨t, e, h⟩ := h
  exact ⟨t, e, h.keep k⟩
def RawsOk (r : Nat) (l : List Raw) : Prop := ∀ z ∈ l, RawOk (2 * r + z.1) z.2.1 z.2.2 ∧ 2 * r + z.1 ≤ 5
/-- a table while it grows: done tells which pairs are in it -/
def TabP (q r : Nat) (F : List Nat → List Nat → Int) (done : List Nat → List Nat → Prop) (kvs : List (List Key × V)) : Prop := ∀ x ∈ tuples q r, ∀ y ∈ tuples q r, done x y → valV kvs (kL (x ++ y)) = some (.int (F x y))
theorem putK_len {κ : Type} [DecidableEq κ] (kvs : List (κ × V)) (k : κ) (v : V) : (putK kvs k v).length ≤ kvs.length + 1 := by
  unfold putK
  split
  · rw [List.length_map]; omega
  · rw [List.length_append]; simp
theorem TabP.put {q r : Nat} {F : List Nat → List Nat → Int} {done done' : List Nat → List Nat → Prop} {kvs : List (List Key × V)} (h : TabP q r F done kvs) {x y : List Nat} (hx : x ∈ tuples q r) (hy : y ∈ tuples q r) (hd : ∀ a b, done' a b → done a b ∨ (a = x ∧ b = y)) :
    TabP q r F done' (putK kvs (kL (x ++ y)) (.int (F x y))) := by
  intro a ha b hb hab
  rw [valV_put]
  by_cases e : kL (a ++ b) = kL (x ++ y)
  · rw [if_pos e]
    obtain ⟨la, _⟩ := mem_tuples.mp ha
    obtain ⟨lx, _⟩ := mem_tuples.mp hx
    obtain ⟨rfl, rfl⟩ := List.append_inj (kL_inj.mp e) (by omega)
    rfl
  · rw [if_neg e]
    rcases hd a b hab with h1 | ⟨rfl, rfl⟩
    · exact h a ha b hb h1
    · exact absurd rfl e
/-- the pairs that are done when i whole rows and j more are -/
def Done (R : List (List Nat)) (i j : Nat) (x y : List Nat) : Prop := (∃ a, a < i ∧ R[a]? = some x) ∨ (R[i]? = some x ∧ ∃ b, b < j ∧ R[b]? = some y)
theorem Done.step {R : List (List Nat)} {i j : Nat} {x y : List Nat} (hx : R[i]? = some x) (hy : R[j]? = some y) : ∀ a b, Done R i (j + 1) a b → Done R i j a b ∨ (a = x ∧ b = y) := by
  rintro a b (⟨k, h1, h2⟩ | ⟨h1, k, h2, h3⟩)
  · exact .inl (.inl ⟨k, h1, h2⟩)
  · by_cases e : k = j
    · subst e
      rw [hx] at h1
      rw [hy] at h3
      cases h1
      cases h3
      exact .inr ⟨rfl, rfl⟩
    · exact .inl (.inr ⟨h1, k, by omega, h3⟩)
theorem Done.row {R : List (List Nat)} {i : Nat} : ∀ a b, b ∈ R → Done R (i + 1) 0 a b → Done R i R.length a b := by
  rintro a b hb (⟨k, h1, h2⟩ | ⟨h1, k, h2, h3⟩)
  · by_cases e : k = i
    · subst e
      obtain ⟨j, hj⟩ := List.getElem?_of_mem hb
      exact .inr ⟨h2, j, (List.getElem?_eq_some_iff.mp hj).1, hj⟩
    · exact .inl ⟨k, by omega, h2⟩
  · omega
theorem Done.all {R : List (List Nat)} {a b : List Nat} (h : a ∈ R) : Done R R.length 0 a b := by
  obtain ⟨j, hj⟩ := List.getElem?_of_mem h
  exact .inl ⟨j, (List.getElem?_eq_some_iff.mp hj).1, hj⟩
theorem Done.none {R : List (List Nat)} {a b : List Nat} : ¬ Done R 0 0 a b := by
  rintro (⟨k, h1, h2⟩ | ⟨h1, k, h2, h3⟩) <;> omega
theorem same_free {H H' : Hp} {Z : List Addr} {a : Addr} (hZ : a ∉ Z) (h : Same (hide Z H) H') (hn : H' a = none) : H a = none := by
  have := h.free hn
  rwa [hide_out hZ] at this
section
variable {P : Program} {w : World} {K : PySem.W.Frag} {mg : Str → Option Value} {base : Heap}
structure GRight (K : PySem.W.Frag) (mg : Str → Option Value) extends GCaps K mg where
  fLP : Addr
  fdLP : FuncData
  FLP : FnP K "_law_piece" sLPiece fLP fdLP
  gLP : mg "_law_piece" = some (.ref fLP)
  fBa : Addr
  fdBa : FuncData
  FBa : FnP K "_law_bare" sBare fBa fdBa
  gBa : mg "_law_bare" = some (.ref fBa)
  fIn : Addr
  fdIn : FuncData
  FIn : FnP K "_law_inside" sInside fIn fdIn
  gIn : mg "_law_inside" = some (.ref fIn)
  fRo : Addr
  fdRo : FuncData
  FRo : FunD K "__init__" "Row.__init__" (defArgs sRowInit) (defBody sRowInit) (defScope sRowInit) [] [] fRo fdRo
  mkR : Mk K top.CR fRo
  fRg : Addr
  fdRg : FuncData
  FRg : FunD K "__init__" "Ring.__init__" (defArgs sRingI) (defBody sRingI) (defScope sRingI) [] [] fRg fdRg
  mkG : Mk K top.CG fRg
  fBt : Addr
  fdBt : FuncData
  FBt : FnP K "between" sBtw fBt fdBt
  gBt : mg "between" = some (.ref fBt)
  fCR : Addr
  fdCR : FuncData
  FCR : FnP K "_law_caps_right" sCaps fCR fdCR
  gCR : mg "_law_caps_right" = some (.ref fCR)
theorem btw_binds {f : Addr} {fd : FuncData} (F : FnP K "between" sBtw f fd) : KBn K fd nBtw 4 ["hues"] (fun us ws => us ++ ws) (fun vs zs => vs ++ zs) := by
  obtain ⟨oc, od, dV, kV, doc, pm, an, cdv, ct, osl, rfl, lk, hcd, hdv, _⟩ := F.ex
  refine ⟨fun s us ws _ h1 h2 => ?_, fun r t => r.append t⟩
  rcases hdv with ⟨_, rfl⟩ | ⟨e, _⟩
  · match us, ws, h1, h2 with
    | [a, b, c, d], [e], _, _ => exact .of_eq rfl
  · exact absurd rfl e
/-! ### _law_right -/
abbrev sRight : Stmt := Hue.top 78
def spRight : Sp := fun vs H Q _ => ∃ (p : Addr), vs = [.ref p] ∧ PurseAt H p 10000 ∧ ∀ H', Same (hide [p] H) H' → Q (.bl true) H'
abbrev nRight : List Str := ["_law_purse_here", "_law_rim", "_law_q", "_law_raws", "_law_line", "_law_first", "_law_second", "_law_rims", "_law_ways", "_law_later", "_law_joined", "_law_one", "_law_two", "_law_total", "_law_middle", "_law_closed", "_law_k", "_law_piece_here"]
theorem scRight : FnScope nRight ["_law_purse_here"] (defScope sRight) := ⟨rfl, rfl, rfl, by decide +kernel, rfl, by decide +kernel, by decide +kernel⟩
def RawsL (r : Nat) (H : Hp) (D : Addr) (l : List Raw) : Prop := ∃ vs, H D = some (.lst vs) ∧ Paired (RRaw r H) l vs
theorem RawsL.keep {r : Nat} {H H' : Hp} {D : Addr} {l : List Raw} (k : Same H H') (h : RawsL r H D l) : RawsL r H' D l := by
  obtain ⟨vs, a, b⟩ := h
  exact ⟨vs, k _ _ a, pd_imp b fun _ _ r => r.keep k⟩
theorem ps_imp {X : Cx} {st : Stmt} {t t' : TS} (h : PS X st t) (i : ∀ D σ H, t' D σ H → t D σ H) : PS X st t' := ⟨fun pins s σ H D I q => h.run pins s σ H D I (i D σ H q)⟩
abbrev sig18 (a b c d : Option V) : L2.St := [a, b, c, d, none, none, none, none, none, none, none, none, none, none, none, none, none, none]
def bareR (r : Nat) (z : Raw) : Raw := (0, ins (2 * r) z.2.1, ins (2 * r) z.2.2)
theorem bare_ok {r : Nat} {l : List Raw} (h : RawsOk r l) (hr : r ≤ 2) : RawsOk r (l.map (bareR r)) := by
  intro z hz
  obtain ⟨y, hy, rfl⟩ := List.mem_map.mp hz
  obtain ⟨h1, h2⟩ := h y hy
  have below : ∀ (m : Nat) (u : List (Nat × Nat)), Below m u → Below (2 * r + 0) (ins (2 * r) u) := fun m u hb x hx => by
    have hx' := List.mem_filter.mp hx
    have h3 := of_decide_eq_true hx'.2
    exact ⟨by omega, by omega, (hb x hx'.1).2.2⟩
  refine ⟨⟨?_, ?_, below _ _ h1.bu, below _ _ h1.bs⟩, by show 2 * r + 0 ≤ 5; omega⟩
  · exact Nat.le_trans (List.length_filter_le _ _) h1.lu
  · exact Nat.le_trans (List.length_filter_le _ _) h1.ls
/-- if the purse says so, the pieces are bared -/
def tBareS : TS := fun D σ H => ∃ (p Dl : Addr) (b r : Nat) (l : List Raw) (v1 v2 : Option V), σ = sig18 (some (.ref p)) v1 v2 (some (.ref Dl)) ∧ PurseAt H p b ∧ b ≤ 1000000 ∧ RawsL r (hide [p] H) Dl l ∧ RawsOk r l ∧ r ≤ 2 ∧ l.length ≤ 10 ∧
  ∀ H' D' l', Same (hide [p] H) (hide [p] H') → PurseAt H' p (b + 1) → RawsL r (hide [p] H') D' l' → RawsOk r l' → l'.length = l.length → D.nx (sig18 (some (.ref p)) v1 v2 (some (.ref D'))) H'
theorem ps_bareS {f : Addr} (G : GRight K mg) {cdv : Value} {A : Around} {outer : List Env} {s : Shared} {H0 : Hp} {E : XK} (hr : Room 9 (cxOf CX0 P w K mg base nRight "_law_right" (defScope sRight) f cdv A outer s H0 E).nox.A) :
    PS (cxOf CX0 P w K mg base nRight "_law_right" (defScope sRight) f cdv A outer s H0 E).nox ((defBody sRight).getD 3 (.Pass ⟨0, 0, 0, 0⟩)) tBareS := by
  have GD : FnOk P w K mg base CX0 9 G.lp.fD G.lp.fdD ["_law_purse_here", "_law_out_of"] spDraw := (ok_draw G.lp.FD G.lp.FM G.lp.gM G.lp.int).mono (by decide)
  have bD : Binds K G.lp.fdD ["_law_purse_here", "_law_out_of"] [] := fn_binds G.lp.FD fun _ _ _ _ _ _ us hl => match us, hl with | [_, _], _ => rfl
  have GBa : FnOk P w K mg base CX0 9 G.fBa G.fdBa ["_law_piece_here"] spBare := (ok_bare G.FBa G.FIn G.gIn).mono (by decide)
  have bBa : Binds K G.fdBa ["_law_piece_here"] [] := fn_binds G.FBa fun _ _ _ _ _ _ us hl => match us, hl with | [_], _ => rfl
  refine ps_imp (ps_if (pt_cmpR op_eq (pe_call GD hr (by rfl) G.lp.gD G.lp.FD.kp bD .nil pass0 (pa_cons (pv 0) (pa_cons pe_int pa_nil))) pe_int (nomark _))
          (pss_one (ps_setLc (i := 3) (own := [("_law_piece_here", 17)]) (g := gName 17) (tt := tYes) (te := tCall spBare [] E0 (tCons (tVar 17) tNil)) rfl scRight.nd rfl rfl (sw_true rfl rfl rfl (by decide +kernel)) (pi_list (pv 3)) (blkOk_by (N := nRight) (sc := defScope sRight) (by decide +kernel)) (fun _ _ _ _ _ => pg_name (i := 17) scRight.nd rfl (.inl rfl)) (fun _ _ _ _ _ => pts_nil)
            (fun _ _ _ _ _ => pe_call GBa hr (by rfl) G.gBa G.FBa.kp bBa .nil pass0 (pa_cons (pv 17) pa_nil)))) pss_nil) ?_
  rintro D σ H ⟨p, Dl, b, r, l, v1, v2, rfl, hp, hb, hraws, okr, hr2, hlen, hQ⟩
  refine ⟨_, rfl, p, 2, b, rfl, hp, by decide, by decide, by omega, fun H1 k hk s1 hp1 => ⟨rfl, _, rfl, ?_⟩⟩
  have a1 := hide_again s1
  obtain ⟨ws, hws, pws⟩ := hraws.keep a1
  obtain ⟨xs1, hx1⟩ := hp1.lst
  have hwl : ws.length = l.length := (pd_len pws).symm
  refine ite2 (fun _ => ?_) fun _ => ?_
  · have hws1 := hide_sub [p] H1 _ _ hws
    refine ⟨_, rfl, Dl, rfl, ⟨_, SqL.of hws1⟩, fun E1 hE => lc_list (K := K) (a := Dl) (xs := ws) (fun i H' => Same H1 H' ∧ ∃ vs, H' E1 = some (.lst vs) ∧ Paired (RRaw r (hide [E1] (hide [p] H'))) ((l.map (bareR r)).take i) vs) ⟨same_new hE, [], upd_same, .nil⟩ (fun i H' _ h => SqL.of (h.1 _ _ hws1)) ?_ ?_⟩
    · rintro i y H2 hi ⟨s2, vs, hvs, pvs⟩
      obtain ⟨z, hz, t, rfl, hraw⟩ := pd_get pws hi
      obtain ⟨o1, o2⟩ := okr z (List.mem_of_getElem? hz)
      have hil : i < l.length := (List.getElem?_eq_some_iff.mp hz).1
      refine ⟨rfl, _, rfl, t, r, z.1, z.2.1, z.2.2, rfl, (hraw.keep (hide_sub [p] H1)).keep s2, by have := o1.lu; omega, by have := o1.ls; omega, by omega, fun H3 t' s3 hnew => ?_⟩
      have nEp : E1 ≠ p := fun z => by rw [z, hx1] at hE; cases hE
      have hE3 := s3 _ _ hvs
      have hx2 := s2 _ _ hx1
      have hx3 := s3 _ _ hx2
      have h1 := hnew.hidN hx2 hx3
      have h2 := h1.hid hvs (show hide [p] H3 E1 = some (.lst vs) by rw [hide_out (by simpa using nEp)]; exact hE3)
      refine ⟨vs, hE3, ?_, upd_keep (s2.trans s3) hE, _, upd_same, ?_⟩
      · refine small ?_
        rw [← pd_len pvs, List.length_take, List.length_map]; omega
      · have e : hide [E1] (hide [p] (upd H3 E1 (.lst (vs ++ [.ref t'])))) = hide [E1] (hide [p] H3) := by
          funext c
          by_cases z1 : c ∈ [E1]
          · rw [hide_in z1, hide_in z1]
          · rw [hide_out z1, hide_out z1]
            by_cases z2 : c ∈ [p]
            · rw [hide_in z2, hide_in z2]
            · rw [hide_out z2, hide_out z2, upd_ne (by simpa using z1)]
        rw [e, take_snoc (show (l.map (bareR r))[i]? = some (bareR r z) by rw [List.getElem?_map, hz]; rfl)]
        exact pd_snoc (pd_imp pvs fun _ _ g => g.keep (hide_same [E1] (hide_same [p] s3))) ⟨t', rfl, h2⟩
    · rintro H2 ⟨s2, vs, hvs, pvs⟩
      have nEp : E1 ≠ p := fun z => by rw [z, hx1] at hE; cases hE
      rw [List.take_of_length_le (by rw [List.length_map]; omega)] at pvs
      exact hQ H2 E1 _ (a1.trans (hide_same [p] s2)) (hp1.keep s2) ⟨vs, by rw [hide_out (by simpa using nEp)]; exact hvs, pd_imp pvs fun _ _ g => g.keep (hide_sub _ _)⟩ (bare_ok okr hr2) (by rw [List.length_map])
  · exact hQ H1 Dl l a1 hp1 ⟨ws, hws, pws⟩ okr rfl
end
end Hue

set_option maxHeartbeats 4000000
namespace Hue
open PySem PySem.W PyProof.Rows L2
theorem hidZ {H : Hp} {Z : List Addr} {b : Addr} {o : HO} (hZ : ∀ z ∈ Z, ∃ kvs : List (List Key × V), H z = some (.dT kvs)) (hb : H b = some o) (no : ∀ kvs : List (List Key × V), o ≠ .dT kvs) : hide Z H b = some o := by
  rw [hide_out]
  · exact hb
  · intro z
    obtain ⟨kvs, e⟩ := hZ b z
    rw [hb] at e
    exact no kvs (Option.some.inj e)
theorem TupsAt.hidZ {H : Hp} {Z : List Addr} {D : Addr} {l : List (List Nat)} (hZ : ∀ z ∈ Z, ∃ kvs : List (List Key × V), H z = some (.dT kvs)) (h : TupsAt H D l) : TupsAt (hide Z H) D l := by
  obtain ⟨vs, h1, h2⟩ := h
  refine ⟨vs, Hue.hidZ hZ h1 (fun _ z => nomatch z), pd_imp h2 fun x v r => ?_⟩
  obtain ⟨a, e, h⟩ := r
  exact ⟨a, e, Hue.hidZ hZ h fun _ z => nomatch z⟩
theorem PairsT.hidZ {H : Hp} {Z : List Addr} {D : Addr} {l : List (Nat × Nat)} (hZ : ∀ z ∈ Z, ∃ kvs : List (List Key × V), H z = some (.dT kvs)) (h : PairsT H D l) : PairsT (hide Z H) D l := by
  obtain ⟨vs, h1, h2⟩ := h
  refine ⟨vs, Hue.hidZ hZ h1 (fun _ z => nomatch z), pd_imp h2 fun x v r => ?_⟩
  obtain ⟨a, e, h⟩ := r
  exact ⟨a, e, Hue.hidZ hZ h fun _ z => nomatch z⟩
theorem RowAt.hidZ {CR CP : Addr} {H : Hp} {Z : List Addr} {a r : Nat} {row : List Pc} (hZ : ∀ z ∈ Z, ∃ kvs : List (List Key × V), H z = some (.dT kvs)) (h : RowAt CR CP H a r row) : RowAt CR CP (hide Z H) a r row := by
  obtain ⟨dx, t, vs, h1, h2, h3⟩ := h
  refine ⟨dx, t, vs, Hue.hidZ hZ h1 (fun _ z => nomatch z), Hue.hidZ hZ h2 (fun _ z => nomatch z), pd_imp h3 fun x v g => ?_⟩
  obtain ⟨b, e, dx, tu, ts, g1, g2, g3⟩ := g
  exact ⟨b, e, dx, tu, ts, Hue.hidZ hZ g1 (fun _ z => nomatch z), g2.hidZ hZ, g3.hidZ hZ⟩
def TabU (H : Hp) (d : Addr) (q r : Nat) (F : List Nat → List Nat → Int) (done : List Nat → List Nat → Prop) (m : Nat) : Prop := ∃ kvs : List (List Key × V), H d = some (.dT kvs) ∧ kvs.length ≤ m ∧ TabP q r F done kvs ∧ ∀ x ∈ tuples q r, ∀ y ∈ tuples q r, done x y → (F x y).natAbs < 2 ^ 200000
theorem TabU.keep {H H' : Hp} {d : Addr} {q r : Nat} {F : List Nat → List Nat → Int} {done : List Nat → List Nat → Prop} {m : Nat} (h : TabU H d q r F done m) (k : ∀ o, H d = some o → H' d = some o) : TabU H' d q r F done m := by
  obtain ⟨kvs, a, b⟩ := h
  exact ⟨kvs, k _ a, b⟩
theorem TabU.imp {H : Hp} {d : Addr} {q r : Nat} {F : List Nat → List Nat → Int} {done done' : List Nat → List Nat → Prop} {m m' : Nat} (h : TabU H d q r F done m) (k : ∀ x ∈ tuples q r, ∀ y ∈ tuples q r, done' x y → done x y) (hm : m ≤ m') : TabU H d q r F done' m' := by
  obtain ⟨kvs, a, b, c, d⟩ := h
  exact ⟨kvs, a, by omega, fun x hx y hy z => c x hx y hy (k x hx y hy z), fun x hx y hy z => d x hx y hy (k x hx y hy z)⟩
theorem TabU.put {H' : Hp} {d : Addr} {q r : Nat} {F : List Nat → List Nat → Int} {done done' : List Nat → List Nat → Prop} {m : Nat} {kvs : List (List Key × V)} {x y : List Nat} (hl : kvs.length ≤ m) (hT : TabP q r F done kvs) (hB : ∀ x ∈ tuples q r, ∀ y ∈ tuples q r, done x y → (F x y).natAbs < 2 ^ 200000)
    (hx : x ∈ tuples q r) (hy : y ∈ tuples q r) (hb : (F x y).natAbs < 2 ^ 200000) (hd : ∀ a b, done' a b → done a b ∨ (a = x ∧ b = y)) (e : H' d = some (.dT (putK kvs (kL (x ++ y)) (.int (F x y))))) : TabU H' d q r F done' (m + 1) := by
  refine ⟨_, e, ?_, hT.put hx hy hd, fun a ha b hb' h => ?_⟩
  · have := putK_len kvs (kL (x ++ y)) (V.int (F x y))
    omega
  · rcases hd a b h with h | ⟨rfl, rfl⟩
    · exact hB a ha b hb' h
    · exact hb
theorem TabU.at_ {H : Hp} {d : Addr} {q r : Nat} {F : List Nat → List Nat → Int} {done : List Nat → List Nat → Prop} {m : Nat} (h : TabU H d q r F done m) (k : ∀ x ∈ tuples q r, ∀ y ∈ tuples q r, done x y) (hm : m ≤ 10000) : TblAt H d q r F := by
  obtain ⟨kvs, a, b, c, _⟩ := h
  exact ⟨kvs, a, by omega, fun x hx y hy => c x hx y hy (k x hx y hy)⟩
section
variable {P : Program} {w : World} {K : PySem.W.Frag} {mg : Str → Option Value} {base : Heap}
abbrev sigT (p : Addr) (r q : Nat) (v3 : Option V) (ra : Addr) (n1 n2 : Nat) (rs d8 d9 d10 : Addr) (v11 v12 v13 v14 : Option V) : L2.St := [some (.ref p), some (nV r), some (nV q), v3, some (.ref ra), some (nV n1), some (nV n2), some (.ref rs), some (.ref d8), some (.ref d9), some (.ref d10), v11, v12, v13, v14, none, none, none]
/-- the three tables -/
def tTabS (CR CP : Addr) : TS := fun D σ H => ∃ (p ra rs d8 d9 d10 : Addr) (r q n1 n2 : Nat) (row : List Pc) (v3 : Option V), σ = sigT p r q v3 ra n1 n2 rs d8 d9 d10 none none none none ∧ RowAt CR CP H ra r row ∧ RowOk r row ∧ TupsAt H rs (tuples q r) ∧ q ≤ 4 ∧ n1 + n2 ≤ 15 ∧
  H d8 = some (.dT []) ∧ H d9 = some (.dT []) ∧ H d10 = some (.dT []) ∧ d8 ≠ d9 ∧ d8 ≠ d10 ∧ d9 ≠ d10 ∧
  ∀ H' v11 v12, Same (hide [d8, d9, d10] H) H' → TblAt H' d8 q r (btw q r row n1) → TblAt H' d9 q r (btw q r row n2) → TblAt H' d10 q r (btw q r row (n1 + n2)) →
    (∀ x ∈ tuples q r, ∀ y ∈ tuples q r, (btw q r row n1 x y).natAbs < 2 ^ 200000 ∧ (btw q r row n2 x y).natAbs < 2 ^ 200000) → D.nx (sigT p r q v3 ra n1 n2 rs d8 d9 d10 v11 v12 none none) H'
theorem ps_tabS {f : Addr} (G : GRight K mg) {cdv : Value} {A : Around} {outer : List Env} {s : Shared} {H0 : Hp} {E : XK} (hr : Room 9 (cxOf CX0 P w K mg base nRight "_law_right" (defScope sRight) f cdv A outer s H0 E).nox.A) :
    PS (cxOf CX0 P w K mg base nRight "_law_right" (defScope sRight) f cdv A outer s H0 E).nox ((defBody sRight).getD 8 (.Pass ⟨0, 0, 0, 0⟩)) (tTabS G.top.CR G.top.CP) := by
  have GB : FnOk P w K mg base CX0 9 G.fBt G.fdBt nBtw (spBtw G.top.CR G.top.CP) := (ok_btw G.FBt G.top).mono (by decide)
  have bB := btw_binds G.FBt
  have hu := hu_of hr
  refine ps_imp (ps_for PassesOwn.never rfl (pi_list (pv 7)) (pg_name (i := 11) scRight.nd rfl (.inl rfl)) (pss_one (ps_for PassesOwn.never rfl (pi_list (pv 7)) (pg_name (i := 12) scRight.nd rfl (.inl rfl))
          (pss_cons (ps_dput hu (pv 8) (pe_op op_catN (pv 11) (pv 12)) (pe_callN GB hr (by rfl) G.gBt G.FBt.kp bB pass0 (pa_cons (pv 4) (pa_cons (pv 5) (pa_cons (pv 11) (pa_cons (pv 12) pa_nil)))) (pk_cons (pv 2) pk_nil)) rfl)
          (pss_cons (ps_dput hu (pv 9) (pe_op op_catN (pv 11) (pv 12)) (pe_callN GB hr (by rfl) G.gBt G.FBt.kp bB pass0 (pa_cons (pv 4) (pa_cons (pv 6) (pa_cons (pv 11) (pa_cons (pv 12) pa_nil)))) (pk_cons (pv 2) pk_nil)) rfl)
          (pss_one (ps_dput hu (pv 10) (pe_op op_catN (pv 11) (pv 12)) (pe_callN GB hr (by rfl) G.gBt G.FBt.kp bB pass0 (pa_cons (pv 4) (pa_cons (pe_op op_add (pv 5) (pv 6)) (pa_cons (pv 11) (pa_cons (pv 12) pa_nil)))) (pk_cons (pv 2) pk_nil)) rfl))))))) ?_
  rintro D σ H ⟨p, ra, rs, d8, d9, d10, r, q, n1, n2, row, v3, rfl, hrow, ok, hrs, hq, hn, e8, e9, e10, n89, n810, n910, hQ⟩
  have hZ : ∀ z ∈ [d8, d9, d10], ∃ kvs : List (List Key × V), H z = some (.dT kvs) := fun z hz => by
    simp only [List.mem_cons, List.not_mem_nil, or_false] at hz
    rcases hz with rfl | rfl | rfl
    · exact ⟨_, e8⟩
    · exact ⟨_, e9⟩
    · exact ⟨_, e10⟩
  have hrow' := hrow.hidZ hZ
  obtain ⟨ws, hws, pws⟩ := hrs.hidZ hZ
  have hwl : ws.length = (tuples q r).length := (pd_len pws).symm
  have hr2 := ok.r2
  have hR16 : (tuples q r).length ≤ 16 := by
    rw [tuples_len]
    exact Nat.le_trans (Nat.pow_le_pow_left hq _) (Nat.pow_le_pow_right (by decide) hr2)
  have put3 : ∀ {H1 H2 : Hp} {d : Addr} {o : HO}, d ∈ [d8, d9, d10] → Same (hide [d8, d9, d10] H) H1 → Same H1 H2 → Same (hide [d8, d9, d10] H) (upd H2 d o) := fun hd s1 s2 => same_hide_upd hd (s1.trans s2)
  have start : ∀ {d : Addr} {F : List Nat → List Nat → Int}, H d = some (.dT []) → TabU H d q r F (Done (tuples q r) 0 0) 0 := fun e => ⟨[], e, Nat.le_refl _, fun x hx y hy h => absurd h Done.none, fun x hx y hy h => absurd h Done.none⟩
  refine ⟨_, rfl, rs, rfl, ⟨_, SqL.of (hide_sub _ _ _ _ hws)⟩, for_list (K := K) (a := rs) (xs := ws)
    (fun i σ H' => Same (hide [d8, d9, d10] H) H' ∧ (∃ v11 v12, σ = sigT p r q v3 ra n1 n2 rs d8 d9 d10 v11 v12 none none) ∧ TabU H' d8 q r (btw q r row n1) (Done (tuples q r) i 0) (16 * i) ∧ TabU H' d9 q r (btw q r row n2) (Done (tuples q r) i 0) (16 * i) ∧ TabU H' d10 q r (btw q r row (n1 + n2)) (Done (tuples q r) i 0) (16 * i))
    ⟨hide_sub _ _, ⟨_, _, rfl⟩, start e8, start e9, start e10⟩ (fun i σ H' _ h => SqL.of (h.1 _ _ hws)) ?_ ?_⟩
  · rintro i y σ H1 hi ⟨s1, ⟨v11, v12, rfl⟩, u8, u9, u10⟩
    obtain ⟨x, hx, a, rfl, ha⟩ := pd_get pws hi
    have hxm := List.mem_of_getElem? hx
    have hil : i < (tuples q r).length := (List.getElem?_eq_some_iff.mp hx).1
    refine ⟨_, rfl, rs, rfl, ⟨_, SqL.of (s1 _ _ hws)⟩, for_list (K := K) (a := rs) (xs := ws)
      (fun j σ H' => Same (hide [d8, d9, d10] H) H' ∧ (∃ v12, σ = sigT p r q v3 ra n1 n2 rs d8 d9 d10 (some (.ref a)) v12 none none) ∧ TabU H' d8 q r (btw q r row n1) (Done (tuples q r) i j) (16 * i + j) ∧ TabU H' d9 q r (btw q r row n2) (Done (tuples q r) i j) (16 * i + j) ∧ TabU H' d10 q r (btw q r row (n1 + n2)) (Done (tuples q r) i j) (16 * i + j))
      ⟨s1, ⟨_, rfl⟩, u8, u9, u10⟩ (fun j σ H' _ h => SqL.of (h.1 _ _ hws)) ?_ ?_⟩
    · rintro j y' σ H2 hj ⟨s2, ⟨v12, rfl⟩, u8, u9, u10⟩
      obtain ⟨y, hy, b, rfl, hb⟩ := pd_get pws hj
      have hym := List.mem_of_getElem? hy
      have hjl : j < (tuples q r).length := (List.getElem?_eq_some_iff.mp hy).1
      obtain ⟨lx, _⟩ := mem_tuples.mp hxm
      obtain ⟨ly, _⟩ := mem_tuples.mp hym
      have stp := Done.step hx hy
      -- table 8
      refine ⟨_, rfl, _, rfl, _, rfl, _, rfl, _, rfl, rfl, rfl, ra, a, b, r, n1, q, row, x, y, rfl, hrow'.keep s2, ok, ha.keep s2, hb.keep s2, hxm, hym, by omega, by omega, fun H1a t1 bnd1 => ?_⟩
      have q1 := s2.trans t1
      refine ⟨_, rfl, _, rfl, _, rfl, a, b, _, _, rfl, rfl, ha.keep q1, hb.keep q1, small' (by rw [List.length_map, List.length_map]; omega), fun pp1 H1b t1b _ hpp1 => ?_⟩
      have hp1 : TupN H1b pp1 (x ++ y) := by
        show H1b pp1 = _
        rw [hpp1, List.map_append]
      obtain ⟨kv1, f1, l1, T1, B1⟩ := u8
      have g1 := t1b _ _ (t1 _ _ f1)
      refine ⟨d8, _, rfl, DPut.t g1 (kL_tup hp1) (small (by omega)), ?_⟩
      have s1c : Same (hide [d8, d9, d10] H) (upd H1b d8 (.dT (putK kv1 (kL (x ++ y)) (.int (btw q r row n1 x y))))) := same_hide_upd (by simp) (q1.trans t1b)
      have w8 : TabU (upd H1b d8 (.dT (putK kv1 (kL (x ++ y)) (.int (btw q r row n1 x y))))) d8 q r (btw q r row n1) (Done (tuples q r) i (j + 1)) (16 * i + j + 1) := TabU.put l1 T1 B1 hxm hym bnd1 stp upd_same
      have v9 := u9.keep (H' := upd H1b d8 (.dT (putK kv1 (kL (x ++ y)) (.int (btw q r row n1 x y))))) fun o e => by rw [upd_ne (show d9 ≠ d8 from n89.symm)]; exact t1b _ _ (t1 _ _ e)
      have v10 := u10.keep (H' := upd H1b d8 (.dT (putK kv1 (kL (x ++ y)) (.int (btw q r row n1 x y))))) fun o e => by rw [upd_ne (show d10 ≠ d8 from n810.symm)]; exact t1b _ _ (t1 _ _ e)
      clear u9 u10
      revert s1c w8 v9 v10
      generalize upd H1b d8 (.dT (putK kv1 (kL (x ++ y)) (.int (btw q r row n1 x y)))) = H3
      intro s1c w8 u9 u10
      -- table 9
      refine ⟨_, rfl, _, rfl, _, rfl, _, rfl, _, rfl, rfl, rfl, ra, a, b, r, n2, q, row, x, y, rfl, hrow'.keep s1c, ok, ha.keep s1c, hb.keep s1c, hxm, hym, by omega, by omega, fun H2a t2 bnd2 => ?_⟩
      have q2 := s1c.trans t2
      refine ⟨_, rfl, _, rfl, _, rfl, a, b, _, _, rfl, rfl, ha.keep q2, hb.keep q2, small' (by rw [List.length_map, List.length_map]; omega), fun pp2 H2b t2b _ hpp2 => ?_⟩
      have hp2 : TupN H2b pp2 (x ++ y) := by
        show H2b pp2 = _
        rw [hpp2, List.map_append]
      obtain ⟨kv2, f2, l2, T2, B2⟩ := u9
      have g2 := t2b _ _ (t2 _ _ f2)
      refine ⟨d9, _, rfl, DPut.t g2 (kL_tup hp2) (small (by omega)), ?_⟩
      have s2c : Same (hide [d8, d9, d10] H) (upd H2b d9 (.dT (putK kv2 (kL (x ++ y)) (.int (btw q r row n2 x y))))) := same_hide_upd (by simp) (q2.trans t2b)
      have w9 : TabU (upd H2b d9 (.dT (putK kv2 (kL (x ++ y)) (.int (btw q r row n2 x y))))) d9 q r (btw q r row n2) (Done (tuples q r) i (j + 1)) (16 * i + j + 1) := TabU.put l2 T2 B2 hxm hym bnd2 stp upd_same
      have v8 := w8.keep (H' := upd H2b d9 (.dT (putK kv2 (kL (x ++ y)) (.int (btw q r row n2 x y))))) fun o e => by rw [upd_ne (show d8 ≠ d9 from n89)]; exact t2b _ _ (t2 _ _ e)
      have v10 := u10.keep (H' := upd H2b d9 (.dT (putK kv2 (kL (x ++ y)) (.int (btw q r row n2 x y))))) fun o e => by rw [upd_ne (show d10 ≠ d9 from n910.symm)]; exact t2b _ _ (t2 _ _ e)
      clear u10 w8
      revert s2c w9 v8 v10
      generalize upd H2b d9 (.dT (putK kv2 (kL (x ++ y)) (.int (btw q r row n2 x y)))) = H4
      intro s2c w9 w8 u10
      -- table 10
      refine ⟨_, rfl, _, rfl, _, rfl, _, _, rfl, rfl, _, rfl, _, rfl, _, rfl, rfl, rfl, ra, a, b, r, (n1 + n2), q, row, x, y, rfl, hrow'.keep s2c, ok, ha.keep s2c, hb.keep s2c, hxm, hym, by omega, by omega, fun H3a t3 bnd3 => ?_⟩
      have q3 := s2c.trans t3
      refine ⟨_, rfl, _, rfl, _, rfl, a, b, _, _, rfl, rfl, ha.keep q3, hb.keep q3, small' (by rw [List.length_map, List.length_map]; omega), fun pp3 H3b t3b _ hpp3 => ?_⟩
      have hp3 : TupN H3b pp3 (x ++ y) := by
        show H3b pp3 = _
        rw [hpp3, List.map_append]
      obtain ⟨kv3, f3, l3, T3, B3⟩ := u10
      have g3 := t3b _ _ (t3 _ _ f3)
      refine ⟨d10, _, rfl, DPut.t g3 (kL_tup hp3) (small (by omega)), ?_⟩
      have s3c : Same (hide [d8, d9, d10] H) (upd H3b d10 (.dT (putK kv3 (kL (x ++ y)) (.int (btw q r row (n1 + n2) x y))))) := same_hide_upd (by simp) (q3.trans t3b)
      have w10 : TabU (upd H3b d10 (.dT (putK kv3 (kL (x ++ y)) (.int (btw q r row (n1 + n2) x y))))) d10 q r (btw q r row (n1 + n2)) (Done (tuples q r) i (j + 1)) (16 * i + j + 1) := TabU.put l3 T3 B3 hxm hym bnd3 stp upd_same
      have v8 := w8.keep (H' := upd H3b d10 (.dT (putK kv3 (kL (x ++ y)) (.int (btw q r row (n1 + n2) x y))))) fun o e => by rw [upd_ne (show d8 ≠ d10 from n810)]; exact t3b _ _ (t3 _ _ e)
      have v9 := w9.keep (H' := upd H3b d10 (.dT (putK kv3 (kL (x ++ y)) (.int (btw q r row (n1 + n2) x y))))) fun o e => by rw [upd_ne (show d9 ≠ d10 from n910)]; exact t3b _ _ (t3 _ _ e)
      exact ⟨s3c, ⟨_, rfl⟩, v8, v9, w10⟩
    · rintro σ H2 ⟨s2, ⟨v12, rfl⟩, u8, u9, u10⟩
      rw [hwl] at u8 u9 u10
      refine ⟨s2, ⟨_, _, rfl⟩, u8.imp (fun x _ y hy h => Done.row x y hy h) (by omega), u9.imp (fun x _ y hy h => Done.row x y hy h) (by omega), u10.imp (fun x _ y hy h => Done.row x y hy h) (by omega)⟩
  · rintro σ H1 ⟨s1, ⟨v11, v12, rfl⟩, u8, u9, u10⟩
    rw [hwl] at u8 u9 u10
    refine hQ H1 v11 v12 s1 (u8.at_ (fun x hx y hy => Done.all hx) (by omega)) (u9.at_ (fun x hx y hy => Done.all hx) (by omega)) (u10.at_ (fun x hx y hy => Done.all hx) (by omega)) fun x hx y hy => ?_
    obtain ⟨_, _, _, _, b8⟩ := u8
    obtain ⟨_, _, _, _, b9⟩ := u9
    exact ⟨b8 x hx y hy (Done.all hx), b9 x hx y hy (Done.all hx)⟩
end
end Hue

set_option maxHeartbeats 4000000
namespace Hue
open PySem PySem.W PyProof.Rows L2
section
variable {P : Program} {w : World} {K : PySem.W.Frag} {mg : Str → Option Value} {base : Heap}
/-- the look-up of two rims in a table -/
theorem dget_tbl {H : Hp} {d pp : Addr} {q r : Nat} {F : List Nat → List Nat → Int} (h : TblAt H d q r F) {x y : List Nat} (hx : x ∈ tuples q r) (hy : y ∈ tuples q r) (hp : TupN H pp (x ++ y)) : DGet H d (.ref pp) (some (.int (F x y))) := by
  obtain ⟨kvs, a, _, b⟩ := h
  have := DGet.t a (kL_tup hp)
  rw [b x hx y hy] at this
  exact this
def tChkS : TS := fun D σ H => ∃ (p ra rs d8 d9 d10 : Addr) (r q n1 n2 : Nat) (row : List Pc) (v3 v11 v12 : Option V), σ = sigT p r q v3 ra n1 n2 rs d8 d9 d10 v11 v12 none none ∧ TupsAt H rs (tuples q r) ∧ r ≤ 2 ∧
  TblAt H d8 q r (btw q r row n1) ∧ TblAt H d9 q r (btw q r row n2) ∧ TblAt H d10 q r (btw q r row (n1 + n2)) ∧
  (∀ x ∈ tuples q r, ∀ y ∈ tuples q r, (btw q r row n1 x y).natAbs < 2 ^ 200000 ∧ (btw q r row n2 x y).natAbs < 2 ^ 200000) ∧
  ∀ H' v11 v12 v13 v14, Same H H' → D.nx (sigT p r q v3 ra n1 n2 rs d8 d9 d10 v11 v12 v13 v14) H'
theorem ps_chkS {f : Addr} {cdv : Value} {A : Around} {outer : List Env} {s : Shared} {H0 : Hp} {E : XK} (hr : Room 9 (cxOf CX0 P w K mg base nRight "_law_right" (defScope sRight) f cdv A outer s H0 E).nox.A) :
    PS (cxOf CX0 P w K mg base nRight "_law_right" (defScope sRight) f cdv A outer s H0 E).nox ((defBody sRight).getD 9 (.Pass ⟨0, 0, 0, 0⟩)) tChkS := by
  have hu := hu_of hr
  refine ps_imp (ps_for PassesOwn.never rfl (pi_list (pv 7)) (pg_name (i := 11) scRight.nd rfl (.inl rfl)) (pss_one (ps_for PassesOwn.never rfl (pi_list (pv 7)) (pg_name (i := 12) scRight.nd rfl (.inl rfl))
          (pss_cons (ps_set (i := 13) scRight.nd rfl (.inl rfl) pe_int)
          (pss_cons (ps_for PassesOwn.never rfl (pi_list (pv 7)) (pg_name (i := 14) scRight.nd rfl (.inl rfl)) (pss_one (ps_set (i := 13) scRight.nd rfl (.inl rfl) (pe_op op_add (pv 13) (pe_op op_mulW (pe_dget hu (pv 8) (pe_op op_catN (pv 11) (pv 14)) (fun _ _ => rfl)) (pe_dget hu (pv 9) (pe_op op_catN (pv 14) (pv 12)) (fun _ _ => rfl)))))))
          (pss_one (ps_if (pt_cmpR op_ne (pe_dget hu (pv 10) (pe_op op_catN (pv 11) (pv 12)) (fun _ _ => rfl)) (pv 13) (nomark _)) (pss_one (ps_ret pe_bl)) pss_nil))))))) ?_
  rintro D σ H ⟨p, ra, rs, d8, d9, d10, r, q, n1, n2, row, v3, v11, v12, rfl, ⟨ws, hws, pws⟩, hr2, t8, t9, t10, bnd, hQ⟩
  have hwl : ws.length = (tuples q r).length := (pd_len pws).symm
  refine ⟨_, rfl, rs, rfl, ⟨_, SqL.of hws⟩, for_list (K := K) (a := rs) (xs := ws)
    (fun i σ H' => Same H H' ∧ ∃ v11 v12 v13 v14, σ = sigT p r q v3 ra n1 n2 rs d8 d9 d10 v11 v12 v13 v14) ⟨Same.refl _, _, _, _, _, rfl⟩ (fun i σ H' _ h => SqL.of (h.1 _ _ hws)) ?_ (fun σ H' h => ?_)⟩
  · rintro i y σ H1 hi ⟨s1, v11, v12, v13, v14, rfl⟩
    obtain ⟨x, hx, a, rfl, ha⟩ := pd_get pws hi
    have hxm := List.mem_of_getElem? hx
    obtain ⟨lx, _⟩ := mem_tuples.mp hxm
    refine ⟨_, rfl, rs, rfl, ⟨_, SqL.of (s1 _ _ hws)⟩, for_list (K := K) (a := rs) (xs := ws)
      (fun j σ H' => Same H H' ∧ ∃ v12 v13 v14, σ = sigT p r q v3 ra n1 n2 rs d8 d9 d10 (some (.ref a)) v12 v13 v14) ⟨s1, _, _, _, rfl⟩ (fun i σ H' _ h => SqL.of (h.1 _ _ hws)) ?_ (fun σ H' h => ?_)⟩
    · rintro j y' σ H2 hj ⟨s2, v12, v13, v14, rfl⟩
      obtain ⟨y, hy, b, rfl, hb⟩ := pd_get pws hj
      have hym := List.mem_of_getElem? hy
      obtain ⟨ly, _⟩ := mem_tuples.mp hym
      refine ⟨_, rfl, rs, rfl, ⟨_, SqL.of (s2 _ _ hws)⟩, for_list (K := K) (a := rs) (xs := ws)
        (fun k σ H' => Same H H' ∧ ∃ v14, σ = sigT p r q v3 ra n1 n2 rs d8 d9 d10 (some (.ref a)) (some (.ref b)) (some (.int (S ((tuples q r).take k) fun m => btw q r row n1 x m * btw q r row n2 m y))) v14) ⟨s2, _, rfl⟩ (fun i σ H' _ h => SqL.of (h.1 _ _ hws)) ?_ ?_⟩
      · rintro k y'' σ H3 hk ⟨s3, v14, rfl⟩
        obtain ⟨m, hm, c, rfl, hc⟩ := pd_get pws hk
        have hmm := List.mem_of_getElem? hm
        obtain ⟨lm, _⟩ := mem_tuples.mp hmm
        refine ⟨_, rfl, _, rfl, _, rfl, _, rfl, a, c, _, _, rfl, rfl, ha.keep s3, hc.keep s3, small' (by rw [List.length_map, List.length_map]; omega), fun p1 H4 s4 _ hp1 => ?_⟩
        have hp1' : TupN H4 p1 (x ++ m) := by
          show H4 p1 = _
          rw [hp1, List.map_append]
        have s34 := s3.trans s4
        refine ⟨d8, _, rfl, dget_tbl (t8.keep s34) hxm hmm hp1', _, rfl, _, rfl, _, rfl, c, b, _, _, rfl, rfl, hc.keep s34, hb.keep s34, small' (by rw [List.length_map, List.length_map]; omega), fun p2 H5 s5 _ hp2 => ?_⟩
        have hp2' : TupN H5 p2 (m ++ y) := by
          show H5 p2 = _
          rw [hp2, List.map_append]
        refine ⟨d9, _, rfl, dget_tbl (t9.keep (s34.trans s5)) hmm hym hp2', _, _, rfl, rfl, wide_mul (bnd x hxm m hmm).1 (bnd m hmm y hym).2 (by decide) (by decide) (by decide), _, _, rfl, rfl, s34.trans s5, some (.ref c), ?_⟩
        rw [take_snoc hm, S_append, S_single]
        rfl
      · rintro σ H3 ⟨s3, v14, rfl⟩
        rw [hwl, List.take_length, ← law_between n1 n2 hxm]
        refine ⟨_, rfl, _, rfl, _, rfl, a, b, _, _, rfl, rfl, ha.keep s3, hb.keep s3, small' (by rw [List.length_map, List.length_map]; omega), fun p1 H4 s4 _ hp1 => ?_⟩
        have hp1' : TupN H4 p1 (x ++ y) := by
          show H4 p1 = _
          rw [hp1, List.map_append]
        refine ⟨d10, _, rfl, dget_tbl (t10.keep (s3.trans s4)) hxm hym hp1', _, rfl, rfl, _, rfl, ?_⟩
        refine ite2 (fun z => ?_) fun _ => ⟨s3.trans s4, _, _, _, rfl⟩
        exfalso
        rw [decide_eq_true rfl] at z
        cases z
    · obtain ⟨s2, v12, v13, v14, rfl⟩ := h
      exact ⟨s2, _, _, _, _, rfl⟩
  · obtain ⟨s1, v11, v12, v13, v14, rfl⟩ := h
    exact hQ H' _ _ _ _ s1
end
end Hue

set_option maxHeartbeats 4000000
namespace Hue
open PySem PySem.W PyProof.Rows L2
theorem PairsT.hidL {H : Hp} {D a : Addr} {vs : List V} {l : List (Nat × Nat)} (hD : H D = some (.lst vs)) (h : PairsT H a l) : PairsT (hide [D] H) a l := by
  obtain ⟨ws, h1, h2⟩ := h
  refine ⟨ws, hid_no hD h1 (fun z => nomatch z), pd_imp h2 fun x v r => ?_⟩
  obtain ⟨t, e, h⟩ := r
  exact ⟨t, e, hid_no hD h fun z => nomatch z⟩
theorem PartAt.hidL {C : Addr} {H : Hp} {D p : Addr} {vs : List V} {r i : Nat} {un sa : List (Nat × Nat)} (hD : H D = some (.lst vs)) (h : PartAt C H p r i un sa) : PartAt C (hide [D] H) p r i un sa := by
  obtain ⟨dx, tu, ts, g1, g2, g3⟩ := h
  exact ⟨dx, tu, ts, hid_no hD g1 (fun z => nomatch z), g2.hidL hD, g3.hidL hD⟩
theorem RowAt.hidL {CR CP : Addr} {H : Hp} {D a r : Nat} {vs : List V} {row : List Pc} (hD : H D = some (.lst vs)) (h : RowAt CR CP H a r row) : RowAt CR CP (hide [D] H) a r row := by
  obtain ⟨dx, t, ws, h1, h2, h3⟩ := h
  refine ⟨dx, t, ws, hid_no hD h1 (fun z => nomatch z), hid_no hD h2 (fun z => nomatch z), pd_imp h3 fun x v g => ?_⟩
  obtain ⟨b, e, g⟩ := g
  exact ⟨b, e, g.hidL hD⟩
theorem TblAt.hidL {H : Hp} {D d : Addr} {vs : List V} {q r : Nat} {F : List Nat → List Nat → Int} (hD : H D = some (.lst vs)) (h : TblAt H d q r F) : TblAt (hide [D] H) d q r F := by
  obtain ⟨kvs, a, b⟩ := h
  exact ⟨kvs, hid_no hD a (fun z => nomatch z), b⟩
section
variable {P : Program} {w : World} {K : PySem.W.Frag} {mg : Str → Option Value} {base : Heap}
theorem ok_right {f : Addr} {fd : FuncData} (F : FnP K "_law_right" sRight f fd) (G : GRight K mg) : FnOk P w K mg base CX0 10 f fd ["_law_purse_here"] spRight := by
  have GD : FnOk P w K mg base CX0 9 G.lp.fD G.lp.fdD ["_law_purse_here", "_law_out_of"] spDraw := (ok_draw G.lp.FD G.lp.FM G.lp.gM G.lp.int).mono (by decide)
  have bD : Binds K G.lp.fdD ["_law_purse_here", "_law_out_of"] [] := fn_binds G.lp.FD fun _ _ _ _ _ _ us hl => match us, hl with | [_, _], _ => rfl
  have GP : FnOk P w K mg base CX0 9 G.fLP G.fdLP ["_law_purse_here", "_law_rim", "_law_most"] spLPiece := (ok_lpiece G.FLP G.lp).mono (by decide)
  have bP : Binds K G.fdLP ["_law_purse_here", "_law_rim", "_law_most"] [] := fn_binds G.FLP fun _ _ _ _ _ _ us hl => match us, hl with | [_, _, _], _ => rfl
  have GBa : FnOk P w K mg base CX0 9 G.fBa G.fdBa ["_law_piece_here"] spBare := (ok_bare G.FBa G.FIn G.gIn).mono (by decide)
  have bBa : Binds K G.fdBa ["_law_piece_here"] [] := fn_binds G.FBa fun _ _ _ _ _ _ us hl => match us, hl with | [_], _ => rfl
  have GM : FnOk P w K mg base CX0 9 G.fMd G.fdMd ["_law_raw", "_law_is_piece"] (spMade G.md.CC G.md.CP) := (ok_made G.FMd G.md).mono (by decide)
  have bM : Binds K G.fdMd ["_law_raw", "_law_is_piece"] [] := fn_binds G.FMd fun _ _ _ _ _ _ us hl => match us, hl with | [_, _], _ => rfl
  have GR : FnOk P w K mg base CX0 8 G.fRo G.fdRo ["self", "pieces"] (spRowInit G.top.CR G.top.CP) := (ok_rowInit G.FRo G.top.rowC.c G.top.pcC G.top.iP G.top.gPc G.top.kP G.top.is).mono (by decide)
  have bR : Binds K G.fdRo ["self", "pieces"] [] := FunD.bindsN G.FRo fun _ _ _ _ _ _ us hl => match us, hl with | [_, _], _ => rfl
  have GT : FnOk P w K mg base CX0 9 G.tu.fT G.tu.fdT ["_law_q", "_law_places"] spTuples := (ok_tuples G.tu.FT G.tu.FL G.tu.gL G.tu.range).mono (by decide)
  have bT : Binds K G.tu.fdT ["_law_q", "_law_places"] [] := fn_binds G.tu.FT fun _ _ _ _ _ _ us hl => match us, hl with | [_, _], _ => rfl
  have GB : FnOk P w K mg base CX0 9 G.fBt G.fdBt nBtw (spBtw G.top.CR G.top.CP) := (ok_btw G.FBt G.top).mono (by decide)
  have bB := btw_binds G.FBt
  have GN : FnOk P w K mg base CX0 9 G.fCt G.fdCt ["web", "n", "hues"] (spCount G.top.CS G.top.CG G.top.CC G.top.CR G.top.CP) := (ok_count G.FCt G.top.toGTop).mono (by decide)
  have bN := count_binds G.FCt
  have GG : FnOk P w K mg base CX0 8 G.fRg G.fdRg ["self", "row"] (spRingI G.top.CG G.top.CR G.top.CP) := (ok_ringI G.FRg G.top.cls G.top.FRR G.top.gRR).mono (by decide)
  have bG : Binds K G.fdRg ["self", "row"] [] := FunD.bindsN G.FRg fun _ _ _ _ _ _ us hl => match us, hl with | [_, _], _ => rfl
  have GC : FnOk P w K mg base CX0 9 G.fCR G.fdCR ["_law_purse_here", "_law_line", "_law_later", "_law_many", "_law_q"] (spCaps G.top.CR G.top.CP) := ok_caps G.FCR G.toGCaps
  have bC : Binds K G.fdCR ["_law_purse_here", "_law_line", "_law_later", "_law_many", "_law_q"] [] := fn_binds G.FCR fun _ _ _ _ _ _ us hl => match us, hl with | [_, _, _, _, _], _ => rfl
  refine F.ok scRight (fun vs H Q E h => ?_) (fun cdv A outer s H vs Q E hr h => ?_)
  · obtain ⟨p, rfl, _⟩ := h
    rfl
  · obtain ⟨p, rfl, hp, hQ⟩ := h
    have hu := hu_of hr
    refine ⟨_, PSs.nox (pss_cons (ps_set (i := 1) scRight.nd rfl (.inr rfl) (pe_op op_add pe_int (pe_call GD hr (by rfl) G.lp.gD G.lp.FD.kp bD .nil pass0 (pa_cons (pv 0) (pa_cons pe_int pa_nil)))))
      (pss_cons (ps_set (i := 2) scRight.nd rfl (.inl rfl) (pe_call GD hr (by rfl) G.lp.gD G.lp.FD.kp bD .nil pass0 (pa_cons (pv 0) (pa_cons (pe_op op_sub pe_int (pv 1)) pa_nil))))
      (pss_cons (ps_setLc (i := 3) (own := [("_law_k", 16)]) (g := gName 16) (tt := tYes) (te := tCall spLPiece [] E0 (tCons (tVar 0) (tCons (tVar 1) (tCons (tC (.int 5)) tNil)))) rfl scRight.nd rfl rfl (sw_true rfl rfl rfl (by decide +kernel)) (pi_range1 (by rfl) G.tu.range (pa_cons (pe_op op_add pe_int (pe_call GD hr (by rfl) G.lp.gD G.lp.FD.kp bD .nil pass0 (pa_cons (pv 0) (pa_cons pe_int pa_nil)))) pa_nil)) (blkOk_by (N := nRight) (sc := defScope sRight) (by decide +kernel)) (fun _ _ _ _ _ => pg_name (i := 16) scRight.nd rfl (.inl rfl)) (fun _ _ _ _ _ => pts_nil)
          (fun _ _ _ _ _ => pe_call GP hr (by rfl) G.gLP G.FLP.kp bP .nil pass0 (pa_cons (pv 0) (pa_cons (pv 1) (pa_cons pe_int pa_nil)))))
      (pss_cons (ps_bareS G hr)
      (pss_cons (ps_set (i := 4) scRight.nd rfl (.inl rfl) (pe_make G.mkR GR hr (by rfl) G.top.gRw bR .nil pass0 (pa_cons (pe_lc (own := [("_law_piece_here", 17)]) (g := gName 17) (tt := tYes) (te := tCall (spMade G.md.CC G.md.CP) [] E0 (tCons (tVar 17) (tCons (tC (.bl true)) tNil))) rfl scRight.nd (pi_list (pv 3)) (blkOk_by (N := nRight) (sc := defScope sRight) (by decide +kernel)) (fun _ _ _ _ _ => pg_name (i := 17) scRight.nd rfl (.inl rfl)) (fun _ _ _ _ _ => pts_nil)
            (fun _ _ _ _ _ => pe_call GM hr (by rfl) G.gMd G.FMd.kp bM .nil pass0 (pa_cons (pv 17) (pa_cons pe_bl pa_nil)))) pa_nil)))
      (pss_cons (ps_par (i := 5) (j := 6) rfl scRight.nd rfl rfl (by decide) rfl rfl (pa_cons (pe_call GD hr (by rfl) G.lp.gD G.lp.FD.kp bD .nil pass0 (pa_cons (pv 0) (pa_cons pe_int pa_nil))) (pa_cons (pe_op op_add pe_int (pe_call GD hr (by rfl) G.lp.gD G.lp.FD.kp bD .nil pass0 (pa_cons (pv 0) (pa_cons pe_int pa_nil)))) pa_nil)) (by rfl))
      (pss_cons (ps_set (i := 7) scRight.nd rfl (.inl rfl) (pe_call GT hr (by rfl) G.tu.gT G.tu.FT.kp bT .nil pass0 (pa_cons (pv 2) (pa_cons (pv 1) pa_nil))))
      (pss_cons (ps_asg (pe_tup (pa_cons pe_dnewT (pa_cons pe_dnewT (pa_cons pe_dnewT pa_nil)))) (pg_tup rfl (pgs_cons (pg_name (i := 8) scRight.nd rfl (.inl rfl)) (pgs_cons (pg_name (i := 9) scRight.nd rfl (.inr rfl)) (pgs_cons (pg_name (i := 10) scRight.nd rfl (.inl rfl)) pgs_nil)))))
      (pss_cons (ps_tabS G hr)
      (pss_cons (ps_chkS hr)
      (pss_cons (ps_set (i := 15) scRight.nd rfl (.inl rfl) (pe_callB (cr_sum rfl) (by rfl) G.top.sum (by decide +kernel) (pa_cons (pe_lc (own := [("_law_one", 11)]) (g := gName 11) (tt := tYes) (te := tDGet (tVar 9) (tOp rCatN (tVar 11) (tVar 11))) rfl scRight.nd (pi_list (pv 7)) (blkOk_by (N := nRight) (sc := defScope sRight) (by decide +kernel)) (fun _ _ _ _ _ => pg_name (i := 11) scRight.nd rfl (.inl rfl)) (fun _ _ _ _ _ => pts_nil)
            (fun _ _ _ _ _ => pe_dget hu (pv 9) (pe_op op_catN (pv 11) (pv 11)) (fun _ _ => rfl))) pa_nil)))
      (pss_cons (ps_if (PW.pt (pw_and (pt_cmpR (op_eqD hr.units) (pe_lc (own := [("_law_piece_here", 17)]) (g := gName 17) (te := tC (.int 1)) (tt := tTest (tOp (rI0 fun i j => .bl (decide (j < i))) (tOp (rIxT K) (tVar 17) (tC (.int 1))) (tC (.int 0)))) rfl scRight.nd (pi_list (pv 3)) (blkOk_by (N := nRight) (sc := defScope sRight) (by decide +kernel)) (fun _ _ _ _ _ => pg_name (i := 17) scRight.nd rfl (.inl rfl))
            (fun _ _ _ _ _ => pts_one (pt_cmpR op_gt (pe_ix (r := rIxT K) ix_tup (pv 17) pe_int (fun _ _ => rfl)) pe_int (nomark _))) (fun _ _ _ _ _ => pe_int)) (pe_lst pa_nil) (nomark _))
          (pw_and1 (pt_cmpR op_ne (pe_callN GN hr (by rfl) G.gCt G.FCt.kp bN pass0 (pa_cons (pe_make G.mkG GG hr (by rfl) G.top.gRg bG .nil pass0 (pa_cons (pv 4) pa_nil)) (pa_cons (pv 6) pa_nil)) (pk_cons (pv 2) pk_nil)) (pv 15) (nomark _))))) (pss_one (ps_ret pe_bl)) pss_nil)
      (pss_one (ps_ret (pe_call GC hr (by rfl) G.gCR G.FCR.kp bC .nil pass0 (pa_cons (pv 0) (pa_cons (pv 4) (pa_cons (pv 9) (pa_cons (pv 6) (pa_cons (pv 2) pa_nil)))))))))))))))))))), ?_⟩
    obtain ⟨xs0, hx0⟩ := hp.lst
    -- rim, hues
    refine ⟨_, rfl, p, 2, 10000, rfl, hp, by decide, by decide, by decide, fun H1 k1 hk1 s1 hp1 => ⟨_, _, rfl, rfl, ?_⟩⟩
    have c1 := hide_again s1
    have e5 : V.int ((5 : Int) - (1 + (k1 : Int))) = nV (4 - k1) := by unfold nV; congr 1; omega
    refine ⟨_, rfl, _, rfl, _, _, rfl, rfl, p, 4 - k1, 10001, by rw [← e5]; rfl, hp1, by omega, by omega, by decide, fun H2 q hq s2 hp2 => ?_⟩
    have c2 := c1.trans (hide_again s2)
    -- raws
    refine ⟨_, rfl, p, 2, 10002, rfl, hp2, by decide, by decide, by decide, fun H3 k3 hk3 s3 hp3 => ⟨_, _, rfl, rfl, _, rfl, by omega, by omega, fun D hD => lc_range (lo := 0) (n := (1 + (k3 : Int)).toNat)
      (fun k H' => Same (hide [p] H3) (hide [p] H') ∧ PurseAt H' p (10003 + 300 * k) ∧ D ≠ p ∧ ∃ (l : List Raw) (vs : List V), l.length = k ∧ H' D = some (.lst vs) ∧ Paired (RRaw (1 + k1) (hide [D] (hide [p] H'))) l vs ∧ RawsOk (1 + k1) l) ?_ ?_ ?_⟩⟩
    · obtain ⟨xs3, hx3⟩ := hp3.lst
      have nDp : D ≠ p := fun z => by rw [z, hx3] at hD; cases hD
      exact ⟨hide_same [p] (same_new hD), hp3.keep (same_new hD), nDp, [], [], rfl, upd_same, .nil, fun z hz => by cases hz⟩
    · rintro k H4 hk ⟨a4, hp4, nDp, l, vs, hl, hvs, pvs, okl⟩
      have hDB : hide [p] H3 D = none := by rw [hide_out (by simpa using nDp)]; exact hD
      refine ⟨rfl, _, rfl, _, rfl, p, 1 + k1, 10003 + 300 * k, rfl, hp4, by omega, by omega, by omega, fun H5 t i un sa s5 hp5 hnew okr sz => ?_⟩
      have hD5 : H5 D = some (.lst vs) := s5 _ _ (by rw [hide_out (by simpa using nDp)]; exact hvs)
      have a5 := hide_again s5
      have hraw := hnew.hid (show hide [p] H4 D = some (.lst vs) by rw [hide_out (by simpa using nDp)]; exact hvs) (show hide [p] H5 D = some (.lst vs) by rw [hide_out (by simpa using nDp)]; exact hD5)
      have e : hide [D] (hide [p] (upd H5 D (.lst (vs ++ [V.ref t])))) = hide [D] (hide [p] H5) := by
        funext c
        by_cases z1 : c ∈ [D]
        · rw [hide_in z1, hide_in z1]
        · rw [hide_out z1, hide_out z1]
          by_cases z2 : c ∈ [p]
          · rw [hide_in z2, hide_in z2]
          · rw [hide_out z2, hide_out z2, upd_ne (by simpa using z1)]
      refine ⟨vs, hD5, ?_, hide_again (upd_keep ((a4.trans a5).trans (hide_sub _ _)) hDB), ?_, nDp, l ++ [(i, un, sa)], _, by rw [List.length_append, hl]; rfl, upd_same, ?_, fun z hz => ?_⟩
      · refine small ?_
        rw [← pd_len pvs, hl]; omega
      · obtain ⟨x, y, z, e', rest⟩ := hp5.mono (show 10003 + 300 * k + 300 ≤ 10003 + 300 * (k + 1) by omega)
        exact ⟨x, y, z, by rw [upd_ne nDp.symm]; exact e', rest⟩
      · rw [e]
        exact pd_snoc (pd_imp pvs fun _ _ g => g.keep (hide_same [D] a5)) ⟨t, rfl, hraw⟩
      · rcases List.mem_append.mp hz with hz | hz
        · exact okl z hz
        · rw [List.mem_singleton.mp hz]
          exact ⟨okr, sz⟩
    · rintro H4 ⟨a4, hp4, nDp, l, vs, hl, hvs, pvs, okl⟩
      have c4 := (c2.trans (hide_again s3)).trans a4
      have hll : l.length = 1 + k3 := by omega
      refine ⟨p, D, _, 1 + k1, l, _, _, rfl, hp4, by omega, ⟨vs, by rw [hide_out (by simpa using nDp)]; exact hvs, pd_imp pvs fun _ _ g => g.keep (hide_sub _ _)⟩, okl, by omega, by omega, fun H5 D' l' a5 hp5 hraws okl' hll' => ?_⟩
      have c5 := c4.trans a5
      have hp5 : PurseAt H5 p 20000 := hp5.mono (by omega)
      obtain ⟨ws, hws, pws⟩ := id hraws
      obtain ⟨xs5, hx5⟩ := hp5.lst
      have hwl : ws.length = l'.length := (pd_len pws).symm
      have hws5 := hide_sub [p] H5 _ _ hws
      -- line
      refine ⟨_, rfl, D', rfl, ⟨_, SqL.of hws5⟩, fun E1 hE => lc_list (K := K) (a := D') (xs := ws)
        (fun k H' => Same H5 H' ∧ ∃ (row : List Pc) (vs : List V), row.length = k ∧ (∀ c ∈ row, PcOk (1 + k1) c) ∧ H' E1 = some (.lst vs) ∧ Paired (RPiece G.top.CP (1 + k1) (hide [E1] H')) row vs)
        ⟨same_new hE, [], [], rfl, fun c hc => absurd hc (by simp), upd_same, .nil⟩ (fun i H' _ h => SqL.of (h.1 _ _ hws5)) ?_ ?_⟩
      · rintro i y H6 hi ⟨s6, row, vs, hrl, hrk, hvs, pvs⟩
        obtain ⟨z, hz, t, rfl, hraw⟩ := pd_get pws hi
        obtain ⟨o1, o2⟩ := okl' z (List.mem_of_getElem? hz)
        have hil : i < l'.length := (List.getElem?_eq_some_iff.mp hz).1
        refine ⟨rfl, _, rfl, t, 1 + k1, z.1, z.2.1, z.2.2, (hraw.keep (hide_sub [p] H5)).keep s6, by omega, by omega, .inl ⟨rfl, o1, o2, fun H7 pp c s7 okc ei hpart => ?_⟩⟩
        have hE7 := s7 _ _ hvs
        rw [G.eP] at hpart
        refine ⟨vs, hE7, ?_, upd_keep (s6.trans s7) hE, row ++ [c], _, by rw [List.length_append, hrl]; rfl, fun c' hc' => ?_, upd_same, ?_⟩
        · refine small ?_
          rw [← pd_len pvs, hrl]; omega
        · rcases List.mem_append.mp hc' with hc' | hc'
          · exact hrk c' hc'
          · rw [List.mem_singleton.mp hc']
            exact okc
        · rw [hide_upd (by simp)]
          exact pd_snoc (pd_imp pvs fun _ _ g => g.keep (hide_same [E1] s7)) ⟨pp, rfl, hpart.hidL hE7⟩
      · rintro H6 ⟨s6, row, vs, hrl, hrk, hvs, pvs⟩
        intro ra dxr hra hdx hne
        have s7 := make_same (C := G.top.CR) hra hdx
        refine ⟨ra, dxr, E1, 1 + k1, row, rfl, upd_same, ⟨vs, s7 _ _ hvs, pd_imp pvs fun _ _ g => (g.keep (hide_sub [E1] H6)).keep s7⟩, by omega, by omega, fun H8 s8 hrow => ⟨rfl, ?_⟩⟩
        have ok : RowOk (1 + k1) row := ⟨by omega, by omega, by omega, hrk⟩
        have s58 : Same H5 H8 := s6.trans (s7.trans s8)
        have c8 := c5.trans (hide_same [p] s58)
        have hp8 := hp5.keep s58
        -- first, second
        refine ⟨_, rfl, p, 4, 20000, rfl, hp8, by decide, by decide, by decide, fun H9 k5 hk5 s9 hp9 => ?_⟩
        have a9 := hide_again s9
        refine ⟨_, rfl, p, 3, 20001, rfl, hp9, by decide, by decide, by decide, fun H10 k6 hk6 s10 hp10 => ⟨_, _, rfl, rfl, _, _, rfl, ?_⟩⟩
        have a810 := a9.trans (hide_again s10)
        have c10 := c8.trans a810
        obtain ⟨xs8, hx8⟩ := hp8.lst
        have hrow10 : RowAt G.top.CR G.top.CP H10 ra (1 + k1) row := ((hrow.hidL hx8).keep a810).keep (hide_sub [p] H10)
        have hraws10 : RawsL (1 + k1) H10 D' l' := (hraws.keep ((hide_same [p] s58).trans a810)).keep (hide_sub [p] H10)
        -- rims
        refine ⟨_, rfl, _, rfl, q, 1 + k1, rfl, by omega, by omega, fun H11 rs s11 hrs => ?_⟩
        have c11 := c10.trans (hide_same [p] s11)
        -- the dicts
        intro d8 h8 d9 h9 d10 h10
        refine ⟨small' (n := 3) (by decide), fun tt htt => ⟨tt, _, rfl, SqT.of upd_same, rfl, _, _, rfl, _, _, rfl, _, _, rfl, rfl, ?_⟩⟩
        have n89 : d8 ≠ d9 := fun z => by rw [← z, upd_same] at h9; cases h9
        have n910 : d9 ≠ d10 := fun z => by rw [← z, upd_same] at h10; cases h10
        have n810 : d8 ≠ d10 := fun z => by rw [← z, upd_ne n89, upd_same] at h10; cases h10
        have n8t : d8 ≠ tt := fun z => by rw [← z, upd_ne n810, upd_ne n89, upd_same] at htt; cases htt
        have n9t : d9 ≠ tt := fun z => by rw [← z, upd_ne n910, upd_same] at htt; cases htt
        have n10t : d10 ≠ tt := fun z => by rw [← z, upd_same] at htt; cases htt
        have s12 : Same H11 (upd (upd (upd (upd H11 d8 (.dT [])) d9 (.dT [])) d10 (.dT [])) tt (.tup [.ref d8, .ref d9, .ref d10])) := (same_new h8).trans ((same_new h9).trans ((same_new h10).trans (same_new htt)))
        have f9 : H11 d9 = none := by rw [upd_ne n89.symm] at h9; exact h9
        have f10 : H11 d10 = none := by rw [upd_ne n910.symm, upd_ne n810.symm] at h10; exact h10
        have e8 : (upd (upd (upd (upd H11 d8 (.dT [])) d9 (.dT [])) d10 (.dT [])) tt (.tup [.ref d8, .ref d9, .ref d10])) d8 = some (.dT []) := by rw [upd_ne n8t, upd_ne n810, upd_ne n89]; exact upd_same
        have e9 : (upd (upd (upd (upd H11 d8 (.dT [])) d9 (.dT [])) d10 (.dT [])) tt (.tup [.ref d8, .ref d9, .ref d10])) d9 = some (.dT []) := by rw [upd_ne n9t, upd_ne n910]; exact upd_same
        have e10 : (upd (upd (upd (upd H11 d8 (.dT [])) d9 (.dT [])) d10 (.dT [])) tt (.tup [.ref d8, .ref d9, .ref d10])) d10 = some (.dT []) := by rw [upd_ne n10t]; exact upd_same
        revert s12 e8 e9 e10
        generalize upd (upd (upd (upd H11 d8 (.dT [])) d9 (.dT [])) d10 (.dT [])) tt (.tup [.ref d8, .ref d9, .ref d10]) = H12
        intro s12 e8 e9 e10
        have z12 : Same H11 (hide [d8, d9, d10] H12) := fun b o e => by
          rw [hide_out]
          · exact s12 _ _ e
          · intro z
            simp only [List.mem_cons, List.not_mem_nil, or_false] at z
            rcases z with rfl | rfl | rfl
            · rw [h8] at e; cases e
            · rw [f9] at e; cases e
            · rw [f10] at e; cases e
        -- the tables
        refine ⟨p, ra, rs, d8, d9, d10, 1 + k1, q, k5, 1 + k6, row, some (.ref D'), rfl, (hrow10.keep s11).keep s12, ok, hrs.keep s12, by omega, by omega, e8, e9, e10, n89, n810, n910, fun H13 v11 v12 s13 t8 t9 t10 bnd => ?_⟩
        have s1113 := z12.trans s13
        refine ⟨p, ra, rs, d8, d9, d10, 1 + k1, q, k5, 1 + k6, row, some (.ref D'), v11, v12, rfl, hrs.keep s1113, by omega, t8, t9, t10, bnd, fun H14 v11 v12 v13 v14 s14 => ?_⟩
        have s1114 := s1113.trans s14
        have t9' := t9.keep s14
        -- closed
        obtain ⟨wr, hwr, pwr⟩ := hrs.keep s1114
        have hwrl : wr.length = (tuples q (1 + k1)).length := (pd_len pwr).symm
        have hR16 : (tuples q (1 + k1)).length ≤ 16 := by
          rw [tuples_len]
          exact Nat.le_trans (Nat.pow_le_pow_left (show q ≤ 4 by omega) _) (Nat.pow_le_pow_right (by decide) (show 1 + k1 ≤ 2 by omega))
        refine ⟨_, rfl, rs, rfl, ⟨_, SqL.of hwr⟩, fun E2 hE2 => lc_list (K := K) (a := rs) (xs := wr) (fun i H' => Same H14 H' ∧ H' E2 = some (.lst (((tuples q (1 + k1)).take i).map fun x => V.int (btw q (1 + k1) row (1 + k6) x x)))) ⟨same_new hE2, upd_same⟩ (fun i H' _ h => SqL.of (h.1 _ _ hwr)) ?_ ?_⟩
        · rintro i y H15 hi ⟨s15, hE15⟩
          obtain ⟨x, hx, a, rfl, ha⟩ := pd_get pwr hi
          have hxm := List.mem_of_getElem? hx
          obtain ⟨lx, _⟩ := mem_tuples.mp hxm
          refine ⟨rfl, _, rfl, _, rfl, _, rfl, a, a, _, _, rfl, rfl, ha.keep s15, ha.keep s15, small' (by rw [List.length_map]; omega), fun pp H16 s16 _ hpp => ?_⟩
          have hpp' : TupN H16 pp (x ++ x) := by
            show H16 pp = _
            rw [hpp, List.map_append]
          refine ⟨d9, _, rfl, dget_tbl (t9'.keep (s15.trans s16)) hxm hxm hpp', _, s16 _ _ hE15, ?_, upd_keep (s15.trans s16) hE2, ?_⟩
          · refine small ?_
            rw [List.length_map, List.length_take]; omega
          · rw [upd_same, take_snoc hx, List.map_append]
            rfl
        · rintro H15 ⟨s15, hE15⟩
          rw [hwrl, List.take_length] at hE15
          refine ⟨E2, (tuples q (1 + k1)).map (fun x => btw q (1 + k1) row (1 + k6) x x), rfl, SqL.of (by rw [hE15, List.map_map]; rfl), ?_⟩
          have s1115 := s1114.trans s15
          have c15 := c11.trans (hide_same [p] s1115)
          have hp15 : PurseAt H15 p 30000 := ((hp10.keep s11).keep s1115).mono (by omega)
          have hrow15 := (hrow10.keep s11).keep s1115
          have t915 := t9'.keep s15
          obtain ⟨wz, hwz, pwz⟩ := (hraws10.keep s11).keep s1115
          have hwzl : wz.length = l'.length := (pd_len pwz).symm
          -- the last call
          have fin : ∀ (H' : Hp) (D : Ends) (σ : L2.St), D.rt = Q → Same H15 H' → σ = [some (.ref p), some (nV (1 + k1)), some (nV q), some (.ref D'), some (.ref ra), some (nV k5), some (nV (1 + k6)), some (.ref rs), some (.ref d8), some (.ref d9), some (.ref d10), v11, v12, v13, v14, some (.int ((tuples q (1 + k1)).map (fun x => btw q (1 + k1) row (1 + k6) x x)).sum), none, none] →
              tRet (tCall (spCaps G.top.CR G.top.CP) [] E0 (tCons (tVar 0) (tCons (tVar 4) (tCons (tVar 9) (tCons (tVar 6) (tCons (tVar 2) tNil)))))) D σ H' := by
            rintro H' D σ hD sH rfl
            have hp' := hp15.keep sH
            obtain ⟨xs', hx'⟩ := hp'.lst
            refine ⟨_, rfl, _, rfl, _, rfl, _, rfl, _, rfl, p, ra, d9, 1 + k6, q, 1 + k1, 30000, row, rfl, hp', by decide, (hrow15.keep sH).hidL hx', ok, (t915.keep sH).hidL hx', by omega, by omega, fun H'' s'' => ?_⟩
            rw [hD]
            exact hQ H'' ((c15.trans (hide_same [p] sH)).trans s'')
          let pz : Raw → Bool := fun z => decide (0 < z.1)
          refine ⟨_, rfl, D', rfl, ⟨_, SqL.of hwz⟩, fun E3 hE3 => lc_list (K := K) (a := D') (xs := wz) (fun i H' => Same H15 H' ∧ H' E3 = some (.lst (List.replicate (cnt pz (l'.take i)) (V.int 1)))) ⟨same_new hE3, upd_same⟩ (fun i H' _ h => SqL.of (h.1 _ _ hwz)) ?_ ?_⟩
          · rintro i y H16 hi ⟨s16, hE16⟩
            obtain ⟨z, hz, t, rfl, A0, T0, ht, _⟩ := pd_get pwz hi
            refine ⟨rfl, _, rfl, t, _, _, _, rfl, rfl, SqT.of (s16 _ _ ht), rfl, _, _, rfl, rfl, _, rfl, ?_⟩
            have hlen : (List.replicate (cnt pz (l'.take i)) (V.int 1)).length < sizeLine := by
              refine small ?_
              rw [List.length_replicate]
              have := cnt_le pz (l'.take i)
              rw [List.length_take] at this
              omega
            refine ite2 (fun hc => ?_) fun hc => ?_
            · have : 0 < z.1 := by have := of_decide_eq_true hc; omega
              refine ⟨_, hE16, hlen, upd_keep s16 hE3, ?_⟩
              rw [upd_same, cnt_snoc hz, if_pos (show pz z = true from decide_eq_true this), List.replicate_succ']
            · have : ¬ 0 < z.1 := fun q => hc (decide_eq_true (by omega))
              refine ⟨s16, ?_⟩
              rw [cnt_snoc hz, if_neg (show ¬ pz z = true from fun q => this (of_decide_eq_true q))]
              exact hE16
          · rintro H16 ⟨s16, hE16⟩
            rw [List.take_of_length_le (by omega)] at hE16
            refine ⟨Nat.zero_le _, fun E4 hE4 => ?_⟩
            have s17 := same_new (o := .lst []) hE4
            refine ⟨_, .list [], .lst (SqL.of (s17 _ _ hE16)) (ones_dp _), .lst (SqL.of upd_same) .nil, ones_shaped _, by decide, _, rfl, ?_⟩
            refine ite2 (fun _ => ?_) fun _ => ?_
            · refine ⟨_, rfl, ?_⟩
              intro x dx hx hdx hne
              have s18 := make_same (C := G.top.CG) hx hdx
              refine ⟨x, dx, ra, 1 + k1, row, rfl, upd_same, (hrow15.keep (s16.trans s17)).keep s18, fun H17 s19 hring => ⟨rfl, ?_⟩⟩
              refine ⟨_, rfl, _, rfl, rfl, rfl, x, 1 + k1, 1 + k6, q, row, rfl, ok, by omega, by omega, .inr ⟨hring, fun H18 s20 => ?_⟩⟩
              have esum : ((tuples q (1 + k1)).map (fun x => btw q (1 + k1) row (1 + k6) x x)).sum = S (tuples q (1 + k1)) fun l => btw q (1 + k1) row (1 + k6) l l := rfl
              refine ⟨_, rfl, rfl, _, rfl, ?_⟩
              refine ite2 (fun z => ?_) fun _ => ?_
              · exfalso
                rw [esum, decide_eq_true rfl] at z
                cases z
              · exact fin H18 _ _ rfl ((s16.trans s17).trans (s18.trans (s19.trans s20))) rfl
            · exact ite2 (fun z => by cases z) fun _ => fin _ _ _ rfl (s16.trans s17) rfl
end
end Hue

set_option maxHeartbeats 4000000
namespace Hue
open PySem PySem.W PyProof.Rows L2
section
variable {P : Program} {w : World} {K : PySem.W.Frag} {mg : Str → Option Value} {base : Heap}
structure GLaw (K : PySem.W.Frag) (mg : Str → Option Value) extends GRight K mg where
  fPu : Addr
  fdPu : FuncData
  FPu : FnP K "_law_purse" sPurse fPu fdPu
  gPu : mg "_law_purse" = some (.ref fPu)
  fRi : Addr
  fdRi : FuncData
  FRi : FnP K "_law_right" sRight fRi fdRi
  gRi : mg "_law_right" = some (.ref fRi)
  min : mg "min" = none
/-! ### law -/
abbrev sLaw : Stmt := Hue.top 80
def spLaw (K : PySem.W.Frag) : Sp := fun vs H Q _ => ∃ (a : Addr) (ns : List Int), vs = [.ref a] ∧ SqL K H a (ns.map V.int) ∧ ns.length ≤ 63 ∧ ∀ H', Q (.bl true) H'
abbrev nLaw : List Str := ["_law_script", "_law_at", "_law_purse_here"]
theorem scLaw : FnScope nLaw ["_law_script"] (defScope sLaw) := ⟨rfl, rfl, rfl, by decide +kernel, rfl, by decide +kernel, by decide +kernel⟩
theorem ok_law {f : Addr} {fd : FuncData} (F : FnP K "law" sLaw f fd) (G : GLaw K mg) : FnOk P w K mg base CX0 11 f fd ["_law_script"] (spLaw K) := by
  have GP : FnOk P w K mg base CX0 10 G.fPu G.fdPu ["_law_cells", "_law_at"] (spPurse K) := (ok_purse G.FPu G.lp.int G.top.len G.lp.max).mono (by decide)
  have bP : Binds K G.fdPu ["_law_cells", "_law_at"] [] := fn_binds G.FPu fun _ _ _ _ _ _ us hl => match us, hl with | [_, _], _ => rfl
  have GR : FnOk P w K mg base CX0 10 G.fRi G.fdRi ["_law_purse_here"] spRight := ok_right G.FRi G.toGRight
  have bR : Binds K G.fdRi ["_law_purse_here"] [] := fn_binds G.FRi fun _ _ _ _ _ _ us hl => match us, hl with | [_], _ => rfl
  refine F.ok scLaw (fun vs H Q E h => ?_) (fun cdv A outer s H vs Q E hr h => ?_)
  · obtain ⟨a, ns, rfl, _⟩ := h
    rfl
  · obtain ⟨a, ns, rfl, ha, hn, hQ⟩ := h
    refine ⟨_, PSs.nox (pss_cons (ps_for PassesOwn.never rfl (pi_range1 (by rfl) G.tu.range (pa_cons (pe_op op_add pe_int (pe_callB (call_min2 rfl) (by rfl) G.min (by decide +kernel) (pa_cons pe_int (pa_cons (pe_callB call_len_seq (by rfl) G.top.len boot_len (pa_cons (pv 0) pa_nil)) pa_nil)))) pa_nil)) (pg_name (i := 1) scLaw.nd rfl (.inl rfl))
        (pss_cons (ps_set (i := 2) scLaw.nd rfl (.inl rfl) (pe_call GP hr (by rfl) G.gPu G.FPu.kp bP .nil pass0 (pa_cons (pv 0) (pa_cons (pv 1) pa_nil))))
        (pss_one (ps_if (pt_not (pt_val (pe_call GR hr (by rfl) G.gRi G.FRi.kp bR .nil pass0 (pa_cons (pv 2) pa_nil)))) (pss_one (ps_ret pe_bl)) pss_nil))))
      (pss_one (ps_ret pe_bl))), ?_⟩
    obtain ⟨m, em, hm⟩ : ∃ m : Nat, (1 : Int) + (if ((ns.map V.int).length : Int) < 2 then ((ns.map V.int).length : Int) else 2) = (m : Int) ∧ m ≤ 3 := by
      by_cases h : ((ns.map V.int).length : Int) < 2
      · rw [if_pos h]
        exact ⟨1 + (ns.map V.int).length, by omega, by omega⟩
      · rw [if_neg h]
        exact ⟨3, rfl, Nat.le_refl _⟩
    refine ⟨_, rfl, a, _, rfl, .inl ha, _, _, rfl, _, _, rfl, rfl, (1 : Int) + (if ((ns.map V.int).length : Int) < 2 then ((ns.map V.int).length : Int) else 2), rfl, by omega, by omega, ?_⟩
    rw [em]
    refine for_range (lo := 0) (n := ((m : Nat) : Int).toNat) (fun i σ H' => Same H H' ∧ ∃ v1 v2, σ = [some (.ref a), v1, v2]) ⟨Same.refl _, _, _, rfl⟩ ?_ ?_
    · rintro i σ H1 hi ⟨s1, v1, v2, rfl⟩
      rw [Int.zero_add]
      refine ⟨_, rfl, _, rfl, a, ns, i, rfl, s1.seq ha, hn, by omega, fun H2 p s2 hp0 hp => ?_⟩
      refine ⟨_, rfl, p, rfl, hp, fun H3 s3 => ⟨_, rfl, ?_⟩⟩
      refine ite2 (fun z => by cases z) fun _ => ⟨?_, _, _, rfl⟩
      have := hide_same [p] s2
      rw [hide_one_none hp0] at this
      exact s1.trans (this.trans s3)
    · rintro σ H1 ⟨s1, v1, v2, rfl⟩
      exact hQ _
end
end Hue

set_option maxHeartbeats 0
namespace Hue
open PySem PySem.Spec PyProof.Rows L2
theorem head_facts {P : Program} {w : World} {K : PySem.W.Frag} {h : Heap} {mg : Str → Option Value} (X : K.In h) (N : h.Ns mainGlobals mg) (ex : exB K = true) (c : He.SaysD fa fn K) : Nonempty (GLaw K mg) := by
  obtain ⟨f0, F0⟩ := c.def_ 0 (d := dd0) rfl
  obtain ⟨f1, F1⟩ := c.def_ 1 (d := dd1) rfl
  obtain ⟨f2, F2⟩ := c.def_ 2 (d := dd2) rfl
  obtain ⟨f3, F3⟩ := c.def_ 3 (d := dd3) rfl
  obtain ⟨f4, F4⟩ := c.def_ 4 (d := dd4) rfl
  obtain ⟨f5, F5⟩ := c.def_ 5 (d := dd5) rfl
  obtain ⟨f6, F6⟩ := c.def_ 6 (d := dd6) rfl
  obtain ⟨f7, F7⟩ := c.def_ 7 (d := dd7) rfl
  obtain ⟨f8, F8⟩ := c.def_ 8 (d := dd8) rfl
  obtain ⟨f9, F9⟩ := c.def_ 9 (d := dd9) rfl
  obtain ⟨f10, F10⟩ := c.def_ 10 (d := dd10) rfl
  obtain ⟨f11, F11⟩ := c.def_ 11 (d := dd11) rfl
  obtain ⟨f12, F12⟩ := c.def_ 12 (d := dd12) rfl
  obtain ⟨f13, F13⟩ := c.def_ 13 (d := dd13) rfl
  obtain ⟨f14, F14⟩ := c.def_ 14 (d := dd14) rfl
  obtain ⟨f15, F15⟩ := c.def_ 15 (d := dd15) rfl
  obtain ⟨f16, F16⟩ := c.def_ 16 (d := dd16) rfl
  obtain ⟨f17, F17⟩ := c.def_ 17 (d := dd17) rfl
  obtain ⟨f18, F18⟩ := c.def_ 18 (d := dd18) rfl
  obtain ⟨f19, F19⟩ := c.def_ 19 (d := dd19) rfl
  obtain ⟨f20, F20⟩ := c.def_ 20 (d := dd20) rfl
  obtain ⟨f21, F21⟩ := c.def_ 21 (d := dd21) rfl
  obtain ⟨f22, F22⟩ := c.def_ 22 (d := dd22) rfl
  obtain ⟨f23, F23⟩ := c.def_ 23 (d := dd23) rfl
  obtain ⟨f24, F24⟩ := c.def_ 24 (d := dd24) rfl
  obtain ⟨f25, F25⟩ := c.def_ 25 (d := dd25) rfl
  obtain ⟨f26, F26⟩ := c.def_ 26 (d := dd26) rfl
  obtain ⟨f27, F27⟩ := c.def_ 27 (d := dd27) rfl
  obtain ⟨f28, F28⟩ := c.def_ 28 (d := dd28) rfl
  obtain ⟨f29, F29⟩ := c.def_ 29 (d := dd29) rfl
  obtain ⟨f30, F30⟩ := c.def_ 30 (d := dd30) rfl
  obtain ⟨f31, F31⟩ := c.def_ 31 (d := dd31) rfl
  obtain ⟨f32, F32⟩ := c.def_ 32 (d := dd32) rfl
  obtain ⟨f33, F33⟩ := c.def_ 33 (d := dd33) rfl
  obtain ⟨f34, F34⟩ := c.def_ 34 (d := dd34) rfl
  obtain ⟨f35, F35⟩ := c.def_ 35 (d := dd35) rfl
  obtain ⟨f36, F36⟩ := c.def_ 36 (d := dd36) rfl
  obtain ⟨f37, F37⟩ := c.def_ 37 (d := dd37) rfl
  obtain ⟨f38, F38⟩ := c.def_ 38 (d := dd38) rfl
  obtain ⟨f39, F39⟩ := c.def_ 39 (d := dd39) rfl
  obtain ⟨f40, F40⟩ := c.def_ 40 (d := dd40) rfl
  obtain ⟨f41, F41⟩ := c.def_ 41 (d := dd41) rfl
  obtain ⟨f42, F42⟩ := c.def_ 42 (d := dd42) rfl
  obtain ⟨f43, F43⟩ := c.def_ 43 (d := dd43) rfl
  obtain ⟨f44, F44⟩ := c.def_ 44 (d := dd44) rfl
  obtain ⟨f45, F45⟩ := c.def_ 45 (d := dd45) rfl
  obtain ⟨f46, F46⟩ := c.def_ 46 (d := dd46) rfl
  obtain ⟨f47, F47⟩ := c.def_ 47 (d := dd47) rfl
  obtain ⟨f48, F48⟩ := c.def_ 48 (d := dd48) rfl
  obtain ⟨f49, F49⟩ := c.def_ 49 (d := dd49) rfl
  obtain ⟨f50, F50⟩ := c.def_ 50 (d := dd50) rfl
  obtain ⟨f51, F51⟩ := c.def_ 51 (d := dd51) rfl
  obtain ⟨f52, F52⟩ := c.def_ 52 (d := dd52) rfl
  obtain ⟨f53, F53⟩ := c.def_ 53 (d := dd53) rfl
  obtain ⟨f54, F54⟩ := c.def_ 54 (d := dd54) rfl
  obtain ⟨f55, F55⟩ := c.def_ 55 (d := dd55) rfl
  obtain ⟨f56, F56⟩ := c.def_ 56 (d := dd56) rfl
  obtain ⟨f57, F57⟩ := c.def_ 57 (d := dd57) rfl
  obtain ⟨f58, F58⟩ := c.def_ 58 (d := dd58) rfl
  obtain ⟨xg, ex⟩ := He.ba ex
  obtain ⟨xi, xk⟩ := He.ba ex
  obtain ⟨iCap, xi⟩ := He.ba xi
  obtain ⟨iPiece, xi⟩ := He.ba xi
  obtain ⟨iRow, xi⟩ := He.ba xi
  obtain ⟨iStrip, iRing⟩ := He.ba xi
  obtain ⟨kCapCap, xk⟩ := He.ba xk
  obtain ⟨kPiecePiece, xk⟩ := He.ba xk
  obtain ⟨kRowRow, xk⟩ := He.ba xk
  obtain ⟨kStripStrip, xk⟩ := He.ba xk
  obtain ⟨kRingRing, xk⟩ := He.ba xk
  obtain ⟨kStripRing, kRingStrip⟩ := He.ba xk
  obtain ⟨xg1, xg2⟩ := He.ba xg
  have ICap : InsK K (He.ga K "Cap") := ⟨(He.cls_ok (c.fact 71 rfl)), He.eqO_ok (He.ba iCap).1, He.eqO_ok xg1, of_decide_eq_true xg2, of_decide_eq_true (He.ba iCap).2⟩
  have IPiece : InsK K (He.ga K "Piece") := ⟨(He.cls_ok (c.fact 76 rfl)), He.eqO_ok (He.ba iPiece).1, He.eqO_ok xg1, of_decide_eq_true xg2, of_decide_eq_true (He.ba iPiece).2⟩
  have IRow : InsK K (He.ga K "Row") := ⟨(He.cls_ok (c.fact 81 rfl)), He.eqO_ok (He.ba iRow).1, He.eqO_ok xg1, of_decide_eq_true xg2, of_decide_eq_true (He.ba iRow).2⟩
  have IStrip : InsK K (He.ga K "Strip") := ⟨(He.cls_ok (c.fact 92 rfl)), He.eqO_ok (He.ba iStrip).1, He.eqO_ok xg1, of_decide_eq_true xg2, of_decide_eq_true (He.ba iStrip).2⟩
  have IRing : InsK K (He.ga K "Ring") := ⟨(He.cls_ok (c.fact 96 rfl)), He.eqO_ok (He.ba iRing).1, He.eqO_ok xg1, of_decide_eq_true xg2, of_decide_eq_true (He.ba iRing).2⟩
  have capC : PartC K (He.ga K "Cap") := ⟨(He.cls_ok (c.fact 71 rfl)), (He.noat_ok (c.fact 72 rfl)), (He.noat_ok (c.fact 73 rfl)), (He.noat_ok (c.fact 74 rfl)), (He.noat_ok (c.fact 75 rfl))⟩
  have pcC : PartC K (He.ga K "Piece") := ⟨(He.cls_ok (c.fact 76 rfl)), (He.noat_ok (c.fact 77 rfl)), (He.noat_ok (c.fact 78 rfl)), (He.noat_ok (c.fact 79 rfl)), (He.noat_ok (c.fact 80 rfl))⟩
  let is : GIs mg := ⟨(He.free_ok X N (c.fact 65 rfl)), (He.free_ok X N (c.fact 63 rfl)), (He.free_ok X N (c.fact 66 rfl)), (He.free_ok X N (c.fact 57 rfl)), (He.free_ok X N (c.fact 59 rfl)), (He.free_ok X N (c.fact 67 rfl)), (He.free_ok X N (c.fact 60 rfl)), (He.free_ok X N (c.fact 56 rfl)), (He.free_ok X N (c.fact 68 rfl))⟩
  let gg : GGrown K mg := { fT := _, fdT := f0, FT := F0, gT := (He.glo_ok X N (c.fact 0 rfl)), fF := _, fdF := f1, FF := F1, gF := (He.glo_ok X N (c.fact 1 rfl)), fU := _, fdU := f2, FU := F2, gU := (He.glo_ok X N (c.fact 2 rfl)), fO := _, fdO := f3, FO := F3, gO := (He.glo_ok X N (c.fact 3 rfl)), range := (He.free_ok X N (c.fact 55 rfl)), len := (He.free_ok X N (c.fact 56 rfl)), tuple := (He.free_ok X N (c.fact 57 rfl)), max := (He.free_ok X N (c.fact 58 rfl)), list := (He.free_ok X N (c.fact 59 rfl)) }
  let gt : GTab K mg := { toGGrown := gg, fG := _, fdG := f4, FG := F4, gG := (He.glo_ok X N (c.fact 4 rfl)), fN := _, fdN := f5, FN := F5, gN := (He.glo_ok X N (c.fact 5 rfl)), fP := _, fdP := f6, FP := F6, gP := (He.glo_ok X N (c.fact 6 rfl)), fC := _, fdC := f7, FC := F7, gC := (He.glo_ok X N (c.fact 7 rfl)), sorted := (He.free_ok X N (c.fact 60 rfl)) }
  let gr : GRun K mg := { toGTab := gt, fW := _, fdW := f8, FW := F8, gW := (He.glo_ok X N (c.fact 8 rfl)), fX := _, fdX := f9, FX := F9, gX := (He.glo_ok X N (c.fact 9 rfl)), fA := _, fdA := f10, FA := F10, gA := (He.glo_ok X N (c.fact 10 rfl)), fD := _, fdD := f11, FD := F11, gD := (He.glo_ok X N (c.fact 11 rfl)), fL := _, fdL := f12, FL := F12, gL := (He.glo_ok X N (c.fact 12 rfl)), sum := (He.free_ok X N (c.fact 61 rfl)), zip := (He.free_ok X N (c.fact 62 rfl)), int := (He.free_ok X N (c.fact 63 rfl)) }
  let gw : GRow K mg := { toGRun := gr, fS := _, fdS := f13, FS := F13, gS := (He.glo_ok X N (c.fact 13 rfl)), CR := He.ga K "Row", CP := He.ga K "Piece", CU := He.ga K "Run", fI := _, fdI := f48, rowC := ⟨⟨(He.cls_ok (c.fact 81 rfl)), (He.noat_ok (c.fact 82 rfl)), (He.noat_ok (c.fact 83 rfl))⟩, ((He.meth_ok (c.fact 101 rfl))).at_, ((He.meth_ok (c.fact 101 rfl))).fn, F48⟩, pcC := pcC, runC := ⟨(He.cls_ok (c.fact 84 rfl)), (He.noat_ok (c.fact 85 rfl)), (He.noat_ok (c.fact 86 rfl)), (He.noat_ok (c.fact 87 rfl)), (He.noat_ok (c.fact 88 rfl))⟩, iter := (He.free_ok X N (c.fact 64 rfl)) }
  let gk : GWalk K mg := { toGRow := gw, CW := He.ga K "Walk", walkC := ⟨(He.cls_ok (c.fact 89 rfl)), (He.noat_ok (c.fact 90 rfl)), (He.noat_ok (c.fact 91 rfl))⟩, fT1 := _, fdT1 := f49, FT1 := F49, mT1 := (He.meth_ok (c.fact 98 rfl)), fE1 := _, fdE1 := f50, FE1 := F50, mE1 := (He.meth_ok (c.fact 99 rfl)) }
  let ga : GAll K mg := { toGWalk := gk, is := is, CC := He.ga K "Cap", CS := He.ga K "Strip", CG := He.ga K "Ring", capC := capC, stripC := ⟨(He.cls_ok (c.fact 92 rfl)), (He.noat_ok (c.fact 93 rfl)), (He.noat_ok (c.fact 94 rfl)), (He.noat_ok (c.fact 95 rfl))⟩, ringC := ⟨(He.cls_ok (c.fact 96 rfl)), (He.noat_ok (c.fact 97 rfl))⟩, iC := ICap, iP := IPiece, iR := IRow, iS := IStrip, iG := IRing, gCc := (He.glo_ok X N (c.fact 48 rfl)), gPc := (He.glo_ok X N (c.fact 49 rfl)), gRw := (He.glo_ok X N (c.fact 50 rfl)), gSt := (He.glo_ok X N (c.fact 53 rfl)), gRg := (He.glo_ok X N (c.fact 54 rfl)), kC := of_decide_eq_true kCapCap, kP := of_decide_eq_true kPiecePiece, kR := of_decide_eq_true kRowRow, kS := of_decide_eq_true kStripStrip, kG := of_decide_eq_true kRingRing, kSG := of_decide_eq_true kStripRing, kGS := of_decide_eq_true kRingStrip, fRI := _, fdRI := f51, FRI := F51, mkU := (He.mkr_ok (c.fact 105 rfl)), gRun := (He.glo_ok X N (c.fact 51 rfl)), fWI := _, fdWI := f52, FWI := F52, mkW := (He.mkr_ok (c.fact 106 rfl)), gWalk := (He.glo_ok X N (c.fact 52 rfl)), fFW := _, fdFW := f53, FFW := F53, mFW := (He.meth_ok (c.fact 100 rfl)), fCS := _, fdCS := f14, FCS := F14, gCS := (He.glo_ok X N (c.fact 14 rfl)), fCE := _, fdCE := f15, FCE := F15, gCE := (He.glo_ok X N (c.fact 15 rfl)) }
  let gp : GPc K mg := { toGIs := is, fN := _, fdN := f16, FN := F16, gN := (He.glo_ok X N (c.fact 16 rfl)), fQ := _, fdQ := f17, FQ := F17, gQ := (He.glo_ok X N (c.fact 17 rfl)), fP := _, fdP := f18, FP := F18, gP := (He.glo_ok X N (c.fact 18 rfl)), fO := _, fdO := f19, FO := F19, gO := (He.glo_ok X N (c.fact 19 rfl)) }
  let gtop : GTop K mg := { toGAll := ga, pcs := gp, fRO := _, fdRO := f20, FRO := F20, gRO := (He.glo_ok X N (c.fact 20 rfl)), fRW := _, fdRW := f21, FRW := F21, gRW := (He.glo_ok X N (c.fact 21 rfl)), fRR := _, fdRR := f22, FRR := F22, gRR := (He.glo_ok X N (c.fact 22 rfl)), dict := (He.free_ok X N (c.fact 69 rfl)) }
  let gb : GBtw K mg := { toGTop := gtop, fQR := _, fdQR := f23, FQR := F23, gQR := (He.glo_ok X N (c.fact 23 rfl)), fQB := _, fdQB := f24, FQB := F24, gQB := (He.glo_ok X N (c.fact 24 rfl)), fRB := _, fdRB := f25, FRB := F25, gRB := (He.glo_ok X N (c.fact 25 rfl)) }
  let gd : GDraw K mg := { fM := _, fdM := f26, FM := F26, gM := (He.glo_ok X N (c.fact 26 rfl)), fD := _, fdD := f27, FD := F27, gD := (He.glo_ok X N (c.fact 27 rfl)), int := (He.free_ok X N (c.fact 63 rfl)), max := (He.free_ok X N (c.fact 58 rfl)), range := (He.free_ok X N (c.fact 55 rfl)) }
  let gpt : GPart K mg := { toGDraw := gd, fPs := _, fdPs := f28, FPs := F28, gPs := (He.glo_ok X N (c.fact 28 rfl)) }
  let glp : GLPiece K mg := { toGPart := gpt, fPt := _, fdPt := f29, FPt := F29, gPt := (He.glo_ok X N (c.fact 29 rfl)) }
  let gtu : GTups K mg := { fT := _, fdT := f30, FT := F30, gT := (He.glo_ok X N (c.fact 30 rfl)), fL := _, fdL := f31, FL := F31, gL := (He.glo_ok X N (c.fact 31 rfl)), fK := _, fdK := f32, FK := F32, gK := (He.glo_ok X N (c.fact 32 rfl)), range := (He.free_ok X N (c.fact 55 rfl)) }
  let gmd : GMade K mg := { pc := gp, CC := He.ga K "Cap", CP := He.ga K "Piece", capC := capC, pieceC := pcC, gCc := (He.glo_ok X N (c.fact 48 rfl)), gPc := (He.glo_ok X N (c.fact 49 rfl)), fCI := _, fdCI := f54, FCI := F54, mkC := (He.mkr_ok (c.fact 102 rfl)), fPI := _, fdPI := f55, FPI := F55, mkP := (He.mkr_ok (c.fact 103 rfl)), fCh := _, fdCh := f33, FCh := F33, gCh := (He.glo_ok X N (c.fact 33 rfl)), fSz := _, fdSz := f34, FSz := F34, gSz := (He.glo_ok X N (c.fact 34 rfl)) }
  let gc : GCaps K mg := { top := gb, lp := glp, tu := gtu, md := gmd, eC := rfl, eP := rfl, fLC := _, fdLC := f35, FLC := F35, gLC := (He.glo_ok X N (c.fact 35 rfl)), fCW := _, fdCW := f36, FCW := F36, gCW := (He.glo_ok X N (c.fact 36 rfl)), fMd := _, fdMd := f37, FMd := F37, gMd := (He.glo_ok X N (c.fact 37 rfl)), fCt := _, fdCt := f38, FCt := F38, gCt := (He.glo_ok X N (c.fact 38 rfl)), fSI := _, fdSI := f56, FSI := F56, mkS := (He.mkr_ok (c.fact 107 rfl)), fRC := _, fdRC := f39, FRC := F39, gRC := (He.glo_ok X N (c.fact 39 rfl)) }
  let gri : GRight K mg := { toGCaps := gc, fLP := _, fdLP := f40, FLP := F40, gLP := (He.glo_ok X N (c.fact 40 rfl)), fBa := _, fdBa := f41, FBa := F41, gBa := (He.glo_ok X N (c.fact 41 rfl)), fIn := _, fdIn := f42, FIn := F42, gIn := (He.glo_ok X N (c.fact 42 rfl)), fRo := _, fdRo := f57, FRo := F57, mkR := (He.mkr_ok (c.fact 104 rfl)), fRg := _, fdRg := f58, FRg := F58, mkG := (He.mkr_ok (c.fact 108 rfl)), fBt := _, fdBt := f43, FBt := F43, gBt := (He.glo_ok X N (c.fact 43 rfl)), fCR := _, fdCR := f44, FCR := F44, gCR := (He.glo_ok X N (c.fact 44 rfl)) }
  exact ⟨{ toGRight := gri, fPu := _, fdPu := f45, FPu := F45, gPu := (He.glo_ok X N (c.fact 45 rfl)), fRi := _, fdRi := f46, FRi := F46, gRi := (He.glo_ok X N (c.fact 46 rfl)), min := (He.free_ok X N (c.fact 70 rfl)) }⟩
theorem head_law {P : Program} {w : World} {K : PySem.W.Frag} {h : Heap} {mg : Str → Option Value} {f : Addr} (X : K.In h) (N : h.Ns mainGlobals mg) (hfa : mg ("law" : Str) = some (.ref f)) (ex : exB K = true) (c : He.SaysD fa fn K) :
    ∃ fd : FuncData, (∀ (s : Shared) (v : Value), BindsTo s fd ⟨[v], []⟩ [("_law_script", v)]) ∧ ∀ base : Heap, K.In base → base.Ns mainGlobals mg → FnOk P w K mg base CX0 11 f fd ["_law_script"] (spLaw K) := by
  obtain ⟨fd, F⟩ := c.def_ 47 (d := dd47) rfl
  have e := hfa.symm.trans (He.glo_ok X N (c.fact 47 rfl))
  cases e
  have b := FunD.bindsA (ps := ["_law_script"]) F fun _ _ _ _ _ _ us hl => match us, hl with | [_], _ => rfl
  obtain ⟨G⟩ := head_facts (P := P) (w := w) X N ex c
  exact ⟨fd, fun s v => b s [v] rfl, fun base _ _ => ok_law F G⟩
end Hue

set_option maxHeartbeats 0
open PySem PySem.W PySem.Calls PyProof.Rows
theorem PySem.Challenge.cw_huestrips_k90_whole_middle_rows_holds : PySem.Challenge.rw_huestrips_k90_whole_middle_rows.Holds := by
  w_on; o_law
  refine HandSHeadRun.head_any (r := OpenLaw.row PySem.Challenge.rw_huestrips_k90_whole_middle_rows) (q := view (OpenLaw.row PySem.Challenge.rw_huestrips_k90_whole_middle_rows).prog [80]) (H := Hue.hk) (ob := Hue.ob) (M := 20000) (loose := Hue.names1 ++ (Hue.names2 ++ Hue.names3)) (d := HandSHeadRun.topDef (OpenLaw.row PySem.Challenge.rw_huestrips_k90_whole_middle_rows).prog 80) (kwd := []) Hue.ob_eq
    (by kernel_rfl) (fun s => by kernel_rfl) Hue.head_run (by kernel_rfl) (by kernel_rfl) (by kernel_rfl) (by rfl) (by first | assumption | decide +kernel) (by decide +kernel) ⟨rfl, rfl, rfl, rfl, rfl, by decide +kernel⟩ ?hw ?hc
  case hw => w_witness2
  case hc =>
    refine L2.walk_ofE (l := PySem.Challenge.rw_huestrips_k90_whole_middle_rows) (n := 63) (k := 11) (x := "_law_script") (CX := L2.CX0) rfl (by decide) (by kernel_rfl) ⟨rfl, by decide, by decide⟩ ?F (fun _ _ _ _ z => z)
    intro w mg fa h Y G hmg0
    obtain ⟨K, KX, ex, c⟩ := Y
    have hmg : mg ("law" : PySem.Str) = some (.ref fa) := by
      have e : (HandSHeadRun.topDef (OpenLaw.row PySem.Challenge.rw_huestrips_k90_whole_middle_rows).prog 80).name = ("law" : PySem.Str) := by kernel_rfl
      rw [← e]
      exact hmg0
    obtain ⟨fd, hb, hF⟩ := Hue.head_law (P := (PySem.Challenge.rw_huestrips_k90_whole_middle_rows).prog) (w := w) KX G hmg ex c
    exact ⟨K, fd, Hue.spLaw K, KX, hb, fun H a ns hl _ hS => ⟨a, ns, rfl, hS, hl, fun _ => rfl⟩, hF⟩
#print axioms PySem.Challenge.cw_huestrips_k90_whole_middle_rows_holds
