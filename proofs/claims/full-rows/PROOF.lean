import PyProof.Rows.All
import Wide.All
import OpenK.AllK
import Wide.FinOn
import HandS.ForMost
import HandS.Wide
import HandS.WideBits
import HandS.TupAny
import HandS.TupMul
import HandS.Zip
import HandS.Conv
import HandS.Gcd
import KE.GoesEnum
import HandS.NamedTupSort
import HandS.SortInts
import HandS.SortRule
import KE.KIndexOf
import PyProof.TupleOfSeq
import PyProof.MinMaxWalk
import PyProof.WalksMore
import PyProof.WalkInts
import HandS.Style
import HandS.IsInst
import PyProof.Rows.TupMore
import KE.KDictKeyed
import PyProof.Rows.TupDisplay
import KE.KDictDisplayH
import HandS.ExcInit
import HandS.ExcField
import HandS.ExcOwn
import HandS.WordsExc
import HandS.EndBits
import PySem.Challenge.RW_neverhalves_k52_whole_shortest_full_rows
set_option Elab.async false
set_option linter.all false
namespace SC
/-! ### sums over lists -/
section
variable {R : Type} [Lean.Grind.CommRing R] {α β : Type}
def ls (l : List α) (f : α → R) : R := l.foldr (fun a s => f a + s) 0
theorem ls_nil (f : α → R) : ls [] f = 0 := rfl
theorem ls_cons (a : α) (l : List α) (f : α → R) : ls (a :: l) f = f a + ls l f := rfl
theorem ls_congr {f g : α → R} : ∀ {l : List α}, (∀ a, a ∈ l → f a = g a) → ls l f = ls l g
  | [], _ => rfl
  | a :: l, h => by
    rw [ls_cons, ls_cons, h a (List.mem_cons_self ..), ls_congr fun b hb => h b (List.mem_cons_of_mem _ hb)]
theorem ls_zero {f : α → R} : ∀ {l : List α}, (∀ a, a ∈ l → f a = 0) → ls l f = 0
  | [], _ => rfl
  | a :: l, h => by
    rw [ls_cons, h a (List.mem_cons_self ..), ls_zero fun b hb => h b (List.mem_cons_of_mem _ hb)]
    grind
theorem ls_add (f g : α → R) : ∀ l : List α, ls l (fun a => f a + g a) = ls l f + ls l g
  | [] => by simp only [ls_nil]; grind
  | a :: l => by
    rw [ls_cons, ls_cons, ls_cons, ls_add f g l]; grind
theorem ls_sub (f g : α → R) : ∀ l : List α, ls l (fun a => f a - g a) = ls l f - ls l g
  | [] => by simp only [ls_nil]; grind
  | a :: l => by
    rw [ls_cons, ls_cons, ls_cons, ls_sub f g l]; grind
theorem ls_mul (c : R) (f : α → R) : ∀ l : List α, ls l (fun a => c * f a) = c * ls l f
  | [] => by simp only [ls_nil]; grind
  | a :: l => by
    rw [ls_cons, ls_cons, ls_mul c f l]; grind
theorem ls_mulr (c : R) (f : α → R) : ∀ l : List α, ls l (fun a => f a * c) = ls l f * c
  | [] => by simp only [ls_nil]; grind
  | a :: l => by
    rw [ls_cons, ls_cons, ls_mulr c f l]; grind
theorem ls_neg (f : α → R) : ∀ l : List α, ls l (fun a => - f a) = - ls l f
  | [] => by simp only [ls_nil]; grind
  | a :: l => by
    rw [ls_cons, ls_cons, ls_neg f l]; grind
theorem ls_append (f : α → R) : ∀ l m : List α, ls (l ++ m) f = ls l f + ls m f
  | [], m => by rw [ls_nil, List.nil_append]; grind
  | a :: l, m => by
    rw [List.cons_append, ls_cons, ls_cons, ls_append f l m]; grind
theorem ls_swap (f : α → β → R) : ∀ (l : List α) (m : List β), ls l (fun a => ls m (f a)) = ls m (fun b => ls l (fun a => f a b))
  | [], m => by
    rw [ls_nil]; exact (ls_zero fun b _ => rfl).symm
  | a :: l, m => by
    rw [ls_cons, ls_swap f l m, ← ls_add]; rfl
theorem ls_cut (f : α → R) {a : α} {s t : List α} : ls (s ++ a :: t) f = f a + ls (s ++ t) f := by
  rw [ls_append, ls_append, ls_cons]; grind
/-- the sum over one list is that over another, by a map of the entries that are not 0 -/
theorem ls_bij {f : α → R} {g : β → R} (φ : α → β) : ∀ (l : List α) (m : List β), l.Nodup → m.Nodup →
    (∀ a, a ∈ l → f a ≠ 0 → φ a ∈ m ∧ g (φ a) = f a) →
    (∀ a b, a ∈ l → b ∈ l → f a ≠ 0 → f b ≠ 0 → φ a = φ b → a = b) →
    (∀ b, b ∈ m → g b ≠ 0 → ∃ a, a ∈ l ∧ f a ≠ 0 ∧ φ a = b) → ls l f = ls m g
  | [], m, _, _, _, _, h3 => by
    rw [ls_nil]
    refine (ls_zero fun b hb => ?_).symm
    by_cases h : g b = 0
    · exact h
    · obtain ⟨a, ha, _⟩ := h3 b hb h
      cases ha
  | a :: l, m, nl, nm, h1, h2, h3 => by
    have nl' := List.nodup_cons.mp nl
    by_cases h : f a = 0
    · rw [ls_cons, h, ls_bij φ l m nl'.2 nm (fun b hb => h1 b (List.mem_cons_of_mem _ hb)) (fun b c hb hc => h2 b c (List.mem_cons_of_mem _ hb) (List.mem_cons_of_mem _ hc)) fun b hb hg => ?_]
      · grind
      · obtain ⟨x, hx, e, e2⟩ := h3 b hb hg
        rcases List.mem_cons.mp hx with rfl | hx
        · exact absurd h e
        · exact ⟨x, hx, e, e2⟩
    · obtain ⟨hm, hg⟩ := h1 a (List.mem_cons_self ..) h
      obtain ⟨s, t, rfl⟩ := List.append_of_mem hm
      rw [ls_cut, ls_cons, hg]
      have nm2 : (s ++ t).Nodup := by
        rw [List.nodup_append] at nm ⊢
        obtain ⟨n1, n2, n3⟩ := nm
        exact ⟨n1, (List.nodup_cons.mp n2).2, fun x hx y hy => n3 x hx y (List.mem_cons_of_mem _ hy)⟩
      have nin : φ a ∉ s ++ t := by
        rw [List.nodup_append] at nm
        obtain ⟨n1, n2, n3⟩ := nm
        intro hx
        rcases List.mem_append.mp hx with hx | hx
        · exact n3 _ hx _ (List.mem_cons_self ..) rfl
        · exact (List.nodup_cons.mp n2).1 hx
      rw [ls_bij φ l (s ++ t) nl'.2 nm2 (fun b hb hf => ?_) (fun b c hb hc => h2 b c (List.mem_cons_of_mem _ hb) (List.mem_cons_of_mem _ hc)) fun b hb hg => ?_]
      · obtain ⟨x1, x2⟩ := h1 b (List.mem_cons_of_mem _ hb) hf
        refine ⟨?_, x2⟩
        have ne : φ b ≠ φ a := fun e => nl'.1 (h2 b a (List.mem_cons_of_mem _ hb) (List.mem_cons_self ..) hf h e ▸ hb)
        rcases List.mem_append.mp x1 with y | y
        · exact List.mem_append_left _ y
        · rcases List.mem_cons.mp y with y | y
          · exact absurd y ne
          · exact List.mem_append_right _ y
      · have hb2 : b ∈ s ++ φ a :: t := by
          rcases List.mem_append.mp hb with y | y
          · exact List.mem_append_left _ y
          · exact List.mem_append_right _ (List.mem_cons_of_mem _ y)
        obtain ⟨x, hx, e, e2⟩ := h3 b hb2 hg
        rcases List.mem_cons.mp hx with rfl | hx
        · exact absurd (e2 ▸ hb) nin
        · exact ⟨x, hx, e, e2⟩
theorem ls_single {f : α → R} {l : List α} (a : α) (nl : l.Nodup) (ha : a ∈ l) (h : ∀ b, b ∈ l → b ≠ a → f b = 0) : ls l f = f a := by
  obtain ⟨s, t, rfl⟩ := List.append_of_mem ha
  have nin : a ∉ s ++ t := by
    rw [List.nodup_append] at nl
    obtain ⟨n1, n2, n3⟩ := nl
    intro hx
    rcases List.mem_append.mp hx with hx | hx
    · exact n3 _ hx _ (List.mem_cons_self ..) rfl
    · exact (List.nodup_cons.mp n2).1 hx
  rw [ls_cut, ls_zero fun b hb => h b ?_ ?_]
  · grind
  · rcases List.mem_append.mp hb with y | y
    · exact List.mem_append_left _ y
    · exact List.mem_append_right _ (List.mem_cons_of_mem _ y)
  · rintro rfl; exact nin hb
theorem ls_ne {f : α → R} {l : List α} (h : ls l f ≠ 0) : ∃ a, a ∈ l ∧ f a ≠ 0 := by
  refine Classical.byContradiction fun hc => h (ls_zero fun a ha => ?_)
  exact Classical.byContradiction fun e => hc ⟨a, ha, e⟩
end
/-! ### degrees -/
def Dg (n : Nat) := Fin n → Nat
variable {n : Nat}
instance : Add (Dg n) := ⟨fun a b i => a i + b i⟩
instance : Sub (Dg n) := ⟨fun a b i => a i - b i⟩
instance : Zero (Dg n) := ⟨fun _ => 0⟩
instance : LE (Dg n) := ⟨fun a b => ∀ i, a i ≤ b i⟩
noncomputable instance (a b : Dg n) : Decidable (a ≤ b) := Classical.propDecidable _
instance : CoeFun (Dg n) (fun _ => Fin n → Nat) := ⟨fun d => d⟩
theorem dg_ext {a b : Dg n} (h : ∀ i, a i = b i) : a = b := funext h
@[simp] theorem add_at (a b : Dg n) (i : Fin n) : (a + b) i = a i + b i := rfl
@[simp] theorem sub_at (a b : Dg n) (i : Fin n) : (a - b) i = a i - b i := rfl
@[simp] theorem zero_at (i : Fin n) : (0 : Dg n) i = 0 := rfl
theorem le_at {a b : Dg n} (h : a ≤ b) (i : Fin n) : a i ≤ b i := h i
theorem dle {a b : Dg n} : a ≤ b ↔ ∀ i, a i ≤ b i := Iff.rfl
theorem dadd_comm (a b : Dg n) : a + b = b + a := dg_ext fun i => by simp; omega
theorem dadd_assoc (a b c : Dg n) : a + b + c = a + (b + c) := dg_ext fun i => by simp; omega
theorem dzero_add (a : Dg n) : 0 + a = a := dg_ext fun i => by simp
theorem dadd_zero (a : Dg n) : a + 0 = a := dg_ext fun i => by simp
theorem dsub_zero (a : Dg n) : a - 0 = a := dg_ext fun i => by simp
theorem dsub_self (a : Dg n) : a - a = 0 := dg_ext fun i => by simp
theorem dadd_sub {a d : Dg n} (h : a ≤ d) : a + (d - a) = d := dg_ext fun i => by have := le_at h i; simp; omega
theorem dsub_add {a d : Dg n} (h : a ≤ d) : (d - a) + a = d := dg_ext fun i => by have := le_at h i; simp; omega
theorem dsub_le (d a : Dg n) : d - a ≤ d := fun i => by simp
theorem dle_refl (d : Dg n) : d ≤ d := fun i => Nat.le_refl _
theorem dle_trans {a b c : Dg n} (h : a ≤ b) (h2 : b ≤ c) : a ≤ c := fun i => Nat.le_trans (h i) (h2 i)
theorem dzero_le (d : Dg n) : 0 ≤ d := fun i => Nat.zero_le _
theorem dsub_sub_self {a d : Dg n} (h : a ≤ d) : d - (d - a) = a := dg_ext fun i => by have := le_at h i; simp; omega
theorem dadd_sub_cancel (a b : Dg n) : a + b - a = b := dg_ext fun i => by simp
theorem dadd_sub_cancel' (a b : Dg n) : a + b - b = a := dg_ext fun i => by simp
theorem dle_add (a b : Dg n) : a ≤ a + b := fun i => by simp
theorem dle_add' (a b : Dg n) : b ≤ a + b := fun i => by simp
theorem dle_antisymm {a b : Dg n} (h : a ≤ b) (h2 : b ≤ a) : a = b := dg_ext fun i => Nat.le_antisymm (h i) (h2 i)
theorem dle_zero {a : Dg n} (h : a ≤ 0) : a = 0 := dle_antisymm h (dzero_le a)
/-- the sum of the parts -/
def sizeL (d : Dg n) (l : List (Fin n)) : Nat := (l.map fun i => d i).sum
def size (d : Dg n) : Nat := sizeL d (List.finRange n)
theorem sizeL_add (a b : Dg n) : ∀ l, sizeL (a + b) l = sizeL a l + sizeL b l
  | [] => rfl
  | i :: l => by
    have ih := sizeL_add a b l
    simp only [sizeL, List.map_cons, List.sum_cons, add_at] at ih ⊢
    omega
theorem size_add (a b : Dg n) : size (a + b) = size a + size b := sizeL_add a b _
theorem sizeL_zero (d : Dg n) : ∀ l, sizeL d l = 0 → ∀ i, i ∈ l → d i = 0
  | [], _, i, h => by cases h
  | j :: l, e, i, h => by
    simp only [sizeL, List.map_cons, List.sum_cons] at e
    rcases List.mem_cons.mp h with rfl | h
    · omega
    · exact sizeL_zero d l (by simp only [sizeL]; omega) i h
theorem size_zero {d : Dg n} (h : size d = 0) : d = 0 := dg_ext fun i => sizeL_zero d _ h i (List.mem_finRange i)
theorem size_lt {a d : Dg n} (h : a ≤ d) (hn : a ≠ d) : size a < size d := by
  have e := size_add a (d - a)
  rw [dadd_sub h] at e
  by_cases z : size (d - a) = 0
  · have z2 := size_zero z
    refine absurd (dle_antisymm h fun i => ?_) hn
    have := congrFun z2 i
    rw [sub_at, zero_at] at this
    omega
  · omega
theorem size_le {a d : Dg n} (h : a ≤ d) : size a ≤ size d := by
  have e := size_add a (d - a)
  rw [dadd_sub h] at e
  omega
theorem size0 : size (0 : Dg n) = 0 := by
  have e := size_add (0 : Dg n) 0
  rw [dzero_add] at e
  omega
/-- all degrees below one -/
def setD (a : Dg n) (k : Fin n) (v : Nat) : Dg n := fun i => if i = k then v else a i
@[simp] theorem setD_same (a : Dg n) (k : Fin n) (v : Nat) : setD a k v k = v := if_pos rfl
theorem setD_ne (a : Dg n) {k i : Fin n} (v : Nat) (h : i ≠ k) : setD a k v i = a i := if_neg h
def boxK (d : Dg n) : Nat → List (Dg n)
  | 0 => [0]
  | k + 1 => if h : k < n then (boxK d k).flatMap fun a => (List.range (d ⟨k, h⟩ + 1)).map fun v => setD a ⟨k, h⟩ v else boxK d k
theorem mem_boxK (d : Dg n) : ∀ (k : Nat) (a : Dg n), a ∈ boxK d k ↔ (∀ i : Fin n, i.1 < k → a i ≤ d i) ∧ ∀ i : Fin n, k ≤ i.1 → a i = 0
  | 0, a => by
    rw [boxK, List.mem_singleton]
    exact ⟨fun h => ⟨fun i hi => absurd hi (Nat.not_lt_zero _), fun i _ => by rw [h]; rfl⟩, fun h => dg_ext fun i => h.2 i (Nat.zero_le _)⟩
  | k + 1, a => by
    rw [boxK]
    split
    · rename_i h
      rw [List.mem_flatMap]
      constructor
      · rintro ⟨b, hb, hm⟩
        rw [mem_boxK d k] at hb
        obtain ⟨v, hv, rfl⟩ := List.mem_map.mp hm
        rw [List.mem_range] at hv
        refine ⟨fun i hi => ?_, fun i hi => ?_⟩
        · by_cases e : i = ⟨k, h⟩
          · subst e; rw [setD_same]; omega
          · rw [setD_ne _ _ e]
            refine hb.1 i ?_
            have : i.1 ≠ k := fun z => e (Fin.ext z)
            omega
        · have e : i ≠ ⟨k, h⟩ := fun z => by rw [z] at hi; exact absurd hi (Nat.not_succ_le_self k)
          rw [setD_ne _ _ e]
          exact hb.2 i (by omega)
      · rintro ⟨h1, h2⟩
        refine ⟨setD a ⟨k, h⟩ 0, ?_, ?_⟩
        · rw [mem_boxK d k]
          refine ⟨fun i hi => ?_, fun i hi => ?_⟩
          · rw [setD_ne _ _ (fun z => by rw [z] at hi; simp at hi)]
            exact h1 i (by omega)
          · by_cases e : i = ⟨k, h⟩
            · subst e; rw [setD_same]
            · rw [setD_ne _ _ e]
              refine h2 i ?_
              have : i.1 ≠ k := fun z => e (Fin.ext z)
              omega
        · rw [List.mem_map]
          refine ⟨a ⟨k, h⟩, ?_, ?_⟩
          · rw [List.mem_range]
            have := h1 ⟨k, h⟩ (Nat.lt_succ_self k)
            omega
          · refine dg_ext fun i => ?_
            by_cases e : i = ⟨k, h⟩
            · subst e; rw [setD_same]
            · rw [setD_ne _ _ e, setD_ne _ _ e]
    · rename_i h
      rw [mem_boxK d k]
      refine ⟨fun x => ⟨fun i hi => x.1 i ?_, fun i hi => x.2 i (by omega)⟩, fun x => ⟨fun i hi => x.1 i (by omega), fun i hi => x.2 i ?_⟩⟩
      · have := i.2; omega
      · have := i.2; omega
theorem nodup_flatMap {α β : Type} {f : α → List β} : ∀ {l : List α}, l.Nodup → (∀ a, a ∈ l → (f a).Nodup) → (∀ a b, a ∈ l → b ∈ l → ∀ x, x ∈ f a → x ∈ f b → a = b) → (l.flatMap f).Nodup
  | [], _, _, _ => List.nodup_nil
  | a :: l, h, h1, h2 => by
    rw [List.flatMap_cons, List.nodup_append]
    have h' := List.nodup_cons.mp h
    refine ⟨h1 a (List.mem_cons_self ..), nodup_flatMap h'.2 (fun b hb => h1 b (List.mem_cons_of_mem _ hb)) fun b c hb hc => h2 b c (List.mem_cons_of_mem _ hb) (List.mem_cons_of_mem _ hc), fun x hx y hy e => ?_⟩
    subst e
    obtain ⟨b, hb, hy⟩ := List.mem_flatMap.mp hy
    exact h'.1 (h2 a b (List.mem_cons_self ..) (List.mem_cons_of_mem _ hb) x hx hy ▸ hb)
theorem nodup_map {α β : Type} {f : α → β} : ∀ {l : List α}, l.Nodup → (∀ a b, a ∈ l → b ∈ l → f a = f b → a = b) → (l.map f).Nodup
  | [], _, _ => List.nodup_nil
  | a :: l, h, h2 => by
    have h' := List.nodup_cons.mp h
    rw [List.map_cons, List.nodup_cons]
    refine ⟨fun hm => ?_, nodup_map h'.2 fun b c hb hc => h2 b c (List.mem_cons_of_mem _ hb) (List.mem_cons_of_mem _ hc)⟩
    obtain ⟨b, hb, e⟩ := List.mem_map.mp hm
    exact h'.1 (h2 b a (List.mem_cons_of_mem _ hb) (List.mem_cons_self ..) e ▸ hb)
theorem nodup_boxK (d : Dg n) : ∀ k, (boxK d k).Nodup
  | 0 => by rw [boxK]; exact List.nodup_cons.mpr ⟨List.not_mem_nil, List.nodup_nil⟩
  | k + 1 => by
    rw [boxK]
    split
    · rename_i h
      refine nodup_flatMap (nodup_boxK d k) (fun a _ => nodup_map List.nodup_range fun u v _ _ e => ?_) fun a b ha hb x hx hy => ?_
      · have := congrFun e ⟨k, h⟩
        rw [setD_same, setD_same] at this
        exact this
      · obtain ⟨u, _, rfl⟩ := List.mem_map.mp hx
        obtain ⟨v, _, e⟩ := List.mem_map.mp hy
        rw [mem_boxK] at ha hb
        refine dg_ext fun i => ?_
        by_cases z : i = ⟨k, h⟩
        · subst z
          rw [ha.2 _ (Nat.le_refl _), hb.2 _ (Nat.le_refl _)]
        · have := congrFun e i
          rw [setD_ne _ _ z, setD_ne _ _ z] at this
          exact this.symm
    · exact nodup_boxK d k
def box (d : Dg n) : List (Dg n) := boxK d n
theorem mem_box {d a : Dg n} : a ∈ box d ↔ a ≤ d := by
  unfold box
  rw [mem_boxK]
  exact ⟨fun h i => h.1 i i.2, fun h => ⟨fun i _ => h i, fun i hi => absurd i.2 (by omega)⟩⟩
theorem nodup_box (d : Dg n) : (box d).Nodup := nodup_boxK d n
/-- the sums over the two ways to cut in three -/
theorem box_assoc {R : Type} [Lean.Grind.CommRing R] (d : Dg n) (G : Dg n → Dg n → R) :
    ls (box d) (fun a => ls (box a) fun b => G b (a - b)) = ls (box d) fun b => ls (box (d - b)) fun c => G b c := by
  have h1 : ∀ a, a ∈ box d → ls (box a) (fun b => G b (a - b)) = ls (box d) fun b => if b ≤ a then G b (a - b) else 0 := by
    intro a ha
    rw [mem_box] at ha
    refine ls_bij id _ _ (nodup_box _) (nodup_box _) (fun b hb hn => ?_) (fun _ _ _ _ _ _ e => e) fun b hb hn => ?_
    · rw [mem_box] at hb
      exact ⟨mem_box.mpr (dle_trans hb ha), if_pos hb⟩
    · by_cases h : b ≤ a
      · rw [if_pos h] at hn
        exact ⟨b, mem_box.mpr h, hn, rfl⟩
      · rw [if_neg h] at hn
        exact absurd rfl hn
  rw [ls_congr h1, ls_swap]
  refine ls_congr fun b hb => ?_
  rw [mem_box] at hb
  refine ls_bij (fun a => a - b) _ _ (nodup_box _) (nodup_box _) (fun a ha hn => ?_) (fun a c ha hc hn hn2 e => ?_) fun c hc hn => ?_
  · rw [mem_box] at ha
    by_cases h : b ≤ a
    · rw [if_pos h]
      exact ⟨mem_box.mpr fun i => by have := le_at ha i; simp; omega, rfl⟩
    · rw [if_neg h] at hn
      exact absurd rfl hn
  · have h : b ≤ a := Classical.byContradiction fun h => hn (if_neg h)
    have h2 : b ≤ c := Classical.byContradiction fun h => hn2 (if_neg h)
    rw [← dadd_sub h, ← dadd_sub h2]
    exact congrArg (b + ·) e
  · rw [mem_box] at hc
    refine ⟨b + c, mem_box.mpr fun i => ?_, ?_, dadd_sub_cancel b c⟩
    · have := le_at hc i
      have := le_at hb i
      simp at *
      omega
    · rw [if_pos (dle_add b c), dadd_sub_cancel]
      exact hn
theorem box_swap {R : Type} [Lean.Grind.CommRing R] (d : Dg n) (G : Dg n → Dg n → R) : ls (box d) (fun a => G a (d - a)) = ls (box d) fun a => G (d - a) a := by
  refine ls_bij (fun a => d - a) _ _ (nodup_box _) (nodup_box _) (fun a ha hn => ?_) (fun a c ha hc hn hn2 e => ?_) fun c hc hn => ?_
  · rw [mem_box] at ha
    exact ⟨mem_box.mpr (dsub_le d a), by rw [dsub_sub_self ha]⟩
  · rw [mem_box] at ha hc
    have := congrArg (d - ·) e
    simpa only [dsub_sub_self ha, dsub_sub_self hc] using this
  · rw [mem_box] at hc
    exact ⟨d - c, mem_box.mpr (dsub_le d c), by rw [dsub_sub_self hc]; exact hn, dsub_sub_self hc⟩
end SC
set_option Elab.async false
set_option linter.all false
namespace SC
variable {n : Nat}
/-! ### powers of two -/
def pw (z : Int) : Rat := (2 : Rat) ^ z
theorem pw_add (a b : Int) : pw (a + b) = pw a * pw b := Lean.Grind.Field.zpow_add (by decide) a b
theorem pw_zero : pw 0 = 1 := Rat.zpow_zero _
theorem pw_pos (a : Int) : 0 < pw a := Rat.zpow_pos (by decide)
theorem pw_ne (a : Int) : pw a ≠ 0 := fun h => by have := pw_pos a; rw [h] at this; exact absurd this (by decide)
/-! ### a skew form, its algebra -/
structure Form (n : Nat) where
  Om : Dg n → Dg n → Int
  addl : ∀ a b c, Om (a + b) c = Om a c + Om b c
  skew : ∀ a b, Om a b = - Om b a
theorem Form.addr (F : Form n) (a b c : Dg n) : F.Om a (b + c) = F.Om a b + F.Om a c := by
  rw [F.skew, F.addl, F.skew b, F.skew c]; omega
theorem Form.zl (F : Form n) (a : Dg n) : F.Om 0 a = 0 := by
  have := F.addl 0 0 a
  rw [dzero_add] at this
  omega
theorem Form.zr (F : Form n) (a : Dg n) : F.Om a 0 = 0 := by rw [F.skew, F.zl]; omega
theorem Form.self (F : Form n) (a : Dg n) : F.Om a a = 0 := by have := F.skew a a; omega
theorem Form.subr (F : Form n) {a c : Dg n} (b : Dg n) (h : a ≤ c) : F.Om b (c - a) = F.Om b c - F.Om b a := by
  have := F.addr b a (c - a)
  rw [dadd_sub h] at this
  omega
theorem Form.subl (F : Form n) {a c : Dg n} (b : Dg n) (h : a ≤ c) : F.Om (c - a) b = F.Om c b - F.Om a b := by
  have := F.addl a (c - a) b
  rw [dadd_sub h] at this
  omega
def El (n : Nat) := Dg n → Rat
instance : CoeFun (El n) (fun _ => Dg n → Rat) := ⟨fun f => f⟩
instance : Add (El n) := ⟨fun f g d => f d + g d⟩
instance : Sub (El n) := ⟨fun f g d => f d - g d⟩
theorem el_ext {f g : El n} (h : ∀ d, f d = g d) : f = g := funext h
theorem eadd_at (f g : El n) (d : Dg n) : (f + g) d = f d + g d := rfl
theorem esub_at (f g : El n) (d : Dg n) : (f - g) d = f d - g d := rfl
open Classical in
noncomputable def one : El n := fun d => if d = 0 then 1 else 0
theorem one_zero : (one : El n) 0 = 1 := if_pos rfl
theorem one_ne {d : Dg n} (h : d ≠ 0) : one d = 0 := if_neg h
def mul (F : Form n) (f g : El n) : El n := fun d => ls (box d) fun a => pw (-F.Om a (d - a)) * f a * g (d - a)
theorem mul_at (F : Form n) (f g : El n) (d : Dg n) : mul F f g d = ls (box d) fun a => pw (-F.Om a (d - a)) * f a * g (d - a) := rfl
def tri (F : Form n) (f g h : El n) (d b c : Dg n) : Rat := pw (-(F.Om b c + F.Om (b + c) (d - (b + c)))) * f b * g c * h (d - (b + c))
theorem mul_assoc (F : Form n) (f g h : El n) : mul F (mul F f g) h = mul F f (mul F g h) := by
  refine el_ext fun d => ?_
  have e1 : mul F (mul F f g) h d = ls (box d) fun a => ls (box a) fun b => tri F f g h d b (a - b) := by
    rw [mul_at]
    refine ls_congr fun a ha => ?_
    rw [mul_at, ← ls_mul (R := Rat), ← ls_mulr (R := Rat)]
    refine ls_congr fun b hb => ?_
    rw [mem_box] at hb
    show _ = pw (-(F.Om b (a - b) + F.Om (b + (a - b)) (d - (b + (a - b))))) * f b * g (a - b) * h (d - (b + (a - b)))
    rw [dadd_sub hb, Int.neg_add, pw_add]
    grind
  have e2 : mul F f (mul F g h) d = ls (box d) fun b => ls (box (d - b)) fun c => tri F f g h d b c := by
    rw [mul_at]
    refine ls_congr fun b hb => ?_
    rw [mul_at, ← ls_mul (R := Rat)]
    refine ls_congr fun c hc => ?_
    rw [mem_box] at hb hc
    show _ = pw (-(F.Om b c + F.Om (b + c) (d - (b + c)))) * f b * g c * h (d - (b + c))
    have es : d - (b + c) = d - b - c := dg_ext fun i => by simp; omega
    rw [es, F.addl, F.subr b hc, show -(F.Om b c + (F.Om b (d - b) - F.Om b c + F.Om c (d - b - c))) = -F.Om b (d - b) + -F.Om c (d - b - c) by omega, pw_add]
    grind
  rw [e1, e2]
  exact box_assoc d _
theorem mul_one (F : Form n) (f : El n) : mul F f one = f := by
  refine el_ext fun d => ?_
  rw [mul_at, ls_single d (nodup_box d) (mem_box.mpr (dle_refl d)) fun b hb hn => ?_]
  · rw [dsub_self, F.zr, one_zero]
    have : pw (-0) = 1 := pw_zero
    rw [this]; grind
  · rw [mem_box] at hb
    rw [one_ne (d := d - b) fun z => hn ?_]
    · grind
    · have e := dadd_sub hb
      rw [z, dadd_zero] at e
      exact e
theorem one_mul (F : Form n) (f : El n) : mul F one f = f := by
  refine el_ext fun d => ?_
  rw [mul_at, ls_single 0 (nodup_box d) (mem_box.mpr (dzero_le d)) fun b hb hn => ?_]
  · rw [dsub_zero, F.zl, one_zero]
    have : pw (-0) = 1 := pw_zero
    rw [this]; grind
  · rw [one_ne hn]; grind
theorem mul_add (F : Form n) (f g h : El n) : mul F f (g + h) = mul F f g + mul F f h := el_ext fun d => by
  rw [eadd_at, mul_at, mul_at, mul_at, ← ls_add]
  exact ls_congr fun a _ => by rw [eadd_at]; grind
theorem add_mul (F : Form n) (f g h : El n) : mul F (f + g) h = mul F f h + mul F g h := el_ext fun d => by
  rw [eadd_at, mul_at, mul_at, mul_at, ← ls_add]
  exact ls_congr fun a _ => by rw [eadd_at]; grind
theorem mul_sub (F : Form n) (f g h : El n) : mul F f (g - h) = mul F f g - mul F f h := el_ext fun d => by
  rw [esub_at, mul_at, mul_at, mul_at, ← ls_sub]
  exact ls_congr fun a _ => by rw [esub_at]; grind
theorem sub_mul (F : Form n) (f g h : El n) : mul F (f - g) h = mul F f h - mul F g h := el_ext fun d => by
  rw [esub_at, mul_at, mul_at, mul_at, ← ls_sub]
  exact ls_congr fun a _ => by rw [esub_at]; grind
/-! the inner terms of a product -/
open Classical in
noncomputable def mid (F : Form n) (f g : El n) (d : Dg n) : Rat := ls (box d) fun a => if a = 0 ∨ a = d then 0 else pw (-F.Om a (d - a)) * f a * g (d - a)
theorem mul_zero_at (F : Form n) (f g : El n) : mul F f g 0 = f 0 * g 0 := by
  rw [mul_at, ls_single 0 (nodup_box _) (mem_box.mpr (dle_refl _)) fun b hb hn => absurd (dle_zero (mem_box.mp hb)) hn]
  rw [dsub_zero, F.zl]
  have : pw (-0) = 1 := pw_zero
  rw [this]; grind
open Classical in
theorem mul_split (F : Form n) (f g : El n) {d : Dg n} (hd : d ≠ 0) : mul F f g d = f 0 * g d + f d * g 0 + mid F f g d := by
  have h1 : ls (box d) (fun a => if a = 0 then f 0 * g d else 0) = f 0 * g d := by
    rw [ls_single 0 (nodup_box d) (mem_box.mpr (dzero_le d)) fun b hb hn => if_neg hn]
    exact if_pos rfl
  have h2 : ls (box d) (fun a => if a = d then f d * g 0 else 0) = f d * g 0 := by
    rw [ls_single d (nodup_box d) (mem_box.mpr (dle_refl d)) fun b hb hn => if_neg hn]
    exact if_pos rfl
  have p0 : pw (-0) = 1 := pw_zero
  rw [mul_at, mid, ← h1, ← h2, ← ls_add, ← ls_add]
  refine ls_congr fun a ha => ?_
  by_cases e : a = 0
  · subst e
    rw [if_pos rfl, if_neg (Ne.symm hd), if_pos (Or.inl rfl), dsub_zero, F.zl, p0]; grind
  · by_cases e2 : a = d
    · subst e2
      rw [if_neg e, if_pos rfl, if_pos (Or.inr rfl), dsub_self, F.zr, p0]; grind
    · rw [if_neg e, if_neg e2, if_neg (fun h => h.elim e e2)]; grind
def low (d : Dg n) (a : Dg n) : Prop := a ≤ d ∧ a ≠ d
theorem low_sub {d a : Dg n} (h : a ≤ d) (h0 : a ≠ 0) : low d (d - a) := ⟨dsub_le d a, fun e => h0 (by
  have := dsub_sub_self h
  rw [e, dsub_self] at this
  exact this.symm)⟩
theorem mid_congr (F : Form n) {f f' g g' : El n} {d : Dg n} (hf : ∀ a, low d a → f a = f' a) (hg : ∀ a, low d a → g a = g' a) : mid F f g d = mid F f' g' d := by
  refine ls_congr fun a ha => ?_
  rw [mem_box] at ha
  by_cases e : a = 0 ∨ a = d
  · rw [if_pos e, if_pos e]
  · rw [if_neg e, if_neg e, hf a ⟨ha, fun z => e (.inr z)⟩, hg _ (low_sub ha fun z => e (.inl z))]
theorem mid_ne (F : Form n) {f g : El n} {d : Dg n} (h : mid F f g d ≠ 0) : ∃ a, a ≤ d ∧ a ≠ 0 ∧ a ≠ d ∧ f a ≠ 0 ∧ g (d - a) ≠ 0 := by
  obtain ⟨a, ha, hn⟩ := ls_ne h
  rw [mem_box] at ha
  by_cases e : a = 0 ∨ a = d
  · rw [if_pos e] at hn
    exact absurd rfl hn
  · rw [if_neg e] at hn
    refine ⟨a, ha, fun z => e (.inl z), fun z => e (.inr z), fun z => hn ?_, fun z => hn ?_⟩
    · rw [z]; grind
    · rw [z]; grind
theorem mul_ne (F : Form n) {f g : El n} {d : Dg n} (h : mul F f g d ≠ 0) : ∃ a, a ≤ d ∧ f a ≠ 0 ∧ g (d - a) ≠ 0 := by
  obtain ⟨a, ha, hn⟩ := ls_ne h
  rw [mem_box] at ha
  refine ⟨a, ha, fun z => hn ?_, fun z => hn ?_⟩
  · rw [z]; grind
  · rw [z]; grind
/-- strong induction -/
theorem dg_ind {P : Dg n → Prop} (h : ∀ d, (∀ a, low d a → P a) → P d) (d : Dg n) : P d := by
  suffices H : ∀ N d, size d < N → P d from H (size d + 1) d (Nat.lt_succ_self _)
  intro N
  induction N with
  | zero => exact fun d hd => absurd hd (Nat.not_lt_zero _)
  | succ N ih => exact fun d hd => h d fun a ha => ih a (by have := size_lt ha.1 ha.2; omega)
theorem exists_fix (T : El n → El n) (h : ∀ f g d, (∀ a, low d a → f a = g a) → T f d = T g d) : ∃ f : El n, ∀ d, f d = T f d := by
  classical
  have wf : WellFounded fun (a d : Dg n) => size a < size d := InvImage.wf size Nat.lt_wfRel.wf
  refine ⟨wf.fix fun d r => T (fun a => if z : size a < size d then r a z else 0) d, fun d => ?_⟩
  rw [WellFounded.fix_eq]
  refine h _ _ d fun a ha => ?_
  exact dif_pos (size_lt ha.1 ha.2)
def Supp (f : El n) (P : Dg n → Prop) : Prop := ∀ d, f d ≠ 0 → P d
theorem Supp.mono {f : El n} {P Q : Dg n → Prop} (h : Supp f P) (h2 : ∀ d, P d → Q d) : Supp f Q := fun d hd => h2 d (h d hd)
theorem Supp.mul (F : Form n) {f g : El n} {P : Dg n → Prop} (h : Supp f P) (h2 : Supp g P) (hp : ∀ a b, P a → P b → P (a + b)) : Supp (mul F f g) P := fun d hd => by
  obtain ⟨a, ha, h3, h4⟩ := mul_ne F hd
  rw [← dadd_sub ha]
  exact hp _ _ (h a h3) (h2 _ h4)
theorem supp_one {P : Dg n → Prop} (h : P 0) : Supp one P := fun d hd => by
  by_cases e : d = 0
  · rw [e]; exact h
  · exact absurd (one_ne e) hd
/-! ### inverses -/
open Classical in
theorem exists_left (F : Form n) (f : El n) (h0 : f 0 = 1) : ∃ g : El n, g 0 = 1 ∧ mul F g f = one ∧ ∀ P : Dg n → Prop, P 0 → (∀ a b, P a → P b → P (a + b)) → Supp f P → Supp g P := by
  obtain ⟨g, hg⟩ := exists_fix (fun (g : El n) d => if d = 0 then (1 : Rat) else -(f d + mid F g f d)) fun g g' d h => by
    show (if d = 0 then (1 : Rat) else _) = if d = 0 then (1 : Rat) else _
    rw [mid_congr F (f := g) (f' := g') h fun a _ => rfl]
  have g0 : g 0 = 1 := (hg 0).trans (if_pos rfl)
  refine ⟨g, g0, el_ext fun d => ?_, fun P p0 pa hf d => ?_⟩
  · by_cases e : d = 0
    · subst e
      rw [mul_zero_at, g0, h0, one_zero]; grind
    · rw [mul_split F g f e, g0, h0, one_ne e, hg d]
      simp only [if_neg e]; grind
  · refine dg_ind (P := fun d => g d ≠ 0 → P d) (fun d ih hd => ?_) d
    by_cases e : d = 0
    · rw [e]; exact p0
    · rw [hg d] at hd
      simp only [if_neg e] at hd
      by_cases z : f d = 0
      · obtain ⟨a, ha, h1, h2, h3, h4⟩ := mid_ne F (f := g) (g := f) (d := d) (fun y => hd (by rw [z, y]; grind))
        rw [← dadd_sub ha]
        exact pa _ _ (ih a ⟨ha, h2⟩ h3) (hf _ h4)
      · exact hf d z
theorem exists_inv (F : Form n) (f : El n) (h0 : f 0 = 1) : ∃ g : El n, g 0 = 1 ∧ mul F g f = one ∧ mul F f g = one ∧ ∀ P : Dg n → Prop, P 0 → (∀ a b, P a → P b → P (a + b)) → Supp f P → Supp g P := by
  obtain ⟨g, g0, hg, hs⟩ := exists_left F f h0
  obtain ⟨k, k0, hk, _⟩ := exists_left F g g0
  refine ⟨g, g0, hg, ?_, hs⟩
  have : k = f := by rw [← mul_one F k, ← hg, ← mul_assoc, hk, one_mul]
  rw [← this]; exact hk
noncomputable def inv (F : Form n) (f : El n) (h0 : f 0 = 1) : El n := Classical.choose (exists_inv F f h0)
theorem inv0 (F : Form n) {f : El n} (h0 : f 0 = 1) : inv F f h0 0 = 1 := (Classical.choose_spec (exists_inv F f h0)).1
theorem inv_mul (F : Form n) {f : El n} (h0 : f 0 = 1) : mul F (inv F f h0) f = one := (Classical.choose_spec (exists_inv F f h0)).2.1
theorem mul_inv (F : Form n) {f : El n} (h0 : f 0 = 1) : mul F f (inv F f h0) = one := (Classical.choose_spec (exists_inv F f h0)).2.2.1
theorem inv_supp (F : Form n) {f : El n} (h0 : f 0 = 1) {P : Dg n → Prop} (p0 : P 0) (pa : ∀ a b, P a → P b → P (a + b)) (h : Supp f P) : Supp (inv F f h0) P := (Classical.choose_spec (exists_inv F f h0)).2.2.2 P p0 pa h
theorem inv_cancel (F : Form n) {f : El n} (h0 : f 0 = 1) (g : El n) : mul F (inv F f h0) (mul F f g) = g := by rw [← mul_assoc, inv_mul, one_mul]
theorem cancel_inv (F : Form n) {f : El n} (h0 : f 0 = 1) (g : El n) : mul F f (mul F (inv F f h0) g) = g := by rw [← mul_assoc, mul_inv, one_mul]
theorem mul_left_cancel (F : Form n) {f g g' : El n} (h0 : f 0 = 1) (h : mul F f g = mul F f g') : g = g' := by
  rw [← inv_cancel F h0 g, h, inv_cancel]
/-! ### the cut by a sign -/
open Classical in
theorem exists_cut (F : Form n) (th : Dg n → Int) (y : El n) (y0 : y 0 = 1) (t0 : th 0 = 0) : ∃ p : El n, p 0 = 1 ∧ Supp p (fun a => a = 0 ∨ 0 < th a) ∧ Supp (mul F p y) (fun a => th a ≤ 0) ∧
    ∀ P : Dg n → Prop, P 0 → (∀ a b, P a → P b → P (a + b)) → Supp y P → Supp p P := by
  obtain ⟨p, hp⟩ := exists_fix (fun (p : El n) d => if d = 0 then (1 : Rat) else if 0 < th d then -(y d + mid F p y d) else 0) fun g g' d h => by
    show (if d = 0 then (1 : Rat) else if _ then _ else _) = if d = 0 then (1 : Rat) else if _ then _ else _
    rw [mid_congr F (f := g) (f' := g') h fun a _ => rfl]
  have p0 : p 0 = 1 := (hp 0).trans (if_pos rfl)
  refine ⟨p, p0, fun d hd => ?_, fun d hd => ?_, fun P q0 pa hy d => ?_⟩
  · by_cases e : d = 0
    · exact .inl e
    · refine .inr (Classical.byContradiction fun h => hd ?_)
      rw [hp d]
      simp only [if_neg e, if_neg h]
  · by_cases e : d = 0
    · subst e; exact Int.le_of_eq t0
    · refine Classical.byContradiction fun h => hd ?_
      have e2 := hp d
      simp only [if_neg e, if_pos (show 0 < th d by omega)] at e2
      rw [mul_split F p y e, p0, y0, e2]; grind
  · refine dg_ind (P := fun d => p d ≠ 0 → P d) (fun d ih hd => ?_) d
    by_cases e : d = 0
    · rw [e]; exact q0
    · rw [hp d] at hd
      simp only [if_neg e] at hd
      by_cases h : 0 < th d
      · rw [if_pos h] at hd
        by_cases z : y d = 0
        · obtain ⟨a, ha, h1, h2, h3, h4⟩ := mid_ne F (f := p) (g := y) (d := d) (fun y => hd (by rw [z, y]; grind))
          rw [← dadd_sub ha]
          exact pa _ _ (ih a ⟨ha, h2⟩ h3) (hy _ h4)
        · exact hy d z
      · rw [if_neg h] at hd
        exact absurd rfl hd
theorem cut_unique (F : Form n) {th : Dg n → Int} (ta : ∀ a b, th (a + b) = th a + th b) {y p p' : El n} (y0 : y 0 = 1) (p0 : p 0 = 1) (p0' : p' 0 = 1)
    (hp : Supp p (fun a => a = 0 ∨ 0 < th a)) (hp' : Supp p' (fun a => a = 0 ∨ 0 < th a)) (hr : Supp (mul F p y) fun a => th a ≤ 0) (hr' : Supp (mul F p' y) fun a => th a ≤ 0) : p = p' := by
  have t0 : th 0 = 0 := by have := ta 0 0; rw [dzero_add] at this; omega
  have r0 : mul F p y 0 = 1 := by rw [mul_zero_at, p0, y0]; grind
  have cl : ∀ a b : Dg n, (a = 0 ∨ 0 < th a) → (b = 0 ∨ 0 < th b) → (a + b = 0 ∨ 0 < th (a + b)) := by
    intro a b ha hb
    rcases ha with rfl | ha
    · rw [dzero_add]; exact hb
    · rcases hb with rfl | hb
      · rw [dadd_zero]; exact .inr ha
      · right; rw [ta]; omega
  have cl2 : ∀ a b : Dg n, th a ≤ 0 → th b ≤ 0 → th (a + b) ≤ 0 := fun a b ha hb => by rw [ta]; omega
  have s1 : Supp (mul F p' (inv F p p0)) (fun a => a = 0 ∨ 0 < th a) := hp'.mul F (inv_supp F p0 (.inl rfl) cl hp) cl
  have e : mul F p' (inv F p p0) = mul F (mul F p' y) (inv F (mul F p y) r0) := by
    have e2 : mul F (inv F p p0) (mul F p y) = y := inv_cancel F p0 y
    calc mul F p' (inv F p p0) = mul F p' (mul F (mul F (inv F p p0) (mul F p y)) (inv F (mul F p y) r0)) := by
          rw [mul_assoc, mul_inv, mul_one]
      _ = _ := by rw [e2, mul_assoc]
  have s2 : Supp (mul F p' (inv F p p0)) (fun a => th a ≤ 0) := by
    rw [e]
    exact hr'.mul F (inv_supp F r0 (show th 0 ≤ 0 by omega) cl2 hr) cl2
  have s3 : mul F p' (inv F p p0) = one := el_ext fun d => by
    by_cases z : d = 0
    · subst z
      rw [mul_zero_at, p0', inv0, one_zero]; grind
    · rw [one_ne z]
      refine Classical.byContradiction fun h => ?_
      have a := s1 d h
      have b := s2 d h
      rcases a with a | a
      · exact z a
      · omega
  have := congrArg (fun z => mul F z p) s3
  simp only [mul_assoc, inv_mul, mul_one, one_mul] at this
  exact this.symm
end SC
set_option Elab.async false
set_option linter.all false
namespace SC
variable {n : Nat}
/-! ### powers of an element, the logarithm's coefficient -/
noncomputable def hp (F : Form n) (h : El n) : Nat → El n
  | 0 => one
  | m + 1 => mul F (hp F h m) h
theorem hp_comm (F : Form n) (h : El n) : ∀ m, mul F h (hp F h m) = hp F h (m + 1)
  | 0 => by rw [hp, hp, hp, mul_one, one_mul]
  | m + 1 => by rw [hp, ← mul_assoc, hp_comm F h m, hp]; rfl
theorem hp_add (F : Form n) (h : El n) (m : Nat) : ∀ k, mul F (hp F h m) (hp F h k) = hp F h (m + k)
  | 0 => by rw [hp, mul_one]; rfl
  | k + 1 => by rw [hp, ← mul_assoc, hp_add F h m k]; rfl
theorem hp_size (F : Form n) {h : El n} (h0 : h 0 = 0) : ∀ (m : Nat) (d : Dg n), hp F h m d ≠ 0 → m ≤ size d
  | 0, _, _ => Nat.zero_le _
  | m + 1, d, hd => by
    obtain ⟨a, ha, h1, h2⟩ := mul_ne F hd
    have := hp_size F h0 m a h1
    have e : size d = size a + size (d - a) := by rw [← size_add, dadd_sub ha]
    have : size (d - a) ≠ 0 := fun z => h2 (by rw [size_zero z]; exact h0)
    omega
def sgn (m : Nat) : Rat := (-1) ^ m
theorem sgn_succ (m : Nat) : sgn (m + 1) = - sgn m := by
  unfold sgn; rw [Rat.pow_succ]; grind
theorem sgn_zero : sgn 0 = 1 := Rat.pow_zero _
noncomputable def Dl (F : Form n) (h : El n) (d : Dg n) : Rat := ls (List.range (size d)) fun m => sgn m * (1 / ((m : Rat) + 1)) * hp F h (m + 1) d
theorem ls_map {R : Type} [Lean.Grind.CommRing R] {α β : Type} (φ : α → β) (f : β → R) : ∀ l : List α, ls (l.map φ) f = ls l fun a => f (φ a)
  | [] => rfl
  | a :: l => by rw [List.map_cons, ls_cons, ls_cons, ls_map φ f l]
theorem ls_range_succ {R : Type} [Lean.Grind.CommRing R] (f : Nat → R) (N : Nat) : ls (List.range (N + 1)) f = ls (List.range N) f + f N := by
  rw [List.range_succ, ls_append, ls_cons, ls_nil]; grind
theorem ls_range_more {R : Type} [Lean.Grind.CommRing R] (f : Nat → R) {N : Nat} (h : ∀ m, N ≤ m → f m = 0) : ∀ k, ls (List.range (N + k)) f = ls (List.range N) f
  | 0 => rfl
  | k + 1 => by
    rw [← Nat.add_assoc, ls_range_succ, h (N + k) (Nat.le_add_right ..), ls_range_more f h k]; grind
/-- any greater bound will do -/
theorem Dl_more (F : Form n) {h : El n} (h0 : h 0 = 0) {d : Dg n} {N : Nat} (hN : size d ≤ N) : Dl F h d = ls (List.range N) fun m => sgn m * (1 / ((m : Rat) + 1)) * hp F h (m + 1) d := by
  obtain ⟨k, rfl⟩ := Nat.exists_eq_add_of_le hN
  refine (ls_range_more _ (fun m hm => ?_) k).symm
  have : hp F h (m + 1) d = 0 := Classical.byContradiction fun z => by
    have := hp_size F h0 (m + 1) d z
    omega
  rw [this]; grind
/-- how it hangs on the last coefficient -/
theorem hp_low (F : Form n) {h h' : El n} (h0 : h 0 = 0) (h0' : h' 0 = 0) : ∀ (m : Nat) (d : Dg n), (∀ a, low d a → h a = h' a) → h d = h' d ∨ m ≠ 1 → hp F h m d = hp F h' m d
  | 0, d, _, _ => rfl
  | m + 1, d, hl, hm => by
    by_cases e : d = 0
    · subst e
      rw [hp, hp, mul_zero_at, mul_zero_at, h0, h0']; grind
    · rw [hp, hp, mul_split F _ _ e, mul_split F _ _ e, h0, h0']
      have hlow : ∀ a, low d a → hp F h m a = hp F h' m a := fun a ha => hp_low F h0 h0' m a (fun b hb => hl b ⟨dle_trans hb.1 ha.1, fun z => ha.2 (dle_antisymm ha.1 (z ▸ hb.1))⟩) (.inl (hl a ha))
      rw [mid_congr F (f := hp F h m) (f' := hp F h' m) (g := h) (g' := h') hlow hl]
      rcases m with _ | m
      · rcases hm with hm | hm
        · rw [hm]; show hp F h 0 0 * _ + _ + _ = hp F h 0 0 * _ + _ + _; grind
        · exact absurd rfl hm
      · have z1 : hp F h (m + 1) 0 = 0 := by rw [hp, mul_zero_at, h0]; grind
        have z2 : hp F h' (m + 1) 0 = 0 := by rw [hp, mul_zero_at, h0']; grind
        rw [z1, z2]; grind
theorem Dl_low (F : Form n) {h h' : El n} (h0 : h 0 = 0) (h0' : h' 0 = 0) {d : Dg n} (hd : d ≠ 0) (hl : ∀ a, low d a → h a = h' a) : Dl F h d - Dl F h' d = h d - h' d := by
  have hs : size d ≠ 0 := fun z => hd (size_zero z)
  obtain ⟨N, hN⟩ := Nat.exists_eq_succ_of_ne_zero hs
  have key : ∀ N, ls (List.range (N + 1)) (fun m => sgn m * (1 / ((m : Rat) + 1)) * hp F h (m + 1) d) - ls (List.range (N + 1)) (fun m => sgn m * (1 / ((m : Rat) + 1)) * hp F h' (m + 1) d) = h d - h' d := by
    intro N
    induction N with
    | zero =>
      have e1 : hp F h 1 d = h d := by rw [hp, hp, one_mul]
      have e2 : hp F h' 1 d = h' d := by rw [hp, hp, one_mul]
      have e3 : (1 : Rat) / (((0 : Nat) : Rat) + 1) = 1 := by
        rw [show ((0 : Nat) : Rat) = 0 from rfl]; grind
      show (sgn 0 * (1 / (((0 : Nat) : Rat) + 1)) * hp F h 1 d + 0) - (sgn 0 * (1 / (((0 : Nat) : Rat) + 1)) * hp F h' 1 d + 0) = _
      rw [e1, e2, e3, sgn_zero]; grind
    | succ N ih =>
      rw [ls_range_succ _ (N + 1), ls_range_succ _ (N + 1), hp_low F h0 h0' (N + 1 + 1) d hl (.inr (by omega))]
      grind
  unfold Dl
  rw [hN]
  exact key N
/-! ### the trace -/
def Th (F : Form n) (d : Dg n) (f : El n) : Prop := Supp f fun a => F.Om d a = 0
theorem Th.mul {F : Form n} {d : Dg n} {f g : El n} (h : Th F d f) (h2 : Th F d g) : Th F d (mul F f g) := Supp.mul F h h2 fun a b x y => by rw [F.addr, x, y]; rfl
theorem th_one (F : Form n) (d : Dg n) : Th F d one := supp_one (F.zr d)
theorem Th.inv {F : Form n} {d : Dg n} {f : El n} (h : Th F d f) (h0 : f 0 = 1) : Th F d (inv F f h0) := inv_supp F h0 (F.zr d) (fun a b x y => by rw [F.addr, x, y]; rfl) h
theorem Th.hp {F : Form n} {d : Dg n} {f : El n} (h : Th F d f) : ∀ m, Th F d (hp F f m)
  | 0 => th_one F d
  | m + 1 => (Th.hp h m).mul h
theorem trace (F : Form n) {d : Dg n} {f g : El n} (hf : Th F d f) (hg : Th F d g) : mul F f g d = mul F g f d := by
  have e := box_swap d fun a b => pw (-F.Om b a) * f a * g b
  rw [mul_at, mul_at]
  have h1 : ls (box d) (fun a => pw (-F.Om a (d - a)) * f a * g (d - a)) = ls (box d) fun a => pw (-F.Om (d - a) a) * f a * g (d - a) := by
    refine ls_congr fun a ha => ?_
    rw [mem_box] at ha
    by_cases z : f a = 0
    · rw [z]; grind
    · have t := hf a z
      have s1 : F.Om a (d - a) = 0 := by rw [F.subr a ha, F.self, F.skew a d, t]; rfl
      have s2 : F.Om (d - a) a = 0 := by rw [F.skew, s1]; rfl
      rw [s1, s2]
  rw [h1]
  refine e.trans (ls_congr fun a ha => ?_)
  show pw (-F.Om a (d - a)) * f (d - a) * g a = pw (-F.Om a (d - a)) * g a * f (d - a)
  grind
/-! ### the derivation -/
def dv (f : El n) : El n := fun d => (size d : Rat) * f d
theorem dv_at (f : El n) (d : Dg n) : dv f d = (size d : Rat) * f d := rfl
theorem cast_add (a b : Nat) : ((a + b : Nat) : Rat) = (a : Rat) + (b : Rat) := Rat.natCast_add a b
theorem dv_mul (F : Form n) (f g : El n) : dv (mul F f g) = mul F (dv f) g + mul F f (dv g) := el_ext fun d => by
  rw [eadd_at, dv_at, mul_at, mul_at, mul_at, ← ls_mul (R := Rat), ← ls_add (R := Rat)]
  refine ls_congr fun a ha => ?_
  rw [mem_box] at ha
  have e : size d = size a + size (d - a) := by rw [← size_add, dadd_sub ha]
  rw [dv_at, dv_at, e, cast_add]; grind
theorem Th.dv {F : Form n} {d : Dg n} {f : El n} (h : Th F d f) : Th F d (dv f) := fun a ha => h a fun z => ha (by rw [dv_at, z]; grind)
theorem dv_one : dv (one : El n) = fun _ => 0 := el_ext fun d => by
  rw [dv_at]
  by_cases z : d = 0
  · subst z; rw [size0]; show (0 : Rat) * _ = 0; grind
  · rw [one_ne z]; grind
theorem dv_hp (F : Form n) {d : Dg n} {y : El n} (hy : Th F d y) : ∀ m j : Nat, mul F (dv (hp F y (m + 1))) (hp F y j) d = ((m + 1 : Nat) : Rat) * mul F (hp F y (m + j)) (dv y) d
  | 0, j => by
    rw [hp, hp, one_mul, trace F hy.dv (Th.hp hy j), Nat.zero_add]
    show _ = ((1 : Nat) : Rat) * _
    rw [show ((1 : Nat) : Rat) = 1 from rfl]; grind
  | m + 1, j => by
    have ih := dv_hp F hy m (j + 1)
    have e1 : mul F (dv (hp F y (m + 1 + 1))) (hp F y j) d = mul F (dv (hp F y (m + 1))) (hp F y (j + 1)) d + mul F (hp F y (m + 1 + j)) (dv y) d := by
      rw [hp, dv_mul, add_mul, eadd_at, mul_assoc, hp_comm]
      congr 1
      rw [trace F ((Th.hp hy (m + 1)).mul hy.dv) (Th.hp hy j), ← mul_assoc, hp_add]
      rw [Nat.add_comm j (m + 1)]
    rw [e1, ih, show m + (j + 1) = m + 1 + j by omega, cast_add (m + 1) 1, show ((1 : Nat) : Rat) = 1 from rfl]
    grind
theorem hp_trace (F : Form n) {d : Dg n} {y : El n} (hy : Th F d y) (m : Nat) : (size d : Rat) * hp F y (m + 1) d = ((m + 1 : Nat) : Rat) * mul F (hp F y m) (dv y) d := by
  have := dv_hp F hy m 0
  rw [hp, mul_one, dv_at, Nat.add_zero] at this
  exact this
theorem dl_core (F : Form n) {u w : El n} (d : Dg n) (hw : mul F w u = one) (z : El n) : ∀ N, mul F w z d = ls (List.range N) (fun m => sgn m * mul F (hp F (u - one) m) z d) + sgn N * mul F (mul F w (hp F (u - one) N)) z d
  | 0 => by
    rw [hp, mul_one, sgn_zero]
    show _ = 0 + _
    grind
  | N + 1 => by
    rw [dl_core F d hw z N, ls_range_succ, sgn_succ]
    have e : mul F w (hp F (u - one) (N + 1)) = hp F (u - one) N - mul F w (hp F (u - one) N) := by
      rw [← hp_comm, ← mul_assoc, mul_sub, hw, mul_one, sub_mul, one_mul]
    rw [e, sub_mul, esub_at]
    grind
theorem Dl_dv (F : Form n) {u : El n} {d : Dg n} (hd : d ≠ 0) (u0 : u 0 = 1) (hu : Th F d u) : (size d : Rat) * Dl F (u - one) d = mul F (inv F u u0) (dv u) d := by
  have hy : Th F d (u - one) := fun a ha => by
    by_cases z : a = 0
    · rw [z]; exact F.zr d
    · refine hu a fun e => ha ?_
      rw [esub_at, e, one_ne z]; grind
  have y0 : (u - one : El n) 0 = 0 := by rw [esub_at, u0, one_zero]; grind
  have edv : dv u = dv (u - one) := el_ext fun a => by
    rw [dv_at, dv_at, esub_at]
    by_cases z : a = 0
    · subst z; rw [size0]; show (0 : Rat) * _ = (0 : Rat) * _; grind
    · rw [one_ne z]; grind
  rw [dl_core F d (inv_mul F u0) (dv u) (size d)]
  have last : mul F (mul F (inv F u u0) (hp F (u - one) (size d))) (dv u) d = 0 := by
    refine Classical.byContradiction fun h => ?_
    obtain ⟨a, ha, h1, h2⟩ := mul_ne F h
    obtain ⟨b, hb, h3, h4⟩ := mul_ne F h1
    have s1 := hp_size F y0 _ _ h4
    have e : size d = size a + size (d - a) := by rw [← size_add, dadd_sub ha]
    have e2 : size a = size b + size (a - b) := by rw [← size_add, dadd_sub hb]
    have s2 : size (d - a) ≠ 0 := fun z => h2 (by rw [dv_at, z]; show (0 : Rat) * _ = 0; grind)
    omega
  rw [last, Dl, ← ls_mul (R := Rat)]
  have : ls (List.range (size d)) (fun m => (size d : Rat) * (sgn m * (1 / ((m : Rat) + 1)) * hp F (u - one) (m + 1) d)) = ls (List.range (size d)) fun m => sgn m * mul F (hp F (u - one) m) (dv u) d := by
    refine ls_congr fun m _ => ?_
    have e := hp_trace F hy m
    rw [← edv, cast_add, show ((1 : Nat) : Rat) = 1 from rfl] at e
    have hm : (m : Rat) + 1 ≠ 0 := by
      intro z
      have := Rat.natCast_inj (a := m + 1) (b := 0)
      rw [cast_add] at this
      exact absurd (this.mp z) (by omega)
    calc (size d : Rat) * (sgn m * (1 / ((m : Rat) + 1)) * hp F (u - one) (m + 1) d)
        = sgn m * (1 / ((m : Rat) + 1)) * ((size d : Rat) * hp F (u - one) (m + 1) d) := by grind
      _ = sgn m * (1 / ((m : Rat) + 1)) * (((m : Rat) + 1) * mul F (hp F (u - one) m) (dv u) d) := by rw [e]
      _ = sgn m * mul F (hp F (u - one) m) (dv u) d := by grind
  rw [this]; grind
/-- the logarithm of a product -/
theorem Dl_mul (F : Form n) {g r : El n} {d : Dg n} (hd : d ≠ 0) (g0 : g 0 = 1) (r0 : r 0 = 1) (hg : Th F d g) (hr : Th F d r) :
    Dl F (mul F g r - one) d = Dl F (g - one) d + Dl F (r - one) d := by
  have m0 : mul F g r 0 = 1 := by rw [mul_zero_at, g0, r0]; grind
  have e1 := Dl_dv F hd m0 (hg.mul hr)
  have e2 := Dl_dv F hd g0 hg
  have e3 := Dl_dv F hd r0 hr
  have ei : inv F (mul F g r) m0 = mul F (inv F r r0) (inv F g g0) := by
    have : mul F (mul F (inv F r r0) (inv F g g0)) (mul F g r) = one := by
      rw [mul_assoc, ← mul_assoc F (inv F g g0), inv_mul, one_mul, inv_mul]
    rw [← mul_one F (mul F (inv F r r0) (inv F g g0)), ← mul_inv F m0, ← mul_assoc, this, one_mul]
  rw [ei, dv_mul, mul_add, eadd_at] at e1
  have t1 : mul F (mul F (inv F r r0) (inv F g g0)) (mul F (dv g) r) d = mul F (inv F g g0) (dv g) d := by
    rw [mul_assoc, ← mul_assoc F (inv F g g0)]
    rw [trace F (hr.inv r0) (((hg.inv g0).mul hg.dv).mul hr), mul_assoc, mul_inv, mul_one]
  have t2 : mul F (mul F (inv F r r0) (inv F g g0)) (mul F g (dv r)) d = mul F (inv F r r0) (dv r) d := by
    rw [mul_assoc, inv_cancel]
  rw [t1, t2, ← e2, ← e3] at e1
  have hs : (size d : Rat) ≠ 0 := fun z => by
    have := (Rat.natCast_inj (a := size d) (b := 0)).mp z
    exact hd (size_zero this)
  grind
end SC
set_option Elab.async false
set_option linter.all false
namespace SC
variable {n : Nat}
/-! ### the datum of an element at a degree -/
open Classical in
/-- the part with Om d . = 0 -/
noncomputable def zp (F : Form n) (d : Dg n) (r : El n) : El n := fun a => if F.Om d a = 0 then r a else 0
theorem zp_in (F : Form n) {d a : Dg n} (h : F.Om d a = 0) (r : El n) : zp F d r a = r a := if_pos h
theorem zp_out (F : Form n) {d a : Dg n} (h : F.Om d a ≠ 0) (r : El n) : zp F d r a = 0 := if_neg h
theorem zp_zero (F : Form n) (d : Dg n) (r : El n) : zp F d r 0 = r 0 := zp_in F (F.zr d) r
theorem zp_th (F : Form n) (d : Dg n) (r : El n) : Th F d (zp F d r) := fun a ha => Classical.byContradiction fun h => ha (zp_out F h r)
/-- p cuts y at d -/
structure Cut (F : Form n) (d : Dg n) (y p : El n) : Prop where
  p0 : p 0 = 1
  pos : Supp p fun a => a = 0 ∨ 0 < F.Om d a
  le : Supp (mul F p y) fun a => F.Om d a ≤ 0
theorem exists_Cut (F : Form n) (d : Dg n) {y : El n} (y0 : y 0 = 1) : ∃ p, Cut F d y p := by
  obtain ⟨p, h1, h2, h3, _⟩ := exists_cut F (F.Om d) y y0 (F.zr d)
  exact ⟨p, h1, h2, h3⟩
theorem Cut.unique {F : Form n} {d : Dg n} {y p p' : El n} (h : Cut F d y p) (h' : Cut F d y p') (y0 : y 0 = 1) : p = p' :=
  cut_unique F (F.addr d) y0 h.p0 h'.p0 h.pos h'.pos h.le h'.le
theorem Cut.supp {F : Form n} {d : Dg n} {y p : El n} (h : Cut F d y p) (y0 : y 0 = 1) {P : Dg n → Prop} (q0 : P 0) (pa : ∀ a b, P a → P b → P (a + b)) (hy : Supp y P) : Supp p P := by
  obtain ⟨p', h1, h2, h3, h4⟩ := exists_cut F (F.Om d) y y0 (F.zr d)
  rw [h.unique ⟨h1, h2, h3⟩ y0]
  exact h4 P q0 pa hy
noncomputable def dcut (F : Form n) (d : Dg n) (y : El n) (y0 : y 0 = 1) : El n := Classical.choose (exists_Cut F d y0)
theorem dcut_cut (F : Form n) (d : Dg n) {y : El n} (y0 : y 0 = 1) : Cut F d y (dcut F d y y0) := Classical.choose_spec (exists_Cut F d y0)
open Classical in
noncomputable def Dat (F : Form n) (y : El n) (d : Dg n) : Rat := if y0 : y 0 = 1 then Dl F (zp F d (mul F (dcut F d y y0) y) - one) d else 0
theorem Dat_eq {F : Form n} {d : Dg n} {y p : El n} (h : Cut F d y p) (y0 : y 0 = 1) : Dat F y d = Dl F (zp F d (mul F p y) - one) d := by
  unfold Dat
  rw [dif_pos y0, (dcut_cut F d y0).unique h y0]
theorem Om_d (F : Form n) (d : Dg n) : F.Om d d = 0 := F.self d
theorem cl_pos (F : Form n) (d : Dg n) : ∀ a b : Dg n, (a = 0 ∨ 0 < F.Om d a) → (b = 0 ∨ 0 < F.Om d b) → (a + b = 0 ∨ 0 < F.Om d (a + b)) := by
  intro a b ha hb
  rcases ha with rfl | ha
  · rw [dzero_add]; exact hb
  · rcases hb with rfl | hb
    · rw [dadd_zero]; exact .inr ha
    · right; rw [F.addr]; omega
theorem cl_le (F : Form n) (d : Dg n) : ∀ a b : Dg n, F.Om d a ≤ 0 → F.Om d b ≤ 0 → F.Om d (a + b) ≤ 0 := fun a b ha hb => by rw [F.addr]; omega
/-- a factor on the left, positive there -/
theorem Dat_left_pos {F : Form n} {d : Dg n} {g y : El n} (g0 : g 0 = 1) (y0 : y 0 = 1) (hg : Supp g fun a => a = 0 ∨ 0 < F.Om d a) : Dat F (mul F g y) d = Dat F y d := by
  obtain ⟨p, hp⟩ := exists_Cut F d y0
  have e : mul F (mul F p (inv F g g0)) (mul F g y) = mul F p y := by rw [mul_assoc, inv_cancel]
  have c : Cut F d (mul F g y) (mul F p (inv F g g0)) := by
    refine ⟨?_, hp.pos.mul F (inv_supp F g0 (.inl rfl) (cl_pos F d) hg) (cl_pos F d), ?_⟩
    · rw [mul_zero_at, hp.p0, inv0]; grind
    · rw [e]; exact hp.le
  have m0 : mul F g y 0 = 1 := by rw [mul_zero_at, g0, y0]; grind
  rw [Dat_eq c m0, Dat_eq hp y0, e]
/-- a factor on the right, negative there -/
theorem Dat_right_neg {F : Form n} {d : Dg n} {g y : El n} (g0 : g 0 = 1) (y0 : y 0 = 1) (hg : Supp g fun a => a = 0 ∨ F.Om d a < 0) : Dat F (mul F y g) d = Dat F y d := by
  obtain ⟨p, hp⟩ := exists_Cut F d y0
  have hg2 : Supp g fun a => F.Om d a ≤ 0 := hg.mono fun a h => by
    rcases h with rfl | h
    · exact Int.le_of_eq (F.zr d)
    · omega
  have c : Cut F d (mul F y g) p := ⟨hp.p0, hp.pos, by rw [← mul_assoc]; exact hp.le.mul F hg2 (cl_le F d)⟩
  have m0 : mul F y g 0 = 1 := by rw [mul_zero_at, g0, y0]; grind
  rw [Dat_eq c m0, Dat_eq hp y0, ← mul_assoc]
  have : zp F d (mul F (mul F p y) g) = zp F d (mul F p y) := el_ext fun a => by
    by_cases ha : F.Om d a = 0
    · rw [zp_in F ha, zp_in F ha, mul_at, ls_single a (nodup_box a) (mem_box.mpr (dle_refl a)) fun b hb hn => ?_]
      · rw [dsub_self, F.zr, g0]
        have : pw (-0) = 1 := pw_zero
        rw [this]; grind
      · rw [mem_box] at hb
        by_cases z : mul F p y b = 0
        · rw [z]; grind
        · have h1 := hp.le b z
          by_cases z2 : g (a - b) = 0
          · rw [z2]; grind
          · have h2 := hg _ z2
            dsimp only at h2
            rw [F.subr d hb] at h2
            rcases h2 with h2 | h2
            · have := dadd_sub hb
              rw [h2, dadd_zero] at this
              exact absurd this hn
            · omega
    · rw [zp_out F ha, zp_out F ha]
  rw [this]
/-- a factor on the left, of the walls there -/
theorem Dat_left_zero {F : Form n} {d : Dg n} {g y : El n} (hd : d ≠ 0) (g0 : g 0 = 1) (y0 : y 0 = 1) (hg : Th F d g) : Dat F (mul F g y) d = Dl F (g - one) d + Dat F y d := by
  obtain ⟨p, hp⟩ := exists_Cut F d y0
  have e : mul F (mul F (mul F g p) (inv F g g0)) (mul F g y) = mul F g (mul F p y) := by rw [mul_assoc, inv_cancel, mul_assoc]
  have hg2 : Supp g fun a => F.Om d a ≤ 0 := hg.mono fun a h => Int.le_of_eq h
  have sp : Supp (mul F (mul F g p) (inv F g g0)) fun a => a = 0 ∨ 0 < F.Om d a := fun a ha => by
    by_cases z : 0 < F.Om d a
    · exact .inr z
    · refine .inl (Classical.byContradiction fun hn => ?_)
      -- g p g^-1 = 1 + g (p - 1) g^-1
      have h1 : mul F (mul F g (p - one)) (inv F g g0) a = 0 := Classical.byContradiction fun h => by
        obtain ⟨b, hb, h2, h3⟩ := mul_ne F h
        obtain ⟨c, hc, h4, h5⟩ := mul_ne F h2
        have t1 := hg c h4
        have t2 := (hg.inv g0) _ h3
        have t3 : 0 < F.Om d (b - c) := by
          by_cases q : b - c = 0
          · rw [q, esub_at, hp.p0, one_zero] at h5
            exact absurd (by grind) h5
          · rw [esub_at, one_ne q] at h5
            have : p (b - c) ≠ 0 := fun z => h5 (by rw [z]; grind)
            rcases hp.pos _ this with q2 | q2
            · exact absurd q2 q
            · exact q2
        have h1 := hp.p0
        dsimp only at t1 t2
        rw [F.subr d hb] at t2
        rw [F.subr d hc] at t3
        omega
      rw [mul_sub, sub_mul, esub_at, mul_one, mul_inv, one_ne hn] at h1
      exact ha (by grind)
  have c : Cut F d (mul F g y) (mul F (mul F g p) (inv F g g0)) := by
    refine ⟨?_, sp, ?_⟩
    · rw [mul_zero_at, mul_zero_at, hp.p0, inv0, g0]; grind
    · rw [e]; exact hg2.mul F hp.le (cl_le F d)
  have m0 : mul F g y 0 = 1 := by rw [mul_zero_at, g0, y0]; grind
  have r0 : zp F d (mul F p y) 0 = 1 := by rw [zp_zero, mul_zero_at, hp.p0, y0]; grind
  rw [Dat_eq c m0, Dat_eq hp y0, e]
  have : zp F d (mul F g (mul F p y)) = mul F g (zp F d (mul F p y)) := el_ext fun a => by
    by_cases ha : F.Om d a = 0
    · rw [zp_in F ha, mul_at, mul_at]
      refine ls_congr fun b hb => ?_
      rw [mem_box] at hb
      by_cases z : g b = 0
      · rw [z]; grind
      · rw [zp_in F (by rw [F.subr d hb, ha, hg b z]; rfl)]
    · rw [zp_out F ha]
      refine (Classical.byContradiction fun h => ?_ : mul F g (zp F d (mul F p y)) a = 0).symm
      exact ha ((hg.mul (zp_th F d _)) a h)
  rw [this]
  exact Dl_mul F hd g0 r0 hg (zp_th F d _)
theorem Dat_right_zero {F : Form n} {d : Dg n} {g y : El n} (hd : d ≠ 0) (g0 : g 0 = 1) (y0 : y 0 = 1) (hg : Th F d g) : Dat F (mul F y g) d = Dat F y d + Dl F (g - one) d := by
  obtain ⟨p, hp⟩ := exists_Cut F d y0
  have hg2 : Supp g fun a => F.Om d a ≤ 0 := hg.mono fun a h => Int.le_of_eq h
  have c : Cut F d (mul F y g) p := ⟨hp.p0, hp.pos, by rw [← mul_assoc]; exact hp.le.mul F hg2 (cl_le F d)⟩
  have m0 : mul F y g 0 = 1 := by rw [mul_zero_at, g0, y0]; grind
  have r0 : zp F d (mul F p y) 0 = 1 := by rw [zp_zero, mul_zero_at, hp.p0, y0]; grind
  rw [Dat_eq c m0, Dat_eq hp y0, ← mul_assoc]
  have : zp F d (mul F (mul F p y) g) = mul F (zp F d (mul F p y)) g := el_ext fun a => by
    by_cases ha : F.Om d a = 0
    · rw [zp_in F ha, mul_at, mul_at]
      refine ls_congr fun b hb => ?_
      rw [mem_box] at hb
      by_cases z : g (a - b) = 0
      · rw [z]; grind
      · have := hg _ z
        dsimp only at this
        rw [F.subr d hb] at this
        rw [zp_in F (show F.Om d b = 0 by omega)]
    · rw [zp_out F ha]
      refine (Classical.byContradiction fun h => ?_ : mul F (zp F d (mul F p y)) g a = 0).symm
      exact ha (((zp_th F d _).mul hg) a h)
  rw [this]
  exact Dl_mul F hd r0 g0 (zp_th F d _) hg
/-- how the datum hangs on the last coefficient -/
theorem cut_low {F : Form n} {d : Dg n} {y z p q : El n} (y0 : y 0 = 1) (z0 : z 0 = 1) (hp : Cut F d y p) (hq : Cut F d z q) (hl : ∀ a, low d a → y a = z a) :
    ∀ a, low d a → p a = q a := by
  intro a
  refine dg_ind (P := fun a => low d a → p a = q a) (fun a ih ha => ?_) a
  by_cases e : a = 0
  · rw [e, hp.p0, hq.p0]
  · have hlow : ∀ b, low a b → p b = q b := fun b hb => ih b hb ⟨dle_trans hb.1 ha.1, fun h => ha.2 (dle_antisymm ha.1 (h ▸ hb.1))⟩
    have hly : ∀ b, low a b → y b = z b := fun b hb => hl b ⟨dle_trans hb.1 ha.1, fun h => ha.2 (dle_antisymm ha.1 (h ▸ hb.1))⟩
    by_cases t : 0 < F.Om d a
    · have e1 : mul F p y a = 0 := Classical.byContradiction fun h => by have := hp.le a h; omega
      have e2 : mul F q z a = 0 := Classical.byContradiction fun h => by have := hq.le a h; omega
      rw [mul_split F _ _ e, hp.p0, y0] at e1
      rw [mul_split F _ _ e, hq.p0, z0] at e2
      rw [mid_congr F (f := p) (f' := q) (g := y) (g' := z) hlow hly] at e1
      rw [hl a ha] at e1
      grind
    · have e1 : p a = 0 := Classical.byContradiction fun h => (hp.pos a h).elim e t
      have e2 : q a = 0 := Classical.byContradiction fun h => (hq.pos a h).elim e t
      rw [e1, e2]
theorem Dat_low {F : Form n} {d : Dg n} {y z : El n} (hd : d ≠ 0) (y0 : y 0 = 1) (z0 : z 0 = 1) (hl : ∀ a, low d a → y a = z a) : Dat F y d - Dat F z d = y d - z d := by
  obtain ⟨p, hp⟩ := exists_Cut F d y0
  obtain ⟨q, hq⟩ := exists_Cut F d z0
  have pl := cut_low y0 z0 hp hq hl
  have py0 : mul F p y 0 = 1 := by rw [mul_zero_at, hp.p0, y0]; grind
  have qz0 : mul F q z 0 = 1 := by rw [mul_zero_at, hq.p0, z0]; grind
  have rl : ∀ a, low d a → mul F p y a = mul F q z a := fun a ha => by
    rw [mul_at, mul_at]
    refine ls_congr fun b hb => ?_
    rw [mem_box] at hb
    have h1 : low d b := ⟨dle_trans hb ha.1, fun h => ha.2 (dle_antisymm ha.1 (h ▸ hb))⟩
    have h2 : low d (a - b) := ⟨dle_trans (dsub_le a b) ha.1, fun h => ha.2 (dle_antisymm ha.1 (h ▸ dsub_le a b))⟩
    rw [pl b h1, hl _ h2]
  have pd : p d = 0 := Classical.byContradiction fun h => (hp.pos d h).elim hd (by rw [F.self]; decide)
  have qd : q d = 0 := Classical.byContradiction fun h => (hq.pos d h).elim hd (by rw [F.self]; decide)
  have rd : mul F p y d - mul F q z d = y d - z d := by
    rw [mul_split F _ _ hd, mul_split F _ _ hd, mid_congr F (f := p) (f' := q) (g := y) (g' := z) pl hl, hp.p0, hq.p0, pd, qd]
    grind
  rw [Dat_eq hp y0, Dat_eq hq z0, Dl_low F (h := zp F d (mul F p y) - one) (h' := zp F d (mul F q z) - one) ?_ ?_ hd fun a ha => ?_]
  · rw [esub_at, esub_at, zp_in F (F.self d), zp_in F (F.self d)]
    grind
  · rw [esub_at, zp_zero, py0, one_zero]; grind
  · rw [esub_at, zp_zero, qz0, one_zero]; grind
  · rw [esub_at, esub_at]
    by_cases t : F.Om d a = 0
    · rw [zp_in F t, zp_in F t, rl a ha]
    · rw [zp_out F t, zp_out F t]
/-- outside of the monoid that bears the element -/
theorem hp_supp (F : Form n) {h : El n} {P : Dg n → Prop} (q0 : P 0) (pa : ∀ a b, P a → P b → P (a + b)) (hh : Supp h P) : ∀ m, Supp (hp F h m) P
  | 0 => supp_one q0
  | m + 1 => (hp_supp F q0 pa hh m).mul F hh pa
theorem Dat_supp {F : Form n} {d : Dg n} {y : El n} (y0 : y 0 = 1) {P : Dg n → Prop} (q0 : P 0) (pa : ∀ a b, P a → P b → P (a + b)) (hy : Supp y P) (hd : ¬ P d) : Dat F y d = 0 := by
  obtain ⟨p, hp⟩ := exists_Cut F d y0
  have sp := hp.supp y0 q0 pa hy
  have sr : Supp (zp F d (mul F p y) - one) P := fun a ha => by
    by_cases t : a = 0
    · rw [t]; exact q0
    · rw [esub_at, one_ne t] at ha
      by_cases z : F.Om d a = 0
      · rw [zp_in F z] at ha
        exact (sp.mul F hy pa) a fun h => ha (by rw [h]; grind)
      · rw [zp_out F z] at ha
        exact absurd (by grind) ha
  rw [Dat_eq hp y0]
  refine ls_zero fun m _ => ?_
  have : hp_supp F q0 pa sr (m + 1) = hp_supp F q0 pa sr (m + 1) := rfl
  have e : SC.hp F (zp F d (mul F p y) - one) (m + 1) d = 0 := Classical.byContradiction fun h => hd (hp_supp F q0 pa sr (m + 1) d h)
  rw [e]; grind
end SC
set_option Elab.async false
set_option linter.all false
namespace SC
variable {n : Nat}
/-! ### linear functions, the flip of one coordinate -/
def lin (r : Fin n → Int) (d : Dg n) : Int := ls (List.finRange n) fun j => r j * (d j : Int)
theorem lin_add (r : Fin n → Int) (a b : Dg n) : lin r (a + b) = lin r a + lin r b := by
  unfold lin
  rw [← ls_add]
  refine ls_congr fun j _ => ?_
  rw [add_at, Int.natCast_add]; grind
theorem lin_zero (r : Fin n → Int) : lin r (0 : Dg n) = 0 := ls_zero fun j _ => by
  rw [zero_at]; simp
theorem lin_nonneg {r : Fin n → Int} (h : ∀ j, 0 ≤ r j) (d : Dg n) : 0 ≤ lin r d := by
  have : ∀ l : List (Fin n), 0 ≤ ls l fun j => r j * (d j : Int) := by
    intro l
    induction l with
    | nil => exact Int.le_refl 0
    | cons j l ih =>
      rw [ls_cons]
      have := Int.mul_nonneg (h j) (Int.natCast_nonneg (d j))
      omega
  exact this _
theorem lin_set {r : Fin n → Int} {k : Fin n} (h : r k = 0) (d : Dg n) (v : Nat) : lin r (setD d k v) = lin r d := by
  refine ls_congr fun j _ => ?_
  by_cases e : j = k
  · subst e; rw [h, Int.zero_mul, Int.zero_mul]
  · rw [setD_ne _ _ e]
theorem lin_one {r : Fin n → Int} (k : Fin n) (v : Nat) : lin r (setD 0 k v) = r k * v := by
  unfold lin
  rw [ls_single k (List.nodup_finRange n) (List.mem_finRange k) fun b _ hb => by rw [setD_ne _ _ hb, zero_at]; simp]
  rw [setD_same]
def InQ (r : Fin n → Int) (k : Fin n) (d : Dg n) : Prop := (d k : Int) ≤ lin r d
theorem inq_zero {r : Fin n → Int} {k : Fin n} : InQ r k (0 : Dg n) := by
  unfold InQ; rw [lin_zero, zero_at]; decide
theorem inq_add {r : Fin n → Int} {k : Fin n} (a b : Dg n) (ha : InQ r k a) (hb : InQ r k b) : InQ r k (a + b) := by
  unfold InQ at *
  rw [lin_add, add_at]; omega
def flipD (r : Fin n → Int) (k : Fin n) (d : Dg n) : Dg n := setD d k (lin r d - d k).toNat
theorem setD_set (d : Dg n) (k : Fin n) (u v : Nat) : setD (setD d k u) k v = setD d k v := dg_ext fun i => by
  by_cases e : i = k
  · subst e; rw [setD_same, setD_same]
  · rw [setD_ne _ _ e, setD_ne _ _ e, setD_ne _ _ e]
theorem setD_eq (d : Dg n) (k : Fin n) : setD d k (d k) = d := dg_ext fun i => by
  by_cases e : i = k
  · subst e; rw [setD_same]
  · rw [setD_ne _ _ e]
section
variable {r : Fin n → Int} {k : Fin n}
theorem flipD_k {d : Dg n} (h : InQ r k d) : ((flipD r k d k : Nat) : Int) = lin r d - d k := by
  unfold flipD
  rw [setD_same]
  unfold InQ at h
  omega
theorem flipD_ne (d : Dg n) {i : Fin n} (h : i ≠ k) : flipD r k d i = d i := setD_ne _ _ h
theorem lin_flip (hk : r k = 0) (d : Dg n) : lin r (flipD r k d) = lin r d := lin_set hk d _
theorem inq_flip (hk : r k = 0) {d : Dg n} (h : InQ r k d) : InQ r k (flipD r k d) := by
  unfold InQ
  rw [lin_flip hk, flipD_k h]
  omega
theorem flip_flip (hk : r k = 0) {d : Dg n} (h : InQ r k d) : flipD r k (flipD r k d) = d := dg_ext fun i => by
  by_cases e : i = k
  · subst e
    have := flipD_k (inq_flip hk h)
    rw [lin_flip hk, flipD_k h] at this
    omega
  · rw [flipD_ne _ e, flipD_ne _ e]
theorem flip_add {a b : Dg n} (ha : InQ r k a) (hb : InQ r k b) : flipD r k (a + b) = flipD r k a + flipD r k b := dg_ext fun i => by
  by_cases e : i = k
  · subst e
    have h1 := flipD_k ha
    have h2 := flipD_k hb
    have h3 := flipD_k (inq_add a b ha hb)
    rw [lin_add, add_at] at h3
    rw [add_at]
    omega
  · rw [flipD_ne _ e, add_at, add_at, flipD_ne _ e, flipD_ne _ e]
theorem flip_zero : flipD r k (0 : Dg n) = 0 := dg_ext fun i => by
  by_cases e : i = k
  · subst e
    have h3 := flipD_k (r := r) (k := i) (d := 0) inq_zero
    rw [lin_zero, zero_at] at h3
    rw [zero_at]
    omega
  · rw [flipD_ne _ e]
open Classical in
noncomputable def flipE (r : Fin n → Int) (k : Fin n) (f : El n) : El n := fun d => if InQ r k d then f (flipD r k d) else 0
theorem flipE_in {d : Dg n} (h : InQ r k d) (f : El n) : flipE r k f d = f (flipD r k d) := if_pos h
theorem flipE_out {d : Dg n} (h : ¬ InQ r k d) (f : El n) : flipE r k f d = 0 := if_neg h
theorem flipE_supp (f : El n) : Supp (flipE r k f) (InQ r k) := fun d hd => Classical.byContradiction fun h => hd (flipE_out h f)
theorem flipE_zero (f : El n) : flipE r k f 0 = f 0 := by rw [flipE_in inq_zero, flip_zero]
theorem flipE_flip (hk : r k = 0) {f : El n} (hf : Supp f (InQ r k)) (d : Dg n) : flipE r k (flipE r k f) d = f d := by
  by_cases h : InQ r k d
  · rw [flipE_in h, flipE_in (inq_flip hk h), flip_flip hk h]
  · rw [flipE_out h]
    exact (Classical.byContradiction fun z => h (hf d z) : f d = 0).symm
theorem flip_one (hk : r k = 0) : flipE r k (one : El n) = one := el_ext fun d => by
  by_cases e : d = 0
  · subst e; rw [flipE_zero]
  · rw [one_ne e]
    by_cases h : InQ r k d
    · rw [flipE_in h]
      refine one_ne fun z => e ?_
      rw [← flip_flip hk h, z, flip_zero]
    · rw [flipE_out h]
theorem flip_sub (f g : El n) : flipE r k (f - g) = flipE r k f - flipE r k g := el_ext fun d => by
  rw [esub_at]
  by_cases h : InQ r k d
  · rw [flipE_in h, flipE_in h, flipE_in h, esub_at]
  · rw [flipE_out h, flipE_out h, flipE_out h]; grind
/-- a product under the flip -/
theorem flip_mul {F F' : Form n} (hk : r k = 0) (hO : ∀ a b, InQ r k a → InQ r k b → F'.Om (flipD r k a) (flipD r k b) = F.Om a b) {f g : El n} (hf : Supp f (InQ r k)) (hg : Supp g (InQ r k)) :
    flipE r k (mul F f g) = mul F' (flipE r k f) (flipE r k g) := el_ext fun d => by
  by_cases h : InQ r k d
  · rw [flipE_in h, mul_at, mul_at]
    have tm : ∀ a, a ∈ box (flipD r k d) → pw (-F.Om a (flipD r k d - a)) * f a * g (flipD r k d - a) ≠ 0 → a ≤ flipD r k d ∧ InQ r k a ∧ InQ r k (flipD r k d - a) := by
      intro a ha hn
      rw [mem_box] at ha
      refine ⟨ha, hf a fun z => hn (by rw [z]; grind), hg _ fun z => hn (by rw [z]; grind)⟩
    refine ls_bij (flipD r k) _ _ (nodup_box _) (nodup_box _) (fun a ha hn => ?_) (fun a b ha hb hn hn2 e => ?_) fun b hb hn => ?_
    · obtain ⟨h1, h2, h3⟩ := tm a ha hn
      have e : flipD r k a + flipD r k (flipD r k d - a) = d := by rw [← flip_add h2 h3, dadd_sub h1, flip_flip hk h]
      have hle : flipD r k a ≤ d := by have := dle_add (flipD r k a) (flipD r k (flipD r k d - a)); rw [e] at this; exact this
      have e2 : d - flipD r k a = flipD r k (flipD r k d - a) := by rw [← e, dadd_sub_cancel, e]
      refine ⟨mem_box.mpr hle, ?_⟩
      rw [e2, flipE_in (inq_flip hk h2), flipE_in (inq_flip hk h3), flip_flip hk h2, flip_flip hk h3, hO _ _ h2 h3]
    · obtain ⟨h1, h2, h3⟩ := tm a ha hn
      obtain ⟨h1', h2', h3'⟩ := tm b hb hn2
      rw [← flip_flip hk h2, e, flip_flip hk h2']
    · rw [mem_box] at hb
      have q1 : InQ r k b := Classical.byContradiction fun z => hn (by rw [flipE_out z]; grind)
      have q2 : InQ r k (d - b) := Classical.byContradiction fun z => hn (by rw [flipE_out z (f := g)]; grind)
      have e : flipD r k b + flipD r k (d - b) = flipD r k d := by rw [← flip_add q1 q2, dadd_sub hb]
      have hle : flipD r k b ≤ flipD r k d := by have := dle_add (flipD r k b) (flipD r k (d - b)); rw [e] at this; exact this
      have e2 : flipD r k d - flipD r k b = flipD r k (d - b) := by rw [← e, dadd_sub_cancel]
      refine ⟨flipD r k b, mem_box.mpr hle, fun z => hn ?_, flip_flip hk q1⟩
      rw [flipE_in q1, flipE_in q2, ← e2]
      have hp1 : pw (-F.Om (flipD r k b) (flipD r k d - flipD r k b)) ≠ 0 := pw_ne _
      have z2 : f (flipD r k b) * g (flipD r k d - flipD r k b) = 0 := by grind
      grind
  · rw [flipE_out h]
    exact (Classical.byContradiction fun z => h (((flipE_supp f).mul F' (flipE_supp g) inq_add) d z) : mul F' (flipE r k f) (flipE r k g) d = 0).symm
theorem flip_hp {F F' : Form n} (hk : r k = 0) (hO : ∀ a b, InQ r k a → InQ r k b → F'.Om (flipD r k a) (flipD r k b) = F.Om a b) {h : El n} (hh : Supp h (InQ r k)) : ∀ m, flipE r k (hp F h m) = hp F' (flipE r k h) m
  | 0 => flip_one hk
  | m + 1 => by
    rw [hp, flip_mul hk hO (hp_supp F inq_zero inq_add hh m) hh, flip_hp hk hO hh m]; rfl
/-- the datum under the flip -/
theorem Dat_flip {F F' : Form n} (hk : r k = 0) (hO : ∀ a b, InQ r k a → InQ r k b → F'.Om (flipD r k a) (flipD r k b) = F.Om a b) {y : El n} (y0 : y 0 = 1) (hy : Supp y (InQ r k)) {d : Dg n} (hd : InQ r k d) :
    Dat F' (flipE r k y) (flipD r k d) = Dat F y d := by
  obtain ⟨p, hp⟩ := exists_Cut F d y0
  have sp := hp.supp y0 inq_zero inq_add hy
  have spy := sp.mul F hy inq_add
  have em := flip_mul hk hO sp hy
  have fy0 : flipE r k y 0 = 1 := by rw [flipE_zero, y0]
  have c : Cut F' (flipD r k d) (flipE r k y) (flipE r k p) := by
    refine ⟨by rw [flipE_zero, hp.p0], fun a ha => ?_, fun a ha => ?_⟩
    · have q := flipE_supp p a ha
      rw [flipE_in q] at ha
      rcases hp.pos _ ha with z | z
      · left
        rw [← flip_flip hk q, z, flip_zero]
      · right
        rw [← hO d _ hd (inq_flip hk q), flip_flip hk q] at z
        exact z
    · rw [← em] at ha
      have q := flipE_supp _ a ha
      rw [flipE_in q] at ha
      have z := hp.le _ ha
      dsimp only at z
      rw [← hO d _ hd (inq_flip hk q), flip_flip hk q] at z
      exact z
  rw [Dat_eq c fy0, Dat_eq hp y0, ← em]
  have ez : zp F' (flipD r k d) (flipE r k (mul F p y)) = flipE r k (zp F d (mul F p y)) := el_ext fun a => by
    by_cases q : InQ r k a
    · have o := hO d _ hd (inq_flip hk q)
      rw [flip_flip hk q] at o
      rw [flipE_in q]
      by_cases z : F'.Om (flipD r k d) a = 0
      · rw [zp_in F' z, flipE_in q, zp_in F (o ▸ z)]
      · rw [zp_out F' z, zp_out F (o ▸ z)]
    · rw [flipE_out q]
      by_cases z : F'.Om (flipD r k d) a = 0
      · rw [zp_in F' z, flipE_out q]
      · rw [zp_out F' z]
  have sz : Supp (zp F d (mul F p y) - one) (InQ r k) := fun a ha => by
    by_cases t : a = 0
    · rw [t]; exact inq_zero
    · rw [esub_at, one_ne t] at ha
      by_cases z : F.Om d a = 0
      · rw [zp_in F z] at ha
        exact spy a fun h => ha (by rw [h]; grind)
      · rw [zp_out F z] at ha
        exact absurd (by grind) ha
  rw [ez, ← flip_one (r := r) (k := k) hk, ← flip_sub, flip_one hk]
  have h0 : (zp F d (mul F p y) - one : El n) 0 = 0 := by
    rw [esub_at, zp_zero, mul_zero_at, hp.p0, y0, one_zero]; grind
  have h0' : flipE r k (zp F d (mul F p y) - one) 0 = 0 := by rw [flipE_zero, h0]
  rw [Dl_more F' h0' (Nat.le_max_left _ (size d)), Dl_more F h0 (Nat.le_max_right (size (flipD r k d)) (size d))]
  refine ls_congr fun m _ => ?_
  rw [← flip_hp hk hO sz, flipE_in (inq_flip hk hd), flip_flip hk hd]
end
end SC
set_option Elab.async false
set_option linter.all false
namespace SC
/-! ### sequences in one letter -/
def Sq := Nat → Rat
instance : CoeFun Sq (fun _ => Nat → Rat) := ⟨fun f => f⟩
theorem sq_ext {f g : Sq} (h : ∀ l, f l = g l) : f = g := funext h
def cv (f g : Sq) : Sq := fun l => ls (List.range (l + 1)) fun j => f j * g (l - j)
/-- times 1 + c t -/
def M (c : Rat) (z : Sq) : Sq := fun l => match l with
  | 0 => z 0
  | l + 1 => z (l + 1) + c * z l
theorem M_zero (c : Rat) (z : Sq) : M c z 0 = z 0 := rfl
theorem M_succ (c : Rat) (z : Sq) (l : Nat) : M c z (l + 1) = z (l + 1) + c * z l := rfl
theorem ls_range_cons {R : Type} [Lean.Grind.CommRing R] (f : Nat → R) (N : Nat) : ls (List.range (N + 1)) f = f 0 + ls (List.range N) fun j => f (j + 1) := by
  rw [List.range_succ_eq_map, ls_cons, ls_map]
theorem cv_zero (f g : Sq) : cv f g 0 = f 0 * g 0 := by
  show ls (List.range 1) _ = _
  rw [show List.range 1 = [0] from rfl, ls_cons, ls_nil]; grind
theorem cv_succ (f g : Sq) (l : Nat) : cv f g (l + 1) = f 0 * g (l + 1) + ls (List.range (l + 1)) fun j => f (j + 1) * g (l - j) := by
  unfold cv
  rw [ls_range_cons]
  congr 1
  exact ls_congr fun j _ => by rw [Nat.add_sub_add_right]
theorem cv_last (f g : Sq) (l : Nat) : cv f g (l + 1) = ls (List.range (l + 1)) (fun j => f j * g (l - j + 1)) + f (l + 1) * g 0 := by
  unfold cv
  rw [ls_range_succ, Nat.sub_self]
  congr 1
  refine ls_congr fun j hj => ?_
  rw [List.mem_range] at hj
  rw [show l + 1 - j = l - j + 1 by omega]
theorem cv_Ml (c : Rat) (f g : Sq) : cv (M c f) g = M c (cv f g) := sq_ext fun l => by
  rcases l with _ | l
  · rw [M_zero, cv_zero, cv_zero, M_zero]
  · rw [M_succ, cv_succ, M_zero, cv_succ, cv, ← ls_mul (R := Rat)]
    have : ls (List.range (l + 1)) (fun j => M c f (j + 1) * g (l - j)) = ls (List.range (l + 1)) (fun j => f (j + 1) * g (l - j)) + ls (List.range (l + 1)) fun j => c * (f j * g (l - j)) := by
      rw [← ls_add (R := Rat)]
      exact ls_congr fun j _ => by rw [M_succ]; grind
    rw [this]; grind
theorem cv_Mr (c : Rat) (f g : Sq) : cv f (M c g) = M c (cv f g) := sq_ext fun l => by
  rcases l with _ | l
  · rw [M_zero, cv_zero, cv_zero, M_zero]
  · rw [M_succ, cv_last, M_zero, cv_last, cv, ← ls_mul (R := Rat)]
    have : ls (List.range (l + 1)) (fun j => f j * M c g (l - j + 1)) = ls (List.range (l + 1)) (fun j => f j * g (l - j + 1)) + ls (List.range (l + 1)) fun j => c * (f j * g (l - j)) := by
      rw [← ls_add (R := Rat)]
      exact ls_congr fun j _ => by rw [M_succ]; grind
    rw [this]; grind
theorem M_comm (c e : Rat) (z : Sq) : M c (M e z) = M e (M c z) := sq_ext fun l => by
  rcases l with _ | _ | l
  · rfl
  · rw [M_succ, M_succ, M_succ, M_zero, M_zero, M_succ]; grind
  · rw [M_succ, M_succ, M_succ, M_succ, M_succ, M_succ]; grind
theorem cv_cancel {f g g' : Sq} (f0 : f 0 = 1) (h : cv f g = cv f g') : g = g' := by
  have key : ∀ N l, l < N → g l = g' l := by
    intro N
    induction N with
    | zero => exact fun l hl => absurd hl (Nat.not_lt_zero l)
    | succ N ih =>
      intro l hl
      rcases l with _ | l
      · have := congrFun h 0
        rw [cv_zero, cv_zero, f0] at this
        grind
      · have := congrFun h (l + 1)
        rw [cv_succ, cv_succ, f0] at this
        have e : ls (List.range (l + 1)) (fun j => f (j + 1) * g (l - j)) = ls (List.range (l + 1)) fun j => f (j + 1) * g' (l - j) := by
          refine ls_congr fun j hj => ?_
          rw [List.mem_range] at hj
          rw [ih (l - j) (by omega)]
        rw [e] at this
        grind
  exact sq_ext fun l => key (l + 1) l (Nat.lt_succ_self l)
/-! the quantum dilogarithm -/
theorem pw_gt {z : Int} (h : 0 < z) : pw z ≠ 1 := by
  obtain ⟨m, rfl⟩ : ∃ m : Nat, z = (m : Int) + 1 := ⟨(z - 1).toNat, by omega⟩
  have key : ∀ m : Nat, 1 < pw ((m : Int) + 1) := by
    intro m
    induction m with
    | zero =>
      have : pw (((0 : Nat) : Int) + 1) = 2 := by
        show (2 : Rat) ^ (1 : Int) = 2
        exact Lean.Grind.Field.zpow_one _
      rw [this]; decide
    | succ m ih =>
      have e : pw (((m + 1 : Nat) : Int) + 1) = pw ((m : Int) + 1) * 2 := by
        rw [Int.natCast_add, pw_add]
        have : pw 1 = 2 := Lean.Grind.Field.zpow_one _
        rw [this]; rfl
      rw [e]
      grind
  have := key m
  intro e
  rw [e] at this
  exact absurd this (by decide)
noncomputable def eps (w : Int) : Nat → Rat
  | 0 => 1
  | j + 1 => pw w * eps w j / (pw (2 * w * ((j : Int) + 1)) - 1)
theorem eps_rel {w : Int} (hw : 0 < w) (j : Nat) : eps w (j + 1) * (pw (2 * w * ((j : Int) + 1)) - 1) = pw w * eps w j := by
  have h : pw (2 * w * ((j : Int) + 1)) ≠ 1 := pw_gt (by
    have : 0 < (j : Int) + 1 := by omega
    exact Int.mul_pos (by omega) this)
  rw [eps]
  have h2 : pw (2 * w * ((j : Int) + 1)) - 1 ≠ 0 := fun z => h (by grind)
  grind
theorem eps_one {w : Int} (hw : 0 < w) : eps w 1 ≠ 0 := fun z => by
  have := eps_rel hw 0
  rw [z] at this
  have h : eps w 0 = 1 := rfl
  rw [h] at this
  exact pw_ne w (by grind)
noncomputable def Es (w : Int) (a : Int) : Sq := fun j => pw (a * w * (j : Int)) * eps w j
theorem Es_zero (w a : Int) : Es w a 0 = 1 := by
  show pw (a * w * ((0 : Nat) : Int)) * 1 = 1
  rw [show a * w * ((0 : Nat) : Int) = 0 from Int.mul_zero _, pw_zero]; grind
theorem Es_step {w : Int} (hw : 0 < w) (a : Int) : Es w (a + 2) = M (pw ((a + 1) * w)) (Es w a) := sq_ext fun l => by
  rcases l with _ | j
  · rw [M_zero, Es_zero, Es_zero]
  · rw [M_succ]
    have r := eps_rel hw j
    show pw ((a + 2) * w * ((j + 1 : Nat) : Int)) * eps w (j + 1) = pw (a * w * ((j + 1 : Nat) : Int)) * eps w (j + 1) + pw ((a + 1) * w) * (pw (a * w * (j : Int)) * eps w j)
    have e1 : (a + 2) * w * ((j + 1 : Nat) : Int) = a * w * ((j + 1 : Nat) : Int) + 2 * w * ((j : Int) + 1) := by
      rw [Int.natCast_add]; grind
    have e2 : (a + 1) * w + a * w * (j : Int) = a * w * ((j + 1 : Nat) : Int) + w := by
      rw [Int.natCast_add]; grind
    have e3 : pw ((a + 1) * w) * pw (a * w * (j : Int)) = pw (a * w * ((j + 1 : Nat) : Int)) * pw w := by
      rw [← pw_add, e2, pw_add]
    rw [e1, pw_add]
    grind
/-- the symmetric product -/
noncomputable def Sy (w : Int) : Nat → Sq → Sq
  | 0 => fun z => z
  | 1 => fun z => M 1 z
  | m + 2 => fun z => M (pw (((m : Int) + 1) * w)) (M (pw (-(((m : Int) + 1) * w))) (Sy w m z))
theorem Sy_M (w : Int) (c : Rat) (z : Sq) : ∀ m, Sy w m (M c z) = M c (Sy w m z)
  | 0 => rfl
  | 1 => M_comm _ _ _
  | m + 2 => by
    show M _ (M _ (Sy w m (M c z))) = M c (M _ (M _ (Sy w m z)))
    rw [Sy_M w c z m, M_comm _ c, M_comm _ c]
theorem cv_Syl (w : Int) (f g : Sq) : ∀ m, cv (Sy w m f) g = Sy w m (cv f g)
  | 0 => rfl
  | 1 => cv_Ml _ _ _
  | m + 2 => by
    show cv (M _ (M _ (Sy w m f))) g = M _ (M _ (Sy w m (cv f g)))
    rw [cv_Ml, cv_Ml, cv_Syl w f g m]
theorem cv_Syr (w : Int) (f g : Sq) : ∀ m, cv f (Sy w m g) = Sy w m (cv f g)
  | 0 => rfl
  | 1 => cv_Mr _ _ _
  | m + 2 => by
    show cv f (M _ (M _ (Sy w m g))) = M _ (M _ (Sy w m (cv f g)))
    rw [cv_Mr, cv_Mr, cv_Syr w f g m]
theorem Es_Sy {w : Int} (hw : 0 < w) : ∀ m : Nat, Es w (m : Int) = Sy w m (Es w (-(m : Int)))
  | 0 => rfl
  | 1 => by
    show Es w 1 = M 1 (Es w (-1))
    have := Es_step hw (-1)
    rw [show (-1 : Int) + 2 = 1 from rfl, show ((-1 : Int) + 1) * w = 0 by rw [show (-1 : Int) + 1 = 0 from rfl, Int.zero_mul], pw_zero] at this
    exact this
  | m + 2 => by
    have h1 := Es_step hw (m : Int)
    have h2 := Es_step hw (-((m : Int) + 2))
    rw [show -((m : Int) + 2) + 2 = -(m : Int) by omega, show (-((m : Int) + 2) + 1) * w = -(((m : Int) + 1) * w) by grind] at h2
    have e : ((m + 2 : Nat) : Int) = (m : Int) + 2 := by rw [Int.natCast_add]; rfl
    rw [e, h1, Es_Sy hw m, h2, Sy_M]
    rfl
/-- the relation between the two sides -/
theorem Es_rel {w : Int} (hw : 0 < w) (m : Nat) (y z : Sq) : cv (Es w (-(m : Int))) y = cv (Es w (m : Int)) z ↔ y = Sy w m z := by
  rw [Es_Sy hw m, cv_Syl, ← cv_Syr]
  exact ⟨fun h => cv_cancel (Es_zero _ _) h, fun h => by rw [h]⟩
/-! read backwards -/
def Top (R : Nat) (z : Sq) : Prop := ∀ l, R < l → z l = 0
def rv (R : Nat) (z : Sq) : Sq := fun l => if l ≤ R then z (R - l) else 0
theorem rv_in {R l : Nat} (h : l ≤ R) (z : Sq) : rv R z l = z (R - l) := if_pos h
theorem rv_out {R l : Nat} (h : R < l) (z : Sq) : rv R z l = 0 := if_neg (by omega)
theorem M_top {R : Nat} {z : Sq} (c : Rat) (h : Top R z) : Top (R + 1) (M c z) := fun l hl => by
  rcases l with _ | l
  · omega
  · rw [M_succ, h (l + 1) (by omega), h l (by omega)]; grind
theorem Sy_top {R : Nat} {z : Sq} (w : Int) (h : Top R z) : ∀ m, Top (R + m) (Sy w m z)
  | 0 => h
  | 1 => M_top 1 h
  | m + 2 => M_top _ (M_top _ (Sy_top w h m))
theorem rv_M {R : Nat} {z : Sq} {c : Rat} (hc : c ≠ 0) (h : Top R z) : rv (R + 1) (M c z) = fun l => c * M c⁻¹ (rv R z) l := sq_ext fun l => by
  have hi : c * c⁻¹ = 1 := Rat.mul_inv_cancel c hc
  rcases l with _ | l
  · rw [M_zero, rv_in (Nat.zero_le _), rv_in (Nat.zero_le _), Nat.sub_zero, Nat.sub_zero, M_succ, h (R + 1) (Nat.lt_succ_self R)]
    grind
  · rw [M_succ]
    by_cases h1 : l + 1 ≤ R
    · rw [rv_in (by omega), rv_in h1, rv_in (by omega), show R + 1 - (l + 1) = R - (l + 1) + 1 by omega, M_succ, show R - (l + 1) + 1 = R - l by omega]
      grind
    · by_cases h2 : l = R
      · subst h2
        rw [rv_in (Nat.le_refl _), rv_out (Nat.lt_succ_self _), rv_in (Nat.le_refl _), Nat.sub_self, Nat.sub_self, M_zero]
        grind
      · rw [rv_out (by omega), rv_out (by omega), rv_out (by omega)]
        grind
theorem rv_MM {R : Nat} {z : Sq} {c : Rat} (hc : c ≠ 0) (h : Top R z) : rv (R + 2) (M c (M c⁻¹ z)) = M c (M c⁻¹ (rv R z)) := by
  have hi : c * c⁻¹ = 1 := Rat.mul_inv_cancel c hc
  have hc2 : c⁻¹ ≠ 0 := fun z => by rw [z] at hi; grind
  have e1 := rv_M (R := R + 1) hc (M_top c⁻¹ h)
  have e2 := rv_M (R := R) hc2 h
  have hii : c⁻¹⁻¹ = c := by grind
  rw [hii] at e2
  rw [show R + 2 = R + 1 + 1 from rfl, e1, e2, M_comm c]
  refine sq_ext fun l => ?_
  rcases l with _ | l
  · show c * (c⁻¹ * rv R z 0) = rv R z 0
    grind
  · show c * (c⁻¹ * M c (rv R z) (l + 1) + c⁻¹ * (c⁻¹ * M c (rv R z) l)) = M c (rv R z) (l + 1) + c⁻¹ * M c (rv R z) l
    grind
theorem pw_neg (z : Int) : pw (-z) = (pw z)⁻¹ := Rat.zpow_neg _ _
theorem rv_Sy (w : Int) {R : Nat} {z : Sq} (h : Top R z) : ∀ m, rv (R + m) (Sy w m z) = Sy w m (rv R z)
  | 0 => rfl
  | 1 => by
    have := rv_M (c := 1) (by decide) h
    rw [show (1 : Rat)⁻¹ = 1 by grind] at this
    show rv (R + 1) (M 1 z) = M 1 (rv R z)
    rw [this]
    exact sq_ext fun l => by grind
  | m + 2 => by
    show rv (R + m + 2) (M _ (M _ (Sy w m z))) = M _ (M _ (Sy w m (rv R z)))
    rw [pw_neg, rv_MM (pw_ne _) (Sy_top w h m), rv_Sy w h m]
end SC
set_option Elab.async false
set_option linter.all false
namespace SC
variable {n : Nat}
/-! ### boards and their forms -/
def Sk (w : Fin n → Int) (B : Fin n → Fin n → Int) : Prop := (∀ i, 0 < w i) ∧ ∀ i j, w i * B i j = -(w j * B j i)
theorem Sk.diag {w : Fin n → Int} {B : Fin n → Fin n → Int} (h : Sk w B) (i : Fin n) : B i i = 0 := by
  have h1 := h.2 i i
  have h2 := h.1 i
  have : w i * B i i = 0 := by omega
  rcases Int.mul_eq_zero.mp this with z | z
  · omega
  · exact z
abbrev I (n : Nat) : List (Fin n) := List.finRange n
def OmI (A : Fin n → Fin n → Int) (x y : Fin n → Int) : Int := ls (I n) fun i => ls (I n) fun j => A i j * x i * y j
theorem OmI_addl (A : Fin n → Fin n → Int) (x x' y : Fin n → Int) : OmI A (fun i => x i + x' i) y = OmI A x y + OmI A x' y := by
  unfold OmI
  rw [← ls_add]
  refine ls_congr fun i _ => ?_
  rw [← ls_add]
  exact ls_congr fun j _ => by grind
theorem OmI_addr (A : Fin n → Fin n → Int) (x y y' : Fin n → Int) : OmI A x (fun i => y i + y' i) = OmI A x y + OmI A x y' := by
  unfold OmI
  rw [← ls_add]
  refine ls_congr fun i _ => ?_
  rw [← ls_add]
  exact ls_congr fun j _ => by grind
theorem OmI_skew {A : Fin n → Fin n → Int} (h : ∀ i j, A i j = - A j i) (x y : Fin n → Int) : OmI A x y = - OmI A y x := by
  unfold OmI
  rw [ls_swap, ← ls_neg]
  refine ls_congr fun i _ => ?_
  rw [← ls_neg]
  exact ls_congr fun j _ => by rw [h]; grind
def up (d : Dg n) : Fin n → Int := fun i => (d i : Int)
def wB (w : Fin n → Int) (B : Fin n → Fin n → Int) : Fin n → Fin n → Int := fun i j => w i * B i j
def frm (w : Fin n → Int) (B : Fin n → Fin n → Int) (h : Sk w B) : Form n where
  Om a b := OmI (wB w B) (up a) (up b)
  addl a b c := by
    rw [← OmI_addl]
    congr 1
  skew a b := OmI_skew (fun i j => h.2 i j) _ _
/-- a linear function of integer vectors -/
def lv (r x : Fin n → Int) : Int := ls (I n) fun j => r j * x j
theorem lin_lv (r : Fin n → Int) (d : Dg n) : lin r d = lv r (up d) := rfl
def unitV (k : Fin n) (c : Int) : Fin n → Int := fun i => if i = k then c else 0
theorem lv_unit (r : Fin n → Int) (k : Fin n) (c : Int) : lv r (unitV k c) = r k * c := by
  unfold lv I
  rw [ls_single k (List.nodup_finRange n) (List.mem_finRange k) fun b _ hb => by rw [unitV, if_neg hb, Int.mul_zero]]
  rw [unitV, if_pos rfl]
theorem OmI_unitl (A : Fin n → Fin n → Int) (k : Fin n) (c : Int) (y : Fin n → Int) : OmI A (unitV k c) y = c * lv (A k) y := by
  unfold OmI I
  rw [ls_single k (List.nodup_finRange n) (List.mem_finRange k) fun b _ hb => ls_zero fun j _ => by rw [unitV, if_neg hb, Int.mul_zero, Int.zero_mul]]
  unfold lv
  rw [← ls_mul]
  exact ls_congr fun j _ => by rw [unitV, if_pos rfl]; grind
theorem up_unit (k : Fin n) (v : Nat) : up (setD (0 : Dg n) k v) = unitV k (v : Int) := funext fun i => by
  unfold up unitV
  by_cases e : i = k
  · subst e; rw [setD_same, if_pos rfl]
  · rw [setD_ne _ _ e, if_neg e]; rfl
theorem lv_mul (c : Int) (r x : Fin n → Int) : lv (fun j => c * r j) x = c * lv r x := by
  unfold lv
  rw [← ls_mul]
  exact ls_congr fun j _ => by grind
section
variable {w : Fin n → Int} {B : Fin n → Fin n → Int} (hB : Sk w B)
theorem Om_unit (k : Fin n) (v : Nat) (d : Dg n) : (frm w B hB).Om (setD 0 k v) d = w k * (v : Int) * lin (B k) d := by
  show OmI (wB w B) (up (setD 0 k v)) (up d) = _
  rw [up_unit, OmI_unitl]
  have : lv (wB w B k) (up d) = w k * lv (B k) (up d) := lv_mul _ _ _
  rw [this, lin_lv]; grind
/-! the element of one wall -/
open Classical in
noncomputable def Ek (w : Fin n → Int) (k : Fin n) : El n := fun d => if d = setD 0 k (d k) then eps (w k) (d k) else 0
theorem Ek_in (w : Fin n → Int) (k : Fin n) (v : Nat) : Ek w k (setD 0 k v) = eps (w k) v := by
  unfold Ek
  rw [if_pos (by rw [setD_same]), setD_same]
theorem Ek_out {w : Fin n → Int} {k : Fin n} {d : Dg n} (h : d ≠ setD 0 k (d k)) : Ek w k d = 0 := if_neg h
theorem setD_zero (k : Fin n) : setD (0 : Dg n) k 0 = 0 := setD_eq 0 k
theorem Ek_zero (w : Fin n → Int) (k : Fin n) : Ek w k 0 = 1 := by
  have := Ek_in w k 0
  rw [setD_zero] at this
  exact this
def Mul (k : Fin n) (d : Dg n) : Prop := d = setD 0 k (d k)
theorem mul_zero (k : Fin n) : Mul k (0 : Dg n) := (setD_eq 0 k).symm
theorem mul_set (k : Fin n) (v : Nat) : Mul k (setD (0 : Dg n) k v) := by unfold Mul; rw [setD_same]
theorem mul_iff {k : Fin n} {d : Dg n} : Mul k d ↔ ∀ i, i ≠ k → d i = 0 := by
  constructor
  · intro h i hi
    rw [h, setD_ne _ _ hi]; rfl
  · intro h
    refine dg_ext fun i => ?_
    by_cases e : i = k
    · subst e; rw [setD_same]
    · rw [setD_ne _ _ e, h i e]; rfl
theorem mul_addM {k : Fin n} (a b : Dg n) (ha : Mul k a) (hb : Mul k b) : Mul k (a + b) := by
  rw [mul_iff] at *
  intro i hi
  rw [add_at, ha i hi, hb i hi]
theorem Ek_supp (w : Fin n → Int) (k : Fin n) : Supp (Ek w k) (Mul k) := fun d hd => Classical.byContradiction fun h => hd (Ek_out h)
/-! ### along one coordinate -/
def fb (k : Fin n) (d : Dg n) (f : El n) : Sq := fun l => f (setD d k l)
theorem mul_E_left (k : Fin n) (y : El n) (d : Dg n) (l : Nat) : mul (frm w B hB) (Ek w k) y (setD d k l) = cv (Es (w k) (-lin (B k) d)) (fb k d y) l := by
  have bk := hB.diag k
  rw [mul_at]
  refine (ls_bij (fun j : Nat => setD (0 : Dg n) k j) _ _ List.nodup_range (nodup_box _) (fun j hj hn => ?_) (fun i j hi hj _ _ e => ?_) fun a ha hn => ?_).symm
  · rw [List.mem_range] at hj
    have hle : setD (0 : Dg n) k j ≤ setD d k l := fun i => by
      by_cases e : i = k
      · subst e; rw [setD_same, setD_same]; omega
      · rw [setD_ne _ _ e, setD_ne _ _ e]; exact Nat.zero_le _
    refine ⟨mem_box.mpr hle, ?_⟩
    rw [Form.subr _ _ hle, Form.self, Om_unit, Ek_in, lin_set bk]
    have e : setD d k l - setD 0 k j = setD d k (l - j) := dg_ext fun i => by
      rw [sub_at]
      by_cases e : i = k
      · subst e; rw [setD_same, setD_same, setD_same]
      · rw [setD_ne _ _ e, setD_ne _ _ e, setD_ne _ _ e]; rfl
    rw [e]
    have e2 : -(w k * (j : Int) * lin (B k) d - 0) = -lin (B k) d * w k * (j : Int) := by grind
    rw [e2]
    rfl
  · have := congrFun e k
    rw [setD_same, setD_same] at this
    exact this
  · have m : Mul k a := Ek_supp w k a fun z => hn (by rw [z]; grind)
    rw [mem_box] at ha
    have hk := le_at ha k
    rw [setD_same] at hk
    refine ⟨a k, List.mem_range.mpr (by omega), ?_, m.symm⟩
    intro z
    refine hn ?_
    have e : setD d k l - a = setD d k (l - a k) := dg_ext fun i => by
      rw [sub_at]
      by_cases e : i = k
      · subst e; rw [setD_same, setD_same]
      · rw [setD_ne _ _ e, setD_ne _ _ e, mul_iff.mp m i e, Nat.sub_zero]
    rw [e]
    have z2 : pw (-lin (B k) d * w k * ((a k : Nat) : Int)) * eps (w k) (a k) * y (setD d k (l - a k)) = 0 := z
    have e3 : Ek w k a = eps (w k) (a k) := by
      have := Ek_in w k (a k)
      rw [← m] at this
      exact this
    rw [e3]
    have := pw_ne (-lin (B k) d * w k * ((a k : Nat) : Int))
    have z3 : eps (w k) (a k) * y (setD d k (l - a k)) = 0 := by grind
    grind
theorem mul_E_right (k : Fin n) (y : El n) (d : Dg n) (l : Nat) : mul (frm w B hB) y (Ek w k) (setD d k l) = cv (Es (w k) (lin (B k) d)) (fb k d y) l := by
  have bk := hB.diag k
  have base := box_swap (setD d k l) fun a b => pw (-(frm w B hB).Om a b) * y a * Ek w k b
  rw [mul_at, base]
  refine (ls_bij (fun j : Nat => setD (0 : Dg n) k j) _ _ List.nodup_range (nodup_box _) (fun j hj hn => ?_) (fun i j hi hj _ _ e => ?_) fun a ha hn => ?_).symm
  · rw [List.mem_range] at hj
    have hle : setD (0 : Dg n) k j ≤ setD d k l := fun i => by
      by_cases e : i = k
      · subst e; rw [setD_same, setD_same]; omega
      · rw [setD_ne _ _ e, setD_ne _ _ e]; exact Nat.zero_le _
    refine ⟨mem_box.mpr hle, ?_⟩
    rw [Form.subl _ _ hle, Form.self, Form.skew, Om_unit, Ek_in, lin_set bk]
    have e : setD d k l - setD 0 k j = setD d k (l - j) := dg_ext fun i => by
      rw [sub_at]
      by_cases e : i = k
      · subst e; rw [setD_same, setD_same, setD_same]
      · rw [setD_ne _ _ e, setD_ne _ _ e, setD_ne _ _ e]; rfl
    rw [e]
    have e2 : -(-(w k * (j : Int) * lin (B k) d) - 0) = lin (B k) d * w k * (j : Int) := by grind
    rw [e2]
    show _ = pw (lin (B k) d * w k * (j : Int)) * eps (w k) j * y (setD d k (l - j))
    grind
  · have := congrFun e k
    rw [setD_same, setD_same] at this
    exact this
  · have m : Mul k a := Ek_supp w k a fun z => hn (by rw [z]; grind)
    rw [mem_box] at ha
    have hk := le_at ha k
    rw [setD_same] at hk
    refine ⟨a k, List.mem_range.mpr (by omega), ?_, m.symm⟩
    intro z
    refine hn ?_
    have e : setD d k l - a = setD d k (l - a k) := dg_ext fun i => by
      rw [sub_at]
      by_cases e : i = k
      · subst e; rw [setD_same, setD_same]
      · rw [setD_ne _ _ e, setD_ne _ _ e, mul_iff.mp m i e, Nat.sub_zero]
    rw [e]
    have z2 : pw (lin (B k) d * w k * ((a k : Nat) : Int)) * eps (w k) (a k) * y (setD d k (l - a k)) = 0 := z
    have e3 : Ek w k a = eps (w k) (a k) := by
      have := Ek_in w k (a k)
      rw [← m] at this
      exact this
    rw [e3]
    have := pw_ne (lin (B k) d * w k * ((a k : Nat) : Int))
    have z3 : eps (w k) (a k) * y (setD d k (l - a k)) = 0 := by grind
    grind
theorem conj_iff (k : Fin n) (y z : El n) : mul (frm w B hB) (Ek w k) y = mul (frm w B hB) z (Ek w k) ↔
    ∀ d, cv (Es (w k) (-lin (B k) d)) (fb k d y) = cv (Es (w k) (lin (B k) d)) (fb k d z) := by
  constructor
  · intro h d
    refine sq_ext fun l => ?_
    rw [← mul_E_left hB, ← mul_E_right hB, h]
  · intro h
    refine el_ext fun d => ?_
    have := congrFun (h d) (d k)
    rw [← mul_E_left hB, ← mul_E_right hB, setD_eq] at this
    exact this
theorem conj_pos (k : Fin n) {y z : El n} (h : mul (frm w B hB) (Ek w k) y = mul (frm w B hB) z (Ek w k)) {d : Dg n} {m : Nat} (hm : lin (B k) d = (m : Int)) : fb k d y = Sy (w k) m (fb k d z) := by
  have := (conj_iff hB k y z).mp h d
  rw [hm] at this
  exact (Es_rel (hB.1 k) m _ _).mp this
theorem conj_neg (k : Fin n) {y z : El n} (h : mul (frm w B hB) (Ek w k) y = mul (frm w B hB) z (Ek w k)) {d : Dg n} {m : Nat} (hm : lin (B k) d = -(m : Int)) : fb k d z = Sy (w k) m (fb k d y) := by
  have := (conj_iff hB k y z).mp h d
  rw [hm, Int.neg_neg] at this
  exact (Es_rel (hB.1 k) m _ _).mp this.symm
end
/-! ### the two flips at one place -/
theorem fb_flip {r : Fin n → Int} {k : Fin n} (hk : r k = 0) (hr : ∀ j, 0 ≤ r j) (d : Dg n) (f : El n) : fb k d (flipE r k f) = rv (lin r d).toNat (fb k d f) := sq_ext fun l => by
  have h0 := lin_nonneg hr d
  show flipE r k f (setD d k l) = _
  by_cases h : l ≤ (lin r d).toNat
  · rw [rv_in h]
    have q : InQ r k (setD d k l) := by
      unfold InQ
      rw [lin_set hk, setD_same]; omega
    rw [flipE_in q]
    show f _ = f _
    congr 1
    unfold flipD
    rw [setD_set, lin_set hk, setD_same]
    congr 1
    omega
  · rw [rv_out (by omega)]
    refine flipE_out (fun q => h ?_) f
    unfold InQ at q
    rw [lin_set hk, setD_same] at q
    omega
theorem fb_top {r : Fin n → Int} {k : Fin n} (hk : r k = 0) {f : El n} (hf : Supp f (InQ r k)) (d : Dg n) : Top (lin r d).toNat (fb k d f) := fun l hl => by
  refine Classical.byContradiction fun h => ?_
  have q := hf _ h
  unfold InQ at q
  rw [lin_set hk, setD_same] at q
  omega
theorem conj_flip {w : Fin n → Int} {B B' : Fin n → Fin n → Int} (hB : Sk w B) (hB' : Sk w B') {k : Fin n} {r s : Fin n → Int} (rk : r k = 0) (sk : s k = 0) (r0 : ∀ j, 0 ≤ r j) (s0 : ∀ j, 0 ≤ s j)
    (hm : ∀ d, lin (B k) d = lin r d - lin s d) (hm' : ∀ d : Dg n, lin (B' k) d = - lin (B k) d) {y z : El n} (hy : Supp y (InQ r k)) (hz : Supp z (InQ s k))
    (h : mul (frm w B hB) (Ek w k) y = mul (frm w B hB) z (Ek w k)) : mul (frm w B' hB') (Ek w k) (flipE s k z) = mul (frm w B' hB') (flipE r k y) (Ek w k) := by
  rw [conj_iff]
  intro d
  have R0 := lin_nonneg r0 d
  have S0 := lin_nonneg s0 d
  have e := hm d
  rw [hm' d, Int.neg_neg, fb_flip rk r0, fb_flip sk s0]
  by_cases c : 0 ≤ lin (B k) d
  · obtain ⟨m, em⟩ : ∃ m : Nat, lin (B k) d = (m : Int) := ⟨(lin (B k) d).toNat, by omega⟩
    have h2 := conj_pos hB k h em
    have : (lin r d).toNat = (lin s d).toNat + m := by omega
    rw [em, h2, this, rv_Sy _ (fb_top sk hz d)]
    exact ((Es_rel (hB.1 k) m _ _).mpr rfl).symm
  · obtain ⟨m, em⟩ : ∃ m : Nat, lin (B k) d = -(m : Int) := ⟨(-lin (B k) d).toNat, by omega⟩
    have h2 := conj_neg hB k h em
    have : (lin s d).toNat = (lin r d).toNat + m := by omega
    rw [em, h2, this, rv_Sy _ (fb_top rk hy d), Int.neg_neg]
    exact (Es_rel (hB.1 k) m _ _).mpr rfl
end SC
set_option Elab.async false
set_option linter.all false
namespace SC
variable {n : Nat}
/-! ### a board swapped at a place -/
def pos (x : Int) : Int := if 0 < x then x else 0
theorem pos_nonneg (x : Int) : 0 ≤ pos x := by unfold pos; split <;> omega
theorem pos_sub (x : Int) : pos x - pos (-x) = x := by unfold pos; split <;> split <;> omega
theorem pos_mul {w : Int} (h : 0 < w) (x : Int) : pos (w * x) = w * pos x := by
  unfold pos
  by_cases c : 0 < x
  · rw [if_pos c, if_pos (Int.mul_pos h c)]
  · rw [if_neg c, if_neg]
    · omega
    · intro z
      have : 0 ≤ w * -x := Int.mul_nonneg (by omega) (by omega)
      rw [Int.mul_neg] at this
      omega
theorem pos_zero : pos 0 = 0 := rfl
def mu (k : Fin n) (B : Fin n → Fin n → Int) : Fin n → Fin n → Int := fun i j => if i = k ∨ j = k then - B i j else B i j + pos (B i k) * pos (B k j) - pos (-B i k) * pos (-B k j)
theorem mu_row (k : Fin n) (B : Fin n → Fin n → Int) (j : Fin n) : mu k B k j = - B k j := if_pos (.inl rfl)
section
variable {w : Fin n → Int} {B : Fin n → Fin n → Int}
theorem Sk.pos (h : Sk w B) (i j : Fin n) : w i * SC.pos (B i j) = w j * SC.pos (- B j i) := by
  rw [← pos_mul (h.1 i), ← pos_mul (h.1 j), h.2 i j]
  congr 1; grind
theorem Sk.neg (h : Sk w B) (i j : Fin n) : w i * SC.pos (- B i j) = w j * SC.pos (B j i) := (h.pos j i).symm
theorem Sk_mu (h : Sk w B) (k : Fin n) : Sk w (mu k B) := by
  refine ⟨h.1, fun i j => ?_⟩
  unfold mu
  by_cases c : i = k ∨ j = k
  · rw [if_pos c, if_pos c.symm]
    have := h.2 i j
    grind
  · rw [if_neg c, if_neg (fun z => c z.symm)]
    have h1 := h.2 i j
    have h2 := h.pos i k
    have h3 := h.neg i k
    have h4 := h.pos k j
    have h5 := h.neg k j
    grind
def rP (B : Fin n → Fin n → Int) (k : Fin n) : Fin n → Int := fun j => SC.pos (B k j)
def rN (B : Fin n → Fin n → Int) (k : Fin n) : Fin n → Int := fun j => SC.pos (- B k j)
theorem rP_k (h : Sk w B) (k : Fin n) : rP B k k = 0 := by unfold rP; rw [h.diag k]; rfl
theorem rN_k (h : Sk w B) (k : Fin n) : rN B k k = 0 := by unfold rN; rw [h.diag k]; rfl
theorem rP_nonneg (k : Fin n) (j : Fin n) : 0 ≤ rP B k j := pos_nonneg _
theorem rN_nonneg (k : Fin n) (j : Fin n) : 0 ≤ rN B k j := pos_nonneg _
theorem lin_PN (k : Fin n) (d : Dg n) : lin (B k) d = lin (rP B k) d - lin (rN B k) d := by
  unfold lin
  rw [← ls_sub]
  refine ls_congr fun j _ => ?_
  have := pos_sub (B k j)
  unfold rP rN
  grind
theorem lin_mu (k : Fin n) (d : Dg n) : lin (mu k B k) d = - lin (B k) d := by
  unfold lin
  rw [← ls_neg]
  exact ls_congr fun j _ => by rw [mu_row]; grind
/-- the form does not change -/
theorem OmI_turn {A A' : Fin n → Fin n → Int} {ρ : Fin n → Int} {k : Fin n} (sk : ∀ i j, A i j = - A j i) (ρk : ρ k = -2) (h : ∀ i j, A' i j = A i j + A i k * ρ j + ρ i * A k j) (x y : Fin n → Int) :
    OmI A' (fun i => x i + unitV k (lv ρ x) i) (fun i => y i + unitV k (lv ρ y) i) = OmI A x y := by
  have akk : A k k = 0 := by have := sk k k; omega
  have key : ∀ x y : Fin n → Int, OmI A' x y = OmI A x y - lv (A k) x * lv ρ y + lv ρ x * lv (A k) y := by
    intro x y
    have e1 : ls (I n) (fun i => A i k * x i) = - lv (A k) x := by
      unfold lv
      rw [← ls_neg]
      exact ls_congr fun i _ => by rw [sk i k]; grind
    have e2 : OmI A' x y = OmI A x y + ls (I n) (fun i => (A i k * x i) * lv ρ y) + ls (I n) (fun i => (ρ i * x i) * lv (A k) y) := by
      unfold OmI
      rw [← ls_add, ← ls_add]
      refine ls_congr fun i _ => ?_
      unfold lv
      rw [← ls_mul, ← ls_mul, ← ls_add, ← ls_add]
      exact ls_congr fun j _ => by rw [h]; grind
    rw [e2, ls_mulr, ls_mulr, e1]
    unfold lv
    grind
  have lva : ∀ (r x : Fin n → Int) (c : Int), lv r (fun i => x i + unitV k c i) = lv r x + r k * c := by
    intro r x c
    rw [← lv_unit]
    unfold lv
    rw [← ls_add]
    exact ls_congr fun i _ => by grind
  rw [key, OmI_addl, OmI_addr, OmI_unitl, OmI_skew sk x (unitV k _), OmI_unitl, lva, lva, lva, lva, akk, ρk]
  grind
theorem up_flip {r : Fin n → Int} {k : Fin n} {a : Dg n} (h : InQ r k a) : up (flipD r k a) = fun i => up a i + unitV k (lv (fun j => r j - unitV k 2 j) (up a)) i := funext fun i => by
  have e : lv (fun j => r j - unitV k 2 j) (up a) = lin r a - 2 * (a k : Int) := by
    have h1 : lv (unitV k 2) (up a) = 2 * (a k : Int) := by
      unfold lv I
      rw [ls_single k (List.nodup_finRange n) (List.mem_finRange k) fun b _ hb => by rw [unitV, if_neg hb, Int.zero_mul]]
      rw [unitV, if_pos rfl]; rfl
    rw [← h1, lin_lv]
    unfold lv
    rw [← ls_sub]
    exact ls_congr fun j _ => by grind
  rw [e]
  unfold up unitV
  by_cases c : i = k
  · subst c
    rw [if_pos rfl, flipD_k h]; omega
  · rw [if_neg c, flipD_ne _ c]; omega
theorem wB_skew (h : Sk w B) (i j : Fin n) : wB w B i j = - wB w B j i := h.2 i j
theorem turn_P (h : Sk w B) (k i j : Fin n) : wB w (mu k B) i j = wB w B i j + wB w B i k * (rP B k j - unitV k 2 j) + (rP B k i - unitV k 2 i) * wB w B k j := by
  unfold wB mu rP unitV
  have kk := h.diag k
  by_cases ci : i = k
  · subst ci
    rw [if_pos (.inl rfl), if_pos rfl, kk, pos_zero]
    grind
  · by_cases cj : j = k
    · subst cj
      rw [if_pos (.inr rfl), if_pos rfl, if_neg ci, kk, pos_zero]
      grind
    · rw [if_neg (fun z => z.elim ci cj), if_neg ci, if_neg cj]
      have h1 := h.pos k i
      have h2 := pos_sub (B i k)
      have h3 := pos_sub (B k j)
      have h4 : w k * SC.pos (B k i) = w i * SC.pos (- B i k) := h1
      have e : SC.pos (B k i) * (w k * B k j) = w i * SC.pos (- B i k) * B k j := by rw [← h4]; grind
      have e2 : B i k * SC.pos (B k j) + SC.pos (- B i k) * B k j = SC.pos (B i k) * SC.pos (B k j) - SC.pos (- B i k) * SC.pos (- B k j) := by
        generalize SC.pos (B i k) = p1 at *
        generalize SC.pos (-B i k) = p2 at *
        generalize SC.pos (B k j) = p3 at *
        generalize SC.pos (-B k j) = p4 at *
        rw [← h2, ← h3]; grind
      grind
theorem turn_N (h : Sk w B) (k i j : Fin n) : wB w (mu k B) i j = wB w B i j + wB w B i k * (rN B k j - unitV k 2 j) + (rN B k i - unitV k 2 i) * wB w B k j := by
  unfold wB mu rN unitV
  have kk := h.diag k
  by_cases ci : i = k
  · subst ci
    rw [if_pos (.inl rfl), if_pos rfl, kk, Int.neg_zero, pos_zero]
    grind
  · by_cases cj : j = k
    · subst cj
      rw [if_pos (.inr rfl), if_pos rfl, if_neg ci, kk, Int.neg_zero, pos_zero]
      grind
    · rw [if_neg (fun z => z.elim ci cj), if_neg ci, if_neg cj]
      have h1 := h.neg k i
      have h2 := pos_sub (B i k)
      have h3 := pos_sub (B k j)
      have h4 : w k * SC.pos (- B k i) = w i * SC.pos (B i k) := h1
      have e : SC.pos (- B k i) * (w k * B k j) = w i * SC.pos (B i k) * B k j := by rw [← h4]; grind
      have e2 : B i k * SC.pos (- B k j) + SC.pos (B i k) * B k j = SC.pos (B i k) * SC.pos (B k j) - SC.pos (- B i k) * SC.pos (- B k j) := by
        generalize SC.pos (B i k) = p1 at *
        generalize SC.pos (-B i k) = p2 at *
        generalize SC.pos (B k j) = p3 at *
        generalize SC.pos (-B k j) = p4 at *
        rw [← h2, ← h3]; grind
      grind
theorem hO_P (h : Sk w B) (k : Fin n) (a b : Dg n) (ha : InQ (rP B k) k a) (hb : InQ (rP B k) k b) :
    (frm w (mu k B) (Sk_mu h k)).Om (flipD (rP B k) k a) (flipD (rP B k) k b) = (frm w B h).Om a b := by
  show OmI (wB w (mu k B)) (up _) (up _) = OmI (wB w B) (up a) (up b)
  rw [up_flip ha, up_flip hb]
  refine OmI_turn (wB_skew h) ?_ (turn_P h k) _ _
  rw [rP_k h]; unfold unitV; rw [if_pos rfl]; rfl
theorem hO_N (h : Sk w B) (k : Fin n) (a b : Dg n) (ha : InQ (rN B k) k a) (hb : InQ (rN B k) k b) :
    (frm w (mu k B) (Sk_mu h k)).Om (flipD (rN B k) k a) (flipD (rN B k) k b) = (frm w B h).Om a b := by
  show OmI (wB w (mu k B)) (up _) (up _) = OmI (wB w B) (up a) (up b)
  rw [up_flip ha, up_flip hb]
  refine OmI_turn (wB_skew h) ?_ (turn_N h k) _ _
  rw [rN_k h]; unfold unitV; rw [if_pos rfl]; rfl
end
/-! ### the element of a board -/
theorem mul_two {i j : Fin n} {d : Dg n} (hd : d ≠ 0) (h : Mul i d) (h2 : Mul j d) : i = j := by
  refine Classical.byContradiction fun c => hd (dg_ext fun l => ?_)
  by_cases e : l = i
  · exact mul_iff.mp h2 l (e ▸ c)
  · exact mul_iff.mp h l e
open Classical in
noncomputable def tgt (F : Form n) (w : Fin n → Int) (d : Dg n) : Rat := if h : ∃ i, Mul i d then Dat F (Ek w (Classical.choose h)) d else 0
theorem tgt_in (F : Form n) (w : Fin n → Int) {d : Dg n} (hd : d ≠ 0) {i : Fin n} (h : Mul i d) : tgt F w d = Dat F (Ek w i) d := by
  unfold tgt
  have hh : ∃ i, Mul i d := ⟨i, h⟩
  rw [dif_pos hh, mul_two hd (Classical.choose_spec hh) h]
theorem tgt_out (F : Form n) (w : Fin n → Int) {d : Dg n} (h : ∀ i, ¬ Mul i d) : tgt F w d = 0 := dif_neg fun ⟨i, hi⟩ => h i hi
structure IsU (F : Form n) (w : Fin n → Int) (u : El n) : Prop where
  u0 : u 0 = 1
  dat : ∀ d, d ≠ 0 → Dat F u d = tgt F w d
open Classical in
theorem exists_U (F : Form n) (w : Fin n → Int) : ∃ u, IsU F w u := by
  obtain ⟨u, hu⟩ := exists_fix (fun (u : El n) d => if d = 0 then (1 : Rat) else tgt F w d - Dat F (fun a => if a = 0 then 1 else if low d a then u a else 0) d) fun f g d h => by
    have : (fun a => if a = 0 then (1 : Rat) else if low d a then f a else 0) = fun a => if a = 0 then (1 : Rat) else if low d a then g a else 0 := funext fun a => by
      by_cases e : a = 0
      · rw [if_pos e, if_pos e]
      · rw [if_neg e, if_neg e]
        by_cases e2 : low d a
        · rw [if_pos e2, if_pos e2, h a e2]
        · rw [if_neg e2, if_neg e2]
    show (if d = 0 then (1 : Rat) else _) = if d = 0 then (1 : Rat) else _
    rw [this]
  have u0 : u 0 = 1 := (hu 0).trans (if_pos rfl)
  refine ⟨u, u0, fun d hd => ?_⟩
  have e := hu d
  simp only [if_neg hd] at e
  have l := Dat_low (F := F) (y := u) (z := fun a => if a = 0 then 1 else if low d a then u a else 0) hd u0 (if_pos rfl) fun a ha => by
    by_cases e : a = 0
    · simp only [if_pos e]; rw [e, u0]
    · simp only [if_neg e, if_pos ha]
  simp only [if_neg hd, if_neg (fun h : low d d => h.2 rfl)] at l
  grind
theorem IsU.unique {F : Form n} {w : Fin n → Int} {u u' : El n} (h : IsU F w u) (h' : IsU F w u') : u = u' := el_ext fun d => by
  refine dg_ind (P := fun d => u d = u' d) (fun d ih => ?_) d
  by_cases e : d = 0
  · rw [e, h.u0, h'.u0]
  · have := Dat_low (F := F) e h.u0 h'.u0 ih
    rw [h.dat d e, h'.dat d e] at this
    grind
theorem low_mul {k : Fin n} {d a : Dg n} (h : Mul k d) (ha : a ≤ d) : Mul k a := by
  rw [mul_iff] at *
  intro i hi
  have := le_at ha i
  rw [h i hi] at this
  omega
theorem IsU.on {F : Form n} {w : Fin n → Int} {u : El n} (h : IsU F w u) {k : Fin n} {d : Dg n} (hd : Mul k d) : u d = Ek w k d := by
  revert hd
  refine dg_ind (P := fun d => Mul k d → u d = Ek w k d) (fun d ih hd => ?_) d
  by_cases e : d = 0
  · rw [e, h.u0, Ek_zero]
  · have := Dat_low (F := F) e h.u0 (Ek_zero w k) fun a ha => ih a ha (low_mul hd ha.1)
    rw [h.dat d e, tgt_in F w e hd] at this
    grind
section
variable {w : Fin n → Int} {B : Fin n → Fin n → Int} (hB : Sk w B)
theorem Om_mul {k : Fin n} {a : Dg n} (ha : Mul k a) (d : Dg n) : (frm w B hB).Om d a = -(w k * (a k : Int) * lin (B k) d) := by
  rw [Form.skew]
  have := Om_unit hB k (a k) d
  rw [← ha] at this
  rw [this]
theorem mul_ne_zero {k : Fin n} {a : Dg n} (ha : Mul k a) (h : a ≠ 0) : 0 < a k := by
  refine Classical.byContradiction fun c => h (dg_ext fun i => ?_)
  by_cases e : i = k
  · subst e; rw [zero_at]; omega
  · rw [mul_iff.mp ha i e, zero_at]
theorem Dl_E {F : Form n} (w : Fin n → Int) {k : Fin n} {d : Dg n} (hd : ¬ Mul k d) : Dl F (Ek w k - one) d = 0 := by
  have s : Supp (Ek w k - one) (Mul k) := fun a ha => by
    by_cases e : a = 0
    · rw [e]; exact mul_zero k
    · rw [esub_at, one_ne e] at ha
      exact Ek_supp w k a fun z => ha (by rw [z]; grind)
  refine ls_zero fun m _ => ?_
  have e : hp F (Ek w k - one) (m + 1) d = 0 := Classical.byContradiction fun h => hd (hp_supp F (mul_zero k) mul_addM s (m + 1) d h)
  rw [e]; grind
theorem not_mul_ne {k : Fin n} {d : Dg n} (hd : ¬ Mul k d) : d ≠ 0 := fun e => hd (e ▸ mul_zero k)
theorem Dat_E_left {k : Fin n} {d : Dg n} (hd : ¬ Mul k d) (hm : lin (B k) d ≤ 0) {y : El n} (y0 : y 0 = 1) : Dat (frm w B hB) (mul (frm w B hB) (Ek w k) y) d = Dat (frm w B hB) y d := by
  by_cases e : lin (B k) d = 0
  · have t : Th (frm w B hB) d (Ek w k) := fun a ha => by
      show (frm w B hB).Om d a = 0
      rw [Om_mul hB (Ek_supp w k a ha), e, Int.mul_zero]; rfl
    rw [Dat_left_zero (not_mul_ne hd) (Ek_zero w k) y0 t, Dl_E w hd]; grind
  · refine Dat_left_pos (Ek_zero w k) y0 fun a ha => ?_
    by_cases z : a = 0
    · exact .inl z
    · right
      have ma := Ek_supp w k a ha
      rw [Om_mul hB ma]
      have h1 := mul_ne_zero ma z
      have h2 : 0 < w k * (a k : Int) := Int.mul_pos (hB.1 k) (by omega)
      have h3 : 0 < w k * (a k : Int) * -lin (B k) d := Int.mul_pos h2 (by omega)
      rw [Int.mul_neg] at h3
      exact h3
theorem Dat_E_right {k : Fin n} {d : Dg n} (hd : ¬ Mul k d) (hm : 0 ≤ lin (B k) d) {y : El n} (y0 : y 0 = 1) : Dat (frm w B hB) (mul (frm w B hB) y (Ek w k)) d = Dat (frm w B hB) y d := by
  by_cases e : lin (B k) d = 0
  · have t : Th (frm w B hB) d (Ek w k) := fun a ha => by
      show (frm w B hB).Om d a = 0
      rw [Om_mul hB (Ek_supp w k a ha), e, Int.mul_zero]; rfl
    rw [Dat_right_zero (not_mul_ne hd) (Ek_zero w k) y0 t, Dl_E w hd]; grind
  · refine Dat_right_neg (Ek_zero w k) y0 fun a ha => ?_
    by_cases z : a = 0
    · exact .inl z
    · right
      have ma := Ek_supp w k a ha
      rw [Om_mul hB ma]
      have h1 := mul_ne_zero ma z
      have h2 : 0 < w k * (a k : Int) := Int.mul_pos (hB.1 k) (by omega)
      have h3 : 0 < w k * (a k : Int) * lin (B k) d := Int.mul_pos h2 (by omega)
      omega
theorem M_topL {R L : Nat} {z : Sq} (c : Rat) (h : ∀ l, l ≤ L → R < l → z l = 0) : ∀ l, l ≤ L → R + 1 < l → M c z l = 0 := fun l hl hr => by
  rcases l with _ | l
  · omega
  · rw [M_succ, h (l + 1) hl (by omega), h l (by omega) (by omega)]; grind
theorem Sy_topL {R L : Nat} {z : Sq} (w : Int) (h : ∀ l, l ≤ L → R < l → z l = 0) : ∀ m l, l ≤ L → R + m < l → Sy w m z l = 0
  | 0 => h
  | 1 => M_topL 1 h
  | m + 2 => M_topL _ (M_topL _ (Sy_topL w h m))
theorem mul_inq {r : Fin n → Int} (r0 : ∀ j, 0 ≤ r j) {i k : Fin n} (h : i ≠ k) {d : Dg n} (hd : Mul i d) : InQ r k d := by
  unfold InQ
  rw [mul_iff.mp hd k (Ne.symm h)]
  exact lin_nonneg r0 d
theorem tgt_notin {F : Form n} {r : Fin n → Int} (r0 : ∀ j, 0 ≤ r j) {k : Fin n} {d : Dg n} (hk : ¬ Mul k d) (hq : ¬ InQ r k d) : tgt F w d = 0 := tgt_out F w fun i hi => by
  by_cases e : i = k
  · exact hk (e ▸ hi)
  · exact hq (mul_inq r0 e hi)
/-- one step: below all is within, so it is here -/
theorem dat_zero {F : Form n} {r : Fin n → Int} {k : Fin n} {d : Dg n} (hd : d ≠ 0) {y : El n} (y0 : y 0 = 1) (hl : ∀ a, low d a → y a ≠ 0 → InQ r k a) (hq : ¬ InQ r k d) (h : Dat F y d = 0) : y d = 0 := by
  classical
  have s : Supp (fun a => if InQ r k a then y a else 0) (InQ r k) := fun a ha => Classical.byContradiction fun c => ha (if_neg c)
  have z0 : (fun a => if InQ r k a then y a else 0 : El n) 0 = 1 := (if_pos inq_zero).trans y0
  have h1 := Dat_supp (F := F) z0 inq_zero inq_add s hq
  have h2 := Dat_low (F := F) hd y0 z0 fun a ha => by
    show y a = if InQ r k a then y a else 0
    by_cases c : InQ r k a
    · rw [if_pos c]
    · rw [if_neg c]
      exact Classical.byContradiction fun z => c (hl a ha z)
  rw [h, h1] at h2
  have h3 : (0 : Rat) - 0 = y d - if InQ r k d then y d else 0 := h2
  rw [if_neg hq] at h3
  grind
theorem pair_supp {u v z : El n} (hu : IsU (frm w B hB) w u) {k : Fin n} (v0 : v 0 = 1) (z0 : z 0 = 1) (hv : mul (frm w B hB) (Ek w k) v = u) (hz : mul (frm w B hB) z (Ek w k) = u) (d : Dg n) :
    (v d ≠ 0 → InQ (rP B k) k d) ∧ (z d ≠ 0 → InQ (rN B k) k d) := by
  refine dg_ind (P := fun d => (v d ≠ 0 → InQ (rP B k) k d) ∧ (z d ≠ 0 → InQ (rN B k) k d)) (fun d ih => ?_) d
  by_cases e : d = 0
  · subst e; exact ⟨fun _ => inq_zero, fun _ => inq_zero⟩
  by_cases hk : Mul k d
  · have E0 := Ek_zero w k
    have key1 : v d = 0 := by
      have h1 : v = mul (frm w B hB) (inv (frm w B hB) (Ek w k) E0) u := by rw [← hv, inv_cancel]
      have h2 := congrFun (inv_mul (frm w B hB) E0) d
      rw [one_ne e] at h2
      rw [h1, mul_at, ← h2, mul_at]
      exact ls_congr fun a ha => by rw [hu.on (low_mul hk (dsub_le d a))]
    have key2 : z d = 0 := by
      have h1 : z = mul (frm w B hB) u (inv (frm w B hB) (Ek w k) E0) := by rw [← hz, mul_assoc, mul_inv, mul_one]
      have h2 := congrFun (mul_inv (frm w B hB) E0) d
      rw [one_ne e] at h2
      rw [h1, mul_at, ← h2, mul_at]
      exact ls_congr fun a ha => by rw [hu.on (low_mul hk (mem_box.mp ha))]
    exact ⟨fun h => absurd key1 h, fun h => absurd key2 h⟩
  have hc : mul (frm w B hB) (Ek w k) v = mul (frm w B hB) z (Ek w k) := by rw [hv, hz]
  have R0 := lin_nonneg (rP_nonneg (B := B) k) d
  have S0 := lin_nonneg (rN_nonneg (B := B) k) d
  have hPN := lin_PN (B := B) k d
  have lowset : ∀ l, l < d k → low d (setD d k l) := fun l hl => by
    refine ⟨fun i => ?_, fun h => ?_⟩
    · by_cases c : i = k
      · subst c; rw [setD_same]; omega
      · rw [setD_ne _ _ c]; exact Nat.le_refl _
    · have := congrFun h k
      rw [setD_same] at this
      omega
  by_cases c : lin (B k) d ≤ 0
  · have vd : v d ≠ 0 → InQ (rP B k) k d := fun h => Classical.byContradiction fun hq => h (dat_zero (F := frm w B hB) e v0 (fun a ha => (ih a ha).1) hq (by
      rw [← Dat_E_left hB hk c v0, hv, hu.dat d e, tgt_notin (rP_nonneg k) hk hq]))
    refine ⟨vd, fun h => Classical.byContradiction fun hq => h ?_⟩
    obtain ⟨m, em⟩ : ∃ m : Nat, lin (B k) d = -(m : Int) := ⟨(-lin (B k) d).toNat, by omega⟩
    have h2 := congrFun (conj_neg hB k hc em) (d k)
    have e1 : fb k d z (d k) = z d := congrArg z (setD_eq d k)
    rw [← e1, h2]
    refine Sy_topL (R := (lin (rP B k) d).toNat) (L := d k) (w k) (fun l hl hr => ?_) m (d k) (Nat.le_refl _) ?_
    · refine Classical.byContradiction fun hn => ?_
      have q : InQ (rP B k) k (setD d k l) := by
        by_cases c2 : l = d k
        · subst c2
          rw [setD_eq]
          refine vd fun z => hn ?_
          show v (setD d k (d k)) = 0
          rw [setD_eq, z]
        · exact (ih _ (lowset l (by omega))).1 hn
      unfold InQ at q
      rw [lin_set (rP_k hB k), setD_same] at q
      omega
    · unfold InQ at hq
      omega
  · have zd : z d ≠ 0 → InQ (rN B k) k d := fun h => Classical.byContradiction fun hq => h (dat_zero (F := frm w B hB) e z0 (fun a ha => (ih a ha).2) hq (by
      rw [← Dat_E_right hB hk (by omega) z0, hz, hu.dat d e, tgt_notin (rN_nonneg k) hk hq]))
    refine ⟨fun h => Classical.byContradiction fun hq => h ?_, zd⟩
    obtain ⟨m, em⟩ : ∃ m : Nat, lin (B k) d = (m : Int) := ⟨(lin (B k) d).toNat, by omega⟩
    have h2 := congrFun (conj_pos hB k hc em) (d k)
    have e1 : fb k d v (d k) = v d := congrArg v (setD_eq d k)
    rw [← e1, h2]
    refine Sy_topL (R := (lin (rN B k) d).toNat) (L := d k) (w k) (fun l hl hr => ?_) m (d k) (Nat.le_refl _) ?_
    · refine Classical.byContradiction fun hn => ?_
      have q : InQ (rN B k) k (setD d k l) := by
        by_cases c2 : l = d k
        · subst c2
          rw [setD_eq]
          refine zd fun z => hn ?_
          show _ = (0 : Rat)
          unfold fb
          rw [setD_eq, z]
        · exact (ih _ (lowset l (by omega))).2 hn
      unfold InQ at q
      rw [lin_set (rN_k hB k), setD_same] at q
      omega
    · unfold InQ at hq
      omega
/-- the targets under a flip -/
theorem mul_flip_fix {r : Fin n → Int} {k i : Fin n} (hik : i ≠ k) (ri : r i = 0) {d : Dg n} (hd : Mul i d) : flipD r k d = d := by
  have : lin r d = 0 := by
    rw [hd, lin_one, ri, Int.zero_mul]
  have hk0 := mul_iff.mp hd k (Ne.symm hik)
  unfold flipD
  rw [this, hk0]
  have := setD_eq d k
  rw [hk0] at this
  exact this
theorem flip_E {r : Fin n → Int} (r0 : ∀ j, 0 ≤ r j) {k i : Fin n} (rk : r k = 0) (hik : i ≠ k) (ri : r i = 0) : flipE r k (Ek w i) = Ek w i := el_ext fun a => by
  by_cases h : Mul i a
  · rw [flipE_in (mul_inq r0 hik h), mul_flip_fix hik ri h]
  · rw [Ek_out h]
    by_cases q : InQ r k a
    · rw [flipE_in q]
      refine Ek_out fun z => h ?_
      have := flip_flip rk q
      rw [mul_flip_fix hik ri z] at this
      exact this ▸ z
    · rw [flipE_out q]
theorem tgt_flip {F F' : Form n} {r : Fin n → Int} (r0 : ∀ j, 0 ≤ r j) {k : Fin n} (rk : r k = 0) (hO : ∀ a b, InQ r k a → InQ r k b → F'.Om (flipD r k a) (flipD r k b) = F.Om a b)
    {d : Dg n} (hk : ¬ Mul k d) (q : InQ r k d) (hr : ∀ i, i ≠ k → 0 < d i → (∀ j, j ≠ i → j ≠ k → d j = 0) → r i = 0) : tgt F w (flipD r k d) = tgt F' w d := by
  by_cases h : ∃ i, Mul i d
  · obtain ⟨i, hi⟩ := h
    have hik : i ≠ k := fun e => hk (e ▸ hi)
    have hd := not_mul_ne hk
    have ri := hr i hik (mul_ne_zero hi hd) fun j hj _ => mul_iff.mp hi j hj
    rw [mul_flip_fix hik ri hi, tgt_in F w hd hi, tgt_in F' w hd hi]
    have := Dat_flip rk hO (Ek_zero w i) (fun a ha => mul_inq r0 hik (Ek_supp w i a ha)) q
    rw [flip_E r0 rk hik ri, mul_flip_fix hik ri hi] at this
    exact this.symm
  · rw [tgt_out F' w fun i hi => h ⟨i, hi⟩]
    refine tgt_out F w fun i hi => ?_
    by_cases hik : i = k
    · subst hik
      refine hk (mul_iff.mpr fun j hj => ?_)
      have := mul_iff.mp hi j hj
      rw [flipD_ne _ hj] at this
      exact this
    · have f0 : flipD r k d ≠ 0 := fun z => by
        have := flip_flip rk q
        rw [z, flip_zero] at this
        exact not_mul_ne hk this.symm
      have p := mul_ne_zero hi f0
      rw [flipD_ne _ hik] at p
      have ri := hr i hik p fun j hj hjk => by
        have := mul_iff.mp hi j hj
        rw [flipD_ne _ hjk] at this
        exact this
      have e := mul_flip_fix hik ri hi
      rw [flip_flip rk q] at e
      exact h ⟨i, e ▸ hi⟩
theorem lin_single {c : Fin n → Int} {k i : Fin n} (ck : c k = 0) (hik : i ≠ k) {d : Dg n} (h : ∀ j, j ≠ i → j ≠ k → d j = 0) : lin c d = c i * (d i : Int) := by
  unfold lin
  rw [ls_single i (List.nodup_finRange n) (List.mem_finRange i) fun j _ hj => by
    by_cases e : j = k
    · rw [e, ck, Int.zero_mul]
    · rw [h j hj e]; exact Int.mul_zero _]
/-- the swapped board's element -/
theorem swap_U {u v z : El n} (hu : IsU (frm w B hB) w u) {k : Fin n} (v0 : v 0 = 1) (z0 : z 0 = 1) (hv : mul (frm w B hB) (Ek w k) v = u) (hz : mul (frm w B hB) z (Ek w k) = u) :
    IsU (frm w (mu k B) (Sk_mu hB k)) w (mul (frm w (mu k B) (Sk_mu hB k)) (flipE (rP B k) k v) (Ek w k)) := by
  have sv : Supp v (InQ (rP B k) k) := fun d => (pair_supp hB hu v0 z0 hv hz d).1
  have sz : Supp z (InQ (rN B k) k) := fun d => (pair_supp hB hu v0 z0 hv hz d).2
  have hc : mul (frm w B hB) (Ek w k) v = mul (frm w B hB) z (Ek w k) := by rw [hv, hz]
  have rk := rP_k hB k
  have sk := rN_k hB k
  have cf := conj_flip hB (Sk_mu hB k) rk sk (rP_nonneg k) (rN_nonneg k) (lin_PN k) (lin_mu k) sv sz hc
  have fv0 : flipE (rP B k) k v 0 = 1 := by rw [flipE_zero, v0]
  have fz0 : flipE (rN B k) k z 0 = 1 := by rw [flipE_zero, z0]
  have E0 := Ek_zero w k
  have m0 : mul (frm w (mu k B) (Sk_mu hB k)) (flipE (rP B k) k v) (Ek w k) 0 = 1 := by
    rw [mul_zero_at, fv0, E0]; grind
  refine ⟨m0, fun d hd => ?_⟩
  by_cases hk : Mul k d
  · -- multiples of the place itself
    have on : ∀ a, a ≤ d → mul (frm w (mu k B) (Sk_mu hB k)) (flipE (rP B k) k v) (Ek w k) a = Ek w k a := fun a ha => by
      rw [mul_at, ls_single 0 (nodup_box a) (mem_box.mpr (dzero_le a)) fun b hb hn => ?_]
      · rw [dsub_zero, Form.zl, fv0]
        have : pw (-0) = 1 := pw_zero
        rw [this]; grind
      · have mb := low_mul hk (dle_trans (mem_box.mp hb) ha)
        rw [flipE_out (f := v) (d := b) fun q => ?_]
        · grind
        · have p := mul_ne_zero mb hn
          unfold InQ at q
          rw [mb, lin_one, rk, setD_same] at q
          omega
    have := Dat_low (F := frm w (mu k B) (Sk_mu hB k)) hd m0 E0 fun a ha => on a ha.1
    rw [on d (dle_refl d)] at this
    rw [tgt_in _ w hd hk]
    grind
  · by_cases c : lin (B k) d ≤ 0
    · have hm' : 0 ≤ lin (mu k B k) d := by rw [lin_mu]; omega
      rw [Dat_E_right (Sk_mu hB k) hk hm' fv0]
      by_cases q : InQ (rP B k) k d
      · have q0 := inq_flip rk q
        have dd := flip_flip rk q
        have t := Dat_flip rk (hO_P hB k) v0 sv q0
        rw [dd] at t
        have hk0 : ¬ Mul k (flipD (rP B k) k d) := fun h => hk (mul_iff.mpr fun j hj => by
          have := mul_iff.mp h j hj
          rw [flipD_ne _ hj] at this
          exact this)
        have c0 : lin (B k) (flipD (rP B k) k d) ≤ 0 := by
          unfold flipD; rw [lin_set (hB.diag k)]; exact c
        rw [t, ← Dat_E_left hB hk0 c0 v0, hv, hu.dat _ (not_mul_ne hk0)]
        refine tgt_flip (rP_nonneg k) rk (hO_P hB k) hk q fun i hik hp hj => ?_
        rw [lin_single (hB.diag k) hik hj] at c
        have : B k i ≤ 0 := Classical.byContradiction fun z => by
          have : 0 < B k i * (d i : Int) := Int.mul_pos (by omega) (by omega)
          omega
        unfold rP pos
        rw [if_neg (by omega)]
      · rw [Dat_supp fv0 inq_zero inq_add (flipE_supp v) q, tgt_notin (rP_nonneg k) hk q]
    · have hm' : lin (mu k B k) d ≤ 0 := by rw [lin_mu]; omega
      rw [← cf, Dat_E_left (Sk_mu hB k) hk hm' fz0]
      by_cases q : InQ (rN B k) k d
      · have q0 := inq_flip sk q
        have dd := flip_flip sk q
        have t := Dat_flip sk (hO_N hB k) z0 sz q0
        rw [dd] at t
        have hk0 : ¬ Mul k (flipD (rN B k) k d) := fun h => hk (mul_iff.mpr fun j hj => by
          have := mul_iff.mp h j hj
          rw [flipD_ne _ hj] at this
          exact this)
        have c0 : 0 ≤ lin (B k) (flipD (rN B k) k d) := by
          unfold flipD; rw [lin_set (hB.diag k)]; omega
        rw [t, ← Dat_E_right hB hk0 c0 z0, hz, hu.dat _ (not_mul_ne hk0)]
        refine tgt_flip (rN_nonneg k) sk (hO_N hB k) hk q fun i hik hp hj => ?_
        rw [lin_single (hB.diag k) hik hj] at c
        have : 0 ≤ B k i := Classical.byContradiction fun z => by
          have : 0 < (- B k i) * (d i : Int) := Int.mul_pos (by omega) (by omega)
          rw [Int.neg_mul] at this
          omega
        unfold rN pos
        rw [if_neg (by omega)]
      · rw [Dat_supp fz0 inq_zero inq_add (flipE_supp z) q, tgt_notin (rN_nonneg k) hk q]
end
end SC
set_option Elab.async false
set_option linter.all false
namespace SC
variable {n : Nat}
/-! ### along green rows -/
def dl (i l : Fin n) : Int := if i = l then 1 else 0
structure Good (w : Fin n → Int) (B C : Fin n → Fin n → Int) (f a : El n) : Prop where
  hB : Sk w B
  f0 : f 0 = 1
  a0 : a 0 = 1
  hu : ∀ h : Sk w B, IsU (frm w B h) w (mul (frm w B h) f a)
  sf : Supp f fun d => ∀ i, 0 ≤ lin (C i) d
  sa : Supp a fun d => ∀ i, lin (C i) d ≤ 0
  ns : ∀ x : Fin n → Int, (∀ i, lv (C i) x = 0) → ∀ j, x j = 0
  pp : ∀ i, (∃ d, f d ≠ 0 ∧ ∀ l, lin (C l) d = dl i l) ∨ (∃ d, a d ≠ 0 ∧ ∀ l, lin (C l) d = - dl i l)
theorem lin_e (r : Fin n → Int) (k : Fin n) : lin r (setD 0 k 1) = r k := by rw [lin_one]; omega
theorem up_zero {d : Dg n} (h : ∀ j, up d j = 0) : d = 0 := dg_ext fun j => by
  have := h j
  unfold up at this
  rw [zero_at]; omega
section
variable {w : Fin n → Int} {B C : Fin n → Fin n → Int} {f a : El n}
/-- each column has one sign -/
theorem Good.sign (G : Good w B C f a) (k : Fin n) : (∀ i, 0 ≤ C i k) ∨ ∀ i, C i k ≤ 0 := by
  have h1 := (G.hu G.hB).on (mul_set k 1)
  have h2 : mul (frm w B G.hB) f a (setD 0 k 1) ≠ 0 := by
    rw [h1, Ek_in]; exact eps_one (G.hB.1 k)
  obtain ⟨b, hb, hf, ha⟩ := mul_ne _ h2
  by_cases e : b = 0
  · right
    rw [e, dsub_zero] at ha
    have := G.sa _ ha
    intro i
    rw [← lin_e (C i) k]; exact this i
  · left
    have mb := low_mul (mul_set k 1) hb
    have p := mul_ne_zero mb e
    have le := le_at hb k
    rw [setD_same] at le
    have : b = setD 0 k 1 := by rw [mb]; congr 1; omega
    rw [this] at hf
    have := G.sf _ hf
    intro i
    rw [← lin_e (C i) k]; exact this i
theorem Good.col_ne (G : Good w B C f a) (k : Fin n) : ∃ i, C i k ≠ 0 := by
  refine Classical.byContradiction fun h => ?_
  have := G.ns (unitV k 1) (fun i => by
    rw [lv_unit]
    have : C i k = 0 := Classical.byContradiction fun z => h ⟨i, z⟩
    rw [this]; rfl) k
  unfold unitV at this
  rw [if_pos rfl] at this
  omega
def rot (B : Fin n → Fin n → Int) (k : Fin n) : Fin n → Int := fun j => rP B k j - unitV k 2 j
/-- the columns behind a swap at a green place -/
def nx (B C : Fin n → Fin n → Int) (k : Fin n) : Fin n → Fin n → Int := fun i j => if j = k then - C i k else C i j + SC.pos (B k j) * C i k
theorem nx_rot (h : Sk w B) (C : Fin n → Fin n → Int) (k i j : Fin n) : nx B C k i j = C i j + rot B k j * C i k := by
  unfold nx rot rP unitV
  by_cases c : j = k
  · subst c
    rw [if_pos rfl, if_pos rfl, h.diag, pos_zero]; omega
  · rw [if_neg c, if_neg c]; grind
theorem lv_nx (h : Sk w B) (C : Fin n → Fin n → Int) (k i : Fin n) (x : Fin n → Int) : lv (nx B C k i) x = lv (C i) (fun j => x j + unitV k (lv (rot B k) x) j) := by
  have e1 : lv (C i) (fun j => x j + unitV k (lv (rot B k) x) j) = lv (C i) x + C i k * lv (rot B k) x := by
    rw [← lv_unit]
    unfold lv
    rw [← ls_add]
    exact ls_congr fun j _ => by grind
  rw [e1]
  unfold lv
  rw [← ls_mul, ← ls_add]
  exact ls_congr fun j _ => by rw [nx_rot h]; grind
theorem lin_nx (h : Sk w B) (C : Fin n → Fin n → Int) (k i : Fin n) {d : Dg n} (q : InQ (rP B k) k d) : lin (nx B C k i) d = lin (C i) (flipD (rP B k) k d) := by
  rw [lin_lv, lin_lv, lv_nx h, up_flip q]; rfl
theorem right_on {F : Form n} {w r : Fin n → Int} {k : Fin n} (rk : r k = 0) {y : El n} (y0 : y 0 = 1) {b : Dg n} (hb : Mul k b) : mul F (flipE r k y) (Ek w k) b = Ek w k b := by
  rw [mul_at, ls_single 0 (nodup_box b) (mem_box.mpr (dzero_le b)) fun c hc hn => ?_]
  · rw [dsub_zero, F.zl, flipE_zero, y0]
    have : pw (-0) = 1 := pw_zero
    rw [this]; grind
  · have mb := low_mul hb (mem_box.mp hc)
    rw [flipE_out (f := y) (d := c) fun q => ?_]
    · grind
    · have p := mul_ne_zero mb hn
      unfold InQ at q
      rw [mb, lin_one, rk, setD_same] at q
      omega
/-- a swap at a green place -/
theorem Good.step (G : Good w B C f a) {k : Fin n} (hk : ∀ i, 0 ≤ C i k) : ∃ f' a', Good w (mu k B) (nx B C k) f' a' := by
  have hB := G.hB
  have E0 := Ek_zero w k
  have rk := rP_k hB k
  obtain ⟨g, eg⟩ : ∃ g, g = mul (frm w B hB) (inv (frm w B hB) (Ek w k) E0) f := ⟨_, rfl⟩
  have g0 : g 0 = 1 := by rw [eg, mul_zero_at, inv0, G.f0]; grind
  have Eg : mul (frm w B hB) (Ek w k) g = f := by rw [eg, cancel_inv]
  have pz : ∀ i, 0 ≤ lin (C i) (0 : Dg n) := fun i => by rw [lin_zero]; exact Int.le_refl _
  have pa : ∀ a b : Dg n, (∀ i, 0 ≤ lin (C i) a) → (∀ i, 0 ≤ lin (C i) b) → ∀ i, 0 ≤ lin (C i) (a + b) := fun a b x y i => by
    rw [lin_add]; have := x i; have := y i; omega
  have linM : ∀ {b : Dg n}, Mul k b → ∀ c : Fin n → Int, lin c b = c k * (b k : Int) := fun {b} hb c => by
    rw [show lin c b = lin c (setD 0 k (b k)) from congrArg (lin c) hb, lin_one]
  have sE : Supp (Ek w k) fun d => ∀ i, 0 ≤ lin (C i) d := fun b hb i => by
    rw [linM (Ek_supp w k b hb)]
    exact Int.mul_nonneg (hk i) (Int.natCast_nonneg _)
  have sg : Supp g fun d => ∀ i, 0 ≤ lin (C i) d := by
    rw [eg]
    exact (inv_supp _ E0 pz pa sE).mul _ G.sf pa
  have hu := G.hu hB
  -- the pair
  have v0 : mul (frm w B hB) g a 0 = 1 := by rw [mul_zero_at, g0, G.a0]; grind
  have hv : mul (frm w B hB) (Ek w k) (mul (frm w B hB) g a) = mul (frm w B hB) f a := by rw [← mul_assoc, Eg]
  have z0 : mul (frm w B hB) (mul (frm w B hB) f a) (inv (frm w B hB) (Ek w k) E0) 0 = 1 := by rw [mul_zero_at, hu.u0, inv0]; grind
  have hz : mul (frm w B hB) (mul (frm w B hB) (mul (frm w B hB) f a) (inv (frm w B hB) (Ek w k) E0)) (Ek w k) = mul (frm w B hB) f a := by rw [mul_assoc, inv_mul, mul_one]
  have ps := pair_supp hB hu v0 z0 hv hz
  have both : ∀ d, (g d ≠ 0 → InQ (rP B k) k d) ∧ (a d ≠ 0 → InQ (rP B k) k d) := by
    refine dg_ind fun d ih => ?_
    by_cases q : InQ (rP B k) k d
    · exact ⟨fun _ => q, fun _ => q⟩
    · have hd : d ≠ 0 := fun e => q (e ▸ inq_zero)
      have vd : mul (frm w B hB) g a d = 0 := Classical.byContradiction fun h => q ((ps d).1 h)
      have md : mid (frm w B hB) g a d = 0 := Classical.byContradiction fun h => by
        obtain ⟨b, hb, h1, h2, h3, h4⟩ := mid_ne _ h
        have x1 := (ih b ⟨hb, h2⟩).1 h3
        have x2 := (ih _ (low_sub hb h1)).2 h4
        have := inq_add _ _ x1 x2
        rw [dadd_sub hb] at this
        exact q this
      rw [mul_split _ _ _ hd, md, g0, G.a0] at vd
      have no : g d ≠ 0 → a d ≠ 0 → False := fun h1 h2 => by
        have x1 := sg d h1
        have x2 := G.sa d h2
        refine hd (up_zero (G.ns (up d) fun i => ?_))
        have := x1 i
        have := x2 i
        rw [← lin_lv]; omega
      refine ⟨fun h => (no h fun z => h ?_).elim, fun h => (no (fun z => h ?_) h).elim⟩
      · rw [z] at vd; grind
      · rw [z] at vd; grind
  have qg : Supp g (InQ (rP B k)  k) := fun d h => (both d).1 h
  have qa : Supp a (InQ (rP B k) k) := fun d h => (both d).2 h
  have U := swap_U hB hu v0 z0 hv hz
  have cz : ∀ i, lin (nx B C k i) (0 : Dg n) ≤ 0 := fun i => by rw [lin_zero]; exact Int.le_refl _
  have ca : ∀ a b : Dg n, (∀ i, lin (nx B C k i) a ≤ 0) → (∀ i, lin (nx B C k i) b ≤ 0) → ∀ i, lin (nx B C k i) (a + b) ≤ 0 := fun a b x y i => by
    rw [lin_add]; have := x i; have := y i; omega
  have nxk : ∀ i, nx B C k i k = - C i k := fun i => if_pos rfl
  have ns' : ∀ x : Fin n → Int, (∀ i, lv (nx B C k i) x = 0) → ∀ j, x j = 0 := by
    intro x hx
    have h1 := G.ns _ fun i => by rw [← lv_nx hB]; exact hx i
    have h2 : ∀ j, j ≠ k → x j = 0 := fun j hj => by
      have := h1 j
      unfold unitV at this
      rw [if_neg hj] at this
      omega
    have h3 : lv (rot B k) x = rot B k k * x k := by
      unfold lv
      exact ls_single (R := Int) k (List.nodup_finRange n) (List.mem_finRange k) fun j _ hj => by rw [h2 j hj]; omega
    have h4 : rot B k k = -2 := by
      unfold rot unitV
      rw [rk, if_pos rfl]; rfl
    have h5 := h1 k
    unfold unitV at h5
    rw [if_pos rfl, h3, h4] at h5
    intro j
    by_cases e : j = k
    · subst e; omega
    · exact h2 j e
  have ek_out : ∀ {d : Dg n}, InQ (rP B k) k d → d ≠ setD 0 k 1 := fun {d} q e => by
    subst e
    unfold InQ at q
    rw [lin_e, rk, setD_same] at q
    omega
  -- what a column is that takes one unit
  have unit_col : ∀ (i : Fin n) (j : Nat), 1 ≤ j → (∀ l, (j : Int) * C l k ≤ dl i l) → j = 1 ∧ ∀ l, C l k = dl i l := by
    intro i j hj h
    have h0 : ∀ l, l ≠ i → C l k = 0 := fun l hl => by
      have := h l
      have h2 := hk l
      unfold dl at this
      rw [if_neg (Ne.symm hl)] at this
      refine Classical.byContradiction fun z => ?_
      have : 0 < (j : Int) * C l k := Int.mul_pos (by omega) (by omega)
      omega
    have hi : 1 ≤ C i k := by
      obtain ⟨l, hl⟩ := G.col_ne k
      by_cases e : l = i
      · subst e; have := hk l; omega
      · exact absurd (h0 l e) hl
    have h1 := h i
    unfold dl at h1
    rw [if_pos rfl] at h1
    have h2 : (j : Int) * 1 ≤ (j : Int) * C i k := Int.mul_le_mul_of_nonneg_left hi (by omega)
    have hj1 : j = 1 := by omega
    refine ⟨hj1, fun l => ?_⟩
    unfold dl
    by_cases e : i = l
    · subst e; rw [if_pos rfl]; subst hj1; omega
    · rw [if_neg e]; exact h0 l (Ne.symm e)
  refine ⟨flipE (rP B k) k g, mul (frm w (mu k B) (Sk_mu hB k)) (flipE (rP B k) k a) (Ek w k), Sk_mu hB k, by rw [flipE_zero, g0], by rw [mul_zero_at, flipE_zero, G.a0, E0]; grind, fun h => ?_, fun d hd i => ?_, ?_, ns', fun i => ?_⟩
  · rw [flip_mul rk (hO_P hB k) qg qa, mul_assoc] at U
    exact U
  · have q := flipE_supp g d hd
    rw [flipE_in q] at hd
    rw [lin_nx hB C k i q]
    exact sg _ hd i
  · refine Supp.mul _ (fun d hd i => ?_) (fun d hd i => ?_) ca
    · have q := flipE_supp a d hd
      rw [flipE_in q] at hd
      rw [lin_nx hB C k i q]
      exact G.sa _ hd i
    · rw [linM (Ek_supp w k d hd), nxk]
      have := Int.mul_nonneg (hk i) (Int.natCast_nonneg (d k))
      rw [Int.neg_mul]; omega
  · rcases G.pp i with ⟨d, hd, hl⟩ | ⟨d, hd, hl⟩
    · rw [← Eg] at hd
      obtain ⟨b, hb, h1, h2⟩ := mul_ne _ hd
      by_cases e : b = 0
      · left
        rw [e, dsub_zero] at h2
        have q := qg d h2
        refine ⟨flipD (rP B k) k d, ?_, fun l => ?_⟩
        · rw [flipE_in (inq_flip rk q), flip_flip rk q]; exact h2
        · rw [lin_nx hB C k l (inq_flip rk q), flip_flip rk q]; exact hl l
      · right
        have mb := Ek_supp w k b h1
        have p := mul_ne_zero mb e
        have x := sg _ h2
        obtain ⟨_, hc⟩ := unit_col i (b k) p fun l => by
          have := x l
          have s := lin_add (C l) b (d - b)
          rw [dadd_sub hb, hl l, linM mb] at s
          rw [Int.mul_comm]; omega
        refine ⟨setD 0 k 1, ?_, fun l => ?_⟩
        · rw [right_on rk G.a0 (mul_set k 1), Ek_in]; exact eps_one (hB.1 k)
        · rw [lin_e, nxk, hc l]
    · right
      have q := qa d hd
      have q' := inq_flip rk q
      refine ⟨flipD (rP B k) k d, ?_, fun l => ?_⟩
      · rw [mul_at, ls_single (flipD (rP B k) k d) (nodup_box _) (mem_box.mpr (dle_refl _)) fun b hb hn => ?_]
        · rw [dsub_self, Form.zr, flipE_in q', flip_flip rk q, E0]
          have : pw (-0) = 1 := pw_zero
          rw [this]
          grind
        · rw [mem_box] at hb
          by_cases t1 : flipE (rP B k) k a b = 0
          · rw [t1]; grind
          · by_cases t2 : Ek w k (flipD (rP B k) k d - b) = 0
            · rw [t2]; grind
            · exfalso
              have mb := Ek_supp w k _ t2
              have ne0 : flipD (rP B k) k d - b ≠ 0 := fun z => hn (by
                have := dadd_sub hb
                rw [z, dadd_zero] at this
                exact this)
              have p := mul_ne_zero mb ne0
              have qb := flipE_supp a b t1
              rw [flipE_in qb] at t1
              have x := G.sa _ t1
              have eqs : ∀ l, lin (C l) (flipD (rP B k) k b) = - dl i l + C l k * ((flipD (rP B k) k d - b : Dg n) k : Int) := fun l => by
                have s := lin_add (nx B C k l) b (flipD (rP B k) k d - b)
                rw [dadd_sub hb, linM mb, nxk, lin_nx hB C k l q', flip_flip rk q, hl l, lin_nx hB C k l qb] at s
                rw [Int.neg_mul] at s
                omega
              obtain ⟨hj, hc⟩ := unit_col i ((flipD (rP B k) k d - b : Dg n) k) p fun l => by
                have := x l
                rw [eqs l] at this
                rw [Int.mul_comm]; omega
              have b0 : flipD (rP B k) k b = 0 := up_zero (G.ns _ fun l => by
                rw [← lin_lv, eqs l, hj, hc l]; omega)
              have b1 : b = 0 := by rw [← flip_flip rk qb, b0, flip_zero]
              have : flipD (rP B k) k d = setD 0 k 1 := by
                rw [b1, dsub_zero] at mb hj
                rw [mb, hj]
              exact ek_out q' this
      · rw [lin_nx hB C k l q', flip_flip rk q]; exact hl l
/-- the end of a full row -/
theorem Good.full (G : Good w B C f a) (hc : ∀ i j, C i j ≤ 0) (i : Fin n) : ∃ j, ∀ l, C l j = - dl i l := by
  have le0 : ∀ l (d : Dg n), lin (C l) d ≤ 0 := fun l d => by
    have := lin_nonneg (r := fun j => - C l j) (fun j => by have := hc l j; omega) d
    have e : lin (fun j => - C l j) d = - lin (C l) d := by
      unfold lin
      rw [← ls_neg]
      exact ls_congr fun j _ => by grind
    omega
  rcases G.pp i with ⟨d, hd, hl⟩ | ⟨d, hd, hl⟩
  · have h1 := hl i
    have h2 := le0 i d
    unfold dl at h1
    rw [if_pos rfl] at h1
    omega
  · have hne : d ≠ 0 := fun e => by
      have h1 := hl i
      rw [e, lin_zero] at h1
      unfold dl at h1
      rw [if_pos rfl] at h1
      omega
    obtain ⟨j, hj⟩ : ∃ j, d j ≠ 0 := Classical.byContradiction fun h => hne (dg_ext fun j => Classical.byContradiction fun z => h ⟨j, z⟩)
    have ge : ∀ l, - dl i l ≤ C l j := fun l => by
      have e : d = setD d j (d j - 1) + setD 0 j 1 := dg_ext fun t => by
        rw [add_at]
        by_cases c : t = j
        · subst c; rw [setD_same, setD_same]; omega
        · rw [setD_ne _ _ c, setD_ne _ _ c, zero_at]; rfl
      have s := hl l
      rw [e, lin_add, lin_e] at s
      have := le0 l (setD d j (d j - 1))
      omega
    refine ⟨j, fun l => ?_⟩
    have h0 : ∀ l, l ≠ i → C l j = 0 := fun l hl => by
      have h1 := ge l
      have h2 := hc l j
      unfold dl at h1
      rw [if_neg (Ne.symm hl)] at h1
      omega
    unfold dl
    by_cases e : i = l
    · subst e
      rw [if_pos rfl]
      have h1 := ge i
      have h2 := hc i j
      unfold dl at h1
      rw [if_pos rfl] at h1
      obtain ⟨t, ht⟩ := G.col_ne j
      by_cases e2 : t = i
      · subst e2; omega
      · exact absurd (h0 t e2) ht
    · rw [if_neg e]; exact h0 l (Ne.symm e)
end
/-! the start -/
theorem dl_same (i : Fin n) : dl i i = 1 := if_pos rfl
theorem dl_ne {i l : Fin n} (h : i ≠ l) : dl i l = 0 := if_neg h
theorem good_start {w : Fin n → Int} {B : Fin n → Fin n → Int} (h : Sk w B) : ∃ f a, Good w B (fun i j => dl i j) f a := by
  obtain ⟨u, hu⟩ := exists_U (frm w B h) w
  have lind : ∀ (i : Fin n) (d : Dg n), lin (fun j => dl i j) d = (d i : Int) := fun i d => by
    unfold lin
    rw [ls_single i (List.nodup_finRange n) (List.mem_finRange i) fun j _ hj => by show dl i j * _ = 0; rw [dl_ne (Ne.symm hj), Int.zero_mul]]
    show dl i i * _ = _
    rw [dl_same]; omega
  refine ⟨u, one, h, hu.u0, one_zero, fun h' => by rw [mul_one]; exact hu, fun d _ i => by rw [lind]; exact Int.natCast_nonneg _, fun d hd i => ?_, fun x hx j => ?_, fun i => .inl ⟨setD 0 i 1, ?_, fun l => ?_⟩⟩
  · by_cases e : d = 0
    · rw [e, lin_zero]; exact Int.le_refl _
    · exact absurd (one_ne e) hd
  · have := hx j
    unfold lv at this
    rw [ls_single j (List.nodup_finRange n) (List.mem_finRange j) fun t _ ht => by show dl j t * _ = 0; rw [dl_ne (Ne.symm ht), Int.zero_mul]] at this
    have this : dl j j * x j = 0 := this
    rw [dl_same] at this
    omega
  · rw [hu.on (mul_set i 1), Ek_in]; exact eps_one (h.1 i)
  · rw [lin_e]
    unfold dl
    by_cases e : l = i
    · rw [if_pos e, if_pos e.symm]
    · rw [if_neg e, if_neg (Ne.symm e)]
end SC
set_option Elab.async false
set_option linter.all false
set_option maxRecDepth 100000
namespace Nh
open PySem PySem.Spec PyProof.Rows L2
/-! ### heaps -/
/-- a tuple, or a tuple known as an object -/
def TupO (o : HO) : Prop := (∃ xs, o = .tup xs) ∨ ∃ ob xs, o = .frz ob (.tup xs)
/-- tuples stay -/
def TK (H H' : Hp) : Prop := ∀ b o, TupO o → H b = some o → H' b = some o
theorem TK.t {H H' : Hp} (t : TK H H') {b : Addr} {xs : List V} (h : H b = some (.tup xs)) : H' b = some (.tup xs) := t b _ (.inl ⟨xs, rfl⟩) h
theorem TK.f {H H' : Hp} (t : TK H H') {b : Addr} {ob : Obj} {xs : List V} (h : H b = some (.frz ob (.tup xs))) : H' b = some (.frz ob (.tup xs)) := t b _ (.inr ⟨ob, xs, rfl⟩) h
theorem TK.refl (H : Hp) : TK H H := fun _ _ _ h => h
theorem TK.trans {H H1 H2 : Hp} (a : TK H H1) (b : TK H1 H2) : TK H H2 := fun c o u h => b c o u (a c o u h)
theorem tk_of {H H' : Hp} (s : Same H H') : TK H H' := fun b _ _ h => s b _ h
theorem TupO.nl {o : HO} (u : TupO o) (xs : List V) : o ≠ .lst xs := by
  rcases u with ⟨_, rfl⟩ | ⟨_, _, rfl⟩ <;> intro e <;> cases e
theorem same_new {H : Hp} {p : Addr} {o : HO} (n : H p = none) : Same H (upd H p o) := fun b z h => by
  rw [upd_ne (ne_of_none h n)]; exact h
/-- a store to an object that came later -/
theorem same_upd {H0 H : Hp} {p : Addr} {o : HO} (s : Same H0 H) (n : H0 p = none) : Same H0 (upd H p o) := fun b z h => by
  rw [upd_ne (ne_of_none h n)]; exact s b z h
theorem tk_lst {H : Hp} {p : Addr} {xs : List V} {o : HO} (h : H p = some (.lst xs)) : TK H (upd H p o) := fun b z u hb => by
  rw [upd_ne (ne_of hb h (u.nl xs))]; exact hb
/-! ### values that represent data: tuples are data, lists are objects -/
class Rep (α : Type) where
  rep : Hp → V → α → Prop
  keep : ∀ {H H' : Hp} {v : V} {x : α}, TK H H' → rep H v x → rep H' v x
/-- two lists, item by item -/
inductive A2 {α : Type} (R : V → α → Prop) : List V → List α → Prop
  | nil : A2 R [] []
  | cons {v x vs xs} : R v x → A2 R vs xs → A2 R (v :: vs) (x :: xs)
section
variable {α β : Type} {R S : V → α → Prop}
theorem A2.mono (h : ∀ v x, R v x → S v x) : ∀ {vs xs}, A2 R vs xs → A2 S vs xs
  | _, _, .nil => .nil
  | _, _, .cons a b => .cons (h _ _ a) (A2.mono h b)
theorem A2.length : ∀ {vs : List V} {xs : List α}, A2 R vs xs → vs.length = xs.length
  | _, _, .nil => rfl
  | _, _, .cons _ b => congrArg (· + 1) (A2.length b)
theorem A2.get : ∀ {vs : List V} {xs : List α} {i : Nat} {x : α}, A2 R vs xs → xs[i]? = some x → ∃ v, vs[i]? = some v ∧ R v x
  | _, _, _, _, .nil, h => by simp at h
  | _, _, 0, _, .cons a _, h => by
    simp at h; subst h; exact ⟨_, rfl, a⟩
  | _, _, i + 1, x, .cons _ b, h => by
    obtain ⟨v, h1, h2⟩ := A2.get (i := i) (x := x) b (by simpa using h)
    exact ⟨v, by simpa using h1, h2⟩
theorem A2.got : ∀ {vs : List V} {xs : List α} {i : Nat} {v : V}, A2 R vs xs → vs[i]? = some v → ∃ x, xs[i]? = some x ∧ R v x
  | _, _, _, _, .nil, h => by simp at h
  | _, _, 0, _, .cons a _, h => by
    simp at h; subst h; exact ⟨_, rfl, a⟩
  | _, _, i + 1, x, .cons _ b, h => by
    obtain ⟨v, h1, h2⟩ := A2.got (i := i) (v := x) b (by simpa using h)
    exact ⟨v, by simpa using h1, h2⟩
theorem A2.append : ∀ {vs ws : List V} {xs ys : List α}, A2 R vs xs → A2 R ws ys → A2 R (vs ++ ws) (xs ++ ys)
  | _, _, _, _, .nil, h => h
  | _, _, _, _, .cons a b, h => .cons a (A2.append b h)
theorem A2.one {v : V} {x : α} (h : R v x) : A2 R [v] [x] := .cons h .nil
theorem A2.take : ∀ (n : Nat) {vs : List V} {xs : List α}, A2 R vs xs → A2 R (vs.take n) (xs.take n)
  | 0, _, _, _ => .nil
  | n + 1, _, _, .nil => .nil
  | n + 1, _, _, .cons a b => .cons a (A2.take n b)
theorem A2.drop : ∀ (n : Nat) {vs : List V} {xs : List α}, A2 R vs xs → A2 R (vs.drop n) (xs.drop n)
  | 0, _, _, h => h
  | n + 1, _, _, .nil => .nil
  | n + 1, _, _, .cons _ b => A2.drop n b
theorem A2.set {v : V} {x : α} (r : R v x) : ∀ (i : Nat) {vs : List V} {xs : List α}, A2 R vs xs → A2 R (vs.set i v) (xs.set i x)
  | _, _, _, .nil => .nil
  | 0, _, _, .cons _ b => .cons r b
  | i + 1, _, _, .cons a b => .cons a (A2.set r i b)
theorem A2.reverse : ∀ {vs : List V} {xs : List α}, A2 R vs xs → A2 R vs.reverse xs.reverse
  | _, _, .nil => .nil
  | _, _, .cons a b => by
    rw [List.reverse_cons, List.reverse_cons]
    exact (A2.reverse b).append (.one a)
theorem A2.nil_iff {vs : List V} {xs : List α} (h : A2 R vs xs) : vs = [] ↔ xs = [] := by
  cases h with
  | nil => simp
  | cons _ _ => simp
end
theorem a2_int : ∀ {vs : List V} {ns : List Int}, A2 (fun v x => v = V.int x) vs ns → vs = ns.map V.int
  | _, _, .nil => rfl
  | _, _, .cons a b => by rw [a, a2_int b]; rfl
theorem a2_ints : ∀ ns : List Int, A2 (fun v x => v = V.int x) (ns.map V.int) ns
  | [] => .nil
  | _ :: r => .cons rfl (a2_ints r)
theorem a2_bl : ∀ {vs : List V} {ns : List Bool}, A2 (fun v x => v = V.bl x) vs ns → vs = ns.map V.bl
  | _, _, .nil => rfl
  | _, _, .cons a b => by rw [a, a2_bl b]; rfl
instance : Rep Int := ⟨fun _ v x => v = .int x, fun _ h => h⟩
instance : Rep Bool := ⟨fun _ v x => v = .bl x, fun _ h => h⟩
instance : Rep Unit := ⟨fun _ v _ => v = .non, fun _ h => h⟩
instance {α : Type} [Rep α] : Rep (Option α) := ⟨fun H v x => match x with
  | none => v = .non
  | some y => Rep.rep H v y, fun {H H' v x} t h => by
    cases x with
    | none => exact h
    | some y => exact Rep.keep t h⟩
instance {α : Type} [Rep α] : Rep (List α) := ⟨fun H v xs => ∃ a vs, v = .ref a ∧ H a = some (.tup vs) ∧ A2 (Rep.rep H) vs xs, fun t h => by
  obtain ⟨a, vs, e, h1, h2⟩ := h
  exact ⟨a, vs, e, t.t h1, h2.mono fun _ _ r => Rep.keep t r⟩⟩
instance {α β : Type} [Rep α] [Rep β] : Rep (α × β) := ⟨fun H v x => ∃ a v1 v2, v = .ref a ∧ H a = some (.tup [v1, v2]) ∧ Rep.rep H v1 x.1 ∧ Rep.rep H v2 x.2, fun t h => by
  obtain ⟨a, v1, v2, e, h1, h2, h3⟩ := h
  exact ⟨a, v1, v2, e, t.t h1, Rep.keep t h2, Rep.keep t h3⟩⟩
/-- a value that is itself -/
structure Raw where
  v : V
instance : Rep Raw := ⟨fun _ v x => v = x.v, fun _ h => h⟩
/-- a list object of data -/
def LsR {α : Type} [Rep α] (H : Hp) (p : Addr) (xs : List α) : Prop := ∃ vs, H p = some (.lst vs) ∧ A2 (Rep.rep H) vs xs
theorem A2.up {α : Type} [Rep α] {H H' : Hp} (t : TK H H') {vs : List V} {xs : List α} (h : A2 (Rep.rep H) vs xs) : A2 (Rep.rep H') vs xs := h.mono fun _ _ r => Rep.keep t r
theorem LsR.up {α : Type} [Rep α] {H H' : Hp} {p : Addr} {xs : List α} (s : Same H H') (h : LsR H p xs) : LsR H' p xs := by
  obtain ⟨vs, h1, h2⟩ := h
  exact ⟨vs, s _ _ h1, h2.up (tk_of s)⟩
theorem LsR.ints {H : Hp} {p : Addr} {ns : List Int} : LsR H p ns ↔ H p = some (.lst (ns.map V.int)) := by
  constructor
  · rintro ⟨vs, h1, h2⟩
    rw [h1, a2_int h2]
  · exact fun h => ⟨_, h, a2_ints ns⟩
theorem rep_int {H : Hp} {v : V} {x : Int} : Rep.rep H v x ↔ v = .int x := Iff.rfl
theorem rep_row {H : Hp} {v : V} {ns : List Int} : Rep.rep H v ns ↔ ∃ a, v = .ref a ∧ H a = some (.tup (ns.map V.int)) := by
  constructor
  · rintro ⟨a, vs, e, h1, h2⟩
    exact ⟨a, e, by rw [h1, a2_int h2]⟩
  · rintro ⟨a, e, h⟩
    exact ⟨a, _, e, h, a2_ints ns⟩
theorem Rep.up {α : Type} [Rep α] {H H' : Hp} {v : V} {x : α} (s : Same H H') (h : Rep.rep H v x) : Rep.rep H' v x := Rep.keep (tk_of s) h
end Nh
set_option Elab.async false
set_option linter.all false
set_option maxRecDepth 100000
namespace Nh
open PySem PySem.Spec PyProof.Rows L2
/-! ### readings by what they are -/
structure WE (X : Cx) (e : Expr) (σ : L2.St) (H : Hp) (Q : VK) : Prop where
  run : ∀ (pins : List (Addr × Obj)) (s : Shared), Inv X pins σ H s → wpAny (model X.prog X.w) X.A (eval e X.env) (EP X pins σ Q) X.xe s
structure WT (X : Cx) (e : Expr) (σ : L2.St) (H : Hp) (Q : Bool → Hp → Prop) : Prop where
  run : ∀ (pins : List (Addr × Obj)) (s : Shared), Inv X pins σ H s → wpAny (model X.prog X.w) X.A (isTrue e X.env (eval e X.env)) (TP X pins σ Q) X.xe s
structure WS (X : Cx) (ss : List Stmt) (D : Ends) (σ : L2.St) (H : Hp) : Prop where
  run : ∀ (pins : List (Addr × Obj)) (s : Shared), Inv X pins σ H s → wpAny (model X.prog X.w) X.A (execs ss X.env) (SP X pins D) X.xe s
structure W1 (X : Cx) (st : Stmt) (D : Ends) (σ : L2.St) (H : Hp) : Prop where
  run : ∀ (pins : List (Addr × Obj)) (s : Shared), Inv X pins σ H s → wpAny (model X.prog X.w) X.A (exec st X.env) (SP X pins D) X.xe s
section
variable {X : Cx} {σ : L2.St} {H : Hp}
theorem lzE (e : Expr) : PE X e (WE X e) := ⟨fun pins s _ _ _ I h => h.run pins s I⟩
theorem lzT (e : Expr) : PT X e (WT X e) := ⟨fun pins s _ _ _ I h => h.run pins s I⟩
theorem lzS (ss : List Stmt) : PSs X ss (WS X ss) := ⟨fun pins s _ _ _ I h => h.run pins s I⟩
theorem lz1 (st : Stmt) : PS X st (W1 X st) := ⟨fun pins s _ _ _ I h => h.run pins s I⟩
theorem we {e : Expr} {t : TE} (p : PE X e t) {Q : VK} (q : t σ H Q) : WE X e σ H Q := ⟨fun pins s I => p.run pins s σ H Q I q⟩
theorem wt {e : Expr} {t : TT} (p : PT X e t) {Q : Bool → Hp → Prop} (q : t σ H Q) : WT X e σ H Q := ⟨fun pins s I => p.run pins s σ H Q I q⟩
theorem ws {ss : List Stmt} {t : TS} (p : PSs X ss t) {D : Ends} (q : t D σ H) : WS X ss D σ H := ⟨fun pins s I => p.run pins s σ H D I q⟩
theorem w1 {st : Stmt} {t : TS} (p : PS X st t) {D : Ends} (q : t D σ H) : W1 X st D σ H := ⟨fun pins s I => p.run pins s σ H D I q⟩
theorem WE.mono {e : Expr} {Q Q' : VK} (h : WE X e σ H Q) (q : ∀ v H', Q v H' → Q' v H') : WE X e σ H Q' := ⟨fun pins s I =>
  thn (h.run pins s I) fun u s' ⟨v, H', I', r, z⟩ => ⟨v, H', I', r, q v H' z⟩⟩
theorem WT.mono {e : Expr} {Q Q' : Bool → Hp → Prop} (h : WT X e σ H Q) (q : ∀ v H', Q v H' → Q' v H') : WT X e σ H Q' := ⟨fun pins s I =>
  thn (h.run pins s I) fun u s' ⟨H', I', z⟩ => ⟨H', I', q _ H' z⟩⟩
/-- no star -/
def Ns (X : Cx) (a : Expr) : Prop := ∀ es, starEach (a :: es) X.env = (false, eval a X.env) :: starEach es X.env
/-! ### what an expression gives: data, leaving all that was tracked -/
def EV (X : Cx) (σ : L2.St) (H : Hp) (e : Expr) (R : Hp → Hp → V → Prop) : Prop :=
  ∀ (H1 : Hp), Same H H1 → ∀ Q : VK, (∀ v H', Same H1 H' → R H1 H' v → Q v H') → WE X e σ H1 Q
abbrev Ex {α : Type} [Rep α] (X : Cx) (σ : L2.St) (H : Hp) (e : Expr) (x : α) : Prop := EV X σ H e fun _ H' v => Rep.rep H' v x
/-- a new list object -/
abbrev EL {α : Type} [Rep α] (X : Cx) (σ : L2.St) (H : Hp) (e : Expr) (xs : List α) : Prop := EV X σ H e fun H1 H' v => ∃ p, v = .ref p ∧ H1 p = none ∧ LsR H' p xs
/-- a test -/
def ET (X : Cx) (σ : L2.St) (H : Hp) (e : Expr) (b : Bool) : Prop :=
  ∀ (H1 : Hp), Same H H1 → ∀ Q : Bool → Hp → Prop, (∀ H', Same H1 H' → Q b H') → WT X e σ H1 Q
section
variable {α β γ : Type} [Rep α] [Rep β] [Rep γ] {e a b c : Expr} {pos p : Pos}
theorem Ex.as {x y : α} (h : Ex X σ H e x) (q : x = y) : Ex X σ H e y := q ▸ h
theorem ET.as {x y : Bool} (h : ET X σ H e x) (q : x = y) : ET X σ H e y := q ▸ h
theorem EL.as {x y : List α} (h : EL X σ H e x) (q : x = y) : EL X σ H e y := q ▸ h
theorem Ex.at {x : α} (h : Ex X σ H e x) {H1 : Hp} (s : Same H H1) : Ex X σ H1 e x := fun H2 s2 => h H2 (s.trans s2)
theorem Ex.run {x : α} (h : Ex X σ H e x) {Q : VK} (q : ∀ v H', Same H H' → Rep.rep H' v x → Q v H') : WE X e σ H Q := h H (.refl H) Q q
/-- constants and names -/
theorem xi {i : Int} {j pos} : Ex X σ H (.Constant (.int i) j pos) i := fun _ s Q q => we pe_int (q _ _ (.refl _) rfl)
theorem xb {i : Bool} {j pos} : Ex X σ H (.Constant (.bool i) j pos) i := fun _ s Q q => we pe_bl (q _ _ (.refl _) rfl)
theorem xN {j pos} : Ex X σ H (.Constant .none j pos) (none : Option α) := fun _ s Q q => we pe_non (q _ _ (.refl _) rfl)
theorem xv (i : Nat) {x : Str} {v : V} {d : α} (r : Rep.rep H v d) (hs : σ[i]? = some (some v) := by rfl) (hN : X.N[i]? = some x := by rfl)
    (hv : Vis X.env.scope x := by first | exact Or.inl rfl | exact Or.inr (Or.inl rfl) | exact Or.inr (Or.inr rfl)) (hd : (x == ("__debug__" : Str)) = false := by decide)
    (hcd : (x == ("__classdict__" : Str)) = false := by decide) : Ex X σ H (.Name x pos) d := fun H1 s Q q =>
  we (pe_var hN hv hd hcd) ⟨v, hs, q _ _ (.refl _) (Rep.keep (tk_of s) r)⟩
/-- a name whose value is known as such -/
theorem xw (i : Nat) {x : Str} {v : V} (hs : σ[i]? = some (some v) := by rfl) (hN : X.N[i]? = some x := by rfl)
    (hv : Vis X.env.scope x := by first | exact Or.inl rfl | exact Or.inr (Or.inl rfl) | exact Or.inr (Or.inr rfl)) (hd : (x == ("__debug__" : Str)) = false := by decide)
    (hcd : (x == ("__classdict__" : Str)) = false := by decide) : Ex X σ H (.Name x pos) (Raw.mk v) := fun H1 s Q q =>
  we (pe_var hN hv hd hcd) ⟨v, hs, q _ _ (.refl _) rfl⟩
/-- two in a row -/
theorem x2 {x : α} {y : β} (ha : Ex X σ H a x) (hb : Ex X σ H b y) {H1 : Hp} (s : Same H H1) {R : V → V → Hp → Prop} (q : ∀ v u H', Same H1 H' → Rep.rep H' v x → Rep.rep H' u y → R v u H') :
    WE X a σ H1 fun v H2 => WE X b σ H2 fun u H3 => R v u H3 :=
  ha H1 s _ fun v H2 s2 r2 => hb H2 (s.trans s2) _ fun u H3 s3 r3 => q v u H3 (s2.trans s3) (Rep.keep (tk_of s3) r2) r3
theorem xop {op : Operator} {C : Int → Int → Prop} {g : Int → Int → Int} (ho : OpR X (binaryOp op) (rI C fun i j => .int (g i j))) {x y : Int} (ha : Ex X σ H a x) (hb : Ex X σ H b y) (hc : C x y) : Ex X σ H (.BinOp a op b pos) (g x y) := fun H1 s Q q =>
  we (pe_op ho (lzE a) (lzE b)) (x2 ha hb s fun v u H' s' r1 r2 => ⟨x, y, r1, r2, hc, q _ _ s' rfl⟩)
theorem xop0 {op : Operator} {g : Int → Int → Int} (ho : OpR X (binaryOp op) (rI0 fun i j => .int (g i j))) {x y : Int} (ha : Ex X σ H a x) (hb : Ex X σ H b y) : Ex X σ H (.BinOp a op b pos) (g x y) := fun H1 s Q q =>
  we (pe_op ho (lzE a) (lzE b)) (x2 ha hb s fun v u H' s' r1 r2 => ⟨x, y, r1, r2, q _ _ s' rfl⟩)
theorem xadd {x y : Int} (ha : Ex X σ H a x) (hb : Ex X σ H b y) : Ex X σ H (.BinOp a .Add b pos) (x + y) := xop0 op_add ha hb
theorem xsub {x y : Int} (ha : Ex X σ H a x) (hb : Ex X σ H b y) : Ex X σ H (.BinOp a .Sub b pos) (x - y) := xop0 op_sub ha hb
theorem xmul {x y : Int} (ha : Ex X σ H a x) (hb : Ex X σ H b y) (hc : CMulX x y) : Ex X σ H (.BinOp a .Mult b pos) (x * y) := xop op_mulX ha hb hc
theorem xdiv {x y : Int} (ha : Ex X σ H a x) (hb : Ex X σ H b y) (hc : CDivW x y) : Ex X σ H (.BinOp a .FloorDiv b pos) (x / y) := xop op_fdivW ha hb hc
theorem xmod {x y : Int} (ha : Ex X σ H a x) (hb : Ex X σ H b y) (hc : 0 < y) : Ex X σ H (.BinOp a .Mod b pos) (x % y) := xop op_mod ha hb hc
theorem xneg {x : Int} (ha : Ex X σ H a x) : Ex X σ H (.UnaryOp .USub a pos) (-x) := fun H1 s Q q =>
  we (pe_un un_neg (lzE a)) (ha H1 s _ fun v H' s' r => ⟨x, r, q _ _ s' rfl⟩)
theorem xcmp {op : CmpOp} {p : Int → Int → Bool} (hp : ∀ {ta tb : TE}, PE X a ta → PE X b tb → PC X op a b (tCmp p ta tb)) (hm : behindInMarks op b = false) {x y : Int} (ha : Ex X σ H a x) (hb : Ex X σ H b y) : Ex X σ H (.Compare a [op] [b] pos) (p x y) := fun H1 s Q q =>
  we (pe_cmp (hp (lzE a) (lzE b)) hm) (x2 ha hb s fun v u H' s' r1 r2 => ⟨x, y, r1, r2, q _ _ s' rfl⟩)
theorem xlt {x y : Int} (ha : Ex X σ H a x) (hb : Ex X σ H b y) : Ex X σ H (.Compare a [.Lt] [b] pos) (decide (x < y)) := xcmp (fun h1 h2 => pc_lt h1 h2) (nomark b) ha hb
theorem xle {x y : Int} (ha : Ex X σ H a x) (hb : Ex X σ H b y) : Ex X σ H (.Compare a [.LtE] [b] pos) (decide (x ≤ y)) := xcmp (fun h1 h2 => pc_le h1 h2) (nomark b) ha hb
theorem xgt {x y : Int} (ha : Ex X σ H a x) (hb : Ex X σ H b y) : Ex X σ H (.Compare a [.Gt] [b] pos) (decide (y < x)) := xcmp (fun h1 h2 => pc_gt h1 h2) (nomark b) ha hb
theorem xge {x y : Int} (ha : Ex X σ H a x) (hb : Ex X σ H b y) : Ex X σ H (.Compare a [.GtE] [b] pos) (decide (y ≤ x)) := xcmp (fun h1 h2 => pc_ge h1 h2) (nomark b) ha hb
theorem xeq {x y : Int} (ha : Ex X σ H a x) (hb : Ex X σ H b y) : Ex X σ H (.Compare a [.Eq] [b] pos) (decide (x = y)) := xcmp (fun h1 h2 => pc_eqI h1 h2) (nomark b) ha hb
theorem xne {x y : Int} (ha : Ex X σ H a x) (hb : Ex X σ H b y) : Ex X σ H (.Compare a [.NotEq] [b] pos) (!decide (x = y)) := xcmp (fun h1 h2 => pc_neI h1 h2) (nomark b) ha hb
/-- values that are never None -/
class NN (α : Type) [Rep α] : Prop where
  nn : ∀ {H : Hp} {v : V} {x : α}, Rep.rep H v x → v ≠ .non
instance : NN Int := ⟨fun {H v x} h => by rw [show v = V.int x from h]; intro e; cases e⟩
instance : NN (List α) := ⟨fun {H v x} h => by obtain ⟨p, vs, rfl, _⟩ := h; intro e; cases e⟩
instance : NN (α × β) := ⟨fun {H v x} h => by obtain ⟨p, v1, v2, rfl, _⟩ := h; intro e; cases e⟩
theorem opt_non [NN α] {H : Hp} {v : V} {x : Option α} (h : Rep.rep H v x) : decide (v = V.non) = x.isNone := by
  cases x with
  | none =>
    have e : v = V.non := h
    subst e; rfl
  | some y =>
    have e : v ≠ V.non := NN.nn (α := α) h
    rw [decide_eq_false e]; rfl
theorem xisN [NN α] {x : Option α} {j pos'} (ha : Ex X σ H a x) : Ex X σ H (.Compare a [.Is] [.Constant .none j pos'] pos) x.isNone := fun H1 s Q q =>
  we (pe_cmp (pc_isN (lzE a))) (ha H1 s _ fun v H' s' r => by rw [opt_non r]; exact q _ _ s' rfl)
theorem xnotN [NN α] {x : Option α} {j pos'} (ha : Ex X σ H a x) : Ex X σ H (.Compare a [.IsNot] [.Constant .none j pos'] pos) (!x.isNone) := fun H1 s Q q =>
  we (pe_cmp (pc_notN (lzE a))) (ha H1 s _ fun v H' s' r => by rw [opt_non r]; exact q _ _ s' rfl)
/-- a data of a type where an option is wanted -/
theorem xsome {x : α} (ha : Ex X σ H a x) : Ex X σ H a (some x) := fun H1 s Q q => ha H1 s Q fun v H' s' r => q v H' s' r
/-- subscripts -/
theorem xit {xs : List α} {i : Int} {y : α} (ha : Ex X σ H a xs) (hb : Ex X σ H b i) (h : atI xs i = some y) (hs : PlainIx b := by intro _ _; rfl) : Ex X σ H (.Subscript a b pos) y := fun H1 s Q q =>
  we (pe_ix ix_tup (lzE a) (lzE b) hs) (x2 ha hb s fun v u H' s' r1 r2 => by
    obtain ⟨p, vs, rfl, hp, h2⟩ := r1
    unfold atI at h
    rw [← h2.length] at h
    obtain ⟨j, hj, hx⟩ := Option.bind_eq_some_iff.mp h
    obtain ⟨z, hz, rz⟩ := h2.get hx
    exact ⟨p, vs, i, z, rfl, r2, .of hp, by unfold atI; rw [hj]; exact hz, q _ _ s' rz⟩)
/-- a list object's item -/
theorem xil {p : Addr} {xs : List α} {i : Int} {y : α} (l : LsR H p xs) (ha : Ex X σ H a (Raw.mk (.ref p))) (hb : Ex X σ H b i) (h : atI xs i = some y) (hs : PlainIx b := by intro _ _; rfl) : Ex X σ H (.Subscript a b pos) y := fun H1 s Q q =>
  we (pe_ix ix_list (lzE a) (lzE b) hs) (x2 ha hb s fun v u H' s' r1 r2 => by
    obtain ⟨vs, hp, h2⟩ := l.up (s.trans s')
    unfold atI at h
    rw [← h2.length] at h
    obtain ⟨j, hj, hx⟩ := Option.bind_eq_some_iff.mp h
    obtain ⟨z, hz, rz⟩ := h2.get hx
    exact ⟨p, vs, i, z, r1, r2, .of hp, by unfold atI; rw [hj]; exact hz, q _ _ s' rz⟩)
/-- a pair's parts -/
theorem xfst {x : α} {y : β} {j pos'} (ha : Ex X σ H a (x, y)) : Ex X σ H (.Subscript a (.Constant (.int 0) j pos') pos) x := fun H1 s Q q =>
  we (pe_ix ix_tup (lzE a) (lzE _) (by intro _ _; rfl)) (x2 ha xi s fun v u H' s' r1 r2 => by
    obtain ⟨p, v1, v2, rfl, hp, h1, h2⟩ := r1
    exact ⟨p, _, 0, v1, rfl, r2, .of hp, rfl, q _ _ s' h1⟩)
theorem xsnd {x : α} {y : β} {j pos'} (ha : Ex X σ H a (x, y)) : Ex X σ H (.Subscript a (.Constant (.int 1) j pos') pos) y := fun H1 s Q q =>
  we (pe_ix ix_tup (lzE a) (lzE _) (by intro _ _; rfl)) (x2 ha xi s fun v u H' s' r1 r2 => by
    obtain ⟨p, v1, v2, rfl, hp, h1, h2⟩ := r1
    exact ⟨p, _, 1, v2, rfl, r2, .of hp, rfl, q _ _ s' h2⟩)
/-- displays -/
theorem xpair {x : α} {y : β} {k} (ha : Ex X σ H a x) (hb : Ex X σ H b y) (na : Ns X a := by intro _; rfl) (nb : Ns X b := by intro _; rfl) : Ex X σ H (.Tuple [a, b] k pos) (x, y) := fun H1 s Q q =>
  we (pe_tup (pa_cons (lzE a) (pa_cons (lzE b) pa_nil (nb _)) (na _))) (x2 ha hb s fun v u H' s' r1 r2 => ⟨by show 2 ≤ sizeLine; decide, fun p hp => q _ _ (s'.trans (same_new hp))
    ⟨p, v, u, rfl, upd_same, Rep.keep (tk_of (same_new hp)) r1, Rep.keep (tk_of (same_new hp)) r2⟩⟩)
theorem xone {x : α} {k} (ha : Ex X σ H a x) (na : Ns X a := by intro _; rfl) : Ex X σ H (.Tuple [a] k pos) [x] := fun H1 s Q q =>
  we (pe_tup (pa_cons (lzE a) pa_nil (na _))) (ha H1 s _ fun v H' s' r => ⟨by show 1 ≤ sizeLine; decide, fun p hp => q _ _ (s'.trans (same_new hp))
    ⟨p, [v], rfl, upd_same, .one (Rep.keep (tk_of (same_new hp)) r)⟩⟩)
theorem xtwo {x y : α} {k} (ha : Ex X σ H a x) (hb : Ex X σ H b y) (na : Ns X a := by intro _; rfl) (nb : Ns X b := by intro _; rfl) : Ex X σ H (.Tuple [a, b] k pos) [x, y] := fun H1 s Q q =>
  we (pe_tup (pa_cons (lzE a) (pa_cons (lzE b) pa_nil (nb _)) (na _))) (x2 ha hb s fun v u H' s' r1 r2 => ⟨by show 2 ≤ sizeLine; decide, fun p hp => q _ _ (s'.trans (same_new hp))
    ⟨p, [v, u], rfl, upd_same, .cons (Rep.keep (tk_of (same_new hp)) r1) (.one (Rep.keep (tk_of (same_new hp)) r2))⟩⟩)
theorem xnil {k} : Ex X σ H (.Tuple [] k pos) ([] : List α) := fun H1 s Q q =>
  we (pe_tup pa_nil) ⟨Nat.zero_le _, fun p hp => q _ _ (same_new hp) ⟨p, [], rfl, upd_same, .nil⟩⟩
theorem lnil : EL X σ H (.List [] pos) ([] : List α) := fun H1 s Q q =>
  we (pe_lst pa_nil) ⟨Nat.zero_le _, fun p hp => q _ _ (same_new hp) ⟨p, rfl, hp, [], upd_same, .nil⟩⟩
theorem lone {x : α} (ha : Ex X σ H a x) (na : Ns X a := by intro _; rfl) : EL X σ H (.List [a] pos) [x] := fun H1 s Q q =>
  we (pe_lst (pa_cons (lzE a) pa_nil (na _))) (ha H1 s _ fun v H' s' r => ⟨by show 1 ≤ sizeLine; decide, fun p hp => q _ _ (s'.trans (same_new hp))
    ⟨p, rfl, s'.free hp, [v], upd_same, .one (Rep.keep (tk_of (same_new hp)) r)⟩⟩)
/-- a if c else b -/
theorem xif {t : Bool} {x : α} (hc : ET X σ H c t) (ha : t = true → Ex X σ H a x) (hb : t = false → Ex X σ H b x) : Ex X σ H (.IfExp c a b pos) x := fun H1 s Q q =>
  we (pe_ifExp (lzT c) (lzE a) (lzE b)) (hc H1 s _ fun H' s' => by
    cases t with
    | true => exact iteT (ha rfl H' (s.trans s') Q fun v H2 s2 r => q v H2 (s'.trans s2) r)
    | false => exact iteF (hb rfl H' (s.trans s') Q fun v H2 s2 r => q v H2 (s'.trans s2) r))
/-! tests -/
theorem tv {t : Bool} (h : Ex X σ H e t) (he : ∀ whole, isTrue e X.env whole = (do let v ← whole; standAt e.pos; holding [v] (truthy v)) := by intro _; rfl) : ET X σ H e t := fun H1 s Q q =>
  wt (pt_val (lzE e) he) (h H1 s _ fun v H' s' r => ⟨t, r, q H' s'⟩)
theorem tcmp {op : CmpOp} {p : Int → Int → Bool} (hp : ∀ {ta tb : TE}, PE X a ta → PE X b tb → PC X op a b (tCmp p ta tb)) (hm : behindInMarks op b = false) {x y : Int} (ha : Ex X σ H a x) (hb : Ex X σ H b y) : ET X σ H (.Compare a [op] [b] pos) (p x y) := fun H1 s Q q =>
  wt (pt_cmp (hp (lzE a) (lzE b)) hm) (x2 ha hb s fun v u H' s' r1 r2 => ⟨x, y, r1, r2, _, rfl, q _ s'⟩)
theorem tlt {x y : Int} (ha : Ex X σ H a x) (hb : Ex X σ H b y) : ET X σ H (.Compare a [.Lt] [b] pos) (decide (x < y)) := tcmp (fun h1 h2 => pc_lt h1 h2) (nomark b) ha hb
theorem tle {x y : Int} (ha : Ex X σ H a x) (hb : Ex X σ H b y) : ET X σ H (.Compare a [.LtE] [b] pos) (decide (x ≤ y)) := tcmp (fun h1 h2 => pc_le h1 h2) (nomark b) ha hb
theorem tgt {x y : Int} (ha : Ex X σ H a x) (hb : Ex X σ H b y) : ET X σ H (.Compare a [.Gt] [b] pos) (decide (y < x)) := tcmp (fun h1 h2 => pc_gt h1 h2) (nomark b) ha hb
theorem tge {x y : Int} (ha : Ex X σ H a x) (hb : Ex X σ H b y) : ET X σ H (.Compare a [.GtE] [b] pos) (decide (y ≤ x)) := tcmp (fun h1 h2 => pc_ge h1 h2) (nomark b) ha hb
theorem teq {x y : Int} (ha : Ex X σ H a x) (hb : Ex X σ H b y) : ET X σ H (.Compare a [.Eq] [b] pos) (decide (x = y)) := tcmp (fun h1 h2 => pc_eqI h1 h2) (nomark b) ha hb
theorem tne {x y : Int} (ha : Ex X σ H a x) (hb : Ex X σ H b y) : ET X σ H (.Compare a [.NotEq] [b] pos) (!decide (x = y)) := tcmp (fun h1 h2 => pc_neI h1 h2) (nomark b) ha hb
theorem tisN [NN α] {x : Option α} {j pos'} (ha : Ex X σ H a x) : ET X σ H (.Compare a [.Is] [.Constant .none j pos'] pos) x.isNone := fun H1 s Q q =>
  wt (pt_cmp (pc_isN (lzE a))) (ha H1 s _ fun v H' s' r => ⟨_, rfl, by rw [opt_non r]; exact q _ s'⟩)
theorem tnotN [NN α] {x : Option α} {j pos'} (ha : Ex X σ H a x) : ET X σ H (.Compare a [.IsNot] [.Constant .none j pos'] pos) (!x.isNone) := fun H1 s Q q =>
  wt (pt_cmp (pc_notN (lzE a))) (ha H1 s _ fun v H' s' r => ⟨_, rfl, by rw [opt_non r]; exact q _ s'⟩)
theorem tnot {t : Bool} (h : ET X σ H a t) : ET X σ H (.UnaryOp .Not a pos) (!t) := fun H1 s Q q => wt (pt_not (lzT a)) (h H1 s _ fun H' s' => q H' s')
theorem tand {t u : Bool} (ha : ET X σ H a t) (hb : t = true → ET X σ H b u) : ET X σ H (.BoolOp .And [a, b] pos) (t && u) := fun H1 s Q q =>
  wt (PW.pt (pw_and (lzT a) (pw_and1 (lzT b)))) (ha H1 s _ fun H' s' => by
    cases t with
    | true => exact iteT (hb rfl H' (s.trans s') _ fun H2 s2 => q H2 (s'.trans s2))
    | false => exact iteF (q H' s'))
theorem tor {t u : Bool} (ha : ET X σ H a t) (hb : t = false → ET X σ H b u) : ET X σ H (.BoolOp .Or [a, b] pos) (t || u) := fun H1 s Q q =>
  wt (PW.pt (pw_or (lzT a) (pw_or1 (lzT b)))) (ha H1 s _ fun H' s' => by
    cases t with
    | true => exact iteT (q H' s')
    | false => exact iteF (hb rfl H' (s.trans s') _ fun H2 s2 => q H2 (s'.trans s2)))
theorem xand {t u : Bool} (ha : Ex X σ H a t) (hb : t = true → Ex X σ H b u) : Ex X σ H (.BoolOp .And [a, b] pos) (t && u) := fun H1 s Q q =>
  we (pe_and (lzE a) (pe_one (lzE b))) (ha H1 s _ fun v H' s' r => ⟨t, r, by
    cases t with
    | true => exact iteT (hb rfl H' (s.trans s') _ fun v2 H2 s2 r2 => q v2 H2 (s'.trans s2) r2)
    | false => exact iteF (q _ H' s' rfl)⟩)
theorem xand3 {t u w : Bool} (ha : Ex X σ H a t) (hb : t = true → Ex X σ H b u) (hc : t = true → u = true → Ex X σ H c w) : Ex X σ H (.BoolOp .And [a, b, c] pos) (t && (u && w)) := fun H1 s Q q =>
  we (pe_and (lzE a) (pe_and (lzE b) (pe_one (lzE c)))) (ha H1 s _ fun v H' s' r => ⟨t, r, by
    cases t with
    | true => exact iteT (hb rfl H' (s.trans s') _ fun v2 H2 s2 r2 => ⟨u, r2, by
        cases u with
        | true => exact iteT (hc rfl rfl H2 ((s.trans s').trans s2) _ fun v3 H3 s3 r3 => q v3 H3 ((s'.trans s2).trans s3) r3)
        | false => exact iteF (q _ H2 (s'.trans s2) rfl)⟩)
    | false => exact iteF (q _ H' s' rfl)⟩)
theorem xnot {t : Bool} (ha : Ex X σ H a t) : Ex X σ H (.UnaryOp .Not a pos) (!t) := fun H1 s Q q =>
  we (pe_not (lzE a)) (ha H1 s _ fun v H' s' r => ⟨t, r, q _ H' s' rfl⟩)
theorem tand3 {t u w : Bool} (ha : ET X σ H a t) (hb : t = true → ET X σ H b u) (hc : t = true → u = true → ET X σ H c w) : ET X σ H (.BoolOp .And [a, b, c] pos) (t && (u && w)) := fun H1 s Q q =>
  wt (PW.pt (pw_and (lzT a) (pw_and (lzT b) (pw_and1 (lzT c))))) (ha H1 s _ fun H' s' => by
    cases t with
    | true => exact iteT (hb rfl H' (s.trans s') _ fun H2 s2 => by
        cases u with
        | true => exact iteT (hc rfl rfl H2 ((s.trans s').trans s2) _ fun H3 s3 => q H3 ((s'.trans s2).trans s3))
        | false => exact iteF (q H2 (s'.trans s2)))
    | false => exact iteF (q H' s'))
end
end
end Nh
set_option Elab.async false
set_option linter.all false
set_option maxRecDepth 100000
namespace Nh
open PySem PySem.Spec PyProof.Rows L2
/-! ### built-in functions -/
theorem one_any {X : Cx} {a : Expr} {pos : Pos} (na : Ns X a) : (backTo pos (starEach [a] X.env)).any (·.1) = false := by
  rw [na []]; rfl
theorem vals1' {v : V} {Q : List V → Hp → Prop} {H : Hp} (q : Q [v] H) : Q [v] H := q
section
variable {X : Cx} {σ : L2.St} {H : Hp} {α β γ : Type} [Rep α] [Rep β] [Rep γ] {a b e : Expr} {pos p : Pos}
/-- one argument -/
theorem e1B {x : Str} {id : String} {r : List V → Hp → VK → Prop} {R : Hp → Hp → V → Prop} {R' : Hp → Hp → V → Prop} (hc : CallR X (.builtin id) r) (hg : Gl X x) (hm : X.mg x = none) (hv : bootBuiltins x = some (.builtin id))
    (na : Ns X a) (ha : EV X σ H a R) (h : ∀ H1 H2 v, Same H H1 → Same H1 H2 → R H1 H2 v → ∀ Q : VK, (∀ u H3, Same H1 H3 → R' H1 H3 u → Q u H3) → r [v] H2 Q)
    (hn : x ≠ "__name__" := by decide) (hdb : (x == ("__debug__" : Str)) = false := by decide) : EV X σ H (.Call (.Name x p) [a] [] pos) R' := fun H1 s Q q =>
  we (pe_callB hc hg hm hv (pa_cons (lzE a) pa_nil (na _)) hn hdb (na _) rfl) (ha H1 s _ fun v H2 s2 r2 => h H1 H2 v s s2 r2 Q fun u H3 s3 r3 => q u H3 s3 r3)
theorem e1T {x : Str} {T : String} {r : List V → Hp → VK → Prop} {R : Hp → Hp → V → Prop} {R' : Hp → Hp → V → Prop} (hc : CallR X (.type T) r) (hg : Gl X x) (hm : X.mg x = none) (hv : bootBuiltins x = some (.type T))
    (na : Ns X a) (ha : EV X σ H a R) (h : ∀ H1 H2 v, Same H H1 → Same H1 H2 → R H1 H2 v → ∀ Q : VK, (∀ u H3, Same H1 H3 → R' H1 H3 u → Q u H3) → r [v] H2 Q)
    (hn : x ≠ "__name__" := by decide) (hdb : (x == ("__debug__" : Str)) = false := by decide) : EV X σ H (.Call (.Name x p) [a] [] pos) R' := fun H1 s Q q =>
  we (pe_callTy hc hg hm hv (pa_cons (lzE a) pa_nil (na _)) hn hdb (na _) rfl) (ha H1 s _ fun v H2 s2 r2 => h H1 H2 v s s2 r2 Q fun u H3 s3 r3 => q u H3 s3 r3)
/-- two ints -/
theorem e2B {x : Str} {id : String} {r : List V → Hp → VK → Prop} {i j k : Int} (hc : CallR X (.builtin id) r) (hg : Gl X x) (hm : X.mg x = none) (hv : bootBuiltins x = some (.builtin id))
    (na : Ns X a) (nb : Ns X b) (ha : Ex X σ H a i) (hb : Ex X σ H b j) (h : ∀ H2 (Q : VK), Q (.int k) H2 → r [.int i, .int j] H2 Q)
    (hn : x ≠ "__name__" := by decide) (hdb : (x == ("__debug__" : Str)) = false := by decide) : Ex X σ H (.Call (.Name x p) [a, b] [] pos) k := fun H1 s Q q =>
  we (pe_callB hc hg hm hv (pa_cons (lzE a) (pa_cons (lzE b) pa_nil (nb _)) (na _)) hn hdb (na _) (one_any nb)) (x2 ha hb s fun v u H2 s2 r1 r2 => by
    have e1 : v = V.int i := r1
    have e2 : u = V.int j := r2
    subst e1; subst e2
    exact h H2 Q (q _ _ s2 rfl))
/-- len of a tuple, of a list object -/
theorem xlen {xs : List α} (hm : X.mg "len" = none) (ha : Ex X σ H a xs) (na : Ns X a := by intro _; rfl) (hg : Gl X "len" := by rfl) : Ex X σ H (.Call (.Name "len" p) [a] [] pos) (xs.length : Int) :=
  e1B call_len_seq hg hm PySem.boot_len na ha fun H1 H2 v _ s2 r Q q => by
    obtain ⟨t, vs, rfl, h1, h2⟩ := r
    exact ⟨t, vs, rfl, .inr (.of h1), by rw [h2.length]; exact q _ _ s2 rfl⟩
theorem xlenL {t : Addr} {xs : List α} (l : LsR H t xs) (hm : X.mg "len" = none) (ha : Ex X σ H a (Raw.mk (.ref t))) (na : Ns X a := by intro _; rfl) (hg : Gl X "len" := by rfl) : Ex X σ H (.Call (.Name "len" p) [a] [] pos) (xs.length : Int) :=
  e1B call_len_seq hg hm PySem.boot_len na ha fun H1 H2 v s1 s2 r Q q => by
    obtain ⟨vs, h1, h2⟩ := l.up (s1.trans s2)
    have e : v = V.ref t := r
    subst e
    exact ⟨t, vs, rfl, .inl (.of h1), by rw [h2.length]; exact q _ _ s2 rfl⟩
theorem xlenE {xs : List α} (hm : X.mg "len" = none) (ha : EL X σ H a xs) (na : Ns X a := by intro _; rfl) (hg : Gl X "len" := by rfl) : Ex X σ H (.Call (.Name "len" p) [a] [] pos) (xs.length : Int) :=
  e1B call_len_seq hg hm PySem.boot_len na ha fun H1 H2 v s1 s2 r Q q => by
    obtain ⟨t, rfl, _, vs, h1, h2⟩ := r
    exact ⟨t, vs, rfl, .inl (.of h1), by rw [h2.length]; exact q _ _ s2 rfl⟩
theorem xabs {x : Int} (hm : X.mg "abs" = none) (ha : Ex X σ H a x) (na : Ns X a := by intro _; rfl) (hg : Gl X "abs" := by rfl) : Ex X σ H (.Call (.Name "abs" p) [a] [] pos) (x.natAbs : Int) :=
  e1B call_abs hg hm (by decide +kernel) na ha fun H1 H2 v _ s2 r Q q => by
    have e : v = V.int x := r
    subst e
    refine ⟨x, rfl, ?_⟩
    have e2 : (if x < 0 then -x else x) = (x.natAbs : Int) := by split <;> omega
    rw [e2]
    exact q _ _ s2 rfl
theorem xint {x : Int} (hm : X.mg "int" = none) (ha : Ex X σ H a x) (na : Ns X a := by intro _; rfl) (hg : Gl X "int" := by rfl) : Ex X σ H (.Call (.Name "int" p) [a] [] pos) x :=
  e1T call_int1 hg hm (by decide +kernel) na ha fun H1 H2 v _ s2 r Q q => .inl ⟨x, by rw [show v = V.int x from r], q _ _ s2 rfl⟩
theorem xintB {x : Bool} (hm : X.mg "int" = none) (ha : Ex X σ H a x) (na : Ns X a := by intro _; rfl) (hg : Gl X "int" := by rfl) : Ex X σ H (.Call (.Name "int" p) [a] [] pos) (if x = true then (1 : Int) else 0) :=
  e1T call_int1 hg hm (by decide +kernel) na ha fun H1 H2 v _ s2 r Q q => .inr ⟨x, by rw [show v = V.bl x from r], q _ _ s2 rfl⟩
/-- tuple(..) of a new list, of a list object -/
theorem xtupE {xs : List α} (hm : X.mg "tuple" = none) (ha : EL X σ H a xs) (na : Ns X a := by intro _; rfl) (hg : Gl X "tuple" := by rfl) : Ex X σ H (.Call (.Name "tuple" p) [a] [] pos) xs :=
  e1T call_tuple_of hg hm boot_tuple na ha fun H1 H2 v _ s2 r Q q => by
    obtain ⟨t, rfl, _, vs, h1, h2⟩ := r
    exact ⟨t, vs, rfl, .inl ⟨.of h1, fun l hl => q _ _ (s2.trans (same_new hl)) ⟨l, vs, rfl, upd_same, h2.up (tk_of (same_new hl))⟩⟩⟩
theorem xtupL {t : Addr} {xs : List α} (l : LsR H t xs) (hm : X.mg "tuple" = none) (ha : Ex X σ H a (Raw.mk (.ref t))) (na : Ns X a := by intro _; rfl) (hg : Gl X "tuple" := by rfl) : Ex X σ H (.Call (.Name "tuple" p) [a] [] pos) xs :=
  e1T call_tuple_of hg hm boot_tuple na ha fun H1 H2 v s1 s2 r Q q => by
    obtain ⟨vs, h1, h2⟩ := l.up (s1.trans s2)
    have e : v = V.ref t := r
    subst e
    exact ⟨t, vs, rfl, .inl ⟨.of h1, fun l hl => q _ _ (s2.trans (same_new hl)) ⟨l, vs, rfl, upd_same, h2.up (tk_of (same_new hl))⟩⟩⟩
/-- any(..) of a new list of bools -/
theorem xany {xs : List Bool} (hc : X.calm = true) (hm : X.mg "any" = none) (ha : EL X σ H a xs) (na : Ns X a := by intro _; rfl) (hg : Gl X "any" := by rfl) : Ex X σ H (.Call (.Name "any" p) [a] [] pos) (xs.any id) :=
  e1B (cr_any hc) hg hm (by decide +kernel) na ha fun H1 H2 v _ s2 r Q q => by
    obtain ⟨t, rfl, _, vs, h1, h2⟩ := r
    have e := a2_bl h2
    subst e
    exact ⟨t, xs, rfl, .of h1, q _ _ s2 rfl⟩
/-- max(..) of a new list of ints -/
theorem xmaxE {xs : List Int} {m : Int} (hc : X.calm = true) (hm : X.mg "max" = none) (ha : EL X σ H a xs) (h0 : m ∈ xs) (hle : ∀ y, y ∈ xs → y ≤ m) (na : Ns X a := by intro _; rfl) (hg : Gl X "max" := by rfl) : Ex X σ H (.Call (.Name "max" p) [a] [] pos) m :=
  e1B (cr_max hc) hg hm (by decide +kernel) na ha fun H1 H2 v _ s2 r Q q => by
    obtain ⟨t, rfl, _, vs, h1, h2⟩ := r
    have e := a2_int h2
    subst e
    refine ⟨t, xs, rfl, .of h1, List.length_pos_of_mem h0, fun m' h3 h4 => q _ _ s2 ?_⟩
    have h5 := hle m' h3
    have h6 := h4 m h0
    show V.int m' = V.int m
    congr 1
    omega
theorem xmax2 {x y : Int} (hc : X.calm = true) (hm : X.mg "max" = none) (ha : Ex X σ H a x) (hb : Ex X σ H b y) (na : Ns X a := by intro _; rfl) (nb : Ns X b := by intro _; rfl) (hg : Gl X "max" := by rfl) : Ex X σ H (.Call (.Name "max" p) [a, b] [] pos) (max x y) :=
  e2B (call_max2 hc) hg hm (by decide +kernel) na nb ha hb fun H2 Q q => ⟨x, y, rfl, by
    have e : (if y > x then y else x) = max x y := by split <;> omega
    rw [e]; exact q⟩
theorem xmin2 {x y : Int} (hc : X.calm = true) (hm : X.mg "min" = none) (ha : Ex X σ H a x) (hb : Ex X σ H b y) (na : Ns X a := by intro _; rfl) (nb : Ns X b := by intro _; rfl) (hg : Gl X "min" := by rfl) : Ex X σ H (.Call (.Name "min" p) [a, b] [] pos) (min x y) :=
  e2B (call_min2 hc) hg hm (by decide +kernel) na nb ha hb fun H2 Q q => ⟨x, y, rfl, by
    have e : (if y < x then y else x) = min x y := by split <;> omega
    rw [e]; exact q⟩
/-- gcd -/
theorem xgcd {x y : Int} (hm : X.mg "gcd" = some (.builtin "math.gcd")) (ha : Ex X σ H a x) (hb : Ex X σ H b y) (na : Ns X a := by intro _; rfl) (nb : Ns X b := by intro _; rfl) (hg : Gl X "gcd" := by rfl) :
    Ex X σ H (.Call (.Name "gcd" p) [a, b] [] pos) ((Nat.gcd x.natAbs y.natAbs : Nat) : Int) := fun H1 s Q q =>
  we (pe_callBfun cr_gcd hg hm (pa_cons (lzE a) (pa_cons (lzE b) pa_nil (nb _)) (na _)) (by decide) (na _) (one_any nb)) (x2 ha hb s fun v u H2 s2 r1 r2 => by
    have e1 : v = V.int x := r1
    have e2 : u = V.int y := r2
    subst e1; subst e2
    exact ⟨x, y, rfl, q _ _ s2 rfl⟩)
/-! ### + and slices of tuples -/
theorem xcat {xs ys : List α} (ha : Ex X σ H a xs) (hb : Ex X σ H b ys) (hz : xs.length + ys.length ≤ sizeLine) : Ex X σ H (.BinOp a .Add b pos) (xs ++ ys) := fun H1 s Q q =>
  we (pe_op op_catA (lzE a) (lzE b)) (x2 ha hb s fun v u H2 s2 r1 r2 => by
    obtain ⟨t1, vs, rfl, h1, h2⟩ := r1
    obtain ⟨t2, us, rfl, h3, h4⟩ := r2
    refine ⟨t1, t2, vs, us, rfl, rfl, .of h1, .of h3, by rw [h2.length, h4.length]; exact hz, fun e => ?_, fun _ e => ?_, fun _ _ p hp => ?_⟩
    · have e2 := h2.nil_iff.mp e
      subst e2
      exact q _ _ s2 ⟨t2, us, rfl, h3, h4⟩
    · have e2 := h4.nil_iff.mp e
      subst e2
      rw [List.append_nil] at q
      exact q _ _ s2 ⟨t1, vs, rfl, h1, h2⟩
    · exact q _ _ (s2.trans (same_new hp)) ⟨p, _, rfl, upd_same, (h2.append h4).up (tk_of (same_new hp))⟩)
/-- what a slice is -/
def cut (xs : List α) (lo hi : Option Int) : List α := (xs.drop (HT.sIx xs.length 0 lo)).take (HT.sIx xs.length xs.length hi - HT.sIx xs.length 0 lo)
theorem a2_cut {R : V → α → Prop} {vs : List V} {xs : List α} (h : A2 R vs xs) (lo hi : Option Int) : A2 R (cutV vs lo hi) (cut xs lo hi) := by
  unfold cutV cut
  rw [h.length]
  exact (h.drop _).take _
theorem sIx_le (n d : Nat) (hd : d ≤ n) (o : Option Int) : HT.sIx n d o ≤ n := by
  cases o with
  | none => exact hd
  | some i => simp only [HT.sIx]; split <;> omega
theorem xsl {xs : List α} {lo hi : Option Int} {el eh : Option Expr} {tl th : TO} {p2 : Pos} (ha : Ex X σ H a xs) (pl : PO X el tl) (ph : PO X eh th)
    (hl : ∀ H1, Same H H1 → ∀ Q : Option Int → Hp → Prop, (∀ H', Same H1 H' → Q lo H') → tl σ H1 Q) (hh : ∀ H1, Same H H1 → ∀ Q : Option Int → Hp → Prop, (∀ H', Same H1 H' → Q hi H') → th σ H1 Q) :
    Ex X σ H (.Subscript a (.Slice el eh none p2) pos) (cut xs lo hi) := fun H1 s Q q =>
  we (pe_slice sl_tupA (lzE a) pl ph) (ha H1 s _ fun v H2 s2 r => hl H2 (s.trans s2) _ fun H3 s3 => hh H3 ((s.trans s2).trans s3) _ fun H4 s4 => by
    obtain ⟨t, vs, rfl, h1, h2⟩ := r
    have s5 := s3.trans s4
    have h1' := s5 _ _ h1
    have h2' := h2.up (tk_of s5)
    refine ⟨t, vs, rfl, .of h1', fun hw => ?_, fun _ p hp => ?_⟩
    · have e : cut xs lo hi = xs := by
        unfold cut
        rw [← h2'.length, hw.1, hw.2, List.drop_zero, Nat.sub_zero, h2'.length, List.take_length]
      rw [e] at q
      exact q _ _ (s2.trans s5) ⟨t, vs, rfl, h1', h2'⟩
    · exact q _ _ ((s2.trans s5).trans (same_new hp)) ⟨p, _, rfl, upd_same, (a2_cut h2' lo hi).up (tk_of (same_new hp))⟩)
theorem po0 (H1 : Hp) (Q : Option Int → Hp → Prop) (q : ∀ H', Same H1 H' → Q none H') : tNoPart σ H1 Q := q _ (.refl _)
theorem po1 {i : Int} (hb : Ex X σ H b i) (H1 : Hp) (s : Same H H1) (Q : Option Int → Hp → Prop) (q : ∀ H', Same H1 H' → Q (some i) H') : tPart (WE X b) σ H1 Q := hb H1 s _ fun v H' s' r => ⟨i, r, q H' s'⟩
/-- t[:j], t[i:], t[i:j] -/
theorem xslU {xs : List α} {j : Int} {p2 : Pos} (ha : Ex X σ H a xs) (hb : Ex X σ H b j) : Ex X σ H (.Subscript a (.Slice none (some b) none p2) pos) (cut xs none (some j)) :=
  xsl ha po_none (po_some (lzE b)) (fun H1 _ Q q => po0 H1 Q q) (fun H1 s Q q => po1 hb H1 s Q q)
theorem xslL {xs : List α} {i : Int} {p2 : Pos} (ha : Ex X σ H a xs) (hb : Ex X σ H b i) : Ex X σ H (.Subscript a (.Slice (some b) none none p2) pos) (cut xs (some i) none) :=
  xsl ha (po_some (lzE b)) po_none (fun H1 s Q q => po1 hb H1 s Q q) (fun H1 _ Q q => po0 H1 Q q)
theorem xslB {c : Expr} {xs : List α} {i j : Int} {p2 : Pos} (ha : Ex X σ H a xs) (hb : Ex X σ H b i) (hc : Ex X σ H c j) : Ex X σ H (.Subscript a (.Slice (some b) (some c) none p2) pos) (cut xs (some i) (some j)) :=
  xsl ha (po_some (lzE b)) (po_some (lzE c)) (fun H1 s Q q => po1 hb H1 s Q q) (fun H1 s Q q => po1 hc H1 s Q q)
end
theorem cut_to {α : Type} (xs : List α) {k : Nat} (h : k ≤ xs.length) : cut xs none (some (k : Int)) = xs.take k := by
  unfold cut
  have e1 : HT.sIx xs.length 0 none = 0 := rfl
  have e2 : HT.sIx xs.length xs.length (some (k : Int)) = k := by simp only [HT.sIx]; split <;> omega
  rw [e1, e2, List.drop_zero, Nat.sub_zero]
theorem cut_from {α : Type} (xs : List α) {k : Nat} (h : k ≤ xs.length) : cut xs (some (k : Int)) none = xs.drop k := by
  unfold cut
  have e1 : HT.sIx xs.length xs.length none = xs.length := rfl
  have e2 : HT.sIx xs.length 0 (some (k : Int)) = k := by simp only [HT.sIx]; split <;> omega
  rw [e1, e2]
  exact List.take_of_length_le (by rw [List.length_drop]; exact Nat.le_refl _)
end Nh
set_option Elab.async false
set_option linter.all false
set_option maxRecDepth 100000
namespace Nh
open PySem PySem.Spec PyProof.Rows L2
/-! ### enumerate over a tuple -/
set_option maxHeartbeats 1000000 in
theorem meets_enumB {v : Value} {o : Obj} {G : Heap → Prop} (B : Begins v o G) :
    Meets (Builtin.«enumerate.__new__» ⟨[.type "enumerate", v], []⟩) (fun _ R s => G s.heap ∧
      R (.ok (.ret (.ref (s.heap.push o).objs.size))) { s with heap := (s.heap.push o).push { cls := .type "enumerate", data := .fields #[.none, .bool false, .ref s.heap.objs.size, rawInt 0, .none, .none] } }) :=
  .of_wp fun prog w A R s ⟨g1, h⟩ => by
    obtain ⟨hp, g, d, tk, os⟩ := s
    have se := sub_enumerate
    have go : ∀ {A' : Around} {E' : Value → Shared → Prop} {Q' : Value → Shared → Prop}, Q' (.ref hp.objs.size) ⟨hp.push o, g, d, tk, os⟩ → wpAny (model prog w) A' (pyIter v) Q' E' ⟨hp, g, d, tk, os⟩ := fun q => B.iter prog w _ _ ⟨hp, g, d, tk, os⟩ _ g1 q
    wp_walk using go
    refine wpAny_stack_any fun st => wpAny_pure ?_
    split
    · rename_i c _ _ _ _ _
      by_cases hc : (c == Value.type "enumerate") = true
      · simp only [hc]
        wp_walk using go
        exact ⟨_, rfl, h⟩
      · simp only [hc]
        wp_walk using go
        exact ⟨_, rfl, h⟩
    · wp_walk using go
      exact ⟨_, rfl, h⟩
end Nh
set_option Elab.async false
set_option linter.all false
set_option maxRecDepth 100000
namespace Nh
open PySem PySem.Spec PyProof.Rows L2
section
variable {prog : Program} {w : World} {A : Around} {E : Value → Shared → Prop} {s : Shared}
theorem call_enumT {l : Addr} {items : Array Value} {Q : Value → Shared → Prop} (ht : s.heap.IsTuple l items)
    (h : ∀ h', IsEnum h' (s.heap.objs.size + 1) s.heap.objs.size 0 .none → h'.IsTupleIter s.heap.objs.size l 0 → (∀ b o, s.heap.get? b = some o → h'.get? b = some o) → Q (.ref (s.heap.objs.size + 1)) { s with heap := h' }) :
    wpAny (model prog w) A (call (.type "enumerate") [.ref l]) Q E s := by
  refine callType_new F.called_enumerate (by decide) (F.typeCall_enumerate_1 _) (F.newCall_enumerate_1 _) (fun obj => F.args_object_init_2 obj _) F.entry_enumerate_new (meets_enumB (begins_tuple l items)) ⟨ht, ?_⟩
  generalize ho : ({ cls := .type "tuple_iterator", data := .fields #[.ref l, .int 0 0] } : Obj) = o
  have of : o.isFreed = false := by rw [← ho]; rfl
  have hz : (s.heap.push o).objs.size = s.heap.objs.size + 1 := Heap.size_push ..
  generalize he : ({ cls := .type "enumerate", data := .fields #[.none, .bool false, .ref s.heap.objs.size, rawInt 0, .none, .none] } : Obj) = oe
  have oef : oe.isFreed = false := by rw [← he]; rfl
  have g1 : ((s.heap.push o).push oe).get? (s.heap.objs.size + 1) = some oe := by
    have := Heap.get?_push_size (s.heap.push o) oef
    rwa [hz] at this
  have g2 : ((s.heap.push o).push oe).get? s.heap.objs.size = some o := Heap.get?_push_of_some _ (Heap.get?_push_size _ of)
  show _ ∧ _
  rw [hz]
  subst he
  subst ho
  exact ⟨⟨_, g1, rfl⟩, h _ g1 ⟨_, g2, rfl, rfl⟩ fun b o x => Heap.get?_push_of_some _ (Heap.get?_push_of_some _ x)⟩
end
/-- the tuple at a, each item in a new pair with its place -/
def IteT (K : PySem.W.Frag) (a : Addr) : It where
  go i H := ∃ (xs : List V) (x : V), SqT K H a xs ∧ xs[i]? = some x
  yld i H v H' := ∃ T x, v = .ref T ∧ H T = none ∧ H' = upd H T (.tup [.int (i : Nat), x]) ∧ ∀ xs, SqT K H a xs → xs[i]? = some x
  stop i H := ∃ xs : List V, SqT K H a xs ∧ xs.length ≤ i
theorem turn_enumT {P : Program} {w : World} {K : PySem.W.Frag} {elts : List Expr} {kk : Nat} {tpos : Pos} (a e it : Addr) :
    Turn P w K (.Tuple elts kk tpos) (IteT K a) [e, it] e (fun i h => (∃ old, IsEnum h e it ((i : Nat) : Int) old) ∧ h.IsTupleIter it a i ∧ e ≠ it ∧ a ≠ it ∧ e ≠ a) where
  mem := List.mem_cons_self ..
  obj i h st b hb := by
    obtain ⟨⟨old, he⟩, ⟨o, ho, hc, hd⟩, _⟩ := st
    rcases List.mem_cons.mp hb with rfl | hb
    · exact ⟨_, he, fun v q => nomatch q⟩
    · rw [List.mem_singleton.mp hb]
      exact ⟨o, ho, fun v q => by rw [hd] at q; cases q⟩
  keep i h h' st k := by
    obtain ⟨⟨old, he⟩, hi, hr⟩ := st
    exact ⟨⟨old, k e (List.mem_cons_self ..) _ he⟩, hi.at fun o q => k it (List.mem_cons_of_mem _ (List.mem_cons_self ..)) o q, hr⟩
  item X hP hw hK hc i pins s σ H E I hf st hg := by
    subst hP hw hK
    obtain ⟨⟨old, he⟩, hit, n1, n2, n3⟩ := st
    obtain ⟨xs, x, hq, hx⟩ := hg
    obtain ⟨its, rv, p, hz⟩ := I.tuple hq
    obtain ⟨u, hu, ru⟩ := rv.get hx
    have hel : e < s.heap.objs.size := Heap.lt_size he
    have hil : it < s.heap.objs.size := by
      obtain ⟨_, q, _⟩ := hit
      exact Heap.lt_size q
    have D := Draws.tuple (prog := X.prog) (w := X.w) (A := X.A.in1) (I.ok.hd hc) it a n2 its.toArray
    have hlt : i < its.toArray.size := by
      rw [List.size_toArray]
      exact (List.getElem?_eq_some_iff.mp hu).1
    refine wpAny_pyNext_enum_itemD D he ⟨hit, p⟩ hlt n1 (fun z => ?_) fun u' h' tk hu' ho hit' hT hsz hk => ?_
    · rcases List.mem_cons.mp z with z | z
      · exact n1 z
      · exact n3 (List.mem_singleton.mp z)
    have eu : u' = u := by
      have h1 : its[i]? = some u' := by simpa using hu'
      exact Option.some.inj (h1.symm.trans hu)
    subst eu
    refine ⟨_, rfl, wpAny_letOwnedTupleGo_enum (s := { s with heap := h', toks := tk + 1 }) ho fun h2 he' sb => ?_⟩
    have hT2 := (sb.2 _ (Nat.ne_of_gt hel)).trans hT
    have new : ObjOk X.prog X.w (upd H s.heap.objs.size (.tup [.int (i : Nat), x])) h2 s.heap.objs.size (.tup [.int (i : Nat), x]) :=
      ⟨(by show 2 ≤ sizeLine; decide), [.int i tk, u'], .cons ⟨_, rfl⟩ (.cons ru .nil), ⟨_, hT2, rfl, _, rfl⟩⟩
    have I1 := I.turnedNew (t' := tk + 1) (ch := [e, it]) (h' := h2) (fun b ob hb q => by
      have b1 : b ≠ e := fun z => hb (by simp [z])
      have b2 : b ≠ it := fun z => hb (by simp [z])
      exact (sb.2 b b1).trans (hk b ob b1 b2 q)) hf (Nat.le_refl _) new
    refine ⟨.ref s.heap.objs.size, _, I1, rfl, ⟨_, x, rfl, I.hok.fresh (Nat.le_refl _), rfl, fun ys hy => by rw [I.tuple_inj hy hq]; exact hx⟩, ⟨⟨u', ?_⟩, hit'.1.at fun o q => (sb.2 it (Ne.symm n1)).trans q, n1, n2, n3⟩, fun b hb => ?_⟩
    · have e1 : ((i + 1 : Nat) : Int) = (i : Int) + 1 := by omega
      rw [e1]
      exact he'
    · have hb' : b < s.heap.objs.size := by
        rcases List.mem_cons.mp hb with rfl | hb
        · exact hel
        · rw [List.mem_singleton.mp hb]
          exact hil
      rw [upd_ne (Nat.ne_of_lt hb')]
      exact (hf b hb).1
  done X hP hw hK hc i pins s σ H E I hf st hg := by
    subst hP hw hK
    obtain ⟨⟨old, he⟩, hit, n1, n2, n3⟩ := st
    obtain ⟨xs, hq, hx⟩ := hg
    obtain ⟨its, rv, p, hz⟩ := I.tuple hq
    obtain ⟨f0, f1, f2, f3, f4, f5⟩ := hf it (by simp)
    have hl := rv.length
    -- the inner iterator has come to its end
    have hT : s.TypeIs (.ref e) "enumerate" := ⟨_, he, rfl⟩
    unfold pyNext
    refine wpAny_bind (wpAny_attempt (wpAny_callSpecial?_slot (name := Str.ofString "__next__") hT F.slot_enumerate_next (wpAny_call_entry F.slot_enumerate_next hT F.entry_enumerate_next ?_ (F.args_enumerate_next_1 _))))
    show wpAny _ _ (field (.ref e) 2 >>= _) _ _ _
    refine wpAny_bind (wpAny_field he rfl (x := .ref it) rfl ?_)
    refine wpAny_bind (wpAny_nextOf_tuple_end (I.ok.hd hc) hit p (by simp; omega) fun h' x he' hx' => ?_)
    obtain ⟨o, ho, hcl⟩ := hx'
    refine wpAny_bind (wpAny_isInstance (T := "StopIteration") (b := true) ⟨o, ho, hcl⟩ isSubtype_stop ?_)
    exact wpAny_pure ⟨rfl, I.turned (t' := s.toks) (fun b o hb q => he' b o hb q) f0 f1 f3 f4 f5⟩
  self A i s Q E st h := wpAny_pyIter_enum st.1.choose_spec h
def iEnumT (K : PySem.W.Frag) (ta : TA) : TI := fun σ H R => ta σ H fun vs H1 => ∃ a xs, vs = [.ref a] ∧ SqT K H1 a xs ∧ R (IteT K a) H1
theorem pi_enumT {X : Cx} {e : Expr} {ta : TA} {p pos tpos : Pos} {elts : List Expr} {kk : Nat} (hg : Gl X "enumerate") (hm : X.mg "enumerate" = none) (ha : PA X [e] ta) (hs : starEach [e] X.env = [(false, eval e X.env)]) :
    PI X (.Tuple elts kk tpos) (.Call (.Name "enumerate" p) [e] [] pos) (iEnumT X.K ta) := by
  refine ⟨fun pins s σ H R I h => ?_⟩
  refine Call_ (ld_blt I hg hm boot_enumerate (PyProof.Rows.callWith_type1 (thn (ha.run pos pins s σ H _ I h) fun us s1 ⟨vs, H1, I1, r1, q1⟩ => ?_) hs rfl))
  obtain ⟨a, xs, ex, hq, q⟩ := q1
  subst ex
  cases r1 with
  | cons r rr =>
    cases rr
    cases r
    obtain ⟨its, rv, p', hz⟩ := I1.tuple hq
    have hal : a < s1.heap.objs.size := by
      obtain ⟨o, ho, _⟩ := id p'
      exact Heap.lt_size ho
    refine call_enumT (show s1.heap.IsTuple a its.toArray from p') fun h' he hit hk => wpAny_pyIter_enum he ?_
    have I2 : Inv X pins σ H1 { s1 with heap := h' } := I1.kept (t' := s1.toks) hk
    refine ⟨s1.heap.objs.size + 1, [s1.heap.objs.size + 1, s1.heap.objs.size], _, _, H1, rfl, I2, turn_enumT a (s1.heap.objs.size + 1) s1.heap.objs.size, ⟨⟨.none, he⟩, hit, Nat.succ_ne_self _, Nat.ne_of_lt hal, Ne.symm (Nat.ne_of_lt (Nat.lt_succ_of_lt hal))⟩, fun b hb => ?_, q⟩
    have hle : s1.heap.objs.size ≤ b := by
      rcases List.mem_cons.mp hb with rfl | hb
      · exact Nat.le_succ _
      · rw [List.mem_singleton.mp hb]
        exact Nat.le_refl _
    exact I1.fpOk hle (I1.hok.fresh hle)
end Nh
set_option Elab.async false
set_option linter.all false
set_option maxRecDepth 100000
namespace Nh
open PySem PySem.Spec PyProof.Rows L2
/-! ### what is walked -/
/-- what must stand while it is walked: the tuples, and the list that is its source -/
def Kp (Hb : Hp) (src : Option Addr) (H : Hp) : Prop := TK Hb H ∧ ∀ p, src = some p → H p = Hb p
theorem Kp.same {Hb H : Hp} {src : Option Addr} (s : Same Hb H) (h : ∀ p, src = some p → Hb p ≠ none) : Kp Hb src H := ⟨tk_of s, fun p e => by
  cases q : Hb p with
  | none => exact absurd q (h p e)
  | some o => exact s p o q⟩
/-- an iterator that gives the items of xs, in turn -/
structure ItS {α : Type} [Rep α] (J : It) (Hb : Hp) (src : Option Addr) (xs : List α) : Prop where
  go : ∀ i x H, xs[i]? = some x → Kp Hb src H → J.go i H ∧ ∀ v H', J.yld i H v H' → Same H H' ∧ Rep.rep H' v x
  stop : ∀ H, Kp Hb src H → J.stop xs.length H
  there : ∀ p, src = some p → ∃ vs, Hb p = some (.lst vs)
theorem ItS.keep {α : Type} [Rep α] {J : It} {Hb H : Hp} {src : Option Addr} {xs : List α} (h : ItS J Hb src xs) (s : Same Hb H) : Kp Hb src H := .same s fun p e z => by
  obtain ⟨vs, q⟩ := h.there p e
  rw [z] at q; cases q
theorem its_tup {α : Type} [Rep α] {K : PySem.W.Frag} {a : Addr} {vs : List V} {xs : List α} {Hb : Hp} (h : Hb a = some (.tup vs)) (r : A2 (Rep.rep Hb) vs xs) : ItS (Itt K a) Hb none xs where
  go i x H hx k := by
    obtain ⟨v, hv, rv⟩ := r.get hx
    refine ⟨⟨vs, v, .of (k.1.t h), hv⟩, fun u H' y => ?_⟩
    obtain ⟨rfl, y⟩ := y
    have e := Option.some.inj ((y vs (.of (k.1.t h))).symm.trans hv)
    subst e
    exact ⟨.refl _, Rep.keep k.1 rv⟩
  stop H k := ⟨vs, .of (k.1.t h), by rw [r.length]; exact Nat.le_refl _⟩
  there p e := nomatch e
theorem its_lst {α : Type} [Rep α] {K : PySem.W.Frag} {a : Addr} {xs : List α} {Hb : Hp} (l : LsR Hb a xs) : ItS (Itl K a) Hb (some a) xs := by
  obtain ⟨vs, h, r⟩ := l
  refine ⟨fun i x H hx k => ?_, fun H k => ?_, fun p e => ?_⟩
  · obtain ⟨v, hv, rv⟩ := r.get hx
    have hH : H a = some (.lst vs) := (k.2 a rfl).trans h
    refine ⟨⟨vs, v, .of hH, hv⟩, fun u H' y => ?_⟩
    obtain ⟨rfl, y⟩ := y
    have e := Option.some.inj ((y vs (.of hH)).symm.trans hv)
    subst e
    exact ⟨.refl _, Rep.keep k.1 rv⟩
  · exact ⟨vs, .of ((k.2 a rfl).trans h), by rw [r.length]; exact Nat.le_refl _⟩
  · cases e
    exact ⟨vs, h⟩
/-- 0, 1, .. below n -/
def upto (n : Nat) : List Int := (List.range n).map Int.ofNat
theorem upto_len (n : Nat) : (upto n).length = n := by unfold upto; rw [List.length_map, List.length_range]
theorem upto_get {n i : Nat} {x : Int} (h : (upto n)[i]? = some x) : i < n ∧ x = (i : Int) := by
  have hi : i < n := by
    have := (List.getElem?_eq_some_iff.mp h).1
    rwa [upto_len] at this
  unfold upto at h
  rw [List.getElem?_map, List.getElem?_range hi] at h
  exact ⟨hi, (Option.some.inj h).symm⟩
theorem its_rng {Hb : Hp} (n : Nat) : ItS (Itr 0 n) Hb none (upto n) where
  go i x H hx k := by
    obtain ⟨hi, rfl⟩ := upto_get hx
    refine ⟨hi, fun v H' y => ?_⟩
    obtain ⟨rfl, rfl⟩ := y
    exact ⟨.refl _, by show V.int _ = V.int _; congr 1; omega⟩
  stop H k := by
    show n ≤ _
    rw [upto_len]; exact Nat.le_refl _
  there p e := nomatch e
theorem its_zip {α β : Type} [Rep α] [Rep β] {K : PySem.W.Frag} {a b : Addr} {vs us : List V} {xs : List α} {ys : List β} {Hb : Hp} (ha : Hb a = some (.tup vs)) (hb : Hb b = some (.tup us))
    (ra : A2 (Rep.rep Hb) vs xs) (rb : A2 (Rep.rep Hb) us ys) : ItS (RZ.ItzT K a b) Hb none (xs.zip ys) where
  go i x H hx k := by
    obtain ⟨x1, x2⟩ := x
    have h12 := List.getElem?_zip_eq_some.mp hx
    obtain ⟨v, hv, rv⟩ := ra.get h12.1
    obtain ⟨u, hu, ru⟩ := rb.get h12.2
    have ka := k.1.t ha
    have kb := k.1.t hb
    refine ⟨⟨vs, us, v, u, .of ka, .of kb, hv, hu⟩, fun z H' y => ?_⟩
    obtain ⟨T, v', u', rfl, hT, rfl, f1, f2⟩ := y
    have e1 := Option.some.inj ((f1 vs (.of ka)).symm.trans hv)
    have e2 := Option.some.inj ((f2 us (.of kb)).symm.trans hu)
    subst e1; subst e2
    have t := k.1.trans (tk_of (same_new (o := .tup [v', u']) hT))
    exact ⟨same_new hT, T, v', u', rfl, upd_same, Rep.keep t rv, Rep.keep t ru⟩
  stop H k := by
    refine ⟨vs, us, .of (k.1.t ha), .of (k.1.t hb), ?_⟩
    rw [ra.length, rb.length, List.length_zip]
    omega
  there p e := nomatch e
/-- the items with their places -/
def enumd {α : Type} (xs : List α) : List (Int × α) := (upto xs.length).zip xs
theorem enumd_len {α : Type} (xs : List α) : (enumd xs).length = xs.length := by
  unfold enumd
  rw [List.length_zip, upto_len, Nat.min_self]
theorem enumd_get {α : Type} {xs : List α} {i : Nat} {y : Int × α} (h : (enumd xs)[i]? = some y) : y.1 = (i : Int) ∧ xs[i]? = some y.2 := by
  obtain ⟨y1, y2⟩ := y
  have h12 := List.getElem?_zip_eq_some.mp h
  exact ⟨(upto_get h12.1).2, h12.2⟩
theorem its_enumT {α : Type} [Rep α] {K : PySem.W.Frag} {a : Addr} {vs : List V} {xs : List α} {Hb : Hp} (ha : Hb a = some (.tup vs)) (ra : A2 (Rep.rep Hb) vs xs) : ItS (IteT K a) Hb none (enumd xs) where
  go i x H hx k := by
    obtain ⟨x1, x2⟩ := x
    obtain ⟨e0, hx2⟩ := enumd_get hx
    obtain ⟨v, hv, rv⟩ := ra.get hx2
    have ka := k.1.t ha
    refine ⟨⟨vs, v, .of ka, hv⟩, fun z H' y => ?_⟩
    obtain ⟨T, v', rfl, hT, rfl, f1⟩ := y
    have e1 := Option.some.inj ((f1 vs (.of ka)).symm.trans hv)
    subst e1
    have t := k.1.trans (tk_of (same_new (o := .tup [.int (i : Nat), v']) hT))
    refine ⟨same_new hT, T, _, v', rfl, upd_same, ?_, Rep.keep t rv⟩
    show V.int _ = V.int _
    exact congrArg V.int e0.symm
  stop H k := by
    refine ⟨vs, .of (k.1.t ha), ?_⟩
    rw [ra.length, enumd_len]
    exact Nat.le_refl _
  there p e := nomatch e
theorem its_enumL {α : Type} [Rep α] {K : PySem.W.Frag} {a : Addr} {xs : List α} {Hb : Hp} (l : LsR Hb a xs) : ItS (Ite K a) Hb (some a) (enumd xs) := by
  obtain ⟨vs, h, r⟩ := l
  refine ⟨fun i x H hx k => ?_, fun H k => ?_, fun p e => ?_⟩
  · obtain ⟨x1, x2⟩ := x
    obtain ⟨e0, hx2⟩ := enumd_get hx
    obtain ⟨v, hv, rv⟩ := r.get hx2
    have hH : H a = some (.lst vs) := (k.2 a rfl).trans h
    refine ⟨⟨vs, v, .of hH, hv⟩, fun z H' y => ?_⟩
    obtain ⟨T, v', rfl, hT, rfl, f1⟩ := y
    have e1 := Option.some.inj ((f1 vs (.of hH)).symm.trans hv)
    subst e1
    have t := k.1.trans (tk_of (same_new (o := .tup [.int (i : Nat), v']) hT))
    refine ⟨same_new hT, T, _, v', rfl, upd_same, ?_, Rep.keep t rv⟩
    show V.int _ = V.int _
    exact congrArg V.int e0.symm
  · exact ⟨vs, .of ((k.2 a rfl).trans h), by rw [r.length, enumd_len]; exact Nat.le_refl _⟩
  · cases e
    exact ⟨vs, h⟩
/-! readings of what is walked -/
structure WI (X : Cx) (tg iter : Expr) (σ : L2.St) (H : Hp) (R : It → Hp → Prop) : Prop where
  run : ∀ (pins : List (Addr × Obj)) (s : Shared), Inv X pins σ H s →
    wpAny (model X.prog X.w) X.A (eval iter X.env) (fun v s1 => wpAny (model X.prog X.w) X.A (pyIter v) (PIE X pins σ tg R) X.xe s1) X.xe s
theorem lzI (X : Cx) (tg iter : Expr) : PI X tg iter (WI X tg iter) := ⟨fun pins s _ _ _ I h => h.run pins s I⟩
theorem wi {X : Cx} {tg iter : Expr} {t : TI} (p : PI X tg iter t) {σ : L2.St} {H : Hp} {R : It → Hp → Prop} (q : t σ H R) : WI X tg iter σ H R := ⟨fun pins s I => p.run pins s σ H R I q⟩
/-- it walks xs; S: what is told of the source -/
def XI {α : Type} [Rep α] (X : Cx) (σ : L2.St) (H : Hp) (tg iter : Expr) (S : Hp → Option Addr → Prop) (xs : List α) : Prop :=
  ∀ H1, Same H H1 → ∀ R : It → Hp → Prop, (∀ J Hb src, Same H1 Hb → S H1 src → ItS J Hb src xs → R J Hb) → WI X tg iter σ H1 R
abbrev noSrc : Hp → Option Addr → Prop := fun _ src => src = none
abbrev isSrc (a : Addr) : Hp → Option Addr → Prop := fun _ src => src = some a
abbrev newSrc : Hp → Option Addr → Prop := fun H1 src => ∃ a, src = some a ∧ H1 a = none
section
variable {X : Cx} {σ : L2.St} {H : Hp} {α β : Type} [Rep α] [Rep β] {tg a b e : Expr} {p pos tpos : Pos}
theorem wtup {xs : List α} (ha : Ex X σ H e xs) : XI X σ H tg e noSrc xs := fun H1 s R q =>
  wi (pi_tup (lzE e)) (ha H1 s _ fun v Hb s' r => by
    obtain ⟨t, vs, rfl, h1, h2⟩ := r
    exact ⟨t, rfl, ⟨vs, .of h1⟩, q _ Hb none s' rfl (its_tup h1 h2)⟩)
theorem wlst {t : Addr} {xs : List α} (l : LsR H t xs) (ha : Ex X σ H e (Raw.mk (.ref t))) : XI X σ H tg e (isSrc t) xs := fun H1 s R q =>
  wi (pi_list (lzE e)) (ha H1 s _ fun v Hb s' r => by
    have e : v = V.ref t := r
    subst e
    have l' := l.up (s.trans s')
    obtain ⟨vs, h1, h2⟩ := id l'
    exact ⟨t, rfl, ⟨vs, .of h1⟩, q _ Hb (some t) s' rfl (its_lst l')⟩)
theorem wlstE {xs : List α} (ha : EL X σ H e xs) : XI X σ H tg e newSrc xs := fun H1 s R q =>
  wi (pi_list (lzE e)) (ha H1 s _ fun v Hb s' r => by
    obtain ⟨t, rfl, n, l⟩ := r
    obtain ⟨vs, h1, h2⟩ := id l
    exact ⟨t, rfl, ⟨vs, .of h1⟩, q _ Hb (some t) s' ⟨t, rfl, n⟩ (its_lst l)⟩)
theorem wrng {n : Nat} (hm : X.mg "range" = none) (ha : Ex X σ H a (n : Int)) (hn : n < 2 ^ 62) (na : Ns X a := by intro _; rfl) (hg : Gl X "range" := by rfl) : XI X σ H tg (.Call (.Name "range" p) [a] [] pos) noSrc (upto n) := fun H1 s R q =>
  wi (pi_range1 hg hm (pa_cons (lzE a) pa_nil (na _)) (na _)) (ha H1 s _ fun v Hb s' r => by
    have e : v = V.int (n : Int) := r
    subst e
    refine ⟨(n : Int), rfl, by omega, by omega, ?_⟩
    rw [Int.toNat_natCast]
    exact q _ Hb none s' rfl (its_rng n))
theorem wzip {xs : List α} {ys : List β} {elts : List Expr} {kk : Nat} (hm : X.mg "zip" = none) (ha : Ex X σ H a xs) (hb : Ex X σ H b ys) (na : Ns X a := by intro _; rfl) (nb : Ns X b := by intro _; rfl) (hg : Gl X "zip" := by rfl) :
    XI X σ H (.Tuple elts kk tpos) (.Call (.Name "zip" p) [a, b] [] pos) noSrc (xs.zip ys) := fun H1 s R q =>
  wi (RZ.pi_zipA hg hm (pa_cons (lzE a) (pa_cons (lzE b) pa_nil (nb _)) (na _)) (na _) (one_any nb)) (x2 ha hb s fun v u Hb s' r1 r2 => by
    obtain ⟨t1, vs, rfl, h1, h2⟩ := r1
    obtain ⟨t2, us, rfl, h3, h4⟩ := r2
    exact ⟨t1, t2, vs, us, rfl, .inr ⟨.of h1, .of h3, q _ Hb none s' rfl (its_zip h1 h3 h2 h4)⟩⟩)
theorem wenumT {xs : List α} {elts : List Expr} {kk : Nat} (hm : X.mg "enumerate" = none) (ha : Ex X σ H a xs) (na : Ns X a := by intro _; rfl) (hg : Gl X "enumerate" := by rfl) :
    XI X σ H (.Tuple elts kk tpos) (.Call (.Name "enumerate" p) [a] [] pos) noSrc (enumd xs) := fun H1 s R q =>
  wi (pi_enumT hg hm (pa_cons (lzE a) pa_nil (na _)) (na _)) (ha H1 s _ fun v Hb s' r => by
    obtain ⟨t1, vs, rfl, h1, h2⟩ := r
    exact ⟨t1, vs, rfl, .of h1, q _ Hb none s' rfl (its_enumT h1 h2)⟩)
theorem wenumE {xs : List α} {elts : List Expr} {kk : Nat} (hm : X.mg "enumerate" = none) (ha : EL X σ H a xs) (na : Ns X a := by intro _; rfl) (hg : Gl X "enumerate" := by rfl) :
    XI X σ H (.Tuple elts kk tpos) (.Call (.Name "enumerate" p) [a] [] pos) newSrc (enumd xs) := fun H1 s R q =>
  wi (pi_enum hg hm (pa_cons (lzE a) pa_nil (na _)) (na _)) (ha H1 s _ fun v Hb s' r => by
    obtain ⟨t, rfl, n, l⟩ := r
    obtain ⟨vs, h1, h2⟩ := id l
    exact ⟨t, vs, rfl, .of h1, q _ Hb (some t) s' ⟨t, rfl, n⟩ (its_enumL l)⟩)
end
/-! ### comprehensions whose element leaves all as it is -/
section
variable {X : Cx} {σ : L2.St} {H : Hp} {α β γ : Type} [Rep α] [Rep β] [Rep γ] {tg iter elt : Expr} {ifs : List Expr} {scope : Scope} {own : List (Str × Nat)} {pos : Pos}
/-- in each of a comprehension's blocks -/
abbrev InBlk (X : Cx) (scope : Scope) (P : Cx → Prop) : Prop := ∀ (s : Shared) (H : Hp) (C : Addr) (cl : List (Str × Addr)) (fp : List Addr), P (X.blk s H scope (compEnvC scope cl C X.env) fp)
theorem take_snoc {xs : List α} {i : Nat} {x : α} (h : xs[i]? = some x) : xs.take (i + 1) = xs.take i ++ [x] := by
  rw [List.take_add_one, h]; rfl
/-- a comprehension: as a value, or put at a plain local name -/
structure CL (X : Cx) (σ : L2.St) (H : Hp) (e : Expr) (R : Hp → Hp → V → Prop) : Prop where
  ev : EV X σ H e R
  put : ∀ (i : Nat) {y : Str} {py spos : Pos} {D : Ends}, X.N[i]? = some y → X.env.scope.names.lookup y = some .local → swapsWith e (some (.Name y py)) spos.line X.env = pure true →
    (∀ v H', Same H H' → R H H' v → D.nx (σ.set i (some v)) H') → W1 X (.Assign [.Name y py] e spos) D σ H
theorem compG {S : Hp → Option Addr → Prop} {g : TG} {tt : TT} {xs : List α} {p : α → Bool} {f : α → β} (hc : X.calm = true) (nd : X.N.Nodup) (ok : blkC X.N X.env.scope scope own = true) (hi : XI X σ H tg iter S xs)
    (hg : InBlk X scope fun Y => PG Y tg g) (hts : InBlk X scope fun Y => PTs Y ifs tt) (len : xs.length ≤ sizeLine) (hs : ∀ x, foldedSetIterable iter X.env x = pure x) (Ps : α → Hp → L2.St → Prop)
    (gd : ∀ x v H1, Same H H1 → Rep.rep H1 v x → ∀ Q : L2.St → Hp → Prop, (∀ σ2, Ps x H1 σ2 → wipe σ2 (own.map (·.2)) = wipe σ (own.map (·.2)) → Q σ2 H1) → g v (wipe σ (own.map (·.2))) H1 Q)
    (ht : ∀ (k : Nat) x, xs[k]? = some x → ∀ H1 σ2, Same H H1 → Ps x H1 σ2 → ∀ Q : Bool → Hp → Prop, (∀ H3, Same H1 H3 → Q (p x) H3) → tt σ2 H1 Q)
    (he : ∀ (k : Nat) x, xs[k]? = some x → p x = true → ∀ H1 σ2, Same H H1 → Ps x H1 σ2 → InBlk X scope fun Y => Ex Y σ2 H1 elt (f x)) :
    CL X σ H (.ListComp elt [⟨tg, iter, ifs, 0⟩] scope pos) (fun H1 H' v => ∃ q, v = .ref q ∧ H1 q = none ∧ LsR H' q ((xs.filter p).map f)) := by
  have key : ∀ H1, Same H H1 → ∀ Q : VK, (∀ v H', Same H1 H' → (∃ q, v = .ref q ∧ H1 q = none ∧ LsR H' q ((xs.filter p).map f)) → Q v H') → tLc (WI X tg iter) g tt (fun σ H Q => InBlk X scope fun Y => WE Y elt σ H Q) (own.map (·.2)) σ H1 Q := fun H1 s Q q =>
    (hi H1 s _ fun J Hb src s1 _ it D hD => by
      refine ⟨fun i m H => m = xs.length - i ∧ i ≤ xs.length ∧ Same Hb H ∧ ∃ vs, H D = some (.lst vs) ∧ A2 (Rep.rep H) vs (((xs.take i).filter p).map f), ⟨_, rfl, Nat.zero_le _, same_new hD, [], upd_same, by simp [A2.nil]⟩, ?_⟩
      rintro i m H2 ⟨rfl, hi2, s2, vs, hv, rv⟩
      have kp := it.keep s2
      by_cases hlt : i < xs.length
      · have hx : xs[i]? = some xs[i] := List.getElem?_eq_getElem hlt
        obtain ⟨g1, g2⟩ := it.go i _ H2 hx kp
        refine .inr ⟨g1, fun H' => i + 1 ≤ xs.length ∧ Same Hb H' ∧ ∃ vs, H' D = some (.lst vs) ∧ A2 (Rep.rep H') vs (((xs.take (i + 1)).filter p).map f), fun H' h' => ⟨xs.length - (i + 1), by omega, rfl, h'.1, h'.2⟩, fun v H3 y => ?_⟩
        obtain ⟨s3, r3⟩ := g2 v H3 y
        have t3 := ((s.trans s1).trans s2).trans s3
        refine gd _ v H3 t3 r3 _ fun σ2 ps hw => ⟨hw, ht i _ hx H3 σ2 t3 ps _ fun H4 s4 => ?_⟩
        cases hp : p xs[i] with
        | true =>
          rw [if_pos rfl]
          intro a b c d e
          refine (he i _ hx hp H3 σ2 t3 ps a b c d e) H4 s4 _ fun u H5 s5 r5 => ?_
          have s6 := (s3.trans s4).trans s5
          have hv5 := s6 _ _ hv
          refine ⟨vs, hv5, ?_, hlt, same_upd (s2.trans s6) hD, vs ++ [u], upd_same, ?_⟩
          · rw [rv.length, List.length_map]
            have h1 := List.length_filter_le p (xs.take i)
            rw [List.length_take] at h1
            omega
          · rw [take_snoc hx, List.filter_append, List.map_append]
            have e1 : [xs[i]].filter p = [xs[i]] := by simp [hp]
            rw [e1]
            exact ((rv.up (tk_of s6)).up (tk_lst hv5)).append (.one (Rep.keep (tk_lst hv5) r5))
        | false =>
          rw [if_neg Bool.false_ne_true]
          have s6 := s3.trans s4
          refine ⟨hlt, s2.trans s6, vs, s6 _ _ hv, ?_⟩
          rw [take_snoc hx, List.filter_append, List.map_append]
          have e1 : [xs[i]].filter p = [] := by simp [hp]
          rw [e1, List.map_nil, List.append_nil]
          exact rv.up (tk_of s6)
      · have e : i = xs.length := by omega
        subst e
        rw [List.take_length] at rv
        exact .inl ⟨it.stop H2 kp, q _ _ (s1.trans s2) ⟨D, rfl, s1.free hD, vs, hv, rv⟩⟩)
  have hb := blkOk_by ok
  have he2 : InBlk X scope fun Y => PE Y elt (fun σ H Q => InBlk X scope fun Y => WE Y elt σ H Q) := fun a b c d e => ⟨fun pins s _ _ _ I h => (h a b c d e).run pins s I⟩
  exact ⟨fun H1 s Q q => we (pe_lc hc nd (lzI X tg iter) hb hg hts he2 hs) (key H1 s Q q), fun i y py spos D hi hl hw k => w1 (ps_setLc hc nd hi hl hw (lzI X tg iter) hb hg hts he2 hs) (key H (.refl H) _ fun v H' s r => k v H' s r)⟩
/-! one name, no test -/
theorem len_small {α : Type} {xs : List α} (h : xs.length ≤ 4000) : xs.length ≤ sizeLine := Nat.le_trans h (by decide)
theorem lt_small {n : Nat} (h : n ≤ 4000) : n < sizeLine := Nat.lt_of_le_of_lt h (by decide)
theorem comp1 {S : Hp → Option Addr → Prop} {i : Nat} {y : Str} {py : Pos} {xs : List α} {f : α → β} (hc : X.calm = true) (nd : X.N.Nodup) (ok : blkC X.N X.env.scope scope [(y, i)] = true) (hi : XI X σ H (.Name y py) iter S xs)
    (len : xs.length ≤ sizeLine)
    (he : ∀ (k : Nat) x, xs[k]? = some x → ∀ v H1, Same H H1 → Rep.rep H1 v x → InBlk X scope fun Y => Ex Y ((wipe σ [i]).set i (some v)) H1 elt (f x)) (hg : InBlk X scope fun Y => PG Y (.Name y py) (gName i) := by intro _ _ _ _ _; first | exact pg_name (by assumption) rfl (Or.inl rfl) | exact pg_name (by assumption) rfl (Or.inr rfl)) (hs : ∀ x, foldedSetIterable iter X.env x = pure x := by intro _; rfl) :
    CL X σ H (.ListComp elt [⟨.Name y py, iter, [], 0⟩] scope pos) (fun H1 H' v => ∃ q, v = .ref q ∧ H1 q = none ∧ LsR H' q (xs.map f)) := by
  have h := compG (p := fun _ => true) (f := f) hc nd ok hi hg (fun _ _ _ _ _ => pts_nil) len hs (fun x H1 σ2 => ∃ v, Rep.rep H1 v x ∧ σ2 = (wipe σ [i]).set i (some v))
    (fun x v H1 _ r Q q => q _ ⟨v, r, rfl⟩ (by show ((σ.set i none).set i (some v)).set i none = _; rw [List.set_set, List.set_set]; rfl)) (fun _ _ _ _ _ _ _ Q q => q _ (.refl _))
    (fun k x hx _ H1 σ2 s ps => by obtain ⟨v, r, rfl⟩ := ps; exact he k x hx v H1 s r) (pos := pos)
  rw [List.filter_eq_self.mpr fun _ _ => rfl] at h
  exact h
/-- one name and a test -/
theorem comp1f {S : Hp → Option Addr → Prop} {i : Nat} {y : Str} {py : Pos} {c : Expr} {xs : List α} {p : α → Bool} {f : α → β} (hc : X.calm = true) (nd : X.N.Nodup) (ok : blkC X.N X.env.scope scope [(y, i)] = true) (hi : XI X σ H (.Name y py) iter S xs)
    (len : xs.length ≤ sizeLine)
    (ht : ∀ (k : Nat) x, xs[k]? = some x → ∀ v H1, Same H H1 → Rep.rep H1 v x → InBlk X scope fun Y => ET Y ((wipe σ [i]).set i (some v)) H1 c (p x))
    (he : ∀ (k : Nat) x, xs[k]? = some x → p x = true → ∀ v H1, Same H H1 → Rep.rep H1 v x → InBlk X scope fun Y => Ex Y ((wipe σ [i]).set i (some v)) H1 elt (f x)) (hg : InBlk X scope fun Y => PG Y (.Name y py) (gName i) := by intro _ _ _ _ _; first | exact pg_name (by assumption) rfl (Or.inl rfl) | exact pg_name (by assumption) rfl (Or.inr rfl)) (hs : ∀ x, foldedSetIterable iter X.env x = pure x := by intro _; rfl) :
    CL X σ H (.ListComp elt [⟨.Name y py, iter, [c], 0⟩] scope pos) (fun H1 H' v => ∃ q, v = .ref q ∧ H1 q = none ∧ LsR H' q ((xs.filter p).map f)) :=
  compG (tt := fun σ H Q => InBlk X scope fun Y => WT Y c σ H Q) hc nd ok hi hg (fun a b c d e => pts_one ⟨fun pins s _ _ _ I h => (h a b c d e).run pins s I⟩) len hs (fun x H1 σ2 => ∃ v, Rep.rep H1 v x ∧ σ2 = (wipe σ [i]).set i (some v))
    (fun x v H1 _ r Q q => q _ ⟨v, r, rfl⟩ (by show ((σ.set i none).set i (some v)).set i none = _; rw [List.set_set, List.set_set]; rfl))
    (fun k x hx H1 σ2 s ps Q q a b c d e => by obtain ⟨v, r, rfl⟩ := ps; exact ht k x hx v H1 s r a b c d e H1 (.refl _) Q q)
    (fun k x hx hp H1 σ2 s ps => by obtain ⟨v, r, rfl⟩ := ps; exact he k x hx hp v H1 s r)
/-- two names of a pair -/
theorem comp2 {S : Hp → Option Addr → Prop} {i j : Nat} {y z : Str} {py pz pt : Pos} {kk : Nat} {xs : List (α × β)} {f : α × β → γ} (hc : X.calm = true) (nd : X.N.Nodup) (hij : i ≠ j) (ok : blkC X.N X.env.scope scope [(y, i), (z, j)] = true) (hi : XI X σ H (.Tuple [.Name y py, .Name z pz] kk pt) iter S xs)
    (len : xs.length ≤ sizeLine)
    (he : ∀ (k : Nat) x, xs[k]? = some x → ∀ v u H1, Same H H1 → Rep.rep H1 v x.1 → Rep.rep H1 u x.2 → InBlk X scope fun Y => Ex Y (((wipe σ [i, j]).set i (some v)).set j (some u)) H1 elt (f x)) (hg : InBlk X scope fun Y => PG Y (.Tuple [.Name y py, .Name z pz] kk pt) (gTup X.K 2 (gCons (gName i) (gCons (gName j) gNil))) := by intro _ _ _ _ _; exact pg_tup rfl (pgs_cons (by first | exact pg_name (by assumption) rfl (Or.inl rfl) | exact pg_name (by assumption) rfl (Or.inr rfl)) (pgs_cons (by first | exact pg_name (by assumption) rfl (Or.inl rfl) | exact pg_name (by assumption) rfl (Or.inr rfl)) pgs_nil))) (hs : ∀ x, foldedSetIterable iter X.env x = pure x := by intro _; rfl) :
    CL X σ H (.ListComp elt [⟨.Tuple [.Name y py, .Name z pz] kk pt, iter, [], 0⟩] scope pos) (fun H1 H' v => ∃ q, v = .ref q ∧ H1 q = none ∧ LsR H' q (xs.map f)) := by
  have h := compG (p := fun _ => true) (f := f) hc nd ok hi hg (fun _ _ _ _ _ => pts_nil) len hs (fun x H1 σ2 => ∃ v u, Rep.rep H1 v x.1 ∧ Rep.rep H1 u x.2 ∧ σ2 = ((wipe σ [i, j]).set i (some v)).set j (some u))
    (fun x v H1 _ r Q q => by
      obtain ⟨a, v1, v2, rfl, h1, r1, r2⟩ := r
      refine ⟨a, [v1, v2], rfl, .of h1, rfl, v1, [v2], rfl, v2, [], rfl, rfl, q _ ⟨v1, v2, r1, r2, rfl⟩ ?_⟩
      show (((((σ.set j none).set i none).set i (some v1)).set j (some v2)).set j none).set i none = (σ.set j none).set i none
      rw [List.set_set, List.set_set, List.set_comm _ _ hij, List.set_set, List.set_set]) (fun _ _ _ _ _ _ _ Q q => q _ (.refl _))
    (fun k x hx _ H1 σ2 s ps => by obtain ⟨v, u, r1, r2, rfl⟩ := ps; exact he k x hx v u H1 s r1 r2) (pos := pos)
  rw [List.filter_eq_self.mpr fun _ _ => rfl] at h
  exact h
theorem comp2f {S : Hp → Option Addr → Prop} {i j : Nat} {y z : Str} {py pz pt : Pos} {kk : Nat} {c : Expr} {xs : List (α × β)} {p : α × β → Bool} {f : α × β → γ} (hc : X.calm = true) (nd : X.N.Nodup) (hij : i ≠ j) (ok : blkC X.N X.env.scope scope [(y, i), (z, j)] = true) (hi : XI X σ H (.Tuple [.Name y py, .Name z pz] kk pt) iter S xs)
    (len : xs.length ≤ sizeLine)
    (ht : ∀ (k : Nat) x, xs[k]? = some x → ∀ v u H1, Same H H1 → Rep.rep H1 v x.1 → Rep.rep H1 u x.2 → InBlk X scope fun Y => ET Y (((wipe σ [i, j]).set i (some v)).set j (some u)) H1 c (p x))
    (he : ∀ (k : Nat) x, xs[k]? = some x → p x = true → ∀ v u H1, Same H H1 → Rep.rep H1 v x.1 → Rep.rep H1 u x.2 → InBlk X scope fun Y => Ex Y (((wipe σ [i, j]).set i (some v)).set j (some u)) H1 elt (f x)) (hg : InBlk X scope fun Y => PG Y (.Tuple [.Name y py, .Name z pz] kk pt) (gTup X.K 2 (gCons (gName i) (gCons (gName j) gNil))) := by intro _ _ _ _ _; exact pg_tup rfl (pgs_cons (by first | exact pg_name (by assumption) rfl (Or.inl rfl) | exact pg_name (by assumption) rfl (Or.inr rfl)) (pgs_cons (by first | exact pg_name (by assumption) rfl (Or.inl rfl) | exact pg_name (by assumption) rfl (Or.inr rfl)) pgs_nil))) (hs : ∀ x, foldedSetIterable iter X.env x = pure x := by intro _; rfl) :
    CL X σ H (.ListComp elt [⟨.Tuple [.Name y py, .Name z pz] kk pt, iter, [c], 0⟩] scope pos) (fun H1 H' v => ∃ q, v = .ref q ∧ H1 q = none ∧ LsR H' q ((xs.filter p).map f)) :=
  compG (tt := fun σ H Q => InBlk X scope fun Y => WT Y c σ H Q) hc nd ok hi hg (fun a b c d e => pts_one ⟨fun pins s _ _ _ I h => (h a b c d e).run pins s I⟩) len hs (fun x H1 σ2 => ∃ v u, Rep.rep H1 v x.1 ∧ Rep.rep H1 u x.2 ∧ σ2 = ((wipe σ [i, j]).set i (some v)).set j (some u))
    (fun x v H1 _ r Q q => by
      obtain ⟨a, v1, v2, rfl, h1, r1, r2⟩ := r
      refine ⟨a, [v1, v2], rfl, .of h1, rfl, v1, [v2], rfl, v2, [], rfl, rfl, q _ ⟨v1, v2, r1, r2, rfl⟩ ?_⟩
      show (((((σ.set j none).set i none).set i (some v1)).set j (some v2)).set j none).set i none = (σ.set j none).set i none
      rw [List.set_set, List.set_set, List.set_comm _ _ hij, List.set_set, List.set_set])
    (fun k x hx H1 σ2 s ps Q q a b c d e => by obtain ⟨v, u, r1, r2, rfl⟩ := ps; exact ht k x hx v u H1 s r1 r2 a b c d e H1 (.refl _) Q q)
    (fun k x hx hp H1 σ2 s ps => by obtain ⟨v, u, r1, r2, rfl⟩ := ps; exact he k x hx hp v u H1 s r1 r2)
end
end Nh
set_option Elab.async false
set_option linter.all false
set_option maxRecDepth 100000
namespace Nh
open PySem PySem.Spec PyProof.Rows L2
/-! ### statements -/
/-- all but p stays -/
def But (p : Addr) (H H' : Hp) : Prop := ∀ b o, b ≠ p → H b = some o → H' b = some o
theorem But.of {p : Addr} {H H' : Hp} (s : Same H H') : But p H H' := fun b o _ h => s b o h
theorem But.upd {p : Addr} {H : Hp} {o : HO} : But p H (upd H p o) := fun b z hb h => by rw [upd_ne hb]; exact h
theorem But.trans {p : Addr} {H H1 H2 : Hp} (a : But p H H1) (b : But p H1 H2) : But p H H2 := fun c o hc h => b c o hc (a c o hc h)
theorem But.same {p : Addr} {H0 H H' : Hp} (s : Same H0 H) (n : H0 p = none) (t : But p H H') : Same H0 H' := fun b o h => t b o (ne_of_none h n) (s b o h)
theorem But.tk {p : Addr} {H H' : Hp} (t : But p H H') {xs : List V} (h : H p = some (.lst xs)) : TK H H' := fun b z u hb => t b _ (ne_of hb h (u.nl xs)) hb
theorem But.ls {α : Type} [Rep α] {p q : Addr} {H H' : Hp} {xs : List V} (t : But p H H') (h : H p = some (.lst xs)) (hq : q ≠ p) {ys : List α} (l : LsR H q ys) : LsR H' q ys := by
  obtain ⟨vs, h1, h2⟩ := l
  exact ⟨vs, t q _ hq h1, h2.up (t.tk h)⟩
section
variable {X : Cx} {σ : L2.St} {H : Hp} {D : Ends} {rest : List Stmt} {α β γ : Type} [Rep α] [Rep β] [Rep γ] {e a b c : Expr} {pos p : Pos}
theorem wcons {st : Stmt} (h : W1 X st { D with nx := WS X rest D } σ H) : WS X (st :: rest) D σ H := ws (pss_cons (lz1 st) (lzS rest)) h
theorem wnil (h : D.nx σ H) : WS X [] D σ H := ws pss_nil h
/-- name = e -/
theorem sset (i : Nat) {y : Str} {py : Pos} {R : Hp → Hp → V → Prop} (nd : X.N.Nodup) (he : EV X σ H e R) (k : ∀ v H', Same H H' → R H H' v → WS X rest D (σ.set i (some v)) H')
    (hi : X.N[i]? = some y := by rfl) (hx : Loc X.env.scope y := by first | exact Or.inl rfl | exact Or.inr rfl) (hs : swapsWith e (some (.Name y py)) pos.line X.env = pure false := by rfl)
    (hf : X.fn y = true ∨ X.env.scope.names.lookup y = some .local := by first | exact .inl rfl | exact .inr rfl) : WS X (.Assign [.Name y py] e pos :: rest) D σ H :=
  wcons (w1 (ps_set nd hi hx (lzE e) hs hf) (he H (.refl H) _ fun v H' s r => k v H' s r))
/-- name = [..], the name a plain local -/
theorem ssetc (i : Nat) {y : Str} {py : Pos} {R : Hp → Hp → V → Prop} (hc : CL X σ H e R) (k : ∀ v H', Same H H' → R H H' v → WS X rest D (σ.set i (some v)) H')
    (hi : X.N[i]? = some y := by rfl) (hl : X.env.scope.names.lookup y = some .local := by rfl) (hw : swapsWith e (some (.Name y py)) pos.line X.env = pure true := by exact sw_true rfl rfl rfl (by decide +kernel)) : WS X (.Assign [.Name y py] e pos :: rest) D σ H :=
  wcons (hc.put i hi hl hw k)
/-- a, b = e1, e2, both names plain locals -/
theorem spar (i j : Nat) {y z : Str} {py pz pt : Pos} {kt k2 : Nat} {pt2 : Pos} {R1 R2 : Hp → Hp → V → Prop} (hc : X.calm = true) (nd : X.N.Nodup) (ha : EV X σ H a R1) (hb : EV X σ H b R2)
    (k : ∀ v u H1 H2, Same H H1 → R1 H H1 v → Same H1 H2 → R2 H1 H2 u → WS X rest D ((σ.set i (some v)).set j (some u)) H2)
    (hij : i ≠ j := by decide) (hi : X.N[i]? = some y := by rfl) (hj : X.N[j]? = some z := by rfl) (hy : X.env.scope.names.lookup y = some .local := by rfl) (hz : X.env.scope.names.lookup z = some .local := by rfl)
    (na : Ns X a := by intro _; rfl) (nb : Ns X b := by intro _; rfl)
    (hw : swappedStores [.Tuple [.Name y py, .Name z pz] kt pt] (.Tuple [a, b] k2 pt2) X.env = pure (some [y, z]) := by rfl)
    (hs : swapsWithSole [.Tuple [.Name y py, .Name z pz] kt pt] (.Tuple [a, b] k2 pt2) pos.line X.env = pure false := by rfl) :
    WS X (.Assign [.Tuple [.Name y py, .Name z pz] kt pt] (.Tuple [a, b] k2 pt2) pos :: rest) D σ H :=
  wcons (w1 (ps_par hc nd hi hj hij hy hz (pa_cons (lzE a) (pa_cons (lzE b) pa_nil (nb _)) (na _)) hw hs) (ha H (.refl H) _ fun v H1 s1 r1 => hb H1 s1 _ fun u H2 s2 r2 => ⟨v, u, rfl, k v u H1 H2 s1 r1 s2 r2⟩))
/-- a, b = e, e a pair -/
theorem sunp (i j : Nat) {y z : Str} {py pz pt : Pos} {kt : Nat} {x1 : α} {x2 : β} (hc : X.calm = true) (nd : X.N.Nodup) (he : Ex X σ H e (x1, x2))
    (k : ∀ v u H1, Same H H1 → Rep.rep H1 v x1 → Rep.rep H1 u x2 → WS X rest D ((σ.set i (some v)).set j (some u)) H1)
    (hi : X.N[i]? = some y := by rfl) (hj : X.N[j]? = some z := by rfl) (hy : Loc X.env.scope y := by first | exact Or.inl rfl | exact Or.inr rfl) (hz : Loc X.env.scope z := by first | exact Or.inl rfl | exact Or.inr rfl)
    (fy : X.fn y = true ∨ X.env.scope.names.lookup y = some .local := by first | exact .inl rfl | exact .inr rfl) (fz : X.fn z = true ∨ X.env.scope.names.lookup z = some .local := by first | exact .inl rfl | exact .inr rfl)
    (hs : swapsWithSole [.Tuple [.Name y py, .Name z pz] kt pt] e pos.line X.env = pure false := by rfl) (hw : swappedStores [.Tuple [.Name y py, .Name z pz] kt pt] e X.env = pure none := by rfl) :
    WS X (.Assign [.Tuple [.Name y py, .Name z pz] kt pt] e pos :: rest) D σ H :=
  wcons (w1 (ps_asg (lzE e) (pg_tup hc (pgs_cons (pg_name nd hi hy fy) (pgs_cons (pg_name nd hj hz fz) pgs_nil))) hs hw) (he H (.refl H) _ fun v H1 s1 r1 => by
    obtain ⟨t, v1, v2, rfl, h1, q1, q2⟩ := r1
    exact ⟨t, _, rfl, .of h1, rfl, v1, [v2], rfl, v2, [], rfl, rfl, k v1 v2 H1 s1 q1 q2⟩))
/-- return e -/
theorem sret {R : Hp → Hp → V → Prop} (he : EV X σ H e R) (k : ∀ v H', Same H H' → R H H' v → D.rt v H') : WS X (.Return (some e) pos :: rest) D σ H :=
  wcons (w1 (ps_ret (lzE e)) (he H (.refl H) _ fun v H' s r => k v H' s r))
/-- if -/
theorem sif {t : Bool} {ss ss' : List Stmt} (hc : ET X σ H c t) (k1 : t = true → ∀ H', Same H H' → WS X ss { D with nx := WS X rest D } σ H') (k2 : t = false → ∀ H', Same H H' → WS X ss' { D with nx := WS X rest D } σ H') :
    WS X (.If c ss ss' pos :: rest) D σ H :=
  wcons (w1 (ps_if (lzT c) (lzS ss) (lzS ss')) (hc H (.refl H) _ fun H' s => by
    cases t with
    | true => exact iteT (k1 rfl H' s)
    | false => exact iteF (k2 rfl H' s)))
/-- xs.append(e) -/
theorem sapp {q : Addr} {xs : List α} {x : α} {o : Expr} {p1 p2 p3 : Pos} (l : LsR H q xs) (ho : Ex X σ H o (Raw.mk (.ref q))) (he : Ex X σ H e x) (hz : xs.length < sizeLine)
    (k : ∀ H', But q H H' → LsR H' q (xs ++ [x]) → WS X rest D σ H') (na : Ns X e := by intro _; rfl)
    (hs : swapsWith (.Call (.Attribute o "append" p1) [e] [] p2) none p3.line X.env = pure false := by rfl)
    (hb : attributeBase o "append" X.env (eval o X.env) = eval o X.env := by rfl)
    (hfew : ((backTo p2 (starEach [e] X.env)).all (fun x => !x.1) && (backToKw p2 (keywordEach [] X.env)).all (fun x => x.1.isSome) && decide ([e].length + ([] : List Keyword).length + (if ([] : List Keyword).isEmpty then 0 else 1) < 30)) = true := by rfl)
    (hline : (p1.endLine == p2.line) = true := by rfl) :
    WS X (.Expr (.Call (.Attribute o "append" p1) [e] [] p2) p3 :: rest) D σ H :=
  wcons (w1 (ps_expr (pe_bm PySem.F.plainAttrs_list PySem.F.slot_list_append PySem.F.type_list_append mt_append (lzE o) (pa_cons (lzE e) pa_nil (na _)) hb hfew hline (na _) rfl) hs)
    (ho H (.refl H) _ fun v H1 s1 r1 => by
      have ev : v = V.ref q := r1
      subst ev
      obtain ⟨vs1, h1, _⟩ := l.up s1
      refine ⟨.inl ⟨rfl, _, SqL.of h1⟩, he H1 s1 _ fun u H2 s2 r2 => ?_⟩
      obtain ⟨vs, h2, h3⟩ := l.up (s1.trans s2)
      refine ⟨q, vs, u, rfl, rfl, h2, by rw [h3.length]; exact hz, k _ ((But.of (s1.trans s2)).trans .upd) ⟨_, upd_same, ?_⟩⟩
      exact (h3.up (tk_lst h2)).append (.one (Rep.keep (tk_lst h2) r2))))
/-- xs[i] = e -/
theorem sput {q : Addr} {xs : List α} {x : α} {i : Int} {j : Nat} {o ie : Expr} {p1 : Pos} (l : LsR H q xs) (he : Ex X σ H e x) (ho : Ex X σ H o (Raw.mk (.ref q))) (hi : Ex X σ H ie i) (hj : ixN xs.length i = some j)
    (k : ∀ H', But q H H' → LsR H' q (xs.set j x) → WS X rest D σ H')
    (ha : ∀ v, assign (.Subscript o ie p1) X.env v = (do
      let ov ← holding [v] (eval o X.env)
      let iv ← holding [v, ov] (eval ie X.env)
      standAt p1
      holding [v, ov, iv] (setItem ov iv v)
      release [v, ov, iv] []) := by intro _; rfl)
    (hs : swapsWithSole [.Subscript o ie p1] e pos.line X.env = pure false := by rfl) (hw : swappedStores [.Subscript o ie p1] e X.env = pure none := by rfl)
    (h1 : (assignEach [.Subscript o ie p1] X.env).map (·.2) = [assign (.Subscript o ie p1) X.env] := by rfl) :
    WS X (.Assign [.Subscript o ie p1] e pos :: rest) D σ H :=
  wcons (w1 (ps_asg (lzE e) (pg_sub (lzE o) (lzE ie) set_list ha) hs hw h1) (he H (.refl H) _ fun u H1 s1 r1 => ho H1 s1 _ fun v H2 s2 r2 => hi H2 (s1.trans s2) _ fun z H3 s3 r3 => by
    have ev : v = V.ref q := r2
    have ez : z = V.int i := r3
    subst ev; subst ez
    have t := (s1.trans s2).trans s3
    obtain ⟨vs, h2, h3⟩ := l.up t
    refine ⟨q, vs, i, j, rfl, rfl, h2, by rw [h3.length]; exact hj, k _ ((But.of t).trans .upd) ⟨_, upd_same, ?_⟩⟩
    exact (h3.up (tk_lst h2)).set (Rep.keep (tk_lst h2) (Rep.keep (tk_of (s2.trans s3)) r1)) j))
/-- n += e (ints) -/
theorem saug (i : Nat) {y : Str} {py : Pos} {x z : Int} (nd : X.N.Nodup) (hv : σ[i]? = some (some (.int z))) (he : Ex X σ H e x) (k : ∀ H', Same H H' → WS X rest D (σ.set i (some (.int (z + x)))) H')
    (hi : X.N[i]? = some y := by rfl) (hx : Loc X.env.scope y := by first | exact Or.inl rfl | exact Or.inr rfl)
    (hf : X.fn y = true ∨ X.env.scope.names.lookup y = some .local := by first | exact .inl rfl | exact .inr rfl) : WS X (.AugAssign (.Name y py) .Add e pos :: rest) D σ H :=
  wcons (w1 (ps_aug nd hi hx (lzE e) ip_add hf) ⟨_, hv, he H (.refl H) _ fun v H' s r => ⟨z, x, rfl, r, k H' s⟩⟩)
/-- for -/
theorem sfor {S : Hp → Option Addr → Prop} {tg iter : Expr} {g : TG} {body : List Stmt} {xs : List α} (hc : X.calm = true) (hp : PassesOwn (model X.prog X.w) X.A X.env X.xe) (hi : XI X σ H tg iter S xs) (hg : PG X tg g)
    (k : ∀ Hb src, Same H Hb → S H src → (∀ p, src = some p → ∃ vs, Hb p = some (.lst vs)) → ∃ Pv : Nat → L2.St → Hp → Prop, Pv 0 σ Hb ∧ (∀ i σ1 H1, Pv i σ1 H1 → Kp Hb src H1) ∧
      (∀ (i : Nat) x σ1 H1, xs[i]? = some x → Pv i σ1 H1 → ∀ v H2, Same H1 H2 → Rep.rep H2 v x → g v σ1 H2 fun σ3 H3 => WS X body { nx := Pv (i + 1), ct := Pv (i + 1), bk := WS X rest D, rt := D.rt } σ3 H3) ∧
      ∀ σ1 H1, Pv xs.length σ1 H1 → WS X rest D σ1 H1) (hs : ∀ x, foldedSetIterable iter X.env x = pure x := by intro _; rfl) : WS X (.For tg iter body [] pos :: rest) D σ H :=
  wcons (w1 (ps_for hp hc (lzI X tg iter) hg (lzS body) hs) (hi H (.refl H) _ fun J Hb src s1 sc it => by
    obtain ⟨Pv, h0, hk, st, dn⟩ := k Hb src s1 sc it.there
    refine ⟨fun i m σ H => m = xs.length - i ∧ i ≤ xs.length ∧ Pv i σ H, ⟨_, rfl, Nat.zero_le _, h0⟩, ?_⟩
    rintro i m σ1 H1 ⟨rfl, hi, p⟩
    have kp := hk i σ1 H1 p
    by_cases hlt : i < xs.length
    · have hx : xs[i]? = some xs[i] := List.getElem?_eq_getElem hlt
      obtain ⟨g1, g2⟩ := it.go i _ H1 hx kp
      refine .inr ⟨g1, Pv (i + 1), fun σ' H' p' => ⟨xs.length - (i + 1), by omega, rfl, hlt, p'⟩, fun v H2 y => ?_⟩
      obtain ⟨s3, r3⟩ := g2 v H2 y
      exact st i _ σ1 H1 hx p v H2 s3 r3
    · have e : i = xs.length := by omega
      subst e
      exact .inl ⟨it.stop H1 kp, dn σ1 H1 p⟩))
/-- while -/
theorem swhile {body : List Stmt} (hp : PassesOwn (model X.prog X.w) X.A X.env X.xe) (Pv : L2.St → Hp → Prop) (μ : L2.St → Hp → Nat) (t : L2.St → Hp → Bool) (h0 : Pv σ H)
    (hc : ∀ σ1 H1, Pv σ1 H1 → ET X σ1 H1 c (t σ1 H1))
    (st : ∀ σ1 H1, Pv σ1 H1 → t σ1 H1 = true → ∀ H2, Same H1 H2 → WS X body { nx := fun σ' H' => Pv σ' H' ∧ μ σ' H' < μ σ1 H1, ct := fun σ' H' => Pv σ' H' ∧ μ σ' H' < μ σ1 H1, bk := WS X rest D, rt := D.rt } σ1 H2)
    (dn : ∀ σ1 H1, Pv σ1 H1 → t σ1 H1 = false → ∀ H2, Same H1 H2 → WS X rest D σ1 H2) : WS X (.While c body [] pos :: rest) D σ H :=
  wcons (w1 (ps_while hp (lzT c) (lzS body)) (by
    refine ⟨fun m σ H => m = μ σ H ∧ Pv σ H, ⟨_, rfl, h0⟩, ?_⟩
    rintro m σ1 H1 ⟨rfl, p⟩
    refine hc σ1 H1 p H1 (.refl H1) _ fun H2 s2 => ?_
    cases ht : t σ1 H1 with
    | true =>
      rw [if_pos rfl]
      exact ⟨_, fun σ' H' ⟨p', l⟩ => ⟨_, l, rfl, p'⟩, st σ1 H1 p ht H2 s2⟩
    | false =>
      rw [if_neg Bool.false_ne_true]
      exact dn σ1 H1 p ht H2 s2))
end
/-! ### calls of the text's own defs -/
/-- a def of the text that keeps a promise -/
structure Cal (P : Program) (w : World) (K : PySem.W.Frag) (mg : Str → Option Value) (base : Heap) (k : Nat) (x : Str) (ps : List Str) (sp : Sp) : Prop where
  ex : ∃ (f : Addr) (fd : FuncData), FnOk P w K mg base CX0 k f fd ps sp ∧ mg x = some (.ref f) ∧ PySem.W.keepIn K (.ref f) = true ∧ Binds K fd ps []
abbrev CalX (X : Cx) (k : Nat) (x : Str) (ps : List Str) (sp : Sp) : Prop := Cal X.prog X.w X.K X.mg X.base k x ps sp
section
variable {X : Cx} {σ : L2.St} {H : Hp} {α β γ δ ε : Type} [Rep α] [Rep β] [Rep γ] [Rep δ] [Rep ε] {a b c d : Expr} {pos p : Pos} {k : Nat} {x : Str} {ps : List Str} {sp : Sp}
/-- the arguments, then the promise -/
theorem ecall1 {R1 R : Hp → Hp → V → Prop} (C : CalX X k x ps sp) (hr : Room k X.A) (ha : EV X σ H a R1)
    (h : ∀ v H1 H2, Same H H1 → Same H1 H2 → R1 H1 H2 v → ∀ Q : VK, (∀ u H3, Same H1 H3 → R H1 H3 u → Q u H3) → sp [v] H2 Q E0) (hg : Gl X x := by rfl) (na : Ns X a := by intro _; rfl) (hdb : (x == ("__debug__" : Str)) = false := by decide) : EV X σ H (.Call (.Name x p) [a] [] pos) R := fun H1 s Q q => by
  obtain ⟨f, fd, F, m, kp, b⟩ := C.ex
  exact we (pe_call F hr hg m kp b .nil pass0 (pa_cons (lzE a) pa_nil (na _)) hdb (na _) rfl) (ha H1 s _ fun v H2 s2 r2 => h v H1 H2 s s2 r2 Q fun u H3 s3 r3 => q u H3 s3 r3)
theorem ecall2 {R1 R2 R : Hp → Hp → V → Prop} (C : CalX X k x ps sp) (hr : Room k X.A) (ha : EV X σ H a R1) (hb : EV X σ H b R2)
    (h : ∀ v u H1 H2 H3, Same H H1 → Same H1 H2 → R1 H1 H2 v → Same H2 H3 → R2 H2 H3 u → ∀ Q : VK, (∀ z H4, Same H1 H4 → R H1 H4 z → Q z H4) → sp [v, u] H3 Q E0) (hg : Gl X x := by rfl) (na : Ns X a := by intro _; rfl) (nb : Ns X b := by intro _; rfl) (hdb : (x == ("__debug__" : Str)) = false := by decide) :
    EV X σ H (.Call (.Name x p) [a, b] [] pos) R := fun H1 s Q q => by
  obtain ⟨f, fd, F, m, kp, bb⟩ := C.ex
  exact we (pe_call F hr hg m kp bb .nil pass0 (pa_cons (lzE a) (pa_cons (lzE b) pa_nil (nb _)) (na _)) hdb (na _) (one_any nb)) (ha H1 s _ fun v H2 s2 r2 => hb H2 (s.trans s2) _ fun u H3 s3 r3 => h v u H1 H2 H3 s s2 r2 s3 r3 Q fun z H4 s4 r4 => q z H4 s4 r4)
theorem two_any {b c : Expr} {pos : Pos} (nb : Ns X b) (nc : Ns X c) : (backTo pos (starEach [b, c] X.env)).any (·.1) = false := by
  rw [nb [c], nc []]; rfl
theorem three_any {b c d : Expr} {pos : Pos} (nb : Ns X b) (nc : Ns X c) (nd : Ns X d) : (backTo pos (starEach [b, c, d] X.env)).any (·.1) = false := by
  rw [nb [c, d], nc [d], nd []]; rfl
theorem ecall3 {R1 R2 R3 R : Hp → Hp → V → Prop} (C : CalX X k x ps sp) (hr : Room k X.A) (ha : EV X σ H a R1) (hb : EV X σ H b R2) (hc : EV X σ H c R3)
    (h : ∀ v u z H1 H2 H3 H4, Same H H1 → Same H1 H2 → R1 H1 H2 v → Same H2 H3 → R2 H2 H3 u → Same H3 H4 → R3 H3 H4 z → ∀ Q : VK, (∀ y H5, Same H1 H5 → R H1 H5 y → Q y H5) → sp [v, u, z] H4 Q E0) (hg : Gl X x := by rfl) (na : Ns X a := by intro _; rfl) (nb : Ns X b := by intro _; rfl) (nc : Ns X c := by intro _; rfl) (hdb : (x == ("__debug__" : Str)) = false := by decide) :
    EV X σ H (.Call (.Name x p) [a, b, c] [] pos) R := fun H1 s Q q => by
  obtain ⟨f, fd, F, m, kp, bb⟩ := C.ex
  exact we (pe_call F hr hg m kp bb .nil pass0 (pa_cons (lzE a) (pa_cons (lzE b) (pa_cons (lzE c) pa_nil (nc _)) (nb _)) (na _)) hdb (na _) (two_any nb nc))
    (ha H1 s _ fun v H2 s2 r2 => hb H2 (s.trans s2) _ fun u H3 s3 r3 => hc H3 ((s.trans s2).trans s3) _ fun z H4 s4 r4 => h v u z H1 H2 H3 H4 s s2 r2 s3 r3 s4 r4 Q fun y H5 s5 r5 => q y H5 s5 r5)
/-! promises of defs that leave all as it is -/
def sp1 (pre : α → Prop) (f : α → β) : Sp := fun vs H Q _ => ∃ v x, vs = [v] ∧ Rep.rep H v x ∧ pre x ∧ ∀ u H', Same H H' → Rep.rep H' u (f x) → Q u H'
def sp2 (pre : α → β → Prop) (f : α → β → γ) : Sp := fun vs H Q _ => ∃ v u x y, vs = [v, u] ∧ Rep.rep H v x ∧ Rep.rep H u y ∧ pre x y ∧ ∀ z H', Same H H' → Rep.rep H' z (f x y) → Q z H'
def sp3 (pre : α → β → γ → Prop) (f : α → β → γ → δ) : Sp := fun vs H Q _ => ∃ v u z x y t, vs = [v, u, z] ∧ Rep.rep H v x ∧ Rep.rep H u y ∧ Rep.rep H z t ∧ pre x y t ∧ ∀ r H', Same H H' → Rep.rep H' r (f x y t) → Q r H'
def sp1L (pre : α → Prop) (f : α → List β) : Sp := fun vs H Q _ => ∃ v x, vs = [v] ∧ Rep.rep H v x ∧ pre x ∧ ∀ q H', Same H H' → H q = none → LsR H' q (f x) → Q (.ref q) H'
def sp2L (pre : α → β → Prop) (f : α → β → List γ) : Sp := fun vs H Q _ => ∃ v u x y, vs = [v, u] ∧ Rep.rep H v x ∧ Rep.rep H u y ∧ pre x y ∧ ∀ q H', Same H H' → H q = none → LsR H' q (f x y) → Q (.ref q) H'
def sp3L (pre : α → β → γ → Prop) (f : α → β → γ → List δ) : Sp := fun vs H Q _ => ∃ v u z x y t, vs = [v, u, z] ∧ Rep.rep H v x ∧ Rep.rep H u y ∧ Rep.rep H z t ∧ pre x y t ∧ ∀ q H', Same H H' → H q = none → LsR H' q (f x y t) → Q (.ref q) H'
theorem xc1 {pre : α → Prop} {f : α → β} {t : α} (C : CalX X k x ps (sp1 pre f)) (hr : Room k X.A) (ha : Ex X σ H a t) (hp : pre t) (hg : Gl X x := by rfl) (na : Ns X a := by intro _; rfl) (hdb : (x == ("__debug__" : Str)) = false := by decide) : Ex X σ H (.Call (.Name x p) [a] [] pos) (f t) :=
  ecall1 C hr ha (fun v H1 H2 _ s2 r Q q => ⟨v, t, rfl, r, hp, fun u H3 s3 r3 => q u H3 (s2.trans s3) r3⟩) hg na hdb
theorem xc2 {pre : α → β → Prop} {f : α → β → γ} {t : α} {y : β} (C : CalX X k x ps (sp2 pre f)) (hr : Room k X.A) (ha : Ex X σ H a t) (hb : Ex X σ H b y) (hp : pre t y) (hg : Gl X x := by rfl) (na : Ns X a := by intro _; rfl) (nb : Ns X b := by intro _; rfl) (hdb : (x == ("__debug__" : Str)) = false := by decide) :
    Ex X σ H (.Call (.Name x p) [a, b] [] pos) (f t y) :=
  ecall2 C hr ha hb (fun v u H1 H2 H3 _ s2 r2 s3 r3 Q q => ⟨v, u, t, y, rfl, Rep.up s3 r2, r3, hp, fun z H4 s4 r4 => q z H4 ((s2.trans s3).trans s4) r4⟩) hg na nb hdb
theorem xc3 {pre : α → β → γ → Prop} {f : α → β → γ → δ} {t : α} {y : β} {z : γ} (C : CalX X k x ps (sp3 pre f)) (hr : Room k X.A) (ha : Ex X σ H a t) (hb : Ex X σ H b y) (hc : Ex X σ H c z) (hp : pre t y z) (hg : Gl X x := by rfl) (na : Ns X a := by intro _; rfl) (nb : Ns X b := by intro _; rfl) (nc : Ns X c := by intro _; rfl)
    (hdb : (x == ("__debug__" : Str)) = false := by decide) : Ex X σ H (.Call (.Name x p) [a, b, c] [] pos) (f t y z) :=
  ecall3 C hr ha hb hc (fun v u w H1 H2 H3 H4 _ s2 r2 s3 r3 s4 r4 Q q => ⟨v, u, w, t, y, z, rfl, Rep.up (s3.trans s4) r2, Rep.up s4 r3, r4, hp, fun r H5 s5 r5 => q r H5 (((s2.trans s3).trans s4).trans s5) r5⟩) hg na nb nc hdb
theorem lc1 {pre : α → Prop} {f : α → List β} {t : α} (C : CalX X k x ps (sp1L pre f)) (hr : Room k X.A) (ha : Ex X σ H a t) (hp : pre t) (hg : Gl X x := by rfl) (na : Ns X a := by intro _; rfl) (hdb : (x == ("__debug__" : Str)) = false := by decide) : EL X σ H (.Call (.Name x p) [a] [] pos) (f t) :=
  ecall1 C hr ha (fun v H1 H2 _ s2 r Q q => ⟨v, t, rfl, r, hp, fun u H3 s3 n3 r3 => q _ H3 (s2.trans s3) ⟨u, rfl, s2.free n3, r3⟩⟩) hg na hdb
theorem lc2 {pre : α → β → Prop} {f : α → β → List γ} {t : α} {y : β} (C : CalX X k x ps (sp2L pre f)) (hr : Room k X.A) (ha : Ex X σ H a t) (hb : Ex X σ H b y) (hp : pre t y) (hg : Gl X x := by rfl) (na : Ns X a := by intro _; rfl) (nb : Ns X b := by intro _; rfl) (hdb : (x == ("__debug__" : Str)) = false := by decide) :
    EL X σ H (.Call (.Name x p) [a, b] [] pos) (f t y) :=
  ecall2 C hr ha hb (fun v u H1 H2 H3 _ s2 r2 s3 r3 Q q => ⟨v, u, t, y, rfl, Rep.up s3 r2, r3, hp, fun z H4 s4 n4 r4 => q _ H4 ((s2.trans s3).trans s4) ⟨z, rfl, (s2.trans s3).free n4, r4⟩⟩) hg na nb hdb
theorem lc3 {pre : α → β → γ → Prop} {f : α → β → γ → List δ} {t : α} {y : β} {z : γ} (C : CalX X k x ps (sp3L pre f)) (hr : Room k X.A) (ha : Ex X σ H a t) (hb : Ex X σ H b y) (hc : Ex X σ H c z) (hp : pre t y z) (hg : Gl X x := by rfl) (na : Ns X a := by intro _; rfl) (nb : Ns X b := by intro _; rfl) (nc : Ns X c := by intro _; rfl)
    (hdb : (x == ("__debug__" : Str)) = false := by decide) : EL X σ H (.Call (.Name x p) [a, b, c] [] pos) (f t y z) :=
  ecall3 C hr ha hb hc (fun v u w H1 H2 H3 H4 _ s2 r2 s3 r3 s4 r4 Q q => ⟨v, u, w, t, y, z, rfl, Rep.up (s3.trans s4) r2, Rep.up s4 r3, r4, hp, fun r H5 s5 n5 r5 => q _ H5 (((s2.trans s3).trans s4).trans s5) ⟨r, rfl, ((s2.trans s3).trans s4).free n5, r5⟩⟩) hg na nb nc hdb
end
/-! targets of loops -/
theorem gpair {α β : Type} [Rep α] [Rep β] {K : PySem.W.Frag} {i j : Nat} {v : V} {x : α × β} {σ : L2.St} {H : Hp} {Q : L2.St → Hp → Prop} (r : Rep.rep H v x) (q : ∀ v1 v2, Rep.rep H v1 x.1 → Rep.rep H v2 x.2 → Q ((σ.set i (some v1)).set j (some v2)) H) :
    gTup K 2 (gCons (gName i) (gCons (gName j) gNil)) v σ H Q := by
  obtain ⟨a, v1, v2, rfl, h, r1, r2⟩ := r
  exact ⟨a, [v1, v2], rfl, .of h, rfl, v1, [v2], rfl, v2, [], rfl, rfl, q v1 v2 r1 r2⟩
/-- a loop that fills a list of its own: what stays -/
structure Fill {α : Type} [Rep α] (H0 Hb : Hp) (p : Addr) (xs : List α) (H : Hp) : Prop where
  same : Same H0 H
  tk : TK Hb H
  ls : LsR H p xs
theorem Fill.kp {α : Type} [Rep α] {H0 Hb H : Hp} {p : Addr} {xs : List α} (h : Fill H0 Hb p xs H) : Kp Hb none H := ⟨h.tk, fun _ e => nomatch e⟩
theorem Fill.up {α : Type} [Rep α] {H0 Hb H H' : Hp} {p : Addr} {xs : List α} (h : Fill H0 Hb p xs H) (s : Same H H') : Fill H0 Hb p xs H' := ⟨h.same.trans s, h.tk.trans (tk_of s), h.ls.up s⟩
theorem Fill.put {α : Type} [Rep α] {H0 Hb H H' : Hp} {p : Addr} {xs ys : List α} (h : Fill H0 Hb p xs H) (n : H0 p = none) (t : But p H H') (l : LsR H' p ys) : Fill H0 Hb p ys H' := by
  obtain ⟨vs, h1, _⟩ := h.ls
  exact ⟨t.same h.same n, h.tk.trans (t.tk h1), l⟩
end Nh
set_option Elab.async false
set_option linter.all false
set_option maxRecDepth 100000
namespace Nh
open PySem PySem.Spec PyProof.Rows L2
/-! ### more rules -/
theorem divw_ok {i j : Int} {a : Nat} (h0 : 0 < j) (h : j.natAbs < 2 ^ a) (ha : a ≤ 9000) : CDivW i j := by
  refine ⟨h0, ?_⟩
  exact (Nat.log2_lt (by omega)).mpr (Nat.lt_of_lt_of_le h (Nat.pow_le_pow_right (by decide) ha))
theorem Kp.put {Hb H H' : Hp} {src : Option Addr} {q : Addr} {vs : List V} (k : Kp Hb src H) (t : But q H H') (h : H q = some (.lst vs)) (n : ∀ p, src = some p → p ≠ q ∧ ∃ us, Hb p = some (.lst us)) : Kp Hb src H' := ⟨k.1.trans (t.tk h), fun p e => by
  obtain ⟨n1, us, n2⟩ := n p e
  rw [n2]
  exact t p _ n1 ((k.2 p e).trans n2)⟩
theorem Kp.up {Hb H H' : Hp} {src : Option Addr} (k : Kp Hb src H) (s : Same H H') (n : ∀ p, src = some p → ∃ us, Hb p = some (.lst us)) : Kp Hb src H' := ⟨k.1.trans (tk_of s), fun p e => by
  obtain ⟨us, h⟩ := n p e
  rw [h]
  exact s p _ ((k.2 p e).trans h)⟩
section
variable {X : Cx} {σ : L2.St} {H : Hp} {D : Ends} {rest : List Stmt} {α β γ : Type} [Rep α] [Rep β] [Rep γ] {e a b c : Expr} {pos p : Pos}
/-- while, with what is told beside -/
theorem swhileG {G : Type} {body : List Stmt} (hp : PassesOwn (model X.prog X.w) X.A X.env X.xe) (Pv : G → L2.St → Hp → Prop) (μ : G → Nat) (t : G → Bool) (g0 : G) (h0 : Pv g0 σ H)
    (hc : ∀ g σ1 H1, Pv g σ1 H1 → ET X σ1 H1 c (t g))
    (st : ∀ g σ1 H1, Pv g σ1 H1 → t g = true → ∀ H2, Same H1 H2 → WS X body { nx := fun σ' H' => ∃ g', Pv g' σ' H' ∧ μ g' < μ g, ct := fun σ' H' => ∃ g', Pv g' σ' H' ∧ μ g' < μ g, bk := WS X rest D, rt := D.rt } σ1 H2)
    (dn : ∀ g σ1 H1, Pv g σ1 H1 → t g = false → ∀ H2, Same H1 H2 → WS X rest D σ1 H2) : WS X (.While c body [] pos :: rest) D σ H :=
  wcons (w1 (ps_while hp (lzT c) (lzS body)) (by
    refine ⟨fun m σ H => ∃ g, m = μ g ∧ Pv g σ H, ⟨_, g0, rfl, h0⟩, ?_⟩
    rintro m σ1 H1 ⟨g, rfl, p⟩
    refine hc g σ1 H1 p H1 (.refl H1) _ fun H2 s2 => ?_
    cases ht : t g with
    | true =>
      rw [if_pos rfl]
      exact ⟨_, fun σ' H' ⟨g', p', l⟩ => ⟨_, l, g', rfl, p'⟩, st g σ1 H1 p ht H2 s2⟩
    | false =>
      rw [if_neg Bool.false_ne_true]
      exact dn g σ1 H1 p ht H2 s2))
/-- is None, is not None of a value told as such -/
theorem tisNy {R : Hp → Hp → V → Prop} {j pos'} (ha : EV X σ H a R) (h : ∀ H1 H2 v, R H1 H2 v → v = .non) : ET X σ H (.Compare a [.Is] [.Constant .none j pos'] pos) true := fun H1 s Q q =>
  wt (pt_cmp (pc_isN (lzE a))) (ha H1 s _ fun v H' s' r => ⟨_, rfl, by rw [h _ _ _ r]; exact q _ s'⟩)
theorem tisNn {R : Hp → Hp → V → Prop} {j pos'} (ha : EV X σ H a R) (h : ∀ H1 H2 v, R H1 H2 v → v ≠ .non) : ET X σ H (.Compare a [.Is] [.Constant .none j pos'] pos) false := fun H1 s Q q =>
  wt (pt_cmp (pc_isN (lzE a))) (ha H1 s _ fun v H' s' r => ⟨_, rfl, by rw [decide_eq_false (h _ _ _ r)]; exact q _ s'⟩)
/-- an expression for its effect -/
theorem sexprW (h : WE X e σ H fun _ H' => WS X rest D σ H') (hs : swapsWith e none pos.line X.env = pure false := by rfl) : WS X (.Expr e pos :: rest) D σ H := wcons (w1 (ps_expr (lzE e) hs) h)
theorem ssetW (i : Nat) {y : Str} {py : Pos} (nd : X.N.Nodup) (h : WE X e σ H fun v H' => WS X rest D (σ.set i (some v)) H')
    (hi : X.N[i]? = some y := by rfl) (hx : Loc X.env.scope y := by first | exact Or.inl rfl | exact Or.inr rfl) (hs : swapsWith e (some (.Name y py)) pos.line X.env = pure false := by rfl)
    (hf : X.fn y = true ∨ X.env.scope.names.lookup y = some .local := by first | exact .inl rfl | exact .inr rfl) : WS X (.Assign [.Name y py] e pos :: rest) D σ H :=
  wcons (w1 (ps_set nd hi hx (lzE e) hs hf) h)
theorem sretW (h : WE X e σ H D.rt) : WS X (.Return (some e) pos :: rest) D σ H := wcons (w1 (ps_ret (lzE e)) h)
theorem sifW {ss ss' : List Stmt} (h : WT X c σ H fun b H' => if b = true then WS X ss { D with nx := WS X rest D } σ H' else WS X ss' { D with nx := WS X rest D } σ H') : WS X (.If c ss ss' pos :: rest) D σ H :=
  wcons (w1 (ps_if (lzT c) (lzS ss) (lzS ss')) h)
/-- four arguments -/
theorem four_any {a b c d : Expr} {pos : Pos} (na : Ns X a) (nb : Ns X b) (nc : Ns X c) (nd : Ns X d) : (backTo pos (starEach [a, b, c, d] X.env)).any (·.1) = false := by
  rw [na [b, c, d], nb [c, d], nc [d], nd []]; rfl
theorem wcall4 {k : Nat} {x : Str} {ps : List Str} {sp : Sp} {d : Expr} (C : CalX X k x ps sp) (hr : Room k X.A) {Q : VK}
    (h : WE X a σ H fun v1 H1 => WE X b σ H1 fun v2 H2 => WE X c σ H2 fun v3 H3 => WE X d σ H3 fun v4 H4 => sp [v1, v2, v3, v4] H4 Q E0) (hg : Gl X x := by rfl) (na : Ns X a := by intro _; rfl) (nb : Ns X b := by intro _; rfl) (nc : Ns X c := by intro _; rfl) (nd : Ns X d := by intro _; rfl)
    (hdb : (x == ("__debug__" : Str)) = false := by decide) : WE X (.Call (.Name x p) [a, b, c, d] [] pos) σ H Q := by
  obtain ⟨f, fd, F, m, kp, bb⟩ := C.ex
  exact we (pe_call F hr hg m kp bb .nil pass0 (pa_cons (lzE a) (pa_cons (lzE b) (pa_cons (lzE c) (pa_cons (lzE d) pa_nil (nd _)) (nc _)) (nb _)) (na _)) hdb (na _) (three_any nb nc nd)) h
end
end Nh
set_option Elab.async false
set_option linter.all false
set_option maxRecDepth 100000
namespace Nh
open PySem PySem.Spec PyProof.Rows L2
/-! ### lists as values; chains -/
section
variable {X : Cx} {σ : L2.St} {H : Hp} {D : Ends} {rest : List Stmt} {α β γ : Type} [Rep α] [Rep β] [Rep γ] {e a b c : Expr} {pos p : Pos}
/-- a list object, old or new -/
abbrev EO {α : Type} [Rep α] (X : Cx) (σ : L2.St) (H : Hp) (e : Expr) (xs : List α) : Prop := EV X σ H e fun _ H' v => ∃ p, v = .ref p ∧ LsR H' p xs
theorem EL.o {xs : List α} (h : EL X σ H e xs) : EO X σ H e xs := fun H1 s Q q => h H1 s Q fun v H' s' ⟨p, e, _, l⟩ => q v H' s' ⟨p, e, l⟩
theorem CL.o {xs : List α} (h : CL X σ H e (fun H1 H' v => ∃ q, v = .ref q ∧ H1 q = none ∧ LsR H' q xs)) : EO X σ H e xs := EL.o h.ev
theorem xo (i : Nat) {x : Str} {t : Addr} {xs : List α} (l : LsR H t xs) (hs : σ[i]? = some (some (.ref t)) := by rfl) (hN : X.N[i]? = some x := by rfl)
    (hv : Vis X.env.scope x := by first | exact Or.inl rfl | exact Or.inr (Or.inl rfl) | exact Or.inr (Or.inr rfl)) (hd : (x == ("__debug__" : Str)) = false := by decide)
    (hcd : (x == ("__classdict__" : Str)) = false := by decide) : EO X σ H (.Name x pos) xs := fun H1 s Q q =>
  we (pe_var hN hv hd hcd) ⟨_, hs, q _ _ (.refl _) ⟨t, rfl, l.up s⟩⟩
theorem EO.as {x y : List α} (h : EO X σ H e x) (q : x = y) : EO X σ H e y := q ▸ h
theorem A2.flat {vs : List V} {xs : List α} {R : V → α → Prop} (h : A2 R vs xs) : ∀ k : Nat, A2 R (List.replicate k vs).flatten (List.replicate k xs).flatten
  | 0 => .nil
  | k + 1 => by
    rw [List.replicate_succ, List.replicate_succ, List.flatten_cons, List.flatten_cons]
    exact h.append (A2.flat h k)
/-- xs * k -/
theorem lrep {xs : List α} {k : Nat} (ha : EO X σ H a xs) (hb : Ex X σ H b (k : Int)) (hk : k < 2 ^ 62) (hz : xs.length * k ≤ sizeLine) : EL X σ H (.BinOp a .Mult b pos) (List.replicate k xs).flatten := fun H1 s Q q =>
  we (pe_op op_rep (lzE a) (lzE b)) (ha H1 s _ fun v H2 s2 ⟨p, ev, l⟩ => hb H2 (s.trans s2) _ fun u H3 s3 r3 => by
    subst ev
    have e3 : u = V.int (k : Int) := r3
    subst e3
    obtain ⟨vs, h1, h2⟩ := l.up s3
    refine ⟨p, (k : Int), vs, rfl, rfl, h1, by omega, by omega, by rw [Int.toNat_natCast, h2.length]; exact hz, fun t ht => ?_⟩
    rw [Int.toNat_natCast]
    exact q _ _ ((s2.trans s3).trans (same_new ht)) ⟨t, rfl, (s2.trans s3).free ht, _, upd_same, (h2.flat k).up (tk_of (same_new ht))⟩)
theorem flat_one {x : α} (k : Nat) : (List.replicate k [x]).flatten = List.replicate k x := by
  induction k with
  | zero => rfl
  | succ k ih => rw [List.replicate_succ, List.flatten_cons, ih]; rfl
/-- xs + ys -/
theorem lcat {xs ys : List α} (ha : EO X σ H a xs) (hb : EO X σ H b ys) (hz : xs.length + ys.length ≤ sizeLine) : EL X σ H (.BinOp a .Add b pos) (xs ++ ys) := fun H1 s Q q =>
  we (pe_op op_cat (lzE a) (lzE b)) (ha H1 s _ fun v H2 s2 ⟨p, ev, l⟩ => hb H2 (s.trans s2) _ fun u H3 s3 ⟨p', eu, l'⟩ => by
    subst ev; subst eu
    obtain ⟨vs, h1, h2⟩ := l.up s3
    obtain ⟨us, h3, h4⟩ := l'
    refine ⟨p, p', vs, us, rfl, rfl, h1, h3, by rw [h2.length, h4.length]; exact hz, fun t ht => ?_⟩
    exact q _ _ ((s2.trans s3).trans (same_new ht)) ⟨t, rfl, (s2.trans s3).free ht, _, upd_same, (h2.append h4).up (tk_of (same_new ht))⟩)
/-- len of a list object -/
theorem xlenO {xs : List α} (hm : X.mg "len" = none) (ha : EO X σ H a xs) (na : Ns X a := by intro _; rfl) (hg : Gl X "len" := by rfl) : Ex X σ H (.Call (.Name "len" p) [a] [] pos) (xs.length : Int) :=
  e1B call_len_seq hg hm PySem.boot_len na ha fun H1 H2 v s1 s2 r Q q => by
    obtain ⟨t, rfl, vs, h1, h2⟩ := r
    exact ⟨t, vs, rfl, .inl (.of h1), by rw [h2.length]; exact q _ _ s2 rfl⟩
/-- tuple(..) of a list object -/
theorem xtupO {xs : List α} (hm : X.mg "tuple" = none) (ha : EO X σ H a xs) (na : Ns X a := by intro _; rfl) (hg : Gl X "tuple" := by rfl) : Ex X σ H (.Call (.Name "tuple" p) [a] [] pos) xs :=
  e1T call_tuple_of hg hm boot_tuple na ha fun H1 H2 v _ s2 r Q q => by
    obtain ⟨t, rfl, vs, h1, h2⟩ := r
    exact ⟨t, vs, rfl, .inl ⟨.of h1, fun l hl => q _ _ (s2.trans (same_new hl)) ⟨l, vs, rfl, upd_same, h2.up (tk_of (same_new hl))⟩⟩⟩
/-- a list object's item -/
theorem xilO {xs : List α} {i : Int} {y : α} (ha : EO X σ H a xs) (hb : Ex X σ H b i) (h : atI xs i = some y) (hs : PlainIx b := by intro _ _; rfl) : Ex X σ H (.Subscript a b pos) y := fun H1 s Q q =>
  we (pe_ix ix_list (lzE a) (lzE b) hs) (ha H1 s _ fun v H2 s2 ⟨t, ev, l⟩ => hb H2 (s.trans s2) _ fun u H3 s3 r3 => by
    subst ev
    obtain ⟨vs, hp, h2⟩ := l.up s3
    unfold atI at h
    rw [← h2.length] at h
    obtain ⟨j, hj, hx⟩ := Option.bind_eq_some_iff.mp h
    obtain ⟨z, hz, rz⟩ := h2.get hx
    exact ⟨t, vs, i, z, rfl, r3, .of hp, by unfold atI; rw [hj]; exact hz, q _ _ (s2.trans s3) rz⟩)
/-- what is walked: a list object -/
theorem wlstO {xs : List α} {tg : Expr} (ha : EO X σ H e xs) : XI X σ H tg e (fun H1 src => ∃ t, src = some t) xs := fun H1 s R q =>
  wi (pi_list (lzE e)) (ha H1 s _ fun v Hb s' ⟨t, ev, l⟩ => by
    subst ev
    obtain ⟨vs, h1, h2⟩ := id l
    exact ⟨t, rfl, ⟨vs, .of h1⟩, q _ Hb (some t) s' ⟨t, rfl⟩ (its_lst l)⟩)
/-- a ≤ b < c -/
theorem xchain {x y z : Int} (ha : Ex X σ H a x) (hb : Ex X σ H b y) (hc : Ex X σ H c z) (hm : lastMarks [.LtE, .Lt] [b, c] = false := by with_unfolding_all rfl) : Ex X σ H (.Compare a [.LtE, .Lt] [b, c] pos) (decide (x ≤ y) && decide (y < z)) := fun H1 s Q q =>
  we (pe_chain op_le op_lt (lzE a) (lzE b) (lzE c) hm) (ha H1 s _ fun v H2 s2 r2 => hb H2 (s.trans s2) _ fun u H3 s3 r3 => ⟨x, y, r2, r3, _, rfl, by
    cases h : decide (x ≤ y) with
    | true =>
      refine iteT (hc H3 ((s.trans s2).trans s3) _ fun t H4 s4 r4 => ⟨y, z, r3, r4, ?_⟩)
      rw [h, Bool.true_and] at q
      exact q _ _ ((s2.trans s3).trans s4) rfl
    | false =>
      rw [h, Bool.false_and] at q
      exact iteF (q _ _ (s2.trans s3) rfl)⟩)
/-- a name, for what follows -/
theorem wv (i : Nat) (v : V) {x : Str} {Q : VK} (q : Q v H) (hs : σ[i]? = some (some v) := by rfl) (hN : X.N[i]? = some x := by rfl)
    (hv : Vis X.env.scope x := by first | exact Or.inl rfl | exact Or.inr (Or.inl rfl) | exact Or.inr (Or.inr rfl)) (hd : (x == ("__debug__" : Str)) = false := by decide)
    (hcd : (x == ("__classdict__" : Str)) = false := by decide) : WE X (.Name x pos) σ H Q := we (pe_var hN hv hd hcd) ⟨v, hs, q⟩
end
end Nh
set_option Elab.async false
set_option linter.all false
set_option maxRecDepth 100000
namespace Nh
open PySem PySem.Spec PyProof.Rows L2
/-! ### t.index(k), sorted(..) -/
section
variable {prog : Program} {w : World} {A : Around} {E : Value → Shared → Prop} {s : Shared}
theorem lexI {b : Bool} {Q : Bool → Shared → Prop} : ∀ {xs ys : List Value} {ns ms : List Int} (i : Nat), IntsAre xs ns → IntsAre ys ms → ns.length = ms.length → Q (HT.lexLt ns ms) s → PySem.W.KatLex prog w A b false Q (xs.zip ys) i s
  | _, _, _, _, i, .nil, .nil, _, h => PySem.W.kat_nil h
  | _, _, _, _, i, .nil, .cons _ _ _, e, _ => nomatch e
  | _, _, _, _, i, .cons _ _ _, .nil, e, _ => nomatch e
  | _, _, _, _, i, .cons p t hx, .cons q u hy, e, h => by
    rw [HT.lexLt_cons] at h
    refine PySem.W.kat_cons (wpAny_eqBool_int ?_)
    by_cases c : p = q
    · rw [if_pos c] at h
      rw [show (p == q) = true by simp [c]]
      exact PySem.W.kat_yes (lexI (i + 1) hx hy (by simpa using e) h)
    · rw [if_neg c] at h
      rw [show (p == q) = false by simp [c]]
      exact PySem.W.kat_no (TS.oneLt_ints _ h)
/-- a tuple of d ints, told by k -/
def TkI (h : Heap) (d : Nat) (k : Value → List Int) (v : Value) : Prop := TS.TupInts h v (k v) ∧ (k v).length = d
theorem tk_firsts {h : Heap} {d : Nat} {k : Value → List Int} (hd : 1 ≤ d) : ∀ vs : List Value, (∀ v, v ∈ vs → TkI h d k v) → ∃ fs, PySem.W.KatTups h vs fs ∧ fs.length = vs.length ∧ ∀ f, f ∈ fs → ∃ n t, f = Value.int n t
  | [], _ => ⟨[], .nil, rfl, fun f hf => absurd hf List.not_mem_nil⟩
  | v :: vs, x => by
    obtain ⟨fs, h1, h2, h3⟩ := tk_firsts hd vs fun u hu => x u (List.mem_cons_of_mem _ hu)
    obtain ⟨⟨a, xs, rfl, ⟨o, ho, hc, n, hdt⟩, i⟩, hn⟩ := x v (List.mem_cons_self ..)
    have hl := i.length
    obtain ⟨f0, hf0⟩ := get_some (l := xs.toList) (i := 0) (by omega)
    obtain ⟨m, t, hy⟩ := i.all f0 (List.mem_of_getElem? hf0)
    refine ⟨f0 :: fs, .cons ho hc hdt (by simpa using hf0) h1, by rw [List.length_cons, List.length_cons, h2], fun f hf => ?_⟩
    rcases List.mem_cons.mp hf with z | z
    · exact ⟨m, t, z.trans hy⟩
    · exact h3 f z
where get_some {l : List Value} {i : Nat} (h : i < l.length) : ∃ x, l[i]? = some x := ⟨l[i], List.getElem?_eq_getElem h⟩
theorem tk_sortable {a : Addr} {vs : List Value} {d : Nat} {k : Value → List Int} (hd : 1 ≤ d) (h0 : 0 < vs.length) (hp : ∀ h', (∀ b o, b ≠ a → s.heap.get? b = some o → h'.get? b = some o) → ∀ v, v ∈ vs → TkI h' d k v) :
    SrtO.SortableO prog w A s a vs fun v u => HT.lexLt (k v) (k u) := by
  intro h' keep
  have hv := hp h' keep
  obtain ⟨fs, h1, h2, h3⟩ := tk_firsts hd vs hv
  refine ⟨tuples' true, fun Q E hq => PySem.W.kat_kind (T := .type "int") h1 (by omega) (fun f hm => ?_) (by rfl) (by
    rw [show (Value.type "int" != Value.type "tuple") = true by decide +kernel]
    exact hq), fun p q hm hm' => ?_⟩
  · obtain ⟨x, t, rfl⟩ := h3 f hm
    exact PySem.W.Looks.now
  · obtain ⟨⟨a1, xs, e1, ⟨o1, ho1, hc1, n1, hd1⟩, i1⟩, l1⟩ := hv _ hm
    obtain ⟨⟨a2, ys, e2, ⟨o2, ho2, hc2, n2, hd2⟩, i2⟩, l2⟩ := hv _ hm'
    have ee : (s.heap = s.heap) := rfl
    show wpAny (model prog w) A (keyLt' (tuples' true) p.1 q.1) (fun r s' => s' = { s with heap := h' } ∧ r = HT.lexLt (k p.1) (k q.1)) (fun _ _ => False) { s with heap := h' }
    generalize k p.1 = kp at *
    generalize k q.1 = kq at *
    rw [e1, e2]
    refine PySem.W.kat_lt ho1 hd1 ho2 hd2 ?_
    have s1 := i1.length
    have s2 := i2.length
    rw [Array.length_toList] at s1 s2
    rw [show decide (xs.size < ys.size) = false by rw [decide_eq_false_iff_not]; omega]
    exact lexI 0 i1 i2 (by omega) ⟨rfl, rfl⟩
end
/-- sorted(xs), tuples of d ints each -/
def rSortT (K : PySem.W.Frag) : List V → Hp → VK → Prop := fun vs H Q => ∃ (a : Addr) (xs : List V) (g : V → List Int) (d : Nat), vs = [V.ref a] ∧ SqL K H a xs ∧ 1 ≤ d ∧ (∀ x, x ∈ xs → ∃ t, x = V.ref t ∧ Rd H t (.tup ((g x).map V.int)) ∧ (g x).length = d) ∧
  ∀ ys p, ys.Perm xs → ys.Pairwise (fun x y => HT.lexLt (g y) (g x) = false) → H p = none → Q (.ref p) (upd H p (.lst ys))
theorem cr_sortT {X : Cx} : CallR X (.builtin "sorted") (rSortT X.K) := by
  intro pins s σ H vs us Q I r h
  obtain ⟨a, xs, g, d, rfl, hs, hd, hx, q⟩ := h
  obtain ⟨its, rv, hl, hz⟩ := I.list hs
  rw [Vals.ref1 r]
  obtain ⟨e1, e2⟩ := refs_back rv fun x m => by
    obtain ⟨t, e, _⟩ := hx x m
    exact ⟨t, e⟩
  have hin : ∀ v, v ∈ its → backV v ∈ xs := fun v hv => by rw [e1]; exact List.mem_map.mpr ⟨v, hv, rfl⟩
  have tk0 : ∀ h' : Heap, (∀ b o, s.heap.get? b = some o → h'.get? b = some o) → ∀ v, v ∈ its → TkI h' d (fun u => g (backV u)) v := fun h' kk v hv => by
    obtain ⟨t, et⟩ := e2 v hv
    obtain ⟨t', e', ht, hlen⟩ := hx _ (hin v hv)
    have ett : t' = t := by
      rw [et] at e'
      cases e'
      rfl
    subst ett
    obtain ⟨_, its2, r2, o, ho, hc, n, hdt⟩ := ht.ok I.hok
    exact ⟨⟨t', its2.toArray, et, ⟨o, kk _ _ ho, hc, n, hdt⟩, by simpa using r2.ints⟩, hlen⟩
  refine SrtO.sorted_ord (ltv := fun v u => HT.lexLt (g (backV v)) (g (backV u))) (NtL.swo_lexL fun u => g (backV u)) hl.isList (by rw [← rv.length]; exact hz) (fun h2 h1 a' ha kk => tk_sortable (s := { s with heap := h1 }) hd (by omega) fun h' kp => tk0 h' fun b o e => kp b o (kk b o e).1 (kk b o e).2) fun out o1 o2 => ?_
  have h3 : ∀ u, u ∈ out → ∃ a, u = Value.ref a := fun u hu => e2 u (o2.perm.mem_iff.mp hu)
  obtain ⟨n, hn⟩ := sortedAll_at s.heap its out.toArray
  have hpm : (out.map backV).Perm xs := by rw [e1]; exact o2.perm.map backV
  refine ⟨.ref _, upd H (s.heap.objs.size + 1) (.lst (out.map backV)), I.laid (t' := s.toks) (fun _ _ => sortedAll_old) (Nat.le_succ _) ⟨by rw [hpm.length_eq]; exact hz, out, n, vals_back h3, hn⟩, rfl, q _ _ hpm ?_ (I.hok.fresh (Nat.le_succ _))⟩
  exact List.pairwise_map.mpr o1
section
variable {prog : Program} {w : World} {A : Around} {E : Value → Shared → Prop} {s : Shared}
/-- what is collected from a tuple -/
theorem collect_tup' {l : Addr} {o : Obj} {n : Nat} {vs : List Value} {Q : List Value → Shared → Prop} (ho : s.heap.get? l = some o) (hc : o.cls = .type "tuple") (hd : o.data = .seq vs.toArray n) (hz : vs.length ≤ sizeLine)
    (h : Q vs { s with heap := (s.heap.push (seqObj "list" #[] 0)).update s.heap.objs.size (Obj.mapSeq (· ++ vs.toArray)) }) : wpAny (model prog w) A (collect (.ref l)) Q E s := by
  have e0 : (s.heap.push (seqObj "list" #[] 0)).get? s.heap.objs.size = some (seqObj "list" #[] 0) := Heap.get?_push_size _ rfl
  have e1 : (s.heap.push (seqObj "list" #[] 0)).get? l = some o := Heap.get?_push_of_some _ ho
  unfold collect
  refine wpAny_bind (wpAny_runValue (codeAny_builtin entry_proto_collect' ?_))
  show wpAny _ _ (newList [] >>= fun z => again (.builtin "list.__iadd__" ⟨[z, .ref l], []⟩)) _ _ s
  refine wpAny_bind (wpAny_newList (wpAny_pure ⟨Code.quiet_builtin _ (by decide +kernel), codeAny_builtin entry_list_iadd' ?_⟩))
  show wpAny _ _ (Builtin.List.listExtendWith (.ref s.heap.objs.size) (.ref l) (.ref s.heap.objs.size)) _ _ { s with heap := s.heap.push (seqObj "list" #[] 0) }
  unfold Builtin.List.listExtendWith
  refine wpAny_bind (wpAny_typeOf (T := "tuple") ⟨o, e1, hc⟩ ?_)
  have ht : (Value.type "tuple" == Value.type "tuple") = true := by rfl
  rw [if_pos (by rw [ht]; simp)]
  refine wpAny_bind (listItems_at e1 hd (wpAny_bind (listItems_at (xs := #[]) (n := 0) e0 rfl ?_)))
  rw [if_neg (by simp)]
  refine wpAny_bind (listUpdate_at (xs := #[]) (n := 0) e0 rfl ?_ (Nat.zero_le _) (by show (#[] ++ vs.toArray).size ≤ sizeLine + 1; rw [Array.size_append, List.size_toArray]; show 0 + vs.length ≤ _; omega))
  refine wpAny_pure ?_
  show wpAny (model prog w) A (load s.heap.objs.size >>= fun o => match o.data with
    | .seq xs _ => pure xs.toList
    | _ => unsupported "internal:collect") Q E { s with heap := (s.heap.push (seqObj "list" #[] 0)).update s.heap.objs.size (Obj.mapSeq (· ++ vs.toArray)) }
  refine wpAny_bind (wpAny_load (get?_update_seq e0 _) ?_)
  show wpAny _ _ (pure ((#[] : Array Value) ++ vs.toArray).toList) Q E _
  rw [show ((#[] : Array Value) ++ vs.toArray).toList = vs by simp]
  exact wpAny_pure h
end
/-- sorted(t), t a tuple of ints -/
def rSortTI (K : PySem.W.Frag) : List V → Hp → VK → Prop := fun vs H Q => ∃ (a : Addr) (ns : List Int), vs = [V.ref a] ∧ SqT K H a (ns.map V.int) ∧
  ∀ (ns' : List Int) (p : Addr), ns'.Perm ns → ns'.Pairwise (· ≤ ·) → H p = none → Q (.ref p) (upd H p (.lst (ns'.map V.int)))
theorem cr_sortTI {X : Cx} : CallR X (.builtin "sorted") (rSortTI X.K) := by
  intro pins s σ H vs us Q I r h
  obtain ⟨a, ns, rfl, hs, q⟩ := h
  obtain ⟨its, rv, ⟨o, ho, hc, n, hd⟩, hz⟩ := I.tuple hs
  rw [Vals.ref1 r]
  have hi := rv.ints
  have hln : its.length ≤ sizeLine := by rw [← rv.length]; exact hz
  refine Calls.call_function_entry kind_sorted plain_sorted entry_sorted (args_sorted1 _) ?_
  unfold Builtin.«sorted»
  refine wpAny_bind (m := checkCount "sorted" 1 1 _) (wpAny_pure ?_)
  refine wpAny_bind (collect_tup' ho hc hd hln ?_)
  refine wpAny_bind (wpAny_newList ?_ hln)
  have e0 : (s.heap.push (seqObj "list" #[] 0)).get? s.heap.objs.size = some (seqObj "list" #[] 0) := Heap.get?_push_size _ rfl
  generalize eh : (s.heap.push (seqObj "list" #[] 0)).update s.heap.objs.size (Obj.mapSeq (· ++ its.toArray)) = h1
  have sz1 : h1.objs.size = s.heap.objs.size + 1 := by rw [← eh, Heap.size_update, size_push']
  have k1 : ∀ b o, s.heap.get? b = some o → h1.get? b = some o := fun b o e => by
    rw [← eh, Heap.get?_update_ne _ _ _ _ (Nat.ne_of_lt (Heap.lt_size e))]
    exact Heap.get?_push_of_some _ e
  have hz1 : s.heap.objs.size ≤ h1.objs.size := by omega
  have hoL : (h1.push (seqObj "list" its.toArray 0)).get? h1.objs.size = some (seqObj "list" its.toArray 0) := Heap.get?_push_size _ rfl
  refine wpAny_bind (wpAny_holding (wpAny_call_entry slot_list_sort ⟨_, hoL, rfl⟩ entry_list_sort (SrtO.list_sort_ord (s := { s with heap := h1.push (seqObj "list" its.toArray 0) }) SrtO.swo_int hoL hln (fun h2 => SrtO.ints_sortable hi h2) fun out o1 o2 => ⟨_, rfl, ?_⟩) (args_list_sort _)))
  refine wpAny_pure ⟨_, rfl, ?_⟩
  obtain ⟨k1', k2, k3⟩ := SrtO.ints_out hi o1 o2
  obtain ⟨ep, he'⟩ := sortedHeap_at (vs := its) (out := out.toArray) hoL
  have hlen : ((out.map SrtO.iv).map V.int).length ≤ sizeLine := by
    rw [List.length_map, k2.length_eq]
    rw [List.length_map] at hz
    exact hz
  exact ⟨.ref _, upd H h1.objs.size (.lst ((out.map SrtO.iv).map V.int)), I.laid (t' := s.toks) (fun b o e => by
    have e1 := k1 b o e
    have lt := Heap.lt_size e1
    rw [sortedHeap_old (Nat.ne_of_lt lt) (by rw [size_push']; exact Nat.lt_succ_of_lt lt)]
    exact Heap.get?_push_of_some _ e1) hz1 ⟨hlen, out, ep, vals_of_ints k1', he'⟩, rfl, q _ _ k2 k3 (I.hok.fresh hz1)⟩
/-- t.index(k) -/
def rTix : V → List V → Hp → VK → Prop := fun x xs H Q => ∃ (a : Addr) (ns : List Int) (k : Int), x = .ref a ∧ xs = [.int k] ∧ H a = some (.tup (ns.map V.int)) ∧ k ∈ ns ∧ Q (.int (ns.idxOf k : Nat)) H
theorem mt_tix {X : Cx} : MtR X "tuple.index" rTix := by
  intro pins s σ H x xs v us Q I rx rs h
  obtain ⟨a, ns, k, rfl, rfl, ha, hk, q⟩ := h
  obtain rfl : v = Value.ref a := rx
  obtain ⟨u, rfl, t, rfl⟩ := vals1 rs
  obtain ⟨its, rv, pl, hz⟩ := I.tuple (.of ha)
  exact PySem.SeqAt.tuple_index_ints pl rv.ints hk ⟨.int (ns.idxOf k : Nat), H, I.tok _, ⟨_, rfl⟩, q⟩
/-! ### tuples known as objects -/
structure Col where
  xs : List Int
instance : DecidableEq Col := fun a b => decidable_of_iff (a.xs = b.xs) ⟨fun h => by cases a; cases b; cases h; rfl, fun h => by rw [h]⟩
instance : Rep Col := ⟨fun H v c => ∃ a o, v = .ref a ∧ H a = some (.frz o (.tup (c.xs.map V.int))) ∧ o.dict = none, fun t h => by
  obtain ⟨a, o, e, h1, h2⟩ := h
  exact ⟨a, o, e, t.f h1, h2⟩⟩
theorem cr_tupC {X : Cx} : CallR X (.type "tuple") (fun xs H Q => ∃ p ys, xs = [.ref p] ∧ SqL X.K H p ys ∧ ∀ l o, H l = none → o.dict = none → Q (.ref l) (upd H l (.frz o (.tup ys)))) := by
  intro pins s σ H xs us Q I r h
  obtain ⟨p, ys, rfl, hq, q⟩ := h
  obtain ⟨its, r', pl, hz⟩ := I.list hq
  rw [Vals.ref1 r]
  refine call_tuple_list pl.isList (fun h' kp => ?_) (by rw [List.size_toArray, ← r'.length]; exact hz)
  have I1 : Inv X pins σ H { s with heap := h' } := I.kept (t' := s.toks) kp
  exact ⟨.ref h'.objs.size, _, I1.laid (t' := s.toks) (o := .frz { cls := .type "tuple", data := .seq its.toArray } (.tup ys)) (fun b o e => Heap.get?_push_of_some _ e) (Nat.le_refl _) ⟨Heap.get?_push_size _ rfl, hz, its, r', IsTup.new _ _⟩, rfl, q _ _ (I1.hok.fresh (Nat.le_refl _)) rfl⟩
/-- t.index(k), t known as an object -/
def tTix (to ta : TE) : TE := fun σ H Q => to σ H fun x H1 => ∃ (a : Addr) (o : Obj) (ns : List Int), x = .ref a ∧ H1 a = some (.frz o (.tup (ns.map V.int))) ∧ o.dict = none ∧ ta σ H1 fun y H2 => ∃ k : Int, y = .int k ∧ H2 a = some (.frz o (.tup (ns.map V.int))) ∧ k ∈ ns ∧ Q (.int (ns.idxOf k : Nat)) H2
theorem rd_typ {X : Cx} {pins : List (Addr × Obj)} {σ : L2.St} {H : Hp} {s : Shared} {a : Addr} {o : Obj} {xs : List V} (I : Inv X pins σ H s) (h : H a = some (.frz o (.tup xs))) : s.heap.get? a = some o ∧ s.TypeIs (.ref a) "tuple" := by
  obtain ⟨e, _, its, _, o2, ho2, hc2, _⟩ := (show ObjOk X.prog X.w H s.heap a (.frz o (.tup xs)) from I.hok a _ h)
  exact ⟨e, ⟨o2, ho2, hc2⟩⟩
/-! as rules on data -/
section
variable {X : Cx} {σ : L2.St} {H : Hp} {α β γ : Type} [Rep α] [Rep β] [Rep γ] {a b e o : Expr} {pos p : Pos}
theorem xcol {xs : List Int} (hm : X.mg "tuple" = none) (ha : EL X σ H a xs) (na : Ns X a := by intro _; rfl) (hg : Gl X "tuple" := by rfl) : Ex X σ H (.Call (.Name "tuple" p) [a] [] pos) (Col.mk xs) :=
  e1T cr_tupC hg hm boot_tuple na ha fun H1 H2 v _ s2 r Q q => by
    obtain ⟨t, rfl, _, l⟩ := r
    exact ⟨t, _, rfl, .of (LsR.ints.mp l), fun l o hl ho => q _ _ (s2.trans (same_new hl)) ⟨l, o, rfl, upd_same, ho⟩⟩
end
end Nh
set_option Elab.async false
set_option linter.all false
set_option maxRecDepth 100000
namespace Nh
open PySem PySem.Spec PyProof.Rows L2
/-! ### rules for columns; == of lists -/
theorem pe_tix {X : Cx} {a o : Expr} {ta to : TE} {p1 p2 : Pos} (ho : PE X o to) (ha : PE X a ta) (na : Ns X a)
    (hb : attributeBase o "index" X.env (eval o X.env) = eval o X.env)
    (hfew : ((backTo p2 (starEach [a] X.env)).all (fun x => !x.1) && (backToKw p2 (keywordEach [] X.env)).all (fun x => x.1.isSome) && decide ([a].length + ([] : List Keyword).length + (if ([] : List Keyword).isEmpty then 0 else 1) < 30)) = true)
    (hline : (p1.endLine == p2.line) = true) : PE X (.Call (.Attribute o "index" p1) [a] [] p2) (tTix to ta) := by
  refine ⟨fun pins s σ H Q I h => ?_⟩
  refine wpAny_Call_method_late hb hfew hline rfl (thn (ho.run pins s σ H _ I h) fun v s1 ⟨x, H1, I1, r1, ad, ob, ns, ex, g1, gd, q1⟩ => ?_)
  subst ex
  obtain rfl : v = Value.ref ad := r1
  obtain ⟨f1, f2⟩ := rd_typ I1 g1
  refine ⟨"tuple", "tuple.index", PySem.F.plainAttrs_tuple, PySem.F.slot_tuple_index, PySem.F.type_tuple_index, f2, fun b e => ?_, ?_⟩
  · cases e
    exact ⟨ob, f1, gd⟩
  · have q2 : tCons ta tNil σ H1 (fun vs H2 => match vs with
      | [y] => ∃ k : Int, y = .int k ∧ H2 ad = some (.frz ob (.tup (ns.map V.int))) ∧ k ∈ ns ∧ Q (.int (ns.idxOf k : Nat)) H2
      | _ => False) := q1
    have hA := (pa_cons ha pa_nil (na _)).run p2 pins s1 σ H1 _ I1 q2
    rw [na []] at hA ⊢
    refine Calls.callWith_builtin rfl (Calls.evalArgs_plain (thn hA fun us s2 ⟨vs, H2, I2, r2, q3⟩ => ?_))
    match vs, r2, q3 with
    | [y], r2, ⟨k, ek, g2, hk, q4⟩ =>
      subst ek
      obtain ⟨u, rfl, t, rfl⟩ := vals1 r2
      obtain ⟨its, rv, pl, hz⟩ := I2.tuple (a := ad) (.inl (.inr ⟨ob, g2⟩))
      exact PySem.SeqAt.tuple_index_ints pl rv.ints hk ⟨.int (ns.idxOf k : Nat), H2, I2.tok _, ⟨_, rfl⟩, q4⟩
section
variable {X : Cx} {σ : L2.St} {H : Hp} {α β γ : Type} [Rep α] [Rep β] [Rep γ] {a b e o : Expr} {pos p : Pos}
/-- sorted(t) of a tuple of ints -/
theorem lsortC {c : Col} {ms : List Int} (hm : X.mg "sorted" = none) (ha : Ex X σ H a c) (h : ∀ ns' : List Int, ns'.Perm c.xs → ns'.Pairwise (· ≤ ·) → ns' = ms) (na : Ns X a := by intro _; rfl) (hg : Gl X "sorted" := by rfl) : EL X σ H (.Call (.Name "sorted" p) [a] [] pos) ms :=
  e1B cr_sortTI hg hm PyProof.Rows.boot_sorted na ha fun H1 H2 v _ s2 r Q q => by
    obtain ⟨t, ob, rfl, h2, _⟩ := r
    refine ⟨t, c.xs, rfl, .inl (.inr ⟨ob, h2⟩), fun ns' pp h3 h4 hp => ?_⟩
    have e := h ns' h3 h4
    subst e
    exact q _ _ (s2.trans (same_new hp)) ⟨pp, rfl, s2.free hp, LsR.ints.mpr upd_same⟩
theorem a2_map {R : V → α → Prop} {f : V → α} : ∀ {vs : List V} {xs : List α}, A2 R vs xs → (∀ v x, R v x → x = f v) → xs = vs.map f
  | _, _, .nil, _ => rfl
  | _, _, .cons a b, h => by rw [h _ _ a, a2_map b h, List.map_cons]
theorem a2_mem {R : V → α → Prop} : ∀ {vs : List V} {xs : List α}, A2 R vs xs → ∀ v, v ∈ vs → ∃ x, x ∈ xs ∧ R v x
  | _, _, .nil, v, h => absurd h List.not_mem_nil
  | _, _, .cons a b, v, h => by
    rcases List.mem_cons.mp h with z | z
    · subst z; exact ⟨_, List.mem_cons_self .., a⟩
    · obtain ⟨x, h1, h2⟩ := a2_mem b v z
      exact ⟨x, List.mem_cons_of_mem _ h1, h2⟩
theorem a2_of {R : V → α → Prop} {f : V → α} : ∀ {vs : List V}, (∀ v, v ∈ vs → R v (f v)) → A2 R vs (vs.map f)
  | [], _ => .nil
  | v :: vs, h => .cons (h v (List.mem_cons_self ..)) (a2_of fun u hu => h u (List.mem_cons_of_mem _ hu))
theorem a2_uniq {R : V → α → Prop} {f : V → α} (u : ∀ v x y, R v x → R v y → x = y) : ∀ {vs : List V} {xs : List α}, A2 R vs xs → (∀ v, v ∈ vs → R v (f v)) → xs = vs.map f
  | _, _, .nil, _ => rfl
  | _, _, .cons a b, h => by
    rw [List.map_cons, u _ _ _ a (h _ (List.mem_cons_self ..)), ← a2_uniq u b fun w hw => h w (List.mem_cons_of_mem _ hw)]
/-- sorted(xs) of a list of columns -/
theorem lsortT {xs : List Col} {d : Nat} (hm : X.mg "sorted" = none) (ha : EO X σ H a xs) (hd : 1 ≤ d) (hx : ∀ x, x ∈ xs → x.xs.length = d) (na : Ns X a := by intro _; rfl) (hg : Gl X "sorted" := by rfl) :
    EV X σ H (.Call (.Name "sorted" p) [a] [] pos) fun H1 H' v => ∃ (q : Addr) (ys : List Col), v = .ref q ∧ H1 q = none ∧ LsR H' q ys ∧ ys.Perm xs ∧ ys.Pairwise (fun x y => HT.lexLt y.xs x.xs = false) :=
  e1B cr_sortT hg hm PyProof.Rows.boot_sorted na ha fun H1 H2 v _ s2 r Q q => by
    obtain ⟨t, rfl, vs, h2, h3⟩ := r
    -- what each value tells
    have uniq : ∀ (v : V) (x y : Col), Rep.rep H2 v x → Rep.rep H2 v y → x = y := fun v x y r1 r2 => by
      obtain ⟨a1, o1, e1, g1, _⟩ := r1
      obtain ⟨a2, o2, e2, g2, _⟩ := r2
      have ea : a1 = a2 := by rw [e1] at e2; cases e2; rfl
      subst ea
      rw [g1] at g2
      obtain ⟨x⟩ := x
      obtain ⟨y⟩ := y
      have e3 := Option.some.inj g2
      injection e3 with _ e4
      injection e4 with e5
      have inj : ∀ (l m : List Int), l.map V.int = m.map V.int → l = m := fun l m h => List.map_inj_right (fun x y (z : V.int x = V.int y) => by injection z) |>.mp h
      exact congrArg Col.mk (inj _ _ e5)
    have hf : ∃ g : V → Col, ∀ v, v ∈ vs → Rep.rep H2 v (g v) := by
      classical
      refine ⟨fun v => if h : ∃ x : Col, Rep.rep H2 v x then Classical.choose h else ⟨[]⟩, fun v hv => ?_⟩
      obtain ⟨x, _, hx⟩ := a2_mem h3 v hv
      have h : ∃ x : Col, Rep.rep H2 v x := ⟨x, hx⟩
      dsimp only
      rw [dif_pos h]
      exact Classical.choose_spec h
    obtain ⟨g, hgv⟩ := hf
    have exs : xs = vs.map g := a2_uniq uniq h3 hgv
    refine ⟨t, vs, fun v => (g v).xs, d, rfl, .of h2, hd, fun v hv => ?_, fun ys pp p1 p2 hp => ?_⟩
    · obtain ⟨a1, o1, e1, g1, _⟩ := hgv v hv
      exact ⟨a1, e1, .inr ⟨o1, g1⟩, hx _ (by rw [exs]; exact List.mem_map.mpr ⟨v, hv, rfl⟩)⟩
    · refine q _ _ (s2.trans (same_new hp)) ⟨pp, ys.map g, rfl, s2.free hp, ⟨ys, upd_same, ?_⟩, ?_, ?_⟩
      · exact (a2_of fun v hv => hgv v (p1.mem_iff.mp hv)).up (tk_of (same_new hp))
      · rw [exs]; exact p1.map g
      · exact List.pairwise_map.mpr p2
/-- two sorted lists of the same columns -/
theorem sortT_eq {xs ys : List Col} {d : Nat} (p : xs.Perm ys) (h1 : xs.Pairwise (fun x y => HT.lexLt y.xs x.xs = false)) (h2 : ys.Pairwise (fun x y => HT.lexLt y.xs x.xs = false)) (hl : ∀ x, x ∈ xs → x.xs.length = d) : xs = ys := by
  have lexEq : ∀ (a b : List Int), a.length = b.length → HT.lexLt a b = false → HT.lexLt b a = false → a = b := by
    intro a
    induction a with
    | nil => intro b h _ _; cases b with
      | nil => rfl
      | cons _ _ => cases h
    | cons x a ih =>
      intro b h e1 e2
      cases b with
      | nil => cases h
      | cons y b =>
        rw [HT.lexLt_cons] at e1 e2
        by_cases c : x = y
        · subst c
          rw [if_pos rfl] at e1 e2
          rw [ih b (by simpa using h) e1 e2]
        · rw [if_neg c] at e1
          rw [if_neg (Ne.symm c)] at e2
          have := of_decide_eq_false e1
          have := of_decide_eq_false e2
          omega
  refine List.Perm.eq_of_pairwise (le := fun x y => HT.lexLt y.xs x.xs = false) (fun x y hx hy a b => ?_) h1 h2 p
  have e := lexEq x.xs y.xs (by rw [hl x hx, hl y (p.mem_iff.mpr hy)]) b a
  cases x; cases y
  exact congrArg Col.mk e
end
end Nh
set_option Elab.async false
set_option linter.all false
set_option maxRecDepth 100000
namespace Nh
open PySem PySem.Spec PyProof.Rows L2
/-! ### max of a tuple; == and in of lists -/
theorem cr_maxT {X : Cx} (hc : X.calm = true) : CallR X (.builtin "max") (fun vs H Q => ∃ (a : Addr) (ns : List Int), vs = [.ref a] ∧ SqT X.K H a (ns.map V.int) ∧ 0 < ns.length ∧ ∀ m, m ∈ ns → (∀ y, y ∈ ns → y ≤ m) → Q (.int m) H) := by
  intro pins s σ H vs us Q I r h
  obtain ⟨a, ns, rfl, hs, hne, q⟩ := h
  obtain ⟨its, rv, pl, hz⟩ := I.tuple hs
  rw [Vals.ref1 r]
  have hlen : its.length = ns.length := by rw [← rv.length, List.length_map]
  have hval : ∀ (i : Nat) (v : Value), its.toArray[i]? = some v → ∃ t, v = Value.int (ns.getD i 0) t := fun i v hv => by
    have hv' : its[i]? = some v := by simpa using hv
    have hi : i < ns.length := by rw [← hlen]; exact (List.getElem?_eq_some_iff.mp hv').1
    obtain ⟨w', hw, hr⟩ := rv.get (i := i) (x := V.int (ns.getD i 0)) (by rw [List.getElem?_map, List.getElem?_eq_getElem hi, List.getD_eq_getElem?_getD, List.getElem?_eq_getElem hi]; rfl)
    rw [hv'] at hw
    cases hw
    exact hr
  have hlt : a < s.heap.objs.size := pl.lt
  refine call_max_walk (wpAny_pyIter_tuple pl ⟨s.heap.objs.size, [s.heap.objs.size, a], [s.heap.objs.size], its.toArray.size, fun i v => its.toArray[i]? = some v, _, _, rfl, Walks.tuple (A := X.A.in1) (I.ok.hd hc) s.heap.objs.size a (Nat.ne_of_lt hlt) its.toArray, ⟨⟨_, Heap.get?_push_size _ rfl, rfl, rfl⟩, pl.push _⟩, fun b hb => ?_, by rw [List.size_toArray, hlen]; exact hne,
    CmpOf.ints_gt (fun i => ns.getD i 0) hval, fun v h' tk hP hk => ?_⟩)
  · show b < (s.heap.push _).objs.size
    rw [Heap.size_push]
    rcases List.mem_cons.mp hb with e | hb
    · rw [e]; exact Nat.lt_succ_self _
    · rw [List.mem_singleton.mp hb]; exact Nat.lt_succ_of_lt hlt
  · obtain ⟨h1, h2⟩ := argBest_gt (fun i => ns.getD i 0) (its.toArray.size - 1)
    obtain ⟨t, rfl⟩ := hval _ v hP
    rw [List.size_toArray, hlen] at h1 h2 ⊢
    refine ⟨.int _, H, I.kept fun b o e => hk b o (fun m => ?_) (Heap.get?_push_of_some _ e), ⟨_, rfl⟩, q _ ?_ fun y hy => ?_⟩
    · have := Heap.lt_size e
      rw [List.mem_singleton.mp m] at this
      exact absurd this (Nat.lt_irrefl _)
    · generalize argBest (fun i j => decide (ns.getD i 0 > ns.getD j 0)) (ns.length - 1) = k at *
      have hk2 : k < ns.length := Nat.lt_of_le_of_lt h1 (Nat.sub_lt hne Nat.one_pos)
      rw [List.getD_eq_getElem?_getD, List.getElem?_eq_getElem hk2]
      exact List.getElem_mem hk2
    · obtain ⟨j, hj⟩ := List.getElem?_of_mem hy
      have hjl := (List.getElem?_eq_some_iff.mp hj).1
      have := h2 j (Nat.le_sub_one_of_lt hjl)
      have e : ns.getD j 0 = y := by rw [List.getD_eq_getElem?_getD, hj]; rfl
      rw [← e]
      exact this
/-- data whose == is told -/
class Dat (α : Type) [Rep α] [DecidableEq α] where
  toD : α → PyData
  dp : ∀ {K : PySem.W.Frag} {H : Hp} {v : V} {x : α}, Rep.rep H v x → Dp K H v (toD x)
  lay : ∀ x : α, (toD x).canLay0 = true
  dep : ∀ x : α, (toD x).depth ≤ 8
  eqv : ∀ x y : α, PyData.eqv (toD x) (toD y) = decide (x = y)
instance : Dat Int := ⟨.int, fun {K H v x} h => by rw [show v = V.int x from h]; exact .int x, fun _ => rfl, fun _ => Nat.zero_le _, fun x y => by
  show (x == y) = _
  rw [Bool.beq_eq_decide_eq]⟩
theorem dps_of {α : Type} [Rep α] [DecidableEq α] [Dat α] {K : PySem.W.Frag} {H : Hp} : ∀ {vs : List V} {xs : List α}, A2 (Rep.rep H) vs xs → DpAll K H vs (xs.map Dat.toD)
  | _, _, .nil => .nil
  | _, _, .cons a b => .cons (Dat.dp a) (dps_of b)
theorem lays {α : Type} [Rep α] [DecidableEq α] [Dat α] : ∀ xs : List α, PyData.canLayAll0 (xs.map Dat.toD) = true
  | [] => rfl
  | x :: xs => by
    show ((Dat.toD x).canLay0 && PyData.canLayAll0 (xs.map Dat.toD)) = true
    rw [Dat.lay, lays xs]; rfl
theorem deps {α : Type} [Rep α] [DecidableEq α] [Dat α] : ∀ xs : List α, PyData.depthAll (xs.map Dat.toD) ≤ 8
  | [] => Nat.zero_le _
  | x :: xs => Nat.max_le.mpr ⟨Dat.dep x, deps xs⟩
theorem eqvs {α : Type} [Rep α] [DecidableEq α] [Dat α] : ∀ xs ys : List α, PyData.eqvAll (xs.map Dat.toD) (ys.map Dat.toD) = decide (xs = ys)
  | [], [] => rfl
  | [], y :: ys => by
    rw [decide_eq_false (by intro e; cases e)]; rfl
  | x :: xs, [] => by
    rw [decide_eq_false (by intro e; cases e)]; rfl
  | x :: xs, y :: ys => by
    show (PyData.eqv (Dat.toD x) (Dat.toD y) && PyData.eqvAll (xs.map Dat.toD) (ys.map Dat.toD)) = _
    rw [Dat.eqv, eqvs xs ys]
    by_cases h : x = y <;> by_cases h2 : xs = ys <;> simp [h, h2]
instance : Dat Col := ⟨fun c => .tuple (c.xs.map Dat.toD), fun {K H v x} h => by
  obtain ⟨a, o, rfl, h1, _⟩ := h
  exact .tup (.inl (.inr ⟨o, h1⟩)) (dps_of (α := Int) (a2_ints x.xs)), fun x => lays (α := Int) x.xs, fun x => by
  show PyData.depthAll (x.xs.map Dat.toD) + 1 ≤ 8
  have : ∀ xs : List Int, PyData.depthAll (xs.map Dat.toD) = 0 := fun xs => by
    induction xs with
    | nil => rfl
    | cons a r ih => show max 0 _ = 0; rw [ih]; rfl
  rw [this]; decide, fun x y => by
  show PyData.eqvAll (x.xs.map Dat.toD) (y.xs.map Dat.toD) = _
  rw [eqvs (α := Int)]
  obtain ⟨x⟩ := x
  obtain ⟨y⟩ := y
  refine decide_eq_decide.mpr ⟨fun h => congrArg Col.mk h, fun h => by cases h; rfl⟩⟩
instance : Dat (List Int) := ⟨fun c => .tuple (c.map Dat.toD), fun {K H v x} h => by
  obtain ⟨a, vs, rfl, h1, h2⟩ := h
  exact .tup (.of h1) (dps_of (α := Int) h2), fun x => lays (α := Int) x, fun x => by
  show PyData.depthAll (x.map Dat.toD) + 1 ≤ 8
  have : ∀ xs : List Int, PyData.depthAll (xs.map Dat.toD) = 0 := fun xs => by
    induction xs with
    | nil => rfl
    | cons a r ih => show max 0 _ = 0; rw [ih]; rfl
  rw [this]; decide, fun x y => eqvs (α := Int) x y⟩
theorem dp_list {α : Type} [Rep α] [DecidableEq α] [Dat α] {K : PySem.W.Frag} {H : Hp} {p : Addr} {xs : List α} (l : LsR H p xs) : Dp K H (.ref p) (.list (xs.map Dat.toD)) := by
  obtain ⟨vs, h1, h2⟩ := l
  exact .lst (.of h1) (dps_of h2)
theorem sh_list {α : Type} [Rep α] [DecidableEq α] [Dat α] (xs : List α) : SeqAt.shaped (.list (xs.map Dat.toD)) = true := by
  unfold SeqAt.shaped
  have h1 : PyData.canLay0 (.list (xs.map Dat.toD)) = true := lays xs
  have h2 : PyData.depth (.list (xs.map Dat.toD)) ≤ 64 := Nat.le_trans (Nat.succ_le_succ (deps xs)) (by decide)
  rw [h1, decide_eq_true h2]; rfl
section
variable {X : Cx} {σ : L2.St} {H : Hp} {α β γ : Type} [Rep α] [Rep β] [Rep γ] {a b e o : Expr} {pos p : Pos}
theorem xidx {c : Col} {k : Int} {p1 p2 : Pos} (ho : Ex X σ H o c) (ha : Ex X σ H a k) (hk : k ∈ c.xs) (na : Ns X a := by intro _; rfl)
    (hb : attributeBase o "index" X.env (eval o X.env) = eval o X.env := by rfl)
    (hfew : ((backTo p2 (starEach [a] X.env)).all (fun x => !x.1) && (backToKw p2 (keywordEach [] X.env)).all (fun x => x.1.isSome) && decide ([a].length + ([] : List Keyword).length + (if ([] : List Keyword).isEmpty then 0 else 1) < 30)) = true := by rfl)
    (hline : (p1.endLine == p2.line) = true := by rfl) : Ex X σ H (.Call (.Attribute o "index" p1) [a] [] p2) (c.xs.idxOf k : Int) := fun H1 s Q q =>
  we (pe_tix (lzE o) (lzE a) na hb hfew hline) (ho H1 s _ fun v H2 s2 r2 => by
    obtain ⟨t, ob, rfl, h2, hd⟩ := r2
    exact ⟨t, ob, c.xs, rfl, h2, hd, ha H2 (s.trans s2) _ fun u H3 s3 r3 => ⟨k, r3, s3 _ _ h2, hk, q _ _ (s2.trans s3) rfl⟩⟩)
/-- max(t) of a column -/
theorem xmaxC {c : Col} {m : Int} (hc : X.calm = true) (hm : X.mg "max" = none) (ha : Ex X σ H a c) (h0 : m ∈ c.xs) (hle : ∀ y, y ∈ c.xs → y ≤ m) (na : Ns X a := by intro _; rfl) (hg : Gl X "max" := by rfl) : Ex X σ H (.Call (.Name "max" p) [a] [] pos) m :=
  e1B (cr_maxT hc) hg hm (by decide +kernel) na ha fun H1 H2 v _ s2 r Q q => by
    obtain ⟨t, ob, rfl, h1, _⟩ := r
    refine ⟨t, c.xs, rfl, .inl (.inr ⟨ob, h1⟩), List.length_pos_of_mem h0, fun m' h3 h4 => q _ _ s2 ?_⟩
    have h5 := hle m' h3
    have h6 := h4 m h0
    show V.int m' = V.int m
    congr 1
    omega
/-! == and != of lists -/
theorem e2O {xs ys : List α} (ha : EO X σ H a xs) (hb : EO X σ H b ys) {H1 : Hp} (s : Same H H1) {R : V → V → Hp → Prop} (q : ∀ p p' H', Same H1 H' → LsR H' p xs → LsR H' p' ys → R (.ref p) (.ref p') H') :
    WE X a σ H1 fun v H2 => WE X b σ H2 fun u H3 => R v u H3 :=
  ha H1 s _ fun v H2 s2 ⟨p, e, l⟩ => hb H2 (s.trans s2) _ fun u H3 s3 ⟨p', e', l'⟩ => by
    subst e; subst e'
    exact q p p' H3 (s2.trans s3) (l.up s3) l'
theorem xeqL [DecidableEq α] [Dat α] {xs ys : List α} (hu : X.A.units + 64 < cLine) (ha : EO X σ H a xs) (hb : EO X σ H b ys) (hm : behindInMarks .Eq b = false := by rfl) : Ex X σ H (.Compare a [.Eq] [b] pos) (decide (xs = ys)) := fun H1 s Q q =>
  we (pe_cmpR (op_eqD hu) (lzE a) (lzE b) hm) (e2O ha hb s fun p p' H' s' l l' => ⟨_, _, dp_list l, dp_list l', sh_list xs, sh_list ys, by
    rw [show PyData.eqv (.list (xs.map Dat.toD)) (.list (ys.map Dat.toD)) = decide (xs = ys) from eqvs xs ys]
    exact q _ _ s' rfl⟩)
theorem teqL [DecidableEq α] [Dat α] {xs ys : List α} (hu : X.A.units + 64 < cLine) (ha : EO X σ H a xs) (hb : EO X σ H b ys) (hm : behindInMarks .Eq b = false := by rfl) : ET X σ H (.Compare a [.Eq] [b] pos) (decide (xs = ys)) := fun H1 s Q q =>
  wt (pt_cmpR (op_eqD hu) (lzE a) (lzE b) hm) (e2O ha hb s fun p p' H' s' l l' => ⟨_, _, dp_list l, dp_list l', sh_list xs, sh_list ys, by
    rw [show PyData.eqv (.list (xs.map Dat.toD)) (.list (ys.map Dat.toD)) = decide (xs = ys) from eqvs xs ys]
    exact ⟨_, rfl, q _ s'⟩⟩)
theorem tneL [DecidableEq α] [Dat α] {xs ys : List α} (hu : X.A.units + 64 < cLine) (ha : EO X σ H a xs) (hb : EO X σ H b ys) (hm : behindInMarks .NotEq b = false := by rfl) : ET X σ H (.Compare a [.NotEq] [b] pos) (!decide (xs = ys)) := fun H1 s Q q =>
  wt (pt_cmpR (op_neD hu) (lzE a) (lzE b) hm) (e2O ha hb s fun p p' H' s' l l' => ⟨_, _, dp_list l, dp_list l', sh_list xs, sh_list ys, by
    rw [show PyData.eqv (.list (xs.map Dat.toD)) (.list (ys.map Dat.toD)) = decide (xs = ys) from eqvs xs ys]
    exact ⟨_, rfl, q _ s'⟩⟩)
/-- in, not in of ints -/
theorem inV_ints (x : Int) : ∀ xs : List Int, inV (.int x) (xs.map V.int) = decide (x ∈ xs)
  | [] => rfl
  | y :: xs => by
    have ih := inV_ints x xs
    show (y == x || inV (.int x) (xs.map V.int)) = _
    rw [ih]
    by_cases h : y = x
    · subst h; simp
    · have h' : ¬ x = y := fun e => h e.symm
      simp [h, h']
theorem flat_ints' : ∀ xs : List Int, (xs.map V.int).all flatV = true
  | [] => rfl
  | _ :: xs => flat_ints' xs
theorem tnin {x : Int} {xs : List Int} (ha : Ex X σ H a x) (hb : EO X σ H b xs) (hm : behindInMarks .NotIn b = false := by rfl) : ET X σ H (.Compare a [.NotIn] [b] pos) (!decide (x ∈ xs)) := fun H1 s Q q =>
  wt (pt_cmpR op_notIn_seq (lzE a) (lzE b) hm) (ha H1 s _ fun v H2 s2 r2 => hb H2 (s.trans s2) _ fun u H3 s3 ⟨p, e, l⟩ => by
    subst e
    rw [show v = V.int x from r2]
    refine ⟨p, _, rfl, .inl (.of (LsR.ints.mp l)), rfl, flat_ints' xs, _, rfl, ?_⟩
    rw [if_pos rfl, inV_ints]
    exact q _ (s2.trans s3))
end
end Nh
set_option Elab.async false
set_option linter.all false
set_option maxRecDepth 100000
namespace Nh
open PySem PySem.Spec PyProof.Rows L2
/-! ### slices of lists -/
section
variable {X : Cx} {σ : L2.St} {H : Hp} {α β γ : Type} [Rep α] [Rep β] [Rep γ] {a b e : Expr} {pos p : Pos}
theorem lsl {xs : List α} {lo hi : Option Int} {el eh : Option Expr} {tl th : TO} {p2 : Pos} (ha : EO X σ H a xs) (pl : PO X el tl) (ph : PO X eh th)
    (hl : ∀ H1, Same H H1 → ∀ Q : Option Int → Hp → Prop, (∀ H', Same H1 H' → Q lo H') → tl σ H1 Q) (hh : ∀ H1, Same H H1 → ∀ Q : Option Int → Hp → Prop, (∀ H', Same H1 H' → Q hi H') → th σ H1 Q) :
    EL X σ H (.Subscript a (.Slice el eh none p2) pos) (cut xs lo hi) := fun H1 s Q q =>
  we (pe_slice sl_list (lzE a) pl ph) (ha H1 s _ fun v H2 s2 r => hl H2 (s.trans s2) _ fun H3 s3 => hh H3 ((s.trans s2).trans s3) _ fun H4 s4 => by
    obtain ⟨t, rfl, vs, h1, h2⟩ := r
    have s5 := s3.trans s4
    refine ⟨t, vs, rfl, .of (s5 _ _ h1), fun p hp => q _ _ ((s2.trans s5).trans (same_new hp)) ⟨p, rfl, (s2.trans s5).free hp, _, upd_same, ?_⟩⟩
    exact (a2_cut (h2.up (tk_of s5)) lo hi).up (tk_of (same_new hp)))
theorem lslU {xs : List α} {j : Int} {p2 : Pos} (ha : EO X σ H a xs) (hb : Ex X σ H b j) : EL X σ H (.Subscript a (.Slice none (some b) none p2) pos) (cut xs none (some j)) :=
  lsl ha po_none (po_some (lzE b)) (fun H1 _ Q q => po0 H1 Q q) (fun H1 s Q q => po1 hb H1 s Q q)
theorem lslL {xs : List α} {i : Int} {p2 : Pos} (ha : EO X σ H a xs) (hb : Ex X σ H b i) : EL X σ H (.Subscript a (.Slice (some b) none none p2) pos) (cut xs (some i) none) :=
  lsl ha (po_some (lzE b)) po_none (fun H1 s Q q => po1 hb H1 s Q q) (fun H1 _ Q q => po0 H1 Q q)
theorem lslB {c : Expr} {xs : List α} {i j : Int} {p2 : Pos} (ha : EO X σ H a xs) (hb : Ex X σ H b i) (hc : Ex X σ H c j) : EL X σ H (.Subscript a (.Slice (some b) (some c) none p2) pos) (cut xs (some i) (some j)) :=
  lsl ha (po_some (lzE b)) (po_some (lzE c)) (fun H1 s Q q => po1 hb H1 s Q q) (fun H1 s Q q => po1 hc H1 s Q q)
theorem mem_cut {xs : List α} {lo hi : Option Int} {x : α} (h : x ∈ cut xs lo hi) : x ∈ xs := List.mem_of_mem_drop (List.mem_of_mem_take h)
theorem cut_len (xs : List α) (lo hi : Option Int) : (cut xs lo hi).length ≤ xs.length := by
  unfold cut
  rw [List.length_take, List.length_drop]
  omega
/-- what a test may answer -/
def EB (X : Cx) (σ : L2.St) (H : Hp) (e : Expr) (P : Bool → Prop) : Prop := EV X σ H e fun _ _ v => ∃ t, v = .bl t ∧ P t
theorem Ex.eb {t : Bool} (h : Ex X σ H e t) : EB X σ H e (· = t) := fun H1 s Q q => h H1 s Q fun v H' s' r => q v H' s' ⟨t, r, rfl⟩
end
/-! displays of any length -/
def tAll (X : Cx) : List Expr → TA
  | [] => tNil
  | e :: es => tCons (WE X e) (tAll X es)
theorem pa_all {X : Cx} : ∀ es : List Expr, (∀ e, e ∈ es → Ns X e) → PA X es (tAll X es)
  | [], _ => pa_nil
  | e :: es, h => pa_cons (lzE e) (pa_all es fun d hd => h d (List.mem_cons_of_mem _ hd)) (h e (List.mem_cons_self ..) es)
/-- arguments that give xs -/
inductive EA {α : Type} [Rep α] (X : Cx) (σ : L2.St) (H : Hp) : List Expr → List α → Prop
  | nil : EA X σ H [] []
  | cons {e es x xs} : Ns X e → Ex X σ H e x → EA X σ H es xs → EA X σ H (e :: es) (x :: xs)
theorem EA.ns {α : Type} [Rep α] {X : Cx} {σ : L2.St} {H : Hp} : ∀ {es : List Expr} {xs : List α}, EA X σ H es xs → ∀ e, e ∈ es → Ns X e
  | _, _, .nil, e, h => absurd h List.not_mem_nil
  | _, _, .cons n _ r, e, h => (List.mem_cons.mp h).elim (fun z => z ▸ n) (EA.ns r e)
theorem EA.all {α : Type} [Rep α] {X : Cx} {σ : L2.St} {H : Hp} : ∀ {es : List Expr} {xs : List α}, EA X σ H es xs → ∀ H1, Same H H1 → ∀ Q : List V → Hp → Prop, (∀ vs H', Same H1 H' → A2 (Rep.rep H') vs xs → Q vs H') → tAll X es σ H1 Q
  | _, _, .nil, H1, s, Q, q => q [] H1 (.refl _) .nil
  | _, _, .cons n h r, H1, s, Q, q => by
    show WE X _ σ H1 fun v H2 => tAll X _ σ H2 fun vs H3 => Q (v :: vs) H3
    exact h H1 s _ fun v H2 s2 r2 => r.all H2 (s.trans s2) _ fun vs H3 s3 r3 => q (v :: vs) H3 (s2.trans s3) (.cons (Rep.up s3 r2) r3)
theorem llist {α : Type} [Rep α] {X : Cx} {σ : L2.St} {H : Hp} {es : List Expr} {xs : List α} {pos : Pos} (h : EA X σ H es xs) (hz : xs.length ≤ 4000) : EL X σ H (.List es pos) xs := fun H1 s Q q =>
  we (pe_lst (pa_all es h.ns)) (h.all H1 s _ fun vs H2 s2 r2 => ⟨by rw [r2.length]; exact len_small hz, fun p hp => q _ _ (s2.trans (same_new hp)) ⟨p, rfl, s2.free hp, vs, upd_same, r2.up (tk_of (same_new hp))⟩⟩)
/-- if with a join -/
theorem WS.join {X : Cx} {ss : List Stmt} {D : Ends} {J : L2.St → Hp → Prop} {σ : L2.St} {H : Hp} (h : WS X ss { D with nx := J } σ H) (k : ∀ σ' H', J σ' H' → D.nx σ' H') : WS X ss D σ H := ⟨fun pins s I =>
  thn (h.run pins s I) fun f s' z => by
    cases f with
    | next =>
      obtain ⟨σ', H', I', j⟩ := z
      exact ⟨σ', H', I', k σ' H' j⟩
    | ret u => exact z
    | brk => exact z
    | cont => exact z⟩
end Nh
set_option Elab.async false
set_option linter.all false
set_option maxRecDepth 100000
namespace Nh
open PySem PySem.Spec PyProof.Rows L2
/-! ### is True, isinstance -/
def rIsX : R2 := fun x y H Q => ∃ b : Bool, y = .bl b ∧ (((∃ a, x = .ref a) ∨ ∃ i, x = .int i) ∧ Q (.bl false) H ∨ ∃ a : Bool, x = .bl a ∧ Q (.bl (decide (a = b))) H)
theorem op_isX {X : Cx} : OpR X (compareOp .Is) rIsX := by
  intro pins s σ H x y v u Q I rx ry h
  obtain ⟨b, rfl, h⟩ := h
  rcases h with ⟨h, q⟩ | ⟨a, rfl, q⟩
  · obtain rfl : u = Value.bool b := ry
    rcases h with ⟨a, rfl⟩ | ⟨i, rfl⟩
    · obtain rfl : v = Value.ref a := rx
      exact wpAny_is_other rfl (fun z => nomatch z) ⟨.bl false, H, I, rfl, q⟩
    · obtain ⟨t, rfl⟩ := rx
      exact wpAny_is_other rfl (fun z => nomatch z) ⟨.bl false, H, I, rfl, q⟩
  · exact op_isBl pins s σ H _ _ v u Q I rx ry ⟨a, b, rfl, rfl, q⟩
section
variable {X : Cx} {σ : L2.St} {H : Hp} {α β γ : Type} [Rep α] [Rep β] [Rep γ] {a b e : Expr} {pos p : Pos}
/-- x is True, x no bool -/
theorem tisX {R : Hp → Hp → V → Prop} {c : Bool} {j pos'} (ha : EV X σ H a R) (h : ∀ H1 H2 v, R H1 H2 v → (∃ a, v = .ref a) ∨ ∃ i, v = .int i) (hm : behindInMarks .Is (.Constant (.bool c) j pos') = false := by rfl) : ET X σ H (.Compare a [.Is] [.Constant (.bool c) j pos'] pos) false := fun H1 s Q q =>
  wt (pt_cmpR op_isX (lzE a) (lzE _) hm) (ha H1 s _ fun v H2 s2 r2 => xb (X := X) (σ := σ) (H := H) (i := c) H2 (s.trans s2) _ fun u H3 s3 r3 => ⟨c, r3, .inl ⟨h _ _ _ r2, _, rfl, q _ (s2.trans s3)⟩⟩)
theorem tisB {t c : Bool} {j pos'} (ha : Ex X σ H a t) (hm : behindInMarks .Is (.Constant (.bool c) j pos') = false := by rfl) : ET X σ H (.Compare a [.Is] [.Constant (.bool c) j pos'] pos) (decide (t = c)) := fun H1 s Q q =>
  wt (pt_cmpR op_isX (lzE a) (lzE _) hm) (ha H1 s _ fun v H2 s2 r2 => xb (X := X) (σ := σ) (H := H) (i := c) H2 (s.trans s2) _ fun u H3 s3 r3 => ⟨c, r3, .inr ⟨t, r2, _, rfl, q _ (s2.trans s3)⟩⟩)
theorem xisB {t c : Bool} {j pos'} (ha : Ex X σ H a t) (hm : behindInMarks .Is (.Constant (.bool c) j pos') = false := by rfl) : Ex X σ H (.Compare a [.Is] [.Constant (.bool c) j pos'] pos) (decide (t = c)) := fun H1 s Q q =>
  we (pe_cmpR op_isX (lzE a) (lzE _) hm) (ha H1 s _ fun v H2 s2 r2 => xb (X := X) (σ := σ) (H := H) (i := c) H2 (s.trans s2) _ fun u H3 s3 r3 => ⟨c, r3, .inr ⟨t, r2, q _ _ (s2.trans s3) rfl⟩⟩)
/-- isinstance(x, T) -/
theorem xisi {R : Hp → Hp → V → Prop} {T : Str} {N : String} {M : String} {r : Bool} {p2 : Pos} (hm : X.mg "isinstance" = none) (hT : X.mg T = none) (hb : bootBuiltins T = some (.type N)) (ha : EV X σ H a R) (h : ∀ H1 H2 v, R H1 H2 v → ∀ H3, Same H2 H3 → TyX X.K H3 v (.type M)) (hk : kitB M N = some r) (na : Ns X a := by intro _; rfl) (hg : Gl X "isinstance" := by rfl) (hgT : Gl X T := by rfl) (hd : (T == ("__debug__" : Str)) = false := by decide) (hn : T ≠ "__name__" := by decide) :
    Ex X σ H (.Call (.Name "isinstance" p) [a, .Name T p2] [] pos) r := fun H1 s Q q =>
  we (pe_callB call_isi hg hm (by decide +kernel) (pa_cons (lzE a) (pa_cons (pe_bltn (v := .ty N) hgT hT hb rfl hn hd) pa_nil (by rfl)) (na _)) (by decide) (by decide) (na _) (by rfl)) (ha H1 s _ fun v H2 s2 r2 =>
    ⟨v, .ty N, .type M, .type N, r, rfl, .ty N, h _ _ _ r2 H2 (.refl H2), kit_ty hk, q _ _ s2 rfl⟩)
end
end Nh
set_option Elab.async false
set_option linter.all false
set_option maxRecDepth 100000
namespace Nh
open PySem PySem.Spec PyProof.Rows L2
section
variable {X : Cx} {σ : L2.St} {H : Hp} {D : Ends} {rest : List Stmt} {a b c : Expr} {pos p : Pos}
/-- x, y, z = a, b, c -/
theorem spar3 (i j l : Nat) {x y z : Str} {px py pz pt pt2 : Pos} {kt k2 : Nat} {R1 R2 R3 : Hp → Hp → V → Prop} (hc : X.calm = true) (nd : X.N.Nodup) (ha : EV X σ H a R1) (hb : EV X σ H b R2) (hc' : EV X σ H c R3)
    (k : ∀ v u t H1 H2 H3, Same H H1 → R1 H H1 v → Same H1 H2 → R2 H1 H2 u → Same H2 H3 → R3 H2 H3 t → WS X rest D (((σ.set i (some v)).set j (some u)).set l (some t)) H3)
    (hij : i ≠ j := by decide) (hil : i ≠ l := by decide) (hjl : j ≠ l := by decide) (hi : X.N[i]? = some x := by rfl) (hj : X.N[j]? = some y := by rfl) (hl : X.N[l]? = some z := by rfl) (hx : X.env.scope.names.lookup x = some .local := by rfl) (hy : X.env.scope.names.lookup y = some .local := by rfl) (hz : X.env.scope.names.lookup z = some .local := by rfl)
    (na : Ns X a := by intro _; rfl) (nb : Ns X b := by intro _; rfl) (nc : Ns X c := by intro _; rfl)
    (hw : swappedStores [.Tuple [.Name x px, .Name y py, .Name z pz] kt pt] (.Tuple [a, b, c] k2 pt2) X.env = pure (some [x, y, z]) := by rfl)
    (hs : swapsWithSole [.Tuple [.Name x px, .Name y py, .Name z pz] kt pt] (.Tuple [a, b, c] k2 pt2) pos.line X.env = pure false := by rfl) :
    WS X (.Assign [.Tuple [.Name x px, .Name y py, .Name z pz] kt pt] (.Tuple [a, b, c] k2 pt2) pos :: rest) D σ H := by
  have r := ps_par3 hc nd hi hj hl hij hil hjl hx hy hz (pa_cons (lzE a) (pa_cons (lzE b) (pa_cons (lzE c) pa_nil (nc _)) (nb _)) (na _)) hw hs
  exact wcons (w1 r (ha H (.refl H) _ fun v H1 s1 r1 => hb H1 s1 _ fun u H2 s2 r2 => hc' H2 (s1.trans s2) _ fun t H3 s3 r3 => ⟨v, u, t, rfl, k v u t H1 H2 H3 s1 r1 s2 r2 s3 r3⟩))
/-- for .. in range(e), e with an effect -/
theorem sforR {p2 : Pos} {tg e : Expr} {g : TG} {body : List Stmt} (hc : X.calm = true) (hp : PassesOwn (model X.prog X.w) X.A X.env X.xe) (hm : X.mg "range" = none) (hg : PG X tg g)
    (h : WE X e σ H fun v Hb => ∃ n : Nat, v = .int (n : Int) ∧ n < 2 ^ 62 ∧ ∃ Pv : Nat → L2.St → Hp → Prop, Pv 0 σ Hb ∧ (∀ i σ1 H1, Pv i σ1 H1 → TK Hb H1) ∧
      (∀ (i : Nat) σ1 H1, i < n → Pv i σ1 H1 → g (.int (i : Int)) σ1 H1 fun σ3 H3 => WS X body { nx := Pv (i + 1), ct := Pv (i + 1), bk := WS X rest D, rt := D.rt } σ3 H3) ∧
      ∀ σ1 H1, Pv n σ1 H1 → WS X rest D σ1 H1) (na : Ns X e := by intro _; rfl) (hgl : Gl X "range" := by rfl) : WS X (.For tg (.Call (.Name "range" p) [e] [] p2) body [] pos :: rest) D σ H :=
  wcons (w1 (ps_for hp hc (pi_range1 hgl hm (pa_cons (lzE e) pa_nil (na _)) (na _)) hg (lzS body) (by intro _; rfl)) (by
    refine WE.mono h fun v Hb z => ?_
    obtain ⟨n, rfl, hn, Pv, h0, hk, st, dn⟩ := z
    refine ⟨(n : Int), rfl, by omega, by omega, ?_⟩
    rw [Int.toNat_natCast]
    refine ⟨fun i m σ H => m = n - i ∧ i ≤ n ∧ Pv i σ H, ⟨_, rfl, Nat.zero_le _, h0⟩, ?_⟩
    rintro i m σ1 H1 ⟨rfl, hi, p⟩
    have it := its_rng (Hb := Hb) n
    have kp : Kp Hb none H1 := ⟨hk i σ1 H1 p, fun _ e => nomatch e⟩
    by_cases hlt : i < n
    · have hx : (upto n)[i]? = some (i : Int) := by
        unfold upto
        rw [List.getElem?_map, List.getElem?_range hlt]; rfl
      obtain ⟨g1, g2⟩ := it.go i _ H1 hx kp
      refine .inr ⟨g1, Pv (i + 1), fun σ' H' p' => ⟨n - (i + 1), by omega, rfl, hlt, p'⟩, fun v H2 y => ?_⟩
      obtain ⟨rfl, rfl⟩ := y
      have e : (0 : Int) + (i : Int) = (i : Int) := by omega
      have := st i σ1 _ hlt p
      rw [← e] at this
      exact this
    · have e : i = n := by omega
      subst e
      have hs := it.stop H1 kp
      rw [upto_len] at hs
      exact .inl ⟨hs, dn σ1 H1 p⟩))
end
end Nh
set_option Elab.async false
set_option linter.all false
set_option maxRecDepth 100000
namespace Nh
open PySem PySem.Spec PyProof.Rows L2 HT
/-! ### t[::-1], t * 2 -/
section
variable {prog : Program} {w : World} {A : Around} {E : Value → Shared → Prop} {s : Shared}
theorem places_back (n : Nat) : Builtin.Slice.slicePlaces ((n : Int) - 1) (-1) (-1) = n := by
  unfold Builtin.Slice.slicePlaces
  have h1 : ¬ ((-1 : Int) > 0) := by omega
  simp only [h1, if_false, Int.neg_neg, Int.ediv_one]
  split <;> omega
theorem adjust_back (n : Nat) : Builtin.Slice.sliceAdjust none none (-1) (n : Int) = ((n : Int) - 1, -1) := by
  unfold Builtin.Slice.sliceAdjust
  simp
theorem pick_back (xs : List Value) : ((List.range xs.length).filterMap fun (k : Nat) => xs.toArray[(((xs.length : Int) - 1) + (k : Int) * (-1)).toNat]?) = xs.reverse := by
  have e : ∀ k, k < xs.length → xs.toArray[(((xs.length : Int) - 1) + (k : Int) * (-1)).toNat]? = some (xs.reverse.getD k (.none)) := fun k hk => by
    have e1 : (((xs.length : Int) - 1) + (k : Int) * (-1)).toNat = xs.length - 1 - k := by omega
    have hk2 : xs.length - 1 - k < xs.length := by omega
    rw [e1, List.getElem?_toArray, List.getElem?_eq_getElem hk2, List.getD_eq_getElem?_getD, List.getElem?_reverse hk, List.getElem?_eq_getElem hk2]; rfl
  have h2 : ∀ m, m ≤ xs.length → ((List.range m).filterMap fun (k : Nat) => xs.toArray[(((xs.length : Int) - 1) + (k : Int) * (-1)).toNat]?) = xs.reverse.take m := by
    intro m
    induction m with
    | zero => intro _; rfl
    | succ m ih =>
      intro hm
      rw [List.range_succ, List.filterMap_append, ih (by omega), List.filterMap_cons, e m (by omega), List.take_add_one]
      congr 1
      rw [List.getElem?_eq_getElem (by rw [List.length_reverse]; omega), List.getD_eq_getElem?_getD, List.getElem?_eq_getElem (by rw [List.length_reverse]; omega)]; rfl
  rw [h2 _ (Nat.le_refl _), List.take_of_length_le (by rw [List.length_reverse]; exact Nat.le_refl _)]
theorem getItem_tup_back {t sl : Addr} {its : List Value} {vl vu vs : Value} {Q : Value → Shared → Prop} (ht : IsTup s.heap t its.toArray) (hs : s.heap.IsSliceOf sl vl vu vs) (pl : IsPart vl none) (pu : IsPart vu none) (ps : IsPart vs (some (-1))) (hz : its.length ≤ sizeLine)
    (h : Q (.ref s.heap.objs.size) { s with heap := s.heap.push { cls := .type "tuple", data := .seq its.reverse.toArray } }) : wpAny (model prog w) A (getItem (.ref t) (.ref sl)) Q E s := by
  have hzz : sizeOk (.seq its.reverse.toArray) := by
    show its.reverse.toArray.size ≤ sizeLine
    rw [List.size_toArray, List.length_reverse]
    exact hz
  obtain ⟨os, hos, hcs, hds⟩ := id hs
  have hTs : s.TypeIs (.ref sl) "slice" := ⟨os, hos, hcs⟩
  unfold getItem
  try with_reducible refine wpAny_holding ?_
  first | refine wpAny_bind (wpAny_pure ?_) | skip
  refine wpAny_bind (wpAny_sequenceKey ht.typeIs (by decide) ?_)
  refine wpAny_bind (wpAny_callSpecial?_slot (name := Str.ofString "__getitem__") ht.typeIs PyProof.Rows.slot_tuple_getitem (wpAny_call_entry PyProof.Rows.slot_tuple_getitem ht.typeIs entry_tuple_getitem ?_ (args_tuple_getitem _ _)))
  show wpAny _ _ (Builtin.Tuple.tupleItemsOf (.ref t) >>= _) _ _ s
  refine wpAny_bind (tupleItemsOf_ ht (wpAny_bind (wpAny_typeOf hTs ?_)))
  rw [if_pos (by decide)]
  have ap : ∀ {Q' : Int × Int × Nat → Shared → Prop} {A' : Around} {E' : Value → Shared → Prop}, Q' ((its.toArray.size : Int) - 1, -1, its.toArray.size) s → wpAny (model prog w) A' (Builtin.Slice.sliceApplied (.ref sl) (pure (its.toArray.size : Int))) Q' E' s := fun {Q' A' E'} hq => by
    unfold Builtin.Slice.sliceApplied Builtin.Slice.sliceFields
    refine wpAny_bind (wpAny_bind (wpAny_field hos hds (x := vl) rfl (wpAny_bind (wpAny_field hos hds (x := vu) rfl (wpAny_bind (wpAny_field hos hds (x := vs) rfl (wpAny_pure ?_)))))))
    refine wpAny_bind (slicePart_ ps ?_)
    show wpAny _ _ (if ((-1 : Int) == 0) = true then _ else _) _ _ s
    rw [if_neg (by decide)]
    refine wpAny_bind (slicePart_ pl (wpAny_bind (slicePart_ pu (wpAny_bind (wpAny_pure ?_)))))
    show wpAny _ _ (match Builtin.Slice.sliceAdjust none none (-1) (its.toArray.size : Int) with | (lo, hi) => pure (lo, (-1 : Int), Builtin.Slice.slicePlaces lo hi (-1))) _ _ s
    rw [adjust_back]
    show wpAny _ _ (pure ((its.toArray.size : Int) - 1, (-1 : Int), Builtin.Slice.slicePlaces ((its.toArray.size : Int) - 1) (-1) (-1))) _ _ s
    rw [places_back]
    exact wpAny_pure hq
  refine wpAny_bind (ap ?_)
  have hno : ¬ ((((its.toArray.size : Int) - 1) == 0 && (-1 : Int) == 1 && its.toArray.size == its.toArray.size) = true) := by
    rw [show ((-1 : Int) == 1) = false by decide]
    simp
  show wpAny _ _ (if (((its.toArray.size : Int) - 1) == 0 && (-1 : Int) == 1 && its.toArray.size == its.toArray.size) = true then _ else _) _ _ s
  rw [if_neg hno]
  have e : ((List.range its.toArray.size).filterMap fun (k : Nat) => its.toArray[(((its.toArray.size : Int) - 1) + (k : Int) * (-1)).toNat]?).toArray = its.reverse.toArray := by
    rw [List.size_toArray, pick_back]
  rw [e]
  first
    | exact wpAny_bind (m := Builtin.Tuple.tupleExact _) (wpAny_newObj_type (wpAny_pure ⟨_, rfl, wpAny_pure h⟩) hzz)
    | exact wpAny_bind (m := Builtin.Tuple.tupleExact _) (wpAny_newObj_type (wpAny_bind (wpAny_pure (wpAny_pure ⟨_, rfl, wpAny_pure h⟩))) hzz)
    | exact wpAny_bind (wpAny_bind (m := Builtin.Tuple.tupleExact _) (wpAny_newObj_type (wpAny_pure (wpAny_pure ⟨_, rfl, wpAny_pure h⟩)) hzz))
    | exact wpAny_bind (wpAny_bind (m := Builtin.Tuple.tupleExact _) (wpAny_newObj_type (wpAny_pure ⟨_, rfl, wpAny_pure h⟩) hzz))
end
theorem pe_revT {X : Cx} {e : Expr} {te : TE} {k : Nat} {p1 p2 p3 pos : Pos} (he : PE X e te) : PE X (.Subscript e (.Slice none none (some (.UnaryOp .USub (.Constant (.int 1) k p1) p2)) p3) pos)
    (fun σ H Q => te σ H fun x H1 => ∃ a xs, x = .ref a ∧ SqT X.K H1 a xs ∧ ∀ p, H1 p = none → Q (.ref p) (upd H1 p (.tup xs.reverse))) := by
  refine ⟨fun pins s σ H Q I h => ?_⟩
  refine Subscript_ (thn (he.run pins s σ H _ I h) fun v s1 ⟨x, H1, I1, r1, a, xs, ex, hx, q⟩ => ?_)
  subst ex
  obtain rfl : v = Value.ref a := r1
  have hst : PO X (some (.UnaryOp .USub (.Constant (.int 1) k p1) p2)) (tPart (tUn (rU fun i => .int (-i)) (tC (.int 1)))) := po_some (pe_un un_neg pe_int)
  refine wpAny_Slice (thn (po_none.run pins s1 σ H1 (fun o H2 => o = none ∧ H2 = H1) I1 ⟨rfl, rfl⟩) fun vl s2 ⟨l, H2, I2, pl, el, e2⟩ => thn (po_none.run pins s2 σ H2 (fun o H3 => o = none ∧ H3 = H2) I2 ⟨rfl, rfl⟩) fun vu s3 ⟨u, H3, I3, pu, eu, e3⟩ =>
    thn (hst.run pins s3 σ H3 (fun o H4 => o = some (-1) ∧ H4 = H3) I3 ⟨1, rfl, -1, rfl, rfl, rfl⟩) fun vs s4 ⟨o, H4, I4, ps, eo, e4⟩ => ?_)
  subst el; subst eu; subst eo; subst e2; subst e3; subst e4
  have I5 : Inv X pins σ _ { s4 with heap := s4.heap.push { cls := .type "slice", data := .fields #[vl, vu, vs] } } := I4.kept (t' := s4.toks) fun b ob q => Heap.get?_push_of_some _ q
  obtain ⟨its, r, ht, hz⟩ := I5.tuple hx
  show wpAny (model X.prog X.w) X.A (subscriptTail e (.Slice none none (some (.UnaryOp .USub (.Constant (.int 1) k p1) p2)) p3) (.ref a) (.ref s4.heap.objs.size)) (EP X pins σ Q) X.xe { s4 with heap := s4.heap.push { cls := .type "slice", data := .fields #[vl, vu, vs] } }
  refine tail_any (ops := [.ref a, .ref s4.heap.objs.size]) ht.typeIs PyProof.Rows.slot_tuple_getitem.lookup ?_ (by with_unfolding_all rfl)
  refine getItem_tup_back ht (Heap.IsSliceOf.new _ vl vu vs) pl pu ps (by rw [← r.length]; exact hz) ?_
  exact ⟨.ref _, _, I5.laid (t' := s4.toks) (o := .tup xs.reverse) (fun b ob q => Heap.get?_push_of_some _ q) (Nat.le_refl _) ⟨by rw [List.length_reverse]; exact hz, _, r.reverse, IsTup.new _ _⟩, rfl, q _ (I5.hok.fresh (Nat.le_refl _))⟩
/-- () * 2 -/
theorem tuple_mul0 (l : Addr) (n : Nat) (dd : Option Addr) (sl : Array (Option Value)) (u : Tok) :
    Meets (Builtin.«tuple.__mul__» ⟨[.ref l, .int 2 u], []⟩) (fun _ R s => s.heap.get? l = some { cls := .type "tuple", dict := dd, data := .seq #[] n, slots := sl } ∧ R (.ok (.ret (.ref l))) s) :=
  .of_wp fun prog w A R s h => by
    obtain ⟨hp, g, d, tk, os⟩ := s
    obtain ⟨hl, h⟩ := h
    have f1 := AutoSeq1.idx_int
    wp_walk using wpAny_loadPart' hl
    exact ⟨_, rfl, h⟩
theorem op_rep2 {X : Cx} : OpR X (binaryOp .Mult) (fun x y H Q => ∃ l xs, x = .ref l ∧ y = .int 2 ∧ SqT X.K H l xs ∧ xs.length ≤ 1000 ∧ (xs = [] → Q (.ref l) H) ∧ (xs ≠ [] → ∀ p, H p = none → Q (.ref p) (upd H p (.tup (xs ++ xs))))) := by
  intro pins s σ H x y v u Q I rx ry h
  obtain ⟨l, xs, rfl, rfl, hT, hz, q0, q1⟩ := h
  by_cases he : xs = []
  · subst he
    obtain rfl : v = Value.ref l := rx
    obtain ⟨t, rfl⟩ := ry
    obtain ⟨its, r, ⟨⟨cls, dd, data, sl⟩, ho, hc, n, hd⟩, hs⟩ := I.tuple hT
    cases r
    simp only at hc hd
    subst hc hd
    exact wpAny_binaryOp_repeat_ref (T := "tuple") (U := "int") (by decide) ⟨_, ho, rfl⟩ (fun s' => typeIs_int s' 2 t) noFill_tuple_mul F.fills_int_mul F.slot_int_rmul repeat_tuple F.slot_int_index.lookup
      (call_meets F.slot_int_rmul (typeIs_int s 2 t) F.entry_int_rmul (F.args_int_rmul_2 _ _) (int_rmul_tuple 2 t l _ n dd sl)
        ⟨ho, rfl, ⟨_, ho, rfl⟩, call_meets F.slot_tuple_mul ⟨_, ho, rfl⟩ F.entry_tuple_mul (F.args_tuple_mul_2 _ _) (tuple_mul0 l n dd sl t) ⟨ho, ⟨.ref l, H, I, rfl, q0 rfl⟩⟩⟩)
  · refine op_repT pins s σ H _ _ v u Q I rx ry ⟨l, 2, xs, rfl, rfl, hT, he, by decide, by decide, hz, fun p hp => ?_⟩
    have e : (List.replicate (Int.toNat 2) xs).flatten = xs ++ xs := by
      show (List.replicate 2 xs).flatten = _
      simp [List.replicate]
    rw [e]
    exact q1 he p hp
section
variable {X : Cx} {σ : L2.St} {H : Hp} {D : Ends} {rest : List Stmt} {α β : Type} [Rep α] [Rep β] {a b c e : Expr} {pos p : Pos}
theorem xdbl {xs : List α} {j pos'} (ha : Ex X σ H a xs) (hz : xs.length ≤ 1000) : Ex X σ H (.BinOp a .Mult (.Constant (.int 2) j pos') pos) (xs ++ xs) := fun H1 s Q q =>
  we (pe_op op_rep2 (lzE a) (lzE _)) (x2 ha xi s fun v u H2 s2 r1 r2 => by
    obtain ⟨t1, vs, rfl, h1, h2⟩ := r1
    rw [show u = V.int 2 from r2]
    refine ⟨t1, vs, rfl, rfl, .of h1, by rw [h2.length]; exact hz, fun e => ?_, fun _ p hp => ?_⟩
    · have e2 := h2.nil_iff.mp e
      subst e2
      exact q _ _ s2 ⟨t1, vs, rfl, h1, h2⟩
    · exact q _ _ (s2.trans (same_new hp)) ⟨p, _, rfl, upd_same, (h2.append h2).up (tk_of (same_new hp))⟩)
theorem xrev {xs : List α} {k : Nat} {p1 p2 p3 : Pos} (ha : Ex X σ H a xs) : Ex X σ H (.Subscript a (.Slice none none (some (.UnaryOp .USub (.Constant (.int 1) k p1) p2)) p3) pos) xs.reverse := fun H1 s Q q =>
  we (pe_revT (lzE a)) (ha H1 s _ fun v H2 s2 r => by
    obtain ⟨t, vs, rfl, h1, h2⟩ := r
    exact ⟨t, vs, rfl, .of h1, fun p hp => q _ _ (s2.trans (same_new hp)) ⟨p, _, rfl, upd_same, h2.reverse.up (tk_of (same_new hp))⟩⟩)
/-- a, b = e1, e2 with effects -/
theorem sparW (i j : Nat) {y z : Str} {py pz pt pt2 : Pos} {kt k2 : Nat} (hc : X.calm = true) (nd : X.N.Nodup) (h : WE X a σ H fun v H1 => WE X b σ H1 fun u H2 => WS X rest D ((σ.set i (some v)).set j (some u)) H2)
    (hij : i ≠ j := by decide) (hi : X.N[i]? = some y := by rfl) (hj : X.N[j]? = some z := by rfl) (hy : X.env.scope.names.lookup y = some .local := by rfl) (hz : X.env.scope.names.lookup z = some .local := by rfl)
    (na : Ns X a := by intro _; rfl) (nb : Ns X b := by intro _; rfl)
    (hw : swappedStores [.Tuple [.Name y py, .Name z pz] kt pt] (.Tuple [a, b] k2 pt2) X.env = pure (some [y, z]) := by rfl)
    (hs : swapsWithSole [.Tuple [.Name y py, .Name z pz] kt pt] (.Tuple [a, b] k2 pt2) pos.line X.env = pure false := by rfl) :
    WS X (.Assign [.Tuple [.Name y py, .Name z pz] kt pt] (.Tuple [a, b] k2 pt2) pos :: rest) D σ H :=
  wcons (w1 (ps_par hc nd hi hj hij hy hz (pa_cons (lzE a) (pa_cons (lzE b) pa_nil (nb _)) (na _)) hw hs) (WE.mono h fun v H1 h1 => WE.mono h1 fun u H2 h2 => ⟨v, u, rfl, h2⟩))
/-- a test that answers what it will -/
def EU (X : Cx) (σ : L2.St) (H : Hp) (e : Expr) : Prop := ∀ (H1 : Hp), Same H H1 → ∀ Q : Bool → Hp → Prop, (∀ t H', Same H1 H' → Q t H') → WT X e σ H1 Q
theorem ET.u {t : Bool} (h : ET X σ H e t) : EU X σ H e := fun H1 s Q q => h H1 s Q fun H' s' => q t H' s'
theorem tvU (h : EV X σ H e fun _ _ v => ∃ t, v = .bl t) (he : ∀ whole, isTrue e X.env whole = (do let v ← whole; standAt e.pos; holding [v] (truthy v)) := by intro _; rfl) : EU X σ H e := fun H1 s Q q =>
  wt (pt_val (lzE e) he) (h H1 s _ fun v H' s' ⟨t, r⟩ => ⟨t, r, q t H' s'⟩)
theorem tandU {t : Bool} (ha : ET X σ H a t) (hb : t = true → EU X σ H b) : EU X σ H (.BoolOp .And [a, b] pos) := fun H1 s Q q =>
  wt (PW.pt (pw_and (lzT a) (pw_and1 (lzT b)))) (ha H1 s _ fun H' s' => by
    cases t with
    | true => exact iteT (hb rfl H' (s.trans s') _ fun u H2 s2 => q u H2 (s'.trans s2))
    | false => exact iteF (q _ H' s'))
theorem tand3F {t : Bool} (ha : ET X σ H a t) (hb : t = true → EU X σ H b) (hc : t = true → ET X σ H c false) : ET X σ H (.BoolOp .And [a, b, c] pos) false := fun H1 s Q q =>
  wt (PW.pt (pw_and (lzT a) (pw_and (lzT b) (pw_and1 (lzT c))))) (ha H1 s _ fun H' s' => by
    cases t with
    | true => exact iteT (hb rfl H' (s.trans s') _ fun u H2 s2 => by
        cases u with
        | true => exact iteT (hc rfl H2 ((s.trans s').trans s2) _ fun H3 s3 => q H3 ((s'.trans s2).trans s3))
        | false => exact iteF (q H2 (s'.trans s2)))
    | false => exact iteF (q H' s'))
theorem sifU {ss ss' : List Stmt} (hc : EU X σ H c) (k1 : ∀ H', Same H H' → WS X ss { D with nx := WS X rest D } σ H') (k2 : ∀ H', Same H H' → WS X ss' { D with nx := WS X rest D } σ H') : WS X (.If c ss ss' pos :: rest) D σ H :=
  wcons (w1 (ps_if (lzT c) (lzS ss) (lzS ss')) (hc H (.refl H) _ fun t H' s => by
    cases t with
    | true => exact iteT (k1 H' s)
    | false => exact iteF (k2 H' s)))
/-! keywords alone -/
theorem pe_callK0 {CX : CXT} {k : Nat} {f : Addr} {fd : FuncData} {ps ks : List Str} {sp : Sp} {E : XK} {x : Str} {p pos : Pos} {kws : List Keyword} {tk : TA} {g : List Value → List Value → List Value} {gV : List V → List V → List V} (F : FnOk X.prog X.w X.K X.mg X.base CX k f fd ps sp) (hr : Room k X.A) (hg : Gl X x) (hm : X.mg x = some (.ref f)) (hk : PySem.W.keepIn X.K (.ref f) = true) (hb : KBinds X.K fd ps ks g gV) (hx : Passes CX X E)
    (hkw : PK X kws tk) (hall : (backToKw pos (keywordEach kws X.env)).all (·.1.isSome) = true) (hks : (backToKw pos (keywordEach kws X.env)).filterMap (·.1) = ks)
    (hdb : (x == ("__debug__" : Str)) = false) (hpl : ((backTo pos (starEach [] X.env)).any (·.1) || (backToKw pos (keywordEach kws X.env)).any (·.1.isNone)) = false) :
    PE X (.Call (.Name x p) [] kws pos) (fun σ H Q => tk σ H fun zs H2 => sp (gV [] zs) H2 Q E) := by
  refine ⟨fun pins s σ H Q I h => ?_⟩
  refine wpAny_Call_Name_kw (ld_glob I hg hm ?_ hdb)
  refine PySem.W.callWith_KW0 (h₀ := X.base) I.ok.mod.kin hk hall (thn (hkw.run pos pins s σ H _ I h) fun ws s2 ⟨zs, H2, I2, rz, q2⟩ => ⟨I2.kIn, ?_⟩) hpl
  rw [hks]
  exact run_fnk F hr hb hx I2 .nil rz q2
end
end Nh
set_option Elab.async false
set_option linter.all false
set_option maxRecDepth 100000
namespace Nh
open PySem PySem.Spec PyProof.Rows L2
section
variable {X : Cx} {σ : L2.St} {H : Hp} {D : Ends} {rest : List Stmt} {e elt : Expr} {scope : Scope} {pos p p3 : Pos}
/-- [e for y in range(..)] of ints, with effects -/
theorem lcW {i : Nat} {P : Int → Prop} {Q : VK}
    (h : WE X e σ H fun v Hb => ∃ n : Nat, v = .int (n : Int) ∧ n < 2 ^ 62 ∧ n ≤ 4000 ∧ ∃ Iv : Nat → Hp → Prop, Iv 0 Hb ∧ (∀ k H1, Iv k H1 → ∀ D vs, Hb D = none → H1 D = some (.lst vs) → ∀ H2, But D H1 H2 → Iv k H2) ∧ (∀ k D H1, Hb D = none → Iv k H1 → H1 D = none → ∀ o, Iv k (upd H1 D o)) ∧
      (∀ k H1, k < n → Iv k H1 → InBlk X scope fun Y => WE Y elt ((wipe σ [i]).set i (some (.int (k : Int)))) H1 fun u H2 => ∃ x : Int, u = .int x ∧ P x ∧ Iv (k + 1) H2 ∧ ∀ D vs, Hb D = none → H1 D = some (.lst vs) → H2 D = some (.lst vs)) ∧
      ∀ q xs H', xs.length = n → (∀ x, x ∈ xs → P x) → Hb q = none → LsR H' q xs → Iv n H' → Q (.ref q) H') :
    tLc (iRng1 (tCons (WE X e) tNil)) (gName i) tYes (fun σ H Q => InBlk X scope fun Y => WE Y elt σ H Q) [i] σ H Q := by
  refine WE.mono h fun v Hb z => ?_
  obtain ⟨n, rfl, hn, h40, Iv, i0, st1, st0, step, done⟩ := z
  refine ⟨(n : Int), rfl, by omega, by omega, ?_⟩
  rw [Int.toNat_natCast]
  intro D hD
  refine ⟨fun k m H => m = n - k ∧ k ≤ n ∧ Iv k H ∧ ∃ xs : List Int, H D = some (.lst (xs.map V.int)) ∧ xs.length = k ∧ ∀ x, x ∈ xs → P x, ⟨_, rfl, Nat.zero_le _, st0 0 D Hb hD i0 hD _, [], upd_same, rfl, fun x hx => absurd hx List.not_mem_nil⟩, ?_⟩
  rintro k m H2 ⟨rfl, hk, iv, xs, hx, hl, hP⟩
  by_cases hlt : k < n
  · refine .inr ⟨hlt, fun H' => k + 1 ≤ n ∧ Iv (k + 1) H' ∧ ∃ xs : List Int, H' D = some (.lst (xs.map V.int)) ∧ xs.length = k + 1 ∧ ∀ x, x ∈ xs → P x, fun H' h' => ⟨n - (k + 1), by omega, rfl, h'.1, h'.2⟩, fun v H3 yy => ?_⟩
    obtain ⟨rfl, rfl⟩ := yy
    refine ⟨by show ((σ.set i none).set i (some _)).set i none = _; rw [List.set_set, List.set_set]; rfl, ?_⟩
    dsimp only [tYes]
    rw [if_pos rfl]
    intro a b c d e
    have e0 : (0 : Int) + (k : Int) = (k : Int) := Int.zero_add _
    have w := step k _ hlt iv a b c d e
    rw [← e0] at w
    refine WE.mono w fun u H4 z => ?_
    obtain ⟨x, rfl, hPx, iv4, keep⟩ := z
    have hx4 := keep D _ hD hx
    refine ⟨_, hx4, by rw [List.length_map, hl]; exact lt_small (by omega), hlt, ?_, xs ++ [x], ?_, by rw [List.length_append, hl]; rfl, fun z hz => ?_⟩
    · exact st1 (k + 1) H4 iv4 D _ hD hx4 _ .upd
    · rw [upd_same, List.map_append]; rfl
    · rcases List.mem_append.mp hz with q | q
      · exact hP z q
      · rw [List.mem_singleton.mp q]; exact hPx
  · have e1 : k = n := by omega
    subst e1
    exact .inl ⟨Nat.le_refl _, done D xs H2 hl hP hD (LsR.ints.mpr hx) iv⟩
/-- as an expression -/
theorem wlcW {i : Nat} {y : Str} {py : Pos} {Q : VK} (hc : X.calm = true) (nd : X.N.Nodup) (ok : blkC X.N X.env.scope scope [(y, i)] = true) (hm : X.mg "range" = none)
    (h : tLc (iRng1 (tCons (WE X e) tNil)) (gName i) tYes (fun σ H Q => InBlk X scope fun Y => WE Y elt σ H Q) [i] σ H Q)
    (na : Ns X e := by intro _; rfl) (hgl : Gl X "range" := by rfl) (hg : InBlk X scope fun Y => PG Y (.Name y py) (gName i) := by intro _ _ _ _ _; first | exact pg_name (by assumption) rfl (Or.inl rfl) | exact pg_name (by assumption) rfl (Or.inr rfl)) :
    WE X (.ListComp elt [⟨.Name y py, .Call (.Name "range" p) [e] [] p3, [], 0⟩] scope pos) σ H Q :=
  we (pe_lc hc nd (pi_range1 hgl hm (pa_cons (lzE e) pa_nil (na _)) (na _)) (blkOk_by ok) hg (fun _ _ _ _ _ => pts_nil) (fun a b c d e => ⟨fun pins s _ _ _ I h => (h a b c d e).run pins s I⟩) (by intro _; rfl)) h
/-- tuple(e) of a new list of ints -/
theorem wtupL {Q : VK} {a : Expr} (hm : X.mg "tuple" = none) (h : WE X a σ H fun v H1 => ∃ (q : Addr) (xs : List Int), v = .ref q ∧ LsR H1 q xs ∧ ∀ u H2, Same H1 H2 → Rep.rep H2 u xs → Q u H2) (na : Ns X a := by intro _; rfl) (hg : Gl X "tuple" := by rfl) : WE X (.Call (.Name "tuple" p) [a] [] pos) σ H Q :=
  we (pe_callTy call_tuple_of hg hm boot_tuple (pa_cons (lzE a) pa_nil (na _)) (by decide) (by decide) (na _) rfl) (WE.mono h fun v H1 ⟨q, xs, ev, l, k⟩ => by
    subst ev
    obtain ⟨vs, h1, h2⟩ := l
    exact ⟨q, vs, rfl, .inl ⟨.of h1, fun t ht => k _ _ (same_new ht) ⟨t, vs, rfl, upd_same, h2.up (tk_of (same_new ht))⟩⟩⟩)
end
end Nh
set_option Elab.async false
set_option linter.all false
set_option maxRecDepth 100000
namespace Nh
open PySem PySem.Spec PyProof.Rows L2
/-! ### a list of lists of ints, each an object of its own -/
structure LL (H : Hp) (p : Addr) (qs : List Addr) (rs : List (List Int)) : Prop where
  out : H p = some (.lst (qs.map V.ref))
  len : qs.length = rs.length
  row : ∀ (i : Nat) q r, qs[i]? = some q → rs[i]? = some r → H q = some (.lst (r.map V.int))
  nd : qs.Nodup
  nin : p ∉ qs
section
variable {H H' : Hp} {p : Addr} {qs : List Addr} {rs : List (List Int)}
theorem LL.up (h : LL H p qs rs) (s : Same H H') : LL H' p qs rs := ⟨s _ _ h.out, h.len, fun i q r a b => s _ _ (h.row i q r a b), h.nd, h.nin⟩
theorem LL.get (h : LL H p qs rs) {i : Nat} (hi : i < rs.length) : ∃ q r, qs[i]? = some q ∧ rs[i]? = some r ∧ LsR H q r ∧ q ≠ p := by
  obtain ⟨q, hq⟩ : ∃ q, qs[i]? = some q := ⟨qs[i]'(by rw [h.len]; exact hi), List.getElem?_eq_getElem _⟩
  obtain ⟨r, hr⟩ : ∃ r, rs[i]? = some r := ⟨rs[i], List.getElem?_eq_getElem hi⟩
  exact ⟨q, r, hq, hr, LsR.ints.mpr (h.row i q r hq hr), fun e => h.nin (e ▸ List.mem_of_getElem? hq)⟩
/-- another object is written -/
theorem LL.but {a : Addr} (h : LL H p qs rs) (t : But a H H') (hp : p ≠ a) (hq : a ∉ qs) : LL H' p qs rs := ⟨t p _ hp h.out, h.len, fun i q r x y => t q _ (fun e => hq (e ▸ List.mem_of_getElem? x)) (h.row i q r x y), h.nd, h.nin⟩
/-- a row is written -/
theorem LL.put (h : LL H p qs rs) {i : Nat} {q : Addr} {r' : List Int} (hq : qs[i]? = some q) (t : But q H H') (l : LsR H' q r') : LL H' p qs (rs.set i r') := by
  refine ⟨t p _ (fun e => h.nin (e ▸ List.mem_of_getElem? hq)) h.out, by rw [List.length_set]; exact h.len, fun j q2 r2 a b => ?_, h.nd, h.nin⟩
  by_cases e : j = i
  · subst e
    rw [hq] at a
    cases a
    have hl : j < rs.length := by rw [← h.len]; exact (List.getElem?_eq_some_iff.mp hq).1
    rw [List.getElem?_set_self hl] at b
    cases b
    exact LsR.ints.mp l
  · rw [List.getElem?_set_ne (Ne.symm e)] at b
    refine t q2 _ (fun z => ?_) (h.row j q2 r2 a b)
    subst z
    obtain ⟨h1, e1⟩ := List.getElem?_eq_some_iff.mp a
    obtain ⟨h2, e2⟩ := List.getElem?_eq_some_iff.mp hq
    exact e ((List.getElem_inj h.nd).mp (e1.trans e2.symm))
end
theorem LL.has {H : Hp} {p : Addr} {qs : List Addr} {rs : List (List Int)} (h : LL H p qs rs) {q : Addr} (hq : q ∈ qs) : ∃ vs, H q = some (.lst vs) := by
  obtain ⟨j, hj⟩ := List.getElem?_of_mem hq
  have jl : j < rs.length := by rw [← h.len]; exact (List.getElem?_eq_some_iff.mp hj).1
  exact ⟨_, h.row j q _ hj (List.getElem?_eq_getElem jl)⟩
theorem LL.fresh {H : Hp} {p : Addr} {qs : List Addr} {rs : List (List Int)} (h : LL H p qs rs) {q : Addr} (hq : H q = none) : q ∉ qs := fun m => by
  obtain ⟨vs, h1⟩ := h.has m
  rw [hq] at h1; cases h1
theorem LL.snoc {H5 : Hp} {D q : Addr} {qs : List Addr} {rs : List (List Int)} {r : List Int} (h : LL H5 D qs rs) (nqD : q ≠ D) (nqs : q ∉ qs) (l : LsR H5 q r) : LL (upd H5 D (.lst (qs.map V.ref ++ [V.ref q]))) D (qs ++ [q]) (rs ++ [r]) := by
  refine ⟨by rw [upd_same, List.map_append]; rfl, by rw [List.length_append, List.length_append, h.len]; rfl, fun i q' r' a b => ?_, List.nodup_append.mpr ⟨h.nd, List.nodup_cons.mpr ⟨List.not_mem_nil, List.nodup_nil⟩, fun x hx y hy e => ?_⟩, fun m => ?_⟩
  · by_cases hi : i < qs.length
    · rw [List.getElem?_append_left hi] at a
      rw [List.getElem?_append_left (by rw [← h.len]; exact hi)] at b
      rw [upd_ne (fun e : q' = D => h.nin (by rw [← e]; exact List.mem_of_getElem? a))]
      exact h.row i q' r' a b
    · have hi2 : i = qs.length := by
        have := (List.getElem?_eq_some_iff.mp a).1
        rw [List.length_append] at this
        change i < qs.length + 1 at this
        omega
      subst hi2
      rw [List.getElem?_append_right (Nat.le_refl _), Nat.sub_self] at a
      rw [h.len, List.getElem?_append_right (Nat.le_refl _), Nat.sub_self] at b
      have e1 : q = q' := Option.some.inj a
      have e2 : r = r' := Option.some.inj b
      subst e1; subst e2
      rw [upd_ne nqD]
      exact LsR.ints.mp l
  · rw [List.mem_singleton.mp hy] at e
    exact nqs (e ▸ hx)
  · rcases List.mem_append.mp m with z | z
    · exact h.nin z
    · exact nqD (List.mem_singleton.mp z).symm
/-- the lists of two, in one -/
theorem LL.join {H : Hp} {p p' t : Addr} {qs qs' : List Addr} {rs rs' : List (List Int)} (h : LL H p qs rs) (h' : LL H p' qs' rs') (ht : H t = none) (hn : ∀ q, q ∈ qs' → q ∉ qs) : LL (upd H t (.lst (qs.map V.ref ++ qs'.map V.ref))) t (qs ++ qs') (rs ++ rs') := by
  refine ⟨by rw [upd_same, List.map_append], by rw [List.length_append, List.length_append, h.len, h'.len], fun i q r a b => ?_, List.nodup_append.mpr ⟨h.nd, h'.nd, fun x hx y hy e => hn y hy (e ▸ hx)⟩, fun m => ?_⟩
  · rw [upd_ne (fun e : q = t => by
      rcases List.mem_append.mp (List.mem_of_getElem? a) with z | z
      · exact h.fresh ht (e ▸ z)
      · exact h'.fresh ht (e ▸ z))]
    by_cases hi : i < qs.length
    · rw [List.getElem?_append_left hi] at a
      rw [List.getElem?_append_left (by rw [← h.len]; exact hi)] at b
      exact h.row i q r a b
    · rw [List.getElem?_append_right (by omega)] at a
      rw [List.getElem?_append_right (by rw [← h.len]; omega), ← h.len] at b
      exact h'.row _ q r a b
  · rcases List.mem_append.mp m with z | z
    · exact h.fresh ht z
    · exact h'.fresh ht z
theorem LL.add {H H5 : Hp} {D q : Addr} {qs : List Addr} {rs : List (List Int)} {r : List Int} (h : LL H D qs rs) (s : Same H H5) (nq : H q = none) (l : LsR H5 q r) : LL (upd H5 D (.lst (qs.map V.ref ++ [V.ref q]))) D (qs ++ [q]) (rs ++ [r]) := by
  exact (h.up s).snoc (fun e => by rw [e, h.out] at nq; cases nq) (h.fresh nq) l
section
variable {X : Cx} {σ : L2.St} {H : Hp} {α : Type} [Rep α] {iter elt : Expr} {scope : Scope} {pos : Pos}
/-- [.. for y in ..] whose items are new lists of ints -/
theorem compLL {S : Hp → Option Addr → Prop} {i : Nat} {y : Str} {py : Pos} {xs : List α} {f : α → List Int} (hc : X.calm = true) (nd : X.N.Nodup) (ok : blkC X.N X.env.scope scope [(y, i)] = true) (hi : XI X σ H (.Name y py) iter S xs) (len : xs.length ≤ sizeLine)
    (he : ∀ (k : Nat) x, xs[k]? = some x → ∀ v H1, Same H H1 → Rep.rep H1 v x → InBlk X scope fun Y => EL Y ((wipe σ [i]).set i (some v)) H1 elt (f x)) (hg : InBlk X scope fun Y => PG Y (.Name y py) (gName i) := by intro _ _ _ _ _; first | exact pg_name (by assumption) rfl (Or.inl rfl) | exact pg_name (by assumption) rfl (Or.inr rfl)) (hs : ∀ x, foldedSetIterable iter X.env x = pure x := by intro _; rfl) :
    CL X σ H (.ListComp elt [⟨.Name y py, iter, [], 0⟩] scope pos) fun H1 H' v => ∃ p qs, v = .ref p ∧ H1 p = none ∧ LL H' p qs (xs.map f) ∧ ∀ q, q ∈ qs → H1 q = none := by
  have key : ∀ H1, Same H H1 → ∀ Q : VK, (∀ v H', Same H1 H' → (∃ p qs, v = .ref p ∧ H1 p = none ∧ LL H' p qs (xs.map f) ∧ ∀ q, q ∈ qs → H1 q = none) → Q v H') → tLc (WI X (.Name y py) iter) (gName i) tYes (fun σ H Q => InBlk X scope fun Y => WE Y elt σ H Q) [i] σ H1 Q := fun H1 s Q q => by
    refine hi H1 s _ fun J Hb src s1 _ it D hD => ?_
    refine ⟨fun i m H => m = xs.length - i ∧ i ≤ xs.length ∧ Same Hb H ∧ ∃ qs, LL H D qs ((xs.take i).map f) ∧ ∀ q, q ∈ qs → Hb q = none, ⟨_, rfl, Nat.zero_le _, same_new hD, [], ⟨upd_same, rfl, fun i q r a => by simp at a, List.nodup_nil, List.not_mem_nil⟩, fun q hq => absurd hq List.not_mem_nil⟩, ?_⟩
    rintro k m H2 ⟨rfl, hk, s2, qs, ll, hnew⟩
    have kp := it.keep s2
    by_cases hlt : k < xs.length
    · have hx : xs[k]? = some xs[k] := List.getElem?_eq_getElem hlt
      obtain ⟨g1, g2⟩ := it.go k _ H2 hx kp
      refine .inr ⟨g1, fun H' => k + 1 ≤ xs.length ∧ Same Hb H' ∧ ∃ qs, LL H' D qs ((xs.take (k + 1)).map f) ∧ ∀ q, q ∈ qs → Hb q = none, fun H' h' => ⟨xs.length - (k + 1), by omega, rfl, h'.1, h'.2⟩, fun v H3 yy => ?_⟩
      obtain ⟨s3, r3⟩ := g2 v H3 yy
      refine ⟨by show ((σ.set i none).set i (some v)).set i none = _; rw [List.set_set, List.set_set]; rfl, ?_⟩
      dsimp only [tYes]
      rw [if_pos rfl]
      intro a b c d e
      refine he k _ hx v H3 (((s.trans s1).trans s2).trans s3) r3 a b c d e H3 (.refl _) _ fun u H4 s4 ⟨q0, eu, nq, l⟩ => ?_
      subst eu
      have s34 := s3.trans s4
      have ll4 := ll.up s34
      refine ⟨_, ll4.out, ?_, hlt, same_upd (s2.trans s34) hD, qs ++ [q0], ?_, fun z hz => ?_⟩
      · rw [List.length_map, ll.len, List.length_map, List.length_take]; omega
      · rw [take_snoc hx, List.map_append]
        exact (ll.up s3).add s4 nq l
      · rcases List.mem_append.mp hz with w | w
        · exact hnew z w
        · rw [List.mem_singleton.mp w]
          exact (s2.trans s3).free nq
    · have e : k = xs.length := by omega
      subst e
      rw [List.take_length] at ll
      exact .inl ⟨it.stop H2 kp, q _ _ (s1.trans s2) ⟨D, qs, rfl, s1.free hD, ll, fun z hz => s1.free (hnew z hz)⟩⟩
  have he2 : InBlk X scope fun Y => PE Y elt (fun σ H Q => InBlk X scope fun Y => WE Y elt σ H Q) := fun a b c d e => ⟨fun pins s _ _ _ I h => (h a b c d e).run pins s I⟩
  exact ⟨fun H1 s Q q => we (pe_lc hc nd (lzI X _ iter) (blkOk_by ok) hg (fun _ _ _ _ _ => pts_nil) he2 hs) (key H1 s Q q), fun i y py spos D hi hl hw k => w1 (ps_setLc hc nd hi hl hw (lzI X _ iter) (blkOk_by ok) hg (fun _ _ _ _ _ => pts_nil) he2 hs) (key H (.refl H) _ fun v H' s r => k v H' s r)⟩
end
end Nh
set_option Elab.async false
set_option linter.all false
set_option maxRecDepth 100000
namespace Nh
open PySem PySem.Spec PyProof.Rows L2
section
variable {X : Cx} {σ : L2.St} {H : Hp} {D : Ends} {rest : List Stmt} {a b e elt : Expr} {scope : Scope} {pos p p3 spos : Pos}
/-- name = [e for y in range(..)], the name a plain local, with effects -/
theorem ssetLW (t : Nat) {i : Nat} {z y : Str} {pz py : Pos} (hc : X.calm = true) (nd : X.N.Nodup) (ok : blkC X.N X.env.scope scope [(y, i)] = true) (hm : X.mg "range" = none)
    (h : tLc (iRng1 (tCons (WE X e) tNil)) (gName i) tYes (fun σ H Q => InBlk X scope fun Y => WE Y elt σ H Q) [i] σ H (fun v H' => WS X rest D (σ.set t (some v)) H'))
    (ht : X.N[t]? = some z := by rfl) (hl : X.env.scope.names.lookup z = some .local := by rfl)
    (hw : swapsWith (.ListComp elt [⟨.Name y py, .Call (.Name "range" p) [e] [] p3, [], 0⟩] scope pos) (some (.Name z pz)) spos.line X.env = pure true := by exact sw_true rfl rfl rfl (by decide +kernel))
    (na : Ns X e := by intro _; rfl) (hgl : Gl X "range" := by rfl) (hg : InBlk X scope fun Y => PG Y (.Name y py) (gName i) := by intro _ _ _ _ _; first | exact pg_name (by assumption) rfl (Or.inl rfl) | exact pg_name (by assumption) rfl (Or.inr rfl)) :
    WS X (.Assign [.Name z pz] (.ListComp elt [⟨.Name y py, .Call (.Name "range" p) [e] [] p3, [], 0⟩] scope pos) spos :: rest) D σ H :=
  wcons (w1 (ps_setLc hc nd ht hl hw (pi_range1 hgl hm (pa_cons (lzE e) pa_nil (na _)) (na _)) (blkOk_by ok) hg (fun _ _ _ _ _ => pts_nil) (fun a b c d e => ⟨fun pins s _ _ _ I h => (h a b c d e).run pins s I⟩) (by intro _; rfl)) h)
/-- a == b with effects -/
theorem weqT {Q : Bool → Hp → Prop} (h : WE X a σ H fun v H1 => WE X b σ H1 fun u H2 => ∃ i j : Int, v = .int i ∧ u = .int j ∧ Q (decide (i = j)) H2) : WT X (.Compare a [.Eq] [b] pos) σ H Q :=
  wt (pt_cmp (pc_eqI (lzE a) (lzE b)) (nomark b)) (WE.mono h fun v H1 h1 => WE.mono h1 fun u H2 ⟨i, j, e1, e2, q⟩ => ⟨i, j, e1, e2, _, rfl, q⟩)
theorem wandT {Q : Bool → Hp → Prop} {t : Bool} (ha : ET X σ H a t) (hb : t = true → ∀ H', Same H H' → WT X b σ H' Q) (hf : t = false → ∀ H', Same H H' → Q false H') : WT X (.BoolOp .And [a, b] pos) σ H Q :=
  wt (PW.pt (pw_and (lzT a) (pw_and1 (lzT b)))) (ha H (.refl H) _ fun H' s' => by
    cases t with
    | true => exact iteT (hb rfl H' s')
    | false => exact iteF (hf rfl H' s'))
/-- a - b, a + b, a * b with effects -/
theorem wopE {op : Operator} {g : Int → Int → Int} {Q : VK} (ho : OpR X (binaryOp op) (rI0 fun i j => .int (g i j))) (h : WE X a σ H fun v H1 => WE X b σ H1 fun u H2 => ∃ i j : Int, v = .int i ∧ u = .int j ∧ Q (.int (g i j)) H2) : WE X (.BinOp a op b pos) σ H Q :=
  we (pe_op ho (lzE a) (lzE b)) (WE.mono h fun v H1 h1 => WE.mono h1 fun u H2 ⟨i, j, e1, e2, q⟩ => ⟨i, j, e1, e2, q⟩)
theorem wsubE {Q : VK} (h : WE X a σ H fun v H1 => WE X b σ H1 fun u H2 => ∃ i j : Int, v = .int i ∧ u = .int j ∧ Q (.int (i - j)) H2) : WE X (.BinOp a .Sub b pos) σ H Q := wopE op_sub h
theorem waddE {Q : VK} (h : WE X a σ H fun v H1 => WE X b σ H1 fun u H2 => ∃ i j : Int, v = .int i ∧ u = .int j ∧ Q (.int (i + j)) H2) : WE X (.BinOp a .Add b pos) σ H Q := wopE op_add h
theorem wmulE {Q : VK} (h : WE X a σ H fun v H1 => WE X b σ H1 fun u H2 => ∃ i j : Int, v = .int i ∧ u = .int j ∧ CMulX i j ∧ Q (.int (i * j)) H2) : WE X (.BinOp a .Mult b pos) σ H Q :=
  we (pe_op op_mulX (lzE a) (lzE b)) (WE.mono h fun v H1 h1 => WE.mono h1 fun u H2 ⟨i, j, e1, e2, c, q⟩ => ⟨i, j, e1, e2, c, q⟩)
/-- [e for y in range(..)] with effects, any values -/
theorem lcWG {i : Nat} {Q : VK}
    (h : WE X e σ H fun v Hb => ∃ n : Nat, v = .int (n : Int) ∧ n < 2 ^ 62 ∧ n ≤ 4000 ∧ ∀ D, Hb D = none → ∃ Iv : Nat → List V → Hp → Prop, Iv 0 [] (upd Hb D (.lst [])) ∧
      (∀ k us H1, k < n → us.length = k → H1 D = some (.lst us) → Iv k us H1 → InBlk X scope fun Y => WE Y elt ((wipe σ [i]).set i (some (.int (k : Int)))) H1 fun u H2 => H2 D = some (.lst us) ∧ Iv (k + 1) (us ++ [u]) (upd H2 D (.lst (us ++ [u])))) ∧
      ∀ us H', us.length = n → H' D = some (.lst us) → Iv n us H' → Q (.ref D) H') :
    tLc (iRng1 (tCons (WE X e) tNil)) (gName i) tYes (fun σ H Q => InBlk X scope fun Y => WE Y elt σ H Q) [i] σ H Q := by
  refine WE.mono h fun v Hb z => ?_
  obtain ⟨n, rfl, hn, h40, hD⟩ := z
  refine ⟨(n : Int), rfl, by omega, by omega, ?_⟩
  rw [Int.toNat_natCast]
  intro D nD
  obtain ⟨Iv, i0, step, done⟩ := hD D nD
  refine ⟨fun k m H => m = n - k ∧ k ≤ n ∧ ∃ us : List V, H D = some (.lst us) ∧ us.length = k ∧ Iv k us H, ⟨_, rfl, Nat.zero_le _, [], upd_same, rfl, i0⟩, ?_⟩
  rintro k m H2 ⟨rfl, hk, us, hx, hl, iv⟩
  by_cases hlt : k < n
  · refine .inr ⟨hlt, fun H' => k + 1 ≤ n ∧ ∃ us : List V, H' D = some (.lst us) ∧ us.length = k + 1 ∧ Iv (k + 1) us H', fun H' h' => ⟨n - (k + 1), by omega, rfl, h'.1, h'.2⟩, fun v H3 yy => ?_⟩
    obtain ⟨rfl, rfl⟩ := yy
    refine ⟨by show ((σ.set i none).set i (some _)).set i none = _; rw [List.set_set, List.set_set]; rfl, ?_⟩
    dsimp only [tYes]
    rw [if_pos rfl]
    intro a b c d e
    have e0 : (0 : Int) + (k : Int) = (k : Int) := Int.zero_add _
    have w := step k us _ hlt hl hx iv a b c d e
    rw [← e0] at w
    refine WE.mono w fun u H4 z => ?_
    obtain ⟨h4, iv4⟩ := z
    exact ⟨us, h4, by rw [hl]; exact lt_small (by omega), hlt, us ++ [u], upd_same, by rw [List.length_append, hl]; rfl, iv4⟩
  · have e1 : k = n := by omega
    subst e1
    exact .inl ⟨Nat.le_refl _, done us H2 hl hx iv⟩
end
end Nh
set_option Elab.async false
set_option linter.all false
set_option maxRecDepth 100000
namespace Nh
open PySem PySem.Spec PyProof.Rows L2
/-! ### tuples out of lists of lists -/
def rawR (q : Addr) : Raw := Raw.mk (.ref q)
theorem LL.raws {H : Hp} {p : Addr} {qs : List Addr} {rs : List (List Int)} (h : LL H p qs rs) : LsR H p (qs.map rawR) := by
  refine ⟨_, h.out, ?_⟩
  have : ∀ l : List Addr, A2 (Rep.rep H) (l.map V.ref) (l.map rawR) := fun l => by
    induction l with
    | nil => exact .nil
    | cons a l ih => exact .cons rfl ih
  exact this qs
def adR (x : Raw) : Addr := match x.v with
  | .ref q => q
  | _ => 0
theorem LL.rowAt {H : Hp} {p : Addr} {qs : List Addr} {rs : List (List Int)} (h : LL H p qs rs) : (qs.map rawR).map (fun x => rs.getD (qs.idxOf (adR x)) []) = rs := by
  refine List.ext_getElem? fun i => ?_
  rw [List.map_map, List.getElem?_map]
  by_cases hi : i < qs.length
  · rw [List.getElem?_eq_getElem hi]
    show some (rs.getD (qs.idxOf qs[i]) []) = rs[i]?
    have e : qs.idxOf qs[i] = i := by
      have h1 : qs.idxOf qs[i] < qs.length := List.idxOf_lt_length_iff.mpr (List.getElem_mem hi)
      have h2 : qs[qs.idxOf qs[i]] = qs[i] := List.getElem_idxOf h1
      exact (List.getElem_inj h.nd).mp h2
    rw [e, List.getD_eq_getElem?_getD, List.getElem?_eq_getElem (by rw [← h.len]; exact hi)]; rfl
  · rw [List.getElem?_eq_none (by omega), List.getElem?_eq_none (by rw [← h.len]; omega)]; rfl
section
variable {X : Cx} {σ : L2.St} {H : Hp} {e : Expr} {scope : Scope} {pos p1 p2 p3 p4 p5 p6 : Pos}
theorem xtt {i : Nat} {y : Str} {py : Pos} {p : Addr} {qs : List Addr} {rs : List (List Int)} (hc : X.calm = true) (nd : X.N.Nodup) (ok : blkC X.N X.env.scope scope [(y, i)] = true) (ht : X.mg "tuple" = none) (ll : LL H p qs rs) (he : Ex X σ H e (Raw.mk (.ref p))) (hz : rs.length ≤ 4000)
    (hel : ∀ (k : Nat) q r, qs[k]? = some q → rs[k]? = some r → ∀ H1, Same H H1 → InBlk X scope fun Y => Ex Y ((wipe σ [i]).set i (some (.ref q))) H1 (.Call (.Name "tuple" p1) [.Name y p2] [] p3) r)
    (hg : InBlk X scope fun Y => PG Y (.Name y py) (gName i) := by intro _ _ _ _ _; first | exact pg_name (by assumption) rfl (Or.inl rfl) | exact pg_name (by assumption) rfl (Or.inr rfl)) (hs : ∀ x, foldedSetIterable e X.env x = pure x := by intro _; rfl)
    (na : Ns X (.ListComp (.Call (.Name "tuple" p1) [.Name y p2] [] p3) [⟨.Name y py, e, [], 0⟩] scope p4) := by intro _; rfl) (hgl : Gl X "tuple" := by rfl) :
    Ex X σ H (.Call (.Name "tuple" p5) [.ListComp (.Call (.Name "tuple" p1) [.Name y p2] [] p3) [⟨.Name y py, e, [], 0⟩] scope p4] [] p6) rs := by
  have h := comp1 (i := i) (f := fun x : Raw => rs.getD (qs.idxOf (adR x)) []) hc nd ok (wlst ll.raws he) (by rw [List.length_map, ll.len]; exact len_small hz) (fun k x hx v H1 s r => ?_) hg hs (pos := p4) (elt := .Call (.Name "tuple" p1) [.Name y p2] [] p3)
  · have h2 := xtupE ht h.ev na hgl (p := p5) (pos := p6)
    exact h2.as ll.rowAt
  · rw [List.getElem?_map] at hx
    obtain ⟨q, hq, rfl⟩ := Option.map_eq_some_iff.mp hx
    have ev : v = V.ref q := r
    subst ev
    have hk : k < rs.length := by rw [← ll.len]; exact (List.getElem?_eq_some_iff.mp hq).1
    have e1 : rs.getD (qs.idxOf (adR (rawR q))) [] = rs[k] := by
      have h1 := ll.rowAt
      have h2 := congrArg (·[k]?) h1
      rw [List.getElem?_map, List.getElem?_map, hq, List.getElem?_eq_getElem hk] at h2
      exact Option.some.inj h2
    intro a b c d e
    rw [e1]
    exact hel k q _ hq (List.getElem?_eq_getElem hk) H1 s a b c d e
end
end Nh
set_option Elab.async false
set_option linter.all false
namespace Nh
/-! ### boards as lists of rows -/
abbrev Bd := List (List Int)
def at2 (b : Bd) (i j : Nat) : Int := (b.getD i []).getD j 0
def wid (b : Bd) : Nat := (b.getD 0 []).length
def ent (b : Bd) (k i j : Nat) : Int := if i = k ∨ j = k then - at2 b i j else at2 b i j + (((at2 b i k).natAbs : Int) * at2 b k j + at2 b i k * ((at2 b k j).natAbs : Int)) / 2
def srow (b : Bd) (n k i : Nat) : List Int := (List.range n).map (ent b k i)
def sw (b : Bd) (k : Nat) : Bd := (List.range b.length).map (srow b (wid b) k)
structure Wf (n m : Nat) (b : Bd) : Prop where
  one : 1 ≤ n
  le : n ≤ m
  len : b.length = m
  row : ∀ r, r ∈ b → r.length = n
theorem getD_of {α : Type} {l : List α} {i : Nat} {x d : α} (h : l[i]? = some x) : l.getD i d = x := by
  rw [List.getD_eq_getElem?_getD, h]; rfl
theorem get_mem {α : Type} {l : List α} {i : Nat} {x : α} (h : l[i]? = some x) : x ∈ l := List.mem_of_getElem? h
theorem get_lt {α : Type} {l : List α} {i : Nat} (h : i < l.length) : ∃ x, l[i]? = some x := ⟨l[i], List.getElem?_eq_getElem h⟩
theorem lt_get {α : Type} {l : List α} {i : Nat} {x : α} (h : l[i]? = some x) : i < l.length := (List.getElem?_eq_some_iff.mp h).1
section
variable {n m : Nat} {b : Bd}
theorem Wf.wid (h : Wf n m b) : wid b = n := by
  obtain ⟨r, hr⟩ := get_lt (l := b) (i := 0) (by rw [h.len]; have := h.one; have := h.le; omega)
  unfold Nh.wid
  rw [getD_of hr]
  exact h.row r (get_mem hr)
theorem Wf.at (h : Wf n m b) {i : Nat} {r : List Int} (hr : b[i]? = some r) (j : Nat) : at2 b i j = r.getD j 0 := by
  unfold at2; rw [getD_of hr]
theorem Wf.get (h : Wf n m b) {i j : Nat} {r : List Int} (hr : b[i]? = some r) (hj : j < n) : r[j]? = some (at2 b i j) := by
  obtain ⟨x, hx⟩ := get_lt (l := r) (i := j) (by rw [h.row r (get_mem hr)]; exact hj)
  rw [h.at hr, getD_of hx, hx]
theorem map_range_get {α : Type} {n j : Nat} (f : Nat → α) (h : j < n) : ((List.range n).map f)[j]? = some (f j) := by
  rw [List.getElem?_map, List.getElem?_range h]; rfl
theorem ext_get {α : Type} {n : Nat} {l : List α} {f : Nat → α} (h : l.length = n) (g : ∀ j, j < n → l[j]? = some (f j)) : l = (List.range n).map f := by
  refine List.ext_getElem? fun j => ?_
  by_cases hj : j < n
  · rw [g j hj, map_range_get f hj]
  · rw [List.getElem?_eq_none (by omega), List.getElem?_eq_none (by rw [List.length_map, List.length_range]; omega)]
theorem sw_len (b : Bd) (k : Nat) : (sw b k).length = b.length := by unfold sw; rw [List.length_map, List.length_range]
theorem Wf.sw_eq (h : Wf n m b) (k : Nat) : sw b k = (List.range m).map (srow b n k) := by unfold sw; rw [h.len, h.wid]
theorem Wf.sw_get (h : Wf n m b) {i : Nat} (hi : i < m) (k : Nat) : (sw b k)[i]? = some (srow b n k i) := by rw [h.sw_eq, map_range_get _ hi]
theorem Wf.sw (h : Wf n m b) (k : Nat) : Wf n m (sw b k) := ⟨h.one, h.le, by rw [sw_len, h.len], fun r hr => by
  rw [h.sw_eq] at hr
  obtain ⟨i, _, rfl⟩ := List.mem_map.mp hr
  unfold srow
  rw [List.length_map, List.length_range]⟩
theorem Wf.at_sw (h : Wf n m b) {i j : Nat} (hi : i < m) (hj : j < n) (k : Nat) : at2 (Nh.sw b k) i j = ent b k i j := by
  rw [(h.sw k).at (h.sw_get hi k)]
  unfold srow
  rw [getD_of (map_range_get _ hj)]
/-- the rows as the program makes them -/
theorem Wf.row_neg (h : Wf n m b) {k : Nat} {r : List Int} (hr : b[k]? = some r) : r.map (fun e => -e) = srow b n k k := by
  refine ext_get (by rw [List.length_map, h.row r (get_mem hr)]) fun j hj => ?_
  rw [List.getElem?_map, h.get hr hj]
  unfold ent
  rw [if_pos (.inl rfl)]; rfl
def mixE (s : Int) (e : Int × Int) : Int := e.1 + ((s.natAbs : Int) * e.2 + s * (e.2.natAbs : Int)) / 2
theorem Wf.row_mix (h : Wf n m b) {i k : Nat} {r hd : List Int} (hr : b[i]? = some r) (hh : b[k]? = some hd) (hk : k < n) (hik : i ≠ k) :
    ((r.zip hd).map (mixE (at2 b i k))).set k (- at2 b i k) = srow b n k i := by
  have l1 := h.row r (get_mem hr)
  have l2 := h.row hd (get_mem hh)
  refine ext_get (by rw [List.length_set, List.length_map, List.length_zip, l1, l2, Nat.min_self]) fun j hj => ?_
  by_cases e : j = k
  · subst e
    rw [List.getElem?_set_self (by rw [List.length_map, List.length_zip, l1, l2, Nat.min_self]; exact hj)]
    unfold ent
    rw [if_pos (.inr rfl)]
  · rw [List.getElem?_set_ne (Ne.symm e), List.getElem?_map, List.getElem?_zip_eq_some (z := (at2 b i j, at2 b k j)) |>.mpr ⟨h.get hr hj, h.get hh hj⟩]
    unfold ent
    rw [if_neg (by intro z; exact z.elim hik e)]
    rfl
end
/-! sizes -/
def Bits (B : Nat) (b : Bd) : Prop := ∀ r, r ∈ b → ∀ e, e ∈ r → e.natAbs < 2 ^ B
theorem Bits.at {B : Nat} {b : Bd} (h : Bits B b) (i j : Nat) : (at2 b i j).natAbs < 2 ^ B := by
  unfold at2
  have hp : 0 < 2 ^ B := Nat.two_pow_pos B
  by_cases hi : i < b.length
  · obtain ⟨r, hr⟩ := get_lt hi
    rw [getD_of hr]
    by_cases hj : j < r.length
    · obtain ⟨x, hx⟩ := get_lt hj
      rw [getD_of hx]
      exact h r (get_mem hr) x (get_mem hx)
    · rw [List.getD_eq_getElem?_getD, List.getElem?_eq_none (by omega)]
      exact hp
  · have e : b.getD i [] = [] := by rw [List.getD_eq_getElem?_getD, List.getElem?_eq_none (by omega)]; rfl
    rw [e]
    exact hp
theorem Bits.mono {B C : Nat} {b : Bd} (h : Bits B b) (hc : B ≤ C) : Bits C b := fun r hr e he => Nat.lt_of_lt_of_le (h r hr e he) (Nat.pow_le_pow_right (by decide) hc)
theorem ent_bits {B : Nat} {b : Bd} (h : Bits B b) (k i j : Nat) : (ent b k i j).natAbs < 2 ^ (2 * B + 2) := by
  have h1 := h.at i j
  have h2 := h.at i k
  have h3 := h.at k j
  unfold ent
  generalize at2 b i j = x at *
  generalize at2 b i k = y at *
  generalize at2 b k j = z at *
  have m1 : y.natAbs * z.natAbs < 2 ^ B * 2 ^ B := Nat.mul_lt_mul'' h2 h3
  have e2 : 2 ^ (2 * B + 2) = 4 * (2 ^ B * 2 ^ B) := by rw [Nat.pow_add, Nat.two_mul, Nat.pow_add]; omega
  have e3 : 2 ^ B ≤ 2 ^ B * 2 ^ B := Nat.le_mul_of_pos_left _ (Nat.two_pow_pos B)
  split
  · rw [Int.natAbs_neg, e2]
    omega
  · have a1 : ((y.natAbs : Int) * z).natAbs = y.natAbs * z.natAbs := by rw [Int.natAbs_mul, Int.natAbs_natCast]
    have a2 : (y * (z.natAbs : Int)).natAbs = y.natAbs * z.natAbs := by rw [Int.natAbs_mul, Int.natAbs_natCast]
    rw [e2]
    generalize (y.natAbs : Int) * z = p at *
    generalize y * (z.natAbs : Int) = q at *
    generalize 2 ^ B * 2 ^ B = M at *
    generalize 2 ^ B = N at *
    omega
theorem Bits.sw {B : Nat} {b : Bd} (h : Bits B b) (k : Nat) : Bits (2 * B + 2) (sw b k) := fun r hr e he => by
  unfold Nh.sw at hr
  obtain ⟨i, _, rfl⟩ := List.mem_map.mp hr
  unfold srow at he
  obtain ⟨j, _, rfl⟩ := List.mem_map.mp he
  exact ent_bits h k i j
end Nh
set_option Elab.async false
set_option linter.all false
namespace Nh
/-! ### the unit board, columns, green places -/
def swI (b : Bd) (k : Int) : Bd := sw b k.toNat
def swBy (b : Bd) (r : List Int) : Bd := r.foldl swI b
def unitRow (n : Nat) (i : Int) : List Int := (upto n).map fun j => if decide (i = j) = true then 1 else 0
def idm (n : Nat) : Bd := (upto n).map (unitRow n)
def unitB (b : Bd) : Bd := b.take (wid b) ++ idm (wid b)
def colOf (W : Bd) (j : Nat) : List Int := (W.drop (wid W)).map fun r => r.getD j 0
def cols (W : Bd) : Bd := (upto (wid W)).map fun j => colOf W j.toNat
def grn (W : Bd) (j : Nat) : Bool := ((W.drop (wid W)).map fun r => decide (0 < r.getD j 0)).any id
def greens (W : Bd) : List Int := (upto (wid W)).filter fun j => grn W j.toNat
/-- a row of places -/
def Places (n : Nat) (r : List Int) : Prop := ∀ p, p ∈ r → ∃ j : Nat, p = (j : Int) ∧ j < n
/-- sizes for t swaps more -/
def Fit (t : Nat) (b : Bd) : Prop := ∃ B, Bits B b ∧ (B + 2) * 2 ^ t ≤ 67108864
theorem Fit.mono {s t : Nat} {b : Bd} (h : Fit t b) (hs : s ≤ t) : Fit s b := by
  obtain ⟨B, h1, h2⟩ := h
  exact ⟨B, h1, Nat.le_trans (Nat.mul_le_mul_left _ (Nat.pow_le_pow_right (by decide) hs)) h2⟩
theorem Fit.sw {t : Nat} {b : Bd} (h : Fit (t + 1) b) (k : Nat) : Fit t (sw b k) := by
  obtain ⟨B, h1, h2⟩ := h
  refine ⟨2 * B + 2, h1.sw k, ?_⟩
  rw [Nat.pow_succ] at h2
  have : (2 * B + 2 + 2) * 2 ^ t = (B + 2) * (2 ^ t * 2) := by
    rw [show 2 * B + 2 + 2 = (B + 2) * 2 by omega, Nat.mul_assoc, Nat.mul_comm 2]
  omega
theorem Fit.small {t : Nat} {b : Bd} (h : Fit t b) : ∃ B, Bits B b ∧ 2 * B ≤ 134217728 := by
  obtain ⟨B, h1, h2⟩ := h
  refine ⟨B, h1, ?_⟩
  have : 1 ≤ 2 ^ t := Nat.one_le_two_pow
  have := Nat.mul_le_mul_left (B + 2) this
  omega
def preSwap (b : Bd) (k : Int) : Prop := ∃ n m j B, Wf n m b ∧ k = ((j : Nat) : Int) ∧ j < n ∧ Bits B b ∧ 2 * B ≤ 134217728 ∧ m ≤ 1000
theorem preSwap.of {n m j : Nat} {b : Bd} (w : Wf n m b) (hj : j < n) (f : Fit 0 b) (hm : m ≤ 1000) : preSwap b (j : Int) := by
  obtain ⟨B, h1, h2⟩ := f.small
  exact ⟨n, m, j, B, w, rfl, hj, h1, h2, hm⟩
section
variable {n m : Nat} {b : Bd}
theorem Wf.swI (h : Wf n m b) (k : Int) : Wf n m (swI b k) := h.sw _
theorem swBy_cons (b : Bd) (k : Int) (r : List Int) : swBy b (k :: r) = swBy (swI b k) r := rfl
theorem swBy_append (b : Bd) (r r' : List Int) : swBy b (r ++ r') = swBy (swBy b r) r' := List.foldl_append ..
theorem Wf.swBy : ∀ (r : List Int) {b : Bd}, Wf n m b → Wf n m (swBy b r)
  | [], _, h => h
  | k :: r, _, h => Wf.swBy r (h.swI k)
theorem Fit.swBy {t : Nat} : ∀ (r : List Int) {b : Bd}, Fit (t + r.length) b → Fit t (swBy b r)
  | [], _, h => h
  | k :: r, _, h => Fit.swBy r (Fit.sw (t := t + r.length) h k.toNat)
theorem unitRow_len (n : Nat) (i : Int) : (unitRow n i).length = n := by unfold unitRow; rw [List.length_map, upto_len]
theorem idm_len (n : Nat) : (idm n).length = n := by unfold idm; rw [List.length_map, upto_len]
theorem Wf.unit (h : Wf n m b) : Wf n (n + n) (unitB b) := by
  refine ⟨h.one, by omega, ?_, fun r hr => ?_⟩
  · unfold unitB
    rw [h.wid, List.length_append, List.length_take, idm_len, h.len]
    have := h.le
    omega
  · unfold unitB at hr
    rw [h.wid] at hr
    rcases List.mem_append.mp hr with z | z
    · exact h.row r (List.mem_of_mem_take z)
    · unfold idm at z
      obtain ⟨i, _, rfl⟩ := List.mem_map.mp z
      exact unitRow_len n i
theorem Bits.unit {B : Nat} (h : Bits B b) (hB : 1 ≤ B) : Bits B (unitB b) := fun r hr e he => by
  unfold unitB at hr
  rcases List.mem_append.mp hr with z | z
  · exact h r (List.mem_of_mem_take z) e he
  · unfold idm at z
    obtain ⟨i, _, rfl⟩ := List.mem_map.mp z
    unfold unitRow at he
    obtain ⟨j, _, rfl⟩ := List.mem_map.mp he
    have : 2 ^ 1 ≤ 2 ^ B := Nat.pow_le_pow_right (by decide) hB
    split <;> simp <;> omega
theorem Fit.unit {t : Nat} (h : Fit (t + 1) b) : Fit t (unitB b) := by
  obtain ⟨B, h1, h2⟩ := h
  refine ⟨B + 1, (h1.mono (Nat.le_succ B)).unit (by omega), ?_⟩
  rw [Nat.pow_succ] at h2
  have h3 : (B + 1 + 2) * 2 ^ t ≤ (B + 2) * 2 * 2 ^ t := Nat.mul_le_mul_right _ (by omega)
  rw [Nat.mul_assoc, Nat.mul_comm 2] at h3
  omega
theorem colOf_len (h : Wf n (n + n) b) (j : Nat) : (colOf b j).length = n := by
  unfold colOf
  rw [List.length_map, List.length_drop, h.len, h.wid]
  omega
end
end Nh
set_option Elab.async false
set_option linter.all false
namespace Nh
/-! ### rows in their order -/
def lx : List Int → List Int → Bool
  | x :: xs, y :: ys => decide (x < y) || (decide (x = y) && lx xs ys)
  | _, _ => false
def rl (a b : List Int) : Prop := a.length < b.length ∨ (a.length = b.length ∧ lx a b = true)
def rle (a b : List Int) : Prop := a = b ∨ rl a b
theorem lx_irr : ∀ a, lx a a = false
  | [] => rfl
  | x :: a => by
    show (decide (x < x) || (decide (x = x) && lx a a)) = false
    rw [lx_irr a, decide_eq_false (Int.lt_irrefl x)]; simp
theorem lx_tr : ∀ a b c, lx a b = true → lx b c = true → lx a c = true
  | x :: a, y :: b, z :: c, h1, h2 => by
    have ih := lx_tr a b c
    simp only [lx, Bool.or_eq_true, Bool.and_eq_true, decide_eq_true_eq] at h1 h2 ⊢
    rcases h1 with h1 | ⟨h1, h1'⟩ <;> rcases h2 with h2 | ⟨h2, h2'⟩
    · left; omega
    · left; omega
    · left; omega
    · right; exact ⟨by omega, ih h1' h2'⟩
  | [], _, _, h1, _ => by simp [lx] at h1
  | _ :: _, [], _, h1, _ => by simp [lx] at h1
  | _ :: _, _ :: _, [], _, h2 => by simp [lx] at h2
theorem lx_snoc : ∀ (a b : List Int) (p q : Int), a.length = b.length → (lx a b = true ∨ (a = b ∧ p < q)) → lx (a ++ [p]) (b ++ [q]) = true
  | [], [], p, q, _, h => by
    rcases h with h | ⟨_, h⟩
    · simp [lx] at h
    · simp [lx, h]
  | x :: a, y :: b, p, q, hl, h => by
    have ih := lx_snoc a b p q (by simpa using hl)
    simp only [List.cons_append, lx, Bool.or_eq_true, Bool.and_eq_true, decide_eq_true_eq] at h ⊢
    rcases h with (h | ⟨h, h'⟩) | ⟨h, h'⟩
    · left; exact h
    · right; exact ⟨h, ih (.inl h')⟩
    · injection h with h1 h2
      right; exact ⟨h1, ih (.inr ⟨h2, h'⟩)⟩
  | [], _ :: _, _, _, hl, _ => by simp at hl
  | _ :: _, [], _, _, hl, _ => by simp at hl
theorem rl_irr (a : List Int) : ¬ rl a a := fun h => by
  rcases h with h | ⟨_, h⟩
  · exact Nat.lt_irrefl _ h
  · rw [lx_irr] at h; cases h
theorem rl_tr {a b c : List Int} (h1 : rl a b) (h2 : rl b c) : rl a c := by
  rcases h1 with h1 | ⟨e1, h1⟩ <;> rcases h2 with h2 | ⟨e2, h2⟩
  · exact .inl (by omega)
  · exact .inl (by omega)
  · exact .inl (by omega)
  · exact .inr ⟨by omega, lx_tr _ _ _ h1 h2⟩
theorem rle_tr {a b c : List Int} (h1 : rle a b) (h2 : rle b c) : rle a c := by
  rcases h1 with rfl | h1
  · exact h2
  · rcases h2 with rfl | h2
    · exact .inr h1
    · exact .inr (rl_tr h1 h2)
theorem rle_rl {a b c : List Int} (h1 : rle a b) (h2 : rl b c) : rl a c := by
  rcases h1 with rfl | h1
  · exact h2
  · exact rl_tr h1 h2
theorem rle_anti {a b : List Int} (h1 : rle a b) (h2 : rle b a) : a = b := by
  rcases h1 with h1 | h1
  · exact h1
  · exact absurd (rle_rl h2 h1) (rl_irr b)
theorem rle_snoc {a b : List Int} (h : rle a b) (p : Int) : rle (a ++ [p]) (b ++ [p]) := by
  rcases h with rfl | h | ⟨e, h⟩
  · exact .inl rfl
  · exact .inr (.inl (by rw [List.length_append, List.length_append]; omega))
  · exact .inr (.inr ⟨by rw [List.length_append, List.length_append, e], lx_snoc _ _ _ _ e (.inl h)⟩)
theorem rl_snoc {a b : List Int} (h : rl a b) (p q : Int) (e : a.length = b.length) : rl (a ++ [p]) (b ++ [q]) := by
  rcases h with h | ⟨_, h⟩
  · omega
  · exact .inr ⟨by rw [List.length_append, List.length_append, e]; rfl, lx_snoc _ _ _ _ e (.inl h)⟩
theorem rl_last (a : List Int) {p q : Int} (h : p < q) : rl (a ++ [p]) (a ++ [q]) := .inr ⟨by rw [List.length_append, List.length_append]; rfl, lx_snoc _ _ _ _ rfl (.inr ⟨rfl, h⟩)⟩
/-! ### green rows -/
def grnI (W : Bd) (k : Int) : Bool := grn W k.toNat
def behind (b : Bd) (r : List Int) : Bd := swBy (unitB b) r
/-- all its swaps are at green places -/
def greenRow (W : Bd) : List Int → Bool
  | [] => true
  | p :: r => grnI W p && greenRow (swI W p) r
theorem greenRow_append : ∀ (r r' : List Int) (W : Bd), greenRow W (r ++ r') = (greenRow W r && greenRow (swBy W r) r')
  | [], r', W => by simp [greenRow, swBy]
  | p :: r, r', W => by
    show (grnI W p && greenRow (swI W p) (r ++ r')) = ((grnI W p && greenRow (swI W p) r) && greenRow (swBy (swI W p) r) r')
    rw [greenRow_append r r', Bool.and_assoc]
def fullRow (b : Bd) (r : List Int) : Bool := greenRow (unitB b) r && decide (greens (behind b r) = [])
theorem behind_snoc (b : Bd) (r : List Int) (p : Int) : behind b (r ++ [p]) = swI (behind b r) p := by
  unfold behind
  rw [swBy_append]; rfl
/-- a green row of places -/
def Gr' (n : Nat) (b : Bd) (r : List Int) : Prop := Places n r ∧ greenRow (unitB b) r = true
section
variable {n m : Nat} {b : Bd}
theorem mem_upto {n : Nat} {p : Int} : p ∈ upto n ↔ ∃ j : Nat, p = (j : Int) ∧ j < n := by
  unfold upto
  rw [List.mem_map]
  constructor
  · rintro ⟨j, hj, rfl⟩
    exact ⟨j, rfl, List.mem_range.mp hj⟩
  · rintro ⟨j, rfl, hj⟩
    exact ⟨j, List.mem_range.mpr hj, rfl⟩
theorem mem_greens {W : Bd} {m : Nat} (h : Wf n m W) {p : Int} : p ∈ greens W ↔ (∃ j : Nat, p = (j : Int) ∧ j < n) ∧ grnI W p = true := by
  unfold greens
  rw [List.mem_filter, h.wid, mem_upto]; rfl
theorem Wf.behind (h : Wf n m b) (r : List Int) : Wf n (n + n) (behind b r) := h.unit.swBy r
theorem Gr'.snoc (h : Wf n m b) {r : List Int} {p : Int} (g : Gr' n b r) (hp : p ∈ greens (behind b r)) : Gr' n b (r ++ [p]) := by
  obtain ⟨h1, h2⟩ := (mem_greens (h.behind r)).mp hp
  refine ⟨fun q hq => ?_, ?_⟩
  · rcases List.mem_append.mp hq with z | z
    · exact g.1 q z
    · rw [List.mem_singleton.mp z]; exact h1
  · rw [greenRow_append, g.2, Bool.true_and]
    show (grnI (behind b r) p && true) = true
    rw [h2]; rfl
theorem Gr'.unsnoc (h : Wf n m b) {r : List Int} {p : Int} (g : Gr' n b (r ++ [p])) : Gr' n b r ∧ p ∈ greens (behind b r) := by
  obtain ⟨h1, h2⟩ := g
  rw [greenRow_append, Bool.and_eq_true] at h2
  have h3 : (grnI (behind b r) p && true) = true := h2.2
  rw [Bool.and_true] at h3
  exact ⟨⟨fun q hq => h1 q (List.mem_append.mpr (.inl hq)), h2.1⟩, (mem_greens (h.behind r)).mpr ⟨h1 p (List.mem_append.mpr (.inr (List.mem_singleton.mpr rfl))), h3⟩⟩
theorem Gr'.nil : Gr' n b [] := ⟨fun p hp => absurd hp List.not_mem_nil, rfl⟩
theorem upto_pw (n : Nat) : (upto n).Pairwise (· < ·) := by
  unfold upto
  rw [List.pairwise_map]
  exact List.pairwise_lt_range.imp fun h => Int.ofNat_lt.mpr h
theorem greens_pw (W : Bd) : (greens W).Pairwise (· < ·) := (upto_pw (wid W)).filter _
/-- the first full row of at most most places -/
def IsFirst (n : Nat) (b : Bd) (most : Nat) : Option (List Int) → Prop
  | none => ∀ r, Places n r → r.length ≤ most → fullRow b r = false
  | some r => Places n r ∧ r.length ≤ most ∧ fullRow b r = true ∧ ∀ r', Places n r' → r'.length ≤ most → fullRow b r' = true → rle r r'
theorem IsFirst.uniq {most : Nat} {o o' : Option (List Int)} (h : IsFirst n b most o) (h' : IsFirst n b most o') : o = o' := by
  cases o with
  | none => cases o' with
    | none => rfl
    | some r => exact absurd ((h r h'.1 h'.2.1).symm.trans h'.2.2.1) (by decide)
  | some r => cases o' with
    | none => exact absurd ((h' r h.1 h.2.1).symm.trans h.2.2.1) (by decide)
    | some r' => rw [rle_anti (h.2.2.2 r' h'.1 h'.2.1 h'.2.2.1) (h'.2.2.2 r h.1 h.2.1 h.2.2.1)]
theorem full_green {r : List Int} (hp : Places n r) (h : fullRow b r = true) : Gr' n b r ∧ greens (behind b r) = [] := by
  unfold fullRow at h
  rw [Bool.and_eq_true, decide_eq_true_eq] at h
  exact ⟨⟨hp, h.1⟩, h.2⟩
/-- every green row of length j has its like among the kept, not behind it -/
def Cov (n : Nat) (b : Bd) (j : Nat) (S : List (List Int)) : Prop := ∀ r, Gr' n b r → r.length = j → ∃ s, s ∈ S ∧ rle s r ∧ behind b s = behind b r
/-- at the start of layer d -/
structure Lay (n : Nat) (b : Bd) (d : Nat) (S K : List (List Int)) : Prop where
  gr : ∀ s, s ∈ S → Gr' n b s ∧ s.length ≤ d
  kin : ∀ s, s ∈ K ↔ s ∈ S ∧ s.length = d
  inc : K.Pairwise rl
  open' : ∀ s, s ∈ S → s.length < d → greens (behind b s) ≠ []
  cov : ∀ j, j ≤ d → Cov n b j S
theorem Lay.start : Lay n b 0 [[]] [[]] := by
  have e : ∀ s : List Int, s ∈ [([] : List Int)] → s = [] := fun s h => List.mem_singleton.mp h
  refine ⟨fun s hs => by rw [e s hs]; exact ⟨Gr'.nil, Nat.le_refl _⟩, fun s => ⟨fun h => ⟨h, by rw [e s h]; rfl⟩, fun h => h.1⟩, List.pairwise_singleton .., fun s hs h => by rw [e s hs] at h; exact absurd h (Nat.lt_irrefl _), fun j hj r g hr => ⟨[], List.mem_singleton.mpr rfl, ?_, ?_⟩⟩
  all_goals
    have : r = [] := List.length_eq_zero_iff.mp (by omega)
    subst this
  · exact .inl rfl
  · rfl
theorem rle_len {a b : List Int} (h : rle a b) : a.length ≤ b.length := by
  rcases h with rfl | h | ⟨h, _⟩ <;> omega
/-- within layer d: i rows are done, of the next the places ps -/
structure Mid (n : Nat) (b : Bd) (d : Nat) (S K N : List (List Int)) (i : Nat) (ps : List Int) : Prop where
  lay : Lay n b d S K
  inc : N.Pairwise rl
  par : ∀ x, x ∈ N → Gr' n b x ∧ ∃ r q, x = r ++ [q] ∧ (r ∈ K.take i ∨ (K[i]? = some r ∧ q ∈ ps))
  cov : ∀ r, r ∈ K.take i → ∀ p, p ∈ greens (behind b r) → ∃ s, (s ∈ S ∨ s ∈ N) ∧ rle s (r ++ [p]) ∧ behind b s = behind b (r ++ [p])
  covp : ∀ r, K[i]? = some r → ∀ p, p ∈ ps → ∃ s, (s ∈ S ∨ s ∈ N) ∧ rle s (r ++ [p]) ∧ behind b s = behind b (r ++ [p])
  op : ∀ r, r ∈ K.take i → greens (behind b r) ≠ []
theorem Lay.mid {d : Nat} {S K : List (List Int)} (L : Lay n b d S K) : Mid n b d S K [] 0 [] :=
  ⟨L, List.Pairwise.nil, fun x hx => absurd hx List.not_mem_nil, fun r hr => by simp at hr, fun r _ p hp => absurd hp List.not_mem_nil, fun r hr => by simp at hr⟩
variable {d i : Nat} {S K N : List (List Int)} {ps : List Int} {r : List Int} {p : Int}
theorem Lay.klen (L : Lay n b d S K) (h : r ∈ K) : r.length = d := ((L.kin r).mp h).2
/-- what is new stands ahead of the next -/
theorem Mid.ahead (M : Mid n b d S K N i ps) (hr : K[i]? = some r) (hp : ∀ q, q ∈ ps → q < p) {x : List Int} (hx : x ∈ N) : rl x (r ++ [p]) := by
  obtain ⟨_, r', q, rfl, h⟩ := M.par x hx
  rcases h with h | ⟨h, hq⟩
  · obtain ⟨j, hj⟩ := List.getElem?_of_mem h
    have jl := (List.getElem?_eq_some_iff.mp hj).1
    rw [List.length_take] at jl
    rw [List.getElem?_take_of_lt (by omega)] at hj
    have hrl : rl r' r := by
      obtain ⟨h1, e1⟩ := List.getElem?_eq_some_iff.mp hj
      obtain ⟨h2, e2⟩ := List.getElem?_eq_some_iff.mp hr
      rw [← e1, ← e2]
      exact List.pairwise_iff_getElem.mp M.lay.inc j i h1 h2 (by omega)
    exact rl_snoc hrl q p (by rw [M.lay.klen (List.mem_of_getElem? hj), M.lay.klen (List.mem_of_getElem? hr)])
  · rw [hr] at h
    cases h
    exact rl_last r (hp q hq)
theorem Mid.keep (w : Wf n m b) (M : Mid n b d S K N i ps) (hr : K[i]? = some r) (hg : p ∈ greens (behind b r)) (hp : ∀ q, q ∈ ps → q < p) : Mid n b d S K (N ++ [r ++ [p]]) i (ps ++ [p]) := by
  have hrK := List.mem_of_getElem? hr
  have g0 := (M.lay.gr r ((M.lay.kin r).mp hrK).1).1
  refine ⟨M.lay, List.pairwise_append.mpr ⟨M.inc, List.pairwise_singleton .., fun x hx y hy => by rw [List.mem_singleton.mp hy]; exact M.ahead hr hp hx⟩, fun x hx => ?_, fun r' hr' q hq => ?_, fun r' hr' q hq => ?_, M.op⟩
  · rcases List.mem_append.mp hx with z | z
    · obtain ⟨h1, r', q, e, h⟩ := M.par x z
      refine ⟨h1, r', q, e, h.imp id fun ⟨h2, h3⟩ => ⟨h2, List.mem_append.mpr (.inl h3)⟩⟩
    · rw [List.mem_singleton.mp z]
      exact ⟨g0.snoc w hg, r, p, rfl, .inr ⟨hr, List.mem_append.mpr (.inr (List.mem_singleton.mpr rfl))⟩⟩
  · obtain ⟨s, h1, h2⟩ := M.cov r' hr' q hq
    exact ⟨s, h1.imp id fun z => List.mem_append.mpr (.inl z), h2⟩
  · rcases List.mem_append.mp hq with z | z
    · obtain ⟨s, h1, h2⟩ := M.covp r' hr' q z
      exact ⟨s, h1.imp id fun z => List.mem_append.mpr (.inl z), h2⟩
    · rw [hr] at hr'
      cases hr'
      rw [List.mem_singleton.mp z]
      exact ⟨r ++ [p], .inr (List.mem_append.mpr (.inr (List.mem_singleton.mpr rfl))), .inl rfl, rfl⟩
theorem Mid.skip (M : Mid n b d S K N i ps) (hr : K[i]? = some r) (hp : ∀ q, q ∈ ps → q < p) {s : List Int} (hs : s ∈ S ∨ s ∈ N) (he : behind b s = behind b (r ++ [p])) : Mid n b d S K N i (ps ++ [p]) := by
  have hrK := List.mem_of_getElem? hr
  refine ⟨M.lay, M.inc, fun x hx => ?_, M.cov, fun r' hr' q hq => ?_, M.op⟩
  · obtain ⟨h1, r', q, e, h⟩ := M.par x hx
    exact ⟨h1, r', q, e, h.imp id fun ⟨h2, h3⟩ => ⟨h2, List.mem_append.mpr (.inl h3)⟩⟩
  · rcases List.mem_append.mp hq with z | z
    · exact M.covp r' hr' q z
    · rw [hr] at hr'
      cases hr'
      rw [List.mem_singleton.mp z]
      refine ⟨s, hs, .inr ?_, he⟩
      rcases hs with hs | hs
      · refine .inl ?_
        have h1 := (M.lay.gr s hs).2
        have h2 := M.lay.klen hrK
        rw [List.length_append]
        show s.length < r.length + 1
        omega
      · exact M.ahead hr hp hs
theorem Mid.next (M : Mid n b d S K N i (greens (behind b r))) (hr : K[i]? = some r) (ho : greens (behind b r) ≠ []) : Mid n b d S K N (i + 1) [] := by
  have ht : K.take (i + 1) = K.take i ++ [r] := by rw [List.take_add_one, hr]; rfl
  refine ⟨M.lay, M.inc, fun x hx => ?_, fun r' hr' q hq => ?_, fun _ _ q hq => absurd hq List.not_mem_nil, fun r' hr' => ?_⟩
  · obtain ⟨h1, r', q, e, h⟩ := M.par x hx
    refine ⟨h1, r', q, e, .inl ?_⟩
    rw [ht]
    rcases h with h | ⟨h, _⟩
    · exact List.mem_append.mpr (.inl h)
    · rw [hr] at h
      cases h
      exact List.mem_append.mpr (.inr (List.mem_singleton.mpr rfl))
  · rw [ht] at hr'
    rcases List.mem_append.mp hr' with z | z
    · exact M.cov r' z q hq
    · rw [List.mem_singleton.mp z] at hq ⊢
      exact M.covp r hr q hq
  · rw [ht] at hr'
    rcases List.mem_append.mp hr' with z | z
    · exact M.op r' z
    · rw [List.mem_singleton.mp z]; exact ho
theorem Mid.done (w : Wf n m b) (M : Mid n b d S K N K.length []) : Lay n b (d + 1) (S ++ N) N := by
  obtain ⟨L, inc, par, cov, _, op⟩ := M
  rw [List.take_length] at cov op
  have nlen : ∀ x, x ∈ N → x.length = d + 1 := fun x hx => by
    obtain ⟨_, r', q, rfl, h⟩ := par x hx
    rcases h with h | ⟨h, _⟩
    · rw [List.take_length] at h
      rw [List.length_append, L.klen h]; rfl
    · rw [List.getElem?_eq_none (Nat.le_refl _)] at h; cases h
  refine ⟨fun s hs => ?_, fun s => ⟨fun hs => ⟨List.mem_append.mpr (.inr hs), nlen s hs⟩, fun h => ?_⟩, inc, fun s hs hl => ?_, fun j hj r g hr => ?_⟩
  · rcases List.mem_append.mp hs with z | z
    · exact ⟨(L.gr s z).1, Nat.le_succ_of_le (L.gr s z).2⟩
    · exact ⟨(par s z).1, by rw [nlen s z]; exact Nat.le_refl _⟩
  · rcases List.mem_append.mp h.1 with z | z
    · have := (L.gr s z).2
      omega
    · exact z
  · rcases List.mem_append.mp hs with z | z
    · by_cases e : s.length = d
      · exact op s ((L.kin s).mpr ⟨z, e⟩)
      · exact L.open' s z (by have := (L.gr s z).2; omega)
    · rw [nlen s z] at hl
      exact absurd hl (Nat.lt_irrefl _)
  · have old : ∀ s, (s ∈ S ∨ s ∈ N) → s ∈ S ++ N := fun s h => List.mem_append.mpr h
    by_cases e : j ≤ d
    · obtain ⟨s, h1, h2⟩ := L.cov j e r g hr
      exact ⟨s, old s (.inl h1), h2⟩
    · have hj2 : j = d + 1 := by omega
      subst hj2
      rcases List.eq_nil_or_concat r with rfl | ⟨r0, p, rfl⟩
      · simp at hr
      · rw [List.concat_eq_append] at g hr ⊢
        rw [List.length_append] at hr
        have hr0 : r0.length = d := by simpa using hr
        obtain ⟨g0, hp⟩ := g.unsnoc w
        obtain ⟨s0, a1, a2, a3⟩ := L.cov d (Nat.le_refl _) r0 g0 hr0
        have hp' : p ∈ greens (behind b s0) := by rw [a3]; exact hp
        have key : ∃ s, (s ∈ S ∨ s ∈ N) ∧ rle s (s0 ++ [p]) ∧ behind b s = behind b (s0 ++ [p]) := by
          by_cases e2 : s0.length = d
          · exact cov s0 ((L.kin s0).mpr ⟨a1, e2⟩) p hp'
          · have h0 := L.gr s0 a1
            obtain ⟨s, c1, c2⟩ := L.cov (s0.length + 1) (by omega) (s0 ++ [p]) (h0.1.snoc w hp') (by rw [List.length_append]; rfl)
            exact ⟨s, .inl c1, c2⟩
        obtain ⟨s, c1, c2, c3⟩ := key
        refine ⟨s, old s c1, rle_tr c2 (rle_snoc a2 p), ?_⟩
        rw [c3, behind_snoc, behind_snoc, a3]
/-- the first full row, met -/
theorem Mid.found {most : Nat} (M : Mid n b d S K N i ps) (hr : K[i]? = some r) (hf : greens (behind b r) = []) (hd : d ≤ most) : IsFirst n b most (some r) := by
  have hrK := List.mem_of_getElem? hr
  have L := M.lay
  have g0 := (L.gr r ((L.kin r).mp hrK).1).1
  refine ⟨g0.1, by rw [L.klen hrK]; exact hd, ?_, fun r' hp hl hfull => ?_⟩
  · unfold fullRow
    rw [g0.2, hf]; rfl
  · obtain ⟨g1, e1⟩ := full_green hp hfull
    by_cases hd' : r'.length ≤ d
    · obtain ⟨s, a1, a2, a3⟩ := L.cov _ hd' r' g1 rfl
      have hs : greens (behind b s) = [] := by rw [a3]; exact e1
      have sl : s.length = d := by
        refine Classical.byContradiction fun h => ?_
        exact L.open' s a1 (by have := (L.gr s a1).2; omega) hs
      have sK := (L.kin s).mpr ⟨a1, sl⟩
      obtain ⟨k, hk⟩ := List.getElem?_of_mem sK
      refine rle_tr ?_ a2
      rcases Nat.lt_trichotomy k i with h | h | h
      · refine absurd hs (M.op s ?_)
        have : (K.take i)[k]? = some s := by rw [List.getElem?_take_of_lt h]; exact hk
        exact List.mem_of_getElem? this
      · subst h
        rw [hr] at hk
        cases hk
        exact .inl rfl
      · obtain ⟨h1, q1⟩ := List.getElem?_eq_some_iff.mp hr
        obtain ⟨h2, q2⟩ := List.getElem?_eq_some_iff.mp hk
        rw [← q1, ← q2]
        exact .inr (List.pairwise_iff_getElem.mp L.inc i k h1 h2 h)
    · exact .inr (.inl (by rw [L.klen hrK]; omega))
/-- none -/
theorem Lay.none {most : Nat} (L : Lay n b (most + 1) S K) : IsFirst n b most none := fun r hp hl => by
  cases h : fullRow b r with
  | false => rfl
  | true =>
    obtain ⟨g1, e1⟩ := full_green hp h
    obtain ⟨s, a1, a2, a3⟩ := L.cov r.length (by omega) r g1 rfl
    have hs : greens (behind b s) = [] := by rw [a3]; exact e1
    exact absurd hs (L.open' s a1 (by have := rle_len a2; omega))
end
end Nh
set_option Elab.async false
set_option linter.all false
namespace Nh
/-! ### all green rows, layer by layer -/
def ext (b : Bd) (K : List (List Int)) : List (List Int) := K.flatMap fun r => (greens (behind b r)).map fun p => r ++ [p]
structure Al (n : Nat) (b : Bd) (d : Nat) (K : List (List Int)) : Prop where
  mem : ∀ r, r ∈ K ↔ Gr' n b r ∧ r.length = d
  inc : K.Pairwise rl
structure Fnd (n : Nat) (b : Bd) (most : Nat) (F : List (List Int)) : Prop where
  mem : ∀ r, r ∈ F ↔ Places n r ∧ r.length ≤ most ∧ fullRow b r = true
  inc : F.Pairwise rl
section
variable {n m d : Nat} {b : Bd} {K F : List (List Int)}
theorem Al.start : Al n b 0 [[]] := ⟨fun r => ⟨fun h => by rw [List.mem_singleton.mp h]; exact ⟨Gr'.nil, rfl⟩, fun h => List.mem_singleton.mpr (List.length_eq_zero_iff.mp h.2)⟩, List.pairwise_singleton ..⟩
theorem Al.next (w : Wf n m b) (A : Al n b d K) : Al n b (d + 1) (ext b K) := by
  refine ⟨fun r => ?_, ?_⟩
  · unfold ext
    rw [List.mem_flatMap]
    constructor
    · rintro ⟨r0, h0, h1⟩
      obtain ⟨p, hp, rfl⟩ := List.mem_map.mp h1
      obtain ⟨g0, l0⟩ := (A.mem r0).mp h0
      exact ⟨g0.snoc w hp, by rw [List.length_append, l0]; rfl⟩
    · rintro ⟨g, hl⟩
      rcases List.eq_nil_or_concat r with rfl | ⟨r0, p, rfl⟩
      · simp at hl
      · rw [List.concat_eq_append] at g hl ⊢
        obtain ⟨g0, hp⟩ := g.unsnoc w
        rw [List.length_append] at hl
        exact ⟨r0, (A.mem r0).mpr ⟨g0, by simpa using hl⟩, List.mem_map.mpr ⟨p, hp, rfl⟩⟩
  · unfold ext
    rw [List.pairwise_flatMap]
    refine ⟨fun r hr => List.pairwise_map.mpr ((greens_pw _).imp fun h => rl_last r h), A.inc.imp_of_mem fun {r r'} hr hr' h x hx y hy => ?_⟩
    obtain ⟨p, _, rfl⟩ := List.mem_map.mp hx
    obtain ⟨q, _, rfl⟩ := List.mem_map.mp hy
    exact rl_snoc h p q (by rw [((A.mem r).mp hr).2, ((A.mem r').mp hr').2])
theorem at_unit (w : Wf n m b) {i j : Nat} (hi : i < n) (hj : j < n) : at2 (unitB b) (n + i) j = if i = j then 1 else 0 := by
  have h1 : (unitB b)[n + i]? = some (unitRow n (i : Int)) := by
    unfold unitB
    rw [w.wid]
    rw [List.getElem?_append_right (by rw [List.length_take, w.len]; omega), List.length_take, w.len, Nat.min_eq_left w.le, Nat.add_sub_cancel_left]
    unfold idm upto
    rw [List.getElem?_map, List.getElem?_map, List.getElem?_range hi]; rfl
  unfold at2
  rw [getD_of h1]
  unfold unitRow upto
  rw [List.getD_eq_getElem?_getD, List.getElem?_map, List.getElem?_map, List.getElem?_range hj]
  show (if decide ((i : Int) = Int.ofNat j) = true then (1 : Int) else 0) = _
  by_cases e : i = j
  · subst e
    rw [if_pos rfl, if_pos (by rw [decide_eq_true_eq]; rfl)]
  · rw [if_neg e, if_neg (by
      rw [decide_eq_true_eq]
      intro z
      exact e (Int.ofNat.inj z))]
theorem unit_green (w : Wf n m b) {j : Nat} (hj : j < n) : grn (unitB b) j = true := by
  unfold grn
  rw [w.unit.wid, List.any_map]
  obtain ⟨r, hr⟩ := get_lt (l := unitB b) (i := n + j) (by rw [w.unit.len]; omega)
  refine List.any_eq_true.mpr ⟨r, ?_, ?_⟩
  · have : ((unitB b).drop n)[j]? = some r := by rw [List.getElem?_drop]; exact hr
    exact List.mem_of_getElem? this
  · show decide (0 < r.getD j 0) = true
    have h := at_unit w hj hj
    unfold at2 at h
    rw [getD_of hr, if_pos rfl] at h
    rw [h]; rfl
theorem greens_unit (w : Wf n m b) : greens (unitB b) ≠ [] := fun e => by
  have h : ((0 : Nat) : Int) ∈ greens (unitB b) := (mem_greens w.unit).mpr ⟨⟨0, rfl, w.one⟩, unit_green w w.one⟩
  rw [e] at h
  exact absurd h List.not_mem_nil
theorem Fnd.start (w : Wf n m b) : Fnd n b 0 [] := ⟨fun r => ⟨fun h => absurd h List.not_mem_nil, fun ⟨h1, h2, h3⟩ => by
  have e : r = [] := List.length_eq_zero_iff.mp (by omega)
  subst e
  exact absurd (full_green h1 h3).2 (greens_unit w)⟩, List.Pairwise.nil⟩
theorem Fnd.next (w : Wf n m b) (A : Al n b (d + 1) K) (G : Fnd n b d F) : Fnd n b (d + 1) (F ++ K.filter fun r => decide (greens (behind b r) = [])) := by
  refine ⟨fun r => ?_, List.pairwise_append.mpr ⟨G.inc, A.inc.filter _, fun x hx y hy => ?_⟩⟩
  · rw [List.mem_append, G.mem, List.mem_filter, A.mem, decide_eq_true_eq]
    constructor
    · rintro (⟨h1, h2, h3⟩ | ⟨⟨h1, h2⟩, h3⟩)
      · exact ⟨h1, by omega, h3⟩
      · refine ⟨h1.1, by omega, ?_⟩
        unfold fullRow
        rw [h1.2, h3]; rfl
    · rintro ⟨h1, h2, h3⟩
      by_cases e : r.length ≤ d
      · exact .inl ⟨h1, e, h3⟩
      · obtain ⟨g, h4⟩ := full_green h1 h3
        exact .inr ⟨⟨g, by omega⟩, h4⟩
  · obtain ⟨_, h1, _⟩ := (G.mem x).mp hx
    obtain ⟨_, h2⟩ := (A.mem y).mp (List.mem_filter.mp hy).1
    exact .inl (by omega)
theorem Fnd.first {most : Nat} (G : Fnd n b most F) : IsFirst n b most F.head? := by
  cases F with
  | nil =>
    intro r h1 h2
    cases h : fullRow b r with
    | false => rfl
    | true => exact absurd ((G.mem r).mpr ⟨h1, h2, h⟩) List.not_mem_nil
  | cons r F =>
    obtain ⟨h1, h2, h3⟩ := (G.mem r).mp (List.mem_cons_self ..)
    refine ⟨h1, h2, h3, fun r' k1 k2 k3 => ?_⟩
    rcases List.mem_cons.mp ((G.mem r').mpr ⟨k1, k2, k3⟩) with e | e
    · exact .inl e.symm
    · exact .inr ((List.pairwise_cons.mp G.inc).1 r' e)
theorem ext_len (w : Wf n m b) : ∀ K : List (List Int), (ext b K).length ≤ n * K.length
  | [] => Nat.zero_le _
  | r :: K => by
    have ih := ext_len w K
    have gl : (greens (behind b r)).length ≤ n := by
      have h1 : (greens (behind b r)).length ≤ (upto (wid (behind b r))).length := List.length_filter_le _ _
      rwa [upto_len, (w.behind r).wid] at h1
    show (((greens (behind b r)).map fun p => r ++ [p]) ++ ext b K).length ≤ _
    rw [List.length_append, List.length_map, List.length_cons, Nat.mul_succ]
    omega
end
end Nh
set_option Elab.async false
set_option linter.all false
namespace Nh
/-! ### weights by pieces: the plain law -/
def fa (f : List Int) (p : Nat) : Int := f.getD p 0
def mapAt (g : Int → Int) (f : List Int) (l : List Nat) : List Int := l.foldl (fun f p => f.set p (g (fa f p))) f
theorem fa_set (f : List Int) (p q : Nat) (x : Int) (h : p < f.length) : fa (f.set p x) q = if q = p then x else fa f q := by
  unfold fa
  by_cases e : q = p
  · subst e
    rw [if_pos rfl, List.getD_eq_getElem?_getD, List.getElem?_set_self h]; rfl
  · rw [if_neg e, List.getD_eq_getElem?_getD, List.getElem?_set_ne (fun z => e z.symm), List.getD_eq_getElem?_getD]
theorem fa_get {f : List Int} {p : Nat} (h : p < f.length) : f[p]? = some (fa f p) := by
  obtain ⟨x, hx⟩ := get_lt h
  unfold fa
  rw [getD_of hx, hx]
theorem mapAt_len (g : Int → Int) : ∀ (l : List Nat) (f : List Int), (mapAt g f l).length = f.length
  | [], _ => rfl
  | p :: l, f => by
    show (mapAt g (f.set p (g (fa f p))) l).length = _
    rw [mapAt_len g l, List.length_set]
theorem mapAt_fa (g : Int → Int) : ∀ (l : List Nat) (f : List Int), l.Nodup → (∀ p, p ∈ l → p < f.length) → ∀ q, fa (mapAt g f l) q = if q ∈ l then g (fa f q) else fa f q
  | [], f, _, _, q => by rw [if_neg (List.not_mem_nil)]; rfl
  | p :: l, f, nd, h, q => by
    obtain ⟨h1, h2⟩ := List.nodup_cons.mp nd
    show fa (mapAt g (f.set p (g (fa f p))) l) q = _
    have hp := h p (List.mem_cons_self ..)
    rw [mapAt_fa g l _ h2 (fun r hr => by rw [List.length_set]; exact h r (List.mem_cons_of_mem _ hr)), fa_set _ _ _ _ hp]
    by_cases e : q = p
    · subst e
      rw [if_neg h1, if_pos rfl, if_pos (List.mem_cons_self ..)]
    · rw [if_neg e]
      by_cases m : q ∈ l
      · rw [if_pos m, if_pos (List.mem_cons_of_mem _ m)]
      · rw [if_neg m, if_neg (fun z => (List.mem_cons.mp z).elim e m)]
theorem mapAt_snoc (g : Int → Int) (f : List Int) (l : List Nat) (p : Nat) : mapAt g f (l ++ [p]) = (mapAt g f l).set p (g (fa (mapAt g f l) p)) := by
  unfold mapAt
  rw [List.foldl_append]; rfl
/-- skew with weights -/
def SkW (n : Nat) (b : Bd) (w : Nat → Int) : Prop := (∀ i, i < n → 0 < w i) ∧ ∀ i j, i < n → j < n → w i * at2 b i j = -(w j * at2 b j i)
def SkB (n : Nat) (b : Bd) : Prop := ∃ w, SkW n b w
section
variable {n : Nat} {b : Bd} {w : Nat → Int}
theorem SkW.zero (S : SkW n b w) {i j : Nat} (hi : i < n) (hj : j < n) (h : at2 b i j = 0) : at2 b j i = 0 := by
  have h1 := S.2 i j hi hj
  rw [h, Int.mul_zero] at h1
  have h2 := S.1 j hj
  have h3 : w j * at2 b j i = 0 := by omega
  rcases Int.mul_eq_zero.mp h3 with z | z
  · omega
  · exact z
theorem SkW.abs (S : SkW n b w) {i j : Nat} (hi : i < n) (hj : j < n) : w i * ((at2 b i j).natAbs : Int) = w j * ((at2 b j i).natAbs : Int) := by
  have h := S.2 i j hi hj
  have h2 : (w i * at2 b i j).natAbs = (w j * at2 b j i).natAbs := by rw [h, Int.natAbs_neg]
  rw [Int.natAbs_mul, Int.natAbs_mul] at h2
  have e1 : ((w i).natAbs : Int) = w i := Int.natAbs_of_nonneg (Int.le_of_lt (S.1 i hi))
  have e2 : ((w j).natAbs : Int) = w j := Int.natAbs_of_nonneg (Int.le_of_lt (S.1 j hj))
  rw [← e1, ← e2, ← Int.natCast_mul, ← Int.natCast_mul, h2]
theorem nodup_le : ∀ (n : Nat) (l : List Nat), l.Nodup → (∀ p, p ∈ l → p < n) → l.length ≤ n
  | 0, l, _, h => by
    cases l with
    | nil => exact Nat.le_refl _
    | cons a r => exact absurd (h a (List.mem_cons_self ..)) (Nat.not_lt_zero _)
  | n + 1, l, nd, h => by
    have h1 := nodup_le n (l.erase n) (nd.erase n) (fun p hp => by
      have h2 := h p (List.mem_of_mem_erase hp)
      have h3 : p ≠ n := fun e => by
        subst e
        exact absurd hp nd.not_mem_erase
      omega)
    rw [List.length_erase] at h1
    split at h1 <;> omega
/-- what is found so far: whole pieces -/
structure Jf (n : Nat) (b : Bd) (w : Nat → Int) (C : Nat) (f : List Int) : Prop where
  len : f.length = n
  nn : ∀ p, 0 ≤ fa f p
  size : ∀ p, (fa f p).natAbs < 2 ^ C
  cl : ∀ p o, p < n → o < n → fa f p ≠ 0 → at2 b p o ≠ 0 → fa f o ≠ 0 ∧ fa f p * w o = fa f o * w p
/-- within a piece -/
structure Pc (n : Nat) (b : Bd) (w : Nat → Int) (B : Nat) (f0 f : List Int) (pc : List Nat) : Prop where
  len : f.length = n
  lt : ∀ p, p ∈ pc → p < n
  nd : pc.Nodup
  pos : ∀ p, p ∈ pc → 0 < fa f p
  old : ∀ p, p ∉ pc → fa f p = fa f0 p
  new : ∀ p, p ∈ pc → fa f0 p = 0
  cross : ∀ p q, p ∈ pc → q ∈ pc → fa f p * w q = fa f q * w p
  size : ∀ p, p ∈ pc → (fa f p).natAbs < 2 ^ (2 * B * pc.length)
theorem Pc.len_le {B : Nat} {f0 f : List Int} {pc : List Nat} (h : Pc n b w B f0 f pc) : pc.length ≤ n := nodup_le n pc h.nd h.lt
theorem Pc.start {B C : Nat} {f : List Int} {s : Nat} (J : Jf n b w C f) (hs : s < n) (h0 : fa f s = 0) (hB : 1 ≤ B) : Pc n b w B f (f.set s 1) [s] := by
  have hl : s < f.length := by rw [J.len]; exact hs
  have e : ∀ p, p ∈ [s] → p = s := fun p hp => List.mem_singleton.mp hp
  refine ⟨by rw [List.length_set, J.len], fun p hp => e p hp ▸ hs, List.nodup_cons.mpr ⟨List.not_mem_nil, List.nodup_nil⟩, fun p hp => ?_, fun p hp => ?_, fun p hp => e p hp ▸ h0, fun p q hp hq => by rw [e p hp, e q hq], fun p hp => ?_⟩
  · rw [e p hp, fa_set _ _ _ _ hl, if_pos rfl]; decide
  · rw [fa_set _ _ _ _ hl, if_neg (fun z : p = s => hp (by rw [z]; exact List.mem_singleton.mpr rfl))]
  · rw [e p hp, fa_set _ _ _ _ hl, if_pos rfl]
    have : 2 ^ 1 ≤ 2 ^ (2 * B * [s].length) := Nat.pow_le_pow_right (by decide) (by show 1 ≤ 2 * B * 1; omega)
    show 1 < _
    omega
/-- one more place -/
def grow (b : Bd) (f : List Int) (pc : List Nat) (p o : Nat) : List Int :=
  let here : Int := (at2 b p o).natAbs
  let there : Int := (at2 b o p).natAbs
  let sc : Int := there / ((Nat.gcd (fa f p * here).natAbs there.natAbs : Nat) : Int)
  let f' := mapAt (fun x => x * sc) f pc
  f'.set o (fa f' p * here / there)
theorem Pc.grow {B : Nat} {f0 f : List Int} {pc : List Nat} {p o : Nat} (S : SkW n b w) (bb : Bits B b) (h : Pc n b w B f0 f pc) (hp : p ∈ pc) (ho : o < n) (hn : o ∉ pc) (h0 : fa f0 o = 0) (hb : at2 b p o ≠ 0) :
    Pc n b w B f0 (grow b f pc p o) (pc ++ [o]) := by
  have hpn := h.lt p hp
  have hb2 : at2 b o p ≠ 0 := fun z => hb (S.zero ho hpn z)
  have wab := S.abs hpn ho
  have b1 := bb.at p o
  have b2 := bb.at o p
  unfold Nh.grow
  dsimp only
  generalize at2 b p o = eh at *
  generalize at2 b o p = et at *
  have ph : 0 < (eh.natAbs : Int) := by omega
  have pt : 0 < (et.natAbs : Int) := by omega
  have pp := h.pos p hp
  generalize hg : Nat.gcd (fa f p * (eh.natAbs : Int)).natAbs ((et.natAbs : Int)).natAbs = g
  have gt : g ∣ et.natAbs := by rw [← hg]; exact Nat.gcd_dvd_right _ _
  have gh : g ∣ (fa f p * (eh.natAbs : Int)).natAbs := by rw [← hg]; exact Nat.gcd_dvd_left _ _
  obtain ⟨t, ht⟩ := gt
  obtain ⟨x, hx⟩ := gh
  have g0 : 0 < g := by
    rcases Nat.eq_zero_or_pos g with z | z
    · rw [z, Nat.zero_mul] at ht; omega
    · exact z
  have t0 : 0 < t := by
    rcases Nat.eq_zero_or_pos t with z | z
    · rw [z, Nat.mul_zero] at ht; omega
    · exact z
  have esc : (et.natAbs : Int) / (g : Int) = (t : Int) := by
    rw [ht, Int.natCast_mul, Int.mul_ediv_cancel_left _ (by omega)]
  rw [esc]
  have efh : fa f p * (eh.natAbs : Int) = (g : Int) * (x : Int) := by
    have : 0 ≤ fa f p * (eh.natAbs : Int) := Int.mul_nonneg (by omega) (by omega)
    rw [← Int.natCast_mul, ← hx]
    omega
  have hlen : (mapAt (fun x => x * (t : Int)) f pc).length = n := by rw [mapAt_len, h.len]
  have hm := mapAt_fa (fun x => x * (t : Int)) pc f h.nd (fun q hq => by rw [h.len]; exact h.lt q hq)
  generalize hF : mapAt (fun x => x * (t : Int)) f pc = F at *
  have ep : fa F p = fa f p * t := by rw [hm, if_pos hp]
  have enew : fa F p * (eh.natAbs : Int) / (et.natAbs : Int) = x := by
    have e1 : fa F p * (eh.natAbs : Int) = (et.natAbs : Int) * x := by
      rw [ep, Int.mul_right_comm, efh, ht, Int.natCast_mul, Int.mul_right_comm]
    rw [e1, Int.mul_ediv_cancel_left _ (by omega)]
  rw [enew]
  have hset : ∀ q, fa (F.set o (x : Int)) q = if q = o then (x : Int) else if q ∈ pc then fa f q * t else fa f q := fun q => by
    rw [fa_set _ _ _ _ (by rw [hlen]; exact ho)]
    by_cases e : q = o
    · rw [if_pos e, if_pos e]
    · rw [if_neg e, if_neg e, hm]
  have x0 : 0 < x := by
    rcases Nat.eq_zero_or_pos x with z | z
    · rw [z, Int.natCast_zero, Int.mul_zero] at efh
      have := Int.mul_pos pp ph
      omega
    · exact z
  have hno : ∀ q, q ∈ pc → q ≠ o := fun q hq e => hn (e ▸ hq)
  have inpc : ∀ q, q ∈ pc → fa (F.set o (x : Int)) q = fa f q * t := fun q hq => by rw [hset, if_neg (hno q hq), if_pos hq]
  have ato : fa (F.set o (x : Int)) o = x := by rw [hset, if_pos rfl]
  have wp := S.1 p hpn
  -- x * there = fp * t * here
  have ex : (x : Int) * et.natAbs = fa f p * t * eh.natAbs := by
    rw [Int.mul_right_comm, efh, ht, Int.natCast_mul]
    rw [Int.mul_comm (g : Int) x, Int.mul_assoc]
  have crossO : ∀ q, q ∈ pc → (x : Int) * w q = fa f q * t * w o := fun q hq => by
    have c := h.cross p q hp hq
    have k : ((et.natAbs : Int) * w p) * ((x : Int) * w q) = ((et.natAbs : Int) * w p) * (fa f q * t * w o) := by
      have l : ((et.natAbs : Int) * w p) * ((x : Int) * w q) = ((x : Int) * et.natAbs) * (w p * w q) := by
        simp only [Int.mul_comm, Int.mul_left_comm, Int.mul_assoc]
      rw [l, ex]
      have l2 : fa f p * t * eh.natAbs * (w p * w q) = (fa f p * w q) * t * (w p * eh.natAbs) := by
        simp only [Int.mul_comm, Int.mul_left_comm, Int.mul_assoc]
      rw [l2, c, wab]
      simp only [Int.mul_comm, Int.mul_left_comm, Int.mul_assoc]
    exact Int.eq_of_mul_eq_mul_left (Int.ne_of_gt (Int.mul_pos pt wp)) k
  refine ⟨by rw [List.length_set, hlen], fun q hq => ?_, ?_, fun q hq => ?_, fun q hq => ?_, fun q hq => ?_, fun q r hq hr => ?_, fun q hq => ?_⟩
  · rcases List.mem_append.mp hq with z | z
    · exact h.lt q z
    · rw [List.mem_singleton.mp z]; exact ho
  · exact List.nodup_append.mpr ⟨h.nd, List.nodup_cons.mpr ⟨List.not_mem_nil, List.nodup_nil⟩, fun a ha c hc => by rw [List.mem_singleton.mp hc]; exact hno a ha⟩
  · rcases List.mem_append.mp hq with z | z
    · rw [inpc q z]; exact Int.mul_pos (h.pos q z) (by omega)
    · rw [List.mem_singleton.mp z, ato]; omega
  · have hq1 : q ∉ pc := fun z => hq (List.mem_append.mpr (.inl z))
    have hq2 : q ≠ o := fun z => hq (List.mem_append.mpr (.inr (List.mem_singleton.mpr z)))
    rw [hset, if_neg hq2, if_neg hq1, h.old q hq1]
  · rcases List.mem_append.mp hq with z | z
    · exact h.new q z
    · rw [List.mem_singleton.mp z]; exact h0
  · rcases List.mem_append.mp hq with z | z
    · rcases List.mem_append.mp hr with y | y
      · rw [inpc q z, inpc r y, Int.mul_right_comm, h.cross q r z y, Int.mul_right_comm]
      · rw [List.mem_singleton.mp y, inpc q z, ato, crossO q z]
    · rw [List.mem_singleton.mp z]
      rcases List.mem_append.mp hr with y | y
      · rw [inpc r y, ato, crossO r y]
      · rw [List.mem_singleton.mp y]
  · have tB : t < 2 ^ B := Nat.lt_of_le_of_lt (by rw [ht]; exact Nat.le_mul_of_pos_left _ g0) b2
    have e2 : 2 ^ (2 * B * (pc ++ [o]).length) = 2 ^ (2 * B * pc.length) * (2 ^ B * 2 ^ B) := by
      rw [List.length_append, Nat.mul_add, Nat.pow_add]
      congr 1
      rw [show 2 * B * [o].length = B + B by show 2 * B * 1 = _; omega, Nat.pow_add]
    rw [e2]
    have one : 1 ≤ 2 ^ B := Nat.one_le_two_pow
    rcases List.mem_append.mp hq with z | z
    · rw [inpc q z, Int.natAbs_mul, Int.natAbs_natCast]
      have := h.size q z
      refine Nat.lt_of_lt_of_le (Nat.mul_lt_mul'' this tB) (Nat.mul_le_mul_left _ ?_)
      exact Nat.le_mul_of_pos_left _ one
    · rw [List.mem_singleton.mp z, ato, Int.natAbs_natCast]
      have s1 := h.size p hp
      have e3 : x ≤ (fa f p * (eh.natAbs : Int)).natAbs := by rw [hx]; exact Nat.le_mul_of_pos_left _ g0
      rw [Int.natAbs_mul, Int.natAbs_natCast] at e3
      refine Nat.lt_of_le_of_lt e3 (Nat.lt_of_lt_of_le (Nat.mul_lt_mul'' s1 b1) (Nat.mul_le_mul_left _ ?_))
      exact Nat.le_mul_of_pos_left _ one
def gcdOf (f : List Int) (pc : List Nat) : Nat := pc.foldl (fun c p => Nat.gcd c (fa f p).natAbs) 0
theorem gcdOf_snoc (f : List Int) (pc : List Nat) (p : Nat) : gcdOf f (pc ++ [p]) = Nat.gcd (gcdOf f pc) (fa f p).natAbs := by
  unfold gcdOf
  rw [List.foldl_append]; rfl
theorem gcd_fold (f : List Int) : ∀ (pc : List Nat) (c : Nat), (pc.foldl (fun c p => Nat.gcd c (fa f p).natAbs) c ∣ c) ∧ ∀ p, p ∈ pc → pc.foldl (fun c p => Nat.gcd c (fa f p).natAbs) c ∣ (fa f p).natAbs
  | [], c => ⟨Nat.dvd_refl _, fun p hp => absurd hp List.not_mem_nil⟩
  | a :: pc, c => by
    obtain ⟨h1, h2⟩ := gcd_fold f pc (Nat.gcd c (fa f a).natAbs)
    refine ⟨Nat.dvd_trans h1 (Nat.gcd_dvd_left _ _), fun p hp => ?_⟩
    rcases List.mem_cons.mp hp with z | z
    · rw [z]; exact Nat.dvd_trans h1 (Nat.gcd_dvd_right _ _)
    · exact h2 p z
theorem Pc.gcd_pos {B : Nat} {f0 f : List Int} {pc : List Nat} (h : Pc n b w B f0 f pc) (hne : pc ≠ []) : 0 < gcdOf f pc := by
  cases pc with
  | nil => exact absurd rfl hne
  | cons a r =>
    have h1 := (gcd_fold f (a :: r) 0).2 a (List.mem_cons_self ..)
    have h2 := h.pos a (List.mem_cons_self ..)
    rcases Nat.eq_zero_or_pos (gcdOf f (a :: r)) with z | z
    · unfold gcdOf at z
      rw [z, Nat.zero_dvd] at h1
      omega
    · exact z
def shrunk (f : List Int) (pc : List Nat) : List Int := mapAt (fun x => x / ((gcdOf f pc : Nat) : Int)) f pc
theorem Pc.done {B C : Nat} {f0 f : List Int} {pc : List Nat} (S : SkW n b w) (J : Jf n b w C f0) (h : Pc n b w B f0 f pc) (hne : pc ≠ []) (cl : ∀ p, p ∈ pc → ∀ o, o < n → at2 b p o ≠ 0 → o ∈ pc ∨ fa f0 o ≠ 0) (hC : 2 * B * n ≤ C) :
    Jf n b w C (shrunk f pc) ∧ (∀ p, p ∈ pc → fa (shrunk f pc) p ≠ 0) ∧ ∀ p, fa f0 p ≠ 0 → fa (shrunk f pc) p ≠ 0 := by
  have g0 := h.gcd_pos hne
  have gd := (gcd_fold f pc 0).2
  change ∀ p, p ∈ pc → gcdOf f pc ∣ _ at gd
  unfold shrunk
  have hlen := mapAt_len (fun x => x / ((gcdOf f pc : Nat) : Int)) pc f
  have hm := mapAt_fa (fun x => x / ((gcdOf f pc : Nat) : Int)) pc f h.nd (fun q hq => by rw [h.len]; exact h.lt q hq)
  generalize mapAt (fun x => x / ((gcdOf f pc : Nat) : Int)) f pc = F at *
  generalize gcdOf f pc = g at *
  have hin : ∀ p, p ∈ pc → fa f p = (g : Int) * fa F p ∧ 0 < fa F p := fun p hp => by
    obtain ⟨x, hx⟩ := gd p hp
    have hp0 := h.pos p hp
    have e : fa f p = (g : Int) * (x : Int) := by rw [← Int.natCast_mul, ← hx]; omega
    have e2 : fa F p = x := by
      rw [hm, if_pos hp, e]
      exact Int.mul_ediv_cancel_left _ (by omega)
    refine ⟨by rw [e2]; exact e, ?_⟩
    rw [e2]
    rcases Nat.eq_zero_or_pos x with z | z
    · rw [z, Int.natCast_zero, Int.mul_zero] at e
      omega
    · omega
  have hout : ∀ p, p ∉ pc → fa F p = fa f0 p := fun p hp => by rw [hm, if_neg hp]; exact h.old p hp
  refine ⟨⟨by rw [hlen, h.len], fun p => ?_, fun p => ?_, fun p o hp ho hf hb => ?_⟩, fun p hp => Int.ne_of_gt (hin p hp).2, fun p hp => ?_⟩
  · by_cases m : p ∈ pc
    · exact Int.le_of_lt (hin p m).2
    · rw [hout p m]; exact J.nn p
  · by_cases m : p ∈ pc
    · have h1 := h.size p m
      have h2 : (fa F p).natAbs ≤ (fa f p).natAbs := by
        rw [(hin p m).1, Int.natAbs_mul, Int.natAbs_natCast]
        exact Nat.le_mul_of_pos_left _ g0
      exact Nat.lt_of_le_of_lt h2 (Nat.lt_of_lt_of_le h1 (Nat.pow_le_pow_right (by decide) (Nat.le_trans (Nat.mul_le_mul_left _ h.len_le) hC)))
    · rw [hout p m]; exact J.size p
  · have key : o ∈ pc ↔ p ∈ pc := by
      constructor
      · intro ho2
        refine Classical.byContradiction fun np => ?_
        rw [hout p np] at hf
        exact (J.cl p o hp ho hf hb).1 (h.new o ho2)
      · intro hp2
        rcases cl p hp2 o ho hb with z | z
        · exact z
        · refine absurd (h.new p hp2) ?_
          exact (J.cl o p ho hp z (fun y => hb (S.zero ho hp y))).1
    by_cases m : p ∈ pc
    · have mo := key.mpr m
      refine ⟨Int.ne_of_gt (hin o mo).2, ?_⟩
      have c := h.cross p o m mo
      rw [(hin p m).1, (hin o mo).1, Int.mul_assoc, Int.mul_assoc] at c
      exact Int.eq_of_mul_eq_mul_left (by omega : (g : Int) ≠ 0) c
    · have mo : o ∉ pc := fun z => m (key.mp z)
      rw [hout p m] at hf ⊢
      rw [hout o mo]
      exact J.cl p o hp ho hf hb
  · by_cases m : p ∈ pc
    · exact Int.ne_of_gt (hin p m).2
    · rw [hout p m]; exact hp
theorem Jf.ends {C : Nat} {f : List Int} (S : SkW n b w) (J : Jf n b w C f) {p o : Nat} (hp : p < n) (ho : o < n) (h0 : fa f p ≠ 0) : fa f p * at2 b p o = -fa f o * at2 b o p := by
  by_cases hb : at2 b p o = 0
  · rw [hb, S.zero hp ho hb, Int.mul_zero, Int.mul_zero]
  · have c := (J.cl p o hp ho h0 hb).2
    have k := S.2 p o hp ho
    have wp := S.1 p hp
    have wo := S.1 o ho
    have e : (w o * w p) * (fa f p * at2 b p o) = (w o * w p) * (-fa f o * at2 b o p) := by
      have l1 : (w o * w p) * (fa f p * at2 b p o) = (fa f p * w o) * (w p * at2 b p o) := by simp only [Int.mul_comm, Int.mul_left_comm, Int.mul_assoc]
      rw [l1, c, k, Int.neg_mul, Int.mul_neg, Int.mul_neg]
      congr 1
      simp only [Int.mul_comm, Int.mul_left_comm, Int.mul_assoc]
    exact Int.eq_of_mul_eq_mul_left (Int.ne_of_gt (Int.mul_pos wo wp)) e
theorem Jf.zero (C : Nat) : Jf n b w C (List.replicate n 0) := by
  have h : ∀ p, fa (List.replicate n (0 : Int)) p = 0 := fun p => by
    unfold fa
    rw [List.getD_eq_getElem?_getD]
    by_cases e : p < n
    · rw [List.getElem?_replicate, if_pos e]; rfl
    · rw [List.getElem?_replicate, if_neg e]; rfl
  refine ⟨List.length_replicate .., fun p => by rw [h]; exact Int.le_refl _, fun p => by rw [h]; exact Nat.two_pow_pos _, fun p o _ _ z => absurd (h p) z⟩
end
end Nh
set_option Elab.async false
set_option linter.all false
namespace Nh
/-! ### tables that are filled pair by pair -/
def setE (b : Bd) (i j : Nat) (x : Int) : Bd := b.set i ((b.getD i []).set j x)
theorem at2_set {n : Nat} {b : Bd} {i j : Nat} (hl : b.length = n) (hr : ∀ r, r ∈ b → r.length = n) (hi : i < n) (hj : j < n) (x : Int) (p q : Nat) : at2 (setE b i j x) p q = if p = i ∧ q = j then x else at2 b p q := by
  obtain ⟨r, hrow⟩ := get_lt (l := b) (i := i) (by omega)
  have hg : b.getD i [] = r := getD_of hrow
  have rl := hr r (get_mem hrow)
  unfold setE at2
  rw [hg]
  by_cases e : p = i
  · subst e
    have e1 : (b.set p (r.set j x)).getD p [] = r.set j x := by rw [List.getD_eq_getElem?_getD, List.getElem?_set_self (by omega)]; rfl
    rw [e1, hg]
    by_cases e2 : q = j
    · subst e2
      rw [if_pos ⟨rfl, rfl⟩, List.getD_eq_getElem?_getD, List.getElem?_set_self (by omega)]; rfl
    · rw [if_neg (fun z => e2 z.2), List.getD_eq_getElem?_getD, List.getElem?_set_ne (Ne.symm e2), List.getD_eq_getElem?_getD]
  · rw [if_neg (fun z => e z.1)]
    congr 1
    rw [List.getD_eq_getElem?_getD, List.getElem?_set_ne (Ne.symm e), List.getD_eq_getElem?_getD]
theorem setE_len (b : Bd) (i j : Nat) (x : Int) : (setE b i j x).length = b.length := List.length_set ..
theorem setE_row {n : Nat} {b : Bd} {i j : Nat} {x : Int} (hl : b.length = n) (hr : ∀ r, r ∈ b → r.length = n) (hi : i < n) : ∀ r, r ∈ setE b i j x → r.length = n := fun r h => by
  obtain ⟨r0, hrow⟩ := get_lt (l := b) (i := i) (by omega)
  unfold setE at h
  rw [getD_of hrow] at h
  rcases List.mem_or_eq_of_mem_set h with z | z
  · exact hr r z
  · rw [z, List.length_set]; exact hr r0 (get_mem hrow)
/-- a square table, skew with weights, with small entries -/
structure Tb (n B : Nat) (w : Nat → Int) (b : Bd) : Prop where
  len : b.length = n
  row : ∀ r, r ∈ b → r.length = n
  sk : ∀ i j, i < n → j < n → w i * at2 b i j = -(w j * at2 b j i)
  bits : ∀ i j, i < n → j < n → (at2 b i j).natAbs < 2 ^ B
theorem Tb.put {n B : Nat} {w : Nat → Int} {b : Bd} (h : Tb n B w b) {i j : Nat} (hi : i < n) (hj : j < n) (hij : i ≠ j) {x y : Int} (hw : w i * x = -(w j * y)) (hx : x.natAbs < 2 ^ B) (hy : y.natAbs < 2 ^ B) : Tb n B w (setE (setE b i j x) j i y) := by
  have l1 : (setE b i j x).length = n := by rw [setE_len, h.len]
  have r1 : ∀ r, r ∈ setE b i j x → r.length = n := setE_row h.len h.row hi
  have e : ∀ p q, at2 (setE (setE b i j x) j i y) p q = if p = j ∧ q = i then y else if p = i ∧ q = j then x else at2 b p q := fun p q => by
    rw [at2_set l1 r1 hj hi, at2_set h.len h.row hi hj]
  refine ⟨by rw [setE_len, l1], setE_row l1 r1 hj, fun p q hp hq => ?_, fun p q hp hq => ?_⟩
  · rw [e p q, e q p]
    by_cases c1 : p = j ∧ q = i
    · obtain ⟨rfl, rfl⟩ := c1
      rw [if_pos ⟨rfl, rfl⟩, if_neg (fun z => hij z.1), if_pos ⟨rfl, rfl⟩]
      omega
    · by_cases c2 : p = i ∧ q = j
      · obtain ⟨rfl, rfl⟩ := c2
        rw [if_neg c1, if_pos ⟨rfl, rfl⟩, if_pos ⟨rfl, rfl⟩]
        exact hw
      · rw [if_neg c1, if_neg c2, if_neg (fun z => c2 ⟨z.2, z.1⟩), if_neg (fun z => c1 ⟨z.2, z.1⟩)]
        exact h.sk p q hp hq
  · rw [e p q]
    split
    · exact hy
    · split
      · exact hx
      · exact h.bits p q hp hq
theorem Tb.zero (n B : Nat) (w : Nat → Int) : Tb n B w (List.replicate n (List.replicate n 0)) := by
  have e : ∀ i j, at2 (List.replicate n (List.replicate n (0 : Int))) i j = 0 := fun i j => by
    unfold at2
    by_cases hi : i < n
    · have h1 : (List.replicate n (List.replicate n (0 : Int)))[i]? = some (List.replicate n 0) := by rw [List.getElem?_replicate, if_pos hi]
      rw [getD_of h1, List.getD_eq_getElem?_getD, List.getElem?_replicate]
      split <;> rfl
    · have h1 : (List.replicate n (List.replicate n (0 : Int))).getD i [] = [] := by
        rw [List.getD_eq_getElem?_getD, List.getElem?_replicate, if_neg hi]; rfl
      rw [h1]; rfl
  refine ⟨List.length_replicate .., fun r hr => by rw [List.eq_of_mem_replicate hr, List.length_replicate], fun i j _ _ => by rw [e, e]; simp, fun i j _ _ => by rw [e]; exact Nat.two_pow_pos B⟩
end Nh
set_option Elab.async false
set_option linter.all false
namespace Nh
/-! ### a listing of the places; tables that are filled piece by piece -/
def Nm (n : Nat) (nm : List Int) : Prop := nm.Perm (upto n)
section
variable {n : Nat} {nm : List Int}
theorem Nm.len (h : Nm n nm) : nm.length = n := by rw [h.length_eq, upto_len]
theorem Nm.nd (h : Nm n nm) : nm.Nodup := h.nodup_iff.mpr ((upto_pw n).imp fun h => by omega)
theorem Nm.at (h : Nm n nm) {i : Nat} (hi : i < n) : ∃ p : Nat, nm[i]? = some (p : Int) ∧ p < n ∧ nm.idxOf (p : Int) = i := by
  obtain ⟨x, hx⟩ := get_lt (l := nm) (i := i) (by rw [h.len]; exact hi)
  obtain ⟨p, rfl, hp⟩ := mem_upto.mp (h.mem_iff.mp (get_mem hx))
  refine ⟨p, hx, hp, ?_⟩
  obtain ⟨hl, e⟩ := List.getElem?_eq_some_iff.mp hx
  rw [← e]
  exact h.nd.idxOf_getElem i hl
theorem Nm.swap (h : Nm n nm) {i j : Nat} {x y : Int} (hx : nm[i]? = some x) (hy : nm[j]? = some y) : Nm n ((nm.set i y).set j x) := by
  obtain ⟨hi, e1⟩ := List.getElem?_eq_some_iff.mp hx
  obtain ⟨hj, e2⟩ := List.getElem?_eq_some_iff.mp hy
  subst e1; subst e2
  exact (List.set_set_perm hi hj).trans h
end
theorem at2_zero (n i j : Nat) : at2 (List.replicate n (List.replicate n (0 : Int))) i j = 0 := by
  unfold at2
  by_cases hi : i < n
  · have h1 : (List.replicate n (List.replicate n (0 : Int)))[i]? = some (List.replicate n 0) := by rw [List.getElem?_replicate, if_pos hi]
    rw [getD_of h1, List.getD_eq_getElem?_getD, List.getElem?_replicate]
    split <;> rfl
  · have h1 : (List.replicate n (List.replicate n (0 : Int))).getD i [] = [] := by
      rw [List.getD_eq_getElem?_getD, List.getElem?_replicate, if_neg hi]; rfl
    rw [h1]; rfl
/-- whole pieces are filled in, up to B -/
def Pz (n : Nat) (nm : List Int) (B : Nat) (t : Bd) : Prop := ∃ W : Nat → Int, (∀ i, 0 < W i) ∧ Tb n 20 W t ∧ ∀ p r : Nat, p < n → r < n → at2 t p r ≠ 0 → nm.idxOf (p : Int) < B ∧ nm.idxOf (r : Int) < B
/-- within a piece of s places with weights w -/
def Pw (n : Nat) (nm : List Int) (B s : Nat) (w : Nat → Int) (t : Bd) : Prop := ∃ W : Nat → Int, (∀ i, 0 < W i) ∧ (∀ p : Nat, B ≤ nm.idxOf (p : Int) → W p = w (nm.idxOf (p : Int) - B)) ∧ Tb n 20 W t ∧ ∀ p r : Nat, p < n → r < n → at2 t p r ≠ 0 → nm.idxOf (p : Int) < B + s ∧ nm.idxOf (r : Int) < B + s
section
variable {n B s : Nat} {nm : List Int} {t : Bd} {w : Nat → Int}
theorem Pz.zero : Pz n nm 0 (List.replicate n (List.replicate n 0)) := ⟨fun _ => 1, fun _ => Int.one_pos, Tb.zero .., fun p r _ _ h => absurd (at2_zero n p r) h⟩
theorem Pz.start (h : Pz n nm B t) (hw : ∀ i, 0 < w i) : Pw n nm B s w t := by
  obtain ⟨W, hW, tb, hz⟩ := h
  refine ⟨fun p : Nat => if B ≤ nm.idxOf (p : Int) then w (nm.idxOf (p : Int) - B) else W p, fun i => ?_, fun p hp => if_pos hp, ⟨tb.len, tb.row, fun i j hi hj => ?_, tb.bits⟩, fun p r hp hr h => ?_⟩
  · dsimp only
    split
    · exact hw _
    · exact hW i
  · by_cases z : at2 t i j = 0
    · have z2 : at2 t j i = 0 := by
        have h1 := tb.sk i j hi hj
        rw [z, Int.mul_zero] at h1
        have h2 := hW j
        have h3 : W j * at2 t j i = 0 := by omega
        rcases Int.mul_eq_zero.mp h3 with q | q
        · omega
        · exact q
      rw [z, z2, Int.mul_zero, Int.mul_zero]; rfl
    · obtain ⟨h1, h2⟩ := hz i j hi hj z
      rw [if_neg (by omega), if_neg (by omega)]
      exact tb.sk i j hi hj
  · obtain ⟨h1, h2⟩ := hz p r hp hr h
    omega
theorem Pw.done (h : Pw n nm B s w t) : Pz n nm (B + s) t := by
  obtain ⟨W, hW, _, tb, hz⟩ := h
  exact ⟨W, hW, tb, hz⟩
theorem Pw.put (h : Pw n nm B s w t) {p r k l e b : Nat} {sg : Int} (hp : p < n) (hr : r < n) (ip : nm.idxOf (p : Int) = B + k) (ir : nm.idxOf (r : Int) = B + l) (hk : k < s) (hl : l < s) (hkl : k ≠ l) (he : e ≤ 3) (hb : b ≤ 3) (hw : w k * (e : Int) = w l * (b : Int)) (hs : sg = 1 ∨ sg = -1) :
    Pw n nm B s w (setE (setE t p r (sg * (e : Int))) r p (0 - sg * (b : Int))) := by
  obtain ⟨W, hW, hWw, tb, hz⟩ := h
  have hne : p ≠ r := fun z => by
    subst z
    omega
  have e1 : W p = w k := by rw [hWw p (by omega), ip, Nat.add_sub_cancel_left]
  have e2 : W r = w l := by rw [hWw r (by omega), ir, Nat.add_sub_cancel_left]
  have hbits : ∀ {x : Nat}, x ≤ 3 → (sg * (x : Int)).natAbs < 2 ^ 20 := fun {x} hx => by
    rcases hs with z | z <;> subst z <;> omega
  have hx := hbits he
  have hy : (0 - sg * (b : Int)).natAbs < 2 ^ 20 := by rw [Int.zero_sub, Int.natAbs_neg]; exact hbits hb
  refine ⟨W, hW, hWw, tb.put hp hr hne ?_ hx hy, fun p' r' hp' hr' h => ?_⟩
  · rw [e1, e2, Int.zero_sub, Int.mul_neg, Int.neg_neg, Int.mul_left_comm, Int.mul_left_comm (w l), hw]
  · have l1 : (setE t p r (sg * (e : Int))).length = n := by rw [setE_len, tb.len]
    have r1 : ∀ x, x ∈ setE t p r (sg * (e : Int)) → x.length = n := setE_row tb.len tb.row hp
    rw [at2_set l1 r1 hr hp, at2_set tb.len tb.row hp hr] at h
    split at h
    · rename_i c
      rw [c.1, c.2]
      omega
    · split at h
      · rename_i c
        rw [c.1, c.2]
        omega
      · exact hz p' r' hp' hr' h
end
/-- the sizes that are drawn from -/
def szN : List (List Nat) := [[4], [4], [3], [3, 1], [2, 2], [2], [2, 1, 1], [3], [1], [1, 1], [2, 1], [1, 1, 1], [4], [3, 1], [2, 2], [1, 1, 1, 1]]
theorem sz_ok : ∀ ns ∈ szN, (∀ s ∈ ns, 1 ≤ s ∧ s ≤ 4) ∧ 1 ≤ ns.sum ∧ ns.sum ≤ 4 ∧ ns.length ≤ 4 := by decide
def toI (ns : List Nat) : List Int := ns.map fun k : Nat => (k : Int)
theorem toI_sum : ∀ ns : List Nat, (toI ns).sum = ((ns.sum : Nat) : Int)
  | [] => rfl
  | k :: ns => by
    show (k : Int) + (toI ns).sum = _
    rw [toI_sum ns, List.sum_cons, Int.natCast_add]
theorem sum_take_le : ∀ (ns : List Nat) (i : Nat) {s : Nat}, ns[i]? = some s → (ns.take (i + 1)).sum = (ns.take i).sum + s ∧ (ns.take i).sum + s ≤ ns.sum
  | [], i, s, h => by simp at h
  | k :: ns, 0, s, h => by
    have e : k = s := by simpa using h
    subst e
    simp
  | k :: ns, i + 1, s, h => by
    have e : ns[i]? = some s := by simpa using h
    obtain ⟨h1, h2⟩ := sum_take_le ns i e
    rw [List.take_succ_cons, List.take_succ_cons, List.sum_cons, List.sum_cons, List.sum_cons, h1]
    omega
end Nh
set_option Elab.async false
set_option linter.all false
namespace Nh
/-! ### the boards' mathematics -/
theorem half_mix (y z : Int) : ((y.natAbs : Int) * z + y * (z.natAbs : Int)) / 2 = SC.pos y * SC.pos z - SC.pos (-y) * SC.pos (-z) := by
  have py : ∀ x : Int, 0 ≤ x → SC.pos x = x ∧ SC.pos (-x) = 0 := fun x h => by
    unfold SC.pos
    constructor
    · split <;> omega
    · rw [if_neg (by omega)]
  have pn : ∀ x : Int, x < 0 → SC.pos x = 0 ∧ SC.pos (-x) = -x := fun x h => by
    unfold SC.pos
    constructor
    · rw [if_neg (by omega)]
    · rw [if_pos (by omega)]
  rcases Int.lt_or_le y 0 with hy | hy
  · have e1 : (y.natAbs : Int) = -y := by omega
    obtain ⟨a1, a2⟩ := pn y hy
    rcases Int.lt_or_le z 0 with hz | hz
    · have e2 : (z.natAbs : Int) = -z := by omega
      obtain ⟨b1, b2⟩ := pn z hz
      rw [e1, e2, a1, a2, b1, b2, Int.neg_mul, Int.mul_neg, Int.neg_mul, Int.mul_neg]
      omega
    · have e2 : (z.natAbs : Int) = z := by omega
      obtain ⟨b1, b2⟩ := py z hz
      rw [e1, e2, a1, a2, b1, b2, Int.neg_mul]
      omega
  · have e1 : (y.natAbs : Int) = y := by omega
    obtain ⟨a1, a2⟩ := py y hy
    rcases Int.lt_or_le z 0 with hz | hz
    · have e2 : (z.natAbs : Int) = -z := by omega
      obtain ⟨b1, b2⟩ := pn z hz
      rw [e1, e2, a1, a2, b1, b2, Int.mul_neg]
      omega
    · have e2 : (z.natAbs : Int) = z := by omega
      obtain ⟨b1, b2⟩ := py z hz
      rw [e1, e2, a1, a2, b1, b2]
      omega
def tbl (n : Nat) (W : Bd) : Fin n → Fin n → Int := fun i j => at2 W i j
def cmx (n : Nat) (W : Bd) : Fin n → Fin n → Int := fun i j => at2 W (n + i) j
section
variable {n m : Nat} {b W : Bd} {w : Nat → Int}
theorem tbl_sw (h : Wf n m W) (k : Fin n) : tbl n (sw W k) = SC.mu k (tbl n W) := by
  funext i j
  show at2 (sw W k) i j = SC.mu k (tbl n W) i j
  have hnm := h.le
  rw [h.at_sw (by omega) j.2]
  unfold ent SC.mu
  by_cases c : i = k ∨ j = k
  · rw [if_pos c, if_pos (c.imp (congrArg Fin.val) (congrArg Fin.val))]; rfl
  · rw [if_neg c, if_neg (fun z => c (z.imp Fin.ext Fin.ext)), half_mix]
    show _ = tbl n W i j + SC.pos (tbl n W i k) * SC.pos (tbl n W k j) - SC.pos (-tbl n W i k) * SC.pos (-tbl n W k j)
    unfold tbl
    omega
theorem cmx_sw (h : Wf n (n + n) W) (k : Fin n) (hk : ∀ i, 0 ≤ cmx n W i k) : cmx n (sw W k) = SC.nx (tbl n W) (cmx n W) k := by
  funext i j
  show at2 (sw W k) (n + i) j = SC.nx (tbl n W) (cmx n W) k i j
  rw [h.at_sw (by omega) j.2]
  have hc := hk i
  unfold ent SC.nx
  have hi : ¬ (n + (i : Nat) = (k : Nat)) := by have := k.2; omega
  by_cases c : j = k
  · rw [if_pos c, if_pos (.inr (congrArg Fin.val c))]
    subst c; rfl
  · rw [if_neg c, if_neg (fun z => z.elim hi fun y => c (Fin.ext y)), half_mix]
    show _ = cmx n W i j + SC.pos (tbl n W k j) * cmx n W i k
    unfold cmx tbl at *
    have p1 : SC.pos (at2 W (n + i) k) = at2 W (n + i) k := by unfold SC.pos; split <;> omega
    have p2 : SC.pos (-at2 W (n + i) k) = 0 := by unfold SC.pos; rw [if_neg (by omega)]
    rw [p1, p2, Int.zero_mul, Int.sub_zero, Int.mul_comm]
theorem SkW.sk (S : SkW n b w) : SC.Sk (fun i : Fin n => w i) (tbl n b) := ⟨fun i => S.1 i i.2, fun i j => S.2 i j i.2 j.2⟩
theorem SkW.of {B : Fin n → Fin n → Int} (S : SC.Sk (fun i : Fin n => w i) B) (h : ∀ i j : Fin n, at2 b i j = B i j) : SkW n b w := ⟨fun i hi => S.1 ⟨i, hi⟩, fun i j hi hj => by
  have := S.2 ⟨i, hi⟩ ⟨j, hj⟩
  rw [h ⟨i, hi⟩ ⟨j, hj⟩ |>.symm, h ⟨j, hj⟩ ⟨i, hi⟩ |>.symm] at this
  exact this⟩
theorem SkW.sw (h : Wf n m b) (S : SkW n b w) {k : Nat} (hk : k < n) : SkW n (sw b k) w := by
  refine SkW.of (SC.Sk_mu S.sk ⟨k, hk⟩) fun i j => ?_
  have := congrFun (congrFun (tbl_sw h ⟨k, hk⟩) i) j
  exact this
theorem grn_iff (h : Wf n (n + n) W) {j : Nat} : grn W j = true ↔ ∃ i, i < n ∧ 0 < at2 W (n + i) j := by
  unfold grn
  rw [h.wid, List.any_map, List.any_eq_true]
  constructor
  · rintro ⟨r, hr, h1⟩
    obtain ⟨i, hi⟩ := List.getElem?_of_mem hr
    rw [List.getElem?_drop] at hi
    have hl := lt_get hi
    rw [h.len] at hl
    refine ⟨i, by omega, ?_⟩
    unfold at2
    rw [getD_of hi]
    exact of_decide_eq_true h1
  · rintro ⟨i, hi, h1⟩
    obtain ⟨r, hr⟩ := get_lt (l := W) (i := n + i) (by rw [h.len]; omega)
    refine ⟨r, List.mem_of_getElem? (i := i) (by rw [List.getElem?_drop]; exact hr), ?_⟩
    unfold at2 at h1
    rw [getD_of hr] at h1
    exact decide_eq_true h1
theorem tbl_unit (h : Wf n m b) : tbl n (unitB b) = tbl n b := by
  funext i j
  show at2 (unitB b) i j = at2 b i j
  unfold at2
  congr 1
  unfold unitB
  rw [h.wid, List.getD_eq_getElem?_getD, List.getD_eq_getElem?_getD, List.getElem?_append_left (by rw [List.length_take, h.len]; have := h.le; omega), List.getElem?_take_of_lt i.2]
theorem good_along (h : Wf n m b) (S : SkW n b w) : ∀ (k : Nat) (r : List Int), r.length = k → Gr' n b r → ∃ f a, SC.Good (fun i : Fin n => w i) (tbl n (behind b r)) (cmx n (behind b r)) f a
  | 0, r, hl, _ => by
    have e : r = [] := List.length_eq_zero_iff.mp hl
    subst e
    obtain ⟨f, a, G⟩ := SC.good_start S.sk
    refine ⟨f, a, ?_⟩
    have e1 : cmx n (behind b []) = fun i j => SC.dl i j := by
      funext i j
      show at2 (unitB b) (n + i) j = SC.dl i j
      rw [at_unit h i.2 j.2]
      unfold SC.dl
      by_cases c : i = j
      · rw [if_pos c, if_pos (congrArg Fin.val c)]
      · rw [if_neg c, if_neg (fun z => c (Fin.ext z))]
    have e2 : tbl n (behind b []) = tbl n b := tbl_unit h
    rw [e1, e2]
    exact G
  | k + 1, r, hl, g => by
    rcases List.eq_nil_or_concat r with rfl | ⟨r0, p, rfl⟩
    · cases hl
    · rw [List.concat_eq_append] at g hl ⊢
      obtain ⟨g0, hp⟩ := g.unsnoc h
      rw [List.length_append] at hl
      obtain ⟨f, a, G⟩ := good_along h S k r0 (by simpa using hl) g0
      obtain ⟨⟨j, rfl, hj⟩, hgr⟩ := (mem_greens (h.behind r0)).mp hp
      obtain ⟨i, hi, hpos⟩ := (grn_iff (j := j) (h.behind r0)).mp hgr
      have hk : ∀ i, 0 ≤ cmx n (behind b r0) i ⟨j, hj⟩ := by
        rcases G.sign ⟨j, hj⟩ with z | z
        · exact z
        · have := z ⟨i, hi⟩
          have e : cmx n (behind b r0) ⟨i, hi⟩ ⟨j, hj⟩ = at2 (behind b r0) (n + i) j := rfl
          omega
      obtain ⟨f', a', G'⟩ := G.step hk
      refine ⟨f', a', ?_⟩
      rw [behind_snoc]
      have e1 : tbl n (swI (behind b r0) (j : Int)) = SC.mu ⟨j, hj⟩ (tbl n (behind b r0)) := tbl_sw (h.behind r0) ⟨j, hj⟩
      have e2 : cmx n (swI (behind b r0) (j : Int)) = SC.nx (tbl n (behind b r0)) (cmx n (behind b r0)) ⟨j, hj⟩ := cmx_sw (h.behind r0) ⟨j, hj⟩ hk
      rw [e1, e2]
      exact G'
/-- a place where a swap was made at a green place is not green -/
theorem not_twice (h : Wf n m b) (S : SkW n b w) {r : List Int} (g : Gr' n b r) {j : Nat} (hj : j < n) (hg : grnI (behind b r) (j : Int) = true) : grnI (behind b (r ++ [(j : Int)])) (j : Int) = false := by
  obtain ⟨f, a, G⟩ := good_along h S r.length r rfl g
  have wfb := h.behind r
  obtain ⟨i, hi, hpos⟩ := (grn_iff (j := j) wfb).mp hg
  cases c : grnI (behind b (r ++ [(j : Int)])) (j : Int) with
  | false => rfl
  | true =>
    obtain ⟨i', hi', hpos'⟩ := (grn_iff (j := j) (h.behind _)).mp c
    rw [behind_snoc] at hpos'
    have e : at2 (swI (behind b r) (j : Int)) (n + i') j = - at2 (behind b r) (n + i') j := by
      have := wfb.at_sw (i := n + i') (j := j) (by omega) hj j
      unfold ent at this
      rw [if_pos (.inr rfl)] at this
      exact this
    rw [e] at hpos'
    have e1 : cmx n (behind b r) ⟨i', hi'⟩ ⟨j, hj⟩ = at2 (behind b r) (n + i') j := rfl
    have e2 : cmx n (behind b r) ⟨i, hi⟩ ⟨j, hj⟩ = at2 (behind b r) (n + i) j := rfl
    rcases G.sign ⟨j, hj⟩ with z | z
    · have := z ⟨i', hi'⟩
      omega
    · have := z ⟨i, hi⟩
      omega
theorem twice_refused (h : Wf n m b) (S : SkW n b w) {r s : List Int} (g : Gr' n b r) {j : Nat} (hj : j < n) : fullRow b (r ++ [(j : Int), (j : Int)] ++ s) = false := by
  unfold fullRow
  have : greenRow (unitB b) (r ++ [(j : Int), (j : Int)] ++ s) = false := by
    rw [show r ++ [(j : Int), (j : Int)] ++ s = r ++ ([(j : Int)] ++ ([(j : Int)] ++ s)) by simp, greenRow_append, greenRow_append]
    show (greenRow (unitB b) r && ((grnI (behind b r) (j : Int) && true) && greenRow (swBy (swBy (unitB b) r) [(j : Int)]) ([(j : Int)] ++ s))) = false
    cases c : grnI (behind b r) (j : Int) with
    | false => simp
    | true =>
      rw [greenRow_append]
      have e : greenRow (swBy (swBy (unitB b) r) [(j : Int)]) [(j : Int)] = grnI (behind b (r ++ [(j : Int)])) (j : Int) := by
        rw [behind_snoc]
        show (grnI (swI (behind b r) (j : Int)) (j : Int) && true) = _
        rw [Bool.and_true]
      rw [e, not_twice h S g hj c]
      simp
  rw [this]; rfl
theorem init_refused (h : Wf n m b) {r : List Int} {p : Int} (hp : Places n (r ++ [p])) (hf : fullRow b (r ++ [p]) = true) : fullRow b r = false := by
  obtain ⟨g, _⟩ := full_green hp hf
  obtain ⟨_, h2⟩ := g.unsnoc h
  unfold fullRow
  rw [decide_eq_false (fun e => by rw [e] at h2; exact absurd h2 List.not_mem_nil), Bool.and_false]
/-- minus the i-th unit -/
def nunit (n i : Nat) : List Int := (List.range n).map fun l => if l = i then (-1 : Int) else 0
theorem full_cols (h : Wf n m b) (S : SkW n b w) {r : List Int} (g : Gr' n b r) (hf : greens (behind b r) = []) (i : Nat) (hi : i < n) : ∃ j, j < n ∧ colOf (behind b r) j = nunit n i := by
  obtain ⟨f, a, G⟩ := good_along h S r.length r rfl g
  have wfb := h.behind r
  have hc : ∀ i j : Fin n, cmx n (behind b r) i j ≤ 0 := fun i' j' => by
    refine Int.not_lt.mp fun z => ?_
    have : ((j' : Nat) : Int) ∈ greens (behind b r) := (mem_greens wfb).mpr ⟨⟨j', rfl, j'.2⟩, (grn_iff wfb).mpr ⟨i', i'.2, z⟩⟩
    rw [hf] at this
    exact absurd this List.not_mem_nil
  obtain ⟨j, hj⟩ := G.full hc ⟨i, hi⟩
  refine ⟨j, j.2, ?_⟩
  unfold nunit
  refine ext_get (colOf_len wfb j) fun l hl => ?_
  unfold colOf
  rw [wfb.wid, List.getElem?_map, List.getElem?_drop]
  obtain ⟨row, hrow⟩ := get_lt (l := behind b r) (i := n + l) (by rw [wfb.len]; omega)
  rw [hrow]
  have h1 : at2 (behind b r) (n + l) j = - SC.dl ⟨i, hi⟩ ⟨l, hl⟩ := hj ⟨l, hl⟩
  unfold at2 at h1
  rw [getD_of hrow] at h1
  show some (row.getD j 0) = _
  rw [h1]
  unfold SC.dl
  by_cases c : l = i
  · subst c
    rw [if_pos rfl, if_pos rfl]
  · rw [if_neg c, if_neg (fun z => c (congrArg Fin.val z).symm)]; rfl
theorem perm_of_sub {α : Type} [DecidableEq α] : ∀ (U L : List α), U.Nodup → (∀ x, x ∈ U → x ∈ L) → L.length ≤ U.length → L.Perm U
  | [], L, _, _, hl => by rw [List.length_eq_zero_iff.mp (Nat.le_zero.mp hl)]
  | x :: U, L, nd, h, hl => by
    obtain ⟨h1, h2⟩ := List.nodup_cons.mp nd
    have hx := h x (List.mem_cons_self ..)
    have e := List.perm_cons_erase hx
    refine e.trans (.cons x (perm_of_sub U (L.erase x) h2 (fun y hy => ?_) ?_))
    · exact (List.mem_erase_of_ne (fun z : y = x => h1 (by rw [← z]; exact hy))).mpr (h y (List.mem_cons_of_mem _ hy))
    · rw [List.length_erase_of_mem hx]
      rw [List.length_cons] at hl
      omega
theorem nunit_inj {n i j : Nat} (hi : i < n) (hj : j < n) (h : nunit n i = nunit n j) : i = j := by
  have h1 : (nunit n i)[i]? = some (-1) := by unfold nunit; rw [map_range_get _ hi, if_pos rfl]
  rw [h] at h1
  unfold nunit at h1
  rw [map_range_get _ hi] at h1
  by_cases c : i = j
  · exact c
  · rw [if_neg c] at h1
    cases h1
theorem nunit_perm {n i : Nat} (hi : i < n) : (nunit n i).Perm (-1 :: List.replicate (n - 1) 0) := by
  unfold nunit
  have e : List.range n = List.range i ++ (i :: (List.range (n - i - 1)).map (· + (i + 1))) := by
    refine List.ext_getElem? fun k => ?_
    by_cases hk : k < n
    · rw [List.getElem?_range hk]
      by_cases h1 : k < i
      · rw [List.getElem?_append_left (by rw [List.length_range]; exact h1), List.getElem?_range h1]
      · rw [List.getElem?_append_right (by rw [List.length_range]; omega), List.length_range]
        by_cases h2 : k = i
        · subst h2; simp
        · obtain ⟨t, rfl⟩ : ∃ t, k = i + (t + 1) := ⟨k - i - 1, by omega⟩
          rw [Nat.add_sub_cancel_left, List.getElem?_cons_succ, List.getElem?_map, List.getElem?_range (by omega)]
          show _ = some (t + (i + 1))
          congr 1; omega
    · rw [List.getElem?_eq_none (by rw [List.length_range]; omega), List.getElem?_eq_none (by
        rw [List.length_append, List.length_cons, List.length_map, List.length_range, List.length_range]
        omega)]
  rw [e, List.map_append, List.map_cons, if_pos rfl, List.map_map]
  have a1 : (List.range i).map (fun l => if l = i then (-1 : Int) else 0) = List.replicate i 0 := by
    refine List.eq_replicate_iff.mpr ⟨by rw [List.length_map, List.length_range], fun x hx => ?_⟩
    obtain ⟨l, hl, rfl⟩ := List.mem_map.mp hx
    rw [if_neg (by have := List.mem_range.mp hl; omega)]
  have a2 : (List.range (n - i - 1)).map ((fun l => if l = i then (-1 : Int) else 0) ∘ (· + (i + 1))) = List.replicate (n - i - 1) 0 := by
    refine List.eq_replicate_iff.mpr ⟨by rw [List.length_map, List.length_range], fun x hx => ?_⟩
    obtain ⟨l, hl, rfl⟩ := List.mem_map.mp hx
    show (if l + (i + 1) = i then (-1 : Int) else 0) = 0
    rw [if_neg (by omega)]
  rw [a1, a2]
  refine List.perm_middle.trans (.cons _ ?_)
  rw [List.replicate_append_replicate]
  rw [show i + (n - i - 1) = n - 1 by omega]
end
end Nh
set_option Elab.async false
set_option linter.all false
set_option maxRecDepth 100000
namespace Nh
open PySem PySem.Spec PyProof.Rows L2
/-! ### a dict of boards -/
def rkey (r : List Int) : NestedKey := .tup (r.map NestedKey.num)
def bkey (W : Bd) : NestedKey := .tup (W.map rkey)
theorem num_inj : ∀ r r' : List Int, r.map NestedKey.num = r'.map NestedKey.num → r = r' := fun r r' h => (List.map_inj_right fun x y (z : NestedKey.num x = NestedKey.num y) => by injection z).mp h
theorem rkey_inj {r r' : List Int} (h : rkey r = rkey r') : r = r' := by
  unfold rkey at h
  injection h with h
  exact num_inj r r' h
theorem bkey_inj {W W' : Bd} (h : bkey W = bkey W') : W = W' := by
  unfold bkey at h
  injection h with h
  exact (List.map_inj_right fun x y z => rkey_inj z).mp h
theorem dep_nums : ∀ r : List Int, NestedKey.depthAll (r.map NestedKey.num) = 0
  | [] => rfl
  | _ :: r => by show max 0 _ = 0; rw [dep_nums r]; rfl
theorem dep_rows : ∀ W : Bd, NestedKey.depthAll (W.map rkey) ≤ 1
  | [] => Nat.zero_le _
  | r :: W => by
    show max (NestedKey.depthAll (r.map NestedKey.num) + 1) _ ≤ 1
    rw [dep_nums]
    exact Nat.max_le.mpr ⟨Nat.le_refl _, dep_rows W⟩
theorem dep_b (W : Bd) : (bkey W).depth ≤ 8 := Nat.le_trans (Nat.succ_le_succ (dep_rows W)) (by decide)
section
variable {P : Program} {w : World} {H : Hp} {h : Heap}
theorem nis_ints : ∀ {ns : List Int} {its : List Value}, Vals (ns.map V.int) its → NestedAll h (ns.map NestedKey.num) its
  | [], _, r => by cases r; exact .nil
  | n :: ns, _, r => by
    cases r with
    | cons r1 r2 =>
      obtain ⟨t, rfl⟩ := r1
      exact .cons (.int n t) (nis_ints r2)
theorem nis_row (hok : HOk P w H h) {r : List Int} {v : V} {u : Value} (hr : Rep.rep H v r) (ru : RelV v u) : NestedIs h (rkey r) u := by
  obtain ⟨a, rfl, ha⟩ := rep_row.mp hr
  obtain rfl : u = Value.ref a := ru
  obtain ⟨_, its, rv, o, ho, hc, n, hd⟩ := hok _ _ ha
  exact .tup ho hc hd (by simpa using nis_ints rv)
theorem nis_rows (hok : HOk P w H h) : ∀ {vs : List V} {W : Bd} {its : List Value}, A2 (Rep.rep H) vs W → Vals vs its → NestedAll h (W.map rkey) its
  | _, _, _, .nil, r => by cases r; exact .nil
  | _, _, _, .cons a b, r => by
    cases r with
    | cons r1 r2 => exact .cons (nis_row hok a r1) (nis_rows hok b r2)
theorem nis_bd (hok : HOk P w H h) {W : Bd} {a : Addr} (hr : Rep.rep H (.ref a) W) : NestedIs h (bkey W) (.ref a) := by
  obtain ⟨a', vs, e, ha, h2⟩ := hr
  cases e
  obtain ⟨_, its, rv, o, ho, hc, n, hd⟩ := hok _ _ ha
  exact .tup ho hc hd (by simpa using nis_rows hok h2 rv)
/-- the dict's object -/
def dnO (P : Program) (w : World) (p : Addr) (xs : List (NestedKey × Addr × Value)) : HO := .ext fun h => ∃ o es ep, h.get? p = some o ∧ o.ExactDict ∧ o.data = .dict es ep ∧ es.toList = xs.map (entryOfKey (nestedKind P w))
def ents (xs : List (Bd × Addr)) : List (NestedKey × Addr × Value) := xs.map fun x => (bkey x.1, x.2, .bool true)
theorem dnO_ok {p : Addr} {xs : List (NestedKey × Addr × Value)} (x : h.DictOfH (nestedKind P w) p xs) : ObjOk P w H h p (dnO P w p xs) := by
  obtain ⟨o, es, ep, h1, h2, h3, h4, _⟩ := x
  refine ⟨⟨o, es, ep, h1, h2, h3, h4⟩, ⟨o, h1⟩, fun a b ⟨o', es', ep', k1, k2, k3, k4⟩ hab => ⟨o', es', ep', hab _ k1, k2, k3, k4⟩⟩
/-- boards that were seen -/
structure Seen (P : Program) (w : World) (H : Hp) (p : Addr) (xs : List (Bd × Addr)) : Prop where
  at' : H p = some (dnO P w p (ents xs))
  reps : ∀ x, x ∈ xs → Rep.rep H (.ref x.2) x.1
  nd : (xs.map (·.1)).Nodup
  big : (p == sysModules) = false
theorem Seen.up {H' : Hp} {p : Addr} {xs : List (Bd × Addr)} (x : Seen P w H p xs) (s : Same H H') : Seen P w H' p xs := ⟨s _ _ x.at', fun y hy => Rep.up s (x.reps y hy), x.nd, x.big⟩
theorem Seen.but {H' : Hp} {p q : Addr} {xs : List (Bd × Addr)} {vs : List V} (x : Seen P w H p xs) (t : But q H H') (hq : H q = some (.lst vs)) : Seen P w H' p xs := by
  have hne : p ≠ q := fun e => by
    have := x.at'
    rw [e, hq] at this
    cases this
  exact ⟨t p _ hne x.at', fun y hy => Rep.keep (t.tk hq) (x.reps y hy), x.nd, x.big⟩
theorem ents_keys (xs : List (Bd × Addr)) : (ents xs).map (·.1) = (xs.map (·.1)).map bkey := by
  unfold ents
  rw [List.map_map, List.map_map]; rfl
theorem nodup_map {α β : Type} {f : α → β} (inj : ∀ x y, f x = f y → x = y) : ∀ {l : List α}, l.Nodup → (l.map f).Nodup
  | [], _ => List.nodup_nil
  | x :: l, h => by
    obtain ⟨h1, h2⟩ := List.nodup_cons.mp h
    rw [List.map_cons, List.nodup_cons]
    refine ⟨fun m => ?_, nodup_map inj h2⟩
    obtain ⟨y, hy, e⟩ := List.mem_map.mp m
    rw [inj _ _ e] at hy
    exact h1 hy
theorem Seen.dict {p : Addr} {xs : List (Bd × Addr)} (x : Seen P w H p xs) (hok : HOk P w H h) : h.DictOfH (nestedKind P w) p (ents xs) := by
  obtain ⟨⟨o, es, ep, h1, h2, h3, h4⟩, _⟩ := (show ObjOk P w H h p (dnO P w p (ents xs)) from hok _ _ x.at')
  refine ⟨o, es, ep, h1, h2, h3, h4, fun y hy => ?_, ?_⟩
  · unfold ents at hy
    obtain ⟨z, hz, rfl⟩ := List.mem_map.mp hy
    exact ⟨nis_bd hok (x.reps z hz), dep_b _⟩
  · rw [ents_keys]
    exact nodup_map (fun _ _ e => bkey_inj e) x.nd
theorem atKey_ents (W : Bd) : ∀ xs : List (Bd × Addr), (atKey (ents xs) (bkey W)).isSome = decide (W ∈ xs.map (·.1))
  | [] => rfl
  | x :: xs => by
    have ih := atKey_ents W xs
    unfold atKey ents at ih ⊢
    rw [List.map_cons, List.map_cons, List.find?_cons]
    by_cases e : x.1 = W
    · rw [decide_eq_true (by rw [e])]
      subst e
      simp
    · have e2 : ¬ bkey x.1 = bkey W := fun z => e (bkey_inj z)
      rw [decide_eq_false e2]
      dsimp only
      rw [ih]
      refine decide_eq_decide.mpr ⟨fun z => List.mem_cons_of_mem _ z, fun z => (List.mem_cons.mp z).elim (fun y => absurd y.symm e) id⟩
theorem Seen.add {h' : Heap} {p a : Addr} {xs : List (Bd × Addr)} {W : Bd} (x : Seen P w H p xs) (ha : Rep.rep H (.ref a) W) (hW : W ∉ xs.map (·.1)) : Seen P w (upd H p (dnO P w p (ents (xs ++ [(W, a)])))) p (xs ++ [(W, a)]) := by
  have tk : TK H (upd H p (dnO P w p (ents (xs ++ [(W, a)])))) := fun b z u hb => by
    rw [upd_ne (ne_of hb x.at' (by
      rcases u with ⟨_, rfl⟩ | ⟨_, _, rfl⟩ <;> intro e <;> cases e))]
    exact hb
  refine ⟨upd_same, fun y hy => ?_, ?_, x.big⟩
  · rcases List.mem_append.mp hy with z | z
    · exact Rep.keep tk (x.reps y z)
    · rw [List.mem_singleton.mp z]
      exact Rep.keep tk ha
  · rw [List.map_append]
    refine List.nodup_append.mpr ⟨x.nd, List.nodup_cons.mpr ⟨List.not_mem_nil, List.nodup_nil⟩, fun a ha b hb e => ?_⟩
    rw [List.mem_singleton.mp hb] at e
    have e2 : a = W := e
    rw [e2] at ha
    exact hW ha
end
theorem room8 {X : Cx} (hu : X.A.units + 64 < cLine) : (nestedKind X.prog X.w).room X.A := by
  show X.A.units + 8 < cLine
  omega
theorem room8' {X : Cx} (hu : X.A.units + 64 < cLine) : (nestedKind X.prog X.w).room X.A.in1 := by
  show X.A.units + 1 + 8 < cLine
  omega
section
variable {X : Cx} {σ : L2.St} {H : Hp} {D : Ends} {rest : List Stmt} {a b e o : Expr} {pos p : Pos}
def rNIS (P : Program) (w : World) : R2 := fun x y H Q => ∃ (a p : Addr) (W : Bd) (xs : List (Bd × Addr)), x = .ref a ∧ y = .ref p ∧ Rep.rep H (.ref a) W ∧ Seen P w H p xs ∧ Q (.bl (!decide (W ∈ xs.map (·.1)))) H
theorem op_nis (hu : X.A.units + 64 < cLine) : OpR X (compareOp .NotIn) (rNIS X.prog X.w) := by
  intro pins s σ H x y v u Q I rx ry h
  obtain ⟨a, p, W, xs, rfl, rfl, ha, hp, q⟩ := h
  obtain rfl : v = Value.ref a := rx
  obtain rfl : u = Value.ref p := ry
  have hd := hp.dict I.hok
  show wpAny _ _ (contains (.ref p) (.ref a) >>= fun b => pure (Value.bool (!b))) _ _ s
  refine wpAny_bind (wpAny_contains_heap (room8' hu) ⟨nis_bd I.hok ha, dep_b W⟩ hp.big hd (wpAny_pure ?_))
  rw [atKey_ents]
  exact ⟨.bl _, H, I.tok _, rfl, q⟩
theorem tnotinS {W : Bd} {xs : List (Bd × Addr)} {q0 : Addr} (hu : X.A.units + 64 < cLine) (hs : Seen X.prog X.w H q0 xs) (ha : Ex X σ H a W) (hb : Ex X σ H b (Raw.mk (.ref q0))) (hm : behindInMarks .NotIn b = false := by rfl) : ET X σ H (.Compare a [.NotIn] [b] pos) (!decide (W ∈ xs.map (·.1))) := fun H1 s Q q =>
  wt (pt_cmpR (op_nis hu) (lzE a) (lzE b) hm) (x2 ha hb s fun v u H' s' r1 r2 => by
    have e : u = V.ref q0 := r2
    subst e
    obtain ⟨t, vs, rfl, h1, h2⟩ := id r1
    exact ⟨t, q0, W, xs, rfl, rfl, r1, hs.up (s.trans s'), _, rfl, q _ s'⟩)
def rSetS (P : Program) (w : World) : V → V → V → Hp → (Hp → Prop) → Prop := fun o i v H Q => ∃ (p a : Addr) (W : Bd) (xs : List (Bd × Addr)), o = .ref p ∧ i = .ref a ∧ v = .bl true ∧ Rep.rep H (.ref a) W ∧ Seen P w H p xs ∧ W ∉ xs.map (·.1) ∧ xs.length ≤ 1000000 ∧ ∀ H', But p H H' → TK H H' → Seen P w H' p (xs ++ [(W, a)]) → Q H'
theorem set_seen (hu : X.A.units + 64 < cLine) : PSet X (rSetS X.prog X.w) := by
  intro pins s σ H o i v ov iv u Q I ro ri rv h
  obtain ⟨p, a, W, xs, rfl, rfl, rfl, ha, hp, hW, hz, q⟩ := h
  obtain rfl : ov = Value.ref p := ro
  obtain rfl : iv = Value.ref a := ri
  obtain rfl : u = Value.bool true := rv
  have hn : atKey (ents xs) (bkey W) = none := by
    have := atKey_ents W xs
    rw [decide_eq_false hW] at this
    cases e : atKey (ents xs) (bkey W) with
    | none => rfl
    | some z => rw [e] at this; cases this
  have tk : TK H (upd H p (dnO X.prog X.w p (ents (xs ++ [(W, a)])))) := fun b z u hb => by
    rw [upd_ne (ne_of hb hp.at' (by
      rcases u with ⟨_, rfl⟩ | ⟨_, _, rfl⟩ <;> intro e <;> cases e))]
    exact hb
  refine wpAny_setItem_heap (room8' hu) ⟨nis_bd I.hok ha, dep_b W⟩ (hp.dict I.hok) (fun h' hd hs => ?_) (by
    unfold ents
    rw [List.length_map, sizeLine_eq]; omega)
  rw [storedH_new hn] at hd
  have e2 : ents xs ++ [(bkey W, a, Value.bool true)] = ents (xs ++ [(W, a)]) := by unfold ents; rw [List.map_append]; rfl
  rw [e2] at hd
  have he : ∃ o, h'.get? p = some o := by
    obtain ⟨o, _, _, e', _⟩ := hd
    exact ⟨o, e'⟩
  exact ⟨_, I.write (t' := _) (x := p) (e := p) (o := dnO X.prog X.w p (ents (xs ++ [(W, a)]))) (by rw [hp.at']; exact True.intro) (.inl rfl) (fun b u hb e => (hs.2 b hb).trans e) he (dnO_ok hd), q _ .upd tk (hp.add (h' := h') ha hW)⟩
/-- seen[made] = True -/
theorem sputS {q0 : Addr} {W : Bd} {xs : List (Bd × Addr)} {o ie : Expr} {p1 : Pos} (hu : X.A.units + 64 < cLine) (hs : Seen X.prog X.w H q0 xs) (he : Ex X σ H e true) (ho : Ex X σ H o (Raw.mk (.ref q0))) (hi : Ex X σ H ie W) (hW : W ∉ xs.map (·.1)) (hz : xs.length ≤ 1000000)
    (k : ∀ a H', But q0 H H' → TK H H' → Seen X.prog X.w H' q0 (xs ++ [(W, a)]) → WS X rest D σ H')
    (ha : ∀ v, assign (.Subscript o ie p1) X.env v = (do
      let ov ← holding [v] (eval o X.env)
      let iv ← holding [v, ov] (eval ie X.env)
      standAt p1
      holding [v, ov, iv] (setItem ov iv v)
      release [v, ov, iv] []) := by intro _; rfl)
    (hs1 : swapsWithSole [.Subscript o ie p1] e pos.line X.env = pure false := by rfl) (hw : swappedStores [.Subscript o ie p1] e X.env = pure none := by rfl)
    (h1 : (assignEach [.Subscript o ie p1] X.env).map (·.2) = [assign (.Subscript o ie p1) X.env] := by rfl) :
    WS X (.Assign [.Subscript o ie p1] e pos :: rest) D σ H :=
  wcons (w1 (ps_asg (lzE e) (pg_sub (lzE o) (lzE ie) (set_seen hu) ha) hs1 hw h1) (he H (.refl H) _ fun u H1 s1 r1 => ho H1 s1 _ fun v H2 s2 r2 => hi H2 (s1.trans s2) _ fun z H3 s3 r3 => by
    have ev : v = V.ref q0 := r2
    have eu : u = V.bl true := r1
    subst ev; subst eu
    obtain ⟨t, vs, rfl, _, _⟩ := id r3
    have ss := (s1.trans s2).trans s3
    exact ⟨q0, t, W, xs, rfl, rfl, rfl, r3, hs.up ss, hW, hz, fun H' b1 t1 s4 => k t H' ((But.of ss).trans b1) ((tk_of ss).trans t1) s4⟩))
/-- {start: True} -/
theorem xdictS {W : Bd} {k : Expr} {v : Expr} (hu : X.A.units + 64 < cLine) (ha : Ex X σ H k W) (hv : Ex X σ H v true) : EV X σ H (.Dict [some k] [v] pos) fun H1 H' u => ∃ q0 t, u = .ref q0 ∧ H1 q0 = none ∧ Seen X.prog X.w H' q0 [(W, t)] := fun H1 s Q q => ⟨fun pins s0 I => by
  have hn := I.hok.fresh (Nat.le_refl s0.heap.objs.size)
  have hbig : (s0.heap.objs.size == sysModules) = false := beq_eq_false_iff_ne.mpr (Ne.symm (Nat.ne_of_lt I.big))
  have hd0 : (s0.heap.push { cls := .type "dict", data := .dict #[] }).DictOfH (nestedKind X.prog X.w) s0.heap.objs.size [] := Heap.DictOfH.new _
  have I1 := I.laid (a := s0.heap.objs.size) (o := dnO X.prog X.w s0.heap.objs.size []) (h' := s0.heap.push { cls := .type "dict", data := .dict #[] }) (t' := s0.toks) (fun _ _ q => Heap.get?_push_of_some _ q) (Nat.le_refl _) (dnO_ok hd0)
  have s1 : Same H1 (upd H1 s0.heap.objs.size (dnO X.prog X.w s0.heap.objs.size [])) := same_new hn
  refine wpAny_Dict_any rfl rfl (by intro e; cases e) (by show 1 ≤ 15; decide) (pairTrees_cons_walk (thn ((ha _ (s.trans s1) (fun v H2 => Same (upd H1 s0.heap.objs.size (dnO X.prog X.w s0.heap.objs.size [])) H2 ∧ Rep.rep H2 v W) (fun _ _ a b => ⟨a, b⟩)).run pins _ I1) fun u s2 ⟨x, H2, I2, rx, s2', r2⟩ =>
    thn ((hv H2 ((s.trans s1).trans s2') (fun v H3 => Same H2 H3 ∧ Rep.rep H3 v true) (fun _ _ a b => ⟨a, b⟩)).run pins _ I2) fun w2 s3 ⟨y, H3, I3, ry, s3', r3⟩ => pairTrees_nil_walk ?_))
  have ey : y = V.bl true := r3
  subst ey
  obtain rfl : w2 = Value.bool true := ry
  obtain ⟨t, vs, rfl, h1, h2⟩ := id r2
  obtain rfl : u = Value.ref t := rx
  have r2' := Rep.up s3' r2
  have hp : Seen X.prog X.w H3 s0.heap.objs.size [] := ⟨s3' _ _ (s2' _ _ upd_same), fun y hy => absurd hy List.not_mem_nil, List.nodup_nil, hbig⟩
  refine wpAny_storeAllH (knd := nestedKind X.prog X.w) (room8 hu) [(.ref t, .bool true)] [(bkey W, t, .bool true)] [] s3 _ ⟨rfl, rfl, ⟨nis_bd I3.hok r2', dep_b W⟩, True.intro⟩ (hp.dict I3.hok) (by rw [sizeLine_eq]; show 0 + 1 ≤ _; omega) fun h' tk hd hs => ?_
  have he : ∃ o, h'.get? s0.heap.objs.size = some o := by
    obtain ⟨o, _, _, e', _⟩ := hd
    exact ⟨o, e'⟩
  have hd' : h'.DictOfH (nestedKind X.prog X.w) s0.heap.objs.size (ents ([] ++ [(W, t)])) := hd
  refine ⟨.ref s0.heap.objs.size, _, I3.write (t' := tk) (x := s0.heap.objs.size) (e := s0.heap.objs.size) (o := dnO X.prog X.w s0.heap.objs.size (ents ([] ++ [(W, t)]))) (by rw [hp.at']; exact True.intro) (.inl rfl) (fun b u hb e => (hs.2 b hb).trans e) he (dnO_ok hd'), rfl, q _ _ (fun b o hb => ?_) ⟨_, t, rfl, hn, hp.add (h' := h') r2' List.not_mem_nil⟩⟩
  have hne : b ≠ s0.heap.objs.size := fun e => by rw [e, hn] at hb; cases hb
  rw [upd_ne hne]
  exact s3' _ _ (s2' _ _ (s1 _ _ hb))⟩
end
end Nh
set_option Elab.async false
set_option linter.all false
set_option maxRecDepth 100000
set_option maxHeartbeats 4000000
namespace Nh
open PySem PySem.Spec PyProof.Rows L2
/-! ### the text -/
def topS (i : Nat) : Stmt := PySem.Challenge.pw_neverhalves_k52_whole_shortest_full_rows.main.body.getD i (.Pass ⟨0, 0, 0, 0⟩)
/-- the built-in names that the text reads -/
structure Blt (mg : Str → Option Value) : Prop where
  len : mg "len" = none
  any : mg "any" = none
  range : mg "range" = none
  abs : mg "abs" = none
  tuple : mg "tuple" = none
  enumerate : mg "enumerate" = none
  zip : mg "zip" = none
  int : mg "int" = none
  max : mg "max" = none
  min : mg "min" = none
  sorted : mg "sorted" = none
  sum : mg "sum" = none
  isinstance : mg "isinstance" = none
  bool : mg "bool" = none
  list : mg "list" = none
  gcd : mg "gcd" = some (.builtin "math.gcd")
theorem cal_of {P : Program} {w : World} {K : PySem.W.Frag} {mg : Str → Option Value} {base : Heap} {k : Nat} {x : Str} {ps : List Str} {sp : Sp} {f : Addr} {fd : FuncData} (F : FnOk P w K mg base CX0 k f fd ps sp) (m : mg x = some (.ref f)) (kp : PySem.W.keepIn K (.ref f) = true) (b : Binds K fd ps []) : Cal P w K mg base k x ps sp := ⟨f, fd, F, m, kp, b⟩
section
variable {P : Program} {w : World} {K : PySem.W.Frag} {mg : Str → Option Value} {base : Heap}
/-! ### swap -/
theorem sc_swap : FnScope ["board", "place", "head", "rows", "at", "row", "side", "made", "entry", "over"] ["board", "place"] (defScope (topS 13)) := ⟨rfl, rfl, rfl, by decide +kernel, rfl, by decide +kernel, by decide +kernel⟩
theorem ok_swap {f : Addr} {fd : FuncData} (T : Blt mg) (F : Fun K "swap" "swap" (topS 13) f fd) : FnOk P w K mg base CX0 1 f fd ["board", "place"] (sp2 preSwap swI) := by
  refine F.ok sc_swap (fun vs H Q E h => ?_) (fun cdv A outer s H vs Q E hr h => ⟨_, lzS _, ?_⟩)
  · obtain ⟨v, u, x, y, rfl, _⟩ := h
    rfl
  · obtain ⟨v0, v1, b, k, rfl, r0, r1, ⟨n, m, j, B, wf, rfl, hj, bb, hB, hm⟩, q⟩ := h
    have nd := sc_swap.nd
    obtain ⟨hd, hhd⟩ := get_lt (l := b) (i := j) (by rw [wf.len]; have := wf.le; omega)
    refine spar 2 3 rfl nd (xit (xv 0 r0) (xv 1 r1) (atI_nat hhd)) (lnil (α := List Int)) fun v2 v3 H1 H2 s1 r2 s2 r3 => ?_
    obtain ⟨p3, rfl, n3, l3⟩ := r3
    have s02 := s1.trans s2
    replace r2 := Rep.up s2 r2
    refine sfor rfl PassesOwn.never (wenumT T.enumerate (xv 0 (Rep.up s02 r0))) (pg_tup rfl (pgs_cons (pg_name (i := 4) nd rfl (.inl rfl)) (pgs_cons (pg_name (i := 5) nd rfl (.inl rfl)) pgs_nil))) fun Hb src s3 sc _ => ?_
    subst sc
    have s03 := s02.trans s3
    have n0 : H p3 = none := s1.free n3
    refine ⟨fun i σ H3 => ∃ x4 x5 x6 x7, σ = [some v0, some v1, some v2, some (.ref p3), x4, x5, x6, x7, none, none] ∧ Fill H Hb p3 ((sw b j).take i) H3, ⟨none, none, none, none, rfl, s03, .refl _, l3.up s3⟩, fun i σ H3 h => ?_, fun i x σ H3 hx h v H4 s4 r4 => ?_, fun σ H3 h => ?_⟩
    · obtain ⟨_, _, _, _, _, h⟩ := h
      exact h.kp
    · obtain ⟨x4, x5, x6, x7, rfl, F3⟩ := h
      obtain ⟨e1, hrow⟩ := enumd_get hx
      obtain ⟨xi', row⟩ := x
      dsimp only at e1 hrow
      subst e1
      have him : i < m := by rw [← wf.len]; exact lt_get hrow
      have hsw : (sw b j)[i]? = some (srow b n j i) := wf.sw_get him j
      have F4 := F3.up s4
      have hrl : row.length ≤ 4000 := by rw [wf.row row (get_mem hrow)]; have := wf.le; omega
      have hz : ((sw b j).take i).length < sizeLine := by
        rw [List.length_take, sw_len, wf.len]
        have : (1000 : Nat) < sizeLine := by decide
        omega
      refine gpair r4 fun v4 v5 r5 r6 => ?_
      have s0 := F4.same
      refine sif (teq (xv 4 r5) (xv 1 (Rep.up s0 r1))) (fun ht H5 s5 => ?_) (fun ht H5 s5 => ?_)
      · have e : i = j := by have := of_decide_eq_true ht; omega
        subst e
        have F5 := F4.up s5
        refine sapp F5.ls (xw 3) (xtupE T.tuple (comp1 (i := 8) rfl nd (by kernel_rfl) (wtup (xv 5 (Rep.up s5 r6))) (len_small hrl) fun k x hx v H6 s6 r7 _ _ _ _ _ => xneg (xv 8 r7)).ev) hz fun H6 t6 l6 => ?_
        rw [wf.row_neg hrow, ← take_snoc hsw] at l6
        exact wnil (wnil ⟨_, _, _, _, rfl, F5.put n0 t6 l6⟩)
      · have e : i ≠ j := by have := of_decide_eq_false ht; omega
        have F5 := F4.up s5
        have r6' := Rep.up s5 r6
        refine sset 6 nd (xit (xv 5 r6') (xv 1 (Rep.up F5.same r1)) (atI_nat (wf.get hrow hj))) fun v6 H6 s6 r7 => ?_
        have F6 := F5.up s6
        refine ssetc 7 (comp2 (i := 8) (j := 9) (f := mixE (at2 b i j)) rfl nd (by decide) (by kernel_rfl) (wzip T.zip (xv 5 (Rep.up s6 r6')) (xv 2 (Rep.keep F6.tk (Rep.up s3 r2)))) (len_small ?_) fun k x hx v u H7 s7 r8 r9 _ _ _ _ _ => ?_) fun v7 H7 s7 r8 => ?_
        · rw [List.length_zip]
          exact Nat.le_trans (Nat.min_le_left _ _) hrl
        · have b1 := bb.at i j
          have b2 : x.2.natAbs < 2 ^ B := bb hd (get_mem hhd) _ (List.of_mem_zip (get_mem hx)).2
          have a1 : ((at2 b i j).natAbs : Int).natAbs < 2 ^ B := by rw [Int.natAbs_natCast]; exact b1
          have a2 : (x.2.natAbs : Int).natAbs < 2 ^ B := by rw [Int.natAbs_natCast]; exact b2
          have r7' := Rep.up s7 r7
          exact xadd (xv 8 r8) (xdiv (xadd (xmul (xabs T.abs (xv 6 r7')) (xv 9 r9) (mulx_ok a1 b2 (by omega))) (xmul (xv 6 r7') (xabs T.abs (xv 9 r9)) (mulx_ok b1 a2 (by omega)))) xi ⟨by decide, by decide⟩)
        · obtain ⟨p7, rfl, n7, l7⟩ := r8
          have F7 := F6.up s7
          have n73 : p7 ≠ p3 := fun z => by
            obtain ⟨vs, h1, _⟩ := F6.ls
            rw [z, h1] at n7
            cases n7
          refine sput l7 (xneg (xv 6 (Rep.up s7 r7))) (xw 7) (xv 1 (Rep.up F7.same r1)) (j := j) ?_ fun H8 t8 l8 => ?_
          · have hl : (List.map (mixE (at2 b i j)) (row.zip hd)).length = n := by
              rw [List.length_map, List.length_zip, wf.row row (get_mem hrow), wf.row hd (get_mem hhd), Nat.min_self]
            unfold ixN
            rw [hl, if_pos (by omega), if_pos (by omega)]
            rfl
          · have F8 : Fill H Hb p3 ((sw b j).take i) H8 := by
              obtain ⟨us, hu, _⟩ := l7
              refine ⟨fun b' o hb' => t8 b' o ?_ (F7.same b' o hb'), F7.tk.trans (t8.tk hu), t8.ls hu (Ne.symm n73) F7.ls⟩
              exact ne_of_none (F6.same b' o hb') n7
            refine sapp F8.ls (xw 3) (xtupL l8 T.tuple (xw 7)) hz fun H9 t9 l9 => ?_
            rw [show (List.map (mixE (at2 b i j)) (row.zip hd)).set j (- at2 b i j) = srow b n j i from wf.row_mix hrow hhd hj e, ← take_snoc hsw] at l9
            exact wnil (wnil ⟨_, _, _, _, rfl, F8.put n0 t9 l9⟩)
    · obtain ⟨x4, x5, x6, x7, rfl, F3⟩ := h
      rw [enumd_len, wf.len, List.take_of_length_le (by rw [sw_len, wf.len]; exact Nat.le_refl _)] at F3
      exact sret (xtupL F3.ls T.tuple (xw 3)) fun v H4 s4 r => q v H4 (F3.same.trans s4) r
end
end Nh
set_option Elab.async false
set_option linter.all false
set_option maxRecDepth 100000
set_option maxHeartbeats 4000000
namespace Nh
open PySem PySem.Spec PyProof.Rows L2
theorem kp0 {Hb H : Hp} (s : Same Hb H) : Kp Hb none H := ⟨tk_of s, fun _ e => nomatch e⟩
theorem len40 {n : Nat} (h : n ≤ 1000) : n ≤ sizeLine := Nat.le_trans h (by decide)
theorem get_getD {xs : List Int} {j : Nat} (h : j < xs.length) : xs[j]? = some (xs.getD j 0) := by
  obtain ⟨x, hx⟩ := get_lt h
  rw [getD_of hx, hx]
section
variable {P : Program} {w : World} {K : PySem.W.Frag} {mg : Str → Option Value} {base : Heap}
def preB (b : Bd) : Prop := ∃ n m, Wf n m b ∧ m ≤ 1000
def preBy (b : Bd) (r : List Int) : Prop := ∃ n m, Wf n m b ∧ m ≤ 1000 ∧ Places n r ∧ Fit r.length b
theorem Wf.zero {n m : Nat} {b : Bd} (h : Wf n m b) : ∃ r, b[0]? = some r ∧ r.length = n := by
  obtain ⟨r, hr⟩ := get_lt (l := b) (i := 0) (by rw [h.len]; have := h.one; have := h.le; omega)
  exact ⟨r, hr, h.row r (get_mem hr)⟩
/-- len(board[0]) -/
theorem xwid {X : Cx} {σ : L2.St} {H : Hp} {a : Expr} {p pos p2 p3 : Pos} {j : Nat} {b : Bd} {n m : Nat} (h : Wf n m b) (hm : X.mg "len" = none) (ha : Ex X σ H a b) (hg : Gl X "len" := by rfl) :
    Ex X σ H (.Call (.Name "len" p) [.Subscript a (.Constant (.int 0) j p2) p3] [] pos) (n : Int) := by
  obtain ⟨r, hr, hl⟩ := h.zero
  exact (xlen (xs := r) hm (xit ha xi (atI_nat hr)) (by intro _; rfl) hg).as (by rw [hl])
/-! ### swap_by -/
theorem sc_swap_by : FnScope ["board", "row", "place"] ["board", "row"] (defScope (topS 14)) := ⟨rfl, rfl, rfl, by decide +kernel, rfl, by decide +kernel, by decide +kernel⟩
theorem ok_swap_by {f : Addr} {fd : FuncData} (C : Cal P w K mg base 1 "swap" ["board", "place"] (sp2 preSwap swI)) (F : Fun K "swap_by" "swap_by" (topS 14) f fd) : FnOk P w K mg base CX0 2 f fd ["board", "row"] (sp2 preBy swBy) := by
  refine F.ok sc_swap_by (fun vs H Q E h => ?_) (fun cdv A outer s H vs Q E hr h => ⟨_, lzS _, ?_⟩)
  · obtain ⟨v, u, x, y, rfl, _⟩ := h
    rfl
  · obtain ⟨v0, v1, b, r, rfl, r0, r1, ⟨n, m, wf, hm, pl, ft⟩, q⟩ := h
    have nd := sc_swap_by.nd
    refine sfor rfl PassesOwn.never (wtup (xv 1 r1)) (pg_name (i := 2) nd rfl (.inl rfl)) fun Hb src s3 sc _ => ?_
    subst sc
    refine ⟨fun i σ H3 => ∃ x2 v0', σ = [some v0', some v1, x2] ∧ Same Hb H3 ∧ Rep.rep H3 v0' (swBy b (r.take i)), ⟨none, v0, rfl, .refl _, Rep.up s3 r0⟩, fun i σ H3 h => ?_, fun i x σ H3 hx h v H4 s4 r4 => ?_, fun σ H3 h => ?_⟩
    · obtain ⟨_, _, _, h, _⟩ := h
      exact kp0 h
    · obtain ⟨x2, v0', rfl, h, r3⟩ := h
      obtain ⟨j, rfl, hj⟩ := pl x (get_mem hx)
      have hi := lt_get hx
      have ft2 : Fit 0 (swBy b (r.take i)) := Fit.swBy _ (ft.mono (by rw [List.length_take]; omega))
      refine sset 0 nd (xc2 C hr (xv 0 (Rep.up s4 r3)) (xv 2 r4) (preSwap.of (wf.swBy _) hj ft2 hm)) fun v5 H5 s5 r5 => wnil ⟨_, _, rfl, (h.trans s4).trans s5, ?_⟩
      rw [take_snoc hx, swBy_append]
      exact r5
    · obtain ⟨x2, v0', rfl, h, r3⟩ := h
      rw [List.take_length] at r3
      exact sret (xv 0 r3) fun v H4 s4 r => q v H4 ((s3.trans h).trans s4) r
/-! ### table_of, unit_rows, unit_of -/
def tableOf (b : Bd) : Bd := b.take (wid b)
theorem sc_table_of : FnScope ["board"] ["board"] (defScope (topS 15)) := ⟨rfl, rfl, rfl, by decide +kernel, rfl, by decide +kernel, by decide +kernel⟩
theorem ok_table_of {f : Addr} {fd : FuncData} (T : Blt mg) (F : Fun K "table_of" "table_of" (topS 15) f fd) : FnOk P w K mg base CX0 1 f fd ["board"] (sp1 preB tableOf) := by
  refine F.ok sc_table_of (fun vs H Q E h => ?_) (fun cdv A outer s H vs Q E hr h => ⟨_, lzS _, ?_⟩)
  · obtain ⟨v, x, rfl, _⟩ := h
    rfl
  · obtain ⟨v0, b, rfl, r0, ⟨n, m, wf, hm⟩, q⟩ := h
    exact sret ((xslU (xv 0 r0) (xwid wf T.len (xv 0 r0))).as (by rw [cut_to _ (by rw [wf.len]; exact wf.le)]; unfold tableOf; rw [wf.wid])) q
theorem sc_unit_rows : FnScope ["many", "to", "at"] ["many"] (defScope (topS 16)) := ⟨rfl, rfl, rfl, by decide +kernel, rfl, by decide +kernel, by decide +kernel⟩
def idmI (i : Int) : Bd := idm i.toNat
def preN (i : Int) : Prop := ∃ n : Nat, i = (n : Int) ∧ n ≤ 1000
theorem ok_unit_rows {f : Addr} {fd : FuncData} (T : Blt mg) (F : Fun K "unit_rows" "unit_rows" (topS 16) f fd) : FnOk P w K mg base CX0 1 f fd ["many"] (sp1 preN idmI) := by
  refine F.ok sc_unit_rows (fun vs H Q E h => ?_) (fun cdv A outer s H vs Q E hr h => ⟨_, lzS _, ?_⟩)
  · obtain ⟨v, x, rfl, _⟩ := h
    rfl
  · obtain ⟨v0, i, rfl, r0, ⟨n, rfl, hn⟩, q⟩ := h
    have nd := sc_unit_rows.nd
    have hl : (upto n).length ≤ sizeLine := by rw [upto_len]; exact len40 hn
    have h62 : n < 2 ^ 62 := by omega
    refine sret (xtupE T.tuple (comp1 (i := 2) (f := unitRow n) rfl nd (by kernel_rfl) (wrng T.range (xv 0 r0) h62) hl fun k x hx v H6 s6 r7 _ _ _ _ _ => ?_).ev) q
    refine xtupE T.tuple (comp1 (i := 1) (f := fun j => if decide (x = j) = true then 1 else 0) rfl nd (by kernel_rfl) (wrng T.range (xv 0 (Rep.up s6 r0)) h62) hl fun k' y hy u H7 s7 r8 _ _ _ _ _ => ?_).ev
    exact xintB T.int (xeq (xv 2 (Rep.up s7 r7)) (xv 1 r8))
theorem sc_unit_of : FnScope ["board"] ["board"] (defScope (topS 17)) := ⟨rfl, rfl, rfl, by decide +kernel, rfl, by decide +kernel, by decide +kernel⟩
theorem ok_unit_of {f : Addr} {fd : FuncData} (T : Blt mg) (C1 : Cal P w K mg base 1 "table_of" ["board"] (sp1 preB tableOf)) (C2 : Cal P w K mg base 1 "unit_rows" ["many"] (sp1 preN idmI))
    (F : Fun K "unit_of" "unit_of" (topS 17) f fd) : FnOk P w K mg base CX0 2 f fd ["board"] (sp1 preB unitB) := by
  refine F.ok sc_unit_of (fun vs H Q E h => ?_) (fun cdv A outer s H vs Q E hr h => ⟨_, lzS _, ?_⟩)
  · obtain ⟨v, x, rfl, _⟩ := h
    rfl
  · obtain ⟨v0, b, rfl, r0, ⟨n, m, wf, hm⟩, q⟩ := h
    have hnm := wf.le
    refine sret ((xcat (xc1 C1 hr (xv 0 r0) ⟨n, m, wf, hm⟩) (xc1 C2 hr (xwid wf T.len (xv 0 r0)) ⟨n, rfl, by omega⟩) ?_).as ?_) q
    · show (tableOf b).length + (idm n).length ≤ sizeLine
      rw [idm_len]
      unfold tableOf
      rw [wf.wid, List.length_take, wf.len]
      have : (2000 : Nat) ≤ sizeLine := by decide
      omega
    · show tableOf b ++ idm n = unitB b
      unfold tableOf unitB
      rw [wf.wid]
/-! ### columns_of, is_at_green, greens_of -/
def colsC (W : Bd) : List Col := (upto (wid W)).map fun j => Col.mk (colOf W j.toNat)
theorem sc_columns_of : FnScope ["wide", "many", "line", "place"] ["wide"] (defScope (topS 19)) := ⟨rfl, rfl, rfl, by decide +kernel, rfl, by decide +kernel, by decide +kernel⟩
theorem ok_columns_of {f : Addr} {fd : FuncData} (T : Blt mg) (F : Fun K "columns_of" "columns_of" (topS 19) f fd) : FnOk P w K mg base CX0 1 f fd ["wide"] (sp1L preB colsC) := by
  refine F.ok sc_columns_of (fun vs H Q E h => ?_) (fun cdv A outer s H vs Q E hr h => ⟨_, lzS _, ?_⟩)
  · obtain ⟨v, x, rfl, _⟩ := h
    rfl
  · obtain ⟨v0, W, rfl, r0, ⟨n, m, wf, hm⟩, q⟩ := h
    have nd := sc_columns_of.nd
    have hnm := wf.le
    have hl : (upto n).length ≤ sizeLine := by rw [upto_len]; exact len40 (by omega)
    have h62 : n < 2 ^ 62 := by omega
    refine sset 1 nd (xwid wf T.len (xv 0 r0)) fun v1 H1 s1 r1 => ?_
    have r0' := Rep.up s1 r0
    refine sret (comp1 (i := 3) (f := fun j => Col.mk (colOf W j.toNat)) rfl nd (by kernel_rfl) (wrng T.range (xv 1 r1) h62) hl fun k x hx v H6 s6 r7 _ _ _ _ _ => ?_).ev fun v H2 s2 ⟨p, e, np, l⟩ => ?_
    · obtain ⟨hk, rfl⟩ := upto_get hx
      refine (xcol T.tuple (comp1 (i := 2) (f := fun r => r.getD k 0) rfl nd (by kernel_rfl) (wtup ((xslL (xv 0 (Rep.up s6 r0')) (xv 1 (Rep.up s6 r1))).as (cut_from W (by rw [wf.len]; exact hnm)))) ?_ fun k' row hrow u H7 s7 r8 _ _ _ _ _ => ?_).ev).as ?_
      · rw [List.length_drop, wf.len]; exact len40 (by omega)
      · exact xit (xv 2 r8) (xv 3 (Rep.up s7 r7)) (atI_nat (get_getD (by rw [wf.row row (List.mem_of_mem_drop (get_mem hrow))]; exact hk)))
      · show _ = Col.mk (colOf W k)
        unfold colOf
        rw [wf.wid]
    · subst e
      refine q p H2 (s1.trans s2) (s1.free np) ?_
      unfold colsC
      rw [wf.wid]
      exact l
theorem sc_is_at_green : FnScope ["wide", "place", "line"] ["wide", "place"] (defScope (topS 20)) := ⟨rfl, rfl, rfl, by decide +kernel, rfl, by decide +kernel, by decide +kernel⟩
def preAt (b : Bd) (k : Int) : Prop := ∃ n m j, Wf n m b ∧ m ≤ 1000 ∧ k = ((j : Nat) : Int) ∧ j < n
theorem ok_is_at_green {f : Addr} {fd : FuncData} (T : Blt mg) (F : Fun K "is_at_green" "is_at_green" (topS 20) f fd) : FnOk P w K mg base CX0 1 f fd ["wide", "place"] (sp2 preAt grnI) := by
  refine F.ok sc_is_at_green (fun vs H Q E h => ?_) (fun cdv A outer s H vs Q E hr h => ⟨_, lzS _, ?_⟩)
  · obtain ⟨v, u, x, y, rfl, _⟩ := h
    rfl
  · obtain ⟨v0, v1, W, k, rfl, r0, r1, ⟨n, m, j, wf, hm, rfl, hj⟩, q⟩ := h
    have nd := sc_is_at_green.nd
    have hnm := wf.le
    refine sret ((xany rfl T.any (comp1 (i := 2) (f := fun r => decide (0 < r.getD j 0)) rfl nd (by kernel_rfl) (wtup ((xslL (xv 0 r0) (xwid wf T.len (xv 0 r0))).as (cut_from W (by rw [wf.len]; exact hnm)))) ?_ fun k' row hrow u H7 s7 r8 _ _ _ _ _ => ?_).ev).as ?_) q
    · rw [List.length_drop, wf.len]; exact len40 (by omega)
    · exact xgt (xit (xv 2 r8) (xv 1 (Rep.up s7 r1)) (atI_nat (get_getD (by rw [wf.row row (List.mem_of_mem_drop (get_mem hrow))]; exact hj)))) xi
    · show _ = grnI W (j : Int)
      show _ = grn W j
      unfold grn
      rw [wf.wid]
theorem sc_greens_of : FnScope ["wide", "place"] ["wide"] (defScope (topS 21)) := ⟨rfl, rfl, rfl, by decide +kernel, rfl, by decide +kernel, by decide +kernel⟩
theorem ok_greens_of {f : Addr} {fd : FuncData} (T : Blt mg) (C : Cal P w K mg base 1 "is_at_green" ["wide", "place"] (sp2 preAt grnI)) (F : Fun K "greens_of" "greens_of" (topS 21) f fd) :
    FnOk P w K mg base CX0 2 f fd ["wide"] (sp1L preB greens) := by
  refine F.ok sc_greens_of (fun vs H Q E h => ?_) (fun cdv A outer s H vs Q E hr h => ⟨_, lzS _, ?_⟩)
  · obtain ⟨v, x, rfl, _⟩ := h
    rfl
  · obtain ⟨v0, W, rfl, r0, ⟨n, m, wf, hm⟩, q⟩ := h
    have nd := sc_greens_of.nd
    have hnm := wf.le
    have hl : (upto n).length ≤ sizeLine := by rw [upto_len]; exact len40 (by omega)
    have h62 : n < 2 ^ 62 := by omega
    refine sret (comp1f (i := 1) (p := grnI W) (f := fun j => j) rfl nd (by kernel_rfl) (wrng T.range (xwid wf T.len (xv 0 r0)) h62) hl (fun k x hx v H6 s6 r7 _ _ _ _ _ => ?_) fun k x hx hp v H6 s6 r7 _ _ _ _ _ => xv 1 r7).ev fun v H2 s2 ⟨p, e, np, l⟩ => ?_
    · obtain ⟨hk, rfl⟩ := upto_get hx
      exact tv (xc2 C (by assumption) (xv 0 (Rep.up s6 r0)) (xv 1 r7) ⟨n, m, k, wf, hm, rfl, hk⟩)
    · subst e
      refine q p H2 s2 np ?_
      unfold greens
      rw [wf.wid]
      rwa [List.map_id'] at l
end
end Nh
set_option Elab.async false
set_option linter.all false
set_option maxRecDepth 100000
set_option maxHeartbeats 4000000
namespace Nh
open PySem PySem.Spec PyProof.Rows L2
section
variable {P : Program} {w : World} {K : PySem.W.Frag} {mg : Str → Option Value} {base : Heap}
/-! ### places_in, near -/
theorem sc_places_in : FnScope ["told", "many", "row"] ["told"] (defScope (topS 7)) := ⟨rfl, rfl, rfl, by decide +kernel, rfl, by decide +kernel, by decide +kernel⟩
def widI (b : Bd) : Int := (wid b : Int)
theorem ok_places_in {f : Addr} {fd : FuncData} (T : Blt mg) (F : Fun K "places_in" "places_in" (topS 7) f fd) : FnOk P w K mg base CX0 1 f fd ["told"] (sp1 preB widI) := by
  refine F.ok sc_places_in (fun vs H Q E h => ?_) (fun cdv A outer s H vs Q E hr h => ⟨_, lzS _, ?_⟩)
  · obtain ⟨v, x, rfl, _⟩ := h
    rfl
  · obtain ⟨v0, b, rfl, r0, ⟨n, m, wf, hm⟩, q⟩ := h
    have nd := sc_places_in.nd
    have hnm := wf.le
    have h1 := wf.one
    refine sif ((teq (xlen T.len (xv 0 r0)) xi).as (decide_eq_false (by rw [wf.len]; omega))) (fun e => nomatch e) fun _ H1 s1 => wnil ?_
    have r01 := Rep.up s1 r0
    refine sset 1 nd (xwid wf T.len (xv 0 r01)) fun v1 H2 s2 r1 => ?_
    have r02 := Rep.up s2 r01
    refine sif (t := false) (ET.as (tor (tlt (xlen T.len (xv 0 r02)) (xv 1 r1)) fun _ => tv (xany rfl T.any (comp1 (i := 2) (f := fun row => !decide ((row.length : Int) = n)) rfl nd (by kernel_rfl) (wtup (xv 0 r02)) ?_ fun k row hrow v H6 s6 r6 _ _ _ _ _ => ?_).ev)) ?_) (fun e => nomatch e) fun _ H3 s3 => wnil ?_
    · rw [wf.len]; exact len40 hm
    · exact xne (xlen T.len (xv 2 r6)) (xv 1 (Rep.up s6 r1))
    · rw [decide_eq_false (by rw [wf.len]; omega), Bool.false_or]
      rw [List.any_map]
      refine List.any_eq_false.mpr fun row hr => ?_
      have e := wf.row row hr
      simp [e]
    · refine sret (xv 1 (Rep.up s3 r1)) fun v H4 s4 r => q v H4 (((s1.trans s2).trans s3).trans s4) ?_
      unfold widI
      rw [wf.wid]
      exact r
theorem sc_near : FnScope ["told", "place", "many", "other"] ["told", "place", "many"] (defScope (topS 8)) := ⟨rfl, rfl, rfl, by decide +kernel, rfl, by decide +kernel, by decide +kernel⟩
def nearI (b : Bd) (p n : Int) : List Int := (upto n.toNat).filter fun o => !decide (at2 b p.toNat o.toNat = 0)
def preNear (b : Bd) (p k : Int) : Prop := ∃ (n m j : Nat), Wf n m b ∧ m ≤ 1000 ∧ p = (j : Int) ∧ j < n ∧ k = (n : Int)
theorem ok_near {f : Addr} {fd : FuncData} (T : Blt mg) (F : Fun K "near" "near" (topS 8) f fd) : FnOk P w K mg base CX0 1 f fd ["told", "place", "many"] (sp3L preNear nearI) := by
  refine F.ok sc_near (fun vs H Q E h => ?_) (fun cdv A outer s H vs Q E hr h => ⟨_, lzS _, ?_⟩)
  · obtain ⟨v, u, z, x, y, t, rfl, _⟩ := h
    rfl
  · obtain ⟨v0, v1, v2, b, p', k', rfl, r0, r1, r2, ⟨n, m, j, wf, hm, rfl, hj, rfl⟩, q⟩ := h
    have nd := sc_near.nd
    have hnm := wf.le
    have hl : (upto n).length ≤ sizeLine := by rw [upto_len]; exact len40 (by omega)
    have h62 : n < 2 ^ 62 := by omega
    obtain ⟨row, hrow⟩ := get_lt (l := b) (i := j) (by rw [wf.len]; omega)
    refine sret (comp1f (i := 3) (p := fun o => !decide (at2 b j o.toNat = 0)) (f := fun o => o) rfl nd (by kernel_rfl) (wrng T.range (xv 2 r2) h62) hl (fun k x hx v H6 s6 r7 _ _ _ _ _ => ?_) fun k x hx hp v H6 s6 r7 _ _ _ _ _ => xv 3 r7).ev fun v H2 s2 ⟨p, e, np, l⟩ => ?_
    · obtain ⟨hk, rfl⟩ := upto_get hx
      exact tne (xit (xit (xv 0 (Rep.up s6 r0)) (xv 1 (Rep.up s6 r1)) (atI_nat hrow)) (xv 3 r7) (atI_nat (wf.get hrow hk))) xi
    · subst e
      refine q p H2 s2 np ?_
      rwa [List.map_id'] at l
end
end Nh
set_option Elab.async false
set_option linter.all false
set_option maxRecDepth 100000
set_option maxHeartbeats 4000000
namespace Nh
open PySem PySem.Spec PyProof.Rows L2
/-! ### weigh_piece -/
theorem take_one {α : Type} {xs : List α} {i : Nat} {x : α} (h : xs[i]? = some x) : xs.take (i + 1) = xs.take i ++ [x] := by
  rw [List.take_add_one, h]; rfl
def ofN (l : List Nat) : List Int := l.map Int.ofNat
theorem ofN_get {l : List Nat} {i : Nat} {x : Int} (h : (ofN l)[i]? = some x) : ∃ p, l[i]? = some p ∧ x = (p : Int) := by
  unfold ofN at h
  rw [List.getElem?_map] at h
  cases e : l[i]? with
  | none => rw [e] at h; cases h
  | some p => rw [e] at h; exact ⟨p, rfl, (Option.some.inj h).symm⟩
theorem ofN_at {l : List Nat} {i p : Nat} (h : l[i]? = some p) : (ofN l)[i]? = some (p : Int) := by
  unfold ofN
  rw [List.getElem?_map, h]; rfl
theorem ofN_len (l : List Nat) : (ofN l).length = l.length := by unfold ofN; rw [List.length_map]
theorem ofN_snoc (l : List Nat) (p : Nat) : ofN (l ++ [p]) = ofN l ++ [(p : Int)] := by unfold ofN; rw [List.map_append]; rfl
/-- board, found, piece in the heap -/
structure Hw (H0 H : Hp) (v0 : V) (b : Bd) (pf : Addr) (f : List Int) (pp : Addr) (pc : List Nat) : Prop where
  rb : Rep.rep H v0 b
  lf : LsR H pf f
  lp : LsR H pp (ofN pc)
  but : But pf H0 H
  ne : pp ≠ pf
  n0 : H0 pp = none
section
variable {H0 H H' : Hp} {v0 : V} {b : Bd} {pf pp : Addr} {f f' : List Int} {pc pc' : List Nat}
theorem Hw.up (h : Hw H0 H v0 b pf f pp pc) (s : Same H H') : Hw H0 H' v0 b pf f pp pc := ⟨Rep.up s h.rb, h.lf.up s, h.lp.up s, h.but.trans (.of s), h.ne, h.n0⟩
theorem Hw.putf (h : Hw H0 H v0 b pf f pp pc) (t : But pf H H') (l : LsR H' pf f') : Hw H0 H' v0 b pf f' pp pc := by
  obtain ⟨vs, h1, h2⟩ := h.lf
  exact ⟨Rep.keep (t.tk h1) h.rb, l, t.ls h1 h.ne h.lp, h.but.trans t, h.ne, h.n0⟩
theorem Hw.putp (h : Hw H0 H v0 b pf f pp pc) (t : But pp H H') (l : LsR H' pp (ofN pc')) : Hw H0 H' v0 b pf f pp pc' := by
  obtain ⟨vs, h1, h2⟩ := h.lp
  exact ⟨Rep.keep (t.tk h1) h.rb, t.ls h1 (Ne.symm h.ne) h.lf, l, fun c o hc ho => t c o (fun e => by rw [e, h.n0] at ho; cases ho) (h.but c o hc ho), h.ne, h.n0⟩
end
theorem ixN_nat {n i : Nat} (h : i < n) : ixN n (i : Int) = some i := by
  unfold ixN
  rw [if_pos (by omega), if_pos (by omega)]; rfl
structure WpA (b : Bd) (f : List Int) (n m s B C : Nat) (w : Nat → Int) : Prop where
  wf : Wf n m b
  sk : SkW n b w
  bits : Bits B b
  J : Jf n b w C f
  si : s < n
  s0 : fa f s = 0
  B1 : 1 ≤ B
  C1 : 2 * B * n ≤ C
  C2 : C + 2 * B ≤ 8000
  m : m ≤ 1000
def spWP : Sp := fun vs H Q _ => ∃ (v0 v2 v3 : V) (pf : Addr) (b : Bd) (f : List Int) (n m s B C : Nat) (w : Nat → Int), vs = [v0, .ref pf, v2, v3] ∧ Rep.rep H v0 b ∧ LsR H pf f ∧ Rep.rep H v2 (s : Int) ∧ Rep.rep H v3 (n : Int) ∧ WpA b f n m s B C w ∧
  ∀ H' f', But pf H H' → LsR H' pf f' → Jf n b w C f' → fa f' s ≠ 0 → (∀ p, fa f p ≠ 0 → fa f' p ≠ 0) → Q .non H'
/-- what is told of a piece while it grows -/
structure Gr (n : Nat) (b : Bd) (w : Nat → Int) (B : Nat) (f0 f : List Int) (s : Nat) (pc : List Nat) (k : Nat) : Prop where
  pcs : Pc n b w B f0 f pc
  at0 : pc[0]? = some s
  dn : ∀ p i, i < k → pc[i]? = some p → ∀ o, o < n → at2 b p o ≠ 0 → o ∈ pc ∨ fa f0 o ≠ 0
section
variable {P : Program} {w : World} {K : PySem.W.Frag} {mg : Str → Option Value} {base : Heap}
theorem sc_weigh_piece : FnScope ["told", "found", "start", "many", "piece", "at", "place", "other", "here", "there", "scale", "one", "common"] ["told", "found", "start", "many"] (defScope (topS 9)) := ⟨rfl, rfl, rfl, by decide +kernel, rfl, by decide +kernel, by decide +kernel⟩
theorem ok_weigh_piece {fn : Addr} {fd : FuncData} (T : Blt mg) (C : Cal P w K mg base 1 "near" ["told", "place", "many"] (sp3L preNear nearI)) (F : Fun K "weigh_piece" "weigh_piece" (topS 9) fn fd) :
    FnOk P w K mg base CX0 2 fn fd ["told", "found", "start", "many"] spWP := by
  refine F.ok sc_weigh_piece (fun vs H Q E h => ?_) (fun cdv A outer s H vs Q E hr h => ⟨_, lzS _, ?_⟩)
  · obtain ⟨v0, v2, v3, pf, b, f, n, m, s, B, C, w, rfl, _⟩ := h
    rfl
  · obtain ⟨v0, v2, v3, pf, b, f0, n, m, s, B, C1, w, rfl, r0, lf, r2, r3, ⟨wf, S, bb, J, hs, hs0, hB, hC1, hC2, hm⟩, q⟩ := h
    have nd := sc_weigh_piece.nd
    have hnm := wf.le
    have pb := Pc.start J hs hs0 hB
    have e2 : v2 = V.int (s : Int) := r2
    have e3 : v3 = V.int (n : Int) := r3
    subst e2; subst e3
    refine spar 4 5 rfl nd (lone (xv 2 r2)) xi fun v4 v5 H1 H2 s1 r4 s2 r5 => ?_
    obtain ⟨pp, rfl, np, lp⟩ := r4
    have s12 := s1.trans s2
    obtain ⟨vf, hf1, hf2⟩ := id lf
    have hne : pp ≠ pf := fun e => by rw [e, hf1] at np; cases np
    have hw0 : Hw H H2 v0 b pf f0 pp [s] := ⟨Rep.up s12 r0, lf.up s12, lp.up s2, .of s12, hne, np⟩
    refine sput hw0.lf (x := (1 : Int)) (i := (s : Int)) (j := s) xi (xw 1) (xv 2 rfl) (by rw [J.len]; exact ixN_nat hs) fun H3 t3 l3 => ?_
    have hw1 := hw0.putf t3 l3
    have hpl : ∀ {f : List Int} {pc : List Nat} {p : Nat}, Pc n b w B f0 f pc → p ∈ pc → (fa f p).natAbs < 2 ^ C1 := fun h hp => Nat.lt_of_lt_of_le (h.size _ hp) (Nat.pow_le_pow_right (by decide) (Nat.le_trans (Nat.mul_le_mul_left _ h.len_le) hC1))
    refine swhileG PassesOwn.never (fun (g : Nat × List Nat × List Int) σ H' => ∃ x6 x7 x8 x9 x10 x11, σ = [some v0, some (.ref pf), some (.int (s : Int)), some (.int (n : Int)), some (.ref pp), some (.int (g.1 : Int)), x6, x7, x8, x9, x10, x11, none] ∧ Hw H H' v0 b pf g.2.2 pp g.2.1 ∧ g.1 ≤ g.2.1.length ∧ Gr n b w B f0 g.2.2 s g.2.1 g.1)
      (fun g => n - g.1) (fun g => decide ((g.1 : Int) < (ofN g.2.1).length)) (0, [s], f0.set s 1) ⟨none, none, none, none, none, none, by rw [show v5 = V.int 0 from r5]; rfl, hw1, Nat.zero_le _, pb, rfl, fun p i h => absurd h (Nat.not_lt_zero _)⟩ (fun g σ H5 h => ?_) (fun g σ H5 h ht H6 s6 => ?_) (fun g σ H5 h ht H6 s6 => ?_)
    · obtain ⟨x6, x7, x8, x9, x10, x11, rfl, hw, hl, gr⟩ := h
      exact tlt (xv 5 (d := (g.1 : Int)) rfl) (xlenL hw.lp T.len (xw 4))
    · obtain ⟨at', pc, f⟩ := g
      obtain ⟨x6, x7, x8, x9, x10, x11, rfl, hw, hl, gr⟩ := h
      dsimp only at hw hl gr ht ⊢
      have hat : at' < pc.length := by
        have := of_decide_eq_true ht
        rw [ofN_len] at this
        omega
      obtain ⟨p, hp⟩ := get_lt hat
      have hpn := gr.pcs.lt p (get_mem hp)
      obtain ⟨prow, hprow⟩ := get_lt (l := b) (i := p) (by rw [wf.len]; omega)
      replace hw := hw.up s6
      refine sset 6 nd (xil hw.lp (xw 4) (xv 5 (d := (at' : Int)) rfl) (atI_nat (ofN_at hp))) fun v6 H7 s7 r6 => ?_
      have e6 : v6 = V.int (p : Int) := r6
      subst e6
      replace hw := hw.up s7
      refine sfor rfl PassesOwn.never (wlstE (lc3 C hr (xv 0 hw.rb) (xv 6 (d := (p : Int)) rfl) (xv 3 (d := (n : Int)) rfl) ⟨n, m, p, wf, hm, rfl, hpn, rfl⟩)) (pg_name (i := 7) nd rfl (.inl rfl)) fun Hb src s8 sc there => ?_
      obtain ⟨a, rfl, na⟩ := sc
      have naf : a ≠ pf := fun e => by obtain ⟨vs, h1, _⟩ := hw.lf; rw [e, h1] at na; cases na
      have nap : a ≠ pp := fun e => by obtain ⟨vs, h1, _⟩ := hw.lp; rw [e, h1] at na; cases na
      have tha := there a rfl
      replace hw := hw.up s8
      have hL : ∀ x, x ∈ nearI b p n → ∃ o : Nat, x = (o : Int) ∧ o < n ∧ at2 b p o ≠ 0 := fun x hx => by
        unfold nearI at hx
        obtain ⟨h1, h2⟩ := List.mem_filter.mp hx
        rw [Int.toNat_natCast] at h1
        obtain ⟨i, hi⟩ := List.getElem?_of_mem h1
        obtain ⟨h3, h4⟩ := upto_get hi
        refine ⟨i, h4, h3, fun z => ?_⟩
        rw [h4, Int.toNat_natCast, Int.toNat_natCast, z] at h2
        exact absurd h2 (by decide)
      have hL2 : ∀ o, o < n → at2 b p o ≠ 0 → (o : Int) ∈ nearI b p n := fun o ho hb => by
        unfold nearI
        refine List.mem_filter.mpr ⟨?_, ?_⟩
        · rw [Int.toNat_natCast]
          unfold upto
          exact List.mem_map.mpr ⟨o, List.mem_range.mpr ho, rfl⟩
        · rw [Int.toNat_natCast, Int.toNat_natCast, decide_eq_false hb]; rfl
      refine ⟨fun i σ H' => ∃ x7 x8 x9 x10 x11 pc' f', σ = [some v0, some (.ref pf), some (.int (s : Int)), some (.int (n : Int)), some (.ref pp), some (.int (at' : Int)), some (.int (p : Int)), x7, x8, x9, x10, x11, none] ∧ Hw H H' v0 b pf f' pp pc' ∧ Kp Hb (some a) H' ∧ Gr n b w B f0 f' s pc' at' ∧ pc'[at']? = some p ∧ ∀ o : Nat, (o : Int) ∈ (nearI b p n).take i → o ∈ pc' ∨ fa f0 o ≠ 0,
        ⟨_, _, _, _, _, pc, f, rfl, hw, ⟨.refl _, fun _ _ => rfl⟩, gr, hp, fun o h => by simp at h⟩, fun i σ H8 h => ?_, fun i x σ H8 hx h v H9 s9 r9 => ?_, fun σ H8 h => ?_⟩
      · obtain ⟨_, _, _, _, _, _, _, _, _, k, _⟩ := h
        exact k
      · obtain ⟨x7, x8, x9, x10, x11, pc', f', rfl, hw, kp, gr, hp, hnb⟩ := h
        obtain ⟨o, rfl, ho, hbo⟩ := hL x (get_mem hx)
        have e7 : v = V.int (o : Int) := r9
        subst e7
        have hbo2 : at2 b o p ≠ 0 := fun z => hbo (S.zero ho hpn z)
        obtain ⟨orow, horow⟩ := get_lt (l := b) (i := o) (by rw [wf.len]; omega)
        have flen := gr.pcs.len
        have pin : p ∈ pc' := get_mem hp
        replace hw := hw.up s9
        replace kp := kp.up s9 (fun p e => by cases e; exact tha)
        have nx : ∀ {pc'' : List Nat} {f'' : List Int}, Gr n b w B f0 f'' s pc'' at' → (∀ q, q ∈ pc' → q ∈ pc'') → (o ∈ pc'' ∨ fa f0 o ≠ 0) → ∀ o' : Nat, (o' : Int) ∈ (nearI b p n).take (i + 1) → o' ∈ pc'' ∨ fa f0 o' ≠ 0 := fun gr2 sub ho2 o' ho' => by
          rw [take_snoc hx] at ho'
          rcases List.mem_append.mp ho' with z | z
          · rcases hnb o' z with y | y
            · exact .inl (sub _ y)
            · exact .inr y
          · have e : o' = o := by have := List.mem_singleton.mp z; omega
            rw [e]; exact ho2
        show WS _ _ _ _ _
        refine sif (tand (teq (xil hw.lf (xw 1) (xv 7 (d := (o : Int)) rfl) (atI_nat (fa_get (by rw [flen]; exact ho)))) xi) fun _ => tne (xit (xit (xv 0 hw.rb) (xv 7 (d := (o : Int)) rfl) (atI_nat horow)) (xv 6 (d := (p : Int)) rfl) (atI_nat (wf.get horow hpn))) xi) (fun ht H10 s10 => ?_) (fun ht H10 s10 => ?_)
        · have h0 : fa f' o = 0 := by
            cases e : decide (fa f' o = 0) with
            | true => exact of_decide_eq_true e
            | false => rw [e] at ht; cases ht
          have hn : o ∉ pc' := fun z => by have := gr.pcs.pos o z; omega
          have h00 : fa f0 o = 0 := by rw [← gr.pcs.old o hn]; exact h0
          replace hw := hw.up s10
          replace kp := kp.up s10 (fun p e => by cases e; exact tha)
          have pg := gr.pcs.grow S bb pin ho hn h00 hbo
          refine spar 8 9 rfl nd (xabs T.abs (xit (xit (xv 0 hw.rb) (xv 6 (d := (p : Int)) rfl) (atI_nat hprow)) (xv 7 (d := (o : Int)) rfl) (atI_nat (wf.get hprow ho)))) (xabs T.abs (xit (xit (xv 0 hw.rb) (xv 7 (d := (o : Int)) rfl) (atI_nat horow)) (xv 6 (d := (p : Int)) rfl) (atI_nat (wf.get horow hpn)))) fun v8 v9 H11 H12 s11 r8 s12' r9' => ?_
          have e8 : v8 = V.int ((at2 b p o).natAbs : Int) := r8
          have e9 : v9 = V.int ((at2 b o p).natAbs : Int) := r9'
          subst e8; subst e9
          have s1112 := s11.trans s12'
          replace hw := hw.up s1112
          replace kp := kp.up s1112 (fun p e => by cases e; exact tha)
          have b1 : (((at2 b p o).natAbs : Int)).natAbs < 2 ^ B := by rw [Int.natAbs_natCast]; exact bb.at p o
          have b2 : (((at2 b o p).natAbs : Int)).natAbs < 2 ^ B := by rw [Int.natAbs_natCast]; exact bb.at o p
          have ph : 0 < (at2 b p o).natAbs := by omega
          have pt : 0 < (at2 b o p).natAbs := by omega
          unfold grow at pg
          dsimp only at pg
          generalize hh : (at2 b p o).natAbs = here at *
          generalize htt : (at2 b o p).natAbs = there at *
          generalize hg : Nat.gcd (fa f' p * (here : Int)).natAbs ((there : Int)).natAbs = g at *
          have gt : g ≤ there := by rw [← hg]; exact Nat.le_of_dvd pt (Nat.gcd_dvd_right _ _)
          have gp : 0 < g := by rw [← hg]; exact Nat.gcd_pos_of_pos_right _ (by rw [Int.natAbs_natCast]; exact pt)
          have bt : there < 2 ^ B := by rw [Int.natAbs_natCast] at b2; exact b2
          have bsc : ((there : Int) / (g : Int)).natAbs < 2 ^ B := by
            rw [← Int.natCast_ediv, Int.natAbs_natCast]
            exact Nat.lt_of_le_of_lt (Nat.div_le_self _ _) bt
          refine sset 10 nd (xdiv (xv 9 (d := (there : Int)) rfl) (xgcd T.gcd (xmul (xil hw.lf (xw 1) (xv 6 (d := (p : Int)) rfl) (atI_nat (fa_get (by rw [flen]; exact hpn)))) (xv 8 (d := (here : Int)) rfl) (mulx_ok (hpl gr.pcs pin) b1 (by omega))) (xv 9 (d := (there : Int)) rfl)) (divw_ok (a := B) ?_ ?_ (by omega))) fun v10 H13 s13 r10 => ?_
          · rw [hg]; omega
          · rw [hg, Int.natAbs_natCast]; omega
          · rw [hg] at r10
            generalize hsc : (there : Int) / (g : Int) = sc at *
            have e10 : v10 = V.int sc := r10
            subst e10
            replace hw := hw.up s13
            replace kp := kp.up s13 (fun p e => by cases e; exact tha)
            refine sfor rfl PassesOwn.never (wlst hw.lp (xw 4)) (pg_name (i := 11) nd rfl (.inl rfl)) fun Hc src2 s14 sc2 there2 => ?_
            subst sc2
            have thb := there2 pp rfl
            replace hw := hw.up s14
            replace kp := kp.up s14 (fun p e => by cases e; exact tha)
            refine ⟨fun i σ H' => ∃ x11, σ = [some v0, some (.ref pf), some (.int (s : Int)), some (.int (n : Int)), some (.ref pp), some (.int (at' : Int)), some (.int (p : Int)), some (.int (o : Int)), some (.int (here : Int)), some (.int (there : Int)), some (.int sc), x11, none] ∧ Hw H H' v0 b pf (mapAt (fun x => x * sc) f' (pc'.take i)) pp pc' ∧ Kp Hb (some a) H' ∧ Kp Hc (some pp) H',
              ⟨_, rfl, hw, kp, ⟨.refl _, fun _ _ => rfl⟩⟩, fun i σ H14 h => ?_, fun i x σ H14 hx2 h v H15 s15 r15 => ?_, fun σ H14 h => ?_⟩
            · obtain ⟨_, _, _, _, k⟩ := h
              exact k
            · obtain ⟨x11, rfl, hw, kp, kp2⟩ := h
              obtain ⟨r, hr2, rfl⟩ := ofN_get hx2
              have e11 : v = V.int (r : Int) := r15
              subst e11
              have rin : r ∈ pc' := get_mem hr2
              have rn := gr.pcs.lt r rin
              replace hw := hw.up s15
              replace kp := kp.up s15 (fun p e => by cases e; exact tha)
              replace kp2 := kp2.up s15 (fun p e => by cases e; exact thb)
              have ml : (mapAt (fun x => x * sc) f' (pc'.take i)).length = n := by rw [mapAt_len, flen]
              have ndt : (pc'.take i).Nodup := gr.pcs.nd.sublist (List.take_sublist ..)
              have nin : r ∉ pc'.take i := fun z => by
                obtain ⟨j, hj⟩ := List.getElem?_of_mem z
                have jl := lt_get hj
                rw [List.length_take] at jl
                rw [List.getElem?_take_of_lt (by omega)] at hj
                have := (List.getElem?_inj (lt_get hj) gr.pcs.nd).mp (hj.trans hr2.symm)
                omega
              have er : fa (mapAt (fun x => x * sc) f' (pc'.take i)) r = fa f' r := by
                rw [mapAt_fa _ _ _ ndt (fun q hq => by rw [flen]; exact gr.pcs.lt q (List.mem_of_mem_take hq)), if_neg nin]
              show WS _ _ _ _ _
              refine sput hw.lf (xmul (xil hw.lf (xw 1) (xv 11 (d := (r : Int)) rfl) (atI_nat (fa_get (by rw [ml]; exact rn)))) (xv 10 (d := sc) rfl) (mulx_ok (a := C1) (b := B) (by rw [er]; exact hpl gr.pcs rin) bsc (by omega))) (xw 1) (xv 11 (d := (r : Int)) rfl) (by rw [ml]; exact ixN_nat rn) fun H16 t16 l16 => ?_
              obtain ⟨vs, hv, _⟩ := hw.lf
              refine wnil ⟨_, rfl, ?_, kp.put t16 hv (fun p e => by cases e; exact ⟨naf, tha⟩), kp2.put t16 hv (fun p e => by cases e; exact ⟨hw.ne, thb⟩)⟩
              have := hw.putf t16 l16
              rwa [take_one hr2, mapAt_snoc]
            · obtain ⟨x11, rfl, hw, kp, kp2⟩ := h
              rw [ofN_len, List.take_length] at hw
              have ml : (mapAt (fun x => x * sc) f' pc').length = n := by rw [mapAt_len, flen]
              have ep : fa (mapAt (fun x => x * sc) f' pc') p = fa f' p * sc := by
                rw [mapAt_fa _ _ _ gr.pcs.nd (fun q hq => by rw [flen]; exact gr.pcs.lt q hq), if_pos pin]
              refine sput hw.lf (xdiv (xmul (xil hw.lf (xw 1) (xv 6 (d := (p : Int)) rfl) (atI_nat (fa_get (by rw [ml]; exact hpn)))) (xv 8 (d := (here : Int)) rfl) (mulx_ok (a := C1 + B) (b := B) ?_ b1 (by omega))) (xv 9 (d := (there : Int)) rfl) (divw_ok (a := B) (by omega) b2 (by omega))) (xw 1) (xv 7 (d := (o : Int)) rfl) (by rw [ml]; exact ixN_nat ho) fun H16 t16 l16 => ?_
              · rw [ep, Int.natAbs_mul, Nat.pow_add]
                exact Nat.mul_lt_mul'' (hpl gr.pcs pin) bsc
              · obtain ⟨vs, hv, _⟩ := hw.lf
                replace kp := kp.put t16 hv (fun p e => by cases e; exact ⟨naf, tha⟩)
                replace hw := hw.putf t16 l16
                refine sapp hw.lp (xw 4) (xv 7 (d := (o : Int)) rfl) ?_ fun H17 t17 l17 => ?_
                · rw [ofN_len]
                  exact Nat.lt_of_le_of_lt gr.pcs.len_le (lt_small (by omega))
                · rw [← ofN_snoc] at l17
                  obtain ⟨us, hu, _⟩ := hw.lp
                  replace kp := kp.put t17 hu (fun p e => by cases e; exact ⟨nap, tha⟩)
                  have gr2 : Gr n b w B f0 _ s (pc' ++ [o]) at' := ⟨pg, by rw [List.getElem?_append_left (lt_get gr.at0)]; exact gr.at0, fun q j hj hq o' ho' hb' => by
                    have hjl : j < pc'.length := Nat.lt_trans hj (lt_get hp)
                    rw [List.getElem?_append_left hjl] at hq
                    rcases gr.dn q j hj hq o' ho' hb' with z | z
                    · exact .inl (List.mem_append.mpr (.inl z))
                    · exact .inr z⟩
                  exact wnil (wnil ⟨_, _, _, _, _, _, _, rfl, hw.putp t17 l17, kp, gr2, by rw [List.getElem?_append_left (lt_get hp)]; exact hp, nx gr2 (fun q hq => List.mem_append.mpr (.inl hq)) (.inl (List.mem_append.mpr (.inr (List.mem_singleton.mpr rfl))))⟩)
        · have h0 : fa f' o ≠ 0 := fun z => by
            rw [decide_eq_true z, decide_eq_false hbo2] at ht
            cases ht
          refine wnil (wnil ⟨_, _, _, _, _, _, _, rfl, hw.up s10, kp.up s10 (fun p e => by cases e; exact tha), gr, hp, nx gr (fun _ h => h) ?_⟩)
          by_cases m : o ∈ pc'
          · exact .inl m
          · rw [← gr.pcs.old o m]
            exact .inr h0
      · obtain ⟨x7, x8, x9, x10, x11, pc', f', rfl, hw, kp, gr, hp, hnb⟩ := h
        rw [List.take_length] at hnb
        refine saug 5 nd rfl (x := 1) xi fun H9 s9 => wnil ⟨(at' + 1, pc', f'), ⟨_, _, _, _, _, _, rfl, hw.up s9, lt_get hp, gr.pcs, gr.at0, fun q j hj hq o ho hb => ?_⟩, ?_⟩
        · by_cases e : j = at'
          · subst e
            rw [hp] at hq
            cases hq
            exact hnb o (hL2 o ho hb)
          · exact gr.dn q j (by omega) hq o ho hb
        · have := gr.pcs.len_le
          have := lt_get hp
          show n - (at' + 1) < n - at'
          omega
    · obtain ⟨at', pc, f⟩ := g
      obtain ⟨x6, x7, x8, x9, x10, x11, rfl, hw, hl, gr⟩ := h
      dsimp only at hw hl gr ht ⊢
      have hat : at' = pc.length := by
        have := of_decide_eq_false ht
        rw [ofN_len] at this
        omega
      have flen := gr.pcs.len
      have hne2 : pc ≠ [] := fun e => by have := gr.at0; rw [e] at this; cases this
      replace hw := hw.up s6
      refine sset 12 nd xi fun v12 H7 s7 r12 => ?_
      have e12 : v12 = V.int 0 := r12
      subst e12
      replace hw := hw.up s7
      refine sfor rfl PassesOwn.never (wlst hw.lp (xw 4)) (pg_name (i := 11) nd rfl (.inl rfl)) fun Hc src2 s8 sc2 there2 => ?_
      subst sc2
      have thb := there2 pp rfl
      replace hw := hw.up s8
      refine ⟨fun i σ H' => ∃ x11, σ = [some v0, some (.ref pf), some (.int (s : Int)), some (.int (n : Int)), some (.ref pp), some (.int (at' : Int)), x6, x7, x8, x9, x10, x11, some (.int (gcdOf f (pc.take i) : Int))] ∧ Hw H H' v0 b pf f pp pc ∧ Kp Hc (some pp) H',
        ⟨_, rfl, hw, ⟨.refl _, fun _ _ => rfl⟩⟩, fun i σ H14 h => ?_, fun i x σ H14 hx2 h v H15 s15 r15 => ?_, fun σ H14 h => ?_⟩
      · obtain ⟨_, _, _, k⟩ := h
        exact k
      · obtain ⟨x11, rfl, hw, kp2⟩ := h
        obtain ⟨r, hr2, rfl⟩ := ofN_get hx2
        have e11 : v = V.int (r : Int) := r15
        subst e11
        have rn := gr.pcs.lt r (get_mem hr2)
        replace hw := hw.up s15
        replace kp2 := kp2.up s15 (fun p e => by cases e; exact thb)
        show WS _ _ _ _ _
        refine sset 12 nd (xgcd T.gcd (xv 12 (d := (gcdOf f (pc.take i) : Int)) rfl) (xil hw.lf (xw 1) (xv 11 (d := (r : Int)) rfl) (atI_nat (fa_get (by rw [flen]; exact rn))))) fun v12 H16 s16 r12 => ?_
        have e12 : v12 = V.int (gcdOf f (pc.take (i + 1)) : Int) := by
          rw [take_one hr2, gcdOf_snoc]
          rw [Int.natAbs_natCast] at r12
          exact r12
        subst e12
        exact wnil ⟨_, rfl, hw.up s16, kp2.up s16 (fun p e => by cases e; exact thb)⟩
      · obtain ⟨x11, rfl, hw, kp2⟩ := h
        rw [ofN_len, List.take_length]
        have g0 := gr.pcs.gcd_pos hne2
        have gs : (gcdOf f pc) < 2 ^ C1 := by
          have h1 := (gcd_fold f pc 0).2 s (get_mem gr.at0)
          have h2 := gr.pcs.pos s (get_mem gr.at0)
          exact Nat.lt_of_le_of_lt (Nat.le_of_dvd (by omega) h1) (hpl gr.pcs (get_mem gr.at0))
        have dn := gr.pcs.done S J hne2 (fun p hp o ho hb => by
          obtain ⟨j, hj⟩ := List.getElem?_of_mem hp
          exact gr.dn p j (by rw [hat]; exact lt_get hj) hj o ho hb) hC1
        refine sfor rfl PassesOwn.never (wlst hw.lp (xw 4)) (pg_name (i := 11) nd rfl (.inl rfl)) fun Hd src3 s9 sc3 there3 => ?_
        subst sc3
        have thc := there3 pp rfl
        replace hw := hw.up s9
        refine ⟨fun i σ H' => ∃ x11, σ = [some v0, some (.ref pf), some (.int (s : Int)), some (.int (n : Int)), some (.ref pp), some (.int (at' : Int)), x6, x7, x8, x9, x10, x11, some (.int (gcdOf f pc : Int))] ∧ Hw H H' v0 b pf (mapAt (fun x => x / ((gcdOf f pc : Nat) : Int)) f (pc.take i)) pp pc ∧ Kp Hd (some pp) H',
          ⟨_, rfl, hw, ⟨.refl _, fun _ _ => rfl⟩⟩, fun i σ H14 h => ?_, fun i x σ H14 hx2 h v H15 s15 r15 => ?_, fun σ H14 h => ?_⟩
        · obtain ⟨_, _, _, k⟩ := h
          exact k
        · obtain ⟨x11, rfl, hw, kp2⟩ := h
          obtain ⟨r, hr2, rfl⟩ := ofN_get hx2
          have e11 : v = V.int (r : Int) := r15
          subst e11
          have rn := gr.pcs.lt r (get_mem hr2)
          replace hw := hw.up s15
          replace kp2 := kp2.up s15 (fun p e => by cases e; exact thc)
          have ml : (mapAt (fun x => x / ((gcdOf f pc : Nat) : Int)) f (pc.take i)).length = n := by rw [mapAt_len, flen]
          show WS _ _ _ _ _
          refine sput hw.lf (xdiv (xil hw.lf (xw 1) (xv 11 (d := (r : Int)) rfl) (atI_nat (fa_get (by rw [ml]; exact rn)))) (xv 12 (d := (gcdOf f pc : Int)) rfl) (divw_ok (a := C1) (by omega) (by rw [Int.natAbs_natCast]; exact gs) (by omega))) (xw 1) (xv 11 (d := (r : Int)) rfl) (by rw [ml]; exact ixN_nat rn) fun H16 t16 l16 => ?_
          obtain ⟨vs, hv, _⟩ := hw.lf
          refine wnil ⟨_, rfl, ?_, kp2.put t16 hv (fun p e => by cases e; exact ⟨hw.ne, thc⟩)⟩
          have := hw.putf t16 l16
          rwa [take_one hr2, mapAt_snoc]
        · obtain ⟨x11, rfl, hw, kp2⟩ := h
          rw [ofN_len, List.take_length] at hw
          exact wnil (q _ _ hw.but hw.lf dn.1 (dn.2.1 s (get_mem gr.at0)) dn.2.2)
end
end Nh
set_option Elab.async false
set_option linter.all false
set_option maxRecDepth 100000
set_option maxHeartbeats 4000000
namespace Nh
open PySem PySem.Spec PyProof.Rows L2
/-- a board that is taken -/
structure Okb (n m : Nat) (b : Bd) : Prop where
  wf : Wf n m b
  sk : SkB n b
  bits : Bits 400 b
  n8 : n ≤ 8
  m : m ≤ 100
def preOk (b : Bd) : Prop := ∃ n m, Okb n m b
theorem Okb.fit {n m : Nat} {b : Bd} (h : Okb n m b) {t : Nat} (ht : t ≤ 17) : Fit t b := ⟨400, h.bits, by
  have : 2 ^ t ≤ 2 ^ 17 := Nat.pow_le_pow_right (by decide) ht
  have := Nat.mul_le_mul_left 402 this
  omega⟩
/-- weights_of: some tuple -/
def spWO : Sp := fun vs H Q _ => ∃ (v : V) (b : Bd), vs = [v] ∧ Rep.rep H v b ∧ preOk b ∧ ∀ u H', Same H H' → u ≠ .non → Q u H'
section
variable {P : Program} {w : World} {K : PySem.W.Frag} {mg : Str → Option Value} {base : Heap}
theorem sc_weights_of : FnScope ["told", "many", "found", "place", "other"] ["told"] (defScope (topS 10)) := ⟨rfl, rfl, rfl, by decide +kernel, rfl, by decide +kernel, by decide +kernel⟩
theorem ok_weights_of {fn : Addr} {fd : FuncData} (T : Blt mg) (C1 : Cal P w K mg base 1 "places_in" ["told"] (sp1 preB widI)) (C2 : Cal P w K mg base 2 "weigh_piece" ["told", "found", "start", "many"] spWP) (F : Fun K "weights_of" "weights_of" (topS 10) fn fd) :
    FnOk P w K mg base CX0 3 fn fd ["told"] spWO := by
  refine F.ok sc_weights_of (fun vs H Q E h => ?_) (fun cdv A outer s H vs Q E hr h => ⟨_, lzS _, ?_⟩)
  · obtain ⟨v, x, rfl, _⟩ := h
    rfl
  · obtain ⟨v0, b, rfl, r0, ⟨n, m, wf, ⟨wt, S⟩, bb, hn8, hm⟩, q⟩ := h
    have nd := sc_weights_of.nd
    have hnm := wf.le
    have h1n := wf.one
    refine sset 1 nd ((xc1 C1 (hr.mono (by omega)) (xv 0 r0) ⟨n, m, wf, by omega⟩).as (show widI b = (n : Int) by unfold widI; rw [wf.wid])) fun v1 H1 s1 r1 => ?_
    have e1 : v1 = V.int (n : Int) := r1
    subst e1
    refine sif ((teq (xv 1 (d := (n : Int)) rfl) xi).as (decide_eq_false (by omega))) (fun e => nomatch e) fun _ H2 s2 => wnil ?_
    refine sset 2 nd ((lrep (EL.o (lone xi)) (xv 1 (d := (n : Int)) rfl) (by omega) (by show 1 * n ≤ _; exact len40 (by omega))).as (flat_one n)) fun v2 H3 s3 r2 => ?_
    obtain ⟨pf, rfl, np, lf⟩ := r2
    have s12 := s1.trans s2
    have s13 := s12.trans s3
    have n0 : H pf = none := s12.free np
    refine sfor rfl PassesOwn.never (wrng T.range (xv 1 (d := (n : Int)) rfl) (by omega)) (pg_name (i := 3) nd rfl (.inl rfl)) fun Hb src s4 sc _ => ?_
    subst sc
    have s14 := s13.trans s4
    refine ⟨fun i σ H' => ∃ x3 x4 f, σ = [some v0, some (.int (n : Int)), some (.ref pf), x3, x4] ∧ But pf H H' ∧ Rep.rep H' v0 b ∧ TK Hb H' ∧ LsR H' pf f ∧ Jf n b wt 7000 f ∧ ∀ q, q < i → fa f q ≠ 0,
      ⟨none, none, _, rfl, .of s14, Rep.up s14 r0, .refl _, lf.up s4, Jf.zero 7000, fun q hq => absurd hq (Nat.not_lt_zero _)⟩, fun i σ H' h => ?_, fun i x σ H' hx h v H5 s5 r5 => ?_, fun σ H' h => ?_⟩
    · obtain ⟨_, _, _, _, _, _, k, _⟩ := h
      exact ⟨k, fun _ e => nomatch e⟩
    · obtain ⟨x3, x4, f, rfl, bt, rb, tk, l, J, hz⟩ := h
      obtain ⟨hi, rfl⟩ := upto_get hx
      have e3 : v = V.int (i : Int) := r5
      subst e3
      replace rb := Rep.up s5 rb
      replace l := l.up s5
      replace bt := bt.trans (.of s5)
      replace tk := tk.trans (tk_of s5)
      show WS _ _ _ _ _
      refine sif (teq (xil l (xw 2) (xv 3 (d := (i : Int)) rfl) (atI_nat (fa_get (by rw [J.len]; exact hi)))) xi) (fun ht H6 s6 => ?_) (fun ht H6 s6 => ?_)
      · have hz0 : fa f i = 0 := of_decide_eq_true ht
        replace rb := Rep.up s6 rb
        replace l := l.up s6
        replace bt := bt.trans (.of s6)
        replace tk := tk.trans (tk_of s6)
        refine sexprW (wcall4 C2 hr (wv 0 v0 (wv 2 (.ref pf) (wv 3 (.int (i : Int)) (wv 1 (.int (n : Int)) ⟨v0, .int (i : Int), .int (n : Int), pf, b, f, n, m, i, 400, 7000, wt, rfl, rb, l, rfl, rfl, ⟨wf, S, bb, J, hi, hz0, by decide, by omega, by decide, by omega⟩, fun H7 f' t7 l7 J7 h7 o7 => ?_⟩)))))
        obtain ⟨vs, hv, _⟩ := l
        refine wnil (wnil ⟨_, _, f', rfl, bt.trans t7, Rep.keep (t7.tk hv) rb, tk.trans (t7.tk hv), l7, J7, fun q hq => ?_⟩)
        by_cases e : q = i
        · rw [e]; exact h7
        · exact o7 q (hz q (by omega))
      · refine wnil (wnil ⟨_, _, f, rfl, bt.trans (.of s6), Rep.up s6 rb, tk.trans (tk_of s6), l.up s6, J, fun q hq => ?_⟩)
        by_cases e : q = i
        · rw [e]; exact of_decide_eq_false ht
        · exact hz q (by omega)
    · obtain ⟨x3, x4, f, rfl, bt, rb, tk, l, J, hz⟩ := h
      rw [upto_len] at hz
      have s0 : Same H H' := bt.same (.refl H) n0
      have hsz : ∀ p, (fa f p).natAbs < 2 ^ 7000 := J.size
      have g0 : ∀ p, p < n → ∃ row, b[p]? = some row := fun p hp => get_lt (l := b) (i := p) (by rw [wf.len]; omega)
      refine sfor rfl PassesOwn.never (wrng T.range (xv 1 (d := (n : Int)) rfl) (by omega)) (pg_name (i := 3) nd rfl (.inl rfl)) fun Hc src s5 sc _ => ?_
      subst sc
      refine ⟨fun i σ H5 => ∃ x3 x4, σ = [some v0, some (.int (n : Int)), some (.ref pf), x3, x4] ∧ Same Hc H5, ⟨_, _, rfl, .refl _⟩, fun i σ H5 h => ?_, fun i x σ H5 hx h v H6 s6 r6 => ?_, fun σ H5 h => ?_⟩
      · obtain ⟨_, _, _, k⟩ := h
        exact kp0 k
      · obtain ⟨x3, x4, rfl, k⟩ := h
        obtain ⟨hi, rfl⟩ := upto_get hx
        have e3 : v = V.int (i : Int) := r6
        subst e3
        have s56 := (s5.trans k).trans s6
        show WS _ _ _ _ _
        refine sfor rfl PassesOwn.never (wrng (n := i + 1) T.range (xadd (xv 3 (d := (i : Int)) rfl) xi) (by omega)) (pg_name (i := 4) nd rfl (.inl rfl)) fun Hd src s7 sc _ => ?_
        subst sc
        refine ⟨fun j σ H7 => ∃ x4, σ = [some v0, some (.int (n : Int)), some (.ref pf), some (.int (i : Int)), x4] ∧ Same Hd H7, ⟨_, rfl, .refl _⟩, fun j σ H7 h => ?_, fun j x σ H7 hx h v H8 s8 r8 => ?_, fun σ H7 h => ?_⟩
        · obtain ⟨_, _, k⟩ := h
          exact kp0 k
        · obtain ⟨x4, rfl, k2⟩ := h
          obtain ⟨hj, rfl⟩ := upto_get hx
          have e4 : v = V.int (j : Int) := r8
          subst e4
          have s58 := ((s56.trans s7).trans k2).trans s8
          have hjn : j < n := by omega
          obtain ⟨ri, hri⟩ := g0 i hi
          obtain ⟨rj, hrj⟩ := g0 j hjn
          have rb' := Rep.up s58 rb
          have l' := l.up s58
          have b1 := bb.at i j
          have b2 := bb.at j i
          have fi := fa_get (f := f) (p := i) (by rw [J.len]; exact hi)
          have fj := fa_get (f := f) (p := j) (by rw [J.len]; exact hjn)
          show WS _ _ _ _ _
          refine sif (t := false) (ET.as (tne (xmul (xil l' (xw 2) (xv 3 (d := (i : Int)) rfl) (atI_nat fi)) (xit (xit (xv 0 rb') (xv 3 (d := (i : Int)) rfl) (atI_nat hri)) (xv 4 (d := (j : Int)) rfl) (atI_nat (wf.get hri hjn))) (mulx_ok (hsz i) b1 (by omega)))
            (xmul (xneg (xil l' (xw 2) (xv 4 (d := (j : Int)) rfl) (atI_nat fj))) (xit (xit (xv 0 rb') (xv 4 (d := (j : Int)) rfl) (atI_nat hrj)) (xv 3 (d := (i : Int)) rfl) (atI_nat (wf.get hrj hi))) (mulx_ok (a := 7000) (by rw [Int.natAbs_neg]; exact hsz j) b2 (by omega)))) ?_) (fun e => nomatch e) fun _ H9 s9 => wnil (wnil ⟨_, rfl, (k2.trans s8).trans s9⟩)
          rw [J.ends S hi hjn (hz i hi), decide_eq_true rfl]
          rfl
        · obtain ⟨x4, rfl, k2⟩ := h
          exact wnil ⟨_, _, rfl, ((k.trans s6).trans s7).trans k2⟩
      · obtain ⟨x3, x4, rfl, k⟩ := h
        refine sret (xtupL (l.up (s5.trans k)) T.tuple (xw 2)) fun v H6 s6 r => q v H6 (((s0.trans s5).trans k).trans s6) (NN.nn r)
/-! ### checked_board, checked_row -/
theorem sc_checked_board : FnScope ["board"] ["board"] (defScope (topS 11)) := ⟨rfl, rfl, rfl, by decide +kernel, rfl, by decide +kernel, by decide +kernel⟩
theorem ok_checked_board {fn : Addr} {fd : FuncData} (T : Blt mg) (C : Cal P w K mg base 3 "weights_of" ["told"] spWO) (F : Fun K "checked_board" "checked_board" (topS 11) fn fd) :
    FnOk P w K mg base CX0 4 fn fd ["board"] (sp1 preOk widI) := by
  refine F.ok sc_checked_board (fun vs H Q E h => ?_) (fun cdv A outer s H vs Q E hr h => ⟨_, lzS _, ?_⟩)
  · obtain ⟨v, x, rfl, _⟩ := h
    rfl
  · obtain ⟨v0, b, rfl, r0, ⟨n, m, ob⟩, q⟩ := h
    refine sif (t := false) (tisNn (ecall1 (R := fun _ _ v => v ≠ .non) C hr (xv 0 r0) fun v H1 H2 _ s2 r Q q => ⟨v, b, rfl, r, ⟨n, m, ob⟩, fun u H3 s3 h => q u H3 (s2.trans s3) h⟩) fun _ _ _ h => h) (fun e => nomatch e) fun _ H1 s1 => wnil ?_
    refine sret ((xwid ob.wf T.len (xv 0 (Rep.up s1 r0))).as (show (n : Int) = widI b by unfold widI; rw [ob.wf.wid])) fun v H2 s2 r => q v H2 (s1.trans s2) r
theorem sc_checked_row : FnScope ["board", "row", "place"] ["board", "row"] (defScope (topS 12)) := ⟨rfl, rfl, rfl, by decide +kernel, rfl, by decide +kernel, by decide +kernel⟩
def preRow (b : Bd) (r : List Int) : Prop := ∃ n m, Wf n m b ∧ Places n r ∧ r.length ≤ 1000
def rowI (_ : Bd) (r : List Int) : List Int := r
theorem ok_checked_row {fn : Addr} {fd : FuncData} (T : Blt mg) (F : Fun K "checked_row" "checked_row" (topS 12) fn fd) :
    FnOk P w K mg base CX0 1 fn fd ["board", "row"] (sp2 preRow rowI) := by
  refine F.ok sc_checked_row (fun vs H Q E h => ?_) (fun cdv A outer s H vs Q E hr h => ⟨_, lzS _, ?_⟩)
  · obtain ⟨v, u, x, y, rfl, _⟩ := h
    rfl
  · obtain ⟨v0, v1, b, r, rfl, r0, r1, ⟨n, m, wf, pl, hl⟩, q⟩ := h
    have nd := sc_checked_row.nd
    refine sif (t := false) (ET.as (tv (xany rfl T.any (comp1 (i := 2) (f := fun p : Int => !(decide ((0 : Int) ≤ p) && decide (p < n))) rfl nd (by kernel_rfl) (wtup (xv 1 r1)) (len40 hl) fun k x hx v H6 s6 r6 _ _ _ _ _ => ?_).ev)) ?_) (fun e => nomatch e) fun _ H1 s1 => wnil ?_
    · exact xnot (xchain xi (xv 2 r6) (xwid wf T.len (xv 0 (Rep.up s6 r0))))
    · rw [List.any_map]
      refine List.any_eq_false.mpr fun p hp => ?_
      obtain ⟨j, rfl, hj⟩ := pl p hp
      show ¬ (!(decide ((0 : Int) ≤ j) && decide ((j : Int) < n))) = true
      rw [decide_eq_true (by omega), decide_eq_true (by omega)]
      decide
    · exact sret (xv 1 (Rep.up s1 r1)) fun v H2 s2 r => q v H2 (s1.trans s2) r
end
end Nh
set_option Elab.async false
set_option linter.all false
set_option maxRecDepth 100000
set_option maxHeartbeats 4000000
namespace Nh
open PySem PySem.Spec PyProof.Rows L2
/-! ### unit_behind, walked, columns -/
def preWalk (b : Bd) (r : List Int) : Prop := ∃ n m, Okb n m b ∧ Places n r ∧ r.length ≤ 15
def stepR (s : Int × Option Int × Bd) (p : Int) : Int × Option Int × Bd := (s.1 + 1, if (s.2.1.isNone && !grnI s.2.2 p) = true then some s.1 else s.2.1, swI s.2.2 p)
theorem stepR_eq : ∀ (r : List Int) (s : Int × Option Int × Bd), (r.foldl stepR s).1 = s.1 + r.length ∧ (r.foldl stepR s).2.2 = swBy s.2.2 r ∧ (r.foldl stepR s).2.1.isNone = (s.2.1.isNone && greenRow s.2.2 r)
  | [], s => ⟨by show s.1 = s.1 + 0; omega, rfl, by show _ = (_ && true); rw [Bool.and_true]; rfl⟩
  | p :: r, s => by
    obtain ⟨h1, h2, h3⟩ := stepR_eq r (stepR s p)
    refine ⟨?_, h2, ?_⟩
    · show (r.foldl stepR (stepR s p)).1 = _
      rw [h1, List.length_cons]
      show s.1 + 1 + _ = _
      omega
    · show (r.foldl stepR (stepR s p)).2.1.isNone = _
      rw [h3]
      show ((if (s.2.1.isNone && !grnI s.2.2 p) = true then some s.1 else s.2.1).isNone && greenRow (swI s.2.2 p) r) = (s.2.1.isNone && (grnI s.2.2 p && greenRow (swI s.2.2 p) r))
      cases hs : s.2.1 with
      | none =>
        cases hg : grnI s.2.2 p <;> simp
      | some k => simp
def walkI (b : Bd) (r : List Int) : Option Int × Bd := (r.foldl stepR (0, none, unitB b)).2
theorem walkI_snd (b : Bd) (r : List Int) : (walkI b r).2 = behind b r := (stepR_eq r (0, none, unitB b)).2.1
theorem walkI_none (b : Bd) (r : List Int) : (walkI b r).1.isNone = greenRow (unitB b) r := by
  have h := (stepR_eq r (0, none, unitB b)).2.2
  exact h.trans (Bool.true_and _)
section
variable {n m : Nat} {b : Bd} {r : List Int}
theorem Okb.unit (h : Okb n m b) {t : Nat} (ht : t ≤ 16) : Fit t (unitB b) := Fit.unit (h.fit (by omega))
theorem Places.take (h : Places n r) (i : Nat) : Places n (r.take i) := fun p hp => h p (List.mem_of_mem_take hp)
end
section
variable {P : Program} {w : World} {K : PySem.W.Frag} {mg : Str → Option Value} {base : Heap}
abbrev CB (P : Program) (w : World) (K : PySem.W.Frag) (mg : Str → Option Value) (base : Heap) : Prop := Cal P w K mg base 4 "checked_board" ["board"] (sp1 preOk widI)
abbrev CR1 (P : Program) (w : World) (K : PySem.W.Frag) (mg : Str → Option Value) (base : Heap) : Prop := Cal P w K mg base 1 "checked_row" ["board", "row"] (sp2 preRow rowI)
abbrev CSw (P : Program) (w : World) (K : PySem.W.Frag) (mg : Str → Option Value) (base : Heap) : Prop := Cal P w K mg base 1 "swap" ["board", "place"] (sp2 preSwap swI)
abbrev CSb (P : Program) (w : World) (K : PySem.W.Frag) (mg : Str → Option Value) (base : Heap) : Prop := Cal P w K mg base 2 "swap_by" ["board", "row"] (sp2 preBy swBy)
abbrev CUn (P : Program) (w : World) (K : PySem.W.Frag) (mg : Str → Option Value) (base : Heap) : Prop := Cal P w K mg base 2 "unit_of" ["board"] (sp1 preB unitB)
abbrev CGr (P : Program) (w : World) (K : PySem.W.Frag) (mg : Str → Option Value) (base : Heap) : Prop := Cal P w K mg base 1 "is_at_green" ["wide", "place"] (sp2 preAt grnI)
abbrev CGs (P : Program) (w : World) (K : PySem.W.Frag) (mg : Str → Option Value) (base : Heap) : Prop := Cal P w K mg base 2 "greens_of" ["wide"] (sp1L preB greens)
abbrev CCo (P : Program) (w : World) (K : PySem.W.Frag) (mg : Str → Option Value) (base : Heap) : Prop := Cal P w K mg base 1 "columns_of" ["wide"] (sp1L preB colsC)
theorem Okb.preB {n m : Nat} {b : Bd} (h : Okb n m b) : preB b := ⟨n, m, h.wf, by have := h.m; omega⟩
theorem Okb.behind {n m : Nat} {b : Bd} (h : Okb n m b) (r : List Int) : Wf n (n + n) (behind b r) := (h.wf.unit).swBy r
theorem Okb.preB2 {n m : Nat} {b : Bd} (h : Okb n m b) (r : List Int) : Nh.preB (Nh.behind b r) := ⟨n, n + n, h.behind r, by have := h.n8; omega⟩
theorem sc_unit_behind : FnScope ["board", "row"] ["board", "row"] (defScope (topS 22)) := ⟨rfl, rfl, rfl, by decide +kernel, rfl, by decide +kernel, by decide +kernel⟩
theorem ok_unit_behind {fn : Addr} {fd : FuncData} (T : Blt mg) (C1 : CB P w K mg base) (C2 : CR1 P w K mg base) (C3 : CSb P w K mg base) (C4 : CUn P w K mg base) (F : Fun K "unit_behind" "unit_behind" (topS 22) fn fd) :
    FnOk P w K mg base CX0 5 fn fd ["board", "row"] (sp2 preWalk behind) := by
  refine F.ok sc_unit_behind (fun vs H Q E h => ?_) (fun cdv A outer s H vs Q E hr h => ⟨_, lzS _, ?_⟩)
  · obtain ⟨v, u, x, y, rfl, _⟩ := h
    rfl
  · obtain ⟨v0, v1, b, r, rfl, r0, r1, ⟨n, m, ob, pl, hl⟩, q⟩ := h
    refine sexprW ((xc1 C1 hr (xv 0 r0) ⟨n, m, ob⟩).run fun _ H1 s1 _ => ?_)
    have r01 := Rep.up s1 r0
    have r11 := Rep.up s1 r1
    exact sret (xc2 C3 (hr.mono (by omega)) (xc1 C4 (hr.mono (by omega)) (xv 0 r01) ob.preB) (xc2 C2 (hr.mono (by omega)) (xv 0 r01) (xv 1 r11) ⟨n, m, ob.wf, pl, by omega⟩)
      ⟨n, n + n, ob.wf.unit, by have := ob.n8; omega, pl, ob.unit (by show r.length ≤ 16; omega)⟩) fun v H2 s2 r => q v H2 (s1.trans s2) r
theorem sc_columns : FnScope ["board", "row"] ["board", "row"] (defScope (topS 24)) := ⟨rfl, rfl, rfl, by decide +kernel, rfl, by decide +kernel, by decide +kernel⟩
def columnsI (b : Bd) (r : List Int) : List Col := colsC (behind b r)
theorem ok_columns {fn : Addr} {fd : FuncData} (C1 : Cal P w K mg base 5 "unit_behind" ["board", "row"] (sp2 preWalk behind)) (C2 : CCo P w K mg base) (F : Fun K "columns" "columns" (topS 24) fn fd) :
    FnOk P w K mg base CX0 6 fn fd ["board", "row"] (sp2L preWalk columnsI) := by
  refine F.ok sc_columns (fun vs H Q E h => ?_) (fun cdv A outer s H vs Q E hr h => ⟨_, lzS _, ?_⟩)
  · obtain ⟨v, u, x, y, rfl, _⟩ := h
    rfl
  · obtain ⟨v0, v1, b, r, rfl, r0, r1, ⟨n, m, ob, pl, hl⟩, q⟩ := h
    refine sret (lc1 C2 (hr.mono (by omega)) (xc2 C1 hr (xv 0 r0) (xv 1 r1) ⟨n, m, ob, pl, hl⟩) (ob.preB2 r)) fun v H2 s2 ⟨p, e, np, l⟩ => ?_
    subst e
    exact q p H2 s2 np l
theorem sc_walked : FnScope ["board", "row", "wide", "red", "at", "place"] ["board", "row"] (defScope (topS 23)) := ⟨rfl, rfl, rfl, by decide +kernel, rfl, by decide +kernel, by decide +kernel⟩
theorem ok_walked {fn : Addr} {fd : FuncData} (T : Blt mg) (C1 : CB P w K mg base) (C2 : CR1 P w K mg base) (C3 : CSw P w K mg base) (C4 : CUn P w K mg base) (C5 : CGr P w K mg base) (F : Fun K "walked" "walked" (topS 23) fn fd) :
    FnOk P w K mg base CX0 5 fn fd ["board", "row"] (sp2 preWalk walkI) := by
  refine F.ok sc_walked (fun vs H Q E h => ?_) (fun cdv A outer s H vs Q E hr h => ⟨_, lzS _, ?_⟩)
  · obtain ⟨v, u, x, y, rfl, _⟩ := h
    rfl
  · obtain ⟨v0, v1, b, r, rfl, r0, r1, ⟨n, m, ob, pl, hl⟩, q⟩ := h
    have nd := sc_walked.nd
    refine sexprW ((xc1 C1 hr (xv 0 r0) ⟨n, m, ob⟩).run fun _ H1 s1 _ => ?_)
    replace r0 := Rep.up s1 r0
    replace r1 := Rep.up s1 r1
    refine sexprW ((xc2 C2 (hr.mono (by omega)) (xv 0 r0) (xv 1 r1) ⟨n, m, ob.wf, pl, by omega⟩).run fun _ H2 s2 _ => ?_)
    replace r0 := Rep.up s2 r0
    replace r1 := Rep.up s2 r1
    refine spar 2 3 rfl nd (xc1 C4 (hr.mono (by omega)) (xv 0 r0) ob.preB) (xN (α := Int)) fun v2 v3 H3 H4 s3 r2 s4 r3 => ?_
    have s34 := s3.trans s4
    replace r2 := Rep.up s4 r2
    refine sfor rfl PassesOwn.never (wenumT T.enumerate (xv 1 (Rep.up s34 r1))) (pg_tup rfl (pgs_cons (pg_name (i := 4) nd rfl (.inl rfl)) (pgs_cons (pg_name (i := 5) nd rfl (.inl rfl)) pgs_nil))) fun Hb src s5 sc _ => ?_
    subst sc
    have s15 := ((s1.trans s2).trans s34).trans s5
    refine ⟨fun i σ H' => ∃ x2 x3 x4 x5, σ = [some v0, some v1, some x2, some x3, x4, x5] ∧ Same Hb H' ∧ Rep.rep H' x2 ((r.take i).foldl stepR (0, none, unitB b)).2.2 ∧ Rep.rep H' x3 ((r.take i).foldl stepR (0, none, unitB b)).2.1,
      ⟨_, _, _, _, rfl, .refl _, Rep.up s5 r2, Rep.up s5 r3⟩, fun i σ H' h => ?_, fun i x σ H' hx h v H6 s6 r6 => ?_, fun σ H' h => ?_⟩
    · obtain ⟨_, _, _, _, _, k, _⟩ := h
      exact kp0 k
    · obtain ⟨x2, x3, x4, x5, rfl, k, q2, q3⟩ := h
      obtain ⟨e1, hp⟩ := enumd_get hx
      obtain ⟨k', p⟩ := x
      dsimp only at e1 hp
      subst e1
      obtain ⟨j, rfl, hj⟩ := pl p (get_mem hp)
      have hi := lt_get hp
      obtain ⟨f1, f2, f3⟩ := stepR_eq (r.take i) (0, none, unitB b)
      have hnx : (r.take (i + 1)).foldl stepR (0, none, unitB b) = stepR ((r.take i).foldl stepR (0, none, unitB b)) (j : Int) := by
        rw [take_snoc hp, List.foldl_append]; rfl
      generalize (r.take i).foldl stepR (0, none, unitB b) = st at *
      obtain ⟨st1, st2, st3⟩ := st
      dsimp only at *
      rw [List.length_take, Nat.min_eq_left (by omega), Int.zero_add] at f1
      subst f1
      have wf3 : Wf n (n + n) st3 := by rw [f2]; exact ob.wf.unit.swBy _
      have ft3 : Fit 0 st3 := by rw [f2]; exact Fit.swBy _ (ob.unit (by rw [List.length_take]; omega))
      have m2 : n + n ≤ 1000 := by have := ob.n8; omega
      refine gpair r6 fun v4 v5 r7 r8 => ?_
      have cont : ∀ (x3' : V) (rd : Option Int) (H7 : Hp), Same H6 H7 → Rep.rep H7 x3' rd → rd = (if (st2.isNone && !grnI st3 (j : Int)) = true then some (i : Int) else st2) →
          WS (cxOf CX0 P w K mg base ["board", "row", "wide", "red", "at", "place"] "walked" (defScope (topS 23)) fn cdv A outer s H E).nox [((topS 23 |> defBody).getD 3 (.Pass ⟨0, 0, 0, 0⟩) |> fun st => match st with | .For _ _ body _ _ => body.getD 1 (.Pass ⟨0, 0, 0, 0⟩) | _ => .Pass ⟨0, 0, 0, 0⟩)]
            { nx := fun σ H' => ∃ x2 x3 x4 x5, σ = [some v0, some v1, some x2, some x3, x4, x5] ∧ Same Hb H' ∧ Rep.rep H' x2 ((r.take (i + 1)).foldl stepR (0, none, unitB b)).2.2 ∧ Rep.rep H' x3 ((r.take (i + 1)).foldl stepR (0, none, unitB b)).2.1,
              ct := fun σ H' => ∃ x2 x3 x4 x5, σ = [some v0, some v1, some x2, some x3, x4, x5] ∧ Same Hb H' ∧ Rep.rep H' x2 ((r.take (i + 1)).foldl stepR (0, none, unitB b)).2.2 ∧ Rep.rep H' x3 ((r.take (i + 1)).foldl stepR (0, none, unitB b)).2.1,
              bk := WS (cxOf CX0 P w K mg base ["board", "row", "wide", "red", "at", "place"] "walked" (defScope (topS 23)) fn cdv A outer s H E).nox [(topS 23 |> defBody).getD 4 (.Pass ⟨0, 0, 0, 0⟩)] { nx := fun x H' => Q V.non H', rt := Q }, rt := Q }
            [some v0, some v1, some x2, some x3', some v4, some v5] H7 := fun x3' rd H7 s7 q7 e => ?_
      · refine sif (tand (tisN (xv 3 (Rep.up s6 q3))) fun _ => tnot (tv (xc2 C5 (hr.mono (by omega)) (xv 2 (Rep.up s6 q2)) (xv 5 r8) ⟨n, n + n, j, wf3, m2, rfl, hj⟩))) (fun ht H7 s7 => ?_) (fun ht H7 s7 => ?_)
        · refine sset 3 nd (xv 4 (Rep.up s7 r7)) fun v3' H8 s8 q8 => wnil ?_
          exact cont v3' (some (i : Int)) H8 (s7.trans s8) q8 (by rw [ht]; rfl)
        · exact wnil (cont x3 st2 H7 s7 (Rep.up (s6.trans s7) q3) (by rw [ht]; rfl))
      · have s67 := s6.trans s7
        refine sset 2 nd (xc2 C3 (hr.mono (by omega)) (xv 2 (Rep.up s67 q2)) (xv 5 (Rep.up s7 r8)) (preSwap.of wf3 hj ft3 m2)) fun v2' H8 s8 q8 => wnil ?_
        refine ⟨_, _, _, _, rfl, (k.trans s67).trans s8, ?_, ?_⟩
        · rw [hnx]; exact q8
        · rw [hnx]
          show Rep.rep H8 x3' (if (st2.isNone && !grnI st3 (j : Int)) = true then some (i : Int) else st2)
          rw [← e]
          exact Rep.up s8 q7
    · obtain ⟨x2, x3, x4, x5, rfl, k, q2, q3⟩ := h
      rw [enumd_len, List.take_length] at q2 q3
      exact sret (xpair (xv 3 q3) (xv 2 q2)) fun v H7 s7 r7 => q v H7 ((s15.trans k).trans s7) r7
end
end Nh
set_option Elab.async false
set_option linter.all false
set_option maxRecDepth 100000
set_option maxHeartbeats 4000000
namespace Nh
open PySem PySem.Spec PyProof.Rows L2
/-! ### InvalidRow(row) -/
section
variable {P : Program} {w : World} {K : PySem.W.Frag} {mg : Str → Option Value} {base : Heap}
def spInitK (K : PySem.W.Frag) : Sp := fun vs H Q _ => ∃ (a C : Addr) (v : V), vs = [.ref a, v] ∧ OexC K C ∧ PySem.W.findIn K (.ref C) "value" = some none ∧ H a = some (exo a C none) ∧
  ∀ dx, H dx = none → dx ≠ a → Q .non (upd (upd H dx (exd dx [("value", v)])) a (exo a C (some dx)))
theorem sc_init : FnScope ["self", "value"] ["self", "value"] (defScope (inClass (topS 2) 0)) := ⟨rfl, rfl, rfl, by decide +kernel, rfl, by decide +kernel, by decide +kernel⟩
theorem ok_init {f : Addr} {fd : FuncData} (hv : mg "ValueError" = none) (vV : PySem.W.findCls K (.type "ValueError") (.type "type") "__init__" = some (.val (.builtin "ValueError.__init__"))) (F : Fun K "__init__" "SwapError.__init__" (inClass (topS 2) 0) f fd) :
    FnOk P w K mg base CX0 1 f fd ["self", "value"] (spInitK K) := by
  refine F.ok sc_init (fun vs H Q E h => ?_) (fun cdv A outer s H vs Q E hr h => ⟨_, lzS _, ?_⟩)
  · obtain ⟨a, C, v, rfl, _⟩ := h
    rfl
  · obtain ⟨a, C, v, rfl, T, hno, ha, q⟩ := h
    refine wcons (w1 (ps_expr (pe_veinit (by rfl) hv vV (pa_cons (pv 0) (pa_cons (pv 1) pa_nil))) (by rfl)) ?_)
    refine ⟨.ref a, rfl, v, rfl, a, C, [v], rfl, by show 1 ≤ 1000; decide, T, ha, ?_⟩
    refine wcons (w1 (ps_ost (pv 0) (pv 1)) ⟨v, rfl, .ref a, rfl, a, C, rfl, T, hno, .inl ⟨ha, fun dx n ne => ?_⟩⟩)
    exact wnil (q dx n ne)
/-- what the written part says of InvalidRow -/
structure RowC (P : Program) (w : World) (K : PySem.W.Frag) (mg : Str → Option Value) (base : Heap) (C : Addr) : Prop where
  ox : OexC K C
  noV : PySem.W.findIn K (.ref C) "value" = some none
  gC : mg "InvalidRow" = some (.ref C)
  ini : ∃ fI fd, PySem.W.findIn K (.ref C) "__init__" = some (some (.ref fI)) ∧ PySem.W.typeIn K (.ref fI) = some (.type "function") ∧ FnOk P w K mg base CX0 1 fI fd ["self", "value"] (spInitK K) ∧ Binds K fd ["self", "value"] []
  xf : XfC K C
  exm : PySem.W.exmOne K (.ref C) (.ref C) = some true
/-- last_order -/
def orderOf (W : Bd) : List Int := (colsC W).map fun c => (c.xs.idxOf (-1) : Int)
def spLO (C : Addr) : Sp := fun vs H Q E => ∃ (v0 v1 : V) (b : Bd) (r : List Int), vs = [v0, v1] ∧ Rep.rep H v0 b ∧ Rep.rep H v1 r ∧ preWalk b r ∧
  (fullRow b r = true → (∀ c, c ∈ colsC (behind b r) → -1 ∈ c.xs) ∧ ∀ u H', Same H H' → Rep.rep H' u (orderOf (behind b r)) → Q u H') ∧
  (fullRow b r = false → ∀ d H', Same H H' → H d = none → H' d = some (.xd [("value", v1)]) → E (.ref C) (some d) H')
theorem sc_last_order : FnScope ["board", "row", "red", "wide", "column"] ["board", "row"] (defScope (topS 26)) := ⟨rfl, rfl, rfl, by decide +kernel, rfl, by decide +kernel, by decide +kernel⟩
theorem ok_last_order {f C : Addr} {fd : FuncData} (T : Blt mg) (R : RowC P w K mg base C) (C1 : Cal P w K mg base 5 "walked" ["board", "row"] (sp2 preWalk walkI)) (C2 : CGs P w K mg base) (C3 : CCo P w K mg base)
    (F : Fun K "last_order" "last_order" (topS 26) f fd) : FnOk P w K mg base (L2.CX P w) 6 f fd ["board", "row"] (spLO C) := by
  refine F.okX sc_last_order (fun vs H Q E h => ?_) (fun cdv A outer s H vs Q E hr h => ⟨_, lzS _, ?_⟩)
  · obtain ⟨v0, v1, b, r, rfl, _⟩ := h
    rfl
  · obtain ⟨v0, v1, b, r, rfl, r0, r1, ⟨n, m, ob, pl, hl⟩, q1, q2⟩ := h
    have nd := sc_last_order.nd
    refine sunp 2 3 rfl nd (x1 := (walkI b r).1) (x2 := (walkI b r).2) ((xc2 (f := walkI) C1 hr (xv 0 r0) (xv 1 r1) ⟨n, m, ob, pl, hl⟩).as (show walkI b r = ((walkI b r).1, (walkI b r).2) from rfl)) fun v2 v3 H1 s1 r2 r3 => ?_
    rw [walkI_snd] at r3
    refine sif (t := !fullRow b r) (ET.as (tor (tnotN (xv 2 r2)) fun _ => tgt (xlenE T.len (lc1 C2 (hr.mono (by omega)) (xv 3 r3) (ob.preB2 r))) xi) ?_) (fun ht H2 s2 => ?_) (fun ht H2 s2 => wnil ?_)
    · rw [walkI_none]
      unfold fullRow
      cases greenRow (unitB b) r with
      | false => rfl
      | true =>
        cases greens (behind b r) with
        | nil => rfl
        | cons a l =>
          show decide ((0 : Int) < ((a :: l).length : Int)) = !decide (a :: l = [])
          have h1 : (0 : Int) < ((a :: l).length : Int) := by rw [List.length_cons]; omega
          rw [decide_eq_true h1, decide_eq_false (List.cons_ne_nil a l)]; rfl
    · obtain ⟨fI, fd', i1, i2, i3, i4⟩ := R.ini
      have hf : fullRow b r = false := by
        cases h : fullRow b r with
        | false => rfl
        | true => rw [h] at ht; cases ht
      refine wcons (w1 (ps_raise rfl (takes_of rfl rfl rfl rfl) (pmk_oex R.ox i1 i2 i3 (hr.mono (by omega)) i4 .nil pass0 (by rfl) R.gC (pa_cons (pv 1) pa_nil))) ?_)
      refine ⟨v1, rfl, by show 1 ≤ 1000; decide, fun a ha => ?_⟩
      refine ⟨a, C, v1, rfl, R.ox, R.noV, upd_same, fun dx hdx hne => ⟨rfl, dx, [("value", v1)], upd_same, ?_, ?_, ?_⟩⟩
      · rw [upd_ne hne, upd_same]
      · rw [upd_ne hne] at hdx
        exact hdx
      · rw [upd_ne hne] at hdx
        have s12 := s1.trans s2
        refine q2 hf dx _ (fun b' o hb' => ?_) (s12.free hdx) upd_same
        have n1 : b' ≠ dx := fun e => by rw [e, s12.free hdx] at hb'; cases hb'
        have n2 : b' ≠ a := fun e => by rw [e, s12.free ha] at hb'; cases hb'
        rw [upd_ne n1, del_ne n2, upd_ne n2, upd_ne n1, upd_ne n2]
        exact s12 _ _ hb'
    · have hf : fullRow b r = true := by
        cases h : fullRow b r with
        | true => rfl
        | false => rw [h] at ht; cases ht
      obtain ⟨hin, q⟩ := q1 hf
      refine sret (xtupE T.tuple (comp1 (i := 4) (f := fun c : Col => (c.xs.idxOf (-1) : Int)) rfl nd (by kernel_rfl) (wlstE (lc1 C3 (hr.mono (by omega)) (xv 3 (Rep.up s2 r3)) (ob.preB2 r))) ?_ fun k c hc v H6 s6 r7 _ _ _ _ _ => xidx (xv 4 r7) (xneg xi) (hin c (get_mem hc))).ev) fun v H3 s3 r => q v H3 ((s1.trans s2).trans s3) r
      unfold colsC
      rw [List.length_map, upto_len, (ob.behind r).wid]
      have := ob.n8
      exact len40 (by omega)
end
end Nh
set_option Elab.async false
set_option linter.all false
set_option maxRecDepth 100000
set_option maxHeartbeats 4000000
namespace Nh
open PySem PySem.Spec PyProof.Rows L2
/-! ### shortest_full -/
def rowB (b : Bd) (r : List Int) : List Int × Bd := (r, behind b r)
structure Hv (P : Program) (w : World) (H0 H : Hp) (p4 p6 : Addr) (xs : List (Bd × Addr)) (N : List (List Int × Bd)) : Prop where
  same : Same H0 H
  sn : Seen P w H p4 xs
  lg : LsR H p6 N
  n4 : H0 p4 = none
  n6 : H0 p6 = none
theorem Kp.put' {Hb H H' : Hp} {src : Option Addr} {q : Addr} (k : Kp Hb src H) (t : But q H H') (tk : TK H H') (n : ∀ p, src = some p → p ≠ q ∧ ∃ us, Hb p = some (.lst us)) : Kp Hb src H' := ⟨k.1.trans tk, fun p e => by
  obtain ⟨n1, us, n2⟩ := n p e
  rw [n2]
  exact t p _ n1 ((k.2 p e).trans n2)⟩
section
variable {P : Program} {w : World} {H0 H H' : Hp} {p4 p6 : Addr} {xs xs' : List (Bd × Addr)} {N N' : List (List Int × Bd)}
theorem Hv.up (h : Hv P w H0 H p4 p6 xs N) (s : Same H H') : Hv P w H0 H' p4 p6 xs N := ⟨h.same.trans s, h.sn.up s, h.lg.up s, h.n4, h.n6⟩
theorem Hv.put4 (h : Hv P w H0 H p4 p6 xs N) (t : But p4 H H') (tk : TK H H') (s : Seen P w H' p4 xs') : Hv P w H0 H' p4 p6 xs' N := by
  obtain ⟨vs, h1, h2⟩ := h.lg
  have ne : p6 ≠ p4 := fun e => by
    have := h.sn.at'
    rw [← e, h1] at this
    cases this
  exact ⟨t.same h.same h.n4, s, ⟨vs, t p6 _ ne h1, h2.up tk⟩, h.n4, h.n6⟩
theorem Hv.put6 (h : Hv P w H0 H p4 p6 xs N) (t : But p6 H H') (l : LsR H' p6 N') : Hv P w H0 H' p4 p6 xs N' := by
  obtain ⟨vs, h1, h2⟩ := h.lg
  exact ⟨t.same h.same h.n6, h.sn.but t h1, l, h.n4, h.n6⟩
end
def spSF : Sp := fun vs H Q _ => ∃ (v0 v1 : V) (b : Bd) (n m most : Nat), vs = [v0, v1] ∧ Rep.rep H v0 b ∧ Rep.rep H v1 (most : Int) ∧ Okb n m b ∧ n ≤ 4 ∧ most ≤ 8 ∧ ∀ u H' (o : Option (List Int)), Same H H' → IsFirst n b most o → Rep.rep H' u o → Q u H'
theorem pow4 {d : Nat} (h : d ≤ 8) : 4 ^ d ≤ 65536 := Nat.le_trans (Nat.pow_le_pow_right (by decide) h) (by decide)
section
variable {P : Program} {w : World} {K : PySem.W.Frag} {mg : Str → Option Value} {base : Heap}
theorem sc_shortest_full : FnScope ["board", "most", "start", "layer", "seen", "_", "longer", "row", "wide", "places", "place", "made"] ["board", "most"] (defScope (topS 25)) := ⟨rfl, rfl, rfl, by decide +kernel, rfl, by decide +kernel, by decide +kernel⟩
theorem ok_shortest_full {f : Addr} {fd : FuncData} (T : Blt mg) (C1 : CB P w K mg base) (C2 : CUn P w K mg base) (C3 : CGs P w K mg base) (C4 : CSw P w K mg base) (F : Fun K "shortest_full" "shortest_full" (topS 25) f fd) :
    FnOk P w K mg base CX0 5 f fd ["board", "most"] spSF := by
  refine F.ok sc_shortest_full (fun vs H Q E h => ?_) (fun cdv A outer s H vs Q E hr h => ⟨_, lzS _, ?_⟩)
  · obtain ⟨v0, v1, b, n, m, most, rfl, _⟩ := h
    rfl
  · obtain ⟨v0, v1, b, n, m, most, rfl, r0, r1, ob, hn4, hm8, q⟩ := h
    have nd := sc_shortest_full.nd
    have hu := hr.units
    have e1 : v1 = V.int (most : Int) := r1
    subst e1
    have wfb := ob.wf.behind
    have fitB : ∀ r : List Int, r.length ≤ 9 → Fit 1 (behind b r) := fun r hl => Fit.swBy r (ob.unit (by omega))
    refine sexprW ((xc1 C1 hr (xv 0 r0) ⟨n, m, ob⟩).run fun _ H1 s1 _ => ?_)
    replace r0 := Rep.up s1 r0
    refine sif ((tlt (xv 1 (d := (most : Int)) rfl) xi).as (decide_eq_false (by omega))) (fun e => nomatch e) fun _ H2 s2 => wnil ?_
    replace r0 := Rep.up s2 r0
    refine sset 2 nd (xc1 C2 (hr.mono (by omega)) (xv 0 r0) ob.preB) fun v2 H3 s3 r2 => ?_
    replace r0 := Rep.up s3 r0
    have s13 := (s1.trans s2).trans s3
    refine spar 3 4 rfl nd (lone (xpair (xnil (α := Int)) (xv 2 r2))) (xdictS hu (xv 2 r2) xb) fun v3 v4 H4 H5 s4 r3 s5 r4 => ?_
    obtain ⟨p30, rfl, n30, l30⟩ := r3
    obtain ⟨p4, t0, rfl, n4, sn0⟩ := r4
    have s45 := s4.trans s5
    have n4' : H p4 = none := (s13.trans s4).free n4
    refine sfor rfl PassesOwn.never (wrng (n := most + 1) T.range (xadd (xv 1 (d := (most : Int)) rfl) xi) (by omega)) (pg_name (i := 5) nd rfl (.inl rfl)) fun Hb src s6 sc _ => ?_
    subst sc
    refine ⟨fun d σ H' => ∃ p3 x5 x6 x7 x8 x9 x10 x11 S Ks xs, σ = [some v0, some (.int (most : Int)), some v2, some (.ref p3), some (.ref p4), x5, x6, x7, x8, x9, x10, x11] ∧ TK Hb H' ∧ Same H H' ∧ Seen P w H' p4 xs ∧ LsR H' p3 (Ks.map (rowB b)) ∧ Lay n b d S Ks ∧ xs.map (·.1) = S.map (behind b) ∧ Ks.length ≤ 4 ^ d ∧ S.length ≤ (d + 1) * 4 ^ d,
      ⟨p30, _, _, _, _, _, _, _, [[]], [[]], _, rfl, .refl _, (s13.trans s45).trans s6, sn0.up s6, l30.up (s5.trans s6), Lay.start, rfl, Nat.le_refl _, Nat.le_refl _⟩, fun d σ H' h => ?_, fun d x σ H' hx h v H7 s7 r7 => ?_, fun σ H' h => ?_⟩
    · obtain ⟨_, _, _, _, _, _, _, _, _, _, _, _, k, _⟩ := h
      exact ⟨k, fun _ e => nomatch e⟩
    · obtain ⟨p3, x5, x6, x7, x8, x9, x10, x11, S, Ks, xs, rfl, tk, sm, sn, l3, L, hxs, hK, hS⟩ := h
      obtain ⟨hd1, rfl⟩ := upto_get hx
      have hd8 : d ≤ 8 := by omega
      have h4 := pow4 hd8
      have hS2 : S.length ≤ 9 * 65536 := Nat.le_trans hS (Nat.mul_le_mul (by omega) h4)
      show WS _ _ _ _ _
      refine sset 6 nd (lnil (α := List Int × Bd)) fun v6 H8 s8 r8 => ?_
      obtain ⟨p6, rfl, n6, l6⟩ := r8
      have s78 := s7.trans s8
      have ne36 : p3 ≠ p6 := fun e => by
        obtain ⟨vs, h1, _⟩ := l3.up s7
        rw [e, n6] at h1
        cases h1
      have hv0 : Hv P w H H8 p4 p6 xs (([] : List (List Int)).map (rowB b)) := ⟨sm.trans s78, sn.up s78, l6, n4', (sm.trans s7).free n6⟩
      replace l3 := l3.up s78
      replace tk := tk.trans (tk_of s78)
      refine sfor rfl PassesOwn.never (wlst l3 (xw 3)) (pg_tup rfl (pgs_cons (pg_name (i := 7) nd rfl (.inl rfl)) (pgs_cons (pg_name (i := 8) nd rfl (.inl rfl)) pgs_nil))) fun Hc src s9 sc there => ?_
      subst sc
      have th3 := there p3 rfl
      replace tk := tk.trans (tk_of s9)
      refine ⟨fun i σ H' => ∃ x7 x8 x9 x10 x11 N xs', σ = [some v0, some (.int (most : Int)), some v2, some (.ref p3), some (.ref p4), some v, some (.ref p6), x7, x8, x9, x10, x11] ∧ TK Hb H' ∧ Kp Hc (some p3) H' ∧ Hv P w H H' p4 p6 xs' (N.map (rowB b)) ∧ Mid n b d S Ks N i [] ∧ xs'.map (·.1) = (S ++ N).map (behind b) ∧ N.length ≤ 4 * i,
        ⟨_, _, _, _, _, [], xs, rfl, tk, ⟨.refl _, fun _ _ => rfl⟩, hv0.up s9, L.mid, by rw [List.append_nil]; exact hxs, Nat.zero_le _⟩, fun i σ H' h => ?_, fun i x σ H' hx h v' H10 s10 r10 => ?_, fun σ H' h => ?_⟩
      · obtain ⟨_, _, _, _, _, _, _, _, _, k, _⟩ := h
        exact k
      · obtain ⟨x7, x8, x9, x10, x11, N, xs', rfl, tk, kp, hv, M, hxs', hN⟩ := h
        rw [List.getElem?_map] at hx
        obtain ⟨r, hr', rfl⟩ := Option.map_eq_some_iff.mp hx
        have hrK := List.mem_of_getElem? hr'
        have hil := lt_get hr'
        have rlen := L.klen hrK
        have g0 := (L.gr r ((L.kin r).mp hrK).1).1
        have nn2 : n + n ≤ 1000 := by have := ob.n8; omega
        replace tk := tk.trans (tk_of s10)
        replace kp := kp.up s10 (fun p e => by cases e; exact th3)
        replace hv := hv.up s10
        refine gpair r10 fun v7 v8 r7' r8' => ?_
        change Rep.rep H10 v7 r at r7'
        change Rep.rep H10 v8 (behind b r) at r8'
        refine sset 9 nd (lc1 C3 (hr.mono (by omega)) (xv 8 r8') (ob.preB2 r)) fun v9 H11 s11 ⟨p9, e9, n9, l9⟩ => ?_
        subst e9
        have ne96 : p9 ≠ p6 := fun e => by
          obtain ⟨vs, h1, _⟩ := hv.lg
          rw [← e, n9] at h1
          cases h1
        replace tk := tk.trans (tk_of s11)
        replace kp := kp.up s11 (fun p e => by cases e; exact th3)
        replace hv := hv.up s11
        replace r7' := Rep.up s11 r7'
        replace r8' := Rep.up s11 r8'
        refine sif (teq (xlenO T.len (xo 9 l9)) xi) (fun ht H12 s12 => ?_) (fun ht H12 s12 => wnil ?_)
        · have hg : greens (behind b r) = [] := by
            have := of_decide_eq_true ht
            exact List.length_eq_zero_iff.mp (by change ((greens (behind b r)).length : Int) = 0 at this; omega)
          refine sret (xsome (xv 7 (Rep.up s12 r7'))) fun u H13 s13' r13 => ?_
          exact q u H13 (some r) ((hv.same.trans s12).trans s13') (M.found hr' hg (by omega)) r13
        · have hg : greens (behind b r) ≠ [] := fun e => by
            have := of_decide_eq_false ht
            change ¬ ((greens (behind b r)).length : Int) = 0 at this
            rw [e] at this
            exact this rfl
          replace tk := tk.trans (tk_of s12)
          replace kp := kp.up s12 (fun p e => by cases e; exact th3)
          replace hv := hv.up s12
          replace r7' := Rep.up s12 r7'
          replace r8' := Rep.up s12 r8'
          replace l9 := l9.up s12
          have n9' : H10 p9 = none := n9
          have gl : (greens (behind b r)).length ≤ n := by
            have h1 : (greens (behind b r)).length ≤ (upto (wid (behind b r))).length := List.length_filter_le _ _
            rwa [upto_len, (wfb r).wid] at h1
          refine sfor rfl PassesOwn.never (wlst l9 (xw 9)) (pg_name (i := 10) nd rfl (.inl rfl)) fun Hd src s13' sc there9 => ?_
          subst sc
          have th9 := there9 p9 rfl
          replace tk := tk.trans (tk_of s13')
          replace kp := kp.up s13' (fun p e => by cases e; exact th3)
          replace hv := hv.up s13'
          refine ⟨fun j σ H' => ∃ x10 x11 N xs', σ = [some v0, some (.int (most : Int)), some v2, some (.ref p3), some (.ref p4), some v, some (.ref p6), some v7, some v8, some (.ref p9), x10, x11] ∧ TK Hb H' ∧ Kp Hc (some p3) H' ∧ Kp Hd (some p9) H' ∧ Hv P w H H' p4 p6 xs' (N.map (rowB b)) ∧ Mid n b d S Ks N i ((greens (behind b r)).take j) ∧ xs'.map (·.1) = (S ++ N).map (behind b) ∧ N.length ≤ 4 * i + j ∧ Rep.rep H' v7 r ∧ Rep.rep H' v8 (behind b r),
            ⟨_, _, N, xs', rfl, tk, kp, ⟨.refl _, fun _ _ => rfl⟩, hv, M, hxs', hN, Rep.up s13' r7', Rep.up s13' r8'⟩, fun j σ H' h => ?_, fun j x σ H' hx h v10 H14 s14 r14 => ?_, fun σ H' h => ?_⟩
          · obtain ⟨_, _, _, _, _, _, _, k, _⟩ := h
            exact k
          · obtain ⟨x10, x11, N, xs', rfl, tk, kp, kp9, hv, M, hxs', hN, r7', r8'⟩ := h
            have hpg := get_mem hx
            obtain ⟨⟨jj, rfl, hjj⟩, hgrn⟩ := (mem_greens (wfb r)).mp hpg
            have hj := lt_get hx
            have hps : ∀ q', q' ∈ (greens (behind b r)).take j → q' < (jj : Int) := fun q' hq' => by
              obtain ⟨k, hk⟩ := List.getElem?_of_mem hq'
              have kl := lt_get hk
              rw [List.length_take] at kl
              rw [List.getElem?_take_of_lt (by omega)] at hk
              obtain ⟨h1, e1⟩ := List.getElem?_eq_some_iff.mp hk
              obtain ⟨h2, e2⟩ := List.getElem?_eq_some_iff.mp hx
              rw [← e1, ← e2]
              exact List.pairwise_iff_getElem.mp (greens_pw _) k j h1 h2 (by omega)
            replace tk := tk.trans (tk_of s14)
            replace kp := kp.up s14 (fun p e => by cases e; exact th3)
            replace kp9 := kp9.up s14 (fun p e => by cases e; exact th9)
            replace hv := hv.up s14
            replace r7' := Rep.up s14 r7'
            replace r8' := Rep.up s14 r8'
            have ft := (fitB r (by omega)).mono (Nat.zero_le 1)
            show WS _ _ _ _ _
            refine sset 11 nd (xc2 C4 (hr.mono (by omega)) (xv 8 r8') (xv 10 r14) (preSwap.of (wfb r) hjj ft nn2)) fun v11 H15 s15 r15 => ?_
            rw [← behind_snoc] at r15
            replace tk := tk.trans (tk_of s15)
            replace kp := kp.up s15 (fun p e => by cases e; exact th3)
            replace kp9 := kp9.up s15 (fun p e => by cases e; exact th9)
            replace hv := hv.up s15
            replace r7' := Rep.up s15 r7'
            replace r8' := Rep.up s15 r8'
            have htk : (greens (behind b r)).take (j + 1) = (greens (behind b r)).take j ++ [(jj : Int)] := take_snoc hx
            have nsz : N.length ≤ 4 * 65536 := by omega
            refine sif (tnotinS hu hv.sn (xv 11 r15) (xw 4)) (fun ht H16 s16 => ?_) (fun ht H16 s16 => wnil (wnil ?_))
            · have hW : behind b (r ++ [(jj : Int)]) ∉ xs'.map (·.1) := fun z => by
                rw [decide_eq_true z] at ht
                cases ht
              replace tk := tk.trans (tk_of s16)
              replace kp := kp.up s16 (fun p e => by cases e; exact th3)
              replace kp9 := kp9.up s16 (fun p e => by cases e; exact th9)
              replace hv := hv.up s16
              replace r7' := Rep.up s16 r7'
              replace r8' := Rep.up s16 r8'
              replace r15 := Rep.up s16 r15
              have xsz : xs'.length ≤ 1000000 := by
                have e := congrArg List.length hxs'
                rw [List.length_map, List.length_map, List.length_append] at e
                omega
              refine sputS hu hv.sn xb (xw 4) (xv 11 r15) hW xsz fun a H17 t17 tk17 sn17 => ?_
              have ne94 : p9 ≠ p4 ∧ p3 ≠ p4 := by
                obtain ⟨us9, hus9⟩ := th9
                obtain ⟨us3, hus3⟩ := th3
                have k9 := (kp9.2 p9 rfl).trans hus9
                have k3 := (kp.2 p3 rfl).trans hus3
                have k4 := hv.sn.at'
                refine ⟨fun e => ?_, fun e => ?_⟩
                · rw [e, k4] at k9; cases k9
                · rw [e, k4] at k3; cases k3
              replace tk := tk.trans tk17
              replace kp := kp.put' t17 tk17 (fun p e => by cases e; exact ⟨ne94.2, th3⟩)
              replace kp9 := kp9.put' t17 tk17 (fun p e => by cases e; exact ⟨ne94.1, th9⟩)
              replace hv := hv.put4 t17 tk17 sn17
              replace r7' := Rep.keep tk17 r7'
              replace r8' := Rep.keep tk17 r8'
              replace r15 := Rep.keep tk17 r15
              refine sapp hv.lg (xw 6) (xpair (xcat (xv 7 r7') (xone (xv 10 (d := (jj : Int)) r14)) ?_) (xv 11 r15)) ?_ fun H18 t18 l18 => ?_
              · rw [rlen]
                show d + 1 ≤ _
                exact len40 (by omega)
              · rw [List.length_map, sizeLine_eq]
                omega
              · obtain ⟨us, hu6, _⟩ := hv.lg
                have tk18 := t18.tk hu6
                have ne9 : p9 ≠ p6 ∧ p3 ≠ p6 := ⟨ne96, ne36⟩
                have eN : N.map (rowB b) ++ [(r ++ [(jj : Int)], behind b (r ++ [(jj : Int)]))] = (N ++ [r ++ [(jj : Int)]]).map (rowB b) := by rw [List.map_append]; rfl
                rw [eN] at l18
                refine wnil (wnil ⟨_, _, N ++ [r ++ [(jj : Int)]], xs' ++ [(behind b (r ++ [(jj : Int)]), a)], rfl, tk.trans tk18, kp.put' t18 tk18 (fun p e => by cases e; exact ⟨ne9.2, th3⟩), kp9.put' t18 tk18 (fun p e => by cases e; exact ⟨ne9.1, th9⟩), hv.put6 t18 l18, ?_, ?_, ?_, Rep.keep tk18 r7', Rep.keep tk18 r8'⟩)
                · rw [htk]; exact M.keep ob.wf hr' hpg hps
                · rw [List.map_append, hxs', ← List.append_assoc, List.map_append (l₁ := S ++ N)]; rfl
                · rw [List.length_append]; show N.length + 1 ≤ _; omega
            · have hW : behind b (r ++ [(jj : Int)]) ∈ xs'.map (·.1) := by
                refine Classical.byContradiction fun z => ?_
                rw [decide_eq_false z] at ht
                cases ht
              rw [hxs'] at hW
              obtain ⟨s', hs', es'⟩ := List.mem_map.mp hW
              refine ⟨_, _, N, xs', rfl, tk.trans (tk_of s16), kp.up s16 (fun p e => by cases e; exact th3), kp9.up s16 (fun p e => by cases e; exact th9), hv.up s16, ?_, hxs', by omega, Rep.up s16 r7', Rep.up s16 r8'⟩
              rw [htk]
              exact M.skip hr' hps (List.mem_append.mp hs') es'
          · obtain ⟨x10, x11, N, xs', rfl, tk, kp, kp9, hv, M, hxs', hN, r7', r8'⟩ := h
            rw [List.take_length] at M
            exact wnil ⟨_, _, _, _, _, N, xs', rfl, tk, kp, hv, M.next hr' hg, hxs', by omega⟩
      · obtain ⟨x7, x8, x9, x10, x11, N, xs', rfl, tk, kp, hv, M, hxs', hN⟩ := h
        rw [List.length_map] at M hN
        refine sset 3 nd (xw 6) fun v3' H10 s10 r10 => ?_
        have e3 : v3' = V.ref p6 := r10
        subst e3
        have hv' := hv.up s10
        refine wnil ⟨p6, _, _, _, _, _, _, _, S ++ N, N, xs', rfl, tk.trans (tk_of s10), hv'.same, hv'.sn, hv'.lg, M.done ob.wf, hxs', ?_, ?_⟩
        · rw [Nat.pow_succ]; omega
        · rw [List.length_append, Nat.pow_succ]
          have : (d + 1 + 1) * (4 ^ d * 4) = (d + 1) * 4 ^ d * 4 + 4 ^ d * 4 := by
            rw [Nat.add_mul (d + 1) 1, Nat.one_mul, Nat.mul_assoc]
          omega
    · obtain ⟨p3, x5, x6, x7, x8, x9, x10, x11, S, Ks, xs, rfl, tk, sm, sn, l3, L, hxs, hK, hS⟩ := h
      rw [upto_len] at L
      exact sret (xN (α := List Int)) fun u H7 s7 r7 => q u H7 none (sm.trans s7) L.none r7
end
end Nh
set_option Elab.async false
set_option linter.all false
set_option maxRecDepth 100000
set_option maxHeartbeats 4000000
namespace Nh
open PySem PySem.Spec PyProof.Rows L2
/-! ### by_columns of rows with the same columns -/
def spBC : Sp := fun vs H Q _ => ∃ (v0 v1 v2 : V) (b : Bd) (r r' : List Int), vs = [v0, v1, v2] ∧ Rep.rep H v0 b ∧ Rep.rep H v1 r ∧ Rep.rep H v2 r' ∧ preWalk b r ∧ preWalk b r' ∧ (columnsI b r).Perm (columnsI b r') ∧ ∀ H', Same H H' → Q (.bl true) H'
section
variable {P : Program} {w : World} {K : PySem.W.Frag} {mg : Str → Option Value} {base : Heap}
theorem cols_len {n m : Nat} {b : Bd} (ob : Okb n m b) (r : List Int) {c : Col} (h : c ∈ columnsI b r) : c.xs.length = n := by
  unfold columnsI colsC at h
  obtain ⟨j, _, rfl⟩ := List.mem_map.mp h
  exact colOf_len (ob.behind r) _
theorem sc_by_columns : FnScope ["board", "row", "other"] ["board", "row", "other"] (defScope (topS 27)) := ⟨rfl, rfl, rfl, by decide +kernel, rfl, by decide +kernel, by decide +kernel⟩
theorem ok_by_columns {f : Addr} {fd : FuncData} (T : Blt mg) (C1 : CB P w K mg base) (C2 : CR1 P w K mg base) (C3 : Cal P w K mg base 6 "columns" ["board", "row"] (sp2L preWalk columnsI)) (F : Fun K "by_columns" "by_columns" (topS 27) f fd) :
    FnOk P w K mg base CX0 7 f fd ["board", "row", "other"] spBC := by
  refine F.ok sc_by_columns (fun vs H Q E h => ?_) (fun cdv A outer s H vs Q E hr h => ⟨_, lzS _, ?_⟩)
  · obtain ⟨v0, v1, v2, b, r, r', rfl, _⟩ := h
    rfl
  · obtain ⟨v0, v1, v2, b, r, r', rfl, r0, r1, r2, ⟨n, m, ob, pl, hl⟩, ⟨n', m', ob', pl', hl'⟩, pm, q⟩ := h
    have nd := sc_by_columns.nd
    have hu := hr.units
    have en : n' = n := by rw [← ob'.wf.wid, ob.wf.wid]
    subst en
    refine sexprW ((xc1 C1 (hr.mono (by omega)) (xv 0 r0) ⟨n', m, ob⟩).run fun _ H1 s1 _ => ?_)
    replace r0 := Rep.up s1 r0
    replace r1 := Rep.up s1 r1
    replace r2 := Rep.up s1 r2
    refine sexprW ((xc2 C2 (hr.mono (by omega)) (xv 0 r0) (xv 1 r1) ⟨n', m, ob.wf, pl, by omega⟩).run fun _ H2 s2 _ => ?_)
    replace r0 := Rep.up s2 r0
    replace r1 := Rep.up s2 r1
    replace r2 := Rep.up s2 r2
    refine sexprW ((xc2 C2 (hr.mono (by omega)) (xv 0 r0) (xv 2 r2) ⟨n', m, ob.wf, pl', by omega⟩).run fun _ H3 s3 _ => ?_)
    replace r0 := Rep.up s3 r0
    replace r1 := Rep.up s3 r1
    replace r2 := Rep.up s3 r2
    have hs : ∀ {a b : Expr} {pos p : Pos} {xs ys : List Col} {X : Cx} {σ : L2.St} {H : Hp}, X.A.units + 64 < cLine → X.mg "sorted" = none → Gl X "sorted" → Ns X a → Ns X b → EO X σ H a xs → EO X σ H b ys → xs.Perm ys → (∀ x, x ∈ xs → x.xs.length = n') → behindInMarks .Eq (.Call (.Name "sorted" p) [b] [] pos) = false → ∀ {p' pos' pos2 : Pos},
        Ex X σ H (.Compare (.Call (.Name "sorted" p') [a] [] pos') [.Eq] [.Call (.Name "sorted" p) [b] [] pos] pos2) true := fun {a b pos p xs ys X σ H} hu hm hg na nb ha hb pm hl hmk => fun H1 s Q q =>
      we (pe_cmpR (op_eqD hu) (lzE _) (lzE _) hmk) (lsortT hm ha ob.wf.one hl na hg H1 s _ fun v H2 s2 ⟨p1, xs', ev, n1, l1, q1, q2⟩ =>
        lsortT hm hb ob.wf.one (fun y hy => hl y (pm.mem_iff.mpr hy)) nb hg H2 (s.trans s2) _ fun u H3 s3 ⟨p2, ys', eu, n2, l2, q3, q4⟩ => by
          subst ev; subst eu
          have e : xs' = ys' := sortT_eq ((q1.trans pm).trans q3.symm) q2 q4 (fun x hx => hl x (q1.mem_iff.mp hx))
          subst e
          refine ⟨_, _, dp_list (l1.up s3), dp_list l2, sh_list xs', sh_list xs', ?_⟩
          rw [show PyData.eqv (.list (xs'.map Dat.toD)) (.list (xs'.map Dat.toD)) = decide (xs' = xs') from eqvs xs' xs', decide_eq_true rfl]
          exact q _ _ (s2.trans s3) rfl)
    refine sret (hs hu T.sorted (by rfl) (by intro _; rfl) (by intro _; rfl) (EL.o (lc2 C3 hr (xv 0 r0) (xv 1 r1) ⟨n', m, ob, pl, hl⟩)) (EL.o (lc2 C3 hr (xv 0 r0) (xv 2 r2) ⟨n', m, ob, pl', hl'⟩)) pm (fun c hc => cols_len ob r hc) (by rfl)) fun v H4 s4 r4 => ?_
    have e : v = V.bl true := r4
    subst e
    exact q H4 (((s1.trans s2).trans s3).trans s4)
end
end Nh
set_option Elab.async false
set_option linter.all false
set_option maxRecDepth 100000
set_option maxHeartbeats 4000000
namespace Nh
open PySem PySem.Spec PyProof.Rows L2
theorem Fill.other {α : Type} [Rep α] {H0 Hb H H' : Hp} {p q : Addr} {xs : List α} {vs : List V} (h : Fill H0 Hb p xs H) (n : H0 q = none) (hq : H q = some (.lst vs)) (ne : p ≠ q) (t : But q H H') : Fill H0 Hb p xs H' :=
  ⟨t.same h.same n, h.tk.trans (t.tk hq), t.ls hq ne h.ls⟩
section
variable {P : Program} {w : World} {K : PySem.W.Frag} {mg : Str → Option Value} {base : Heap}
/-! ### the law's swap -/
theorem sc_l_swapped : FnScope ["_law_board_here", "_law_at", "_law_found", "_law_one", "_law_line", "_law_other", "_law_left", "_law_right_here"] ["_law_board_here", "_law_at"] (defScope (topS 33)) := ⟨rfl, rfl, rfl, by decide +kernel, rfl, by decide +kernel, by decide +kernel⟩
theorem ok_l_swapped {f : Addr} {fd : FuncData} (T : Blt mg) (F : Fun K "_law_swapped" "_law_swapped" (topS 33) f fd) : FnOk P w K mg base CX0 1 f fd ["_law_board_here", "_law_at"] (sp2 preSwap swI) := by
  refine F.ok sc_l_swapped (fun vs H Q E h => ?_) (fun cdv A outer s H vs Q E hr h => ⟨_, lzS _, ?_⟩)
  · obtain ⟨v, u, x, y, rfl, _⟩ := h
    rfl
  · obtain ⟨v0, v1, b, k, rfl, r0, r1, ⟨n, m, j, B, wf, rfl, hj, bb, hB, hm⟩, q⟩ := h
    have nd := sc_l_swapped.nd
    have hnm := wf.le
    have e1 : v1 = V.int (j : Int) := r1
    subst e1
    obtain ⟨hd, hhd⟩ := get_lt (l := b) (i := j) (by rw [wf.len]; omega)
    refine sset 2 nd (lnil (α := List Int)) fun v2 H1 s1 r2 => ?_
    obtain ⟨p2, rfl, n2, l2⟩ := r2
    refine sfor rfl PassesOwn.never (wrng (n := m) T.range ((xlen T.len (xv 0 (Rep.up s1 r0))).as (by rw [wf.len])) (by omega)) (pg_name (i := 3) nd rfl (.inl rfl)) fun Hb src s2 sc _ => ?_
    subst sc
    have s12 := s1.trans s2
    refine ⟨fun i σ H3 => ∃ x3 x4 x5 x6 x7, σ = [some v0, some (.int (j : Int)), some (.ref p2), x3, x4, x5, x6, x7] ∧ Fill H Hb p2 ((sw b j).take i) H3, ⟨_, _, _, _, _, rfl, s12, .refl _, l2.up s2⟩, fun i σ H3 h => ?_, fun i x σ H3 hx h v H4 s4 r4 => ?_, fun σ H3 h => ?_⟩
    · obtain ⟨_, _, _, _, _, _, h⟩ := h
      exact h.kp
    · obtain ⟨x3, x4, x5, x6, x7, rfl, F3⟩ := h
      obtain ⟨him, rfl⟩ := upto_get hx
      have e3 : v = V.int (i : Int) := r4
      subst e3
      obtain ⟨row, hrow⟩ := get_lt (l := b) (i := i) (by rw [wf.len]; exact him)
      have hsw : (sw b j)[i]? = some (srow b n j i) := wf.sw_get him j
      have F4 := F3.up s4
      show WS _ _ _ _ _
      refine sset 4 nd (lnil (α := Int)) fun v4 H5 s5 r5 => ?_
      obtain ⟨p4, rfl, n4, l4⟩ := r5
      have F5 := F4.up s5
      have n4H : H p4 = none := F4.same.free n4
      have ne24 : p2 ≠ p4 := fun e => by
        obtain ⟨vs, h1, _⟩ := F4.ls
        rw [e, n4] at h1
        cases h1
      refine sfor rfl PassesOwn.never (wrng (n := n) T.range (xwid wf T.len (xv 0 (Rep.up F5.same r0))) (by omega)) (pg_name (i := 5) nd rfl (.inl rfl)) fun Hc src s6 sc _ => ?_
      subst sc
      refine ⟨fun k σ H7 => ∃ x5 x6 x7, σ = [some v0, some (.int (j : Int)), some (.ref p2), some (.int (i : Int)), some (.ref p4), x5, x6, x7] ∧ Fill H Hb p2 ((sw b j).take i) H7 ∧ Fill H4 Hc p4 ((srow b n j i).take k) H7, ⟨_, _, _, rfl, F5.up s6, s5.trans s6, .refl _, l4.up s6⟩, fun k σ H7 h => ?_, fun k x σ H7 hx h v H8 s8 r8 => ?_, fun σ H7 h => ?_⟩
      · obtain ⟨_, _, _, _, _, h⟩ := h
        exact h.kp
      · obtain ⟨x5, x6, x7, rfl, F7, G7⟩ := h
        obtain ⟨hkn, rfl⟩ := upto_get hx
        have e5 : v = V.int (k : Int) := r8
        subst e5
        have F8 := F7.up s8
        have G8 := G7.up s8
        have r08 := Rep.up F8.same r0
        have hsk : (srow b n j i)[k]? = some (ent b j i k) := by unfold srow; exact map_range_get _ hkn
        have zk : ((srow b n j i).take k).length < sizeLine := by
          rw [List.length_take]
          exact Nat.lt_of_le_of_lt (Nat.min_le_left _ _) (lt_small (by omega))
        have fin : ∀ (x6' x7' : Option V) (H9 H10 : Hp), Fill H Hb p2 ((sw b j).take i) H9 → Fill H4 Hc p4 ((srow b n j i).take k) H9 → But p4 H9 H10 → LsR H10 p4 ((srow b n j i).take k ++ [ent b j i k]) →
            ∃ x5 x6 x7, [some v0, some (.int (j : Int)), some (.ref p2), some (.int (i : Int)), some (.ref p4), some (.int (k : Int)), x6', x7'] = [some v0, some (.int (j : Int)), some (.ref p2), some (.int (i : Int)), some (.ref p4), x5, x6, x7] ∧ Fill H Hb p2 ((sw b j).take i) H10 ∧ Fill H4 Hc p4 ((srow b n j i).take (k + 1)) H10 := fun x6' x7' H9 H10 F9 G9 t l => by
          obtain ⟨vs, hv, _⟩ := G9.ls
          refine ⟨_, _, _, rfl, F9.other n4H hv ne24 t, ?_⟩
          rw [take_snoc hsk]
          exact G9.put n4 t l
        show WS _ _ _ _ _
        refine sif (tor (teq (xv 3 (d := (i : Int)) rfl) (xv 1 (d := (j : Int)) rfl)) fun _ => teq (xv 5 (d := (k : Int)) rfl) (xv 1 (d := (j : Int)) rfl)) (fun ht H9 s9 => ?_) (fun ht H9 s9 => ?_)
        · have F9 := F8.up s9
          have G9 := G8.up s9
          have he : ent b j i k = 0 - at2 b i k := by
            unfold ent
            rw [if_pos (by
              rw [Bool.or_eq_true, decide_eq_true_eq, decide_eq_true_eq] at ht
              omega)]
            omega
          refine sapp G9.ls (xw 4) (xsub xi (xit (xit (xv 0 (Rep.up s9 r08)) (xv 3 (d := (i : Int)) rfl) (atI_nat hrow)) (xv 5 (d := (k : Int)) rfl) (atI_nat (wf.get hrow hkn)))) zk fun H10 t10 l10 => wnil (wnil (fin _ _ H9 H10 F9 G9 t10 (by rw [he]; exact l10)))
        · have F9 := F8.up s9
          have G9 := G8.up s9
          have r09 := Rep.up s9 r08
          have he : ent b j i k = at2 b i k + (((at2 b i j).natAbs : Int) * at2 b j k + at2 b i j * ((at2 b j k).natAbs : Int)) / 2 := by
            unfold ent
            rw [if_neg (by
              intro z
              have : (decide ((i : Int) = j) || decide ((k : Int) = j)) = true := by
                rw [Bool.or_eq_true, decide_eq_true_eq, decide_eq_true_eq]
                omega
              rw [this] at ht
              cases ht)]
          refine spar 6 7 rfl nd (xit (xit (xv 0 r09) (xv 3 (d := (i : Int)) rfl) (atI_nat hrow)) (xv 1 (d := (j : Int)) rfl) (atI_nat (wf.get hrow hj))) (xit (xit (xv 0 r09) (xv 1 (d := (j : Int)) rfl) (atI_nat hhd)) (xv 5 (d := (k : Int)) rfl) (atI_nat (wf.get hhd hkn))) fun v6 v7 H10 H11 s10 r10 s11 r11 => ?_
          have e6 : v6 = V.int (at2 b i j) := r10
          have e7 : v7 = V.int (at2 b j k) := r11
          subst e6; subst e7
          have s1011 := s10.trans s11
          have b1 := bb.at i j
          have b2 := bb.at j k
          have a1 : (((at2 b i j).natAbs : Int)).natAbs < 2 ^ B := by rw [Int.natAbs_natCast]; exact b1
          have a2 : (((at2 b j k).natAbs : Int)).natAbs < 2 ^ B := by rw [Int.natAbs_natCast]; exact b2
          have F11 := F9.up s1011
          have G11 := G9.up s1011
          refine sapp G11.ls (xw 4) (xadd (xit (xit (xv 0 (Rep.up s1011 r09)) (xv 3 (d := (i : Int)) rfl) (atI_nat hrow)) (xv 5 (d := (k : Int)) rfl) (atI_nat (wf.get hrow hkn))) (xdiv (xadd (xmul (xabs T.abs (xv 6 (d := at2 b i j) rfl)) (xv 7 (d := at2 b j k) rfl) (mulx_ok a1 b2 (by omega))) (xmul (xv 6 (d := at2 b i j) rfl) (xabs T.abs (xv 7 (d := at2 b j k) rfl)) (mulx_ok b1 a2 (by omega)))) xi ⟨by decide, by decide⟩)) zk fun H12 t12 l12 => wnil (wnil (fin _ _ H11 H12 F11 G11 t12 (by rw [he]; exact l12)))
      · obtain ⟨x5, x6, x7, rfl, F7, G7⟩ := h
        have hl : (srow b n j i).length = n := by unfold srow; rw [List.length_map, List.length_range]
        rw [upto_len, List.take_of_length_le (by omega)] at G7
        refine sapp F7.ls (xw 2) (xtupL G7.ls T.tuple (xw 4)) ?_ fun H8 t8 l8 => wnil ⟨_, _, _, _, _, rfl, ?_⟩
        · rw [List.length_take]
          exact Nat.lt_of_le_of_lt (Nat.min_le_left _ _) (lt_small (by omega))
        · rw [take_snoc hsw]
          exact F7.put n2 t8 l8
    · obtain ⟨x3, x4, x5, x6, x7, rfl, F3⟩ := h
      rw [upto_len, List.take_of_length_le (by rw [sw_len, wf.len]; exact Nat.le_refl _)] at F3
      exact sret (xtupL F3.ls T.tuple (xw 2)) fun v H4 s4 r => q v H4 (F3.same.trans s4) r
end
end Nh
set_option Elab.async false
set_option linter.all false
set_option maxRecDepth 100000
set_option maxHeartbeats 4000000
namespace Nh
open PySem PySem.Spec PyProof.Rows L2
/-! ### the law's unit board, columns, green places -/
theorem ints_max : ∀ (xs : List Int), xs ≠ [] → ∃ m, m ∈ xs ∧ ∀ y, y ∈ xs → y ≤ m
  | [], h => absurd rfl h
  | [x], _ => ⟨x, List.mem_singleton.mpr rfl, fun y hy => by rw [List.mem_singleton.mp hy]; exact Int.le_refl _⟩
  | x :: y :: xs, _ => by
    obtain ⟨m, h1, h2⟩ := ints_max (y :: xs) (List.cons_ne_nil _ _)
    by_cases c : m ≤ x
    · refine ⟨x, List.mem_cons_self .., fun z hz => ?_⟩
      rcases List.mem_cons.mp hz with e | e
      · rw [e]; exact Int.le_refl _
      · exact Int.le_trans (h2 z e) c
    · refine ⟨m, List.mem_cons_of_mem _ h1, fun z hz => ?_⟩
      rcases List.mem_cons.mp hz with e | e
      · rw [e]; omega
      · exact h2 z e
theorem enum_fst {α : Type} (xs : List α) : (enumd xs).map (·.1) = upto xs.length := by
  unfold enumd
  exact List.map_fst_zip (by rw [upto_len]; exact Nat.le_refl _)
theorem enum_filter {α : Type} (xs : List α) (p : Int → Bool) : ((enumd xs).filter fun x => p x.1).map (·.1) = (upto xs.length).filter p := by
  rw [← enum_fst xs, List.filter_map]; rfl
section
variable {P : Program} {w : World} {K : PySem.W.Frag} {mg : Str → Option Value} {base : Heap}
theorem sc_l_unit : FnScope ["_law_board_here", "_law_many", "_law_to", "_law_at"] ["_law_board_here"] (defScope (topS 37)) := ⟨rfl, rfl, rfl, by decide +kernel, rfl, by decide +kernel, by decide +kernel⟩
theorem ok_l_unit {f : Addr} {fd : FuncData} (T : Blt mg) (F : Fun K "_law_unit" "_law_unit" (topS 37) f fd) : FnOk P w K mg base CX0 1 f fd ["_law_board_here"] (sp1 preB unitB) := by
  refine F.ok sc_l_unit (fun vs H Q E h => ?_) (fun cdv A outer s H vs Q E hr h => ⟨_, lzS _, ?_⟩)
  · obtain ⟨v, x, rfl, _⟩ := h
    rfl
  · obtain ⟨v0, b, rfl, r0, ⟨n, m, wf, hm⟩, q⟩ := h
    have nd := sc_l_unit.nd
    have hnm := wf.le
    have hl : (upto n).length ≤ sizeLine := by rw [upto_len]; exact len40 (by omega)
    have h62 : n < 2 ^ 62 := by omega
    refine sset 1 nd (xwid wf T.len (xv 0 r0)) fun v1 H1 s1 r1 => ?_
    have e1 : v1 = V.int (n : Int) := r1
    subst e1
    refine sret ((xcat (xslU (xv 0 (Rep.up s1 r0)) (xv 1 (d := (n : Int)) rfl)) (xtupE T.tuple (comp1 (i := 3) (f := unitRow n) rfl nd (by kernel_rfl) (wrng T.range (xv 1 (d := (n : Int)) rfl) h62) hl fun k x hx v H6 s6 r7 _ _ _ _ _ => ?_).ev) ?_).as ?_) fun v H2 s2 r => q v H2 (s1.trans s2) r
    · refine xtupE T.tuple (comp1 (i := 2) (f := fun j => if decide (x = j) = true then 1 else 0) rfl nd (by kernel_rfl) (wrng T.range (xv 1 (d := (n : Int)) rfl) h62) hl fun k' y hy u H7 s7 r8 _ _ _ _ _ => ?_).ev
      exact xintB T.int (xeq (xv 3 (Rep.up s7 r7)) (xv 2 r8))
    · rw [List.length_map, upto_len, cut_to _ (by rw [wf.len]; exact hnm), List.length_take]
      have : (2000 : Nat) ≤ sizeLine := by decide
      omega
    · rw [cut_to _ (by rw [wf.len]; exact hnm)]
      show _ = unitB b
      unfold unitB
      rw [wf.wid]; rfl
def preSq (W : Bd) : Prop := ∃ n, Wf n (n + n) W ∧ n ≤ 8
theorem sc_l_columns : FnScope ["_law_wide", "_law_many", "_law_line", "_law_at"] ["_law_wide"] (defScope (topS 38)) := ⟨rfl, rfl, rfl, by decide +kernel, rfl, by decide +kernel, by decide +kernel⟩
theorem ok_l_columns {f : Addr} {fd : FuncData} (T : Blt mg) (F : Fun K "_law_columns" "_law_columns" (topS 38) f fd) : FnOk P w K mg base CX0 1 f fd ["_law_wide"] (sp1L preSq colsC) := by
  refine F.ok sc_l_columns (fun vs H Q E h => ?_) (fun cdv A outer s H vs Q E hr h => ⟨_, lzS _, ?_⟩)
  · obtain ⟨v, x, rfl, _⟩ := h
    rfl
  · obtain ⟨v0, W, rfl, r0, ⟨n, wf, hn8⟩, q⟩ := h
    have nd := sc_l_columns.nd
    have hl : (upto n).length ≤ sizeLine := by rw [upto_len]; exact len40 (by omega)
    have h62 : n < 2 ^ 62 := by omega
    refine sset 1 nd (xwid wf T.len (xv 0 r0)) fun v1 H1 s1 r1 => ?_
    have e1 : v1 = V.int (n : Int) := r1
    subst e1
    have r0' := Rep.up s1 r0
    refine sret (comp1 (i := 3) (f := fun j => Col.mk (colOf W j.toNat)) rfl nd (by kernel_rfl) (wrng T.range (xv 1 (d := (n : Int)) rfl) h62) hl fun k x hx v H6 s6 r7 _ _ _ _ _ => ?_).ev fun v H2 s2 ⟨p, e, np, l⟩ => ?_
    · obtain ⟨hk, rfl⟩ := upto_get hx
      refine (xcol T.tuple (comp1 (i := 2) (f := fun r => r.getD k 0) rfl nd (by kernel_rfl) (wtup ((xslL (xv 0 (Rep.up s6 r0')) (xsub (xlen T.len (xv 0 (Rep.up s6 r0'))) (xv 1 (d := (n : Int)) rfl))).as (show cut W (some ((W.length : Int) - n)) none = W.drop n by
        rw [wf.len, show (((n + n : Nat) : Int) - n) = (n : Int) by omega]
        exact cut_from W (by rw [wf.len]; omega)))) ?_ fun k' row hrow u H7 s7 r8 _ _ _ _ _ => ?_).ev).as ?_
      · rw [List.length_drop, wf.len]; exact len40 (by omega)
      · exact xit (xv 2 r8) (xv 3 (Rep.up s7 r7)) (atI_nat (get_getD (by rw [wf.row row (List.mem_of_mem_drop (get_mem hrow))]; exact hk)))
      · show _ = Col.mk (colOf W k)
        unfold colOf
        rw [wf.wid]
    · subst e
      refine q p H2 (s1.trans s2) (s1.free np) ?_
      unfold colsC
      rw [wf.wid]
      exact l
abbrev LCo (P : Program) (w : World) (K : PySem.W.Frag) (mg : Str → Option Value) (base : Heap) : Prop := Cal P w K mg base 1 "_law_columns" ["_law_wide"] (sp1L preSq colsC)
abbrev LUn (P : Program) (w : World) (K : PySem.W.Frag) (mg : Str → Option Value) (base : Heap) : Prop := Cal P w K mg base 1 "_law_unit" ["_law_board_here"] (sp1 preB unitB)
abbrev LSw (P : Program) (w : World) (K : PySem.W.Frag) (mg : Str → Option Value) (base : Heap) : Prop := Cal P w K mg base 1 "_law_swapped" ["_law_board_here", "_law_at"] (sp2 preSwap swI)
abbrev LGr (P : Program) (w : World) (K : PySem.W.Frag) (mg : Str → Option Value) (base : Heap) : Prop := Cal P w K mg base 2 "_law_green" ["_law_wide"] (sp1L preSq greens)
theorem grn_max {n : Nat} {W : Bd} (wf : Wf n (n + n) W) {j : Nat} {m : Int} (hm : m ∈ colOf W j) (hle : ∀ y, y ∈ colOf W j → y ≤ m) : decide (0 < m) = grn W j := by
  unfold grn
  unfold colOf at hm hle
  rw [List.any_map]
  by_cases h : 0 < m
  · rw [decide_eq_true h]
    obtain ⟨r, hr, e⟩ := List.mem_map.mp hm
    refine (List.any_eq_true.mpr ⟨r, hr, ?_⟩).symm
    exact decide_eq_true (by rw [e]; exact h)
  · rw [decide_eq_false h]
    refine (List.any_eq_false.mpr fun r hr => ?_).symm
    have := hle _ (List.mem_map.mpr ⟨r, hr, rfl⟩)
    show ¬ decide (0 < r.getD j 0) = true
    rw [decide_eq_false (by omega)]
    exact Bool.false_ne_true
theorem sc_l_green : FnScope ["_law_wide", "_law_at", "_law_column"] ["_law_wide"] (defScope (topS 39)) := ⟨rfl, rfl, rfl, by decide +kernel, rfl, by decide +kernel, by decide +kernel⟩
theorem ok_l_green {f : Addr} {fd : FuncData} (T : Blt mg) (C : LCo P w K mg base) (F : Fun K "_law_green" "_law_green" (topS 39) f fd) : FnOk P w K mg base CX0 2 f fd ["_law_wide"] (sp1L preSq greens) := by
  refine F.ok sc_l_green (fun vs H Q E h => ?_) (fun cdv A outer s H vs Q E hr h => ⟨_, lzS _, ?_⟩)
  · obtain ⟨v, x, rfl, _⟩ := h
    rfl
  · obtain ⟨v0, W, rfl, r0, ⟨n, wf, hn8⟩, q⟩ := h
    have nd := sc_l_green.nd
    have hcl : (colsC W).length = n := by unfold colsC; rw [List.length_map, upto_len, wf.wid]
    refine sret (comp2f (i := 1) (j := 2) (p := fun x : Int × Col => grnI W x.1) (f := fun x => x.1) rfl nd (by decide) (by kernel_rfl) (wenumE T.enumerate (lc1 C hr (xv 0 r0) ⟨n, wf, hn8⟩)) ?_ (fun k x hx v u H6 s6 r7 r8 _ _ _ _ _ => ?_) fun k x hx hp v u H6 s6 r7 r8 _ _ _ _ _ => xv 1 r7).ev fun v H2 s2 ⟨p, e, np, l⟩ => ?_
    · rw [enumd_len, hcl]; exact len40 (by omega)
    · obtain ⟨e1, hc⟩ := enumd_get hx
      obtain ⟨x1, c⟩ := x
      dsimp only at e1 hc r8 ⊢
      subst e1
      have hk : k < n := by rw [← hcl]; exact lt_get hc
      have ec : c = Col.mk (colOf W k) := by
        unfold colsC at hc
        rw [List.getElem?_map] at hc
        obtain ⟨z, hz, rfl⟩ := Option.map_eq_some_iff.mp hc
        obtain ⟨_, rfl⟩ := upto_get hz
        rfl
      subst ec
      obtain ⟨mx, h1, h2⟩ := ints_max (colOf W k) (fun e => by
        have := colOf_len wf k
        rw [e] at this
        have := wf.one
        simp at *
        omega)
      exact (tgt (xmaxC rfl T.max (xv 2 r8) h1 h2) xi).as (grn_max wf h1 h2)
    · subst e
      refine q p H2 s2 np ?_
      rw [enum_filter (colsC W) (grnI W), hcl] at l
      unfold greens
      rw [wf.wid]
      exact l
theorem sc_l_full : FnScope ["_law_board_here", "_law_row", "_law_wide", "_law_at"] ["_law_board_here", "_law_row"] (defScope (topS 45)) := ⟨rfl, rfl, rfl, by decide +kernel, rfl, by decide +kernel, by decide +kernel⟩
theorem ok_l_full {f : Addr} {fd : FuncData} (T : Blt mg) (C1 : LUn P w K mg base) (C2 : LGr P w K mg base) (C3 : LSw P w K mg base) (F : Fun K "_law_full" "_law_full" (topS 45) f fd) : FnOk P w K mg base CX0 3 f fd ["_law_board_here", "_law_row"] (sp2 preWalk fullRow) := by
  refine F.ok sc_l_full (fun vs H Q E h => ?_) (fun cdv A outer s H vs Q E hr h => ⟨_, lzS _, ?_⟩)
  · obtain ⟨v, u, x, y, rfl, _⟩ := h
    rfl
  · obtain ⟨v0, v1, b, r, rfl, r0, r1, ⟨n, m, ob, pl, hl⟩, q⟩ := h
    have nd := sc_l_full.nd
    have hu := hr.units
    have n8 := ob.n8
    refine sset 2 nd (xc1 C1 (hr.mono (by omega)) (xv 0 r0) ob.preB) fun v2 H1 s1 r2 => ?_
    refine sfor rfl PassesOwn.never (wtup (xv 1 (Rep.up s1 r1))) (pg_name (i := 3) nd rfl (.inl rfl)) fun Hb src s2 sc _ => ?_
    subst sc
    have s12 := s1.trans s2
    refine ⟨fun i σ H' => ∃ x2 x3, σ = [some v0, some v1, some x2, x3] ∧ Same Hb H' ∧ Rep.rep H' x2 (behind b (r.take i)) ∧ greenRow (unitB b) (r.take i) = true, ⟨_, _, rfl, .refl _, Rep.up s2 r2, rfl⟩, fun i σ H' h => ?_, fun i x σ H' hx h v H3 s3 r3 => ?_, fun σ H' h => ?_⟩
    · obtain ⟨_, _, _, k, _⟩ := h
      exact kp0 k
    · obtain ⟨x2, x3, rfl, k, q2, hg⟩ := h
      obtain ⟨j, rfl, hj⟩ := pl x (get_mem hx)
      have hi := lt_get hx
      have wfb := ob.wf.behind (r.take i)
      have e1 : r.take (i + 1) = r.take i ++ [(j : Int)] := take_snoc hx
      have ft : Fit 0 (behind b (r.take i)) := Fit.swBy _ (ob.unit (by rw [List.length_take]; omega))
      show WS _ _ _ _ _
      refine sif (tnin (xv 3 r3) (EL.o (lc1 C2 hr (xv 2 (Rep.up s3 q2)) ⟨n, wfb, n8⟩))) (fun ht H4 s4 => ?_) (fun ht H4 s4 => wnil ?_)
      · have hng : grnI (behind b (r.take i)) (j : Int) = false := by
          cases c : grnI (behind b (r.take i)) (j : Int) with
          | false => rfl
          | true =>
            rw [decide_eq_true ((mem_greens wfb).mpr ⟨⟨j, rfl, hj⟩, c⟩)] at ht
            cases ht
        refine sret (xb (i := false)) fun v5 H5 s5 r5 => q v5 H5 (((((s12.trans k).trans s3).trans s4).trans s5)) ?_
        have hf : fullRow b r = false := by
          unfold fullRow
          have : greenRow (unitB b) r = false := by
            have e2 : r = (r.take i ++ [(j : Int)]) ++ r.drop (i + 1) := by rw [← e1, List.take_append_drop]
            rw [e2, greenRow_append, greenRow_append, hg]
            show ((true && (grnI (behind b (r.take i)) (j : Int) && true)) && _) = false
            rw [hng]; rfl
          rw [this]; rfl
        rw [hf]; exact r5
      · have hng : grnI (behind b (r.take i)) (j : Int) = true := by
          refine ((mem_greens wfb).mp (Classical.byContradiction fun z => ?_)).2
          rw [decide_eq_false z] at ht
          cases ht
        have s34 := s3.trans s4
        refine sset 2 nd (xc2 C3 (hr.mono (by omega)) (xv 2 (Rep.up s34 q2)) (xv 3 (Rep.up s4 r3)) (preSwap.of wfb hj ft (by omega))) fun v5 H5 s5 r5 => wnil ⟨_, _, rfl, (k.trans s34).trans s5, ?_, ?_⟩
        · rw [e1, behind_snoc]; exact r5
        · rw [e1, greenRow_append, hg]
          show (true && (grnI (behind b (r.take i)) (j : Int) && true)) = true
          rw [hng]; rfl
    · obtain ⟨x2, x3, rfl, k, q2, hg⟩ := h
      rw [List.take_length] at q2 hg
      refine sret (xeqL hu (EL.o (lc1 C2 hr (xv 2 q2) ⟨n, ob.behind r, n8⟩)) (EL.o (lnil (α := Int)))) fun v5 H5 s5 r5 => q v5 H5 ((s12.trans k).trans s5) ?_
      unfold fullRow
      rw [hg]
      exact r5
end
end Nh
set_option Elab.async false
set_option linter.all false
set_option maxRecDepth 100000
set_option maxHeartbeats 4000000
namespace Nh
open PySem PySem.Spec PyProof.Rows L2
/-- columns that are minus units -/
def Unl (W : Bd) : Prop := ∀ c, c ∈ colsC W → c.xs.Perm (-1 :: List.replicate (wid W - 1) 0)
def preOrd (b : Bd) (r : List Int) : Prop := preWalk b r ∧ Unl (behind b r)
def orderI (b : Bd) (r : List Int) : List Int := orderOf (behind b r)
theorem sorted_unit {k : Nat} {ns xs : List Int} (h1 : ns.Perm xs) (h2 : ns.Pairwise (· ≤ ·)) (hx : xs.Perm (-1 :: List.replicate k 0)) : ns = -1 :: List.replicate k 0 := by
  refine List.Perm.eq_of_pairwise (le := (· ≤ ·)) (fun a b _ _ h h' => Int.le_antisymm h h') h2 ?_ (h1.trans hx)
  refine List.pairwise_cons.mpr ⟨fun y hy => ?_, ?_⟩
  · rw [List.eq_of_mem_replicate hy]; decide
  · exact List.pairwise_replicate.mpr (.inr (Int.le_refl _))
section
variable {P : Program} {w : World} {K : PySem.W.Frag} {mg : Str → Option Value} {base : Heap}
theorem sc_l_order : FnScope ["_law_board_here", "_law_row", "_law_wide", "_law_at", "_law_columns_here", "_law_column"] ["_law_board_here", "_law_row"] (defScope (topS 42)) := ⟨rfl, rfl, rfl, by decide +kernel, rfl, by decide +kernel, by decide +kernel⟩
theorem ok_l_order {f : Addr} {fd : FuncData} (T : Blt mg) (C1 : LUn P w K mg base) (C2 : LCo P w K mg base) (C3 : LSw P w K mg base) (F : Fun K "_law_order" "_law_order" (topS 42) f fd) : FnOk P w K mg base CX0 2 f fd ["_law_board_here", "_law_row"] (sp2 preOrd orderI) := by
  refine F.ok sc_l_order (fun vs H Q E h => ?_) (fun cdv A outer s H vs Q E hr h => ⟨_, lzS _, ?_⟩)
  · obtain ⟨v, u, x, y, rfl, _⟩ := h
    rfl
  · obtain ⟨v0, v1, b, r, rfl, r0, r1, ⟨⟨n, m, ob, pl, hl⟩, un⟩, q⟩ := h
    have nd := sc_l_order.nd
    have hu := hr.units
    have n8 := ob.n8
    have n1 := ob.wf.one
    refine sset 2 nd (xc1 C1 hr (xv 0 r0) ob.preB) fun v2 H1 s1 r2 => ?_
    refine sfor rfl PassesOwn.never (wtup (xv 1 (Rep.up s1 r1))) (pg_name (i := 3) nd rfl (.inl rfl)) fun Hb src s2 sc _ => ?_
    subst sc
    have s12 := s1.trans s2
    refine ⟨fun i σ H' => ∃ x2 x3, σ = [some v0, some v1, some x2, x3, none, none] ∧ Same Hb H' ∧ Rep.rep H' x2 (behind b (r.take i)), ⟨_, _, rfl, .refl _, Rep.up s2 r2⟩, fun i σ H' h => ?_, fun i x σ H' hx h v H3 s3 r3 => ?_, fun σ H' h => ?_⟩
    · obtain ⟨_, _, _, k, _⟩ := h
      exact kp0 k
    · obtain ⟨x2, x3, rfl, k, q2⟩ := h
      obtain ⟨j, rfl, hj⟩ := pl x (get_mem hx)
      have hi := lt_get hx
      have e1 : r.take (i + 1) = r.take i ++ [(j : Int)] := take_snoc hx
      have ft : Fit 0 (behind b (r.take i)) := Fit.swBy _ (ob.unit (by rw [List.length_take]; omega))
      show WS _ _ _ _ _
      refine sset 2 nd (xc2 C3 hr (xv 2 (Rep.up s3 q2)) (xv 3 r3) (preSwap.of (ob.wf.behind _) hj ft (by omega))) fun v5 H5 s5 r5 => wnil ⟨_, _, rfl, (k.trans s3).trans s5, ?_⟩
      rw [e1, behind_snoc]; exact r5
    · obtain ⟨x2, x3, rfl, k, q2⟩ := h
      rw [List.take_length] at q2
      refine sset 4 nd (lc1 C2 hr (xv 2 q2) ⟨n, ob.behind r, n8⟩) fun v4 H4 s4 r4 => ?_
      obtain ⟨p4, rfl, n4, l4⟩ := r4
      have hcl : (colsC (behind b r)).length = n := by unfold colsC; rw [List.length_map, upto_len, (ob.behind r).wid]
      have hw : wid (behind b r) = n := (ob.behind r).wid
      refine sif (t := false) (ET.as (tneL hu (CL.o (comp1f (i := 5) (p := fun _ : Col => false) (f := fun c => c) rfl nd (by kernel_rfl) (wlst l4 (xw 4)) (by rw [hcl]; exact len40 (by omega)) (fun k' c hc v H6 s6 r6 _ _ _ _ _ => ?_) fun k' c hc hp v H6 s6 r6 _ _ _ _ _ => xv 5 r6)) (EL.o (lnil (α := Col)))) ?_) (fun e => nomatch e) fun _ H5 s5 => wnil ?_
      · have hperm := un c (get_mem hc)
        rw [hw] at hperm
        refine ET.as (tneL hu (EL.o (lsortC T.sorted (xv 5 r6) (ms := -1 :: List.replicate (n - 1) 0) fun ns' h3 h4 => sorted_unit h3 h4 hperm)) (EL.o (lcat (EL.o (lone (xneg xi))) (EL.o (lrep (k := n - 1) (EL.o (lone xi)) ((xsub (xlenO T.len (xo 4 (l4.up s6))) xi).as (by rw [hcl]; omega)) (by omega) (by show 1 * (n - 1) ≤ _; exact len40 (by omega)))) ?_))) ?_
        · rw [flat_one, List.length_replicate]
          show 1 + (n - 1) ≤ _
          exact len40 (by omega)
        · rw [flat_one]
          show (!decide (-1 :: List.replicate (n - 1) (0 : Int) = -1 :: List.replicate (n - 1) 0)) = false
          rw [decide_eq_true rfl]; rfl
      · have e0 : List.map (fun c : Col => c) ((colsC (behind b r)).filter fun _ => false) = [] := by rw [List.filter_eq_nil_iff.mpr fun _ _ => Bool.false_ne_true]; rfl
        rw [e0, decide_eq_true rfl]; rfl
      · refine sret (xtupE T.tuple (comp1 (i := 5) (f := fun c : Col => (c.xs.idxOf (-1) : Int)) rfl nd (by kernel_rfl) (wlst (l4.up s5) (xw 4)) (by rw [hcl]; exact len40 (by omega)) fun k' c hc v H6 s6 r7 _ _ _ _ _ => xidx (xv 5 r7) (xneg xi) ?_).ev) fun v H6 s6 r6 => q v H6 ((((s12.trans k).trans s4).trans s5).trans s6) r6
        exact (un c (get_mem hc)).mem_iff.mpr (List.mem_cons_self ..)
end
end Nh
set_option Elab.async false
set_option linter.all false
set_option maxRecDepth 100000
set_option maxHeartbeats 4000000
namespace Nh
open PySem PySem.Spec PyProof.Rows L2
/-! ### _law_fits: some answer -/
def mxs : List Int → Int
  | [] => 0
  | [x] => x
  | x :: y :: r => max x (mxs (y :: r))
theorem mxs_mem : ∀ xs : List Int, xs ≠ [] → mxs xs ∈ xs
  | [], h => absurd rfl h
  | [x], _ => List.mem_singleton.mpr rfl
  | x :: y :: r, _ => by
    show max x (mxs (y :: r)) ∈ _
    have ih := mxs_mem (y :: r) (List.cons_ne_nil _ _)
    by_cases h : x ≤ mxs (y :: r)
    · rw [Int.max_eq_right h]; exact List.mem_cons_of_mem _ ih
    · rw [Int.max_eq_left (by omega)]; exact List.mem_cons_self ..
theorem mxs_le : ∀ xs : List Int, ∀ y, y ∈ xs → y ≤ mxs xs
  | [], y, h => absurd h List.not_mem_nil
  | [x], y, h => by rw [List.mem_singleton.mp h]; exact Int.le_refl _
  | x :: z :: r, y, h => by
    show y ≤ max x (mxs (z :: r))
    rcases List.mem_cons.mp h with e | e
    · rw [e]; exact Int.le_max_left _ _
    · exact Int.le_trans (mxs_le (z :: r) y e) (Int.le_max_right _ _)
/-- the greatest entry of a table -/
def mxb (b : Bd) : Int := mxs (b.map fun line => mxs (line.map fun e => (e.natAbs : Int)))
section
variable {X : Cx} {σ : L2.St} {H : Hp} {a e : Expr} {pos p : Pos}
theorem xmaxM {xs : List Int} (hc : X.calm = true) (hm : X.mg "max" = none) (ha : EL X σ H a xs) (h0 : xs ≠ []) (na : Ns X a := by intro _; rfl) (hg : Gl X "max" := by rfl) : Ex X σ H (.Call (.Name "max" p) [a] [] pos) (mxs xs) :=
  xmaxE hc hm ha (mxs_mem xs h0) (mxs_le xs) na hg
end
def spAnyB : Sp := fun vs H Q _ => ∃ (v0 v1 : V) (b : Bd) (r : List Int), vs = [v0, v1] ∧ Rep.rep H v0 b ∧ Rep.rep H v1 r ∧ preWalk b r ∧ ∀ (t : Bool) H', Same H H' → Q (.bl t) H'
/-- the numbers at the places -/
structure Wo (n : Nat) (ws : List Int) : Prop where
  len : ws.length = n
  nn : ∀ x, x ∈ ws → 0 ≤ x ∧ x ≤ 150
theorem Wo.at {n : Nat} {ws : List Int} (h : Wo n ws) {i : Nat} (hi : i < n) : ws[i]? = some (fa ws i) ∧ 0 ≤ fa ws i ∧ fa ws i ≤ 150 := by
  have h1 : ws[i]? = some (fa ws i) := by
    unfold fa
    exact get_getD (by rw [h.len]; exact hi)
  exact ⟨h1, h.nn _ (List.mem_of_getElem? h1)⟩
theorem Wo.cut {n : Nat} {ws : List Int} (h : Wo n ws) {i : Nat} (hi : i < n) {x : Int} (hx : 0 ≤ x ∧ x ≤ 150) : Wo n (ws.take i ++ [x] ++ ws.drop (i + 1)) := by
  refine ⟨?_, fun y hy => ?_⟩
  · rw [List.length_append, List.length_append, List.length_take, List.length_drop, h.len]
    show min i n + 1 + (n - (i + 1)) = n
    omega
  · rcases List.mem_append.mp hy with z | z
    · rcases List.mem_append.mp z with z | z
      · exact h.nn y (List.mem_of_mem_take z)
      · rw [List.mem_singleton.mp z]; exact hx
    · exact h.nn y (List.mem_of_mem_drop z)
theorem Wf.table {n m : Nat} {b : Bd} (h : Wf n m b) : Wf n n (b.take n) := ⟨h.one, Nat.le_refl _, by rw [List.length_take, h.len]; exact Nat.min_eq_left h.le, fun r hr => h.row r (List.mem_of_mem_take hr)⟩
theorem Bits.take {B : Nat} {b : Bd} (h : Bits B b) (k : Nat) : Bits B (b.take k) := fun r hr => h r (List.mem_of_mem_take hr)
theorem pow2_le {a b : Nat} (h : a ≤ b) : (2 : Int) ^ a ≤ 2 ^ b := by
  have h1 : ((2 ^ a : Nat) : Int) ≤ ((2 ^ b : Nat) : Int) := Int.ofNat_le.mpr (Nat.pow_le_pow_right (by decide) h)
  rw [Int.natCast_pow, Int.natCast_pow] at h1
  exact h1
theorem kpS {Hb H : Hp} {src : Option Addr} (s : Same Hb H) (n : ∀ p, src = some p → ∃ us, Hb p = some (.lst us)) : Kp Hb src H := ⟨tk_of s, fun p e => by
  obtain ⟨us, h⟩ := n p e
  rw [h]; exact s p _ h⟩
section
variable {P : Program} {w : World} {K : PySem.W.Frag} {mg : Str → Option Value} {base : Heap}
theorem sc_l_fits : FnScope ["_law_board_here", "_law_row", "_law_many", "_law_table", "_law_worths", "_law_at", "_law_total", "_law_sign", "_law_made", "_law_other", "_law_times", "_law_again", "_law_entry", "_law_line"] ["_law_board_here", "_law_row"] (defScope (topS 36)) := ⟨rfl, rfl, rfl, by decide +kernel, rfl, by decide +kernel, by decide +kernel⟩
theorem ok_l_fits {f : Addr} {fd : FuncData} (T : Blt mg) (C3 : LSw P w K mg base) (F : Fun K "_law_fits" "_law_fits" (topS 36) f fd) : FnOk P w K mg base CX0 2 f fd ["_law_board_here", "_law_row"] spAnyB := by
  refine F.ok sc_l_fits (fun vs H Q E h => ?_) (fun cdv A outer s H vs Q E hr h => ⟨_, lzS _, ?_⟩)
  · obtain ⟨v, u, x, y, rfl, _⟩ := h
    rfl
  · obtain ⟨v0, v1, b, r, rfl, r0, r1, ⟨n, m, ob, pl, hl⟩, q⟩ := h
    have nd := sc_l_fits.nd
    have n8 := ob.n8
    have n1 := ob.wf.one
    have hnm := ob.wf.le
    have hm := ob.m
    have wt := ob.wf.table
    have ftT : Fit 17 (b.take n) := ⟨400, ob.bits.take n, by decide⟩
    refine spar 2 3 rfl nd (xwid ob.wf T.len (xv 0 r0)) ((xslU (xv 0 r0) (xwid ob.wf T.len (xv 0 r0))).as (cut_to _ (by rw [ob.wf.len]; exact hnm))) fun v2 v3 H1 H2 s1 r2 s2 r3 => ?_
    have e2 : v2 = V.int (n : Int) := r2
    subst e2
    have s12 := s1.trans s2
    refine sset 4 nd ((lrep (EL.o (lone xi)) (xv 2 (d := (n : Int)) rfl) (by omega) (by show 1 * n ≤ _; exact len40 (by omega))).as (flat_one n)) fun v4 H3 s3 r4 => ?_
    obtain ⟨p4, rfl, n4, l4⟩ := r4
    have s13 := s12.trans s3
    refine sfor rfl PassesOwn.never (wtup (xv 1 (Rep.up s13 r1))) (pg_name (i := 5) nd rfl (.inl rfl)) fun Hb src s4 sc _ => ?_
    subst sc
    have s14 := s13.trans s4
    refine ⟨fun i σ H' => ∃ x3 p4 ws x5 x6 x7 x8 x9 x10 x11, σ = [some v0, some v1, some (.int (n : Int)), some x3, some (.ref p4), x5, x6, x7, x8, x9, x10, x11, none, none] ∧ Same Hb H' ∧ Rep.rep H' x3 (swBy (b.take n) (r.take i)) ∧ LsR H' p4 ws ∧ Wo n ws,
      ⟨v3, p4, List.replicate n 1, _, _, _, _, _, _, _, rfl, .refl _, Rep.up (s3.trans s4) r3, l4.up s4, ⟨List.length_replicate .., fun x hx => by rw [List.eq_of_mem_replicate hx]; decide⟩⟩, fun i σ H' h => ?_, fun i x σ H' hx h v H5 s5 r5 => ?_, fun σ H' h => ?_⟩
    · obtain ⟨_, _, _, _, _, _, _, _, _, _, _, k, _⟩ := h
      exact kp0 k
    · obtain ⟨x3, p4, ws, x5, x6, x7, x8, x9, x10, x11, rfl, k, q3, l, W⟩ := h
      obtain ⟨j, rfl, hj⟩ := pl x (get_mem hx)
      have e5 : v = V.int (j : Int) := r5
      subst e5
      have hi := lt_get hx
      have wfT := wt.swBy (r.take i)
      have ft : Fit 1 (swBy (b.take n) (r.take i)) := Fit.swBy _ (ftT.mono (by rw [List.length_take]; omega))
      generalize hT : swBy (b.take n) (r.take i) = Tb at *
      have kk := k.trans s5
      replace q3 := Rep.up s5 q3
      replace l := l.up s5
      have ret : ∀ (t : Bool) {j' : Nat} {pos' : Pos} {D : Ends} {rest : List Stmt} {ps : Pos} {σ : L2.St} {H7 : Hp}, D.rt = Q → Same H H7 → WS (cxOf CX0 P w K mg base ["_law_board_here", "_law_row", "_law_many", "_law_table", "_law_worths", "_law_at", "_law_total", "_law_sign", "_law_made", "_law_other", "_law_times", "_law_again", "_law_entry", "_law_line"] "_law_fits" (defScope (topS 36)) f cdv A outer s H E).nox (.Return (some (.Constant (.bool t) j' pos')) ps :: rest) D σ H7 := fun t {j' pos' D rest ps σ H7} eD ss =>
        sret xb fun v' H8 s8 r8 => by
          have e : v' = V.bl t := r8
          rw [eD, e]
          exact q t H8 (ss.trans s8)
      have hrowN : ∀ line, line ∈ Tb → line ≠ [] := fun line hl e => by
        have := wfT.row line hl
        rw [e] at this
        simp at this
        omega
      have tlen : Tb.length ≤ sizeLine := by rw [wfT.len]; exact len40 (by omega)
      obtain ⟨B, bb, hB⟩ := (ft.mono (Nat.zero_le 1)).small
      show WS _ _ _ _ _
      refine sif (tgt (xmaxM rfl T.max (comp1 (i := 13) (f := fun line : List Int => mxs (line.map fun e => (e.natAbs : Int))) rfl nd (by kernel_rfl) (wtup (xv 3 q3)) tlen fun k' line hline v' H6 s6 r6 _ _ _ _ _ => ?_).ev ?_) xi) (fun ht H6 s6 => ret false rfl ((s14.trans kk).trans s6)) (fun ht H6 s6 => wnil ?_)
      · have ll := wfT.row line (get_mem hline)
        refine xmaxM rfl T.max (comp1 (i := 12) (f := fun e : Int => (e.natAbs : Int)) rfl nd (by kernel_rfl) (wtup (xv 13 r6)) (by rw [ll]; exact len40 (by omega)) fun k2 e he v2' H7 s7 r7 _ _ _ _ _ => xabs T.abs (xv 12 r7)).ev ?_
        intro z
        exact hrowN line (get_mem hline) (List.map_eq_nil_iff.mp z)
      · intro z
        have := wfT.len
        rw [List.map_eq_nil_iff.mp z] at this
        simp at this
        omega
      · have k6 := kk.trans s6
        replace q3 := Rep.up s6 q3
        replace l := l.up s6
        refine sset 6 nd xi fun v6 H7 s7 r7 => ?_
        have e6 : v6 = V.int 0 := r7
        subst e6
        replace q3 := Rep.up s7 q3
        replace l := l.up s7
        have k7 := k6.trans s7
        refine sfor rfl PassesOwn.never (wlstE (llist (xs := [(1 : Int), -1]) (.cons (by intro _; rfl) xi (.cons (by intro _; rfl) (xneg xi) .nil)) (by decide))) (pg_name (i := 7) nd rfl (.inl rfl)) fun Hc src s8 sc there => ?_
        obtain ⟨b2, hT2⟩ : ∃ z : Nat, z = 1 := ⟨1, rfl⟩
        replace q3 := Rep.up s8 q3
        replace l := l.up s8
        have k8 := k7.trans s8
        refine ⟨fun i2 σ H' => ∃ x7 x8 x9 x10 x11 tot, σ = [some v0, some v1, some (.int (n : Int)), some x3, some (.ref p4), some (.int (j : Int)), some (.int tot), x7, x8, x9, x10, x11, none, none] ∧ Same Hc H' ∧ (i2 : Int) ≤ tot ∧ tot ≤ i2 * 2 ^ 1300,
          ⟨_, _, _, _, _, 0, rfl, .refl _, Int.le_refl _, by omega⟩, fun i2 σ H' h => ?_, fun i2 x σ H' hx2 h v' H9 s9 r9 => ?_, fun σ H' h => ?_⟩
        · obtain ⟨_, _, _, _, _, _, _, z, _⟩ := h
          exact kpS z there
        · obtain ⟨x7, x8, x9, x10, x11, tot, rfl, z, t1, t2⟩ := h
          have e7 : v' = V.int x := r9
          subst e7
          have hx1 : x.natAbs < 2 ^ 1 := by
            have hm := get_mem hx2
            rcases List.mem_cons.mp hm with e | e
            · rw [e]; decide
            · rw [List.mem_singleton.mp e]; decide
          show WS _ _ _ _ _
          refine sset 8 nd xi fun v8 H10 s10 r10 => ?_
          have e8 : v8 = V.int 1 := r10
          subst e8
          have z10 := (z.trans s9).trans s10
          refine sfor rfl PassesOwn.never (wrng T.range (xv 2 (d := (n : Int)) rfl) (by omega)) (pg_name (i := 9) nd rfl (.inl rfl)) fun Hd src2 s11 sc2 _ => ?_
          subst sc2
          refine ⟨fun k' σ H' => ∃ x9 x10 x11 mk, σ = [some v0, some v1, some (.int (n : Int)), some x3, some (.ref p4), some (.int (j : Int)), some (.int tot), some (.int x), some (.int mk), x9, x10, x11, none, none] ∧ Same Hd H' ∧ 1 ≤ mk ∧ mk ≤ 2 ^ (160 * k'),
            ⟨_, _, _, 1, rfl, .refl _, Int.le_refl _, Int.le_refl _⟩, fun k' σ H' h => ?_, fun k' y σ H' hy h v9 H12 s12 r12 => ?_, fun σ H' h => ?_⟩
          · obtain ⟨_, _, _, _, _, zz, _⟩ := h
            exact kp0 zz
          · obtain ⟨x9, x10, x11, mk, rfl, zz, m1, m2⟩ := h
            obtain ⟨hk', rfl⟩ := upto_get hy
            have e9 : v9 = V.int (k' : Int) := r12
            subst e9
            have z12 := ((z10.trans s11).trans zz).trans s12
            have q12 := Rep.up z12 q3
            have l12 := l.up z12
            obtain ⟨trow, htrow⟩ := get_lt (l := Tb) (i := k') (by rw [wfT.len]; exact hk')
            obtain ⟨w1, w2, w3⟩ := W.at hk'
            have be := bb.at k' j
            show WS _ _ _ _ _
            refine sset 10 nd (xmax2 rfl T.max xi (xmul (xv 7 (d := x) rfl) (xit (xit (xv 3 q12) (xv 9 (d := (k' : Int)) rfl) (atI_nat htrow)) (xv 5 (d := (j : Int)) rfl) (atI_nat (wfT.get htrow hj))) (mulx_ok hx1 be (by omega)))) fun v10 H13 s13 r13 => ?_
            obtain ⟨tm, htm⟩ : ∃ tm : Nat, max 0 (x * at2 Tb k' j) = (tm : Int) := ⟨(max 0 (x * at2 Tb k' j)).toNat, by omega⟩
            rw [htm] at r13
            have e10 : v10 = V.int (tm : Int) := r13
            subst e10
            have l13 := l12.up s13
            refine sif (tand (tgt (xil l13 (xw 4) (xv 9 (d := (k' : Int)) rfl) (atI_nat w1)) xi) fun _ => tgt (xv 10 (d := (tm : Int)) rfl) xi) (fun ht H14 s14' => ret false rfl ?_) (fun ht H14 s14' => wnil ?_)
            · exact (((s14.trans k8).trans z12).trans s13).trans s14'
            · have l14 := l13.up s14'
              have hcnt : (if decide (1 < fa ws k') = true then tm else 0) ≤ 20 := by
                by_cases c : 1 < fa ws k'
                · rw [decide_eq_true c, if_pos rfl]
                  rw [decide_eq_true c, Bool.true_and] at ht
                  have := of_decide_eq_false ht
                  omega
                · rw [decide_eq_false c, if_neg Bool.false_ne_true]; omega
              have z14 := (zz.trans s12).trans (s13.trans s14')
              refine sfor rfl PassesOwn.never (wrng (n := if decide (1 < fa ws k') = true then tm else 0) T.range (xif (t := decide (1 < fa ws k')) (tgt (xil l14 (xw 4) (xv 9 (d := (k' : Int)) rfl) (atI_nat w1)) xi) (fun c => by rw [c, if_pos rfl]; exact xv 10 (d := (tm : Int)) rfl) (fun c => by rw [c, if_neg Bool.false_ne_true]; exact xi)) (by omega)) (pg_name (i := 11) nd rfl (.inl rfl)) fun He src3 s15 sc3 _ => ?_
              subst sc3
              refine ⟨fun t σ H' => ∃ x11 mk, σ = [some v0, some v1, some (.int (n : Int)), some x3, some (.ref p4), some (.int (j : Int)), some (.int tot), some (.int x), some (.int mk), some (.int (k' : Int)), some (.int (tm : Int)), x11, none, none] ∧ Same He H' ∧ 1 ≤ mk ∧ mk ≤ 2 ^ (160 * k' + 8 * t),
                ⟨_, mk, rfl, .refl _, m1, m2⟩, fun t σ H' h => ?_, fun t y σ H' hy2 h v11 H16 s16 r16 => ?_, fun σ H' h => ?_⟩
              · obtain ⟨_, _, _, zz, _⟩ := h
                exact kp0 zz
              · obtain ⟨x11, mk, rfl, zz2, m1, m2⟩ := h
                obtain ⟨ht', rfl⟩ := upto_get hy2
                have hw1 : 1 < fa ws k' := by
                  by_cases c : 1 < fa ws k'
                  · exact c
                  · rw [decide_eq_false c, if_neg Bool.false_ne_true] at ht'
                    exact absurd ht' (Nat.not_lt_zero _)
                have hpw : (2 : Int) ^ (160 * k' + 8 * (t + 1)) = 2 ^ (160 * k' + 8 * t) * 256 := by
                  rw [show 160 * k' + 8 * (t + 1) = (160 * k' + 8 * t) + 8 by omega, Int.pow_add]; rfl
                have p0 : (0 : Int) < 2 ^ (160 * k' + 8 * t) := Int.pow_pos (by decide)
                have nb : mk.natAbs < 2 ^ (160 * k' + 8 * t + 1) := by
                  have e : ((2 ^ (160 * k' + 8 * t) : Nat) : Int) = (2 : Int) ^ (160 * k' + 8 * t) := by rw [Int.natCast_pow]; rfl
                  rw [Nat.pow_succ]
                  omega
                show WS _ _ _ _ _
                refine sset 8 nd (xmul (xv 8 (d := mk) rfl) (xil (l14.up ((s15.trans zz2).trans s16)) (xw 4) (xv 9 (d := (k' : Int)) rfl) (atI_nat w1)) (mulx_ok (b := 8) nb (by omega) (by omega))) fun v8 H17 s17 r17 => ?_
                have e8 : v8 = V.int (mk * fa ws k') := r17
                subst e8
                refine wnil ⟨_, mk * fa ws k', rfl, (zz2.trans s16).trans s17, ?_, ?_⟩
                · have := Int.mul_le_mul m1 (show (1 : Int) ≤ fa ws k' by omega) (by decide) (by omega)
                  omega
                · rw [hpw]
                  exact Int.mul_le_mul m2 (by omega) (by omega) (by omega)
              · obtain ⟨x11, mk, rfl, zz2, m1, m2⟩ := h
                rw [upto_len] at m2
                refine wnil ⟨_, _, _, mk, rfl, (z14.trans s15).trans zz2, m1, Int.le_trans m2 ?_⟩
                exact pow2_le (by omega)
          · obtain ⟨x9, x10, x11, mk, rfl, zz, m1, m2⟩ := h
            rw [upto_len] at m2
            have m3 : mk ≤ 2 ^ 1300 := Int.le_trans m2 (pow2_le (by omega))
            have z13 := (z10.trans s11).trans zz
            refine sset 6 nd (xadd (xv 6 (d := tot) rfl) (xv 8 (d := mk) rfl)) fun v6 H13 s13 r13 => ?_
            have e6 : v6 = V.int (tot + mk) := r13
            subst e6
            refine wnil ⟨_, _, _, _, _, tot + mk, rfl, z13.trans s13, ?_, ?_⟩
            · omega
            · have e : ((i2 + 1 : Nat) : Int) * 2 ^ 1300 = i2 * 2 ^ 1300 + 2 ^ 1300 := by
                rw [Int.natCast_add, Int.add_mul]; rfl
              rw [e]
              exact Int.add_le_add t2 m3
        · obtain ⟨x7, x8, x9, x10, x11, tot, rfl, z, t1, t2⟩ := h
          have t1' : (2 : Int) ≤ tot := t1
          obtain ⟨w1, w2, w3⟩ := W.at hj
          have l9 := l.up z
          have q9 := Rep.up z q3
          refine sif (tgt (xv 6 (d := tot) rfl) (xmul xi (xil l9 (xw 4) (xv 5 (d := (j : Int)) rfl) (atI_nat w1)) (mulx_ok (a := 8) (b := 8) (by decide) (by omega) (by decide)))) (fun ht H10 s10 => ret false rfl (((s14.trans k8).trans z).trans s10)) (fun ht H10 s10 => wnil ?_)
          have ht' := of_decide_eq_false ht
          have wpos : 0 < fa ws j := by omega
          have hdiv : 0 ≤ tot / fa ws j ∧ tot / fa ws j ≤ 150 := by
            refine ⟨Int.ediv_nonneg (by omega) (by omega), ?_⟩
            have : tot / fa ws j < 151 := Int.ediv_lt_of_lt_mul wpos (by omega)
            omega
          have l10 := l9.up s10
          have wl := W.len
          refine sset 4 nd (lcat (xs := ws.take j ++ [tot / fa ws j]) (ys := ws.drop (j + 1)) (EL.o ((lcat (EL.o ((lslU (xo 4 l10) (xv 5 (d := (j : Int)) rfl)).as (cut_to ws (by omega)))) (EL.o (lone (xdiv (xv 6 (d := tot) rfl) (xil l10 (xw 4) (xv 5 (d := (j : Int)) rfl) (atI_nat w1)) (divw_ok (a := 8) wpos (by omega) (by decide))))) (len40 (by rw [List.length_take]; show _ + 1 ≤ _; omega)))))
            (EL.o ((lslL (xo 4 l10) (xadd (xv 5 (d := (j : Int)) rfl) xi)).as (cut_from ws (k := j + 1) (by omega)))) (len40 (by rw [List.length_append, List.length_take, List.length_drop]; show _ + 1 + _ ≤ _; omega))) fun v4 H11 s11 r11 => ?_
          obtain ⟨p4', rfl, n4', l11⟩ := r11
          have q11 := Rep.up (s10.trans s11) q9
          refine sset 3 nd (xc2 C3 hr (xv 3 q11) (xv 5 (d := (j : Int)) rfl) (preSwap.of wfT hj (ft.mono (Nat.zero_le 1)) (by omega))) fun v3' H12 s12 r12 => wnil ⟨_, p4', _, _, _, _, _, _, _, _, rfl, (((k8.trans z).trans s10).trans s11).trans s12, ?_, l11.up s12, W.cut hj hdiv⟩
          rw [take_snoc hx, swBy_append, hT]
          exact r12
    · obtain ⟨x3, p4, ws, x5, x6, x7, x8, x9, x10, x11, rfl, k, q3, l, W⟩ := h
      exact sret (xb (i := true)) fun v' H5 s5 r5 => by
        rw [show v' = V.bl true from r5]
        exact q true H5 ((s14.trans k).trans s5)
end
end Nh
set_option Elab.async false
set_option linter.all false
set_option maxRecDepth 100000
set_option maxHeartbeats 4000000
namespace Nh
open PySem PySem.Spec PyProof.Rows L2
/-! ### _law_alike of equals -/
section
variable {X : Cx} {σ : L2.St} {H : Hp} {a b e : Expr} {pos p : Pos}
theorem tneB {s t : Bool} (hu : X.A.units + 64 < cLine) (ha : Ex X σ H a s) (hb : Ex X σ H b t) (hm : behindInMarks .NotEq b = false := by rfl) : ET X σ H (.Compare a [.NotEq] [b] pos) (!(s == t)) := fun H1 ss Q q =>
  wt (pt_cmpR (op_neD hu) (lzE a) (lzE b) hm) (x2 ha hb ss fun v u H' s' r1 r2 => ⟨.bool s, .bool t, by rw [show v = V.bl s from r1]; exact .bl s, by rw [show u = V.bl t from r2]; exact .bl t, by cases s <;> decide +kernel, by cases t <;> decide +kernel, _, rfl, q _ s'⟩)
end
def spAl0 : Sp := fun vs H Q _ => ∃ i : Int, vs = [.int i, .int i] ∧ ∀ H', Same H H' → Q (.bl true) H'
def AlOk (H : Hp) (v u : V) : Prop := (v = .non ∧ u = .non) ∨ (v = .bl true ∧ u = .bl true) ∨ ∃ xs : List Int, xs.length ≤ 1000 ∧ Rep.rep H v xs ∧ Rep.rep H u xs
def spAl : Sp := fun vs H Q _ => ∃ v u, vs = [v, u] ∧ AlOk H v u ∧ ∀ H', Same H H' → Q (.bl true) H'
section
variable {P : Program} {w : World} {K : PySem.W.Frag} {mg : Str → Option Value} {base : Heap}
theorem sc_l_alike : FnScope ["_law_found", "_law_due", "_law_at"] ["_law_found", "_law_due"] (defScope (topS 40)) := ⟨rfl, rfl, rfl, by decide +kernel, rfl, by decide +kernel, by decide +kernel⟩
theorem ok_l_alike0 {f : Addr} {fd : FuncData} (T : Blt mg) (F : Fun K "_law_alike" "_law_alike" (topS 40) f fd) : FnOk P w K mg base CX0 1 f fd ["_law_found", "_law_due"] spAl0 := by
  refine F.ok sc_l_alike (fun vs H Q E h => ?_) (fun cdv A outer s H vs Q E hr h => ⟨_, lzS _, ?_⟩)
  · obtain ⟨i, rfl, _⟩ := h
    rfl
  · obtain ⟨i, rfl, q⟩ := h
    refine sif (tisNn (R := fun _ _ v => v = V.int i) (fun H1 s Q q => (xw 1) H1 s Q fun v H' s' r => q v H' s' r) fun _ _ _ h e => by rw [h] at e; cases e) (fun e => nomatch e) fun _ H1 s1 => wnil ?_
    refine sif (tisX (R := fun _ _ v => v = V.int i) (fun H1 s Q q => (xw 1) H1 s Q fun v H' s' r => q v H' s' r) fun _ _ _ h => .inr ⟨i, h⟩) (fun e => nomatch e) fun _ H2 s2 => wnil ?_
    refine sif (tisX (R := fun _ _ v => v = V.int i) (fun H1 s Q q => (xw 1) H1 s Q fun v H' s' r => q v H' s' r) fun _ _ _ h => .inr ⟨i, h⟩) (fun e => nomatch e) fun _ H3 s3 => wnil ?_
    refine sif (tv (xisi (R := fun _ _ v => v = V.int i) (M := "int") (N := "int") (r := true) T.isinstance T.int (by decide +kernel) (fun H1 s Q q => (xw 1) H1 s Q fun v H' s' r => q v H' s' r) (fun _ _ v h _ _ => by rw [h]; exact .base (.int i)) (by decide +kernel))) (fun _ H4 s4 => ?_) (fun e => nomatch e)
    refine sret (xand3 (xisi (R := fun _ _ v => v = V.int i) (M := "int") (N := "int") (r := true) T.isinstance T.int (by decide +kernel) (fun H1 s Q q => (xw 0) H1 s Q fun v H' s' r => q v H' s' r) (fun _ _ v h _ _ => by rw [h]; exact .base (.int i)) (by decide +kernel))
      (fun _ => xnot (xisi (R := fun _ _ v => v = V.int i) (M := "int") (N := "bool") (r := false) T.isinstance T.bool (by decide +kernel) (fun H1 s Q q => (xw 0) H1 s Q fun v H' s' r => q v H' s' r) (fun _ _ v h _ _ => by rw [h]; exact .base (.int i)) (by decide +kernel)))
      (fun _ _ => xeq (xv 0 (d := i) rfl) (xv 1 (d := i) rfl))) fun v H5 s5 r5 => ?_
    have e : v = V.bl (true && (!false && decide (i = i))) := r5
    rw [decide_eq_true rfl] at e
    subst e
    exact q H5 ((((s1.trans s2).trans s3).trans s4).trans s5)
theorem ok_l_alike {f : Addr} {fd : FuncData} (T : Blt mg) (C : Cal P w K mg base 1 "_law_alike" ["_law_found", "_law_due"] spAl0) (F : Fun K "_law_alike" "_law_alike" (topS 40) f fd) : FnOk P w K mg base CX0 2 f fd ["_law_found", "_law_due"] spAl := by
  refine F.ok sc_l_alike (fun vs H Q E h => ?_) (fun cdv A outer s H vs Q E hr h => ⟨_, lzS _, ?_⟩)
  · obtain ⟨v, u, rfl, _⟩ := h
    rfl
  · obtain ⟨v0, v1, rfl, h, q⟩ := h
    have nd := sc_l_alike.nd
    have hu := hr.units
    rcases h with ⟨rfl, rfl⟩ | ⟨rfl, rfl⟩ | ⟨xs, hl, r0, r1⟩
    · refine sif (tisNy (R := fun _ _ v => v = V.non) (fun H1 s Q q => (xw 1) H1 s Q fun v H' s' r => q v H' s' r) fun _ _ _ h => h) (fun _ H1 s1 => ?_) (fun e => nomatch e)
      refine sret (xisN (x := (none : Option Int)) (xv 0 rfl)) fun v H2 s2 r2 => ?_
      have e : v = V.bl true := r2
      subst e
      exact q H2 (s1.trans s2)
    · refine sif (tisNn (R := fun _ _ v => v = V.bl true) (fun H1 s Q q => (xw 1) H1 s Q fun v H' s' r => q v H' s' r) fun _ _ _ h e => by rw [h] at e; cases e) (fun e => nomatch e) fun _ H1 s1 => wnil ?_
      refine sif (tisB (t := true) (xv 1 (d := true) rfl)) (fun _ H2 s2 => ?_) (fun e => nomatch e)
      refine sret (xisB (t := true) (xv 0 (d := true) rfl)) fun v H3 s3 r3 => ?_
      have e : v = V.bl true := r3
      subst e
      exact q H3 ((s1.trans s2).trans s3)
    · refine sif (tisNn (xv 1 r1) fun _ _ _ h => NN.nn h) (fun e => nomatch e) fun _ H1 s1 => wnil ?_
      replace r0 := Rep.up s1 r0
      replace r1 := Rep.up s1 r1
      refine sif (tisX (xv 1 r1) fun _ _ _ h => by obtain ⟨a, _, e, _⟩ := h; exact .inl ⟨a, e⟩) (fun e => nomatch e) fun _ H2 s2 => wnil ?_
      replace r0 := Rep.up s2 r0
      replace r1 := Rep.up s2 r1
      refine sif (tisX (xv 1 r1) fun _ _ _ h => by obtain ⟨a, _, e, _⟩ := h; exact .inl ⟨a, e⟩) (fun e => nomatch e) fun _ H3 s3 => wnil ?_
      replace r0 := Rep.up s3 r0
      replace r1 := Rep.up s3 r1
      have tyT : ∀ (H1 H2 : Hp) (v : V), Rep.rep H2 v xs → ∀ H3, Same H2 H3 → TyX K H3 v (.type "tuple") := fun _ H2 v h H3 s => by
        obtain ⟨a, vs, rfl, h1, _⟩ := Rep.up s h
        exact .base (.tup h1)
      refine sif (tv (xisi (M := "tuple") (N := "int") (r := false) T.isinstance T.int (by decide +kernel) (xv 1 r1) tyT (by decide +kernel))) (fun e => nomatch e) fun _ H4 s4 => wnil ?_
      replace r0 := Rep.up s4 r0
      replace r1 := Rep.up s4 r1
      refine sif (t := false) (ET.as (tor (tneB hu (xisi (M := "tuple") (N := "tuple") (r := true) T.isinstance T.tuple (by decide +kernel) (xv 1 r1) tyT (by decide +kernel)) (xisi (M := "tuple") (N := "tuple") (r := true) T.isinstance T.tuple (by decide +kernel) (xv 0 r0) tyT (by decide +kernel)))
        fun _ => tneB hu (xisi (M := "tuple") (N := "list") (r := false) T.isinstance T.list (by decide +kernel) (xv 1 r1) tyT (by decide +kernel)) (xisi (M := "tuple") (N := "list") (r := false) T.isinstance T.list (by decide +kernel) (xv 0 r0) tyT (by decide +kernel))) rfl) (fun e => nomatch e) fun _ H5 s5 => wnil ?_
      replace r0 := Rep.up s5 r0
      replace r1 := Rep.up s5 r1
      refine sret (xand (xeq (xlen T.len (xv 0 r0)) (xlen T.len (xv 1 r1))) fun _ => xeqL hu (CL.o (comp1f (i := 2) (p := fun _ : Int => false) (f := fun c => c) rfl nd (by kernel_rfl) (wrng T.range (xlen T.len (xv 1 r1)) (by omega)) (by rw [upto_len]; exact len40 hl) (fun k x hx v H6 s6 r6 _ _ _ _ _ => ?_) fun k x hx hp v H6 s6 r6 _ _ _ _ _ => xv 2 r6)) (EL.o (lnil (α := Int)))) fun v H6 s6 r6 => ?_
      · obtain ⟨hk, rfl⟩ := upto_get hx
        obtain ⟨y, hy⟩ := get_lt hk
        refine ET.as (tnot (tv (Ex.as (x := true) (fun H7 s7 Q' q' => ?_) rfl))) rfl
        exact (ecall2 (R := fun _ _ v => v = V.bl true) C hr (xit (xv 0 (Rep.up s6 r0)) (xv 2 r6) (atI_nat hy)) (xit (xv 1 (Rep.up s6 r1)) (xv 2 r6) (atI_nat hy)) (fun v u H1 H2 H3 _ s2 r2 s3 r3 Q q => ⟨y, by rw [show v = V.int y from r2, show u = V.int y from r3], fun H' s' => q _ H' ((s2.trans s3).trans s') rfl⟩)) H7 s7 Q' fun v H' s' r => q' v H' s' r
      · rw [List.filter_eq_nil_iff.mpr fun _ _ => Bool.false_ne_true] at r6
        have e : v = V.bl (decide ((xs.length : Int) = xs.length) && decide (List.map (fun c : Int => c) [] = [])) := r6
        rw [decide_eq_true rfl, decide_eq_true (show List.map (fun c : Int => c) [] = [] from rfl)] at e
        subst e
        exact q H6 (((((s1.trans s2).trans s3).trans s4).trans s5).trans s6)
end
end Nh
set_option Elab.async false
set_option linter.all false
set_option maxRecDepth 100000
set_option maxHeartbeats 4000000
namespace Nh
open PySem PySem.Spec PyProof.Rows L2
/-! ### try .. except X as n -/
/-- a def of the text that may raise -/
structure CalR (P : Program) (w : World) (K : PySem.W.Frag) (mg : Str → Option Value) (base : Heap) (k : Nat) (x : Str) (ps : List Str) (sp : Sp) : Prop where
  ex : ∃ (f : Addr) (fd : FuncData), FnOk P w K mg base (L2.CX P w) k f fd ps sp ∧ mg x = some (.ref f) ∧ PySem.W.keepIn K (.ref f) = true ∧ Binds K fd ps []
def tsu (X : Cx) (ss : List Stmt) : Addr → Value → Option Addr → TS := fun a cls d D σ H => ∀ (oe : Obj) (pn : List (Addr × Obj)), Zc cls d oe → (∃ vs, oe.data = .fields vs) → WS (X.suite a ((a, oe) :: pn)) ss D σ H
def tbd (X : Cx) (ss : List Stmt) (W : WX) : TS := fun D σ H => ∀ (pn : List (Addr × Obj)) (xe : Value → Shared → Prop), Takes (X.tr pn xe) W → WS (X.tr pn xe) ss D σ H
section
variable {X : Cx} {σ : L2.St} {H : Hp} {D : Ends} {rest body suite : List Stmt} {b₀ : Stmt} {x n : Str} {c : Value} {np pos pos' : Pos}
theorem stry (i : Nat) (nd : X.N.Nodup) (hc : Names X x c) (h : tbd X body (wAs X.K c i (tsu X (b₀ :: suite)) (fun _ _ _ _ => False) { D with nx := WS X rest D }) { D with nx := WS X rest D } σ H)
    (hs : X.stack = X.env :: X.outer := by rfl) (hf : X.env.frame = some X.env.locals := by rfl) (hi : X.N[i]? = some n := by rfl) (hln : X.env.kindOf n = some .local := by rfl) :
    WS X (.Try body [.ExceptHandler (some (.Name x np)) (some n) (b₀ :: suite) pos'] [] [] pos :: rest) D σ H :=
  wcons (w1 (ps_try_as (i := i) (tb := tbd X body) (ts := tsu X (b₀ :: suite)) (Wout := fun _ _ _ _ => False) hs hf nd hi hln hc takes0 (fun W pn xe tk _ => ⟨fun pins s σ H D I h => (h pn xe tk).run pins s I⟩) (fun a oe cls d pn hz hf => ⟨fun pins s σ H D I h => (h oe pn hz hf).run pins s I⟩)) h)
/-- f(a, b) for its effect, where it may raise -/
theorem sraise2 {a b : Expr} {k : Nat} {f : Str} {ps : List Str} {sp : Sp} {W : WX} {p p2 p3 : Pos} {R1 R2 : Hp → Hp → V → Prop} (C : CalR X.prog X.w X.K X.mg X.base k f ps sp) (hr : Room k X.A) (tk : Takes X W) (ha : EV X σ H a R1) (hb : EV X σ H b R2)
    (h : ∀ v u H1 H2, Same H H1 → R1 H H1 v → Same H1 H2 → R2 H1 H2 u → sp [v, u] H2 (fun _ H' => WS X rest D σ H') (fun cls d H' => W cls d σ H')) (hg : Gl X f := by rfl) (na : Ns X a := by intro _; rfl) (nb : Ns X b := by intro _; rfl)
    (hdb : (f == ("__debug__" : Str)) = false := by decide) (hs : swapsWith (.Call (.Name f p) [a, b] [] p2) none p3.line X.env = pure false := by rfl) : WS X (.Expr (.Call (.Name f p) [a, b] [] p2) p3 :: rest) D σ H := by
  obtain ⟨fa, fd, F, m, kp, bb⟩ := C.ex
  exact wcons (w1 (ps_expr (pe_callS F hr hg m kp bb (fun σ => passAt tk σ) (pa_cons (lzE a) (pa_cons (lzE b) pa_nil (nb _)) (na _)) hdb (na _) (one_any nb)) hs) (ha H (.refl H) _ fun v H1 s1 r1 => hb H1 s1 _ fun u H2 s2 r2 => h v u H1 H2 s1 r1 s2 r2))
end
def preRef (b : Bd) (r : List Int) : Prop := preWalk b r ∧ fullRow b r = false
def trueI (_ : Bd) (_ : List Int) : Bool := true
section
variable {P : Program} {w : World} {K : PySem.W.Frag} {mg : Str → Option Value} {base : Heap}
abbrev LAl (P : Program) (w : World) (K : PySem.W.Frag) (mg : Str → Option Value) (base : Heap) : Prop := Cal P w K mg base 2 "_law_alike" ["_law_found", "_law_due"] spAl
abbrev CLo (P : Program) (w : World) (K : PySem.W.Frag) (mg : Str → Option Value) (base : Heap) (C : Addr) : Prop := CalR P w K mg base 6 "last_order" ["board", "row"] (spLO C)
theorem sc_l_refused : FnScope ["_law_board_here", "_law_row", "_law_found", "e"] ["_law_board_here", "_law_row"] (defScope (topS 43)) := ⟨rfl, rfl, rfl, by decide +kernel, rfl, by decide +kernel, by decide +kernel⟩
theorem ok_l_refused {f C : Addr} {fd : FuncData} (T : Blt mg) (R : RowC P w K mg base C) (C1 : CLo P w K mg base C) (C2 : LAl P w K mg base) (F : Fun K "_law_refused" "_law_refused" (topS 43) f fd) : FnOk P w K mg base CX0 7 f fd ["_law_board_here", "_law_row"] (sp2 preRef trueI) := by
  refine F.ok sc_l_refused (fun vs H Q E h => ?_) (fun cdv A outer s H vs Q E hr h => ⟨_, lzS _, ?_⟩)
  · obtain ⟨v, u, x, y, rfl, _⟩ := h
    rfl
  · obtain ⟨v0, v1, b, r, rfl, r0, r1, ⟨pw, hf⟩, q⟩ := h
    have nd := sc_l_refused.nd
    have hl := pw.choose_spec.choose_spec.2.2
    refine sset 2 nd (lnil (α := Raw)) fun v2 H1 s1 r2 => ?_
    refine stry 3 nd (c := .ref C) ⟨rfl, by decide, .inl R.gC⟩ fun pn xe tk => ?_
    refine sraise2 C1 hr tk (xw 0) (xw 1) fun v u H2 H3 s2 e1 s3 e2 => ?_
    have e1' : v = v0 := e1
    have e2' : u = v1 := e2
    subst e1'; subst e2'
    have s13 := (s1.trans s2).trans s3
    refine ⟨v, u, b, r, rfl, Rep.up s13 r0, Rep.up s13 r1, pw, (fun h => absurd (hf.symm.trans h) Bool.false_ne_true), fun _ d H4 s4 nd4 hd => ⟨true, R.exm, (fun _ a ha oe pn hz hfl => ?_), fun z => nomatch z⟩⟩
    have s14 := s13.trans s4
    refine sset 2 nd (lone (x := Raw.mk u) (fun H5 s5 Q q => we (pe_xf R.xf R.noV hz hfl (lzE _)) ((xw 3) H5 s5 _ fun x H6 s6 e => ⟨e, rfl, d, _, u, rfl, (s5.trans s6) _ _ hd, rfl, q u H6 s6 rfl⟩))) fun v2' H5 s5 r5 => wnil ?_
    obtain ⟨p2, rfl, n2, l2⟩ := r5
    have s15 := s14.trans s5
    refine sret (xand (t := true) (u := true) ((xeq (xlenO T.len (xo 2 l2)) xi).as rfl) fun _ => ecall2 (R := fun _ _ v => v = V.bl true) C2 (hr.mono (by omega)) (xilO (xo 2 l2) xi (y := Raw.mk u) rfl) (xv 1 (Rep.up s15 r1)) fun v5 u5 H6 H7 H8 s6 s7 r7 s8 r8 Q q => ⟨v5, u5, rfl, .inr (.inr ⟨r, by omega, ?_, r8⟩), fun H' s' => q _ H' ((s7.trans s8).trans s') rfl⟩) fun v6 H6 s6 r6 => ?_
    · rw [show v5 = u from r7]
      exact Rep.up (((s15.trans s6).trans s7).trans s8) r1
    · have e : v6 = V.bl true := r6
      subst e
      exact q _ H6 (s15.trans s6) rfl
end
end Nh
set_option Elab.async false
set_option linter.all false
set_option maxRecDepth 100000
set_option maxHeartbeats 4000000
namespace Nh
open PySem PySem.Spec PyProof.Rows L2
/-! ### powers; the stock -/
def CPowX (i j : Int) : Prop := 0 ≤ j ∧ (Builtin.Int.intBits i : Int) * j ≤ 2 ^ 27
theorem op_powX {X : Cx} : OpR X (binaryOp .Pow) (rI CPowX fun i j => .int (i ^ j.toNat)) := opI fun _ _ _ _ _ _ _ hc q => pow_int hc.1 hc.2 q
theorem powx_ok {i : Int} {a k : Nat} (h : i.natAbs < 2 ^ a) (hk : a * k ≤ 134217728) : CPowX i (k : Int) := by
  refine ⟨by omega, ?_⟩
  have h1 : Builtin.Int.intBits i ≤ a := PyProof.Rows.intBits_le h
  have h2 : Builtin.Int.intBits i * k ≤ a * k := Nat.mul_le_mul_right _ h1
  have h3 : ((Builtin.Int.intBits i * k : Nat) : Int) ≤ 134217728 := by omega
  rw [Int.natCast_mul] at h3
  exact h3
section
variable {X : Cx} {σ : L2.St} {H : Hp} {a b e : Expr} {pos p : Pos}
theorem xpow {x : Int} {k : Nat} (ha : Ex X σ H a x) (hb : Ex X σ H b (k : Int)) (hc : CPowX x k) : Ex X σ H (.BinOp a .Pow b pos) (x ^ k) := by
  have h := xop op_powX ha hb hc (pos := pos)
  rw [Int.toNat_natCast] at h
  exact h
end
/-- a stock with n picks to come -/
def Stk (n : Nat) (H : Hp) (a : Addr) : Prop := ∃ x y z : Int, LsR H a [x, y, z] ∧ 0 ≤ x ∧ x.natAbs < 2 ^ 1200000 ∧ 0 ≤ y ∧ y < 2 ^ 100 ∧ 0 ≤ z ∧ z + n ≤ 1000000
theorem Stk.mono {n m : Nat} {H : Hp} {a : Addr} (h : Stk n H a) (hm : m ≤ n) : Stk m H a := by
  obtain ⟨x, y, z, h1, h2, h3, h4, h5, h6, h7⟩ := h
  exact ⟨x, y, z, h1, h2, h3, h4, h5, h6, by omega⟩
theorem Stk.up {n : Nat} {H H' : Hp} {a : Addr} (h : Stk n H a) (s : Same H H') : Stk n H' a := by
  obtain ⟨x, y, z, h1, h2⟩ := h
  exact ⟨x, y, z, h1.up s, h2⟩
theorem Stk.lst {n : Nat} {H : Hp} {a : Addr} (h : Stk n H a) : ∃ vs, H a = some (.lst vs) := by
  obtain ⟨x, y, z, ⟨vs, h1, _⟩, _⟩ := h
  exact ⟨vs, h1⟩
/-- what else is written leaves the stock -/
theorem Stk.but {n : Nat} {H H' : Hp} {a q : Addr} {vs : List V} (h : Stk n H a) (t : But q H H') (hq : H q = some (.lst vs)) (ne : a ≠ q) : Stk n H' a := by
  obtain ⟨x, y, z, h1, h2⟩ := h
  exact ⟨x, y, z, t.ls hq ne h1, h2⟩
def spPick (n : Nat) : Sp := fun vs H Q _ => ∃ (a : Addr) (k : Nat), vs = [.ref a, .int (k : Int)] ∧ Stk (n + 1) H a ∧ 1 ≤ k ∧ k < 2 ^ 64 ∧ ∀ H' (d : Nat), d < k → But a H H' → Stk n H' a → Q (.int (d : Int)) H'
section
variable {P : Program} {w : World} {K : PySem.W.Frag} {mg : Str → Option Value} {base : Heap}
theorem sc_l_pick : FnScope ["_law_stock_here", "_law_many", "_law_digit", "_law_mixed"] ["_law_stock_here", "_law_many"] (defScope (topS 30)) := ⟨rfl, rfl, rfl, by decide +kernel, rfl, by decide +kernel, by decide +kernel⟩
theorem ok_l_pick {f : Addr} {fd : FuncData} (T : Blt mg) (F : Fun K "_law_pick" "_law_pick" (topS 30) f fd) (n : Nat) : FnOk P w K mg base CX0 1 f fd ["_law_stock_here", "_law_many"] (spPick n) := by
  refine F.ok sc_l_pick (fun vs H Q E h => ?_) (fun cdv A outer s H vs Q E hr h => ⟨_, lzS _, ?_⟩)
  · obtain ⟨a, k, rfl, _⟩ := h
    rfl
  · obtain ⟨a, k, rfl, ⟨x, y, z, l, x0, xb', y0, yb, z0, zn⟩, k1, k64, q⟩ := h
    have nd := sc_l_pick.nd
    have kb : (k : Int).natAbs < 2 ^ 64 := by rw [Int.natAbs_natCast]; exact k64
    refine sif (tgt (xil l (xw 0) xi (y := x) rfl) xi) (fun ht H1 s1 => ?_) (fun ht H1 s1 => wnil ?_)
    · have l1 := l.up s1
      refine sset 2 nd (xmod (xint T.int (xil l1 (xw 0) xi (y := x) rfl)) (xv 1 (d := (k : Int)) rfl) (by omega)) fun v2 H2 s2 r2 => ?_
      have l2 := l1.up s2
      obtain ⟨d, hd⟩ : ∃ d : Nat, x % (k : Int) = (d : Int) := ⟨(x % (k : Int)).toNat, by have := Int.emod_nonneg x (show (k : Int) ≠ 0 by omega); omega⟩
      have dk : d < k := by have := Int.emod_lt_of_pos x (show (0 : Int) < k by omega); omega
      refine sput l2 (j := 0) (xdiv (xil l2 (xw 0) xi (y := x) rfl) (xv 1 (d := (k : Int)) rfl) (divw_ok (a := 64) (by omega) kb (by decide))) (xw 0) xi rfl fun H3 t3 l3 => ?_
      refine sret (xv 2 (x := "_law_digit") (d := (x % (k : Int))) r2) fun v H4 s4 r4 => ?_
      have e : v = V.int (d : Int) := by rw [← hd]; exact r4
      subst e
      refine q H4 d dk (((But.of (s1.trans s2)).trans t3).trans (.of s4)) ⟨x / (k : Int), y, z, l3.up s4, Int.ediv_nonneg x0 (by omega), ?_, y0, yb, z0, by omega⟩
      refine Nat.lt_of_le_of_lt ?_ xb'
      have h1 : x / (k : Int) ≤ x := Int.ediv_le_self _ x0
      have h2 : 0 ≤ x / (k : Int) := Int.ediv_nonneg x0 (by omega)
      omega
    · have l1 := l.up s1
      refine sput l1 (j := 2) (xadd (xil l1 (xw 0) xi (y := z) rfl) xi) (xw 0) xi rfl fun H2 t2 l2 => ?_
      have l2' : LsR H2 a [x, y, z + 1] := l2
      have b1 : (y + (z + 1) * 6364136223).natAbs < 2 ^ 110 := by omega
      have bz : (z + 1).natAbs < 2 ^ 20 := by omega
      refine sset 3 nd (xmod (xint T.int (xadd (xpow (k := 2) (xadd (xil l2' (xw 0) xi (y := y) rfl) (xmul (xil l2' (xw 0) xi (y := z + 1) rfl) xi (mulx_ok (a := 20) (b := 40) bz (by decide) (by decide)))) xi (powx_ok b1 (by decide))) xi)) (xadd (xpow (k := 31) (xi (i := 10)) xi (powx_ok (a := 4) (by decide) (by decide))) xi) (by decide +kernel)) fun v3 H3 s3 r3 => ?_
      have l3 := l2'.up s3
      obtain ⟨m1, hm1, hm2⟩ : ∃ m : Int, v3 = V.int m ∧ m.natAbs < 2 ^ 104 := by
        refine ⟨_, r3, ?_⟩
        have h1 := Int.emod_nonneg ((y + (z + 1) * 6364136223) ^ 2 + 1442695) (show ((10 : Int) ^ 31 + 33) ≠ 0 by decide +kernel)
        have h2 := Int.emod_lt_of_pos ((y + (z + 1) * 6364136223) ^ 2 + 1442695) (show (0 : Int) < (10 : Int) ^ 31 + 33 by decide +kernel)
        have h3 : ((10 : Int) ^ 31 + 33) < 2 ^ 104 := by decide +kernel
        omega
      subst hm1
      refine sset 3 nd (xmod (xint T.int (xpow (k := 3) (xadd (xv 3 (d := m1) rfl) (xil l3 (xw 0) xi (y := z + 1) rfl)) xi (powx_ok (a := 105) (by omega) (by decide)))) (xadd (xpow (k := 30) (xi (i := 10)) xi (powx_ok (a := 4) (by decide) (by decide))) xi) (by decide +kernel)) fun v4 H4 s4 r4 => ?_
      have l4 := l3.up s4
      obtain ⟨m2, hm3⟩ : ∃ m : Int, v4 = V.int m := ⟨_, r4⟩
      subst hm3
      refine sret (xmod (xint T.int (xdiv (xv 3 (d := m2) rfl) xi ⟨by decide, by decide⟩)) (xv 1 (d := (k : Int)) rfl) (by omega)) fun v H5 s5 r5 => ?_
      obtain ⟨d, hd⟩ : ∃ d : Nat, m2 / 1000003 % (k : Int) = (d : Int) := ⟨(m2 / 1000003 % (k : Int)).toNat, by have := Int.emod_nonneg (m2 / 1000003) (show (k : Int) ≠ 0 by omega); omega⟩
      have dk : d < k := by have := Int.emod_lt_of_pos (m2 / 1000003) (show (0 : Int) < k by omega); omega
      have e : v = V.int (d : Int) := by rw [← hd]; exact r5
      subst e
      exact q H5 d dk (((But.of s1).trans t2).trans (.of ((s3.trans s4).trans s5))) ⟨x, y, z + 1, l4.up s5, x0, xb', y0, yb, by omega, by omega⟩
end
abbrev LPi (P : Program) (w : World) (K : PySem.W.Frag) (mg : Str → Option Value) (base : Heap) : Prop := ∀ n, Cal P w K mg base 1 "_law_pick" ["_law_stock_here", "_law_many"] (spPick n)
section
variable {X : Cx} {σ : L2.St} {H : Hp} {a : Addr} {b o e : Expr} {pos p : Pos} {n : Nat} {Q : VK}
/-- _law_pick(stock, k) -/
theorem wpick {k : Nat} (C : LPi X.prog X.w X.K X.mg X.base) (hr : Room 1 X.A) (hs : Stk (n + 1) H a) (ho : Ex X σ H o (Raw.mk (.ref a))) (hb : Ex X σ H b (k : Int)) (k1 : 1 ≤ k) (k64 : k < 2 ^ 64) (q : ∀ H' (d : Nat), d < k → But a H H' → Stk n H' a → Q (.int (d : Int)) H')
    (hg : Gl X "_law_pick" := by rfl) (na : Ns X o := by intro _; rfl) (nb : Ns X b := by intro _; rfl) : WE X (.Call (.Name "_law_pick" p) [o, b] [] pos) σ H Q := by
  obtain ⟨f, fd, F, m, kp, bb⟩ := (C n).ex
  exact we (pe_call F hr hg m kp bb .nil pass0 (pa_cons (lzE o) (pa_cons (lzE b) pa_nil (nb _)) (na _)) (by decide) (na _) (one_any nb)) (ho H (.refl H) _ fun v H1 s1 r1 => hb H1 s1 _ fun u H2 s2 r2 => by
    rw [show v = V.ref a from r1, show u = V.int (k : Int) from r2]
    exact ⟨a, k, rfl, hs.up (s1.trans s2), k1, k64, fun H' d hd t s => q H' d hd ((But.of (s1.trans s2)).trans t) s⟩)
theorem But.new {a q : Addr} {H0 H H' : Hp} (t : But a H0 H) (n : H0 q = none) (u : But q H H') : But a H0 H' := fun b o hb h => u b o (ne_of_none h n) (t b o hb h)
end
def spGW (c : Nat) : Sp := fun vs H Q _ => ∃ (a : Addr) (v1 : V) (b : Bd) (n m most : Nat), vs = [.ref a, v1, .int (most : Int)] ∧ Rep.rep H v1 b ∧ Okb n m b ∧ most ≤ 12 ∧ Stk (c + most) H a ∧
  ∀ u H' r, But a H H' → Stk c H' a → Gr' n b r → r.length ≤ most → Rep.rep H' u r → Q u H'
section
variable {P : Program} {w : World} {K : PySem.W.Frag} {mg : Str → Option Value} {base : Heap}
theorem sc_l_green_walk : FnScope ["_law_stock_here", "_law_board_here", "_law_most", "_law_row", "_law_wide", "_law_turn", "_law_places", "_law_at"] ["_law_stock_here", "_law_board_here", "_law_most"] (defScope (topS 44)) := ⟨rfl, rfl, rfl, by decide +kernel, rfl, by decide +kernel, by decide +kernel⟩
theorem ok_l_green_walk {f : Addr} {fd : FuncData} (T : Blt mg) (C1 : LUn P w K mg base) (C2 : LGr P w K mg base) (C3 : LSw P w K mg base) (C4 : LPi P w K mg base) (F : Fun K "_law_green_walk" "_law_green_walk" (topS 44) f fd) (c : Nat) : FnOk P w K mg base CX0 3 f fd ["_law_stock_here", "_law_board_here", "_law_most"] (spGW c) := by
  refine F.ok sc_l_green_walk (fun vs H Q E h => ?_) (fun cdv A outer s H vs Q E hr h => ⟨_, lzS _, ?_⟩)
  · obtain ⟨a, v1, b, n, m, most, rfl, _⟩ := h
    rfl
  · obtain ⟨a, v1, b, n, m, most, rfl, r1, ob, hmost, st, q⟩ := h
    have nd := sc_l_green_walk.nd
    have hu := hr.units
    have n8 := ob.n8
    refine spar 3 4 rfl nd (xnil (α := Int)) (xc1 C1 (hr.mono (by omega)) (xv 1 r1) ob.preB) fun v3 v4 H1 H2 s1 r3 s2 r4 => ?_
    have s12 := s1.trans s2
    replace r3 := Rep.up s2 r3
    refine sfor rfl PassesOwn.never (wrng T.range (xv 2 (d := (most : Int)) rfl) (by omega)) (pg_name (i := 5) nd rfl (.inl rfl)) fun Hb src s3 sc _ => ?_
    subst sc
    refine ⟨fun i σ H' => ∃ x3 x4 x5 x6 x7 r, σ = [some (.ref a), some v1, some (.int (most : Int)), some x3, some x4, x5, x6, x7] ∧ TK Hb H' ∧ But a H H' ∧ Stk (c + (most - i)) H' a ∧ Gr' n b r ∧ r.length ≤ i ∧ Rep.rep H' x3 r ∧ Rep.rep H' x4 (behind b r),
      ⟨_, _, _, _, _, [], rfl, .refl _, .of (s12.trans s3), st.up (s12.trans s3), Gr'.nil, Nat.le_refl _, Rep.up s3 r3, Rep.up s3 r4⟩, fun i σ H' h => ?_, fun i x σ H' hx h v H3 s4 r5 => ?_, fun σ H' h => ?_⟩
    · obtain ⟨_, _, _, _, _, _, _, k, _⟩ := h
      exact ⟨k, fun _ e => nomatch e⟩
    · obtain ⟨x3, x4, x5, x6, x7, r, rfl, tk, bt, st, g, hl, q3, q4⟩ := h
      obtain ⟨hi, rfl⟩ := upto_get hx
      have wfb := ob.wf.behind r
      show WS _ _ _ _ _
      refine sset 6 nd (lc1 C2 hr (xv 4 (Rep.up s4 q4)) ⟨n, wfb, n8⟩) fun v6 H5 s5 ⟨p6, e6, n6, l6⟩ => ?_
      subst e6
      have s45 := s4.trans s5
      refine sif (tneL hu (xo 6 l6) (EL.o (lnil (α := Int)))) (fun ht H6 s6 => ?_) (fun ht H6 s6 => wnil (wnil ⟨_, _, _, _, _, r, rfl, tk.trans (tk_of (s45.trans s6)), bt.trans (.of (s45.trans s6)), (st.up (s45.trans s6)).mono (by omega), g, by omega, Rep.up (s45.trans s6) q3, Rep.up (s45.trans s6) q4⟩))
      have hne : greens (behind b r) ≠ [] := fun e => by
        rw [decide_eq_true e] at ht
        cases ht
      have gl : (greens (behind b r)).length ≤ n := by
        have h1 : (greens (behind b r)).length ≤ (upto (wid (behind b r))).length := List.length_filter_le _ _
        rwa [upto_len, wfb.wid] at h1
      have glp := List.length_pos_iff.mpr hne
      have s46 := s45.trans s6
      have st6 : Stk ((c + (most - (i + 1))) + 1) H6 a := (st.up s46).mono (by omega)
      have ne6 : p6 ≠ a := fun e => by
        obtain ⟨vs, h1⟩ := (st.up s4).lst
        rw [← e, n6] at h1
        cases h1
      have l6' := l6.up s6
      refine ssetW 7 nd (we (pe_ix ix_list (lzE _) (lzE _) (by intro _ _; rfl)) (wv 6 (.ref p6) (wpick C4 (hr.mono (by omega)) st6 (xw 0) (xlenO T.len (xo 6 l6')) (by omega) (by omega) fun H7 d hd t7 st7 => ?_)))
      obtain ⟨vs6, h6, hv6⟩ := l6'
      have e6 : vs6 = (greens (behind b r)).map V.int := a2_int hv6
      subst e6
      obtain ⟨at', hat⟩ := get_lt hd
      have hatg := get_mem hat
      obtain ⟨⟨j, rfl, hj⟩, _⟩ := (mem_greens wfb).mp hatg
      obtain ⟨vst, hvst⟩ := st6.lst
      have tk7 := t7.tk hvst
      refine ⟨p6, _, (d : Int), .int (j : Int), rfl, rfl, .of (t7 p6 _ ne6 h6), ?_, ?_⟩
      · exact atI_nat (by rw [List.getElem?_map, hat]; rfl)
      · have q3' := Rep.keep tk7 (Rep.up s46 q3)
        have q4' := Rep.keep tk7 (Rep.up s46 q4)
        have ft : Fit 0 (behind b r) := Fit.swBy r (ob.unit (by omega))
        refine spar 3 4 rfl nd (xcat (xv 3 q3') (xone (xv 7 (d := (j : Int)) rfl)) (len40 (by show r.length + 1 ≤ _; omega))) (xc2 C3 (hr.mono (by omega)) (xv 4 q4') (xv 7 (d := (j : Int)) rfl) (preSwap.of wfb hj ft (by omega))) fun v3' v4' H8 H9 s8 r8 s9 r9 => wnil (wnil ⟨_, _, _, _, _, r ++ [(j : Int)], rfl, (tk.trans (tk_of s46)).trans (tk7.trans (tk_of (s8.trans s9))), ((bt.trans (.of s46)).trans t7).trans (.of (s8.trans s9)), st7.up (s8.trans s9), g.snoc ob.wf hatg, by rw [List.length_append]; show r.length + 1 ≤ _; omega, Rep.up s9 r8, ?_⟩)
        rw [behind_snoc]
        exact r9
    · obtain ⟨x3, x4, x5, x6, x7, r, rfl, tk, bt, st, g, hl, q3, q4⟩ := h
      rw [upto_len] at hl
      exact sret (xv 3 q3) fun u H4 s4 r4 => q u H4 r (bt.trans (.of s4)) ((st.up s4).mono (by omega)) g hl r4
end
end Nh
set_option Elab.async false
set_option linter.all false
set_option maxRecDepth 100000
set_option maxHeartbeats 4000000
namespace Nh
open PySem PySem.Spec PyProof.Rows L2
/-! ### _law_layers -/
def spLay (c : Nat) : Sp := fun vs H Q _ => ∃ (a : Addr) (v1 : V) (b : Bd) (n m : Nat), vs = [.ref a, v1] ∧ Rep.rep H v1 b ∧ Okb n m b ∧ n ≤ 4 ∧ Stk (c + 1) H a ∧
  ∀ (t pf : Addr) (most : Nat) (F : List (List Int)) H', But a H H' → Stk c H' a → most ≤ 8 → H' t = some (.tup [.int (most : Int), .ref pf]) → H pf = none → LsR H' pf F → Fnd n b most F → F.length ≤ 10000 → Q (.ref t) H'
section
variable {P : Program} {w : World} {K : PySem.W.Frag} {mg : Str → Option Value} {base : Heap}
theorem len40' {n : Nat} (h : n ≤ 100000) : n ≤ sizeLine := Nat.le_trans h (by decide)
theorem ext_take {b : Bd} {Ks : List (List Int)} {i : Nat} {r : List Int} (h : Ks[i]? = some r) : ext b (Ks.take (i + 1)) = ext b (Ks.take i) ++ (greens (behind b r)).map fun p => r ++ [p] := by
  unfold ext
  rw [List.take_add_one, h, List.flatMap_append]
  show _ ++ (((greens (behind b r)).map fun p => r ++ [p]) ++ []) = _
  rw [List.append_nil]
theorem sc_l_layers : FnScope ["_law_stock_here", "_law_table", "_law_layer", "_law_most", "_law_found", "_law_turn", "_law_longer", "_law_row", "_law_wide", "_law_at"] ["_law_stock_here", "_law_table"] (defScope (topS 41)) := ⟨rfl, rfl, rfl, by decide +kernel, rfl, by decide +kernel, by decide +kernel⟩
theorem ok_l_layers {f : Addr} {fd : FuncData} (T : Blt mg) (C1 : LUn P w K mg base) (C2 : LGr P w K mg base) (C3 : LSw P w K mg base) (C4 : LPi P w K mg base) (F : Fun K "_law_layers" "_law_layers" (topS 41) f fd) (c : Nat) : FnOk P w K mg base CX0 3 f fd ["_law_stock_here", "_law_table"] (spLay c) := by
  refine F.ok sc_l_layers (fun vs H Q E h => ?_) (fun cdv A outer s H vs Q E hr h => ⟨_, lzS _, ?_⟩)
  · obtain ⟨a, v1, b, n, m, rfl, _⟩ := h
    rfl
  · obtain ⟨a, v1, b, n, m, rfl, r1, ob, hn4, st, q⟩ := h
    have nd := sc_l_layers.nd
    have hu := hr.units
    have n8 := ob.n8
    refine spar3 2 3 4 rfl nd (lone (xpair (xnil (α := Int)) (xc1 C1 (hr.mono (by omega)) (xv 1 r1) ob.preB))) xi (lnil (α := List Int)) fun v2 v3 v4 H1 H2 H3 s1 r2 s2 r3 s3 r4 => ?_
    obtain ⟨p2, rfl, n2, l2⟩ := r2
    obtain ⟨p4, rfl, n4, l4⟩ := r4
    have e3 : v3 = V.int 0 := r3
    subst e3
    have s12 := s1.trans s2
    have s13 := s12.trans s3
    refine sforR rfl PassesOwn.never T.range (pg_name (i := 5) nd rfl (.inl rfl)) (wpick C4 (hr.mono (by omega)) (st.up s13) (xw 0) xi (k := 9) (by decide) (by decide) fun H4 dd hdd t4 st4 => ?_)
    obtain ⟨vst, hvst⟩ := (st.up s13).lst
    have l2' := l2.up (s2.trans s3)
    have ne2 : p2 ≠ a := fun e => by
      obtain ⟨vs, h1⟩ := st.lst
      rw [← e, n2] at h1; cases h1
    have ne4 : p4 ≠ a := fun e => by
      obtain ⟨vs, h1⟩ := (st.up s12).lst
      rw [← e, n4] at h1; cases h1
    have tk4 := t4.tk hvst
    refine ⟨dd, rfl, by omega, fun d σ H' => ∃ p2 p4 x5 x6 x7 x8 Ks F, σ = [some (.ref a), some v1, some (.ref p2), some (.int (d : Int)), some (.ref p4), x5, x6, x7, x8, none] ∧ Same H4 H' ∧ LsR H' p2 (Ks.map (rowB b)) ∧ Al n b d Ks ∧ LsR H' p4 F ∧ Fnd n b d F ∧ Ks.length ≤ 300 ∧ F.length ≤ 300 * d ∧ H p4 = none,
      ⟨p2, p4, _, _, _, _, [[]], [], rfl, .refl _, t4.ls hvst ne2 l2', Al.start, t4.ls hvst ne4 l4, Fnd.start ob.wf, by decide, Nat.le_refl _, s12.free n4⟩, fun d σ H' h => ?_, fun d σ H' hd h => ?_, fun σ H' h => ?_⟩
    · obtain ⟨_, _, _, _, _, _, _, _, _, k, _⟩ := h
      exact tk_of k
    · obtain ⟨p2, p4, x5, x6, x7, x8, Ks, Fs, rfl, k, l2, A, l4, G, hK, hF, nf⟩ := h
      show WS _ _ _ _ _
      refine sset 6 nd (lnil (α := List Int × Bd)) fun v6 H5 s5 ⟨p6, e6, n6, l6⟩ => ?_
      subst e6
      refine sfor rfl PassesOwn.never (wlst (l2.up s5) (xw 2)) (pg_tup rfl (pgs_cons (pg_name (i := 7) nd rfl (.inr rfl) (.inl rfl)) (pgs_cons (pg_name (i := 8) nd rfl (.inr rfl) (.inl rfl)) pgs_nil))) fun Hc src s6 sc there => ?_
      subst sc
      have k6 := (k.trans s5).trans s6
      refine ⟨fun i σ H' => ∃ p6 x7 x8, σ = [some (.ref a), some v1, some (.ref p2), some (.int (d : Int)), some (.ref p4), some (.int (d : Int)), some (.ref p6), x7, x8, none] ∧ Same Hc H' ∧ LsR H' p6 ((ext b (Ks.take i)).map (rowB b)), ⟨p6, _, _, rfl, .refl _, l6.up s6⟩, fun i σ H' h => ?_, fun i x σ H' hx h v H7 s7 r7 => ?_, fun σ H' h => ?_⟩
      · obtain ⟨_, _, _, _, k, _⟩ := h
        exact kpS k there
      · obtain ⟨p6, x7, x8, rfl, k7, l6⟩ := h
        rw [List.getElem?_map] at hx
        obtain ⟨r, hr', rfl⟩ := Option.map_eq_some_iff.mp hx
        obtain ⟨g0, rlen⟩ := (A.mem r).mp (get_mem hr')
        have wfb := ob.wf.behind r
        refine gpair r7 fun v7 v8 r7' r8' => ?_
        change Rep.rep H7 v7 r at r7'
        change Rep.rep H7 v8 (behind b r) at r8'
        have ft : Fit 0 (behind b r) := Fit.swBy r (ob.unit (by omega))
        have gl : (greens (behind b r)).length ≤ n := by
          have h1 : (greens (behind b r)).length ≤ (upto (wid (behind b r))).length := List.length_filter_le _ _
          rwa [upto_len, wfb.wid] at h1
        have el : (ext b (Ks.take i)).length ≤ 4 * 300 := Nat.le_trans (ext_len ob.wf _) (Nat.mul_le_mul hn4 (by rw [List.length_take]; omega))
        refine sset 6 nd (lcat (xo 6 (l6.up s7)) (CL.o (comp1 (i := 9) (f := fun p => rowB b (r ++ [p])) rfl nd (by kernel_rfl) (wlstE (lc1 C2 (hr.mono (by omega)) (xv 8 r8') ⟨n, wfb, n8⟩)) (len40 (by omega)) fun k' p hp v9 H9 s9 r9 _ _ _ _ _ => ?_)) ?_) fun v6 H8 s8 ⟨p6', e6', n6', l6'⟩ => ?_
        · obtain ⟨⟨j, rfl, hj⟩, _⟩ := (mem_greens wfb).mp (get_mem hp)
          refine (xpair (xcat (xv 7 (Rep.up s9 r7')) (xone (xv 9 r9)) (len40 (by rw [rlen]; show d + 1 ≤ _; omega))) (xc2 C3 (hr.mono (by omega)) (xv 8 (Rep.up s9 r8')) (xv 9 r9) (preSwap.of wfb hj ft (by omega)))).as ?_
          unfold rowB
          rw [behind_snoc]
        · rw [List.length_map, List.length_map]
          exact len40' (by omega)
        · subst e6'
          refine wnil ⟨p6', _, _, rfl, (k7.trans s7).trans s8, ?_⟩
          rw [ext_take hr', List.map_append, List.map_map]
          exact l6'
      · obtain ⟨p6, x7, x8, rfl, k7, l6⟩ := h
        rw [List.length_map, List.take_length] at l6
        have k67 := k6.trans k7
        have l4' := l4.up ((s5.trans s6).trans k7)
        refine sif (tgt (xlenO T.len (xo 6 l6)) xi) (fun ht H8 s8 => ?_) (fun ht H8 s8 => wnil ?_)
        · refine sret (xpair (xv 3 (d := (d : Int)) rfl) (xw 4 (v := V.ref p4))) fun v H9 s9 ⟨t, u1, u2, ev, htt, e1, e2⟩ => ?_
          subst ev
          rw [show u1 = V.int (d : Int) from e1, show u2 = V.ref p4 from e2] at htt
          have kk := (k67.trans s8).trans s9
          exact q t p4 d Fs H9 ((But.of s13).trans (t4.trans (.of kk))) (st4.up kk) (by omega) htt nf (l4'.up (s8.trans s9)) G (by omega)
        · have hlen : (ext b Ks).length ≤ 300 := by
            have := of_decide_eq_false ht
            rw [List.length_map] at this
            omega
          refine spar 2 3 rfl nd (xw 6) (xadd (xv 3 (d := (d : Int)) rfl) xi) fun v2 v3 H9 H10 s9 r9 s10 r10 => ?_
          have e2 : v2 = V.ref p6 := r9
          have e3 : v3 = V.int ((d : Int) + 1) := r10
          subst e2; subst e3
          have s810 := (s8.trans s9).trans s10
          have l6'' := l6.up s810
          have A' := A.next ob.wf
          refine sset 4 nd (lcat (xo 4 (l4'.up s810)) (CL.o (comp2f (i := 7) (j := 8) (p := fun x : List Int × Bd => decide (greens x.2 = [])) (f := fun x => x.1) rfl nd (by decide) (by kernel_rfl) (wlst l6'' (xw 2)) (by rw [List.length_map]; exact len40 (by omega)) (fun k' x hx v u H11 s11 r11 r12 _ _ _ _ _ => ?_) fun k' x hx hp v u H11 s11 r11 r12 _ _ _ _ _ => xv 7 r11)) ?_) fun v4 H11 s11 ⟨p4', e4', n4', l4''⟩ => ?_
          · rw [List.getElem?_map] at hx
            obtain ⟨r, hr', rfl⟩ := Option.map_eq_some_iff.mp hx
            exact teqL hu (EL.o (lc1 C2 (hr.mono (by omega)) (xv 8 r12) ⟨n, ob.wf.behind r, n8⟩)) (EL.o (lnil (α := Int)))
          · have h1 : (((ext b Ks).map (rowB b)).filter fun x => decide (greens x.2 = [])).length ≤ ((ext b Ks).map (rowB b)).length := List.length_filter_le _ _
            rw [List.length_map] at h1
            rw [List.length_map]
            exact len40' (by omega)
          · subst e4'
            have ef : (((ext b Ks).map (rowB b)).filter fun x => decide (greens x.2 = [])).map (fun x => x.1) = (ext b Ks).filter fun r => decide (greens (behind b r) = []) := by
              rw [List.filter_map, List.map_map]
              exact List.map_id _
            rw [ef] at l4''
            have k810 := k67.trans s810
            have hfree : H p4' = none := by
              have z : H10 p4' = none := n4'
              have bt : But a H H10 := (But.of s13).trans (t4.trans (.of k810))
              cases hp : H p4' with
              | none => rfl
              | some o =>
                by_cases e : p4' = a
                · obtain ⟨vs, h1⟩ := (st4.up k810).lst
                  rw [e, h1] at z; cases z
                · rw [bt p4' o e hp] at z; cases z
            refine wnil ⟨p6, p4', _, _, _, _, ext b Ks, Fs ++ (ext b Ks).filter fun r => decide (greens (behind b r) = []), rfl, k810.trans s11, l6''.up s11, A', l4'', G.next ob.wf A', hlen, ?_, hfree⟩
            have h1 : ((ext b Ks).filter fun r => decide (greens (behind b r) = [])).length ≤ (ext b Ks).length := List.length_filter_le _ _
            rw [List.length_append]
            omega
    · obtain ⟨p2, p4, x5, x6, x7, x8, Ks, Fs, rfl, k, l2, A, l4, G, hK, hF, nf⟩ := h
      refine sret (xpair (xv 3 (d := (dd : Int)) rfl) (xw 4 (v := V.ref p4))) fun v H9 s9 ⟨t, u1, u2, ev, htt, e1, e2⟩ => ?_
      subst ev
      rw [show u1 = V.int (dd : Int) from e1, show u2 = V.ref p4 from e2] at htt
      have kk := k.trans s9
      exact q t p4 dd Fs H9 ((But.of s13).trans (t4.trans (.of kk))) (st4.up kk) (by omega) htt nf (l4.up s9) G (by omega)
end
end Nh
set_option Elab.async false
set_option linter.all false
set_option maxRecDepth 100000
set_option maxHeartbeats 4000000
namespace Nh
open PySem PySem.Spec PyProof.Rows L2
/-! ### full rows: the columns -/
def unitsC (n : Nat) : List Col := (List.range n).map fun i => Col.mk (nunit n i)
section
variable {n m : Nat} {b : Bd} {r : List Int}
theorem units_nd (n : Nat) : (unitsC n).Nodup := by
  unfold unitsC
  refine List.pairwise_map.mpr (List.pairwise_lt_range.imp_of_mem fun {i j} hi hj h e => ?_)
  have e2 : nunit n i = nunit n j := congrArg Col.xs e
  have := nunit_inj (List.mem_range.mp hi) (List.mem_range.mp hj) e2
  omega
theorem full_perm (ob : Okb n m b) (hp : Places n r) (hf : fullRow b r = true) : (colsC (behind b r)).Perm (unitsC n) := by
  obtain ⟨w, S⟩ := ob.sk
  obtain ⟨g, he⟩ := full_green hp hf
  have wfb := ob.wf.behind r
  refine perm_of_sub _ _ (units_nd n) (fun x hx => ?_) ?_
  · unfold unitsC at hx
    obtain ⟨i, hi, rfl⟩ := List.mem_map.mp hx
    obtain ⟨j, hj, e⟩ := full_cols ob.wf S g he i (List.mem_range.mp hi)
    unfold colsC
    refine List.mem_map.mpr ⟨(j : Int), ?_, by rw [Int.toNat_natCast, e]⟩
    rw [wfb.wid]
    exact mem_upto.mpr ⟨j, rfl, hj⟩
  · unfold colsC unitsC
    rw [List.length_map, List.length_map, upto_len, List.length_range, wfb.wid]
    exact Nat.le_refl _
theorem full_unl (ob : Okb n m b) (hp : Places n r) (hf : fullRow b r = true) : Unl (behind b r) := fun c hc => by
  have h := (full_perm ob hp hf).mem_iff.mp hc
  unfold unitsC at h
  obtain ⟨i, hi, rfl⟩ := List.mem_map.mp h
  rw [(ob.behind r).wid]
  exact nunit_perm (List.mem_range.mp hi)
theorem full_one (ob : Okb n m b) (hp : Places n r) (hf : fullRow b r = true) : ∀ c, c ∈ colsC (behind b r) → -1 ∈ c.xs := fun c hc =>
  (full_unl ob hp hf c hc).mem_iff.mpr (List.mem_cons_self ..)
end
section
variable {X : Cx} {σ : L2.St} {H : Hp} {a b c : Expr} {pos p : Pos} {C : Addr}
theorem wcall3 {k : Nat} {x : Str} {ps : List Str} {sp : Sp} (C : CalX X k x ps sp) (hr : Room k X.A) {Q : VK}
    (h : WE X a σ H fun v1 H1 => WE X b σ H1 fun v2 H2 => WE X c σ H2 fun v3 H3 => sp [v1, v2, v3] H3 Q E0) (hg : Gl X x := by rfl) (na : Ns X a := by intro _; rfl) (nb : Ns X b := by intro _; rfl) (nc : Ns X c := by intro _; rfl)
    (hdb : (x == ("__debug__" : Str)) = false := by decide) : WE X (.Call (.Name x p) [a, b, c] [] pos) σ H Q := by
  obtain ⟨f, fd, F, m, kp, bb⟩ := C.ex
  exact we (pe_call F hr hg m kp bb .nil pass0 (pa_cons (lzE a) (pa_cons (lzE b) (pa_cons (lzE c) pa_nil (nc _)) (nb _)) (na _)) hdb (na _) (two_any nb nc)) h
theorem wcall2 {k : Nat} {x : Str} {ps : List Str} {sp : Sp} (C : CalX X k x ps sp) (hr : Room k X.A) {Q : VK}
    (h : WE X a σ H fun v1 H1 => WE X b σ H1 fun v2 H2 => sp [v1, v2] H2 Q E0) (hg : Gl X x := by rfl) (na : Ns X a := by intro _; rfl) (nb : Ns X b := by intro _; rfl)
    (hdb : (x == ("__debug__" : Str)) = false := by decide) : WE X (.Call (.Name x p) [a, b] [] pos) σ H Q := by
  obtain ⟨f, fd, F, m, kp, bb⟩ := C.ex
  exact we (pe_call F hr hg m kp bb .nil pass0 (pa_cons (lzE a) (pa_cons (lzE b) pa_nil (nb _)) (na _)) hdb (na _) (one_any nb)) h
/-- last_order of a full row -/
theorem xlo {n m : Nat} {bd : Bd} {r : List Int} (L : CLo X.prog X.w X.K X.mg X.base C) (hr : Room 6 X.A) (ha : Ex X σ H a bd) (hb : Ex X σ H b r) (ob : Okb n m bd) (hp : Places n r) (hl : r.length ≤ 15) (hf : fullRow bd r = true) (hg : Gl X "last_order" := by rfl) (na : Ns X a := by intro _; rfl) (nb : Ns X b := by intro _; rfl) :
    Ex X σ H (.Call (.Name "last_order" p) [a, b] [] pos) (orderI bd r) := fun H1 s Q q => by
  obtain ⟨f, fd, F, m', kp, bb⟩ := L.ex
  exact we (pe_call F hr hg m' kp bb .nil passL (pa_cons (lzE a) (pa_cons (lzE b) pa_nil (nb _)) (na _)) (by decide) (na _) (one_any nb)) (ha H1 s _ fun v H2 s2 r2 => hb H2 (s.trans s2) _ fun u H3 s3 r3 =>
    ⟨v, u, bd, r, rfl, Rep.up s3 r2, r3, ⟨n, m, ob, hp, hl⟩, (fun _ => ⟨full_one ob hp hf, fun z H' s4 r4 => q z H' ((s2.trans s3).trans s4) r4⟩), fun h => absurd (hf.symm.trans h) (by decide)⟩)
end
section
variable {P : Program} {w : World} {K : PySem.W.Frag} {mg : Str → Option Value} {base : Heap}
abbrev LFu (P : Program) (w : World) (K : PySem.W.Frag) (mg : Str → Option Value) (base : Heap) : Prop := Cal P w K mg base 3 "_law_full" ["_law_board_here", "_law_row"] (sp2 preWalk fullRow)
abbrev LFi (P : Program) (w : World) (K : PySem.W.Frag) (mg : Str → Option Value) (base : Heap) : Prop := Cal P w K mg base 2 "_law_fits" ["_law_board_here", "_law_row"] spAnyB
abbrev LOr (P : Program) (w : World) (K : PySem.W.Frag) (mg : Str → Option Value) (base : Heap) : Prop := Cal P w K mg base 2 "_law_order" ["_law_board_here", "_law_row"] (sp2 preOrd orderI)
abbrev LRe (P : Program) (w : World) (K : PySem.W.Frag) (mg : Str → Option Value) (base : Heap) : Prop := Cal P w K mg base 7 "_law_refused" ["_law_board_here", "_law_row"] (sp2 preRef trueI)
abbrev LGw (P : Program) (w : World) (K : PySem.W.Frag) (mg : Str → Option Value) (base : Heap) : Prop := ∀ c, Cal P w K mg base 3 "_law_green_walk" ["_law_stock_here", "_law_board_here", "_law_most"] (spGW c)
theorem xfits {X : Cx} {σ : L2.St} {H : Hp} {a b : Expr} {p pos : Pos} {bd : Bd} {r : List Int} (C : LFi X.prog X.w X.K X.mg X.base) (hr : Room 2 X.A) (ha : Ex X σ H a bd) (hb : Ex X σ H b r) (hp : preWalk bd r) (hg : Gl X "_law_fits" := by rfl) (na : Ns X a := by intro _; rfl) (nb : Ns X b := by intro _; rfl) :
    EV X σ H (.Call (.Name "_law_fits" p) [a, b] [] pos) fun _ _ v => ∃ t, v = .bl t :=
  ecall2 C hr ha hb (fun v u H1 H2 H3 _ s2 r2 s3 r3 Q q => ⟨v, u, bd, r, rfl, Rep.up s3 r2, r3, hp, fun t H' s' => q _ H' ((s2.trans s3).trans s') ⟨t, rfl⟩⟩) hg na nb (by decide)
theorem xalike {X : Cx} {σ : L2.St} {H : Hp} {a b : Expr} {p pos : Pos} {r : List Int} (C : LAl X.prog X.w X.K X.mg X.base) (hr : Room 2 X.A) (ha : Ex X σ H a r) (hb : Ex X σ H b r) (hl : r.length ≤ 1000) (hg : Gl X "_law_alike" := by rfl) (na : Ns X a := by intro _; rfl) (nb : Ns X b := by intro _; rfl) :
    Ex X σ H (.Call (.Name "_law_alike" p) [a, b] [] pos) true :=
  ecall2 C hr ha hb (fun v u H1 H2 H3 _ s2 r2 s3 r3 Q q => ⟨v, u, rfl, .inr (.inr ⟨r, hl, Rep.up s3 r2, r3⟩), fun H' s' => q _ H' ((s2.trans s3).trans s') rfl⟩) hg na nb (by decide)
def spOR (c : Nat) : Sp := fun vs H Q _ => ∃ (a : Addr) (v1 : V) (b : Bd) (n m most : Nat), vs = [.ref a, v1, .int (most : Int)] ∧ Rep.rep H v1 b ∧ Okb n m b ∧ 1 ≤ most ∧ most ≤ 12 ∧ Stk (c + 40) H a ∧ ∀ H', But a H H' → Stk c H' a → Q (.bl true) H'
theorem sc_l_orders_right : FnScope ["_law_stock_here", "_law_board_here", "_law_most", "_law_walk", "_law_cut", "_law_some", "_law_row", "_law_turn"] ["_law_stock_here", "_law_board_here", "_law_most"] (defScope (topS 46)) := ⟨rfl, rfl, rfl, by decide +kernel, rfl, by decide +kernel, by decide +kernel⟩
theorem order_len {n m : Nat} {b : Bd} (ob : Okb n m b) (r : List Int) : (orderI b r).length = n := by
  unfold orderI orderOf colsC
  rw [List.length_map, List.length_map, upto_len, (ob.behind r).wid]
theorem ok_l_orders_right {f C : Addr} {fd : FuncData} (T : Blt mg) (C1 : LGw P w K mg base) (C2 : LPi P w K mg base) (C3 : LFi P w K mg base) (C4 : LFu P w K mg base) (C5 : LRe P w K mg base) (C6 : LAl P w K mg base) (C7 : CLo P w K mg base C) (C8 : LOr P w K mg base) (F : Fun K "_law_orders_right" "_law_orders_right" (topS 46) f fd) (c : Nat) :
    FnOk P w K mg base CX0 8 f fd ["_law_stock_here", "_law_board_here", "_law_most"] (spOR c) := by
  refine F.ok sc_l_orders_right (fun vs H Q E h => ?_) (fun cdv A outer s H vs Q E hr h => ⟨_, lzS _, ?_⟩)
  · obtain ⟨a, v1, b, n, m, most, rfl, _⟩ := h
    rfl
  · obtain ⟨a, v1, b, n, m, most, rfl, r1, ob, hm1, hm12, st, q⟩ := h
    have nd := sc_l_orders_right.nd
    have n8 := ob.n8
    obtain ⟨vs0, hvs0⟩ := st.lst
    refine sparW 3 4 rfl nd (wcall3 (C1 (c + 40 - most)) (hr.mono (by omega)) (wv 0 (.ref a) (wv 1 v1 (wv 2 (.int (most : Int)) ⟨a, v1, b, n, m, most, rfl, r1, ob, hm12, st.mono (by omega), fun v3 H1 wk t1 st1 gwk lwk r3 => ?_⟩))))
    obtain ⟨vs1, hvs1⟩ := st1.lst
    have tk1 := t1.tk hvs0
    have st1' : Stk ((c + 27) + 1) H1 a := st1.mono (by omega)
    refine wpick C2 (hr.mono (by omega)) st1' (xw 0) (xv 2 (d := (most : Int)) rfl) hm1 (by omega) fun H2 cut' hcut t2 st2 => ?_
    obtain ⟨vs2, hvs2⟩ := st2.lst
    have tk2 := t2.tk hvs1
    have r12 := Rep.keep tk2 (Rep.keep tk1 r1)
    have r32 := Rep.keep tk2 r3
    refine ssetW 5 nd (wtupL T.tuple (wlcW (i := 7) rfl nd (by kernel_rfl) T.range (lcW (P := fun x => ∃ j : Nat, x = (j : Int) ∧ j < n) (wpick C2 (hr.mono (by omega)) (n := c + 26) st2 (xw 0) (xadd (xv 2 (d := (most : Int)) rfl) xi) (k := most + 1) (by omega) (by omega) fun H3 cnt hcnt t3 st3 => ?_))))
    obtain ⟨vs3, hvs3⟩ := st3.lst
    have tk3 := t3.tk hvs2
    refine ⟨cnt, rfl, by omega, by omega, fun k H' => But a H3 H' ∧ Stk (c + 26 - k) H' a, ⟨.of (.refl _), st3.mono (by omega)⟩, fun k H4 ⟨b4, s4⟩ D vs hD hDl H5 b5 => ?_, fun k D H4 hD ⟨b4, s4⟩ hDn o => ?_, fun k H4 hk ⟨b4, s4⟩ _ _ _ _ _ => ?_, fun p5 xs H4 hlen hP hp5 l5 ⟨b4, s4⟩ => ?_⟩
    · exact ⟨b4.new hD b5, s4.but b5 hDl fun e => by rw [← e, hvs3] at hD; cases hD⟩
    · exact ⟨b4.trans (.of (same_new hDn)), s4.up (same_new hDn)⟩
    · have rb := Rep.keep (b4.tk hvs3) (Rep.keep tk3 r12)
      have s4' : Stk ((c + 26 - (k + 1)) + 1) H4 a := s4.mono (by omega)
      refine wpick C2 (hr.mono (by omega)) s4' (xw 0) (xwid ob.wf T.len (xv 1 rb)) ob.wf.one (by omega) fun H5 d hd t5 st5 => ⟨(d : Int), rfl, ⟨d, rfl, hd⟩, ⟨b4.trans t5, st5⟩, fun D vs hD hDl => t5 D _ (fun e => by rw [e, hvs3] at hD; cases hD) hDl⟩
    · refine ⟨p5, xs, rfl, l5, fun v5 H5 s5 r5 => ?_⟩
      have hps : Places n xs := fun x hx => hP x hx
      have bt5 : But a H H5 := (((t1.trans t2).trans t3).trans b4).trans (.of s5)
      have st5 : Stk c H5 a := (s4.up s5).mono (by omega)
      have tkk : TK H2 H5 := (tk3.trans (b4.tk hvs3)).trans (tk_of s5)
      have r15 := Rep.keep tkk r12
      have r35 := Rep.keep tkk r32
      have lx : xs.length ≤ 12 := by omega
      have cl := cut_len wk none (some (cut' : Int))
      have cl2 := cut_len wk (some ((cut' : Int) - 1)) (some (cut' : Int))
      have hpw : Places n wk := gwk.1
      have pcut : ∀ lo hi, Places n (cut wk lo hi) := fun lo hi p hp => hpw p (mem_cut hp)
      have papp : ∀ {r r' : List Int}, Places n r → Places n r' → Places n (r ++ r') := fun h h' p hp => (List.mem_append.mp hp).elim (h p) (h' p)
      have sz : ∀ {k : Nat}, k ≤ 100 → k ≤ sizeLine := fun h => len40 (by omega)
      refine sfor rfl PassesOwn.never (wlstE (llist (xs := [wk, wk.reverse, cut wk none (some (cut' : Int)), xs, cut (cut wk none (some (cut' : Int)) ++ xs) none (some (most : Int)), cut wk none (some (cut' : Int)) ++ (cut wk (some ((cut' : Int) - 1)) (some (cut' : Int)) ++ cut wk (some ((cut' : Int) - 1)) (some (cut' : Int)))])
        (.cons (by intro _; rfl) (xv 3 r35) (.cons (by intro _; rfl) (xrev (xv 3 r35)) (.cons (by intro _; rfl) (xslU (xv 3 r35) (xv 4 (d := (cut' : Int)) rfl)) (.cons (by intro _; rfl) (xv 5 r5) (.cons (by intro _; rfl) (xslU (xcat (xslU (xv 3 r35) (xv 4 (d := (cut' : Int)) rfl)) (xv 5 r5) (sz (by omega))) (xv 2 (d := (most : Int)) rfl))
          (.cons (by intro _; rfl) (xcat (xslU (xv 3 r35) (xv 4 (d := (cut' : Int)) rfl)) (xdbl (xslB (xv 3 r35) (xsub (xv 4 (d := (cut' : Int)) rfl) xi) (xv 4 (d := (cut' : Int)) rfl)) (by omega)) (sz (by rw [List.length_append]; omega))) .nil)))))) (by show 6 ≤ 4000; decide))) (pg_name (i := 6) nd rfl (.inl rfl)) fun Hb src s6 sc there => ?_
      refine ⟨fun i σ H' => ∃ x6, σ = [some (.ref a), some v1, some (.int (most : Int)), some v3, some (.int (cut' : Int)), some v5, x6, none] ∧ Same Hb H', ⟨_, rfl, .refl _⟩, fun i σ H' h => ?_, fun i x σ H' hx h v6 H7 s7 r7 => ?_, fun σ H' h => ?_⟩
      · obtain ⟨_, _, k⟩ := h
        exact kpS k there
      · obtain ⟨x6, rfl, k⟩ := h
        have hpx : Places n x := by
          have hm := get_mem hx
          rcases List.mem_cons.mp hm with e | hm
          · rw [e]; exact hpw
          · rcases List.mem_cons.mp hm with e | hm
            · rw [e]; exact fun p hp => hpw p (List.mem_reverse.mp hp)
            · rcases List.mem_cons.mp hm with e | hm
              · rw [e]; exact pcut _ _
              · rcases List.mem_cons.mp hm with e | hm
                · rw [e]; exact hps
                · rcases List.mem_cons.mp hm with e | hm
                  · rw [e]; exact fun p hp => papp (pcut _ _) hps p (mem_cut hp)
                  · rw [List.mem_singleton.mp hm]; exact papp (pcut _ _) (papp (pcut _ _) (pcut _ _))
        have s67 := (s6.trans k).trans s7
        have rb := Rep.up s67 r15
        have fin : ∀ {H9 : Hp}, Same H7 H9 → ∃ x6, [some (V.ref a), some v1, some (.int (most : Int)), some v3, some (.int (cut' : Int)), some v5, some v6, none] = [some (V.ref a), some v1, some (.int (most : Int)), some v3, some (.int (cut' : Int)), some v5, x6, none] ∧ Same Hb H9 := fun s9 => ⟨_, rfl, (k.trans s7).trans s9⟩
        show WS _ _ _ _ _
        by_cases hlen : x.length ≤ most
        · have pw : preWalk b x := ⟨n, m, ob, hpx, by omega⟩
          refine sifU (tandU (t := true) ((tle (xlen T.len (xv 6 r7)) (xv 2 (d := (most : Int)) rfl)).as (decide_eq_true (by omega))) fun _ => tvU (xfits C3 (hr.mono (by omega)) (xv 1 rb) (xv 6 r7) pw)) (fun H8 s8 => ?_) (fun H8 s8 => wnil (wnil (fin s8)))
          have rb8 := Rep.up s8 rb
          have r78 := Rep.up s8 r7
          refine sif (tnot (tv (xc2 C4 (hr.mono (by omega)) (xv 1 rb8) (xv 6 r78) pw))) (fun ht H9 s9 => ?_) (fun ht H9 s9 => ?_)
          · have hf : fullRow b x = false := by
              cases c : fullRow b x with
              | false => rfl
              | true => rw [c] at ht; cases ht
            refine sif (t := false) ((tnot (tv (xc2 C5 hr (xv 1 (Rep.up s9 rb8)) (xv 6 (Rep.up s9 r78)) ⟨pw, hf⟩))).as rfl) (fun e => nomatch e) fun _ H10 s10 => wnil (wnil (wnil (wnil (fin ((s8.trans s9).trans s10)))))
          · have hf : fullRow b x = true := by
              cases c : fullRow b x with
              | true => rfl
              | false => rw [c] at ht; cases ht
            have rb9 := Rep.up s9 rb8
            have r79 := Rep.up s9 r78
            refine sif (t := false) ((tnot (tv (xalike C6 (hr.mono (by omega)) (xlo C7 (hr.mono (by omega)) (xv 1 rb9) (xv 6 r79) ob hpx (by omega) hf) (xc2 C8 (hr.mono (by omega)) (xv 1 rb9) (xv 6 r79) ⟨pw, full_unl ob hpx hf⟩) (by rw [order_len ob]; omega)))).as rfl) (fun e => nomatch e) fun _ H10 s10 => wnil (wnil (wnil (wnil (fin ((s8.trans s9).trans s10)))))
        · refine sif (t := false) (tand (t := false) (u := true) ((tle (xlen T.len (xv 6 r7)) (xv 2 (d := (most : Int)) rfl)).as (decide_eq_false (by omega))) fun e => nomatch e) (fun e => nomatch e) fun _ H8 s8 => wnil (wnil (fin s8))
      · obtain ⟨x6, rfl, k⟩ := h
        refine sret xb fun v H8 s8 r8 => ?_
        rw [show v = V.bl true from r8]
        have ss := (s6.trans k).trans s8
        exact q H8 (bt5.trans (.of ss)) (st5.up ss)
end
end Nh
set_option Elab.async false
set_option linter.all false
set_option maxRecDepth 100000
set_option maxHeartbeats 4000000
namespace Nh
open PySem PySem.Spec PyProof.Rows L2
/-! ### _law_rows_right -/
def swG {α : Type} : List α → List α → List α
  | [], [r, b] => [b, r]
  | _, _ => []
structure CalKR (P : Program) (w : World) (K : PySem.W.Frag) (mg : Str → Option Value) (base : Heap) (C : Addr) : Prop where
  ex : ∃ (f : Addr) (fd : FuncData), FnOk P w K mg base (L2.CX P w) 6 f fd ["board", "row"] (spLO C) ∧ mg "last_order" = some (.ref f) ∧ PySem.W.keepIn K (.ref f) = true ∧ KBinds K fd ["board", "row"] ["row", "board"] swG swG
section
variable {n m : Nat} {b : Bd} {r : List Int}
theorem Gr'.take (g : Gr' n b r) (k : Nat) : Gr' n b (r.take k) := by
  refine ⟨fun p hp => g.1 p (List.mem_of_mem_take hp), ?_⟩
  have h := g.2
  rw [← List.take_append_drop k r, greenRow_append, Bool.and_eq_true] at h
  exact h.1
theorem unit_take (h : Wf n m b) : unitB (b.take n) = unitB b := by
  unfold unitB
  rw [h.table.wid, h.wid, List.take_take, Nat.min_self]
theorem Okb.table (ob : Okb n m b) : Okb n n (b.take n) := by
  obtain ⟨w, S⟩ := ob.sk
  refine ⟨ob.wf.table, ⟨w, S.1, fun i j hi hj => ?_⟩, ob.bits.take n, ob.n8, by have := ob.n8; omega⟩
  have e : ∀ i j, i < n → at2 (b.take n) i j = at2 b i j := fun i j hi => by
    unfold at2
    congr 1
    rw [List.getD_eq_getElem?_getD, List.getD_eq_getElem?_getD, List.getElem?_take_of_lt hi]
  rw [e i j hi, e j i hj]
  exact S.2 i j hi hj
theorem behind_take (h : Wf n m b) (r : List Int) : behind (b.take n) r = behind b r := by unfold behind; rw [unit_take h]
theorem full_take (h : Wf n m b) (r : List Int) : fullRow (b.take n) r = fullRow b r := by unfold fullRow; rw [behind_take h, unit_take h]
theorem order_take (h : Wf n m b) (r : List Int) : orderI (b.take n) r = orderI b r := by unfold orderI; rw [behind_take h]
end
section
variable {X : Cx} {σ : L2.St} {H : Hp} {a b c : Expr} {pos p : Pos} {C : Addr}
/-- last_order(row=.., board=..) of a full row -/
theorem xloK {n m : Nat} {bd : Bd} {r : List Int} {k1 k2 : Pos} (L : CalKR X.prog X.w X.K X.mg X.base C) (hr : Room 6 X.A) (ha : Ex X σ H a r) (hb : Ex X σ H b bd) (ob : Okb n m bd) (hp : Places n r) (hl : r.length ≤ 15) (hf : fullRow bd r = true) (hg : Gl X "last_order" := by rfl)
    (hall : (backToKw pos (keywordEach [⟨some "row", a, k1⟩, ⟨some "board", b, k2⟩] X.env)).all (·.1.isSome) = true := by rfl) (hks : (backToKw pos (keywordEach [⟨some "row", a, k1⟩, ⟨some "board", b, k2⟩] X.env)).filterMap (·.1) = (["row", "board"] : List Str) := by rfl)
    (hpl : ((backTo pos (starEach [] X.env)).any (·.1) || (backToKw pos (keywordEach [⟨some "row", a, k1⟩, ⟨some "board", b, k2⟩] X.env)).any (·.1.isNone)) = false := by rfl) :
    Ex X σ H (.Call (.Name "last_order" p) [] [⟨some "row", a, k1⟩, ⟨some "board", b, k2⟩] pos) (orderI bd r) := fun H1 s Q q => by
  obtain ⟨f, fd, F, m', kp, bb⟩ := L.ex
  exact we (pe_callK0 F hr hg m' kp bb passL (pk_cons (lzE a) (pk_cons (lzE b) pk_nil)) hall hks (by decide) hpl) (ha H1 s _ fun v H2 s2 r2 => hb H2 (s.trans s2) _ fun u H3 s3 r3 =>
    ⟨u, v, bd, r, rfl, r3, Rep.up s3 r2, ⟨n, m, ob, hp, hl⟩, (fun _ => ⟨full_one ob hp hf, fun z H' s4 r4 => q z H' ((s2.trans s3).trans s4) r4⟩), fun h => absurd (hf.symm.trans h) (by decide)⟩)
end
section
variable {P : Program} {w : World} {K : PySem.W.Frag} {mg : Str → Option Value} {base : Heap}
abbrev CBc (P : Program) (w : World) (K : PySem.W.Frag) (mg : Str → Option Value) (base : Heap) : Prop := Cal P w K mg base 7 "by_columns" ["board", "row", "other"] spBC
structure RowOk (n : Nat) (b : Bd) (r : List Int) : Prop where
  pl : Places n r
  full : fullRow b r = true
  l1 : 1 ≤ r.length
  l12 : r.length ≤ 12
def spRR (c : Nat) : Sp := fun vs H Q _ => ∃ (a pr : Addr) (v1 : V) (b : Bd) (n m pls : Nat) (rows : List (List Int)), vs = [.ref a, v1, .ref pr, .int (pls : Int)] ∧ Rep.rep H v1 b ∧ Okb n m b ∧ LsR H pr rows ∧ (∀ r, r ∈ rows → RowOk n b r) ∧ rows.length ≤ 10 ∧ pr ≠ a ∧ Stk (c + 20) H a ∧ ∀ H', But a H H' → Stk c H' a → Q (.bl true) H'
theorem sc_l_rows_right : FnScope ["_law_stock_here", "_law_board_here", "_law_rows", "_law_places", "_law_many", "_law_row", "_law_due", "_law_cut", "_law_at", "_law_longer"] ["_law_stock_here", "_law_board_here", "_law_rows", "_law_places"] (defScope (topS 47)) := ⟨rfl, rfl, rfl, by decide +kernel, rfl, by decide +kernel, by decide +kernel⟩
theorem ok_l_rows_right {f C : Addr} {fd : FuncData} (T : Blt mg) (C2 : LPi P w K mg base) (C3 : LFi P w K mg base) (C5 : LRe P w K mg base) (C6 : LAl P w K mg base) (C7 : CLo P w K mg base C) (C9 : CalKR P w K mg base C) (C8 : LOr P w K mg base) (C10 : CBc P w K mg base) (F : Fun K "_law_rows_right" "_law_rows_right" (topS 47) f fd) (c : Nat) :
    FnOk P w K mg base CX0 8 f fd ["_law_stock_here", "_law_board_here", "_law_rows", "_law_places"] (spRR c) := by
  refine F.ok sc_l_rows_right (fun vs H Q E h => ?_) (fun cdv A outer s H vs Q E hr h => ⟨_, lzS _, ?_⟩)
  · obtain ⟨a, pr, v1, b, n, m, pls, rows, rfl, _⟩ := h
    rfl
  · obtain ⟨a, pr, v1, b, n, m, pls, rows, rfl, r1, ob, lr, hrows, hlen, nepa, st, q⟩ := h
    have nd := sc_l_rows_right.nd
    have n8 := ob.n8
    have hnm := ob.wf.le
    obtain ⟨wt, S⟩ := id ob.sk
    refine sset 4 nd (xwid ob.wf T.len (xv 1 r1)) fun v4 H1 s1 r4 => ?_
    have e4 : v4 = V.int (n : Int) := r4
    subst e4
    refine sfor rfl PassesOwn.never (wlst (lr.up s1) (xw 2)) (pg_name (i := 5) nd rfl (.inl rfl)) fun Hb src s2 sc there => ?_
    subst sc
    have s12 := s1.trans s2
    have thr := there pr rfl
    refine ⟨fun i σ H' => ∃ x5 x6 x7 x8 x9, σ = [some (.ref a), some v1, some (.ref pr), some (.int (pls : Int)), some (.int (n : Int)), x5, x6, x7, x8, x9] ∧ Kp Hb (some pr) H' ∧ But a H H' ∧ Stk (c + 20 - 2 * i) H' a ∧ Rep.rep H' v1 b ∧ LsR H' pr rows, ⟨_, _, _, _, _, rfl, ⟨.refl _, fun _ _ => rfl⟩, .of s12, st.up s12, Rep.up s12 r1, lr.up s12⟩, fun i σ H' h => ?_, fun i x σ H' hx h v5 H3 s3 r5 => ?_, fun σ H' h => ?_⟩
    · obtain ⟨_, _, _, _, _, _, k, _⟩ := h
      exact k
    · obtain ⟨x5, x6, x7, x8, x9, rfl, kp, bt, st, rb, lr⟩ := h
      have ro := hrows x (get_mem hx)
      have hi := lt_get hx
      have pw : preWalk b x := ⟨n, m, ob, ro.pl, by have := ro.l12; omega⟩
      replace rb := Rep.up s3 rb
      replace lr := lr.up s3
      have x12 := ro.l12
      have gx := (full_green ro.pl ro.full).1
      show WS _ _ _ _ _
      refine sset 6 nd (xc2 C8 (hr.mono (by omega)) (xv 1 rb) (xv 5 r5) ⟨pw, full_unl ob ro.pl ro.full⟩) fun v6 H4 s4 r6 => ?_
      replace rb := Rep.up s4 rb
      replace r5 := Rep.up s4 r5
      replace lr := lr.up s4
      have ol := order_len ob x
      refine sif (t := false) ((tor (tisNn (xv 6 r6) fun _ _ _ h => NN.nn h) fun _ => tnot (tv (xalike C6 (hr.mono (by omega)) (xlo C7 (hr.mono (by omega)) (xv 1 rb) (xv 5 r5) ob ro.pl (by omega) ro.full) (xv 6 r6) (by omega)))).as rfl) (fun e => nomatch e) fun _ H5 s5 => wnil ?_
      replace rb := Rep.up s5 rb
      replace r5 := Rep.up s5 r5
      replace r6 := Rep.up s5 r6
      replace lr := lr.up s5
      refine sif (t := false) ((tnot (tv (xalike C6 (hr.mono (by omega)) ((xloK C9 (hr.mono (by omega)) (xv 5 r5) ((xslU (xv 1 rb) (xv 4 (d := (n : Int)) rfl)).as (cut_to b (by rw [ob.wf.len]; exact hnm))) ob.table ro.pl (by omega) ((full_take ob.wf x).trans ro.full)).as (order_take ob.wf x)) (xv 6 r6) (by omega)))).as rfl) (fun e => nomatch e) fun _ H6 s6 => wnil ?_
      replace rb := Rep.up s6 rb
      replace r5 := Rep.up s6 r5
      replace lr := lr.up s6
      obtain ⟨r0, hr0⟩ := get_lt (l := rows) (i := 0) (by omega)
      have ro0 := hrows r0 (get_mem hr0)
      have pw0 : preWalk b r0 := ⟨n, m, ob, ro0.pl, by have := ro0.l12; omega⟩
      have pm : (columnsI b r0).Perm (columnsI b x) := (full_perm ob ro0.pl ro0.full).trans (full_perm ob ro.pl ro.full).symm
      obtain ⟨xi', xl, exl⟩ : ∃ (y : List Int) (p : Int), x = y ++ [p] := by
        rcases List.eq_nil_or_concat x with e | ⟨y, p, e⟩
        · have := ro.l1
          rw [e] at this
          cases this
        · exact ⟨y, p, by rw [e, List.concat_eq_append]⟩
      have hpi : Places n xi' := fun p hp => ro.pl p (by rw [exl]; exact List.mem_append.mpr (.inl hp))
      have hfi : fullRow b xi' = false := init_refused ob.wf (by rw [← exl]; exact ro.pl) (by rw [← exl]; exact ro.full)
      have li : xi'.length ≤ 12 := by have := congrArg List.length exl; rw [List.length_append] at this; change x.length = xi'.length + 1 at this; omega
      have ecut : cut x none (some (-(1 : Int))) = xi' := by
        have hl1 : x.length = xi'.length + 1 := by rw [exl, List.length_append]; rfl
        unfold cut
        have e1 : HT.sIx x.length 0 none = 0 := rfl
        have e2 : HT.sIx x.length x.length (some (-(1 : Int))) = xi'.length := by simp only [HT.sIx]; split <;> omega
        rw [e1, e2, List.drop_zero, Nat.sub_zero, exl, List.take_left]
      refine sif (t := false) ((tor (tnot (tv (t := true) (ecall2 (R1 := fun _ H' v => Rep.rep H' v true) (R2 := fun _ H' v => Rep.rep H' v true) (R := fun _ H' v => Rep.rep H' v true) C6 (hr.mono (by omega))
        (ecall3 (R := fun _ H' v => Rep.rep H' v true) C10 hr (xv 1 rb) (xil lr (xw 2) xi (y := r0) (atI_nat hr0)) (xv 5 r5) fun v u z H1 H2 H3 H4 _ s2 r2 s3 r3 s4 r4 Q q => ⟨v, u, z, b, r0, x, rfl, Rep.up (s3.trans s4) r2, Rep.up s4 r3, r4, pw0, pw, pm, fun H' s' => q _ H' (((s2.trans s3).trans s4).trans s') rfl⟩) xb
        (fun v u H1 H2 H3 _ s2 r2 s3 r3 Q q => ⟨v, u, rfl, .inr (.inl ⟨r2, r3⟩), fun H' s' => q _ H' ((s2.trans s3).trans s') rfl⟩)))) fun _ => tnot (tv (xc2 C5 hr (xv 1 rb) ((xslU (xv 5 r5) (xneg xi)).as ecut) ⟨⟨n, m, ob, hpi, by omega⟩, hfi⟩))).as rfl) (fun e => nomatch e) fun _ H7 s7 => wnil ?_
      replace rb := Rep.up s7 rb
      replace r5 := Rep.up s7 r5
      replace lr := lr.up s7
      have s37 := (((s3.trans s4).trans s5).trans s6).trans s7
      have st7 : Stk ((c + 20 - 2 * (i + 1)) + 1 + 1) H7 a := (st.up s37).mono (by omega)
      obtain ⟨us7, hus7⟩ := st7.lst
      refine sparW 7 8 rfl nd (wpick C2 (hr.mono (by omega)) st7 (xw 0) (xlen T.len (xv 5 r5)) ro.l1 (by omega) fun H8 ct hct t8 st8 => wpick C2 (hr.mono (by omega)) st8 (xw 0) (xv 4 (d := (n : Int)) rfl) ob.wf.one (by omega) fun H9 at' hat t9 st9 => ?_)
      obtain ⟨us8, hus8⟩ := st8.lst
      have t79 := t8.trans t9
      have tk79 := (t8.tk hus7).trans (t9.tk hus8)
      replace rb := Rep.keep tk79 rb
      replace r5 := Rep.keep tk79 r5
      replace lr := t79.ls hus7 nepa lr
      have kp9 : Kp Hb (some pr) H9 := (kp.up s37 fun p e => by cases e; exact thr).put' t79 tk79 fun p e => by cases e; exact ⟨nepa, thr⟩
      have hsz : ∀ {k : Nat}, k ≤ 100 → k ≤ sizeLine := fun h => len40 (by omega)
      refine sset 9 nd ((xcat (xcat ((xslU (xv 5 r5) (xv 7 (d := (ct : Int)) rfl)).as (cut_to x (by omega))) (xtwo (xv 8 (d := (at' : Int)) rfl) (xv 8 (d := (at' : Int)) rfl)) (hsz (by rw [List.length_take]; show _ + 2 ≤ _; omega))) ((xslL (xv 5 r5) (xv 7 (d := (ct : Int)) rfl)).as (cut_from x (by omega))) (hsz (by rw [List.length_append, List.length_take, List.length_drop]; show _ + 2 + _ ≤ _; omega)))) fun v9 H10 s10 r9 => ?_
      have rb10 := Rep.up s10 rb
      have hpl : Places n (x.take ct ++ [(at' : Int), (at' : Int)] ++ x.drop ct) := fun p hp => by
        rcases List.mem_append.mp hp with z | z
        · rcases List.mem_append.mp z with z | z
          · exact ro.pl p (List.mem_of_mem_take z)
          · refine ⟨at', ?_, hat⟩
            rcases List.mem_cons.mp z with e | e
            · exact e
            · exact List.mem_singleton.mp e
        · exact ro.pl p (List.mem_of_mem_drop z)
      have hll : (x.take ct ++ [(at' : Int), (at' : Int)] ++ x.drop ct).length ≤ 15 := by
        rw [List.length_append, List.length_append, List.length_take, List.length_drop]
        show _ + 2 + _ ≤ _
        omega
      have pwl : preWalk b (x.take ct ++ [(at' : Int), (at' : Int)] ++ x.drop ct) := ⟨n, m, ob, hpl, hll⟩
      refine sif (t := false) (tand3F (tle (xlen T.len (xv 9 r9)) (xv 3 (d := (pls : Int)) rfl)) (fun _ => tvU (xfits C3 (hr.mono (by omega)) (xv 1 rb10) (xv 9 r9) pwl)) fun _ => (tnot (tv (xc2 C5 hr (xv 1 rb10) (xv 9 r9) ⟨pwl, twice_refused ob.wf S (gx.take ct) hat⟩))).as rfl) (fun e => nomatch e) fun _ H11 s11 => wnil (wnil ?_)
      have s1011 := s10.trans s11
      exact ⟨_, _, _, _, _, rfl, kp9.up s1011 (fun p e => by cases e; exact thr), ((bt.trans (.of s37)).trans t79).trans (.of s1011), st9.up s1011, Rep.up s1011 rb, lr.up s1011⟩
    · obtain ⟨x5, x6, x7, x8, x9, rfl, kp, bt, st, rb, lr⟩ := h
      refine sret xb fun v H8 s8 r8 => ?_
      rw [show v = V.bl true from r8]
      exact q H8 (bt.trans (.of s8)) ((st.up s8).mono (by omega))
end
end Nh
set_option Elab.async false
set_option linter.all false
set_option maxRecDepth 100000
set_option maxHeartbeats 4000000
namespace Nh
open PySem PySem.Spec PyProof.Rows L2
/-! ### boards that are made -/
structure Okc (B n m : Nat) (b : Bd) : Prop where
  wf : Wf n m b
  sk : SkB n b
  bits : Bits B b
  n4 : n ≤ 4
  m : m ≤ 100
theorem Okc.okb {B n m : Nat} {b : Bd} (h : Okc B n m b) (hB : B ≤ 400) : Okb n m b := ⟨h.wf, h.sk, h.bits.mono hB, by have := h.n4; omega, h.m⟩
theorem Okc.mono {B B' n m : Nat} {b : Bd} (h : Okc B n m b) (hB : B ≤ B') : Okc B' n m b := ⟨h.wf, h.sk, h.bits.mono hB, h.n4, h.m⟩
theorem Okc.sw {B n m k : Nat} {b : Bd} (h : Okc B n m b) (hk : k < n) : Okc (2 * B + 2) n m (Nh.sw b k) := ⟨h.wf.sw k, by
  obtain ⟨w, S⟩ := h.sk
  exact ⟨w, S.sw h.wf hk⟩, h.bits.sw k, h.n4, h.m⟩
def spLed (c : Nat) : Sp := fun vs H Q _ => ∃ (a : Addr) (v1 : V) (b : Bd) (n m : Nat), vs = [.ref a, v1] ∧ Rep.rep H v1 b ∧ Okc 20 n m b ∧ Stk (c + 3) H a ∧ ∀ u H' b', But a H H' → Stk c H' a → Okc 86 n m b' → Rep.rep H' u b' → Q u H'
section
variable {P : Program} {w : World} {K : PySem.W.Frag} {mg : Str → Option Value} {base : Heap}
theorem sc_l_led_on : FnScope ["_law_stock_here", "_law_board_here", "_law_turn", "_law_made", "_law_entry", "_law_line"] ["_law_stock_here", "_law_board_here"] (defScope (topS 48)) := ⟨rfl, rfl, rfl, by decide +kernel, rfl, by decide +kernel, by decide +kernel⟩
theorem ok_l_led_on {f : Addr} {fd : FuncData} (T : Blt mg) (C1 : LSw P w K mg base) (C2 : LPi P w K mg base) (F : Fun K "_law_led_on" "_law_led_on" (topS 48) f fd) (c : Nat) : FnOk P w K mg base CX0 2 f fd ["_law_stock_here", "_law_board_here"] (spLed c) := by
  refine F.ok sc_l_led_on (fun vs H Q E h => ?_) (fun cdv A outer s H vs Q E hr h => ⟨_, lzS _, ?_⟩)
  · obtain ⟨a, v1, b, n, m, rfl, _⟩ := h
    rfl
  · obtain ⟨a, v1, b, n, m, rfl, r1, ob, st, q⟩ := h
    have nd := sc_l_led_on.nd
    have st' : Stk ((c + 2) + 1) H a := st
    obtain ⟨us, hus⟩ := st.lst
    refine sforR rfl PassesOwn.never T.range (pg_name (i := 2) nd rfl (.inl rfl)) (we (pe_ix ix_list (lzE _) (lzE _) (by intro _ _; rfl)) ((llist (xs := [(0 : Int), 0, 0, 0, 1, 2]) (.cons (by intro _; rfl) xi (.cons (by intro _; rfl) xi (.cons (by intro _; rfl) xi (.cons (by intro _; rfl) xi (.cons (by intro _; rfl) xi (.cons (by intro _; rfl) xi .nil)))))) (by decide)) H (.refl H) _ fun v H1 s1 ⟨pl, ev, npl, ll⟩ =>
      wpick C2 (hr.mono (by omega)) (st'.up s1) (xw 0) xi (k := 6) (by decide) (by decide) fun H2 d hd t2 st2 => ?_))
    subst ev
    have nea : pl ≠ a := fun e => by rw [e, hus] at npl; cases npl
    obtain ⟨us1, hus1⟩ := (st'.up s1).lst
    have ll2 := t2.ls hus1 nea ll
    obtain ⟨e, he, he2⟩ : ∃ e : Nat, ([(0 : Int), 0, 0, 0, 1, 2])[d]? = some (e : Int) ∧ e ≤ 2 := by
      match d, hd with
      | 0, _ => exact ⟨0, rfl, by decide⟩
      | 1, _ => exact ⟨0, rfl, by decide⟩
      | 2, _ => exact ⟨0, rfl, by decide⟩
      | 3, _ => exact ⟨0, rfl, by decide⟩
      | 4, _ => exact ⟨1, rfl, by decide⟩
      | 5, _ => exact ⟨2, rfl, by decide⟩
    have hl2 := LsR.ints.mp ll2
    refine ⟨pl, _, (d : Int), .int (e : Int), rfl, rfl, .of hl2, atI_nat (by rw [List.getElem?_map, he]; rfl), e, rfl, by omega, ?_⟩
    have tk2 : TK H H2 := (tk_of s1).trans (t2.tk hus1)
    refine ⟨fun i σ H' => ∃ x1 x2 x3 b', σ = [some (.ref a), some x1, x2, x3, none, none] ∧ TK H2 H' ∧ But a H H' ∧ Stk (c + 2 - i) H' a ∧ Rep.rep H' x1 b' ∧ Okc (if i = 0 then 20 else if i = 1 then 42 else 86) n m b', ⟨v1, _, _, b, rfl, .refl _, (But.of s1).trans t2, st2, Rep.keep tk2 r1, ob⟩, fun i σ H' h => ?_, fun i σ H' hi h => ?_, fun σ H' h => ?_⟩
    · obtain ⟨_, _, _, _, _, k, _⟩ := h
      exact k
    · obtain ⟨x1, x2, x3, b', rfl, tk, bt, st, rb, ok⟩ := h
      generalize hB : (if i = 0 then 20 else if i = 1 then 42 else 86) = B at *
      have hB2 : B ≤ 42 ∧ 2 * B + 2 ≤ (if i + 1 = 0 then 20 else if i + 1 = 1 then 42 else 86) := by
        rw [if_neg (by omega)]
        rcases Nat.lt_or_ge i 1 with h | h
        · rw [if_pos (by omega)] at hB
          rw [if_pos (by omega)]; omega
        · rw [if_neg (by omega), if_pos (by omega)] at hB
          rw [if_neg (by omega)]; omega
      have okb := ok.okb (by omega)
      have st'' : Stk ((c + 2 - (i + 1)) + 1) H' a := st.mono (by omega)
      obtain ⟨us', hus'⟩ := st''.lst
      show WS _ _ _ _ _
      refine ssetW 3 nd (wcall2 C1 (hr.mono (by omega)) (wv 1 x1 (wpick C2 (hr.mono (by omega)) st'' (xw 0) (xwid ok.wf T.len (xv 1 rb)) ok.wf.one (by have := ok.n4; omega) fun H3 j hj t3 st3 => ?_)))
      have tk3 := t3.tk hus'
      have rb3 := Rep.keep tk3 rb
      refine ⟨x1, .int (j : Int), b', (j : Int), rfl, rb3, rfl, preSwap.of ok.wf hj (okb.fit (by omega)) (by have := ok.m; omega), fun v3 H4 s4 r4 => ?_⟩
      have ok' : Okc (2 * B + 2) n m (swI b' (j : Int)) := ok.sw hj
      have hrowN : ∀ line, line ∈ swI b' (j : Int) → line ≠ [] := fun line hl e => by
        have := ok'.wf.row line hl
        rw [e] at this
        have := ok'.wf.one
        simp at *
        omega
      have tlen : (swI b' (j : Int)).length ≤ sizeLine := by rw [ok'.wf.len]; exact len40 (by have := ok.m; omega)
      have bt4 := (bt.trans t3).trans (.of s4)
      have tk4 := (tk.trans tk3).trans (tk_of s4)
      refine sif (tle (xmaxM rfl T.max (comp1 (i := 5) (f := fun line : List Int => mxs (line.map fun e => (e.natAbs : Int))) rfl nd (by kernel_rfl) (wtup (xv 3 r4)) tlen fun k' line hline v' H6 s6 r6 _ _ _ _ _ => ?_).ev ?_) xi) (fun ht H6 s6 => ?_) (fun ht H6 s6 => wnil (wnil ?_))
      · have hl := ok'.wf.row line (get_mem hline)
        refine xmaxM rfl T.max (comp1 (i := 4) (f := fun e : Int => (e.natAbs : Int)) rfl nd (by kernel_rfl) (wtup (xv 5 r6)) (by rw [hl]; exact len40 (by have := ok.n4; omega)) fun k2 e he v2' H7 s7 r7 _ _ _ _ _ => xabs T.abs (xv 4 r7)).ev ?_
        intro z
        exact hrowN line (get_mem hline) (List.map_eq_nil_iff.mp z)
      · intro z
        have h1 := ok'.wf.len
        rw [List.map_eq_nil_iff.mp z] at h1
        have := ok'.wf.one
        have := ok'.wf.le
        simp at *
        omega
      · refine sset 1 nd (xv 3 (Rep.up s6 r4)) fun v5 H7 s7 r7 => wnil (wnil ⟨v5, _, _, _, rfl, tk4.trans (tk_of (s6.trans s7)), bt4.trans (.of (s6.trans s7)), st3.up ((s4.trans s6).trans s7), r7, ok'.mono hB2.2⟩)
      · exact ⟨x1, _, _, b', rfl, tk4.trans (tk_of s6), bt4.trans (.of s6), st3.up (s4.trans s6), Rep.up (s4.trans s6) rb3, ok.mono (by omega)⟩
    · obtain ⟨x1, x2, x3, b', rfl, tk, bt, st, rb, ok⟩ := h
      refine sret (xv 1 rb) fun u H4 s4 r4 => q u H4 b' (bt.trans (.of s4)) ((st.up s4).mono (by omega)) (ok.mono ?_) r4
      split
      · omega
      · split <;> omega
end
end Nh
set_option Elab.async false
set_option linter.all false
set_option maxRecDepth 100000
set_option maxHeartbeats 4000000
namespace Nh
open PySem PySem.Spec PyProof.Rows L2
/-! ### _law_stock, _law_gcd -/
theorem lt_bits {z : Int} {k : Nat} (h : Builtin.Int.intBits z ≤ k) : z.natAbs < 2 ^ k := by
  unfold Builtin.Int.intBits at h
  by_cases e : z = 0
  · subst e
    exact Nat.two_pow_pos _
  · rw [if_neg (by simpa using e)] at h
    exact (Nat.log2_lt (by omega)).mp (by omega)
section
variable {X : Cx} {σ : L2.St} {H : Hp} {e b : Expr} {pos p : Pos}
/-- the script -/
theorem xlenS {a : Addr} {ns : List Int} (hs : SqL X.K H a (ns.map V.int)) (hm : X.mg "len" = none) (ha : Ex X σ H e (Raw.mk (.ref a))) (na : Ns X e := by intro _; rfl) (hg : Gl X "len" := by rfl) : Ex X σ H (.Call (.Name "len" p) [e] [] pos) (ns.length : Int) :=
  e1B call_len_seq hg hm PySem.boot_len na ha fun H1 H2 v s1 s2 r Q q => ⟨a, _, by rw [show v = V.ref a from r], .inl (Same.seq (s1.trans s2) hs), by rw [List.length_map]; exact q _ _ s2 rfl⟩
theorem xixS {a : Addr} {ns : List Int} {i : Int} {y : Int} (hs : SqL X.K H a (ns.map V.int)) (ha : Ex X σ H e (Raw.mk (.ref a))) (hb : Ex X σ H b i) (h : atI ns i = some y) (hx : PlainIx b := by intro _ _; rfl) : Ex X σ H (.Subscript e b pos) y := fun H1 s Q q =>
  we (pe_ix ix_list (lzE e) (lzE b) hx) (x2 ha hb s fun v u H2 s2 r1 r2 => by
    unfold atI at h
    obtain ⟨j, hj, hy⟩ := Option.bind_eq_some_iff.mp h
    exact ⟨a, _, i, .int y, r1, r2, Same.seq (s.trans s2) hs, by unfold atI; rw [List.length_map, hj]; show (ns.map V.int)[j]? = _; rw [List.getElem?_map, hy]; rfl, q _ _ s2 rfl⟩)
end
def spStK (K : PySem.W.Frag) : Sp := fun vs H Q _ => ∃ (a : Addr) (ns : List Int) (i : Nat), vs = [.ref a, .int (i : Int)] ∧ SqL K H a (ns.map V.int) ∧ i ≤ 100 ∧ ns.length ≤ 1000 ∧ (∀ z ∈ ns, Builtin.Int.intBits z ≤ 1048576) ∧ ∀ q H', Same H H' → H q = none → Stk 900000 H' q → Q (.ref q) H'
section
variable {P : Program} {w : World} {K : PySem.W.Frag} {mg : Str → Option Value} {base : Heap}
theorem sc_l_stock : FnScope ["_law_script", "_law_place", "_law_cell", "_law_mixed"] ["_law_script", "_law_place"] (defScope (topS 29)) := ⟨rfl, rfl, rfl, by decide +kernel, rfl, by decide +kernel, by decide +kernel⟩
theorem ok_l_stock {f : Addr} {fd : FuncData} (T : Blt mg) (F : Fun K "_law_stock" "_law_stock" (topS 29) f fd) : FnOk P w K mg base CX0 1 f fd ["_law_script", "_law_place"] (spStK K) := by
  refine F.ok sc_l_stock (fun vs H Q E h => ?_) (fun cdv A outer s H vs Q E hr h => ⟨_, lzS _, ?_⟩)
  · obtain ⟨a, ns, i, rfl, _⟩ := h
    rfl
  · obtain ⟨a, ns, i, rfl, hs, hi, hl, hb, q⟩ := h
    have nd := sc_l_stock.nd
    refine sset 2 nd (xadd (xadd (xmul (xv 1 (d := (i : Int)) rfl) xi (mulx_ok (a := 10) (b := 20) (by omega) (by decide) (by decide))) (xmul xi (xlenS hs T.len (xw 0)) (mulx_ok (a := 10) (b := 20) (by decide) (by omega) (by decide)))) xi) fun v2 H1 s1 r2 => ?_
    have main : ∀ (cell : Int) (v2 : V) (H2 : Hp), v2 = V.int cell → cell.natAbs < 2 ^ 1048577 → Same H H2 → WS (cxOf CX0 P w K mg base ["_law_script", "_law_place", "_law_cell", "_law_mixed"] "_law_stock" (defScope (topS 29)) f cdv A outer s H E).nox ((defBody (topS 29)).drop 2) { nx := fun _ H' => Q .non H', rt := Q } [some (V.ref a), some (V.int (i : Int)), some v2, none] H2 := fun cell v2 H2 ev hcell s2 => by
      subst ev
      have hm : (cell * 613651).natAbs < 2 ^ 1048597 := by
        rw [Int.natAbs_mul, show (1048597 : Nat) = 1048577 + 20 by rfl, Nat.pow_add]
        exact Nat.mul_lt_mul'' hcell (by decide)
      have hsum : (cell * 613651 + (i : Int) * 15485863 + 977).natAbs < 2 ^ 1048600 := by
        have h1 : (cell * 613651 + (i : Int) * 15485863 + 977).natAbs ≤ (cell * 613651).natAbs + ((i : Int) * 15485863 + 977).natAbs := by omega
        have h2 : ((i : Int) * 15485863 + 977).natAbs < 2 ^ 40 := by omega
        have h3 : (2 : Nat) ^ 40 ≤ 2 ^ 1048597 := Nat.pow_le_pow_right (by decide) (by decide)
        have h4 : (2 : Nat) ^ 1048600 = 2 ^ 1048597 * 8 := by rw [show (1048600 : Nat) = 1048597 + 3 by rfl, Nat.pow_add]
        rw [h4]
        generalize (2 : Nat) ^ 1048597 = Z at *
        omega
      refine sset 3 nd (xmod (xint T.int (xpow (k := 3) (xadd (xadd (xmul (xv 2 (d := cell) rfl) xi (mulx_ok (b := 20) hcell (by decide) (by decide))) (xmul (xv 1 (d := (i : Int)) rfl) xi (mulx_ok (a := 10) (b := 30) (by omega) (by decide) (by decide)))) xi) xi (powx_ok hsum (by decide)))) (xadd (xpow (k := 29) (xi (i := 10)) xi (powx_ok (a := 4) (by decide) (by decide))) xi) (by decide +kernel)) fun v3 H3 s3 r3 => ?_
      obtain ⟨m1, hm1, hm2⟩ : ∃ m : Int, v3 = V.int m ∧ 0 ≤ m ∧ m < 2 ^ 100 := by
        refine ⟨_, r3, Int.emod_nonneg _ (by decide +kernel), ?_⟩
        refine Int.lt_of_lt_of_le (Int.emod_lt_of_pos _ (by decide +kernel)) (by decide +kernel)
      subst hm1
      refine sret (llist (.cons (by intro _; rfl) (xmax2 rfl T.max xi (xsub (xabs T.abs (xv 2 (d := cell) rfl)) (xpow (k := 18) (xi (i := 10)) xi (powx_ok (a := 4) (by decide) (by decide))))) (.cons (by intro _; rfl) (xv 3 (d := m1) rfl) (.cons (by intro _; rfl) xi .nil))) (by show 3 ≤ 4000; decide)) fun v H4 s4 ⟨q', ev, nq, l⟩ => ?_
      subst ev
      have ss := s2.trans s3
      refine q q' H4 (ss.trans s4) (ss.free nq) ⟨_, _, _, l, Int.le_max_left _ _, ?_, hm2.1, hm2.2, Int.le_refl _, by decide⟩
      have h1 : (max 0 ((cell.natAbs : Int) - 10 ^ 18)).natAbs ≤ cell.natAbs := by
        have : (0 : Int) ≤ 10 ^ 18 := by decide
        omega
      exact Nat.lt_of_le_of_lt h1 (Nat.lt_of_lt_of_le hcell (Nat.pow_le_pow_right (by decide) (by decide)))
    have hseq : SqL K H1 a (ns.map V.int) := Same.seq s1 hs
    refine sif (tlt (xv 1 (d := (i : Int)) rfl) (xlenS hseq T.len (xw 0))) (fun ht H2 s2 => ?_) (fun ht H2 s2 => wnil ?_)
    · have hlt : i < ns.length := by have := of_decide_eq_true ht; omega
      obtain ⟨z, hz⟩ := get_lt hlt
      refine sset 2 nd (xint T.int (xixS (Same.seq s2 hseq) (xw 0) (xv 1 (d := (i : Int)) rfl) (atI_nat hz))) fun v3 H3 s3 r3 => wnil ?_
      exact main z v3 H3 r3 (Nat.lt_of_lt_of_le (lt_bits (hb z (get_mem hz))) (Nat.pow_le_pow_right (by decide) (by decide))) ((s1.trans s2).trans s3)
    · refine main _ v2 H2 r2 ?_ (s1.trans s2)
      have h1 : ((i : Int) * 92821 + 7 * (ns.length : Int) + 41).natAbs < 2 ^ 40 := by omega
      exact Nat.lt_of_lt_of_le h1 (Nat.pow_le_pow_right (by decide) (by decide))
/-! gcd -/
def preG (x y : Int) : Prop := 0 ≤ x ∧ 0 ≤ y
def gcdI (x y : Int) : Int := (Nat.gcd x.natAbs y.natAbs : Nat)
theorem sc_l_gcd : FnScope ["_law_one", "_law_other"] ["_law_one", "_law_other"] (defScope (topS 31)) := ⟨rfl, rfl, rfl, by decide +kernel, rfl, by decide +kernel, by decide +kernel⟩
theorem ok_l_gcd {f : Addr} {fd : FuncData} (T : Blt mg) (F : Fun K "_law_gcd" "_law_gcd" (topS 31) f fd) : FnOk P w K mg base CX0 1 f fd ["_law_one", "_law_other"] (sp2 preG gcdI) := by
  refine F.ok sc_l_gcd (fun vs H Q E h => ?_) (fun cdv A outer s H vs Q E hr h => ⟨_, lzS _, ?_⟩)
  · obtain ⟨v, u, x, y, rfl, _⟩ := h
    rfl
  · obtain ⟨v0, v1, x, y, rfl, r0, r1, ⟨x0, y0⟩, q⟩ := h
    have nd := sc_l_gcd.nd
    refine swhileG PassesOwn.never (fun (g : Nat × Nat) σ H' => σ = [some (.int (g.1 : Int)), some (.int (g.2 : Int))] ∧ Same H H' ∧ Nat.gcd g.1 g.2 = Nat.gcd x.natAbs y.natAbs) (fun g => g.2) (fun g => decide ((0 : Int) < (g.2 : Int))) (x.natAbs, y.natAbs) ⟨?_, .refl _, rfl⟩ (fun g σ H5 h => ?_) (fun g σ H5 h ht H6 s6 => ?_) (fun g σ H5 h ht H6 s6 => ?_)
    · rw [show v0 = V.int x from r0, show v1 = V.int y from r1]
      show [some (V.int x), some (V.int y)] = [some (V.int (x.natAbs : Int)), some (V.int (y.natAbs : Int))]
      rw [Int.natAbs_of_nonneg x0, Int.natAbs_of_nonneg y0]
    · obtain ⟨rfl, k, e⟩ := h
      exact tgt (xv 1 (d := (g.2 : Int)) rfl) xi
    · obtain ⟨g1, g2⟩ := g
      obtain ⟨rfl, k, e⟩ := h
      dsimp only at *
      have hp : 0 < g2 := by have := of_decide_eq_true ht; omega
      refine spar 0 1 rfl nd (xv 1 (d := (g2 : Int)) rfl) (xmod (xint T.int (xv 0 (d := (g1 : Int)) rfl)) (xv 1 (d := (g2 : Int)) rfl) (by omega)) fun v u H7 H8 s7 r7 s8 r8 => wnil ⟨(g2, g1 % g2), ⟨?_, (k.trans s6).trans (s7.trans s8), ?_⟩, Nat.mod_lt _ hp⟩
      · rw [show v = V.int (g2 : Int) from r7, show u = V.int ((g1 : Int) % (g2 : Int)) from r8, ← Int.natCast_emod]; rfl
      · show Nat.gcd g2 (g1 % g2) = _
        rw [← e, Nat.gcd_comm g2, ← Nat.gcd_rec, Nat.gcd_comm]
    · obtain ⟨g1, g2⟩ := g
      obtain ⟨rfl, k, e⟩ := h
      dsimp only at *
      have hz : g2 = 0 := by have := of_decide_eq_false ht; omega
      subst hz
      rw [Nat.gcd_zero_right] at e
      refine sret (xv 0 (d := (g1 : Int)) rfl) fun v H7 s7 r7 => q v H7 ((k.trans s6).trans s7) ?_
      unfold gcdI
      rw [← e]
      exact r7
end
end Nh
set_option Elab.async false
set_option linter.all false
set_option maxRecDepth 100000
set_option maxHeartbeats 4000000
namespace Nh
open PySem PySem.Spec PyProof.Rows L2
/-! ### comprehensions that pick -/
section
variable {X : Cx} {σ : L2.St} {H : Hp} {D : Ends} {rest : List Stmt} {e elt : Expr} {scope : Scope} {pos p p3 : Pos}
/-- [e for y in range(n)] of ints: each item is read at a stock -/
theorem lcWS {i : Nat} {P : Int → Prop} {Q : VK} {a : Addr} {n c N : Nat} (hN : Ex X σ H e (n : Int)) (hn : n ≤ 4000) (hN2 : c + n ≤ N) (st : Stk N H a)
    (step : ∀ k H1, k < n → But a H H1 → Stk (N - k) H1 a → InBlk X scope fun Y => WE Y elt ((wipe σ [i]).set i (some (.int (k : Int)))) H1 fun u H2 => ∃ x : Int, u = .int x ∧ P x ∧ But a H1 H2 ∧ Stk (N - (k + 1)) H2 a)
    (done : ∀ q xs H', xs.length = n → (∀ x, x ∈ xs → P x) → H q = none → LsR H' q xs → But a H H' → Stk c H' a → Q (.ref q) H') :
    tLc (iRng1 (tCons (WE X e) tNil)) (gName i) tYes (fun σ H Q => InBlk X scope fun Y => WE Y elt σ H Q) [i] σ H Q :=
  lcW (P := P) (hN H (.refl H) _ fun v Hb s r => by
    obtain ⟨ust, hust⟩ := st.lst
    have hb := s _ _ hust
    refine ⟨n, r, by omega, hn, fun k H' => But a H H' ∧ Stk (N - k) H' a, ⟨.of s, st.up s⟩, fun k H1 ⟨b1, s1⟩ D vs hD h1 H2 b2 => ?_, fun k D H1 hD ⟨b1, s1⟩ h1 o => ⟨b1.trans (.of (same_new h1)), s1.up (same_new h1)⟩, fun k H1 hk ⟨b1, s1⟩ => ?_, fun q xs H' hl hP hq l ⟨b1, s1⟩ => done q xs H' hl hP (s.free hq) l b1 (s1.mono (by omega))⟩
    · have ne : a ≠ D := fun e => by rw [← e, hb] at hD; cases hD
      exact ⟨b1.new (s.free hD) b2, s1.but b2 h1 ne⟩
    · intro b1' b2' b3' b4' b5'
      refine WE.mono (step k H1 hk b1 s1 b1' b2' b3' b4' b5') fun u H2 ⟨x, eu, hP, b2, s2⟩ => ⟨x, eu, hP, ⟨b1.trans b2, s2⟩, fun D vs hD h1 => b2 D _ (fun e => by rw [e, hb] at hD; cases hD) h1⟩)
/-- [e for y in range(m)], each item a new list of ints, read at a stock -/
theorem lcWL {i : Nat} {P : List Int → Prop} {Q : VK} {a : Addr} {m c w N : Nat} (hN : Ex X σ H e (m : Int)) (hm : m ≤ 4000) (hN2 : c + w * m ≤ N) (st : Stk N H a)
    (step : ∀ k H1, k < m → But a H H1 → Stk (N - w * k) H1 a → InBlk X scope fun Y => WE Y elt ((wipe σ [i]).set i (some (.int (k : Int)))) H1 fun u H2 => ∃ q r, u = .ref q ∧ H1 q = none ∧ LsR H2 q r ∧ P r ∧ But a H1 H2 ∧ Stk (N - w * (k + 1)) H2 a)
    (done : ∀ p qs rs H', rs.length = m → (∀ r, r ∈ rs → P r) → H p = none → (∀ q, q ∈ qs → H q = none) → LL H' p qs rs → But a H H' → Stk c H' a → Q (.ref p) H') :
    tLc (iRng1 (tCons (WE X e) tNil)) (gName i) tYes (fun σ H Q => InBlk X scope fun Y => WE Y elt σ H Q) [i] σ H Q :=
  lcWG (hN H (.refl H) _ fun v Hb s r => by
    obtain ⟨ust, hust⟩ := st.lst
    have hb := s _ _ hust
    refine ⟨m, r, by omega, hm, fun D hD => ?_⟩
    have ne : a ≠ D := fun e => by rw [← e, hb] at hD; cases hD
    refine ⟨fun k us H' => ∃ qs rs, us = qs.map V.ref ∧ rs.length = k ∧ LL H' D qs rs ∧ (∀ r, r ∈ rs → P r) ∧ (∀ q, q ∈ qs → H q = none) ∧ But a H H' ∧ Stk (N - w * k) H' a,
      ⟨[], [], rfl, rfl, ⟨upd_same, rfl, fun i q r a => by simp at a, List.nodup_nil, List.not_mem_nil⟩, fun r hr => absurd hr List.not_mem_nil, fun r hr => absurd hr List.not_mem_nil, .of (s.trans (same_new hD)), (st.up (s.trans (same_new hD))).mono (by omega)⟩, fun k us H1 hk hl hx iv => ?_, fun us H' hl hx iv => ?_⟩
    · obtain ⟨qs, rs, rfl, hrl, ll, hP, hnew, b1, s1⟩ := iv
      intro b1' b2' b3' b4' b5'
      refine WE.mono (step k H1 hk b1 s1 b1' b2' b3' b4' b5') fun u H2 ⟨q, r, eu, nq, l, hr, b2, s2⟩ => ?_
      subst eu
      have h2 := b2 D _ (Ne.symm ne) hx
      have naq : a ∉ qs := fun z => by have := hnew a z; rw [hust] at this; cases this
      have ll2 := ll.but b2 (Ne.symm ne) naq
      have nqD : q ≠ D := fun e => by rw [e, hx] at nq; cases nq
      refine ⟨h2, qs ++ [q], rs ++ [r], by rw [List.map_append]; rfl, by rw [List.length_append, hrl]; rfl, ll2.snoc nqD (ll.fresh nq) l, fun z hz => ?_, fun z hz => ?_, ?_, s2.but .upd h2 ne⟩
      · rcases List.mem_append.mp hz with w | w
        · exact hP z w
        · rw [List.mem_singleton.mp w]; exact hr
      · rcases List.mem_append.mp hz with w | w
        · exact hnew z w
        · rw [List.mem_singleton.mp w]
          by_cases hqs : H q = none
          · exact hqs
          · obtain ⟨o, ho⟩ := Option.ne_none_iff_exists'.mp hqs
            by_cases hqa : q = a
            · obtain ⟨us1, hus1⟩ := s1.lst
              rw [hqa, hus1] at nq; cases nq
            · rw [b1 q o hqa ho] at nq; cases nq
      · exact (b1.trans b2).new (s.free hD) .upd
    · obtain ⟨qs, rs, rfl, hrl, ll, hP, hnew, b1, s1⟩ := iv
      exact done D qs rs H' hrl hP (s.free hD) hnew ll b1 (s1.mono (by omega)))
/-- rows + rows -/
theorem wjoin {a b : Expr} {Q : VK} (h : WE X a σ H fun v H1 => WE X b σ H1 fun u H2 => ∃ p qs rs p' qs' rs', v = .ref p ∧ u = .ref p' ∧ LL H2 p qs rs ∧ LL H2 p' qs' rs' ∧ (∀ q, q ∈ qs' → q ∉ qs) ∧ rs.length + rs'.length ≤ 4000 ∧ ∀ t, H2 t = none → LL (upd H2 t (.lst (qs.map V.ref ++ qs'.map V.ref))) t (qs ++ qs') (rs ++ rs') → Q (.ref t) (upd H2 t (.lst (qs.map V.ref ++ qs'.map V.ref)))) : WE X (.BinOp a .Add b pos) σ H Q :=
  we (pe_op op_cat (lzE a) (lzE b)) (WE.mono h fun v H1 h1 => WE.mono h1 fun u H2 z => by
    obtain ⟨p, qs, rs, p', qs', rs', rfl, rfl, ll, ll', hn, hz, k⟩ := z
    exact ⟨p, p', _, _, rfl, rfl, ll.out, ll'.out, by rw [List.length_map, List.length_map, ll.len, ll'.len]; exact Nat.le_trans hz (by decide), fun t ht => k t ht (ll.join ll' ht hn)⟩)
end
end Nh
set_option Elab.async false
set_option linter.all false
set_option maxRecDepth 100000
namespace Nh
open PySem PySem.Spec PyProof.Rows L2
/-! ### displays of written ints -/
def cvalI : Expr → Option Int
  | .Constant (.int i) _ _ => some i
  | _ => none
theorem cval_e {X : Cx} {σ : L2.St} {H : Hp} : ∀ {e : Expr} {x : Int}, cvalI e = some x → Ns X e ∧ Ex X σ H e x
  | .Constant (.int i) j p, x, h => by
    have e : i = x := Option.some.inj h
    subst e
    exact ⟨by intro _; rfl, xi⟩
theorem ea_lits {X : Cx} {σ : L2.St} {H : Hp} : ∀ {es : List Expr} {xs : List Int}, es.map cvalI = xs.map some → EA X σ H es xs
  | [], [], _ => .nil
  | [], _ :: _, h => by cases h
  | _ :: _, [], h => by cases h
  | e :: es, x :: xs, h => by
    rw [List.map_cons, List.map_cons] at h
    injection h with h1 h2
    obtain ⟨n, v⟩ := cval_e (X := X) (σ := σ) (H := H) h1
    exact .cons n v (ea_lits h2)
theorem llits {X : Cx} {σ : L2.St} {H : Hp} {es : List Expr} {pos : Pos} (xs : List Int) (h : es.map cvalI = xs.map some) (hz : xs.length ≤ 4000) : EL X σ H (.List es pos) xs := llist (ea_lits h) hz
end Nh
set_option Elab.async false
set_option linter.all false
set_option maxRecDepth 100000
namespace Nh
open PySem PySem.Spec PyProof.Rows L2
/-! ### [..][_law_pick(..)] -/
section
variable {X : Cx} {σ : L2.St} {H : Hp} {α : Type} [Rep α]
theorem wpickA {es : List Expr} {o kE : Expr} {a : Addr} {n k : Nat} {p p1 p2 pos : Pos} {Q : VK} (xs : List α) (C : LPi X.prog X.w X.K X.mg X.base) (hr : Room 1 X.A) (hs : Stk (n + 1) H a) (ho : ∀ H, Ex X σ H o (Raw.mk (.ref a))) (hb : ∀ H, Ex X σ H kE (k : Int)) (hk : k = xs.length) (hes : EA X σ H es xs) (k1 : 1 ≤ k) (k4 : k ≤ 4000)
    (q : ∀ H' v x, x ∈ xs → Rep.rep H' v x → But a H H' → Stk n H' a → Q v H') (hg : Gl X "_law_pick" := by rfl) (na : Ns X o := by intro _; rfl) (nb : Ns X kE := by intro _; rfl) :
    WE X (.Subscript (.List es p1) (.Call (.Name "_law_pick" p) [o, kE] [] p2) pos) σ H Q := by
  refine we (pe_ix ix_list (lzE (.List es p1)) (lzE (.Call (.Name "_law_pick" p) [o, kE] [] p2)) (by intro _ _; rfl)) ?_
  refine (llist hes (by omega)) H (.refl H) _ fun v H1 s1 ⟨pl, ev, npl, l⟩ => ?_
  refine wpick C hr (hs.up s1) (ho H1) (hb H1) k1 (by omega) (fun H2 d hd t2 st2 => ?_) hg na nb
  subst ev
  obtain ⟨us, hus⟩ := hs.lst
  obtain ⟨us1, hus1⟩ := (hs.up s1).lst
  have ne : pl ≠ a := fun e => by rw [e, hus] at npl; cases npl
  obtain ⟨vs, h2, rv⟩ := t2.ls hus1 ne l
  obtain ⟨x, hx⟩ := get_lt (l := xs) (i := d) (by omega)
  obtain ⟨z, hz, rz⟩ := rv.get hx
  exact ⟨pl, vs, (d : Int), z, rfl, rfl, .of h2, atI_nat hz, q H2 z x (get_mem hx) rz ((But.of s1).trans t2) st2⟩
theorem wpickI {es : List Expr} {o kE : Expr} {a : Addr} {n k : Nat} {p p1 p2 pos : Pos} {Q : VK} (xs : List Int) (C : LPi X.prog X.w X.K X.mg X.base) (hr : Room 1 X.A) (hs : Stk (n + 1) H a) (ho : ∀ H, Ex X σ H o (Raw.mk (.ref a))) (hb : ∀ H, Ex X σ H kE (k : Int)) (hk : k = xs.length) (hes : es.map cvalI = xs.map some) (k1 : 1 ≤ k) (k4 : k ≤ 4000)
    (q : ∀ H' x, x ∈ xs → But a H H' → Stk n H' a → Q (.int x) H') (hg : Gl X "_law_pick" := by rfl) (na : Ns X o := by intro _; rfl) (nb : Ns X kE := by intro _; rfl) :
    WE X (.Subscript (.List es p1) (.Call (.Name "_law_pick" p) [o, kE] [] p2) pos) σ H Q :=
  wpickA xs C hr hs ho hb hk (ea_lits hes) k1 k4 (fun H' v x hx r b s => by rw [show v = V.int x from r]; exact q H' x hx b s) hg na nb
end
end Nh
set_option Elab.async false
set_option linter.all false
set_option maxRecDepth 100000
namespace Nh
open PySem PySem.Spec PyProof.Rows L2
/-! ### more displays -/
/-- what is read off written expressions -/
def Reads {α : Type} [Rep α] (dec : Expr → Option α) : Prop := ∀ (X : Cx) (σ : L2.St) (H : Hp) (e : Expr) (x : α), dec e = some x → Ns X e ∧ Ex X σ H e x
theorem ea_of {α : Type} [Rep α] {X : Cx} {σ : L2.St} {H : Hp} {dec : Expr → Option α} (hd : Reads dec) : ∀ {es : List Expr} {xs : List α}, es.map dec = xs.map some → EA X σ H es xs
  | [], [], _ => .nil
  | [], _ :: _, h => by cases h
  | _ :: _, [], h => by cases h
  | e :: es, x :: xs, h => by
    rw [List.map_cons, List.map_cons] at h
    injection h with h1 h2
    obtain ⟨n, v⟩ := hd X σ H e x h1
    exact .cons n v (ea_of hd h2)
def cvalP : Expr → Option (Int × Int)
  | .Tuple [a, b] _ _ => match cvalI a, cvalI b with
    | some x, some y => some (x, y)
    | _, _ => none
  | _ => none
theorem reads_p : Reads cvalP := fun X σ H e x h => by
  unfold cvalP at h
  split at h
  · split at h
    · rename_i x1 y1 h1 h2
      cases h
      obtain ⟨n1, v1⟩ := cval_e (X := X) (σ := σ) (H := H) h1
      obtain ⟨n2, v2⟩ := cval_e (X := X) (σ := σ) (H := H) h2
      exact ⟨by intro _; rfl, xpair v1 v2 n1 n2⟩
    · cases h
  · cases h
def lits : List Expr → Option (List Int)
  | [] => some []
  | e :: es => match cvalI e, lits es with
    | some x, some xs => some (x :: xs)
    | _, _ => none
theorem lits_ea {X : Cx} {σ : L2.St} {H : Hp} : ∀ {es : List Expr} {xs : List Int}, lits es = some xs → EA X σ H es xs
  | [], xs, h => by
    unfold lits at h
    cases h
    exact .nil
  | e :: es, xs, h => by
    unfold lits at h
    split at h
    · rename_i x r h1 h2
      cases h
      obtain ⟨n, v⟩ := cval_e (X := X) (σ := σ) (H := H) h1
      exact .cons n v (lits_ea h2)
    · cases h
theorem xtupA {α : Type} [Rep α] {X : Cx} {σ : L2.St} {H : Hp} {es : List Expr} {xs : List α} {k : Nat} {pos : Pos} (h : EA X σ H es xs) (hz : xs.length ≤ 4000) : Ex X σ H (.Tuple es k pos) xs := fun H1 s Q q =>
  we (pe_tup (pa_all es h.ns)) (h.all H1 s _ fun vs H2 s2 r2 => ⟨by rw [r2.length]; exact len_small hz, fun p hp => q _ _ (s2.trans (same_new hp)) ⟨p, vs, rfl, upd_same, r2.up (tk_of (same_new hp))⟩⟩)
theorem EA.len {α : Type} [Rep α] {X : Cx} {σ : L2.St} {H : Hp} : ∀ {es : List Expr} {xs : List α}, EA X σ H es xs → es.length = xs.length
  | _, _, .nil => rfl
  | _, _, .cons _ _ r => congrArg (· + 1) (EA.len r)
def cval4 : Expr → Option (List Int)
  | .Tuple es _ _ => if es.length ≤ 100 then lits es else none
  | _ => none
theorem reads_4 : Reads cval4 := fun X σ H e x h => by
  unfold cval4 at h
  split at h
  · split at h
    · have r := lits_ea (X := X) (σ := σ) (H := H) h
      exact ⟨by intro _; rfl, xtupA r (by rw [← r.len]; omega)⟩
    · cases h
  · cases h
/-! lists of new lists of ints -/
def LRows (H0 H : Hp) (vs : List V) (rs : List (List Int)) : Prop := A2 (fun v r => ∃ q, v = V.ref q ∧ H0 q = none ∧ LsR H q r) vs rs
theorem LRows.up {H0 H H' : Hp} {vs : List V} {rs : List (List Int)} (h : LRows H0 H vs rs) (s : Same H H') : LRows H0 H' vs rs := A2.mono (fun v r ⟨q, e, n, l⟩ => ⟨q, e, n, l.up s⟩) h
theorem LRows.dn {H0 H1 H : Hp} {vs : List V} {rs : List (List Int)} (h : LRows H1 H vs rs) (s : Same H0 H1) : LRows H0 H vs rs := A2.mono (fun v r ⟨q, e, n, l⟩ => ⟨q, e, s.free n, l⟩) h
def cvalL : Expr → Option (List Int)
  | .List es _ => if es.length ≤ 100 then lits es else none
  | _ => none
theorem cvalL_e {X : Cx} {σ : L2.St} {H : Hp} {e : Expr} {r : List Int} (h : cvalL e = some r) : Ns X e ∧ EL X σ H e r := by
  unfold cvalL at h
  split at h
  · split at h
    · have z := lits_ea (X := X) (σ := σ) (H := H) h
      exact ⟨by intro _; rfl, llist z (by rw [← z.len]; omega)⟩
    · cases h
  · cases h
theorem rows_ns {X : Cx} : ∀ {es : List Expr} {rs : List (List Int)}, es.map cvalL = rs.map some → ∀ e, e ∈ es → Ns X e
  | [], _, _, e, he => absurd he List.not_mem_nil
  | _ :: _, [], h, _, _ => by cases h
  | e :: es, r :: rs, h, d, hd => by
    rw [List.map_cons, List.map_cons] at h
    injection h with h1 h2
    rcases List.mem_cons.mp hd with z | z
    · rw [z]
      exact (cvalL_e (σ := []) (H := fun _ => none) h1).1
    · exact rows_ns h2 d z
theorem rows_all {X : Cx} {σ : L2.St} : ∀ {es : List Expr} {rs : List (List Int)}, es.map cvalL = rs.map some → ∀ (H0 H1 : Hp), Same H0 H1 → ∀ Q : List V → Hp → Prop, (∀ vs H', Same H1 H' → LRows H0 H' vs rs → Q vs H') → tAll X es σ H1 Q
  | [], [], _, H0, H1, s, Q, q => q [] H1 (.refl _) .nil
  | [], _ :: _, h, _, _, _, _, _ => by cases h
  | _ :: _, [], h, _, _, _, _, _ => by cases h
  | e :: es, r :: rs, h, H0, H1, s, Q, q => by
    rw [List.map_cons, List.map_cons] at h
    injection h with h1 h2
    show WE X _ σ H1 fun v H2 => tAll X _ σ H2 fun vs H3 => Q (v :: vs) H3
    exact (cvalL_e h1).2 H1 (.refl H1) _ fun v H2 s2 ⟨p, ev, np, l⟩ => rows_all h2 H0 H2 (s.trans s2) _ fun vs H3 s3 r3 => q (v :: vs) H3 (s2.trans s3) (.cons ⟨p, ev, s.free np, l.up s3⟩ r3)
theorem lrows {X : Cx} {σ : L2.St} {H : Hp} {es : List Expr} {pos : Pos} (rs : List (List Int)) (h : es.map cvalL = rs.map some) (hz : rs.length ≤ 4000) : EV X σ H (.List es pos) fun H1 H' v => ∃ p vs, v = .ref p ∧ H1 p = none ∧ H' p = some (.lst vs) ∧ LRows H1 H' vs rs := fun H1 s Q q =>
  we (pe_lst (pa_all es (rows_ns h))) (rows_all h H1 H1 (.refl _) _ fun vs H2 s2 r2 => ⟨by rw [r2.length]; exact len_small hz, fun p hp => q _ _ (s2.trans (same_new hp)) ⟨p, vs, rfl, s2.free hp, upd_same, r2.up (same_new hp)⟩⟩)
section
variable {X : Cx} {σ : L2.St} {H : Hp} {D : Ends} {rest : List Stmt} {α : Type} [Rep α] {a b c e : Expr} {pos p : Pos}
/-- a if c else b with effects -/
theorem wifE {Q : VK} (h : WT X c σ H fun t H1 => if t = true then WE X a σ H1 Q else WE X b σ H1 Q) : WE X (.IfExp c a b pos) σ H Q := we (pe_ifExp (lzT c) (lzE a) (lzE b)) h
/-- sum(xs) -/
theorem xsumO {xs : List Int} (hc : X.calm = true) (hm : X.mg "sum" = none) (ha : EO X σ H a xs) (na : Ns X a := by intro _; rfl) (hg : Gl X "sum" := by rfl) : Ex X σ H (.Call (.Name "sum" p) [a] [] pos) xs.sum :=
  e1B (cr_sum hc) hg hm (by decide +kernel) na ha fun H1 H2 v s1 s2 r Q q => by
    obtain ⟨t, rfl, l⟩ := r
    exact ⟨t, xs, rfl, .of (LsR.ints.mp l), q _ _ s2 rfl⟩
/-- a[i], b[j] = e1, e2 -/
theorem sput2 {o1 i1 o2 i2 : Expr} {p1 p2 pt pt2 : Pos} {kt k2 : Nat} (hc : X.calm = true)
    (h : WE X a σ H fun v H1 => WE X b σ H1 fun u H2 => ∀ t, H2 t = none → WE X o1 σ (upd H2 t (.tup [v, u])) fun x H4 => WE X i1 σ H4 fun y H5 => ∃ (q : Addr) (vs : List V) (i : Int) (j : Nat), x = .ref q ∧ y = .int i ∧ H5 q = some (.lst vs) ∧ ixN vs.length i = some j ∧
      WE X o2 σ (upd H5 q (.lst (vs.set j v))) fun x2 H6 => WE X i2 σ H6 fun y2 H7 => ∃ (q2 : Addr) (us : List V) (i2 : Int) (j2 : Nat), x2 = .ref q2 ∧ y2 = .int i2 ∧ H7 q2 = some (.lst us) ∧ ixN us.length i2 = some j2 ∧ WS X rest D σ (upd H7 q2 (.lst (us.set j2 u))))
    (na : Ns X a := by intro _; rfl) (nb : Ns X b := by intro _; rfl)
    (ha1 : ∀ v, assign (.Subscript o1 i1 p1) X.env v = (do
      let ov ← holding [v] (eval o1 X.env)
      let iv ← holding [v, ov] (eval i1 X.env)
      standAt p1
      holding [v, ov, iv] (setItem ov iv v)
      release [v, ov, iv] []) := by intro _; rfl)
    (ha2 : ∀ v, assign (.Subscript o2 i2 p2) X.env v = (do
      let ov ← holding [v] (eval o2 X.env)
      let iv ← holding [v, ov] (eval i2 X.env)
      standAt p2
      holding [v, ov, iv] (setItem ov iv v)
      release [v, ov, iv] []) := by intro _; rfl)
    (hs : swapsWithSole [.Tuple [.Subscript o1 i1 p1, .Subscript o2 i2 p2] kt pt] (.Tuple [a, b] k2 pt2) pos.line X.env = pure false := by rfl) (hw : swappedStores [.Tuple [.Subscript o1 i1 p1, .Subscript o2 i2 p2] kt pt] (.Tuple [a, b] k2 pt2) X.env = pure none := by rfl)
    (h1 : (assignEach [.Tuple [.Subscript o1 i1 p1, .Subscript o2 i2 p2] kt pt] X.env).map (·.2) = [assign (.Tuple [.Subscript o1 i1 p1, .Subscript o2 i2 p2] kt pt) X.env] := by rfl) :
    WS X (.Assign [.Tuple [.Subscript o1 i1 p1, .Subscript o2 i2 p2] kt pt] (.Tuple [a, b] k2 pt2) pos :: rest) D σ H :=
  wcons (w1 (ps_asg (pe_tup (pa_cons (lzE a) (pa_cons (lzE b) pa_nil (nb _)) (na _))) (pg_tup hc (pgs_cons (pg_sub (lzE o1) (lzE i1) set_list ha1) (pgs_cons (pg_sub (lzE o2) (lzE i2) set_list ha2) pgs_nil))) hs hw h1)
    (WE.mono h fun v H1 z1 => WE.mono z1 fun u H2 z2 => ⟨by show 2 ≤ sizeLine; decide, fun t ht => ⟨t, [v, u], rfl, .of upd_same, rfl, v, [u], rfl, WE.mono (z2 t ht) fun x H4 z4 => WE.mono z4 fun y H5 z5 => by
      obtain ⟨q, vs, i, j, ex, ey, hq, hj, z6⟩ := z5
      exact ⟨q, vs, i, j, ex, ey, hq, hj, u, [], rfl, WE.mono z6 fun x2 H6 z7 => WE.mono z7 fun y2 H7 z8 => by
        obtain ⟨q2, us, i2', j2, ex2, ey2, hq2, hj2, z9⟩ := z8
        exact ⟨q2, us, i2', j2, ex2, ey2, hq2, hj2, rfl, z9⟩⟩⟩⟩))
/-- for .. in e, e a list made with effects -/
theorem sforLW {tg iter : Expr} {g : TG} {body : List Stmt} (hc : X.calm = true) (hp : PassesOwn (model X.prog X.w) X.A X.env X.xe) (hg : PG X tg g)
    (h : WE X iter σ H fun v Hb => ∃ (t : Addr) (xs : List α), v = .ref t ∧ LsR Hb t xs ∧ ∃ Pv : Nat → L2.St → Hp → Prop, Pv 0 σ Hb ∧ (∀ i σ1 H1, Pv i σ1 H1 → Kp Hb (some t) H1) ∧
      (∀ (i : Nat) x σ1 H1, xs[i]? = some x → Pv i σ1 H1 → ∀ v H2, Same H1 H2 → Rep.rep H2 v x → g v σ1 H2 fun σ3 H3 => WS X body { nx := Pv (i + 1), ct := Pv (i + 1), bk := WS X rest D, rt := D.rt } σ3 H3) ∧
      ∀ σ1 H1, Pv xs.length σ1 H1 → WS X rest D σ1 H1) (hs : ∀ x, foldedSetIterable iter X.env x = pure x := by intro _; rfl) : WS X (.For tg iter body [] pos :: rest) D σ H :=
  wcons (w1 (ps_for hp hc (pi_list (lzE iter)) hg (lzS body) hs) (WE.mono h fun v Hb ⟨t, xs, ev, l, Pv, h0, hk, st, dn⟩ => by
    subst ev
    have it := its_lst (K := X.K) l
    obtain ⟨vs, hv, _⟩ := id l
    refine ⟨t, rfl, ⟨vs, .of hv⟩, fun i m σ H => m = xs.length - i ∧ i ≤ xs.length ∧ Pv i σ H, ⟨_, rfl, Nat.zero_le _, h0⟩, ?_⟩
    rintro i m σ1 H1 ⟨rfl, hi, p⟩
    have kp := hk i σ1 H1 p
    by_cases hlt : i < xs.length
    · have hx : xs[i]? = some xs[i] := List.getElem?_eq_getElem hlt
      obtain ⟨g1, g2⟩ := it.go i _ H1 hx kp
      refine .inr ⟨g1, Pv (i + 1), fun σ' H' p' => ⟨xs.length - (i + 1), by omega, rfl, hlt, p'⟩, fun v H2 y => ?_⟩
      obtain ⟨s3, r3⟩ := g2 v H2 y
      exact st i _ σ1 H1 hx p v H2 s3 r3
    · have e : i = xs.length := by omega
      subst e
      exact .inl ⟨it.stop H1 kp, dn σ1 H1 p⟩))
end
end Nh
set_option Elab.async false
set_option linter.all false
set_option maxRecDepth 100000
set_option maxHeartbeats 4000000
namespace Nh
open PySem PySem.Spec PyProof.Rows L2
/-! ### _law_board -/
theorem at2_left {t ms : Bd} {i : Nat} (h : i < t.length) (j : Nat) : at2 (t ++ ms) i j = at2 t i j := by
  unfold at2
  congr 1
  rw [List.getD_eq_getElem?_getD, List.getD_eq_getElem?_getD, List.getElem?_append_left h]
theorem Tb.okc {n : Nat} {w : Nat → Int} {t ms : Bd} (h : Tb n 20 w t) (hw : ∀ i, i < n → 0 < w i) (n1 : 1 ≤ n) (n4 : n ≤ 4) (hm : ms.length ≤ 90) (hr : ∀ r, r ∈ ms → r.length = n ∧ ∀ e, e ∈ r → e.natAbs < 2 ^ 20) : Okc 20 n (n + ms.length) (t ++ ms) := by
  refine ⟨⟨n1, Nat.le_add_right .., by rw [List.length_append, h.len], fun r hx => ?_⟩, ⟨w, hw, fun i j hi hj => ?_⟩, fun r hx e he => ?_, n4, by omega⟩
  · rcases List.mem_append.mp hx with z | z
    · exact h.row r z
    · exact (hr r z).1
  · rw [at2_left (by rw [h.len]; exact hi), at2_left (by rw [h.len]; exact hj)]
    exact h.sk i j hi hj
  · rcases List.mem_append.mp hx with z | z
    · obtain ⟨i, hi⟩ := List.getElem?_of_mem z
      obtain ⟨j, hj⟩ := List.getElem?_of_mem he
      have hil := lt_get hi
      have hjl := lt_get hj
      rw [h.row r z] at hjl
      rw [h.len] at hil
      have := h.bits i j hil hjl
      unfold at2 at this
      rw [getD_of hi, getD_of hj] at this
      exact this
    · exact (hr r z).2 e he
abbrev LGc (P : Program) (w : World) (K : PySem.W.Frag) (mg : Str → Option Value) (base : Heap) : Prop := Cal P w K mg base 1 "_law_gcd" ["_law_one", "_law_other"] (sp2 preG gcdI)
def spBo (c : Nat) : Sp := fun vs H Q _ => ∃ (a : Addr) (n mk most : Nat), vs = [.ref a, .int (n : Int), .int (mk : Int), .int (most : Int)] ∧ 1 ≤ n ∧ n ≤ 4 ∧ mk ≤ 3 ∧ 1 ≤ most ∧ most ≤ 4 ∧ Stk (c + 60) H a ∧
  ∀ u H' b, But a H H' → Stk c H' a → Okc 20 n (n + mk) b → Rep.rep H' u b → Q u H'
/-- what is drawn for two places -/
structure Dr (w1 w2 most : Nat) (g tp : Nat) : Prop where
  d1 : g ∣ w1
  d2 : g ∣ w2
  g1 : 1 ≤ g
  top : tp ≤ 64
theorem dr_ok {w1 w2 most : Nat} (h1 : 1 ≤ w1) (h2 : w1 ≤ 16) (h3 : 1 ≤ w2) (hm : most ≤ 4) : Dr w1 w2 most (Nat.gcd w1 w2) (most * Nat.gcd w1 w2 / max w1 w2) := by
  refine ⟨Nat.gcd_dvd_left .., Nat.gcd_dvd_right .., Nat.gcd_pos_of_pos_left _ h1, ?_⟩
  have hg : Nat.gcd w1 w2 ≤ 16 := Nat.le_trans (Nat.le_of_dvd h1 (Nat.gcd_dvd_left ..)) h2
  have h4 : most * Nat.gcd w1 w2 ≤ 4 * 16 := Nat.mul_le_mul hm hg
  exact Nat.le_trans (Nat.div_le_self ..) h4
theorem dr_skew {w1 w2 most g tp : Nat} (D : Dr w1 w2 most g tp) (t : Int) : (w1 : Int) * (t * ((w2 : Int) / (g : Int))) = -((w2 : Int) * (0 - t * ((w1 : Int) / (g : Int)))) := by
  obtain ⟨a1, e1⟩ := D.d1
  obtain ⟨a2, e2⟩ := D.d2
  have g0 : (g : Int) ≠ 0 := by have := D.g1; omega
  subst e1; subst e2
  rw [Int.natCast_mul, Int.natCast_mul, Int.mul_ediv_cancel_left _ g0, Int.mul_ediv_cancel_left _ g0, Int.zero_sub, Int.mul_neg, Int.neg_neg]
  rw [Int.mul_left_comm, Int.mul_left_comm (g * a2 : Int), Int.mul_assoc, Int.mul_assoc, Int.mul_comm (a2 : Int) (a1 : Int)]
theorem dr_bits {w g tp : Nat} {t : Int} (hw : w ≤ 16) (ht : t.natAbs ≤ 64) : (t * ((w : Int) / (g : Int))).natAbs < 2 ^ 20 := by
  rw [Int.natAbs_mul, ← Int.natCast_ediv, Int.natAbs_natCast]
  have h1 : w / g ≤ 16 := Nat.le_trans (Nat.div_le_self ..) hw
  have h2 : t.natAbs * (w / g) ≤ 64 * 16 := Nat.mul_le_mul ht h1
  omega
def wtOk (n : Nat) (ws : List Int) : Prop := ws.length = n ∧ ∀ x, x ∈ ws → ∃ k : Nat, x = (k : Int) ∧ 1 ≤ k ∧ k ≤ 16
theorem wtOk.at {n : Nat} {ws : List Int} (h : wtOk n ws) {i : Nat} (hi : i < n) : ∃ k : Nat, ws[i]? = some (k : Int) ∧ ws.getD i 0 = (k : Int) ∧ 1 ≤ k ∧ k ≤ 16 := by
  obtain ⟨x, hx⟩ := get_lt (l := ws) (i := i) (by rw [h.1]; exact hi)
  obtain ⟨k, rfl, h1, h2⟩ := h.2 x (get_mem hx)
  exact ⟨k, hx, getD_of hx, h1, h2⟩
section
variable {P : Program} {w : World} {K : PySem.W.Frag} {mg : Str → Option Value} {base : Heap}
theorem sc_l_board : FnScope ["_law_stock_here", "_law_many", "_law_marks", "_law_most", "_law_weights", "_law_rows", "_law_one", "_law_other", "_law_shared", "_law_top", "_law_times", "_law_line", "_law_side", "_law_place", "_law_mark"] ["_law_stock_here", "_law_many", "_law_marks", "_law_most"] (defScope (topS 32)) := ⟨rfl, rfl, rfl, by decide +kernel, rfl, by decide +kernel, by decide +kernel⟩
theorem ok_l_board {f : Addr} {fd : FuncData} (T : Blt mg) (C1 : LGc P w K mg base) (C2 : LPi P w K mg base) (F : Fun K "_law_board" "_law_board" (topS 32) f fd) (c : Nat) : FnOk P w K mg base CX0 2 f fd ["_law_stock_here", "_law_many", "_law_marks", "_law_most"] (spBo c) := by
  refine F.ok sc_l_board (fun vs H Q E h => ?_) (fun cdv A outer s H vs Q E hr h => ⟨_, lzS _, ?_⟩)
  · obtain ⟨a, n, mk, most, rfl, _⟩ := h
    rfl
  · obtain ⟨a, n, mk, most, rfl, n1, n4, mk3, m1, m4, st, q⟩ := h
    have nd := sc_l_board.nd
    obtain ⟨us, hus⟩ := st.lst
    have main : ∀ (p4 : Addr) (ws : List Int) (H2 : Hp), H p4 = none → LsR H2 p4 ws → wtOk n ws → But a H H2 → Stk (c + 50) H2 a → WS (cxOf CX0 P w K mg base ["_law_stock_here", "_law_many", "_law_marks", "_law_most", "_law_weights", "_law_rows", "_law_one", "_law_other", "_law_shared", "_law_top", "_law_times", "_law_line", "_law_side", "_law_place", "_law_mark"] "_law_board" (defScope (topS 32)) f cdv A outer s H E).nox ((defBody (topS 32)).drop 2) { nx := fun _ H' => Q .non H', rt := Q } [some (V.ref a), some (V.int (n : Int)), some (V.int (mk : Int)), some (V.int (most : Int)), some (V.ref p4), none, none, none, none, none, none, none, none, none, none] H2 := fun p4 ws H2 np4 l4 hws b2 st2 => by
      have ne4 : p4 ≠ a := fun e => by rw [e, hus] at np4; cases np4
      refine ssetc 5 (compLL (i := 13) (f := fun _ : Int => List.replicate n (0 : Int)) rfl nd (by kernel_rfl) (wrng T.range (xv 1 (d := (n : Int)) rfl) (by omega)) (by rw [upto_len]; exact len40 (by omega)) fun k x hx v H6 s6 r6 _ _ _ _ _ => EL.as (lrep (EL.o (lone (xi (i := 0)))) (xv 1 (d := (n : Int)) rfl) (by omega) (by show 1 * n ≤ _; exact len40 (by omega))) (flat_one n)) fun v5 H3 s3 r5 => ?_
      obtain ⟨p5, qs, rfl, np5, ll, hnew⟩ := r5
      have erep : (upto n).map (fun _ : Int => List.replicate n (0 : Int)) = List.replicate n (List.replicate n 0) := by
        rw [List.map_const', upto_len]
      rw [erep] at ll
      have st3 := st2.up s3
      have l43 := l4.up s3
      obtain ⟨vs4, hv4, _⟩ := l4
      obtain ⟨us2, hus2⟩ := st2.lst
      have n45 : p4 ≠ p5 := fun e => by rw [← e, hv4] at np5; cases np5
      have n4q : p4 ∉ qs := fun m => by have := hnew p4 m; rw [hv4] at this; cases this
      have naq : a ∉ qs := fun m => by have := hnew a m; rw [hus2] at this; cases this
      have na5 : p5 ≠ a := fun e => by rw [e, hus2] at np5; cases np5
      have hqH : ∀ q', q' ∈ qs → H q' = none := fun q' hq' => by
        by_cases z : H q' = none
        · exact z
        · obtain ⟨o, ho⟩ := Option.ne_none_iff_exists'.mp z
          have := b2 q' o (fun e => naq (e ▸ hq')) ho
          rw [hnew q' hq'] at this; cases this
      have Tz : Tb n 20 (fun i => ws.getD i 0) (List.replicate n (List.replicate n 0)) := Tb.zero ..
      refine sfor rfl PassesOwn.never (wrng T.range (xv 1 (d := (n : Int)) rfl) (by omega)) (pg_name (i := 6) nd rfl (.inl rfl)) fun Hb src s5 sc _ => ?_
      subst sc
      refine ⟨fun i σ H' => ∃ x6 x7 x8 x9 x10 x11 x12 t, σ = [some (.ref a), some (.int (n : Int)), some (.int (mk : Int)), some (.int (most : Int)), some (.ref p4), some (.ref p5), x6, x7, x8, x9, x10, x11, x12, none, none] ∧ TK Hb H' ∧ But a H H' ∧ Stk (c + 50 - 4 * i) H' a ∧ LsR H' p4 ws ∧ LL H' p5 qs t ∧ Tb n 20 (fun i => ws.getD i 0) t,
        ⟨_, _, _, _, _, _, _, _, rfl, .refl _, b2.trans (.of (s3.trans s5)), st3.up s5, l43.up s5, ll.up s5, Tz⟩, fun i σ H' h => ?_, fun i x σ H' hx h v H5 s6 r6 => ?_, fun σ H' h => ?_⟩
      · obtain ⟨_, _, _, _, _, _, _, _, _, k, _⟩ := h
        exact ⟨k, fun _ e => nomatch e⟩
      · obtain ⟨x6, x7, x8, x9, x10, x11, x12, t, rfl, tk, bt, st, l4, ll, tb⟩ := h
        obtain ⟨hi, rfl⟩ := upto_get hx
        have e6 : v = V.int (i : Int) := r6
        subst e6
        show WS _ _ _ _ _
        refine sfor rfl PassesOwn.never (wrng T.range (xv 6 (d := (i : Int)) rfl) (by omega)) (pg_name (i := 7) nd rfl (.inl rfl)) fun Hc src s7 sc _ => ?_
        subst sc
        have s67 := s6.trans s7
        refine ⟨fun j σ H' => ∃ x7 x8 x9 x10 x11 x12 t, σ = [some (.ref a), some (.int (n : Int)), some (.int (mk : Int)), some (.int (most : Int)), some (.ref p4), some (.ref p5), some (.int (i : Int)), x7, x8, x9, x10, x11, x12, none, none] ∧ TK Hb H' ∧ TK Hc H' ∧ But a H H' ∧ Stk (c + 50 - 4 * i - j) H' a ∧ LsR H' p4 ws ∧ LL H' p5 qs t ∧ Tb n 20 (fun i => ws.getD i 0) t,
          ⟨_, _, _, _, _, _, _, rfl, tk.trans (tk_of s67), .refl _, bt.trans (.of s67), st.up s67, l4.up s67, ll.up s67, tb⟩, fun j σ H' h => ?_, fun j x σ H' hx h v H8 s8 r8 => ?_, fun σ H' h => ?_⟩
        · obtain ⟨_, _, _, _, _, _, _, _, _, k, _⟩ := h
          exact ⟨k, fun _ e => nomatch e⟩
        · obtain ⟨x7, x8, x9, x10, x11, x12, t, rfl, tk, tkc, bt, st, l4, ll, tb⟩ := h
          obtain ⟨hj, rfl⟩ := upto_get hx
          have e7 : v = V.int (j : Int) := r8
          subst e7
          have hjn : j < n := by omega
          obtain ⟨w1, g1, d1, w11, w12⟩ := hws.at hi
          obtain ⟨w2, g2, d2, w21, w22⟩ := hws.at hjn
          have D := dr_ok (most := most) w11 w12 w21 m4
          generalize hg : Nat.gcd w1 w2 = g at D
          generalize htp : most * g / max w1 w2 = tp at D
          replace l4 := l4.up s8
          show WS _ _ _ _ _
          refine sset 8 nd (xc2 C1 (hr.mono (by omega)) (xilO (xo 4 l4) (xv 6 (d := (i : Int)) rfl) (atI_nat g1)) (xilO (xo 4 l4) (xv 7 (d := (j : Int)) rfl) (atI_nat g2)) ⟨by omega, by omega⟩) fun v8 H9 s9 r9 => ?_
          have e8 : v8 = V.int (g : Int) := by rw [← hg]; exact r9
          subst e8
          replace l4 := l4.up s9
          have gb : (g : Int).natAbs < 2 ^ 5 := by
            have : g ≤ w1 := Nat.le_of_dvd w11 D.d1
            omega
          have hmx : max (w1 : Int) (w2 : Int) = ((max w1 w2 : Nat) : Int) := by omega
          refine sset 9 nd (xdiv (xmul (xv 3 (d := (most : Int)) rfl) (xv 8 (d := (g : Int)) rfl) (mulx_ok (a := 5) (b := 5) (by omega) gb (by decide))) (xmax2 rfl T.max (xilO (xo 4 l4) (xv 6 (d := (i : Int)) rfl) (atI_nat g1)) (xilO (xo 4 l4) (xv 7 (d := (j : Int)) rfl) (atI_nat g2))) (divw_ok (a := 5) (by omega) (by omega) (by decide))) fun v9 H10 s10 r10 => ?_
          have e9 : v9 = V.int (tp : Int) := by
            rw [← htp, Int.natCast_ediv, Int.natCast_mul, ← hmx]; exact r10
          subst e9
          have tpb := D.top
          have s810 := (s8.trans s9).trans s10
          have st10 : Stk ((c + 50 - 4 * i - (j + 1)) + 1) H10 a := (st.up s810).mono (by omega)
          obtain ⟨ust, hust⟩ := st10.lst
          refine ssetW 10 nd (wsubE (wpick C2 (hr.mono (by omega)) st10 (xw 0) ((xadd (xmul xi (xv 9 (d := (tp : Int)) rfl) (mulx_ok (a := 5) (b := 10) (by decide) (by omega) (by decide))) xi).as (show (2 : Int) * (tp : Int) + 1 = ((2 * tp + 1 : Nat) : Int) by omega)) (by omega) (by omega) fun H11 d hd t11 st11 => (xv 9 (d := (tp : Int)) rfl : Ex _ _ H11 _ _).run fun v' H12 s12 r12 => ⟨(d : Int), (tp : Int), rfl, r12, ?_⟩))
          generalize htm : (d : Int) - (tp : Int) = tm
          have tmb : tm.natAbs ≤ 64 := by omega
          have b12 := t11.trans (.of s12)
          have tk12 := (t11.tk hust).trans (tk_of s12)
          have l412 := (t11.ls hust ne4 (l4.up s10)).up s12
          have ll12 := ((ll.up s810).but t11 na5 naq).up s12
          have st12 := st11.up s12
          obtain ⟨qi, ri, hqi, hri, li, neqi⟩ := ll12.get (i := i) (by rw [tb.len]; exact hi)
          obtain ⟨qj, rj, hqj, hrj, lj, neqj⟩ := ll12.get (i := j) (by rw [tb.len]; exact hjn)
          have lraw := ll12.raws
          have rli := tb.row ri (get_mem hri)
          have rlj := tb.row rj (get_mem hrj)
          have rawI : (qs.map rawR)[i]? = some (rawR qi) := by rw [List.getElem?_map, hqi]; rfl
          have rawJ : (qs.map rawR)[j]? = some (rawR qj) := by rw [List.getElem?_map, hqj]; rfl
          refine spar 11 12 rfl nd (xilO (xo 5 lraw) (xv 6 (d := (i : Int)) rfl) (atI_nat rawI)) (xilO (xo 5 lraw) (xv 7 (d := (j : Int)) rfl) (atI_nat rawJ)) fun v11 v12 H13 H14 s13 r13 s14 r14 => ?_
          have e11 : v11 = V.ref qi := r13
          have e12 : v12 = V.ref qj := r14
          subst e11; subst e12
          have s1314 := s13.trans s14
          have l414 := l412.up s1314
          have ll14 := ll12.up s1314
          have li14 := li.up s1314
          have miq : qi ∈ qs := List.mem_of_getElem? hqi
          have mjq : qj ∈ qs := List.mem_of_getElem? hqj
          have dvw : ∀ {k : Nat}, CDivW (k : Int) (g : Int) := divw_ok (a := 5) (by have := D.g1; omega) gb (by decide)
          have wb : ∀ {k : Nat}, k ≤ 16 → ((k : Int) / (g : Int)).natAbs < 2 ^ 6 := fun {k} hk => by
            rw [← Int.natCast_ediv, Int.natAbs_natCast]
            have := Nat.div_le_self k g
            omega
          refine sput li14 (x := tm * ((w2 : Int) / (g : Int))) (xmul (xv 10 (d := tm) rfl) (xdiv (xilO (xo 4 l414) (xv 7 (d := (j : Int)) rfl) (atI_nat g2)) (xv 8 (d := (g : Int)) rfl) dvw) (mulx_ok (a := 10) (b := 6) (by omega) (wb w22) (by decide))) (xw 11) (xv 7 (d := (j : Int)) rfl) (j := j) (by rw [rli]; exact ixN_nat hjn) fun H15 t15 l15 => ?_
          have nei4 : p4 ≠ qi := fun e => n4q (e ▸ miq)
          have nea : a ≠ qi := fun e => naq (e ▸ miq)
          obtain ⟨vi, hvi, _⟩ := li14
          have l415 := t15.ls hvi nei4 l414
          have ll15 := ll14.put hqi t15 l15
          have hne : j ≠ i := by omega
          have hrj2 : (t.set i (ri.set j (tm * ((w2 : Int) / (g : Int)))))[j]? = some rj := by rw [List.getElem?_set_ne (Ne.symm hne)]; exact hrj
          have lj15 : LsR H15 qj rj := LsR.ints.mpr (ll15.row j qj rj hqj hrj2)
          refine sput lj15 (x := 0 - tm * ((w1 : Int) / (g : Int))) (xsub xi (xmul (xv 10 (d := tm) rfl) (xdiv (xilO (xo 4 l415) (xv 6 (d := (i : Int)) rfl) (atI_nat g1)) (xv 8 (d := (g : Int)) rfl) dvw) (mulx_ok (a := 10) (b := 6) (by omega) (wb w12) (by decide)))) (xw 12) (xv 6 (d := (i : Int)) rfl) (j := i) (by rw [rlj]; exact ixN_nat hi) fun H16 t16 l16 => wnil ?_
          have nej4 : p4 ≠ qj := fun e => n4q (e ▸ mjq)
          have neaj : a ≠ qj := fun e => naq (e ▸ mjq)
          obtain ⟨vj, hvj, _⟩ := lj15
          have l416 := t16.ls hvj nej4 l415
          have ll16 := ll15.put hqj t16 l16
          have tkk : TK H' H16 := ((((tk_of s810).trans tk12).trans (tk_of s1314)).trans (t15.tk hvi)).trans (t16.tk hvj)
          have btk : But a H H16 := (((bt.trans (.of s810)).trans (b12.trans (.of s1314))).new (hqH qi miq) t15).new (hqH qj mjq) t16
          have stk := ((st12.up s1314).but t15 hvi nea).but t16 hvj neaj
          refine ⟨_, _, _, _, _, _, _, rfl, tk.trans tkk, tkc.trans tkk, btk, stk, l416, ll16, ?_⟩
          have T2 := tb.put (i := i) (j := j) hi hjn (Ne.symm hne) (x := tm * ((w2 : Int) / (g : Int))) (y := 0 - tm * ((w1 : Int) / (g : Int))) (by rw [d1, d2]; exact dr_skew D tm) (dr_bits (tp := tp) w22 tmb) (by rw [Int.zero_sub, Int.natAbs_neg]; exact dr_bits (tp := tp) w12 tmb)
          have e1 : setE t i j (tm * ((w2 : Int) / (g : Int))) = t.set i (ri.set j (tm * ((w2 : Int) / (g : Int)))) := by unfold setE; rw [getD_of hri]
          rw [e1] at T2
          unfold setE at T2
          rw [getD_of hrj2] at T2
          exact T2
        · obtain ⟨x7, x8, x9, x10, x11, x12, t, rfl, tk, tkc, bt, st, l4, ll, tb⟩ := h
          rw [upto_len] at st
          exact wnil ⟨_, _, _, _, _, _, _, t, rfl, tk, bt, st.mono (by omega), l4, ll, tb⟩
      · obtain ⟨x6, x7, x8, x9, x10, x11, x12, t, rfl, tk, bt, st, l4, ll, tb⟩ := h
        rw [upto_len] at st
        have st7 : Stk (c + 20) H' a := st.mono (by omega)
        obtain ⟨us7, hus7⟩ := st7.lst
        refine ssetW 5 nd (wjoin (wv 5 (.ref p5) (wlcW (i := 14) rfl nd (by kernel_rfl) T.range (lcWL (m := mk) (c := c) (w := 4) (N := c + 20) (P := fun r => r.length = n ∧ ∀ e, e ∈ r → e.natAbs < 2 ^ 20) (xv 2 (d := (mk : Int)) rfl) (by omega) (by omega) st7 (fun k H8 hk b8 s8 _ _ _ _ _ => ?_) fun p6 qs6 rs6 H9 hlen hP np6 hnew6 ll6 b9 st9 => ?_))))
        · refine wlcW (i := 13) rfl nd (by kernel_rfl) T.range (lcWS (n := n) (c := c + 20 - 4 * (k + 1)) (N := c + 20 - 4 * k) (P := fun e => e.natAbs < 2 ^ 20) (xv 1 (d := (n : Int)) rfl) (by omega) (by omega) s8 (fun k2 H9 hk2 b9 s9 _ _ _ _ _ => ?_) fun q9 xs H10 hlen hP nq9 l9 b10 s10 => ⟨q9, xs, rfl, nq9, l9, ⟨hlen, hP⟩, b10, s10⟩)
          have s9' : Stk ((c + 20 - 4 * k - (k2 + 1)) + 1) H9 a := s9.mono (by omega)
          refine wsubE (wpick C2 (hr.mono (by omega)) s9' (xw 0) ((xadd (xmul xi (xv 3 (d := (most : Int)) rfl) (mulx_ok (a := 5) (b := 10) (by decide) (by omega) (by decide))) xi).as (show (2 : Int) * (most : Int) + 1 = ((2 * most + 1 : Nat) : Int) by omega)) (by omega) (by omega) fun H11 d hd t11 st11 => (xv 3 (d := (most : Int)) rfl : Ex _ _ H11 _ _).run fun v' H12 s12 r12 => ⟨(d : Int), (most : Int), rfl, r12, _, rfl, by omega, t11.trans (.of s12), st11.up s12⟩)
        · have ll9 := ll.but b9 na5 naq
          refine ⟨p5, qs, t, p6, qs6, rs6, rfl, rfl, ll9, ll6, fun q' hq' hq => ?_, by rw [tb.len, hlen]; omega, fun z nz ll10 => ?_⟩
          · obtain ⟨vs, hv⟩ := ll.has hq
            rw [hnew6 q' hq'] at hv; cases hv
          · have b10 := (bt.trans b9).trans (.of (same_new (o := .lst (qs.map V.ref ++ qs6.map V.ref)) nz))
            have st10 := st9.up (same_new (o := .lst (qs.map V.ref ++ qs6.map V.ref)) nz)
            refine sret (xtt (i := 11) rfl nd (by kernel_rfl) T.tuple ll10 (xw 5) (by rw [List.length_append, tb.len, hlen]; omega) fun k q' r' hq' hr' H11 s11 _ _ _ _ _ => xtupL (LsR.up s11 (LsR.ints.mpr (ll10.row k q' r' hq' hr'))) T.tuple (xw 11)) fun u H12 s12 r12 => ?_
            have ok : Okc 20 n (n + rs6.length) (t ++ rs6) := tb.okc (fun i hi => by
              obtain ⟨k, _, e, h1, _⟩ := hws.at hi
              show 0 < ws.getD i 0
              rw [e]; omega) n1 n4 (by omega) hP
            rw [hlen] at ok
            exact q u H12 _ (b10.trans (.of s12)) (st10.up s12) ok r12
    refine sset 4 nd (lrep (EL.o (lone (xi (i := 1)))) (xv 1 (d := (n : Int)) rfl) (by omega) (by show 1 * n ≤ _; exact len40 (by omega))) fun v4 H1 s1 r4 => ?_
    obtain ⟨p4, rfl, np4, l4⟩ := r4
    rw [flat_one] at l4
    have st1 : Stk ((c + 58) + 1) H1 a := (st.up s1).mono (by omega)
    have ones : wtOk n (List.replicate n (1 : Int)) := ⟨List.length_replicate .., fun x hx => ⟨1, List.eq_of_mem_replicate hx, by decide, by decide⟩⟩
    refine sifW (wandT (tgt (xv 3 (d := (most : Int)) rfl) xi) (fun ht H2 s2 => weqT (wpick C2 (hr.mono (by omega)) (st1.up s2) (xw 0) xi (k := 2) (by decide) (by decide) fun H3 d hd t3 st3 => (xi : Ex _ _ H3 _ (0 : Int)).run fun v' H4 s4 r4 => ⟨(d : Int), 0, rfl, r4, ?_⟩)) (fun ht H2 s2 => ?_))
    · obtain ⟨us1, hus1⟩ := (st1.up s2).lst
      have ne4 : p4 ≠ a := fun e => by rw [e, hus] at np4; cases np4
      have b4 : But a H H4 := (((But.of s1).trans (.of s2)).trans t3).trans (.of s4)
      have st4 := st3.up s4
      split
      · refine ssetLW 4 (i := 13) rfl nd (by kernel_rfl) T.range (lcWS (n := n) (c := c + 50) (N := c + 58) (P := fun x => ∃ k : Nat, x = (k : Int) ∧ 1 ≤ k ∧ k ≤ 16) (xv 1 (d := (n : Int)) rfl) (by omega) (by omega) st4 (fun k2 H9 hk2 b9 s9 _ _ _ _ _ => ?_) fun q9 xs H10 hlen hP nq9 l9 b10 s10 => wnil ?_)
        · have s9' : Stk ((c + 58 - (k2 + 1)) + 1) H9 a := s9.mono (by omega)
          refine wpickI [(1 : Int), 1, 1, 2, 2, 2, 3, 4, 4, 6, 9, 16] C2 (hr.mono (by omega)) s9' (fun _ => xw 0) (fun _ => xi) (k := 12) rfl (by rfl) (by decide) (by decide) fun H12 e he t12 st12 => ?_
          have hall : ∀ x, x ∈ ([(1 : Int), 1, 1, 2, 2, 2, 3, 4, 4, 6, 9, 16]) → 1 ≤ x ∧ x ≤ 16 := by decide
          have hee := hall e he
          exact ⟨e, rfl, ⟨e.toNat, by omega, by omega, by omega⟩, t12, st12⟩
        · refine main q9 xs H10 ?_ l9 ⟨hlen, hP⟩ (b4.trans b10) s10
          by_cases z : H q9 = none
          · exact z
          · obtain ⟨o, ho⟩ := Option.ne_none_iff_exists'.mp z
            have hqa : q9 ≠ a := fun e => by
              obtain ⟨us4, hus4⟩ := st4.lst
              rw [e, hus4] at nq9; cases nq9
            have := b4 q9 o hqa ho
            rw [nq9] at this; cases this
      · exact wnil (main p4 _ H4 np4 ((t3.ls hus1 ne4 (l4.up s2)).up s4) ones b4 (st4.mono (by omega)))
    · rw [if_neg Bool.false_ne_true]
      exact wnil (main p4 _ H2 np4 (l4.up s2) ones (.of (s1.trans s2)) ((st1.up s2).mono (by omega)))
end
end Nh
set_option Elab.async false
set_option linter.all false
set_option maxRecDepth 100000
set_option maxHeartbeats 4000000
namespace Nh
open PySem PySem.Spec PyProof.Rows L2
/-! ### _law_piece -/
/-- bonds of a piece with weights -/
def Bonds (s : Nat) (bonds : List (List Int)) : Prop := ∃ w : Nat → Int, (∀ i, 0 < w i) ∧ ∀ r, r ∈ bonds → ∃ k l e b : Nat, r = [(k : Int), (l : Int), (e : Int), (b : Int)] ∧ k < s ∧ l < s ∧ k ≠ l ∧ e ≤ 3 ∧ b ≤ 3 ∧ w k * (e : Int) = w l * (b : Int)
def bondI (at' d0 d1 : Nat) (k : Int) : List Int := if k = (at' : Int) then [k, k + 1, (d0 : Int), (d1 : Int)] else [k, k + 1, 1, 1]
theorem bonds_chain {s at' d0 d1 : Nat} (h1 : 1 ≤ d0) (h2 : d0 ≤ 3) (h3 : 1 ≤ d1) (h4 : d1 ≤ 3) (hs : 1 ≤ s) : Bonds s ((upto (s - 1)).map (bondI at' d0 d1)) := by
  refine ⟨fun i => if i ≤ at' then (d1 : Int) else (d0 : Int), fun i => by dsimp only; split <;> omega, fun r hr => ?_⟩
  obtain ⟨x, hx, rfl⟩ := List.mem_map.mp hr
  obtain ⟨k, rfl, hk⟩ := mem_upto.mp hx
  unfold bondI
  by_cases e : (k : Int) = (at' : Int)
  · rw [if_pos e]
    have e' : k = at' := by omega
    subst e'
    refine ⟨k, k + 1, d0, d1, by rw [Int.natCast_add]; rfl, by omega, by omega, by omega, h2, h4, ?_⟩
    show (if k ≤ k then (d1 : Int) else (d0 : Int)) * (d0 : Int) = (if k + 1 ≤ k then (d1 : Int) else (d0 : Int)) * (d1 : Int)
    rw [if_pos (Nat.le_refl _), if_neg (by omega)]
    exact Int.mul_comm ..
  · rw [if_neg e]
    refine ⟨k, k + 1, 1, 1, by rw [Int.natCast_add]; rfl, by omega, by omega, by omega, by decide, by decide, ?_⟩
    show (if k ≤ at' then (d1 : Int) else (d0 : Int)) * ((1 : Nat) : Int) = (if k + 1 ≤ at' then (d1 : Int) else (d0 : Int)) * ((1 : Nat) : Int)
    by_cases c : k ≤ at'
    · rw [if_pos c, if_pos (by omega)]
    · rw [if_neg c, if_neg (by omega)]
theorem bonds_star : Bonds 4 [[0, 1, 1, 1], [0, 2, 1, 1], [0, 3, 1, 1]] := by
  refine ⟨fun _ => 1, fun _ => Int.one_pos, fun r hr => ?_⟩
  rcases List.mem_cons.mp hr with e | hr
  · exact ⟨0, 1, 1, 1, e, by decide, by decide, by decide, by decide, by decide, rfl⟩
  · rcases List.mem_cons.mp hr with e | hr
    · exact ⟨0, 2, 1, 1, e, by decide, by decide, by decide, by decide, by decide, rfl⟩
    · exact ⟨0, 3, 1, 1, List.mem_singleton.mp hr, by decide, by decide, by decide, by decide, by decide, rfl⟩
def spPc (c : Nat) : Sp := fun vs H Q _ => ∃ (a : Addr) (s : Nat), vs = [.ref a, .int (s : Int)] ∧ 1 ≤ s ∧ s ≤ 4 ∧ Stk (c + 10) H a ∧
  ∀ q H' bonds, But a H H' → Stk c H' a → H q = none → LsR H' q bonds → Bonds s bonds → bonds.length ≤ 4 → Q (.ref q) H'
theorem nat13 {x : Int × Int} (h : x ∈ [((1 : Int), (1 : Int)), (1, 1), (1, 2), (2, 1)] ∨ x ∈ [((1 : Int), (1 : Int)), (1, 2), (2, 1), (1, 3), (3, 1)]) : ∃ d0 d1 : Nat, x = ((d0 : Int), (d1 : Int)) ∧ 1 ≤ d0 ∧ d0 ≤ 3 ∧ 1 ≤ d1 ∧ d1 ≤ 3 := by
  have h1 : ∀ x ∈ [((1 : Int), (1 : Int)), (1, 1), (1, 2), (2, 1)], 1 ≤ x.1 ∧ x.1 ≤ 3 ∧ 1 ≤ x.2 ∧ x.2 ≤ 3 := by decide
  have h2 : ∀ x ∈ [((1 : Int), (1 : Int)), (1, 2), (2, 1), (1, 3), (3, 1)], 1 ≤ x.1 ∧ x.1 ≤ 3 ∧ 1 ≤ x.2 ∧ x.2 ≤ 3 := by decide
  have h3 : 1 ≤ x.1 ∧ x.1 ≤ 3 ∧ 1 ≤ x.2 ∧ x.2 ≤ 3 := h.elim (h1 x) (h2 x)
  refine ⟨x.1.toNat, x.2.toNat, ?_, by omega, by omega, by omega, by omega⟩
  obtain ⟨x1, x2⟩ := x
  dsimp only at h3 ⊢
  rw [Int.toNat_of_nonneg (by omega), Int.toNat_of_nonneg (by omega)]
section
variable {P : Program} {w : World} {K : PySem.W.Frag} {mg : Str → Option Value} {base : Heap}
theorem sc_l_piece : FnScope ["_law_stock_here", "_law_many", "_law_double", "_law_at", "_law_k"] ["_law_stock_here", "_law_many"] (defScope (topS 34)) := ⟨rfl, rfl, rfl, by decide +kernel, rfl, by decide +kernel, by decide +kernel⟩
theorem ok_l_piece {f : Addr} {fd : FuncData} (T : Blt mg) (C2 : LPi P w K mg base) (F : Fun K "_law_piece" "_law_piece" (topS 34) f fd) (c : Nat) : FnOk P w K mg base CX0 2 f fd ["_law_stock_here", "_law_many"] (spPc c) := by
  refine F.ok sc_l_piece (fun vs H Q E h => ?_) (fun cdv A outer s H vs Q E hr h => ⟨_, lzS _, ?_⟩)
  · obtain ⟨a, n, rfl, _⟩ := h
    rfl
  · obtain ⟨a, n, rfl, n1, n4, st, q⟩ := h
    have nd := sc_l_piece.nd
    obtain ⟨us, hus⟩ := st.lst
    have fresh : ∀ {H1 : Hp} {p : Addr}, But a H H1 → (∃ vs, H1 a = some (.lst vs)) → H1 p = none → H p = none := fun {H1 p} b ⟨vs, hv⟩ np => by
      by_cases z : H p = none
      · exact z
      · obtain ⟨o, ho⟩ := Option.ne_none_iff_exists'.mp z
        have hqa : p ≠ a := fun e => by rw [e, hv] at np; cases np
        have := b p o hqa ho
        rw [np] at this; cases this
    -- the chain
    have main2 : ∀ (v2 : V) (d0 d1 at' : Nat) (H2 : Hp), Rep.rep H2 v2 ((d0 : Int), (d1 : Int)) → 1 ≤ d0 → d0 ≤ 3 → 1 ≤ d1 → d1 ≤ 3 → But a H H2 → Stk c H2 a → WS (cxOf CX0 P w K mg base ["_law_stock_here", "_law_many", "_law_double", "_law_at", "_law_k"] "_law_piece" (defScope (topS 34)) f cdv A outer s H E).nox ((defBody (topS 34)).drop 4) { nx := fun _ H' => Q .non H', rt := Q } [some (V.ref a), some (V.int (n : Int)), some v2, some (.int (at' : Int)), none] H2 := fun v2 d0 d1 at' H2 r2 h1 h2 h3 h4 b2 st2 => by
      refine sret (comp1 (i := 4) (f := bondI at' d0 d1) rfl nd (by kernel_rfl) (wrng (n := n - 1) T.range ((xsub (xv 1 (d := (n : Int)) rfl) xi).as (by omega)) (by omega)) (by rw [upto_len]; exact len40 (by omega)) fun k x hx v H6 s6 r6 _ _ _ _ _ => ?_).ev fun v H3 s3 ⟨q', ev, nq, l⟩ => ?_
      · have r26 := Rep.up s6 r2
        refine xif (teq (xv 4 r6) (xv 3 (d := (at' : Int)) rfl)) (fun ht => (xtupA (.cons (by intro _; rfl) (xv 4 r6) (.cons (by intro _; rfl) (xadd (xv 4 r6) xi) (.cons (by intro _; rfl) (xfst (xv 2 r26)) (.cons (by intro _; rfl) (xsnd (xv 2 r26)) .nil)))) (by show 4 ≤ 4000; decide)).as ?_) (fun hf => (xtupA (.cons (by intro _; rfl) (xv 4 r6) (.cons (by intro _; rfl) (xadd (xv 4 r6) xi) (.cons (by intro _; rfl) xi (.cons (by intro _; rfl) xi .nil)))) (by show 4 ≤ 4000; decide)).as ?_)
        · unfold bondI
          rw [if_pos (of_decide_eq_true ht)]
        · unfold bondI
          rw [if_neg (of_decide_eq_false hf)]
      · subst ev
        refine q q' H3 _ (b2.trans (.of s3)) (st2.up s3) (fresh b2 st2.lst nq) l (bonds_chain h1 h2 h3 h4 n1) ?_
        rw [List.length_map, upto_len]; omega
    have main : ∀ (v2 : V) (d0 d1 : Nat) (H2 : Hp), Rep.rep H2 v2 ((d0 : Int), (d1 : Int)) → 1 ≤ d0 → d0 ≤ 3 → 1 ≤ d1 → d1 ≤ 3 → But a H H2 → Stk (c + 5) H2 a → WS (cxOf CX0 P w K mg base ["_law_stock_here", "_law_many", "_law_double", "_law_at", "_law_k"] "_law_piece" (defScope (topS 34)) f cdv A outer s H E).nox ((defBody (topS 34)).drop 2) { nx := fun _ H' => Q .non H', rt := Q } [some (V.ref a), some (V.int (n : Int)), some v2, none, none] H2 := fun v2 d0 d1 H2 r2 h1 h2 h3 h4 b2 st2 => by
      have behind4 : ∀ H3, Rep.rep H3 v2 ((d0 : Int), (d1 : Int)) → But a H H3 → Stk (c + 3) H3 a → WS (cxOf CX0 P w K mg base ["_law_stock_here", "_law_many", "_law_double", "_law_at", "_law_k"] "_law_piece" (defScope (topS 34)) f cdv A outer s H E).nox ((defBody (topS 34)).drop 3) { nx := fun _ H' => Q .non H', rt := Q } [some (V.ref a), some (V.int (n : Int)), some v2, none, none] H3 := fun H3 r3 b3 st3 => by
        have st3' : Stk ((c + 2) + 1) H3 a := st3
        obtain ⟨us3, hus3⟩ := st3.lst
        have els : ∀ {p1 p2 p3 p4 p5 p6 : Pos} (H4 : Hp), TK H3 H4 → But a H3 H4 → Stk c H4 a → WE (cxOf CX0 P w K mg base ["_law_stock_here", "_law_many", "_law_double", "_law_at", "_law_k"] "_law_piece" (defScope (topS 34)) f cdv A outer s H E).nox (.Call (.Name "max" p1) [.Constant (.int 0) 0 p2, .BinOp (.Name "_law_many" p3) .Sub (.Constant (.int 2) 0 p4) p5] [] p6) [some (V.ref a), some (V.int (n : Int)), some v2, none, none] H4 fun v H' => WS (cxOf CX0 P w K mg base ["_law_stock_here", "_law_many", "_law_double", "_law_at", "_law_k"] "_law_piece" (defScope (topS 34)) f cdv A outer s H E).nox ((defBody (topS 34)).drop 4) { nx := fun _ H' => Q .non H', rt := Q } [some (V.ref a), some (V.int (n : Int)), some v2, some v, none] H' := fun {p1 p2 p3 p4 p5 p6} H4 tk4 b4 st4 =>
          ((xmax2 rfl T.max xi (xsub (xv 1 (d := (n : Int)) rfl) xi) : Ex _ _ H4 _ _).as (show max (0 : Int) ((n : Int) - 2) = ((n - 2 : Nat) : Int) by omega)).run fun v H5 s5 r5 => by
            rw [show v = V.int ((n - 2 : Nat) : Int) from r5]
            exact main2 v2 d0 d1 (n - 2) H5 (Rep.up s5 (Rep.keep tk4 r3)) h1 h2 h3 h4 ((b3.trans b4).trans (.of s5)) (st4.up s5)
        refine ssetW 3 nd (wifE (wandT (teq (xv 1 (d := (n : Int)) rfl) xi) (fun ht H4 s4 => weqT (wpick C2 (hr.mono (by omega)) (st3'.up s4) (xw 0) xi (k := 3) (by decide) (by decide) fun H5 d hd t5 st5 => (xi : Ex _ _ H5 _ (0 : Int)).run fun v' H6 s6 r6 => ⟨(d : Int), 0, rfl, r6, ?_⟩)) (fun ht H4 s4 => ?_)))
        · obtain ⟨us4, hus4⟩ := (st3'.up s4).lst
          have tk6 : TK H3 H6 := ((tk_of s4).trans (t5.tk hus4)).trans (tk_of s6)
          have b6 : But a H3 H6 := ((But.of s4).trans t5).trans (.of s6)
          split
          · exact (xi : Ex _ _ H6 _ (1 : Int)).run fun v H7 s7 r7 => by
              rw [show v = V.int ((1 : Nat) : Int) from r7]
              exact main2 v2 d0 d1 1 H7 (Rep.up s7 (Rep.keep tk6 r3)) h1 h2 h3 h4 ((b3.trans b6).trans (.of s7)) ((st5.up (s6.trans s7)).mono (by omega))
          · exact els H6 tk6 b6 ((st5.up s6).mono (by omega))
        · rw [if_neg Bool.false_ne_true]
          exact els H4 (tk_of s4) (.of s4) ((st3.up s4).mono (by omega))
      have st2' : Stk ((c + 4) + 1) H2 a := st2
      obtain ⟨us2, hus2⟩ := st2.lst
      refine sifW (wandT (teq (xv 1 (d := (n : Int)) rfl) xi) (fun ht H3 s3 => weqT (wpick C2 (hr.mono (by omega)) (st2'.up s3) (xw 0) xi (k := 3) (by decide) (by decide) fun H4 d hd t4 st4 => (xi : Ex _ _ H4 _ (0 : Int)).run fun v' H5 s5 r5 => ⟨(d : Int), 0, rfl, r5, ?_⟩)) (fun ht H3 s3 => ?_))
      · have en : n = 4 := by have := of_decide_eq_true ht; omega
        obtain ⟨us3, hus3⟩ := (st2'.up s3).lst
        have b5 : But a H H5 := ((b2.trans (.of s3)).trans t4).trans (.of s5)
        have st5 := st4.up s5
        split
        · refine sret (llist (xs := [[(0 : Int), 1, 1, 1], [0, 2, 1, 1], [0, 3, 1, 1]]) (ea_of reads_4 (by rfl)) (by decide)) fun v H6 s6 ⟨q', ev, nq, l⟩ => ?_
          subst ev
          refine q q' H6 _ (b5.trans (.of s6)) ((st5.up s6).mono (by omega)) (fresh b5 st5.lst nq) l ?_ (by decide)
          rw [en]
          exact bonds_star
        · exact wnil (behind4 H5 (Rep.up s5 (Rep.keep (t4.tk hus3) (Rep.up s3 r2))) b5 (st5.mono (by omega)))
      · rw [if_neg Bool.false_ne_true]
        exact wnil (behind4 H3 (Rep.up s3 r2) (b2.trans (.of s3)) ((st2.up s3).mono (by omega)))
    have st' : Stk ((c + 9) + 1) H a := st
    refine ssetW 2 nd (wpickA [((1 : Int), (1 : Int)), (1, 1), (1, 2), (2, 1)] C2 (hr.mono (by omega)) st' (fun _ => xw 0) (fun _ => xi) (k := 4) rfl (ea_of reads_p (by rfl)) (by decide) (by decide) fun H1 v x hx rx b1 st1 => ?_)
    obtain ⟨d0, d1, ex, h1, h2, h3, h4⟩ := nat13 (.inl hx)
    subst ex
    refine sif (teq (xv 1 (d := (n : Int)) rfl) xi) (fun ht H2 s2 => ?_) (fun ht H2 s2 => ?_)
    · have st2 : Stk ((c + 8) + 1) H2 a := st1.up s2
      refine ssetW 2 nd (wpickA [((1 : Int), (1 : Int)), (1, 2), (2, 1), (1, 3), (3, 1)] C2 (hr.mono (by omega)) st2 (fun _ => xw 0) (fun _ => xi) (k := 5) rfl (ea_of reads_p (by rfl)) (by decide) (by decide) fun H3 v x hx rx b3 st3 => wnil ?_)
      obtain ⟨d0, d1, ex, h1, h2, h3, h4⟩ := nat13 (.inr hx)
      subst ex
      exact main v d0 d1 H3 rx h1 h2 h3 h4 ((b1.trans (.of s2)).trans b3) (st3.mono (by omega))
    · exact wnil (main v d0 d1 H2 (Rep.up s2 rx) h1 h2 h3 h4 (b1.trans (.of s2)) ((st1.up s2).mono (by omega)))
end
end Nh
set_option Elab.async false
set_option linter.all false
set_option maxRecDepth 100000
set_option maxHeartbeats 4000000
namespace Nh
open PySem PySem.Spec PyProof.Rows L2
/-! ### _law_finite -/
theorem Okc.turn {B n m k : Nat} {b : Bd} (h : Okc B n m b) (hk : k < n) : Okc (2 * B + 2) n m ((Nh.sw b k).take n ++ b.drop n) := by
  have h2 := h.sw hk
  have hl : ((Nh.sw b k).take n).length = n := by rw [List.length_take, h2.wf.len]; have := h.wf.le; omega
  refine ⟨⟨h.wf.one, h.wf.le, ?_, fun r hr => ?_⟩, ?_, fun r hr e he => ?_, h.n4, h.m⟩
  · rw [List.length_append, hl, List.length_drop, h.wf.len]; have := h.wf.le; omega
  · rcases List.mem_append.mp hr with z | z
    · exact h2.wf.row r (List.mem_of_mem_take z)
    · exact h.wf.row r (List.mem_of_mem_drop z)
  · obtain ⟨w, S⟩ := h2.sk
    have e : ∀ i j, i < n → at2 ((Nh.sw b k).take n ++ b.drop n) i j = at2 (Nh.sw b k) i j := fun i j hi => by
      rw [at2_left (by rw [hl]; exact hi)]
      unfold at2
      congr 1
      rw [List.getD_eq_getElem?_getD, List.getD_eq_getElem?_getD, List.getElem?_take_of_lt hi]
    exact ⟨w, S.1, fun i j hi hj => by rw [e i j hi, e j i hj]; exact S.2 i j hi hj⟩
  · rcases List.mem_append.mp hr with z | z
    · exact h2.bits r (List.mem_of_mem_take z) e he
    · exact (h.bits.mono (show B ≤ 2 * B + 2 by omega)) r (List.mem_of_mem_drop z) e he
theorem g4 {K : PySem.W.Frag} {i j k l : Nat} {v : V} {x1 x2 x3 x4 : Int} {σ : L2.St} {H : Hp} {Q : L2.St → Hp → Prop} (r : Rep.rep H v [x1, x2, x3, x4]) (q : Q ((((σ.set i (some (.int x1))).set j (some (.int x2))).set k (some (.int x3))).set l (some (.int x4))) H) :
    gTup K 4 (gCons (gName i) (gCons (gName j) (gCons (gName k) (gCons (gName l) gNil)))) v σ H Q := by
  obtain ⟨a, rfl, h⟩ := rep_row.mp r
  exact ⟨a, _, rfl, .of h, rfl, _, _, rfl, _, _, rfl, _, _, rfl, _, _, rfl, rfl, q⟩
abbrev LPc (P : Program) (w : World) (K : PySem.W.Frag) (mg : Str → Option Value) (base : Heap) : Prop := ∀ c, Cal P w K mg base 2 "_law_piece" ["_law_stock_here", "_law_many"] (spPc c)
def spFn (c : Nat) : Sp := fun vs H Q _ => ∃ (a : Addr) (mk : Nat), vs = [.ref a, .int (mk : Int)] ∧ mk ≤ 3 ∧ Stk (c + 100) H a ∧
  ∀ u H' b n, But a H H' → Stk c H' a → Okc 400 n (n + mk) b → Rep.rep H' u b → Q u H'
section
variable {P : Program} {w : World} {K : PySem.W.Frag} {mg : Str → Option Value} {base : Heap}
theorem sc_l_finite : FnScope ["_law_stock_here", "_law_marks", "_law_sizes", "_law_many", "_law_names", "_law_place", "_law_to", "_law_rows", "_law_base", "_law_size", "_law_one", "_law_other", "_law_entry", "_law_back", "_law_sign", "_law_line", "_law_side", "_law_board_here", "_law_turn", "_law_made", "_law_mark"] ["_law_stock_here", "_law_marks"] (defScope (topS 35)) := ⟨rfl, rfl, rfl, by decide +kernel, rfl, by decide +kernel, by decide +kernel⟩
theorem ok_l_finite {f : Addr} {fd : FuncData} (T : Blt mg) (C1 : LSw P w K mg base) (C2 : LPi P w K mg base) (C3 : LPc P w K mg base) (F : Fun K "_law_finite" "_law_finite" (topS 35) f fd) (c : Nat) : FnOk P w K mg base CX0 3 f fd ["_law_stock_here", "_law_marks"] (spFn c) := by
  refine F.ok sc_l_finite (fun vs H Q E h => ?_) (fun cdv A outer s H vs Q E hr h => ⟨_, lzS _, ?_⟩)
  · obtain ⟨a, mk, rfl, _⟩ := h
    rfl
  · obtain ⟨a, mk, rfl, mk3, st, q⟩ := h
    have nd := sc_l_finite.nd
    obtain ⟨us, hus⟩ := st.lst
    have fresh : ∀ {H1 : Hp} {p : Addr}, But a H H1 → (∃ vs, H1 a = some (.lst vs)) → H1 p = none → H p = none := fun {H1 p} b ⟨vs, hv⟩ np => by
      by_cases z : H p = none
      · exact z
      · obtain ⟨o, ho⟩ := Option.ne_none_iff_exists'.mp z
        have hqa : p ≠ a := fun e => by rw [e, hv] at np; cases np
        have := b p o hqa ho
        rw [np] at this; cases this
    -- swaps, return
    have swaps : ∀ (x2 x4 x5 x6 x7 x8 x9 x10 x11 x12 x13 x14 x15 x16 : Option V) (v17 : V) (b0 : Bd) (n : Nat) (H2 : Hp), Rep.rep H2 v17 b0 → Okc 20 n (n + mk) b0 → But a H H2 → Stk (c + 5) H2 a → WS (cxOf CX0 P w K mg base ["_law_stock_here", "_law_marks", "_law_sizes", "_law_many", "_law_names", "_law_place", "_law_to", "_law_rows", "_law_base", "_law_size", "_law_one", "_law_other", "_law_entry", "_law_back", "_law_sign", "_law_line", "_law_side", "_law_board_here", "_law_turn", "_law_made", "_law_mark"] "_law_finite" (defScope (topS 35)) f cdv A outer s H E).nox ((defBody (topS 35)).drop 9) { nx := fun _ H' => Q .non H', rt := Q } [some (V.ref a), some (V.int (mk : Int)), x2, some (V.int (n : Int)), x4, x5, x6, x7, x8, x9, x10, x11, x12, x13, x14, x15, x16, some v17, none, none, none] H2 := fun x2 x4 x5 x6 x7 x8 x9 x10 x11 x12 x13 x14 x15 x16 v17 b0 n H2 r17 ok b2 st2 => by
      have st2' : Stk ((c + 4) + 1) H2 a := st2
      obtain ⟨us2, hus2⟩ := st2.lst
      refine sforR rfl PassesOwn.never T.range (pg_name (i := 18) nd rfl (.inl rfl)) (wpick C2 (hr.mono (by omega)) st2' (xw 0) xi (k := 5) (by decide) (by decide) fun H3 d hd t3 st3 => ?_)
      have tk3 := t3.tk hus2
      refine ⟨d, rfl, by omega, ?_⟩
      refine ⟨fun i σ H' => ∃ x18 x19 x17 b', σ = [some (V.ref a), some (V.int (mk : Int)), x2, some (.int (n : Int)), x4, x5, x6, x7, x8, x9, x10, x11, x12, x13, x14, x15, x16, some x17, x18, x19, none] ∧ TK H3 H' ∧ But a H H' ∧ Stk (c + 4 - i) H' a ∧ Rep.rep H' x17 b' ∧ Okc (if i = 0 then 20 else if i = 1 then 42 else if i = 2 then 86 else if i = 3 then 174 else 350) n (n + mk) b', ⟨none, none, v17, b0, rfl, .refl _, b2.trans t3, st3, Rep.keep tk3 r17, ok⟩, fun i σ H' h => ?_, fun i σ H' hi h => ?_, fun σ H' h => ?_⟩
      · obtain ⟨_, _, _, _, _, k, _⟩ := h
        exact k
      · obtain ⟨x18, x19, x17, b', rfl, tk, bt, st, rb, ok⟩ := h
        generalize hB : (if i = 0 then 20 else if i = 1 then 42 else if i = 2 then 86 else if i = 3 then 174 else 350) = B at *
        have hB2 : B ≤ 174 ∧ 2 * B + 2 ≤ (if i + 1 = 0 then 20 else if i + 1 = 1 then 42 else if i + 1 = 2 then 86 else if i + 1 = 3 then 174 else 350) := by
          rcases (show i = 0 ∨ i = 1 ∨ i = 2 ∨ i = 3 by omega) with z | z | z | z <;> subst z <;> simp at hB ⊢ <;> omega
        have okb := ok.okb (by omega)
        have st'' : Stk ((c + 4 - (i + 1)) + 1) H' a := st.mono (by omega)
        obtain ⟨us', hus'⟩ := st''.lst
        show WS _ _ _ _ _
        refine ssetW 19 nd (wcall2 C1 (hr.mono (by omega)) (wv 17 x17 (wpick C2 (hr.mono (by omega)) st'' (xw 0) (xv 3 (d := (n : Int)) rfl) ok.wf.one (by have := ok.n4; omega) fun H3 j hj t3 st3 => ?_)))
        have tk3 := t3.tk hus'
        have rb3 := Rep.keep tk3 rb
        refine ⟨x17, .int (j : Int), b', (j : Int), rfl, rb3, rfl, preSwap.of ok.wf hj (okb.fit (by omega)) (by have := ok.m; omega), fun v3 H4 s4 r4 => ?_⟩
        have rb4 := Rep.up s4 rb3
        have hsl : (Nh.swI b' (j : Int)).length = n + mk := by rw [show Nh.swI b' (j : Int) = Nh.sw b' j from rfl, sw_len, ok.wf.len]
        have hbl : b'.length = n + mk := ok.wf.len
        refine sset 17 nd ((xcat (xslU (xv 19 r4) (xv 3 (d := (n : Int)) rfl)) (xslL (xv 17 rb4) (xv 3 (d := (n : Int)) rfl)) ?_).as (show _ = (Nh.sw b' j).take n ++ b'.drop n from ?_)) fun v5 H5 s5 r5 => wnil ?_
        · rw [cut_to _ (by rw [hsl]; omega), cut_from _ (by rw [hbl]; omega), List.length_take, List.length_drop, hsl, hbl]
          exact len40 (by have := ok.n4; omega)
        · rw [cut_to _ (by rw [hsl]; omega), cut_from _ (by rw [hbl]; omega)]; rfl
        · exact ⟨_, _, v5, _, rfl, (tk.trans tk3).trans (tk_of (s4.trans s5)), (bt.trans t3).trans (.of (s4.trans s5)), st3.up (s4.trans s5), r5, (ok.turn hj).mono hB2.2⟩
      · obtain ⟨x18, x19, x17, b', rfl, tk, bt, st, rb, ok⟩ := h
        refine sret (xv 17 rb) fun u H4 s4 r4 => q u H4 b' n (bt.trans (.of s4)) ((st.up s4).mono (by omega)) (ok.mono ?_) r4
        split
        · omega
        · split
          · omega
          · split
            · omega
            · split <;> omega
    -- marks
    have marks : ∀ (x2 x4 x5 x6 x8 x9 x10 x11 x12 x13 x14 x15 x16 : Option V) (n : Nat) (p7 : Addr) (qs : List Addr) (t : Bd) (W : Nat → Int) (H' : Hp), 1 ≤ n → n ≤ 4 → p7 ≠ a → a ∉ qs → LL H' p7 qs t → Tb n 20 W t → (∀ i, 0 < W i) → But a H H' → Stk (c + 20) H' a → WS (cxOf CX0 P w K mg base ["_law_stock_here", "_law_marks", "_law_sizes", "_law_many", "_law_names", "_law_place", "_law_to", "_law_rows", "_law_base", "_law_size", "_law_one", "_law_other", "_law_entry", "_law_back", "_law_sign", "_law_line", "_law_side", "_law_board_here", "_law_turn", "_law_made", "_law_mark"] "_law_finite" (defScope (topS 35)) f cdv A outer s H E).nox ((defBody (topS 35)).drop 7) { nx := fun _ H' => Q .non H', rt := Q } [some (V.ref a), some (V.int (mk : Int)), x2, some (V.int (n : Int)), x4, x5, x6, some (V.ref p7), x8, x9, x10, x11, x12, x13, x14, x15, x16, none, none, none, none] H' := fun x2 x4 x5 x6 x8 x9 x10 x11 x12 x13 x14 x15 x16 n p7 qs t W H' n1 n4 na7 naq ll tb hW bt st7 => by
      obtain ⟨us7, hus7⟩ := st7.lst
      refine ssetW 7 nd (wjoin (wv 7 (.ref p7) (wlcW (i := 20) rfl nd (by kernel_rfl) T.range (lcWL (m := mk) (c := c + 5) (w := 4) (N := c + 20) (P := fun r => r.length = n ∧ ∀ e, e ∈ r → e.natAbs < 2 ^ 20) (xv 1 (d := (mk : Int)) rfl) (by omega) (by omega) st7 (fun k H8 hk b8 s8 _ _ _ _ _ => ?_) fun p6 qs6 rs6 H9 hlen hP np6 hnew6 ll6 b9 st9 => ?_))))
      · refine wlcW (i := 5) rfl nd (by kernel_rfl) T.range (lcWS (n := n) (c := c + 20 - 4 * (k + 1)) (N := c + 20 - 4 * k) (P := fun e => e.natAbs < 2 ^ 20) (xv 3 (d := (n : Int)) rfl) (by omega) (by omega) s8 (fun k2 H9 hk2 b9 s9 _ _ _ _ _ => ?_) fun q9 xs H10 hlen hP nq9 l9 b10 s10 => ⟨q9, xs, rfl, nq9, l9, ⟨hlen, hP⟩, b10, s10⟩)
        have s9' : Stk ((c + 20 - 4 * k - (k2 + 1)) + 1) H9 a := s9.mono (by omega)
        refine wsubE (wpick C2 (hr.mono (by omega)) s9' (xw 0) xi (k := 9) (by omega) (by omega) fun H11 d hd t11 st11 => (xi : Ex _ _ H11 _ (4 : Int)).run fun v' H12 s12 r12 => ⟨(d : Int), 4, rfl, r12, _, rfl, by omega, t11.trans (.of s12), st11.up s12⟩)
      · have ll9 := ll.but b9 na7 naq
        refine ⟨p7, qs, t, p6, qs6, rs6, rfl, rfl, ll9, ll6, fun q' hq' hq => ?_, by rw [tb.len, hlen]; omega, fun z nz ll10 => ?_⟩
        · obtain ⟨vs, hv⟩ := ll.has hq
          rw [hnew6 q' hq'] at hv; cases hv
        · have b10 := (bt.trans b9).trans (.of (same_new (o := .lst (qs.map V.ref ++ qs6.map V.ref)) nz))
          have st10 := st9.up (same_new (o := .lst (qs.map V.ref ++ qs6.map V.ref)) nz)
          refine sset 17 nd (xtt (i := 15) rfl nd (by kernel_rfl) T.tuple ll10 (xw 7) (by rw [List.length_append, tb.len, hlen]; omega) fun k q' r' hq' hr' H11 s11 _ _ _ _ _ => xtupL (LsR.up s11 (LsR.ints.mpr (ll10.row k q' r' hq' hr'))) T.tuple (xw 15)) fun u H12 s12 r12 => ?_
          have ok : Okc 20 n (n + rs6.length) (t ++ rs6) := tb.okc (fun i _ => hW i) n1 n4 (by omega) hP
          rw [hlen] at ok
          exact swaps x2 x4 x5 x6 _ x8 x9 x10 x11 x12 x13 x14 x15 x16 u _ n H12 r12 ok (b10.trans (.of s12)) (st10.up s12)
    -- the pieces
    have pieces : ∀ (x5 x6 : Option V) (p2 p4 : Addr) (ns : List Nat) (n : Nat) (nm : List Int) (H2 : Hp), ns ∈ szN → n = ns.sum → p2 ≠ a → H p4 = none → p4 ≠ p2 → LsR H2 p2 (toI ns) → LsR H2 p4 nm → Nm n nm → But a H H2 → Stk (c + 90) H2 a → WS (cxOf CX0 P w K mg base ["_law_stock_here", "_law_marks", "_law_sizes", "_law_many", "_law_names", "_law_place", "_law_to", "_law_rows", "_law_base", "_law_size", "_law_one", "_law_other", "_law_entry", "_law_back", "_law_sign", "_law_line", "_law_side", "_law_board_here", "_law_turn", "_law_made", "_law_mark"] "_law_finite" (defScope (topS 35)) f cdv A outer s H E).nox ((defBody (topS 35)).drop 5) { nx := fun _ H' => Q .non H', rt := Q } [some (V.ref a), some (V.int (mk : Int)), some (V.ref p2), some (V.int (n : Int)), some (V.ref p4), x5, x6, none, none, none, none, none, none, none, none, none, none, none, none, none, none] H2 := fun x5 x6 p2 p4 ns n nm H2 hns hn ne2 np4 n42 l2 l4 hnm b2 st2 => by
      obtain ⟨hs14, n1, n4, nl4⟩ := sz_ok ns hns
      rw [← hn] at n1 n4
      have ne4 : p4 ≠ a := fun e => by rw [e, hus] at np4; cases np4
      obtain ⟨us2, hus2⟩ := st2.lst
      refine spar 7 8 rfl nd (compLL (i := 5) (f := fun _ : Int => List.replicate n (0 : Int)) rfl nd (by kernel_rfl) (wrng T.range (xv 3 (d := (n : Int)) rfl) (by omega)) (by rw [upto_len]; exact len40 (by omega)) fun k x hx v H6 s6 r6 _ _ _ _ _ => EL.as (lrep (EL.o (lone (xi (i := 0)))) (xv 3 (d := (n : Int)) rfl) (by omega) (by show 1 * n ≤ _; exact len40 (by omega))) (flat_one n)).ev xi fun v7 v8 H3 H4 s3 r7 s4 r8 => ?_
      obtain ⟨p7, qs, rfl, np7, ll, hnew⟩ := r7
      have e8 : v8 = V.int ((0 : Nat) : Int) := r8
      subst e8
      have erep : (upto n).map (fun _ : Int => List.replicate n (0 : Int)) = List.replicate n (List.replicate n 0) := by
        rw [List.map_const', upto_len]
      rw [erep] at ll
      have s34 := s3.trans s4
      obtain ⟨vs4, hv4, _⟩ := id l4
      obtain ⟨vs2, hv2, _⟩ := id l2
      have n47 : p4 ≠ p7 := fun e => by rw [← e, hv4] at np7; cases np7
      have n4q : p4 ∉ qs := fun m => by have := hnew p4 m; rw [hv4] at this; cases this
      have n27 : p2 ≠ p7 := fun e => by rw [← e, hv2] at np7; cases np7
      have n2q : p2 ∉ qs := fun m => by have := hnew p2 m; rw [hv2] at this; cases this
      have naq : a ∉ qs := fun m => by have := hnew a m; rw [hus2] at this; cases this
      have na7 : p7 ≠ a := fun e => by rw [e, hus2] at np7; cases np7
      have hqH : ∀ q', q' ∈ qs → H q' = none := fun q' hq' => fresh b2 st2.lst (hnew q' hq')
      have l24 := l2.up s34
      refine sfor rfl PassesOwn.never (wlst l24 (xw 2)) (pg_name (i := 9) nd rfl (.inl rfl)) fun Hb src s5 sc there => ?_
      subst sc
      have thr := there p2 rfl
      have s35 := s34.trans s5
      refine ⟨fun i σ H' => ∃ x9 x10 x11 x12 x13 x14 x15 x16 t, σ = [some (V.ref a), some (V.int (mk : Int)), some (.ref p2), some (.int (n : Int)), some (.ref p4), x5, x6, some (.ref p7), some (.int (((ns.take i).sum : Nat) : Int)), x9, x10, x11, x12, x13, x14, x15, x16, none, none, none, none] ∧ Kp Hb (some p2) H' ∧ But a H H' ∧ Stk (c + 90 - 14 * i) H' a ∧ LsR H' p4 nm ∧ LL H' p7 qs t ∧ Pz n nm (ns.take i).sum t,
        ⟨_, _, _, _, _, _, _, _, _, rfl, ⟨.refl _, fun _ _ => rfl⟩, b2.trans (.of s35), st2.up s35, l4.up s35, (ll.up s4).up s5, Pz.zero⟩, fun i σ H' h => ?_, fun i x σ H' hx h v H5 s6 r6 => ?_, fun σ H' h => ?_⟩
      · obtain ⟨_, _, _, _, _, _, _, _, _, _, k, _⟩ := h
        exact k
      · obtain ⟨x9, x10, x11, x12, x13, x14, x15, x16, t, rfl, kp, bt, st, l4, ll, pz⟩ := h
        unfold toI at hx
        rw [List.getElem?_map] at hx
        obtain ⟨sz, hsz, rfl⟩ := Option.map_eq_some_iff.mp hx
        obtain ⟨s1', s4'⟩ := hs14 sz (get_mem hsz)
        obtain ⟨hsum, hle⟩ := sum_take_le ns i hsz
        rw [← hn] at hle
        have hi4 : i < 4 := Nat.lt_of_lt_of_le (lt_get hsz) nl4
        generalize hB : (ns.take i).sum = B at *
        have e9 : v = V.int (sz : Int) := r6
        subst e9
        have st5 : Stk ((c + 90 - 14 * i - 10) + 10) H5 a := (st.up s6).mono (by omega)
        obtain ⟨us5, hus5⟩ := st5.lst
        have l45 := l4.up s6
        have ll5 := ll.up s6
        have kp5 := kp.up s6 fun p e => by cases e; exact thr
        show WS _ _ _ _ _
        refine sforLW (α := List Int) rfl PassesOwn.never (pg_tup rfl (pgs_cons (pg_name (i := 10) nd rfl (.inl rfl)) (pgs_cons (pg_name (i := 11) nd rfl (.inl rfl)) (pgs_cons (pg_name (i := 12) nd rfl (.inl rfl)) (pgs_cons (pg_name (i := 13) nd rfl (.inl rfl)) pgs_nil))))) (wcall2 (C3 (c + 90 - 14 * i - 10)) (hr.mono (by omega)) (wv 0 (.ref a) (wv 9 (.int (sz : Int)) ⟨a, sz, rfl, s1', s4', st5, fun q' H6 bonds b6 st6 nq' lb hbd hbl => ?_⟩)))
        obtain ⟨wt, hwt, hbonds⟩ := hbd
        have tk6 := b6.tk hus5
        have naq' : a ≠ q' := fun e => by rw [← e, hus5] at nq'; cases nq'
        have n4q' : p4 ≠ q' := fun e => by
          obtain ⟨vs, hv, _⟩ := l45
          rw [e, nq'] at hv; cases hv
        have nqq : ∀ z, z ∈ qs → z ≠ q' := fun z hz e => by
          obtain ⟨vs, hv⟩ := ll5.has hz
          rw [e, nq'] at hv; cases hv
        obtain ⟨vsb, hvb, _⟩ := id lb
        have kp6 := kp5.put' b6 tk6 fun p e => by cases e; exact ⟨ne2, thr⟩
        refine ⟨q', bonds, rfl, lb, fun j σ H' => ∃ x10 x11 x12 x13 x14 x15 x16 t, σ = [some (V.ref a), some (V.int (mk : Int)), some (.ref p2), some (.int (n : Int)), some (.ref p4), x5, x6, some (.ref p7), some (.int (B : Int)), some (.int (sz : Int)), x10, x11, x12, x13, x14, x15, x16, none, none, none, none] ∧ Kp Hb (some p2) H' ∧ Kp H6 (some q') H' ∧ But a H H' ∧ Stk (c + 90 - 14 * i - 10 - j) H' a ∧ LsR H' p4 nm ∧ LL H' p7 qs t ∧ Pw n nm B sz wt t,
          ⟨_, _, _, _, _, _, _, _, rfl, kp6, ⟨.refl _, fun _ _ => rfl⟩, (bt.trans (.of s6)).trans b6, st6, b6.ls hus5 ne4 l45, ll5.but b6 na7 naq, pz.start hwt⟩, fun j σ H' h => ?_, fun j x σ H' hx h v H8 s8 r8 => ?_, fun σ H' h => ?_⟩
        · obtain ⟨_, _, _, _, _, _, _, _, _, _, k, _⟩ := h
          exact k
        · obtain ⟨x10, x11, x12, x13, x14, x15, x16, t, rfl, kp, kq, bt, st, l4, ll, pw⟩ := h
          obtain ⟨k, l, e, b, rfl, hk, hl, hkl, he, hb, hw⟩ := hbonds x (get_mem hx)
          have hj4 : j < 4 := Nat.lt_of_lt_of_le (lt_get hx) hbl
          refine g4 r8 ?_
          show WS _ _ _ _ _
          have st8 : Stk ((c + 90 - 14 * i - 10 - (j + 1)) + 1) H8 a := (st.up s8).mono (by omega)
          have l48 := l4.up s8
          have ll8 := ll.up s8
          -- the sign
          refine ssetW 14 nd (wsubE (wmulE ((xi : Ex _ _ H8 _ (2 : Int)).run fun v0 H9 s9 r9 => wpick C2 (hr.mono (by omega)) (st8.up s9) (xw 0) xi (k := 2) (by decide) (by decide) fun H10 d hd t10 st10 => ⟨2, (d : Int), r9, rfl, mulx_ok (a := 5) (b := 5) (by decide) (by omega) (by decide), (xi : Ex _ _ H10 _ (1 : Int)).run fun v1 H11 s11 r11 => ⟨2 * (d : Int), 1, rfl, r11, ?_⟩⟩)))
          obtain ⟨us9, hus9⟩ := (st8.up s9).lst
          have hsg : (2 * (d : Int) - 1 = 1) ∨ (2 * (d : Int) - 1 = -1) := by omega
          generalize 2 * (d : Int) - 1 = sg at hsg
          have sgb : sg.natAbs < 2 ^ 5 := by rcases hsg with z | z <;> rw [z] <;> decide
          have tk11 : TK H8 H11 := ((tk_of s9).trans (t10.tk hus9)).trans (tk_of s11)
          have b11 : But a H8 H11 := ((But.of s9).trans t10).trans (.of s11)
          have l411 := (t10.ls hus9 ne4 (l48.up s9)).up s11
          have ll11 := ((ll8.up s9).but t10 na7 naq).up s11
          have st11 := st10.up s11
          obtain ⟨pk, hpk, pkn, ik⟩ := hnm.at (i := B + k) (by omega)
          obtain ⟨pl, hpl, pln, il⟩ := hnm.at (i := B + l) (by omega)
          have hne : pk ≠ pl := fun z => by rw [z, il] at ik; omega
          have tb := pw.choose_spec.2.2.1
          obtain ⟨qi, ri, hqi, hri, li, neqi⟩ := ll11.get (i := pk) (by rw [tb.len]; exact pkn)
          obtain ⟨qj, rj, hqj, hrj, lj, neqj⟩ := ll11.get (i := pl) (by rw [tb.len]; exact pln)
          have rli := tb.row ri (get_mem hri)
          have rlj := tb.row rj (get_mem hrj)
          have lraw := ll11.raws
          have rawI : (qs.map rawR)[pk]? = some (rawR qi) := by rw [List.getElem?_map, hqi]; rfl
          have rawJ : (qs.map rawR)[pl]? = some (rawR qj) := by rw [List.getElem?_map, hqj]; rfl
          have hak : atI nm ((B : Int) + (k : Int)) = some (pk : Int) := by rw [← Int.natCast_add]; exact atI_nat hpk
          have hal : atI nm ((B : Int) + (l : Int)) = some (pl : Int) := by rw [← Int.natCast_add]; exact atI_nat hpl
          refine spar 15 16 rfl nd (xilO (xo 7 lraw) (xilO (xo 4 l411) (xadd (xv 8 (d := (B : Int)) rfl) (xv 10 (d := (k : Int)) rfl)) hak) (atI_nat rawI)) (xilO (xo 7 lraw) (xilO (xo 4 l411) (xadd (xv 8 (d := (B : Int)) rfl) (xv 11 (d := (l : Int)) rfl)) hal) (atI_nat rawJ)) fun v15 v16 H13 H14 s13 r13 s14 r14 => ?_
          have e15 : v15 = V.ref qi := r13
          have e16 : v16 = V.ref qj := r14
          subst e15; subst e16
          have s1314 := s13.trans s14
          have miq : qi ∈ qs := List.mem_of_getElem? hqi
          have mjq : qj ∈ qs := List.mem_of_getElem? hqj
          refine sput2 rfl ((xmul (xv 14 (d := sg) rfl) (xv 12 (d := (e : Int)) rfl) (mulx_ok (a := 5) (b := 5) sgb (by omega) (by decide)) : Ex _ _ H14 _ _).run fun v20 H15 s15 r15 => (xsub xi (xmul (xv 14 (d := sg) rfl) (xv 13 (d := (b : Int)) rfl) (mulx_ok (a := 5) (b := 5) sgb (by omega) (by decide))) : Ex _ _ H15 _ _).run fun v21 H16 s16 r16 => fun tt ntt => ?_)
          have e20 : v20 = V.int (sg * (e : Int)) := r15
          have e21 : v21 = V.int (0 - sg * (b : Int)) := r16
          subst e20; subst e21
          have s1417 := (s1314.trans (s15.trans s16)).trans (same_new (o := .tup [V.int (sg * (e : Int)), V.int (0 - sg * (b : Int))]) ntt)
          have l417 := l411.up s1417
          refine wv 15 (.ref qi) ((xilO (xo 4 l417) (xadd (xv 8 (d := (B : Int)) rfl) (xv 11 (d := (l : Int)) rfl)) hal : Ex _ _ _ _ _).run fun y H18 s18 r18 => ?_)
          have s1118 := s1417.trans s18
          have li18 := li.up s1118
          have hli18 := LsR.ints.mp li18
          refine ⟨qi, _, (pl : Int), pl, rfl, r18, hli18, by rw [List.length_map, rli]; exact ixN_nat pln, ?_⟩
          have t18 : But qi H18 (upd H18 qi (.lst ((ri.map V.int).set pl (V.int (sg * (e : Int)))))) := .upd
          have l18 : LsR (upd H18 qi (.lst ((ri.map V.int).set pl (V.int (sg * (e : Int)))))) qi (ri.set pl (sg * (e : Int))) := LsR.ints.mpr (by rw [upd_same, List.map_set])
          generalize upd H18 qi (.lst ((ri.map V.int).set pl (V.int (sg * (e : Int))))) = H19 at *
          have nei4 : p4 ≠ qi := fun z => n4q (z ▸ miq)
          have nea : a ≠ qi := fun z => naq (z ▸ miq)
          have nej4 : p4 ≠ qj := fun z => n4q (z ▸ mjq)
          have neaj : a ≠ qj := fun z => naq (z ▸ mjq)
          have nei2 : p2 ≠ qi := fun z => n2q (z ▸ miq)
          have nej2 : p2 ≠ qj := fun z => n2q (z ▸ mjq)
          have l419 := t18.ls hli18 nei4 (l411.up s1118)
          have ll19 := (ll11.up s1118).put hqi t18 l18
          refine wv 16 (.ref qj) ((xilO (xo 4 l419) (xadd (xv 8 (d := (B : Int)) rfl) (xv 10 (d := (k : Int)) rfl)) hak : Ex _ _ _ _ _).run fun y2 H20 s20 r20 => ?_)
          have hrj2 : (t.set pk (ri.set pl (sg * (e : Int))))[pl]? = some rj := by rw [List.getElem?_set_ne hne]; exact hrj
          have lj20 : LsR H20 qj rj := LsR.up s20 (LsR.ints.mpr (ll19.row pl qj rj hqj hrj2))
          have hlj20 := LsR.ints.mp lj20
          refine ⟨qj, _, (pk : Int), pk, rfl, r20, hlj20, by rw [List.length_map, rlj]; exact ixN_nat pkn, wnil ?_⟩
          have t20 : But qj H20 (upd H20 qj (.lst ((rj.map V.int).set pk (V.int (0 - sg * (b : Int)))))) := .upd
          have l20 : LsR (upd H20 qj (.lst ((rj.map V.int).set pk (V.int (0 - sg * (b : Int)))))) qj (rj.set pk (0 - sg * (b : Int))) := LsR.ints.mpr (by rw [upd_same, List.map_set])
          generalize upd H20 qj (.lst ((rj.map V.int).set pk (V.int (0 - sg * (b : Int))))) = H21 at *
          have l421 := t20.ls hlj20 nej4 (l419.up s20)
          have ll21 := (ll19.up s20).put hqj t20 l20
          have tk18 := t18.tk hli18
          have tk20 := t20.tk hlj20
          have thrq : ∃ us, H6 q' = some (.lst us) := ⟨vsb, hvb⟩
          have neq1 : ∀ p, some p2 = some p → p ≠ a ∧ ∃ us, Hb p = some (.lst us) := fun p e => by cases e; exact ⟨ne2, thr⟩
          have kp1 := ((kp.up s8 fun p e => by cases e; exact thr).put' b11 tk11 neq1).up s1118 fun p e => by cases e; exact thr
          have kp2 := (((kp1.put' t18 tk18 fun p e => by cases e; exact ⟨nei2, thr⟩).up s20 fun p e => by cases e; exact thr).put' t20 tk20 fun p e => by cases e; exact ⟨nej2, thr⟩)
          have kq1 := ((kq.up s8 fun p e => by cases e; exact thrq).put' b11 tk11 fun p e => by cases e; exact ⟨Ne.symm naq', thrq⟩).up s1118 fun p e => by cases e; exact thrq
          have kq2 := (((kq1.put' t18 tk18 fun p e => by cases e; exact ⟨Ne.symm (nqq qi miq), thrq⟩).up s20 fun p e => by cases e; exact thrq).put' t20 tk20 fun p e => by cases e; exact ⟨Ne.symm (nqq qj mjq), thrq⟩)
          have bt2 := ((((bt.trans (.of s8)).trans b11).trans (.of s1118)).new (hqH qi miq) t18 |>.trans (.of s20)).new (hqH qj mjq) t20
          have st2 := (((st11.up s1118).but t18 hli18 nea).up s20).but t20 hlj20 neaj
          refine ⟨_, _, _, _, _, _, _, _, rfl, kp2, kq2, bt2, st2, l421, ll21, ?_⟩
          have P2 := pw.put pkn pln ik il hk hl hkl he hb hw hsg
          have e1 : setE t pk pl (sg * (e : Int)) = t.set pk (ri.set pl (sg * (e : Int))) := by unfold setE; rw [getD_of hri]
          rw [e1] at P2
          unfold setE at P2
          rw [getD_of hrj2] at P2
          exact P2
        · obtain ⟨x10, x11, x12, x13, x14, x15, x16, t, rfl, kp, kq, bt, st, l4, ll, pw⟩ := h
          refine sset 8 nd (xadd (xv 8 (d := (B : Int)) rfl) (xv 9 (d := (sz : Int)) rfl)) fun v8 H9 s9 r9 => wnil ?_
          have e8 : v8 = V.int (((ns.take (i + 1)).sum : Nat) : Int) := by
            rw [hsum, Int.natCast_add]; exact r9
          subst e8
          refine ⟨_, _, _, _, _, _, _, _, t, rfl, kp.up s9 (fun p e => by cases e; exact thr), bt.trans (.of s9), (st.up s9).mono (by omega), l4.up s9, ll.up s9, ?_⟩
          rw [hsum]
          exact pw.done
      · obtain ⟨x9, x10, x11, x12, x13, x14, x15, x16, t, rfl, kp, bt, st, l4, ll, pz⟩ := h
        unfold toI at st pz
        rw [List.length_map] at st pz
        rw [List.take_length, ← hn] at pz
        obtain ⟨W, hW, tb, _⟩ := pz
        exact marks _ _ _ _ _ _ _ _ _ _ _ _ _ n p7 qs t W H' n1 n4 na7 naq ll tb hW bt (st.mono (by omega))
    -- the sizes, the names
    refine sset 2 nd (lrows [[4], [4], [3], [3, 1], [2, 2], [2], [2, 1, 1], [3], [1], [1, 1], [2, 1], [1, 1, 1], [4], [3, 1], [2, 2]] (by rfl) (by decide)) fun v2 H1 s1 ⟨p2, vs2, e2, np2, h2, lr2⟩ => ?_
    subst e2
    have st1 : Stk ((c + 99) + 1) H1 a := st.up s1
    refine ssetW 2 nd (we (pe_ix ix_list (lzE _) (lzE _) (by intro _ _; rfl)) (we (pe_op op_cat (lzE _) (lzE _)) (wv 2 (.ref p2) ((lrows [[1, 1, 1, 1]] (by rfl) (by decide)) H1 (.refl H1) _ fun u H2 s2 ⟨p3, vs3, e3, np3, h3, lr3⟩ => ?_))))
    have lrA : LRows H H2 (vs2 ++ vs3) (szN.map toI) := A2.append (lr2.up s2) (lr3.dn s1)
    refine ⟨p2, p3, vs2, vs3, rfl, e3, s2 _ _ h2, h3, by rw [A2.length lr2, A2.length lr3]; exact len40 (by decide), fun t nt => ?_⟩
    have st2 := (st1.up s2).up (same_new (o := .lst (vs2 ++ vs3)) nt)
    obtain ⟨us2, hus2⟩ := st2.lst
    obtain ⟨us2', hus2'⟩ := (st1.up s2).lst
    refine wpick C2 (hr.mono (by omega)) st2 (xw 0) xi (k := 16) (by decide) (by decide) fun H4 d hd t4 st4 => ?_
    obtain ⟨r, hr'⟩ := get_lt (l := szN.map toI) (i := d) hd
    obtain ⟨z, hz, q2, ez, nq2, lq2⟩ := A2.get lrA hr'
    subst ez
    rw [List.getElem?_map] at hr'
    obtain ⟨ns, hns, rfl⟩ := Option.map_eq_some_iff.mp hr'
    have hnsm := get_mem hns
    have nta : t ≠ a := fun e => by rw [e, hus2'] at nt; cases nt
    have ne2 : q2 ≠ a := fun e => by rw [e, hus] at nq2; cases nq2
    have lq4 := t4.ls hus2 ne2 (lq2.up (same_new (o := .lst (vs2 ++ vs3)) nt))
    have b4 : But a H H4 := (((But.of s1).trans (.of s2)).trans (.of (same_new (o := .lst (vs2 ++ vs3)) nt))).trans t4
    refine ⟨t, vs2 ++ vs3, (d : Int), V.ref q2, rfl, rfl, .of (t4 t _ nta upd_same), atI_nat hz, ?_⟩
    obtain ⟨hs14, n1, n4, nl4⟩ := sz_ok ns hnsm
    refine sset 3 nd (xsumO rfl T.sum (xo 2 lq4)) fun v3 H5 s5 r5 => ?_
    have e3 : v3 = V.int ((ns.sum : Nat) : Int) := by rw [← toI_sum]; exact r5
    subst e3
    generalize hn : ns.sum = n at *
    have lq5 := lq4.up s5
    refine ssetc 4 (comp1 (i := 5) (f := fun x : Int => x) rfl nd (by kernel_rfl) (wrng (n := n) T.range (xv 3 (d := (n : Int)) rfl) (by omega)) (by rw [upto_len]; exact len40 (by omega)) fun k x hx v H6 s6 r6 _ _ _ _ _ => xv 5 r6) fun v4 H6 s6 ⟨p4, e4, np4, l4⟩ => ?_
    subst e4
    rw [List.map_id'] at l4
    have n42 : p4 ≠ q2 := fun e => by
      obtain ⟨vs, hv, _⟩ := lq5
      rw [← e, np4] at hv; cases hv
    have np4H : H p4 = none := fresh (b4.trans (.of s5)) (st4.up s5).lst np4
    have ne4 : p4 ≠ a := fun e => by rw [e, hus] at np4H; cases np4H
    refine sfor rfl PassesOwn.never (wrng T.range (xv 3 (d := (n : Int)) rfl) (by omega)) (pg_name (i := 5) nd rfl (.inl rfl)) fun Hb src s7 sc _ => ?_
    subst sc
    have s57 := (s5.trans s6).trans s7
    refine ⟨fun i σ H' => ∃ x5 x6 nm, σ = [some (V.ref a), some (V.int (mk : Int)), some (.ref q2), some (.int (n : Int)), some (.ref p4), x5, x6, none, none, none, none, none, none, none, none, none, none, none, none, none, none] ∧ TK Hb H' ∧ But a H H' ∧ Stk (c + 99 - i) H' a ∧ LsR H' q2 (toI ns) ∧ LsR H' p4 nm ∧ Nm n nm, ⟨_, _, _, rfl, .refl _, b4.trans (.of s57), st4.up s57, lq4.up s57, l4.up s7, .refl _⟩, fun i σ H' h => ?_, fun i x σ H' hx h v H8 s8 r8 => ?_, fun σ H' h => ?_⟩
    · obtain ⟨_, _, _, _, k, _⟩ := h
      exact ⟨k, fun _ e => nomatch e⟩
    · obtain ⟨x5, x6, nm, rfl, tk, bt, st, lq, l4, hnm⟩ := h
      obtain ⟨hi, rfl⟩ := upto_get hx
      have e5 : v = V.int (i : Int) := r8
      subst e5
      have st8 : Stk ((c + 99 - (i + 1)) + 1) H8 a := (st.up s8).mono (by omega)
      obtain ⟨us8, hus8⟩ := st8.lst
      show WS _ _ _ _ _
      refine ssetW 6 nd (waddE (wv 5 (.int (i : Int)) (wpick C2 (hr.mono (by omega)) st8 (xw 0) ((xsub (xv 3 (d := (n : Int)) rfl) (xv 5 (d := (i : Int)) rfl)).as (show (n : Int) - (i : Int) = ((n - i : Nat) : Int) by omega)) (by omega) (by omega) fun H9 d hd t9 st9 => ⟨(i : Int), (d : Int), rfl, rfl, ?_⟩)))
      have hj : i + d < n := by omega
      have l49 := t9.ls hus8 ne4 (l4.up s8)
      have lq9 := t9.ls hus8 ne2 (lq.up s8)
      obtain ⟨x, hxi⟩ := get_lt (l := nm) (i := i) (by rw [hnm.len]; exact hi)
      obtain ⟨y, hyj⟩ := get_lt (l := nm) (i := i + d) (by rw [hnm.len]; exact hj)
      have haj : atI nm ((i : Int) + (d : Int)) = some y := by rw [← Int.natCast_add]; exact atI_nat hyj
      refine sput2 rfl ((xilO (xo 4 l49) (xv 6 (d := (i : Int) + (d : Int)) rfl) haj : Ex _ _ H9 _ _).run fun v10 H10 s10 r10 => (xilO (xo 4 (l49.up s10)) (xv 5 (d := (i : Int)) rfl) (atI_nat hxi) : Ex _ _ H10 _ _).run fun v11 H11 s11 r11 => fun tt ntt => ?_)
      have e10 : v10 = V.int y := r10
      have e11 : v11 = V.int x := r11
      subst e10; subst e11
      have s912 := (s10.trans s11).trans (same_new (o := .tup [V.int y, V.int x]) ntt)
      have hl12 := LsR.ints.mp (l49.up s912)
      refine wv 4 (.ref p4) (wv 5 (.int (i : Int)) ⟨p4, nm.map V.int, (i : Int), i, rfl, rfl, hl12, by rw [List.length_map, hnm.len]; exact ixN_nat hi, wv 4 (.ref p4) (wv 6 (.int ((i : Int) + (d : Int))) ⟨p4, (nm.map V.int).set i (.int y), (i : Int) + (d : Int), i + d, rfl, rfl, upd_same, by rw [List.length_set, List.length_map, hnm.len, ← Int.natCast_add]; exact ixN_nat hj, wnil ?_⟩)⟩)
      generalize upd H11 tt (.tup [V.int y, V.int x]) = H12 at *
      have t14 : But p4 H12 (upd (upd H12 p4 (.lst ((nm.map V.int).set i (.int y)))) p4 (.lst (((nm.map V.int).set i (.int y)).set (i + d) (.int x)))) := But.trans .upd .upd
      have l14 : LsR (upd (upd H12 p4 (.lst ((nm.map V.int).set i (.int y)))) p4 (.lst (((nm.map V.int).set i (.int y)).set (i + d) (.int x)))) p4 ((nm.set i y).set (i + d) x) := LsR.ints.mpr (by rw [upd_same, List.map_set, List.map_set])
      exact ⟨_, _, _, rfl, ((tk.trans (tk_of s8)).trans (t9.tk hus8)).trans ((tk_of s912).trans (t14.tk hl12)), (((bt.trans (.of s8)).trans t9).trans (.of s912)).new np4H t14, (st9.up s912).but t14 hl12 (Ne.symm ne4), t14.ls hl12 (Ne.symm n42) (lq9.up s912), l14, hnm.swap hxi hyj⟩
    · obtain ⟨x5, x6, nm, rfl, tk, bt, st, lq, l4, hnm⟩ := h
      rw [upto_len] at st
      exact pieces x5 x6 q2 p4 ns n nm H' hnsm hn.symm ne2 np4H n42 lq l4 hnm bt (st.mono (by omega))
end
end Nh
set_option Elab.async false
set_option linter.all false
set_option maxRecDepth 100000
namespace Nh
open PySem PySem.Spec PyProof.Rows L2
/-! ### rules for _law_right -/
section
variable {X : Cx} {σ : L2.St} {H : Hp} {D : Ends} {rest : List Stmt} {α : Type} [Rep α] {a b c e elt iter : Expr} {scope : Scope} {pos p p3 : Pos}
/-- a, b = e, e a tuple made with effects -/
theorem sunpW (i j : Nat) {y z : Str} {py pz pt : Pos} {kt : Nat} (hc : X.calm = true) (nd : X.N.Nodup)
    (h : WE X e σ H fun v H1 => ∃ t v1 v2, v = .ref t ∧ H1 t = some (.tup [v1, v2]) ∧ WS X rest D ((σ.set i (some v1)).set j (some v2)) H1)
    (hi : X.N[i]? = some y := by rfl) (hj : X.N[j]? = some z := by rfl) (hy : Loc X.env.scope y := by first | exact Or.inl rfl | exact Or.inr rfl) (hz : Loc X.env.scope z := by first | exact Or.inl rfl | exact Or.inr rfl)
    (fy : X.fn y = true ∨ X.env.scope.names.lookup y = some .local := by first | exact .inl rfl | exact .inr rfl) (fz : X.fn z = true ∨ X.env.scope.names.lookup z = some .local := by first | exact .inl rfl | exact .inr rfl)
    (hs : swapsWithSole [.Tuple [.Name y py, .Name z pz] kt pt] e pos.line X.env = pure false := by rfl) (hw : swappedStores [.Tuple [.Name y py, .Name z pz] kt pt] e X.env = pure none := by rfl) :
    WS X (.Assign [.Tuple [.Name y py, .Name z pz] kt pt] e pos :: rest) D σ H :=
  wcons (w1 (ps_asg (lzE e) (pg_tup hc (pgs_cons (pg_name nd hi hy fy) (pgs_cons (pg_name nd hj hz fz) pgs_nil))) hs hw) (WE.mono h fun v H1 ⟨t, v1, v2, ev, ht, k⟩ => by
    subst ev
    exact ⟨t, _, rfl, .of ht, rfl, v1, [v2], rfl, v2, [], rfl, rfl, k⟩))
/-- not a, with effects -/
theorem wnotT {Q : Bool → Hp → Prop} (h : WT X a σ H fun t H' => Q (!t) H') : WT X (.UnaryOp .Not a pos) σ H Q := wt (pt_not (lzT a)) h
/-- a value that is a bool, as a test -/
theorem wvT {Q : Bool → Hp → Prop} (h : WE X e σ H fun v H' => ∃ t, v = .bl t ∧ Q t H') (he : ∀ whole, isTrue e X.env whole = (do let v ← whole; standAt e.pos; holding [v] (truthy v)) := by intro _; rfl) : WT X e σ H Q := wt (pt_val (lzE e) he) h
/-- a and b as a value, with effects -/
theorem wandE {Q : VK} (h : WE X a σ H fun v H1 => v = .bl true ∧ WE X b σ H1 Q) : WE X (.BoolOp .And [a, b] pos) σ H Q :=
  we (pe_and (lzE a) (pe_one (lzE b))) (WE.mono h fun v H1 ⟨ev, k⟩ => ⟨true, ev, iteT k⟩)
/-- [e for y in range(n)] of data: each item is read at a stock -/
theorem lcWR {i : Nat} {P : α → Prop} {Q : VK} {a : Addr} {n c w N : Nat} (hN : Ex X σ H e (n : Int)) (hn : n ≤ 4000) (hN2 : c + w * n ≤ N) (st : Stk N H a)
    (step : ∀ k H1, k < n → But a H H1 → Stk (N - w * k) H1 a → InBlk X scope fun Y => WE Y elt ((wipe σ [i]).set i (some (.int (k : Int)))) H1 fun u H2 => ∃ x : α, Rep.rep H2 u x ∧ P x ∧ But a H1 H2 ∧ Stk (N - w * (k + 1)) H2 a)
    (done : ∀ q xs H', xs.length = n → (∀ x, x ∈ xs → P x) → H q = none → LsR H' q xs → But a H H' → Stk c H' a → Q (.ref q) H') :
    tLc (iRng1 (tCons (WE X e) tNil)) (gName i) tYes (fun σ H Q => InBlk X scope fun Y => WE Y elt σ H Q) [i] σ H Q :=
  lcWG (hN H (.refl H) _ fun v Hb s r => by
    obtain ⟨ust, hust⟩ := st.lst
    have hb := s _ _ hust
    refine ⟨n, r, by omega, hn, fun D hD => ?_⟩
    have ne : a ≠ D := fun e => by rw [← e, hb] at hD; cases hD
    refine ⟨fun k us H' => ∃ xs : List α, xs.length = k ∧ A2 (Rep.rep H') us xs ∧ (∀ x, x ∈ xs → P x) ∧ But a H H' ∧ Stk (N - w * k) H' a,
      ⟨[], rfl, .nil, fun r hr => absurd hr List.not_mem_nil, .of (s.trans (same_new hD)), (st.up (s.trans (same_new hD))).mono (by omega)⟩, fun k us H1 hk hl hx iv => ?_, fun us H' hl hx iv => ?_⟩
    · obtain ⟨xs, hxl, rx, hP, b1, s1⟩ := iv
      intro b1' b2' b3' b4' b5'
      refine WE.mono (step k H1 hk b1 s1 b1' b2' b3' b4' b5') fun u H2 ⟨x, rxu, hx2, b2, s2⟩ => ?_
      have h2 := b2 D _ (Ne.symm ne) hx
      obtain ⟨us1, hus1⟩ := s1.lst
      have tk := (b2.tk hus1).trans (tk_lst (o := .lst (us ++ [u])) h2)
      refine ⟨h2, xs ++ [x], by rw [List.length_append, hxl]; rfl, (rx.up tk).append (.one (Rep.keep (tk_lst h2) rxu)), fun z hz => ?_, (b1.trans b2).new (s.free hD) .upd, s2.but .upd h2 ne⟩
      rcases List.mem_append.mp hz with w | w
      · exact hP z w
      · rw [List.mem_singleton.mp w]; exact hx2
    · obtain ⟨xs, hxl, rx, hP, b1, s1⟩ := iv
      exact done D xs H' hxl hP (s.free hD) ⟨us, hx, rx⟩ b1 (s1.mono (by omega)))
/-- [y for y in xs if c], where c answers as it will -/
theorem compN {S : Hp → Option Addr → Prop} {i : Nat} {y : Str} {py : Pos} {xs : List α} {P : α → Prop} (hc : X.calm = true) (nd : X.N.Nodup) (ok : blkC X.N X.env.scope scope [(y, i)] = true) (hi : XI X σ H (.Name y py) iter S xs)
    (len : xs.length ≤ sizeLine)
    (ht : ∀ (k : Nat) x, xs[k]? = some x → ∀ v H1, Same H H1 → Rep.rep H1 v x → InBlk X scope fun Y => ∀ Q : Bool → Hp → Prop, (∀ t H', Same H1 H' → (t = true → P x) → Q t H') → WT Y c ((wipe σ [i]).set i (some v)) H1 Q)
    (he : ∀ (k : Nat) x, xs[k]? = some x → ∀ v H1, Same H H1 → Rep.rep H1 v x → InBlk X scope fun Y => Ex Y ((wipe σ [i]).set i (some v)) H1 elt x)
    (hg : InBlk X scope fun Y => PG Y (.Name y py) (gName i) := by intro _ _ _ _ _; first | exact pg_name (by assumption) rfl (Or.inl rfl) | exact pg_name (by assumption) rfl (Or.inr rfl)) (hs : ∀ x, foldedSetIterable iter X.env x = pure x := by intro _; rfl) :
    CL X σ H (.ListComp elt [⟨.Name y py, iter, [c], 0⟩] scope pos) (fun H1 H' v => ∃ q ys, v = .ref q ∧ H1 q = none ∧ LsR H' q ys ∧ (∀ z, z ∈ ys → z ∈ xs ∧ P z) ∧ ys.length ≤ xs.length) := by
  have key : ∀ H1, Same H H1 → ∀ Q : VK, (∀ v H', Same H1 H' → (∃ q ys, v = .ref q ∧ H1 q = none ∧ LsR H' q ys ∧ (∀ z, z ∈ ys → z ∈ xs ∧ P z) ∧ ys.length ≤ xs.length) → Q v H') → tLc (WI X (.Name y py) iter) (gName i) (fun σ H Q => InBlk X scope fun Y => WT Y c σ H Q) (fun σ H Q => InBlk X scope fun Y => WE Y elt σ H Q) [i] σ H1 Q := fun H1 s Q q => by
    refine hi H1 s _ fun J Hb src s1 _ it D hD => ?_
    refine ⟨fun i m H => m = xs.length - i ∧ i ≤ xs.length ∧ Same Hb H ∧ ∃ ys, LsR H D ys ∧ (∀ z, z ∈ ys → z ∈ xs ∧ P z) ∧ ys.length ≤ i, ⟨_, rfl, Nat.zero_le _, same_new hD, [], ⟨[], upd_same, .nil⟩, fun q hq => absurd hq List.not_mem_nil, Nat.le_refl _⟩, ?_⟩
    rintro k m H2 ⟨rfl, hk, s2, ys, ⟨vs, hv, rv⟩, hys, hyl⟩
    have kp := it.keep s2
    by_cases hlt : k < xs.length
    · have hx : xs[k]? = some xs[k] := List.getElem?_eq_getElem hlt
      obtain ⟨g1, g2⟩ := it.go k _ H2 hx kp
      refine .inr ⟨g1, fun H' => k + 1 ≤ xs.length ∧ Same Hb H' ∧ ∃ ys, LsR H' D ys ∧ (∀ z, z ∈ ys → z ∈ xs ∧ P z) ∧ ys.length ≤ k + 1, fun H' h' => ⟨xs.length - (k + 1), by omega, rfl, h'.1, h'.2⟩, fun v H3 yy => ?_⟩
      obtain ⟨s3, r3⟩ := g2 v H3 yy
      have t3 := ((s.trans s1).trans s2).trans s3
      refine ⟨by show ((σ.set i none).set i (some v)).set i none = _; rw [List.set_set, List.set_set]; rfl, ?_⟩
      intro a b c d e
      refine ht k _ hx v H3 t3 r3 a b c d e _ fun t H4 s4 hP => ?_
      cases t with
      | true =>
        rw [if_pos rfl]
        intro a b c d e
        refine he k _ hx v H4 (t3.trans s4) (Rep.up s4 r3) a b c d e H4 (.refl _) _ fun u H5 s5 r5 => ?_
        have s6 := (s3.trans s4).trans s5
        have hv5 := s6 _ _ hv
        refine ⟨vs, hv5, by rw [rv.length]; omega, hlt, same_upd (s2.trans s6) hD, ys ++ [xs[k]], ⟨vs ++ [u], upd_same, ((rv.up (tk_of s6)).up (tk_lst hv5)).append (.one (Rep.keep (tk_lst hv5) r5))⟩, fun z hz => ?_, by rw [List.length_append]; show ys.length + 1 ≤ _; omega⟩
        rcases List.mem_append.mp hz with w | w
        · exact hys z w
        · rw [List.mem_singleton.mp w]
          exact ⟨List.getElem_mem hlt, hP rfl⟩
      | false =>
        rw [if_neg Bool.false_ne_true]
        have s6 := s3.trans s4
        exact ⟨hlt, s2.trans s6, ys, ⟨vs, s6 _ _ hv, rv.up (tk_of s6)⟩, hys, by omega⟩
    · have e : k = xs.length := by omega
      subst e
      exact .inl ⟨it.stop H2 kp, q _ _ (s1.trans s2) ⟨D, ys, rfl, s1.free hD, ⟨vs, hv, rv⟩, hys, hyl⟩⟩
  have he2 : InBlk X scope fun Y => PE Y elt (fun σ H Q => InBlk X scope fun Y => WE Y elt σ H Q) := fun a b c d e => ⟨fun pins s _ _ _ I h => (h a b c d e).run pins s I⟩
  have ht2 : InBlk X scope fun Y => PTs Y [c] (fun σ H Q => InBlk X scope fun Y => WT Y c σ H Q) := fun a b c d e => pts_one ⟨fun pins s _ _ _ I h => (h a b c d e).run pins s I⟩
  exact ⟨fun H1 s Q q => we (pe_lc hc nd (lzI X _ iter) (blkOk_by ok) hg ht2 he2 hs) (key H1 s Q q), fun i y py spos D hi hl hw k => w1 (ps_setLc hc nd hi hl hw (lzI X _ iter) (blkOk_by ok) hg ht2 he2 hs) (key H (.refl H) _ fun v H' s r => k v H' s r)⟩
/-- _law_alike of two answers -/
theorem xalikeO {o : Option (List Int)} (C : LAl X.prog X.w X.K X.mg X.base) (hr : Room 2 X.A) (ha : Ex X σ H a o) (hb : Ex X σ H b o) (hl : ∀ r, o = some r → r.length ≤ 1000) (hg : Gl X "_law_alike" := by rfl) (na : Ns X a := by intro _; rfl) (nb : Ns X b := by intro _; rfl) :
    Ex X σ H (.Call (.Name "_law_alike" p) [a, b] [] pos) true :=
  ecall2 C hr ha hb (fun v u H1 H2 H3 _ s2 r2 s3 r3 Q q => ⟨v, u, rfl, by
    cases o with
    | none => exact .inl ⟨r2, r3⟩
    | some r => exact .inr (.inr ⟨r, hl r rfl, Rep.up (α := List Int) s3 r2, r3⟩), fun H' s' => q _ H' ((s2.trans s3).trans s') rfl⟩) hg na nb (by decide)
end
end Nh
set_option Elab.async false
set_option linter.all false
set_option maxRecDepth 100000
set_option maxHeartbeats 4000000
namespace Nh
open PySem PySem.Spec PyProof.Rows L2
/-! ### _law_right -/
theorem full_pos {n m : Nat} {b : Bd} {r : List Int} (wf : Wf n m b) (hf : fullRow b r = true) : 1 ≤ r.length := by
  cases r with
  | nil =>
    unfold fullRow at hf
    rw [Bool.and_eq_true] at hf
    exact absurd (of_decide_eq_true hf.2) (greens_unit wf)
  | cons x r => exact Nat.succ_le_succ (Nat.zero_le _)
theorem first_short {n m most : Nat} {b : Bd} {r : List Int} (wf : Wf n m b) (h : IsFirst n b most (some r)) : IsFirst n b (r.length - 1) none := fun r' hp hl => by
  obtain ⟨p, l, f, q⟩ := h
  have l1 := full_pos wf f
  cases c : fullRow b r' with
  | false => rfl
  | true =>
    have := rle_len (q r' hp (by omega) c)
    omega
theorem first_take {n m most : Nat} {b : Bd} (wf : Wf n m b) {o : Option (List Int)} (h : IsFirst n (b.take n) most o) : IsFirst n b most o := by
  cases o with
  | none => exact fun r hp hl => (full_take wf r).symm.trans (h r hp hl)
  | some r => exact ⟨h.1, h.2.1, (full_take wf r).symm.trans h.2.2.1, fun r' hp hl hf => h.2.2.2 r' hp hl ((full_take wf r').trans hf)⟩
theorem cut_take_le {α : Type} (xs : List α) : (cut xs none (some (3 : Int))).length ≤ 3 := by
  unfold cut
  rw [List.length_take]
  have e1 : HT.sIx xs.length 0 none = 0 := rfl
  have e2 : HT.sIx xs.length xs.length (some (3 : Int)) ≤ 3 := by simp only [HT.sIx]; split <;> omega
  omega
theorem cut_two_le {α : Type} (xs : List α) (k : Nat) : (cut xs (some (k : Int)) (some ((k : Int) + 2))).length ≤ 2 := by
  unfold cut
  rw [List.length_take, List.length_drop]
  simp only [HT.sIx]
  split <;> split <;> omega
section
variable {P : Program} {w : World} {K : PySem.W.Frag} {mg : Str → Option Value} {base : Heap}
abbrev LSt (P : Program) (w : World) (K : PySem.W.Frag) (mg : Str → Option Value) (base : Heap) : Prop := Cal P w K mg base 1 "_law_stock" ["_law_script", "_law_place"] (spStK K)
abbrev LBo (P : Program) (w : World) (K : PySem.W.Frag) (mg : Str → Option Value) (base : Heap) : Prop := ∀ c, Cal P w K mg base 2 "_law_board" ["_law_stock_here", "_law_many", "_law_marks", "_law_most"] (spBo c)
abbrev LFn (P : Program) (w : World) (K : PySem.W.Frag) (mg : Str → Option Value) (base : Heap) : Prop := ∀ c, Cal P w K mg base 3 "_law_finite" ["_law_stock_here", "_law_marks"] (spFn c)
abbrev LLy (P : Program) (w : World) (K : PySem.W.Frag) (mg : Str → Option Value) (base : Heap) : Prop := ∀ c, Cal P w K mg base 3 "_law_layers" ["_law_stock_here", "_law_table"] (spLay c)
abbrev LRR (P : Program) (w : World) (K : PySem.W.Frag) (mg : Str → Option Value) (base : Heap) : Prop := ∀ c, Cal P w K mg base 8 "_law_rows_right" ["_law_stock_here", "_law_board_here", "_law_rows", "_law_places"] (spRR c)
abbrev LLe (P : Program) (w : World) (K : PySem.W.Frag) (mg : Str → Option Value) (base : Heap) : Prop := ∀ c, Cal P w K mg base 2 "_law_led_on" ["_law_stock_here", "_law_board_here"] (spLed c)
abbrev LOR (P : Program) (w : World) (K : PySem.W.Frag) (mg : Str → Option Value) (base : Heap) : Prop := ∀ c, Cal P w K mg base 8 "_law_orders_right" ["_law_stock_here", "_law_board_here", "_law_most"] (spOR c)
abbrev CSf (P : Program) (w : World) (K : PySem.W.Frag) (mg : Str → Option Value) (base : Heap) : Prop := Cal P w K mg base 5 "shortest_full" ["board", "most"] spSF
structure CalKS (P : Program) (w : World) (K : PySem.W.Frag) (mg : Str → Option Value) (base : Heap) : Prop where
  ex : ∃ (f : Addr) (fd : FuncData), FnOk P w K mg base CX0 5 f fd ["board", "most"] spSF ∧ mg "shortest_full" = some (.ref f) ∧ PySem.W.keepIn K (.ref f) = true ∧ KBinds K fd ["board", "most"] ["most", "board"] swG swG
end
section
variable {X : Cx} {σ : L2.St} {H : Hp} {a b : Expr} {pos p : Pos}
/-- shortest_full(board, most) -/
theorem xsf {n m most : Nat} {bd : Bd} {o : Option (List Int)} (C : CSf X.prog X.w X.K X.mg X.base) (hr : Room 5 X.A) (ha : Ex X σ H a bd) (hb : Ex X σ H b (most : Int)) (ob : Okb n m bd) (n4 : n ≤ 4) (h8 : most ≤ 8) (ho : IsFirst n bd most o) (hg : Gl X "shortest_full" := by rfl) (na : Ns X a := by intro _; rfl) (nb : Ns X b := by intro _; rfl) :
    Ex X σ H (.Call (.Name "shortest_full" p) [a, b] [] pos) o :=
  ecall2 C hr ha hb (fun v u H1 H2 H3 _ s2 r2 s3 r3 Q q => ⟨v, u, bd, n, m, most, rfl, Rep.up s3 r2, r3, ob, n4, h8, fun z H' o' s' h' r' => by
    have e := ho.uniq h'
    subst e
    exact q z H' ((s2.trans s3).trans s') r'⟩) hg na nb (by decide)
/-- shortest_full(most=.., board=..) -/
theorem xsfK {n m most : Nat} {bd : Bd} {o : Option (List Int)} {k1 k2 : Pos} (C : CalKS X.prog X.w X.K X.mg X.base) (hr : Room 5 X.A) (ha : Ex X σ H a (most : Int)) (hb : Ex X σ H b bd) (ob : Okb n m bd) (n4 : n ≤ 4) (h8 : most ≤ 8) (ho : ∀ o', IsFirst n bd most o' → o = o') (hg : Gl X "shortest_full" := by rfl)
    (hall : (backToKw pos (keywordEach [⟨some "most", a, k1⟩, ⟨some "board", b, k2⟩] X.env)).all (·.1.isSome) = true := by rfl) (hks : (backToKw pos (keywordEach [⟨some "most", a, k1⟩, ⟨some "board", b, k2⟩] X.env)).filterMap (·.1) = (["most", "board"] : List Str) := by rfl)
    (hpl : ((backTo pos (starEach [] X.env)).any (·.1) || (backToKw pos (keywordEach [⟨some "most", a, k1⟩, ⟨some "board", b, k2⟩] X.env)).any (·.1.isNone)) = false := by rfl) :
    Ex X σ H (.Call (.Name "shortest_full" p) [] [⟨some "most", a, k1⟩, ⟨some "board", b, k2⟩] pos) o := fun H1 s Q q => by
  obtain ⟨f, fd, F, m', kp, bb⟩ := C.ex
  exact we (pe_callK0 F hr hg m' kp bb pass0 (pk_cons (lzE a) (pk_cons (lzE b) pk_nil)) hall hks (by decide) hpl) (ha H1 s _ fun v H2 s2 r2 => hb H2 (s.trans s2) _ fun u H3 s3 r3 =>
    ⟨u, v, bd, n, m, most, rfl, r3, Rep.up s3 r2, ob, n4, h8, fun z H' o' s' h' r' => by
      have e := ho o' h'
      subst e
      exact q z H' ((s2.trans s3).trans s') r'⟩)
end
def spRiK (K : PySem.W.Frag) : Sp := fun vs H Q _ => ∃ (as : Addr) (ns : List Int) (i : Nat), vs = [.ref as, .int (i : Int)] ∧ SqL K H as (ns.map V.int) ∧ i ≤ 100 ∧ ns.length ≤ 1000 ∧ (∀ z ∈ ns, Builtin.Int.intBits z ≤ 1048576) ∧ ∀ H', Same H H' → Q (.bl true) H'
section
variable {P : Program} {w : World} {K : PySem.W.Frag} {mg : Str → Option Value} {base : Heap}
theorem sc_l_right : FnScope ["_law_script", "_law_place", "_law_stock_here", "_law_many", "_law_marks", "_law_board_here", "_law_places", "_law_made", "_law_most", "_law_rows", "_law_due", "_law_first", "_law_far", "_law_entry", "_law_line", "_law_turn", "_law_row"] ["_law_script", "_law_place"] (defScope (topS 49)) := ⟨rfl, rfl, rfl, by decide +kernel, rfl, by decide +kernel, by decide +kernel⟩
theorem ok_l_right {f : Addr} {fd : FuncData} (T : Blt mg) (C1 : LSt P w K mg base) (C2 : LPi P w K mg base) (C3 : LBo P w K mg base) (C4 : LFn P w K mg base) (C5 : LLy P w K mg base) (C6 : LAl P w K mg base) (C7 : CSf P w K mg base) (C8 : CalKS P w K mg base) (C9 : LGw P w K mg base) (C10 : LFu P w K mg base) (C11 : LFi P w K mg base)
    (C12 : LRR P w K mg base) (C13 : LLe P w K mg base) (C14 : LOR P w K mg base) (F : Fun K "_law_right" "_law_right" (topS 49) f fd) : FnOk P w K mg base CX0 9 f fd ["_law_script", "_law_place"] (spRiK K) := by
  refine F.ok sc_l_right (fun vs H Q E h => ?_) (fun cdv A outer s H vs Q E hr h => ⟨_, lzS _, ?_⟩)
  · obtain ⟨as, ns, i, rfl, _⟩ := h
    rfl
  · obtain ⟨as, ns, i, rfl, hsc, hi, hl, hb, q⟩ := h
    have nd := sc_l_right.nd
    have hu := hr.units
    refine ssetW 2 nd (wcall2 C1 (hr.mono (by omega)) (wv 0 (.ref as) (wv 1 (.int (i : Int)) ⟨as, ns, i, rfl, hsc, hi, hl, hb, fun a H1 s1 na1 st1 => ?_⟩)))
    have naH : H a = none := na1
    have b1 : But a H H1 := .of s1
    -- the two orders, return
    have orders : ∀ (n0 mk : Nat) (v5 v12 : V) (pl mo : Nat) (x7 x9 x10 x11 x13 x14 x15 x16 : Option V) (b b2 : Bd) (n m n2 m2 : Nat) (H' : Hp), Rep.rep H' v5 b → Okb n m b → 1 ≤ pl → pl ≤ 12 → Rep.rep H' v12 b2 → Okb n2 m2 b2 → 1 ≤ mo → mo ≤ 12 → But a H H' → Stk 898900 H' a → WS (cxOf CX0 P w K mg base ["_law_script", "_law_place", "_law_stock_here", "_law_many", "_law_marks", "_law_board_here", "_law_places", "_law_made", "_law_most", "_law_rows", "_law_due", "_law_first", "_law_far", "_law_entry", "_law_line", "_law_turn", "_law_row"] "_law_right" (defScope (topS 49)) f cdv A outer s H E).nox ((defBody (topS 49)).drop 16) { nx := fun _ H' => Q .non H', rt := Q } [some (V.ref as), some (V.int (i : Int)), some (V.ref a), some (V.int (n0 : Int)), some (V.int (mk : Int)), some v5, some (V.int (pl : Int)), x7, some (V.int (mo : Int)), x9, x10, x11, some v12, x13, x14, x15, x16] H' := fun n0 mk v5 v12 pl mo x7 x9 x10 x11 x13 x14 x15 x16 b b2 n m n2 m2 H' r5 ob pl1 pl12 r12 ob2 mo1 mo12 bt st => by
      obtain ⟨us, hus⟩ := st.lst
      refine sretW (wandE (wcall3 (C14 898800) hr (wv 2 (.ref a) (wv 12 v12 (wv 8 (.int (mo : Int)) ⟨a, v12, b2, n2, m2, mo, rfl, r12, ob2, mo1, mo12, st.mono (by omega), fun H2 t2 st2 => ⟨rfl, ?_⟩⟩)))))
      refine wcall3 (C14 898700) hr (wv 2 (.ref a) (wv 5 v5 (wv 6 (.int (pl : Int)) ⟨a, v5, b, n, m, pl, rfl, Rep.keep (t2.tk hus) r5, ob, pl1, pl12, st2.mono (by omega), fun H3 t3 st3 => ?_⟩)))
      exact q H3 (But.same (.refl H) naH ((bt.trans t2).trans t3))
    -- the second board
    have second : ∀ (n0 mk : Nat) (v5 : V) (pl : Nat) (x7 x8 x9 x10 x11 x13 x14 x15 x16 : Option V) (b : Bd) (n m : Nat) (H' : Hp), 1 ≤ n0 → n0 ≤ 4 → mk ≤ 3 → Rep.rep H' v5 b → Okb n m b → 1 ≤ pl → pl ≤ 12 → But a H H' → Stk 899400 H' a → WS (cxOf CX0 P w K mg base ["_law_script", "_law_place", "_law_stock_here", "_law_many", "_law_marks", "_law_board_here", "_law_places", "_law_made", "_law_most", "_law_rows", "_law_due", "_law_first", "_law_far", "_law_entry", "_law_line", "_law_turn", "_law_row"] "_law_right" (defScope (topS 49)) f cdv A outer s H E).nox ((defBody (topS 49)).drop 14) { nx := fun _ H' => Q .non H', rt := Q } [some (V.ref as), some (V.int (i : Int)), some (V.ref a), some (V.int (n0 : Int)), some (V.int (mk : Int)), some v5, some (V.int (pl : Int)), x7, x8, x9, x10, x11, none, x13, x14, x15, x16] H' := fun n0 mk v5 pl x7 x8 x9 x10 x11 x13 x14 x15 x16 b n m H' n01 n04 mk3 r5 ob pl1 pl12 bt st => by
      obtain ⟨us, hus⟩ := st.lst
      have st' : Stk (899398 + 1) H' a := st.mono (by omega)
      refine sparW 12 8 rfl nd (wcall2 (C13 899300) (hr.mono (by omega)) (wv 2 (.ref a) (wcall4 (C3 899303) (hr.mono (by omega)) (wv 2 (.ref a) (wv 3 (.int (n0 : Int)) (wv 4 (.int (mk : Int)) (waddE ((xi : Ex _ _ H' _ (1 : Int)).run fun v1 H1 s1 r1 => wpick C2 (hr.mono (by omega)) (st'.up s1) (xw 2) xi (k := 4) (by decide) (by decide) fun H2 d hd t2 st2 => ⟨1, (d : Int), r1, rfl, ⟨a, n0, mk, d + 1, by rw [show (1 : Int) + (d : Int) = ((d + 1 : Nat) : Int) by omega], n01, n04, mk3, by omega, by omega, st2.mono (by omega), fun u3 H3 b3 t3 st3 ok3 r3 => ⟨a, u3, b3, n0, n0 + mk, rfl, r3, ok3, st3, fun u4 H4 b4 t4 st4 ok4 r4 => ?_⟩⟩⟩))))))))
      obtain ⟨us1, hus1⟩ := (st'.up s1).lst
      obtain ⟨us2, hus2⟩ := st2.lst
      obtain ⟨us3, hus3⟩ := st3.lst
      have tk4 : TK H' H4 := (((tk_of s1).trans (t2.tk hus1)).trans (t3.tk hus2)).trans (t4.tk hus3)
      have bt4 : But a H H4 := (((bt.trans (.of s1)).trans t2).trans t3).trans t4
      refine (xi : Ex _ _ H4 _ (8 : Int)).run fun v5' H5 s5 r5' => ?_
      have e8 : v5' = V.int ((8 : Nat) : Int) := r5'
      subst e8
      have r55 := Rep.up s5 (Rep.keep tk4 r5)
      have st5 : Stk (899200 + 1) H5 a := (st4.up s5).mono (by omega)
      obtain ⟨us5, hus5⟩ := st5.lst
      refine sifW (weqT (wpick C2 (hr.mono (by omega)) st5 (xw 2) xi (k := 2) (by decide) (by decide) fun H6 d6 hd6 t6 st6 => (xi : Ex _ _ H6 _ (0 : Int)).run fun v7 H7 s7 r7 => ⟨(d6 : Int), 0, rfl, r7, ?_⟩))
      have tk7 : TK H5 H7 := (t6.tk hus5).trans (tk_of s7)
      have bt7 : But a H H7 := ((bt4.trans (.of s5)).trans t6).trans (.of s7)
      have st7 := st6.up s7
      obtain ⟨us7, hus7⟩ := st7.lst
      split
      · refine sparW 12 8 rfl nd (wcall2 (C4 899000) (hr.mono (by omega)) (wv 2 (.ref a) (wv 4 (.int (mk : Int)) ⟨a, mk, rfl, mk3, st7.mono (by omega), fun u8 H8 b8 n8 t8 st8 ok8 r8 => ?_⟩)))
        refine (xi : Ex _ _ H8 _ (12 : Int)).run fun v9 H9 s9 r9 => wnil ?_
        have e9 : v9 = V.int ((12 : Nat) : Int) := r9
        subst e9
        exact orders n0 mk v5 u8 pl 12 x7 x9 x10 x11 x13 x14 x15 x16 b b8 n m n8 (n8 + mk) H9 (Rep.up s9 (Rep.keep (t8.tk hus7) (Rep.keep tk7 r55))) ob pl1 pl12 (Rep.up s9 r8) (ok8.okb (by omega)) (by omega) (by omega) ((bt7.trans t8).trans (.of s9)) ((st8.up s9).mono (by omega))
      · exact wnil (orders n0 mk v5 u4 pl 8 x7 x9 x10 x11 x13 x14 x15 x16 b b4 n m n0 (n0 + mk) H7 (Rep.keep tk7 r55) ob pl1 pl12 (Rep.keep tk7 (Rep.up s5 r4)) (ok4.okb (by omega)) (by omega) (by omega) bt7 (st7.mono (by omega)))
    -- the rows
    have rows : ∀ (n0 mk : Nat) (v5 : V) (pl : Nat) (x7 x13 x14 x15 x16 : Option V) (b : Bd) (n m : Nat) (H' : Hp), 1 ≤ n0 → n0 ≤ 4 → mk ≤ 3 → Rep.rep H' v5 b → Okb n m b → n ≤ 4 → 1 ≤ pl → pl ≤ 12 → But a H H' → Stk 899700 H' a → WS (cxOf CX0 P w K mg base ["_law_script", "_law_place", "_law_stock_here", "_law_many", "_law_marks", "_law_board_here", "_law_places", "_law_made", "_law_most", "_law_rows", "_law_due", "_law_first", "_law_far", "_law_entry", "_law_line", "_law_turn", "_law_row"] "_law_right" (defScope (topS 49)) f cdv A outer s H E).nox ((defBody (topS 49)).drop 5) { nx := fun _ H' => Q .non H', rt := Q } [some (V.ref as), some (V.int (i : Int)), some (V.ref a), some (V.int (n0 : Int)), some (V.int (mk : Int)), some v5, some (V.int (pl : Int)), x7, none, none, none, none, none, x13, x14, x15, x16] H' := fun n0 mk v5 pl x7 x13 x14 x15 x16 b n m H' n01 n04 mk3 r5 ob n4 pl1 pl12 bt st => by
      obtain ⟨us, hus⟩ := st.lst
      have wf := ob.wf
      refine sunpW 8 9 rfl nd (wcall2 (C5 899600) (hr.mono (by omega)) (wv 2 (.ref a) (wv 5 v5 ⟨a, v5, b, n, m, rfl, r5, ob, n4, st.mono (by omega), fun t pf most F' H2 t2 st2 most8 ht npf lF fnd hF => ⟨t, _, _, rfl, ht, ?_⟩⟩)))
      have r52 := Rep.keep (t2.tk hus) r5
      have nepf : pf ≠ a := fun e => by rw [e, hus] at npf; cases npf
      have isf := fnd.first
      have hmem := fnd.mem
      have hlen15 : ∀ r, r ∈ F' → r.length ≤ 8 := fun r hr => Nat.le_trans ((hmem r).mp hr).2.1 most8
      refine sset 10 nd (R := fun _ H' v => Rep.rep H' v (F'.head?)) (xif (x := F'.head?) (teqL hu (xo 9 lF) (EL.o (lnil (α := List Int)))) (fun ht => (xN (α := List Int)).as ?_) (fun hf => ?_)) fun v10 H3 s3 r10 => ?_
      · rw [of_decide_eq_true ht]; rfl
      · cases F' with
        | nil => cases hf
        | cons r0 F'' => exact xsome (xilO (xo 9 lF) xi (y := r0) (show atI (r0 :: F'') (0 : Int) = some r0 from atI_nat (j := 0) (xs := r0 :: F'') (v := r0) rfl))
      have hlo : ∀ r, F'.head? = some r → r.length ≤ 1000 := fun r hr => by
        have := hlen15 r (List.mem_of_head? hr)
        omega
      have r53 := Rep.up s3 r52
      refine sif (t := false) ((tnot (tv (xalikeO C6 (hr.mono (by omega)) (xsf C7 (hr.mono (by omega)) (xv 5 r53) (xv 8 (d := (most : Int)) rfl) ob n4 most8 isf) (xv 10 r10) hlo))).as rfl) (fun e => nomatch e) fun _ H4 s4 => wnil ?_
      have r54 := Rep.up s4 r53
      have r104 := Rep.up s4 r10
      refine sif (t := false) ((tnot (tv (xalikeO C6 (hr.mono (by omega)) (xsfK C8 (hr.mono (by omega)) (xv 8 (d := (most : Int)) rfl) ((xslU (xv 5 r54) (xwid wf T.len (xv 5 r54))).as (cut_to b (by rw [wf.len]; exact wf.le))) ob.table n4 most8 fun o' h' => isf.uniq (first_take wf h')) (xv 10 r104) hlo))).as rfl) (fun e => nomatch e) fun _ H5 s5 => wnil ?_
      have r55 := Rep.up s5 r54
      have r105 := Rep.up s5 r104
      have third : ET (cxOf CX0 P w K mg base ["_law_script", "_law_place", "_law_stock_here", "_law_many", "_law_marks", "_law_board_here", "_law_places", "_law_made", "_law_most", "_law_rows", "_law_due", "_law_first", "_law_far", "_law_entry", "_law_line", "_law_turn", "_law_row"] "_law_right" (defScope (topS 49)) f cdv A outer s H E).nox [some (V.ref as), some (V.int (i : Int)), some (V.ref a), some (V.int (n0 : Int)), some (V.int (mk : Int)), some v5, some (V.int (pl : Int)), x7, some (V.int (most : Int)), some (V.ref pf), some v10, none, none, x13, x14, x15, x16] H5 (match (defBody (topS 49)).drop 9 with
        | .If c _ _ _ :: _ => c
        | _ => .Constant .none 0 ⟨0, 0, 0, 0⟩) false := by
        cases hh : F'.head? with
        | none =>
          rw [hh] at r105
          exact (tand (t := false) (u := true) ((tnotN (α := List Int) (xv 10 r105)).as rfl) fun e => nomatch e).as rfl
        | some r0 =>
          rw [hh] at r105 isf
          have l0 := hlen15 r0 (List.mem_of_head? hh)
          have l1 := full_pos wf isf.2.2.1
          exact (tand (t := true) (u := false) ((tnotN (α := List Int) (xv 10 r105)).as rfl) fun _ => (tnot (tv (xalikeO (o := none) C6 (hr.mono (by omega)) (xsf C7 (hr.mono (by omega)) (xv 5 r55) ((xsub (xlen T.len (xv 10 (d := r0) r105)) xi).as (show (r0.length : Int) - 1 = ((r0.length - 1 : Nat) : Int) by omega)) ob n4 (by omega) (first_short wf isf)) xN (fun r e => nomatch e)))).as rfl).as rfl
      refine sif (t := false) third (fun e => nomatch e) fun _ H6 s6 => wnil ?_
      have s26 := ((s3.trans s4).trans s5).trans s6
      have r56 := Rep.up s6 r55
      have lF6 := lF.up s26
      have st6 : Stk (899599 + 1) H6 a := st2.up s26
      obtain ⟨us6, hus6⟩ := st6.lst
      refine ssetW 11 nd (wpick C2 (hr.mono (by omega)) st6 (xw 2) ((xmax2 rfl T.max xi (xlenO T.len (xo 9 lF6))).as (show max (1 : Int) (F'.length : Int) = ((max 1 F'.length : Nat) : Int) by omega)) (by omega) (by omega) fun H7 fi hfi t7 st7 => ?_)
      have r57 := Rep.keep (t7.tk hus6) r56
      have lF7 := t7.ls hus6 nepf lF6
      obtain ⟨us7, hus7⟩ := st7.lst
      refine ssetW 9 nd (we (pe_op op_cat (lzE _) (lzE _)) ((lcat (EL.o (lslU (xo 9 lF7) (xi (i := 3)))) (EL.o (lslB (xo 9 lF7) (xv 11 (d := (fi : Int)) rfl) (xadd (xv 11 (d := (fi : Int)) rfl) (xi (i := 2))))) ?_) H7 (.refl H7) _ fun v8 H8 s8 ⟨p8, e8, np8, l8⟩ => ?_))
      · have h1 := cut_len F' none (some (3 : Int))
        have h2 := cut_len F' (some (fi : Int)) (some ((fi : Int) + 2))
        exact len40' (by omega)
      subst e8
      have st8 := st7.up s8
      have r58 := Rep.up s8 r57
      obtain ⟨us8, hus8⟩ := st8.lst
      refine wlcW (i := 15) rfl nd (by kernel_rfl) T.range (lcWR (α := List Int) (n := 2) (c := 899500) (w := 20) (N := 899599) (P := fun r => Gr' n b r ∧ r.length ≤ pl) (xi (i := 2)) (by omega) (by omega) st8 (fun k H9 hk b9 s9 _ _ _ _ _ => ?_) fun q9 xs H10 hxl hP nq9 l9 b10 st10 => ?_)
      · exact wcall3 (C9 (899599 - 20 * (k + 1))) (hr.mono (by omega)) (wv 2 (.ref a) (wv 5 v5 (wv 6 (.int (pl : Int)) ⟨a, v5, b, n, m, pl, rfl, Rep.keep (b9.tk hus8) r58, ob, pl12, s9.mono (by omega), fun u H11 r t11 st11 g hrl ru => ⟨r, ru, ⟨g, hrl⟩, t11, st11⟩⟩)))
      have nep8 : p8 ≠ a := fun e => by rw [e, hus7] at np8; cases np8
      obtain ⟨vs8, hv8, rv8⟩ := b10.ls hus8 nep8 l8
      obtain ⟨vs9, hv9, rv9⟩ := id l9
      have c1 := cut_take_le F'
      have c2 := cut_two_le F' fi
      refine ⟨p8, q9, vs8, vs9, rfl, rfl, hv8, hv9, ?_, fun z nz => ?_⟩
      · rw [rv8.length, rv9.length, hxl, List.length_append]
        exact len40 (by omega)
      have r510 := Rep.keep (b10.tk hus8) r58
      have lz : LsR (upd H10 z (.lst (vs8 ++ vs9))) z ((cut F' none (some (3 : Int)) ++ cut F' (some (fi : Int)) (some ((fi : Int) + 2))) ++ xs) := ⟨_, upd_same, (rv8.append rv9).up (tk_of (same_new nz))⟩
      have s11 : Same H10 (upd H10 z (.lst (vs8 ++ vs9))) := same_new nz
      generalize upd H10 z (.lst (vs8 ++ vs9)) = H11 at *
      have r511 := Rep.up s11 r510
      have st11 := st10.up s11
      have bt11 : But a H H11 := ((((((bt.trans t2).trans (.of s26)).trans t7).trans (.of s8)).trans b10).trans (.of s11))
      have hall : ∀ r, r ∈ (cut F' none (some (3 : Int)) ++ cut F' (some (fi : Int)) (some ((fi : Int) + 2))) ++ xs → Places n r ∧ r.length ≤ 12 := fun r hr => by
        rcases List.mem_append.mp hr with h | h
        · have hm : r ∈ F' := (List.mem_append.mp h).elim mem_cut mem_cut
          exact ⟨((hmem r).mp hm).1, by have := hlen15 r hm; omega⟩
        · exact ⟨(hP r h).1.1, Nat.le_trans (hP r h).2 pl12⟩
      have hsz : ((cut F' none (some (3 : Int)) ++ cut F' (some (fi : Int)) (some ((fi : Int) + 2))) ++ xs).length ≤ 7 := by
        rw [List.length_append, List.length_append, hxl]; omega
      generalize (cut F' none (some (3 : Int)) ++ cut F' (some (fi : Int)) (some ((fi : Int) + 2))) ++ xs = R0 at *
      refine ssetc 9 (compN (i := 16) (P := fun r => fullRow b r = true) rfl nd (by kernel_rfl) (wlst lz (xw 9)) (len40 (by omega)) (fun k x hx v H12 s12 r12 _ _ _ _ _ Q' q' => ?_) fun k x hx v H12 s12 r12 _ _ _ _ _ => xv 16 r12) fun v9 H12 s12 ⟨p12, ys, e12, np12, l12, hys, hyl⟩ => ?_
      · have hx2 := hall x (get_mem hx)
        have pw : preWalk b x := ⟨n, m, ob, hx2.1, by omega⟩
        refine wandT (tv (xc2 C10 (hr.mono (by omega)) (xv 5 (Rep.up s12 r511)) (xv 16 r12) pw)) (fun ht H13 s13 => wvT ((xfits C11 (hr.mono (by omega)) (xv 5 (Rep.up (s12.trans s13) r511)) (xv 16 (Rep.up s13 r12)) pw) H13 (.refl H13) _ fun v H14 s14 ⟨t, et⟩ => ⟨t, et, q' t H14 (s13.trans s14) fun _ => ht⟩)) (fun ht H13 s13 => q' false H13 s13 fun e => nomatch e)
      subst e12
      have r512 := Rep.up s12 r511
      have st12 : Stk (899400 + 20) H12 a := (st11.up s12).mono (by omega)
      obtain ⟨us12, hus12⟩ := st12.lst
      have np : p12 ≠ a := fun e => by
        obtain ⟨us11, hus11⟩ := st11.lst
        rw [e, hus11] at np12; cases np12
      refine sifW (wnotT (wvT (wcall4 (C12 899400) hr (wv 2 (.ref a) (wv 5 v5 (wv 9 (.ref p12) (wv 6 (.int (pl : Int)) ⟨a, p12, v5, b, n, m, pl, ys, rfl, r512, ob, l12, fun r hr => ?_, by omega, np, st12, fun H13 t13 st13 => ⟨true, rfl, ?_⟩⟩)))))))
      · obtain ⟨h1, h2⟩ := hys r hr
        exact ⟨(hall r h1).1, h2, full_pos wf h2, (hall r h1).2⟩
      show if false = true then _ else _
      refine iteF (wnil ?_)
      exact second n0 mk v5 pl x7 _ _ _ _ x13 x14 x15 x16 b n m H13 n01 n04 mk3 (Rep.keep (t13.tk hus12) r512) ob pl1 pl12 ((bt11.trans (.of s12)).trans t13) st13
    -- the board
    have st1' : Stk (899999 + 1) H1 a := st1
    refine sparW 3 4 rfl nd (waddE ((xi : Ex _ _ H1 _ (1 : Int)).run fun v2 H2 s2 r2 => wpick C2 (hr.mono (by omega)) (st1'.up s2) (xw 2) xi (k := 4) (by decide) (by decide) fun H3 d hd t3 st3 => ⟨1, (d : Int), r2, rfl, wpick C2 (hr.mono (by omega)) (show Stk (899998 + 1) H3 a from st3) (xw 2) xi (k := 4) (by decide) (by decide) fun H4 mk hmk t4 st4 => ?_⟩))
    obtain ⟨n0, hn0, n01, n04⟩ : ∃ n0 : Nat, (1 : Int) + (d : Int) = (n0 : Int) ∧ 1 ≤ n0 ∧ n0 ≤ 4 := ⟨d + 1, by omega, by omega, by omega⟩
    rw [hn0]
    have b4 : But a H H4 := ((b1.trans (.of s2)).trans t3).trans t4
    have st4' : Stk (899997 + 1) H4 a := st4
    refine ssetW 5 nd (wcall4 (C3 899900) (hr.mono (by omega)) (wv 2 (.ref a) (wv 3 (.int (n0 : Int)) (wv 4 (.int (mk : Int)) (waddE ((xi : Ex _ _ H4 _ (1 : Int)).run fun v5 H5 s5 r5 => wpick C2 (hr.mono (by omega)) (st4'.up s5) (xw 2) xi (k := 2) (by decide) (by decide) fun H6 d6 hd6 t6 st6 => ⟨1, (d6 : Int), r5, rfl, ⟨a, n0, mk, d6 + 1, by rw [show (1 : Int) + (d6 : Int) = ((d6 + 1 : Nat) : Int) by omega], n01, n04, by omega, by omega, by omega, st6.mono (by omega), fun u H7 b t7 st7 ok r7 => ?_⟩⟩))))))
    have b7 : But a H H7 := ((b4.trans (.of s5)).trans t6).trans t7
    refine sset 6 nd (xi (i := 8)) fun v6 H8 s8 r8 => ?_
    have e6 : v6 = V.int ((8 : Nat) : Int) := r8
    subst e6
    have st8 : Stk (899899 + 1) H8 a := st7.up s8
    obtain ⟨us8, hus8⟩ := st8.lst
    refine sifW (weqT (wpick C2 (hr.mono (by omega)) st8 (xw 2) xi (k := 2) (by decide) (by decide) fun H9 d9 hd9 t9 st9 => (xi : Ex _ _ H9 _ (0 : Int)).run fun v10 H10 s10 r10 => ⟨(d9 : Int), 0, rfl, r10, ?_⟩))
    have tk10 : TK H8 H10 := (t9.tk hus8).trans (tk_of s10)
    have b10 : But a H H10 := ((b7.trans (.of s8)).trans t9).trans (.of s10)
    have st10 := st9.up s10
    have r710 := Rep.keep tk10 (Rep.up s8 r7)
    split
    · refine ssetW 7 nd (wcall2 (C4 899700) (hr.mono (by omega)) (wv 2 (.ref a) (wv 4 (.int (mk : Int)) ⟨a, mk, rfl, by omega, st10.mono (by omega), fun u7 H11 bf nf t11 st11 okf r11 => ?_⟩)))
      obtain ⟨us10, hus10⟩ := st10.lst
      have r711 := Rep.keep (t11.tk hus10) r710
      have okb := okf.okb (by omega)
      have hnm : nf ≤ bf.length := by rw [okf.wf.len]; exact okf.wf.le
      have tlen : (bf.take nf).length ≤ sizeLine := by rw [List.length_take]; exact len40 (by have := okf.n4; omega)
      have hrowN : ∀ line, line ∈ bf.take nf → line ≠ [] := fun line hl e => by
        have := okf.wf.row line (List.mem_of_mem_take hl)
        rw [e] at this
        have := okf.wf.one
        simp at *
        omega
      refine sif (tlt (xmaxM rfl T.max (comp1 (i := 14) (f := fun line : List Int => mxs (line.map fun e => (e.natAbs : Int))) rfl nd (by kernel_rfl) (wtup ((xslU (xv 7 r11) (xwid okf.wf T.len (xv 7 r11))).as (cut_to bf hnm))) tlen fun k' line hline v' H6 s6 r6 _ _ _ _ _ => ?_).ev ?_) xi) (fun ht H12 s12 => ?_) (fun ht H12 s12 => wnil (wnil ?_))
      · have hl := okf.wf.row line (List.mem_of_mem_take (get_mem hline))
        refine xmaxM rfl T.max (comp1 (i := 13) (f := fun e : Int => (e.natAbs : Int)) rfl nd (by kernel_rfl) (wtup (xv 14 r6)) (by rw [hl]; exact len40 (by have := okf.n4; omega)) fun k2 e he v2' H7 s7 r7 _ _ _ _ _ => xabs T.abs (xv 13 r7)).ev ?_
        intro z
        exact hrowN line (get_mem hline) (List.map_eq_nil_iff.mp z)
      · intro z
        have h1 := congrArg List.length (List.map_eq_nil_iff.mp z)
        rw [List.length_take, Nat.min_eq_left hnm] at h1
        have := okf.wf.one
        simp at h1
        omega
      · refine sunp 5 6 rfl nd (x1 := bf) (x2 := (12 : Int)) (xpair (xv 7 (Rep.up s12 r11)) xi) fun v5 v6 H13 s13 r5 r6 => wnil (wnil ?_)
        have e6 : v6 = V.int ((12 : Nat) : Int) := r6
        subst e6
        exact rows n0 mk v5 12 _ none none none none bf nf (nf + mk) H13 n01 n04 (by omega) r5 okb okf.n4 (by decide) (by decide) ((b10.trans t11).trans (.of (s12.trans s13))) (st11.up (s12.trans s13))
      · exact rows n0 mk u 8 _ none none none none b n0 (n0 + mk) H12 n01 n04 (by omega) (Rep.up s12 r711) (ok.okb (by omega)) n04 (by decide) (by decide) ((b10.trans t11).trans (.of s12)) (st11.up s12)
    · exact wnil (rows n0 mk u 8 none none none none none b n0 (n0 + mk) H10 n01 n04 (by omega) r710 (ok.okb (by omega)) n04 (by decide) (by decide) b10 (st10.mono (by omega)))
end
end Nh
set_option Elab.async false
set_option linter.all false
set_option maxRecDepth 100000
set_option maxHeartbeats 4000000
namespace Nh
open PySem PySem.Spec PyProof.Rows L2
/-! ### law -/
def spLwK (K : PySem.W.Frag) : Sp := fun vs H Q _ => ∃ (as : Addr) (ns : List Int), vs = [.ref as] ∧ SqL K H as (ns.map V.int) ∧ ns.length ≤ 1000 ∧ (∀ z ∈ ns, Builtin.Int.intBits z ≤ 1048576) ∧ ∀ H', Q (.bl true) H'
section
variable {P : Program} {w : World} {K : PySem.W.Frag} {mg : Str → Option Value} {base : Heap}
abbrev LRi (P : Program) (w : World) (K : PySem.W.Frag) (mg : Str → Option Value) (base : Heap) : Prop := Cal P w K mg base 9 "_law_right" ["_law_script", "_law_place"] (spRiK K)
theorem sc_law : FnScope ["_law_script", "_law_place"] ["_law_script"] (defScope (topS 50)) := ⟨rfl, rfl, rfl, by decide +kernel, rfl, by decide +kernel, by decide +kernel⟩
theorem ok_law {f : Addr} {fd : FuncData} (T : Blt mg) (C : LRi P w K mg base) (F : Fun K "law" "law" (topS 50) f fd) : FnOk P w K mg base CX0 10 f fd ["_law_script"] (spLwK K) := by
  refine F.ok sc_law (fun vs H Q E h => ?_) (fun cdv A outer s H vs Q E hr h => ⟨_, lzS _, ?_⟩)
  · obtain ⟨as, ns, rfl, _⟩ := h
    rfl
  · obtain ⟨as, ns, rfl, hsc, hl, hb, q⟩ := h
    have nd := sc_law.nd
    obtain ⟨n, hn, hn6⟩ : ∃ n : Nat, max (3 : Int) (min (6 : Int) (ns.length : Int)) = (n : Int) ∧ n ≤ 6 := ⟨(max (3 : Int) (min (6 : Int) (ns.length : Int))).toNat, by omega, by omega⟩
    refine sfor rfl PassesOwn.never (wrng (n := n) T.range ((xmax2 rfl T.max xi (xmin2 rfl T.min xi (xlenS hsc T.len (xw 0)))).as hn) (by omega)) (pg_name (i := 1) nd rfl (.inl rfl)) fun Hb src s1 sc _ => ?_
    subst sc
    refine ⟨fun i σ H' => ∃ x1, σ = [some (.ref as), x1] ∧ Same Hb H', ⟨_, rfl, .refl _⟩, fun i σ H' h => ?_, fun i x σ H' hx h v H2 s2 r2 => ?_, fun σ H' h => ?_⟩
    · obtain ⟨_, _, k⟩ := h
      exact kp0 k
    · obtain ⟨x1, rfl, k⟩ := h
      obtain ⟨hi, rfl⟩ := upto_get hx
      have e1 : v = V.int (i : Int) := r2
      subst e1
      have s12 := (s1.trans k).trans s2
      show WS _ _ _ _ _
      refine sif (t := false) ((tnot (tv (ecall2 (R := fun _ H' v => Rep.rep H' v true) C hr (xw 0) (xv 1 (d := (i : Int)) rfl) fun v u H3 H4 H5 s3 s4 r4 s5 r5 Q q => ⟨as, ns, i, by rw [show v = V.ref as from r4, show u = V.int (i : Int) from r5], Same.seq (((s12.trans s3).trans s4).trans s5) hsc, by omega, hl, hb, fun H6 s6 => q _ H6 ((s4.trans s5).trans s6) rfl⟩))).as rfl) (fun e => nomatch e) fun _ H3 s3 => wnil (wnil ⟨_, rfl, (k.trans s2).trans s3⟩)
    · obtain ⟨x1, rfl, k⟩ := h
      refine sret xb fun v H3 s3 r3 => ?_
      rw [show v = V.bl true from r3]
      exact q H3
end
end Nh
set_option Elab.async false
set_option linter.all false
set_option maxRecDepth 100000
set_option maxHeartbeats 4000000
namespace Nh
open PySem PySem.Spec PyProof.Rows L2
/-! ### all defs together -/
def DefOk (K : PySem.W.Frag) (mg : Str → Option Value) (x : Str) (st : Stmt) : Prop := ∃ f fd, mg x = some (.ref f) ∧ Fun K x x st f fd
section
variable {P : Program} {w : World} {K : PySem.W.Frag} {mg : Str → Option Value} {base : Heap} {x : Str} {st : Stmt} {ps : List Str} {sp : Sp} {k : Nat}
theorem DefOk.cal (D : DefOk K mg x st) (ok : ∀ {f fd}, Fun K x x st f fd → FnOk P w K mg base CX0 k f fd ps sp) (hb : ∀ (kV doc pm : Value) (an : Option Addr) (cdv ct : Value) (us : List Value), us.length = ps.length → bindArgs (PySem.W.fnOf x x (defArgs st) (defBody st) (defScope st) .none kV doc pm an cdv ct) ⟨us, []⟩ = pure (ps.zip us)) : Cal P w K mg base k x ps sp := by
  obtain ⟨f, fd, m, F⟩ := D
  exact ⟨f, fd, ok F, m, F.kp, F.binds hb⟩
theorem DefOk.calR (D : DefOk K mg x st) (ok : ∀ {f fd}, Fun K x x st f fd → FnOk P w K mg base (L2.CX P w) k f fd ps sp) (hb : ∀ (kV doc pm : Value) (an : Option Addr) (cdv ct : Value) (us : List Value), us.length = ps.length → bindArgs (PySem.W.fnOf x x (defArgs st) (defBody st) (defScope st) .none kV doc pm an cdv ct) ⟨us, []⟩ = pure (ps.zip us)) : CalR P w K mg base k x ps sp := by
  obtain ⟨f, fd, m, F⟩ := D
  exact ⟨f, fd, ok F, m, F.kp, F.binds hb⟩
theorem swG_vals : ∀ {vs : List V} {us : List Value} {zs : List V} {ws : List Value}, Vals vs us → Vals zs ws → Vals (swG vs zs) (swG us ws)
  | _, _, _, _, .nil, .nil => .nil
  | _, _, _, _, .nil, .cons _ .nil => .nil
  | _, _, _, _, .nil, .cons a (.cons b .nil) => .cons b (.cons a .nil)
  | _, _, _, _, .nil, .cons _ (.cons _ (.cons _ _)) => .nil
  | _, _, _, _, .cons _ _, _ => .nil
theorem swG_two {α : Type} {us ws : List α} (h : (swG us ws).length = 2) : ∃ r b, us = [] ∧ ws = [r, b] := by
  match us, ws, h with
  | [], [r, b], _ => exact ⟨r, b, rfl, rfl⟩
theorem DefOk.calKS (D : DefOk K mg "shortest_full" (topS 25)) (ok : ∀ {f fd}, Fun K "shortest_full" "shortest_full" (topS 25) f fd → FnOk P w K mg base CX0 5 f fd ["board", "most"] spSF) : CalKS P w K mg base := by
  obtain ⟨f, fd, m, F⟩ := D
  refine ⟨f, fd, ok F, m, F.kp, ⟨fun s us ws _ hl => ?_, swG_vals⟩⟩
  obtain ⟨r, b, rfl, rfl⟩ := swG_two hl
  obtain ⟨oc, od, kV, doc, pm, an, cdv, ct, osl, rfl, lk, hcd⟩ := F.ex
  exact .of_eq rfl
theorem DefOk.calKR {C : Addr} (D : DefOk K mg "last_order" (topS 26)) (ok : ∀ {f fd}, Fun K "last_order" "last_order" (topS 26) f fd → FnOk P w K mg base (L2.CX P w) 6 f fd ["board", "row"] (spLO C)) : CalKR P w K mg base C := by
  obtain ⟨f, fd, m, F⟩ := D
  refine ⟨f, fd, ok F, m, F.kp, ⟨fun s us ws _ hl => ?_, swG_vals⟩⟩
  obtain ⟨r, b, rfl, rfl⟩ := swG_two hl
  obtain ⟨oc, od, kV, doc, pm, an, cdv, ct, osl, rfl, lk, hcd⟩ := F.ex
  exact .of_eq rfl
theorem def_mk {h : Heap} {f : Addr} {oc : Value} {od an : Option Addr} {osl : Array (Option Value)} {kV doc pm cdv ct : Value} (X : K.In h) (G : h.Ns mainGlobals mg) (a : PySem.W.nsIn K mainGlobals x = some (some (.ref f)))
    (l : K.lookup f = some ⟨oc, od, .func (PySem.W.fnOf x x (defArgs st) (defBody st) (defScope st) .none kV doc pm an cdv ct), osl⟩) (c : PySem.W.codeIn K cdv x = true) (kk : PySem.W.keepIn K (.ref f) = true) : DefOk K mg x st := ⟨f, _, PySem.W.mg_of X G a, fun_mk l c kk⟩
theorem with_def {goal : Prop} {h : Heap} {f : Addr} {oc : Value} {od an : Option Addr} {osl : Array (Option Value)} {kV doc pm cdv ct : Value} (x : Str) (st : Stmt) (X : K.In h) (G : h.Ns mainGlobals mg) (a : PySem.W.nsIn K mainGlobals x = some (some (.ref f)))
    (l : K.lookup f = some ⟨oc, od, .func (PySem.W.fnOf x x (defArgs st) (defBody st) (defScope st) .none kV doc pm an cdv ct), osl⟩) (c : PySem.W.codeIn K cdv x = true) (kk : PySem.W.keepIn K (.ref f) = true) (next : DefOk K mg x st → goal) : goal := next (def_mk X G a l c kk)
/-- what the written part tells of InvalidRow -/
structure RowF (K : PySem.W.Frag) (mg : Str → Option Value) (C : Addr) : Prop where
  ox : OexC K C
  noV : PySem.W.findIn K (.ref C) "value" = some none
  gC : mg "InvalidRow" = some (.ref C)
  ini : ∃ fI fd, PySem.W.findIn K (.ref C) "__init__" = some (some (.ref fI)) ∧ PySem.W.typeIn K (.ref fI) = some (.type "function") ∧ Fun K "__init__" "SwapError.__init__" (inClass (topS 2) 0) fI fd
  xf : XfC K C
  exm : PySem.W.exmOne K (.ref C) (.ref C) = some true
  hv : mg "ValueError" = none
  vV : PySem.W.findCls K (.type "ValueError") (.type "type") "__init__" = some (.val (.builtin "ValueError.__init__"))
theorem RowF.row {C : Addr} (R : RowF K mg C) : RowC P w K mg base C := by
  obtain ⟨fI, fd, i1, i2, F⟩ := R.ini
  exact ⟨R.ox, R.noV, R.gC, ⟨fI, fd, i1, i2, ok_init R.hv R.vV F, F.binds fun _ _ _ _ _ _ us hl => match us, hl with | [_, _], _ => rfl⟩, R.xf, R.exm⟩
theorem exm_self' {S : Addr} (h1 : PySem.W.subIn K (.ref S) (.type "BaseException") = some true) (h2 : PySem.W.isClsIn K S = true) (h3 : PySem.W.typeIn K (.ref S) = some (.type "type")) (h4 : PySem.W.subIn K (.ref S) (.ref S) = some true) :
    PySem.W.exmOne K (.ref S) (.ref S) = some true := by
  have e1 : (PySem.W.subIn K (.ref S) (.type "BaseException") == some true) = true := by rw [h1] <;> rfl
  have e2 : ((PySem.W.clsIn K S).isSome && PySem.W.typeIn K (.ref S) == some (.type "type")) = true := by
    have h2' : (PySem.W.clsIn K S).isSome = true := h2
    rw [h2', h3] <;> rfl
  show (if (PySem.W.subIn K (.ref S) (.type "BaseException") == some true) = true then (if ((PySem.W.clsIn K S).isSome && PySem.W.typeIn K (.ref S) == some (.type "type")) = true then PySem.W.subIn K (.ref S) (.ref S) else none) else none) = some true
  rw [if_pos e1, if_pos e2]
  exact h4
theorem row_mk {h : Heap} {C fI : Addr} {nm q : Str} {N : Addr} {bs bm : List Value} {sn : List Str} {sub : List Value} {ab : Bool} {col : Option Bool} {dd : Option Addr} {m0 m1 m2 m3 m5 : Option Value}
    {oc : Value} {od an : Option Addr} {osl : Array (Option Value)} {kV doc pm cdv ct : Value} (X : K.In h) (G : h.Ns mainGlobals mg)
    (aC : PySem.W.nsIn K mainGlobals "InvalidRow" = some (some (.ref C)))
    (xL : K.lookup C = some (excClassObj nm q C N bs bm true sn sub ab col dd m0 m1 m2 m3 m5 "ValueError.__new__")) (xB : PySem.HandSPX.refsVE bm = true)
    (sa : PySem.W.findIn K (.ref C) "__setattr__" = some (some (.builtin "object.__setattr__"))) (ga : PySem.W.findIn K (.ref C) "__getattribute__" = some (some (.builtin "BaseException.__getattribute__"))) (gg : PySem.W.findIn K (.ref C) "__getattr__" = some none) (nv : PySem.W.findIn K (.ref C) "value" = some none)
    (a1 : PySem.W.findIn K (.ref C) "__init__" = some (some (.ref fI))) (t1 : PySem.W.typeIn K (.ref fI) = some (.type "function"))
    (l1 : K.lookup fI = some ⟨oc, od, .func (PySem.W.fnOf "__init__" "SwapError.__init__" (defArgs (inClass (topS 2) 0)) (defBody (inClass (topS 2) 0)) (defScope (inClass (topS 2) 0)) .none kV doc pm an cdv ct), osl⟩) (c1 : PySem.W.codeIn K cdv "SwapError.__init__" = true) (k1 : PySem.W.keepIn K (.ref fI) = true)
    (kC : PySem.W.keepIn K (.ref C) = true) (eC : PySem.W.subIn K (.ref C) (.type "BaseException") = some true) (tC : PySem.W.typeIn K (.ref C) = some (.type "type")) (hC : PySem.W.hasDictIn K C = true) (iC : PySem.W.isClsIn K C = true) (sC : PySem.W.subIn K (.ref C) (.ref C) = some true)
    (zV : PySem.W.nsIn K mainGlobals "ValueError" = some none) (vV : PySem.W.findCls K (.type "ValueError") (.type "type") "__init__" = some (.val (.builtin "ValueError.__init__"))) : RowF K mg C :=
  ⟨⟨⟨nm, q, N, bs, bm, sn, sub, ab, col, dd, m0, m1, m2, m3, m5, xL, xB⟩, sa, eC, tC, kC⟩, nv, PySem.W.mg_of X G aC, ⟨fI, _, a1, t1, fun_mk l1 c1 k1⟩, ⟨ga, gg, eC, hC⟩, exm_self' eC iC tC sC, PySem.W.mg_none_of X G zV, vV⟩
theorem with_row {goal : Prop} {h : Heap} {C fI : Addr} {nm q : Str} {N : Addr} {bs bm : List Value} {sn : List Str} {sub : List Value} {ab : Bool} {col : Option Bool} {dd : Option Addr} {m0 m1 m2 m3 m5 : Option Value}
    {oc : Value} {od an : Option Addr} {osl : Array (Option Value)} {kV doc pm cdv ct : Value} (X : K.In h) (G : h.Ns mainGlobals mg)
    (aC : PySem.W.nsIn K mainGlobals "InvalidRow" = some (some (.ref C)))
    (xL : K.lookup C = some (excClassObj nm q C N bs bm true sn sub ab col dd m0 m1 m2 m3 m5 "ValueError.__new__")) (xB : PySem.HandSPX.refsVE bm = true)
    (sa : PySem.W.findIn K (.ref C) "__setattr__" = some (some (.builtin "object.__setattr__"))) (ga : PySem.W.findIn K (.ref C) "__getattribute__" = some (some (.builtin "BaseException.__getattribute__"))) (gg : PySem.W.findIn K (.ref C) "__getattr__" = some none) (nv : PySem.W.findIn K (.ref C) "value" = some none)
    (a1 : PySem.W.findIn K (.ref C) "__init__" = some (some (.ref fI))) (t1 : PySem.W.typeIn K (.ref fI) = some (.type "function"))
    (l1 : K.lookup fI = some ⟨oc, od, .func (PySem.W.fnOf "__init__" "SwapError.__init__" (defArgs (inClass (topS 2) 0)) (defBody (inClass (topS 2) 0)) (defScope (inClass (topS 2) 0)) .none kV doc pm an cdv ct), osl⟩) (c1 : PySem.W.codeIn K cdv "SwapError.__init__" = true) (k1 : PySem.W.keepIn K (.ref fI) = true)
    (kC : PySem.W.keepIn K (.ref C) = true) (eC : PySem.W.subIn K (.ref C) (.type "BaseException") = some true) (tC : PySem.W.typeIn K (.ref C) = some (.type "type")) (hC : PySem.W.hasDictIn K C = true) (iC : PySem.W.isClsIn K C = true) (sC : PySem.W.subIn K (.ref C) (.ref C) = some true)
    (zV : PySem.W.nsIn K mainGlobals "ValueError" = some none) (vV : PySem.W.findCls K (.type "ValueError") (.type "type") "__init__" = some (.val (.builtin "ValueError.__init__"))) (next : RowF K mg C → goal) : goal := next (row_mk X G aC xL xB sa ga gg nv a1 t1 l1 c1 k1 kC eC tC hC iC sC zV vV)
theorem all_ok {C f : Addr} {fd : FuncData} (T : Blt mg) (RF : RowF K mg C)
    (D7 : DefOk K mg "places_in" (topS 7)) (D8 : DefOk K mg "near" (topS 8)) (D9 : DefOk K mg "weigh_piece" (topS 9)) (D10 : DefOk K mg "weights_of" (topS 10)) (D11 : DefOk K mg "checked_board" (topS 11)) (D12 : DefOk K mg "checked_row" (topS 12)) (D13 : DefOk K mg "swap" (topS 13)) (D14 : DefOk K mg "swap_by" (topS 14)) (D15 : DefOk K mg "table_of" (topS 15)) (D16 : DefOk K mg "unit_rows" (topS 16)) (D17 : DefOk K mg "unit_of" (topS 17)) (D19 : DefOk K mg "columns_of" (topS 19)) (D20 : DefOk K mg "is_at_green" (topS 20)) (D21 : DefOk K mg "greens_of" (topS 21)) (D22 : DefOk K mg "unit_behind" (topS 22)) (D23 : DefOk K mg "walked" (topS 23)) (D24 : DefOk K mg "columns" (topS 24)) (D25 : DefOk K mg "shortest_full" (topS 25)) (D26 : DefOk K mg "last_order" (topS 26)) (D27 : DefOk K mg "by_columns" (topS 27)) (D29 : DefOk K mg "_law_stock" (topS 29)) (D30 : DefOk K mg "_law_pick" (topS 30)) (D31 : DefOk K mg "_law_gcd" (topS 31)) (D32 : DefOk K mg "_law_board" (topS 32)) (D33 : DefOk K mg "_law_swapped" (topS 33)) (D34 : DefOk K mg "_law_piece" (topS 34)) (D35 : DefOk K mg "_law_finite" (topS 35)) (D36 : DefOk K mg "_law_fits" (topS 36)) (D37 : DefOk K mg "_law_unit" (topS 37)) (D38 : DefOk K mg "_law_columns" (topS 38)) (D39 : DefOk K mg "_law_green" (topS 39)) (D40 : DefOk K mg "_law_alike" (topS 40)) (D41 : DefOk K mg "_law_layers" (topS 41)) (D42 : DefOk K mg "_law_order" (topS 42)) (D43 : DefOk K mg "_law_refused" (topS 43)) (D44 : DefOk K mg "_law_green_walk" (topS 44)) (D45 : DefOk K mg "_law_full" (topS 45)) (D46 : DefOk K mg "_law_orders_right" (topS 46)) (D47 : DefOk K mg "_law_rows_right" (topS 47)) (D48 : DefOk K mg "_law_led_on" (topS 48)) (D49 : DefOk K mg "_law_right" (topS 49)) (F50 : Fun K "law" "law" (topS 50) f fd) : FnOk P w K mg base CX0 10 f fd ["_law_script"] (spLwK K) := by
  have R : RowC P w K mg base C := RF.row
  have c7 : Cal P w K mg base 1 "places_in" ["told"] (sp1 preB widI) := D7.cal (fun F => ok_places_in T F) (fun _ _ _ _ _ _ us hl => match us, hl with | [_], _ => rfl)
  have c8 : Cal P w K mg base 1 "near" ["told", "place", "many"] (sp3L preNear nearI) := D8.cal (fun F => ok_near T F) (fun _ _ _ _ _ _ us hl => match us, hl with | [_, _, _], _ => rfl)
  have c9 : Cal P w K mg base 2 "weigh_piece" ["told", "found", "start", "many"] spWP := D9.cal (fun F => ok_weigh_piece T c8 F) (fun _ _ _ _ _ _ us hl => match us, hl with | [_, _, _, _], _ => rfl)
  have c10 : Cal P w K mg base 3 "weights_of" ["told"] spWO := D10.cal (fun F => ok_weights_of T c7 c9 F) (fun _ _ _ _ _ _ us hl => match us, hl with | [_], _ => rfl)
  have c11 : CB P w K mg base := D11.cal (fun F => ok_checked_board T c10 F) (fun _ _ _ _ _ _ us hl => match us, hl with | [_], _ => rfl)
  have c12 : CR1 P w K mg base := D12.cal (fun F => ok_checked_row T F) (fun _ _ _ _ _ _ us hl => match us, hl with | [_, _], _ => rfl)
  have c13 : CSw P w K mg base := D13.cal (fun F => ok_swap T F) (fun _ _ _ _ _ _ us hl => match us, hl with | [_, _], _ => rfl)
  have c14 : CSb P w K mg base := D14.cal (fun F => ok_swap_by c13 F) (fun _ _ _ _ _ _ us hl => match us, hl with | [_, _], _ => rfl)
  have c15 : Cal P w K mg base 1 "table_of" ["board"] (sp1 preB tableOf) := D15.cal (fun F => ok_table_of T F) (fun _ _ _ _ _ _ us hl => match us, hl with | [_], _ => rfl)
  have c16 : Cal P w K mg base 1 "unit_rows" ["many"] (sp1 preN idmI) := D16.cal (fun F => ok_unit_rows T F) (fun _ _ _ _ _ _ us hl => match us, hl with | [_], _ => rfl)
  have c17 : CUn P w K mg base := D17.cal (fun F => ok_unit_of T c15 c16 F) (fun _ _ _ _ _ _ us hl => match us, hl with | [_], _ => rfl)
  have c19 : CCo P w K mg base := D19.cal (fun F => ok_columns_of T F) (fun _ _ _ _ _ _ us hl => match us, hl with | [_], _ => rfl)
  have c20 : CGr P w K mg base := D20.cal (fun F => ok_is_at_green T F) (fun _ _ _ _ _ _ us hl => match us, hl with | [_, _], _ => rfl)
  have c21 : CGs P w K mg base := D21.cal (fun F => ok_greens_of T c20 F) (fun _ _ _ _ _ _ us hl => match us, hl with | [_], _ => rfl)
  have c22 : Cal P w K mg base 5 "unit_behind" ["board", "row"] (sp2 preWalk behind) := D22.cal (fun F => ok_unit_behind T c11 c12 c14 c17 F) (fun _ _ _ _ _ _ us hl => match us, hl with | [_, _], _ => rfl)
  have c23 : Cal P w K mg base 5 "walked" ["board", "row"] (sp2 preWalk walkI) := D23.cal (fun F => ok_walked T c11 c12 c13 c17 c20 F) (fun _ _ _ _ _ _ us hl => match us, hl with | [_, _], _ => rfl)
  have c24 : Cal P w K mg base 6 "columns" ["board", "row"] (sp2L preWalk columnsI) := D24.cal (fun F => ok_columns c22 c19 F) (fun _ _ _ _ _ _ us hl => match us, hl with | [_, _], _ => rfl)
  have c25 : CSf P w K mg base := D25.cal (fun F => ok_shortest_full T c11 c17 c21 c13 F) (fun _ _ _ _ _ _ us hl => match us, hl with | [_, _], _ => rfl)
  have c25k : CalKS P w K mg base := D25.calKS (fun F => ok_shortest_full T c11 c17 c21 c13 F)
  have c26 : CLo P w K mg base C := D26.calR (fun F => ok_last_order T R c23 c21 c19 F) (fun _ _ _ _ _ _ us hl => match us, hl with | [_, _], _ => rfl)
  have c26k : CalKR P w K mg base C := D26.calKR (fun F => ok_last_order T R c23 c21 c19 F)
  have c27 : CBc P w K mg base := D27.cal (fun F => ok_by_columns T c11 c12 c24 F) (fun _ _ _ _ _ _ us hl => match us, hl with | [_, _, _], _ => rfl)
  have c29 : LSt P w K mg base := D29.cal (fun F => ok_l_stock T F) (fun _ _ _ _ _ _ us hl => match us, hl with | [_, _], _ => rfl)
  have c30 : LPi P w K mg base := fun c => D30.cal (fun F => ok_l_pick T F c) (fun _ _ _ _ _ _ us hl => match us, hl with | [_, _], _ => rfl)
  have c31 : LGc P w K mg base := D31.cal (fun F => ok_l_gcd T F) (fun _ _ _ _ _ _ us hl => match us, hl with | [_, _], _ => rfl)
  have c32 : LBo P w K mg base := fun c => D32.cal (fun F => ok_l_board T c31 c30 F c) (fun _ _ _ _ _ _ us hl => match us, hl with | [_, _, _, _], _ => rfl)
  have c33 : LSw P w K mg base := D33.cal (fun F => ok_l_swapped T F) (fun _ _ _ _ _ _ us hl => match us, hl with | [_, _], _ => rfl)
  have c34 : LPc P w K mg base := fun c => D34.cal (fun F => ok_l_piece T c30 F c) (fun _ _ _ _ _ _ us hl => match us, hl with | [_, _], _ => rfl)
  have c35 : LFn P w K mg base := fun c => D35.cal (fun F => ok_l_finite T c33 c30 c34 F c) (fun _ _ _ _ _ _ us hl => match us, hl with | [_, _], _ => rfl)
  have c36 : LFi P w K mg base := D36.cal (fun F => ok_l_fits T c33 F) (fun _ _ _ _ _ _ us hl => match us, hl with | [_, _], _ => rfl)
  have c37 : LUn P w K mg base := D37.cal (fun F => ok_l_unit T F) (fun _ _ _ _ _ _ us hl => match us, hl with | [_], _ => rfl)
  have c38 : LCo P w K mg base := D38.cal (fun F => ok_l_columns T F) (fun _ _ _ _ _ _ us hl => match us, hl with | [_], _ => rfl)
  have c39 : LGr P w K mg base := D39.cal (fun F => ok_l_green T c38 F) (fun _ _ _ _ _ _ us hl => match us, hl with | [_], _ => rfl)
  have c40a : Cal P w K mg base 1 "_law_alike" ["_law_found", "_law_due"] spAl0 := D40.cal (fun F => ok_l_alike0 T F) (fun _ _ _ _ _ _ us hl => match us, hl with | [_, _], _ => rfl)
  have c40 : LAl P w K mg base := D40.cal (fun F => ok_l_alike T c40a F) (fun _ _ _ _ _ _ us hl => match us, hl with | [_, _], _ => rfl)
  have c41 : LLy P w K mg base := fun c => D41.cal (fun F => ok_l_layers T c37 c39 c33 c30 F c) (fun _ _ _ _ _ _ us hl => match us, hl with | [_, _], _ => rfl)
  have c42 : LOr P w K mg base := D42.cal (fun F => ok_l_order T c37 c38 c33 F) (fun _ _ _ _ _ _ us hl => match us, hl with | [_, _], _ => rfl)
  have c43 : LRe P w K mg base := D43.cal (fun F => ok_l_refused T R c26 c40 F) (fun _ _ _ _ _ _ us hl => match us, hl with | [_, _], _ => rfl)
  have c44 : LGw P w K mg base := fun c => D44.cal (fun F => ok_l_green_walk T c37 c39 c33 c30 F c) (fun _ _ _ _ _ _ us hl => match us, hl with | [_, _, _], _ => rfl)
  have c45 : LFu P w K mg base := D45.cal (fun F => ok_l_full T c37 c39 c33 F) (fun _ _ _ _ _ _ us hl => match us, hl with | [_, _], _ => rfl)
  have c46 : LOR P w K mg base := fun c => D46.cal (fun F => ok_l_orders_right T c44 c30 c36 c45 c43 c40 c26 c42 F c) (fun _ _ _ _ _ _ us hl => match us, hl with | [_, _, _], _ => rfl)
  have c47 : LRR P w K mg base := fun c => D47.cal (fun F => ok_l_rows_right T c30 c36 c43 c40 c26 c26k c42 c27 F c) (fun _ _ _ _ _ _ us hl => match us, hl with | [_, _, _, _], _ => rfl)
  have c48 : LLe P w K mg base := fun c => D48.cal (fun F => ok_l_led_on T c33 c30 F c) (fun _ _ _ _ _ _ us hl => match us, hl with | [_, _], _ => rfl)
  have c49 : LRi P w K mg base := D49.cal (fun F => ok_l_right T c29 c30 c32 c35 c41 c40 c25 c25k c44 c45 c36 c47 c48 c46 F) (fun _ _ _ _ _ _ us hl => match us, hl with | [_, _], _ => rfl)
  exact ok_law T c49 F50
theorem law_fd {fa : Addr} {C : Addr} (hfa : mg "law" = some (.ref fa)) (T : Blt mg) (RF : RowF K mg C)
    (D7 : DefOk K mg "places_in" (topS 7)) (D8 : DefOk K mg "near" (topS 8)) (D9 : DefOk K mg "weigh_piece" (topS 9)) (D10 : DefOk K mg "weights_of" (topS 10)) (D11 : DefOk K mg "checked_board" (topS 11)) (D12 : DefOk K mg "checked_row" (topS 12)) (D13 : DefOk K mg "swap" (topS 13)) (D14 : DefOk K mg "swap_by" (topS 14)) (D15 : DefOk K mg "table_of" (topS 15)) (D16 : DefOk K mg "unit_rows" (topS 16)) (D17 : DefOk K mg "unit_of" (topS 17)) (D19 : DefOk K mg "columns_of" (topS 19)) (D20 : DefOk K mg "is_at_green" (topS 20)) (D21 : DefOk K mg "greens_of" (topS 21)) (D22 : DefOk K mg "unit_behind" (topS 22)) (D23 : DefOk K mg "walked" (topS 23)) (D24 : DefOk K mg "columns" (topS 24)) (D25 : DefOk K mg "shortest_full" (topS 25)) (D26 : DefOk K mg "last_order" (topS 26)) (D27 : DefOk K mg "by_columns" (topS 27)) (D29 : DefOk K mg "_law_stock" (topS 29)) (D30 : DefOk K mg "_law_pick" (topS 30)) (D31 : DefOk K mg "_law_gcd" (topS 31)) (D32 : DefOk K mg "_law_board" (topS 32)) (D33 : DefOk K mg "_law_swapped" (topS 33)) (D34 : DefOk K mg "_law_piece" (topS 34)) (D35 : DefOk K mg "_law_finite" (topS 35)) (D36 : DefOk K mg "_law_fits" (topS 36)) (D37 : DefOk K mg "_law_unit" (topS 37)) (D38 : DefOk K mg "_law_columns" (topS 38)) (D39 : DefOk K mg "_law_green" (topS 39)) (D40 : DefOk K mg "_law_alike" (topS 40)) (D41 : DefOk K mg "_law_layers" (topS 41)) (D42 : DefOk K mg "_law_order" (topS 42)) (D43 : DefOk K mg "_law_refused" (topS 43)) (D44 : DefOk K mg "_law_green_walk" (topS 44)) (D45 : DefOk K mg "_law_full" (topS 45)) (D46 : DefOk K mg "_law_orders_right" (topS 46)) (D47 : DefOk K mg "_law_rows_right" (topS 47)) (D48 : DefOk K mg "_law_led_on" (topS 48)) (D49 : DefOk K mg "_law_right" (topS 49)) (D50 : DefOk K mg "law" (topS 50)) : ∃ fd : FuncData, (∀ (s : Shared) (u : Value), BindsTo s fd ⟨[u], []⟩ [(("_law_script" : Str), u)]) ∧ ∀ base : Heap, K.In base → base.Ns mainGlobals mg → FnOk P w K mg base CX0 10 fa fd ["_law_script"] (spLwK K) := by
  obtain ⟨f, fd, m, F⟩ := D50
  have e := hfa.symm.trans m
  cases e
  refine ⟨fd, fun s u => ?_, fun base _ _ => all_ok T RF D7 D8 D9 D10 D11 D12 D13 D14 D15 D16 D17 D19 D20 D21 D22 D23 D24 D25 D26 D27 D29 D30 D31 D32 D33 D34 D35 D36 D37 D38 D39 D40 D41 D42 D43 D44 D45 D46 D47 D48 D49 F⟩
  obtain ⟨oc, od, kV, doc, pm, an, cdv, ct, osl, rfl, lk, hcd⟩ := F.ex
  exact .of_eq rfl
end
end Nh
set_option Elab.async false
open PySem PySem.W PyProof.Rows
set_option maxRecDepth 100000 in
set_option maxHeartbeats 0 in
theorem PySem.Challenge.cw_neverhalves_k52_whole_shortest_full_rows_holds : PySem.Challenge.rw_neverhalves_k52_whole_shortest_full_rows.Holds := by
  w_on; o_law; k_head; (case hw => w_witness2)
  k_fill
  refine L2.walk_ofB (l := PySem.Challenge.rw_neverhalves_k52_whole_shortest_full_rows) (n := 63) (k := 10) (x := "_law_script") (CX := fun _ => L2.CX0) (sp := fun w => Nh.spLwK _) rfl (by decide) rfl ⟨rfl, by decide, by decide⟩ (fun w h Y => PySem.W.kIn_of Y) ?F (fun w H a ns hl hb _ hS => ⟨a, ns, rfl, hS, Nat.le_trans hl (by decide), hb, fun _ => rfl⟩) (fun _ _ _ _ _ z => z)
  case F =>
    intro w mg fa h KX G hmg
    have z_len : mg "len" = none := by
      refine PySem.W.mg_none_of KX G ?z
      (case z => k_is)
    have z_any : mg "any" = none := by
      refine PySem.W.mg_none_of KX G ?z
      (case z => k_is)
    have z_range : mg "range" = none := by
      refine PySem.W.mg_none_of KX G ?z
      (case z => k_is)
    have z_abs : mg "abs" = none := by
      refine PySem.W.mg_none_of KX G ?z
      (case z => k_is)
    have z_tuple : mg "tuple" = none := by
      refine PySem.W.mg_none_of KX G ?z
      (case z => k_is)
    have z_enumerate : mg "enumerate" = none := by
      refine PySem.W.mg_none_of KX G ?z
      (case z => k_is)
    have z_zip : mg "zip" = none := by
      refine PySem.W.mg_none_of KX G ?z
      (case z => k_is)
    have z_int : mg "int" = none := by
      refine PySem.W.mg_none_of KX G ?z
      (case z => k_is)
    have z_max : mg "max" = none := by
      refine PySem.W.mg_none_of KX G ?z
      (case z => k_is)
    have z_min : mg "min" = none := by
      refine PySem.W.mg_none_of KX G ?z
      (case z => k_is)
    have z_sorted : mg "sorted" = none := by
      refine PySem.W.mg_none_of KX G ?z
      (case z => k_is)
    have z_sum : mg "sum" = none := by
      refine PySem.W.mg_none_of KX G ?z
      (case z => k_is)
    have z_isinstance : mg "isinstance" = none := by
      refine PySem.W.mg_none_of KX G ?z
      (case z => k_is)
    have z_bool : mg "bool" = none := by
      refine PySem.W.mg_none_of KX G ?z
      (case z => k_is)
    have z_list : mg "list" = none := by
      refine PySem.W.mg_none_of KX G ?z
      (case z => k_is)
    have z_gcd : mg "gcd" = some (.builtin "math.gcd") := by
      refine PySem.W.mg_of KX G ?z
      (case z => k_is)
    have T : Nh.Blt mg := ⟨z_len, z_any, z_range, z_abs, z_tuple, z_enumerate, z_zip, z_int, z_max, z_min, z_sorted, z_sum, z_isinstance, z_bool, z_list, z_gcd⟩
    refine' Nh.with_def "places_in" (Nh.topS 7) KX G ?a ?l ?c ?k ?n7
    (case a => k_is); (case l => k_is); (case c => k_is); (case k => k_is)
    intro D7
    refine' Nh.with_def "near" (Nh.topS 8) KX G ?a ?l ?c ?k ?n8
    (case a => k_is); (case l => k_is); (case c => k_is); (case k => k_is)
    intro D8
    refine' Nh.with_def "weigh_piece" (Nh.topS 9) KX G ?a ?l ?c ?k ?n9
    (case a => k_is); (case l => k_is); (case c => k_is); (case k => k_is)
    intro D9
    refine' Nh.with_def "weights_of" (Nh.topS 10) KX G ?a ?l ?c ?k ?n10
    (case a => k_is); (case l => k_is); (case c => k_is); (case k => k_is)
    intro D10
    refine' Nh.with_def "checked_board" (Nh.topS 11) KX G ?a ?l ?c ?k ?n11
    (case a => k_is); (case l => k_is); (case c => k_is); (case k => k_is)
    intro D11
    refine' Nh.with_def "checked_row" (Nh.topS 12) KX G ?a ?l ?c ?k ?n12
    (case a => k_is); (case l => k_is); (case c => k_is); (case k => k_is)
    intro D12
    refine' Nh.with_def "swap" (Nh.topS 13) KX G ?a ?l ?c ?k ?n13
    (case a => k_is); (case l => k_is); (case c => k_is); (case k => k_is)
    intro D13
    refine' Nh.with_def "swap_by" (Nh.topS 14) KX G ?a ?l ?c ?k ?n14
    (case a => k_is); (case l => k_is); (case c => k_is); (case k => k_is)
    intro D14
    refine' Nh.with_def "table_of" (Nh.topS 15) KX G ?a ?l ?c ?k ?n15
    (case a => k_is); (case l => k_is); (case c => k_is); (case k => k_is)
    intro D15
    refine' Nh.with_def "unit_rows" (Nh.topS 16) KX G ?a ?l ?c ?k ?n16
    (case a => k_is); (case l => k_is); (case c => k_is); (case k => k_is)
    intro D16
    refine' Nh.with_def "unit_of" (Nh.topS 17) KX G ?a ?l ?c ?k ?n17
    (case a => k_is); (case l => k_is); (case c => k_is); (case k => k_is)
    intro D17
    refine' Nh.with_def "columns_of" (Nh.topS 19) KX G ?a ?l ?c ?k ?n19
    (case a => k_is); (case l => k_is); (case c => k_is); (case k => k_is)
    intro D19
    refine' Nh.with_def "is_at_green" (Nh.topS 20) KX G ?a ?l ?c ?k ?n20
    (case a => k_is); (case l => k_is); (case c => k_is); (case k => k_is)
    intro D20
    refine' Nh.with_def "greens_of" (Nh.topS 21) KX G ?a ?l ?c ?k ?n21
    (case a => k_is); (case l => k_is); (case c => k_is); (case k => k_is)
    intro D21
    refine' Nh.with_def "unit_behind" (Nh.topS 22) KX G ?a ?l ?c ?k ?n22
    (case a => k_is); (case l => k_is); (case c => k_is); (case k => k_is)
    intro D22
    refine' Nh.with_def "walked" (Nh.topS 23) KX G ?a ?l ?c ?k ?n23
    (case a => k_is); (case l => k_is); (case c => k_is); (case k => k_is)
    intro D23
    refine' Nh.with_def "columns" (Nh.topS 24) KX G ?a ?l ?c ?k ?n24
    (case a => k_is); (case l => k_is); (case c => k_is); (case k => k_is)
    intro D24
    refine' Nh.with_def "shortest_full" (Nh.topS 25) KX G ?a ?l ?c ?k ?n25
    (case a => k_is); (case l => k_is); (case c => k_is); (case k => k_is)
    intro D25
    refine' Nh.with_def "last_order" (Nh.topS 26) KX G ?a ?l ?c ?k ?n26
    (case a => k_is); (case l => k_is); (case c => k_is); (case k => k_is)
    intro D26
    refine' Nh.with_def "by_columns" (Nh.topS 27) KX G ?a ?l ?c ?k ?n27
    (case a => k_is); (case l => k_is); (case c => k_is); (case k => k_is)
    intro D27
    refine' Nh.with_def "_law_stock" (Nh.topS 29) KX G ?a ?l ?c ?k ?n29
    (case a => k_is); (case l => k_is); (case c => k_is); (case k => k_is)
    intro D29
    refine' Nh.with_def "_law_pick" (Nh.topS 30) KX G ?a ?l ?c ?k ?n30
    (case a => k_is); (case l => k_is); (case c => k_is); (case k => k_is)
    intro D30
    refine' Nh.with_def "_law_gcd" (Nh.topS 31) KX G ?a ?l ?c ?k ?n31
    (case a => k_is); (case l => k_is); (case c => k_is); (case k => k_is)
    intro D31
    refine' Nh.with_def "_law_board" (Nh.topS 32) KX G ?a ?l ?c ?k ?n32
    (case a => k_is); (case l => k_is); (case c => k_is); (case k => k_is)
    intro D32
    refine' Nh.with_def "_law_swapped" (Nh.topS 33) KX G ?a ?l ?c ?k ?n33
    (case a => k_is); (case l => k_is); (case c => k_is); (case k => k_is)
    intro D33
    refine' Nh.with_def "_law_piece" (Nh.topS 34) KX G ?a ?l ?c ?k ?n34
    (case a => k_is); (case l => k_is); (case c => k_is); (case k => k_is)
    intro D34
    refine' Nh.with_def "_law_finite" (Nh.topS 35) KX G ?a ?l ?c ?k ?n35
    (case a => k_is); (case l => k_is); (case c => k_is); (case k => k_is)
    intro D35
    refine' Nh.with_def "_law_fits" (Nh.topS 36) KX G ?a ?l ?c ?k ?n36
    (case a => k_is); (case l => k_is); (case c => k_is); (case k => k_is)
    intro D36
    refine' Nh.with_def "_law_unit" (Nh.topS 37) KX G ?a ?l ?c ?k ?n37
    (case a => k_is); (case l => k_is); (case c => k_is); (case k => k_is)
    intro D37
    refine' Nh.with_def "_law_columns" (Nh.topS 38) KX G ?a ?l ?c ?k ?n38
    (case a => k_is); (case l => k_is); (case c => k_is); (case k => k_is)
    intro D38
    refine' Nh.with_def "_law_green" (Nh.topS 39) KX G ?a ?l ?c ?k ?n39
    (case a => k_is); (case l => k_is); (case c => k_is); (case k => k_is)
    intro D39
    refine' Nh.with_def "_law_alike" (Nh.topS 40) KX G ?a ?l ?c ?k ?n40
    (case a => k_is); (case l => k_is); (case c => k_is); (case k => k_is)
    intro D40
    refine' Nh.with_def "_law_layers" (Nh.topS 41) KX G ?a ?l ?c ?k ?n41
    (case a => k_is); (case l => k_is); (case c => k_is); (case k => k_is)
    intro D41
    refine' Nh.with_def "_law_order" (Nh.topS 42) KX G ?a ?l ?c ?k ?n42
    (case a => k_is); (case l => k_is); (case c => k_is); (case k => k_is)
    intro D42
    refine' Nh.with_def "_law_refused" (Nh.topS 43) KX G ?a ?l ?c ?k ?n43
    (case a => k_is); (case l => k_is); (case c => k_is); (case k => k_is)
    intro D43
    refine' Nh.with_def "_law_green_walk" (Nh.topS 44) KX G ?a ?l ?c ?k ?n44
    (case a => k_is); (case l => k_is); (case c => k_is); (case k => k_is)
    intro D44
    refine' Nh.with_def "_law_full" (Nh.topS 45) KX G ?a ?l ?c ?k ?n45
    (case a => k_is); (case l => k_is); (case c => k_is); (case k => k_is)
    intro D45
    refine' Nh.with_def "_law_orders_right" (Nh.topS 46) KX G ?a ?l ?c ?k ?n46
    (case a => k_is); (case l => k_is); (case c => k_is); (case k => k_is)
    intro D46
    refine' Nh.with_def "_law_rows_right" (Nh.topS 47) KX G ?a ?l ?c ?k ?n47
    (case a => k_is); (case l => k_is); (case c => k_is); (case k => k_is)
    intro D47
    refine' Nh.with_def "_law_led_on" (Nh.topS 48) KX G ?a ?l ?c ?k ?n48
    (case a => k_is); (case l => k_is); (case c => k_is); (case k => k_is)
    intro D48
    refine' Nh.with_def "_law_right" (Nh.topS 49) KX G ?a ?l ?c ?k ?n49
    (case a => k_is); (case l => k_is); (case c => k_is); (case k => k_is)
    intro D49
    refine' Nh.with_def "law" (Nh.topS 50) KX G ?a ?l ?c ?k ?n50
    (case a => k_is); (case l => k_is); (case c => k_is); (case k => k_is)
    intro D50
    refine' Nh.with_row KX G ?aC ?xL ?xB ?sa ?ga ?gg ?nv ?a1 ?t1 ?l1 ?c1 ?k1 ?kC ?eC ?tC ?hC ?iC ?sC ?zV ?vV ?nR
    (case aC => k_is); (case xL => k_is); (case xB => decide +kernel); (case sa => k_is); (case ga => k_is); (case gg => k_is); (case nv => k_is)
    (case a1 => k_is); (case t1 => k_is); (case l1 => k_is); (case c1 => k_is); (case k1 => k_is)
    (case kC => k_is); (case eC => k_is); (case tC => k_is); (case hC => k_is); (case iC => k_is); (case sC => first | rfl | k_is); (case zV => k_is); (case vV => k_is)
    intro RF
    exact Nh.law_fd hmg T RF D7 D8 D9 D10 D11 D12 D13 D14 D15 D16 D17 D19 D20 D21 D22 D23 D24 D25 D26 D27 D29 D30 D31 D32 D33 D34 D35 D36 D37 D38 D39 D40 D41 D42 D43 D44 D45 D46 D47 D48 D49 D50
