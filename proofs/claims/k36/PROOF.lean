import PyProof.Rows.All
import PySem.PyData
import Wide.All
import OpenK.AllK
import Wide.FinOn
import HandS.ForMost
import HandS.ForExc
import HandS.IsInst
import HandS.Walk
import HandS.DictComp
import HandS.Flow
import HandS.CallLocal
import HandS.Zip
import HandS.TupAny
import HandS.ExcIs
import HandS.SetKeys
import HandS.Small
import HandS.Strs
import HandS.Evl
import KE.SortData
import KE.GoesMore
import KE.KDictPairs
import PySem.Challenge.RW_halfring_k36_whole_last_words_stay_at_ea
import KE.GoesEnum
import HandS.DictTup
import HandS.TupSets
import HandS.Ends
set_option Elab.async false
set_option linter.all false
set_option maxRecDepth 100000
set_option maxHeartbeats 3200000
section
set_option autoImplicit false
namespace HR
open PySem (Str PyData)

/-! ### records -/
inductive Sgl where
  | put (k w : Str)
  | drop (k : Str)
  deriving DecidableEq
def Sgl.key : Sgl → Str
  | .put k _ => k
  | .drop k => k
inductive Rec where
  | blank
  | part (s : Sgl) (p l : Nat)
  deriving DecidableEq
def Rec.sgl? : Rec → Option Sgl
  | .blank => none
  | .part s _ _ => some s
def isPart : Rec → Nat → Nat → Bool
  | .blank, _, _ => false
  | .part _ p l, p', l' => decide (p = p') && decide (l = l')
def fol : Rec → Rec → Bool
  | _, .blank => true
  | a, .part _ p l => decide (p = 0) || isPart a (p - 1) (l + 1)
def unb : List Rec → Bool
  | a :: b :: r => fol a b && unb (b :: r)
  | _ => true
def parts (ss : List Sgl) : List Rec := ss.mapIdx fun k s => .part s k (ss.length - 1 - k)

/-! ### dicts -/
section
variable {α : Type}
def dlook (d : List (Str × α)) (k : Str) : Option α := (d.find? fun e => decide (e.1 = k)).map (·.2)
def dput (d : List (Str × α)) (k : Str) (v : α) : List (Str × α) :=
  if (d.any fun e => decide (e.1 = k)) = true then d.map (fun e => if e.1 = k then (e.1, v) else e) else d ++ [(k, v)]
def ddrop (d : List (Str × α)) (k : Str) : List (Str × α) := d.filter fun e => decide (e.1 ≠ k)

theorem dlook_nil (k : Str) : dlook ([] : List (Str × α)) k = none := rfl
theorem dlook_cons (e : Str × α) (r : List (Str × α)) (k : Str) : dlook (e :: r) k = if e.1 = k then some e.2 else dlook r k := by
  unfold dlook
  rw [List.find?_cons]
  by_cases h : e.1 = k
  · simp [h]
  · simp [h]
theorem dlook_any (d : List (Str × α)) (k : Str) : (d.any fun e => decide (e.1 = k)) = (dlook d k).isSome := by
  induction d with
  | nil => rfl
  | cons e r ih =>
    rw [List.any_cons, ih, dlook_cons]
    by_cases h : e.1 = k
    · simp [h]
    · simp [h]
theorem dlook_append (a b : List (Str × α)) (k : Str) : dlook (a ++ b) k = (dlook a k).or (dlook b k) := by
  induction a with
  | nil => rfl
  | cons e r ih =>
    rw [List.cons_append, dlook_cons, dlook_cons, ih]
    by_cases h : e.1 = k
    · simp [h]
    · simp [h]
theorem dlook_repl (d : List (Str × α)) (k j : Str) (v : α) : dlook (d.map fun e => if e.1 = k then (e.1, v) else e) j = if j = k then (dlook d k).map (fun _ => v) else dlook d j := by
  induction d with
  | nil => simp [dlook_nil]
  | cons e r ih =>
    rw [List.map_cons, dlook_cons, dlook_cons, dlook_cons, ih]
    by_cases h : e.1 = k
    · subst h
      by_cases h2 : j = e.1
      · subst h2; simp
      · simp [h2, Ne.symm h2]
    · by_cases h2 : j = k
      · subst h2; simp [h]
      · simp [h, h2]
theorem dlook_put (d : List (Str × α)) (k j : Str) (v : α) : dlook (dput d k v) j = if j = k then some v else dlook d j := by
  unfold dput
  rw [dlook_any]
  cases e : dlook d k with
  | none =>
    rw [if_neg (by simp), dlook_append, dlook_cons, dlook_nil]
    by_cases h : j = k
    · subst h; simp [e]
    · simp [h, Ne.symm h]
  | some x =>
    rw [if_pos (by simp), dlook_repl, e]
    simp
theorem dlook_drop (d : List (Str × α)) (k j : Str) : dlook (ddrop d k) j = if j = k then none else dlook d j := by
  unfold ddrop
  induction d with
  | nil => simp [dlook_nil]
  | cons e r ih =>
    rw [List.filter_cons]
    by_cases h : e.1 = k
    · rw [if_neg (by simp [h]), ih, dlook_cons]
      by_cases h2 : j = k
      · simp [h2]
      · have h3 : ¬ e.1 = j := by rw [h]; exact fun z => h2 z.symm
        simp [h2, h3]
    · rw [if_pos (by simp [h]), dlook_cons, ih, dlook_cons]
      by_cases h2 : j = k
      · subst h2; simp [h]
      · simp [h2]
/-- no key twice -/
def Nk (d : List (Str × α)) : Prop := (d.map (·.1)).Nodup
theorem nk_nil : Nk ([] : List (Str × α)) := List.nodup_nil
theorem map_repl (d : List (Str × α)) (k : Str) (v : α) : (d.map fun e => if e.1 = k then (e.1, v) else e).map (·.1) = d.map (·.1) := by
  rw [List.map_map]
  apply List.map_congr_left
  intro e _
  by_cases h : e.1 = k <;> simp [h]
theorem not_mem_of_look {d : List (Str × α)} {k : Str} (h : dlook d k = none) : k ∉ d.map (·.1) := by
  induction d with
  | nil => simp
  | cons e r ih =>
    rw [dlook_cons] at h
    by_cases h2 : e.1 = k
    · simp [h2] at h
    · rw [if_neg h2] at h
      simp only [List.map_cons, List.mem_cons, not_or]
      exact ⟨fun z => h2 z.symm, ih h⟩
theorem nk_put {d : List (Str × α)} (h : Nk d) (k : Str) (v : α) : Nk (dput d k v) := by
  unfold dput
  rw [dlook_any]
  cases e : dlook d k with
  | none =>
    rw [if_neg (by simp)]
    unfold Nk at h ⊢
    rw [List.map_append, List.nodup_append]
    refine ⟨h, by simp, ?_⟩
    intro a ha b hb
    simp at hb
    subst hb
    intro z
    subst z
    exact not_mem_of_look e ha
  | some x =>
    rw [if_pos (by simp)]
    unfold Nk at h ⊢
    rw [map_repl]
    exact h
theorem nk_drop {d : List (Str × α)} (h : Nk d) (k : Str) : Nk (ddrop d k) := by
  unfold Nk ddrop at *
  exact h.sublist (List.filter_sublist.map _)
theorem look_mem {d : List (Str × α)} (h : Nk d) (k : Str) (v : α) : (k, v) ∈ d ↔ dlook d k = some v := by
  induction d with
  | nil => simp [dlook_nil]
  | cons e r ih =>
    have h' : Nk r := by unfold Nk at h ⊢; rw [List.map_cons, List.nodup_cons] at h; exact h.2
    have hn : e.1 ∉ r.map (·.1) := by unfold Nk at h; rw [List.map_cons, List.nodup_cons] at h; exact h.1
    rw [dlook_cons, List.mem_cons, ih h']
    by_cases h2 : e.1 = k
    · rw [if_pos h2]
      constructor
      · rintro (z | z)
        · rw [← z]
        · exact absurd (List.mem_map.mpr ⟨(k, v), (ih h').mpr z, h2.symm⟩) hn
      · intro z
        left
        obtain ⟨a, b⟩ := e
        simp at h2 z
        rw [h2, z]
    · rw [if_neg h2]
      constructor
      · rintro (z | z)
        · exact absurd (by rw [← z]) h2
        · exact z
      · exact Or.inr
end

/-! ### sorting -/
section
variable {α : Type} (le : α → α → Bool)
def insb (x : α) : List α → List α
  | [] => [x]
  | y :: r => if le x y then x :: y :: r else y :: insb x r
def isort : List α → List α
  | [] => []
  | x :: r => insb le x (isort r)
variable {le}
theorem insb_perm (x : α) (l : List α) : (insb le x l).Perm (x :: l) := by
  induction l with
  | nil => exact .refl _
  | cons y r ih =>
    unfold insb
    split
    · exact .refl _
    · exact (ih.cons y).trans (.swap x y r)
theorem isort_perm (l : List α) : (isort le l).Perm l := by
  induction l with
  | nil => exact .refl _
  | cons x r ih => exact (insb_perm x _).trans (ih.cons x)
theorem insb_sorted (tot : ∀ a b, le a b = true ∨ le b a = true) (tr : ∀ a b c, le a b = true → le b c = true → le a c = true) (x : α) (l : List α) (h : l.Pairwise fun a b => le a b = true) :
    (insb le x l).Pairwise fun a b => le a b = true := by
  induction l with
  | nil => simp [insb]
  | cons y r ih =>
    unfold insb
    rw [List.pairwise_cons] at h
    split
    · rename_i e
      rw [List.pairwise_cons, List.pairwise_cons]
      refine ⟨fun z hz => ?_, h⟩
      rcases List.mem_cons.mp hz with rfl | hz
      · exact e
      · exact tr _ _ _ e (h.1 z hz)
    · rename_i e
      rw [List.pairwise_cons]
      refine ⟨fun z hz => ?_, ih h.2⟩
      rcases List.mem_cons.mp ((insb_perm x r).mem_iff.mp hz) with rfl | hz
      · exact (tot y z).resolve_right e
      · exact h.1 z hz
theorem isort_sorted (tot : ∀ a b, le a b = true ∨ le b a = true) (tr : ∀ a b c, le a b = true → le b c = true → le a c = true) (l : List α) : (isort le l).Pairwise fun a b => le a b = true := by
  induction l with
  | nil => exact .nil
  | cons x r ih => exact insb_sorted tot tr x _ ih
/-- two sorted lists without doubles, of the same members -/
theorem sorted_ext (as : ∀ a b, le a b = true → le b a = true → a = b) : ∀ (l m : List α), (l.Pairwise fun a b => le a b = true) → (m.Pairwise fun a b => le a b = true) → l.Nodup → m.Nodup → (∀ x, x ∈ l ↔ x ∈ m) → l = m
  | [], [], _, _, _, _, _ => rfl
  | [], y :: m, _, _, _, _, h => absurd ((h y).mpr List.mem_cons_self) (by simp)
  | x :: l, [], _, _, _, _, h => absurd ((h x).mp List.mem_cons_self) (by simp)
  | x :: l, y :: m, hl, hm, nl, nm, h => by
    rw [List.pairwise_cons] at hl hm
    rw [List.nodup_cons] at nl nm
    have e : x = y := by
      rcases List.mem_cons.mp ((h x).mp List.mem_cons_self) with e | hx
      · exact e
      · rcases List.mem_cons.mp ((h y).mpr List.mem_cons_self) with e | hy
        · exact e.symm
        · exact as _ _ (hl.1 y hy) (hm.1 x hx)
    subst e
    refine congrArg (x :: ·) (sorted_ext as l m hl.2 hm.2 nl.2 nm.2 fun z => ?_)
    have hz := h z
    rw [List.mem_cons, List.mem_cons] at hz
    constructor
    · intro z1
      rcases hz.mp (.inr z1) with e | q
      · subst e; exact absurd z1 nl.1
      · exact q
    · intro z1
      rcases hz.mpr (.inr z1) with e | q
      · subst e; exact absurd z1 nm.1
      · exact q
/-- the one sorted arrangement -/
theorem perm_isort (tot : ∀ a b, le a b = true ∨ le b a = true) (tr : ∀ a b c, le a b = true → le b c = true → le a c = true) (as : ∀ a b, le a b = true → le b a = true → a = b) :
    ∀ (l m : List α), l.Perm m → (l.Pairwise fun a b => le a b = true) → l = isort le m := by
  intro l m hp hl
  have hm := isort_sorted tot tr m
  have hp2 : l.Perm (isort le m) := hp.trans (isort_perm m).symm
  exact hp2.eq_of_pairwise (fun a b _ _ => as a b) hl hm
end

/-! ### the orders -/
def strLt (a b : Str) : Bool := decide (a.cps.toList < b.cps.toList)
theorem str_ext {a b : Str} (h : a.cps.toList = b.cps.toList) : a = b := by
  obtain ⟨a⟩ := a
  obtain ⟨b⟩ := b
  have : a = b := by simpa using congrArg List.toArray h
  rw [this]
theorem strLt_irrefl (a : Str) : strLt a a = false := by simp [strLt]
theorem strLt_trans {a b c : Str} (h : strLt a b = true) (h2 : strLt b c = true) : strLt a c = true := by
  simp only [strLt, decide_eq_true_eq] at *
  exact List.lt_trans h h2
theorem strLt_total {a b : Str} (h : strLt a b = false) (h2 : strLt b a = false) : a = b := by
  simp only [strLt, decide_eq_false_iff_not] at *
  exact str_ext (List.le_antisymm (List.not_lt.mp h2) (List.not_lt.mp h))
theorem strLt_asymm {a b : Str} (h : strLt a b = true) : strLt b a = false := by
  cases e : strLt b a with
  | false => rfl
  | true =>
    have := strLt_trans h e
    rw [strLt_irrefl] at this
    cases this
def leNK (p q : Nat × Str) : Bool := if p.1 = q.1 then !strLt q.2 p.2 else decide (p.1 < q.1)
def leKW (p q : Str × Str) : Bool := if p.1 = q.1 then !strLt q.2 p.2 else strLt p.1 q.1
theorem nlt_trans {a b c : Str} (h : strLt b a = false) (h2 : strLt c b = false) : strLt c a = false := by
  cases e : strLt c a with
  | false => rfl
  | true =>
    exfalso
    by_cases hab : a = b
    · subst hab; rw [e] at h2; cases h2
    · have h3 : strLt a b = true := by
        cases q : strLt a b with
        | true => rfl
        | false => exact absurd (strLt_total q h) hab
      rw [strLt_trans e h3] at h2
      cases h2
theorem leNK_total (a b : Nat × Str) : leNK a b = true ∨ leNK b a = true := by
  unfold leNK
  by_cases h : a.1 = b.1
  · rw [if_pos h, if_pos h.symm]
    cases e : strLt b.2 a.2 with
    | false => simp
    | true => rw [strLt_asymm e]; simp
  · rw [if_neg h, if_neg (Ne.symm h)]
    simp only [decide_eq_true_eq]
    omega
theorem leNK_trans (a b c : Nat × Str) (h : leNK a b = true) (h2 : leNK b c = true) : leNK a c = true := by
  unfold leNK at *
  by_cases e1 : a.1 = b.1
  · rw [if_pos e1] at h
    by_cases e2 : b.1 = c.1
    · rw [if_pos e2] at h2
      rw [if_pos (e1.trans e2)]
      simp only [Bool.not_eq_true'] at *
      exact nlt_trans h h2
    · rw [if_neg e2] at h2
      rw [if_neg (by rw [e1]; exact e2), e1]
      exact h2
  · rw [if_neg e1] at h
    simp only [decide_eq_true_eq] at h
    by_cases e2 : b.1 = c.1
    · rw [if_neg (by rw [← e2]; exact e1), ← e2]
      simpa using h
    · rw [if_neg e2] at h2
      simp only [decide_eq_true_eq] at h2
      rw [if_neg (by omega)]
      simp only [decide_eq_true_eq]
      omega
theorem leNK_antisymm (a b : Nat × Str) (h : leNK a b = true) (h2 : leNK b a = true) : a = b := by
  unfold leNK at *
  by_cases e1 : a.1 = b.1
  · rw [if_pos e1] at h
    rw [if_pos e1.symm] at h2
    simp only [Bool.not_eq_true'] at *
    exact Prod.ext e1 (strLt_total h2 h)
  · rw [if_neg e1] at h
    rw [if_neg (Ne.symm e1)] at h2
    simp only [decide_eq_true_eq] at *
    omega
theorem leKW_total (a b : Str × Str) : leKW a b = true ∨ leKW b a = true := by
  unfold leKW
  by_cases h : a.1 = b.1
  · rw [if_pos h, if_pos h.symm]
    cases e : strLt b.2 a.2 with
    | false => simp
    | true => rw [strLt_asymm e]; simp
  · rw [if_neg h, if_neg (Ne.symm h)]
    cases e : strLt a.1 b.1 with
    | true => simp
    | false =>
      cases e2 : strLt b.1 a.1 with
      | true => simp
      | false => exact absurd (strLt_total e e2) h
theorem leKW_trans (a b c : Str × Str) (h : leKW a b = true) (h2 : leKW b c = true) : leKW a c = true := by
  unfold leKW at *
  by_cases e1 : a.1 = b.1
  · rw [if_pos e1] at h
    by_cases e2 : b.1 = c.1
    · rw [if_pos e2] at h2
      rw [if_pos (e1.trans e2)]
      simp only [Bool.not_eq_true'] at *
      exact nlt_trans h h2
    · rw [if_neg e2] at h2
      rw [if_neg (by rw [e1]; exact e2), e1]
      exact h2
  · rw [if_neg e1] at h
    by_cases e2 : b.1 = c.1
    · rw [if_neg (by rw [← e2]; exact e1), ← e2]
      exact h
    · rw [if_neg e2] at h2
      have h3 := strLt_trans h h2
      rw [if_neg (fun z => by rw [z, strLt_irrefl] at h3; cases h3)]
      exact h3
theorem leKW_antisymm (a b : Str × Str) (h : leKW a b = true) (h2 : leKW b a = true) : a = b := by
  unfold leKW at *
  by_cases e1 : a.1 = b.1
  · rw [if_pos e1] at h
    rw [if_pos e1.symm] at h2
    simp only [Bool.not_eq_true'] at *
    exact Prod.ext e1 (strLt_total h2 h)
  · rw [if_neg e1] at h
    rw [if_neg (Ne.symm e1)] at h2
    rw [strLt_asymm h] at h2
    cases h2
end HR
end
section
set_option autoImplicit false
namespace HR
open PySem (Str PyData)

/-! ### the lots that close in a row, read from the left -/
abbrev Ev := List (Nat × Sgl)
abbrev Sc := Nat × Ev × Ev
def stp : Sc → Rec → Sc
  | (i, _, o), .blank => (i + 1, [], o)
  | (i, pd, o), .part s p l =>
    let pd' := (if p = 0 then [] else pd) ++ [(i, s)]
    if l = 0 then (i + 1, [], o ++ pd') else (i + 1, pd', o)
def scan (rs : List Rec) : Sc := rs.foldl stp (0, [], [])
def out (rs : List Rec) : Ev := (scan rs).2.2
def shf (o : Ev) : Ev := o.map fun e => (e.1 + 1, e.2)
theorem shf_append (a b : Ev) : shf (a ++ b) = shf a ++ shf b := List.map_append
theorem scan_append (a b : List Rec) : scan (a ++ b) = b.foldl stp (scan a) := List.foldl_append
theorem foldl_fst (rs : List Rec) : ∀ z : Sc, (rs.foldl stp z).1 = z.1 + rs.length := by
  induction rs with
  | nil => intro z; rfl
  | cons r rs ih =>
    intro z
    obtain ⟨i, pd, o⟩ := z
    rw [List.foldl_cons, ih, List.length_cons]
    cases r with
    | blank => show i + 1 + _ = i + _; omega
    | part s p l =>
      unfold stp
      by_cases h : l = 0
      · simp only [if_pos h]; omega
      · simp only [if_neg h]; omega
theorem scan_fst (rs : List Rec) : (scan rs).1 = rs.length := by
  unfold scan
  rw [foldl_fst]
  simp
/-- what one more record ahead changes -/
def Rl (x : Nat × Sgl) (a b : Sc) : Prop := ∃ po pp : Ev, a = (b.1 + 1, pp ++ shf b.2.1, po ++ shf b.2.2) ∧ ((po = [] ∧ pp = []) ∨ (po = [x] ∧ pp = []) ∨ (po = [] ∧ pp = [x] ∧ b.2.2 = []))
theorem Rl.step {x : Nat × Sgl} {a b : Sc} (h : Rl x a b) (r : Rec) : Rl x (stp a r) (stp b r) := by
  obtain ⟨i, pd, o⟩ := b
  obtain ⟨po, pp, rfl, h⟩ := h
  cases r with
  | blank =>
    refine ⟨po, [], rfl, ?_⟩
    rcases h with ⟨h1, h2⟩ | ⟨h1, h2⟩ | ⟨h1, h2, h3⟩
    · exact .inl ⟨h1, rfl⟩
    · exact .inr (.inl ⟨h1, rfl⟩)
    · exact .inl ⟨h1, rfl⟩
  | part s p l =>
    unfold stp
    by_cases hp : p = 0
    · simp only [if_pos hp]
      by_cases hl : l = 0
      · simp only [if_pos hl]
        refine ⟨po, [], ?_, ?_⟩
        · simp [shf]
        · rcases h with ⟨h1, h2⟩ | ⟨h1, h2⟩ | ⟨h1, h2, h3⟩
          · exact .inl ⟨h1, rfl⟩
          · exact .inr (.inl ⟨h1, rfl⟩)
          · exact .inl ⟨h1, rfl⟩
      · simp only [if_neg hl]
        refine ⟨po, [], ?_, ?_⟩
        · simp [shf]
        · rcases h with ⟨h1, h2⟩ | ⟨h1, h2⟩ | ⟨h1, h2, h3⟩
          · exact .inl ⟨h1, rfl⟩
          · exact .inr (.inl ⟨h1, rfl⟩)
          · exact .inl ⟨h1, rfl⟩
    · simp only [if_neg hp]
      by_cases hl : l = 0
      · simp only [if_pos hl]
        rcases h with ⟨h1, h2⟩ | ⟨h1, h2⟩ | ⟨h1, h2, h3⟩
        · subst h1 h2
          exact ⟨[], [], by simp [shf], .inl ⟨rfl, rfl⟩⟩
        · subst h1 h2
          exact ⟨[x], [], by simp [shf], .inr (.inl ⟨rfl, rfl⟩)⟩
        · subst h1 h2
          have h3 : o = [] := h3
          subst h3
          exact ⟨[x], [], by simp [shf], .inr (.inl ⟨rfl, rfl⟩)⟩
      · simp only [if_neg hl]
        rcases h with ⟨h1, h2⟩ | ⟨h1, h2⟩ | ⟨h1, h2, h3⟩
        · subst h1 h2
          exact ⟨[], [], by simp [shf], .inl ⟨rfl, rfl⟩⟩
        · subst h1 h2
          exact ⟨[x], [], by simp [shf], .inr (.inl ⟨rfl, rfl⟩)⟩
        · subst h1 h2
          have h3 : o = [] := h3
          subst h3
          exact ⟨[], [x], by simp [shf], .inr (.inr ⟨rfl, rfl, rfl⟩)⟩
theorem Rl.all {x : Nat × Sgl} (rs : List Rec) : ∀ {a b : Sc}, Rl x a b → Rl x (rs.foldl stp a) (rs.foldl stp b) := by
  induction rs with
  | nil => intro a b h; exact h
  | cons r rs ih => intro a b h; exact ih (h.step r)
/-- the first record leaves: at most its own doing goes -/
theorem out_cons (r : Rec) (R : List Rec) : ∃ po : Ev, out (r :: R) = po ++ shf (out R) ∧ (po = [] ∨ ∃ s p l, r = .part s p l ∧ po = [(0, s)]) := by
  cases r with
  | blank =>
    have h : Rl (0, .drop ⟨#[]⟩) (stp (0, [], []) .blank) (0, [], []) := ⟨[], [], rfl, .inl ⟨rfl, rfl⟩⟩
    obtain ⟨po, pp, e, c⟩ := h.all R
    refine ⟨[], ?_, .inl rfl⟩
    -- with a blank nothing is ahead
    have h0 : ∀ (R : List Rec) (a b : Sc), a = (b.1 + 1, shf b.2.1, shf b.2.2) → R.foldl stp a = ((R.foldl stp b).1 + 1, shf (R.foldl stp b).2.1, shf (R.foldl stp b).2.2) := by
      intro R
      induction R with
      | nil => intro a b h; exact h
      | cons r R ih =>
        intro a b h
        refine ih _ _ ?_
        subst h
        obtain ⟨i, pd, o⟩ := b
        cases r with
        | blank => rfl
        | part s p l =>
          unfold stp
          by_cases hp : p = 0 <;> by_cases hl : l = 0 <;> simp [hp, hl, shf]
    have e0 := h0 R (stp (0, [], []) .blank) (0, [], []) rfl
    show (R.foldl stp (stp (0, [], []) .blank)).2.2 = _
    rw [e0]
    rfl
  | part s p l =>
    have h : Rl (0, s) (stp (0, [], []) (.part s p l)) (0, [], []) := by
      unfold stp
      by_cases hl : l = 0
      · simp only [if_pos hl]
        exact ⟨[(0, s)], [], by simp [shf], .inr (.inl ⟨rfl, rfl⟩)⟩
      · simp only [if_neg hl]
        exact ⟨[], [(0, s)], by simp [shf], .inr (.inr ⟨rfl, rfl, rfl⟩)⟩
    obtain ⟨po, pp, e, c⟩ := h.all R
    refine ⟨po, ?_, ?_⟩
    · show (R.foldl stp (stp (0, [], []) (.part s p l))).2.2 = _
      rw [e]
      rfl
    · rcases c with ⟨c, _⟩ | ⟨c, _⟩ | ⟨c, _⟩
      · exact .inl c
      · exact .inr ⟨s, p, l, rfl, c⟩
      · exact .inl c
/-- one by itself behind -/
theorem out_snoc (R : List Rec) (s : Sgl) : out (R ++ [.part s 0 0]) = out R ++ [(R.length, s)] := by
  unfold out
  rw [scan_append]
  have h := scan_fst R
  generalize scan R = z at *
  obtain ⟨i, pd, o⟩ := z
  have h : i = R.length := h
  subst h
  rfl
/-- the parts of a lot from place k on, n in all -/
def from_ (n k : Nat) : List Sgl → List Rec
  | [] => []
  | s :: r => .part s k (n - 1 - k) :: from_ n (k + 1) r
theorem from_eq (n : Nat) : ∀ (ss : List Sgl) (k : Nat), from_ n k ss = ss.mapIdx fun j s => .part s (k + j) (n - 1 - (k + j)) := by
  intro ss
  induction ss with
  | nil => intro k; rfl
  | cons s r ih =>
    intro k
    rw [List.mapIdx_cons]
    show Rec.part s k (n - 1 - k) :: from_ n (k + 1) r = _
    rw [ih]
    congr 1
    apply List.mapIdx_eq_mapIdx_iff.mpr
    intro i h
    rw [show k + 1 + i = k + (i + 1) by omega]
theorem parts_from (ss : List Sgl) : parts ss = from_ ss.length 0 ss := by
  rw [from_eq]
  unfold parts
  simp
def num (i : Nat) (ss : List Sgl) : Ev := ss.mapIdx fun j s => (i + j, s)
theorem num_cons (i : Nat) (s : Sgl) (r : List Sgl) : num i (s :: r) = (i, s) :: num (i + 1) r := by
  unfold num
  rw [List.mapIdx_cons]
  congr 1
  apply List.mapIdx_eq_mapIdx_iff.mpr
  intro j h
  rw [show i + (j + 1) = i + 1 + j by omega]
theorem num_nil (i : Nat) : num i [] = [] := rfl
theorem num_length (i : Nat) (ss : List Sgl) : (num i ss).length = ss.length := by simp [num]
theorem num_append (ss ts : List Sgl) : ∀ i, num i (ss ++ ts) = num i ss ++ num (i + ss.length) ts := by
  induction ss with
  | nil => intro i; simp [num_nil]
  | cons s r ih =>
    intro i
    rw [List.cons_append, num_cons, num_cons, ih, List.cons_append, List.length_cons, show i + 1 + r.length = i + (r.length + 1) by omega]
/-- what a lot's parts do when they are scanned -/
theorem scan_from (n : Nat) : ∀ (ss : List Sgl) (k i : Nat) (pd o : Ev), ss ≠ [] → k + ss.length ≤ n → (k = 0 ∨ True) →
    (from_ n k ss).foldl stp (i, pd, o) =
      if k + ss.length = n then (i + ss.length, [], o ++ ((if k = 0 then [] else pd) ++ num i ss)) else (i + ss.length, (if k = 0 then [] else pd) ++ num i ss, o) := by
  intro ss
  induction ss with
  | nil => intro k i pd o h; exact absurd rfl h
  | cons s r ih =>
    intro k i pd o _ hk _
    show (from_ n (k + 1) r).foldl stp (stp (i, pd, o) (.part s k (n - 1 - k))) = _
    rw [List.length_cons] at hk ⊢
    cases r with
    | nil =>
      show stp (i, pd, o) (.part s k (n - 1 - k)) = _
      unfold stp
      by_cases h : k + 1 = n
      · rw [if_pos (by simpa using h)]
        simp only [if_pos (show n - 1 - k = 0 by omega)]
        simp [num_cons, num_nil]
      · rw [if_neg (by simpa using h)]
        have hk' : k + 1 ≤ n := by simpa using hk
        simp only [if_neg (show ¬ n - 1 - k = 0 by omega)]
        simp [num_cons, num_nil]
    | cons s2 r2 =>
      have hk2 : k + 1 + (s2 :: r2).length ≤ n := by omega
      have hst : stp (i, pd, o) (.part s k (n - 1 - k)) = (i + 1, (if k = 0 then [] else pd) ++ [(i, s)], o) := by
        unfold stp
        rw [List.length_cons] at hk2
        simp only [if_neg (show ¬ n - 1 - k = 0 by omega)]
      rw [hst, ih (k + 1) (i + 1) _ _ (by simp) hk2 (.inr trivial), num_cons]
      rw [if_neg (show ¬ k + 1 = 0 by omega)]
      have e1 : (k + 1 + (s2 :: r2).length = n) ↔ (k + ((s2 :: r2).length + 1) = n) := by omega
      by_cases h : k + 1 + (s2 :: r2).length = n
      · rw [if_pos h, if_pos (e1.mp h), show i + 1 + (s2 :: r2).length = i + ((s2 :: r2).length + 1) by omega]
        simp [num_cons]
      · rw [if_neg h, if_neg (fun z => h (e1.mpr z)), show i + 1 + (s2 :: r2).length = i + ((s2 :: r2).length + 1) by omega]
        simp [num_cons]
theorem from_take (n : Nat) : ∀ (ss : List Sgl) (k j : Nat), (from_ n k ss).take j = from_ n k (ss.take j) := by
  intro ss
  induction ss with
  | nil => intro k j; simp [from_]
  | cons s r ih =>
    intro k j
    cases j with
    | zero => rfl
    | succ j =>
      show Rec.part s k (n - 1 - k) :: (from_ n (k + 1) r).take j = _
      rw [ih]
      rfl
theorem from_length (n : Nat) : ∀ (ss : List Sgl) (k : Nat), (from_ n k ss).length = ss.length := by
  intro ss
  induction ss with
  | nil => intro k; rfl
  | cons s r ih => intro k; show _ + 1 = _ + 1; rw [ih]
theorem parts_length (ss : List Sgl) : (parts ss).length = ss.length := by simp [parts]
/-- a lot not yet closed does nothing -/
theorem out_some (R : List Rec) (ss : List Sgl) (j : Nat) (hj : j < ss.length) : out (R ++ (parts ss).take j) = out R := by
  unfold out
  rw [scan_append, parts_from, from_take]
  cases j with
  | zero => simp [from_]
  | succ j =>
    generalize scan R = z
    obtain ⟨i, pd, o⟩ := z
    have hne : ss.take (j + 1) ≠ [] := by
      intro z
      have := congrArg List.length z
      rw [List.length_take] at this
      simp at this
      subst this
      simp at hj
    rw [scan_from _ _ _ _ _ _ hne (by rw [List.length_take]; omega) (.inl rfl)]
    rw [if_neg (by rw [List.length_take]; omega)]
/-- a lot closed does all its parts -/
theorem out_all (R : List Rec) (ss : List Sgl) (h : ss ≠ []) : out (R ++ parts ss) = out R ++ num R.length ss := by
  unfold out
  rw [scan_append, parts_from]
  have hf := scan_fst R
  generalize scan R = z at *
  obtain ⟨i, pd, o⟩ := z
  have hf : i = R.length := hf
  subst hf
  rw [scan_from _ _ _ _ _ _ h (by omega) (.inl rfl)]
  rw [if_pos (by omega)]
  simp

/-! ### where what is done stands in the row -/
theorem scan_at (rs : List Rec) : (∀ e ∈ (scan rs).2.1, ∃ p l, rs[e.1]? = some (.part e.2 p l)) ∧ (∀ e ∈ (scan rs).2.2, ∃ p l, rs[e.1]? = some (.part e.2 p l)) := by
  have h : ∀ n, n ≤ rs.length → (∀ e ∈ (scan (rs.take n)).2.1, ∃ p l, rs[e.1]? = some (.part e.2 p l)) ∧ (∀ e ∈ (scan (rs.take n)).2.2, ∃ p l, rs[e.1]? = some (.part e.2 p l)) := by
    intro n
    induction n with
    | zero => intro _; simp [scan]
    | succ n ih =>
      intro hn
      obtain ⟨h1, h2⟩ := ih (by omega)
      have hx : rs[n]? = some rs[n] := List.getElem?_eq_getElem (by omega)
      rw [List.take_add_one, hx]
      show (∀ e ∈ (scan (rs.take n ++ [rs[n]])).2.1, _) ∧ (∀ e ∈ (scan (rs.take n ++ [rs[n]])).2.2, _)
      rw [scan_append]
      have hf := scan_fst (rs.take n)
      rw [List.length_take, Nat.min_eq_left (by omega)] at hf
      generalize scan (rs.take n) = z at *
      obtain ⟨i, pd, o⟩ := z
      have hf : i = n := hf
      subst hf
      generalize hr : rs[i] = r at *
      cases r with
      | blank => exact ⟨by simp [stp], h2⟩
      | part s p l =>
        show (∀ e ∈ (stp (i, pd, o) (.part s p l)).2.1, _) ∧ (∀ e ∈ (stp (i, pd, o) (.part s p l)).2.2, _)
        have h3 : ∀ e ∈ (if p = 0 then [] else pd) ++ [(i, s)], ∃ p l, rs[e.1]? = some (.part e.2 p l) := by
          intro e he
          rcases List.mem_append.mp he with he | he
          · split at he
            · simp at he
            · exact h1 e he
          · have : e = (i, s) := by simpa using he
            subst this
            exact ⟨p, l, hx⟩
        unfold stp
        by_cases hl : l = 0
        · simp only [if_pos hl]
          refine ⟨by simp, fun e he => ?_⟩
          rcases List.mem_append.mp he with he | he
          · exact h2 e he
          · exact h3 e he
        · simp only [if_neg hl]
          exact ⟨h3, h2⟩
  have := h rs.length (Nat.le_refl _)
  rwa [List.take_length] at this
theorem out_at {rs : List Rec} {e : Nat × Sgl} (h : e ∈ out rs) : ∃ p l, rs[e.1]? = some (.part e.2 p l) := (scan_at rs).2 e h

/-! ### the last doing on a key -/
def lastOf (k : Str) (o : Ev) : Option (Nat × Sgl) := (o.filter fun e => decide (e.2.key = k)).getLast?
def val : Nat × Sgl → Option (Nat × Str)
  | (n, .put _ w) => some (n, w)
  | (_, .drop _) => none
def F (o : Ev) (k : Str) : Option (Nat × Str) := (lastOf k o).bind val
theorem lastOf_append (k : Str) (a b : Ev) : lastOf k (a ++ b) = (lastOf k b).or (lastOf k a) := by
  unfold lastOf
  rw [List.filter_append, List.getLast?_append]
theorem lastOf_one (k : Str) (e : Nat × Sgl) : lastOf k [e] = if e.2.key = k then some e else none := by
  unfold lastOf
  by_cases h : e.2.key = k <;> simp [h]
theorem lastOf_nil (k : Str) : lastOf k [] = none := rfl
theorem lastOf_shf (k : Str) (o : Ev) : lastOf k (shf o) = (lastOf k o).map fun e => (e.1 + 1, e.2) := by
  unfold lastOf shf
  rw [List.filter_map, List.getLast?_map]
  rfl
theorem lastOf_mem {k : Str} {o : Ev} {e : Nat × Sgl} (h : lastOf k o = some e) : e ∈ o ∧ e.2.key = k := by
  unfold lastOf at h
  have := List.mem_of_getLast? h
  simpa using List.mem_filter.mp this
theorem F_some {o : Ev} {k : Str} {n : Nat} {w : Str} (h : F o k = some (n, w)) : (n, Sgl.put k w) ∈ o := by
  unfold F at h
  cases e : lastOf k o with
  | none => rw [e] at h; cases h
  | some q =>
    rw [e] at h
    obtain ⟨hm, hk⟩ := lastOf_mem e
    obtain ⟨m, s⟩ := q
    cases s with
    | drop k' => cases h
    | put k' w' =>
      have h' : some (m, w') = some (n, w) := h
      cases h'
      have hk : k' = k := hk
      subst hk
      exact hm
theorem F_append (a b : Ev) (k : Str) : F (a ++ b) k = ((lastOf k b).map val).getD (F a k) := by
  unfold F
  rw [lastOf_append]
  cases lastOf k b <;> rfl
theorem F_one (e : Nat × Sgl) (k : Str) : F [e] k = if e.2.key = k then val e else none := by
  unfold F
  rw [lastOf_one]
  split <;> rfl
def up (v : Option (Nat × Str)) : Option (Nat × Str) := v.map fun q => (q.1 + 1, q.2)
theorem F_shf (o : Ev) (k : Str) : F (shf o) k = up (F o k) := by
  unfold F up
  rw [lastOf_shf]
  cases lastOf k o with
  | none => rfl
  | some e => obtain ⟨n, s⟩ := e; cases s <;> rfl
/-- the words of a row -/
def wd (o : Ev) (k : Str) : Option Str := (F o k).map (·.2)

/-! ### the table, the last words -/
def D (o : Ev) : List (Str × Option (Nat × Str)) := o.foldl (fun d e => dput d e.2.key (val e)) []
theorem dlook_D (k : Str) (o : Ev) : ∀ d : List (Str × Option (Nat × Str)), dlook (o.foldl (fun d e => dput d e.2.key (val e)) d) k = ((lastOf k o).map val).or (dlook d k) := by
  induction o with
  | nil => intro d; rfl
  | cons e r ih =>
    intro d
    rw [List.foldl_cons, ih, dlook_put]
    have : e :: r = [e] ++ r := rfl
    rw [this, lastOf_append, lastOf_one]
    by_cases h : e.2.key = k
    · rw [if_pos h, if_pos h.symm]
      cases lastOf k r <;> rfl
    · rw [if_neg h, if_neg (Ne.symm h)]
      cases lastOf k r <;> rfl
theorem D_look (o : Ev) (k : Str) : dlook (D o) k = (lastOf k o).map val := by
  unfold D
  rw [dlook_D, dlook_nil, Option.or_none]
theorem nk_D' (o : Ev) : ∀ d : List (Str × Option (Nat × Str)), Nk d → Nk (o.foldl (fun d e => dput d e.2.key (val e)) d) := by
  induction o with
  | nil => intro d h; exact h
  | cons e r ih => intro d h; exact ih _ (nk_put h _ _)
theorem nk_D (o : Ev) : Nk (D o) := nk_D' o [] nk_nil
/-- the pairs of a dict whose value is there -/
def kept {α β : Type} (f : Str → α → β) (d : List (Str × Option α)) : List β := d.filterMap fun e => e.2.map fun v => f e.1 v
theorem mem_kept {α β : Type} {f : Str → α → β} {d : List (Str × Option α)} (h : Nk d) {x : β} : x ∈ kept f d ↔ ∃ k v, dlook d k = some (some v) ∧ f k v = x := by
  unfold kept
  rw [List.mem_filterMap]
  constructor
  · rintro ⟨⟨k, v⟩, hm, e⟩
    cases v with
    | none => cases e
    | some v => exact ⟨k, v, (look_mem h k (some v)).mp hm, Option.some.inj e⟩
  · rintro ⟨k, v, e, rfl⟩
    exact ⟨(k, some v), (look_mem h k (some v)).mpr e, rfl⟩
theorem kept_keys {α β : Type} {f : Str → α → β} (g : β → Str) (hg : ∀ k v, g (f k v) = k) (d : List (Str × Option α)) : ((kept f d).map g).Sublist (d.map (·.1)) := by
  unfold kept
  induction d with
  | nil => exact .slnil
  | cons e r ih =>
    obtain ⟨k, v⟩ := e
    cases v with
    | none => exact .cons _ ih
    | some v =>
      rw [List.filterMap_cons]
      simp only [Option.map_some, List.map_cons, hg]
      exact ih.cons_cons _
theorem nodup_of_map {α β : Type} (f : α → β) : ∀ {l : List α}, (l.map f).Nodup → l.Nodup
  | [], _ => List.nodup_nil
  | x :: r, h => by
    rw [List.map_cons, List.nodup_cons] at h
    exact List.nodup_cons.mpr ⟨fun z => h.1 (List.mem_map_of_mem z), nodup_of_map f h.2⟩
theorem kept_nodup {α β : Type} {f : Str → α → β} (g : β → Str) (hg : ∀ k v, g (f k v) = k) {d : List (Str × Option α)} (h : Nk d) : (kept f d).Nodup := by
  have h2 : ((kept f d).map g).Nodup := List.Nodup.sublist (kept_keys g hg d) h
  exact nodup_of_map g h2
def tab (o : Ev) : List (Str × Str) := isort leKW (kept (fun k v => (k, v.2)) (D o))
def lst (o : Ev) : List (Nat × Str) := isort leNK (kept (fun k v => (v.1, k)) (D o))
theorem D_some {o : Ev} {k : Str} {v : Nat × Str} : dlook (D o) k = some (some v) ↔ F o k = some v := by
  rw [D_look]
  unfold F
  cases lastOf k o with
  | none => simp
  | some e => simp
theorem mem_tab {o : Ev} {k w : Str} : (k, w) ∈ tab o ↔ wd o k = some w := by
  unfold tab wd
  rw [(isort_perm _).mem_iff, mem_kept (nk_D o)]
  constructor
  · rintro ⟨k', v, h, e⟩
    cases e
    rw [D_some.mp h]
    rfl
  · intro h
    cases e : F o k with
    | none => rw [e] at h; cases h
    | some v =>
      rw [e] at h
      exact ⟨k, v, D_some.mpr e, by rw [← Option.some.inj h]⟩
theorem mem_lst {o : Ev} {k : Str} {n : Nat} : (n, k) ∈ lst o ↔ ∃ w, F o k = some (n, w) := by
  unfold lst
  rw [(isort_perm _).mem_iff, mem_kept (nk_D o)]
  constructor
  · rintro ⟨k', v, h, e⟩
    obtain ⟨a, b⟩ := v
    cases e
    exact ⟨b, D_some.mp h⟩
  · rintro ⟨w, h⟩
    exact ⟨k, (n, w), D_some.mpr h, rfl⟩
theorem tab_sorted (o : Ev) : (tab o).Pairwise fun a b => leKW a b = true := isort_sorted leKW_total leKW_trans _
theorem lst_sorted (o : Ev) : (lst o).Pairwise fun a b => leNK a b = true := isort_sorted leNK_total leNK_trans _
theorem tab_nk (o : Ev) : Nk (tab o) := by
  unfold Nk tab
  have h : ((kept (fun (k : Str) (v : Nat × Str) => (k, v.2)) (D o)).map (·.1)).Nodup := List.Nodup.sublist (kept_keys (fun (e : Str × Str) => e.1) (fun _ _ => rfl) _) (nk_D o)
  exact ((isort_perm _).map _).nodup_iff.mpr h
theorem tab_nodup (o : Ev) : (tab o).Nodup := nodup_of_map _ (tab_nk o)
theorem tab_ext {o o' : Ev} (h : ∀ k, wd o k = wd o' k) : tab o = tab o' :=
  sorted_ext leKW_antisymm _ _ (tab_sorted o) (tab_sorted o') (tab_nodup o) (tab_nodup o') fun x => by
    obtain ⟨k, w⟩ := x
    rw [mem_tab, mem_tab, h]
theorem lst_keys_nodup (o : Ev) : ((lst o).map (·.2)).Nodup := by
  unfold lst
  have h : ((kept (fun (k : Str) (v : Nat × Str) => (v.1, k)) (D o)).map (·.2)).Nodup := List.Nodup.sublist (kept_keys (fun (e : Nat × Str) => e.2) (fun _ _ => rfl) _) (nk_D o)
  exact ((isort_perm _).map _).nodup_iff.mpr h
theorem lst_head {o : Ev} {x : Nat} {k : Str} {r : List (Nat × Str)} (h : lst o = (x, k) :: r) : (∃ w, F o k = some (x, w)) ∧ ∀ k' n w, F o k' = some (n, w) → x ≤ n := by
  refine ⟨mem_lst.mp (h ▸ List.mem_cons_self), fun k' n w hf => ?_⟩
  have hm : (n, k') ∈ lst o := mem_lst.mpr ⟨w, hf⟩
  have hs := lst_sorted o
  rw [h] at hm hs
  rcases List.mem_cons.mp hm with e | hm
  · cases e; exact Nat.le_refl _
  · have := (List.pairwise_cons.mp hs).1 _ hm
    unfold leNK at this
    split at this
    · rename_i e
      exact Nat.le_of_eq e
    · simp only [decide_eq_true_eq] at this
      exact Nat.le_of_lt this

/-! ### a table behind singles -/
def behind (T : List (Str × Str)) (ss : List Sgl) : List (Str × Str) :=
  isort leKW (ss.foldl (fun d s => match s with | .put k w => dput d k w | .drop k => ddrop d k) T)
def wordOf : Sgl → Option Str
  | .put _ w => some w
  | .drop _ => none
def doneD (T : List (Str × Str)) (ss : List Sgl) : List (Str × Option Str) := ss.foldl (fun d s => dput d s.key (wordOf s)) (T.map fun e => (e.1, some e.2))
def done (T : List (Str × Str)) (ss : List Sgl) : List (Str × Str) := isort leKW (kept (fun k v => (k, v)) (doneD T ss))
/-- the word of a key behind singles -/
def aft (f : Str → Option Str) (ss : List Sgl) (k : Str) : Option Str := ss.foldl (fun v s => if s.key = k then wordOf s else v) (f k)
theorem behind_look (ss : List Sgl) (k : Str) : ∀ d : List (Str × Str), dlook (ss.foldl (fun d s => match s with | .put k w => dput d k w | .drop k => ddrop d k) d) k = ss.foldl (fun v s => if s.key = k then wordOf s else v) (dlook d k) := by
  induction ss with
  | nil => intro d; rfl
  | cons s r ih =>
    intro d
    rw [List.foldl_cons, List.foldl_cons, ih]
    congr 1
    cases s with
    | put k' w =>
      show dlook (dput d k' w) k = if k' = k then some w else _
      rw [dlook_put]
      by_cases h : k' = k
      · rw [if_pos h, if_pos h.symm]
      · rw [if_neg h, if_neg (Ne.symm h)]
    | drop k' =>
      show dlook (ddrop d k') k = if k' = k then none else _
      rw [dlook_drop]
      by_cases h : k' = k
      · rw [if_pos h, if_pos h.symm]
      · rw [if_neg h, if_neg (Ne.symm h)]
theorem behind_nk (ss : List Sgl) : ∀ d : List (Str × Str), Nk d → Nk (ss.foldl (fun d s => match s with | .put k w => dput d k w | .drop k => ddrop d k) d) := by
  induction ss with
  | nil => intro d h; exact h
  | cons s r ih =>
    intro d h
    refine ih _ ?_
    cases s with
    | put k w => exact nk_put h _ _
    | drop k => exact nk_drop h _
theorem doneD_look (ss : List Sgl) (k : Str) : ∀ d : List (Str × Option Str), (dlook (ss.foldl (fun d s => dput d s.key (wordOf s)) d) k).join = ss.foldl (fun v s => if s.key = k then wordOf s else v) (dlook d k).join := by
  induction ss with
  | nil => intro d; rfl
  | cons s r ih =>
    intro d
    rw [List.foldl_cons, List.foldl_cons, ih]
    congr 1
    rw [dlook_put]
    by_cases h : s.key = k
    · rw [if_pos h, if_pos h.symm]; rfl
    · rw [if_neg h, if_neg (Ne.symm h)]
theorem doneD_nk (ss : List Sgl) : ∀ d : List (Str × Option Str), Nk d → Nk (ss.foldl (fun d s => dput d s.key (wordOf s)) d) := by
  induction ss with
  | nil => intro d h; exact h
  | cons s r ih => intro d h; exact ih _ (nk_put h _ _)
theorem somes_nk {T : List (Str × Str)} (h : Nk T) : Nk (T.map fun e => (e.1, some e.2)) := by
  unfold Nk at *
  rw [List.map_map]
  exact h
theorem somes_look (T : List (Str × Str)) (k : Str) : (dlook (T.map fun e => (e.1, some e.2)) k).join = dlook T k := by
  induction T with
  | nil => rfl
  | cons e r ih =>
    rw [List.map_cons, dlook_cons, dlook_cons]
    by_cases h : e.1 = k
    · rw [if_pos h, if_pos h]; rfl
    · rw [if_neg h, if_neg h]; exact ih
theorem mem_done {T : List (Str × Str)} (h : Nk T) {ss : List Sgl} {k w : Str} : (k, w) ∈ done T ss ↔ aft (dlook T) ss k = some w := by
  unfold done doneD
  rw [(isort_perm _).mem_iff, mem_kept (doneD_nk ss _ (somes_nk h))]
  unfold aft
  rw [← somes_look, ← doneD_look]
  constructor
  · rintro ⟨k', v, e, e2⟩
    cases e2
    rw [e]; rfl
  · intro e
    cases q : dlook (ss.foldl (fun d s => dput d s.key (wordOf s)) (T.map fun e => (e.1, some e.2))) k with
    | none => rw [q] at e; cases e
    | some v =>
      rw [q] at e
      have e : v = some w := e
      subst e
      exact ⟨k, w, q, rfl⟩
theorem mem_behind {T : List (Str × Str)} (h : Nk T) {ss : List Sgl} {k w : Str} : (k, w) ∈ behind T ss ↔ aft (dlook T) ss k = some w := by
  unfold behind
  rw [(isort_perm _).mem_iff, look_mem (behind_nk ss _ h), behind_look]
  rfl
theorem done_sorted (T : List (Str × Str)) (ss : List Sgl) : (done T ss).Pairwise fun a b => leKW a b = true := isort_sorted leKW_total leKW_trans _
theorem done_nodup {T : List (Str × Str)} (h : Nk T) (ss : List Sgl) : (done T ss).Nodup :=
  (isort_perm _).nodup_iff.mpr (kept_nodup (·.1) (fun _ _ => rfl) (doneD_nk ss _ (somes_nk h)))
theorem behind_done {T : List (Str × Str)} (h : Nk T) (ss : List Sgl) : behind T ss = done T ss :=
  sorted_ext leKW_antisymm _ _ (isort_sorted leKW_total leKW_trans _) (done_sorted T ss)
    ((isort_perm _).nodup_iff.mpr (nodup_of_map _ (behind_nk ss _ h))) (done_nodup h ss) fun x => by
    obtain ⟨k, w⟩ := x
    rw [mem_behind h, mem_done h]
theorem tab_look (o : Ev) (k : Str) : dlook (tab o) k = wd o k := by
  cases e : dlook (tab o) k with
  | none =>
    cases q : wd o k with
    | none => rfl
    | some w =>
      have := (look_mem (tab_nk o) k w).mp (mem_tab.mpr q)
      rw [e] at this; cases this
  | some w => exact (mem_tab.mp ((look_mem (tab_nk o) k w).mpr e)).symm
/-- what singles numbered behind a row do -/
theorem wd_num (ss : List Sgl) (k : Str) : ∀ (o : Ev) (i : Nat), wd (o ++ num i ss) k = aft (wd o) ss k := by
  induction ss with
  | nil => intro o i; rw [num_nil, List.append_nil]; rfl
  | cons s r ih =>
    intro o i
    have e : o ++ num i (s :: r) = (o ++ [(i, s)]) ++ num (i + 1) r := by rw [num_cons]; simp
    rw [e, ih]
    unfold aft
    rw [List.foldl_cons]
    congr 1
    unfold wd
    rw [F_append, lastOf_one]
    by_cases h : s.key = k
    · rw [if_pos h, if_pos h]
      cases s <;> rfl
    · rw [if_neg h, if_neg h]
      rfl
theorem tab_num (o : Ev) (i : Nat) (ss : List Sgl) : tab (o ++ num i ss) = done (tab o) ss :=
  sorted_ext leKW_antisymm _ _ (tab_sorted _) (done_sorted _ ss) (tab_nodup _) (done_nodup (tab_nk o) ss) fun x => by
    obtain ⟨k, w⟩ := x
    rw [mem_tab, mem_done (tab_nk o), wd_num]
    unfold aft
    rw [tab_look]
end HR
end
section
set_option autoImplicit false
namespace HR
open PySem (Str PyData)

/-! ### unbroken rows -/
theorem unb_tail {a : Rec} {r : List Rec} (h : unb (a :: r) = true) : unb r = true := by
  cases r with
  | nil => rfl
  | cons b r =>
    unfold unb at h
    exact (Bool.and_eq_true_iff.mp h).2
theorem unb_drop (j : Nat) : ∀ {rs : List Rec}, unb rs = true → unb (rs.drop j) = true := by
  induction j with
  | zero => intro rs h; exact h
  | succ j ih =>
    intro rs h
    cases rs with
    | nil => rfl
    | cons a r => exact ih (unb_tail h)
theorem unb_at : ∀ {rs : List Rec} {i : Nat} {a b : Rec}, unb rs = true → rs[i]? = some a → rs[i + 1]? = some b → fol a b = true
  | [], i, a, b, _, h, _ => by simp at h
  | [x], i, a, b, _, _, h => by simp at h
  | x :: y :: r, 0, a, b, u, h1, h2 => by
    unfold unb at u
    simp at h1 h2
    subst h1 h2
    exact (Bool.and_eq_true_iff.mp u).1
  | x :: y :: r, i + 1, a, b, u, h1, h2 => unb_at (rs := y :: r) (i := i) (unb_tail u) h1 h2
theorem unb_snoc : ∀ {rs : List Rec} {b : Rec}, unb rs = true → (∀ a, rs.getLast? = some a → fol a b = true) → unb (rs ++ [b]) = true
  | [], b, _, _ => rfl
  | [x], b, _, h => by
    show (fol x b && true) = true
    rw [h x rfl]; rfl
  | x :: y :: r, b, u, h => by
    unfold unb at u
    obtain ⟨u1, u2⟩ := Bool.and_eq_true_iff.mp u
    show (fol x y && unb (y :: r ++ [b])) = true
    rw [u1, unb_snoc u2 (fun a ha => h a (by rw [List.getLast?_cons_cons]; exact ha))]
    rfl
theorem fol_zero (a : Rec) (s : Sgl) (l : Nat) : fol a (.part s 0 l) = true := by cases a <;> simp [fol]
theorem unb_snoc0 {rs : List Rec} (h : unb rs = true) (s : Sgl) (l : Nat) : unb (rs ++ [.part s 0 l]) = true := unb_snoc h fun a _ => fol_zero a s l
theorem unb_from (n : Nat) : ∀ (ss : List Sgl) (k : Nat) (rs : List Rec), unb rs = true → k + ss.length ≤ n → (k = 0 ∨ ∃ s, rs.getLast? = some (.part s (k - 1) (n - 1 - (k - 1)))) → unb (rs ++ from_ n k ss) = true := by
  intro ss
  induction ss with
  | nil => intro k rs h _ _; show unb (rs ++ []) = true; rw [List.append_nil]; exact h
  | cons s r ih =>
    intro k rs h hk hl
    rw [List.length_cons] at hk
    have e : rs ++ from_ n k (s :: r) = (rs ++ [.part s k (n - 1 - k)]) ++ from_ n (k + 1) r := by
      show rs ++ (Rec.part s k (n - 1 - k) :: from_ n (k + 1) r) = _
      simp
    rw [e]
    refine ih (k + 1) _ ?_ (by omega) (.inr ⟨s, by simp⟩)
    rcases hl with rfl | ⟨s', hl⟩
    · exact unb_snoc0 h s _
    · refine unb_snoc h fun a ha => ?_
      rw [hl] at ha
      cases ha
      by_cases hk0 : k = 0
      · subst hk0; exact fol_zero _ _ _
      · simp [fol, isPart]
        omega
theorem unb_parts {rs : List Rec} (h : unb rs = true) (ss : List Sgl) (j : Nat) : unb (rs ++ (parts ss).take j) = true := by
  rw [parts_from, from_take]
  exact unb_from _ _ 0 rs h (by rw [List.length_take]; omega) (.inl rfl)
theorem unb_back {rs : List Rec} (u : unb rs = true) {s : Sgl} {p l i : Nat} (h : rs[i]? = some (.part s p l)) : ∀ k, k ≤ min p i → ∃ s', rs[i - k]? = some (.part s' (p - k) (l + k)) := by
  intro k
  induction k with
  | zero => intro _; exact ⟨s, h⟩
  | succ k ih =>
    intro hk
    obtain ⟨s', h'⟩ := ih (by omega)
    have hi : i < rs.length := (List.getElem?_eq_some_iff.mp h).1
    have hx : rs[i - (k + 1)]? = some rs[i - (k + 1)] := List.getElem?_eq_getElem (by omega)
    have hf := unb_at u hx (b := .part s' (p - k) (l + k)) (by rw [show i - (k + 1) + 1 = i - k by omega]; exact h')
    rw [hx]
    generalize rs[i - (k + 1)] = a at hf
    cases a with
    | blank =>
      simp only [fol, isPart, Bool.or_false, decide_eq_true_eq] at hf
      omega
    | part s2 p2 l2 =>
      simp only [fol, isPart, Bool.or_eq_true, Bool.and_eq_true, decide_eq_true_eq] at hf
      rcases hf with hf | ⟨h1, h2⟩
      · omega
      · refine ⟨s2, ?_⟩
        rw [h1, h2]
        congr 2

/-! ### what closes, by places -/
def cntO (i : Nat) : Option Rec → Nat
  | some (.part _ p 0) => min p i + 1
  | _ => 0
def cnt (rs : List Rec) (i : Nat) : Nat := cntO i rs[i]?
def segR (rs : List Rec) (i m : Nat) : List Rec := (rs.take (i + 1)).drop (i + 1 - m)
def seg (rs : List Rec) (i m : Nat) : List Sgl := (segR rs i m).filterMap Rec.sgl?
def closers (rs : List Rec) : List (Nat × List Sgl) := (List.range rs.length).filterMap fun i => if 0 < cnt rs i then some (i, seg rs i (cnt rs i)) else none
def flat (cs : List (Nat × List Sgl)) : Ev := cs.flatMap fun c => num (c.1 + 1 - c.2.length) c.2
theorem segR_get {rs : List Rec} {i m t : Nat} (hm : m ≤ i + 1) (ht : t < m) : (segR rs i m)[t]? = rs[i + 1 - m + t]? := by
  unfold segR
  rw [List.getElem?_drop, List.getElem?_take, if_pos (by omega)]
theorem segR_length {rs : List Rec} {i m : Nat} (hm : m ≤ i + 1) (hi : i < rs.length) : (segR rs i m).length = m := by
  unfold segR
  rw [List.length_drop, List.length_take]
  omega
theorem segR_parts {rs : List Rec} (u : unb rs = true) {s : Sgl} {p l i m : Nat} (h : rs[i]? = some (.part s p l)) (hm : m ≤ min p i + 1) : ∀ r ∈ segR rs i m, ∃ s p l, r = Rec.part s p l := by
  intro r hr
  obtain ⟨t, ht⟩ := List.getElem?_of_mem hr
  have hi : i < rs.length := (List.getElem?_eq_some_iff.mp h).1
  have hlt : t < m := by
    have := (List.getElem?_eq_some_iff.mp ht).1
    rwa [segR_length (by omega) hi] at this
  rw [segR_get (by omega) hlt] at ht
  obtain ⟨s', h'⟩ := unb_back u h (m - 1 - t) (by omega)
  rw [show i - (m - 1 - t) = i + 1 - m + t by omega] at h'
  rw [h'] at ht
  exact ⟨s', _, _, (Option.some.inj ht).symm⟩
theorem sgl_length : ∀ {l : List Rec}, (∀ r ∈ l, ∃ s p q, r = Rec.part s p q) → (l.filterMap Rec.sgl?).length = l.length
  | [], _ => rfl
  | r :: l, h => by
    obtain ⟨s, p, q, rfl⟩ := h r List.mem_cons_self
    show (l.filterMap Rec.sgl?).length + 1 = l.length + 1
    rw [sgl_length fun r hr => h r (List.mem_cons_of_mem _ hr)]
theorem seg_length {rs : List Rec} (u : unb rs = true) {s : Sgl} {p l i m : Nat} (h : rs[i]? = some (.part s p l)) (hm : m ≤ min p i + 1) : (seg rs i m).length = m := by
  unfold seg
  rw [sgl_length (segR_parts u h hm), segR_length (by omega) (List.getElem?_eq_some_iff.mp h).1]
theorem segR_succ {rs : List Rec} {i m : Nat} {r : Rec} (h : rs[i]? = some r) (hm : m ≤ i) : segR rs i (m + 1) = (rs.take i).drop (i - m) ++ [r] := by
  unfold segR
  rw [List.take_add_one, h, List.drop_append_of_le_length]
  · rw [show i + 1 - (m + 1) = i - m by omega]; rfl
  · rw [List.length_take]
    have := (List.getElem?_eq_some_iff.mp h).1
    omega
/-- what is begun ahead of place j -/
def pdgO (rs : List Rec) (j : Nat) : Option Rec → Ev
  | some (.part _ p (_ + 1)) => num (j - min p j) (seg rs j (min p j + 1))
  | _ => []
def pdg (rs : List Rec) : Nat → Ev
  | 0 => []
  | j + 1 => pdgO rs j rs[j]?
theorem pend_at {rs : List Rec} (u : unb rs = true) {s : Sgl} {p l j : Nat} (h : rs[j]? = some (.part s p l)) : (if p = 0 then [] else pdg rs j) ++ [(j, s)] = num (j - min p j) (seg rs j (min p j + 1)) := by
  have hs : seg rs j (min p j + 1) = ((rs.take j).drop (j - min p j)).filterMap Rec.sgl? ++ [s] := by
    unfold seg
    rw [segR_succ h (by omega), List.filterMap_append]
    rfl
  by_cases hp : p = 0
  · subst hp
    rw [if_pos rfl, hs]
    have : (rs.take j).drop (j - min 0 j) = [] := by
      rw [List.drop_eq_nil_iff, List.length_take]; omega
    rw [this]
    simp [num]
  · rw [if_neg hp]
    cases j with
    | zero =>
      rw [hs]
      simp [pdg, num]
    | succ j =>
      obtain ⟨s', h'⟩ := unb_back u h 1 (by omega)
      rw [show j + 1 - 1 = j by omega] at h'
      have hpd : pdg rs (j + 1) = num (j - min (p - 1) j) (seg rs j (min (p - 1) j + 1)) := by
        show pdgO rs j rs[j]? = _
        rw [h']
        rfl
      have e1 : seg rs j (min (p - 1) j + 1) = ((rs.take (j + 1)).drop (j + 1 - min p (j + 1))).filterMap Rec.sgl? := by
        unfold seg segR
        rw [show j + 1 - (min (p - 1) j + 1) = j + 1 - min p (j + 1) by omega]
      have hl := seg_length u h' (m := min (p - 1) j + 1) (by omega)
      rw [hpd, hs, num_append, e1] at *
      rw [show j - min (p - 1) j = j + 1 - min p (j + 1) by omega]
      congr 1
      rw [hl, num_cons, num_nil]
      rw [show j + 1 - min p (j + 1) + (min (p - 1) j + 1) = j + 1 by omega]
theorem flat_closers {rs : List Rec} (u : unb rs = true) : flat (closers rs) = out rs := by
  have h : ∀ j, j ≤ rs.length → flat ((List.range j).filterMap fun i => if 0 < cnt rs i then some (i, seg rs i (cnt rs i)) else none) = (scan (rs.take j)).2.2 ∧ (scan (rs.take j)).2.1 = pdg rs j := by
    intro j
    induction j with
    | zero => intro _; exact ⟨rfl, rfl⟩
    | succ j ih =>
      intro hj
      obtain ⟨h1, h2⟩ := ih (by omega)
      have hx : rs[j]? = some rs[j] := List.getElem?_eq_getElem (by omega)
      have hf := scan_fst (rs.take j)
      rw [List.length_take, Nat.min_eq_left (by omega)] at hf
      rw [List.range_succ, List.filterMap_append, List.take_add_one, hx]
      show flat (_ ++ _) = (scan (rs.take j ++ [rs[j]])).2.2 ∧ (scan (rs.take j ++ [rs[j]])).2.1 = _
      rw [scan_append]
      have fa : ∀ a b, flat (a ++ b) = flat a ++ flat b := fun a b => List.flatMap_append
      rw [fa, h1]
      generalize scan (rs.take j) = z at *
      obtain ⟨i, pd, o⟩ := z
      have hf : i = j := hf
      subst hf
      have h2 : pd = pdg rs i := h2
      generalize hr : rs[i] = r at *
      have hcnt : cnt rs i = cntO i (some r) := congrArg (cntO i) hx
      have hpdg : pdg rs (i + 1) = pdgO rs i (some r) := congrArg (pdgO rs i) hx
      cases r with
      | blank =>
        have hc : cnt rs i = 0 := hcnt
        refine ⟨?_, ?_⟩
        · simp [hc, flat, stp]
        · show [] = pdg rs (i + 1)
          rw [hpdg]; rfl
      | part s p l =>
        have hp := pend_at u hx
        rw [← h2] at hp
        cases l with
        | zero =>
          have hc : cnt rs i = min p i + 1 := hcnt
          have hl := seg_length u hx (m := min p i + 1) (by omega)
          refine ⟨?_, ?_⟩
          · show _ = o ++ ((if p = 0 then [] else pd) ++ [(i, s)])
            rw [hp]
            simp only [List.filterMap_cons, List.filterMap_nil, hc, if_pos (show 0 < min p i + 1 by omega), flat, List.flatMap_cons, List.flatMap_nil, List.append_nil]
            rw [hl, show i + 1 - (min p i + 1) = i - min p i by omega]
          · show [] = pdg rs (i + 1)
            rw [hpdg]; rfl
        | succ l =>
          have hc : cnt rs i = 0 := hcnt
          refine ⟨?_, ?_⟩
          · simp [hc, flat, stp]
          · show (if p = 0 then [] else pd) ++ [(i, s)] = pdg rs (i + 1)
            rw [hp, hpdg]; rfl
  have := (h rs.length (Nat.le_refl _)).1
  rwa [List.take_length] at this

/-! ### one record leaves -/
theorem F_tail {h : Rec} {T : List Rec} {k : Str} (hk : ∀ w, F (out (h :: T)) k ≠ some (0, w)) : F (out (h :: T)) k = up (F (out T) k) := by
  obtain ⟨po, e, c⟩ := out_cons h T
  have hF : F (out (h :: T)) k = ((lastOf k (shf (out T))).map val).getD (F po k) := by rw [e, F_append]
  have hS := F_shf (out T) k
  have hS2 : F (shf (out T)) k = (lastOf k (shf (out T))).bind val := rfl
  rw [hS2] at hS
  cases q : lastOf k (shf (out T)) with
  | some z =>
    rw [q] at hS hF
    exact hF.trans hS
  | none =>
    rw [q] at hS hF
    have hS : none = up (F (out T) k) := hS
    have hF : F (out (h :: T)) k = F po k := hF
    rw [← hS, hF]
    rcases c with rfl | ⟨s, p, l, rfl, rfl⟩
    · rfl
    · rw [F_one] at hF ⊢
      by_cases hh : s.key = k
      · rw [if_pos hh] at hF ⊢
        cases s with
        | drop k' => rfl
        | put k' w => exact absurd hF (hk w)
      · rw [if_neg hh]
theorem up_snd (v : Option (Nat × Str)) : (up v).map (·.2) = v.map (·.2) := by cases v <;> rfl
/-- the first records leave, no last word among them -/
theorem F_drop (j : Nat) : ∀ {now : List Rec}, (∀ k n w, F (out now) k = some (n, w) → j ≤ n) → ∀ k, wd (out (now.drop j)) k = wd (out now) k := by
  induction j with
  | zero => intro now _ k; rfl
  | succ j ih =>
    intro now h k
    cases now with
    | nil => rfl
    | cons a T =>
      have ht : ∀ k, F (out (a :: T)) k = up (F (out T) k) := fun k => F_tail fun w e => by
        have := h k 0 w e
        omega
      show wd (out (T.drop j)) k = _
      rw [ih (now := T) (fun k n w e => by
        have := h k (n + 1) w (by rw [ht, e]; rfl)
        omega) k]
      unfold wd
      rw [ht, up_snd]

/-! ### carrying -/
def asPut : Rec → Rec
  | .part s _ _ => .part s 0 0
  | .blank => .blank
def nxt (now : List Rec) (m : Nat) : Option Rec := match lst (out now) with
  | (x, _) :: _ => if x < m then (now[x]?).map asPut else none
  | [] => none
def carry : Nat → List Rec → Nat → List Rec
  | 0, _, _ => []
  | f + 1, now, m => match nxt now m with
    | none => []
    | some r => r :: carry f (now.tail ++ [r]) m
def keyOf : Rec → Option Str := fun r => r.sgl?.map Sgl.key
structure CI (R : List Rec) (c : Nat) (now fd : List Rec) : Prop where
  un : unb now = true
  len : now.length = R.length
  fl : fd.length = c
  le : c ≤ R.length
  dr : now = R.drop c ++ fd
  ws : ∀ k, wd (out now) k = wd (out R) k
  nd : (fd.filterMap keyOf).Nodup
  ca : ∀ i r, fd[i]? = some r → ∃ k w, r = .part (.put k w) 0 0 ∧ F (out now) k = some (R.length - c + i, w)
theorem CI.start {R : List Rec} (u : unb R = true) : CI R 0 R [] := ⟨u, rfl, rfl, Nat.zero_le _, by simp, fun _ => rfl, by simp, fun i r h => by simp at h⟩
theorem subset_length {α : Type} [DecidableEq α] : ∀ {l m : List α}, l.Nodup → (∀ x ∈ l, x ∈ m) → l.length ≤ m.length
  | [], _, _, _ => Nat.zero_le _
  | x :: l, m, hn, hs => by
    rw [List.nodup_cons] at hn
    have h1 : x ∈ m := hs x List.mem_cons_self
    have h2 : l.length ≤ (m.erase x).length := subset_length hn.2 fun y hy => by
      have : y ≠ x := fun e => hn.1 (e ▸ hy)
      exact (List.mem_erase_of_ne this).mpr (hs y (List.mem_cons_of_mem _ hy))
    rw [List.length_erase_of_mem h1] at h2
    have : 0 < m.length := List.length_pos_of_mem h1
    rw [List.length_cons]
    omega
theorem keys_length {R : List Rec} : ((tab (out R)).map (·.1)).length = (tab (out R)).length := List.length_map _
theorem mem_keys {o : Ev} {k : Str} : k ∈ (tab o).map (·.1) ↔ ∃ n w, F o k = some (n, w) := by
  rw [List.mem_map]
  constructor
  · rintro ⟨⟨k', w⟩, h, rfl⟩
    have := mem_tab.mp h
    unfold wd at this
    cases e : F o k' with
    | none => rw [e] at this; cases this
    | some q => exact ⟨q.1, q.2, rfl⟩
  · rintro ⟨n, w, h⟩
    exact ⟨(k, w), mem_tab.mpr (by unfold wd; rw [h]; rfl), rfl⟩
theorem CI.keys_len {R : List Rec} {c : Nat} {now fd : List Rec} (I : CI R c now fd) : (fd.filterMap keyOf).length = c := by
  rw [← I.fl]
  have h : ∀ l : List Rec, (∀ (i : Nat) r, l[i]? = some r → ∃ k w, r = Rec.part (.put k w) 0 0) → (l.filterMap keyOf).length = l.length := by
    intro l
    induction l with
    | nil => intro _; rfl
    | cons r l ih =>
      intro h
      obtain ⟨k, w, rfl⟩ := h 0 r rfl
      show (l.filterMap keyOf).length + 1 = l.length + 1
      rw [ih fun i r hr => h (i + 1) r hr]
  exact h fd fun i r hr => let ⟨k, w, e, _⟩ := I.ca i r hr; ⟨k, w, e⟩
theorem CI.key_mem {R : List Rec} {c : Nat} {now fd : List Rec} (I : CI R c now fd) {k : Str} : k ∈ fd.filterMap keyOf ↔ ∃ (i : Nat) (w : Str), fd[i]? = some (Rec.part (.put k w) 0 0) := by
  rw [List.mem_filterMap]
  constructor
  · rintro ⟨r, hr, e⟩
    obtain ⟨i, hi⟩ := List.getElem?_of_mem hr
    obtain ⟨k', w, rfl, _⟩ := I.ca i r hi
    cases e
    exact ⟨i, w, hi⟩
  · rintro ⟨i, w, h⟩
    exact ⟨_, List.mem_of_getElem? h, rfl⟩
theorem CI.step {R : List Rec} {c m : Nat} {now fd : List Rec} (I : CI R c now fd) {r : Rec} (h : nxt now m = some r) (hL : m + (tab (out R)).length ≤ R.length) :
    CI R (c + 1) (now.tail ++ [r]) (fd ++ [r]) ∧ c + 1 ≤ (tab (out R)).length := by
  unfold nxt at h
  cases hl : lst (out now) with
  | nil => rw [hl] at h; cases h
  | cons e rest =>
    obtain ⟨x, key⟩ := e
    rw [hl] at h
    have h : (if x < m then (now[x]?).map asPut else none) = some r := h
    by_cases hx : x < m
    case neg => rw [if_neg hx] at h; cases h
    rw [if_pos hx] at h
    obtain ⟨⟨w, hF⟩, hmin⟩ := lst_head hl
    obtain ⟨p, l, hat⟩ := out_at (F_some hF)
    have hat : now[x]? = some (.part (.put key w) p l) := hat
    rw [hat] at h
    have h : some (Rec.part (.put key w) 0 0) = some r := h
    cases h
    -- keys of the table now are those of R
    have hkeys : ∀ k, (∃ n w, F (out now) k = some (n, w)) ↔ k ∈ (tab (out R)).map (·.1) := fun k => by
      rw [mem_keys]
      have e := I.ws k
      unfold wd at e
      constructor
      · rintro ⟨n, w, h⟩
        rw [h] at e
        cases q : F (out R) k with
        | none => rw [q] at e; cases e
        | some v => exact ⟨v.1, v.2, rfl⟩
      · rintro ⟨n, w, h⟩
        rw [h] at e
        cases q : F (out now) k with
        | none => rw [q] at e; cases e
        | some v => exact ⟨v.1, v.2, rfl⟩
    have hcL : c ≤ (tab (out R)).length := by
      rw [← I.keys_len, ← keys_length]
      exact subset_length I.nd fun k hk => by
        obtain ⟨i, w, hi⟩ := I.key_mem.mp hk
        obtain ⟨k', w', e, hF⟩ := I.ca i _ hi
        cases e
        exact (hkeys k).mp ⟨_, _, hF⟩
    -- the key has not been carried
    have hnew : key ∉ fd.filterMap keyOf := fun hk => by
      obtain ⟨i, w0, hi⟩ := I.key_mem.mp hk
      obtain ⟨k', w', e, hF'⟩ := I.ca i _ hi
      cases e
      rw [hF'] at hF
      have hxi : R.length - c + i = x := (Prod.mk.inj (Option.some.inj hF)).1
      have hLc : (tab (out R)).length ≤ c := by
        rw [← I.keys_len, ← keys_length]
        exact subset_length (tab_nk _) fun k hk => by
          obtain ⟨n, w1, hn⟩ := (hkeys k).mpr hk
          have hge := hmin k n w1 hn
          obtain ⟨p1, l1, hat1⟩ := out_at (F_some hn)
          have hat1 : now[n]? = some (.part (.put k w1) p1 l1) := hat1
          rw [I.dr, List.getElem?_append_right (by rw [List.length_drop]; omega), List.length_drop] at hat1
          obtain ⟨k2, w2, e2, _⟩ := I.ca _ _ hat1
          cases e2
          exact I.key_mem.mpr ⟨_, _, hat1⟩
      omega
    have hkR : key ∈ (tab (out R)).map (·.1) := (hkeys key).mp ⟨_, _, hF⟩
    have hc1 : c + 1 ≤ (tab (out R)).length := by
      have : (key :: fd.filterMap keyOf).length ≤ ((tab (out R)).map (·.1)).length := subset_length (List.nodup_cons.mpr ⟨hnew, I.nd⟩) fun k hk => by
        rcases List.mem_cons.mp hk with rfl | hk
        · exact hkR
        · obtain ⟨i, w, hi⟩ := I.key_mem.mp hk
          obtain ⟨k', w', e, hF⟩ := I.ca i _ hi
          cases e
          exact (hkeys k).mp ⟨_, _, hF⟩
      rw [List.length_cons, I.keys_len, keys_length] at this
      exact this
    refine ⟨?_, hc1⟩
    -- the row is not empty
    obtain ⟨a, T, hnow⟩ : ∃ a T, now = a :: T := by
      cases now with
      | nil => simp at hat
      | cons a T => exact ⟨a, T, rfl⟩
    have hlen := I.len
    have hat0 := hat
    have hF0 := hF
    have hmin0 := hmin
    rw [hnow] at hlen hat hF hmin
    rw [List.length_cons] at hlen
    have hOther : ∀ k, k ≠ key → F (out (a :: T)) k = up (F (out T) k) := fun k hk => F_tail fun w' e => by
      have hx0 := hmin k 0 w' e
      have hx0 : x = 0 := by omega
      subst hx0
      obtain ⟨p1, l1, h1⟩ := out_at (F_some e)
      have h1 : (a :: T)[0]? = some (.part (.put k w') p1 l1) := h1
      rw [hat] at h1
      cases h1
      exact hk rfl
    have hNew : ∀ k, F (out (T ++ [.part (.put key w) 0 0])) k = if key = k then some (T.length, w) else F (out T) k := fun k => by
      rw [out_snoc, F_append, lastOf_one]
      show ((if key = k then some (T.length, Sgl.put key w) else none).map val).getD (F (out T) k) = _
      by_cases hk : key = k
      · rw [if_pos hk, if_pos hk]; rfl
      · rw [if_neg hk, if_neg hk]; rfl
    have hWs : ∀ k, wd (out (T ++ [.part (.put key w) 0 0])) k = wd (out (a :: T)) k := fun k => by
      unfold wd
      rw [hNew]
      by_cases hk : key = k
      · subst hk
        rw [if_pos rfl, hF]
        rfl
      · rw [if_neg hk, hOther k (Ne.symm hk), up_snd]
    refine ⟨?_, ?_, ?_, by omega, ?_, ?_, ?_, ?_⟩
    · rw [hnow]
      exact unb_snoc0 (unb_tail (hnow ▸ I.un)) _ _
    · rw [List.length_append, List.length_tail, I.len]
      simp
      omega
    · rw [List.length_append, I.fl]; rfl
    · rw [I.dr, List.tail_append_of_ne_nil (by
        intro z
        have := congrArg List.length z
        rw [List.length_drop] at this
        simp at this
        omega), List.tail_drop, List.append_assoc]
    · intro k
      rw [← I.ws k, hnow]
      exact hWs k
    · rw [List.filterMap_append]
      refine List.nodup_append.mpr ⟨I.nd, by simp [keyOf, Rec.sgl?], fun y hy z hz => ?_⟩
      have hz : z = key := by simpa [keyOf, Rec.sgl?, Sgl.key] using hz
      subst hz
      exact fun e => hnew (e ▸ hy)
    · intro i r' hi
      rw [hnow]
      show ∃ k w', r' = _ ∧ F (out (T ++ [.part (.put key w) 0 0])) k = _
      by_cases hic : i < fd.length
      · rw [List.getElem?_append_left hic] at hi
        obtain ⟨k, w', rfl, hFk⟩ := I.ca i r' hi
        have hne : k ≠ key := fun e => hnew (I.key_mem.mpr ⟨i, w', e ▸ hi⟩)
        refine ⟨k, w', rfl, ?_⟩
        rw [hNew, if_neg (Ne.symm hne)]
        rw [hnow, hOther k hne] at hFk
        cases q : F (out T) k with
        | none => rw [q] at hFk; cases hFk
        | some v =>
          rw [q] at hFk
          obtain ⟨n, w2⟩ := v
          have hFk : some (n + 1, w2) = some (R.length - c + i, w') := hFk
          obtain ⟨e1, e2⟩ := Prod.mk.inj (Option.some.inj hFk)
          subst e2
          congr 2
          omega
      · rw [List.getElem?_append_right (Nat.le_of_not_lt hic)] at hi
        have hi0 : i - fd.length = 0 := by
          have := (List.getElem?_eq_some_iff.mp hi).1
          simp at this
          omega
        rw [hi0] at hi
        have hi : some (Rec.part (.put key w) 0 0) = some r' := hi
        cases hi
        refine ⟨key, w, rfl, ?_⟩
        rw [hNew, if_pos rfl]
        have := I.fl
        congr 2
        omega
/-- where carrying ends -/
theorem nxt_none {now : List Rec} {m : Nat} (h : nxt now m = none) : ∀ k n w, F (out now) k = some (n, w) → m ≤ n := by
  intro k n w hF
  unfold nxt at h
  cases hl : lst (out now) with
  | nil =>
    have : (n, k) ∈ lst (out now) := mem_lst.mpr ⟨w, hF⟩
    rw [hl] at this
    simp at this
  | cons e rest =>
    obtain ⟨x, key⟩ := e
    rw [hl] at h
    have h : (if x < m then (now[x]?).map asPut else none) = none := h
    obtain ⟨⟨w', hF'⟩, hmin⟩ := lst_head hl
    have hge := hmin k n w hF
    by_cases hx : x < m
    · rw [if_pos hx] at h
      obtain ⟨p, l, hat⟩ := out_at (F_some hF')
      have hat : now[x]? = some (.part (.put key w') p l) := hat
      rw [hat] at h
      cases h
    · omega
theorem carry_none {f : Nat} {now : List Rec} {m : Nat} (h : nxt now m = none) : carry f now m = [] := by
  cases f with
  | zero => rfl
  | succ f => unfold carry; rw [h]
theorem carry_some {f : Nat} {now : List Rec} {m : Nat} {r : Rec} (h : nxt now m = some r) : carry (f + 1) now m = r :: carry f (now.tail ++ [r]) m := by
  show (match nxt now m with | none => [] | some r => r :: carry f (now.tail ++ [r]) m) = _
  rw [h]
theorem carry_all {R : List Rec} {m : Nat} (hL : m + (tab (out R)).length ≤ R.length) : ∀ (f c : Nat) (now fd : List Rec), CI R c now fd → (tab (out R)).length ≤ c + f →
    (∀ j, j ≤ (carry f now m).length → CI R (c + j) (R.drop (c + j) ++ (fd ++ (carry f now m).take j)) (fd ++ (carry f now m).take j)) ∧
    nxt (R.drop (c + (carry f now m).length) ++ (fd ++ carry f now m)) m = none := by
  intro f
  induction f with
  | zero =>
    intro c now fd I hf
    have hn : nxt now m = none := by
      cases q : nxt now m with
      | none => rfl
      | some r => have := (I.step q hL).2; omega
    refine ⟨fun j hj => ?_, ?_⟩
    · have hj : j = 0 := by simpa [carry] using hj
      subst hj
      have e := I.dr
      simp only [List.take_zero, List.append_nil, Nat.add_zero]
      rw [← e]; exact I
    · simp only [carry, List.length_nil, Nat.add_zero, List.append_nil]
      rw [← I.dr]; exact hn
  | succ f ih =>
    intro c now fd I hf
    cases q : nxt now m with
    | none =>
      rw [carry_none q]
      refine ⟨fun j hj => ?_, ?_⟩
      · have hj : j = 0 := by simpa using hj
        subst hj
        simp only [List.take_zero, List.append_nil, Nat.add_zero]
        rw [← I.dr]; exact I
      · simp only [List.length_nil, Nat.add_zero, List.append_nil]
        rw [← I.dr]; exact q
    | some r =>
      rw [carry_some q]
      obtain ⟨I', hc⟩ := I.step q hL
      obtain ⟨h1, h2⟩ := ih (c + 1) _ _ I' (by omega)
      refine ⟨fun j hj => ?_, ?_⟩
      · cases j with
        | zero =>
          simp only [List.take_zero, List.append_nil, Nat.add_zero]
          rw [← I.dr]; exact I
        | succ j =>
          have := h1 j (by rw [List.length_cons] at hj; omega)
          rw [List.take_succ_cons]
          rw [show c + (j + 1) = c + 1 + j by omega]
          rw [show fd ++ r :: (carry f (now.tail ++ [r]) m).take j = fd ++ [r] ++ (carry f (now.tail ++ [r]) m).take j by simp]
          exact this
      · rw [List.length_cons, show c + ((carry f (now.tail ++ [r]) m).length + 1) = c + 1 + (carry f (now.tail ++ [r]) m).length by omega]
        rw [show fd ++ r :: carry f (now.tail ++ [r]) m = fd ++ [r] ++ carry f (now.tail ++ [r]) m by simp]
        exact h2

/-! ### the windows behind what is written -/
def win (R X : List Rec) (j : Nat) : List Rec := ((R ++ X).drop j).take R.length
def carried (R : List Rec) (m : Nat) : List Rec := carry R.length R m
theorem win_eq {R X : List Rec} {j : Nat} (h1 : j ≤ R.length) (h2 : j ≤ X.length) : win R X j = R.drop j ++ X.take j := by
  unfold win
  rw [List.drop_append_of_le_length h1, List.take_append, List.length_drop, List.take_of_length_le (by rw [List.length_drop]; omega)]
  congr 2
  omega
theorem carried_len {R : List Rec} {m : Nat} (u : unb R = true) (hL : m + (tab (out R)).length ≤ R.length) : (carried R m).length ≤ (tab (out R)).length := by
  have h := (carry_all hL R.length 0 R [] (CI.start u) (by omega)).1
  cases q : (carried R m).length with
  | zero => exact Nat.zero_le _
  | succ n =>
    have I := h (n + 1) (by show n + 1 ≤ (carried R m).length; omega)
    have hk := I.keys_len
    rw [← keys_length]
    have : (([] ++ (carry R.length R m).take (n + 1)).filterMap keyOf).length ≤ ((tab (out R)).map (·.1)).length := subset_length I.nd fun k hk => by
      obtain ⟨i, w, hi⟩ := I.key_mem.mp hk
      obtain ⟨k', w', e, hF⟩ := I.ca i _ hi
      cases e
      have e := I.ws k
      unfold wd at e
      rw [hF] at e
      rw [mem_keys]
      cases q : F (out R) k with
      | none => rw [q] at e; cases e
      | some v => exact ⟨v.1, v.2, rfl⟩
    rw [hk] at this
    omega
theorem carried_nodup {R : List Rec} {m : Nat} (u : unb R = true) (hL : m + (tab (out R)).length ≤ R.length) : ((carried R m).filterMap keyOf).Nodup ∧ ∀ r ∈ carried R m, ∃ k w, r = .part (.put k w) 0 0 := by
  have I := (carry_all hL R.length 0 R [] (CI.start u) (by omega)).1 (carried R m).length (Nat.le_refl _)
  have e : (carry R.length R m).take (carried R m).length = carried R m := List.take_length
  rw [e] at I
  refine ⟨I.nd, fun r hr => ?_⟩
  obtain ⟨i, hi⟩ := List.getElem?_of_mem hr
  obtain ⟨k, w, e, _⟩ := I.ca i r hi
  exact ⟨k, w, e⟩
/-- THE LAW: the words stay while one writes, and are at the end as the deed does them -/
theorem windows {R : List Rec} {ss : List Sgl} (u : unb R = true) (hn : ss ≠ []) (hL : ss.length + (tab (out R)).length ≤ R.length) :
    ∀ j, j ≤ (carried R ss.length ++ parts ss).length →
      unb (win R (carried R ss.length ++ parts ss) j) = true ∧ (win R (carried R ss.length ++ parts ss) j).length = R.length ∧
      tab (out (win R (carried R ss.length ++ parts ss) j)) = if j < (carried R ss.length ++ parts ss).length then tab (out R) else done (tab (out R)) ss := by
  intro j hj
  have hcl := carried_len u hL
  rw [List.length_append, parts_length] at hj ⊢
  obtain ⟨h1, h2⟩ := carry_all hL R.length 0 R [] (CI.start u) (by omega)
  have hpos : 0 < ss.length := List.length_pos_iff.mpr hn
  have hw := win_eq (R := R) (X := carried R ss.length ++ parts ss) (j := j) (by omega) (by rw [List.length_append, parts_length]; omega)
  by_cases hjc : j ≤ (carried R ss.length).length
  · have I := h1 j hjc
    simp only [Nat.zero_add, List.nil_append] at I
    rw [hw, List.take_append_of_le_length hjc]
    refine ⟨I.un, I.len, ?_⟩
    rw [if_pos (by omega)]
    exact tab_ext fun k => I.ws k
  · have hjc : (carried R ss.length).length < j := Nat.lt_of_not_le hjc
    have I := h1 (carried R ss.length).length (Nat.le_refl _)
    have e : (carry R.length R ss.length).take (carried R ss.length).length = carried R ss.length := List.take_length
    rw [e] at I
    simp only [Nat.zero_add, List.nil_append] at I h2
    have hmin := nxt_none h2
    generalize hC : carried R ss.length = C at *
    have hC2 : carry R.length R ss.length = C := hC
    rw [hC2] at hmin
    have hsplit : win R (C ++ parts ss) j = (R.drop C.length ++ C).drop (j - C.length) ++ (parts ss).take (j - C.length) := by
      rw [hw, List.take_append, List.take_of_length_le (by omega), ← List.append_assoc]
      congr 1
      rw [List.drop_append_of_le_length (by rw [List.length_drop]; omega), List.drop_drop]
      congr 2
      omega
    generalize hN : R.drop C.length ++ C = N at *
    have hd : ∀ k, wd (out (N.drop (j - C.length))) k = wd (out N) k := F_drop _ fun k n w e => by
      have := hmin k n w e
      omega
    have ht : tab (out (N.drop (j - C.length))) = tab (out R) := tab_ext fun k => (hd k).trans (I.ws k)
    rw [hsplit]
    refine ⟨unb_parts (unb_drop _ I.un) ss _, ?_, ?_⟩
    · rw [List.length_append, List.length_drop, List.length_take, parts_length, I.len]
      omega
    · by_cases hlast : j < C.length + ss.length
      · rw [if_pos hlast, out_some _ _ _ (by omega)]
        exact ht
      · rw [if_neg hlast, show j - C.length = (parts ss).length by rw [parts_length]; omega, List.take_length, out_all _ _ hn, tab_num]
        rw [show (parts ss).length = j - C.length by rw [parts_length]; omega, ht]
end HR
end
section
/-! ## data that stays: tuples tracked, lists and dicts frozen -/
namespace HD
open PySem PySem.Spec PyProof.Rows L2

abbrev SSt := L2.St
def kD : Key → PyData
  | .inl i => .int i
  | .inr x => .str x
/-- a tuple whose object has no dict -/
def Plain (H : Hp) (v : V) : Prop := ∃ a o xs, v = .ref a ∧ H a = some (.frz o (.tup xs)) ∧ o.dict = none
/-- data that is a plain tuple -/
def pl (d : PyData) : PyData := .dict [(.none, d)]
mutual
def Di (H : Hp) : PyData → V → Prop
  | .none, v => v = .non
  | .bool b, v => v = .bl b
  | .int i, v => v = .int i
  | .str x, v => v = .str x
  | .list ds, v => ∃ a o xs, v = .ref a ∧ H a = some (.frz o (.lst xs)) ∧ DiA H ds xs
  | .tuple ds, v => ∃ a xs, v = .ref a ∧ Rd H a (.tup xs) ∧ DiA H ds xs
  | .dict kvs, v => (∃ a o ks, v = .ref a ∧ H a = some (.frz o (.dK ks)) ∧ DiK H kvs ks) ∨ DiW H kvs v
def DiW (H : Hp) : List (PyData × PyData) → V → Prop
  | [], _ => False
  | (k, d) :: r, v => k = .none ∧ r = [] ∧ Plain H v ∧ Di H d v
def DiA (H : Hp) : List PyData → List V → Prop
  | [], xs => xs = []
  | d :: ds, xs => ∃ x r, xs = x :: r ∧ Di H d x ∧ DiA H ds r
def DiK (H : Hp) : List (PyData × PyData) → List (Key × V) → Prop
  | [], xs => xs = []
  | (k, d) :: ds, xs => ∃ kk x r, xs = (kk, x) :: r ∧ k = kD kk ∧ Di H d x ∧ DiK H ds r
end
/-- the tuples and what is frozen stay -/
structure Imx (H H' : Hp) : Prop where
  t : ∀ a xs, H a = some (.tup xs) → H' a = some (.tup xs)
  f : ∀ a o u, H a = some (.frz o u) → H' a = some (.frz o u)
theorem Imx.rd {H H' : Hp} (m : Imx H H') {a : Addr} {xs : List V} (h : Rd H a (.tup xs)) : Rd H' a (.tup xs) := h.elim (fun h => .inl (m.t a xs h)) fun ⟨o, h⟩ => .inr ⟨o, m.f a o _ h⟩
theorem Plain.mono {H H' : Hp} {v : V} (m : Imx H H') (h : Plain H v) : Plain H' v := let ⟨a, o, xs, e, h1, h2⟩ := h; ⟨a, o, xs, e, m.f a o _ h1, h2⟩
theorem Imx.refl (H : Hp) : Imx H H := ⟨fun _ _ h => h, fun _ _ _ h => h⟩
theorem Imx.trans {H H1 H2 : Hp} (a : Imx H H1) (b : Imx H1 H2) : Imx H H2 := ⟨fun x xs h => b.t x xs (a.t x xs h), fun x o u h => b.f x o u (a.f x o u h)⟩
theorem Imx.same {H H' : Hp} (s : Same H H') : Imx H H' := ⟨fun a xs h => s a _ h, fun a o u h => s a _ h⟩
theorem Imx.mut {H : Hp} {p : Addr} {o : HO} (h : Mut (H p)) : Imx H (upd H p o) := by
  refine ⟨fun a xs e => ?_, fun a ob u e => ?_⟩
  · rw [upd_ne (fun z => by subst z; rw [e] at h; exact h)]; exact e
  · rw [upd_ne (fun z => by subst z; rw [e] at h; exact h)]; exact e
theorem Same.new {H : Hp} {p : Addr} {o : HO} (h : H p = none) : Same H (upd H p o) := fun a u e => by
  rw [upd_ne (ne_of_none e h)]; exact e
theorem Imx.new {H : Hp} {p : Addr} {o : HO} (h : H p = none) : Imx H (upd H p o) := .same (Same.new h)
mutual
theorem Di.mono {H H' : Hp} (m : Imx H H') : ∀ (d : PyData) (v : V), Di H d v → Di H' d v
  | .none, v, h => h
  | .bool b, v, h => h
  | .int i, v, h => h
  | .str x, v, h => h
  | .list ds, v, h => by
    obtain ⟨a, o, xs, e, ha, hd⟩ := h
    exact ⟨a, o, xs, e, m.f _ _ _ ha, DiA.mono m ds xs hd⟩
  | .tuple ds, v, h => by
    obtain ⟨a, xs, e, ha, hd⟩ := h
    exact ⟨a, xs, e, m.rd ha, DiA.mono m ds xs hd⟩
  | .dict kvs, v, h => by
    rcases h with ⟨a, o, ks, e, ha, hd⟩ | h
    · exact .inl ⟨a, o, ks, e, m.f _ _ _ ha, DiK.mono m kvs ks hd⟩
    · exact .inr (DiW.mono m kvs v h)
theorem DiW.mono {H H' : Hp} (m : Imx H H') : ∀ (kvs : List (PyData × PyData)) (v : V), DiW H kvs v → DiW H' kvs v
  | [], _, h => h
  | (k, d) :: r, v, ⟨e1, e2, h1, h2⟩ => ⟨e1, e2, h1.mono m, Di.mono m d v h2⟩
theorem DiA.mono {H H' : Hp} (m : Imx H H') : ∀ (ds : List PyData) (xs : List V), DiA H ds xs → DiA H' ds xs
  | [], xs, h => h
  | d :: ds, xs, h => by
    obtain ⟨x, r, e, h1, h2⟩ := h
    exact ⟨x, r, e, Di.mono m d x h1, DiA.mono m ds r h2⟩
theorem DiK.mono {H H' : Hp} (m : Imx H H') : ∀ (ds : List (PyData × PyData)) (xs : List (Key × V)), DiK H ds xs → DiK H' ds xs
  | [], xs, h => h
  | (k, d) :: ds, xs, h => by
    obtain ⟨kk, x, r, e, e2, h1, h2⟩ := h
    exact ⟨kk, x, r, e, e2, Di.mono m d x h1, DiK.mono m ds r h2⟩
end
mutual
theorem Di.dp {K : PySem.W.Frag} {H : Hp} : ∀ (d : PyData) (v : V), d.canLay0 = true → Di H d v → Dp K H v d
  | .none, v, _, h => by have h : v = .non := h; subst h; exact .non
  | .bool b, v, _, h => by have h : v = .bl b := h; subst h; exact .bl b
  | .int i, v, _, h => by have h : v = .int i := h; subst h; exact .int i
  | .str x, v, _, h => by have h : v = .str x := h; subst h; exact .str x
  | .list ds, v, hs, h => by
    obtain ⟨a, o, xs, e, ha, hd⟩ := h
    subst e
    exact .lst (.inl (.inr ⟨o, ha⟩)) (DiA.dp ds xs (by simpa [PyData.canLay0] using hs) hd)
  | .tuple ds, v, hs, h => by
    obtain ⟨a, xs, e, ha, hd⟩ := h
    subst e
    exact .tup (.inl ha) (DiA.dp ds xs (by simpa [PyData.canLay0] using hs) hd)
  | .dict kvs, v, hs, h => by simp [PyData.canLay0] at hs
theorem DiA.dp {K : PySem.W.Frag} {H : Hp} : ∀ (ds : List PyData) (xs : List V), PyData.canLayAll0 ds = true → DiA H ds xs → DpAll K H xs ds
  | [], xs, _, h => by have h : xs = [] := h; subst h; exact .nil
  | d :: ds, xs, hs, h => by
    obtain ⟨x, r, e, h1, h2⟩ := h
    subst e
    have hs' : d.canLay0 = true ∧ PyData.canLayAll0 ds = true := by simpa [PyData.canLayAll0] using hs
    exact .cons (Di.dp d x hs'.1 h1) (DiA.dp ds r hs'.2 h2)
end
theorem DiA.length {H : Hp} : ∀ {ds : List PyData} {xs : List V}, DiA H ds xs → xs.length = ds.length
  | [], xs, h => by have h : xs = [] := h; subst h; rfl
  | d :: ds, xs, h => by
    obtain ⟨x, r, e, h1, h2⟩ := h
    subst e
    rw [List.length_cons, List.length_cons, DiA.length h2]
theorem DiA.get {H : Hp} : ∀ {ds : List PyData} {xs : List V} {i : Nat} {d : PyData}, DiA H ds xs → ds[i]? = some d → ∃ v, xs[i]? = some v ∧ Di H d v
  | [], _, _, _, _, e => by simp at e
  | d0 :: ds, xs, i, d, h, e => by
    obtain ⟨x, r, ex, h1, h2⟩ := h
    subst ex
    cases i with
    | zero =>
      have e : d0 = d := by simpa using e
      subst e
      exact ⟨x, rfl, h1⟩
    | succ i => exact DiA.get (i := i) h2 (by simpa using e)
theorem DiA.getv {H : Hp} {ds : List PyData} {xs : List V} {i : Nat} {v : V} (h : DiA H ds xs) (e : xs[i]? = some v) : ∃ d, ds[i]? = some d ∧ Di H d v := by
  have hl := h.length
  have hi : i < ds.length := by have := (List.getElem?_eq_some_iff.mp e).1; omega
  obtain ⟨v', e', hd⟩ := h.get (List.getElem?_eq_getElem hi)
  rw [e] at e'
  cases e'
  exact ⟨_, List.getElem?_eq_getElem hi, hd⟩
theorem DiA.append {H : Hp} : ∀ {ds es : List PyData} {xs ys : List V}, DiA H ds xs → DiA H es ys → DiA H (ds ++ es) (xs ++ ys)
  | [], _, xs, _, h, h' => by have h : xs = [] := h; subst h; exact h'
  | d :: ds, es, xs, ys, h, h' => by
    obtain ⟨x, r, e, h1, h2⟩ := h
    subst e
    exact ⟨x, r ++ ys, rfl, h1, DiA.append h2 h'⟩
theorem DiA.take {H : Hp} : ∀ {ds : List PyData} {xs : List V} (n : Nat), DiA H ds xs → DiA H (ds.take n) (xs.take n)
  | ds, xs, 0, _ => by simp [DiA]
  | [], xs, n + 1, h => by have h : xs = [] := h; subst h; exact rfl
  | d :: ds, xs, n + 1, h => by
    obtain ⟨x, r, e, h1, h2⟩ := h
    subst e
    exact ⟨x, r.take n, rfl, h1, DiA.take n h2⟩
theorem DiA.drop {H : Hp} : ∀ {ds : List PyData} {xs : List V} (n : Nat), DiA H ds xs → DiA H (ds.drop n) (xs.drop n)
  | ds, xs, 0, h => h
  | [], xs, n + 1, h => by have h : xs = [] := h; subst h; exact rfl
  | d :: ds, xs, n + 1, h => by
    obtain ⟨x, r, e, h1, h2⟩ := h
    subst e
    exact DiA.drop n h2
theorem DiA.one {H : Hp} {d : PyData} {v : V} (h : Di H d v) : DiA H [d] [v] := ⟨v, [], rfl, h, rfl⟩
theorem DiA.set {H : Hp} {d : PyData} {v : V} (hd : Di H d v) : ∀ {ds : List PyData} {xs : List V} (i : Nat), DiA H ds xs → DiA H (ds.set i d) (xs.set i v)
  | [], xs, _, h => by have h : xs = [] := h; subst h; exact rfl
  | d0 :: ds, xs, 0, h => by
    obtain ⟨x, r, e, h1, h2⟩ := h
    subst e
    exact ⟨v, r, rfl, hd, h2⟩
  | d0 :: ds, xs, i + 1, h => by
    obtain ⟨x, r, e, h1, h2⟩ := h
    subst e
    exact ⟨x, r.set i v, rfl, h1, DiA.set hd i h2⟩

/-! ### what a slot holds, what stands in cells that change -/
inductive Sl where
  | no
  | d (x : PyData)
  | v (x : V)
def Sl.ok (H : Hp) : Sl → V → Prop
  | .no, _ => True
  | .d x, y => Di H x y
  | .v x, y => y = x
theorem Sl.ok.mono {H H' : Hp} {s : Sl} {v : V} (m : Imx H H') (h : s.ok H v) : s.ok H' v := by
  cases s with
  | no => trivial
  | d x => exact Di.mono m x v h
  | v x => exact h
def Sl.at (H : Hp) : Sl → Option V → Prop
  | .no, _ => True
  | s, o => ∃ v, o = some v ∧ s.ok H v
theorem Sl.at.mono {H H' : Hp} {s : Sl} {o : Option V} (m : Imx H H') (h : s.at H o) : s.at H' o := by
  cases s with
  | no => trivial
  | d x => obtain ⟨v, e, h⟩ := h; exact ⟨v, e, h.mono m⟩
  | v x => obtain ⟨v, e, h⟩ := h; exact ⟨v, e, h.mono m⟩
theorem Sl.ok.at {H : Hp} {s : Sl} {v : V} (h : s.ok H v) : s.at H (some v) := by
  cases s with
  | no => trivial
  | d x => exact ⟨v, rfl, h⟩
  | v x => exact ⟨v, rfl, h⟩
/-- the slots -/
def Env (H : Hp) : List Sl → SSt → Prop
  | [], σ => σ = []
  | t :: δ, σ => ∃ o r, σ = o :: r ∧ t.at H o ∧ Env H δ r
theorem Env.mono {H H' : Hp} (m : Imx H H') : ∀ {δ : List Sl} {σ : SSt}, Env H δ σ → Env H' δ σ
  | [], _, h => h
  | t :: δ, _, h => by
    obtain ⟨o, r, e, h1, h2⟩ := h
    exact ⟨o, r, e, h1.mono m, Env.mono m h2⟩
theorem Env.get {H : Hp} : ∀ {δ : List Sl} {σ : SSt} {i : Nat} {s : Sl}, Env H δ σ → δ[i]? = some s → ∃ o, σ[i]? = some o ∧ s.at H o
  | [], _, _, _, _, e => by simp at e
  | t :: δ, σ, i, s, h, e => by
    obtain ⟨o, r, ex, h1, h2⟩ := h
    subst ex
    cases i with
    | zero =>
      have e : t = s := by simpa using e
      subst e
      exact ⟨o, rfl, h1⟩
    | succ i => exact Env.get (i := i) h2 (by simpa using e)
theorem Env.getd {H : Hp} {δ : List Sl} {σ : SSt} {i : Nat} {x : PyData} (h : Env H δ σ) (e : δ[i]? = some (.d x)) : ∃ v, σ[i]? = some (some v) ∧ Di H x v := by
  obtain ⟨o, e1, v, rfl, h1⟩ := h.get e
  exact ⟨v, e1, h1⟩
theorem Env.getv {H : Hp} {δ : List Sl} {σ : SSt} {i : Nat} {x : V} (h : Env H δ σ) (e : δ[i]? = some (.v x)) : σ[i]? = some (some x) := by
  obtain ⟨o, e1, v, rfl, h1⟩ := h.get e
  have h1 : v = x := h1
  subst h1
  exact e1
theorem Env.set {H : Hp} {s : Sl} {o : Option V} (hs : s.at H o) : ∀ {δ : List Sl} {σ : SSt} (i : Nat), Env H δ σ → Env H (δ.set i s) (σ.set i o)
  | [], σ, _, h => by have h : σ = [] := h; subst h; exact rfl
  | t :: δ, σ, 0, h => by
    obtain ⟨o', r, e, h1, h2⟩ := h
    subst e
    exact ⟨o, r, rfl, hs, h2⟩
  | t :: δ, σ, i + 1, h => by
    obtain ⟨o', r, e, h1, h2⟩ := h
    subst e
    exact ⟨o', r.set i o, rfl, h1, Env.set hs i h2⟩
theorem Env.length {H : Hp} : ∀ {δ : List Sl} {σ : SSt}, Env H δ σ → σ.length = δ.length
  | [], σ, h => by have h : σ = [] := h; subst h; rfl
  | t :: δ, σ, h => by
    obtain ⟨o, r, e, h1, h2⟩ := h
    subst e
    rw [List.length_cons, List.length_cons, Env.length h2]
/-- a cell of one's own that changes -/
inductive Mc where
  | lst (ds : List PyData)
  | dct (kvs : List (Str × PyData))
def DiS (H : Hp) : List (Str × PyData) → List (Key × V) → Prop
  | [], xs => xs = []
  | (k, d) :: ds, xs => ∃ x r, xs = (Sum.inr k, x) :: r ∧ Di H d x ∧ DiS H ds r
theorem DiS.mono {H H' : Hp} (m : Imx H H') : ∀ {ds : List (Str × PyData)} {xs : List (Key × V)}, DiS H ds xs → DiS H' ds xs
  | [], xs, h => h
  | (k, d) :: ds, xs, h => by
    obtain ⟨x, r, e, h1, h2⟩ := h
    exact ⟨x, r, e, Di.mono m d x h1, DiS.mono m h2⟩
def sK (kvs : List (Str × PyData)) : List (PyData × PyData) := kvs.map fun e => (.str e.1, e.2)
theorem DiS.k {H : Hp} : ∀ {ds : List (Str × PyData)} {xs : List (Key × V)}, DiS H ds xs → DiK H (sK ds) xs
  | [], xs, h => h
  | (k, d) :: ds, xs, h => by
    obtain ⟨x, r, e, h1, h2⟩ := h
    exact ⟨.inr k, x, r, e, rfl, h1, DiS.k h2⟩
theorem Di.dict {H : Hp} {kvs : List (Str × PyData)} {v : V} (h : Di H (.dict (sK kvs)) v) : ∃ a o ks, v = .ref a ∧ H a = some (.frz o (.dK ks)) ∧ DiK H (sK kvs) ks := by
  rcases h with h | h
  · exact h
  · cases kvs with
    | nil => exact h.elim
    | cons e r => exact nomatch h.1
def Mc.ok (H : Hp) (p : Addr) : Mc → Prop
  | .lst ds => ∃ xs, H p = some (.lst xs) ∧ DiA H ds xs
  | .dct kvs => ∃ ks, H p = some (.dK ks) ∧ DiS H kvs ks
abbrev Mem := List (Addr × Mc)
/-- the source of draws -/
def Tin (Z : Nat) (H : Hp) (t : Addr) : Prop := ∃ x y z : Int, H t = some (.lst [.int x, .int y, .int z]) ∧ 0 ≤ x ∧ 0 ≤ y ∧ y ≤ 2 ^ 62 ∧ 0 ≤ z ∧ z ≤ (Z : Int)
/-- where one stands: the heap at the def's entry, the draws' sources, a heap since which what stays has stayed -/
structure Ct where
  H0 : Hp
  own : List Addr
  b : Hp
  z : Nat
structure Wd (c : Ct) (δ : List Sl) (M : Mem) (σ : SSt) (H : Hp) : Prop where
  env : Env H δ σ
  mem : ∀ q ∈ M, q.2.ok H q.1
  ent : ∀ a o, a ∉ c.own → c.H0 a = some o → H a = some o
  own : ∀ t ∈ c.own, Tin c.z H t
  imb : Imx c.b H
  fr : ∀ q ∈ M, c.H0 q.1 = none ∧ q.1 ∉ c.own
  nd : (M.map (·.1)).Nodup
/-- what a reading may change on its way -/
structure Stp (c : Ct) (H H' : Hp) : Prop where
  i : Imx H H'
  e : ∀ a o, a ∉ c.own → H a = some o → H' a = some o
  t : ∀ t ∈ c.own, Tin c.z H t → Tin c.z H' t
theorem Stp.refl {c : Ct} {H : Hp} : Stp c H H := ⟨.refl H, fun _ _ _ h => h, fun _ _ h => h⟩
theorem Stp.trans {c : Ct} {H H1 H2 : Hp} (a : Stp c H H1) (b : Stp c H1 H2) : Stp c H H2 :=
  ⟨a.i.trans b.i, fun x o n h => b.e x o n (a.e x o n h), fun t m h => b.t t m (a.t t m h)⟩
theorem Stp.same {c : Ct} {H H' : Hp} (s : Same H H') : Stp c H H' :=
  ⟨.same s, fun a o _ h => s a o h, fun t _ ⟨x, y, z, e, h⟩ => ⟨x, y, z, s t _ e, h⟩⟩
theorem Mc.ok.step {H H' : Hp} {p : Addr} {m : Mc} (i : Imx H H') (e : ∀ o, H p = some o → H' p = some o) (h : m.ok H p) : m.ok H' p := by
  cases m with
  | lst ds => obtain ⟨xs, e1, h1⟩ := h; exact ⟨xs, e _ e1, DiA.mono i _ _ h1⟩
  | dct kvs => obtain ⟨ks, e1, h1⟩ := h; exact ⟨ks, e _ e1, h1.mono i⟩
theorem Wd.step {c : Ct} {δ : List Sl} {M : Mem} {σ : SSt} {H H' : Hp} (w : Wd c δ M σ H) (s : Stp c H H') : Wd c δ M σ H' :=
  ⟨w.env.mono s.i, fun q hq => (w.mem q hq).step s.i fun o e => s.e _ o (w.fr q hq).2 e, fun a o n h => s.e a o n (w.ent a o n h), fun t ht => s.t t ht (w.own t ht), w.imb.trans s.i, w.fr, w.nd⟩
theorem Wd.set {c : Ct} {δ : List Sl} {M : Mem} {σ : SSt} {H : Hp} (w : Wd c δ M σ H) {s : Sl} {v : V} (h : s.ok H v) (i : Nat) : Wd c (δ.set i s) M (σ.set i (some v)) H :=
  ⟨w.env.set h.at i, w.mem, w.ent, w.own, w.imb, w.fr, w.nd⟩
theorem Wd.forget {c : Ct} {δ : List Sl} {q : Addr × Mc} {M : Mem} {σ : SSt} {H : Hp} (w : Wd c δ (q :: M) σ H) : Wd c δ M σ H :=
  ⟨w.env, fun p hp => w.mem p (List.mem_cons_of_mem _ hp), w.ent, w.own, w.imb, fun p hp => w.fr p (List.mem_cons_of_mem _ hp), (List.nodup_cons.mp w.nd).2⟩
/-- a new cell of one's own -/
theorem Wd.newC {c : Ct} {δ : List Sl} {M : Mem} {σ : SSt} {H : Hp} {p : Addr} {o : HO} {m : Mc} (w : Wd c δ M σ H) (hp : H p = none) (hm : m.ok (upd H p o) p) : Wd c δ ((p, m) :: M) σ (upd H p o) := by
  have w' := w.step (.same (Same.new (o := o) hp))
  have hno : p ∉ c.own := fun hm => by
    obtain ⟨x, y, z, e, _⟩ := w.own p hm
    rw [hp] at e; cases e
  have hH0 : c.H0 p = none := by
    cases q : c.H0 p with
    | none => rfl
    | some u => rw [w.ent p u hno q] at hp; cases hp
  refine ⟨w'.env, fun q hq => ?_, w'.ent, w'.own, w'.imb, fun q hq => ?_, ?_⟩
  · rcases List.mem_cons.mp hq with rfl | hq
    · exact hm
    · exact w'.mem q hq
  · rcases List.mem_cons.mp hq with rfl | hq
    · exact ⟨hH0, hno⟩
    · exact w.fr q hq
  · rw [List.map_cons, List.nodup_cons]
    refine ⟨fun hm => ?_, w.nd⟩
    obtain ⟨q, hq, e⟩ := List.mem_map.mp hm
    have e : q.1 = p := e
    have := w.mem q hq
    rw [e] at this
    cases hq2 : q.2 with
    | lst ds => rw [hq2] at this; obtain ⟨xs, e1, _⟩ := this; rw [hp] at e1; cases e1
    | dct kvs => rw [hq2] at this; obtain ⟨xs, e1, _⟩ := this; rw [hp] at e1; cases e1
theorem Mc.ok.mut {H : Hp} {p : Addr} {m : Mc} (h : m.ok H p) : Mut (H p) := by
  cases m with
  | lst ds => obtain ⟨xs, e, _⟩ := h; rw [e]; trivial
  | dct kvs => obtain ⟨ks, e, _⟩ := h; rw [e]; trivial
/-- the newest cell changes -/
theorem Wd.write {c : Ct} {δ : List Sl} {M : Mem} {σ : SSt} {H : Hp} {p : Addr} {o : HO} {m m' : Mc} (w : Wd c δ ((p, m) :: M) σ H) (hm : m'.ok (upd H p o) p) : Wd c δ ((p, m') :: M) σ (upd H p o) := by
  have mu : Mut (H p) := (w.mem (p, m) List.mem_cons_self).mut
  have i : Imx H (upd H p o) := .mut mu
  have hfr := w.fr (p, m) List.mem_cons_self
  have hnd := List.nodup_cons.mp w.nd
  refine ⟨w.env.mono i, fun q hq => ?_, fun a u n h => ?_, fun t ht => ?_, w.imb.trans i, fun q hq => ?_, ?_⟩
  · rcases List.mem_cons.mp hq with rfl | hq
    · exact hm
    · refine (w.mem q (List.mem_cons_of_mem _ hq)).step i fun u e => ?_
      rw [upd_ne (fun z => hnd.1 (List.mem_map.mpr ⟨q, hq, z⟩))]
      exact e
  · rw [upd_ne (fun z => by subst z; rw [hfr.1] at h; cases h)]
    exact w.ent a u n h
  · obtain ⟨x, y, z, e, h⟩ := w.own t ht
    exact ⟨x, y, z, by rw [upd_ne (show t ≠ p from fun q => hfr.2 (by rw [← q]; exact ht))]; exact e, h⟩
  · rcases List.mem_cons.mp hq with rfl | hq
    · exact hfr
    · exact w.fr q (List.mem_cons_of_mem _ hq)
  · exact List.nodup_cons.mpr ⟨hnd.1, hnd.2⟩
/-- the cells in another order -/
theorem Wd.perm {c : Ct} {δ : List Sl} {M M' : Mem} {σ : SSt} {H : Hp} (w : Wd c δ M σ H) (h : M.Perm M') : Wd c δ M' σ H :=
  ⟨w.env, fun q hq => w.mem q (h.mem_iff.mpr hq), w.ent, w.own, w.imb, fun q hq => w.fr q (h.mem_iff.mpr hq), (h.map _).nodup_iff.mp w.nd⟩
/-- the newest cell is frozen -/
theorem Wd.frz {c : Ct} {δ : List Sl} {M : Mem} {σ : SSt} {H : Hp} {p : Addr} {m : Mc} {o : HO} (w : Wd c δ ((p, m) :: M) σ H) : Wd c δ M σ (upd H p o) := by
  have mu : Mut (H p) := (w.mem (p, m) List.mem_cons_self).mut
  have i : Imx H (upd H p o) := .mut mu
  have hfr := w.fr (p, m) List.mem_cons_self
  have hnd := List.nodup_cons.mp w.nd
  refine ⟨w.env.mono i, fun q hq => ?_, fun a u n h => ?_, fun t ht => ?_, w.imb.trans i, fun q hq => w.fr q (List.mem_cons_of_mem _ hq), hnd.2⟩
  · refine (w.mem q (List.mem_cons_of_mem _ hq)).step i fun u e => ?_
    rw [upd_ne (fun z => hnd.1 (List.mem_map.mpr ⟨q, hq, z⟩))]
    exact e
  · rw [upd_ne (fun z => by subst z; rw [hfr.1] at h; cases h)]
    exact w.ent a u n h
  · obtain ⟨x, y, z, e, h⟩ := w.own t ht
    exact ⟨x, y, z, by rw [upd_ne (show t ≠ p from fun q => hfr.2 (by rw [← q]; exact ht))]; exact e, h⟩

/-! ### what evaluates to what -/
def EdP (c : Ct) (te : TE) (δ : List Sl) (M : Mem) (P : V → Hp → Prop) : Prop := ∀ σ H, Wd c δ M σ H → ∀ Q : VK, (∀ v H2, Stp c H H2 → P v H2 → Q v H2) → te σ H Q
def Ed (c : Ct) (te : TE) (δ : List Sl) (M : Mem) (s : Sl) : Prop := ∀ σ H, Wd c δ M σ H → ∀ Q : VK, (∀ v H2, Stp c H H2 → s.ok H2 v → Q v H2) → te σ H Q
def SlA (H : Hp) : List Sl → List V → Prop
  | [], vs => vs = []
  | s :: ss, vs => ∃ v r, vs = v :: r ∧ s.ok H v ∧ SlA H ss r
theorem SlA.mono {H H' : Hp} (m : Imx H H') : ∀ {ss : List Sl} {vs : List V}, SlA H ss vs → SlA H' ss vs
  | [], _, h => h
  | s :: ss, _, h => by
    obtain ⟨v, r, e, h1, h2⟩ := h
    exact ⟨v, r, e, h1.mono m, SlA.mono m h2⟩
theorem SlA.length {H : Hp} : ∀ {ss : List Sl} {vs : List V}, SlA H ss vs → vs.length = ss.length
  | [], _, h => by have h : _ = [] := h; subst h; rfl
  | s :: ss, _, h => by
    obtain ⟨v, r, e, h1, h2⟩ := h
    subst e
    rw [List.length_cons, List.length_cons, SlA.length h2]
theorem SlA.env {H : Hp} (n : Nat) : ∀ {ss : List Sl} {vs : List V}, SlA H ss vs → Env H (ss ++ List.replicate n .no) (vs.map some ++ List.replicate n none)
  | [], _, h => by
    have h : _ = [] := h
    subst h
    induction n with
    | zero => exact rfl
    | succ n ih => exact ⟨none, List.replicate n none, rfl, trivial, ih⟩
  | s :: ss, _, h => by
    obtain ⟨v, r, e, h1, h2⟩ := h
    subst e
    exact ⟨some v, _, rfl, h1.at, SlA.env n h2⟩
def EdA (c : Ct) (ta : TA) (δ : List Sl) (M : Mem) (ss : List Sl) : Prop := ∀ σ H, Wd c δ M σ H → ∀ Q : List V → Hp → Prop, (∀ vs H2, Stp c H H2 → SlA H2 ss vs → Q vs H2) → ta σ H Q
def Et (c : Ct) (tt : TT) (δ : List Sl) (M : Mem) (b : Bool) : Prop := ∀ σ H, Wd c δ M σ H → ∀ Q : Bool → Hp → Prop, (∀ H2, Stp c H H2 → Q b H2) → tt σ H Q
section
variable {c : Ct} {δ : List Sl} {M : Mem} {ta tb te tx : TE} {t u : TT} {s s' z : Sl} {r : R2}
theorem Ed.forget {q : Addr × Mc} (h : Ed c te δ M s) : Ed c te δ (q :: M) s := fun σ H w Q k => h σ H w.forget Q k
theorem Et.forget {q : Addr × Mc} {b : Bool} (h : Et c t δ M b) : Et c t δ (q :: M) b := fun σ H w Q k => h σ H w.forget Q k
theorem ed_eq {s s' : Sl} (h : Ed c te δ M s) (e : s = s') : Ed c te δ M s' := e ▸ h
theorem et_eq {a b : Bool} (h : Et c t δ M a) (e : a = b) : Et c t δ M b := e ▸ h
theorem ed_var {i : Nat} {x : PyData} (h : δ[i]? = some (.d x)) : Ed c (tVar i) δ M (.d x) := fun σ H w Q k => by
  obtain ⟨v, e, hd⟩ := w.env.getd h
  exact ⟨v, e, k v H .refl hd⟩
theorem ed_ref {i : Nat} {x : V} (h : δ[i]? = some (.v x)) : Ed c (tVar i) δ M (.v x) := fun σ H w Q k => ⟨x, w.env.getv h, k x H .refl rfl⟩
theorem ed_int {i : Int} : Ed c (tC (.int i)) δ M (.d (.int i)) := fun σ H w Q k => k _ H .refl rfl
theorem ed_str {x : Str} : Ed c (tC (.str x)) δ M (.d (.str x)) := fun σ H w Q k => k _ H .refl rfl
theorem ed_bl {b : Bool} : Ed c (tC (.bl b)) δ M (.d (.bool b)) := fun σ H w Q k => k _ H .refl rfl
theorem ed_non : Ed c (tC .non) δ M (.d .none) := fun σ H w Q k => k _ H .refl rfl
theorem ed_c {v : V} : Ed c (tC v) δ M (.v v) := fun σ H w Q k => k _ H .refl rfl
/-- two operands -/
theorem ed_op (ha : Ed c ta δ M s) (hb : Ed c tb δ M s') (hr : ∀ H x y, s.ok H x → s'.ok H y → ∀ Q : VK, (∀ v H2, Same H H2 → z.ok H2 v → Q v H2) → r x y H Q) : Ed c (tOp r ta tb) δ M z := fun σ H w Q k =>
  ha σ H w _ fun x H1 s1 hx => hb σ H1 (w.step s1) _ fun y H2 s2 hy => hr H2 x y (hx.mono s2.i) hy Q fun v H3 s3 hv => k v H3 ((s1.trans s2).trans (.same s3)) hv
theorem ed_un {r : V → Hp → VK → Prop} (ha : Ed c ta δ M s) (hr : ∀ H x, s.ok H x → ∀ Q : VK, (∀ v H2, Same H H2 → z.ok H2 v → Q v H2) → r x H Q) : Ed c (tUn r ta) δ M z := fun σ H w Q k =>
  ha σ H w _ fun x H1 s1 hx => hr H1 x hx Q fun v H3 s3 hv => k v H3 (s1.trans (.same s3)) hv
theorem ed_I0 {g : Int → Int → V} {i j : Int} (ha : Ed c ta δ M (.d (.int i))) (hb : Ed c tb δ M (.d (.int j))) (hz : ∀ H, z.ok H (g i j)) : Ed c (tOp (rI0 g) ta tb) δ M z :=
  ed_op ha hb fun H x y hx hy Q k => ⟨i, j, hx, hy, k _ H (Same.refl H) (hz H)⟩
theorem ed_I {C : Int → Int → Prop} {g : Int → Int → V} {i j : Int} (ha : Ed c ta δ M (.d (.int i))) (hb : Ed c tb δ M (.d (.int j))) (hc : C i j) (hz : ∀ H, z.ok H (g i j)) : Ed c (tOp (rI C g) ta tb) δ M z :=
  ed_op ha hb fun H x y hx hy Q k => ⟨i, j, hx, hy, hc, k _ H (Same.refl H) (hz H)⟩
theorem ed_add {i j : Int} (ha : Ed c ta δ M (.d (.int i))) (hb : Ed c tb δ M (.d (.int j))) : Ed c (tOp (rI0 fun i j => .int (i + j)) ta tb) δ M (.d (.int (i + j))) := ed_I0 ha hb fun _ => rfl
theorem ed_sub {i j : Int} (ha : Ed c ta δ M (.d (.int i))) (hb : Ed c tb δ M (.d (.int j))) : Ed c (tOp (rI0 fun i j => .int (i - j)) ta tb) δ M (.d (.int (i - j))) := ed_I0 ha hb fun _ => rfl
theorem ed_lt {i j : Int} (ha : Ed c ta δ M (.d (.int i))) (hb : Ed c tb δ M (.d (.int j))) : Ed c (tOp (rI0 fun i j => .bl (decide (i < j))) ta tb) δ M (.d (.bool (decide (i < j)))) := ed_I0 ha hb fun _ => rfl
theorem ed_le {i j : Int} (ha : Ed c ta δ M (.d (.int i))) (hb : Ed c tb δ M (.d (.int j))) : Ed c (tOp (rI0 fun i j => .bl (decide (i ≤ j))) ta tb) δ M (.d (.bool (decide (i ≤ j)))) := ed_I0 ha hb fun _ => rfl
theorem ed_gt {i j : Int} (ha : Ed c ta δ M (.d (.int i))) (hb : Ed c tb δ M (.d (.int j))) : Ed c (tOp (rI0 fun i j => .bl (decide (j < i))) ta tb) δ M (.d (.bool (decide (j < i)))) := ed_I0 ha hb fun _ => rfl
theorem ed_ge {i j : Int} (ha : Ed c ta δ M (.d (.int i))) (hb : Ed c tb δ M (.d (.int j))) : Ed c (tOp (rI0 fun i j => .bl (decide (j ≤ i))) ta tb) δ M (.d (.bool (decide (j ≤ i)))) := ed_I0 ha hb fun _ => rfl
theorem ed_neg {i : Int} (ha : Ed c ta δ M (.d (.int i))) : Ed c (tUn (rU fun i => .int (-i)) ta) δ M (.d (.int (-i))) :=
  ed_un ha fun H x hx Q k => ⟨i, hx, k _ H (Same.refl H) rfl⟩
theorem ed_eqI {i j : Int} (ha : Ed c ta δ M (.d (.int i))) (hb : Ed c tb δ M (.d (.int j))) : Ed c (tOp rEq ta tb) δ M (.d (.bool (decide (i = j)))) :=
  ed_op ha hb fun H x y hx hy Q k => by
    have hx : x = .int i := hx
    have hy : y = .int j := hy
    subst hx hy
    refine ⟨rfl, k _ H (Same.refl H) ?_⟩
    show V.bl _ = V.bl _
    simp
theorem ed_neI {i j : Int} (ha : Ed c ta δ M (.d (.int i))) (hb : Ed c tb δ M (.d (.int j))) : Ed c (tOp rNe ta tb) δ M (.d (.bool (!decide (i = j)))) :=
  ed_op ha hb fun H x y hx hy Q k => by
    have hx : x = .int i := hx
    have hy : y = .int j := hy
    subst hx hy
    refine ⟨rfl, k _ H (Same.refl H) ?_⟩
    show V.bl _ = V.bl _
    simp
theorem ed_eqS {i j : Str} (ha : Ed c ta δ M (.d (.str i))) (hb : Ed c tb δ M (.d (.str j))) : Ed c (tOp rEq ta tb) δ M (.d (.bool (decide (i = j)))) :=
  ed_op ha hb fun H x y hx hy Q k => by
    have hx : x = .str i := hx
    have hy : y = .str j := hy
    subst hx hy
    refine ⟨rfl, k _ H (Same.refl H) ?_⟩
    show V.bl _ = V.bl _
    simp
theorem ed_neS {i j : Str} (ha : Ed c ta δ M (.d (.str i))) (hb : Ed c tb δ M (.d (.str j))) : Ed c (tOp rNe ta tb) δ M (.d (.bool (!decide (i = j)))) :=
  ed_op ha hb fun H x y hx hy Q k => by
    have hx : x = .str i := hx
    have hy : y = .str j := hy
    subst hx hy
    refine ⟨rfl, k _ H (Same.refl H) ?_⟩
    show V.bl _ = V.bl _
    simp
theorem ed_eqB {i j : Bool} (ha : Ed c ta δ M (.d (.bool i))) (hb : Ed c tb δ M (.d (.bool j))) : Ed c (tOp rEq ta tb) δ M (.d (.bool (decide (i = j)))) :=
  ed_op ha hb fun H x y hx hy Q k => by
    have hx : x = .bl i := hx
    have hy : y = .bl j := hy
    subst hx hy
    refine ⟨rfl, k _ H (Same.refl H) ?_⟩
    show V.bl _ = V.bl _
    simp
theorem ed_neB {i j : Bool} (ha : Ed c ta δ M (.d (.bool i))) (hb : Ed c tb δ M (.d (.bool j))) : Ed c (tOp rNe ta tb) δ M (.d (.bool (!decide (i = j)))) :=
  ed_op ha hb fun H x y hx hy Q k => by
    have hx : x = .bl i := hx
    have hy : y = .bl j := hy
    subst hx hy
    refine ⟨rfl, k _ H (Same.refl H) ?_⟩
    show V.bl _ = V.bl _
    simp
/-- is None, of data -/
def isN : PyData → Bool
  | .none => true
  | _ => false
theorem Di.isN {H : Hp} {d : PyData} {v : V} (h : Di H d v) : decide (v = .non) = HD.isN d := by
  cases d with
  | none => have h : v = .non := h; subst h; rfl
  | bool b => have h : v = .bl b := h; subst h; rfl
  | int i => have h : v = .int i := h; subst h; rfl
  | str x => have h : v = .str x := h; subst h; rfl
  | list ds => obtain ⟨a, o, xs, e, _⟩ := h; subst e; rfl
  | tuple ds => obtain ⟨a, xs, e, _⟩ := h; subst e; rfl
  | dict ds =>
    rcases h with ⟨a, o, xs, e, _⟩ | h
    · subst e; rfl
    · cases ds with
      | nil => exact h.elim
      | cons p r => obtain ⟨_, _, ⟨a, o, xs, e, _⟩, _⟩ := h; subst e; rfl
/-- a plain tuple is a tuple -/
theorem ed_pl {d : PyData} (h : Ed c ta δ M (.d (pl d))) : Ed c ta δ M (.d d) := fun σ H w Q k => h σ H w Q fun v H2 s2 hv => k v H2 s2 (by
  rcases hv with ⟨a, o, ks, e, ha, hd⟩ | h
  · obtain ⟨kk, x, r, _, e0, _⟩ := hd
    cases kk <;> cases e0
  · exact h.2.2.2)
theorem ed_isN {d : PyData} (ha : Ed c ta δ M (.d d)) : Ed c (tOp (fun x y H Q => y = .non ∧ Q (.bl (decide (x = .non))) H) ta (tC .non)) δ M (.d (.bool (isN d))) :=
  ed_op ha ed_non fun H x y hx hy Q k => ⟨hy, k _ H (Same.refl H) (congrArg V.bl (Di.isN hx))⟩
theorem ed_notN {d : PyData} (ha : Ed c ta δ M (.d d)) : Ed c (tOp (fun x y H Q => y = .non ∧ Q (.bl (!decide (x = .non))) H) ta (tC .non)) δ M (.d (.bool (!isN d))) :=
  ed_op ha ed_non fun H x y hx hy Q k => ⟨hy, k _ H (Same.refl H) (congrArg (fun b => V.bl (!b)) (Di.isN hx))⟩
/-! tests -/
theorem et_val {b : Bool} (h : Ed c te δ M (.d (.bool b))) : Et c (tB te) δ M b := fun σ H w Q k => h σ H w _ fun v H2 s2 hv => ⟨b, hv, k H2 s2⟩
theorem et_test {b : Bool} (h : Ed c te δ M (.d (.bool b))) : Et c (tTest te) δ M b := fun σ H w Q k => h σ H w _ fun v H2 s2 hv => ⟨b, hv, k H2 s2⟩
theorem et_not {b : Bool} (h : Et c t δ M b) : Et c (tNot t) δ M (!b) := fun σ H w Q k => h σ H w _ fun H2 s2 => k H2 s2
theorem et_and {a b : Bool} (h1 : Et c t δ M a) (h2 : a = true → Et c u δ M b) : Et c (tAnd t u) δ M (a && b) := fun σ H w Q k => h1 σ H w _ fun H2 s2 => by
  cases a with
  | true => exact h2 rfl σ H2 (w.step s2) Q fun H3 s3 => k H3 (s2.trans s3)
  | false => exact k H2 s2
theorem et_or {a b : Bool} (h1 : Et c t δ M a) (h2 : a = false → Et c u δ M b) : Et c (tOr t u) δ M (a || b) := fun σ H w Q k => h1 σ H w _ fun H2 s2 => by
  cases a with
  | false => exact h2 rfl σ H2 (w.step s2) Q fun H3 s3 => k H3 (s2.trans s3)
  | true => exact k H2 s2
theorem ed_and {a b : Bool} (h1 : Ed c ta δ M (.d (.bool a))) (h2 : a = true → Ed c tb δ M (.d (.bool b))) : Ed c (tAndV ta tb) δ M (.d (.bool (a && b))) := fun σ H w Q k => h1 σ H w _ fun v H2 s2 hv => ⟨a, hv, by
  cases a with
  | true => exact h2 rfl σ H2 (w.step s2) Q fun v H3 s3 hv => k v H3 (s2.trans s3) hv
  | false => exact k _ H2 s2 rfl⟩
theorem ed_or {a b : Bool} (h1 : Ed c ta δ M (.d (.bool a))) (h2 : a = false → Ed c tb δ M (.d (.bool b))) : Ed c (tOrV ta tb) δ M (.d (.bool (a || b))) := fun σ H w Q k => h1 σ H w _ fun v H2 s2 hv => ⟨a, hv, by
  cases a with
  | false => exact h2 rfl σ H2 (w.step s2) Q fun v H3 s3 hv => k v H3 (s2.trans s3) hv
  | true => exact k _ H2 s2 rfl⟩
theorem ed_not {a : Bool} (h : Ed c ta δ M (.d (.bool a))) : Ed c (tNotV ta) δ M (.d (.bool (!a))) := fun σ H w Q k => h σ H w _ fun v H2 s2 hv => ⟨a, hv, k _ H2 s2 rfl⟩
theorem ed_if {b : Bool} (h : Et c t δ M b) (h1 : b = true → Ed c ta δ M s) (h2 : b = false → Ed c tb δ M s) : Ed c (tIf t ta tb) δ M s := fun σ H w Q k => h σ H w _ fun H2 s2 => by
  cases b with
  | true => exact h1 rfl σ H2 (w.step s2) Q fun v H3 s3 hv => k v H3 (s2.trans s3) hv
  | false => exact h2 rfl σ H2 (w.step s2) Q fun v H3 s3 hv => k v H3 (s2.trans s3) hv
theorem ed_chain {r r' : R2} {tc : TE} {a b : Bool} {s1 s2 s3 : Sl} (ha : Ed c ta δ M s1) (hb : Ed c tb δ M s2) (hc : Ed c tc δ M s3) (hr : ∀ H x y, s1.ok H x → s2.ok H y → ∀ Q : VK, Q (.bl a) H → r x y H Q)
    (hr' : ∀ H x y, s2.ok H x → s3.ok H y → ∀ Q : VK, Q (.bl b) H → r' x y H Q) : Ed c (tChain r r' ta tb tc) δ M (.d (.bool (a && b))) := fun σ H w Q k =>
  ha σ H w _ fun x H1 q1 hx => hb σ H1 (w.step q1) _ fun y H2 q2 hy => hr H2 x y (hx.mono q2.i) hy _ ⟨a, rfl, by
    cases a with
    | false => exact k _ H2 (q1.trans q2) rfl
    | true => exact hc σ H2 ((w.step q1).step q2) _ fun z H3 q3 hz => hr' H3 y z (hy.mono q3.i) hz _ (k _ H3 ((q1.trans q2).trans q3) rfl)⟩
/-! arguments, tuples, lists -/
theorem ea_nil : EdA c tNil δ M [] := fun σ H w Q k => k [] H .refl rfl
theorem ea_cons {tr : TA} {ss : List Sl} (h : Ed c ta δ M s) (hr : EdA c tr δ M ss) : EdA c (tCons ta tr) δ M (s :: ss) := fun σ H w Q k =>
  h σ H w _ fun x H1 s1 hx => hr σ H1 (w.step s1) _ fun vs H2 s2 hv => k _ H2 (s1.trans s2) ⟨x, vs, rfl, hx.mono s2.i, hv⟩
theorem slA_d {H : Hp} : ∀ {ds : List PyData} {vs : List V}, SlA H (ds.map .d) vs → DiA H ds vs
  | [], _, h => h
  | d :: ds, _, h => by
    obtain ⟨v, r, e, h1, h2⟩ := h
    exact ⟨v, r, e, h1, slA_d h2⟩
theorem ed_tup {ta : TA} {ss : List Sl} (ds : List PyData) (h : EdA c ta δ M ss) (e : ss = ds.map .d := by rfl) (hl : ds.length ≤ 100000 := by decide) : Ed c (tTup ta) δ M (.d (.tuple ds)) := fun σ H w Q k =>
  h σ H w _ fun vs H2 s2 hv => by
    subst e
    have hd := slA_d hv
    refine ⟨by rw [hd.length]; exact Evl.sz_of hl, fun p hp => ?_⟩
    refine k _ _ (s2.trans (.same (Same.new hp))) ⟨p, vs, rfl, .inl upd_same, DiA.mono (.new hp) _ _ hd⟩
/-- a thing made is frozen at once -/
def tFz (te : TE) : TE := fun σ H Q => te σ H fun v H' => ∃ a u, v = .ref a ∧ H' a = some u ∧ Mut (some u) ∧ ∀ o, Q v (upd H' a (.frz o u))
/-- a new object at p is frozen: seen from before, nothing has changed -/
theorem same_frz {H : Hp} {p : Addr} {o : HO} (hp : H p = none) {H' : Hp} (s : Same H H') : Same H (upd H' p o) := fun a u e => by
  rw [upd_ne (ne_of_none e hp)]; exact s a u e
theorem ed_lst {ta : TA} {ss : List Sl} (ds : List PyData) (h : EdA c ta δ M ss) (e : ss = ds.map .d := by rfl) (hl : ds.length ≤ 100000 := by decide) : Ed c (tFz (tLst ta)) δ M (.d (.list ds)) := fun σ H w Q k =>
  h σ H w _ fun vs H2 s2 hv => by
    subst e
    have hd := slA_d hv
    refine ⟨by rw [hd.length]; exact Evl.sz_of hl, fun p hp => ⟨p, _, rfl, upd_same, trivial, fun o => ?_⟩⟩
    have sm := same_frz (o := .frz o (.lst vs)) hp (Same.new (o := .lst vs) hp)
    exact k _ _ (s2.trans (.same sm)) ⟨p, o, vs, rfl, upd_same, DiA.mono (.same sm) _ _ hd⟩
end
end HD
end
section
namespace HD
open PySem PySem.Spec PyProof.Rows L2

/-! ### subscripts, slices, sums of sequences -/
theorem DiA.at {H : Hp} {ds : List PyData} {xs : List V} {i : Int} {d : PyData} (h : DiA H ds xs) (e : atI ds i = some d) : ∃ v, atI xs i = some v ∧ Di H d v := by
  unfold atI at e ⊢
  rw [h.length]
  cases q : ixN ds.length i with
  | none => rw [q] at e; cases e
  | some j =>
    rw [q] at e
    exact h.get (i := j) e
def cutD {α : Type} (ds : List α) (lo hi : Option Int) : List α := (ds.drop (HT.sIx ds.length 0 lo)).take (HT.sIx ds.length ds.length hi - HT.sIx ds.length 0 lo)
theorem cutD_map {α β : Type} (f : α → β) (ds : List α) (lo hi : Option Int) : cutD (ds.map f) lo hi = (cutD ds lo hi).map f := by
  unfold cutD
  rw [List.length_map, List.map_take, List.map_drop]
theorem cutD_whole {α : Type} {ds : List α} {lo hi : Option Int} (h : HT.sIx ds.length 0 lo = 0 ∧ HT.sIx ds.length ds.length hi = ds.length) : cutD ds lo hi = ds := by
  unfold cutD
  rw [h.1, h.2]
  simp
theorem cutD_nat {α : Type} (ds : List α) (i j : Nat) : cutD ds (some (i : Int)) (some (j : Int)) = (ds.drop i).take (j - i) := by
  unfold cutD
  rw [HT.sIx_nat, HT.sIx_nat]
  by_cases hi : i ≤ ds.length
  · rw [Nat.min_eq_left hi]
    by_cases hj : j ≤ ds.length
    · rw [Nat.min_eq_left hj]
    · rw [Nat.min_eq_right (by omega), List.take_of_length_le (by rw [List.length_drop]; omega), List.take_of_length_le (by rw [List.length_drop]; omega)]
  · have e1 : ds.drop i = [] := List.drop_eq_nil_iff.mpr (by omega)
    rw [show min i ds.length = ds.length by omega, e1, List.drop_length]
    simp
theorem cutD_from {α : Type} (ds : List α) (i : Nat) : cutD ds (some (i : Int)) none = ds.drop i := by
  unfold cutD
  rw [HT.sIx_nat, HT.sIx_none]
  by_cases hi : i ≤ ds.length
  · rw [Nat.min_eq_left hi, List.take_of_length_le (by rw [List.length_drop]; omega)]
  · have e1 : ds.drop i = [] := List.drop_eq_nil_iff.mpr (by omega)
    rw [Nat.min_eq_right (by omega), e1, List.drop_length]
    simp
theorem cutD_to {α : Type} (ds : List α) (j : Nat) : cutD ds none (some (j : Int)) = ds.take j := by
  unfold cutD
  rw [HT.sIx_nat, HT.sIx_none]
  by_cases hj : j ≤ ds.length
  · rw [Nat.min_eq_left hj]; simp
  · rw [Nat.min_eq_right (by omega)]; simp; rw [List.take_of_length_le (by omega)]
theorem sIx_neg (n d k : Nat) (h : 0 < k) : HT.sIx n d (some (-(k : Int))) = n - k := by
  unfold HT.sIx
  have : (-(k : Int)) < 0 := by omega
  simp only [this, if_true]
  first
    | omega
    | (split <;> omega)
theorem cutD_last {α : Type} (ds : List α) (k : Nat) (h : 0 < k) : cutD ds (some (-(k : Int))) none = ds.drop (ds.length - k) := by
  unfold cutD
  rw [sIx_neg _ _ _ h, HT.sIx_none, List.take_of_length_le (by rw [List.length_drop]; omega)]
theorem cutD_but {α : Type} (ds : List α) (k : Nat) (h : 0 < k) : cutD ds none (some (-(k : Int))) = ds.take (ds.length - k) := by
  unfold cutD
  rw [sIx_neg _ _ _ h, HT.sIx_none]
  simp
theorem DiA.cut {H : Hp} {ds : List PyData} {xs : List V} (h : DiA H ds xs) (lo hi : Option Int) : DiA H (cutD ds lo hi) (cutV xs lo hi) := by
  have e : cutV xs lo hi = cutD xs lo hi := rfl
  rw [e]
  unfold cutD
  rw [h.length]
  exact (h.drop _).take _
section
variable {K : PySem.W.Frag} {c : Ct} {δ : List Sl} {M : Mem} {ta tb te tx : TE} {t u : TT} {s s' z : Sl} {ds es : List PyData} {d : PyData}
theorem ed_ixT {i : Int} (ha : Ed c ta δ M (.d (.tuple ds))) (hb : Ed c tb δ M (.d (.int i))) (e : atI ds i = some d) : Ed c (tOp (rIxT K) ta tb) δ M (.d d) :=
  ed_op ha hb fun H x y hx hy Q k => by
    obtain ⟨a, xs, rfl, h1, h2⟩ := hx
    obtain ⟨v, e1, e2⟩ := h2.at e
    exact ⟨a, xs, i, v, rfl, hy, .inl h1, e1, k v H (Same.refl H) e2⟩
theorem ed_ixL {i : Int} (ha : Ed c ta δ M (.d (.list ds))) (hb : Ed c tb δ M (.d (.int i))) (e : atI ds i = some d) : Ed c (tOp (rIxL K) ta tb) δ M (.d d) :=
  ed_op ha hb fun H x y hx hy Q k => by
    obtain ⟨a, o, xs, rfl, h1, h2⟩ := hx
    obtain ⟨v, e1, e2⟩ := h2.at e
    exact ⟨a, xs, i, v, rfl, hy, .inl (.inr ⟨o, h1⟩), e1, k v H (Same.refl H) e2⟩
/-- a part of a slice -/
def Eo (c : Ct) (to : TO) (δ : List Sl) (M : Mem) (o : Option Int) : Prop := ∀ σ H, Wd c δ M σ H → ∀ Q : Option Int → Hp → Prop, (∀ H2, Stp c H H2 → Q o H2) → to σ H Q
theorem eo_none : Eo c tNoPart δ M none := fun σ H w Q k => k H .refl
theorem eo_some {i : Int} (h : Ed c te δ M (.d (.int i))) : Eo c (tPart te) δ M (some i) := fun σ H w Q k => h σ H w _ fun v H2 s2 hv => ⟨i, hv, k H2 s2⟩
theorem ed_slT {tl th : TO} {lo hi : Option Int} (h : Ed c te δ M (.d (.tuple ds))) (h1 : Eo c tl δ M lo) (h2 : Eo c th δ M hi) : Ed c (tSl (rSlA K) te tl th) δ M (.d (.tuple (cutD ds lo hi))) := fun σ H w Q k =>
  h σ H w _ fun v H1 s1 hv => h1 σ H1 (w.step s1) _ fun H2 s2 => h2 σ H2 ((w.step s1).step s2) _ fun H3 s3 => by
    obtain ⟨a, xs, rfl, e1, e2⟩ := (show Di H3 (.tuple ds) v from Di.mono (s2.i.trans s3.i) _ _ hv)
    refine ⟨a, xs, rfl, .inl e1, fun hw => ?_, fun hw p hp => ?_⟩
    · refine k _ _ ((s1.trans s2).trans s3) ?_
      rw [e2.length] at hw
      rw [cutD_whole hw]
      exact ⟨a, xs, rfl, e1, e2⟩
    · exact k _ _ (((s1.trans s2).trans s3).trans (.same (Same.new hp))) ⟨p, _, rfl, .inl upd_same, DiA.mono (.new hp) _ _ (e2.cut lo hi)⟩
theorem ed_slL {tl th : TO} {lo hi : Option Int} (h : Ed c te δ M (.d (.list ds))) (h1 : Eo c tl δ M lo) (h2 : Eo c th δ M hi) : Ed c (tFz (tSl (rSlL K) te tl th)) δ M (.d (.list (cutD ds lo hi))) := fun σ H w Q k =>
  h σ H w _ fun v H1 s1 hv => h1 σ H1 (w.step s1) _ fun H2 s2 => h2 σ H2 ((w.step s1).step s2) _ fun H3 s3 => by
    obtain ⟨a, o, xs, rfl, e1, e2⟩ := (show Di H3 (.list ds) v from Di.mono (s2.i.trans s3.i) _ _ hv)
    refine ⟨a, xs, rfl, .inl (.inr ⟨o, e1⟩), fun p hp => ⟨p, _, rfl, upd_same, trivial, fun o' => ?_⟩⟩
    have sm := same_frz (o := .frz o' (.lst (cutV xs lo hi))) hp (Same.new (o := .lst (cutV xs lo hi)) hp)
    exact k _ _ (((s1.trans s2).trans s3).trans (.same sm)) ⟨p, o', _, rfl, upd_same, DiA.mono (.same sm) _ _ (e2.cut lo hi)⟩
theorem ed_catT (ha : Ed c ta δ M (.d (.tuple ds))) (hb : Ed c tb δ M (.d (.tuple es))) (hl : ds.length + es.length ≤ 100000) : Ed c (tOp (rCatA K) ta tb) δ M (.d (.tuple (ds ++ es))) :=
  ed_op ha hb fun H x y hx hy Q k => by
    obtain ⟨a, xs, rfl, h1, h2⟩ := hx
    obtain ⟨b, ys, rfl, h3, h4⟩ := hy
    have l1 := h2.length
    have l2 := h4.length
    refine ⟨a, b, xs, ys, rfl, rfl, .inl h1, .inl h3, by rw [l1, l2]; exact Evl.sz_of hl, fun e => ?_, fun _ e => ?_, fun _ _ p hp => ?_⟩
    · subst e
      have : ds = [] := List.eq_nil_of_length_eq_zero l1.symm
      subst this
      exact k _ H (Same.refl H) ⟨b, ys, rfl, h3, h4⟩
    · subst e
      have : es = [] := List.eq_nil_of_length_eq_zero l2.symm
      subst this
      rw [List.append_nil] at k
      exact k _ H (Same.refl H) ⟨a, xs, rfl, h1, h2⟩
    · exact k _ _ (Same.new hp) ⟨p, _, rfl, .inl upd_same, DiA.mono (.new hp) _ _ (h2.append h4)⟩
/-! ### calls -/
theorem ed_cb {r : List V → Hp → VK → Prop} {tt : TA} {ss : List Sl} (h : EdA c tt δ M ss) (hr : ∀ H vs, SlA H ss vs → ∀ Q : VK, (∀ v H2, Same H H2 → z.ok H2 v → Q v H2) → r vs H Q) : Ed c (tCB r tt) δ M z := fun σ H w Q k =>
  h σ H w _ fun vs H1 s1 hv => hr H1 vs hv Q fun v H2 s2 hz => k v H2 (s1.trans (.same s2)) hz
theorem sl1 {H : Hp} {vs : List V} (h : SlA H [s] vs) : ∃ v, vs = [v] ∧ s.ok H v := by
  obtain ⟨v, r, e, h1, h2⟩ := h
  have h2 : r = [] := h2
  subst h2
  exact ⟨v, e, h1⟩
theorem sl2 {H : Hp} {vs : List V} (h : SlA H [s, s'] vs) : ∃ v u, vs = [v, u] ∧ s.ok H v ∧ s'.ok H u := by
  obtain ⟨v, r, e, h1, h2⟩ := h
  obtain ⟨u, e2, h3⟩ := sl1 h2
  subst e2
  exact ⟨v, u, e, h1, h3⟩
theorem ed_lenT (ha : Ed c ta δ M (.d (.tuple ds))) : Ed c (tCB (fun xs H Q => ∃ p ys, xs = [.ref p] ∧ (SqL K H p ys ∨ SqT K H p ys) ∧ Q (.int ys.length) H) (tCons ta tNil)) δ M (.d (.int (ds.length : Int))) :=
  ed_cb (ea_cons ha ea_nil) fun H vs hv Q k => by
    obtain ⟨v, rfl, a, xs, rfl, h1, h2⟩ := sl1 hv
    exact ⟨a, xs, rfl, .inr (.inl h1), k _ H (Same.refl H) (by rw [h2.length]; rfl)⟩
theorem ed_lenL (ha : Ed c ta δ M (.d (.list ds))) : Ed c (tCB (fun xs H Q => ∃ p ys, xs = [.ref p] ∧ (SqL K H p ys ∨ SqT K H p ys) ∧ Q (.int ys.length) H) (tCons ta tNil)) δ M (.d (.int (ds.length : Int))) :=
  ed_cb (ea_cons ha ea_nil) fun H vs hv Q k => by
    obtain ⟨v, rfl, a, o, xs, rfl, h1, h2⟩ := sl1 hv
    exact ⟨a, xs, rfl, .inl (.inl (.inr ⟨o, h1⟩)), k _ H (Same.refl H) (by rw [h2.length]; rfl)⟩
theorem ed_lenS {x : Str} (ha : Ed c ta δ M (.d (.str x))) (hl : x.length ≤ 100000) : Ed c (tCB (fun xs H Q => ∃ z, xs = [.str z] ∧ z.length ≤ sizeLine ∧ Q (.int z.length) H) (tCons ta tNil)) δ M (.d (.int (x.length : Int))) :=
  ed_cb (ea_cons ha ea_nil) fun H vs hv Q k => by
    obtain ⟨v, rfl, e⟩ := sl1 hv
    have e : v = .str x := e
    subst e
    exact ⟨x, rfl, Evl.sz_of hl, k _ H (Same.refl H) rfl⟩
theorem DiA.bools {H : Hp} : ∀ {bs : List Bool} {xs : List V}, DiA H (bs.map .bool) xs → xs = bs.map V.bl
  | [], _, h => h
  | b :: bs, _, h => by
    obtain ⟨x, r, e, h1, h2⟩ := h
    have h1 : x = .bl b := h1
    subst h1
    rw [e, DiA.bools h2]; rfl
theorem ed_all {bs : List Bool} (ha : Ed c ta δ M (.d (.list (bs.map .bool)))) : Ed c (tCB (rAll K) (tCons ta tNil)) δ M (.d (.bool (bs.all id))) :=
  ed_cb (ea_cons ha ea_nil) fun H vs hv Q k => by
    obtain ⟨v, rfl, a, o, xs, rfl, h1, h2⟩ := sl1 hv
    have := h2.bools
    subst this
    exact ⟨a, bs, rfl, .inl (.inr ⟨o, h1⟩), k _ H (Same.refl H) rfl⟩
theorem ed_any {bs : List Bool} (ha : Ed c ta δ M (.d (.list (bs.map .bool)))) : Ed c (tCB (rAny K) (tCons ta tNil)) δ M (.d (.bool (bs.any id))) :=
  ed_cb (ea_cons ha ea_nil) fun H vs hv Q k => by
    obtain ⟨v, rfl, a, o, xs, rfl, h1, h2⟩ := sl1 hv
    have := h2.bools
    subst this
    exact ⟨a, bs, rfl, .inl (.inr ⟨o, h1⟩), k _ H (Same.refl H) rfl⟩
theorem ed_min2 {i j : Int} (ha : Ed c ta δ M (.d (.int i))) (hb : Ed c tb δ M (.d (.int j))) : Ed c (tCB (fun xs H Q => ∃ i j, xs = [.int i, .int j] ∧ Q (.int (if j < i then j else i)) H) (tCons ta (tCons tb tNil))) δ M (.d (.int (if j < i then j else i))) :=
  ed_cb (ea_cons ha (ea_cons hb ea_nil)) fun H vs hv Q k => by
    obtain ⟨v, u, rfl, e1, e2⟩ := sl2 hv
    have e1 : v = .int i := e1
    have e2 : u = .int j := e2
    subst e1 e2
    exact ⟨i, j, rfl, k _ H (Same.refl H) rfl⟩
abbrev rTupOf (K : PySem.W.Frag) : List V → Hp → VK → Prop := fun xs H Q => ∃ p ys, xs = [.ref p] ∧ ((SqL K H p ys ∧ ∀ l, H l = none → Q (.ref l) (upd H l (.tup ys))) ∨ (SqT K H p ys ∧ Q (.ref p) H))
theorem ed_tupL (ha : Ed c ta δ M (.d (.list ds))) : Ed c (tCB (rTupOf K) (tCons ta tNil)) δ M (.d (.tuple ds)) :=
  ed_cb (ea_cons ha ea_nil) fun H vs hv Q k => by
    obtain ⟨v, rfl, a, o, xs, rfl, h1, h2⟩ := sl1 hv
    exact ⟨a, xs, rfl, .inl ⟨.inl (.inr ⟨o, h1⟩), fun l hl => k _ _ (Same.new hl) ⟨l, xs, rfl, .inl upd_same, DiA.mono (.new hl) _ _ h2⟩⟩⟩
theorem ed_tupT (ha : Ed c ta δ M (.d (.tuple ds))) : Ed c (tCB (rTupOf K) (tCons ta tNil)) δ M (.d (.tuple ds)) :=
  ed_cb (ea_cons ha ea_nil) fun H vs hv Q k => by
    obtain ⟨v, rfl, a, xs, rfl, h1, h2⟩ := sl1 hv
    exact ⟨a, xs, rfl, .inr ⟨.inl h1, k _ _ (Same.refl H) ⟨a, xs, rfl, h1, h2⟩⟩⟩
abbrev rLstOf (K : PySem.W.Frag) : List V → Hp → VK → Prop := fun xs H Q => ∃ p ys, xs = [.ref p] ∧ (SqL K H p ys ∨ SqT K H p ys) ∧ ∀ l, H l = none → Q (.ref l) (upd H l (.lst ys))
theorem ed_fz {r : TE} {P : VK} (h : ∀ σ H, Wd c δ M σ H → ∀ Q : VK, (∀ p H2 xs, H p = none → Stp c H H2 → H2 p = none → DiA H2 ds xs → Q (.ref p) (upd H2 p (.lst xs))) → r σ H Q) : Ed c (tFz r) δ M (.d (.list ds)) := fun σ H w Q k =>
  h σ H w _ fun p H2 xs hp0 s2 hp hd => ⟨p, _, rfl, upd_same, trivial, fun o => by
    have sm := same_frz (o := .frz o (.lst xs)) hp (Same.new (o := .lst xs) hp)
    exact k _ _ (s2.trans (.same sm)) ⟨p, o, xs, rfl, upd_same, DiA.mono (.same sm) _ _ hd⟩⟩
theorem ed_lstT (ha : Ed c ta δ M (.d (.tuple ds))) : Ed c (tFz (tCB (rLstOf K) (tCons ta tNil))) δ M (.d (.list ds)) := fun σ H w Q k =>
  ha σ H w _ fun v H1 s1 hv => by
    obtain ⟨a, xs, rfl, h1, h2⟩ := hv
    refine ⟨a, xs, rfl, .inr (.inl h1), fun l hl => ⟨l, _, rfl, upd_same, trivial, fun o => ?_⟩⟩
    have sm := same_frz (o := .frz o (.lst xs)) hl (Same.new (o := .lst xs) hl)
    exact k _ _ (s1.trans (.same sm)) ⟨l, o, xs, rfl, upd_same, DiA.mono (.same sm) _ _ h2⟩
theorem ed_lstL (ha : Ed c ta δ M (.d (.list ds))) : Ed c (tFz (tCB (rLstOf K) (tCons ta tNil))) δ M (.d (.list ds)) := fun σ H w Q k =>
  ha σ H w _ fun v H1 s1 hv => by
    obtain ⟨a, o', xs, rfl, h1, h2⟩ := hv
    refine ⟨a, xs, rfl, .inl (.inl (.inr ⟨o', h1⟩)), fun l hl => ⟨l, _, rfl, upd_same, trivial, fun o => ?_⟩⟩
    have sm := same_frz (o := .frz o (.lst xs)) hl (Same.new (o := .lst xs) hl)
    exact k _ _ (s1.trans (.same sm)) ⟨l, o, xs, rfl, upd_same, DiA.mono (.same sm) _ _ h2⟩
/-- a promise told by data: which arguments, which answer; all that was tracked stays -/
def SpD (pre : List Sl → Sl → Prop) : Sp := fun vs H Q _ => ∃ ss r, pre ss r ∧ SlA H ss vs ∧ ∀ v H2, Same H H2 → r.ok H2 v → Q v H2
theorem ed_call {pre : List Sl → Sl → Prop} {E : XK} {tt : TA} {ss : List Sl} (h : EdA c tt δ M ss) (hp : pre ss z) : Ed c (tCall (SpD pre) [] E tt) δ M z := fun σ H w Q k =>
  h σ H w _ fun vs H1 s1 hv => ⟨ss, z, hp, by rw [List.append_nil]; exact hv, fun v H2 s2 hz => k v H2 (s1.trans (.same s2)) hz⟩
theorem ed_callL {pre : List Sl → Sl → Prop} {E : XK} {tt : TA} {ss : List Sl} {i : Nat} {f : Addr} (hi : δ[i]? = some (.v (.ref f))) (h : EdA c tt δ M ss) (hp : pre ss z) : Ed c (tCallL i f (SpD pre) [] E tt) δ M z := fun σ H w Q k =>
  ⟨w.env.getv hi, h σ H w _ fun vs H1 s1 hv => ⟨ss, z, hp, by rw [List.append_nil]; exact hv, fun v H2 s2 hz => k v H2 (s1.trans (.same s2)) hz⟩⟩
/-- keywords: gV brings the values into the def's order -/
theorem ed_callK {pre : List Sl → Sl → Prop} {E : XK} {tt tk : TA} {ss ks ts : List Sl} {gV : List V → List V → List V} (h : EdA c tt δ M ss) (h2 : EdA c tk δ M ks) (hg : ∀ H vs zs, SlA H ss vs → SlA H ks zs → SlA H ts (gV vs zs)) (hp : pre ts z) : Ed c (tCallK (SpD pre) gV E tt tk) δ M z := fun σ H w Q k =>
  h σ H w _ fun vs H1 s1 hv => h2 σ H1 (w.step s1) _ fun zs H2 s2 hz => ⟨ts, z, hp, hg H2 vs zs (hv.mono s2.i) hz, fun v H3 s3 hr => k v H3 ((s1.trans s2).trans (.same s3)) hr⟩
/-! ### isinstance -/
def tyD : PyData → String
  | .none => "NoneType"
  | .bool _ => "bool"
  | .int _ => "int"
  | .str _ => "str"
  | .list _ => "list"
  | .tuple _ => "tuple"
  | .dict ((.none, _) :: _) => "tuple"
  | .dict _ => "dict"
theorem Di.ty {H : Hp} {d : PyData} {v : V} (h : Di H d v) : TyX K H v (.type (tyD d)) := by
  cases d with
  | none => have h : v = .non := h; subst h; exact .base .non
  | bool b => have h : v = .bl b := h; subst h; exact .base (.bl b)
  | int i => have h : v = .int i := h; subst h; exact .base (.int i)
  | str x => have h : v = .str x := h; subst h; exact .base (.str x)
  | list ds => obtain ⟨a, o, xs, e, h1, _⟩ := h; subst e; exact .base (.frz h1)
  | tuple ds =>
    obtain ⟨a, xs, e, h1, _⟩ := h
    subst e
    rcases h1 with h1 | ⟨o, h1⟩
    · exact .base (.tup h1)
    · exact .fTuple h1
  | dict ds =>
    rcases h with ⟨a, o, xs, e, h1, h2⟩ | h
    · subst e
      have : tyD (.dict ds) = "dict" := by
        cases ds with
        | nil => rfl
        | cons p r =>
          obtain ⟨k, d⟩ := p
          obtain ⟨kk, x, r', _, e0, _⟩ := h2
          subst e0
          cases kk <;> rfl
      rw [this]
      exact .fDict h1
    · cases ds with
      | nil => exact h.elim
      | cons p r =>
        obtain ⟨k, d⟩ := p
        obtain ⟨e0, _, ⟨a, o, xs, e, h1, _⟩, _⟩ := h
        subst e0 e
        exact .fTuple h1
theorem ed_isi {n : String} {b : Bool} (ha : Ed c ta δ M (.d d)) (hb : kitB (tyD d) n = some b) : Ed c (tCB (rIsi K) (tCons ta (tCons (tC (.ty n)) tNil))) δ M (.d (.bool b)) :=
  ed_cb (ea_cons ha (ea_cons ed_c ea_nil)) fun H vs hv Q k => by
    obtain ⟨v, u, rfl, h1, h2⟩ := sl2 hv
    have h2 : u = .ty n := h2
    subst h2
    exact ⟨v, .ty n, _, _, b, rfl, .ty n, Di.ty h1, kit_ty hb, k _ H (Same.refl H) rfl⟩
/-- isinstance(x, (list, tuple)) -/
theorem ed_isi2 {n m : String} {b b' : Bool} (ha : Ed c ta δ M (.d d)) (hb : kitB (tyD d) n = some b) (hb' : kitB (tyD d) m = some b') :
    Ed c (tCB (rIsiT K) (tCons ta (tCons (tTup (tCons (tC (.ty n)) (tCons (tC (.ty m)) tNil))) tNil))) δ M (.d (.bool (b || b'))) := fun σ H w Q k =>
  ha σ H w _ fun v H1 s1 hv => ⟨by show 2 ≤ sizeLine; decide, fun p hp => ⟨v, p, [.ty n, .ty m], .type (tyD d), [.type n, .type m], b || b', rfl, upd_same, .cons (.ty n) (.cons (.ty m) .nil), Di.ty (Di.mono (.new hp) _ _ hv),
    kitAny_cons (kit_ty hb) (fun e => kitAny_cons (kit_ty hb') (fun e' => by rw [e, e']; exact kitAny_nil) (fun e' => by rw [e, e']; rfl)) (fun e => by rw [e]; rfl), k _ _ (s1.trans (.same (Same.new hp))) rfl⟩⟩
/-! ### comparisons of data -/
theorem ed_eqD {e : PyData} (ha : Ed c ta δ M (.d d)) (hb : Ed c tb δ M (.d e)) (h1 : SeqAt.shaped d = true) (h2 : SeqAt.shaped e = true) : Ed c (tOp (rEqD K) ta tb) δ M (.d (.bool (PyData.eqv d e))) :=
  ed_op ha hb fun H x y hx hy Q k => ⟨d, e, Di.dp _ _ (SeqAt.canLay_of_shaped h1) hx, Di.dp _ _ (SeqAt.canLay_of_shaped h2) hy, h1, h2, k _ H (Same.refl H) rfl⟩
theorem ed_neD {e : PyData} (ha : Ed c ta δ M (.d d)) (hb : Ed c tb δ M (.d e)) (h1 : SeqAt.shaped d = true) (h2 : SeqAt.shaped e = true) : Ed c (tOp (rNeD K) ta tb) δ M (.d (.bool (!PyData.eqv d e))) :=
  ed_op ha hb fun H x y hx hy Q k => ⟨d, e, Di.dp _ _ (SeqAt.canLay_of_shaped h1) hx, Di.dp _ _ (SeqAt.canLay_of_shaped h2) hy, h1, h2, k _ H (Same.refl H) rfl⟩
end

/-! ### what is walked -/
def Es (c : Ct) (wi : TI) (δ : List Sl) (M : Mem) (ds : List PyData) : Prop := ∀ σ H, Wd c δ M σ H → ∀ R : It → Hp → Prop,
  (∀ J H1 (G : Hp → Prop), Stp c H H1 → (∀ Ha Hb, Imx Ha Hb → G Ha → G Hb) → G H1 → Walk J ds.length G (fun i Ha x Hb => ∃ d, ds[i]? = some d ∧ Same Ha Hb ∧ Di Hb d x) → R J H1) → wi σ H R
section
variable {K : PySem.W.Frag} {c : Ct} {δ : List Sl} {M : Mem} {ta tb te tx : TE} {t u : TT} {s s' z : Sl} {ds es : List PyData} {d : PyData}
theorem es_list (h : Ed c te δ M (.d (.list ds))) : Es c (iList K te) δ M ds := fun σ H w R k => h σ H w _ fun v H1 s1 hv => by
  obtain ⟨a, o, xs, rfl, h1, h2⟩ := hv
  refine ⟨a, rfl, ⟨xs, .inl (.inr ⟨o, h1⟩)⟩, k _ H1 (fun H => H a = some (.frz o (.lst xs)) ∧ DiA H ds xs) s1 (fun Ha Hb i g => ⟨i.f _ _ _ g.1, DiA.mono i _ _ g.2⟩) ⟨h1, h2⟩ ?_⟩
  have hw : Walk (Itl K a) xs.length (fun H => SqL K H a xs) (YAt xs) := walk_list
  rw [← h2.length]
  refine hw.mono (fun H g => .inl (.inr ⟨o, g.1⟩)) fun i Ha x Hb hi g y => ?_
  obtain ⟨d, e1, e2⟩ := g.2.getv y.2
  obtain ⟨rfl, _⟩ := y
  exact ⟨d, e1, Same.refl _, e2⟩
theorem es_tup (h : Ed c te δ M (.d (.tuple ds))) : Es c (iTup K te) δ M ds := fun σ H w R k => h σ H w _ fun v H1 s1 hv => by
  obtain ⟨a, xs, rfl, h1, h2⟩ := hv
  refine ⟨a, rfl, ⟨xs, .inl h1⟩, k _ H1 (fun H => Rd H a (.tup xs) ∧ DiA H ds xs) s1 (fun Ha Hb i g => ⟨i.rd g.1, DiA.mono i _ _ g.2⟩) ⟨h1, h2⟩ ?_⟩
  have hw : Walk (Itt K a) xs.length (fun H => SqT K H a xs) (YAt xs) := walk_tup
  rw [← h2.length]
  refine hw.mono (fun H g => .inl g.1) fun i Ha x Hb hi g y => ?_
  obtain ⟨d, e1, e2⟩ := g.2.getv y.2
  obtain ⟨rfl, _⟩ := y
  exact ⟨d, e1, Same.refl _, e2⟩
def rangeD (lo : Int) (n : Nat) : List PyData := (List.range n).map fun (i : Nat) => PyData.int (lo + (i : Int))
theorem rangeD_get {lo : Int} {n i : Nat} (h : i < n) : (rangeD lo n)[i]? = some (.int (lo + (i : Int))) := by simp [rangeD, h]
theorem es_rng1 {tt : TA} {n : Int} (h : EdA c tt δ M [.d (.int n)]) (hn : n ≤ 100000) (h0 : -100000 ≤ n := by omega) : Es c (iRng1 tt) δ M (rangeD 0 n.toNat) := fun σ H w R k => h σ H w _ fun vs H1 s1 hv => by
  obtain ⟨v, rfl, e⟩ := sl1 hv
  have e : v = .int n := e
  subst e
  refine ⟨n, rfl, by omega, by omega, k _ H1 (fun _ => True) s1 (fun _ _ _ _ => trivial) trivial ?_⟩
  have hw : Walk (Itr 0 n.toNat) n.toNat (fun _ => True) (YFn fun i => .int (0 + i)) := walk_range
  rw [show (rangeD 0 n.toNat).length = n.toNat by simp [rangeD]]
  refine hw.mono (fun _ _ => trivial) fun i Ha x Hb hi _ y => ?_
  obtain ⟨rfl, rfl⟩ := y
  exact ⟨_, rangeD_get hi, Same.refl _, rfl⟩
theorem es_rng2 {tt : TA} {lo n : Int} (h : EdA c tt δ M [.d (.int lo), .d (.int n)]) (hn : -100000 ≤ lo ∧ lo ≤ 100000 ∧ -100000 ≤ n ∧ n ≤ 100000) : Es c (iRng2 tt) δ M (rangeD lo (n - lo).toNat) := fun σ H w R k => h σ H w _ fun vs H1 s1 hv => by
  obtain ⟨v, u, rfl, e, e2⟩ := sl2 hv
  have e : v = .int lo := e
  have e2 : u = .int n := e2
  subst e e2
  refine ⟨lo, n, rfl, ⟨by omega, by omega, by omega, by omega⟩, k _ H1 (fun _ => True) s1 (fun _ _ _ _ => trivial) trivial ?_⟩
  have hw : Walk (Itr lo (n - lo).toNat) (n - lo).toNat (fun _ => True) (YFn fun i => .int (lo + i)) := walk_range
  rw [show (rangeD lo (n - lo).toNat).length = (n - lo).toNat by simp [rangeD]]
  refine hw.mono (fun _ _ => trivial) fun i Ha x Hb hi _ y => ?_
  obtain ⟨rfl, rfl⟩ := y
  exact ⟨_, rangeD_get hi, Same.refl _, rfl⟩
def signsD (x : Str) : List PyData := x.cps.toList.map fun n => .str ⟨#[n]⟩
theorem es_str {x : Str} (h : Ed c te δ M (.d (.str x))) : Es c (iStr te) δ M (signsD x) := fun σ H w R k => h σ H w _ fun v H1 s1 hv => by
  refine ⟨x, hv, k _ H1 (fun _ => True) s1 (fun _ _ _ _ => trivial) trivial ?_⟩
  have hw := walk_str (z := x)
  rw [show (signsD x).length = x.cps.size by simp [signsD]]
  refine hw.mono (fun _ _ => trivial) fun i Ha y Hb hi _ e => ?_
  obtain ⟨rfl, n, e1, rfl⟩ := e
  exact ⟨.str ⟨#[n]⟩, by simp [signsD, e1], Same.refl _, rfl⟩
/-- pairs that a walk makes -/
theorem pair_di {H Hb : Hp} {a b : PyData} {T : Addr} {x y : V} (hT : H T = none) (e : Hb = upd H T (.tup [x, y])) (h1 : Di H a x) (h2 : Di H b y) : Same H Hb ∧ Di Hb (.tuple [a, b]) (.ref T) := by
  subst e
  exact ⟨Same.new hT, T, _, rfl, .inl upd_same, x, [y], rfl, Di.mono (.new hT) _ _ h1, y, [], rfl, Di.mono (.new hT) _ _ h2, rfl⟩
def enumD (ds : List PyData) : List PyData := ds.mapIdx fun i d => .tuple [.int (i : Int), d]
theorem es_enumL {tt : TA} (h : EdA c tt δ M [.d (.list ds)]) : Es c (iEnum K tt) δ M (enumD ds) := fun σ H w R k => h σ H w _ fun vs H1 s1 hv => by
  obtain ⟨v, rfl, a, o, xs, rfl, h1, h2⟩ := sl1 hv
  refine ⟨a, xs, rfl, .inl (.inr ⟨o, h1⟩), k _ H1 (fun H => H a = some (.frz o (.lst xs)) ∧ DiA H ds xs) s1 (fun Ha Hb i g => ⟨i.f _ _ _ g.1, DiA.mono i _ _ g.2⟩) ⟨h1, h2⟩ ?_⟩
  have hw : Walk (Ite K a) xs.length (fun H => SqL K H a xs) (YPair (fun i => some (.int (i : Nat))) (fun i => xs[i]?)) := walk_enum
  rw [show (enumD ds).length = xs.length by simp [enumD, h2.length]]
  refine hw.mono (fun H g => .inl (.inr ⟨o, g.1⟩)) fun i Ha x Hb hi g y => ?_
  obtain ⟨T, x1, x2, rfl, hT, e, e1, e2⟩ := y
  obtain ⟨d, e3, e4⟩ := g.2.getv e2
  have e1 := Option.some.inj e1
  subst e1
  obtain ⟨q1, q2⟩ := pair_di (a := .int (i : Int)) hT e rfl e4
  exact ⟨_, by simp [enumD, e3], q1, q2⟩
def zipD (ds es : List PyData) : List PyData := (ds.zip es).map fun p => .tuple [p.1, p.2]
theorem zipD_get {ds es : List PyData} {i : Nat} {d e : PyData} (h1 : ds[i]? = some d) (h2 : es[i]? = some e) : (zipD ds es)[i]? = some (.tuple [d, e]) := by
  have h : (ds.zip es)[i]? = some (d, e) := by rw [List.getElem?_zip_eq_some]; exact ⟨h1, h2⟩
  unfold zipD
  rw [List.getElem?_map, h]; rfl
theorem es_zipT {tt : TA} (h : EdA c tt δ M [.d (.tuple ds), .d (.tuple es)]) : Es c (RZ.iZipA K tt) δ M (zipD ds es) := fun σ H w R k => h σ H w _ fun vs H1 s1 hv => by
  obtain ⟨v, u, rfl, ⟨a, xs, rfl, h1, h2⟩, ⟨b, ys, rfl, h3, h4⟩⟩ := sl2 hv
  refine ⟨a, b, xs, ys, rfl, .inr ⟨.inl h1, .inl h3, k _ H1 (fun H => (Rd H a (.tup xs) ∧ DiA H ds xs) ∧ (Rd H b (.tup ys) ∧ DiA H es ys)) s1
    (fun Ha Hb i g => ⟨⟨i.rd g.1.1, DiA.mono i _ _ g.1.2⟩, ⟨i.rd g.2.1, DiA.mono i _ _ g.2.2⟩⟩) ⟨⟨h1, h2⟩, h3, h4⟩ ?_⟩⟩
  have l1 := h2.length
  have l2 := h4.length
  have hl : (zipD ds es).length = min xs.length ys.length := by simp [zipD, l1, l2]
  rw [hl]
  refine ⟨fun i Ha hi g => ?_, fun Ha g => ⟨xs, ys, .inl g.1.1, .inl g.2.1, by omega⟩, fun i Ha x Hb hi g y => ?_⟩
  · have i1 : i < xs.length := by omega
    have i2 : i < ys.length := by omega
    exact ⟨xs, ys, xs[i], ys[i], .inl g.1.1, .inl g.2.1, by simp [i1], by simp [i2]⟩
  · obtain ⟨T, x1, x2, rfl, hT, e, e1, e2⟩ := y
    obtain ⟨d, e3, e4⟩ := g.1.2.getv (e1 xs (.inl g.1.1))
    obtain ⟨d', e5, e6⟩ := g.2.2.getv (e2 ys (.inl g.2.1))
    obtain ⟨q1, q2⟩ := pair_di hT e e4 e6
    exact ⟨_, zipD_get e3 e5, q1, q2⟩
theorem es_zipL {tt : TA} (h : EdA c tt δ M [.d (.list ds), .d (.list es)]) : Es c (RZ.iZipA K tt) δ M (zipD ds es) := fun σ H w R k => h σ H w _ fun vs H1 s1 hv => by
  obtain ⟨v, u, rfl, ⟨a, o, xs, rfl, h1, h2⟩, ⟨b, o', ys, rfl, h3, h4⟩⟩ := sl2 hv
  refine ⟨a, b, xs, ys, rfl, .inl ⟨.inl (.inr ⟨o, h1⟩), .inl (.inr ⟨o', h3⟩), k _ H1 (fun H => (H a = some (.frz o (.lst xs)) ∧ DiA H ds xs) ∧ (H b = some (.frz o' (.lst ys)) ∧ DiA H es ys)) s1
    (fun Ha Hb i g => ⟨⟨i.f _ _ _ g.1.1, DiA.mono i _ _ g.1.2⟩, ⟨i.f _ _ _ g.2.1, DiA.mono i _ _ g.2.2⟩⟩) ⟨⟨h1, h2⟩, h3, h4⟩ ?_⟩⟩
  have l1 := h2.length
  have l2 := h4.length
  have hl : (zipD ds es).length = min xs.length ys.length := by simp [zipD, l1, l2]
  rw [hl]
  refine ⟨fun i Ha hi g => ?_, fun Ha g => ⟨xs, ys, .inl (.inr ⟨o, g.1.1⟩), .inl (.inr ⟨o', g.2.1⟩), by omega⟩, fun i Ha x Hb hi g y => ?_⟩
  · have i1 : i < xs.length := by omega
    have i2 : i < ys.length := by omega
    exact ⟨xs, ys, xs[i], ys[i], .inl (.inr ⟨o, g.1.1⟩), .inl (.inr ⟨o', g.2.1⟩), by simp [i1], by simp [i2]⟩
  · obtain ⟨T, x1, x2, rfl, hT, e, e1, e2⟩ := y
    obtain ⟨d, e3, e4⟩ := g.1.2.getv (e1 xs (.inl (.inr ⟨o, g.1.1⟩)))
    obtain ⟨d', e5, e6⟩ := g.2.2.getv (e2 ys (.inl (.inr ⟨o', g.2.1⟩)))
    obtain ⟨q1, q2⟩ := pair_di hT e e4 e6
    exact ⟨_, zipD_get e3 e5, q1, q2⟩
/-- a frozen dict by its pairs, by its keys -/
def itemsD (kvs : List (PyData × PyData)) : List PyData := kvs.map fun p => .tuple [p.1, p.2]
theorem kd_di {H : Hp} (k : Key) : Di H (kD k) (kV k) := by cases k <;> exact rfl
theorem DiK.length {H : Hp} : ∀ {kvs : List (PyData × PyData)} {ks : List (Key × V)}, DiK H kvs ks → ks.length = kvs.length
  | [], _, h => by have h : _ = [] := h; subst h; rfl
  | (k, d) :: r, _, h => by
    obtain ⟨kk, x, r', e, _, _, h2⟩ := h
    subst e
    rw [List.length_cons, List.length_cons, DiK.length h2]
theorem DiK.getv {H : Hp} : ∀ {kvs : List (PyData × PyData)} {ks : List (Key × V)} {i : Nat} {k : Key} {v : V}, DiK H kvs ks → ks[i]? = some (k, v) → ∃ d, kvs[i]? = some (kD k, d) ∧ Di H d v
  | [], _, _, _, _, h, e => by have h : _ = [] := h; subst h; simp at e
  | (k0, d0) :: r, _, i, k, v, h, e => by
    obtain ⟨kk, x, r', ex, e0, h1, h2⟩ := h
    subst ex
    cases i with
    | zero =>
      have e : (kk, x) = (k, v) := by simpa using e
      cases e
      subst e0
      exact ⟨d0, rfl, h1⟩
    | succ i => exact DiK.getv (i := i) h2 (by simpa using e)
theorem es_items {kvs : List (Str × PyData)} (h : Ed c te δ M (.d (.dict (sK kvs)))) : Es c (iItems te) δ M (itemsD (sK kvs)) := fun σ H w R k => h σ H w _ fun v H1 s1 hv => by
  obtain ⟨a, o, ks, rfl, h1, h2⟩ := Di.dict hv
  refine ⟨a, o, ks, rfl, h1, k _ H1 (fun H => H a = some (.frz o (.dK ks)) ∧ DiK H (sK kvs) ks) s1 (fun Ha Hb i g => ⟨i.f _ _ _ g.1, DiK.mono i _ _ g.2⟩) ⟨h1, h2⟩ ?_⟩
  have hw := walk_items (d := a) (o := o) (kvs := ks)
  rw [show (itemsD (sK kvs)).length = ks.length by simp [itemsD, h2.length]]
  refine hw.mono (fun H g => g.1) fun i Ha x Hb hi g y => ?_
  obtain ⟨T, x1, x2, rfl, hT, e, e1, e2⟩ := y
  have hk : ks[i]? = some ks[i] := List.getElem?_eq_getElem hi
  have e1 : (ks[i]?).map (fun kv => kV kv.1) = some x1 := e1
  have e2 : (ks[i]?).map Prod.snd = some x2 := e2
  rw [hk] at e1 e2
  have e1 := Option.some.inj e1
  have e2 := Option.some.inj e2
  subst e1 e2
  obtain ⟨d, e3, e4⟩ := g.2.getv (k := ks[i].1) (v := ks[i].2) hk
  obtain ⟨q1, q2⟩ := pair_di hT e (kd_di ks[i].1) e4
  exact ⟨_, by simp [itemsD, e3], q1, q2⟩
def keysD (kvs : List (PyData × PyData)) : List PyData := kvs.map (·.1)
theorem es_keys {kvs : List (Str × PyData)} (h : Ed c te δ M (.d (.dict (sK kvs)))) : Es c (iKeys te) δ M (keysD (sK kvs)) := fun σ H w R k => h σ H w _ fun v H1 s1 hv => by
  obtain ⟨a, o, ks, rfl, h1, h2⟩ := Di.dict hv
  refine ⟨a, o, rfl, .inl ⟨ks, h1, k _ H1 (fun H => H a = some (.frz o (.dK ks)) ∧ DiK H (sK kvs) ks) s1 (fun Ha Hb i g => ⟨i.f _ _ _ g.1, DiK.mono i _ _ g.2⟩) ⟨h1, h2⟩ ?_⟩⟩
  have hw := walk_keys (d := a) (o := o) (kvs := ks)
  rw [show (keysD (sK kvs)).length = ks.length by simp [keysD, h2.length]]
  refine hw.mono (fun H g => g.1) fun i Ha x Hb hi g y => ?_
  obtain ⟨rfl, kk, vv, e1, rfl⟩ := y
  obtain ⟨d, e3, e4⟩ := g.2.getv e1
  exact ⟨kD kk, by simp [keysD, e3], Same.refl _, kd_di kk⟩
end
end HD
end
section
namespace HD
open PySem PySem.Spec PyProof.Rows L2
open HR (dput ddrop dlook)

/-! ### dicts of one's own -/
theorem DiS.length {H : Hp} : ∀ {kvs : List (Str × PyData)} {ks : List (Key × V)}, DiS H kvs ks → ks.length = kvs.length
  | [], _, h => by have h : _ = [] := h; subst h; rfl
  | (k, d) :: r, _, h => by
    obtain ⟨x, r', e, _, h2⟩ := h
    subst e
    rw [List.length_cons, List.length_cons, DiS.length h2]
theorem DiS.any {H : Hp} (k : Str) : ∀ {kvs : List (Str × PyData)} {ks : List (Key × V)}, DiS H kvs ks → (ks.any fun e => decide (e.1 = (Sum.inr k : Key))) = (kvs.any fun e => decide (e.1 = k))
  | [], _, h => by have h : _ = [] := h; subst h; rfl
  | (k0, d) :: r, _, h => by
    obtain ⟨x, r', e, _, h2⟩ := h
    subst e
    rw [List.any_cons, List.any_cons, DiS.any k h2, key_rr]
theorem DiS.repl {H : Hp} (k : Str) {d : PyData} {v : V} (hd : Di H d v) : ∀ {kvs : List (Str × PyData)} {ks : List (Key × V)}, DiS H kvs ks → DiS H (kvs.map fun e => if e.1 = k then (e.1, d) else e) (ks.map fun e => if e.1 = (Sum.inr k : Key) then (e.1, v) else e)
  | [], _, h => by have h : _ = [] := h; subst h; exact rfl
  | (k0, d0) :: r, _, h => by
    obtain ⟨x, r', e, h1, h2⟩ := h
    subst e
    have ih := DiS.repl k hd h2
    by_cases hk : k0 = k
    · subst hk
      rw [List.map_cons, List.map_cons, if_pos rfl, if_pos rfl]
      exact ⟨v, _, rfl, hd, ih⟩
    · rw [List.map_cons, List.map_cons, if_neg hk, if_neg (fun z => hk (Sum.inr.inj z))]
      exact ⟨x, _, rfl, h1, ih⟩
theorem DiS.append {H : Hp} : ∀ {kvs ls : List (Str × PyData)} {ks js : List (Key × V)}, DiS H kvs ks → DiS H ls js → DiS H (kvs ++ ls) (ks ++ js)
  | [], _, _, _, h, h' => by have h : _ = [] := h; subst h; exact h'
  | (k0, d0) :: r, _, _, _, h, h' => by
    obtain ⟨x, r', e, h1, h2⟩ := h
    subst e
    exact ⟨x, _, rfl, h1, DiS.append h2 h'⟩
theorem DiS.put {H : Hp} {kvs : List (Str × PyData)} {ks : List (Key × V)} (h : DiS H kvs ks) (k : Str) {d : PyData} {v : V} (hd : Di H d v) : DiS H (dput kvs k d) (putK ks (Sum.inr k) v) := by
  unfold dput putK
  rw [h.any k]
  by_cases e : (kvs.any fun e => decide (e.1 = k)) = true
  · rw [if_pos e, if_pos e]; exact h.repl k hd
  · rw [if_neg e, if_neg e]; exact h.append ⟨v, [], rfl, hd, rfl⟩
theorem DiS.dropK {H : Hp} (k : Str) : ∀ {kvs : List (Str × PyData)} {ks : List (Key × V)}, DiS H kvs ks → DiS H (ddrop kvs k) (L2.dropK ks (Sum.inr k))
  | [], _, h => by have h : _ = [] := h; subst h; exact rfl
  | (k0, d0) :: r, _, h => by
    obtain ⟨x, r', e, h1, h2⟩ := h
    subst e
    have ih := DiS.dropK k h2
    unfold ddrop L2.dropK at *
    by_cases hk : k0 = k
    · subst hk
      rw [List.filter_cons, List.filter_cons, if_neg (by simp), if_neg (by simp)]
      exact ih
    · have hk' : ¬ (Sum.inr k0 : Key) = Sum.inr k := fun z => hk (Sum.inr.inj z)
      rw [List.filter_cons, List.filter_cons, if_pos (by simpa using hk), if_pos (by simpa using hk)]
      exact ⟨x, _, rfl, h1, ih⟩
theorem DiS.look {H : Hp} (k : Str) : ∀ {kvs : List (Str × PyData)} {ks : List (Key × V)}, DiS H kvs ks →
    match dlook kvs k with | some d => ∃ v, valV ks (Sum.inr k) = some v ∧ Di H d v | none => valV ks (Sum.inr k) = none
  | [], _, h => by have h : _ = [] := h; subst h; exact rfl
  | (k0, d0) :: r, _, h => by
    obtain ⟨x, r', e, h1, h2⟩ := h
    subst e
    have ih := DiS.look k h2
    rw [HR.dlook_cons]
    by_cases hk : k0 = k
    · subst hk
      rw [if_pos rfl]
      exact ⟨x, valV_pos rfl, h1⟩
    · rw [if_neg hk, valV_neg (fun z => hk (Sum.inr.inj z))]
      exact ih
theorem length_dput {α : Type} (d : List (Str × α)) (k : Str) (v : α) : (dput d k v).length ≤ d.length + 1 := by
  unfold dput
  split
  · rw [List.length_map]; omega
  · rw [List.length_append]; simp
/-- d[k] of a frozen dict -/
theorem DiK.s {H : Hp} : ∀ {kvs : List (Str × PyData)} {ks : List (Key × V)}, DiK H (sK kvs) ks → DiS H kvs ks
  | [], _, h => h
  | (k, d) :: r, _, h => by
    obtain ⟨kk, x, r', e, e0, h1, h2⟩ := h
    subst e
    cases kk with
    | inl i => cases e0
    | inr k' =>
      have e0 : PyData.str k = .str k' := e0
      cases e0
      exact ⟨x, r', rfl, h1, DiK.s h2⟩

/-! ### judgements on statements -/
def Do (c : Ct) (D : Ends) (t : TS) (δ : List Sl) (M : Mem) : Prop := ∀ σ H, Wd c δ M σ H → t D σ H
def Nx (c : Ct) (K : SSt → Hp → Prop) (δ : List Sl) (M : Mem) : Prop := ∀ σ H, Wd c δ M σ H → K σ H
def Rt (c : Ct) (R : VK) (r : Sl) : Prop := ∀ δ M σ H v, Wd c δ M σ H → r.ok H v → R v H
structure Le (c c' : Ct) : Prop where
  h : c'.H0 = c.H0
  o : c'.own = c.own
  i : Imx c.b c'.b
  z : c'.z = c.z
theorem Le.refl {c : Ct} : Le c c := ⟨rfl, rfl, .refl _, rfl⟩
theorem Wd.le {c c' : Ct} {δ : List Sl} {M : Mem} {σ : SSt} {H : Hp} (l : Le c c') (w : Wd c' δ M σ H) : Wd c δ M σ H :=
  ⟨w.env, w.mem, fun a o n h => w.ent a o (by rw [l.o]; exact n) (by rw [l.h]; exact h), fun t ht => by have := w.own t (by rw [l.o]; exact ht); rw [l.z] at this; exact this, l.i.trans w.imb,
    fun q hq => by have := w.fr q hq; rw [l.h, l.o] at this; exact this, w.nd⟩
theorem Rt.le {c c' : Ct} {R : VK} {r : Sl} (l : Le c c') (h : Rt c R r) : Rt c' R r := fun δ M σ H v w hr => h δ M σ H v (w.le l) hr
theorem Do.le {c c' : Ct} {D : Ends} {t : TS} {δ : List Sl} {M : Mem} (l : Le c c') (h : Do c D t δ M) : Do c' D t δ M := fun σ H w => h σ H (w.le l)
section
variable {K : PySem.W.Frag} {c : Ct} {D : Ends} {δ : List Sl} {M : Mem} {ta tb te tx ty tv : TE} {tc : TT} {t u tw : TS} {s s' z : Sl} {ds es : List PyData} {d : PyData} {b : Bool}
theorem s_set {i : Nat} (h : Ed c te δ M s) (k : Nx c D.nx (δ.set i s) M) : Do c D (tAsg te (gName i)) δ M := fun σ H w => h σ H w _ fun v H2 s2 hv => k _ H2 ((w.step s2).set hv i)
theorem q_set {i : Nat} (h : Ed c te δ M s) (k : Do c D u (δ.set i s) M) : Do c D (tSeq (tAsg te (gName i)) u) δ M := s_set (D := { D with nx := u D }) h k
theorem s_ret (h : Ed c te δ M s) (k : Rt c D.rt s) : Do c D (tRet te) δ M := fun σ H w => h σ H w _ fun v H2 s2 hv => k δ M σ H2 v (w.step s2) hv
theorem s_if (h : Et c tc δ M b) (h1 : b = true → Do c D t δ M) (h2 : b = false → Do c D tw δ M) : Do c D (tIfS tc t tw) δ M := fun σ H w => h σ H w _ fun H2 s2 => by
  cases b with
  | true => exact h1 rfl σ H2 (w.step s2)
  | false => exact h2 rfl σ H2 (w.step s2)
theorem q_if (h : Et c tc δ M b) (h1 : b = true → Do c { D with nx := u D } t δ M) (h2 : b = false → Do c { D with nx := u D } tw δ M) : Do c D (tSeq (tIfS tc t tw) u) δ M := s_if (D := { D with nx := u D }) h h1 h2
theorem q_when (h : Et c tc δ M b) (h1 : b = true → Do c { D with nx := u D } t δ M) (h2 : b = false → Do c D u δ M) : Do c D (tSeq (tIfS tc t tNext) u) δ M := s_if (D := { D with nx := u D }) h h1 h2
theorem s_when (h : Et c tc δ M b) (h1 : b = true → Do c D t δ M) (h2 : b = false → Nx c D.nx δ M) : Do c D (tIfS tc t tNext) δ M := s_if h h1 h2
/-- a test known to fail, what it guards not read -/
theorem q_no (h : Et c tc δ M false) (h2 : Do c D u δ M) : Do c D (tSeq (tIfS tc t tNext) u) δ M := q_when h (fun z => nomatch z) fun _ => h2
theorem s_next (k : Nx c D.nx δ M) : Do c D tNext δ M := k
theorem s_brk (k : Nx c D.bk δ M) : Do c D tBreak δ M := k
theorem s_cont (k : Nx c D.ct δ M) : Do c D tCont δ M := k
theorem s_par {i j : Nat} (h : EdA c (tCons ta (tCons tb tNil)) δ M [s, s']) (k : Nx c D.nx ((δ.set i s).set j s') M) : Do c D (tPar i j (tCons ta (tCons tb tNil))) δ M := fun σ H w => h σ H w _ fun vs H2 s2 hv => by
  obtain ⟨v, x, rfl, h1, h2⟩ := sl2 hv
  exact ⟨v, x, rfl, k _ H2 (((w.step s2).set h1 i).set h2 j)⟩
theorem q_par {i j : Nat} (h1 : Ed c ta δ M s) (h2 : Ed c tb δ M s') (k : Do c D u ((δ.set i s).set j s') M) : Do c D (tSeq (tPar i j (tCons ta (tCons tb tNil))) u) δ M := s_par (D := { D with nx := u D }) (ea_cons h1 (ea_cons h2 ea_nil)) k
/-- a, b = the pair, where a name is a cell: the tuple is made -/
theorem s_unp {i j : Nat} {d d' : PyData} (h : Ed c te δ M (.d (.tuple [d, d']))) (k : Nx c D.nx ((δ.set i (.d d)).set j (.d d')) M) : Do c D (tAsg te (gTup K 2 (gCons (gName i) (gCons (gName j) gNil)))) δ M := fun σ H w => h σ H w _ fun v H2 s2 hv => by
  obtain ⟨a, xs, rfl, h1, x, r, rfl, h2, y, r', rfl, h3, h4⟩ := hv
  have h4 : r' = [] := h4
  subst h4
  exact ⟨a, _, rfl, .inl h1, rfl, x, [y], rfl, y, [], rfl, rfl, k _ H2 (((w.step s2).set (s := .d d) h2 i).set (s := .d d') h3 j)⟩
theorem q_unp {i j : Nat} {d d' : PyData} (h : Ed c te δ M (.d (.tuple [d, d']))) (k : Do c D u ((δ.set i (.d d)).set j (.d d')) M) : Do c D (tSeq (tAsg te (gTup K 2 (gCons (gName i) (gCons (gName j) gNil)))) u) δ M := s_unp (D := { D with nx := u D }) h k
/-! cells -/
theorem q_newL {i : Nat} (k : ∀ p, Do c D u (δ.set i (.v (.ref p))) ((p, .lst []) :: M)) : Do c D (tSeq (tAsg (tLst tNil) (gName i)) u) δ M := fun σ H w =>
  ⟨Nat.zero_le _, fun p hp => k p _ _ ((w.newC (m := .lst []) hp ⟨[], upd_same, rfl⟩).set (s := .v (.ref p)) rfl i)⟩
theorem q_newD {i : Nat} (k : ∀ p, Do c D u (δ.set i (.v (.ref p))) ((p, .dct []) :: M)) : Do c D (tSeq (tAsg tDNewK (gName i)) u) δ M := fun σ H w p hp =>
  k p _ _ ((w.newC (m := .dct []) hp ⟨[], upd_same, rfl⟩).set (s := .v (.ref p)) rfl i)
theorem s_app {i : Nat} {p : Addr} (hi : δ[i]? = some (.v (.ref p))) (h : Ed c te δ ((p, .lst ds) :: M) (.d d)) (hl : ds.length < 100000) (k : Nx c D.nx δ ((p, .lst (ds ++ [d])) :: M)) :
    Do c D (tDrop (tBM K "list" rAppend (tVar i) (tCons te tNil))) δ ((p, .lst ds) :: M) := fun σ H w => by
  obtain ⟨xs, hx, hd⟩ := w.mem (p, .lst ds) List.mem_cons_self
  refine ⟨.ref p, w.env.getv hi, .inl ⟨rfl, xs, .inl (.inl hx)⟩, h σ H w _ fun v H2 s2 hv => ?_⟩
  have w2 := w.step s2
  obtain ⟨ys, hy, hd2⟩ := w2.mem (p, .lst ds) List.mem_cons_self
  refine ⟨p, ys, v, rfl, rfl, hy, by rw [hd2.length]; exact Evl.sz_lt hl, ?_⟩
  have i2 : Imx H2 (upd H2 p (.lst (ys ++ [v]))) := .mut (w2.mem (p, .lst ds) List.mem_cons_self).mut
  exact k _ _ (w2.write (m' := .lst (ds ++ [d])) ⟨ys ++ [v], upd_same, (DiA.mono i2 _ _ hd2).append (.one (Di.mono i2 _ _ hv))⟩)
theorem q_app {i : Nat} {p : Addr} (hi : δ[i]? = some (.v (.ref p))) (h : Ed c te δ ((p, .lst ds) :: M) (.d d)) (hl : ds.length < 100000) (k : Do c D u δ ((p, .lst (ds ++ [d])) :: M)) :
    Do c D (tSeq (tDrop (tBM K "list" rAppend (tVar i) (tCons te tNil))) u) δ ((p, .lst ds) :: M) := s_app (D := { D with nx := u D }) hi h hl k
theorem s_dput {i : Nat} {p : Addr} {kvs : List (Str × PyData)} {k : Str} (hi : δ[i]? = some (.v (.ref p))) (hv : Ed c tv δ ((p, .dct kvs) :: M) (.d d)) (hk : Ed c ty δ ((p, .dct kvs) :: M) (.d (.str k))) (hl : kvs.length < 100000)
    (kk : Nx c D.nx δ ((p, .dct (dput kvs k d)) :: M)) : Do c D (sDPut (tVar i) ty tv) δ ((p, .dct kvs) :: M) := fun σ H w =>
  hv σ H w _ fun v H1 s1 h1 => ⟨.ref p, (w.step s1).env.getv hi, hk σ H1 (w.step s1) _ fun y H2 s2 h2 => by
    have h2 : y = .str k := h2
    subst h2
    have w2 := (w.step s1).step s2
    obtain ⟨ks, hks, hd⟩ := w2.mem (p, .dct kvs) List.mem_cons_self
    have i2 : Imx H2 (upd H2 p (.dK (putK ks (Sum.inr k) v))) := .mut (w2.mem (p, .dct kvs) List.mem_cons_self).mut
    exact ⟨p, _, rfl, DPut.k (k := Sum.inr k) hks (by rw [hd.length]; exact Evl.sz_lt hl), kk _ _ (w2.write (m' := .dct (dput kvs k d)) ⟨_, upd_same, (hd.mono i2).put k (Di.mono (s2.i.trans i2) _ _ h1)⟩)⟩⟩
theorem q_dput {i : Nat} {p : Addr} {kvs : List (Str × PyData)} {k : Str} (hi : δ[i]? = some (.v (.ref p))) (hv : Ed c tv δ ((p, .dct kvs) :: M) (.d d)) (hk : Ed c ty δ ((p, .dct kvs) :: M) (.d (.str k))) (hl : kvs.length < 100000)
    (kk : Do c D u δ ((p, .dct (dput kvs k d)) :: M)) : Do c D (tSeq (sDPut (tVar i) ty tv) u) δ ((p, .dct kvs) :: M) := s_dput (D := { D with nx := u D }) hi hv hk hl kk
theorem s_dpop {i : Nat} {p : Addr} {kvs : List (Str × PyData)} {k : Str} (hi : δ[i]? = some (.v (.ref p))) (hk : Ed c ty δ ((p, .dct kvs) :: M) (.d (.str k))) (hx : Ed c tx δ ((p, .dct kvs) :: M) (.d d))
    (kk : Nx c D.nx δ ((p, .dct (ddrop kvs k)) :: M)) : Do c D (tDrop (tDPop2 (tVar i) ty tx)) δ ((p, .dct kvs) :: M) := fun σ H w => by
  obtain ⟨ks, hks, hd⟩ := w.mem (p, .dct kvs) List.mem_cons_self
  refine ⟨.ref p, w.env.getv hi, p, rfl, .inl ⟨ks, .inl hks⟩, hk σ H w _ fun y H1 s1 h1 => hx σ H1 (w.step s1) _ fun z H2 s2 h2 => ?_⟩
  have h1 : y = .str k := h1
  subst h1
  have w2 := (w.step s1).step s2
  obtain ⟨ks2, hks2, hd2⟩ := w2.mem (p, .dct kvs) List.mem_cons_self
  have fin : Wd c δ ((p, .dct (ddrop kvs k)) :: M) σ (upd H2 p (.dK (L2.dropK ks2 (Sum.inr k)))) := by
    have i2 : Imx H2 (upd H2 p (.dK (L2.dropK ks2 (Sum.inr k)))) := .mut (w2.mem (p, .dct kvs) List.mem_cons_self).mut
    exact w2.write (m' := .dct (ddrop kvs k)) ⟨_, upd_same, (hd2.mono i2).dropK k⟩
  refine ⟨ks2, Sum.inr k, hks2, rfl, fun v _ => kk _ _ fin, fun hn => ?_⟩
  have hlk := hd2.look k
  -- the key is not there: the dict is as it was
  have hno : L2.dropK ks2 (Sum.inr k) = ks2 := by
    unfold L2.dropK
    rw [List.filter_eq_self]
    intro e he
    have : ¬ e.1 = (Sum.inr k : Key) := fun z => by
      have hs : (valV ks2 (Sum.inr k : Key)).isSome = true := by
        rw [← valV_any, List.any_eq_true]
        exact ⟨e, he, by simpa using z⟩
      rw [hn] at hs; cases hs
    simpa using this
  rw [hno] at fin
  have e : upd H2 p (.dK ks2) = H2 := by
    funext a
    unfold upd
    split
    · rename_i z; rw [z, hks2]
    · rfl
  rw [e] at fin
  exact kk _ _ fin
/-- the newest cell is frozen: its slot holds data from here on -/
def tFzS (t : TS) : TS := fun D σ H => ∃ a u, H a = some u ∧ Mut (some u) ∧ ∀ o, t D σ (upd H a (.frz o u))
theorem q_fzL {i : Nat} {p : Addr} (hi : δ[i]? = some (.v (.ref p))) (k : Do c D t (δ.set i (.d (.list ds))) M) : Do c D (tFzS t) δ ((p, .lst ds) :: M) := fun σ H w => by
  obtain ⟨xs, hx, hd⟩ := w.mem (p, .lst ds) List.mem_cons_self
  refine ⟨p, _, hx, trivial, fun o => ?_⟩
  have i2 : Imx H (upd H p (.frz o (.lst xs))) := .mut (w.mem (p, .lst ds) List.mem_cons_self).mut
  have w2 := (w.frz (o := .frz o (.lst xs))).set (s := .d (.list ds)) (v := .ref p) ⟨p, o, xs, rfl, upd_same, DiA.mono i2 _ _ hd⟩ i
  have e : σ.set i (some (.ref p)) = σ := by
    have := w.env.getv hi
    apply List.ext_getElem?
    intro j
    by_cases hj : j = i
    · subst hj
      rw [this, List.getElem?_set_self ((List.getElem?_eq_some_iff.mp this).1)]
    · rw [List.getElem?_set_ne (Ne.symm hj)]
  rw [e] at w2
  exact k σ _ w2
theorem q_fzD {i : Nat} {p : Addr} {kvs : List (Str × PyData)} (hi : δ[i]? = some (.v (.ref p))) (k : Do c D t (δ.set i (.d (.dict (sK kvs)))) M) : Do c D (tFzS t) δ ((p, .dct kvs) :: M) := fun σ H w => by
  obtain ⟨ks, hx, hd⟩ := w.mem (p, .dct kvs) List.mem_cons_self
  refine ⟨p, _, hx, trivial, fun o => ?_⟩
  have i2 : Imx H (upd H p (.frz o (.dK ks))) := .mut (w.mem (p, .dct kvs) List.mem_cons_self).mut
  have w2 := (w.frz (o := .frz o (.dK ks))).set (s := .d (.dict (sK kvs))) (v := .ref p) (.inl ⟨p, o, ks, rfl, upd_same, (hd.mono i2).k⟩) i
  have e : σ.set i (some (.ref p)) = σ := by
    have := w.env.getv hi
    apply List.ext_getElem?
    intro j
    by_cases hj : j = i
    · subst hj
      rw [this, List.getElem?_set_self ((List.getElem?_eq_some_iff.mp this).1)]
    · rw [List.getElem?_set_ne (Ne.symm hj)]
  rw [e] at w2
  exact k σ _ w2
theorem ed_dget {kvs : List (Str × PyData)} {k : Str} (h : Ed c ta δ M (.d (.dict (sK kvs)))) (hk : Ed c ty δ M (.d (.str k))) (e : dlook kvs k = some d) : Ed c (tDGet ta ty) δ M (.d d) := fun σ H w Q q =>
  h σ H w _ fun x H1 s1 hx => hk σ H1 (w.step s1) _ fun y H2 s2 hy => by
    have hy : y = .str k := hy
    subst hy
    obtain ⟨a, o, ks, rfl, e1, e2⟩ := Di.dict (show Di H2 (.dict (sK kvs)) x from Di.mono s2.i _ _ hx)
    have hl := (DiK.s e2).look k
    rw [e] at hl
    obtain ⟨v, hv, hd⟩ := hl
    exact ⟨a, v, rfl, .inl ⟨ks, Sum.inr k, .inr ⟨o, e1⟩, rfl, hv.symm⟩, q v H2 (s1.trans s2) hd⟩
/-! loops -/
def Tg (g : TG) (d : PyData) (δ δ' : List Sl) : Prop := ∀ (c : Ct) (M : Mem) σ H v, Wd c δ M σ H → Di H d v → ∀ Q : SSt → Hp → Prop, (∀ σ', Wd c δ' M σ' H → Q σ' H) → g v σ H Q
theorem tg_name {i : Nat} {d : PyData} : Tg (gName i) d δ (δ.set i (.d d)) := fun c M σ H v w hd Q k => k _ (w.set (s := .d d) hd i)
theorem tg_pair {i j : Nat} {a b : PyData} : Tg (gTup K 2 (gCons (gName i) (gCons (gName j) gNil))) (.tuple [a, b]) δ ((δ.set i (.d a)).set j (.d b)) := fun c M σ H v w hd Q k => by
  obtain ⟨p, xs, rfl, h1, x, r, rfl, h2, y, r', rfl, h3, h4⟩ := hd
  have h4 : r' = [] := h4
  subst h4
  exact ⟨p, _, rfl, .inl h1, rfl, x, [y], rfl, y, [], rfl, rfl, k _ ((w.set (s := .d a) h2 i).set (s := .d b) h3 j)⟩
def Lp (c : Ct) (I : Nat → List Sl → Mem → Prop) (i : Nat) (σ : SSt) (H : Hp) : Prop := ∃ δ M, I i δ M ∧ Wd c δ M σ H
theorem s_for {wi : TI} {g : TG} (hs : Es c wi δ M ds) (I : Nat → List Sl → Mem → Prop) (h0 : I 0 δ M)
    (hstep : ∀ c', Le c c' → ∀ i d δ1 M1, ds[i]? = some d → I i δ1 M1 → ∃ δ', Tg g d δ1 δ' ∧ ∀ N : SSt → Hp → Prop, (∀ δ2 M2, I (i + 1) δ2 M2 → Nx c' N δ2 M2) → Do c' { D with nx := N, ct := N, bk := D.nx } t δ' M1)
    (hd : ∀ δ1 M1, I ds.length δ1 M1 → Nx c D.nx δ1 M1) : Do c D (tFor wi g t) δ M := fun σ H w =>
  hs σ H w _ fun J H1 G s1 hG g1 hw => by
    have l : Le c ⟨c.H0, c.own, H1, c.z⟩ := ⟨rfl, rfl, (w.step s1).imb, rfl⟩
    have w1 : Wd ⟨c.H0, c.own, H1, c.z⟩ δ M σ H1 := let w' := w.step s1; ⟨w'.env, w'.mem, w'.ent, w'.own, .refl _, w'.fr, w'.nd⟩
    refine for_it hw (Lp ⟨c.H0, c.own, H1, c.z⟩ I) ⟨δ, M, h0, w1⟩ (fun i σ H hi ⟨_, _, _, w⟩ => hG _ _ w.imb g1) (fun i x σ2 H2 H3 hi ⟨δ1, M1, hI, w2⟩ ⟨d, hd', sm, di⟩ => ?_) (fun σ2 H2 ⟨δ1, M1, hI, w2⟩ => hd δ1 M1 hI σ2 H2 (w2.le l))
    obtain ⟨δ', tg, body⟩ := hstep _ l i d δ1 M1 hd' hI
    exact tg _ M1 σ2 H3 x (w2.step (.same sm)) di _ fun σ' w' => body _ (fun δ2 M2 hI2 σ4 H4 w4 => ⟨δ2, M2, hI2, w4⟩) σ' H3 w'
theorem q_for {wi : TI} {g : TG} (hs : Es c wi δ M ds) (I : Nat → List Sl → Mem → Prop) (h0 : I 0 δ M)
    (hstep : ∀ c', Le c c' → ∀ i d δ1 M1, ds[i]? = some d → I i δ1 M1 → ∃ δ', Tg g d δ1 δ' ∧ ∀ N : SSt → Hp → Prop, (∀ δ2 M2, I (i + 1) δ2 M2 → Nx c' N δ2 M2) → Do c' { D with nx := N, ct := N, bk := u D } t δ' M1)
    (hd : ∀ δ1 M1, I ds.length δ1 M1 → Do c D u δ1 M1) : Do c D (tSeq (tFor wi g t) u) δ M := s_for (D := { D with nx := u D }) hs I h0 hstep hd
theorem q_while (I : Nat → List Sl → Mem → Prop) (m0 : Nat) (h0 : I m0 δ M)
    (hstep : ∀ m δ1 M1, I m δ1 M1 → ∃ b, Et c tc δ1 M1 b ∧ (b = true → ∀ N : SSt → Hp → Prop, (∀ m' δ2 M2, m' < m → I m' δ2 M2 → Nx c N δ2 M2) → Do c { D with nx := N, ct := N, bk := u D } t δ1 M1) ∧ (b = false → Do c D u δ1 M1)) :
    Do c D (tSeq (tWhile tc t) u) δ M := fun σ H w => by
  refine ⟨Lp c I, ⟨m0, δ, M, h0, w⟩, fun m σ1 H1 ⟨δ1, M1, hI, w1⟩ => ?_⟩
  obtain ⟨b, ht, h1, h2⟩ := hstep m δ1 M1 hI
  refine ht σ1 H1 w1 _ fun H2 s2 => ?_
  cases b with
  | true => exact ⟨fun σ' H' => ∃ m', m' < m ∧ Lp c I m' σ' H', fun _ _ h => h, h1 rfl _ (fun m' δ2 M2 hm hI2 σ3 H3 w3 => ⟨m', hm, δ2, M2, hI2, w3⟩) σ1 H2 (w1.step s2)⟩
  | false => exact h2 rfl σ1 H2 (w1.step s2)
/-! comprehensions -/
theorem Env.wipe {H : Hp} {δ : List Sl} {σ : SSt} (h : Env H δ σ) (j : Nat) : Env H (δ.set j .no) (σ.set j none) := h.set (s := .no) (o := none) trivial j
theorem Wd.wipe {c : Ct} {δ : List Sl} {M : Mem} {σ : SSt} {H : Hp} (w : Wd c δ M σ H) (j : Nat) : Wd c (δ.set j .no) M (σ.set j none) H := ⟨w.env.wipe j, w.mem, w.ent, w.own, w.imb, w.fr, w.nd⟩
/-- the target's slots within a comprehension -/
structure Tc (g : TG) (vs : List Nat) (d : PyData) (δ δ' : List Sl) : Prop where
  tg : ∀ (c : Ct) (M : Mem) σ H v, Wd c δ M σ H → Di H d v → ∀ Q : SSt → Hp → Prop, (∀ σ', Wd c δ' M σ' H → L2.wipe σ' vs = L2.wipe σ vs → Q σ' H) → g v (L2.wipe σ vs) H Q
theorem tc_name {i : Nat} {d : PyData} : Tc (gName i) [i] d δ ((δ.set i .no).set i (.d d)) := ⟨fun c M σ H v w hd Q k => k _ ((w.wipe i).set (s := .d d) hd i) (by
  show ((σ.set i none).set i (some v)).set i none = σ.set i none
  rw [List.set_set, List.set_set])⟩
theorem tc_pair {i j : Nat} {a b : PyData} (hij : i ≠ j) : Tc (gTup K 2 (gCons (gName i) (gCons (gName j) gNil))) [i, j] (.tuple [a, b]) δ ((((δ.set j .no).set i .no).set i (.d a)).set j (.d b)) := ⟨fun c M σ H v w hd Q k => by
  obtain ⟨p, xs, rfl, h1, x, r, rfl, h2, y, r', rfl, h3, h4⟩ := hd
  have h4 : r' = [] := h4
  subst h4
  refine ⟨p, _, rfl, .inl h1, rfl, x, [y], rfl, y, [], rfl, rfl, k _ ((((w.wipe j).wipe i).set (s := .d a) h2 i).set (s := .d b) h3 j) ?_⟩
  show ((((((σ.set j none).set i none).set i (some x)).set j (some y)).set j none).set i none) = (σ.set j none).set i none
  rw [List.set_set, List.set_set, List.set_comm _ _ hij, List.set_set, List.set_set]⟩
def lcT (wi : TI) (g : TG) (tt : TT) (te : TE) (vs : List Nat) : TE := tFz (tLc wi g tt te vs)
theorem fm_snoc {α β : Type} (h : α → Option β) {ds : List α} {i : Nat} {d : α} (e : ds[i]? = some d) : (ds.take (i + 1)).filterMap h = (ds.take i).filterMap h ++ (h d).toList := by
  rw [List.take_add_one, e, List.filterMap_append]
  cases hd : h d <;> simp [hd]
theorem ed_lc {wi : TI} {g : TG} {tt : TT} {vs : List Nat} (h : PyData → Option PyData) (hs : Es c wi δ M ds) (hl : ds.length ≤ 50000)
    (hb : ∀ d ∈ ds, ∃ δ', Tc g vs d δ δ' ∧ Et c tt δ' M (h d).isSome ∧ ∀ e, h d = some e → Ed c te δ' M (.d e)) : Ed c (lcT wi g tt te vs) δ M (.d (.list (ds.filterMap h))) := fun σ H w Q k =>
  hs σ H w _ fun J H1 G s1 hG g1 hw D hD => by
    have w1 := w.step s1
    have hDo : D ∉ c.own := fun hm => by
      obtain ⟨x, y, z, e, _⟩ := w1.own D hm
      rw [hD] at e; cases e
    refine lc_it hw (fun i H' => Wd c δ ((D, .lst ((ds.take i).filterMap h)) :: M) σ H' ∧ Imx H1 H' ∧ (∀ a o, a ∉ c.own → H1 a = some o → H' a = some o))
      ⟨w1.newC (m := .lst []) hD ⟨[], upd_same, rfl⟩, .new hD, fun a o _ e => Same.new hD a o e⟩ (fun i H' hi p => hG _ _ p.2.1 g1) (fun i x H' H'' hi p y => ?_) (fun H' p => ?_)
    · obtain ⟨wp, im, en⟩ := p
      obtain ⟨d, hd, sm, di⟩ := y
      have hlen : ((ds.take i).filterMap h).length < sizeLine := by
        have h1 : ((ds.take i).filterMap h).length ≤ (ds.take i).length := List.length_filterMap_le h _
        rw [List.length_take] at h1
        exact Evl.sz_lt (by omega)
      obtain ⟨δ', tg, ht, he⟩ := hb d (List.mem_of_getElem? hd)
      have wq := wp.step (.same sm)
      refine tg.tg c _ σ H'' x wq di _ fun σ' w' hwp => ⟨hwp, ht.forget σ' H'' w' _ fun H3 s3 => ?_⟩
      have w3 := wq.step s3
      have im3 := (im.trans (.same sm)).trans s3.i
      have en3 : ∀ a o, a ∉ c.own → H1 a = some o → H3 a = some o := fun a o n e => s3.e a o n (sm a o (en a o n e))
      cases hh : h d with
      | none =>
        show _ ∧ _ ∧ _
        rw [fm_snoc h hd, hh]
        simp only [Option.toList, List.append_nil]
        exact ⟨w3, im3, en3⟩
      | some e =>
        show te σ' H3 _
        refine (he e hh).forget σ' H3 (w'.step s3) _ fun v H4 s4 hv => ?_
        have w4 := w3.step s4
        obtain ⟨acc, ha, hda⟩ := w4.mem (D, .lst ((ds.take i).filterMap h)) List.mem_cons_self
        have mu := (w4.mem (D, .lst ((ds.take i).filterMap h)) List.mem_cons_self).mut
        have i2 : Imx H4 (upd H4 D (.lst (acc ++ [v]))) := .mut mu
        refine ⟨acc, ha, by rw [hda.length]; exact hlen, ?_, (im3.trans s4.i).trans i2, fun a o n q => ?_⟩
        · rw [fm_snoc h hd, hh]
          exact w4.write (m' := .lst _) ⟨acc ++ [v], upd_same, (DiA.mono i2 _ _ hda).append (.one (Di.mono i2 _ _ hv))⟩
        · rw [upd_ne (ne_of_none q hD)]
          exact s4.e a o n (en3 a o n q)
    · obtain ⟨wp, im, en⟩ := p
      rw [List.take_length] at wp
      obtain ⟨acc, ha, hda⟩ := wp.mem (D, .lst (ds.filterMap h)) List.mem_cons_self
      refine ⟨D, _, rfl, ha, trivial, fun o => ?_⟩
      have mu := (wp.mem (D, .lst (ds.filterMap h)) List.mem_cons_self).mut
      have i2 : Imx H' (upd H' D (.frz o (.lst acc))) := .mut mu
      refine k _ _ (s1.trans ⟨im.trans i2, fun a u n q => ?_, fun t ht _ => ?_⟩) ⟨D, o, acc, rfl, upd_same, DiA.mono i2 _ _ hda⟩
      · rw [upd_ne (ne_of_none q hD)]
        exact en a u n q
      · obtain ⟨x, y, z, e, q⟩ := wp.own t ht
        exact ⟨x, y, z, by rw [upd_ne (show t ≠ D from fun q => hDo (by rw [← q]; exact ht))]; exact e, q⟩
/-- without a test -/
theorem et_yes : Et c tYes δ M true := fun σ H w Q k => k H .refl
theorem ed_lcm {wi : TI} {g : TG} {vs : List Nat} (f : PyData → PyData) (hs : Es c wi δ M ds) (hl : ds.length ≤ 50000)
    (hb : ∀ d ∈ ds, ∃ δ', Tc g vs d δ δ' ∧ Ed c te δ' M (.d (f d))) : Ed c (lcT wi g tYes te vs) δ M (.d (.list (ds.map f))) := by
  have e : ds.map f = ds.filterMap fun d => some (f d) := by rw [List.filterMap_eq_map']
  rw [e]
  refine ed_lc (fun d => some (f d)) hs hl fun d hd => ?_
  obtain ⟨δ', h1, h2⟩ := hb d hd
  exact ⟨δ', h1, et_yes, fun e he => by cases he; exact h2⟩
/-- dict comprehensions, text keys -/
def dcT (wi : TI) (g : TG) (tt : TT) (tk tv : TE) (vs : List Nat) : TE := tFz (tDc wi g tt tk tv vs)
def putAll (l : List (Str × PyData)) : List (Str × PyData) := l.foldl (fun d e => dput d e.1 e.2) []
theorem putAll_snoc (l : List (Str × PyData)) (e : Str × PyData) : putAll (l ++ [e]) = dput (putAll l) e.1 e.2 := by unfold putAll; rw [List.foldl_append]; rfl
theorem putAll_le (l : List (Str × PyData)) : (putAll l).length ≤ l.length := by
  unfold putAll
  have h : ∀ (l : List (Str × PyData)) (d : List (Str × PyData)), (l.foldl (fun d e => dput d e.1 e.2) d).length ≤ d.length + l.length := by
    intro l
    induction l with
    | nil => intro d; exact Nat.le_refl _
    | cons e r ih =>
      intro d
      have h1 := ih (dput d e.1 e.2)
      have h2 := length_dput d e.1 e.2
      rw [List.foldl_cons, List.length_cons]
      omega
  simpa using h l []
theorem ed_dc {wi : TI} {g : TG} {tt : TT} {tk : TE} {vs : List Nat} (h : PyData → Option (Str × PyData)) (hs : Es c wi δ M ds) (hl : ds.length ≤ 50000)
    (hb : ∀ d ∈ ds, ∃ δ', Tc g vs d δ δ' ∧ Et c tt δ' M (h d).isSome ∧ ∀ e, h d = some e → Ed c tk δ' M (.d (.str e.1)) ∧ Ed c tv δ' M (.d e.2)) : Ed c (dcT wi g tt tk tv vs) δ M (.d (.dict (sK (putAll (ds.filterMap h))))) := fun σ H w Q k =>
  hs σ H w _ fun J H1 G s1 hG g1 hw D hD => by
    have w1 := w.step s1
    have hDo : D ∉ c.own := fun hm => by
      obtain ⟨x, y, z, e, _⟩ := w1.own D hm
      rw [hD] at e; cases e
    refine ⟨fun i m H' => m = ds.length - i ∧ i ≤ ds.length ∧ Wd c δ ((D, .dct (putAll ((ds.take i).filterMap h))) :: M) σ H' ∧ Imx H1 H' ∧ (∀ a o, a ∉ c.own → H1 a = some o → H' a = some o),
      ⟨ds.length, rfl, Nat.zero_le _, w1.newC (m := .dct []) hD ⟨[], upd_same, rfl⟩, .new hD, fun a o _ e => Same.new hD a o e⟩, ?_⟩
    rintro i m H' ⟨rfl, hi, wp, im, en⟩
    by_cases hlt : i < ds.length
    · refine .inr ⟨hw.goes i H' hlt (hG _ _ im g1), fun H' => Wd c δ ((D, .dct (putAll ((ds.take (i + 1)).filterMap h))) :: M) σ H' ∧ Imx H1 H' ∧ (∀ a o, a ∉ c.own → H1 a = some o → H' a = some o), fun H'' p => ⟨ds.length - (i + 1), by omega, rfl, hlt, p⟩, fun x H'' y => ?_⟩
      obtain ⟨d, hd, sm, di⟩ := hw.yields i H' x H'' hlt (hG _ _ im g1) y
      have hlen : (putAll ((ds.take i).filterMap h)).length < sizeLine := by
        have h0 := putAll_le ((ds.take i).filterMap h)
        have h1 : ((ds.take i).filterMap h).length ≤ (ds.take i).length := List.length_filterMap_le h _
        rw [List.length_take] at h1
        exact Evl.sz_lt (by omega)
      obtain ⟨δ', tg, ht, he⟩ := hb d (List.mem_of_getElem? hd)
      have wq := wp.step (.same sm)
      refine tg.tg c _ σ H'' x wq di _ fun σ' w' hwp => ⟨hwp, ht.forget σ' H'' w' _ fun H3 s3 => ?_⟩
      have w3 := wq.step s3
      have im3 := (im.trans (.same sm)).trans s3.i
      have en3 : ∀ a o, a ∉ c.own → H1 a = some o → H3 a = some o := fun a o n e => s3.e a o n (sm a o (en a o n e))
      cases hh : h d with
      | none =>
        show _ ∧ _ ∧ _
        rw [fm_snoc h hd, hh]
        simp only [Option.toList, List.append_nil]
        exact ⟨w3, im3, en3⟩
      | some e =>
        show tk σ' H3 _
        refine (he e hh).1.forget σ' H3 (w'.step s3) _ fun y H4 s4 hy => (he e hh).2.forget σ' H4 ((w'.step s3).step s4) _ fun v H5 s5 hv => ?_
        have hy : y = .str e.1 := hy
        subst hy
        have w5 := (w3.step s4).step s5
        obtain ⟨acc, ha, hda⟩ := w5.mem (D, .dct (putAll ((ds.take i).filterMap h))) List.mem_cons_self
        have mu := (w5.mem (D, .dct (putAll ((ds.take i).filterMap h))) List.mem_cons_self).mut
        have i2 : Imx H5 (upd H5 D (.dK (putK acc (Sum.inr e.1) v))) := .mut mu
        refine ⟨acc, Sum.inr e.1, rfl, ha, by rw [hda.length]; exact hlen, ?_, ((im3.trans s4.i).trans s5.i).trans i2, fun a o n q => ?_⟩
        · rw [fm_snoc h hd, hh]
          show Wd c δ ((D, .dct (putAll ((ds.take i).filterMap h ++ [e]))) :: M) σ _
          rw [putAll_snoc]
          exact w5.write (m' := .dct _) ⟨_, upd_same, (hda.mono i2).put e.1 (Di.mono i2 _ _ hv)⟩
        · rw [upd_ne (ne_of_none q hD)]
          exact s5.e a o n (s4.e a o n (en3 a o n q))
    · have hi' : i = ds.length := by omega
      subst hi'
      refine .inl ⟨hw.stops H' (hG _ _ im g1), ?_⟩
      rw [List.take_length] at wp
      obtain ⟨acc, ha, hda⟩ := wp.mem (D, .dct (putAll (ds.filterMap h))) List.mem_cons_self
      refine ⟨D, _, rfl, ha, trivial, fun o => ?_⟩
      have mu := (wp.mem (D, .dct (putAll (ds.filterMap h))) List.mem_cons_self).mut
      have i2 : Imx H' (upd H' D (.frz o (.dK acc))) := .mut mu
      refine k _ _ (s1.trans ⟨im.trans i2, fun a u n q => ?_, fun t ht _ => ?_⟩) (.inl ⟨D, o, acc, rfl, upd_same, (hda.mono i2).k⟩)
      · rw [upd_ne (ne_of_none q hD)]
        exact en a u n q
      · obtain ⟨x, y, z, e, q⟩ := wp.own t ht
        exact ⟨x, y, z, by rw [upd_ne (show t ≠ D from fun q => hDo (by rw [← q]; exact ht))]; exact e, q⟩
end

/-! ### rules that freeze -/
section
variable {X : Cx}
theorem pe_fz {e : Expr} {t : TE} (h : PE X e t) : PE X e (tFz t) := by
  refine ⟨fun pins s σ H Q I hw => ?_⟩
  refine thn (h.run pins s σ H _ I hw) fun v s1 ⟨x, H1, I1, r, a, u, ex, ha, mu, q⟩ => ?_
  obtain ⟨od, I2⟩ := I1.lock ha mu
  exact ⟨x, _, I2, r, q od⟩
theorem pss_fz {sts : List Stmt} {t : TS} (h : PSs X sts t) : PSs X sts (tFzS t) := by
  refine ⟨fun pins s σ H D I hw => ?_⟩
  obtain ⟨a, u, ha, mu, q⟩ := hw
  obtain ⟨od, I2⟩ := I.lock ha mu
  exact h.run pins s σ _ D I2 (q od)
end

/-! ### a def by data -/
section
variable {P : Program} {w : World} {K : PySem.W.Frag} {mg : Str → Option Value} {base : Heap}
theorem okD {x qual : Str} {st : Stmt} {f : Addr} {fd : FuncData} {N ps : List Str} {k : Nat} {pre : List Sl → Sl → Prop} (F : Fun K x qual st f fd) (S : FnScope N ps (defScope st)) (hlen : ∀ ss r, pre ss r → ss.length = ps.length) (t : TS)
    (hd : ∀ (cdv : Value) (A : Around) (outer : List PySem.Env) (s : Shared) (H : Hp) (E : XK), Room k (A.deeper (envOfC qual (defScope st) s.heap.objs.size f cdv)) → PSs (cxOf CX0 P w K mg base N qual (defScope st) f cdv A outer s H E).nox (defBody st) t)
    (hw : ∀ ss r, pre ss r → ∀ c D, Rt c D.rt r → Do c D t (ss ++ List.replicate (N.length - ps.length) .no) []) : FnOk P w K mg base CX0 (k + 1) f fd ps (SpD pre) := by
  refine F.ok S (fun vs H Q E h => ?_) (fun cdv A outer s H vs Q E hr h => ⟨t, hd cdv A outer s H E hr, ?_⟩)
  · obtain ⟨ss, r, hp, hv, _⟩ := h
    rw [hv.length]; exact hlen ss r hp
  · obtain ⟨ss, r, hp, hv, q⟩ := h
    have hl : vs.length = ps.length := by rw [hv.length]; exact hlen ss r hp
    have wd : Wd ⟨H, [], H, 0⟩ (ss ++ List.replicate (N.length - ps.length) .no) [] (start N vs) H := by
      refine ⟨?_, (fun q hq => nomatch hq), fun a o _ h => h, (fun t ht => nomatch ht), Imx.refl _, (fun q hq => nomatch hq), List.nodup_nil⟩
      show HD.Env H _ (vs.map some ++ List.replicate (N.length - vs.length) none)
      rw [hl]
      exact hv.env _
    exact hw ss r hp ⟨H, [], H, 0⟩ { nx := fun _ H' => Q .non H', rt := Q } (fun δ M σ H2 v w hr => q v H2 (fun a o e => w.ent a o (by simp) e) hr) _ _ wd
end
end HD
end
section
namespace HD
open PySem PySem.Spec PyProof.Rows L2
def topS (i : Nat) : Stmt := PySem.Challenge.pw_halfring_k36_whole_last_words_stay_at_ea.main.body.getD i (.Pass ⟨0, 0, 0, 0⟩)
/-- the built-ins are still what they were -/
structure Bl (mg : Str → Option Value) : Prop where
  abs : mg "abs" = none
  all : mg "all" = none
  any : mg "any" = none
  bool : mg "bool" = none
  dict : mg "dict" = none
  enumerate : mg "enumerate" = none
  int : mg "int" = none
  isinstance : mg "isinstance" = none
  len : mg "len" = none
  list : mg "list" = none
  min : mg "min" = none
  range : mg "range" = none
  set : mg "set" = none
  sorted : mg "sorted" = none
  str : mg "str" = none
  tuple : mg "tuple" = none
  zip : mg "zip" = none
  valueError : mg "ValueError" = none
/-- a def of the text -/
def Def (K : PySem.W.Frag) (mg : Str → Option Value) (x : Str) (st : Stmt) (ps : List Str) : Prop := ∃ f fd, Fun K x x st f fd ∧ mg x = some (.ref f) ∧ Binds K fd ps []
/-- a def that keeps its promise -/
def Cal (P : Program) (w : World) (K : PySem.W.Frag) (mg : Str → Option Value) (base : Heap) (k : Nat) (x : Str) (ps : List Str) (pre : List Sl → Sl → Prop) : Prop :=
  ∃ f fd, mg x = some (.ref f) ∧ PySem.W.keepIn K (.ref f) = true ∧ Binds K fd ps [] ∧ FnOk P w K mg base CX0 k f fd ps (SpD pre)
section
variable {X : Cx}
theorem pe_cal {k : Nat} {x : Str} {ps : List Str} {pre : List Sl → Sl → Prop} {j : Nat} {p pos : Pos} {e : Expr} {es : List Expr} {t : TA} (C : Cal X.prog X.w X.K X.mg X.base k x ps pre) (hr : Room j X.A) (ha : PA X (e :: es) t) (hg : Gl X x := by rfl) (hj : k ≤ j := by decide)
    (hdb : (x == ("__debug__" : Str)) = false := by decide) (he : starEach (e :: es) X.env = (false, eval e X.env) :: starEach es X.env := by rfl) (hpl : (backTo pos (starEach es X.env)).any (·.1) = false := by rfl) :
    PE X (.Call (.Name x p) (e :: es) [] pos) (tCall (SpD pre) [] E0 t) := by
  obtain ⟨f, fd, hm, hk, hb, F⟩ := C
  exact pe_call F (hr.mono hj) hg hm hk hb .nil pass0 ha hdb he hpl
theorem pe_cal0 {k : Nat} {x : Str} {ps : List Str} {pre : List Sl → Sl → Prop} {j : Nat} {p pos : Pos} (C : Cal X.prog X.w X.K X.mg X.base k x ps pre) (hr : Room j X.A) (hg : Gl X x := by rfl) (hj : k ≤ j := by decide)
    (hdb : (x == ("__debug__" : Str)) = false := by decide) :
    PE X (.Call (.Name x p) [] [] pos) (tCall (SpD pre) [] E0 tNil) := by
  obtain ⟨f, fd, hm, hk, hb, F⟩ := C
  exact pe_call0 F (hr.mono hj) hg hm hk hb .nil pass0 hdb
end
section
variable {P : Program} {w : World} {K : PySem.W.Frag} {mg : Str → Option Value} {base : Heap}
theorem okC {x : Str} {st : Stmt} {N ps : List Str} {k : Nat} {pre : List Sl → Sl → Prop} (F : Def K mg x st ps) (S : FnScope N ps (defScope st)) (hlen : ∀ ss r, pre ss r → ss.length = ps.length)
    (hd : ∀ (f : Addr) (cdv : Value) (A : Around) (outer : List PySem.Env) (s : Shared) (H : Hp) (E : XK), Room k (A.deeper (envOfC x (defScope st) s.heap.objs.size f cdv)) → N.Nodup → (A.deeper (envOfC x (defScope st) s.heap.objs.size f cdv)).units + 1 < cLine →
      ∃ t, PSs (cxOf CX0 P w K mg base N x (defScope st) f cdv A outer s H E).nox (defBody st) t ∧ ∀ ss r, pre ss r → ∀ c D, Rt c D.rt r → Do c D t (ss ++ List.replicate (N.length - ps.length) .no) []) : Cal P w K mg base (k + 1) x ps pre := by
  obtain ⟨f, fd, F, hm, hb⟩ := F
  refine ⟨f, fd, hm, F.kp, hb, ?_⟩
  refine F.ok S (fun vs H Q E h => ?_) (fun cdv A outer s H vs Q E hr h => ?_)
  · obtain ⟨ss, r, hp, hv, _⟩ := h
    rw [hv.length]; exact hlen ss r hp
  · obtain ⟨t, ht, hw⟩ := hd f cdv A outer s H E hr S.nd (hu_of hr)
    refine ⟨t, ht, ?_⟩
    obtain ⟨ss, r, hp, hv, q⟩ := h
    have hl : vs.length = ps.length := by rw [hv.length]; exact hlen ss r hp
    have wd : Wd ⟨H, [], H, 0⟩ (ss ++ List.replicate (N.length - ps.length) .no) [] (start N vs) H := by
      refine ⟨?_, (fun q hq => nomatch hq), fun a o _ h => h, (fun t ht => nomatch ht), Imx.refl _, (fun q hq => nomatch hq), List.nodup_nil⟩
      show HD.Env H _ (vs.map some ++ List.replicate (N.length - vs.length) none)
      rw [hl]
      exact hv.env _
    exact hw ss r hp ⟨H, [], H, 0⟩ { nx := fun _ H' => Q .non H', rt := Q } (fun δ M σ H2 v w hr => q v H2 (fun a o e => w.ent a o (by simp) e) hr) _ _ wd
end
end HD
end
section
namespace HD
open PySem PySem.Spec PyProof.Rows L2
open HR (Sgl Rec)
/-! ### the program's things as data -/
def eS : Sgl → List PyData
  | .put k w => [.str "put", .str k, .str w]
  | .drop k => [.str "drop", .str k]
def eSgl (s : Sgl) : PyData := .tuple (eS s)
def eRi : Rec → List PyData
  | .blank => [.str "blank"]
  | .part (.put k w) p l => [.str "put", .str k, .str w, .int (p : Int), .int (l : Int)]
  | .part (.drop k) p l => [.str "drop", .str k, .int (p : Int), .int (l : Int)]
def eRec (r : Rec) : PyData := .tuple (eRi r)
def eRecs (rs : List Rec) : PyData := .tuple (rs.map eRec)
def eRecsL (rs : List Rec) : PyData := .list (rs.map eRec)
inductive Deed where
  | one (s : Sgl)
  | lot (ss : List Sgl)
def Deed.singles : Deed → List Sgl
  | .one s => [s]
  | .lot ss => ss
def eSs (ss : List Sgl) : PyData := .tuple (ss.map eSgl)
def eDeed : Deed → PyData
  | .one s => eSgl s
  | .lot ss => .tuple [.str "lot", eSs ss]
def eKW (p : Str × Str) : PyData := .tuple [.str p.1, .str p.2]
def eTab (T : List (Str × Str)) : PyData := .tuple (T.map eKW)
def eNK (p : Nat × Str) : PyData := .tuple [.int (p.1 : Int), .str p.2]
def eLst (l : List (Nat × Str)) : PyData := .tuple (l.map eNK)
/-! ### words and keys -/
def signs : Str := "abcdefghijklmnopqrstuvwxyz0123456789"
def okW (x : Str) : Bool := decide (1 ≤ x.length) && decide (x.length ≤ 12) && x.cps.toList.all fun n => signs.cps.toList.contains n
def okS : Sgl → Bool
  | .put k w => okW k && okW w
  | .drop k => okW k
def okR : Rec → Bool
  | .blank => true
  | .part s _ _ => okS s
def okG : Deed → Bool
  | .one s => okS s
  | .lot ss => decide (2 ≤ ss.length) && decide (ss.length ≤ 1000) && ss.all okS
/-! ### types -/
theorem kI_int : kitB "int" "int" = some true := by decide +kernel
theorem kI_bool : kitB "int" "bool" = some false := by decide +kernel
theorem kI_list : kitB "int" "list" = some false := by decide +kernel
theorem kI_tuple : kitB "int" "tuple" = some false := by decide +kernel
theorem kI_str : kitB "int" "str" = some false := by decide +kernel
theorem kB_list : kitB "bool" "list" = some false := by decide +kernel
theorem kB_tuple : kitB "bool" "tuple" = some false := by decide +kernel
theorem kB_bool : kitB "bool" "bool" = some true := by decide +kernel
theorem kB_str : kitB "bool" "str" = some false := by decide +kernel
theorem kN_list : kitB "NoneType" "list" = some false := by decide +kernel
theorem kN_tuple : kitB "NoneType" "tuple" = some false := by decide +kernel
theorem kN_bool : kitB "NoneType" "bool" = some false := by decide +kernel
theorem kN_str : kitB "NoneType" "str" = some false := by decide +kernel
theorem kS_list : kitB "str" "list" = some false := by decide +kernel
theorem kS_tuple : kitB "str" "tuple" = some false := by decide +kernel
theorem kS_str : kitB "str" "str" = some true := by decide +kernel
theorem kS_bool : kitB "str" "bool" = some false := by decide +kernel
theorem kL_list : kitB "list" "list" = some true := by decide +kernel
theorem kL_tuple : kitB "list" "tuple" = some false := by decide +kernel
theorem kT_list : kitB "tuple" "list" = some false := by decide +kernel
theorem kT_tuple : kitB "tuple" "tuple" = some true := by decide +kernel
/-! ### lists as tuples, at every depth -/
mutual
def tupD : PyData → PyData
  | .list xs => .tuple (tupA xs)
  | .tuple xs => .tuple (tupA xs)
  | .none => .none
  | .bool b => .bool b
  | .int i => .int i
  | .str x => .str x
  | .dict kvs => .dict kvs
def tupA : List PyData → List PyData
  | [] => []
  | x :: xs => tupD x :: tupA xs
/-- no deeper than n, no row longer than 1000, no dict -/
def flatD : Nat → PyData → Bool
  | _, .none | _, .bool _ | _, .int _ | _, .str _ => true
  | 0, .list _ | 0, .tuple _ => false
  | n + 1, .list xs => decide (xs.length ≤ 1000) && flatA n xs
  | n + 1, .tuple xs => decide (xs.length ≤ 1000) && flatA n xs
  | _, .dict _ => false
def flatA : Nat → List PyData → Bool
  | _, [] => true
  | n, x :: xs => flatD n x && flatA n xs
end
theorem tupA_map : ∀ xs : List PyData, tupA xs = xs.map tupD
  | [] => by simp [tupA]
  | x :: xs => by rw [tupA, tupA_map xs]; rfl
theorem flatA_iff (n : Nat) : ∀ xs : List PyData, flatA n xs = xs.all (flatD n)
  | [] => by simp [flatA]
  | x :: xs => by rw [flatA, flatA_iff n xs]; rfl
theorem flatD_list {n : Nat} {xs : List PyData} (h : flatD (n + 1) (.list xs) = true) : xs.length ≤ 1000 ∧ ∀ x ∈ xs, flatD n x = true := by
  rw [flatD, flatA_iff] at h
  simpa using h
theorem flatD_tuple {n : Nat} {xs : List PyData} (h : flatD (n + 1) (.tuple xs) = true) : xs.length ≤ 1000 ∧ ∀ x ∈ xs, flatD n x = true := by
  rw [flatD, flatA_iff] at h
  simpa using h
theorem flatD_tuple_of {n : Nat} {xs : List PyData} (h1 : xs.length ≤ 1000) (h2 : ∀ x ∈ xs, flatD n x = true) : flatD (n + 1) (.tuple xs) = true := by
  rw [flatD, flatA_iff]
  simpa using ⟨h1, h2⟩
theorem flatD_list_of {n : Nat} {xs : List PyData} (h1 : xs.length ≤ 1000) (h2 : ∀ x ∈ xs, flatD n x = true) : flatD (n + 1) (.list xs) = true := by
  rw [flatD, flatA_iff]
  simpa using ⟨h1, h2⟩
theorem tupD_eRec (r : Rec) : tupD (eRec r) = eRec r := by
  cases r with
  | blank => simp [eRec, eRi, tupD, tupA]
  | part s p l => cases s <;> simp [eRec, eRi, tupD, tupA]
theorem tupD_eSgl (s : Sgl) : tupD (eSgl s) = eSgl s := by cases s <;> simp [eSgl, eS, tupD, tupA]
theorem tupD_eRecs (rs : List Rec) : tupD (eRecs rs) = eRecs rs := by
  unfold eRecs
  rw [tupD, tupA_map, List.map_map]
  congr 1
  apply List.map_congr_left
  intro r _
  exact tupD_eRec r
theorem tupD_eSs (ss : List Sgl) : tupD (eSs ss) = eSs ss := by
  unfold eSs
  rw [tupD, tupA_map, List.map_map]
  congr 1
  apply List.map_congr_left
  intro r _
  exact tupD_eSgl r
theorem tupD_eDeed (g : Deed) : tupD (eDeed g) = eDeed g := by
  cases g with
  | one s => exact tupD_eSgl s
  | lot ss =>
    unfold eDeed
    rw [tupD, tupA, tupA, tupA, tupD_eSs, tupD]
theorem flat_eRec (r : Rec) : flatD 1 (eRec r) = true := by
  cases r with
  | blank => simp [eRec, eRi, flatD, flatA]
  | part s p l => cases s <;> simp [eRec, eRi, flatD, flatA]
theorem flat_eSgl (s : Sgl) : flatD 1 (eSgl s) = true := by cases s <;> simp [eSgl, eS, flatD, flatA]
theorem flat_eRecs {rs : List Rec} (h : rs.length ≤ 1000) : flatD 2 (eRecs rs) = true := by
  refine flatD_tuple_of (by simpa using h) fun x hx => ?_
  obtain ⟨r, _, rfl⟩ := List.mem_map.mp hx
  exact flat_eRec r
theorem flat_eSs {ss : List Sgl} (h : ss.length ≤ 1000) : flatD 2 (eSs ss) = true := by
  refine flatD_tuple_of (by simpa using h) fun x hx => ?_
  obtain ⟨r, _, rfl⟩ := List.mem_map.mp hx
  exact flat_eSgl r
mutual
theorem flatD_mono : ∀ (n m : Nat) (d : PyData), n ≤ m → flatD n d = true → flatD m d = true
  | n, m, .none, _, _ => by cases m <;> simp [flatD]
  | n, m, .bool b, _, _ => by cases m <;> simp [flatD]
  | n, m, .int i, _, _ => by cases m <;> simp [flatD]
  | n, m, .str x, _, _ => by cases m <;> simp [flatD]
  | 0, m, .list xs, _, h => by simp [flatD] at h
  | 0, m, .tuple xs, _, h => by simp [flatD] at h
  | n + 1, 0, .list xs, hm, _ => absurd hm (by omega)
  | n + 1, 0, .tuple xs, hm, _ => absurd hm (by omega)
  | n + 1, m + 1, .list xs, hm, h => by
    rw [flatD, Bool.and_eq_true] at h ⊢
    exact ⟨h.1, flatA_mono n m xs (by omega) h.2⟩
  | n + 1, m + 1, .tuple xs, hm, h => by
    rw [flatD, Bool.and_eq_true] at h ⊢
    exact ⟨h.1, flatA_mono n m xs (by omega) h.2⟩
  | n, m, .dict kvs, _, h => by cases n <;> simp [flatD] at h
theorem flatA_mono : ∀ (n m : Nat) (xs : List PyData), n ≤ m → flatA n xs = true → flatA m xs = true
  | n, m, [], _, _ => by simp [flatA]
  | n, m, x :: xs, hm, h => by
    rw [flatA, Bool.and_eq_true] at h ⊢
    exact ⟨flatD_mono n m x hm h.1, flatA_mono n m xs hm h.2⟩
end
theorem flat_eDeed {g : Deed} (h : g.singles.length ≤ 1000) : flatD 3 (eDeed g) = true := by
  cases g with
  | one s => exact flatD_mono 1 3 _ (by omega) (flat_eSgl s)
  | lot ss =>
    refine flatD_tuple_of (by simp) fun x hx => ?_
    · rcases List.mem_cons.mp hx with rfl | hx
      · simp [flatD]
      · rcases List.mem_cons.mp hx with rfl | hx
        · exact flat_eSs h
        · simp at hx
/-! ### data that can be compared -/
def shp (n : Nat) (d : PyData) : Prop := d.canLay0 = true ∧ d.depth ≤ n
theorem shp.shaped {n : Nat} {d : PyData} (h : shp n d) (hn : n ≤ 64 := by decide) : SeqAt.shaped d = true := by
  unfold SeqAt.shaped
  rw [h.1]
  simp
  have := h.2
  omega
theorem canLayAll_iff : ∀ xs : List PyData, PyData.canLayAll0 xs = xs.all PyData.canLay0
  | [] => by simp [PyData.canLayAll0]
  | x :: xs => by rw [PyData.canLayAll0, canLayAll_iff xs]; rfl
theorem depthAll_le {n : Nat} : ∀ {xs : List PyData}, (∀ x ∈ xs, x.depth ≤ n) → PyData.depthAll xs ≤ n
  | [], _ => by simp [PyData.depthAll]
  | x :: xs, h => by
    rw [PyData.depthAll]
    have h1 := h x List.mem_cons_self
    have h2 := depthAll_le (xs := xs) fun y hy => h y (List.mem_cons_of_mem _ hy)
    omega
theorem shp.tuple {n : Nat} {xs : List PyData} (h : ∀ x ∈ xs, shp n x) : shp (n + 1) (.tuple xs) := by
  refine ⟨?_, ?_⟩
  · rw [PyData.canLay0, canLayAll_iff]
    simp only [List.all_eq_true]
    exact fun x hx => (h x hx).1
  · rw [PyData.depth]
    have := depthAll_le fun x hx => (h x hx).2
    omega
theorem shp.list {n : Nat} {xs : List PyData} (h : ∀ x ∈ xs, shp n x) : shp (n + 1) (.list xs) := by
  refine ⟨?_, ?_⟩
  · rw [PyData.canLay0, canLayAll_iff]
    simp only [List.all_eq_true]
    exact fun x hx => (h x hx).1
  · rw [PyData.depth]
    have := depthAll_le fun x hx => (h x hx).2
    omega
theorem shp.int {n : Nat} {i : Int} : shp n (.int i) := ⟨by simp [PyData.canLay0], by simp [PyData.depth]⟩
theorem shp.bool {n : Nat} {i : Bool} : shp n (.bool i) := ⟨by simp [PyData.canLay0], by simp [PyData.depth]⟩
theorem shp.none {n : Nat} : shp n .none := ⟨by simp [PyData.canLay0], by simp [PyData.depth]⟩
theorem shp.mono {n m : Nat} {d : PyData} (h : shp n d) (hm : n ≤ m) : shp m d := ⟨h.1, Nat.le_trans h.2 hm⟩
end HD
end
section
namespace L2
open PySem PySem.Spec PyProof.Rows
/-! ### sorted(list of data) -/
def RVD (v : Value) (b : V × PyData) : Prop := RelV b.1 v
theorem vals_each : ∀ {xs : List V} {us : List Value} (ds : List PyData), Vals xs us → xs.length = ds.length → PySem.W.EachIs RVD us (xs.zip ds)
  | _, _, [], .nil, _ => .nil
  | _ :: _, _ :: _, [], .cons _ _, h => by cases h
  | [], [], _ :: _, .nil, h => by cases h
  | x :: xs, u :: us, d :: ds, .cons r t, h => .cons r (vals_each ds t (by simpa using h))
theorem each_vals : ∀ {us : List Value} {bs : List (V × PyData)}, PySem.W.EachIs RVD us bs → Vals (bs.map Prod.fst) us
  | _, _, .nil => .nil
  | _, _, .cons r t => .cons r (each_vals t)
section
variable {X : Cx} {pins : List (Addr × Obj)} {σ : St} {H : Hp} {s : Shared}
theorem dp_each (I : Inv X pins σ H s) : ∀ {xs : List V} {us : List Value} {ds : List PyData}, Vals xs us → DpAll X.K H xs ds → PySem.W.EachIs (fun v (b : V × PyData) => ∃ as, Reads s.heap v b.2 as) us (xs.zip ds)
  | _, _, _, .nil, .nil => .nil
  | x :: xs, u :: us, d :: ds, .cons r t, .cons h hs => .cons (Dp.reads I d x u h r) (dp_each I t hs)
theorem dpAll_length {K : PySem.W.Frag} : ∀ {xs : List V} {ds : List PyData}, DpAll K H xs ds → xs.length = ds.length
  | _, _, .nil => rfl
  | _, _, .cons _ t => by rw [List.length_cons, List.length_cons, dpAll_length t]
def rSortD (K : PySem.W.Frag) : List V → Hp → VK → Prop := fun vs H Q => ∃ (a : Addr) (xs : List V) (ds : List PyData), vs = [V.ref a] ∧ SqL K H a xs ∧ DpAll K H xs ds ∧ PySem.W.AllAlike ds ∧ PySem.W.Sortable ds ∧ (∀ d ∈ ds, d.depth ≤ 60) ∧
  ∀ p, H p = none → Q (.ref p) (upd H p (.lst (((xs.zip ds).mergeSort (PySem.W.dataLe false Prod.snd)).map Prod.fst)))
theorem cr_sortD (hu : X.A.units + 64 < cLine) : CallR X (.builtin "sorted") (rSortD X.K) := by
  intro pins s σ H vs us Q I r h
  obtain ⟨a, xs, ds, rfl, hs, hd, ha, hk, hz, q⟩ := h
  obtain ⟨its, rv, hl, hlen⟩ := I.list hs
  rw [Vals.ref1 r]
  have e1 := dpAll_length hd
  have e2 : (xs.zip ds).map Prod.snd = ds := List.map_snd_zip (by omega)
  refine PySem.W.sorted_data hl.isList (enc := Prod.snd) (vals_each ds rv e1) (dp_each I rv hd) (by rw [e2]; exact ha) (by rw [e2]; exact hk) (by rw [List.length_zip]; omega) (fun b hb => ?_) fun out ho eo => ?_
  · have := hz b.2 (by rw [← e2]; exact List.mem_map.mpr ⟨b, hb, rfl⟩)
    omega
  · obtain ⟨ep, he'⟩ := PyProof.Rows.sortedAll_at s.heap its out.toArray
    have hn : (((xs.zip ds).mergeSort (PySem.W.dataLe false Prod.snd)).map Prod.fst).length ≤ sizeLine := by
      rw [List.length_map, List.length_mergeSort, List.length_zip]; omega
    exact ⟨.ref _, upd H (s.heap.objs.size + 1) (.lst (((xs.zip ds).mergeSort (PySem.W.dataLe false Prod.snd)).map Prod.fst)), I.laid (t' := s.toks) (fun _ _ => PyProof.Rows.sortedAll_old) (Nat.le_succ _) ⟨hn, out, ep, each_vals eo, he'⟩, rfl, q _ (I.hok.fresh (Nat.le_succ _))⟩
end
/-! ### enumerate(tuple) -/
abbrev walker (l : Addr) : Obj := { cls := .type "tuple_iterator", data := .fields #[.ref l, .int 0 0] }
abbrev counter (it : Addr) : Obj := { cls := .type "enumerate", data := .fields #[.none, .bool false, .ref it, rawInt 0, .none, .none] }
theorem enum_made {l : Addr} {items : Array Value} : Meets (Builtin.«enumerate.__new__» ⟨[.type "enumerate", .ref l], []⟩) (fun _ R s => s.heap.IsTuple l items ∧
    R (.ok (.ret (.ref (s.heap.push (walker l)).objs.size))) { s with heap := (s.heap.push (walker l)).push (counter s.heap.objs.size) }) := .of_wp fun prog w A R ⟨hp, g, d, tk, os⟩ ⟨tup, goal⟩ => by
  obtain ⟨⟨c, dct, dt, sl⟩, at0, e1, n, e2⟩ := id tup
  obtain ⟨rfl, rfl⟩ : c = .type "tuple" ∧ dt = .seq items n := ⟨e1, e2⟩
  have known := sub_enumerate
  wp_walk using AutoSeq1.wpAny_loadPart' at0
  refine wpAny_stack_any fun _ => wpAny_pure ?_
  split
  rename_i cls _ _ _ _ _
  cases cls == Value.type "enumerate"
  all_goals (wp_walk using AutoSeq1.wpAny_loadPart' at0, wpAny_pyIter_tuple tup)
  all_goals exact ⟨_, rfl, goal⟩
/-- enumerate(t) of a tuple: a counter over a walker, both new -/
theorem enum_call {prog : Program} {w : World} {A : Around} {E : Value → Shared → Prop} {s : Shared} {l : Addr} {items : Array Value} {Q : Value → Shared → Prop} (tup : s.heap.IsTuple l items)
    (goal : ∀ h', IsEnum h' (s.heap.objs.size + 1) s.heap.objs.size 0 .none ∧ h'.IsTupleIter s.heap.objs.size l 0 ∧ (∀ b o, s.heap.get? b = some o → h'.get? b = some o) → Q (.ref (s.heap.objs.size + 1)) { s with heap := h' }) :
    wpAny (model prog w) A (call (.type "enumerate") [.ref l]) Q E s := by
  have grown : (s.heap.push (walker l)).objs.size = s.heap.objs.size + 1 := Heap.size_push ..
  have at1 : IsEnum ((s.heap.push (walker l)).push (counter s.heap.objs.size)) (s.heap.objs.size + 1) s.heap.objs.size 0 .none := grown ▸ Heap.get?_push_size (s.heap.push (walker l)) (o := counter s.heap.objs.size) rfl
  refine callType_new F.called_enumerate (by decide) (F.typeCall_enumerate_1 _) (F.newCall_enumerate_1 _) (F.args_object_init_2 · _) F.entry_enumerate_new (enum_made (items := items)) ⟨tup, (?_ : _ ∧ _)⟩
  rw [grown]
  exact ⟨⟨_, at1, rfl⟩, goal _ ⟨at1, ⟨_, Heap.get?_push_of_some _ (Heap.get?_push_size _ rfl), rfl, rfl⟩, fun b o e => Heap.get?_push_of_some _ (Heap.get?_push_of_some _ e)⟩⟩
def IteT (K : PySem.W.Frag) (a : Addr) : It :=
  ⟨fun i H => ∃ (xs : List V) (x : V), SqT K H a xs ∧ xs[i]? = some x, fun i H v H' => ∃ T x, v = .ref T ∧ H T = none ∧ H' = upd H T (.tup [.int (i : Nat), x]) ∧ ∀ xs, SqT K H a xs → xs[i]? = some x, fun i H => ∃ xs : List V, SqT K H a xs ∧ xs.length = i⟩
/-- the counter at c and the walker at g stand at the i-th item of the tuple at a -/
structure EnAt (a c g : Addr) (i : Nat) (h : Heap) : Prop where
  cnt : ∃ old, IsEnum h c g ((i : Nat) : Int) old
  wlk : h.IsTupleIter g a i
  cg : c ≠ g
  ag : a ≠ g
  ac : a ≠ c
theorem two {b c g : Addr} (h : b ∈ [c, g]) : b = c ∨ b = g := (List.mem_cons.mp h).imp id fun z => List.mem_singleton.mp z
section
variable {X : Cx} {pins : List (Addr × Obj)} {σ : St} {H : Hp} {s : Shared} {a c g : Addr} {i : Nat}
theorem EnAt.low (n : EnAt a c g i s.heap) {b : Addr} (h : b ∈ [c, g]) : b < s.heap.objs.size := (two h).elim (fun z => z ▸ n.cnt.elim fun _ q => Heap.lt_size q) fun z => z ▸ n.wlk.elim fun _ q => Heap.lt_size q.1
end
theorem turn_enumT {P : Program} {w : World} {K : PySem.W.Frag} {elts : List Expr} {kk : Nat} {tpos : Pos} (a c g : Addr) : Turn P w K (.Tuple elts kk tpos) (IteT K a) [c, g] c (EnAt a c g) where
  mem := List.mem_cons_self
  obj := fun i h n b hb => (two hb).elim (fun z => n.cnt.elim fun _ q => by subst z; exact ⟨_, q, fun _ y => nomatch y⟩) fun z => n.wlk.elim fun o q => ⟨o, z ▸ q.1, fun _ y => by rw [q.2.2] at y; cases y⟩
  keep := fun i h h' n k => ⟨n.cnt.elim fun old q => ⟨old, k c List.mem_cons_self _ q⟩, n.wlk.at fun o q => k g (List.mem_cons_of_mem _ List.mem_cons_self) o q, n.cg, n.ag, n.ac⟩
  self := fun A i s Q E n h => n.cnt.elim fun _ q => wpAny_pyIter_enum q h
  item := by
    rintro X rfl rfl rfl calm i pins s σ H E I own n ⟨xs, x, hq, hx⟩
    obtain ⟨old, hc⟩ := n.cnt
    obtain ⟨its, rv, tup, _⟩ := I.tuple hq
    obtain ⟨u, hu, ru⟩ := rv.get hx
    have room : i < its.toArray.size := by rw [List.size_toArray]; exact (List.getElem?_eq_some_iff.mp hu).1
    refine wpAny_pyNext_enum_itemD (Draws.tuple (A := X.A.in1) (I.ok.hd calm) g a n.ag its.toArray) hc ⟨n.wlk, tup⟩ room n.cg (by simp [n.cg, Ne.symm n.ac]) fun y h1 tk hy ho ⟨wlk1, _⟩ hT _ k1 => ?_
    obtain rfl : y = u := Option.some.inj ((show its[i]? = some y by simpa using (show its.toArray[i]? = some y from hy)).symm.trans hu)
    refine ⟨_, rfl, wpAny_letOwnedTupleGo_enum (s := { s with heap := h1, toks := tk + 1 }) ho fun h2 hc2 sb => ?_⟩
    have low : ∀ b ∈ [c, g], b < s.heap.objs.size := fun b hb => n.low hb
    have pair : h2.get? s.heap.objs.size = some { cls := .type "tuple", data := .seq #[.int i tk, y] } := (sb.2 _ (Nat.ne_of_gt (low c List.mem_cons_self))).trans hT
    have J : Inv X pins σ (upd H s.heap.objs.size (.tup [.int (i : Nat), x])) { s with heap := h2, toks := tk + 1 } := I.turnedNew (ch := [c, g]) (fun b o hb q => (sb.2 b fun z => hb (z ▸ List.mem_cons_self)).trans (k1 b o (fun z => hb (z ▸ List.mem_cons_self)) (fun z => hb (z ▸ List.mem_cons_of_mem _ List.mem_cons_self)) q)) own (Nat.le_refl _) ⟨(by decide : 2 ≤ sizeLine), [.int i tk, y], .cons ⟨_, rfl⟩ (.cons ru .nil), ⟨_, pair, rfl, _, rfl⟩⟩
    refine ⟨.ref s.heap.objs.size, _, J, rfl, ⟨_, x, rfl, I.hok.fresh (Nat.le_refl _), rfl, fun ys hy => by rw [I.tuple_inj hy hq]; exact hx⟩, ⟨⟨y, ?_⟩, wlk1.at fun o q => (sb.2 g (Ne.symm n.cg)).trans q, n.cg, n.ag, n.ac⟩, fun b hb => ?_⟩
    · rw [show ((i + 1 : Nat) : Int) = (i : Int) + 1 by omega]
      exact hc2
    · rw [upd_ne (Nat.ne_of_lt (low b hb))]
      exact (own b hb).1
  done := by
    rintro X rfl rfl rfl calm i pins s σ H E I own n ⟨xs, hq, hx⟩
    obtain ⟨old, hc⟩ := n.cnt
    obtain ⟨its, rv, tup, _⟩ := I.tuple hq
    have all : its.toArray.size = i := by rw [List.size_toArray, ← rv.length, hx]
    obtain ⟨f0, f1, _, f3, f4, f5⟩ := own g (List.mem_cons_of_mem _ List.mem_cons_self)
    exact wpAny_pyNext_enum_endD (Draws.tuple (A := X.A.in1) (I.ok.hd calm) g a n.ag its.toArray) hc ⟨all ▸ n.wlk, tup⟩ fun h' eb => ⟨rfl, I.turned (t' := s.toks) eb f0 f1 f3 f4 f5⟩
def iEnumT (K : PySem.W.Frag) (ta : TA) : TI := fun σ H R => ta σ H fun vs H1 => ∃ a xs, vs = [.ref a] ∧ SqT K H1 a xs ∧ R (IteT K a) H1
theorem pi_enumT {X : Cx} {e : Expr} {ta : TA} {p pos tpos : Pos} {elts : List Expr} {kk : Nat} (hg : Gl X "enumerate") (hm : X.mg "enumerate" = none) (ha : PA X [e] ta) (hs : starEach [e] X.env = [(false, eval e X.env)] := by rfl) :
    PI X (.Tuple elts kk tpos) (.Call (.Name "enumerate" p) [e] [] pos) (iEnumT X.K ta) := ⟨fun pins s σ H R I h => Call_ (ld_blt I hg hm boot_enumerate (callWith_type1 (thn (ha.run pos pins s σ H _ I h) fun us s1 ⟨vs, H1, I1, r1, a, xs, ex, hq, q⟩ => by
  subst ex
  obtain rfl : us = [.ref a] := by
    obtain ⟨u, rfl, ru⟩ := vals1 r1
    cases ru
    rfl
  obtain ⟨its, rv, tup, _⟩ := I1.tuple hq
  have low : a < s1.heap.objs.size := tup.elim fun o q => Heap.lt_size q.1
  refine enum_call tup fun h' ⟨he, hw, keep⟩ => wpAny_pyIter_enum he ?_
  have up : ∀ b ∈ [s1.heap.objs.size + 1, s1.heap.objs.size], s1.heap.objs.size ≤ b := fun b hb => (two hb).elim (fun z => z ▸ Nat.le_succ _) fun z => z ▸ Nat.le_refl _
  exact ⟨s1.heap.objs.size + 1, [s1.heap.objs.size + 1, s1.heap.objs.size], _, _, H1, rfl, I1.kept (t' := s1.toks) keep, turn_enumT a (s1.heap.objs.size + 1) s1.heap.objs.size, ⟨⟨.none, he⟩, hw, Nat.succ_ne_self _, Nat.ne_of_lt low, Nat.ne_of_lt (Nat.lt_succ_of_lt low)⟩, fun b hb => I1.fpOk (up b hb) (I1.hok.fresh (up b hb)), q⟩) hs rfl))⟩
theorem walk_enumT {K : PySem.W.Frag} {a : Addr} {xs : List V} : Walk (IteT K a) xs.length (fun H => SqT K H a xs) (YPair (fun i => some (.int (i : Nat))) (fun i => xs[i]?)) :=
  ⟨fun i _ hi q => ⟨xs, xs[i], q, by simp [hi]⟩, fun _ q => ⟨xs, q, rfl⟩, fun i _ _ _ _ q ⟨T, x, e1, e2, e3, e4⟩ => ⟨T, .int (i : Nat), x, e1, e2, e3, rfl, e4 xs q⟩⟩
end L2
end
section
namespace L2
open PySem PySem.Spec PyProof.Rows
section
variable {X : Cx}
/-- tuple(list): a new tuple whose object has no dict -/
def rTupPl (K : PySem.W.Frag) : List V → Hp → VK → Prop := fun xs H Q => ∃ p ys, xs = [.ref p] ∧ SqL K H p ys ∧ ∀ l o, H l = none → o.dict = none → Q (.ref l) (upd H l (.frz o (.tup ys)))
theorem call_tuple_pl : CallR X (.type "tuple") (rTupPl X.K) := by
  intro pins s σ H xs us Q I r h
  obtain ⟨p, ys, rfl, hq, q⟩ := h
  obtain ⟨u, rfl, rx⟩ := vals1 r
  cases rx
  obtain ⟨its, r', pl, hz⟩ := I.list hq
  have hlen := r'.length
  refine call_tuple_list pl.isList (fun h' kp => ?_) (by simp only [List.size_toArray] <;> omega)
  have I1 : Inv X pins σ H { s with heap := h' } := I.kept (t' := s.toks) kp
  have I2 : Inv X pins σ (upd H h'.objs.size (.frz { cls := .type "tuple", data := .seq its.toArray } (.tup ys))) { s with heap := h'.push { cls := .type "tuple", data := .seq its.toArray } } :=
    I1.laid (t' := s.toks) (fun b o e => Heap.get?_push_of_some _ e) (Nat.le_refl _) (show ObjOk X.prog X.w _ _ _ (.frz _ (.tup ys)) from ⟨Heap.get?_push_size _ rfl, hz, its, r', IsTup.new _ _⟩)
  exact ⟨.ref h'.objs.size, _, I2, rfl, q _ _ (I1.hok.fresh (Nat.le_refl _)) rfl⟩
theorem pairs_of2 {pins : List (Addr × Obj)} {σ : St} {H : Hp} {s : Shared} (I : Inv X pins σ H s) : ∀ {ps : List Addr} {kvs : List (Key × V)}, Paired (fun p kv => SqT X.K H p [kV kv.1, kv.2]) ps kvs →
    ∃ (us : List (Value × Value)) (prs : List (Key × Value)), KV kvs prs ∧ us.length = ps.length ∧ ∀ (j : Nat) (k v : Value), us[j]? = some (k, v) → ∃ (b : Addr) (kk : Key), ps[j]? = some b ∧ IsTup s.heap b #[k, v] ∧ prs[j]? = some (kk, v) ∧ keyIs kk k = true
  | _, _, .nil => ⟨[], [], .nil, rfl, fun j k v e => by simp at e⟩
  | _, _, .cons (a := p) (b := kv) h t => by
    obtain ⟨us, prs, r, hl, hp⟩ := pairs_of2 I t
    obtain ⟨its, rv, ht, _⟩ := I.tuple h
    obtain ⟨u, y, ei, ru, ry⟩ := vals2 rv
    subst ei
    refine ⟨(u, y) :: us, (kv.1, y) :: prs, .cons ⟨rfl, ry⟩ r, by rw [List.length_cons, List.length_cons, hl], fun j k v e => ?_⟩
    cases j with
    | zero =>
      have e' : (u, y) = (k, v) := Option.some.inj e
      cases e'
      exact ⟨p, kv.1, rfl, ht, rfl, kV_is (P := X.prog) (w := X.w) ru⟩
    | succ j =>
      obtain ⟨b, kk, e1, e2, e3, e4⟩ := hp j k v (by simpa using e)
      exact ⟨b, kk, by simpa using e1, e2, by simpa using e3, e4⟩
/-- dict(t), t a plain tuple of pairs -/
def rDictT (K : PySem.W.Frag) : List V → Hp → VK → Prop := fun xs H Q => ∃ (a : Addr) (o : Obj) (ps : List Addr) (kvs : List (Key × V)), xs = [.ref a] ∧ H a = some (.frz o (.tup (ps.map V.ref))) ∧ o.dict = none ∧ Paired (fun p kv => SqT K H p [kV kv.1, kv.2]) ps kvs ∧
  ∀ p, H p = none → Q (.ref p) (upd H p (.dK (mergeK [] kvs)))
theorem call_dictT (hcalm : X.calm = true) : CallR X (.type "dict") (rDictT X.K) := by
  intro pins s σ H xs us Q I r q
  obtain ⟨a, o, ps, kvs, ex, hq, hod, hp, q⟩ := q
  subst ex
  obtain ⟨u, eu, rx⟩ := vals1 r
  subst eu
  cases rx
  obtain ⟨ho, hz, its, rv, ht⟩ := (show ObjOk X.prog X.w H s.heap a (.frz o (.tup (ps.map V.ref))) from I.hok a _ hq)
  have ei := refs_at rv
  subst ei
  obtain ⟨o', ho', hc, n, hdat⟩ := ht
  rw [ho] at ho'
  cases ho'
  rw [List.length_map] at hz
  obtain ⟨us, prs, rel, hl, hpr⟩ := pairs_of2 I hp
  have hl2 : prs.length = us.length := by have := rel.length; have := hp.length; omega
  refine PySem.call_dict_pairs (knd := mixKind X.prog X.w) (kvs := prs) (PairArg.tuple a (ps.map Value.ref).toArray (fun j => ps.getD j 0) us) (I.ok.hd hcalm) ⟨⟨o, n, ho, hc, hod, hdat⟩, by simp [hl], fun j k v e => ?_⟩ ⟨hl2, fun i key v e => ?_⟩ (by rw [hl]; exact hz) fun h' tk hd' k => ?_
  · obtain ⟨b, kk, e1, e2, _⟩ := hpr j k v e
    refine ⟨by simp [e1], .inl ?_⟩
    have : ps.getD j 0 = b := by simp [e1]
    show IsTup s.heap (ps.getD j 0) #[k, v]
    rw [this]
    exact e2
  · obtain ⟨b, kk, e1, e2, e3, e4⟩ := hpr i key v e
    exact ⟨kk, e3, e4⟩
  · have hm : (s.heap.objs.size == sysModules) = false := beq_eq_false_iff_ne.mpr (Nat.ne_of_gt I.big)
    have hlen : (mergeK [] kvs).length ≤ sizeLine := by
      refine Nat.le_trans (length_mergeK kvs []) ?_
      have := hp.length
      rw [List.length_nil, Nat.zero_add]
      omega
    exact ⟨.ref s.heap.objs.size, upd H s.heap.objs.size (.dK (mergeK [] kvs)), I.laid (t' := tk) (fun b o e => k b o (by simp) e) (Nat.le_refl _) (show ObjOk X.prog X.w _ _ _ (.dK (mergeK [] kvs)) from ⟨hlen, hm, merged [] prs, KV.merge rel .nil, hd'⟩), rfl, q _ (I.hok.fresh (Nat.le_refl _))⟩
/-- d.items() -/
def rItemsK : V → List V → Hp → VK → Prop := fun x xs H Q => ∃ (a : Addr) (kvs : List (Key × V)), x = .ref a ∧ xs = [] ∧ H a = some (.dK kvs) ∧ ∀ p, H p = none → Q (.ref p) (upd H p (DX.itemsO p a))
theorem mt_itemsK : MtR X "dict.items" rItemsK := by
  intro pins s σ H x xs v us Q I rx rxs h
  obtain ⟨a, kvs, rfl, rfl, ha, q⟩ := h
  cases rx
  cases rxs
  obtain ⟨z, hd, vs, rel, o, es, ep, ho, hx, hdat, _⟩ := dk_of I.hok ha
  refine DT.callItems (es := es) (ep := ep) hd ⟨o, ho, hx, hdat⟩ ?_
  have hf : H s.heap.objs.size = none := I.hok.fresh (Nat.le_refl _)
  exact ⟨.ref s.heap.objs.size, upd H s.heap.objs.size (DX.itemsO s.heap.objs.size a), I.laid (t' := s.toks) (fun b u e => Heap.get?_push_of_some _ e) (Nat.le_refl _) (DX.itemsO_ok (Heap.get?_push_size _ rfl)), rfl, q _ hf⟩
/-- sorted(d.items()), d of texts by texts -/
def ssK (kvs : List (Str × Str)) : List (Key × V) := kvs.map fun e => (.inr e.1, .str e.2)
def encSS (e : Str × Str) : PyData := .tuple [.str e.1, .str e.2]
def rSortSS : List V → Hp → VK → Prop := fun vs H Q => ∃ (p a : Addr) (kvs : List (Str × Str)), vs = [.ref p] ∧ H p = some (DX.itemsO p a) ∧ H a = some (.dK (ssK kvs)) ∧
  ∀ (H' : Hp) (l : Addr) (as : List Addr), (∀ b o, H b = some o → H' b = some o) → H l = none → H' l = some (.lst (as.map V.ref)) →
    Paired (fun b (e : Str × Str) => H' b = some (.tup [.str e.1, .str e.2])) as (kvs.mergeSort (PySem.W.dataLe false encSS)) → Q (.ref l) H'
theorem paired_of {α β : Type} {F : α → β → Prop} : ∀ (l : List (α × β)), (∀ p ∈ l, F p.1 p.2) → Paired F (l.map Prod.fst) (l.map Prod.snd)
  | [], _ => .nil
  | p :: l, h => .cons (h p List.mem_cons_self) (paired_of l fun q hq => h q (List.mem_cons_of_mem _ hq))
theorem each_out : ∀ {us : List Value} {bs : List (Addr × Str × Str)}, PySem.W.EachIs (fun v (b : Addr × Str × Str) => v = .ref b.1) us bs → us = bs.map fun b => Value.ref b.1
  | _, _, .nil => rfl
  | _, _, .cons h t => by rw [List.map_cons, ← each_out t, h]
theorem each_idx {β : Type} {R : Value → β → Prop} : ∀ {us : List Value} {bs : List β}, us.length = bs.length → (∀ (j : Nat) (u : Value) (b : β), us[j]? = some u → bs[j]? = some b → R u b) → PySem.W.EachIs R us bs
  | [], [], _, _ => .nil
  | [], _ :: _, h, _ => by cases h
  | _ :: _, [], h, _ => by cases h
  | u :: us, b :: bs, h, k => .cons (k 0 u b rfl rfl) (each_idx (by simpa using h) fun j u' b' e1 e2 => k (j + 1) u' b' (by simpa using e1) (by simpa using e2))
theorem cr_sortSS (hc : X.calm = true) (hu : X.A.units + 64 < cLine) : CallR X (.builtin "sorted") rSortSS := by
  intro pins s σ H xs us Q I r h
  obtain ⟨p, a, kvs, rfl, hp, ha, q⟩ := h
  obtain rfl := Vals.ref1 r
  have view : s.heap.IsItemsView p a := (show ObjOk X.prog X.w H s.heap p (DX.itemsO p a) from I.hok p _ hp).1
  obtain ⟨z, hd, vs, rel, o, es, ep, ho, hx, hdat, hkeys, hps, hn⟩ := dk_of I.hok ha
  have l1 : (ssK kvs).length = vs.length := Paired.length rel
  have l0 : (ssK kvs).length = kvs.length := by simp [ssK]
  have l2 : es.size = vs.length := by rw [← Array.length_toList]; exact hps.length
  have hh : X.A.handled = none := I.ok.hd hc
  refine DT.sortedI (es := es) (ep := ep) hh view ⟨o, ho, hx, hdat⟩ (by omega) fun h' tk as hk hlt hl hG => ?_
  have lak : as.length = kvs.length := by omega
  have nd : as.Nodup := List.Pairwise.imp (fun h => Nat.ne_of_lt h) hG.rise
  have pr : ∀ (j : Nat) (b : Addr) (e : Str × Str), as[j]? = some b → kvs[j]? = some e → ∃ (u v : Value), RelV (.str e.1) u ∧ RelV (.str e.2) v ∧ h'.get? b = some { cls := .type "tuple", data := .seq #[u, v] } := by
    intro j b e hj he
    obtain ⟨en, hen, hg⟩ := hG.pairs j b hj
    have hj' : j < vs.length := by have := (List.getElem?_eq_some_iff.mp hj).1; omega
    have hv : vs[j]? = some (vs[j].1, vs[j].2) := List.getElem?_eq_getElem hj'
    obtain ⟨k1, k2⟩ := hps.get? (i := j) (by rw [Array.getElem?_toList]; exact hen) hv
    obtain ⟨y, hy, e1, e2⟩ := DX.pget rel hv
    have hy' : (ssK kvs)[j]? = some (.inr e.1, .str e.2) := by simp [ssK, he]
    rw [hy] at hy'
    cases hy'
    have e1 : (Sum.inr e.1 : Key) = vs[j].1 := e1
    rw [← e1] at k1
    refine ⟨en.key, en.val, ?_, by rw [k2]; exact e2, hg⟩
    exact relV_key (k := .inr e.1) k1
  -- the heap of the sort
  have hob : (h'.push { cls := .type "list", data := .seq (as.map Value.ref).toArray }).get? h'.objs.size = some (seqObj "list" (as.map Value.ref).toArray 0) := Heap.get?_push_size _ rfl
  have ka : ∀ b o, h'.get? b = some o → (h'.push { cls := .type "list", data := .seq (as.map Value.ref).toArray }).get? b = some o := fun b o e => Heap.get?_push_of_some _ e
  have kb : ∀ b o, s.heap.get? b = some o → (h'.push { cls := .type "list", data := .seq (as.map Value.ref).toArray }).get? b = some o := fun b o e => ka b o (hk b o e)
  have ne0 : ∀ b o, h'.get? b = some o → b ≠ h'.objs.size := fun b o e => Nat.ne_of_lt (Heap.lt_size e)
  generalize hh2 : h'.push { cls := .type "list", data := .seq (as.map Value.ref).toArray } = h2 at hob kb ka ⊢
  have ez : (as.zip kvs).map (fun b => encSS b.2) = kvs.map encSS := by
    rw [show (fun b : Addr × Str × Str => encSS b.2) = encSS ∘ Prod.snd from rfl, ← List.map_map, List.map_snd_zip (by omega)]
  refine PySem.W.list_sort_data (bs := as.zip kvs) (enc := fun b => encSS b.2) (R := fun v (b : Addr × Str × Str) => v = .ref b.1) hob ?_ ?_ ?_ ?_ ?_ ?_ fun out hol eo => ?_
  · refine each_idx (by rw [List.length_map, List.length_zip]; omega) fun j u b e1 e2 => ?_
    obtain ⟨e3, e4⟩ := List.getElem?_zip_eq_some.mp e2
    rw [List.getElem?_map, e3] at e1
    exact (Option.some.inj e1).symm
  · refine each_idx (by rw [List.length_map, List.length_zip]; omega) fun j u b e1 e2 => ?_
    obtain ⟨e3, e4⟩ := List.getElem?_zip_eq_some.mp e2
    rw [List.getElem?_map, e3] at e1
    obtain rfl := (Option.some.inj e1).symm
    obtain ⟨u, v, ⟨t1, r1⟩, ⟨t2, r2⟩, hg⟩ := pr j b.1 b.2 e3 e4
    subst r1 r2
    exact ⟨_, .tuple (ka _ _ hg) rfl rfl (.cons (.str _ _) (.cons (.str _ _) .nil)), by simp⟩
  · exact PySem.W.AllAlike.of fun _ _ => by simp [PySem.W.alike, PySem.W.alikeAll, encSS]
  · exact PySem.W.Sortable.tuples fun b => ⟨_, _, rfl⟩
  · rw [List.length_zip]; omega
  · intro b _
    have : (encSS b.2).depth = 1 := by simp [encSS, PyData.depth, PyData.depthAll]
    show X.A.units + 1 + 1 + (encSS b.2).depth < cLine
    omega
  · have kF : ∀ b o, b ≠ h'.objs.size → h2.get? b = some o → (sortedHeap h2 h'.objs.size (as.map Value.ref) (List.toArray out)).get? b = some o := fun b o hb e => (PyProof.Rows.sortedHeap_old hb (Heap.lt_size e)).trans e
    have kS : ∀ b o, s.heap.get? b = some o → (sortedHeap h2 h'.objs.size (as.map Value.ref) (List.toArray out)).get? b = some o := fun b o e => kF b o (ne0 _ _ (hk b o e)) (kb b o e)
    obtain ⟨eF, heF⟩ := PyProof.Rows.sortedHeap_at (vs := as.map Value.ref) (out := List.toArray out) hob
    have I1 : Inv X pins σ H { s with heap := sortedHeap h2 h'.objs.size (as.map Value.ref) (List.toArray out), toks := tk } := I.kept (t' := tk) kS
    have hn0 : H h'.objs.size = none := I.hok.fresh (Nat.le_of_lt hlt)
    have hout := each_out eo
    have hlen : (((as.zip kvs).mergeSort (PySem.W.dataLe false fun b => encSS b.2)).map fun b => V.ref b.1).length ≤ sizeLine := by
      rw [List.length_map, List.length_mergeSort, List.length_zip]; omega
    have rv : Vals (((as.zip kvs).mergeSort (PySem.W.dataLe false fun b => encSS b.2)).map fun b => V.ref b.1) out := by
      rw [hout]
      exact vals_maps (fun z : Addr × Str × Str => V.ref z.1) (fun z => Value.ref z.1) _ fun _ _ => rfl
    have I2 : Inv X pins σ (upd H h'.objs.size (.lst (((as.zip kvs).mergeSort (PySem.W.dataLe false fun b => encSS b.2)).map fun b => V.ref b.1))) { s with heap := sortedHeap h2 h'.objs.size (as.map Value.ref) (List.toArray out), toks := tk } :=
      I1.take (h' := sortedHeap h2 h'.objs.size (as.map Value.ref) (List.toArray out)) (t' := tk) (fun b ob _ e => e) (I.fpOk (Nat.le_of_lt hlt) hn0) ⟨hlen, out, eF, rv, heF⟩
    obtain ⟨H2, I3, g, qt⟩ := DX.takeT (P := fun b vs => ∃ (j : Nat) (e : Str × Str), as[j]? = some b ∧ kvs[j]? = some e ∧ vs = [.str e.1, .str e.2]) I as _ I2 nd fun b hb => by
      obtain ⟨j, hj⟩ := List.mem_iff_getElem?.mp hb
      have hjl : j < kvs.length := by have := (List.getElem?_eq_some_iff.mp hj).1; omega
      obtain ⟨u, v, r1, r2, hg⟩ := pr j b kvs[j] hj (List.getElem?_eq_getElem hjl)
      have hbl : s.heap.objs.size ≤ b := Nat.le_of_lt (hG.above b hb)
      refine ⟨hbl, ?_, [.str kvs[j].1, .str kvs[j].2], ⟨j, kvs[j], hj, List.getElem?_eq_getElem hjl, rfl⟩, fun H3 => ⟨(by rw [sizeLine_eq]; show 2 ≤ 16777216; omega), [u, v], .cons r1 (.cons r2 .nil), ⟨_, kF _ _ (ne0 _ _ hg) (ka _ _ hg), rfl, 0, rfl⟩⟩⟩
      rw [upd_ne (ne0 _ _ hg)]
      exact I.hok.fresh hbl
    have gr : ∀ b o, H b = some o → H2 b = some o := fun b o e => g b o (by rw [upd_ne (ne_of_none e hn0)]; exact e)
    refine ⟨.ref h'.objs.size, H2, I3, rfl, q H2 h'.objs.size (((as.zip kvs).mergeSort (PySem.W.dataLe false fun b => encSS b.2)).map Prod.fst) gr hn0 (by rw [List.map_map]; exact g _ _ upd_same) ?_⟩
    have es2 : ((as.zip kvs).mergeSort (PySem.W.dataLe false fun b => encSS b.2)).map Prod.snd = kvs.mergeSort (PySem.W.dataLe false encSS) := by
      refine (List.map_mergeSort (r := PySem.W.dataLe false fun b : Addr × Str × Str => encSS b.2) (s := PySem.W.dataLe false encSS) (f := Prod.snd) (fun a _ b _ => rfl)).trans ?_
      rw [List.map_snd_zip (by omega)]
    rw [← es2]
    refine paired_of _ fun z hz => ?_
    have hz' : z ∈ as.zip kvs := (List.mergeSort_perm _ _).mem_iff.mp hz
    obtain ⟨i, hi⟩ := List.mem_iff_getElem?.mp hz'
    obtain ⟨i1, i2⟩ := List.getElem?_zip_eq_some.mp hi
    obtain ⟨vs', ⟨j, e, j1, j2, ev⟩, hH⟩ := qt z.1 (List.mem_of_getElem? i1)
    have eij : i = j := (List.getElem?_inj (List.getElem?_eq_some_iff.mp i1).1 nd).mp (i1.trans j1.symm)
    subst eij
    have ee : e = z.2 := Option.some.inj (j2.symm.trans i2)
    rw [ev, ee] at hH
    exact hH
end
end L2
end
section
namespace L2
open PySem PySem.Spec PyProof.Rows
section
variable {X : Cx} (K : PySem.W.Frag) (h : X.K = K)
include h
theorem k_ixT : IxR X (rIxT K) := h ▸ ix_tup
theorem k_ixL : IxR X (rIxL K) := h ▸ ix_list
theorem k_slT : SlR X (rSlA K) := h ▸ sl_tupA
theorem k_slL : SlR X (rSlL K) := h ▸ sl_list
theorem k_catA : OpR X (binaryOp .Add) (rCatA K) := h ▸ op_catA
theorem k_len : CallR X (.builtin "len") (fun xs H Q => ∃ p ys, xs = [.ref p] ∧ (SqL K H p ys ∨ SqT K H p ys) ∧ Q (.int ys.length) H) := h ▸ call_len_seq
theorem k_isi : CallR X (.builtin "isinstance") (rIsi K) := h ▸ call_isi
theorem k_isiT : CallR X (.builtin "isinstance") (rIsiT K) := h ▸ call_isiT
theorem k_tupOf : CallR X (.type "tuple") (fun xs H Q => ∃ p ys, xs = [.ref p] ∧ ((SqL K H p ys ∧ ∀ l, H l = none → Q (.ref l) (upd H l (.tup ys))) ∨ (SqT K H p ys ∧ Q (.ref p) H))) := h ▸ call_tuple_of
theorem k_lstOf : CallR X (.type "list") (fun xs H Q => ∃ p ys, xs = [.ref p] ∧ (SqL K H p ys ∨ SqT K H p ys) ∧ ∀ l, H l = none → Q (.ref l) (upd H l (.lst ys))) := h ▸ call_list_of
theorem k_all (hc : X.calm = true) : CallR X (.builtin "all") (rAll K) := h ▸ cr_all hc
theorem k_any (hc : X.calm = true) : CallR X (.builtin "any") (rAny K) := h ▸ cr_any hc
theorem k_eqD (hu : X.A.units + 64 < cLine) : OpR X (compareOp .Eq) (rEqD K) := h ▸ op_eqD hu
theorem k_neD (hu : X.A.units + 64 < cLine) : OpR X (compareOp .NotEq) (rNeD K) := h ▸ op_neD hu
theorem pg_tupK {es : List Expr} {k : Nat} {pos : Pos} {t : TGs} {n : Nat} (hc : X.calm = true) (g : PGs X es t)
    (hn : (assignEach es X.env).length = n := by rfl) (hst : (assignEach es X.env).findIdx? (·.1) = none := by rfl) : PG X (.Tuple es k pos) (gTup K n t) := h ▸ pg_tup hc g hn hst
end
end L2
namespace HD
open PySem PySem.Spec PyProof.Rows L2
open HR (Sgl Rec dput ddrop dlook Nk isort leKW leNK strLt perm_isort)
section
variable {K : PySem.W.Frag} {c : Ct} {δ : List Sl} {M : Mem} {ta tb te tx : TE} {t u : TT} {s s' z : Sl} {ds es : List PyData} {d : PyData}
/-! ### enumerate(tuple) -/
theorem es_enumT {tt : TA} (h : EdA c tt δ M [.d (.tuple ds)]) : Es c (iEnumT K tt) δ M (enumD ds) := fun σ H w R k => h σ H w _ fun vs H1 s1 hv => by
  obtain ⟨v, rfl, a, xs, rfl, h1, h2⟩ := sl1 hv
  refine ⟨a, xs, rfl, .inl h1, k _ H1 (fun H => Rd H a (.tup xs) ∧ DiA H ds xs) s1 (fun Ha Hb i g => ⟨i.rd g.1, DiA.mono i _ _ g.2⟩) ⟨h1, h2⟩ ?_⟩
  have hw : Walk (IteT K a) xs.length (fun H => SqT K H a xs) (YPair (fun i => some (.int (i : Nat))) (fun i => xs[i]?)) := walk_enumT
  rw [show (enumD ds).length = xs.length by simp [enumD, h2.length]]
  refine hw.mono (fun H g => .inl g.1) fun i Ha x Hb hi g y => ?_
  obtain ⟨T, x1, x2, rfl, hT, e, e1, e2⟩ := y
  obtain ⟨d, e3, e4⟩ := g.2.getv e2
  have e1 := Option.some.inj e1
  subst e1
  obtain ⟨q1, q2⟩ := pair_di (a := .int (i : Int)) hT e rfl e4
  exact ⟨_, by simp [enumD, e3], q1, q2⟩
/-! ### sorted -/
mutual
def noD : PyData → Bool
  | .dict _ => false
  | .list xs => noA xs
  | .tuple xs => noA xs
  | _ => true
def noA : List PyData → Bool
  | [] => true
  | x :: xs => noD x && noA xs
end
mutual
theorem Di.dp2 {H : Hp} : ∀ (d : PyData) (v : V), noD d = true → Di H d v → Dp K H v d
  | .none, v, _, h => by have h : v = .non := h; subst h; exact .non
  | .bool b, v, _, h => by have h : v = .bl b := h; subst h; exact .bl b
  | .int i, v, _, h => by have h : v = .int i := h; subst h; exact .int i
  | .str x, v, _, h => by have h : v = .str x := h; subst h; exact .str x
  | .list ds, v, hs, h => by
    obtain ⟨a, o, xs, e, ha, hd⟩ := h
    subst e
    exact .lst (.inl (.inr ⟨o, ha⟩)) (DiA.dp2 ds xs (by simpa [noD] using hs) hd)
  | .tuple ds, v, hs, h => by
    obtain ⟨a, xs, e, ha, hd⟩ := h
    subst e
    exact .tup (.inl ha) (DiA.dp2 ds xs (by simpa [noD] using hs) hd)
  | .dict kvs, v, hs, h => by simp [noD] at hs
theorem DiA.dp2 {H : Hp} : ∀ (ds : List PyData) (xs : List V), noA ds = true → DiA H ds xs → DpAll K H xs ds
  | [], xs, _, h => by have h : xs = [] := h; subst h; exact .nil
  | d :: ds, xs, hs, h => by
    obtain ⟨x, r, e, h1, h2⟩ := h
    subst e
    have hs' : noD d = true ∧ noA ds = true := by simpa [noA] using hs
    exact .cons (Di.dp2 d x hs'.1 h1) (DiA.dp2 ds r hs'.2 h2)
end
theorem diA_fst {H : Hp} : ∀ {bs : List (V × PyData)}, (∀ b ∈ bs, Di H b.2 b.1) → DiA H (bs.map Prod.snd) (bs.map Prod.fst)
  | [], _ => rfl
  | b :: bs, h => ⟨b.1, bs.map Prod.fst, rfl, h b List.mem_cons_self, diA_fst fun q hq => h q (List.mem_cons_of_mem _ hq)⟩
theorem diA_zip {H : Hp} : ∀ {ds : List PyData} {xs : List V}, DiA H ds xs → ∀ b ∈ xs.zip ds, Di H b.2 b.1
  | [], _, h, b, hb => by have h : _ = [] := h; subst h; simp at hb
  | d :: ds, _, h, b, hb => by
    obtain ⟨x, r, e, h1, h2⟩ := h
    subst e
    rw [List.zip_cons_cons] at hb
    rcases List.mem_cons.mp hb with rfl | hb
    · exact h1
    · exact diA_zip h2 b hb
def sortD (ds : List PyData) : List PyData := ds.mergeSort (PySem.W.dataLe false id)
theorem ed_sortD (ha : Ed c ta δ M (.d (.list ds))) (hc : noA ds = true) (hal : PySem.W.AllAlike ds) (hk : PySem.W.Sortable ds) (hz : ∀ d ∈ ds, d.depth ≤ 60) : Ed c (tFz (tCB (rSortD K) (tCons ta tNil))) δ M (.d (.list (sortD ds))) := fun σ H w Q k =>
  ha σ H w _ fun v H1 s1 hv => by
    obtain ⟨a, o, xs, rfl, h1, h2⟩ := hv
    refine ⟨a, xs, ds, rfl, .inl (.inr ⟨o, h1⟩), DiA.dp2 ds xs hc h2, hal, hk, hz, fun l hl => ⟨l, _, rfl, upd_same, trivial, fun o' => ?_⟩⟩
    have sm := same_frz (o := .frz o' (.lst (((xs.zip ds).mergeSort (PySem.W.dataLe false Prod.snd)).map Prod.fst))) hl (Same.new (o := .lst (((xs.zip ds).mergeSort (PySem.W.dataLe false Prod.snd)).map Prod.fst)) hl)
    refine k _ _ (s1.trans (.same sm)) ⟨l, o', _, rfl, upd_same, ?_⟩
    have e : sortD ds = ((xs.zip ds).mergeSort (PySem.W.dataLe false Prod.snd)).map Prod.snd := by
      unfold sortD
      rw [List.map_mergeSort (r := PySem.W.dataLe false (Prod.snd : V × PyData → PyData)) (s := PySem.W.dataLe false id) (f := Prod.snd) (fun a _ b _ => rfl), List.map_snd_zip (by have := h2.length; omega)]
    rw [e]
    exact DiA.mono (.same sm) _ _ (diA_fst fun b hb => diA_zip h2 b ((List.mergeSort_perm _ _).mem_iff.mp hb))
/-! what the order says -/
theorem sort_le {β : Type} {enc : β → PyData} {le : β → β → Bool} (tot : ∀ a b, le a b = true ∨ le b a = true) (tr : ∀ a b c, le a b = true → le b c = true → le a c = true) (as : ∀ a b, le a b = true → le b a = true → a = b)
    (he : ∀ a b, PySem.W.dataLe false id (enc a) (enc b) = le a b) {l : List β} (hn : l.Nodup) : sortD (l.map enc) = (isort le l).map enc := by
  have e1 : sortD (l.map enc) = (l.mergeSort le).map enc := (List.map_mergeSort (r := le) (s := PySem.W.dataLe false id) (f := enc) (fun a _ b _ => (he a b).symm)).symm
  rw [e1]
  congr 1
  have hp : (l.mergeSort le).Perm l := List.mergeSort_perm _ _
  have hs : (l.mergeSort le).Pairwise fun a b => le a b = true := List.pairwise_mergeSort tr (fun a b => by
    rcases tot a b with h | h <;> simp [h]) l
  exact HR.sorted_ext as _ _ hs (HR.isort_sorted tot tr l) (hp.nodup_iff.mpr hn) ((HR.isort_perm l).nodup_iff.mpr hn) fun x => by rw [hp.mem_iff, (HR.isort_perm l).mem_iff]
theorem dataLt_ss (a b : Str) : PySem.W.dataLt (.str a) (.str b) = strLt a b := by
  rw [PySem.W.dataLt_str]; rfl
theorem eqv_ss (a b : Str) : PyData.eqv (.str a) (.str b) = decide (a = b) := by
  rw [PyData.eqv]
  by_cases h : a = b
  · subst h; simp
  · simp [h]
theorem le_KW (p q : Str × Str) : PySem.W.dataLe false id (eKW p) (eKW q) = leKW p q := by
  show (!PySem.W.dataLt (.tuple [.str q.1, .str q.2]) (.tuple [.str p.1, .str p.2])) = _
  rw [PySem.W.dataLt_pair (by simp [PySem.W.alike]) (by simp [PySem.W.alike]), eqv_ss, eqv_ss, dataLt_ss, dataLt_ss]
  unfold leKW
  by_cases h1 : p.1 = q.1
  · rw [if_pos h1, h1]
    by_cases h2 : p.2 = q.2
    · rw [h2]; simp [HR.strLt_irrefl]
    · simp [Ne.symm h2]
  · rw [if_neg h1]
    have h1' : ¬ q.1 = p.1 := fun e => h1 e.symm
    simp only [decide_eq_true_eq, if_neg h1']
    cases h : strLt p.1 q.1 with
    | true => rw [HR.strLt_asymm h]; rfl
    | false =>
      cases h' : strLt q.1 p.1 with
      | true => rfl
      | false => exact absurd (HR.strLt_total h h') h1
theorem le_NK (p q : Nat × Str) : PySem.W.dataLe false id (eNK p) (eNK q) = leNK p q := by
  show (!PySem.W.dataLt (.tuple [.int (q.1 : Int), .str q.2]) (.tuple [.int (p.1 : Int), .str p.2])) = _
  rw [PySem.W.dataLt_pair (by simp [PySem.W.alike]) (by simp [PySem.W.alike]), eqv_ss, PySem.W.dataLt_int, dataLt_ss]
  unfold leNK
  simp only [PyData.eqv, beq_iff_eq, Int.ofNat_inj]
  by_cases h1 : p.1 = q.1
  · rw [if_pos h1, if_pos h1.symm]
    by_cases h2 : p.2 = q.2
    · rw [h2]; simp [HR.strLt_irrefl]
    · simp [Ne.symm h2]
  · rw [if_neg h1, if_neg (Ne.symm h1)]
    by_cases h : p.1 < q.1
    · have : ¬ (q.1 : Int) < (p.1 : Int) := by omega
      simp [h, this]
    · have : (q.1 : Int) < (p.1 : Int) := by omega
      simp [h, this]
theorem sort_KW {l : List (Str × Str)} (hn : l.Nodup) : sortD (l.map eKW) = (isort leKW l).map eKW := sort_le HR.leKW_total HR.leKW_trans HR.leKW_antisymm le_KW hn
theorem sort_NK {l : List (Nat × Str)} (hn : l.Nodup) : sortD (l.map eNK) = (isort leNK l).map eNK := sort_le HR.leNK_total HR.leNK_trans HR.leNK_antisymm le_NK hn
theorem lay_KW : ∀ l : List (Str × Str), noA (l.map eKW) = true
  | [] => by simp [noA]
  | p :: l => by simp only [List.map_cons, noA, lay_KW l]; simp [eKW, noD, noA]
theorem lay_NK : ∀ l : List (Nat × Str), noA (l.map eNK) = true
  | [] => by simp [noA]
  | p :: l => by simp only [List.map_cons, noA, lay_NK l]; simp [eNK, noD, noA]
theorem ed_sortKW {l : List (Str × Str)} (hn : l.Nodup) (ha : Ed c ta δ M (.d (.list (l.map eKW)))) : Ed c (tFz (tCB (rSortD K) (tCons ta tNil))) δ M (.d (.list ((isort leKW l).map eKW))) := by
  rw [← sort_KW hn]
  refine ed_sortD ha (lay_KW l) (PySem.W.AllAlike.of fun _ _ => by simp [PySem.W.alike, PySem.W.alikeAll, eKW]) (PySem.W.Sortable.tuples fun _ => ⟨_, _, rfl⟩) fun d hd => ?_
  obtain ⟨p, _, rfl⟩ := List.mem_map.mp hd
  simp [eKW, PyData.depth, PyData.depthAll]
theorem ed_sortNK {l : List (Nat × Str)} (hn : l.Nodup) (ha : Ed c ta δ M (.d (.list (l.map eNK)))) : Ed c (tFz (tCB (rSortD K) (tCons ta tNil))) δ M (.d (.list ((isort leNK l).map eNK))) := by
  rw [← sort_NK hn]
  refine ed_sortD ha (lay_NK l) (PySem.W.AllAlike.of fun _ _ => by simp [PySem.W.alike, PySem.W.alikeAll, eNK]) (PySem.W.Sortable.tuples fun _ => ⟨_, _, rfl⟩) fun d hd => ?_
  obtain ⟨p, _, rfl⟩ := List.mem_map.mp hd
  simp [eNK, PyData.depth, PyData.depthAll]
/-! ### plain tuples, dicts made of them -/
theorem ed_tupPl (ha : Ed c ta δ M (.d (.list ds))) : Ed c (tCB (rTupPl K) (tCons ta tNil)) δ M (.d (pl (.tuple ds))) :=
  ed_cb (ea_cons ha ea_nil) fun H vs hv Q k => by
    obtain ⟨v, rfl, a, o, xs, rfl, h1, h2⟩ := sl1 hv
    exact ⟨a, xs, rfl, .inl (.inr ⟨o, h1⟩), fun l o' hl ho => k _ _ (Same.new hl) (.inr ⟨rfl, rfl, ⟨l, o', xs, rfl, upd_same, ho⟩, l, xs, rfl, .inr ⟨o', upd_same⟩, DiA.mono (.new hl) _ _ h2⟩)⟩
theorem diA_pairs {H : Hp} : ∀ {T : List (Str × Str)} {xs : List V}, DiA H (T.map eKW) xs → ∃ ps : List Addr, xs = ps.map V.ref ∧ Paired (fun p (kv : Key × V) => SqT K H p [kV kv.1, kv.2]) ps (ssK T)
  | [], _, h => by have h : _ = [] := h; exact ⟨[], h, .nil⟩
  | e :: T, _, h => by
    obtain ⟨x, r, ex, h1, h2⟩ := h
    obtain ⟨ps, e1, e2⟩ := diA_pairs h2
    obtain ⟨a, ys, rfl, h3, y1, r1, rfl, g1, y2, r2, rfl, g2, g3⟩ := h1
    have g3 : r2 = [] := g3
    have g1 : y1 = .str e.1 := g1
    have g2 : y2 = .str e.2 := g2
    subst g1 g2 g3
    subst ex
    exact ⟨a :: ps, by rw [e1]; rfl, .cons (.inl h3) e2⟩
theorem merge_nk {T : List (Str × Str)} (h : Nk T) : mergeK [] (ssK T) = ssK T := by
  have aux : ∀ (T S : List (Str × Str)), Nk (S ++ T) → mergeK (ssK S) (ssK T) = ssK (S ++ T) := by
    intro T
    induction T with
    | nil => intro S _; simp [mergeK, ssK]
    | cons e T ih =>
      intro S hS
      have h1 : putK (ssK S) (.inr e.1) (.str e.2) = ssK (S ++ [e]) := by
        unfold putK
        have hno : ¬ ((ssK S).any fun q => decide (q.1 = (Sum.inr e.1 : Key))) = true := by
          rw [List.any_eq_true]
          rintro ⟨q, hq, he⟩
          obtain ⟨z, hz, rfl⟩ := List.mem_map.mp hq
          have he : z.1 = e.1 := by simpa using he
          unfold Nk at hS
          rw [List.map_append, List.map_cons, List.nodup_append] at hS
          exact hS.2.2 z.1 (List.mem_map.mpr ⟨z, hz, rfl⟩) e.1 List.mem_cons_self he
        rw [if_neg hno]
        simp [ssK]
      show mergeK (putK (ssK S) (.inr e.1) (.str e.2)) (ssK T) = _
      rw [h1, ih (S ++ [e]) (by rw [List.append_assoc]; exact hS), List.append_assoc]
      rfl
  exact aux T [] h
theorem diS_ss {H : Hp} : ∀ T : List (Str × Str), DiS H (T.map fun e => (e.1, .str e.2)) (ssK T)
  | [] => rfl
  | e :: T => ⟨.str e.2, ssK T, rfl, rfl, diS_ss T⟩
theorem ss_of {H : Hp} : ∀ {T : List (Str × Str)} {ks : List (Key × V)}, DiS H (T.map fun e => (e.1, .str e.2)) ks → ks = ssK T
  | [], _, h => h
  | e :: T, _, h => by
    obtain ⟨x, r, ex, h1, h2⟩ := h
    have h1 : x = .str e.2 := h1
    subst h1
    rw [ex, ss_of h2]; rfl
/-- the words of a table, as a dict's entries -/
abbrev tD (T : List (Str × Str)) : List (Str × PyData) := T.map fun e => (e.1, .str e.2)
theorem q_dictT {D : Ends} {v : TS} {i : Nat} {T : List (Str × Str)} (hn : Nk T) (h : Ed c te δ M (.d (pl (.tuple (T.map eKW))))) (k : ∀ p, Do c D v (δ.set i (.v (.ref p))) ((p, .dct (tD T)) :: M)) :
    Do c D (tSeq (tAsg (tCB (rDictT K) (tCons te tNil)) (gName i)) v) δ M := fun σ H w => h σ H w _ fun x H1 s1 hv => by
  rcases hv with ⟨a, o, ks, e, ha, hd⟩ | ⟨_, _, ⟨a, o, xs, rfl, hf, ho⟩, a', xs', e', hf', hd⟩
  · obtain ⟨kk, x, r, _, e0, _⟩ := hd
    cases kk <;> cases e0
  · cases e'
    have hx : xs' = xs := by
      rcases hf' with hf' | ⟨o', hf'⟩
      · rw [hf] at hf'; cases hf'
      · rw [hf] at hf'; cases hf'; rfl
    subst hx
    obtain ⟨ps, rfl, hp⟩ := diA_pairs (K := K) hd
    refine ⟨a, o, ps, ssK T, rfl, hf, ho, hp, fun p hp0 => ?_⟩
    rw [merge_nk hn]
    exact k p _ _ (((w.step s1).newC (m := .dct (tD T)) hp0 ⟨_, upd_same, diS_ss T⟩).set (s := .v (.ref p)) rfl i)
/-- sorted(d.items()) of words by keys -/
theorem ed_sortIt {i : Nat} {p : Addr} {T : List (Str × Str)} (hn : Nk T) (hi : δ[i]? = some (.v (.ref p))) : Ed c (tFz (tCB rSortSS (tCons (tBM0 K "dict" rItemsK (tVar i)) tNil))) δ ((p, .dct (tD T)) :: M) (.d (.list ((isort leKW T).map eKW))) := fun σ H w Q k => by
  obtain ⟨ks, hks, hd⟩ := w.mem (p, .dct (tD T)) List.mem_cons_self
  have hks : H p = some (.dK ks) := hks
  have := ss_of hd
  subst this
  refine ⟨.ref p, w.env.getv hi, .inr (.inr (.inl ⟨rfl, .inl ⟨_, hks⟩⟩)), p, ssK T, rfl, rfl, hks, fun q hq => ?_⟩
  have hpq : p ≠ q := ne_of_none hks hq
  refine ⟨q, p, T, rfl, upd_same, by rw [upd_ne hpq]; exact hks, fun H' l as hsm hl hH' hpr => ⟨l, _, rfl, hH', trivial, fun o => ?_⟩⟩
  have sm1 : Same H H' := fun a u e => hsm a u (Same.new hq a u e)
  have hl0 : H l = none := by
    cases hz : H l with
    | none => rfl
    | some u => rw [Same.new hq l u hz] at hl; cases hl
  have sm := same_frz (o := .frz o (.lst (as.map V.ref))) hl0 sm1
  refine k _ _ (.same sm) ⟨l, o, _, rfl, upd_same, ?_⟩
  rw [← sort_KW (HR.nodup_of_map _ hn)]
  have e : sortD (T.map eKW) = (T.mergeSort (PySem.W.dataLe false encSS)).map eKW := (List.map_mergeSort (r := PySem.W.dataLe false encSS) (s := PySem.W.dataLe false id) (f := eKW) (fun a _ b _ => rfl)).symm
  rw [e]
  have aux : ∀ {as : List Addr} {ls : List (Str × Str)}, Paired (fun b (e : Str × Str) => H' b = some (.tup [.str e.1, .str e.2])) as ls → DiA (upd H' l (.frz o (.lst (as.map V.ref)))) (ls.map eKW) (as.map V.ref) := by
    intro as' ls hp
    have i2 : Imx H' (upd H' l (.frz o (.lst (as'.map V.ref)))) := by
      refine ⟨fun a xs e => ?_, fun a ob u e => ?_⟩
      · rw [upd_ne (fun z => by subst z; rw [hH'] at e; cases e)]; exact e
      · rw [upd_ne (fun z => by subst z; rw [hH'] at e; cases e)]; exact e
    refine DiA.mono i2 _ _ ?_
    induction hp with
    | nil => exact rfl
    | @cons b e' as2 ls2 hb _ ih => exact ⟨.ref b, _, rfl, ⟨b, _, rfl, .inl hb, .str e'.1, _, rfl, rfl, .str e'.2, [], rfl, rfl, rfl⟩, ih (by
        refine ⟨fun a xs e => ?_, fun a ob u e => ?_⟩
        · rw [upd_ne (fun z => by subst z; rw [hH'] at e; cases e)]; exact e
        · rw [upd_ne (fun z => by subst z; rw [hH'] at e; cases e)]; exact e)⟩
  exact aux hpr
end
end HD
end
section
namespace L2
open PySem PySem.Spec PyProof.Rows
section
variable {X : Cx} {CX : CXT} {k : Nat} {f C : Addr} {fd : FuncData} {ps ks : List Str} {g : List Value → List Value → List Value} {gV : List V → List V → List V} {sp : Sp} {x : Str} {p pos : Pos} {e : Expr} {es : List Expr} {kws : List Keyword} {t tk : TA}
/-- X(), X an own exception class without own __init__ -/
theorem pmk_own0 {bmB : List Value} {B newId initId : String} (F : ExcBaseFacts B newId initId bmB) (q : PySem.W.excIn X.K C bmB newId = true) (gC : X.mg x = some (.ref C)) (kC : PySem.W.keepIn X.K (.ref C) = true) (r : Raises X (.ref C)) (hg : Gl X x)
    (hdb : (x == ("__debug__" : Str)) = false := by decide) : PMk X (.Call (.Name x p) [] [] pos) (fun _ H Q => Q (.ref C) none H) := by
  intro pins s σ H Q I h
  refine wpAny_Call_Name_kw (ld_glob I hg gC ?_ hdb)
  refine PySem.W.callWith_K0 I.kIn kC ?_
  show wpAny _ _ (call (.ref C) []) _ _ _
  obtain ⟨bm, N, nm, qn, bs, hdct, sn, sub, ab, col, dd, k0, k1, k2, k3, k5, mN, hC, hN, hni, T⟩ := exc_obj I.kIn q
  refine wpAny_call_exc_subT F T hC hN hni (fun h' e hm => ?_) (Nat.zero_le _)
  exact mk_of I hm r h (I.hok.gone hm.new)
/-- f(k = v, ..), nothing by position -/
theorem pe_callK0 {E : XK} (F : FnOk X.prog X.w X.K X.mg X.base CX k f fd ps sp) (hr : Room k X.A) (hg : Gl X x) (hm : X.mg x = some (.ref f)) (hk : PySem.W.keepIn X.K (.ref f) = true) (hb : KBinds X.K fd ps ks g gV) (hx : Passes CX X E)
    (hkw : PK X kws tk) (hall : (backToKw pos (keywordEach kws X.env)).all (·.1.isSome) = true := by rfl) (hks : (backToKw pos (keywordEach kws X.env)).filterMap (·.1) = ks := by rfl)
    (hdb : (x == ("__debug__" : Str)) = false := by decide) (hpl : ((backTo pos (starEach [] X.env)).any (·.1) || (backToKw pos (keywordEach kws X.env)).any (·.1.isNone)) = false := by rfl) :
    PE X (.Call (.Name x p) [] kws pos) (tCallK sp gV E tNil tk) := by
  refine ⟨fun pins s σ H Q I h => ?_⟩
  refine wpAny_Call_Name_kw (ld_glob I hg hm ?_ hdb)
  refine PySem.W.callWith_KW0 (h₀ := X.base) I.ok.mod.kin hk hall (thn (hkw.run pos pins s σ H _ I h) fun ws s2 ⟨zs, H2, I2, rz, q2⟩ => ⟨I2.kIn, ?_⟩) hpl
  rw [hks]
  exact run_fnk (us := []) (vs := []) F hr hb hx I2 .nil rz q2
/-- the same, where what leaves is told by the slots -/
def tCallKS (sp : Sp) (gV : List V → List V → List V) (E : St → XK) (tk : TA) : TE := fun σ H Q => tk σ H fun zs H2 => sp (gV [] zs) H2 Q (E σ)
theorem pe_callKS {E : St → XK} (F : FnOk X.prog X.w X.K X.mg X.base CX k f fd ps sp) (hr : Room k X.A) (hg : Gl X x) (hm : X.mg x = some (.ref f)) (hk : PySem.W.keepIn X.K (.ref f) = true) (hb : KBinds X.K fd ps ks g gV) (hx : ∀ σ, PassesAt CX X σ (E σ))
    (hkw : PK X kws tk) (hall : (backToKw pos (keywordEach kws X.env)).all (·.1.isSome) = true := by rfl) (hks : (backToKw pos (keywordEach kws X.env)).filterMap (·.1) = ks := by rfl)
    (hdb : (x == ("__debug__" : Str)) = false := by decide) (hpl : ((backTo pos (starEach [] X.env)).any (·.1) || (backToKw pos (keywordEach kws X.env)).any (·.1.isNone)) = false := by rfl) :
    PE X (.Call (.Name x p) [] kws pos) (tCallKS sp gV E tk) := by
  refine ⟨fun pins s σ H Q I h => ?_⟩
  refine wpAny_Call_Name_kw (ld_glob I hg hm ?_ hdb)
  refine PySem.W.callWith_KW0 (h₀ := X.base) I.ok.mod.kin hk hall (thn (hkw.run pos pins s σ H _ I h) fun ws s2 ⟨zs, H2, I2, rz, q2⟩ => ⟨I2.kIn, ?_⟩) hpl
  rw [hks]
  have r2 := hb.rel .nil rz
  have hl : (g [] ws).length = ps.length := by rw [← r2.length]; exact F.len _ _ _ _ q2
  show wpAny _ _ (call (.ref f) [] (ks.zip ws)) _ _ _
  refine wpAny_call (codeAny_mono (F.run X.A X.stack s2 H2 ⟨[], ks.zip ws⟩ (g [] ws) (gV [] zs) Q (E σ) hr I2.env0 (hb.to s2 [] ws I2.kIn hl) r2 q2) fun r s' hq => ?_)
  cases r with
  | error e => exact hx σ pins H2 s2 e s' I2 hq
  | ok fl =>
    cases fl with
    | ret u => exact I2.after hq
    | next => exact False.elim hq
    | brk => exact False.elim hq
    | cont => exact False.elim hq
end
end L2
namespace HD
open PySem PySem.Spec PyProof.Rows L2
/-- a keyword alone; two keywords in the other order -/
def g1 {α : Type} : List α → List α → List α
  | [], [x] => [x]
  | _, _ => []
def g2 {α : Type} : List α → List α → List α
  | [], [y, x] => [x, y]
  | _, _ => []
theorem g1_rel {vs : List V} {us : List Value} {zs : List V} {ws : List Value} (h : Vals vs us) (h2 : Vals zs ws) : Vals (g1 vs zs) (g1 us ws) := by
  cases h with
  | cons _ _ => exact .nil
  | nil =>
    cases h2 with
    | nil => exact .nil
    | cons r t =>
      cases t with
      | nil => exact .cons r .nil
      | cons _ _ => exact .nil
theorem g2_rel {vs : List V} {us : List Value} {zs : List V} {ws : List Value} (h : Vals vs us) (h2 : Vals zs ws) : Vals (g2 vs zs) (g2 us ws) := by
  cases h with
  | cons _ _ => exact .nil
  | nil =>
    cases h2 with
    | nil => exact .nil
    | cons r t =>
      cases t with
      | nil => exact .nil
      | cons r2 t2 =>
        cases t2 with
        | nil => exact .cons r2 (.cons r .nil)
        | cons _ _ => exact .nil
theorem kb1 {K : PySem.W.Frag} {x : Str} {st : Stmt} {f : Addr} {fd : FuncData} {p : Str} (F : Fun K x x st f fd)
    (h : ∀ (kV doc pm : Value) (an : Option Addr) (cdv ct a : Value), bindArgs (PySem.W.fnOf x x (defArgs st) (defBody st) (defScope st) .none kV doc pm an cdv ct) ⟨[], [(p, a)]⟩ = pure [(p, a)]) : KBinds K fd [p] [p] g1 g1 := by
  obtain ⟨oc, od, kV, doc, pm, an, cdv, ct, osl, rfl, lk, hcd⟩ := F.ex
  refine ⟨fun s us ws _ hl => ?_, g1_rel⟩
  match us, ws, hl with
  | [], [a], _ => exact .of_eq (h kV doc pm an cdv ct a)
theorem kb2 {K : PySem.W.Frag} {x : Str} {st : Stmt} {f : Addr} {fd : FuncData} {p q : Str} (F : Fun K x x st f fd)
    (h : ∀ (kV doc pm : Value) (an : Option Addr) (cdv ct a b : Value), bindArgs (PySem.W.fnOf x x (defArgs st) (defBody st) (defScope st) .none kV doc pm an cdv ct) ⟨[], [(q, b), (p, a)]⟩ = pure [(p, a), (q, b)]) : KBinds K fd [p, q] [q, p] g2 g2 := by
  obtain ⟨oc, od, kV, doc, pm, an, cdv, ct, osl, rfl, lk, hcd⟩ := F.ex
  refine ⟨fun s us ws _ hl => ?_, g2_rel⟩
  match us, ws, hl with
  | [], [b, a], _ => exact .of_eq (h kV doc pm an cdv ct a b)
/-- a def that keeps its promise, called by names too -/
def CalK (P : Program) (w : World) (K : PySem.W.Frag) (mg : Str → Option Value) (base : Heap) (k : Nat) (x : Str) (ps ks : List Str) (gV : List V → List V → List V) (pre : List Sl → Sl → Prop) : Prop :=
  ∃ f fd g, mg x = some (.ref f) ∧ PySem.W.keepIn K (.ref f) = true ∧ Binds K fd ps [] ∧ KBinds K fd ps ks g gV ∧ FnOk P w K mg base CX0 k f fd ps (SpD pre)
theorem CalK.cal {P : Program} {w : World} {K : PySem.W.Frag} {mg : Str → Option Value} {base : Heap} {k : Nat} {x : Str} {ps ks : List Str} {gV : List V → List V → List V} {pre : List Sl → Sl → Prop} (h : CalK P w K mg base k x ps ks gV pre) : Cal P w K mg base k x ps pre := by
  obtain ⟨f, fd, g, h1, h2, h3, _, h5⟩ := h
  exact ⟨f, fd, h1, h2, h3, h5⟩
/-- a promise: which arguments, which answer; without one the error Full -/
def SpX (C : Addr) (pre : List Sl → Option Sl → Prop) : Sp := fun vs H Q E => ∃ ss o, pre ss o ∧ SlA H ss vs ∧ (∀ r, o = some r → ∀ v H2, Same H H2 → r.ok H2 v → Q v H2) ∧ (o = none → ∀ H2, Same H H2 → E (.ref C) none H2)
def CalX (P : Program) (w : World) (K : PySem.W.Frag) (mg : Str → Option Value) (base : Heap) (k : Nat) (C : Addr) (x : Str) (ps ks : List Str) (gV : List V → List V → List V) (pre : List Sl → Option Sl → Prop) : Prop :=
  ∃ f fd g, mg x = some (.ref f) ∧ PySem.W.keepIn K (.ref f) = true ∧ KBinds K fd ps ks g gV ∧ FnOk P w K mg base (L2.CX P w) k f fd ps (SpX C pre)
section
variable {X : Cx}
theorem pe_calK {k : Nat} {x : Str} {ps ks : List Str} {gV : List V → List V → List V} {pre : List Sl → Sl → Prop} {j : Nat} {p pos : Pos} {kws : List Keyword} {tk : TA} (C : CalK X.prog X.w X.K X.mg X.base k x ps ks gV pre) (hr : Room j X.A) (hkw : PK X kws tk) (hg : Gl X x := by rfl) (hj : k ≤ j := by decide)
    (hall : (backToKw pos (keywordEach kws X.env)).all (·.1.isSome) = true := by rfl) (hks : (backToKw pos (keywordEach kws X.env)).filterMap (·.1) = ks := by rfl)
    (hdb : (x == ("__debug__" : Str)) = false := by decide) (hpl : ((backTo pos (starEach [] X.env)).any (·.1) || (backToKw pos (keywordEach kws X.env)).any (·.1.isNone)) = false := by rfl) :
    PE X (.Call (.Name x p) [] kws pos) (tCallK (SpD pre) gV E0 tNil tk) := by
  obtain ⟨f, fd, g, hm, hk, _, hb, F⟩ := C
  exact pe_callK0 F (hr.mono hj) hg hm hk hb pass0 hkw hall hks hdb hpl
theorem pe_calX {k : Nat} {C : Addr} {x : Str} {ps ks : List Str} {gV : List V → List V → List V} {pre : List Sl → Option Sl → Prop} {j : Nat} {p pos : Pos} {kws : List Keyword} {tk : TA} {W : WX} (Cc : CalX X.prog X.w X.K X.mg X.base k C x ps ks gV pre) (hr : Room j X.A) (tkk : Takes X W) (hkw : PK X kws tk) (hg : Gl X x := by rfl) (hj : k ≤ j := by decide)
    (hall : (backToKw pos (keywordEach kws X.env)).all (·.1.isSome) = true := by rfl) (hks : (backToKw pos (keywordEach kws X.env)).filterMap (·.1) = ks := by rfl)
    (hdb : (x == ("__debug__" : Str)) = false := by decide) (hpl : ((backTo pos (starEach [] X.env)).any (·.1) || (backToKw pos (keywordEach kws X.env)).any (·.1.isNone)) = false := by rfl) :
    PE X (.Call (.Name x p) [] kws pos) (tCallKS (SpX C pre) gV (WE W) tk) := by
  obtain ⟨f, fd, g, hm, hk, hb, F⟩ := Cc
  exact pe_callKS F (hr.mono hj) hg hm hk hb (fun σ => passAt tkk σ) hkw hall hks hdb hpl
end
section
variable {P : Program} {w : World} {K : PySem.W.Frag} {mg : Str → Option Value} {base : Heap}
theorem okCK {x : Str} {st : Stmt} {N ps ks : List Str} {k : Nat} {g : List Value → List Value → List Value} {gV : List V → List V → List V} {pre : List Sl → Sl → Prop} (F : Def K mg x st ps) (S : FnScope N ps (defScope st)) (hkb : ∀ f fd, Fun K x x st f fd → KBinds K fd ps ks g gV) (hlen : ∀ ss r, pre ss r → ss.length = ps.length)
    (hd : ∀ (f : Addr) (cdv : Value) (A : Around) (outer : List PySem.Env) (s : Shared) (H : Hp) (E : XK), Room k (A.deeper (envOfC x (defScope st) s.heap.objs.size f cdv)) → N.Nodup → (A.deeper (envOfC x (defScope st) s.heap.objs.size f cdv)).units + 1 < cLine →
      ∃ t, PSs (cxOf CX0 P w K mg base N x (defScope st) f cdv A outer s H E).nox (defBody st) t ∧ ∀ ss r, pre ss r → ∀ c D, Rt c D.rt r → Do c D t (ss ++ List.replicate (N.length - ps.length) .no) []) : CalK P w K mg base (k + 1) x ps ks gV pre := by
  obtain ⟨f, fd, Fn, hm, hb⟩ := F
  refine ⟨f, fd, g, hm, Fn.kp, hb, hkb f fd Fn, ?_⟩
  refine Fn.ok S (fun vs H Q E h => ?_) (fun cdv A outer s H vs Q E hr h => ?_)
  · obtain ⟨ss, r, hp, hv, _⟩ := h
    rw [hv.length]; exact hlen ss r hp
  · obtain ⟨t, ht, hw⟩ := hd f cdv A outer s H E hr S.nd (hu_of hr)
    refine ⟨t, ht, ?_⟩
    obtain ⟨ss, r, hp, hv, q⟩ := h
    have hl : vs.length = ps.length := by rw [hv.length]; exact hlen ss r hp
    have wd : Wd ⟨H, [], H, 0⟩ (ss ++ List.replicate (N.length - ps.length) .no) [] (start N vs) H := by
      refine ⟨?_, (fun q hq => nomatch hq), fun a o _ h => h, (fun t ht => nomatch ht), Imx.refl _, (fun q hq => nomatch hq), List.nodup_nil⟩
      show HD.Env H _ (vs.map some ++ List.replicate (N.length - vs.length) none)
      rw [hl]
      exact hv.env _
    exact hw ss r hp ⟨H, [], H, 0⟩ { nx := fun _ H' => Q .non H', rt := Q } (fun δ M σ H2 v w hr => q v H2 (fun a o e => w.ent a o (by simp) e) hr) _ _ wd
/-- where Full may leave -/
def Rx (c : Ct) (E : XK) (C : Addr) : Prop := ∀ δ M σ H, Wd c δ M σ H → E (.ref C) none H
theorem okCX {C : Addr} {x : Str} {st : Stmt} {N ps ks : List Str} {k : Nat} {g : List Value → List Value → List Value} {gV : List V → List V → List V} {pre : List Sl → Option Sl → Prop} (F : Def K mg x st ps) (S : FnScope N ps (defScope st)) (hkb : ∀ f fd, Fun K x x st f fd → KBinds K fd ps ks g gV) (hlen : ∀ ss r, pre ss r → ss.length = ps.length)
    (hd : ∀ (f : Addr) (cdv : Value) (A : Around) (outer : List PySem.Env) (s : Shared) (H : Hp) (E : XK), Room k (A.deeper (envOfC x (defScope st) s.heap.objs.size f cdv)) → N.Nodup → (A.deeper (envOfC x (defScope st) s.heap.objs.size f cdv)).units + 1 < cLine →
      ∃ t, PSs (cxOf (L2.CX P w) P w K mg base N x (defScope st) f cdv A outer s H E) (defBody st) t ∧ ∀ ss o, pre ss o → ∀ c D, (∀ r, o = some r → Rt c D.rt r) → (o = none → Rx c E C) → Do c D t (ss ++ List.replicate (N.length - ps.length) .no) []) : CalX P w K mg base (k + 1) C x ps ks gV pre := by
  obtain ⟨f, fd, Fn, hm, hb⟩ := F
  refine ⟨f, fd, g, hm, Fn.kp, hkb f fd Fn, ?_⟩
  refine Fn.okX S (fun vs H Q E h => ?_) (fun cdv A outer s H vs Q E hr h => ?_)
  · obtain ⟨ss, r, hp, hv, _⟩ := h
    rw [hv.length]; exact hlen ss r hp
  · obtain ⟨t, ht, hw⟩ := hd f cdv A outer s H E hr S.nd (hu_of hr)
    refine ⟨t, ht, ?_⟩
    obtain ⟨ss, o, hp, hv, q1, q2⟩ := h
    have hl : vs.length = ps.length := by rw [hv.length]; exact hlen ss o hp
    have wd : Wd ⟨H, [], H, 0⟩ (ss ++ List.replicate (N.length - ps.length) .no) [] (start N vs) H := by
      refine ⟨?_, (fun q hq => nomatch hq), fun a o _ h => h, (fun t ht => nomatch ht), Imx.refl _, (fun q hq => nomatch hq), List.nodup_nil⟩
      show HD.Env H _ (vs.map some ++ List.replicate (N.length - vs.length) none)
      rw [hl]
      exact hv.env _
    exact hw ss o hp ⟨H, [], H, 0⟩ { nx := fun _ H' => Q .non H', rt := Q } (fun r er δ M σ H2 v w hr => q1 r er v H2 (fun a o e => w.ent a o (by simp) e) hr) (fun eo δ M σ H2 w => q2 eo H2 fun a o e => w.ent a o (by simp) e) _ _ wd
/-- what the text says of its error -/
structure FullC (K : PySem.W.Frag) (mg : Str → Option Value) (C : Addr) : Prop where
  gC : mg "Full" = some (.ref C)
  kC : PySem.W.keepIn K (.ref C) = true
  xC : PySem.W.excIn K C [.type "ValueError", .type "Exception", .type "BaseException", .type "object"] "ValueError.__new__" = true
  bC : PySem.W.subIn K (.ref C) (.type "BaseException") = some true
  tC : PySem.W.typeIn K (.ref C) = some (.type "type")
  eC : PySem.W.exmOne K (.ref C) (.ref C) = some true
  iC : ExcC K C
  vC : PySem.W.kitOne K (.ref C) (.type "ValueError") = some true
/-- raise Full() -/
def tFull (C : Addr) (E : XK) : TS := fun _ _ H => E (.ref C) none H
theorem s_full {c : Ct} {D : Ends} {δ : List Sl} {M : Mem} {E : XK} {C : Addr} (h : Rx c E C) : Do c D (tFull C E) δ M := fun σ H w => h δ M σ H w
/-! ### a call that Full may leave; the clause that takes it -/
def EdX (c : Ct) (te : WX → TE) (δ : List Sl) (M : Mem) (o : Option Sl) (C : Addr) : Prop := ∀ W σ H, Wd c δ M σ H → ∀ Q : VK, (∀ r, o = some r → ∀ v H2, Stp c H H2 → r.ok H2 v → Q v H2) → (o = none → ∀ H2, Stp c H H2 → W (.ref C) none σ H2) → te W σ H Q
theorem ex_call {c : Ct} {δ : List Sl} {M : Mem} {C : Addr} {pre : List Sl → Option Sl → Prop} {gV : List V → List V → List V} {tk : TA} {ks ts : List Sl} {o : Option Sl} (h : EdA c tk δ M ks) (hg : ∀ H zs, SlA H ks zs → SlA H ts (gV [] zs)) (hp : pre ts o) :
    EdX c (fun W => tCallKS (SpX C pre) gV (WE W) tk) δ M o C := fun W σ H w Q k1 k2 =>
  h σ H w _ fun zs H1 s1 hz => ⟨ts, o, hp, hg H1 zs hz, fun r er v H2 s2 hr => k1 r er v H2 (s1.trans (.same s2)) hr, fun eo H2 s2 => k2 eo H2 (s1.trans (.same s2))⟩
theorem ex_if {c : Ct} {δ : List Sl} {M : Mem} {C : Addr} {t : TT} {ta tb : WX → TE} {b : Bool} {o : Option Sl} (h : Et c t δ M b) (h1 : b = true → EdX c ta δ M o C) (h2 : b = false → EdX c tb δ M o C) : EdX c (fun W => tIf t (ta W) (tb W)) δ M o C := fun W σ H w Q k1 k2 =>
  h σ H w _ fun H2 s2 => by
    cases b with
    | true => exact h1 rfl W σ H2 (w.step s2) Q (fun r er v H3 s3 hr => k1 r er v H3 (s2.trans s3) hr) fun eo H3 s3 => k2 eo H3 (s2.trans s3)
    | false => exact h2 rfl W σ H2 (w.step s2) Q (fun r er v H3 s3 hr => k1 r er v H3 (s2.trans s3) hr) fun eo H3 s3 => k2 eo H3 (s2.trans s3)
theorem sl_g2 {H : Hp} {s t : Sl} {zs : List V} (h : SlA H [t, s] zs) : SlA H [s, t] (g2 [] zs) := by
  obtain ⟨v, u, rfl, h1, h2⟩ := sl2 h
  exact ⟨u, [v], rfl, h2, v, [], rfl, h1, rfl⟩
theorem sl_g1 {H : Hp} {s : Sl} {zs : List V} (h : SlA H [s] zs) : SlA H [s] (g1 [] zs) := by
  obtain ⟨v, rfl, h1⟩ := sl1 h
  exact ⟨v, [], rfl, h1, rfl⟩
theorem ed_callK2 {c : Ct} {δ : List Sl} {M : Mem} {z s t : Sl} {pre : List Sl → Sl → Prop} {E : XK} {ta tb : TE} (ht : Ed c ta δ M t) (hs : Ed c tb δ M s) (hp : pre [s, t] z) : Ed c (tCallK (SpD pre) g2 E tNil (tCons ta (tCons tb tNil))) δ M z :=
  ed_callK (ks := [t, s]) (ts := [s, t]) ea_nil (ea_cons ht (ea_cons hs ea_nil)) (fun H vs zs h1 h2 => by
    have h1 : vs = [] := h1
    subst h1
    exact sl_g2 h2) hp
theorem ed_callK1 {c : Ct} {δ : List Sl} {M : Mem} {z s : Sl} {pre : List Sl → Sl → Prop} {E : XK} {ta : TE} (hs : Ed c ta δ M s) (hp : pre [s] z) : Ed c (tCallK (SpD pre) g1 E tNil (tCons ta tNil)) δ M z :=
  ed_callK (ks := [s]) (ts := [s]) ea_nil (ea_cons hs ea_nil) (fun H vs zs h1 h2 => by
    have h1 : vs = [] := h1
    subst h1
    exact sl_g1 h2) hp
/-- try: x = .. except Full as e: .. -/
theorem s_tryAs {c : Ct} {D : Ends} {δ : List Sl} {M : Mem} {C : Addr} {i j : Nat} {te : WX → TE} {ts : Addr → Value → Option Addr → TS} {Wout : WX} {o : Option Sl} (F : FullC K mg C) (h : EdX c te δ M o C) (h1 : ∀ r, o = some r → Nx c D.nx (δ.set j r) M)
    (h2 : o = none → ∀ a, Do c { nx := fun σ' H' => D.nx (σ'.set i none) H', rt := D.rt, bk := fun σ' H' => D.bk (σ'.set i none) H', ct := fun σ' H' => D.ct (σ'.set i none) H' } (ts a (.ref C) none) (δ.set i (.v (.ref a))) M) :
    Do c D (fun D σ H => tAsg (te (wAs K (.ref C) i ts Wout D)) (gName j) D σ H) δ M := fun σ H w =>
  h _ σ H w _ (fun r er v H2 s2 hv => h1 r er _ H2 ((w.step s2).set hv j)) fun eo H2 s2 => ⟨true, F.eC, fun _ a _ => h2 eo a _ H2 ((w.step s2).set (s := .v (.ref a)) rfl i), fun z => nomatch z⟩
theorem n_wipe {c : Ct} {nx : SSt → Hp → Prop} {δ : List Sl} {M : Mem} {i : Nat} (h : Nx c nx (δ.set i .no) M) : Nx c (fun σ' H' => nx (σ'.set i none) H') δ M := fun σ H w => h _ H (w.wipe i)
end
end HD
end
section
/-! sets of texts that are put in one by one, each of them new; sorted; counted -/
namespace TxS
open PySem PySem.Spec PyProof.Rows L2
section
variable {P : Program} {w : World}
def Ent (P : Program) (w : World) (e : Int × Value) (k : Str) : Prop := ∃ tk, e = ((strKind P w).hash k, Value.str k tk)
/-- entries that stand for these texts, in some order -/
def Ents (P : Program) (w : World) (es : List (Int × Value)) (ks : List Str) : Prop := ∃ fs, es.Perm fs ∧ Paired (Ent P w) fs ks
theorem ent_in : ∀ {fs : List (Int × Value)} {ks : List Str}, Paired (Ent P w) fs ks → ∀ e ∈ fs, ∃ k ∈ ks, Ent P w e k
  | _, _, .nil, e, h => nomatch h
  | _, _, .cons h t, e, hm => (List.mem_cons.mp hm).elim (fun z => ⟨_, List.mem_cons_self, z ▸ h⟩) fun z => (ent_in t e z).elim fun k hk => ⟨k, List.mem_cons_of_mem _ hk.1, hk.2⟩
theorem Ents.what {es : List (Int × Value)} {ks : List Str} (h : Ents P w es ks) {e : Int × Value} (he : e ∈ es) : ∃ k ∈ ks, Ent P w e k := h.elim fun _ q => ent_in q.2 e (q.1.mem_iff.mp he)
theorem Ents.count {es : List (Int × Value)} {ks : List Str} (h : Ents P w es ks) : es.length = ks.length := h.elim fun _ q => q.1.length_eq.trans q.2.length
theorem Ents.moved {es fs : List (Int × Value)} {ks : List Str} (h : Ents P w es ks) (p : fs.Perm es) : Ents P w fs ks := h.elim fun gs q => ⟨gs, p.trans q.1, q.2⟩
theorem Ents.more {es : List (Int × Value)} {ks : List Str} (h : Ents P w es ks) (k : Str) (tk : Tok) : Ents P w (((strKind P w).hash k, Value.str k tk) :: es) (k :: ks) := h.elim fun gs q => ⟨_ :: gs, q.1.cons _, .cons ⟨tk, rfl⟩ q.2⟩
theorem Ents.kind {es : List (Int × Value)} {ks : List Str} (h : Ents P w es ks) : ElemsOf (strKind P w) es := fun e he => (h.what he).elim fun k q => q.2.elim fun tk z => by
  subst z
  exact ⟨⟨k, strKind_is P w k tk, rfl⟩, rfl⟩
theorem Ents.lacks {es : List (Int × Value)} {ks : List Str} (h : Ents P w es ks) {k : Str} (new : k ∉ ks) : es.findIdx? (fun e => (strKind P w).is k e.2) = none := List.findIdx?_eq_none_iff.mpr fun e he => by
  obtain ⟨j, hj, tk, rfl⟩ := h.what he
  exact beq_eq_false_iff_ne.mpr fun z => new (z ▸ hj)
theorem Ents.texts {es : List (Int × Value)} {ks : List Str} (h : Ents P w es ks) {vs : List Value} (p : vs.Perm (es.map (·.2))) : ∃ js : List Str, PySem.W.EachIs (fun v (k : Str) => ∃ tk, v = Value.str k tk) vs js ∧ js.length = vs.length := by
  have all : ∀ v ∈ vs, ∃ (k : Str) (tk : Tok), v = Value.str k tk := fun v hv => by
    obtain ⟨e, he, rfl⟩ := List.mem_map.mp (p.mem_iff.mp hv)
    obtain ⟨k, _, tk, rfl⟩ := h.what he
    exact ⟨k, tk, rfl⟩
  clear p
  induction vs with
  | nil => exact ⟨[], .nil, rfl⟩
  | cons v r ih =>
    obtain ⟨k, tk, e⟩ := all v List.mem_cons_self
    obtain ⟨js, h1, h2⟩ := ih fun u hu => all u (List.mem_cons_of_mem _ hu)
    exact ⟨k :: js, .cons ⟨tk, e⟩ h1, by simp [h2]⟩
/-- the set of these texts stands at a -/
inductive TSet (P : Program) (w : World) (h : Heap) (a : Addr) (ks : List Str) : Prop
  | mk (o : Obj) (es : Array (Int × Value)) (ep : Nat) (t : SetTable) (there : h.get? a = some o) (cls : o.ExactSet) (data : o.data = .set es ep t) (ents : Ents P w es.toList ks) (fits : t.fits es.size = true) (ris : Ris t.place.toList)
      (led : w.params.followText "set-order" = true ∨ t.led = true) : TSet P w h a ks
theorem TSet.stays {h h' : Heap} {a : Addr} {ks : List Str} (T : TSet P w h a ks) (k : ∀ o, h.get? a = some o → h'.get? a = some o) : TSet P w h' a ks := by
  cases T with
  | mk o es ep t b1 b2 b3 b4 b5 b6 b7 => exact .mk o es ep t (k o b1) b2 b3 b4 b5 b6 b7
end
section
variable {P : Program} {w : World} {A : Around} {E : Value → Shared → Prop} {s : Shared} {a : Addr} {ks : List Str}
theorem said {M : Model} {id : String} {Q : Unit → Shared → Prop} (b : Bool) (h : Q () s) : wpAny M A (match b with | true => rule id | false => pure ()) Q E s := by
  cases b with
  | true => exact wpAny_rule h
  | false => exact wpAny_pure h
/-- the new table is laid down, and once more where it has grown too full -/
theorem shelve {tell : Bool → Sem Unit} (ht : ∀ (b : Bool) (z : Shared) (Q' : Unit → Shared → Prop), Q' () z → wpAny (model P w) A (tell b) Q' E z) {o : Obj} {es es1 : Array (Int × Value)} {ep : Nat} {t t2 : SetTable}
    (there : s.heap.get? a = some o) (cls : o.ExactSet) (data : o.data = .set es ep t) (ents : Ents P w es1.toList ks) (few : es1.size < scanBound) (fits : t2.fits es1.size = true) (ris : Ris t2.place.toList) (led : w.params.followText "set-order" = true ∨ t2.led = true)
    {dummy : Bool} {R : Option Bool → Shared → Prop} (q : ∀ h', Heap.SameBut a s.heap h' → TSet P w h' a ks → R (some true) { s with heap := h' }) :
    wpAny (model P w) A (do
      storeSet a es1 t2
      if (!dummy && t2.tooFull) = true then do
          tell (relayAll t2 es1 (SetTable.grown es1.size)).2.2
          storeSet a (relayAll t2 es1 (SetTable.grown es1.size)).1 (relayAll t2 es1 (SetTable.grown es1.size)).2.1
          pure (some true)
        else pure (some true)) R E s := by
  have one := store_at (es' := es1) (t' := t2) there data
  refine wpAny_bind (wpAny_storeSet_of there data ?_ (fits_of_scanBound few))
  by_cases full : (!dummy && t2.tooFull) = true
  · rw [if_pos full]
    obtain ⟨p1, p2, p3, p4⟩ : _ ∧ _ ∧ _ ∧ _ := ⟨relayAll_perm t2 es1 (SetTable.grown es1.size), relayAll_fits t2 es1 (SetTable.grown es1.size), relayAll_ris t2 es1 (SetTable.grown es1.size), relayAll_led t2 es1 (SetTable.grown es1.size)⟩
    have size : (relayAll t2 es1 (SetTable.grown es1.size)).1.size = es1.size := by simpa using p1.length_eq
    refine wpAny_bind (ht _ _ _ (wpAny_bind (wpAny_storeSet_of one rfl ?_ (fits_of_scanBound (by rw [size]; exact few)))))
    exact wpAny_pure (q _ ((Heap.SameBut.update s.heap a _).trans (Heap.SameBut.update _ a _)) (.mk _ _ _ _ (store_at one rfl) cls rfl (ents.moved p1) p2 p3 (led.imp id fun z => by rw [p4]; exact z)))
  · rw [if_neg full]
    exact wpAny_pure (q _ (Heap.SameBut.update s.heap a _) (.mk _ es1 _ t2 one cls rfl ents fits ris led))
/-- a new text is put in -/
theorem TSet.put {k : Str} {tk : Tok} {Q : Bool → Shared → Prop} (T : TSet P w s.heap a ks) (new : k ∉ ks) (few : ks.length < 64) (q : ∀ h', Heap.SameBut a s.heap h' → TSet P w h' a (k :: ks) → Q true { s with heap := h' }) :
    wpAny (model P w) A (setAddHashed a (.str k tk) ((strKind P w).hash k)) Q E s := by
  cases T with
  | mk o es ep t there cls data ents fits ris led =>
    have n1 : es.size = ks.length := by rw [← ents.count, Array.length_toList]
    have plain : (Value.str k tk).scannable = true := rfl
    unfold setAddHashed setAddHashedIn
    refine wpAny_holding (wpAny_bind (wpAny_setState_of there data fits ?_))
    dsimp only
    rw [byScan_of plain (by rw [n1]; unfold scanBound; omega) ents.kind, if_pos rfl]
    unfold setAddByScan
    refine wpAny_bind (wpAny_bind (wpAny_rule (wpAny_bind (wpAny_setScan_of (strKind_is P w k tk) there data fits ents.kind ?_))))
    rw [ents.lacks new]
    dsimp only
    have z1 := layNew_perm t es ((strKind P w).hash k) (.str k tk)
    have z2 := layNew_fits t es ((strKind P w).hash k) (.str k tk)
    have z3 := layNew_ris t es ((strKind P w).hash k) (.str k tk) ris
    have z4 := layNew_led t es ((strKind P w).hash k) (.str k tk)
    generalize layNew t es ((strKind P w).hash k) (.str k tk) = Z at z1 z2 z3 z4 ⊢
    obtain ⟨es1, t1, dummy, gave⟩ := Z
    dsimp only at z1 z2 z3 z4 ⊢
    have ents1 : Ents P w es1.toList (k :: ks) := (ents.more k tk).moved (z1.trans (by rw [Array.toList_push]; exact List.perm_append_singleton _ _))
    have few1 : es1.size < scanBound := by rw [← Array.length_toList, ents1.count, List.length_cons]; unfold scanBound; omega
    have led1 : w.params.followText "set-order" = true ∨ t1.led = true := led.imp id fun z => by rw [z4]; exact z
    refine wpAny_bind (said _ ?_)
    split
    · refine wpAny_bind ?_
      rw [hashByValue_scannable 8 plain]
      refine wpAny_pure (shelve (fun b z Q' y => said b y) there cls data ents1 few1 ?_ ?_ ?_ fun h' sb T' => wpAny_pure (q h' sb T'))
      · split
        · first | exact z2 | exact SetTable.fits_plain_off z2
        · first | exact z2 | exact SetTable.fits_plain_off z2
      · split <;> exact z3
      · split <;> exact led1
    · refine wpAny_bind (wpAny_pure ?_)
      rw [if_pos rfl]
      exact shelve (fun b z Q' y => said b y) there cls data ents1 few1 z2 z3 led1 fun h' sb T' => wpAny_pure (q h' sb T')
end
section
variable {P : Program} {w : World} {A : Around} {R : Result → Shared → Prop} {I : Addr} {fp wr : List Addr} {G : Array GenState → Array GenState → Prop} {n : Nat} {V0 : Nat → Value → Prop} {St : Nat → Shared → Prop}
theorem turn_of {a : Addr} {s : Shared} (h : wpAny (model P w) A.in1 (Builtin.«set.update.loop» ⟨[.ref a, .ref I], []⟩) (fun fin s' => match fin with | .done f => R (.ok f) s' | .again c' => c'.quiet = true ∧ codeAny (model P w) A c' R s') (fun e s' => R (.error e) s') s) :
    codeAny (model P w) A (.builtin "set.update.loop" ⟨[.ref a, .ref I], []⟩) R s := codeAny_builtin F.entry_set_update_loop (by rw [Around.under_plainId F.plain_set_update_loop _]; exact h)
/-- the loop that puts the items of a walk in -/
theorem fill (W : WalksS P w A.in1 I fp wr G n V0 St) {a : Addr} (away : a ∉ fp) {xs : List Str} (len : xs.length = n) (nd : xs.Nodup) (few : n < 64) (item : ∀ i v, V0 i v → ∃ x tk, xs[i]? = some x ∧ v = .str x tk) :
    ∀ (left i : Nat) (s : Shared), i + left = n → St i s → TSet P w s.heap a (xs.take i).reverse → (∀ s', Moved (a :: wr) G s s' → TSet P w s'.heap a xs.reverse → R (.ok (.ret .none)) s') →
      codeAny (model P w) A (.builtin "set.update.loop" ⟨[.ref a, .ref I], []⟩) R s := by
  have aw : a ∉ wr := fun z => away (W.sub _ z)
  intro left
  induction left with
  | zero =>
    intro i s sum st T q
    have e : i = n := by omega
    subst e
    refine turn_of (wpAny_bind (W.done s _ _ st fun s' m => ?_) : wpAny _ A.in1 (pyNext (.ref I) >>= _) _ _ s)
    have T' : TSet P w s'.heap a (xs.take i).reverse := T.stays fun o e => m.heap a o aw e
    rw [List.take_of_length_le (by omega)] at T'
    show wpAny (model P w) A.in1 (ret Value.none) _ _ s'
    exact wpAny_pure (q s' (m.mono fun b hb => List.mem_cons_of_mem _ hb) T')
  | succ left ih =>
    intro i s sum st T q
    have lt : i < n := by omega
    refine turn_of (wpAny_bind (W.item i s _ _ lt st fun v s' hv st' m => ?_) : wpAny _ A.in1 (pyNext (.ref I) >>= _) _ _ s)
    obtain ⟨x, tk, hx, rfl⟩ := item i v hv
    have T' : TSet P w s'.heap a (xs.take i).reverse := T.stays fun o e => m.heap a o aw e
    have hxi : i < xs.length := (List.getElem?_eq_some_iff.mp hx).1
    have new : x ∉ (xs.take i).reverse := fun z => by
      obtain ⟨j, hj, e⟩ := List.getElem_of_mem (List.mem_reverse.mp z)
      rw [List.getElem_take] at e
      rw [List.length_take] at hj
      have := (List.getElem?_inj (by omega) nd).mp ((List.getElem?_eq_getElem (by omega)).trans ((congrArg some e).trans hx.symm))
      omega
    have grown : x :: (xs.take i).reverse = (xs.take (i + 1)).reverse := by rw [List.take_add_one, hx, List.reverse_append]; rfl
    refine (wpAny_bind (wpAny_holding ?_) : wpAny _ A.in1 (holding [Value.str x tk] (setAdd a (.str x tk)) >>= _) _ _ s')
    unfold setAdd
    refine wpAny_holding (wpAny_bind ((strKind P w).pyHash (strKind_is P w x tk) ?_))
    refine TSet.put (s := { s' with toks := s'.toks + 1 }) T' new (by rw [List.length_reverse, List.length_take]; omega) fun h' sb T2 => ?_
    rw [grown] at T2
    refine wpAny_pure ⟨plainId_quiet F.plain_set_update_loop _, ih (i + 1) { s' with heap := h', toks := s'.toks + 1 } (by omega) (W.frame _ s' _ _ st' (Nat.le_succ _) fun b hb o e => ?_) T2 fun s2 m2 T3 => ?_⟩
    · exact (sb.2 b fun z => away (z ▸ hb)).trans e
    · exact q s2 (Moved.trans W.gtrans ((m.mono fun b hb => List.mem_cons_of_mem _ hb).then_heap (Nat.le_succ _) fun b o hb e => (sb.2 b fun z => hb (z ▸ List.mem_cons_self)).trans e) m2) T3
end
abbrev bare (w : World) : Obj := { cls := .type "set", dict := none, data := .set #[] 0 (.fresh 0 0 (!w.params.followText "set-order")) }
theorem bare_set {P : Program} {w : World} {h : Heap} {a : Addr} (e : h.get? a = some (bare w)) : TSet P w h a [] :=
  .mk _ #[] 0 _ e ⟨rfl, rfl, rfl⟩ rfl ⟨[], .nil, .nil⟩ rfl List.Pairwise.nil (by
    cases hq : w.params.followText "set-order"
    · exact .inr (by show (!false) = true; rfl)
    · exact .inl rfl)
section
variable {P : Program} {w : World} {A : Around} {E : Value → Shared → Prop} {s : Shared}
/-- set(xs), xs a list of texts, no two alike -/
theorem of_list {l : Addr} {items : Array Value} {xs : List Str} {Q : Value → Shared → Prop} (hh : A.handled = none) (hl : s.heap.IsList l items) (hi : StrsAre items.toList xs) (few : xs.length < 64) (nd : xs.Nodup)
    (q : ∀ (h' : Heap) (tk : Nat), TSet P w h' s.heap.objs.size xs.reverse → (∀ b o, s.heap.get? b = some o → h'.get? b = some o) → Q (.ref s.heap.objs.size) { s with heap := h', toks := tk }) :
    wpAny (model P w) A (call (.type "set") [.ref l]) Q E s := by
  obtain ⟨⟨c, tl, hmro⟩, hmade, hsub, h1, h2, hct⟩ := And.intro F.called_set.mro (And.intro F.called_set.made (And.intro F.called_set.sub (And.intro F.called_set.notType (And.intro F.called_set.canCreate (F.typeCall_set_1 (.ref l))))))
  refine wpAny_call (codeAny_of_tree (?_ : wpAny _ _ (callAny (.type "set") _) _ _ _))
  refine wpAny_pure ⟨Code.quiet_builtin _ (by decide +kernel), codeAny_builtin F.entry_type_call (Around.under_plain (weight_type_call_type "set" [.ref l] []) rfl ▸ ?_)⟩
  repeat (any_goals (first | assumption | wp_step))
  refine codeAny_mono (code_set_led1 (.ref l) (E := E) (Q₁ := fun v z => v = .ref s.heap.objs.size ∧ z = { s with heap := s.heap.push (bare w) }) ⟨rfl, rfl⟩) fun r z hr => ?_
  match r, hr with
  | .error _, hr => exact hr
  | .ok (.ret _), ⟨e1, e2⟩ =>
    subst e1 e2
    have at0 : (s.heap.push (bare w)).get? s.heap.objs.size = some (bare w) := Heap.get?_push_size _ rfl
    have kind0 : Shared.TypeIs { s with heap := s.heap.push (bare w) } (.ref s.heap.objs.size) "set" := ⟨_, at0, rfl⟩
    obtain ⟨hli, hbi⟩ := And.intro F.called_set.init.lookup (F.called_set.init.bind (.ref s.heap.objs.size))
    repeat (any_goals (first | assumption | wp_step))
    refine codeAny_mono (codeAny_call_builtin (R := wants (fun v z => v = .none ∧ ∃ h' tk, z = { s with heap := h', toks := tk } ∧ TSet P w h' s.heap.objs.size xs.reverse ∧ ∀ b o, s.heap.get? b = some o → h'.get? b = some o) E) F.called_set.init.plain F.entry_set_init (check_set_init_1 kind0 ?_)) fun r2 z2 hr2 => ?_
    · obtain ⟨⟨cls, dict, data, slots⟩, hol, hcl, nl, hdl⟩ := id hl
      dsimp only at hcl hdl
      subst hcl hdl
      have k1 : (s.heap.push (bare w)).get? l = some _ := Heap.get?_push_of_some _ hol
      obtain ⟨k2, k3⟩ := And.intro F.sub_list_set F.sub_list_frozenset
      have k4 : (Value.type "list" == Value.type "dict") = false := by decide
      have list0 : (s.heap.push (bare w)).IsList l items := ⟨_, k1, rfl, nl, rfl⟩
      unfold Builtin.«set.__init__» noKeywords Builtin.Frozenset.updateFrom
      generalize hPI : pyIter = PI
      wp_walk
      subst hPI
      refine wpAny_pyIter_list list0 (wpAny_bind (wpAny_runValue ?_))
      have below : l < s.heap.objs.size := Heap.lt_size hol
      have more : (s.heap.push (bare w)).objs.size = s.heap.objs.size + 1 := Heap.size_push ..
      have n0 : xs.length = items.size := by rw [← hi.len_eq, Array.length_toList]
      refine fill ((Walks.list (by simp [hh]) _ l (more ▸ Nat.ne_of_lt (Nat.lt_succ_of_lt below)) items).toS) (a := s.heap.objs.size) (fun z => (List.mem_cons.mp z).elim (fun y => Nat.ne_of_lt (Nat.lt_succ_self _) (y.trans more)) fun y => Nat.ne_of_gt below (List.mem_singleton.mp y)) n0 nd (n0 ▸ few) (fun i v hv => ?_) items.size 0 _ (by omega) ⟨⟨_, Heap.get?_push_size _ rfl, rfl, rfl⟩, list0.push _⟩ (bare_set (Heap.get?_push_of_some _ at0)) fun z m T => ?_
      · obtain ⟨tk, e⟩ := SS.strs_at hi i v (by rw [Array.getElem?_toList]; exact hv)
        have : i < xs.length := by rw [n0]; exact (Array.getElem?_eq_some_iff.mp hv).1
        exact ⟨xs[i], tk, List.getElem?_eq_getElem this, by rw [e, List.getD_eq_getElem?_getD, List.getElem?_eq_getElem this]; rfl⟩
      · have kept : ∀ b o, s.heap.get? b = some o → z.heap.get? b = some o := fun b o e => by
          have hb := Heap.lt_size e
          exact m.heap b o (fun z => (List.mem_cons.mp z).elim (fun y => Nat.ne_of_lt hb y) fun y => Nat.ne_of_lt (Nat.lt_succ_of_lt hb) ((List.mem_singleton.mp y).trans more)) (Heap.get?_push_of_some _ (Heap.get?_push_of_some _ e))
        obtain ⟨h', g', d', tk', os'⟩ := z
        obtain ⟨e1, e2, e3⟩ : g' = s.gens ∧ d' = s.drawn ∧ os' = s.os := ⟨m.gens, m.drawn, m.os⟩
        subst e1 e2 e3
        exact wpAny_pure (wpAny_pure ⟨rfl, h', tk', rfl, T, kept⟩)
    · match r2, hr2 with
      | .error _, hr2 => exact hr2
      | .ok (.ret _), ⟨e, h', tk, e2, T, kept⟩ =>
        subst e e2
        repeat (any_goals (first | assumption | wp_step))
        exact q h' tk T kept
      | .ok .next, hr2 => exact hr2.elim
      | .ok .brk, hr2 => exact hr2.elim
      | .ok .cont, hr2 => exact hr2.elim
  | .ok .next, hr => exact hr.elim
  | .ok .brk, hr => exact hr.elim
  | .ok .cont, hr => exact hr.elim
end
section
variable {P : Program} {w : World} {A : Around} {E : Value → Shared → Prop} {s : Shared} {a : Addr} {ks : List Str}
theorem reads_all {h : Heap} {c : Addr} : ∀ {vs : List Value} {js : List Str}, PySem.W.EachIs (fun v (k : Str) => ∃ tk, v = Value.str k tk) vs js → PySem.W.EachIs (fun v (k : Str) => ∃ as, Reads h v (PyData.str k) as ∧ c ∉ as) vs js
  | _, _, .nil => .nil
  | _, _, .cons ⟨tk, e⟩ t => .cons ⟨[], e ▸ .str _ _, (fun z => nomatch z)⟩ (reads_all t)
/-- sorted(such a set): a new list of as many items -/
theorem TSet.sorted {Q : Value → Shared → Prop} (T : TSet P w s.heap a ks) (hh : A.handled = none) (few : ks.length < 64) (deep : A.units + 4 < cLine)
    (q : ∀ s' p (out : Array Value) (c : Nat), (∀ b o, s.heap.get? b = some o → s'.heap.get? b = some o) → s'.gens = s.gens → s'.os = s.os → s'.heap.get? p = some (seqObj "list" out c) → out.size = ks.length → Q (.ref p) s') :
    wpAny (model P w) A (call (.builtin "sorted") [.ref a]) Q E s := by
  cases T with
  | mk o es ep t there cls data ents fits ris led =>
    have n1 : es.size = ks.length := by rw [← ents.count, Array.length_toList]
    refine Calls.call_function_entry kind_sorted plain_sorted entry_sorted (args_sorted1 _) ?_
    unfold Builtin.«sorted»
    refine wpAny_bind (m := checkCount "sorted" 1 1 _) (wpAny_pure (wpAny_bind (collect_set (A := A.in1) hh ⟨o, there, cls.1, data⟩ fits (by rw [n1]; unfold scanBound; omega) ris led fun s1 vs keep _ g1 o1 pm => ?_)))
    obtain ⟨js, hj, nj⟩ := ents.texts pm
    have nv : vs.length = ks.length := by rw [pm.length_eq, List.length_map, ents.count]
    have small : vs.length ≤ sizeLine := by rw [nv, sizeLine_eq]; omega
    have new : (s1.heap.push (seqObj "list" vs.toArray 0)).get? s1.heap.objs.size = some (seqObj "list" vs.toArray 0) := Heap.get?_push_size _ rfl
    refine wpAny_bind (wpAny_newList (wpAny_bind (wpAny_holding (PySem.W.list_sort_data (s := { s1 with heap := s1.heap.push (seqObj "list" vs.toArray 0) }) (bs := js) (enc := PyData.str) new hj (reads_all hj) (.of fun _ _ => by simp [PySem.W.alike]) (.others fun b => ⟨(fun z => nomatch z), (fun _ z => nomatch z)⟩) (nj ▸ small) (fun b _ => ?_) fun out no _ => ?_))) small)
    · have : (PyData.str b).depth = 0 := by simp [PyData.depth]
      show A.units + 1 + 1 + (PyData.str b).depth < cLine
      omega
    · obtain ⟨c, hc⟩ := sortedHeap_at (vs := vs) (out := out.toArray) new
      refine wpAny_pure ⟨_, rfl, q _ s1.heap.objs.size out.toArray c (fun b u e => ?_) g1 o1 hc (by rw [List.size_toArray, no, nj, nv])⟩
      have lt := Heap.lt_size (keep b u e)
      exact (sortedHeap_old (Nat.ne_of_lt lt) (by rw [size_push']; exact Nat.lt_succ_of_lt lt)).trans (Heap.get?_push_of_some _ (keep b u e))
end
end TxS
namespace L2
open PySem PySem.Spec PyProof.Rows
section
variable {X : Cx}
/-- len(sorted(set(xs))), xs a list of distinct texts -/
def tLenSS (K : PySem.W.Frag) (ta : TE) : TE := fun σ H Q => ta σ H fun x H1 => ∃ (l : Addr) (ns : List Str), x = V.ref l ∧ SqL K H1 l (ns.map V.str) ∧ ns.length < 64 ∧ ns.Nodup ∧ Q (.int ns.length) H1
theorem pe_lenSS {a : Expr} {ta : TE} {p p2 p3 q q3 pos : Pos} (hc : X.calm = true) (hu : X.A.units + 64 < cLine) (hg : Gl X "len") (hm : X.mg "len" = none) (hg2 : Gl X "set") (hm2 : X.mg "set" = none) (hg3 : Gl X "sorted") (hm3 : X.mg "sorted" = none) (ha : PE X a ta)
    (na : starEach [a] X.env = (false, eval a X.env) :: starEach [] X.env := by rfl) : PE X (.Call (.Name "len" p) [.Call (.Name "sorted" p3) [.Call (.Name "set" p2) [a] [] q] [] q3] [] pos) (tLenSS X.K ta) := by
  refine ⟨fun pins s σ H Q I h => Call_ (ld_blt I hg hm PySem.boot_len (callWith_builtin1 (args_cons ?_ rfl) rfl rfl))⟩
  refine Call_ (ld_blt I hg3 hm3 boot_sorted (callWith_builtin1 (args_cons (Call_ (ld_blt I hg2 hm2 boot_set (callWith_type1 (args_cons ?_ na) na rfl))) rfl) rfl rfl))
  refine thn (ha.run pins s σ H _ I h) fun v s1 ⟨x, H1, I1, r1, l, ns, ex, hq, few, nd, q1⟩ => args_nil ?_
  subst ex
  cases r1
  obtain ⟨its, r, pl, _⟩ := I1.list hq
  refine TxS.of_list (I1.ok.hd hc) pl.isList (xs := ns) (by simpa using strsAre_of r) few nd fun h' tk T keep => args_nil ?_
  have I2 : Inv X pins σ H1 { s1 with heap := h', toks := tk } := I1.kept keep
  refine TxS.TSet.sorted (s := { s1 with heap := h', toks := tk }) T (I1.ok.hd hc) (by rw [List.length_reverse]; exact few) (by omega) fun s2 d out c keep2 g o hd nout => args_nil ?_
  rw [List.length_reverse] at nout
  have I3 : Inv X pins σ H1 s2 := I2.call' (ch := []) o (Un.kept keep2) (I2.hok.kept keep2) (by rw [g]; exact I2.bare) (fun _ z => nomatch z)
  exact Calls.call_len_list ⟨_, hd, rfl, c, rfl⟩ (by rw [nout]; omega) ⟨.int ns.length, H1, I3.tok _, ⟨_, by rw [nout]⟩, q1⟩
end
end L2
end
section
namespace HD
open PySem PySem.Spec PyProof.Rows L2
open HR (Sgl Rec dput ddrop dlook Nk)
/-- the constants of the text -/
structure Gb (mg : Str → Option Value) : Prop where
  LONGEST : ∃ t, mg "LONGEST" = some (.int 12 t)
  SIGNS : ∃ t, mg "SIGNS" = some (.str signs t)
theorem pe_none {X : Cx} {e : Expr} : PE X e (fun _ _ _ => False) := ⟨fun _ _ _ _ _ _ h => h.elim⟩
def tAlt (t t' : TE) : TE := fun σ H Q => t σ H Q ∨ t' σ H Q
theorem pe_alt {X : Cx} {e : Expr} {t t' : TE} (h : PE X e t) (h' : PE X e t') : PE X e (tAlt t t') := ⟨fun pins s σ H Q I hw => hw.elim (h.run pins s σ H Q I) (h'.run pins s σ H Q I)⟩
theorem bool_iff {a : Bool} {p : Prop} [Decidable p] (h : a = true ↔ p) : a = decide p := by
  by_cases hp : p
  · rw [h.mpr hp]; simp [hp]
  · cases a with
    | true => exact absurd (h.mp rfl) hp
    | false => simp [hp]
section
variable {K : PySem.W.Frag} {c : Ct} {δ : List Sl} {M : Mem} {ta tb te tx : TE} {t u : TT} {s s' z : Sl} {ds es : List PyData} {d : PyData}
theorem ed_altL (h : Ed c ta δ M s) : Ed c (tAlt ta tb) δ M s := fun σ H w Q k => .inl (h σ H w Q k)
theorem ed_altR (h : Ed c tb δ M s) : Ed c (tAlt ta tb) δ M s := fun σ H w Q k => .inr (h σ H w Q k)
theorem et_or1 (h : Et c t δ M true) : Et c (tOr t u) δ M true := fun σ H w Q k => h σ H w _ fun H2 s2 => k H2 s2
theorem et_and0 (h : Et c t δ M false) : Et c (tAnd t u) δ M false := fun σ H w Q k => h σ H w _ fun H2 s2 => k H2 s2
theorem ed_or1 (h : Ed c ta δ M (.d (.bool true))) : Ed c (tOrV ta tb) δ M (.d (.bool true)) := ed_or (b := true) h fun z => nomatch z
theorem ed_and0 (h : Ed c ta δ M (.d (.bool false))) : Ed c (tAndV ta tb) δ M (.d (.bool false)) := ed_and (b := false) h fun z => nomatch z
theorem ed_inS {n : Nat} {x : Str} (ha : Ed c ta δ M (.d (.str ⟨#[n]⟩))) (hb : Ed c tb δ M (.d (.str x))) :
    Ed c (tOp (fun x y H Q => ∃ (c : Nat) (z : Str), x = .str ⟨#[c]⟩ ∧ y = .str z ∧ Q (.bl (decide (c ∈ z.cps.toList))) H) ta tb) δ M (.d (.bool (decide (n ∈ x.cps.toList)))) :=
  ed_op ha hb fun H a b h1 h2 Q k => ⟨n, x, h1, h2, k _ H (Same.refl H) rfl⟩
end
section
variable {P : Program} {w : World} {K : PySem.W.Frag} {mg : Str → Option Value} {base : Heap}
abbrev s_is_number : Stmt := topS 4
theorem sc_is_number : FnScope ["thing"] ["thing"] (defScope s_is_number) := ⟨rfl, rfl, rfl, by decide +kernel, rfl, by decide +kernel, by decide +kernel⟩
def p_is_number (ss : List Sl) (r : Sl) : Prop := ∃ i : Int, ss = [.d (.int i)] ∧ r = .d (.bool true)
theorem ok_is_number (B : Bl mg) (F : Def K mg "is_number" s_is_number ["thing"]) : Cal P w K mg base 1 "is_number" ["thing"] p_is_number := by
  refine okC F sc_is_number (fun ss r ⟨i, e, _⟩ => by rw [e]; rfl) fun f cdv A outer s H E hr nd hu => ⟨_, (pss_one (ps_ret (pe_and (pe_callB (k_isi K rfl) (by rfl) B.isinstance (by decide +kernel) (pa_cons (pv 0) (pa_cons (pe_bltn (v := .ty "int") (by rfl) B.int (by decide +kernel) rfl) pa_nil))) (pe_one (pe_not (pe_callB (k_isi K rfl) (by rfl) B.isinstance (by decide +kernel) (pa_cons (pv 0) (pa_cons (pe_bltn (v := .ty "bool") (by rfl) B.bool (by decide +kernel) rfl) pa_nil)))))))), fun ss r h c D hR => ?_⟩
  obtain ⟨i, rfl, rfl⟩ := h
  exact s_ret (ed_and (ed_isi (ed_var rfl) kI_int) fun _ => (ed_not (ed_isi (ed_var rfl) kI_bool))) hR
abbrev s_is_from : Stmt := topS 5
theorem sc_is_from : FnScope ["thing", "least"] ["thing", "least"] (defScope s_is_from) := ⟨rfl, rfl, rfl, by decide +kernel, rfl, by decide +kernel, by decide +kernel⟩
def p_is_from (ss : List Sl) (r : Sl) : Prop := ∃ i l : Int, ss = [.d (.int i), .d (.int l)] ∧ l ≤ i ∧ r = .d (.bool true)
theorem ok_is_from (B : Bl mg) (F : Def K mg "is_from" s_is_from ["thing", "least"]) (C_is_number : Cal P w K mg base 1 "is_number" ["thing"] p_is_number) : Cal P w K mg base 2 "is_from" ["thing", "least"] p_is_from := by
  refine okC F sc_is_from (fun ss r ⟨i, l, e, _⟩ => by rw [e]; rfl) fun f cdv A outer s H E hr nd hu => ⟨_, (pss_one (ps_ret (pe_and (pe_cal C_is_number hr (pa_cons (pv 0) pa_nil)) (pe_one (pe_cmpR op_ge (pv 0) (pv 1) (nomark _)))))), fun ss r h c D hR => ?_⟩
  obtain ⟨i, l, rfl, hl, rfl⟩ := h
  exact s_ret (ed_eq (ed_and (ed_call (ea_cons (ed_var rfl) ea_nil) ⟨i, rfl, rfl⟩) fun _ => (ed_ge (ed_var rfl) (ed_var rfl))) (by simp [hl])) hR
abbrev s_is_long : Stmt := topS 6
theorem sc_is_long : FnScope ["thing", "length"] ["thing", "length"] (defScope s_is_long) := ⟨rfl, rfl, rfl, by decide +kernel, rfl, by decide +kernel, by decide +kernel⟩
def p_is_long (ss : List Sl) (r : Sl) : Prop := ∃ (ds : List PyData) (n : Int), ss = [.d (.tuple ds), .d (.int n)] ∧ r = .d (.bool (decide ((ds.length : Int) = n)))
theorem ok_is_long (B : Bl mg) (F : Def K mg "is_long" s_is_long ["thing", "length"]) : Cal P w K mg base 1 "is_long" ["thing", "length"] p_is_long := by
  refine okC F sc_is_long (fun ss r ⟨i, l, e, _⟩ => by rw [e]; rfl) fun f cdv A outer s H E hr nd hu => ⟨_, (pss_one (ps_ret (pe_and (pe_callB (k_isi K rfl) (by rfl) B.isinstance (by decide +kernel) (pa_cons (pv 0) (pa_cons (pe_bltn (v := .ty "tuple") (by rfl) B.tuple (by decide +kernel) rfl) pa_nil))) (pe_one (pe_cmpR op_eq (pe_callB (k_len K rfl) (by rfl) B.len boot_len (pa_cons (pv 0) pa_nil)) (pv 1) (nomark _)))))), fun ss r h c D hR => ?_⟩
  obtain ⟨ds, n, rfl, rfl⟩ := h
  exact s_ret (ed_eq (ed_and (ed_isi (ed_var rfl) kT_tuple) fun _ => (ed_eqI (ed_lenT (ed_var rfl)) (ed_var rfl))) (by simp)) hR
abbrev s_tupled : Stmt := topS 7
theorem sc_tupled : FnScope ["value", "own"] ["value"] (defScope s_tupled) := ⟨rfl, rfl, rfl, by decide +kernel, rfl, by decide +kernel, by decide +kernel⟩
def p_tupled (n : Nat) (ss : List Sl) (r : Sl) : Prop := ∃ d, flatD n d = true ∧ ss = [.d d] ∧ r = .d (tupD d)
theorem ok_tupled (B : Bl mg) (F : Def K mg "tupled" s_tupled ["value"]) : ∀ n, Cal P w K mg base (n + 1) "tupled" ["value"] (p_tupled n)
  | 0 => by
    refine okC F sc_tupled (fun ss r ⟨d, _, e, _⟩ => by rw [e]; rfl) fun f cdv A outer s H E hr nd hu => ⟨_, (pss_one (ps_ret (pe_ifExp (pt_val (pe_callB call_isiT (by rfl) B.isinstance (by decide +kernel) (pa_cons (pv 0) (pa_cons (pe_tup (pa_cons (pe_bltn (v := .ty "list") (by rfl) B.list (by decide +kernel) rfl) (pa_cons (pe_bltn (v := .ty "tuple") (by rfl) B.tuple (by decide +kernel) rfl) pa_nil))) pa_nil)))) pe_none (pv 0)))), fun ss r h c D hR => ?_⟩
    obtain ⟨d, hd, rfl, rfl⟩ := h
    cases d with
    | list ds => simp [flatD] at hd
    | tuple ds => simp [flatD] at hd
    | dict ds => simp [flatD] at hd
    | none => exact s_ret (ed_eq (ed_if (et_val (ed_isi2 (ed_var rfl) kN_list kN_tuple)) (fun z => nomatch z) fun _ => ed_var rfl) (by rw [tupD])) hR
    | bool b => exact s_ret (ed_eq (ed_if (et_val (ed_isi2 (ed_var rfl) kB_list kB_tuple)) (fun z => nomatch z) fun _ => ed_var rfl) (by rw [tupD])) hR
    | int b => exact s_ret (ed_eq (ed_if (et_val (ed_isi2 (ed_var rfl) kI_list kI_tuple)) (fun z => nomatch z) fun _ => ed_var rfl) (by rw [tupD])) hR
    | str b => exact s_ret (ed_eq (ed_if (et_val (ed_isi2 (ed_var rfl) kS_list kS_tuple)) (fun z => nomatch z) fun _ => ed_var rfl) (by rw [tupD])) hR
  | n + 1 => by
    have C_tupled := ok_tupled B F n
    refine okC F sc_tupled (fun ss r ⟨d, _, e, _⟩ => by rw [e]; rfl) fun f cdv A outer s H E hr nd hu => ⟨_, (pss_one (ps_ret (pe_ifExp (pt_val (pe_callB (k_isiT K rfl) (by rfl) B.isinstance (by decide +kernel) (pa_cons (pv 0) (pa_cons (pe_tup (pa_cons (pe_bltn (v := .ty "list") (by rfl) B.list (by decide +kernel) rfl) (pa_cons (pe_bltn (v := .ty "tuple") (by rfl) B.tuple (by decide +kernel) rfl) pa_nil))) pa_nil)))) (pe_callTy (k_tupOf K rfl) (by rfl) B.tuple (by decide +kernel) (pa_cons (pe_alt (pe_fz (pe_lc (own := [("own", 1)]) rfl nd (pi_list (pv 0)) (blkOk_by (own := [("own", 1)]) (N := ["value", "own"]) (sc := defScope s_tupled) (by decide +kernel)) (fun _ _ _ _ _ => (pg_name (i := 1) nd rfl (Or.inl rfl))) (fun _ _ _ _ _ => pts_nil) (fun _ _ _ _ _ => (pe_cal C_tupled hr (pa_cons (pv 1) pa_nil) (hj := Nat.le_refl _))))) (pe_fz (pe_lc (own := [("own", 1)]) rfl nd (pi_tup (pv 0)) (blkOk_by (own := [("own", 1)]) (N := ["value", "own"]) (sc := defScope s_tupled) (by decide +kernel)) (fun _ _ _ _ _ => (pg_name (i := 1) nd rfl (Or.inl rfl))) (fun _ _ _ _ _ => pts_nil) (fun _ _ _ _ _ => (pe_cal C_tupled hr (pa_cons (pv 1) pa_nil) (hj := Nat.le_refl _)))))) pa_nil)) (pv 0)))), fun ss r h c D hR => ?_⟩
    obtain ⟨d, hd, rfl, rfl⟩ := h
    cases d with
    | dict ds => simp [flatD] at hd
    | none => exact s_ret (ed_eq (ed_if (et_val (ed_isi2 (ed_var rfl) kN_list kN_tuple)) (fun z => nomatch z) fun _ => ed_var rfl) (by rw [tupD])) hR
    | bool b => exact s_ret (ed_eq (ed_if (et_val (ed_isi2 (ed_var rfl) kB_list kB_tuple)) (fun z => nomatch z) fun _ => ed_var rfl) (by rw [tupD])) hR
    | int b => exact s_ret (ed_eq (ed_if (et_val (ed_isi2 (ed_var rfl) kI_list kI_tuple)) (fun z => nomatch z) fun _ => ed_var rfl) (by rw [tupD])) hR
    | str b => exact s_ret (ed_eq (ed_if (et_val (ed_isi2 (ed_var rfl) kS_list kS_tuple)) (fun z => nomatch z) fun _ => ed_var rfl) (by rw [tupD])) hR
    | list ds =>
      obtain ⟨hl, hf⟩ := flatD_list hd
      rw [show tupD (.list ds) = .tuple (ds.map tupD) by rw [tupD, tupA_map]] at hR
      exact s_ret (ed_if (et_val (ed_isi2 (ed_var rfl) kL_list kL_tuple)) (fun _ => (ed_tupL (ed_altL <| ed_lcm tupD (es_list (ed_var rfl)) (by omega) fun d hd => ⟨_, tc_name, (ed_call (ea_cons (ed_var rfl) ea_nil) ⟨d, hf d hd, rfl, rfl⟩)⟩))) fun z => nomatch z) hR
    | tuple ds =>
      obtain ⟨hl, hf⟩ := flatD_tuple hd
      rw [show tupD (.tuple ds) = .tuple (ds.map tupD) by rw [tupD, tupA_map]] at hR
      exact s_ret (ed_if (et_val (ed_isi2 (ed_var rfl) kT_list kT_tuple)) (fun _ => (ed_tupL (ed_altR <| ed_lcm tupD (es_tup (ed_var rfl)) (by omega) fun d hd => ⟨_, tc_name, (ed_call (ea_cons (ed_var rfl) ea_nil) ⟨d, hf d hd, rfl, rfl⟩)⟩))) fun z => nomatch z) hR
abbrev s_is_word : Stmt := topS 11
theorem sc_is_word : FnScope ["thing", "sign"] ["thing"] (defScope s_is_word) := ⟨rfl, rfl, rfl, by decide +kernel, rfl, by decide +kernel, by decide +kernel⟩
def p_is_word (ss : List Sl) (r : Sl) : Prop := ∃ x, okW x = true ∧ ss = [.d (.str x)] ∧ r = .d (.bool true)
def inS : PyData → Bool
  | .str x => decide (x.cps.toList.headD 0 ∈ signs.cps.toList)
  | _ => false
theorem ok_is_word (B : Bl mg) (T : Gb mg) (F : Def K mg "is_word" s_is_word ["thing"]) : Cal P w K mg base 1 "is_word" ["thing"] p_is_word := by
  obtain ⟨⟨t1, g1⟩, ⟨t2, g2⟩⟩ := T
  refine okC F sc_is_word (fun ss r ⟨d, _, e, _⟩ => by rw [e]; rfl) fun f cdv A outer s H E hr nd hu => ⟨_, (pss_one (ps_ret (pe_and (pe_callB (k_isi K rfl) (by rfl) B.isinstance (by decide +kernel) (pa_cons (pv 0) (pa_cons (pe_bltn (v := .ty "str") (by rfl) B.str (by decide +kernel) rfl) pa_nil))) (pe_and (pe_chain op_le op_le pe_int (pe_callB call_len_str (by rfl) B.len boot_len (pa_cons (pv 0) pa_nil)) (pe_glob (v := .int 12) rfl g1 ⟨_, rfl⟩)) (pe_one (pe_callB (k_all K rfl rfl) (by rfl) B.all (by decide +kernel) (pa_cons (pe_fz (pe_lc (own := [("sign", 1)]) rfl nd (pi_str (pv 0)) (blkOk_by (own := [("sign", 1)]) (N := ["thing", "sign"]) (sc := defScope s_is_word) (by decide +kernel)) (fun _ _ _ _ _ => (pg_name (i := 1) nd rfl (Or.inl rfl))) (fun _ _ _ _ _ => pts_nil) (fun _ _ _ _ _ => (pe_cmpR op_in_sign (pv 1) (pe_glob (v := .str signs) rfl g2 ⟨_, rfl⟩) rfl)))) pa_nil))))))), fun ss r h c D hR => ?_⟩
  obtain ⟨x, hx, rfl, rfl⟩ := h
  have hx' : (1 ≤ x.length ∧ x.length ≤ 12) ∧ (x.cps.toList.all fun n => signs.cps.toList.contains n) = true := by simpa [okW] using hx
  refine s_ret (ed_eq (ed_and (ed_isi (ed_var rfl) kS_str) fun _ => (ed_and (ed_chain (a := decide ((1 : Int) ≤ (x.length : Int))) (b := decide ((x.length : Int) ≤ 12)) ed_int (ed_lenS (ed_var rfl) (by omega)) ed_int (fun H x y h1 h2 Q k => ⟨_, _, h1, h2, k⟩) (fun H x y h1 h2 Q k => ⟨_, _, h1, h2, k⟩)) fun _ => (ed_all (bs := x.cps.toList.map fun n => decide (n ∈ signs.cps.toList)) (ed_eq (ed_lcm (fun d => .bool (inS d)) (es_str (ed_var rfl)) (by simp [signsD]; have := hx'.1.2; unfold Str.length at this; omega) fun d hd => ⟨_, tc_name, ?_⟩) (by simp only [signsD, List.map_map]; rfl))))) ?_) hR
  · obtain ⟨n, _, rfl⟩ := List.mem_map.mp hd
    exact ed_inS (ed_var rfl) ed_str
  · simp only [List.all_map]
    have e : (x.cps.toList.all (id ∘ fun n => decide (n ∈ signs.cps.toList))) = true := by
      rw [← hx'.2]
      congr 1
      funext n
      simp
    have h1 := hx'.1.1
    have h2 := hx'.1.2
    rw [e]
    simp
    omega
abbrev s_is_key : Stmt := topS 12
theorem sc_is_key : FnScope ["thing"] ["thing"] (defScope s_is_key) := ⟨rfl, rfl, rfl, by decide +kernel, rfl, by decide +kernel, by decide +kernel⟩
def p_is_key (ss : List Sl) (r : Sl) : Prop := ∃ x, okW x = true ∧ ss = [.d (.str x)] ∧ r = .d (.bool true)
theorem ok_is_key (B : Bl mg) (F : Def K mg "is_key" s_is_key ["thing"]) (C_is_word : Cal P w K mg base 1 "is_word" ["thing"] p_is_word) : Cal P w K mg base 2 "is_key" ["thing"] p_is_key := by
  refine okC F sc_is_key (fun ss r ⟨d, _, e, _⟩ => by rw [e]; rfl) fun f cdv A outer s H E hr nd hu => ⟨_, (pss_one (ps_ret (pe_or (pe_cal C_is_word hr (pa_cons (pv 0) pa_nil)) (pe_one (pe_and (pe_callB (k_isi K rfl) (by rfl) B.isinstance (by decide +kernel) (pa_cons (pv 0) (pa_cons (pe_bltn (v := .ty "str") (by rfl) B.str (by decide +kernel) rfl) pa_nil))) (pe_and (pe_cmpR op_eq (pe_slice (k_slT K rfl) (pv 0) po_none (po_some pe_int)) pe_str (nomark _)) (pe_one (pe_cal C_is_word hr (pa_cons (pe_slice (k_slT K rfl) (pv 0) (po_some pe_int) po_none) pa_nil))))))))), fun ss r h c D hR => ?_⟩
  obtain ⟨x, hx, rfl, rfl⟩ := h
  exact s_ret (ed_or (a := true) (b := true) (ed_call (ea_cons (ed_var rfl) ea_nil) ⟨x, hx, rfl, rfl⟩) fun z => nomatch z) hR
end
end HD
end
section
namespace HD
open PySem PySem.Spec PyProof.Rows L2
open HR (Sgl Rec dput ddrop dlook Nk parts unb fol isPart asPut)
theorem okS_put {k w : Str} (h : okS (.put k w) = true) : okW k = true ∧ okW w = true := by simpa [okS] using h
theorem okG_lot {ss : List Sgl} (h : okG (.lot ss) = true) : 2 ≤ ss.length ∧ ss.length ≤ 1000 ∧ ∀ s ∈ ss, okS s = true := by
  have : (2 ≤ ss.length ∧ ss.length ≤ 1000) ∧ ss.all okS = true := by simpa [okG] using h
  exact ⟨this.1.1, this.1.2, fun s hs => List.all_eq_true.mp this.2 s hs⟩
theorem all_true {α : Type} (l : List α) : (List.replicate l.length true).all id = true := by simp
theorem map_true {α : Type} (l : List α) : l.map (fun _ => PyData.bool true) = (List.replicate l.length true).map .bool := by
  rw [List.map_replicate]
  induction l with
  | nil => rfl
  | cons a l ih => rw [List.map_cons, ih]; rfl
theorem okG_len {g : Deed} (h : okG g = true) : 1 ≤ g.singles.length ∧ g.singles.length ≤ 1000 := by
  cases g with
  | one s => simp [Deed.singles]
  | lot ss => obtain ⟨h1, h2, _⟩ := okG_lot h; exact ⟨by show 1 ≤ ss.length; omega, h2⟩
theorem okG_all {g : Deed} (h : okG g = true) : ∀ s ∈ g.singles, okS s = true := by
  cases g with
  | one s => intro s' hs; simp [Deed.singles] at hs; rw [hs]; exact h
  | lot ss => exact (okG_lot h).2.2
theorem mem_enumD {ds : List PyData} {d : PyData} (h : d ∈ enumD ds) : ∃ (i : Nat) (x : PyData), ds[i]? = some x ∧ d = .tuple [.int (i : Int), x] := by
  obtain ⟨i, hi⟩ := List.mem_iff_getElem?.mp h
  simp only [enumD, List.getElem?_mapIdx] at hi
  cases hq : ds[i]? with
  | none => rw [hq] at hi; cases hi
  | some x =>
    rw [hq] at hi
    exact ⟨i, x, hq, (Option.some.inj hi).symm⟩
section
variable {P : Program} {w : World} {K : PySem.W.Frag} {mg : Str → Option Value} {base : Heap}
abbrev s_is_single : Stmt := topS 13
theorem sc_is_single : FnScope ["thing"] ["thing"] (defScope s_is_single) := ⟨rfl, rfl, rfl, by decide +kernel, rfl, by decide +kernel, by decide +kernel⟩
def p_is_single (ss : List Sl) (r : Sl) : Prop := ∃ s, okS s = true ∧ ss = [.d (eSgl s)] ∧ r = .d (.bool true)
theorem ok_is_single (B : Bl mg) (F : Def K mg "is_single" s_is_single ["thing"]) (C_is_key : Cal P w K mg base 2 "is_key" ["thing"] p_is_key) (C_is_word : Cal P w K mg base 1 "is_word" ["thing"] p_is_word) : Cal P w K mg base 3 "is_single" ["thing"] p_is_single := by
  refine okC F sc_is_single (fun ss r ⟨d, _, e, _⟩ => by rw [e]; rfl) fun f cdv A outer s H E hr nd hu => ⟨_, (pss_cons (ps_if (PW.pt (pw_or (pt_not (pt_val (pe_callB (k_isi K rfl) (by rfl) B.isinstance (by decide +kernel) (pa_cons (pv 0) (pa_cons (pe_bltn (v := .ty "tuple") (by rfl) B.tuple (by decide +kernel) rfl) pa_nil))))) (pw_or (pt_cmpR op_lt (pe_callB (k_len K rfl) (by rfl) B.len boot_len (pa_cons (pv 0) pa_nil)) pe_int (nomark _)) (pw_or (pt_not (pt_val (pe_callB (k_isi K rfl) (by rfl) B.isinstance (by decide +kernel) (pa_cons (pe_ix (k_ixT K rfl) (pv 0) pe_int (fun _ _ => rfl)) (pa_cons (pe_bltn (v := .ty "str") (by rfl) B.str (by decide +kernel) rfl) pa_nil))))) (pw_or1 (pt_not (pt_val (pe_cal C_is_key hr (pa_cons (pe_ix (k_ixT K rfl) (pv 0) pe_int (fun _ _ => rfl)) pa_nil))))))))) (pss_one (ps_ret pe_bl)) pss_nil)
      (pss_one (ps_ret (pe_or (pe_and (pe_cmpR op_eq (pe_ix (k_ixT K rfl) (pv 0) pe_int (fun _ _ => rfl)) pe_str (nomark _)) (pe_one (pe_cmpR op_eq (pe_callB (k_len K rfl) (by rfl) B.len boot_len (pa_cons (pv 0) pa_nil)) pe_int (nomark _)))) (pe_one (pe_and (pe_cmpR op_eq (pe_ix (k_ixT K rfl) (pv 0) pe_int (fun _ _ => rfl)) pe_str (nomark _)) (pe_and (pe_cmpR op_eq (pe_callB (k_len K rfl) (by rfl) B.len boot_len (pa_cons (pv 0) pa_nil)) pe_int (nomark _)) (pe_one (pe_cal C_is_word hr (pa_cons (pe_ix (k_ixT K rfl) (pv 0) pe_int (fun _ _ => rfl)) pa_nil)))))))))), fun ss r h c D hR => ?_⟩
  obtain ⟨s, hs, rfl, rfl⟩ := h
  cases s with
  | put k x =>
    have hw := okS_put hs
    refine q_no (et_eq (et_or (et_not (et_val (ed_isi (ed_var rfl) kT_tuple))) fun _ => (et_or (et_test (ed_lt (ed_lenT (ed_var rfl)) ed_int)) fun _ => (et_or (et_not (et_val (ed_isi (ed_ixT (ed_var rfl) ed_int rfl) kS_str))) fun _ => (et_not (et_val (ed_call (ea_cons (ed_ixT (ed_var rfl) ed_int rfl) ea_nil) ⟨k, hw.1, rfl, rfl⟩)))))) rfl) ?_
    exact s_ret (ed_eq (ed_or (ed_and (ed_eqS (ed_ixT (ed_var rfl) ed_int rfl) ed_str) fun _ => (ed_eqI (ed_lenT (ed_var rfl)) ed_int)) fun _ => (ed_and (ed_eqS (ed_ixT (ed_var rfl) ed_int rfl) ed_str) fun _ => (ed_and (ed_eqI (ed_lenT (ed_var rfl)) ed_int) fun _ => (ed_call (ea_cons (ed_ixT (ed_var rfl) ed_int rfl) ea_nil) ⟨x, hw.2, rfl, rfl⟩)))) (by rfl)) hR
  | drop k =>
    refine q_no (et_eq (et_or (et_not (et_val (ed_isi (ed_var rfl) kT_tuple))) fun _ => (et_or (et_test (ed_lt (ed_lenT (ed_var rfl)) ed_int)) fun _ => (et_or (et_not (et_val (ed_isi (ed_ixT (ed_var rfl) ed_int rfl) kS_str))) fun _ => (et_not (et_val (ed_call (ea_cons (ed_ixT (ed_var rfl) ed_int rfl) ea_nil) ⟨k, hs, rfl, rfl⟩)))))) rfl) ?_
    exact s_ret (ed_eq (ed_or (a := true) (b := true) (ed_eq (ed_and (ed_eqS (ed_ixT (ed_var rfl) ed_int rfl) ed_str) fun _ => (ed_eqI (ed_lenT (ed_var rfl)) ed_int)) (by rfl)) fun z => nomatch z) (by rfl)) hR
abbrev s_is_deed : Stmt := topS 14
theorem sc_is_deed : FnScope ["thing", "own"] ["thing"] (defScope s_is_deed) := ⟨rfl, rfl, rfl, by decide +kernel, rfl, by decide +kernel, by decide +kernel⟩
def p_is_deed (ss : List Sl) (r : Sl) : Prop := ∃ g, okG g = true ∧ ss = [.d (eDeed g)] ∧ r = .d (.bool true)
theorem ok_is_deed (B : Bl mg) (F : Def K mg "is_deed" s_is_deed ["thing"]) (C_is_long : Cal P w K mg base 1 "is_long" ["thing", "length"] p_is_long) (C_is_single : Cal P w K mg base 3 "is_single" ["thing"] p_is_single) : Cal P w K mg base 4 "is_deed" ["thing"] p_is_deed := by
  refine okC F sc_is_deed (fun ss r ⟨d, _, e, _⟩ => by rw [e]; rfl) fun f cdv A outer s H E hr nd hu => ⟨_, (pss_cons (ps_if (PW.pt (pw_or (pt_not (pt_val (pe_cal C_is_long hr (pa_cons (pv 0) (pa_cons pe_int pa_nil))))) (pw_or (pt_not (pt_val (pe_callB (k_isi K rfl) (by rfl) B.isinstance (by decide +kernel) (pa_cons (pe_ix (k_ixT K rfl) (pv 0) pe_int (fun _ _ => rfl)) (pa_cons (pe_bltn (v := .ty "str") (by rfl) B.str (by decide +kernel) rfl) pa_nil))))) (pw_or1 (pt_cmpR op_ne (pe_ix (k_ixT K rfl) (pv 0) pe_int (fun _ _ => rfl)) pe_str (nomark _)))))) (pss_one (ps_ret (pe_cal C_is_single hr (pa_cons (pv 0) pa_nil)))) pss_nil)
      (pss_one (ps_ret (pe_and (pe_callB (k_isi K rfl) (by rfl) B.isinstance (by decide +kernel) (pa_cons (pe_ix (k_ixT K rfl) (pv 0) pe_int (fun _ _ => rfl)) (pa_cons (pe_bltn (v := .ty "tuple") (by rfl) B.tuple (by decide +kernel) rfl) pa_nil))) (pe_and (pe_cmpR op_gt (pe_callB (k_len K rfl) (by rfl) B.len boot_len (pa_cons (pe_ix (k_ixT K rfl) (pv 0) pe_int (fun _ _ => rfl)) pa_nil)) pe_int (nomark _)) (pe_one (pe_callB (k_all K rfl rfl) (by rfl) B.all (by decide +kernel) (pa_cons (pe_fz (pe_lc (own := [("own", 1)]) rfl nd (pi_tup (pe_ix (k_ixT K rfl) (pv 0) pe_int (fun _ _ => rfl))) (blkOk_by (own := [("own", 1)]) (N := ["thing", "own"]) (sc := defScope s_is_deed) (by decide +kernel)) (fun _ _ _ _ _ => (pg_name (i := 1) nd rfl (Or.inl rfl))) (fun _ _ _ _ _ => pts_nil) (fun _ _ _ _ _ => (pe_cal C_is_single hr (pa_cons (pv 1) pa_nil))))) pa_nil)))))))), fun ss r h c D hR => ?_⟩
  obtain ⟨g, hg, rfl, rfl⟩ := h
  cases g with
  | one s =>
    cases s with
    | put k x =>
      refine q_when (et_or1 (et_eq (b := true) (et_not (et_val (ed_call (ea_cons (ed_var rfl) (ea_cons ed_int ea_nil)) ⟨_, _, rfl, rfl⟩))) (by rfl))) (fun _ => ?_) (fun z => nomatch z)
      exact s_ret (ed_call (ea_cons (ed_var rfl) ea_nil) ⟨.put k x, hg, rfl, rfl⟩) hR
    | drop k =>
      refine q_when (et_eq (et_or (et_not (et_val (ed_call (ea_cons (ed_var rfl) (ea_cons ed_int ea_nil)) ⟨_, _, rfl, rfl⟩))) fun _ => (et_or (et_not (et_val (ed_isi (ed_ixT (ed_var rfl) ed_int rfl) kS_str))) fun _ => (et_test (ed_neS (ed_ixT (ed_var rfl) ed_int rfl) ed_str)))) (b := true) (by rfl)) (fun _ => ?_) (fun z => nomatch z)
      exact s_ret (ed_call (ea_cons (ed_var rfl) ea_nil) ⟨.drop k, hg, rfl, rfl⟩) hR
  | lot ls =>
    obtain ⟨h2, h3, h4⟩ := okG_lot hg
    refine q_no (et_eq (et_or (et_not (et_val (ed_call (ea_cons (ed_var rfl) (ea_cons ed_int ea_nil)) ⟨_, _, rfl, rfl⟩))) fun _ => (et_or (et_not (et_val (ed_isi (ed_ixT (ed_var rfl) ed_int rfl) kS_str))) fun _ => (et_test (ed_neS (ed_ixT (ed_var rfl) ed_int rfl) ed_str)))) (by rfl)) ?_
    refine s_ret (ed_eq (ed_and (ed_isi (ed_ixT (ed_var rfl) ed_int rfl) kT_tuple) fun _ => (ed_and (ed_gt (ed_lenT (ed_ixT (ed_var rfl) ed_int rfl)) ed_int) fun _ => (ed_all (bs := List.replicate (ls.map eSgl).length true) (ed_eq (ed_lcm (fun _ => .bool true) (es_tup (ed_ixT (ed_var rfl) ed_int rfl)) (by simp; omega) fun d hd => ⟨_, tc_name, ?_⟩) (by rw [map_true]))))) ?_) hR
    · obtain ⟨s, hs, rfl⟩ := List.mem_map.mp hd
      exact ed_call (ea_cons (ed_var rfl) ea_nil) ⟨s, h4 s hs, rfl, rfl⟩
    · simp
      omega
abbrev s_is_record : Stmt := topS 15
theorem sc_is_record : FnScope ["thing"] ["thing"] (defScope s_is_record) := ⟨rfl, rfl, rfl, by decide +kernel, rfl, by decide +kernel, by decide +kernel⟩
def p_is_record (ss : List Sl) (r : Sl) : Prop := ∃ s, okR s = true ∧ ss = [.d (eRec s)] ∧ r = .d (.bool true)
theorem ok_is_record (B : Bl mg) (F : Def K mg "is_record" s_is_record ["thing"]) (C_is_single : Cal P w K mg base 3 "is_single" ["thing"] p_is_single) (C_is_from : Cal P w K mg base 2 "is_from" ["thing", "least"] p_is_from) : Cal P w K mg base 4 "is_record" ["thing"] p_is_record := by
  refine okC F sc_is_record (fun ss r ⟨d, _, e, _⟩ => by rw [e]; rfl) fun f cdv A outer s H E hr nd hu => ⟨_, (pss_cons (ps_if (PW.pt (pw_or (pt_not (pt_val (pe_callB (k_isi K rfl) (by rfl) B.isinstance (by decide +kernel) (pa_cons (pv 0) (pa_cons (pe_bltn (v := .ty "tuple") (by rfl) B.tuple (by decide +kernel) rfl) pa_nil))))) (pw_or (pt_cmpR op_eq (pe_callB (k_len K rfl) (by rfl) B.len boot_len (pa_cons (pv 0) pa_nil)) pe_int (nomark _)) (pw_or1 (pt_not (pt_val (pe_callB (k_isi K rfl) (by rfl) B.isinstance (by decide +kernel) (pa_cons (pe_ix (k_ixT K rfl) (pv 0) pe_int (fun _ _ => rfl)) (pa_cons (pe_bltn (v := .ty "str") (by rfl) B.str (by decide +kernel) rfl) pa_nil))))))))) (pss_one (ps_ret pe_bl)) pss_nil)
      (pss_cons (ps_if (pt_cmpR op_eq (pe_ix (k_ixT K rfl) (pv 0) pe_int (fun _ _ => rfl)) pe_str (nomark _)) (pss_one (ps_ret (pe_cmpR op_eq (pe_callB (k_len K rfl) (by rfl) B.len boot_len (pa_cons (pv 0) pa_nil)) pe_int (nomark _)))) pss_nil)
      (pss_one (ps_ret (pe_and (pe_cmpR op_gt (pe_callB (k_len K rfl) (by rfl) B.len boot_len (pa_cons (pv 0) pa_nil)) pe_int (nomark _)) (pe_and (pe_cal C_is_single hr (pa_cons (pe_slice (k_slT K rfl) (pv 0) po_none (po_some (pe_un un_neg pe_int))) pa_nil)) (pe_and (pe_cal C_is_from hr (pa_cons (pe_ix (k_ixT K rfl) (pv 0) (pe_un un_neg pe_int) (fun _ _ => rfl)) (pa_cons pe_int pa_nil))) (pe_one (pe_cal C_is_from hr (pa_cons (pe_ix (k_ixT K rfl) (pv 0) (pe_un un_neg pe_int) (fun _ _ => rfl)) (pa_cons pe_int pa_nil))))))))))), fun ss r h c D hR => ?_⟩
  obtain ⟨g, hg, rfl, rfl⟩ := h
  cases g with
  | blank =>
    refine q_no (et_eq (et_or (et_not (et_val (ed_isi (ed_var rfl) kT_tuple))) fun _ => (et_or (et_test (ed_eqI (ed_lenT (ed_var rfl)) ed_int)) fun _ => (et_not (et_val (ed_isi (ed_ixT (ed_var rfl) ed_int rfl) kS_str))))) (by rfl)) ?_
    refine q_when (et_eq (et_test (ed_eqS (ed_ixT (ed_var rfl) ed_int rfl) ed_str)) (b := true) (by rfl)) (fun _ => ?_) (fun z => nomatch z)
    exact s_ret (ed_eq (ed_eqI (ed_lenT (ed_var rfl)) ed_int) (by rfl)) hR
  | part s p l =>
    cases s with
    | put k x =>
      refine q_no (et_eq (et_or (et_not (et_val (ed_isi (ed_var rfl) kT_tuple))) fun _ => (et_or (et_test (ed_eqI (ed_lenT (ed_var rfl)) ed_int)) fun _ => (et_not (et_val (ed_isi (ed_ixT (ed_var rfl) ed_int rfl) kS_str))))) (by rfl)) ?_
      refine q_no (et_eq (et_test (ed_eqS (ed_ixT (ed_var rfl) ed_int rfl) ed_str)) (by rfl)) ?_
      exact s_ret (ed_eq (ed_and (ed_gt (ed_lenT (ed_var rfl)) ed_int) fun _ => (ed_and (ed_call (ea_cons (ed_slT (ed_var rfl) eo_none (eo_some (ed_neg ed_int))) ea_nil) ⟨.put k x, hg, rfl, rfl⟩) fun _ => (ed_and (ed_call (ea_cons (ed_ixT (ed_var rfl) (ed_neg ed_int) rfl) (ea_cons ed_int ea_nil)) ⟨_, _, rfl, by omega, rfl⟩) fun _ => (ed_call (ea_cons (ed_ixT (ed_var rfl) (ed_neg ed_int) rfl) (ea_cons ed_int ea_nil)) ⟨_, _, rfl, by omega, rfl⟩)))) (by rfl)) hR
    | drop k =>
      refine q_no (et_eq (et_or (et_not (et_val (ed_isi (ed_var rfl) kT_tuple))) fun _ => (et_or (et_test (ed_eqI (ed_lenT (ed_var rfl)) ed_int)) fun _ => (et_not (et_val (ed_isi (ed_ixT (ed_var rfl) ed_int rfl) kS_str))))) (by rfl)) ?_
      refine q_no (et_eq (et_test (ed_eqS (ed_ixT (ed_var rfl) ed_int rfl) ed_str)) (by rfl)) ?_
      exact s_ret (ed_eq (ed_and (ed_gt (ed_lenT (ed_var rfl)) ed_int) fun _ => (ed_and (ed_call (ea_cons (ed_slT (ed_var rfl) eo_none (eo_some (ed_neg ed_int))) ea_nil) ⟨.drop k, hg, rfl, rfl⟩) fun _ => (ed_and (ed_call (ea_cons (ed_ixT (ed_var rfl) (ed_neg ed_int) rfl) (ea_cons ed_int ea_nil)) ⟨_, _, rfl, by omega, rfl⟩) fun _ => (ed_call (ea_cons (ed_ixT (ed_var rfl) (ed_neg ed_int) rfl) (ea_cons ed_int ea_nil)) ⟨_, _, rfl, by omega, rfl⟩)))) (by rfl)) hR
abbrev s_sure_deed : Stmt := topS 16
theorem sc_sure_deed : FnScope ["deed", "own"] ["deed"] (defScope s_sure_deed) := ⟨rfl, rfl, rfl, by decide +kernel, rfl, by decide +kernel, by decide +kernel⟩
def p_sure_deed (ss : List Sl) (r : Sl) : Prop := ∃ d g, okG g = true ∧ flatD 3 d = true ∧ tupD d = eDeed g ∧ ss = [.d d] ∧ r = .d (eDeed g)
theorem ok_sure_deed (F : Def K mg "sure_deed" s_sure_deed ["deed"]) (C_tupled : Cal P w K mg base 4 "tupled" ["value"] (p_tupled 3)) (C_is_deed : Cal P w K mg base 4 "is_deed" ["thing"] p_is_deed) : Cal P w K mg base 5 "sure_deed" ["deed"] p_sure_deed := by
  refine okC F sc_sure_deed (fun ss r ⟨d, g, _, _, _, e, _⟩ => by rw [e]; rfl) fun f cdv A outer s H E hr nd hu => ⟨_, (pss_cons (ps_set (i := 1) nd rfl (Or.inl rfl) (pe_cal C_tupled hr (pa_cons (pv 0) pa_nil)))
      (pss_cons (ps_if (pt_not (pt_val (pe_cal C_is_deed hr (pa_cons (pv 1) pa_nil)))) pss_never pss_nil)
      (pss_one (ps_ret (pv 1))))), fun ss r h c D hR => ?_⟩
  obtain ⟨d, g, hg, hf, ht, rfl, rfl⟩ := h
  refine q_set (ed_call (z := .d (eDeed g)) (ea_cons (ed_var rfl) ea_nil) ⟨d, hf, rfl, by rw [ht]⟩) ?_
  refine q_no (et_eq (et_not (et_val (ed_call (ea_cons (ed_var rfl) ea_nil) ⟨g, hg, rfl, rfl⟩))) rfl) ?_
  exact s_ret (ed_var rfl) hR
abbrev s_sure_rows : Stmt := topS 17
theorem sc_sure_rows : FnScope ["things", "look", "own", "one"] ["things", "look"] (defScope s_sure_rows) := ⟨rfl, rfl, rfl, by decide +kernel, rfl, by decide +kernel, by decide +kernel⟩
def p_sure_rows (mg : Str → Option Value) (ss : List Sl) (r : Sl) : Prop := ∃ d rs f, (∀ x ∈ rs, okR x = true) ∧ rs.length ≤ 1000 ∧ flatD 2 d = true ∧ tupD d = eRecs rs ∧ mg "is_record" = some (.ref f) ∧ ss = [.d d, .v (.ref f)] ∧ r = .d (eRecs rs)
theorem ok_sure_rows (B : Bl mg) (F : Def K mg "sure_rows" s_sure_rows ["things", "look"]) (C_tupled : Cal P w K mg base 3 "tupled" ["value"] (p_tupled 2)) (C_is_record : Cal P w K mg base 4 "is_record" ["thing"] p_is_record) : Cal P w K mg base 5 "sure_rows" ["things", "look"] (p_sure_rows mg) := by
  obtain ⟨fr, fd, hm, hk, hb, FO⟩ := C_is_record
  refine okC F sc_sure_rows (fun ss r ⟨d, g, f, _, _, _, _, _, e, _⟩ => by rw [e]; rfl) fun f cdv A outer s H E hr nd hu => ⟨_, (pss_cons (ps_set (i := 2) nd rfl (Or.inl rfl) (pe_cal C_tupled hr (pa_cons (pv 0) pa_nil)))
      (pss_cons (ps_if (PW.pt (pw_or (pt_not (pt_val (pe_callB (k_isi K rfl) (by rfl) B.isinstance (by decide +kernel) (pa_cons (pv 2) (pa_cons (pe_bltn (v := .ty "tuple") (by rfl) B.tuple (by decide +kernel) rfl) pa_nil))))) (pw_or1 (pt_not (pt_val (pe_callB (k_all K rfl rfl) (by rfl) B.all (by decide +kernel) (pa_cons (pe_fz (pe_lc (own := [("one", 3)]) rfl nd (pi_tup (pv 2)) (blkOk_by (own := [("one", 3)]) (N := ["things", "look", "own", "one"]) (sc := defScope s_sure_rows) (by decide +kernel)) (fun _ _ _ _ _ => (pg_name (i := 3) nd rfl (Or.inl rfl))) (fun _ _ _ _ _ => pts_nil) (fun _ _ _ _ _ => (pe_callL (i := 1) FO (hr.mono (by decide)) rfl (by first | exact Or.inl rfl | exact Or.inr (Or.inl rfl) | exact Or.inr (Or.inr rfl)) hk hb .nil pass0 (pa_cons (pv 3) pa_nil))))) pa_nil))))))) pss_never pss_nil)
      (pss_one (ps_ret (pv 2))))), fun ss r h c D hR => ?_⟩
  obtain ⟨d, rs, f', hrs, hl, hf, ht, hm', rfl, rfl⟩ := h
  rw [hm] at hm'
  cases hm'
  refine q_set (ed_call (z := .d (eRecs rs)) (ea_cons (ed_var rfl) ea_nil) ⟨d, hf, rfl, by rw [ht]⟩) ?_
  refine q_no (et_eq (et_or (et_not (et_val (ed_isi (ed_var rfl) kT_tuple))) fun _ => (et_not (et_val (ed_all (bs := List.replicate (rs.map eRec).length true) (ed_eq (ed_lcm (fun _ => .bool true) (es_tup (ed_var rfl)) (by simp; omega) fun d hd => ⟨_, tc_name, ?_⟩) (by rw [map_true])))))) (by simp)) ?_
  · obtain ⟨s, hs, rfl⟩ := List.mem_map.mp hd
    exact ed_callL rfl (ea_cons (ed_var rfl) ea_nil) ⟨s, hrs s hs, rfl, rfl⟩
  · exact s_ret (ed_var rfl) hR
abbrev s_sure_records : Stmt := topS 18
theorem sc_sure_records : FnScope ["records"] ["records"] (defScope s_sure_records) := ⟨rfl, rfl, rfl, by decide +kernel, rfl, by decide +kernel, by decide +kernel⟩
def p_sure_records (ss : List Sl) (r : Sl) : Prop := ∃ d rs, (∀ x ∈ rs, okR x = true) ∧ rs.length ≤ 1000 ∧ flatD 2 d = true ∧ tupD d = eRecs rs ∧ ss = [.d d] ∧ r = .d (eRecs rs)
theorem ok_sure_records (F : Def K mg "sure_records" s_sure_records ["records"]) (C_sure_rows : Cal P w K mg base 5 "sure_rows" ["things", "look"] (p_sure_rows mg)) (C_is_record : Cal P w K mg base 4 "is_record" ["thing"] p_is_record) : Cal P w K mg base 6 "sure_records" ["records"] p_sure_records := by
  obtain ⟨fr, fd, hm, hk, hb, FO⟩ := C_is_record
  refine okC F sc_sure_records (fun ss r ⟨d, g, _, _, _, _, e, _⟩ => by rw [e]; rfl) fun f cdv A outer s H E hr nd hu => ⟨_, (pss_one (ps_ret (pe_cal C_sure_rows hr (pa_cons (pv 0) (pa_cons (pe_glob (v := .ref fr) rfl hm rfl) pa_nil))))), fun ss r h c D hR => ?_⟩
  obtain ⟨d, rs, hrs, hl, hf, ht, rfl, rfl⟩ := h
  exact s_ret (ed_call (ea_cons (ed_var rfl) (ea_cons ed_c ea_nil)) ⟨d, rs, fr, hrs, hl, hf, ht, hm, rfl, rfl⟩) hR
abbrev s_singles_of : Stmt := topS 19
theorem sc_singles_of : FnScope ["deed"] ["deed"] (defScope s_singles_of) := ⟨rfl, rfl, rfl, by decide +kernel, rfl, by decide +kernel, by decide +kernel⟩
def p_singles_of (ss : List Sl) (r : Sl) : Prop := ∃ g, ss = [.d (eDeed g)] ∧ r = .d (eSs g.singles)
theorem ok_singles_of (F : Def K mg "singles_of" s_singles_of ["deed"]) : Cal P w K mg base 1 "singles_of" ["deed"] p_singles_of := by
  refine okC F sc_singles_of (fun ss r ⟨g, e, _⟩ => by rw [e]; rfl) fun f cdv A outer s H E hr nd hu => ⟨_, (pss_one (ps_ret (pe_ifExp (pt_cmpR op_eq (pe_ix (k_ixT K rfl) (pv 0) pe_int (fun _ _ => rfl)) pe_str (nomark _)) (pe_ix (k_ixT K rfl) (pv 0) pe_int (fun _ _ => rfl)) (pe_tup (pa_cons (pv 0) pa_nil))))), fun ss r h c D hR => ?_⟩
  obtain ⟨g, rfl, rfl⟩ := h
  cases g with
  | lot ls => exact s_ret (ed_if (b := true) (et_eq (et_test (ed_eqS (ed_ixT (ed_var rfl) ed_int rfl) ed_str)) (by rfl)) (fun _ => (ed_ixT (ed_var rfl) ed_int rfl)) fun z => nomatch z) hR
  | one s =>
    cases s with
    | put k x => exact s_ret (ed_if (b := false) (et_eq (et_test (ed_eqS (ed_ixT (ed_var rfl) ed_int rfl) ed_str)) (by rfl)) (fun z => nomatch z) fun _ => (ed_tup [eSgl (.put k x)] (ea_cons (ed_var rfl) ea_nil) rfl (by simp))) hR
    | drop k => exact s_ret (ed_if (b := false) (et_eq (et_test (ed_eqS (ed_ixT (ed_var rfl) ed_int rfl) ed_str)) (by rfl)) (fun z => nomatch z) fun _ => (ed_tup [eSgl (.drop k)] (ea_cons (ed_var rfl) ea_nil) rfl (by simp))) hR
abbrev s_parts_in : Stmt := topS 20
theorem sc_parts_in : FnScope ["deed", "singles", "place", "own"] ["deed"] (defScope s_parts_in) := ⟨rfl, rfl, rfl, by decide +kernel, rfl, by decide +kernel, by decide +kernel⟩
def p_parts_in (ss : List Sl) (r : Sl) : Prop := ∃ g, okG g = true ∧ ss = [.d (eDeed g)] ∧ r = .d (eRecs (parts g.singles))
def partF (n : Nat) : PyData → PyData
  | .tuple [.int i, .tuple ds] => .tuple (ds ++ [.int i, .int ((n : Int) - 1 - i)])
  | d => d
theorem eS_part (s : Sgl) (p l : Nat) : eS s ++ [.int (p : Int), .int (l : Int)] = eRi (.part s p l) := by cases s <;> rfl
theorem enum_parts (ls : List Sgl) : (enumD (ls.map eSgl)).map (partF ls.length) = (parts ls).map eRec := by
  apply List.ext_getElem?
  intro i
  simp only [enumD, parts, List.getElem?_map, List.getElem?_mapIdx]
  cases h : ls[i]? with
  | none => rfl
  | some s =>
    have hi : i < ls.length := (List.getElem?_eq_some_iff.mp h).1
    show some (PyData.tuple (eS s ++ [.int (i : Int), .int ((ls.length : Int) - 1 - (i : Int))])) = some (PyData.tuple (eRi (.part s i (ls.length - 1 - i))))
    rw [← eS_part]
    congr 4
    rw [show (ls.length : Int) - 1 - (i : Int) = ((ls.length - 1 - i : Nat) : Int) by omega]
theorem ok_parts_in (B : Bl mg) (F : Def K mg "parts_in" s_parts_in ["deed"]) (C_singles_of : Cal P w K mg base 1 "singles_of" ["deed"] p_singles_of) : Cal P w K mg base 2 "parts_in" ["deed"] p_parts_in := by
  refine okC F sc_parts_in (fun ss r ⟨g, _, e, _⟩ => by rw [e]; rfl) fun f cdv A outer s H E hr nd hu => ⟨_, (pss_cons (ps_set (i := 1) nd rfl (Or.inr rfl) (pe_cal C_singles_of hr (pa_cons (pv 0) pa_nil)))
      (pss_one (ps_ret (pe_callTy (k_tupOf K rfl) (by rfl) B.tuple (by decide +kernel) (pa_cons (pe_fz (pe_lc (own := [("place", 2), ("own", 3)]) rfl nd (pi_enumT (by rfl) B.enumerate (pa_cons (pv 1) pa_nil)) (blkOk_by (own := [("place", 2), ("own", 3)]) (N := ["deed", "singles", "place", "own"]) (sc := defScope s_parts_in) (by decide +kernel)) (fun _ _ _ _ _ => (pg_tupK K rfl (n := 2) rfl (pgs_cons (pg_name (i := 2) nd rfl (Or.inl rfl)) (pgs_cons (pg_name (i := 3) nd rfl (Or.inl rfl)) pgs_nil)))) (fun _ _ _ _ _ => pts_nil) (fun _ _ _ _ _ => (pe_op (k_catA K rfl) (pv 3) (pe_tup (pa_cons (pv 2) (pa_cons (pe_op op_sub (pe_op op_sub (pe_callB (k_len K rfl) (by rfl) B.len boot_len (pa_cons (pv 1) pa_nil)) pe_int) (pv 2)) pa_nil))))))) pa_nil))))), fun ss r h c D hR => ?_⟩
  obtain ⟨g, hg, rfl, rfl⟩ := h
  have hl := okG_len hg
  refine q_set (ed_call (ea_cons (ed_var rfl) ea_nil) ⟨g, rfl, rfl⟩) ?_
  refine s_ret (ed_eq (ed_tupL (ed_lcm (partF g.singles.length) (es_enumT (ea_cons (ed_var rfl) ea_nil)) (by simp [enumD]; omega) fun d hd => ?_)) ?_) hR
  · obtain ⟨i, x, hi, rfl⟩ := mem_enumD hd
    rw [List.getElem?_map] at hi
    cases hq : g.singles[i]? with
    | none => rw [hq] at hi; cases hi
    | some s =>
      rw [hq] at hi
      cases hi
      refine ⟨_, tc_pair (by decide), ed_eq (ed_catT (ds := eS s) (es := [.int (i : Int), .int (((g.singles.map eSgl).length : Int) - 1 - (i : Int))]) (ed_var rfl) (ed_tup [.int (i : Int), .int (((g.singles.map eSgl).length : Int) - 1 - (i : Int))] (ea_cons (ed_var rfl) (ea_cons (ed_sub (ed_sub (ed_lenT (ed_var rfl)) ed_int) (ed_var rfl)) ea_nil)) rfl (by simp)) (by cases s <;> simp [eS])) ?_⟩
      rw [List.length_map]; rfl
  · rw [enum_parts]; rfl
end
end HD
end
section
namespace HR
open PySem (Str PyData)
theorem scan_le (rs : List Rec) : ∀ z : Sc, z.2.1.length + z.2.2.length ≤ z.1 → (rs.foldl stp z).2.1.length + (rs.foldl stp z).2.2.length ≤ (rs.foldl stp z).1 := by
  induction rs with
  | nil => intro z h; exact h
  | cons r rs ih =>
    intro z h
    obtain ⟨i, pd, o⟩ := z
    refine ih _ ?_
    cases r with
    | blank =>
      show ([] : Ev).length + o.length ≤ i + 1
      have : pd.length + o.length ≤ i := h
      simp
      omega
    | part s p l =>
      have h : pd.length + o.length ≤ i := h
      have h1 : (if p = 0 then ([] : Ev) else pd).length ≤ pd.length := by split <;> simp
      unfold stp
      simp only
      split
      · simp only [List.length_append, List.length_cons, List.length_nil]; omega
      · simp only [List.length_append, List.length_cons, List.length_nil]; omega
theorem out_le (rs : List Rec) : (out rs).length ≤ rs.length := by
  have h := scan_le rs (0, [], []) (by simp)
  have h2 := scan_fst rs
  unfold out
  unfold scan at *
  omega
theorem put_le {α : Type} (d : List (Str × α)) (k : Str) (v : α) : (dput d k v).length ≤ d.length + 1 := by
  unfold dput
  split
  · rw [List.length_map]; omega
  · rw [List.length_append]; simp
theorem D_le (o : Ev) : (D o).length ≤ o.length := by
  have h : ∀ (o : Ev) (d : List (Str × Option (Nat × Str))), (o.foldl (fun d e => dput d e.2.key (val e)) d).length ≤ d.length + o.length := by
    intro o
    induction o with
    | nil => intro d; simp
    | cons e o ih =>
      intro d
      have h1 := ih (dput d e.2.key (val e))
      have h2 := put_le d e.2.key (val e)
      rw [List.foldl_cons, List.length_cons]
      omega
  have := h o []
  rw [List.length_nil, Nat.zero_add] at this
  exact this
theorem D_snoc (o : Ev) (e : Nat × Sgl) : D (o ++ [e]) = dput (D o) e.2.key (val e) := by
  unfold D
  rw [List.foldl_append]
  rfl
theorem dput_map {α β : Type} (f : α → β) (d : List (Str × α)) (k : Str) (v : α) : dput (d.map fun e => (e.1, f e.2)) k (f v) = (dput d k v).map fun e => (e.1, f e.2) := by
  unfold dput
  have e1 : ((d.map fun e => (e.1, f e.2)).any fun e => decide (e.1 = k)) = d.any fun e => decide (e.1 = k) := by
    rw [List.any_map]; rfl
  rw [e1]
  split
  · rw [List.map_map, List.map_map]
    apply List.map_congr_left
    intro e _
    show (if e.1 = k then (e.1, f v) else (e.1, f e.2)) = ((fun e : Str × α => (e.1, f e.2)) (if e.1 = k then (e.1, v) else e))
    split <;> rfl
  · rw [List.map_append]; rfl
theorem ddrop_map {α β : Type} (f : α → β) (d : List (Str × α)) (k : Str) : ddrop (d.map fun e => (e.1, f e.2)) k = (ddrop d k).map fun e => (e.1, f e.2) := by
  unfold ddrop
  rw [List.filter_map]
  rfl
/-- the closers below i -/
def clo (rs : List Rec) (i : Nat) : List (Nat × List Sgl) := (List.range i).filterMap fun i => if 0 < cnt rs i then some (i, seg rs i (cnt rs i)) else none
theorem clo_all (rs : List Rec) : clo rs rs.length = closers rs := rfl
theorem clo_succ (rs : List Rec) (i : Nat) : clo rs (i + 1) = clo rs i ++ (if 0 < cnt rs i then [(i, seg rs i (cnt rs i))] else []) := by
  unfold clo
  rw [List.range_succ, List.filterMap_append]
  congr 1
  by_cases h : 0 < cnt rs i
  · simp [h]
  · simp [h]
theorem clo_le (rs : List Rec) (i : Nat) : (clo rs i).length ≤ i := by
  have := List.length_filterMap_le (fun i => if 0 < cnt rs i then some (i, seg rs i (cnt rs i)) else none) (List.range i)
  rw [List.length_range] at this
  exact this
theorem cnt_closes {rs : List Rec} {i : Nat} (h : 0 < cnt rs i) : ∃ s p, rs[i]? = some (.part s p 0) ∧ cnt rs i = min p i + 1 := by
  unfold cnt at *
  cases hr : rs[i]? with
  | none => rw [hr] at h; exact absurd h (by simp [cntO])
  | some r =>
    rw [hr] at h
    cases r with
    | blank => exact absurd h (by simp [cntO])
    | part s p l =>
      cases l with
      | succ l => exact absurd h (by simp [cntO])
      | zero => exact ⟨s, p, rfl, rfl⟩
theorem closers_mem {rs : List Rec} (u : unb rs = true) {c : Nat × List Sgl} (h : c ∈ closers rs) : c.1 < rs.length ∧ c.2.length ≤ c.1 + 1 ∧ 0 < c.2.length := by
  obtain ⟨i, hi, he⟩ := List.mem_filterMap.mp h
  rw [List.mem_range] at hi
  split at he
  · rename_i hc
    cases he
    obtain ⟨s, p, hx, hm⟩ := cnt_closes hc
    have hs := seg_length u hx (m := min p i + 1) (Nat.le_refl _)
    rw [hm]
    exact ⟨hi, by show (seg rs i (min p i + 1)).length ≤ i + 1; rw [hs]; omega, by show 0 < (seg rs i (min p i + 1)).length; rw [hs]; omega⟩
  · cases he
theorem segR_slice {α : Type} (ds : List α) (i m : Nat) (hm : m ≤ i + 1) : (ds.drop (i + 1 - m)).take (i + 1 - (i + 1 - m)) = (ds.take (i + 1)).drop (i + 1 - m) := by
  rw [List.drop_take]
theorem seg_parts {rs : List Rec} {i m : Nat} (h : ∀ r ∈ segR rs i m, ∃ s p l, r = Rec.part s p l) : True := trivial
end HR
namespace HD
open PySem PySem.Spec PyProof.Rows L2
open HR (Sgl Rec dput ddrop dlook Nk parts unb fol isPart asPut Ev D kept cnt seg segR closers flat out clo val F)
theorem atI_nat {α : Type} (ds : List α) (i : Nat) (h : i < ds.length) : atI ds (i : Int) = ds[i]? := by
  unfold atI ixN
  rw [if_pos (by omega), if_pos (by omega)]
  simp
theorem ixN_neg (n k : Nat) (h : 0 < k) (hk : k ≤ n) : ixN n (-(k : Int)) = some (n - k) := by
  unfold ixN
  rw [if_neg (by omega), if_pos (by omega)]
  congr 1
  omega
def isPartI : Rec → Int → Int → Bool
  | .blank, _, _ => false
  | .part _ p l, i, j => decide ((p : Int) = i) && decide ((l : Int) = j)
theorem isPartI_nat (r : Rec) (i j : Nat) : isPartI r i j = isPart r i j := by
  cases r with
  | blank => rfl
  | part s p l => simp [isPartI, isPart, Int.ofNat_inj]
theorem putAll_nk : ∀ (l : List (Str × PyData)), Nk l → putAll l = l := by
  have aux : ∀ (l d : List (Str × PyData)), Nk (d ++ l) → l.foldl (fun d e => dput d e.1 e.2) d = d ++ l := by
    intro l
    induction l with
    | nil => intro d _; simp
    | cons e l ih =>
      intro d h
      have hno : ¬ (d.any fun q => decide (q.1 = e.1)) = true := by
        rw [List.any_eq_true]
        rintro ⟨q, hq, he⟩
        unfold Nk at h
        rw [List.map_append, List.map_cons, List.nodup_append] at h
        exact h.2.2 q.1 (List.mem_map.mpr ⟨q, hq, rfl⟩) e.1 List.mem_cons_self (by simpa using he)
      rw [List.foldl_cons]
      have e1 : dput d e.1 e.2 = d ++ [e] := by unfold dput; rw [if_neg hno]
      rw [e1, ih _ (by rw [List.append_assoc]; exact h), List.append_assoc]
      rfl
  intro l h
  exact aux l [] h
/-- a closed row as data -/
def eClo (c : Nat × List Sgl) : PyData := .tuple [.int (c.1 : Int), eSs c.2]
def cutF : PyData → PyData
  | .tuple ds => .tuple (cutD ds none (some (-2)))
  | d => d
theorem cut_part (s : Sgl) (p l : Nat) : cutF (eRec (.part s p l)) = eSgl s := by
  cases s <;> rfl
theorem cut_seg {rs : List Rec} : (∀ r ∈ rs, ∃ s p l, r = Rec.part s p l) → (rs.map eRec).map cutF = (rs.filterMap Rec.sgl?).map eSgl := by
  induction rs with
  | nil => intro _; rfl
  | cons r rs ih =>
    intro h
    obtain ⟨s, p, l, rfl⟩ := h r List.mem_cons_self
    rw [List.map_cons, List.map_cons, cut_part, ih fun q hq => h q (List.mem_cons_of_mem _ hq)]
    rfl
/-- what was put last, as data -/
def eV : Option (Nat × Str) → PyData
  | some v => .int (v.1 : Int)
  | none => .none
def eD (d : List (Str × Option (Nat × Str))) : List (Str × PyData) := d.map fun e => (e.1, eV e.2)
theorem eD_put (d : List (Str × Option (Nat × Str))) (k : Str) (v : Option (Nat × Str)) : dput (eD d) k (eV v) = eD (dput d k v) := HR.dput_map eV d k v
def eKN (p : Str × Nat) : Str × PyData := (p.1, .int (p.2 : Int))
abbrev keptN (o : Ev) : List (Str × Nat) := kept (fun k v => (k, v.1)) (D o)
def keepF : PyData → Option (Str × PyData)
  | .tuple [.str k, v] => if isN v then none else some (k, v)
  | _ => none
theorem keep_all (d : List (Str × Option (Nat × Str))) : (itemsD (sK (eD d))).filterMap keepF = (kept (fun k v => (k, v.1)) d).map eKN := by
  induction d with
  | nil => rfl
  | cons e d ih =>
    obtain ⟨k, v⟩ := e
    cases v with
    | none => 
      show (itemsD (sK (eD d))).filterMap keepF = _
      rw [ih]; rfl
    | some v =>
      show (k, PyData.int (v.1 : Int)) :: (itemsD (sK (eD d))).filterMap keepF = _
      rw [ih]; rfl
theorem nk_keptN (o : Ev) : Nk ((keptN o).map eKN) := by
  unfold Nk
  rw [List.map_map]
  exact (HR.kept_keys (f := fun k (v : Nat × Str) => (k, v.1)) (fun e => (eKN e).1) (fun _ _ => rfl) (D o)).nodup (HR.nk_D o)
end HD
end
section
namespace HD
open PySem PySem.Spec PyProof.Rows L2
open HR (Sgl Rec dput ddrop dlook Nk parts unb fol isPart asPut Ev D kept seg segR closers flat out clo val F)
section
variable {P : Program} {w : World} {K : PySem.W.Frag} {mg : Str → Option Value} {base : Heap}
abbrev s_is_part : Stmt := topS 21
theorem sc_is_part : FnScope ["record", "place", "left"] ["record", "place", "left"] (defScope s_is_part) := ⟨rfl, rfl, rfl, by decide +kernel, rfl, by decide +kernel, by decide +kernel⟩
def p_is_part (ss : List Sl) (r : Sl) : Prop := ∃ x i j, ss = [.d (eRec x), .d (.int i), .d (.int j)] ∧ r = .d (.bool (isPartI x i j))
theorem ok_is_part (F : Def K mg "is_part" s_is_part ["record", "place", "left"]) : Cal P w K mg base 1 "is_part" ["record", "place", "left"] p_is_part := by
  refine okC F sc_is_part (fun ss r ⟨x, i, j, e, _⟩ => by rw [e]; rfl) fun f cdv A outer s H E hr nd hu => ⟨_, (pss_one (ps_ret (pe_and (pe_cmpR op_ne (pe_ix (k_ixT K rfl) (pv 0) pe_int (fun _ _ => rfl)) pe_str (nomark _)) (pe_and (pe_cmpR op_eq (pe_ix (k_ixT K rfl) (pv 0) (pe_un un_neg pe_int) (fun _ _ => rfl)) (pv 1) (nomark _)) (pe_one (pe_cmpR op_eq (pe_ix (k_ixT K rfl) (pv 0) (pe_un un_neg pe_int) (fun _ _ => rfl)) (pv 2) (nomark _))))))), fun ss r h c D hR => ?_⟩
  obtain ⟨x, i, j, rfl, rfl⟩ := h
  cases x with
  | blank => exact s_ret (ed_and0 (ed_eq (ed_neS (ed_ixT (ed_var rfl) ed_int rfl) ed_str) rfl)) hR
  | part s p l =>
    cases s with
    | put k x => exact s_ret (ed_eq (ed_and (ed_neS (ed_ixT (ed_var rfl) ed_int rfl) ed_str) fun _ => (ed_and (ed_eqI (ed_ixT (ed_var rfl) (ed_neg ed_int) rfl) (ed_var rfl)) fun _ => (ed_eqI (ed_ixT (ed_var rfl) (ed_neg ed_int) rfl) (ed_var rfl)))) rfl) hR
    | drop k => exact s_ret (ed_eq (ed_and (ed_neS (ed_ixT (ed_var rfl) ed_int rfl) ed_str) fun _ => (ed_and (ed_eqI (ed_ixT (ed_var rfl) (ed_neg ed_int) rfl) (ed_var rfl)) fun _ => (ed_eqI (ed_ixT (ed_var rfl) (ed_neg ed_int) rfl) (ed_var rfl)))) rfl) hR
abbrev s_follows : Stmt := topS 31
theorem sc_follows : FnScope ["one", "other"] ["one", "other"] (defScope s_follows) := ⟨rfl, rfl, rfl, by decide +kernel, rfl, by decide +kernel, by decide +kernel⟩
def p_follows (ss : List Sl) (r : Sl) : Prop := ∃ a b, ss = [.d (eRec a), .d (eRec b)] ∧ r = .d (.bool (fol a b))
theorem fol_part (a : Rec) (s : Sgl) (p l : Nat) : (decide ((p : Int) = 0) || isPartI a ((p : Int) - 1) ((l : Int) + 1)) = fol a (.part s p l) := by
  cases p with
  | zero => simp [fol]
  | succ p =>
    have e : isPartI a (((p + 1 : Nat) : Int) - 1) ((l : Int) + 1) = isPart a p (l + 1) := by
      rw [← isPartI_nat]
      congr 1
      omega
    rw [e]
    have : decide (((p + 1 : Nat) : Int) = 0) = decide (p + 1 = 0) := by congr 1; simp; omega
    rw [this]
    cases a <;> rfl
theorem ok_follows (F : Def K mg "follows" s_follows ["one", "other"]) (C_is_part : Cal P w K mg base 1 "is_part" ["record", "place", "left"] p_is_part) : Cal P w K mg base 2 "follows" ["one", "other"] p_follows := by
  refine okC F sc_follows (fun ss r ⟨x, i, e, _⟩ => by rw [e]; rfl) fun f cdv A outer s H E hr nd hu => ⟨_, (pss_one (ps_ret (pe_or (pe_cmpR op_eq (pe_ix (k_ixT K rfl) (pv 1) pe_int (fun _ _ => rfl)) pe_str (nomark _)) (pe_or (pe_cmpR op_eq (pe_ix (k_ixT K rfl) (pv 1) (pe_un un_neg pe_int) (fun _ _ => rfl)) pe_int (nomark _)) (pe_one (pe_cal C_is_part hr (pa_cons (pv 0) (pa_cons (pe_op op_sub (pe_ix (k_ixT K rfl) (pv 1) (pe_un un_neg pe_int) (fun _ _ => rfl)) pe_int) (pa_cons (pe_op op_add (pe_ix (k_ixT K rfl) (pv 1) (pe_un un_neg pe_int) (fun _ _ => rfl)) pe_int) pa_nil))))))))), fun ss r h c D hR => ?_⟩
  obtain ⟨a, b, rfl, rfl⟩ := h
  cases b with
  | blank => exact s_ret (ed_eq (ed_or1 (ed_eq (ed_eqS (ed_ixT (ed_var rfl) ed_int rfl) ed_str) rfl)) (by cases a <;> rfl)) hR
  | part s p l =>
    cases s with
    | put k x => exact s_ret (ed_eq (ed_or (ed_eq (s' := .d (.bool false)) (ed_eqS (ed_ixT (ed_var rfl) ed_int rfl) ed_str) rfl) fun _ => (ed_or (ed_eqI (ed_ixT (ed_var rfl) (ed_neg ed_int) rfl) ed_int) fun _ => (ed_call (ea_cons (ed_var rfl) (ea_cons (ed_sub (ed_ixT (ed_var rfl) (ed_neg ed_int) rfl) ed_int) (ea_cons (ed_add (ed_ixT (ed_var rfl) (ed_neg ed_int) rfl) ed_int) ea_nil))) ⟨a, _, _, rfl, rfl⟩))) (by rw [← fol_part a (.put k x) p l]; rfl)) hR
    | drop k => exact s_ret (ed_eq (ed_or (ed_eq (s' := .d (.bool false)) (ed_eqS (ed_ixT (ed_var rfl) ed_int rfl) ed_str) rfl) fun _ => (ed_or (ed_eqI (ed_ixT (ed_var rfl) (ed_neg ed_int) rfl) ed_int) fun _ => (ed_call (ea_cons (ed_var rfl) (ea_cons (ed_sub (ed_ixT (ed_var rfl) (ed_neg ed_int) rfl) ed_int) (ea_cons (ed_add (ed_ixT (ed_var rfl) (ed_neg ed_int) rfl) ed_int) ea_nil))) ⟨a, _, _, rfl, rfl⟩))) (by rw [← fol_part a (.drop k) p l]; rfl)) hR
abbrev s_unbroken_in : Stmt := topS 32
theorem sc_unbroken_in : FnScope ["records", "one", "other"] ["records"] (defScope s_unbroken_in) := ⟨rfl, rfl, rfl, by decide +kernel, rfl, by decide +kernel, by decide +kernel⟩
def p_unbroken_in (ss : List Sl) (r : Sl) : Prop := ∃ rs : List Rec, rs.length ≤ 1000 ∧ ss = [.d (eRecs rs)] ∧ r = .d (.bool (unb rs))
def deR : PyData → Rec
  | .tuple [.str _] => .blank
  | .tuple [.str _, .str k, .int p, .int l] => .part (.drop k) p.toNat l.toNat
  | .tuple [.str _, .str k, .str x, .int p, .int l] => .part (.put k x) p.toNat l.toNat
  | _ => .blank
theorem deR_eRec (r : Rec) : deR (eRec r) = r := by
  cases r with
  | blank => rfl
  | part s p l => cases s <;> simp [eRec, eRi, deR]
def folF : PyData → Bool
  | .tuple [a, b] => fol (deR a) (deR b)
  | _ => false
theorem unb_zip : ∀ rs : List Rec, ((zipD (rs.map eRec) ((rs.drop 1).map eRec)).map folF).all id = unb rs
  | [] => rfl
  | [a] => rfl
  | a :: b :: r => by
    show (fol (deR (eRec a)) (deR (eRec b)) && ((zipD ((b :: r).map eRec) (r.map eRec)).map folF).all id) = _
    rw [deR_eRec, deR_eRec]
    have := unb_zip (b :: r)
    rw [show (b :: r).drop 1 = r from rfl] at this
    rw [this]; rfl
theorem mem_zipD {ds es : List PyData} {d : PyData} (h : d ∈ zipD ds es) : ∃ a b, a ∈ ds ∧ b ∈ es ∧ d = .tuple [a, b] := by
  obtain ⟨⟨a, b⟩, hp, rfl⟩ := List.mem_map.mp h
  obtain ⟨h1, h2⟩ := List.of_mem_zip hp
  exact ⟨a, b, h1, h2, rfl⟩
theorem ok_unbroken_in (B : Bl mg) (F : Def K mg "unbroken_in" s_unbroken_in ["records"]) (C_follows : Cal P w K mg base 2 "follows" ["one", "other"] p_follows) : Cal P w K mg base 3 "unbroken_in" ["records"] p_unbroken_in := by
  refine okC F sc_unbroken_in (fun ss r ⟨x, i, e, _⟩ => by rw [e]; rfl) fun f cdv A outer s H E hr nd hu => ⟨_, (pss_one (ps_ret (pe_callB (k_all K rfl rfl) (by rfl) B.all (by decide +kernel) (pa_cons (pe_fz (pe_lc (own := [("one", 1), ("other", 2)]) rfl nd (RZ.pi_zipA (by rfl) B.zip (pa_cons (pv 0) (pa_cons (pe_slice (k_slT K rfl) (pv 0) (po_some pe_int) po_none) pa_nil))) (blkOk_by (own := [("one", 1), ("other", 2)]) (N := ["records", "one", "other"]) (sc := defScope s_unbroken_in) (by decide +kernel)) (fun _ _ _ _ _ => (pg_tupK K rfl (n := 2) rfl (pgs_cons (pg_name (i := 1) nd rfl (Or.inl rfl)) (pgs_cons (pg_name (i := 2) nd rfl (Or.inl rfl)) pgs_nil)))) (fun _ _ _ _ _ => pts_nil) (fun _ _ _ _ _ => (pe_cal C_follows hr (pa_cons (pv 1) (pa_cons (pv 2) pa_nil)))))) pa_nil)))), fun ss r h c D hR => ?_⟩
  obtain ⟨rs, hl, rfl, rfl⟩ := h
  refine s_ret (ed_eq (ed_all (bs := (zipD (rs.map eRec) ((rs.drop 1).map eRec)).map folF) (ed_eq (ed_lcm (fun d => .bool (folF d)) (es_zipT (ds := rs.map eRec) (es := (rs.drop 1).map eRec) (ea_cons (ed_var rfl) (ea_cons (ed_eq (ed_slT (ed_var rfl) (eo_some ed_int) eo_none) (by rw [show (1 : Int) = ((1 : Nat) : Int) from rfl, cutD_from, List.map_drop])) ea_nil))) (by simp [zipD]; omega) fun d hd => ?_) (by rw [List.map_map]; rfl))) (by rw [unb_zip])) hR
  obtain ⟨a, b, ha, hb, rfl⟩ := mem_zipD hd
  obtain ⟨x, _, rfl⟩ := List.mem_map.mp ha
  obtain ⟨y, _, rfl⟩ := List.mem_map.mp hb
  exact ⟨_, tc_pair (by decide), ed_eq (ed_call (ea_cons (ed_var rfl) (ea_cons (ed_var rfl) ea_nil)) ⟨x, y, rfl, rfl⟩) (by show Sl.d (.bool (fol x y)) = Sl.d (.bool (fol (deR (eRec x)) (deR (eRec y)))); rw [deR_eRec, deR_eRec])⟩
abbrev s_as_put : Stmt := topS 33
theorem sc_as_put : FnScope ["record"] ["record"] (defScope s_as_put) := ⟨rfl, rfl, rfl, by decide +kernel, rfl, by decide +kernel, by decide +kernel⟩
def p_as_put (ss : List Sl) (r : Sl) : Prop := ∃ k x p l, ss = [.d (eRec (.part (.put k x) p l))] ∧ r = .d (eRec (asPut (.part (.put k x) p l)))
theorem ok_as_put (F : Def K mg "as_put" s_as_put ["record"]) : Cal P w K mg base 1 "as_put" ["record"] p_as_put := by
  refine okC F sc_as_put (fun ss r ⟨x, i, _, _, e, _⟩ => by rw [e]; rfl) fun f cdv A outer s H E hr nd hu => ⟨_, (pss_one (ps_ret (pe_op (k_catA K rfl) (pe_slice (k_slT K rfl) (pv 0) po_none (po_some pe_int)) (pe_tup (pa_cons pe_int (pa_cons pe_int pa_nil)))))), fun ss r h c D hR => ?_⟩
  obtain ⟨k, x, p, l, rfl, rfl⟩ := h
  exact s_ret (ed_eq (ed_catT (ed_slT (ed_var rfl) eo_none (eo_some ed_int)) (ed_tup [.int 0, .int 0] (ea_cons ed_int (ea_cons ed_int ea_nil))) (by simp [cutD, HT.sIx, eRi])) rfl) hR
abbrev s_sure_many : Stmt := topS 26
theorem sc_sure_many : FnScope ["many"] ["many"] (defScope s_sure_many) := ⟨rfl, rfl, rfl, by decide +kernel, rfl, by decide +kernel, by decide +kernel⟩
def p_sure_many (ss : List Sl) (r : Sl) : Prop := ∃ i : Int, 0 ≤ i ∧ ss = [.d (.int i)] ∧ r = .d (.int i)
theorem ok_sure_many (F : Def K mg "sure_many" s_sure_many ["many"]) (C_is_from : Cal P w K mg base 2 "is_from" ["thing", "least"] p_is_from) : Cal P w K mg base 3 "sure_many" ["many"] p_sure_many := by
  refine okC F sc_sure_many (fun ss r ⟨i, _, e, _⟩ => by rw [e]; rfl) fun f cdv A outer s H E hr nd hu => ⟨_, (pss_cons (ps_if (pt_not (pt_val (pe_cal C_is_from hr (pa_cons (pv 0) (pa_cons pe_int pa_nil))))) pss_never pss_nil)
      (pss_one (ps_ret (pv 0)))), fun ss r h c D hR => ?_⟩
  obtain ⟨i, hi, rfl, rfl⟩ := h
  refine q_no (et_eq (et_not (et_val (ed_call (ea_cons (ed_var rfl) (ea_cons ed_int ea_nil)) ⟨i, 0, rfl, hi, rfl⟩))) rfl) ?_
  exact s_ret (ed_var rfl) hR
abbrev s_parts_closed : Stmt := topS 22
theorem sc_parts_closed : FnScope ["records", "number", "own", "many", "far"] ["records", "number"] (defScope s_parts_closed) := ⟨rfl, rfl, rfl, by decide +kernel, rfl, by decide +kernel, by decide +kernel⟩
def p_parts_closed (ss : List Sl) (r : Sl) : Prop := ∃ (rs : List Rec) (i : Nat), unb rs = true ∧ i < rs.length ∧ rs.length ≤ 1000 ∧ ss = [.d (eRecs rs), .d (.int (i : Int))] ∧ r = .d (.int ((HR.cnt rs i : Nat) : Int))
theorem ok_parts_closed (B : Bl mg) (F : Def K mg "parts_closed" s_parts_closed ["records", "number"]) (C_is_part : Cal P w K mg base 1 "is_part" ["record", "place", "left"] p_is_part) : Cal P w K mg base 2 "parts_closed" ["records", "number"] p_parts_closed := by
  refine okC F sc_parts_closed (fun ss r ⟨rs, i, _, _, _, e, _⟩ => by rw [e]; rfl) fun f cdv A outer s H E hr nd hu => ⟨_, (pss_cons (ps_set (i := 2) nd rfl (Or.inr rfl) (pe_ix (k_ixT K rfl) (pv 0) (pv 1) (fun _ _ => rfl)))
      (pss_cons (ps_if (PW.pt (pw_or (pt_cmpR op_eq (pe_ix (k_ixT K rfl) (pv 2) pe_int (fun _ _ => rfl)) pe_str (nomark _)) (pw_or1 (pt_cmpR op_ne (pe_ix (k_ixT K rfl) (pv 2) (pe_un un_neg pe_int) (fun _ _ => rfl)) pe_int (nomark _))))) (pss_one (ps_ret pe_int)) pss_nil)
      (pss_cons (ps_set (i := 3) nd rfl (Or.inl rfl) (pe_callB (call_min2 rfl) (by rfl) B.min (by decide +kernel) (pa_cons (pe_ix (k_ixT K rfl) (pv 2) (pe_un un_neg pe_int) (fun _ _ => rfl)) (pa_cons (pv 1) pa_nil))))
      (pss_cons (ps_if (pt_not (pt_val (pe_callB (k_all K rfl rfl) (by rfl) B.all (by decide +kernel) (pa_cons (pe_fz (pe_lc (own := [("far", 4)]) rfl nd (pi_range2 (by rfl) B.range (pa_cons pe_int (pa_cons (pe_op op_add (pv 3) pe_int) pa_nil))) (blkOk_by (own := [("far", 4)]) (N := ["records", "number", "own", "many", "far"]) (sc := defScope s_parts_closed) (by decide +kernel)) (fun _ _ _ _ _ => (pg_name (i := 4) nd rfl (Or.inl rfl))) (fun _ _ _ _ _ => pts_nil) (fun _ _ _ _ _ => (pe_cal C_is_part hr (pa_cons (pe_ix (k_ixT K rfl) (pv 0) (pe_op op_sub (pv 1) (pv 4)) (fun _ _ => rfl)) (pa_cons (pe_op op_sub (pe_ix (k_ixT K rfl) (pv 2) (pe_un un_neg pe_int) (fun _ _ => rfl)) (pv 4)) (pa_cons (pv 4) pa_nil))))))) pa_nil)))) (pss_one (ps_ret pe_int)) pss_nil)
      (pss_one (ps_ret (pe_op op_add (pv 3) pe_int))))))), fun ss r h c D hR => ?_⟩
  obtain ⟨rs, i, u, hi, hl, rfl, rfl⟩ := h
  have hx : rs[i]? = some rs[i] := List.getElem?_eq_getElem hi
  have hat : atI (rs.map eRec) (i : Int) = some (eRec rs[i]) := by rw [atI_nat _ _ (by simpa using hi), List.getElem?_map, hx]; rfl
  refine q_set (ed_ixT (ed_var rfl) (ed_var rfl) hat) ?_
  have hc : HR.cnt rs i = HR.cntO i (some rs[i]) := by unfold HR.cnt; rw [hx]
  rw [hc] at hR
  generalize hg : rs[i] = x at hR hx
  cases x with
  | blank => exact q_when (et_or1 (et_eq (et_test (ed_eqS (ed_ixT (ed_var rfl) ed_int rfl) ed_str)) rfl)) (fun _ => s_ret ed_int hR) fun z => nomatch z
  | part s p l =>
    cases l with
    | succ l =>
      cases s with
      | put k x => exact q_when (et_eq (b := true) (et_or (et_test (ed_eqS (ed_ixT (ed_var rfl) ed_int rfl) ed_str)) fun _ => (et_test (ed_neI (ed_ixT (ed_var rfl) (ed_neg ed_int) rfl) ed_int))) (by simp; omega)) (fun _ => s_ret ed_int hR) fun z => nomatch z
      | drop k => exact q_when (et_eq (b := true) (et_or (et_test (ed_eqS (ed_ixT (ed_var rfl) ed_int rfl) ed_str)) fun _ => (et_test (ed_neI (ed_ixT (ed_var rfl) (ed_neg ed_int) rfl) ed_int))) (by simp; omega)) (fun _ => s_ret ed_int hR) fun z => nomatch z
    | zero =>
      have hat2 : atI (eRi (.part s p 0)) (-2) = some (.int (p : Int)) := by cases s <;> rfl
      have hnb : Et c (tOr (tTest (tOp rEq (tOp (rIxT K) (tVar 2) (tC (.int 0))) (tC (.str "blank")))) (tTest (tOp rNe (tOp (rIxT K) (tVar 2) (tUn (rU fun i => .int (-i)) (tC (.int 1)))) (tC (.int 0))))) (([Sl.d (eRecs rs), .d (.int (i : Int))] ++ List.replicate 3 Sl.no).set 2 (.d (eRec (.part s p 0)))) [] false := by
        cases s with
        | put k x => exact et_eq (et_or (et_test (ed_eqS (ed_ixT (ed_var rfl) ed_int rfl) ed_str)) fun _ => (et_test (ed_neI (ed_ixT (ed_var rfl) (ed_neg ed_int) rfl) ed_int))) (by rfl)
        | drop k => exact et_eq (et_or (et_test (ed_eqS (ed_ixT (ed_var rfl) ed_int rfl) ed_str)) fun _ => (et_test (ed_neI (ed_ixT (ed_var rfl) (ed_neg ed_int) rfl) ed_int))) (by rfl)
      refine q_no hnb ?_
      refine q_set (s := .d (.int ((min p i : Nat) : Int))) (ed_eq (ed_min2 (ed_ixT (ds := eRi (.part s p 0)) (ed_var rfl) (ed_neg ed_int) hat2) (ed_var rfl)) ?_) ?_
      · congr 2
        split <;> omega
      refine q_no (et_eq (et_not (et_val (ed_all (bs := List.replicate (rangeD 1 (((min p i : Nat) : Int) + 1 - 1).toNat).length true) (ed_eq (ed_lcm (fun _ => .bool true) (es_rng2 (ea_cons ed_int (ea_cons (ed_add (ed_var rfl) ed_int) ea_nil)) (by omega)) (by simp [rangeD]; omega) fun d hd => ?_) (by rw [map_true]))))) (by simp)) ?_
      · obtain ⟨j, hj, rfl⟩ := List.mem_map.mp hd
        rw [List.mem_range] at hj
        have hj' : j + 1 ≤ min p i := by omega
        obtain ⟨s', hs'⟩ := HR.unb_back u hx (j + 1) hj'
        have hlt : i - (j + 1) < rs.length := by omega
        refine ⟨_, tc_name, ?_⟩
        refine ed_eq (ed_call (ea_cons (ed_ixT (ds := rs.map eRec) (d := eRec (.part s' (p - (j + 1)) (0 + (j + 1)))) (ed_var rfl) (ed_sub (ed_var rfl) (ed_var rfl)) ?_) (ea_cons (ed_sub (ed_ixT (ds := eRi (.part s p 0)) (ed_var rfl) (ed_neg ed_int) hat2) (ed_var rfl)) (ea_cons (ed_var rfl) ea_nil))) ⟨_, _, _, rfl, rfl⟩) ?_
        · rw [show (i : Int) - (1 + (j : Int)) = ((i - (j + 1) : Nat) : Int) by omega, atI_nat _ _ (by simpa using hlt), List.getElem?_map, hs']; rfl
        · congr 2
          show (decide (((p - (j + 1) : Nat) : Int) = (p : Int) - (1 + (j : Int))) && decide (((0 + (j + 1) : Nat) : Int) = 1 + (j : Int))) = true
          simp
          omega
      · exact s_ret (ed_eq (ed_add (ed_var rfl) ed_int) (by show Sl.d (.int (((min p i : Nat) : Int) + 1)) = Sl.d (.int ((min p i + 1 : Nat) : Int)); congr 2)) hR
end
end HD
end
section
namespace HD
open PySem PySem.Spec PyProof.Rows L2
open HR (Sgl Rec dput ddrop dlook Nk parts unb fol isPart asPut Ev kept seg segR closers clo flat out val F num tab lst behind isort leKW leNK)
theorem take_map_eRec (rs : List Rec) (i m : Nat) (hm : m ≤ i + 1) : cutD (rs.map eRec) (some (((i + 1 - m : Nat) : Int))) (some ((i + 1 : Nat) : Int)) = (segR rs i m).map eRec := by
  rw [cutD_nat, HR.segR_slice _ _ _ hm]
  unfold HR.segR
  rw [List.map_drop, List.map_take]
theorem take_snoc {α : Type} {l : List α} {i : Nat} {x : α} (h : l[i]? = some x) : l.take (i + 1) = l.take i ++ [x] := by
  rw [List.take_add_one, h]; rfl
theorem num_snoc {i j : Nat} {ss : List Sgl} {s : Sgl} (h : ss[j]? = some s) : num i (ss.take (j + 1)) = num i (ss.take j) ++ [(i + j, s)] := by
  have hj : j < ss.length := (List.getElem?_eq_some_iff.mp h).1
  rw [take_snoc h, HR.num_append, List.length_take, Nat.min_eq_left (by omega)]
  rfl
theorem flat_snoc {cs : List (Nat × List Sgl)} {i : Nat} {x : Nat × List Sgl} (h : cs[i]? = some x) : flat (cs.take (i + 1)) = flat (cs.take i) ++ num (x.1 + 1 - x.2.length) x.2 := by
  rw [take_snoc h]
  unfold HR.flat
  rw [List.flatMap_append]
  simp
theorem flat_take_le (cs : List (Nat × List Sgl)) (i : Nat) : (flat (cs.take i)).length ≤ (flat cs).length := by
  have : flat cs = flat (cs.take i) ++ flat (cs.drop i) := by
    unfold HR.flat
    rw [← List.flatMap_append, List.take_append_drop]
  rw [this, List.length_append]
  omega
theorem flat_part_le {cs : List (Nat × List Sgl)} {i : Nat} {x : Nat × List Sgl} (h : cs[i]? = some x) : (flat (cs.take i)).length + x.2.length ≤ (flat cs).length := by
  have h1 := flat_take_le cs (i + 1)
  rw [flat_snoc h, List.length_append, HR.num_length] at h1
  exact h1
section
variable {P : Program} {w : World} {K : PySem.W.Frag} {mg : Str → Option Value} {base : Heap}
abbrev s_closed_rows : Stmt := topS 23
theorem sc_closed_rows : FnScope ["records", "found", "number", "many", "own"] ["records"] (defScope s_closed_rows) := ⟨rfl, rfl, rfl, by decide +kernel, rfl, by decide +kernel, by decide +kernel⟩
def p_closed_rows (ss : List Sl) (r : Sl) : Prop := ∃ rs : List Rec, unb rs = true ∧ rs.length ≤ 1000 ∧ ss = [.d (eRecs rs)] ∧ r = .d (.list ((closers rs).map eClo))
theorem ok_closed_rows (B : Bl mg) (F : Def K mg "closed_rows" s_closed_rows ["records"]) (C_parts_closed : Cal P w K mg base 2 "parts_closed" ["records", "number"] p_parts_closed) : Cal P w K mg base 3 "closed_rows" ["records"] p_closed_rows := by
  refine okC F sc_closed_rows (fun ss r ⟨rs, _, _, e, _⟩ => by rw [e]; rfl) fun f cdv A outer s H E hr nd hu => ⟨_, (pss_cons (ps_set (i := 1) nd rfl (Or.inl rfl) (pe_lst pa_nil))
      (pss_cons (ps_for PassesOwn.never rfl (pi_range1 (by rfl) B.range (pa_cons (pe_callB (k_len K rfl) (by rfl) B.len boot_len (pa_cons (pv 0) pa_nil)) pa_nil)) (pg_name (i := 2) nd rfl (Or.inl rfl))
      (pss_cons (ps_set (i := 3) nd rfl (Or.inl rfl) (pe_cal C_parts_closed hr (pa_cons (pv 0) (pa_cons (pv 2) pa_nil))))
        (pss_one (ps_if (pt_cmpR op_gt (pv 3) pe_int (nomark _)) (pss_one (ps_expr (pe_bm PySem.F.plainAttrs_list PySem.F.slot_list_append PySem.F.type_list_append mt_append (pv 1) (pa_cons (pe_tup (pa_cons (pv 2) (pa_cons (pe_callTy (k_tupOf K rfl) (by rfl) B.tuple (by decide +kernel) (pa_cons (pe_fz (pe_lc (own := [("own", 4)]) rfl nd (pi_tup (pe_slice (k_slT K rfl) (pv 0) (po_some (pe_op op_sub (pe_op op_add (pv 2) pe_int) (pv 3))) (po_some (pe_op op_add (pv 2) pe_int)))) (blkOk_by (own := [("own", 4)]) (N := ["records", "found", "number", "many", "own"]) (sc := defScope s_closed_rows) (by decide +kernel)) (fun _ _ _ _ _ => (pg_name (i := 4) nd rfl (Or.inl rfl))) (fun _ _ _ _ _ => pts_nil) (fun _ _ _ _ _ => (pe_slice (k_slT K rfl) (pv 4) po_none (po_some (pe_un un_neg pe_int)))))) pa_nil)) pa_nil))) pa_nil)))) pss_nil))))
      (pss_fz (pss_one (ps_ret (pv 1)))))), fun ss r h c D hR => ?_⟩
  obtain ⟨rs, u, hl, rfl, rfl⟩ := h
  refine q_newL fun p => ?_
  refine q_for (es_rng1 (ea_cons (ed_lenT (ed_var rfl)) ea_nil) (by simp only [List.length_map]; omega) (by simp only [List.length_map]; omega)) (fun i δ M => ∃ a b, δ = [.d (eRecs rs), .v (.ref p), a, b, .no] ∧ M = [(p, .lst ((clo rs i).map eClo))]) ⟨.no, .no, rfl, rfl⟩ ?_ ?_
  · intro c' lc i d δ1 M1 hd ⟨a, b, e1, e2⟩
    subst e1 e2
    have hlt : i < rs.length := by
      have := (List.getElem?_eq_some_iff.mp hd).1
      simpa [rangeD] using this
    have hd' := rangeD_get (lo := 0) (n := ((List.map eRec rs).length : Int).toNat) (i := i) (by simpa using hlt)
    rw [hd'] at hd
    cases hd
    refine ⟨_, tg_name, fun N hN => ?_⟩
    rw [Int.zero_add]
    refine q_set (ed_call (ea_cons (ed_var rfl) (ea_cons (ed_var rfl) ea_nil)) ⟨rs, i, u, hlt, hl, rfl, rfl⟩) ?_
    refine s_when (et_eq (b := decide (0 < HR.cnt rs i)) (et_test (ed_gt (ed_var rfl) ed_int)) (by simp)) (fun hb => ?_) (fun hb => ?_)
    · have hb := of_decide_eq_true hb
      obtain ⟨s, q, hx, hm⟩ := HR.cnt_closes hb
      have hp := HR.segR_parts u hx (m := HR.cnt rs i) (by omega)
      have hlen := HR.segR_length (rs := rs) (i := i) (m := HR.cnt rs i) (by omega) hlt
      refine s_app (d := eClo (i, seg rs i (HR.cnt rs i))) rfl (ed_tup [.int (i : Int), eSs (seg rs i (HR.cnt rs i))] (ea_cons (ed_var rfl) (ea_cons (ed_tupL (ed_eq (ed_lcm (ds := (segR rs i (HR.cnt rs i)).map eRec) cutF (es_tup (ed_eq (ed_slT (ds := rs.map eRec) (ed_var rfl) (eo_some (ed_sub (ed_add (ed_var rfl) ed_int) (ed_var rfl))) (eo_some (ed_add (ed_var rfl) ed_int))) ?_)) (by simp; omega) fun d hd => ?_) (by rw [cut_seg hp]; rfl))) ea_nil)) rfl (by simp)) (by rw [List.length_map]; have := HR.clo_le rs i; omega) (hN _ _ ⟨_, _, rfl, ?_⟩)
      · rw [← take_map_eRec rs i _ (by omega)]
        congr 3
        · congr 1
          omega
      · obtain ⟨r, hr, rfl⟩ := List.mem_map.mp hd
        obtain ⟨s', p', l', rfl⟩ := hp r hr
        refine ⟨_, tc_name, ?_⟩
        exact ed_eq (ed_slT (ds := eRi (.part s' p' l')) (ed_var rfl) eo_none (eo_some (ed_neg ed_int))) rfl
      · rw [HR.clo_succ, if_pos hb, List.map_append]; rfl
    · have hb := of_decide_eq_false hb
      refine hN _ _ ⟨_, _, rfl, ?_⟩
      rw [HR.clo_succ, if_neg hb, List.append_nil]
  · intro δ1 M1 ⟨a, b, e1, e2⟩
    subst e1 e2
    rw [show (rangeD 0 ((List.map eRec rs).length : Int).toNat).length = rs.length by simp [rangeD], HR.clo_all]
    exact q_fzL (i := 1) rfl (s_ret (ed_var rfl) hR)
abbrev s_numbers_last : Stmt := topS 27
theorem sc_numbers_last : FnScope ["records", "found", "number", "singles", "first", "far", "own", "key"] ["records"] (defScope s_numbers_last) := ⟨rfl, rfl, rfl, by decide +kernel, rfl, by decide +kernel, by decide +kernel⟩
def p_numbers_last (ss : List Sl) (r : Sl) : Prop := ∃ rs : List Rec, unb rs = true ∧ rs.length ≤ 1000 ∧ ss = [.d (eRecs rs)] ∧ r = .d (.dict (sK ((keptN (out rs)).map eKN)))
theorem ok_numbers_last (B : Bl mg) (F : Def K mg "numbers_last" s_numbers_last ["records"]) (C_closed_rows : Cal P w K mg base 3 "closed_rows" ["records"] p_closed_rows) : Cal P w K mg base 4 "numbers_last" ["records"] p_numbers_last := by
  refine okC F sc_numbers_last (fun ss r ⟨rs, _, _, e, _⟩ => by rw [e]; rfl) fun f cdv A outer s H E hr nd hu => ⟨_, (pss_cons (ps_set (i := 1) nd rfl (Or.inl rfl) pe_dnewK)
      (pss_cons (ps_for PassesOwn.never rfl (pi_list (pe_cal C_closed_rows hr (pa_cons (pv 0) pa_nil))) (pg_tupK K rfl (n := 2) rfl (pgs_cons (pg_name (i := 2) nd rfl (Or.inl rfl)) (pgs_cons (pg_name (i := 3) nd rfl (Or.inl rfl)) pgs_nil)))
      (pss_cons (ps_set (i := 4) nd rfl (Or.inl rfl) (pe_op op_sub (pe_op op_add (pv 2) pe_int) (pe_callB (k_len K rfl) (by rfl) B.len boot_len (pa_cons (pv 3) pa_nil))))
        (pss_one (ps_for PassesOwn.never rfl (pi_enumT (by rfl) B.enumerate (pa_cons (pv 3) pa_nil)) (pg_tupK K rfl (n := 2) rfl (pgs_cons (pg_name (i := 5) nd rfl (Or.inl rfl)) (pgs_cons (pg_name (i := 6) nd rfl (Or.inl rfl)) pgs_nil)))
        (pss_one (ps_dput hu (pv 1) (pe_ix (k_ixT K rfl) (pv 6) pe_int (fun _ _ => rfl)) (pe_ifExp (pt_cmpR op_eq (pe_ix (k_ixT K rfl) (pv 6) pe_int (fun _ _ => rfl)) pe_str (nomark _)) (pe_op op_add (pv 4) (pv 5)) pe_non) rfl))))))
      (pss_fz <| pss_one (ps_ret (pe_fz (pe_dc (own := [("key", 7), ("number", 2)]) rfl nd (pi_items (pv 1)) (blkOk_by (own := [("key", 7), ("number", 2)]) (N := ["records", "found", "number", "singles", "first", "far", "own", "key"]) (sc := defScope s_numbers_last) (by decide +kernel)) (fun _ _ _ _ _ => (pg_tupK K rfl (n := 2) rfl (pgs_cons (pg_name (i := 7) nd rfl (Or.inl rfl)) (pgs_cons (pg_name (i := 2) nd rfl (Or.inl rfl)) pgs_nil)))) (fun _ _ _ _ _ => (pts_one (pt_cmpR op_notN (pv 2) pe_non (nomark _)))) (fun _ _ _ _ _ => (pv 7)) (fun _ _ _ _ _ => (pv 2)))))))), fun ss r h c D hR => ?_⟩
  obtain ⟨rs, u, hl, rfl, rfl⟩ := h
  have hfl := HR.flat_closers u
  have hol := HR.out_le rs
  refine q_newD fun p => ?_
  refine q_for (es_list (ed_call (ea_cons (ed_var rfl) ea_nil) ⟨rs, u, hl, rfl, rfl⟩)) (fun i δ M => ∃ a b c d e, δ = [.d (eRecs rs), .v (.ref p), a, b, c, d, e, .no] ∧ M = [(p, .dct (eD (HR.D (flat ((closers rs).take i)))))]) ⟨_, _, _, _, _, rfl, rfl⟩ ?_ ?_
  · intro c' lc i d δ1 M1 hd ⟨a, b, c1, d1, e1, q1, q2⟩
    subst q1 q2
    rw [List.getElem?_map] at hd
    cases hq : (closers rs)[i]? with
    | none => rw [hq] at hd; cases hd
    | some x =>
      rw [hq] at hd
      cases hd
      obtain ⟨n, sg⟩ := x
      have hm := HR.closers_mem u (List.mem_of_getElem? hq)
      have h1 : n < rs.length := hm.1
      have h2 : sg.length ≤ n + 1 := hm.2.1
      have h3 := flat_part_le hq
      have h3 : (flat ((closers rs).take i)).length + sg.length ≤ (flat (closers rs)).length := h3
      rw [hfl] at h3
      refine ⟨_, tg_pair, fun N hN => ?_⟩
      refine q_set (s := .d (.int ((n + 1 - sg.length : Nat) : Int))) (ed_eq (ed_sub (ed_add (ed_var rfl) ed_int) (ed_lenT (ed_var rfl))) (by rw [List.length_map, show ((n + 1 - sg.length : Nat) : Int) = (n : Int) + 1 - (sg.length : Int) by omega])) ?_
      refine s_for (es_enumT (ds := sg.map eSgl) (ea_cons (ed_var rfl) ea_nil)) (fun j δ M => ∃ d e, δ = [.d (eRecs rs), .v (.ref p), .d (.int (n : Int)), .d (eSs sg), .d (.int ((n + 1 - sg.length : Nat) : Int)), d, e, .no] ∧ M = [(p, .dct (eD (HR.D (flat ((closers rs).take i) ++ num (n + 1 - sg.length) (sg.take j)))))]) ⟨_, _, rfl, by rw [List.take_zero, HR.num_nil, List.append_nil]⟩ ?_ ?_
      · intro c2 lc2 j d2 δ2 M2 hd2 ⟨d3, e3, q1, q2⟩
        subst q1 q2
        obtain ⟨j', x', hx', hd'⟩ := mem_enumD (List.mem_of_getElem? hd2)
        have hjl : j < sg.length := by have := (List.getElem?_eq_some_iff.mp hd2).1; simpa [enumD] using this
        have hs : sg[j]? = some sg[j] := List.getElem?_eq_getElem hjl
        have hd2' : (enumD (sg.map eSgl))[j]? = some (.tuple [.int (j : Int), eSgl sg[j]]) := by simp [enumD, hs]
        rw [hd2'] at hd2
        cases hd2
        have hlen : ((eD (HR.D (flat ((closers rs).take i) ++ num (n + 1 - sg.length) (sg.take j))))).length < 100000 := by
          unfold eD
          rw [List.length_map]
          have q1 := HR.D_le (flat ((closers rs).take i) ++ num (n + 1 - sg.length) (sg.take j))
          rw [List.length_append, HR.num_length, List.length_take] at q1
          omega
        have hnx : ∀ s, sg[j]? = some s → eD (HR.D (flat ((closers rs).take i) ++ num (n + 1 - sg.length) (sg.take (j + 1)))) = dput (eD (HR.D (flat ((closers rs).take i) ++ num (n + 1 - sg.length) (sg.take j)))) s.key (eV (val (n + 1 - sg.length + j, s))) := by
          intro s hs
          rw [num_snoc hs, ← List.append_assoc, HR.D_snoc, ← eD_put]
        refine ⟨_, tg_pair, fun N2 hN2 => ?_⟩
        generalize hsg : sg[j] = s at hs
        cases s with
        | put k x =>
          refine s_dput (k := k) (d := .int (((n + 1 - sg.length : Nat) : Int) + (j : Int))) rfl (ed_if (b := true) (et_eq (et_test (ed_eqS (ed_ixT (ds := eS (.put k x)) (ed_var rfl) ed_int rfl) ed_str)) rfl) (fun _ => (ed_add (ed_var rfl) (ed_var rfl))) fun z => nomatch z) (ed_ixT (ds := eS (.put k x)) (ed_var rfl) ed_int rfl) hlen (hN2 _ _ ⟨_, _, rfl, ?_⟩)
          rw [hnx _ hs]
          rfl
        | drop k =>
          refine s_dput (k := k) (d := .none) rfl (ed_if (b := false) (et_eq (et_test (ed_eqS (ed_ixT (ds := eS (.drop k)) (ed_var rfl) ed_int rfl) ed_str)) rfl) (fun z => nomatch z) fun _ => ed_non) (ed_ixT (ds := eS (.drop k)) (ed_var rfl) ed_int rfl) hlen (hN2 _ _ ⟨_, _, rfl, ?_⟩)
          rw [hnx _ hs]
          rfl
      · intro δ2 M2 ⟨d3, e3, q1, q2⟩
        subst q1 q2
        rw [show (enumD (sg.map eSgl)).length = sg.length by simp [enumD], List.take_length]
        exact hN _ _ ⟨_, _, _, _, _, rfl, by rw [flat_snoc hq]⟩
  · intro δ1 M1 ⟨a, b, c1, d1, e1, q1, q2⟩
    subst q1 q2
    rw [List.length_map, List.take_length, hfl]
    refine q_fzD (i := 1) rfl ?_
    rw [show (keptN (out rs)).map eKN = putAll ((itemsD (sK (eD (HR.D (out rs))))).filterMap keepF) by rw [keep_all, putAll_nk _ (nk_keptN _)]] at hR
    refine s_ret (ed_dc keepF (es_items (ed_var rfl)) (by
      have := HR.D_le (out rs)
      simp [itemsD, sK, eD]
      omega) fun d hd => ?_) hR
    obtain ⟨⟨k0, v0⟩, hkv, rfl⟩ := List.mem_map.mp hd
    obtain ⟨⟨k, v⟩, _, e⟩ := List.mem_map.mp hkv
    cases e
    refine ⟨_, tc_pair (by decide), et_eq (et_test (ed_notN (ed_var rfl))) ?_, fun e he => ?_⟩
    · show (!isN v) = (if isN v then none else some (k, v) : Option (Str × PyData)).isSome
      cases isN v <;> rfl
    · have he : (if isN v then none else some (k, v) : Option (Str × PyData)) = some e := he
      split at he
      · cases he
      · cases he
        exact ⟨ed_var rfl, ed_var rfl⟩
end
end HD
end
section
namespace HD
open PySem PySem.Spec PyProof.Rows L2
open HR (Sgl Rec dput ddrop dlook Nk parts unb fol isPart asPut Ev kept seg segR closers clo flat out val F num tab lst behind isort leKW leNK win carried carry nxt CI)
theorem kept_map {α β γ : Type} (f : Str → α → β) (g : β → γ) (d : List (Str × Option α)) : (kept f d).map g = kept (fun k v => g (f k v)) d := by
  unfold HR.kept
  rw [List.map_filterMap]
  congr 1
  funext e
  cases e.2 <;> rfl
theorem kept_congr {α β : Type} {f g : Str → α → β} {d : List (Str × Option α)} (h : ∀ e ∈ d, ∀ v, e.2 = some v → f e.1 v = g e.1 v) : kept f d = kept g d := by
  unfold HR.kept
  induction d with
  | nil => rfl
  | cons e d ih =>
    have ih := ih fun q hq => h q (List.mem_cons_of_mem _ hq)
    rw [List.filterMap_cons, List.filterMap_cons, ih]
    cases he : e.2 with
    | none => rfl
    | some v => simp only [Option.map_some]; rw [h e List.mem_cons_self v he]
def swapF : PyData → PyData
  | .tuple [k, n] => .tuple [n, k]
  | d => d
theorem swap_all (l : List (Str × Nat)) : (itemsD (sK (l.map eKN))).map swapF = (l.map fun e => (e.2, e.1)).map eNK := by
  induction l with
  | nil => rfl
  | cons e l ih =>
    show PyData.tuple [.int (e.2 : Int), .str e.1] :: (itemsD (sK (l.map eKN))).map swapF = _
    rw [ih]; rfl
theorem mem_items {l : List (Str × Nat)} {d : PyData} (h : d ∈ itemsD (sK (l.map eKN))) : ∃ k n, (k, n) ∈ l ∧ d = .tuple [.str k, .int (n : Int)] := by
  obtain ⟨p, hp, rfl⟩ := List.mem_map.mp h
  obtain ⟨q, hq, rfl⟩ := List.mem_map.mp hp
  obtain ⟨⟨k, n⟩, hr, rfl⟩ := List.mem_map.mp hq
  exact ⟨k, n, hr, rfl⟩
def wordAt (rs : List Rec) (n : Nat) : Str := match rs[n]? with
  | some (.part (.put _ w) _ _) => w
  | _ => ""
def wordF (rs : List Rec) : PyData → PyData
  | .tuple [k, .int n] => .tuple [k, .str (wordAt rs n.toNat)]
  | d => d
theorem word_all (rs : List Rec) (l : List (Str × Nat)) : (itemsD (sK (l.map eKN))).map (wordF rs) = (l.map fun e => (e.1, wordAt rs e.2)).map eKW := by
  induction l with
  | nil => rfl
  | cons e l ih =>
    show PyData.tuple [.str e.1, .str (wordAt rs (e.2 : Int).toNat)] :: (itemsD (sK (l.map eKN))).map (wordF rs) = _
    rw [ih]; rfl
theorem D_at {rs : List Rec} {k : Str} {n : Nat} {x : Str} (h : (k, some (n, x)) ∈ HR.D (out rs)) : ∃ (p l : Nat), rs[n]? = some (Rec.part (.put k x) p l) := by
  have h1 := (HR.look_mem (HR.nk_D (out rs)) k (some (n, x))).mp h
  exact HR.out_at (e := (n, .put k x)) (HR.F_some (HR.D_some.mp h1))
theorem keptN_at {rs : List Rec} {k : Str} {n : Nat} (h : (k, n) ∈ keptN (out rs)) : ∃ (x : Str) (p l : Nat), rs[n]? = some (Rec.part (.put k x) p l) := by
  obtain ⟨⟨k', o⟩, hm, he⟩ := List.mem_filterMap.mp h
  cases o with
  | none => cases he
  | some v =>
    cases he
    obtain ⟨p, l, hp⟩ := D_at (n := v.1) (x := v.2) hm
    exact ⟨v.2, p, l, hp⟩
theorem word_kept (rs : List Rec) : (keptN (out rs)).map (fun e => (e.1, wordAt rs e.2)) = kept (fun k v => (k, v.2)) (HR.D (out rs)) := by
  rw [kept_map]
  refine kept_congr fun e he v hv => ?_
  obtain ⟨k, o⟩ := e
  have hv : o = some v := hv
  subst hv
  obtain ⟨n, x⟩ := v
  obtain ⟨p, l, hp⟩ := D_at he
  show (k, wordAt rs n) = (k, x)
  unfold wordAt
  rw [hp]
theorem kept_le {α β : Type} (f : Str → α → β) (d : List (Str × Option α)) : (kept f d).length ≤ d.length := List.length_filterMap_le _ _
theorem tab_le (rs : List Rec) : (tab (out rs)).length ≤ rs.length := by
  unfold HR.tab
  rw [(HR.isort_perm _).length_eq]
  have h1 := kept_le (fun k (v : Nat × Str) => (k, v.2)) (HR.D (out rs))
  have h2 := HR.D_le (out rs)
  have h3 := HR.out_le rs
  omega
theorem lst_le (rs : List Rec) : (lst (out rs)).length ≤ rs.length := by
  unfold HR.lst
  rw [(HR.isort_perm _).length_eq]
  have h1 := kept_le (fun k (v : Nat × Str) => (v.1, k)) (HR.D (out rs))
  have h2 := HR.D_le (out rs)
  have h3 := HR.out_le rs
  omega
theorem lst_at {rs : List Rec} {n : Nat} {k : Str} (h : (n, k) ∈ lst (out rs)) : ∃ (x : Str) (p l : Nat), rs[n]? = some (Rec.part (.put k x) p l) := by
  obtain ⟨x, hx⟩ := HR.mem_lst.mp h
  obtain ⟨p, l, hp⟩ := HR.out_at (e := (n, .put k x)) (HR.F_some hx)
  exact ⟨x, p, l, hp⟩
theorem tab_at {rs : List Rec} {k x : Str} (h : (k, x) ∈ tab (out rs)) : ∃ (n p l : Nat), rs[n]? = some (Rec.part (.put k x) p l) := by
  have h1 := HR.mem_tab.mp h
  unfold HR.wd at h1
  cases hf : F (out rs) k with
  | none => rw [hf] at h1; cases h1
  | some v =>
    obtain ⟨n, y⟩ := v
    rw [hf] at h1
    cases h1
    obtain ⟨p, l, hp⟩ := HR.out_at (e := (n, .put k y)) (HR.F_some hf)
    exact ⟨n, p, l, hp⟩
/-! shapes -/
theorem shp.str {n : Nat} {x : Str} (h : PyData.strOk x = true) : shp n (.str x) := ⟨by simp [PyData.canLay0, h], by simp [PyData.depth]⟩
theorem okW_str {x : Str} (h : okW x = true) : PyData.strOk x = true := by
  have hx' : (1 ≤ x.length ∧ x.length ≤ 12) ∧ (x.cps.toList.all fun n => signs.cps.toList.contains n) = true := by simpa [okW] using h
  have hs : (signs.cps.toList.all fun n => decide (n < 0x110000)) = true := by decide +kernel
  unfold PyData.strOk
  rw [Array.all_eq_true']
  intro n hn
  have h1 := List.all_eq_true.mp hx'.2 n (by simpa using hn)
  exact List.all_eq_true.mp hs n (by simpa using h1)
theorem shp_eRec {r : Rec} (h : okR r = true) : shp 1 (eRec r) := by
  cases r with
  | blank =>
    refine shp.tuple fun d hd => ?_
    rcases List.mem_cons.mp hd with rfl | hd
    · exact shp.str (by decide +kernel)
    · cases hd
  | part s p l =>
    cases s with
    | put k x =>
      have hw := okS_put (show okS (.put k x) = true from h)
      refine shp.tuple fun d hd => ?_
      rcases List.mem_cons.mp hd with rfl | hd
      · exact shp.str (by decide +kernel)
      rcases List.mem_cons.mp hd with rfl | hd
      · exact shp.str (okW_str hw.1)
      rcases List.mem_cons.mp hd with rfl | hd
      · exact shp.str (okW_str hw.2)
      rcases List.mem_cons.mp hd with rfl | hd
      · exact shp.int
      rcases List.mem_cons.mp hd with rfl | hd
      · exact shp.int
      · cases hd
    | drop k =>
      have hw : okW k = true := h
      refine shp.tuple fun d hd => ?_
      rcases List.mem_cons.mp hd with rfl | hd
      · exact shp.str (by decide +kernel)
      rcases List.mem_cons.mp hd with rfl | hd
      · exact shp.str (okW_str hw)
      rcases List.mem_cons.mp hd with rfl | hd
      · exact shp.int
      rcases List.mem_cons.mp hd with rfl | hd
      · exact shp.int
      · cases hd
theorem shp_eRecs {rs : List Rec} (h : ∀ r ∈ rs, okR r = true) : shp 2 (eRecs rs) := shp.tuple fun d hd => by
  obtain ⟨r, hr, rfl⟩ := List.mem_map.mp hd
  exact shp_eRec (h r hr)
theorem shp_unit : shp 1 (.tuple []) := shp.tuple fun d hd => by cases hd
theorem shp_eNK {p : Nat × Str} (h : PyData.strOk p.2 = true) : shp 1 (eNK p) := shp.tuple fun d hd => by
  rcases List.mem_cons.mp hd with rfl | hd
  · exact shp.int
  rcases List.mem_cons.mp hd with rfl | hd
  · exact shp.str h
  · cases hd
theorem shp_eKW {p : Str × Str} (h : PyData.strOk p.1 = true) (h2 : PyData.strOk p.2 = true) : shp 1 (eKW p) := shp.tuple fun d hd => by
  rcases List.mem_cons.mp hd with rfl | hd
  · exact shp.str h
  rcases List.mem_cons.mp hd with rfl | hd
  · exact shp.str h2
  · cases hd
theorem okR_put {k x : Str} {p l : Nat} (h : okR (.part (.put k x) p l) = true) : okW k = true ∧ okW x = true := okS_put h
theorem shp_lst {rs : List Rec} (h : ∀ r ∈ rs, okR r = true) : shp 2 (eLst (lst (out rs))) := shp.tuple fun d hd => by
  obtain ⟨⟨n, k⟩, hr, rfl⟩ := List.mem_map.mp hd
  obtain ⟨x, p, l, hp⟩ := lst_at hr
  exact shp_eNK (okW_str (okR_put (h _ (List.mem_of_getElem? hp))).1)
theorem shp_tab {rs : List Rec} (h : ∀ r ∈ rs, okR r = true) : shp 2 (eTab (tab (out rs))) := shp.tuple fun d hd => by
  obtain ⟨⟨k, x⟩, hr, rfl⟩ := List.mem_map.mp hd
  obtain ⟨n, p, l, hp⟩ := tab_at hr
  exact shp_eKW (okW_str (okR_put (h _ (List.mem_of_getElem? hp))).1) (okW_str (okR_put (h _ (List.mem_of_getElem? hp))).2)
/-! eqv of data with itself -/
mutual
theorem eqv_self : ∀ d : PyData, d.canLay0 = true → PyData.eqv d d = true
  | .none, _ => by rw [PyData.eqv]
  | .bool b, _ => by rw [PyData.eqv]; simp
  | .int i, _ => by rw [PyData.eqv]; simp
  | .str x, _ => by rw [PyData.eqv]; simp
  | .list xs, h => by rw [PyData.eqv]; exact eqvA_self xs (by simpa [PyData.canLay0] using h)
  | .tuple xs, h => by rw [PyData.eqv]; exact eqvA_self xs (by simpa [PyData.canLay0] using h)
  | .dict kvs, h => by simp [PyData.canLay0] at h
theorem eqvA_self : ∀ xs : List PyData, PyData.canLayAll0 xs = true → PyData.eqvAll xs xs = true
  | [], _ => by rw [PyData.eqvAll]
  | x :: xs, h => by
    rw [PyData.canLayAll0, Bool.and_eq_true] at h
    rw [PyData.eqvAll, eqv_self x h.1, eqvA_self xs h.2]
    rfl
end
theorem eqv_nil_cons (x : PyData) (xs : List PyData) : PyData.eqv (.tuple (x :: xs)) (.tuple []) = false := by
  rw [PyData.eqv, PyData.eqvAll]
  all_goals simp
end HD
end
section
namespace HD
open PySem PySem.Spec PyProof.Rows L2
open HR (Sgl Rec dput ddrop dlook Nk parts unb fol isPart asPut Ev kept seg segR closers clo flat out val F num tab lst behind isort leKW leNK win carried carry nxt CI)
section
variable {K : PySem.W.Frag} {c : Ct} {D : Ends} {δ : List Sl} {M : Mem} {ta tb te tx : TE} {t u : TS} {s s' z : Sl} {ds es : List PyData} {d : PyData}
/-- a, b = [], x -/
theorem q_parL {i j : Nat} (hb : ∀ p, Ed c tb δ ((p, .lst []) :: M) s') (k : ∀ p, Do c D u ((δ.set i (.v (.ref p))).set j s') ((p, .lst []) :: M)) : Do c D (tSeq (tPar i j (tCons (tLst tNil) (tCons tb tNil))) u) δ M := fun σ H w =>
  ⟨Nat.zero_le _, fun p hp => by
    have w1 : Wd c δ ((p, .lst []) :: M) σ (upd H p (.lst [])) := w.newC (m := .lst []) hp ⟨[], upd_same, rfl⟩
    refine hb p σ _ w1 _ fun v H2 s2 hv => ⟨.ref p, v, rfl, ?_⟩
    exact k p _ H2 (((w1.step s2).set (s := .v (.ref p)) rfl i).set hv j)⟩
end
/-- is there room -/
def roomB (rs : List Rec) (ss : List Sgl) : Bool := decide ((tab (out rs)).length + ss.length ≤ rs.length) && decide ((behind (tab (out rs)) ss).length < rs.length)
section
variable {P : Program} {w : World} {K : PySem.W.Frag} {mg : Str → Option Value} {base : Heap}
abbrev s_lasts_in : Stmt := topS 28
theorem sc_lasts_in : FnScope ["records", "key", "number"] ["records"] (defScope s_lasts_in) := ⟨rfl, rfl, rfl, by decide +kernel, rfl, by decide +kernel, by decide +kernel⟩
def p_lasts_in (ss : List Sl) (r : Sl) : Prop := ∃ rs : List Rec, unb rs = true ∧ rs.length ≤ 1000 ∧ ss = [.d (eRecs rs)] ∧ r = .d (eLst (lst (out rs)))
theorem ok_lasts_in (B : Bl mg) (F : Def K mg "lasts_in" s_lasts_in ["records"]) (C_numbers_last : Cal P w K mg base 4 "numbers_last" ["records"] p_numbers_last) : Cal P w K mg base 5 "lasts_in" ["records"] p_lasts_in := by
  refine okC F sc_lasts_in (fun ss r ⟨rs, _, _, e, _⟩ => by rw [e]; rfl) fun f cdv A outer s H E hr nd hu => ⟨_, (pss_one (ps_ret (pe_callTy (k_tupOf K rfl) (by rfl) B.tuple (by decide +kernel) (pa_cons (pe_fz (pe_callB (cr_sortD hr.units) (by rfl) B.sorted (by decide +kernel) (pa_cons (pe_fz (pe_lc (own := [("key", 1), ("number", 2)]) rfl nd (pi_items (pe_cal C_numbers_last hr (pa_cons (pv 0) pa_nil))) (blkOk_by (own := [("key", 1), ("number", 2)]) (N := ["records", "key", "number"]) (sc := defScope s_lasts_in) (by decide +kernel)) (fun _ _ _ _ _ => (pg_tupK K rfl (n := 2) rfl (pgs_cons (pg_name (i := 1) nd rfl (Or.inl rfl)) (pgs_cons (pg_name (i := 2) nd rfl (Or.inl rfl)) pgs_nil)))) (fun _ _ _ _ _ => pts_nil) (fun _ _ _ _ _ => (pe_tup (pa_cons (pv 2) (pa_cons (pv 1) pa_nil)))))) pa_nil))) pa_nil)))), fun ss r h c D hR => ?_⟩
  obtain ⟨rs, u, hl, rfl, rfl⟩ := h
  have h1 := HR.D_le (out rs)
  have h2 := HR.out_le rs
  have h3 : (keptN (out rs)).length ≤ (HR.D (out rs)).length := kept_le (fun k (v : Nat × Str) => (k, v.1)) (HR.D (out rs))
  have e1 : (keptN (out rs)).map (fun e => (e.2, e.1)) = kept (fun k v => (v.1, k)) (HR.D (out rs)) := kept_map _ _ _
  have hn : ((keptN (out rs)).map fun e => (e.2, e.1)).Nodup := by
    rw [e1]
    exact HR.kept_nodup (·.2) (fun _ _ => rfl) (HR.nk_D _)
  have e2 : lst (out rs) = isort leNK ((keptN (out rs)).map fun e => (e.2, e.1)) := by rw [e1]; rfl
  rw [e2] at hR
  refine s_ret (ed_tupL (ed_sortNK hn (ed_eq (ed_lcm swapF (es_items (ed_call (ea_cons (ed_var rfl) ea_nil) ⟨rs, u, hl, rfl, rfl⟩)) (by simp [itemsD, sK]; omega) fun d hd => ?_) (by rw [swap_all])))) hR
  obtain ⟨k, n, _, rfl⟩ := mem_items hd
  exact ⟨_, tc_pair (by decide), ed_tup [.int (n : Int), .str k] (ea_cons (ed_var rfl) (ea_cons (ed_var rfl) ea_nil)) rfl (by simp)⟩
abbrev s_table_in : Stmt := topS 29
theorem sc_table_in : FnScope ["records", "key", "number"] ["records"] (defScope s_table_in) := ⟨rfl, rfl, rfl, by decide +kernel, rfl, by decide +kernel, by decide +kernel⟩
def p_table_in (ss : List Sl) (r : Sl) : Prop := ∃ rs : List Rec, unb rs = true ∧ rs.length ≤ 1000 ∧ ss = [.d (eRecs rs)] ∧ r = .d (pl (eTab (tab (out rs))))
theorem ok_table_in (B : Bl mg) (F : Def K mg "table_in" s_table_in ["records"]) (C_numbers_last : Cal P w K mg base 4 "numbers_last" ["records"] p_numbers_last) : Cal P w K mg base 5 "table_in" ["records"] p_table_in := by
  refine okC F sc_table_in (fun ss r ⟨rs, _, _, e, _⟩ => by rw [e]; rfl) fun f cdv A outer s H E hr nd hu => ⟨_, (pss_one (ps_ret (pe_callTy call_tuple_pl (by rfl) B.tuple (by decide +kernel) (pa_cons (pe_fz (pe_callB (cr_sortD hr.units) (by rfl) B.sorted (by decide +kernel) (pa_cons (pe_fz (pe_lc (own := [("key", 1), ("number", 2)]) rfl nd (pi_items (pe_cal C_numbers_last hr (pa_cons (pv 0) pa_nil))) (blkOk_by (own := [("key", 1), ("number", 2)]) (N := ["records", "key", "number"]) (sc := defScope s_table_in) (by decide +kernel)) (fun _ _ _ _ _ => (pg_tupK K rfl (n := 2) rfl (pgs_cons (pg_name (i := 1) nd rfl (Or.inl rfl)) (pgs_cons (pg_name (i := 2) nd rfl (Or.inl rfl)) pgs_nil)))) (fun _ _ _ _ _ => pts_nil) (fun _ _ _ _ _ => (pe_tup (pa_cons (pv 1) (pa_cons (pe_ix (k_ixT K rfl) (pe_ix (k_ixT K rfl) (pv 0) (pv 2) (fun _ _ => rfl)) pe_int (fun _ _ => rfl)) pa_nil)))))) pa_nil))) pa_nil)))), fun ss r h c D hR => ?_⟩
  obtain ⟨rs, u, hl, rfl, rfl⟩ := h
  have h1 := HR.D_le (out rs)
  have h2 := HR.out_le rs
  have h3 : (keptN (out rs)).length ≤ (HR.D (out rs)).length := kept_le (fun k (v : Nat × Str) => (k, v.1)) (HR.D (out rs))
  have e1 := word_kept rs
  have hn : ((keptN (out rs)).map fun e => (e.1, wordAt rs e.2)).Nodup := by
    rw [e1]
    exact HR.kept_nodup (·.1) (fun _ _ => rfl) (HR.nk_D _)
  have e2 : tab (out rs) = isort leKW ((keptN (out rs)).map fun e => (e.1, wordAt rs e.2)) := by rw [e1]; rfl
  rw [e2] at hR
  refine s_ret (ed_tupPl (ed_sortKW hn (ed_eq (ed_lcm (wordF rs) (es_items (ed_call (ea_cons (ed_var rfl) ea_nil) ⟨rs, u, hl, rfl, rfl⟩)) (by simp [itemsD, sK]; omega) fun d hd => ?_) (by rw [word_all])))) hR
  obtain ⟨k, n, hkn, rfl⟩ := mem_items hd
  obtain ⟨x, p, l, hx⟩ := keptN_at hkn
  have hlt : n < rs.length := (List.getElem?_eq_some_iff.mp hx).1
  refine ⟨_, tc_pair (by decide), ed_eq (ed_tup [.str k, .str x] (ea_cons (ed_var rfl) (ea_cons (ed_ixT (ds := eRi (.part (.put k x) p l)) (ed_ixT (ds := rs.map eRec) (d := eRec (.part (.put k x) p l)) (ed_var rfl) (ed_var rfl) ?_) ed_int rfl) ea_nil)) rfl (by simp)) ?_⟩
  · rw [atI_nat _ _ (by simpa using hlt), List.getElem?_map, hx]; rfl
  · show Sl.d (.tuple [.str k, .str x]) = Sl.d (.tuple [.str k, .str (wordAt rs (n : Int).toNat)])
    have : wordAt rs (n : Int).toNat = x := by
      show wordAt rs n = x
      unfold wordAt
      rw [hx]
    rw [this]
abbrev s_windows_in : Stmt := topS 30
theorem sc_windows_in : FnScope ["records", "writes", "both", "far"] ["records", "writes"] (defScope s_windows_in) := ⟨rfl, rfl, rfl, by decide +kernel, rfl, by decide +kernel, by decide +kernel⟩
def p_windows_in (ss : List Sl) (r : Sl) : Prop := ∃ rs ws : List Rec, rs.length ≤ 1000 ∧ ws.length ≤ 1000 ∧ ss = [.d (eRecs rs), .d (eRecs ws)] ∧ r = .d (.list ((List.range (ws.length + 1)).map fun j => eRecs (win rs ws j)))
def winF (rs ws : List Rec) : PyData → PyData
  | .int j => eRecs (win rs ws j.toNat)
  | d => d
theorem ok_windows_in (B : Bl mg) (F : Def K mg "windows_in" s_windows_in ["records", "writes"]) : Cal P w K mg base 1 "windows_in" ["records", "writes"] p_windows_in := by
  refine okC F sc_windows_in (fun ss r ⟨rs, _, _, _, e, _⟩ => by rw [e]; rfl) fun f cdv A outer s H E hr nd hu => ⟨_, (pss_cons (ps_set (i := 2) nd rfl (Or.inr rfl) (pe_op (k_catA K rfl) (pv 0) (pv 1)))
      (pss_one (ps_ret (pe_fz (pe_lc (own := [("far", 3)]) rfl nd (pi_range1 (by rfl) B.range (pa_cons (pe_op op_add (pe_callB (k_len K rfl) (by rfl) B.len boot_len (pa_cons (pv 1) pa_nil)) pe_int) pa_nil)) (blkOk_by (own := [("far", 3)]) (N := ["records", "writes", "both", "far"]) (sc := defScope s_windows_in) (by decide +kernel)) (fun _ _ _ _ _ => (pg_name (i := 3) nd rfl (Or.inl rfl))) (fun _ _ _ _ _ => pts_nil) (fun _ _ _ _ _ => (pe_slice (k_slT K rfl) (pv 2) (po_some (pv 3)) (po_some (pe_op op_add (pv 3) (pe_callB (k_len K rfl) (by rfl) B.len boot_len (pa_cons (pv 0) pa_nil))))))))))), fun ss r h c D hR => ?_⟩
  obtain ⟨rs, ws, h1, h2, rfl, rfl⟩ := h
  refine q_set (ed_catT (ds := rs.map eRec) (es := ws.map eRec) (ed_var rfl) (ed_var rfl) (by simp; omega)) ?_
  refine s_ret (ed_eq (ed_lcm (winF rs ws) (es_rng1 (ea_cons (ed_add (ed_lenT (ds := ws.map eRec) (ed_var rfl)) ed_int) ea_nil) (by simp only [List.length_map]; omega) (by simp only [List.length_map]; omega)) (by simp [rangeD]; omega) fun d hd => ?_) ?_) hR
  · obtain ⟨j, hj, rfl⟩ := List.mem_map.mp hd
    rw [List.mem_range] at hj
    refine ⟨_, tc_name, ed_eq (ed_slT (ed_var rfl) (eo_some (ed_var rfl)) (eo_some (ed_add (ed_var rfl) (ed_lenT (ds := rs.map eRec) (ed_var rfl))))) ?_⟩
    show _ = Sl.d (.tuple ((((rs ++ ws).drop ((0 : Int) + (j : Int)).toNat).take rs.length).map eRec))
    rw [List.length_map, Int.zero_add, show (j : Int) + (rs.length : Int) = ((j + rs.length : Nat) : Int) by omega, cutD_nat, ← List.map_append, ← List.map_drop, ← List.map_take, show j + rs.length - j = rs.length by omega]
    rfl
  · congr 2
    simp only [rangeD, List.map_map, List.length_map]
    rw [show ((ws.length : Int) + 1).toNat = ws.length + 1 by omega]
    apply List.map_congr_left
    intro j _
    show winF rs ws (.int (0 + (j : Int))) = _
    rw [Int.zero_add]
    rfl
abbrev s_behind_singles : Stmt := topS 24
theorem sc_behind_singles : FnScope ["table", "singles", "words", "own"] ["table", "singles"] (defScope s_behind_singles) := ⟨rfl, rfl, rfl, by decide +kernel, rfl, by decide +kernel, by decide +kernel⟩
def p_behind_singles (ss : List Sl) (r : Sl) : Prop := ∃ (T : List (Str × Str)) (sg : List Sgl), Nk T ∧ T.length ≤ 1000 ∧ sg.length ≤ 1000 ∧ ss = [.d (pl (eTab T)), .d (eSs sg)] ∧ r = .d (eTab (behind T sg))
def bstep (d : List (Str × Str)) (s : Sgl) : List (Str × Str) := match s with | .put k w => dput d k w | .drop k => ddrop d k
theorem bfold_len (sg : List Sgl) : ∀ d : List (Str × Str), (sg.foldl bstep d).length ≤ d.length + sg.length := by
  induction sg with
  | nil => intro d; simp
  | cons s sg ih =>
    intro d
    have h1 := ih (bstep d s)
    have h2 : (bstep d s).length ≤ d.length + 1 := by
      cases s with
      | put k x => exact HR.put_le d k x
      | drop k => exact Nat.le_succ_of_le (List.length_filter_le _ _)
    rw [List.foldl_cons, List.length_cons]
    omega
theorem bfold_snoc {sg : List Sgl} {i : Nat} {s : Sgl} (h : sg[i]? = some s) (T : List (Str × Str)) : (sg.take (i + 1)).foldl bstep T = bstep ((sg.take i).foldl bstep T) s := by
  rw [take_snoc h, List.foldl_append]; rfl
theorem ok_behind_singles (B : Bl mg) (F : Def K mg "behind_singles" s_behind_singles ["table", "singles"]) : Cal P w K mg base 1 "behind_singles" ["table", "singles"] p_behind_singles := by
  refine okC F sc_behind_singles (fun ss r ⟨T, sg, _, _, _, e, _⟩ => by rw [e]; rfl) fun f cdv A outer s H E hr nd hu => ⟨_, (pss_cons (ps_set (i := 2) nd rfl (Or.inl rfl) (pe_callTy (call_dictT rfl) (by rfl) B.dict (by decide +kernel) (pa_cons (pv 0) pa_nil)))
      (pss_cons (ps_for PassesOwn.never rfl (pi_tup (pv 1)) (pg_name (i := 3) nd rfl (Or.inl rfl))
      (pss_one (ps_if (pt_cmpR op_eq (pe_ix (k_ixT K rfl) (pv 3) pe_int (fun _ _ => rfl)) pe_str (nomark _)) (pss_one (ps_dput hu (pv 2) (pe_ix (k_ixT K rfl) (pv 3) pe_int (fun _ _ => rfl)) (pe_ix (k_ixT K rfl) (pv 3) pe_int (fun _ _ => rfl)) rfl)) (pss_one (ps_expr (pe_dpop2 (pv 2) (pe_ix (k_ixT K rfl) (pv 3) pe_int (fun _ _ => rfl)) pe_non ⟨by rfl, by rfl, by rfl, by rfl⟩))))))
      (pss_one (ps_ret (pe_callTy (k_tupOf K rfl) (by rfl) B.tuple (by decide +kernel) (pa_cons (pe_fz (pe_callB (cr_sortSS rfl hr.units) (by rfl) B.sorted (by decide +kernel) (pa_cons (pe_bm0 PySem.F.plainAttrs_dict PySem.F.slot_dict_items PySem.F.type_dict_items mt_itemsK (pv 2)) pa_nil))) pa_nil)))))), fun ss r h c D hR => ?_⟩
  obtain ⟨T, sg, hn, h1, h2, rfl, rfl⟩ := h
  refine q_dictT hn (ed_var rfl) fun p => ?_
  refine q_for (es_tup (ds := sg.map eSgl) (ed_var rfl)) (fun i δ M => ∃ a, δ = [.d (pl (eTab T)), .d (eSs sg), .v (.ref p), a] ∧ M = [(p, .dct (tD ((sg.take i).foldl bstep T)))]) ⟨_, rfl, rfl⟩ ?_ ?_
  · intro c' lc i d δ1 M1 hd ⟨a, q1, q2⟩
    subst q1 q2
    rw [List.getElem?_map] at hd
    cases hq : sg[i]? with
    | none => rw [hq] at hd; cases hd
    | some s =>
      rw [hq] at hd
      cases hd
      have hlen : (tD ((sg.take i).foldl bstep T)).length < 100000 := by
        have := bfold_len (sg.take i) T
        rw [List.length_take] at this
        rw [List.length_map]
        omega
      refine ⟨_, tg_name, fun N hN => ?_⟩
      cases s with
      | put k x =>
        refine s_if (b := true) (et_eq (et_test (ed_eqS (ed_ixT (ds := eS (.put k x)) (ed_var rfl) ed_int rfl) ed_str)) rfl) (fun _ => ?_) fun z => nomatch z
        refine s_dput (k := k) (d := .str x) rfl (ed_ixT (ds := eS (.put k x)) (ed_var rfl) ed_int rfl) (ed_ixT (ds := eS (.put k x)) (ed_var rfl) ed_int rfl) hlen (hN _ _ ⟨_, rfl, ?_⟩)
        rw [bfold_snoc hq]
        exact congrArg (fun z => [(p, Mc.dct z)]) (HR.dput_map PyData.str _ k x)
      | drop k =>
        refine s_if (b := false) (et_eq (et_test (ed_eqS (ed_ixT (ds := eS (.drop k)) (ed_var rfl) ed_int rfl) ed_str)) rfl) (fun z => nomatch z) fun _ => ?_
        refine s_dpop (k := k) (d := .none) rfl (ed_ixT (ds := eS (.drop k)) (ed_var rfl) ed_int rfl) ed_non (hN _ _ ⟨_, rfl, ?_⟩)
        rw [bfold_snoc hq]
        exact congrArg (fun z => [(p, Mc.dct z)]) (HR.ddrop_map PyData.str _ k)
  · intro δ1 M1 ⟨a, q1, q2⟩
    subst q1 q2
    rw [List.length_map, List.take_length]
    exact s_ret (ed_tupL (ed_sortIt (HR.behind_nk sg T hn) rfl)) hR
abbrev s_sure_window : Stmt := topS 35
theorem sc_sure_window : FnScope ["records", "own"] ["records"] (defScope s_sure_window) := ⟨rfl, rfl, rfl, by decide +kernel, rfl, by decide +kernel, by decide +kernel⟩
def p_sure_window (ss : List Sl) (r : Sl) : Prop := ∃ d rs, unb rs = true ∧ (∀ x ∈ rs, okR x = true) ∧ rs.length ≤ 1000 ∧ flatD 2 d = true ∧ tupD d = eRecs rs ∧ ss = [.d d] ∧ r = .d (eRecs rs)
theorem ok_sure_window (F : Def K mg "sure_window" s_sure_window ["records"]) (C_sure_records : Cal P w K mg base 6 "sure_records" ["records"] p_sure_records) (C_unbroken_in : Cal P w K mg base 3 "unbroken_in" ["records"] p_unbroken_in) : Cal P w K mg base 7 "sure_window" ["records"] p_sure_window := by
  refine okC F sc_sure_window (fun ss r ⟨d, g, _, _, _, _, _, e, _⟩ => by rw [e]; rfl) fun f cdv A outer s H E hr nd hu => ⟨_, (pss_cons (ps_set (i := 1) nd rfl (Or.inl rfl) (pe_cal C_sure_records hr (pa_cons (pv 0) pa_nil)))
      (pss_cons (ps_if (pt_not (pt_val (pe_cal C_unbroken_in hr (pa_cons (pv 1) pa_nil)))) pss_never pss_nil)
      (pss_one (ps_ret (pv 1))))), fun ss r h c D hR => ?_⟩
  obtain ⟨d, rs, u, hrs, hl, hf, ht, rfl, rfl⟩ := h
  refine q_set (ed_call (ea_cons (ed_var rfl) ea_nil) ⟨d, rs, hrs, hl, hf, ht, rfl, rfl⟩) ?_
  refine q_no (et_eq (et_not (et_val (ed_call (ea_cons (ed_var rfl) ea_nil) ⟨rs, hl, rfl, rfl⟩))) (by rw [u]; rfl)) ?_
  exact s_ret (ed_var rfl) hR
abbrev s_leaving : Stmt := topS 36
theorem sc_leaving : FnScope ["records", "many", "own", "first", "one"] ["records", "many"] (defScope s_leaving) := ⟨rfl, rfl, rfl, by decide +kernel, rfl, by decide +kernel, by decide +kernel⟩
def p_leaving (ss : List Sl) (r : Sl) : Prop := ∃ d rs, ∃ m : Nat, unb rs = true ∧ (∀ x ∈ rs, okR x = true) ∧ rs.length ≤ 1000 ∧ flatD 2 d = true ∧ tupD d = eRecs rs ∧ ss = [.d d, .d (.int (m : Int))] ∧ r = .d (eLst ((lst (out rs)).filter fun e => decide (e.1 < m)))
def leavF (m : Nat) : PyData → Option PyData
  | .tuple [.int n, k] => if n < (m : Int) then some (.tuple [.int n, k]) else none
  | _ => none
theorem leav_all (m : Nat) (l : List (Nat × Str)) : (l.map eNK).filterMap (leavF m) = (l.filter fun e => decide (e.1 < m)).map eNK := by
  induction l with
  | nil => rfl
  | cons e l ih =>
    have hl : leavF m (eNK e) = if e.1 < m then some (eNK e) else none := by
      show (if (e.1 : Int) < (m : Int) then some (eNK e) else none) = _
      simp only [Int.ofNat_lt]
    rw [List.map_cons, List.filterMap_cons, ih, List.filter_cons, hl]
    by_cases h : e.1 < m
    · simp [h]
    · simp [h]
theorem ok_leaving (B : Bl mg) (F : Def K mg "leaving" s_leaving ["records", "many"]) (C_sure_window : Cal P w K mg base 7 "sure_window" ["records"] p_sure_window) (C_sure_many : Cal P w K mg base 3 "sure_many" ["many"] p_sure_many) (C_lasts_in : Cal P w K mg base 5 "lasts_in" ["records"] p_lasts_in) : CalK P w K mg base 8 "leaving" ["records", "many"] ["many", "records"] g2 p_leaving := by
  refine okCK F sc_leaving (fun f fd Fn => kb2 Fn fun _ _ _ _ _ _ _ _ => rfl) (fun ss r ⟨d, g, m, _, _, _, _, _, e, _⟩ => by rw [e]; rfl) fun f cdv A outer s H E hr nd hu => ⟨_, (pss_cons (ps_asg (pe_tup (pa_cons (pe_cal C_sure_window hr (pa_cons (pv 0) pa_nil)) (pa_cons (pe_cal C_sure_many hr (pa_cons (pv 1) pa_nil)) pa_nil))) (pg_tupK K rfl (n := 2) rfl (pgs_cons (pg_name (i := 2) nd rfl (Or.inl rfl)) (pgs_cons (pg_name (i := 3) nd rfl (Or.inr rfl)) pgs_nil))))
      (pss_one (ps_ret (pe_callTy (k_tupOf K rfl) (by rfl) B.tuple (by decide +kernel) (pa_cons (pe_fz (pe_lc (own := [("one", 4)]) rfl nd (pi_tup (pe_cal C_lasts_in hr (pa_cons (pv 2) pa_nil))) (blkOk_by (own := [("one", 4)]) (N := ["records", "many", "own", "first", "one"]) (sc := defScope s_leaving) (by decide +kernel)) (fun _ _ _ _ _ => (pg_name (i := 4) nd rfl (Or.inl rfl))) (fun _ _ _ _ _ => (pts_one (pt_cmpR op_lt (pe_ix (k_ixT K rfl) (pv 4) pe_int (fun _ _ => rfl)) (pv 3) (nomark _)))) (fun _ _ _ _ _ => (pv 4)))) pa_nil))))), fun ss r h c D hR => ?_⟩
  obtain ⟨d, rs, m, u, hrs, hl, hf, ht, rfl, rfl⟩ := h
  refine q_unp (ed_tup [eRecs rs, .int (m : Int)] (ea_cons (ed_call (ea_cons (ed_var rfl) ea_nil) ⟨d, rs, u, hrs, hl, hf, ht, rfl, rfl⟩) (ea_cons (ed_call (ea_cons (ed_var rfl) ea_nil) ⟨(m : Int), by omega, rfl, rfl⟩) ea_nil)) rfl (by simp)) ?_
  have h1 := lst_le rs
  refine s_ret (ed_eq (ed_tupL (ed_lc (leavF m) (es_tup (ed_call (ea_cons (ed_var rfl) ea_nil) ⟨rs, u, hl, rfl, rfl⟩)) (by simp; omega) fun d hd => ?_)) (by rw [leav_all]; rfl)) hR
  obtain ⟨⟨n, k⟩, _, rfl⟩ := List.mem_map.mp hd
  refine ⟨_, tc_name, et_eq (et_test (ed_lt (ed_ixT (ds := [.int (n : Int), .str k]) (ed_var rfl) ed_int rfl) (ed_var rfl))) ?_, fun e he => ?_⟩
  · show decide ((n : Int) < (m : Int)) = (if (n : Int) < (m : Int) then some (eNK (n, k)) else none : Option PyData).isSome
    by_cases h : (n : Int) < (m : Int) <;> simp [h]
  · have he : (if (n : Int) < (m : Int) then some (eNK (n, k)) else none : Option PyData) = some e := he
    split at he
    · cases he
      exact ed_var rfl
    · cases he
abbrev s_room_in : Stmt := topS 37
theorem sc_room_in : FnScope ["records", "deed", "singles", "table"] ["records", "deed"] (defScope s_room_in) := ⟨rfl, rfl, rfl, by decide +kernel, rfl, by decide +kernel, by decide +kernel⟩
def p_room_in (ss : List Sl) (r : Sl) : Prop := ∃ rs g, unb rs = true ∧ okG g = true ∧ rs.length ≤ 1000 ∧ ss = [.d (eRecs rs), .d (eDeed g)] ∧ r = .d (.bool (roomB rs g.singles))
theorem ok_room_in (B : Bl mg) (F : Def K mg "room_in" s_room_in ["records", "deed"]) (C_singles_of : Cal P w K mg base 1 "singles_of" ["deed"] p_singles_of) (C_table_in : Cal P w K mg base 5 "table_in" ["records"] p_table_in) (C_behind_singles : Cal P w K mg base 1 "behind_singles" ["table", "singles"] p_behind_singles) : Cal P w K mg base 6 "room_in" ["records", "deed"] p_room_in := by
  refine okC F sc_room_in (fun ss r ⟨d, g, _, _, _, e, _⟩ => by rw [e]; rfl) fun f cdv A outer s H E hr nd hu => ⟨_, (pss_cons (ps_par (i := 2) (j := 3) rfl nd rfl rfl (by decide) rfl rfl (pa_cons (pe_cal C_singles_of hr (pa_cons (pv 1) pa_nil)) (pa_cons (pe_cal C_table_in hr (pa_cons (pv 0) pa_nil)) pa_nil)) (by rfl))
      (pss_cons (ps_if (pt_cmpR op_gt (pe_op op_add (pe_callB (k_len K rfl) (by rfl) B.len boot_len (pa_cons (pv 3) pa_nil)) (pe_callB (k_len K rfl) (by rfl) B.len boot_len (pa_cons (pv 2) pa_nil))) (pe_callB (k_len K rfl) (by rfl) B.len boot_len (pa_cons (pv 0) pa_nil)) (nomark _)) (pss_one (ps_ret pe_bl)) pss_nil)
      (pss_one (ps_ret (pe_cmpR op_lt (pe_callB (k_len K rfl) (by rfl) B.len boot_len (pa_cons (pe_cal C_behind_singles hr (pa_cons (pv 3) (pa_cons (pv 2) pa_nil))) pa_nil)) (pe_callB (k_len K rfl) (by rfl) B.len boot_len (pa_cons (pv 0) pa_nil)) (nomark _)))))), fun ss r h c D hR => ?_⟩
  obtain ⟨rs, g, u, hg, hl, rfl, rfl⟩ := h
  have h1 := tab_le rs
  have h2 := okG_len hg
  refine q_par (ed_call (ea_cons (ed_var rfl) ea_nil) ⟨g, rfl, rfl⟩) (ed_call (ea_cons (ed_var rfl) ea_nil) ⟨rs, u, hl, rfl, rfl⟩) ?_
  refine q_when (et_eq (b := decide (rs.length < (tab (out rs)).length + g.singles.length)) (et_test (ed_gt (ed_add (ed_lenT (ds := (tab (out rs)).map eKW) (ed_pl (ed_var rfl))) (ed_lenT (ds := g.singles.map eSgl) (ed_var rfl))) (ed_lenT (ds := rs.map eRec) (ed_var rfl)))) (by simp only [List.length_map]; congr 1; apply propext; omega)) (fun hb => ?_) (fun hb => ?_)
  · have hb := of_decide_eq_true hb
    have e : roomB rs g.singles = false := by unfold roomB; rw [decide_eq_false (by omega)]; rfl
    rw [e] at hR
    exact s_ret ed_bl hR
  · have hb := of_decide_eq_false hb
    have e : roomB rs g.singles = decide ((behind (tab (out rs)) g.singles).length < rs.length) := by unfold roomB; rw [decide_eq_true (show (tab (out rs)).length + g.singles.length ≤ rs.length by omega)]; rfl
    rw [e] at hR
    exact s_ret (ed_eq (ed_lt (ed_lenT (ds := (behind (tab (out rs)) g.singles).map eKW) (ed_call (ea_cons (ed_var rfl) (ea_cons (ed_var rfl) ea_nil)) ⟨tab (out rs), g.singles, HR.tab_nk _, by omega, h2.2, rfl, rfl⟩)) (ed_lenT (ds := rs.map eRec) (ed_var rfl))) (by simp only [List.length_map, Int.ofNat_lt])) hR
end
end HD
end
section
namespace HD
open PySem PySem.Spec PyProof.Rows L2
open HR (Sgl Rec dput ddrop dlook Nk parts unb fol isPart asPut Ev kept seg segR closers clo flat out val F num tab lst behind isort leKW leNK win carried carry nxt CI done)
/-- what stands first among the last words -/
theorem nxt_at {now : List Rec} {x : Nat} {k : Str} {r : List (Nat × Str)} (h : lst (out now) = (x, k) :: r) : ∃ (y : Str) (p l : Nat), now[x]? = some (Rec.part (.put k y) p l) :=
  lst_at (n := x) (k := k) (by rw [h]; exact List.mem_cons_self)
theorem atI_head {α : Type} (x : α) (xs : List α) : atI (x :: xs) 0 = some x := by
  rw [show (0 : Int) = ((0 : Nat) : Int) from rfl, atI_nat _ _ (by simp)]; rfl
theorem nxt_lt {now : List Rec} {m x : Nat} {k : Str} {r : List (Nat × Str)} (h : lst (out now) = (x, k) :: r) (hx : x < m) {y : Str} {p l : Nat} (ha : now[x]? = some (Rec.part (.put k y) p l)) : nxt now m = some (.part (.put k y) 0 0) := by
  unfold HR.nxt
  rw [h]
  show (if x < m then (now[x]?).map asPut else none) = _
  rw [if_pos hx, ha]
  rfl
theorem nxt_ge {now : List Rec} {m x : Nat} {k : Str} {r : List (Nat × Str)} (h : lst (out now) = (x, k) :: r) (hx : ¬ x < m) : nxt now m = none := by
  unfold HR.nxt
  rw [h]
  show (if x < m then (now[x]?).map asPut else none) = _
  rw [if_neg hx]
theorem nxt_nil {now : List Rec} {m : Nat} (h : lst (out now) = []) : nxt now m = none := by
  unfold HR.nxt
  rw [h]
theorem okR_as {k y : Str} {p l : Nat} (h : okR (.part (.put k y) p l) = true) : okR (.part (.put k y) 0 0) = true := h
theorem carried_okR {rs : List Rec} {m : Nat} (h : ∀ x ∈ rs, okR x = true) : ∀ x ∈ carried rs m, okR x = true := by
  have aux : ∀ (f : Nat) (now : List Rec), (∀ x ∈ now, okR x = true) → ∀ x ∈ carry f now m, okR x = true := by
    intro f
    induction f with
    | zero => intro now _ x hx; simp [HR.carry] at hx
    | succ f ih =>
      intro now hn x hx
      cases hq : nxt now m with
      | none => rw [HR.carry_none hq] at hx; cases hx
      | some r =>
        rw [HR.carry_some hq] at hx
        have hr : okR r = true := by
          unfold HR.nxt at hq
          cases hl : lst (out now) with
          | nil => rw [hl] at hq; cases hq
          | cons e t =>
            obtain ⟨x', k⟩ := e
            rw [hl] at hq
            have hq : (if x' < m then (now[x']?).map asPut else none) = some r := hq
            split at hq
            · obtain ⟨y, p, l, ha⟩ := nxt_at hl
              rw [ha] at hq
              cases hq
              exact okR_as (hn _ (List.mem_of_getElem? ha))
            · cases hq
        rcases List.mem_cons.mp hx with rfl | hx
        · exact hr
        · refine ih _ (fun z hz => ?_) x hx
          rcases List.mem_append.mp hz with hz | hz
          · exact hn z (List.mem_of_mem_tail hz)
          · rw [List.mem_singleton.mp hz]; exact hr
  exact aux _ _ h
theorem parts_okR {sg : List Sgl} (h : ∀ s ∈ sg, okS s = true) : ∀ x ∈ parts sg, okR x = true := by
  intro x hx
  unfold HR.parts at hx
  rw [List.mem_mapIdx] at hx
  obtain ⟨i, hi, rfl⟩ := hx
  exact h _ (List.getElem_mem hi)
theorem win_okR {rs ws : List Rec} {j : Nat} (h1 : ∀ x ∈ rs, okR x = true) (h2 : ∀ x ∈ ws, okR x = true) : ∀ x ∈ win rs ws j, okR x = true := by
  intro x hx
  have hx := List.mem_of_mem_drop (List.mem_of_mem_take hx)
  rcases List.mem_append.mp hx with hx | hx
  · exact h1 x hx
  · exact h2 x hx
section
variable {P : Program} {w : World} {K : PySem.W.Frag} {mg : Str → Option Value} {base : Heap}
abbrev s_carried_in : Stmt := topS 38
theorem sc_carried_in : FnScope ["records", "many", "found", "now", "lasts", "own"] ["records", "many"] (defScope s_carried_in) := ⟨rfl, rfl, rfl, by decide +kernel, rfl, by decide +kernel, by decide +kernel⟩
def p_carried_in (ss : List Sl) (r : Sl) : Prop := ∃ rs, ∃ m : Nat, unb rs = true ∧ (∀ x ∈ rs, okR x = true) ∧ rs.length ≤ 1000 ∧ m + (tab (out rs)).length ≤ rs.length ∧ ss = [.d (eRecs rs), .d (.int (m : Int))] ∧ r = .d (eRecs (carried rs m))
theorem ok_carried_in (B : Bl mg) (F : Def K mg "carried_in" s_carried_in ["records", "many"]) (C_lasts_in : Cal P w K mg base 5 "lasts_in" ["records"] p_lasts_in) (C_as_put : Cal P w K mg base 1 "as_put" ["record"] p_as_put) : Cal P w K mg base 6 "carried_in" ["records", "many"] p_carried_in := by
  refine okC F sc_carried_in (fun ss r ⟨rs, m, _, _, _, _, e, _⟩ => by rw [e]; rfl) fun f cdv A outer s H E hr nd hu => ⟨_, (pss_cons (ps_par (i := 2) (j := 3) rfl nd rfl rfl (by decide) rfl rfl (pa_cons (pe_lst pa_nil) (pa_cons (pv 0) pa_nil)) (by rfl))
      (pss_cons (ps_set (i := 4) nd rfl (Or.inl rfl) (pe_cal C_lasts_in hr (pa_cons (pv 3) pa_nil)))
      (pss_cons (ps_while PassesOwn.never (PW.pt (pw_and (pt_cmpR (k_neD K rfl hr.units) (pv 4) (pe_tup pa_nil) (nomark _)) (pw_and1 (pt_cmpR op_lt (pe_ix (k_ixT K rfl) (pe_ix (k_ixT K rfl) (pv 4) pe_int (fun _ _ => rfl)) pe_int (fun _ _ => rfl)) (pv 1) (nomark _)))))
      (pss_cons (ps_set (i := 5) nd rfl (Or.inl rfl) (pe_cal C_as_put hr (pa_cons (pe_ix (k_ixT K rfl) (pv 3) (pe_ix (k_ixT K rfl) (pe_ix (k_ixT K rfl) (pv 4) pe_int (fun _ _ => rfl)) pe_int (fun _ _ => rfl)) (fun _ _ => rfl)) pa_nil)))
        (pss_cons (ps_expr (pe_bm PySem.F.plainAttrs_list PySem.F.slot_list_append PySem.F.type_list_append mt_append (pv 2) (pa_cons (pv 5) pa_nil)))
        (pss_cons (ps_set (i := 3) nd rfl (Or.inl rfl) (pe_op (k_catA K rfl) (pe_slice (k_slT K rfl) (pv 3) (po_some pe_int) po_none) (pe_tup (pa_cons (pv 5) pa_nil))))
        (pss_one (ps_set (i := 4) nd rfl (Or.inl rfl) (pe_cal C_lasts_in hr (pa_cons (pv 3) pa_nil))))))))
      (pss_fz <| pss_one (ps_ret (pe_callTy (k_tupOf K rfl) (by rfl) B.tuple (by decide +kernel) (pa_cons (pv 2) pa_nil))))))), fun ss r h c D hR => ?_⟩
  obtain ⟨rs, m, u, hrs, hl, hL, rfl, rfl⟩ := h
  refine q_parL (s' := .d (eRecs rs)) (fun p => ed_var rfl) fun p => ?_
  refine q_set (ed_call (ea_cons (ed_var rfl) ea_nil) ⟨rs, u, hl, rfl, rfl⟩) ?_
  refine q_while (fun k δ M => ∃ cc now fd a, k + cc = (tab (out rs)).length ∧ CI rs cc now fd ∧ (∀ x ∈ now, okR x = true) ∧ carried rs m = fd ++ carry (rs.length - cc) now m ∧
    δ = [.d (eRecs rs), .d (.int (m : Int)), .v (.ref p), .d (eRecs now), .d (eLst (lst (out now))), a] ∧ M = [(p, .lst (fd.map eRec))]) (tab (out rs)).length ⟨0, rs, [], _, rfl, CI.start u, hrs, rfl, rfl, rfl⟩ ?_
  rintro k δ1 M1 ⟨cc, now, fd, a, hk, I, hok, hcar, q1, q2⟩
  subst q1 q2
  have hend : nxt now m = none → ∀ {δ : List Sl}, δ = [.d (eRecs rs), .d (.int (m : Int)), .v (.ref p), .d (eRecs now), .d (eLst (lst (out now))), a] → carried rs m = fd := fun hn δ _ => by rw [hcar, HR.carry_none hn, List.append_nil]
  cases hls : lst (out now) with
  | nil =>
    refine ⟨false, et_and0 (et_eq (et_test (ed_neD (ed_var rfl) (ed_tup [] ea_nil) (shp.shaped shp_unit) (shp.shaped shp_unit))) (by show (!(PyData.tuple []).eqv (PyData.tuple [])) = false; rw [eqv_self _ shp_unit.1]; rfl)), (fun hb => nomatch hb), fun _ => ?_⟩
    rw [hend (nxt_nil hls) rfl] at hR
    exact q_fzL (i := 2) rfl (s_ret (ed_tupL (ed_var rfl)) hR)
  | cons e t =>
    obtain ⟨x, kk⟩ := e
    obtain ⟨y, pp, ll, ha⟩ := nxt_at hls
    have hsh : shp 2 (eLst ((x, kk) :: t)) := by rw [← hls]; exact shp_lst hok
    have hxl : x < now.length := (List.getElem?_eq_some_iff.mp ha).1
    refine ⟨decide (x < m), et_eq (et_and (et_eq (b := true) (et_test (ed_neD (ed_var rfl) (ed_tup [] ea_nil) (shp.shaped hsh) (shp.shaped shp_unit))) (by show (!(PyData.tuple (eNK (x, kk) :: t.map eNK)).eqv (PyData.tuple [])) = true; rw [eqv_nil_cons]; rfl)) fun _ => (et_test (ed_lt (ed_ixT (ds := [.int (x : Int), .str kk]) (ed_ixT (ds := eNK (x, kk) :: t.map eNK) (ed_var rfl) ed_int (atI_head _ _)) ed_int rfl) (ed_var rfl)))) (by simp), fun hb N hN => ?_, fun hb => ?_⟩
    · have hb := of_decide_eq_true hb
      have hnx := nxt_lt hls hb ha
      obtain ⟨I2, hc2⟩ := I.step hnx hL
      have hlen := I.len
      have htl := tab_le rs
      refine q_set (ed_call (ea_cons (ed_ixT (ds := now.map eRec) (d := eRec (.part (.put kk y) pp ll)) (ed_var rfl) (ed_ixT (ds := [.int (x : Int), .str kk]) (ed_ixT (ds := eNK (x, kk) :: t.map eNK) (ed_var rfl) ed_int (atI_head _ _)) ed_int rfl) ?_) ea_nil) ⟨kk, y, pp, ll, rfl, rfl⟩) ?_
      · rw [atI_nat _ _ (by simpa using hxl), List.getElem?_map, ha]; rfl
      refine q_app (d := eRec (.part (.put kk y) 0 0)) rfl (ed_var rfl) (by rw [List.length_map, I.fl]; omega) ?_
      have e1 : PyData.tuple (cutD (now.map eRec) (some 1) none ++ [eRec (.part (.put kk y) 0 0)]) = eRecs (now.tail ++ [.part (.put kk y) 0 0]) := by
        rw [show (1 : Int) = ((1 : Nat) : Int) from rfl, cutD_from, ← List.map_drop, List.drop_one]
        unfold eRecs
        rw [List.map_append]; rfl
      refine q_set (ed_eq (ed_catT (ed_slT (ds := now.map eRec) (ed_var rfl) (eo_some ed_int) eo_none) (ed_tup [eRec (.part (.put kk y) 0 0)] (ea_cons (ed_var rfl) ea_nil) rfl (by simp)) (by
        rw [show (1 : Int) = ((1 : Nat) : Int) from rfl, cutD_from, List.length_drop, List.length_map]
        simp
        omega)) (congrArg Sl.d e1)) ?_
      refine s_set (ed_call (ea_cons (ed_var rfl) ea_nil) ⟨now.tail ++ [.part (.put kk y) 0 0], I2.un, by rw [I2.len]; omega, rfl, rfl⟩) ?_
      refine hN (k - 1) _ _ (by omega) ⟨cc + 1, now.tail ++ [.part (.put kk y) 0 0], fd ++ [.part (.put kk y) 0 0], _, by omega, I2, fun z hz => ?_, ?_, rfl, by rw [List.map_append]; rfl⟩
      · rcases List.mem_append.mp hz with hz | hz
        · exact hok z (List.mem_of_mem_tail hz)
        · rw [List.mem_singleton.mp hz]; exact okR_as (hok _ (List.mem_of_getElem? ha))
      · rw [hcar, show rs.length - cc = (rs.length - (cc + 1)) + 1 by omega, HR.carry_some hnx, List.append_assoc]
        rfl
    · have hb := of_decide_eq_false hb
      rw [hend (nxt_ge hls hb) rfl] at hR
      exact q_fzL (i := 2) rfl (s_ret (ed_tupL (ed_var rfl)) hR)
abbrev s_room_of : Stmt := topS 40
theorem sc_room_of : FnScope ["records", "own"] ["records"] (defScope s_room_of) := ⟨rfl, rfl, rfl, by decide +kernel, rfl, by decide +kernel, by decide +kernel⟩
def p_room_of (ss : List Sl) (r : Sl) : Prop := ∃ d rs, unb rs = true ∧ (∀ x ∈ rs, okR x = true) ∧ rs.length ≤ 1000 ∧ flatD 2 d = true ∧ tupD d = eRecs rs ∧ ss = [.d d] ∧ r = .d (.int ((rs.length : Int) - ((tab (out rs)).length : Int)))
theorem ok_room_of (F : Def K mg "room_of" s_room_of ["records"]) (B : Bl mg) (C_sure_window : Cal P w K mg base 7 "sure_window" ["records"] p_sure_window) (C_table_in : Cal P w K mg base 5 "table_in" ["records"] p_table_in) : CalK P w K mg base 8 "room_of" ["records"] ["records"] g1 p_room_of := by
  refine okCK F sc_room_of (fun f fd Fn => kb1 Fn fun _ _ _ _ _ _ _ => rfl) (fun ss r ⟨d, g, _, _, _, _, _, e, _⟩ => by rw [e]; rfl) fun f cdv A outer s H E hr nd hu => ⟨_, (pss_cons (ps_set (i := 1) nd rfl (Or.inl rfl) (pe_cal C_sure_window hr (pa_cons (pv 0) pa_nil)))
      (pss_one (ps_ret (pe_op op_sub (pe_callB (k_len K rfl) (by rfl) B.len boot_len (pa_cons (pv 1) pa_nil)) (pe_callB (k_len K rfl) (by rfl) B.len boot_len (pa_cons (pe_cal C_table_in hr (pa_cons (pv 1) pa_nil)) pa_nil)))))), fun ss r h c D hR => ?_⟩
  obtain ⟨d, rs, u, hrs, hl, hf, ht, rfl, rfl⟩ := h
  refine q_set (ed_call (ea_cons (ed_var rfl) ea_nil) ⟨d, rs, u, hrs, hl, hf, ht, rfl, rfl⟩) ?_
  exact s_ret (ed_eq (ed_sub (ed_lenT (ds := rs.map eRec) (ed_var rfl)) (ed_lenT (ds := (tab (out rs)).map eKW) (ed_pl (ed_call (ea_cons (ed_var rfl) ea_nil) ⟨rs, u, hl, rfl, rfl⟩)))) (by simp only [List.length_map])) hR
abbrev s_has_room : Stmt := topS 41
theorem sc_has_room : FnScope ["records", "deed", "own"] ["records", "deed"] (defScope s_has_room) := ⟨rfl, rfl, rfl, by decide +kernel, rfl, by decide +kernel, by decide +kernel⟩
def p_has_room (ss : List Sl) (r : Sl) : Prop := ∃ d rs d2 g, unb rs = true ∧ (∀ x ∈ rs, okR x = true) ∧ rs.length ≤ 1000 ∧ flatD 2 d = true ∧ tupD d = eRecs rs ∧ okG g = true ∧ flatD 3 d2 = true ∧ tupD d2 = eDeed g ∧ ss = [.d d, .d d2] ∧ r = .d (.bool (roomB rs g.singles))
theorem ok_has_room (F : Def K mg "has_room" s_has_room ["records", "deed"]) (C_sure_window : Cal P w K mg base 7 "sure_window" ["records"] p_sure_window) (C_sure_deed : Cal P w K mg base 5 "sure_deed" ["deed"] p_sure_deed) (C_room_in : Cal P w K mg base 6 "room_in" ["records", "deed"] p_room_in) : CalK P w K mg base 8 "has_room" ["records", "deed"] ["deed", "records"] g2 p_has_room := by
  refine okCK F sc_has_room (fun f fd Fn => kb2 Fn fun _ _ _ _ _ _ _ _ => rfl) (fun ss r ⟨d, g, _, _, _, _, _, _, _, _, _, _, e, _⟩ => by rw [e]; rfl) fun f cdv A outer s H E hr nd hu => ⟨_, (pss_cons (ps_set (i := 2) nd rfl (Or.inl rfl) (pe_cal C_sure_window hr (pa_cons (pv 0) pa_nil)))
      (pss_one (ps_ret (pe_cal C_room_in hr (pa_cons (pv 2) (pa_cons (pe_cal C_sure_deed hr (pa_cons (pv 1) pa_nil)) pa_nil)))))), fun ss r h c D hR => ?_⟩
  obtain ⟨d, rs, d2, g, u, hrs, hl, hf, ht, hg, hf2, ht2, rfl, rfl⟩ := h
  refine q_set (ed_call (ea_cons (ed_var rfl) ea_nil) ⟨d, rs, u, hrs, hl, hf, ht, rfl, rfl⟩) ?_
  exact s_ret (ed_call (ea_cons (ed_var rfl) (ea_cons (ed_call (ea_cons (ed_var rfl) ea_nil) ⟨d2, g, hg, hf2, ht2, rfl, rfl⟩) ea_nil)) ⟨rs, g, u, hg, hl, rfl, rfl⟩) hR
abbrev s_writes_in : Stmt := topS 42
theorem sc_writes_in : FnScope ["records", "deed", "parts"] ["records", "deed"] (defScope s_writes_in) := ⟨rfl, rfl, rfl, by decide +kernel, rfl, by decide +kernel, by decide +kernel⟩
def p_writes_in (ss : List Sl) (r : Sl) : Prop := ∃ rs g, unb rs = true ∧ (∀ x ∈ rs, okR x = true) ∧ rs.length ≤ 1000 ∧ okG g = true ∧ g.singles.length + (tab (out rs)).length ≤ rs.length ∧ ss = [.d (eRecs rs), .d (eDeed g)] ∧ r = .d (eRecs (carried rs g.singles.length ++ parts g.singles))
theorem ok_writes_in (B : Bl mg) (F : Def K mg "writes_in" s_writes_in ["records", "deed"]) (C_parts_in : Cal P w K mg base 2 "parts_in" ["deed"] p_parts_in) (C_carried_in : Cal P w K mg base 6 "carried_in" ["records", "many"] p_carried_in) : Cal P w K mg base 7 "writes_in" ["records", "deed"] p_writes_in := by
  refine okC F sc_writes_in (fun ss r ⟨rs, g, _, _, _, _, _, e, _⟩ => by rw [e]; rfl) fun f cdv A outer s H E hr nd hu => ⟨_, (pss_cons (ps_set (i := 2) nd rfl (Or.inl rfl) (pe_cal C_parts_in hr (pa_cons (pv 1) pa_nil)))
      (pss_one (ps_ret (pe_op (k_catA K rfl) (pe_cal C_carried_in hr (pa_cons (pv 0) (pa_cons (pe_callB (k_len K rfl) (by rfl) B.len boot_len (pa_cons (pv 2) pa_nil)) pa_nil))) (pv 2))))), fun ss r h c D hR => ?_⟩
  obtain ⟨rs, g, u, hrs, hl, hg, hL, rfl, rfl⟩ := h
  have h1 := okG_len hg
  have h2 := HR.carried_len u hL
  refine q_set (ed_call (ea_cons (ed_var rfl) ea_nil) ⟨g, hg, rfl, rfl⟩) ?_
  refine s_ret (ed_eq (ed_catT (ds := (carried rs g.singles.length).map eRec) (es := (parts g.singles).map eRec) (ed_call (ea_cons (ed_var rfl) (ea_cons (ed_eq (s' := .d (.int (g.singles.length : Int))) (ed_lenT (ds := (parts g.singles).map eRec) (ed_var rfl)) (by rw [List.length_map, HR.parts_length])) ea_nil)) ⟨rs, g.singles.length, u, hrs, hl, hL, rfl, rfl⟩) (ed_var rfl) (by rw [List.length_map, List.length_map, HR.parts_length]; omega)) (by rw [← List.map_append]; rfl)) hR
abbrev s_window_behind : Stmt := topS 44
theorem sc_window_behind : FnScope ["records", "writes", "own", "more"] ["records", "writes"] (defScope s_window_behind) := ⟨rfl, rfl, rfl, by decide +kernel, rfl, by decide +kernel, by decide +kernel⟩
def p_window_behind (ss : List Sl) (r : Sl) : Prop := ∃ d rs d2 ws, unb rs = true ∧ (∀ x ∈ rs, okR x = true) ∧ rs.length ≤ 1000 ∧ flatD 2 d = true ∧ tupD d = eRecs rs ∧ (∀ x ∈ ws, okR x = true) ∧ ws.length ≤ 1000 ∧ flatD 2 d2 = true ∧ tupD d2 = eRecs ws ∧ ss = [.d d, .d d2] ∧ r = .d (eRecs (win rs ws ws.length))
theorem ok_window_behind (F : Def K mg "window_behind" s_window_behind ["records", "writes"]) (C_sure_window : Cal P w K mg base 7 "sure_window" ["records"] p_sure_window) (C_sure_records : Cal P w K mg base 6 "sure_records" ["records"] p_sure_records) (C_windows_in : Cal P w K mg base 1 "windows_in" ["records", "writes"] p_windows_in) : Cal P w K mg base 8 "window_behind" ["records", "writes"] p_window_behind := by
  refine okC F sc_window_behind (fun ss r ⟨d, g, _, _, _, _, _, _, _, _, _, _, _, e, _⟩ => by rw [e]; rfl) fun f cdv A outer s H E hr nd hu => ⟨_, (pss_cons (ps_par (i := 2) (j := 3) rfl nd rfl rfl (by decide) rfl rfl (pa_cons (pe_cal C_sure_window hr (pa_cons (pv 0) pa_nil)) (pa_cons (pe_cal C_sure_records hr (pa_cons (pv 1) pa_nil)) pa_nil)) (by rfl))
      (pss_one (ps_ret (pe_ix (k_ixL K rfl) (pe_cal C_windows_in hr (pa_cons (pv 2) (pa_cons (pv 3) pa_nil))) (pe_un un_neg pe_int) (fun _ _ => rfl))))), fun ss r h c D hR => ?_⟩
  obtain ⟨d, rs, d2, ws, u, hrs, hl, hf, ht, hws, hl2, hf2, ht2, rfl, rfl⟩ := h
  refine q_par (ed_call (ea_cons (ed_var rfl) ea_nil) ⟨d, rs, u, hrs, hl, hf, ht, rfl, rfl⟩) (ed_call (ea_cons (ed_var rfl) ea_nil) ⟨d2, ws, hws, hl2, hf2, ht2, rfl, rfl⟩) ?_
  refine s_ret (ed_ixL (ed_call (ea_cons (ed_var rfl) (ea_cons (ed_var rfl) ea_nil)) ⟨rs, ws, hl, hl2, rfl, rfl⟩) (ed_neg ed_int) ?_) hR
  unfold atI
  rw [show (-1 : Int) = -((1 : Nat) : Int) from rfl, ixN_neg _ _ (by omega) (by simp)]
  simp
end
end HD
end
section
namespace HD
open PySem PySem.Spec PyProof.Rows L2
open HR (Sgl Rec dput ddrop dlook Nk parts unb fol isPart asPut Ev kept seg segR closers clo flat out val F num tab lst behind isort leKW leNK win carried carry nxt CI done)
def tabF : PyData → PyData
  | .tuple ds => pl (eTab (tab (out (ds.map deR))))
  | d => d
theorem deR_all (rs : List Rec) : (rs.map eRec).map deR = rs := by
  rw [List.map_map]
  conv => rhs; rw [← List.map_id rs]
  apply List.map_congr_left
  intro r _
  exact deR_eRec r
theorem tabF_eRecs (rs : List Rec) : tabF (eRecs rs) = pl (eTab (tab (out rs))) := by
  show pl (eTab (tab (out ((rs.map eRec).map deR)))) = _
  rw [deR_all]
section
variable {P : Program} {w : World} {K : PySem.W.Frag} {mg : Str → Option Value} {base : Heap}
abbrev s_keeps : Stmt := topS 45
theorem sc_keeps : FnScope ["records", "deed", "writes", "own", "told", "more", "tables", "window", "table"] ["records", "deed", "writes"] (defScope s_keeps) := ⟨rfl, rfl, rfl, by decide +kernel, rfl, by decide +kernel, by decide +kernel⟩
def p_keeps (ss : List Sl) (r : Sl) : Prop := ∃ d rs d2 g d3, unb rs = true ∧ (∀ x ∈ rs, okR x = true) ∧ rs.length ≤ 1000 ∧ flatD 2 d = true ∧ tupD d = eRecs rs ∧ okG g = true ∧ flatD 3 d2 = true ∧ tupD d2 = eDeed g ∧
  g.singles.length + (tab (out rs)).length ≤ rs.length ∧ flatD 2 d3 = true ∧ tupD d3 = eRecs (carried rs g.singles.length ++ parts g.singles) ∧ ss = [.d d, .d d2, .d d3] ∧ r = .d (.bool true)
theorem ok_keeps (B : Bl mg) (F : Def K mg "keeps" s_keeps ["records", "deed", "writes"]) (C_sure_window : Cal P w K mg base 7 "sure_window" ["records"] p_sure_window) (C_sure_deed : Cal P w K mg base 5 "sure_deed" ["deed"] p_sure_deed) (C_sure_records : Cal P w K mg base 6 "sure_records" ["records"] p_sure_records) (C_windows_in : Cal P w K mg base 1 "windows_in" ["records", "writes"] p_windows_in) (C_table_in : Cal P w K mg base 5 "table_in" ["records"] p_table_in) (C_singles_of : Cal P w K mg base 1 "singles_of" ["deed"] p_singles_of) (C_behind_singles : Cal P w K mg base 1 "behind_singles" ["table", "singles"] p_behind_singles) : Cal P w K mg base 8 "keeps" ["records", "deed", "writes"] p_keeps := by
  refine okC F sc_keeps (fun ss r ⟨d, _, _, _, _, _, _, _, _, _, _, _, _, _, _, _, e, _⟩ => by rw [e]; rfl) fun f cdv A outer s H E hr nd hu => ⟨_, (pss_cons (ps_set (i := 3) nd rfl (Or.inl rfl) (pe_cal C_sure_window hr (pa_cons (pv 0) pa_nil)))
      (pss_cons (ps_par (i := 4) (j := 5) rfl nd rfl rfl (by decide) rfl rfl (pa_cons (pe_cal C_sure_deed hr (pa_cons (pv 1) pa_nil)) (pa_cons (pe_cal C_sure_records hr (pa_cons (pv 2) pa_nil)) pa_nil)) (by rfl))
      (pss_cons (ps_if (pt_cmpR (k_eqD K rfl hr.units) (pv 5) (pe_tup pa_nil) (nomark _)) (pss_one (ps_ret pe_bl)) pss_nil)
      (pss_cons (ps_set (i := 6) nd rfl (Or.inr rfl) (pe_fz (pe_lc (own := [("window", 7)]) rfl nd (pi_list (pe_cal C_windows_in hr (pa_cons (pv 3) (pa_cons (pv 5) pa_nil)))) (blkOk_by (own := [("window", 7)]) (N := ["records", "deed", "writes", "own", "told", "more", "tables", "window", "table"]) (sc := defScope s_keeps) (by decide +kernel)) (fun _ _ _ _ _ => (pg_name (i := 7) nd rfl (Or.inl rfl))) (fun _ _ _ _ _ => pts_nil) (fun _ _ _ _ _ => (pe_cal C_table_in hr (pa_cons (pv 7) pa_nil))))))
      (pss_cons (ps_if (pt_val (pe_callB (k_any K rfl rfl) (by rfl) B.any (by decide +kernel) (pa_cons (pe_fz (pe_lc (own := [("table", 8)]) rfl nd (pi_list (pe_fz (pe_slice (k_slL K rfl) (pv 6) po_none (po_some (pe_un un_neg pe_int))))) (blkOk_by (own := [("table", 8)]) (N := ["records", "deed", "writes", "own", "told", "more", "tables", "window", "table"]) (sc := defScope s_keeps) (by decide +kernel)) (fun _ _ _ _ _ => (pg_name (i := 8) nd rfl (Or.inl rfl))) (fun _ _ _ _ _ => pts_nil) (fun _ _ _ _ _ => (pe_cmpR (k_neD K rfl hr.units) (pv 8) (pe_ix (k_ixL K rfl) (pv 6) pe_int (fun _ _ => rfl)) (nomark _))))) pa_nil))) (pss_one (ps_ret pe_bl)) pss_nil)
      (pss_one (ps_ret (pe_cmpR (k_eqD K rfl hr.units) (pe_ix (k_ixL K rfl) (pv 6) (pe_un un_neg pe_int) (fun _ _ => rfl)) (pe_cal C_behind_singles hr (pa_cons (pe_ix (k_ixL K rfl) (pv 6) pe_int (fun _ _ => rfl)) (pa_cons (pe_cal C_singles_of hr (pa_cons (pv 4) pa_nil)) pa_nil))) (nomark _))))))))), fun ss r h c D hR => ?_⟩
  obtain ⟨d, rs, d2, g, d3, u, hrs, hl, hf, ht, hg, hf2, ht2, hL, hf3, ht3, rfl, rfl⟩ := h
  have hgl := okG_len hg
  have hcl := HR.carried_len u hL
  have hne : g.singles ≠ [] := fun e => by rw [e] at hgl; exact absurd hgl.1 (by simp)
  have hW := HR.windows u hne hL
  have hXl : (carried rs g.singles.length ++ parts g.singles).length = (carried rs g.singles.length).length + g.singles.length := by rw [List.length_append, HR.parts_length]
  have hXo : ∀ x ∈ carried rs g.singles.length ++ parts g.singles, okR x = true := fun x hx => by
    rcases List.mem_append.mp hx with hx | hx
    · exact carried_okR hrs x hx
    · exact parts_okR (okG_all hg) x hx
  generalize hX : carried rs g.singles.length ++ parts g.singles = X at *
  have hXn : 1 ≤ X.length := by omega
  have htl := tab_le rs
  refine q_set (ed_call (ea_cons (ed_var rfl) ea_nil) ⟨d, rs, u, hrs, hl, hf, ht, rfl, rfl⟩) ?_
  refine q_par (ed_call (ea_cons (ed_var rfl) ea_nil) ⟨d2, g, hg, hf2, ht2, rfl, rfl⟩) (ed_call (ea_cons (ed_var rfl) ea_nil) ⟨d3, X, hXo, by omega, hf3, ht3, rfl, rfl⟩) ?_
  refine q_no (et_eq (et_test (ed_eqD (ed_var rfl) (ed_tup [] ea_nil) (shp.shaped (shp_eRecs hXo)) (shp.shaped shp_unit))) ?_) ?_
  · cases X with
    | nil => exact absurd hXn (by simp)
    | cons a r => exact eqv_nil_cons _ _
  have hwT : ∀ j, j < X.length → tab (out (win rs X j)) = tab (out rs) := fun j hj => by rw [(hW j (by omega)).2.2, if_pos hj]
  have hwE : tab (out (win rs X X.length)) = behind (tab (out rs)) g.singles := by rw [(hW X.length (Nat.le_refl _)).2.2, if_neg (Nat.lt_irrefl _), HR.behind_done (HR.tab_nk _)]
  refine q_set (s := .d (.list ((List.range (X.length + 1)).map fun j => pl (eTab (tab (out (win rs X j))))))) (ed_eq (ed_lcm tabF (es_list (ed_call (ea_cons (ed_var rfl) (ea_cons (ed_var rfl) ea_nil)) ⟨rs, X, hl, by omega, rfl, rfl⟩)) (by simp; omega) fun d hd => ?_) (by
    rw [List.map_map]
    congr 2
    apply List.map_congr_left
    intro j _
    exact tabF_eRecs _)) ?_
  · obtain ⟨j, hj, rfl⟩ := List.mem_map.mp hd
    rw [List.mem_range] at hj
    have hj2 := hW j (by omega)
    refine ⟨_, tc_name, ed_eq (ed_call (ea_cons (ed_var rfl) ea_nil) ⟨win rs X j, hj2.1, by rw [hj2.2.1]; exact hl, rfl, rfl⟩) (by rw [tabF_eRecs])⟩
  have h0 : atI ((List.range (X.length + 1)).map fun j => pl (eTab (tab (out (win rs X j))))) 0 = some (pl (eTab (tab (out rs)))) := by
    rw [show (0 : Int) = ((0 : Nat) : Int) from rfl, atI_nat _ _ (by simp), List.getElem?_map, List.getElem?_range (by omega)]
    show some (pl (eTab (tab (out (win rs X 0))))) = _
    rw [hwT 0 (by omega)]
  have h1 : atI ((List.range (X.length + 1)).map fun j => pl (eTab (tab (out (win rs X j))))) (-1) = some (pl (eTab (behind (tab (out rs)) g.singles))) := by
    unfold atI
    rw [show (-1 : Int) = -((1 : Nat) : Int) from rfl, ixN_neg _ _ (by omega) (by simp)]
    show ((List.range (X.length + 1)).map fun j => pl (eTab (tab (out (win rs X j)))))[((List.range (X.length + 1)).map fun j => pl (eTab (tab (out (win rs X j))))).length - 1]? = _
    rw [List.length_map, List.length_range, show X.length + 1 - 1 = X.length by omega, List.getElem?_map, List.getElem?_range (by omega)]
    show some (pl (eTab (tab (out (win rs X X.length))))) = _
    rw [hwE]
  have hsT := shp_tab hrs
  have hsE : shp 2 (eTab (behind (tab (out rs)) g.singles)) := by rw [← hwE]; exact shp_tab (win_okR hrs hXo)
  have hcut : cutD ((List.range (X.length + 1)).map fun j => pl (eTab (tab (out (win rs X j))))) none (some (-1)) = List.replicate X.length (pl (eTab (tab (out rs)))) := by
    rw [show (-1 : Int) = -((1 : Nat) : Int) from rfl, cutD_but _ _ (by omega), List.length_map, List.length_range, ← List.map_take, List.take_range, show min (X.length + 1 - 1) (X.length + 1) = X.length by omega]
    rw [List.eq_replicate_iff]
    refine ⟨by simp, fun b hb => ?_⟩
    obtain ⟨j, hj, rfl⟩ := List.mem_map.mp hb
    rw [List.mem_range] at hj
    rw [hwT j hj]
  refine q_no (et_eq (et_val (ed_any (bs := List.replicate X.length false) (ed_eq (ed_lcm (ds := List.replicate X.length (pl (eTab (tab (out rs))))) (fun _ => .bool false) (es_list (ed_eq (ed_slL (ed_var rfl) eo_none (eo_some (ed_neg ed_int))) (by rw [hcut]))) (by simp; omega) fun d hd => ?_) (by simp)))) (by simp)) ?_
  · have := List.eq_of_mem_replicate hd
    subst this
    refine ⟨_, tc_name, ed_eq (ed_neD (ed_pl (ed_var rfl)) (ed_pl (ed_ixL (ed_var rfl) ed_int h0)) (shp.shaped hsT) (shp.shaped hsT)) ?_⟩
    rw [eqv_self _ hsT.1]; rfl
  refine s_ret (ed_eq (ed_eqD (ed_pl (ed_ixL (ed_var rfl) (ed_neg ed_int) h1)) (ed_call (ea_cons (ed_ixL (ed_var rfl) ed_int h0) (ea_cons (ed_call (ea_cons (ed_var rfl) ea_nil) ⟨g, rfl, rfl⟩) ea_nil)) ⟨tab (out rs), g.singles, HR.tab_nk _, by omega, hgl.2, rfl, rfl⟩) (shp.shaped hsE) (shp.shaped hsE)) ?_) hR
  rw [eqv_self _ hsE.1]
end
end HD
end
section
namespace HD
open PySem PySem.Spec PyProof.Rows L2
open HR (Sgl Rec dput ddrop dlook Nk parts unb fol isPart asPut Ev kept seg segR closers clo flat out val F num tab lst behind isort leKW leNK win carried carry nxt CI done)
theorem roomB_le {rs : List Rec} {ss : List Sgl} (h : roomB rs ss = true) : ss.length + (tab (out rs)).length ≤ rs.length := by
  unfold roomB at h
  rw [Bool.and_eq_true] at h
  have := of_decide_eq_true h.1
  omega
section
variable {P : Program} {w : World} {K : PySem.W.Frag} {mg : Str → Option Value} {base : Heap}
abbrev s_carried : Stmt := topS 39
theorem sc_carried : FnScope ["records", "many", "own", "first"] ["records", "many"] (defScope s_carried) := ⟨rfl, rfl, rfl, by decide +kernel, rfl, by decide +kernel, by decide +kernel⟩
def p_carried (ss : List Sl) (o : Option Sl) : Prop := ∃ d rs, ∃ m : Nat, unb rs = true ∧ (∀ x ∈ rs, okR x = true) ∧ rs.length ≤ 1000 ∧ flatD 2 d = true ∧ tupD d = eRecs rs ∧ ss = [.d d, .d (.int (m : Int))] ∧
  o = if m + (tab (out rs)).length ≤ rs.length then some (.d (eRecs (carried rs m))) else none
theorem ok_carried {C : Addr} (FC : FullC K mg C) (B : Bl mg) (F : Def K mg "carried" s_carried ["records", "many"]) (C_sure_window : Cal P w K mg base 7 "sure_window" ["records"] p_sure_window) (C_sure_many : Cal P w K mg base 3 "sure_many" ["many"] p_sure_many) (C_table_in : Cal P w K mg base 5 "table_in" ["records"] p_table_in) (C_carried_in : Cal P w K mg base 6 "carried_in" ["records", "many"] p_carried_in) : CalX P w K mg base 8 C "carried" ["records", "many"] ["many", "records"] g2 p_carried := by
  refine okCX F sc_carried (fun f fd Fn => kb2 Fn fun _ _ _ _ _ _ _ _ => rfl) (fun ss r ⟨d, g, m, _, _, _, _, _, e, _⟩ => by rw [e]; rfl) fun f cdv A outer s H E hr nd hu => ⟨_, (pss_cons (ps_par (i := 2) (j := 3) rfl nd rfl rfl (by decide) rfl rfl (pa_cons (pe_cal C_sure_window hr (pa_cons (pv 0) pa_nil)) (pa_cons (pe_cal C_sure_many hr (pa_cons (pv 1) pa_nil)) pa_nil)) (by rfl))
      (pss_cons (ps_if (pt_cmpR op_gt (pe_callB (k_len K rfl) (by rfl) B.len boot_len (pa_cons (pe_cal C_table_in hr (pa_cons (pv 2) pa_nil)) pa_nil)) (pe_op op_sub (pe_callB (k_len K rfl) (by rfl) B.len boot_len (pa_cons (pv 2) pa_nil)) (pv 3)) (nomark _)) (pss_one (ps_raise rfl (takes_of rfl rfl rfl rfl) (pmk_own0 PySem.F.excBase_ValueError FC.xC FC.gC FC.kC (raises_own FC.bC FC.tC) (by exact rfl)))) pss_nil)
      (pss_one (ps_ret (pe_cal C_carried_in hr (pa_cons (pv 2) (pa_cons (pv 3) pa_nil))))))), fun ss o h c D hR hX => ?_⟩
  obtain ⟨d, rs, m, u, hrs, hl, hf, ht, rfl, eo⟩ := h
  have h1 := tab_le rs
  refine q_par (ed_call (ea_cons (ed_var rfl) ea_nil) ⟨d, rs, u, hrs, hl, hf, ht, rfl, rfl⟩) (ed_call (ea_cons (ed_var rfl) ea_nil) ⟨(m : Int), by omega, rfl, rfl⟩) ?_
  refine q_when (et_eq (b := decide (rs.length < m + (tab (out rs)).length)) (et_test (ed_gt (ed_lenT (ds := (tab (out rs)).map eKW) (ed_pl (ed_call (ea_cons (ed_var rfl) ea_nil) ⟨rs, u, hl, rfl, rfl⟩))) (ed_sub (ed_lenT (ds := rs.map eRec) (ed_var rfl)) (ed_var rfl)))) (by simp only [List.length_map]; congr 1; apply propext; omega)) (fun hb => ?_) (fun hb => ?_)
  · have hb := of_decide_eq_true hb
    rw [if_neg (by omega)] at eo
    exact s_full (hX eo)
  · have hb := of_decide_eq_false hb
    rw [if_pos (by omega)] at eo
    exact s_ret (ed_call (ea_cons (ed_var rfl) (ea_cons (ed_var rfl) ea_nil)) ⟨rs, m, u, hrs, hl, by omega, rfl, rfl⟩) (hR _ eo)
abbrev s_writes_for : Stmt := topS 43
theorem sc_writes_for : FnScope ["records", "deed", "own", "told"] ["records", "deed"] (defScope s_writes_for) := ⟨rfl, rfl, rfl, by decide +kernel, rfl, by decide +kernel, by decide +kernel⟩
def p_writes_for (ss : List Sl) (o : Option Sl) : Prop := ∃ d rs d2 g, unb rs = true ∧ (∀ x ∈ rs, okR x = true) ∧ rs.length ≤ 1000 ∧ flatD 2 d = true ∧ tupD d = eRecs rs ∧ okG g = true ∧ flatD 3 d2 = true ∧ tupD d2 = eDeed g ∧ ss = [.d d, .d d2] ∧
  o = if roomB rs g.singles = true then some (.d (eRecs (carried rs g.singles.length ++ parts g.singles))) else none
theorem ok_writes_for {C : Addr} (FC : FullC K mg C) (F : Def K mg "writes_for" s_writes_for ["records", "deed"]) (C_sure_window : Cal P w K mg base 7 "sure_window" ["records"] p_sure_window) (C_sure_deed : Cal P w K mg base 5 "sure_deed" ["deed"] p_sure_deed) (C_room_in : Cal P w K mg base 6 "room_in" ["records", "deed"] p_room_in) (C_writes_in : Cal P w K mg base 7 "writes_in" ["records", "deed"] p_writes_in) : CalX P w K mg base 8 C "writes_for" ["records", "deed"] ["deed", "records"] g2 p_writes_for := by
  refine okCX F sc_writes_for (fun f fd Fn => kb2 Fn fun _ _ _ _ _ _ _ _ => rfl) (fun ss r ⟨d, g, m, _, _, _, _, _, _, _, _, _, e, _⟩ => by rw [e]; rfl) fun f cdv A outer s H E hr nd hu => ⟨_, (pss_cons (ps_set (i := 2) nd rfl (Or.inl rfl) (pe_cal C_sure_window hr (pa_cons (pv 0) pa_nil)))
      (pss_cons (ps_set (i := 3) nd rfl (Or.inl rfl) (pe_cal C_sure_deed hr (pa_cons (pv 1) pa_nil)))
      (pss_cons (ps_if (pt_not (pt_val (pe_cal C_room_in hr (pa_cons (pv 2) (pa_cons (pv 3) pa_nil))))) (pss_one (ps_raise rfl (takes_of rfl rfl rfl rfl) (pmk_own0 PySem.F.excBase_ValueError FC.xC FC.gC FC.kC (raises_own FC.bC FC.tC) (by exact rfl)))) pss_nil)
      (pss_one (ps_ret (pe_cal C_writes_in hr (pa_cons (pv 2) (pa_cons (pv 3) pa_nil)))))))), fun ss o h c D hR hX => ?_⟩
  obtain ⟨d, rs, d2, g, u, hrs, hl, hf, ht, hg, hf2, ht2, rfl, eo⟩ := h
  refine q_set (ed_call (ea_cons (ed_var rfl) ea_nil) ⟨d, rs, u, hrs, hl, hf, ht, rfl, rfl⟩) ?_
  refine q_set (ed_call (ea_cons (ed_var rfl) ea_nil) ⟨d2, g, hg, hf2, ht2, rfl, rfl⟩) ?_
  refine q_when (et_not (et_val (ed_call (ea_cons (ed_var rfl) (ea_cons (ed_var rfl) ea_nil)) ⟨rs, g, u, hg, hl, rfl, rfl⟩))) (fun hb => ?_) (fun hb => ?_)
  · have hb : roomB rs g.singles = false := by simpa using hb
    rw [if_neg (by rw [hb]; exact Bool.false_ne_true)] at eo
    exact s_full (hX eo)
  · have hb : roomB rs g.singles = true := by simpa using hb
    rw [if_pos hb] at eo
    exact s_ret (ed_call (ea_cons (ed_var rfl) (ea_cons (ed_var rfl) ea_nil)) ⟨rs, g, u, hrs, hl, hg, roomB_le hb, rfl, rfl⟩) (hR _ eo)
end
end HD
end
section
/-! ## what is drawn: any of a kind, and at what cost -/
namespace HD
open PySem PySem.Spec PyProof.Rows L2
def Ct.up (c : Ct) (k : Nat) : Ct := { c with z := c.z + k }
theorem Tin.mono {Z Z' : Nat} {H : Hp} {t : Addr} (h : Tin Z H t) (hz : Z ≤ Z') : Tin Z' H t := by
  obtain ⟨x, y, z, e, h1, h2, h3, h4, h5⟩ := h
  exact ⟨x, y, z, e, h1, h2, h3, h4, by omega⟩
structure Lz (c : Ct) (k : Nat) (c' : Ct) : Prop where
  h : c'.H0 = c.H0
  o : c'.own = c.own
  i : Imx c.b c'.b
  z : c'.z = c.z + k
theorem Wd.lz {c c' : Ct} {k j : Nat} {δ : List Sl} {M : Mem} {σ : SSt} {H : Hp} (l : Lz c k c') (w : Wd (c'.up j) δ M σ H) : Wd (c.up (k + j)) δ M σ H :=
  ⟨w.env, w.mem, fun a o n h => w.ent a o (by rw [show (c'.up j).own = c'.own from rfl, l.o]; exact n) (by rw [show (c'.up j).H0 = c'.H0 from rfl, l.h]; exact h),
    fun t ht => (w.own t (by rw [show (c'.up j).own = c'.own from rfl, l.o]; exact ht)).mono (by show c'.z + j ≤ c.z + (k + j); rw [l.z]; omega), l.i.trans w.imb,
    fun q hq => by have := w.fr q hq; rw [show (c'.up j).H0 = c'.H0 from rfl, show (c'.up j).own = c'.own from rfl, l.h, l.o] at this; exact this, w.nd⟩
theorem Wd.up {c : Ct} {δ : List Sl} {M : Mem} {σ : SSt} {H : Hp} (w : Wd c δ M σ H) (k : Nat) : Wd (c.up k) δ M σ H :=
  ⟨w.env, w.mem, w.ent, fun t ht => (w.own t ht).mono (Nat.le_add_right _ _), w.imb, w.fr, w.nd⟩
theorem Wd.ups {c : Ct} {k j : Nat} {δ : List Sl} {M : Mem} {σ : SSt} {H : Hp} (w : Wd (c.up k) δ M σ H) (h : k ≤ j) : Wd (c.up j) δ M σ H :=
  ⟨w.env, w.mem, w.ent, fun t ht => (w.own t ht).mono (Nat.add_le_add_left h _), w.imb, w.fr, w.nd⟩
/-- the world from H on -/
theorem Wd.re {c : Ct} {k : Nat} {δ : List Sl} {M : Mem} {σ : SSt} {H : Hp} (w : Wd (c.up k) δ M σ H) : Wd ⟨c.H0, c.own, H, c.z + k⟩ δ M σ H := ⟨w.env, w.mem, w.ent, w.own, .refl _, w.fr, w.nd⟩
theorem Lz.re {c : Ct} {k : Nat} {δ : List Sl} {M : Mem} {σ : SSt} {H : Hp} (w : Wd (c.up k) δ M σ H) : Lz c k ⟨c.H0, c.own, H, c.z + k⟩ := ⟨rfl, rfl, w.imb, rfl⟩
/-- what x is, from here on -/
def Kn (c : Ct) (x : V) (s : Sl) : Prop := ∀ H, Imx c.b H → s.ok H x
theorem ed_kn {c : Ct} {δ : List Sl} {M : Mem} {x : V} {s : Sl} (h : Kn c x s) : Ed c (tC x) δ M s := fun σ H w Q k => k x H .refl (h H w.imb)
theorem Kn.lz {c c' : Ct} {k : Nat} {x : V} {s : Sl} (h : Kn c x s) (l : Lz c k c') : Kn c' x s := fun H i => h H (l.i.trans i)
def EdN (c : Ct) (k : Nat) (te : TE) (δ : List Sl) (M : Mem) (R : Sl → Prop) : Prop := ∀ σ H, Wd c δ M σ H → ∀ Q : VK, (∀ r v H2, R r → Wd (c.up k) δ M σ H2 → Imx H H2 → r.ok H2 v → Q v H2) → te σ H Q
def EaN (c : Ct) (k : Nat) (ta : TA) (δ : List Sl) (M : Mem) (R : List Sl → Prop) : Prop := ∀ σ H, Wd c δ M σ H → ∀ Q : List V → Hp → Prop, (∀ ss vs H2, R ss → Wd (c.up k) δ M σ H2 → Imx H H2 → SlA H2 ss vs → Q vs H2) → ta σ H Q
def EtN (c : Ct) (k : Nat) (tt : TT) (δ : List Sl) (M : Mem) : Prop := ∀ σ H, Wd c δ M σ H → ∀ Q : Bool → Hp → Prop, (∀ b H2, Wd (c.up k) δ M σ H2 → Imx H H2 → Q b H2) → tt σ H Q
section
variable {K : PySem.W.Frag} {c : Ct} {D : Ends} {δ : List Sl} {M : Mem} {ta tb te tx : TE} {tt : TT} {t u : TS} {s s' z : Sl} {ds es : List PyData} {d : PyData} {k j : Nat} {R R1 Rb : Sl → Prop} {Rs : List Sl → Prop}
theorem n_of (h : Ed c te δ M s) (hs : R s) : EdN c 0 te δ M R := fun σ H w Q q => h σ H w Q fun v H2 s2 hv => q s v H2 hs ((w.step s2).up 0) s2.i hv
theorem n_mono (h : EdN c k te δ M R) (hr : ∀ s, R s → R1 s) (hk : k ≤ j) : EdN c j te δ M R1 := fun σ H w Q q => h σ H w Q fun r v H2 hR w2 i hv => q r v H2 (hr r hR) (w2.ups hk) i hv
theorem n_op1 {r : R2} (ha : EdN c k ta δ M R1) (hk : ∀ c' x s, Lz c k c' → R1 s → Kn c' x s → EdN c' j (tOp r (tC x) tb) δ M R) : EdN c (k + j) (tOp r ta tb) δ M R := fun σ H w Q q =>
  ha σ H w _ fun s x H1 hs w1 i1 hx => hk _ x s (Lz.re w1) hs (fun H i => hx.mono i) σ H1 w1.re Q fun r v H2 hr w2 i2 hv => q r v H2 hr (w2.lz (Lz.re w1)) (i1.trans i2) hv
theorem n_op2 {r : R2} {x : V} (hb : EdN c k tb δ M Rb) (hk : ∀ c' y s, Lz c k c' → Rb s → Kn c' y s → EdN c' j (tOp r (tC x) (tC y)) δ M R) : EdN c (k + j) (tOp r (tC x) tb) δ M R := fun σ H w Q q =>
  hb σ H w _ fun s y H1 hs w1 i1 hy => hk _ y s (Lz.re w1) hs (fun H i => hy.mono i) σ H1 w1.re Q fun r v H2 hr w2 i2 hv => q r v H2 hr (w2.lz (Lz.re w1)) (i1.trans i2) hv
/-- the same, where the outcome is frozen -/
theorem n_opF1 {r : R2} (ha : EdN c k ta δ M R1) (hk : ∀ c' x s, Lz c k c' → R1 s → Kn c' x s → EdN c' j (tFz (tOp r (tC x) tb)) δ M R) : EdN c (k + j) (tFz (tOp r ta tb)) δ M R := fun σ H w Q q =>
  ha σ H w _ fun s x H1 hs w1 i1 hx => hk _ x s (Lz.re w1) hs (fun H i => hx.mono i) σ H1 w1.re Q fun r v H2 hr w2 i2 hv => q r v H2 hr (w2.lz (Lz.re w1)) (i1.trans i2) hv
theorem n_opF2 {r : R2} {x : V} (hb : EdN c k tb δ M Rb) (hk : ∀ c' y s, Lz c k c' → Rb s → Kn c' y s → EdN c' j (tFz (tOp r (tC x) (tC y))) δ M R) : EdN c (k + j) (tFz (tOp r (tC x) tb)) δ M R := fun σ H w Q q =>
  hb σ H w _ fun s y H1 hs w1 i1 hy => hk _ y s (Lz.re w1) hs (fun H i => hy.mono i) σ H1 w1.re Q fun r v H2 hr w2 i2 hv => q r v H2 hr (w2.lz (Lz.re w1)) (i1.trans i2) hv
theorem n_slF {r : V → Option Int → Option Int → Hp → VK → Prop} {tl th : TO} (ha : EdN c k ta δ M R1) (hk : ∀ c' x s, Lz c k c' → R1 s → Kn c' x s → EdN c' j (tFz (tSl r (tC x) tl th)) δ M R) : EdN c (k + j) (tFz (tSl r ta tl th)) δ M R := fun σ H w Q q =>
  ha σ H w _ fun s x H1 hs w1 i1 hx => hk _ x s (Lz.re w1) hs (fun H i => hx.mono i) σ H1 w1.re Q fun r v H2 hr w2 i2 hv => q r v H2 hr (w2.lz (Lz.re w1)) (i1.trans i2) hv
theorem n_slH {r : V → Option Int → Option Int → Hp → VK → Prop} {x : V} (hb : EdN c k tb δ M Rb) (hk : ∀ c' y s, Lz c k c' → Rb s → Kn c' y s → EdN c' j (tFz (tSl r (tC x) tNoPart (tPart (tC y)))) δ M R) : EdN c (k + j) (tFz (tSl r (tC x) tNoPart (tPart tb))) δ M R := fun σ H w Q q =>
  hb σ H w _ fun s y H1 hs w1 i1 hy => hk _ y s (Lz.re w1) hs (fun H i => hy.mono i) σ H1 w1.re Q fun r v H2 hr w2 i2 hv => q r v H2 hr (w2.lz (Lz.re w1)) (i1.trans i2) hv
theorem an_nil (h : Rs []) : EaN c 0 tNil δ M Rs := fun σ H w Q q => q [] [] H h (w.up 0) (.refl H) rfl
theorem an_cons {tr : TA} (ha : EdN c k ta δ M R1) (hr : ∀ c' s, Lz c k c' → R1 s → EaN c' j tr δ M fun ss => Rs (s :: ss)) : EaN c (k + j) (tCons ta tr) δ M Rs := fun σ H w Q q =>
  ha σ H w _ fun s x H1 hs w1 i1 hx => hr _ s (Lz.re w1) hs σ H1 w1.re _ fun ss vs H2 hss w2 i2 hv => q (s :: ss) (x :: vs) H2 hss (w2.lz (Lz.re w1)) (i1.trans i2) ⟨x, vs, rfl, hx.mono i2, hv⟩
theorem an_of {ss : List Sl} {tr : TA} (h : EdA c tr δ M ss) (hs : Rs ss) : EaN c 0 tr δ M Rs := fun σ H w Q q => h σ H w Q fun vs H2 s2 hv => q ss vs H2 hs ((w.step s2).up 0) s2.i hv
theorem n_tup {tr : TA} (h : EaN c k tr δ M Rs) (hr : ∀ ss, Rs ss → ∃ ds : List PyData, ss = ds.map .d ∧ ds.length ≤ 100000 ∧ R (.d (.tuple ds))) : EdN c k (tTup tr) δ M R := fun σ H w Q q =>
  h σ H w _ fun ss vs H1 hss w1 i1 hv => by
    obtain ⟨ds, rfl, hl, hR⟩ := hr ss hss
    have hd := slA_d hv
    refine ⟨by rw [hd.length]; exact Evl.sz_of hl, fun p hp => ?_⟩
    exact q _ _ _ hR (w1.step (.same (Same.new hp))) (i1.trans (.new hp)) ⟨p, vs, rfl, .inl upd_same, DiA.mono (.new hp) _ _ hd⟩
theorem n_call {tr : TA} {pre : List Sl → Sl → Prop} {E : XK} (h : EaN c k tr δ M Rs) (hr : ∀ ss, Rs ss → ∃ z, R z ∧ pre ss z) : EdN c k (tCall (SpD pre) [] E tr) δ M R := fun σ H w Q q =>
  h σ H w _ fun ss vs H1 hss w1 i1 hv => by
    obtain ⟨z, hz, hp⟩ := hr ss hss
    exact ⟨ss, z, hp, by rw [List.append_nil]; exact hv, fun v H2 s2 hr => q z v H2 hz (w1.step (.same s2)) (i1.trans (.same s2)) hr⟩
theorem n_cb {tr : TA} {r : List V → Hp → VK → Prop} (h : EaN c k tr δ M Rs) (hr : ∀ ss, Rs ss → ∃ z, R z ∧ ∀ H vs, SlA H ss vs → ∀ Q : VK, (∀ v H2, Same H H2 → z.ok H2 v → Q v H2) → r vs H Q) : EdN c k (tCB r tr) δ M R := fun σ H w Q q =>
  h σ H w _ fun ss vs H1 hss w1 i1 hv => by
    obtain ⟨z, hz, hp⟩ := hr ss hss
    exact hp H1 vs hv Q fun v H2 s2 hr => q z v H2 hz (w1.step (.same s2)) (i1.trans (.same s2)) hr
theorem tn_test (h : EdN c k te δ M fun s => ∃ b, s = .d (.bool b)) : EtN c k (tTest te) δ M := fun σ H w Q q => h σ H w _ fun s v H2 ⟨b, e⟩ w2 i2 hv => by
  subst e
  exact ⟨b, hv, q b H2 w2 i2⟩
theorem tn_of {b : Bool} (h : Et c tt δ M b) : EtN c 0 tt δ M := fun σ H w Q q => h σ H w Q fun H2 s2 => q b H2 ((w.step s2).up 0) s2.i
theorem tn_or {t2 : TT} (h : EtN c k tt δ M) (h2 : ∀ c', Lz c k c' → EtN c' j t2 δ M) : EtN c (k + j) (tOr tt t2) δ M := fun σ H w Q q => h σ H w _ fun b H1 w1 i1 => by
  cases b with
  | true => exact q true H1 (w1.ups (Nat.le_add_right _ _)) i1
  | false => exact h2 _ (Lz.re w1) σ H1 w1.re Q fun b H2 w2 i2 => q b H2 (w2.lz (Lz.re w1)) (i1.trans i2)
theorem n_if (h : EtN c k tt δ M) (h1 : ∀ c', Lz c k c' → EdN c' j ta δ M R) (h2 : ∀ c', Lz c k c' → EdN c' j tb δ M R) : EdN c (k + j) (tIf tt ta tb) δ M R := fun σ H w Q q => h σ H w _ fun b H1 w1 i1 => by
  cases b with
  | true => exact h1 _ (Lz.re w1) σ H1 w1.re Q fun r v H2 hr w2 i2 hv => q r v H2 hr (w2.lz (Lz.re w1)) (i1.trans i2) hv
  | false => exact h2 _ (Lz.re w1) σ H1 w1.re Q fun r v H2 hr w2 i2 hv => q r v H2 hr (w2.lz (Lz.re w1)) (i1.trans i2) hv
theorem s_setN {i : Nat} (h : EdN c k te δ M R) (kk : ∀ s, R s → Nx (c.up k) D.nx (δ.set i s) M) : Do c D (tAsg te (gName i)) δ M := fun σ H w => h σ H w _ fun r v H2 hr w2 i2 hv => kk r hr _ H2 (w2.set hv i)
theorem q_setN {i : Nat} (h : EdN c k te δ M R) (kk : ∀ s, R s → Do (c.up k) D u (δ.set i s) M) : Do c D (tSeq (tAsg te (gName i)) u) δ M := s_setN (D := { D with nx := u D }) h kk
theorem s_retN (h : EdN c k te δ M R) (kk : ∀ s, R s → Rt (c.up k) D.rt s) : Do c D (tRet te) δ M := fun σ H w => h σ H w _ fun r v H2 hr w2 i2 hv => kk r hr δ M σ H2 v w2 hv
theorem q_whenN (h : EtN c k tt δ M) (h1 : Do (c.up k) { D with nx := u D } t δ M) (h2 : Do (c.up k) D u δ M) : Do c D (tSeq (tIfS tt t tNext) u) δ M := fun σ H w => h σ H w _ fun b H2 w2 i2 => by
  cases b with
  | true => exact h1 σ H2 w2
  | false => exact h2 σ H2 w2
theorem Rt.ups {R : VK} {r : Sl} {k j : Nat} (h : Rt (c.up j) R r) (hk : k ≤ j) : Rt (c.up k) R r := fun δ M σ H v w hr => h δ M σ H v (w.ups hk) hr
theorem Rt.lz {c' : Ct} {R : VK} {r : Sl} {k j : Nat} (h : Rt (c.up (k + j)) R r) (l : Lz c k c') : Rt (c'.up j) R r := fun δ M σ H v w hr => h δ M σ H v (w.lz l) hr
/-- for x in range(n), n drawn, each turn at cost k -/
theorem q_forR {iv nmax : Nat} (hx : EdN c j tx δ M fun s => ∃ n : Nat, n ≤ nmax ∧ s = .d (.int (n : Int))) (hn : nmax ≤ 100000) (I : Nat → List Sl → Mem → Prop) (h0 : I 0 δ M)
    (hstep : ∀ (i : Nat) (c' : Ct) δ1 M1, i < nmax → Lz c (j + i * k) c' → I i δ1 M1 → ∀ N : SSt → Hp → Prop, (∀ δ2 M2, I (i + 1) δ2 M2 → Nx (c'.up k) N δ2 M2) → Do c' { D with nx := N, ct := N, bk := u D } t (δ1.set iv (.d (.int (i : Int)))) M1)
    (hd : ∀ n δ1 M1, n ≤ nmax → I n δ1 M1 → Do (c.up (j + nmax * k)) D u δ1 M1) : Do c D (tSeq (tFor (iRng1 (tCons tx tNil)) (gName iv) t) u) δ M := fun σ H w =>
  hx σ H w _ fun s v H1 ⟨n, hnm, es⟩ w1 i1 hv => by
    subst es
    have hv : v = .int (n : Int) := hv
    subst hv
    refine ⟨(n : Int), rfl, by omega, by omega, ?_⟩
    have hw : Walk (Itr 0 (n : Int).toNat) (n : Int).toNat (fun _ => True) (YFn fun i => .int (0 + i)) := walk_range
    rw [show (n : Int).toNat = n from rfl] at hw
    refine for_it hw (fun i σ2 H2 => ∃ δ1 M1, I i δ1 M1 ∧ Wd (c.up (j + i * k)) δ1 M1 σ2 H2) ⟨δ, M, h0, w1.ups (by omega)⟩ (fun i σ2 H2 hi _ => trivial) (fun i x σ2 H2 H3 hi ⟨δ1, M1, hI, w2⟩ y => ?_) (fun σ2 H2 ⟨δ1, M1, hI, w2⟩ => hd n δ1 M1 hnm hI σ2 H2 (w2.ups (Nat.add_le_add_left (Nat.mul_le_mul_right k hnm) j)))
    obtain ⟨rfl, rfl⟩ := y
    have w3 := (w2.re).set (s := .d (.int (i : Int))) (v := .int (0 + (i : Int))) (by show V.int _ = V.int _; rw [Int.zero_add]) iv
    exact hstep i _ δ1 M1 (by omega) (Lz.re w2) hI _ (fun δ2 M2 hI2 σ4 H4 w4 => ⟨δ2, M2, hI2, (w4.lz (Lz.re w2)).ups (by rw [Nat.add_mul]; omega)⟩) _ H3 w3
/-- [te for x in range(n)], n drawn, each item drawn at cost k -/
theorem n_lc {iv nmin nmax : Nat} {P : PyData → Prop} (hx : EdN c j tx δ M fun s => ∃ n : Nat, nmin ≤ n ∧ n ≤ nmax ∧ s = .d (.int (n : Int))) (hn : nmax ≤ 50000)
    (hb : ∀ (c' : Ct) (i : Nat) M1, c'.own = c.own → c'.z ≤ c.z + (j + i * k) → i < nmax → EdN c' k te ((δ.set iv .no).set iv (.d (.int (i : Int)))) M1 fun s => ∃ d, P d ∧ s = .d d) :
    EdN c (j + nmax * k) (lcT (iRng1 (tCons tx tNil)) (gName iv) tYes te [iv]) δ M fun s => ∃ ds : List PyData, nmin ≤ ds.length ∧ ds.length ≤ nmax ∧ (∀ d ∈ ds, P d) ∧ s = .d (.list ds) := fun σ H w Q q =>
  hx σ H w _ fun s v H1 ⟨n, hnn, hnm, es⟩ w1 i1 hv => by
    subst es
    have hv : v = .int (n : Int) := hv
    subst hv
    refine ⟨(n : Int), rfl, by omega, by omega, fun D hD => ?_⟩
    have hDo : D ∉ c.own := fun hm => by
      obtain ⟨x, y, z, e, _⟩ := w1.own D hm
      rw [hD] at e; cases e
    have hw : Walk (Itr 0 (n : Int).toNat) (n : Int).toNat (fun _ => True) (YFn fun i => .int (0 + i)) := walk_range
    rw [show (n : Int).toNat = n from rfl] at hw
    refine lc_it hw (fun i H' => ∃ ds : List PyData, ds.length = i ∧ i ≤ n ∧ (∀ d ∈ ds, P d) ∧ Wd (c.up (j + i * k)) δ ((D, .lst ds) :: M) σ H' ∧ Imx H1 H')
      ⟨[], rfl, Nat.zero_le _, (fun d hd => by cases hd), (w1.ups (by omega)).newC (m := .lst []) hD ⟨[], upd_same, rfl⟩, .new hD⟩ (fun i H' hi p => trivial) (fun i x H' H'' hi p y => ?_) (fun H' p => ?_)
    · obtain ⟨ds, hl, hin, hP, wp, im⟩ := p
      obtain ⟨rfl, rfl⟩ := y
      have w3 : Wd ⟨c.H0, c.own, H'', c.z + (j + i * k)⟩ ((δ.set iv .no).set iv (.d (.int (i : Int)))) ((D, .lst ds) :: M) ((σ.set iv none).set iv (some (.int (0 + (i : Int))))) H'' := ((wp.re).wipe iv).set (s := .d (.int (i : Int))) (v := .int (0 + (i : Int))) (by show V.int _ = V.int _; rw [Int.zero_add]) iv
      refine ⟨by
        show ((σ.set iv none).set iv (some (.int (0 + (i : Int))))).set iv none = σ.set iv none
        rw [List.set_set, List.set_set], ?_⟩
      show te _ H'' _
      refine hb ⟨c.H0, c.own, H'', c.z + (j + i * k)⟩ i _ rfl (Nat.le_refl _) (by omega) _ H'' w3 _ fun s v H4 ⟨d, hPd, es⟩ w4 i4 hv => ?_
      subst es
      have w5 : Wd (c.up (j + (i + 1) * k)) δ ((D, .lst ds) :: M) σ H4 := by
        have w4' := (w4.lz (Lz.re wp)).ups (j := j + (i + 1) * k) (by rw [Nat.add_mul]; omega)
        refine ⟨?_, w4'.mem, w4'.ent, w4'.own, w4'.imb, w4'.fr, w4'.nd⟩
        exact wp.env.mono i4
      obtain ⟨acc, ha, hda⟩ := w5.mem (D, .lst ds) List.mem_cons_self
      have mu := (w5.mem (D, .lst ds) List.mem_cons_self).mut
      have i2 : Imx H4 (upd H4 D (.lst (acc ++ [v]))) := .mut mu
      refine ⟨acc, ha, by rw [hda.length, hl]; exact Evl.sz_lt (by omega), ds ++ [d], by rw [List.length_append, hl]; rfl, by omega, fun d' hd' => ?_, ?_, (im.trans i4).trans i2⟩
      · rcases List.mem_append.mp hd' with hd' | hd'
        · exact hP d' hd'
        · rw [List.mem_singleton.mp hd']; exact hPd
      · exact w5.write (m' := .lst _) ⟨acc ++ [v], upd_same, (DiA.mono i2 _ _ hda).append (.one (Di.mono i2 _ _ hv))⟩
    · obtain ⟨ds, hl, hin, hP, wp, im⟩ := p
      obtain ⟨acc, ha, hda⟩ := wp.mem (D, .lst ds) List.mem_cons_self
      refine ⟨D, _, rfl, ha, trivial, fun o => ?_⟩
      have mu := (wp.mem (D, .lst ds) List.mem_cons_self).mut
      have i2 : Imx H' (upd H' D (.frz o (.lst acc))) := .mut mu
      exact q _ _ _ ⟨ds, by omega, by omega, hP, rfl⟩ ((wp.frz (o := .frz o (.lst acc))).ups (Nat.add_le_add_left (Nat.mul_le_mul_right k hnm) j)) (i1.trans (im.trans i2)) ⟨D, o, acc, rfl, upd_same, DiA.mono i2 _ _ hda⟩
end
/-! ### a def that draws -/
def SpT (k : Nat) (pre : List Sl → (Sl → Prop) → Prop) : Sp := fun vs H Q _ => ∃ (t : Addr) (vs' : List V) (ss : List Sl) (R : Sl → Prop) (Z : Nat), vs = .ref t :: vs' ∧ SlA H ss vs' ∧ pre ss R ∧ Tin Z H t ∧ Z + k ≤ 2 ^ 40 ∧
  ∀ r v H2, R r → (∀ a o, a ≠ t → H a = some o → H2 a = some o) → Tin (Z + k) H2 t → r.ok H2 v → Q v H2
def CalT (P : Program) (w : World) (K : PySem.W.Frag) (mg : Str → Option Value) (base : Heap) (k : Nat) (x : Str) (ps : List Str) (cost : Nat) (pre : List Sl → (Sl → Prop) → Prop) : Prop :=
  ∃ f fd, mg x = some (.ref f) ∧ PySem.W.keepIn K (.ref f) = true ∧ Binds K fd ps [] ∧ FnOk P w K mg base CX0 k f fd ps (SpT cost pre)
theorem pe_calT {X : Cx} {k cost : Nat} {x : Str} {ps : List Str} {pre : List Sl → (Sl → Prop) → Prop} {j : Nat} {p pos : Pos} {e : Expr} {es : List Expr} {t : TA} (C : CalT X.prog X.w X.K X.mg X.base k x ps cost pre) (hr : Room j X.A) (ha : PA X (e :: es) t) (hg : Gl X x := by rfl) (hj : k ≤ j := by decide)
    (hdb : (x == ("__debug__" : Str)) = false := by decide) (he : starEach (e :: es) X.env = (false, eval e X.env) :: starEach es X.env := by rfl) (hpl : (backTo pos (starEach es X.env)).any (·.1) = false := by rfl) :
    PE X (.Call (.Name x p) (e :: es) [] pos) (tCall (SpT cost pre) [] E0 t) := by
  obtain ⟨f, fd, hm, hk, hb, F⟩ := C
  exact pe_call F (hr.mono hj) hg hm hk hb .nil pass0 ha hdb he hpl
section
variable {c : Ct} {δ : List Sl} {M : Mem} {k j cost : Nat} {R : Sl → Prop} {Rs : List Sl → Prop} {tr : TA} {E : XK}
theorem n_draw {pre : List Sl → (Sl → Prop) → Prop} {i : Nat} {ta : Addr} (hi : δ[i]? = some (.v (.ref ta))) (ho : c.own = [ta]) (h : EaN c k tr δ M Rs) (hz : c.z + k + cost ≤ 2 ^ 40) (hr : ∀ ss, Rs ss → pre ss R) : EdN c (k + cost) (tCall (SpT cost pre) [] E (tCons (tVar i) tr)) δ M R := fun σ H w Q q => by
  refine ⟨.ref ta, w.env.getv hi, h σ H w _ fun ss vs H1 hss w1 i1 hv => ?_⟩
  have hta : ta ∈ c.own := by rw [ho]; exact List.mem_singleton.mpr rfl
  have ht := w1.own ta hta
  refine ⟨ta, vs, ss, R, c.z + k, by rw [List.append_nil], hv, hr ss hss, ht, hz, fun r v H2 hR hsm ht2 hrv => ?_⟩
  have st : Stp ⟨c.H0, c.own, c.b, c.z + k⟩ H1 H2 ∨ True := .inr trivial
  have hmu : ∀ a, a = ta → ∃ xs, H1 a = some (.lst xs) := fun a e => by
    subst e
    obtain ⟨x, y, z, e, _⟩ := ht
    exact ⟨_, e⟩
  have im : Imx H1 H2 := by
    refine ⟨fun a xs e => hsm a _ (fun z => ?_) e, fun a o u e => hsm a _ (fun z => ?_) e⟩
    · obtain ⟨ys, e2⟩ := hmu a z
      rw [e] at e2; cases e2
    · obtain ⟨ys, e2⟩ := hmu a z
      rw [e] at e2; cases e2
  have ne : ∀ {a : Addr}, a ∉ c.own → a ≠ ta := fun h z => h (by rw [z]; exact hta)
  refine q r v H2 hR ⟨w1.env.mono im, fun p hp => (w1.mem p hp).step im fun o e => hsm _ o (ne (w1.fr p hp).2) e, fun a o n h => hsm a o (ne n) (w1.ent a o n h), fun t' ht' => ?_, w1.imb.trans im, w1.fr, w1.nd⟩ (i1.trans im) hrv
  have : t' = ta := by
    have ht' : t' ∈ c.own := ht'
    rw [ho] at ht'
    exact List.mem_singleton.mp ht'
  subst this
  exact ht2.mono (by show c.z + k + cost ≤ c.z + (k + cost); omega)
end
section
variable {P : Program} {w : World} {K : PySem.W.Frag} {mg : Str → Option Value} {base : Heap}
theorem okT {x : Str} {st : Stmt} {N ps : List Str} {k cost : Nat} {pre : List Sl → (Sl → Prop) → Prop} (F : Def K mg x st ps) (S : FnScope N ps (defScope st)) (hlen : ∀ ss R, pre ss R → ss.length + 1 = ps.length)
    (hd : ∀ (f : Addr) (cdv : Value) (A : Around) (outer : List PySem.Env) (s : Shared) (H : Hp) (E : XK), Room k (A.deeper (envOfC x (defScope st) s.heap.objs.size f cdv)) → N.Nodup → (A.deeper (envOfC x (defScope st) s.heap.objs.size f cdv)).units + 1 < cLine →
      ∃ t, PSs (cxOf CX0 P w K mg base N x (defScope st) f cdv A outer s H E).nox (defBody st) t ∧ ∀ ta ss R, pre ss R → ∀ c D, c.own = [ta] → c.z + cost ≤ 2 ^ 40 → (∀ r, R r → Rt (c.up cost) D.rt r) → Do c D t (.v (.ref ta) :: ss ++ List.replicate (N.length - ps.length) .no) []) : CalT P w K mg base (k + 1) x ps cost pre := by
  obtain ⟨f, fd, F, hm, hb⟩ := F
  refine ⟨f, fd, hm, F.kp, hb, ?_⟩
  refine F.ok S (fun vs H Q E h => ?_) (fun cdv A outer s H vs Q E hr h => ?_)
  · obtain ⟨t, vs', ss, R, Z, rfl, hv, hp, _⟩ := h
    rw [List.length_cons, hv.length]; exact hlen ss R hp
  · obtain ⟨t, ht, hw⟩ := hd f cdv A outer s H E hr S.nd (hu_of hr)
    refine ⟨t, ht, ?_⟩
    obtain ⟨ta, vs', ss, R, Z, rfl, hv, hp, htin, hZ, q⟩ := h
    have hl : (V.ref ta :: vs').length = ps.length := by rw [List.length_cons, hv.length]; exact hlen ss R hp
    have wd : Wd ⟨H, [ta], H, Z⟩ (.v (.ref ta) :: ss ++ List.replicate (N.length - ps.length) .no) [] (start N (.ref ta :: vs')) H := by
      refine ⟨?_, (fun q hq => nomatch hq), fun a o _ h => h, (fun t ht => ?_), Imx.refl _, (fun q hq => nomatch hq), List.nodup_nil⟩
      · show HD.Env H _ ((V.ref ta :: vs').map some ++ List.replicate (N.length - (V.ref ta :: vs').length) none)
        rw [hl]
        exact SlA.env (ss := .v (.ref ta) :: ss) _ ⟨.ref ta, vs', rfl, rfl, hv⟩
      · rw [List.mem_singleton.mp ht]; exact htin
    refine hw ta ss R hp ⟨H, [ta], H, Z⟩ { nx := fun _ H' => Q .non H', rt := Q } rfl hZ (fun r hR δ M σ H2 v w hr => ?_) _ _ wd
    exact q r v H2 hR (fun a o n e => w.ent a o (fun hm => n (List.mem_singleton.mp hm)) e) (w.own ta (List.mem_singleton.mpr rfl)) hr
end
end HD
end
section
namespace HD
open PySem PySem.Spec PyProof.Rows L2
open HR (Sgl Rec dput ddrop dlook Nk parts unb fol isPart asPut Ev kept seg segR closers clo flat out val F num tab lst behind isort leKW leNK win carried carry nxt CI done)
section
variable {K : PySem.W.Frag} {c : Ct} {D : Ends} {δ : List Sl} {M : Mem} {ta tb te tx tv tj : TE} {tt : TT} {t u : TS} {s s' z : Sl} {ds es : List PyData} {d : PyData}
theorem ed_mul {i j : Int} (ha : Ed c ta δ M (.d (.int i))) (hb : Ed c tb δ M (.d (.int j))) (h : CMul i j) : Ed c (tOp (rI CMul fun i j => .int (i * j)) ta tb) δ M (.d (.int (i * j))) := ed_I ha hb h fun _ => rfl
theorem ed_fdiv {i j : Int} (ha : Ed c ta δ M (.d (.int i))) (hb : Ed c tb δ M (.d (.int j))) (h : CDiv i j) : Ed c (tOp (rI CDiv fun i j => .int (i / j)) ta tb) δ M (.d (.int (i / j))) := ed_I ha hb h fun _ => rfl
theorem ed_mod {i j : Int} (ha : Ed c ta δ M (.d (.int i))) (hb : Ed c tb δ M (.d (.int j))) (h : 0 < j) : Ed c (tOp (rI (fun _ j => 0 < j) fun i j => .int (i % j)) ta tb) δ M (.d (.int (i % j))) := ed_I (C := fun _ j => 0 < j) ha hb h fun _ => rfl
theorem ed_pow {i j : Int} (ha : Ed c ta δ M (.d (.int i))) (hb : Ed c tb δ M (.d (.int j))) (h : CPow i j) : Ed c (tOp (rI CPow fun i j => .int (i ^ j.toNat)) ta tb) δ M (.d (.int (i ^ j.toNat))) := ed_I ha hb h fun _ => rfl
theorem ed_abs {i : Int} (ha : Ed c ta δ M (.d (.int i))) : Ed c (tCB (fun xs H Q => ∃ i, xs = [.int i] ∧ Q (.int (if i < 0 then -i else i)) H) (tCons ta tNil)) δ M (.d (.int (if i < 0 then -i else i))) :=
  ed_cb (ea_cons ha ea_nil) fun H vs hv Q k => by
    obtain ⟨v, rfl, e⟩ := sl1 hv
    have e : v = .int i := e
    subst e
    exact ⟨i, rfl, k _ H (Same.refl H) rfl⟩
abbrev rInt1 : List V → Hp → VK → Prop := fun xs H Q => (∃ i, xs = [.int i] ∧ Q (.int i) H) ∨ ∃ k, xs = [.bl k] ∧ Q (.int (if k then 1 else 0)) H
theorem ed_int1i {i : Int} (ha : Ed c ta δ M (.d (.int i))) : Ed c (tCB rInt1 (tCons ta tNil)) δ M (.d (.int i)) :=
  ed_cb (ea_cons ha ea_nil) fun H vs hv Q k => by
    obtain ⟨v, rfl, e⟩ := sl1 hv
    have e : v = .int i := e
    subst e
    exact .inl ⟨i, rfl, k _ H (Same.refl H) rfl⟩
theorem ed_int1b {i : Bool} (ha : Ed c ta δ M (.d (.bool i))) : Ed c (tCB rInt1 (tCons ta tNil)) δ M (.d (.int (if i then 1 else 0))) :=
  ed_cb (ea_cons ha ea_nil) fun H vs hv Q k => by
    obtain ⟨v, rfl, e⟩ := sl1 hv
    have e : v = .bl i := e
    subst e
    exact .inr ⟨i, rfl, k _ H (Same.refl H) rfl⟩
/-- a cell of one's own, read and written by place -/
theorem ed_ixM {i : Nat} {p : Addr} {j : Int} (hi : δ[i]? = some (.v (.ref p))) (hb : Ed c tb δ ((p, .lst ds) :: M) (.d (.int j))) (e : atI ds j = some d) : Ed c (tOp (rIxL K) (tVar i) tb) δ ((p, .lst ds) :: M) (.d d) := fun σ H w Q k =>
  ⟨.ref p, w.env.getv hi, hb σ H w _ fun y H2 s2 hy => by
    have hy : y = .int j := hy
    subst hy
    obtain ⟨xs, hx, hd⟩ := (w.step s2).mem (p, .lst ds) List.mem_cons_self
    obtain ⟨v, e1, e2⟩ := hd.at e
    exact ⟨p, xs, j, v, rfl, rfl, .inl (.inl hx), e1, k v H2 s2 e2⟩⟩
theorem s_lset {i : Nat} {p : Addr} {j : Int} {n : Nat} (hi : δ[i]? = some (.v (.ref p))) (hv : Ed c tv δ ((p, .lst ds) :: M) (.d d)) (hj : Ed c tj δ ((p, .lst ds) :: M) (.d (.int j))) (e : ixN ds.length j = some n) (k : Nx c D.nx δ ((p, .lst (ds.set n d)) :: M)) :
    Do c D (tAsg tv (gSub (tVar i) tj rSetL)) δ ((p, .lst ds) :: M) := fun σ H w => hv σ H w _ fun v H1 s1 h1 => ⟨.ref p, (w.step s1).env.getv hi, hj σ H1 (w.step s1) _ fun y H2 s2 h2 => by
    have h2 : y = .int j := h2
    subst h2
    have w2 := (w.step s1).step s2
    obtain ⟨xs, hx, hd⟩ := w2.mem (p, .lst ds) List.mem_cons_self
    have i2 : Imx H2 (upd H2 p (.lst (xs.set n v))) := .mut (w2.mem (p, .lst ds) List.mem_cons_self).mut
    exact ⟨p, xs, j, n, rfl, rfl, hx, by rw [hd.length]; exact e, k _ _ (w2.write (m' := .lst (ds.set n d)) ⟨_, upd_same, (DiA.mono i2 _ _ hd).set (Di.mono i2 _ _ (Di.mono s2.i _ _ h1)) n⟩)⟩⟩
theorem q_lset {i : Nat} {p : Addr} {j : Int} {n : Nat} (hi : δ[i]? = some (.v (.ref p))) (hv : Ed c tv δ ((p, .lst ds) :: M) (.d d)) (hj : Ed c tj δ ((p, .lst ds) :: M) (.d (.int j))) (e : ixN ds.length j = some n) (k : Do c D u δ ((p, .lst (ds.set n d)) :: M)) :
    Do c D (tSeq (tAsg tv (gSub (tVar i) tj rSetL)) u) δ ((p, .lst ds) :: M) := s_lset (D := { D with nx := u D }) hi hv hj e k
def RtM (c : Ct) (R : VK) (r : Sl) (M : Mem) : Prop := ∀ δ σ H v, Wd c δ M σ H → r.ok H v → R v H
theorem s_retM (h : Ed c te δ M s) (k : RtM c D.rt s M) : Do c D (tRet te) δ M := fun σ H w => h σ H w _ fun v H2 s2 hv => k δ σ H2 v (w.step s2) hv
end
theorem cmulR {i j : Int} (h0 : 0 ≤ j) (h1 : j ≤ 2 ^ 62) : CMul i j := by
  have e : (2 : Int) ^ 64 = 4 * 2 ^ 62 := by decide
  refine .inr ⟨?_, ?_⟩ <;> omega
theorem cmulL {i j : Int} (h0 : 0 ≤ i) (h1 : i ≤ 2 ^ 62) : CMul i j := by
  have e : (2 : Int) ^ 64 = 4 * 2 ^ 62 := by decide
  refine .inl ⟨?_, ?_⟩ <;> omega
theorem mod_le {i j : Int} (h : 0 < j) : 0 ≤ i % j ∧ i % j < j := ⟨Int.emod_nonneg _ (by omega), Int.emod_lt_of_pos _ h⟩
section
variable {P : Program} {w : World} {K : PySem.W.Frag} {mg : Str → Option Value} {base : Heap}
abbrev s_law_take : Stmt := topS 48
theorem sc_law_take : FnScope ["_law_tin", "_law_below_so", "_law_drawn", "_law_once_so", "_law_wide_so", "_law_twice_so"] ["_law_tin", "_law_below_so"] (defScope s_law_take) := ⟨rfl, rfl, rfl, by decide +kernel, rfl, by decide +kernel, by decide +kernel⟩
def p_law_take (ss : List Sl) (R : Sl → Prop) : Prop := ∃ n : Nat, 0 < n ∧ n ≤ 1000 ∧ ss = [.d (.int (n : Int))] ∧ R = fun r => ∃ i : Nat, i < n ∧ r = .d (.int (i : Int))
theorem ok_law_take (B : Bl mg) (F : Def K mg "_law_take" s_law_take ["_law_tin", "_law_below_so"]) : CalT P w K mg base 1 "_law_take" ["_law_tin", "_law_below_so"] 1 p_law_take := by
  obtain ⟨f, fd, F, hm, hb⟩ := F
  refine ⟨f, fd, hm, F.kp, hb, ?_⟩
  refine F.ok sc_law_take (fun vs H Q E h => ?_) (fun cdv A outer s H vs Q E hr h => ?_)
  · obtain ⟨t, vs', ss, R, Z, rfl, hv, ⟨n, _, _, rfl, _⟩, _⟩ := h
    rw [List.length_cons, hv.length]; rfl
  · have hu := hu_of hr
    have nd := sc_law_take.nd
    obtain ⟨ta, vs', ss, R, Z, rfl, hv, ⟨n, hn0, hn1, rfl, rfl⟩, ⟨x, y, zz, hta, hx0, hy0, hy1, hz0, hz1⟩, hZ, q⟩ := h
    obtain ⟨v, rfl, hv1⟩ := sl1 hv
    have hv2 : v = .int (n : Int) := hv1
    subst hv2
    have H0 : ∃ H0 : Hp, H0 ta = none ∧ ∀ a, a ≠ ta → H0 a = H a := ⟨fun a => if a = ta then none else H a, if_pos rfl, fun a h => if_neg h⟩
    obtain ⟨H0, h0t, h0o⟩ := H0
    have hent : ∀ a o, H0 a = some o → H a = some o := fun a o e => by
      by_cases ha : a = ta
      · subst ha; rw [h0t] at e; cases e
      · rw [← h0o a ha]; exact e
    have wd : Wd ⟨H0, [], H0, 0⟩ [.v (.ref ta), .d (.int (n : Int)), .no, .no, .no, .no] [(ta, .lst [.int x, .int y, .int zz])] [some (.ref ta), some (.int (n : Int)), none, none, none, none] H := by
      refine ⟨⟨_, _, rfl, ⟨_, rfl, rfl⟩, _, _, rfl, ⟨_, rfl, rfl⟩, _, _, rfl, trivial, _, _, rfl, trivial, _, _, rfl, trivial, _, _, rfl, trivial, rfl⟩, fun p hp => ?_, fun a o _ e => hent a o e, (fun t ht => nomatch ht), ⟨fun a xs e => hent a _ e, fun a o u e => hent a _ e⟩, fun p hp => ?_, by simp⟩
      · rw [List.mem_singleton.mp hp]
        exact ⟨_, hta, _, _, rfl, rfl, _, _, rfl, rfl, _, _, rfl, rfl, rfl⟩
      · rw [List.mem_singleton.mp hp]
        exact ⟨h0t, fun h => nomatch h⟩
    have fin : ∀ (c : Ct), c.H0 = H0 → ∀ (i : Nat) (x' z' : Int), i < n → 0 ≤ x' → 0 ≤ z' → z' ≤ zz + 1 → c.own = [] → RtM c Q (.d (.int (i : Int))) [(ta, .lst [.int x', .int y, .int z'])] := by
      intro c hc i x' z' hi hx hz hz2 ho δ σ H2 v w2 hv
      obtain ⟨xs, e1, x1, r1, rfl, g1, x2, r2, rfl, g2, x3, r3, rfl, g3, g4⟩ := w2.mem (ta, .lst [.int x', .int y, .int z']) List.mem_cons_self
      have g1 : x1 = .int x' := g1
      have g2 : x2 = .int y := g2
      have g3 : x3 = .int z' := g3
      have g4 : r3 = [] := g4
      subst g1 g2 g3 g4
      refine q _ v H2 ⟨i, hi, rfl⟩ (fun a o ne e => w2.ent a o (by rw [ho]; simp) (by rw [hc, h0o a ne]; exact e)) ⟨x', y, z', e1, hx, hy0, hy1, hz, ?_⟩ hv
      have : ((Z + 1 : Nat) : Int) = (Z : Int) + 1 := by omega
      omega
    have e62 : (2 : Int) ^ 62 = 4611686018427387904 := by decide
    have e40 : (2 : Nat) ^ 40 = 1099511627776 := by decide
    refine ⟨_, (pss_cons (ps_if (pt_cmpR op_gt (pe_ix (k_ixL K rfl) (pv 0) pe_int (fun _ _ => rfl)) pe_int (nomark _)) (pss_cons (ps_set (i := 2) nd rfl (Or.inl rfl) (pe_op op_mod (pe_callTy call_int1 (by rfl) B.int (by decide +kernel) (pa_cons (pe_ix (k_ixL K rfl) (pv 0) pe_int (fun _ _ => rfl)) pa_nil)) (pv 1)))
        (pss_cons (ps_asg (pe_op op_fdiv (pe_ix (k_ixL K rfl) (pv 0) pe_int (fun _ _ => rfl)) (pv 1)) (pg_sub (pv 0) pe_int set_list))
        (pss_one (ps_ret (pv 2))))) pss_nil)
      (pss_cons (ps_asg (pe_op op_add (pe_ix (k_ixL K rfl) (pv 0) pe_int (fun _ _ => rfl)) pe_int) (pg_sub (pv 0) pe_int set_list))
      (pss_cons (ps_set (i := 3) nd rfl (Or.inl rfl) (pe_op op_mod (pe_callTy call_int1 (by rfl) B.int (by decide +kernel) (pa_cons (pe_op op_mul (pe_op op_add (pe_ix (k_ixL K rfl) (pv 0) pe_int (fun _ _ => rfl)) (pe_op op_mul pe_int (pe_ix (k_ixL K rfl) (pv 0) pe_int (fun _ _ => rfl)))) (pe_op op_add pe_int (pe_ix (k_ixL K rfl) (pv 0) pe_int (fun _ _ => rfl)))) pa_nil)) pe_int))
      (pss_cons (ps_set (i := 4) nd rfl (Or.inl rfl) (pe_op op_add (pe_op op_mod (pe_callTy call_int1 (by rfl) B.int (by decide +kernel) (pa_cons (pv 3) pa_nil)) pe_int) pe_int))
      (pss_cons (ps_set (i := 5) nd rfl (Or.inl rfl) (pe_op op_mod (pe_callTy call_int1 (by rfl) B.int (by decide +kernel) (pa_cons (pe_op op_mul (pe_op op_add (pe_op op_add (pv 3) (pe_ix (k_ixL K rfl) (pv 0) pe_int (fun _ _ => rfl))) (pe_op op_fdiv (pe_ix (k_ixL K rfl) (pv 0) pe_int (fun _ _ => rfl)) pe_int)) (pv 4)) pa_nil)) pe_int))
      (pss_one (ps_ret (pe_op op_mod (pe_callTy call_int1 (by rfl) B.int (by decide +kernel) (pa_cons (pe_op op_fdiv (pe_op op_mod (pe_callTy call_int1 (by rfl) B.int (by decide +kernel) (pa_cons (pe_op op_add (pe_op op_mul (pv 5) pe_int) (pv 3)) pa_nil)) pe_int) pe_int) pa_nil)) (pv 1))))))))), ?_⟩
    refine (?_ : Do ⟨H0, [], H0, 0⟩ { nx := fun _ H' => Q .non H', rt := Q } _ [.v (.ref ta), .d (.int (n : Int)), .no, .no, .no, .no] [(ta, .lst [.int x, .int y, .int zz])]) _ _ wd
    refine q_when (et_test (ed_gt (ed_ixM rfl ed_int rfl) ed_int)) (fun hb => ?_) (fun hb => ?_)
    · have hm := mod_le (i := x) (j := (n : Int)) (by omega)
      refine q_set (ed_mod (ed_int1i (ed_ixM rfl ed_int rfl)) (ed_var rfl) (by omega)) ?_
      refine q_lset (n := 0) rfl (ed_fdiv (ed_ixM rfl ed_int rfl) (ed_var rfl) ⟨by omega, by omega⟩) ed_int rfl ?_
      exact s_retM (ed_eq (s' := .d (.int ((x % (n : Int)).toNat : Int))) (ed_var rfl) (by rw [Int.toNat_of_nonneg hm.1])) (fin _ rfl _ (x / (n : Int)) zz (by omega) (Int.ediv_nonneg hx0 (by omega)) hz0 (by omega) rfl)
    · refine q_lset (n := 2) rfl (ed_add (ed_ixM rfl ed_int rfl) ed_int) ed_int rfl ?_
      refine q_set (ed_mod (ed_int1i (ed_mul (ed_add (ed_ixM rfl ed_int rfl) (ed_mul ed_int (ed_ixM rfl ed_int rfl) (cmulL (by decide) (by decide)))) (ed_add ed_int (ed_ixM rfl ed_int rfl)) (cmulR (by omega) (by omega)))) ed_int (by decide)) ?_
      generalize ho : (y + 48271 * (zz + 1)) * (39373 + (zz + 1)) % 2147483647 = once
      have hob : 0 ≤ once ∧ once < 2147483647 := by rw [← ho]; exact mod_le (by decide)
      have hwb := mod_le (i := once) (j := 40009) (by decide)
      refine q_set (ed_add (ed_mod (ed_int1i (ed_var rfl)) ed_int (by decide)) ed_int) ?_
      refine q_set (ed_mod (ed_int1i (ed_mul (ed_add (ed_add (ed_var rfl) (ed_ixM rfl ed_int rfl)) (ed_fdiv (ed_ixM rfl ed_int rfl) ed_int ⟨by decide, by decide⟩)) (ed_var rfl) (cmulR (by omega) (by omega)))) ed_int (by decide)) ?_
      generalize ht : (once + (zz + 1) + y / 1000003) * (once % 40009 + 7) % 2147483629 = twice
      generalize hr' : (twice * 48271 + once) % 2147483587 / 64 = last
      have hlm := mod_le (i := last) (j := (n : Int)) (by omega)
      refine s_retM (ed_eq (s' := .d (.int ((last % (n : Int)).toNat : Int))) (ed_mod (ed_int1i (ed_fdiv (ed_mod (ed_int1i (ed_add (ed_mul (ed_var rfl) ed_int (cmulR (by decide) (by decide))) (ed_var rfl))) ed_int (by decide)) ed_int ⟨by decide, by decide⟩)) (ed_var rfl) (by omega)) (by rw [hr', Int.toNat_of_nonneg hlm.1])) (fin _ rfl _ x (zz + 1) (by omega) hx0 (by omega) (by omega) rfl)
abbrev s_law_of : Stmt := topS 50
theorem sc_law_of : FnScope ["_law_tin", "_law_goods_so"] ["_law_tin", "_law_goods_so"] (defScope s_law_of) := ⟨rfl, rfl, rfl, by decide +kernel, rfl, by decide +kernel, by decide +kernel⟩
/-- one of a row of texts -/
def p_law_of (ss : List Sl) (R : Sl → Prop) : Prop := ∃ xs : List Str, 0 < xs.length ∧ xs.length ≤ 1000 ∧ ss = [.d (.list (xs.map .str))] ∧ R = fun r => ∃ x, x ∈ xs ∧ r = .d (.str x)
theorem ok_law_of (B : Bl mg) (F : Def K mg "_law_of" s_law_of ["_law_tin", "_law_goods_so"]) (C_law_take : CalT P w K mg base 1 "_law_take" ["_law_tin", "_law_below_so"] 1 p_law_take) : CalT P w K mg base 2 "_law_of" ["_law_tin", "_law_goods_so"] 1 p_law_of := by
  refine okT F sc_law_of (fun ss R ⟨xs, _, _, e, _⟩ => by rw [e]; rfl) fun f cdv A outer s H E hr nd hu => ⟨_, (pss_one (ps_ret (pe_ix (k_ixL K rfl) (pv 1) (pe_calT C_law_take hr (pa_cons (pv 0) (pa_cons (pe_callB (k_len K rfl) (by rfl) B.len boot_len (pa_cons (pv 1) pa_nil)) pa_nil))) (fun _ _ => rfl)))), fun ta ss R h c D ho hz hR => ?_⟩
  obtain ⟨xs, h0, h1, rfl, rfl⟩ := h
  refine s_retN (k := 0 + (0 + 0 + 1)) (R := fun r => ∃ x, x ∈ xs ∧ r = .d (.str x)) (n_op1 (R1 := (· = .d (.list (xs.map .str)))) (n_of (ed_var rfl) rfl) fun c' x s l hs hx => ?_) hR
  subst hs
  have ho' : c'.own = [ta] := by rw [l.o]; exact ho
  refine n_op2 (k := 0 + 1) (j := 0) (n_draw (pre := p_law_take) (R := fun r => ∃ i : Nat, i < xs.length ∧ r = .d (.int (i : Int))) rfl ho' (an_of (Rs := (· = [.d (.int (xs.length : Int))])) (ea_cons (ed_eq (ed_lenL (ds := xs.map .str) (ed_var rfl)) (by rw [List.length_map])) ea_nil) rfl) (by rw [l.z]; omega) fun ss hss => ⟨xs.length, h0, h1, hss, rfl⟩) fun c2 y s2 l2 hs2 hy => ?_
  obtain ⟨i, hi, rfl⟩ := hs2
  refine n_of (ed_ixL (ds := xs.map .str) (d := .str xs[i]) (ed_kn (hx.lz l2)) (ed_kn hy) ?_) ⟨xs[i], List.getElem_mem hi, rfl⟩
  rw [atI_nat _ _ (by simpa using hi), List.getElem?_map, List.getElem?_eq_getElem hi]
  rfl
end
end HD
end
section
namespace L2
open PySem PySem.Spec PyProof.Rows
/-- list + list, either one locked or not -/
def rCatL : R2 := fun x y H Q => ∃ l b xs zs, x = .ref l ∧ y = .ref b ∧ Rd H l (.lst xs) ∧ Rd H b (.lst zs) ∧ xs.length + zs.length ≤ sizeLine ∧ ∀ p, H p = none → Q (.ref p) (upd H p (.lst (xs ++ zs)))
theorem op_catL {X : Cx} : OpR X (binaryOp .Add) rCatL := by
  intro pins s σ H x y v u Q I rx ry h
  obtain ⟨l, b, xs, zs, rfl, rfl, hH, hB, hz, q⟩ := h
  cases rx
  cases ry
  obtain ⟨z, its, n, r, e⟩ := (show ObjOk X.prog X.w H s.heap l (.lst xs) from hH.ok I.hok)
  obtain ⟨z2, its2, n2, r2, e2⟩ := (show ObjOk X.prog X.w H s.heap b (.lst zs) from hB.ok I.hok)
  have hl := r.length
  have hl2 := r2.length
  refine PySem.P.add_list e e2 ?_ (by rw [List.size_toArray, List.size_toArray]; omega)
  have ea : its.toArray ++ its2.toArray = (its ++ its2).toArray := by simp
  rw [ea]
  exact ⟨.ref _, _, I.lnew (t' := s.toks) (r.append r2) (by rw [List.length_append]; omega), rfl, q _ I.fresh⟩
end L2
namespace HD
open PySem PySem.Spec PyProof.Rows L2
open HR (Sgl Rec dput ddrop dlook Nk parts unb fol isPart asPut Ev kept seg segR closers clo flat out val F num tab lst behind isort leKW leNK win carried carry nxt CI done)
section
variable {K : PySem.W.Frag} {c : Ct} {D : Ends} {δ : List Sl} {M : Mem} {ta tb te tx tv tj : TE} {tt : TT} {t u : TS} {s s' z : Sl} {ds es : List PyData} {d : PyData}
theorem ed_catL (ha : Ed c ta δ M (.d (.list ds))) (hb : Ed c tb δ M (.d (.list es))) (hl : ds.length + es.length ≤ 100000) : Ed c (tFz (tOp rCatL ta tb)) δ M (.d (.list (ds ++ es))) := fun σ H w Q k =>
  ha σ H w _ fun x H1 s1 hx => hb σ H1 (w.step s1) _ fun y H2 s2 hy => by
    obtain ⟨a, o, xs, rfl, h1, h2⟩ := (show Di H2 (.list ds) x from Di.mono s2.i _ _ hx)
    obtain ⟨b, o2, ys, rfl, h3, h4⟩ := hy
    refine ⟨a, b, xs, ys, rfl, rfl, .inr ⟨o, h1⟩, .inr ⟨o2, h3⟩, by rw [h2.length, h4.length]; exact Evl.sz_of hl, fun p hp => ⟨p, _, rfl, upd_same, trivial, fun o' => ?_⟩⟩
    have sm := same_frz (o := .frz o' (.lst (xs ++ ys))) hp (Same.new (o := .lst (xs ++ ys)) hp)
    exact k _ _ ((s1.trans s2).trans (.same sm)) ⟨p, o', _, rfl, upd_same, DiA.mono (.same sm) _ _ (h2.append h4)⟩
theorem diA_rep {H : Hp} {d : PyData} {v : V} (h : Di H d v) : ∀ n, DiA H (List.replicate n d) (List.replicate n v)
  | 0 => rfl
  | n + 1 => ⟨v, List.replicate n v, rfl, h, diA_rep h n⟩
/-- [x] * n -/
theorem ed_rep1 {n : Nat} (ha : Ed c ta δ M (.d d)) (hb : ∀ M, Ed c tb δ M (.d (.int (n : Int)))) (hl : n ≤ 100000) : Ed c (tFz (tOp rRep (tLst (tCons ta tNil)) tb)) δ M (.d (.list (List.replicate n d))) := fun σ H w Q k =>
  ha σ H w _ fun x H1 s1 hx => ⟨by show 1 ≤ sizeLine; decide, fun p hp => by
    have w1 : Wd c δ ((p, .lst [d]) :: M) σ (upd H1 p (.lst [x])) := (w.step s1).newC (m := .lst [d]) hp ⟨[x], upd_same, DiA.one (Di.mono (.new hp) _ _ hx)⟩
    refine hb _ σ _ w1 _ fun y H2 s2 hy => ?_
    have hy : y = .int (n : Int) := hy
    subst hy
    obtain ⟨xs, hxs, hd⟩ := (w1.step s2).mem (p, .lst [d]) List.mem_cons_self
    obtain ⟨x', r, rfl, hx', hr⟩ := hd
    have hr : r = [] := hr
    subst hr
    refine ⟨p, (n : Int), [x'], rfl, rfl, hxs, by omega, by omega, by rw [show ([x'] : List V).length * (n : Int).toNat = n by simp]; exact Evl.sz_of hl, fun q hq => ⟨q, _, rfl, upd_same, trivial, fun o' => ?_⟩⟩
    have e : (List.replicate (n : Int).toNat [x']).flatten = List.replicate n x' := by simp
    rw [e]
    have st : Stp c H H2 := s1.trans ((Stp.same (Same.new hp)).trans s2)
    have sm := same_frz (o := .frz o' (.lst (List.replicate n x'))) hq (Same.new (o := .lst (List.replicate n x')) hq)
    exact k _ _ (st.trans (.same sm)) ⟨q, o', _, rfl, upd_same, DiA.mono (.same sm) _ _ (diA_rep hx' n)⟩⟩
end
/-! ### lists at every depth -/
mutual
def lstD : PyData → PyData
  | .list xs => .list (lstA xs)
  | .tuple xs => .list (lstA xs)
  | .none => .none
  | .bool b => .bool b
  | .int i => .int i
  | .str x => .str x
  | .dict kvs => .dict kvs
def lstA : List PyData → List PyData
  | [] => []
  | x :: xs => lstD x :: lstA xs
end
theorem lstA_map : ∀ xs : List PyData, lstA xs = xs.map lstD
  | [] => by simp [lstA]
  | x :: xs => by rw [lstA, lstA_map xs]; rfl
mutual
theorem tup_lst : ∀ d : PyData, tupD (lstD d) = tupD d
  | .list xs => by rw [lstD, tupD, tupD, tup_lstA xs]
  | .tuple xs => by rw [lstD, tupD, tupD, tup_lstA xs]
  | .none => by rw [lstD]
  | .bool b => by rw [lstD]
  | .int i => by rw [lstD]
  | .str x => by rw [lstD]
  | .dict kvs => by rw [lstD]
theorem tup_lstA : ∀ xs : List PyData, tupA (lstA xs) = tupA xs
  | [] => by rw [lstA]
  | x :: xs => by rw [lstA, tupA, tupA, tup_lst x, tup_lstA xs]
end
mutual
theorem flat_lst : ∀ (n : Nat) (d : PyData), flatD n (lstD d) = flatD n d
  | 0, .list xs => by rw [lstD]; simp [flatD]
  | 0, .tuple xs => by rw [lstD]; simp [flatD]
  | n + 1, .list xs => by rw [lstD, flatD, flatD, flat_lstA n xs, lstA_map, List.length_map]
  | n + 1, .tuple xs => by rw [lstD, flatD, flatD, flat_lstA n xs, lstA_map, List.length_map]
  | n, .none => by rw [lstD]
  | n, .bool b => by rw [lstD]
  | n, .int i => by rw [lstD]
  | n, .str x => by rw [lstD]
  | n, .dict kvs => by rw [lstD]
theorem flat_lstA : ∀ (n : Nat) (xs : List PyData), flatA n (lstA xs) = flatA n xs
  | n, [] => by rw [lstA]
  | n, x :: xs => by rw [lstA, flatA, flatA, flat_lst n x, flat_lstA n xs]
end
theorem mem_zip_self {ds : List PyData} {d : PyData} (h : d ∈ zipD ds ds) : ∃ x ∈ ds, d = .tuple [x, x] := by
  obtain ⟨⟨a, b⟩, hp, rfl⟩ := List.mem_map.mp h
  have : ∀ l : List PyData, ∀ p ∈ l.zip l, p.1 ∈ l ∧ p.2 = p.1 := by
    intro l
    induction l with
    | nil => intro p hp; cases hp
    | cons x l ih =>
      intro p hp
      rw [List.zip_cons_cons] at hp
      rcases List.mem_cons.mp hp with rfl | hp
      · exact ⟨List.mem_cons_self, rfl⟩
      · exact ⟨List.mem_cons_of_mem _ (ih p hp).1, (ih p hp).2⟩
  obtain ⟨h1, h2⟩ := this ds (a, b) hp
  have h2 : b = a := h2
  subst h2
  exact ⟨b, h1, rfl⟩
theorem lay_list {xs : List PyData} (h : (PyData.list xs).canLay0 = true) : ∀ x ∈ xs, x.canLay0 = true := by
  rw [PyData.canLay0, canLayAll_iff] at h
  simpa using h
theorem lay_tuple {xs : List PyData} (h : (PyData.tuple xs).canLay0 = true) : ∀ x ∈ xs, x.canLay0 = true := by
  rw [PyData.canLay0, canLayAll_iff] at h
  simpa using h
section
variable {P : Program} {w : World} {K : PySem.W.Frag} {mg : Str → Option Value} {base : Heap}
abbrev s_law_lists : Stmt := topS 51
theorem sc_law_lists : FnScope ["_law_matter", "_law_bit"] ["_law_matter"] (defScope s_law_lists) := ⟨rfl, rfl, rfl, by decide +kernel, rfl, by decide +kernel, by decide +kernel⟩
def p_law_lists (n : Nat) (ss : List Sl) (r : Sl) : Prop := ∃ d, flatD n d = true ∧ ss = [.d d] ∧ r = .d (lstD d)
theorem ok_law_lists (B : Bl mg) (F : Def K mg "_law_lists" s_law_lists ["_law_matter"]) : ∀ n, Cal P w K mg base (n + 1) "_law_lists" ["_law_matter"] (p_law_lists n)
  | 0 => by
    refine okC F sc_law_lists (fun ss r ⟨d, _, e, _⟩ => by rw [e]; rfl) fun f cdv A outer s H E hr nd hu => ⟨_, (pss_one (ps_ret (pe_ifExp (pt_val (pe_callB (k_isiT K rfl) (by rfl) B.isinstance (by decide +kernel) (pa_cons (pv 0) (pa_cons (pe_tup (pa_cons (pe_bltn (v := .ty "list") (by rfl) B.list (by decide +kernel) rfl) (pa_cons (pe_bltn (v := .ty "tuple") (by rfl) B.tuple (by decide +kernel) rfl) pa_nil))) pa_nil)))) (pe_fz (pe_lc (own := [("_law_bit", 1)]) rfl nd (pi_list (pv 0)) (blkOk_by (own := [("_law_bit", 1)]) (N := ["_law_matter", "_law_bit"]) (sc := defScope s_law_lists) (by decide +kernel)) (fun _ _ _ _ _ => (pg_name (i := 1) nd rfl (Or.inl rfl))) (fun _ _ _ _ _ => pts_nil) (fun _ _ _ _ _ => pe_none))) (pv 0)))), fun ss r h c D hR => ?_⟩
    obtain ⟨d, hd, rfl, rfl⟩ := h
    cases d with
    | list ds => simp [flatD] at hd
    | tuple ds => simp [flatD] at hd
    | dict ds => simp [flatD] at hd
    | none => exact s_ret (ed_eq (ed_if (et_val (ed_isi2 (ed_var rfl) kN_list kN_tuple)) (fun z => nomatch z) fun _ => ed_var rfl) (by rw [lstD])) hR
    | bool b => exact s_ret (ed_eq (ed_if (et_val (ed_isi2 (ed_var rfl) kB_list kB_tuple)) (fun z => nomatch z) fun _ => ed_var rfl) (by rw [lstD])) hR
    | int b => exact s_ret (ed_eq (ed_if (et_val (ed_isi2 (ed_var rfl) kI_list kI_tuple)) (fun z => nomatch z) fun _ => ed_var rfl) (by rw [lstD])) hR
    | str b => exact s_ret (ed_eq (ed_if (et_val (ed_isi2 (ed_var rfl) kS_list kS_tuple)) (fun z => nomatch z) fun _ => ed_var rfl) (by rw [lstD])) hR
  | n + 1 => by
    have C_law_lists := ok_law_lists B F n
    refine okC F sc_law_lists (fun ss r ⟨d, _, e, _⟩ => by rw [e]; rfl) fun f cdv A outer s H E hr nd hu => ⟨_, (pss_one (ps_ret (pe_ifExp (pt_val (pe_callB (k_isiT K rfl) (by rfl) B.isinstance (by decide +kernel) (pa_cons (pv 0) (pa_cons (pe_tup (pa_cons (pe_bltn (v := .ty "list") (by rfl) B.list (by decide +kernel) rfl) (pa_cons (pe_bltn (v := .ty "tuple") (by rfl) B.tuple (by decide +kernel) rfl) pa_nil))) pa_nil)))) (pe_alt (pe_fz (pe_lc (own := [("_law_bit", 1)]) rfl nd (pi_list (pv 0)) (blkOk_by (own := [("_law_bit", 1)]) (N := ["_law_matter", "_law_bit"]) (sc := defScope s_law_lists) (by decide +kernel)) (fun _ _ _ _ _ => (pg_name (i := 1) nd rfl (Or.inl rfl))) (fun _ _ _ _ _ => pts_nil) (fun _ _ _ _ _ => (pe_cal C_law_lists hr (pa_cons (pv 1) pa_nil) (hj := Nat.le_refl _))))) (pe_fz (pe_lc (own := [("_law_bit", 1)]) rfl nd (pi_tup (pv 0)) (blkOk_by (own := [("_law_bit", 1)]) (N := ["_law_matter", "_law_bit"]) (sc := defScope s_law_lists) (by decide +kernel)) (fun _ _ _ _ _ => (pg_name (i := 1) nd rfl (Or.inl rfl))) (fun _ _ _ _ _ => pts_nil) (fun _ _ _ _ _ => (pe_cal C_law_lists hr (pa_cons (pv 1) pa_nil) (hj := Nat.le_refl _)))))) (pv 0)))), fun ss r h c D hR => ?_⟩
    obtain ⟨d, hd, rfl, rfl⟩ := h
    cases d with
    | dict ds => simp [flatD] at hd
    | none => exact s_ret (ed_eq (ed_if (et_val (ed_isi2 (ed_var rfl) kN_list kN_tuple)) (fun z => nomatch z) fun _ => ed_var rfl) (by rw [lstD])) hR
    | bool b => exact s_ret (ed_eq (ed_if (et_val (ed_isi2 (ed_var rfl) kB_list kB_tuple)) (fun z => nomatch z) fun _ => ed_var rfl) (by rw [lstD])) hR
    | int b => exact s_ret (ed_eq (ed_if (et_val (ed_isi2 (ed_var rfl) kI_list kI_tuple)) (fun z => nomatch z) fun _ => ed_var rfl) (by rw [lstD])) hR
    | str b => exact s_ret (ed_eq (ed_if (et_val (ed_isi2 (ed_var rfl) kS_list kS_tuple)) (fun z => nomatch z) fun _ => ed_var rfl) (by rw [lstD])) hR
    | list ds =>
      obtain ⟨hl, hf⟩ := flatD_list hd
      rw [show lstD (.list ds) = .list (ds.map lstD) by rw [lstD, lstA_map]] at hR
      exact s_ret (ed_if (et_val (ed_isi2 (ed_var rfl) kL_list kL_tuple)) (fun _ => (ed_altL <| ed_lcm lstD (es_list (ed_var rfl)) (by omega) fun d hd => ⟨_, tc_name, (ed_call (ea_cons (ed_var rfl) ea_nil) ⟨d, hf d hd, rfl, rfl⟩)⟩)) fun z => nomatch z) hR
    | tuple ds =>
      obtain ⟨hl, hf⟩ := flatD_tuple hd
      rw [show lstD (.tuple ds) = .list (ds.map lstD) by rw [lstD, lstA_map]] at hR
      exact s_ret (ed_if (et_val (ed_isi2 (ed_var rfl) kT_list kT_tuple)) (fun _ => (ed_altR <| ed_lcm lstD (es_tup (ed_var rfl)) (by omega) fun d hd => ⟨_, tc_name, (ed_call (ea_cons (ed_var rfl) ea_nil) ⟨d, hf d hd, rfl, rfl⟩)⟩)) fun z => nomatch z) hR
abbrev s_law_same : Stmt := topS 52
theorem sc_law_same : FnScope ["_law_got", "_law_due", "_law_mine", "_law_its"] ["_law_got", "_law_due"] (defScope s_law_same) := ⟨rfl, rfl, rfl, by decide +kernel, rfl, by decide +kernel, by decide +kernel⟩
def p_law_same (n : Nat) (ss : List Sl) (r : Sl) : Prop := ∃ d, flatD n d = true ∧ d.canLay0 = true ∧ ss = [.d d, .d d] ∧ r = .d (.bool true)
theorem same_leaf {c : Ct} {D : Ends} {t : TS} {d : PyData} (hd : d.canLay0 = true) (h0 : d.depth = 0) : SeqAt.shaped d = true := shp.shaped (n := 0) ⟨hd, by omega⟩
theorem ok_law_same (B : Bl mg) (F : Def K mg "_law_same" s_law_same ["_law_got", "_law_due"]) : ∀ n, Cal P w K mg base (n + 1) "_law_same" ["_law_got", "_law_due"] (p_law_same n)
  | 0 => by
    · skip
      refine okC F sc_law_same (fun ss r ⟨d, _, _, e, _⟩ => by rw [e]; rfl) fun f cdv A outer s H E hr nd hu => ⟨_, (pss_cons (ps_if (pt_val (pe_callB (k_isiT K rfl) (by rfl) B.isinstance (by decide +kernel) (pa_cons (pv 1) (pa_cons (pe_tup (pa_cons (pe_bltn (v := .ty "list") (by rfl) B.list (by decide +kernel) rfl) (pa_cons (pe_bltn (v := .ty "tuple") (by rfl) B.tuple (by decide +kernel) rfl) pa_nil))) pa_nil)))) (pss_cons (ps_if (PW.pt (pw_or (pt_cmpR op_ne (pe_callB (k_isi K rfl) (by rfl) B.isinstance (by decide +kernel) (pa_cons (pv 0) (pa_cons (pe_bltn (v := .ty "list") (by rfl) B.list (by decide +kernel) rfl) pa_nil))) (pe_callB (k_isi K rfl) (by rfl) B.isinstance (by decide +kernel) (pa_cons (pv 1) (pa_cons (pe_bltn (v := .ty "list") (by rfl) B.list (by decide +kernel) rfl) pa_nil))) (nomark _)) (pw_or1 (pt_cmpR op_ne (pe_callB (k_isi K rfl) (by rfl) B.isinstance (by decide +kernel) (pa_cons (pv 0) (pa_cons (pe_bltn (v := .ty "tuple") (by rfl) B.tuple (by decide +kernel) rfl) pa_nil))) (pe_callB (k_isi K rfl) (by rfl) B.isinstance (by decide +kernel) (pa_cons (pv 1) (pa_cons (pe_bltn (v := .ty "tuple") (by rfl) B.tuple (by decide +kernel) rfl) pa_nil))) (nomark _))))) (pss_one (ps_ret pe_bl)) pss_nil)
        (pss_one (ps_ret (pe_and (pe_cmpR op_eq (pe_callB (k_len K rfl) (by rfl) B.len boot_len (pa_cons (pv 0) pa_nil)) (pe_callB (k_len K rfl) (by rfl) B.len boot_len (pa_cons (pv 1) pa_nil)) (nomark _)) (pe_one (pe_callB (k_all K rfl rfl) (by rfl) B.all (by decide +kernel) (pa_cons (pe_fz (pe_lc (own := [("_law_mine", 2), ("_law_its", 3)]) rfl nd (RZ.pi_zipA (by rfl) B.zip (pa_cons (pv 0) (pa_cons (pv 1) pa_nil))) (blkOk_by (own := [("_law_mine", 2), ("_law_its", 3)]) (N := ["_law_got", "_law_due", "_law_mine", "_law_its"]) (sc := defScope s_law_same) (by decide +kernel)) (fun _ _ _ _ _ => (pg_tupK K rfl (n := 2) rfl (pgs_cons (pg_name (i := 2) nd rfl (Or.inl rfl)) (pgs_cons (pg_name (i := 3) nd rfl (Or.inl rfl)) pgs_nil)))) (fun _ _ _ _ _ => pts_nil) (fun _ _ _ _ _ => pe_none))) pa_nil))))))) pss_nil)
      (pss_cons (ps_if (PW.pt (pw_or (pt_cmpR op_isN (pv 1) pe_non (nomark _)) (pw_or1 (pt_val (pe_callB (k_isiT K rfl) (by rfl) B.isinstance (by decide +kernel) (pa_cons (pv 1) (pa_cons (pe_tup (pa_cons (pe_bltn (v := .ty "bool") (by rfl) B.bool (by decide +kernel) rfl) (pa_cons (pe_bltn (v := .ty "str") (by rfl) B.str (by decide +kernel) rfl) pa_nil))) pa_nil))))))) (pss_one (ps_ret (pe_and (pe_cmpR (k_eqD K rfl hr.units) (pv 0) (pv 1) (nomark _)) (pe_and (pe_cmpR op_eq (pe_callB (k_isi K rfl) (by rfl) B.isinstance (by decide +kernel) (pa_cons (pv 0) (pa_cons (pe_bltn (v := .ty "bool") (by rfl) B.bool (by decide +kernel) rfl) pa_nil))) (pe_callB (k_isi K rfl) (by rfl) B.isinstance (by decide +kernel) (pa_cons (pv 1) (pa_cons (pe_bltn (v := .ty "bool") (by rfl) B.bool (by decide +kernel) rfl) pa_nil))) (nomark _)) (pe_one (pe_cmpR op_eq (pe_cmpR op_isN (pv 0) pe_non (nomark _)) (pe_cmpR op_isN (pv 1) pe_non (nomark _)) (nomark _))))))) pss_nil)
      (pss_one (ps_ret (pe_and (pe_callB (k_isi K rfl) (by rfl) B.isinstance (by decide +kernel) (pa_cons (pv 0) (pa_cons (pe_bltn (v := .ty "int") (by rfl) B.int (by decide +kernel) rfl) pa_nil))) (pe_and (pe_not (pe_callB (k_isi K rfl) (by rfl) B.isinstance (by decide +kernel) (pa_cons (pv 0) (pa_cons (pe_bltn (v := .ty "bool") (by rfl) B.bool (by decide +kernel) rfl) pa_nil)))) (pe_one (pe_cmpR (k_eqD K rfl hr.units) (pv 0) (pv 1) (nomark _))))))))), fun ss r h c D hR => ?_⟩
      obtain ⟨d, hd, hc, rfl, rfl⟩ := h
      cases d with
      | list ds => simp [flatD] at hd
      | tuple ds => simp [flatD] at hd
      | dict ds => simp [flatD] at hd
      | none =>
        refine q_no (et_eq (et_val (ed_isi2 (ed_var rfl) kN_list kN_tuple)) rfl) ?_
        refine q_when (et_or1 (et_eq (et_test (ed_isN (ed_var rfl))) rfl)) (fun _ => ?_) fun z => nomatch z
        refine s_ret (ed_eq (ed_and (ed_eqD (ed_var rfl) (ed_var rfl) (shp.shaped (n := 0) ⟨hc, by simp [PyData.depth]⟩) (shp.shaped (n := 0) ⟨hc, by simp [PyData.depth]⟩)) fun _ => (ed_and (ed_eqB (ed_isi (ed_var rfl) kN_bool) (ed_isi (ed_var rfl) kN_bool)) fun _ => (ed_eqB (ed_isN (ed_var rfl)) (ed_isN (ed_var rfl))))) (by rw [eqv_self _ hc]; rfl)) hR
      | bool b =>
        refine q_no (et_eq (et_val (ed_isi2 (ed_var rfl) kB_list kB_tuple)) rfl) ?_
        refine q_when (et_eq (b := true) (et_or (et_test (ed_isN (ed_var rfl))) fun _ => (et_val (ed_isi2 (ed_var rfl) kB_bool kB_str))) rfl) (fun _ => ?_) fun z => nomatch z
        refine s_ret (ed_eq (ed_and (ed_eqD (ed_var rfl) (ed_var rfl) (shp.shaped (n := 0) ⟨hc, by simp [PyData.depth]⟩) (shp.shaped (n := 0) ⟨hc, by simp [PyData.depth]⟩)) fun _ => (ed_and (ed_eqB (ed_isi (ed_var rfl) kB_bool) (ed_isi (ed_var rfl) kB_bool)) fun _ => (ed_eqB (ed_isN (ed_var rfl)) (ed_isN (ed_var rfl))))) (by rw [eqv_self _ hc]; rfl)) hR
      | str b =>
        refine q_no (et_eq (et_val (ed_isi2 (ed_var rfl) kS_list kS_tuple)) rfl) ?_
        refine q_when (et_eq (b := true) (et_or (et_test (ed_isN (ed_var rfl))) fun _ => (et_val (ed_isi2 (ed_var rfl) kS_bool kS_str))) rfl) (fun _ => ?_) fun z => nomatch z
        refine s_ret (ed_eq (ed_and (ed_eqD (ed_var rfl) (ed_var rfl) (shp.shaped (n := 0) ⟨hc, by simp [PyData.depth]⟩) (shp.shaped (n := 0) ⟨hc, by simp [PyData.depth]⟩)) fun _ => (ed_and (ed_eqB (ed_isi (ed_var rfl) kS_bool) (ed_isi (ed_var rfl) kS_bool)) fun _ => (ed_eqB (ed_isN (ed_var rfl)) (ed_isN (ed_var rfl))))) (by rw [eqv_self _ hc]; rfl)) hR
      | int b =>
        refine q_no (et_eq (et_val (ed_isi2 (ed_var rfl) kI_list kI_tuple)) rfl) ?_
        refine q_no (et_eq (et_or (et_test (ed_isN (ed_var rfl))) fun _ => (et_val (ed_isi2 (ed_var rfl) kI_bool kI_str))) rfl) ?_
        refine s_ret (ed_eq (ed_and (ed_isi (ed_var rfl) kI_int) fun _ => (ed_and (ed_not (ed_isi (ed_var rfl) kI_bool)) fun _ => (ed_eqD (ed_var rfl) (ed_var rfl) (shp.shaped (n := 0) ⟨hc, by simp [PyData.depth]⟩) (shp.shaped (n := 0) ⟨hc, by simp [PyData.depth]⟩)))) (by rw [eqv_self _ hc]; rfl)) hR
  | n + 1 => by
    · have C_law_same := ok_law_same B F n
      refine okC F sc_law_same (fun ss r ⟨d, _, _, e, _⟩ => by rw [e]; rfl) fun f cdv A outer s H E hr nd hu => ⟨_, (pss_cons (ps_if (pt_val (pe_callB (k_isiT K rfl) (by rfl) B.isinstance (by decide +kernel) (pa_cons (pv 1) (pa_cons (pe_tup (pa_cons (pe_bltn (v := .ty "list") (by rfl) B.list (by decide +kernel) rfl) (pa_cons (pe_bltn (v := .ty "tuple") (by rfl) B.tuple (by decide +kernel) rfl) pa_nil))) pa_nil)))) (pss_cons (ps_if (PW.pt (pw_or (pt_cmpR op_ne (pe_callB (k_isi K rfl) (by rfl) B.isinstance (by decide +kernel) (pa_cons (pv 0) (pa_cons (pe_bltn (v := .ty "list") (by rfl) B.list (by decide +kernel) rfl) pa_nil))) (pe_callB (k_isi K rfl) (by rfl) B.isinstance (by decide +kernel) (pa_cons (pv 1) (pa_cons (pe_bltn (v := .ty "list") (by rfl) B.list (by decide +kernel) rfl) pa_nil))) (nomark _)) (pw_or1 (pt_cmpR op_ne (pe_callB (k_isi K rfl) (by rfl) B.isinstance (by decide +kernel) (pa_cons (pv 0) (pa_cons (pe_bltn (v := .ty "tuple") (by rfl) B.tuple (by decide +kernel) rfl) pa_nil))) (pe_callB (k_isi K rfl) (by rfl) B.isinstance (by decide +kernel) (pa_cons (pv 1) (pa_cons (pe_bltn (v := .ty "tuple") (by rfl) B.tuple (by decide +kernel) rfl) pa_nil))) (nomark _))))) (pss_one (ps_ret pe_bl)) pss_nil)
        (pss_one (ps_ret (pe_and (pe_cmpR op_eq (pe_callB (k_len K rfl) (by rfl) B.len boot_len (pa_cons (pv 0) pa_nil)) (pe_callB (k_len K rfl) (by rfl) B.len boot_len (pa_cons (pv 1) pa_nil)) (nomark _)) (pe_one (pe_callB (k_all K rfl rfl) (by rfl) B.all (by decide +kernel) (pa_cons (pe_fz (pe_lc (own := [("_law_mine", 2), ("_law_its", 3)]) rfl nd (RZ.pi_zipA (by rfl) B.zip (pa_cons (pv 0) (pa_cons (pv 1) pa_nil))) (blkOk_by (own := [("_law_mine", 2), ("_law_its", 3)]) (N := ["_law_got", "_law_due", "_law_mine", "_law_its"]) (sc := defScope s_law_same) (by decide +kernel)) (fun _ _ _ _ _ => (pg_tupK K rfl (n := 2) rfl (pgs_cons (pg_name (i := 2) nd rfl (Or.inl rfl)) (pgs_cons (pg_name (i := 3) nd rfl (Or.inl rfl)) pgs_nil)))) (fun _ _ _ _ _ => pts_nil) (fun _ _ _ _ _ => (pe_cal C_law_same hr (pa_cons (pv 2) (pa_cons (pv 3) pa_nil)) (hj := Nat.le_refl _))))) pa_nil))))))) pss_nil)
      (pss_cons (ps_if (PW.pt (pw_or (pt_cmpR op_isN (pv 1) pe_non (nomark _)) (pw_or1 (pt_val (pe_callB (k_isiT K rfl) (by rfl) B.isinstance (by decide +kernel) (pa_cons (pv 1) (pa_cons (pe_tup (pa_cons (pe_bltn (v := .ty "bool") (by rfl) B.bool (by decide +kernel) rfl) (pa_cons (pe_bltn (v := .ty "str") (by rfl) B.str (by decide +kernel) rfl) pa_nil))) pa_nil))))))) (pss_one (ps_ret (pe_and (pe_cmpR (k_eqD K rfl hr.units) (pv 0) (pv 1) (nomark _)) (pe_and (pe_cmpR op_eq (pe_callB (k_isi K rfl) (by rfl) B.isinstance (by decide +kernel) (pa_cons (pv 0) (pa_cons (pe_bltn (v := .ty "bool") (by rfl) B.bool (by decide +kernel) rfl) pa_nil))) (pe_callB (k_isi K rfl) (by rfl) B.isinstance (by decide +kernel) (pa_cons (pv 1) (pa_cons (pe_bltn (v := .ty "bool") (by rfl) B.bool (by decide +kernel) rfl) pa_nil))) (nomark _)) (pe_one (pe_cmpR op_eq (pe_cmpR op_isN (pv 0) pe_non (nomark _)) (pe_cmpR op_isN (pv 1) pe_non (nomark _)) (nomark _))))))) pss_nil)
      (pss_one (ps_ret (pe_and (pe_callB (k_isi K rfl) (by rfl) B.isinstance (by decide +kernel) (pa_cons (pv 0) (pa_cons (pe_bltn (v := .ty "int") (by rfl) B.int (by decide +kernel) rfl) pa_nil))) (pe_and (pe_not (pe_callB (k_isi K rfl) (by rfl) B.isinstance (by decide +kernel) (pa_cons (pv 0) (pa_cons (pe_bltn (v := .ty "bool") (by rfl) B.bool (by decide +kernel) rfl) pa_nil)))) (pe_one (pe_cmpR (k_eqD K rfl hr.units) (pv 0) (pv 1) (nomark _))))))))), fun ss r h c D hR => ?_⟩
      obtain ⟨d, hd, hc, rfl, rfl⟩ := h
      cases d with
      | dict ds => simp [flatD] at hd
      | none =>
        refine q_no (et_eq (et_val (ed_isi2 (ed_var rfl) kN_list kN_tuple)) rfl) ?_
        refine q_when (et_or1 (et_eq (et_test (ed_isN (ed_var rfl))) rfl)) (fun _ => ?_) fun z => nomatch z
        refine s_ret (ed_eq (ed_and (ed_eqD (ed_var rfl) (ed_var rfl) (shp.shaped (n := 0) ⟨hc, by simp [PyData.depth]⟩) (shp.shaped (n := 0) ⟨hc, by simp [PyData.depth]⟩)) fun _ => (ed_and (ed_eqB (ed_isi (ed_var rfl) kN_bool) (ed_isi (ed_var rfl) kN_bool)) fun _ => (ed_eqB (ed_isN (ed_var rfl)) (ed_isN (ed_var rfl))))) (by rw [eqv_self _ hc]; rfl)) hR
      | bool b =>
        refine q_no (et_eq (et_val (ed_isi2 (ed_var rfl) kB_list kB_tuple)) rfl) ?_
        refine q_when (et_eq (b := true) (et_or (et_test (ed_isN (ed_var rfl))) fun _ => (et_val (ed_isi2 (ed_var rfl) kB_bool kB_str))) rfl) (fun _ => ?_) fun z => nomatch z
        refine s_ret (ed_eq (ed_and (ed_eqD (ed_var rfl) (ed_var rfl) (shp.shaped (n := 0) ⟨hc, by simp [PyData.depth]⟩) (shp.shaped (n := 0) ⟨hc, by simp [PyData.depth]⟩)) fun _ => (ed_and (ed_eqB (ed_isi (ed_var rfl) kB_bool) (ed_isi (ed_var rfl) kB_bool)) fun _ => (ed_eqB (ed_isN (ed_var rfl)) (ed_isN (ed_var rfl))))) (by rw [eqv_self _ hc]; rfl)) hR
      | str b =>
        refine q_no (et_eq (et_val (ed_isi2 (ed_var rfl) kS_list kS_tuple)) rfl) ?_
        refine q_when (et_eq (b := true) (et_or (et_test (ed_isN (ed_var rfl))) fun _ => (et_val (ed_isi2 (ed_var rfl) kS_bool kS_str))) rfl) (fun _ => ?_) fun z => nomatch z
        refine s_ret (ed_eq (ed_and (ed_eqD (ed_var rfl) (ed_var rfl) (shp.shaped (n := 0) ⟨hc, by simp [PyData.depth]⟩) (shp.shaped (n := 0) ⟨hc, by simp [PyData.depth]⟩)) fun _ => (ed_and (ed_eqB (ed_isi (ed_var rfl) kS_bool) (ed_isi (ed_var rfl) kS_bool)) fun _ => (ed_eqB (ed_isN (ed_var rfl)) (ed_isN (ed_var rfl))))) (by rw [eqv_self _ hc]; rfl)) hR
      | int b =>
        refine q_no (et_eq (et_val (ed_isi2 (ed_var rfl) kI_list kI_tuple)) rfl) ?_
        refine q_no (et_eq (et_or (et_test (ed_isN (ed_var rfl))) fun _ => (et_val (ed_isi2 (ed_var rfl) kI_bool kI_str))) rfl) ?_
        refine s_ret (ed_eq (ed_and (ed_isi (ed_var rfl) kI_int) fun _ => (ed_and (ed_not (ed_isi (ed_var rfl) kI_bool)) fun _ => (ed_eqD (ed_var rfl) (ed_var rfl) (shp.shaped (n := 0) ⟨hc, by simp [PyData.depth]⟩) (shp.shaped (n := 0) ⟨hc, by simp [PyData.depth]⟩)))) (by rw [eqv_self _ hc]; rfl)) hR
      | list ds =>
        obtain ⟨hl, hf⟩ := flatD_list hd
        refine q_when (et_eq (b := true) (et_val (ed_isi2 (ed_var rfl) kL_list kL_tuple)) rfl) (fun _ => ?_) fun z => nomatch z
        refine q_no (et_eq (et_or (et_test (ed_neB (ed_isi (ed_var rfl) kL_list) (ed_isi (ed_var rfl) kL_list))) fun _ => (et_test (ed_neB (ed_isi (ed_var rfl) kL_tuple) (ed_isi (ed_var rfl) kL_tuple)))) rfl) ?_
        refine s_ret (ed_eq (ed_and (ed_eqI (ed_lenL (ed_var rfl)) (ed_lenL (ed_var rfl))) fun _ => (ed_all (bs := List.replicate (zipD ds ds).length true) (ed_eq (ed_lcm (fun _ => .bool true) (es_zipL (ea_cons (ed_var rfl) (ea_cons (ed_var rfl) ea_nil))) (by simp [zipD]; omega) fun d hd => ?_) (by rw [map_true])))) (by simp)) hR
        obtain ⟨x, hx, rfl⟩ := mem_zip_self hd
        exact ⟨_, tc_pair (by decide), ed_call (ea_cons (ed_var rfl) (ea_cons (ed_var rfl) ea_nil)) ⟨x, hf x hx, lay_list hc x hx, rfl, rfl⟩⟩
      | tuple ds =>
        obtain ⟨hl, hf⟩ := flatD_tuple hd
        refine q_when (et_eq (b := true) (et_val (ed_isi2 (ed_var rfl) kT_list kT_tuple)) rfl) (fun _ => ?_) fun z => nomatch z
        refine q_no (et_eq (et_or (et_test (ed_neB (ed_isi (ed_var rfl) kT_list) (ed_isi (ed_var rfl) kT_list))) fun _ => (et_test (ed_neB (ed_isi (ed_var rfl) kT_tuple) (ed_isi (ed_var rfl) kT_tuple)))) rfl) ?_
        refine s_ret (ed_eq (ed_and (ed_eqI (ed_lenT (ed_var rfl)) (ed_lenT (ed_var rfl))) fun _ => (ed_all (bs := List.replicate (zipD ds ds).length true) (ed_eq (ed_lcm (fun _ => .bool true) (es_zipT (ea_cons (ed_var rfl) (ea_cons (ed_var rfl) ea_nil))) (by simp [zipD]; omega) fun d hd => ?_) (by rw [map_true])))) (by simp)) hR
        obtain ⟨x, hx, rfl⟩ := mem_zip_self hd
        exact ⟨_, tc_pair (by decide), ed_call (ea_cons (ed_var rfl) (ea_cons (ed_var rfl) ea_nil)) ⟨x, hf x hx, lay_tuple hc x hx, rfl, rfl⟩⟩
abbrev s_law_blank : Stmt := topS 53
theorem sc_law_blank : FnScope [] [] (defScope s_law_blank) := ⟨rfl, rfl, rfl, by decide +kernel, rfl, by decide +kernel, by decide +kernel⟩
def p_law_blank (ss : List Sl) (r : Sl) : Prop := ss = [] ∧ r = .d (eRec .blank)
theorem ok_law_blank (F : Def K mg "_law_blank" s_law_blank []) : Cal P w K mg base 1 "_law_blank" [] p_law_blank := by
  refine okC F sc_law_blank (fun ss r ⟨e, _⟩ => by rw [e]; rfl) fun f cdv A outer s H E hr nd hu => ⟨_, (pss_one (ps_ret (pe_tup (pa_cons pe_str pa_nil)))), fun ss r h c D hR => ?_⟩
  obtain ⟨rfl, rfl⟩ := h
  exact s_ret (ed_tup [.str "blank"] (ea_cons ed_str ea_nil)) hR
def lawKeys : List Str := ["a", "b", "c", "d"]
def lawWords : List Str := ["x", "y", "z", "w7"]
abbrev s_law_keys : Stmt := topS 54
theorem sc_law_keys : FnScope [] [] (defScope s_law_keys) := ⟨rfl, rfl, rfl, by decide +kernel, rfl, by decide +kernel, by decide +kernel⟩
def p_law_keys (ss : List Sl) (r : Sl) : Prop := ss = [] ∧ r = .d (.list (lawKeys.map .str))
theorem ok_law_keys (F : Def K mg "_law_keys" s_law_keys []) : Cal P w K mg base 1 "_law_keys" [] p_law_keys := by
  refine okC F sc_law_keys (fun ss r ⟨e, _⟩ => by rw [e]; rfl) fun f cdv A outer s H E hr nd hu => ⟨_, (pss_one (ps_ret (pe_fz (pe_lst (pa_cons pe_str (pa_cons pe_str (pa_cons pe_str (pa_cons pe_str pa_nil)))))))), fun ss r h c D hR => ?_⟩
  obtain ⟨rfl, rfl⟩ := h
  exact s_ret (ed_lst [.str "a", .str "b", .str "c", .str "d"] (ea_cons ed_str (ea_cons ed_str (ea_cons ed_str (ea_cons ed_str ea_nil))))) hR
end
end HD
end
section
namespace HD
open PySem PySem.Spec PyProof.Rows L2
open HR (Sgl Rec dput ddrop dlook Nk parts unb fol isPart asPut Ev kept seg segR closers clo flat out val F num tab lst behind isort leKW leNK win carried carry nxt CI done)
theorem Rt.upk {c : Ct} {R : VK} {r : Sl} {a b n : Nat} (h : Rt (c.up n) R r) (hk : a + b ≤ n) : Rt ((c.up a).up b) R r := fun δ M σ H v w hr =>
  h δ M σ H v ⟨w.env, w.mem, w.ent, fun t ht => (w.own t ht).mono (by show c.z + a + b ≤ c.z + n; omega), w.imb, w.fr, w.nd⟩ hr
theorem keys_ok : ∀ x ∈ lawKeys, okW x = true := by decide +kernel
theorem words_ok : ∀ x ∈ lawWords, okW x = true := by decide +kernel
section
variable {P : Program} {w : World} {K : PySem.W.Frag} {mg : Str → Option Value} {base : Heap}
abbrev ISgl (r : Sl) : Prop := ∃ s, okS s = true ∧ r = .d (eSgl s)
abbrev s_law_single : Stmt := topS 55
theorem sc_law_single : FnScope ["_law_tin"] ["_law_tin"] (defScope s_law_single) := ⟨rfl, rfl, rfl, by decide +kernel, rfl, by decide +kernel, by decide +kernel⟩
def p_law_single (ss : List Sl) (R : Sl → Prop) : Prop := ss = [] ∧ R = ISgl
abbrev Take (P : Program) (w : World) (K : PySem.W.Frag) (mg : Str → Option Value) (base : Heap) : Prop := CalT P w K mg base 1 "_law_take" ["_law_tin", "_law_below_so"] 1 p_law_take
abbrev LawOf (P : Program) (w : World) (K : PySem.W.Frag) (mg : Str → Option Value) (base : Heap) : Prop := CalT P w K mg base 2 "_law_of" ["_law_tin", "_law_goods_so"] 1 p_law_of
theorem n_take {c : Ct} {δ : List Sl} {M : Mem} {i : Nat} {ta : Addr} {E : XK} {tb : TE} {n : Nat} (hi : δ[i]? = some (.v (.ref ta))) (ho : c.own = [ta]) (hb : Ed c tb δ M (.d (.int (n : Int)))) (h0 : 0 < n) (h1 : n ≤ 1000) (hz : c.z + 1 ≤ 2 ^ 40) :
    EdN c 1 (tCall (SpT 1 p_law_take) [] E (tCons (tVar i) (tCons tb tNil))) δ M fun r => ∃ i : Nat, i < n ∧ r = .d (.int (i : Int)) :=
  n_mono (n_draw (pre := p_law_take) hi ho (an_of (Rs := (· = [.d (.int (n : Int))])) (ea_cons hb ea_nil) rfl) (by omega) fun ss hss => ⟨n, h0, h1, hss, rfl⟩) (fun _ h => h) (by omega)
theorem n_lawof {c : Ct} {δ : List Sl} {M : Mem} {i : Nat} {ta : Addr} {E : XK} {tb : TE} {xs : List Str} (hi : δ[i]? = some (.v (.ref ta))) (ho : c.own = [ta]) (hb : Ed c tb δ M (.d (.list (xs.map .str)))) (h0 : 0 < xs.length) (h1 : xs.length ≤ 1000) (hz : c.z + 1 ≤ 2 ^ 40) :
    EdN c 1 (tCall (SpT 1 p_law_of) [] E (tCons (tVar i) (tCons tb tNil))) δ M fun r => ∃ x, x ∈ xs ∧ r = .d (.str x) :=
  n_mono (n_draw (pre := p_law_of) hi ho (an_of (Rs := (· = [.d (.list (xs.map .str))])) (ea_cons hb ea_nil) rfl) (by omega) fun ss hss => ⟨xs, h0, h1, hss, rfl⟩) (fun _ h => h) (by omega)
theorem ok_law_single (B : Bl mg) (F : Def K mg "_law_single" s_law_single ["_law_tin"]) (C_law_take : Take P w K mg base) (C_law_of : LawOf P w K mg base) (C_law_keys : Cal P w K mg base 1 "_law_keys" [] p_law_keys) : CalT P w K mg base 3 "_law_single" ["_law_tin"] 3 p_law_single := by
  refine okT F sc_law_single (fun ss R ⟨e, _⟩ => by rw [e]; rfl) fun f cdv A outer s H E hr nd hu => ⟨_, (pss_cons (ps_if (pt_cmpR op_eq (pe_calT C_law_take hr (pa_cons (pv 0) (pa_cons pe_int pa_nil))) pe_int (nomark _)) (pss_one (ps_ret (pe_tup (pa_cons pe_str (pa_cons (pe_calT C_law_of hr (pa_cons (pv 0) (pa_cons (pe_cal0 C_law_keys hr) pa_nil))) pa_nil))))) pss_nil)
      (pss_one (ps_ret (pe_tup (pa_cons pe_str (pa_cons (pe_calT C_law_of hr (pa_cons (pv 0) (pa_cons (pe_cal0 C_law_keys hr) pa_nil))) (pa_cons (pe_calT C_law_of hr (pa_cons (pv 0) (pa_cons (pe_fz (pe_lst (pa_cons pe_str (pa_cons pe_str (pa_cons pe_str (pa_cons pe_str pa_nil)))))) pa_nil))) pa_nil))))))), fun ta ss R h c D ho hz hR => ?_⟩
  obtain ⟨rfl, rfl⟩ := h
  refine q_whenN (k := 1) (tn_test (n_mono (n_op1 (j := 0) (n_take rfl ho ed_int (n := 3) (by omega) (by omega) (by omega)) fun c' x s l hs hx => ?_) (fun _ h => h) (by omega))) ?_ ?_
  · obtain ⟨i, _, rfl⟩ := hs
    exact n_of (ed_eqI (ed_kn hx) ed_int) ⟨_, rfl⟩
  · refine s_retN (k := 1) (R := ISgl) (n_mono (n_tup (Rs := fun ss => ∃ x, okW x = true ∧ ss = [.d (.str "drop"), .d (.str x)]) (an_cons (R1 := (· = .d (.str "drop"))) (n_of ed_str rfl) fun c' s l hs => an_cons (n_lawof (xs := lawKeys) rfl (l.o.trans ho) (ed_call ea_nil ⟨rfl, rfl⟩) (by decide) (by decide) (by rw [l.z]; show c.z + 1 + 0 + 1 ≤ _; omega)) fun c2 s2 l2 hs2 => an_nil ?_) ?_) (fun _ h => h) (by omega)) fun r hr => (hR r hr).upk (by omega)
    · obtain ⟨x, hx, rfl⟩ := hs2
      exact ⟨x, keys_ok x hx, by rw [hs]⟩
    · rintro ss ⟨x, hx, rfl⟩
      exact ⟨[.str "drop", .str x], rfl, by simp, .drop x, hx, rfl⟩
  · refine s_retN (k := 2) (R := ISgl) (n_mono (n_tup (Rs := fun ss => ∃ x y, okW x = true ∧ okW y = true ∧ ss = [.d (.str "put"), .d (.str x), .d (.str y)]) (an_cons (R1 := (· = .d (.str "put"))) (n_of ed_str rfl) fun c' s l hs => an_cons (n_lawof (xs := lawKeys) rfl (l.o.trans ho) (ed_call ea_nil ⟨rfl, rfl⟩) (by decide) (by decide) (by rw [l.z]; show c.z + 1 + 0 + 1 ≤ _; omega)) fun c2 s2 l2 hs2 =>
      an_cons (n_lawof (xs := lawWords) rfl (l2.o.trans (l.o.trans ho)) (ed_lst [.str "x", .str "y", .str "z", .str "w7"] (ea_cons ed_str (ea_cons ed_str (ea_cons ed_str (ea_cons ed_str ea_nil))))) (by decide) (by decide) (by rw [l2.z, l.z]; show c.z + 1 + 0 + 1 + 1 ≤ _; omega)) fun c3 s3 l3 hs3 => an_nil ?_) ?_) (fun _ h => h) (by omega)) fun r hr => (hR r hr).upk (by omega)
    · obtain ⟨x, hx, rfl⟩ := hs2
      obtain ⟨y, hy, rfl⟩ := hs3
      exact ⟨x, y, keys_ok x hx, words_ok y hy, by rw [hs]⟩
    · rintro ss ⟨x, y, hx, hy, rfl⟩
      exact ⟨[.str "put", .str x, .str y], rfl, by simp, .put x y, by simp [okS, hx, hy], rfl⟩
abbrev s_law_act : Stmt := topS 56
theorem sc_law_act : FnScope ["_law_tin", "_law_most_so", "_law_lap"] ["_law_tin", "_law_most_so"] (defScope s_law_act) := ⟨rfl, rfl, rfl, by decide +kernel, rfl, by decide +kernel, by decide +kernel⟩
abbrev IAct (r : Sl) : Prop := ∃ g, okG g = true ∧ g.singles.length ≤ 4 ∧ r = .d (eDeed g)
def p_law_act (ss : List Sl) (R : Sl → Prop) : Prop := ss = [.d (.int 4)] ∧ R = IAct
theorem n_single {c : Ct} {δ : List Sl} {M : Mem} {i : Nat} {ta : Addr} {E : XK} (hi : δ[i]? = some (.v (.ref ta))) (ho : c.own = [ta]) (hz : c.z + 3 ≤ 2 ^ 40) : EdN c 3 (tCall (SpT 3 p_law_single) [] E (tCons (tVar i) tNil)) δ M ISgl :=
  n_mono (n_draw (pre := p_law_single) hi ho (an_nil (Rs := (· = [])) rfl) (by omega) fun ss hss => ⟨hss, rfl⟩) (fun _ h => h) (by omega)
theorem sgls_of : ∀ {ds : List PyData}, (∀ d ∈ ds, ∃ s, okS s = true ∧ d = eSgl s) → ∃ ss : List Sgl, ds = ss.map eSgl ∧ ∀ s ∈ ss, okS s = true
  | [], _ => ⟨[], rfl, fun _ h => nomatch h⟩
  | d :: ds, h => by
    obtain ⟨s, hs, rfl⟩ := h d List.mem_cons_self
    obtain ⟨ss, rfl, h2⟩ := sgls_of fun d' hd' => h d' (List.mem_cons_of_mem _ hd')
    exact ⟨s :: ss, rfl, fun x hx => by
      rcases List.mem_cons.mp hx with rfl | hx
      · exact hs
      · exact h2 x hx⟩
theorem ok_law_act (B : Bl mg) (F : Def K mg "_law_act" s_law_act ["_law_tin", "_law_most_so"]) (C_law_take : Take P w K mg base) (C_law_single : CalT P w K mg base 3 "_law_single" ["_law_tin"] 3 p_law_single) : CalT P w K mg base 4 "_law_act" ["_law_tin", "_law_most_so"] 14 p_law_act := by
  refine okT F sc_law_act (fun ss R ⟨e, _⟩ => by rw [e]; rfl) fun f cdv A outer s H E hr nd hu => ⟨_, (pss_cons (ps_if (PW.pt (pw_or (pt_cmpR op_lt (pv 1) pe_int (nomark _)) (pw_or1 (pt_cmpR op_gt (pe_calT C_law_take hr (pa_cons (pv 0) (pa_cons pe_int pa_nil))) pe_int (nomark _))))) (pss_one (ps_ret (pe_calT C_law_single hr (pa_cons (pv 0) pa_nil)))) pss_nil)
      (pss_one (ps_ret (pe_tup (pa_cons pe_str (pa_cons (pe_callTy (k_tupOf K rfl) (by rfl) B.tuple (by decide +kernel) (pa_cons (pe_fz (pe_lc (own := [("_law_lap", 2)]) rfl nd (pi_range1 (by rfl) B.range (pa_cons (pe_op op_add pe_int (pe_calT C_law_take hr (pa_cons (pv 0) (pa_cons (pe_op op_sub (pv 1) pe_int) pa_nil)))) pa_nil)) (blkOk_by (own := [("_law_lap", 2)]) (N := ["_law_tin", "_law_most_so", "_law_lap"]) (sc := defScope s_law_act) (by decide +kernel)) (fun _ _ _ _ _ => (pg_name (i := 2) nd rfl (Or.inl rfl))) (fun _ _ _ _ _ => pts_nil) (fun _ _ _ _ _ => (pe_calT C_law_single hr (pa_cons (pv 0) pa_nil))))) pa_nil)) pa_nil)))))), fun ta ss R h c D ho hz hR => ?_⟩
  obtain ⟨rfl, rfl⟩ := h
  refine q_whenN (k := 0 + (1 + 0)) (tn_or (tn_of (et_test (ed_lt (ed_var rfl) ed_int))) fun c' l => tn_test (n_op1 (n_take rfl (l.o.trans ho) ed_int (n := 3) (by omega) (by omega) (by rw [l.z]; omega)) fun c2 x s l2 hs hx => ?_)) ?_ ?_
  · obtain ⟨i, _, rfl⟩ := hs
    exact n_of (ed_gt (ed_kn hx) ed_int) ⟨_, rfl⟩
  · refine s_retN (k := 3) (R := ISgl) (n_single rfl ho (by show c.z + (0 + (1 + 0)) + 3 ≤ _; omega)) fun r hr => ?_
    obtain ⟨s, hs, rfl⟩ := hr
    exact (hR _ ⟨.one s, hs, by simp [Deed.singles], rfl⟩).upk (by omega)
  · refine s_retN (k := 13) (R := IAct) (n_mono (n_tup (k := 0 + ((1 + 4 * 3) + 0 + 0)) (Rs := fun ss => ∃ sg : List Sgl, 2 ≤ sg.length ∧ sg.length ≤ 4 ∧ (∀ s ∈ sg, okS s = true) ∧ ss = [.d (.str "lot"), .d (eSs sg)]) (an_cons (R1 := (· = .d (.str "lot"))) (n_of ed_str rfl) fun c' s l hs =>
      an_cons (R1 := fun r => ∃ sg : List Sgl, 2 ≤ sg.length ∧ sg.length ≤ 4 ∧ (∀ s ∈ sg, okS s = true) ∧ r = .d (eSs sg)) (n_cb (k := (1 + 4 * 3) + 0) (Rs := fun ss => ∃ ds : List PyData, (2 ≤ ds.length ∧ ds.length ≤ 4 ∧ ∀ d ∈ ds, ∃ s, okS s = true ∧ d = eSgl s) ∧ ss = [.d (.list ds)]) (an_cons (n_lc (j := 1) (k := 3) (nmin := 2) (nmax := 4) (P := fun d => ∃ s, okS s = true ∧ d = eSgl s) ?_ (by omega) ?_) fun c2 s2 l2 hs2 => an_nil ?_) ?_) fun c3 s3 l3 hs3 => an_nil ?_) ?_) (fun _ h => h) (by omega)) fun r hr => (hR r hr).upk (by omega)
    · refine n_mono (n_op2 (k := 1) (j := 0) (n_take rfl (l.o.trans ho) (ed_eq (s' := .d (.int ((3 : Nat) : Int))) (ed_sub (ed_var rfl) ed_int) rfl) (by omega) (by omega) (by rw [l.z]; show c.z + (0 + (1 + 0)) + 0 + 1 ≤ _; omega)) fun c2 y s2 l2 hs2 hy => ?_) (fun _ h => h) (by omega)
      obtain ⟨i, hi, rfl⟩ := hs2
      exact n_of (ed_add ed_int (ed_kn hy)) ⟨2 + i, by omega, by omega, by show Sl.d (.int (2 + (i : Int))) = Sl.d (.int ((2 + i : Nat) : Int)); rw [show ((2 + i : Nat) : Int) = 2 + (i : Int) by omega]⟩
    · intro c2 i M1 ho2 hz2 hi
      have e : c'.z = c.z + (0 + (1 + 0)) + 0 := l.z
      refine n_mono (n_single rfl (ho2.trans (l.o.trans ho)) (by omega)) (fun r hr => ?_) (Nat.le_refl _)
      obtain ⟨s, hs, rfl⟩ := hr
      exact ⟨_, ⟨s, hs, rfl⟩, rfl⟩
    · obtain ⟨ds, h1, h2, h3, rfl⟩ := hs2
      exact ⟨ds, ⟨h1, h2, h3⟩, rfl⟩
    · rintro ss ⟨ds, ⟨h1, h2, h3⟩, rfl⟩
      obtain ⟨sg, rfl, h4⟩ := sgls_of h3
      rw [List.length_map] at h1 h2
      refine ⟨_, ⟨sg, h1, h2, h4, rfl⟩, fun H vs hv Q k => ?_⟩
      obtain ⟨v, rfl, a, o, xs, rfl, g1, g2⟩ := sl1 hv
      exact ⟨a, xs, rfl, .inl ⟨.inl (.inr ⟨o, g1⟩), fun l hl => k _ _ (Same.new hl) ⟨l, xs, rfl, .inl upd_same, DiA.mono (.new hl) _ _ g2⟩⟩⟩
    · obtain ⟨sg, h1, h2, h3, rfl⟩ := hs3
      exact ⟨sg, h1, h2, h3, by rw [hs]⟩
    · rintro ss ⟨sg, h1, h2, h3, rfl⟩
      refine ⟨[.str "lot", eSs sg], rfl, by simp, .lot sg, ?_, h2, rfl⟩
      have h3' : sg.all okS = true := List.all_eq_true.mpr h3
      simp [okG, h1, h3']
      omega
abbrev s_law_parts : Stmt := topS 57
theorem sc_law_parts : FnScope ["_law_act_here", "_law_rows_so", "_law_k", "_law_own"] ["_law_act_here"] (defScope s_law_parts) := ⟨rfl, rfl, rfl, by decide +kernel, rfl, by decide +kernel, by decide +kernel⟩
def p_law_parts (ss : List Sl) (r : Sl) : Prop := ∃ g, okG g = true ∧ ss = [.d (eDeed g)] ∧ r = .d (eRecsL (parts g.singles))
theorem ok_law_parts (B : Bl mg) (F : Def K mg "_law_parts" s_law_parts ["_law_act_here"]) : Cal P w K mg base 1 "_law_parts" ["_law_act_here"] p_law_parts := by
  refine okC F sc_law_parts (fun ss r ⟨g, _, e, _⟩ => by rw [e]; rfl) fun f cdv A outer s H E hr nd hu => ⟨_, (pss_cons (ps_set (i := 1) nd rfl (Or.inr rfl) (pe_ifExp (pt_cmpR op_eq (pe_ix (k_ixT K rfl) (pv 0) pe_int (fun _ _ => rfl)) pe_str (nomark _)) (pe_ix (k_ixT K rfl) (pv 0) pe_int (fun _ _ => rfl)) (pe_tup (pa_cons (pv 0) pa_nil))))
      (pss_one (ps_ret (pe_fz (pe_lc (own := [("_law_k", 2), ("_law_own", 3)]) rfl nd (pi_enumT (by rfl) B.enumerate (pa_cons (pv 1) pa_nil)) (blkOk_by (own := [("_law_k", 2), ("_law_own", 3)]) (N := ["_law_act_here", "_law_rows_so", "_law_k", "_law_own"]) (sc := defScope s_law_parts) (by decide +kernel)) (fun _ _ _ _ _ => (pg_tupK K rfl (n := 2) rfl (pgs_cons (pg_name (i := 2) nd rfl (Or.inl rfl)) (pgs_cons (pg_name (i := 3) nd rfl (Or.inl rfl)) pgs_nil)))) (fun _ _ _ _ _ => pts_nil) (fun _ _ _ _ _ => (pe_op (k_catA K rfl) (pv 3) (pe_tup (pa_cons (pv 2) (pa_cons (pe_op op_sub (pe_op op_sub (pe_callB (k_len K rfl) (by rfl) B.len boot_len (pa_cons (pv 1) pa_nil)) pe_int) (pv 2)) pa_nil)))))))))), fun ss r h c D hR => ?_⟩
  obtain ⟨g, hg, rfl, rfl⟩ := h
  have hl := okG_len hg
  refine q_set (s := .d (eSs g.singles)) ?_ ?_
  · cases g with
    | lot ls => exact ed_if (b := true) (et_eq (et_test (ed_eqS (ed_ixT (ed_var rfl) ed_int rfl) ed_str)) rfl) (fun _ => (ed_ixT (ed_var rfl) ed_int rfl)) fun z => nomatch z
    | one s =>
      cases s with
      | put k x => exact ed_if (b := false) (et_eq (et_test (ed_eqS (ed_ixT (ed_var rfl) ed_int rfl) ed_str)) rfl) (fun z => nomatch z) fun _ => (ed_tup [eSgl (.put k x)] (ea_cons (ed_var rfl) ea_nil) rfl (by simp))
      | drop k => exact ed_if (b := false) (et_eq (et_test (ed_eqS (ed_ixT (ed_var rfl) ed_int rfl) ed_str)) rfl) (fun z => nomatch z) fun _ => (ed_tup [eSgl (.drop k)] (ea_cons (ed_var rfl) ea_nil) rfl (by simp))
  refine s_ret (ed_eq (ed_lcm (partF g.singles.length) (es_enumT (ds := g.singles.map eSgl) (ea_cons (ed_var rfl) ea_nil)) (by simp [enumD]; omega) fun d hd => ?_) ?_) hR
  · obtain ⟨i, x, hi, rfl⟩ := mem_enumD hd
    rw [List.getElem?_map] at hi
    cases hq : g.singles[i]? with
    | none => rw [hq] at hi; cases hi
    | some s =>
      rw [hq] at hi
      cases hi
      refine ⟨_, tc_pair (by decide), ed_eq (ed_catT (ds := eS s) (es := [.int (i : Int), .int (((g.singles.map eSgl).length : Int) - 1 - (i : Int))]) (ed_var rfl) (ed_tup [.int (i : Int), .int (((g.singles.map eSgl).length : Int) - 1 - (i : Int))] (ea_cons (ed_var rfl) (ea_cons (ed_sub (ed_sub (ed_lenT (ed_var rfl)) ed_int) (ed_var rfl)) ea_nil)) rfl (by simp)) (by cases s <;> simp [eS])) ?_⟩
      rw [List.length_map]; rfl
  · rw [enum_parts]; rfl
end
end HD
end
section
namespace HD
open PySem PySem.Spec PyProof.Rows L2
open HR (Sgl Rec dput ddrop dlook Nk parts unb fol isPart asPut Ev kept seg segR closers clo flat out val F num tab lst behind isort leKW leNK win carried carry nxt CI done)
theorem up_up (c : Ct) (a b : Nat) : (c.up a).up b = c.up (a + b) := by
  unfold Ct.up
  simp [Nat.add_assoc]
/-- what may follow any row -/
def Foll (rs : List Rec) : Prop := ∀ pre, unb pre = true → unb (pre ++ rs) = true
theorem foll_nil : Foll [] := fun pre h => by rw [List.append_nil]; exact h
theorem foll_parts {rs : List Rec} (h : Foll rs) (sg : List Sgl) (j : Nat) : Foll (rs ++ (parts sg).take j) := fun pre hp => by
  rw [← List.append_assoc]
  exact HR.unb_parts (h pre hp) sg j
theorem fol_blank (a : Rec) : fol a .blank = true := by cases a <;> rfl
theorem foll_blank {rs : List Rec} (h : Foll rs) : Foll (rs ++ [.blank]) := fun pre hp => by
  rw [← List.append_assoc]
  exact HR.unb_snoc (h pre hp) fun a _ => fol_blank a
theorem unb_blanks : ∀ n, unb (List.replicate n Rec.blank) = true
  | 0 => rfl
  | 1 => rfl
  | n + 2 => by
    have := unb_blanks (n + 1)
    show (fol .blank .blank && unb (List.replicate (n + 1) Rec.blank)) = true
    rw [this]; rfl
section
variable {P : Program} {w : World} {K : PySem.W.Frag} {mg : Str → Option Value} {base : Heap}
abbrev s_law_fresh : Stmt := topS 63
theorem sc_law_fresh : FnScope ["_law_tin", "_law_most_so", "_law_found", "_law_lap", "_law_parts_so"] ["_law_tin", "_law_most_so"] (defScope s_law_fresh) := ⟨rfl, rfl, rfl, by decide +kernel, rfl, by decide +kernel, by decide +kernel⟩
abbrev IFresh (r : Sl) : Prop := ∃ rs, Foll rs ∧ (∀ x ∈ rs, okR x = true) ∧ rs.length ≤ 32 ∧ r = .d (eRecsL rs)
def p_law_fresh (ss : List Sl) (R : Sl → Prop) : Prop := ∃ W : Nat, 1 ≤ W ∧ W ≤ 8 ∧ ss = [.d (.int (W : Int))] ∧ R = IFresh
theorem n_act {c : Ct} {δ : List Sl} {M : Mem} {i : Nat} {ta : Addr} {E : XK} (hi : δ[i]? = some (.v (.ref ta))) (ho : c.own = [ta]) (hz : c.z + 14 ≤ 2 ^ 40) : EdN c 14 (tCall (SpT 14 p_law_act) [] E (tCons (tVar i) (tCons (tC (.int 4)) tNil))) δ M IAct :=
  n_mono (n_draw (pre := p_law_act) hi ho (an_of (Rs := (· = [.d (.int 4)])) (ea_cons ed_int ea_nil) rfl) (by omega) fun ss hss => ⟨hss, rfl⟩) (fun _ h => h) (by omega)
theorem ok_law_fresh (B : Bl mg) (F : Def K mg "_law_fresh" s_law_fresh ["_law_tin", "_law_most_so"]) (C_law_take : Take P w K mg base) (C_law_act : CalT P w K mg base 4 "_law_act" ["_law_tin", "_law_most_so"] 14 p_law_act) (C_law_parts : Cal P w K mg base 1 "_law_parts" ["_law_act_here"] p_law_parts) (C_law_blank : Cal P w K mg base 1 "_law_blank" [] p_law_blank) : CalT P w K mg base 5 "_law_fresh" ["_law_tin", "_law_most_so"] 137 p_law_fresh := by
  refine okT F sc_law_fresh (fun ss R ⟨W, _, _, e, _⟩ => by rw [e]; rfl) fun f cdv A outer s H E hr nd hu => ⟨_, (pss_cons (ps_set (i := 2) nd rfl (Or.inl rfl) (pe_fz (pe_lst pa_nil)))
      (pss_cons (ps_for PassesOwn.never rfl (pi_range1 (by rfl) B.range (pa_cons (pe_op op_add pe_int (pe_calT C_law_take hr (pa_cons (pv 0) (pa_cons (pv 1) pa_nil)))) pa_nil)) (pg_name (i := 3) nd rfl (Or.inl rfl))
      (pss_cons (ps_set (i := 4) nd rfl (Or.inl rfl) (pe_cal C_law_parts hr (pa_cons (pe_calT C_law_act hr (pa_cons (pv 0) (pa_cons pe_int pa_nil))) pa_nil)))
        (pss_cons (ps_if (pt_cmpR op_eq (pe_calT C_law_take hr (pa_cons (pv 0) (pa_cons pe_int pa_nil))) pe_int (nomark _)) (pss_one (ps_set (i := 4) nd rfl (Or.inl rfl) (pe_fz (pe_slice (k_slL K rfl) (pv 4) po_none (po_some (pe_op op_add pe_int (pe_calT C_law_take hr (pa_cons (pv 0) (pa_cons (pe_callB (k_len K rfl) (by rfl) B.len boot_len (pa_cons (pv 4) pa_nil)) pa_nil))))))))) pss_nil)
        (pss_one (ps_set (i := 2) nd rfl (Or.inl rfl) (pe_fz (pe_op op_catL (pv 2) (pe_ifExp (pt_cmpR op_eq (pe_calT C_law_take hr (pa_cons (pv 0) (pa_cons pe_int pa_nil))) pe_int (nomark _)) (pe_fz (pe_lst (pa_cons (pe_cal0 C_law_blank hr) pa_nil))) (pv 4)))))))))
      (pss_one (ps_ret (pv 2))))), fun ta ss R h c D ho hz hR => ?_⟩
  obtain ⟨W, hW1, hW2, rfl, rfl⟩ := h
  refine q_set (ed_lst [] ea_nil) ?_
  refine q_forR (iv := 3) (nmax := W) (j := 1) (k := 17) (n_mono (n_op2 (k := 1) (j := 0) (n_take rfl ho (ed_var rfl) hW1 (by omega) (by omega)) fun c2 y s2 l2 hs2 hy => ?_) (fun _ h => h) (by omega)) (by omega)
    (fun i δ M => ∃ rs a b, Foll rs ∧ (∀ x ∈ rs, okR x = true) ∧ rs.length ≤ 4 * i ∧ δ = [.v (.ref ta), .d (.int (W : Int)), .d (eRecsL rs), a, b] ∧ M = []) ⟨[], _, _, foll_nil, (fun _ h => nomatch h), by simp, rfl, rfl⟩ ?_ ?_
  · obtain ⟨i, hi, rfl⟩ := hs2
    exact n_of (ed_add ed_int (ed_kn hy)) ⟨1 + i, by omega, by show Sl.d (.int (1 + (i : Int))) = Sl.d (.int ((1 + i : Nat) : Int)); rw [show ((1 + i : Nat) : Int) = 1 + (i : Int) by omega]⟩
  · rintro i c' δ1 M1 hi l ⟨rs, a, b, hF, hok, hl, q1, q2⟩ N hN
    subst q1 q2
    have hm : i * 17 ≤ 7 * 17 := Nat.mul_le_mul_right 17 (by omega)
    have hz' : c'.z + 17 ≤ 2 ^ 40 := by rw [l.z]; omega
    have ho' : c'.own = [ta] := l.o.trans ho
    refine q_setN (k := 14) (R := fun r => ∃ g, okG g = true ∧ g.singles.length ≤ 4 ∧ r = .d (eRecsL (parts g.singles))) (n_mono (n_call (Rs := fun ss => ∃ g, okG g = true ∧ g.singles.length ≤ 4 ∧ ss = [.d (eDeed g)]) (an_cons (n_act rfl ho' (by omega)) fun c2 s2 l2 hs2 => an_nil ?_) ?_) (fun _ h => h) (by omega)) ?_
    · obtain ⟨g, h1, h2, rfl⟩ := hs2
      exact ⟨g, h1, h2, rfl⟩
    · rintro ss ⟨g, h1, h2, rfl⟩
      exact ⟨_, ⟨g, h1, h2, rfl⟩, g, h1, rfl, rfl⟩
    rintro _ ⟨g, hg, hgl, rfl⟩
    have hgo := parts_okR (okG_all hg)
    have hpl := HR.parts_length g.singles
    have hg1 := okG_len hg
    -- the rest, whatever part of the deed is taken
    have cont : ∀ (D' : Ends), D'.nx = N → ∀ (n j : Nat), n ≤ 16 → Do (c'.up n) D' (tAsg (tFz (tOp rCatL (tVar 2) (tIf (tTest (tOp rEq (tCall (SpT 1 p_law_take) [] E0 (tCons (tVar 0) (tCons (tC (.int 9)) tNil))) (tC (.int 0)))) (tFz (tLst (tCons (tCall (SpD p_law_blank) [] E0 tNil) tNil))) (tVar 4)))) (gName 2)) [.v (.ref ta), .d (.int (W : Int)), .d (eRecsL rs), .d (.int (i : Int)), .d (eRecsL ((parts g.singles).take j))] [] := by
      intro D' hD' n j hn
      refine s_setN (k := 0 + (1 + 0 + 0)) (R := fun r => ∃ blk, (blk = [.blank] ∨ blk = (parts g.singles).take j) ∧ r = .d (eRecsL (rs ++ blk))) (n_opF1 (R1 := (· = .d (eRecsL rs))) (n_of (ed_var rfl) rfl) fun c2 x s2 l2 hs2 hx => ?_) ?_
      · subst hs2
        refine n_opF2 (k := 1 + 0) (Rb := fun r => ∃ blk, (blk = [.blank] ∨ blk = (parts g.singles).take j) ∧ r = .d (eRecsL blk)) (n_if (k := 1) (j := 0) (tn_test (n_mono (n_op1 (j := 0) (n_take rfl (l2.o.trans ho') ed_int (n := 9) (by omega) (by omega) (by rw [l2.z]; show c'.z + n + 0 + 1 ≤ _; omega)) fun c3 x s3 l3 hs3 hx => ?_) (fun _ h => h) (by omega))) (fun c3 l3 => n_of (ed_lst [eRec .blank] (ea_cons (ed_call ea_nil ⟨rfl, rfl⟩) ea_nil) rfl (by simp)) ⟨_, .inl rfl, rfl⟩) fun c3 l3 => n_of (ed_var rfl) ⟨_, .inr rfl, rfl⟩) fun c3 y s3 l3 hs3 hy => ?_
        · obtain ⟨i, _, rfl⟩ := hs3
          exact n_of (ed_eqI (ed_kn hx) ed_int) ⟨_, rfl⟩
        · obtain ⟨blk, hb, rfl⟩ := hs3
          have hbl : blk.length ≤ 4 := by
            rcases hb with rfl | rfl
            · simp
            · rw [List.length_take]; omega
          refine n_of (ed_catL (ds := rs.map eRec) (es := blk.map eRec) (ed_kn (hx.lz l3)) (ed_kn hy) (by rw [List.length_map, List.length_map]; omega)) ⟨blk, hb, ?_⟩
          unfold eRecsL
          rw [List.map_append]
      · rintro _ ⟨blk, hb, rfl⟩
        rw [up_up, hD']
        have hI : Nx (c'.up 17) N _ [] := hN [.v (.ref ta), .d (.int (W : Int)), .d (eRecsL (rs ++ blk)), .d (.int (i : Int)), .d (eRecsL ((parts g.singles).take j))] [] ⟨rs ++ blk, _, _, ?_, ?_, ?_, rfl, rfl⟩
        · exact fun σ H w => hI σ H (w.ups (by omega))
        · rcases hb with rfl | rfl
          · exact foll_blank hF
          · exact foll_parts hF _ _
        · intro x hx
          rcases List.mem_append.mp hx with hx | hx
          · exact hok x hx
          · rcases hb with rfl | rfl
            · rw [List.mem_singleton.mp hx]; rfl
            · exact hgo x (List.mem_of_mem_take hx)
        · rw [List.length_append]
          have hbl : blk.length ≤ 4 := by
            rcases hb with rfl | rfl
            · simp
            · rw [List.length_take]; omega
          omega
    refine q_whenN (k := 1) (tn_test (n_mono (n_op1 (j := 0) (n_take rfl ho' ed_int (n := 4) (by omega) (by omega) (by show c'.z + 14 + 1 ≤ _; omega)) fun c3 x s3 l3 hs3 hx => ?_) (fun _ h => h) (by omega))) ?_ ?_
    · obtain ⟨i, _, rfl⟩ := hs3
      exact n_of (ed_eqI (ed_kn hx) ed_int) ⟨_, rfl⟩
    · refine s_setN (k := 0 + (0 + 1 + 0)) (R := fun r => ∃ j, r = .d (eRecsL ((parts g.singles).take j))) (n_slF (R1 := (· = .d (eRecsL (parts g.singles)))) (n_of (ed_var rfl) rfl) fun c2 x s2 l2 hs2 hx => ?_) ?_
      · subst hs2
        refine n_slH (k := 0 + 1) (j := 0) (Rb := fun r => ∃ j : Nat, r = .d (.int (j : Int))) (n_op2 (k := 1) (j := 0) (n_take (n := g.singles.length) rfl (l2.o.trans ho') (ed_eq (ed_lenL (ds := (parts g.singles).map eRec) (ed_var rfl)) (by rw [List.length_map, hpl])) (by omega) (by omega) (by rw [l2.z]; show c'.z + 14 + 1 + 0 + 1 ≤ _; omega)) fun c3 y s3 l3 hs3 hy => ?_) fun c3 y s3 l3 hs3 hy => ?_
        · obtain ⟨i, hi, rfl⟩ := hs3
          exact n_of (ed_add ed_int (ed_kn hy)) ⟨1 + i, by show Sl.d (.int (1 + (i : Int))) = Sl.d (.int ((1 + i : Nat) : Int)); rw [show ((1 + i : Nat) : Int) = 1 + (i : Int) by omega]⟩
        · obtain ⟨j, rfl⟩ := hs3
          refine n_of (ed_slL (ds := (parts g.singles).map eRec) (ed_kn (hx.lz l3)) eo_none (eo_some (ed_kn hy))) ⟨j, ?_⟩
          rw [cutD_to, ← List.map_take]; rfl
      · rintro _ ⟨j, rfl⟩
        rw [up_up, up_up]
        exact cont _ rfl _ j (by omega)
    · rw [up_up, show eRecsL (parts g.singles) = eRecsL ((parts g.singles).take (parts g.singles).length) by rw [List.take_length]]
      exact cont _ rfl _ _ (by omega)
  · rintro n δ1 M1 hn ⟨rs, a, b, hF, hok, hl, q1, q2⟩
    subst q1 q2
    have hm : W * 17 ≤ 8 * 17 := Nat.mul_le_mul_right 17 hW2
    exact s_ret (ed_var rfl) ((hR _ ⟨rs, hF, hok, by omega, rfl⟩).ups (by omega))
abbrev s_law_held : Stmt := topS 64
theorem sc_law_held : FnScope ["_law_tin", "_law_wide_so"] ["_law_tin", "_law_wide_so"] (defScope s_law_held) := ⟨rfl, rfl, rfl, by decide +kernel, rfl, by decide +kernel, by decide +kernel⟩
abbrev IHeld (W : Nat) (r : Sl) : Prop := ∃ rs, unb rs = true ∧ (∀ x ∈ rs, okR x = true) ∧ rs.length = W ∧ r = .d (eRecsL rs)
def p_law_held (ss : List Sl) (R : Sl → Prop) : Prop := ∃ W : Nat, 1 ≤ W ∧ W ≤ 8 ∧ ss = [.d (.int (W : Int))] ∧ R = IHeld W
theorem ok_law_held (B : Bl mg) (F : Def K mg "_law_held" s_law_held ["_law_tin", "_law_wide_so"]) (C_law_fresh : CalT P w K mg base 5 "_law_fresh" ["_law_tin", "_law_most_so"] 137 p_law_fresh) (C_law_blank : Cal P w K mg base 1 "_law_blank" [] p_law_blank) : CalT P w K mg base 6 "_law_held" ["_law_tin", "_law_wide_so"] 137 p_law_held := by
  refine okT F sc_law_held (fun ss R ⟨W, _, _, e, _⟩ => by rw [e]; rfl) fun f cdv A outer s H E hr nd hu => ⟨_, (pss_one (ps_ret (pe_fz (pe_slice (k_slL K rfl) (pe_fz (pe_op op_catL (pe_fz (pe_op op_rep ((pe_lst (pa_cons (pe_cal0 C_law_blank hr) pa_nil))) (pv 1))) (pe_calT C_law_fresh hr (pa_cons (pv 0) (pa_cons (pv 1) pa_nil))))) (po_some (pe_un un_neg (pv 1))) po_none)))), fun ta ss R h c D ho hz hR => ?_⟩
  obtain ⟨W, hW1, hW2, rfl, rfl⟩ := h
  refine s_retN (k := (0 + (137 + 0)) + 0) (R := IHeld W) (n_slF (R1 := fun r => ∃ rs, Foll rs ∧ (∀ x ∈ rs, okR x = true) ∧ rs.length ≤ 32 ∧ r = .d (eRecsL (List.replicate W .blank ++ rs))) (n_opF1 (R1 := (· = .d (.list (List.replicate W (eRec .blank))))) (n_of (ed_rep1 (ed_call ea_nil ⟨rfl, rfl⟩) (fun M => ed_var rfl) (by omega)) rfl) fun c2 x s2 l2 hs2 hx => ?_) fun c2 x s2 l2 hs2 hx => ?_) fun r hr => (hR r hr).ups (by omega)
  · subst hs2
    refine n_opF2 (Rb := IFresh) (n_mono (n_draw (cost := 137) (pre := p_law_fresh) rfl (l2.o.trans ho) (an_of (Rs := (· = [.d (.int (W : Int))])) (ea_cons (ed_var rfl) ea_nil) rfl) (by rw [l2.z]; omega) fun ss hss => ⟨W, hW1, hW2, hss, rfl⟩) (fun _ h => h) (by omega)) fun c3 y s3 l3 hs3 hy => ?_
    obtain ⟨rs, h1, h2, h3, rfl⟩ := hs3
    refine n_of (ed_catL (ds := List.replicate W (eRec .blank)) (es := rs.map eRec) (ed_kn (hx.lz l3)) (ed_kn hy) (by rw [List.length_map, List.length_replicate]; omega)) ⟨rs, h1, h2, h3, ?_⟩
    unfold eRecsL
    rw [List.map_append, List.map_replicate]
  · obtain ⟨rs, h1, h2, h3, rfl⟩ := hs2
    have hu := h1 _ (unb_blanks W)
    refine n_of (ed_slL (ds := (List.replicate W Rec.blank ++ rs).map eRec) (ed_kn hx) (eo_some (ed_neg (ed_var rfl))) eo_none) ⟨(List.replicate W Rec.blank ++ rs).drop ((List.replicate W Rec.blank ++ rs).length - W), HR.unb_drop _ hu, fun x hx => ?_, ?_, ?_⟩
    · have hx := List.mem_of_mem_drop hx
      rcases List.mem_append.mp hx with hx | hx
      · rw [List.eq_of_mem_replicate hx]; rfl
      · exact h2 x hx
    · rw [List.length_drop, List.length_append, List.length_replicate]; omega
    · rw [cutD_last _ _ hW1, List.length_map, ← List.map_drop]; rfl
end
end HD
end
section
namespace HD
open PySem PySem.Spec PyProof.Rows L2
open HR (Sgl Rec dput ddrop dlook Nk parts unb fol isPart asPut Ev kept seg segR closers clo flat out val F num tab lst behind isort leKW leNK win carried carry nxt CI done)
def iAlt (a b : TI) : TI := fun σ H R => a σ H R ∨ b σ H R
theorem pi_alt {X : Cx} {tg e : Expr} {a b : TI} (h : PI X tg e a) (h' : PI X tg e b) : PI X tg e (iAlt a b) := ⟨fun pins s σ H R I hw => hw.elim (h.run pins s σ H R I) (h'.run pins s σ H R I)⟩
theorem es_altL {c : Ct} {δ : List Sl} {M : Mem} {a b : TI} {ds : List PyData} (h : Es c a δ M ds) : Es c (iAlt a b) δ M ds := fun σ H w R k => .inl (h σ H w R k)
theorem es_altR {c : Ct} {δ : List Sl} {M : Mem} {a b : TI} {ds : List PyData} (h : Es c b δ M ds) : Es c (iAlt a b) δ M ds := fun σ H w R k => .inr (h σ H w R k)
/-- a row as a list or as a tuple -/
def eRX (t : Bool) (rs : List Rec) : PyData := if t then eRecs rs else eRecsL rs
theorem dput_mapk {α β : Type} (g : Str → α → β) (d : List (Str × α)) (k : Str) (v : α) : dput (d.map fun e => (e.1, g e.1 e.2)) k (g k v) = (dput d k v).map fun e => (e.1, g e.1 e.2) := by
  unfold HR.dput
  have e1 : ((d.map fun e => (e.1, g e.1 e.2)).any fun e => decide (e.1 = k)) = d.any fun e => decide (e.1 = k) := by
    rw [List.any_map]; rfl
  rw [e1]
  split
  · rw [List.map_map, List.map_map]
    apply List.map_congr_left
    intro e _
    show (if e.1 = k then (e.1, g k v) else (e.1, g e.1 e.2)) = ((fun e : Str × α => (e.1, g e.1 e.2)) (if e.1 = k then (e.1, v) else e))
    split
    · rename_i h; rw [h]
    · rfl
  · rw [List.map_append]; rfl
/-- a dict that holds None where nothing stands -/
def oG {α : Type} (g : Str → α → PyData) (k : Str) : Option α → PyData
  | some v => g k v
  | none => .none
def dG {α : Type} (g : Str → α → PyData) (d : List (Str × Option α)) : List (Str × PyData) := d.map fun e => (e.1, oG g e.1 e.2)
theorem dG_put {α : Type} (g : Str → α → PyData) (d : List (Str × Option α)) (k : Str) (v : Option α) : dput (dG g d) k (oG g k v) = dG g (dput d k v) := dput_mapk (oG g) d k v
def hF (kvs : List (Str × PyData)) (mk : Str → PyData → PyData) : PyData → Option PyData
  | .str k => match dlook kvs k with
    | some v => if isN v then none else some (mk k v)
    | none => none
  | _ => none
theorem dlook_mapk {α β : Type} (g : Str → α → β) (k : Str) : ∀ d : List (Str × α), dlook (d.map fun e => (e.1, g e.1 e.2)) k = (dlook d k).map (g k)
  | [] => rfl
  | e :: d => by
    rw [List.map_cons, HR.dlook_cons, HR.dlook_cons, dlook_mapk g k d]
    by_cases h : e.1 = k
    · rw [if_pos h, if_pos h]
      show some (g e.1 e.2) = some (g k e.2)
      rw [h]
    · rw [if_neg h, if_neg h]
theorem keys_kept {α β : Type} {g : Str → α → PyData} {f : Str → α → β} {enc : β → PyData} {mk : Str → PyData → PyData} {d : List (Str × Option α)} (hn : Nk d) (h0 : ∀ k v, isN (g k v) = false) (hm : ∀ k v, mk k (g k v) = enc (f k v)) :
    (keysD (sK (dG g d))).filterMap (hF (dG g d) mk) = (kept f d).map enc := by
  have aux : ∀ l : List (Str × Option α), (∀ e ∈ l, e ∈ d) → (keysD (sK (dG g l))).filterMap (hF (dG g d) mk) = (kept f l).map enc := by
    intro l
    induction l with
    | nil => intro _; rfl
    | cons e l ih =>
      intro hl
      obtain ⟨k, v⟩ := e
      have ih := ih fun q hq => hl q (List.mem_cons_of_mem _ hq)
      have hk : dlook (dG g d) k = some (oG g k v) := by
        unfold dG
        rw [dlook_mapk (oG g) k d, (HR.look_mem hn k v).mp (hl (k, v) List.mem_cons_self)]
        rfl
      have hh : hF (dG g d) mk (.str k) = if isN (oG g k v) then none else some (mk k (oG g k v)) := by
        show (match dlook (dG g d) k with | some v => if isN v then none else some (mk k v) | none => none) = _
        rw [hk]
      show ((PyData.str k) :: keysD (sK (dG g l))).filterMap (hF (dG g d) mk) = _
      rw [List.filterMap_cons, hh, ih]
      cases v with
      | none => rfl
      | some v =>
        rw [show oG g k (some v) = g k v from rfl, h0, hm]
        rfl
  exact aux d fun _ h => h
theorem mem_keys {α : Type} {g : Str → α → PyData} {d : List (Str × Option α)} {x : PyData} (h : x ∈ keysD (sK (dG g d))) : ∃ k v, (k, v) ∈ d ∧ x = .str k := by
  obtain ⟨p, hp, rfl⟩ := List.mem_map.mp h
  obtain ⟨q, hq, rfl⟩ := List.mem_map.mp hp
  obtain ⟨⟨k, v⟩, hr, rfl⟩ := List.mem_map.mp hq
  exact ⟨k, v, hr, rfl⟩
theorem look_dG {α : Type} {g : Str → α → PyData} {d : List (Str × Option α)} (hn : Nk d) {k : Str} {v : Option α} (h : (k, v) ∈ d) : dlook (dG g d) k = some (oG g k v) := by
  unfold dG
  rw [dlook_mapk (oG g) k d, (HR.look_mem hn k v).mp h]
  rfl
theorem hF_str {kvs : List (Str × PyData)} {mk : Str → PyData → PyData} {k : Str} {v : PyData} (h : dlook kvs k = some v) : hF kvs mk (.str k) = if isN v then none else some (mk k v) := by
  show (match dlook kvs k with | some v => if isN v then none else some (mk k v) | none => none) = _
  rw [h]
/-- what closes, as lists of records -/
def eClL (rs : List Rec) (i : Nat) : PyData := .tuple [.int (i : Int), eRecsL (segR rs i (HR.cnt rs i))]
def cloL (rs : List Rec) (i : Nat) : List PyData := ((List.range i).filter fun i => decide (0 < HR.cnt rs i)).map (eClL rs)
theorem cloL_succ (rs : List Rec) (i : Nat) : cloL rs (i + 1) = cloL rs i ++ (if 0 < HR.cnt rs i then [eClL rs i] else []) := by
  unfold cloL
  rw [List.range_succ, List.filter_append, List.map_append]
  congr 1
  by_cases h : 0 < HR.cnt rs i
  · simp [h]
  · simp [h]
theorem cloL_le (rs : List Rec) (i : Nat) : (cloL rs i).length ≤ i := by
  unfold cloL
  rw [List.length_map]
  have := List.length_filter_le (fun i => decide (0 < HR.cnt rs i)) (List.range i)
  rw [List.length_range] at this
  exact this
theorem segR_one {rs : List Rec} {i : Nat} {r : Rec} (h : rs[i]? = some r) : segR rs i 1 = [r] := by
  have hi : i < rs.length := (List.getElem?_eq_some_iff.mp h).1
  unfold HR.segR
  rw [take_snoc h, show i + 1 - 1 = i by omega, List.drop_append_of_le_length (by rw [List.length_take]; omega), List.drop_eq_nil_of_le (by rw [List.length_take]; omega)]
  rfl
theorem segR_more {rs : List Rec} {i m : Nat} {r : Rec} (hm : m ≤ i) (hi : i < rs.length) (h : rs[i - m]? = some r) : segR rs i (m + 1) = r :: segR rs i m := by
  unfold HR.segR
  have e : (rs.take (i + 1))[i - m]? = some r := by rw [List.getElem?_take, if_pos (by omega), h]
  have hlt : i - m < (rs.take (i + 1)).length := by rw [List.length_take]; omega
  rw [show i + 1 - (m + 1) = i - m by omega, List.drop_eq_getElem_cons hlt, show i - m + 1 = i + 1 - m by omega]
  congr 1
  rw [List.getElem?_eq_getElem hlt] at e
  exact Option.some.inj e
section
variable {P : Program} {w : World} {K : PySem.W.Frag} {mg : Str → Option Value} {base : Heap}
theorem ed_recAt {c : Ct} {δ : List Sl} {M : Mem} {i j : Nat} {b : Bool} {rs : List Rec} {r : Rec} {tb : TE} (hv : δ[i]? = some (.d (eRX b rs))) (hb : Ed c tb δ M (.d (.int (j : Int)))) (h : rs[j]? = some r) : Ed c (tAlt (tOp (rIxL K) (tVar i) tb) (tOp (rIxT K) (tVar i) tb)) δ M (.d (eRec r)) := by
  have hj : j < rs.length := (List.getElem?_eq_some_iff.mp h).1
  have e : atI (rs.map eRec) (j : Int) = some (eRec r) := by rw [atI_nat _ _ (by simpa using hj), List.getElem?_map, h]; rfl
  cases b with
  | true => exact ed_altR (ed_ixT (ds := rs.map eRec) (ed_var hv) hb e)
  | false => exact ed_altL (ed_ixL (ds := rs.map eRec) (ed_var hv) hb e)
theorem es_recs {c : Ct} {δ : List Sl} {M : Mem} {i : Nat} {b : Bool} {rs : List Rec} (hv : δ[i]? = some (.d (eRX b rs))) : Es c (iAlt (iEnum K (tCons (tVar i) tNil)) (iEnumT K (tCons (tVar i) tNil))) δ M (enumD (rs.map eRec)) := by
  cases b with
  | true => exact es_altR (es_enumT (ea_cons (ed_var hv) ea_nil))
  | false => exact es_altL (es_enumL (ea_cons (ed_var hv) ea_nil))
theorem eqv_blank {r : Rec} (h : okR r = true) : PyData.eqv (eRec r) (eRec .blank) = decide (r = .blank) := by
  cases r with
  | blank => rw [eqv_self _ (shp_eRec h).1]; rfl
  | part s p l =>
    cases s with
    | put k x =>
      show PyData.eqv (.tuple [.str "put", .str k, .str x, .int p, .int l]) (.tuple [.str "blank"]) = _
      rw [PyData.eqv, PyData.eqvAll, PyData.eqv, PyData.eqvAll]
      rfl
      all_goals simp
    | drop k =>
      show PyData.eqv (.tuple [.str "drop", .str k, .int p, .int l]) (.tuple [.str "blank"]) = _
      rw [PyData.eqv, PyData.eqvAll, PyData.eqv, PyData.eqvAll]
      rfl
      all_goals simp
theorem okR_blank : okR .blank = true := rfl
abbrev s_law_closed : Stmt := topS 58
theorem sc_law_closed : FnScope ["_law_notes_so", "_law_found", "_law_k", "_law_own", "_law_parts_so", "_law_n", "_law_its"] ["_law_notes_so"] (defScope s_law_closed) := ⟨rfl, rfl, rfl, by decide +kernel, rfl, by decide +kernel, by decide +kernel⟩
def p_law_closed (ss : List Sl) (r : Sl) : Prop := ∃ b rs, unb rs = true ∧ (∀ x ∈ rs, okR x = true) ∧ rs.length ≤ 1000 ∧ ss = [.d (eRX b rs)] ∧ r = .d (.list (cloL rs rs.length))
theorem ok_law_closed (B : Bl mg) (F : Def K mg "_law_closed" s_law_closed ["_law_notes_so"]) (C_law_blank : Cal P w K mg base 1 "_law_blank" [] p_law_blank) : Cal P w K mg base 2 "_law_closed" ["_law_notes_so"] p_law_closed := by
  refine okC F sc_law_closed (fun ss r ⟨b, rs, _, _, _, e, _⟩ => by rw [e]; rfl) fun f cdv A outer s H E hr nd hu => ⟨_, (pss_cons (ps_set (i := 1) nd rfl (Or.inl rfl) (pe_lst pa_nil))
      (pss_cons (ps_for PassesOwn.never rfl (pi_alt (pi_enum (by rfl) B.enumerate (pa_cons (pv 0) pa_nil)) (pi_enumT (by rfl) B.enumerate (pa_cons (pv 0) pa_nil))) (pg_tupK K rfl (n := 2) rfl (pgs_cons (pg_name (i := 2) nd rfl (Or.inl rfl)) (pgs_cons (pg_name (i := 3) nd rfl (Or.inl rfl)) pgs_nil)))
      (pss_cons (ps_if (PW.pt (pw_or (pt_cmpR (k_eqD K rfl hr.units) (pv 3) (pe_cal0 C_law_blank hr) (nomark _)) (pw_or1 (pt_cmpR op_ne (pe_ix (k_ixT K rfl) (pv 3) (pe_un un_neg pe_int) (fun _ _ => rfl)) pe_int (nomark _))))) (pss_one ps_continue) pss_nil)
        (pss_cons (ps_par (i := 4) (j := 5) rfl nd rfl rfl (by decide) rfl rfl (pa_cons (pe_fz (pe_lst (pa_cons (pv 3) pa_nil))) (pa_cons (pv 2) pa_nil)) (by rfl))
        (pss_cons (ps_while PassesOwn.never (PW.pt (pw_and (pt_cmpR op_gt (pe_ix (k_ixT K rfl) (pe_ix (k_ixL K rfl) (pv 4) pe_int (fun _ _ => rfl)) (pe_un un_neg pe_int) (fun _ _ => rfl)) pe_int (nomark _)) (pw_and1 (pt_cmpR op_gt (pv 5) pe_int (nomark _)))))
        (pss_cons (ps_set (i := 5) nd rfl (Or.inl rfl) (pe_op op_sub (pv 5) pe_int))
          (pss_cons (ps_set (i := 6) nd rfl (Or.inl rfl) (pe_alt (pe_ix (k_ixL K rfl) (pv 0) (pv 5) (fun _ _ => rfl)) (pe_ix (k_ixT K rfl) (pv 0) (pv 5) (fun _ _ => rfl))))
          (pss_cons (ps_if (PW.pt (pw_or (pt_cmpR (k_eqD K rfl hr.units) (pv 6) (pe_cal0 C_law_blank hr) (nomark _)) (pw_or (pt_cmpR op_ne (pe_ix (k_ixT K rfl) (pv 6) (pe_un un_neg pe_int) (fun _ _ => rfl)) (pe_op op_sub (pe_ix (k_ixT K rfl) (pe_ix (k_ixL K rfl) (pv 4) pe_int (fun _ _ => rfl)) (pe_un un_neg pe_int) (fun _ _ => rfl)) pe_int) (nomark _)) (pw_or1 (pt_cmpR op_ne (pe_ix (k_ixT K rfl) (pv 6) (pe_un un_neg pe_int) (fun _ _ => rfl)) (pe_op op_add (pe_ix (k_ixT K rfl) (pe_ix (k_ixL K rfl) (pv 4) pe_int (fun _ _ => rfl)) (pe_un un_neg pe_int) (fun _ _ => rfl)) pe_int) (nomark _)))))) (pss_cons (ps_set (i := 4) nd rfl (Or.inl rfl) (pe_fz (pe_lst pa_nil)))
            (pss_one ps_break)) pss_nil)
          (pss_one (ps_set (i := 4) nd rfl (Or.inl rfl) (pe_fz (pe_op op_catL (pe_fz (pe_lst (pa_cons (pv 6) pa_nil))) (pv 4)))))))))
        (pss_one (ps_if (pt_cmpR (k_neD K rfl hr.units) (pv 4) (pe_fz (pe_lst pa_nil)) (nomark _)) (pss_one (ps_expr (pe_bm PySem.F.plainAttrs_list PySem.F.slot_list_append PySem.F.type_list_append mt_append (pv 1) (pa_cons (pe_tup (pa_cons (pv 2) (pa_cons (pv 4) pa_nil))) pa_nil)))) pss_nil))))))
      (pss_fz (pss_one (ps_ret (pv 1)))))), fun ss r h c D hR => ?_⟩
  obtain ⟨b, rs, u, hok, hl, rfl, rfl⟩ := h
  refine q_newL fun p => ?_
  refine q_for (es_recs rfl) (fun i δ M => ∃ a1 a2 a3 a4 a5, δ = [.d (eRX b rs), .v (.ref p), a1, a2, a3, a4, a5] ∧ M = [(p, .lst (cloL rs i))]) ⟨_, _, _, _, _, rfl, rfl⟩ ?_ ?_
  · rintro c' lc i d δ1 M1 hd ⟨a1, a2, a3, a4, a5, q1, q2⟩
    subst q1 q2
    have hi : i < rs.length := by have := (List.getElem?_eq_some_iff.mp hd).1; simpa [enumD] using this
    have hx : rs[i]? = some rs[i] := List.getElem?_eq_getElem hi
    have hxo : okR rs[i] = true := hok _ (List.getElem_mem hi)
    have hd' : (enumD (rs.map eRec))[i]? = some (.tuple [.int (i : Int), eRec rs[i]]) := by simp [enumD, hx]
    rw [hd'] at hd
    cases hd
    refine ⟨_, tg_pair, fun N hN => ?_⟩
    have hcn : HR.cnt rs i = HR.cntO i (some rs[i]) := by unfold HR.cnt; rw [hx]
    have skip : ¬ 0 < HR.cnt rs i → ∀ {δ : List Sl}, (∃ a1 a2 a3 a4 a5, δ = [.d (eRX b rs), .v (.ref p), a1, a2, a3, a4, a5]) → Nx c' N δ [(p, .lst (cloL rs i))] := fun h0 δ ⟨a1, a2, a3, a4, a5, e⟩ => hN _ _ ⟨a1, a2, a3, a4, a5, e, by rw [cloL_succ, if_neg h0, List.append_nil]⟩
    generalize hg : rs[i] = x at *
    cases x with
    | blank =>
      refine q_when (et_or1 (et_eq (et_test (ed_eqD (ed_var rfl) (ed_call ea_nil ⟨rfl, rfl⟩) (shp.shaped (shp_eRec hxo)) (shp.shaped (shp_eRec okR_blank)))) (by rw [eqv_blank hxo]; rfl))) (fun _ => ?_) fun z => nomatch z
      exact s_cont (skip (by rw [hcn]; simp [HR.cntO]) ⟨_, _, _, _, _, rfl⟩)
    | part s q l =>
      have hneg : ∀ m, Et m (tTest (tOp rNe (tOp (rIxT K) (tVar 3) (tUn (rU fun i => .int (-i)) (tC (.int 1)))) (tC (.int 0)))) [Sl.d (eRX b rs), .v (.ref p), .d (.int (i : Int)), .d (eRec (.part s q l)), a3, a4, a5] [(p, .lst (cloL rs i))] (!decide ((l : Int) = 0)) := fun m => et_test (ed_neI (ed_ixT (ds := eRi (.part s q l)) (ed_var rfl) (ed_neg ed_int) (by cases s <;> rfl)) ed_int)
      cases l with
      | succ l =>
        refine q_when (et_eq (b := true) (et_or (et_test (ed_eqD (ed_var rfl) (ed_call ea_nil ⟨rfl, rfl⟩) (shp.shaped (shp_eRec hxo)) (shp.shaped (shp_eRec okR_blank)))) fun _ => hneg c') ?_) (fun _ => ?_) fun z => nomatch z
        · have : decide (((l + 1 : Nat) : Int) = 0) = false := decide_eq_false (by omega)
          rw [this]; simp
        exact s_cont (skip (by rw [hcn]; simp [HR.cntO]) ⟨_, _, _, _, _, rfl⟩)
      | zero =>
        refine q_no (et_eq (et_or (et_test (ed_eqD (ed_var rfl) (ed_call ea_nil ⟨rfl, rfl⟩) (shp.shaped (shp_eRec hxo)) (shp.shaped (shp_eRec okR_blank)))) fun _ => hneg c') ?_) ?_
        · rw [eqv_blank hxo]; rfl
        have hc0 : HR.cnt rs i = min q i + 1 := hcn
        refine q_par (ed_lst [eRec (.part s q 0)] (ea_cons (ed_var rfl) ea_nil) rfl (by simp)) (ed_var rfl) ?_
        -- the lot, read backwards
        refine q_while (fun m δ M => ∃ j a5, m + j = min q i ∧ δ = [.d (eRX b rs), .v (.ref p), .d (.int (i : Int)), .d (eRec (.part s q 0)), .d (eRecsL (segR rs i (j + 1))), .d (.int ((i - j : Nat) : Int)), a5] ∧ M = [(p, .lst (cloL rs i))]) (min q i) ⟨0, _, rfl, by rw [segR_one hx]; rfl, rfl⟩ ?_
        rintro m δ1 M1 ⟨j, a5', hm, q1, q2⟩
        subst q1 q2
        obtain ⟨s', hs'⟩ := HR.unb_back u hx j (by omega)
        have hseg : segR rs i (j + 1) = .part s' (q - j) (0 + j) :: segR rs i j := segR_more (by omega) hi hs'
        have h0 : ∀ mm, Ed mm (tOp (rIxL K) (tVar 4) (tC (.int 0))) [Sl.d (eRX b rs), .v (.ref p), .d (.int (i : Int)), .d (eRec (.part s q 0)), .d (eRecsL (segR rs i (j + 1))), .d (.int ((i - j : Nat) : Int)), a5'] [(p, .lst (cloL rs i))] (.d (eRec (.part s' (q - j) (0 + j)))) := fun mm => ed_ixL (ds := (segR rs i (j + 1)).map eRec) (ed_var rfl) ed_int (by rw [hseg]; exact atI_head _ _)
        refine ⟨decide (0 < q - j) && decide (0 < i - j), et_eq (et_and (et_test (ed_gt (ed_ixT (ds := eRi (.part s' (q - j) (0 + j))) (h0 _) (ed_neg ed_int) (d := .int ((q - j : Nat) : Int)) (by cases s' <;> rfl)) ed_int)) fun _ => (et_test (ed_gt (ed_var rfl) ed_int))) (by simp), fun hb N2 hN2 => ?_, fun hb => ?_⟩
        · rw [Bool.and_eq_true, decide_eq_true_eq, decide_eq_true_eq] at hb
          obtain ⟨s2, hs2⟩ := HR.unb_back u hx (j + 1) (by omega)
          have hs2o : okR (.part s2 (q - (j + 1)) (0 + (j + 1))) = true := hok _ (List.mem_of_getElem? hs2)
          have hseg2 : segR rs i (j + 1 + 1) = .part s2 (q - (j + 1)) (0 + (j + 1)) :: segR rs i (j + 1) := segR_more (by omega) hi hs2
          have hsl := HR.segR_length (rs := rs) (i := i) (m := j + 1) (by omega) hi
          refine q_set (s := .d (.int ((i - (j + 1) : Nat) : Int))) (ed_eq (ed_sub (ed_var rfl) ed_int) (by rw [show ((i - (j + 1) : Nat) : Int) = ((i - j : Nat) : Int) - 1 by omega])) ?_
          refine q_set (ed_recAt (b := b) rfl (ed_var rfl) hs2) ?_
          refine q_no (et_eq (et_or (et_test (ed_eqD (ed_var rfl) (ed_call ea_nil ⟨rfl, rfl⟩) (shp.shaped (shp_eRec hs2o)) (shp.shaped (shp_eRec okR_blank)))) fun _ => (et_or (et_test (ed_neI (ed_ixT (ds := eRi (.part s2 (q - (j + 1)) (0 + (j + 1)))) (d := .int ((q - (j + 1) : Nat) : Int)) (ed_var rfl) (ed_neg ed_int) (by cases s2 <;> rfl)) (ed_sub (ed_ixT (ds := eRi (.part s' (q - j) (0 + j))) (d := .int ((q - j : Nat) : Int)) (ed_ixL (ds := (segR rs i (j + 1)).map eRec) (ed_var rfl) ed_int (by rw [hseg]; exact atI_head _ _)) (ed_neg ed_int) (by cases s' <;> rfl)) ed_int))) fun _ =>
            (et_test (ed_neI (ed_ixT (ds := eRi (.part s2 (q - (j + 1)) (0 + (j + 1)))) (d := .int ((0 + (j + 1) : Nat) : Int)) (ed_var rfl) (ed_neg ed_int) (by cases s2 <;> rfl)) (ed_add (ed_ixT (ds := eRi (.part s' (q - j) (0 + j))) (d := .int ((0 + j : Nat) : Int)) (ed_ixL (ds := (segR rs i (j + 1)).map eRec) (ed_var rfl) ed_int (by rw [hseg]; exact atI_head _ _)) (ed_neg ed_int) (by cases s' <;> rfl)) ed_int))))) ?_) ?_
          · rw [eqv_blank hs2o]
            have e1 : decide (((q - (j + 1) : Nat) : Int) = ((q - j : Nat) : Int) - 1) = true := decide_eq_true (by omega)
            have e2 : decide (((0 + (j + 1) : Nat) : Int) = ((0 + j : Nat) : Int) + 1) = true := decide_eq_true (by omega)
            rw [e1, e2]
            rfl
          refine s_set (ed_catL (ds := [eRec (.part s2 (q - (j + 1)) (0 + (j + 1)))]) (es := (segR rs i (j + 1)).map eRec) (ed_lst [eRec (.part s2 (q - (j + 1)) (0 + (j + 1)))] (ea_cons (ed_var rfl) ea_nil) rfl (by simp)) (ed_var rfl) (by rw [List.length_map, hsl]; simp; omega)) (hN2 (m - 1) _ _ (by omega) ⟨j + 1, _, by omega, by rw [hseg2]; rfl, rfl⟩)
        · have hj : j = min q i := by
            rw [Bool.and_eq_false_iff, decide_eq_false_iff_not, decide_eq_false_iff_not] at hb
            omega
          subst hj
          have hpo : ∀ r ∈ segR rs i (min q i + 1), okR r = true := fun r hr => hok r (List.mem_of_mem_take (List.mem_of_mem_drop hr))
          have hsh : shp 2 (eRecsL (segR rs i (min q i + 1))) := shp.list fun d hd => by
            obtain ⟨r, hr, rfl⟩ := List.mem_map.mp hd
            exact shp_eRec (hpo r hr)
          have hsn : shp 1 (.list []) := shp.list fun d hd => by cases hd
          refine s_when (b := true) (et_eq (et_test (ed_neD (ed_var rfl) (ed_lst [] ea_nil) (shp.shaped hsh) (shp.shaped hsn))) ?_) (fun _ => ?_) fun z => nomatch z
          · rw [hseg]
            show (!PyData.eqv (.list (_ :: _)) (.list [])) = true
            rw [PyData.eqv, PyData.eqvAll]
            rfl
            all_goals simp
          refine s_app (d := eClL rs i) rfl (ed_eq (ed_tup [.int (i : Int), eRecsL (segR rs i (min q i + 1))] (ea_cons (ed_var rfl) (ea_cons (ed_var rfl) ea_nil)) rfl (by simp)) (by unfold eClL; rw [hc0])) (by have := cloL_le rs i; omega) (hN _ _ ⟨_, _, _, _, _, rfl, ?_⟩)
          rw [cloL_succ, if_pos (by rw [hc0]; omega)]
  · rintro δ1 M1 ⟨a1, a2, a3, a4, a5, q1, q2⟩
    subst q1 q2
    rw [show (enumD (rs.map eRec)).length = rs.length by simp [enumD]]
    exact q_fzL (i := 1) rfl (s_ret (ed_var rfl) hR)
end
end HD
end
section
namespace HD
open PySem PySem.Spec PyProof.Rows L2
open HR (Sgl Rec dput ddrop dlook Nk parts unb fol isPart asPut Ev kept seg segR closers clo flat out val F num tab lst behind isort leKW leNK win carried carry nxt CI done doneD wordOf)
def clI (rs : List Rec) : List Nat := (List.range rs.length).filter fun i => decide (0 < HR.cnt rs i)
theorem cloL_eq (rs : List Rec) : cloL rs rs.length = (clI rs).map (eClL rs) := rfl
theorem closers_eq (rs : List Rec) : closers rs = (clI rs).map fun i => (i, seg rs i (HR.cnt rs i)) := by
  unfold HR.closers clI
  have aux : ∀ l : List Nat, (l.filterMap fun i => if 0 < HR.cnt rs i then some (i, seg rs i (HR.cnt rs i)) else none) = (l.filter fun i => decide (0 < HR.cnt rs i)).map fun i => (i, seg rs i (HR.cnt rs i)) := by
    intro l
    induction l with
    | nil => rfl
    | cons i l ih =>
      rw [List.filterMap_cons, List.filter_cons, ih]
      by_cases h : 0 < HR.cnt rs i
      · simp [h]
      · simp [h]
  exact aux _
theorem clI_mem {rs : List Rec} {i : Nat} (h : i ∈ clI rs) : i < rs.length ∧ 0 < HR.cnt rs i := by
  obtain ⟨h1, h2⟩ := List.mem_filter.mp h
  exact ⟨List.mem_range.mp h1, of_decide_eq_true h2⟩
theorem sgl_get : ∀ {L : List Rec} {j : Nat} {s : Sgl} {p l : Nat}, (∀ r ∈ L, ∃ s p l, r = Rec.part s p l) → L[j]? = some (.part s p l) → (L.filterMap Rec.sgl?)[j]? = some s
  | [], j, s, p, l, _, h => by simp at h
  | r :: L, j, s, p, l, hp, h => by
    obtain ⟨s0, p0, l0, rfl⟩ := hp r List.mem_cons_self
    have e : ((.part s0 p0 l0 :: L : List Rec)).filterMap Rec.sgl? = s0 :: L.filterMap Rec.sgl? := rfl
    rw [e]
    cases j with
    | zero =>
      have h : Rec.part s0 p0 l0 = .part s p l := Option.some.inj h
      cases h
      rfl
    | succ j => exact sgl_get (j := j) (fun q hq => hp q (List.mem_cons_of_mem _ hq)) (by simpa using h)
/-- a closed lot: its place, its records, its singles -/
theorem clI_at {rs : List Rec} (u : unb rs = true) {i k : Nat} (h : (clI rs)[i]? = some k) : k < rs.length ∧ (closers rs)[i]? = some (k, seg rs k (HR.cnt rs k)) ∧ (segR rs k (HR.cnt rs k)).length = HR.cnt rs k ∧ (seg rs k (HR.cnt rs k)).length = HR.cnt rs k ∧ 0 < HR.cnt rs k ∧ HR.cnt rs k ≤ k + 1 ∧ (∀ r ∈ segR rs k (HR.cnt rs k), ∃ s p l, r = Rec.part s p l) := by
  obtain ⟨h1, h2⟩ := clI_mem (List.mem_of_getElem? h)
  obtain ⟨s, q, hx, hm⟩ := HR.cnt_closes h2
  have hc : HR.cnt rs k ≤ min q k + 1 := by omega
  refine ⟨h1, by rw [closers_eq, List.getElem?_map, h]; rfl, HR.segR_length (by omega) h1, HR.seg_length u hx hc, h2, by omega, HR.segR_parts u hx hc⟩
theorem seg_okR {rs : List Rec} (h : ∀ x ∈ rs, okR x = true) {k m : Nat} : ∀ x ∈ segR rs k m, okR x = true := fun x hx => h x (List.mem_of_mem_take (List.mem_of_mem_drop hx))
def gW : Str → Nat × Str → PyData := fun _ v => .str v.2
def gL : Str → Nat × Str → PyData := fun k v => .tuple [.int (v.1 : Int), .str k]
def gS : Str → Str → PyData := fun _ v => .str v
/-- the events of the lots behind i of them, j singles of the next -/
def evs (rs : List Rec) (i k j : Nat) : Ev := flat ((closers rs).take i) ++ num (k + 1 - HR.cnt rs k) ((seg rs k (HR.cnt rs k)).take j)
theorem evs_zero (rs : List Rec) (i k : Nat) : evs rs i k 0 = flat ((closers rs).take i) := by
  unfold evs
  rw [List.take_zero, HR.num_nil, List.append_nil]
theorem evs_end {rs : List Rec} (u : unb rs = true) {i k : Nat} (h : (clI rs)[i]? = some k) : evs rs i k (HR.cnt rs k) = flat ((closers rs).take (i + 1)) := by
  obtain ⟨h1, h2, h3, h4, h5, h6, h7⟩ := clI_at u h
  unfold evs
  have e : (seg rs k (HR.cnt rs k)).take (HR.cnt rs k) = seg rs k (HR.cnt rs k) := List.take_of_length_le (by omega)
  rw [e, flat_snoc h2]
  show _ = flat ((closers rs).take i) ++ num (k + 1 - (seg rs k (HR.cnt rs k)).length) (seg rs k (HR.cnt rs k))
  rw [h4]
theorem evs_succ {rs : List Rec} {i k j : Nat} {s : Sgl} (h : (seg rs k (HR.cnt rs k))[j]? = some s) : HR.D (evs rs i k (j + 1)) = dput (HR.D (evs rs i k j)) s.key (val (k + 1 - HR.cnt rs k + j, s)) := by
  unfold evs
  rw [num_snoc h, ← List.append_assoc, HR.D_snoc]
theorem evs_le {rs : List Rec} (u : unb rs = true) {i k j : Nat} (h : (clI rs)[i]? = some k) : (HR.D (evs rs i k j)).length ≤ rs.length := by
  obtain ⟨h1, h2, h3, h4, h5, h6, h7⟩ := clI_at u h
  have q1 := HR.D_le (evs rs i k j)
  have q2 := flat_part_le h2
  have q2 : (flat ((closers rs).take i)).length + (seg rs k (HR.cnt rs k)).length ≤ (flat (closers rs)).length := q2
  rw [HR.flat_closers u] at q2
  have q3 := HR.out_le rs
  unfold evs at *
  rw [List.length_append, HR.num_length, List.length_take] at q1
  omega
theorem dG_len {α : Type} (g : Str → α → PyData) (d : List (Str × Option α)) : (dG g d).length = d.length := List.length_map _
section
variable {c : Ct} {δ : List Sl} {M : Mem} {tr : TI} {te : TE}
/-- the keys of a dict that hold something -/
theorem et_has {α : Type} {g : Str → α → PyData} {d : List (Str × Option α)} {k : Str} {v : Option α} {mk : Str → PyData → PyData} (hl : dlook (dG g d) k = some (oG g k v)) : (!isN (oG g k v)) = (hF (dG g d) mk (.str k)).isSome := by
  rw [hF_str hl]
  cases isN (oG g k v) <;> rfl
end
section
variable {P : Program} {w : World} {K : PySem.W.Frag} {mg : Str → Option Value} {base : Heap}
abbrev s_law_lore : Stmt := topS 59
theorem sc_law_lore : FnScope ["_law_notes_so", "_law_found", "_law_k", "_law_parts_so", "_law_own"] ["_law_notes_so"] (defScope s_law_lore) := ⟨rfl, rfl, rfl, by decide +kernel, rfl, by decide +kernel, by decide +kernel⟩
def p_law_lore (ss : List Sl) (r : Sl) : Prop := ∃ b rs, unb rs = true ∧ (∀ x ∈ rs, okR x = true) ∧ rs.length ≤ 1000 ∧ ss = [.d (eRX b rs)] ∧ r = .d (pl (eTab (tab (out rs))))
theorem ok_law_lore (B : Bl mg) (F : Def K mg "_law_lore" s_law_lore ["_law_notes_so"]) (C_law_closed : Cal P w K mg base 2 "_law_closed" ["_law_notes_so"] p_law_closed) : Cal P w K mg base 3 "_law_lore" ["_law_notes_so"] p_law_lore := by
  refine okC F sc_law_lore (fun ss r ⟨b, rs, _, _, _, e, _⟩ => by rw [e]; rfl) fun f cdv A outer s H E hr nd hu => ⟨_, (pss_cons (ps_set (i := 1) nd rfl (Or.inr rfl) pe_dnewK)
      (pss_cons (ps_for PassesOwn.never rfl (pi_list (pe_cal C_law_closed hr (pa_cons (pv 0) pa_nil))) (pg_tupK K rfl (n := 2) rfl (pgs_cons (pg_name (i := 2) nd rfl (Or.inl rfl)) (pgs_cons (pg_name (i := 3) nd rfl (Or.inl rfl)) pgs_nil)))
      (pss_one (ps_for PassesOwn.never rfl (pi_list (pv 3)) (pg_name (i := 4) nd rfl (Or.inl rfl))
        (pss_one (ps_dput hu (pv 1) (pe_ix (k_ixT K rfl) (pv 4) pe_int (fun _ _ => rfl)) (pe_ifExp (pt_cmpR op_eq (pe_ix (k_ixT K rfl) (pv 4) pe_int (fun _ _ => rfl)) pe_str (nomark _)) (pe_ix (k_ixT K rfl) (pv 4) pe_int (fun _ _ => rfl)) pe_non) rfl)))))
      (pss_fz <| pss_one (ps_ret (pe_callTy call_tuple_pl (by rfl) B.tuple (by decide +kernel) (pa_cons (pe_fz (pe_callB (cr_sortD hr.units) (by rfl) B.sorted (by decide +kernel) (pa_cons (pe_fz (pe_lc (own := [("_law_own", 4)]) rfl nd (pi_keys (pv 1)) (blkOk_by (own := [("_law_own", 4)]) (N := ["_law_notes_so", "_law_found", "_law_k", "_law_parts_so", "_law_own"]) (sc := defScope s_law_lore) (by decide +kernel)) (fun _ _ _ _ _ => (pg_name (i := 4) nd rfl (Or.inl rfl))) (fun _ _ _ _ _ => (pts_one (pt_cmpR op_notN (pe_dget hu (pv 1) (pv 4) (fun _ _ => rfl)) pe_non (nomark _)))) (fun _ _ _ _ _ => (pe_tup (pa_cons (pv 4) (pa_cons (pe_dget hu (pv 1) (pv 4) (fun _ _ => rfl)) pa_nil)))))) pa_nil))) pa_nil)))))), fun ss r h c D hR => ?_⟩
  obtain ⟨b, rs, u, hok, hl, rfl, rfl⟩ := h
  have hfl := HR.flat_closers u
  have hol := HR.out_le rs
  refine q_newD fun p => ?_
  refine q_for (es_list (ed_call (ea_cons (ed_var rfl) ea_nil) ⟨b, rs, u, hok, hl, rfl, rfl⟩)) (fun i δ M => ∃ a1 a2 a3, δ = [.d (eRX b rs), .v (.ref p), a1, a2, a3] ∧ M = [(p, .dct (dG gW (HR.D (flat ((closers rs).take i)))))]) ⟨_, _, _, rfl, rfl⟩ ?_ ?_
  · rintro c' lc i d δ1 M1 hd ⟨a1, a2, a3, q1, q2⟩
    subst q1 q2
    rw [cloL_eq, List.getElem?_map] at hd
    cases hq : (clI rs)[i]? with
    | none => rw [hq] at hd; cases hd
    | some k =>
      rw [hq] at hd
      cases hd
      obtain ⟨h1, h2, h3, h4, h5, h6, h7⟩ := clI_at u hq
      refine ⟨_, tg_pair, fun N hN => ?_⟩
      refine s_for (es_list (ed_var rfl)) (fun j δ M => ∃ a3, δ = [.d (eRX b rs), .v (.ref p), .d (.int (k : Int)), .d (eRecsL (segR rs k (HR.cnt rs k))), a3] ∧ M = [(p, .dct (dG gW (HR.D (evs rs i k j))))]) ⟨_, rfl, by rw [evs_zero]⟩ ?_ ?_
      · rintro c2 lc2 j d2 δ2 M2 hd2 ⟨a3', q1, q2⟩
        subst q1 q2
        rw [List.getElem?_map] at hd2
        cases hr : (segR rs k (HR.cnt rs k))[j]? with
        | none => rw [hr] at hd2; cases hd2
        | some r =>
          rw [hr] at hd2
          cases hd2
          obtain ⟨s, q, l, rfl⟩ := h7 r (List.mem_of_getElem? hr)
          have hs := sgl_get h7 hr
          have hlen : (dG gW (HR.D (evs rs i k j))).length < 100000 := by have := evs_le u hq (j := j); rw [dG_len]; omega
          refine ⟨_, tg_name, fun N2 hN2 => ?_⟩
          cases s with
          | put kk x =>
            refine s_dput (k := kk) (d := .str x) rfl (ed_if (b := true) (et_eq (et_test (ed_eqS (ed_ixT (ds := eRi (.part (.put kk x) q l)) (ed_var rfl) ed_int rfl) ed_str)) rfl) (fun _ => (ed_ixT (ds := eRi (.part (.put kk x) q l)) (ed_var rfl) ed_int rfl)) fun z => nomatch z) (ed_ixT (ds := eRi (.part (.put kk x) q l)) (ed_var rfl) ed_int rfl) hlen (hN2 _ _ ⟨_, rfl, ?_⟩)
            rw [evs_succ hs, ← dG_put]
            rfl
          | drop kk =>
            refine s_dput (k := kk) (d := .none) rfl (ed_if (b := false) (et_eq (et_test (ed_eqS (ed_ixT (ds := eRi (.part (.drop kk) q l)) (ed_var rfl) ed_int rfl) ed_str)) rfl) (fun z => nomatch z) fun _ => ed_non) (ed_ixT (ds := eRi (.part (.drop kk) q l)) (ed_var rfl) ed_int rfl) hlen (hN2 _ _ ⟨_, rfl, ?_⟩)
            rw [evs_succ hs, ← dG_put]
            rfl
      · rintro δ2 M2 ⟨a3', q1, q2⟩
        subst q1 q2
        rw [List.length_map, h3, evs_end u hq]
        exact hN _ _ ⟨_, _, _, rfl, rfl⟩
  · rintro δ1 M1 ⟨a1, a2, a3, q1, q2⟩
    subst q1 q2
    have e : (closers rs).take (cloL rs rs.length).length = closers rs := by rw [cloL_eq, closers_eq, List.length_map, ← List.map_take, List.take_length]
    rw [e, hfl]
    refine q_fzD (i := 1) rfl ?_
    have hn := HR.nk_D (out rs)
    have hD := HR.D_le (out rs)
    have e2 : tab (out rs) = isort leKW (kept (fun k v => (k, v.2)) (HR.D (out rs))) := rfl
    rw [e2] at hR
    refine s_ret (ed_tupPl (ed_sortKW (HR.kept_nodup (·.1) (fun _ _ => rfl) hn) (ed_eq (ed_lc (hF (dG gW (HR.D (out rs))) fun k v => .tuple [.str k, v]) (es_keys (ed_var rfl)) (by simp [keysD, sK, dG]; omega) fun d hd => ?_) (by rw [keys_kept (f := fun k v => (k, v.2)) (enc := eKW) hn (fun _ _ => rfl) (fun _ _ => rfl)])))) hR
    obtain ⟨k, v, hkv, rfl⟩ := mem_keys hd
    have hlk := look_dG (g := gW) hn hkv
    refine ⟨_, tc_name, et_eq (et_test (ed_notN (ed_dget (ed_var rfl) (ed_var rfl) hlk))) (et_has hlk), fun e he => ?_⟩
    rw [hF_str hlk] at he
    split at he
    · cases he
    · cases he
      exact ed_tup [.str k, oG gW k v] (ea_cons (ed_var rfl) (ea_cons (ed_dget (ed_var rfl) (ed_var rfl) hlk) ea_nil)) rfl (by simp)
abbrev s_law_lasts : Stmt := topS 60
theorem sc_law_lasts : FnScope ["_law_notes_so", "_law_found", "_law_k", "_law_parts_so", "_law_j", "_law_own"] ["_law_notes_so"] (defScope s_law_lasts) := ⟨rfl, rfl, rfl, by decide +kernel, rfl, by decide +kernel, by decide +kernel⟩
def p_law_lasts (ss : List Sl) (r : Sl) : Prop := ∃ b rs, unb rs = true ∧ (∀ x ∈ rs, okR x = true) ∧ rs.length ≤ 1000 ∧ ss = [.d (eRX b rs)] ∧ r = .d (.list ((lst (out rs)).map eNK))
theorem ok_law_lasts (B : Bl mg) (F : Def K mg "_law_lasts" s_law_lasts ["_law_notes_so"]) (C_law_closed : Cal P w K mg base 2 "_law_closed" ["_law_notes_so"] p_law_closed) : Cal P w K mg base 3 "_law_lasts" ["_law_notes_so"] p_law_lasts := by
  refine okC F sc_law_lasts (fun ss r ⟨b, rs, _, _, _, e, _⟩ => by rw [e]; rfl) fun f cdv A outer s H E hr nd hu => ⟨_, (pss_cons (ps_set (i := 1) nd rfl (Or.inr rfl) pe_dnewK)
      (pss_cons (ps_for PassesOwn.never rfl (pi_list (pe_cal C_law_closed hr (pa_cons (pv 0) pa_nil))) (pg_tupK K rfl (n := 2) rfl (pgs_cons (pg_name (i := 2) nd rfl (Or.inl rfl)) (pgs_cons (pg_name (i := 3) nd rfl (Or.inl rfl)) pgs_nil)))
      (pss_one (ps_for PassesOwn.never rfl (pi_enum (by rfl) B.enumerate (pa_cons (pv 3) pa_nil)) (pg_tupK K rfl (n := 2) rfl (pgs_cons (pg_name (i := 4) nd rfl (Or.inl rfl)) (pgs_cons (pg_name (i := 5) nd rfl (Or.inl rfl)) pgs_nil)))
        (pss_one (ps_dput hu (pv 1) (pe_ix (k_ixT K rfl) (pv 5) pe_int (fun _ _ => rfl)) (pe_ifExp (pt_cmpR op_eq (pe_ix (k_ixT K rfl) (pv 5) pe_int (fun _ _ => rfl)) pe_str (nomark _)) (pe_tup (pa_cons (pe_op op_add (pe_op op_add (pe_op op_sub (pv 2) (pe_callB (k_len K rfl) (by rfl) B.len boot_len (pa_cons (pv 3) pa_nil))) pe_int) (pv 4)) (pa_cons (pe_ix (k_ixT K rfl) (pv 5) pe_int (fun _ _ => rfl)) pa_nil))) pe_non) rfl)))))
      (pss_fz <| pss_one (ps_ret (pe_fz (pe_callB (cr_sortD hr.units) (by rfl) B.sorted (by decide +kernel) (pa_cons (pe_fz (pe_lc (own := [("_law_own", 5)]) rfl nd (pi_keys (pv 1)) (blkOk_by (own := [("_law_own", 5)]) (N := ["_law_notes_so", "_law_found", "_law_k", "_law_parts_so", "_law_j", "_law_own"]) (sc := defScope s_law_lasts) (by decide +kernel)) (fun _ _ _ _ _ => (pg_name (i := 5) nd rfl (Or.inl rfl))) (fun _ _ _ _ _ => (pts_one (pt_cmpR op_notN (pe_dget hu (pv 1) (pv 5) (fun _ _ => rfl)) pe_non (nomark _)))) (fun _ _ _ _ _ => (pe_dget hu (pv 1) (pv 5) (fun _ _ => rfl))))) pa_nil))))))), fun ss r h c D hR => ?_⟩
  obtain ⟨b, rs, u, hok, hl, rfl, rfl⟩ := h
  have hfl := HR.flat_closers u
  have hol := HR.out_le rs
  refine q_newD fun p => ?_
  refine q_for (es_list (ed_call (ea_cons (ed_var rfl) ea_nil) ⟨b, rs, u, hok, hl, rfl, rfl⟩)) (fun i δ M => ∃ a1 a2 a3 a4, δ = [.d (eRX b rs), .v (.ref p), a1, a2, a3, a4] ∧ M = [(p, .dct (dG gL (HR.D (flat ((closers rs).take i)))))]) ⟨_, _, _, _, rfl, rfl⟩ ?_ ?_
  · rintro c' lc i d δ1 M1 hd ⟨a1, a2, a3, a4, q1, q2⟩
    subst q1 q2
    rw [cloL_eq, List.getElem?_map] at hd
    cases hq : (clI rs)[i]? with
    | none => rw [hq] at hd; cases hd
    | some k =>
      rw [hq] at hd
      cases hd
      obtain ⟨h1, h2, h3, h4, h5, h6, h7⟩ := clI_at u hq
      refine ⟨_, tg_pair, fun N hN => ?_⟩
      refine s_for (es_enumL (ds := (segR rs k (HR.cnt rs k)).map eRec) (ea_cons (ed_var rfl) ea_nil)) (fun j δ M => ∃ a3 a4, δ = [.d (eRX b rs), .v (.ref p), .d (.int (k : Int)), .d (eRecsL (segR rs k (HR.cnt rs k))), a3, a4] ∧ M = [(p, .dct (dG gL (HR.D (evs rs i k j))))]) ⟨_, _, rfl, by rw [evs_zero]⟩ ?_ ?_
      · rintro c2 lc2 j d2 δ2 M2 hd2 ⟨a3', a4', q1, q2⟩
        subst q1 q2
        have hjl : j < (segR rs k (HR.cnt rs k)).length := by have := (List.getElem?_eq_some_iff.mp hd2).1; simpa [enumD] using this
        have hr : (segR rs k (HR.cnt rs k))[j]? = some (segR rs k (HR.cnt rs k))[j] := List.getElem?_eq_getElem hjl
        have hd2' : (enumD ((segR rs k (HR.cnt rs k)).map eRec))[j]? = some (.tuple [.int (j : Int), eRec (segR rs k (HR.cnt rs k))[j]]) := by simp [enumD, hr]
        rw [hd2'] at hd2
        cases hd2
        generalize (segR rs k (HR.cnt rs k))[j] = r at hr
        obtain ⟨s, q, l, rfl⟩ := h7 r (List.mem_of_getElem? hr)
        have hs := sgl_get h7 hr
        have hlen : (dG gL (HR.D (evs rs i k j))).length < 100000 := by have := evs_le u hq (j := j); rw [dG_len]; omega
        refine ⟨_, tg_pair, fun N2 hN2 => ?_⟩
        cases s with
        | put kk x =>
          refine s_dput (k := kk) (d := .tuple [.int ((k + 1 - HR.cnt rs k + j : Nat) : Int), .str kk]) rfl (ed_if (b := true) (et_eq (et_test (ed_eqS (ed_ixT (ds := eRi (.part (.put kk x) q l)) (ed_var rfl) ed_int rfl) ed_str)) rfl) (fun _ => ed_tup [.int ((k + 1 - HR.cnt rs k + j : Nat) : Int), .str kk] (ea_cons (ed_eq (ed_add (ed_add (ed_sub (ed_var rfl) (ed_lenL (ds := (segR rs k (HR.cnt rs k)).map eRec) (ed_var rfl))) ed_int) (ed_var rfl)) (by rw [List.length_map, h3, show ((k + 1 - HR.cnt rs k + j : Nat) : Int) = (k : Int) - (HR.cnt rs k : Int) + 1 + (j : Int) by omega])) (ea_cons (ed_ixT (ds := eRi (.part (.put kk x) q l)) (ed_var rfl) ed_int rfl) ea_nil)) rfl (by simp)) fun z => nomatch z) (ed_ixT (ds := eRi (.part (.put kk x) q l)) (ed_var rfl) ed_int rfl) hlen (hN2 _ _ ⟨_, _, rfl, ?_⟩)
          rw [evs_succ hs, ← dG_put]
          rfl
        | drop kk =>
          refine s_dput (k := kk) (d := .none) rfl (ed_if (b := false) (et_eq (et_test (ed_eqS (ed_ixT (ds := eRi (.part (.drop kk) q l)) (ed_var rfl) ed_int rfl) ed_str)) rfl) (fun z => nomatch z) fun _ => ed_non) (ed_ixT (ds := eRi (.part (.drop kk) q l)) (ed_var rfl) ed_int rfl) hlen (hN2 _ _ ⟨_, _, rfl, ?_⟩)
          rw [evs_succ hs, ← dG_put]
          rfl
      · rintro δ2 M2 ⟨a3', a4', q1, q2⟩
        subst q1 q2
        rw [show (enumD ((segR rs k (HR.cnt rs k)).map eRec)).length = HR.cnt rs k by simp [enumD, h3], evs_end u hq]
        exact hN _ _ ⟨_, _, _, _, rfl, rfl⟩
  · rintro δ1 M1 ⟨a1, a2, a3, a4, q1, q2⟩
    subst q1 q2
    have e : (closers rs).take (cloL rs rs.length).length = closers rs := by rw [cloL_eq, closers_eq, List.length_map, ← List.map_take, List.take_length]
    rw [e, hfl]
    refine q_fzD (i := 1) rfl ?_
    have hn := HR.nk_D (out rs)
    have hD := HR.D_le (out rs)
    have e2 : lst (out rs) = isort leNK (kept (fun k v => (v.1, k)) (HR.D (out rs))) := rfl
    rw [e2] at hR
    refine s_ret (ed_sortNK (HR.kept_nodup (·.2) (fun _ _ => rfl) hn) (ed_eq (ed_lc (hF (dG gL (HR.D (out rs))) fun k v => v) (es_keys (ed_var rfl)) (by simp [keysD, sK, dG]; omega) fun d hd => ?_) (by rw [keys_kept (f := fun k v => (v.1, k)) (enc := eNK) hn (fun _ _ => rfl) (fun _ _ => rfl)]))) hR
    obtain ⟨k, v, hkv, rfl⟩ := mem_keys hd
    have hlk := look_dG (g := gL) hn hkv
    refine ⟨_, tc_name, et_eq (et_test (ed_notN (ed_dget (ed_var rfl) (ed_var rfl) hlk))) (et_has hlk), fun e he => ?_⟩
    rw [hF_str hlk] at he
    split at he
    · cases he
    · cases he
      exact ed_dget (ed_var rfl) (ed_var rfl) hlk
abbrev s_law_done : Stmt := topS 61
theorem sc_law_done : FnScope ["_law_lore_here", "_law_act_here", "_law_found", "_law_own"] ["_law_lore_here", "_law_act_here"] (defScope s_law_done) := ⟨rfl, rfl, rfl, by decide +kernel, rfl, by decide +kernel, by decide +kernel⟩
def p_law_done (ss : List Sl) (r : Sl) : Prop := ∃ T g, Nk T ∧ T.length ≤ 1000 ∧ okG g = true ∧ ss = [.d (pl (eTab T)), .d (eDeed g)] ∧ r = .d (eTab (done T g.singles))
def dstep (d : List (Str × Option Str)) (s : Sgl) : List (Str × Option Str) := dput d s.key (wordOf s)
theorem dfold_snoc {sg : List Sgl} {i : Nat} {s : Sgl} (h : sg[i]? = some s) (d : List (Str × Option Str)) : (sg.take (i + 1)).foldl dstep d = dstep ((sg.take i).foldl dstep d) s := by
  rw [take_snoc h, List.foldl_append]; rfl
theorem dfold_len (sg : List Sgl) : ∀ d : List (Str × Option Str), (sg.foldl dstep d).length ≤ d.length + sg.length := by
  induction sg with
  | nil => intro d; simp
  | cons s sg ih =>
    intro d
    have h1 := ih (dstep d s)
    have h2 : (dstep d s).length ≤ d.length + 1 := HR.put_le d _ _
    rw [List.foldl_cons, List.length_cons]
    omega
theorem ok_law_done (B : Bl mg) (F : Def K mg "_law_done" s_law_done ["_law_lore_here", "_law_act_here"]) : Cal P w K mg base 1 "_law_done" ["_law_lore_here", "_law_act_here"] p_law_done := by
  refine okC F sc_law_done (fun ss r ⟨T, g, _, _, _, e, _⟩ => by rw [e]; rfl) fun f cdv A outer s H E hr nd hu => ⟨_, (pss_cons (ps_set (i := 2) nd rfl (Or.inr rfl) (pe_callTy (call_dictT rfl) (by rfl) B.dict (by decide +kernel) (pa_cons (pv 0) pa_nil)))
      (pss_cons (ps_for PassesOwn.never rfl (pi_tup (pe_ifExp (pt_cmpR op_eq (pe_ix (k_ixT K rfl) (pv 1) pe_int (fun _ _ => rfl)) pe_str (nomark _)) (pe_ix (k_ixT K rfl) (pv 1) pe_int (fun _ _ => rfl)) (pe_tup (pa_cons (pv 1) pa_nil)))) (pg_name (i := 3) nd rfl (Or.inl rfl))
      (pss_one (ps_dput hu (pv 2) (pe_ix (k_ixT K rfl) (pv 3) pe_int (fun _ _ => rfl)) (pe_ifExp (pt_cmpR op_eq (pe_ix (k_ixT K rfl) (pv 3) pe_int (fun _ _ => rfl)) pe_str (nomark _)) (pe_ix (k_ixT K rfl) (pv 3) pe_int (fun _ _ => rfl)) pe_non) rfl)))
      (pss_fz <| pss_one (ps_ret (pe_callTy (k_tupOf K rfl) (by rfl) B.tuple (by decide +kernel) (pa_cons (pe_fz (pe_callB (cr_sortD hr.units) (by rfl) B.sorted (by decide +kernel) (pa_cons (pe_fz (pe_lc (own := [("_law_own", 3)]) rfl nd (pi_keys (pv 2)) (blkOk_by (own := [("_law_own", 3)]) (N := ["_law_lore_here", "_law_act_here", "_law_found", "_law_own"]) (sc := defScope s_law_done) (by decide +kernel)) (fun _ _ _ _ _ => (pg_name (i := 3) nd rfl (Or.inl rfl))) (fun _ _ _ _ _ => (pts_one (pt_cmpR op_notN (pe_dget hu (pv 2) (pv 3) (fun _ _ => rfl)) pe_non (nomark _)))) (fun _ _ _ _ _ => (pe_tup (pa_cons (pv 3) (pa_cons (pe_dget hu (pv 2) (pv 3) (fun _ _ => rfl)) pa_nil)))))) pa_nil))) pa_nil)))))), fun ss r h c D hR => ?_⟩
  obtain ⟨T, g, hT, hl, hg, rfl, rfl⟩ := h
  have hgl := okG_len hg
  refine q_dictT hT (ed_var rfl) fun p => ?_
  have hes : ∀ c0 M0, Es c0 (iTup K (tIf (tTest (tOp rEq (tOp (rIxT K) (tVar 1) (tC (.int 0))) (tC (.str "lot")))) (tOp (rIxT K) (tVar 1) (tC (.int 1))) (tTup (tCons (tVar 1) tNil)))) [Sl.d (pl (eTab T)), .d (eDeed g), .v (.ref p), .no] M0 (g.singles.map eSgl) := fun c0 M0 => es_tup (by
    cases g with
    | lot ls => exact ed_if (b := true) (et_eq (et_test (ed_eqS (ed_ixT (ed_var rfl) ed_int rfl) ed_str)) rfl) (fun _ => (ed_ixT (ed_var rfl) ed_int rfl)) fun z => nomatch z
    | one s =>
      cases s with
      | put k x => exact ed_if (b := false) (et_eq (et_test (ed_eqS (ed_ixT (ed_var rfl) ed_int rfl) ed_str)) rfl) (fun z => nomatch z) fun _ => (ed_tup [eSgl (.put k x)] (ea_cons (ed_var rfl) ea_nil) rfl (by simp))
      | drop k => exact ed_if (b := false) (et_eq (et_test (ed_eqS (ed_ixT (ed_var rfl) ed_int rfl) ed_str)) rfl) (fun z => nomatch z) fun _ => (ed_tup [eSgl (.drop k)] (ea_cons (ed_var rfl) ea_nil) rfl (by simp)))
  have hini : tD T = dG gS (T.map fun e => (e.1, some e.2)) := by unfold dG; rw [List.map_map]; rfl
  refine q_for (hes _ _) (fun i δ M => ∃ a, δ = [.d (pl (eTab T)), .d (eDeed g), .v (.ref p), a] ∧ M = [(p, .dct (dG gS ((g.singles.take i).foldl dstep (T.map fun e => (e.1, some e.2)))))]) ⟨_, rfl, by rw [hini]; rfl⟩ ?_ ?_
  · rintro c' lc i d δ1 M1 hd ⟨a, q1, q2⟩
    subst q1 q2
    rw [List.getElem?_map] at hd
    cases hq : g.singles[i]? with
    | none => rw [hq] at hd; cases hd
    | some s =>
      rw [hq] at hd
      cases hd
      have hlen : (dG gS ((g.singles.take i).foldl dstep (T.map fun e => (e.1, some e.2)))).length < 100000 := by
        have := dfold_len (g.singles.take i) (T.map fun e => (e.1, some e.2))
        rw [List.length_take, List.length_map] at this
        rw [dG_len]
        omega
      refine ⟨_, tg_name, fun N hN => ?_⟩
      cases s with
      | put k x =>
        refine s_dput (k := k) (d := .str x) rfl (ed_if (b := true) (et_eq (et_test (ed_eqS (ed_ixT (ds := eS (.put k x)) (ed_var rfl) ed_int rfl) ed_str)) rfl) (fun _ => (ed_ixT (ds := eS (.put k x)) (ed_var rfl) ed_int rfl)) fun z => nomatch z) (ed_ixT (ds := eS (.put k x)) (ed_var rfl) ed_int rfl) hlen (hN _ _ ⟨_, rfl, ?_⟩)
        rw [dfold_snoc hq]
        unfold dstep
        rw [← dG_put]
        rfl
      | drop k =>
        refine s_dput (k := k) (d := .none) rfl (ed_if (b := false) (et_eq (et_test (ed_eqS (ed_ixT (ds := eS (.drop k)) (ed_var rfl) ed_int rfl) ed_str)) rfl) (fun z => nomatch z) fun _ => ed_non) (ed_ixT (ds := eS (.drop k)) (ed_var rfl) ed_int rfl) hlen (hN _ _ ⟨_, rfl, ?_⟩)
        rw [dfold_snoc hq]
        unfold dstep
        rw [← dG_put]
        rfl
  · rintro δ1 M1 ⟨a, q1, q2⟩
    subst q1 q2
    rw [List.length_map, List.take_length]
    refine q_fzD (i := 2) rfl ?_
    have hn : Nk (g.singles.foldl dstep (T.map fun e => (e.1, some e.2))) := HR.doneD_nk g.singles _ (HR.somes_nk hT)
    have hD := dfold_len g.singles (T.map fun e => (e.1, some e.2))
    rw [List.length_map] at hD
    have e2 : done T g.singles = isort leKW (kept (fun k v => (k, v)) (g.singles.foldl dstep (T.map fun e => (e.1, some e.2)))) := rfl
    rw [e2] at hR
    refine s_ret (ed_tupL (ed_sortKW (HR.kept_nodup (·.1) (fun _ _ => rfl) hn) (ed_eq (ed_lc (hF (dG gS (g.singles.foldl dstep (T.map fun e => (e.1, some e.2)))) fun k v => .tuple [.str k, v]) (es_keys (ed_var rfl)) (by simp [keysD, sK, dG]; omega) fun d hd => ?_) (by rw [keys_kept (f := fun k v => (k, v)) (enc := eKW) hn (fun _ _ => rfl) (fun _ _ => rfl)])))) hR
    obtain ⟨k, v, hkv, rfl⟩ := mem_keys hd
    have hlk := look_dG (g := gS) hn hkv
    refine ⟨_, tc_name, et_eq (et_test (ed_notN (ed_dget (ed_var rfl) (ed_var rfl) hlk))) (et_has hlk), fun e he => ?_⟩
    rw [hF_str hlk] at he
    split at he
    · cases he
    · cases he
      exact ed_tup [.str k, oG gS k v] (ea_cons (ed_var rfl) (ea_cons (ed_dget (ed_var rfl) (ed_var rfl) hlk) ea_nil)) rfl (by simp)
end
end HD
end
section
namespace HD
open PySem PySem.Spec PyProof.Rows L2
open HR (Sgl Rec dput ddrop dlook Nk parts unb fol isPart asPut Ev kept seg segR closers clo flat out val F num tab lst behind isort leKW leNK win carried carry nxt CI done doneD wordOf)
/-- the notes that a deed leaves, None without room -/
def notesD (rs : List Rec) (sg : List Sgl) : PyData := if roomB rs sg = true then eRecsL (carried rs sg.length ++ parts sg) else .none
theorem filter_head {now : List Rec} {m x : Nat} {k : Str} {t : List (Nat × Str)} (h : lst (out now) = (x, k) :: t) (hx : ¬ x < m) : (lst (out now)).filter (fun e => decide (e.1 < m)) = [] := by
  rw [List.filter_eq_nil_iff]
  rintro ⟨n, k'⟩ he
  obtain ⟨y, hy⟩ := HR.mem_lst.mp he
  have := (HR.lst_head h).2 k' n y hy
  simp
  omega
theorem eRecsL_append (a b : List Rec) : PyData.list (a.map eRec ++ b.map eRec) = eRecsL (a ++ b) := by
  unfold eRecsL
  rw [List.map_append]
theorem pss_fact {X : Cx} {sts : List Stmt} {t : TS} {φ : Prop} (h : φ → PSs X sts t) : PSs X sts (fun D σ H => φ ∧ t D σ H) := ⟨fun pins s σ H D I hw => (h hw.1).run pins s σ H D I hw.2⟩
section
variable {P : Program} {w : World} {K : PySem.W.Frag} {mg : Str → Option Value} {base : Heap}
abbrev s_law_notes_for : Stmt := topS 62
theorem sc_law_notes_for : FnScope ["_law_window_so", "_law_act_here", "_law_parts_so", "_law_wide_so", "_law_lore_here", "_law_found", "_law_now_so", "_law_lap", "_law_own", "_law_first_so"] ["_law_window_so", "_law_act_here"] (defScope s_law_notes_for) := ⟨rfl, rfl, rfl, by decide +kernel, rfl, by decide +kernel, by decide +kernel⟩
def p_law_notes_for (ss : List Sl) (r : Sl) : Prop := ∃ rs g, unb rs = true ∧ (∀ x ∈ rs, okR x = true) ∧ rs.length ≤ 1000 ∧ okG g = true ∧ ss = [.d (eRecsL rs), .d (eDeed g)] ∧ r = .d (notesD rs g.singles)
theorem ok_law_notes_for (B : Bl mg) (F : Def K mg "_law_notes_for" s_law_notes_for ["_law_window_so", "_law_act_here"]) (C_law_parts : Cal P w K mg base 1 "_law_parts" ["_law_act_here"] p_law_parts) (C_law_lore : Cal P w K mg base 3 "_law_lore" ["_law_notes_so"] p_law_lore) (C_law_done : Cal P w K mg base 1 "_law_done" ["_law_lore_here", "_law_act_here"] p_law_done) (C_law_lasts : Cal P w K mg base 3 "_law_lasts" ["_law_notes_so"] p_law_lasts) : Cal P w K mg base 4 "_law_notes_for" ["_law_window_so", "_law_act_here"] p_law_notes_for := by
  refine okC F sc_law_notes_for (fun ss r ⟨rs, g, _, _, _, _, e, _⟩ => by rw [e]; rfl) fun f cdv A outer s H E hr nd hu => ⟨_, (pss_cons (ps_asg (pe_tup (pa_cons (pe_cal C_law_parts hr (pa_cons (pv 1) pa_nil)) (pa_cons (pe_callB (k_len K rfl) (by rfl) B.len boot_len (pa_cons (pv 0) pa_nil)) pa_nil))) (pg_tupK K rfl (n := 2) rfl (pgs_cons (pg_name (i := 2) nd rfl (Or.inr rfl)) (pgs_cons (pg_name (i := 3) nd rfl (Or.inl rfl)) pgs_nil))))
      (pss_cons (ps_set (i := 4) nd rfl (Or.inl rfl) (pe_cal C_law_lore hr (pa_cons (pv 0) pa_nil)))
      (pss_cons (ps_if (PW.pt (pw_or (pt_cmpR op_gt (pe_op op_add (pe_callB (k_len K rfl) (by rfl) B.len boot_len (pa_cons (pv 4) pa_nil)) (pe_callB (k_len K rfl) (by rfl) B.len boot_len (pa_cons (pv 2) pa_nil))) (pv 3) (nomark _)) (pw_or1 (pt_cmpR op_gt (pe_callB (k_len K rfl) (by rfl) B.len boot_len (pa_cons (pe_cal C_law_done hr (pa_cons (pv 4) (pa_cons (pv 1) pa_nil))) pa_nil)) (pe_op op_sub (pv 3) pe_int) (nomark _))))) (pss_one (ps_ret pe_non)) pss_nil)
      (pss_cons (ps_par (i := 5) (j := 6) rfl nd rfl rfl (by decide) rfl rfl (pa_cons (pe_lst pa_nil) (pa_cons (pe_fz (pe_callTy (k_lstOf K rfl) (by rfl) B.list (by decide +kernel) (pa_cons (pv 0) pa_nil))) pa_nil)) (by rfl))
      (pss_cons (ps_for PassesOwn.never rfl (pi_range1 (by rfl) B.range (pa_cons (pv 3) pa_nil)) (pg_name (i := 7) nd rfl (Or.inl rfl))
      (pss_cons (ps_set (i := 9) nd rfl (Or.inl rfl) (pe_fz (pe_slice (k_slL K rfl) (pe_fz (pe_lc (own := [("_law_own", 8)]) rfl nd (pi_list (pe_cal C_law_lasts hr (pa_cons (pv 6) pa_nil))) (blkOk_by (own := [("_law_own", 8)]) (N := ["_law_window_so", "_law_act_here", "_law_parts_so", "_law_wide_so", "_law_lore_here", "_law_found", "_law_now_so", "_law_lap", "_law_own", "_law_first_so"]) (sc := defScope s_law_notes_for) (by decide +kernel)) (fun _ _ _ _ _ => (pg_name (i := 8) nd rfl (Or.inl rfl))) (fun _ _ _ _ _ => (pts_one (pt_cmpR op_lt (pe_ix (k_ixT K rfl) (pv 8) pe_int (fun _ _ => rfl)) (pe_callB (k_len K rfl) (by rfl) B.len boot_len (pa_cons (pv 2) pa_nil)) (nomark _)))) (fun _ _ _ _ _ => (pv 8)))) po_none (po_some pe_int))))
        (pss_cons (ps_if (pt_cmpR (k_eqD K rfl hr.units) (pv 9) (pe_fz (pe_lst pa_nil)) (nomark _)) (pss_one ps_break) pss_nil)
        (pss_cons (ps_set (i := 8) nd rfl (Or.inl rfl) (pe_op (k_catA K rfl) (pe_slice (k_slT K rfl) (pe_ix (k_ixL K rfl) (pv 6) (pe_ix (k_ixT K rfl) (pe_ix (k_ixL K rfl) (pv 9) pe_int (fun _ _ => rfl)) pe_int (fun _ _ => rfl)) (fun _ _ => rfl)) po_none (po_some pe_int)) (pe_tup (pa_cons pe_int (pa_cons pe_int pa_nil)))))
        (pss_cons (ps_expr (pe_bm PySem.F.plainAttrs_list PySem.F.slot_list_append PySem.F.type_list_append mt_append (pv 5) (pa_cons (pv 8) pa_nil)))
        (pss_one (ps_set (i := 6) nd rfl (Or.inl rfl) (pe_fz (pe_op op_catL (pe_fz (pe_slice (k_slL K rfl) (pv 6) (po_some pe_int) po_none)) (pe_fz (pe_lst (pa_cons (pv 8) pa_nil))))))))))))
      (pss_fz (pss_one (ps_ret (pe_fz (pe_op op_catL (pv 5) (pv 2))))))))))), fun ss r h c D hR => ?_⟩
  obtain ⟨rs, g, u, hok, hl, hg, rfl, rfl⟩ := h
  have hgl := okG_len hg
  have htl := tab_le rs
  have hpl := HR.parts_length g.singles
  refine q_unp (ed_tup [eRecsL (parts g.singles), .int (rs.length : Int)] (ea_cons (ed_call (ea_cons (ed_var rfl) ea_nil) ⟨g, hg, rfl, rfl⟩) (ea_cons (ed_eq (ed_lenL (ds := rs.map eRec) (ed_var rfl)) (by rw [List.length_map])) ea_nil)) rfl (by simp)) ?_
  refine q_set (ed_call (ea_cons (ed_var rfl) ea_nil) ⟨false, rs, u, hok, hl, rfl, rfl⟩) ?_
  refine q_when (et_eq (b := !roomB rs g.singles) (et_or (et_test (ed_gt (ed_add (ed_lenT (ds := (tab (out rs)).map eKW) (ed_pl (ed_var rfl))) (ed_lenL (ds := (parts g.singles).map eRec) (ed_var rfl))) (ed_var rfl))) fun _ => (et_test (ed_gt (ed_lenT (ds := (done (tab (out rs)) g.singles).map eKW) (ed_call (ea_cons (ed_var rfl) (ea_cons (ed_var rfl) ea_nil)) ⟨tab (out rs), g, HR.tab_nk _, by omega, hg, rfl, rfl⟩)) (ed_sub (ed_var rfl) ed_int)))) ?_) (fun hb => ?_) (fun hb => ?_)
  · simp only [List.length_map, hpl]
    unfold roomB
    rw [HR.behind_done (HR.tab_nk _)]
    rw [Bool.eq_iff_iff]
    simp only [Bool.or_eq_true, decide_eq_true_eq, Bool.not_eq_true', Bool.and_eq_false_iff, decide_eq_false_iff_not]
    omega
  · have hb : roomB rs g.singles = false := by simpa using hb
    have e : notesD rs g.singles = .none := by unfold notesD; rw [if_neg (by rw [hb]; exact Bool.false_ne_true)]
    rw [e] at hR
    exact s_ret ed_non hR
  · have hb : roomB rs g.singles = true := by simpa using hb
    have e : notesD rs g.singles = eRecsL (carried rs g.singles.length ++ parts g.singles) := by unfold notesD; rw [if_pos hb]
    rw [e] at hR
    have hL := roomB_le hb
    have hcl := HR.carried_len u hL
    generalize hm : g.singles.length = m at *
    refine q_parL (s' := .d (eRecsL rs)) (fun p => ed_lstL (ed_var rfl)) fun p => ?_
    have fin : ∀ a1 a2 a3 a4, Do c D (tFzS (tRet (tFz (tOp rCatL (tVar 5) (tVar 2))))) [.d (eRecsL rs), .d (eDeed g), .d (eRecsL (parts g.singles)), .d (.int (rs.length : Int)), .d (pl (eTab (tab (out rs)))), .v (.ref p), a1, a2, a3, a4] [(p, .lst ((carried rs m).map eRec))] := fun a1 a2 a3 a4 =>
      q_fzL (i := 5) rfl (s_ret (ed_eq (ed_catL (ds := (carried rs m).map eRec) (es := (parts g.singles).map eRec) (ed_var rfl) (ed_var rfl) (by rw [List.length_map, List.length_map]; omega)) (by rw [eRecsL_append])) hR)
    refine q_for (es_rng1 (ea_cons (ed_var rfl) ea_nil) (by omega) (by omega)) (fun i δ M => ∃ now fd a1 a2 a3, CI rs i now fd ∧ (∀ x ∈ now, okR x = true) ∧ carried rs m = fd ++ carry (rs.length - i) now m ∧
      δ = [.d (eRecsL rs), .d (eDeed g), .d (eRecsL (parts g.singles)), .d (.int (rs.length : Int)), .d (pl (eTab (tab (out rs)))), .v (.ref p), .d (eRecsL now), a1, a2, a3] ∧ M = [(p, .lst (fd.map eRec))]) ⟨rs, [], _, _, _, CI.start u, hok, rfl, rfl, rfl⟩ ?_ ?_
    · rintro c' lc i d δ1 M1 hd ⟨now, fd, a1, a2, a3, I, hno, hcar, q1, q2⟩
      subst q1 q2
      have hi : i < rs.length := by have := (List.getElem?_eq_some_iff.mp hd).1; simpa [rangeD] using this
      have hd' := rangeD_get (lo := 0) (n := (rs.length : Int).toNat) (i := i) (by simpa using hi)
      rw [hd'] at hd
      cases hd
      have hnl := I.len
      have hll := lst_le now
      have hsl := shp_lst hno
      refine ⟨_, tg_name, fun N hN => ?_⟩
      have hfirst : ∀ (c0 : Ct) (M0 : Mem) a1 a2 a3, Ed c0 (tFz (tSl (rSlL K) (lcT (iList K (tCall (SpD p_law_lasts) [] E0 (tCons (tVar 6) tNil))) (gName 8) (tTest (tOp (rI0 fun i j => .bl (decide (i < j))) (tOp (rIxT K) (tVar 8) (tC (.int 0))) (tCB (fun xs H Q => ∃ p ys, xs = [.ref p] ∧ (SqL K H p ys ∨ SqT K H p ys) ∧ Q (.int ys.length) H) (tCons (tVar 2) tNil)))) (tVar 8) [8]) tNoPart (tPart (tC (.int 1)))))
          [.d (eRecsL rs), .d (eDeed g), .d (eRecsL (parts g.singles)), .d (.int (rs.length : Int)), .d (pl (eTab (tab (out rs)))), .v (.ref p), .d (eRecsL now), a1, a2, a3] M0 (.d (.list ((((lst (out now)).filter fun e => decide (e.1 < m)).take 1).map eNK))) := fun c0 M0 a1 a2 a3 => by
        refine ed_eq (ed_slL (ed_lc (leavF m) (es_list (ed_call (ea_cons (ed_var rfl) ea_nil) ⟨false, now, I.un, hno, by omega, rfl, rfl⟩)) (by simp; omega) fun d hd => ?_) eo_none (eo_some ed_int)) (by rw [leav_all, show (1 : Int) = ((1 : Nat) : Int) from rfl, cutD_to, List.map_take])
        obtain ⟨⟨n, k⟩, _, rfl⟩ := List.mem_map.mp hd
        refine ⟨_, tc_name, et_eq (et_test (ed_lt (ed_ixT (ds := [.int (n : Int), .str k]) (ed_var rfl) ed_int rfl) (ed_lenL (ds := (parts g.singles).map eRec) (ed_var rfl)))) ?_, fun e he => ?_⟩
        · rw [List.length_map, hpl]
          show decide ((n : Int) < (m : Int)) = (if (n : Int) < (m : Int) then some (eNK (n, k)) else none : Option PyData).isSome
          by_cases h : (n : Int) < (m : Int) <;> simp [h]
        · have he : (if (n : Int) < (m : Int) then some (eNK (n, k)) else none : Option PyData) = some e := he
          split at he
          · cases he
            exact ed_var rfl
          · cases he
      refine q_set (hfirst _ _ _ _ _) ?_
      have hbrk : nxt now m = none → ∀ {δ : List Sl}, (∃ a1 a2 a3 a4, δ = [.d (eRecsL rs), .d (eDeed g), .d (eRecsL (parts g.singles)), .d (.int (rs.length : Int)), .d (pl (eTab (tab (out rs)))), .v (.ref p), a1, a2, a3, a4]) → Do c' D (tFzS (tRet (tFz (tOp rCatL (tVar 5) (tVar 2))))) δ [(p, .lst (fd.map eRec))] := fun hn δ ⟨a1, a2, a3, a4, e⟩ => by
        have e2 : carried rs m = fd := by rw [hcar, HR.carry_none hn, List.append_nil]
        have := (fin a1 a2 a3 a4).le lc
        rw [e2] at this
        rw [e]
        exact this
      have hsn : shp 1 (.list []) := shp.list fun d hd => by cases hd
      cases hls : lst (out now) with
      | nil =>
        refine q_when (et_eq (b := true) (et_test (ed_eqD (ed_var rfl) (ed_lst [] ea_nil) (shp.shaped hsn) (shp.shaped hsn))) (by show PyData.eqv (.list []) (.list []) = true; rw [eqv_self _ hsn.1])) (fun _ => ?_) fun z => nomatch z
        exact s_brk (hbrk (nxt_nil hls) ⟨_, _, _, _, rfl⟩)
      | cons e t =>
        obtain ⟨x, kk⟩ := e
        obtain ⟨y, pp, ll, ha⟩ := nxt_at hls
        have hxl : x < now.length := (List.getElem?_eq_some_iff.mp ha).1
        by_cases hx : x < m
        · have hf1 : (((x, kk) :: t : List (Nat × Str)).filter fun e => decide (e.1 < m)).take 1 = [(x, kk)] := by
            rw [List.filter_cons, if_pos (by simpa using hx)]
            rfl
          rw [hf1]
          have hko : PyData.strOk kk = true := okW_str (okR_put (hno _ (List.mem_of_getElem? ha))).1
          have hs1 : shp 2 (.list [eNK (x, kk)]) := shp.list fun d hd => by
            rw [List.mem_singleton.mp hd]
            exact shp_eNK hko
          refine q_no (et_eq (et_test (ed_eqD (ed_var rfl) (ed_lst [] ea_nil) (shp.shaped hs1) (shp.shaped hsn))) ?_) ?_
          · show PyData.eqv (.list [eNK (x, kk)]) (.list []) = false
            rw [PyData.eqv, PyData.eqvAll]
            all_goals simp
          have hnx := nxt_lt hls hx ha
          obtain ⟨I2, hc2⟩ := I.step hnx (by omega)
          refine q_set (s := .d (eRec (.part (.put kk y) 0 0))) (ed_eq (ed_catT (ed_slT (ds := eRi (.part (.put kk y) pp ll)) (ed_ixL (ds := now.map eRec) (d := eRec (.part (.put kk y) pp ll)) (ed_var rfl) (ed_ixT (ds := [.int (x : Int), .str kk]) (ed_ixL (ds := [eNK (x, kk)]) (ed_var rfl) ed_int rfl) ed_int rfl) ?_) eo_none (eo_some ed_int)) (ed_tup [.int 0, .int 0] (ea_cons ed_int (ea_cons ed_int ea_nil))) (by simp [cutD, HT.sIx, eRi])) rfl) ?_
          · rw [atI_nat _ _ (by simpa using hxl), List.getElem?_map, ha]; rfl
          refine q_app (d := eRec (.part (.put kk y) 0 0)) rfl (ed_var rfl) (by rw [List.length_map, I.fl]; omega) ?_
          refine s_set (s := .d (eRecsL (now.tail ++ [.part (.put kk y) 0 0]))) (ed_eq (ed_catL (ed_slL (ds := now.map eRec) (ed_var rfl) (eo_some ed_int) eo_none) (ed_lst [eRec (.part (.put kk y) 0 0)] (ea_cons (ed_var rfl) ea_nil) rfl (by simp)) ?_) ?_) (hN _ _ ⟨now.tail ++ [.part (.put kk y) 0 0], fd ++ [.part (.put kk y) 0 0], _, _, _, I2, fun z hz => ?_, ?_, rfl, by rw [List.map_append]; rfl⟩)
          · rw [show (1 : Int) = ((1 : Nat) : Int) from rfl, cutD_from, List.length_drop, List.length_map]
            simp
            omega
          · rw [show (1 : Int) = ((1 : Nat) : Int) from rfl, cutD_from, ← List.map_drop, List.drop_one]
            exact congrArg Sl.d (eRecsL_append now.tail [.part (.put kk y) 0 0])
          · rcases List.mem_append.mp hz with hz | hz
            · exact hno z (List.mem_of_mem_tail hz)
            · rw [List.mem_singleton.mp hz]; exact okR_as (hno _ (List.mem_of_getElem? ha))
          · rw [hcar, show rs.length - i = (rs.length - (i + 1)) + 1 by omega, HR.carry_some hnx, List.append_assoc]
            rfl
        · have hf0 : (((x, kk) :: t : List (Nat × Str)).filter fun e => decide (e.1 < m)).take 1 = [] := by
            rw [← hls, filter_head hls hx]; rfl
          rw [hf0]
          refine q_when (et_eq (b := true) (et_test (ed_eqD (ed_var rfl) (ed_lst [] ea_nil) (shp.shaped hsn) (shp.shaped hsn))) (by show PyData.eqv (.list []) (.list []) = true; rw [eqv_self _ hsn.1])) (fun _ => ?_) fun z => nomatch z
          exact s_brk (hbrk (nxt_ge hls hx) ⟨_, _, _, _, rfl⟩)
    · rintro δ1 M1 ⟨now, fd, a1, a2, a3, I, hno, hcar, q1, q2⟩
      subst q1 q2
      have e0 : (rangeD 0 (rs.length : Int).toNat).length = rs.length := by simp [rangeD]
      rw [e0, Nat.sub_self] at hcar
      have e2 : carried rs m = fd := by rw [hcar]; exact List.append_nil _
      have := fin (.d (eRecsL now)) a1 a2 a3
      rw [e2] at this
      exact this
abbrev s_law_heard : Stmt := topS 65
theorem sc_law_heard : FnScope ["_law_door", "_law_row_so", "_law_own", "_law_found", "error_a"] ["_law_door", "_law_row_so", "_law_own"] (defScope s_law_heard) := ⟨rfl, rfl, rfl, by decide +kernel, rfl, by decide +kernel, by decide +kernel⟩
def p_law_heard (ss : List Sl) (r : Sl) : Prop := (∃ d rs d2 g, unb rs = true ∧ (∀ x ∈ rs, okR x = true) ∧ rs.length ≤ 1000 ∧ flatD 2 d = true ∧ tupD d = eRecs rs ∧ okG g = true ∧ flatD 3 d2 = true ∧ tupD d2 = eDeed g ∧ ss = [.d (.int 0), .d d, .d d2] ∧
    r = .d (if roomB rs g.singles = true then eRecs (carried rs g.singles.length ++ parts g.singles) else .list [.str "full", .bool true])) ∨
  (∃ d rs, ∃ m : Nat, unb rs = true ∧ (∀ x ∈ rs, okR x = true) ∧ rs.length ≤ 1000 ∧ flatD 2 d = true ∧ tupD d = eRecs rs ∧ ss = [.d (.int 1), .d d, .d (.int (m : Int))] ∧
    r = .d (if m + (tab (out rs)).length ≤ rs.length then eRecs (carried rs m) else .list [.str "full", .bool true]))
theorem ok_law_heard {C : Addr} (FC : FullC K mg C) (B : Bl mg) (F : Def K mg "_law_heard" s_law_heard ["_law_door", "_law_row_so", "_law_own"]) (C_writes_for : CalX P w K mg base 8 C "writes_for" ["records", "deed"] ["deed", "records"] g2 p_writes_for) (C_carried : CalX P w K mg base 8 C "carried" ["records", "many"] ["many", "records"] g2 p_carried) : Cal P w K mg base 9 "_law_heard" ["_law_door", "_law_row_so", "_law_own"] p_law_heard := by
  refine okC F sc_law_heard (fun ss r h => by rcases h with ⟨_, _, _, _, _, _, _, _, _, _, _, _, e, _⟩ | ⟨_, _, _, _, _, _, _, _, e, _⟩ <;> rw [e] <;> rfl) fun f cdv A outer s H E hr nd hu => ⟨_, pss_cons (ps_set (i := 3) nd rfl (Or.inl rfl) pe_non)
      (pss_cons (ps_try_as (i := 4) (c := .ref C) (tb := fun W => tAsg (tIf (tTest (tOp rEq (tVar 0) (tC (.int 0)))) (tCallKS (SpX C p_writes_for) g2 (WE W) (tCons (tVar 2) (tCons (tVar 1) tNil))) (tCallKS (SpX C p_carried) g2 (WE W) (tCons (tVar 2) (tCons (tVar 1) tNil)))) (gName 3))
        (ts := fun a cls d => fun D σ H => (cls = .ref C ∧ d = none) ∧ tAsg (tFz (tLst (tCons (tC (.str "full")) (tCons (tCB (rIsE K C a) (tCons (tVar 4) (tCons (tC (.ty "ValueError")) tNil))) tNil)))) (gName 3) D σ H) (Wout := fun _ _ _ _ => False) rfl rfl nd rfl rfl ⟨rfl, by decide, Or.inl FC.gC⟩ takes0
        (fun W pn xe tk _ => pss_one (ps_set (i := 3) nd rfl (Or.inl rfl) (pe_ifExp (pt_cmpR op_eq (pv 0) pe_int (nomark _)) (pe_calX C_writes_for hr tk (pk_cons (pv 2) (pk_cons (pv 1) pk_nil))) (pe_calX C_carried hr tk (pk_cons (pv 2) (pk_cons (pv 1) pk_nil))))))
        (fun a oe cls d pn hz hf => ?_))
      (pss_one (ps_ret (pv 3)))), fun ss r h c D hR => ?_⟩
  · refine pss_fact fun ⟨hc, hd⟩ => ?_
    subst hc hd
    exact pss_one (ps_set (i := 3) nd rfl (Or.inl rfl) (pe_fz (pe_lst (pa_cons pe_str (pa_cons (pe_callB (call_isE FC.iC hz hf) (by rfl) B.isinstance (by decide +kernel) (pa_cons (pv 4) (pa_cons (pe_bltn (v := .ty "ValueError") (by rfl) B.valueError (by decide +kernel) rfl) pa_nil))) pa_nil)))))
  · have suite : ∀ (c : Ct) (D : Ends) (r1 r2 r3 : Sl) (r : Sl), r = .d (.list [.str "full", .bool true]) → Rt c D.rt r → ∀ a, Do c { nx := fun σ' H' => (tRet (tVar 3) : TS) D (σ'.set 4 none) H', rt := D.rt, bk := fun σ' H' => D.bk (σ'.set 4 none) H', ct := fun σ' H' => D.ct (σ'.set 4 none) H' }
        (fun D σ H => ((Value.ref C = .ref C) ∧ ((none : Option Addr) = none)) ∧ tAsg (tFz (tLst (tCons (tC (.str "full")) (tCons (tCB (rIsE K C a) (tCons (tVar 4) (tCons (tC (.ty "ValueError")) tNil))) tNil)))) (gName 3) D σ H) [r1, r2, r3, .d .none, .v (.ref a)] [] := by
      intro c D r1 r2 r3 r hr hR a σ H w
      refine ⟨⟨rfl, rfl⟩, ?_⟩
      refine (?_ : Do c _ (tAsg (tFz (tLst (tCons (tC (.str "full")) (tCons (tCB (rIsE K C a) (tCons (tVar 4) (tCons (tC (.ty "ValueError")) tNil))) tNil)))) (gName 3)) [r1, r2, r3, .d .none, .v (.ref a)] []) σ H w
      refine s_set (ed_lst [.str "full", .bool true] (ea_cons ed_str (ea_cons (s := .d (.bool true)) (ed_cb (ea_cons (ed_ref (x := .ref a) rfl) (ea_cons (ed_c (v := .ty "ValueError")) ea_nil)) fun H vs hv Q k => ?_) ea_nil))) ?_
      · obtain ⟨v, u, rfl, h1, h2⟩ := sl2 hv
        have h1 : v = .ref a := h1
        have h2 : u = .ty "ValueError" := h2
        subst h1 h2
        exact ⟨.ty "ValueError", .type "ValueError", true, rfl, fun u hu => hu, FC.vC, k _ H (Same.refl H) rfl⟩
      · refine n_wipe (i := 4) (nx := (tRet (tVar 3) : TS) D) ?_
        intro σ2 H2 w2
        exact s_ret (c := c) (D := D) (δ := [r1, r2, r3, .d (.list [.str "full", .bool true]), .no]) (M := []) (ed_var rfl) (by rw [← hr]; exact hR) σ2 H2 w2
    have ret : ∀ (c : Ct) (D : Ends) (r1 r2 r3 r : Sl), Rt c D.rt r → (∃ x, r = .d x) → Nx c ((tRet (tVar 3) : TS) D) [r1, r2, r3, r, .no] [] := by
      rintro c D r1 r2 r3 r hR ⟨x, rfl⟩ σ2 H2 w2
      exact s_ret (c := c) (D := D) (M := []) (ed_var rfl) hR σ2 H2 w2
    rcases h with ⟨d, rs, d2, g, u, hok, hl, hf, ht, hg, hf2, ht2, rfl, rfl⟩ | ⟨d, rs, m, u, hok, hl, hf, ht, rfl, rfl⟩
    · refine q_set ed_non ?_
      refine s_tryAs (D := { D with nx := (tRet (tVar 3) : TS) D }) (te := fun W => tIf (tTest (tOp rEq (tVar 0) (tC (.int 0)))) (tCallKS (SpX C p_writes_for) g2 (WE W) (tCons (tVar 2) (tCons (tVar 1) tNil))) (tCallKS (SpX C p_carried) g2 (WE W) (tCons (tVar 2) (tCons (tVar 1) tNil)))) (ts := fun a cls d => fun D σ H => (cls = .ref C ∧ d = none) ∧ tAsg (tFz (tLst (tCons (tC (.str "full")) (tCons (tCB (rIsE K C a) (tCons (tVar 4) (tCons (tC (.ty "ValueError")) tNil))) tNil)))) (gName 3) D σ H) (Wout := fun _ _ _ _ => False) (i := 4) (j := 3) FC (o := if roomB rs g.singles = true then some (.d (eRecs (carried rs g.singles.length ++ parts g.singles))) else none) (ex_if (ta := fun W => tCallKS (SpX C p_writes_for) g2 (WE W) (tCons (tVar 2) (tCons (tVar 1) tNil))) (tb := fun W => tCallKS (SpX C p_carried) g2 (WE W) (tCons (tVar 2) (tCons (tVar 1) tNil))) (b := true) (et_eq (et_test (ed_eqI (ed_var rfl) ed_int)) rfl) (fun _ => ex_call (pre := p_writes_for) (ts := [.d d, .d d2]) (ea_cons (ed_var rfl) (ea_cons (ed_var rfl) ea_nil)) (fun H zs h => sl_g2 h) ⟨d, rs, d2, g, u, hok, hl, hf, ht, hg, hf2, ht2, rfl, rfl⟩) fun z => nomatch z) (fun r er => ?_) fun eo a => ?_
      · split at er
        · cases er
          rename_i hb
          exact ret c D _ _ _ _ (by rw [if_pos hb] at hR; exact hR) ⟨_, rfl⟩
        · cases er
      · split at eo
        · cases eo
        · rename_i hb
          exact suite c D _ _ _ _ (by rw [if_neg hb]) hR a
    · refine q_set ed_non ?_
      refine s_tryAs (D := { D with nx := (tRet (tVar 3) : TS) D }) (te := fun W => tIf (tTest (tOp rEq (tVar 0) (tC (.int 0)))) (tCallKS (SpX C p_writes_for) g2 (WE W) (tCons (tVar 2) (tCons (tVar 1) tNil))) (tCallKS (SpX C p_carried) g2 (WE W) (tCons (tVar 2) (tCons (tVar 1) tNil)))) (ts := fun a cls d => fun D σ H => (cls = .ref C ∧ d = none) ∧ tAsg (tFz (tLst (tCons (tC (.str "full")) (tCons (tCB (rIsE K C a) (tCons (tVar 4) (tCons (tC (.ty "ValueError")) tNil))) tNil)))) (gName 3) D σ H) (Wout := fun _ _ _ _ => False) (i := 4) (j := 3) FC (o := if m + (tab (out rs)).length ≤ rs.length then some (.d (eRecs (carried rs m))) else none) (ex_if (ta := fun W => tCallKS (SpX C p_writes_for) g2 (WE W) (tCons (tVar 2) (tCons (tVar 1) tNil))) (tb := fun W => tCallKS (SpX C p_carried) g2 (WE W) (tCons (tVar 2) (tCons (tVar 1) tNil))) (b := false) (et_eq (et_test (ed_eqI (ed_var rfl) ed_int)) rfl) (fun z => nomatch z) fun _ => ex_call (pre := p_carried) (ts := [.d d, .d (.int (m : Int))]) (ea_cons (ed_var rfl) (ea_cons (ed_var rfl) ea_nil)) (fun H zs h => sl_g2 h) ⟨d, rs, m, u, hok, hl, hf, ht, rfl, rfl⟩) (fun r er => ?_) fun eo a => ?_
      · split at er
        · cases er
          rename_i hb
          exact ret c D _ _ _ _ (by rw [if_pos hb] at hR; exact hR) ⟨_, rfl⟩
        · cases er
      · split at eo
        · cases eo
        · rename_i hb
          exact suite c D _ _ _ _ (by rw [if_neg hb]) hR a
end
end HD
end
section
namespace L2
open PySem PySem.Spec PyProof.Rows
theorem k_lenSS {X : Cx} {a : Expr} {ta : TE} {p p2 p3 q q3 pos : Pos} (K : PySem.W.Frag) (hK : X.K = K) (hc : X.calm = true) (hu : X.A.units + 64 < cLine) (hg : Gl X "len") (hm : X.mg "len" = none) (hg2 : Gl X "set") (hm2 : X.mg "set" = none) (hg3 : Gl X "sorted") (hm3 : X.mg "sorted" = none) (ha : PE X a ta)
    (na : starEach [a] X.env = (false, eval a X.env) :: starEach [] X.env := by rfl) : PE X (.Call (.Name "len" p) [.Call (.Name "sorted" p3) [.Call (.Name "set" p2) [a] [] q] [] q3] [] pos) (tLenSS K ta) := hK ▸ pe_lenSS hc hu hg hm hg2 hm2 hg3 hm3 ha na
end L2
namespace HD
open PySem PySem.Spec PyProof.Rows L2
open HR (Sgl Rec dput ddrop dlook Nk parts unb fol isPart asPut Ev kept seg segR closers clo flat out val F num tab lst behind isort leKW leNK win carried carry nxt CI done doneD wordOf)
theorem DiA.strs {H : Hp} : ∀ {bs : List Str} {xs : List V}, DiA H (bs.map .str) xs → xs = bs.map V.str
  | [], _, h => h
  | b :: bs, _, h => by
    obtain ⟨x, r, e, h1, h2⟩ := h
    have h1 : x = .str b := h1
    subst h1
    rw [e, DiA.strs h2]; rfl
theorem ed_lenSS {K : PySem.W.Frag} {c : Ct} {δ : List Sl} {M : Mem} {ta : TE} {ns : List Str} (ha : Ed c ta δ M (.d (.list (ns.map .str)))) (h64 : ns.length < 64) (hn : ns.Nodup) : Ed c (tLenSS K ta) δ M (.d (.int (ns.length : Int))) := fun σ H w Q k =>
  ha σ H w _ fun x H1 s1 hx => by
    obtain ⟨a, o, xs, rfl, h1, h2⟩ := hx
    have := h2.strs
    subst this
    exact ⟨a, ns, rfl, .inl (.inr ⟨o, h1⟩), h64, hn, k _ H1 s1 rfl⟩
section
variable {K : PySem.W.Frag} {c : Ct} {D : Ends} {δ : List Sl} {M : Mem} {ta tb te tx tv tj : TE} {tt : TT} {t u : TS} {s s' z : Sl} {ds es : List PyData} {d : PyData}
theorem lc_open {wi : TI} {g : TG} {tt : TT} {vs : List Nat} (h : PyData → Option PyData) (hs : Es c wi δ M ds) (hl : ds.length ≤ 50000)
    (hb : ∀ d ∈ ds, ∃ δ', Tc g vs d δ δ' ∧ Et c tt δ' M (h d).isSome ∧ ∀ e, h d = some e → Ed c te δ' M (.d e)) : ∀ σ H, Wd c δ M σ H → ∀ Q0 : VK, (∀ a H2 acc, H2 a = some (.lst acc) → (∀ o, Stp c H (upd H2 a (.frz o (.lst acc))) ∧ (Sl.d (.list (ds.filterMap h))).ok (upd H2 a (.frz o (.lst acc))) (.ref a)) → Q0 (.ref a) H2) → tLc wi g tt te vs σ H Q0 := fun σ H w Q0 k =>
  hs σ H w _ fun J H1 G s1 hG g1 hw D hD => by
    have w1 := w.step s1
    have hDo : D ∉ c.own := fun hm => by
      obtain ⟨x, y, z, e, _⟩ := w1.own D hm
      rw [hD] at e; cases e
    refine lc_it hw (fun i H' => Wd c δ ((D, .lst ((ds.take i).filterMap h)) :: M) σ H' ∧ Imx H1 H' ∧ (∀ a o, a ∉ c.own → H1 a = some o → H' a = some o))
      ⟨w1.newC (m := .lst []) hD ⟨[], upd_same, rfl⟩, .new hD, fun a o _ e => Same.new hD a o e⟩ (fun i H' hi p => hG _ _ p.2.1 g1) (fun i x H' H'' hi p y => ?_) (fun H' p => ?_)
    · obtain ⟨wp, im, en⟩ := p
      obtain ⟨d, hd, sm, di⟩ := y
      have hlen : ((ds.take i).filterMap h).length < sizeLine := by
        have h1 : ((ds.take i).filterMap h).length ≤ (ds.take i).length := List.length_filterMap_le h _
        rw [List.length_take] at h1
        exact Evl.sz_lt (by omega)
      obtain ⟨δ', tg, ht, he⟩ := hb d (List.mem_of_getElem? hd)
      have wq := wp.step (.same sm)
      refine tg.tg c _ σ H'' x wq di _ fun σ' w' hwp => ⟨hwp, ht.forget σ' H'' w' _ fun H3 s3 => ?_⟩
      have w3 := wq.step s3
      have im3 := (im.trans (.same sm)).trans s3.i
      have en3 : ∀ a o, a ∉ c.own → H1 a = some o → H3 a = some o := fun a o n e => s3.e a o n (sm a o (en a o n e))
      cases hh : h d with
      | none =>
        show _ ∧ _ ∧ _
        rw [fm_snoc h hd, hh]
        simp only [Option.toList, List.append_nil]
        exact ⟨w3, im3, en3⟩
      | some e =>
        show te σ' H3 _
        refine (he e hh).forget σ' H3 (w'.step s3) _ fun v H4 s4 hv => ?_
        have w4 := w3.step s4
        obtain ⟨acc, ha, hda⟩ := w4.mem (D, .lst ((ds.take i).filterMap h)) List.mem_cons_self
        have mu := (w4.mem (D, .lst ((ds.take i).filterMap h)) List.mem_cons_self).mut
        have i2 : Imx H4 (upd H4 D (.lst (acc ++ [v]))) := .mut mu
        refine ⟨acc, ha, by rw [hda.length]; exact hlen, ?_, (im3.trans s4.i).trans i2, fun a o n q => ?_⟩
        · rw [fm_snoc h hd, hh]
          exact w4.write (m' := .lst _) ⟨acc ++ [v], upd_same, (DiA.mono i2 _ _ hda).append (.one (Di.mono i2 _ _ hv))⟩
        · rw [upd_ne (ne_of_none q hD)]
          exact s4.e a o n (en3 a o n q)
    · obtain ⟨wp, im, en⟩ := p
      rw [List.take_length] at wp
      obtain ⟨acc, ha, hda⟩ := wp.mem (D, .lst (ds.filterMap h)) List.mem_cons_self
      refine k D H' acc ha fun o => ?_
      have mu := (wp.mem (D, .lst (ds.filterMap h)) List.mem_cons_self).mut
      have i2 : Imx H' (upd H' D (.frz o (.lst acc))) := .mut mu
      refine ⟨s1.trans ⟨im.trans i2, fun a u n q => ?_, fun t ht _ => ?_⟩, ⟨D, o, acc, rfl, upd_same, DiA.mono i2 _ _ hda⟩⟩
      · rw [upd_ne (ne_of_none q hD)]
        exact en a u n q
      · obtain ⟨x, y, z, e, q⟩ := wp.own t ht
        exact ⟨x, y, z, by rw [upd_ne (show t ≠ D from fun q => hDo (by rw [← q]; exact ht))]; exact e, q⟩
theorem q_lcF {wi : TI} {g : TG} {vs : List Nat} {i : Nat} (f : PyData → PyData) (hs : Es c wi δ M ds) (hl : ds.length ≤ 50000)
    (hb : ∀ d ∈ ds, ∃ δ', Tc g vs d δ δ' ∧ Ed c te δ' M (.d (f d))) (k : Do c D u (δ.set i (.d (.list (ds.map f)))) M) : Do c D (tSeq (tAsg (tLc wi g tYes te vs) (gName i)) (tFzS u)) δ M := fun σ H w => by
  have e : ds.map f = ds.filterMap fun d => some (f d) := by rw [List.filterMap_eq_map']
  rw [e] at k
  show tLc wi g tYes te vs σ H (fun v H1 => tFzS u D (σ.set i (some v)) H1)
  refine lc_open (fun d => some (f d)) hs hl (fun d hd => ?_) σ H w _ fun a H2 acc ha ho => ⟨a, .lst acc, ha, trivial, fun o => k _ _ ((w.step (ho o).1).set (ho o).2 i)⟩
  obtain ⟨δ', h1, h2⟩ := hb d hd
  exact ⟨δ', h1, et_yes, fun e he => by cases he; exact h2⟩
end
/-- what is told to a deed -/
def toldD (rs : List Rec) (sg : List Sgl) : PyData := if roomB rs sg = true then eRecs (carried rs sg.length ++ parts sg) else .list [.str "full", .bool true]
theorem flat_eNK (e : Nat × Str) : flatD 1 (eNK e) = true := by simp [eNK, flatD, flatA]
theorem flat_eLst {l : List (Nat × Str)} (h : l.length ≤ 1000) : flatD 2 (eLst l) = true := flatD_tuple_of (by rw [List.length_map]; exact h) fun x hx => by
  obtain ⟨e, _, rfl⟩ := List.mem_map.mp hx
  exact flat_eNK e
theorem shp_full : shp 3 (.list [.str "full", .bool true]) := shp.list fun d hd => by
  simp at hd
  rcases hd with rfl | rfl
  · exact ⟨by decide +kernel, by simp [PyData.depth]⟩
  · exact shp.bool
theorem flat_full : flatD 2 (.list [.str "full", .bool true]) = true := by simp [flatD, flatA]
theorem notesD_isN (rs : List Rec) (sg : List Sgl) : isN (notesD rs sg) = !roomB rs sg := by
  unfold notesD
  cases roomB rs sg <;> rfl
def keyD : PyData → PyData
  | .tuple (_ :: k :: _) => k
  | _ => .none
def keyR : Rec → Str
  | .part s _ _ => s.key
  | .blank => Str.empty
theorem keys_carried {rs : List Rec} : (∀ r ∈ rs, ∃ k w, r = Rec.part (.put k w) 0 0) → ∀ h : (rs.filterMap HR.keyOf).Nodup, ∃ ks : List Str, (rs.map eRec).map keyD = ks.map .str ∧ ks.length = rs.length ∧ ks.Nodup := by
  intro h hn
  have e1 : ∀ l : List Rec, (∀ r ∈ l, ∃ k w, r = Rec.part (.put k w) 0 0) → l.filterMap HR.keyOf = l.map keyR := by
    intro l
    induction l with
    | nil => intro _; rfl
    | cons r l ih =>
      intro h
      obtain ⟨k, w, rfl⟩ := h r List.mem_cons_self
      rw [List.filterMap_cons, ih fun x hx => h x (List.mem_cons_of_mem _ hx)]
      rfl
  refine ⟨rs.map keyR, ?_, List.length_map _, by rw [← e1 rs h]; exact hn⟩
  rw [List.map_map, List.map_map]
  refine List.map_congr_left fun r hr => ?_
  obtain ⟨k, w, rfl⟩ := h r hr
  rfl
section
variable {P : Program} {w : World} {K : PySem.W.Frag} {mg : Str → Option Value} {base : Heap}
abbrev s_law_told_so : Stmt := topS 67
theorem sc_law_told_so : FnScope ["_law_row_so", "_law_act_here", "_law_due", "_law_many_so", "_law_lore_here", "_law_told", "_law_got", "_law_lasts_so", "_law_ahead_so", "_law_keys_so", "_law_last_so", "_law_own"] ["_law_row_so", "_law_act_here"] (defScope s_law_told_so) := ⟨rfl, rfl, rfl, by decide +kernel, rfl, by decide +kernel, by decide +kernel⟩
def p_law_told_so (ss : List Sl) (r : Sl) : Prop := ∃ rs g, unb rs = true ∧ (∀ x ∈ rs, okR x = true) ∧ rs.length ≤ 60 ∧ okG g = true ∧ ss = [.d (eRecsL rs), .d (eDeed g)] ∧ r = .d (.bool true)
theorem ok_law_told_so (B : Bl mg) (F : Def K mg "_law_told_so" s_law_told_so ["_law_row_so", "_law_act_here"]) (C_law_notes_for : Cal P w K mg base 4 "_law_notes_for" ["_law_window_so", "_law_act_here"] p_law_notes_for) (C_law_parts : Cal P w K mg base 1 "_law_parts" ["_law_act_here"] p_law_parts) (C_law_lore : Cal P w K mg base 3 "_law_lore" ["_law_notes_so"] p_law_lore) (C_law_heard : Cal P w K mg base 9 "_law_heard" ["_law_door", "_law_row_so", "_law_own"] p_law_heard) (C_law_lists : Cal P w K mg base 4 "_law_lists" ["_law_matter"] (p_law_lists 3)) (C_law_same : Cal P w K mg base 4 "_law_same" ["_law_got", "_law_due"] (p_law_same 3))
    (K_has_room : CalK P w K mg base 8 "has_room" ["records", "deed"] ["deed", "records"] g2 p_has_room) (K_room_of : CalK P w K mg base 8 "room_of" ["records"] ["records"] g1 p_room_of) (K_leaving : CalK P w K mg base 8 "leaving" ["records", "many"] ["many", "records"] g2 p_leaving)
    (C_law_lasts : Cal P w K mg base 3 "_law_lasts" ["_law_notes_so"] p_law_lasts) (C_window_behind : Cal P w K mg base 8 "window_behind" ["records", "writes"] p_window_behind) (C_keeps : Cal P w K mg base 8 "keeps" ["records", "deed", "writes"] p_keeps) : Cal P w K mg base 10 "_law_told_so" ["_law_row_so", "_law_act_here"] p_law_told_so := by
  refine okC F sc_law_told_so (fun ss r ⟨d, _, _, _, _, _, e, _⟩ => by rw [e]; rfl) fun f cdv A outer s H E hr nd hu => ⟨_, (pss_cons (ps_asg (pe_tup (pa_cons (pe_cal C_law_notes_for hr (pa_cons (pv 0) (pa_cons (pv 1) pa_nil))) (pa_cons (pe_callB (k_len K rfl) (by rfl) B.len boot_len (pa_cons (pe_cal C_law_parts hr (pa_cons (pv 1) pa_nil)) pa_nil)) pa_nil))) (pg_tupK K rfl (n := 2) rfl (pgs_cons (pg_name (i := 2) nd rfl (Or.inl rfl)) (pgs_cons (pg_name (i := 3) nd rfl (Or.inr rfl)) pgs_nil))))
      (pss_cons (ps_par (i := 0) (j := 4) rfl nd rfl rfl (by decide) rfl rfl (pa_cons (pe_callTy (k_tupOf K rfl) (by rfl) B.tuple (by decide +kernel) (pa_cons (pv 0) pa_nil)) (pa_cons (pe_cal C_law_lore hr (pa_cons (pv 0) pa_nil)) pa_nil)) (by rfl))
      (pss_cons (ps_set (i := 5) nd rfl (Or.inl rfl) (pe_cal C_law_heard hr (pa_cons pe_int (pa_cons (pe_cal C_law_lists hr (pa_cons (pv 0) pa_nil)) (pa_cons (pv 1) pa_nil)))))
      (pss_cons (ps_set (i := 6) nd rfl (Or.inl rfl) (pe_fz (pe_lst (pa_cons (pe_calK K_has_room hr (pk_cons (pe_cal C_law_lists hr (pa_cons (pv 1) pa_nil)) (pk_cons (pv 0) pk_nil))) (pa_cons (pe_calK K_room_of hr (pk_cons (pv 0) pk_nil)) (pa_cons (pe_calK K_leaving hr (pk_cons (pv 3) (pk_cons (pv 0) pk_nil))) pa_nil))))))
      (pss_cons (ps_set (i := 7) nd rfl (Or.inl rfl) (pe_callTy (k_tupOf K rfl) (by rfl) B.tuple (by decide +kernel) (pa_cons (pe_fz (pe_lc (own := [("_law_own", 11)]) rfl nd (pi_list (pe_cal C_law_lasts hr (pa_cons (pv 0) pa_nil))) (blkOk_by (own := [("_law_own", 11)]) (N := ["_law_row_so", "_law_act_here", "_law_due", "_law_many_so", "_law_lore_here", "_law_told", "_law_got", "_law_lasts_so", "_law_ahead_so", "_law_keys_so", "_law_last_so", "_law_own"]) (sc := defScope s_law_told_so) (by decide +kernel)) (fun _ _ _ _ _ => (pg_name (i := 11) nd rfl (Or.inl rfl))) (fun _ _ _ _ _ => (pts_one (pt_cmpR op_lt (pe_ix (k_ixT K rfl) (pv 11) pe_int (fun _ _ => rfl)) (pv 3) (nomark _)))) (fun _ _ _ _ _ => (pv 11)))) pa_nil)))
      (pss_cons (ps_if (pt_not (pt_val (pe_cal C_law_same hr (pa_cons (pv 6) (pa_cons (pe_fz (pe_lst (pa_cons (pe_cmpR op_notN (pv 2) pe_non (nomark _)) (pa_cons (pe_op op_sub (pe_callB (k_len K rfl) (by rfl) B.len boot_len (pa_cons (pv 0) pa_nil)) (pe_callB (k_len K rfl) (by rfl) B.len boot_len (pa_cons (pv 4) pa_nil))) (pa_cons (pv 7) pa_nil))))) pa_nil))))) (pss_one (ps_ret pe_bl)) pss_nil)
      (pss_cons (ps_if (pt_not (pt_val (pe_cal C_law_same hr (pa_cons (pv 5) (pa_cons (pe_ifExp (pt_cmpR op_isN (pv 2) pe_non (nomark _)) (pe_fz (pe_lst (pa_cons pe_str (pa_cons pe_bl pa_nil)))) (pe_callTy (k_tupOf K rfl) (by rfl) B.tuple (by decide +kernel) (pa_cons (pv 2) pa_nil))) pa_nil))))) (pss_one (ps_ret pe_bl)) pss_nil)
      (pss_cons (ps_if (pt_cmpR op_isN (pv 2) pe_non (nomark _)) (pss_one (ps_ret pe_bl)) pss_nil)
      (pss_cons (ps_set (i := 8) nd rfl (Or.inl rfl) (pe_slice (k_slT K rfl) (pv 5) po_none (po_some (pe_op op_sub (pe_callB (k_len K rfl) (by rfl) B.len boot_len (pa_cons (pv 5) pa_nil)) (pv 3)))))
      (pss_cons (ps_setLc (i := 9) (own := [("_law_own", 11)]) rfl nd rfl rfl (by rfl) (pi_tup (pv 8)) (blkOk_by (own := [("_law_own", 11)]) (N := ["_law_row_so", "_law_act_here", "_law_due", "_law_many_so", "_law_lore_here", "_law_told", "_law_got", "_law_lasts_so", "_law_ahead_so", "_law_keys_so", "_law_last_so", "_law_own"]) (sc := defScope s_law_told_so) (by decide +kernel)) (fun _ _ _ _ _ => (pg_name (i := 11) nd rfl (Or.inl rfl))) (fun _ _ _ _ _ => pts_nil) (fun _ _ _ _ _ => (pe_ix (k_ixT K rfl) (pv 11) pe_int (fun _ _ => rfl))))
      (pss_fz (pss_cons (ps_if (PW.pt (pw_or (pt_cmpR op_ne (k_lenSS K rfl rfl hr.units (by rfl) B.len (by rfl) B.set (by rfl) B.sorted (pv 9)) (pe_callB (k_len K rfl) (by rfl) B.len boot_len (pa_cons (pv 9) pa_nil)) (nomark _)) (pw_or1 (pt_not (pt_val (pe_cal C_law_same hr (pa_cons (pe_cal C_law_heard hr (pa_cons pe_int (pa_cons (pv 0) (pa_cons (pv 3) pa_nil)))) (pa_cons (pv 8) pa_nil)))))))) (pss_one (ps_ret pe_bl)) pss_nil)
      (pss_cons (ps_set (i := 10) nd rfl (Or.inl rfl) (pe_callTy (k_tupOf K rfl) (by rfl) B.tuple (by decide +kernel) (pa_cons (pe_cal C_window_behind hr (pa_cons (pv 0) (pa_cons (pv 5) pa_nil))) pa_nil)))
      (pss_one (ps_ret (pe_cal C_law_same hr (pa_cons (pe_fz (pe_lst (pa_cons (pe_cal C_keeps hr (pa_cons (pv 0) (pa_cons (pv 1) (pa_cons (pv 5) pa_nil)))) (pa_cons (pv 10) pa_nil)))) (pa_cons (pe_fz (pe_lst (pa_cons pe_bl (pa_cons (pe_slice (k_slT K rfl) (pe_op (k_catA K rfl) (pv 0) (pv 5)) (po_some (pe_callB (k_len K rfl) (by rfl) B.len boot_len (pa_cons (pv 5) pa_nil))) po_none) pa_nil)))) pa_nil)))))))))))))))))), fun ss r h c D hR => ?_⟩
  obtain ⟨rs, g, u, hok, hl, hg, rfl, rfl⟩ := h
  have hl' : rs.length ≤ 1000 := by omega
  have hgl := okG_len hg
  have htl := tab_le rs
  have hll := lst_le rs
  have hpl := HR.parts_length g.singles
  have hfr : flatD 2 (eRecs rs) = true := flat_eRecs hl'
  have hfg : flatD 3 (eDeed g) = true := flat_eDeed hgl.2
  refine q_unp (ed_tup [notesD rs g.singles, .int ((parts g.singles).length : Int)] (ea_cons (ed_call (ea_cons (ed_var rfl) (ea_cons (ed_var rfl) ea_nil)) ⟨rs, g, u, hok, hl', hg, rfl, rfl⟩) (ea_cons (ed_eq (ed_lenL (ds := (parts g.singles).map eRec) (ed_call (ea_cons (ed_var rfl) ea_nil) ⟨g, hg, rfl, rfl⟩)) (by rw [List.length_map])) ea_nil)) rfl (by simp)) ?_
  refine q_par (s := .d (eRecs rs)) (ed_tupL (ds := rs.map eRec) (ed_var rfl)) (ed_call (ea_cons (ed_var rfl) ea_nil) ⟨false, rs, u, hok, hl', rfl, rfl⟩) ?_
  rw [hpl]
  refine q_set (s := .d (toldD rs g.singles)) (ed_call (ea_cons ed_int (ea_cons (ed_call (ea_cons (ed_var rfl) ea_nil) ⟨eRecs rs, flatD_mono 2 3 _ (by omega) hfr, rfl, rfl⟩) (ea_cons (ed_var rfl) ea_nil))) (Or.inl ⟨lstD (eRecs rs), rs, eDeed g, g, u, hok, hl', by rw [flat_lst]; exact hfr, by rw [tup_lst, tupD_eRecs], hg, hfg, tupD_eDeed g, rfl, rfl⟩)) ?_
  have hs1 : shp 4 (.list [.bool (roomB rs g.singles), .int ((rs.length : Int) - ((tab (out rs)).length : Int)), eLst ((lst (out rs)).filter fun e => decide (e.1 < g.singles.length))]) := shp.list fun d hd => by
    simp at hd
    rcases hd with rfl | rfl | rfl
    · exact shp.bool
    · exact shp.int
    · refine shp.tuple fun d hd => ?_
      obtain ⟨⟨n, k⟩, hr, rfl⟩ := List.mem_map.mp hd
      obtain ⟨x, p, l, hp⟩ := lst_at (List.mem_filter.mp hr).1
      exact (shp_eNK (okW_str (okR_put (hok _ (List.mem_of_getElem? hp))).1)).mono (by omega)
  have hfl1 : ((lst (out rs)).filter fun e => decide (e.1 < g.singles.length)).length ≤ 1000 := Nat.le_trans (List.length_filter_le _ _) (by omega)
  have hf1 : flatD 3 (.list [.bool (roomB rs g.singles), .int ((rs.length : Int) - ((tab (out rs)).length : Int)), eLst ((lst (out rs)).filter fun e => decide (e.1 < g.singles.length))]) = true := flatD_list_of (by simp) fun d hd => by
    simp at hd
    rcases hd with rfl | rfl | rfl
    · simp [flatD]
    · simp [flatD]
    · exact flat_eLst hfl1
  refine q_set (ed_lst [.bool (roomB rs g.singles), .int ((rs.length : Int) - ((tab (out rs)).length : Int)), eLst ((lst (out rs)).filter fun e => decide (e.1 < g.singles.length))]
    (ea_cons (ed_callK2 (ed_call (ea_cons (ed_var rfl) ea_nil) ⟨eDeed g, hfg, rfl, rfl⟩) (ed_var rfl) ⟨eRecs rs, rs, lstD (eDeed g), g, u, hok, hl', hfr, tupD_eRecs rs, hg, by rw [flat_lst]; exact hfg, by rw [tup_lst, tupD_eDeed], rfl, rfl⟩)
    (ea_cons (ed_callK1 (ed_var rfl) ⟨eRecs rs, rs, u, hok, hl', hfr, tupD_eRecs rs, rfl, rfl⟩)
    (ea_cons (ed_callK2 (ed_var rfl) (ed_var rfl) ⟨eRecs rs, rs, g.singles.length, u, hok, hl', hfr, tupD_eRecs rs, rfl, rfl⟩) ea_nil))) rfl (by simp)) ?_
  refine q_set (s := .d (eLst ((lst (out rs)).filter fun e => decide (e.1 < g.singles.length)))) (ed_eq (ed_tupL (ed_lc (leavF g.singles.length) (es_list (ed_call (ea_cons (ed_var rfl) ea_nil) ⟨true, rs, u, hok, hl', rfl, rfl⟩)) (by simp; omega) fun d hd => ?_)) (by rw [leav_all]; rfl)) ?_
  · obtain ⟨⟨n, k⟩, _, rfl⟩ := List.mem_map.mp hd
    refine ⟨_, tc_name, et_eq (et_test (ed_lt (ed_ixT (ds := [.int (n : Int), .str k]) (ed_var rfl) ed_int rfl) (ed_var rfl))) ?_, fun e he => ?_⟩
    · show decide ((n : Int) < (g.singles.length : Int)) = (if (n : Int) < (g.singles.length : Int) then some (eNK (n, k)) else none : Option PyData).isSome
      by_cases h : (n : Int) < (g.singles.length : Int) <;> simp [h]
    · have he : (if (n : Int) < (g.singles.length : Int) then some (eNK (n, k)) else none : Option PyData) = some e := he
      split at he
      · cases he
        exact ed_var rfl
      · cases he
  refine q_no (et_eq (et_not (et_val (ed_call (ea_cons (ed_var rfl) (ea_cons (ed_lst [.bool (roomB rs g.singles), .int ((rs.length : Int) - ((tab (out rs)).length : Int)), eLst ((lst (out rs)).filter fun e => decide (e.1 < g.singles.length))]
    (ea_cons (ed_eq (ed_notN (ed_var rfl)) (by rw [notesD_isN, Bool.not_not])) (ea_cons (ed_eq (ed_sub (ed_lenT (ds := rs.map eRec) (ed_var rfl)) (ed_lenT (ds := (tab (out rs)).map eKW) (ed_pl (ed_var rfl)))) (by rw [List.length_map, List.length_map])) (ea_cons (ed_var rfl) ea_nil))) rfl (by simp)) ea_nil)) ⟨_, hf1, hs1.1, rfl, rfl⟩))) rfl) ?_
  have hwo : ∀ x ∈ carried rs g.singles.length ++ parts g.singles, okR x = true := fun x hx => by
    rcases List.mem_append.mp hx with hx | hx
    · exact carried_okR hok x hx
    · exact parts_okR (okG_all hg) x hx
  cases hb : roomB rs g.singles with
  | false =>
    have e1 : toldD rs g.singles = .list [.str "full", .bool true] := by unfold toldD; rw [hb]; rfl
    have e2 : notesD rs g.singles = .none := by unfold notesD; rw [hb]; rfl
    rw [e1, e2]
    refine q_no (et_eq (et_not (et_val (ed_call (ea_cons (ed_var rfl) (ea_cons (ed_if (b := true) (et_eq (et_test (ed_isN (ed_var rfl))) rfl) (fun _ => ed_lst [.str "full", .bool true] (ea_cons ed_str (ea_cons ed_bl ea_nil))) fun z => nomatch z) ea_nil)) ⟨_, flatD_mono 2 3 _ (by omega) flat_full, shp_full.1, rfl, rfl⟩))) rfl) ?_
    exact q_when (et_eq (b := true) (et_test (ed_isN (ed_var rfl))) rfl) (fun _ => s_ret ed_bl hR) fun z => nomatch z
  | true =>
    have hL := roomB_le hb
    have hcl := HR.carried_len u hL
    obtain ⟨hcn, hcp⟩ := HR.carried_nodup u hL
    obtain ⟨ks, hk1, hk2, hk3⟩ := keys_carried hcp hcn
    have e1 : toldD rs g.singles = eRecs (carried rs g.singles.length ++ parts g.singles) := by unfold toldD; rw [hb]; rfl
    have e2 : notesD rs g.singles = eRecsL (carried rs g.singles.length ++ parts g.singles) := by unfold notesD; rw [hb]; rfl
    rw [e1, e2]
    have hwl : (carried rs g.singles.length ++ parts g.singles).length = (carried rs g.singles.length).length + g.singles.length := by rw [List.length_append, hpl]
    have hfw : flatD 2 (eRecs (carried rs g.singles.length ++ parts g.singles)) = true := flat_eRecs (by omega)
    have hfc : flatD 2 (eRecs (carried rs g.singles.length)) = true := flat_eRecs (by omega)
    refine q_no (et_eq (et_not (et_val (ed_call (ea_cons (ed_var rfl) (ea_cons (ed_if (b := false) (s := .d (eRecs (carried rs g.singles.length ++ parts g.singles))) (et_eq (et_test (ed_isN (ed_var rfl))) rfl) (fun z => nomatch z) fun _ => ed_tupL (ds := (carried rs g.singles.length ++ parts g.singles).map eRec) (ed_var rfl)) ea_nil)) ⟨_, flatD_mono 2 3 _ (by omega) hfw, (shp_eRecs hwo).1, rfl, rfl⟩))) rfl) ?_
    refine q_no (et_eq (et_test (ed_isN (ed_var rfl))) rfl) ?_
    refine q_set (s := .d (eRecs (carried rs g.singles.length))) (ed_eq (ed_slT (ds := (carried rs g.singles.length ++ parts g.singles).map eRec) (ed_var rfl) eo_none (eo_some (ed_eq (s' := .d (.int ((carried rs g.singles.length).length : Int))) (ed_sub (ed_lenT (ds := (carried rs g.singles.length ++ parts g.singles).map eRec) (ed_var rfl)) (ed_var rfl)) (by rw [List.length_map, hwl]; congr 2; omega)))) (by rw [cutD_to, ← List.map_take, List.take_left]; rfl)) ?_
    refine q_lcF keyD (es_tup (ds := (carried rs g.singles.length).map eRec) (ed_var rfl)) (by simp; omega) (fun d hd => ?_) ?_
    · obtain ⟨r, hr, rfl⟩ := List.mem_map.mp hd
      obtain ⟨k, w, rfl⟩ := hcp r hr
      exact ⟨_, tc_name, ed_ixT (ds := eRi (.part (.put k w) 0 0)) (ed_var rfl) ed_int rfl⟩
    rw [hk1]
    refine q_no (et_eq (et_or (et_test (ed_neI (ed_lenSS (ed_var rfl) (by omega) hk3) (ed_lenL (ds := ks.map .str) (ed_var rfl)))) fun _ => et_not (et_val (ed_call (ea_cons (ed_call (ea_cons ed_int (ea_cons (ed_var rfl) (ea_cons (ed_var rfl) ea_nil))) (Or.inr ⟨eRecs rs, rs, g.singles.length, u, hok, hl', hfr, tupD_eRecs rs, rfl, rfl⟩)) (ea_cons (ed_var rfl) ea_nil)) ⟨eRecs (carried rs g.singles.length), flatD_mono 2 3 _ (by omega) hfc, (shp_eRecs (carried_okR hok)).1, by rw [if_pos hL], rfl⟩))) ?_) ?_
    · rw [List.length_map]; simp
    refine q_set (s := .d (eRecs (win rs (carried rs g.singles.length ++ parts g.singles) (carried rs g.singles.length ++ parts g.singles).length))) (ed_tupT (ed_call (ea_cons (ed_var rfl) (ea_cons (ed_var rfl) ea_nil)) ⟨eRecs rs, rs, eRecs (carried rs g.singles.length ++ parts g.singles), carried rs g.singles.length ++ parts g.singles, u, hok, hl', hfr, tupD_eRecs rs, hwo, by omega, hfw, tupD_eRecs _, rfl, rfl⟩)) ?_
    have hwin : ∀ x ∈ win rs (carried rs g.singles.length ++ parts g.singles) (carried rs g.singles.length ++ parts g.singles).length, okR x = true := fun x hx => by
      have := List.mem_of_mem_drop (List.mem_of_mem_take hx)
      rcases List.mem_append.mp this with h | h
      · exact hok x h
      · exact hwo x h
    have hwinl : (win rs (carried rs g.singles.length ++ parts g.singles) (carried rs g.singles.length ++ parts g.singles).length).length ≤ 1000 := by
      unfold HR.win
      rw [List.length_take]
      omega
    refine s_ret (ed_call (ea_cons (ed_lst [.bool true, eRecs (win rs (carried rs g.singles.length ++ parts g.singles) (carried rs g.singles.length ++ parts g.singles).length)] (ea_cons (ed_call (ea_cons (ed_var rfl) (ea_cons (ed_var rfl) (ea_cons (ed_var rfl) ea_nil))) ⟨eRecs rs, rs, eDeed g, g, eRecs (carried rs g.singles.length ++ parts g.singles), u, hok, hl', hfr, tupD_eRecs rs, hg, hfg, tupD_eDeed g, hL, hfw, tupD_eRecs _, rfl, rfl⟩) (ea_cons (ed_var rfl) ea_nil)) rfl (by simp)) (ea_cons (ed_lst [.bool true, eRecs (win rs (carried rs g.singles.length ++ parts g.singles) (carried rs g.singles.length ++ parts g.singles).length)] (ea_cons ed_bl (ea_cons (ed_eq (ed_slT (ds := rs.map eRec ++ (carried rs g.singles.length ++ parts g.singles).map eRec) (ed_catT (ds := rs.map eRec) (es := (carried rs g.singles.length ++ parts g.singles).map eRec) (ed_var rfl) (ed_var rfl) (by rw [List.length_map, List.length_map]; omega)) (eo_some (ed_eq (ed_lenT (ds := (carried rs g.singles.length ++ parts g.singles).map eRec) (ed_var rfl)) (by rw [List.length_map]))) eo_none) ?_) ea_nil)) rfl (by simp)) ea_nil)) ⟨_, flatD_list_of (by simp) fun d hd => ?_, (shp.list (n := 2) fun d hd => ?_).1, rfl, rfl⟩) hR
    · rw [cutD_from, ← List.map_append, ← List.map_drop]
      unfold HR.win
      rw [List.take_of_length_le (by rw [List.length_drop, List.length_append]; omega)]
      rfl
    · simp only [List.mem_cons, List.not_mem_nil, or_false] at hd
      rcases hd with rfl | rfl
      · simp [flatD]
      · exact flat_eRecs hwinl
    · simp only [List.mem_cons, List.not_mem_nil, or_false] at hd
      rcases hd with rfl | rfl
      · exact shp.bool
      · exact shp_eRecs hwin
end
end HD
end
section
namespace L2
open PySem PySem.Spec PyProof.Rows
theorem k_orT {X : Cx} (K : PySem.W.Frag) (hK : X.K = K) {ta tb : TE} {a b : Expr} {rest : List Expr} {pos : Pos} (ha : PE X a ta) (hb : PE X (.BoolOp .Or (b :: rest) pos) tb) : PE X (.BoolOp .Or (a :: b :: rest) pos) (tOrT K ta tb) := hK ▸ pe_orT ha hb
end L2
namespace HD
open PySem PySem.Spec PyProof.Rows L2
open HR (Sgl Rec dput ddrop dlook Nk parts unb fol isPart asPut Ev kept seg segR closers clo flat out val F num tab lst behind isort leKW leNK win carried carry nxt CI done doneD wordOf)
section
variable {K : PySem.W.Frag} {c : Ct} {D : Ends} {δ : List Sl} {M : Mem} {ta tb te tx tv tj : TE} {tt : TT} {t u : TS} {s s' z : Sl} {ds es : List PyData} {d : PyData}
theorem ed_orTn (ha : Ed c ta δ M (.d .none)) (hb : Ed c tb δ M s) : Ed c (tOrT K ta tb) δ M s := fun σ H w Q k => ha σ H w _ fun v H1 s1 hv => by
  have hv : v = .non := hv
  subst hv
  exact ⟨false, rfl, hb σ H1 (w.step s1) Q fun v H2 s2 hv => k v H2 (s1.trans s2) hv⟩
theorem ed_orTl (ha : Ed c ta δ M (.d (.list ds))) (hne : 0 < ds.length) : Ed c (tOrT K ta tb) δ M (.d (.list ds)) := fun σ H w Q k => ha σ H w _ fun v H1 s1 hv => by
  obtain ⟨a, o, xs, rfl, h1, h2⟩ := id hv
  refine ⟨true, .inl ⟨xs, .inl (.inr ⟨o, h1⟩), ?_⟩, k _ H1 s1 hv⟩
  cases xs with
  | nil => have := h2.length; rw [List.length_nil] at this; omega
  | cons x r => rfl
end
section
variable {c : Ct} {δ : List Sl} {M : Mem} {k j cost : Nat} {R : Sl → Prop} {Rs : List Sl → Prop} {tr : TA} {E : XK}
theorem n_drawM {pre : List Sl → (Sl → Prop) → Prop} {i : Nat} {ta : Addr} (hi : δ[i]? = some (.v (.ref ta))) (ho : c.own = [ta]) (h : EaN c k tr δ M Rs) (hz : c.z + k + cost ≤ 2 ^ 40) (hr : ∀ ss, Rs ss → ∃ R', pre ss R' ∧ ∀ r, R' r → R r) : EdN c (k + cost) (tCall (SpT cost pre) [] E (tCons (tVar i) tr)) δ M R := fun σ H w Q q => by
  refine ⟨.ref ta, w.env.getv hi, h σ H w _ fun ss vs H1 hss w1 i1 hv => ?_⟩
  have hta : ta ∈ c.own := by rw [ho]; exact List.mem_singleton.mpr rfl
  have ht := w1.own ta hta
  obtain ⟨R', hpre, hsub⟩ := hr ss hss
  refine ⟨ta, vs, ss, R', c.z + k, by rw [List.append_nil], hv, hpre, ht, hz, fun r v H2 hR0 hsm ht2 hrv => ?_⟩
  have hR := hsub r hR0
  have st : Stp ⟨c.H0, c.own, c.b, c.z + k⟩ H1 H2 ∨ True := .inr trivial
  have hmu : ∀ a, a = ta → ∃ xs, H1 a = some (.lst xs) := fun a e => by
    subst e
    obtain ⟨x, y, z, e, _⟩ := ht
    exact ⟨_, e⟩
  have im : Imx H1 H2 := by
    refine ⟨fun a xs e => hsm a _ (fun z => ?_) e, fun a o u e => hsm a _ (fun z => ?_) e⟩
    · obtain ⟨ys, e2⟩ := hmu a z
      rw [e] at e2; cases e2
    · obtain ⟨ys, e2⟩ := hmu a z
      rw [e] at e2; cases e2
  have ne : ∀ {a : Addr}, a ∉ c.own → a ≠ ta := fun h z => h (by rw [z]; exact hta)
  refine q r v H2 hR ⟨w1.env.mono im, fun p hp => (w1.mem p hp).step im fun o e => hsm _ o (ne (w1.fr p hp).2) e, fun a o n h => hsm a o (ne n) (w1.ent a o n h), fun t' ht' => ?_, w1.imb.trans im, w1.fr, w1.nd⟩ (i1.trans im) hrv
  have : t' = ta := by
    have ht' : t' ∈ c.own := ht'
    rw [ho] at ht'
    exact List.mem_singleton.mp ht'
  subst this
  exact ht2.mono (by show c.z + k + cost ≤ c.z + (k + cost); omega)
end
theorem win_succ {R X : List Rec} {i : Nat} (h1 : i < R.length) (h2 : i < X.length) : win R X (i + 1) = (win R X i).drop 1 ++ [X[i]] := by
  rw [HR.win_eq (by omega) (by omega), HR.win_eq (by omega) (by omega), List.drop_append_of_le_length (by rw [List.length_drop]; omega), List.drop_drop, List.append_assoc, List.take_succ, List.getElem?_eq_getElem h2]
  rfl
section
variable {P : Program} {w : World} {K : PySem.W.Frag} {mg : Str → Option Value} {base : Heap}
abbrev s_law_right : Stmt := topS 68
theorem sc_law_right : FnScope ["_law_tin", "_law_row_so", "_law_lap", "_law_act_here", "_law_due", "_law_lore_here", "_law_k", "_law_own"] ["_law_tin"] (defScope s_law_right) := ⟨rfl, rfl, rfl, by decide +kernel, rfl, by decide +kernel, by decide +kernel⟩
def p_law_right (ss : List Sl) (R : Sl → Prop) : Prop := ss = [] ∧ R = fun r => r = .d (.bool true)
theorem ok_law_right (B : Bl mg) (F : Def K mg "_law_right" s_law_right ["_law_tin"]) (C_law_take : Take P w K mg base) (C_law_held : CalT P w K mg base 6 "_law_held" ["_law_tin", "_law_wide_so"] 137 p_law_held) (C_law_act : CalT P w K mg base 4 "_law_act" ["_law_tin", "_law_most_so"] 14 p_law_act)
    (C_law_told_so : Cal P w K mg base 10 "_law_told_so" ["_law_row_so", "_law_act_here"] p_law_told_so) (C_law_notes_for : Cal P w K mg base 4 "_law_notes_for" ["_law_window_so", "_law_act_here"] p_law_notes_for) (C_law_lore : Cal P w K mg base 3 "_law_lore" ["_law_notes_so"] p_law_lore) (C_law_done : Cal P w K mg base 1 "_law_done" ["_law_lore_here", "_law_act_here"] p_law_done) : CalT P w K mg base 11 "_law_right" ["_law_tin"] 208 p_law_right := by
  refine okT F sc_law_right (fun ss R ⟨e, _⟩ => by rw [e]; rfl) fun f cdv A outer s H E hr nd hu => ⟨_, (pss_cons (ps_set (i := 1) nd rfl (Or.inl rfl) (pe_calT C_law_held hr (pa_cons (pv 0) (pa_cons (pe_op op_add pe_int (pe_calT C_law_take hr (pa_cons (pv 0) (pa_cons pe_int pa_nil)))) pa_nil))))
      (pss_cons (ps_for PassesOwn.never rfl (pi_range1 (by rfl) B.range (pa_cons pe_int pa_nil)) (pg_name (i := 2) nd rfl (Or.inl rfl))
      (pss_cons (ps_set (i := 3) nd rfl (Or.inl rfl) (pe_calT C_law_act hr (pa_cons (pv 0) (pa_cons pe_int pa_nil))))
        (pss_cons (ps_if (pt_not (pt_val (pe_cal C_law_told_so hr (pa_cons (pv 1) (pa_cons (pv 3) pa_nil))))) (pss_one (ps_ret pe_bl)) pss_nil)
        (pss_cons (ps_par (i := 4) (j := 5) rfl nd rfl rfl (by decide) rfl rfl (pa_cons (pe_cal C_law_notes_for hr (pa_cons (pv 1) (pa_cons (pv 3) pa_nil))) (pa_cons (pe_cal C_law_lore hr (pa_cons (pv 1) pa_nil)) pa_nil)) (by rfl))
        (pss_one (ps_for PassesOwn.never rfl (pi_enum (by rfl) B.enumerate (pa_cons (k_orT K rfl (pv 4) (pe_one (pe_fz (pe_lst pa_nil)))) pa_nil)) (pg_tupK K rfl (n := 2) rfl (pgs_cons (pg_name (i := 6) nd rfl (Or.inl rfl)) (pgs_cons (pg_name (i := 7) nd rfl (Or.inl rfl)) pgs_nil)))
        (pss_cons (ps_set (i := 1) nd rfl (Or.inl rfl) (pe_fz (pe_op op_catL (pe_fz (pe_slice (k_slL K rfl) (pv 1) (po_some pe_int) po_none)) (pe_fz (pe_lst (pa_cons (pv 7) pa_nil))))))
          (pss_one (ps_if (pt_cmpR (k_neD K rfl hr.units) (pe_cal C_law_lore hr (pa_cons (pv 1) pa_nil)) (pe_ifExp (pt_cmpR op_lt (pe_op op_add (pv 6) pe_int) (pe_callB (k_len K rfl) (by rfl) B.len boot_len (pa_cons (pv 4) pa_nil)) (nomark _)) (pv 5) (pe_cal C_law_done hr (pa_cons (pv 5) (pa_cons (pv 3) pa_nil)))) (nomark _)) (pss_one (ps_ret pe_bl)) pss_nil)))))))))
      (pss_one (ps_ret pe_bl)))), fun ta ss R h c D ho hz hR => ?_⟩
  obtain ⟨rfl, rfl⟩ := h
  refine q_setN (k := (1 + 0 + 0) + 137) (R := fun r => ∃ W : Nat, 1 ≤ W ∧ W ≤ 8 ∧ IHeld W r) (n_drawM (cost := 137) (pre := p_law_held) (Rs := fun ss => ∃ W : Nat, 1 ≤ W ∧ W ≤ 8 ∧ ss = [.d (.int (W : Int))]) rfl ho (an_cons (k := 1 + 0) (j := 0) (R1 := fun r => ∃ W : Nat, 1 ≤ W ∧ W ≤ 8 ∧ r = .d (.int (W : Int))) (n_op2 (k := 1) (j := 0) (n_take (n := 7) rfl ho ed_int (by omega) (by omega) (by omega)) fun c2 y s2 l2 hs2 hy => ?_) fun c2 s2 l2 hs2 => an_nil ?_) (by omega) ?_) ?_
  · obtain ⟨i, hi, rfl⟩ := hs2
    exact n_of (ed_add ed_int (ed_kn hy)) ⟨2 + i, by omega, by omega, by rw [show ((2 + i : Nat) : Int) = 2 + (i : Int) by omega]⟩
  · obtain ⟨W, h1, h2, rfl⟩ := hs2
    exact ⟨W, h1, h2, rfl⟩
  · rintro ss ⟨W, h1, h2, rfl⟩
    exact ⟨IHeld W, ⟨W, h1, h2, rfl, rfl⟩, fun r hr => ⟨W, h1, h2, hr⟩⟩
  rintro _ ⟨W, hW1, hW2, rs0, hu0, hok0, hl0, rfl⟩
  refine q_forR (iv := 2) (nmax := 5) (j := 0) (k := 14) (n_of ed_int ⟨5, by omega, rfl⟩) (by omega)
    (fun i δ M => ∃ rs a1 a2 a3 a4 a5 a6, unb rs = true ∧ (∀ x ∈ rs, okR x = true) ∧ rs.length = W ∧ δ = [.v (.ref ta), .d (eRecsL rs), a1, a2, a3, a4, a5, a6] ∧ M = []) ⟨rs0, _, _, _, _, _, _, hu0, hok0, hl0, rfl, rfl⟩ ?_ ?_
  · rintro i c' δ1 M1 hi l ⟨rs, a1, a2, a3, a4, a5, a6, u, hok, hl, q1, q2⟩ N hN
    subst q1 q2
    have hm : i * 14 ≤ 4 * 14 := Nat.mul_le_mul_right 14 (by omega)
    have hz' : c'.z + 14 ≤ 2 ^ 40 := by rw [l.z]; show c.z + 138 + (0 + i * 14) + 14 ≤ _; omega
    have ho' : c'.own = [ta] := l.o.trans ho
    refine q_setN (k := 14) (n_act rfl ho' hz') ?_
    rintro _ ⟨g, hg, hg4, rfl⟩
    have hgl := okG_len hg
    have hne : g.singles ≠ [] := fun e => by rw [e] at hgl; exact absurd hgl.1 (by simp)
    have htl := tab_le rs
    have hl' : rs.length ≤ 1000 := by omega
    have hpl := HR.parts_length g.singles
    refine q_no (et_eq (et_not (et_val (ed_call (ea_cons (ed_var rfl) (ea_cons (ed_var rfl) ea_nil)) ⟨rs, g, u, hok, by omega, hg, rfl, rfl⟩))) rfl) ?_
    refine q_par (ed_call (ea_cons (ed_var rfl) (ea_cons (ed_var rfl) ea_nil)) ⟨rs, g, u, hok, hl', hg, rfl, rfl⟩) (ed_call (ea_cons (ed_var rfl) ea_nil) ⟨false, rs, u, hok, hl', rfl, rfl⟩) ?_
    cases hb : roomB rs g.singles with
    | false =>
      have e2 : notesD rs g.singles = .none := by unfold notesD; rw [hb]; rfl
      rw [e2]
      refine s_for (ds := []) (es_enumL (ds := []) (ea_cons (ed_orTn (ed_var rfl) (ed_lst [] ea_nil)) ea_nil)) (fun _ δ M => δ = [.v (.ref ta), .d (eRecsL rs), .d (.int (i : Int)), .d (eDeed g), .d .none, .d (pl (eTab (tab (out rs)))), a5, a6] ∧ M = []) ⟨rfl, rfl⟩ ?_ ?_
      · intro c2 _ i d δ1 M1 hd _
        cases hd
      · rintro δ1 M1 ⟨q1, q2⟩
        subst q1 q2
        exact hN _ _ ⟨rs, _, _, _, _, _, _, u, hok, hl, rfl, rfl⟩
    | true =>
      have hL := roomB_le hb
      have hcl := HR.carried_len u hL
      have e2 : notesD rs g.singles = eRecsL (carried rs g.singles.length ++ parts g.singles) := by unfold notesD; rw [hb]; rfl
      rw [e2]
      have hXl : (carried rs g.singles.length ++ parts g.singles).length = (carried rs g.singles.length).length + g.singles.length := by rw [List.length_append, hpl]
      have hXo : ∀ x ∈ carried rs g.singles.length ++ parts g.singles, okR x = true := fun x hx => by
        rcases List.mem_append.mp hx with hx | hx
        · exact carried_okR hok x hx
        · exact parts_okR (okG_all hg) x hx
      have hWn := HR.windows u hne hL
      generalize hX : carried rs g.singles.length ++ parts g.singles = X at *
      have hXR : X.length ≤ rs.length := by omega
      refine s_for (ds := enumD (X.map eRec)) (es_enumL (ds := X.map eRec) (ea_cons (ed_orTl (ed_var rfl) (by rw [List.length_map]; omega)) ea_nil)) (fun j δ M => ∃ b1 b2, δ = [.v (.ref ta), .d (eRecsL (win rs X j)), .d (.int (i : Int)), .d (eDeed g), .d (eRecsL X), .d (pl (eTab (tab (out rs)))), b1, b2] ∧ M = [] ∧ j ≤ X.length) ⟨_, _, by rw [show win rs X 0 = rs by rw [HR.win_eq (by omega) (by omega)]; simp]; rfl, rfl, by omega⟩ ?_ ?_
      · rintro c2 l2 j d δ1 M1 hd ⟨b1, b2, q1, q2, hj⟩
        subst q1 q2
        have hjX : j < X.length := by have := (List.getElem?_eq_some_iff.mp hd).1; simpa [enumD] using this
        have hd' : (enumD (X.map eRec))[j]? = some (.tuple [.int (j : Int), eRec X[j]]) := by simp [enumD, hjX]
        rw [hd'] at hd
        cases hd
        have w1 := hWn j (by omega)
        have w2 := hWn (j + 1) (by omega)
        have hk1 : ∀ x ∈ win rs X (j + 1), okR x = true := win_okR hok hXo
        refine ⟨_, tg_pair, fun N2 hN2 => ?_⟩
        refine q_set (s := .d (eRecsL (win rs X (j + 1)))) (ed_eq (ed_catL (ds := (win rs X j).tail.map eRec) (es := [eRec X[j]]) (ed_eq (ed_slL (ds := (win rs X j).map eRec) (ed_var rfl) (eo_some ed_int) eo_none) (by rw [show (1 : Int) = ((1 : Nat) : Int) from rfl, cutD_from, ← List.map_drop, List.drop_one])) (ed_lst [eRec X[j]] (ea_cons (ed_var rfl) ea_nil) rfl (by simp)) (by simp; omega)) (by
          rw [win_succ (by omega) hjX, List.drop_one]
          exact congrArg Sl.d (eRecsL_append (win rs X j).tail [X[j]]))) ?_
        have hst : shp 2 (eTab (tab (out (win rs X (j + 1))))) := shp_tab hk1
        refine s_when (et_eq (b := false) (et_test (ed_neD (e := eTab (tab (out (win rs X (j + 1))))) (ed_pl (ed_call (ea_cons (ed_var rfl) ea_nil) ⟨false, win rs X (j + 1), w2.1, hk1, by rw [w2.2.1]; exact hl', rfl, rfl⟩)) (ed_if (et_test (ed_lt (ed_add (ed_var rfl) ed_int) (ed_lenL (ds := X.map eRec) (ed_var rfl)))) (fun hb => ?_) fun hb => ?_) (shp.shaped hst) (shp.shaped hst))) (by rw [eqv_self _ hst.1]; rfl)) (fun z => nomatch z) fun _ => ?_
        · rw [List.length_map, decide_eq_true_eq] at hb
          rw [w2.2.2, if_pos (by omega)]
          exact ed_pl (ed_var rfl)
        · rw [List.length_map, decide_eq_false_iff_not] at hb
          rw [w2.2.2, if_neg (by omega)]
          exact ed_call (ea_cons (ed_var rfl) (ea_cons (ed_var rfl) ea_nil)) ⟨tab (out rs), g, HR.tab_nk _, by omega, hg, rfl, rfl⟩
        · exact hN2 _ _ ⟨_, _, rfl, rfl, by omega⟩
      · rintro δ1 M1 ⟨b1, b2, q1, q2, hj⟩
        subst q1 q2
        rw [show (enumD (X.map eRec)).length = X.length by simp [enumD]]
        have w2 := hWn X.length (Nat.le_refl _)
        exact hN _ _ ⟨win rs X X.length, _, _, _, _, _, _, w2.1, win_okR hok hXo, by rw [w2.2.1]; exact hl, rfl, rfl⟩
  · rintro n δ1 M1 hn ⟨rs, a1, a2, a3, a4, a5, a6, u, hok, hl, q1, q2⟩
    subst q1 q2
    exact s_ret ed_bl ((hR _ rfl).upk (by omega))
end
end HD
end
section
namespace L2
open PySem PySem.Spec PyProof.Rows
theorem pe_nofz {X : Cx} {e : Expr} {t : TE} (h : PE X e t) : PE X e t := h
end L2
namespace HD
open PySem PySem.Spec PyProof.Rows L2
open HR (Sgl Rec dput ddrop dlook Nk parts unb fol isPart asPut Ev kept seg segR closers clo flat out val F num tab lst behind isort leKW leNK win carried carry nxt CI done doneD wordOf)
section
variable {K : PySem.W.Frag} {c : Ct} {D : Ends} {δ : List Sl} {M : Mem} {ta : TA} {tb te tx tv tj : TE} {tt : TT} {t u : TS} {s s' z : Sl} {ds es : List PyData} {d : PyData} {ss : List Sl}
theorem do_swap {a b : Addr × Mc} (h : Do c D t δ (b :: a :: M)) : Do c D t δ (a :: b :: M) := fun σ H w => h σ H (w.perm (List.Perm.swap b a M))
theorem q_newLs {i : Nat} (ds : List PyData) (h : EdA c ta δ M ss) (e : ss = ds.map .d) (hl : ds.length ≤ 100000) (k : ∀ p, Do c D u (δ.set i (.v (.ref p))) ((p, .lst ds) :: M)) : Do c D (tSeq (tAsg (tLst ta) (gName i)) u) δ M := fun σ H w => by
  subst e
  exact h σ H w _ fun vs H1 s1 hv => by
    have hd := slA_d hv
    exact ⟨by rw [hd.length]; exact Evl.sz_of hl, fun p hp => k p _ _ (((w.step s1).newC (m := .lst ds) hp ⟨vs, upd_same, DiA.mono (.new hp) _ _ hd⟩).set (s := .v (.ref p)) rfl i)⟩
theorem ed_catM {i : Nat} {p : Addr} (hi : δ[i]? = some (.v (.ref p))) (hb : Ed c tb δ ((p, .lst ds) :: M) (.d (.list es))) (hl : ds.length + es.length ≤ 100000) : Ed c (tFz (tOp rCatL (tVar i) tb)) δ ((p, .lst ds) :: M) (.d (.list (ds ++ es))) := fun σ H w Q k =>
  ⟨.ref p, w.env.getv hi, hb σ H w _ fun y H2 s2 hy => by
    obtain ⟨xs, h1, h2⟩ := (w.step s2).mem (p, .lst ds) List.mem_cons_self
    obtain ⟨b, o2, ys, rfl, h3, h4⟩ := hy
    refine ⟨p, b, xs, ys, rfl, rfl, .inl h1, .inr ⟨o2, h3⟩, by rw [h2.length, h4.length]; exact Evl.sz_of hl, fun q hq => ⟨q, _, rfl, upd_same, trivial, fun o' => ?_⟩⟩
    have sm := same_frz (o := .frz o' (.lst (xs ++ ys))) hq (Same.new (o := .lst (xs ++ ys)) hq)
    exact k _ _ (s2.trans (.same sm)) ⟨q, o', _, rfl, upd_same, DiA.mono (.same sm) _ _ (h2.append h4)⟩⟩
end
def hRow : List Rec := [.part (.put "a" "x") 0 0, .part (.put "b" "y") 0 0, .part (.put "a" "z") 0 0, .blank]
def hFull : List Rec := [.part (.put "a" "x") 0 0, .part (.put "b" "y") 0 0, .part (.put "a" "z") 0 0, .part (.put "c" "w") 0 0]
def hB : Rec := .part (.put "b" "y") 0 0
def hA : Rec := .part (.put "a" "z") 0 0
def hG : Deed := .lot [.drop "a", .put "c" "w"]
theorem h_u : unb hRow = true := by decide +kernel
theorem h_o : ∀ x ∈ hRow, okR x = true := by decide +kernel
theorem h_u2 : unb hFull = true := by decide +kernel
theorem h_o2 : ∀ x ∈ hFull, okR x = true := by decide +kernel
theorem h_t : (tab (out hRow)).length = 2 := by decide +kernel
theorem h_t2 : (tab (out hFull)).length = 3 := by decide +kernel
theorem h_c1 : carried hRow 1 = [] := by decide +kernel
theorem h_c2 : carried hRow 2 = [hB, hA] := by decide +kernel
theorem h_l2 : (lst (out hRow)).filter (fun e => decide (e.1 < 2)) = [((1 : Nat), ("b" : Str))] := by decide +kernel
theorem h_r1 : roomB hRow hG.singles = true := by decide +kernel
theorem h_p1 : parts hG.singles = [.part (.drop "a") 0 1, .part (.put "c" "w") 1 0] := by decide +kernel
theorem h_r2 : roomB hFull [.put "d" "w"] = false := by decide +kernel
theorem h_r3 : roomB hFull [.drop "q"] = true := by decide +kernel
theorem h_c3 : carried hFull 1 = [] := by decide +kernel
theorem h_p3 : parts [.drop "q"] = [.part (.drop "q") 0 0] := by decide +kernel
theorem h_g1 : okG hG = true := by decide +kernel
theorem h_g2 : okG (.one (.put "d" "w")) = true := by decide +kernel
theorem h_g3 : okG (.one (.drop "q")) = true := by decide +kernel
theorem h_f : flatD 2 (eRecs hRow) = true := flat_eRecs (by decide)
theorem h_f2 : flatD 2 (eRecs hFull) = true := flat_eRecs (by decide)
def fullD : PyData := .list [.str "full", .bool true]
def hDue : List PyData := [.tuple [], .tuple [eRec hB, eRec hA], fullD, .int 2, .tuple [.tuple [.int 1, .str "b"]]]
def hDue6 : PyData := .tuple [eRec hB, eRec hA, eRec (.part (.drop "a") 0 1), eRec (.part (.put "c" "w") 1 0)]
def hDue9 : List PyData := [fullD, .tuple [eRec (.part (.drop "q") 0 0)], .bool false]
section
variable {P : Program} {w : World} {K : PySem.W.Frag} {mg : Str → Option Value} {base : Heap}
abbrev s_law_by_hand_right : Stmt := topS 66
theorem sc_law_by_hand_right : FnScope ["_law_row_so", "_law_b_so", "_law_a_so", "_law_got", "_law_due", "_law_full_so"] [] (defScope s_law_by_hand_right) := ⟨rfl, rfl, rfl, by decide +kernel, rfl, by decide +kernel, by decide +kernel⟩
def p_law_by_hand_right (ss : List Sl) (r : Sl) : Prop := ss = [] ∧ r = .d (.bool true)
theorem ok_law_by_hand_right (B : Bl mg) (F : Def K mg "_law_by_hand_right" s_law_by_hand_right []) (C_law_heard : Cal P w K mg base 9 "_law_heard" ["_law_door", "_law_row_so", "_law_own"] p_law_heard) (C_room_of : Cal P w K mg base 8 "room_of" ["records"] p_room_of) (C_leaving : Cal P w K mg base 8 "leaving" ["records", "many"] p_leaving) (C_has_room : Cal P w K mg base 8 "has_room" ["records", "deed"] p_has_room) (C_law_same : Cal P w K mg base 4 "_law_same" ["_law_got", "_law_due"] (p_law_same 3)) : Cal P w K mg base 10 "_law_by_hand_right" [] p_law_by_hand_right := by
  refine okC F sc_law_by_hand_right (fun ss r ⟨e, _⟩ => by rw [e]; rfl) fun f cdv A outer s H E hr nd hu => ⟨_, (pss_cons (ps_set (i := 0) nd rfl (Or.inl rfl) (pe_tup (pa_cons (pe_tup (pa_cons pe_str (pa_cons pe_str (pa_cons pe_str (pa_cons pe_int (pa_cons pe_int pa_nil)))))) (pa_cons (pe_tup (pa_cons pe_str (pa_cons pe_str (pa_cons pe_str (pa_cons pe_int (pa_cons pe_int pa_nil)))))) (pa_cons (pe_tup (pa_cons pe_str (pa_cons pe_str (pa_cons pe_str (pa_cons pe_int (pa_cons pe_int pa_nil)))))) (pa_cons (pe_tup (pa_cons pe_str pa_nil)) pa_nil))))))
      (pss_cons (ps_asg (pe_tup (pa_cons (pe_tup (pa_cons pe_str (pa_cons pe_str (pa_cons pe_str (pa_cons pe_int (pa_cons pe_int pa_nil)))))) (pa_cons (pe_tup (pa_cons pe_str (pa_cons pe_str (pa_cons pe_str (pa_cons pe_int (pa_cons pe_int pa_nil)))))) pa_nil))) (pg_tupK K rfl (n := 2) rfl (pgs_cons (pg_name (i := 1) nd rfl (Or.inl rfl)) (pgs_cons (pg_name (i := 2) nd rfl (Or.inl rfl)) pgs_nil))))
      (pss_cons (ps_set (i := 3) nd rfl (Or.inl rfl) (pe_nofz (pe_lst (pa_cons (pe_cal C_law_heard hr (pa_cons pe_int (pa_cons (pv 0) (pa_cons pe_int pa_nil)))) (pa_cons (pe_cal C_law_heard hr (pa_cons pe_int (pa_cons (pv 0) (pa_cons pe_int pa_nil)))) (pa_cons (pe_cal C_law_heard hr (pa_cons pe_int (pa_cons (pv 0) (pa_cons pe_int pa_nil)))) (pa_cons (pe_cal C_room_of hr (pa_cons (pv 0) pa_nil)) (pa_cons (pe_cal C_leaving hr (pa_cons (pv 0) (pa_cons pe_int pa_nil))) pa_nil))))))))
      (pss_cons (ps_set (i := 4) nd rfl (Or.inl rfl) (pe_nofz (pe_lst (pa_cons (pe_tup pa_nil) (pa_cons (pe_tup (pa_cons (pv 1) (pa_cons (pv 2) pa_nil))) (pa_cons (pe_fz (pe_lst (pa_cons pe_str (pa_cons pe_bl pa_nil)))) (pa_cons pe_int (pa_cons (pe_tup (pa_cons (pe_tup (pa_cons pe_int (pa_cons pe_str pa_nil))) pa_nil)) pa_nil))))))))
      (pss_cons (ps_expr (pe_bm PySem.F.plainAttrs_list PySem.F.slot_list_append PySem.F.type_list_append mt_append (pv 3) (pa_cons (pe_cal C_law_heard hr (pa_cons pe_int (pa_cons (pv 0) (pa_cons (pe_tup (pa_cons pe_str (pa_cons (pe_tup (pa_cons (pe_tup (pa_cons pe_str (pa_cons pe_str pa_nil))) (pa_cons (pe_tup (pa_cons pe_str (pa_cons pe_str (pa_cons pe_str pa_nil)))) pa_nil))) pa_nil))) pa_nil)))) pa_nil)))
      (pss_cons (ps_expr (pe_bm PySem.F.plainAttrs_list PySem.F.slot_list_append PySem.F.type_list_append mt_append (pv 4) (pa_cons (pe_tup (pa_cons (pv 1) (pa_cons (pv 2) (pa_cons (pe_tup (pa_cons pe_str (pa_cons pe_str (pa_cons pe_int (pa_cons pe_int pa_nil))))) (pa_cons (pe_tup (pa_cons pe_str (pa_cons pe_str (pa_cons pe_str (pa_cons pe_int (pa_cons pe_int pa_nil)))))) pa_nil))))) pa_nil)))
      (pss_cons (ps_set (i := 5) nd rfl (Or.inl rfl) (pe_op (k_catA K rfl) (pe_slice (k_slT K rfl) (pv 0) po_none (po_some pe_int)) (pe_tup (pa_cons (pe_tup (pa_cons pe_str (pa_cons pe_str (pa_cons pe_str (pa_cons pe_int (pa_cons pe_int pa_nil)))))) pa_nil))))
      (pss_cons (ps_set (i := 3) nd rfl (Or.inl rfl) (pe_fz (pe_op op_catL (pv 3) (pe_fz (pe_lst (pa_cons (pe_cal C_law_heard hr (pa_cons pe_int (pa_cons (pv 5) (pa_cons (pe_tup (pa_cons pe_str (pa_cons pe_str (pa_cons pe_str pa_nil)))) pa_nil)))) (pa_cons (pe_cal C_law_heard hr (pa_cons pe_int (pa_cons (pv 5) (pa_cons (pe_tup (pa_cons pe_str (pa_cons pe_str pa_nil))) pa_nil)))) (pa_cons (pe_cal C_has_room hr (pa_cons (pv 5) (pa_cons (pe_tup (pa_cons pe_str (pa_cons pe_str (pa_cons pe_str pa_nil)))) pa_nil))) pa_nil))))))))
      (pss_cons (ps_set (i := 4) nd rfl (Or.inl rfl) (pe_fz (pe_op op_catL (pv 4) (pe_fz (pe_lst (pa_cons (pe_fz (pe_lst (pa_cons pe_str (pa_cons pe_bl pa_nil)))) (pa_cons (pe_tup (pa_cons (pe_tup (pa_cons pe_str (pa_cons pe_str (pa_cons pe_int (pa_cons pe_int pa_nil))))) pa_nil)) (pa_cons pe_bl pa_nil))))))))
      (pss_one (ps_ret (pe_cal C_law_same hr (pa_cons (pv 3) (pa_cons (pv 4) pa_nil)))))))))))))), fun ss r h c D hR => ?_⟩
  obtain ⟨rfl, rfl⟩ := h
  have heard1 : ∀ (m : Nat) (z : Sl), z = .d (if m + (tab (out hRow)).length ≤ hRow.length then eRecs (carried hRow m) else fullD) → p_law_heard [.d (.int 1), .d (eRecs hRow), .d (.int (m : Int))] z := fun m z hz => Or.inr ⟨eRecs hRow, hRow, m, h_u, h_o, by decide, h_f, tupD_eRecs _, rfl, hz⟩
  refine q_set (s := .d (eRecs hRow)) (ed_eq (ed_tup [.tuple [.str "put", .str "a", .str "x", .int 0, .int 0], .tuple [.str "put", .str "b", .str "y", .int 0, .int 0], .tuple [.str "put", .str "a", .str "z", .int 0, .int 0], .tuple [.str "blank"]] (ea_cons (ed_tup [.str "put", .str "a", .str "x", .int 0, .int 0] (ea_cons ed_str (ea_cons ed_str (ea_cons ed_str (ea_cons ed_int (ea_cons ed_int ea_nil)))))) (ea_cons (ed_tup [.str "put", .str "b", .str "y", .int 0, .int 0] (ea_cons ed_str (ea_cons ed_str (ea_cons ed_str (ea_cons ed_int (ea_cons ed_int ea_nil)))))) (ea_cons (ed_tup [.str "put", .str "a", .str "z", .int 0, .int 0] (ea_cons ed_str (ea_cons ed_str (ea_cons ed_str (ea_cons ed_int (ea_cons ed_int ea_nil)))))) (ea_cons (ed_tup [.str "blank"] (ea_cons ed_str ea_nil)) ea_nil))))) rfl) ?_
  refine q_unp (d := eRec hB) (d' := eRec hA) (ed_tup [eRec hB, eRec hA] (ea_cons (s := .d (eRec hB)) (ed_eq (ed_tup [.str "put", .str "b", .str "y", .int 0, .int 0] (ea_cons ed_str (ea_cons ed_str (ea_cons ed_str (ea_cons ed_int (ea_cons ed_int ea_nil)))))) rfl) (ea_cons (s := .d (eRec hA)) (ed_eq (ed_tup [.str "put", .str "a", .str "z", .int 0, .int 0] (ea_cons ed_str (ea_cons ed_str (ea_cons ed_str (ea_cons ed_int (ea_cons ed_int ea_nil)))))) rfl) ea_nil))) ?_
  refine q_newLs hDue (ss := hDue.map .d) (ea_cons (ed_call (z := .d (.tuple [])) (ea_cons ed_int (ea_cons (ed_var rfl) (ea_cons ed_int ea_nil))) (heard1 1 _ (by rw [h_t, if_pos (by decide), h_c1]; rfl)))
    (ea_cons (ed_call (z := .d (.tuple [eRec hB, eRec hA])) (ea_cons ed_int (ea_cons (ed_var rfl) (ea_cons ed_int ea_nil))) (heard1 2 _ (by rw [h_t, if_pos (by decide), h_c2]; rfl)))
    (ea_cons (ed_call (z := .d fullD) (ea_cons ed_int (ea_cons (ed_var rfl) (ea_cons ed_int ea_nil))) (heard1 3 _ (by rw [h_t, if_neg (by decide)])))
    (ea_cons (ed_call (z := .d (.int 2)) (ea_cons (ed_var rfl) ea_nil) ⟨eRecs hRow, hRow, h_u, h_o, by decide, h_f, tupD_eRecs _, rfl, by rw [h_t]; rfl⟩)
    (ea_cons (ed_call (z := .d (.tuple [.tuple [.int 1, .str "b"]])) (ea_cons (ed_var rfl) (ea_cons ed_int ea_nil)) ⟨eRecs hRow, hRow, 2, h_u, h_o, by decide, h_f, tupD_eRecs _, rfl, by rw [h_l2]; rfl⟩) ea_nil))))) rfl (by decide) fun p => ?_
  refine q_newLs hDue (ss := hDue.map .d) (ea_cons (ed_tup [] ea_nil) (ea_cons (ed_tup [eRec hB, eRec hA] (ea_cons (ed_var rfl) (ea_cons (ed_var rfl) ea_nil))) (ea_cons (ed_lst [.str "full", .bool true] (ea_cons ed_str (ea_cons ed_bl ea_nil))) (ea_cons ed_int (ea_cons (ed_tup [.tuple [.int 1, .str "b"]] (ea_cons (ed_tup [.int 1, .str "b"] (ea_cons ed_int (ea_cons ed_str ea_nil))) ea_nil)) ea_nil))))) rfl (by decide) fun q => ?_
  refine do_swap (q_app (d := hDue6) rfl (ed_call (ea_cons ed_int (ea_cons (ed_var rfl) (ea_cons (s := .d (eDeed hG)) (ed_eq (ed_tup [.str "lot", .tuple [.tuple [.str "drop", .str "a"], .tuple [.str "put", .str "c", .str "w"]]] (ea_cons ed_str (ea_cons (ed_tup [.tuple [.str "drop", .str "a"], .tuple [.str "put", .str "c", .str "w"]] (ea_cons (ed_tup [.str "drop", .str "a"] (ea_cons ed_str (ea_cons ed_str ea_nil))) (ea_cons (ed_tup [.str "put", .str "c", .str "w"] (ea_cons ed_str (ea_cons ed_str (ea_cons ed_str ea_nil)))) ea_nil))) ea_nil))) rfl) ea_nil))) (Or.inl ⟨eRecs hRow, hRow, eDeed hG, hG, h_u, h_o, by decide, h_f, tupD_eRecs _, h_g1, flat_eDeed (by decide), tupD_eDeed _, rfl, by rw [if_pos h_r1, show hG.singles.length = 2 from rfl, h_c2, h_p1]; rfl⟩)) (by decide) ?_)
  refine do_swap (q_app (d := hDue6) rfl (ed_tup [eRec hB, eRec hA, eRec (.part (.drop "a") 0 1), eRec (.part (.put "c" "w") 1 0)] (ea_cons (ed_var rfl) (ea_cons (ed_var rfl) (ea_cons (s := .d (eRec (.part (.drop "a") 0 1))) (ed_eq (ed_tup [.str "drop", .str "a", .int 0, .int 1] (ea_cons ed_str (ea_cons ed_str (ea_cons ed_int (ea_cons ed_int ea_nil))))) rfl) (ea_cons (s := .d (eRec (.part (.put "c" "w") 1 0))) (ed_eq (ed_tup [.str "put", .str "c", .str "w", .int 1, .int 0] (ea_cons ed_str (ea_cons ed_str (ea_cons ed_str (ea_cons ed_int (ea_cons ed_int ea_nil)))))) rfl) ea_nil))))) (by decide) ?_)
  refine q_set (s := .d (eRecs hFull)) (ed_eq (ed_catT (ds := (hRow.map eRec).take 3) (es := [eRec (.part (.put "c" "w") 0 0)]) (ed_eq (ed_slT (ds := hRow.map eRec) (ed_var rfl) eo_none (eo_some ed_int)) rfl) (ed_tup [eRec (.part (.put "c" "w") 0 0)] (ea_cons (ed_eq (ed_tup [.str "put", .str "c", .str "w", .int 0, .int 0] (ea_cons ed_str (ea_cons ed_str (ea_cons ed_str (ea_cons ed_int (ea_cons ed_int ea_nil)))))) rfl) ea_nil)) (by decide)) rfl) ?_
  have hd3 : ∀ (c : Ct) (δ : List Sl) (M : Mem), δ[5]? = some (.d (eRecs hFull)) → EdA c (tCons (tCall (SpD p_law_heard) [] E0 (tCons (tC (.int 0)) (tCons (tVar 5) (tCons (tTup (tCons (tC (.str "put")) (tCons (tC (.str "d")) (tCons (tC (.str "w")) tNil)))) tNil)))) (tCons (tCall (SpD p_law_heard) [] E0 (tCons (tC (.int 0)) (tCons (tVar 5) (tCons (tTup (tCons (tC (.str "drop")) (tCons (tC (.str "q")) tNil))) tNil)))) (tCons (tCall (SpD p_has_room) [] E0 (tCons (tVar 5) (tCons (tTup (tCons (tC (.str "put")) (tCons (tC (.str "d")) (tCons (tC (.str "w")) tNil)))) tNil))) tNil))) δ M (hDue9.map .d) := fun c δ M h5 =>
    ea_cons (ed_call (z := .d fullD) (ea_cons ed_int (ea_cons (ed_var h5) (ea_cons (s := .d (eDeed (.one (.put "d" "w")))) (ed_eq (ed_tup [.str "put", .str "d", .str "w"] (ea_cons ed_str (ea_cons ed_str (ea_cons ed_str ea_nil)))) rfl) ea_nil))) (Or.inl ⟨eRecs hFull, hFull, eDeed (.one (.put "d" "w")), .one (.put "d" "w"), h_u2, h_o2, by decide, h_f2, tupD_eRecs _, h_g2, flat_eDeed (by decide), tupD_eDeed _, rfl, by rw [show (Deed.one (.put "d" "w")).singles = [.put "d" "w"] from rfl, h_r2]; rfl⟩))
    (ea_cons (ed_call (z := .d (.tuple [eRec (.part (.drop "q") 0 0)])) (ea_cons ed_int (ea_cons (ed_var h5) (ea_cons (s := .d (eDeed (.one (.drop "q")))) (ed_eq (ed_tup [.str "drop", .str "q"] (ea_cons ed_str (ea_cons ed_str ea_nil))) rfl) ea_nil))) (Or.inl ⟨eRecs hFull, hFull, eDeed (.one (.drop "q")), .one (.drop "q"), h_u2, h_o2, by decide, h_f2, tupD_eRecs _, h_g3, flat_eDeed (by decide), tupD_eDeed _, rfl, by rw [show (Deed.one (.drop "q")).singles = [.drop "q"] from rfl, if_pos h_r3, show ([Sgl.drop "q"] : List Sgl).length = 1 from rfl, h_c3, h_p3]; rfl⟩))
    (ea_cons (ed_call (z := .d (.bool false)) (ea_cons (ed_var h5) (ea_cons (s := .d (eDeed (.one (.put "d" "w")))) (ed_eq (ed_tup [.str "put", .str "d", .str "w"] (ea_cons ed_str (ea_cons ed_str (ea_cons ed_str ea_nil)))) rfl) ea_nil)) ⟨eRecs hFull, hFull, eDeed (.one (.put "d" "w")), .one (.put "d" "w"), h_u2, h_o2, by decide, h_f2, tupD_eRecs _, h_g2, flat_eDeed (by decide), tupD_eDeed _, rfl, by rw [show (Deed.one (.put "d" "w")).singles = [.put "d" "w"] from rfl, h_r2]⟩) ea_nil))
  refine do_swap (q_set (s := .d (.list (hDue ++ [hDue6] ++ hDue9))) (ed_catM rfl (ed_lst hDue9 (hd3 _ _ _ rfl) rfl (by decide)) (by decide)) ?_)
  refine do_swap (q_set (s := .d (.list (hDue ++ [hDue6] ++ hDue9))) (ed_catM rfl (ed_lst hDue9 (ss := hDue9.map .d) (ea_cons (ed_lst [.str "full", .bool true] (ea_cons ed_str (ea_cons ed_bl ea_nil))) (ea_cons (ed_tup [eRec (.part (.drop "q") 0 0)] (ea_cons (ed_eq (ed_tup [.str "drop", .str "q", .int 0, .int 0] (ea_cons ed_str (ea_cons ed_str (ea_cons ed_int (ea_cons ed_int ea_nil))))) rfl) ea_nil)) (ea_cons ed_bl ea_nil))) rfl (by decide)) (by decide)) ?_)
  exact s_ret (ed_call (ea_cons (ed_var rfl) (ea_cons (ed_var rfl) ea_nil)) ⟨.list (hDue ++ [hDue6] ++ hDue9), by decide +kernel, by decide +kernel, rfl, rfl⟩) hR
end
end HD
end
section
namespace L2
open PySem PySem.Spec PyProof.Rows
theorem SqL.same {K : PySem.W.Frag} {H H' : Hp} {a : Addr} {xs : List V} (h : SqL K H a xs) (s : ∀ b o, H b = some o → H' b = some o) : SqL K H' a xs := by
  rcases h with h | h
  · rcases h with h | ⟨o, h⟩
    · exact .inl (.inl (s _ _ h))
    · exact .inl (.inr ⟨o, s _ _ h⟩)
  · exact .inr h
end L2
namespace HD
open PySem PySem.Spec PyProof.Rows L2
open HR (Sgl Rec dput ddrop dlook Nk parts unb fol isPart asPut Ev kept seg segR closers clo flat out val F num tab lst behind isort leKW leNK win carried carry nxt CI done doneD wordOf)
theorem bit01 (b : Bool) : (0 : Int) ≤ (if b = true then 1 else 0) ∧ ((if b = true then 1 else 0) : Int) ≤ 1 := by cases b <;> decide
def iD (ns : List Int) : List PyData := ns.map .int
theorem diA_ints {H : Hp} : ∀ ns : List Int, DiA H (iD ns) (ns.map V.int)
  | [] => rfl
  | n :: ns => ⟨.int n, ns.map V.int, rfl, rfl, diA_ints ns⟩
def CalS (P : Program) (w : World) (K : PySem.W.Frag) (mg : Str → Option Value) (base : Heap) (k : Nat) (x : Str) (ps : List Str) (sp : Sp) : Prop :=
  ∃ f fd, mg x = some (.ref f) ∧ PySem.W.keepIn K (.ref f) = true ∧ Binds K fd ps [] ∧ FnOk P w K mg base CX0 k f fd ps sp
theorem pe_calS {X : Cx} {k : Nat} {x : Str} {ps : List Str} {sp : Sp} {j : Nat} {p pos : Pos} {e : Expr} {es : List Expr} {t : TA} (C : CalS X.prog X.w X.K X.mg X.base k x ps sp) (hr : Room j X.A) (ha : PA X (e :: es) t) (hg : Gl X x := by rfl) (hj : k ≤ j := by decide)
    (hdb : (x == ("__debug__" : Str)) = false := by decide) (he : starEach (e :: es) X.env = (false, eval e X.env) :: starEach es X.env := by rfl) (hpl : (backTo pos (starEach es X.env)).any (·.1) = false := by rfl) :
    PE X (.Call (.Name x p) (e :: es) [] pos) (tCall sp [] E0 t) := by
  obtain ⟨f, fd, hm, hk, hb, F⟩ := C
  exact pe_call F (hr.mono hj) hg hm hk hb .nil pass0 ha hdb he hpl
section
variable {K : PySem.W.Frag} {c : Ct} {D : Ends} {δ : List Sl} {M : Mem} {ta : TA} {tb te tx tv tj : TE} {tt : TT} {t u : TS} {s s' z : Sl} {ds es : List PyData} {d : PyData} {ss : List Sl}
/-- a slice of a row of ints that stood at the entry -/
theorem ed_slS {tl th : TO} {lo hi : Option Int} {i : Nat} {a : Addr} {ns : List Int} (hq : SqL K c.H0 a (ns.map V.int)) (ho : c.own = []) (hv : δ[i]? = some (.v (.ref a))) (h1 : Eo c tl δ M lo) (h2 : Eo c th δ M hi) : Ed c (tFz (tSl (rSlL K) (tVar i) tl th)) δ M (.d (.list (cutD (iD ns) lo hi))) := fun σ H w Q k =>
  ⟨.ref a, w.env.getv hv, h1 σ H w _ fun H2 s2 => h2 σ H2 (w.step s2) _ fun H3 s3 => by
    have w3 := (w.step s2).step s3
    have hq3 : SqL K H3 a (ns.map V.int) := hq.same fun b o e => w3.ent b o (by rw [ho]; simp) e
    refine ⟨a, ns.map V.int, rfl, hq3, fun p hp => ⟨p, _, rfl, upd_same, trivial, fun o' => ?_⟩⟩
    have sm := same_frz (o := .frz o' (.lst (cutV (ns.map V.int) lo hi))) hp (Same.new (o := .lst (cutV (ns.map V.int) lo hi)) hp)
    exact k _ _ ((s2.trans s3).trans (.same sm)) ⟨p, o', _, rfl, upd_same, DiA.mono (.same sm) _ _ ((diA_ints ns).cut lo hi)⟩⟩
theorem s_retLs (ds : List PyData) (h : EdA c ta δ M ss) (e : ss = ds.map .d) (hl : ds.length ≤ 100000) (k : ∀ p σ H, Wd c δ ((p, .lst ds) :: M) σ H → D.rt (.ref p) H) : Do c D (tRet (tLst ta)) δ M := fun σ H w => by
  subst e
  exact h σ H w _ fun vs H1 s1 hv => by
    have hd := slA_d hv
    exact ⟨by rw [hd.length]; exact Evl.sz_of hl, fun p hp => k p _ _ ((w.step s1).newC (m := .lst ds) hp ⟨vs, upd_same, DiA.mono (.new hp) _ _ hd⟩)⟩
/-- list(row) or [0], for a row of one or none -/
theorem q_cells {i : Nat} {x : Int} (h : Ed c te δ M (.d (.list ds))) (hd : ds = [] ∨ ds = [.int x]) (k : ∀ p y, Do c D u (δ.set i (.v (.ref p))) ((p, .lst [.int y]) :: M)) : Do c D (tSeq (tAsg (tOrT K (tCB (rLstOf K) (tCons te tNil)) (tLst (tCons (tC (.int 0)) tNil))) (gName i)) u) δ M := fun σ H w =>
  h σ H w _ fun v H1 s1 hv => by
    obtain ⟨a, o', xs, rfl, h1, h2⟩ := hv
    have w1 := w.step s1
    refine ⟨a, xs, rfl, .inl (.inl (.inr ⟨o', h1⟩)), fun l hl => ?_⟩
    rcases hd with rfl | rfl
    · have hx : xs = [] := h2
      subst hx
      refine ⟨false, .inl ⟨[], .inl (.inl upd_same), rfl⟩, ?_⟩
      rw [if_neg Bool.false_ne_true]
      have w2 := w1.step (.same (Same.new (o := .lst []) hl))
      refine ⟨by show 1 ≤ sizeLine; decide, fun p hp => ?_⟩
      exact k p 0 _ _ ((w2.newC (m := .lst [.int 0]) hp ⟨[.int 0], upd_same, DiA.one rfl⟩).set (s := .v (.ref p)) rfl i)
    · obtain ⟨y, r, rfl, hy, hr⟩ := h2
      have hr : r = [] := hr
      subst hr
      refine ⟨true, .inl ⟨[y], .inl (.inl upd_same), rfl⟩, ?_⟩
      rw [if_pos rfl]
      exact k l x _ _ ((w1.newC (m := .lst [.int x]) hl ⟨[y], upd_same, DiA.one hy⟩).set (s := .v (.ref l)) rfl i)
end
section
variable {P : Program} {w : World} {K : PySem.W.Frag} {mg : Str → Option Value} {base : Heap}
abbrev s_law_cells : Stmt := topS 49
theorem sc_law_cells : FnScope ["_law_script", "_law_most_so", "_law_cells_so", "_law_k", "_law_bit_so", "_law_at_so"] ["_law_script", "_law_most_so"] (defScope s_law_cells) := ⟨rfl, rfl, rfl, by decide +kernel, rfl, by decide +kernel, by decide +kernel⟩
def SpCells (K : PySem.W.Frag) : Sp := fun vs H Q _ => ∃ (a : Addr) (ns : List Int), vs = [.ref a, .int 1] ∧ SqL K H a (ns.map V.int) ∧ ns.length ≤ 63 ∧ ∀ x v H2, Same H H2 → Di H2 (.list [.int x]) v → Q v H2
theorem ok_law_cells (B : Bl mg) (F : Def K mg "_law_cells" s_law_cells ["_law_script", "_law_most_so"]) : CalS P w K mg base 1 "_law_cells" ["_law_script", "_law_most_so"] (SpCells K) := by
  obtain ⟨f, fd, F, hm, hb⟩ := F
  refine ⟨f, fd, hm, F.kp, hb, ?_⟩
  refine F.ok sc_law_cells (fun vs H Q E h => ?_) (fun cdv A outer s H vs Q E hr h => ?_)
  · obtain ⟨a, ns, rfl, _⟩ := h
    rfl
  · have hu := hu_of hr
    have nd := sc_law_cells.nd
    obtain ⟨a, ns, rfl, hq, hl, q⟩ := h
    have wd : Wd ⟨H, [], H, 0⟩ [.v (.ref a), .d (.int 1), .no, .no, .no, .no] [] [some (.ref a), some (.int 1), none, none, none, none] H := by
      refine ⟨⟨_, _, rfl, ⟨_, rfl, rfl⟩, _, _, rfl, ⟨_, rfl, rfl⟩, _, _, rfl, trivial, _, _, rfl, trivial, _, _, rfl, trivial, _, _, rfl, trivial, rfl⟩, (fun p hp => nomatch hp), fun a o _ e => e, (fun t ht => nomatch ht), .refl H, (fun p hp => nomatch hp), by simp⟩
    refine ⟨_, (pss_cons (ps_set (i := 2) nd rfl (Or.inl rfl) (k_orT K rfl (pe_nofz (pe_callTy (k_lstOf K rfl) (by rfl) B.list (by decide +kernel) (pa_cons (pe_fz (pe_slice (k_slL K rfl) (pv 0) po_none (po_some (pv 1)))) pa_nil))) (pe_one (pe_nofz (pe_lst (pa_cons pe_int pa_nil))))))
      (pss_cons (ps_for PassesOwn.never rfl (pi_enum (by rfl) B.enumerate (pa_cons (pe_fz (pe_slice (k_slL K rfl) (pv 0) (po_some (pv 1)) (po_some pe_int))) pa_nil)) (pg_tupK K rfl (n := 2) rfl (pgs_cons (pg_name (i := 3) nd rfl (Or.inl rfl)) (pgs_cons (pg_name (i := 4) nd rfl (Or.inl rfl)) pgs_nil)))
      (pss_cons (ps_set (i := 5) nd rfl (Or.inl rfl) (pe_op op_mod (pe_callTy call_int1 (by rfl) B.int (by decide +kernel) (pa_cons (pv 3) pa_nil)) (pv 1)))
        (pss_one (ps_asg (pe_op op_add (pe_ix (k_ixL K rfl) (pv 2) (pv 5) (fun _ _ => rfl)) (pe_op op_mul (pv 4) (pe_op op_add (pv 3) pe_int))) (pg_sub (pv 2) (pv 5) set_list)))))
      (pss_fz (pss_one (ps_ret (pv 2)))))), ?_⟩
    refine (?_ : Do ⟨H, [], H, 0⟩ { nx := fun _ H' => Q .non H', rt := Q } _ [.v (.ref a), .d (.int 1), .no, .no, .no, .no] []) _ _ wd
    have hfin : ∀ c' : Ct, c'.H0 = H → c'.own = [] → ∀ x, Rt c' Q (.d (.list [.int x])) := fun c' e1 e2 x δ M σ H2 v w2 hv => q x v H2 (fun b o e => w2.ent b o (by rw [e2]; simp) (by rw [e1]; exact e)) hv
    refine q_cells (x := ns.headD 0) (ed_slS hq rfl rfl eo_none (eo_some (ed_var rfl))) ?_ fun p y => ?_
    · cases ns with
      | nil => exact .inl rfl
      | cons n r => exact .inr (by rw [show (1 : Int) = ((1 : Nat) : Int) from rfl, cutD_to]; rfl)
    refine q_for (es_enumL (ea_cons (ed_slS (ns := ns) hq rfl rfl (eo_some (ed_var rfl)) (eo_some ed_int)) ea_nil)) (fun i δ M => ∃ x a1 a2 a3, δ = [.v (.ref a), .d (.int 1), .v (.ref p), a1, a2, a3] ∧ M = [(p, .lst [.int x])]) ⟨y, _, _, _, rfl, rfl⟩ ?_ ?_
    · rintro c' l i d δ1 M1 hd ⟨x, a1, a2, a3, q1, q2⟩
      subst q1 q2
      have hil : i < (cutD (iD ns) (some 1) (some 63)).length := by have := (List.getElem?_eq_some_iff.mp hd).1; simpa [enumD] using this
      have hcl : (cutD (iD ns) (some 1) (some 63)).length ≤ 63 := by
        unfold cutD
        rw [List.length_take, List.length_drop]
        have : (iD ns).length = ns.length := List.length_map _
        omega
      obtain ⟨b, hb⟩ : ∃ b, (cutD (iD ns) (some 1) (some 63))[i]? = some (.int b) := by
        rw [show cutD (iD ns) (some 1) (some 63) = (cutD ns (some 1) (some 63)).map .int from cutD_map _ _ _ _] at hil ⊢
        rw [List.length_map] at hil
        exact ⟨_, by rw [List.getElem?_map, List.getElem?_eq_getElem hil]; rfl⟩
      have hd' : (enumD (cutD (iD ns) (some 1) (some 63)))[i]? = some (.tuple [.int (i : Int), .int b]) := by simp [enumD, hb]
      rw [hd'] at hd
      cases hd
      refine ⟨_, tg_pair, fun N hN => ?_⟩
      refine q_set (s := .d (.int 0)) (ed_eq (ed_mod (ed_int1i (ed_var rfl)) (ed_var rfl) (by decide)) (by rw [Int.emod_one])) ?_
      exact s_lset (n := 0) rfl (ed_add (ed_ixM rfl (ed_var rfl) rfl) (ed_mul (ed_var rfl) (ed_add (ed_var rfl) ed_int) (cmulR (by omega) (by omega)))) (ed_var rfl) rfl (hN _ _ ⟨_, _, _, _, rfl, rfl⟩)
    · rintro δ1 M1 ⟨x, a1, a2, a3, q1, q2⟩
      subst q1 q2
      exact q_fzL (i := 2) rfl (s_ret (ed_var rfl) (hfin _ rfl rfl x))
abbrev s_law_box : Stmt := topS 47
theorem sc_law_box : FnScope ["_law_script", "_law_k", "_law_bit_so"] ["_law_script", "_law_k"] (defScope s_law_box) := ⟨rfl, rfl, rfl, by decide +kernel, rfl, by decide +kernel, by decide +kernel⟩
def SpBox : Sp := fun vs H Q _ => ∃ x, SlA H [.d (.list [.int x]), .d (.int 0)] vs ∧ ∀ t H2, Same H H2 → Tin 0 H2 t → Q (.ref t) H2
theorem ok_law_box (B : Bl mg) (F : Def K mg "_law_box" s_law_box ["_law_script", "_law_k"]) : CalS P w K mg base 1 "_law_box" ["_law_script", "_law_k"] SpBox := by
  obtain ⟨f, fd, F, hm, hb⟩ := F
  refine ⟨f, fd, hm, F.kp, hb, ?_⟩
  refine F.ok sc_law_box (fun vs H Q E h => ?_) (fun cdv A outer s H vs Q E hr h => ?_)
  · obtain ⟨x, hv, _⟩ := h
    rw [hv.length]; rfl
  · have hu := hu_of hr
    have nd := sc_law_box.nd
    obtain ⟨x, hv, q⟩ := h
    obtain ⟨v1, v2, rfl, hv1, hv2⟩ := sl2 hv
    have wd : Wd ⟨H, [], H, 0⟩ [.d (.list [.int x]), .d (.int 0), .no] [] [some v1, some v2, none] H := by
      refine ⟨⟨_, _, rfl, ⟨_, rfl, hv1⟩, _, _, rfl, ⟨_, rfl, hv2⟩, _, _, rfl, trivial, rfl⟩, (fun p hp => nomatch hp), fun a o _ e => e, (fun t ht => nomatch ht), .refl H, (fun p hp => nomatch hp), by simp⟩
    refine ⟨_, (pss_cons (ps_set (i := 2) nd rfl (Or.inl rfl) (pe_ifExp (pt_cmpR op_lt (pv 1) (pe_callB (k_len K rfl) (by rfl) B.len boot_len (pa_cons (pv 0) pa_nil)) (nomark _)) (pe_ix (k_ixL K rfl) (pv 0) (pv 1) (fun _ _ => rfl)) pe_int))
      (pss_one (ps_ret (pe_nofz (pe_lst (pa_cons (pe_op op_mul (pe_callB call_abs (by rfl) B.abs (by decide +kernel) (pa_cons (pv 2) pa_nil)) (pe_callTy call_int1 (by rfl) B.int (by decide +kernel) (pa_cons (pe_cmpR op_ge (pe_callB call_abs (by rfl) B.abs (by decide +kernel) (pa_cons (pv 2) pa_nil)) (pe_op op_pow pe_int pe_int) (nomark _)) pa_nil))) (pa_cons (pe_op op_add (pe_op op_add (pe_op op_mod (pe_callTy call_int1 (by rfl) B.int (by decide +kernel) (pa_cons (pv 2) pa_nil)) pe_int) (pe_op op_mul pe_int (pv 1))) pe_int) (pa_cons pe_int pa_nil)))))))), ?_⟩
    refine (?_ : Do ⟨H, [], H, 0⟩ { nx := fun _ H' => Q .non H', rt := Q } _ [.d (.list [.int x]), .d (.int 0), .no] []) _ _ wd
    refine q_set (s := .d (.int x)) (ed_if (b := true) (et_eq (et_test (ed_lt (ed_var rfl) (ed_lenL (ds := [.int x]) (ed_var rfl)))) rfl) (fun _ => ed_ixL (ds := [.int x]) (ed_var rfl) (ed_var rfl) rfl) fun z => nomatch z) ?_
    refine s_retLs [.int ((if x < 0 then -x else x) * (if decide ((10 : Int) ^ 18 ≤ (if x < 0 then -x else x)) then 1 else 0)), .int (x % 2305843009213693951 + 39373 * 0 + 3182036), .int 0]
      (ea_cons (ed_mul (ed_abs (ed_var rfl)) (ed_int1b (ed_ge (ed_abs (ed_var rfl)) (ed_pow (i := 10) (j := 18) ed_int ed_int ?_))) ?_) (ea_cons (ed_add (ed_add (ed_mod (ed_int1i (ed_var rfl)) ed_int (by decide)) (ed_mul ed_int (ed_var rfl) (cmulL (by decide) (by decide)))) ed_int) (ea_cons ed_int ea_nil))) rfl (by simp) fun p σ2 H2 w2 => ?_
    · exact ⟨by decide, by decide, by decide⟩
    · exact cmulR (bit01 _).1 (Int.le_trans (bit01 _).2 (by decide))
    · obtain ⟨xs, hx, hd⟩ := w2.mem (p, .lst _) List.mem_cons_self
      obtain ⟨y1, r1, rfl, e1, y2, r2, rfl, e2, y3, r3, rfl, e3, e4⟩ := hd
      have e1 : y1 = .int _ := e1
      have e2 : y2 = .int _ := e2
      have e3 : y3 = .int _ := e3
      have e4 : r3 = [] := e4
      subst e1 e2 e3 e4
      have hm := mod_le (i := x) (j := 2305843009213693951) (by decide)
      have e62 : (2 : Int) ^ 62 = 4611686018427387904 := by decide
      refine q p H2 (fun b o e => w2.ent b o (by simp) e) ⟨_, _, _, hx, ?_, by omega, by omega, by omega, by omega⟩
      refine Int.mul_nonneg ?_ ?_
      · split <;> omega
      · exact (bit01 _).1
abbrev s_law : Stmt := topS 69
theorem sc_law : FnScope ["_law_script"] ["_law_script"] (defScope s_law) := ⟨rfl, rfl, rfl, by decide +kernel, rfl, by decide +kernel, by decide +kernel⟩
def SpLaw (K : PySem.W.Frag) : Sp := fun vs H Q _ => ∃ (a : Addr) (ns : List Int), vs = [.ref a] ∧ SqL K H a (ns.map V.int) ∧ ns.length ≤ 63 ∧ ∀ H', Q (.bl true) H'
theorem ok_law_fn {f : Addr} {fd : FuncData} (B : Bl mg) (F : Fun K "law" "law" s_law f fd) (C_law_by_hand_right : Cal P w K mg base 10 "_law_by_hand_right" [] p_law_by_hand_right) (C_law_cells : CalS P w K mg base 1 "_law_cells" ["_law_script", "_law_most_so"] (SpCells K)) (C_law_box : CalS P w K mg base 1 "_law_box" ["_law_script", "_law_k"] SpBox)
    (C_law_right : CalT P w K mg base 11 "_law_right" ["_law_tin"] 208 p_law_right) : FnOk P w K mg base CX0 12 f fd ["_law_script"] (SpLaw K) := by
  refine F.ok sc_law (fun vs H Q E h => ?_) (fun cdv A outer s H vs Q E hr h => ?_)
  · obtain ⟨a, ns, rfl, _⟩ := h
    rfl
  · have hu := hu_of hr
    have nd := sc_law.nd
    obtain ⟨a, ns, rfl, hq, hl, q⟩ := h
    have wd : Wd ⟨H, [], H, 0⟩ [.v (.ref a)] [] [some (.ref a)] H := by
      refine ⟨⟨_, _, rfl, ⟨_, rfl, rfl⟩, rfl⟩, (fun p hp => nomatch hp), fun a o _ e => e, (fun t ht => nomatch ht), .refl H, (fun p hp => nomatch hp), by simp⟩
    refine ⟨_, (pss_cons (ps_if (pt_not (pt_val (pe_cal0 C_law_by_hand_right hr))) (pss_one (ps_ret pe_bl)) pss_nil)
      (pss_one (ps_ret (pe_calT C_law_right hr (pa_cons (pe_calS C_law_box hr (pa_cons (pe_calS C_law_cells hr (pa_cons (pv 0) (pa_cons pe_int pa_nil))) (pa_cons pe_int pa_nil))) pa_nil))))), ?_⟩
    refine (?_ : Do ⟨H, [], H, 0⟩ { nx := fun _ H' => Q .non H', rt := Q } _ [.v (.ref a)] []) _ _ wd
    refine q_no (et_eq (et_not (et_val (ed_call (pre := p_law_by_hand_right) ea_nil ⟨rfl, rfl⟩))) rfl) ?_
    intro σ1 H1 w1
    refine ⟨.ref a, w1.env.getv rfl, ⟨a, ns, rfl, hq.same fun b o e => w1.ent b o (by simp) e, hl, fun x v H2 s2 hv => ?_⟩⟩
    refine ⟨x, ⟨_, _, rfl, hv, _, _, rfl, rfl, rfl⟩, fun t H3 s3 ht => ?_⟩
    refine ⟨t, [], [], _, 0, rfl, rfl, ⟨rfl, rfl⟩, ht, by decide, fun r v H4 hr _ _ hv => ?_⟩
    subst hr
    have hv : v = .bl true := hv
    subst hv
    exact q H4
end
end HD
end
section
namespace HD
open PySem PySem.Spec PyProof.Rows L2
/-! ### what the top has written -/
theorem exm_self {K : PySem.W.Frag} {S : Addr} (h1 : PySem.W.subIn K (.ref S) (.type "BaseException") = some true) (h2 : PySem.W.isClsIn K S = true) (h3 : PySem.W.typeIn K (.ref S) = some (.type "type")) (h4 : PySem.W.subIn K (.ref S) (.ref S) = some true) :
    PySem.W.exmOne K (.ref S) (.ref S) = some true := by
  have e1 : (PySem.W.subIn K (.ref S) (.type "BaseException") == some true) = true := by rw [h1] <;> rfl
  have e2 : ((PySem.W.clsIn K S).isSome && PySem.W.typeIn K (.ref S) == some (.type "type")) = true := by
    have h2' : (PySem.W.clsIn K S).isSome = true := h2
    rw [h2', h3] <;> rfl
  show (if (PySem.W.subIn K (.ref S) (.type "BaseException") == some true) = true then (if ((PySem.W.clsIn K S).isSome && PySem.W.typeIn K (.ref S) == some (.type "type")) = true then PySem.W.subIn K (.ref S) (.ref S) else none) else none) = some true
  rw [if_pos e1, if_pos e2]
  exact h4
theorem kit_meta : PySem.W.kitMeta "ValueError" = true := by decide +kernel
theorem kit_own {K : PySem.W.Frag} {C : Addr} (h : PySem.W.subIn K (.ref C) (.type "ValueError") = some true) : PySem.W.kitOne K (.ref C) (.type "ValueError") = some true := by
  show (if (Value.ref C == Value.type "ValueError") = true then some true else if PySem.W.kitMeta "ValueError" = true then PySem.W.subIn K (.ref C) (.type "ValueError") else none) = some true
  rw [if_pos kit_meta, h]
  cases (Value.ref C == Value.type "ValueError") <;> rfl
theorem def_mk {K : PySem.W.Frag} {h : Heap} {mg : Str → Option Value} {x : Str} {st : Stmt} {ps : List Str} {f : Addr} {oc : Value} {od an : Option Addr} {osl : Array (Option Value)} {kV doc pm cdv ct : Value} (X : K.In h) (G : h.Ns mainGlobals mg)
    (hb : ∀ (kV doc pm : Value) (an : Option Addr) (cdv ct : Value) (us : List Value), us.length = ps.length → bindArgs (PySem.W.fnOf x x (defArgs st) (defBody st) (defScope st) .none kV doc pm an cdv ct) ⟨us, []⟩ = pure (ps.zip us))
    (a : PySem.W.nsIn K mainGlobals x = some (some (.ref f))) (l : K.lookup f = some ⟨oc, od, .func (PySem.W.fnOf x x (defArgs st) (defBody st) (defScope st) .none kV doc pm an cdv ct), osl⟩) (c : PySem.W.codeIn K cdv x = true) (k : PySem.W.keepIn K (.ref f) = true) : Def K mg x st ps :=
  ⟨f, _, fun_mk l c k, PySem.W.mg_of X G a, (fun_mk l c k).binds hb⟩
/-- all that the law reaches -/
structure Top (K : PySem.W.Frag) (mg : Str → Option Value) : Prop where
  is_number : Def K mg "is_number" s_is_number ["thing"]
  is_from : Def K mg "is_from" s_is_from ["thing", "least"]
  is_long : Def K mg "is_long" s_is_long ["thing", "length"]
  tupled : Def K mg "tupled" s_tupled ["value"]
  is_word : Def K mg "is_word" s_is_word ["thing"]
  is_key : Def K mg "is_key" s_is_key ["thing"]
  is_single : Def K mg "is_single" s_is_single ["thing"]
  is_deed : Def K mg "is_deed" s_is_deed ["thing"]
  is_record : Def K mg "is_record" s_is_record ["thing"]
  sure_deed : Def K mg "sure_deed" s_sure_deed ["deed"]
  sure_rows : Def K mg "sure_rows" s_sure_rows ["things", "look"]
  sure_records : Def K mg "sure_records" s_sure_records ["records"]
  singles_of : Def K mg "singles_of" s_singles_of ["deed"]
  parts_in : Def K mg "parts_in" s_parts_in ["deed"]
  is_part : Def K mg "is_part" s_is_part ["record", "place", "left"]
  follows : Def K mg "follows" s_follows ["one", "other"]
  unbroken_in : Def K mg "unbroken_in" s_unbroken_in ["records"]
  as_put : Def K mg "as_put" s_as_put ["record"]
  sure_many : Def K mg "sure_many" s_sure_many ["many"]
  parts_closed : Def K mg "parts_closed" s_parts_closed ["records", "number"]
  closed_rows : Def K mg "closed_rows" s_closed_rows ["records"]
  numbers_last : Def K mg "numbers_last" s_numbers_last ["records"]
  lasts_in : Def K mg "lasts_in" s_lasts_in ["records"]
  table_in : Def K mg "table_in" s_table_in ["records"]
  windows_in : Def K mg "windows_in" s_windows_in ["records", "writes"]
  behind_singles : Def K mg "behind_singles" s_behind_singles ["table", "singles"]
  sure_window : Def K mg "sure_window" s_sure_window ["records"]
  leaving : Def K mg "leaving" s_leaving ["records", "many"]
  room_in : Def K mg "room_in" s_room_in ["records", "deed"]
  carried_in : Def K mg "carried_in" s_carried_in ["records", "many"]
  room_of : Def K mg "room_of" s_room_of ["records"]
  has_room : Def K mg "has_room" s_has_room ["records", "deed"]
  writes_in : Def K mg "writes_in" s_writes_in ["records", "deed"]
  window_behind : Def K mg "window_behind" s_window_behind ["records", "writes"]
  keeps : Def K mg "keeps" s_keeps ["records", "deed", "writes"]
  carried : Def K mg "carried" s_carried ["records", "many"]
  writes_for : Def K mg "writes_for" s_writes_for ["records", "deed"]
  law_take : Def K mg "_law_take" s_law_take ["_law_tin", "_law_below_so"]
  law_of : Def K mg "_law_of" s_law_of ["_law_tin", "_law_goods_so"]
  law_lists : Def K mg "_law_lists" s_law_lists ["_law_matter"]
  law_same : Def K mg "_law_same" s_law_same ["_law_got", "_law_due"]
  law_blank : Def K mg "_law_blank" s_law_blank []
  law_keys : Def K mg "_law_keys" s_law_keys []
  law_single : Def K mg "_law_single" s_law_single ["_law_tin"]
  law_act : Def K mg "_law_act" s_law_act ["_law_tin", "_law_most_so"]
  law_parts : Def K mg "_law_parts" s_law_parts ["_law_act_here"]
  law_fresh : Def K mg "_law_fresh" s_law_fresh ["_law_tin", "_law_most_so"]
  law_held : Def K mg "_law_held" s_law_held ["_law_tin", "_law_wide_so"]
  law_closed : Def K mg "_law_closed" s_law_closed ["_law_notes_so"]
  law_lore : Def K mg "_law_lore" s_law_lore ["_law_notes_so"]
  law_lasts : Def K mg "_law_lasts" s_law_lasts ["_law_notes_so"]
  law_done : Def K mg "_law_done" s_law_done ["_law_lore_here", "_law_act_here"]
  law_notes_for : Def K mg "_law_notes_for" s_law_notes_for ["_law_window_so", "_law_act_here"]
  law_heard : Def K mg "_law_heard" s_law_heard ["_law_door", "_law_row_so", "_law_own"]
  law_told_so : Def K mg "_law_told_so" s_law_told_so ["_law_row_so", "_law_act_here"]
  law_right : Def K mg "_law_right" s_law_right ["_law_tin"]
  law_by_hand_right : Def K mg "_law_by_hand_right" s_law_by_hand_right []
  law_cells : Def K mg "_law_cells" s_law_cells ["_law_script", "_law_most_so"]
  law_box : Def K mg "_law_box" s_law_box ["_law_script", "_law_k"]
theorem law_fn {P : Program} {w : World} {K : PySem.W.Frag} {mg : Str → Option Value} {C : Addr} (B : Bl mg) (T : Gb mg) (FC : FullC K mg C) (D : Top K mg) (base : Heap) {f : Addr} {fd : FuncData} (F : Fun K "law" "law" s_law f fd) (hm : mg "law" = some (.ref f)) (hb : Binds K fd ["_law_script"] []) :
    FnOk P w K mg base CX0 12 f fd ["_law_script"] (SpLaw K) := by
  have C_is_number := ok_is_number (P := P) (w := w) (base := base) B D.is_number
  have C_is_from := ok_is_from (P := P) (w := w) (base := base) B D.is_from C_is_number
  have C_is_long := ok_is_long (P := P) (w := w) (base := base) B D.is_long
  have C_tupled := ok_tupled (P := P) (w := w) (base := base) B D.tupled
  have C_is_word := ok_is_word (P := P) (w := w) (base := base) B T D.is_word
  have C_is_key := ok_is_key (P := P) (w := w) (base := base) B D.is_key C_is_word
  have C_is_single := ok_is_single (P := P) (w := w) (base := base) B D.is_single C_is_key C_is_word
  have C_is_deed := ok_is_deed (P := P) (w := w) (base := base) B D.is_deed C_is_long C_is_single
  have C_is_record := ok_is_record (P := P) (w := w) (base := base) B D.is_record C_is_single C_is_from
  have C_sure_deed := ok_sure_deed (P := P) (w := w) (base := base) D.sure_deed (C_tupled 3) C_is_deed
  have C_sure_rows := ok_sure_rows (P := P) (w := w) (base := base) B D.sure_rows (C_tupled 2) C_is_record
  have C_sure_records := ok_sure_records (P := P) (w := w) (base := base) D.sure_records C_sure_rows C_is_record
  have C_singles_of := ok_singles_of (P := P) (w := w) (base := base) D.singles_of
  have C_parts_in := ok_parts_in (P := P) (w := w) (base := base) B D.parts_in C_singles_of
  have C_is_part := ok_is_part (P := P) (w := w) (base := base) D.is_part
  have C_follows := ok_follows (P := P) (w := w) (base := base) D.follows C_is_part
  have C_unbroken_in := ok_unbroken_in (P := P) (w := w) (base := base) B D.unbroken_in C_follows
  have C_as_put := ok_as_put (P := P) (w := w) (base := base) D.as_put
  have C_sure_many := ok_sure_many (P := P) (w := w) (base := base) D.sure_many C_is_from
  have C_parts_closed := ok_parts_closed (P := P) (w := w) (base := base) B D.parts_closed C_is_part
  have C_closed_rows := ok_closed_rows (P := P) (w := w) (base := base) B D.closed_rows C_parts_closed
  have C_numbers_last := ok_numbers_last (P := P) (w := w) (base := base) B D.numbers_last C_closed_rows
  have C_lasts_in := ok_lasts_in (P := P) (w := w) (base := base) B D.lasts_in C_numbers_last
  have C_table_in := ok_table_in (P := P) (w := w) (base := base) B D.table_in C_numbers_last
  have C_windows_in := ok_windows_in (P := P) (w := w) (base := base) B D.windows_in
  have C_behind_singles := ok_behind_singles (P := P) (w := w) (base := base) B D.behind_singles
  have C_sure_window := ok_sure_window (P := P) (w := w) (base := base) D.sure_window C_sure_records C_unbroken_in
  have C_leaving := ok_leaving (P := P) (w := w) (base := base) B D.leaving C_sure_window C_sure_many C_lasts_in
  have C_room_in := ok_room_in (P := P) (w := w) (base := base) B D.room_in C_singles_of C_table_in C_behind_singles
  have C_carried_in := ok_carried_in (P := P) (w := w) (base := base) B D.carried_in C_lasts_in C_as_put
  have C_room_of := ok_room_of (P := P) (w := w) (base := base) D.room_of B C_sure_window C_table_in
  have C_has_room := ok_has_room (P := P) (w := w) (base := base) D.has_room C_sure_window C_sure_deed C_room_in
  have C_writes_in := ok_writes_in (P := P) (w := w) (base := base) B D.writes_in C_parts_in C_carried_in
  have C_window_behind := ok_window_behind (P := P) (w := w) (base := base) D.window_behind C_sure_window C_sure_records C_windows_in
  have C_keeps := ok_keeps (P := P) (w := w) (base := base) B D.keeps C_sure_window C_sure_deed C_sure_records C_windows_in C_table_in C_singles_of C_behind_singles
  have C_carried := ok_carried (P := P) (w := w) (base := base) FC B D.carried C_sure_window C_sure_many C_table_in C_carried_in
  have C_writes_for := ok_writes_for (P := P) (w := w) (base := base) FC D.writes_for C_sure_window C_sure_deed C_room_in C_writes_in
  have C_law_take := ok_law_take (P := P) (w := w) (base := base) B D.law_take
  have C_law_of := ok_law_of (P := P) (w := w) (base := base) B D.law_of C_law_take
  have C_law_lists := ok_law_lists (P := P) (w := w) (base := base) B D.law_lists
  have C_law_same := ok_law_same (P := P) (w := w) (base := base) B D.law_same
  have C_law_blank := ok_law_blank (P := P) (w := w) (base := base) D.law_blank
  have C_law_keys := ok_law_keys (P := P) (w := w) (base := base) D.law_keys
  have C_law_single := ok_law_single (P := P) (w := w) (base := base) B D.law_single C_law_take C_law_of C_law_keys
  have C_law_act := ok_law_act (P := P) (w := w) (base := base) B D.law_act C_law_take C_law_single
  have C_law_parts := ok_law_parts (P := P) (w := w) (base := base) B D.law_parts
  have C_law_fresh := ok_law_fresh (P := P) (w := w) (base := base) B D.law_fresh C_law_take C_law_act C_law_parts C_law_blank
  have C_law_held := ok_law_held (P := P) (w := w) (base := base) B D.law_held C_law_fresh C_law_blank
  have C_law_closed := ok_law_closed (P := P) (w := w) (base := base) B D.law_closed C_law_blank
  have C_law_lore := ok_law_lore (P := P) (w := w) (base := base) B D.law_lore C_law_closed
  have C_law_lasts := ok_law_lasts (P := P) (w := w) (base := base) B D.law_lasts C_law_closed
  have C_law_done := ok_law_done (P := P) (w := w) (base := base) B D.law_done
  have C_law_notes_for := ok_law_notes_for (P := P) (w := w) (base := base) B D.law_notes_for C_law_parts C_law_lore C_law_done C_law_lasts
  have C_law_heard := ok_law_heard (P := P) (w := w) (base := base) FC B D.law_heard C_writes_for C_carried
  have C_law_told_so := ok_law_told_so (P := P) (w := w) (base := base) B D.law_told_so C_law_notes_for C_law_parts C_law_lore C_law_heard (C_law_lists 3) (C_law_same 3) C_has_room C_room_of C_leaving C_law_lasts C_window_behind C_keeps
  have C_law_right := ok_law_right (P := P) (w := w) (base := base) B D.law_right C_law_take C_law_held C_law_act C_law_told_so C_law_notes_for C_law_lore C_law_done
  have C_law_by_hand_right := ok_law_by_hand_right (P := P) (w := w) (base := base) B D.law_by_hand_right C_law_heard C_room_of.cal C_leaving.cal C_has_room.cal (C_law_same 3)
  have C_law_cells := ok_law_cells (P := P) (w := w) (base := base) B D.law_cells
  have C_law_box := ok_law_box (P := P) (w := w) (base := base) B D.law_box
  exact ok_law_fn B F C_law_by_hand_right C_law_cells C_law_box C_law_right
theorem end_mk {l : PySem.W.OpenLaw} {w : World} {K : PySem.W.Frag} {h : Heap} {mg : Str → Option Value} {fa f C : Addr} {od an : Option Addr} {sl : Array (Option Value)} {oc kV dc pm cd ct : Value} (X : K.In h) (G : h.Ns mainGlobals mg) (hfa : mg "law" = some (.ref fa))
    (B : Bl mg) (T : Gb mg) (FC : FullC K mg C) (D : Top K mg)
    (a2 : PySem.W.nsIn K mainGlobals "law" = some (some (.ref f))) (l2 : K.lookup f = some ⟨oc, od, .func (PySem.W.fnOf "law" "law" (defArgs s_law) (defBody s_law) (defScope s_law) .none kV dc pm an cd ct), sl⟩) (c2 : PySem.W.codeIn K cd "law" = true) (k2 : PySem.W.keepIn K (.ref f) = true) :
    ∃ fd : FuncData, (∀ (s : Shared) (u : Value), BindsTo s fd ⟨[u], []⟩ [("_law_script", u)]) ∧ ∀ base : Heap, K.In base → base.Ns mainGlobals mg → FnOk l.prog w K mg base CX0 12 fa fd ["_law_script"] (SpLaw K) := by
  have e := hfa.symm.trans (PySem.W.mg_of X G a2)
  cases e
  exact ⟨PySem.W.fnOf "law" "law" (defArgs s_law) (defBody s_law) (defScope s_law) .none kV dc pm an cd ct, fun s u => .of_eq rfl, fun base _ _ => law_fn B T FC D base (fun_mk l2 c2 k2) hfa ((fun_mk l2 c2 k2).binds fun _ _ _ _ _ _ us hl => match us, hl with | [_], _ => rfl)⟩
/-- the law row's walk (63 items, 12 rooms) -/
theorem walk_law {l : PySem.W.OpenLaw} {q : Program} {loose : List Str} {XP : (Str → Option Value) → Heap → Prop} {YP : World → Heap → Prop} {d : DefRec} {K : Params → PySem.W.Frag} (hn : l.most = some 63) (hdf : d.params.defaults = [])
    (hY : ∀ (w : World) (h : Heap), YP w h → (K w.params).In h)
    (F : ∀ (w : World) (mg : Str → Option Value) (fa : Addr) (h : Heap), (K w.params).In h → h.Ns mainGlobals mg → mg d.name = some (.ref fa) →
      ∃ fd : FuncData, (∀ (s : Shared) (u : Value), BindsTo s fd ⟨[u], []⟩ [("_law_script", u)]) ∧ ∀ base : Heap, (K w.params).In base → base.Ns mainGlobals mg → FnOk l.prog w (K w.params) mg base CX0 12 fa fd ["_law_script"] (SpLaw (K w.params))) :
    PySem.W.WalkO q loose XP YP l.row.toRowW d [] (fun f vs => PySem.call f vs) :=
  L2.walk_of (n := 63) (k := 12) (x := "_law_script") (CX := fun _ => CX0) (sp := fun w => SpLaw (K w.params)) hn (by decide) hdf ⟨rfl, by decide, by decide⟩ hY F (fun _ _ a ns hl _ hS => ⟨a, ns, rfl, hS, hl, fun _ => rfl⟩) fun _ _ _ _ _ z => z
end HD
end
section
open PySem PySem.W PyProof.Rows
set_option maxRecDepth 100000 in
set_option maxHeartbeats 0 in
theorem PySem.Challenge.cw_halfring_k36_whole_last_words_stay_at_ea_holds : PySem.Challenge.rw_halfring_k36_whole_last_words_stay_at_ea.Holds := by
  w_on; o_law; k_head
  (case hw => w_witness2)
  k_fill
  refine HD.walk_law (l := PySem.Challenge.rw_halfring_k36_whole_last_words_stay_at_ea) rfl rfl (fun w h Y => PySem.W.kIn_of Y) ?F
  case F =>
    intro w mg fa h KX G hmg
    have B_abs : mg "abs" = none := PySem.W.mg_none_of KX G (by k_is)
    have B_all : mg "all" = none := PySem.W.mg_none_of KX G (by k_is)
    have B_any : mg "any" = none := PySem.W.mg_none_of KX G (by k_is)
    have B_bool : mg "bool" = none := PySem.W.mg_none_of KX G (by k_is)
    have B_dict : mg "dict" = none := PySem.W.mg_none_of KX G (by k_is)
    have B_enumerate : mg "enumerate" = none := PySem.W.mg_none_of KX G (by k_is)
    have B_int : mg "int" = none := PySem.W.mg_none_of KX G (by k_is)
    have B_isinstance : mg "isinstance" = none := PySem.W.mg_none_of KX G (by k_is)
    have B_len : mg "len" = none := PySem.W.mg_none_of KX G (by k_is)
    have B_list : mg "list" = none := PySem.W.mg_none_of KX G (by k_is)
    have B_min : mg "min" = none := PySem.W.mg_none_of KX G (by k_is)
    have B_range : mg "range" = none := PySem.W.mg_none_of KX G (by k_is)
    have B_set : mg "set" = none := PySem.W.mg_none_of KX G (by k_is)
    have B_sorted : mg "sorted" = none := PySem.W.mg_none_of KX G (by k_is)
    have B_str : mg "str" = none := PySem.W.mg_none_of KX G (by k_is)
    have B_tuple : mg "tuple" = none := PySem.W.mg_none_of KX G (by k_is)
    have B_zip : mg "zip" = none := PySem.W.mg_none_of KX G (by k_is)
    have B_valueError : mg "ValueError" = none := PySem.W.mg_none_of KX G (by k_is)
    have T : HD.Gb mg := ⟨⟨_, PySem.W.mg_of KX G (by k_is)⟩, ⟨_, PySem.W.mg_of KX G (by k_is)⟩⟩
    refine' HD.end_mk KX G hmg ⟨B_abs, B_all, B_any, B_bool, B_dict, B_enumerate, B_int, B_isinstance, B_len, B_list, B_min, B_range, B_set, B_sorted, B_str, B_tuple, B_zip, B_valueError⟩ T ⟨PySem.W.mg_of KX G ?gC, ?kC, ?xC, ?bC, ?tC, HD.exm_self ?b1 ?i1 ?t1 ?s1, ⟨?e1, ?e2, ?e3, ?e4, ?e5, ?e6, ?e7, ?e8⟩, HD.kit_own ?vC⟩ ⟨HD.def_mk KX G (fun _ _ _ _ _ _ us hl => match us, hl with | [_], _ => rfl) ?a_is_number ?l_is_number ?c_is_number ?k_is_number, HD.def_mk KX G (fun _ _ _ _ _ _ us hl => match us, hl with | [_, _], _ => rfl) ?a_is_from ?l_is_from ?c_is_from ?k_is_from, HD.def_mk KX G (fun _ _ _ _ _ _ us hl => match us, hl with | [_, _], _ => rfl) ?a_is_long ?l_is_long ?c_is_long ?k_is_long, HD.def_mk KX G (fun _ _ _ _ _ _ us hl => match us, hl with | [_], _ => rfl) ?a_tupled ?l_tupled ?c_tupled ?k_tupled, HD.def_mk KX G (fun _ _ _ _ _ _ us hl => match us, hl with | [_], _ => rfl) ?a_is_word ?l_is_word ?c_is_word ?k_is_word, HD.def_mk KX G (fun _ _ _ _ _ _ us hl => match us, hl with | [_], _ => rfl) ?a_is_key ?l_is_key ?c_is_key ?k_is_key, HD.def_mk KX G (fun _ _ _ _ _ _ us hl => match us, hl with | [_], _ => rfl) ?a_is_single ?l_is_single ?c_is_single ?k_is_single, HD.def_mk KX G (fun _ _ _ _ _ _ us hl => match us, hl with | [_], _ => rfl) ?a_is_deed ?l_is_deed ?c_is_deed ?k_is_deed, HD.def_mk KX G (fun _ _ _ _ _ _ us hl => match us, hl with | [_], _ => rfl) ?a_is_record ?l_is_record ?c_is_record ?k_is_record, HD.def_mk KX G (fun _ _ _ _ _ _ us hl => match us, hl with | [_], _ => rfl) ?a_sure_deed ?l_sure_deed ?c_sure_deed ?k_sure_deed, HD.def_mk KX G (fun _ _ _ _ _ _ us hl => match us, hl with | [_, _], _ => rfl) ?a_sure_rows ?l_sure_rows ?c_sure_rows ?k_sure_rows, HD.def_mk KX G (fun _ _ _ _ _ _ us hl => match us, hl with | [_], _ => rfl) ?a_sure_records ?l_sure_records ?c_sure_records ?k_sure_records, HD.def_mk KX G (fun _ _ _ _ _ _ us hl => match us, hl with | [_], _ => rfl) ?a_singles_of ?l_singles_of ?c_singles_of ?k_singles_of, HD.def_mk KX G (fun _ _ _ _ _ _ us hl => match us, hl with | [_], _ => rfl) ?a_parts_in ?l_parts_in ?c_parts_in ?k_parts_in, HD.def_mk KX G (fun _ _ _ _ _ _ us hl => match us, hl with | [_, _, _], _ => rfl) ?a_is_part ?l_is_part ?c_is_part ?k_is_part, HD.def_mk KX G (fun _ _ _ _ _ _ us hl => match us, hl with | [_, _], _ => rfl) ?a_follows ?l_follows ?c_follows ?k_follows, HD.def_mk KX G (fun _ _ _ _ _ _ us hl => match us, hl with | [_], _ => rfl) ?a_unbroken_in ?l_unbroken_in ?c_unbroken_in ?k_unbroken_in, HD.def_mk KX G (fun _ _ _ _ _ _ us hl => match us, hl with | [_], _ => rfl) ?a_as_put ?l_as_put ?c_as_put ?k_as_put, HD.def_mk KX G (fun _ _ _ _ _ _ us hl => match us, hl with | [_], _ => rfl) ?a_sure_many ?l_sure_many ?c_sure_many ?k_sure_many, HD.def_mk KX G (fun _ _ _ _ _ _ us hl => match us, hl with | [_, _], _ => rfl) ?a_parts_closed ?l_parts_closed ?c_parts_closed ?k_parts_closed, HD.def_mk KX G (fun _ _ _ _ _ _ us hl => match us, hl with | [_], _ => rfl) ?a_closed_rows ?l_closed_rows ?c_closed_rows ?k_closed_rows, HD.def_mk KX G (fun _ _ _ _ _ _ us hl => match us, hl with | [_], _ => rfl) ?a_numbers_last ?l_numbers_last ?c_numbers_last ?k_numbers_last, HD.def_mk KX G (fun _ _ _ _ _ _ us hl => match us, hl with | [_], _ => rfl) ?a_lasts_in ?l_lasts_in ?c_lasts_in ?k_lasts_in, HD.def_mk KX G (fun _ _ _ _ _ _ us hl => match us, hl with | [_], _ => rfl) ?a_table_in ?l_table_in ?c_table_in ?k_table_in, HD.def_mk KX G (fun _ _ _ _ _ _ us hl => match us, hl with | [_, _], _ => rfl) ?a_windows_in ?l_windows_in ?c_windows_in ?k_windows_in, HD.def_mk KX G (fun _ _ _ _ _ _ us hl => match us, hl with | [_, _], _ => rfl) ?a_behind_singles ?l_behind_singles ?c_behind_singles ?k_behind_singles, HD.def_mk KX G (fun _ _ _ _ _ _ us hl => match us, hl with | [_], _ => rfl) ?a_sure_window ?l_sure_window ?c_sure_window ?k_sure_window, HD.def_mk KX G (fun _ _ _ _ _ _ us hl => match us, hl with | [_, _], _ => rfl) ?a_leaving ?l_leaving ?c_leaving ?k_leaving, HD.def_mk KX G (fun _ _ _ _ _ _ us hl => match us, hl with | [_, _], _ => rfl) ?a_room_in ?l_room_in ?c_room_in ?k_room_in, HD.def_mk KX G (fun _ _ _ _ _ _ us hl => match us, hl with | [_, _], _ => rfl) ?a_carried_in ?l_carried_in ?c_carried_in ?k_carried_in, HD.def_mk KX G (fun _ _ _ _ _ _ us hl => match us, hl with | [_], _ => rfl) ?a_room_of ?l_room_of ?c_room_of ?k_room_of, HD.def_mk KX G (fun _ _ _ _ _ _ us hl => match us, hl with | [_, _], _ => rfl) ?a_has_room ?l_has_room ?c_has_room ?k_has_room, HD.def_mk KX G (fun _ _ _ _ _ _ us hl => match us, hl with | [_, _], _ => rfl) ?a_writes_in ?l_writes_in ?c_writes_in ?k_writes_in, HD.def_mk KX G (fun _ _ _ _ _ _ us hl => match us, hl with | [_, _], _ => rfl) ?a_window_behind ?l_window_behind ?c_window_behind ?k_window_behind, HD.def_mk KX G (fun _ _ _ _ _ _ us hl => match us, hl with | [_, _, _], _ => rfl) ?a_keeps ?l_keeps ?c_keeps ?k_keeps, HD.def_mk KX G (fun _ _ _ _ _ _ us hl => match us, hl with | [_, _], _ => rfl) ?a_carried ?l_carried ?c_carried ?k_carried, HD.def_mk KX G (fun _ _ _ _ _ _ us hl => match us, hl with | [_, _], _ => rfl) ?a_writes_for ?l_writes_for ?c_writes_for ?k_writes_for, HD.def_mk KX G (fun _ _ _ _ _ _ us hl => match us, hl with | [_, _], _ => rfl) ?a_law_take ?l_law_take ?c_law_take ?k_law_take, HD.def_mk KX G (fun _ _ _ _ _ _ us hl => match us, hl with | [_, _], _ => rfl) ?a_law_of ?l_law_of ?c_law_of ?k_law_of, HD.def_mk KX G (fun _ _ _ _ _ _ us hl => match us, hl with | [_], _ => rfl) ?a_law_lists ?l_law_lists ?c_law_lists ?k_law_lists, HD.def_mk KX G (fun _ _ _ _ _ _ us hl => match us, hl with | [_, _], _ => rfl) ?a_law_same ?l_law_same ?c_law_same ?k_law_same, HD.def_mk KX G (fun _ _ _ _ _ _ us hl => match us, hl with | [], _ => rfl) ?a_law_blank ?l_law_blank ?c_law_blank ?k_law_blank, HD.def_mk KX G (fun _ _ _ _ _ _ us hl => match us, hl with | [], _ => rfl) ?a_law_keys ?l_law_keys ?c_law_keys ?k_law_keys, HD.def_mk KX G (fun _ _ _ _ _ _ us hl => match us, hl with | [_], _ => rfl) ?a_law_single ?l_law_single ?c_law_single ?k_law_single, HD.def_mk KX G (fun _ _ _ _ _ _ us hl => match us, hl with | [_, _], _ => rfl) ?a_law_act ?l_law_act ?c_law_act ?k_law_act, HD.def_mk KX G (fun _ _ _ _ _ _ us hl => match us, hl with | [_], _ => rfl) ?a_law_parts ?l_law_parts ?c_law_parts ?k_law_parts, HD.def_mk KX G (fun _ _ _ _ _ _ us hl => match us, hl with | [_, _], _ => rfl) ?a_law_fresh ?l_law_fresh ?c_law_fresh ?k_law_fresh, HD.def_mk KX G (fun _ _ _ _ _ _ us hl => match us, hl with | [_, _], _ => rfl) ?a_law_held ?l_law_held ?c_law_held ?k_law_held, HD.def_mk KX G (fun _ _ _ _ _ _ us hl => match us, hl with | [_], _ => rfl) ?a_law_closed ?l_law_closed ?c_law_closed ?k_law_closed, HD.def_mk KX G (fun _ _ _ _ _ _ us hl => match us, hl with | [_], _ => rfl) ?a_law_lore ?l_law_lore ?c_law_lore ?k_law_lore, HD.def_mk KX G (fun _ _ _ _ _ _ us hl => match us, hl with | [_], _ => rfl) ?a_law_lasts ?l_law_lasts ?c_law_lasts ?k_law_lasts, HD.def_mk KX G (fun _ _ _ _ _ _ us hl => match us, hl with | [_, _], _ => rfl) ?a_law_done ?l_law_done ?c_law_done ?k_law_done, HD.def_mk KX G (fun _ _ _ _ _ _ us hl => match us, hl with | [_, _], _ => rfl) ?a_law_notes_for ?l_law_notes_for ?c_law_notes_for ?k_law_notes_for, HD.def_mk KX G (fun _ _ _ _ _ _ us hl => match us, hl with | [_, _, _], _ => rfl) ?a_law_heard ?l_law_heard ?c_law_heard ?k_law_heard, HD.def_mk KX G (fun _ _ _ _ _ _ us hl => match us, hl with | [_, _], _ => rfl) ?a_law_told_so ?l_law_told_so ?c_law_told_so ?k_law_told_so, HD.def_mk KX G (fun _ _ _ _ _ _ us hl => match us, hl with | [_], _ => rfl) ?a_law_right ?l_law_right ?c_law_right ?k_law_right, HD.def_mk KX G (fun _ _ _ _ _ _ us hl => match us, hl with | [], _ => rfl) ?a_law_by_hand_right ?l_law_by_hand_right ?c_law_by_hand_right ?k_law_by_hand_right, HD.def_mk KX G (fun _ _ _ _ _ _ us hl => match us, hl with | [_, _], _ => rfl) ?a_law_cells ?l_law_cells ?c_law_cells ?k_law_cells, HD.def_mk KX G (fun _ _ _ _ _ _ us hl => match us, hl with | [_, _], _ => rfl) ?a_law_box ?l_law_box ?c_law_box ?k_law_box⟩ ?a2 ?l2 ?c2 ?k2
    (case gC => k_is); (case kC => k_is); (case xC => k_exc); (case bC => k_is); (case tC => k_is); (case b1 => k_is); (case i1 => k_is); (case t1 => k_is); (case s1 => first | rfl | k_is)
    (case e1 => k_is); (case e2 => k_is); (case e3 => k_is); (case e4 => k_is); (case e5 => k_is); (case e6 => k_is); (case e7 => k_is); (case e8 => k_is); (case vC => k_is)
    (case a2 => k_is); (case l2 => k_is); (case c2 => k_is); (case k2 => k_is)
    (case a_is_number => k_is); (case l_is_number => k_is); (case c_is_number => k_is); (case k_is_number => k_is)
    (case a_is_from => k_is); (case l_is_from => k_is); (case c_is_from => k_is); (case k_is_from => k_is)
    (case a_is_long => k_is); (case l_is_long => k_is); (case c_is_long => k_is); (case k_is_long => k_is)
    (case a_tupled => k_is); (case l_tupled => k_is); (case c_tupled => k_is); (case k_tupled => k_is)
    (case a_is_word => k_is); (case l_is_word => k_is); (case c_is_word => k_is); (case k_is_word => k_is)
    (case a_is_key => k_is); (case l_is_key => k_is); (case c_is_key => k_is); (case k_is_key => k_is)
    (case a_is_single => k_is); (case l_is_single => k_is); (case c_is_single => k_is); (case k_is_single => k_is)
    (case a_is_deed => k_is); (case l_is_deed => k_is); (case c_is_deed => k_is); (case k_is_deed => k_is)
    (case a_is_record => k_is); (case l_is_record => k_is); (case c_is_record => k_is); (case k_is_record => k_is)
    (case a_sure_deed => k_is); (case l_sure_deed => k_is); (case c_sure_deed => k_is); (case k_sure_deed => k_is)
    (case a_sure_rows => k_is); (case l_sure_rows => k_is); (case c_sure_rows => k_is); (case k_sure_rows => k_is)
    (case a_sure_records => k_is); (case l_sure_records => k_is); (case c_sure_records => k_is); (case k_sure_records => k_is)
    (case a_singles_of => k_is); (case l_singles_of => k_is); (case c_singles_of => k_is); (case k_singles_of => k_is)
    (case a_parts_in => k_is); (case l_parts_in => k_is); (case c_parts_in => k_is); (case k_parts_in => k_is)
    (case a_is_part => k_is); (case l_is_part => k_is); (case c_is_part => k_is); (case k_is_part => k_is)
    (case a_follows => k_is); (case l_follows => k_is); (case c_follows => k_is); (case k_follows => k_is)
    (case a_unbroken_in => k_is); (case l_unbroken_in => k_is); (case c_unbroken_in => k_is); (case k_unbroken_in => k_is)
    (case a_as_put => k_is); (case l_as_put => k_is); (case c_as_put => k_is); (case k_as_put => k_is)
    (case a_sure_many => k_is); (case l_sure_many => k_is); (case c_sure_many => k_is); (case k_sure_many => k_is)
    (case a_parts_closed => k_is); (case l_parts_closed => k_is); (case c_parts_closed => k_is); (case k_parts_closed => k_is)
    (case a_closed_rows => k_is); (case l_closed_rows => k_is); (case c_closed_rows => k_is); (case k_closed_rows => k_is)
    (case a_numbers_last => k_is); (case l_numbers_last => k_is); (case c_numbers_last => k_is); (case k_numbers_last => k_is)
    (case a_lasts_in => k_is); (case l_lasts_in => k_is); (case c_lasts_in => k_is); (case k_lasts_in => k_is)
    (case a_table_in => k_is); (case l_table_in => k_is); (case c_table_in => k_is); (case k_table_in => k_is)
    (case a_windows_in => k_is); (case l_windows_in => k_is); (case c_windows_in => k_is); (case k_windows_in => k_is)
    (case a_behind_singles => k_is); (case l_behind_singles => k_is); (case c_behind_singles => k_is); (case k_behind_singles => k_is)
    (case a_sure_window => k_is); (case l_sure_window => k_is); (case c_sure_window => k_is); (case k_sure_window => k_is)
    (case a_leaving => k_is); (case l_leaving => k_is); (case c_leaving => k_is); (case k_leaving => k_is)
    (case a_room_in => k_is); (case l_room_in => k_is); (case c_room_in => k_is); (case k_room_in => k_is)
    (case a_carried_in => k_is); (case l_carried_in => k_is); (case c_carried_in => k_is); (case k_carried_in => k_is)
    (case a_room_of => k_is); (case l_room_of => k_is); (case c_room_of => k_is); (case k_room_of => k_is)
    (case a_has_room => k_is); (case l_has_room => k_is); (case c_has_room => k_is); (case k_has_room => k_is)
    (case a_writes_in => k_is); (case l_writes_in => k_is); (case c_writes_in => k_is); (case k_writes_in => k_is)
    (case a_window_behind => k_is); (case l_window_behind => k_is); (case c_window_behind => k_is); (case k_window_behind => k_is)
    (case a_keeps => k_is); (case l_keeps => k_is); (case c_keeps => k_is); (case k_keeps => k_is)
    (case a_carried => k_is); (case l_carried => k_is); (case c_carried => k_is); (case k_carried => k_is)
    (case a_writes_for => k_is); (case l_writes_for => k_is); (case c_writes_for => k_is); (case k_writes_for => k_is)
    (case a_law_take => k_is); (case l_law_take => k_is); (case c_law_take => k_is); (case k_law_take => k_is)
    (case a_law_of => k_is); (case l_law_of => k_is); (case c_law_of => k_is); (case k_law_of => k_is)
    (case a_law_lists => k_is); (case l_law_lists => k_is); (case c_law_lists => k_is); (case k_law_lists => k_is)
    (case a_law_same => k_is); (case l_law_same => k_is); (case c_law_same => k_is); (case k_law_same => k_is)
    (case a_law_blank => k_is); (case l_law_blank => k_is); (case c_law_blank => k_is); (case k_law_blank => k_is)
    (case a_law_keys => k_is); (case l_law_keys => k_is); (case c_law_keys => k_is); (case k_law_keys => k_is)
    (case a_law_single => k_is); (case l_law_single => k_is); (case c_law_single => k_is); (case k_law_single => k_is)
    (case a_law_act => k_is); (case l_law_act => k_is); (case c_law_act => k_is); (case k_law_act => k_is)
    (case a_law_parts => k_is); (case l_law_parts => k_is); (case c_law_parts => k_is); (case k_law_parts => k_is)
    (case a_law_fresh => k_is); (case l_law_fresh => k_is); (case c_law_fresh => k_is); (case k_law_fresh => k_is)
    (case a_law_held => k_is); (case l_law_held => k_is); (case c_law_held => k_is); (case k_law_held => k_is)
    (case a_law_closed => k_is); (case l_law_closed => k_is); (case c_law_closed => k_is); (case k_law_closed => k_is)
    (case a_law_lore => k_is); (case l_law_lore => k_is); (case c_law_lore => k_is); (case k_law_lore => k_is)
    (case a_law_lasts => k_is); (case l_law_lasts => k_is); (case c_law_lasts => k_is); (case k_law_lasts => k_is)
    (case a_law_done => k_is); (case l_law_done => k_is); (case c_law_done => k_is); (case k_law_done => k_is)
    (case a_law_notes_for => k_is); (case l_law_notes_for => k_is); (case c_law_notes_for => k_is); (case k_law_notes_for => k_is)
    (case a_law_heard => k_is); (case l_law_heard => k_is); (case c_law_heard => k_is); (case k_law_heard => k_is)
    (case a_law_told_so => k_is); (case l_law_told_so => k_is); (case c_law_told_so => k_is); (case k_law_told_so => k_is)
    (case a_law_right => k_is); (case l_law_right => k_is); (case c_law_right => k_is); (case k_law_right => k_is)
    (case a_law_by_hand_right => k_is); (case l_law_by_hand_right => k_is); (case c_law_by_hand_right => k_is); (case k_law_by_hand_right => k_is)
    (case a_law_cells => k_is); (case l_law_cells => k_is); (case c_law_cells => k_is); (case k_law_cells => k_is)
    (case a_law_box => k_is); (case l_law_box => k_is); (case c_law_box => k_is); (case k_law_box => k_is)
end
