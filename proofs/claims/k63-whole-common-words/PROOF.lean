import PyProof.Rows.All
import Wide.All
import OpenK.AllK
import Wide.FinOn
import HandS.ForMost
import HandS.ForExc
import HandS.IsInst
import HandS.Deep
import HandS.TupAny
import HandS.Small
import HandS.Style
import HandS.Zip
import HandS.Walk
import PySem.Challenge.RW_flyovers_k63_whole_common_words
import KE.KeyNested
import PyProof.DictRoadsH
import KE.KExcSuper
import HandS.ExcInit
import KE.DataMinMax
import KE.DataEq
import KE.KDictDisplayH
import HandS.ExcIs
import HandS.ExcField
import HandS.ExcOwn
import HandS.SetFor
import HandS.Strs
import HandS.TupMul
import KE.KRevSl
import HandS.Ends
section
set_option autoImplicit false
set_option linter.all false
/-! Plain laws, part 1: words, thinnings, the rows that two rows have in common. No program in sight. -/
namespace Fl

/-! ### words -/
def wd : List Int → List Int
  | [] => []
  | [x] => [x]
  | x :: y :: r => if x = y then wd (y :: r) else x :: wd (y :: r)

def isW : List Int → Prop
  | [] => True
  | [_] => True
  | x :: y :: r => x ≠ y ∧ isW (y :: r)

theorem wd_cons (x : Int) : ∀ r : List Int, ∃ w, wd (x :: r) = x :: w
  | [] => ⟨[], rfl⟩
  | y :: r => by
    by_cases h : x = y
    · subst h
      obtain ⟨w, e⟩ := wd_cons x r
      exact ⟨w, by rw [wd, if_pos rfl, e]⟩
    · exact ⟨wd (y :: r), by rw [wd, if_neg h]⟩

theorem wd_ne {l : List Int} (h : l ≠ []) : wd l ≠ [] := by
  cases l with
  | nil => exact absurd rfl h
  | cons x r =>
    obtain ⟨w, e⟩ := wd_cons x r
    rw [e]
    intro q
    cases q

theorem isW_tail {x : Int} {r : List Int} (h : isW (x :: r)) : isW r := by
  cases r with
  | nil => trivial
  | cons y r => exact h.2

theorem isW_cons {x : Int} {r : List Int} (h : isW r) (hx : ∀ y t, r = y :: t → x ≠ y) : isW (x :: r) := by
  cases r with
  | nil => trivial
  | cons y r => exact ⟨hx y r rfl, h⟩

theorem isW_wd : ∀ l : List Int, isW (wd l)
  | [] => trivial
  | [_] => trivial
  | x :: y :: r => by
    have ih := isW_wd (y :: r)
    by_cases h : x = y
    · rw [wd, if_pos h]
      exact ih
    · rw [wd, if_neg h]
      obtain ⟨w, e⟩ := wd_cons y r
      exact isW_cons ih fun z t q => by
        rw [e] at q
        injection q with q1 q2
        rw [← q1]
        exact h

theorem wd_of_isW : ∀ {l : List Int}, isW l → wd l = l
  | [], _ => rfl
  | [_], _ => rfl
  | x :: y :: r, h => by
    rw [wd, if_neg h.1, wd_of_isW h.2]

theorem wd_sub : ∀ l : List Int, (wd l).Sublist l
  | [] => List.Sublist.refl _
  | [_] => List.Sublist.refl _
  | x :: y :: r => by
    have ih := wd_sub (y :: r)
    by_cases h : x = y
    · rw [wd, if_pos h]
      exact ih.cons x
    · rw [wd, if_neg h]
      exact ih.cons_cons x

theorem sub_wd : ∀ {l u : List Int}, isW u → u.Sublist l → u.Sublist (wd l)
  | [], u, _, h => by
    cases h
    exact List.Sublist.refl _
  | [x], u, _, h => h
  | x :: y :: r, u, hu, h => by
    by_cases e : x = y
    · subst e
      rw [wd, if_pos rfl]
      refine sub_wd (l := x :: r) hu ?_
      cases h with
      | cons _ h1 => exact h1
      | cons_cons _ h1 =>
        rename_i u'
        cases u' with
        | nil => exact (List.nil_sublist r).cons_cons x
        | cons z u'' =>
          refine List.Sublist.cons_cons x ?_
          cases h1 with
          | cons _ h2 => exact h2
          | cons_cons _ h2 => exact absurd rfl hu.1
    · rw [wd, if_neg e]
      cases h with
      | cons _ h1 => exact (sub_wd (l := y :: r) hu h1).cons x
      | cons_cons _ h1 => exact (sub_wd (l := y :: r) (isW_tail hu) h1).cons_cons x

theorem sub_wd_iff {l u : List Int} (hu : isW u) : u.Sublist (wd l) ↔ u.Sublist l :=
  ⟨fun h => h.trans (wd_sub l), sub_wd hu⟩

theorem wd_snoc : ∀ (l : List Int) (x : Int), wd (l ++ [x]) = if l.getLast? = some x then wd l else wd l ++ [x]
  | [], x => rfl
  | [a], x => by
    show (if a = x then [x] else [a, x]) = _
    by_cases h : a = x
    · subst h
      rw [if_pos rfl]
      exact (if_pos rfl).symm
    · rw [if_neg h]
      exact (if_neg (fun q => h (Option.some.inj q))).symm
  | a :: b :: t, x => by
    have ih := wd_snoc (b :: t) x
    have el : (a :: b :: t).getLast? = (b :: t).getLast? := by
      rw [List.getLast?_cons_cons]
    show (if a = b then wd (b :: (t ++ [x])) else a :: wd (b :: (t ++ [x]))) = _
    have e2 : wd (b :: (t ++ [x])) = wd ((b :: t) ++ [x]) := rfl
    rw [e2, ih, el]
    by_cases h1 : (b :: t).getLast? = some x
    · rw [if_pos h1, if_pos h1]
      rfl
    · rw [if_neg h1, if_neg h1]
      by_cases h2 : a = b
      · rw [if_pos h2, wd, if_pos h2]
      · rw [if_neg h2, wd, if_neg h2]
        rfl

theorem getLast_take {l : List Int} {i : Nat} (h0 : 0 < i) (h : i ≤ l.length) : (l.take i).getLast? = l[i - 1]? := by
  rw [List.getLast?_eq_getElem?, List.length_take, Nat.min_eq_left h, List.getElem?_take_of_lt (by omega)]

theorem wd_getLast : ∀ l : List Int, (wd l).getLast? = l.getLast?
  | [] => rfl
  | [_] => rfl
  | x :: y :: r => by
    have ih := wd_getLast (y :: r)
    rw [List.getLast?_cons_cons]
    by_cases h : x = y
    · rw [wd, if_pos h, ih]
    · rw [wd, if_neg h]
      obtain ⟨w, e⟩ := wd_cons y r
      rw [e, List.getLast?_cons_cons, ← e, ih]

theorem wd_mem {l : List Int} {c : Int} : c ∈ wd l ↔ c ∈ l := by
  constructor
  · exact fun h => (wd_sub l).subset h
  · intro h
    have q : ([c] : List Int).Sublist l := List.singleton_sublist.mpr h
    exact List.singleton_sublist.mp (sub_wd (u := [c]) trivial q)

theorem wd_length (l : List Int) : (wd l).length ≤ l.length := (wd_sub l).length_le

/-! ### the first place of a letter -/
def nxtF (c : Int) : List Int → Nat → Option Nat
  | [], _ => none
  | x :: r, k => if x = c then some k else nxtF c r (k + 1)
def nxt (xs : List Int) (f : Nat) (c : Int) : Option Nat := nxtF c (xs.drop f) f
def dropTo (c : Int) : List Int → Option (List Int)
  | [] => none
  | x :: r => if x = c then some (x :: r) else dropTo c r

theorem nxt_here {xs : List Int} {f : Nat} {c : Int} (h : xs[f]? = some c) : nxt xs f c = some f := by
  obtain ⟨h1, h2⟩ := List.getElem?_eq_some_iff.mp h
  unfold nxt
  rw [List.drop_eq_getElem_cons h1, nxtF, if_pos h2]

theorem nxt_on {xs : List Int} {f : Nat} {c : Int} (hf : f < xs.length) (h : xs[f]? ≠ some c) : nxt xs f c = nxt xs (f + 1) c := by
  unfold nxt
  rw [List.drop_eq_getElem_cons hf, nxtF, if_neg]
  intro q
  exact h (List.getElem?_eq_some_iff.mpr ⟨hf, q⟩)

theorem nxt_end {xs : List Int} {f : Nat} {c : Int} (hf : xs.length ≤ f) : nxt xs f c = none := by
  unfold nxt
  rw [List.drop_eq_nil_of_le hf, nxtF]

theorem nxtF_spec (c : Int) : ∀ (r : List Int) (k p : Nat), nxtF c r k = some p → k ≤ p ∧ p < k + r.length ∧ r[p - k]? = some c ∧ dropTo c r = some (r.drop (p - k))
  | [], k, p, h => by cases h
  | x :: r, k, p, h => by
    rw [nxtF] at h
    by_cases e : x = c
    · rw [if_pos e] at h
      have q := Option.some.inj h
      subst q
      refine ⟨Nat.le_refl _, by simp, by simp [e], ?_⟩
      rw [dropTo, if_pos e]
      simp
    · rw [if_neg e] at h
      obtain ⟨h1, h2, h3, h4⟩ := nxtF_spec c r (k + 1) p h
      have ek : p - k = (p - (k + 1)) + 1 := by omega
      refine ⟨by omega, by simp only [List.length_cons]; omega, ?_, ?_⟩
      · rw [ek, List.getElem?_cons_succ]
        exact h3
      · rw [dropTo, if_neg e, h4, ek, List.drop_succ_cons]

theorem nxtF_none (c : Int) : ∀ (r : List Int) (k : Nat), nxtF c r k = none → c ∉ r ∧ dropTo c r = none
  | [], k, _ => ⟨by simp, rfl⟩
  | x :: r, k, h => by
    rw [nxtF] at h
    by_cases e : x = c
    · rw [if_pos e] at h
      cases h
    · rw [if_neg e] at h
      obtain ⟨h1, h2⟩ := nxtF_none c r (k + 1) h
      refine ⟨?_, by rw [dropTo, if_neg e]; exact h2⟩
      intro q
      cases q with
      | head => exact e rfl
      | tail _ q => exact h1 q

theorem nxt_some {xs : List Int} {f p : Nat} {c : Int} (h : nxt xs f c = some p) : f ≤ p ∧ p < xs.length ∧ xs[p]? = some c ∧ dropTo c (xs.drop f) = some (xs.drop p) := by
  obtain ⟨h1, h2, h3, h4⟩ := nxtF_spec c _ _ _ h
  rw [List.length_drop] at h2
  rw [List.getElem?_drop] at h3
  rw [List.drop_drop] at h4
  have e : f + (p - f) = p := by omega
  rw [e] at h3 h4
  exact ⟨h1, by omega, h3, h4⟩

theorem nxt_none {xs : List Int} {f : Nat} {c : Int} (h : nxt xs f c = none) : c ∉ xs.drop f ∧ dropTo c (xs.drop f) = none := nxtF_none c _ _ h

theorem dropTo_some {c : Int} : ∀ {s s' : List Int}, dropTo c s = some s' → ∃ r, s' = c :: r ∧ s'.Sublist s ∧ ∀ w, (c :: w).Sublist s ↔ w.Sublist r
  | [], s', h => by cases h
  | x :: t, s', h => by
    rw [dropTo] at h
    by_cases e : x = c
    · rw [if_pos e] at h
      have q := Option.some.inj h
      subst q
      subst e
      exact ⟨t, rfl, List.Sublist.refl _, fun w => List.cons_sublist_cons⟩
    · rw [if_neg e] at h
      obtain ⟨r, h1, h2, h3⟩ := dropTo_some h
      refine ⟨r, h1, h2.cons x, fun w => ?_⟩
      rw [← h3 w]
      constructor
      · intro q
        cases q with
        | cons _ q => exact q
        | cons_cons _ q => exact absurd rfl e
      · exact fun q => q.cons x

theorem dropTo_none {c : Int} : ∀ {s : List Int}, dropTo c s = none → c ∉ s
  | [], _ => by simp
  | x :: t, h => by
    rw [dropTo] at h
    by_cases e : x = c
    · rw [if_pos e] at h
      cases h
    · rw [if_neg e] at h
      have := dropTo_none h
      intro q
      cases q with
      | head => exact e rfl
      | tail _ q => exact this q

theorem dropTo_of_not {c : Int} : ∀ {s : List Int}, c ∉ s → dropTo c s = none
  | [], _ => rfl
  | x :: t, h => by
    rw [dropTo, if_neg (fun e => h (by rw [e]; exact List.mem_cons_self ..))]
    exact dropTo_of_not fun q => h (List.mem_cons_of_mem _ q)

/-! ### thinnings, as the program looks: place by place -/
def thin : List Int → List Int → Bool
  | _, [] => true
  | s, c :: out => match dropTo c s with
    | none => false
    | some s' => thin s' out

theorem thin_iff : ∀ (out s : List Int), thin s out = true ↔ (wd out).Sublist s
  | [], s => by
    show (true = true) ↔ _
    exact ⟨fun _ => List.nil_sublist _, fun _ => rfl⟩
  | [c], s => by
    show (match dropTo c s with | none => false | some s' => thin s' []) = true ↔ ([c] : List Int).Sublist s
    cases e : dropTo c s with
    | none => exact ⟨fun h => (by cases h), fun h => absurd (List.singleton_sublist.mp h) (dropTo_none e)⟩
    | some s' =>
      obtain ⟨r, h1, h2, h3⟩ := dropTo_some e
      exact ⟨fun _ => (h3 []).mpr (List.nil_sublist _), fun _ => rfl⟩
  | c :: d :: out, s => by
    show (match dropTo c s with | none => false | some s' => thin s' (d :: out)) = true ↔ _
    obtain ⟨w, ew⟩ := wd_cons c (d :: out)
    cases e : dropTo c s with
    | none =>
      refine ⟨fun h => (by cases h), fun h => ?_⟩
      rw [ew] at h
      exact absurd (h.subset (List.mem_cons_self ..)) (dropTo_none e)
    | some s' =>
      obtain ⟨r, h1, h2, h3⟩ := dropTo_some e
      show thin s' (d :: out) = true ↔ _
      rw [thin_iff (d :: out) s', h1]
      by_cases h : c = d
      · subst h
        rw [wd, if_pos rfl] at ew ⊢
        rw [ew, h3 w, List.cons_sublist_cons]
      · rw [wd, if_neg h, h3]
        obtain ⟨w2, ew2⟩ := wd_cons d out
        rw [ew2]
        constructor
        · intro q
          cases q with
          | cons _ q => exact q
          | cons_cons _ q => exact absurd rfl h
        · exact fun q => q.cons c

theorem thin_wd (s out : List Int) : thin (wd s) out = thin s out := by
  have h1 := thin_iff out (wd s)
  have h2 := thin_iff out s
  rw [sub_wd_iff (isW_wd out), ← h2] at h1
  exact Bool.eq_iff_iff.mpr h1

theorem thin_cons (s : List Int) (c : Int) (out : List Int) : thin s (c :: out) = match dropTo c s with | none => false | some s' => thin s' out := rfl

/-! ### thinnings, as the law looks: letters struck off from the left -/
def gstep (left : List Int) (x : Int) : List Int := match left with
  | [] => []
  | l :: ls => if x = l then ls else l :: ls
def gsub (row left : List Int) : List Int := row.foldl gstep left

theorem gsub_nil : ∀ row : List Int, gsub row [] = []
  | [] => rfl
  | _ :: r => gsub_nil r

theorem gsub_iff : ∀ (row left : List Int), gsub row left = [] ↔ left.Sublist row
  | [], left => by
    show left = [] ↔ _
    exact List.sublist_nil.symm
  | x :: r, [] => by
    rw [gsub_nil]
    exact ⟨fun _ => List.nil_sublist _, fun _ => rfl⟩
  | x :: r, l :: ls => by
    show gsub r (if x = l then ls else l :: ls) = [] ↔ _
    by_cases h : x = l
    · subst h
      rw [if_pos rfl, gsub_iff r ls, List.cons_sublist_cons]
    · rw [if_neg h, gsub_iff r (l :: ls)]
      constructor
      · exact fun q => q.cons x
      · intro q
        cases q with
        | cons _ q => exact q
        | cons_cons _ q => exact absurd rfl h

theorem gsub_length : ∀ (row left : List Int), (gsub row left).length ≤ left.length
  | [], left => Nat.le_refl _
  | x :: r, [] => by
    rw [gsub_nil]
    exact Nat.le_refl _
  | x :: r, l :: ls => by
    show (gsub r (if x = l then ls else l :: ls)).length ≤ _
    by_cases h : x = l
    · rw [if_pos h]
      have := gsub_length r ls
      simp only [List.length_cons]
      omega
    · rw [if_neg h]
      exact gsub_length r (l :: ls)

/-- what the law's helper says -/
def thinL (row out : List Int) : Bool := decide (gsub row (wd out) = [])
theorem thinL_eq (row out : List Int) : thinL row out = thin row out := by
  have h1 := gsub_iff row (wd out)
  have h2 := thin_iff out row
  rw [← h2] at h1
  unfold thinL
  exact Bool.eq_iff_iff.mpr (by rw [decide_eq_true_iff]; exact h1)

/-! ### rows that two words have in common -/
def letters : List Int := [0, 1, 2, 3]
def allRows (S : List Int) : Nat → List (List Int)
  | 0 => [[]]
  | n + 1 => S.flatMap fun c => (allRows S n).map (c :: ·)
def gon (one two : List Int) (p q : Nat) : List (Int × Nat × Nat) :=
  letters.filterMap fun c => match nxt one p c, nxt two q c with
    | some p', some q' => some (c, p', q')
    | _, _ => none
def rowsI (one two : List Int) : Nat → Nat → Nat → List (List Int)
  | 0, _, _ => [[]]
  | n + 1, p, q => (gon one two p q).flatMap fun x => (rowsI one two n x.2.1 x.2.2).map (x.1 :: ·)

theorem flatMap_filterMap {α β γ : Type} (f : α → Option β) (g : β → List γ) : ∀ l : List α, (l.filterMap f).flatMap g = l.flatMap fun a => (f a).elim [] g
  | [] => rfl
  | a :: l => by
    rw [List.flatMap_cons, ← flatMap_filterMap f g l]
    cases e : f a with
    | none => rw [List.filterMap_cons_none e]; rfl
    | some b => rw [List.filterMap_cons_some e, List.flatMap_cons]; rfl

theorem flatMap_filter {α β : Type} (p : α → Bool) (f : α → List β) (q : β → Bool) (g : α → List β) : ∀ L : List α,
    (∀ c ∈ L, p c = true → (f c).filter q = g c) → (∀ c ∈ L, p c = false → g c = []) → ((L.filter p).flatMap f).filter q = L.flatMap g
  | [], _, _ => rfl
  | c :: L, h1, h2 => by
    have ih := flatMap_filter p f q g L (fun d hd => h1 d (List.mem_cons_of_mem _ hd)) (fun d hd => h2 d (List.mem_cons_of_mem _ hd))
    cases e : p c with
    | true =>
      rw [List.filter_cons_of_pos e, List.flatMap_cons, List.filter_append, List.flatMap_cons, ih, h1 c (List.mem_cons_self ..) e]
    | false =>
      rw [List.filter_cons_of_neg (by rw [e]; exact Bool.false_ne_true), List.flatMap_cons, h2 c (List.mem_cons_self ..) e, ih]
      rfl

theorem rows_eq (one two : List Int) (pr : Int → Bool) : ∀ (n p q : Nat), (∀ c, c ∈ one.drop p → pr c = true) →
    (allRows (letters.filter pr) n).filter (fun o => thin (one.drop p) o && thin (two.drop q) o) = rowsI one two n p q
  | 0, p, q, _ => rfl
  | n + 1, p, q, h => by
    show ((letters.filter pr).flatMap fun c => (allRows (letters.filter pr) n).map (c :: ·)).filter _ = _
    have e2 : rowsI one two (n + 1) p q = letters.flatMap fun c => (match nxt one p c, nxt two q c with
        | some p', some q' => some (c, p', q')
        | _, _ => (none : Option (Int × Nat × Nat))).elim [] fun x => (rowsI one two n x.2.1 x.2.2).map (x.1 :: ·) := by
      show (gon one two p q).flatMap _ = _
      exact flatMap_filterMap _ _ _
    rw [e2]
    refine flatMap_filter pr _ _ _ letters (fun c _ hc => ?_) (fun c _ hc => ?_)
    · rw [List.filter_map]
      cases e3 : nxt one p c with
      | none =>
        have d := (nxt_none e3).2
        show List.map _ (List.filter _ _) = []
        rw [List.filter_eq_nil_iff.mpr, List.map_nil]
        intro o _
        show ¬ (thin (one.drop p) (c :: o) && thin (two.drop q) (c :: o)) = true
        rw [thin_cons, d]
        exact Bool.false_ne_true
      | some p' =>
        have d := (nxt_some e3)
        cases e4 : nxt two q c with
        | none =>
          have d4 := (nxt_none e4).2
          show List.map _ (List.filter _ _) = []
          rw [List.filter_eq_nil_iff.mpr, List.map_nil]
          intro o _
          show ¬ (thin (one.drop p) (c :: o) && thin (two.drop q) (c :: o)) = true
          rw [thin_cons (two.drop q), d4, Bool.and_false]
          exact Bool.false_ne_true
        | some q' =>
          have d4 := (nxt_some e4)
          show List.map _ (List.filter _ _) = (rowsI one two n p' q').map (c :: ·)
          rw [← rows_eq one two pr n p' q' (fun x hx => h x ?_)]
          · congr 1
            refine congrFun (congrArg List.filter (funext fun o => ?_)) _
            show (thin (one.drop p) (c :: o) && thin (two.drop q) (c :: o)) = _
            rw [thin_cons, thin_cons, d.2.2.2, d4.2.2.2]
          · have e5 : p' = p + (p' - p) := by have := d.1; omega
            rw [e5, ← List.drop_drop] at hx
            exact List.mem_of_mem_drop hx
    · cases e3 : nxt one p c with
      | none => rfl
      | some p' =>
        have d := nxt_some e3
        have : c ∈ one.drop p := by
          refine List.mem_of_getElem? (i := p' - p) ?_
          rw [List.getElem?_drop, show p + (p' - p) = p' by have := d.1; omega]
          exact d.2.2.1
        rw [h c this] at hc
        cases hc

/-- THE LAW of common: tried one by one -/
theorem common_eq (row other : List Int) (n : Nat) :
    (allRows (letters.filter fun c => decide (c ∈ row)) n).filter (fun o => thinL row o && thinL other o) = rowsI (wd row) (wd other) n 0 0 := by
  rw [← rows_eq (wd row) (wd other) (fun c => decide (c ∈ row)) n 0 0 (fun c hc => by
    rw [List.drop_zero] at hc
    exact decide_eq_true (wd_mem.mp hc))]
  refine congrFun (congrArg List.filter (funext fun o => ?_)) _
  rw [List.drop_zero, List.drop_zero, thinL_eq, thinL_eq, thin_wd, thin_wd]

/-! ### the program's lists, made letter by letter at the end -/
abbrev BF := List Int × Nat × Nat
def bfs (one two : List Int) : Nat → List BF
  | 0 => [([], 0, 0)]
  | i + 1 => (bfs one two i).flatMap fun x => (gon one two x.2.1 x.2.2).map fun y => (x.1 ++ [y.1], y.2.1, y.2.2)

theorem bfs_rows (one two : List Int) : ∀ (i k : Nat), (bfs one two i).flatMap (fun x => (rowsI one two k x.2.1 x.2.2).map (x.1 ++ ·)) = rowsI one two (i + k) 0 0
  | 0, k => by
    show (rowsI one two k 0 0).map (fun y => [] ++ y) ++ [] = _
    rw [List.append_nil, Nat.zero_add]
    exact List.map_id' _
  | i + 1, k => by
    rw [show i + 1 + k = i + (k + 1) by omega, ← bfs_rows one two i (k + 1)]
    show ((bfs one two i).flatMap _).flatMap _ = _
    rw [List.flatMap_assoc]
    refine congrArg (fun f => List.flatMap f (bfs one two i)) (funext fun x => ?_)
    show _ = ((gon one two x.2.1 x.2.2).flatMap fun y => (rowsI one two k y.2.1 y.2.2).map (y.1 :: ·)).map (x.1 ++ ·)
    rw [List.map_flatMap, List.flatMap_map]
    refine congrArg (fun f => List.flatMap f _) (funext fun y => ?_)
    rw [List.map_map]
    refine congrArg (fun f => List.map f _) (funext fun z => ?_)
    show (x.1 ++ [y.1]) ++ z = x.1 ++ y.1 :: z
    rw [List.append_assoc]
    rfl

theorem bfs_end (one two : List Int) (n : Nat) : (bfs one two n).map (·.1) = rowsI one two n 0 0 := by
  have hh := bfs_rows one two n 0
  rw [Nat.add_zero] at hh
  rw [← hh]
  have : ∀ l : List BF, l.map (·.1) = l.flatMap fun x => (rowsI one two 0 x.2.1 x.2.2).map (x.1 ++ ·) := by
    intro l
    induction l with
    | nil => rfl
    | cons a l ih =>
      rw [List.map_cons, List.flatMap_cons, ih]
      show _ = [a.1 ++ []] ++ _
      rw [List.append_nil]
      rfl
  exact this _

theorem gon_length (one two : List Int) (p q : Nat) : (gon one two p q).length ≤ 4 := List.length_filterMap_le _ _

theorem sum_le {α : Type} (f : α → Nat) (b : Nat) : ∀ l : List α, (∀ x ∈ l, f x ≤ b) → (l.map f).sum ≤ l.length * b
  | [], _ => by simp
  | x :: l, h => by
    have := sum_le f b l fun y hy => h y (List.mem_cons_of_mem _ hy)
    have h1 := h x (List.mem_cons_self ..)
    rw [List.map_cons, List.sum_cons, List.length_cons, Nat.succ_mul]
    omega

theorem bfs_length (one two : List Int) : ∀ i, (bfs one two i).length ≤ 4 ^ i
  | 0 => Nat.le_refl _
  | i + 1 => by
    show ((bfs one two i).flatMap _).length ≤ _
    rw [List.length_flatMap]
    refine Nat.le_trans (sum_le _ 4 _ fun x _ => ?_) ?_
    · rw [List.length_map]
      exact gon_length ..
    · rw [Nat.pow_succ]
      exact Nat.mul_le_mul_right 4 (bfs_length one two i)

theorem rowsI_len (one two : List Int) : ∀ (n p q : Nat) (r : List Int), r ∈ rowsI one two n p q → r.length = n
  | 0, p, q, r, h => by
    have : r = [] := List.mem_singleton.mp h
    rw [this]
    rfl
  | n + 1, p, q, r, h => by
    obtain ⟨x, hx, hr⟩ := List.mem_flatMap.mp h
    obtain ⟨y, hy, e⟩ := List.mem_map.mp hr
    rw [← e, List.length_cons, rowsI_len one two n _ _ y hy]

/-- how many go on -/
def cnt (one two : List Int) (n p q : Nat) : Nat := (rowsI one two n p q).length
theorem cnt_zero (one two : List Int) (p q : Nat) : cnt one two 0 p q = 1 := rfl
theorem cnt_succ (one two : List Int) (n p q : Nat) : cnt one two (n + 1) p q = ((gon one two p q).map fun x => cnt one two n x.2.1 x.2.2).sum := by
  show ((gon one two p q).flatMap _).length = _
  rw [List.length_flatMap]
  refine congrArg List.sum (congrArg (fun f => List.map f _) (funext fun x => ?_))
  rw [List.length_map]
  rfl

theorem cnt_le (one two : List Int) : ∀ n p q, cnt one two n p q ≤ 4 ^ n
  | 0, p, q => Nat.le_refl _
  | n + 1, p, q => by
    rw [cnt_succ]
    refine Nat.le_trans (sum_le _ (4 ^ n) _ fun x _ => cnt_le one two n _ _) ?_
    rw [Nat.pow_succ, Nat.mul_comm]
    exact Nat.mul_le_mul_left _ (gon_length ..)

/-- the law's rows, made letter by letter at the end -/
def bfr (S : List Int) : Nat → List (List Int)
  | 0 => [[]]
  | i + 1 => (bfr S i).flatMap fun r => S.map fun c => r ++ [c]
theorem bfr_rows (S : List Int) : ∀ (i k : Nat), (bfr S i).flatMap (fun x => (allRows S k).map (x ++ ·)) = allRows S (i + k)
  | 0, k => by
    show (allRows S k).map (fun y => [] ++ y) ++ [] = _
    rw [List.append_nil, Nat.zero_add]
    exact List.map_id' _
  | i + 1, k => by
    rw [show i + 1 + k = i + (k + 1) by omega, ← bfr_rows S i (k + 1)]
    show ((bfr S i).flatMap _).flatMap _ = _
    rw [List.flatMap_assoc]
    refine congrArg (fun f => List.flatMap f (bfr S i)) (funext fun x => ?_)
    show _ = (S.flatMap fun c => (allRows S k).map (c :: ·)).map (x ++ ·)
    rw [List.map_flatMap, List.flatMap_map]
    refine congrArg (fun f => List.flatMap f _) (funext fun y => ?_)
    rw [List.map_map]
    refine congrArg (fun f => List.map f _) (funext fun z => ?_)
    show (x ++ [y]) ++ z = x ++ y :: z
    rw [List.append_assoc]
    rfl
theorem bfr_end (S : List Int) (n : Nat) : bfr S n = allRows S n := by
  have h := bfr_rows S n 0
  rw [Nat.add_zero] at h
  rw [← h]
  have : ∀ l : List (List Int), l = l.flatMap fun x => (allRows S 0).map (x ++ ·) := by
    intro l
    induction l with
    | nil => rfl
    | cons a l ih =>
      rw [List.flatMap_cons, ← ih]
      show _ = [a ++ []] ++ _
      rw [List.append_nil]
      rfl
  exact this _
theorem bfr_length (S : List Int) (hS : S.length ≤ 4) : ∀ i, (bfr S i).length ≤ 4 ^ i
  | 0 => Nat.le_refl _
  | i + 1 => by
    show ((bfr S i).flatMap _).length ≤ _
    rw [List.length_flatMap]
    refine Nat.le_trans (sum_le _ 4 _ fun x _ => ?_) ?_
    · rw [List.length_map]
      exact hS
    · rw [Nat.pow_succ]
      exact Nat.mul_le_mul_right 4 (bfr_length S hS i)
theorem bfr_len (S : List Int) : ∀ (n : Nat) (r : List Int), r ∈ bfr S n → r.length = n
  | 0, r, h => by
    have : r = [] := List.mem_singleton.mp h
    rw [this]
    rfl
  | n + 1, r, h => by
    obtain ⟨x, hx, hr⟩ := List.mem_flatMap.mp h
    obtain ⟨c, hc, e⟩ := List.mem_map.mp hr
    rw [← e, List.length_append, bfr_len S n x hx]
    rfl

/-! ### a strictly rising list is known by its members -/
theorem rise_ext : ∀ {l m : List Int}, l.Pairwise (· < ·) → m.Pairwise (· < ·) → (∀ k, k ∈ l ↔ k ∈ m) → l = m
  | [], [], _, _, _ => rfl
  | [], y :: m, _, _, h => by
    have := (h y).mpr (List.mem_cons_self ..)
    cases this
  | x :: l, [], _, _, h => by
    have := (h x).mp (List.mem_cons_self ..)
    cases this
  | x :: l, y :: m, hl, hm, h => by
    have hl' := List.pairwise_cons.mp hl
    have hm' := List.pairwise_cons.mp hm
    have e : x = y := by
      have h1 : x ∈ y :: m := (h x).mp (List.mem_cons_self ..)
      have h2 : y ∈ x :: l := (h y).mpr (List.mem_cons_self ..)
      cases h1 with
      | head => rfl
      | tail _ h1 =>
        have a1 := hm'.1 x h1
        cases h2 with
        | head => rfl
        | tail _ h2 =>
          have a2 := hl'.1 y h2
          omega
    subst e
    refine congrArg _ (rise_ext hl'.2 hm'.2 fun k => ?_)
    constructor
    · intro hk
      have := (h k).mp (List.mem_cons_of_mem _ hk)
      cases this with
      | head => exact absurd (hl'.1 _ hk) (by omega)
      | tail _ q => exact q
    · intro hk
      have := (h k).mpr (List.mem_cons_of_mem _ hk)
      cases this with
      | head => exact absurd (hm'.1 _ hk) (by omega)
      | tail _ q => exact q

theorem letters_of {l row : List Int} (hl : l.Pairwise (· < ·)) (hm : ∀ k, k ∈ l ↔ k ∈ row) (hr : ∀ k ∈ row, 0 ≤ k ∧ k < 4) : l = letters.filter fun c => decide (c ∈ row) := by
  refine rise_ext hl ?_ fun k => ?_
  · exact List.Pairwise.filter _ (by decide)
  · rw [hm k, List.mem_filter, decide_eq_true_iff]
    refine ⟨fun h => ⟨?_, h⟩, fun h => h.2⟩
    have := hr k h
    show k ∈ [0, 1, 2, 3]
    have : k = 0 ∨ k = 1 ∨ k = 2 ∨ k = 3 := by omega
    rcases this with rfl | rfl | rfl | rfl <;> decide
end Fl
end

section
set_option autoImplicit false
set_option linter.all false
/-! Plain laws, part 2: the longest common word. -/
namespace Fl

/-! ### the order of words -/
def ltL : List Int → List Int → Bool
  | [], [] => false
  | [], _ :: _ => true
  | _ :: _, [] => false
  | x :: xs, y :: ys => if x = y then ltL xs ys else decide (x < y)

theorem ltL_irr : ∀ x : List Int, ltL x x = false
  | [] => rfl
  | a :: x => by
    rw [ltL, if_pos rfl]
    exact ltL_irr x

theorem ltL_asym : ∀ {x y : List Int}, ltL x y = true → ltL y x = false
  | [], [], h => by cases h
  | [], _ :: _, _ => rfl
  | _ :: _, [], h => by cases h
  | a :: x, b :: y, h => by
    rw [ltL] at h ⊢
    by_cases e : a = b
    · subst e
      rw [if_pos rfl] at h ⊢
      exact ltL_asym h
    · rw [if_neg e] at h
      rw [if_neg (Ne.symm e)]
      have := of_decide_eq_true h
      exact decide_eq_false (by omega)

theorem ltL_tri : ∀ {x y : List Int}, ltL x y = false → ltL y x = false → x = y
  | [], [], _, _ => rfl
  | [], _ :: _, h, _ => by cases h
  | _ :: _, [], _, h => by cases h
  | a :: x, b :: y, h1, h2 => by
    rw [ltL] at h1 h2
    by_cases e : a = b
    · subst e
      rw [if_pos rfl] at h1 h2
      rw [ltL_tri h1 h2]
    · rw [if_neg e] at h1
      rw [if_neg (Ne.symm e)] at h2
      have q1 := of_decide_eq_false h1
      have q2 := of_decide_eq_false h2
      omega

theorem ltL_trans : ∀ {x y z : List Int}, ltL x y = true → ltL y z = true → ltL x z = true
  | [], [], _, h, _ => by cases h
  | [], _ :: _, [], _, h => by cases h
  | [], _ :: _, _ :: _, _, _ => rfl
  | _ :: _, [], _, h, _ => by cases h
  | _ :: _, _ :: _, [], _, h => by cases h
  | a :: x, b :: y, c :: z, h1, h2 => by
    rw [ltL] at h1 h2 ⊢
    by_cases e : a = b
    · subst e
      rw [if_pos rfl] at h1
      by_cases e2 : a = c
      · subst e2
        rw [if_pos rfl] at h2 ⊢
        exact ltL_trans h1 h2
      · rw [if_neg e2] at h2 ⊢
        exact h2
    · rw [if_neg e] at h1
      have q1 := of_decide_eq_true h1
      by_cases e2 : b = c
      · subst e2
        rw [if_neg e]
        exact decide_eq_true q1
      · rw [if_neg e2] at h2
        have q2 := of_decide_eq_true h2
        rw [if_neg (by omega)]
        exact decide_eq_true (by omega)

/-- not above: at most -/
def leL (x y : List Int) : Prop := ltL y x = false
theorem leL_refl (x : List Int) : leL x x := ltL_irr x
theorem leL_trans {x y z : List Int} (h1 : leL x y) (h2 : leL y z) : leL x z := by
  unfold leL at *
  cases h : ltL z x with
  | false => rfl
  | true =>
    cases hxy : ltL x y with
    | true =>
      rw [ltL_trans h hxy] at h2
      cases h2
    | false =>
      have := ltL_tri hxy h1
      rw [this, h2] at h
      cases h
theorem leL_anti {x y : List Int} (h1 : leL x y) (h2 : leL y x) : x = y := ltL_tri h2 h1
theorem leL_cons (a : Int) {x y : List Int} (h : leL x y) : leL (a :: x) (a :: y) := by
  unfold leL at *
  rw [ltL, if_pos rfl]
  exact h
theorem leL_total (x y : List Int) : leL x y ∨ leL y x := by
  cases h : ltL y x with
  | false => exact .inl h
  | true => exact .inr (ltL_asym h)

/-! ### longer is better, then less -/
def atl (u v : List Int) : Prop := v.length < u.length ∨ (u.length = v.length ∧ leL u v)
theorem atl_refl (u : List Int) : atl u u := .inr ⟨rfl, leL_refl u⟩
theorem atl_trans {u v w : List Int} (h1 : atl u v) (h2 : atl v w) : atl u w := by
  rcases h1 with h1 | ⟨h1, l1⟩ <;> rcases h2 with h2 | ⟨h2, l2⟩
  · exact .inl (by omega)
  · exact .inl (by omega)
  · exact .inl (by omega)
  · exact .inr ⟨by omega, leL_trans l1 l2⟩
theorem atl_anti {u v : List Int} (h1 : atl u v) (h2 : atl v u) : u = v := by
  rcases h1 with h1 | ⟨h1, l1⟩ <;> rcases h2 with h2 | ⟨h2, l2⟩
  · omega
  · omega
  · omega
  · exact leL_anti l1 l2
theorem atl_cons (a : Int) {u v : List Int} (h : atl u v) : atl (a :: u) (a :: v) := by
  rcases h with h | ⟨h, l⟩
  · exact .inl (by simp only [List.length_cons]; omega)
  · exact .inr ⟨by simp only [List.length_cons]; omega, leL_cons a l⟩
theorem atl_len {u v : List Int} (h : atl u v) : v.length ≤ u.length := by
  rcases h with h | ⟨h, _⟩ <;> omega

/-- min(one, other) -/
def minL (one other : List Int) : List Int := if ltL other one = true then other else one
/-- better, of two words -/
def betW (one other : List Int) : List Int :=
  if one.length ≠ other.length then (if one.length > other.length then one else other) else minL one other
/-- better, None the worst -/
def bet : Option (List Int) → Option (List Int) → Option (List Int)
  | none, o => o
  | some u, none => some u
  | some u, some v => some (betW u v)

theorem minL_cases (u v : List Int) : (minL u v = u ∧ leL u v) ∨ (minL u v = v ∧ leL v u) := by
  unfold minL
  cases h : ltL v u with
  | true => exact .inr ⟨if_pos rfl, ltL_asym h⟩
  | false => exact .inl ⟨if_neg Bool.false_ne_true, h⟩

theorem betW_cases (u v : List Int) : (betW u v = u ∧ atl u v) ∨ (betW u v = v ∧ atl v u) := by
  unfold betW
  by_cases h : u.length ≠ v.length
  · rw [if_pos h]
    by_cases h2 : u.length > v.length
    · rw [if_pos h2]
      exact .inl ⟨rfl, .inl h2⟩
    · rw [if_neg h2]
      exact .inr ⟨rfl, .inl (by omega)⟩
  · rw [if_neg h]
    have e : u.length = v.length := by omega
    rcases minL_cases u v with ⟨h1, h2⟩ | ⟨h1, h2⟩
    · exact .inl ⟨h1, .inr ⟨e, h2⟩⟩
    · exact .inr ⟨h1, .inr ⟨e.symm, h2⟩⟩

theorem betW_left (u v : List Int) : atl (betW u v) u := by
  rcases betW_cases u v with ⟨h1, h2⟩ | ⟨h1, h2⟩
  · rw [h1]
    exact atl_refl u
  · rw [h1]
    exact h2
theorem betW_right (u v : List Int) : atl (betW u v) v := by
  rcases betW_cases u v with ⟨h1, h2⟩ | ⟨h1, h2⟩
  · rw [h1]
    exact h2
  · rw [h1]
    exact atl_refl v

/-! ### the best from a pair of places on -/
/-- the best of what begins with the letter at both places; f: the best of later pairs of places -/
def lfStep (one two : List Int) (at_ th : Nat) (a : Int) (f : Nat → Nat → List Int) (best : List Int) (c : Int) : List Int :=
  if c ≠ a then
    match nxt one (at_ + 1) c, nxt two (th + 1) c with
    | some h, some l => betW best (a :: f h l)
    | _, _ => best
  else best
/-- by the number of letters that are left of the first word -/
def lfN (one two : List Int) : Nat → Nat → Nat → List Int
  | 0, _, _ => []
  | k + 1, at_, th => match one[at_]? with
    | none => []
    | some a => letters.foldl (lfStep one two at_ th a (lfN one two k)) [a]
def lf (one two : List Int) (at_ th : Nat) : List Int := lfN one two (one.length - at_) at_ th

theorem lfStep_congr {one two : List Int} {at_ th : Nat} {a : Int} {f g : Nat → Nat → List Int} (h : ∀ p q, at_ < p → p < one.length → f p q = g p q) (best : List Int) (c : Int) :
    lfStep one two at_ th a f best c = lfStep one two at_ th a g best c := by
  unfold lfStep
  by_cases e : c ≠ a
  · rw [if_pos e, if_pos e]
    cases e1 : nxt one (at_ + 1) c with
    | none => rfl
    | some p =>
      cases e2 : nxt two (th + 1) c with
      | none => rfl
      | some q =>
        have := nxt_some e1
        show betW best (a :: f p q) = betW best (a :: g p q)
        rw [h p q (by omega) this.2.1]
  · rw [if_neg e, if_neg e]

theorem foldl_congr {α β : Type} {f g : α → β → α} (h : ∀ a b, f a b = g a b) : ∀ (l : List β) (a : α), l.foldl f a = l.foldl g a
  | [], _ => rfl
  | b :: l, a => by
    rw [List.foldl_cons, List.foldl_cons, h, foldl_congr h l]

theorem lfN_more (one two : List Int) : ∀ (k j at_ th : Nat), one.length - at_ ≤ k → one.length - at_ ≤ j → lfN one two k at_ th = lfN one two j at_ th
  | 0, j, at_, th, hk, hj => by
    have e : one[at_]? = none := List.getElem?_eq_none (by omega)
    cases j with
    | zero => rfl
    | succ j => rw [lfN, lfN, e]
  | k + 1, 0, at_, th, hk, hj => by
    have e : one[at_]? = none := List.getElem?_eq_none (by omega)
    rw [lfN, lfN, e]
  | k + 1, j + 1, at_, th, hk, hj => by
    rw [lfN, lfN]
    cases e : one[at_]? with
    | none => rfl
    | some a =>
      exact foldl_congr (fun b c => lfStep_congr (fun p q h1 h2 => lfN_more one two k j p q (by omega) (by omega)) b c) letters [a]

/-- one turn -/
theorem lf_eq {one two : List Int} {at_ th : Nat} {a : Int} (h : one[at_]? = some a) : lf one two at_ th = letters.foldl (lfStep one two at_ th a (lf one two)) [a] := by
  have hl := (List.getElem?_eq_some_iff.mp h).1
  unfold lf
  rw [show one.length - at_ = (one.length - at_ - 1) + 1 by omega, lfN, h]
  exact foldl_congr (fun b c => lfStep_congr (fun p q h1 h2 => lfN_more one two _ _ p q (by omega) (by omega)) b c) letters [a]

/-! ### common words -/
/-- p is a word, not empty, that is a thinning of both -/
def Com (one two p : List Int) : Prop := isW p ∧ p ≠ [] ∧ p.Sublist one ∧ p.Sublist two

theorem foldl_inv {α β : Type} {f : α → β → α} (P : α → Prop) : ∀ (l : List β) (a : α), P a → (∀ a b, b ∈ l → P a → P (f a b)) → P (l.foldl f a)
  | [], _, h, _ => h
  | b :: l, a, h, hs => foldl_inv P l (f a b) (hs a b (List.mem_cons_self ..) h) fun a c hc => hs a c (List.mem_cons_of_mem _ hc)

theorem drop_at {one : List Int} {i : Nat} {a : Int} (h : one[i]? = some a) : one.drop i = a :: one.drop (i + 1) := by
  obtain ⟨h1, h2⟩ := List.getElem?_eq_some_iff.mp h
  rw [List.drop_eq_getElem_cons h1, h2]

theorem drop_sub {α : Type} {one : List α} {p q : Nat} (h : p ≤ q) : (one.drop q).Sublist (one.drop p) := by
  rw [show q = p + (q - p) by omega, ← List.drop_drop]
  exact List.drop_sublist _ _

/-- it is one, from its places on, and begins with its letter -/
theorem lf_sound (one two : List Int) : ∀ (k at_ th : Nat) (a : Int), one.length - at_ ≤ k → one[at_]? = some a → two[th]? = some a →
    ∃ w, lf one two at_ th = a :: w ∧ isW (a :: w) ∧ (a :: w).Sublist (one.drop at_) ∧ (a :: w).Sublist (two.drop th)
  | 0, at_, th, a, hk, h1, h2 => by
    have := (List.getElem?_eq_some_iff.mp h1).1
    omega
  | k + 1, at_, th, a, hk, h1, h2 => by
    have hl := (List.getElem?_eq_some_iff.mp h1).1
    rw [lf_eq h1]
    refine foldl_inv (fun b => ∃ w, b = a :: w ∧ isW (a :: w) ∧ (a :: w).Sublist (one.drop at_) ∧ (a :: w).Sublist (two.drop th)) letters [a] ⟨[], rfl, trivial, ?_, ?_⟩ fun b c _ hb => ?_
    · rw [drop_at h1]
      exact (List.nil_sublist _).cons_cons a
    · rw [drop_at h2]
      exact (List.nil_sublist _).cons_cons a
    · unfold lfStep
      by_cases e : c ≠ a
      · rw [if_pos e]
        cases e1 : nxt one (at_ + 1) c with
        | none => exact hb
        | some p =>
          cases e2 : nxt two (th + 1) c with
          | none => exact hb
          | some q =>
            obtain ⟨p1, p2, p3, _⟩ := nxt_some e1
            obtain ⟨q1, q2, q3, _⟩ := nxt_some e2
            obtain ⟨w, hw, w1, w2, w3⟩ := lf_sound one two k p q c (by omega) p3 q3
            show ∃ w, betW b (a :: lf one two p q) = a :: w ∧ _
            rcases betW_cases b (a :: lf one two p q) with ⟨h, _⟩ | ⟨h, _⟩
            · rw [h]
              exact hb
            · rw [h, hw]
              refine ⟨c :: w, rfl, ⟨Ne.symm e, w1⟩, ?_, ?_⟩
              · rw [drop_at h1]
                exact (w2.trans (drop_sub (by omega))).cons_cons a
              · rw [drop_at h2]
                exact (w3.trans (drop_sub (by omega))).cons_cons a
      · rw [if_neg e]
        exact hb

theorem foldl_atl {f : List Int → Int → List Int} (h : ∀ b c, atl (f b c) b) : ∀ (l : List Int) (b : List Int), atl (l.foldl f b) b
  | [], b => atl_refl b
  | c :: l, b => atl_trans (foldl_atl h l (f b c)) (h b c)
theorem foldl_atl_mem {f : List Int → Int → List Int} (h : ∀ b c, atl (f b c) b) {c : Int} {v : List Int} (hv : ∀ b, atl (f b c) v) : ∀ (l : List Int) (b : List Int), c ∈ l → atl (l.foldl f b) v
  | d :: l, b, hc => by
    cases hc with
    | head => exact atl_trans (foldl_atl h l _) (hv b)
    | tail _ hc => exact foldl_atl_mem h hv l _ hc

theorem lfStep_atl (one two : List Int) (at_ th : Nat) (a : Int) (f : Nat → Nat → List Int) (b : List Int) (c : Int) : atl (lfStep one two at_ th a f b c) b := by
  unfold lfStep
  by_cases e : c ≠ a
  · rw [if_pos e]
    cases nxt one (at_ + 1) c with
    | none => exact atl_refl b
    | some p =>
      cases nxt two (th + 1) c with
      | none => exact atl_refl b
      | some q => exact betW_left _ _
  · rw [if_neg e]
    exact atl_refl b

theorem nxt_of_sub {xs : List Int} {f : Nat} {c : Int} {w : List Int} (h : (c :: w).Sublist (xs.drop f)) : ∃ p, nxt xs f c = some p ∧ w.Sublist (xs.drop (p + 1)) := by
  cases e : nxt xs f c with
  | none => exact absurd (h.subset (List.mem_cons_self ..)) (nxt_none e).1
  | some p =>
    obtain ⟨h1, h2, h3, h4⟩ := nxt_some e
    obtain ⟨r, r1, _, r3⟩ := dropTo_some h4
    rw [drop_at h3] at r1
    injection r1 with _ r1
    exact ⟨p, rfl, by rw [r1]; exact (r3 w).mp h⟩

/-- none is better -/
theorem lf_best (one two : List Int) (hl : ∀ c ∈ one, c ∈ letters) : ∀ (w : List Int) (a : Int) (at_ th : Nat), one[at_]? = some a → isW (a :: w) → w.Sublist (one.drop (at_ + 1)) → w.Sublist (two.drop (th + 1)) →
    atl (lf one two at_ th) (a :: w)
  | [], a, at_, th, h1, _, _, _ => by
    rw [lf_eq h1]
    exact foldl_atl (fun b c => lfStep_atl ..) letters [a]
  | c :: w, a, at_, th, h1, hw, s1, s2 => by
    obtain ⟨p, e1, t1⟩ := nxt_of_sub s1
    obtain ⟨q, e2, t2⟩ := nxt_of_sub s2
    have ih := lf_best one two hl w c p q (nxt_some e1).2.2.1 hw.2 t1 t2
    rw [lf_eq h1]
    refine foldl_atl_mem (fun b c => lfStep_atl ..) (c := c) (fun b => ?_) letters [a] (hl c ?_)
    · unfold lfStep
      rw [if_pos (Ne.symm hw.1), e1, e2]
      exact atl_trans (betW_right _ _) (atl_cons a ih)
    · exact List.mem_of_getElem? (nxt_some e1).2.2.1

/-! ### over all pairs of places -/
/-- o is the best common word of the pairs of places told by A, None where there is none -/
structure BestOf (one two : List Int) (A : Nat → Nat → Prop) (o : Option (List Int)) : Prop where
  some_ : ∀ u, o = some u → ∃ i j a, A i j ∧ one[i]? = some a ∧ two[j]? = some a ∧ u = lf one two i j
  all : ∀ i j a, A i j → one[i]? = some a → two[j]? = some a → ∃ u, o = some u ∧ atl u (lf one two i j)

theorem BestOf.nil (one two : List Int) : BestOf one two (fun _ _ => False) none :=
  ⟨fun u h => (by cases h), fun i j a h => h.elim⟩
theorem BestOf.congr {one two : List Int} {A B : Nat → Nat → Prop} {o : Option (List Int)} (h : BestOf one two A o) (e : ∀ i j, A i j ↔ B i j) : BestOf one two B o :=
  ⟨fun u hu => by
    obtain ⟨i, j, a, h1, h2⟩ := h.some_ u hu
    exact ⟨i, j, a, (e i j).mp h1, h2⟩, fun i j a hb => h.all i j a ((e i j).mpr hb)⟩
theorem BestOf.more {one two : List Int} {A : Nat → Nat → Prop} {o : Option (List Int)} (h : BestOf one two A o) {i j : Nat} {a : Int} (h1 : one[i]? = some a) (h2 : two[j]? = some a) :
    BestOf one two (fun x y => A x y ∨ (x = i ∧ y = j)) (bet o (some (lf one two i j))) := by
  cases o with
  | none =>
    refine ⟨fun u hu => ⟨i, j, a, .inr ⟨rfl, rfl⟩, h1, h2, (Option.some.inj hu).symm⟩, fun x y b hb e1 e2 => ?_⟩
    rcases hb with hb | ⟨rfl, rfl⟩
    · obtain ⟨u, q, _⟩ := h.all x y b hb e1 e2
      cases q
    · exact ⟨_, rfl, atl_refl _⟩
  | some v =>
    constructor
    · intro u hu
      have hu' : betW v (lf one two i j) = u := Option.some.inj hu
      rcases betW_cases v (lf one two i j) with ⟨e, _⟩ | ⟨e, _⟩
      · obtain ⟨x, y, b, q1, q2, q3, q4⟩ := h.some_ v rfl
        exact ⟨x, y, b, .inl q1, q2, q3, by rw [← hu', e, q4]⟩
      · exact ⟨i, j, a, .inr ⟨rfl, rfl⟩, h1, h2, by rw [← hu', e]⟩
    · intro x y b hb e1 e2
      refine ⟨_, rfl, ?_⟩
      rcases hb with hb | ⟨rfl, rfl⟩
      · obtain ⟨u, q, r⟩ := h.all x y b hb e1 e2
        have := Option.some.inj q
        subst this
        exact atl_trans (betW_left _ _) r
      · exact betW_right _ _
theorem BestOf.skip {one two : List Int} {A : Nat → Nat → Prop} {o : Option (List Int)} (h : BestOf one two A o) {i j : Nat} (hne : ∀ a, one[i]? = some a → two[j]? ≠ some a) :
    BestOf one two (fun x y => A x y ∨ (x = i ∧ y = j)) o :=
  ⟨fun u hu => by
    obtain ⟨x, y, b, q1, q2⟩ := h.some_ u hu
    exact ⟨x, y, b, .inl q1, q2⟩, fun x y b hb e1 e2 => by
    rcases hb with hb | ⟨rfl, rfl⟩
    · exact h.all x y b hb e1 e2
    · exact absurd e2 (hne b e1)⟩

/-- THE LAW of longest_common -/
structure Longest (one two : List Int) (o : Option (List Int)) : Prop where
  com : ∀ u, o = some u → Com one two u
  best : ∀ p, Com one two p → ∃ u, o = some u ∧ atl u p
theorem longest_of {one two : List Int} {o : Option (List Int)} (hl : ∀ c ∈ one, c ∈ letters) (h : BestOf one two (fun _ _ => True) o) : Longest one two o := by
  constructor
  · intro u hu
    obtain ⟨i, j, a, _, h1, h2, e⟩ := h.some_ u hu
    obtain ⟨w, w0, w1, w2, w3⟩ := lf_sound one two _ i j a (Nat.le_refl _) h1 h2
    rw [e, w0]
    exact ⟨w1, fun q => (by cases q), w2.trans (List.drop_sublist _ _), w3.trans (List.drop_sublist _ _)⟩
  · rintro p ⟨h1, h2, h3, h4⟩
    cases p with
    | nil => exact absurd rfl h2
    | cons a w =>
      obtain ⟨i, e1, t1⟩ := nxt_of_sub (f := 0) (xs := one) (by rw [List.drop_zero]; exact h3)
      obtain ⟨j, e2, t2⟩ := nxt_of_sub (f := 0) (xs := two) (by rw [List.drop_zero]; exact h4)
      have a1 := (nxt_some e1).2.2.1
      have a2 := (nxt_some e2).2.2.1
      obtain ⟨u, hu, hb⟩ := h.all i j a trivial a1 a2
      exact ⟨u, hu, atl_trans hb (lf_best one two hl w a i j a1 h1 t1 t2)⟩
theorem Longest.uniq {one two : List Int} {o o' : Option (List Int)} (h : Longest one two o) (h' : Longest one two o') : o = o' := by
  cases o with
  | none =>
    cases o' with
    | none => rfl
    | some v =>
      obtain ⟨u, hu, _⟩ := h.best v (h'.com v rfl)
      cases hu
  | some u =>
    obtain ⟨v, hv, b1⟩ := h'.best u (h.com u rfl)
    subst hv
    obtain ⟨u2, hu2, b2⟩ := h.best v (h'.com v rfl)
    have := Option.some.inj hu2
    subst this
    rw [atl_anti b2 b1]

/-! ### the law's own: all pieces of one word -/
def pcStep (ps : List (List Int)) (c : Int) : List (List Int) :=
  ps ++ (ps.filter fun p => decide (p.length = 0) || decide (p.getLast? ≠ some c)).map fun p => p ++ [c]
def pieces (w : List Int) : List (List Int) := w.foldl pcStep [[]]

theorem pieces_snoc (w : List Int) (c : Int) : pieces (w ++ [c]) = pcStep (pieces w) c := by
  unfold pieces
  rw [List.foldl_append]
  rfl

theorem isW_snoc {p : List Int} {c : Int} : isW (p ++ [c]) ↔ isW p ∧ p.getLast? ≠ some c := by
  constructor
  · intro h
    induction p with
    | nil => exact ⟨trivial, fun q => by cases q⟩
    | cons x p ih =>
      cases p with
      | nil => exact ⟨trivial, fun q => h.1 (Option.some.inj q)⟩
      | cons y p =>
        have := ih h.2
        exact ⟨⟨h.1, this.1⟩, by rw [List.getLast?_cons_cons]; exact this.2⟩
  · rintro ⟨h1, h2⟩
    induction p with
    | nil => trivial
    | cons x p ih =>
      cases p with
      | nil => exact ⟨fun e => h2 (by rw [e]; rfl), trivial⟩
      | cons y p =>
        rw [List.getLast?_cons_cons] at h2
        exact ⟨h1.1, ih h1.2 h2⟩

theorem snoc_ind {α : Type} {P : List α → Prop} (h0 : P []) (hs : ∀ l c, P l → P (l ++ [c])) (l : List α) : P l := by
  have : ∀ m : List α, P m.reverse := by
    intro m
    induction m with
    | nil => exact h0
    | cons x m ih =>
      rw [List.reverse_cons]
      exact hs _ _ ih
  have := this l.reverse
  rwa [List.reverse_reverse] at this

theorem sub_snoc {p w : List Int} {c : Int} : p.Sublist (w ++ [c]) ↔ p.Sublist w ∨ ∃ q, p = q ++ [c] ∧ q.Sublist w := by
  rw [List.sublist_append_iff]
  constructor
  · rintro ⟨l1, l2, rfl, h1, h2⟩
    cases h2 with
    | cons _ h2 =>
      cases h2
      left
      rw [List.append_nil]
      exact h1
    | cons_cons _ h2 =>
      cases h2
      exact .inr ⟨l1, rfl, h1⟩
  · rintro (h | ⟨q, rfl, h⟩)
    · exact ⟨p, [], by rw [List.append_nil], h, List.nil_sublist _⟩
    · exact ⟨q, [c], rfl, h, List.Sublist.refl _⟩

theorem mem_pieces (w : List Int) : ∀ p, p ∈ pieces w ↔ isW p ∧ p.Sublist w := by
  induction w using snoc_ind with
  | h0 =>
    intro p
    show p ∈ [[]] ↔ _
    rw [List.mem_singleton, List.sublist_nil]
    exact ⟨fun e => ⟨by rw [e]; trivial, e⟩, fun h => h.2⟩
  | hs w c ih =>
    intro p
    rw [pieces_snoc, pcStep, List.mem_append, ih, List.mem_map, sub_snoc]
    constructor
    · rintro (⟨h1, h2⟩ | ⟨q, hq, rfl⟩)
      · exact ⟨h1, .inl h2⟩
      · rw [List.mem_filter, ih] at hq
        refine ⟨isW_snoc.mpr ⟨hq.1.1, ?_⟩, .inr ⟨q, rfl, hq.1.2⟩⟩
        have hq2 := hq.2
        rw [Bool.or_eq_true, decide_eq_true_iff, decide_eq_true_iff] at hq2
        rcases hq2 with h | h
        · rw [List.eq_nil_of_length_eq_zero h]
          intro z
          cases z
        · exact h
    · rintro ⟨h1, h2 | ⟨q, rfl, h2⟩⟩
      · exact .inl ⟨h1, h2⟩
      · obtain ⟨w1, w2⟩ := isW_snoc.mp h1
        refine .inr ⟨q, ?_, rfl⟩
        rw [List.mem_filter, ih]
        exact ⟨⟨w1, h2⟩, by rw [Bool.or_eq_true, decide_eq_true_iff, decide_eq_true_iff]; exact .inr w2⟩

theorem pieces_length : ∀ w : List Int, (pieces w).length ≤ 2 ^ w.length := by
  intro w
  induction w using snoc_ind with
  | h0 => exact Nat.le_refl _
  | hs w c ih =>
    rw [pieces_snoc, pcStep, List.length_append, List.length_map, List.length_append]
    have := List.length_filter_le (fun p : List Int => decide (p.length = 0) || decide (p.getLast? ≠ some c)) (pieces w)
    show _ ≤ 2 ^ (w.length + 1)
    rw [Nat.pow_succ]
    omega

/-- the good ones, and the least by (-length, word) -/
def goodP (other w : List Int) : List (List Int) := (pieces w).filter fun p => decide (p.length > 0) && thinL other p
theorem mem_goodP {other w p : List Int} : p ∈ goodP other w ↔ Com w other p := by
  unfold goodP Com
  rw [List.mem_filter, mem_pieces, Bool.and_eq_true, decide_eq_true_iff, thinL_eq, thin_iff]
  constructor
  · rintro ⟨⟨h1, h2⟩, h3, h4⟩
    rw [wd_of_isW h1] at h4
    exact ⟨h1, fun e => by rw [e] at h3; exact Nat.lt_irrefl _ h3, h2, h4⟩
  · rintro ⟨h1, h2, h3, h4⟩
    exact ⟨⟨h1, h3⟩, List.length_pos_iff.mpr h2, by rw [wd_of_isW h1]; exact h4⟩

/-- x < y of the pairs (-length, word) -/
def ltP (x y : Int × List Int) : Bool := if x.1 = y.1 then ltL x.2 y.2 else decide (x.1 < y.1)
theorem longest_law {row other : List Int} {m : List Int} (hm : m ∈ goodP other (wd row)) (hle : ∀ p ∈ goodP other (wd row), ltP (-(p.length : Int), p) (-(m.length : Int), m) = false) :
    Longest (wd row) (wd other) (some m) := by
  have q : ∀ p, Com (wd row) (wd other) p ↔ Com (wd row) other p := fun p =>
    ⟨fun ⟨h1, h2, h3, h4⟩ => ⟨h1, h2, h3, (sub_wd_iff h1).mp h4⟩, fun ⟨h1, h2, h3, h4⟩ => ⟨h1, h2, h3, (sub_wd_iff h1).mpr h4⟩⟩
  refine ⟨fun u hu => ?_, fun p hp => ⟨m, rfl, ?_⟩⟩
  · rw [← Option.some.inj hu]
    exact (q m).mpr (mem_goodP.mp hm)
  · have := hle p (mem_goodP.mpr ((q p).mp hp))
    unfold ltP at this
    by_cases e : (-(p.length : Int)) = (-(m.length : Int))
    · rw [if_pos e] at this
      exact .inr ⟨by omega, this⟩
    · rw [if_neg e] at this
      have := of_decide_eq_false this
      exact .inl (by omega)
theorem longest_law_none {row other : List Int} (h : goodP other (wd row) = []) : Longest (wd row) (wd other) none := by
  refine ⟨fun u hu => (by cases hu), fun p ⟨h1, h2, h3, h4⟩ => ?_⟩
  have : p ∈ goodP other (wd row) := mem_goodP.mpr ⟨h1, h2, h3, (sub_wd_iff h1).mp h4⟩
  rw [h] at this
  cases this
end Fl
end

section
set_option autoImplicit false
set_option linter.all false
/-! Plain laws, part 3: the shortest word over two. -/
namespace Fl

def stl (u v : List Int) : Prop := u.length < v.length ∨ (u.length = v.length ∧ leL u v)
theorem stl_refl (u : List Int) : stl u u := .inr ⟨rfl, leL_refl u⟩
theorem stl_anti {u v : List Int} (h1 : stl u v) (h2 : stl v u) : u = v := by
  rcases h1 with h1 | ⟨h1, l1⟩ <;> rcases h2 with h2 | ⟨h2, l2⟩
  · omega
  · omega
  · omega
  · exact leL_anti l1 l2
theorem stl_trans {u v w : List Int} (h1 : stl u v) (h2 : stl v w) : stl u w := by
  rcases h1 with h1 | ⟨h1, l1⟩ <;> rcases h2 with h2 | ⟨h2, l2⟩
  · exact .inl (by omega)
  · exact .inl (by omega)
  · exact .inl (by omega)
  · exact .inr ⟨by omega, leL_trans l1 l2⟩
theorem stl_cons (a : Int) {u v : List Int} (h : stl u v) : stl (a :: u) (a :: v) := by
  rcases h with h | ⟨h, l⟩
  · exact .inl (by simp only [List.length_cons]; omega)
  · exact .inr ⟨by simp only [List.length_cons]; omega, leL_cons a l⟩
theorem stl_len {u v : List Int} (h : stl u v) : u.length ≤ v.length := by
  rcases h with h | ⟨h, _⟩ <;> omega
theorem stl_of_ltP {u v : List Int} (h : ltP ((v.length : Int), v) ((u.length : Int), u) = false) : stl u v := by
  unfold ltP at h
  by_cases e : (v.length : Int) = (u.length : Int)
  · rw [if_pos e] at h
    exact .inr ⟨by omega, h⟩
  · rw [if_neg e] at h
    have := of_decide_eq_false h
    exact .inl (by omega)

/-- the shorter of two, the lesser of two as short -/
def shr (u v : List Int) : List Int := if u.length < v.length ∨ (u.length = v.length ∧ ltL v u = false) then u else v
theorem shr_cases (u v : List Int) : (shr u v = u ∧ stl u v) ∨ (shr u v = v ∧ stl v u) := by
  unfold shr
  by_cases h : u.length < v.length ∨ (u.length = v.length ∧ ltL v u = false)
  · rw [if_pos h]
    exact .inl ⟨rfl, h⟩
  · rw [if_neg h]
    refine .inr ⟨rfl, ?_⟩
    rcases Nat.lt_trichotomy u.length v.length with q | q | q
    · exact absurd (.inl q) h
    · cases e : ltL v u with
      | false => exact absurd (.inr ⟨q, e⟩) h
      | true => exact .inr ⟨q.symm, ltL_asym e⟩
    · exact .inl q
theorem shr_left (u v : List Int) : stl (shr u v) u := by
  rcases shr_cases u v with ⟨h1, h2⟩ | ⟨h1, h2⟩ <;> rw [h1]
  · exact stl_refl u
  · exact h2
theorem shr_right (u v : List Int) : stl (shr u v) v := by
  rcases shr_cases u v with ⟨h1, h2⟩ | ⟨h1, h2⟩ <;> rw [h1]
  · exact h2
  · exact stl_refl v
/-- whoever is one of both and not above the other -/
theorem shr_of {u v m : List Int} (hm : m = u ∨ m = v) (h1 : ltP ((u.length : Int), u) ((m.length : Int), m) = false) (h2 : ltP ((v.length : Int), v) ((m.length : Int), m) = false) : m = shr u v := by
  have a1 := stl_of_ltP h1
  have a2 := stl_of_ltP h2
  rcases shr_cases u v with ⟨e, _⟩ | ⟨e, _⟩
  · rw [e]
    refine stl_anti a1 ?_
    rcases hm with rfl | rfl
    · exact stl_refl _
    · rw [← e]
      exact shr_right u m
  · rw [e]
    refine stl_anti a2 ?_
    rcases hm with rfl | rfl
    · rw [← e]
      exact shr_left m v
    · exact stl_refl _

def sb : List Int → List Int → List Int
  | [], y => y
  | a :: x, [] => a :: x
  | a :: x, b :: y => if a = b then a :: sb x y else shr (a :: sb x (b :: y)) (b :: sb (a :: x) y)
termination_by x y => x.length + y.length

theorem sb_nil (y : List Int) : sb [] y = y := by rw [sb]
theorem sb_nil2 (x : List Int) : sb x [] = x := by
  cases x with
  | nil => rw [sb]
  | cons a x => rw [sb]
theorem sb_eq {a b : Int} (x y : List Int) (h : a = b) : sb (a :: x) (b :: y) = a :: sb x y := by rw [sb, if_pos h]
theorem sb_ne {a b : Int} (x y : List Int) (h : a ≠ b) : sb (a :: x) (b :: y) = shr (a :: sb x (b :: y)) (b :: sb (a :: x) y) := by rw [sb, if_neg h]

def SS (x y s : List Int) : Prop := x.Sublist s ∧ y.Sublist s

theorem sb_SS : ∀ (k : Nat) (x y : List Int), x.length + y.length ≤ k → SS x y (sb x y)
  | _, [], y, _ => by
    rw [sb_nil]
    exact ⟨List.nil_sublist _, List.Sublist.refl _⟩
  | _, a :: x, [], _ => by
    rw [sb_nil2]
    exact ⟨List.Sublist.refl _, List.nil_sublist _⟩
  | 0, a :: x, b :: y, h => by simp at h
  | k + 1, a :: x, b :: y, h => by
    simp only [List.length_cons] at h
    by_cases e : a = b
    · subst e
      rw [sb_eq x y rfl]
      have := sb_SS k x y (by omega)
      exact ⟨this.1.cons_cons a, this.2.cons_cons a⟩
    · rw [sb_ne x y e]
      rcases shr_cases (a :: sb x (b :: y)) (b :: sb (a :: x) y) with ⟨q, _⟩ | ⟨q, _⟩
      · rw [q]
        have := sb_SS k x (b :: y) (by simp only [List.length_cons]; omega)
        exact ⟨this.1.cons_cons a, this.2.cons a⟩
      · rw [q]
        have := sb_SS k (a :: x) y (by simp only [List.length_cons]; omega)
        exact ⟨this.1.cons b, this.2.cons_cons b⟩

theorem sub_cons_ne {a c : Int} {x s : List Int} (h : (a :: x).Sublist (c :: s)) (e : c ≠ a) : (a :: x).Sublist s := by
  cases h with
  | cons _ h => exact h
  | cons_cons _ h => exact absurd rfl e
theorem sub_cons_tail {a c : Int} {x s : List Int} (h : (a :: x).Sublist (c :: s)) : x.Sublist s := by
  cases h with
  | cons _ h => exact (List.sublist_cons_self a x).trans h
  | cons_cons _ h => exact h

theorem sb_best : ∀ (s x y : List Int), SS x y s → stl (sb x y) s
  | s, [], y, h => by
    rw [sb_nil]
    rcases Nat.lt_or_ge y.length s.length with q | q
    · exact .inl q
    · rw [h.2.eq_of_length_le q]
      exact stl_refl s
  | s, a :: x, [], h => by
    rw [sb_nil2]
    rcases Nat.lt_or_ge (a :: x).length s.length with q | q
    · exact .inl q
    · rw [h.1.eq_of_length_le q]
      exact stl_refl s
  | [], a :: x, b :: y, h => by
    have := h.1.length_le
    simp at this
  | c :: s, a :: x, b :: y, h => by
    by_cases e : a = b
    · subst e
      by_cases ec : c = a
      · subst ec
        rw [sb_eq x y rfl]
        exact stl_cons c (sb_best s x y ⟨sub_cons_tail h.1, sub_cons_tail h.2⟩)
      · have := stl_len (sb_best s (a :: x) (a :: y) ⟨sub_cons_ne h.1 ec, sub_cons_ne h.2 ec⟩)
        exact .inl (by simp only [List.length_cons]; omega)
    · by_cases ec : c = a
      · subst ec
        rw [sb_ne x y e]
        exact stl_trans (shr_left _ _) (stl_cons c (sb_best s x (b :: y) ⟨sub_cons_tail h.1, sub_cons_ne h.2 e⟩))
      · by_cases ed : c = b
        · subst ed
          rw [sb_ne x y e]
          exact stl_trans (shr_right _ _) (stl_cons c (sb_best s (a :: x) y ⟨sub_cons_ne h.1 ec, sub_cons_tail h.2⟩))
        · have := stl_len (sb_best s (a :: x) (b :: y) ⟨sub_cons_ne h.1 ec, sub_cons_ne h.2 ed⟩)
          exact .inl (by simp only [List.length_cons]; omega)

theorem sb_head {a b : Int} (x y : List Int) : ∃ c r, sb (a :: x) (b :: y) = c :: r ∧ (c = a ∨ c = b) := by
  by_cases e : a = b
  · exact ⟨a, _, sb_eq x y e, .inl rfl⟩
  · rw [sb_ne x y e]
    rcases shr_cases (a :: sb x (b :: y)) (b :: sb (a :: x) y) with ⟨q, _⟩ | ⟨q, _⟩
    · exact ⟨a, _, q, .inl rfl⟩
    · exact ⟨b, _, q, .inr rfl⟩

theorem sb_headP {p : Int → Prop} : ∀ {x y : List Int}, (∀ z t, x = z :: t → p z) → (∀ z t, y = z :: t → p z) → ∀ z t, sb x y = z :: t → p z
  | [], y, _, h2, z, t, h => h2 z t (by rw [← h, sb_nil])
  | a :: x, [], h1, _, z, t, h => h1 z t (by rw [← h, sb_nil2])
  | a :: x, b :: y, h1, h2, z, t, h => by
    obtain ⟨c, r, e, hc⟩ := sb_head (a := a) (b := b) x y
    rw [e] at h
    injection h with e1 _
    rcases hc with hc | hc
    · exact h1 z x (by rw [← e1, hc])
    · exact h2 z y (by rw [← e1, hc])

theorem isW_ne {a : Int} {x : List Int} (h : isW (a :: x)) : ∀ z t, x = z :: t → a ≠ z := by
  intro z t e
  subst e
  exact h.1

theorem sb_isW : ∀ (k : Nat) (x y : List Int), x.length + y.length ≤ k → isW x → isW y → isW (sb x y)
  | _, [], y, _, _, h => by
    rw [sb_nil]
    exact h
  | _, a :: x, [], _, h, _ => by
    rw [sb_nil2]
    exact h
  | 0, a :: x, b :: y, h, _, _ => by simp at h
  | k + 1, a :: x, b :: y, h, h1, h2 => by
    simp only [List.length_cons] at h
    by_cases e : a = b
    · subst e
      rw [sb_eq x y rfl]
      refine isW_cons (sb_isW k x y (by omega) (isW_tail h1) (isW_tail h2)) ?_
      exact sb_headP (p := fun z => a ≠ z) (isW_ne h1) (isW_ne h2)
    · rw [sb_ne x y e]
      rcases shr_cases (a :: sb x (b :: y)) (b :: sb (a :: x) y) with ⟨q, _⟩ | ⟨q, _⟩
      · rw [q]
        refine isW_cons (sb_isW k x (b :: y) (by simp only [List.length_cons]; omega) (isW_tail h1) h2) ?_
        refine sb_headP (p := fun z => a ≠ z) (isW_ne h1) fun z t q => ?_
        injection q with q _
        rw [← q]
        exact e
      · rw [q]
        refine isW_cons (sb_isW k (a :: x) y (by simp only [List.length_cons]; omega) h1 (isW_tail h2)) ?_
        refine sb_headP (p := fun z => b ≠ z) (fun z t q => ?_) (isW_ne h2)
        injection q with q _
        rw [← q]
        exact Ne.symm e

theorem sb_mem {x y : List Int} {p : Int → Prop} : ∀ (k : Nat) (x y : List Int), x.length + y.length ≤ k → (∀ c ∈ x, p c) → (∀ c ∈ y, p c) → ∀ c ∈ sb x y, p c
  | _, [], y, _, _, h => by
    rw [sb_nil]
    exact h
  | _, a :: x, [], _, h, _ => by
    rw [sb_nil2]
    exact h
  | 0, a :: x, b :: y, h, _, _ => by simp at h
  | k + 1, a :: x, b :: y, h, h1, h2 => by
    simp only [List.length_cons] at h
    have h1' : ∀ c ∈ x, p c := fun c hc => h1 c (List.mem_cons_of_mem _ hc)
    have h2' : ∀ c ∈ y, p c := fun c hc => h2 c (List.mem_cons_of_mem _ hc)
    have ha := h1 a (List.mem_cons_self ..)
    have hb := h2 b (List.mem_cons_self ..)
    intro c hc
    by_cases e : a = b
    · rw [sb_eq x y e] at hc
      cases hc with
      | head => exact ha
      | tail _ hc => exact sb_mem (x := x) (y := y) k x y (by omega) h1' h2' c hc
    · rw [sb_ne x y e] at hc
      rcases shr_cases (a :: sb x (b :: y)) (b :: sb (a :: x) y) with ⟨q, _⟩ | ⟨q, _⟩
      · rw [q] at hc
        cases hc with
        | head => exact ha
        | tail _ hc => exact sb_mem (x := x) (y := y) k x (b :: y) (by simp only [List.length_cons]; omega) h1' h2 c hc
      · rw [q] at hc
        cases hc with
        | head => exact hb
        | tail _ hc => exact sb_mem (x := x) (y := y) k (a :: x) y (by simp only [List.length_cons]; omega) h1 h2' c hc

theorem sb_len_le (x y : List Int) : (sb x y).length ≤ x.length + y.length := by
  have := stl_len (sb_best (x ++ y) x y ⟨List.sublist_append_left _ _, List.sublist_append_right _ _⟩)
  rw [List.length_append] at this
  exact this

/-! ### the law's own: all ways to put both words together -/
inductive Mg (one two : List Int) : Nat → Nat → List Int → Prop
  | nil : Mg one two 0 0 []
  | both {i j : Nat} {u : List Int} {a : Int} : Mg one two i j u → one[i]? = some a → two[j]? = some a → Mg one two (i + 1) (j + 1) (u ++ [a])
  | left {i j : Nat} {u : List Int} {a : Int} : Mg one two i j u → one[i]? = some a → Mg one two (i + 1) j (u ++ [a])
  | right {i j : Nat} {u : List Int} {a : Int} : Mg one two i j u → two[j]? = some a → Mg one two i (j + 1) (u ++ [a])

theorem take_at {α : Type} {l : List α} {i : Nat} {a : α} (h : l[i]? = some a) : l.take (i + 1) = l.take i ++ [a] := by
  rw [List.take_add_one, h]
  rfl

theorem Mg.ss {one two : List Int} {i j : Nat} {u : List Int} (m : Mg one two i j u) : (one.take i).Sublist u ∧ (two.take j).Sublist u := by
  induction m with
  | nil => exact ⟨List.Sublist.refl _, List.Sublist.refl _⟩
  | both m h1 h2 ih =>
    rw [take_at h1, take_at h2]
    exact ⟨ih.1.append (List.Sublist.refl _), ih.2.append (List.Sublist.refl _)⟩
  | left m h1 ih =>
    rw [take_at h1]
    exact ⟨ih.1.append (List.Sublist.refl _), ih.2.trans (List.sublist_append_left _ _)⟩
  | right m h1 ih =>
    rw [take_at h1]
    exact ⟨ih.1.trans (List.sublist_append_left _ _), ih.2.append (List.Sublist.refl _)⟩

theorem Mg.le {one two : List Int} {i j : Nat} {u : List Int} (m : Mg one two i j u) : i ≤ one.length ∧ j ≤ two.length ∧ u.length ≤ i + j := by
  induction m with
  | nil => exact ⟨Nat.zero_le _, Nat.zero_le _, Nat.le_refl _⟩
  | both m h1 h2 ih =>
    have a1 := (List.getElem?_eq_some_iff.mp h1).1
    have a2 := (List.getElem?_eq_some_iff.mp h2).1
    rw [List.length_append, List.length_singleton]
    omega
  | left m h1 ih =>
    have a1 := (List.getElem?_eq_some_iff.mp h1).1
    rw [List.length_append, List.length_singleton]
    omega
  | right m h1 ih =>
    have a1 := (List.getElem?_eq_some_iff.mp h1).1
    rw [List.length_append, List.length_singleton]
    omega

theorem Mg.letters {one two : List Int} {i j : Nat} {u : List Int} (m : Mg one two i j u) (p : Int → Prop) (h1 : ∀ c ∈ one, p c) (h2 : ∀ c ∈ two, p c) : ∀ c ∈ u, p c := by
  induction m with
  | nil =>
    intro c hc
    cases hc
  | both m q1 q2 ih =>
    intro c hc
    rcases List.mem_append.mp hc with hc | hc
    · exact ih c hc
    · rw [List.mem_singleton.mp hc]
      exact h1 _ (List.mem_of_getElem? q1)
  | left m q1 ih =>
    intro c hc
    rcases List.mem_append.mp hc with hc | hc
    · exact ih c hc
    · rw [List.mem_singleton.mp hc]
      exact h1 _ (List.mem_of_getElem? q1)
  | right m q1 ih =>
    intro c hc
    rcases List.mem_append.mp hc with hc | hc
    · exact ih c hc
    · rw [List.mem_singleton.mp hc]
      exact h2 _ (List.mem_of_getElem? q1)

theorem drop_cons_at {one : List Int} {i : Nat} {a : Int} {x : List Int} (h : one.drop i = a :: x) : one[i]? = some a ∧ one.drop (i + 1) = x := by
  have h1 : i < one.length := by
    rcases Nat.lt_or_ge i one.length with q | q
    · exact q
    · rw [List.drop_eq_nil_of_le q] at h
      cases h
  rw [List.drop_eq_getElem_cons h1] at h
  injection h with e1 e2
  exact ⟨by rw [List.getElem?_eq_getElem h1, e1], e2⟩

theorem Mg.sb {one two : List Int} : ∀ (k : Nat) (x y : List Int) (i j : Nat) (u : List Int), x.length + y.length ≤ k → one.drop i = x → two.drop j = y → Mg one two i j u → Mg one two one.length two.length (u ++ Fl.sb x y)
  | _, [], [], i, j, u, _, h1, h2, m => by
    have a1 := m.le
    have e1 : i = one.length := by
      have := congrArg List.length h1
      rw [List.length_drop] at this
      simp only [List.length_nil] at this
      omega
    have e2 : j = two.length := by
      have := congrArg List.length h2
      rw [List.length_drop] at this
      simp only [List.length_nil] at this
      omega
    rw [sb_nil, List.append_nil, ← e1, ← e2]
    exact m
  | 0, [], b :: y, i, j, u, h, _, _, _ => by simp at h
  | 0, a :: x, y, i, j, u, h, _, _, _ => by simp at h
  | k + 1, [], b :: y, i, j, u, h, h1, h2, m => by
    simp only [List.length_cons] at h
    obtain ⟨q1, q2⟩ := drop_cons_at h2
    have := Mg.sb k [] y i (j + 1) (u ++ [b]) (by omega) h1 q2 (m.right q1)
    rw [sb_nil] at this ⊢
    rw [List.append_assoc] at this
    exact this
  | k + 1, a :: x, [], i, j, u, h, h1, h2, m => by
    simp only [List.length_cons] at h
    obtain ⟨q1, q2⟩ := drop_cons_at h1
    have := Mg.sb k x [] (i + 1) j (u ++ [a]) (by simp only [List.length_nil] at *; omega) q2 h2 (m.left q1)
    rw [sb_nil2] at this ⊢
    rw [List.append_assoc] at this
    exact this
  | k + 1, a :: x, b :: y, i, j, u, h, h1, h2, m => by
    simp only [List.length_cons] at h
    obtain ⟨p1, p2⟩ := drop_cons_at h1
    obtain ⟨q1, q2⟩ := drop_cons_at h2
    by_cases e : a = b
    · subst e
      rw [sb_eq x y rfl]
      have := Mg.sb k x y (i + 1) (j + 1) (u ++ [a]) (by omega) p2 q2 (m.both p1 q1)
      rw [List.append_assoc] at this
      exact this
    · rw [sb_ne x y e]
      rcases shr_cases (a :: Fl.sb x (b :: y)) (b :: Fl.sb (a :: x) y) with ⟨q, _⟩ | ⟨q, _⟩
      · rw [q]
        have := Mg.sb k x (b :: y) (i + 1) j (u ++ [a]) (by simp only [List.length_cons]; omega) p2 h2 (m.left p1)
        rw [List.append_assoc] at this
        exact this
      · rw [q]
        have := Mg.sb k (a :: x) y i (j + 1) (u ++ [b]) (by simp only [List.length_cons]; omega) h1 q2 (m.right q1)
        rw [List.append_assoc] at this
        exact this

/-! ### the law's lists by pairs of places -/
abbrev FF := Nat → Nat → List (List Int)
def keepF (F : FF) (i j : Nat) (u : List Int) : FF := fun x y => if x = i ∧ y = j then (if u ∈ F i j then F i j else F i j ++ [u]) else F x y
/-- one word made so far is led on in up to three ways -/
def procU (one two : List Int) (i j : Nat) (F : FF) (u : List Int) : FF :=
  let F1 := match one[i]?, two[j]? with
    | some a, some b => if a = b then keepF F (i + 1) (j + 1) (u ++ [a]) else F
    | _, _ => F
  let F2 := match one[i]? with
    | some a => keepF F1 (i + 1) j (u ++ [a])
    | none => F1
  match two[j]? with
    | some b => keepF F2 i (j + 1) (u ++ [b])
    | none => F2
def procP (one two : List Int) (F : FF) (i j : Nat) : FF := (F i j).foldl (procU one two i j) F
def procK (one two : List Int) (F : FF) (k : Nat) : FF := (List.range (min k one.length + 1)).foldl (fun F a => procP one two F a (k - a)) F
def F0 : FF := fun x y => if x = 0 ∧ y = 0 then [[]] else []
def procA (one two : List Int) (n : Nat) : FF := (List.range n).foldl (procK one two) F0

structure GoodF (one two : List Int) (F : FF) : Prop where
  sound : ∀ i j u, u ∈ F i j → Mg one two i j u
  base : [] ∈ F 0 0
  nodup : ∀ i j, (F i j).Nodup
/-- from F to G: nothing lost, nothing changed up to the level k -/
structure LeF (k : Nat) (F G : FF) : Prop where
  mono : ∀ i j u, u ∈ F i j → u ∈ G i j
  same : ∀ i j, i + j ≤ k → G i j = F i j
theorem LeF.refl (k : Nat) (F : FF) : LeF k F F := ⟨fun _ _ _ h => h, fun _ _ _ => rfl⟩
theorem LeF.trans {k : Nat} {F G I : FF} (a : LeF k F G) (b : LeF k G I) : LeF k F I :=
  ⟨fun i j u h => b.mono i j u (a.mono i j u h), fun i j h => (b.same i j h).trans (a.same i j h)⟩

theorem nodup_snoc {α : Type} {l : List α} {u : α} (h : l.Nodup) (hu : u ∉ l) : (l ++ [u]).Nodup := by
  rw [List.nodup_append]
  refine ⟨h, (by simp), fun a ha b hb e => ?_⟩
  rw [List.mem_singleton.mp hb] at e
  rw [e] at ha
  exact hu ha

theorem keepF_good {one two : List Int} {F : FF} {i j : Nat} {u : List Int} (g : GoodF one two F) (m : Mg one two i j u) : GoodF one two (keepF F i j u) := by
  constructor
  · intro x y v hv
    unfold keepF at hv
    by_cases e : x = i ∧ y = j
    · rw [if_pos e] at hv
      obtain ⟨rfl, rfl⟩ := e
      by_cases hu : u ∈ F x y
      · rw [if_pos hu] at hv
        exact g.sound _ _ _ hv
      · rw [if_neg hu] at hv
        rcases List.mem_append.mp hv with hv | hv
        · exact g.sound _ _ _ hv
        · rw [List.mem_singleton.mp hv]
          exact m
    · rw [if_neg e] at hv
      exact g.sound _ _ _ hv
  · unfold keepF
    by_cases e : (0 : Nat) = i ∧ (0 : Nat) = j
    · rw [if_pos e]
      obtain ⟨rfl, rfl⟩ := e
      by_cases hu : u ∈ F 0 0
      · rw [if_pos hu]
        exact g.base
      · rw [if_neg hu]
        exact List.mem_append.mpr (.inl g.base)
    · rw [if_neg e]
      exact g.base
  · intro x y
    unfold keepF
    by_cases e : x = i ∧ y = j
    · rw [if_pos e]
      by_cases hu : u ∈ F i j
      · rw [if_pos hu]
        exact g.nodup _ _
      · rw [if_neg hu]
        exact nodup_snoc (g.nodup _ _) hu
    · rw [if_neg e]
      exact g.nodup _ _
theorem keepF_le {F : FF} {i j k : Nat} {u : List Int} (h : k < i + j) : LeF k F (keepF F i j u) := by
  constructor
  · intro x y v hv
    unfold keepF
    by_cases e : x = i ∧ y = j
    · rw [if_pos e]
      obtain ⟨rfl, rfl⟩ := e
      by_cases hu : u ∈ F x y
      · rw [if_pos hu]
        exact hv
      · rw [if_neg hu]
        exact List.mem_append.mpr (.inl hv)
    · rw [if_neg e]
      exact hv
  · intro x y hxy
    unfold keepF
    rw [if_neg (by rintro ⟨rfl, rfl⟩; omega)]
theorem keepF_mem (F : FF) (i j : Nat) (u : List Int) : u ∈ keepF F i j u i j := by
  unfold keepF
  rw [if_pos ⟨rfl, rfl⟩]
  by_cases hu : u ∈ F i j
  · rw [if_pos hu]
    exact hu
  · rw [if_neg hu]
    exact List.mem_append.mpr (.inr (List.mem_singleton.mpr rfl))

/-- the ways on from u at (i, j) are there -/
structure Onw (one two : List Int) (F : FF) (i j : Nat) (u : List Int) : Prop where
  both : ∀ a, one[i]? = some a → two[j]? = some a → u ++ [a] ∈ F (i + 1) (j + 1)
  left : ∀ a, one[i]? = some a → u ++ [a] ∈ F (i + 1) j
  right : ∀ a, two[j]? = some a → u ++ [a] ∈ F i (j + 1)
theorem Onw.mono {one two : List Int} {k : Nat} {F G : FF} {i j : Nat} {u : List Int} (o : Onw one two F i j u) (l : LeF k F G) : Onw one two G i j u :=
  ⟨fun a h1 h2 => l.mono _ _ _ (o.both a h1 h2), fun a h => l.mono _ _ _ (o.left a h), fun a h => l.mono _ _ _ (o.right a h)⟩

theorem procU_ok {one two : List Int} {F : FF} {i j : Nat} {u : List Int} (g : GoodF one two F) (m : Mg one two i j u) :
    GoodF one two (procU one two i j F u) ∧ LeF (i + j) F (procU one two i j F u) ∧ Onw one two (procU one two i j F u) i j u := by
  cases e1 : one[i]? with
  | none =>
    cases e2 : two[j]? with
    | none =>
      have hp : procU one two i j F u = F := by
        unfold procU
        rw [e1, e2]
      rw [hp]
      exact ⟨g, LeF.refl _ _, ⟨fun a h => (by rw [e1] at h; cases h), fun a h => (by rw [e1] at h; cases h), fun a h => (by rw [e2] at h; cases h)⟩⟩
    | some b =>
      have hp : procU one two i j F u = keepF F i (j + 1) (u ++ [b]) := by
        unfold procU
        rw [e1, e2]
      rw [hp]
      refine ⟨keepF_good g (m.right e2), keepF_le (by omega), ⟨fun a h => (by rw [e1] at h; cases h), fun a h => (by rw [e1] at h; cases h), fun a h => ?_⟩⟩
      have := Option.some.inj (e2.symm.trans h)
      subst this
      exact keepF_mem _ _ _ _
  | some a =>
    cases e2 : two[j]? with
    | none =>
      have hp : procU one two i j F u = keepF F (i + 1) j (u ++ [a]) := by
        unfold procU
        rw [e1, e2]
      rw [hp]
      refine ⟨keepF_good g (m.left e1), keepF_le (by omega), ⟨fun a h h2 => (by rw [e2] at h2; cases h2), fun c h => ?_, fun a h => (by rw [e2] at h; cases h)⟩⟩
      have := Option.some.inj (e1.symm.trans h)
      subst this
      exact keepF_mem _ _ _ _
    | some b =>
      have hl : ∀ c, one[i]? = some c → a = c := fun c h => Option.some.inj (e1.symm.trans h)
      have hr : ∀ c, two[j]? = some c → b = c := fun c h => Option.some.inj (e2.symm.trans h)
      by_cases e : a = b
      · subst e
        have hp : procU one two i j F u = keepF (keepF (keepF F (i + 1) (j + 1) (u ++ [a])) (i + 1) j (u ++ [a])) i (j + 1) (u ++ [a]) := by
          unfold procU
          rw [e1, e2]
          show keepF (keepF (if a = a then keepF F (i + 1) (j + 1) (u ++ [a]) else F) (i + 1) j (u ++ [a])) i (j + 1) (u ++ [a]) = _
          rw [if_pos rfl]
        rw [hp]
        have l1 : LeF (i + j) F (keepF F (i + 1) (j + 1) (u ++ [a])) := keepF_le (by omega)
        have l2 : LeF (i + j) (keepF F (i + 1) (j + 1) (u ++ [a])) (keepF (keepF F (i + 1) (j + 1) (u ++ [a])) (i + 1) j (u ++ [a])) := keepF_le (by omega)
        have l3 : LeF (i + j) (keepF (keepF F (i + 1) (j + 1) (u ++ [a])) (i + 1) j (u ++ [a])) (keepF (keepF (keepF F (i + 1) (j + 1) (u ++ [a])) (i + 1) j (u ++ [a])) i (j + 1) (u ++ [a])) := keepF_le (by omega)
        refine ⟨keepF_good (keepF_good (keepF_good g (m.both e1 e2)) (m.left e1)) (m.right e2), l1.trans (l2.trans l3), ⟨fun c h _ => ?_, fun c h => ?_, fun c h => ?_⟩⟩
        · rw [← hl c h]
          exact l3.mono _ _ _ (l2.mono _ _ _ (keepF_mem _ _ _ _))
        · rw [← hl c h]
          exact l3.mono _ _ _ (keepF_mem _ _ _ _)
        · rw [← hr c h]
          exact keepF_mem _ _ _ _
      · have hp : procU one two i j F u = keepF (keepF F (i + 1) j (u ++ [a])) i (j + 1) (u ++ [b]) := by
          unfold procU
          rw [e1, e2]
          show keepF (keepF (if a = b then keepF F (i + 1) (j + 1) (u ++ [a]) else F) (i + 1) j (u ++ [a])) i (j + 1) (u ++ [b]) = _
          rw [if_neg e]
        rw [hp]
        have l2 : LeF (i + j) F (keepF F (i + 1) j (u ++ [a])) := keepF_le (by omega)
        have l3 : LeF (i + j) (keepF F (i + 1) j (u ++ [a])) (keepF (keepF F (i + 1) j (u ++ [a])) i (j + 1) (u ++ [b])) := keepF_le (by omega)
        refine ⟨keepF_good (keepF_good g (m.left e1)) (m.right e2), l2.trans l3, ⟨fun c h h2 => ?_, fun c h => ?_, fun c h => ?_⟩⟩
        · exact absurd ((hl c h).trans (hr c h2).symm) e
        · rw [← hl c h]
          exact l3.mono _ _ _ (keepF_mem _ _ _ _)
        · rw [← hr c h]
          exact keepF_mem _ _ _ _

theorem procUs_ok {one two : List Int} {i j : Nat} : ∀ (l : List (List Int)) (F : FF), GoodF one two F → (∀ u ∈ l, Mg one two i j u) →
    GoodF one two (l.foldl (procU one two i j) F) ∧ LeF (i + j) F (l.foldl (procU one two i j) F) ∧ ∀ u ∈ l, Onw one two (l.foldl (procU one two i j) F) i j u
  | [], F, g, _ => ⟨g, LeF.refl _ _, fun u h => by cases h⟩
  | u :: l, F, g, h => by
    obtain ⟨a1, a2, a3⟩ := procU_ok g (h u (List.mem_cons_self ..))
    obtain ⟨b1, b2, b3⟩ := procUs_ok l (procU one two i j F u) a1 fun v hv => h v (List.mem_cons_of_mem _ hv)
    refine ⟨b1, a2.trans b2, fun v hv => ?_⟩
    cases hv with
    | head => exact a3.mono b2
    | tail _ hv => exact b3 v hv

theorem procP_ok {one two : List Int} {F : FF} (g : GoodF one two F) (i j : Nat) : GoodF one two (procP one two F i j) ∧ LeF (i + j) F (procP one two F i j) ∧ ∀ u ∈ F i j, Onw one two (procP one two F i j) i j u :=
  procUs_ok (F i j) F g fun u hu => g.sound i j u hu

theorem procPs_ok {one two : List Int} {k : Nat} : ∀ (l : List Nat) (F : FF), (∀ a ∈ l, a ≤ k) → GoodF one two F →
    GoodF one two (l.foldl (fun F a => procP one two F a (k - a)) F) ∧ LeF k F (l.foldl (fun F a => procP one two F a (k - a)) F) ∧
      ∀ a ∈ l, ∀ u ∈ F a (k - a), Onw one two (l.foldl (fun F a => procP one two F a (k - a)) F) a (k - a) u
  | [], F, _, g => ⟨g, LeF.refl _ _, fun a h => by cases h⟩
  | a :: l, F, hl, g => by
    have ha := hl a (List.mem_cons_self ..)
    obtain ⟨a1, a2, a3⟩ := procP_ok g a (k - a)
    rw [show a + (k - a) = k by omega] at a2
    obtain ⟨b1, b2, b3⟩ := procPs_ok l (procP one two F a (k - a)) (fun b hb => hl b (List.mem_cons_of_mem _ hb)) a1
    refine ⟨b1, a2.trans b2, fun b hb u hu => ?_⟩
    cases hb with
    | head => exact (a3 u hu).mono b2
    | tail _ hb =>
      have := hl b (List.mem_cons_of_mem _ hb)
      exact b3 b hb u (by rw [a2.same b (k - b) (by omega)]; exact hu)

theorem procK_ok {one two : List Int} {F : FF} (g : GoodF one two F) (k : Nat) : GoodF one two (procK one two F k) ∧ LeF k F (procK one two F k) ∧ ∀ i j, i + j = k → ∀ u ∈ F i j, Onw one two (procK one two F k) i j u := by
  obtain ⟨a1, a2, a3⟩ := procPs_ok (k := k) (List.range (min k one.length + 1)) F (fun a ha => by rw [List.mem_range] at ha; omega) g
  refine ⟨a1, a2, fun i j e u hu => ?_⟩
  have h1 := (g.sound i j u hu).le.1
  have := a3 i (by rw [List.mem_range]; omega) u (by rw [show k - i = j by omega]; exact hu)
  rw [show k - i = j by omega] at this
  exact this

theorem F0_good (one two : List Int) : GoodF one two F0 := by
  constructor
  · intro i j u hu
    unfold F0 at hu
    by_cases e : i = 0 ∧ j = 0
    · rw [if_pos e] at hu
      rw [List.mem_singleton.mp hu, e.1, e.2]
      exact .nil
    · rw [if_neg e] at hu
      cases hu
  · exact List.mem_singleton.mpr rfl
  · intro i j
    unfold F0
    by_cases e : i = 0 ∧ j = 0
    · rw [if_pos e]
      simp
    · rw [if_neg e]
      exact List.nodup_nil

theorem procA_succ (one two : List Int) (n : Nat) : procA one two (n + 1) = procK one two (procA one two n) n := by
  unfold procA
  rw [List.range_succ, List.foldl_append]
  rfl

theorem procA_ok (one two : List Int) : ∀ n, GoodF one two (procA one two n) ∧ ∀ i j, i + j < n → ∀ u ∈ procA one two n i j, Onw one two (procA one two n) i j u
  | 0 => ⟨F0_good one two, fun i j h => by omega⟩
  | n + 1 => by
    obtain ⟨g, h⟩ := procA_ok one two n
    obtain ⟨a1, a2, a3⟩ := procK_ok g n
    rw [procA_succ]
    refine ⟨a1, fun i j hij u hu => ?_⟩
    rw [a2.same i j (by omega)] at hu
    rcases Nat.lt_or_ge (i + j) n with q | q
    · exact (h i j q u hu).mono a2
    · exact a3 i j (by omega) u hu

theorem procA_all {one two : List Int} {i j : Nat} {u : List Int} (m : Mg one two i j u) : u ∈ procA one two (one.length + two.length) i j := by
  have h := procA_ok one two (one.length + two.length)
  induction m with
  | nil => exact h.1.base
  | both m h1 h2 ih =>
    have a1 := (List.getElem?_eq_some_iff.mp h1).1
    have a2 := (List.getElem?_eq_some_iff.mp h2).1
    exact (h.2 _ _ (by omega) _ ih).both _ h1 h2
  | left m h1 ih =>
    have a1 := (List.getElem?_eq_some_iff.mp h1).1
    have a2 := m.le.2.1
    exact (h.2 _ _ (by omega) _ ih).left _ h1
  | right m h1 ih =>
    have a1 := (List.getElem?_eq_some_iff.mp h1).1
    have a2 := m.le.1
    exact (h.2 _ _ (by omega) _ ih).right _ h1

/-- THE LAW of shortest_over -/
theorem shortest_law {one two m : List Int} (hm : m ∈ procA one two (one.length + two.length) one.length two.length)
    (hle : ∀ p ∈ procA one two (one.length + two.length) one.length two.length, ltP ((p.length : Int), p) ((m.length : Int), m) = false) : m = sb one two := by
  have h := (procA_ok one two (one.length + two.length)).1.sound _ _ _ hm
  have hs := h.ss
  rw [List.take_length, List.take_length] at hs
  have a := sb_best m one two hs
  have hb : sb one two ∈ procA one two (one.length + two.length) one.length two.length := by
    have := Mg.sb (one := one) (two := two) _ one two 0 0 [] (Nat.le_refl _) rfl rfl .nil
    rw [List.nil_append] at this
    exact procA_all this
  exact stl_anti (stl_of_ltP (hle _ hb)) a
theorem shortest_any (one two : List Int) : procA one two (one.length + two.length) one.length two.length ≠ [] := by
  have := Mg.sb (one := one) (two := two) _ one two 0 0 [] (Nat.le_refl _) rfl rfl .nil
  intro e
  have h := procA_all this
  rw [e] at h
  cases h

/-! ### how many there can be -/
theorem nodup_le {α : Type} [DecidableEq α] : ∀ {l m : List α}, l.Nodup → (∀ x ∈ l, x ∈ m) → l.length ≤ m.length
  | [], _, _, _ => Nat.zero_le _
  | x :: l, m, h, hs => by
    have h' := List.nodup_cons.mp h
    have hx := hs x (List.mem_cons_self ..)
    have ih := nodup_le (l := l) (m := m.erase x) h'.2 fun y hy => by
      have hne : y ≠ x := fun e => h'.1 (by rw [← e]; exact hy)
      exact (List.mem_erase_of_ne hne).mpr (hs y (List.mem_cons_of_mem _ hy))
    rw [List.length_erase_of_mem hx] at ih
    have := List.length_pos_of_mem hx
    simp only [List.length_cons]
    omega
theorem mem_allRows {S : List Int} : ∀ {u : List Int}, (∀ c ∈ u, c ∈ S) → u ∈ allRows S u.length
  | [], _ => List.mem_singleton.mpr rfl
  | c :: u, h => List.mem_flatMap.mpr ⟨c, h c (List.mem_cons_self ..), List.mem_map.mpr ⟨u, mem_allRows fun d hd => h d (List.mem_cons_of_mem _ hd), rfl⟩⟩
theorem allRows_length : ∀ n, (allRows letters n).length = 4 ^ n
  | 0 => rfl
  | n + 1 => by
    show (letters.flatMap _).length = _
    rw [List.length_flatMap]
    show ([(List.map _ (allRows letters n)).length, (List.map _ (allRows letters n)).length, (List.map _ (allRows letters n)).length, (List.map _ (allRows letters n)).length] : List Nat).sum = _
    rw [List.length_map, List.length_map, List.length_map, List.length_map, allRows_length n, Nat.pow_succ]
    simp only [List.sum_cons, List.sum_nil]
    omega
def upTo : Nat → List (List Int)
  | 0 => allRows letters 0
  | n + 1 => upTo n ++ allRows letters (n + 1)
theorem mem_upTo {u : List Int} : ∀ {n : Nat}, u.length ≤ n → (∀ c ∈ u, c ∈ letters) → u ∈ upTo n
  | 0, h, hc => by
    have : u = [] := List.eq_nil_of_length_eq_zero (by omega)
    rw [this]
    exact List.mem_singleton.mpr rfl
  | n + 1, h, hc => by
    refine List.mem_append.mpr ?_
    rcases Nat.lt_or_ge n u.length with q | q
    · right
      have := mem_allRows hc
      rw [show u.length = n + 1 by omega] at this
      exact this
    · exact .inl (mem_upTo q hc)
theorem upTo_length : ∀ n, (upTo n).length ≤ 2 * 4 ^ n
  | 0 => by decide
  | n + 1 => by
    show (upTo n ++ _).length ≤ _
    rw [List.length_append, allRows_length, Nat.pow_succ]
    have := upTo_length n
    omega
theorem GoodF.few {one two : List Int} {F : FF} (g : GoodF one two F) (h1 : ∀ c ∈ one, c ∈ letters) (h2 : ∀ c ∈ two, c ∈ letters) (i j : Nat) : (F i j).length ≤ 2 * 4 ^ (one.length + two.length) := by
  refine Nat.le_trans (nodup_le (g.nodup i j) fun u hu => ?_) (upTo_length (one.length + two.length))
  have m := g.sound i j u hu
  have := m.le
  exact mem_upTo (by omega) (m.letters (fun c => c ∈ letters) h1 h2)
end Fl
end

section
set_option autoImplicit false
set_option linter.all false
/-! Plain laws, part 4: the law's own sums; the great rows. -/
namespace Fl

/-! ### the length of the shortest over two, by sums -/
def ovL (one two : List Int) (i j : Nat) : Nat := (sb (one.take i).reverse (two.take j).reverse).length
theorem rev_take {l : List Int} {i : Nat} {a : Int} (h : l[i]? = some a) : (l.take (i + 1)).reverse = a :: (l.take i).reverse := by
  rw [take_at h, List.reverse_append]
  rfl
theorem ovL_zero (one two : List Int) (j : Nat) (h : j ≤ two.length) : ovL one two 0 j = j := by
  unfold ovL
  rw [List.take_zero, List.reverse_nil, sb_nil, List.length_reverse, List.length_take, Nat.min_eq_left h]
theorem ovL_zero2 (one two : List Int) (i : Nat) (h : i ≤ one.length) : ovL one two i 0 = i := by
  unfold ovL
  rw [List.take_zero, List.reverse_nil, sb_nil2, List.length_reverse, List.length_take, Nat.min_eq_left h]
theorem ovL_eq {one two : List Int} {i j : Nat} {a b : Int} (h1 : one[i]? = some a) (h2 : two[j]? = some b) (e : a = b) : ovL one two (i + 1) (j + 1) = ovL one two i j + 1 := by
  unfold ovL
  rw [rev_take h1, rev_take h2, sb_eq _ _ e]
  rfl
theorem ovL_ne {one two : List Int} {i j : Nat} {a b : Int} (h1 : one[i]? = some a) (h2 : two[j]? = some b) (e : a ≠ b) :
    ovL one two (i + 1) (j + 1) = min (ovL one two i (j + 1)) (ovL one two (i + 1) j) + 1 := by
  unfold ovL
  rw [rev_take h1, rev_take h2, sb_ne _ _ e]
  rcases shr_cases (a :: sb (one.take i).reverse (b :: (two.take j).reverse)) (b :: sb (a :: (one.take i).reverse) (two.take j).reverse) with ⟨q, r⟩ | ⟨q, r⟩
  all_goals
    rw [q]
    have := stl_len r
    simp only [List.length_cons] at this ⊢
    omega
theorem SS_rev {x y s : List Int} : SS x.reverse y.reverse s.reverse ↔ SS x y s := by
  unfold SS
  rw [List.reverse_sublist, List.reverse_sublist]
theorem ovL_end (one two : List Int) : ovL one two one.length two.length = (sb one two).length := by
  unfold ovL
  rw [List.take_length, List.take_length]
  refine Nat.le_antisymm ?_ ?_
  · have := stl_len (sb_best (sb one two).reverse one.reverse two.reverse (SS_rev.mpr (sb_SS _ one two (Nat.le_refl _))))
    rw [List.length_reverse] at this
    exact this
  · have h := sb_SS _ one.reverse two.reverse (Nat.le_refl _)
    rw [← List.reverse_reverse (sb one.reverse two.reverse), SS_rev] at h
    have := stl_len (sb_best _ one two h)
    rw [List.length_reverse] at this
    exact this

/-! ### the length of the longest common word, by sums -/
abbrev TB := Nat → Nat → Nat
/-- the greatest of the other letters -/
def mx (b : TB) (t x : Nat) : Nat := ((List.range 4).filter fun a => decide (a ≠ x)).foldl (fun m a => max m (b t a)) 0
def updT (b : TB) (x t l : Nat) : TB := fun u c => if t ≤ u ∧ c = x then max (b u c) l else b u c
def stepT (two : List Int) (x : Int) (b : TB) (t : Nat) : TB := if two[t]? = some x then updT b x.toNat (t + 1) (1 + mx b t x.toNat) else b
/-- the first n places, from behind -/
def downT (two : List Int) (x : Int) : Nat → TB → TB
  | 0, b => b
  | n + 1, b => downT two x n (stepT two x b n)
def stepX (two : List Int) (b : TB) (x : Int) : TB := downT two x two.length b
def tabT (one two : List Int) : TB := one.foldl (stepX two) fun _ _ => 0

theorem foldl_max_le {f : Nat → Nat} : ∀ (l : List Nat) (m : Nat), m ≤ l.foldl (fun m a => max m (f a)) m
  | [], m => Nat.le_refl _
  | a :: l, m => Nat.le_trans (Nat.le_max_left _ _) (foldl_max_le l (max m (f a)))
theorem foldl_max_mem {f : Nat → Nat} : ∀ (l : List Nat) (m : Nat), ∀ a ∈ l, f a ≤ l.foldl (fun m a => max m (f a)) m
  | b :: l, m, a, h => by
    cases h with
    | head => exact Nat.le_trans (Nat.le_max_right _ _) (foldl_max_le l _)
    | tail _ h => exact foldl_max_mem l _ a h
theorem foldl_max_of {f : Nat → Nat} : ∀ (l : List Nat) (m : Nat), l.foldl (fun m a => max m (f a)) m = m ∨ ∃ a ∈ l, l.foldl (fun m a => max m (f a)) m = f a
  | [], m => .inl rfl
  | b :: l, m => by
    rcases foldl_max_of (f := f) l (max m (f b)) with h | ⟨a, ha, h⟩
    · show l.foldl _ (max m (f b)) = m ∨ _
      rcases Nat.le_total m (f b) with q | q
      · exact .inr ⟨b, List.mem_cons_self .., by rw [List.foldl_cons, h, Nat.max_eq_right q]⟩
      · rw [h, Nat.max_eq_left q]
        exact .inl rfl
    · exact .inr ⟨a, List.mem_cons_of_mem _ ha, h⟩
theorem mx_ge (b : TB) (t x : Nat) {a : Nat} (ha : a < 4) (h : a ≠ x) : b t a ≤ mx b t x :=
  foldl_max_mem _ _ a (List.mem_filter.mpr ⟨List.mem_range.mpr ha, decide_eq_true h⟩)
theorem mx_of (b : TB) (t x : Nat) : mx b t x = 0 ∨ ∃ a, a < 4 ∧ a ≠ x ∧ mx b t x = b t a := by
  rcases foldl_max_of (f := b t) ((List.range 4).filter fun a => decide (a ≠ x)) 0 with h | ⟨a, ha, h⟩
  · exact .inl h
  · rw [List.mem_filter, List.mem_range, decide_eq_true_iff] at ha
    exact .inr ⟨a, ha.1, ha.2, h⟩
theorem mx_congr {b b' : TB} {t x : Nat} (h : ∀ a, a ≠ x → b t a = b' t a) : mx b t x = mx b' t x := by
  unfold mx
  have : ∀ (l : List Nat) (m : Nat), (∀ a ∈ l, a ≠ x) → l.foldl (fun m a => max m (b t a)) m = l.foldl (fun m a => max m (b' t a)) m := by
    intro l
    induction l with
    | nil => exact fun _ _ => rfl
    | cons a l ih =>
      intro m hl
      rw [List.foldl_cons, List.foldl_cons, h a (hl a (List.mem_cons_self ..))]
      exact ih _ fun c hc => hl c (List.mem_cons_of_mem _ hc)
  exact this _ _ fun a ha => of_decide_eq_true (List.mem_filter.mp ha).2

/-- what stands behind the places from n on -/
structure MidT (two : List Int) (x : Int) (b : TB) (n : Nat) (b' : TB) : Prop where
  oth : ∀ u c, c ≠ x.toNat → b' u c = b u c
  low : ∀ u, u ≤ n → b' u x.toNat = b u x.toNat
  ge : ∀ u, b u x.toNat ≤ b' u x.toNat
  get : ∀ u t, n ≤ t → t < u → two[t]? = some x → 1 + mx b t x.toNat ≤ b' u x.toNat
  of_ : ∀ u, b' u x.toNat = b u x.toNat ∨ ∃ t, n ≤ t ∧ t < u ∧ two[t]? = some x ∧ b' u x.toNat = 1 + mx b t x.toNat

theorem MidT.step {two : List Int} {x : Int} {b b' : TB} {n : Nat} (m : MidT two x b (n + 1) b') : MidT two x b n (stepT two x b' n) := by
  unfold stepT
  by_cases h : two[n]? = some x
  · rw [if_pos h]
    have em : mx b' n x.toNat = mx b n x.toNat := mx_congr fun a ha => m.oth n a ha
    rw [em]
    constructor
    · intro u c hc
      unfold updT
      rw [if_neg fun q => hc q.2]
      exact m.oth u c hc
    · intro u hu
      unfold updT
      rw [if_neg fun q => by omega]
      exact m.low u (by omega)
    · intro u
      unfold updT
      by_cases q : n + 1 ≤ u ∧ x.toNat = x.toNat
      · rw [if_pos q]
        have := m.ge u
        omega
      · rw [if_neg q]
        exact m.ge u
    · intro u t h1 h2 h3
      unfold updT
      rw [if_pos ⟨by omega, rfl⟩]
      rcases Nat.lt_or_ge n t with q | q
      · have := m.get u t q h2 h3
        omega
      · have : t = n := by omega
        subst this
        omega
    · intro u
      unfold updT
      by_cases q : n + 1 ≤ u ∧ x.toNat = x.toNat
      · rw [if_pos q]
        rcases Nat.le_total (b' u x.toNat) (1 + mx b n x.toNat) with r | r
        · exact .inr ⟨n, Nat.le_refl _, by omega, h, by omega⟩
        · rcases m.of_ u with z | ⟨t, t1, t2, t3, t4⟩
          · exact .inl (by omega)
          · exact .inr ⟨t, by omega, t2, t3, by omega⟩
      · rw [if_neg q]
        rcases m.of_ u with z | ⟨t, t1, t2, t3, t4⟩
        · exact .inl z
        · exact .inr ⟨t, by omega, t2, t3, t4⟩
  · rw [if_neg h]
    refine ⟨m.oth, fun u hu => m.low u (by omega), m.ge, fun u t h1 h2 h3 => ?_, fun u => ?_⟩
    · rcases Nat.lt_or_ge n t with q | q
      · exact m.get u t q h2 h3
      · have : t = n := by omega
        subst this
        exact absurd h3 h
    · rcases m.of_ u with z | ⟨t, t1, t2, t3, t4⟩
      · exact .inl z
      · exact .inr ⟨t, by omega, t2, t3, t4⟩

theorem MidT.down {two : List Int} {x : Int} {b : TB} : ∀ (n : Nat) (b' : TB), MidT two x b n b' → MidT two x b 0 (downT two x n b')
  | 0, b', m => m
  | n + 1, b', m => MidT.down n _ m.step

theorem stepX_mid (two : List Int) (x : Int) (b : TB) : MidT two x b 0 (stepX two b x) := by
  refine MidT.down two.length b ⟨fun _ _ _ => rfl, fun _ _ => rfl, fun _ => Nat.le_refl _, fun u t h1 _ h3 => ?_, fun _ => .inl rfl⟩
  have := (List.getElem?_eq_some_iff.mp h3).1
  omega

/-- the common words of two beginnings, by their last letter -/
def WT (one two : List Int) (c : Int) (w : List Int) : Prop := isW w ∧ w.getLast? = some c ∧ w.Sublist one ∧ w.Sublist two
structure GoodT (one two : List Int) (b : TB) : Prop where
  of_ : ∀ (u c : Nat), c < 4 → b u c = 0 ∨ ∃ w, WT one (two.take u) (c : Int) w ∧ w.length = b u c
  all : ∀ (u c : Nat) (w : List Int), c < 4 → WT one (two.take u) (c : Int) w → w.length ≤ b u c

theorem last_snoc {w : List Int} {c : Int} (h : w.getLast? = some c) : ∃ q, w = q ++ [c] := by
  have hne : w ≠ [] := fun e => by rw [e] at h; cases h
  refine ⟨w.dropLast, ?_⟩
  have e := List.dropLast_concat_getLast hne
  have h2 := List.getLast?_eq_some_getLast hne
  rw [h] at h2
  rw [Option.some.inj h2]
  exact e.symm

theorem snoc_in_take {two q : List Int} {c : Int} : ∀ (u : Nat), (q ++ [c]).Sublist (two.take u) → ∃ t, t < u ∧ two[t]? = some c ∧ q.Sublist (two.take t)
  | 0, h => by
    have := h.length_le
    rw [List.take_zero, List.length_append] at this
    simp at this
  | u + 1, h => by
    cases e : two[u]? with
    | none =>
      rw [List.take_add_one, e] at h
      simp only [Option.toList_none, List.append_nil] at h
      obtain ⟨t, h1, h2⟩ := snoc_in_take u h
      exact ⟨t, by omega, h2⟩
    | some d =>
      rw [take_at e] at h
      rcases sub_snoc.mp h with h | ⟨q', h1, h2⟩
      · obtain ⟨t, h1, h2⟩ := snoc_in_take u h
        exact ⟨t, by omega, h2⟩
      · have e2 := List.append_inj' h1 rfl
        obtain ⟨e3, e4⟩ := e2
        injection e4 with e4
        subst e3 e4
        exact ⟨u, by omega, e, h2⟩

theorem take_sub {l : List Int} {t u : Nat} (h : t ≤ u) : (l.take t).Sublist (l.take u) := by
  rw [show t = min t u by omega, ← List.take_take]
  exact List.take_sublist _ _

theorem GoodT.step {one two : List Int} {b : TB} {x : Int} (g : GoodT one two b) (h0 : 0 ≤ x) (h4 : x < 4) (hl : ∀ c ∈ two, 0 ≤ c ∧ c < 4) : GoodT (one ++ [x]) two (stepX two b x) := by
  have m := stepX_mid two x b
  have ex : ((x.toNat : Nat) : Int) = x := by omega
  constructor
  · intro u c hc
    by_cases e : c = x.toNat
    · subst e
      rcases m.of_ u with z | ⟨t, t1, t2, t3, t4⟩
      · rw [z]
        rcases g.of_ u x.toNat (by omega) with q | ⟨w, ⟨w1, w2, w3, w4⟩, hw⟩
        · exact .inl q
        · exact .inr ⟨w, ⟨w1, w2, w3.trans (List.sublist_append_left _ _), w4⟩, hw⟩
      · right
        rw [t4, ex]
        rcases mx_of b t x.toNat with q | ⟨a, a1, a2, a3⟩
        · rw [q]
          refine ⟨[x], ⟨trivial, rfl, List.sublist_append_right _ _, ?_⟩, rfl⟩
          refine List.Sublist.trans ?_ (take_sub (show t + 1 ≤ u by omega))
          rw [take_at t3]
          exact List.sublist_append_right _ _
        · rw [a3]
          rcases g.of_ t a a1 with z | ⟨w, ⟨w1, w2, w3, w4⟩, hw⟩
          · rw [z]
            refine ⟨[x], ⟨trivial, rfl, List.sublist_append_right _ _, ?_⟩, rfl⟩
            refine List.Sublist.trans ?_ (take_sub (show t + 1 ≤ u by omega))
            rw [take_at t3]
            exact List.sublist_append_right _ _
          · refine ⟨w ++ [x], ⟨isW_snoc.mpr ⟨w1, ?_⟩, ?_, ?_, ?_⟩, ?_⟩
            · rw [w2]
              intro q
              have := Option.some.inj q
              omega
            · rw [List.getLast?_append]
              rfl
            · exact w3.append (List.Sublist.refl _)
            · refine List.Sublist.trans ?_ (take_sub (show t + 1 ≤ u by omega))
              rw [take_at t3]
              exact w4.append (List.Sublist.refl _)
            · rw [List.length_append, hw]
              simp only [List.length_cons, List.length_nil]
              omega
    · rw [m.oth u c e]
      rcases g.of_ u c hc with q | ⟨w, ⟨w1, w2, w3, w4⟩, hw⟩
      · exact .inl q
      · exact .inr ⟨w, ⟨w1, w2, w3.trans (List.sublist_append_left _ _), w4⟩, hw⟩
  · rintro u c w hc ⟨w1, w2, w3, w4⟩
    obtain ⟨q, rfl⟩ := last_snoc w2
    by_cases e : c = x.toNat
    · subst e
      rw [ex] at *
      obtain ⟨v1, v2⟩ := isW_snoc.mp w1
      have hq : q.Sublist one := by
        rcases sub_snoc.mp w3 with h | ⟨q', h1, h2⟩
        · exact (List.sublist_append_left _ _).trans h
        · obtain ⟨e3, _⟩ := List.append_inj' h1 rfl
          rw [e3]
          exact h2
      obtain ⟨t, t1, t2, t3⟩ := snoc_in_take u w4
      have h1 := m.get u t (Nat.zero_le _) t1 t2
      rw [List.length_append, List.length_singleton]
      cases hq0 : q.getLast? with
      | none =>
        have : q = [] := List.getLast?_eq_none_iff.mp hq0
        rw [this]
        simp only [List.length_nil]
        omega
      | some d =>
        have hd : 0 ≤ d ∧ d < 4 := hl d (List.mem_of_mem_take (t3.subset (List.mem_of_getLast? hq0)))
        have ed : ((d.toNat : Nat) : Int) = d := by omega
        have h2 := g.all t d.toNat q (by omega) ⟨v1, by rw [ed]; exact hq0, hq, t3⟩
        have h3 := mx_ge b t x.toNat (a := d.toNat) (by omega) (by
          intro z
          rw [hq0] at v2
          exact v2 (congrArg some (by omega)))
        omega
    · rw [m.oth u c e]
      refine g.all u c _ hc ⟨w1, w2, ?_, w4⟩
      rcases sub_snoc.mp w3 with h | ⟨q', h1, h2⟩
      · exact h
      · obtain ⟨_, e4⟩ := List.append_inj' h1 rfl
        injection e4 with e4
        omega

theorem tabT_snoc (one two : List Int) (x : Int) : tabT (one ++ [x]) two = stepX two (tabT one two) x := by
  unfold tabT
  rw [List.foldl_append]
  rfl
theorem tabT_good (two : List Int) (hl : ∀ c ∈ two, 0 ≤ c ∧ c < 4) (one : List Int) : (∀ c ∈ one, 0 ≤ c ∧ c < 4) → GoodT one two (tabT one two) := by
  induction one using snoc_ind with
  | h0 =>
    intro _
    refine ⟨fun u c _ => .inl rfl, fun u c w _ ⟨_, w2, w3, _⟩ => ?_⟩
    rw [List.sublist_nil.mp w3] at w2
    cases w2
  | hs one x ih =>
    intro h
    rw [tabT_snoc]
    have hx := h x (List.mem_append.mpr (.inr (List.mem_singleton.mpr rfl)))
    exact (ih fun c hc => h c (List.mem_append.mpr (.inl hc))).step hx.1 hx.2 hl

/-- THE LAW of the length: M the greatest of the last row -/
theorem longest_len {one two : List Int} {o : Option (List Int)} {M : Nat} (h : Longest one two o) (h1 : ∀ c ∈ one, 0 ≤ c ∧ c < 4) (h2 : ∀ c ∈ two, 0 ≤ c ∧ c < 4)
    (hM : ∃ c, c < 4 ∧ M = tabT one two two.length c) (hle : ∀ c, c < 4 → tabT one two two.length c ≤ M) :
    (o = none → M = 0) ∧ ∀ u, o = some u → u.length = M ∧ 0 < M := by
  have g := tabT_good two h2 one h1
  have sound : 0 < M → ∃ p, Com one two p ∧ p.length = M := by
    intro hp
    obtain ⟨c, hc, e⟩ := hM
    rcases g.of_ two.length c hc with q | ⟨w, ⟨w1, w2, w3, w4⟩, hw⟩
    · omega
    · rw [List.take_length] at w4
      exact ⟨w, ⟨w1, fun z => (by rw [z] at w2; cases w2), w3, w4⟩, by omega⟩
  have all : ∀ p, Com one two p → p.length ≤ M := by
    rintro p ⟨p1, p2, p3, p4⟩
    cases hp : p.getLast? with
    | none => exact absurd (List.getLast?_eq_none_iff.mp hp) p2
    | some d =>
      have hd := h1 d (p3.subset (List.mem_of_getLast? hp))
      have ed : ((d.toNat : Nat) : Int) = d := by omega
      have := g.all two.length d.toNat p (by omega) ⟨p1, by rw [ed]; exact hp, p3, by rw [List.take_length]; exact p4⟩
      have := hle d.toNat (by omega)
      omega
  constructor
  · intro e
    subst e
    rcases Nat.eq_zero_or_pos M with q | q
    · exact q
    · obtain ⟨p, hp, _⟩ := sound q
      obtain ⟨u, hu, _⟩ := h.best p hp
      cases hu
  · intro u e
    subst e
    have a1 := all u (h.com u rfl)
    have a2 := List.length_pos_iff.mpr (h.com u rfl).2.1
    obtain ⟨p, hp, ep⟩ := sound (by omega)
    obtain ⟨v, hv, b⟩ := h.best p hp
    have := Option.some.inj hv
    subst this
    have := atl_len b
    omega

/-! ### the great rows -/
def great (n : Nat) : List Int := ((List.replicate 20 ([0, 1, 2, 3] : List Int)).flatten).take n
def nearB (xs : List Int) (n : Nat) : Bool := (List.range n).all fun p => letters.all fun c => match nxt xs p c with
  | some p' => decide (p' ≤ p + 3)
  | none => false
theorem near_of {xs : List Int} {n : Nat} (h : nearB xs n = true) {p : Nat} (hp : p < n) {c : Int} (hc : c ∈ letters) : ∃ p', nxt xs p c = some p' ∧ p' ≤ p + 3 := by
  have h1 := List.all_eq_true.mp (List.all_eq_true.mp h p (List.mem_range.mpr hp)) c hc
  cases e : nxt xs p c with
  | none =>
    rw [e] at h1
    cases h1
  | some p' =>
    rw [e] at h1
    exact ⟨p', rfl, of_decide_eq_true h1⟩
theorem cnt_all {one two : List Int} {N : Nat} (h1 : nearB one N = true) (h2 : nearB two N = true) : ∀ (n p q : Nat), p + 3 * n ≤ N → q + 3 * n ≤ N → (n = 0 ∨ (p < N ∧ q < N)) → 4 ^ n ≤ cnt one two n p q
  | 0, p, q, _, _, _ => Nat.le_refl _
  | n + 1, p, q, hp, hq, _ => by
    rw [cnt_succ]
    have hg : ∀ c ∈ letters, ∃ p' q', nxt one p c = some p' ∧ nxt two q c = some q' ∧ 4 ^ n ≤ cnt one two n p' q' := by
      intro c hc
      obtain ⟨p', e1, l1⟩ := near_of h1 (p := p) (by omega) hc
      obtain ⟨q', e2, l2⟩ := near_of h2 (p := q) (by omega) hc
      refine ⟨p', q', e1, e2, cnt_all h1 h2 n p' q' (by omega) (by omega) ?_⟩
      rcases Nat.eq_zero_or_pos n with z | z
      · exact .inl z
      · exact .inr ⟨by omega, by omega⟩
    obtain ⟨p0, q0, a0, b0, c0⟩ := hg 0 (by decide)
    obtain ⟨p1, q1, a1, b1, c1⟩ := hg 1 (by decide)
    obtain ⟨p2, q2, a2, b2, c2⟩ := hg 2 (by decide)
    obtain ⟨p3, q3, a3, b3, c3⟩ := hg 3 (by decide)
    have e : gon one two p q = [(0, p0, q0), (1, p1, q1), (2, p2, q2), (3, p3, q3)] := by
      unfold gon letters
      simp only [List.filterMap_cons, List.filterMap_nil, a0, b0, a1, b1, a2, b2, a3, b3]
    rw [e]
    simp only [List.map_cons, List.map_nil, List.sum_cons, List.sum_nil, Nat.pow_succ]
    omega
theorem great_near : nearB (great 60) 57 = true ∧ nearB (great 60).reverse 57 = true ∧ nearB (great 61) 57 = true ∧ nearB (great 61).reverse 57 = true := by decide +kernel
theorem great_word : wd (great 60) = great 60 ∧ wd (great 60).reverse = (great 60).reverse ∧ wd (great 61) = great 61 ∧ wd (great 61).reverse = (great 61).reverse := by decide +kernel
theorem great_many : 4096 < cnt (great 60) (great 60).reverse 12 0 0 ∧ 4096 < cnt (great 61) (great 61).reverse 12 0 0 := by
  have h1 := cnt_all great_near.1 great_near.2.1 12 0 0 (by omega) (by omega) (.inr ⟨by omega, by omega⟩)
  have h2 := cnt_all great_near.2.2.1 great_near.2.2.2 12 0 0 (by omega) (by omega) (.inr ⟨by omega, by omega⟩)
  have e : (4096 : Nat) < 4 ^ 12 := by decide
  exact ⟨Nat.lt_of_lt_of_le e h1, Nat.lt_of_lt_of_le e h2⟩
end Fl
end

section
set_option Elab.async false
set_option linter.all false
set_option maxRecDepth 100000
set_option maxHeartbeats 4000000
/-! Own rules, part 1: names, calls, data at places. -/
namespace Fl
open PySem PySem.Spec PyProof.Rows L2

/-! ### a def that is known by its name -/
structure Kn (P : Program) (w : World) (K : PySem.W.Frag) (mg : Str → Option Value) (base : Heap) (CX : CXT) (k : Nat) (x : Str) (ps : List Str) (sp : Sp) (f : Addr) (fd : FuncData) : Prop where
  ok : FnOk P w K mg base CX k f fd ps sp
  nm : mg x = some (.ref f)
  kp : PySem.W.keepIn K (.ref f) = true
  bd : Binds K fd ps []

section
variable {X : Cx} {CX : CXT} {k j : Nat} {f : Addr} {fd : FuncData} {ps : List Str} {sp : Sp} {E : XK} {x : Str} {p pos : Pos} {e : Expr} {es : List Expr} {t : TA}
/-- a call of it -/
theorem pk (C : Kn X.prog X.w X.K X.mg X.base CX k x ps sp f fd) (hr : Room j X.A) (hj : k ≤ j) (hx : Passes CX X E) (ha : PA X (e :: es) t) (hg : Gl X x := by rfl)
    (hdb : (x == ("__debug__" : Str)) = false := by decide) (he : starEach (e :: es) X.env = (false, eval e X.env) :: starEach es X.env := by rfl)
    (hpl : (backTo pos (starEach es X.env)).any (·.1) = false := by rfl) : PE X (.Call (.Name x p) (e :: es) [] pos) (tCall sp [] E t) :=
  pe_call C.ok (hr.mono hj) hg C.nm C.kp C.bd .nil hx ha hdb he hpl
end

/-- a module's whole number -/
def GInt (mg : Str → Option Value) (x : Str) (i : Int) : Prop := ∃ t, mg x = some (.int i t)
theorem pgi {X : Cx} {x : Str} {i : Int} {pos : Pos} (h : GInt X.mg x i) (hg : Gl X x := by rfl) (hd : (x == ("__debug__" : Str)) = false := by decide) : PE X (.Name x pos) (tC (.int i)) :=
  ⟨fun pins s σ H Q I q => by
    obtain ⟨t, ht⟩ := h
    exact (pe_glob (v := .int i) hg ht ⟨t, rfl⟩ hd).run pins s σ H Q I q⟩
/-- a built-in class as a value -/
theorem pty {X : Cx} {x : Str} {n : String} {pos : Pos} (hm : X.mg x = none) (hv : bootBuiltins x = some (.type n)) (hg : Gl X x := by rfl) (hn : x ≠ "__name__" := by decide) (hd : (x == ("__debug__" : Str)) = false := by decide) :
    PE X (.Name x pos) (tC (.ty n)) := pe_bltn hg hm hv rfl hn hd

/-! ### rules whose reading names the written part: told with K (within a comprehension's block) -/
section
variable (K : PySem.W.Frag) {X : Cx} (h : X.K = K := by rfl)
include h
theorem ixT : IxR X (rIxT K) := by
  subst h
  exact ix_tup
theorem ixL : IxR X (rIxL K) := by
  subst h
  exact ix_list
def rLen (K : PySem.W.Frag) : List V → Hp → VK → Prop := fun xs H Q => ∃ p ys, xs = [V.ref p] ∧ (SqL K H p ys ∨ SqT K H p ys) ∧ Q (.int ys.length) H
theorem lenS : CallR X (.builtin "len") (rLen K) := by
  subst h
  exact call_len_seq
theorem catA : OpR X (binaryOp .Add) (rCatA K) := by
  subst h
  exact op_catA
theorem eqDK (hu : X.A.units + 64 < cLine) : OpR X (compareOp .Eq) (rEqD K) := by
  subst h
  exact op_eqD hu
theorem neDK (hu : X.A.units + 64 < cLine) : OpR X (compareOp .NotEq) (rNeD K) := by
  subst h
  exact op_neD hu
theorem fldK {e : Expr} {ta : TE} {f : Str} {pos : Pos} (he : PE X e ta) (hb : attributeBase e f X.env (eval e X.env) = eval e X.env) : PE X (.Attribute e f pos) (tFld K ta f) := by
  subst h
  exact pe_fld he hb
theorem pgTupK {es : List Expr} {k : Nat} {t : TGs} {n : Nat} {pos : Pos} (hc : X.calm = true) (q : PGs X es t) (hn : (assignEach es X.env).length = n := by rfl) (hst : (assignEach es X.env).findIdx? (·.1) = none := by rfl) : PG X (.Tuple es k pos) (gTup K n t) := by
  subst h
  exact pg_tup hc q hn hst
end
/-- zip of two tuples, walked -/
theorem walk_zipT {K : PySem.W.Frag} {a b : Addr} {xs ys : List V} (hl : xs.length = ys.length) : Walk (RZ.ItzT K a b) xs.length (fun H => SqT K H a xs ∧ SqT K H b ys) (YPair (fun i => xs[i]?) (fun i => ys[i]?)) := by
  refine ⟨fun i H hi q => ?_, fun H q => ⟨xs, ys, q.1, q.2, .inl (Nat.le_refl _)⟩, fun i H v H' _ q y => ?_⟩
  · have h2 : i < ys.length := by omega
    exact ⟨xs, ys, xs[i], ys[i], q.1, q.2, by simp [hi], by simp [h2]⟩
  · obtain ⟨T, x, z, h1, h2, h3, h4, h5⟩ := y
    exact ⟨T, x, z, h1, h2, h3, h4 xs q.1, h5 ys q.2⟩

/-! ### a method that is known -/
structure KnM (P : Program) (w : World) (K : PySem.W.Frag) (mg : Str → Option Value) (base : Heap) (CX : CXT) (k : Nat) (C : Addr) (m : Str) (ps : List Str) (sp : Sp) (f : Addr) (fd : FuncData) : Prop where
  ok : FnOk P w K mg base CX k f fd ps sp
  mt : Meth K C m f
  bd : Binds K fd ps []
section
variable {X : Cx} {CX : CXT} {k j : Nat} {f C : Addr} {fd : FuncData} {ps : List Str} {sp : Sp} {E : XK} {m : Str} {apos pos : Pos} {o e : Expr} {es : List Expr} {ta : TE} {t : TA}
theorem pmt {pl : Sem Bool} (M : KnM X.prog X.w X.K X.mg X.base CX k C m ps sp f fd) (cl : Cls X.K C) (hr : Room j X.A) (hj : k ≤ j) (hx : Passes CX X E) (he : PE X o ta) (ha : PA X (e :: es) t)
    (hst : starEach (e :: es) X.env = (false, eval e X.env) :: starEach es X.env := by rfl) (hpl : (backTo pos (starEach es X.env)).any (·.1) = false := by rfl)
    (ht : eval (.Call (.Attribute o m apos) (e :: es) [] pos) X.env = (do
      let ov ← eval o X.env
      standAt apos.atName
      let (g, first) ← holding [ov] (getMethod ov m pl)
      callWith pos g first (backTo pos (starEach (e :: es) X.env)) (backToKw pos (keywordEach [] X.env))) := by rfl) :
    PE X (.Call (.Attribute o m apos) (e :: es) [] pos) (tMeth C m sp [] E ta t) :=
  pe_meth he cl M.mt M.ok (hr.mono hj) M.bd .nil hx ha hst hpl ht
end

/-! ### raise X() of an own class without an own __init__ -/
theorem pmk0 {X : Cx} {C : Addr} {bmB : List Value} {B newId initId : String} {x : Str} {p pos : Pos} (F : ExcBaseFacts B newId initId bmB) (q : PySem.W.excIn X.K C bmB newId = true)
    (gC : X.mg x = some (.ref C)) (kC : PySem.W.keepIn X.K (.ref C) = true) (r : Raises X (.ref C)) (hg : Gl X x := by rfl) (hdb : (x == ("__debug__" : Str)) = false := by decide) :
    PMk X (.Call (.Name x p) [] [] pos) (fun _ H Q => Q (.ref C) none H) := by
  intro pins s σ H Q I h
  refine wpAny_Call_Name_kw (ld_glob I hg gC ?_ hdb)
  refine PySem.W.callWith_K0 I.kIn kC ?_
  obtain ⟨bm, N, nm, qn, bs, hdct, sn, sub, ab, col, dd, k0, k1, k2, k3, k5, mN, hC, hN, hni, T⟩ := exc_obj I.kIn q
  refine wpAny_call_exc_subT F T hC hN hni (fun h' e hm => ?_) (Nat.zero_le _)
  exact mk_of I hm r h (I.hok.gone hm.new)

/-! ### heaps that only grow -/
theorem Same.seqT {K : PySem.W.Frag} {H H' : Hp} {a : Addr} {xs : List V} (e : Same H H') (h : SqT K H a xs) : SqT K H' a xs := by
  rcases h with (h | ⟨o, h⟩) | h
  · exact .inl (.inl (e _ _ h))
  · exact .inl (.inr ⟨o, e _ _ h⟩)
  · exact .inr h
theorem same_new {H : Hp} {p : Addr} (h : H p = none) (o : HO) : Same H (upd H p o) := fun b u q => by
  rw [upd_ne (ne_of_none q h)]
  exact q
mutual
theorem dp_same {K : PySem.W.Frag} {H H' : Hp} (e : Same H H') : ∀ {v : V} {d : PyData}, Dp K H v d → Dp K H' v d
  | _, _, .non => .non
  | _, _, .bl b => .bl b
  | _, _, .int i => .int i
  | _, _, .str x => .str x
  | _, _, .lst h r => .lst (e.seq h) (dpAll_same e r)
  | _, _, .tup h r => .tup (Same.seqT e h) (dpAll_same e r)
theorem dpAll_same {K : PySem.W.Frag} {H H' : Hp} (e : Same H H') : ∀ {vs : List V} {ds : List PyData}, DpAll K H vs ds → DpAll K H' vs ds
  | _, _, .nil => .nil
  | _, _, .cons h r => .cons (dp_same e h) (dpAll_same e r)
end
theorem dpAll_len {K : PySem.W.Frag} {H : Hp} : ∀ {vs : List V} {ds : List PyData}, DpAll K H vs ds → vs.length = ds.length
  | _, _, .nil => rfl
  | _, _, .cons _ r => by
    rw [List.length_cons, List.length_cons, dpAll_len r]
theorem dpAll_ints {K : PySem.W.Frag} {H : Hp} : ∀ ns : List Int, DpAll K H (ns.map V.int) (ns.map PyData.int)
  | [] => .nil
  | n :: ns => .cons (.int n) (dpAll_ints ns)
theorem dpAll_app {K : PySem.W.Frag} {H : Hp} : ∀ {vs ws : List V} {ds es : List PyData}, DpAll K H vs ds → DpAll K H ws es → DpAll K H (vs ++ ws) (ds ++ es)
  | _, _, _, _, .nil, h => h
  | _, _, _, _, .cons h r, h2 => .cons h (dpAll_app r h2)
theorem dpAll_get {K : PySem.W.Frag} {H : Hp} : ∀ {vs : List V} {ds : List PyData} {i : Nat} {v : V}, DpAll K H vs ds → vs[i]? = some v → ∃ d, ds[i]? = some d ∧ Dp K H v d
  | _, _, i, v, .nil, h => by cases h
  | _, _, 0, v, .cons h r, e => by
    have := Option.some.inj e
    subst this
    exact ⟨_, rfl, h⟩
  | _, _, i + 1, v, .cons h r, e => dpAll_get (i := i) r e
theorem dpAll_intsE {K : PySem.W.Frag} {H : Hp} : ∀ {vs : List V} {ns : List Int}, DpAll K H vs (ns.map PyData.int) → vs = ns.map V.int
  | _, [], .nil => rfl
  | _, n :: ns, .cons h r => by
    cases h
    rw [dpAll_intsE r]
    rfl

/-! ### words as data -/
def dW (u : List Int) : PyData := .tuple (u.map PyData.int)
/-- v is the tuple of these letters -/
def Wd (K : PySem.W.Frag) (H : Hp) (v : V) (u : List Int) : Prop := ∃ a, v = .ref a ∧ SqT K H a (u.map V.int)
theorem Wd.same {K : PySem.W.Frag} {H H' : Hp} {v : V} {u : List Int} (e : Same H H') (h : Wd K H v u) : Wd K H' v u := by
  obtain ⟨a, rfl, h⟩ := h
  exact ⟨a, rfl, Same.seqT e h⟩
theorem Wd.dp {K : PySem.W.Frag} {H : Hp} {v : V} {u : List Int} (h : Wd K H v u) : Dp K H v (dW u) := by
  obtain ⟨a, rfl, h⟩ := h
  exact .tup h (dpAll_ints u)
theorem Wd.of {K : PySem.W.Frag} {H : Hp} {v : V} {u : List Int} (h : Dp K H v (dW u)) : Wd K H v u := by
  cases h with
  | tup h r =>
    rw [dpAll_intsE r] at h
    exact ⟨_, rfl, h⟩
theorem Wd.new {K : PySem.W.Frag} {H : Hp} {p : Addr} {u : List Int} (h : H p = some (.tup (u.map V.int))) : Wd K H (.ref p) u := ⟨p, rfl, .inl (.inl h)⟩
end Fl
end

section
set_option Elab.async false
set_option linter.all false
set_option maxRecDepth 100000
set_option maxHeartbeats 4000000
/-! The program's checks. -/
namespace Fl
open PySem PySem.Spec PyProof.Rows L2
def top (i : Nat) : Stmt := PySem.Challenge.pw_flyovers_k63_whole_common_words.main.body.getD i (.Pass ⟨0, 0, 0, 0⟩)

/-- the built-in names are free -/
structure Bn (mg : Str → Option Value) : Prop where
  len_ : mg "len" = none
  range_ : mg "range" = none
  isinstance_ : mg "isinstance" = none
  int_ : mg "int" = none
  bool_ : mg "bool" = none
  tuple_ : mg "tuple" = none
  list_ : mg "list" = none
  all_ : mg "all" = none
  zip_ : mg "zip" = none
  sum_ : mg "sum" = none
  max_ : mg "max" = none
  min_ : mg "min" = none
  sorted_ : mg "sorted" = none
  set_ : mg "set" = none
  abs_ : mg "abs" = none
  str_ : mg "str" = none
structure Gn (mg : Str → Option Value) : Prop where
  MOST_LETTERS : GInt mg "MOST_LETTERS" 4
  MOST_LANES : GInt mg "MOST_LANES" 1000
  MOST_ROWS : GInt mg "MOST_ROWS" 4096
  MOST_LISTED : GInt mg "MOST_LISTED" 12
  MOST_WORD : GInt mg "MOST_WORD" 60
/-- an own error without fields -/
structure ExK (K : PySem.W.Frag) (mg : Str → Option Value) (n : Str) (C : Addr) : Prop where
  x : PySem.W.excIn K C [.type "ValueError", .type "Exception", .type "BaseException", .type "object"] "ValueError.__new__" = true
  g : mg n = some (.ref C)
  k : PySem.W.keepIn K (.ref C) = true
  b : PySem.W.subIn K (.ref C) (.type "BaseException") = some true
  t : PySem.W.typeIn K (.ref C) = some (.type "type")
structure Er (K : PySem.W.Frag) (mg : Str → Option Value) (cR cN : Addr) : Prop where
  NoRow : ExK K mg "NoRow" cR
  NoNumber : ExK K mg "NoNumber" cN

/-! ### things of which only the type is known -/
def simT : List String := ["int", "bool", "NoneType", "str", "tuple", "list", "dict"]
theorem kit_int : ∀ t ∈ simT, kitB t "int" = some (decide (t = "int") || decide (t = "bool")) := by decide +kernel
theorem kit_bool : ∀ t ∈ simT, kitB t "bool" = some (decide (t = "bool")) := by decide +kernel
theorem kit_tuple : ∀ t ∈ simT, kitB t "tuple" = some (decide (t = "tuple")) := by decide +kernel
theorem kit_list : ∀ t ∈ simT, kitB t "list" = some (decide (t = "list")) := by decide +kernel
structure Ty (K : PySem.W.Frag) (H : Hp) (v : V) (t : String) : Prop where
  ty : TyX K H v (.type t)
  mem : t ∈ simT
theorem TyOf.same {K : PySem.W.Frag} {H H' : Hp} {v : V} {t : Value} (e : Same H H') (h : TyOf K H v t) : TyOf K H' v t := by
  cases h with
  | non => exact .non
  | bl x => exact .bl x
  | int i => exact .int i
  | str x => exact .str x
  | flt x => exact .flt x
  | lst h => exact .lst (e _ _ h)
  | frz h => exact .frz (e _ _ h)
  | tup h => exact .tup (e _ _ h)
  | dK h => exact .dK (e _ _ h)
  | dT h => exact .dT (e _ _ h)
  | ins h a b c d f => exact .ins (e _ _ h) a b c d f
theorem Ty.same {K : PySem.W.Frag} {H H' : Hp} {v : V} {t : String} (e : Same H H') (h : Ty K H v t) : Ty K H' v t := by
  obtain ⟨ty, mem⟩ := h
  refine ⟨?_, mem⟩
  cases ty with
  | base h => exact .base (TyOf.same e h)
  | set h => exact .set (e _ _ h)
  | kList h c => exact .kList h c
  | kTuple h c => exact .kTuple h c
  | kDict h c => exact .kDict h c
  | fTuple h => exact .fTuple (e _ _ h)
  | fDict h => exact .fDict (e _ _ h)
  | byt b => exact .byt b
theorem Ty.int {K : PySem.W.Frag} {H : Hp} (i : Int) : Ty K H (.int i) "int" := ⟨.base (.int i), by decide⟩
theorem Ty.bl {K : PySem.W.Frag} {H : Hp} (i : Bool) : Ty K H (.bl i) "bool" := ⟨.base (.bl i), by decide⟩
theorem Ty.non {K : PySem.W.Frag} {H : Hp} : Ty K H .non "NoneType" := ⟨.base .non, by decide⟩
theorem Ty.str {K : PySem.W.Frag} {H : Hp} (x : Str) : Ty K H (.str x) "str" := ⟨.base (.str x), by decide⟩
theorem Ty.lst {K : PySem.W.Frag} {H : Hp} {a : Addr} {xs : List V} (h : H a = some (.lst xs)) : Ty K H (.ref a) "list" := ⟨.base (.lst h), by decide⟩
theorem Ty.dK {K : PySem.W.Frag} {H : Hp} {a : Addr} {xs : List (Key × V)} (h : H a = some (.dK xs)) : Ty K H (.ref a) "dict" := ⟨.base (.dK h), by decide⟩
theorem Ty.tup {K : PySem.W.Frag} {H : Hp} {a : Addr} {xs : List V} (h : SqT K H a xs) : Ty K H (.ref a) "tuple" := by
  refine ⟨?_, by decide⟩
  rcases h with (h | ⟨o, h⟩) | ⟨o, _, _, h, c, _⟩
  · exact .base (.tup h)
  · exact .fTuple h
  · exact .kTuple h c
/-- an int is just what has the type int -/
theorem Ty.isInt {K : PySem.W.Frag} {H : Hp} {v : V} {t : String} (h : Ty K H v t) : (∃ i, v = .int i ∧ t = "int") ∨ ((∀ i, v ≠ .int i) ∧ t ≠ "int") := by
  obtain ⟨ty, m⟩ := h
  cases ty with
  | base h =>
    cases h with
    | int i => exact .inl ⟨i, rfl, rfl⟩
    | _ => exact .inr ⟨fun i q => (by cases q), by decide⟩
  | _ => exact .inr ⟨fun i q => (by cases q), by decide⟩
/-- an integer from lo to hi -/
def isBet (v : V) (lo hi : Int) : Bool := match v with
  | .int i => decide (lo ≤ i) && decide (i ≤ hi)
  | _ => false
theorem isBet_not {v : V} (h : ∀ i, v ≠ .int i) (lo hi : Int) : isBet v lo hi = false := by
  cases v with
  | int i => exact absurd rfl (h i)
  | _ => rfl

/-- is it a row -/
inductive RowB (K : PySem.W.Frag) (H : Hp) : V → Bool → Prop
  | tup {a : Addr} {xs : List V} (h : SqT K H a xs) (hx : ∀ x ∈ xs, ∃ t, Ty K H x t) : RowB K H (.ref a) (decide (1 ≤ xs.length ∧ xs.length ≤ 1000) && xs.all fun x => isBet x 0 3)
  | oth {v : V} {t : String} (h : Ty K H v t) (ht : t ≠ "tuple") : RowB K H v false
theorem RowB.same {K : PySem.W.Frag} {H H' : Hp} {v : V} {b : Bool} (e : Same H H') (h : RowB K H v b) : RowB K H' v b := by
  cases h with
  | tup h hx => exact .tup (Same.seqT e h) fun x m => (hx x m).imp fun t q => q.same e
  | oth h ht => exact .oth (h.same e) ht
structure IsRow (xs : List Int) : Prop where
  one : 1 ≤ xs.length
  most : xs.length ≤ 1000
  lets : ∀ c ∈ xs, 0 ≤ c ∧ c < 4
theorem RowB.good {K : PySem.W.Frag} {H : Hp} {v : V} {xs : List Int} (h : Wd K H v xs) (r : IsRow xs) : RowB K H v true := by
  obtain ⟨a, rfl, h⟩ := h
  have q := RowB.tup h (fun x m => by
    obtain ⟨i, _, rfl⟩ := List.mem_map.mp m
    exact ⟨_, Ty.int i⟩)
  have e : (decide (1 ≤ (xs.map V.int).length ∧ (xs.map V.int).length ≤ 1000) && (xs.map V.int).all fun x => isBet x 0 3) = true := by
    rw [Bool.and_eq_true, List.length_map]
    refine ⟨decide_eq_true ⟨r.one, r.most⟩, ?_⟩
    rw [List.all_map, List.all_eq_true]
    intro c hc
    have := r.lets c hc
    show (decide (0 ≤ c) && decide (c ≤ 3)) = true
    rw [Bool.and_eq_true]
    exact ⟨decide_eq_true this.1, decide_eq_true (by omega)⟩
  rw [e] at q
  exact q

/-! ### promises -/
def spIsInt (K : PySem.W.Frag) : Sp := fun vs H Q _ => ∃ (v : V) (t : String), vs = [v] ∧ Ty K H v t ∧ Q (.bl (decide (t = "int"))) H
def spBetween (K : PySem.W.Frag) : Sp := fun vs H Q _ => ∃ (v : V) (t : String) (lo hi : Int), vs = [v, .int lo, .int hi] ∧ Ty K H v t ∧ Q (.bl (isBet v lo hi)) H
def spIndex (K : PySem.W.Frag) : Sp := fun vs H Q _ => ∃ (v : V) (t : String) (n : Int), vs = [v, .int n] ∧ Ty K H v t ∧ Q (.bl (isBet v 0 (n - 1))) H
def spNumber (K : PySem.W.Frag) (cN : Addr) : Sp := fun vs H Q E => ∃ (v : V) (t : String) (lo hi : Int), vs = [v, .int lo, .int hi] ∧ Ty K H v t ∧ (isBet v lo hi = true → Q .non H) ∧ (isBet v lo hi = false → E (.ref cN) none H)
def spIsRow (K : PySem.W.Frag) : Sp := fun vs H Q _ => ∃ (v : V) (b : Bool), vs = [v] ∧ RowB K H v b ∧ ∀ H', Same H H' → Q (.bl b) H'
def spCheckRow (K : PySem.W.Frag) (cR : Addr) : Sp := fun vs H Q E => ∃ (v : V) (b : Bool), vs = [v] ∧ RowB K H v b ∧ ∀ H', Same H H' → (b = true → Q .non H') ∧ (b = false → E (.ref cR) none H')
def spCheckBoth (K : PySem.W.Frag) (cR : Addr) : Sp := fun vs H Q E => ∃ (v u : V) (b c : Bool), vs = [v, u] ∧ RowB K H v b ∧ RowB K H u c ∧ ∀ H', Same H H' → (b = true → c = true → Q .non H') ∧ ((b && c) = false → E (.ref cR) none H')

section
variable {P : Program} {w : World} {K : PySem.W.Frag} {mg : Str → Option Value} {base : Heap} {f : Addr} {fd : FuncData}
abbrev s_is_integer : Stmt := top 7
theorem sc_is_integer : FnScope ["thing"] ["thing"] (defScope s_is_integer) := ⟨rfl, rfl, rfl, by decide +kernel, rfl, by decide +kernel, by decide +kernel⟩
theorem ok_is_integer (F : Fun K "is_integer" "is_integer" s_is_integer f fd) (B : Bn mg) : FnOk P w K mg base CX0 1 f fd ["thing"] (spIsInt K) := by
  refine F.ok sc_is_integer (fun vs H Q E h => ?_) (fun cdv A outer s H vs Q E hr h => ?_)
  · obtain ⟨v, t, rfl, _⟩ := h
    rfl
  obtain ⟨v, t, rfl, ht, k⟩ := h
  refine ⟨_, (pss_one (ps_ret (pe_and (pe_callB call_isi (by rfl) B.isinstance_ (by decide +kernel) (pa_cons (pv 0) (pa_cons (pty (n := "int") B.int_ (by decide +kernel)) pa_nil))) (pe_one (pe_not (pe_callB call_isi (by rfl) B.isinstance_ (by decide +kernel) (pa_cons (pv 0) (pa_cons (pty (n := "bool") B.bool_ (by decide +kernel)) pa_nil)))))))), ?_⟩
  refine ⟨_, rfl, v, .ty "int", _, _, _, rfl, .ty _, ht.ty, kit_ty (kit_int t ht.mem), _, rfl, ?_⟩
  refine ite2 (fun c => ?_) (fun c => ?_)
  · refine ⟨_, rfl, v, .ty "bool", _, _, _, rfl, .ty _, ht.ty, kit_ty (kit_bool t ht.mem), _, rfl, ?_⟩
    have e : (!decide (t = "bool")) = decide (t = "int") := by
      rw [Bool.or_eq_true, decide_eq_true_iff, decide_eq_true_iff] at c
      rcases c with rfl | rfl <;> decide
    show Q (.bl (!decide (t = "bool"))) H
    rw [e]
    exact k
  · have e : decide (t = "int") = false := by
      rw [Bool.or_eq_true, not_or] at c
      exact Bool.eq_false_iff.mpr c.1
    rw [e] at k
    exact k
abbrev s_is_between : Stmt := top 8
theorem sc_is_between : FnScope ["thing", "least", "most"] ["thing", "least", "most"] (defScope s_is_between) := ⟨rfl, rfl, rfl, by decide +kernel, rfl, by decide +kernel, by decide +kernel⟩
theorem ok_is_between (F : Fun K "is_between" "is_between" s_is_between f fd) {f1 : Addr} {fd1 : FuncData} (kis_integer : Kn P w K mg base CX0 1 "is_integer" ["thing"] (spIsInt K) f1 fd1) : FnOk P w K mg base CX0 2 f fd ["thing", "least", "most"] (spBetween K) := by
  refine F.ok sc_is_between (fun vs H Q E h => ?_) (fun cdv A outer s H vs Q E hr h => ?_)
  · obtain ⟨v, t, lo, hi, rfl, _⟩ := h
    rfl
  obtain ⟨v, t, lo, hi, rfl, ht, k⟩ := h
  refine ⟨_, (pss_one (ps_ret (pe_and (pk kis_integer hr (by decide) pass0 (pa_cons (pv 0) pa_nil)) (pe_one (pe_chain op_le op_le (pv 1) (pv 0) (pv 2)))))), ?_⟩
  refine ⟨_, rfl, v, t, rfl, ht, _, rfl, ?_⟩
  rcases ht.isInt with ⟨i, rfl, rfl⟩ | ⟨h1, h2⟩
  · refine iteT ?_
    refine ⟨_, rfl, _, rfl, _, _, rfl, rfl, _, rfl, ?_⟩
    have e : isBet (.int i) lo hi = (decide (lo ≤ i) && decide (i ≤ hi)) := rfl
    rw [e] at k
    refine ite2 (fun c => ?_) (fun c => ?_)
    · refine ⟨_, rfl, _, _, rfl, rfl, ?_⟩
      rw [c, Bool.true_and] at k
      exact k
    · rw [Bool.eq_false_iff.mpr c, Bool.false_and] at k
      exact k
  · rw [isBet_not h1] at k
    rw [decide_eq_false h2]
    exact iteF k
abbrev s_is_index : Stmt := top 9
theorem sc_is_index : FnScope ["thing", "many"] ["thing", "many"] (defScope s_is_index) := ⟨rfl, rfl, rfl, by decide +kernel, rfl, by decide +kernel, by decide +kernel⟩
theorem ok_is_index (F : Fun K "is_index" "is_index" s_is_index f fd) {f1 : Addr} {fd1 : FuncData} (kis_between : Kn P w K mg base CX0 2 "is_between" ["thing", "least", "most"] (spBetween K) f1 fd1) : FnOk P w K mg base CX0 3 f fd ["thing", "many"] (spIndex K) := by
  refine F.ok sc_is_index (fun vs H Q E h => ?_) (fun cdv A outer s H vs Q E hr h => ?_)
  · obtain ⟨v, t, n, rfl, _⟩ := h
    rfl
  obtain ⟨v, t, n, rfl, ht, k⟩ := h
  refine ⟨_, (pss_one (ps_ret (pk kis_between hr (by decide) pass0 (pa_cons (pv 0) (pa_cons pe_int (pa_cons (pe_op op_sub (pv 1) pe_int) pa_nil)))))), ?_⟩
  exact ⟨_, rfl, _, rfl, _, _, rfl, rfl, v, t, 0, n - 1, rfl, ht, k⟩
abbrev s_check_number : Stmt := top 10
theorem sc_check_number : FnScope ["thing", "least", "most"] ["thing", "least", "most"] (defScope s_check_number) := ⟨rfl, rfl, rfl, by decide +kernel, rfl, by decide +kernel, by decide +kernel⟩
theorem ok_check_number (F : Fun K "check_number" "check_number" s_check_number f fd) {cR cN : Addr} (C : Er K mg cR cN) {f1 : Addr} {fd1 : FuncData} (kis_between : Kn P w K mg base CX0 2 "is_between" ["thing", "least", "most"] (spBetween K) f1 fd1) :
    FnOk P w K mg base (L2.CX P w) 3 f fd ["thing", "least", "most"] (spNumber K cN) := by
  refine F.okX sc_check_number (fun vs H Q E h => ?_) (fun cdv A outer s H vs Q E hr h => ?_)
  · obtain ⟨v, t, lo, hi, rfl, _⟩ := h
    rfl
  obtain ⟨v, t, lo, hi, rfl, ht, k1, k2⟩ := h
  have tk0 := takes_of (X := cxOf (L2.CX P w) P w K mg base ["thing", "least", "most"] "check_number" (defScope s_check_number) f cdv A outer s H E) rfl rfl rfl rfl
  refine ⟨_, (pss_one (ps_if (pt_not (pt_val (pk kis_between hr (by decide) pass0 (pa_cons (pv 0) (pa_cons (pv 1) (pa_cons (pv 2) pa_nil)))))) (pss_one (ps_raise rfl tk0 (pmk0 PySem.F.excBase_ValueError C.NoNumber.x C.NoNumber.g C.NoNumber.k (raises_own C.NoNumber.b C.NoNumber.t)))) pss_nil)), ?_⟩
  refine ⟨_, rfl, _, rfl, _, rfl, v, t, lo, hi, rfl, ht, _, rfl, ?_⟩
  cases e : isBet v lo hi with
  | true => exact iteF (k1 e)
  | false => exact iteT (k2 e)
abbrev s_is_row : Stmt := top 15
theorem sc_is_row : FnScope ["thing", "letter"] ["thing"] (defScope s_is_row) := ⟨rfl, rfl, rfl, by decide +kernel, rfl, by decide +kernel, by decide +kernel⟩
theorem ok_is_row (F : Fun K "is_row" "is_row" s_is_row f fd) (B : Bn mg) (G : Gn mg) {f1 : Addr} {fd1 : FuncData} (kis_index : Kn P w K mg base CX0 3 "is_index" ["thing", "many"] (spIndex K) f1 fd1) : FnOk P w K mg base CX0 4 f fd ["thing"] (spIsRow K) := by
  refine F.ok sc_is_row (fun vs H Q E h => ?_) (fun cdv A outer s H vs Q E hr h => ?_)
  · obtain ⟨v, b, rfl, _⟩ := h
    rfl
  obtain ⟨v, b, rfl, hb, k⟩ := h
  refine ⟨_, (pss_cons (ps_if (PW.pt (pw_or (pt_not (pt_val (pe_callB call_isi (by rfl) B.isinstance_ (by decide +kernel) (pa_cons (pv 0) (pa_cons (pty (n := "tuple") B.tuple_ (by decide +kernel)) pa_nil))))) (pw_or1 (pt_not (pt_chain op_le op_le pe_int (pe_callB call_len_seq (by rfl) B.len_ PySem.boot_len (pa_cons (pv 0) pa_nil)) (pgi G.MOST_LANES)))))) (pss_one (ps_ret pe_bl)) pss_nil)
      (pss_one (ps_ret (pe_callB (cr_all rfl) (by rfl) B.all_ (by decide +kernel) (pa_cons (pe_lc (own := [("letter", 1)]) (by rfl) sc_is_row.nd (pi_tup (pv 0)) (blkOk_by (N := ["thing", "letter"]) (sc := defScope s_is_row) (by decide +kernel)) (fun _ _ _ _ _ => (pg_name (i := 1) sc_is_row.nd rfl (Or.inl rfl))) (fun _ _ _ _ _ => pts_nil) (fun _ _ _ _ _ => (pk kis_index hr (by decide) pass0 (pa_cons (pv 1) (pa_cons (pgi G.MOST_LETTERS) pa_nil))))) pa_nil))))), ?_⟩
  cases hb with
  | oth ht hne =>
    rename_i t
    refine ⟨_, rfl, v, .ty "tuple", _, _, _, rfl, .ty _, ht.ty, kit_ty (kit_tuple t ht.mem), _, rfl, ?_⟩
    rw [decide_eq_false hne]
    exact iteT (iteT (k H (Same.refl H)))
  | tup h hx =>
    rename_i a xs
    have hT := Ty.tup h
    refine ⟨_, rfl, .ref a, .ty "tuple", _, _, _, rfl, .ty _, hT.ty, kit_ty (kit_tuple _ hT.mem), _, rfl, ?_⟩
    refine iteF ?_
    refine ⟨_, rfl, a, xs, rfl, .inr h, _, _, rfl, rfl, _, rfl, ?_⟩
    by_cases h1 : (1 : Int) ≤ (xs.length : Int)
    · rw [decide_eq_true h1]
      refine iteT ⟨_, _, rfl, rfl, _, rfl, ?_⟩
      by_cases h2 : (xs.length : Int) ≤ 1000
      · rw [decide_eq_true h2]
        refine iteF ?_
        refine ⟨_, rfl, a, rfl, ⟨_, h⟩, fun D hD => ?_⟩
        refine lc_tup (K := K) (a := a) (xs := xs) (fun i H' => Same H H' ∧ H' D = some (.lst ((xs.take i).map fun x => V.bl (isBet x 0 3)))) ⟨same_new hD _, upd_same⟩ (fun i H' _ hs => Same.seqT hs.1 h) ?_ ?_
        · rintro i x H' hi ⟨hs, hd⟩
          obtain ⟨t, ht⟩ := hx x (List.mem_of_getElem? hi)
          refine ⟨rfl, ?_⟩
          refine ⟨_, rfl, x, t, 4, rfl, ht.same hs, _, hd, ?_, ?_, ?_⟩
          · rw [List.length_map, List.length_take]
            exact small1000 (by omega)
          · exact fun b o e => by
              by_cases q : b = D
              · subst q
                rw [hD] at e
                cases e
              · rw [upd_ne q]
                exact hs b o e
          · rw [upd_same, take_at hi, List.map_append]
            rfl
        · rintro H' ⟨hs, hd⟩
          rw [List.take_length] at hd
          have e2 : (xs.map fun x => V.bl (isBet x 0 3)) = (xs.map fun x => isBet x 0 3).map V.bl := by rw [List.map_map]; rfl
          rw [e2] at hd
          refine ⟨_, _, rfl, SqL.of hd, ?_⟩
          have e3 : (xs.map fun x => isBet x 0 3).all id = (decide (1 ≤ xs.length ∧ xs.length ≤ 1000) && xs.all fun x => isBet x 0 3) := by
            rw [decide_eq_true (by omega), Bool.true_and, List.all_map]
            rfl
          rw [e3]
          exact k H' hs
      · rw [decide_eq_false h2]
        refine iteT ?_
        have e3 : (decide (1 ≤ xs.length ∧ xs.length ≤ 1000) && xs.all fun x => isBet x 0 3) = false := by
          rw [decide_eq_false (by omega), Bool.false_and]
        rw [e3] at k
        exact k H (Same.refl H)
    · rw [decide_eq_false h1]
      refine iteF ⟨_, rfl, iteT ?_⟩
      have e3 : (decide (1 ≤ xs.length ∧ xs.length ≤ 1000) && xs.all fun x => isBet x 0 3) = false := by
        rw [decide_eq_false (by omega), Bool.false_and]
      rw [e3] at k
      exact k H (Same.refl H)
abbrev s_check_row : Stmt := top 16
theorem sc_check_row : FnScope ["thing"] ["thing"] (defScope s_check_row) := ⟨rfl, rfl, rfl, by decide +kernel, rfl, by decide +kernel, by decide +kernel⟩
theorem ok_check_row (F : Fun K "check_row" "check_row" s_check_row f fd) {cR cN : Addr} (C : Er K mg cR cN) {f1 : Addr} {fd1 : FuncData} (kis_row : Kn P w K mg base CX0 4 "is_row" ["thing"] (spIsRow K) f1 fd1) :
    FnOk P w K mg base (L2.CX P w) 5 f fd ["thing"] (spCheckRow K cR) := by
  refine F.okX sc_check_row (fun vs H Q E h => ?_) (fun cdv A outer s H vs Q E hr h => ?_)
  · obtain ⟨v, b, rfl, _⟩ := h
    rfl
  obtain ⟨v, b, rfl, hb, k⟩ := h
  have tk0 := takes_of (X := cxOf (L2.CX P w) P w K mg base ["thing"] "check_row" (defScope s_check_row) f cdv A outer s H E) rfl rfl rfl rfl
  refine ⟨_, (pss_one (ps_if (pt_not (pt_val (pk kis_row hr (by decide) pass0 (pa_cons (pv 0) pa_nil)))) (pss_one (ps_raise rfl tk0 (pmk0 PySem.F.excBase_ValueError C.NoRow.x C.NoRow.g C.NoRow.k (raises_own C.NoRow.b C.NoRow.t)))) pss_nil)), ?_⟩
  refine ⟨_, rfl, v, b, rfl, hb, fun H' hs => ⟨_, rfl, ?_⟩⟩
  cases b with
  | true => exact iteF ((k H' hs).1 rfl)
  | false => exact iteT ((k H' hs).2 rfl)
abbrev s_check_both : Stmt := top 21
theorem sc_check_both : FnScope ["row", "out"] ["row", "out"] (defScope s_check_both) := ⟨rfl, rfl, rfl, by decide +kernel, rfl, by decide +kernel, by decide +kernel⟩
theorem ok_check_both (F : Fun K "check_both" "check_both" s_check_both f fd) {cR : Addr} {f1 : Addr} {fd1 : FuncData} (kcheck_row : Kn P w K mg base (L2.CX P w) 5 "check_row" ["thing"] (spCheckRow K cR) f1 fd1) :
    FnOk P w K mg base (L2.CX P w) 6 f fd ["row", "out"] (spCheckBoth K cR) := by
  refine F.okX sc_check_both (fun vs H Q E h => ?_) (fun cdv A outer s H vs Q E hr h => ?_)
  · obtain ⟨v, u, b, c, rfl, _⟩ := h
    rfl
  obtain ⟨v, u, b, c, rfl, hb, hc, k⟩ := h
  have tk0 := takes_of (X := cxOf (L2.CX P w) P w K mg base ["row", "out"] "check_both" (defScope s_check_both) f cdv A outer s H E) rfl rfl rfl rfl
  refine ⟨_, (pss_cons (ps_expr (pk kcheck_row hr (by decide) (passes_call tk0 (fun _ _ _ _ h => h)) (pa_cons (pv 0) pa_nil)))
      (pss_one (ps_expr (pk kcheck_row hr (by decide) (passes_call tk0 (fun _ _ _ _ h => h)) (pa_cons (pv 1) pa_nil))))), ?_⟩
  refine ⟨_, rfl, v, b, rfl, hb, fun H1 h1 => ⟨fun eb => ?_, fun eb => ?_⟩⟩
  · refine ⟨_, rfl, u, c, rfl, hc.same h1, fun H2 h2 => ⟨fun ec => ?_, fun ec => ?_⟩⟩
    · exact (k H2 (h1.trans h2)).1 eb ec
    · exact (k H2 (h1.trans h2)).2 (by rw [ec, Bool.and_false])
  · exact (k H1 h1).2 (by rw [eb, Bool.false_and])
end
end Fl
end

section
set_option Elab.async false
set_option linter.all false
set_option maxRecDepth 100000
set_option maxHeartbeats 4000000
/-! next_place, way_of, is_thinning, word_of. -/
namespace Fl
open PySem PySem.Spec PyProof.Rows L2

theorem Same.upd {H H' : Hp} {p : Addr} (e : Same H H') (h : H p = none) (o : HO) : Same H (L2.upd H' p o) := fun b u q => by
  rw [upd_ne (ne_of_none q h)]
  exact e b u q
theorem int_at {xs : List Int} {i : Nat} {c : Int} (h : xs[i]? = some c) : (xs.map V.int)[i]? = some (.int c) := by
  rw [List.getElem?_map, h]
  rfl
theorem int_of {xs : List Int} {i : Nat} {v : V} (h : (xs.map V.int)[i]? = some v) : ∃ c, xs[i]? = some c ∧ v = .int c := by
  rw [List.getElem?_map] at h
  cases e : xs[i]? with
  | none =>
    rw [e] at h
    cases h
  | some c =>
    rw [e] at h
    exact ⟨c, rfl, (Option.some.inj h).symm⟩
theorem Wd.tup {K : PySem.W.Frag} {H : Hp} {v : V} {u : List Int} (h : Wd K H v u) : ∃ a, v = .ref a ∧ SqT K H a (u.map V.int) := h

def optV : Option Nat → V
  | none => .non
  | some p => .int p
def spNext (K : PySem.W.Frag) : Sp := fun vs H Q _ => ∃ (a : Addr) (xs : List Int) (n : Nat) (c : Int), vs = [.ref a, .int n, .int c] ∧ SqT K H a (xs.map V.int) ∧ xs.length ≤ 1000 ∧ n ≤ 2000 ∧ Q (optV (nxt xs n c)) H
def spWay (K : PySem.W.Frag) : Sp := fun vs H Q _ => ∃ (a b : Addr) (xs out : List Int), vs = [.ref a, .ref b] ∧ SqT K H a (xs.map V.int) ∧ SqT K H b (out.map V.int) ∧ xs.length ≤ 1000 ∧ out.length ≤ 1000 ∧
  (thin xs out = true → ∀ p H', Same H H' → Q (.ref p) H') ∧ (thin xs out = false → ∀ H', Same H H' → Q .non H')
def spThin (K : PySem.W.Frag) : Sp := fun vs H Q _ => ∃ (v u : V) (xs out : List Int), vs = [v, u] ∧ Wd K H v xs ∧ Wd K H u out ∧ IsRow xs ∧ IsRow out ∧ ∀ H', Same H H' → Q (.bl (thin xs out)) H'
def spWordOf (K : PySem.W.Frag) : Sp := fun vs H Q _ => ∃ (v : V) (xs : List Int), vs = [v] ∧ Wd K H v xs ∧ xs.length ≤ 1000 ∧ ∀ p H', Same H H' → Wd K H' (.ref p) (wd xs) → Q (.ref p) H'

section
variable {P : Program} {w : World} {K : PySem.W.Frag} {mg : Str → Option Value} {base : Heap} {f : Addr} {fd : FuncData}
abbrev s_next_place : Stmt := top 19
theorem sc_next_place : FnScope ["row", "first", "letter", "place"] ["row", "first", "letter"] (defScope s_next_place) := ⟨rfl, rfl, rfl, by decide +kernel, rfl, by decide +kernel, by decide +kernel⟩
theorem ok_next_place (F : Fun K "next_place" "next_place" s_next_place f fd) (B : Bn mg) : FnOk P w K mg base CX0 1 f fd ["row", "first", "letter"] (spNext K) := by
  refine F.ok sc_next_place (fun vs H Q E h => ?_) (fun cdv A outer s H vs Q E hr h => ?_)
  · obtain ⟨a, xs, n, c, rfl, _⟩ := h
    rfl
  obtain ⟨a, xs, n, c, rfl, hT, hl, hn, k⟩ := h
  refine ⟨_, (pss_cons (ps_for PassesOwn.never rfl (pi_range2 (by rfl) B.range_ (pa_cons (pv 1) (pa_cons (pe_callB call_len_seq (by rfl) B.len_ PySem.boot_len (pa_cons (pv 0) pa_nil)) pa_nil))) (pg_name (i := 3) sc_next_place.nd rfl (Or.inl rfl))
      (pss_one (ps_if (pt_cmpR op_eq (pe_ix ix_tup (pv 0) (pv 3) (fun _ _ => rfl)) (pv 2) (nomark _)) (pss_one (ps_ret (pv 3))) pss_nil)))
      (pss_one (ps_ret pe_non))), ?_⟩
  refine ⟨_, rfl, _, rfl, a, _, rfl, .inr hT, _, _, rfl, ⟨by omega, by omega, by omega, ?_⟩, ?_⟩
  · rw [List.length_map]
    omega
  refine for_range (lo := (n : Int)) (n := (((xs.map V.int).length : Int) - (n : Int)).toNat) (fun i σ H' => H' = H ∧ (∃ v, σ = [some (.ref a), some (.int n), some (.int c), v]) ∧ nxt xs n c = nxt xs (n + i) c) ⟨rfl, ⟨none, rfl⟩, rfl⟩ ?_ ?_
  · rintro i σ H' hi ⟨rfl, ⟨v, rfl⟩, hn2⟩
    rw [List.length_map] at hi
    have hlt : n + i < xs.length := by omega
    have hx := int_at (List.getElem?_eq_getElem hlt)
    refine ⟨_, rfl, _, rfl, a, _, _, _, rfl, rfl, hT, at_of (j := n + i) (by omega) hx, _, rfl, rfl, _, rfl, ?_⟩
    refine ite2 (fun e => ?_) (fun e => ?_)
    · have e2 := of_decide_eq_true e
      injection e2 with e2
      refine ⟨_, rfl, ?_⟩
      have q : nxt xs n c = some (n + i) := by
        rw [hn2]
        exact nxt_here (by rw [List.getElem?_eq_getElem hlt, e2])
      rw [q] at k
      exact k
    · refine ⟨rfl, ⟨_, rfl⟩, ?_⟩
      rw [hn2]
      refine nxt_on hlt fun q => e ?_
      rw [List.getElem?_eq_getElem hlt] at q
      rw [Option.some.inj q]
      exact decide_eq_true rfl
  · rintro σ H' ⟨rfl, _, hn2⟩
    rw [hn2, nxt_end (by rw [List.length_map]; omega)] at k
    exact k
abbrev s_way_of : Stmt := top 20
theorem sc_way_of : FnScope ["row", "out", "found", "place", "letter"] ["row", "out"] (defScope s_way_of) := ⟨rfl, rfl, rfl, by decide +kernel, rfl, by decide +kernel, by decide +kernel⟩
theorem ok_way_of (F : Fun K "way_of" "way_of" s_way_of f fd) (B : Bn mg) {f1 : Addr} {fd1 : FuncData} (knext_place : Kn P w K mg base CX0 1 "next_place" ["row", "first", "letter"] (spNext K) f1 fd1) :
    FnOk P w K mg base CX0 2 f fd ["row", "out"] (spWay K) := by
  refine F.ok sc_way_of (fun vs H Q E h => ?_) (fun cdv A outer s H vs Q E hr h => ?_)
  · obtain ⟨a, b, xs, out, rfl, _⟩ := h
    rfl
  obtain ⟨a, b, xs, out, rfl, hT, hO, hl, ho, k1, k2⟩ := h
  refine ⟨_, (pss_cons (ps_set (i := 2) sc_way_of.nd rfl (Or.inl rfl) (pe_lst pa_nil))
      (pss_cons (ps_set (i := 3) sc_way_of.nd rfl (Or.inl rfl) pe_int)
      (pss_cons (ps_for PassesOwn.never rfl (pi_tup (pv 1)) (pg_name (i := 4) sc_way_of.nd rfl (Or.inl rfl))
      (pss_cons (ps_set (i := 3) sc_way_of.nd rfl (Or.inl rfl) (pk knext_place hr (by decide) pass0 (pa_cons (pv 0) (pa_cons (pv 3) (pa_cons (pv 4) pa_nil)))))
      (pss_cons (ps_if (pt_cmpR op_isN (pv 3) pe_non (nomark _)) (pss_one (ps_ret pe_non)) pss_nil)
      (pss_one (ps_expr (pe_bm PySem.F.plainAttrs_list PySem.F.slot_list_append PySem.F.type_list_append mt_append (pv 2) (pa_cons (pv 3) pa_nil)))))))
      (pss_one (ps_ret (pe_callTy call_tuple_of (by rfl) B.tuple_ (by decide +kernel) (pa_cons (pv 2) pa_nil))))))), ?_⟩
  refine ⟨Nat.zero_le _, fun D hD => ?_⟩
  refine ⟨_, rfl, b, rfl, ⟨_, Same.seqT (same_new hD _) hO⟩, for_tup (K := K) (a := b) (xs := out.map V.int) (fun i σ H' => Same H H' ∧ ∃ (p : Nat) (l : List V) (v : Option V), σ = [some (.ref a), some (.ref b), some (.ref D), some (.int p), v] ∧ H' D = some (.lst l) ∧ l.length = i ∧ p ≤ xs.length ∧ thin xs out = thin (xs.drop p) (out.drop i))
    ⟨same_new hD _, 0, [], none, rfl, upd_same, rfl, Nat.zero_le _, rfl⟩ (fun i σ H' _ hs => Same.seqT hs.1 hO) ?_ ?_⟩
  · rintro i y σ H' hi ⟨hs, p, l, v, rfl, hd, hll, hp, ht⟩
    obtain ⟨c, hc, rfl⟩ := int_of hi
    have hil := (List.getElem?_eq_some_iff.mp hc).1
    rw [drop_at hc, thin_cons] at ht
    refine ⟨_, rfl, _, rfl, _, rfl, a, xs, p, c, rfl, Same.seqT hs hT, hl, by omega, ?_⟩
    cases e : nxt xs p c with
    | none =>
      rw [(nxt_none e).2] at ht
      exact ⟨_, rfl, rfl, _, rfl, iteT (k2 ht H' hs)⟩
    | some q =>
      obtain ⟨q1, q2, q3, q4⟩ := nxt_some e
      rw [q4] at ht
      refine ⟨_, rfl, rfl, _, rfl, iteF ?_⟩
      refine ⟨_, rfl, .inl ⟨rfl, _, SqL.of hd⟩, _, rfl, D, l, _, rfl, rfl, hd, small1000 (by omega), ?_⟩
      refine ⟨Same.upd hs hD _, q, _, _, rfl, upd_same, ?_, by omega, ht⟩
      rw [List.length_append, hll]
      rfl
  · rintro σ H' ⟨hs, p, l, v, rfl, hd, hll, hp, ht⟩
    rw [List.length_map, List.drop_length] at ht
    refine ⟨_, rfl, D, l, rfl, .inl ⟨SqL.of hd, fun q hq => ?_⟩⟩
    exact k1 ht q _ (Same.upd hs (hs.free hq) _)
abbrev s_is_thinning : Stmt := top 22
theorem sc_is_thinning : FnScope ["row", "out"] ["row", "out"] (defScope s_is_thinning) := ⟨rfl, rfl, rfl, by decide +kernel, rfl, by decide +kernel, by decide +kernel⟩
theorem ok_is_thinning (F : Fun K "is_thinning" "is_thinning" s_is_thinning f fd) {cR : Addr} {f1 f2 : Addr} {fd1 fd2 : FuncData} (kcheck_both : Kn P w K mg base (L2.CX P w) 6 "check_both" ["row", "out"] (spCheckBoth K cR) f1 fd1)
    (kway_of : Kn P w K mg base CX0 2 "way_of" ["row", "out"] (spWay K) f2 fd2) : FnOk P w K mg base CX0 7 f fd ["row", "out"] (spThin K) := by
  refine F.ok sc_is_thinning (fun vs H Q E h => ?_) (fun cdv A outer s H vs Q E hr h => ?_)
  · obtain ⟨v, u, xs, out, rfl, _⟩ := h
    rfl
  obtain ⟨v, u, xs, out, rfl, hv, hu, r1, r2, k⟩ := h
  refine ⟨_, (pss_cons (ps_expr (pk kcheck_both hr (by decide) passL (pa_cons (pv 0) (pa_cons (pv 1) pa_nil))))
      (pss_one (ps_ret (pe_cmpR op_notN (pk kway_of hr (by decide) pass0 (pa_cons (pv 0) (pa_cons (pv 1) pa_nil))) pe_non (nomark _))))), ?_⟩
  refine ⟨_, rfl, _, rfl, v, u, true, true, rfl, .good hv r1, .good hu r2, fun H1 h1 => ⟨fun _ _ => ?_, fun q => (by cases q)⟩⟩
  obtain ⟨a, rfl, hv⟩ := hv
  obtain ⟨b, rfl, hu⟩ := hu
  refine ⟨_, rfl, _, rfl, a, b, xs, out, rfl, Same.seqT h1 hv, Same.seqT h1 hu, r1.most, r2.most, fun e p H2 h2 => ?_, fun e H2 h2 => ?_⟩
  · have := k H2 (h1.trans h2)
    rw [e] at this
    exact ⟨rfl, this⟩
  · have := k H2 (h1.trans h2)
    rw [e] at this
    exact ⟨rfl, this⟩
abbrev s_word_of : Stmt := top 17
theorem sc_word_of : FnScope ["row", "lane"] ["row"] (defScope s_word_of) := ⟨rfl, rfl, rfl, by decide +kernel, rfl, by decide +kernel, by decide +kernel⟩
theorem ok_word_of (F : Fun K "word_of" "word_of" s_word_of f fd) (B : Bn mg) : FnOk P w K mg base CX0 1 f fd ["row"] (spWordOf K) := by
  refine F.ok sc_word_of (fun vs H Q E h => ?_) (fun cdv A outer s H vs Q E hr h => ?_)
  · obtain ⟨v, xs, rfl, _⟩ := h
    rfl
  obtain ⟨v, xs, rfl, hv, hl, k⟩ := h
  obtain ⟨a, rfl, hT⟩ := hv
  refine ⟨_, (pss_one (ps_ret (pe_callTy call_tuple_of (by rfl) B.tuple_ (by decide +kernel) (pa_cons (pe_lc (own := [("lane", 1)]) (by rfl) sc_word_of.nd (pi_range1 (by rfl) B.range_ (pa_cons (pe_callB call_len_seq (by rfl) B.len_ PySem.boot_len (pa_cons (pv 0) pa_nil)) pa_nil)) (blkOk_by (N := ["row", "lane"]) (sc := defScope s_word_of) (by decide +kernel)) (fun _ _ _ _ _ => (pg_name (i := 1) sc_word_of.nd rfl (Or.inl rfl))) (fun _ _ _ _ _ => (pts_one (PW.pt (pw_or (pt_cmpR op_eq (pv 1) pe_int (nomark _)) (pw_or1 (pt_cmpR op_ne (pe_ix (ixT K) (pv 0) (pv 1) (fun _ _ => rfl)) (pe_ix (ixT K) (pv 0) (pe_op op_sub (pv 1) pe_int) (fun _ _ => rfl)) (nomark _))))))) (fun _ _ _ _ _ => (pe_ix (ixT K) (pv 0) (pv 1) (fun _ _ => rfl)))) pa_nil)))), ?_⟩
  refine ⟨_, rfl, a, _, rfl, .inr hT, _, rfl, by omega, by rw [List.length_map]; omega, fun D hD => ?_⟩
  refine lc_range (lo := 0) (n := (((xs.map V.int).length : Nat) : Int).toNat) (fun i H' => Same H H' ∧ H' D = some (.lst ((wd (xs.take i)).map V.int))) ⟨same_new hD _, upd_same⟩ ?_ ?_
  · rintro i H' hi ⟨hs, hd⟩
    rw [List.length_map] at hi
    have hlt : i < xs.length := by omega
    have hc := List.getElem?_eq_getElem hlt
    have hT' := Same.seqT hs hT
    have acc : (wd (xs.take i)).length ≤ 1000 := Nat.le_trans (wd_length _) (by rw [List.length_take]; omega)
    have more : (xs.take i).getLast? ≠ some xs[i] → wd (xs.take (i + 1)) = wd (xs.take i) ++ [xs[i]] := fun h => by
      rw [take_at hc, wd_snoc, if_neg h]
    have less : (xs.take i).getLast? = some xs[i] → wd (xs.take (i + 1)) = wd (xs.take i) := fun h => by
      rw [take_at hc, wd_snoc, if_pos h]
    have done : wd (xs.take (i + 1)) = wd (xs.take i) ++ [xs[i]] → (Same H (upd H' D (.lst ((wd (xs.take i)).map V.int ++ [V.int xs[i]])))) ∧ (upd H' D (.lst ((wd (xs.take i)).map V.int ++ [V.int xs[i]]))) D = some (.lst ((wd (xs.take (i + 1))).map V.int)) := fun e => by
      refine ⟨Same.upd hs hD _, ?_⟩
      rw [upd_same, e, List.map_append]
      rfl
    refine ⟨rfl, ?_⟩
    refine ⟨_, rfl, rfl, _, rfl, ?_⟩
    refine ite2 (fun e => ?_) (fun e => ?_)
    · have e2 := of_decide_eq_true e
      injection e2 with e2
      have e3 : i = 0 := by omega
      refine ⟨_, rfl, _, rfl, a, _, _, _, rfl, rfl, hT', at_of (j := i) (by omega) (int_at hc), _, hd, by rw [List.length_map]; exact small1000 acc, ?_⟩
      refine done (more ?_)
      have e6 : xs.take i = [] := by rw [e3, List.take_zero]
      rw [e6]
      exact fun z => (by cases z)
    · have e2 := of_decide_eq_false (Bool.eq_false_iff.mpr e)
      have e3 : 0 < i := by
        rcases Nat.eq_zero_or_pos i with z | z
        · exact absurd (congrArg V.int (by omega)) e2
        · exact z
      have hp : i - 1 < xs.length := by omega
      have hc2 := List.getElem?_eq_getElem hp
      refine ⟨_, rfl, _, rfl, a, _, _, _, rfl, rfl, hT', at_of (j := i) (by omega) (int_at hc), ?_⟩
      refine ⟨_, rfl, _, rfl, _, _, rfl, rfl, a, _, _, _, rfl, rfl, hT', at_of (j := i - 1) (by omega) (int_at hc2), rfl, _, rfl, ?_⟩
      refine ite2 (fun e4 => ?_) (fun e4 => ?_)
      · have e5 : ¬ (V.int xs[i] = V.int xs[i - 1]) := by
          rw [Bool.not_eq_true', decide_eq_false_iff_not] at e4
          exact e4
        refine ⟨_, rfl, _, rfl, a, _, _, _, rfl, rfl, hT', at_of (j := i) (by omega) (int_at hc), _, hd, by rw [List.length_map]; exact small1000 acc, ?_⟩
        refine done (more ?_)
        rw [getLast_take e3 (by omega), hc2]
        intro z
        exact e5 (congrArg V.int (Option.some.inj z).symm)
      · have e5 : V.int xs[i] = V.int xs[i - 1] := by
          rw [Bool.not_eq_true, Bool.not_eq_false', decide_eq_true_iff] at e4
          exact e4
        injection e5 with e5
        refine ⟨hs, ?_⟩
        rw [hd, less]
        rw [getLast_take e3 (by omega), hc2, e5]
  · rintro H' ⟨hs, hd⟩
    rw [List.length_map, show ((xs.length : Nat) : Int).toNat = xs.length by omega, List.take_length] at hd
    refine ⟨D, _, rfl, .inl ⟨SqL.of hd, fun q hq => ?_⟩⟩
    exact k q _ (Same.upd hs (hs.free hq) _) (Wd.new upd_same)
end
end Fl
end

section
set_option Elab.async false
set_option linter.all false
set_option maxRecDepth 100000
set_option maxHeartbeats 4000000
/-! Own rules, part 2: a dict whose keys are (n, (p, q)), kept for numbers that are known by a function. -/
namespace Fl
open PySem PySem.Spec PyProof.Rows L2

abbrev Ent := NestedKey × Addr × Value
def nk (z : Nat × Nat × Nat) : NestedKey := .tup [.num z.1, .tup [.num z.2.1, .num z.2.2]]
theorem nk_inj {a b : Nat × Nat × Nat} (h : nk a = nk b) : a = b := by
  obtain ⟨a1, a2, a3⟩ := a
  obtain ⟨b1, b2, b3⟩ := b
  unfold nk at h
  injection h with h
  injection h with h1 h
  injection h with h _
  injection h with h
  injection h with h2 h
  injection h with h3 _
  injection h1 with h1
  injection h2 with h2
  injection h3 with h3
  dsimp only at h1 h2 h3
  have e1 : a1 = b1 := by omega
  have e2 : a2 = b2 := by omega
  have e3 : a3 = b3 := by omega
  rw [e1, e2, e3]
/-- b is the tuple (n, (p, q)) -/
def KeyAt (H : Hp) (b : Addr) (z : Nat × Nat × Nat) : Prop := ∃ t, H b = some (.tup [.int z.1, .ref t]) ∧ H t = some (.tup [.int z.2.1, .int z.2.2])
def memoO (P : Program) (w : World) (d : Addr) (xs : List Ent) : HO :=
  .ext fun h => ∃ o es ep, h.get? d = some o ∧ o.ExactDict ∧ o.data = .dict es ep ∧ es.toList = xs.map (entryOfKey (nestedKind P w)) ∧ (xs.map (·.1)).Nodup
theorem memoO_tup {P : Program} {w : World} {d : Addr} {xs : List Ent} {ys : List V} : memoO P w d xs ≠ .tup ys := fun z => nomatch z
/-- the dict at d: each value is the function's -/
structure MemoX (P : Program) (w : World) (c : Nat × Nat × Nat → Nat) (H : Hp) (d : Addr) (xs : List Ent) : Prop where
  at_ : H d = some (memoO P w d xs)
  low : (d == sysModules) = false
  good : ∀ x ∈ xs, ∃ z tk, x.1 = nk z ∧ KeyAt H x.2.1 z ∧ x.2.2 = Value.int (c z) tk
def has (xs : List Ent) (z : Nat × Nat × Nat) : Prop := (atKey xs (nk z)).isSome = true

section
variable {P : Program} {w : World} {c : Nat × Nat × Nat → Nat} {H : Hp} {h : Heap} {d b : Addr} {xs : List Ent} {z : Nat × Nat × Nat}
theorem tup_get (ok : HOk P w H h) {ys : List V} (e : H b = some (.tup ys)) : ∃ (its : List Value) (o : Obj) (n : Nat), Vals ys its ∧ h.get? b = some o ∧ o.cls = .type "tuple" ∧ o.data = .seq its.toArray n := by
  obtain ⟨_, its, r, o, h1, h2, n, h3⟩ := (show ObjOk P w H h b (.tup ys) from ok b _ e)
  exact ⟨its, o, n, r, h1, h2, h3⟩
theorem int_val {i : Int} {u : Value} (r : RelV (.int i) u) : ∃ t, u = .int i t := r
theorem key_nested (ok : HOk P w H h) (e : KeyAt H b z) : (nestedKind P w).is h (nk z) b := by
  obtain ⟨t, e1, e2⟩ := e
  obtain ⟨its, o, n, r, h1, h2, h3⟩ := tup_get ok e1
  obtain ⟨its2, o2, n2, r2, g1, g2, g3⟩ := tup_get ok e2
  refine ⟨?_, (by show 2 ≤ 8; decide)⟩
  cases r with
  | cons ra r =>
    cases r with
    | cons rb r =>
      cases r
      obtain ⟨ta, rfl⟩ := int_val ra
      cases (show _ = Value.ref t from rb)
      cases r2 with
      | cons rc r2 =>
        cases r2 with
        | cons rd r2 =>
          cases r2
          obtain ⟨tc, rfl⟩ := int_val rc
          obtain ⟨td, rfl⟩ := int_val rd
          exact .tup h1 h2 h3 (.cons (.int _ _) (.cons (.tup g1 g2 g3 (.cons (.int _ _) (.cons (.int _ _) .nil))) .nil))
theorem MemoX.dict (m : MemoX P w c H d xs) (ok : HOk P w H h) : h.DictOfH (nestedKind P w) d xs := by
  obtain ⟨⟨o, es, ep, h1, h2, h3, h4, h5⟩, _⟩ := (show ObjOk P w H h d (memoO P w d xs) from ok d _ m.at_)
  refine ⟨o, es, ep, h1, h2, h3, h4, fun x hx => ?_, h5⟩
  obtain ⟨z, tk, e1, e2, _⟩ := m.good x hx
  rw [e1]
  exact key_nested ok e2
theorem memo_ok {h' : Heap} {H' : Hp} (hd : h'.DictOfH (nestedKind P w) d xs) : ObjOk P w H' h' d (memoO P w d xs) := by
  obtain ⟨o, es, ep, h1, h2, h3, h4, _, h5⟩ := hd
  exact ⟨⟨o, es, ep, h1, h2, h3, h4, h5⟩, ⟨o, h1⟩, fun g1 g2 ⟨o1, es1, ep1, q1, q2, q3, q4, q5⟩ k => ⟨o1, es1, ep1, k _ q1, q2, q3, q4, q5⟩⟩
theorem storedH_len (k : NestedKey) (a : Addr) (v : Value) : (storedH xs k a v).length ≤ xs.length + 1 := by
  unfold storedH
  by_cases e : (atKey xs k).isSome = true
  · rw [if_pos e, List.length_map]
    omega
  · rw [if_neg e, List.length_append]
    exact Nat.le_refl _
theorem storedH_has (k : NestedKey) (a : Addr) (v : Value) : (atKey (storedH xs k a v) k).isSome = true := by
  have h : ∀ ys : List Ent, (∃ x ∈ ys, x.1 = k) → (atKey ys k).isSome = true := by
    intro ys ⟨x, hx, e⟩
    unfold atKey
    rw [Option.isSome_map, List.find?_isSome]
    exact ⟨x, hx, decide_eq_true e⟩
  refine h _ ?_
  unfold storedH
  by_cases e : (atKey xs k).isSome = true
  · rw [if_pos e]
    unfold atKey at e
    rw [Option.isSome_map, List.find?_isSome] at e
    obtain ⟨x, hx, e⟩ := e
    have e := of_decide_eq_true e
    refine ⟨putAt k v x, List.mem_map.mpr ⟨x, hx, rfl⟩, ?_⟩
    unfold putAt
    rw [if_pos e]
    exact e
  · rw [if_neg e]
    exact ⟨_, List.mem_append.mpr (.inr (List.mem_singleton.mpr rfl)), rfl⟩
theorem storedH_good {Pr : Ent → Prop} {k : NestedKey} {a : Addr} {v : Value} (h : ∀ x ∈ xs, Pr x) (hn : Pr (k, a, v)) (hp : ∀ x, Pr x → x.1 = k → Pr (x.1, x.2.1, v)) : ∀ x ∈ storedH xs k a v, Pr x := by
  intro x hx
  unfold storedH at hx
  by_cases e : (atKey xs k).isSome = true
  · rw [if_pos e] at hx
    obtain ⟨y, hy, e2⟩ := List.mem_map.mp hx
    unfold putAt at e2
    by_cases q : y.1 = k
    · rw [if_pos q] at e2
      rw [← e2]
      exact hp y (h y hy) q
    · rw [if_neg q] at e2
      rw [← e2]
      exact h y hy
  · rw [if_neg e] at hx
    rcases List.mem_append.mp hx with hx | hx
    · exact h x hx
    · rw [List.mem_singleton.mp hx]
      exact hn
end

/-- {} to be such a dict -/
def tMNew (P : Program) (w : World) : TE := fun _ H Q => ∀ p, H p = none → (p == sysModules) = false → Q (.ref p) (upd H p (memoO P w p []))
/-- k not in d: where it says no, the key is there -/
def tMNotIn (P : Program) (w : World) (c : Nat × Nat × Nat → Nat) (ty td : TE) : TE := fun σ H Q => ty σ H fun y H1 => td σ H1 fun x H2 => ∃ d b z xs, x = .ref d ∧ y = .ref b ∧ KeyAt H2 b z ∧ MemoX P w c H2 d xs ∧ ∀ r : Bool, (r = false → has xs z) → Q (.bl r) H2
/-- d[k], there -/
def tMGet (P : Program) (w : World) (c : Nat × Nat × Nat → Nat) (td ty : TE) : TE := fun σ H Q => td σ H fun x H1 => ty σ H1 fun y H2 => ∃ d b z xs, x = .ref d ∧ y = .ref b ∧ KeyAt H2 b z ∧ MemoX P w c H2 d xs ∧ has xs z ∧ Q (.int (c z)) H2
/-- d[k] = v -/
def sMPut (P : Program) (w : World) (c : Nat × Nat × Nat → Nat) (td ty tv : TE) : TS := fun D σ H => tv σ H fun v H1 => td σ H1 fun x H2 => ty σ H2 fun y H3 => ∃ d b z xs, x = .ref d ∧ y = .ref b ∧ v = .int (c z) ∧ KeyAt H3 b z ∧ MemoX P w c H3 d xs ∧
  xs.length < sizeLine ∧ ∀ xs', xs'.length ≤ xs.length + 1 → has xs' z → MemoX P w c (upd H3 d (memoO P w d xs')) d xs' → D.nx σ (upd H3 d (memoO P w d xs'))
section
variable {X : Cx} {o i value : Expr} {pos pos' : Pos} {td ty tv : TE}
theorem KeyAt.upd {H : Hp} {b d : Addr} {z : Nat × Nat × Nat} {u : HO} (k : KeyAt H b z) (h : ∀ ys, H d ≠ some (.tup ys)) : KeyAt (upd H d u) b z := by
  obtain ⟨t, e1, e2⟩ := k
  refine ⟨t, ?_, ?_⟩
  · rw [upd_ne (fun q => h _ (by rw [← q]; exact e1))]
    exact e1
  · rw [upd_ne (fun q => h _ (by rw [← q]; exact e2))]
    exact e2
theorem MemoX.notTup {P : Program} {w : World} {c : Nat × Nat × Nat → Nat} {H : Hp} {d : Addr} {xs : List Ent} (m : MemoX P w c H d xs) : ∀ ys, H d ≠ some (.tup ys) := fun ys q => by
  rw [m.at_] at q
  exact memoO_tup (Option.some.inj q)
theorem pe_mnew : PE X (.Dict [] [] pos) (tMNew X.prog X.w) := ⟨fun pins s σ H Q I h => by
  refine wpAny_Dict_empty ⟨.ref s.heap.objs.size, _, I.laid (a := s.heap.objs.size) (o := memoO X.prog X.w s.heap.objs.size []) (t' := s.toks) (fun _ _ q => Heap.get?_push_of_some _ q) (Nat.le_refl _) ?_, rfl, h _ (I.hok.fresh (Nat.le_refl _)) ?_⟩
  · exact memo_ok ⟨_, #[], 0, Heap.get?_push_size _ rfl, ⟨rfl, rfl, rfl⟩, rfl, rfl, (fun x hx => nomatch hx), List.nodup_nil⟩
  · exact beq_eq_false_iff_ne.mpr (Ne.symm (Nat.ne_of_lt I.big))⟩
theorem room8 {A : Around} (hu : A.units + 64 < cLine) : A.in1.units + 8 < cLine := by
  show A.units + 1 + 8 < cLine
  omega
theorem pc_mnotin (c : Nat × Nat × Nat → Nat) (hu : X.A.units + 64 < cLine) (hi : PE X i ty) (ho : PE X o td) : PC X .NotIn i o (tMNotIn X.prog X.w c ty td) := by
  refine ⟨fun pins s σ H Q I h => ?_⟩
  refine thn (hi.run pins s σ H _ I h) fun iv s1 hh => ?_
  obtain ⟨y, H1, I1, ry, q1⟩ := hh
  refine thn (ho.run pins s1 σ H1 _ I1 q1) fun u s2 hh => ?_
  obtain ⟨x, H2, I2, rx, d, b, z, xs, ex, ey, kk, m, q2⟩ := hh
  subst ex ey
  obtain rfl : u = Value.ref d := rx
  obtain rfl : iv = Value.ref b := ry
  refine wpAny_notIn_heap (room8 hu) (key_nested I2.hok kk) m.low (m.dict I2.hok) ?_
  refine ⟨.bl _, H2, I2.tok _, rfl, q2 _ fun e => ?_⟩
  unfold has
  rw [Bool.not_eq_false'] at e
  exact e
theorem pe_mget (c : Nat × Nat × Nat → Nat) (hu : X.A.units + 64 < cLine) (ho : PE X o td) (hi : PE X i ty) (hs : NoSl i) : PE X (.Subscript o i pos) (tMGet X.prog X.w c td ty) := by
  refine ⟨fun pins s σ H Q I h => ?_⟩
  refine subD_of PySem.F.slot_dict_getitem.lookup hs (thn (ho.run pins s σ H _ I h) fun u s1 hh => ?_)
  obtain ⟨x, H1, I1, rx, q1⟩ := hh
  refine thn (hi.run pins s1 σ H1 _ I1 q1) fun iv s2 hh => ?_
  obtain ⟨y, H2, I2, ry, d, b, z, xs, ex, ey, kk, m, hz, q2⟩ := hh
  subst ex ey
  obtain rfl : u = Value.ref d := rx
  obtain rfl : iv = Value.ref b := ry
  have dd := m.dict I2.hok
  refine ⟨dd.typeIs, ?_⟩
  obtain ⟨p, hp⟩ := Option.isSome_iff_exists.mp hz
  refine wpAny_getItem_heap (room8 hu) (key_nested I2.hok kk) dd hp ?_
  unfold atKey at hp
  obtain ⟨e, he, e3⟩ := Option.map_eq_some_iff.mp hp
  obtain ⟨z', tk, g1, _, g3⟩ := m.good e (List.mem_of_find?_eq_some he)
  have e1 : e.1 = nk z := of_decide_eq_true (p := e.1 = nk z) (by have := List.find?_some he; exact this)
  have ez := nk_inj (g1.symm.trans e1)
  rw [← e3, g3, ez]
  exact ⟨.int (c z), H2, I2.tok _, ⟨tk, rfl⟩, q2⟩
theorem ps_mput (c : Nat × Nat × Nat → Nat) (hu : X.A.units + 64 < cLine) (ho : PE X o td) (hi : PE X i ty) (hv : PE X value tv) (hs : swapsWith value (some (.Subscript o i pos')) pos.line X.env = pure false) :
    PS X (.Assign [.Subscript o i pos'] value pos) (sMPut X.prog X.w c td ty tv) := by
  refine ⟨fun pins s σ H D I h => ?_⟩
  refine wpAny_Assign_Subscript (thn (hv.run pins s σ H _ I h) fun r s1 hh => ?_) hs
  obtain ⟨v, H1, I1, rv, q1⟩ := hh
  refine thn (ho.run pins s1 σ H1 _ I1 q1) fun u s2 hh => ?_
  obtain ⟨x, H2, I2, rx, q2⟩ := hh
  refine thn (hi.run pins s2 σ H2 _ I2 q2) fun iv s3 hh => ?_
  obtain ⟨y, H3, I3, ry, d, b, z, xs, ex, ey, ev, kk, m, hz, q3⟩ := hh
  subst ex ey ev
  obtain rfl : u = Value.ref d := rx
  obtain rfl : iv = Value.ref b := ry
  obtain ⟨tk, rfl⟩ := int_val rv
  refine wpAny_setItem_heap (hsz := Nat.le_of_lt hz) (room8 hu) (key_nested I3.hok kk) (m.dict I3.hok) fun h' dd' hs' => ?_
  have hd : ∃ q, h'.get? d = some q := by
    obtain ⟨q, _, _, hq, _⟩ := dd'
    exact ⟨q, hq⟩
  refine ⟨σ, _, d_write I3 (by rw [m.at_]; exact True.intro) hs' hd (memo_ok dd'), q3 _ (storedH_len _ _ _) (storedH_has _ _ _) ⟨upd_same, m.low, ?_⟩⟩
  refine storedH_good (fun x hx => ?_) ⟨z, tk, rfl, kk.upd m.notTup, rfl⟩ fun x hx e => ?_
  · obtain ⟨z', tk', g1, g2, g3⟩ := m.good x hx
    exact ⟨z', tk', g1, g2.upd m.notTup, g3⟩
  · obtain ⟨z', tk', g1, g2, g3⟩ := hx
    have ez := nk_inj (g1.symm.trans e)
    exact ⟨z', tk, g1, g2, by rw [ez]⟩
end
end Fl
end

section
set_option Elab.async false
set_option linter.all false
set_option maxRecDepth 100000
set_option maxHeartbeats 4000000
/-! The class Pairs: its two words, what goes on from two places. -/
namespace Fl
open PySem PySem.Spec PyProof.Rows L2

/-! ### lists in step -/
theorem paired_imp {α β : Type} {F G : α → β → Prop} : ∀ {l : List α} {m : List β}, Paired F l m → (∀ a b, F a b → G a b) → Paired G l m
  | _, _, .nil, _ => .nil
  | _, _, .cons h t, k => .cons (k _ _ h) (paired_imp t k)
theorem paired_app {α β : Type} {F : α → β → Prop} : ∀ {l l' : List α} {m m' : List β}, Paired F l m → Paired F l' m' → Paired F (l ++ l') (m ++ m')
  | _, _, _, _, .nil, h => h
  | _, _, _, _, .cons h t, h2 => .cons h (paired_app t h2)
theorem paired_len {α β : Type} {F : α → β → Prop} : ∀ {l : List α} {m : List β}, Paired F l m → l.length = m.length
  | _, _, .nil => rfl
  | _, _, .cons _ t => by rw [List.length_cons, List.length_cons, paired_len t]
theorem paired_at {α β : Type} {F : α → β → Prop} : ∀ {l : List α} {m : List β} {i : Nat} {a : α}, Paired F l m → l[i]? = some a → ∃ b, m[i]? = some b ∧ F a b
  | _, _, i, a, .nil, h => by cases h
  | _, _, 0, a, .cons h t, e => by
    have := Option.some.inj e
    subst this
    exact ⟨_, rfl, h⟩
  | _, _, i + 1, a, .cons h t, e => paired_at (i := i) t e
theorem filterMap_take {α β : Type} {f : α → Option β} {l : List α} {i : Nat} {a : α} (h : l[i]? = some a) : (l.take (i + 1)).filterMap f = (l.take i).filterMap f ++ (f a).toList := by
  rw [take_at h, List.filterMap_append]
  congr 1

/-! ### the object -/
theorem wk_ne : ¬ (("words" : Str) = "known") := by decide +kernel
def pfl (wt d : Addr) : List (Str × V) := putF "known" (.ref d) (putF "words" (.ref wt) [])
theorem pfl_words (wt d : Addr) : (pfl wt d).lookup ("words" : Str) = some (.ref wt) := by
  unfold pfl
  rw [lookup_putF, if_neg wk_ne, lookup_putF, if_pos rfl]
theorem pfl_known (wt d : Addr) : (pfl wt d).lookup ("known" : Str) = some (.ref d) := by
  unfold pfl
  rw [lookup_putF, if_pos rfl]
theorem pfl_no (wt d : Addr) {m : Str} (h1 : ¬ m = "known") (h2 : ¬ m = "words") : (pfl wt d).lookup m = none := by
  unfold pfl
  rw [lookup_putF, if_neg h1, lookup_putF, if_neg h2]
  all_goals rfl
/-- what the text says of the class -/
structure PrC (K : PySem.W.Frag) (C : Addr) : Prop where
  cl : Cls K C
  nW : NoAttr K C "words"
  nK : NoAttr K C "known"
/-- a Pairs at x of the words one and two; its dict at d -/
structure PrAt (K : PySem.W.Frag) (C : Addr) (one two : List Int) (H : Hp) (x d : Addr) : Prop where
  ob : ∃ dx wt w1 w2, H x = some (.ins C dx (pfl wt d)) ∧ H wt = some (.tup [.ref w1, .ref w2]) ∧ SqT K H w1 (one.map V.int) ∧ SqT K H w2 (two.map V.int)
def SameB (d : Addr) (H H' : Hp) : Prop := ∀ b o, b ≠ d → H b = some o → H' b = some o
theorem Same.b {H H' : Hp} (e : Same H H') (d : Addr) : SameB d H H' := fun b o _ h => e b o h
theorem SameB.trans {d : Addr} {H H1 H2 : Hp} (a : SameB d H H1) (b : SameB d H1 H2) : SameB d H H2 := fun c o n h => b c o n (a c o n h)
theorem SameB.seqT {K : PySem.W.Frag} {H H' : Hp} {a d : Addr} {xs : List V} (e : SameB d H H') (hd : ∀ ys, H d ≠ some (.tup ys)) (hf : ∀ o ys, H d ≠ some (.frz o (.tup ys))) (h : SqT K H a xs) : SqT K H' a xs := by
  rcases h with (h | ⟨o, h⟩) | h
  · exact .inl (.inl (e _ _ (fun q => hd _ (by rw [← q]; exact h)) h))
  · exact .inl (.inr ⟨o, e _ _ (fun q => hf _ _ (by rw [← q]; exact h)) h⟩)
  · exact .inr h
theorem memo_frz {P : Program} {w : World} {d : Addr} {xs : List Ent} {o : Obj} {ys : List V} : memoO P w d xs ≠ .frz o (.tup ys) := fun z => nomatch z
theorem memo_ins {P : Program} {w : World} {d C dx : Addr} {xs : List Ent} {fs : List (Str × V)} : memoO P w d xs ≠ .ins C dx fs := fun z => nomatch z
theorem PrAt.same {K : PySem.W.Frag} {C : Addr} {one two : List Int} {H H' : Hp} {x d : Addr} (p : PrAt K C one two H x d) {P : Program} {w : World} {xs : List Ent} (hd : H d = some (memoO P w d xs)) (e : SameB d H H') : PrAt K C one two H' x d := by
  obtain ⟨dx, wt, w1, w2, h1, h2, h3, h4⟩ := p.ob
  have nt : ∀ ys, H d ≠ some (.tup ys) := fun ys q => by
    rw [hd] at q
    exact memoO_tup (Option.some.inj q)
  have nf : ∀ o ys, H d ≠ some (.frz o (.tup ys)) := fun o ys q => by
    rw [hd] at q
    exact memo_frz (Option.some.inj q)
  refine ⟨dx, wt, w1, w2, e _ _ (fun q => ?_) h1, e _ _ (fun q => nt _ (by rw [← q]; exact h2)) h2, e.seqT nt nf h3, e.seqT nt nf h4⟩
  rw [q, hd] at h1
  exact memo_ins (Option.some.inj h1)

/-! ### what goes on -/
/-- v is (c, (p, q)) -/
def IsGo (H : Hp) (v : V) (y : Int × Nat × Nat) : Prop := ∃ a t, v = .ref a ∧ H a = some (.tup [.int y.1, .ref t]) ∧ H t = some (.tup [.int y.2.1, .int y.2.2])
theorem IsGo.same {H H' : Hp} (e : Same H H') {v : V} {y : Int × Nat × Nat} (h : IsGo H v y) : IsGo H' v y := by
  obtain ⟨a, t, rfl, h1, h2⟩ := h
  exact ⟨a, t, rfl, e _ _ h1, e _ _ h2⟩
def spPrInit (K : PySem.W.Frag) (C : Addr) (P : Program) (w : World) : Sp := fun vs H Q _ => ∃ (x dx : Addr) (v u : V) (xs ys : List Int), vs = [.ref x, v, u] ∧ H x = some (.ins C dx []) ∧ Wd K H v xs ∧ Wd K H u ys ∧ xs.length ≤ 1000 ∧ ys.length ≤ 1000 ∧
  ∀ (d : Addr) (H' : Hp), (d == sysModules) = false → H d = none → (∀ b o, H b = some o → b ≠ x → H' b = some o) → H' d = some (memoO P w d []) → PrAt K C (wd xs) (wd ys) H' x d → Q .non H'
def spGo (K : PySem.W.Frag) (C : Addr) : Sp := fun vs H Q _ => ∃ (x pl d : Addr) (one two : List Int) (p q : Nat), vs = [.ref x, .ref pl] ∧ PrAt K C one two H x d ∧ one.length ≤ 1000 ∧ two.length ≤ 1000 ∧ p ≤ 1000 ∧ q ≤ 1000 ∧ H pl = some (.tup [.int p, .int q]) ∧
  ∀ r H' vs, Same H H' → H' r = some (.lst vs) → Paired (IsGo H') vs (gon one two p q) → Q (.ref r) H'

def gone (one two : List Int) (p q : Nat) (c : Int) : Option (Int × Nat × Nat) := match nxt one p c, nxt two q c with
  | some p', some q' => some (c, p', q')
  | _, _ => none
theorem gon_eq (one two : List Int) (p q : Nat) : gon one two p q = letters.filterMap (gone one two p q) := rfl

section
variable {P : Program} {w : World} {K : PySem.W.Frag} {mg : Str → Option Value} {base : Heap} {f : Addr} {fd : FuncData} {Cp : Addr}
abbrev s_Pairs_init : Stmt := inClass (top 25) 0
theorem sc_Pairs_init : FnScope ["self", "row", "other"] ["self", "row", "other"] (defScope s_Pairs_init) := ⟨rfl, rfl, rfl, by decide +kernel, rfl, by decide +kernel, by decide +kernel⟩
theorem ok_Pairs_init (F : Fun K "__init__" "Pairs.__init__" s_Pairs_init f fd) (C : PrC K Cp) {f1 : Addr} {fd1 : FuncData} (kword_of : Kn P w K mg base CX0 1 "word_of" ["row"] (spWordOf K) f1 fd1) :
    FnOk P w K mg base CX0 2 f fd ["self", "row", "other"] (spPrInit K Cp P w) := by
  refine F.ok sc_Pairs_init (fun vs H Q E h => ?_) (fun cdv A outer s H vs Q E hr h => ?_)
  · obtain ⟨x, dx, v, u, xs, ys, rfl, _⟩ := h
    rfl
  obtain ⟨x, dx, v, u, xs, ys, rfl, hx, hv, hu, l1, l2, k⟩ := h
  refine ⟨_, (pss_cons (ps_fld (pv 0) (pe_tup (pa_cons (pk kword_of hr (by decide) pass0 (pa_cons (pv 1) pa_nil)) (pa_cons (pk kword_of hr (by decide) pass0 (pa_cons (pv 2) pa_nil)) pa_nil))) rfl)
      (pss_one (ps_fld (pv 0) pe_mnew rfl))), ?_⟩
  refine ⟨_, rfl, v, xs, rfl, hv, l1, fun p1 H1 s1 w1 => ?_⟩
  refine ⟨_, rfl, u, ys, rfl, hu.same s1, l2, fun p2 H2 s2 w2 => ?_⟩
  obtain ⟨_, e1, w1⟩ := w1
  cases e1
  obtain ⟨_, e2, w2⟩ := w2
  cases e2
  refine ⟨(by show 2 ≤ sizeLine; decide), fun wt hwt => ?_⟩
  have s02 := s1.trans s2
  have s03 := Same.upd s02 (s02.free hwt) (.tup [.ref p1, .ref p2])
  refine ⟨_, rfl, x, Cp, dx, [], rfl, s03 _ _ hx, C.cl, C.nW, (by show 0 < 1000; decide), ?_⟩
  intro d hd lowd
  have hd3 : upd H2 wt (.tup [.ref p1, .ref p2]) d = none := by
    by_cases q : d = x
    · rw [q, upd_same] at hd
      cases hd
    · rw [upd_ne q] at hd
      exact hd
  have hd0 := s03.free hd3
  have nxd : x ≠ d := fun q => by rw [q, hd0] at hx; cases hx
  refine ⟨_, rfl, x, Cp, dx, _, rfl, (by rw [upd_ne nxd]; exact upd_same), C.cl, C.nK, (by show 1 < 1000; decide), ?_⟩
  have keep : ∀ b o, H b = some o → b ≠ x → (upd (upd (upd (upd H2 wt (.tup [.ref p1, .ref p2])) x (.ins Cp dx (putF "words" (.ref wt) []))) d (memoO P w d [])) x (.ins Cp dx (pfl wt d))) b = some o := fun b o e n => by
    rw [upd_ne n, upd_ne (fun q => by rw [q, hd0] at e; cases e), upd_ne n]
    exact s03 _ _ e
  have keep3 : ∀ b o, upd H2 wt (.tup [.ref p1, .ref p2]) b = some o → b ≠ x → (upd (upd (upd (upd H2 wt (.tup [.ref p1, .ref p2])) x (.ins Cp dx (putF "words" (.ref wt) []))) d (memoO P w d [])) x (.ins Cp dx (pfl wt d))) b = some o := fun b o e n => by
    rw [upd_ne n, upd_ne (fun q => by rw [q, hd3] at e; cases e), upd_ne n]
    exact e
  have seq : ∀ a xs, SqT K H2 a xs → SqT K (upd (upd (upd (upd H2 wt (.tup [.ref p1, .ref p2])) x (.ins Cp dx (putF "words" (.ref wt) []))) d (memoO P w d [])) x (.ins Cp dx (pfl wt d))) a xs := fun a zs hh => by
    have hx2 := s02 _ _ hx
    have hh3 := Same.seqT (same_new hwt (.tup [.ref p1, .ref p2])) hh
    rcases hh3 with (h | ⟨o, h⟩) | h
    · refine .inl (.inl (keep3 _ _ h fun q => ?_))
      rw [q, upd_ne (fun z => by rw [← z, hx2] at hwt; cases hwt), hx2] at h
      cases h
    · refine .inl (.inr ⟨o, keep3 _ _ h fun q => ?_⟩)
      rw [q, upd_ne (fun z => by rw [← z, hx2] at hwt; cases hwt), hx2] at h
      cases h
    · exact .inr h
  refine k d _ lowd hd0 keep ?_ ⟨dx, wt, p1, p2, upd_same, ?_, seq _ _ (Same.seqT s2 w1), seq _ _ w2⟩
  · rw [upd_ne nxd.symm, upd_same]
    rfl
  · refine keep3 _ _ upd_same fun q => ?_
    rw [q] at hwt
    rw [s02 _ _ hx] at hwt
    cases hwt
abbrev s_Pairs_goes_on : Stmt := inClass (top 25) 1
theorem sc_Pairs_goes_on : FnScope ["self", "places", "found", "letter", "there", "word", "place"] ["self", "places"] (defScope s_Pairs_goes_on) := ⟨rfl, rfl, rfl, by decide +kernel, rfl, by decide +kernel, by decide +kernel⟩
theorem ok_goes_on (F : Fun K "goes_on" "Pairs.goes_on" s_Pairs_goes_on f fd) (B : Bn mg) (G : Gn mg) (C : PrC K Cp) {f1 : Addr} {fd1 : FuncData} (knext_place : Kn P w K mg base CX0 1 "next_place" ["row", "first", "letter"] (spNext K) f1 fd1) :
    FnOk P w K mg base CX0 2 f fd ["self", "places"] (spGo K Cp) := by
  refine F.ok sc_Pairs_goes_on (fun vs H Q E h => ?_) (fun cdv A outer s H vs Q E hr h => ?_)
  · obtain ⟨x, pl, d, one, two, p, q, rfl, _⟩ := h
    rfl
  obtain ⟨x, pl, d, one, two, p, q, rfl, ⟨dx, wt, w1, w2, h1, h2, h3, h4⟩, l1, l2, lp, lq, hpl, k⟩ := h
  refine ⟨_, (pss_cons (ps_set (i := 2) sc_Pairs_goes_on.nd rfl (Or.inl rfl) (pe_lst pa_nil))
      (pss_cons (ps_for PassesOwn.never rfl (pi_range1 (by rfl) B.range_ (pa_cons (pgi G.MOST_LETTERS) pa_nil)) (pg_name (i := 3) sc_Pairs_goes_on.nd rfl (Or.inr rfl))
      (pss_cons (ps_set (i := 4) sc_Pairs_goes_on.nd rfl (Or.inl rfl) (pe_callTy call_tuple_of (by rfl) B.tuple_ (by decide +kernel) (pa_cons (pe_lc (own := [("word", 5), ("place", 6)]) (by rfl) sc_Pairs_goes_on.nd (RZ.pi_zipA (by rfl) B.zip_ (pa_cons (pe_fld (pv 0) rfl) (pa_cons (pv 1) pa_nil))) (blkOk_by (N := ["self", "places", "found", "letter", "there", "word", "place"]) (sc := defScope s_Pairs_goes_on) (by decide +kernel)) (fun _ _ _ _ _ => (pgTupK (n := 2) K (by rfl) (by rfl) (pgs_cons (pg_name (i := 5) sc_Pairs_goes_on.nd rfl (Or.inl rfl)) (pgs_cons (pg_name (i := 6) sc_Pairs_goes_on.nd rfl (Or.inl rfl)) pgs_nil)))) (fun _ _ _ _ _ => pts_nil) (fun _ _ _ _ _ => (pk knext_place hr (by decide) pass0 (pa_cons (pv 5) (pa_cons (pv 6) (pa_cons (pv 3) pa_nil)))))) pa_nil)))
      (pss_one (ps_if (pt_cmpR op_notIn_seq pe_non (pv 4) (by rfl)) (pss_one (ps_expr (pe_bm PySem.F.plainAttrs_list PySem.F.slot_list_append PySem.F.type_list_append mt_append (pv 2) (pa_cons (pe_tup (pa_cons (pv 3) (pa_cons (pv 4) pa_nil))) pa_nil)))) pss_nil))))
      (pss_one (ps_ret (pv 2))))), ?_⟩
  refine ⟨Nat.zero_le _, fun D hD => ?_⟩
  refine ⟨4, rfl, by decide, by decide, for_range (lo := 0) (n := 4) (fun i σ H' => Same H H' ∧ ∃ (u v : Option V) (vs : List V) (z1 z2 : Option V), σ = [some (.ref x), some (.ref pl), some (.ref D), u, v, z1, z2] ∧ H' D = some (.lst vs) ∧ Paired (IsGo H') vs ((letters.take i).filterMap (gone one two p q)))
    ⟨same_new hD _, none, none, [], none, none, rfl, upd_same, .nil⟩ ?_ ?_⟩
  · rintro i σ H' hi ⟨hs, u, v, vs, z1, z2, rfl, hd, hp⟩
    have hlet : letters[i]? = some (i : Int) := by
      have : i = 0 ∨ i = 1 ∨ i = 2 ∨ i = 3 := by omega
      rcases this with rfl | rfl | rfl | rfl <;> rfl
    have hl4 : vs.length ≤ 4 := by
      rw [paired_len hp]
      refine Nat.le_trans (List.length_filterMap_le _ _) ?_
      rw [List.length_take]
      exact Nat.min_le_right _ _
    -- tuple([next_place(word, place, letter) for word, place in zip(self.words, places)])
    refine ⟨_, rfl, x, Cp, dx, _, _, rfl, hs _ _ h1, C.cl, C.nW, pfl_words _ _, _, rfl, wt, pl, _, _, rfl, .inr ⟨SqT.of (hs _ _ h2), SqT.of (hs _ _ hpl), fun D2 hD2 => ?_⟩⟩
    have nD2 := hs.free hD2
    refine lc_it (walk_zipT (K := K) (a := wt) (b := pl) (xs := [.ref w1, .ref w2]) (ys := [.int p, .int q]) rfl)
      (fun j H2 => Same H' H2 ∧ H2 D2 = some (.lst ([optV (nxt one p i), optV (nxt two q i)].take j))) ⟨same_new hD2 _, upd_same⟩ (fun j H2 _ h => ⟨SqT.of (h.1 _ _ (hs _ _ h2)), SqT.of (h.1 _ _ (hs _ _ hpl))⟩) ?_ ?_
    · rintro j y H2 H3 hj ⟨hs2, hd2⟩ ⟨T, a, b, rfl, hT, rfl, ha, hb⟩
      have hs3 : Same H' (upd H2 T (.tup [a, b])) := Same.upd hs2 (hs2.free hT) _
      have hd3 : (upd H2 T (.tup [a, b])) D2 = some (.lst ([optV (nxt one p i), optV (nxt two q i)].take j)) := by
        rw [upd_ne (fun z => by rw [← z, hd2] at hT; cases hT)]
        exact hd2
      have put : ∀ {vv : V}, ([optV (nxt one p i), optV (nxt two q i)].take (j + 1)) = ([optV (nxt one p i), optV (nxt two q i)].take j) ++ [vv] → Same H' (upd (upd H2 T (.tup [a, b])) D2 (.lst (([optV (nxt one p i), optV (nxt two q i)].take j) ++ [vv]))) ∧
          (upd (upd H2 T (.tup [a, b])) D2 (.lst (([optV (nxt one p i), optV (nxt two q i)].take j) ++ [vv]))) D2 = some (.lst ([optV (nxt one p i), optV (nxt two q i)].take (j + 1))) := fun {vv} e => by
        refine ⟨Same.upd hs3 hD2 _, ?_⟩
        rw [upd_same, e]
      refine ⟨T, [a, b], rfl, SqT.of upd_same, rfl, a, [b], rfl, b, [], rfl, rfl, rfl, ?_⟩
      have hj' : j < 2 := hj
      have hjj : j = 0 ∨ j = 1 := by omega
      rcases hjj with rfl | rfl
      · have ea : a = .ref w1 := (Option.some.inj ha).symm
        have eb : b = .int p := (Option.some.inj hb).symm
        subst ea eb
        refine ⟨_, rfl, _, rfl, _, rfl, w1, one, p, (i : Int), by rw [Int.zero_add]; rfl, Same.seqT (hs.trans hs3) h3, l1, by omega, _, hd3, (by show 0 < sizeLine; decide), ?_⟩
        exact put rfl
      · have ea : a = .ref w2 := (Option.some.inj ha).symm
        have eb : b = .int q := (Option.some.inj hb).symm
        subst ea eb
        refine ⟨_, rfl, _, rfl, _, rfl, w2, two, q, (i : Int), by rw [Int.zero_add]; rfl, Same.seqT (hs.trans hs3) h4, l2, by omega, _, hd3, (by show 1 < sizeLine; decide), ?_⟩
        exact put rfl
    · rintro H2 ⟨hs2, hd2'⟩
      have hd2 : H2 D2 = some (.lst [optV (nxt one p i), optV (nxt two q i)]) := hd2'
      refine ⟨D2, _, rfl, .inl ⟨SqL.of hd2, fun t ht => ?_⟩⟩
      have hst : Same H' (upd H2 t (.tup [optV (nxt one p i), optV (nxt two q i)])) := Same.upd hs2 (hs2.free ht) _
      refine ⟨_, rfl, t, _, rfl, .inr (SqT.of upd_same), rfl, ?_, _, rfl, ?_⟩
      · cases nxt one p i <;> cases nxt two q i <;> rfl
      have fin0 : gone one two p q (i : Int) = none → Same H (upd H2 t (.tup [optV (nxt one p i), optV (nxt two q i)])) ∧ ∃ (u v : Option V) (vs' : List V) (y1 y2 : Option V), [some (V.ref x), some (.ref pl), some (.ref D), some (V.int (0 + (i : Int))), some (.ref t), z1, z2] = [some (.ref x), some (.ref pl), some (.ref D), u, v, y1, y2] ∧
          (upd H2 t (.tup [optV (nxt one p i), optV (nxt two q i)])) D = some (.lst vs') ∧ Paired (IsGo (upd H2 t (.tup [optV (nxt one p i), optV (nxt two q i)]))) vs' ((letters.take (i + 1)).filterMap (gone one two p q)) := fun e => by
        refine ⟨hs.trans hst, _, _, vs, z1, z2, rfl, hst _ _ hd, ?_⟩
        rw [filterMap_take hlet, e]
        rw [show ((none : Option (Int × Nat × Nat)).toList) = [] from rfl, List.append_nil]
        exact paired_imp hp fun _ _ g => g.same hst
      cases e1 : nxt one p i with
      | none =>
        refine iteF ?_
        rw [e1] at fin0
        exact fin0 (by unfold gone; rw [e1])
      | some p' =>
        cases e2 : nxt two q i with
        | none =>
          refine iteF ?_
          rw [e1, e2] at fin0
          exact fin0 (by unfold gone; rw [e1, e2])
        | some q' =>
          rw [e1, e2] at hst
          refine iteT ?_
          refine ⟨_, rfl, .inl ⟨rfl, _, SqL.of (hst _ _ hd)⟩, _, rfl, _, rfl, (by show 2 ≤ sizeLine; decide), fun g hg => ?_⟩
          have hsg : Same H' (upd (upd H2 t (.tup [.int p', .int q'])) g (.tup [.int (0 + (i : Int)), .ref t])) := Same.upd hst (hst.free hg) _
          refine ⟨D, vs, _, rfl, rfl, hsg _ _ hd, small1000 (by omega), ?_⟩
          have hDn : H D = none := hD
          refine ⟨Same.upd (hs.trans hsg) hD _, _, _, vs ++ [.ref g], z1, z2, rfl, upd_same, ?_⟩
          rw [filterMap_take hlet, show gone one two p q (i : Int) = some ((i : Int), p', q') by unfold gone; rw [e1, e2]]
          have nD : ∀ c o, (upd (upd H2 t (.tup [.int p', .int q'])) g (.tup [.int (0 + (i : Int)), .ref t])) c = some (.tup o) → (upd (upd (upd H2 t (.tup [.int p', .int q'])) g (.tup [.int (0 + (i : Int)), .ref t])) D (.lst (vs ++ [.ref g]))) c = some (.tup o) := fun c o hc => by
            rw [upd_ne (fun z => ?_)]
            · exact hc
            · rw [z, hsg _ _ hd] at hc
              cases hc
          refine paired_app (paired_imp hp fun v y ⟨a, b, e, g1, g2⟩ => ⟨a, b, e, nD _ _ (hsg _ _ g1), nD _ _ (hsg _ _ g2)⟩) (.cons ⟨g, t, rfl, nD _ _ ?_, nD _ _ ?_⟩ .nil)
          · rw [upd_same, Int.zero_add]
          · have ntg : t ≠ g := fun z => by
              rw [← z, upd_same] at hg
              cases hg
            rw [upd_ne ntg, upd_same]
  · rintro σ H' ⟨hs, u, v, vs, z1, z2, rfl, hd, hp⟩
    exact ⟨_, rfl, k D H' vs hs hd hp⟩
end
end Fl
end

section
set_option Elab.async false
set_option linter.all false
set_option maxRecDepth 100000
set_option maxHeartbeats 4000000
/-! Pairs.many, Pairs.listed. -/
namespace Fl
open PySem PySem.Spec PyProof.Rows L2

def cf (one two : List Int) (z : Nat × Nat × Nat) : Nat := cnt one two z.1 z.2.1 z.2.2
/-- how many entries a call may lay -/
def gr : Nat → Nat
  | 0 => 0
  | n + 1 => 1 + 4 * gr n
theorem gr12 : gr 12 = 5592405 := by decide
theorem sum_cast {α : Type} (f : α → Nat) : ∀ l : List α, (l.map fun y => ((f y : Nat) : Int)).sum = (((l.map f).sum : Nat) : Int)
  | [] => rfl
  | y :: l => by
    rw [List.map_cons, List.map_cons, List.sum_cons, List.sum_cons, sum_cast f l]
    omega
theorem gon_le {one two : List Int} {p q : Nat} {y : Int × Nat × Nat} (h : y ∈ gon one two p q) : y.2.1 < one.length ∧ y.2.2 < two.length ∧ y.1 ∈ letters := by
  rw [gon_eq, List.mem_filterMap] at h
  obtain ⟨c, hc, e⟩ := h
  unfold gone at e
  cases e1 : nxt one p c with
  | none =>
    rw [e1] at e
    cases e
  | some p' =>
    cases e2 : nxt two q c with
    | none =>
      rw [e1, e2] at e
      cases e
    | some q' =>
      rw [e1, e2] at e
      have := Option.some.inj e
      subst this
      exact ⟨(nxt_some e1).2.1, (nxt_some e2).2.1, hc⟩
theorem MemoX.sameE {P : Program} {w : World} {c : Nat × Nat × Nat → Nat} {H H' : Hp} {d : Addr} {xs : List Ent} (m : MemoX P w c H d xs) (e : Same H H') : MemoX P w c H' d xs := by
  refine ⟨e _ _ m.at_, m.low, fun x hx => ?_⟩
  obtain ⟨z, tk, g1, ⟨t, g2, g3⟩, g4⟩ := m.good x hx
  exact ⟨z, tk, g1, ⟨t, e _ _ g2, e _ _ g3⟩, g4⟩
theorem KeyAt.same {H H' : Hp} {b : Addr} {z : Nat × Nat × Nat} (k : KeyAt H b z) (e : Same H H') : KeyAt H' b z := by
  obtain ⟨t, g2, g3⟩ := k
  exact ⟨t, e _ _ g2, e _ _ g3⟩
theorem KeyAt.sameB {H H' : Hp} {b d : Addr} {z : Nat × Nat × Nat} (k : KeyAt H b z) (e : SameB d H H') (hd : ∀ ys, H d ≠ some (.tup ys)) : KeyAt H' b z := by
  obtain ⟨t, g2, g3⟩ := k
  exact ⟨t, e _ _ (fun q => hd _ (by rw [← q]; exact g2)) g2, e _ _ (fun q => hd _ (by rw [← q]; exact g3)) g3⟩
theorem SameB.upd {d : Addr} {H H' : Hp} (e : SameB d H H') {p : Addr} (h : p = d ∨ H p = none) (o : HO) : SameB d H (L2.upd H' p o) := fun b u n q => by
  rcases h with h | h
  · rw [upd_ne (by rw [h]; exact n)]
    exact e b u n q
  · rw [upd_ne (ne_of_none q h)]
    exact e b u n q
theorem SameB.free {d : Addr} {H H' : Hp} (e : SameB d H H') (hd : (H' d).isSome = true) {l : Addr} (h : H' l = none) : H l = none := by
  cases q : H l with
  | none => rfl
  | some o =>
    have n : l ≠ d := fun z => by
      rw [← z, h] at hd
      cases hd
    rw [e l o n q] at h
    cases h

def spMany (K : PySem.W.Frag) (C : Addr) (P : Program) (w : World) (n : Nat) : Sp := fun vs H Q _ => ∃ (x pl d : Addr) (one two : List Int) (p q : Nat) (xs : List Ent), vs = [.ref x, .int n, .ref pl] ∧ PrAt K C one two H x d ∧ one.length ≤ 1000 ∧ two.length ≤ 1000 ∧ p ≤ 1000 ∧ q ≤ 1000 ∧ H pl = some (.tup [.int p, .int q]) ∧
  MemoX P w (cf one two) H d xs ∧ xs.length + gr n < sizeLine ∧ ∀ H' xs', SameB d H H' → MemoX P w (cf one two) H' d xs' → xs'.length ≤ xs.length + gr n → Q (.int (cnt one two n p q)) H'

section
variable {P : Program} {w : World} {K : PySem.W.Frag} {mg : Str → Option Value} {base : Heap} {f : Addr} {fd : FuncData} {Cp : Addr}
abbrev s_Pairs_many : Stmt := inClass (top 25) 2
theorem sc_Pairs_many : FnScope ["self", "lanes", "places", "key", "_", "there"] ["self", "lanes", "places"] (defScope s_Pairs_many) := ⟨rfl, rfl, rfl, by decide +kernel, rfl, by decide +kernel, by decide +kernel⟩
theorem ok_many0 (F : Fun K "many" "Pairs.many" s_Pairs_many f fd) : FnOk P w K mg base CX0 3 f fd ["self", "lanes", "places"] (spMany K Cp P w 0) := by
  refine F.ok sc_Pairs_many (fun vs H Q E h => ?_) (fun cdv A outer s H vs Q E hr h => ?_)
  · obtain ⟨x, pl, d, one, two, p, q, xs, rfl, _⟩ := h
    rfl
  obtain ⟨x, pl, d, one, two, p, q, xs, rfl, hp, l1, l2, lp, lq, hpl, m, hz, k⟩ := h
  refine ⟨_, pss_cons (ps_if (pt_cmpR op_eq (pv 1) pe_int (nomark _)) (pss_one (ps_ret pe_int)) pss_nil) pss_never, ?_⟩
  refine ⟨_, rfl, rfl, _, rfl, iteT ?_⟩
  exact k H xs (fun b o _ e => e) m (Nat.le_refl _)
theorem ok_many1 (F : Fun K "many" "Pairs.many" s_Pairs_many f fd) (B : Bn mg) (C : PrC K Cp) {n : Nat} {f1 : Addr} {fd1 : FuncData} (kgoes_on : KnM P w K mg base CX0 2 Cp "goes_on" ["self", "places"] (spGo K Cp) f1 fd1)
    (kmany : KnM P w K mg base CX0 (n + 3) Cp "many" ["self", "lanes", "places"] (spMany K Cp P w n) f fd) : FnOk P w K mg base CX0 (n + 4) f fd ["self", "lanes", "places"] (spMany K Cp P w (n + 1)) := by
  refine F.ok sc_Pairs_many (fun vs H Q E h => ?_) (fun cdv A outer s H vs Q E hr h => ?_)
  · obtain ⟨x, pl, d, one, two, p, q, xs, rfl, _⟩ := h
    rfl
  obtain ⟨x, pl, d, one, two, p, q, xs, rfl, hp, l1, l2, lp, lq, hpl, m, hz, k⟩ := h
  refine ⟨_, (pss_cons (ps_if (pt_cmpR op_eq (pv 1) pe_int (nomark _)) (pss_one (ps_ret pe_int)) pss_nil)
      (pss_cons (ps_set (i := 3) sc_Pairs_many.nd rfl (Or.inl rfl) (pe_tup (pa_cons (pv 1) (pa_cons (pv 2) pa_nil))))
      (pss_cons (ps_if (pt_cmp (pc_mnotin (cf one two) hr.units (pv 3) (pe_fld (pv 0) rfl))) (pss_one (ps_mput (cf one two) hr.units (pe_fld (pv 0) rfl) (pv 3) (pe_callB (cr_sum rfl) (by rfl) B.sum_ (by decide +kernel) (pa_cons (pe_lc (own := [("_", 4), ("there", 5)]) (by rfl) sc_Pairs_many.nd (pi_list (pmt kgoes_on C.cl hr (by omega) pass0 (pv 0) (pa_cons (pv 2) pa_nil))) (blkOk_by (N := ["self", "lanes", "places", "key", "_", "there"]) (sc := defScope s_Pairs_many) (by decide +kernel)) (fun _ _ _ _ _ => (pgTupK (n := 2) K (by rfl) (by rfl) (pgs_cons (pg_name (i := 4) sc_Pairs_many.nd rfl (Or.inl rfl)) (pgs_cons (pg_name (i := 5) sc_Pairs_many.nd rfl (Or.inl rfl)) pgs_nil)))) (fun _ _ _ _ _ => pts_nil) (fun _ _ _ _ _ => (pmt kmany C.cl hr (by omega) pass0 (pv 0) (pa_cons (pe_op op_sub (pv 1) pe_int) (pa_cons (pv 5) pa_nil))))) pa_nil)) rfl)) pss_nil)
      (pss_one (ps_ret (pe_mget (cf one two) hr.units (pe_fld (pv 0) rfl) (pv 3) (fun _ _ => rfl))))))), ?_⟩
  refine ⟨_, rfl, rfl, _, rfl, ?_⟩
  have e0 : decide (V.int ((n + 1 : Nat) : Int) = V.int 0) = false := decide_eq_false fun z => by
    injection z with z
    omega
  rw [e0]
  refine iteF ?_
  refine ⟨_, rfl, _, rfl, (by show 2 ≤ sizeLine; decide), fun kp hkp => ?_⟩
  have s1 : Same H (upd H kp (.tup [.int (n + 1 : Nat), .ref pl])) := same_new hkp _
  have hk1 : KeyAt (upd H kp (.tup [.int (n + 1 : Nat), .ref pl])) kp (n + 1, p, q) := ⟨pl, upd_same, s1 _ _ hpl⟩
  have m1 := m.sameE s1
  have hp1 := hp.same m.at_ (Same.b s1 d)
  obtain ⟨dx, wt, w1, w2, h1, h2, h3, h4⟩ := id hp1
  refine ⟨_, rfl, _, rfl, x, Cp, dx, _, _, rfl, h1, C.cl, C.nK, pfl_known _ _, d, kp, (n + 1, p, q), xs, rfl, rfl, hk1, m1, fun r hr0 => ⟨_, rfl, ?_⟩⟩
  generalize upd H kp (.tup [.int (n + 1 : Nat), .ref pl]) = H1 at *
  cases r with
  | false =>
    refine iteF ?_
    refine ⟨_, rfl, x, Cp, dx, _, _, rfl, h1, C.cl, C.nK, pfl_known _ _, _, rfl, d, kp, (n + 1, p, q), xs, rfl, rfl, hk1, m1, hr0 rfl, ?_⟩
    exact k H1 xs (Same.b s1 d) m1 (by show _ ≤ _ + (1 + 4 * gr n); omega)
  | true =>
    refine iteT ?_
    refine ⟨_, rfl, x, dx, _, rfl, h1, pfl_no _ _ (by decide +kernel) (by decide +kernel), _, rfl, x, pl, d, one, two, p, q, rfl, hp1, l1, l2, lp, lq, s1 _ _ hpl, fun r H2 vs hs hr hgo => ?_⟩
    have m2 := m1.sameE hs
    have hp2 := hp1.same m1.at_ (Same.b hs d)
    refine ⟨r, rfl, ⟨_, SqL.of hr⟩, fun D hD => ?_⟩
    have nDd : D ≠ d := fun z => by
      rw [z, m2.at_] at hD
      cases hD
    have nrd : r ≠ d := fun z => by
      rw [z, m2.at_] at hr
      cases hr
    refine lc_list (K := K) (a := r) (xs := vs) (fun i H3 => SameB d H2 H3 ∧ (∃ xs', MemoX P w (cf one two) H3 d xs' ∧ xs'.length ≤ xs.length + i * gr n) ∧ H3 D = some (.lst (((gon one two p q).take i).map fun y => V.int ((cnt one two n y.2.1 y.2.2 : Nat) : Int))))
      ⟨SameB.upd (fun b o _ e => e) (.inr hD) _, ⟨xs, m2.sameE (same_new hD _), by omega⟩, upd_same⟩ (fun i H3 _ h3 => SqL.of (h3.1 _ _ nrd hr)) ?_ ?_
    · rintro i y H3 hi ⟨sb, ⟨xs', m3, hl3⟩, hd3⟩
      obtain ⟨g, hg, a, t, rfl, ga, gt⟩ := paired_at hgo hi
      have nt : ∀ {b o}, H2 b = some (.tup o) → H3 b = some (.tup o) := fun {b o} e => sb _ _ (fun z => by rw [z, m2.at_] at e; exact memoO_tup (Option.some.inj e)) e
      have hp3 := hp2.same m2.at_ sb
      obtain ⟨dx3, wt3, _, _, g1, _⟩ := id hp3.ob
      have hgm := gon_le (List.mem_of_getElem? hg)
      have hi4 : i < 4 := by
        have := (List.getElem?_eq_some_iff.mp hg).1
        have := gon_length one two p q
        omega
      refine ⟨a, _, rfl, SqT.of (nt ga), rfl, _, _, rfl, _, _, rfl, rfl, rfl, ?_⟩
      refine ⟨_, rfl, x, dx3, _, rfl, g1, pfl_no _ _ (by decide +kernel) (by decide +kernel), _, rfl, _, _, rfl, rfl, _, rfl, ?_⟩
      have ev : V.int (((n + 1 : Nat) : Int) - 1) = V.int (n : Int) := by
        congr 1
        omega
      refine ⟨x, t, d, one, two, g.2.1, g.2.2, xs', ?_, hp3, l1, l2, by omega, by omega, nt gt, m3, ?_, fun H4 xs4 sb4 m4 hl4 => ?_⟩
      · rw [← ev]
        rfl
      · have : gr (n + 1) = 1 + 4 * gr n := rfl
        have : i * gr n ≤ 3 * gr n := Nat.mul_le_mul_right _ (by omega)
        omega
      · refine ⟨_, sb4 _ _ nDd hd3, ?_, SameB.upd (sb.trans sb4) (.inr hD) _, ⟨xs4, ?_, ?_⟩, ?_⟩
        · rw [List.length_map, List.length_take]
          exact small1000 (by omega)
        · refine ⟨?_, m4.low, fun e he => ?_⟩
          · rw [upd_ne nDd.symm]
            exact m4.at_
          · obtain ⟨z, tk, q1, q2, q3⟩ := m4.good e he
            refine ⟨z, tk, q1, q2.upd fun ys z => ?_, q3⟩
            rw [sb4 _ _ nDd hd3] at z
            cases z
        · rw [Nat.succ_mul]
          omega
        · rw [upd_same, take_at hg, List.map_append]
          rfl
    · rintro H3 ⟨sb, ⟨xs', m3, hl3⟩, hd3⟩
      have hlen := paired_len hgo
      rw [hlen, List.take_length] at hd3
      have e2 : ((gon one two p q).map fun y => V.int ((cnt one two n y.2.1 y.2.2 : Nat) : Int)) = ((gon one two p q).map fun y => ((cnt one two n y.2.1 y.2.2 : Nat) : Int)).map V.int := by rw [List.map_map]; rfl
      rw [e2] at hd3
      refine ⟨D, _, rfl, SqL.of hd3, ?_⟩
      have hp3 := hp2.same m2.at_ sb
      obtain ⟨dx3, wt3, _, _, g1, _⟩ := id hp3.ob
      have hk3 := (hk1.same hs).sameB sb m2.notTup
      have l4 := gon_length one two p q
      have hg4 : (gon one two p q).length * gr n ≤ 4 * gr n := Nat.mul_le_mul_right _ l4
      rw [hlen] at hl3
      refine ⟨_, rfl, x, Cp, dx3, _, _, rfl, g1, C.cl, C.nK, pfl_known _ _, _, rfl, d, kp, (n + 1, p, q), xs', rfl, rfl, ?_, hk3, m3, ?_, fun xs2 hl2 hh m4 => ?_⟩
      · congr 1
        rw [sum_cast fun y : Int × Nat × Nat => cnt one two n y.2.1 y.2.2]
        show _ = ((cnt one two (n + 1) p q : Nat) : Int)
        rw [cnt_succ]
      · have : gr (n + 1) = 1 + 4 * gr n := rfl
        omega
      · have sb2 : SameB d H3 (upd H3 d (memoO P w d xs2)) := SameB.upd (fun b o _ e => e) (.inl rfl) _
        have hp4 := hp3.same m3.at_ sb2
        obtain ⟨dx4, wt4, _, _, g4, _⟩ := id hp4.ob
        refine ⟨_, rfl, x, Cp, dx4, _, _, rfl, g4, C.cl, C.nK, pfl_known _ _, _, rfl, d, kp, (n + 1, p, q), xs2, rfl, rfl, hk3.sameB sb2 m3.notTup, m4, hh, ?_⟩
        refine k _ xs2 ((Same.b s1 d).trans ((Same.b hs d).trans (sb.trans sb2))) m4 ?_
        show _ ≤ _ + (1 + 4 * gr n)
        omega
theorem ok_many (F : Fun K "many" "Pairs.many" s_Pairs_many f fd) (B : Bn mg) (C : PrC K Cp) {f1 : Addr} {fd1 : FuncData} (kgoes_on : KnM P w K mg base CX0 2 Cp "goes_on" ["self", "places"] (spGo K Cp) f1 fd1)
    (mt : Meth K Cp "many" f) (bd : Binds K fd ["self", "lanes", "places"] []) : ∀ n, FnOk P w K mg base CX0 (n + 3) f fd ["self", "lanes", "places"] (spMany K Cp P w n)
  | 0 => ok_many0 F
  | n + 1 => ok_many1 F B C kgoes_on ⟨ok_many F B C kgoes_on mt bd n, mt, bd⟩
end
end Fl
end

section
set_option Elab.async false
set_option linter.all false
set_option maxRecDepth 100000
set_option maxHeartbeats 4000000
/-! Pairs.listed. -/
namespace Fl
open PySem PySem.Spec PyProof.Rows L2

/-- v is (row, (p, q)) -/
def IsBF (H : Hp) (v : V) (y : BF) : Prop := ∃ a b t, v = .ref a ∧ H a = some (.tup [.ref b, .ref t]) ∧ H b = some (.tup (y.1.map V.int)) ∧ H t = some (.tup [.int y.2.1, .int y.2.2])
theorem IsBF.same {H H' : Hp} (e : Same H H') {v : V} {y : BF} (h : IsBF H v y) : IsBF H' v y := by
  obtain ⟨a, b, t, rfl, h1, h2, h3⟩ := h
  exact ⟨a, b, t, rfl, e _ _ h1, e _ _ h2, e _ _ h3⟩
/-- a list is changed: the tuples stay -/
theorem IsBF.upd {H : Hp} {l : Addr} {xs ys : List V} (hl : H l = some (.lst xs)) {v : V} {y : BF} (h : IsBF H v y) : IsBF (L2.upd H l (.lst ys)) v y := by
  have n : ∀ b o, H b = some (.tup o) → L2.upd H l (.lst ys) b = some (.tup o) := fun b o e => by
    rw [upd_ne (fun z => by rw [z, hl] at e; cases e)]
    exact e
  obtain ⟨a, b, t, rfl, h1, h2, h3⟩ := h
  exact ⟨a, b, t, rfl, n _ _ h1, n _ _ h2, n _ _ h3⟩
theorem dpAll_upd {K : PySem.W.Frag} {H : Hp} {l : Addr} {xs ys : List V} (hl : H l = some (.lst xs)) : ∀ {vs : List V} {us : List (List Int)}, DpAll K H vs (us.map dW) → DpAll K (L2.upd H l (.lst ys)) vs (us.map dW)
  | _, [], .nil => .nil
  | v :: vs, u :: us, hh => by
    cases hh with
    | cons h r =>
      have hw : Wd K H v u := Wd.of h
      clear h
      obtain ⟨a, e, hs⟩ := hw
      refine .cons (Wd.dp ⟨a, e, ?_⟩) (dpAll_upd hl r)
      rcases hs with (h | ⟨o, h⟩) | h
      · refine .inl (.inl ?_)
        rw [upd_ne (fun z => by rw [z, hl] at h; cases h)]
        exact h
      · refine .inl (.inr ⟨o, ?_⟩)
        rw [upd_ne (fun z => by rw [z, hl] at h; cases h)]
        exact h
      · exact .inr h
theorem flatMap_take {α β : Type} {f : α → List β} {l : List α} {i : Nat} {a : α} (h : l[i]? = some a) : (l.take (i + 1)).flatMap f = (l.take i).flatMap f ++ f a := by
  rw [take_at h, List.flatMap_append]
  congr 1
  show f a ++ [] = f a
  exact List.append_nil _
def bstep (one two : List Int) (x : BF) : List BF := (gon one two x.2.1 x.2.2).map fun y => (x.1 ++ [y.1], y.2.1, y.2.2)
theorem bstep_len (one two : List Int) (x : BF) : (bstep one two x).length ≤ 4 := by
  unfold bstep
  rw [List.length_map]
  exact gon_length ..
theorem flat_len {α β : Type} {f : α → List β} {b : Nat} (h : ∀ x, (f x).length ≤ b) : ∀ l : List α, (l.flatMap f).length ≤ l.length * b
  | [] => Nat.zero_le _
  | x :: l => by
    have := flat_len h l
    have := h x
    rw [List.flatMap_cons, List.length_append, List.length_cons, Nat.succ_mul]
    omega
theorem bfs_row_len (one two : List Int) : ∀ (i : Nat) (y : BF), y ∈ bfs one two i → y.1.length = i ∧ (y.2.1 ≤ one.length ∧ y.2.2 ≤ two.length)
  | 0, y, h => by
    have : y = ([], 0, 0) := List.mem_singleton.mp h
    subst this
    exact ⟨rfl, Nat.zero_le _, Nat.zero_le _⟩
  | i + 1, y, h => by
    obtain ⟨x, hx, h2⟩ := List.mem_flatMap.mp h
    obtain ⟨g, hg, rfl⟩ := List.mem_map.mp h2
    have := gon_le hg
    refine ⟨?_, by have := this.1; show g.2.1 ≤ _; omega, by have := this.2.1; show g.2.2 ≤ _; omega⟩
    rw [List.length_append, (bfs_row_len one two i x hx).1]
    rfl

def spListed (K : PySem.W.Frag) (C : Addr) : Sp := fun vs H Q _ => ∃ (x d : Addr) (one two : List Int) (n : Nat), vs = [.ref x, .int n] ∧ PrAt K C one two H x d ∧ one.length ≤ 1000 ∧ two.length ≤ 1000 ∧ n ≤ 6 ∧
  ∀ r H' vs, Same H H' → H r = none → H' r = some (.lst vs) → DpAll K H' vs ((rowsI one two n 0 0).map dW) → Q (.ref r) H'

section
variable {P : Program} {w : World} {K : PySem.W.Frag} {mg : Str → Option Value} {base : Heap} {f : Addr} {fd : FuncData} {Cp : Addr}
theorem PrAt.sameS {C : Addr} {one two : List Int} {H H' : Hp} {x d : Addr} (p : PrAt K C one two H x d) (e : Same H H') : PrAt K C one two H' x d := by
  obtain ⟨dx, wt, w1, w2, h1, h2, h3, h4⟩ := p.ob
  exact ⟨dx, wt, w1, w2, e _ _ h1, e _ _ h2, Same.seqT e h3, Same.seqT e h4⟩
abbrev s_Pairs_listed : Stmt := inClass (top 25) 3
theorem sc_Pairs_listed : FnScope ["self", "lanes", "found", "_", "longer", "row", "places", "letter", "there"] ["self", "lanes"] (defScope s_Pairs_listed) := ⟨rfl, rfl, rfl, by decide +kernel, rfl, by decide +kernel, by decide +kernel⟩
theorem ok_listed (F : Fun K "listed" "Pairs.listed" s_Pairs_listed f fd) (B : Bn mg) (C : PrC K Cp) {f1 : Addr} {fd1 : FuncData} (kgoes_on : KnM P w K mg base CX0 2 Cp "goes_on" ["self", "places"] (spGo K Cp) f1 fd1) :
    FnOk P w K mg base CX0 3 f fd ["self", "lanes"] (spListed K Cp) := by
  refine F.ok sc_Pairs_listed (fun vs H Q E h => ?_) (fun cdv A outer s H vs Q E hr h => ?_)
  · obtain ⟨x, d, one, two, n, rfl, _⟩ := h
    rfl
  obtain ⟨x, d, one, two, n, rfl, hp, l1, l2, hn, k⟩ := h
  refine ⟨_, (pss_cons (ps_set (i := 2) sc_Pairs_listed.nd rfl (Or.inl rfl) (pe_lst (pa_cons (pe_tup (pa_cons (pe_tup pa_nil) (pa_cons (pe_tup (pa_cons pe_int (pa_cons pe_int pa_nil))) pa_nil))) pa_nil)))
      (pss_cons (ps_for PassesOwn.never rfl (pi_range1 (by rfl) B.range_ (pa_cons (pv 1) pa_nil)) (pg_name (i := 3) sc_Pairs_listed.nd rfl (Or.inl rfl))
      (pss_cons (ps_set (i := 4) sc_Pairs_listed.nd rfl (Or.inl rfl) (pe_lst pa_nil))
      (pss_cons (ps_for PassesOwn.never rfl (pi_list (pv 2)) (pg_tup (by rfl) (pgs_cons (pg_name (i := 5) sc_Pairs_listed.nd rfl (Or.inr rfl)) (pgs_cons (pg_name (i := 6) sc_Pairs_listed.nd rfl (Or.inl rfl)) pgs_nil)))
      (pss_one (ps_expr (pe_bm PySem.F.plainAttrs_list PySem.F.slot_list_extend PySem.F.type_list_extend mt_extend (pv 4) (pa_cons (pe_lc (own := [("letter", 7), ("there", 8)]) (by rfl) sc_Pairs_listed.nd (pi_list (pmt kgoes_on C.cl hr (by omega) pass0 (pv 0) (pa_cons (pv 6) pa_nil))) (blkOk_by (N := ["self", "lanes", "found", "_", "longer", "row", "places", "letter", "there"]) (sc := defScope s_Pairs_listed) (by decide +kernel)) (fun _ _ _ _ _ => (pgTupK (n := 2) K (by rfl) (by rfl) (pgs_cons (pg_name (i := 7) sc_Pairs_listed.nd rfl (Or.inl rfl)) (pgs_cons (pg_name (i := 8) sc_Pairs_listed.nd rfl (Or.inl rfl)) pgs_nil)))) (fun _ _ _ _ _ => pts_nil) (fun _ _ _ _ _ => (pe_tup (pa_cons (pe_op (catA K) (pv 5) (pe_tup (pa_cons (pv 7) pa_nil))) (pa_cons (pv 8) pa_nil))))) pa_nil)))))
      (pss_one (ps_set (i := 2) sc_Pairs_listed.nd rfl (Or.inl rfl) (pv 4))))))
      (pss_one (ps_ret (pe_lc (own := [("row", 5), ("_", 3)]) (by rfl) sc_Pairs_listed.nd (pi_list (pv 2)) (blkOk_by (N := ["self", "lanes", "found", "_", "longer", "row", "places", "letter", "there"]) (sc := defScope s_Pairs_listed) (by decide +kernel)) (fun _ _ _ _ _ => (pgTupK (n := 2) K (by rfl) (by rfl) (pgs_cons (pg_name (i := 5) sc_Pairs_listed.nd rfl (Or.inl rfl)) (pgs_cons (pg_name (i := 3) sc_Pairs_listed.nd rfl (Or.inl rfl)) pgs_nil)))) (fun _ _ _ _ _ => pts_nil) (fun _ _ _ _ _ => (pv 5))))))), ?_⟩
  refine ⟨Nat.zero_le _, fun b0 hb0 => ⟨(by show 2 ≤ sizeLine; decide), fun t0 ht0 => ⟨(by show 2 ≤ sizeLine; decide), fun a0 ha0 => ⟨(by show 1 ≤ sizeLine; decide), fun l0 hl0 => ?_⟩⟩⟩⟩
  have s1 : Same H (upd H b0 (.tup [])) := same_new hb0 _
  have s2 := Same.upd s1 (s1.free ht0) (.tup [.int 0, .int 0])
  have s3 := Same.upd s2 (s2.free ha0) (.tup [.ref b0, .ref t0])
  have s4 := Same.upd s3 (s3.free hl0) (.lst [.ref a0])
  have z3 := same_new ha0 (.tup [.ref b0, .ref t0])
  have z4 := same_new hl0 (.lst [.ref a0])
  have z2 := same_new ht0 (.tup [.int 0, .int 0])
  refine ⟨_, rfl, n, rfl, by omega, by omega, for_range (lo := 0) (n := ((n : Nat) : Int).toNat) (fun i σ H' => Same H H' ∧ ∃ (l : Addr) (vs : List V) (u1 u2 u3 u4 u5 u6 : Option V), σ = [some (.ref x), some (.int n), some (.ref l), u1, u2, u3, u4, u5, u6] ∧ H' l = some (.lst vs) ∧ Paired (IsBF H') vs (bfs one two i))
    ⟨s4, l0, [.ref a0], none, none, none, none, none, none, rfl, upd_same, .cons ⟨a0, b0, t0, rfl, z4 _ _ upd_same, z4 _ _ (z3 _ _ (z2 _ _ upd_same)), z4 _ _ (z3 _ _ upd_same)⟩ .nil⟩ ?_ ?_⟩
  · rintro i σ H1 hi ⟨hs, l, vs, u1, u2, u3, u4, u5, u6, rfl, hl, hb⟩
    have hin : i < 6 := by omega
    have hlen := paired_len hb
    have h4i : 4 ^ i ≤ 1024 := Nat.le_trans (Nat.pow_le_pow_right (by decide) (show i ≤ 5 by omega)) (by decide)
    have hvl : vs.length ≤ 1024 := by
      rw [hlen]
      exact Nat.le_trans (bfs_length one two i) h4i
    refine ⟨Nat.zero_le _, fun D hD => ?_⟩
    have sD : Same H1 (upd H1 D (.lst [])) := same_new hD _
    have nlD : l ≠ D := fun z => by
      rw [z, hD] at hl
      cases hl
    refine ⟨_, rfl, l, rfl, ⟨_, SqL.of (sD _ _ hl)⟩, for_list (K := K) (a := l) (xs := vs) (fun j σ H2 => Same H1 H2 ∧ ∃ (ws : List V) (u1 u3 u4 u5 u6 : Option V), σ = [some (.ref x), some (.int n), some (.ref l), u1, some (.ref D), u3, u4, u5, u6] ∧ H2 D = some (.lst ws) ∧ Paired (IsBF H2) ws (((bfs one two i).take j).flatMap (bstep one two)))
      ⟨sD, [], _, u3, u4, u5, u6, rfl, upd_same, .nil⟩ (fun j σ H2 _ h2 => SqL.of (h2.1 _ _ hl)) ?_ ?_⟩
    · rintro j y σ H2 hj ⟨hs2, ws, v1, v3, v4, v5, v6, rfl, hd, hpw⟩
      obtain ⟨bf, hbf, a, b, t, rfl, ga, gb, gt⟩ := paired_at hb hj
      have hmem := bfs_row_len one two i bf (List.mem_of_getElem? hbf)
      have hj' := (List.getElem?_eq_some_iff.mp hbf).1
      refine ⟨a, _, rfl, SqT.of (hs2 _ _ ga), rfl, _, _, rfl, _, _, rfl, rfl, ?_⟩
      refine ⟨_, rfl, .inl ⟨rfl, _, SqL.of hd⟩, ?_⟩
      have hp2 := PrAt.sameS hp (hs.trans hs2)
      obtain ⟨dx, wt, w1, w2, q1, q2, q3, q4⟩ := id hp2.ob
      refine ⟨_, rfl, x, dx, _, rfl, q1, pfl_no _ _ (by decide +kernel) (by decide +kernel), _, rfl, x, t, d, one, two, bf.2.1, bf.2.2, rfl, hp2, l1, l2, by omega, by omega, hs2 _ _ gt, fun r H3 gs hs3 hr hgo => ?_⟩
      refine ⟨r, rfl, ⟨_, SqL.of hr⟩, fun D3 hD3 => ?_⟩
      refine lc_list (K := K) (a := r) (xs := gs) (fun k H4 => Same H3 H4 ∧ ∃ zs, H4 D3 = some (.lst zs) ∧ Paired (IsBF H4) zs (((gon one two bf.2.1 bf.2.2).take k).map fun y => (bf.1 ++ [y.1], y.2.1, y.2.2)))
        ⟨same_new hD3 _, [], upd_same, .nil⟩ (fun k H4 _ h4 => SqL.of (h4.1 _ _ hr)) ?_ ?_
      · rintro k y H4 hk ⟨hs4, zs, hd4, hpz⟩
        obtain ⟨g, hg, ag, tg, rfl, gga, ggt⟩ := paired_at hgo hk
        have hzl : zs.length ≤ 4 := by
          rw [paired_len hpz, List.length_map, List.length_take]
          have := gon_length one two bf.2.1 bf.2.2
          omega
        refine ⟨ag, _, rfl, SqT.of (hs4 _ _ gga), rfl, _, _, rfl, _, _, rfl, rfl, rfl, ?_⟩
        have fin : ∀ (c : Addr) (H5 : Hp), Same H4 H5 → H5 c = some (.tup ((bf.1 ++ [g.1]).map V.int)) → ∀ p, H5 p = none → ∃ acc, (upd H5 p (.tup [.ref c, .ref tg])) D3 = some (.lst acc) ∧ acc.length < sizeLine ∧
            (Same H3 (upd (upd H5 p (.tup [.ref c, .ref tg])) D3 (.lst (acc ++ [.ref p]))) ∧ ∃ zs', (upd (upd H5 p (.tup [.ref c, .ref tg])) D3 (.lst (acc ++ [.ref p]))) D3 = some (.lst zs') ∧
              Paired (IsBF (upd (upd H5 p (.tup [.ref c, .ref tg])) D3 (.lst (acc ++ [.ref p])))) zs' (((gon one two bf.2.1 bf.2.2).take (k + 1)).map fun y => (bf.1 ++ [y.1], y.2.1, y.2.2))) := fun c H5 hs5 hc p hp5 => by
          have hs6 := same_new hp5 (.tup [.ref c, .ref tg])
          have hd6 := hs6 _ _ (hs5 _ _ hd4)
          refine ⟨zs, hd6, small1000 (by omega), Same.upd (hs4.trans (hs5.trans hs6)) hD3 _, _, upd_same, ?_⟩
          rw [take_at hg, List.map_append]
          refine paired_app (paired_imp hpz fun _ _ q => IsBF.upd hd6 (q.same (hs5.trans hs6))) (.cons (IsBF.upd hd6 ⟨p, c, tg, rfl, upd_same, hs6 _ _ hc, hs6 _ _ (hs5 _ _ (hs4 _ _ ggt))⟩) .nil)
        have hb4 : H4 b = some (.tup (bf.1.map V.int)) := hs4 _ _ (hs3 _ _ (hs2 _ _ gb))
        refine ⟨_, rfl, _, rfl, (by show 1 ≤ sizeLine; decide), fun c hc => ?_⟩
        have hsc := same_new hc (.tup [.int g.1])
        refine ⟨b, c, _, _, rfl, rfl, SqT.of (hsc _ _ hb4), SqT.of upd_same, ?_, fun e => ?_, fun _ e => (by cases e), fun _ _ c2 hc2 => ?_⟩
        · rw [List.length_map, hmem.1]
          exact Nat.le_of_lt (small1000 (by show i + 1 ≤ 1000; omega))
        · refine ⟨_, rfl, (by show 2 ≤ sizeLine; decide), fun p hp5 => fin c _ hsc ?_ p hp5⟩
          rw [List.map_append, e]
          exact upd_same
        · refine ⟨_, rfl, (by show 2 ≤ sizeLine; decide), fun p hp5 => fin c2 _ (Same.upd hsc (hsc.free hc2) _) ?_ p hp5⟩
          rw [upd_same, List.map_append]
          rfl
      · rintro H4 ⟨hs4, zs, hd4, hpz⟩
        rw [paired_len hgo, List.take_length] at hpz
        have hs34 := hs3.trans hs4
        have hzl : zs.length ≤ 4 := by
          rw [paired_len hpz, List.length_map]
          exact gon_length ..
        have hwl : ws.length ≤ 4096 := by
          rw [paired_len hpw]
          refine Nat.le_trans (flat_len (bstep_len one two) _) ?_
          rw [List.length_take]
          have : min j (bfs one two i).length ≤ 1024 := by omega
          omega
        refine ⟨D, D3, ws, zs, rfl, rfl, hs34 _ _ hd, hd4, ?_, ?_⟩
        · show _ ≤ 2 ^ 24
          omega
        · refine ⟨Same.upd (hs2.trans hs34) hD _, _, _, _, _, _, _, rfl, upd_same, ?_⟩
          rw [flatMap_take hbf]
          exact paired_app (paired_imp hpw fun _ _ q => IsBF.upd (hs34 _ _ hd) (q.same hs34)) (paired_imp hpz fun _ _ q => IsBF.upd (hs34 _ _ hd) q)
    · rintro σ H2 ⟨hs2, ws, v1, v3, v4, v5, v6, rfl, hd, hpw⟩
      rw [hlen, List.take_length] at hpw
      exact ⟨_, rfl, hs.trans hs2, D, ws, _, _, _, _, _, _, rfl, hd, hpw⟩
  · rintro σ H1 ⟨hs, l, vs, u1, u2, u3, u4, u5, u6, rfl, hl, hb⟩
    rw [show ((n : Nat) : Int).toNat = n by omega] at hb
    have hlen := paired_len hb
    have h4i : 4 ^ n ≤ 4096 := Nat.le_trans (Nat.pow_le_pow_right (by decide) hn) (by decide)
    have hvl : vs.length ≤ 4096 := by
      rw [hlen]
      exact Nat.le_trans (bfs_length one two n) h4i
    refine ⟨_, rfl, l, rfl, ⟨_, SqL.of hl⟩, fun D hD => ?_⟩
    refine lc_list (K := K) (a := l) (xs := vs) (fun j H2 => Same H1 H2 ∧ ∃ zs, H2 D = some (.lst zs) ∧ DpAll K H2 zs (((((bfs one two n).take j).map (·.1))).map dW))
      ⟨same_new hD _, [], upd_same, .nil⟩ (fun j H2 _ h2 => SqL.of (h2.1 _ _ hl)) ?_ ?_
    · rintro j y H2 hj ⟨hs2, zs, hd2, hz⟩
      obtain ⟨bf, hbf, a, b, t, rfl, ga, gb, gt⟩ := paired_at hb hj
      have hj' := (List.getElem?_eq_some_iff.mp hbf).1
      have hzl : zs.length ≤ 4096 := by
        rw [dpAll_len hz, List.length_map, List.length_map, List.length_take]
        omega
      refine ⟨a, _, rfl, SqT.of (hs2 _ _ ga), rfl, _, _, rfl, _, _, rfl, rfl, rfl, ?_⟩
      refine ⟨_, rfl, zs, hd2, ?_, Same.upd hs2 hD _, _, upd_same, ?_⟩
      · show _ < 2 ^ 24
        omega
      · rw [take_at hbf, List.map_append, List.map_append]
        refine dpAll_app (dpAll_upd hd2 hz) (.cons (Wd.dp (Wd.new ?_)) .nil)
        have e := hs2 _ _ gb
        rw [upd_ne (fun z => by rw [z, hd2] at e; cases e)]
        exact e
    · rintro H2 ⟨hs2, zs, hd2, hz⟩
      rw [hlen, List.take_length, bfs_end] at hz
      exact k D H2 zs (hs.trans hs2) (hs.free hD) hd2 hz
end
end Fl
end

section
set_option Elab.async false
set_option linter.all false
set_option maxRecDepth 100000
set_option maxHeartbeats 4000000
/-! Own rules, part 3: TooMany(e): an own error whose __init__ says super().__init__(..) and keeps its argument. -/
namespace Fl
open PySem PySem.Spec PyProof.Rows L2
abbrev s_TM : Stmt := inClass (top 4) 0
abbrev b_TM (a b c d e f g h i j k l m : Pos) : List Stmt := [.Expr (.Call (.Attribute (.Call (.Name "super" a) [] [] b) "__init__" c) [.Constant (.str "too many") 0 d] [] e) f,
  .Assign [.Attribute (.Name "self" g) "most" h] (.Name "most" i) j]
/-- what the text says of TooMany -/
structure TmTxt (P : Program) (K : PySem.W.Frag) (mg : Str → Option Value) (C f : Addr) (fd : FuncData) : Prop where
  cls : OexC K C
  nm : mg "TooMany" = some (.ref C)
  iC : PySem.W.findIn K (.ref C) "__init__" = some (some (.ref f))
  tI : PySem.W.typeIn K (.ref f) = some (.type "function")
  lk : ∃ (oc kV doc pm ct ccl cl : Value) (od an cdd cld : Option Addr) (osl ccs csl : Array (Option Value)) (cda cc : Addr) (vs : Array Value) (file : Str) (tf : Tok),
    fd = PySem.W.ksFn "__init__" "TooMany.__init__" (defArgs s_TM) (defBody s_TM) (defScope s_TM) .none kV doc pm an (.ref cda) ct cc ∧
    K.lookup f = some ⟨oc, od, .func fd, osl⟩ ∧ PySem.W.codeIn K (.ref cda) "TooMany.__init__" = true ∧ K.lookup cda = some ⟨ccl, cdd, .fields vs, ccs⟩ ∧ vs[2]? = some (.str file tf) ∧ ((P.main.file : Str) == file) = true ∧
    K.lookup cc = some ⟨cl, cld, .cell (some (.ref C)), csl⟩
  sup : mg "super" = none
  top_ : (P.main.scope.names.lookup ("super" : Str)).isSome = false
  any_ : PySem.W.nsIn K cStatics "thirdparty.any" = some none
  sin : PySem.W.ks_superIn K C C "__init__" = some (some (.builtin "ValueError.__init__"))
  sub : PySem.W.subIn K (.ref C) (.type "ValueError") = some true
  mro : PySem.W.mroIn K C (.ref C) = some true
  noM : PySem.W.findIn K (.ref C) "most" = some none

def spTM (C : Addr) : Sp := fun vs H Q _ => ∃ (a : Addr) (y : V), vs = [.ref a, y] ∧ H a = some (exo a C none) ∧ ∀ dx, H dx = none → dx ≠ a → Q .non (upd (upd H dx (exd dx [("most", y)])) a (exo a C (some dx)))
section
variable {P : Program} {w : World} {K : PySem.W.Frag} {mg : Str → Option Value} {base : Heap} {C f : Addr} {fd : FuncData}
theorem ok_TM (T : TmTxt P K mg C f fd) : FnOk P w K mg base CX0 1 f fd ["self", "most"] (spTM C) := by
  refine ⟨fun vs H Q E h => ?_, fun A outer s H args us vs Q E hr e0 hb r hsp => ?_⟩
  · obtain ⟨a, y, rfl, _⟩ := h
    rfl
  obtain ⟨a, y, rfl, hx, k⟩ := hsp
  obtain ⟨oc, kV, doc, pm, ct, ccl, cl, od, an, cdd, cld, osl, ccs, csl, cda, cc, vs, file, tf, rfl, lk, hcd, hcode, hvs, hfile, hcell⟩ := T.lk
  cases r with
  | cons ra r =>
    cases r with
    | cons ry r =>
      cases r
      rename_i ua u
      obtain rfl : ua = Value.ref a := ra
      have stays : ∀ c u, base.get? c = some u → s.heap.get? c = some u := fun c u q => (e0.bs c u q).1
      have KX : K.In s.heap := e0.mod.kin.keeps stays
      have lim : s.heap.NoLimit := e0.mod.nolimit.keeps stays
      obtain ⟨t0, ha⟩ := exo_at e0.hok hx
      obtain ⟨hp, g, d, t, os⟩ := s
      obtain ⟨nm, qn, N, bs, bm, sn, sub, ab, col, dd, k0, k1, k2, k3, k5, hC, hbm⟩ := T.cls.cls
      have hcl : PySem.W.clsIn K C = some { name := nm, bases := bs, mro := .ref C :: bm, ns := N, qualname := qn, hasDict := true, slotNames := sn, subclasses := sub, abstract := ab, collection := col, hasDel := false } := by unfold PySem.W.clsIn; rw [hC] <;> rfl
      refine ks_codeAny_call_defAt (R := CR CX0 outer P w H ⟨hp, g, d, t, os⟩ Q E) hr.depth (KX _ _ lk) rfl lim (PySem.W.codeRec_of KX hcd) rfl hb (by show ∀ x ∈ (defScope s_TM).names, x.2 ≠ .cell; decide +kernel) (by
        intro x hx
        have hx : x ∈ [(("self" : Str), Value.ref a), (("most" : Str), u)] := hx
        rcases List.mem_cons.mp hx with rfl | hx
        · rfl
        · rw [List.mem_singleton.mp hx]
          rfl) (fun h1 hns hk1 => ?_) (by rfl) (by rfl) (by rfl)
      have K1 : K.In h1 := KX.keeps hk1
      have ha1 := hk1 _ _ ha
      have aL : a ≠ hp.objs.size := Nat.ne_of_lt (Heap.lt_size ha)
      -- super().__init__("too many")
      refine ks_wpAt_execs_cons (ks_wpAt_Expr_any (ks_wpAt_MethodCall ?_))
      refine ks_wpAt_super_base (f := f) (cc := cda) (by rfl) (by rfl) (by decide) rfl (K1 _ _ lk) rfl (ar := { arg := "self", annotation := none, pos := ⟨10, 17, 10, 21⟩ }) (by rfl) rfl (K1 _ _ hcode) rfl hvs hfile T.top_ ?_
      obtain ⟨mb, hmb, hbb⟩ := e0.mod.blt
      have bk : ∀ b o, base.get? b = some o → h1.get? b = some o := fun b o e => hk1 b o (e0.bs b o e).1
      refine PySem.W.ks_loadName_global (by rfl) (by rfl) (Calls.loadGlobal_builtin (e0.mod.glob.keeps bk) T.sup (hmb.keeps bk) ((hbb _ (by decide +kernel)).trans (by decide +kernel)) ⟨rfl, ?_⟩)
      refine wpAny_loadName_free (by rfl) (by rfl) (by rfl) ⟨_, K1 _ _ hcell, rfl⟩ ?_
      refine wpAny_loadName_local (by rfl) (by rfl) hns (by rfl) ?_
      refine ks_wpAny_isType_cls (K1 _ _ hC) rfl ⟨rfl, ?_⟩
      refine ks_wpAny_call_super (K1 _ _ hC) rfl ha1 rfl (fun c e => nomatch e) (PySem.W.looks_mroIn K1 T.mro) (fun h2 hso hk2 => ?_)
      have K2 : K.In h2 := K1.keeps hk2
      have ha2 := hk2 _ _ ha1
      have IA : PySem.W.InstAt h2 a _ C none := ⟨ha2, rfl, rfl, trivial⟩
      have hm := T.sin
      unfold PySem.W.ks_superIn at hm
      rw [hcl] at hm
      refine PySem.W.kxs_getMethod PySem.W.kxs_ValueError hso (PySem.W.looks_opaque K2 T.any_) (fun A Q E s k q => wpAny_bind ((PySem.W.looks_clsIn K2 hcl) A _ E s k (wpAny_pure q))) rfl K2 hm (IA.type.andThen (PySem.W.looks_subIn K2 T.sub)) (PySem.W.ks_ne K2 IA hcl) (by decide) ?_
      refine PySem.W.kxs_callWith1 (i := "ValueError.__init__") (x := a) (u := h2.objs.size) (h₀ := {}) (L := h2.objs.size + 1) (news := [(h2.objs.size, PySem.W.kxs_mw "ValueError.__init__" a)]) ?_ (List.mem_singleton.mpr rfl) ?_ (by rfl) (by rfl)
      · intro p hp
        rw [List.mem_singleton.mp hp]
        exact ⟨Heap.get?_push_size h2 rfl, Nat.ne_of_lt (Nat.lt_succ_self _), rfl⟩
      refine Calls.spliced_cons (Calls.Constant_str (k := 0) (pos := ⟨11, 25, 11, 35⟩) (Calls.spliced_nil ⟨Heap.get?_push_size h2 rfl, ?_⟩))
      refine wpAny_call (codeAny_of_tree ?_)
      show wpAny _ _ (callAny (.ref h2.objs.size) ⟨[_], []⟩) _ _ _
      simp only [callAny]
      refine wpAny_bind (wpAny_load (Heap.get?_push_size h2 rfl) ?_)
      simp only [PySem.W.kxs_mw, show (Value.type "method-wrapper" == Value.type "method" || Value.type "method-wrapper" == Value.type "builtin_function_or_method" || Value.type "method-wrapper" == Value.type "method-wrapper") = true by decide, if_true]
      refine PySem.W.KFB.if_so (by decide) ?_
      have ha3 := Heap.get?_push_of_some (PySem.W.kxs_mw "ValueError.__init__" a) ha2
      have hC3 := Heap.get?_push_of_some (PySem.W.kxs_mw "ValueError.__init__" a) (K2 _ _ hC)
      refine wpAny_bind (PySem.W.check_bound_init F.excBase_ValueError.toExcCallFacts hC3 ha3 rfl ?_)
      refine wpAny_bind (wpAny_pure (wpAny_pure ?_))
      refine ⟨plainId_quiet F.excBase_ValueError.init.plain _, codeAny_builtin F.excBase_ValueError.initEntry ?_⟩
      refine PySem.W.exc_init_tree (cls := .ref C) (t0 := t0) (dv := none) (c2 := .none) (c3 := .none) (b4 := .bool false) ha3 (by show 1 ≤ sizeLine; decide) (fun h4 hk4 ha4 _ => ?_)
      -- self.most = most
      have aK : ∀ {b : Addr} {o : Obj}, K.lookup b = some o → b ≠ a := fun {b o} q z => by
        have y := (e0.bs b o (e0.mod.kin b o q)).2
        rw [z, hx] at y
        cases y
      have k4 : ∀ b o, b ≠ a → hp.get? b = some o → h4.get? b = some o := fun b o n q => hk4 b o n (Heap.get?_push_of_some _ (hk2 b o (hk1 b o q)))
      have K4 : K.In h4 := fun b o q => k4 b o (aK q) (KX b o q)
      refine ks_wpAt_execs_cons (ks_wpAt_Assign_Attr (wpAt_of_wpAny (wpAny_Name (wpAny_loadName_local (by rfl) (by rfl) (hns.at fun o q => hk4 _ _ (Ne.symm aL) (Heap.get?_push_of_some _ (hk2 _ _ q))) (by rfl) (wpAny_Name (wpAny_loadName_local (by rfl) (by rfl) (hns.at fun o q => hk4 _ _ (Ne.symm aL) (Heap.get?_push_of_some _ (hk2 _ _ q))) (by rfl) ?_))))) (by rfl))
      obtain ⟨t4, ha5⟩ : ∃ t4 : Addr, h4.get? a = some ({ cls := .ref C, dict := none, data := .fields #[.ref t4, .none, .none, .none, .bool false, .none] } : Obj) := ⟨_, ha4⟩
      refine PySem.W.set_plain K4 (ox := { cls := .ref C, dict := none, data := .fields #[.ref t4, .none, .none, .none, .bool false, .none] }) (od := none) ⟨ha5, rfl, rfl, trivial⟩ T.cls.sa ?_
      refine PySem.HandSPX.exc_osa K4 ha5 hcl (show PySem.HandSPX.refsVE (.ref C :: bm) = true from hbm) rfl T.noM (fun h' tk' dx kk dn dne hx' hn => ?_)
      have k5 : ∀ b o, b ≠ a → hp.get? b = some o → h'.get? b = some o := fun b o n q => kk b o n (k4 b o n q)
      have hh4 : hp.objs.size ≤ h4.objs.size := by
        obtain ⟨oL, _, _, hL, _⟩ := hns
        have q4 := Heap.lt_size (hk4 hp.objs.size _ (Ne.symm aL) (Heap.get?_push_of_some _ (hk2 _ _ hL)))
        exact Nat.le_of_lt q4
      have dn' : hp.objs.size ≤ dx := Nat.le_trans hh4 dn
      have hnd : H dx = none := e0.hok.fresh dn'
      -- the two places aside, the reading is as before
      have off : ∀ c, c ≠ a → c ≠ dx → upd (upd H dx (exd dx [("most", y)])) a (exo a C (some dx)) c = H c := fun c n1 n2 => (upd_ne n1).trans (upd_ne n2)
      have told : ∀ {c u}, H c = some u → u ≠ exo a C none → upd (upd H dx (exd dx [("most", y)])) a (exo a C (some dx)) c = some u := fun {c u} q n =>
        (off c (fun z => n (Option.some.inj (q.symm.trans (z ▸ hx)))) (fun z => by rw [z, hnd] at q; cases q)).trans q
      have old : ∀ c u, hp.get? c = some u → c ≠ dx := fun c u q z => absurd (z ▸ Heap.lt_size q) (Nat.not_lt.mpr dn')
      have notA : ∀ c, H c = none → c ≠ a := fun c q z => by
        rw [z, hx] at q
        cases q
      have un : Un (frs outer) [] H (upd (upd H dx (exd dx [("most", y)])) a (exo a C (some dx))) hp h' := by
        constructor
        case keep => exact fun c u q n _ _ => k5 c u (notA c n) q
        case slot => exact fun c u q n _ _ => ⟨u.slots, k5 c u (notA c n) q⟩
        case free => exact fun c u q n _ => (off c (notA c n) (old c u q)).trans n
        case there =>
          intro c u q _
          rcases Classical.em (c = a) with z | z
          · exact ⟨_, z ▸ hx'⟩
          · exact ⟨u, k5 c u z q⟩
        case tups => exact fun c xs q => told q (fun z => exo_tup z.symm)
        case frzs => exact fun c u v q => told q (fun z => exo_frz z.symm)
        case tbls => exact fun c ps q => ⟨#[], by rw [told q (fun z => exo_tbl z.symm), Array.append_empty]⟩
      have ok' : HOk P w (upd (upd H dx (exd dx [("most", y)])) a (exo a C (some dx))) h' := by
        intro c u q
        rcases Classical.em (c = a) with rfl | n1
        · cases upd_same.symm.trans q
          exact exo_ok hx'
        rcases Classical.em (c = dx) with rfl | n2
        · cases ((upd_ne n1).trans upd_same).symm.trans q
          refine exd_ok hn (relO_put (fs := []) ry ?_)
          exact fun _ => trivial
        have was := e0.hok c u ((off c n1 n2).symm.trans q)
        refine was.stay (fun e v he z => k5 e v ?_ z) (fun e he => told he (fun z => exo_own z.symm)) (fun e xs he => told he (fun z => exo_tup z.symm))
        rcases he with he | he
        · exact he ▸ n1
        · exact fun z => exo_own (Option.some.inj (hx.symm.trans (z ▸ he)))
      refine ?_
      exact wpAt_of_wpAny (wpAny_execs_nil ⟨.non, _, rfl, e0.bare, un, ok', rfl, k dx hnd dne⟩)
end
end Fl
end

section
set_option Elab.async false
set_option linter.all false
set_option maxRecDepth 100000
set_option maxHeartbeats 4000000
/-! Own rules, part 4: Pairs(..) made; raise TooMany(..). -/
namespace Fl
open PySem PySem.Spec PyProof.Rows L2
/-- a class that is known by its name -/
structure KnC (P : Program) (w : World) (K : PySem.W.Frag) (mg : Str → Option Value) (base : Heap) (k : Nat) (C : Addr) (x : Str) (ps : List Str) (sp : Sp) (f : Addr) (fd : FuncData) : Prop where
  ok : FnOk P w K mg base CX0 k f fd ps sp
  mak : Mk K C f
  nm : mg x = some (.ref C)
  bd : Binds K fd ps []
section
variable {X : Cx} {k j : Nat} {f C : Addr} {fd : FuncData} {ps : List Str} {sp : Sp} {E : XK} {x : Str} {p pos : Pos} {e : Expr} {es : List Expr} {t : TA}
theorem pnew (M : KnC X.prog X.w X.K X.mg X.base k C x ps sp f fd) (hr : Room j X.A) (hj : k + 1 ≤ j) (ha : PA X (e :: es) t) (hg : Gl X x := by rfl)
    (hdb : (x == ("__debug__" : Str)) = false := by decide) (he : starEach (e :: es) X.env = (false, eval e X.env) :: starEach es X.env := by rfl) (hpl : (backTo pos (starEach es X.env)).any (·.1) = false := by rfl) :
    PE X (.Call (.Name x p) (e :: es) [] pos) (tMake C sp [] E0 t) := pe_make M.mak M.ok (hr.mono hj) hg M.nm M.bd .nil pass0 ha hdb he hpl
end
/-- TooMany is known -/
structure TmK (P : Program) (w : World) (K : PySem.W.Frag) (mg : Str → Option Value) (base : Heap) (C f : Addr) (fd : FuncData) : Prop where
  t : TmTxt P K mg C f fd
  bd : Binds K fd ["self", "most"] []
theorem pmkT {X : Cx} {C f : Addr} {fd : FuncData} {j : Nat} {e : Expr} {p pos : Pos} {ta : TA} (T : TmK X.prog X.w X.K X.mg X.base C f fd) (hr : Room j X.A) (hj : 2 ≤ j) (ha : PA X [e] ta) (hg : Gl X "TooMany" := by rfl)
    (he : starEach [e] X.env = (false, eval e X.env) :: starEach [] X.env := by rfl) (hpl : (backTo pos (starEach [] X.env)).any (·.1) = false := by rfl) :
    PMk X (.Call (.Name "TooMany" p) [e] [] pos) (tMkO C (spTM C) [] ta) :=
  pmk_oex T.t.cls T.t.iC T.t.tI (ok_TM T.t) (hr.mono hj) T.bd .nil pass0 hg T.t.nm ha (by decide) he hpl

theorem tm_raise {H : Hp} {cT : Addr} {i : Int} {Q : XK} {σ : L2.St} (k : ∀ d H2, Same H H2 → H2 d = some (.xd [("most", .int i)]) → Q (.ref cT) (some d) H2) : tMkO cT (spTM cT) [] (tCons (tC (.int i)) tNil) σ H Q := by
  refine ⟨(by show 1 ≤ 1000; decide), fun a ha => ⟨a, .int i, rfl, upd_same, fun dx3 hdx3 hne3 => ⟨rfl, dx3, [("most", .int i)], upd_same, ?_, ?_, ?_⟩⟩⟩
  · rw [upd_ne hne3]
    exact upd_same
  · rw [upd_ne hne3] at hdx3
    exact hdx3
  · have hdn : H dx3 = none := by
      rw [upd_ne hne3] at hdx3
      exact hdx3
    refine k dx3 _ (fun b o q => ?_) upd_same
    have n1 : b ≠ dx3 := fun z => by rw [z, hdn] at q; cases q
    have n2 : b ≠ a := fun z => by rw [z, ha] at q; cases q
    rw [upd_ne n1, del_ne n2, upd_ne n2, upd_ne n1, upd_ne n2]
    exact q
/-- a thing that is found to be a row: its letters -/
theorem RowB.words {K : PySem.W.Frag} {H : Hp} {v : V} (h : RowB K H v true) : ∃ xs, Wd K H v xs ∧ IsRow xs := by
  generalize hb : true = b at h
  cases h with
  | oth => cases hb
  | @tup a xs h hx =>
    have hb := hb.symm
    rw [Bool.and_eq_true, decide_eq_true_iff] at hb
    obtain ⟨⟨h1, h2⟩, h3⟩ := hb
    have key : ∀ l : List V, (l.all fun x => isBet x 0 3) = true → ∃ ns : List Int, l = ns.map V.int ∧ ∀ c ∈ ns, 0 ≤ c ∧ c < 4 := by
      intro l
      induction l with
      | nil => exact fun _ => ⟨[], rfl, fun c m => (by cases m)⟩
      | cons x l ih =>
        intro h
        rw [List.all_cons, Bool.and_eq_true] at h
        obtain ⟨ns, rfl, hn⟩ := ih h.2
        cases x with
        | int i =>
          have q : (decide (0 ≤ i) && decide (i ≤ 3)) = true := h.1
          rw [Bool.and_eq_true, decide_eq_true_iff, decide_eq_true_iff] at q
          refine ⟨i :: ns, rfl, fun c m => ?_⟩
          rcases List.mem_cons.mp m with rfl | m
          · omega
          · exact hn c m
        | _ => exact absurd h.1 (by intro z; cases z)
    obtain ⟨ns, rfl, hn⟩ := key xs h3
    rw [List.length_map] at h1 h2
    exact ⟨ns, ⟨a, rfl, h⟩, h1, h2, hn⟩

/-! ### promises of common_many and common -/
/-- what is refused: v and u are to be rows, l a number to 12 -/
structure Ref3 (K : PySem.W.Frag) (H : Hp) (v u l : V) (b c : Bool) (t : String) : Prop where
  rv : RowB K H v b
  ru : RowB K H u c
  tl : Ty K H l t
def spCMany (K : PySem.W.Frag) (cR cN : Addr) : Sp := fun vs H Q E => ∃ (v u l : V) (b c : Bool) (t : String), vs = [v, u, l] ∧ Ref3 K H v u l b c t ∧
  (∀ H', Same H H' → ((b && c) = false → E (.ref cR) none H') ∧ ((b && c) = true → isBet l 1 12 = false → E (.ref cN) none H')) ∧
  ((b && c) = true → isBet l 1 12 = true → ∃ (xs ys : List Int) (n : Nat), Wd K H v xs ∧ Wd K H u ys ∧ IsRow xs ∧ IsRow ys ∧ l = .int n ∧ ∀ H', Same H H' → Q (.int (cnt (wd xs) (wd ys) n 0 0)) H')
def spCommon (K : PySem.W.Frag) (cR cN cT : Addr) : Sp := fun vs H Q E => ∃ (v u l : V) (b c : Bool) (t : String), vs = [v, u, l] ∧ Ref3 K H v u l b c t ∧
  (∀ H', Same H H' → ((b && c) = false → E (.ref cR) none H') ∧ ((b && c) = true → isBet l 1 12 = false → E (.ref cN) none H')) ∧
  ((b && c) = true → isBet l 1 12 = true → ∃ (xs ys : List Int) (n : Nat), Wd K H v xs ∧ Wd K H u ys ∧ IsRow xs ∧ IsRow ys ∧ l = .int n ∧
    (4096 < cnt (wd xs) (wd ys) n 0 0 → ∀ d H2, Same H H2 → H2 d = some (.xd [("most", .int 4096)]) → E (.ref cT) (some d) H2) ∧
    (cnt (wd xs) (wd ys) n 0 0 ≤ 4096 → n ≤ 6 ∧ ∀ r H2 vs, Same H H2 → H r = none → H2 r = some (.lst vs) → DpAll K H2 vs ((rowsI (wd xs) (wd ys) n 0 0).map dW) → Q (.ref r) H2))
theorem isBet_true {v : V} {lo hi : Int} (h : isBet v lo hi = true) : ∃ i, v = .int i ∧ lo ≤ i ∧ i ≤ hi := by
  cases v with
  | int i =>
    have q : (decide (lo ≤ i) && decide (i ≤ hi)) = true := h
    rw [Bool.and_eq_true, decide_eq_true_iff, decide_eq_true_iff] at q
    exact ⟨i, rfl, q.1, q.2⟩
  | _ => cases h
end Fl
end

section
set_option Elab.async false
set_option linter.all false
set_option maxRecDepth 100000
set_option maxHeartbeats 4000000
/-! common_many and common. -/
namespace Fl
open PySem PySem.Spec PyProof.Rows L2
theorem n12 (l : V) : ∃ n : Nat, n ≤ 12 ∧ (isBet l 1 12 = true → l = .int n ∧ 1 ≤ n) := by
  by_cases h : isBet l 1 12 = true
  · obtain ⟨i, rfl, h1, h2⟩ := isBet_true h
    refine ⟨i.toNat, by omega, fun _ => ⟨?_, by omega⟩⟩
    rw [show ((i.toNat : Nat) : Int) = i by omega]
  · exact ⟨0, by omega, fun z => absurd z h⟩
theorem gr_small : ∀ {n : Nat}, n ≤ 12 → 0 + gr n < 2 ^ 24 := by decide
section
variable {P : Program} {w : World} {K : PySem.W.Frag} {mg : Str → Option Value} {base : Heap} {f : Addr} {fd : FuncData} {Cp cR cN cT : Addr}
abbrev s_common_many : Stmt := top 26
theorem sc_common_many : FnScope ["row", "other", "lanes"] ["row", "other", "lanes"] (defScope s_common_many) := ⟨rfl, rfl, rfl, by decide +kernel, rfl, by decide +kernel, by decide +kernel⟩
theorem ok_common_many (F : Fun K "common_many" "common_many" s_common_many f fd) (G : Gn mg) (C : PrC K Cp) {f1 f2 f3 f4 : Addr} {fd1 fd2 fd4 : FuncData} {fd3 : FuncData}
    (kcheck_both : Kn P w K mg base (L2.CX P w) 6 "check_both" ["row", "out"] (spCheckBoth K cR) f1 fd1) (kcheck_number : Kn P w K mg base (L2.CX P w) 3 "check_number" ["thing", "least", "most"] (spNumber K cN) f2 fd2)
    (kPairs : KnC P w K mg base 2 Cp "Pairs" ["self", "row", "other"] (spPrInit K Cp P w) f3 fd3) (kmany : ∀ n : Nat, KnM P w K mg base CX0 (n + 3) Cp "many" ["self", "lanes", "places"] (spMany K Cp P w n) f4 fd4) :
    FnOk P w K mg base (L2.CX P w) 16 f fd ["row", "other", "lanes"] (spCMany K cR cN) := by
  refine F.okX sc_common_many (fun vs H Q E h => ?_) (fun cdv A outer s H vs Q E hr h => ?_)
  · obtain ⟨v, u, l, b, c, t, rfl, _⟩ := h
    rfl
  obtain ⟨v, u, l, b, c, t, rfl, hR, k, kw⟩ := h
  have tk0 := takes_of (X := cxOf (L2.CX P w) P w K mg base ["row", "other", "lanes"] "common_many" (defScope s_common_many) f cdv A outer s H E) rfl rfl rfl rfl
  obtain ⟨n, hn, hl⟩ := n12 l
  have kmany := kmany n
  refine ⟨_, (pss_cons (ps_expr (pk kcheck_both hr (by omega) (passes_call tk0 (fun _ _ _ _ h => h)) (pa_cons (pv 0) (pa_cons (pv 1) pa_nil))))
      (pss_cons (ps_expr (pk kcheck_number hr (by omega) (passes_call tk0 (fun _ _ _ _ h => h)) (pa_cons (pv 2) (pa_cons pe_int (pa_cons (pgi G.MOST_LISTED) pa_nil)))))
      (pss_one (ps_ret (pmt kmany C.cl hr (by omega) pass0 (pnew kPairs hr (by omega) (pa_cons (pv 0) (pa_cons (pv 1) pa_nil))) (pa_cons (pv 2) (pa_cons (pe_tup (pa_cons pe_int (pa_cons pe_int pa_nil))) pa_nil))))))), ?_⟩
  refine ⟨_, rfl, _, rfl, v, u, b, c, rfl, hR.rv, hR.ru, fun H1 s1 => ⟨fun e1 e2 => ?_, fun e => (k H1 s1).1 e⟩⟩
  subst e1
  subst e2
  refine ⟨_, rfl, l, t, 1, 12, rfl, hR.tl.same s1, fun e => ?_, fun e => (k H1 s1).2 rfl e⟩
  obtain ⟨rfl, n1⟩ := hl e
  obtain ⟨xs, ys, n', hv, hu, rx, ry, en, kk⟩ := kw rfl e
  obtain rfl : n = n' := by
    injection en with en
    omega
  refine ⟨_, rfl, _, rfl, fun x dx hx hdx hne => ?_⟩
  have sx := Same.upd (same_new hdx (.own x)) hx (.ins Cp dx [])
  refine ⟨x, dx, v, u, xs, ys, rfl, upd_same, (hv.same s1).same sx, (hu.same s1).same sx, rx.most, ry.most, fun d H2 hds hd0 kp hd hp => ⟨rfl, ?_⟩⟩
  have s2 : Same H1 H2 := fun b o q => kp b o (sx _ _ q) (fun z => by rw [z, hx] at q; cases q)
  obtain ⟨dx2, wt, w1, w2, q1, q2, q3, q4⟩ := id hp.ob
  have lw1 : (wd xs).length ≤ 1000 := Nat.le_trans (wd_length xs) rx.most
  have lw2 : (wd ys).length ≤ 1000 := Nat.le_trans (wd_length ys) ry.most
  have hd1 : H1 d = none := by
    cases z : H1 d with
    | none => rfl
    | some o =>
      rw [sx _ _ z] at hd0
      cases hd0
  refine ⟨x, dx2, _, rfl, q1, pfl_no _ _ (by decide +kernel) (by decide +kernel), _, rfl, (by show 2 ≤ sizeLine; decide), fun pl hpl => ?_⟩
  have s3 := same_new hpl (.tup [.int 0, .int 0])
  refine ⟨x, pl, d, wd xs, wd ys, 0, 0, [], rfl, hp.sameS s3, lw1, lw2, Nat.zero_le _, Nat.zero_le _, upd_same, ⟨s3 _ _ hd, hds, fun _ h => (by cases h)⟩, ?_, fun H4 xs4 sb m4 _ => ?_⟩
  · show 0 + gr n < 2 ^ 24
    exact gr_small hn
  · exact kk H4 (s1.trans fun b o q => sb _ _ (fun z => by rw [z, hd1] at q; cases q) (s3 _ _ (s2 _ _ q)))
abbrev s_common : Stmt := top 27
theorem sc_common : FnScope ["row", "other", "lanes", "pairs"] ["row", "other", "lanes"] (defScope s_common) := ⟨rfl, rfl, rfl, by decide +kernel, rfl, by decide +kernel, by decide +kernel⟩
theorem ok_common (F : Fun K "common" "common" s_common f fd) (G : Gn mg) (C : PrC K Cp) {f1 f2 f3 f4 f5 f6 : Addr} {fd1 fd2 fd4 fd5 fd6 : FuncData} {fd3 : FuncData} (T : TmK P w K mg base cT f6 fd6)
    (kcheck_both : Kn P w K mg base (L2.CX P w) 6 "check_both" ["row", "out"] (spCheckBoth K cR) f1 fd1) (kcheck_number : Kn P w K mg base (L2.CX P w) 3 "check_number" ["thing", "least", "most"] (spNumber K cN) f2 fd2)
    (kPairs : KnC P w K mg base 2 Cp "Pairs" ["self", "row", "other"] (spPrInit K Cp P w) f3 fd3) (kmany : ∀ n : Nat, KnM P w K mg base CX0 (n + 3) Cp "many" ["self", "lanes", "places"] (spMany K Cp P w n) f4 fd4)
    (klisted : KnM P w K mg base CX0 3 Cp "listed" ["self", "lanes"] (spListed K Cp) f5 fd5) :
    FnOk P w K mg base (L2.CX P w) 16 f fd ["row", "other", "lanes"] (spCommon K cR cN cT) := by
  refine F.okX sc_common (fun vs H Q E h => ?_) (fun cdv A outer s H vs Q E hr h => ?_)
  · obtain ⟨v, u, l, b, c, t, rfl, _⟩ := h
    rfl
  obtain ⟨v, u, l, b, c, t, rfl, hR, k, kw⟩ := h
  have tk0 := takes_of (X := cxOf (L2.CX P w) P w K mg base ["row", "other", "lanes", "pairs"] "common" (defScope s_common) f cdv A outer s H E) rfl rfl rfl rfl
  obtain ⟨n, hn, hl⟩ := n12 l
  have kmany := kmany n
  refine ⟨_, (pss_cons (ps_expr (pk kcheck_both hr (by omega) (passes_call tk0 (fun _ _ _ _ h => h)) (pa_cons (pv 0) (pa_cons (pv 1) pa_nil))))
      (pss_cons (ps_expr (pk kcheck_number hr (by omega) (passes_call tk0 (fun _ _ _ _ h => h)) (pa_cons (pv 2) (pa_cons pe_int (pa_cons (pgi G.MOST_LISTED) pa_nil)))))
      (pss_cons (ps_set (i := 3) sc_common.nd rfl (Or.inl rfl) (pnew kPairs hr (by omega) (pa_cons (pv 0) (pa_cons (pv 1) pa_nil))))
      (pss_cons (ps_if (pt_cmpR op_gt (pmt kmany C.cl hr (by omega) pass0 (pv 3) (pa_cons (pv 2) (pa_cons (pe_tup (pa_cons pe_int (pa_cons pe_int pa_nil))) pa_nil))) (pgi G.MOST_ROWS) (nomark _)) (pss_one (ps_raise rfl tk0 (pmkT T hr (by omega) (pa_cons (pgi G.MOST_ROWS) pa_nil)))) pss_nil)
      (pss_one (ps_ret (pmt klisted C.cl hr (by omega) pass0 (pv 3) (pa_cons (pv 2) pa_nil)))))))), ?_⟩
  refine ⟨_, rfl, _, rfl, v, u, b, c, rfl, hR.rv, hR.ru, fun H1 s1 => ⟨fun e1 e2 => ?_, fun e => (k H1 s1).1 e⟩⟩
  subst e1
  subst e2
  refine ⟨_, rfl, l, t, 1, 12, rfl, hR.tl.same s1, fun e => ?_, fun e => (k H1 s1).2 rfl e⟩
  obtain ⟨rfl, n1⟩ := hl e
  obtain ⟨xs, ys, n', hv, hu, rx, ry, en, kk⟩ := kw rfl e
  obtain rfl : n = n' := by
    injection en with en
    omega
  refine ⟨_, rfl, _, rfl, fun x dx hx hdx hne => ?_⟩
  have sx := Same.upd (same_new hdx (.own x)) hx (.ins Cp dx [])
  refine ⟨x, dx, v, u, xs, ys, rfl, upd_same, (hv.same s1).same sx, (hu.same s1).same sx, rx.most, ry.most, fun d H2 hds hd0 kp hd hp => ⟨rfl, ?_⟩⟩
  have s2 : Same H1 H2 := fun b o q => kp b o (sx _ _ q) (fun z => by rw [z, hx] at q; cases q)
  obtain ⟨dx2, wt, w1, w2, q1, q2, q3, q4⟩ := id hp.ob
  have lw1 : (wd xs).length ≤ 1000 := Nat.le_trans (wd_length xs) rx.most
  have lw2 : (wd ys).length ≤ 1000 := Nat.le_trans (wd_length ys) ry.most
  have hd1 : H1 d = none := by
    cases z : H1 d with
    | none => rfl
    | some o =>
      rw [sx _ _ z] at hd0
      cases hd0
  refine ⟨_, rfl, x, dx2, _, rfl, q1, pfl_no _ _ (by decide +kernel) (by decide +kernel), _, rfl, (by show 2 ≤ sizeLine; decide), fun pl hpl => ?_⟩
  have s3 := same_new hpl (.tup [.int 0, .int 0])
  have hd3 := s3 _ _ hd
  refine ⟨x, pl, d, wd xs, wd ys, 0, 0, [], rfl, hp.sameS s3, lw1, lw2, Nat.zero_le _, Nat.zero_le _, upd_same, ⟨hd3, hds, fun _ h => (by cases h)⟩, ?_, fun H4 xs4 sb m4 _ => ?_⟩
  · show 0 + gr n < 2 ^ 24
    exact gr_small hn
  have s4 : Same H1 H4 := fun b o q => sb _ _ (fun z => by rw [z, hd1] at q; cases q) (s3 _ _ (s2 _ _ q))
  have hp4 := (hp.sameS s3).same hd3 sb
  refine ⟨_, _, rfl, rfl, ?_⟩
  refine ⟨_, rfl, ?_⟩
  refine ite2 (fun c => ?_) (fun c => ?_)
  · have c' := of_decide_eq_true c
    have big := kk.1 (by omega)
    exact tm_raise fun d H2 s5 hd => big d H2 ((s1.trans s4).trans s5) hd
  · have c' := of_decide_eq_false (Bool.eq_false_iff.mpr c)
    obtain ⟨n6, fin⟩ := kk.2 (by omega)
    obtain ⟨dx4, wt4, w14, w24, r1, r2, r3, r4⟩ := id hp4.ob
    refine ⟨_, rfl, x, dx4, _, rfl, r1, pfl_no _ _ (by decide +kernel) (by decide +kernel), _, rfl, ?_⟩
    exact ⟨x, d, wd xs, wd ys, n, rfl, hp4, lw1, lw2, n6, fun r H5 vs s5 hr4 hr5 hd5 => fin r H5 vs ((s1.trans s4).trans s5) ((s1.trans s4).free hr4) hr5 hd5⟩
end
end Fl
end

section
set_option Elab.async false
set_option linter.all false
set_option maxRecDepth 100000
set_option maxHeartbeats 4000000
/-! Own rules, part 5: min of two words; min of a list of pairs (number, word). -/
namespace Fl
open PySem PySem.Spec PyProof.Rows L2
/-! ### the order of data -/
theorem lt_ints : ∀ u v : List Int, lexLt itemOrd (PySem.W.keyToksAll (u.map PyData.int)) (PySem.W.keyToksAll (v.map PyData.int)) = ltL u v
  | [], [] => by decide
  | [], y :: v => by
    show lexLt itemOrd [Sum.inl 0] (Sum.inl 1 :: _) = true
    rw [PySem.W.lex_atom (by decide) [] _]
    decide
  | x :: u, [] => by
    show lexLt itemOrd (Sum.inl 1 :: _) [Sum.inl 0] = false
    rw [PySem.W.lex_atom (by decide) _ []]
    decide
  | x :: u, y :: v => by
    rw [List.map_cons, List.map_cons]
    by_cases e : x = y
    · rw [PySem.W.dataLt_all_yes (by rfl) (by show decide (x = y) = true; exact decide_eq_true e), lt_ints u v]
      show _ = (if x = y then ltL u v else decide (x < y))
      rw [if_pos e]
    · rw [PySem.W.dataLt_all_no (by rfl) (by show decide (x = y) = false; exact decide_eq_false e), PySem.W.dataLt_int]
      show _ = (if x = y then ltL u v else decide (x < y))
      rw [if_neg e]
theorem lt_dW (u v : List Int) : PySem.W.dataLt (dW u) (dW v) = ltL u v := by
  unfold dW
  rw [PySem.W.dataLt_tuple, lt_ints]
def dP (p : Int × List Int) : PyData := .tuple [.int p.1, dW p.2]
theorem alike_ints : ∀ u v : List Int, PySem.W.alikeAll (u.map PyData.int) (v.map PyData.int) = true
  | [], _ => by rw [List.map_nil, PySem.W.alikeAll]
  | x :: u, [] => rfl
  | x :: u, y :: v => by
    rw [List.map_cons, List.map_cons, PySem.W.alikeAll, alike_ints u v]
    rfl
theorem alike_dW (u v : List Int) : PySem.W.alike (dW u) (dW v) = true := by
  unfold dW
  rw [PySem.W.alike, alike_ints]
theorem alike_dP (p q : Int × List Int) : PySem.W.alike (dP p) (dP q) = true := by
  unfold dP
  rw [PySem.W.alike, PySem.W.alikeAll, PySem.W.alikeAll, alike_dW]
  rfl
theorem eqv_ints : ∀ u v : List Int, PyData.eqvAll (u.map PyData.int) (v.map PyData.int) = decide (u = v)
  | [], [] => by rw [List.map_nil, PyData.eqvAll]; rfl
  | [], y :: v => by rw [List.map_nil, List.map_cons, PyData.eqvAll]; simp
  | x :: u, [] => by rw [List.map_nil, List.map_cons, PyData.eqvAll]; simp
  | x :: u, y :: v => by
    rw [List.map_cons, List.map_cons, PyData.eqvAll, eqv_ints u v, show PyData.eqv (.int x) (.int y) = decide (x = y) from rfl]
    by_cases e : x = y <;> by_cases e2 : u = v <;> simp [e, e2]
theorem eqv_dW (u v : List Int) : PyData.eqv (dW u) (dW v) = decide (u = v) := by
  unfold dW
  rw [PyData.eqv, eqv_ints]
theorem lt_dP (p q : Int × List Int) : PySem.W.dataLt (dP p) (dP q) = ltP p q := by
  unfold dP ltP
  rw [PySem.W.dataLt_tuple]
  by_cases e : p.1 = q.1
  · rw [PySem.W.dataLt_all_yes (by rfl) (by show decide (p.1 = q.1) = true; exact decide_eq_true e), if_pos e]
    by_cases e2 : p.2 = q.2
    · rw [PySem.W.dataLt_all_yes (alike_dW _ _) (by rw [eqv_dW]; exact decide_eq_true e2), e2, ltL_irr]
      decide
    · rw [PySem.W.dataLt_all_no (alike_dW _ _) (by rw [eqv_dW]; exact decide_eq_false e2), lt_dW]
  · rw [PySem.W.dataLt_all_no (by rfl) (by show decide (p.1 = q.1) = false; exact decide_eq_false e), PySem.W.dataLt_int, if_neg e]
theorem plain_ints : ∀ u : List Int, PyData.plainAll (u.map PyData.int) = true
  | [] => by rw [List.map_nil, PyData.plainAll]
  | x :: u => by
    rw [List.map_cons, PyData.plainAll, plain_ints u]
    rfl
theorem plain_dW (u : List Int) : (dW u).plain = true := by
  unfold dW
  rw [PyData.plain, plain_ints]
theorem plain_dP (p : Int × List Int) : (dP p).plain = true := by
  unfold dP
  rw [PyData.plain, PyData.plainAll, PyData.plainAll, plain_dW, PyData.plainAll]
  rfl
theorem depth_ints : ∀ u : List Int, PyData.depthAll (u.map PyData.int) = 0
  | [] => by rw [List.map_nil, PyData.depthAll]
  | x :: u => by
    rw [List.map_cons, PyData.depthAll, depth_ints u]
    rfl
theorem depth_dW (u : List Int) : (dW u).depth = 1 := by
  unfold dW
  rw [PyData.depth, depth_ints]
theorem depth_dP (p : Int × List Int) : (dP p).depth = 2 := by
  unfold dP
  rw [PyData.depth, PyData.depthAll, PyData.depthAll, depth_dW, PyData.depthAll]
  rfl
theorem depth_dPs : ∀ ps : List (Int × List Int), PyData.depthAll (ps.map dP) ≤ 2
  | [] => by
    rw [List.map_nil, PyData.depthAll]
    exact Nat.zero_le _
  | p :: ps => by
    rw [List.map_cons, PyData.depthAll, depth_dP]
    have := depth_dPs ps
    omega
/-! ### the least -/
theorem ltP_trans {x y z : Int × List Int} (h1 : ltP x y = true) (h2 : ltP y z = true) : ltP x z = true := by
  unfold ltP at *
  by_cases e1 : x.1 = y.1
  · rw [if_pos e1] at h1
    by_cases e2 : y.1 = z.1
    · rw [if_pos e2] at h2
      rw [if_pos (e1.trans e2)]
      exact ltL_trans h1 h2
    · rw [if_neg e2] at h2
      rw [if_neg (by rw [e1]; exact e2), e1]
      exact h2
  · rw [if_neg e1] at h1
    have h1 := of_decide_eq_true h1
    by_cases e2 : y.1 = z.1
    · rw [if_neg (by rw [← e2]; exact e1), ← e2]
      exact decide_eq_true h1
    · rw [if_neg e2] at h2
      have h2 := of_decide_eq_true h2
      rw [if_neg (by omega)]
      exact decide_eq_true (by omega)
theorem ltP_irr (x : Int × List Int) : ltP x x = false := by
  unfold ltP
  rw [if_pos rfl]
  exact ltL_irr _
def minP (p : Int × List Int) (ps : List (Int × List Int)) : Int × List Int := ps.foldl (fun a y => if ltP y a = true then y else a) p
theorem minP_mem : ∀ (ps : List (Int × List Int)) (p : Int × List Int), minP p ps ∈ p :: ps
  | [], p => List.mem_singleton.mpr rfl
  | q :: ps, p => by
    have := minP_mem ps (if ltP q p = true then q else p)
    show minP (if ltP q p = true then q else p) ps ∈ _
    rcases List.mem_cons.mp this with h | h
    · rw [h]
      by_cases c : ltP q p = true
      · rw [if_pos c]
        exact List.mem_cons_of_mem _ (List.mem_cons_self ..)
      · rw [if_neg c]
        exact List.mem_cons_self ..
    · exact List.mem_cons_of_mem _ (List.mem_cons_of_mem _ h)
theorem minP_le : ∀ (ps : List (Int × List Int)) (p r : Int × List Int), ltP r p = false → ltP r (minP p ps) = false
  | [], p, r, h => h
  | q :: ps, p, r, h => by
    refine minP_le ps (if ltP q p = true then q else p) r ?_
    by_cases c : ltP q p = true
    · rw [if_pos c]
      refine Bool.eq_false_iff.mpr fun z => ?_
      rw [ltP_trans z c] at h
      cases h
    · rw [if_neg c]
      exact h
theorem minP_low : ∀ (ps : List (Int × List Int)) (p : Int × List Int), ∀ r ∈ p :: ps, ltP r (minP p ps) = false
  | [], p, r, h => by
    rw [List.mem_singleton.mp h]
    exact ltP_irr p
  | q :: ps, p, r, h => by
    show ltP r (minP (if ltP q p = true then q else p) ps) = false
    rcases List.mem_cons.mp h with rfl | h
    · refine minP_le ps _ _ ?_
      by_cases c : ltP q r = true
      · rw [if_pos c]
        refine Bool.eq_false_iff.mpr fun z => ?_
        have := ltP_trans z c
        rw [ltP_irr] at this
        cases this
      · rw [if_neg c]
        exact ltP_irr r
    · rcases List.mem_cons.mp h with rfl | h
      · refine minP_le ps _ _ ?_
        by_cases c : ltP r p = true
        · rw [if_pos c]
          exact ltP_irr r
        · rw [if_neg c]
          exact Bool.eq_false_iff.mpr c
      · exact minP_low ps _ r (List.mem_cons_of_mem _ h)
theorem minD_dP : ∀ (ps : List (Int × List Int)) (p : Int × List Int), PySem.W.minD (dP p) (ps.map dP) = dP (minP p ps)
  | [], p => rfl
  | q :: ps, p => by
    show PySem.W.minD (if PySem.W.dataLt (dP q) (dP p) then dP q else dP p) (ps.map dP) = dP (minP (if ltP q p = true then q else p) ps)
    rw [lt_dP, ← minD_dP ps]
    by_cases c : ltP q p = true
    · rw [if_pos c, if_pos c]
    · rw [if_neg c, if_neg c]

/-! ### the rules -/
theorem vals_back : ∀ {xs : List V} {us : List Value} {i : Nat} {u : Value}, Vals xs us → us[i]? = some u → ∃ x, xs[i]? = some x ∧ RelV x u
  | _, _, i, u, .nil, h => by cases h
  | _, _, 0, u, .cons h t, e => by
    cases e
    exact ⟨_, rfl, h⟩
  | _, _, i + 1, u, .cons h t, e => vals_back (i := i) t e

def IsP (K : PySem.W.Frag) (H : Hp) (y : V) (p : Int × List Int) : Prop := Dp K H y (dP p)
theorem IsP.of {K : PySem.W.Frag} {H : Hp} {q : Addr} {z : V} {k : Int} {u : List Int} (h : SqT K H q [.int k, z]) (hz : Wd K H z u) : Dp K H (.ref q) (dP (k, u)) :=
  .tup h (.cons (.int k) (.cons hz.dp .nil))
theorem IsP.to {K : PySem.W.Frag} {H : Hp} {y : V} {p : Int × List Int} (h : Dp K H y (dP p)) : ∃ q z, y = .ref q ∧ SqT K H q [.int p.1, z] ∧ Wd K H z p.2 := by
  cases h with
  | tup hs hd =>
    cases hd with
    | cons h1 h2 =>
      cases h2 with
      | cons h3 h4 =>
        cases h4
        cases h1
        exact ⟨_, _, rfl, hs, Wd.of h3⟩
/-- min of a list of pairs (number, word) -/
def rMinP (K : PySem.W.Frag) : List V → Hp → VK → Prop := fun vs H Q => ∃ (a : Addr) (ys : List V) (ps : List (Int × List Int)), vs = [V.ref a] ∧ SqL K H a ys ∧ DpAll K H ys (ps.map dP) ∧ 0 < ps.length ∧
  ∀ y m, y ∈ ys → m ∈ ps → IsP K H y m → (∀ p ∈ ps, ltP p m = false) → Q y H
section
variable {X : Cx}
theorem cr_minP (hc : X.calm = true) (hu : X.A.units + 64 < cLine) : CallR X (.builtin "min") (rMinP X.K) := by
  intro pins s σ H vs us Q I r h
  obtain ⟨a, ys, ps, rfl, hs, hd, hne, q⟩ := h
  obtain ⟨its, rv, hl, _⟩ := I.list hs
  rw [Vals.ref1 r]
  cases ps with
  | nil => cases hne
  | cons p ps =>
    obtain ⟨as, hr⟩ := Dp.readsAll I ((p :: ps).map dP) ys its hd rv
    rw [List.map_cons] at hr
    refine PySem.W.min_list_data (x := dP p) (xs := ps.map dP) (I.ok.hd hc) hl.isList (as := as) hr ⟨fun x hx y hy => ?_, fun x hx => ?_⟩ ?_ fun i v h' tk bs hv rd kp => ?_
    · rw [← List.map_cons] at hx hy
      obtain ⟨x', _, rfl⟩ := List.mem_map.mp hx
      obtain ⟨y', _, rfl⟩ := List.mem_map.mp hy
      exact alike_dP _ _
    · rw [← List.map_cons] at hx
      obtain ⟨x', _, rfl⟩ := List.mem_map.mp hx
      exact fun z => nomatch z
    · have := depth_dPs (p :: ps)
      rw [List.map_cons] at this
      omega
    · rw [minD_dP] at rd
      have hv' : its[i]? = some v := by rw [← hv]; simp
      obtain ⟨y, hy, ry⟩ : ∃ y, ys[i]? = some y ∧ RelV y v := vals_back rv hv'
      obtain ⟨d, hd1, hd2⟩ := dpAll_get hd hy
      obtain ⟨as1, rd1⟩ := Dp.reads I d y v hd2 ry
      have hdm : d ∈ (p :: ps).map dP := List.mem_of_getElem? hd1
      obtain ⟨m', hm', rfl⟩ := List.mem_map.mp hdm
      have e := SeqAt.plain_unique _ _ v _ _ (plain_dP m') (Reads.keeps kp rd1) rd
      refine ⟨y, H, I.kept kp, ry, q y (minP p ps) (List.mem_of_getElem? hy) (minP_mem ps p) ?_ (minP_low ps p)⟩
      show Dp X.K H y (dP (minP p ps))
      rw [← e]
      exact hd2
end
/-- the pair of arguments, laid as a tuple -/
abbrev pairO (a b : Value) : Obj := { cls := .type "tuple", data := .seq #[a, b] }
theorem pick2 {a b v : Value} {x y : PyData} (h : (#[a, b] : Array Value)[PySem.argBest (fun i j => PySem.W.dataLt ([x, y].getD i .none) ([x, y].getD j .none)) 1]? = some v) : v = if PySem.W.dataLt y x = true then b else a := by
  have e : PySem.argBest (fun i j => PySem.W.dataLt ([x, y].getD i .none) ([x, y].getD j .none)) 1 = if PySem.W.dataLt y x = true then 1 else 0 := rfl
  rw [e] at h
  by_cases c : PySem.W.dataLt y x = true
  · rw [if_pos c] at h ⊢
    exact (Option.some.inj h).symm
  · rw [if_neg c] at h ⊢
    exact (Option.some.inj h).symm
theorem min_two_data {prog : Program} {w : World} {A : Around} {E : Value → Shared → Prop} {s : Shared} {a b : Value} {x y : PyData} {as bs : List Addr} {Q : Value → Shared → Prop} (hh : A.handled = none) (ra : Reads s.heap a x as) (rb : Reads s.heap b y bs)
    (ha : PySem.W.AlikeAll [x, y]) (hu : A.units + 1 + PyData.depthAll [x, y] < cLine)
    (h : ∀ h' tk, (∀ b o, s.heap.get? b = some o → h'.get? b = some o) → Q (if PySem.W.dataLt y x = true then b else a) { s with heap := h', toks := tk }) :
    wpAny (model prog w) A (PySem.call (.builtin "min") [a, b]) Q E s := by
  have old : ∀ c o, s.heap.get? c = some o → (s.heap.push (pairO a b)).get? c = some o := fun _ _ => Heap.get?_push_of_some _
  have rd : ReadsAll (s.heap.push (pairO a b)) (#[a, b] : Array Value).toList [x, y] _ := .cons (Reads.keeps old ra) (.cons (Reads.keeps old rb) .nil)
  have tup : (s.heap.push (pairO a b)).IsTuple s.heap.objs.size #[a, b] := ⟨_, Heap.get?_push_size _ rfl, rfl, 0, rfl⟩
  refine call_function_tree PySem.F.kind_min PySem.F.plain_min PySem.F.entry_min (PySem.F.args_min2 a b) (wpAny_bind (wpAny_of_eq (a := [none, none]) rfl ?_))
  refine wpAny_bind (m := newTuple [a, b]) (wpAny_newObj_type ?_)
  refine wpAny_bind (PySem.W.iter_tupleW (s := { s with heap := s.heap.push (pairO a b) }) (A := A.in1) hh tup fun s2 e2 wk st fp nw kp => wpAny_bind (wpAny_newObj_type ?_))
  have cmp := PySem.W.cmpIn_lt (prog := prog) (w := w) (s := { s with heap := s.heap.push (pairO a b) }) (A := A.in1) rd ha hu
  have big : s2.heap.objs.size ∉ [(s.heap.push (pairO a b)).objs.size, s.heap.objs.size] := fun m => absurd (fp _ m) (Nat.lt_irrefl _)
  have more : ∀ o c u, s2.heap.get? c = some u → (s2.heap.push o).get? c = some u := fun o _ _ => Heap.get?_push_of_some o
  refine wpAny_pure ⟨plainId_quiet PySem.F.plain_min_loop _, PySem.codeAny_min_loop_firstH wk _ nw _ cmp _ big (PySem.fresh_in kp) _ (Nat.zero_lt_succ 1) (fun c u q => more _ c u (kp c u q)) (wk.frame 0 s2 _ s2.toks st (Nat.le_refl _) fun c _ u q => more _ c u q) (Heap.get?_push_size _ rfl) ?_⟩
  intro v s3 hv mv
  obtain ⟨h4, tk, rfl, k4⟩ := PySem.W.moved_old e2 rfl (PySem.Moved.drop_new (tk := s2.toks) mv (Nat.le_refl _))
  rw [pick2 (x := x) (y := y) hv]
  exact h h4 tk fun c u q => k4 c u (old c u q)
/-- min(one, other) of two words -/
def rMin2W (K : PySem.W.Frag) : List V → Hp → VK → Prop := fun vs H Q => ∃ (x y : V) (u v : List Int), vs = [x, y] ∧ Wd K H x u ∧ Wd K H y v ∧ Q (if ltL v u = true then y else x) H
theorem cr_min2W {X : Cx} (hc : X.calm = true) (hu : X.A.units + 64 < cLine) : CallR X (.builtin "min") (rMin2W X.K) := by
  intro pins s σ H vs us Q I r h
  obtain ⟨x, y, u, v, rfl, hx, hy, q⟩ := h
  obtain ⟨a, b, rfl, ra, rb⟩ := vals2 r
  obtain ⟨as, r1⟩ := Dp.reads I (dW u) x a hx.dp ra
  obtain ⟨bs, r2⟩ := Dp.reads I (dW v) y b hy.dp rb
  refine min_two_data (I.ok.hd hc) r1 r2 ⟨fun p hp q hq => ?_, fun p hp => ?_⟩ ?_ fun h' tk kp => ?_
  · have e : ∀ p ∈ [dW u, dW v], ∃ n, p = dW n := fun p hp => by
      rcases List.mem_cons.mp hp with rfl | hp
      · exact ⟨_, rfl⟩
      · exact ⟨_, List.mem_singleton.mp hp⟩
    obtain ⟨n, rfl⟩ := e p hp
    obtain ⟨m, rfl⟩ := e q hq
    exact alike_dW n m
  · rcases List.mem_cons.mp hp with rfl | hp
    · exact fun z => nomatch z
    · rw [List.mem_singleton.mp hp]
      exact fun z => nomatch z
  · have : PyData.depthAll [dW u, dW v] = 1 := by
      rw [PyData.depthAll, PyData.depthAll, PyData.depthAll, depth_dW, depth_dW]
      rfl
    rw [this]
    omega
  · rw [lt_dW]
    by_cases c : ltL v u = true
    · rw [if_pos c] at q ⊢
      exact ⟨y, H, I.kept kp, rb, q⟩
    · rw [if_neg c] at q ⊢
      exact ⟨x, H, I.kept kp, ra, q⟩
end Fl
end

section
set_option Elab.async false
set_option linter.all false
set_option maxRecDepth 100000
set_option maxHeartbeats 4000000
/-! check_words, better, shorter. -/
namespace Fl
open PySem PySem.Spec PyProof.Rows L2
/-- v is the word, or None -/
def OW (K : PySem.W.Frag) (H : Hp) (v : V) (o : Option (List Int)) : Prop := match o with
  | none => v = .non
  | some u => Wd K H v u
theorem OW.same {K : PySem.W.Frag} {H H' : Hp} {v : V} {o : Option (List Int)} (e : Same H H') (h : OW K H v o) : OW K H' v o := by
  cases o with
  | none => exact h
  | some u => exact Wd.same e h
def spBetter (K : PySem.W.Frag) : Sp := fun vs H Q _ => ∃ (x y : V) (o p : Option (List Int)), vs = [x, y] ∧ OW K H x o ∧ OW K H y p ∧ ∀ r, OW K H r (bet o p) → Q r H
def spShorter (K : PySem.W.Frag) : Sp := fun vs H Q _ => ∃ (x y : V) (u v : List Int), vs = [x, y] ∧ Wd K H x u ∧ Wd K H y v ∧ ∀ r H', Same H H' → Wd K H' r (shr u v) → Q r H'
def spCWords (K : PySem.W.Frag) (cR cT : Addr) : Sp := fun vs H Q E => ∃ (v u : V) (b c : Bool), vs = [v, u] ∧ RowB K H v b ∧ RowB K H u c ∧ (∀ H', Same H H' → (b && c) = false → E (.ref cR) none H') ∧
  ((b && c) = true → ∃ (xs ys : List Int), Wd K H v xs ∧ Wd K H u ys ∧ IsRow xs ∧ IsRow ys ∧ ∀ H', Same H H' →
    ((60 < (wd xs).length ∨ 60 < (wd ys).length) → ∀ d H2, Same H' H2 → H2 d = some (.xd [("most", .int 60)]) → E (.ref cT) (some d) H2) ∧
    ((wd xs).length ≤ 60 → (wd ys).length ≤ 60 → ∀ p p1 p2, H' p = some (.tup [.ref p1, .ref p2]) → Wd K H' (.ref p1) (wd xs) → Wd K H' (.ref p2) (wd ys) → Q (.ref p) H'))
section
variable {P : Program} {w : World} {K : PySem.W.Frag} {mg : Str → Option Value} {base : Heap} {f : Addr} {fd : FuncData} {Cp cR cN cT : Addr}
theorem wd_non {K : PySem.W.Frag} {H : Hp} {v : V} {u : List Int} (h : Wd K H v u) : v ≠ .non := by
  obtain ⟨a, rfl, _⟩ := h
  exact fun z => nomatch z
theorem decN {v : V} (h : v ≠ .non) : decide (v = .non) = false := decide_eq_false h
abbrev s_better : Stmt := top 29
theorem sc_better : FnScope ["one", "other"] ["one", "other"] (defScope s_better) := ⟨rfl, rfl, rfl, by decide +kernel, rfl, by decide +kernel, by decide +kernel⟩
theorem ok_better (F : Fun K "better" "better" s_better f fd) (B : Bn mg) : FnOk P w K mg base CX0 2 f fd ["one", "other"] (spBetter K) := by
  refine F.ok sc_better (fun vs H Q E h => ?_) (fun cdv A outer s H vs Q E hr h => ?_)
  · obtain ⟨x, y, o, p, rfl, _⟩ := h
    rfl
  obtain ⟨x, y, o, p, rfl, hx, hy, k⟩ := h
  refine ⟨_, (pss_cons (ps_if (PW.pt (pw_or (pt_cmpR op_isN (pv 0) pe_non (nomark _)) (pw_or1 (pt_cmpR op_isN (pv 1) pe_non (nomark _))))) (pss_one (ps_ret (pe_ifExp (pt_cmpR op_isN (pv 0) pe_non (nomark _)) (pv 1) (pv 0)))) pss_nil)
      (pss_cons (ps_if (pt_cmpR op_ne (pe_callB call_len_seq (by rfl) B.len_ PySem.boot_len (pa_cons (pv 0) pa_nil)) (pe_callB call_len_seq (by rfl) B.len_ PySem.boot_len (pa_cons (pv 1) pa_nil)) (nomark _)) (pss_one (ps_ret (pe_ifExp (pt_cmpR op_gt (pe_callB call_len_seq (by rfl) B.len_ PySem.boot_len (pa_cons (pv 0) pa_nil)) (pe_callB call_len_seq (by rfl) B.len_ PySem.boot_len (pa_cons (pv 1) pa_nil)) (nomark _)) (pv 0) (pv 1)))) pss_nil)
      (pss_one (ps_ret (pe_callB (cr_min2W rfl hr.units) (by rfl) B.min_ (by decide +kernel) (pa_cons (pv 0) (pa_cons (pv 1) pa_nil))))))), ?_⟩
  cases o with
  | none =>
    have hx : x = .non := hx
    subst hx
    refine ⟨_, rfl, rfl, _, rfl, ?_⟩
    refine iteT ?_
    exact ⟨_, rfl, rfl, _, rfl, iteT ⟨_, rfl, k y hy⟩⟩
  | some u =>
    have hx : Wd K H x u := hx
    refine ⟨_, rfl, rfl, _, rfl, ?_⟩
    rw [decN (wd_non hx)]
    refine iteF ?_
    refine ⟨_, rfl, rfl, _, rfl, ?_⟩
    cases p with
    | none =>
      have hy : y = .non := hy
      subst hy
      refine iteT ?_
      refine ⟨_, rfl, rfl, _, rfl, ?_⟩
      rw [decN (wd_non hx)]
      exact iteF ⟨_, rfl, k x hx⟩
    | some v =>
      have hy : Wd K H y v := hy
      rw [decN (wd_non hy)]
      refine iteF ?_
      obtain ⟨a, rfl, ha⟩ := id hx
      obtain ⟨b, rfl, hb⟩ := id hy
      refine ⟨_, rfl, a, _, rfl, .inr ha, _, rfl, b, _, rfl, .inr hb, ?_⟩
      refine ⟨rfl, _, rfl, ?_⟩
      have el : (u.map V.int).length = u.length := List.length_map ..
      have el2 : (v.map V.int).length = v.length := List.length_map ..
      rw [el, el2]
      refine ite2 (fun c => ?_) (fun c => ?_)
      · have hne : u.length ≠ v.length := fun z => by
          rw [z] at c
          simp at c
        refine ⟨_, rfl, a, _, rfl, .inr ha, _, rfl, b, _, rfl, .inr hb, _, _, rfl, rfl, _, rfl, ?_⟩
        rw [el, el2]
        have e : bet (some u) (some v) = some (if u.length > v.length then u else v) := by
          show some (betW u v) = _
          unfold betW
          rw [if_pos hne]
        refine ite2 (fun c => ?_) (fun c => ?_)
        · have c := of_decide_eq_true c
          refine ⟨_, rfl, k _ ?_⟩
          rw [e, if_pos (by omega)]
          exact hx
        · have c := of_decide_eq_false (Bool.eq_false_iff.mpr c)
          refine ⟨_, rfl, k _ ?_⟩
          rw [e, if_neg (by omega)]
          exact hy
      · have hne : ¬ u.length ≠ v.length := fun z => c (by
          rw [Bool.not_eq_true', decide_eq_false_iff_not]
          intro z2
          injection z2 with z2
          omega)
        have e : bet (some u) (some v) = some (if ltL v u = true then v else u) := by
          show some (betW u v) = _
          unfold betW minL
          rw [if_neg hne]
        refine ⟨_, rfl, _, rfl, .ref a, .ref b, u, v, rfl, hx, hy, k _ ?_⟩
        rw [e]
        by_cases c2 : ltL v u = true
        · rw [if_pos c2, if_pos c2]
          exact hy
        · rw [if_neg c2, if_neg c2]
          exact hx
abbrev s_shorter : Stmt := top 32
theorem sc_shorter : FnScope ["one", "other"] ["one", "other"] (defScope s_shorter) := ⟨rfl, rfl, rfl, by decide +kernel, rfl, by decide +kernel, by decide +kernel⟩
theorem ok_shorter (F : Fun K "shorter" "shorter" s_shorter f fd) (B : Bn mg) : FnOk P w K mg base CX0 2 f fd ["one", "other"] (spShorter K) := by
  refine F.ok sc_shorter (fun vs H Q E h => ?_) (fun cdv A outer s H vs Q E hr h => ?_)
  · obtain ⟨x, y, o, p, rfl, _⟩ := h
    rfl
  obtain ⟨x, y, u, v, rfl, hx, hy, k⟩ := h
  refine ⟨_, (pss_one (ps_ret (pe_ix ix_tup (pe_callB (cr_minP rfl hr.units) (by rfl) B.min_ (by decide +kernel) (pa_cons (pe_lst (pa_cons (pe_tup (pa_cons (pe_callB call_len_seq (by rfl) B.len_ PySem.boot_len (pa_cons (pv 0) pa_nil)) (pa_cons (pv 0) pa_nil))) (pa_cons (pe_tup (pa_cons (pe_callB call_len_seq (by rfl) B.len_ PySem.boot_len (pa_cons (pv 1) pa_nil)) (pa_cons (pv 1) pa_nil))) pa_nil))) pa_nil)) pe_int (fun _ _ => rfl)))), ?_⟩
  obtain ⟨a, rfl, ha⟩ := id hx
  obtain ⟨b, rfl, hb⟩ := id hy
  have el : (u.map V.int).length = u.length := List.length_map ..
  have el2 : (v.map V.int).length = v.length := List.length_map ..
  refine ⟨_, rfl, a, _, rfl, .inr ha, _, rfl, ?_⟩
  refine ⟨(by show 2 ≤ sizeLine; decide), fun t1 ht1 => ?_⟩
  have s1 := same_new ht1 (.tup [.int ((u.map V.int).length : Int), .ref a])
  refine ⟨_, rfl, b, _, rfl, .inr (Same.seqT s1 hb), _, rfl, ?_⟩
  refine ⟨(by show 2 ≤ sizeLine; decide), fun t2 ht2 => ?_⟩
  have s2 := same_new ht2 (.tup [.int ((v.map V.int).length : Int), .ref b])
  refine ⟨(by show 2 ≤ sizeLine; decide), fun l hl => ?_⟩
  have s3 := same_new hl (.lst [.ref t1, .ref t2])
  have s13 := s1.trans (s2.trans s3)
  have w1 : Wd K _ (.ref a) u := Wd.same s13 hx
  have w2 : Wd K _ (.ref b) v := Wd.same s13 hy
  refine ⟨l, _, [((u.length : Int), u), ((v.length : Int), v)], rfl, SqL.of upd_same, .cons (IsP.of ?_ w1) (.cons (IsP.of ?_ w2) .nil), Nat.zero_lt_succ 1, fun y m hy hm hp hle => ?_⟩
  · rw [← el]
    exact SqT.of (s3 _ _ (s2 _ _ upd_same))
  · rw [← el2]
    exact SqT.of (s3 _ _ upd_same)
  obtain ⟨q, z, rfl, hq, hz⟩ := IsP.to hp
  refine ⟨q, _, _, z, rfl, rfl, hq, rfl, k z _ s13 ?_⟩
  have e : m.2 = shr u v := by
    have hm' : m = ((u.length : Int), u) ∨ m = ((v.length : Int), v) := by
      rcases List.mem_cons.mp hm with h | h
      · exact .inl h
      · exact .inr (List.mem_singleton.mp h)
    have h1 := hle _ (List.mem_cons_self ..)
    have h2 := hle _ (List.mem_cons_of_mem _ (List.mem_singleton.mpr rfl))
    have em : m = ((m.2.length : Int), m.2) := by rcases hm' with rfl | rfl <;> rfl
    rw [em] at h1 h2
    exact shr_of (by rcases hm' with rfl | rfl <;> simp) h1 h2
  rw [← e]
  exact hz
abbrev s_check_words : Stmt := top 28
theorem sc_check_words : FnScope ["row", "other", "words", "word"] ["row", "other"] (defScope s_check_words) := ⟨rfl, rfl, rfl, by decide +kernel, rfl, by decide +kernel, by decide +kernel⟩
theorem ok_check_words (F : Fun K "check_words" "check_words" s_check_words f fd) (B : Bn mg) (G : Gn mg) {f1 f2 f6 : Addr} {fd1 fd2 fd6 : FuncData} (T : TmK P w K mg base cT f6 fd6)
    (kcheck_both : Kn P w K mg base (L2.CX P w) 6 "check_both" ["row", "out"] (spCheckBoth K cR) f1 fd1) (kword_of : Kn P w K mg base CX0 1 "word_of" ["row"] (spWordOf K) f2 fd2) :
    FnOk P w K mg base (L2.CX P w) 7 f fd ["row", "other"] (spCWords K cR cT) := by
  refine F.okX sc_check_words (fun vs H Q E h => ?_) (fun cdv A outer s H vs Q E hr h => ?_)
  · obtain ⟨v, u, b, c, rfl, _⟩ := h
    rfl
  obtain ⟨v, u, b, c, rfl, rv, ru, k, kw⟩ := h
  have tk0 := takes_of (X := cxOf (L2.CX P w) P w K mg base ["row", "other", "words", "word"] "check_words" (defScope s_check_words) f cdv A outer s H E) rfl rfl rfl rfl
  refine ⟨_, (pss_cons (ps_expr (pk kcheck_both hr (by omega) (passes_call tk0 (fun _ _ _ _ h => h)) (pa_cons (pv 0) (pa_cons (pv 1) pa_nil))))
      (pss_cons (ps_set (i := 2) sc_check_words.nd rfl (Or.inl rfl) (pe_tup (pa_cons (pk kword_of hr (by omega) pass0 (pa_cons (pv 0) pa_nil)) (pa_cons (pk kword_of hr (by omega) pass0 (pa_cons (pv 1) pa_nil)) pa_nil))))
      (pss_cons (ps_if (pt_cmpR op_gt (pe_callB (cr_max rfl) (by rfl) B.max_ (by decide +kernel) (pa_cons (pe_lc (own := [("word", 3)]) (by rfl) sc_check_words.nd (pi_tup (pv 2)) (blkOk_by (N := ["row", "other", "words", "word"]) (sc := defScope s_check_words) (by decide +kernel)) (fun _ _ _ _ _ => (pg_name (i := 3) sc_check_words.nd rfl (Or.inl rfl))) (fun _ _ _ _ _ => pts_nil) (fun _ _ _ _ _ => (pe_callB (lenS K) (by rfl) B.len_ PySem.boot_len (pa_cons (pv 3) pa_nil)))) pa_nil)) (pgi G.MOST_WORD) (nomark _)) (pss_one (ps_raise rfl tk0 (pmkT T hr (by omega) (pa_cons (pgi G.MOST_WORD) pa_nil)))) pss_nil)
      (pss_one (ps_ret (pv 2)))))), ?_⟩
  refine ⟨_, rfl, _, rfl, v, u, b, c, rfl, rv, ru, fun H1 s1 => ⟨fun e1 e2 => ?_, fun e => k H1 s1 e⟩⟩
  subst e1
  subst e2
  obtain ⟨xs, ys, hv, hu, rx, ry, kk0⟩ := kw rfl
  refine ⟨_, rfl, v, xs, rfl, hv.same s1, rx.most, fun p1 H2 s2 w1 => ?_⟩
  refine ⟨_, rfl, u, ys, rfl, (hu.same s1).same s2, ry.most, fun p2 H3 s3 w2 => ?_⟩
  refine ⟨(by show 2 ≤ sizeLine; decide), fun wt hwt => ?_⟩
  have s34 := same_new hwt (.tup [.ref p1, .ref p2])
  have s14 := s2.trans (s3.trans s34)
  obtain ⟨a1, e1, h1⟩ := id w1
  cases e1
  obtain ⟨a2, e2, h2⟩ := id w2
  cases e2
  have l1 : ((wd xs).map V.int).length = (wd xs).length := List.length_map ..
  have l2 : ((wd ys).map V.int).length = (wd ys).length := List.length_map ..
  have h14 := Same.seqT s34 (Same.seqT s3 h1)
  have h24 := Same.seqT s34 h2
  refine ⟨_, rfl, wt, rfl, ⟨_, SqT.of upd_same⟩, fun D hD => ?_⟩
  refine lc_tup (K := K) (a := wt) (xs := [.ref p1, .ref p2]) (fun i H5 => Same (upd H3 wt (.tup [.ref p1, .ref p2])) H5 ∧ H5 D = some (.lst (([((wd xs).length : Int), ((wd ys).length : Int)].map V.int).take i))) ⟨same_new hD _, upd_same⟩ (fun i H5 _ h5 => SqT.of (h5.1 _ _ upd_same)) ?_ ?_
  · rintro i y H5 hi ⟨hs5, hd5⟩
    match i, hi with
    | 0, hi =>
      cases hi
      refine ⟨rfl, ?_⟩
      refine ⟨_, rfl, p1, _, rfl, .inr (Same.seqT hs5 h14), [], hd5, (by decide), Same.upd hs5 hD _, ?_⟩
      rw [upd_same, l1]
      rfl
    | 1, hi =>
      cases hi
      refine ⟨rfl, ?_⟩
      refine ⟨_, rfl, p2, _, rfl, .inr (Same.seqT hs5 h24), [.int ((wd xs).length : Int)], hd5, (by show 1 < sizeLine; decide), Same.upd hs5 hD _, ?_⟩
      rw [upd_same, l2]
      rfl
  · rintro H5 ⟨hs5, hd5⟩
    have hs15 := s14.trans hs5
    have kk := kk0 H5 (s1.trans hs15)
    refine ⟨D, [((wd xs).length : Int), ((wd ys).length : Int)], rfl, SqL.of hd5, Nat.zero_lt_succ 1, fun m hm hle => ?_⟩
    have m1 := hle _ (List.mem_cons_self ..)
    have m2 := hle _ (List.mem_cons_of_mem _ (List.mem_singleton.mpr rfl))
    have m3 : m = ((wd xs).length : Int) ∨ m = ((wd ys).length : Int) := by
      rcases List.mem_cons.mp hm with h | h
      · exact .inl h
      · exact .inr (List.mem_singleton.mp h)
    refine ⟨_, _, rfl, rfl, _, rfl, ?_⟩
    refine ite2 (fun c => ?_) (fun c => ?_)
    · have c := of_decide_eq_true c
      exact tm_raise (kk.1 (by omega))
    · have c := of_decide_eq_false (Bool.eq_false_iff.mpr c)
      exact ⟨_, rfl, kk.2 (by omega) (by omega) wt p1 p2 (hs5 _ _ upd_same) ⟨_, rfl, Same.seqT hs5 h14⟩ ⟨_, rfl, Same.seqT hs5 h24⟩⟩
end
end Fl
end

section
set_option Elab.async false
set_option linter.all false
set_option maxRecDepth 100000
set_option maxHeartbeats 4000000
/-! longest_common and shortest_over. -/
namespace Fl
open PySem PySem.Spec PyProof.Rows L2
def kp (i j : Nat) : List Key := [.inl (i : Int), .inl (j : Int)]
theorem kp_inj {i j i' j' : Nat} : kp i j = kp i' j' ↔ i = i' ∧ j = j' := by
  constructor
  · intro h
    unfold kp at h
    injection h with h1 h2
    injection h1 with h1
    injection h2 with h2 _
    injection h2 with h2
    omega
  · rintro ⟨rfl, rfl⟩
    rfl
/-- at d: a dict by pairs of places, words of f there where A -/
structure TabW (K : PySem.W.Frag) (H : Hp) (d : Addr) (kvs : List (List Key × V)) (A : Nat → Nat → Prop) (f : Nat → Nat → List Int) : Prop where
  at_ : H d = some (.dT kvs)
  get : ∀ i j, A i j → ∃ v, valV kvs (kp i j) = some v ∧ Wd K H v (f i j)
theorem TabW.same {K : PySem.W.Frag} {H H' : Hp} {d : Addr} {kvs : List (List Key × V)} {A : Nat → Nat → Prop} {f : Nat → Nat → List Int} (e : Same H H') (t : TabW K H d kvs A f) : TabW K H' d kvs A f :=
  ⟨e _ _ t.at_, fun i j a => (t.get i j a).imp fun v h => ⟨h.1, h.2.same e⟩⟩
theorem TabW.imp {K : PySem.W.Frag} {H : Hp} {d : Addr} {kvs : List (List Key × V)} {A A' : Nat → Nat → Prop} {f : Nat → Nat → List Int} (t : TabW K H d kvs A f) (h : ∀ i j, A' i j → A i j) : TabW K H d kvs A' f :=
  ⟨t.at_, fun i j a => t.get i j (h i j a)⟩
theorem dT_seq {K : PySem.W.Frag} {H : Hp} {d : Addr} {kvs : List (List Key × V)} (hd : H d = some (.dT kvs)) {H' : Hp} (e : SameB d H H') {v : V} {u : List Int} (h : Wd K H v u) : Wd K H' v u := by
  obtain ⟨a, rfl, h⟩ := h
  exact ⟨a, rfl, SameB.seqT e (fun ys z => by rw [hd] at z; cases z) (fun o ys z => by rw [hd] at z; cases z) h⟩
/-- one more is put in -/
theorem TabW.put {K : PySem.W.Frag} {H : Hp} {d : Addr} {kvs : List (List Key × V)} {A : Nat → Nat → Prop} {f : Nat → Nat → List Int} (t : TabW K H d kvs A f) {i j : Nat} {v : V} (hv : Wd K H v (f i j)) :
    TabW K (upd H d (.dT (putK kvs (kp i j) v))) d (putK kvs (kp i j) v) (fun x y => A x y ∨ (x = i ∧ y = j)) f := by
  have e : SameB d H (upd H d (.dT (putK kvs (kp i j) v))) := fun b o n q => by
    rw [upd_ne n]
    exact q
  refine ⟨upd_same, fun x y a => ?_⟩
  by_cases c : x = i ∧ y = j
  · obtain ⟨rfl, rfl⟩ := c
    exact ⟨v, by rw [valV_put, if_pos rfl], dT_seq t.at_ e hv⟩
  · obtain ⟨v', h1, h2⟩ := t.get x y (a.resolve_right c)
    exact ⟨v', by rw [valV_put, if_neg (fun z => c (kp_inj.mp z))]; exact h1, dT_seq t.at_ e h2⟩
theorem BestOf.congr2 {one two : List Int} {A B : Nat → Nat → Prop} {o : Option (List Int)} (h : BestOf one two A o) (e : ∀ i j, i < one.length → j < two.length → (A i j ↔ B i j)) : BestOf one two B o :=
  ⟨fun u q => let ⟨i, j, a, h1, h2, h3, h4⟩ := h.some_ u q; ⟨i, j, a, (e i j (List.getElem?_eq_some_iff.mp h2).1 (List.getElem?_eq_some_iff.mp h3).1).mp h1, h2, h3, h4⟩,
    fun i j a q h2 h3 => h.all i j a ((e i j (List.getElem?_eq_some_iff.mp h2).1 (List.getElem?_eq_some_iff.mp h3).1).mpr q) h2 h3⟩
def spLFrom (K : PySem.W.Frag) : Sp := fun vs H Q _ => ∃ (d : Addr) (v1 v2 : V) (one two : List Int) (i j : Nat) (a : Int) (kvs : List (List Key × V)), vs = [.ref d, v1, v2, .int i, .int j] ∧ Wd K H v1 one ∧ Wd K H v2 two ∧ one.length ≤ 60 ∧ two.length ≤ 60 ∧
  one[i]? = some a ∧ two[j]? = some a ∧ TabW K H d kvs (fun p q => i < p ∧ ∃ c, one[p]? = some c ∧ two[q]? = some c) (lf one two) ∧
  ∀ r H', Same H H' → Wd K H' r (lf one two i j) → Q r H'
def spLongest (K : PySem.W.Frag) (cR cT : Addr) : Sp := fun vs H Q E => ∃ (v u : V) (b c : Bool), vs = [v, u] ∧ RowB K H v b ∧ RowB K H u c ∧ (∀ H', Same H H' → (b && c) = false → E (.ref cR) none H') ∧
  ((b && c) = true → ∃ (xs ys : List Int), Wd K H v xs ∧ Wd K H u ys ∧ IsRow xs ∧ IsRow ys ∧ ∀ H', Same H H' →
    ((60 < (wd xs).length ∨ 60 < (wd ys).length) → ∀ d H2, Same H' H2 → H2 d = some (.xd [("most", .int 60)]) → E (.ref cT) (some d) H2) ∧
    ((wd xs).length ≤ 60 → (wd ys).length ≤ 60 → ∀ r o, Longest (wd xs) (wd ys) o → OW K H' r o → Q r H'))
def spSFrom (K : PySem.W.Frag) : Sp := fun vs H Q _ => ∃ (d : Addr) (v1 v2 : V) (one two : List Int) (i j : Nat) (kvs : List (List Key × V)), vs = [.ref d, v1, v2, .int i, .int j] ∧ Wd K H v1 one ∧ Wd K H v2 two ∧ one.length ≤ 60 ∧ two.length ≤ 60 ∧
  i ≤ one.length ∧ j ≤ two.length ∧ TabW K H d kvs (fun p q => i ≤ p ∧ p ≤ one.length ∧ q ≤ two.length ∧ (i < p ∨ j < q)) (fun p q => sb (one.drop p) (two.drop q)) ∧
  ∀ r H', Same H H' → Wd K H' r (sb (one.drop i) (two.drop j)) → Q r H'
def spShortest (K : PySem.W.Frag) (cR cT : Addr) : Sp := fun vs H Q E => ∃ (v u : V) (b c : Bool), vs = [v, u] ∧ RowB K H v b ∧ RowB K H u c ∧ (∀ H', Same H H' → (b && c) = false → E (.ref cR) none H') ∧
  ((b && c) = true → ∃ (xs ys : List Int), Wd K H v xs ∧ Wd K H u ys ∧ IsRow xs ∧ IsRow ys ∧ ∀ H', Same H H' →
    ((60 < (wd xs).length ∨ 60 < (wd ys).length) → ∀ d H2, Same H' H2 → H2 d = some (.xd [("most", .int 60)]) → E (.ref cT) (some d) H2) ∧
    ((wd xs).length ≤ 60 → (wd ys).length ≤ 60 → ∀ r, Wd K H' r (sb (wd xs) (wd ys)) → Q r H'))
section
variable {P : Program} {w : World} {K : PySem.W.Frag} {mg : Str → Option Value} {base : Heap} {f : Addr} {fd : FuncData} {Cp cR cN cT : Addr}
theorem catW {H : Hp} {x y : V} {u v : List Int} {Q : VK} (hx : Wd K H x u) (hy : Wd K H y v) (hl : u.length + v.length ≤ 100000) (k : ∀ r H', Same H H' → Wd K H' r (u ++ v) → Q r H') : rCatA K x y H Q := by
  obtain ⟨a, rfl, ha⟩ := id hx
  obtain ⟨b, rfl, hb⟩ := id hy
  refine ⟨a, b, _, _, rfl, rfl, ha, hb, ?_, fun e => ?_, fun _ e => ?_, fun _ _ p hp => ?_⟩
  · rw [List.length_map, List.length_map]
    show _ ≤ 2 ^ 24
    omega
  · have e : u = [] := List.map_eq_nil_iff.mp e
    subst e
    exact k _ H (fun _ _ z => z) hy
  · have e : v = [] := List.map_eq_nil_iff.mp e
    subst e
    refine k _ H (fun _ _ z => z) ?_
    rw [List.append_nil]
    exact hx
  · refine k _ _ (same_new hp _) (Wd.new ?_)
    rw [upd_same, List.map_append]
theorem letters_at : ∀ {i : Nat}, i < 4 → letters[i]? = some (i : Int) := by decide
abbrev s_longest_from : Stmt := top 30
theorem sc_longest_from : FnScope ["found", "one", "two", "at", "there", "best", "letter", "here", "later"] ["found", "one", "two", "at", "there"] (defScope s_longest_from) := ⟨rfl, rfl, rfl, by decide +kernel, rfl, by decide +kernel, by decide +kernel⟩
theorem ok_longest_from (F : Fun K "longest_from" "longest_from" s_longest_from f fd) (B : Bn mg) (G : Gn mg) {f1 f2 : Addr} {fd1 fd2 : FuncData}
    (knext_place : Kn P w K mg base CX0 1 "next_place" ["row", "first", "letter"] (spNext K) f1 fd1) (kbetter : Kn P w K mg base CX0 2 "better" ["one", "other"] (spBetter K) f2 fd2) :
    FnOk P w K mg base CX0 3 f fd ["found", "one", "two", "at", "there"] (spLFrom K) := by
  refine F.ok sc_longest_from (fun vs H Q E h => ?_) (fun cdv A outer s H vs Q E hr h => ?_)
  · obtain ⟨d, v1, v2, one, two, i, j, a, kvs, rfl, _⟩ := h
    rfl
  obtain ⟨d, v1, v2, one, two, i, j, a, kvs, rfl, h1, h2, l1, l2, hi, hj, ht, k⟩ := h
  have hu := hu_of hr
  refine ⟨_, (pss_cons (ps_set (i := 5) sc_longest_from.nd rfl (Or.inl rfl) (pe_tup (pa_cons (pe_ix ix_tup (pv 1) (pv 3) (fun _ _ => rfl)) pa_nil)))
      (pss_cons (ps_for PassesOwn.never rfl (pi_range1 (by rfl) B.range_ (pa_cons (pgi G.MOST_LETTERS) pa_nil)) (pg_name (i := 6) sc_longest_from.nd rfl (Or.inl rfl))
      (pss_one (ps_if (pt_cmpR op_ne (pv 6) (pe_ix ix_tup (pv 1) (pv 3) (fun _ _ => rfl)) (nomark _)) (pss_cons (ps_set (i := 7) sc_longest_from.nd rfl (Or.inl rfl) (pk knext_place hr (by omega) pass0 (pa_cons (pv 1) (pa_cons (pe_op op_add (pv 3) pe_int) (pa_cons (pv 6) pa_nil)))))
      (pss_cons (ps_set (i := 8) sc_longest_from.nd rfl (Or.inl rfl) (pk knext_place hr (by omega) pass0 (pa_cons (pv 2) (pa_cons (pe_op op_add (pv 4) pe_int) (pa_cons (pv 6) pa_nil)))))
      (pss_one (ps_if (PW.pt (pw_and (pt_cmpR op_notN (pv 7) pe_non (nomark _)) (pw_and1 (pt_cmpR op_notN (pv 8) pe_non (nomark _))))) (pss_one (ps_set (i := 5) sc_longest_from.nd rfl (Or.inl rfl) (pk kbetter hr (by omega) pass0 (pa_cons (pv 5) (pa_cons (pe_op op_catA (pe_tup (pa_cons (pe_ix ix_tup (pv 1) (pv 3) (fun _ _ => rfl)) pa_nil)) (pe_dget hu (pv 0) (pe_tup (pa_cons (pv 7) (pa_cons (pv 8) pa_nil))) (fun _ _ => rfl))) pa_nil))))) pss_nil)))) pss_nil)))
      (pss_one (ps_ret (pv 5))))), ?_⟩
  obtain ⟨a1, rfl, t1⟩ := id h1
  obtain ⟨a2, rfl, t2⟩ := id h2
  have hi' := (List.getElem?_eq_some_iff.mp hi).1
  have hj' := (List.getElem?_eq_some_iff.mp hj).1
  rw [lf_eq hi] at k
  refine ⟨_, rfl, _, rfl, a1, _, _, _, rfl, rfl, t1, at_of (j := i) rfl (int_at hi), ?_⟩
  refine ⟨(by show 1 ≤ sizeLine; decide), fun b0 hb0 => ?_⟩
  refine ⟨_, rfl, by decide, by decide, for_range (lo := 0) (n := (4 : Int).toNat) (fun m σ H' => Same H H' ∧ ∃ (r : V) (u1 u2 u3 : Option V), σ = [some (.ref d), some (.ref a1), some (.ref a2), some (.int i), some (.int j), some r, u1, u2, u3] ∧ Wd K H' r ((letters.take m).foldl (lfStep one two i j a (lf one two)) [a]))
    ⟨same_new hb0 _, .ref b0, none, none, none, rfl, Wd.new (u := [a]) upd_same⟩ ?_ ?_⟩
  · rintro m σ H1 hm ⟨s1, r, u1, u2, u3, rfl, hr1⟩
    have hm : m < 4 := hm
    have hc : letters[m]? = some (m : Int) := letters_at hm
    have e0 : (0 : Int) + m = m := by omega
    rw [e0]
    have fin : ∀ (σ' : L2.St) (r' : V) (H' : Hp) (v1 v2 v3 : Option V), Same H1 H' → σ' = [some (.ref d), some (.ref a1), some (.ref a2), some (.int i), some (.int j), some r', v1, v2, v3] → Wd K H' r' (lfStep one two i j a (lf one two) ((letters.take m).foldl (lfStep one two i j a (lf one two)) [a]) m) →
      Same H H' ∧ ∃ (r : V) (u1 u2 u3 : Option V), σ' = [some (.ref d), some (.ref a1), some (.ref a2), some (.int i), some (.int j), some r, u1, u2, u3] ∧ Wd K H' r ((letters.take (m + 1)).foldl (lfStep one two i j a (lf one two)) [a]) := fun σ' r' H' v1 v2 v3 s2 eσ hw => by
      refine ⟨s1.trans s2, r', v1, v2, v3, eσ, ?_⟩
      rw [take_at hc, List.foldl_append]
      exact hw
    refine ⟨_, rfl, _, rfl, _, rfl, a1, _, _, _, rfl, rfl, Same.seqT s1 t1, at_of (j := i) rfl (int_at hi), rfl, _, rfl, ?_⟩
    refine ite2 (fun c => ?_) (fun c => ?_)
    · have hne : (m : Int) ≠ a := fun z => by
        rw [z] at c
        simp at c
      refine ⟨_, rfl, _, rfl, _, _, rfl, rfl, _, rfl, a1, one, i + 1, (m : Int), rfl, Same.seqT s1 t1, by omega, by omega, ?_⟩
      refine ⟨_, rfl, _, rfl, _, _, rfl, rfl, _, rfl, a2, two, j + 1, (m : Int), rfl, Same.seqT s1 t2, by omega, by omega, ?_⟩
      cases e1 : nxt one (i + 1) m with
      | none =>
        refine ⟨_, rfl, rfl, _, rfl, iteF ?_⟩
        refine fin _ _ _ _ _ _ (fun _ _ z => z) rfl ?_
        unfold lfStep
        rw [if_pos hne, e1]
        exact hr1
      | some p =>
        refine ⟨_, rfl, rfl, _, rfl, iteT ?_⟩
        cases e2 : nxt two (j + 1) m with
        | none =>
          refine ⟨_, rfl, rfl, _, rfl, iteF ?_⟩
          refine fin _ _ _ _ _ _ (fun _ _ z => z) rfl ?_
          unfold lfStep
          rw [if_pos hne, e1, e2]
          exact hr1
        | some q =>
          refine ⟨_, rfl, rfl, _, rfl, iteT ?_⟩
          obtain ⟨p1, p2, p3, p4⟩ := nxt_some e1
          obtain ⟨q1, q2, q3, q4⟩ := nxt_some e2
          obtain ⟨v, hv1, hv2⟩ := ht.get p q ⟨by omega, (m : Int), p3, q3⟩
          obtain ⟨wr, ew, _, hsub, _⟩ := lf_sound one two _ p q (m : Int) (Nat.le_refl _) p3 q3
          have hlen : (lf one two p q).length ≤ 60 := by
            rw [ew]
            have := hsub.length_le
            rw [List.length_drop] at this
            omega
          refine ⟨_, rfl, _, rfl, _, rfl, a1, _, _, _, rfl, rfl, Same.seqT s1 t1, at_of (j := i) rfl (int_at hi), ?_⟩
          refine ⟨(by show 1 ≤ sizeLine; decide), fun b1 hb1 => ?_⟩
          have sb1 := same_new hb1 (.tup [.int a])
          refine ⟨_, rfl, _, rfl, _, rfl, (by show 2 ≤ sizeLine; decide), fun b2 hb2 => ?_⟩
          have sb2 := same_new hb2 (.tup [.int (p : Int), .int (q : Int)])
          have sb12 := sb1.trans sb2
          refine ⟨d, v, rfl, ?_, ?_⟩
          · rw [← hv1]
            exact DGet.t (sb12 _ _ (s1 _ _ ht.at_)) upd_same
          refine catW (u := [a]) (v := lf one two p q) (Wd.new (sb2 _ _ upd_same)) ((hv2.same s1).same sb12) (by show 1 + _ ≤ _; omega) fun r' H3 s3 hr3 => ?_
          have s13 := sb12.trans s3
          refine ⟨r, r', some ((letters.take m).foldl (lfStep one two i j a (lf one two)) [a]), some (a :: lf one two p q), rfl, (show Wd K H3 r _ from hr1.same s13), hr3, fun r4 hr4 => ?_⟩
          refine fin _ _ _ _ _ _ s13 rfl ?_
          unfold lfStep
          rw [if_pos hne, e1, e2]
          exact hr4
    · have hne : ¬ (m : Int) ≠ a := fun z => c (by
        rw [Bool.not_eq_true', decide_eq_false_iff_not]
        intro z2
        injection z2 with z2
        exact z z2)
      refine fin _ _ _ _ _ _ (fun _ _ z => z) rfl ?_
      unfold lfStep
      rw [if_neg hne]
      exact hr1
  · rintro σ H1 ⟨s1, r, u1, u2, u3, rfl, hr1⟩
    exact ⟨_, rfl, k r H1 s1 hr1⟩
theorem OW.d {H : Hp} {d : Addr} {kvs : List (List Key × V)} (hd : H d = some (.dT kvs)) {H' : Hp} (e : SameB d H H') {v : V} {o : Option (List Int)} (h : OW K H v o) : OW K H' v o := by
  cases o with
  | none => exact h
  | some u => exact dT_seq hd e h
theorem rg_neg {L : Nat} (h : L ≤ 1000) (k : Nat) (hk : k ≤ 1) : RgC ((L : Int) - (k : Int)) (-1) (-1) (L + 1 - k) := by
  have := RgC.neg (i := (L : Int) - (k : Int)) (j := -1) (by omega) (by omega) (by omega) (by omega)
  rwa [show ((L : Int) - (k : Int) - -1).toNat = L + 1 - k by omega] at this
theorem row_letters {xs : List Int} (r : IsRow xs) : ∀ c ∈ wd xs, c ∈ letters := fun c hc => by
  have := r.lets c (wd_mem.mp hc)
  have e : c = 0 ∨ c = 1 ∨ c = 2 ∨ c = 3 := by omega
  rcases e with rfl | rfl | rfl | rfl <;> decide
abbrev s_longest_common : Stmt := top 31
theorem sc_longest_common : FnScope ["row", "other", "one", "two", "found", "best", "at", "there"] ["row", "other"] (defScope s_longest_common) := ⟨rfl, rfl, rfl, by decide +kernel, rfl, by decide +kernel, by decide +kernel⟩
theorem ok_longest_common (F : Fun K "longest_common" "longest_common" s_longest_common f fd) (B : Bn mg) (G : Gn mg) {f1 f2 f3 : Addr} {fd1 fd2 fd3 : FuncData}
    (kcheck_words : Kn P w K mg base (L2.CX P w) 7 "check_words" ["row", "other"] (spCWords K cR cT) f1 fd1) (kbetter : Kn P w K mg base CX0 2 "better" ["one", "other"] (spBetter K) f2 fd2)
    (klongest_from : Kn P w K mg base CX0 3 "longest_from" ["found", "one", "two", "at", "there"] (spLFrom K) f3 fd3) :
    FnOk P w K mg base (L2.CX P w) 16 f fd ["row", "other"] (spLongest K cR cT) := by
  refine F.okX sc_longest_common (fun vs H Q E h => ?_) (fun cdv A outer s H vs Q E hr h => ?_)
  · obtain ⟨v, u, b, c, rfl, _⟩ := h
    rfl
  obtain ⟨v, u, b, c, rfl, rv, ru, k, kw⟩ := h
  have tk0 := takes_of (X := cxOf (L2.CX P w) P w K mg base ["row", "other", "one", "two", "found", "best", "at", "there"] "longest_common" (defScope s_longest_common) f cdv A outer s H E) rfl rfl rfl rfl
  have hu := hu_of hr
  refine ⟨_, (pss_cons (ps_asg (pk kcheck_words hr (by omega) (passes_call tk0 (fun _ _ _ _ h => h)) (pa_cons (pv 0) (pa_cons (pv 1) pa_nil))) (pg_tup (by rfl) (pgs_cons (pg_name (i := 2) sc_longest_common.nd rfl (Or.inl rfl)) (pgs_cons (pg_name (i := 3) sc_longest_common.nd rfl (Or.inl rfl)) pgs_nil))))
      (pss_cons (ps_set (i := 4) sc_longest_common.nd rfl (Or.inl rfl) pe_dnewT)
      (pss_cons (ps_set (i := 5) sc_longest_common.nd rfl (Or.inl rfl) pe_non)
      (pss_cons (ps_for (passes_of rfl) rfl (pi_range3 (by rfl) B.range_ (pa_cons (pe_op op_sub (pe_callB call_len_seq (by rfl) B.len_ PySem.boot_len (pa_cons (pv 2) pa_nil)) pe_int) (pa_cons (pe_un un_neg pe_int) (pa_cons (pe_un un_neg pe_int) pa_nil)))) (pg_name (i := 6) sc_longest_common.nd rfl (Or.inl rfl))
      (pss_one (ps_for (passes_of rfl) rfl (pi_range3 (by rfl) B.range_ (pa_cons (pe_op op_sub (pe_callB call_len_seq (by rfl) B.len_ PySem.boot_len (pa_cons (pv 3) pa_nil)) pe_int) (pa_cons (pe_un un_neg pe_int) (pa_cons (pe_un un_neg pe_int) pa_nil)))) (pg_name (i := 7) sc_longest_common.nd rfl (Or.inl rfl))
      (pss_one (ps_if (pt_cmpR op_eq (pe_ix ix_tup (pv 2) (pv 6) (fun _ _ => rfl)) (pe_ix ix_tup (pv 3) (pv 7) (fun _ _ => rfl)) (nomark _)) (pss_cons (ps_dput hu (pv 4) (pe_tup (pa_cons (pv 6) (pa_cons (pv 7) pa_nil))) (pk klongest_from hr (by omega) pass0 (pa_cons (pv 4) (pa_cons (pv 2) (pa_cons (pv 3) (pa_cons (pv 6) (pa_cons (pv 7) pa_nil)))))) rfl)
      (pss_one (ps_set (i := 5) sc_longest_common.nd rfl (Or.inl rfl) (pk kbetter hr (by omega) pass0 (pa_cons (pv 5) (pa_cons (pe_dget hu (pv 4) (pe_tup (pa_cons (pv 6) (pa_cons (pv 7) pa_nil))) (fun _ _ => rfl)) pa_nil)))))) pss_nil)))))
      (pss_one (ps_ret (pv 5))))))), ?_⟩
  refine ⟨_, rfl, _, rfl, v, u, b, c, rfl, rv, ru, k, fun hbc => ?_⟩
  obtain ⟨xs, ys, hv, hu', rx, ry, kk⟩ := kw hbc
  refine ⟨xs, ys, hv, hu', rx, ry, fun H1 s1 => ⟨(kk H1 s1).1, fun l1 l2 p p1 p2 hp w1 w2 => ?_⟩⟩
  obtain ⟨A1, e1, t1⟩ := id w1
  cases e1
  obtain ⟨A2, e2, t2⟩ := id w2
  cases e2
  have hlet := row_letters rx
  generalize ho : wd xs = one at *
  generalize hw : wd ys = two at *
  have el1 : (one.map V.int).length = one.length := List.length_map ..
  have el2 : (two.map V.int).length = two.length := List.length_map ..
  refine ⟨p, _, rfl, SqT.of hp, rfl, _, _, rfl, _, _, rfl, rfl, ?_⟩
  refine fun d hd => ?_
  have sd := same_new hd (.dT [])
  refine ⟨_, rfl, p1, _, rfl, .inr (Same.seqT sd t1), _, _, rfl, rfl, _, rfl, _, rfl, _, _, _, one.length, rfl, ?_, for_rangeC (lo := ((one.map V.int).length : Int) - 1) (c := -1) (n := one.length) (fun m σ H' => Same H1 H' ∧ ∃ (kvs : List (List Key × V)) (bv : V) (o : Option (List Int)) (u1 u2 : Option V),
    σ = [some v, some u, some (.ref p1), some (.ref p2), some (.ref d), some bv, u1, u2] ∧ TabW K H' d kvs (fun x y => one.length - m ≤ x ∧ ∃ c, one[x]? = some c ∧ two[y]? = some c) (lf one two) ∧ kvs.length ≤ m * 60 ∧ BestOf one two (fun x _ => one.length - m ≤ x ∧ x < one.length) o ∧ OW K H' bv o)
    ⟨sd, [], .non, none, none, none, rfl, ⟨upd_same, fun x y q => ?_⟩, Nat.zero_le _, BestOf.congr (BestOf.nil one two) (fun x y => ⟨fun z => z.elim, fun z => by omega⟩), rfl⟩ ?_ ?_⟩
  · rw [el1]
    exact rg_neg (by omega) 1 (Nat.le_refl _)
  · obtain ⟨q1, c, q2, _⟩ := q
    have := (List.getElem?_eq_some_iff.mp q2).1
    omega
  · rintro m σ H2 hm ⟨s2, kvs, bv, o, u1, u2, rfl, ht, hkl, hb, how⟩
    rw [el1, show ((one.length : Int) - 1 + (m : Nat) * (-1)) = ((one.length - 1 - m : Nat) : Int) by omega]
    generalize hat : one.length - 1 - m = at_
    have hlt : at_ < one.length := by omega
    have hoa := List.getElem?_eq_getElem hlt
    generalize one[at_] = a at hoa
    refine ⟨_, rfl, p2, _, rfl, .inr (Same.seqT s2 t2), _, _, rfl, rfl, _, rfl, _, rfl, _, _, _, two.length, rfl, ?_, for_rangeC (lo := ((two.map V.int).length : Int) - 1) (c := -1) (n := two.length) (fun n σ H' => Same H1 H' ∧ ∃ (kvs : List (List Key × V)) (bv : V) (o : Option (List Int)) (u2 : Option V),
      σ = [some v, some u, some (.ref p1), some (.ref p2), some (.ref d), some bv, some (.int at_), u2] ∧ TabW K H' d kvs (fun x y => (one.length - m ≤ x ∨ (x = at_ ∧ two.length - n ≤ y)) ∧ ∃ c, one[x]? = some c ∧ two[y]? = some c) (lf one two) ∧ kvs.length ≤ m * 60 + n ∧
        BestOf one two (fun x y => (one.length - m ≤ x ∧ x < one.length) ∨ (x = at_ ∧ two.length - n ≤ y ∧ y < two.length)) o ∧ OW K H' bv o)
      ⟨s2, kvs, bv, o, u2, rfl, ht.imp (fun x y q => ?_), hkl, BestOf.congr hb (fun x y => ⟨.inl, fun z => by omega⟩), how⟩ ?_ ?_⟩
    · rw [el2]
      exact rg_neg (by omega) 1 (Nat.le_refl _)
    · obtain ⟨q1, c, q2, q3⟩ := q
      have := (List.getElem?_eq_some_iff.mp q3).1
      exact ⟨by omega, c, q2, q3⟩
    · rintro n σ H3 hn ⟨s3, kvs, bv, o, u2, rfl, ht, hkl, hb, how⟩
      rw [el2, show ((two.length : Int) - 1 + (n : Nat) * (-1)) = ((two.length - 1 - n : Nat) : Int) by omega]
      generalize hth : two.length - 1 - n = th
      have hlt2 : th < two.length := by omega
      have hob := List.getElem?_eq_getElem hlt2
      generalize two[th] = b at hob
      refine ⟨_, rfl, _, rfl, p1, _, _, _, rfl, rfl, Same.seqT s3 t1, at_of (j := at_) rfl (int_at hoa), _, rfl, _, rfl, p2, _, _, _, rfl, rfl, Same.seqT s3 t2, at_of (j := th) rfl (int_at hob), rfl, _, rfl, ?_⟩
      refine ite2 (fun c => ?_) (fun c => ?_)
      · have hab : a = b := by
          have := of_decide_eq_true c
          injection this
        subst hab
        refine ⟨_, rfl, _, rfl, _, rfl, _, rfl, _, rfl, d, .ref p1, .ref p2, one, two, at_, th, a, kvs, rfl, ⟨p1, rfl, Same.seqT s3 t1⟩, ⟨p2, rfl, Same.seqT s3 t2⟩, l1, l2, hoa, hob, ht.imp (fun x y q => ⟨.inl (by omega), q.2⟩), fun r H4 s4 hr4 => ?_⟩
        refine ⟨_, rfl, _, rfl, _, rfl, (by show 2 ≤ sizeLine; decide), fun b0 hb0 => ?_⟩
        have s5 := same_new hb0 (.tup [.int (at_ : Int), .int (th : Int)])
        have s45 := s4.trans s5
        have ht5 := ht.same s45
        have ht6 := ht5.put (i := at_) (j := th) (hr4.same s5)
        have e6 : SameB d (upd H4 b0 (.tup [.int (at_ : Int), .int (th : Int)])) (upd (upd H4 b0 (.tup [.int (at_ : Int), .int (th : Int)])) d (.dT (putK kvs (kp at_ th) r))) := fun b o n q => by
          rw [upd_ne n]
          exact q
        refine ⟨d, _, rfl, DPut.t (k := kp at_ th) ht5.at_ upd_same ?_, ?_⟩
        · show _ < 2 ^ 24
          omega
        refine ⟨_, rfl, _, rfl, _, rfl, _, rfl, (by show 2 ≤ sizeLine; decide), fun b1 hb1 => ?_⟩
        have s7 := same_new hb1 (.tup [.int (at_ : Int), .int (th : Int)])
        refine ⟨d, r, rfl, ?_, ?_⟩
        · have := DGet.t (k := kp at_ th) (s7 _ _ ht6.at_) (b := b1) upd_same
          rw [valV_put, if_pos rfl] at this
          exact this
        refine ⟨bv, r, o, some (lf one two at_ th), rfl, ?_, ?_, fun r2 hr2 => ?_⟩
        · exact ((how.same s45).d ht5.at_ e6).same s7
        · exact Wd.same s7 (dT_seq ht5.at_ e6 (hr4.same s5))
        refine ⟨(Same.upd (s3.trans s45) hd _).trans s7, _, r2, _, _, rfl, (ht6.same s7).imp (fun x y q => ?_), ?_, BestOf.congr (hb.more hoa hob) (fun x y => ?_), hr2⟩
        · obtain ⟨q1, c, q2, q3⟩ := q
          by_cases e : x = at_ ∧ y = th
          · exact .inr e
          · refine .inl ⟨?_, c, q2, q3⟩
            rcases q1 with q1 | ⟨q1, q4⟩
            · exact .inl q1
            · exact .inr ⟨q1, by omega⟩
        · have := length_putK kvs (kp at_ th) r
          omega
        · omega
      · have hab : a ≠ b := fun z => c (by
          rw [z]
          exact decide_eq_true rfl)
        have hno : ∀ x, one[at_]? = some x → two[th]? ≠ some x := fun x q1 q2 => by
          rw [hoa] at q1
          rw [hob] at q2
          exact hab ((Option.some.inj q1).trans (Option.some.inj q2).symm)
        refine ⟨s3, kvs, bv, o, _, rfl, ht.imp (fun x y q => ?_), by omega, BestOf.congr (hb.skip hno) (fun x y => ?_), how⟩
        · obtain ⟨q1, c, q2, q3⟩ := q
          refine ⟨?_, c, q2, q3⟩
          rcases q1 with q1 | ⟨q1, q4⟩
          · exact .inl q1
          · refine .inr ⟨q1, ?_⟩
            by_cases e : y = th
            · rw [q1] at q2
              rw [e] at q3
              exact absurd q3 (hno c q2)
            · omega
        · omega
    · rintro σ H3 ⟨s3, kvs, bv, o, u2, rfl, ht, hkl, hb, how⟩
      refine ⟨s3, kvs, bv, o, _, _, rfl, ht.imp (fun x y q => ?_), by omega, BestOf.congr2 hb (fun x y z1 z2 => ?_), how⟩
      · refine ⟨?_, q.2⟩
        by_cases e : x = at_
        · exact .inr ⟨e, by omega⟩
        · have := q.1
          exact .inl (by omega)
      · omega
  · rintro σ H2 ⟨s2, kvs, bv, o, u1, u2, rfl, ht, hkl, hb, how⟩
    subst ho
    subst hw
    have hL := longest_of hlet (BestOf.congr2 hb (B := fun _ _ => True) (fun x y z1 z2 => ⟨fun _ => True.intro, fun _ => ⟨by omega, z1⟩⟩))
    exact ⟨_, rfl, (kk H2 (s1.trans s2)).2 l1 l2 bv o hL how⟩
end
end Fl
end

section
set_option Elab.async false
set_option linter.all false
set_option maxRecDepth 100000
set_option maxHeartbeats 4000000
/-! shortest_over. -/
namespace Fl
open PySem PySem.Spec PyProof.Rows L2
section
variable {P : Program} {w : World} {K : PySem.W.Frag} {mg : Str → Option Value} {base : Heap} {f : Addr} {fd : FuncData} {Cp cR cN cT : Addr}
def cutW (u : List Int) (lo hi : Option Int) : List Int := (u.drop (HT.sIx u.length 0 lo)).take (HT.sIx u.length u.length hi - HT.sIx u.length 0 lo)
theorem cutW_from (u : List Int) {i : Nat} (h : i ≤ u.length) : cutW u (some (i : Int)) none = u.drop i := by
  unfold cutW
  rw [HT.sIx_nat, HT.sIx_none, Nat.min_eq_left h, List.take_of_length_le]
  rw [List.length_drop]
  exact Nat.le_refl _
theorem cutW_to (u : List Int) (i : Nat) : cutW u none (some (i : Int)) = u.take i := by
  unfold cutW
  rw [HT.sIx_nat, HT.sIx_none, List.drop_zero, Nat.sub_zero]
  by_cases h : i ≤ u.length
  · rw [Nat.min_eq_left h]
  · rw [Nat.min_eq_right (by omega), List.take_length, List.take_of_length_le (by omega)]
theorem sliceW {H : Hp} {x : V} {u : List Int} {lo hi : Option Int} {Q : VK} (hx : Wd K H x u) (k : ∀ r H', Same H H' → Wd K H' r (cutW u lo hi) → Q r H') : rSlA K x lo hi H Q := by
  obtain ⟨a, rfl, ha⟩ := id hx
  have el : (u.map V.int).length = u.length := List.length_map ..
  refine ⟨a, _, rfl, ha, fun e => ?_, fun _ p hp => ?_⟩
  · rw [el] at e
    refine k _ H (fun _ _ z => z) ?_
    unfold cutW
    rw [e.1, e.2, List.drop_zero, Nat.sub_zero, List.take_length]
    exact hx
  · refine k _ _ (same_new hp _) (Wd.new ?_)
    rw [upd_same]
    unfold cutV cutW
    rw [el, List.map_take, List.map_drop]
theorem slFrom {H : Hp} {x : V} {u : List Int} {i : Nat} {Q : VK} {σ : L2.St} (hx : Wd K H x u) (hi : i ≤ u.length) (k : ∀ r H', Same H H' → Wd K H' r (u.drop i) → Q r H') : tNoPart σ H fun z H3 => rSlA K x (some (i : Int)) z H3 Q :=
  sliceW (hi := none) hx fun r H' s w => k r H' s (by rw [cutW_from _ hi] at w; exact w)
abbrev s_shortest_from : Stmt := top 34
theorem sc_shortest_from : FnScope ["found", "one", "two", "at", "there"] ["found", "one", "two", "at", "there"] (defScope s_shortest_from) := ⟨rfl, rfl, rfl, by decide +kernel, rfl, by decide +kernel, by decide +kernel⟩
theorem ok_shortest_from (F : Fun K "shortest_from" "shortest_from" s_shortest_from f fd) (B : Bn mg) {f1 : Addr} {fd1 : FuncData}
    (kshorter : Kn P w K mg base CX0 2 "shorter" ["one", "other"] (spShorter K) f1 fd1) :
    FnOk P w K mg base CX0 3 f fd ["found", "one", "two", "at", "there"] (spSFrom K) := by
  refine F.ok sc_shortest_from (fun vs H Q E h => ?_) (fun cdv A outer s H vs Q E hr h => ?_)
  · obtain ⟨d, v1, v2, one, two, i, j, kvs, rfl, _⟩ := h
    rfl
  obtain ⟨d, v1, v2, one, two, i, j, kvs, rfl, h1, h2, l1, l2, hi, hj, ht, k⟩ := h
  have hu := hu_of hr
  refine ⟨_, (pss_cons (ps_if (PW.pt (pw_or (pt_cmpR op_eq (pv 3) (pe_callB call_len_seq (by rfl) B.len_ PySem.boot_len (pa_cons (pv 1) pa_nil)) (nomark _)) (pw_or1 (pt_cmpR op_eq (pv 4) (pe_callB call_len_seq (by rfl) B.len_ PySem.boot_len (pa_cons (pv 2) pa_nil)) (nomark _))))) (pss_one (ps_ret (pe_op op_catA (pe_slice sl_tupA (pv 1) (po_some (pv 3)) po_none) (pe_slice sl_tupA (pv 2) (po_some (pv 4)) po_none)))) pss_nil)
      (pss_cons (ps_if (pt_cmpR op_eq (pe_ix ix_tup (pv 1) (pv 3) (fun _ _ => rfl)) (pe_ix ix_tup (pv 2) (pv 4) (fun _ _ => rfl)) (nomark _)) (pss_one (ps_ret (pe_op op_catA (pe_tup (pa_cons (pe_ix ix_tup (pv 1) (pv 3) (fun _ _ => rfl)) pa_nil)) (pe_dget hu (pv 0) (pe_tup (pa_cons (pe_op op_add (pv 3) pe_int) (pa_cons (pe_op op_add (pv 4) pe_int) pa_nil))) (fun _ _ => rfl))))) pss_nil)
      (pss_one (ps_ret (pk kshorter hr (by omega) pass0 (pa_cons (pe_op op_catA (pe_tup (pa_cons (pe_ix ix_tup (pv 1) (pv 3) (fun _ _ => rfl)) pa_nil)) (pe_dget hu (pv 0) (pe_tup (pa_cons (pe_op op_add (pv 3) pe_int) (pa_cons (pv 4) pa_nil))) (fun _ _ => rfl))) (pa_cons (pe_op op_catA (pe_tup (pa_cons (pe_ix ix_tup (pv 2) (pv 4) (fun _ _ => rfl)) pa_nil)) (pe_dget hu (pv 0) (pe_tup (pa_cons (pv 3) (pa_cons (pe_op op_add (pv 4) pe_int) pa_nil))) (fun _ _ => rfl))) pa_nil))))))), ?_⟩
  obtain ⟨a1, rfl, t1⟩ := id h1
  obtain ⟨a2, rfl, t2⟩ := id h2
  have el1 : (one.map V.int).length = one.length := List.length_map ..
  have el2 : (two.map V.int).length = two.length := List.length_map ..
  refine ⟨_, rfl, _, rfl, a1, _, rfl, .inr t1, rfl, _, rfl, ?_⟩
  rw [el1]
  refine ite2 (fun c => ?_) (fun c => ?_)
  · have e : i = one.length := by
      have := of_decide_eq_true c
      injection this with this
      omega
    refine ⟨_, rfl, _, rfl, _, rfl, slFrom h1 hi fun r1 H1 s1 w1 => ⟨_, rfl, _, rfl, _, rfl, slFrom (h2.same s1) hj fun r2 H2 s2 w2 => ?_⟩⟩
    refine catW (w1.same s2) w2 (by rw [List.length_drop, List.length_drop]; omega) fun r H3 s3 w3 => k r H3 (s1.trans (s2.trans s3)) ?_
    rw [e, List.drop_length, sb_nil]
    rw [e, List.drop_length] at w3
    exact w3
  have ni : i < one.length := by
    have : ¬ i = one.length := fun z => c (by rw [z]; exact decide_eq_true rfl)
    omega
  refine ⟨_, rfl, _, rfl, a2, _, rfl, .inr t2, rfl, _, rfl, ?_⟩
  rw [el2]
  refine ite2 (fun c => ?_) (fun c => ?_)
  · have e : j = two.length := by
      have := of_decide_eq_true c
      injection this with this
      omega
    refine ⟨_, rfl, _, rfl, _, rfl, slFrom h1 hi fun r1 H1 s1 w1 => ⟨_, rfl, _, rfl, _, rfl, slFrom (h2.same s1) hj fun r2 H2 s2 w2 => ?_⟩⟩
    refine catW (w1.same s2) w2 (by rw [List.length_drop, List.length_drop]; omega) fun r H3 s3 w3 => k r H3 (s1.trans (s2.trans s3)) ?_
    rw [e, List.drop_length, sb_nil2]
    rw [e, List.drop_length, List.append_nil] at w3
    exact w3
  have nj : j < two.length := by
    have : ¬ j = two.length := fun z => c (by rw [z]; exact decide_eq_true rfl)
    omega
  have hoa := List.getElem?_eq_getElem ni
  generalize one[i] = a at hoa
  have hob := List.getElem?_eq_getElem nj
  generalize two[j] = b at hob
  have dl : ∀ p q, (sb (one.drop p) (two.drop q)).length ≤ 120 := fun p q => by
    have := sb_len_le (one.drop p) (two.drop q)
    rw [List.length_drop, List.length_drop] at this
    omega
  refine ⟨_, rfl, _, rfl, a1, _, _, _, rfl, rfl, t1, at_of (j := i) rfl (int_at hoa), _, rfl, _, rfl, a2, _, _, _, rfl, rfl, t2, at_of (j := j) rfl (int_at hob), rfl, _, rfl, ?_⟩
  refine ite2 (fun c => ?_) (fun c => ?_)
  · have hab : a = b := by
      have := of_decide_eq_true c
      injection this
    subst hab
    refine ⟨_, rfl, _, rfl, a1, _, _, _, rfl, rfl, t1, at_of (j := i) rfl (int_at hoa), ?_⟩
    refine ⟨(by show 1 ≤ sizeLine; decide), fun b1 hb1 => ?_⟩
    have sb1 := same_new hb1 (.tup [.int a])
    refine ⟨_, rfl, _, rfl, _, _, rfl, rfl, _, rfl, _, _, rfl, rfl, (by show 2 ≤ sizeLine; decide), fun b2 hb2 => ?_⟩
    have sb2 := same_new hb2 (.tup [.int ((i : Int) + 1), .int ((j : Int) + 1)])
    have sb12 := sb1.trans sb2
    obtain ⟨v, hv1, hv2⟩ := ht.get (i + 1) (j + 1) ⟨by omega, by omega, by omega, .inl (by omega)⟩
    refine ⟨d, v, rfl, ?_, ?_⟩
    · rw [← hv1]
      exact DGet.t (sb12 _ _ ht.at_) upd_same
    refine catW (u := [a]) (Wd.new (sb2 _ _ upd_same)) (hv2.same sb12) (by have := dl (i + 1) (j + 1); show 1 + _ ≤ _; omega) fun r H3 s3 w3 => k r H3 (sb12.trans s3) ?_
    rw [drop_at hoa, drop_at hob, sb_eq _ _ rfl]
    exact w3
  · have hab : a ≠ b := fun z => c (by
      rw [z]
      exact decide_eq_true rfl)
    refine ⟨_, rfl, _, rfl, a1, _, _, _, rfl, rfl, t1, at_of (j := i) rfl (int_at hoa), ?_⟩
    refine ⟨(by show 1 ≤ sizeLine; decide), fun b1 hb1 => ?_⟩
    have sb1 := same_new hb1 (.tup [.int a])
    refine ⟨_, rfl, _, rfl, _, _, rfl, rfl, _, rfl, (by show 2 ≤ sizeLine; decide), fun b2 hb2 => ?_⟩
    have sb2 := same_new hb2 (.tup [.int ((i : Int) + 1), .int (j : Int)])
    have sb12 := sb1.trans sb2
    obtain ⟨v, hv1, hv2⟩ := ht.get (i + 1) j ⟨by omega, by omega, by omega, .inl (by omega)⟩
    refine ⟨d, v, rfl, ?_, ?_⟩
    · rw [← hv1]
      exact DGet.t (sb12 _ _ ht.at_) upd_same
    refine catW (u := [a]) (Wd.new (sb2 _ _ upd_same)) (hv2.same sb12) (by have := dl (i + 1) j; show 1 + _ ≤ _; omega) fun r H3 s3 w3 => ?_
    have s03 := sb12.trans s3
    refine ⟨_, rfl, _, rfl, a2, _, _, _, rfl, rfl, Same.seqT s03 t2, at_of (j := j) rfl (int_at hob), ?_⟩
    refine ⟨(by show 1 ≤ sizeLine; decide), fun b3 hb3 => ?_⟩
    have sb3 := same_new hb3 (.tup [.int b])
    refine ⟨_, rfl, _, rfl, _, rfl, _, _, rfl, rfl, (by show 2 ≤ sizeLine; decide), fun b4 hb4 => ?_⟩
    have sb4 := same_new hb4 (.tup [.int (i : Int), .int ((j : Int) + 1)])
    have sb34 := sb3.trans sb4
    obtain ⟨v', hv3, hv4⟩ := ht.get i (j + 1) ⟨by omega, by omega, by omega, .inr (by omega)⟩
    refine ⟨d, v', rfl, ?_, ?_⟩
    · rw [← hv3]
      exact DGet.t (sb34 _ _ (s03 _ _ ht.at_)) upd_same
    refine catW (u := [b]) (Wd.new (sb4 _ _ upd_same)) ((hv4.same s03).same sb34) (by have := dl i (j + 1); show 1 + _ ≤ _; omega) fun r' H5 s5 w5 => ?_
    have s35 := sb34.trans s5
    refine ⟨r, r', a :: sb (one.drop (i + 1)) (two.drop j), b :: sb (one.drop i) (two.drop (j + 1)), rfl, w3.same s35, w5, fun r6 H6 s6 w6 => k r6 H6 (s03.trans (s35.trans s6)) ?_⟩
    rw [drop_at hoa, drop_at hob, sb_ne _ _ hab, ← drop_at hoa, ← drop_at hob]
    exact w6
abbrev s_shortest_over : Stmt := top 33
theorem sc_shortest_over : FnScope ["row", "other", "one", "two", "found", "at", "there"] ["row", "other"] (defScope s_shortest_over) := ⟨rfl, rfl, rfl, by decide +kernel, rfl, by decide +kernel, by decide +kernel⟩
theorem ok_shortest_over (F : Fun K "shortest_over" "shortest_over" s_shortest_over f fd) (B : Bn mg) {f1 f3 : Addr} {fd1 fd3 : FuncData}
    (kcheck_words : Kn P w K mg base (L2.CX P w) 7 "check_words" ["row", "other"] (spCWords K cR cT) f1 fd1)
    (kshortest_from : Kn P w K mg base CX0 3 "shortest_from" ["found", "one", "two", "at", "there"] (spSFrom K) f3 fd3) :
    FnOk P w K mg base (L2.CX P w) 16 f fd ["row", "other"] (spShortest K cR cT) := by
  refine F.okX sc_shortest_over (fun vs H Q E h => ?_) (fun cdv A outer s H vs Q E hr h => ?_)
  · obtain ⟨v, u, b, c, rfl, _⟩ := h
    rfl
  obtain ⟨v, u, b, c, rfl, rv, ru, k, kw⟩ := h
  have tk0 := takes_of (X := cxOf (L2.CX P w) P w K mg base ["row", "other", "one", "two", "found", "at", "there"] "shortest_over" (defScope s_shortest_over) f cdv A outer s H E) rfl rfl rfl rfl
  have hu := hu_of hr
  refine ⟨_, (pss_cons (ps_asg (pk kcheck_words hr (by omega) (passes_call tk0 (fun _ _ _ _ h => h)) (pa_cons (pv 0) (pa_cons (pv 1) pa_nil))) (pg_tup (by rfl) (pgs_cons (pg_name (i := 2) sc_shortest_over.nd rfl (Or.inl rfl)) (pgs_cons (pg_name (i := 3) sc_shortest_over.nd rfl (Or.inl rfl)) pgs_nil))))
      (pss_cons (ps_set (i := 4) sc_shortest_over.nd rfl (Or.inl rfl) pe_dnewT)
      (pss_cons (ps_for (passes_of rfl) rfl (pi_range3 (by rfl) B.range_ (pa_cons (pe_callB call_len_seq (by rfl) B.len_ PySem.boot_len (pa_cons (pv 2) pa_nil)) (pa_cons (pe_un un_neg pe_int) (pa_cons (pe_un un_neg pe_int) pa_nil)))) (pg_name (i := 5) sc_shortest_over.nd rfl (Or.inl rfl))
      (pss_one (ps_for (passes_of rfl) rfl (pi_range3 (by rfl) B.range_ (pa_cons (pe_callB call_len_seq (by rfl) B.len_ PySem.boot_len (pa_cons (pv 3) pa_nil)) (pa_cons (pe_un un_neg pe_int) (pa_cons (pe_un un_neg pe_int) pa_nil)))) (pg_name (i := 6) sc_shortest_over.nd rfl (Or.inl rfl))
      (pss_one (ps_dput hu (pv 4) (pe_tup (pa_cons (pv 5) (pa_cons (pv 6) pa_nil))) (pk kshortest_from hr (by omega) pass0 (pa_cons (pv 4) (pa_cons (pv 2) (pa_cons (pv 3) (pa_cons (pv 5) (pa_cons (pv 6) pa_nil)))))) rfl)))))
      (pss_one (ps_ret (pe_dget hu (pv 4) (pe_tup (pa_cons pe_int (pa_cons pe_int pa_nil))) (fun _ _ => rfl))))))), ?_⟩
  refine ⟨_, rfl, _, rfl, v, u, b, c, rfl, rv, ru, k, fun hbc => ?_⟩
  obtain ⟨xs, ys, hv, hu', rx, ry, kk⟩ := kw hbc
  refine ⟨xs, ys, hv, hu', rx, ry, fun H1 s1 => ⟨(kk H1 s1).1, fun l1 l2 p p1 p2 hp w1 w2 => ?_⟩⟩
  obtain ⟨A1, e1, t1⟩ := id w1
  cases e1
  obtain ⟨A2, e2, t2⟩ := id w2
  cases e2
  generalize ho : wd xs = one at *
  generalize hw : wd ys = two at *
  have el1 : (one.map V.int).length = one.length := List.length_map ..
  have el2 : (two.map V.int).length = two.length := List.length_map ..
  refine ⟨p, _, rfl, SqT.of hp, rfl, _, _, rfl, _, _, rfl, rfl, ?_⟩
  refine fun d hd => ?_
  have sd := same_new hd (.dT [])
  refine ⟨_, rfl, p1, _, rfl, .inr (Same.seqT sd t1), _, rfl, _, rfl, _, _, _, one.length + 1, rfl, ?_, for_rangeC (lo := ((one.map V.int).length : Int)) (c := -1) (n := one.length + 1) (fun m σ H' => Same H1 H' ∧ ∃ (kvs : List (List Key × V)) (u1 u2 : Option V),
    σ = [some v, some u, some (.ref p1), some (.ref p2), some (.ref d), u1, u2] ∧ TabW K H' d kvs (fun x y => one.length + 1 - m ≤ x ∧ x ≤ one.length ∧ y ≤ two.length) (fun p q => sb (one.drop p) (two.drop q)) ∧ kvs.length ≤ m * 61)
    ⟨sd, [], none, none, rfl, ⟨upd_same, fun x y q => ?_⟩, Nat.zero_le _⟩ ?_ ?_⟩
  · rw [el1]
    exact rg_neg (by omega) 0 (by omega)
  · omega
  · rintro m σ H2 hm ⟨s2, kvs, u1, u2, rfl, ht, hkl⟩
    rw [el1, show ((one.length : Int) + (m : Nat) * (-1)) = ((one.length - m : Nat) : Int) by omega]
    generalize hat : one.length - m = at_
    refine ⟨_, rfl, p2, _, rfl, .inr (Same.seqT s2 t2), _, rfl, _, rfl, _, _, _, two.length + 1, rfl, ?_, for_rangeC (lo := ((two.map V.int).length : Int)) (c := -1) (n := two.length + 1) (fun n σ H' => Same H1 H' ∧ ∃ (kvs : List (List Key × V)) (u2 : Option V),
      σ = [some v, some u, some (.ref p1), some (.ref p2), some (.ref d), some (.int at_), u2] ∧ TabW K H' d kvs (fun x y => (one.length + 1 - m ≤ x ∧ x ≤ one.length ∧ y ≤ two.length) ∨ (x = at_ ∧ two.length + 1 - n ≤ y ∧ y ≤ two.length)) (fun p q => sb (one.drop p) (two.drop q)) ∧ kvs.length ≤ m * 61 + n)
      ⟨s2, kvs, u2, rfl, ht.imp (fun x y q => ?_), hkl⟩ ?_ ?_⟩
    · rw [el2]
      exact rg_neg (by omega) 0 (by omega)
    · omega
    · rintro n σ H3 hn ⟨s3, kvs, u2, rfl, ht, hkl⟩
      rw [el2, show ((two.length : Int) + (n : Nat) * (-1)) = ((two.length - n : Nat) : Int) by omega]
      generalize hth : two.length - n = th
      refine ⟨_, rfl, _, rfl, _, rfl, _, rfl, _, rfl, d, .ref p1, .ref p2, one, two, at_, th, kvs, rfl, ⟨p1, rfl, Same.seqT s3 t1⟩, ⟨p2, rfl, Same.seqT s3 t2⟩, l1, l2, by omega, by omega, ht.imp (fun x y q => by omega), fun r H4 s4 hr4 => ?_⟩
      refine ⟨_, rfl, _, rfl, _, rfl, (by show 2 ≤ sizeLine; decide), fun b0 hb0 => ?_⟩
      have s5 := same_new hb0 (.tup [.int (at_ : Int), .int (th : Int)])
      have s45 := s4.trans s5
      have ht5 := ht.same s45
      have ht6 := ht5.put (i := at_) (j := th) (hr4.same s5)
      refine ⟨d, _, rfl, DPut.t (k := kp at_ th) ht5.at_ upd_same ?_, ?_⟩
      · show _ < 2 ^ 24
        omega
      refine ⟨Same.upd (s3.trans s45) hd _, _, _, rfl, ht6.imp (fun x y q => by omega), ?_⟩
      have := length_putK kvs (kp at_ th) r
      omega
    · rintro σ H3 ⟨s3, kvs, u2, rfl, ht, hkl⟩
      exact ⟨s3, kvs, _, _, rfl, ht.imp (fun x y q => by omega), by omega⟩
  · rintro σ H2 ⟨s2, kvs, u1, u2, rfl, ht, hkl⟩
    obtain ⟨r, hr1, hr2⟩ := ht.get 0 0 ⟨by omega, Nat.zero_le _, Nat.zero_le _⟩
    refine ⟨_, rfl, (by show 2 ≤ sizeLine; decide), fun b1 hb1 => ?_⟩
    have s7 := same_new hb1 (.tup [.int (0 : Int), .int (0 : Int)])
    refine ⟨d, r, rfl, ?_, ?_⟩
    · rw [← hr1]
      exact DGet.t (k := kp 0 0) (s7 _ _ ht.at_) (b := b1) upd_same
    subst ho
    subst hw
    exact (kk _ (s1.trans (s2.trans s7))).2 l1 l2 r (hr2.same s7)
end
end Fl
end

section
set_option Elab.async false
set_option linter.all false
set_option maxRecDepth 100000
set_option maxHeartbeats 4000000
/-! The law's own: word, thins, is. -/
namespace Fl
open PySem PySem.Spec PyProof.Rows L2
def spLThins (K : PySem.W.Frag) : Sp := fun vs H Q _ => ∃ (v u : V) (xs out : List Int), vs = [v, u] ∧ Wd K H v xs ∧ Wd K H u out ∧ out ≠ [] ∧ out.length ≤ 1000 ∧ ∀ H', Same H H' → Q (.bl (thinL xs out)) H'
def spLWord (K : PySem.W.Frag) : Sp := fun vs H Q _ => ∃ (v : V) (xs : List Int), vs = [v] ∧ Wd K H v xs ∧ xs ≠ [] ∧ xs.length ≤ 1000 ∧ ∀ p H', Same H H' → Wd K H' (.ref p) (wd xs) → Q (.ref p) H'
section
variable {P : Program} {w : World} {K : PySem.W.Frag} {mg : Str → Option Value} {base : Heap} {f : Addr} {fd : FuncData}
theorem last_of {x : Int} {xr : List Int} (i : Nat) : ∃ q b, wd ((x :: xr).take (max i 1)) = q ++ [b] := by
  cases e : (wd ((x :: xr).take (max i 1))).getLast? with
  | some b => exact ⟨_, b, (List.getLast?_eq_some_iff.mp e).choose_spec⟩
  | none =>
    rw [wd_getLast] at e
    have := List.getLast?_eq_none_iff.mp e
    cases hm : max i 1 with
    | zero => omega
    | succ k =>
      rw [hm] at this
      cases this
theorem wd_turn {x : Int} {xr q : List Int} {i : Nat} {b c : Int} (hc : (x :: xr)[i]? = some c) (hq : wd ((x :: xr).take (max i 1)) = q ++ [b]) :
    wd ((x :: xr).take (max (i + 1) 1)) = if b = c then wd ((x :: xr).take (max i 1)) else wd ((x :: xr).take (max i 1)) ++ [c] := by
  cases i with
  | zero =>
    cases hc
    have hq' : [x] = q ++ [b] := hq
    have hb : x = b := by
      cases q with
      | nil => cases hq'; rfl
      | cons z q => exact absurd (congrArg List.length hq') (by simp)
    rw [if_pos hb.symm]
    rfl
  | succ i =>
    have e1 : max (i + 1) 1 = i + 1 := Nat.max_eq_left (by omega)
    have e2 : max (i + 1 + 1) 1 = i + 1 + 1 := Nat.max_eq_left (by omega)
    rw [e1] at hq
    rw [e2, e1, take_at hc, wd_snoc]
    have hl : ((x :: xr).take (i + 1)).getLast? = some b := by
      rw [← wd_getLast, hq]
      exact List.getLast?_concat
    rw [hl]
    by_cases e : b = c
    · rw [if_pos e, if_pos (by rw [e])]
    · rw [if_neg e, if_neg (fun z => e (Option.some.inj z))]
abbrev s_law_word : Stmt := top 41
theorem sc_law_word : FnScope ["_law_row_here", "_law_found", "_law_letter"] ["_law_row_here"] (defScope s_law_word) := ⟨rfl, rfl, rfl, by decide +kernel, rfl, by decide +kernel, by decide +kernel⟩
theorem ok_law_word (F : Fun K "_law_word" "_law_word" s_law_word f fd) (B : Bn mg) : FnOk P w K mg base CX0 1 f fd ["_law_row_here"] (spLWord K) := by
  refine F.ok sc_law_word (fun vs H Q E h => ?_) (fun cdv A outer s H vs Q E hr h => ?_)
  · obtain ⟨v, xs, rfl, _⟩ := h
    rfl
  obtain ⟨v, xs, rfl, hv, hne, hl, k⟩ := h
  refine ⟨_, (pss_cons (ps_set (i := 1) sc_law_word.nd rfl (Or.inl rfl) (pe_lst (pa_cons (pe_ix ix_tup (pv 0) pe_int (fun _ _ => rfl)) pa_nil)))
      (pss_cons (ps_for PassesOwn.never rfl (pi_tup (pv 0)) (pg_name (i := 2) sc_law_word.nd rfl (Or.inl rfl))
      (pss_one (ps_if (pt_cmpR op_ne (pv 2) (pe_ix ix_list (pv 1) (pe_un un_neg pe_int) (fun _ _ => rfl)) (nomark _)) (pss_one (ps_expr (pe_bm PySem.F.plainAttrs_list PySem.F.slot_list_append PySem.F.type_list_append mt_append (pv 1) (pa_cons (pv 2) pa_nil)))) pss_nil)))
      (pss_one (ps_ret (pe_callTy call_tuple_of (by rfl) B.tuple_ (by decide +kernel) (pa_cons (pv 1) pa_nil)))))), ?_⟩
  obtain ⟨a, rfl, ha⟩ := id hv
  obtain ⟨x0, xr, rfl⟩ := List.exists_cons_of_ne_nil hne
  refine ⟨_, rfl, a, _, _, _, rfl, rfl, ha, at_of (j := 0) rfl (int_at (c := x0) rfl), ?_⟩
  refine ⟨(by show 1 ≤ sizeLine; decide), fun D hD => ?_⟩
  have s1 := same_new hD (.lst [.int x0])
  refine ⟨_, rfl, a, rfl, ⟨_, Same.seqT s1 ha⟩, for_tup (K := K) (a := a) (xs := (x0 :: xr).map V.int) (fun i σ H' => Same H H' ∧ ∃ (u : Option V), σ = [some (.ref a), some (.ref D), u] ∧ H' D = some (.lst ((wd ((x0 :: xr).take (max i 1))).map V.int)))
    ⟨s1, none, rfl, upd_same⟩ (fun i σ H' _ hs => Same.seqT hs.1 ha) ?_ ?_⟩
  · rintro i y σ H1 hi ⟨s2, u, rfl, hd⟩
    obtain ⟨c, hc, rfl⟩ := int_of hi
    have hil := (List.getElem?_eq_some_iff.mp hc).1
    obtain ⟨q, b, hq⟩ := last_of (x := x0) (xr := xr) i
    have key := wd_turn hc hq
    rw [hq] at hd
    refine ⟨_, rfl, _, rfl, _, rfl, D, _, _, _, rfl, rfl, SqL.of hd, (by rw [List.map_append]; exact atI_last _ _), rfl, _, rfl, ?_⟩
    have hqb : wd ((x0 :: xr).take (max i 1)) = q ++ [b] := hq
    rw [← hqb] at hd
    refine ite2 (fun e => ?_) (fun e => ?_)
    · have hne : b ≠ c := fun z => by
        rw [z] at e
        simp at e
      rw [if_neg hne] at key
      refine ⟨_, rfl, .inl ⟨rfl, _, SqL.of hd⟩, _, rfl, D, _, _, rfl, rfl, hd, ?_, Same.upd s2 hD _, _, rfl, ?_⟩
      · have := wd_length ((x0 :: xr).take (max i 1))
        rw [List.length_take] at this
        rw [List.length_map]
        exact small1000 (by omega)
      · rw [upd_same, key, List.map_append]
        rfl
    · have hne : b = c := Classical.byContradiction fun z => e (by
        rw [Bool.not_eq_true', decide_eq_false_iff_not]
        intro z2
        injection z2 with z2
        exact z z2.symm)
      rw [if_pos hne] at key
      exact ⟨s2, _, rfl, by rw [key]; exact hd⟩
  · rintro σ H1 ⟨s2, u, rfl, hd⟩
    rw [List.length_map, Nat.max_eq_left (by rw [List.length_cons]; omega), List.take_length] at hd
    refine ⟨_, rfl, D, _, rfl, .inl ⟨SqL.of hd, fun l hl => k l _ (Same.upd s2 (s2.free hl) _) (Wd.new upd_same)⟩⟩
abbrev s_law_thins : Stmt := top 42
theorem sc_law_thins : FnScope ["_law_row_here", "_law_out", "_law_left", "_law_letter"] ["_law_row_here", "_law_out"] (defScope s_law_thins) := ⟨rfl, rfl, rfl, by decide +kernel, rfl, by decide +kernel, by decide +kernel⟩
theorem ok_law_thins (F : Fun K "_law_thins" "_law_thins" s_law_thins f fd) (B : Bn mg) {f1 : Addr} {fd1 : FuncData} (k_law_word : Kn P w K mg base CX0 1 "_law_word" ["_law_row_here"] (spLWord K) f1 fd1) :
    FnOk P w K mg base CX0 2 f fd ["_law_row_here", "_law_out"] (spLThins K) := by
  refine F.ok sc_law_thins (fun vs H Q E h => ?_) (fun cdv A outer s H vs Q E hr h => ?_)
  · obtain ⟨v, u, xs, out, rfl, _⟩ := h
    rfl
  obtain ⟨v, u, xs, out, rfl, hv, hu, hne, hl, k⟩ := h
  refine ⟨_, (pss_cons (ps_set (i := 2) sc_law_thins.nd rfl (Or.inl rfl) (pe_callTy call_list_of (by rfl) B.list_ (by decide +kernel) (pa_cons (pk k_law_word hr (by omega) pass0 (pa_cons (pv 1) pa_nil)) pa_nil)))
      (pss_cons (ps_for PassesOwn.never rfl (pi_tup (pv 0)) (pg_name (i := 3) sc_law_thins.nd rfl (Or.inl rfl))
      (pss_one (ps_if (PW.pt (pw_and (pt_cmpR op_gt (pe_callB call_len_seq (by rfl) B.len_ PySem.boot_len (pa_cons (pv 2) pa_nil)) pe_int (nomark _)) (pw_and1 (pt_cmpR op_eq (pv 3) (pe_ix ix_list (pv 2) pe_int (fun _ _ => rfl)) (nomark _))))) (pss_one (ps_expr (pe_bm PySem.F.plainAttrs_list PySem.F.slot_list_pop PySem.F.type_list_pop mt_popAt (pv 2) (pa_cons pe_int pa_nil)))) pss_nil)))
      (pss_one (ps_ret (pe_cmpR op_eq (pe_callB call_len_seq (by rfl) B.len_ PySem.boot_len (pa_cons (pv 2) pa_nil)) pe_int (nomark _)))))), ?_⟩
  obtain ⟨a, rfl, ha⟩ := id hv
  refine ⟨_, rfl, u, out, rfl, hu, hne, hl, fun p H1 s1 w1 => ?_⟩
  obtain ⟨pa, ep, hp⟩ := id w1
  cases ep
  refine ⟨p, _, rfl, .inr hp, fun D hD => ?_⟩
  have s2 := same_new hD (.lst ((wd out).map V.int))
  have s12 := s1.trans s2
  have hwl : (wd out).length ≤ 1000 := Nat.le_trans (wd_length out) hl
  refine ⟨_, rfl, a, rfl, ⟨_, Same.seqT s12 ha⟩, for_tup (K := K) (a := a) (xs := xs.map V.int) (fun i σ H' => Same H H' ∧ ∃ (z : Option V), σ = [some (.ref a), some u, some (.ref D), z] ∧ H' D = some (.lst ((gsub (xs.take i) (wd out)).map V.int)))
    ⟨s12, none, rfl, upd_same⟩ (fun i σ H' _ hs => Same.seqT hs.1 ha) ?_ ?_⟩
  · rintro i y σ H3 hi ⟨s3, z, rfl, hd⟩
    obtain ⟨c, hc, rfl⟩ := int_of hi
    have key : gsub (xs.take (i + 1)) (wd out) = gstep (gsub (xs.take i) (wd out)) c := by
      rw [take_at hc]
      unfold gsub
      rw [List.foldl_append]
      rfl
    rw [key]
    generalize gsub (xs.take i) (wd out) = L at hd
    refine ⟨_, rfl, D, _, rfl, .inl (SqL.of hd), _, _, rfl, rfl, _, rfl, ?_⟩
    cases L with
    | nil =>
      exact iteF ⟨s3, _, rfl, hd⟩
    | cons b L =>
      refine ite2 (fun e => ?_) (fun e => absurd (decide_eq_true (by show (0 : Int) < ((List.map V.int (b :: L)).length : Int); rw [List.length_map, List.length_cons]; omega)) e)
      refine ⟨_, rfl, _, rfl, D, _, _, _, rfl, rfl, SqL.of hd, at_of (j := 0) (v := .int b) rfl rfl, rfl, _, rfl, ?_⟩
      refine ite2 (fun e2 => ?_) (fun e2 => ?_)
      · have hcb : c = b := by
          have := of_decide_eq_true e2
          injection this
        subst hcb
        refine ⟨_, rfl, .inl ⟨rfl, _, SqL.of hd⟩, D, _, 0, 0, .int c, rfl, rfl, hd, (by decide), (by decide), ?_, rfl, ?_⟩
        · rw [List.length_map, List.length_cons]
          unfold seqIndex?
          simp
        refine ⟨Same.upd s3 (s1.free hD) _, _, rfl, ?_⟩
        rw [upd_same]
        show some (HO.lst (L.map V.int)) = some (.lst ((if c = c then L else c :: L).map V.int))
        rw [if_pos rfl]
      · have hcb : ¬ c = b := fun z => e2 (by rw [z]; exact decide_eq_true rfl)
        refine ⟨s3, _, rfl, ?_⟩
        rw [hd]
        show some (HO.lst ((b :: L).map V.int)) = some (.lst ((if c = b then L else b :: L).map V.int))
        rw [if_neg hcb]
  · rintro σ H3 ⟨s3, z, rfl, hd⟩
    rw [List.length_map, List.take_length] at hd
    refine ⟨_, rfl, D, _, rfl, .inl (SqL.of hd), rfl, ?_⟩
    have kk := k H3 s3
    have e : decide (V.int (((gsub xs (wd out)).map V.int).length : Int) = V.int 0) = thinL xs out := by
      unfold thinL
      rw [List.length_map, decide_eq_decide]
      constructor
      · intro z
        injection z with z
        exact List.length_eq_zero_iff.mp (by omega)
      · intro z
        rw [z]
        rfl
    rw [e]
    exact kk
/-! ### data that the law compares -/
inductive SimD : Nat → PyData → Prop
  | int (n : Nat) (i : Int) : SimD n (.int i)
  | non (n : Nat) : SimD n .none
  | tup {n : Nat} {ds : List PyData} (h : ∀ d ∈ ds, SimD n d) (hl : ds.length ≤ 100000) : SimD (n + 1) (.tuple ds)
  | lst {n : Nat} {ds : List PyData} (h : ∀ d ∈ ds, SimD n d) (hl : ds.length ≤ 100000) : SimD (n + 1) (.list ds)
def spLIs (K : PySem.W.Frag) (n : Nat) : Sp := fun vs H Q _ => ∃ (x y : V) (d : PyData), vs = [x, y] ∧ Dp K H x d ∧ Dp K H y d ∧ SimD n d ∧ ∀ H', Same H H' → Q (.bl true) H'
theorem kit_tl {K : PySem.W.Frag} {t : String} (h : t ∈ simT) : PySem.W.kitAny K (.type t) [.type "tuple", .type "list"] = some (decide (t = "tuple") || decide (t = "list")) := by
  refine kitAny_cons (b := decide (t = "tuple")) (kit_ty (kit_tuple t h)) (fun e => ?_) (fun e => by rw [e]; rfl)
  rw [e, Bool.false_or]
  exact kitAny_cons (b := decide (t = "list")) (kit_ty (kit_list t h)) (fun e => by rw [e]; rfl) (fun e => by rw [e])
theorem Ty.sql {K : PySem.W.Frag} {H : Hp} {a : Addr} {xs : List V} (h : SqL K H a xs) : Ty K H (.ref a) "list" := by
  refine ⟨?_, by decide⟩
  rcases h with (h | ⟨o, h⟩) | ⟨o, _, _, h, c, _⟩
  · exact .base (.lst h)
  · exact .base (.frz h)
  · exact .kList h c
theorem sql_same {K : PySem.W.Frag} {H H' : Hp} {a : Addr} {xs : List V} (e : Same H H') (h : SqL K H a xs) : SqL K H' a xs := by
  rcases h with (h | ⟨o, h⟩) | h
  · exact .inl (.inl (e _ _ h))
  · exact .inl (.inr ⟨o, e _ _ h⟩)
  · exact .inr h
theorem isTL {H : Hp} {v : V} {t : String} {Q : VK} {σ : L2.St} (ht : Ty K H v t) (k : ∀ H', Same H H' → Q (.bl (decide (t = "tuple") || decide (t = "list"))) H') :
    tCons (tTup (tCons (tC (.ty "tuple")) (tCons (tC (.ty "list")) tNil))) tNil σ H fun vs H1 => rIsiT K (v :: vs) H1 Q := by
  refine ⟨(by show 2 ≤ sizeLine; decide), fun tp htp => ?_⟩
  exact ⟨v, tp, _, _, _, _, rfl, upd_same, .cons (.ty _) (.cons (.ty _) .nil), (ht.same (same_new htp _)).ty, kit_tl ht.mem, k _ (same_new htp _)⟩
abbrev s_law_is : Stmt := top 39
theorem sc_law_is : FnScope ["_law_told", "_law_due", "_law_one", "_law_two"] ["_law_told", "_law_due"] (defScope s_law_is) := ⟨rfl, rfl, rfl, by decide +kernel, rfl, by decide +kernel, by decide +kernel⟩
theorem ok_law_is1 (F : Fun K "_law_is" "_law_is" s_law_is f fd) (B : Bn mg) {n : Nat} {sp : Sp} (hsp : ∀ m, n = m + 1 → sp = spLIs K m) (k_law_is : Kn P w K mg base CX0 (n + 1) "_law_is" ["_law_told", "_law_due"] sp f fd) :
    FnOk P w K mg base CX0 (n + 2) f fd ["_law_told", "_law_due"] (spLIs K n) := by
  refine F.ok sc_law_is (fun vs H Q E h => ?_) (fun cdv A outer s H vs Q E hr h => ?_)
  · obtain ⟨x, y, d, rfl, _⟩ := h
    rfl
  obtain ⟨x, y, d, rfl, hx, hy, hs, k⟩ := h
  refine ⟨_, (pss_cons (ps_if (pt_val (pe_callB call_isiT (by rfl) B.isinstance_ (by decide +kernel) (pa_cons (pv 1) (pa_cons (pe_tup (pa_cons (pty (n := "tuple") B.tuple_ (by decide +kernel)) (pa_cons (pty (n := "list") B.list_ (by decide +kernel)) pa_nil))) pa_nil)))) (pss_cons (ps_if (PW.pt (pw_or (pt_cmpR op_ne (pe_callB call_isi (by rfl) B.isinstance_ (by decide +kernel) (pa_cons (pv 0) (pa_cons (pty (n := "tuple") B.tuple_ (by decide +kernel)) pa_nil))) (pe_callB call_isi (by rfl) B.isinstance_ (by decide +kernel) (pa_cons (pv 1) (pa_cons (pty (n := "tuple") B.tuple_ (by decide +kernel)) pa_nil))) (nomark _)) (pw_or1 (pt_not (pt_val (pe_callB call_isiT (by rfl) B.isinstance_ (by decide +kernel) (pa_cons (pv 0) (pa_cons (pe_tup (pa_cons (pty (n := "tuple") B.tuple_ (by decide +kernel)) (pa_cons (pty (n := "list") B.list_ (by decide +kernel)) pa_nil))) pa_nil)))))))) (pss_one (ps_ret pe_bl)) pss_nil)
      (pss_one (ps_ret (pe_and (pe_cmpR op_eq (pe_callB call_len_seq (by rfl) B.len_ PySem.boot_len (pa_cons (pv 0) pa_nil)) (pe_callB call_len_seq (by rfl) B.len_ PySem.boot_len (pa_cons (pv 1) pa_nil)) (nomark _)) (pe_one (pe_callB (cr_all rfl) (by rfl) B.all_ (by decide +kernel) (pa_cons (pe_lc (own := [("_law_one", 2), ("_law_two", 3)]) (by rfl) sc_law_is.nd (RZ.pi_zipA (by rfl) B.zip_ (pa_cons (pv 0) (pa_cons (pv 1) pa_nil))) (blkOk_by (N := ["_law_told", "_law_due", "_law_one", "_law_two"]) (sc := defScope s_law_is) (by decide +kernel)) (fun _ _ _ _ _ => (pgTupK (n := 2) K (by rfl) (by rfl) (pgs_cons (pg_name (i := 2) sc_law_is.nd rfl (Or.inl rfl)) (pgs_cons (pg_name (i := 3) sc_law_is.nd rfl (Or.inl rfl)) pgs_nil)))) (fun _ _ _ _ _ => pts_nil) (fun _ _ _ _ _ => (pk k_law_is hr (by omega) pass0 (pa_cons (pv 2) (pa_cons (pv 3) pa_nil))))) pa_nil))))))) pss_nil)
      (pss_cons (ps_if (pt_val (pe_callB call_isiT (by rfl) B.isinstance_ (by decide +kernel) (pa_cons (pv 0) (pa_cons (pe_tup (pa_cons (pty (n := "tuple") B.tuple_ (by decide +kernel)) (pa_cons (pty (n := "list") B.list_ (by decide +kernel)) pa_nil))) pa_nil)))) (pss_one (ps_ret pe_bl)) pss_nil)
      (pss_one (ps_ret (pe_and (pe_cmpR op_eq (pe_callB call_isi (by rfl) B.isinstance_ (by decide +kernel) (pa_cons (pv 0) (pa_cons (pty (n := "bool") B.bool_ (by decide +kernel)) pa_nil))) (pe_callB call_isi (by rfl) B.isinstance_ (by decide +kernel) (pa_cons (pv 1) (pa_cons (pty (n := "bool") B.bool_ (by decide +kernel)) pa_nil))) (nomark _)) (pe_one (pe_cmpR op_eq (pv 0) (pv 1) (nomark _)))))))), ?_⟩
  cases hs with
  | int _ i =>
    cases hx
    cases hy
    refine ⟨_, rfl, isTL (Ty.int i) fun H1 s1 => ⟨_, rfl, iteF ?_⟩⟩
    refine ⟨_, rfl, isTL (Ty.int i) fun H2 s2 => ⟨_, rfl, iteF ?_⟩⟩
    refine ⟨_, rfl, .int i, .ty "bool", _, _, _, rfl, .ty _, (Ty.int (K := K) (H := H2) i).ty, kit_ty (kit_bool "int" (by decide)), ?_⟩
    refine ⟨_, rfl, .int i, .ty "bool", _, _, _, rfl, .ty _, (Ty.int (K := K) (H := H2) i).ty, kit_ty (kit_bool "int" (by decide)), ?_⟩
    refine ⟨rfl, _, rfl, ?_⟩
    refine ite2 (fun _ => ?_) (fun c => absurd (decide_eq_true rfl) c)
    refine ⟨_, rfl, _, rfl, rfl, ?_⟩
    rw [show decide (V.int i = V.int i) = true from decide_eq_true rfl]
    exact k H2 (s1.trans s2)
  | non _ =>
    cases hx
    cases hy
    refine ⟨_, rfl, isTL Ty.non fun H1 s1 => ⟨_, rfl, iteF ?_⟩⟩
    refine ⟨_, rfl, isTL Ty.non fun H2 s2 => ⟨_, rfl, iteF ?_⟩⟩
    refine ⟨_, rfl, .non, .ty "bool", _, _, _, rfl, .ty _, (Ty.non (K := K) (H := H2)).ty, kit_ty (kit_bool "NoneType" (by decide)), ?_⟩
    refine ⟨_, rfl, .non, .ty "bool", _, _, _, rfl, .ty _, (Ty.non (K := K) (H := H2)).ty, kit_ty (kit_bool "NoneType" (by decide)), ?_⟩
    refine ⟨rfl, _, rfl, ?_⟩
    refine ite2 (fun _ => ?_) (fun c => absurd (decide_eq_true rfl) c)
    refine ⟨_, rfl, _, rfl, rfl, ?_⟩
    rw [show decide (V.non = V.non) = true from decide_eq_true rfl]
    exact k H2 (s1.trans s2)
  | tup h hl =>
    cases hx with
    | tup hx1 hx2 =>
      cases hy with
      | tup hy1 hy2 =>
        rename_i m ds a xs b ys
        have ex := dpAll_len hx2
        have ey := dpAll_len hy2
        refine ⟨_, rfl, isTL (Ty.tup hy1) fun H1 s1 => ⟨_, rfl, iteT ?_⟩⟩
        refine ⟨_, rfl, .ref a, .ty "tuple", _, _, _, rfl, .ty _, ((Ty.tup hx1).same s1).ty, kit_ty (kit_tuple "tuple" (by decide)), ?_⟩
        refine ⟨_, rfl, .ref b, .ty "tuple", _, _, _, rfl, .ty _, ((Ty.tup hy1).same s1).ty, kit_ty (kit_tuple "tuple" (by decide)), ?_⟩
        refine ⟨rfl, _, rfl, ?_⟩
        refine ite2 (fun c => absurd (decide_eq_true rfl) (by intro z; rw [z] at c; cases c)) (fun _ => ?_)
        refine ⟨_, rfl, isTL ((Ty.tup hx1).same s1) fun H2 s2 => ⟨_, rfl, iteF ?_⟩⟩
        have s12 := s1.trans s2
        have hx2' := dpAll_same s12 hx2
        have hy2' := dpAll_same s12 hy2
        refine ⟨_, rfl, a, _, rfl, .inr (Same.seqT s12 hx1), _, rfl, b, _, rfl, .inr (Same.seqT s12 hy1), rfl, _, rfl, ?_⟩
        refine ite2 (fun _ => ?_) (fun c => absurd (decide_eq_true (by rw [ex, ey])) c)
        have es : sp = spLIs K m := hsp m rfl
        subst es
        refine ⟨_, rfl, _, rfl, a, b, xs, ys, rfl, .inr ⟨Same.seqT s12 hx1, Same.seqT s12 hy1, fun D hD => ?_⟩⟩
        refine lc_it (walk_zipT (K := K) (a := a) (b := b) (xs := xs) (ys := ys) (by omega))
          (fun j H3 => Same H2 H3 ∧ H3 D = some (.lst (List.replicate j (V.bl true)))) ⟨same_new hD _, upd_same⟩ (fun j H3 _ h => ⟨Same.seqT h.1 (Same.seqT s12 hx1), Same.seqT h.1 (Same.seqT s12 hy1)⟩) ?_ ?_
        · rintro j y H3 H4 hj ⟨hs3, hd3⟩ ⟨T, x1, y1, rfl, hT, rfl, ha, hb⟩
          have sT := same_new hT (.tup [x1, y1])
          have hd4 := sT _ _ hd3
          have hs4 := hs3.trans sT
          obtain ⟨d1, hd1, hp1⟩ := dpAll_get hx2' ha
          obtain ⟨d2, hd2, hp2⟩ := dpAll_get hy2' hb
          rw [hd1] at hd2
          obtain rfl := Option.some.inj hd2
          refine ⟨T, [x1, y1], rfl, SqT.of upd_same, rfl, x1, [y1], rfl, y1, [], rfl, rfl, rfl, ?_⟩
          refine ⟨_, rfl, _, rfl, x1, y1, d1, rfl, dp_same hs4 hp1, dp_same hs4 hp2, h d1 (List.mem_of_getElem? hd1), fun H5 s5 => ?_⟩
          refine ⟨_, s5 _ _ hd4, ?_, Same.upd (hs4.trans s5) hD _, ?_⟩
          · rw [List.length_replicate]
            show _ < 2 ^ 24
            omega
          · rw [upd_same, List.replicate_succ']
        · rintro H3 ⟨hs3, hd3⟩
          refine ⟨D, List.replicate xs.length true, rfl, SqL.of (by rw [List.map_replicate]; exact hd3), ?_⟩
          rw [show (List.replicate xs.length true).all id = true by rw [List.all_eq_true]; intro z hz; exact (List.mem_replicate.mp hz).2]
          exact k H3 (s12.trans hs3)
  | lst h hl =>
    cases hx with
    | lst hx1 hx2 =>
      cases hy with
      | lst hy1 hy2 =>
        rename_i m ds a xs b ys
        have ex := dpAll_len hx2
        have ey := dpAll_len hy2
        refine ⟨_, rfl, isTL (Ty.sql hy1) fun H1 s1 => ⟨_, rfl, iteT ?_⟩⟩
        refine ⟨_, rfl, .ref a, .ty "tuple", _, _, _, rfl, .ty _, ((Ty.sql hx1).same s1).ty, kit_ty (kit_tuple "list" (by decide)), ?_⟩
        refine ⟨_, rfl, .ref b, .ty "tuple", _, _, _, rfl, .ty _, ((Ty.sql hy1).same s1).ty, kit_ty (kit_tuple "list" (by decide)), ?_⟩
        refine ⟨rfl, _, rfl, ?_⟩
        refine ite2 (fun c => absurd (decide_eq_true rfl) (by intro z; rw [z] at c; cases c)) (fun _ => ?_)
        refine ⟨_, rfl, isTL ((Ty.sql hx1).same s1) fun H2 s2 => ⟨_, rfl, iteF ?_⟩⟩
        have s12 := s1.trans s2
        have hx2' := dpAll_same s12 hx2
        have hy2' := dpAll_same s12 hy2
        refine ⟨_, rfl, a, _, rfl, .inl (sql_same s12 hx1), _, rfl, b, _, rfl, .inl (sql_same s12 hy1), rfl, _, rfl, ?_⟩
        refine ite2 (fun _ => ?_) (fun c => absurd (decide_eq_true (by rw [ex, ey])) c)
        have es : sp = spLIs K m := hsp m rfl
        subst es
        refine ⟨_, rfl, _, rfl, a, b, xs, ys, rfl, .inl ⟨sql_same s12 hx1, sql_same s12 hy1, fun D hD => ?_⟩⟩
        refine lc_it (walk_zip (K := K) (a := a) (b := b) (xs := xs) (ys := ys) (n := xs.length) (by omega))
          (fun j H3 => Same H2 H3 ∧ H3 D = some (.lst (List.replicate j (V.bl true)))) ⟨same_new hD _, upd_same⟩ (fun j H3 _ h => ⟨sql_same h.1 (sql_same s12 hx1), sql_same h.1 (sql_same s12 hy1)⟩) ?_ ?_
        · rintro j y H3 H4 hj ⟨hs3, hd3⟩ ⟨T, x1, y1, rfl, hT, rfl, ha, hb⟩
          have sT := same_new hT (.tup [x1, y1])
          have hd4 := sT _ _ hd3
          have hs4 := hs3.trans sT
          obtain ⟨d1, hd1, hp1⟩ := dpAll_get hx2' ha
          obtain ⟨d2, hd2, hp2⟩ := dpAll_get hy2' hb
          rw [hd1] at hd2
          obtain rfl := Option.some.inj hd2
          refine ⟨T, [x1, y1], rfl, SqT.of upd_same, rfl, x1, [y1], rfl, y1, [], rfl, rfl, rfl, ?_⟩
          refine ⟨_, rfl, _, rfl, x1, y1, d1, rfl, dp_same hs4 hp1, dp_same hs4 hp2, h d1 (List.mem_of_getElem? hd1), fun H5 s5 => ?_⟩
          refine ⟨_, s5 _ _ hd4, ?_, Same.upd (hs4.trans s5) hD _, ?_⟩
          · rw [List.length_replicate]
            show _ < 2 ^ 24
            omega
          · rw [upd_same, List.replicate_succ']
        · rintro H3 ⟨hs3, hd3⟩
          refine ⟨D, List.replicate xs.length true, rfl, SqL.of (by rw [List.map_replicate]; exact hd3), ?_⟩
          rw [show (List.replicate xs.length true).all id = true by rw [List.all_eq_true]; intro z hz; exact (List.mem_replicate.mp hz).2]
          exact k H3 (s12.trans hs3)
theorem FnOk.none {ps : List Str} {f : Addr} {fd : FuncData} {k : Nat} : FnOk P w K mg base CX0 k f fd ps (fun _ _ _ _ => False) := ⟨fun _ _ _ _ h => h.elim, fun _ _ _ _ _ _ _ _ _ _ _ _ _ h => h.elim⟩
theorem ok_law_is (F : Fun K "_law_is" "_law_is" s_law_is f fd) (B : Bn mg) (nm : mg "_law_is" = some (.ref f)) (bd : Binds K fd ["_law_told", "_law_due"] []) : ∀ n, FnOk P w K mg base CX0 (n + 2) f fd ["_law_told", "_law_due"] (spLIs K n)
  | 0 => ok_law_is1 F B (sp := fun _ _ _ _ => False) (fun m e => by omega) ⟨FnOk.none, nm, F.kp, bd⟩
  | n + 1 => ok_law_is1 F B (fun m e => by rw [show n = m by omega]) ⟨ok_law_is F B nm bd n, nm, F.kp, bd⟩
end
end Fl
end

section
set_option Elab.async false
set_option linter.all false
set_option maxRecDepth 100000
set_option maxHeartbeats 4000000
/-! The law's own: rows, longest. -/
namespace Fl
open PySem PySem.Spec PyProof.Rows L2
/-- rows, laid as the law lays them -/
def grow (S : List Int) : Nat → List (List Int)
  | 0 => [[]]
  | n + 1 => (grow S n).flatMap fun r => S.map fun c => r ++ [c]
theorem grow_cons (S : List Int) : ∀ n, grow S (n + 1) = S.flatMap fun c => (grow S n).map (c :: ·)
  | 0 => by
    show ([[]] : List (List Int)).flatMap (fun r => S.map fun c => r ++ [c]) = S.flatMap fun c => [[c]]
    rw [List.flatMap_cons, List.flatMap_nil, List.append_nil]
    induction S with
    | nil => rfl
    | cons a S ih =>
      rw [List.flatMap_cons, List.map_cons, ih]
      rfl
  | n + 1 => by
    show (grow S (n + 1)).flatMap (fun r => S.map fun c => r ++ [c]) = S.flatMap fun c => (grow S (n + 1)).map (c :: ·)
    conv => lhs; rw [grow_cons S n, List.flatMap_assoc]
    congr 1
    funext c
    show _ = ((grow S n).flatMap fun r => S.map fun c => r ++ [c]).map (c :: ·)
    rw [List.map_flatMap, List.flatMap_map]
    congr 1
    funext r
    rw [List.map_map]
    rfl
theorem grow_all (S : List Int) : ∀ n, grow S n = allRows S n
  | 0 => rfl
  | n + 1 => by
    rw [grow_cons, grow_all S n]
    rfl
theorem grow_len (S : List Int) (h : S.length ≤ 4) : ∀ n, (grow S n).length ≤ 4 ^ n
  | 0 => Nat.le_refl _
  | n + 1 => by
    have := flat_len (f := fun r : List Int => S.map fun c => r ++ [c]) (b := 4) (fun r => by rw [List.length_map]; exact h) (grow S n)
    have h2 := grow_len S h n
    show ((grow S n).flatMap _).length ≤ _
    rw [Nat.pow_succ]
    omega
theorem grow_row (S : List Int) : ∀ (n : Nat) (r : List Int), r ∈ grow S n → r.length = n
  | 0, r, h => by
    rw [List.mem_singleton.mp h]
    rfl
  | n + 1, r, h => by
    obtain ⟨q, hq, h2⟩ := List.mem_flatMap.mp h
    obtain ⟨c, _, rfl⟩ := List.mem_map.mp h2
    rw [List.length_append, grow_row S n q hq]
    rfl
def spLRows (K : PySem.W.Frag) : Sp := fun vs H Q _ => ∃ (a : Addr) (S : List Int) (n : Nat), vs = [.ref a, .int n] ∧ SqL K H a (S.map V.int) ∧ S.length ≤ 4 ∧ n ≤ 4 ∧
  ∀ r H' vs, Same H H' → H' r = some (.lst vs) → DpAll K H' vs ((allRows S n).map dW) → Q (.ref r) H'
def spLLongest (K : PySem.W.Frag) : Sp := fun vs H Q _ => ∃ (v u : V) (xs ys : List Int), vs = [v, u] ∧ Wd K H v xs ∧ Wd K H u ys ∧ xs ≠ [] ∧ xs.length ≤ 7 ∧ ys.length ≤ 1000 ∧
  ∀ r H' o, Same H H' → Longest (wd xs) (wd ys) o → OW K H' r o → Q r H'
section
variable {P : Program} {w : World} {K : PySem.W.Frag} {mg : Str → Option Value} {base : Heap} {f : Addr} {fd : FuncData}
/-- a word whose place is not in a list that is changed -/
theorem Wd.upd {H : Hp} {l : Addr} {xs ys : List V} (hl : H l = some (.lst xs)) {v : V} {u : List Int} (h : Wd K H v u) : Wd K (L2.upd H l (.lst ys)) v u := by
  have := dpAll_upd (ys := ys) hl (vs := [v]) (us := [u]) (.cons h.dp .nil)
  cases this with
  | cons h1 _ => exact Wd.of h1
theorem dW_get {H : Hp} {vs : List V} {us : List (List Int)} {i : Nat} {v : V} (h : DpAll K H vs (us.map dW)) (hv : vs[i]? = some v) : ∃ u, us[i]? = some u ∧ Wd K H v u := by
  obtain ⟨d, hd, hp⟩ := dpAll_get h hv
  rw [List.getElem?_map] at hd
  obtain ⟨u, hu, rfl⟩ := Option.map_eq_some_iff.mp hd
  exact ⟨u, hu, Wd.of hp⟩
abbrev s_law_rows : Stmt := top 43
theorem sc_law_rows : FnScope ["_law_letters", "_law_lanes", "_law_found", "_law_turn", "_law_longer", "_law_row_here", "_law_letter"] ["_law_letters", "_law_lanes"] (defScope s_law_rows) := ⟨rfl, rfl, rfl, by decide +kernel, rfl, by decide +kernel, by decide +kernel⟩
theorem ok_law_rows (F : Fun K "_law_rows" "_law_rows" s_law_rows f fd) (B : Bn mg) : FnOk P w K mg base CX0 1 f fd ["_law_letters", "_law_lanes"] (spLRows K) := by
  refine F.ok sc_law_rows (fun vs H Q E h => ?_) (fun cdv A outer s H vs Q E hr h => ?_)
  · obtain ⟨a, S, n, rfl, _⟩ := h
    rfl
  obtain ⟨a, S, n, rfl, hS, hl, hn, k⟩ := h
  refine ⟨_, (pss_cons (ps_set (i := 2) sc_law_rows.nd rfl (Or.inl rfl) (pe_lst (pa_cons (pe_tup pa_nil) pa_nil)))
      (pss_cons (ps_for PassesOwn.never rfl (pi_range1 (by rfl) B.range_ (pa_cons (pv 1) pa_nil)) (pg_name (i := 3) sc_law_rows.nd rfl (Or.inl rfl))
      (pss_cons (ps_set (i := 4) sc_law_rows.nd rfl (Or.inl rfl) (pe_lst pa_nil))
      (pss_cons (ps_for PassesOwn.never rfl (pi_list (pv 2)) (pg_name (i := 5) sc_law_rows.nd rfl (Or.inr rfl))
      (pss_one (ps_expr (pe_bm PySem.F.plainAttrs_list PySem.F.slot_list_extend PySem.F.type_list_extend mt_extend (pv 4) (pa_cons (pe_lc (own := [("_law_letter", 6)]) (by rfl) sc_law_rows.nd (pi_list (pv 0)) (blkOk_by (N := ["_law_letters", "_law_lanes", "_law_found", "_law_turn", "_law_longer", "_law_row_here", "_law_letter"]) (sc := defScope s_law_rows) (by decide +kernel)) (fun _ _ _ _ _ => (pg_name (i := 6) sc_law_rows.nd rfl (Or.inl rfl))) (fun _ _ _ _ _ => pts_nil) (fun _ _ _ _ _ => (pe_op (catA K) (pv 5) (pe_tup (pa_cons (pv 6) pa_nil))))) pa_nil)))))
      (pss_one (ps_set (i := 2) sc_law_rows.nd rfl (Or.inl rfl) (pv 4))))))
      (pss_one (ps_ret (pv 2))))), ?_⟩
  refine ⟨Nat.zero_le _, fun e0 he0 => ⟨(by show 1 ≤ sizeLine; decide), fun F0 hF0 => ?_⟩⟩
  have s1 := same_new he0 (.tup [])
  have s2 := Same.upd s1 (s1.free hF0) (.lst [.ref e0])
  refine ⟨_, rfl, _, rfl, by omega, by omega, for_range (lo := 0) (n := ((n : Nat) : Int).toNat) (fun i σ H' => Same H H' ∧ ∃ (l : Addr) (vs : List V) (u1 u2 u3 u4 : Option V), σ = [some (.ref a), some (.int n), some (.ref l), u1, u2, u3, u4] ∧ H' l = some (.lst vs) ∧ DpAll K H' vs ((grow S i).map dW))
    ⟨s2, F0, [.ref e0], none, none, none, none, rfl, upd_same, .cons (Wd.dp (Wd.new (u := []) (same_new hF0 _ _ _ upd_same))) .nil⟩ ?_ ?_⟩
  · rintro i σ H1 hi ⟨hs, l, vs, u1, u2, u3, u4, rfl, hlv, hd⟩
    have hin : i < 4 := by omega
    have hvl : vs.length ≤ 64 := by
      rw [dpAll_len hd, List.length_map]
      exact Nat.le_trans (grow_len S hl i) (Nat.le_trans (Nat.pow_le_pow_right (by decide) (show i ≤ 3 by omega)) (by decide))
    refine ⟨Nat.zero_le _, fun D hD => ?_⟩
    have sD : Same H1 (upd H1 D (.lst [])) := same_new hD _
    refine ⟨_, rfl, l, rfl, ⟨_, SqL.of (sD _ _ hlv)⟩, for_list (K := K) (a := l) (xs := vs) (fun j σ H2 => Same H1 H2 ∧ ∃ (ws : List V) (u1 u3 u4 : Option V), σ = [some (.ref a), some (.int n), some (.ref l), u1, some (.ref D), u3, u4] ∧ H2 D = some (.lst ws) ∧ DpAll K H2 ws ((((grow S i).take j).flatMap fun r => S.map fun c => r ++ [c]).map dW))
      ⟨sD, [], _, u3, u4, rfl, upd_same, .nil⟩ (fun j σ H2 _ h2 => SqL.of (h2.1 _ _ hlv)) ?_ ?_⟩
    · rintro j y σ H2 hj ⟨hs2, ws, v1, v3, v4, rfl, hdw, hpw⟩
      obtain ⟨r, hr1, hw0⟩ := dW_get hd hj
      have hwy := hw0.same hs2
      obtain ⟨b, rfl, hb⟩ := id hwy
      have hj' := (List.getElem?_eq_some_iff.mp hr1).1
      have hrl := grow_row S i r (List.mem_of_getElem? hr1)
      refine ⟨_, rfl, .inl ⟨rfl, _, SqL.of hdw⟩, ?_⟩
      have hS2 := sql_same (hs.trans hs2) hS
      refine ⟨_, rfl, a, rfl, ⟨_, hS2⟩, fun D3 hD3 => ?_⟩
      refine lc_list (K := K) (a := a) (xs := S.map V.int) (fun k H4 => Same H2 H4 ∧ ∃ zs, H4 D3 = some (.lst zs) ∧ DpAll K H4 zs (((S.take k).map fun c => r ++ [c]).map dW))
        ⟨same_new hD3 _, [], upd_same, .nil⟩ (fun k H4 _ h4 => sql_same h4.1 hS2) ?_ ?_
      · rintro k y H4 hk ⟨hs4, zs, hd4, hpz⟩
        obtain ⟨c, hc, rfl⟩ := int_of hk
        have hzl : zs.length ≤ 4 := by
          rw [dpAll_len hpz, List.length_map, List.length_map, List.length_take]
          omega
        refine ⟨rfl, ?_⟩
        refine ⟨_, rfl, _, rfl, (by show 1 ≤ sizeLine; decide), fun t ht => ?_⟩
        have st := same_new ht (.tup [.int c])
        refine catW (u := r) (v := [c]) ((hwy.same hs4).same st) (Wd.new upd_same) (by show _ + 1 ≤ _; omega) fun q H5 s5 w5 => ?_
        have s45 := st.trans s5
        refine ⟨zs, s45 _ _ hd4, small1000 (by omega), Same.upd (hs4.trans s45) hD3 _, _, upd_same, ?_⟩
        rw [take_at hc, List.map_append, List.map_append]
        exact dpAll_app (dpAll_upd (s45 _ _ hd4) (dpAll_same s45 hpz)) (.cons (Wd.dp (Wd.upd (s45 _ _ hd4) w5)) .nil)
      · rintro H4 ⟨hs4, zs, hd4, hpz⟩
        rw [List.length_map, List.take_length] at hpz
        have hzl : zs.length ≤ 4 := by
          rw [dpAll_len hpz, List.length_map, List.length_map]
          omega
        have hwl : ws.length ≤ 256 := by
          rw [dpAll_len hpw, List.length_map]
          refine Nat.le_trans (flat_len (f := fun r : List Int => S.map fun c => r ++ [c]) (b := 4) (fun r => by rw [List.length_map]; exact hl) _) ?_
          rw [List.length_take]
          rw [dpAll_len hd, List.length_map] at hvl
          omega
        refine ⟨D, D3, ws, zs, rfl, rfl, hs4 _ _ hdw, hd4, ?_, ?_⟩
        · show _ ≤ 2 ^ 24
          omega
        · refine ⟨Same.upd (hs2.trans hs4) hD _, _, _, _, _, rfl, upd_same, ?_⟩
          rw [flatMap_take hr1, List.map_append]
          exact dpAll_app (dpAll_upd (hs4 _ _ hdw) (dpAll_same hs4 hpw)) (dpAll_upd (hs4 _ _ hdw) hpz)
    · rintro σ H2 ⟨hs2, ws, v1, v3, v4, rfl, hdw, hpw⟩
      rw [dpAll_len hd, List.length_map, List.take_length] at hpw
      exact ⟨_, rfl, hs.trans hs2, D, ws, _, _, _, _, rfl, hdw, hpw⟩
  · rintro σ H1 ⟨hs, l, vs, u1, u2, u3, u4, rfl, hlv, hd⟩
    rw [show ((n : Nat) : Int).toNat = n by omega, grow_all] at hd
    exact ⟨_, rfl, k l H1 vs hs hlv hd⟩
theorem SqT.updl {H : Hp} {l a : Addr} {xs ys zs : List V} (hl : H l = some (.lst xs)) (h : SqT K H a zs) : SqT K (L2.upd H l (.lst ys)) a zs := by
  rcases h with (h | ⟨o, h⟩) | h
  · refine .inl (.inl ?_)
    rw [upd_ne (fun z => by rw [z, hl] at h; cases h)]
    exact h
  · refine .inl (.inr ⟨o, ?_⟩)
    rw [upd_ne (fun z => by rw [z, hl] at h; cases h)]
    exact h
  · exact .inr h
theorem dpP_upd {H : Hp} {l : Addr} {xs ys : List V} (hl : H l = some (.lst xs)) : ∀ {vs : List V} {ps : List (Int × List Int)}, DpAll K H vs (ps.map dP) → DpAll K (L2.upd H l (.lst ys)) vs (ps.map dP)
  | _, [], .nil => .nil
  | v :: vs, p :: ps, .cons h r => by
    obtain ⟨q, z, rfl, h1, h2⟩ := IsP.to h
    exact .cons (IsP.of (SqT.updl hl h1) (Wd.upd hl h2)) (dpP_upd hl r)
theorem filter_take {α : Type} {l : List α} {g : α → Bool} {i : Nat} {a : α} (h : l[i]? = some a) : (l.take (i + 1)).filter g = (l.take i).filter g ++ (if g a = true then [a] else []) := by
  rw [take_at h, List.filter_append]
  congr 1
  by_cases e : g a = true
  · rw [if_pos e, List.filter_cons_of_pos e]
    rfl
  · rw [if_neg e, List.filter_cons_of_neg e]
    rfl
theorem filter_takeN {α : Type} {l : List α} {g : α → Bool} {i : Nat} {a : α} (h : l[i]? = some a) (e : g a = true) : (l.take (i + 1)).filter g = (l.take i).filter g ++ [a] := by
  rw [filter_take h, if_pos e]
theorem filter_takeO {α : Type} {l : List α} {g : α → Bool} {i : Nat} {a : α} (h : l[i]? = some a) (e : g a = false) : (l.take (i + 1)).filter g = (l.take i).filter g := by
  rw [filter_take h, if_neg (by rw [e]; decide), List.append_nil]
abbrev s_law_longest : Stmt := top 46
theorem sc_law_longest : FnScope ["_law_row_here", "_law_other", "_law_pieces", "_law_letter", "_law_good", "_law_piece"] ["_law_row_here", "_law_other"] (defScope s_law_longest) := ⟨rfl, rfl, rfl, by decide +kernel, rfl, by decide +kernel, by decide +kernel⟩
theorem ok_law_longest (F : Fun K "_law_longest" "_law_longest" s_law_longest f fd) (B : Bn mg) {f1 f2 : Addr} {fd1 fd2 : FuncData} (k_law_word : Kn P w K mg base CX0 1 "_law_word" ["_law_row_here"] (spLWord K) f1 fd1)
    (k_law_thins : Kn P w K mg base CX0 2 "_law_thins" ["_law_row_here", "_law_out"] (spLThins K) f2 fd2) : FnOk P w K mg base CX0 3 f fd ["_law_row_here", "_law_other"] (spLLongest K) := by
  refine F.ok sc_law_longest (fun vs H Q E h => ?_) (fun cdv A outer s H vs Q E hr h => ?_)
  · obtain ⟨v, u, xs, ys, rfl, _⟩ := h
    rfl
  obtain ⟨v, u, xs, ys, rfl, hv, hu, hne, hl, hl2, k⟩ := h
  refine ⟨_, (pss_cons (ps_set (i := 2) sc_law_longest.nd rfl (Or.inl rfl) (pe_lst (pa_cons (pe_tup pa_nil) pa_nil)))
      (pss_cons (ps_for PassesOwn.never rfl (pi_tup (pk k_law_word hr (by omega) pass0 (pa_cons (pv 0) pa_nil))) (pg_name (i := 3) sc_law_longest.nd rfl (Or.inr rfl))
      (pss_one (ps_set (i := 2) sc_law_longest.nd rfl (Or.inl rfl) (pe_op op_cat (pv 2) (pe_lc (own := [("_law_piece", 5)]) (by rfl) sc_law_longest.nd (pi_list (pv 2)) (blkOk_by (N := ["_law_row_here", "_law_other", "_law_pieces", "_law_letter", "_law_good", "_law_piece"]) (sc := defScope s_law_longest) (by decide +kernel)) (fun _ _ _ _ _ => (pg_name (i := 5) sc_law_longest.nd rfl (Or.inl rfl))) (fun _ _ _ _ _ => (pts_one (PW.pt (pw_or (pt_cmpR op_eq (pe_callB (lenS K) (by rfl) B.len_ PySem.boot_len (pa_cons (pv 5) pa_nil)) pe_int (nomark _)) (pw_or1 (pt_cmpR op_ne (pe_ix (ixT K) (pv 5) (pe_un un_neg pe_int) (fun _ _ => rfl)) (pv 3) (nomark _))))))) (fun _ _ _ _ _ => (pe_op (catA K) (pv 5) (pe_tup (pa_cons (pv 3) pa_nil)))))))))
      (pss_cons (ps_setLc (i := 4) (own := [("_law_piece", 5)]) (by rfl) sc_law_longest.nd rfl rfl (sw_true rfl rfl rfl (by decide +kernel)) (pi_list (pv 2)) (blkOk_by (N := ["_law_row_here", "_law_other", "_law_pieces", "_law_letter", "_law_good", "_law_piece"]) (sc := defScope s_law_longest) (by decide +kernel)) (fun _ _ _ _ _ => (pg_name (i := 5) sc_law_longest.nd rfl (Or.inl rfl))) (fun _ _ _ _ _ => (pts_one (PW.pt (pw_and (pt_cmpR op_gt (pe_callB (lenS K) (by rfl) B.len_ PySem.boot_len (pa_cons (pv 5) pa_nil)) pe_int (nomark _)) (pw_and1 (pt_val (pk k_law_thins hr (by omega) pass0 (pa_cons (pv 1) (pa_cons (pv 5) pa_nil))))))))) (fun _ _ _ _ _ => (pe_tup (pa_cons (pe_un un_neg (pe_callB (lenS K) (by rfl) B.len_ PySem.boot_len (pa_cons (pv 5) pa_nil))) (pa_cons (pv 5) pa_nil)))))
      (pss_one (ps_ret (pe_ifExp (pt_cmpR op_gt (pe_callB call_len_seq (by rfl) B.len_ PySem.boot_len (pa_cons (pv 4) pa_nil)) pe_int (nomark _)) (pe_ix ix_tup (pe_callB (cr_minP rfl hr.units) (by rfl) B.min_ (by decide +kernel) (pa_cons (pv 4) pa_nil)) pe_int (fun _ _ => rfl)) pe_non)))))), ?_⟩
  refine ⟨Nat.zero_le _, fun e0 he0 => ⟨(by show 1 ≤ sizeLine; decide), fun F0 hF0 => ?_⟩⟩
  have s1 := same_new he0 (.tup [])
  have s2 := Same.upd s1 (s1.free hF0) (.lst [.ref e0])
  refine ⟨_, rfl, v, xs, rfl, hv.same s2, hne, by omega, fun p H0 s3 wp => ?_⟩
  obtain ⟨ap, ep, hp⟩ := id wp
  cases ep
  have s03 := s2.trans s3
  have hwl : (wd xs).length ≤ 7 := Nat.le_trans (wd_length xs) hl
  refine ⟨p, rfl, ⟨_, hp⟩, for_tup (K := K) (a := p) (xs := (wd xs).map V.int) (fun i σ H' => Same H0 H' ∧ ∃ (l : Addr) (vs : List V) (u1 u2 u3 : Option V), σ = [some v, some u, some (.ref l), u1, u2, u3] ∧ H' l = some (.lst vs) ∧ DpAll K H' vs ((pieces ((wd xs).take i)).map dW))
    ⟨fun _ _ z => z, F0, [.ref e0], none, none, none, rfl, s3 _ _ upd_same, .cons (Wd.dp (Wd.new (u := []) (s3 _ _ (same_new hF0 _ _ _ upd_same)))) .nil⟩ (fun i σ H' _ hs => Same.seqT hs.1 hp) ?_ ?_⟩
  · rintro i y σ H1 hi ⟨hs, l, vs, u1, u2, u3, rfl, hlv, hd⟩
    obtain ⟨c, hc, rfl⟩ := int_of hi
    have hil := (List.getElem?_eq_some_iff.mp hc).1
    rw [take_at hc, pieces_snoc]
    generalize hps : pieces ((wd xs).take i) = ps at hd
    have hpl : ps.length ≤ 128 := by
      rw [← hps]
      refine Nat.le_trans (pieces_length _) ?_
      rw [List.length_take]
      exact Nat.le_trans (Nat.pow_le_pow_right (by decide) (show min i (wd xs).length ≤ 7 by omega)) (by decide)
    have hvl : vs.length = ps.length := by rw [dpAll_len hd, List.length_map]
    refine ⟨_, rfl, _, rfl, l, rfl, ⟨_, SqL.of hlv⟩, fun D hD => ?_⟩
    refine lc_list (K := K) (a := l) (xs := vs) (fun j H2 => Same H1 H2 ∧ ∃ zs, H2 D = some (.lst zs) ∧ DpAll K H2 zs ((((ps.take j).filter fun p => decide (p.length = 0) || decide (p.getLast? ≠ some c)).map fun p => p ++ [c]).map dW))
      ⟨same_new hD _, [], upd_same, .nil⟩ (fun j H2 _ h2 => SqL.of (h2.1 _ _ hlv)) ?_ ?_
    · rintro j y H2 hj ⟨hs2, zs, hdz, hpz⟩
      obtain ⟨r, hr1, hw0⟩ := dW_get hd hj
      have hwy := hw0.same hs2
      obtain ⟨b, rfl, hb⟩ := id hwy
      have hj' := (List.getElem?_eq_some_iff.mp hr1).1
      have hzl : zs.length ≤ 128 := by
        rw [dpAll_len hpz, List.length_map, List.length_map]
        refine Nat.le_trans (List.length_filter_le _ _) ?_
        rw [List.length_take]
        omega
      have yes : (decide (r.length = 0) || decide (r.getLast? ≠ some c)) = true → tOp (rCatA K) (tVar 5) (tTup (tCons (tVar 3) tNil)) [some v, some u, some (.ref l), some (.int c), u2, some (.ref b)] H2 fun y H4 => ∃ acc, H4 D = some (.lst acc) ∧ acc.length < sizeLine ∧
          (Same H1 (upd H4 D (.lst (acc ++ [y]))) ∧ ∃ zs, upd H4 D (.lst (acc ++ [y])) D = some (.lst zs) ∧ DpAll K (upd H4 D (.lst (acc ++ [y]))) zs ((((ps.take (j + 1)).filter fun p => decide (p.length = 0) || decide (p.getLast? ≠ some c)).map fun p => p ++ [c]).map dW)) := fun e => by
        refine ⟨_, rfl, _, rfl, (by show 1 ≤ sizeLine; decide), fun t ht => ?_⟩
        have st := same_new ht (.tup [.int c])
        have hrl : r.length ≤ 1000 := by
          have hm := (mem_pieces _ r).mp (by rw [hps]; exact List.mem_of_getElem? hr1)
          have := hm.2.length_le
          rw [List.length_take] at this
          omega
        refine catW (u := r) (v := [c]) (hwy.same st) (Wd.new upd_same) (by show _ + 1 ≤ _; omega) fun q H5 s5 w5 => ?_
        have s45 := st.trans s5
        refine ⟨zs, s45 _ _ hdz, small1000 (by omega), Same.upd (hs2.trans s45) hD _, _, upd_same, ?_⟩
        rw [filter_takeN hr1 e, List.map_append, List.map_append]
        exact dpAll_app (dpAll_upd (s45 _ _ hdz) (dpAll_same s45 hpz)) (.cons (Wd.dp (Wd.upd (s45 _ _ hdz) w5)) .nil)
      refine ⟨rfl, ?_⟩
      refine ⟨_, rfl, b, _, rfl, .inr hb, rfl, _, rfl, ?_⟩
      rw [List.length_map]
      refine ite2 (fun e => ?_) (fun e => ?_)
      · refine yes ?_
        have := of_decide_eq_true e
        injection this with this
        rw [show decide (r.length = 0) = true from decide_eq_true (by omega)]
        rfl
      · have hr0 : r.length ≠ 0 := fun z => e (by rw [z]; exact decide_eq_true rfl)
        cases hlast : r.getLast? with
        | none => exact absurd (by rw [List.getLast?_eq_none_iff.mp hlast]; rfl) hr0
        | some z =>
          obtain ⟨q, hq⟩ := List.getLast?_eq_some_iff.mp hlast
          refine ⟨_, rfl, _, rfl, b, _, _, _, rfl, rfl, hb, (by rw [hq, List.map_append]; exact atI_last _ _), _, rfl, rfl, _, rfl, ?_⟩
          refine ite2 (fun e2 => ?_) (fun e2 => ?_)
          · refine yes ?_
            rw [hlast, show decide (some z ≠ some c) = true from decide_eq_true fun e3 => by
              rw [Option.some.inj e3] at e2
              simp at e2]
            exact Bool.or_true _
          · refine ⟨hs2, zs, hdz, ?_⟩
            have : z = c := Classical.byContradiction fun e3 => e2 (by
              rw [Bool.not_eq_true', decide_eq_false_iff_not]
              intro e4
              injection e4 with e4
              exact e3 e4)
            rw [filter_takeO hr1 (by rw [hlast, this, decide_eq_false hr0, show decide (some c ≠ some c) = false from decide_eq_false (fun z => z rfl)]; rfl)]
            exact hpz
    · rintro H2 ⟨hs2, zs, hdz, hpz⟩
      rw [hvl, List.take_length] at hpz
      have hzl : zs.length ≤ 128 := by
        rw [dpAll_len hpz, List.length_map, List.length_map]
        exact Nat.le_trans (List.length_filter_le _ _) hpl
      refine ⟨l, D, vs, zs, rfl, rfl, hs2 _ _ hlv, hdz, ?_, fun p2 hp2 => ?_⟩
      · show _ ≤ 2 ^ 24
        omega
      have s4 := same_new hp2 (.lst (vs ++ zs))
      refine ⟨(hs.trans hs2).trans s4, p2, _, _, _, _, rfl, upd_same, ?_⟩
      unfold pcStep
      rw [List.map_append]
      exact dpAll_app (dpAll_same (hs2.trans s4) hd) (dpAll_same s4 hpz)
  · rintro σ H1 ⟨hs, l, vs, u1, u2, u3, rfl, hlv, hd⟩
    rw [List.length_map, List.take_length] at hd
    have hpl : (pieces (wd xs)).length ≤ 128 := Nat.le_trans (pieces_length _) (Nat.le_trans (Nat.pow_le_pow_right (by decide) hwl) (by decide))
    have hmem : ∀ r ∈ pieces (wd xs), r.length ≤ 7 := fun r hr1 => by
      have := ((mem_pieces _ r).mp hr1).2.length_le
      omega
    have hgood : goodP ys (wd xs) = (pieces (wd xs)).filter fun p => decide (p.length > 0) && thinL ys p := rfl
    generalize hps : pieces (wd xs) = ps at hd hpl hmem hgood
    have hvl : vs.length = ps.length := by rw [dpAll_len hd, List.length_map]
    have h01 := s03.trans hs
    refine ⟨_, rfl, l, rfl, ⟨_, SqL.of hlv⟩, fun D hD => ?_⟩
    refine lc_list (K := K) (a := l) (xs := vs) (fun j H2 => Same H1 H2 ∧ ∃ zs, H2 D = some (.lst zs) ∧ DpAll K H2 zs ((((ps.take j).filter fun p => decide (p.length > 0) && thinL ys p).map fun p => (-(p.length : Int), p)).map dP))
      ⟨same_new hD _, [], upd_same, .nil⟩ (fun j H2 _ h2 => SqL.of (h2.1 _ _ hlv)) ?_ ?_
    · rintro j y H2 hj ⟨hs2, zs, hdz, hpz⟩
      obtain ⟨r, hr1, hw0⟩ := dW_get hd hj
      have hwy := hw0.same hs2
      obtain ⟨b, rfl, hb⟩ := id hwy
      have hj' := (List.getElem?_eq_some_iff.mp hr1).1
      have hrl := hmem r (List.mem_of_getElem? hr1)
      have hzl : zs.length ≤ 128 := by
        rw [dpAll_len hpz, List.length_map, List.length_map]
        refine Nat.le_trans (List.length_filter_le _ _) ?_
        rw [List.length_take]
        omega
      refine ⟨rfl, ?_⟩
      refine ⟨_, rfl, b, _, rfl, .inr hb, _, _, rfl, rfl, _, rfl, ?_⟩
      rw [List.length_map]
      refine ite2 (fun e => ?_) (fun e => ?_)
      · have hr0 : r.length > 0 := by
          have := of_decide_eq_true e
          omega
        refine ⟨_, rfl, _, rfl, u, .ref b, ys, r, rfl, hu.same (h01.trans hs2), hwy, (fun z => by rw [z] at hr0; cases hr0), by omega, fun H3 s3' => ?_⟩
        have hwy3 := hwy.same s3'
        cases hth : thinL ys r with
        | true =>
          refine ⟨_, rfl, iteT ?_⟩
          obtain ⟨_, eb, hb3⟩ := id hwy3
          cases eb
          refine ⟨_, rfl, b, _, rfl, .inr hb3, _, rfl, _, rfl, (by show 2 ≤ sizeLine; decide), fun t ht => ?_⟩
          rw [List.length_map]
          have st := same_new ht (.tup [.int (-(r.length : Int)), .ref b])
          have s4 := s3'.trans st
          refine ⟨zs, s4 _ _ hdz, small1000 (by omega), Same.upd (hs2.trans s4) hD _, _, upd_same, ?_⟩
          rw [filter_takeN hr1 (by rw [hth, decide_eq_true hr0]; rfl), List.map_append, List.map_append]
          exact dpAll_app (dpP_upd (s4 _ _ hdz) (dpAll_same s4 hpz)) (.cons (IsP.of (SqT.updl (s4 _ _ hdz) (SqT.of upd_same)) (Wd.upd (s4 _ _ hdz) (hwy3.same st))) .nil)
        | false =>
          refine ⟨_, rfl, iteF ?_⟩
          refine ⟨hs2.trans s3', zs, s3' _ _ hdz, ?_⟩
          rw [filter_takeO hr1 (by rw [hth, Bool.and_false])]
          exact dpAll_same s3' hpz
      · have hr0 : ¬ r.length > 0 := fun z => e (decide_eq_true (by omega))
        refine iteF ⟨hs2, zs, hdz, ?_⟩
        rw [filter_takeO hr1 (by rw [decide_eq_false hr0, Bool.false_and])]
        exact hpz
    · rintro H2 ⟨hs2, zs, hdz, hpz⟩
      rw [hvl, List.take_length, ← hgood] at hpz
      have h02 := h01.trans hs2
      have hzl : zs.length = (goodP ys (wd xs)).length := by
        rw [dpAll_len hpz, List.length_map, List.length_map]
      refine ⟨_, rfl, D, _, rfl, .inl (SqL.of hdz), _, _, rfl, rfl, _, rfl, ?_⟩
      refine ite2 (fun e => ?_) (fun e => ?_)
      · have hpos : 0 < zs.length := by
          have := of_decide_eq_true e
          omega
        refine ⟨_, rfl, D, zs, _, rfl, SqL.of hdz, hpz, by rw [List.length_map]; omega, fun y m hy hm hp hle => ?_⟩
        obtain ⟨q, z, rfl, hq, hz⟩ := IsP.to hp
        obtain ⟨g, hg, rfl⟩ := List.mem_map.mp hm
        refine ⟨q, _, _, z, rfl, rfl, hq, rfl, k z H2 (some g) h02 (longest_law hg fun p hp => hle _ (List.mem_map.mpr ⟨p, hp, rfl⟩)) hz⟩
      · have hnil : goodP ys (wd xs) = [] := List.length_eq_zero_iff.mp (by
          have : ¬ (0 : Int) < (zs.length : Int) := fun z => e (decide_eq_true z)
          omega)
        exact k .non H2 none h02 (longest_law_none hnil) rfl
end
end Fl
end

section
set_option Elab.async false
set_option linter.all false
set_option maxRecDepth 100000
set_option maxHeartbeats 4000000
/-! Own rules, part 6: the display {(i, j): e}. -/
namespace Fl
open PySem PySem.Spec PyProof.Rows L2
def tDisp1T (tk tv : TE) : TE := fun σ H Q => ∀ p, H p = none → tk σ (upd H p (.dT [])) fun x H1 => tv σ H1 fun y H2 => ∃ (ks : List Key) (b : Addr), H2 p = some (.dT []) ∧ x = .ref b ∧ H2 b = some (.tup (ks.map kV)) ∧
  Q (.ref p) (upd H2 p (.dT [(ks, y)]))
theorem pe_disp1T {X : Cx} {k v : Expr} {pos : Pos} {tk tv : TE} (hu : X.A.units + 1 < cLine) (hk : PE X k tk) (hv : PE X v tv) : PE X (.Dict [some k] [v] pos) (tDisp1T tk tv) := by
  refine ⟨fun pins s σ H Q I q => ?_⟩
  have hn := I.hok.fresh (Nat.le_refl s.heap.objs.size)
  have I1 := I.laid (a := s.heap.objs.size) (o := .dT []) (h' := s.heap.push { cls := .type "dict", data := .dict #[] }) (t' := s.toks) (fun _ _ q => Heap.get?_push_of_some _ q) (Nat.le_refl _) (dt_empty s.heap I.big)
  have hl : (pairTrees [some k] [v] X.env pos).length = 1 := pairTrees_length _ _ _ _ rfl rfl
  rw [arm_eval_Dict, zip_pairTrees [some k] [v] X.env pos rfl rfl, dictDisplay_pairs (pairTrees [some k] [v] X.env pos) (fun z => by rw [z] at hl; cases hl) (by rw [hl]; decide)]
  refine wpAny_bind (wpAny_standAt (wpAny_bind (wpAny_subDictH (knd := tupleKind (mixKind X.prog X.w)) (Q := fun d s' => wpAny (model X.prog X.w) X.A (pure (Value.ref d)) _ X.xe s') (show X.A.units < cLine by omega) (by rw [hl]; decide) ?_)))
  refine pairTrees_cons_walk (thn (hk.run pins _ σ _ _ I1 (q _ hn)) fun u s1 ⟨x, H1, I2, rx, q1⟩ => thn (hv.run pins s1 σ H1 _ I2 q1) fun w2 s2 ⟨y, H2, I3, ry, ks, b, ed, ex, eb, q2⟩ => pairTrees_nil_walk ?_)
  subst ex
  obtain rfl : u = Value.ref b := rx
  obtain ⟨z, hd, xs, rel, dd⟩ := dt_of I3.hok ed
  cases rel
  refine ⟨[(ks, b, w2)], ⟨rfl, rfl, key_of I3.hok eb, True.intro⟩, dd, fun h' tk dd' hs => wpAny_pure ⟨.ref s.heap.objs.size, _, ?_, rfl, q2⟩⟩
  obtain ⟨qo, es, ep, hq, h2, h3, h4, _, h5⟩ := dd'
  refine d_write I3 (by rw [ed]; exact True.intro) hs ⟨qo, hq⟩ ⟨by show 1 ≤ sizeLine; decide, hd, _, ((KT.put (kvs := []) (xs := []) .nil ks eb ry)).keeps fun c ys ec => ?_, qo, es, ep, hq, h2, h3, h4, h5⟩
  rw [upd_ne (ne_of ec ed (fun z => nomatch z))]
  exact ec
end Fl
end

section
set_option Elab.async false
set_option linter.all false
set_option maxRecDepth 100000
set_option maxHeartbeats 4000000
/-! The law's own: keep, shortest. -/
namespace Fl
open PySem PySem.Spec PyProof.Rows L2
/-! ### words as data for the checks of equality -/
theorem lay_ints : ∀ u : List Int, PyData.canLayAll0 (u.map PyData.int) = true
  | [] => by simp [PyData.canLayAll0]
  | x :: u => by simp [PyData.canLayAll0, PyData.canLay0, lay_ints u]
theorem lay_dW (u : List Int) : (dW u).canLay0 = true := by
  unfold dW
  simp [PyData.canLay0, lay_ints u]
theorem lay_dWs : ∀ us : List (List Int), PyData.canLayAll0 (us.map dW) = true
  | [] => by simp [PyData.canLayAll0]
  | u :: us => by simp [PyData.canLayAll0, lay_dW u, lay_dWs us]
theorem depth_dWs : ∀ us : List (List Int), PyData.depthAll (us.map dW) ≤ 1
  | [] => by simp [PyData.depthAll]
  | u :: us => by
    have h1 := depth_dWs us
    have h2 := depth_dW u
    simp only [List.map_cons, PyData.depthAll]
    omega
theorem shaped_dW (u : List Int) : SeqAt.shaped (dW u) = true := by
  show ((dW u).canLay0 && decide ((dW u).depth ≤ 64)) = true
  rw [Bool.and_eq_true]
  exact ⟨lay_dW u, decide_eq_true (by rw [depth_dW]; decide)⟩
theorem shaped_dWs (us : List (List Int)) : SeqAt.shaped (.list (us.map dW)) = true := by
  have h1 := depth_dWs us
  show (PyData.canLay0 (.list (us.map dW)) && decide (PyData.depth (.list (us.map dW)) ≤ 64)) = true
  rw [Bool.and_eq_true]
  refine ⟨by simp only [PyData.canLay0]; exact lay_dWs us, decide_eq_true ?_⟩
  simp only [PyData.depth]
  omega
theorem eqv_dWs : ∀ us vs : List (List Int), PyData.eqvAll (us.map dW) (vs.map dW) = decide (us = vs)
  | [], [] => by rw [List.map_nil, PyData.eqvAll]; rfl
  | [], v :: vs => by rw [List.map_nil, List.map_cons, PyData.eqvAll]; simp
  | u :: us, [] => by rw [List.map_nil, List.map_cons, PyData.eqvAll]; simp
  | u :: us, v :: vs => by
    rw [List.map_cons, List.map_cons, PyData.eqvAll, eqv_dWs us vs, eqv_dW]
    by_cases e : u = v <;> by_cases e2 : us = vs <;> simp [e, e2]
theorem any_dW (us : List (List Int)) (u : List Int) : ((us.map dW).any fun z => PyData.eqv z (dW u)) = decide (u ∈ us) := by
  rw [List.any_map]
  by_cases h : u ∈ us
  · rw [decide_eq_true h, List.any_eq_true]
    exact ⟨u, h, by show PyData.eqv (dW u) (dW u) = true; rw [eqv_dW]; exact decide_eq_true rfl⟩
  · rw [decide_eq_false h, List.any_eq_false]
    intro v hv z
    have z : PyData.eqv (dW v) (dW u) = true := z
    rw [eqv_dW] at z
    exact h (of_decide_eq_true z ▸ hv)
/-! ### the dict of lists -/
theorem keys_put {kvs : List (List Key × V)} {k : List Key} {v : V} : (putK kvs k v).map (·.1) = kvs.map (·.1) ∨ (k ∉ kvs.map (·.1) ∧ (putK kvs k v).map (·.1) = kvs.map (·.1) ++ [k]) := by
  unfold putK
  by_cases h : (kvs.any fun kv => decide (kv.1 = k)) = true
  · left
    rw [if_pos h, List.map_map]
    refine List.map_congr_left fun p _ => ?_
    show (if p.1 = k then (p.1, v) else p).1 = p.1
    by_cases c : p.1 = k
    · rw [if_pos c]
    · rw [if_neg c]
  · right
    refine ⟨fun z => h ?_, ?_⟩
    · rw [List.any_eq_true]
      obtain ⟨p, hp, rfl⟩ := List.mem_map.mp z
      exact ⟨p, hp, decide_eq_true rfl⟩
    · rw [if_neg h, List.map_append]
      rfl
structure TabF (K : PySem.W.Frag) (H : Hp) (d : Addr) (kvs : List (List Key × V)) (F : FF) : Prop where
  at_ : H d = some (.dT kvs)
  nd : (kvs.map (·.1)).Nodup
  kb : ∀ k ∈ kvs.map (·.1), ∃ i j : Nat, k = kp i j ∧ i < 7 ∧ j < 7
  no : ∀ i j, valV kvs (kp i j) = none → F i j = []
  get : ∀ i j v, valV kvs (kp i j) = some v → ∃ l vs, v = .ref l ∧ H l = some (.lst vs) ∧ DpAll K H vs ((F i j).map dW)
theorem TabF.len {K : PySem.W.Frag} {H : Hp} {d : Addr} {kvs : List (List Key × V)} {F : FF} (t : TabF K H d kvs F) : kvs.length ≤ 49 := by
  have h := nodup_le (m := (List.range 7).flatMap fun i => (List.range 7).map fun j => kp i j) t.nd fun k hk => by
    obtain ⟨i, j, rfl, hi, hj⟩ := t.kb k hk
    exact List.mem_flatMap.mpr ⟨i, List.mem_range.mpr hi, List.mem_map.mpr ⟨j, List.mem_range.mpr hj, rfl⟩⟩
  rw [List.length_map] at h
  exact Nat.le_trans h (by decide)
theorem dpd {K : PySem.W.Frag} {H H' : Hp} {d : Addr} {kvs : List (List Key × V)} (hd : H d = some (.dT kvs)) (e : SameB d H H') : ∀ {vs : List V} {us : List (List Int)}, DpAll K H vs (us.map dW) → DpAll K H' vs (us.map dW)
  | _, [], .nil => .nil
  | v :: vs, u :: us, hh => by
    cases hh with
    | cons h r => exact .cons (Wd.dp (dT_seq hd e (Wd.of h))) (dpd hd e r)
theorem TabF.same {K : PySem.W.Frag} {H H' : Hp} {d : Addr} {kvs : List (List Key × V)} {F : FF} (e : Same H H') (t : TabF K H d kvs F) : TabF K H' d kvs F :=
  ⟨e _ _ t.at_, t.nd, t.kb, t.no, fun i j v h => let ⟨l, vs, h1, h2, h3⟩ := t.get i j v h; ⟨l, vs, h1, e _ _ h2, dpAll_same e h3⟩⟩
/-- a list is put in -/
theorem TabF.put {K : PySem.W.Frag} {H : Hp} {d : Addr} {kvs : List (List Key × V)} {F : FF} (t : TabF K H d kvs F) {i j : Nat} (hi : i < 7) (hj : j < 7) {l : Addr} {vs : List V} {us : List (List Int)} (hl : H l = some (.lst vs)) (hd : DpAll K H vs (us.map dW)) :
    TabF K (upd H d (.dT (putK kvs (kp i j) (.ref l)))) d (putK kvs (kp i j) (.ref l)) (fun x y => if x = i ∧ y = j then us else F x y) := by
  have e : SameB d H (upd H d (.dT (putK kvs (kp i j) (.ref l)))) := fun b o n q => by
    rw [upd_ne n]
    exact q
  have nl : ∀ {b : Addr} {ws : List V}, H b = some (.lst ws) → b ≠ d := fun {b ws} h z => by
    rw [z, t.at_] at h
    cases h
  refine ⟨upd_same, ?_, fun k hk => ?_, fun x y h => ?_, fun x y v h => ?_⟩
  · rcases keys_put (kvs := kvs) (k := kp i j) (v := .ref l) with c | ⟨c, c2⟩
    · rw [c]
      exact t.nd
    · rw [c2]
      exact nodup_snoc t.nd c
  · rcases keys_put (kvs := kvs) (k := kp i j) (v := .ref l) with c | ⟨c, c2⟩
    · rw [c] at hk
      exact t.kb k hk
    · rw [c2] at hk
      rcases List.mem_append.mp hk with hk | hk
      · exact t.kb k hk
      · exact ⟨i, j, List.mem_singleton.mp hk, hi, hj⟩
  · rw [valV_put] at h
    by_cases c : x = i ∧ y = j
    · rw [if_pos (kp_inj.mpr c)] at h
      cases h
    · rw [if_neg (fun z => c (kp_inj.mp z))] at h
      rw [if_neg c]
      exact t.no x y h
  · rw [valV_put] at h
    by_cases c : x = i ∧ y = j
    · rw [if_pos (kp_inj.mpr c)] at h
      cases h
      rw [if_pos c]
      exact ⟨l, vs, rfl, e _ _ (nl hl) hl, dpd t.at_ e hd⟩
    · rw [if_neg (fun z => c (kp_inj.mp z))] at h
      rw [if_neg c]
      obtain ⟨l', vs', h1, h2, h3⟩ := t.get x y v h
      exact ⟨l', vs', h1, e _ _ (nl h2) h2, dpd t.at_ e h3⟩
theorem TabF.imp {K : PySem.W.Frag} {H : Hp} {d : Addr} {kvs : List (List Key × V)} {F G : FF} (t : TabF K H d kvs F) (h : F = G) : TabF K H d kvs G := h ▸ t
def spLKeep (K : PySem.W.Frag) : Sp := fun vs H Q _ => ∃ (d kb : Addr) (m : V) (u : List Int) (i j : Nat) (kvs : List (List Key × V)) (F : FF), vs = [.ref d, .ref kb, m] ∧ H kb = some (.tup [.int i, .int j]) ∧ Wd K H m u ∧ TabF K H d kvs F ∧ i < 7 ∧ j < 7 ∧ (F i j).length ≤ 1000000 ∧
  ∀ H' kvs', SameB d H H' → TabF K H' d kvs' (keepF F i j u) → Q .non H'
section
variable {P : Program} {w : World} {K : PySem.W.Frag} {mg : Str → Option Value} {base : Heap} {f : Addr} {fd : FuncData}
abbrev s_law_keep : Stmt := top 48
theorem sc_law_keep : FnScope ["_law_found", "_law_key", "_law_made", "_law_known"] ["_law_found", "_law_key", "_law_made"] (defScope s_law_keep) := ⟨rfl, rfl, rfl, by decide +kernel, rfl, by decide +kernel, by decide +kernel⟩
theorem ok_law_keep (F : Fun K "_law_keep" "_law_keep" s_law_keep f fd) (B : Bn mg) : FnOk P w K mg base CX0 1 f fd ["_law_found", "_law_key", "_law_made"] (spLKeep K) := by
  refine F.ok sc_law_keep (fun vs H Q E h => ?_) (fun cdv A outer s H vs Q E hr h => ?_)
  · obtain ⟨d, kb, m, u, i, j, kvs, F', rfl, _⟩ := h
    rfl
  obtain ⟨d, kb, m, u, i, j, kvs, F', rfl, hkb, hm, t, hi, hj, hb, k⟩ := h
  have hu := hu_of hr
  have hu65 : (A.deeper (envOfC "_law_keep" (defScope s_law_keep) s.heap.objs.size f cdv)).units + 65 < cLine := by
    have := hr.un
    omega
  refine ⟨_, (pss_cons (ps_set (i := 3) sc_law_keep.nd rfl (Or.inl rfl) (pe_dget2 hu (pv 0) (pv 1) (pe_lst pa_nil) ⟨rfl, rfl, rfl, rfl⟩))
      (pss_one (ps_if (pt_cmpR (op_notInD hu65) (pv 2) (pv 3) (by rfl)) (pss_one (ps_dput hu (pv 0) (pv 1) (pe_op op_cat (pv 3) (pe_lst (pa_cons (pv 2) pa_nil))) rfl)) pss_nil))), ?_⟩
  refine ⟨_, rfl, d, rfl, .inr ⟨_, .inl t.at_⟩, _, rfl, Nat.zero_le _, fun l0 hl0 => ?_⟩
  have s1 := same_new hl0 (.lst [])
  have t1 := t.same s1
  have g1 := DGet.t (k := kp i j) t1.at_ (s1 _ _ hkb)
  have hm1 := hm.same s1
  refine ⟨_, g1, ?_⟩
  obtain ⟨l, vs, el, hl, hd⟩ : ∃ l vs, ((valV kvs (kp i j)).getD (.ref l0)) = .ref l ∧ (upd H l0 (.lst [])) l = some (.lst vs) ∧ DpAll K (upd H l0 (.lst [])) vs ((F' i j).map dW) := by
    cases e : valV kvs (kp i j) with
    | none =>
      rw [t.no i j e]
      exact ⟨l0, [], rfl, upd_same, .nil⟩
    | some v =>
      obtain ⟨l, vs, rfl, h2, h3⟩ := t1.get i j v e
      exact ⟨l, vs, rfl, h2, h3⟩
  rw [el]
  refine ⟨_, rfl, _, rfl, dW u, _, hm1.dp, .lst (SqL.of hl) hd, shaped_dW u, shaped_dWs _, _, rfl, ?_⟩
  rw [any_dW]
  by_cases hu' : u ∈ F' i j
  · rw [decide_eq_true hu']
    refine iteF ?_
    refine k _ kvs (fun b o _ q => s1 _ _ q) (t1.imp ?_)
    funext x y
    unfold keepF
    by_cases c : x = i ∧ y = j
    · rw [if_pos c, if_pos hu', c.1, c.2]
    · rw [if_neg c]
  · rw [decide_eq_false hu']
    refine iteT ?_
    have hvl : vs.length ≤ 1000000 := by
      rw [dpAll_len hd, List.length_map]
      exact hb
    generalize upd H l0 (.lst []) = H1 at s1 t1 g1 hm1 hl hd
    refine ⟨_, rfl, _, rfl, (by show 1 ≤ sizeLine; decide), fun l1 hl1 => ?_⟩
    have s2 := same_new hl1 (.lst [m])
    refine ⟨l, l1, vs, [m], rfl, rfl, s2 _ _ hl, upd_same, ?_, fun l2 hl2 => ?_⟩
    · show _ ≤ 2 ^ 24
      have : vs.length + [m].length = vs.length + 1 := rfl
      omega
    have s3 := same_new hl2 (.lst (vs ++ [m]))
    have s23 := s2.trans s3
    have t3 := t1.same s23
    have hd3 : DpAll K (L2.upd (L2.upd H1 l1 (.lst [m])) l2 (.lst (vs ++ [m]))) (vs ++ [m]) ((F' i j ++ [u]).map dW) := by
      rw [List.map_append]
      exact dpAll_app (dpAll_same s23 hd) (.cons (dp_same s23 hm1.dp) .nil)
    have tp := t3.put hi hj (l := l2) (us := F' i j ++ [u]) upd_same hd3
    refine ⟨_, rfl, _, rfl, d, _, rfl, DPut.t (k := kp i j) t3.at_ (s23 _ _ (s1 _ _ hkb)) ?_, ?_⟩
    · have := t.len
      exact small1000 (by omega)
    · refine k _ _ (fun b o n q => ?_) (tp.imp ?_)
      · rw [upd_ne n]
        exact s23 _ _ (s1 _ _ q)
      · funext x y
        unfold keepF
        by_cases c : x = i ∧ y = j
        · rw [if_pos c, if_pos c, if_neg hu']
        · rw [if_neg c, if_neg c]
def spLShortest (K : PySem.W.Frag) : Sp := fun vs H Q _ => ∃ (v u : V) (xs ys : List Int), vs = [v, u] ∧ Wd K H v xs ∧ Wd K H u ys ∧ xs ≠ [] ∧ ys ≠ [] ∧ xs.length ≤ 5 ∧ ys.length ≤ 4 ∧ (∀ c ∈ xs, c ∈ letters) ∧ (∀ c ∈ ys, c ∈ letters) ∧
  ∀ r H', Same H H' → Wd K H' r (sb (wd xs) (wd ys)) → Q r H'
abbrev s_law_shortest : Stmt := top 47
theorem sc_law_shortest : FnScope ["_law_row_here", "_law_other", "_law_one", "_law_two", "_law_found", "_law_k", "_law_at", "_law_there", "_law_made"] ["_law_row_here", "_law_other"] (defScope s_law_shortest) := ⟨rfl, rfl, rfl, by decide +kernel, rfl, by decide +kernel, by decide +kernel⟩
theorem ok_law_shortest (F : Fun K "_law_shortest" "_law_shortest" s_law_shortest f fd) (B : Bn mg) {f1 f2 : Addr} {fd1 fd2 : FuncData} (k_law_word : Kn P w K mg base CX0 1 "_law_word" ["_law_row_here"] (spLWord K) f1 fd1)
    (k_law_keep : Kn P w K mg base CX0 1 "_law_keep" ["_law_found", "_law_key", "_law_made"] (spLKeep K) f2 fd2) : FnOk P w K mg base CX0 2 f fd ["_law_row_here", "_law_other"] (spLShortest K) := by
  refine F.ok sc_law_shortest (fun vs H Q E h => ?_) (fun cdv A outer s H vs Q E hr h => ?_)
  · obtain ⟨v, u, xs, ys, rfl, _⟩ := h
    rfl
  obtain ⟨v, u, xs, ys, rfl, hv, hu', hne1, hne2, hl1, hl2, hc1, hc2, k⟩ := h
  have hu := hu_of hr
  refine ⟨_, (pss_cons (ps_par (i := 2) (j := 3) (by rfl) sc_law_shortest.nd rfl rfl (by decide) rfl rfl (pa_cons (pk k_law_word hr (by omega) pass0 (pa_cons (pv 0) pa_nil)) (pa_cons (pk k_law_word hr (by omega) pass0 (pa_cons (pv 1) pa_nil)) pa_nil)) (by rfl))
      (pss_cons (ps_set (i := 4) sc_law_shortest.nd rfl (Or.inl rfl) (pe_disp1T hu (pe_tup (pa_cons pe_int (pa_cons pe_int pa_nil))) (pe_lst (pa_cons (pe_tup pa_nil) pa_nil))))
      (pss_cons (ps_for PassesOwn.never rfl (pi_range1 (by rfl) B.range_ (pa_cons (pe_op op_add (pe_callB call_len_seq (by rfl) B.len_ PySem.boot_len (pa_cons (pv 2) pa_nil)) (pe_callB call_len_seq (by rfl) B.len_ PySem.boot_len (pa_cons (pv 3) pa_nil))) pa_nil)) (pg_name (i := 5) sc_law_shortest.nd rfl (Or.inl rfl))
      (pss_one (ps_for PassesOwn.never rfl (pi_range1 (by rfl) B.range_ (pa_cons (pe_op op_add (pe_callB (call_min2 rfl) (by rfl) B.min_ (by decide +kernel) (pa_cons (pv 5) (pa_cons (pe_callB call_len_seq (by rfl) B.len_ PySem.boot_len (pa_cons (pv 2) pa_nil)) pa_nil))) pe_int) pa_nil)) (pg_name (i := 6) sc_law_shortest.nd rfl (Or.inl rfl))
      (pss_cons (ps_set (i := 7) sc_law_shortest.nd rfl (Or.inl rfl) (pe_op op_sub (pv 5) (pv 6)))
      (pss_one (ps_for PassesOwn.never rfl (pi_list (pe_dget2 hu (pv 4) (pe_tup (pa_cons (pv 6) (pa_cons (pv 7) pa_nil))) (pe_lst pa_nil) ⟨rfl, rfl, rfl, rfl⟩)) (pg_name (i := 8) sc_law_shortest.nd rfl (Or.inl rfl))
      (pss_cons (ps_if (PW.pt (pw_and (pt_cmpR op_lt (pv 6) (pe_callB call_len_seq (by rfl) B.len_ PySem.boot_len (pa_cons (pv 2) pa_nil)) (nomark _)) (pw_and (pt_cmpR op_lt (pv 7) (pe_callB call_len_seq (by rfl) B.len_ PySem.boot_len (pa_cons (pv 3) pa_nil)) (nomark _)) (pw_and1 (pt_cmpR op_eq (pe_ix ix_tup (pv 2) (pv 6) (fun _ _ => rfl)) (pe_ix ix_tup (pv 3) (pv 7) (fun _ _ => rfl)) (nomark _)))))) (pss_one (ps_expr (pk k_law_keep hr (by omega) pass0 (pa_cons (pv 4) (pa_cons (pe_tup (pa_cons (pe_op op_add (pv 6) pe_int) (pa_cons (pe_op op_add (pv 7) pe_int) pa_nil))) (pa_cons (pe_op op_catA (pv 8) (pe_tup (pa_cons (pe_ix ix_tup (pv 2) (pv 6) (fun _ _ => rfl)) pa_nil))) pa_nil)))))) pss_nil)
      (pss_cons (ps_if (pt_cmpR op_lt (pv 6) (pe_callB call_len_seq (by rfl) B.len_ PySem.boot_len (pa_cons (pv 2) pa_nil)) (nomark _)) (pss_one (ps_expr (pk k_law_keep hr (by omega) pass0 (pa_cons (pv 4) (pa_cons (pe_tup (pa_cons (pe_op op_add (pv 6) pe_int) (pa_cons (pv 7) pa_nil))) (pa_cons (pe_op op_catA (pv 8) (pe_tup (pa_cons (pe_ix ix_tup (pv 2) (pv 6) (fun _ _ => rfl)) pa_nil))) pa_nil)))))) pss_nil)
      (pss_one (ps_if (pt_cmpR op_lt (pv 7) (pe_callB call_len_seq (by rfl) B.len_ PySem.boot_len (pa_cons (pv 3) pa_nil)) (nomark _)) (pss_one (ps_expr (pk k_law_keep hr (by omega) pass0 (pa_cons (pv 4) (pa_cons (pe_tup (pa_cons (pv 6) (pa_cons (pe_op op_add (pv 7) pe_int) pa_nil))) (pa_cons (pe_op op_catA (pv 8) (pe_tup (pa_cons (pe_ix ix_tup (pv 3) (pv 7) (fun _ _ => rfl)) pa_nil))) pa_nil)))))) pss_nil))))))))))
      (pss_one (ps_ret (pe_ix ix_tup (pe_callB (cr_minP rfl hr.units) (by rfl) B.min_ (by decide +kernel) (pa_cons (pe_lc (own := [("_law_made", 8)]) (by rfl) sc_law_shortest.nd (pi_list (pe_dget hu (pv 4) (pe_tup (pa_cons (pe_callB call_len_seq (by rfl) B.len_ PySem.boot_len (pa_cons (pv 2) pa_nil)) (pa_cons (pe_callB call_len_seq (by rfl) B.len_ PySem.boot_len (pa_cons (pv 3) pa_nil)) pa_nil))) (fun _ _ => rfl))) (blkOk_by (N := ["_law_row_here", "_law_other", "_law_one", "_law_two", "_law_found", "_law_k", "_law_at", "_law_there", "_law_made"]) (sc := defScope s_law_shortest) (by decide +kernel)) (fun _ _ _ _ _ => (pg_name (i := 8) sc_law_shortest.nd rfl (Or.inl rfl))) (fun _ _ _ _ _ => pts_nil) (fun _ _ _ _ _ => (pe_tup (pa_cons (pe_callB (lenS K) (by rfl) B.len_ PySem.boot_len (pa_cons (pv 8) pa_nil)) (pa_cons (pv 8) pa_nil))))) pa_nil)) pe_int (fun _ _ => rfl))))))), ?_⟩
  refine ⟨_, rfl, v, xs, rfl, hv, hne1, by omega, fun p1 H1 s1 w1 => ?_⟩
  refine ⟨_, rfl, u, ys, rfl, hu'.same s1, hne2, by omega, fun p2 H2 s2 w2 => ?_⟩
  obtain ⟨A1, e1, q1⟩ := id w1
  cases e1
  obtain ⟨A2, e2, q2⟩ := id w2
  cases e2
  have hlet1 : ∀ c ∈ wd xs, c ∈ letters := fun c h => hc1 c (wd_mem.mp h)
  have hlet2 : ∀ c ∈ wd ys, c ∈ letters := fun c h => hc2 c (wd_mem.mp h)
  have hw1 : (wd xs).length ≤ 5 := Nat.le_trans (wd_length xs) hl1
  have hw2 : (wd ys).length ≤ 4 := Nat.le_trans (wd_length ys) hl2
  generalize hone : wd xs = one at *
  generalize htwo : wd ys = two at *
  have el1 : (one.map V.int).length = one.length := List.length_map ..
  have el2 : (two.map V.int).length = two.length := List.length_map ..
  have few : ∀ F, GoodF one two F → ∀ i j, (F i j).length ≤ 2 * 4 ^ 9 := fun F g i j =>
    Nat.le_trans (g.few hlet1 hlet2 i j) (Nat.mul_le_mul_left 2 (Nat.pow_le_pow_right (by decide) (by omega)))
  refine ⟨_, _, rfl, ?_⟩
  refine fun d hd => ?_
  have sd := same_new hd (.dT [])
  refine ⟨(by show 2 ≤ sizeLine; decide), fun b0 hb0 => ?_⟩
  have sb0 := same_new hb0 (.tup [.int 0, .int 0])
  refine ⟨Nat.zero_le _, fun e0 he0 => ?_⟩
  have se0 := same_new he0 (.tup [])
  refine ⟨(by show 1 ≤ sizeLine; decide), fun l0 hl0 => ?_⟩
  have sl0 := same_new hl0 (.lst [.ref e0])
  have s03 := sd.trans (sb0.trans (se0.trans sl0))
  refine ⟨kp 0 0, b0, sl0 _ _ (se0 _ _ (sb0 _ _ upd_same)), rfl, sl0 _ _ (se0 _ _ upd_same), ?_⟩
  generalize hH1 : upd (upd (upd (upd (upd H2 d (.dT [])) b0 (.tup [.int 0, .int 0])) e0 (.tup [])) l0 (.lst [.ref e0])) d (.dT [(kp 0 0, .ref l0)]) = H1
  have s0 : Same H2 H1 := by
    rw [← hH1]
    exact Same.upd s03 hd _
  have hl0' : H1 l0 = some (.lst [.ref e0]) := by
    rw [← hH1, upd_ne (fun z => by rw [z] at hl0; rw [se0 _ _ (sb0 _ _ upd_same)] at hl0; cases hl0)]
    exact upd_same
  have he0' : H1 e0 = some (.tup []) := by
    rw [← hH1, upd_ne (fun z => by rw [z] at he0; rw [sb0 _ _ upd_same] at he0; cases he0)]
    exact sl0 _ _ upd_same
  have hd1 : H1 d = some (.dT [(kp 0 0, .ref l0)]) := by
    rw [← hH1]
    exact upd_same
  have tab0 : TabF K H1 d [(kp 0 0, .ref l0)] F0 := by
    have ev : ∀ i j, valV [(kp 0 0, V.ref l0)] (kp i j) = if 0 = i ∧ 0 = j then some (.ref l0) else none := fun i j => by
      by_cases c : 0 = i ∧ 0 = j
      · rw [if_pos c, ← c.1, ← c.2]
        rfl
      · rw [if_neg c]
        exact valV_neg (p := (kp 0 0, V.ref l0)) (fun z => c (kp_inj.mp z))
    refine ⟨hd1, List.nodup_cons.mpr ⟨fun z => (by cases z), List.nodup_nil⟩, fun k hk => ⟨0, 0, List.mem_singleton.mp hk, by omega, by omega⟩, fun i j h => ?_, fun i j v h => ?_⟩
    · rw [ev] at h
      show (if i = 0 ∧ j = 0 then [[]] else []) = []
      by_cases c : 0 = i ∧ 0 = j
      · rw [if_pos c] at h
        cases h
      · rw [if_neg (fun z => c ⟨z.1.symm, z.2.symm⟩)]
    · rw [ev] at h
      show ∃ l vs, v = .ref l ∧ H1 l = some (.lst vs) ∧ DpAll K H1 vs ((if i = 0 ∧ j = 0 then [[]] else []).map dW)
      by_cases c : 0 = i ∧ 0 = j
      · rw [if_pos c] at h
        cases h
        rw [if_pos ⟨c.1.symm, c.2.symm⟩]
        exact ⟨l0, _, rfl, hl0', .cons (Wd.dp (Wd.new (u := []) he0')) .nil⟩
      · rw [if_neg c] at h
        cases h
  have toB : ∀ {H3 : Hp}, SameB d H1 H3 → Same H2 H3 := fun {H3} e b o q => e b o (fun z => by rw [z, hd] at q; cases q) (s0 _ _ q)
  have t1w : ∀ H3 : Hp, SameB d H1 H3 → SqT K H3 p1 (one.map V.int) := fun H3 e => Same.seqT (toB e) (Same.seqT s2 q1)
  have t2w : ∀ H3 : Hp, SameB d H1 H3 → SqT K H3 p2 (two.map V.int) := fun H3 e => Same.seqT (toB e) q2
  have refl1 : SameB d H1 H1 := fun _ _ _ q => q
  refine ⟨_, rfl, p1, _, rfl, .inr (t1w _ refl1), _, rfl, p2, _, rfl, .inr (t2w _ refl1), _, _, rfl, rfl, _, rfl, by rw [el1, el2]; omega, by rw [el1, el2]; omega, for_range (lo := 0) (n := (((one.map V.int).length : Int) + ((two.map V.int).length : Int)).toNat) (fun n σ H' => SameB d H1 H' ∧ ∃ (kvs : List (List Key × V)) (u1 u2 u3 u4 : Option V), σ = [some v, some u, some (.ref p1), some (.ref p2), some (.ref d), u1, u2, u3, u4] ∧ TabF K H' d kvs (procA one two n))
    ⟨refl1, _, none, none, none, none, rfl, tab0⟩ ?_ ?_⟩
  · rintro n σ H3 hn ⟨sb3, kvs, u1, u2, u3, u4, rfl, t3⟩
    rw [el1, el2] at hn
    have gA := (procA_ok one two n).1
    rw [procA_succ]
    generalize procA one two n = FA at t3 gA
    have e0 : (0 : Int) + n = n := by omega
    rw [e0]
    have emin : (if ((one.map V.int).length : Int) < (n : Int) then ((one.map V.int).length : Int) else (n : Int)) = ((min n one.length : Nat) : Int) := by
      rw [el1]
      by_cases c : (one.length : Int) < (n : Int)
      · rw [if_pos c, Nat.min_eq_right (by omega)]
      · rw [if_neg c, Nat.min_eq_left (by omega)]
    refine ⟨_, rfl, _, rfl, p1, _, rfl, .inr (t1w _ sb3), _, _, rfl, ?_⟩
    rw [emin]
    refine ⟨_, _, rfl, rfl, _, rfl, by omega, by omega, for_range (lo := 0) (n := (((min n one.length : Nat) : Int) + 1).toNat) (fun a σ H' => SameB d H1 H' ∧ ∃ (kvs : List (List Key × V)) (u2 u3 u4 : Option V), σ = [some v, some u, some (.ref p1), some (.ref p2), some (.ref d), some (.int n), u2, u3, u4] ∧ TabF K H' d kvs ((List.range a).foldl (fun F a => procP one two F a (n - a)) FA))
      ⟨sb3, kvs, u2, u3, u4, rfl, t3⟩ ?_ ?_⟩
    · rintro i σ H4 hi ⟨sb4, kvs4, u2, u3, u4, rfl, t4⟩
      have hin : i ≤ n := by omega
      have hi5 : i ≤ one.length := by omega
      have gP := (procPs_ok (List.range i) FA (k := n) (fun a h => by have := List.mem_range.mp h; omega) gA).1
      rw [show List.range (i + 1) = List.range i ++ [i] from List.range_succ, List.foldl_append]
      show _
      generalize (List.range i).foldl (fun F a => procP one two F a (n - a)) FA = F at t4 gP
      have e0 : (0 : Int) + i = i := by omega
      rw [e0]
      have ej : ((n : Int) - (i : Int)) = ((n - i : Nat) : Int) := by omega
      refine ⟨_, rfl, _, rfl, _, _, rfl, rfl, ?_⟩
      show gName 7 (V.int ((n : Int) - (i : Int))) _ _ _
      rw [ej]
      generalize hj : n - i = j
      refine ⟨_, rfl, d, rfl, .inr ⟨_, .inl t4.at_⟩, _, rfl, _, rfl, (by show 2 ≤ sizeLine; decide), fun kb0 hkb0 => ?_⟩
      have sk0 := same_new hkb0 (.tup [.int (i : Int), .int (j : Int)])
      refine ⟨Nat.zero_le _, fun lz hlz => ?_⟩
      have sz0 := same_new hlz (.lst [])
      have sz := sk0.trans sz0
      have t5 := t4.same sz
      refine ⟨_, DGet.t (k := kp i j) t5.at_ (sz0 _ _ upd_same), ?_⟩
      obtain ⟨l, vs, el, hl, hdl⟩ : ∃ l vs, ((valV kvs4 (kp i j)).getD (.ref lz)) = .ref l ∧ (upd (upd H4 kb0 (.tup [.int (i : Int), .int (j : Int)])) lz (.lst [])) l = some (.lst vs) ∧ DpAll K (upd (upd H4 kb0 (.tup [.int (i : Int), .int (j : Int)])) lz (.lst [])) vs ((F i j).map dW) := by
        cases e : valV kvs4 (kp i j) with
        | none =>
          rw [t4.no i j e]
          exact ⟨lz, [], rfl, upd_same, .nil⟩
        | some v =>
          obtain ⟨l, vs, rfl, h2, h3⟩ := t5.get i j v e
          exact ⟨l, vs, rfl, h2, h3⟩
      rw [el]
      have sb5 : SameB d H1 (upd (upd H4 kb0 (.tup [.int (i : Int), .int (j : Int)])) lz (.lst [])) := SameB.trans sb4 (Same.b sz d)
      generalize upd (upd H4 kb0 (.tup [.int (i : Int), .int (j : Int)])) lz (.lst []) = H5 at t5 hl hdl sb5
      have nld : l ≠ d := fun z => by
        rw [z, t5.at_] at hl
        cases hl
      refine ⟨l, rfl, ⟨_, SqL.of hl⟩, for_list (K := K) (a := l) (xs := vs) (fun t σ H' => SameB d H5 H' ∧ ∃ (kvs : List (List Key × V)) (u4 : Option V), σ = [some v, some u, some (.ref p1), some (.ref p2), some (.ref d), some (.int n), some (.int i), some (.int j), u4] ∧ TabF K H' d kvs (((F i j).take t).foldl (procU one two i j) F))
        ⟨fun _ _ _ q => q, kvs4, u4, rfl, t5⟩ (fun t σ H' _ h => SqL.of (h.1 _ _ nld hl)) ?_ ?_⟩
      · rintro t y σ H6 ht ⟨sb6, kvs6, u4, rfl, t6⟩
        obtain ⟨g, hg1, hgw⟩ := dW_get hdl ht
        have hmem := List.mem_of_getElem? hg1
        have hMg := gP.sound i j g hmem
        have hle := hMg.le
        have gF := (procUs_ok ((F i j).take t) F gP (fun u h => gP.sound i j u (List.mem_of_mem_take h))).1
        rw [take_at hg1, List.foldl_append]
        show _
        generalize ((F i j).take t).foldl (procU one two i j) F = Ft at t6 gF
        have sb16 : SameB d H1 H6 := SameB.trans sb5 sb6
        have hm6 := dT_seq t5.at_ sb6 hgw
        obtain ⟨mb, rfl, _⟩ := id hm6
        have fin : ∀ (H7 : Hp) (kvs7 : List (List Key × V)), SameB d H6 H7 → TabF K H7 d kvs7 (procU one two i j Ft g) → SameB d H5 H7 ∧ ∃ (kvs : List (List Key × V)) (u4 : Option V), [some v, some u, some (.ref p1), some (.ref p2), some (.ref d), some (.int n), some (.int i), some (.int j), some (.ref mb)] = [some v, some u, some (.ref p1), some (.ref p2), some (.ref d), some (.int n), some (.int i), some (.int j), u4] ∧ TabF K H7 d kvs (procU one two i j Ft g) :=
          fun H7 kvs7 e7 t7 => ⟨SameB.trans sb6 e7, kvs7, _, rfl, t7⟩
        have lt1 : ∀ {H7 : Hp} (e7 : SameB d H1 H7), (∃ p ys, [V.ref p1] = [.ref p] ∧ (SqL K H7 p ys ∨ SqT K H7 p ys)) := fun {H7} e7 => ⟨p1, _, rfl, .inr (t1w _ e7)⟩
        refine ⟨_, rfl, _, rfl, p1, _, rfl, .inr (t1w _ sb16), _, _, rfl, rfl, _, rfl, ?_⟩
        rw [el1]
        by_cases hi1 : i < one.length
        · have hoa := List.getElem?_eq_getElem hi1
          generalize one[i] = a at hoa
          rw [show decide ((i : Int) < (one.length : Int)) = true from decide_eq_true (by omega)]
          refine iteT ?_
          refine ⟨_, rfl, _, rfl, p2, _, rfl, .inr (t2w _ sb16), _, _, rfl, rfl, _, rfl, ?_⟩
          rw [el2]
          by_cases hj1 : j < two.length
          · have hob := List.getElem?_eq_getElem hj1
            generalize two[j] = b at hob
            rw [show decide ((j : Int) < (two.length : Int)) = true from decide_eq_true (by omega)]
            refine iteT ?_
            refine ⟨_, rfl, _, rfl, p1, _, _, _, rfl, rfl, t1w _ sb16, at_of (j := i) rfl (int_at hoa), _, rfl, _, rfl, p2, _, _, _, rfl, rfl, t2w _ sb16, at_of (j := j) rfl (int_at hob), rfl, _, rfl, ?_⟩
            refine ite2 (fun c => ?_) (fun c => ?_)
            · have hab : a = b := by
                have := of_decide_eq_true c
                injection this
              subst hab
              refine ⟨_, rfl, _, rfl, _, _, rfl, rfl, _, rfl, _, _, rfl, rfl, (by show 2 ≤ sizeLine; decide), fun kbA hkbA => ?_⟩
              have skA := same_new hkbA (.tup [.int ((i : Int) + 1), .int ((j : Int) + 1)])
              refine ⟨_, rfl, _, rfl, _, rfl, p1, _, _, _, rfl, rfl, Same.seqT skA (t1w H6 (sb16)), at_of (j := i) rfl (int_at hoa), (by show 1 ≤ sizeLine; decide), fun ttA httA => ?_⟩
              have stA := same_new httA (.tup [.int a])
              have sktA := skA.trans stA
              refine catW (u := g) (v := [a]) (hm6.same sktA) (Wd.new upd_same) (by show _ + 1 ≤ _; omega) fun rA HA srA wrA => ?_
              have saA := sktA.trans srA
              refine ⟨d, kbA, rA, g ++ [a], i + 1, j + 1, kvs6, Ft, rfl, srA _ _ (stA _ _ upd_same), wrA, t6.same saA, by omega, by omega, Nat.le_trans (few Ft gF (i + 1) (j + 1)) (by decide), fun GA kvsA sbA tA => ?_⟩
              have scA : SameB d H1 GA := SameB.trans (sb16) (SameB.trans (Same.b saA d) sbA)
              have mA : Wd K GA (.ref mb) g := dT_seq (t6.same saA).at_ sbA (hm6.same saA)
              have gA2 := keepF_good (i := i + 1) (j := j + 1) gF (Mg.both hMg hoa hob)
              have eA : SameB d H6 GA := SameB.trans (fun _ _ _ q => q) (SameB.trans (Same.b saA d) sbA)
              refine ⟨_, rfl, _, rfl, p1, _, rfl, .inr (t1w _ scA), _, _, rfl, rfl, _, rfl, ?_⟩
              rw [el1, show decide ((i : Int) < (one.length : Int)) = true from decide_eq_true (by omega)]
              refine iteT ?_
              refine ⟨_, rfl, _, rfl, _, _, rfl, rfl, _, rfl, (by show 2 ≤ sizeLine; decide), fun kbB hkbB => ?_⟩
              have skB := same_new hkbB (.tup [.int ((i : Int) + 1), .int (j : Int)])
              refine ⟨_, rfl, _, rfl, _, rfl, p1, _, _, _, rfl, rfl, Same.seqT skB (t1w GA (scA)), at_of (j := i) rfl (int_at hoa), (by show 1 ≤ sizeLine; decide), fun ttB httB => ?_⟩
              have stB := same_new httB (.tup [.int a])
              have sktB := skB.trans stB
              refine catW (u := g) (v := [a]) (mA.same sktB) (Wd.new upd_same) (by show _ + 1 ≤ _; omega) fun rB HB srB wrB => ?_
              have saB := sktB.trans srB
              refine ⟨d, kbB, rB, g ++ [a], i + 1, j, kvsA, (keepF Ft (i + 1) (j + 1) (g ++ [a])), rfl, srB _ _ (stB _ _ upd_same), wrB, tA.same saB, by omega, by omega, Nat.le_trans (few (keepF Ft (i + 1) (j + 1) (g ++ [a])) gA2 (i + 1) (j)) (by decide), fun GB kvsB sbB tB => ?_⟩
              have scB : SameB d H1 GB := SameB.trans (scA) (SameB.trans (Same.b saB d) sbB)
              have mB : Wd K GB (.ref mb) g := dT_seq (tA.same saB).at_ sbB (mA.same saB)
              have gB := keepF_good (i := i + 1) (j := j) gA2 (Mg.left hMg hoa)
              have eB : SameB d H6 GB := SameB.trans (eA) (SameB.trans (Same.b saB d) sbB)
              refine ⟨_, rfl, _, rfl, p2, _, rfl, .inr (t2w _ scB), _, _, rfl, rfl, _, rfl, ?_⟩
              rw [el2, show decide ((j : Int) < (two.length : Int)) = true from decide_eq_true (by omega)]
              refine iteT ?_
              refine ⟨_, rfl, _, rfl, _, rfl, _, _, rfl, rfl, (by show 2 ≤ sizeLine; decide), fun kbC hkbC => ?_⟩
              have skC := same_new hkbC (.tup [.int (i : Int), .int ((j : Int) + 1)])
              refine ⟨_, rfl, _, rfl, _, rfl, p2, _, _, _, rfl, rfl, Same.seqT skC (t2w GB (scB)), at_of (j := j) rfl (int_at hob), (by show 1 ≤ sizeLine; decide), fun ttC httC => ?_⟩
              have stC := same_new httC (.tup [.int a])
              have sktC := skC.trans stC
              refine catW (u := g) (v := [a]) (mB.same sktC) (Wd.new upd_same) (by show _ + 1 ≤ _; omega) fun rC HC srC wrC => ?_
              have saC := sktC.trans srC
              refine ⟨d, kbC, rC, g ++ [a], i, j + 1, kvsB, (keepF (keepF Ft (i + 1) (j + 1) (g ++ [a])) (i + 1) j (g ++ [a])), rfl, srC _ _ (stC _ _ upd_same), wrC, tB.same saC, by omega, by omega, Nat.le_trans (few (keepF (keepF Ft (i + 1) (j + 1) (g ++ [a])) (i + 1) j (g ++ [a])) gB (i) (j + 1)) (by decide), fun GC kvsC sbC tC => ?_⟩
              have scC : SameB d H1 GC := SameB.trans (scB) (SameB.trans (Same.b saC d) sbC)
              have mC : Wd K GC (.ref mb) g := dT_seq (tB.same saC).at_ sbC (mB.same saC)
              have gC := keepF_good (i := i) (j := j + 1) gB (Mg.right hMg hob)
              have eC : SameB d H6 GC := SameB.trans (eB) (SameB.trans (Same.b saC d) sbC)
              refine fin GC kvsC (eC) (tC.imp ?_)
              unfold procU
              rw [hoa, hob]
              dsimp only
              rw [if_pos rfl]
            · have hab : a ≠ b := fun z => c (by rw [z]; exact decide_eq_true rfl)
              refine ⟨_, rfl, _, rfl, p1, _, rfl, .inr (t1w _ sb16), _, _, rfl, rfl, _, rfl, ?_⟩
              rw [el1, show decide ((i : Int) < (one.length : Int)) = true from decide_eq_true (by omega)]
              refine iteT ?_
              refine ⟨_, rfl, _, rfl, _, _, rfl, rfl, _, rfl, (by show 2 ≤ sizeLine; decide), fun kbB hkbB => ?_⟩
              have skB := same_new hkbB (.tup [.int ((i : Int) + 1), .int (j : Int)])
              refine ⟨_, rfl, _, rfl, _, rfl, p1, _, _, _, rfl, rfl, Same.seqT skB (t1w H6 (sb16)), at_of (j := i) rfl (int_at hoa), (by show 1 ≤ sizeLine; decide), fun ttB httB => ?_⟩
              have stB := same_new httB (.tup [.int a])
              have sktB := skB.trans stB
              refine catW (u := g) (v := [a]) (hm6.same sktB) (Wd.new upd_same) (by show _ + 1 ≤ _; omega) fun rB HB srB wrB => ?_
              have saB := sktB.trans srB
              refine ⟨d, kbB, rB, g ++ [a], i + 1, j, kvs6, Ft, rfl, srB _ _ (stB _ _ upd_same), wrB, t6.same saB, by omega, by omega, Nat.le_trans (few Ft gF (i + 1) (j)) (by decide), fun GB kvsB sbB tB => ?_⟩
              have scB : SameB d H1 GB := SameB.trans (sb16) (SameB.trans (Same.b saB d) sbB)
              have mB : Wd K GB (.ref mb) g := dT_seq (t6.same saB).at_ sbB (hm6.same saB)
              have gB := keepF_good (i := i + 1) (j := j) gF (Mg.left hMg hoa)
              have eB : SameB d H6 GB := SameB.trans (fun _ _ _ q => q) (SameB.trans (Same.b saB d) sbB)
              refine ⟨_, rfl, _, rfl, p2, _, rfl, .inr (t2w _ scB), _, _, rfl, rfl, _, rfl, ?_⟩
              rw [el2, show decide ((j : Int) < (two.length : Int)) = true from decide_eq_true (by omega)]
              refine iteT ?_
              refine ⟨_, rfl, _, rfl, _, rfl, _, _, rfl, rfl, (by show 2 ≤ sizeLine; decide), fun kbC hkbC => ?_⟩
              have skC := same_new hkbC (.tup [.int (i : Int), .int ((j : Int) + 1)])
              refine ⟨_, rfl, _, rfl, _, rfl, p2, _, _, _, rfl, rfl, Same.seqT skC (t2w GB (scB)), at_of (j := j) rfl (int_at hob), (by show 1 ≤ sizeLine; decide), fun ttC httC => ?_⟩
              have stC := same_new httC (.tup [.int b])
              have sktC := skC.trans stC
              refine catW (u := g) (v := [b]) (mB.same sktC) (Wd.new upd_same) (by show _ + 1 ≤ _; omega) fun rC HC srC wrC => ?_
              have saC := sktC.trans srC
              refine ⟨d, kbC, rC, g ++ [b], i, j + 1, kvsB, (keepF Ft (i + 1) j (g ++ [a])), rfl, srC _ _ (stC _ _ upd_same), wrC, tB.same saC, by omega, by omega, Nat.le_trans (few (keepF Ft (i + 1) j (g ++ [a])) gB (i) (j + 1)) (by decide), fun GC kvsC sbC tC => ?_⟩
              have scC : SameB d H1 GC := SameB.trans (scB) (SameB.trans (Same.b saC d) sbC)
              have mC : Wd K GC (.ref mb) g := dT_seq (tB.same saC).at_ sbC (mB.same saC)
              have gC := keepF_good (i := i) (j := j + 1) gB (Mg.right hMg hob)
              have eC : SameB d H6 GC := SameB.trans (eB) (SameB.trans (Same.b saC d) sbC)
              refine fin GC kvsC (eC) (tC.imp ?_)
              unfold procU
              rw [hoa, hob]
              dsimp only
              rw [if_neg hab]
          · rw [show decide ((j : Int) < (two.length : Int)) = false from decide_eq_false (by omega)]
            have hob : two[j]? = none := List.getElem?_eq_none (by omega)
            refine iteF ?_
            refine ⟨_, rfl, _, rfl, p1, _, rfl, .inr (t1w _ sb16), _, _, rfl, rfl, _, rfl, ?_⟩
            rw [el1, show decide ((i : Int) < (one.length : Int)) = true from decide_eq_true (by omega)]
            refine iteT ?_
            refine ⟨_, rfl, _, rfl, _, _, rfl, rfl, _, rfl, (by show 2 ≤ sizeLine; decide), fun kbB hkbB => ?_⟩
            have skB := same_new hkbB (.tup [.int ((i : Int) + 1), .int (j : Int)])
            refine ⟨_, rfl, _, rfl, _, rfl, p1, _, _, _, rfl, rfl, Same.seqT skB (t1w H6 (sb16)), at_of (j := i) rfl (int_at hoa), (by show 1 ≤ sizeLine; decide), fun ttB httB => ?_⟩
            have stB := same_new httB (.tup [.int a])
            have sktB := skB.trans stB
            refine catW (u := g) (v := [a]) (hm6.same sktB) (Wd.new upd_same) (by show _ + 1 ≤ _; omega) fun rB HB srB wrB => ?_
            have saB := sktB.trans srB
            refine ⟨d, kbB, rB, g ++ [a], i + 1, j, kvs6, Ft, rfl, srB _ _ (stB _ _ upd_same), wrB, t6.same saB, by omega, by omega, Nat.le_trans (few Ft gF (i + 1) (j)) (by decide), fun GB kvsB sbB tB => ?_⟩
            have scB : SameB d H1 GB := SameB.trans (sb16) (SameB.trans (Same.b saB d) sbB)
            have mB : Wd K GB (.ref mb) g := dT_seq (t6.same saB).at_ sbB (hm6.same saB)
            have gB := keepF_good (i := i + 1) (j := j) gF (Mg.left hMg hoa)
            have eB : SameB d H6 GB := SameB.trans (fun _ _ _ q => q) (SameB.trans (Same.b saB d) sbB)
            refine ⟨_, rfl, _, rfl, p2, _, rfl, .inr (t2w _ scB), _, _, rfl, rfl, _, rfl, ?_⟩
            rw [el2, show decide ((j : Int) < (two.length : Int)) = false from decide_eq_false (by omega)]
            refine iteF ?_
            refine fin GB kvsB (eB) (tB.imp ?_)
            unfold procU
            rw [hoa, hob]
        · rw [show decide ((i : Int) < (one.length : Int)) = false from decide_eq_false (by omega)]
          have hoa : one[i]? = none := List.getElem?_eq_none (by omega)
          refine iteF ?_
          refine ⟨_, rfl, _, rfl, p1, _, rfl, .inr (t1w _ sb16), _, _, rfl, rfl, _, rfl, ?_⟩
          rw [el1, show decide ((i : Int) < (one.length : Int)) = false from decide_eq_false (by omega)]
          refine iteF ?_
          refine ⟨_, rfl, _, rfl, p2, _, rfl, .inr (t2w _ sb16), _, _, rfl, rfl, _, rfl, ?_⟩
          rw [el2]
          by_cases hj1 : j < two.length
          · have hob := List.getElem?_eq_getElem hj1
            generalize two[j] = b at hob
            rw [show decide ((j : Int) < (two.length : Int)) = true from decide_eq_true (by omega)]
            refine iteT ?_
            refine ⟨_, rfl, _, rfl, _, rfl, _, _, rfl, rfl, (by show 2 ≤ sizeLine; decide), fun kbC hkbC => ?_⟩
            have skC := same_new hkbC (.tup [.int (i : Int), .int ((j : Int) + 1)])
            refine ⟨_, rfl, _, rfl, _, rfl, p2, _, _, _, rfl, rfl, Same.seqT skC (t2w H6 (sb16)), at_of (j := j) rfl (int_at hob), (by show 1 ≤ sizeLine; decide), fun ttC httC => ?_⟩
            have stC := same_new httC (.tup [.int b])
            have sktC := skC.trans stC
            refine catW (u := g) (v := [b]) (hm6.same sktC) (Wd.new upd_same) (by show _ + 1 ≤ _; omega) fun rC HC srC wrC => ?_
            have saC := sktC.trans srC
            refine ⟨d, kbC, rC, g ++ [b], i, j + 1, kvs6, Ft, rfl, srC _ _ (stC _ _ upd_same), wrC, t6.same saC, by omega, by omega, Nat.le_trans (few Ft gF (i) (j + 1)) (by decide), fun GC kvsC sbC tC => ?_⟩
            have scC : SameB d H1 GC := SameB.trans (sb16) (SameB.trans (Same.b saC d) sbC)
            have mC : Wd K GC (.ref mb) g := dT_seq (t6.same saC).at_ sbC (hm6.same saC)
            have gC := keepF_good (i := i) (j := j + 1) gF (Mg.right hMg hob)
            have eC : SameB d H6 GC := SameB.trans (fun _ _ _ q => q) (SameB.trans (Same.b saC d) sbC)
            refine fin GC kvsC (eC) (tC.imp ?_)
            unfold procU
            rw [hoa, hob]
          · rw [show decide ((j : Int) < (two.length : Int)) = false from decide_eq_false (by omega)]
            have hob : two[j]? = none := List.getElem?_eq_none (by omega)
            refine iteF (fin H6 kvs6 (fun _ _ _ q => q) (t6.imp ?_))
            unfold procU
            rw [hoa, hob]
      · rintro σ H6 ⟨sb6, kvs6, u4, rfl, t6⟩
        have hvl : vs.length = (F i j).length := by rw [dpAll_len hdl, List.length_map]
        rw [hvl, List.take_length] at t6
        have eP : List.foldl (fun F a => procP one two F a (n - a)) F [i] = (F i j).foldl (procU one two i j) F := by
          rw [← hj]
          rfl
        exact ⟨SameB.trans sb5 sb6, kvs6, _, _, _, rfl, t6.imp eP.symm⟩
    · rintro σ H4 ⟨sb4, kvs4, u2, u3, u4, rfl, t4⟩
      rw [show (((min n one.length : Nat) : Int) + 1).toNat = min n one.length + 1 by omega] at t4
      exact ⟨sb4, kvs4, _, _, _, _, rfl, t4⟩
  · rintro σ H3 ⟨sb3, kvs, u1, u2, u3, u4, rfl, t3⟩
    rw [el1, el2, show ((one.length : Int) + (two.length : Int)).toNat = one.length + two.length by omega] at t3
    have gA := (procA_ok one two (one.length + two.length)).1
    have hany := shortest_any one two
    have hlaw := fun (m : List Int) (hm) (hle) => shortest_law (one := one) (two := two) (m := m) hm hle
    have hfew := few _ gA one.length two.length
    generalize hFL : procA one two (one.length + two.length) = FL at t3 gA hany hlaw hfew
    refine ⟨_, rfl, _, rfl, p1, _, rfl, .inr (t1w _ sb3), _, rfl, p2, _, rfl, .inr (t2w _ sb3), (by show 2 ≤ sizeLine; decide), fun kb hkb => ?_⟩
    have skb := same_new hkb (.tup [.int ((one.map V.int).length : Int), .int ((two.map V.int).length : Int)])
    have t4 := t3.same skb
    obtain ⟨lv, hlv⟩ : ∃ lv, valV kvs (kp one.length two.length) = some lv := by
      cases e : valV kvs (kp one.length two.length) with
      | none => exact absurd (t3.no _ _ e) hany
      | some lv => exact ⟨lv, rfl⟩
    obtain ⟨l, vs, rfl, hl, hdl⟩ := t4.get _ _ _ hlv
    refine ⟨d, .ref l, rfl, ?_, ?_⟩
    · rw [← hlv]
      refine DGet.t (k := kp one.length two.length) t4.at_ ?_
      rw [el1, el2]
      exact upd_same
    have s4 : Same H2 (upd H3 kb (.tup [.int ((one.map V.int).length : Int), .int ((two.map V.int).length : Int)])) := (toB sb3).trans skb
    generalize upd H3 kb (.tup [.int ((one.map V.int).length : Int), .int ((two.map V.int).length : Int)]) = H4 at hl hdl s4
    have hvl : vs.length = (FL one.length two.length).length := by rw [dpAll_len hdl, List.length_map]
    have h18 : vs.length ≤ 524288 := by
      rw [hvl]
      exact hfew
    refine ⟨l, rfl, ⟨_, SqL.of hl⟩, fun D hD => ?_⟩
    refine lc_list (K := K) (a := l) (xs := vs) (fun j H' => Same H4 H' ∧ ∃ zs, H' D = some (.lst zs) ∧ DpAll K H' zs ((((FL one.length two.length).take j).map fun p => ((p.length : Int), p)).map dP))
      ⟨same_new hD _, [], upd_same, .nil⟩ (fun j H' _ h2 => SqL.of (h2.1 _ _ hl)) ?_ ?_
    · rintro j y H5 hj ⟨hs5, zs, hdz, hpz⟩
      obtain ⟨g, hg1, hw0⟩ := dW_get hdl hj
      have hwy := hw0.same hs5
      obtain ⟨b, rfl, hb⟩ := id hwy
      have hj' := (List.getElem?_eq_some_iff.mp hg1).1
      refine ⟨rfl, ?_⟩
      refine ⟨_, rfl, b, _, rfl, .inr hb, _, rfl, (by show 2 ≤ sizeLine; decide), fun t ht => ?_⟩
      rw [List.length_map]
      have st := same_new ht (.tup [.int (g.length : Int), .ref b])
      refine ⟨zs, st _ _ hdz, ?_, Same.upd (hs5.trans st) hD _, _, upd_same, ?_⟩
      · show _ < 2 ^ 24
        rw [dpAll_len hpz, List.length_map, List.length_map, List.length_take]
        omega
      · rw [take_at hg1, List.map_append, List.map_append]
        exact dpAll_app (dpP_upd (st _ _ hdz) (dpAll_same st hpz)) (.cons (IsP.of (SqT.updl (st _ _ hdz) (SqT.of upd_same)) (Wd.upd (st _ _ hdz) (hwy.same st))) .nil)
    · rintro H5 ⟨hs5, zs, hdz, hpz⟩
      rw [hvl, List.take_length] at hpz
      refine ⟨D, zs, _, rfl, SqL.of hdz, hpz, ?_, fun y m hy hm hp hle => ?_⟩
      · rw [List.length_map]
        exact List.length_pos_iff.mpr hany
      obtain ⟨q, z, rfl, hq, hz⟩ := IsP.to hp
      obtain ⟨g, hg, rfl⟩ := List.mem_map.mp hm
      have e := hlaw g hg fun p hp => hle _ (List.mem_map.mpr ⟨p, hp, rfl⟩)
      refine ⟨q, _, _, z, rfl, rfl, hq, rfl, k z H5 (s1.trans (s2.trans (s4.trans hs5))) ?_⟩
      rw [← e]
      exact hz
end
end Fl
end

section
set_option Elab.async false
set_option linter.all false
set_option maxRecDepth 100000
set_option maxHeartbeats 4000000
/-! The law's own: lengths. -/
namespace Fl
open PySem PySem.Spec PyProof.Rows L2
structure TabN (H : Hp) (d : Addr) (kvs : List (List Key × V)) (A : Nat → Nat → Prop) (f : Nat → Nat → Nat) : Prop where
  at_ : H d = some (.dT kvs)
  get : ∀ i j, A i j → valV kvs (kp i j) = some (.int (f i j))
theorem TabN.same {H H' : Hp} {d : Addr} {kvs : List (List Key × V)} {A : Nat → Nat → Prop} {f : Nat → Nat → Nat} (e : Same H H') (t : TabN H d kvs A f) : TabN H' d kvs A f := ⟨e _ _ t.at_, t.get⟩
theorem TabN.imp {H : Hp} {d : Addr} {kvs : List (List Key × V)} {A A' : Nat → Nat → Prop} {f : Nat → Nat → Nat} (t : TabN H d kvs A f) (h : ∀ i j, A' i j → A i j) : TabN H d kvs A' f := ⟨t.at_, fun i j a => t.get i j (h i j a)⟩
theorem TabN.put {H : Hp} {d : Addr} {kvs : List (List Key × V)} {A : Nat → Nat → Prop} {f : Nat → Nat → Nat} (t : TabN H d kvs A f) {i j : Nat} {v : V} (hv : v = .int (f i j)) :
    TabN (upd H d (.dT (putK kvs (kp i j) v))) d (putK kvs (kp i j) v) (fun x y => A x y ∨ (x = i ∧ y = j)) f := by
  refine ⟨upd_same, fun x y a => ?_⟩
  rw [valV_put]
  by_cases c : x = i ∧ y = j
  · rw [if_pos (kp_inj.mpr c), c.1, c.2, hv]
  · rw [if_neg (fun z => c (kp_inj.mp z))]
    exact t.get x y (a.resolve_right c)
/-- the rows of the sums -/
def rowV (b : TB) (u : Nat) : List V := [.int (b u 0), .int (b u 1), .int (b u 2), .int (b u 3)]
structure BtAt (H : Hp) (l : Addr) (rs : List Addr) (b : TB) : Prop where
  at_ : H l = some (.lst (rs.map V.ref))
  nd : rs.Nodup
  row : ∀ u a, rs[u]? = some a → H a = some (.lst (rowV b u))
theorem BtAt.same {H H' : Hp} {l : Addr} {rs : List Addr} {b : TB} (e : Same H H') (t : BtAt H l rs b) : BtAt H' l rs b := ⟨e _ _ t.at_, t.nd, fun u a h => e _ _ (t.row u a h)⟩
theorem BtAt.ne {H : Hp} {l : Addr} {rs : List Addr} {b : TB} (t : BtAt H l rs b) {u : Nat} {a : Addr} (h : rs[u]? = some a) : a ≠ l := fun z => by
  have h1 := t.row u a h
  rw [z, t.at_] at h1
  injection h1 with h1
  injection h1 with h1
  cases rs with
  | nil => cases h1
  | cons x rs =>
    injection h1 with h1 _
    cases h1
theorem nodup_at {α : Type} : ∀ {l : List α} {i j : Nat} {a : α}, l.Nodup → l[i]? = some a → l[j]? = some a → i = j
  | [], i, j, a, _, h, _ => by cases h
  | x :: l, 0, 0, a, _, _, _ => rfl
  | x :: l, 0, j + 1, a, nd, h1, h2 => by
    cases h1
    exact absurd (List.mem_of_getElem? (show l[j]? = some x from h2)) (List.nodup_cons.mp nd).1
  | x :: l, i + 1, 0, a, nd, h1, h2 => by
    cases h2
    exact absurd (List.mem_of_getElem? (show l[i]? = some x from h1)) (List.nodup_cons.mp nd).1
  | x :: l, i + 1, j + 1, a, nd, h1, h2 => by rw [nodup_at (List.nodup_cons.mp nd).2 (show l[i]? = some a from h1) h2]
theorem BtAt.put {H : Hp} {l : Addr} {rs : List Addr} {b b' : TB} (t : BtAt H l rs b) {u : Nat} {a : Addr} (h : rs[u]? = some a) (ho : ∀ w, w < rs.length → w ≠ u → rowV b' w = rowV b w) : BtAt (upd H a (.lst (rowV b' u))) l rs b' := by
  refine ⟨by rw [upd_ne (Ne.symm (t.ne h))]; exact t.at_, t.nd, fun w c hc => ?_⟩
  by_cases e : w = u
  · rw [e] at hc ⊢
    rw [h] at hc
    cases hc
    exact upd_same
  · rw [upd_ne (fun z => e (nodup_at t.nd (by rw [← z]; exact hc) h)), ho w (List.getElem?_eq_some_iff.mp hc).1 e]
    exact t.row w c hc
theorem BtAt.congr {H : Hp} {l : Addr} {rs : List Addr} {b b' : TB} (t : BtAt H l rs b) (ho : ∀ w, w < rs.length → rowV b' w = rowV b w) : BtAt H l rs b' :=
  ⟨t.at_, t.nd, fun w c hc => by rw [ho w (List.getElem?_eq_some_iff.mp hc).1]; exact t.row w c hc⟩
theorem rowV_at {b : TB} {u : Nat} : ∀ {i : Nat}, i < 4 → (rowV b u)[i]? = some (.int (b u i))
  | 0, _ => rfl
  | 1, _ => rfl
  | 2, _ => rfl
  | 3, _ => rfl
theorem rowV_set {b b' : TB} {u : Nat} {m : Int} : ∀ {k : Nat}, k < 4 → ((b' u k : Nat) : Int) = m → (∀ c, c < 4 → c ≠ k → b' u c = b u c) → (rowV b u).set k (.int m) = rowV b' u
  | 0, _, h, ho => by
    show [V.int m, .int (b u 1), .int (b u 2), .int (b u 3)] = [.int (b' u 0), .int (b' u 1), .int (b' u 2), .int (b' u 3)]
    rw [h, ho 1 (by omega) (by omega), ho 2 (by omega) (by omega), ho 3 (by omega) (by omega)]
  | 1, _, h, ho => by
    show [V.int (b u 0), .int m, .int (b u 2), .int (b u 3)] = [.int (b' u 0), .int (b' u 1), .int (b' u 2), .int (b' u 3)]
    rw [h, ho 0 (by omega) (by omega), ho 2 (by omega) (by omega), ho 3 (by omega) (by omega)]
  | 2, _, h, ho => by
    show [V.int (b u 0), .int (b u 1), .int m, .int (b u 3)] = [.int (b' u 0), .int (b' u 1), .int (b' u 2), .int (b' u 3)]
    rw [h, ho 0 (by omega) (by omega), ho 1 (by omega) (by omega), ho 3 (by omega) (by omega)]
  | 3, _, h, ho => by
    show [V.int (b u 0), .int (b u 1), .int (b u 2), .int m] = [.int (b' u 0), .int (b' u 1), .int (b' u 2), .int (b' u 3)]
    rw [h, ho 0 (by omega) (by omega), ho 1 (by omega) (by omega), ho 2 (by omega) (by omega)]
theorem rowV_congr {b b' : TB} {u : Nat} (h : ∀ c, c < 4 → b' u c = b u c) : rowV b' u = rowV b u := by
  unfold rowV
  rw [h 0 (by omega), h 1 (by omega), h 2 (by omega), h 3 (by omega)]
theorem ixN4 : ∀ {k : Nat}, k < 4 → ixN 4 (k : Int) = some k := by decide
def spLLengths (K : PySem.W.Frag) : Sp := fun vs H Q _ => ∃ (v u : V) (xs ys : List Int), vs = [v, u] ∧ Wd K H v xs ∧ Wd K H u ys ∧ xs ≠ [] ∧ ys ≠ [] ∧ xs.length ≤ 30 ∧ ys.length ≤ 30 ∧ (∀ c ∈ xs, 0 ≤ c ∧ c < 4) ∧ (∀ c ∈ ys, 0 ≤ c ∧ c < 4) ∧
  ∀ p H' M, Same H H' → H' p = some (.tup [.int (M : Nat), .int ((sb (wd xs) (wd ys)).length : Nat)]) → (∃ c, c < 4 ∧ M = tabT (wd xs) (wd ys) (wd ys).length c) → (∀ c, c < 4 → tabT (wd xs) (wd ys) (wd ys).length c ≤ M) → Q (.ref p) H'
section
variable {P : Program} {w : World} {K : PySem.W.Frag} {mg : Str → Option Value} {base : Heap} {f : Addr} {fd : FuncData}
abbrev s_law_lengths : Stmt := top 49
theorem sc_law_lengths : FnScope ["_law_row_here", "_law_other", "_law_one", "_law_two", "_law_over", "_law_at", "_law_there", "_law_best", "_law_letter", "_law_longer", "_law_later", "_law_row_of", "_law_ahead"] ["_law_row_here", "_law_other"] (defScope s_law_lengths) := ⟨rfl, rfl, rfl, by decide +kernel, rfl, by decide +kernel, by decide +kernel⟩
theorem ok_law_lengths (F : Fun K "_law_lengths" "_law_lengths" s_law_lengths f fd) (B : Bn mg) {f1 : Addr} {fd1 : FuncData} (k_law_word : Kn P w K mg base CX0 1 "_law_word" ["_law_row_here"] (spLWord K) f1 fd1) :
    FnOk P w K mg base CX0 2 f fd ["_law_row_here", "_law_other"] (spLLengths K) := by
  refine F.ok sc_law_lengths (fun vs H Q E h => ?_) (fun cdv A outer s H vs Q E hr h => ?_)
  · obtain ⟨v, u, xs, ys, rfl, _⟩ := h
    rfl
  obtain ⟨v, u, xs, ys, rfl, hv, hu', hne1, hne2, hl1, hl2, hc1, hc2, k⟩ := h
  have hu := hu_of hr
  refine ⟨_, (pss_cons (ps_par (i := 2) (j := 3) (by rfl) sc_law_lengths.nd rfl rfl (by decide) rfl rfl (pa_cons (pk k_law_word hr (by omega) pass0 (pa_cons (pv 0) pa_nil)) (pa_cons (pk k_law_word hr (by omega) pass0 (pa_cons (pv 1) pa_nil)) pa_nil)) (by rfl))
      (pss_cons (ps_set (i := 4) sc_law_lengths.nd rfl (Or.inl rfl) pe_dnewT)
      (pss_cons (ps_for PassesOwn.never rfl (pi_range1 (by rfl) B.range_ (pa_cons (pe_op op_add (pe_callB call_len_seq (by rfl) B.len_ PySem.boot_len (pa_cons (pv 2) pa_nil)) pe_int) pa_nil)) (pg_name (i := 5) sc_law_lengths.nd rfl (Or.inl rfl))
      (pss_one (ps_for PassesOwn.never rfl (pi_range1 (by rfl) B.range_ (pa_cons (pe_op op_add (pe_callB call_len_seq (by rfl) B.len_ PySem.boot_len (pa_cons (pv 3) pa_nil)) pe_int) pa_nil)) (pg_name (i := 6) sc_law_lengths.nd rfl (Or.inr rfl))
      (pss_one (ps_if (PW.pt (pw_or (pt_cmpR op_eq (pv 5) pe_int (nomark _)) (pw_or1 (pt_cmpR op_eq (pv 6) pe_int (nomark _))))) (pss_one (ps_dput hu (pv 4) (pe_tup (pa_cons (pv 5) (pa_cons (pv 6) pa_nil))) (pe_op op_add (pv 5) (pv 6)) rfl)) (pss_one (ps_if (pt_cmpR op_eq (pe_ix ix_tup (pv 2) (pe_op op_sub (pv 5) pe_int) (fun _ _ => rfl)) (pe_ix ix_tup (pv 3) (pe_op op_sub (pv 6) pe_int) (fun _ _ => rfl)) (nomark _)) (pss_one (ps_dput hu (pv 4) (pe_tup (pa_cons (pv 5) (pa_cons (pv 6) pa_nil))) (pe_op op_add (pe_dget hu (pv 4) (pe_tup (pa_cons (pe_op op_sub (pv 5) pe_int) (pa_cons (pe_op op_sub (pv 6) pe_int) pa_nil))) (fun _ _ => rfl)) pe_int) rfl)) (pss_one (ps_dput hu (pv 4) (pe_tup (pa_cons (pv 5) (pa_cons (pv 6) pa_nil))) (pe_op op_add (pe_callB (call_min2 rfl) (by rfl) B.min_ (by decide +kernel) (pa_cons (pe_dget hu (pv 4) (pe_tup (pa_cons (pe_op op_sub (pv 5) pe_int) (pa_cons (pv 6) pa_nil))) (fun _ _ => rfl)) (pa_cons (pe_dget hu (pv 4) (pe_tup (pa_cons (pv 5) (pa_cons (pe_op op_sub (pv 6) pe_int) pa_nil))) (fun _ _ => rfl)) pa_nil))) pe_int) rfl)))))))))
      (pss_cons (ps_set (i := 7) sc_law_lengths.nd rfl (Or.inr rfl) (pe_lc (own := [("_law_there", 6)]) (by rfl) sc_law_lengths.nd (pi_range1 (by rfl) B.range_ (pa_cons (pe_op op_add (pe_callB call_len_seq (by rfl) B.len_ PySem.boot_len (pa_cons (pv 3) pa_nil)) pe_int) pa_nil)) (blkOk_by (N := ["_law_row_here", "_law_other", "_law_one", "_law_two", "_law_over", "_law_at", "_law_there", "_law_best", "_law_letter", "_law_longer", "_law_later", "_law_row_of", "_law_ahead"]) (sc := defScope s_law_lengths) (by decide +kernel)) (fun _ _ _ _ _ => (pg_name (i := 6) sc_law_lengths.nd rfl (Or.inl rfl))) (fun _ _ _ _ _ => pts_nil) (fun _ _ _ _ _ => (pe_lst (pa_cons pe_int (pa_cons pe_int (pa_cons pe_int (pa_cons pe_int pa_nil))))))))
      (pss_cons (ps_for PassesOwn.never rfl (pi_tup (pv 2)) (pg_name (i := 8) sc_law_lengths.nd rfl (Or.inr rfl))
      (pss_one (ps_for PassesOwn.never rfl (pi_range3 (by rfl) B.range_ (pa_cons (pe_callB call_len_seq (by rfl) B.len_ PySem.boot_len (pa_cons (pv 3) pa_nil)) (pa_cons pe_int (pa_cons (pe_un un_neg pe_int) pa_nil)))) (pg_name (i := 6) sc_law_lengths.nd rfl (Or.inr rfl))
      (pss_one (ps_if (pt_cmpR op_eq (pe_ix ix_tup (pv 3) (pe_op op_sub (pv 6) pe_int) (fun _ _ => rfl)) (pv 8) (nomark _)) (pss_cons (ps_set (i := 9) sc_law_lengths.nd rfl (Or.inl rfl) (pe_op op_add pe_int (pe_callB (cr_max rfl) (by rfl) B.max_ (by decide +kernel) (pa_cons (pe_op op_cat (pe_lst (pa_cons pe_int pa_nil)) (pe_lc (own := [("_law_ahead", 12)]) (by rfl) sc_law_lengths.nd (pi_range1 (by rfl) B.range_ (pa_cons pe_int pa_nil)) (blkOk_by (N := ["_law_row_here", "_law_other", "_law_one", "_law_two", "_law_over", "_law_at", "_law_there", "_law_best", "_law_letter", "_law_longer", "_law_later", "_law_row_of", "_law_ahead"]) (sc := defScope s_law_lengths) (by decide +kernel)) (fun _ _ _ _ _ => (pg_name (i := 12) sc_law_lengths.nd rfl (Or.inl rfl))) (fun _ _ _ _ _ => (pts_one (pt_cmpR op_ne (pv 12) (pv 8) (nomark _)))) (fun _ _ _ _ _ => (pe_ix (ixL K) (pe_ix (ixL K) (pv 7) (pe_op op_sub (pv 6) pe_int) (fun _ _ => rfl)) (pv 12) (fun _ _ => rfl))))) pa_nil))))
      (pss_one (ps_for PassesOwn.never rfl (pi_range2 (by rfl) B.range_ (pa_cons (pv 6) (pa_cons (pe_op op_add (pe_callB call_len_seq (by rfl) B.len_ PySem.boot_len (pa_cons (pv 3) pa_nil)) pe_int) pa_nil))) (pg_name (i := 10) sc_law_lengths.nd rfl (Or.inl rfl))
      (pss_cons (ps_set (i := 11) sc_law_lengths.nd rfl (Or.inl rfl) (pe_ix ix_list (pv 7) (pv 10) (fun _ _ => rfl)))
      (pss_one (ps_asg (pe_callB (call_max2 rfl) (by rfl) B.max_ (by decide +kernel) (pa_cons (pe_ix ix_list (pv 11) (pv 8) (fun _ _ => rfl)) (pa_cons (pv 9) pa_nil))) (pg_sub (pv 11) (pv 8) set_list))))))) pss_nil)))))
      (pss_one (ps_ret (pe_tup (pa_cons (pe_callB (cr_max rfl) (by rfl) B.max_ (by decide +kernel) (pa_cons (pe_ix ix_list (pv 7) (pe_callB call_len_seq (by rfl) B.len_ PySem.boot_len (pa_cons (pv 3) pa_nil)) (fun _ _ => rfl)) pa_nil)) (pa_cons (pe_dget hu (pv 4) (pe_tup (pa_cons (pe_callB call_len_seq (by rfl) B.len_ PySem.boot_len (pa_cons (pv 2) pa_nil)) (pa_cons (pe_callB call_len_seq (by rfl) B.len_ PySem.boot_len (pa_cons (pv 3) pa_nil)) pa_nil))) (fun _ _ => rfl)) pa_nil)))))))))), ?_⟩
  refine ⟨_, rfl, v, xs, rfl, hv, hne1, by omega, fun p1 H1 s1 w1 => ?_⟩
  refine ⟨_, rfl, u, ys, rfl, hu'.same s1, hne2, by omega, fun p2 H2 s2 w2 => ?_⟩
  obtain ⟨A1, e1, q1⟩ := id w1
  cases e1
  obtain ⟨A2, e2, q2⟩ := id w2
  cases e2
  have hl41 : ∀ c ∈ wd xs, 0 ≤ c ∧ c < 4 := fun c h => hc1 c (wd_mem.mp h)
  have hl42 : ∀ c ∈ wd ys, 0 ≤ c ∧ c < 4 := fun c h => hc2 c (wd_mem.mp h)
  have hw1 : (wd xs).length ≤ 30 := Nat.le_trans (wd_length xs) hl1
  have hw2 : (wd ys).length ≤ 30 := Nat.le_trans (wd_length ys) hl2
  generalize hone : wd xs = one at *
  generalize htwo : wd ys = two at *
  have el1 : (one.map V.int).length = one.length := List.length_map ..
  have el2 : (two.map V.int).length = two.length := List.length_map ..
  have t1 := Same.seqT s2 q1
  refine ⟨_, _, rfl, ?_⟩
  refine fun d hd => ?_
  have sd := same_new hd (.dT [])
  refine ⟨_, rfl, p1, _, rfl, .inr (Same.seqT sd t1), _, _, rfl, rfl, _, rfl, by rw [el1]; omega, by rw [el1]; omega, for_range (lo := 0) (n := (((one.map V.int).length : Int) + 1).toNat) (fun n σ H' => Same H2 H' ∧ ∃ (kvs : List (List Key × V)) (u1 u2 u3 u4 u5 u6 u7 u8 : Option V), σ = [some v, some u, some (.ref p1), some (.ref p2), some (.ref d), u1, u2, u3, u4, u5, u6, u7, u8] ∧ TabN H' d kvs (fun x y => x < n ∧ y ≤ two.length) (ovL one two) ∧ kvs.length ≤ n * 31)
    ⟨sd, [], none, none, none, none, none, none, none, none, rfl, ⟨upd_same, fun x y q => by omega⟩, Nat.zero_le _⟩ ?_ ?_⟩
  · rintro i σ H3 hi ⟨s3, kvs, u1, u2, u3, u4, u5, u6, u7, u8, rfl, t3, hk3⟩
    rw [show (0 : Int) + i = i by omega]
    have hi1 : i ≤ one.length := by rw [el1] at hi; omega
    refine ⟨_, rfl, p2, _, rfl, .inr (Same.seqT s3 q2), _, _, rfl, rfl, _, rfl, by rw [el2]; omega, by rw [el2]; omega, for_range (lo := 0) (n := (((two.map V.int).length : Int) + 1).toNat) (fun j σ H' => Same H2 H' ∧ ∃ (kvs : List (List Key × V)) (u2 u3 u4 u5 u6 u7 u8 : Option V), σ = [some v, some u, some (.ref p1), some (.ref p2), some (.ref d), some (.int i), u2, u3, u4, u5, u6, u7, u8] ∧ TabN H' d kvs (fun x y => (x < i ∧ y ≤ two.length) ∨ (x = i ∧ y < j)) (ovL one two) ∧ kvs.length ≤ i * 31 + j)
      ⟨s3, kvs, u2, u3, u4, u5, u6, u7, u8, rfl, t3.imp (fun x y q => by omega), hk3⟩ ?_ ?_⟩
    · rintro j σ H4 hj ⟨s4, kvs, u2, u3, u4, u5, u6, u7, u8, rfl, t4, hk4⟩
      rw [show (0 : Int) + j = j by omega]
      have hj1 : j ≤ two.length := by rw [el2] at hj; omega
      refine ⟨_, rfl, rfl, _, rfl, ?_⟩
      have sr : Same H4 H4 := fun _ _ q => q
      have z0 : ∀ n : Nat, decide (V.int (n : Int) = V.int 0) = decide (n = 0) := fun n => by
        rw [decide_eq_decide]
        exact ⟨fun z => by injection z with z; omega, fun z => by rw [z]; rfl⟩
      rw [z0]
      by_cases hi0 : i = 0
      · rw [decide_eq_true hi0]
        refine iteT ?_
        refine ⟨_, rfl, _, rfl, _, _, rfl, rfl, ?_⟩
        refine ⟨_, rfl, _, rfl, _, rfl, (by show 2 ≤ sizeLine; decide), fun kb hkb => ?_⟩
        have sk := same_new hkb (.tup [.int (i : Int), .int (j : Int)])
        have t5 := (t4.same sr).same sk
        refine ⟨d, _, rfl, DPut.t (k := kp i j) t5.at_ upd_same (small1000 (by omega)), ?_⟩
        have tp := t5.put (i := i) (j := j) (v := .int ((i : Int) + (j : Int))) (by rw [hi0, ovL_zero _ _ _ hj1]; congr 1 <;> omega)
        refine ⟨Same.upd (s4.trans (sr.trans sk)) hd _, _, _, _, _, _, _, _, _, rfl, tp.imp (fun x y q => by omega), ?_⟩
        have := length_putK kvs (kp i j) (.int ((i : Int) + (j : Int)))
        omega
      · rw [decide_eq_false hi0]
        refine iteF ?_
        refine ⟨_, rfl, rfl, _, rfl, ?_⟩
        rw [z0]
        by_cases hj0 : j = 0
        · rw [decide_eq_true hj0]
          refine iteT ?_
          refine ⟨_, rfl, _, rfl, _, _, rfl, rfl, ?_⟩
          refine ⟨_, rfl, _, rfl, _, rfl, (by show 2 ≤ sizeLine; decide), fun kb hkb => ?_⟩
          have sk := same_new hkb (.tup [.int (i : Int), .int (j : Int)])
          have t5 := (t4.same sr).same sk
          refine ⟨d, _, rfl, DPut.t (k := kp i j) t5.at_ upd_same (small1000 (by omega)), ?_⟩
          have tp := t5.put (i := i) (j := j) (v := .int ((i : Int) + (j : Int))) (by rw [hj0, ovL_zero2 _ _ _ hi1]; congr 1 <;> omega)
          refine ⟨Same.upd (s4.trans (sr.trans sk)) hd _, _, _, _, _, _, _, _, _, rfl, tp.imp (fun x y q => by omega), ?_⟩
          have := length_putK kvs (kp i j) (.int ((i : Int) + (j : Int)))
          omega
        · rw [decide_eq_false hj0]
          refine iteF ?_
          obtain ⟨i', rfl⟩ : ∃ i', i = i' + 1 := ⟨i - 1, by omega⟩
          obtain ⟨j', rfl⟩ : ∃ j', j = j' + 1 := ⟨j - 1, by omega⟩
          have hoa := List.getElem?_eq_getElem (show i' < one.length by omega)
          generalize one[i'] = a at hoa
          have hob := List.getElem?_eq_getElem (show j' < two.length by omega)
          generalize two[j'] = b at hob
          have ci : (((i' + 1 : Nat) : Int) - 1) = (i' : Int) := by omega
          have cj : (((j' + 1 : Nat) : Int) - 1) = (j' : Int) := by omega
          refine ⟨_, rfl, _, rfl, _, _, rfl, rfl, p1, _, _, _, rfl, rfl, Same.seqT s4 t1, at_of (j := i') ci (int_at hoa), _, rfl, _, rfl, _, _, rfl, rfl, p2, _, _, _, rfl, rfl, Same.seqT s4 q2, at_of (j := j') cj (int_at hob), rfl, _, rfl, ?_⟩
          refine ite2 (fun c => ?_) (fun c => ?_)
          · have hab : a = b := by
              have := of_decide_eq_true c
              injection this
            refine ⟨_, rfl, _, rfl, _, _, rfl, rfl, _, rfl, _, _, rfl, rfl, (by show 2 ≤ sizeLine; decide), fun kc hkc => ?_⟩
            have sc := same_new hkc (.tup [.int (((i' + 1 : Nat) : Int) - 1), .int (((j' + 1 : Nat) : Int) - 1)])
            have gk : (upd H4 kc (.tup [.int (((i' + 1 : Nat) : Int) - 1), .int (((j' + 1 : Nat) : Int) - 1)])) kc = some (.tup ((kp i' j').map kV)) := by
              rw [upd_same, ci, cj]
              rfl
            refine ⟨d, .int (ovL one two i' j'), rfl, ?_, _, _, rfl, rfl, ?_⟩
            · have := DGet.t (t4.same sc).at_ gk
              rw [t4.get i' j' (by omega)] at this
              exact this
            refine ⟨_, rfl, _, rfl, _, rfl, (by show 2 ≤ sizeLine; decide), fun kb hkb => ?_⟩
            have sk := same_new hkb (.tup [.int ((i' + 1 : Nat) : Int), .int ((j' + 1 : Nat) : Int)])
            have t5 := (t4.same (sc)).same sk
            refine ⟨d, _, rfl, DPut.t (k := kp (i' + 1) (j' + 1)) t5.at_ upd_same (small1000 (by omega)), ?_⟩
            have tp := t5.put (i := i' + 1) (j := j' + 1) (v := .int (((ovL one two i' j' : Nat) : Int) + 1)) (by rw [ovL_eq hoa hob hab]; rfl)
            refine ⟨Same.upd (s4.trans ((sc).trans sk)) hd _, _, _, _, _, _, _, _, _, rfl, tp.imp (fun x y q => by omega), ?_⟩
            have := length_putK kvs (kp (i' + 1) (j' + 1)) (.int (((ovL one two i' j' : Nat) : Int) + 1))
            omega
          · have hab : a ≠ b := fun z => c (by rw [z]; exact decide_eq_true rfl)
            refine ⟨_, rfl, _, rfl, _, _, rfl, rfl, _, rfl, (by show 2 ≤ sizeLine; decide), fun kc hkc => ?_⟩
            have sc1 := same_new hkc (.tup [.int (((i' + 1 : Nat) : Int) - 1), .int ((j' + 1 : Nat) : Int)])
            have gk : (upd H4 kc (.tup [.int (((i' + 1 : Nat) : Int) - 1), .int ((j' + 1 : Nat) : Int)])) kc = some (.tup ((kp i' (j' + 1)).map kV)) := by
              rw [upd_same, ci]
              rfl
            refine ⟨d, .int (ovL one two i' (j' + 1)), rfl, ?_, ?_⟩
            · have := DGet.t (t4.same sc1).at_ gk
              rw [t4.get i' (j' + 1) (by omega)] at this
              exact this
            refine ⟨_, rfl, _, rfl, _, rfl, _, _, rfl, rfl, (by show 2 ≤ sizeLine; decide), fun ke hke => ?_⟩
            have sc2 := same_new hke (.tup [.int ((i' + 1 : Nat) : Int), .int (((j' + 1 : Nat) : Int) - 1)])
            have sc := sc1.trans sc2
            have gk2 : (upd (upd H4 kc (.tup [.int (((i' + 1 : Nat) : Int) - 1), .int ((j' + 1 : Nat) : Int)])) ke (.tup [.int ((i' + 1 : Nat) : Int), .int (((j' + 1 : Nat) : Int) - 1)])) ke = some (.tup ((kp (i' + 1) j').map kV)) := by
              rw [upd_same, cj]
              rfl
            refine ⟨d, .int (ovL one two (i' + 1) j'), rfl, ?_, _, _, rfl, _, _, rfl, rfl, ?_⟩
            · have := DGet.t (t4.same sc).at_ gk2
              rw [t4.get (i' + 1) j' (by omega)] at this
              exact this
            refine ⟨_, rfl, _, rfl, _, rfl, (by show 2 ≤ sizeLine; decide), fun kb hkb => ?_⟩
            have sk := same_new hkb (.tup [.int ((i' + 1 : Nat) : Int), .int ((j' + 1 : Nat) : Int)])
            have t5 := (t4.same (sc)).same sk
            refine ⟨d, _, rfl, DPut.t (k := kp (i' + 1) (j' + 1)) t5.at_ upd_same (small1000 (by omega)), ?_⟩
            have tp := t5.put (i := i' + 1) (j := j' + 1) (v := (.int ((if ((ovL one two (i' + 1) j' : Nat) : Int) < ((ovL one two i' (j' + 1) : Nat) : Int) then ((ovL one two (i' + 1) j' : Nat) : Int) else ((ovL one two i' (j' + 1) : Nat) : Int)) + 1))) (by
                          rw [ovL_ne hoa hob hab]
                          congr 1
                          by_cases c2 : ((ovL one two (i' + 1) j' : Nat) : Int) < ((ovL one two i' (j' + 1) : Nat) : Int)
                          · rw [if_pos c2, Nat.min_eq_right (by omega)]
                            rfl
                          · rw [if_neg c2, Nat.min_eq_left (by omega)]
                            rfl)
            refine ⟨Same.upd (s4.trans ((sc).trans sk)) hd _, _, _, _, _, _, _, _, _, rfl, tp.imp (fun x y q => by omega), ?_⟩
            have := length_putK kvs (kp (i' + 1) (j' + 1)) ((.int ((if ((ovL one two (i' + 1) j' : Nat) : Int) < ((ovL one two i' (j' + 1) : Nat) : Int) then ((ovL one two (i' + 1) j' : Nat) : Int) else ((ovL one two i' (j' + 1) : Nat) : Int)) + 1)))
            omega
    · rintro σ H4 ⟨s4, kvs, u2, u3, u4, u5, u6, u7, u8, rfl, t4, hk4⟩
      rw [el2] at t4 hk4
      exact ⟨s4, kvs, _, _, _, _, _, _, _, _, rfl, t4.imp (fun x y q => by omega), by omega⟩
  · rintro σ H3 ⟨s3, kvs, u1, u2, u3, u4, u5, u6, u7, u8, rfl, t3, hk3⟩
    have hov : valV kvs (kp one.length two.length) = some (.int ((sb one two).length : Nat)) := by
      rw [t3.get one.length two.length ⟨by rw [el1]; omega, Nat.le_refl _⟩, ovL_end]
    have hdo := t3.at_
    clear t3 hk3
    refine ⟨_, rfl, p2, _, rfl, .inr (Same.seqT s3 q2), _, _, rfl, rfl, _, rfl, by rw [el2]; omega, by rw [el2]; omega, fun D hD => ?_⟩
    refine lc_range (fun n H' => Same H3 H' ∧ ∃ rs : List Addr, rs.length = n ∧ BtAt H' D rs (fun _ _ => 0) ∧ (∀ a ∈ rs, H3 a = none)) ⟨same_new hD _, [], rfl, ⟨upd_same, List.nodup_nil, fun u a h => (by cases h)⟩, fun a h => (by cases h)⟩ ?_ ?_
    · rintro n H4 hn ⟨s4, rs, hrl, hb, hfr⟩
      refine ⟨rfl, ?_⟩
      refine ⟨(by show 4 ≤ sizeLine; decide), fun a ha => ?_⟩
      have sa := same_new ha (.lst [.int 0, .int 0, .int 0, .int 0])
      have hba := hb.same sa
      have nD : D ≠ a := fun z => by
        rw [← z, hb.at_] at ha
        cases ha
      refine ⟨_, hba.at_, ?_, Same.upd (s4.trans sa) hD _, rs ++ [a], by rw [List.length_append, hrl]; rfl, ⟨?_, ?_, fun w c hc => ?_⟩, fun c hc => ?_⟩
      · rw [List.length_map]
        exact small1000 (by rw [el2] at hn; omega)
      · rw [upd_same, List.map_append]
        rfl
      · refine nodup_snoc hb.nd fun z => ?_
        obtain ⟨w, hw⟩ := List.mem_iff_getElem?.mp z
        have := hb.row w a hw
        rw [ha] at this
        cases this
      · by_cases e : w < rs.length
        · rw [List.getElem?_append_left e] at hc
          rw [upd_ne (hba.ne hc)]
          exact hba.row w c hc
        · rw [List.getElem?_append_right (by omega)] at hc
          cases hw : w - rs.length with
          | zero =>
            rw [hw] at hc
            cases hc
            rw [upd_ne (Ne.symm nD)]
            exact upd_same
          | succ m =>
            rw [hw] at hc
            cases hc
      · rcases List.mem_append.mp hc with hc | hc
        · exact hfr c hc
        · rw [List.mem_singleton.mp hc]
          cases z : H3 a with
          | none => rfl
          | some o =>
            rw [s4 _ _ z] at ha
            cases ha
    · rintro H4 ⟨s4, rs, hrl, hb, hfr⟩
      rw [el2, show ((two.length : Int) + 1).toNat = two.length + 1 by omega] at hrl
      have s24 := s3.trans s4
      refine ⟨_, rfl, p1, rfl, ⟨_, Same.seqT s24 t1⟩, for_tup (K := K) (a := p1) (xs := one.map V.int) (fun n σ H' => Same H3 H' ∧ ∃ (u1 u2 u4 u5 u6 u7 u8 : Option V), σ = [some v, some u, some (.ref p1), some (.ref p2), some (.ref d), u1, u2, some (.ref D), u4, u5, u6, u7, u8] ∧ BtAt H' D rs (tabT (one.take n) two))
        ⟨s4, _, _, _, _, _, _, _, rfl, hb⟩ (fun n σ H' _ h => Same.seqT (s3.trans h.1) t1) ?_ ?_⟩
      · rintro n y σ H5 hi ⟨s5, u1, u2, u4, u5, u6, u7, u8, rfl, hb5⟩
        obtain ⟨x, hx, rfl⟩ := int_of hi
        have hx4 := hl41 x (List.mem_of_getElem? hx)
        rw [take_at hx, tabT_snoc]
        generalize tabT (one.take n) two = b0 at hb5
        have eX : stepX two b0 x = downT two x two.length b0 := rfl
        rw [eX]
        generalize hT : downT two x two.length b0 = bT
        refine ⟨_, rfl, p2, _, rfl, .inr (Same.seqT (s3.trans s5) q2), _, rfl, _, _, _, two.length, rfl, ?_, for_rangeC (lo := ((two.map V.int).length : Int)) (c := -1) (n := two.length) (fun m σ H' => Same H3 H' ∧ ∃ (b : TB) (u1 u2 u5 u6 u7 u8 : Option V), σ = [some v, some u, some (.ref p1), some (.ref p2), some (.ref d), u1, u2, some (.ref D), some (.int x), u5, u6, u7, u8] ∧ BtAt H' D rs b ∧ downT two x (two.length - m) b = bT)
          ⟨s5, b0, _, _, _, _, _, _, rfl, hb5, hT⟩ ?_ ?_⟩
        · rw [el2]
          have := RgC.neg (i := (two.length : Int)) (j := 0) (by omega) (by omega) (by omega) (by omega)
          rwa [show ((two.length : Int) - 0).toNat = two.length by omega] at this
        · rintro m σ H6 hm ⟨s6, b, u1, u2, u5, u6, u7, u8, rfl, hb6, hdn⟩
          obtain ⟨t, ht⟩ : ∃ t, two.length - m = t + 1 := ⟨two.length - m - 1, by omega⟩
          rw [el2, show ((two.length : Int) + (m : Nat) * (-1)) = ((t + 1 : Nat) : Int) by omega]
          rw [ht] at hdn
          have hdn : downT two x t (stepT two x b t) = bT := hdn
          have htl : t < two.length := by omega
          have hot := List.getElem?_eq_getElem htl
          generalize two[t] = c at hot
          have ct : (((t + 1 : Nat) : Int) - 1) = (t : Int) := by omega
          refine ⟨_, rfl, _, rfl, _, _, rfl, rfl, p2, _, _, _, rfl, rfl, Same.seqT (s3.trans s6) q2, at_of (j := t) ct (int_at hot), _, rfl, rfl, _, rfl, ?_⟩
          refine ite2 (fun e => ?_) (fun e => ?_)
          · have hcx : c = x := by
              have := of_decide_eq_true e
              injection this
            subst hcx
            obtain ⟨k4, hk4⟩ : ∃ k4 : Nat, c = (k4 : Int) := ⟨c.toNat, by omega⟩
            have hkl : k4 < 4 := by omega
            have hkt : c.toNat = k4 := by omega
            obtain ⟨rt, hrt⟩ : ∃ rt, rs[t]? = some rt := ⟨_, List.getElem?_eq_getElem (by omega)⟩
            have hrt2 : (rs.map V.ref)[t]? = some (.ref rt) := by rw [List.getElem?_map, hrt]; rfl
            refine ⟨(by show 1 ≤ sizeLine; decide), fun l1 hl1 => ?_⟩
            have sl1 := same_new hl1 (.lst [.int 0])
            refine ⟨_, rfl, by decide, by decide, fun D2 hD2 => ?_⟩
            refine lc_range (fun i H' => Same (upd H6 l1 (.lst [.int 0])) H' ∧ H' D2 = some (.lst ((((List.range i).filter fun a => decide (a ≠ k4)).map fun a => ((b t a : Nat) : Int)).map V.int)))
              ⟨same_new hD2 _, upd_same⟩ ?_ ?_
            · rintro i H7 hi ⟨s7, hd7⟩
              have hi4 : i < 4 := hi
              rw [show (0 : Int) + i = i by omega]
              have s67 := sl1.trans s7
              have eR : List.range (i + 1) = List.range i ++ [i] := List.range_succ
              refine ⟨rfl, ?_⟩
              refine ⟨_, rfl, _, rfl, rfl, _, rfl, ?_⟩
              refine ite2 (fun e2 => ?_) (fun e2 => ?_)
              · have hne : i ≠ k4 := fun z => by
                  rw [z, hk4] at e2
                  simp at e2
                refine ⟨_, rfl, _, rfl, _, _, rfl, rfl, D, _, _, _, rfl, rfl, SqL.of (s67 _ _ hb6.at_), at_of (j := t) ct hrt2, _, rfl, rt, _, _, _, rfl, rfl, SqL.of (s67 _ _ (hb6.row t rt hrt)), at_of (j := i) rfl (rowV_at hi4), _, hd7, ?_, Same.upd s7 hD2 _, ?_⟩
                · rw [List.length_map, List.length_map]
                  have := List.length_filter_le (fun a => decide (a ≠ k4)) (List.range i)
                  rw [List.length_range] at this
                  exact small1000 (by omega)
                · rw [upd_same, eR, List.filter_append, List.filter_cons_of_pos (by exact decide_eq_true hne), List.map_append, List.map_append]
                  rfl
              · have hne : ¬ i ≠ k4 := fun z => e2 (by
                  rw [Bool.not_eq_true', decide_eq_false_iff_not]
                  intro z2
                  injection z2 with z2
                  omega)
                refine ⟨s7, ?_⟩
                rw [hd7, eR, List.filter_append, List.filter_cons_of_neg (by rw [decide_eq_false hne]; decide), List.filter_nil, List.append_nil]
            · rintro H7 ⟨s7, hd7⟩
              have s67 := sl1.trans s7
              rw [show ((4 : Int).toNat) = 4 from rfl] at hd7
              have hnl : ((((List.range 4).filter fun a => decide (a ≠ k4)).map fun a => ((b t a : Nat) : Int)).map V.int).length ≤ 4 := by
                rw [List.length_map, List.length_map]
                have := List.length_filter_le (fun a => decide (a ≠ k4)) (List.range 4)
                rw [List.length_range] at this
                omega
              refine ⟨l1, D2, _, _, rfl, rfl, s7 _ _ upd_same, hd7, ?_, fun l3 hl3 => ?_⟩
              · show 1 + _ ≤ 2 ^ 24
                omega
              have s8 := same_new hl3 (.lst ([V.int 0] ++ ((((List.range 4).filter fun a => decide (a ≠ k4)).map fun a => ((b t a : Nat) : Int)).map V.int)))
              have s68 := s67.trans s8
              refine ⟨l3, 0 :: (((List.range 4).filter fun a => decide (a ≠ k4)).map fun a => ((b t a : Nat) : Int)), rfl, SqL.of upd_same, Nat.zero_lt_succ _, fun m2 hm2 hle => ?_⟩
              have hmx : m2 = ((mx b t k4 : Nat) : Int) := by
                have h1 : ((mx b t k4 : Nat) : Int) ≤ m2 := by
                  rcases foldl_max_of (f := b t) ((List.range 4).filter fun a => decide (a ≠ k4)) 0 with h | ⟨a, ha, h⟩
                  · have := hle 0 (List.mem_cons_self ..)
                    have e3 : mx b t k4 = 0 := h
                    rw [e3]
                    exact this
                  · have := hle ((b t a : Nat) : Int) (List.mem_cons_of_mem _ (List.mem_map.mpr ⟨a, ha, rfl⟩))
                    have e3 : mx b t k4 = b t a := h
                    rw [e3]
                    exact this
                have h2 : m2 ≤ ((mx b t k4 : Nat) : Int) := by
                  rcases List.mem_cons.mp hm2 with h | h
                  · omega
                  · obtain ⟨a, ha, rfl⟩ := List.mem_map.mp h
                    have := foldl_max_mem (f := b t) ((List.range 4).filter fun a => decide (a ≠ k4)) 0 a ha
                    exact Int.ofNat_le.mpr this
                omega
              refine ⟨_, _, rfl, rfl, ?_⟩
              show gName 9 (V.int (1 + m2)) _ _ _
              rw [show (1 + m2 : Int) = ((1 + mx b t k4 : Nat) : Int) by omega]
              have hstep : stepT two c b t = updT b k4 (t + 1) (1 + mx b t k4) := by
                unfold stepT
                rw [if_pos hot, hkt]
              rw [hstep] at hdn
              generalize 1 + mx b t k4 = L at hdn
              have hb8 := hb6.same s68
              have s38 := s6.trans s68
              generalize upd H7 l3 _ = H8 at hb8 s38
              refine ⟨_, rfl, _, rfl, p2, _, rfl, .inr (Same.seqT (s3.trans s38) q2), _, _, rfl, rfl, _, _, rfl, ⟨by omega, by omega, by rw [el2]; omega, by rw [el2]; omega⟩, ?_⟩
              refine for_range (lo := ((t + 1 : Nat) : Int)) (n := (((two.map V.int).length : Int) + 1 - ((t + 1 : Nat) : Int)).toNat) (fun j σ H' => Same H3 H' ∧ ∃ (u1 u6 u7 u8 : Option V), σ = [some v, some u, some (.ref p1), some (.ref p2), some (.ref d), u1, some (.int (t + 1 : Nat)), some (.ref D), some (.int c), some (.int L), u6, u7, u8] ∧
                BtAt H' D rs (fun w e => if t + 1 ≤ w ∧ w < t + 1 + j ∧ e = k4 then max (b w e) L else b w e)) ⟨s38, _, _, _, _, rfl, hb8.congr fun w _ => rowV_congr fun e _ => by rw [if_neg (by omega)]⟩ ?_ ?_
              · rintro j σ H9 hj ⟨s9, u1, u6, u7, u8, rfl, hb9⟩
                rw [el2] at hj
                have hw : t + 1 + j < rs.length := by omega
                rw [show ((t + 1 : Nat) : Int) + (j : Nat) = ((t + 1 + j : Nat) : Int) by omega]
                obtain ⟨ra, hra⟩ : ∃ ra, rs[t + 1 + j]? = some ra := ⟨_, List.getElem?_eq_getElem hw⟩
                have hra2 : (rs.map V.ref)[t + 1 + j]? = some (.ref ra) := by rw [List.getElem?_map, hra]; rfl
                have hrow := hb9.row _ _ hra
                have eb : (if t + 1 ≤ t + 1 + j ∧ t + 1 + j < t + 1 + j ∧ k4 = k4 then max (b (t + 1 + j) k4) L else b (t + 1 + j) k4) = b (t + 1 + j) k4 := if_neg (by omega)
                refine ⟨_, rfl, _, rfl, D, _, _, _, rfl, rfl, SqL.of hb9.at_, at_of (j := t + 1 + j) rfl hra2, ?_⟩
                refine ⟨_, rfl, _, rfl, ra, _, _, _, rfl, rfl, SqL.of hrow, at_of (j := k4) hk4 (rowV_at hkl), _, rfl, _, _, rfl, ?_⟩
                refine ⟨_, rfl, _, rfl, ra, _, c, k4, rfl, rfl, hrow, by rw [hk4]; exact ixN4 hkl, ?_⟩
                refine ⟨Same.upd s9 (hfr ra (List.mem_of_getElem? hra)) _, _, _, _, _, rfl, ?_⟩
                have hput := hb9.put (b' := fun w e => if t + 1 ≤ w ∧ w < t + 1 + (j + 1) ∧ e = k4 then max (b w e) L else b w e) hra fun w hw2 hne => rowV_congr fun e _ => by
                  by_cases cc : t + 1 ≤ w ∧ w < t + 1 + j ∧ e = k4
                  · rw [if_pos cc, if_pos ⟨cc.1, by omega, cc.2.2⟩]
                  · rw [if_neg cc, if_neg (by omega)]
                rw [rowV_set (b' := fun w e => if t + 1 ≤ w ∧ w < t + 1 + (j + 1) ∧ e = k4 then max (b w e) L else b w e) hkl ?_ ?_]
                · exact hput
                · show (((if t + 1 ≤ t + 1 + j ∧ t + 1 + j < t + 1 + (j + 1) ∧ k4 = k4 then max (b (t + 1 + j) k4) L else b (t + 1 + j) k4) : Nat) : Int) = _
                  rw [if_pos ⟨by omega, by omega, rfl⟩, eb]
                  by_cases cc : ((L : Nat) : Int) > ((b (t + 1 + j) k4 : Nat) : Int)
                  · rw [if_pos cc]
                    omega
                  · rw [if_neg cc]
                    omega
                · intro e he hne
                  show (if t + 1 ≤ t + 1 + j ∧ t + 1 + j < t + 1 + (j + 1) ∧ e = k4 then max (b (t + 1 + j) e) L else b (t + 1 + j) e) = (if t + 1 ≤ t + 1 + j ∧ t + 1 + j < t + 1 + j ∧ e = k4 then max (b (t + 1 + j) e) L else b (t + 1 + j) e)
                  rw [if_neg (fun z => hne z.2.2), if_neg (fun z => hne z.2.2)]
              · rintro σ H9 ⟨s9, u1, u6, u7, u8, rfl, hb9⟩
                rw [el2] at hb9
                refine ⟨s9, updT b k4 (t + 1) L, _, _, _, _, _, _, rfl, hb9.congr fun w hw => rowV_congr fun e _ => ?_, ?_⟩
                · show (if t + 1 ≤ w ∧ e = k4 then max (b w e) L else b w e) = (if t + 1 ≤ w ∧ w < t + 1 + ((two.length : Int) + 1 - ((t + 1 : Nat) : Int)).toNat ∧ e = k4 then max (b w e) L else b w e)
                  by_cases cc : t + 1 ≤ w ∧ e = k4
                  · rw [if_pos cc, if_pos ⟨cc.1, by omega, cc.2⟩]
                  · rw [if_neg cc, if_neg (by omega)]
                · rw [show two.length - (m + 1) = t by omega]
                  exact hdn
          · have hcx : ¬ c = x := fun z => e (by rw [z]; exact decide_eq_true rfl)
            refine ⟨s6, b, _, _, _, _, _, _, rfl, hb6, ?_⟩
            rw [show two.length - (m + 1) = t by omega, ← hdn]
            congr 1
            unfold stepT
            rw [if_neg (fun z => hcx (by rw [hot] at z; exact Option.some.inj z))]
        · rintro σ H6 ⟨s6, b, u1, u2, u5, u6, u7, u8, rfl, hb6, hdn⟩
          rw [Nat.sub_self] at hdn
          have hdn : b = bT := hdn
          rw [hdn] at hb6
          exact ⟨s6, _, _, _, _, _, _, _, rfl, hb6⟩
      · rintro σ H5 ⟨s5, u1, u2, u4, u5, u6, u7, u8, rfl, hb5⟩
        rw [el1, List.take_length] at hb5
        obtain ⟨ra, hra⟩ : ∃ ra, rs[two.length]? = some ra := ⟨_, List.getElem?_eq_getElem (by omega)⟩
        have hra2 : (rs.map V.ref)[two.length]? = some (.ref ra) := by rw [List.getElem?_map, hra]; rfl
        have hrow := hb5.row _ _ hra
        generalize hb : tabT one two = b at hb5 hrow
        refine ⟨_, rfl, _, rfl, p2, _, rfl, .inr (Same.seqT (s3.trans s5) q2), D, _, _, _, rfl, rfl, SqL.of hb5.at_, at_of (j := two.length) (by rw [el2]) hra2, ra, [((b two.length 0 : Nat) : Int), ((b two.length 1 : Nat) : Int), ((b two.length 2 : Nat) : Int), ((b two.length 3 : Nat) : Int)], rfl, SqL.of hrow, Nat.zero_lt_succ _, fun M hM hle => ?_⟩
        obtain ⟨c, hc, rfl⟩ : ∃ c, c < 4 ∧ M = ((b two.length c : Nat) : Int) := by
          rcases List.mem_cons.mp hM with h | hM
          · exact ⟨0, by omega, h⟩
          rcases List.mem_cons.mp hM with h | hM
          · exact ⟨1, by omega, h⟩
          rcases List.mem_cons.mp hM with h | hM
          · exact ⟨2, by omega, h⟩
          · exact ⟨3, by omega, List.mem_singleton.mp hM⟩
        have hle2 : ∀ e, e < 4 → b two.length e ≤ b two.length c := fun e he => by
          have h0 := hle ((b two.length 0 : Nat) : Int) (by simp)
          have h1 := hle ((b two.length 1 : Nat) : Int) (by simp)
          have h2 := hle ((b two.length 2 : Nat) : Int) (by simp)
          have h3 := hle ((b two.length 3 : Nat) : Int) (by simp)
          have e4 : e = 0 ∨ e = 1 ∨ e = 2 ∨ e = 3 := by omega
          rcases e4 with rfl | rfl | rfl | rfl <;> omega
        refine ⟨_, rfl, _, rfl, p1, _, rfl, .inr (Same.seqT (s3.trans s5) t1), _, rfl, p2, _, rfl, .inr (Same.seqT (s3.trans s5) q2), (by show 2 ≤ sizeLine; decide), fun kb hkb => ?_⟩
        have skb := same_new hkb (.tup [.int ((one.map V.int).length : Int), .int ((two.map V.int).length : Int)])
        refine ⟨d, .int ((sb one two).length : Nat), rfl, ?_, ?_⟩
        · rw [← hov]
          refine DGet.t (k := kp one.length two.length) (skb _ _ (s5 _ _ hdo)) ?_
          rw [el1, el2]
          exact upd_same
        refine ⟨(by show 2 ≤ sizeLine; decide), fun tt htt => ?_⟩
        subst hb
        refine k tt _ (tabT one two two.length c) (s1.trans (s2.trans (s3.trans (s5.trans (skb.trans (same_new htt _)))))) upd_same ⟨c, hc, rfl⟩ hle2
end
end Fl
end

section
set_option Elab.async false
set_option linter.all false
set_option maxRecDepth 100000
set_option maxHeartbeats 4000000
/-! The law's own: draws. -/
namespace Fl
open PySem PySem.Spec PyProof.Rows L2
theorem seq_cut {a b : TS} {D : Ends} {σ : L2.St} {H : Hp} (Pm : L2.St → Hp → Prop) (h2 : ∀ σ H, Pm σ H → b D σ H) (h1 : ∀ N : L2.St → Hp → Prop, (∀ σ H, Pm σ H → N σ H) → a { D with nx := N } σ H) : tSeq a b D σ H := h1 _ h2
/-- the hand of draws -/
structure HandAt (H : Hp) (a lc : Addr) : Prop where
  ex : ∃ (cells : List Int) (i : Nat) (x2 x3 x4 : Int), H a = some (.lst [.ref lc, .int i, .int x2, .int x3, .int x4]) ∧ H lc = some (.lst (cells.map V.int)) ∧ cells.length ≤ 100
theorem HandAt.same {H H' : Hp} {a lc : Addr} (e : Same H H') (t : HandAt H a lc) : HandAt H' a lc := by
  obtain ⟨cells, i, x2, x3, x4, h1, h2, h3⟩ := t.ex
  exact ⟨cells, i, x2, x3, x4, e _ _ h1, e _ _ h2, h3⟩
theorem HandAt.upd {H : Hp} {a lc D : Addr} {o : HO} (t : HandAt H a lc) (h1 : D ≠ a) (h2 : D ≠ lc) : HandAt (L2.upd H D o) a lc := by
  obtain ⟨cells, i, x2, x3, x4, e1, e2, e3⟩ := t.ex
  exact ⟨cells, i, x2, x3, x4, by rw [upd_ne (Ne.symm h1)]; exact e1, by rw [upd_ne (Ne.symm h2)]; exact e2, e3⟩
theorem HandAt.ne {H : Hp} {a lc D : Addr} (t : HandAt H a lc) (h : H D = none) : D ≠ a ∧ D ≠ lc := by
  obtain ⟨cells, i, x2, x3, x4, e1, e2, e3⟩ := t.ex
  refine ⟨fun z => ?_, fun z => ?_⟩
  · rw [z, e1] at h
    cases h
  · rw [z, e2] at h
    cases h
theorem hand_seq {K : PySem.W.Frag} {H H' : Hp} {a b lc : Addr} {xs : List V} (t : HandAt H a lc) (e : SameB a H H') (h : SqT K H b xs) : SqT K H' b xs := by
  obtain ⟨cells, i, x2, x3, x4, h1, h2, h3⟩ := t.ex
  exact SameB.seqT e (fun ys z => by rw [h1] at z; cases z) (fun o ys z => by rw [h1] at z; cases z) h
theorem hand_wd {K : PySem.W.Frag} {H H' : Hp} {a lc : Addr} {v : V} {u : List Int} (t : HandAt H a lc) (e : SameB a H H') (h : Wd K H v u) : Wd K H' v u := by
  obtain ⟨b, rfl, h⟩ := h
  exact ⟨b, rfl, hand_seq t e h⟩
theorem hand_put {H : Hp} {a lc : Addr} {cells : List Int} {y1 y2 y3 y4 : V} (h1 : H a = some (.lst [.ref lc, y1, y2, y3, y4])) (h2 : H lc = some (.lst (cells.map V.int))) (h3 : cells.length ≤ 100) (i : Nat) (x2 x3 x4 : Int) :
    HandAt (L2.upd H a (.lst [.ref lc, .int i, .int x2, .int x3, .int x4])) a lc ∧ (upd H a (.lst [.ref lc, .int i, .int x2, .int x3, .int x4])) lc = some (.lst (cells.map V.int)) ∧ SameB a H (upd H a (.lst [.ref lc, .int i, .int x2, .int x3, .int x4])) := by
  have n : lc ≠ a := fun z => by
    rw [z, h1] at h2
    injection h2 with h2
    injection h2 with h2
    cases cells with
    | nil => cases h2
    | cons x cells => cases h2
  have e2 : (upd H a (.lst [.ref lc, .int i, .int x2, .int x3, .int x4])) lc = some (.lst (cells.map V.int)) := by
    rw [upd_ne n]
    exact h2
  exact ⟨⟨cells, i, x2, x3, x4, upd_same, e2, h3⟩, e2, fun b o nb q => by rw [upd_ne nb]; exact q⟩
def spDraw : Sp := fun vs H Q _ => ∃ (a lc : Addr) (n : Int), vs = [.ref a, .int n] ∧ HandAt H a lc ∧ 1 ≤ n ∧ n < 1000000 ∧ ∀ d H', 0 ≤ d → d < n → SameB a H H' → HandAt H' a lc → Q (.int d) H'
section
variable {P : Program} {w : World} {K : PySem.W.Frag} {mg : Str → Option Value} {base : Heap} {f : Addr} {fd : FuncData}
abbrev s_law_draw : Stmt := top 37
theorem sc_law_draw : FnScope ["_law_hand_here", "_law_many", "_law_cell", "_law_digit", "_law_number"] ["_law_hand_here", "_law_many"] (defScope s_law_draw) := ⟨rfl, rfl, rfl, by decide +kernel, rfl, by decide +kernel, by decide +kernel⟩
theorem ok_law_draw (F : Fun K "_law_draw" "_law_draw" s_law_draw f fd) (B : Bn mg) : FnOk P w K mg base CX0 1 f fd ["_law_hand_here", "_law_many"] spDraw := by
  refine F.ok sc_law_draw (fun vs H Q E h => ?_) (fun cdv A outer s H vs Q E hr h => ?_)
  · obtain ⟨a, lc, n, rfl, _⟩ := h
    rfl
  obtain ⟨a, lc, n, rfl, hh, h1, h2, k⟩ := h
  refine ⟨_, (pss_cons (ps_if (PW.pt (pw_and (pt_cmpR op_eq (pe_ix ix_list (pv 0) pe_int (fun _ _ => rfl)) pe_int (nomark _)) (pw_and1 (pt_cmpR op_lt (pe_ix ix_list (pv 0) pe_int (fun _ _ => rfl)) (pe_callB call_len_seq (by rfl) B.len_ PySem.boot_len (pa_cons (pe_ix ix_list (pv 0) pe_int (fun _ _ => rfl)) pa_nil)) (nomark _))))) (pss_cons (ps_set (i := 2) sc_law_draw.nd rfl (Or.inl rfl) (pe_ix ix_list (pe_ix ix_list (pv 0) pe_int (fun _ _ => rfl)) (pe_ix ix_list (pv 0) pe_int (fun _ _ => rfl)) (fun _ _ => rfl)))
      (pss_cons (ps_asg (pe_op op_add (pe_ix ix_list (pv 0) pe_int (fun _ _ => rfl)) pe_int) (pg_sub (pv 0) pe_int set_list))
      (pss_cons (ps_asg (pe_op op_mod (pe_callTy call_int1 (by rfl) B.int_ (by decide +kernel) (pa_cons (pe_op op_add (pe_op op_add (pe_op op_mul (pe_ix ix_list (pv 0) pe_int (fun _ _ => rfl)) pe_int) (pv 2)) pe_int) pa_nil)) pe_int) (pg_sub (pv 0) pe_int set_list))
      (pss_one (ps_if (pt_cmpR op_ge (pv 2) (pe_op op_pow pe_int pe_int) (nomark _)) (pss_one (ps_asg (pv 2) (pg_sub (pv 0) pe_int set_list))) pss_nil))))) pss_nil)
      (pss_cons (ps_if (pt_cmpR op_gt (pe_ix ix_list (pv 0) pe_int (fun _ _ => rfl)) pe_int (nomark _)) (pss_cons (ps_set (i := 3) sc_law_draw.nd rfl (Or.inl rfl) (pe_op op_modN (pe_callTy call_int1 (by rfl) B.int_ (by decide +kernel) (pa_cons (pe_ix ix_list (pv 0) pe_int (fun _ _ => rfl)) pa_nil)) (pv 1)))
      (pss_cons (ps_asg (pe_op op_fdivN (pe_ix ix_list (pv 0) pe_int (fun _ _ => rfl)) (pv 1)) (pg_sub (pv 0) pe_int set_list))
      (pss_one (ps_ret (pv 3))))) pss_nil)
      (pss_cons (ps_asg (pe_op op_add (pe_ix ix_list (pv 0) pe_int (fun _ _ => rfl)) pe_int) (pg_sub (pv 0) pe_int set_list))
      (pss_cons (ps_set (i := 4) sc_law_draw.nd rfl (Or.inl rfl) (pe_op op_mod (pe_callTy call_int1 (by rfl) B.int_ (by decide +kernel) (pa_cons (pe_op op_mul (pe_callTy call_int1 (by rfl) B.int_ (by decide +kernel) (pa_cons (pe_op op_add (pe_ix ix_list (pv 0) pe_int (fun _ _ => rfl)) (pe_op op_mul pe_int (pe_ix ix_list (pv 0) pe_int (fun _ _ => rfl)))) pa_nil)) pe_int) pa_nil)) pe_int))
      (pss_cons (ps_set (i := 4) sc_law_draw.nd rfl (Or.inl rfl) (pe_op op_mod (pe_callTy call_int1 (by rfl) B.int_ (by decide +kernel) (pa_cons (pe_op op_mul (pv 4) (pe_op op_add (pe_op op_fdiv (pv 4) pe_int) pe_int)) pa_nil)) pe_int))
      (pss_cons (ps_set (i := 4) sc_law_draw.nd rfl (Or.inl rfl) (pe_op op_mod (pe_callTy call_int1 (by rfl) B.int_ (by decide +kernel) (pa_cons (pe_op op_mul (pv 4) (pe_op op_add (pe_op op_fdiv (pv 4) pe_int) pe_int)) pa_nil)) pe_int))
      (pss_one (ps_ret (pe_op op_modN (pe_callTy call_int1 (by rfl) B.int_ (by decide +kernel) (pa_cons (pe_op op_fdiv (pv 4) pe_int) pa_nil)) (pv 1)))))))))), ?_⟩
  have modr : ∀ z : Int, 0 ≤ z.fmod n ∧ z.fmod n < n := fun z => by
    rw [Int.fmod_eq_emod_of_nonneg z (by omega)]
    exact ⟨Int.emod_nonneg _ (by omega), Int.emod_lt_of_pos _ (by omega)⟩
  refine seq_cut (fun σ H' => SameB a H H' ∧ HandAt H' a lc ∧ ∃ u1 u2 u3 : Option V, σ = [some (.ref a), some (.int n), u1, u2, u3]) ?_ (fun N hN => ?_)
  · rintro σ H1 ⟨sb, hh1, u1, u2, u3, rfl⟩
    obtain ⟨cells, i, x2, x3, x4, e1, e2, e3⟩ := id hh1.ex
    refine ⟨_, rfl, a, _, _, _, rfl, rfl, SqL.of e1, at_of (j := 2) rfl rfl, _, _, rfl, rfl, _, rfl, ?_⟩
    refine ite2 (fun c => ?_) (fun c => ?_)
    · refine ⟨_, rfl, a, _, _, _, rfl, rfl, SqL.of e1, at_of (j := 2) rfl rfl, .inl ⟨_, rfl, _, rfl, _, _, rfl, rfl, (by show n ≠ 0; omega), ?_⟩⟩
      refine ⟨_, rfl, a, _, _, _, rfl, rfl, SqL.of e1, at_of (j := 2) rfl rfl, _, rfl, _, _, rfl, rfl, ⟨by omega, by omega⟩, ?_⟩
      obtain ⟨p1, p2, p3⟩ := hand_put e1 e2 e3 i (x2.fdiv n) x3 x4
      refine ⟨_, rfl, a, _, _, 2, rfl, rfl, e1, rfl, ?_⟩
      exact ⟨_, rfl, k _ _ (modr _).1 (modr _).2 (SameB.trans sb p3) p1⟩
    · refine ⟨_, rfl, a, _, _, _, rfl, rfl, SqL.of e1, at_of (j := 4) rfl rfl, _, _, rfl, rfl, ?_⟩
      obtain ⟨p1, p2, p3⟩ := hand_put e1 e2 e3 i x2 x3 (x4 + 1)
      refine ⟨_, rfl, a, _, _, 4, rfl, rfl, e1, rfl, ?_⟩
      show _
      have e4 : (upd H1 a (.lst [.ref lc, .int i, .int x2, .int x3, .int (x4 + 1)])) a = some (.lst [.ref lc, .int i, .int x2, .int x3, .int (x4 + 1)]) := upd_same
      refine ⟨_, rfl, a, _, _, _, rfl, rfl, SqL.of e4, at_of (j := 3) rfl rfl, _, rfl, a, _, _, _, rfl, rfl, SqL.of e4, at_of (j := 4) rfl rfl, _, _, rfl, rfl, .inl ⟨by decide, by decide⟩, _, _, rfl, rfl, .inl ⟨_, rfl, _, _, rfl, rfl, .inr ⟨by decide, by decide⟩, .inl ⟨_, rfl, _, _, rfl, rfl, (by show (0 : Int) < _; decide), ?_⟩⟩⟩
      generalize hz1 : ((x3 + 7919 * (x4 + 1)) * 48271) % 2147483647 = z1
      have hz1' : 0 ≤ z1 ∧ z1 < 2147483647 := by omega
      refine ⟨_, rfl, _, rfl, _, _, rfl, rfl, ⟨by decide, by decide⟩, _, _, rfl, rfl, _, _, rfl, rfl, .inl ⟨by omega, by omega⟩, .inl ⟨_, rfl, _, _, rfl, rfl, (by show (0 : Int) < _; decide), ?_⟩⟩
      generalize hz2 : (z1 * (z1 / 1009 + 69621)) % 2147483647 = z2
      have hz2' : 0 ≤ z2 ∧ z2 < 2147483647 := by omega
      refine ⟨_, rfl, _, rfl, _, _, rfl, rfl, ⟨by decide, by decide⟩, _, _, rfl, rfl, _, _, rfl, rfl, .inl ⟨by omega, by omega⟩, .inl ⟨_, rfl, _, _, rfl, rfl, (by show (0 : Int) < _; decide), ?_⟩⟩
      generalize (z2 * (z2 / 2003 + 40692)) % 2147483399 = z3
      refine ⟨_, rfl, _, _, rfl, rfl, ⟨by decide, by decide⟩, .inl ⟨_, rfl, _, rfl, _, _, rfl, rfl, (by show n ≠ 0; omega), ?_⟩⟩
      exact k _ _ (modr _).1 (modr _).2 (SameB.trans sb p3) p1
  · obtain ⟨cells, i, x2, x3, x4, e1, e2, e3⟩ := id hh.ex
    have same0 : ∀ u1 u2 u3 : Option V, N [some (.ref a), some (.int n), u1, u2, u3] H := fun u1 u2 u3 => hN _ _ ⟨fun _ _ _ q => q, hh, u1, u2, u3, rfl⟩
    refine ⟨_, rfl, a, _, _, _, rfl, rfl, SqL.of e1, at_of (j := 2) rfl rfl, rfl, _, rfl, ?_⟩
    refine ite2 (fun c => ?_) (fun c => iteF (same0 _ _ _))
    refine ⟨_, rfl, a, _, _, _, rfl, rfl, SqL.of e1, at_of (j := 1) rfl rfl, _, rfl, a, _, _, _, rfl, rfl, SqL.of e1, at_of (j := 0) rfl rfl, lc, _, rfl, .inl (SqL.of e2), _, _, rfl, rfl, _, rfl, ?_⟩
    refine ite2 (fun c2 => ?_) (fun c2 => same0 _ _ _)
    have hic : i < cells.length := by
      have := of_decide_eq_true c2
      rw [List.length_map] at this
      omega
    have hcell := int_at (List.getElem?_eq_getElem hic)
    generalize cells[i] = z at hcell
    refine ⟨_, rfl, a, _, _, _, rfl, rfl, SqL.of e1, at_of (j := 0) rfl rfl, _, rfl, a, _, _, _, rfl, rfl, SqL.of e1, at_of (j := 1) rfl rfl, lc, _, _, _, rfl, rfl, SqL.of e2, at_of (j := i) rfl hcell, ?_⟩
    refine ⟨_, rfl, a, _, _, _, rfl, rfl, SqL.of e1, at_of (j := 1) rfl rfl, _, _, rfl, rfl, ?_⟩
    obtain ⟨p1, p2, p3⟩ := hand_put e1 e2 e3 (i + 1) x2 x3 x4
    refine ⟨_, rfl, a, _, _, 1, rfl, rfl, e1, rfl, ?_⟩
    show _
    have e4 : (upd H a (.lst [.ref lc, .int (i + 1 : Nat), .int x2, .int x3, .int x4])) a = some (.lst [.ref lc, .int (i + 1 : Nat), .int x2, .int x3, .int x4]) := upd_same
    refine ⟨_, rfl, a, _, _, _, rfl, rfl, SqL.of e4, at_of (j := 3) rfl rfl, _, _, rfl, rfl, .inr ⟨by decide, by decide⟩, _, rfl, _, _, rfl, rfl, _, _, rfl, rfl, .inl ⟨_, rfl, _, _, rfl, rfl, (by show (0 : Int) < _; decide), ?_⟩⟩
    obtain ⟨r1, r2, r3⟩ := hand_put e4 p2 e3 (i + 1) x2 ((x3 * 69621 + z + 11) % 2147483629) x4
    refine ⟨_, rfl, a, _, _, 3, rfl, rfl, e4, rfl, ?_⟩
    show _
    have e5 : (upd (upd H a (.lst [.ref lc, .int (i + 1 : Nat), .int x2, .int x3, .int x4])) a (.lst [.ref lc, .int (i + 1 : Nat), .int x2, .int ((x3 * 69621 + z + 11) % 2147483629), .int x4])) a = some (.lst [.ref lc, .int (i + 1 : Nat), .int x2, .int ((x3 * 69621 + z + 11) % 2147483629), .int x4]) := upd_same
    have sb5 := SameB.trans p3 r3
    have e2' := r2
    refine ⟨_, rfl, _, _, rfl, rfl, ⟨by decide, by decide, by decide⟩, _, _, rfl, rfl, _, rfl, ?_⟩
    refine ite2 (fun c3 => ?_) (fun c3 => hN _ _ ⟨sb5, r1, _, _, _, rfl⟩)
    obtain ⟨q1, q2, q3⟩ := hand_put e5 e2' e3 (i + 1) z ((x3 * 69621 + z + 11) % 2147483629) x4
    refine ⟨_, rfl, _, rfl, a, _, _, 2, rfl, rfl, e5, rfl, ?_⟩
    exact hN _ _ ⟨SameB.trans sb5 q3, q1, _, _, _, rfl⟩
def spHand (K : PySem.W.Frag) : Sp := fun vs H Q _ => ∃ (a : Addr) (ns : List Int), vs = [.ref a] ∧ SqL K H a (ns.map V.int) ∧ ns.length ≤ 63 ∧ ∀ r lc H', Same H H' → HandAt H' r lc → H r = none → Q (.ref r) H'
def spSome : Sp := fun vs H Q _ => ∃ (a lc l : Addr) (xs : List V), vs = [.ref a, .ref l] ∧ HandAt H a lc ∧ H l = some (.lst xs) ∧ l ≠ a ∧ 1 ≤ xs.length ∧ xs.length ≤ 100 ∧ ∀ y H', y ∈ xs → SameB a H H' → HandAt H' a lc → Q y H'
def spLRow (K : PySem.W.Frag) : Sp := fun vs H Q _ => ∃ (a lc : Addr) (L M : Int), vs = [.ref a, .int L, .int M] ∧ HandAt H a lc ∧ 1 ≤ L ∧ L ≤ 4 ∧ 1 ≤ M ∧ M ≤ 100 ∧
  ∀ r xs H', SameB a H H' → HandAt H' a lc → Wd K H' r xs → 1 ≤ xs.length → (xs.length : Int) ≤ M → (∀ c ∈ xs, 0 ≤ c ∧ c < 4) → Q r H'
abbrev s_law_hand : Stmt := top 36
theorem sc_law_hand : FnScope ["_law_script", "_law_cells", "_law_cell"] ["_law_script"] (defScope s_law_hand) := ⟨rfl, rfl, rfl, by decide +kernel, rfl, by decide +kernel, by decide +kernel⟩
theorem ok_law_hand (F : Fun K "_law_hand" "_law_hand" s_law_hand f fd) (B : Bn mg) : FnOk P w K mg base CX0 1 f fd ["_law_script"] (spHand K) := by
  refine F.ok sc_law_hand (fun vs H Q E h => ?_) (fun cdv A outer s H vs Q E hr h => ?_)
  · obtain ⟨a, ns, rfl, _⟩ := h
    rfl
  obtain ⟨a, ns, rfl, hS, hl, k⟩ := h
  refine ⟨_, (pss_cons (ps_setLc (i := 1) (own := [("_law_cell", 2)]) (by rfl) sc_law_hand.nd rfl rfl (sw_true rfl rfl rfl (by decide +kernel)) (pi_list (pe_slice sl_list (pv 0) po_none (po_some pe_int))) (blkOk_by (N := ["_law_script", "_law_cells", "_law_cell"]) (sc := defScope s_law_hand) (by decide +kernel)) (fun _ _ _ _ _ => (pg_name (i := 2) sc_law_hand.nd rfl (Or.inl rfl))) (fun _ _ _ _ _ => pts_nil) (fun _ _ _ _ _ => (pe_callB call_abs (by rfl) B.abs_ (by decide +kernel) (pa_cons (pe_callTy call_int1 (by rfl) B.int_ (by decide +kernel) (pa_cons (pv 2) pa_nil)) pa_nil))))
      (pss_one (ps_ret (pe_lst (pa_cons (pv 1) (pa_cons pe_int (pa_cons pe_int (pa_cons (pe_op op_add pe_int (pe_callB call_len_seq (by rfl) B.len_ PySem.boot_len (pa_cons (pv 1) pa_nil))) (pa_cons pe_int pa_nil))))))))), ?_⟩
  refine ⟨_, rfl, _, rfl, a, _, rfl, hS, fun l1 hl1 => ?_⟩
  have s1 := same_new hl1 (.lst (cutV (ns.map V.int) none (some 63)))
  obtain ⟨ms, hms, hml⟩ : ∃ ms : List Int, cutV (ns.map V.int) none (some 63) = ms.map V.int ∧ ms.length ≤ 63 := by
    refine ⟨(ns.drop (HT.sIx (ns.map V.int).length 0 none)).take (HT.sIx (ns.map V.int).length (ns.map V.int).length (some 63) - HT.sIx (ns.map V.int).length 0 none), ?_, ?_⟩
    · unfold cutV
      rw [List.map_take, List.map_drop]
    · rw [List.length_take, List.length_drop]
      omega
  rw [hms] at s1 ⊢
  refine ⟨l1, rfl, ⟨_, SqL.of upd_same⟩, fun D hD => ?_⟩
  refine lc_list (K := K) (a := l1) (xs := ms.map V.int) (fun j H' => Same (upd H l1 (.lst (ms.map V.int))) H' ∧ ∃ zs : List Int, zs.length = j ∧ H' D = some (.lst (zs.map V.int))) ⟨same_new hD _, [], rfl, upd_same⟩ (fun j H' _ h => SqL.of (h.1 _ _ upd_same)) ?_ ?_
  · rintro j y H2 hj ⟨s2, zs, hzl, hd⟩
    obtain ⟨c, hc, rfl⟩ := int_of hj
    have hjl := (List.getElem?_eq_some_iff.mp hc).1
    refine ⟨rfl, ?_⟩
    refine ⟨_, rfl, .inl ⟨_, rfl, _, rfl, _, hd, ?_, Same.upd s2 hD _, zs ++ [if c < 0 then -c else c], by rw [List.length_append, hzl]; rfl, ?_⟩⟩
    · rw [List.length_map]
      exact small1000 (by omega)
    · rw [upd_same, List.map_append]
      rfl
  · rintro H2 ⟨s2, zs, hzl, hd⟩
    rw [List.length_map] at hzl
    refine ⟨_, rfl, _, rfl, D, _, rfl, .inl (SqL.of hd), _, _, rfl, rfl, (by show 5 ≤ sizeLine; decide), fun r hr0 => ?_⟩
    have s3 := s1.trans s2
    have s4 := same_new hr0 (.lst [.ref D, .int 0, .int 0, .int (1 + ((zs.map V.int).length : Int)), .int 0])
    exact k r D _ (s3.trans s4) ⟨zs, 0, 0, _, 0, upd_same, s4 _ _ hd, by omega⟩ (s3.free hr0)
abbrev s_law_some : Stmt := top 38
theorem sc_law_some : FnScope ["_law_hand_here", "_law_things"] ["_law_hand_here", "_law_things"] (defScope s_law_some) := ⟨rfl, rfl, rfl, by decide +kernel, rfl, by decide +kernel, by decide +kernel⟩
theorem ok_law_some (F : Fun K "_law_some" "_law_some" s_law_some f fd) (B : Bn mg) {f1 : Addr} {fd1 : FuncData} (k_law_draw : Kn P w K mg base CX0 1 "_law_draw" ["_law_hand_here", "_law_many"] spDraw f1 fd1) : FnOk P w K mg base CX0 2 f fd ["_law_hand_here", "_law_things"] spSome := by
  refine F.ok sc_law_some (fun vs H Q E h => ?_) (fun cdv A outer s H vs Q E hr h => ?_)
  · obtain ⟨a, lc, l, xs, rfl, _⟩ := h
    rfl
  obtain ⟨a, lc, l, xs, rfl, hh, hl, hn, h1, h2, k⟩ := h
  refine ⟨_, (pss_one (ps_ret (pe_ix ix_list (pv 1) (pk k_law_draw hr (by omega) pass0 (pa_cons (pv 0) (pa_cons (pe_callB call_len_seq (by rfl) B.len_ PySem.boot_len (pa_cons (pv 1) pa_nil)) pa_nil))) (fun _ _ => rfl)))), ?_⟩
  refine ⟨_, rfl, _, rfl, _, rfl, l, _, rfl, .inl (SqL.of hl), a, lc, _, rfl, hh, by omega, by omega, fun d H' d0 d1 sb hh' => ?_⟩
  have hlt : d.toNat < xs.length := by omega
  have hx := List.getElem?_eq_getElem hlt
  exact ⟨l, _, _, _, rfl, rfl, SqL.of (sb _ _ hn hl), at_of (j := d.toNat) (by omega) hx, k _ H' (List.mem_of_getElem? hx) sb hh'⟩
abbrev s_law_row : Stmt := top 40
theorem sc_law_row : FnScope ["_law_hand_here", "_law_letters", "_law_most", "_law_many", "_law_k", "_law_found"] ["_law_hand_here", "_law_letters", "_law_most"] (defScope s_law_row) := ⟨rfl, rfl, rfl, by decide +kernel, rfl, by decide +kernel, by decide +kernel⟩
theorem ok_law_row (F : Fun K "_law_row" "_law_row" s_law_row f fd) (B : Bn mg) {f1 : Addr} {fd1 : FuncData} (k_law_draw : Kn P w K mg base CX0 1 "_law_draw" ["_law_hand_here", "_law_many"] spDraw f1 fd1) : FnOk P w K mg base CX0 2 f fd ["_law_hand_here", "_law_letters", "_law_most"] (spLRow K) := by
  refine F.ok sc_law_row (fun vs H Q E h => ?_) (fun cdv A outer s H vs Q E hr h => ?_)
  · obtain ⟨a, lc, L, M, rfl, _⟩ := h
    rfl
  obtain ⟨a, lc, L, M, rfl, hh, hL1, hL2, hM1, hM2, k⟩ := h
  refine ⟨_, (pss_cons (ps_set (i := 3) sc_law_row.nd rfl (Or.inl rfl) (pe_op op_add pe_int (pk k_law_draw hr (by omega) pass0 (pa_cons (pv 0) (pa_cons (pv 2) pa_nil)))))
      (pss_cons (ps_if (pt_cmpR op_eq (pk k_law_draw hr (by omega) pass0 (pa_cons (pv 0) (pa_cons pe_int pa_nil))) pe_int (nomark _)) (pss_one (ps_ret (pe_callTy call_tuple_of (by rfl) B.tuple_ (by decide +kernel) (pa_cons (pe_lc (own := [("_law_k", 4)]) (by rfl) sc_law_row.nd (pi_range1 (by rfl) B.range_ (pa_cons (pv 3) pa_nil)) (blkOk_by (N := ["_law_hand_here", "_law_letters", "_law_most", "_law_many", "_law_k", "_law_found"]) (sc := defScope s_law_row) (by decide +kernel)) (fun _ _ _ _ _ => (pg_name (i := 4) sc_law_row.nd rfl (Or.inl rfl))) (fun _ _ _ _ _ => pts_nil) (fun _ _ _ _ _ => (pk k_law_draw hr (by omega) pass0 (pa_cons (pv 0) (pa_cons (pv 1) pa_nil))))) pa_nil)))) pss_nil)
      (pss_cons (ps_set (i := 5) sc_law_row.nd rfl (Or.inl rfl) (pe_lst pa_nil))
      (pss_cons (ps_for PassesOwn.never rfl (pi_range1 (by rfl) B.range_ (pa_cons (pv 3) pa_nil)) (pg_name (i := 4) sc_law_row.nd rfl (Or.inl rfl))
      (pss_one (ps_if (pt_cmpR op_lt (pe_callB call_len_seq (by rfl) B.len_ PySem.boot_len (pa_cons (pv 5) pa_nil)) (pv 3) (nomark _)) (pss_one (ps_expr (pe_bm PySem.F.plainAttrs_list PySem.F.slot_list_extend PySem.F.type_list_extend mt_extend (pv 5) (pa_cons (pe_op op_rep (pe_lst (pa_cons (pk k_law_draw hr (by omega) pass0 (pa_cons (pv 0) (pa_cons (pv 1) pa_nil))) pa_nil)) (pe_op op_add pe_int (pk k_law_draw hr (by omega) pass0 (pa_cons (pv 0) (pa_cons pe_int pa_nil))))) pa_nil)))) pss_nil)))
      (pss_one (ps_ret (pe_callTy call_tuple_of (by rfl) B.tuple_ (by decide +kernel) (pa_cons (pe_slice sl_list (pv 5) po_none (po_some (pv 3))) pa_nil)))))))), ?_⟩
  refine ⟨_, rfl, _, rfl, a, lc, M, rfl, hh, by omega, by omega, fun d1 H1 d10 d11 sb1 hh1 => ⟨_, _, rfl, rfl, ?_⟩⟩
  show gName _ (V.int (1 + d1)) _ _ _
  obtain ⟨n, hn⟩ : ∃ n : Nat, 1 + d1 = (n : Int) := ⟨(1 + d1).toNat, by omega⟩
  rw [hn]
  refine ⟨_, rfl, a, lc, 2, rfl, hh1, by omega, by omega, fun d2 H2 d20 d21 sb2 hh2 => ⟨rfl, _, rfl, ?_⟩⟩
  have sb12 := SameB.trans sb1 sb2
  refine ite2 (fun c => ?_) (fun c => ?_)
  · refine ⟨_, rfl, _, rfl, by omega, by omega, fun D hD => ?_⟩
    obtain ⟨nD, nL⟩ := hh2.ne hD
    have sD := same_new hD (.lst [])
    refine lc_range (fun j H' => SameB a H2 H' ∧ HandAt H' a lc ∧ ∃ zs : List Int, zs.length = j ∧ H' D = some (.lst (zs.map V.int)) ∧ ∀ c ∈ zs, 0 ≤ c ∧ c < 4) ⟨Same.b sD a, hh2.same sD, [], rfl, upd_same, fun c h => (by cases h)⟩ ?_ ?_
    · rintro j H3 hj ⟨sb3, hh3, zs, hzl, hd, hz4⟩
      refine ⟨rfl, ?_⟩
      refine ⟨_, rfl, _, rfl, a, lc, L, rfl, hh3, by omega, by omega, fun d3 H4 d30 d31 sb4 hh4 => ?_⟩
      have hd4 := sb4 _ _ nD hd
      refine ⟨_, hd4, ?_, SameB.upd (SameB.trans sb3 sb4) (.inr hD) _, hh4.upd nD nL, zs ++ [d3], by rw [List.length_append, hzl]; rfl, ?_, fun c hc => ?_⟩
      · rw [List.length_map]
        exact small1000 (by omega)
      · rw [upd_same, List.map_append]
        rfl
      · rcases List.mem_append.mp hc with hc | hc
        · exact hz4 c hc
        · rw [List.mem_singleton.mp hc]
          omega
    · rintro H3 ⟨sb3, hh3, zs, hzl, hd, hz4⟩
      refine ⟨D, _, rfl, .inl ⟨SqL.of hd, fun l hl => ?_⟩⟩
      have sl := same_new hl (.tup (zs.map V.int))
      exact k _ zs _ (SameB.trans (SameB.trans sb12 sb3) (Same.b sl a)) (hh3.same sl) (Wd.new upd_same) (by omega) (by omega) hz4
  · refine ⟨Nat.zero_le _, fun D hD => ?_⟩
    obtain ⟨nD, nL⟩ := hh2.ne hD
    have sD := same_new hD (.lst [])
    refine ⟨_, rfl, _, rfl, by omega, by omega, for_range (lo := 0) (n := (n : Int).toNat) (fun j σ H' => SameB a H2 H' ∧ HandAt H' a lc ∧ ∃ (zs : List Int) (u5 : Option V), σ = [some (.ref a), some (.int L), some (.int M), some (.int n), u5, some (.ref D)] ∧ H' D = some (.lst (zs.map V.int)) ∧ (∀ c ∈ zs, 0 ≤ c ∧ c < 4) ∧ zs.length ≤ 103 ∧ (j ≤ zs.length ∨ n ≤ zs.length))
      ⟨Same.b sD a, hh2.same sD, [], _, rfl, upd_same, fun c h => (by cases h), by decide, .inl (Nat.le_refl _)⟩ ?_ ?_⟩
    · rintro j σ H3 hj ⟨sb3, hh3, zs, u5, rfl, hd, hz4, hzl, hj2⟩
      refine ⟨_, rfl, D, _, rfl, .inl (SqL.of hd), _, rfl, _, _, rfl, rfl, _, rfl, ?_⟩
      rw [List.length_map]
      refine ite2 (fun c2 => ?_) (fun c2 => ?_)
      · have c2 := of_decide_eq_true c2
        refine ⟨_, rfl, .inl ⟨rfl, _, SqL.of hd⟩, _, rfl, _, rfl, a, lc, L, rfl, hh3, by omega, by omega, fun d3 H4 d30 d31 sb4 hh4 => ⟨(by show 1 ≤ sizeLine; decide), fun l1 hl1 => ?_⟩⟩
        obtain ⟨nl1, nl2⟩ := hh4.ne hl1
        have sl := same_new hl1 (.lst [.int d3])
        refine ⟨_, rfl, a, lc, 3, rfl, hh4.same sl, by omega, by omega, fun d5 H5 d50 d51 sb5 hh5 => ⟨_, _, rfl, rfl, l1, _, _, rfl, rfl, sb5 _ _ nl1 upd_same, by omega, by omega, ?_, fun p hp => ?_⟩⟩
        · show 1 * (1 + d5).toNat ≤ 2 ^ 24
          omega
        have sp := same_new hp (.lst (List.replicate (1 + d5).toNat [V.int d3]).flatten)
        have hd5 : (upd H5 p (.lst (List.replicate (1 + d5).toNat [V.int d3]).flatten)) D = some (.lst (zs.map V.int)) := sp _ _ (sb5 _ _ nD (sl _ _ (sb4 _ _ nD hd)))
        have erep : (List.replicate (1 + d5).toNat [V.int d3]).flatten = (List.replicate (1 + d5).toNat d3).map V.int := by
          rw [List.flatten_replicate_singleton, List.map_replicate]
        refine ⟨D, p, _, _, rfl, rfl, hd5, upd_same, ?_, ?_⟩
        · rw [erep, List.length_map, List.length_map, List.length_replicate]
          show _ ≤ 2 ^ 24
          omega
        · refine ⟨SameB.upd (SameB.trans sb3 (SameB.trans sb4 (SameB.trans (Same.b sl a) (SameB.trans sb5 (Same.b sp a))))) (.inr hD) _, (hh5.same sp).upd nD nL, zs ++ List.replicate (1 + d5).toNat d3, _, rfl, ?_, fun c hc => ?_, ?_, ?_⟩
          · rw [upd_same, List.map_append, erep]
          · rcases List.mem_append.mp hc with hc | hc
            · exact hz4 c hc
            · rw [(List.mem_replicate.mp hc).2]
              omega
          · rw [List.length_append, List.length_replicate]
            omega
          · rw [List.length_append, List.length_replicate]
            omega
      · have c2 := of_decide_eq_false (Bool.eq_false_iff.mpr c2)
        exact ⟨sb3, hh3, zs, _, rfl, hd, hz4, hzl, .inr (by omega)⟩
    · rintro σ H3 ⟨sb3, hh3, zs, u5, rfl, hd, hz4, hzl, hj2⟩
      refine ⟨_, rfl, _, rfl, _, rfl, D, _, rfl, SqL.of hd, fun l hl => ?_⟩
      have sl := same_new hl (.lst (cutV (zs.map V.int) none (some (n : Int))))
      have ecut : cutV (zs.map V.int) none (some (n : Int)) = (zs.take n).map V.int := by
        unfold cutV
        rw [HT.sIx_nat, HT.sIx_none, List.drop_zero, Nat.sub_zero, List.length_map, List.map_take, Nat.min_eq_left (by omega)]
      rw [ecut] at sl ⊢
      refine ⟨l, _, rfl, .inl ⟨SqL.of upd_same, fun q hq => ?_⟩⟩
      have sq := same_new hq (.tup ((zs.take n).map V.int))
      refine k _ (zs.take n) _ (SameB.trans (SameB.trans sb12 sb3) (Same.b (sl.trans sq) a)) ((hh3.same sl).same sq) (Wd.new upd_same) ?_ ?_ fun c hc => hz4 c (List.mem_of_mem_take hc)
      · rw [List.length_take]
        omega
      · rw [List.length_take]
        omega
end
end Fl
end

section
set_option Elab.async false
set_option linter.all false
set_option maxRecDepth 100000
set_option maxHeartbeats 4000000
/-! Own rules, part 7: a try with two clauses, each with a name; whatever the body lets out is caught by one of them. -/
namespace Fl
open PySem PySem.Spec PyProof.Rows L2
/-- an exception a of the class cls that has come to rest in X's frame: all else is as the reading says -/
def Rest (X : Cx) (pins : List (Addr × Obj)) (σ : L2.St) (H : Hp) (a : Addr) (cls : Value) (d : Option Addr) (s : Shared) : Prop :=
  ∃ (B : Heap) (z : Shared), (Inv X pins σ H z ∧ H a = none) ∧ (s.os = z.os ∧ AllBare s.gens) ∧ (z.heap.UpToSlots s.heap ∧ ∀ b o, z.heap.get? b = some o → b ∉ frs X.stack → B.get? b = some o) ∧ HandSPX.FlyingZ B (X.env :: X.outer) a (Zc cls d) s.heap
section
variable {X : Cx} {pins : List (Addr × Obj)} {σ : L2.St} {H : Hp} {a : Addr} {cls : Value} {d : Option Addr} {s : Shared}
theorem Rest.inv (r : Rest X pins σ H a cls d s) : Inv X pins σ H s := by
  obtain ⟨B, z, ⟨I, _⟩, ⟨o1, o2⟩, ⟨u, k⟩, fl⟩ := r
  exact I.landed k fl.1 u o1 o2
theorem Rest.none (r : Rest X pins σ H a cls d s) : H a = .none := by
  obtain ⟨_, _, ⟨_, n⟩, _⟩ := r
  exact n
theorem Rest.obj (r : Rest X pins σ H a cls d s) : ∃ oe, s.heap.get? a = some oe ∧ Zc cls d oe ∧ ∃ vs, oe.data = .fields vs := by
  obtain ⟨_, _, _, _, _, fl⟩ := r
  obtain ⟨oe, vs, h1, h2, h3⟩ := fl.there
  exact ⟨oe, h1, h2, vs, h3⟩
/-- no frame's namespace is the exception -/
theorem Rest.apart (hf : X.env.frame = some X.env.locals) (r : Rest X pins σ H a cls d s) : a ≠ X.env.locals ∧ a ∉ X.fs := by
  obtain ⟨oe, h1, _, vs, h3⟩ := r.obj
  obtain ⟨_, _, _, _, _, fl⟩ := r
  have no : a ∉ frs (X.env :: X.outer) := fun m => by
    obtain ⟨_, o2, q, n⟩ := fl.2.2.1.mem m
    rw [h1] at q
    cases q
    exact n _ h3
  constructor
  · intro q
    refine no (List.mem_filterMap.mpr ⟨X.env, List.mem_cons_self, ?_⟩)
    rw [hf, q]
  · intro m
    obtain ⟨e, he, q⟩ := List.mem_filterMap.mp m
    exact no (List.mem_filterMap.mpr ⟨e, List.mem_cons_of_mem _ he, q⟩)
theorem Rest.inSuite (hf : X.env.frame = some X.env.locals) (r : Rest X pins σ H a cls d s) : ∃ oe, Zc cls d oe ∧ (∃ vs, oe.data = .fields vs) ∧ Inv (X.suite a ((a, oe) :: (X.pn ++ pins))) [] σ H s := by
  obtain ⟨oe, h1, h2, vs, h3⟩ := r.obj
  obtain ⟨n1, n2⟩ := r.apart hf
  exact ⟨oe, h2, ⟨vs, h3⟩, r.inv.suite h1 h3 r.none n1 n2⟩
/-- its flight is set to none: it rests still -/
theorem Rest.still {M : Model} {A : Around} {E : Value → Shared → Prop} {Q : Unit → Shared → Prop} (r : Rest X pins σ H a cls d s) (k : ∀ s', Rest X pins σ H a cls d s' → Q () s') : wpAny M A (setFlight (.ref a) .none) Q E s := by
  obtain ⟨B, z, i, o, ⟨u, kk⟩, fl⟩ := r
  exact HandSPX.lands_againZ fl fun h' fl' u' => k _ ⟨B, z, i, o, ⟨u.trans u', kk⟩, fl'⟩
/-- a clause's class is looked up and asked -/
theorem Rest.ask {x : Str} {c : Value} {np pos : Pos} {b : Bool} {R : Result → Shared → Prop} (hf : X.env.frame = some X.env.locals) (hc : Names X x c) (r : Rest X pins σ H a cls d s) (hb : PySem.W.exmOne X.K cls c = some b) (k : R (.ok (if b then .brk else .next)) s) :
    codeAny (model X.prog X.w) (X.A.mark (some (.ref a))) (.handlers (.ref a) [.ExceptHandler (some (.Name x np)) .none [] pos] X.env) R s := by
  obtain ⟨oe, h1, h2, _⟩ := r.obj
  obtain ⟨oe2, _, _, S⟩ := r.inSuite hf
  have T : PySem.W.Looks (model X.prog X.w) s.heap (typeOf (.ref a)) cls := fun A Q E s' kp q => wpAny_typeOf_ref (kp _ _ h1) (by rw [h2.1]; exact q)
  have ex := PySem.W.exm_one (M := model X.prog X.w) r.inv.kIn T hb
  refine codeAny_handlers_test ?_
  obtain ⟨g1, g2, g3⟩ := hc
  rcases g3 with m | ⟨m, v, n⟩
  · exact ld_glob S g1 m (ex.here k) g2
  · exact ld_blt S g1 m v (ex.here k) n g2
/-- what is left behind a suite: the clause's name is gone -/
def offD (i : Nat) (D : Ends) : Ends := { nx := fun σ H => D.nx (σ.set i .none) H, rt := D.rt, bk := fun σ H => D.bk (σ.set i .none) H, ct := fun σ H => D.ct (σ.set i .none) H }
/-- the clause that answers -/
theorem Rest.answer {n : Str} {i : Nat} {b₀ : Stmt} {suite : List Stmt} {np pos : Pos} {x : Str} {c : Value} {rest : List ExceptHandler} {D : Ends} {ts : Addr → Value → Option Addr → TS}
    (hf : X.env.frame = some X.env.locals) (hN : X.N.Nodup) (hi : X.N[i]? = some n) (hln : X.env.kindOf n = some .local) (hc : Names X x c)
    (hsu : ∀ (a : Addr) (oe : Obj) (cls : Value) (d : Option Addr) (pn : List (Addr × Obj)), Zc cls d oe → (∃ vs, oe.data = .fields vs) → PSs (X.suite a ((a, oe) :: pn)) (b₀ :: suite) (ts a cls d))
    (r : Rest X pins σ H a cls d s) (hb : PySem.W.exmOne X.K cls c = some true) (k : ts a cls d (offD i D) (σ.set i (some (.ref a))) H) :
    wpAny (model X.prog X.w) X.A (handleBy (.ref a) X.env (.ExceptHandler (some (.Name x np)) (some n) (b₀ :: suite) pos :: rest)) (SP X pins D) X.xe s := by
  refine wpAny_handleBy_cons (r.ask hf hc hb ?_) (by intro q; cases q)
  refine codeAny_handlers_suite_as (r.still fun s1 r1 => ?_)
  obtain ⟨oe, z1, z2, S⟩ := r1.inSuite hf
  refine store_ok (X := X.suite a ((a, oe) :: (X.pn ++ pins))) (v := .ref a) S hN hi (.inl hln) rfl (fun s2 S2 => ?_) (.inr hln)
  have run := (hsu a oe cls d (X.pn ++ pins) z1 z2).run [] s2 _ H (offD i D) S2 k
  refine wpAny_mono run (fun fl s3 q => ?_) (fun _ _ z => z.elim)
  cases fl with
  | ret u =>
    obtain ⟨v, σ3, H3, S3, rv, w⟩ := q
    exact gone_ok (S3.unsuite r1.inv.ok) hN hi hln fun s4 I4 => ⟨v, _, H3, I4, rv, w⟩
  | next =>
    obtain ⟨σ3, H3, S3, w⟩ := q
    exact gone_ok (S3.unsuite r1.inv.ok) hN hi hln fun s4 I4 => ⟨_, H3, I4, w⟩
  | brk =>
    obtain ⟨σ3, H3, S3, w⟩ := q
    exact gone_ok (S3.unsuite r1.inv.ok) hN hi hln fun s4 I4 => ⟨_, H3, I4, w⟩
  | cont =>
    obtain ⟨σ3, H3, S3, w⟩ := q
    exact gone_ok (S3.unsuite r1.inv.ok) hN hi hln fun s4 I4 => ⟨_, H3, I4, w⟩
end
/-- the wish of the two clauses -/
def twoW (K : PySem.W.Frag) (i : Nat) (c1 c2 : Value) (t1 t2 : Addr → Value → Option Addr → TS) (D : Ends) : WX := fun cls d σ H =>
  (PySem.W.exmOne K cls c1 = some true ∧ ∀ a, H a = none → t1 a cls d (offD i D) (σ.set i (some (.ref a))) H) ∨
  (PySem.W.exmOne K cls c1 = some false ∧ PySem.W.exmOne K cls c2 = some true ∧ ∀ a, H a = none → t2 a cls d (offD i D) (σ.set i (some (.ref a))) H)
theorem ps_try2 {X : Cx} {n x1 x2 : Str} {c1 c2 : Value} {i : Nat} {body u1 u2 : List Stmt} {b1 b2 : Stmt} {n1 n2 p1 p2 pos : Pos} {tb : WX → TS} {t1 t2 : Addr → Value → Option Addr → TS}
    (hs : X.stack = X.env :: X.outer) (hf : X.env.frame = some X.env.locals) (hN : X.N.Nodup) (hi : X.N[i]? = some n) (hln : X.env.kindOf n = some .local) (hc1 : Names X x1 c1) (hc2 : Names X x2 c2)
    (hb : ∀ (W : WX) (pn : List (Addr × Obj)) (xe : Value → Shared → Prop), Takes (X.tr pn xe) W → PassesOwn (model X.prog X.w) X.A X.env xe → PSs (X.tr pn xe) body (tb W))
    (h1 : ∀ (a : Addr) (oe : Obj) (cls : Value) (d : Option Addr) (pn : List (Addr × Obj)), Zc cls d oe → (∃ vs, oe.data = .fields vs) → PSs (X.suite a ((a, oe) :: pn)) (b1 :: u1) (t1 a cls d))
    (h2 : ∀ (a : Addr) (oe : Obj) (cls : Value) (d : Option Addr) (pn : List (Addr × Obj)), Zc cls d oe → (∃ vs, oe.data = .fields vs) → PSs (X.suite a ((a, oe) :: pn)) (b2 :: u2) (t2 a cls d)) :
    PS X (.Try body [.ExceptHandler (some (.Name x1 n1)) (some n) (b1 :: u1) p1, .ExceptHandler (some (.Name x2 n2)) (some n) (b2 :: u2) p2] [] [] pos) (fun D σ H => tb (twoW X.K i c1 c2 t1 t2 D) D σ H) := by
  refine ⟨fun pins s σ H D I k => wpAny_Try_except ?_⟩
  have ok := I.ok
  have fr : X.A.frames = some (X.env :: X.outer) := ok.frames.trans (congrArg some hs)
  have caught : ∀ (xe : Value → Shared → Prop) (u : Value) (s' : Shared), XE (X.tr (X.pn ++ pins) xe) (twoW X.K i c1 c2 t1 t2 D) u s' →
      wpAny (model X.prog X.w) X.A (noteFrame u X.env) (fun _ s2 => wpAny (model X.prog X.w) X.A (setFlight u none) (fun _ s3 => wpAny (model X.prog X.w) X.A
        (handleBy u X.env [.ExceptHandler (some (.Name x1 n1)) (some n) (b1 :: u1) p1, .ExceptHandler (some (.Name x2 n2)) (some n) (b2 :: u2) p2]) (SP X pins D) X.xe s3) X.xe s2) X.xe s' := by
    rintro xe u s' ⟨a, B, z, pn', σ1, H1, cls, d, rfl, J, kk, up, sky, na, o1, o2, w⟩
    have sky2 : Sky B (X.env :: X.outer) a (Zc cls d) X.env.locals s'.heap := hs ▸ sky
    refine sky2.land Zc.steady fr hf fun h3 fl u3 => ?_
    have r : Rest X pins σ1 H1 a cls d { s' with heap := h3 } := ⟨B, z, ⟨J.ofTry ok, na⟩, ⟨o1, o2⟩, ⟨up.trans u3, kk⟩, fl⟩
    rcases w with ⟨y, q⟩ | ⟨y1, y2, q⟩
    · exact r.answer hf hN hi hln hc1 h1 y (q a na)
    · refine wpAny_handleBy_cons (r.ask hf hc1 y1 ?_) (by intro q; cases q)
      exact r.answer hf hN hi hln hc2 h2 y2 (q a na)
  have run := (hb (twoW X.K i c1 c2 t1 t2 D) (X.pn ++ pins) _ (fun u s' e => caught _ u s' e) PassesOwn.looking).run [] s σ H D (I.toTry _) k
  refine wpAny_mono run (fun fl s1 q => ?_) fun _ _ e => e
  cases fl with
  | ret u =>
    obtain ⟨v, σ1, H1, J, rv, w⟩ := q
    exact ⟨v, σ1, H1, J.ofTry ok, rv, w⟩
  | next =>
    obtain ⟨σ1, H1, J, w⟩ := q
    exact wpAny_execs_nil ⟨σ1, H1, J.ofTry ok, w⟩
  | brk =>
    obtain ⟨σ1, H1, J, w⟩ := q
    exact ⟨σ1, H1, J.ofTry ok, w⟩
  | cont =>
    obtain ⟨σ1, H1, J, w⟩ := q
    exact ⟨σ1, H1, J.ofTry ok, w⟩
end Fl
end

section
set_option Elab.async false
set_option linter.all false
set_option maxRecDepth 100000
set_option maxHeartbeats 4000000
/-! The law's own: asked, word_of. -/
namespace Fl
open PySem PySem.Spec PyProof.Rows L2
/-- what is to come of a call -/
inductive Ans4 where
  | row | num | big | long | let_
inductive OutOf (K : PySem.W.Frag) (H : Hp) (kind : Int) (v u l : V) : Ans4 → Prop
  | row {b c : Bool} {t : String} (h : Ref3 K H v u l b c t) (e : (b && c) = false) : OutOf K H kind v u l .row
  | num {t : String} (h : Ref3 K H v u l true true t) (hk : kind = 0 ∨ kind = 1) (e : isBet l 1 12 = false) : OutOf K H kind v u l .num
  | many {xs ys : List Int} {n : Nat} (hk : kind = 0) (hv : Wd K H v xs) (hu : Wd K H u ys) (rx : IsRow xs) (ry : IsRow ys) (hl : l = .int n) (h1 : 1 ≤ n) (h2 : n ≤ 12) : OutOf K H kind v u l .let_
  | listed {xs ys : List Int} {n : Nat} (hk : kind = 1) (hv : Wd K H v xs) (hu : Wd K H u ys) (rx : IsRow xs) (ry : IsRow ys) (hl : l = .int n) (h1 : 1 ≤ n) (h2 : n ≤ 6) (hc : cnt (wd xs) (wd ys) n 0 0 ≤ 4096) : OutOf K H kind v u l .let_
  | big {xs ys : List Int} {n : Nat} (hk : kind = 1) (hv : Wd K H v xs) (hu : Wd K H u ys) (rx : IsRow xs) (ry : IsRow ys) (hl : l = .int n) (h1 : 1 ≤ n) (h2 : n ≤ 12) (hc : 4096 < cnt (wd xs) (wd ys) n 0 0) : OutOf K H kind v u l .big
  | word {xs ys : List Int} (hk : kind = 2 ∨ kind = 3) (hv : Wd K H v xs) (hu : Wd K H u ys) (rx : IsRow xs) (ry : IsRow ys) (h1 : (wd xs).length ≤ 60) (h2 : (wd ys).length ≤ 60) : OutOf K H kind v u l .let_
  | long {xs ys : List Int} (hk : kind = 2 ∨ kind = 3) (hv : Wd K H v xs) (hu : Wd K H u ys) (rx : IsRow xs) (ry : IsRow ys) (h : 60 < (wd xs).length ∨ 60 < (wd ys).length) : OutOf K H kind v u l .long
/-- the way a call ends -/
def ends4 (cR cN cT : Addr) (H : Hp) (Q : Hp → Prop) (E : XK) : Ans4 → Prop
  | .row => ∀ H', Same H H' → E (.ref cR) none H'
  | .num => ∀ H', Same H H' → E (.ref cN) none H'
  | .big => ∀ d H', Same H H' → H' d = some (.xd [("most", .int 4096)]) → E (.ref cT) (some d) H'
  | .long => ∀ d H', Same H H' → H' d = some (.xd [("most", .int 60)]) → E (.ref cT) (some d) H'
  | .let_ => ∀ H', Same H H' → Q H'
def spAsked (K : PySem.W.Frag) (cR cN cT : Addr) : Sp := fun vs H Q E => ∃ (kind : Int) (v u l : V) (o : Ans4), vs = [.int kind, v, u, l] ∧ 0 ≤ kind ∧ kind ≤ 3 ∧ OutOf K H kind v u l o ∧ ends4 cR cN cT H (fun H' => Q .non H') E o
def told4 : Ans4 → Str
  | .row => "row"
  | .num => "number"
  | .big => "many4096"
  | .long => "many60"
  | .let_ => "let"
def spLWordOf (K : PySem.W.Frag) : Sp := fun vs H Q _ => ∃ (kind : Int) (v u l : V) (o : Ans4), vs = [.int kind, v, u, l] ∧ 0 ≤ kind ∧ kind ≤ 3 ∧ OutOf K H kind v u l o ∧ ∀ H', Same H H' → Q (.str (told4 o)) H'
section
variable {P : Program} {w : World} {K : PySem.W.Frag} {mg : Str → Option Value} {base : Heap} {f : Addr} {fd : FuncData} {cR cN cT cL : Addr}
abbrev s_law_asked : Stmt := top 50
theorem sc_law_asked : FnScope ["_law_kind", "_law_row_here", "_law_other", "_law_lanes"] ["_law_kind", "_law_row_here", "_law_other", "_law_lanes"] (defScope s_law_asked) := ⟨rfl, rfl, rfl, by decide +kernel, rfl, by decide +kernel, by decide +kernel⟩
theorem ok_law_asked (F : Fun K "_law_asked" "_law_asked" s_law_asked f fd) {f1 f2 f3 f4 : Addr} {fd1 fd2 fd3 fd4 : FuncData}
    (kcommon_many : Kn P w K mg base (L2.CX P w) 16 "common_many" ["row", "other", "lanes"] (spCMany K cR cN) f1 fd1) (kcommon : Kn P w K mg base (L2.CX P w) 16 "common" ["row", "other", "lanes"] (spCommon K cR cN cT) f2 fd2)
    (klongest_common : Kn P w K mg base (L2.CX P w) 16 "longest_common" ["row", "other"] (spLongest K cR cT) f3 fd3) (kshortest_over : Kn P w K mg base (L2.CX P w) 16 "shortest_over" ["row", "other"] (spShortest K cR cT) f4 fd4) :
    FnOk P w K mg base (L2.CX P w) 17 f fd ["_law_kind", "_law_row_here", "_law_other", "_law_lanes"] (spAsked K cR cN cT) := by
  refine F.okX sc_law_asked (fun vs H Q E h => ?_) (fun cdv A outer s H vs Q E hr h => ?_)
  · obtain ⟨kind, v, u, l, o, rfl, _⟩ := h
    rfl
  obtain ⟨kind, v, u, l, o, rfl, k0, k3, ho, k⟩ := h
  have tk0 := takes_of (X := cxOf (L2.CX P w) P w K mg base ["_law_kind", "_law_row_here", "_law_other", "_law_lanes"] "_law_asked" (defScope s_law_asked) f cdv A outer s H E) rfl rfl rfl rfl
  refine ⟨_, (pss_one (ps_if (pt_cmpR op_eq (pv 0) pe_int (nomark _)) (pss_one (ps_expr (pk kcommon_many hr (by omega) (passes_call tk0 (fun _ _ _ _ h => h)) (pa_cons (pv 1) (pa_cons (pv 2) (pa_cons (pv 3) pa_nil)))))) (pss_one (ps_if (pt_cmpR op_eq (pv 0) pe_int (nomark _)) (pss_one (ps_expr (pk kcommon hr (by omega) (passes_call tk0 (fun _ _ _ _ h => h)) (pa_cons (pv 1) (pa_cons (pv 2) (pa_cons (pv 3) pa_nil)))))) (pss_one (ps_if (pt_cmpR op_eq (pv 0) pe_int (nomark _)) (pss_one (ps_expr (pk klongest_common hr (by omega) (passes_call tk0 (fun _ _ _ _ h => h)) (pa_cons (pv 1) (pa_cons (pv 2) pa_nil))))) (pss_one (ps_expr (pk kshortest_over hr (by omega) (passes_call tk0 (fun _ _ _ _ h => h)) (pa_cons (pv 1) (pa_cons (pv 2) pa_nil))))))))))), ?_⟩
  have dk : ∀ i : Int, decide (V.int kind = V.int i) = decide (kind = i) := fun i => by
    rw [decide_eq_decide]
    exact ⟨fun z => by injection z, fun z => by rw [z]⟩
  have bet_n : ∀ n : Nat, 1 ≤ n → n ≤ 12 → isBet (.int (n : Int)) 1 12 = true := fun n h1 h2 => by
    show (decide ((1 : Int) ≤ n) && decide ((n : Int) ≤ 12)) = true
    rw [decide_eq_true (by omega), decide_eq_true (by omega)]
    rfl
  refine ⟨_, rfl, rfl, _, rfl, ?_⟩
  rw [dk]
  by_cases c0 : kind = 0
  · rw [decide_eq_true c0]
    refine iteT ?_
    refine ⟨_, rfl, _, rfl, _, rfl, ?_⟩
    cases ho with
    | row h e => exact ⟨v, u, l, _, _, _, rfl, h, fun H' s' => ⟨fun _ => k H' s', fun q => by rw [e] at q; exact absurd q (by decide)⟩, fun q => by rw [e] at q; exact absurd q (by decide)⟩
    | num h hk e => exact ⟨v, u, l, _, _, _, rfl, h, fun H' s' => ⟨fun q => absurd q (by decide), fun _ _ => k H' s'⟩, fun _ q => by rw [e] at q; exact absurd q (by decide)⟩
    | many hk hv hu rx ry hl h1 h2 =>
      subst hl
      exact ⟨v, u, _, true, true, "int", rfl, ⟨RowB.good hv rx, RowB.good hu ry, Ty.int _⟩, fun H' s' => ⟨fun q => absurd q (by decide), fun _ q => by rw [bet_n _ h1 h2] at q; exact absurd q (by decide)⟩, fun _ _ => ⟨_, _, _, hv, hu, rx, ry, rfl, fun H' s' => k H' s'⟩⟩
    | listed hk => omega
    | big hk => omega
    | word hk => omega
    | long hk => omega
  · rw [decide_eq_false c0]
    refine iteF ?_
    refine ⟨_, rfl, rfl, _, rfl, ?_⟩
    rw [dk]
    by_cases c1 : kind = 1
    · rw [decide_eq_true c1]
      refine iteT ?_
      refine ⟨_, rfl, _, rfl, _, rfl, ?_⟩
      cases ho with
      | row h e => exact ⟨v, u, l, _, _, _, rfl, h, fun H' s' => ⟨fun _ => k H' s', fun q => by rw [e] at q; exact absurd q (by decide)⟩, fun q => by rw [e] at q; exact absurd q (by decide)⟩
      | num h hk e => exact ⟨v, u, l, _, _, _, rfl, h, fun H' s' => ⟨fun q => absurd q (by decide), fun _ _ => k H' s'⟩, fun _ q => by rw [e] at q; exact absurd q (by decide)⟩
      | many hk => omega
      | listed hk hv hu rx ry hl h1 h2 hc =>
        subst hl
        exact ⟨v, u, _, true, true, "int", rfl, ⟨RowB.good hv rx, RowB.good hu ry, Ty.int _⟩, fun H' s' => ⟨fun q => absurd q (by decide), fun _ q => by rw [bet_n _ h1 (by omega)] at q; exact absurd q (by decide)⟩,
          fun _ _ => ⟨_, _, _, hv, hu, rx, ry, rfl, fun q => absurd q (by omega), fun _ => ⟨h2, fun r H2 vs s2 _ _ _ => k H2 s2⟩⟩⟩
      | big hk hv hu rx ry hl h1 h2 hc =>
        subst hl
        exact ⟨v, u, _, true, true, "int", rfl, ⟨RowB.good hv rx, RowB.good hu ry, Ty.int _⟩, fun H' s' => ⟨fun q => absurd q (by decide), fun _ q => by rw [bet_n _ h1 h2] at q; exact absurd q (by decide)⟩,
          fun _ _ => ⟨_, _, _, hv, hu, rx, ry, rfl, fun _ d H2 s2 hd => k d H2 s2 hd, fun q => absurd q (by omega)⟩⟩
      | word hk => omega
      | long hk => omega
    · rw [decide_eq_false c1]
      refine iteF ?_
      refine ⟨_, rfl, rfl, _, rfl, ?_⟩
      rw [dk]
      by_cases c2 : kind = 2
      · rw [decide_eq_true c2]
        refine iteT ?_
        refine ⟨_, rfl, _, rfl, ?_⟩
        cases ho with
        | row h e => exact ⟨v, u, _, _, rfl, h.rv, h.ru, fun H' s' _ => k H' s', fun q => by rw [e] at q; exact absurd q (by decide)⟩
        | num h hk => omega
        | many hk => omega
        | listed hk => omega
        | big hk => omega
        | word hk hv hu rx ry h1 h2 => exact ⟨v, u, true, true, rfl, RowB.good hv rx, RowB.good hu ry, fun H' s' q => absurd q (by decide), fun _ => ⟨_, _, hv, hu, rx, ry, fun H' s' => ⟨fun q => absurd q (by omega), fun _ _ r o _ _ => k H' s'⟩⟩⟩
        | long hk hv hu rx ry h => exact ⟨v, u, true, true, rfl, RowB.good hv rx, RowB.good hu ry, fun H' s' q => absurd q (by decide), fun _ => ⟨_, _, hv, hu, rx, ry, fun H' s' => ⟨fun _ d H2 s2 hd => k d H2 (s'.trans s2) hd, fun q1 q2 => absurd h (by omega)⟩⟩⟩
      · rw [decide_eq_false c2]
        refine iteF ?_
        refine ⟨_, rfl, _, rfl, ?_⟩
        cases ho with
        | row h e => exact ⟨v, u, _, _, rfl, h.rv, h.ru, fun H' s' _ => k H' s', fun q => by rw [e] at q; exact absurd q (by decide)⟩
        | num h hk => omega
        | many hk => omega
        | listed hk => omega
        | big hk => omega
        | word hk hv hu rx ry h1 h2 => exact ⟨v, u, true, true, rfl, RowB.good hv rx, RowB.good hu ry, fun H' s' q => absurd q (by decide), fun _ => ⟨_, _, hv, hu, rx, ry, fun H' s' => ⟨fun q => absurd q (by omega), fun _ _ r _ => k H' s'⟩⟩⟩
        | long hk hv hu rx ry h => exact ⟨v, u, true, true, rfl, RowB.good hv rx, RowB.good hu ry, fun H' s' q => absurd q (by decide), fun _ => ⟨_, _, hv, hu, rx, ry, fun H' s' => ⟨fun _ d H2 s2 hd => k d H2 (s'.trans s2) hd, fun q1 q2 => absurd h (by omega)⟩⟩⟩
/-- what the text says of the caught errors -/
structure CatchK (K : PySem.W.Frag) (mg : Str → Option Value) (cR cN cT cL : Addr) : Prop where
  nm : mg "LaneError" = some (.ref cL)
  tT : PySem.W.exmOne K (.ref cT) (.ref cT) = some true
  rT : PySem.W.exmOne K (.ref cR) (.ref cT) = some false
  nT : PySem.W.exmOne K (.ref cN) (.ref cT) = some false
  rL : PySem.W.exmOne K (.ref cR) (.ref cL) = some true
  nL : PySem.W.exmOne K (.ref cN) (.ref cL) = some true
  eR : ExcC K cR
  eN : ExcC K cN
  kRR : PySem.W.kitOne K (.ref cR) (.ref cR) = some true
  kNR : PySem.W.kitOne K (.ref cN) (.ref cR) = some false
  kNN : PySem.W.kitOne K (.ref cN) (.ref cN) = some true
  xT : XfC K cT
theorem pcls {X : Cx} {x : Str} {C : Addr} {pos : Pos} (h : X.mg x = some (.ref C)) (hg : Gl X x := by rfl) (hd : (x == ("__debug__" : Str)) = false := by decide) : PE X (.Name x pos) (tC (.ref C)) := pe_glob (v := .ref C) hg h rfl hd
theorem pss_either {X : Cx} {ss : List Stmt} {p q : Prop} {t u : TS} (h1 : p → PSs X ss t) (h2 : q → PSs X ss u) : PSs X ss (fun D σ H => (p ∧ t D σ H) ∨ (q ∧ u D σ H)) :=
  ⟨fun pins s σ H D I h => h.elim (fun z => (h1 z.1).run pins s σ H D I z.2) (fun z => (h2 z.1).run pins s σ H D I z.2)⟩
/-- 'many' + str(e.most) -/
def tMany (cT a : Addr) (cls : Value) (d : Option Addr) : TS := tAsg (tOp (fun x y H Q => ∃ i j, x = .str i ∧ y = .str j ∧ i.length + j.length ≤ sizeLine ∧ Q (.str (i ++ j)) H) (tC (.str "many"))
  (tCB (fun xs H Q => ∃ i, xs = [.int i] ∧ i.natAbs.log2 < 1920 ∧ Q (.str (toString i)) H) (tCons (tXf a cls d cT "most" (tVar 5)) tNil))) (gName 4)
/-- 'row' or 'number' or 'other' -/
def tKind (K : PySem.W.Frag) (cR cN D a : Addr) : TS := tAsg (tIf (tB (tCB (rIsE K D a) (tCons (tVar 5) (tCons (tC (.ref cR)) tNil)))) (tC (.str "row"))
  (tIf (tB (tCB (rIsE K D a) (tCons (tVar 5) (tCons (tC (.ref cN)) tNil)))) (tC (.str "number")) (tC (.str "other")))) (gName 4)
abbrev s_law_word_of : Stmt := top 51
theorem sc_law_word_of : FnScope ["_law_kind", "_law_row_here", "_law_other", "_law_lanes", "_law_told", "e"] ["_law_kind", "_law_row_here", "_law_other", "_law_lanes"] (defScope s_law_word_of) := ⟨rfl, rfl, rfl, by decide +kernel, rfl, by decide +kernel, by decide +kernel⟩
theorem ok_law_word_of (F : Fun K "_law_word_of" "_law_word_of" s_law_word_of f fd) (B : Bn mg) (C : Er K mg cR cN) {f6 : Addr} {fd6 : FuncData} (T : TmK P w K mg base cT f6 fd6) (Z : CatchK K mg cR cN cT cL) {f1 : Addr} {fd1 : FuncData}
    (k_law_asked : Kn P w K mg base (L2.CX P w) 17 "_law_asked" ["_law_kind", "_law_row_here", "_law_other", "_law_lanes"] (spAsked K cR cN cT) f1 fd1) : FnOk P w K mg base CX0 18 f fd ["_law_kind", "_law_row_here", "_law_other", "_law_lanes"] (spLWordOf K) := by
  refine F.ok sc_law_word_of (fun vs H Q E h => ?_) (fun cdv A outer s H vs Q E hr h => ?_)
  · obtain ⟨kind, v, u, l, o, rfl, _⟩ := h
    rfl
  obtain ⟨kind, v, u, l, o, rfl, k0, k3, ho, k⟩ := h
  refine ⟨_, pss_cons (ps_set (i := 4) sc_law_word_of.nd rfl (Or.inl rfl) pe_str)
    (pss_cons (ps_try2 (i := 5) (tb := fun W => tDrop (tCallS (spAsked K cR cN cT) (WE W) (tCons (tVar 0) (tCons (tVar 1) (tCons (tVar 2) (tCons (tVar 3) tNil))))))
        (t1 := fun a cls d => tMany cT a cls d) (t2 := fun a cls d => fun D σ H => ((cls = .ref cR ∧ d = none) ∧ tKind K cR cN cR a D σ H) ∨ ((cls = .ref cN ∧ d = none) ∧ tKind K cR cN cN a D σ H))
        rfl rfl sc_law_word_of.nd rfl rfl ⟨rfl, by decide, Or.inl T.t.nm⟩ ⟨rfl, by decide, Or.inl Z.nm⟩
        (fun W pn xe tk _ => pss_one (ps_expr (by exact (pe_callS k_law_asked.ok (hr.mono (by omega)) rfl k_law_asked.nm k_law_asked.kp k_law_asked.bd (fun σ => L2.passAt tk σ) (by exact (pa_cons (pv 0) (pa_cons (pv 1) (pa_cons (pv 2) (pa_cons (pv 3) pa_nil)))))))))
        (fun a oe cls d pn hz hf => pss_one (ps_set (i := 4) sc_law_word_of.nd rfl (Or.inl rfl) (by exact (pe_op op_add_str pe_str (pe_callTy call_str_int (by rfl) B.str_ (by decide +kernel) (pa_cons (pe_xf Z.xT T.t.noM hz hf (pv 5)) pa_nil))))))
        (fun a oe cls d pn hz hf => pss_either
          (fun q => by
            obtain ⟨rfl, rfl⟩ := q
            exact pss_one (ps_set (i := 4) sc_law_word_of.nd rfl (Or.inl rfl) (pe_ifExp (pt_val (pe_callB (call_isE Z.eR hz hf) (by rfl) B.isinstance_ (by decide +kernel) (pa_cons (pv 5) (pa_cons (pcls C.NoRow.g) pa_nil)))) pe_str
              (pe_ifExp (pt_val (pe_callB (call_isE Z.eR hz hf) (by rfl) B.isinstance_ (by decide +kernel) (pa_cons (pv 5) (pa_cons (pcls C.NoNumber.g) pa_nil)))) pe_str pe_str))))
          (fun q => by
            obtain ⟨rfl, rfl⟩ := q
            exact pss_one (ps_set (i := 4) sc_law_word_of.nd rfl (Or.inl rfl) (pe_ifExp (pt_val (pe_callB (call_isE Z.eN hz hf) (by rfl) B.isinstance_ (by decide +kernel) (pa_cons (pv 5) (pa_cons (pcls C.NoRow.g) pa_nil)))) pe_str
              (pe_ifExp (pt_val (pe_callB (call_isE Z.eN hz hf) (by rfl) B.isinstance_ (by decide +kernel) (pa_cons (pv 5) (pa_cons (pcls C.NoNumber.g) pa_nil)))) pe_str pe_str))))))
      (pss_one (ps_ret (pv 4)))), ?_⟩
  refine ⟨_, rfl, _, rfl, _, rfl, _, rfl, kind, v, u, l, o, rfl, k0, k3, ho, ?_⟩
  cases o with
  | row =>
    refine fun H' s' => .inr ⟨Z.rT, Z.rL, fun a na => .inl ⟨⟨rfl, rfl⟩, ?_⟩⟩
    refine ⟨_, rfl, .ref cR, .ref cR, true, rfl, fun u r => r, Z.kRR, _, rfl, iteT ?_⟩
    exact ⟨_, rfl, k H' s'⟩
  | num =>
    refine fun H' s' => .inr ⟨Z.nT, Z.nL, fun a na => .inr ⟨⟨rfl, rfl⟩, ?_⟩⟩
    refine ⟨_, rfl, .ref cR, .ref cR, false, rfl, fun u r => r, Z.kNR, _, rfl, iteF ?_⟩
    refine ⟨_, rfl, .ref cN, .ref cN, true, rfl, fun u r => r, Z.kNN, _, rfl, iteT ?_⟩
    exact ⟨_, rfl, k H' s'⟩
  | big =>
    refine fun d H' s' hd => .inl ⟨Z.tT, fun a na => ?_⟩
    refine ⟨_, rfl, rfl, rfl, d, _, _, rfl, hd, rfl, _, rfl, by decide, _, _, rfl, rfl, by decide, ?_⟩
    exact ⟨_, rfl, k H' s'⟩
  | long =>
    refine fun d H' s' hd => .inl ⟨Z.tT, fun a na => ?_⟩
    refine ⟨_, rfl, rfl, rfl, d, _, _, rfl, hd, rfl, _, rfl, by decide, _, _, rfl, rfl, by decide, ?_⟩
    exact ⟨_, rfl, k H' s'⟩
  | let_ => exact fun H' s' => ⟨_, rfl, k H' s'⟩
end
end Fl
end

section
set_option Elab.async false
set_option linter.all false
set_option maxRecDepth 100000
set_option maxHeartbeats 4000000
/-! Own rules, part 8: set(t) of a tuple of numbers; (x,) * k. -/
namespace Fl
open PySem PySem.Spec PyProof.Rows L2
def rSetT (K : PySem.W.Frag) (w : World) : List V → Hp → VK → Prop := fun vs H Q => ∃ (p : Addr) (ns : List Int), vs = [.ref p] ∧ SqT K H p (ns.map V.int) ∧ ns.length ≤ 1000 ∧
  ∀ (q : Addr) (n : Nat), n ≤ ns.length → H q = none → Q (.ref q) (upd H q (SetO w q (fun j => decide (j ∈ ns)) n))
theorem cs_setT {X : Cx} (hc : X.calm = true) : CallR X (.type "set") (rSetT X.K X.w) := by
  intro pins s σ H vs us Q I r h
  obtain ⟨p, ns, rfl, ht, hl, k⟩ := h
  obtain ⟨its, rv, tp, _⟩ := I.tuple ht
  rw [Vals.ref1 r]
  refine call_set_tupI ns (I.ok.hd hc) (show s.heap.IsTuple p its.toArray from tp) (show IntsAre its.toArray.toList ns from rv.ints) (by unfold scanBound; omega) fun h' tk c R hcn kp => ?_
  exact ⟨.ref s.heap.objs.size, _, I.laid (t' := tk) kp (Nat.le_refl _) (setO_new R), rfl, k _ c hcn (I.hok.fresh (Nat.le_refl _))⟩
def rRep1 (K : PySem.W.Frag) : R2 := fun x y H Q => ∃ (l : Addr) (k : Int) (v : V), x = .ref l ∧ y = .int k ∧ SqT K H l [v] ∧ 2 ≤ k ∧ k ≤ 100000 ∧ ∀ p, H p = none → Q (.ref p) (upd H p (.tup (List.replicate k.toNat v)))
theorem op_rep1 {X : Cx} : OpR X (binaryOp .Mult) (rRep1 X.K) := by
  intro pins s σ H x y a b Q I rx ry h
  obtain ⟨l, k, v, rfl, rfl, ht, k2, km, q⟩ := h
  obtain ⟨its, rv, ⟨o, ho, oc, n, od⟩, _⟩ := I.tuple ht
  obtain ⟨u, rfl, ru⟩ := rv.one
  obtain rfl : a = Value.ref l := rx
  obtain ⟨t, rfl⟩ := ry
  obtain ⟨oc1, dd, dt, sl⟩ := o
  cases oc
  cases od
  have sz : (List.replicate k.toNat [u]).flatten = List.replicate k.toNat u := List.flatten_replicate_singleton
  have many : Builtin.Tuple.tupleTooMany ((([u].toArray.size : Nat) : Int) * k) = false := by
    unfold Builtin.Tuple.tupleTooMany
    rw [sizeLine_eq]
    exact decide_eq_false (by show ¬ _; simp; omega)
  have mul := tuple_mulW l [u].toArray n dd sl k t (by rw [decide_eq_false (by omega), decide_eq_false (by omega)]; rfl) (by rw [show (k == 1) = false from beq_eq_false_iff_ne.mpr (by omega)]; rfl) (by rw [decide_eq_false (by omega)]; rfl) (by simp; omega) many
    (by rw [size_rep, sz, List.size_toArray, List.length_replicate, sizeLine_eq]; omega)
  refine wpAny_binaryOp_repeat_ref (T := "tuple") (U := "int") (by decide) ⟨_, ho, rfl⟩ (fun s' => typeIs_int s' k t) noFill_tuple_mul F.fills_int_mul F.slot_int_rmul repeat_tuple F.slot_int_index.lookup ?_
  refine call_meets F.slot_int_rmul (typeIs_int s k t) F.entry_int_rmul (F.args_int_rmul_2 _ _) (int_rmul_tuple k t l [u].toArray n dd sl) ⟨ho, rfl, ⟨_, ho, rfl⟩, ?_⟩
  refine call_meets F.slot_tuple_mul ⟨_, ho, rfl⟩ F.entry_tuple_mul (F.args_tuple_mul_2 _ _) mul ⟨ho, ?_⟩
  rw [size_rep, sz]
  have vals : ∀ m : Nat, Vals (List.replicate m v) (List.replicate m u) := fun m => by
    induction m with
    | zero => exact .nil
    | succ m ih => exact .cons ru ih
  refine ⟨.ref s.heap.objs.size, _, I.laid (t' := s.toks) (o := .tup (List.replicate k.toNat v)) (fun _ _ => Heap.get?_push_of_some _) (Nat.le_refl _) ⟨?_, _, vals _, IsTup.new _ _⟩, rfl, q _ (I.hok.fresh (Nat.le_refl _))⟩
  rw [List.length_replicate, sizeLine_eq]
  omega
end Fl
end

section
set_option Elab.async false
set_option linter.all false
set_option maxRecDepth 100000
set_option maxHeartbeats 4000000
/-! The law's own: deep, odd_row. -/
namespace Fl
open PySem PySem.Spec PyProof.Rows L2
/-- r is a tuple of these -/
def SqV (K : PySem.W.Frag) (H : Hp) (r : V) (xs : List V) : Prop := ∃ c, r = .ref c ∧ SqT K H c xs
theorem SqV.same {K : PySem.W.Frag} {H H' : Hp} {r : V} {xs : List V} (e : Same H H') (h : SqV K H r xs) : SqV K H' r xs := by
  obtain ⟨c, rfl, h⟩ := h
  exact ⟨c, rfl, Same.seqT e h⟩
theorem catV {K : PySem.W.Frag} {H : Hp} {x y : V} {u v : List V} {Q : VK} (hx : SqV K H x u) (hy : SqV K H y v) (hl : u.length + v.length ≤ 100000) (k : ∀ r H', Same H H' → SqV K H' r (u ++ v) → Q r H') : rCatA K x y H Q := by
  obtain ⟨a, rfl, ha⟩ := id hx
  obtain ⟨b, rfl, hb⟩ := id hy
  refine ⟨a, b, _, _, rfl, rfl, ha, hb, ?_, fun e => ?_, fun _ e => ?_, fun _ _ p hp => ?_⟩
  · show _ ≤ 2 ^ 24
    omega
  · subst e
    exact k _ H (fun _ _ z => z) hy
  · subst e
    refine k _ H (fun _ _ z => z) ?_
    rw [List.append_nil]
    exact hx
  · exact k _ _ (same_new hp _) ⟨p, rfl, SqT.of upd_same⟩
theorem Ty.sameB {K : PySem.W.Frag} {H H' : Hp} {a : Addr} {v : V} {t : String} (e : SameB a H H') (n : v ≠ .ref a) (h : Ty K H v t) : Ty K H' v t := by
  obtain ⟨ty, mem⟩ := h
  have g : ∀ {b : Addr} {o : HO}, v = .ref b → H b = some o → H' b = some o := fun {b o} q z => e b o (fun w => n (by rw [q, w])) z
  refine ⟨?_, mem⟩
  cases ty with
  | base h =>
    refine .base ?_
    cases h with
    | non => exact .non
    | bl x => exact .bl x
    | int i => exact .int i
    | str x => exact .str x
    | flt x => exact .flt x
    | lst h => exact .lst (g rfl h)
    | frz h => exact .frz (g rfl h)
    | tup h => exact .tup (g rfl h)
    | dK h => exact .dK (g rfl h)
    | dT h => exact .dT (g rfl h)
  | set h => exact .set (g rfl h)
  | kList h c => exact .kList h c
  | kTuple h c => exact .kTuple h c
  | kDict h c => exact .kDict h c
  | fTuple h => exact .fTuple (g rfl h)
  | fDict h => exact .fDict (g rfl h)
  | byt b => exact .byt b
/-- no letter; not the hand -/
def OddE (K : PySem.W.Frag) (H : Hp) (a : Addr) (y : V) : Prop := (∃ t, Ty K H y t) ∧ isBet y 0 3 = false ∧ y ≠ .ref a
theorem OddE.same {K : PySem.W.Frag} {H H' : Hp} {a : Addr} {y : V} (e : Same H H') (h : OddE K H a y) : OddE K H' a y := ⟨h.1.imp fun t q => q.same e, h.2⟩
theorem OddE.sameB {K : PySem.W.Frag} {H H' : Hp} {a : Addr} {y : V} (e : SameB a H H') (h : OddE K H a y) : OddE K H' a y := ⟨h.1.imp fun t q => q.sameB e h.2.2, h.2⟩
/-- no row; not the hand -/
inductive NR (K : PySem.W.Frag) (H : Hp) (a : Addr) : V → Prop
  | oth {y : V} {t : String} (h : Ty K H y t) (ht : t ≠ "tuple") (n : y ≠ .ref a) : NR K H a y
  | tup {y : V} {xs : List V} (h : SqV K H y xs) (hx : ∀ x ∈ xs, (∃ t, Ty K H x t) ∧ x ≠ .ref a) (e : (decide (1 ≤ xs.length ∧ xs.length ≤ 1000) && xs.all fun x => isBet x 0 3) = false) : NR K H a y
theorem NR.row {K : PySem.W.Frag} {H : Hp} {a : Addr} {y : V} (h : NR K H a y) : RowB K H y false := by
  cases h with
  | oth h ht n => exact .oth h ht
  | tup h hx e =>
    obtain ⟨c, rfl, h⟩ := h
    have q := RowB.tup h fun x m => (hx x m).1
    rw [e] at q
    exact q
theorem NR.same {K : PySem.W.Frag} {H H' : Hp} {a : Addr} {y : V} (e : Same H H') (h : NR K H a y) : NR K H' a y := by
  cases h with
  | oth h ht n => exact .oth (h.same e) ht n
  | tup h hx q => exact .tup (h.same e) (fun x m => ⟨(hx x m).1.imp fun t z => z.same e, (hx x m).2⟩) q
theorem NR.sameB {K : PySem.W.Frag} {H H' : Hp} {a lc : Addr} {y : V} (hh : HandAt H a lc) (e : SameB a H H') (h : NR K H a y) : NR K H' a y := by
  cases h with
  | oth h ht n => exact .oth (h.sameB e n) ht n
  | tup h hx q =>
    obtain ⟨c, rfl, h⟩ := h
    exact .tup ⟨c, rfl, hand_seq hh e h⟩ (fun x m => ⟨(hx x m).1.imp fun t z => z.sameB e (hx x m).2, (hx x m).2⟩) q
def spDeep (K : PySem.W.Frag) : Sp := fun vs H Q _ => ∃ kind : Int, vs = [.int kind] ∧ 0 ≤ kind ∧ kind ≤ 2 ∧ ∀ r H', Same H H' → (∀ a, H a ≠ none → NR K H' a r) → (∃ t, Ty K H' r t) → isBet r 0 3 = false → isBet r 1 12 = false → (∀ a, H a ≠ none → r ≠ .ref a) → Q r H'
def spOddRow (K : PySem.W.Frag) : Sp := fun vs H Q _ => ∃ (a lc : Addr) (v : V) (xs : List Int), vs = [.ref a, v] ∧ HandAt H a lc ∧ Wd K H v xs ∧ 1 ≤ xs.length ∧ xs.length ≤ 5 ∧ ∀ r H', SameB a H H' → HandAt H' a lc → RowB K H' r false → Q r H'
section
variable {P : Program} {w : World} {K : PySem.W.Frag} {mg : Str → Option Value} {base : Heap} {f : Addr} {fd : FuncData}
abbrev s_law_deep : Stmt := top 44
theorem sc_law_deep : FnScope ["_law_kind", "_law_found", "_law_turn"] ["_law_kind"] (defScope s_law_deep) := ⟨rfl, rfl, rfl, by decide +kernel, rfl, by decide +kernel, by decide +kernel⟩
theorem ok_law_deep (F : Fun K "_law_deep" "_law_deep" s_law_deep f fd) (B : Bn mg) : FnOk P w K mg base CX0 1 f fd ["_law_kind"] (spDeep K) := by
  refine F.ok sc_law_deep (fun vs H Q E h => ?_) (fun cdv A outer s H vs Q E hr h => ?_)
  · obtain ⟨kind, rfl, _⟩ := h
    rfl
  obtain ⟨kind, rfl, k0, k2, k⟩ := h
  refine ⟨_, (pss_cons (ps_set (i := 1) sc_law_deep.nd rfl (Or.inl rfl) (pe_tup pa_nil))
      (pss_cons (ps_for PassesOwn.never rfl (pi_range1 (by rfl) B.range_ (pa_cons pe_int pa_nil)) (pg_name (i := 2) sc_law_deep.nd rfl (Or.inl rfl))
      (pss_one (ps_set (i := 1) sc_law_deep.nd rfl (Or.inl rfl) (pe_ix ix_list (pe_lst (pa_cons (pe_tup (pa_cons pe_int (pa_cons (pe_tup (pa_cons (pv 1) pa_nil)) pa_nil))) (pa_cons (pe_tup (pa_cons (pe_tup (pa_cons (pv 1) pa_nil)) pa_nil)) (pa_cons (pe_lst (pa_cons (pe_lst (pa_cons (pv 1) pa_nil)) pa_nil)) pa_nil)))) (pv 0) (fun _ _ => rfl)))))
      (pss_one (ps_ret (pv 1))))), ?_⟩
  refine ⟨Nat.zero_le _, fun e0 he0 => ?_⟩
  have se := same_new he0 (.tup [])
  refine ⟨_, rfl, by decide, by decide, for_range (lo := 0) (n := (13 : Int).toNat) (fun i σ H' => Same H H' ∧ ∃ (r : V) (u : Option V), σ = [some (.int kind), some r, u] ∧ (∃ t, Ty K H' r t) ∧ (∀ a, H a ≠ none → r ≠ .ref a) ∧ (1 ≤ i → (∀ a, H a ≠ none → NR K H' a r) ∧ isBet r 0 3 = false ∧ isBet r 1 12 = false))
    ⟨se, .ref e0, none, rfl, ⟨_, Ty.tup (xs := []) (SqT.of upd_same)⟩, fun a ha z => ha (by injection z with z; rw [← z]; exact he0), fun z => absurd z (by decide)⟩ ?_ ?_⟩
  · rintro i σ H1 hi ⟨s1, r, u, rfl, ⟨t, ht⟩, hra, _⟩
    refine ⟨_, rfl, (by show 1 ≤ sizeLine; decide), fun t1 h1 => ?_⟩
    have a1 := same_new h1 (.tup [r])
    refine ⟨(by show 2 ≤ sizeLine; decide), fun t2 h2 => ?_⟩
    have a2 := same_new h2 (.tup [.int 0, .ref t1])
    refine ⟨_, rfl, (by show 1 ≤ sizeLine; decide), fun t3 h3 => ?_⟩
    have a3 := same_new h3 (.tup [r])
    refine ⟨(by show 1 ≤ sizeLine; decide), fun t4 h4 => ?_⟩
    have a4 := same_new h4 (.tup [.ref t3])
    refine ⟨_, rfl, (by show 1 ≤ sizeLine; decide), fun l1 h5 => ?_⟩
    have a5 := same_new h5 (.lst [r])
    refine ⟨(by show 1 ≤ sizeLine; decide), fun l2 h6 => ?_⟩
    have a6 := same_new h6 (.lst [.ref l1])
    refine ⟨(by show 3 ≤ sizeLine; decide), fun l3 h7 => ?_⟩
    have a7 := same_new h7 (.lst [.ref t2, .ref t4, .ref l2])
    have new : ∀ {b : Addr} {H' : Hp}, H' b = none → Same H H' → ∀ a, H a ≠ none → (V.ref b) ≠ .ref a := fun {b H'} q e a ha z => by
      injection z with z
      rw [z] at q
      exact ha (e.free q)
    have e2 := s1.trans a1
    have e3 := e2.trans a2
    have e4 := e3.trans a3
    have e5 := e4.trans a4
    have e6 := e5.trans a5
    have e7 := e6.trans a6
    have e8 := e7.trans a7
    have b6 := a6.trans a7
    have b5 := a5.trans b6
    have b4 := a4.trans b5
    have b3 := a3.trans b4
    have b2 := a2.trans b3
    have f1 := b2 _ _ (show (upd H1 t1 (.tup [r])) t1 = some (.tup [r]) from upd_same)
    have f2 := b3 _ _ (show (upd (upd H1 t1 (.tup [r])) t2 (.tup [.int 0, .ref t1])) t2 = some (.tup [.int 0, .ref t1]) from upd_same)
    have f3 := b4 _ _ (upd_same (a := t3) (o := .tup [r]))
    have f4 := b5 _ _ (upd_same (a := t4) (o := .tup [.ref t3]))
    have f6 := a7 _ _ (upd_same (a := l2) (o := .lst [.ref l1]))
    have kk : kind = 0 ∨ kind = 1 ∨ kind = 2 := by omega
    rcases kk with rfl | rfl | rfl
    · refine ⟨_, rfl, l3, _, _, _, rfl, rfl, SqL.of upd_same, at_of (j := 0) rfl rfl, e8, .ref t2, _, rfl, ⟨_, Ty.tup (SqT.of f2)⟩, new h2 e2, fun _ => ⟨fun a ha => .tup ⟨t2, rfl, SqT.of f2⟩ (fun x m => ?_) rfl, rfl, rfl⟩⟩
      rcases List.mem_cons.mp m with rfl | m
      · exact ⟨⟨_, Ty.int 0⟩, fun z => nomatch z⟩
      · rw [List.mem_singleton.mp m]
        exact ⟨⟨_, Ty.tup (SqT.of f1)⟩, new h1 s1 a ha⟩
    · refine ⟨_, rfl, l3, _, _, _, rfl, rfl, SqL.of upd_same, at_of (j := 1) rfl rfl, e8, .ref t4, _, rfl, ⟨_, Ty.tup (SqT.of f4)⟩, new h4 e4, fun _ => ⟨fun a ha => .tup ⟨t4, rfl, SqT.of f4⟩ (fun x m => ?_) rfl, rfl, rfl⟩⟩
      rw [List.mem_singleton.mp m]
      exact ⟨⟨_, Ty.tup (SqT.of f3)⟩, new h3 e3 a ha⟩
    · exact ⟨_, rfl, l3, _, _, _, rfl, rfl, SqL.of upd_same, at_of (j := 2) rfl rfl, e8, .ref l2, _, rfl, ⟨_, Ty.lst f6⟩, new h6 e6, fun _ => ⟨fun a ha => .oth (Ty.lst f6) (by decide) (new h6 e6 a ha), rfl, rfl⟩⟩
  · rintro σ H1 ⟨s1, r, u, rfl, ht, hra, hn⟩
    obtain ⟨n1, n2, n3⟩ := hn (by decide)
    exact ⟨_, rfl, k r H1 s1 n1 ht n2 n3 hra⟩
theorem cutW_len (u : List Int) (lo hi : Option Int) : (cutW u lo hi).length ≤ u.length := by
  unfold cutW
  rw [List.length_take, List.length_drop]
  omega
theorem slFromI {H : Hp} {x : V} {u : List Int} {i : Int} {Q : VK} {σ : L2.St} (hx : Wd K H x u) (k : ∀ r H', Same H H' → Wd K H' r (cutW u (some i) none) → Q r H') : tNoPart σ H fun z H3 => rSlA K x (some i) z H3 Q :=
  sliceW (hi := none) hx k
theorem NR.odd {H : Hp} {a : Addr} {r y : V} {xs : List V} (h : SqV K H r xs) (hx : ∀ x ∈ xs, (∃ i, x = V.int i) ∨ x = y) (m : y ∈ xs) (ho : OddE K H a y) : NR K H a r := by
  refine .tup h (fun x q => ?_) ?_
  · rcases hx x q with ⟨i, rfl⟩ | rfl
    · exact ⟨⟨_, Ty.int i⟩, fun z => nomatch z⟩
    · exact ⟨ho.1, ho.2.2⟩
  · have : (xs.all fun x => isBet x 0 3) = false := by
      rw [List.all_eq_false]
      exact ⟨y, m, by rw [ho.2.1]; decide⟩
    rw [this, Bool.and_false]
theorem mem_ints {ns : List Int} {x : V} (h : x ∈ ns.map V.int) : ∃ i, x = V.int i := by
  obtain ⟨i, _, rfl⟩ := List.mem_map.mp h
  exact ⟨i, rfl⟩
abbrev s_law_odd_row : Stmt := top 45
theorem sc_law_odd_row : FnScope ["_law_hand_here", "_law_row_here", "_law_at", "_law_odd", "_law_things"] ["_law_hand_here", "_law_row_here"] (defScope s_law_odd_row) := ⟨rfl, rfl, rfl, by decide +kernel, rfl, by decide +kernel, by decide +kernel⟩
theorem ok_law_odd_row (F : Fun K "_law_odd_row" "_law_odd_row" s_law_odd_row f fd) (B : Bn mg) {f1 f2 f3 : Addr} {fd1 fd2 fd3 : FuncData} (k_law_draw : Kn P w K mg base CX0 1 "_law_draw" ["_law_hand_here", "_law_many"] spDraw f1 fd1)
    (k_law_some : Kn P w K mg base CX0 2 "_law_some" ["_law_hand_here", "_law_things"] spSome f2 fd2) (k_law_deep : Kn P w K mg base CX0 1 "_law_deep" ["_law_kind"] (spDeep K) f3 fd3) :
    FnOk P w K mg base CX0 3 f fd ["_law_hand_here", "_law_row_here"] (spOddRow K) := by
  refine F.ok sc_law_odd_row (fun vs H Q E h => ?_) (fun cdv A outer s H vs Q E hr h => ?_)
  · obtain ⟨a, lc, v, xs, rfl, _⟩ := h
    rfl
  obtain ⟨a, lc, v, xs, rfl, hh, hv, h1, h5, k⟩ := h
  refine ⟨_, (pss_cons (ps_set (i := 2) sc_law_odd_row.nd rfl (Or.inl rfl) (pk k_law_draw hr (by omega) pass0 (pa_cons (pv 0) (pa_cons (pe_callB call_len_seq (by rfl) B.len_ PySem.boot_len (pa_cons (pv 1) pa_nil)) pa_nil))))
      (pss_cons (ps_set (i := 3) sc_law_odd_row.nd rfl (Or.inl rfl) (pk k_law_some hr (by omega) pass0 (pa_cons (pv 0) (pa_cons (pe_lst (pa_cons pe_int (pa_cons (pe_un un_neg pe_int) (pa_cons pe_bl (pa_cons pe_bl (pa_cons pe_non (pa_cons pe_str (pa_cons (pe_tup (pa_cons pe_int pa_nil)) (pa_cons (pe_lst (pa_cons pe_int pa_nil)) (pa_cons (pe_op op_pow pe_int pe_int) (pa_cons pe_dnewK (pa_cons (pk k_law_deep hr (by omega) pass0 (pa_cons pe_int pa_nil)) pa_nil)))))))))))) pa_nil))))
      (pss_cons (ps_set (i := 4) sc_law_odd_row.nd rfl (Or.inl rfl) (pe_lst (pa_cons (pe_op op_catA (pe_op op_catA (pe_slice sl_tupA (pv 1) po_none (po_some (pv 2))) (pe_tup (pa_cons (pv 3) pa_nil))) (pe_slice sl_tupA (pv 1) (po_some (pe_op op_add (pv 2) pe_int)) po_none)) (pa_cons (pe_op op_catA (pe_op op_catA (pe_slice sl_tupA (pv 1) po_none (po_some (pv 2))) (pe_tup (pa_cons (pv 3) pa_nil))) (pe_slice sl_tupA (pv 1) (po_some (pe_op op_add (pv 2) pe_int)) po_none)) (pa_cons (pe_op op_catA (pv 1) (pe_tup (pa_cons (pv 3) pa_nil))) (pa_cons (pe_callTy call_list_of (by rfl) B.list_ (by decide +kernel) (pa_cons (pv 1) pa_nil)) (pa_cons (pe_tup pa_nil) pa_nil)))))))
      (pss_cons (ps_set (i := 4) sc_law_odd_row.nd rfl (Or.inl rfl) (pe_op op_cat (pv 4) (pe_lst (pa_cons pe_non (pa_cons pe_int (pa_cons pe_bl (pa_cons pe_str (pa_cons pe_dnewK (pa_cons (pe_disp (pps_cons pe_int pe_int pps_nil) (by rfl) (by rfl) (by decide) (by decide)) (pa_cons (pe_op op_rep1 (pe_tup (pa_cons pe_int pa_nil)) pe_int) (pa_cons (pk k_law_deep hr (by omega) pass0 (pa_cons pe_int pa_nil)) (pa_cons (pk k_law_deep hr (by omega) pass0 (pa_cons pe_int pa_nil)) pa_nil))))))))))))
      (pss_one (ps_ret (pk k_law_some hr (by omega) pass0 (pa_cons (pv 0) (pa_cons (pv 4) pa_nil))))))))), ?_⟩
  obtain ⟨b, rfl, hb⟩ := id hv
  refine ⟨_, rfl, _, rfl, b, _, rfl, .inr hb, a, lc, _, rfl, hh, by rw [List.length_map]; omega, by rw [List.length_map]; omega, fun d H1 d0 d1 sb1 hh1 => ?_⟩
  have hv1 := hand_wd hh sb1 hv
  refine ⟨_, rfl, _, rfl, (by show 1 ≤ sizeLine; decide), fun t1 ht1 => ?_⟩
  have s1 := same_new ht1 (.tup [.int 0])
  refine ⟨(by show 1 ≤ sizeLine; decide), fun l1 hl1 => ?_⟩
  have s2 := same_new hl1 (.lst [.int 0])
  refine ⟨_, _, rfl, rfl, ⟨by decide, by decide, by decide⟩, fun p1 hp1 => ?_⟩
  have s3 := same_new hp1 (.dK [])
  have s13 := s1.trans (s2.trans s3)
  refine ⟨0, rfl, by decide, by decide, fun r H2 s4 nr ty b1 b2 na => ?_⟩
  have s14 := s13.trans s4
  refine ⟨(by show 11 ≤ sizeLine; decide), fun l hl => ?_⟩
  have s5 := same_new hl (.lst [.int 4, .int (-1), .bl true, .bl false, .non, .str "0", .ref t1, .ref l1, .int (10 ^ (40 : Int).toNat), .ref p1, r])
  have s15 := s14.trans s5
  have haS : ∀ {H' : Hp}, Same H1 H' → H' a ≠ none := fun {H'} e z => by
    obtain ⟨_, _, _, _, _, e1, _⟩ := hh1.ex
    rw [e _ _ e1] at z
    cases z
  have nea : ∀ {c : Addr} {H' : Hp}, Same H1 H' → H' c = none → V.ref c ≠ .ref a := fun {c H'} e q z => by
    injection z with z
    rw [z] at q
    exact haS e q
  refine ⟨a, lc, l, _, rfl, hh1.same s15, upd_same, fun z => nea s14 hl (by rw [z]), (by show 1 ≤ 11; decide), (by show 11 ≤ 100; decide), fun y H3 hy sb3 hh3 => ?_⟩
  have hodd : OddE K H3 a y := by
    refine OddE.sameB sb3 (OddE.same s5 ?_)
    simp only [List.mem_cons, List.not_mem_nil, or_false] at hy
    rcases hy with rfl | rfl | rfl | rfl | rfl | rfl | rfl | rfl | rfl | rfl | rfl
    · exact ⟨⟨_, Ty.int _⟩, by decide, fun z => nomatch z⟩
    · exact ⟨⟨_, Ty.int _⟩, by decide, fun z => nomatch z⟩
    · exact ⟨⟨_, Ty.bl _⟩, rfl, fun z => nomatch z⟩
    · exact ⟨⟨_, Ty.bl _⟩, rfl, fun z => nomatch z⟩
    · exact ⟨⟨_, Ty.non⟩, rfl, fun z => nomatch z⟩
    · exact ⟨⟨_, Ty.str _⟩, rfl, fun z => nomatch z⟩
    · exact ⟨⟨_, Ty.tup (xs := [.int 0]) (SqT.of (s4 _ _ (s3 _ _ (s2 _ _ upd_same))))⟩, rfl, nea (fun _ _ q => q) ht1⟩
    · exact ⟨⟨_, Ty.lst (s4 _ _ (s3 _ _ upd_same))⟩, rfl, nea s1 hl1⟩
    · exact ⟨⟨_, Ty.int _⟩, by decide, fun z => nomatch z⟩
    · exact ⟨⟨_, Ty.dK (s4 _ _ upd_same)⟩, rfl, nea (s1.trans s2) hp1⟩
    · exact ⟨ty, b1, na a (haS s13)⟩
  have hv3 := hand_wd (hh1.same s15) sb3 (hv1.same s15)
  obtain ⟨_, eb, hb3⟩ := id hv3
  cases eb
  -- the odd things
  refine ⟨_, rfl, _, rfl, _, rfl, sliceW (hv3) fun xA XA pA wA => ?_⟩
  refine ⟨_, rfl, (by show 1 ≤ sizeLine; decide), fun yA zA => ?_⟩
  have qA := same_new zA (.tup [y])
  refine catV (SqV.same qA wA) ⟨yA, rfl, SqT.of upd_same⟩ (by rw [List.length_map]; have := cutW_len xs none (some d); show _ + 1 ≤ _; omega) fun cA CA tA vA => ?_
  refine ⟨_, rfl, _, rfl, _, _, rfl, rfl, _, rfl, slFromI (hv3.same (pA.trans (qA.trans tA))) fun gA GA uA oA => ?_⟩
  refine catV (vA.same uA) oA (by rw [List.length_append, List.length_map, List.length_map]; have h1 := cutW_len xs none (some d); have h2 := cutW_len xs (some (d + 1)) none; show _ + 1 + _ ≤ _; omega) fun rA RA eA fA => ?_
  have SA := pA.trans (qA.trans (tA.trans (uA.trans eA)))
  refine ⟨_, rfl, _, rfl, _, rfl, sliceW (hv3.same SA) fun xB XB pB wB => ?_⟩
  refine ⟨_, rfl, (by show 1 ≤ sizeLine; decide), fun yB zB => ?_⟩
  have qB := same_new zB (.tup [y])
  refine catV (SqV.same qB wB) ⟨yB, rfl, SqT.of upd_same⟩ (by rw [List.length_map]; have := cutW_len xs none (some d); show _ + 1 ≤ _; omega) fun cB CB tB vB => ?_
  refine ⟨_, rfl, _, rfl, _, _, rfl, rfl, _, rfl, slFromI (hv3.same (SA.trans (pB.trans (qB.trans tB)))) fun gB GB uB oB => ?_⟩
  refine catV (vB.same uB) oB (by rw [List.length_append, List.length_map, List.length_map]; have h1 := cutW_len xs none (some d); have h2 := cutW_len xs (some (d + 1)) none; show _ + 1 + _ ≤ _; omega) fun rB RB eB fB => ?_
  have SB := SA.trans (pB.trans (qB.trans (tB.trans (uB.trans eB))))
  refine ⟨_, rfl, _, rfl, (by show 1 ≤ sizeLine; decide), fun yC zC => ?_⟩
  have qC := same_new zC (.tup [y])
  refine catV (SqV.same qC (hv3.same SB)) ⟨yC, rfl, SqT.of upd_same⟩ (by rw [List.length_map]; show _ + 1 ≤ _; omega) fun rC RC tC fC => ?_
  have SC := SB.trans (qC.trans tC)
  obtain ⟨_, eb2, hbC⟩ := id (hv3.same SC)
  cases eb2
  refine ⟨_, rfl, b, _, rfl, .inr hbC, fun lD zD => ?_⟩
  have sD := same_new zD (.lst (xs.map V.int))
  refine ⟨Nat.zero_le _, fun eE zE => ?_⟩
  have sE := same_new zE (.tup [])
  refine ⟨(by show 5 ≤ sizeLine; decide), fun l5 z5 => ?_⟩
  have sL5 := same_new z5 (.lst [rA, rB, rC, .ref lD, .ref eE])
  refine ⟨_, rfl, fun p2 hp2 => ?_⟩
  have sP2 := same_new hp2 (.dK [])
  refine fun p3 hp3 => ⟨upd_same, [(.inl 0, .int 1)], rfl, (by show 1 ≤ 15; decide), ?_⟩
  have sP3 := Same.upd (same_new hp3 (.dK [])) hp3 (.dK (mergeK [] [(.inl 0, .int 1)]))
  refine ⟨(by show 1 ≤ sizeLine; decide), fun t4 ht4 => ?_⟩
  have sT4 := same_new ht4 (.tup [.int 0])
  refine ⟨t4, 1001, .int 0, rfl, rfl, SqT.of upd_same, by decide, by decide, fun t5 ht5 => ?_⟩
  have sT5 := same_new ht5 (.tup (List.replicate (1001 : Int).toNat (.int 0)))
  refine ⟨1, rfl, by decide, by decide, fun r6 H6 s6 nr6 _ _ _ na6 => ?_⟩
  refine ⟨2, rfl, by decide, by decide, fun r7 H7 s7 nr7 _ _ _ na7 => ?_⟩
  refine ⟨(by show 9 ≤ sizeLine; decide), fun l9 hl9 => ?_⟩
  have sL9 := same_new hl9 (.lst [.non, .int 0, .bl true, .str "00", .ref p2, .ref p3, .ref t5, r6, r7])
  have g7 := s7.trans sL9
  have g6 := s6.trans g7
  have gT5 := sT5.trans g6
  have gT4 := sT4.trans gT5
  have gP3 := sP3.trans gT4
  have gP2 := sP2.trans gP3
  have gL5 := sL5.trans gP2
  have gE := sE.trans gL5
  have gD := sD.trans gE
  have gC := (qC.trans tC).trans gD
  have gB := (pB.trans (qB.trans (tB.trans (uB.trans eB)))).trans gC
  have g3 := SA.trans gB
  refine ⟨l5, l9, _, _, rfl, rfl, gP2 _ _ upd_same, upd_same, (by show 14 ≤ sizeLine; decide), fun lF hlF => ?_⟩
  have sF := same_new hlF (.lst ([rA, rB, rC, .ref lD, .ref eE] ++ [.non, .int 0, .bl true, .str "00", .ref p2, .ref p3, .ref t5, r6, r7]))
  have haS3 : ∀ {H' : Hp}, Same H3 H' → H' a ≠ none := fun {H'} e z => by
    obtain ⟨_, _, _, _, _, e1, _⟩ := hh3.ex
    rw [e _ _ e1] at z
    cases z
  have nea3 : ∀ {c : Addr} {H' : Hp}, Same H3 H' → H' c = none → V.ref c ≠ .ref a := fun {c H'} e q z => by
    injection z with z
    rw [z] at q
    exact haS3 e q
  have x3D := SC
  have x3E := x3D.trans sD
  have x3L := x3E.trans sE
  have x3P2 := x3L.trans sL5
  have x3P3 := x3P2.trans sP2
  have x3T4 := x3P3.trans sP3
  have x3T5 := x3T4.trans sT4
  have x36 := x3T5.trans sT5
  have x37 := x36.trans s6
  have x39 := x37.trans s7
  refine ⟨_, rfl, _, rfl, a, lc, lF, _, rfl, hh3.same (g3.trans sF), upd_same, fun z => nea3 g3 hlF (by rw [z]), (by show 1 ≤ 14; decide), (by show 14 ≤ 100; decide), fun y2 H8 hy2 sb8 hh8 => ?_⟩
  refine k y2 H8 (SameB.trans (SameB.trans sb1 (SameB.trans (Same.b s15 a) sb3)) (SameB.trans (Same.b (g3.trans sF) a) sb8)) hh8 ?_
  refine NR.row (a := a) (NR.sameB (hh3.same (g3.trans sF)) sb8 (NR.same sF ?_))
  have ints1 : ∀ {ns ms : List Int} {x : V}, x ∈ ns.map V.int ++ [y] ++ ms.map V.int → (∃ i, x = V.int i) ∨ x = y := fun {ns ms x} m => by
    rcases List.mem_append.mp m with m | m
    · rcases List.mem_append.mp m with m | m
      · exact .inl (mem_ints m)
      · exact .inr (List.mem_singleton.mp m)
    · exact .inl (mem_ints m)
  have mid : ∀ {ns ms : List Int}, y ∈ ns.map V.int ++ [y] ++ ms.map V.int := fun {ns ms} => by simp
  have hy2 : y2 ∈ [rA, rB, rC, .ref lD, .ref eE, .non, .int 0, .bl true, .str "00", .ref p2, .ref p3, .ref t5, r6, r7] := hy2
  simp only [List.mem_cons, List.not_mem_nil, or_false] at hy2
  rcases hy2 with rfl | rfl | rfl | rfl | rfl | rfl | rfl | rfl | rfl | rfl | rfl | rfl | rfl | rfl
  · exact NR.same gB (NR.odd fA (fun x m => ints1 m) mid (hodd.same SA))
  · exact NR.same gC (NR.odd fB (fun x m => ints1 m) mid (hodd.same SB))
  · exact NR.same gD (NR.odd fC (fun x m => (List.mem_append.mp m).elim (fun q => .inl (mem_ints q)) (fun q => .inr (List.mem_singleton.mp q))) (List.mem_append_right _ (List.mem_singleton.mpr rfl)) (hodd.same SC))
  · exact NR.same gE (.oth (Ty.lst upd_same) (by decide) (nea3 x3D zD))
  · exact NR.same gL5 (.tup (xs := []) ⟨eE, rfl, SqT.of upd_same⟩ (fun x m => by cases m) rfl)
  · exact .oth Ty.non (by decide) (fun z => nomatch z)
  · exact .oth (Ty.int _) (by decide) (fun z => nomatch z)
  · exact .oth (Ty.bl _) (by decide) (fun z => nomatch z)
  · exact .oth (Ty.str _) (by decide) (fun z => nomatch z)
  · exact NR.same gP3 (.oth (Ty.dK upd_same) (by decide) (nea3 x3P2 hp2))
  · exact NR.same gT4 (.oth (Ty.dK upd_same) (by decide) (nea3 x3P3 hp3))
  · refine NR.same g6 (.tup ⟨t5, rfl, SqT.of upd_same⟩ (fun x m => ?_) ?_)
    · rw [(List.mem_replicate.mp m).2]
      exact ⟨⟨_, Ty.int _⟩, fun z => nomatch z⟩
    · rw [decide_eq_false (by rw [List.length_replicate]; decide), Bool.false_and]
  · exact NR.same g7 (nr6 a (haS3 x36))
  · exact NR.same sL9 (nr7 a (haS3 x37))
end
end Fl
end

section
set_option Elab.async false
set_option linter.all false
set_option maxRecDepth 100000
set_option maxHeartbeats 4000000
/-! The law's own: long_right, small_right. -/
namespace Fl
open PySem PySem.Spec PyProof.Rows L2
theorem rowsI_symm (one two : List Int) : ∀ (n p q : Nat), rowsI two one n q p = rowsI one two n p q
  | 0, p, q => rfl
  | n + 1, p, q => by
    show (letters.filterMap _).flatMap _ = (letters.filterMap _).flatMap _
    rw [flatMap_filterMap, flatMap_filterMap]
    refine congrArg (fun f => List.flatMap f letters) (funext fun c => ?_)
    cases nxt one p c with
    | none => cases nxt two q c <;> rfl
    | some p' =>
      cases nxt two q c with
      | none => rfl
      | some q' =>
        show (rowsI two one n q' p').map (c :: ·) = (rowsI one two n p' q').map (c :: ·)
        rw [rowsI_symm one two n p' q']
theorem seq_cutN {a b : TS} {D : Ends} {r : VK} {kb kc : L2.St → Hp → Prop} {σ : L2.St} {H : Hp} (Pm : L2.St → Hp → Prop) (h2 : ∀ σ H, Pm σ H → b D σ H) (h1 : ∀ N : L2.St → Hp → Prop, (∀ σ H, Pm σ H → N σ H) → a { D with nx := N } σ H) :
    ({ nx := tSeq a b D, rt := r, bk := kb, ct := kc } : Ends).nx σ H := seq_cut Pm h2 h1
def spRight : Sp := fun vs H Q _ => ∃ (a lc : Addr), vs = [.ref a] ∧ HandAt H a lc ∧ ∀ H', SameB a H H' → HandAt H' a lc → Q (.bl true) H'
section
variable {P : Program} {w : World} {K : PySem.W.Frag} {mg : Str → Option Value} {base : Heap} {f : Addr} {fd : FuncData} {cR cN cT : Addr}
abbrev s_law_long_right : Stmt := top 53
theorem sc_law_long_right : FnScope ["_law_hand_here", "_law_row_here", "_law_other", "_law_most", "_law_least", "_law_told", "_law_over"] ["_law_hand_here"] (defScope s_law_long_right) := ⟨rfl, rfl, rfl, by decide +kernel, rfl, by decide +kernel, by decide +kernel⟩
theorem ok_law_long_right (F : Fun K "_law_long_right" "_law_long_right" s_law_long_right f fd) (B : Bn mg) {f1 f2 f3 f4 f5 f6 f7 : Addr} {fd1 fd2 fd3 fd4 fd5 fd6 fd7 : FuncData} (k_law_draw : Kn P w K mg base CX0 1 "_law_draw" ["_law_hand_here", "_law_many"] spDraw f1 fd1)
    (k_law_row : Kn P w K mg base CX0 2 "_law_row" ["_law_hand_here", "_law_letters", "_law_most"] (spLRow K) f2 fd2) (k_law_lengths : Kn P w K mg base CX0 2 "_law_lengths" ["_law_row_here", "_law_other"] (spLLengths K) f3 fd3)
    (klongest_common : Kn P w K mg base (L2.CX P w) 16 "longest_common" ["row", "other"] (spLongest K cR cT) f4 fd4) (kshortest_over : Kn P w K mg base (L2.CX P w) 16 "shortest_over" ["row", "other"] (spShortest K cR cT) f5 fd5)
    (k_law_word : Kn P w K mg base CX0 1 "_law_word" ["_law_row_here"] (spLWord K) f6 fd6) (kis_thinning : Kn P w K mg base CX0 7 "is_thinning" ["row", "out"] (spThin K) f7 fd7) :
    FnOk P w K mg base CX0 17 f fd ["_law_hand_here"] spRight := by
  refine F.ok sc_law_long_right (fun vs H Q E h => ?_) (fun cdv A outer s H vs Q E hr h => ?_)
  · obtain ⟨a, lc, rfl, _⟩ := h
    rfl
  obtain ⟨a, lc, rfl, hh, k⟩ := h
  refine ⟨_, (pss_cons (ps_par (i := 1) (j := 2) (by rfl) sc_law_long_right.nd rfl rfl (by decide) rfl rfl (pa_cons (pk k_law_row hr (by omega) pass0 (pa_cons (pv 0) (pa_cons (pe_op op_add pe_int (pk k_law_draw hr (by omega) pass0 (pa_cons (pv 0) (pa_cons pe_int pa_nil)))) (pa_cons pe_int pa_nil)))) (pa_cons (pk k_law_row hr (by omega) pass0 (pa_cons (pv 0) (pa_cons (pe_op op_add pe_int (pk k_law_draw hr (by omega) pass0 (pa_cons (pv 0) (pa_cons pe_int pa_nil)))) (pa_cons pe_int pa_nil)))) pa_nil)) (by rfl))
      (pss_cons (ps_asg (pk k_law_lengths hr (by omega) pass0 (pa_cons (pv 1) (pa_cons (pv 2) pa_nil))) (pg_tup (by rfl) (pgs_cons (pg_name (i := 3) sc_law_long_right.nd rfl (Or.inl rfl)) (pgs_cons (pg_name (i := 4) sc_law_long_right.nd rfl (Or.inl rfl)) pgs_nil))))
      (pss_cons (ps_par (i := 5) (j := 6) (by rfl) sc_law_long_right.nd rfl rfl (by decide) rfl rfl (pa_cons (pk klongest_common hr (by omega) passL (pa_cons (pv 1) (pa_cons (pv 2) pa_nil))) (pa_cons (pk kshortest_over hr (by omega) passL (pa_cons (pv 1) (pa_cons (pv 2) pa_nil))) pa_nil)) (by rfl))
      (pss_cons (ps_if (PW.pt (pw_or (pt_cmpR op_isN (pv 5) pe_non (nomark _)) (pw_or1 (pt_cmpR op_eq (pv 3) pe_int (nomark _))))) (pss_one (ps_if (PW.pt (pw_or (pt_cmpR op_notN (pv 5) pe_non (nomark _)) (pw_or1 (pt_cmpR op_gt (pv 3) pe_int (nomark _))))) (pss_one (ps_ret pe_bl)) pss_nil)) (pss_one (ps_if (PW.pt (pw_or (pt_cmpR op_ne (pe_callB call_len_seq (by rfl) B.len_ PySem.boot_len (pa_cons (pv 5) pa_nil)) (pv 3) (nomark _)) (pw_or (pt_cmpR (op_neD hr.units) (pv 5) (pk k_law_word hr (by omega) pass0 (pa_cons (pv 5) pa_nil)) (nomark _)) (pw_or (pt_not (pt_val (pk kis_thinning hr (by omega) pass0 (pa_cons (pv 1) (pa_cons (pv 5) pa_nil))))) (pw_or1 (pt_not (pt_val (pk kis_thinning hr (by omega) pass0 (pa_cons (pv 2) (pa_cons (pv 5) pa_nil)))))))))) (pss_one (ps_ret pe_bl)) pss_nil)))
      (pss_cons (ps_if (PW.pt (pw_or (pt_cmpR op_ne (pe_callB call_len_seq (by rfl) B.len_ PySem.boot_len (pa_cons (pv 6) pa_nil)) (pv 4) (nomark _)) (pw_or1 (pt_cmpR (op_neD hr.units) (pv 6) (pk k_law_word hr (by omega) pass0 (pa_cons (pv 6) pa_nil)) (nomark _))))) (pss_one (ps_ret pe_bl)) pss_nil)
      (pss_one (ps_ret (pe_and (pe_cmpR op_isBl (pk kis_thinning hr (by omega) pass0 (pa_cons (pv 6) (pa_cons (pv 1) pa_nil))) pe_bl (nomark _)) (pe_one (pe_cmpR op_isBl (pk kis_thinning hr (by omega) pass0 (pa_cons (pv 6) (pa_cons (pv 2) pa_nil))) pe_bl (nomark _))))))))))), ?_⟩
  refine ⟨_, rfl, _, rfl, a, lc, 4, rfl, hh, by decide, by decide, fun d1 H1 d10 d11 sb1 hh1 => ⟨_, _, rfl, rfl, a, lc, 1 + d1, 30, rfl, hh1, by omega, by omega, by decide, by decide, fun v1 xs H2 sb2 hh2 hv2 lx1 lx2 cx => ?_⟩⟩
  refine ⟨_, rfl, _, rfl, a, lc, 4, rfl, hh2, by decide, by decide, fun d2 H3 d20 d21 sb3 hh3 => ⟨_, _, rfl, rfl, a, lc, 1 + d2, 30, rfl, hh3, by omega, by omega, by decide, by decide, fun v2 ys H4 sb4 hh4 hw4 ly1 ly2 cy => ?_⟩⟩
  have hv4 := hand_wd hh3 sb4 (hand_wd hh2 sb3 hv2)
  have sb14 := SameB.trans sb1 (SameB.trans sb2 (SameB.trans sb3 sb4))
  have rx : IsRow xs := ⟨lx1, by omega, cx⟩
  have ry : IsRow ys := ⟨ly1, by omega, cy⟩
  have wlx : (wd xs).length ≤ 30 := Nat.le_trans (wd_length xs) (by omega)
  have wly : (wd ys).length ≤ 30 := Nat.le_trans (wd_length ys) (by omega)
  have nex : xs ≠ [] := fun z => by rw [z] at lx1; exact absurd lx1 (by decide)
  have ney : ys ≠ [] := fun z => by rw [z] at ly1; exact absurd ly1 (by decide)
  refine ⟨_, _, rfl, ?_⟩
  refine ⟨_, rfl, _, rfl, v1, v2, xs, ys, rfl, hv4, hw4, nex, ney, by omega, by omega, cx, cy, fun p H5 M s5 hp hMe hMle => ⟨p, _, rfl, SqT.of hp, rfl, _, _, rfl, _, _, rfl, rfl, ?_⟩⟩
  have hv5 := hv4.same s5
  have hw5 := hw4.same s5
  refine ⟨_, rfl, _, rfl, v1, v2, true, true, rfl, RowB.good hv5 rx, RowB.good hw5 ry, (fun H' s' q => absurd q (by decide)), fun _ => ⟨xs, ys, hv5, hw5, rx, ry, fun H6 s6 => ⟨fun q => absurd q (by omega), fun _ _ r o hL hO => ?_⟩⟩⟩
  have hv6 := hv5.same s6
  have hw6 := hw5.same s6
  refine ⟨_, rfl, _, rfl, v1, v2, true, true, rfl, RowB.good hv6 rx, RowB.good hw6 ry, (fun H' s' q => absurd q (by decide)), fun _ => ⟨xs, ys, hv6, hw6, rx, ry, fun H7 s7 => ⟨fun q => absurd q (by omega), fun _ _ r2 hr2 => ⟨_, _, rfl, ?_⟩⟩⟩⟩
  have hv7 := hv6.same s7
  have hw7 := hw6.same s7
  have hO7 := hO.same s7
  obtain ⟨ln, ls⟩ := longest_len hL (fun c h => cx c (wd_mem.mp h)) (fun c h => cy c (wd_mem.mp h)) hMe hMle
  have let4 : ∀ c, c ∈ xs ∨ c ∈ ys → 0 ≤ c ∧ c < 4 := fun c h => h.elim (cx c) (cy c)
  have thinT : ∀ {row out : List Int}, isW out → out.Sublist row → thin row out = true := fun {row out} hw hs => (thin_iff out row).mpr (by rw [wd_of_isW hw]; exact hs)
  have dM : decide (V.int (M : Int) = V.int 0) = decide (M = 0) := by
    rw [decide_eq_decide]
    exact ⟨fun z => by injection z with z; omega, fun z => by rw [z]; rfl⟩
  have dMp : decide ((0 : Int) < (M : Int)) = decide (0 < M) := by
    rw [decide_eq_decide]
    omega
  refine seq_cutN (fun σ H' => Same H7 H' ∧ σ = [some (.ref a), some v1, some v2, some (.int (M : Int)), some (.int ((sb (wd xs) (wd ys)).length : Nat)), some r, some r2]) ?_ (fun N hN => ?_)
  · rintro σ H8 ⟨s8, rfl⟩
    have hr8 := hr2.same s8
    have hss := sb_SS _ (wd xs) (wd ys) (Nat.le_refl _)
    have hsw := sb_isW _ (wd xs) (wd ys) (Nat.le_refl _) (isW_wd xs) (isW_wd ys)
    have hsl := sb_len_le (wd xs) (wd ys)
    have hsm := sb_mem (x := wd xs) (y := wd ys) (p := fun c => 0 ≤ c ∧ c < 4) _ (wd xs) (wd ys) (Nat.le_refl _) (fun c h => cx c (wd_mem.mp h)) (fun c h => cy c (wd_mem.mp h))
    have hsp : 1 ≤ (sb (wd xs) (wd ys)).length := by
      have h1 := hss.1.length_le
      have h2 : 1 ≤ (wd xs).length := by
        exact List.length_pos_iff.mpr (wd_ne nex)
      omega
    have rs : IsRow (sb (wd xs) (wd ys)) := ⟨hsp, by omega, hsm⟩
    generalize hS : sb (wd xs) (wd ys) = S at *
    obtain ⟨b, rfl, hb⟩ := id hr8
    refine ⟨_, rfl, b, _, rfl, .inr hb, _, rfl, rfl, _, rfl, ?_⟩
    rw [List.length_map, decide_eq_true rfl]
    refine iteF ?_
    refine ⟨_, rfl, _, rfl, .ref b, S, rfl, hr8, (fun z => by rw [z] at hsp; exact absurd hsp (by decide)), by omega, fun q H9 s9 w9 => ?_⟩
    rw [wd_of_isW hsw] at w9
    refine ⟨_, _, (hr8.same s9).dp, w9.dp, shaped_dW _, shaped_dW _, _, rfl, ?_⟩
    rw [eqv_dW, decide_eq_true rfl]
    refine iteF ?_
    have hr9 := hr8.same s9
    have hv9 := (hv7.same s8).same s9
    have hw9 := (hw7.same s8).same s9
    refine ⟨_, rfl, _, rfl, .ref b, v1, S, xs, rfl, hr9, hv9, rs, rx, fun H10 s10 => ?_⟩
    rw [(thin_iff xs S).mpr hss.1]
    refine ⟨_, _, rfl, rfl, _, rfl, iteT ?_⟩
    refine ⟨_, rfl, _, rfl, .ref b, v2, S, ys, rfl, hr9.same s10, hw9.same s10, rs, ry, fun H11 s11 => ?_⟩
    rw [(thin_iff ys S).mpr hss.2]
    have s411 := s5.trans (s6.trans (s7.trans (s8.trans (s9.trans (s10.trans s11)))))
    exact ⟨_, _, rfl, rfl, k H11 (SameB.trans sb14 (Same.b s411 a)) (hh4.same s411)⟩
  · cases o with
    | none =>
      have hO7 : r = .non := hO7
      subst hO7
      have m0 := ln rfl
      refine ⟨_, rfl, rfl, _, rfl, iteT ?_⟩
      refine ⟨_, rfl, rfl, _, rfl, iteF ?_⟩
      refine ⟨_, rfl, _, _, rfl, rfl, _, rfl, ?_⟩
      rw [dMp, decide_eq_false (by omega)]
      exact iteF (hN _ _ ⟨fun _ _ q => q, rfl⟩)
    | some u =>
      have hO7 : Wd K H7 r u := hO7
      obtain ⟨l1, l2⟩ := ls u rfl
      obtain ⟨cw, cne, cs1, cs2⟩ := hL.com u rfl
      have cs1' := cs1.trans (wd_sub xs)
      have cs2' := cs2.trans (wd_sub ys)
      have hup : 1 ≤ u.length := List.length_pos_iff.mpr cne
      have hul : u.length ≤ 30 := Nat.le_trans cs1.length_le wlx
      have ru : IsRow u := ⟨hup, by omega, fun c h => cx c (cs1'.subset h)⟩
      refine ⟨_, rfl, rfl, _, rfl, ?_⟩
      rw [decN (wd_non hO7)]
      refine iteF ?_
      refine ⟨_, rfl, rfl, _, rfl, ?_⟩
      rw [dM, decide_eq_false (by omega)]
      refine iteF ?_
      obtain ⟨b, rfl, hb⟩ := id hO7
      refine ⟨_, rfl, b, _, rfl, .inr hb, _, rfl, rfl, _, rfl, ?_⟩
      rw [List.length_map, l1, decide_eq_true rfl]
      refine iteF ?_
      refine ⟨_, rfl, _, rfl, .ref b, u, rfl, hO7, cne, by omega, fun q H9 s9 w9 => ?_⟩
      rw [wd_of_isW cw] at w9
      refine ⟨_, _, (hO7.same s9).dp, w9.dp, shaped_dW _, shaped_dW _, _, rfl, ?_⟩
      rw [eqv_dW, decide_eq_true rfl]
      refine iteF ?_
      refine ⟨_, rfl, _, rfl, v1, .ref b, xs, u, rfl, hv7.same s9, hO7.same s9, rx, ru, fun H10 s10 => ?_⟩
      rw [thinT cw cs1']
      refine ⟨_, rfl, iteF ?_⟩
      refine ⟨_, rfl, _, rfl, v2, .ref b, ys, u, rfl, (hw7.same s9).same s10, (hO7.same s9).same s10, ry, ru, fun H11 s11 => ?_⟩
      rw [thinT cw cs2']
      refine ⟨_, rfl, iteF ?_⟩
      exact hN _ _ ⟨s9.trans (s10.trans s11), rfl⟩
end
end Fl
end

section
set_option Elab.async false
set_option linter.all false
set_option maxRecDepth 100000
set_option maxHeartbeats 4000000
/-! The law's own: small_right. -/
namespace Fl
open PySem PySem.Spec PyProof.Rows L2
theorem simW (n : Nat) {u : List Int} (h : u.length ≤ 100000) : SimD (n + 1) (dW u) := .tup (fun d m => by
  obtain ⟨i, _, rfl⟩ := List.mem_map.mp m
  exact .int n i) (by rw [List.length_map]; exact h)
theorem simWs (n : Nat) {us : List (List Int)} (h : ∀ u ∈ us, u.length ≤ 100000) (hl : us.length ≤ 100000) : SimD (n + 2) (.list (us.map dW)) := .lst (fun d m => by
  obtain ⟨u, hu, rfl⟩ := List.mem_map.mp m
  exact simW n (h u hu)) (by rw [List.length_map]; exact hl)
theorem eqv_list (us vs : List (List Int)) : PyData.eqv (.list (us.map dW)) (.list (vs.map dW)) = decide (us = vs) := by rw [PyData.eqv, eqv_dWs]
section
variable {P : Program} {w : World} {K : PySem.W.Frag} {mg : Str → Option Value} {base : Heap} {f : Addr} {fd : FuncData} {cR cN cT : Addr}
abbrev s_law_small_right : Stmt := top 52
theorem sc_law_small_right : FnScope ["_law_hand_here", "_law_letters", "_law_row_here", "_law_other", "_law_lanes", "_law_both", "_law_told", "_law_out"] ["_law_hand_here"] (defScope s_law_small_right) := ⟨rfl, rfl, rfl, by decide +kernel, rfl, by decide +kernel, by decide +kernel⟩
theorem ok_law_small_right (F : Fun K "_law_small_right" "_law_small_right" s_law_small_right f fd) (B : Bn mg) {f1 f2 f3 f4 f5 f6 f7 f8 f9 fa fb : Addr} {fd1 fd2 fd3 fd4 fd5 fd6 fd7 fd8 fd9 fda fdb : FuncData} (k_law_draw : Kn P w K mg base CX0 1 "_law_draw" ["_law_hand_here", "_law_many"] spDraw f1 fd1)
    (k_law_row : Kn P w K mg base CX0 2 "_law_row" ["_law_hand_here", "_law_letters", "_law_most"] (spLRow K) f2 fd2) (k_law_rows : Kn P w K mg base CX0 1 "_law_rows" ["_law_letters", "_law_lanes"] (spLRows K) f3 fd3)
    (klongest_common : Kn P w K mg base (L2.CX P w) 16 "longest_common" ["row", "other"] (spLongest K cR cT) f4 fd4) (kshortest_over : Kn P w K mg base (L2.CX P w) 16 "shortest_over" ["row", "other"] (spShortest K cR cT) f5 fd5)
    (k_law_thins : Kn P w K mg base CX0 2 "_law_thins" ["_law_row_here", "_law_out"] (spLThins K) f6 fd6) (kcommon_many : Kn P w K mg base (L2.CX P w) 16 "common_many" ["row", "other", "lanes"] (spCMany K cR cN) f7 fd7) (kcommon : Kn P w K mg base (L2.CX P w) 16 "common" ["row", "other", "lanes"] (spCommon K cR cN cT) f8 fd8)
    (k_law_is : Kn P w K mg base CX0 4 "_law_is" ["_law_told", "_law_due"] (spLIs K 2) f9 fd9) (k_law_longest : Kn P w K mg base CX0 3 "_law_longest" ["_law_row_here", "_law_other"] (spLLongest K) fa fda) (k_law_shortest : Kn P w K mg base CX0 2 "_law_shortest" ["_law_row_here", "_law_other"] (spLShortest K) fb fdb) :
    FnOk P w K mg base CX0 17 f fd ["_law_hand_here"] spRight := by
  have kis1 := k_law_is
  refine F.ok sc_law_small_right (fun vs H Q E h => ?_) (fun cdv A outer s H vs Q E hr h => ?_)
  · obtain ⟨a, lc, rfl, _⟩ := h
    rfl
  obtain ⟨a, lc, rfl, hh, k⟩ := h
  refine ⟨_, (pss_cons (ps_set (i := 1) sc_law_small_right.nd rfl (Or.inl rfl) (pe_op op_add pe_int (pk k_law_draw hr (by omega) pass0 (pa_cons (pv 0) (pa_cons pe_int pa_nil)))))
      (pss_cons (ps_asg (pe_tup (pa_cons (pk k_law_row hr (by omega) pass0 (pa_cons (pv 0) (pa_cons (pv 1) (pa_cons pe_int pa_nil)))) (pa_cons (pk k_law_row hr (by omega) pass0 (pa_cons (pv 0) (pa_cons (pe_op op_add pe_int (pk k_law_draw hr (by omega) pass0 (pa_cons (pv 0) (pa_cons pe_int pa_nil)))) (pa_cons pe_int pa_nil)))) pa_nil))) (pg_tup (by rfl) (pgs_cons (pg_name (i := 2) sc_law_small_right.nd rfl (Or.inr rfl)) (pgs_cons (pg_name (i := 3) sc_law_small_right.nd rfl (Or.inr rfl)) pgs_nil))))
      (pss_cons (ps_set (i := 4) sc_law_small_right.nd rfl (Or.inl rfl) (pe_op op_add pe_int (pk k_law_draw hr (by omega) pass0 (pa_cons (pv 0) (pa_cons pe_int pa_nil)))))
      (pss_cons (ps_setLc (i := 5) (own := [("_law_out", 7)]) (by rfl) sc_law_small_right.nd rfl rfl (sw_true rfl rfl rfl (by decide +kernel)) (pi_list (pk k_law_rows hr (by omega) pass0 (pa_cons (pe_callB (cr_sortedSet rfl) (by rfl) B.sorted_ (by decide +kernel) (pa_cons (pe_callTy (cs_setT rfl) (by rfl) B.set_ (by decide +kernel) (pa_cons (pv 2) pa_nil)) pa_nil)) (pa_cons (pv 4) pa_nil)))) (blkOk_by (N := ["_law_hand_here", "_law_letters", "_law_row_here", "_law_other", "_law_lanes", "_law_both", "_law_told", "_law_out"]) (sc := defScope s_law_small_right) (by decide +kernel)) (fun _ _ _ _ _ => (pg_name (i := 7) sc_law_small_right.nd rfl (Or.inl rfl))) (fun _ _ _ _ _ => (pts_one (PW.pt (pw_and (pt_val (pk k_law_thins hr (by omega) pass0 (pa_cons (pv 2) (pa_cons (pv 7) pa_nil)))) (pw_and1 (pt_val (pk k_law_thins hr (by omega) pass0 (pa_cons (pv 3) (pa_cons (pv 7) pa_nil))))))))) (fun _ _ _ _ _ => (pv 7)))
      (pss_cons (ps_set (i := 6) sc_law_small_right.nd rfl (Or.inl rfl) (pk kcommon hr (by omega) passL (pa_cons (pv 2) (pa_cons (pv 3) (pa_cons (pv 4) pa_nil)))))
      (pss_cons (ps_if (PW.pt (pw_or (pt_not (pt_val (pk k_law_is hr (by omega) pass0 (pa_cons (pv 6) (pa_cons (pv 5) pa_nil))))) (pw_or1 (pt_not (pt_val (pk kis1 hr (by omega) pass0 (pa_cons (pk kcommon_many hr (by omega) passL (pa_cons (pv 2) (pa_cons (pv 3) (pa_cons (pv 4) pa_nil)))) (pa_cons (pe_callB call_len_seq (by rfl) B.len_ PySem.boot_len (pa_cons (pv 5) pa_nil)) pa_nil)))))))) (pss_one (ps_ret pe_bl)) pss_nil)
      (pss_cons (ps_expr (pe_bm PySem.F.plainAttrs_list PySem.F.slot_list_append PySem.F.type_list_append mt_append (pv 6) (pa_cons (pe_tup (pa_cons pe_int pa_nil)) pa_nil)))
      (pss_cons (ps_if (PW.pt (pw_or (pt_cmpR (op_neD hr.units) (pk kcommon hr (by omega) passL (pa_cons (pv 3) (pa_cons (pv 2) (pa_cons (pv 4) pa_nil)))) (pv 5) (nomark _)) (pw_or1 (pt_not (pt_val (pk k_law_is hr (by omega) pass0 (pa_cons (pk klongest_common hr (by omega) passL (pa_cons (pv 2) (pa_cons (pv 3) pa_nil))) (pa_cons (pk k_law_longest hr (by omega) pass0 (pa_cons (pv 2) (pa_cons (pv 3) pa_nil))) pa_nil)))))))) (pss_one (ps_ret pe_bl)) pss_nil)
      (pss_one (ps_ret (pk k_law_is hr (by omega) pass0 (pa_cons (pk kshortest_over hr (by omega) passL (pa_cons (pe_slice sl_tupA (pv 2) po_none (po_some pe_int)) (pa_cons (pe_slice sl_tupA (pv 3) po_none (po_some pe_int)) pa_nil))) (pa_cons (pk k_law_shortest hr (by omega) pass0 (pa_cons (pe_slice sl_tupA (pv 2) po_none (po_some pe_int)) (pa_cons (pe_slice sl_tupA (pv 3) po_none (po_some pe_int)) pa_nil))) pa_nil))))))))))))), ?_⟩
  refine ⟨_, rfl, a, lc, 4, rfl, hh, by decide, by decide, fun d1 H1 d10 d11 sb1 hh1 => ⟨_, _, rfl, rfl, ?_⟩⟩
  refine ⟨_, rfl, _, rfl, a, lc, 1 + d1, 7, rfl, hh1, by omega, by omega, by decide, by decide, fun v1 xs H2 sb2 hh2 hv2 lx1 lx2 cx => ?_⟩
  refine ⟨_, rfl, _, rfl, a, lc, 4, rfl, hh2, by decide, by decide, fun d2 H3 d20 d21 sb3 hh3 => ⟨_, _, rfl, rfl, a, lc, 1 + d2, 7, rfl, hh3, by omega, by omega, by decide, by decide, fun v2 ys H4 sb4 hh4 hw4 ly1 ly2 cy => ?_⟩⟩
  have hv4 := hand_wd hh3 sb4 (hand_wd hh2 sb3 hv2)
  have sb14 := SameB.trans sb1 (SameB.trans sb2 (SameB.trans sb3 sb4))
  have rx : IsRow xs := ⟨lx1, by omega, cx⟩
  have ry : IsRow ys := ⟨ly1, by omega, cy⟩
  have nex : xs ≠ [] := fun z => by rw [z] at lx1; exact absurd lx1 (by decide)
  have ney : ys ≠ [] := fun z => by rw [z] at ly1; exact absurd ly1 (by decide)
  refine ⟨(by show 2 ≤ sizeLine; decide), fun tp htp => ⟨tp, _, rfl, SqT.of upd_same, rfl, _, _, rfl, _, _, rfl, rfl, ?_⟩⟩
  have st := same_new htp (.tup [v1, v2])
  have hv5 := hv4.same st
  have hw5 := hw4.same st
  refine ⟨_, rfl, a, lc, 4, rfl, hh4.same st, by decide, by decide, fun d3 H6 d30 d31 sb6 hh6 => ⟨_, _, rfl, rfl, ?_⟩⟩
  show gName _ (V.int (1 + d3)) _ _ _
  obtain ⟨n, hn⟩ : ∃ n : Nat, 1 + d3 = (n : Int) := ⟨(1 + d3).toNat, by omega⟩
  rw [hn]
  have hn1 : 1 ≤ n := by omega
  have hn4 : n ≤ 4 := by omega
  have hv6 := hand_wd (hh4.same st) sb6 hv5
  have hw6 := hand_wd (hh4.same st) sb6 hw5
  have sb16 := SameB.trans sb14 (SameB.trans (Same.b st a) sb6)
  obtain ⟨b1, rfl, hb1⟩ := id hv6
  refine ⟨_, rfl, b1, xs, rfl, hb1, by omega, fun q m hm hq => ?_⟩
  have sq := same_new hq (SetO w q (fun j => decide (j ∈ xs)) m)
  refine ⟨q, _, m, rfl, upd_same, by omega, fun S l hS1 hS2 hS3 hl => ?_⟩
  have sl := same_new hl (.lst (S.map V.int))
  have hSe := letters_of hS1 (fun c => (hS2 c).trans decide_eq_true_iff) cx
  have hSl : S.length ≤ 4 := by
    rw [hSe]
    exact Nat.le_trans (List.length_filter_le _ _) (by decide)
  have s6 := sq.trans sl
  refine ⟨_, rfl, l, S, n, rfl, SqL.of upd_same, hSl, hn4, fun rr H7 vs s7 hr7 hd7 => ⟨rr, rfl, ⟨_, SqL.of hr7⟩, fun D hD => ?_⟩⟩
  have s67 := s6.trans s7
  have hv7 := hv6.same s67
  have hw7 := hw6.same s67
  have hrow : ∀ o ∈ allRows S n, o.length = n := fun o ho => grow_row S n o (by rw [grow_all]; exact ho)
  have hvl : vs.length = (allRows S n).length := by rw [dpAll_len hd7, List.length_map]
  have hal : (allRows S n).length ≤ 256 := by
    rw [← grow_all]
    exact Nat.le_trans (grow_len S hSl n) (Nat.le_trans (Nat.pow_le_pow_right (by decide) hn4) (by decide))
  refine lc_list (K := K) (a := rr) (xs := vs) (fun j H' => Same H7 H' ∧ ∃ zs, H' D = some (.lst zs) ∧ DpAll K H' zs ((((allRows S n).take j).filter fun o => thinL xs o && thinL ys o).map dW))
    ⟨same_new hD _, [], upd_same, .nil⟩ (fun j H' _ h2 => SqL.of (h2.1 _ _ hr7)) ?_ ?_
  · rintro j y H8 hj ⟨s8, zs, hdz, hpz⟩
    obtain ⟨o, ho1, hw0⟩ := dW_get hd7 hj
    have hj' := (List.getElem?_eq_some_iff.mp ho1).1
    have hol := hrow o (List.mem_of_getElem? ho1)
    have hne : o ≠ [] := fun z => by rw [z] at hol; have : n = 0 := hol.symm; omega
    refine ⟨rfl, ?_⟩
    refine ⟨_, rfl, _, rfl, .ref b1, y, xs, o, rfl, hv7.same s8, hw0.same s8, hne, by omega, fun H9 s9 => ⟨_, rfl, ?_⟩⟩
    have s89 := s8.trans s9
    cases ht1 : thinL xs o with
    | false =>
      refine iteF ⟨s89, zs, s9 _ _ hdz, ?_⟩
      rw [filter_takeO ho1 (by rw [ht1]; rfl)]
      exact dpAll_same s9 hpz
    | true =>
      refine iteT ?_
      refine ⟨_, rfl, _, rfl, v2, y, ys, o, rfl, hw7.same s89, hw0.same s89, hne, by omega, fun H10 s10 => ⟨_, rfl, ?_⟩⟩
      have s810 := s89.trans s10
      have s910 := s9.trans s10
      cases ht2 : thinL ys o with
      | false =>
        refine iteF ⟨s810, zs, s910 _ _ hdz, ?_⟩
        rw [filter_takeO ho1 (by rw [ht1, ht2]; rfl)]
        exact dpAll_same s910 hpz
      | true =>
        refine iteT ?_
        refine ⟨_, rfl, zs, s910 _ _ hdz, ?_, Same.upd s810 hD _, _, upd_same, ?_⟩
        · have := List.length_filter_le (fun o => thinL xs o && thinL ys o) ((allRows S n).take j)
          rw [List.length_take] at this
          rw [dpAll_len hpz, List.length_map]
          exact small1000 (by omega)
        · rw [filter_takeN ho1 (by rw [ht1, ht2]; rfl), List.map_append]
          exact dpAll_app (dpAll_upd (s910 _ _ hdz) (dpAll_same s910 hpz)) (.cons (Wd.dp (Wd.upd (s910 _ _ hdz) (hw0.same s810))) .nil)
  · rintro H8 ⟨s8, zs, hdz, hpz⟩
    rw [hvl, List.take_length, hSe, common_eq] at hpz
    have hcnt : cnt (wd xs) (wd ys) n 0 0 ≤ 256 := Nat.le_trans (cnt_le _ _ n 0 0) (Nat.le_trans (Nat.pow_le_pow_right (by decide) hn4) (by decide))
    have hcnt2 : cnt (wd ys) (wd xs) n 0 0 ≤ 256 := Nat.le_trans (cnt_le _ _ n 0 0) (Nat.le_trans (Nat.pow_le_pow_right (by decide) hn4) (by decide))
    have hsim : SimD 2 (.list ((rowsI (wd xs) (wd ys) n 0 0).map dW)) := simWs 0 (fun u hu => by rw [rowsI_len _ _ n 0 0 u hu]; omega) (by show cnt (wd xs) (wd ys) n 0 0 ≤ _; omega)
    have hzl : zs.length = cnt (wd xs) (wd ys) n 0 0 := by
      rw [dpAll_len hpz, List.length_map]
      rfl
    have hv8 := hv7.same s8
    have hw8 := hw7.same s8
    have bet : isBet (.int (n : Int)) 1 12 = true := by
      show (decide ((1 : Int) ≤ n) && decide ((n : Int) ≤ 12)) = true
      rw [decide_eq_true (by omega), decide_eq_true (by omega)]
      rfl
    have nbet : ∀ {X : Prop}, isBet (.int (n : Int)) 1 12 = false → X := fun {X} q => by
      rw [bet] at q
      cases q
    generalize hR : rowsI (wd xs) (wd ys) n 0 0 = R at hpz hsim
    -- told
    refine ⟨_, rfl, _, rfl, _, rfl, .ref b1, v2, .int n, true, true, "int", rfl, ⟨RowB.good hv8 rx, RowB.good hw8 ry, Ty.int _⟩, (fun H' s' => ⟨fun q => absurd q (by decide), fun _ q => nbet q⟩), fun _ _ => ⟨xs, ys, n, hv8, hw8, rx, ry, rfl, fun q => absurd q (by omega), fun _ => ⟨by omega, fun r1 H9 vs1 s9 hr1 hr1' hd1 => ?_⟩⟩⟩
    rw [hR] at hd1
    have hv9 := hv8.same s9
    have hw9 := hw8.same s9
    refine ⟨_, rfl, _, rfl, .ref r1, .ref D, _, rfl, .lst (SqL.of hr1') hd1, .lst (SqL.of (s9 _ _ hdz)) (dpAll_same s9 hpz), hsim, fun H10 s10 => ⟨_, rfl, iteF ?_⟩⟩
    have hv10 := hv9.same s10
    have hw10 := hw9.same s10
    refine ⟨_, rfl, _, rfl, _, rfl, .ref b1, v2, .int n, true, true, "int", rfl, ⟨RowB.good hv10 rx, RowB.good hw10 ry, Ty.int _⟩, (fun H' s' => ⟨fun q => absurd q (by decide), fun _ q => nbet q⟩), fun _ _ => ⟨xs, ys, n, hv10, hw10, rx, ry, rfl, fun H11 s11 => ?_⟩⟩
    have s811 := s9.trans (s10.trans s11)
    refine ⟨_, rfl, D, _, rfl, .inl (SqL.of (s811 _ _ hdz)), .int (cnt (wd xs) (wd ys) n 0 0 : Nat), _, .int (cnt (wd xs) (wd ys) n 0 0 : Nat), rfl, .int _, by rw [hzl]; exact .int _, .int _ _, fun H12 s12 => ⟨_, rfl, iteF ?_⟩⟩
    have s912 := s10.trans (s11.trans s12)
    have hr12 := s912 _ _ hr1'
    have hv1l : vs1.length ≤ 256 := by
      rw [dpAll_len hd1, List.length_map, ← hR]
      exact hcnt
    refine ⟨_, rfl, .inl ⟨rfl, _, SqL.of hr12⟩, (by show 1 ≤ sizeLine; decide), fun t9 ht9 => ?_⟩
    have sT := same_new ht9 (.tup [.int 9])
    refine ⟨r1, vs1, _, rfl, rfl, sT _ _ hr12, small1000 (by omega), ?_⟩
    have s13 : Same H8 (upd (upd H12 t9 (.tup [.int 9])) r1 (.lst (vs1 ++ [.ref t9]))) := Same.upd (s9.trans (s912.trans sT)) hr1 _
    generalize upd (upd H12 t9 (.tup [.int 9])) r1 (.lst (vs1 ++ [.ref t9])) = H13 at s13
    have hv13 := hv8.same s13
    have hw13 := hw8.same s13
    refine ⟨_, rfl, _, rfl, _, rfl, v2, .ref b1, .int n, true, true, "int", rfl, ⟨RowB.good hw13 ry, RowB.good hv13 rx, Ty.int _⟩, (fun H' s' => ⟨fun q => absurd q (by decide), fun _ q => nbet q⟩), fun _ _ => ⟨ys, xs, n, hw13, hv13, ry, rx, rfl, fun q => absurd q (by omega), fun _ => ⟨by omega, fun r2 H14 vs2 s14 hr2 hr2' hd2 => ?_⟩⟩⟩
    rw [rowsI_symm, hR] at hd2
    have s814 := s13.trans s14
    refine ⟨_, rfl, _, _, .lst (SqL.of hr2') hd2, .lst (SqL.of (s814 _ _ hdz)) (dpAll_same s814 hpz), shaped_dWs _, shaped_dWs _, _, rfl, ?_⟩
    rw [eqv_list, decide_eq_true rfl]
    refine iteF ?_
    have hv14 := hv8.same s814
    have hw14 := hw8.same s814
    have wlx : (wd xs).length ≤ 7 := Nat.le_trans (wd_length xs) (by omega)
    have wly : (wd ys).length ≤ 7 := Nat.le_trans (wd_length ys) (by omega)
    refine ⟨_, rfl, _, rfl, .ref b1, v2, true, true, rfl, RowB.good hv14 rx, RowB.good hw14 ry, (fun H' s' q => absurd q (by decide)), fun _ => ⟨xs, ys, hv14, hw14, rx, ry, fun H15 s15 => ⟨fun q => absurd q (by omega), fun _ _ r o hL hO => ?_⟩⟩⟩
    refine ⟨_, rfl, _, rfl, .ref b1, v2, xs, ys, rfl, hv14.same s15, hw14.same s15, nex, by omega, by omega, fun r' H16 o' s16 hL' hO' => ?_⟩
    have eo := hL.uniq hL'
    subst eo
    have hO16 := hO.same s16
    obtain ⟨d, q1, q2, q3⟩ : ∃ d, Dp K H16 r d ∧ Dp K H16 r' d ∧ SimD 2 d := by
      cases o with
      | none =>
        have z1 : r = .non := hO16
        have z2 : r' = .non := hO'
        rw [z1, z2]
        exact ⟨.none, .non, .non, .non _⟩
      | some u =>
        have z1 : Wd K H16 r u := hO16
        have z2 : Wd K H16 r' u := hO'
        have := (hL.com u rfl).2.2.1.length_le
        exact ⟨dW u, z1.dp, z2.dp, simW 1 (by omega)⟩
    refine ⟨r, r', d, rfl, q1, q2, q3, fun H17 s17 => ⟨_, rfl, iteF ?_⟩⟩
    have s817 := s814.trans (s15.trans (s16.trans s17))
    have hv17 := hv8.same s817
    have hw17 := hw8.same s817
    have sl5 : cutW xs none (some 5) = xs.take 5 := cutW_to xs 5
    have sl4 : cutW ys none (some 4) = ys.take 4 := cutW_to ys 4
    have tx : (xs.take 5).length ≤ 5 := by rw [List.length_take]; omega
    have ty : (ys.take 4).length ≤ 4 := by rw [List.length_take]; omega
    have rx5 : IsRow (xs.take 5) := ⟨by rw [List.length_take]; omega, by omega, fun c h => cx c (List.mem_of_mem_take h)⟩
    have ry4 : IsRow (ys.take 4) := ⟨by rw [List.length_take]; omega, by omega, fun c h => cy c (List.mem_of_mem_take h)⟩
    have lt4 : ∀ c : Int, 0 ≤ c ∧ c < 4 → c ∈ letters := fun c h => by
      have e : c = 0 ∨ c = 1 ∨ c = 2 ∨ c = 3 := by omega
      rcases e with rfl | rfl | rfl | rfl <;> decide
    refine ⟨_, rfl, _, rfl, sliceW hv17 fun x1 X1 p1 w1 => ?_⟩
    refine ⟨_, rfl, _, rfl, sliceW (hw17.same p1) fun x2 X2 p2 w2 => ?_⟩
    rw [sl5] at w1
    rw [sl4] at w2
    have w1' := w1.same p2
    refine ⟨x1, x2, true, true, rfl, RowB.good w1' rx5, RowB.good w2 ry4, (fun H' s' q => absurd q (by decide)), fun _ => ⟨_, _, w1', w2, rx5, ry4, fun H18 s18 => ⟨fun q => absurd q (by have h1 := wd_length (xs.take 5); have h2 := wd_length (ys.take 4); omega), fun _ _ r3 hr3 => ?_⟩⟩⟩
    have hv18 := (hv17.same (p1.trans p2)).same s18
    have hw18 := (hw17.same (p1.trans p2)).same s18
    refine ⟨_, rfl, _, rfl, sliceW hv18 fun x3 X3 p3 w3 => ?_⟩
    refine ⟨_, rfl, _, rfl, sliceW (hw18.same p3) fun x4 X4 p4 w4 => ?_⟩
    rw [sl5] at w3
    rw [sl4] at w4
    refine ⟨x3, x4, _, _, rfl, w3.same p4, w4, (fun z => by have := rx5.one; rw [z] at this; exact absurd this (by decide)), (fun z => by have := ry4.one; rw [z] at this; exact absurd this (by decide)), tx, ty, (fun c h => lt4 c (rx5.lets c h)), (fun c h => lt4 c (ry4.lets c h)), fun r4 H19 s19 hr4 => ?_⟩
    have hr3' := ((hr3.same p3).same p4).same s19
    have hsl := sb_len_le (wd (xs.take 5)) (wd (ys.take 4))
    refine ⟨r3, r4, _, rfl, hr3'.dp, hr4.dp, simW 1 (by have h1 := wd_length (xs.take 5); have h2 := wd_length (ys.take 4); omega), fun H20 s20 => ?_⟩
    have sAll := s817.trans ((p1.trans p2).trans (s18.trans (p3.trans (p4.trans (s19.trans s20)))))
    exact k H20 (SameB.trans sb16 (Same.b (s67.trans (s8.trans sAll)) a)) (hh6.same (s67.trans (s8.trans sAll)))
end
end Fl
end

section
set_option Elab.async false
set_option linter.all false
set_option maxRecDepth 100000
set_option maxHeartbeats 4000000
/-! Own rules, part 9: t[::-1] of a tuple. -/
namespace Fl
open PySem PySem.Spec PyProof.Rows L2
theorem back_all (xs : Array Value) : ((List.range xs.size).filterMap fun (k : Nat) => xs[(((xs.size : Nat) : Int) - 1 + (k : Int) * (-1)).toNat]?).toArray = xs.toList.reverse.toArray := by
  have e : (fun (k : Nat) => xs[(((xs.size : Nat) : Int) - 1 + (k : Int) * (-1)).toNat]?) = (fun j : Nat => xs[j]?) ∘ fun k => xs.size - 1 - k := by
    funext k
    show xs[_]? = xs[_]?
    rw [show (((xs.size : Nat) : Int) - 1 + (k : Int) * (-1)).toNat = xs.size - 1 - k by omega]
  rw [e, ← List.filterMap_map, PySem.W.krv_range, List.filterMap_reverse, PySem.W.krv_all]
theorem adj_back (n : Nat) : Builtin.Slice.sliceAdjust none none (-1) (n : Int) = ((n : Int) - 1, -1) := rfl
theorem places_back (n : Nat) : Builtin.Slice.slicePlaces ((n : Int) - 1) (-1) (-1) = n := by
  unfold Builtin.Slice.slicePlaces
  rw [if_neg (by decide)]
  by_cases c : (n : Int) - 1 > -1
  · rw [if_pos c]
    simp only [Int.neg_neg, Int.ediv_one]
    omega
  · rw [if_neg c]
    omega
section
variable {prog : Program} {w : World} {A : Around} {E : Value → Shared → Prop} {s : Shared}
theorem getItem_back {t c : Addr} {its : Array Value} {vl vu vs : Value} {Q : Value → Shared → Prop} (ht : IsTup s.heap t its) (hs : s.heap.IsSliceOf c vl vu vs) (pl : IsPart vl none) (pu : IsPart vu none) (ps : IsPart vs (some (-1))) (hz : its.size ≤ sizeLine)
    (h : Q (.ref s.heap.objs.size) { s with heap := s.heap.push { cls := .type "tuple", data := .seq its.toList.reverse.toArray } }) : wpAny (model prog w) A (getItem (.ref t) (.ref c)) Q E s := by
  obtain ⟨co, h1, h2, h3⟩ := id hs
  have room : sizeOk (.seq its.toList.reverse.toArray) := by
    show its.toList.reverse.toArray.size ≤ sizeLine
    rw [List.size_toArray, List.length_reverse, Array.length_toList]
    exact hz
  have parts : ∀ {Q' : Int × Int × Nat → Shared → Prop} {A' : Around} {E' : Value → Shared → Prop}, Q' ((its.size : Int) - 1, -1, its.size) s → wpAny (model prog w) A' (Builtin.Slice.sliceApplied (.ref c) (pure (its.size : Int))) Q' E' s := fun {Q' A' E'} q => by
    unfold Builtin.Slice.sliceApplied Builtin.Slice.sliceFields
    refine wpAny_bind (wpAny_bind (wpAny_field h1 h3 (x := vl) rfl (wpAny_bind (wpAny_field h1 h3 (x := vu) rfl (wpAny_bind (wpAny_field h1 h3 (x := vs) rfl (wpAny_pure (wpAny_bind (HT.slicePart_ ps ?_)))))))))
    show wpAny _ _ (if ((-1 : Int) == 0) = true then _ else _) _ _ s
    rw [if_neg (by decide)]
    refine wpAny_bind (HT.slicePart_ pl (wpAny_bind (HT.slicePart_ pu (wpAny_bind (wpAny_pure ?_)))))
    show wpAny _ _ (match Builtin.Slice.sliceAdjust none none (-1) (its.size : Int) with | (lo, hi) => pure (lo, (-1 : Int), Builtin.Slice.slicePlaces lo hi (-1))) _ _ s
    rw [adj_back]
    show wpAny _ _ (pure ((its.size : Int) - 1, (-1 : Int), Builtin.Slice.slicePlaces ((its.size : Int) - 1) (-1) (-1))) _ _ s
    rw [places_back]
    exact wpAny_pure q
  unfold getItem
  refine wpAny_holding (wpAny_bind (wpAny_sequenceKey ht.typeIs (by decide) ?_))
  refine wpAny_bind (wpAny_callSpecial?_slot (name := Str.ofString "__getitem__") ht.typeIs PyProof.Rows.slot_tuple_getitem (wpAny_call_entry PyProof.Rows.slot_tuple_getitem ht.typeIs entry_tuple_getitem ?_ (args_tuple_getitem _ _)))
  show wpAny _ _ (Builtin.Tuple.tupleItemsOf (.ref t) >>= _) _ _ s
  refine wpAny_bind (tupleItemsOf_ ht (wpAny_bind (wpAny_typeOf ⟨co, h1, h2⟩ ?_)))
  rw [if_pos (by decide)]
  refine wpAny_bind (parts ?_)
  have no : ¬ ((((its.size : Int) - 1 == 0) && ((-1 : Int) == 1) && (its.size == its.size)) = true) := by
    rw [show ((-1 : Int) == 1) = false from by decide, Bool.and_false, Bool.false_and]
    decide
  show wpAny _ _ (if (((its.size : Int) - 1 == 0) && ((-1 : Int) == 1) && (its.size == its.size)) = true then _ else _) _ _ s
  rw [if_neg no, back_all]
  refine wpAny_bind ?_
  first
    | exact wpAny_bind (m := Builtin.Tuple.tupleExact _) (wpAny_newObj_type (wpAny_pure ⟨_, rfl, wpAny_pure h⟩) room)
    | exact wpAny_newObj_type (wpAny_pure ⟨_, rfl, wpAny_pure h⟩) room
    | exact wpAny_bind (wpAny_newObj_type (wpAny_pure (wpAny_pure ⟨_, rfl, wpAny_pure h⟩)) room)
    | exact wpAny_bind (m := Builtin.Tuple.tupleExact _) (wpAny_newObj_type (wpAny_bind (wpAny_pure (wpAny_pure ⟨_, rfl, wpAny_pure h⟩))) room)
end
/-- t[::-1] -/
def tRevT (K : PySem.W.Frag) (te : TE) : TE := fun σ H Q => te σ H fun x H1 => ∃ a xs, x = .ref a ∧ SqT K H1 a xs ∧ ∀ p, H1 p = none → Q (.ref p) (upd H1 p (.tup xs.reverse))
theorem pe_revT {X : Cx} {e : Expr} {te : TE} {k : Nat} {p1 p2 p3 pos : Pos} (he : PE X e te) : PE X (.Subscript e (.Slice none none (some (.UnaryOp .USub (.Constant (.int 1) k p1) p2)) p3) pos) (tRevT X.K te) := by
  constructor
  intro pins s σ H Q I h
  have back : PO X (some (.UnaryOp .USub (.Constant (.int 1) k p1) p2)) _ := po_some (pe_un un_neg pe_int)
  refine Subscript_ (thn (he.run pins s σ H _ I h) fun v s1 ⟨x, H1, I1, r1, a, xs, ex, hx, q⟩ => ?_)
  subst ex
  obtain rfl : v = Value.ref a := r1
  refine wpAny_Slice (thn (po_none.run pins s1 σ H1 (fun o H' => o = none ∧ H' = H1) I1 ⟨rfl, rfl⟩) fun v1 s2 ⟨o1, H2, I2, m1, y1, z1⟩ => thn (po_none.run pins s2 σ H2 (fun o H' => o = none ∧ H' = H1) I2 ⟨rfl, z1⟩) fun v2 s3 ⟨o2, H3, I3, m2, y2, z2⟩ =>
    thn (back.run pins s3 σ H3 (fun o H' => o = some (-1) ∧ H' = H1) I3 ⟨1, rfl, -1, rfl, rfl, z2⟩) fun v3 s4 ⟨o3, H4, I4, m3, y3, z3⟩ => ?_)
  subst y1 y2 y3 z3
  have J : Inv X pins σ H4 { s4 with heap := s4.heap.push { cls := .type "slice", data := .fields #[v1, v2, v3] } } := I4.kept (t' := s4.toks) fun _ _ => Heap.get?_push_of_some _
  obtain ⟨its, rv, tp, hz⟩ := J.tuple hx
  refine tail_any (ops := [.ref a, .ref s4.heap.objs.size]) tp.typeIs PyProof.Rows.slot_tuple_getitem.lookup ?_ (by with_unfolding_all rfl)
  refine getItem_back tp (Heap.IsSliceOf.new _ v1 v2 v3) m1 m2 m3 (by rw [List.size_toArray, ← rv.length]; exact hz) ?_
  refine ⟨.ref _, _, J.laid (t' := s4.toks) (o := .tup xs.reverse) (fun _ _ => Heap.get?_push_of_some _) (Nat.le_refl _) ⟨?_, _, rv.reverse, IsTup.new _ _⟩, rfl, q _ (J.hok.fresh (Nat.le_refl _))⟩
  rw [List.length_reverse]
  exact hz
theorem revTK (K : PySem.W.Frag) {X : Cx} (h : X.K = K := by rfl) {e : Expr} {te : TE} {k : Nat} {p1 p2 p3 pos : Pos} (he : PE X e te) : PE X (.Subscript e (.Slice none none (some (.UnaryOp .USub (.Constant (.int 1) k p1) p2)) p3) pos) (tRevT K te) := by
  subst h
  exact pe_revT he
end Fl
end

section
set_option Elab.async false
set_option linter.all false
set_option maxRecDepth 100000
set_option maxHeartbeats 4000000
/-! The law's own: refused_right, law. -/
namespace Fl
open PySem PySem.Spec PyProof.Rows L2
section
variable {P : Program} {w : World} {K : PySem.W.Frag} {mg : Str → Option Value} {base : Heap} {f : Addr} {fd : FuncData} {cR cN cT : Addr}
def spLaw (K : PySem.W.Frag) : Sp := fun vs H Q _ => ∃ (a : Addr) (ns : List Int), vs = [.ref a] ∧ SqL K H a (ns.map V.int) ∧ ns.length ≤ 63 ∧ ∀ H', Q (.bl true) H'
/-- texts as data -/
theorem dp_strs {H : Hp} : ∀ ss : List Str, DpAll K H (ss.map V.str) (ss.map PyData.str)
  | [] => .nil
  | x :: ss => .cons (.str x) (dp_strs ss)
theorem map_rep {ns : List Int} (k : Nat) : (List.replicate k (ns.map V.int)).flatten = ((List.replicate k ns).flatten).map V.int := by
  rw [List.map_flatten, List.map_replicate]
theorem great_row : IsRow (great 60) ∧ IsRow (great 61) ∧ IsRow (great 60).reverse ∧ IsRow (great 61).reverse :=
  ⟨⟨by decide, by decide, by decide⟩, ⟨by decide, by decide, by decide⟩, ⟨by decide, by decide, by decide⟩, ⟨by decide, by decide, by decide⟩⟩
theorem great_len : (great 60).length = 60 ∧ (great 61).length = 61 := by decide
abbrev s_law_refused_right : Stmt := top 54
theorem sc_law_refused_right : FnScope ["_law_hand_here", "_law_row_here", "_law_other", "_law_odd", "_law_lanes", "_law_great", "_law_due", "_law_kind"] ["_law_hand_here"] (defScope s_law_refused_right) := ⟨rfl, rfl, rfl, by decide +kernel, rfl, by decide +kernel, by decide +kernel⟩
theorem ok_law_refused_right (F : Fun K "_law_refused_right" "_law_refused_right" s_law_refused_right f fd) (B : Bn mg) {f1 f2 f3 f4 f5 : Addr} {fd1 fd2 fd3 fd4 fd5 : FuncData} (k_law_row : Kn P w K mg base CX0 2 "_law_row" ["_law_hand_here", "_law_letters", "_law_most"] (spLRow K) f1 fd1)
    (k_law_odd_row : Kn P w K mg base CX0 3 "_law_odd_row" ["_law_hand_here", "_law_row_here"] (spOddRow K) f2 fd2) (k_law_some : Kn P w K mg base CX0 2 "_law_some" ["_law_hand_here", "_law_things"] spSome f3 fd3) (k_law_deep : Kn P w K mg base CX0 1 "_law_deep" ["_law_kind"] (spDeep K) f4 fd4)
    (k_law_word_of : Kn P w K mg base CX0 18 "_law_word_of" ["_law_kind", "_law_row_here", "_law_other", "_law_lanes"] (spLWordOf K) f5 fd5) : FnOk P w K mg base CX0 19 f fd ["_law_hand_here"] spRight := by
  refine F.ok sc_law_refused_right (fun vs H Q E h => ?_) (fun cdv A outer s H vs Q E hr h => ?_)
  · obtain ⟨a, lc, rfl, _⟩ := h
    rfl
  obtain ⟨a, lc, rfl, hh, k⟩ := h
  refine ⟨_, (pss_cons (ps_asg (pe_tup (pa_cons (pk k_law_row hr (by omega) pass0 (pa_cons (pv 0) (pa_cons pe_int (pa_cons pe_int pa_nil)))) (pa_cons (pk k_law_row hr (by omega) pass0 (pa_cons (pv 0) (pa_cons pe_int (pa_cons pe_int pa_nil)))) pa_nil))) (pg_tup (by rfl) (pgs_cons (pg_name (i := 1) sc_law_refused_right.nd rfl (Or.inr rfl)) (pgs_cons (pg_name (i := 2) sc_law_refused_right.nd rfl (Or.inr rfl)) pgs_nil))))
      (pss_cons (ps_set (i := 3) sc_law_refused_right.nd rfl (Or.inr rfl) (pk k_law_odd_row hr (by omega) pass0 (pa_cons (pv 0) (pa_cons (pv 1) pa_nil))))
      (pss_cons (ps_if (pt_cmpR (op_neD hr.units) (pe_lc (own := [("_law_kind", 7)]) (by rfl) sc_law_refused_right.nd (pi_range1 (by rfl) B.range_ (pa_cons pe_int pa_nil)) (blkOk_by (N := ["_law_hand_here", "_law_row_here", "_law_other", "_law_odd", "_law_lanes", "_law_great", "_law_due", "_law_kind"]) (sc := defScope s_law_refused_right) (by decide +kernel)) (fun _ _ _ _ _ => (pg_name (i := 7) sc_law_refused_right.nd rfl (Or.inl rfl))) (fun _ _ _ _ _ => pts_nil) (fun _ _ _ _ _ => (pk k_law_word_of hr (by omega) pass0 (pa_cons (pv 7) (pa_cons (pv 3) (pa_cons (pv 2) (pa_cons pe_int pa_nil))))))) (pe_op op_rep (pe_lst (pa_cons pe_str pa_nil)) pe_int) (nomark _)) (pss_one (ps_ret pe_bl)) pss_nil)
      (pss_cons (ps_if (pt_cmpR (op_neD hr.units) (pe_lc (own := [("_law_kind", 7)]) (by rfl) sc_law_refused_right.nd (pi_range1 (by rfl) B.range_ (pa_cons pe_int pa_nil)) (blkOk_by (N := ["_law_hand_here", "_law_row_here", "_law_other", "_law_odd", "_law_lanes", "_law_great", "_law_due", "_law_kind"]) (sc := defScope s_law_refused_right) (by decide +kernel)) (fun _ _ _ _ _ => (pg_name (i := 7) sc_law_refused_right.nd rfl (Or.inl rfl))) (fun _ _ _ _ _ => pts_nil) (fun _ _ _ _ _ => (pk k_law_word_of hr (by omega) pass0 (pa_cons (pv 7) (pa_cons (pv 1) (pa_cons (pv 3) (pa_cons pe_non pa_nil))))))) (pe_op op_rep (pe_lst (pa_cons pe_str pa_nil)) pe_int) (nomark _)) (pss_one (ps_ret pe_bl)) pss_nil)
      (pss_cons (ps_set (i := 4) sc_law_refused_right.nd rfl (Or.inr rfl) (pk k_law_some hr (by omega) pass0 (pa_cons (pv 0) (pa_cons (pe_lst (pa_cons pe_int (pa_cons pe_int (pa_cons (pe_un un_neg pe_int) (pa_cons pe_bl (pa_cons pe_non (pa_cons pe_str (pa_cons (pe_tup (pa_cons pe_int pa_nil)) (pa_cons (pk k_law_deep hr (by omega) pass0 (pa_cons pe_int pa_nil)) pa_nil))))))))) pa_nil))))
      (pss_cons (ps_if (pt_cmpR (op_neD hr.units) (pe_lc (own := [("_law_kind", 7)]) (by rfl) sc_law_refused_right.nd (pi_range1 (by rfl) B.range_ (pa_cons pe_int pa_nil)) (blkOk_by (N := ["_law_hand_here", "_law_row_here", "_law_other", "_law_odd", "_law_lanes", "_law_great", "_law_due", "_law_kind"]) (sc := defScope s_law_refused_right) (by decide +kernel)) (fun _ _ _ _ _ => (pg_name (i := 7) sc_law_refused_right.nd rfl (Or.inl rfl))) (fun _ _ _ _ _ => pts_nil) (fun _ _ _ _ _ => (pk k_law_word_of hr (by omega) pass0 (pa_cons (pv 7) (pa_cons (pv 1) (pa_cons (pv 2) (pa_cons (pv 4) pa_nil))))))) (pe_op op_rep (pe_lst (pa_cons pe_str pa_nil)) pe_int) (nomark _)) (pss_one (ps_ret pe_bl)) pss_nil)
      (pss_cons (ps_set (i := 5) sc_law_refused_right.nd rfl (Or.inr rfl) (pe_slice sl_tupA (pe_op op_repT (pe_tup (pa_cons pe_int (pa_cons pe_int (pa_cons pe_int (pa_cons pe_int pa_nil))))) pe_int) po_none (po_some (pk k_law_some hr (by omega) pass0 (pa_cons (pv 0) (pa_cons (pe_lst (pa_cons pe_int (pa_cons pe_int pa_nil))) pa_nil))))))
      (pss_cons (ps_set (i := 6) sc_law_refused_right.nd rfl (Or.inl rfl) (pe_ifExp (pt_cmpR op_gt (pe_callB call_len_seq (by rfl) B.len_ PySem.boot_len (pa_cons (pv 5) pa_nil)) pe_int (nomark _)) pe_str pe_str))
      (pss_cons (ps_if (pt_cmpR (op_neD hr.units) (pe_lc (own := [("_law_kind", 7)]) (by rfl) sc_law_refused_right.nd (pi_list (pe_lst (pa_cons pe_int (pa_cons pe_int pa_nil)))) (blkOk_by (N := ["_law_hand_here", "_law_row_here", "_law_other", "_law_odd", "_law_lanes", "_law_great", "_law_due", "_law_kind"]) (sc := defScope s_law_refused_right) (by decide +kernel)) (fun _ _ _ _ _ => (pg_name (i := 7) sc_law_refused_right.nd rfl (Or.inl rfl))) (fun _ _ _ _ _ => pts_nil) (fun _ _ _ _ _ => (pk k_law_word_of hr (by omega) pass0 (pa_cons (pv 7) (pa_cons (pv 1) (pa_cons (pv 5) (pa_cons pe_int pa_nil))))))) (pe_op op_rep (pe_lst (pa_cons (pv 6) pa_nil)) pe_int) (nomark _)) (pss_one (ps_ret pe_bl)) pss_nil)
      (pss_cons (ps_set (i := 4) sc_law_refused_right.nd rfl (Or.inr rfl) (pk k_law_some hr (by omega) pass0 (pa_cons (pv 0) (pa_cons (pe_lst (pa_cons pe_int (pa_cons pe_int pa_nil))) pa_nil))))
      (pss_cons (ps_set (i := 6) sc_law_refused_right.nd rfl (Or.inl rfl) (pe_ifExp (pt_cmpR op_eq (pv 4) pe_int (nomark _)) pe_str pe_str))
      (pss_one (ps_ret (pe_cmpR (op_eqD hr.units) (pe_lc (own := [("_law_kind", 7)]) (by rfl) sc_law_refused_right.nd (pi_range1 (by rfl) B.range_ (pa_cons pe_int pa_nil)) (blkOk_by (N := ["_law_hand_here", "_law_row_here", "_law_other", "_law_odd", "_law_lanes", "_law_great", "_law_due", "_law_kind"]) (sc := defScope s_law_refused_right) (by decide +kernel)) (fun _ _ _ _ _ => (pg_name (i := 7) sc_law_refused_right.nd rfl (Or.inl rfl))) (fun _ _ _ _ _ => pts_nil) (fun _ _ _ _ _ => (pk k_law_word_of hr (by omega) pass0 (pa_cons (pv 7) (pa_cons (pv 5) (pa_cons (revTK K (by rfl) (pv 5)) (pa_cons (pv 4) pa_nil))))))) (pe_lst (pa_cons pe_str (pa_cons (pv 6) pa_nil))) (nomark _))))))))))))))), ?_⟩
  refine ⟨_, rfl, a, lc, 4, 5, rfl, hh, by decide, by decide, by decide, by decide, fun v1 xs H1 sb1 hh1 hv1 lx1 lx2 cx => ?_⟩
  refine ⟨_, rfl, a, lc, 4, 5, rfl, hh1, by decide, by decide, by decide, by decide, fun v2 ys H2 sb2 hh2 hw2 ly1 ly2 cy => ?_⟩
  have hv2 := hand_wd hh1 sb2 hv1
  have rx : IsRow xs := ⟨lx1, by omega, cx⟩
  have ry : IsRow ys := ⟨ly1, by omega, cy⟩
  refine ⟨(by show 2 ≤ sizeLine; decide), fun tp htp => ⟨tp, _, rfl, SqT.of upd_same, rfl, _, _, rfl, _, _, rfl, rfl, ?_⟩⟩
  have st := same_new htp (.tup [v1, v2])
  have hv3 := hv2.same st
  have hw3 := hw2.same st
  refine ⟨_, rfl, _, rfl, a, lc, v1, xs, rfl, hh2.same st, hv3, lx1, by omega, fun od H4 sb4 hh4 hod => ?_⟩
  have hv4 := hand_wd (hh2.same st) sb4 hv3
  have hw4 := hand_wd (hh2.same st) sb4 hw3
  have sb04 := SameB.trans sb1 (SameB.trans sb2 (SameB.trans (Same.b st a) sb4))
  refine ⟨_, rfl, by decide, by decide, fun DA hDA => ?_⟩
  refine lc_range (fun j H' => Same H4 H' ∧ H' DA = some (.lst ((List.replicate j ("row" : Str)).map V.str))) ⟨same_new hDA _, upd_same⟩ ?_ ?_
  · rintro j H' hj ⟨s', hd⟩
    refine ⟨rfl, ?_⟩
    refine ⟨_, rfl, _, rfl, _, rfl, _, od, v2, .int 0, _, rfl, by omega, by omega, .row ⟨(hod.same s'), RowB.good (hw4.same s') ry, Ty.int _⟩ rfl, fun H'' s'' => ⟨_, s'' _ _ hd, ?_, Same.upd (s'.trans s'') hDA _, ?_⟩⟩
    · rw [List.length_map, List.length_replicate]
      exact small1000 (by omega)
    · rw [upd_same, List.replicate_succ', List.map_append]
      rfl
  rintro KA ⟨kA, hdA⟩
  refine ⟨(by show 1 ≤ sizeLine; decide), fun lA hlA => ⟨lA, 4, _, rfl, rfl, upd_same, by decide, by decide, (by show 1 * 4 ≤ 2 ^ 24; decide), fun pA hpA => ?_⟩⟩
  have mA := (same_new hlA (.lst [.str "row"])).trans (same_new hpA (.lst (List.replicate (4 : Int).toNat [V.str "row"]).flatten))
  refine ⟨.list ((List.replicate 4 ("row" : Str)).map PyData.str), .list ((List.replicate 4 ("row" : Str)).map PyData.str), .lst (SqL.of (mA _ _ hdA)) (dp_strs _), .lst (xs := (List.replicate 4 ("row" : Str)).map V.str) (SqL.of upd_same) (dp_strs _), (by decide +kernel), (by decide +kernel), _, rfl, ?_⟩
  rw [show PyData.eqv (.list ((List.replicate 4 ("row" : Str)).map PyData.str)) (.list ((List.replicate 4 ("row" : Str)).map PyData.str)) = true from by decide +kernel]
  refine iteF ?_
  have eA := kA.trans mA
  generalize upd (upd KA lA _) pA _ = H5 at eA
  have hod5 := hod.same eA
  have hv5 := hv4.same eA
  have hw5 := hw4.same eA
  refine ⟨_, rfl, by decide, by decide, fun DB hDB => ?_⟩
  refine lc_range (fun j H' => Same H5 H' ∧ H' DB = some (.lst ((List.replicate j ("row" : Str)).map V.str))) ⟨same_new hDB _, upd_same⟩ ?_ ?_
  · rintro j H' hj ⟨s', hd⟩
    refine ⟨rfl, ?_⟩
    refine ⟨_, rfl, _, rfl, _, rfl, _, v1, od, .non, _, rfl, by omega, by omega, .row ⟨RowB.good (hv5.same s') rx, (hod5.same s'), Ty.non⟩ rfl, fun H'' s'' => ⟨_, s'' _ _ hd, ?_, Same.upd (s'.trans s'') hDB _, ?_⟩⟩
    · rw [List.length_map, List.length_replicate]
      exact small1000 (by omega)
    · rw [upd_same, List.replicate_succ', List.map_append]
      rfl
  rintro KB ⟨kB, hdB⟩
  refine ⟨(by show 1 ≤ sizeLine; decide), fun lB hlB => ⟨lB, 4, _, rfl, rfl, upd_same, by decide, by decide, (by show 1 * 4 ≤ 2 ^ 24; decide), fun pB hpB => ?_⟩⟩
  have mB := (same_new hlB (.lst [.str "row"])).trans (same_new hpB (.lst (List.replicate (4 : Int).toNat [V.str "row"]).flatten))
  refine ⟨.list ((List.replicate 4 ("row" : Str)).map PyData.str), .list ((List.replicate 4 ("row" : Str)).map PyData.str), .lst (SqL.of (mB _ _ hdB)) (dp_strs _), .lst (xs := (List.replicate 4 ("row" : Str)).map V.str) (SqL.of upd_same) (dp_strs _), (by decide +kernel), (by decide +kernel), _, rfl, ?_⟩
  rw [show PyData.eqv (.list ((List.replicate 4 ("row" : Str)).map PyData.str)) (.list ((List.replicate 4 ("row" : Str)).map PyData.str)) = true from by decide +kernel]
  refine iteF ?_
  have eB := kB.trans mB
  generalize upd (upd KB lB _) pB _ = H6 at eB
  have hv6 := hv5.same eB
  have hw6 := hw5.same eB
  have hh6 := (hh4.same eA).same eB
  have sb06 := SameB.trans sb04 (Same.b (eA.trans eB) a)
  refine ⟨_, rfl, _, rfl, (by show 1 ≤ sizeLine; decide), fun t1 ht1 => ?_⟩
  have q1 := same_new ht1 (.tup [.int 1])
  refine ⟨0, rfl, by decide, by decide, fun r7 H7 q2 nr7 ty7 b7 c7 na7 => ?_⟩
  refine ⟨(by show 8 ≤ sizeLine; decide), fun l7 hl7 => ?_⟩
  have q3 := same_new hl7 (.lst [.int 0, .int 13, .int (-1), .bl true, .non, .str "1", .ref t1, r7])
  have q13 := q1.trans (q2.trans q3)
  have haS : ∀ {H' : Hp}, Same H6 H' → H' a ≠ none := fun {H'} e z => by
    obtain ⟨_, _, _, _, _, e1, _⟩ := hh6.ex
    rw [e _ _ e1] at z
    cases z
  have nea : ∀ {c : Addr} {H' : Hp}, Same H6 H' → H' c = none → V.ref c ≠ .ref a := fun {c H'} e q z => by
    injection z with z
    rw [z] at q
    exact haS e q
  refine ⟨a, lc, l7, _, rfl, hh6.same q13, upd_same, fun z => nea (q1.trans q2) hl7 (by rw [z]), (by show 1 ≤ 8; decide), (by show 8 ≤ 100; decide), fun y H8 hy sb8 hh8 => ?_⟩
  obtain ⟨tl, hty, hbl⟩ : ∃ t, Ty K H8 y t ∧ isBet y 1 12 = false := by
    have z : ∃ t, Ty K (upd H7 l7 (.lst [.int 0, .int 13, .int (-1), .bl true, .non, .str "1", .ref t1, r7])) y t ∧ isBet y 1 12 = false ∧ y ≠ .ref a := by
      have hy : y ∈ [V.int 0, .int 13, .int (-1), .bl true, .non, .str "1", .ref t1, r7] := hy
      simp only [List.mem_cons, List.not_mem_nil, or_false] at hy
      rcases hy with rfl | rfl | rfl | rfl | rfl | rfl | rfl | rfl
      · exact ⟨_, Ty.int _, by decide, fun z => nomatch z⟩
      · exact ⟨_, Ty.int _, by decide, fun z => nomatch z⟩
      · exact ⟨_, Ty.int _, by decide, fun z => nomatch z⟩
      · exact ⟨_, Ty.bl _, rfl, fun z => nomatch z⟩
      · exact ⟨_, Ty.non, rfl, fun z => nomatch z⟩
      · exact ⟨_, Ty.str _, rfl, fun z => nomatch z⟩
      · exact ⟨_, Ty.tup (xs := [.int 1]) (SqT.of ((q2.trans q3) _ _ upd_same)), rfl, nea (fun _ _ q => q) ht1⟩
      · obtain ⟨t, ht⟩ := ty7
        exact ⟨t, ht.same q3, c7, na7 a (haS q1)⟩
    obtain ⟨t, h1, h2, h3⟩ := z
    exact ⟨t, h1.sameB sb8 h3, h2⟩
  have hv8 := hand_wd (hh6.same q13) sb8 (hv6.same q13)
  have hw8 := hand_wd (hh6.same q13) sb8 (hw6.same q13)
  have sb08 := SameB.trans sb06 (SameB.trans (Same.b q13 a) sb8)
  refine ⟨_, rfl, by decide, by decide, fun DC hDC => ?_⟩
  refine lc_range (fun j H' => Same H8 H' ∧ H' DC = some (.lst ((List.replicate j ("number" : Str)).map V.str))) ⟨same_new hDC _, upd_same⟩ ?_ ?_
  · rintro j H' hj ⟨s', hd⟩
    refine ⟨rfl, ?_⟩
    refine ⟨_, rfl, _, rfl, _, rfl, _, rfl, _, v1, v2, y, _, rfl, by omega, by omega, .num ⟨RowB.good (hv8.same s') rx, RowB.good (hw8.same s') ry, hty.same s'⟩ (by omega) hbl, fun H'' s'' => ⟨_, s'' _ _ hd, ?_, Same.upd (s'.trans s'') hDC _, ?_⟩⟩
    · rw [List.length_map, List.length_replicate]
      exact small1000 (by omega)
    · rw [upd_same, List.replicate_succ', List.map_append]
      rfl
  rintro KC ⟨kC, hdC⟩
  refine ⟨(by show 1 ≤ sizeLine; decide), fun lC hlC => ⟨lC, 2, _, rfl, rfl, upd_same, by decide, by decide, (by show 1 * 2 ≤ 2 ^ 24; decide), fun pC hpC => ?_⟩⟩
  have mC := (same_new hlC (.lst [.str "number"])).trans (same_new hpC (.lst (List.replicate (2 : Int).toNat [V.str "number"]).flatten))
  refine ⟨.list ((List.replicate 2 ("number" : Str)).map PyData.str), .list ((List.replicate 2 ("number" : Str)).map PyData.str), .lst (SqL.of (mC _ _ hdC)) (dp_strs _), .lst (xs := (List.replicate 2 ("number" : Str)).map V.str) (SqL.of upd_same) (dp_strs _), (by decide +kernel), (by decide +kernel), _, rfl, ?_⟩
  rw [show PyData.eqv (.list ((List.replicate 2 ("number" : Str)).map PyData.str)) (.list ((List.replicate 2 ("number" : Str)).map PyData.str)) = true from by decide +kernel]
  refine iteF ?_
  have eC := kC.trans mC
  generalize upd (upd KC lC _) pC _ = H9 at eC
  have hv9 := hv8.same eC
  have hh9 := hh8.same eC
  have sb09 := SameB.trans sb08 (Same.b eC a)
  refine ⟨(by show 4 ≤ sizeLine; decide), fun g0 hg0 => ⟨g0, 20, _, rfl, rfl, SqT.of upd_same, (fun z => by cases z), by decide, by decide, (by show 4 ≤ 1000; decide), fun g1 hg1 => ?_⟩⟩
  have x1 := same_new hg0 (.tup [.int 0, .int 1, .int 2, .int 3])
  have x2 := same_new hg1 (.tup (List.replicate (20 : Int).toNat [V.int 0, .int 1, .int 2, .int 3]).flatten)
  have hG0 : Wd K (upd (upd H9 g0 (.tup [.int 0, .int 1, .int 2, .int 3])) g1 (.tup (List.replicate (20 : Int).toNat [V.int 0, .int 1, .int 2, .int 3]).flatten)) (.ref g1) ((List.replicate 20 ([0, 1, 2, 3] : List Int)).flatten) := Wd.new (by rw [upd_same, ← map_rep]; rfl)
  generalize upd (upd H9 g0 (.tup [.int 0, .int 1, .int 2, .int 3])) g1 (.tup (List.replicate (20 : Int).toNat [V.int 0, .int 1, .int 2, .int 3]).flatten) = H10 at x2 hG0
  have x12 := x1.trans x2
  have hh10 := hh9.same x12
  have hv10 := hv9.same x12
  refine ⟨_, rfl, (by show 2 ≤ sizeLine; decide), fun l2 hl2 => ?_⟩
  have x3 := same_new hl2 (.lst [.int 60, .int 61])
  obtain ⟨nl1, nl2⟩ := hh10.ne hl2
  refine ⟨a, lc, l2, _, rfl, hh10.same x3, upd_same, nl1, (by show 1 ≤ 2; decide), (by show 2 ≤ 100; decide), fun y2 H11 hy2 sb11 hh11 => ?_⟩
  have hG11 := hand_wd (hh10.same x3) sb11 (hG0.same x3)
  have hv11 := hand_wd (hh10.same x3) sb11 (hv10.same x3)
  have sb011 := SameB.trans sb09 (SameB.trans (Same.b (x12.trans x3) a) sb11)
  obtain ⟨gr1, gr2, gr3, gr4⟩ := great_row
  obtain ⟨gw1, gw2, gw3, gw4⟩ := great_word
  obtain ⟨gl1, gl2⟩ := great_len
  obtain ⟨gm1, gm2⟩ := great_many
  have hy2 : y2 ∈ [V.int 60, .int 61] := hy2
  simp only [List.mem_cons, List.not_mem_nil, or_false] at hy2
  rcases hy2 with rfl | rfl
  · refine ⟨60, rfl, sliceW hG11 fun gg H12 x4 hg => ?_⟩
    rw [show cutW ((List.replicate 20 ([0, 1, 2, 3] : List Int)).flatten) none (some 60) = great 60 from cutW_to _ 60] at hg
    have hv12 := hv11.same x4
    obtain ⟨ga, rfl, hga⟩ := id hg
    refine ⟨_, rfl, ga, _, rfl, .inr hga, _, _, rfl, rfl, _, rfl, ?_⟩
    rw [List.length_map, gl1]
    refine iteF ?_
    refine ⟨(by show 2 ≤ sizeLine; decide), fun lk hlk => ⟨lk, rfl, ⟨_, SqL.of upd_same⟩, fun DD hDD => ?_⟩⟩
    have x5 := same_new hlk (.lst [.int 2, .int 3])
    refine lc_list (K := K) (a := lk) (xs := [.int 2, .int 3]) (fun j H' => Same (upd H12 lk (.lst [.int 2, .int 3])) H' ∧ H' DD = some (.lst ((List.replicate j ("let" : Str)).map V.str))) ⟨same_new hDD _, upd_same⟩ (fun j H' _ h => SqL.of (h.1 _ _ upd_same)) ?_ ?_
    · rintro j kk H' hj ⟨s', hd⟩
      have s5' := x5.trans s'
      obtain ⟨kd, hkd, rfl⟩ : ∃ kd : Int, (kd = 2 ∨ kd = 3) ∧ kk = .int kd := by
        match j, hj with
        | 0, hj =>
          cases hj
          exact ⟨2, .inl rfl, rfl⟩
        | 1, hj =>
          cases hj
          exact ⟨3, .inr rfl, rfl⟩
      have hj2 : j < 2 := (List.getElem?_eq_some_iff.mp hj).1
      refine ⟨rfl, ?_⟩
      refine ⟨_, rfl, _, rfl, _, rfl, kd, v1, .ref ga, .int 0, _, rfl, by omega, by omega, .word hkd (hv12.same s5') (hg.same s5') rx gr1 (by have := wd_length xs; omega) (by rw [gw1, gl1]; decide), fun H'' s'' => ⟨_, s'' _ _ hd, ?_, Same.upd (s'.trans s'') hDD _, ?_⟩⟩
      · rw [List.length_map, List.length_replicate]
        exact small1000 (by omega)
      · rw [upd_same, List.replicate_succ', List.map_append]
        rfl
    rintro KD ⟨kD, hdD⟩
    refine ⟨_, rfl, (by show 1 ≤ sizeLine; decide), fun lD hlD => ⟨lD, 2, _, rfl, rfl, upd_same, by decide, by decide, (by show 1 * 2 ≤ 2 ^ 24; decide), fun pD hpD => ?_⟩⟩
    have mD := (same_new hlD (.lst [.str "let"])).trans (same_new hpD (.lst (List.replicate (2 : Int).toNat [V.str "let"]).flatten))
    refine ⟨.list ((List.replicate 2 ("let" : Str)).map PyData.str), .list ((List.replicate 2 ("let" : Str)).map PyData.str), .lst (SqL.of (mD _ _ hdD)) (dp_strs _), .lst (xs := (List.replicate 2 ("let" : Str)).map V.str) (SqL.of upd_same) (dp_strs _), (by decide +kernel), (by decide +kernel), _, rfl, ?_⟩
    rw [show PyData.eqv (.list ((List.replicate 2 ("let" : Str)).map PyData.str)) (.list ((List.replicate 2 ("let" : Str)).map PyData.str)) = true from by decide +kernel]
    refine iteF ?_
    have eD := kD.trans mD
    have x6 := x5.trans eD
    generalize upd (upd KD lD _) pD _ = H13 at x6
    have hg13 := hg.same x6
    have hh13 := (hh11.same x4).same x6
    have sb013 := SameB.trans sb011 (Same.b (x4.trans x6) a)
    refine ⟨_, rfl, (by show 2 ≤ sizeLine; decide), fun l3 hl3 => ?_⟩
    have x7 := same_new hl3 (.lst [.int 3, .int 12])
    obtain ⟨nl3, nl4⟩ := hh13.ne hl3
    refine ⟨a, lc, l3, _, rfl, hh13.same x7, upd_same, nl3, (by show 1 ≤ 2; decide), (by show 2 ≤ 100; decide), fun y3 H14 hy3 sb14 hh14 => ?_⟩
    have hg14 := hand_wd (hh13.same x7) sb14 (hg13.same x7)
    have sb014 := SameB.trans sb013 (SameB.trans (Same.b x7 a) sb14)
    have hy3 : y3 ∈ [V.int 3, .int 12] := hy3
    simp only [List.mem_cons, List.not_mem_nil, or_false] at hy3
    rcases hy3 with rfl | rfl
    · refine ⟨_, rfl, rfl, _, rfl, iteF ?_⟩
      refine ⟨_, rfl, by decide, by decide, fun DE hDE => ?_⟩
      refine lc_range (fun j H' => Same H14 H' ∧ H' DE = some (.lst ((([("let" : Str), "let"] : List Str).take j).map V.str))) ⟨same_new hDE _, upd_same⟩ ?_ ?_
      · rintro j H' hj ⟨s', hd⟩
        have hgs := hg14.same s'
        obtain ⟨_, eg, hgq⟩ := id hgs
        cases eg
        refine ⟨rfl, ?_⟩
        refine ⟨_, rfl, _, rfl, _, rfl, ga, _, rfl, hgq, fun pr hpr => ?_⟩
        have xr := same_new hpr (.tup ((great 60).map V.int).reverse)
        have hgr : Wd K (upd H' pr (.tup ((great 60).map V.int).reverse)) (.ref pr) (great 60).reverse := Wd.new (by rw [upd_same, List.map_reverse])
        have hgx := hgs.same xr
        have hd2 := xr _ _ hd
        have hj2 : j < 2 := hj
        have jj : j = 0 ∨ j = 1 := by omega
        rcases jj with rfl | rfl
        · refine ⟨_, rfl, 0, .ref ga, .ref pr, .int 3, .let_, rfl, by decide, by decide, .many (n := 3) rfl hgx hgr gr1 gr3 rfl (by decide) (by decide), fun H'' s'' => ⟨_, s'' _ _ hd2, (by decide), Same.upd (s'.trans (xr.trans s'')) hDE _, ?_⟩⟩
          rw [upd_same]
          rfl
        · refine ⟨_, rfl, 1, .ref ga, .ref pr, .int 3, _, rfl, by decide, by decide, .listed (n := 3) rfl hgx hgr gr1 gr3 rfl (by decide) (by decide) (Nat.le_trans (cnt_le _ _ 3 0 0) (by decide)), fun H'' s'' => ⟨_, s'' _ _ hd2, (by decide), Same.upd (s'.trans (xr.trans s'')) hDE _, ?_⟩⟩
          rw [upd_same]
          rfl
      rintro KE ⟨kE, hdE⟩
      refine ⟨_, rfl, (by show 2 ≤ sizeLine; decide), fun lE hlE => ?_⟩
      have mE := same_new hlE (.lst [.str "let", .str "let"])
      refine ⟨.list ((["let", "let"] : List Str).map PyData.str), .list ((["let", "let"] : List Str).map PyData.str), .lst (SqL.of (mE _ _ hdE)) (dp_strs _), .lst (xs := (["let", "let"] : List Str).map V.str) (SqL.of upd_same) (dp_strs _), (by decide +kernel), (by decide +kernel), ?_⟩
      rw [show PyData.eqv (.list ((["let", "let"] : List Str).map PyData.str)) (.list ((["let", "let"] : List Str).map PyData.str)) = true from by decide +kernel]
      exact k _ (SameB.trans sb014 (Same.b (kE.trans mE) a)) (hh14.same (kE.trans mE))
    · refine ⟨_, rfl, rfl, _, rfl, iteT ?_⟩
      refine ⟨_, rfl, by decide, by decide, fun DE hDE => ?_⟩
      refine lc_range (fun j H' => Same H14 H' ∧ H' DE = some (.lst ((([("let" : Str), "many4096"] : List Str).take j).map V.str))) ⟨same_new hDE _, upd_same⟩ ?_ ?_
      · rintro j H' hj ⟨s', hd⟩
        have hgs := hg14.same s'
        obtain ⟨_, eg, hgq⟩ := id hgs
        cases eg
        refine ⟨rfl, ?_⟩
        refine ⟨_, rfl, _, rfl, _, rfl, ga, _, rfl, hgq, fun pr hpr => ?_⟩
        have xr := same_new hpr (.tup ((great 60).map V.int).reverse)
        have hgr : Wd K (upd H' pr (.tup ((great 60).map V.int).reverse)) (.ref pr) (great 60).reverse := Wd.new (by rw [upd_same, List.map_reverse])
        have hgx := hgs.same xr
        have hd2 := xr _ _ hd
        have hj2 : j < 2 := hj
        have jj : j = 0 ∨ j = 1 := by omega
        rcases jj with rfl | rfl
        · refine ⟨_, rfl, 0, .ref ga, .ref pr, .int 12, .let_, rfl, by decide, by decide, .many (n := 12) rfl hgx hgr gr1 gr3 rfl (by decide) (by decide), fun H'' s'' => ⟨_, s'' _ _ hd2, (by decide), Same.upd (s'.trans (xr.trans s'')) hDE _, ?_⟩⟩
          rw [upd_same]
          rfl
        · refine ⟨_, rfl, 1, .ref ga, .ref pr, .int 12, _, rfl, by decide, by decide, .big (n := 12) rfl hgx hgr gr1 gr3 rfl (by decide) (by decide) (by rw [gw1, gw2]; exact gm1), fun H'' s'' => ⟨_, s'' _ _ hd2, (by decide), Same.upd (s'.trans (xr.trans s'')) hDE _, ?_⟩⟩
          rw [upd_same]
          rfl
      rintro KE ⟨kE, hdE⟩
      refine ⟨_, rfl, (by show 2 ≤ sizeLine; decide), fun lE hlE => ?_⟩
      have mE := same_new hlE (.lst [.str "let", .str "many4096"])
      refine ⟨.list ((["let", "many4096"] : List Str).map PyData.str), .list ((["let", "many4096"] : List Str).map PyData.str), .lst (SqL.of (mE _ _ hdE)) (dp_strs _), .lst (xs := (["let", "many4096"] : List Str).map V.str) (SqL.of upd_same) (dp_strs _), (by decide +kernel), (by decide +kernel), ?_⟩
      rw [show PyData.eqv (.list ((["let", "many4096"] : List Str).map PyData.str)) (.list ((["let", "many4096"] : List Str).map PyData.str)) = true from by decide +kernel]
      exact k _ (SameB.trans sb014 (Same.b (kE.trans mE) a)) (hh14.same (kE.trans mE))
  · refine ⟨61, rfl, sliceW hG11 fun gg H12 x4 hg => ?_⟩
    rw [show cutW ((List.replicate 20 ([0, 1, 2, 3] : List Int)).flatten) none (some 61) = great 61 from cutW_to _ 61] at hg
    have hv12 := hv11.same x4
    obtain ⟨ga, rfl, hga⟩ := id hg
    refine ⟨_, rfl, ga, _, rfl, .inr hga, _, _, rfl, rfl, _, rfl, ?_⟩
    rw [List.length_map, gl2]
    refine iteT ?_
    refine ⟨(by show 2 ≤ sizeLine; decide), fun lk hlk => ⟨lk, rfl, ⟨_, SqL.of upd_same⟩, fun DD hDD => ?_⟩⟩
    have x5 := same_new hlk (.lst [.int 2, .int 3])
    refine lc_list (K := K) (a := lk) (xs := [.int 2, .int 3]) (fun j H' => Same (upd H12 lk (.lst [.int 2, .int 3])) H' ∧ H' DD = some (.lst ((List.replicate j ("many60" : Str)).map V.str))) ⟨same_new hDD _, upd_same⟩ (fun j H' _ h => SqL.of (h.1 _ _ upd_same)) ?_ ?_
    · rintro j kk H' hj ⟨s', hd⟩
      have s5' := x5.trans s'
      obtain ⟨kd, hkd, rfl⟩ : ∃ kd : Int, (kd = 2 ∨ kd = 3) ∧ kk = .int kd := by
        match j, hj with
        | 0, hj =>
          cases hj
          exact ⟨2, .inl rfl, rfl⟩
        | 1, hj =>
          cases hj
          exact ⟨3, .inr rfl, rfl⟩
      have hj2 : j < 2 := (List.getElem?_eq_some_iff.mp hj).1
      refine ⟨rfl, ?_⟩
      refine ⟨_, rfl, _, rfl, _, rfl, kd, v1, .ref ga, .int 0, _, rfl, by omega, by omega, .long hkd (hv12.same s5') (hg.same s5') rx gr2 (.inr (by rw [gw3, gl2]; decide)), fun H'' s'' => ⟨_, s'' _ _ hd, ?_, Same.upd (s'.trans s'') hDD _, ?_⟩⟩
      · rw [List.length_map, List.length_replicate]
        exact small1000 (by omega)
      · rw [upd_same, List.replicate_succ', List.map_append]
        rfl
    rintro KD ⟨kD, hdD⟩
    refine ⟨_, rfl, (by show 1 ≤ sizeLine; decide), fun lD hlD => ⟨lD, 2, _, rfl, rfl, upd_same, by decide, by decide, (by show 1 * 2 ≤ 2 ^ 24; decide), fun pD hpD => ?_⟩⟩
    have mD := (same_new hlD (.lst [.str "many60"])).trans (same_new hpD (.lst (List.replicate (2 : Int).toNat [V.str "many60"]).flatten))
    refine ⟨.list ((List.replicate 2 ("many60" : Str)).map PyData.str), .list ((List.replicate 2 ("many60" : Str)).map PyData.str), .lst (SqL.of (mD _ _ hdD)) (dp_strs _), .lst (xs := (List.replicate 2 ("many60" : Str)).map V.str) (SqL.of upd_same) (dp_strs _), (by decide +kernel), (by decide +kernel), _, rfl, ?_⟩
    rw [show PyData.eqv (.list ((List.replicate 2 ("many60" : Str)).map PyData.str)) (.list ((List.replicate 2 ("many60" : Str)).map PyData.str)) = true from by decide +kernel]
    refine iteF ?_
    have eD := kD.trans mD
    have x6 := x5.trans eD
    generalize upd (upd KD lD _) pD _ = H13 at x6
    have hg13 := hg.same x6
    have hh13 := (hh11.same x4).same x6
    have sb013 := SameB.trans sb011 (Same.b (x4.trans x6) a)
    refine ⟨_, rfl, (by show 2 ≤ sizeLine; decide), fun l3 hl3 => ?_⟩
    have x7 := same_new hl3 (.lst [.int 3, .int 12])
    obtain ⟨nl3, nl4⟩ := hh13.ne hl3
    refine ⟨a, lc, l3, _, rfl, hh13.same x7, upd_same, nl3, (by show 1 ≤ 2; decide), (by show 2 ≤ 100; decide), fun y3 H14 hy3 sb14 hh14 => ?_⟩
    have hg14 := hand_wd (hh13.same x7) sb14 (hg13.same x7)
    have sb014 := SameB.trans sb013 (SameB.trans (Same.b x7 a) sb14)
    have hy3 : y3 ∈ [V.int 3, .int 12] := hy3
    simp only [List.mem_cons, List.not_mem_nil, or_false] at hy3
    rcases hy3 with rfl | rfl
    · refine ⟨_, rfl, rfl, _, rfl, iteF ?_⟩
      refine ⟨_, rfl, by decide, by decide, fun DE hDE => ?_⟩
      refine lc_range (fun j H' => Same H14 H' ∧ H' DE = some (.lst ((([("let" : Str), "let"] : List Str).take j).map V.str))) ⟨same_new hDE _, upd_same⟩ ?_ ?_
      · rintro j H' hj ⟨s', hd⟩
        have hgs := hg14.same s'
        obtain ⟨_, eg, hgq⟩ := id hgs
        cases eg
        refine ⟨rfl, ?_⟩
        refine ⟨_, rfl, _, rfl, _, rfl, ga, _, rfl, hgq, fun pr hpr => ?_⟩
        have xr := same_new hpr (.tup ((great 61).map V.int).reverse)
        have hgr : Wd K (upd H' pr (.tup ((great 61).map V.int).reverse)) (.ref pr) (great 61).reverse := Wd.new (by rw [upd_same, List.map_reverse])
        have hgx := hgs.same xr
        have hd2 := xr _ _ hd
        have hj2 : j < 2 := hj
        have jj : j = 0 ∨ j = 1 := by omega
        rcases jj with rfl | rfl
        · refine ⟨_, rfl, 0, .ref ga, .ref pr, .int 3, .let_, rfl, by decide, by decide, .many (n := 3) rfl hgx hgr gr2 gr4 rfl (by decide) (by decide), fun H'' s'' => ⟨_, s'' _ _ hd2, (by decide), Same.upd (s'.trans (xr.trans s'')) hDE _, ?_⟩⟩
          rw [upd_same]
          rfl
        · refine ⟨_, rfl, 1, .ref ga, .ref pr, .int 3, _, rfl, by decide, by decide, .listed (n := 3) rfl hgx hgr gr2 gr4 rfl (by decide) (by decide) (Nat.le_trans (cnt_le _ _ 3 0 0) (by decide)), fun H'' s'' => ⟨_, s'' _ _ hd2, (by decide), Same.upd (s'.trans (xr.trans s'')) hDE _, ?_⟩⟩
          rw [upd_same]
          rfl
      rintro KE ⟨kE, hdE⟩
      refine ⟨_, rfl, (by show 2 ≤ sizeLine; decide), fun lE hlE => ?_⟩
      have mE := same_new hlE (.lst [.str "let", .str "let"])
      refine ⟨.list ((["let", "let"] : List Str).map PyData.str), .list ((["let", "let"] : List Str).map PyData.str), .lst (SqL.of (mE _ _ hdE)) (dp_strs _), .lst (xs := (["let", "let"] : List Str).map V.str) (SqL.of upd_same) (dp_strs _), (by decide +kernel), (by decide +kernel), ?_⟩
      rw [show PyData.eqv (.list ((["let", "let"] : List Str).map PyData.str)) (.list ((["let", "let"] : List Str).map PyData.str)) = true from by decide +kernel]
      exact k _ (SameB.trans sb014 (Same.b (kE.trans mE) a)) (hh14.same (kE.trans mE))
    · refine ⟨_, rfl, rfl, _, rfl, iteT ?_⟩
      refine ⟨_, rfl, by decide, by decide, fun DE hDE => ?_⟩
      refine lc_range (fun j H' => Same H14 H' ∧ H' DE = some (.lst ((([("let" : Str), "many4096"] : List Str).take j).map V.str))) ⟨same_new hDE _, upd_same⟩ ?_ ?_
      · rintro j H' hj ⟨s', hd⟩
        have hgs := hg14.same s'
        obtain ⟨_, eg, hgq⟩ := id hgs
        cases eg
        refine ⟨rfl, ?_⟩
        refine ⟨_, rfl, _, rfl, _, rfl, ga, _, rfl, hgq, fun pr hpr => ?_⟩
        have xr := same_new hpr (.tup ((great 61).map V.int).reverse)
        have hgr : Wd K (upd H' pr (.tup ((great 61).map V.int).reverse)) (.ref pr) (great 61).reverse := Wd.new (by rw [upd_same, List.map_reverse])
        have hgx := hgs.same xr
        have hd2 := xr _ _ hd
        have hj2 : j < 2 := hj
        have jj : j = 0 ∨ j = 1 := by omega
        rcases jj with rfl | rfl
        · refine ⟨_, rfl, 0, .ref ga, .ref pr, .int 12, .let_, rfl, by decide, by decide, .many (n := 12) rfl hgx hgr gr2 gr4 rfl (by decide) (by decide), fun H'' s'' => ⟨_, s'' _ _ hd2, (by decide), Same.upd (s'.trans (xr.trans s'')) hDE _, ?_⟩⟩
          rw [upd_same]
          rfl
        · refine ⟨_, rfl, 1, .ref ga, .ref pr, .int 12, _, rfl, by decide, by decide, .big (n := 12) rfl hgx hgr gr2 gr4 rfl (by decide) (by decide) (by rw [gw3, gw4]; exact gm2), fun H'' s'' => ⟨_, s'' _ _ hd2, (by decide), Same.upd (s'.trans (xr.trans s'')) hDE _, ?_⟩⟩
          rw [upd_same]
          rfl
      rintro KE ⟨kE, hdE⟩
      refine ⟨_, rfl, (by show 2 ≤ sizeLine; decide), fun lE hlE => ?_⟩
      have mE := same_new hlE (.lst [.str "let", .str "many4096"])
      refine ⟨.list ((["let", "many4096"] : List Str).map PyData.str), .list ((["let", "many4096"] : List Str).map PyData.str), .lst (SqL.of (mE _ _ hdE)) (dp_strs _), .lst (xs := (["let", "many4096"] : List Str).map V.str) (SqL.of upd_same) (dp_strs _), (by decide +kernel), (by decide +kernel), ?_⟩
      rw [show PyData.eqv (.list ((["let", "many4096"] : List Str).map PyData.str)) (.list ((["let", "many4096"] : List Str).map PyData.str)) = true from by decide +kernel]
      exact k _ (SameB.trans sb014 (Same.b (kE.trans mE) a)) (hh14.same (kE.trans mE))
abbrev s_law : Stmt := top 55
theorem sc_law : FnScope ["_law_script", "_law_hand_here"] ["_law_script"] (defScope s_law) := ⟨rfl, rfl, rfl, by decide +kernel, rfl, by decide +kernel, by decide +kernel⟩
theorem ok_law (F : Fun K "law" "law" s_law f fd) {f1 f2 f3 f4 : Addr} {fd1 fd2 fd3 fd4 : FuncData} (k_law_hand : Kn P w K mg base CX0 1 "_law_hand" ["_law_script"] (spHand K) f1 fd1)
    (k_law_small_right : Kn P w K mg base CX0 17 "_law_small_right" ["_law_hand_here"] spRight f2 fd2) (k_law_long_right : Kn P w K mg base CX0 17 "_law_long_right" ["_law_hand_here"] spRight f3 fd3)
    (k_law_refused_right : Kn P w K mg base CX0 19 "_law_refused_right" ["_law_hand_here"] spRight f4 fd4) : FnOk P w K mg base CX0 20 f fd ["_law_script"] (spLaw K) := by
  refine F.ok sc_law (fun vs H Q E h => ?_) (fun cdv A outer s H vs Q E hr h => ?_)
  · obtain ⟨a, ns, rfl, _⟩ := h
    rfl
  obtain ⟨a, ns, rfl, hS, hl, k⟩ := h
  refine ⟨_, (pss_cons (ps_set (i := 1) sc_law.nd rfl (Or.inl rfl) (pk k_law_hand hr (by omega) pass0 (pa_cons (pv 0) pa_nil)))
      (pss_cons (ps_if (PW.pt (pw_or (pt_not (pt_val (pk k_law_small_right hr (by omega) pass0 (pa_cons (pv 1) pa_nil)))) (pw_or (pt_not (pt_val (pk k_law_small_right hr (by omega) pass0 (pa_cons (pv 1) pa_nil)))) (pw_or1 (pt_not (pt_val (pk k_law_long_right hr (by omega) pass0 (pa_cons (pv 1) pa_nil)))))))) (pss_one (ps_ret pe_bl)) pss_nil)
      (pss_one (ps_ret (pk k_law_refused_right hr (by omega) pass0 (pa_cons (pv 1) pa_nil)))))), ?_⟩
  refine ⟨_, rfl, a, ns, rfl, hS, hl, fun r lc H1 s1 hh1 hr1 => ?_⟩
  refine ⟨_, rfl, r, lc, rfl, hh1, fun H2 sb2 hh2 => ⟨_, rfl, iteF ?_⟩⟩
  refine ⟨_, rfl, r, lc, rfl, hh2, fun H3 sb3 hh3 => ⟨_, rfl, iteF ?_⟩⟩
  refine ⟨_, rfl, r, lc, rfl, hh3, fun H4 sb4 hh4 => ⟨_, rfl, iteF ?_⟩⟩
  exact ⟨_, rfl, r, lc, rfl, hh4, fun H5 sb5 hh5 => k H5⟩
end
end Fl
end

section
set_option Elab.async false
set_option linter.all false
set_option maxRecDepth 100000
set_option maxHeartbeats 0
/-! The end: from what the top has written to the law's walk. -/
namespace Fl
open PySem PySem.Spec PyProof.Rows L2
theorem all_mk {w : World} {K : PySem.W.Frag} {h : Heap} {mg : Str → Option Value} {fa : Addr} (X : K.In h) (G : h.Ns mainGlobals mg) (hfa : mg "law" = some (.ref fa))
    {cP cR cN cT cL : Addr}
    {t_MOST_LETTERS : Tok}
    {t_MOST_LANES : Tok}
    {t_MOST_ROWS : Tok}
    {t_MOST_LISTED : Tok}
    {t_MOST_WORD : Tok}
    {nmT : Str} {qT : Str} {NT : Addr} {bsT bmT : List Value} {snT : List Str} {sbT : List Value} {abT : Bool} {coT : Option Bool} {ddT : Option Addr} {m0T m1T m2T m3T m5T : Option Value}
    {fT cdT ccT : Addr} {ocT kVT dcT pmT ctT clT cvT : Value} {odT anT cdD cvD : Option Addr} {slT csT cwT : Array (Option Value)} {vsT : Array Value} {fileT : Str} {tfT : Tok}
    {fis_integer : Addr} {ocis_integer kVis_integer dcis_integer pmis_integer cdis_integer ctis_integer : Value} {odis_integer anis_integer : Option Addr} {slis_integer : Array (Option Value)}
    {fis_between : Addr} {ocis_between kVis_between dcis_between pmis_between cdis_between ctis_between : Value} {odis_between anis_between : Option Addr} {slis_between : Array (Option Value)}
    {fis_index : Addr} {ocis_index kVis_index dcis_index pmis_index cdis_index ctis_index : Value} {odis_index anis_index : Option Addr} {slis_index : Array (Option Value)}
    {fcheck_number : Addr} {occheck_number kVcheck_number dccheck_number pmcheck_number cdcheck_number ctcheck_number : Value} {odcheck_number ancheck_number : Option Addr} {slcheck_number : Array (Option Value)}
    {fis_row : Addr} {ocis_row kVis_row dcis_row pmis_row cdis_row ctis_row : Value} {odis_row anis_row : Option Addr} {slis_row : Array (Option Value)}
    {fcheck_row : Addr} {occheck_row kVcheck_row dccheck_row pmcheck_row cdcheck_row ctcheck_row : Value} {odcheck_row ancheck_row : Option Addr} {slcheck_row : Array (Option Value)}
    {fcheck_both : Addr} {occheck_both kVcheck_both dccheck_both pmcheck_both cdcheck_both ctcheck_both : Value} {odcheck_both ancheck_both : Option Addr} {slcheck_both : Array (Option Value)}
    {fnext_place : Addr} {ocnext_place kVnext_place dcnext_place pmnext_place cdnext_place ctnext_place : Value} {odnext_place annext_place : Option Addr} {slnext_place : Array (Option Value)}
    {fway_of : Addr} {ocway_of kVway_of dcway_of pmway_of cdway_of ctway_of : Value} {odway_of anway_of : Option Addr} {slway_of : Array (Option Value)}
    {fis_thinning : Addr} {ocis_thinning kVis_thinning dcis_thinning pmis_thinning cdis_thinning ctis_thinning : Value} {odis_thinning anis_thinning : Option Addr} {slis_thinning : Array (Option Value)}
    {fword_of : Addr} {ocword_of kVword_of dcword_of pmword_of cdword_of ctword_of : Value} {odword_of anword_of : Option Addr} {slword_of : Array (Option Value)}
    {fPairs_init : Addr} {ocPairs_init kVPairs_init dcPairs_init pmPairs_init cdPairs_init ctPairs_init : Value} {odPairs_init anPairs_init : Option Addr} {slPairs_init : Array (Option Value)}
    {fPairs_goes_on : Addr} {ocPairs_goes_on kVPairs_goes_on dcPairs_goes_on pmPairs_goes_on cdPairs_goes_on ctPairs_goes_on : Value} {odPairs_goes_on anPairs_goes_on : Option Addr} {slPairs_goes_on : Array (Option Value)}
    {fPairs_many : Addr} {ocPairs_many kVPairs_many dcPairs_many pmPairs_many cdPairs_many ctPairs_many : Value} {odPairs_many anPairs_many : Option Addr} {slPairs_many : Array (Option Value)}
    {fPairs_listed : Addr} {ocPairs_listed kVPairs_listed dcPairs_listed pmPairs_listed cdPairs_listed ctPairs_listed : Value} {odPairs_listed anPairs_listed : Option Addr} {slPairs_listed : Array (Option Value)}
    {fcommon_many : Addr} {occommon_many kVcommon_many dccommon_many pmcommon_many cdcommon_many ctcommon_many : Value} {odcommon_many ancommon_many : Option Addr} {slcommon_many : Array (Option Value)}
    {fcommon : Addr} {occommon kVcommon dccommon pmcommon cdcommon ctcommon : Value} {odcommon ancommon : Option Addr} {slcommon : Array (Option Value)}
    {fcheck_words : Addr} {occheck_words kVcheck_words dccheck_words pmcheck_words cdcheck_words ctcheck_words : Value} {odcheck_words ancheck_words : Option Addr} {slcheck_words : Array (Option Value)}
    {fbetter : Addr} {ocbetter kVbetter dcbetter pmbetter cdbetter ctbetter : Value} {odbetter anbetter : Option Addr} {slbetter : Array (Option Value)}
    {fshorter : Addr} {ocshorter kVshorter dcshorter pmshorter cdshorter ctshorter : Value} {odshorter anshorter : Option Addr} {slshorter : Array (Option Value)}
    {flongest_from : Addr} {oclongest_from kVlongest_from dclongest_from pmlongest_from cdlongest_from ctlongest_from : Value} {odlongest_from anlongest_from : Option Addr} {sllongest_from : Array (Option Value)}
    {flongest_common : Addr} {oclongest_common kVlongest_common dclongest_common pmlongest_common cdlongest_common ctlongest_common : Value} {odlongest_common anlongest_common : Option Addr} {sllongest_common : Array (Option Value)}
    {fshortest_from : Addr} {ocshortest_from kVshortest_from dcshortest_from pmshortest_from cdshortest_from ctshortest_from : Value} {odshortest_from anshortest_from : Option Addr} {slshortest_from : Array (Option Value)}
    {fshortest_over : Addr} {ocshortest_over kVshortest_over dcshortest_over pmshortest_over cdshortest_over ctshortest_over : Value} {odshortest_over anshortest_over : Option Addr} {slshortest_over : Array (Option Value)}
    {flaw_hand : Addr} {oclaw_hand kVlaw_hand dclaw_hand pmlaw_hand cdlaw_hand ctlaw_hand : Value} {odlaw_hand anlaw_hand : Option Addr} {sllaw_hand : Array (Option Value)}
    {flaw_draw : Addr} {oclaw_draw kVlaw_draw dclaw_draw pmlaw_draw cdlaw_draw ctlaw_draw : Value} {odlaw_draw anlaw_draw : Option Addr} {sllaw_draw : Array (Option Value)}
    {flaw_some : Addr} {oclaw_some kVlaw_some dclaw_some pmlaw_some cdlaw_some ctlaw_some : Value} {odlaw_some anlaw_some : Option Addr} {sllaw_some : Array (Option Value)}
    {flaw_row : Addr} {oclaw_row kVlaw_row dclaw_row pmlaw_row cdlaw_row ctlaw_row : Value} {odlaw_row anlaw_row : Option Addr} {sllaw_row : Array (Option Value)}
    {flaw_is : Addr} {oclaw_is kVlaw_is dclaw_is pmlaw_is cdlaw_is ctlaw_is : Value} {odlaw_is anlaw_is : Option Addr} {sllaw_is : Array (Option Value)}
    {flaw_word : Addr} {oclaw_word kVlaw_word dclaw_word pmlaw_word cdlaw_word ctlaw_word : Value} {odlaw_word anlaw_word : Option Addr} {sllaw_word : Array (Option Value)}
    {flaw_thins : Addr} {oclaw_thins kVlaw_thins dclaw_thins pmlaw_thins cdlaw_thins ctlaw_thins : Value} {odlaw_thins anlaw_thins : Option Addr} {sllaw_thins : Array (Option Value)}
    {flaw_rows : Addr} {oclaw_rows kVlaw_rows dclaw_rows pmlaw_rows cdlaw_rows ctlaw_rows : Value} {odlaw_rows anlaw_rows : Option Addr} {sllaw_rows : Array (Option Value)}
    {flaw_deep : Addr} {oclaw_deep kVlaw_deep dclaw_deep pmlaw_deep cdlaw_deep ctlaw_deep : Value} {odlaw_deep anlaw_deep : Option Addr} {sllaw_deep : Array (Option Value)}
    {flaw_odd_row : Addr} {oclaw_odd_row kVlaw_odd_row dclaw_odd_row pmlaw_odd_row cdlaw_odd_row ctlaw_odd_row : Value} {odlaw_odd_row anlaw_odd_row : Option Addr} {sllaw_odd_row : Array (Option Value)}
    {flaw_longest : Addr} {oclaw_longest kVlaw_longest dclaw_longest pmlaw_longest cdlaw_longest ctlaw_longest : Value} {odlaw_longest anlaw_longest : Option Addr} {sllaw_longest : Array (Option Value)}
    {flaw_keep : Addr} {oclaw_keep kVlaw_keep dclaw_keep pmlaw_keep cdlaw_keep ctlaw_keep : Value} {odlaw_keep anlaw_keep : Option Addr} {sllaw_keep : Array (Option Value)}
    {flaw_shortest : Addr} {oclaw_shortest kVlaw_shortest dclaw_shortest pmlaw_shortest cdlaw_shortest ctlaw_shortest : Value} {odlaw_shortest anlaw_shortest : Option Addr} {sllaw_shortest : Array (Option Value)}
    {flaw_lengths : Addr} {oclaw_lengths kVlaw_lengths dclaw_lengths pmlaw_lengths cdlaw_lengths ctlaw_lengths : Value} {odlaw_lengths anlaw_lengths : Option Addr} {sllaw_lengths : Array (Option Value)}
    {flaw_asked : Addr} {oclaw_asked kVlaw_asked dclaw_asked pmlaw_asked cdlaw_asked ctlaw_asked : Value} {odlaw_asked anlaw_asked : Option Addr} {sllaw_asked : Array (Option Value)}
    {flaw_word_of : Addr} {oclaw_word_of kVlaw_word_of dclaw_word_of pmlaw_word_of cdlaw_word_of ctlaw_word_of : Value} {odlaw_word_of anlaw_word_of : Option Addr} {sllaw_word_of : Array (Option Value)}
    {flaw_small_right : Addr} {oclaw_small_right kVlaw_small_right dclaw_small_right pmlaw_small_right cdlaw_small_right ctlaw_small_right : Value} {odlaw_small_right anlaw_small_right : Option Addr} {sllaw_small_right : Array (Option Value)}
    {flaw_long_right : Addr} {oclaw_long_right kVlaw_long_right dclaw_long_right pmlaw_long_right cdlaw_long_right ctlaw_long_right : Value} {odlaw_long_right anlaw_long_right : Option Addr} {sllaw_long_right : Array (Option Value)}
    {flaw_refused_right : Addr} {oclaw_refused_right kVlaw_refused_right dclaw_refused_right pmlaw_refused_right cdlaw_refused_right ctlaw_refused_right : Value} {odlaw_refused_right anlaw_refused_right : Option Addr} {sllaw_refused_right : Array (Option Value)}
    {flaw : Addr} {oclaw kVlaw dclaw pmlaw cdlaw ctlaw : Value} {odlaw anlaw : Option Addr} {sllaw : Array (Option Value)}
    (aP : PySem.W.nsIn K mainGlobals "Pairs" = some (some (.ref cP)))
    (aR : PySem.W.nsIn K mainGlobals "NoRow" = some (some (.ref cR)))
    (aN : PySem.W.nsIn K mainGlobals "NoNumber" = some (some (.ref cN)))
    (aT : PySem.W.nsIn K mainGlobals "TooMany" = some (some (.ref cT)))
    (aL : PySem.W.nsIn K mainGlobals "LaneError" = some (some (.ref cL)))
    (z_len : PySem.W.nsIn K mainGlobals "len" = some none)
    (z_range : PySem.W.nsIn K mainGlobals "range" = some none)
    (z_isinstance : PySem.W.nsIn K mainGlobals "isinstance" = some none)
    (z_int : PySem.W.nsIn K mainGlobals "int" = some none)
    (z_bool : PySem.W.nsIn K mainGlobals "bool" = some none)
    (z_tuple : PySem.W.nsIn K mainGlobals "tuple" = some none)
    (z_list : PySem.W.nsIn K mainGlobals "list" = some none)
    (z_all : PySem.W.nsIn K mainGlobals "all" = some none)
    (z_zip : PySem.W.nsIn K mainGlobals "zip" = some none)
    (z_sum : PySem.W.nsIn K mainGlobals "sum" = some none)
    (z_max : PySem.W.nsIn K mainGlobals "max" = some none)
    (z_min : PySem.W.nsIn K mainGlobals "min" = some none)
    (z_sorted : PySem.W.nsIn K mainGlobals "sorted" = some none)
    (z_set : PySem.W.nsIn K mainGlobals "set" = some none)
    (z_abs : PySem.W.nsIn K mainGlobals "abs" = some none)
    (z_str : PySem.W.nsIn K mainGlobals "str" = some none)
    (z_super : PySem.W.nsIn K mainGlobals "super" = some none)
    (g_MOST_LETTERS : PySem.W.nsIn K mainGlobals "MOST_LETTERS" = some (some (.int 4 t_MOST_LETTERS)))
    (g_MOST_LANES : PySem.W.nsIn K mainGlobals "MOST_LANES" = some (some (.int 1000 t_MOST_LANES)))
    (g_MOST_ROWS : PySem.W.nsIn K mainGlobals "MOST_ROWS" = some (some (.int 4096 t_MOST_ROWS)))
    (g_MOST_LISTED : PySem.W.nsIn K mainGlobals "MOST_LISTED" = some (some (.int 12 t_MOST_LISTED)))
    (g_MOST_WORD : PySem.W.nsIn K mainGlobals "MOST_WORD" = some (some (.int 60 t_MOST_WORD)))
    (x_cR : PySem.W.excIn K cR [.type "ValueError", .type "Exception", .type "BaseException", .type "object"] "ValueError.__new__" = true)
    (x_cN : PySem.W.excIn K cN [.type "ValueError", .type "Exception", .type "BaseException", .type "object"] "ValueError.__new__" = true)
    (kp_cR : PySem.W.keepIn K (.ref cR) = true)
    (be_cR : PySem.W.subIn K (.ref cR) (.type "BaseException") = some true)
    (kp_cN : PySem.W.keepIn K (.ref cN) = true)
    (be_cN : PySem.W.subIn K (.ref cN) (.type "BaseException") = some true)
    (kp_cT : PySem.W.keepIn K (.ref cT) = true)
    (be_cT : PySem.W.subIn K (.ref cT) (.type "BaseException") = some true)
    (ty_cR : PySem.W.typeIn K (.ref cR) = some (.type "type"))
    (hd_cR : PySem.W.hasDictIn K cR = true)
    (ty_cN : PySem.W.typeIn K (.ref cN) = some (.type "type"))
    (hd_cN : PySem.W.hasDictIn K cN = true)
    (ty_cT : PySem.W.typeIn K (.ref cT) = some (.type "type"))
    (hd_cT : PySem.W.hasDictIn K cT = true)
    (ty_cL : PySem.W.typeIn K (.ref cL) = some (.type "type"))
    (hd_cL : PySem.W.hasDictIn K cL = true)
    (be_cL : PySem.W.subIn K (.ref cL) (.type "BaseException") = some true)
    (ga_cR : PySem.W.findIn K (.ref cR) "__getattribute__" = some (some (.builtin "BaseException.__getattribute__")))
    (gg_cR : PySem.W.findIn K (.ref cR) "__getattr__" = some none)
    (ga_cN : PySem.W.findIn K (.ref cN) "__getattribute__" = some (some (.builtin "BaseException.__getattribute__")))
    (gg_cN : PySem.W.findIn K (.ref cN) "__getattr__" = some none)
    (ga_cT : PySem.W.findIn K (.ref cT) "__getattribute__" = some (some (.builtin "BaseException.__getattribute__")))
    (gg_cT : PySem.W.findIn K (.ref cT) "__getattr__" = some none)
    (cc_cR : PySem.W.findIn K (.ref cR) "__class__" = some (some (.builtin "object.__class__")))
    (mo_cR : PySem.W.mroIn K cR (.type "object") = some true)
    (cc_cN : PySem.W.findIn K (.ref cN) "__class__" = some (some (.builtin "object.__class__")))
    (mo_cN : PySem.W.mroIn K cN (.type "object") = some true)
    (sp_get : PySem.W.specialIn K (.builtin "object.__class__") "__get__" = some (some (.builtin "getset_descriptor.__get__")))
    (tk_cls : PySem.W.takesIn K (.builtin "object.__class__") = some true)
    (s_cT_cT : PySem.W.subIn K (.ref cT) (.ref cT) = some true)
    (s_cR_cT : PySem.W.subIn K (.ref cR) (.ref cT) = some false)
    (s_cN_cT : PySem.W.subIn K (.ref cN) (.ref cT) = some false)
    (s_cR_cL : PySem.W.subIn K (.ref cR) (.ref cL) = some true)
    (s_cN_cL : PySem.W.subIn K (.ref cN) (.ref cL) = some true)
    (s_cN_cR : PySem.W.subIn K (.ref cN) (.ref cR) = some false)
    (xT : K.lookup cT = some (excClassObj nmT qT cT NT bsT bmT true snT sbT abT coT ddT m0T m1T m2T m3T m5T "ValueError.__new__"))
    (rT : PySem.HandSPX.refsVE bmT = true)
    (saT : PySem.W.findIn K (.ref cT) "__setattr__" = some (some (.builtin "object.__setattr__")))
    (iT : PySem.W.findIn K (.ref cT) "__init__" = some (some (.ref fT)))
    (tiT : PySem.W.typeIn K (.ref fT) = some (.type "function"))
    (lT : K.lookup fT = some ⟨ocT, odT, .func (PySem.W.ksFn "__init__" "TooMany.__init__" (defArgs s_TM) (defBody s_TM) (defScope s_TM) .none kVT dcT pmT anT (.ref cdT) ctT ccT), slT⟩)
    (cT_ : PySem.W.codeIn K (.ref cdT) "TooMany.__init__" = true)
    (ldT : K.lookup cdT = some ⟨clT, cdD, .fields vsT, csT⟩)
    (v2T : vsT[2]? = some (.str fileT tfT))
    (fiT : ((PySem.Challenge.pw_flyovers_k63_whole_common_words.main.file : Str) == fileT) = true)
    (lcT : K.lookup ccT = some ⟨cvT, cvD, .cell (some (.ref cT)), cwT⟩)
    (anyT : PySem.W.nsIn K cStatics "thirdparty.any" = some none)
    (siT : PySem.W.ks_superIn K cT cT "__init__" = some (some (.builtin "ValueError.__init__")))
    (suT : PySem.W.subIn K (.ref cT) (.type "ValueError") = some true)
    (mrT : PySem.W.mroIn K cT (.ref cT) = some true)
    (noT : PySem.W.findIn K (.ref cT) "most" = some none)
    (neNR : ¬ (Value.ref cN == Value.ref cR) = true)
    (pgP : PySem.W.plainGet K cP Str.empty = true)
    (hdP : PySem.W.hasDictIn K cP = true)
    (poP : PySem.W.plainOver K cP = true)
    (saP : PySem.W.findIn K (.ref cP) "__setattr__" = some (some (.builtin "object.__setattr__")))
    (mkP : PySem.W.makesIn K cP = true)
    (kcP : PySem.W.keepIn K (.ref cP) = true)
    (nWP : PySem.W.findIn K (.ref cP) "words" = some none)
    (nKP : PySem.W.findIn K (.ref cP) "known" = some none)
    (a_is_integer : PySem.W.nsIn K mainGlobals "is_integer" = some (some (.ref fis_integer)))
    (l_is_integer : K.lookup fis_integer = some ⟨ocis_integer, odis_integer, .func (PySem.W.fnOf "is_integer" "is_integer" (defArgs s_is_integer) (defBody s_is_integer) (defScope s_is_integer) .none kVis_integer dcis_integer pmis_integer anis_integer cdis_integer ctis_integer), slis_integer⟩)
    (c_is_integer : PySem.W.codeIn K cdis_integer "is_integer" = true)
    (k_is_integer_ : PySem.W.keepIn K (.ref fis_integer) = true)
    (a_is_between : PySem.W.nsIn K mainGlobals "is_between" = some (some (.ref fis_between)))
    (l_is_between : K.lookup fis_between = some ⟨ocis_between, odis_between, .func (PySem.W.fnOf "is_between" "is_between" (defArgs s_is_between) (defBody s_is_between) (defScope s_is_between) .none kVis_between dcis_between pmis_between anis_between cdis_between ctis_between), slis_between⟩)
    (c_is_between : PySem.W.codeIn K cdis_between "is_between" = true)
    (k_is_between_ : PySem.W.keepIn K (.ref fis_between) = true)
    (a_is_index : PySem.W.nsIn K mainGlobals "is_index" = some (some (.ref fis_index)))
    (l_is_index : K.lookup fis_index = some ⟨ocis_index, odis_index, .func (PySem.W.fnOf "is_index" "is_index" (defArgs s_is_index) (defBody s_is_index) (defScope s_is_index) .none kVis_index dcis_index pmis_index anis_index cdis_index ctis_index), slis_index⟩)
    (c_is_index : PySem.W.codeIn K cdis_index "is_index" = true)
    (k_is_index_ : PySem.W.keepIn K (.ref fis_index) = true)
    (a_check_number : PySem.W.nsIn K mainGlobals "check_number" = some (some (.ref fcheck_number)))
    (l_check_number : K.lookup fcheck_number = some ⟨occheck_number, odcheck_number, .func (PySem.W.fnOf "check_number" "check_number" (defArgs s_check_number) (defBody s_check_number) (defScope s_check_number) .none kVcheck_number dccheck_number pmcheck_number ancheck_number cdcheck_number ctcheck_number), slcheck_number⟩)
    (c_check_number : PySem.W.codeIn K cdcheck_number "check_number" = true)
    (k_check_number_ : PySem.W.keepIn K (.ref fcheck_number) = true)
    (a_is_row : PySem.W.nsIn K mainGlobals "is_row" = some (some (.ref fis_row)))
    (l_is_row : K.lookup fis_row = some ⟨ocis_row, odis_row, .func (PySem.W.fnOf "is_row" "is_row" (defArgs s_is_row) (defBody s_is_row) (defScope s_is_row) .none kVis_row dcis_row pmis_row anis_row cdis_row ctis_row), slis_row⟩)
    (c_is_row : PySem.W.codeIn K cdis_row "is_row" = true)
    (k_is_row_ : PySem.W.keepIn K (.ref fis_row) = true)
    (a_check_row : PySem.W.nsIn K mainGlobals "check_row" = some (some (.ref fcheck_row)))
    (l_check_row : K.lookup fcheck_row = some ⟨occheck_row, odcheck_row, .func (PySem.W.fnOf "check_row" "check_row" (defArgs s_check_row) (defBody s_check_row) (defScope s_check_row) .none kVcheck_row dccheck_row pmcheck_row ancheck_row cdcheck_row ctcheck_row), slcheck_row⟩)
    (c_check_row : PySem.W.codeIn K cdcheck_row "check_row" = true)
    (k_check_row_ : PySem.W.keepIn K (.ref fcheck_row) = true)
    (a_check_both : PySem.W.nsIn K mainGlobals "check_both" = some (some (.ref fcheck_both)))
    (l_check_both : K.lookup fcheck_both = some ⟨occheck_both, odcheck_both, .func (PySem.W.fnOf "check_both" "check_both" (defArgs s_check_both) (defBody s_check_both) (defScope s_check_both) .none kVcheck_both dccheck_both pmcheck_both ancheck_both cdcheck_both ctcheck_both), slcheck_both⟩)
    (c_check_both : PySem.W.codeIn K cdcheck_both "check_both" = true)
    (k_check_both_ : PySem.W.keepIn K (.ref fcheck_both) = true)
    (a_next_place : PySem.W.nsIn K mainGlobals "next_place" = some (some (.ref fnext_place)))
    (l_next_place : K.lookup fnext_place = some ⟨ocnext_place, odnext_place, .func (PySem.W.fnOf "next_place" "next_place" (defArgs s_next_place) (defBody s_next_place) (defScope s_next_place) .none kVnext_place dcnext_place pmnext_place annext_place cdnext_place ctnext_place), slnext_place⟩)
    (c_next_place : PySem.W.codeIn K cdnext_place "next_place" = true)
    (k_next_place_ : PySem.W.keepIn K (.ref fnext_place) = true)
    (a_way_of : PySem.W.nsIn K mainGlobals "way_of" = some (some (.ref fway_of)))
    (l_way_of : K.lookup fway_of = some ⟨ocway_of, odway_of, .func (PySem.W.fnOf "way_of" "way_of" (defArgs s_way_of) (defBody s_way_of) (defScope s_way_of) .none kVway_of dcway_of pmway_of anway_of cdway_of ctway_of), slway_of⟩)
    (c_way_of : PySem.W.codeIn K cdway_of "way_of" = true)
    (k_way_of_ : PySem.W.keepIn K (.ref fway_of) = true)
    (a_is_thinning : PySem.W.nsIn K mainGlobals "is_thinning" = some (some (.ref fis_thinning)))
    (l_is_thinning : K.lookup fis_thinning = some ⟨ocis_thinning, odis_thinning, .func (PySem.W.fnOf "is_thinning" "is_thinning" (defArgs s_is_thinning) (defBody s_is_thinning) (defScope s_is_thinning) .none kVis_thinning dcis_thinning pmis_thinning anis_thinning cdis_thinning ctis_thinning), slis_thinning⟩)
    (c_is_thinning : PySem.W.codeIn K cdis_thinning "is_thinning" = true)
    (k_is_thinning_ : PySem.W.keepIn K (.ref fis_thinning) = true)
    (a_word_of : PySem.W.nsIn K mainGlobals "word_of" = some (some (.ref fword_of)))
    (l_word_of : K.lookup fword_of = some ⟨ocword_of, odword_of, .func (PySem.W.fnOf "word_of" "word_of" (defArgs s_word_of) (defBody s_word_of) (defScope s_word_of) .none kVword_of dcword_of pmword_of anword_of cdword_of ctword_of), slword_of⟩)
    (c_word_of : PySem.W.codeIn K cdword_of "word_of" = true)
    (k_word_of_ : PySem.W.keepIn K (.ref fword_of) = true)
    (m_Pairs_init : PySem.W.findIn K (.ref cP) "__init__" = some (some (.ref fPairs_init)))
    (i_Pairs_init : PySem.W.isFn K (.ref fPairs_init) = true)
    (l_Pairs_init : K.lookup fPairs_init = some ⟨ocPairs_init, odPairs_init, .func (PySem.W.fnOf "__init__" "Pairs.__init__" (defArgs s_Pairs_init) (defBody s_Pairs_init) (defScope s_Pairs_init) .none kVPairs_init dcPairs_init pmPairs_init anPairs_init cdPairs_init ctPairs_init), slPairs_init⟩)
    (c_Pairs_init : PySem.W.codeIn K cdPairs_init "Pairs.__init__" = true)
    (k_Pairs_init_ : PySem.W.keepIn K (.ref fPairs_init) = true)
    (m_Pairs_goes_on : PySem.W.findIn K (.ref cP) "goes_on" = some (some (.ref fPairs_goes_on)))
    (i_Pairs_goes_on : PySem.W.isFn K (.ref fPairs_goes_on) = true)
    (l_Pairs_goes_on : K.lookup fPairs_goes_on = some ⟨ocPairs_goes_on, odPairs_goes_on, .func (PySem.W.fnOf "goes_on" "Pairs.goes_on" (defArgs s_Pairs_goes_on) (defBody s_Pairs_goes_on) (defScope s_Pairs_goes_on) .none kVPairs_goes_on dcPairs_goes_on pmPairs_goes_on anPairs_goes_on cdPairs_goes_on ctPairs_goes_on), slPairs_goes_on⟩)
    (c_Pairs_goes_on : PySem.W.codeIn K cdPairs_goes_on "Pairs.goes_on" = true)
    (k_Pairs_goes_on_ : PySem.W.keepIn K (.ref fPairs_goes_on) = true)
    (m_Pairs_many : PySem.W.findIn K (.ref cP) "many" = some (some (.ref fPairs_many)))
    (i_Pairs_many : PySem.W.isFn K (.ref fPairs_many) = true)
    (l_Pairs_many : K.lookup fPairs_many = some ⟨ocPairs_many, odPairs_many, .func (PySem.W.fnOf "many" "Pairs.many" (defArgs s_Pairs_many) (defBody s_Pairs_many) (defScope s_Pairs_many) .none kVPairs_many dcPairs_many pmPairs_many anPairs_many cdPairs_many ctPairs_many), slPairs_many⟩)
    (c_Pairs_many : PySem.W.codeIn K cdPairs_many "Pairs.many" = true)
    (k_Pairs_many_ : PySem.W.keepIn K (.ref fPairs_many) = true)
    (m_Pairs_listed : PySem.W.findIn K (.ref cP) "listed" = some (some (.ref fPairs_listed)))
    (i_Pairs_listed : PySem.W.isFn K (.ref fPairs_listed) = true)
    (l_Pairs_listed : K.lookup fPairs_listed = some ⟨ocPairs_listed, odPairs_listed, .func (PySem.W.fnOf "listed" "Pairs.listed" (defArgs s_Pairs_listed) (defBody s_Pairs_listed) (defScope s_Pairs_listed) .none kVPairs_listed dcPairs_listed pmPairs_listed anPairs_listed cdPairs_listed ctPairs_listed), slPairs_listed⟩)
    (c_Pairs_listed : PySem.W.codeIn K cdPairs_listed "Pairs.listed" = true)
    (k_Pairs_listed_ : PySem.W.keepIn K (.ref fPairs_listed) = true)
    (a_common_many : PySem.W.nsIn K mainGlobals "common_many" = some (some (.ref fcommon_many)))
    (l_common_many : K.lookup fcommon_many = some ⟨occommon_many, odcommon_many, .func (PySem.W.fnOf "common_many" "common_many" (defArgs s_common_many) (defBody s_common_many) (defScope s_common_many) .none kVcommon_many dccommon_many pmcommon_many ancommon_many cdcommon_many ctcommon_many), slcommon_many⟩)
    (c_common_many : PySem.W.codeIn K cdcommon_many "common_many" = true)
    (k_common_many_ : PySem.W.keepIn K (.ref fcommon_many) = true)
    (a_common : PySem.W.nsIn K mainGlobals "common" = some (some (.ref fcommon)))
    (l_common : K.lookup fcommon = some ⟨occommon, odcommon, .func (PySem.W.fnOf "common" "common" (defArgs s_common) (defBody s_common) (defScope s_common) .none kVcommon dccommon pmcommon ancommon cdcommon ctcommon), slcommon⟩)
    (c_common : PySem.W.codeIn K cdcommon "common" = true)
    (k_common_ : PySem.W.keepIn K (.ref fcommon) = true)
    (a_check_words : PySem.W.nsIn K mainGlobals "check_words" = some (some (.ref fcheck_words)))
    (l_check_words : K.lookup fcheck_words = some ⟨occheck_words, odcheck_words, .func (PySem.W.fnOf "check_words" "check_words" (defArgs s_check_words) (defBody s_check_words) (defScope s_check_words) .none kVcheck_words dccheck_words pmcheck_words ancheck_words cdcheck_words ctcheck_words), slcheck_words⟩)
    (c_check_words : PySem.W.codeIn K cdcheck_words "check_words" = true)
    (k_check_words_ : PySem.W.keepIn K (.ref fcheck_words) = true)
    (a_better : PySem.W.nsIn K mainGlobals "better" = some (some (.ref fbetter)))
    (l_better : K.lookup fbetter = some ⟨ocbetter, odbetter, .func (PySem.W.fnOf "better" "better" (defArgs s_better) (defBody s_better) (defScope s_better) .none kVbetter dcbetter pmbetter anbetter cdbetter ctbetter), slbetter⟩)
    (c_better : PySem.W.codeIn K cdbetter "better" = true)
    (k_better_ : PySem.W.keepIn K (.ref fbetter) = true)
    (a_shorter : PySem.W.nsIn K mainGlobals "shorter" = some (some (.ref fshorter)))
    (l_shorter : K.lookup fshorter = some ⟨ocshorter, odshorter, .func (PySem.W.fnOf "shorter" "shorter" (defArgs s_shorter) (defBody s_shorter) (defScope s_shorter) .none kVshorter dcshorter pmshorter anshorter cdshorter ctshorter), slshorter⟩)
    (c_shorter : PySem.W.codeIn K cdshorter "shorter" = true)
    (k_shorter_ : PySem.W.keepIn K (.ref fshorter) = true)
    (a_longest_from : PySem.W.nsIn K mainGlobals "longest_from" = some (some (.ref flongest_from)))
    (l_longest_from : K.lookup flongest_from = some ⟨oclongest_from, odlongest_from, .func (PySem.W.fnOf "longest_from" "longest_from" (defArgs s_longest_from) (defBody s_longest_from) (defScope s_longest_from) .none kVlongest_from dclongest_from pmlongest_from anlongest_from cdlongest_from ctlongest_from), sllongest_from⟩)
    (c_longest_from : PySem.W.codeIn K cdlongest_from "longest_from" = true)
    (k_longest_from_ : PySem.W.keepIn K (.ref flongest_from) = true)
    (a_longest_common : PySem.W.nsIn K mainGlobals "longest_common" = some (some (.ref flongest_common)))
    (l_longest_common : K.lookup flongest_common = some ⟨oclongest_common, odlongest_common, .func (PySem.W.fnOf "longest_common" "longest_common" (defArgs s_longest_common) (defBody s_longest_common) (defScope s_longest_common) .none kVlongest_common dclongest_common pmlongest_common anlongest_common cdlongest_common ctlongest_common), sllongest_common⟩)
    (c_longest_common : PySem.W.codeIn K cdlongest_common "longest_common" = true)
    (k_longest_common_ : PySem.W.keepIn K (.ref flongest_common) = true)
    (a_shortest_from : PySem.W.nsIn K mainGlobals "shortest_from" = some (some (.ref fshortest_from)))
    (l_shortest_from : K.lookup fshortest_from = some ⟨ocshortest_from, odshortest_from, .func (PySem.W.fnOf "shortest_from" "shortest_from" (defArgs s_shortest_from) (defBody s_shortest_from) (defScope s_shortest_from) .none kVshortest_from dcshortest_from pmshortest_from anshortest_from cdshortest_from ctshortest_from), slshortest_from⟩)
    (c_shortest_from : PySem.W.codeIn K cdshortest_from "shortest_from" = true)
    (k_shortest_from_ : PySem.W.keepIn K (.ref fshortest_from) = true)
    (a_shortest_over : PySem.W.nsIn K mainGlobals "shortest_over" = some (some (.ref fshortest_over)))
    (l_shortest_over : K.lookup fshortest_over = some ⟨ocshortest_over, odshortest_over, .func (PySem.W.fnOf "shortest_over" "shortest_over" (defArgs s_shortest_over) (defBody s_shortest_over) (defScope s_shortest_over) .none kVshortest_over dcshortest_over pmshortest_over anshortest_over cdshortest_over ctshortest_over), slshortest_over⟩)
    (c_shortest_over : PySem.W.codeIn K cdshortest_over "shortest_over" = true)
    (k_shortest_over_ : PySem.W.keepIn K (.ref fshortest_over) = true)
    (a_law_hand : PySem.W.nsIn K mainGlobals "_law_hand" = some (some (.ref flaw_hand)))
    (l_law_hand : K.lookup flaw_hand = some ⟨oclaw_hand, odlaw_hand, .func (PySem.W.fnOf "_law_hand" "_law_hand" (defArgs s_law_hand) (defBody s_law_hand) (defScope s_law_hand) .none kVlaw_hand dclaw_hand pmlaw_hand anlaw_hand cdlaw_hand ctlaw_hand), sllaw_hand⟩)
    (c_law_hand : PySem.W.codeIn K cdlaw_hand "_law_hand" = true)
    (k_law_hand_ : PySem.W.keepIn K (.ref flaw_hand) = true)
    (a_law_draw : PySem.W.nsIn K mainGlobals "_law_draw" = some (some (.ref flaw_draw)))
    (l_law_draw : K.lookup flaw_draw = some ⟨oclaw_draw, odlaw_draw, .func (PySem.W.fnOf "_law_draw" "_law_draw" (defArgs s_law_draw) (defBody s_law_draw) (defScope s_law_draw) .none kVlaw_draw dclaw_draw pmlaw_draw anlaw_draw cdlaw_draw ctlaw_draw), sllaw_draw⟩)
    (c_law_draw : PySem.W.codeIn K cdlaw_draw "_law_draw" = true)
    (k_law_draw_ : PySem.W.keepIn K (.ref flaw_draw) = true)
    (a_law_some : PySem.W.nsIn K mainGlobals "_law_some" = some (some (.ref flaw_some)))
    (l_law_some : K.lookup flaw_some = some ⟨oclaw_some, odlaw_some, .func (PySem.W.fnOf "_law_some" "_law_some" (defArgs s_law_some) (defBody s_law_some) (defScope s_law_some) .none kVlaw_some dclaw_some pmlaw_some anlaw_some cdlaw_some ctlaw_some), sllaw_some⟩)
    (c_law_some : PySem.W.codeIn K cdlaw_some "_law_some" = true)
    (k_law_some_ : PySem.W.keepIn K (.ref flaw_some) = true)
    (a_law_row : PySem.W.nsIn K mainGlobals "_law_row" = some (some (.ref flaw_row)))
    (l_law_row : K.lookup flaw_row = some ⟨oclaw_row, odlaw_row, .func (PySem.W.fnOf "_law_row" "_law_row" (defArgs s_law_row) (defBody s_law_row) (defScope s_law_row) .none kVlaw_row dclaw_row pmlaw_row anlaw_row cdlaw_row ctlaw_row), sllaw_row⟩)
    (c_law_row : PySem.W.codeIn K cdlaw_row "_law_row" = true)
    (k_law_row_ : PySem.W.keepIn K (.ref flaw_row) = true)
    (a_law_is : PySem.W.nsIn K mainGlobals "_law_is" = some (some (.ref flaw_is)))
    (l_law_is : K.lookup flaw_is = some ⟨oclaw_is, odlaw_is, .func (PySem.W.fnOf "_law_is" "_law_is" (defArgs s_law_is) (defBody s_law_is) (defScope s_law_is) .none kVlaw_is dclaw_is pmlaw_is anlaw_is cdlaw_is ctlaw_is), sllaw_is⟩)
    (c_law_is : PySem.W.codeIn K cdlaw_is "_law_is" = true)
    (k_law_is_ : PySem.W.keepIn K (.ref flaw_is) = true)
    (a_law_word : PySem.W.nsIn K mainGlobals "_law_word" = some (some (.ref flaw_word)))
    (l_law_word : K.lookup flaw_word = some ⟨oclaw_word, odlaw_word, .func (PySem.W.fnOf "_law_word" "_law_word" (defArgs s_law_word) (defBody s_law_word) (defScope s_law_word) .none kVlaw_word dclaw_word pmlaw_word anlaw_word cdlaw_word ctlaw_word), sllaw_word⟩)
    (c_law_word : PySem.W.codeIn K cdlaw_word "_law_word" = true)
    (k_law_word_ : PySem.W.keepIn K (.ref flaw_word) = true)
    (a_law_thins : PySem.W.nsIn K mainGlobals "_law_thins" = some (some (.ref flaw_thins)))
    (l_law_thins : K.lookup flaw_thins = some ⟨oclaw_thins, odlaw_thins, .func (PySem.W.fnOf "_law_thins" "_law_thins" (defArgs s_law_thins) (defBody s_law_thins) (defScope s_law_thins) .none kVlaw_thins dclaw_thins pmlaw_thins anlaw_thins cdlaw_thins ctlaw_thins), sllaw_thins⟩)
    (c_law_thins : PySem.W.codeIn K cdlaw_thins "_law_thins" = true)
    (k_law_thins_ : PySem.W.keepIn K (.ref flaw_thins) = true)
    (a_law_rows : PySem.W.nsIn K mainGlobals "_law_rows" = some (some (.ref flaw_rows)))
    (l_law_rows : K.lookup flaw_rows = some ⟨oclaw_rows, odlaw_rows, .func (PySem.W.fnOf "_law_rows" "_law_rows" (defArgs s_law_rows) (defBody s_law_rows) (defScope s_law_rows) .none kVlaw_rows dclaw_rows pmlaw_rows anlaw_rows cdlaw_rows ctlaw_rows), sllaw_rows⟩)
    (c_law_rows : PySem.W.codeIn K cdlaw_rows "_law_rows" = true)
    (k_law_rows_ : PySem.W.keepIn K (.ref flaw_rows) = true)
    (a_law_deep : PySem.W.nsIn K mainGlobals "_law_deep" = some (some (.ref flaw_deep)))
    (l_law_deep : K.lookup flaw_deep = some ⟨oclaw_deep, odlaw_deep, .func (PySem.W.fnOf "_law_deep" "_law_deep" (defArgs s_law_deep) (defBody s_law_deep) (defScope s_law_deep) .none kVlaw_deep dclaw_deep pmlaw_deep anlaw_deep cdlaw_deep ctlaw_deep), sllaw_deep⟩)
    (c_law_deep : PySem.W.codeIn K cdlaw_deep "_law_deep" = true)
    (k_law_deep_ : PySem.W.keepIn K (.ref flaw_deep) = true)
    (a_law_odd_row : PySem.W.nsIn K mainGlobals "_law_odd_row" = some (some (.ref flaw_odd_row)))
    (l_law_odd_row : K.lookup flaw_odd_row = some ⟨oclaw_odd_row, odlaw_odd_row, .func (PySem.W.fnOf "_law_odd_row" "_law_odd_row" (defArgs s_law_odd_row) (defBody s_law_odd_row) (defScope s_law_odd_row) .none kVlaw_odd_row dclaw_odd_row pmlaw_odd_row anlaw_odd_row cdlaw_odd_row ctlaw_odd_row), sllaw_odd_row⟩)
    (c_law_odd_row : PySem.W.codeIn K cdlaw_odd_row "_law_odd_row" = true)
    (k_law_odd_row_ : PySem.W.keepIn K (.ref flaw_odd_row) = true)
    (a_law_longest : PySem.W.nsIn K mainGlobals "_law_longest" = some (some (.ref flaw_longest)))
    (l_law_longest : K.lookup flaw_longest = some ⟨oclaw_longest, odlaw_longest, .func (PySem.W.fnOf "_law_longest" "_law_longest" (defArgs s_law_longest) (defBody s_law_longest) (defScope s_law_longest) .none kVlaw_longest dclaw_longest pmlaw_longest anlaw_longest cdlaw_longest ctlaw_longest), sllaw_longest⟩)
    (c_law_longest : PySem.W.codeIn K cdlaw_longest "_law_longest" = true)
    (k_law_longest_ : PySem.W.keepIn K (.ref flaw_longest) = true)
    (a_law_keep : PySem.W.nsIn K mainGlobals "_law_keep" = some (some (.ref flaw_keep)))
    (l_law_keep : K.lookup flaw_keep = some ⟨oclaw_keep, odlaw_keep, .func (PySem.W.fnOf "_law_keep" "_law_keep" (defArgs s_law_keep) (defBody s_law_keep) (defScope s_law_keep) .none kVlaw_keep dclaw_keep pmlaw_keep anlaw_keep cdlaw_keep ctlaw_keep), sllaw_keep⟩)
    (c_law_keep : PySem.W.codeIn K cdlaw_keep "_law_keep" = true)
    (k_law_keep_ : PySem.W.keepIn K (.ref flaw_keep) = true)
    (a_law_shortest : PySem.W.nsIn K mainGlobals "_law_shortest" = some (some (.ref flaw_shortest)))
    (l_law_shortest : K.lookup flaw_shortest = some ⟨oclaw_shortest, odlaw_shortest, .func (PySem.W.fnOf "_law_shortest" "_law_shortest" (defArgs s_law_shortest) (defBody s_law_shortest) (defScope s_law_shortest) .none kVlaw_shortest dclaw_shortest pmlaw_shortest anlaw_shortest cdlaw_shortest ctlaw_shortest), sllaw_shortest⟩)
    (c_law_shortest : PySem.W.codeIn K cdlaw_shortest "_law_shortest" = true)
    (k_law_shortest_ : PySem.W.keepIn K (.ref flaw_shortest) = true)
    (a_law_lengths : PySem.W.nsIn K mainGlobals "_law_lengths" = some (some (.ref flaw_lengths)))
    (l_law_lengths : K.lookup flaw_lengths = some ⟨oclaw_lengths, odlaw_lengths, .func (PySem.W.fnOf "_law_lengths" "_law_lengths" (defArgs s_law_lengths) (defBody s_law_lengths) (defScope s_law_lengths) .none kVlaw_lengths dclaw_lengths pmlaw_lengths anlaw_lengths cdlaw_lengths ctlaw_lengths), sllaw_lengths⟩)
    (c_law_lengths : PySem.W.codeIn K cdlaw_lengths "_law_lengths" = true)
    (k_law_lengths_ : PySem.W.keepIn K (.ref flaw_lengths) = true)
    (a_law_asked : PySem.W.nsIn K mainGlobals "_law_asked" = some (some (.ref flaw_asked)))
    (l_law_asked : K.lookup flaw_asked = some ⟨oclaw_asked, odlaw_asked, .func (PySem.W.fnOf "_law_asked" "_law_asked" (defArgs s_law_asked) (defBody s_law_asked) (defScope s_law_asked) .none kVlaw_asked dclaw_asked pmlaw_asked anlaw_asked cdlaw_asked ctlaw_asked), sllaw_asked⟩)
    (c_law_asked : PySem.W.codeIn K cdlaw_asked "_law_asked" = true)
    (k_law_asked_ : PySem.W.keepIn K (.ref flaw_asked) = true)
    (a_law_word_of : PySem.W.nsIn K mainGlobals "_law_word_of" = some (some (.ref flaw_word_of)))
    (l_law_word_of : K.lookup flaw_word_of = some ⟨oclaw_word_of, odlaw_word_of, .func (PySem.W.fnOf "_law_word_of" "_law_word_of" (defArgs s_law_word_of) (defBody s_law_word_of) (defScope s_law_word_of) .none kVlaw_word_of dclaw_word_of pmlaw_word_of anlaw_word_of cdlaw_word_of ctlaw_word_of), sllaw_word_of⟩)
    (c_law_word_of : PySem.W.codeIn K cdlaw_word_of "_law_word_of" = true)
    (k_law_word_of_ : PySem.W.keepIn K (.ref flaw_word_of) = true)
    (a_law_small_right : PySem.W.nsIn K mainGlobals "_law_small_right" = some (some (.ref flaw_small_right)))
    (l_law_small_right : K.lookup flaw_small_right = some ⟨oclaw_small_right, odlaw_small_right, .func (PySem.W.fnOf "_law_small_right" "_law_small_right" (defArgs s_law_small_right) (defBody s_law_small_right) (defScope s_law_small_right) .none kVlaw_small_right dclaw_small_right pmlaw_small_right anlaw_small_right cdlaw_small_right ctlaw_small_right), sllaw_small_right⟩)
    (c_law_small_right : PySem.W.codeIn K cdlaw_small_right "_law_small_right" = true)
    (k_law_small_right_ : PySem.W.keepIn K (.ref flaw_small_right) = true)
    (a_law_long_right : PySem.W.nsIn K mainGlobals "_law_long_right" = some (some (.ref flaw_long_right)))
    (l_law_long_right : K.lookup flaw_long_right = some ⟨oclaw_long_right, odlaw_long_right, .func (PySem.W.fnOf "_law_long_right" "_law_long_right" (defArgs s_law_long_right) (defBody s_law_long_right) (defScope s_law_long_right) .none kVlaw_long_right dclaw_long_right pmlaw_long_right anlaw_long_right cdlaw_long_right ctlaw_long_right), sllaw_long_right⟩)
    (c_law_long_right : PySem.W.codeIn K cdlaw_long_right "_law_long_right" = true)
    (k_law_long_right_ : PySem.W.keepIn K (.ref flaw_long_right) = true)
    (a_law_refused_right : PySem.W.nsIn K mainGlobals "_law_refused_right" = some (some (.ref flaw_refused_right)))
    (l_law_refused_right : K.lookup flaw_refused_right = some ⟨oclaw_refused_right, odlaw_refused_right, .func (PySem.W.fnOf "_law_refused_right" "_law_refused_right" (defArgs s_law_refused_right) (defBody s_law_refused_right) (defScope s_law_refused_right) .none kVlaw_refused_right dclaw_refused_right pmlaw_refused_right anlaw_refused_right cdlaw_refused_right ctlaw_refused_right), sllaw_refused_right⟩)
    (c_law_refused_right : PySem.W.codeIn K cdlaw_refused_right "_law_refused_right" = true)
    (k_law_refused_right_ : PySem.W.keepIn K (.ref flaw_refused_right) = true)
    (a_law : PySem.W.nsIn K mainGlobals "law" = some (some (.ref flaw)))
    (l_law : K.lookup flaw = some ⟨oclaw, odlaw, .func (PySem.W.fnOf "law" "law" (defArgs s_law) (defBody s_law) (defScope s_law) .none kVlaw dclaw pmlaw anlaw cdlaw ctlaw), sllaw⟩)
    (c_law : PySem.W.codeIn K cdlaw "law" = true)
    (k_law_ : PySem.W.keepIn K (.ref flaw) = true) :
    ∃ fd : FuncData, (∀ (s : Shared) (v : Value), BindsTo s fd ⟨[v], []⟩ [("_law_script", v)]) ∧ ∀ base : Heap, K.In base → base.Ns mainGlobals mg → FnOk PySem.Challenge.pw_flyovers_k63_whole_common_words w K mg base CX0 20 fa fd ["_law_script"] (spLaw K) := by
  have e := hfa.symm.trans (PySem.W.mg_of X G a_law)
  cases e
  have B : Bn mg := ⟨PySem.W.mg_none_of X G z_len, PySem.W.mg_none_of X G z_range, PySem.W.mg_none_of X G z_isinstance, PySem.W.mg_none_of X G z_int, PySem.W.mg_none_of X G z_bool, PySem.W.mg_none_of X G z_tuple, PySem.W.mg_none_of X G z_list, PySem.W.mg_none_of X G z_all, PySem.W.mg_none_of X G z_zip, PySem.W.mg_none_of X G z_sum, PySem.W.mg_none_of X G z_max, PySem.W.mg_none_of X G z_min, PySem.W.mg_none_of X G z_sorted, PySem.W.mg_none_of X G z_set, PySem.W.mg_none_of X G z_abs, PySem.W.mg_none_of X G z_str⟩
  have G5 : Gn mg := ⟨⟨_, PySem.W.mg_of X G g_MOST_LETTERS⟩, ⟨_, PySem.W.mg_of X G g_MOST_LANES⟩, ⟨_, PySem.W.mg_of X G g_MOST_ROWS⟩, ⟨_, PySem.W.mg_of X G g_MOST_LISTED⟩, ⟨_, PySem.W.mg_of X G g_MOST_WORD⟩⟩
  have C : Er K mg cR cN := ⟨⟨x_cR, PySem.W.mg_of X G aR, kp_cR, be_cR, ty_cR⟩, ⟨x_cN, PySem.W.mg_of X G aN, kp_cN, be_cN, ty_cN⟩⟩
  have TT : TmTxt PySem.Challenge.pw_flyovers_k63_whole_common_words K mg cT fT _ := { cls := ⟨⟨_, _, _, _, _, _, _, _, _, _, _, _, _, _, _, xT, rT⟩, saT, be_cT, ty_cT, kp_cT⟩, nm := PySem.W.mg_of X G aT, iC := iT, tI := tiT, lk := ⟨_, _, _, _, _, _, _, _, _, _, _, _, _, _, _, _, _, _, _, rfl, lT, cT_, ldT, v2T, fiT, lcT⟩, sup := PySem.W.mg_none_of X G z_super, top_ := by decide +kernel, any_ := anyT, sin := siT, sub := suT, mro := mrT, noM := noT }
  have bT : Binds K (PySem.W.ksFn "__init__" "TooMany.__init__" (defArgs s_TM) (defBody s_TM) (defScope s_TM) .none kVT dcT pmT anT (.ref cdT) ctT ccT) ["self", "most"] [] := Binds.all fun us hl => match us, hl with | [_, _], _ => rfl
  have iso : ∀ {c : Addr}, PySem.W.hasDictIn K c = true → (PySem.W.clsIn K c).isSome = true := fun {c} q => by
    unfold PySem.W.hasDictIn at q
    cases z : PySem.W.clsIn K c with
    | none => rw [z] at q; cases q
    | some cd => rfl
  have one : ∀ {a b : Addr} {v : Bool}, PySem.W.hasDictIn K b = true → PySem.W.typeIn K (.ref b) = some (.type "type") → PySem.W.subIn K (.ref a) (.ref b) = some v → ((Value.ref a == Value.ref b) = true → v = true) → PySem.W.kitOne K (.ref a) (.ref b) = some v := fun {a b v} h1 h2 h3 h4 => by
    unfold PySem.W.kitOne
    by_cases c : (Value.ref a == Value.ref b) = true
    · rw [if_pos c, h4 c]
    · rw [if_neg c]
      show (if ((PySem.W.clsIn K b).isSome && PySem.W.typeIn K (.ref b) == some (.type "type")) = true then PySem.W.subIn K (.ref a) (.ref b) else none) = some v
      rw [if_pos (by rw [iso h1, h2]; rfl)]
      exact h3
  have kRR : PySem.W.kitOne K (.ref cR) (.ref cR) = some true := if_pos (by simp)
  have kNN : PySem.W.kitOne K (.ref cN) (.ref cN) = some true := if_pos (by simp)
  have Z : CatchK K mg cR cN cT cL := { nm := PySem.W.mg_of X G aL, tT := PySem.W.exm_ref be_cT hd_cT ty_cT s_cT_cT, rT := PySem.W.exm_ref be_cT hd_cT ty_cT s_cR_cT, nT := PySem.W.exm_ref be_cT hd_cT ty_cT s_cN_cT, rL := PySem.W.exm_ref be_cL hd_cL ty_cL s_cR_cL, nL := PySem.W.exm_ref be_cL hd_cL ty_cL s_cN_cL, eR := ⟨ga_cR, gg_cR, be_cR, hd_cR, cc_cR, sp_get, tk_cls, mo_cR⟩, eN := ⟨ga_cN, gg_cN, be_cN, hd_cN, cc_cN, sp_get, tk_cls, mo_cN⟩, kRR := kRR, kNR := one hd_cR ty_cR s_cN_cR (fun z => absurd z neNR), kNN := kNN, xT := ⟨ga_cT, gg_cT, be_cT, hd_cT⟩ }
  have PC : PrC K cP := ⟨⟨pgP, hdP, poP, saP⟩, nWP, nKP⟩
  have F_is_integer := fun_mk (st := s_is_integer) l_is_integer c_is_integer k_is_integer_
  have b_is_integer := F_is_integer.binds (ps := ["thing"]) fun _ _ _ _ _ _ us hl => match us, hl with | [_], _ => rfl
  have n_is_integer := PySem.W.mg_of X G a_is_integer
  have F_is_between := fun_mk (st := s_is_between) l_is_between c_is_between k_is_between_
  have b_is_between := F_is_between.binds (ps := ["thing", "least", "most"]) fun _ _ _ _ _ _ us hl => match us, hl with | [_, _, _], _ => rfl
  have n_is_between := PySem.W.mg_of X G a_is_between
  have F_is_index := fun_mk (st := s_is_index) l_is_index c_is_index k_is_index_
  have b_is_index := F_is_index.binds (ps := ["thing", "many"]) fun _ _ _ _ _ _ us hl => match us, hl with | [_, _], _ => rfl
  have n_is_index := PySem.W.mg_of X G a_is_index
  have F_check_number := fun_mk (st := s_check_number) l_check_number c_check_number k_check_number_
  have b_check_number := F_check_number.binds (ps := ["thing", "least", "most"]) fun _ _ _ _ _ _ us hl => match us, hl with | [_, _, _], _ => rfl
  have n_check_number := PySem.W.mg_of X G a_check_number
  have F_is_row := fun_mk (st := s_is_row) l_is_row c_is_row k_is_row_
  have b_is_row := F_is_row.binds (ps := ["thing"]) fun _ _ _ _ _ _ us hl => match us, hl with | [_], _ => rfl
  have n_is_row := PySem.W.mg_of X G a_is_row
  have F_check_row := fun_mk (st := s_check_row) l_check_row c_check_row k_check_row_
  have b_check_row := F_check_row.binds (ps := ["thing"]) fun _ _ _ _ _ _ us hl => match us, hl with | [_], _ => rfl
  have n_check_row := PySem.W.mg_of X G a_check_row
  have F_check_both := fun_mk (st := s_check_both) l_check_both c_check_both k_check_both_
  have b_check_both := F_check_both.binds (ps := ["row", "out"]) fun _ _ _ _ _ _ us hl => match us, hl with | [_, _], _ => rfl
  have n_check_both := PySem.W.mg_of X G a_check_both
  have F_next_place := fun_mk (st := s_next_place) l_next_place c_next_place k_next_place_
  have b_next_place := F_next_place.binds (ps := ["row", "first", "letter"]) fun _ _ _ _ _ _ us hl => match us, hl with | [_, _, _], _ => rfl
  have n_next_place := PySem.W.mg_of X G a_next_place
  have F_way_of := fun_mk (st := s_way_of) l_way_of c_way_of k_way_of_
  have b_way_of := F_way_of.binds (ps := ["row", "out"]) fun _ _ _ _ _ _ us hl => match us, hl with | [_, _], _ => rfl
  have n_way_of := PySem.W.mg_of X G a_way_of
  have F_is_thinning := fun_mk (st := s_is_thinning) l_is_thinning c_is_thinning k_is_thinning_
  have b_is_thinning := F_is_thinning.binds (ps := ["row", "out"]) fun _ _ _ _ _ _ us hl => match us, hl with | [_, _], _ => rfl
  have n_is_thinning := PySem.W.mg_of X G a_is_thinning
  have F_word_of := fun_mk (st := s_word_of) l_word_of c_word_of k_word_of_
  have b_word_of := F_word_of.binds (ps := ["row"]) fun _ _ _ _ _ _ us hl => match us, hl with | [_], _ => rfl
  have n_word_of := PySem.W.mg_of X G a_word_of
  have F_Pairs_init := fun_mk (st := s_Pairs_init) l_Pairs_init c_Pairs_init k_Pairs_init_
  have b_Pairs_init := F_Pairs_init.binds (ps := ["self", "row", "other"]) fun _ _ _ _ _ _ us hl => match us, hl with | [_, _, _], _ => rfl
  have F_Pairs_goes_on := fun_mk (st := s_Pairs_goes_on) l_Pairs_goes_on c_Pairs_goes_on k_Pairs_goes_on_
  have b_Pairs_goes_on := F_Pairs_goes_on.binds (ps := ["self", "places"]) fun _ _ _ _ _ _ us hl => match us, hl with | [_, _], _ => rfl
  have F_Pairs_many := fun_mk (st := s_Pairs_many) l_Pairs_many c_Pairs_many k_Pairs_many_
  have b_Pairs_many := F_Pairs_many.binds (ps := ["self", "lanes", "places"]) fun _ _ _ _ _ _ us hl => match us, hl with | [_, _, _], _ => rfl
  have F_Pairs_listed := fun_mk (st := s_Pairs_listed) l_Pairs_listed c_Pairs_listed k_Pairs_listed_
  have b_Pairs_listed := F_Pairs_listed.binds (ps := ["self", "lanes"]) fun _ _ _ _ _ _ us hl => match us, hl with | [_, _], _ => rfl
  have F_common_many := fun_mk (st := s_common_many) l_common_many c_common_many k_common_many_
  have b_common_many := F_common_many.binds (ps := ["row", "other", "lanes"]) fun _ _ _ _ _ _ us hl => match us, hl with | [_, _, _], _ => rfl
  have n_common_many := PySem.W.mg_of X G a_common_many
  have F_common := fun_mk (st := s_common) l_common c_common k_common_
  have b_common := F_common.binds (ps := ["row", "other", "lanes"]) fun _ _ _ _ _ _ us hl => match us, hl with | [_, _, _], _ => rfl
  have n_common := PySem.W.mg_of X G a_common
  have F_check_words := fun_mk (st := s_check_words) l_check_words c_check_words k_check_words_
  have b_check_words := F_check_words.binds (ps := ["row", "other"]) fun _ _ _ _ _ _ us hl => match us, hl with | [_, _], _ => rfl
  have n_check_words := PySem.W.mg_of X G a_check_words
  have F_better := fun_mk (st := s_better) l_better c_better k_better_
  have b_better := F_better.binds (ps := ["one", "other"]) fun _ _ _ _ _ _ us hl => match us, hl with | [_, _], _ => rfl
  have n_better := PySem.W.mg_of X G a_better
  have F_shorter := fun_mk (st := s_shorter) l_shorter c_shorter k_shorter_
  have b_shorter := F_shorter.binds (ps := ["one", "other"]) fun _ _ _ _ _ _ us hl => match us, hl with | [_, _], _ => rfl
  have n_shorter := PySem.W.mg_of X G a_shorter
  have F_longest_from := fun_mk (st := s_longest_from) l_longest_from c_longest_from k_longest_from_
  have b_longest_from := F_longest_from.binds (ps := ["found", "one", "two", "at", "there"]) fun _ _ _ _ _ _ us hl => match us, hl with | [_, _, _, _, _], _ => rfl
  have n_longest_from := PySem.W.mg_of X G a_longest_from
  have F_longest_common := fun_mk (st := s_longest_common) l_longest_common c_longest_common k_longest_common_
  have b_longest_common := F_longest_common.binds (ps := ["row", "other"]) fun _ _ _ _ _ _ us hl => match us, hl with | [_, _], _ => rfl
  have n_longest_common := PySem.W.mg_of X G a_longest_common
  have F_shortest_from := fun_mk (st := s_shortest_from) l_shortest_from c_shortest_from k_shortest_from_
  have b_shortest_from := F_shortest_from.binds (ps := ["found", "one", "two", "at", "there"]) fun _ _ _ _ _ _ us hl => match us, hl with | [_, _, _, _, _], _ => rfl
  have n_shortest_from := PySem.W.mg_of X G a_shortest_from
  have F_shortest_over := fun_mk (st := s_shortest_over) l_shortest_over c_shortest_over k_shortest_over_
  have b_shortest_over := F_shortest_over.binds (ps := ["row", "other"]) fun _ _ _ _ _ _ us hl => match us, hl with | [_, _], _ => rfl
  have n_shortest_over := PySem.W.mg_of X G a_shortest_over
  have F_law_hand := fun_mk (st := s_law_hand) l_law_hand c_law_hand k_law_hand_
  have b_law_hand := F_law_hand.binds (ps := ["_law_script"]) fun _ _ _ _ _ _ us hl => match us, hl with | [_], _ => rfl
  have n_law_hand := PySem.W.mg_of X G a_law_hand
  have F_law_draw := fun_mk (st := s_law_draw) l_law_draw c_law_draw k_law_draw_
  have b_law_draw := F_law_draw.binds (ps := ["_law_hand_here", "_law_many"]) fun _ _ _ _ _ _ us hl => match us, hl with | [_, _], _ => rfl
  have n_law_draw := PySem.W.mg_of X G a_law_draw
  have F_law_some := fun_mk (st := s_law_some) l_law_some c_law_some k_law_some_
  have b_law_some := F_law_some.binds (ps := ["_law_hand_here", "_law_things"]) fun _ _ _ _ _ _ us hl => match us, hl with | [_, _], _ => rfl
  have n_law_some := PySem.W.mg_of X G a_law_some
  have F_law_row := fun_mk (st := s_law_row) l_law_row c_law_row k_law_row_
  have b_law_row := F_law_row.binds (ps := ["_law_hand_here", "_law_letters", "_law_most"]) fun _ _ _ _ _ _ us hl => match us, hl with | [_, _, _], _ => rfl
  have n_law_row := PySem.W.mg_of X G a_law_row
  have F_law_is := fun_mk (st := s_law_is) l_law_is c_law_is k_law_is_
  have b_law_is := F_law_is.binds (ps := ["_law_told", "_law_due"]) fun _ _ _ _ _ _ us hl => match us, hl with | [_, _], _ => rfl
  have n_law_is := PySem.W.mg_of X G a_law_is
  have F_law_word := fun_mk (st := s_law_word) l_law_word c_law_word k_law_word_
  have b_law_word := F_law_word.binds (ps := ["_law_row_here"]) fun _ _ _ _ _ _ us hl => match us, hl with | [_], _ => rfl
  have n_law_word := PySem.W.mg_of X G a_law_word
  have F_law_thins := fun_mk (st := s_law_thins) l_law_thins c_law_thins k_law_thins_
  have b_law_thins := F_law_thins.binds (ps := ["_law_row_here", "_law_out"]) fun _ _ _ _ _ _ us hl => match us, hl with | [_, _], _ => rfl
  have n_law_thins := PySem.W.mg_of X G a_law_thins
  have F_law_rows := fun_mk (st := s_law_rows) l_law_rows c_law_rows k_law_rows_
  have b_law_rows := F_law_rows.binds (ps := ["_law_letters", "_law_lanes"]) fun _ _ _ _ _ _ us hl => match us, hl with | [_, _], _ => rfl
  have n_law_rows := PySem.W.mg_of X G a_law_rows
  have F_law_deep := fun_mk (st := s_law_deep) l_law_deep c_law_deep k_law_deep_
  have b_law_deep := F_law_deep.binds (ps := ["_law_kind"]) fun _ _ _ _ _ _ us hl => match us, hl with | [_], _ => rfl
  have n_law_deep := PySem.W.mg_of X G a_law_deep
  have F_law_odd_row := fun_mk (st := s_law_odd_row) l_law_odd_row c_law_odd_row k_law_odd_row_
  have b_law_odd_row := F_law_odd_row.binds (ps := ["_law_hand_here", "_law_row_here"]) fun _ _ _ _ _ _ us hl => match us, hl with | [_, _], _ => rfl
  have n_law_odd_row := PySem.W.mg_of X G a_law_odd_row
  have F_law_longest := fun_mk (st := s_law_longest) l_law_longest c_law_longest k_law_longest_
  have b_law_longest := F_law_longest.binds (ps := ["_law_row_here", "_law_other"]) fun _ _ _ _ _ _ us hl => match us, hl with | [_, _], _ => rfl
  have n_law_longest := PySem.W.mg_of X G a_law_longest
  have F_law_keep := fun_mk (st := s_law_keep) l_law_keep c_law_keep k_law_keep_
  have b_law_keep := F_law_keep.binds (ps := ["_law_found", "_law_key", "_law_made"]) fun _ _ _ _ _ _ us hl => match us, hl with | [_, _, _], _ => rfl
  have n_law_keep := PySem.W.mg_of X G a_law_keep
  have F_law_shortest := fun_mk (st := s_law_shortest) l_law_shortest c_law_shortest k_law_shortest_
  have b_law_shortest := F_law_shortest.binds (ps := ["_law_row_here", "_law_other"]) fun _ _ _ _ _ _ us hl => match us, hl with | [_, _], _ => rfl
  have n_law_shortest := PySem.W.mg_of X G a_law_shortest
  have F_law_lengths := fun_mk (st := s_law_lengths) l_law_lengths c_law_lengths k_law_lengths_
  have b_law_lengths := F_law_lengths.binds (ps := ["_law_row_here", "_law_other"]) fun _ _ _ _ _ _ us hl => match us, hl with | [_, _], _ => rfl
  have n_law_lengths := PySem.W.mg_of X G a_law_lengths
  have F_law_asked := fun_mk (st := s_law_asked) l_law_asked c_law_asked k_law_asked_
  have b_law_asked := F_law_asked.binds (ps := ["_law_kind", "_law_row_here", "_law_other", "_law_lanes"]) fun _ _ _ _ _ _ us hl => match us, hl with | [_, _, _, _], _ => rfl
  have n_law_asked := PySem.W.mg_of X G a_law_asked
  have F_law_word_of := fun_mk (st := s_law_word_of) l_law_word_of c_law_word_of k_law_word_of_
  have b_law_word_of := F_law_word_of.binds (ps := ["_law_kind", "_law_row_here", "_law_other", "_law_lanes"]) fun _ _ _ _ _ _ us hl => match us, hl with | [_, _, _, _], _ => rfl
  have n_law_word_of := PySem.W.mg_of X G a_law_word_of
  have F_law_small_right := fun_mk (st := s_law_small_right) l_law_small_right c_law_small_right k_law_small_right_
  have b_law_small_right := F_law_small_right.binds (ps := ["_law_hand_here"]) fun _ _ _ _ _ _ us hl => match us, hl with | [_], _ => rfl
  have n_law_small_right := PySem.W.mg_of X G a_law_small_right
  have F_law_long_right := fun_mk (st := s_law_long_right) l_law_long_right c_law_long_right k_law_long_right_
  have b_law_long_right := F_law_long_right.binds (ps := ["_law_hand_here"]) fun _ _ _ _ _ _ us hl => match us, hl with | [_], _ => rfl
  have n_law_long_right := PySem.W.mg_of X G a_law_long_right
  have F_law_refused_right := fun_mk (st := s_law_refused_right) l_law_refused_right c_law_refused_right k_law_refused_right_
  have b_law_refused_right := F_law_refused_right.binds (ps := ["_law_hand_here"]) fun _ _ _ _ _ _ us hl => match us, hl with | [_], _ => rfl
  have n_law_refused_right := PySem.W.mg_of X G a_law_refused_right
  have F_law := fun_mk (st := s_law) l_law c_law k_law_
  have b_law := F_law.binds (ps := ["_law_script"]) fun _ _ _ _ _ _ us hl => match us, hl with | [_], _ => rfl
  have n_law := PySem.W.mg_of X G a_law
  refine ⟨?fd, ?bb, fun base _ _ => ?kk⟩
  rotate_left 2
  have k_is_integer : Kn PySem.Challenge.pw_flyovers_k63_whole_common_words w K mg base CX0 1 "is_integer" ["thing"] (spIsInt K) _ _ := ⟨ok_is_integer F_is_integer B, n_is_integer, F_is_integer.kp, b_is_integer⟩
  have k_is_between : Kn PySem.Challenge.pw_flyovers_k63_whole_common_words w K mg base CX0 2 "is_between" ["thing", "least", "most"] (spBetween K) _ _ := ⟨ok_is_between F_is_between k_is_integer, n_is_between, F_is_between.kp, b_is_between⟩
  have k_is_index : Kn PySem.Challenge.pw_flyovers_k63_whole_common_words w K mg base CX0 3 "is_index" ["thing", "many"] (spIndex K) _ _ := ⟨ok_is_index F_is_index k_is_between, n_is_index, F_is_index.kp, b_is_index⟩
  have k_check_number : Kn PySem.Challenge.pw_flyovers_k63_whole_common_words w K mg base (L2.CX PySem.Challenge.pw_flyovers_k63_whole_common_words w) 3 "check_number" ["thing", "least", "most"] (spNumber K cN) _ _ := ⟨ok_check_number F_check_number C k_is_between, n_check_number, F_check_number.kp, b_check_number⟩
  have k_is_row : Kn PySem.Challenge.pw_flyovers_k63_whole_common_words w K mg base CX0 4 "is_row" ["thing"] (spIsRow K) _ _ := ⟨ok_is_row F_is_row B G5 k_is_index, n_is_row, F_is_row.kp, b_is_row⟩
  have k_check_row : Kn PySem.Challenge.pw_flyovers_k63_whole_common_words w K mg base (L2.CX PySem.Challenge.pw_flyovers_k63_whole_common_words w) 5 "check_row" ["thing"] (spCheckRow K cR) _ _ := ⟨ok_check_row F_check_row C k_is_row, n_check_row, F_check_row.kp, b_check_row⟩
  have k_check_both : Kn PySem.Challenge.pw_flyovers_k63_whole_common_words w K mg base (L2.CX PySem.Challenge.pw_flyovers_k63_whole_common_words w) 6 "check_both" ["row", "out"] (spCheckBoth K cR) _ _ := ⟨ok_check_both F_check_both k_check_row, n_check_both, F_check_both.kp, b_check_both⟩
  have k_next_place : Kn PySem.Challenge.pw_flyovers_k63_whole_common_words w K mg base CX0 1 "next_place" ["row", "first", "letter"] (spNext K) _ _ := ⟨ok_next_place F_next_place B, n_next_place, F_next_place.kp, b_next_place⟩
  have k_way_of : Kn PySem.Challenge.pw_flyovers_k63_whole_common_words w K mg base CX0 2 "way_of" ["row", "out"] (spWay K) _ _ := ⟨ok_way_of F_way_of B k_next_place, n_way_of, F_way_of.kp, b_way_of⟩
  have k_is_thinning : Kn PySem.Challenge.pw_flyovers_k63_whole_common_words w K mg base CX0 7 "is_thinning" ["row", "out"] (spThin K) _ _ := ⟨ok_is_thinning F_is_thinning k_check_both k_way_of, n_is_thinning, F_is_thinning.kp, b_is_thinning⟩
  have k_word_of : Kn PySem.Challenge.pw_flyovers_k63_whole_common_words w K mg base CX0 1 "word_of" ["row"] (spWordOf K) _ _ := ⟨ok_word_of F_word_of B, n_word_of, F_word_of.kp, b_word_of⟩
  have kPairs : KnC PySem.Challenge.pw_flyovers_k63_whole_common_words w K mg base 2 cP "Pairs" ["self", "row", "other"] (spPrInit K cP PySem.Challenge.pw_flyovers_k63_whole_common_words w) _ _ := ⟨ok_Pairs_init F_Pairs_init PC k_word_of, ⟨mkP, m_Pairs_init, i_Pairs_init, kcP⟩, PySem.W.mg_of X G aP, b_Pairs_init⟩
  have kgo : KnM PySem.Challenge.pw_flyovers_k63_whole_common_words w K mg base CX0 2 cP "goes_on" ["self", "places"] (spGo K cP) _ _ := ⟨ok_goes_on F_Pairs_goes_on B G5 PC k_next_place, ⟨m_Pairs_goes_on, i_Pairs_goes_on, k_Pairs_goes_on_⟩, b_Pairs_goes_on⟩
  have kmany : ∀ n : Nat, KnM PySem.Challenge.pw_flyovers_k63_whole_common_words w K mg base CX0 (n + 3) cP "many" ["self", "lanes", "places"] (spMany K cP PySem.Challenge.pw_flyovers_k63_whole_common_words w n) _ _ := fun n => ⟨ok_many F_Pairs_many B PC kgo ⟨m_Pairs_many, i_Pairs_many, k_Pairs_many_⟩ b_Pairs_many n, ⟨m_Pairs_many, i_Pairs_many, k_Pairs_many_⟩, b_Pairs_many⟩
  have klisted : KnM PySem.Challenge.pw_flyovers_k63_whole_common_words w K mg base CX0 3 cP "listed" ["self", "lanes"] (spListed K cP) _ _ := ⟨ok_listed F_Pairs_listed B PC kgo, ⟨m_Pairs_listed, i_Pairs_listed, k_Pairs_listed_⟩, b_Pairs_listed⟩
  have T : TmK PySem.Challenge.pw_flyovers_k63_whole_common_words w K mg base cT fT _ := ⟨TT, bT⟩
  have k_common_many : Kn PySem.Challenge.pw_flyovers_k63_whole_common_words w K mg base (L2.CX PySem.Challenge.pw_flyovers_k63_whole_common_words w) 16 "common_many" ["row", "other", "lanes"] (spCMany K cR cN) _ _ := ⟨ok_common_many F_common_many G5 PC k_check_both k_check_number kPairs kmany, n_common_many, F_common_many.kp, b_common_many⟩
  have k_common : Kn PySem.Challenge.pw_flyovers_k63_whole_common_words w K mg base (L2.CX PySem.Challenge.pw_flyovers_k63_whole_common_words w) 16 "common" ["row", "other", "lanes"] (spCommon K cR cN cT) _ _ := ⟨ok_common F_common G5 PC T k_check_both k_check_number kPairs kmany klisted, n_common, F_common.kp, b_common⟩
  have k_check_words : Kn PySem.Challenge.pw_flyovers_k63_whole_common_words w K mg base (L2.CX PySem.Challenge.pw_flyovers_k63_whole_common_words w) 7 "check_words" ["row", "other"] (spCWords K cR cT) _ _ := ⟨ok_check_words F_check_words B G5 T k_check_both k_word_of, n_check_words, F_check_words.kp, b_check_words⟩
  have k_better : Kn PySem.Challenge.pw_flyovers_k63_whole_common_words w K mg base CX0 2 "better" ["one", "other"] (spBetter K) _ _ := ⟨ok_better F_better B, n_better, F_better.kp, b_better⟩
  have k_shorter : Kn PySem.Challenge.pw_flyovers_k63_whole_common_words w K mg base CX0 2 "shorter" ["one", "other"] (spShorter K) _ _ := ⟨ok_shorter F_shorter B, n_shorter, F_shorter.kp, b_shorter⟩
  have k_longest_from : Kn PySem.Challenge.pw_flyovers_k63_whole_common_words w K mg base CX0 3 "longest_from" ["found", "one", "two", "at", "there"] (spLFrom K) _ _ := ⟨ok_longest_from F_longest_from B G5 k_next_place k_better, n_longest_from, F_longest_from.kp, b_longest_from⟩
  have k_longest_common : Kn PySem.Challenge.pw_flyovers_k63_whole_common_words w K mg base (L2.CX PySem.Challenge.pw_flyovers_k63_whole_common_words w) 16 "longest_common" ["row", "other"] (spLongest K cR cT) _ _ := ⟨ok_longest_common F_longest_common B G5 k_check_words k_better k_longest_from, n_longest_common, F_longest_common.kp, b_longest_common⟩
  have k_shortest_from : Kn PySem.Challenge.pw_flyovers_k63_whole_common_words w K mg base CX0 3 "shortest_from" ["found", "one", "two", "at", "there"] (spSFrom K) _ _ := ⟨ok_shortest_from F_shortest_from B k_shorter, n_shortest_from, F_shortest_from.kp, b_shortest_from⟩
  have k_shortest_over : Kn PySem.Challenge.pw_flyovers_k63_whole_common_words w K mg base (L2.CX PySem.Challenge.pw_flyovers_k63_whole_common_words w) 16 "shortest_over" ["row", "other"] (spShortest K cR cT) _ _ := ⟨ok_shortest_over F_shortest_over B k_check_words k_shortest_from, n_shortest_over, F_shortest_over.kp, b_shortest_over⟩
  have k_law_hand : Kn PySem.Challenge.pw_flyovers_k63_whole_common_words w K mg base CX0 1 "_law_hand" ["_law_script"] (spHand K) _ _ := ⟨ok_law_hand F_law_hand B, n_law_hand, F_law_hand.kp, b_law_hand⟩
  have k_law_draw : Kn PySem.Challenge.pw_flyovers_k63_whole_common_words w K mg base CX0 1 "_law_draw" ["_law_hand_here", "_law_many"] spDraw _ _ := ⟨ok_law_draw F_law_draw B, n_law_draw, F_law_draw.kp, b_law_draw⟩
  have k_law_some : Kn PySem.Challenge.pw_flyovers_k63_whole_common_words w K mg base CX0 2 "_law_some" ["_law_hand_here", "_law_things"] spSome _ _ := ⟨ok_law_some F_law_some B k_law_draw, n_law_some, F_law_some.kp, b_law_some⟩
  have k_law_row : Kn PySem.Challenge.pw_flyovers_k63_whole_common_words w K mg base CX0 2 "_law_row" ["_law_hand_here", "_law_letters", "_law_most"] (spLRow K) _ _ := ⟨ok_law_row F_law_row B k_law_draw, n_law_row, F_law_row.kp, b_law_row⟩
  have k_law_is : Kn PySem.Challenge.pw_flyovers_k63_whole_common_words w K mg base CX0 4 "_law_is" ["_law_told", "_law_due"] (spLIs K 2) _ _ := ⟨ok_law_is F_law_is B n_law_is b_law_is 2, n_law_is, F_law_is.kp, b_law_is⟩
  have k_law_word : Kn PySem.Challenge.pw_flyovers_k63_whole_common_words w K mg base CX0 1 "_law_word" ["_law_row_here"] (spLWord K) _ _ := ⟨ok_law_word F_law_word B, n_law_word, F_law_word.kp, b_law_word⟩
  have k_law_thins : Kn PySem.Challenge.pw_flyovers_k63_whole_common_words w K mg base CX0 2 "_law_thins" ["_law_row_here", "_law_out"] (spLThins K) _ _ := ⟨ok_law_thins F_law_thins B k_law_word, n_law_thins, F_law_thins.kp, b_law_thins⟩
  have k_law_rows : Kn PySem.Challenge.pw_flyovers_k63_whole_common_words w K mg base CX0 1 "_law_rows" ["_law_letters", "_law_lanes"] (spLRows K) _ _ := ⟨ok_law_rows F_law_rows B, n_law_rows, F_law_rows.kp, b_law_rows⟩
  have k_law_deep : Kn PySem.Challenge.pw_flyovers_k63_whole_common_words w K mg base CX0 1 "_law_deep" ["_law_kind"] (spDeep K) _ _ := ⟨ok_law_deep F_law_deep B, n_law_deep, F_law_deep.kp, b_law_deep⟩
  have k_law_odd_row : Kn PySem.Challenge.pw_flyovers_k63_whole_common_words w K mg base CX0 3 "_law_odd_row" ["_law_hand_here", "_law_row_here"] (spOddRow K) _ _ := ⟨ok_law_odd_row F_law_odd_row B k_law_draw k_law_some k_law_deep, n_law_odd_row, F_law_odd_row.kp, b_law_odd_row⟩
  have k_law_longest : Kn PySem.Challenge.pw_flyovers_k63_whole_common_words w K mg base CX0 3 "_law_longest" ["_law_row_here", "_law_other"] (spLLongest K) _ _ := ⟨ok_law_longest F_law_longest B k_law_word k_law_thins, n_law_longest, F_law_longest.kp, b_law_longest⟩
  have k_law_keep : Kn PySem.Challenge.pw_flyovers_k63_whole_common_words w K mg base CX0 1 "_law_keep" ["_law_found", "_law_key", "_law_made"] (spLKeep K) _ _ := ⟨ok_law_keep F_law_keep B, n_law_keep, F_law_keep.kp, b_law_keep⟩
  have k_law_shortest : Kn PySem.Challenge.pw_flyovers_k63_whole_common_words w K mg base CX0 2 "_law_shortest" ["_law_row_here", "_law_other"] (spLShortest K) _ _ := ⟨ok_law_shortest F_law_shortest B k_law_word k_law_keep, n_law_shortest, F_law_shortest.kp, b_law_shortest⟩
  have k_law_lengths : Kn PySem.Challenge.pw_flyovers_k63_whole_common_words w K mg base CX0 2 "_law_lengths" ["_law_row_here", "_law_other"] (spLLengths K) _ _ := ⟨ok_law_lengths F_law_lengths B k_law_word, n_law_lengths, F_law_lengths.kp, b_law_lengths⟩
  have k_law_asked : Kn PySem.Challenge.pw_flyovers_k63_whole_common_words w K mg base (L2.CX PySem.Challenge.pw_flyovers_k63_whole_common_words w) 17 "_law_asked" ["_law_kind", "_law_row_here", "_law_other", "_law_lanes"] (spAsked K cR cN cT) _ _ := ⟨ok_law_asked F_law_asked k_common_many k_common k_longest_common k_shortest_over, n_law_asked, F_law_asked.kp, b_law_asked⟩
  have k_law_word_of : Kn PySem.Challenge.pw_flyovers_k63_whole_common_words w K mg base CX0 18 "_law_word_of" ["_law_kind", "_law_row_here", "_law_other", "_law_lanes"] (spLWordOf K) _ _ := ⟨ok_law_word_of F_law_word_of B C T Z k_law_asked, n_law_word_of, F_law_word_of.kp, b_law_word_of⟩
  have k_law_small_right : Kn PySem.Challenge.pw_flyovers_k63_whole_common_words w K mg base CX0 17 "_law_small_right" ["_law_hand_here"] spRight _ _ := ⟨ok_law_small_right F_law_small_right B k_law_draw k_law_row k_law_rows k_longest_common k_shortest_over k_law_thins k_common_many k_common k_law_is k_law_longest k_law_shortest, n_law_small_right, F_law_small_right.kp, b_law_small_right⟩
  have k_law_long_right : Kn PySem.Challenge.pw_flyovers_k63_whole_common_words w K mg base CX0 17 "_law_long_right" ["_law_hand_here"] spRight _ _ := ⟨ok_law_long_right F_law_long_right B k_law_draw k_law_row k_law_lengths k_longest_common k_shortest_over k_law_word k_is_thinning, n_law_long_right, F_law_long_right.kp, b_law_long_right⟩
  have k_law_refused_right : Kn PySem.Challenge.pw_flyovers_k63_whole_common_words w K mg base CX0 19 "_law_refused_right" ["_law_hand_here"] spRight _ _ := ⟨ok_law_refused_right F_law_refused_right B k_law_row k_law_odd_row k_law_some k_law_deep k_law_word_of, n_law_refused_right, F_law_refused_right.kp, b_law_refused_right⟩
  have k_law : Kn PySem.Challenge.pw_flyovers_k63_whole_common_words w K mg base CX0 20 "law" ["_law_script"] (spLaw K) _ _ := ⟨ok_law F_law k_law_hand k_law_small_right k_law_long_right k_law_refused_right, n_law, F_law.kp, b_law⟩
  exact k_law.ok
  exact fun s v => .of_eq rfl
end Fl
end

section
set_option Elab.async false
set_option linter.all false
set_option maxRecDepth 100000
namespace Fl
open PySem PySem.Spec PyProof.Rows L2
theorem walk {q : Program} {loose : List Str} {XP : (Str → Option Value) → Heap → Prop} {YP : World → Heap → Prop} {d : DefRec} {K : Params → PySem.W.Frag} (hdf : d.params.defaults = [])
    (hY : ∀ (w : World) (h : Heap), YP w h → (K w.params).In h)
    (F : ∀ (w : World) (mg : Str → Option Value) (fa : Addr) (h : Heap), (K w.params).In h → h.Ns mainGlobals mg → mg d.name = some (.ref fa) →
      ∃ fd : FuncData, (∀ (s : Shared) (u : Value), BindsTo s fd ⟨[u], []⟩ [("_law_script", u)]) ∧ ∀ base : Heap, (K w.params).In base → base.Ns mainGlobals mg → FnOk PySem.Challenge.pw_flyovers_k63_whole_common_words w (K w.params) mg base CX0 20 fa fd ["_law_script"] (spLaw (K w.params))) :
    PySem.W.WalkO q loose XP YP PySem.Challenge.rw_flyovers_k63_whole_common_words.row.toRowW d [] (fun f vs => PySem.call f vs) :=
  L2.walk_of (l := PySem.Challenge.rw_flyovers_k63_whole_common_words) (n := 63) (k := 20) (x := "_law_script") (CX := fun _ => CX0) (sp := fun w => spLaw (K w.params)) rfl (by decide) hdf ⟨rfl, by decide, by decide⟩ hY F (fun _ _ a ns hl _ hS => ⟨a, ns, rfl, hS, hl, fun _ => rfl⟩) fun _ _ _ _ _ z => z
end Fl
open PySem PySem.W PyProof.Rows
set_option maxRecDepth 100000 in
set_option maxHeartbeats 0 in
theorem PySem.Challenge.cw_flyovers_k63_whole_common_words_holds : PySem.Challenge.rw_flyovers_k63_whole_common_words.Holds := by
  w_on; o_law; k_head; (case hw => w_witness2)
  k_fill
  refine Fl.walk rfl (fun w h Y => PySem.W.kIn_of Y) ?F
  case F =>
    intro w mg fa h KX G hmg
    refine' Fl.all_mk KX G hmg ?aP ?aR ?aN ?aT ?aL ?z_len ?z_range ?z_isinstance ?z_int ?z_bool ?z_tuple ?z_list ?z_all ?z_zip ?z_sum ?z_max ?z_min ?z_sorted ?z_set ?z_abs ?z_str ?z_super ?g_MOST_LETTERS ?g_MOST_LANES ?g_MOST_ROWS ?g_MOST_LISTED ?g_MOST_WORD ?x_cR ?x_cN ?kp_cR ?be_cR ?kp_cN ?be_cN ?kp_cT ?be_cT ?ty_cR ?hd_cR ?ty_cN ?hd_cN ?ty_cT ?hd_cT ?ty_cL ?hd_cL ?be_cL ?ga_cR ?gg_cR ?ga_cN ?gg_cN ?ga_cT ?gg_cT ?cc_cR ?mo_cR ?cc_cN ?mo_cN ?sp_get ?tk_cls ?s_cT_cT ?s_cR_cT ?s_cN_cT ?s_cR_cL ?s_cN_cL ?s_cN_cR ?xT ?rT ?saT ?iT ?tiT ?lT ?cT_ ?ldT ?v2T ?fiT ?lcT ?anyT ?siT ?suT ?mrT ?noT ?neNR ?pgP ?hdP ?poP ?saP ?mkP ?kcP ?nWP ?nKP ?a_is_integer ?l_is_integer ?c_is_integer ?k_is_integer_ ?a_is_between ?l_is_between ?c_is_between ?k_is_between_ ?a_is_index ?l_is_index ?c_is_index ?k_is_index_ ?a_check_number ?l_check_number ?c_check_number ?k_check_number_ ?a_is_row ?l_is_row ?c_is_row ?k_is_row_ ?a_check_row ?l_check_row ?c_check_row ?k_check_row_ ?a_check_both ?l_check_both ?c_check_both ?k_check_both_ ?a_next_place ?l_next_place ?c_next_place ?k_next_place_ ?a_way_of ?l_way_of ?c_way_of ?k_way_of_ ?a_is_thinning ?l_is_thinning ?c_is_thinning ?k_is_thinning_ ?a_word_of ?l_word_of ?c_word_of ?k_word_of_ ?m_Pairs_init ?i_Pairs_init ?l_Pairs_init ?c_Pairs_init ?k_Pairs_init_ ?m_Pairs_goes_on ?i_Pairs_goes_on ?l_Pairs_goes_on ?c_Pairs_goes_on ?k_Pairs_goes_on_ ?m_Pairs_many ?i_Pairs_many ?l_Pairs_many ?c_Pairs_many ?k_Pairs_many_ ?m_Pairs_listed ?i_Pairs_listed ?l_Pairs_listed ?c_Pairs_listed ?k_Pairs_listed_ ?a_common_many ?l_common_many ?c_common_many ?k_common_many_ ?a_common ?l_common ?c_common ?k_common_ ?a_check_words ?l_check_words ?c_check_words ?k_check_words_ ?a_better ?l_better ?c_better ?k_better_ ?a_shorter ?l_shorter ?c_shorter ?k_shorter_ ?a_longest_from ?l_longest_from ?c_longest_from ?k_longest_from_ ?a_longest_common ?l_longest_common ?c_longest_common ?k_longest_common_ ?a_shortest_from ?l_shortest_from ?c_shortest_from ?k_shortest_from_ ?a_shortest_over ?l_shortest_over ?c_shortest_over ?k_shortest_over_ ?a_law_hand ?l_law_hand ?c_law_hand ?k_law_hand_ ?a_law_draw ?l_law_draw ?c_law_draw ?k_law_draw_ ?a_law_some ?l_law_some ?c_law_some ?k_law_some_ ?a_law_row ?l_law_row ?c_law_row ?k_law_row_ ?a_law_is ?l_law_is ?c_law_is ?k_law_is_ ?a_law_word ?l_law_word ?c_law_word ?k_law_word_ ?a_law_thins ?l_law_thins ?c_law_thins ?k_law_thins_ ?a_law_rows ?l_law_rows ?c_law_rows ?k_law_rows_ ?a_law_deep ?l_law_deep ?c_law_deep ?k_law_deep_ ?a_law_odd_row ?l_law_odd_row ?c_law_odd_row ?k_law_odd_row_ ?a_law_longest ?l_law_longest ?c_law_longest ?k_law_longest_ ?a_law_keep ?l_law_keep ?c_law_keep ?k_law_keep_ ?a_law_shortest ?l_law_shortest ?c_law_shortest ?k_law_shortest_ ?a_law_lengths ?l_law_lengths ?c_law_lengths ?k_law_lengths_ ?a_law_asked ?l_law_asked ?c_law_asked ?k_law_asked_ ?a_law_word_of ?l_law_word_of ?c_law_word_of ?k_law_word_of_ ?a_law_small_right ?l_law_small_right ?c_law_small_right ?k_law_small_right_ ?a_law_long_right ?l_law_long_right ?c_law_long_right ?k_law_long_right_ ?a_law_refused_right ?l_law_refused_right ?c_law_refused_right ?k_law_refused_right_ ?a_law ?l_law ?c_law ?k_law_
    (case aP => k_is)
    (case aR => k_is)
    (case aN => k_is)
    (case aT => k_is)
    (case aL => k_is)
    (case z_len => k_is)
    (case z_range => k_is)
    (case z_isinstance => k_is)
    (case z_int => k_is)
    (case z_bool => k_is)
    (case z_tuple => k_is)
    (case z_list => k_is)
    (case z_all => k_is)
    (case z_zip => k_is)
    (case z_sum => k_is)
    (case z_max => k_is)
    (case z_min => k_is)
    (case z_sorted => k_is)
    (case z_set => k_is)
    (case z_abs => k_is)
    (case z_str => k_is)
    (case z_super => k_is)
    (case g_MOST_LETTERS => k_is)
    (case g_MOST_LANES => k_is)
    (case g_MOST_ROWS => k_is)
    (case g_MOST_LISTED => k_is)
    (case g_MOST_WORD => k_is)
    (case x_cR => k_exc)
    (case x_cN => k_exc)
    (case kp_cR => k_is)
    (case be_cR => k_is)
    (case kp_cN => k_is)
    (case be_cN => k_is)
    (case kp_cT => k_is)
    (case be_cT => k_is)
    (case ty_cR => k_is)
    (case hd_cR => k_is)
    (case ty_cN => k_is)
    (case hd_cN => k_is)
    (case ty_cT => k_is)
    (case hd_cT => k_is)
    (case ty_cL => k_is)
    (case hd_cL => k_is)
    (case be_cL => k_is)
    (case ga_cR => k_is)
    (case gg_cR => k_is)
    (case ga_cN => k_is)
    (case gg_cN => k_is)
    (case ga_cT => k_is)
    (case gg_cT => k_is)
    (case cc_cR => k_is)
    (case mo_cR => k_is)
    (case cc_cN => k_is)
    (case mo_cN => k_is)
    (case sp_get => k_is)
    (case tk_cls => k_is)
    (case s_cT_cT => k_is)
    (case s_cR_cT => k_is)
    (case s_cN_cT => k_is)
    (case s_cR_cL => k_is)
    (case s_cN_cL => k_is)
    (case s_cN_cR => k_is)
    (case xT => k_is)
    (case rT => first | k_is | rfl | decide +kernel)
    (case saT => k_is)
    (case iT => k_is)
    (case tiT => k_is)
    (case lT => k_is)
    (case cT_ => k_is)
    (case ldT => k_is)
    (case v2T => first | k_is | rfl | decide +kernel)
    (case fiT => first | k_is | rfl | decide +kernel)
    (case lcT => k_is)
    (case anyT => k_is)
    (case siT => ks_is)
    (case suT => k_is)
    (case mrT => k_is)
    (case noT => k_is)
    (case neNR => first | k_is | rfl | decide +kernel)
    (case pgP => k_is)
    (case hdP => k_is)
    (case poP => k_is)
    (case saP => k_is)
    (case mkP => k_is)
    (case kcP => k_is)
    (case nWP => k_is)
    (case nKP => k_is)
    (case a_is_integer => k_is)
    (case l_is_integer => k_is)
    (case c_is_integer => k_is)
    (case k_is_integer_ => k_is)
    (case a_is_between => k_is)
    (case l_is_between => k_is)
    (case c_is_between => k_is)
    (case k_is_between_ => k_is)
    (case a_is_index => k_is)
    (case l_is_index => k_is)
    (case c_is_index => k_is)
    (case k_is_index_ => k_is)
    (case a_check_number => k_is)
    (case l_check_number => k_is)
    (case c_check_number => k_is)
    (case k_check_number_ => k_is)
    (case a_is_row => k_is)
    (case l_is_row => k_is)
    (case c_is_row => k_is)
    (case k_is_row_ => k_is)
    (case a_check_row => k_is)
    (case l_check_row => k_is)
    (case c_check_row => k_is)
    (case k_check_row_ => k_is)
    (case a_check_both => k_is)
    (case l_check_both => k_is)
    (case c_check_both => k_is)
    (case k_check_both_ => k_is)
    (case a_next_place => k_is)
    (case l_next_place => k_is)
    (case c_next_place => k_is)
    (case k_next_place_ => k_is)
    (case a_way_of => k_is)
    (case l_way_of => k_is)
    (case c_way_of => k_is)
    (case k_way_of_ => k_is)
    (case a_is_thinning => k_is)
    (case l_is_thinning => k_is)
    (case c_is_thinning => k_is)
    (case k_is_thinning_ => k_is)
    (case a_word_of => k_is)
    (case l_word_of => k_is)
    (case c_word_of => k_is)
    (case k_word_of_ => k_is)
    (case m_Pairs_init => k_is)
    (case i_Pairs_init => k_is)
    (case l_Pairs_init => k_is)
    (case c_Pairs_init => k_is)
    (case k_Pairs_init_ => k_is)
    (case m_Pairs_goes_on => k_is)
    (case i_Pairs_goes_on => k_is)
    (case l_Pairs_goes_on => k_is)
    (case c_Pairs_goes_on => k_is)
    (case k_Pairs_goes_on_ => k_is)
    (case m_Pairs_many => k_is)
    (case i_Pairs_many => k_is)
    (case l_Pairs_many => k_is)
    (case c_Pairs_many => k_is)
    (case k_Pairs_many_ => k_is)
    (case m_Pairs_listed => k_is)
    (case i_Pairs_listed => k_is)
    (case l_Pairs_listed => k_is)
    (case c_Pairs_listed => k_is)
    (case k_Pairs_listed_ => k_is)
    (case a_common_many => k_is)
    (case l_common_many => k_is)
    (case c_common_many => k_is)
    (case k_common_many_ => k_is)
    (case a_common => k_is)
    (case l_common => k_is)
    (case c_common => k_is)
    (case k_common_ => k_is)
    (case a_check_words => k_is)
    (case l_check_words => k_is)
    (case c_check_words => k_is)
    (case k_check_words_ => k_is)
    (case a_better => k_is)
    (case l_better => k_is)
    (case c_better => k_is)
    (case k_better_ => k_is)
    (case a_shorter => k_is)
    (case l_shorter => k_is)
    (case c_shorter => k_is)
    (case k_shorter_ => k_is)
    (case a_longest_from => k_is)
    (case l_longest_from => k_is)
    (case c_longest_from => k_is)
    (case k_longest_from_ => k_is)
    (case a_longest_common => k_is)
    (case l_longest_common => k_is)
    (case c_longest_common => k_is)
    (case k_longest_common_ => k_is)
    (case a_shortest_from => k_is)
    (case l_shortest_from => k_is)
    (case c_shortest_from => k_is)
    (case k_shortest_from_ => k_is)
    (case a_shortest_over => k_is)
    (case l_shortest_over => k_is)
    (case c_shortest_over => k_is)
    (case k_shortest_over_ => k_is)
    (case a_law_hand => k_is)
    (case l_law_hand => k_is)
    (case c_law_hand => k_is)
    (case k_law_hand_ => k_is)
    (case a_law_draw => k_is)
    (case l_law_draw => k_is)
    (case c_law_draw => k_is)
    (case k_law_draw_ => k_is)
    (case a_law_some => k_is)
    (case l_law_some => k_is)
    (case c_law_some => k_is)
    (case k_law_some_ => k_is)
    (case a_law_row => k_is)
    (case l_law_row => k_is)
    (case c_law_row => k_is)
    (case k_law_row_ => k_is)
    (case a_law_is => k_is)
    (case l_law_is => k_is)
    (case c_law_is => k_is)
    (case k_law_is_ => k_is)
    (case a_law_word => k_is)
    (case l_law_word => k_is)
    (case c_law_word => k_is)
    (case k_law_word_ => k_is)
    (case a_law_thins => k_is)
    (case l_law_thins => k_is)
    (case c_law_thins => k_is)
    (case k_law_thins_ => k_is)
    (case a_law_rows => k_is)
    (case l_law_rows => k_is)
    (case c_law_rows => k_is)
    (case k_law_rows_ => k_is)
    (case a_law_deep => k_is)
    (case l_law_deep => k_is)
    (case c_law_deep => k_is)
    (case k_law_deep_ => k_is)
    (case a_law_odd_row => k_is)
    (case l_law_odd_row => k_is)
    (case c_law_odd_row => k_is)
    (case k_law_odd_row_ => k_is)
    (case a_law_longest => k_is)
    (case l_law_longest => k_is)
    (case c_law_longest => k_is)
    (case k_law_longest_ => k_is)
    (case a_law_keep => k_is)
    (case l_law_keep => k_is)
    (case c_law_keep => k_is)
    (case k_law_keep_ => k_is)
    (case a_law_shortest => k_is)
    (case l_law_shortest => k_is)
    (case c_law_shortest => k_is)
    (case k_law_shortest_ => k_is)
    (case a_law_lengths => k_is)
    (case l_law_lengths => k_is)
    (case c_law_lengths => k_is)
    (case k_law_lengths_ => k_is)
    (case a_law_asked => k_is)
    (case l_law_asked => k_is)
    (case c_law_asked => k_is)
    (case k_law_asked_ => k_is)
    (case a_law_word_of => k_is)
    (case l_law_word_of => k_is)
    (case c_law_word_of => k_is)
    (case k_law_word_of_ => k_is)
    (case a_law_small_right => k_is)
    (case l_law_small_right => k_is)
    (case c_law_small_right => k_is)
    (case k_law_small_right_ => k_is)
    (case a_law_long_right => k_is)
    (case l_law_long_right => k_is)
    (case c_law_long_right => k_is)
    (case k_law_long_right_ => k_is)
    (case a_law_refused_right => k_is)
    (case l_law_refused_right => k_is)
    (case c_law_refused_right => k_is)
    (case k_law_refused_right_ => k_is)
    (case a_law => k_is)
    (case l_law => k_is)
    (case c_law => k_is)
    (case k_law_ => k_is)
end
