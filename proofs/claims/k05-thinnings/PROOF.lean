import PyProof.Rows.All
import Wide.All
import OpenK.AllK
import Wide.FinOn
import HandS.ForMost
import HandS.More
import HandS.IsInst
import HandS.Style
import HandS.Walk
import HandS.Evl
import KE.GoesMore
import KE.GoesEnum
import KE.KRevSl
import PySem.Challenge.RW_flyovers_k05_whole_thinnings_of_thinning
set_option Elab.async false
set_option linter.all false
namespace Fly
/-! Plain mathematics of thinnings: no program here. -/
def wordFrom : Int → List Int → List Int
  | _, [] => []
  | p, a :: r => if a = p then wordFrom p r else a :: wordFrom a r
/-- one letter for each stretch -/
def wordL : List Int → List Int
  | [] => []
  | a :: r => a :: wordFrom a r
/-- a letter behind a word -/
def pushW (w : List Int) (a : Int) : List Int := if w.getLast? = some a then w else w ++ [a]
theorem foldl_pushW : ∀ (r w : List Int) (p : Int), r.foldl pushW (w ++ [p]) = w ++ p :: wordFrom p r
  | [], w, p => by simp [wordFrom]
  | a :: r, w, p => by
    rw [List.foldl_cons]
    by_cases h : a = p
    · subst h
      have e : pushW (w ++ [a]) a = w ++ [a] := by simp [pushW]
      rw [e, foldl_pushW r w a]
      simp [wordFrom]
    · have h' : ¬ p = a := fun e => h e.symm
      have e : pushW (w ++ [p]) a = (w ++ [p]) ++ [a] := by simp [pushW, h']
      rw [e, foldl_pushW r (w ++ [p]) a]
      simp [wordFrom, h]
theorem wordL_fold : ∀ l : List Int, wordL l = l.foldl pushW []
  | [] => rfl
  | a :: r => by
    rw [List.foldl_cons]
    have e : pushW [] a = [] ++ [a] := by simp [pushW]
    rw [e, foldl_pushW]
    rfl
theorem wordL_snoc (l : List Int) (a : Int) : wordL (l ++ [a]) = pushW (wordL l) a := by
  rw [wordL_fold, wordL_fold, List.foldl_append]
  rfl
theorem getLast_wordFrom : ∀ (r : List Int) (p : Int), (p :: wordFrom p r).getLast? = (p :: r).getLast?
  | [], _ => rfl
  | a :: r, p => by
    by_cases h : a = p
    · subst h
      have e : wordFrom a (a :: r) = wordFrom a r := by simp [wordFrom]
      rw [e, getLast_wordFrom r a]
      rw [List.getLast?_cons_cons]
    · have e : wordFrom p (a :: r) = a :: wordFrom a r := by simp [wordFrom, h]
      rw [e, List.getLast?_cons_cons, List.getLast?_cons_cons, getLast_wordFrom r a]
theorem getLast_wordL (l : List Int) : (wordL l).getLast? = l.getLast? := by
  cases l with
  | nil => rfl
  | cons a r => exact getLast_wordFrom r a
theorem wordL_ne {l : List Int} (h : l ≠ []) : wordL l ≠ [] := by
  cases l with
  | nil => exact absurd rfl h
  | cons a r => exact List.cons_ne_nil _ _
theorem wordFrom_sub : ∀ (r : List Int) (p : Int), (wordFrom p r).Sublist r
  | [], _ => List.Sublist.slnil
  | a :: r, p => by
    by_cases h : a = p
    · have e : wordFrom p (a :: r) = wordFrom p r := by simp [wordFrom, h]
      rw [e]
      exact (wordFrom_sub r p).cons a
    · have e : wordFrom p (a :: r) = a :: wordFrom a r := by simp [wordFrom, h]
      rw [e]
      exact (wordFrom_sub r a).cons_cons a
theorem wordL_sub (l : List Int) : (wordL l).Sublist l := by
  cases l with
  | nil => exact List.Sublist.slnil
  | cons a r => exact (wordFrom_sub r a).cons_cons a
/-- no two neighbours alike, the first is not p -/
def NoAdj : Int → List Int → Prop
  | _, [] => True
  | p, a :: r => a ≠ p ∧ NoAdj a r
theorem noAdj_wordFrom : ∀ (r : List Int) (p : Int), NoAdj p (wordFrom p r)
  | [], _ => trivial
  | a :: r, p => by
    by_cases h : a = p
    · have e : wordFrom p (a :: r) = wordFrom p r := by simp [wordFrom, h]
      rw [e]
      exact noAdj_wordFrom r p
    · have e : wordFrom p (a :: r) = a :: wordFrom a r := by simp [wordFrom, h]
      rw [e]
      exact ⟨h, noAdj_wordFrom r a⟩
/-- a word (its first not p) that can be picked out of r can be picked out of the word of r -/
theorem noAdj_sub : ∀ (r : List Int) (p : Int) (w : List Int), NoAdj p w → w.Sublist r → w.Sublist (wordFrom p r)
  | [], p, w, _, h => by
    have e : w = [] := List.sublist_nil.mp h
    rw [e]
    exact List.nil_sublist _
  | a :: r, p, w, hn, h => by
    by_cases hap : a = p
    · have e : wordFrom p (a :: r) = wordFrom p r := by simp [wordFrom, hap]
      rw [e]
      cases h with
      | cons _ h => exact noAdj_sub r p w hn h
      | cons_cons _ h => exact absurd hap hn.1
    · have e : wordFrom p (a :: r) = a :: wordFrom a r := by simp [wordFrom, hap]
      rw [e]
      cases h with
      | cons _ h =>
        cases w with
        | nil => exact List.nil_sublist _
        | cons b w =>
          by_cases hb : b = a
          · subst hb
            exact (noAdj_sub r b w hn.2 ((List.sublist_cons_self b w).trans h)).cons_cons b
          · exact (noAdj_sub r a (b :: w) ⟨hb, hn.2⟩ h).cons a
      | cons_cons _ h => exact (noAdj_sub r a _ hn.2 h).cons_cons a
theorem word_in {o r : List Int} (h : (wordL o).Sublist r) : (wordL o).Sublist (wordL r) := by
  cases o with
  | nil => exact List.nil_sublist _
  | cons a o =>
    have hn : NoAdj a (wordFrom a o) := noAdj_wordFrom o a
    cases r with
    | nil => exact absurd (List.sublist_nil.mp h) (List.cons_ne_nil _ _)
    | cons b r =>
      show (a :: wordFrom a o).Sublist (b :: wordFrom b r)
      have h : (a :: wordFrom a o).Sublist (b :: r) := h
      by_cases hb : a = b
      · subst hb
        cases h with
        | cons _ h => exact (noAdj_sub r a _ hn ((List.sublist_cons_self _ _).trans h)).cons_cons a
        | cons_cons _ h => exact (noAdj_sub r a _ hn h).cons_cons a
      · cases h with
        | cons _ h => exact (noAdj_sub r b (a :: wordFrom a o) ⟨hb, hn⟩ h).cons b
        | cons_cons _ h => exact absurd rfl hb

/-- out is a thinning of row -/
def Thin (row out : List Int) : Prop := (wordL out).Sublist row
theorem Thin.refl (r : List Int) : Thin r r := wordL_sub r
theorem Thin.trans {a b c : List Int} (h : Thin a b) (k : Thin b c) : Thin a c := (word_in k).trans h
theorem Thin.ofSub {a b : List Int} (h : b.Sublist a) : Thin a b := (wordL_sub b).trans h
theorem Thin.word (r : List Int) : Thin r (wordL r) := Thin.ofSub (wordL_sub r)
theorem Thin.ofWord (r : List Int) : Thin (wordL r) r := List.Sublist.refl _
theorem thin_both (a b : List Int) : (Thin a b ∧ Thin b a) ↔ wordL a = wordL b := by
  constructor
  · intro h
    exact (word_in h.2).eq_of_length_le (word_in h.1).length_le
  · intro e
    constructor
    · show (wordL b).Sublist a
      rw [← e]
      exact wordL_sub a
    · show (wordL a).Sublist b
      rw [e]
      exact wordL_sub b
/-! read from behind -/
theorem wordL_cons_cons (a b : Int) (r : List Int) : wordL (a :: b :: r) = if a = b then wordL (b :: r) else a :: wordL (b :: r) := by
  by_cases h : a = b
  · subst h
    simp [wordL, wordFrom]
  · have h' : ¬ b = a := fun e => h e.symm
    simp [wordL, wordFrom, h, h']
theorem wordL_reverse : ∀ l : List Int, wordL l.reverse = (wordL l).reverse
  | [] => rfl
  | [a] => rfl
  | a :: b :: r => by
    have ih := wordL_reverse (b :: r)
    rw [List.reverse_cons, wordL_snoc, ih, wordL_cons_cons]
    have hl : ((wordL (b :: r)).reverse).getLast? = some b := by
      rw [List.getLast?_reverse]
      rfl
    unfold pushW
    rw [hl]
    by_cases h : a = b
    · subst h
      simp
    · have h' : ¬ b = a := fun e => h e.symm
      simp [h, h']
theorem thin_reverse (a b : List Int) : Thin a.reverse b.reverse ↔ Thin a b := by
  unfold Thin
  rw [wordL_reverse]
  exact List.reverse_sublist
/-! lanes doubled, struck -/
theorem pushW_twice (w : List Int) (a : Int) : pushW (pushW w a) a = pushW w a := by
  have e : (pushW w a).getLast? = some a := by
    unfold pushW
    split
    · assumption
    · simp
  show (if (pushW w a).getLast? = some a then pushW w a else _) = _
  rw [if_pos e]
theorem wordL_double (x : List Int) (a : Int) (y : List Int) : wordL (x ++ a :: a :: y) = wordL (x ++ a :: y) := by
  rw [wordL_fold, wordL_fold, List.foldl_append, List.foldl_append, List.foldl_cons, List.foldl_cons, List.foldl_cons, pushW_twice]
theorem thin_double {r l : List Int} {k : Nat} {a : Int} (hk : l[k]? = some a) (h : Thin r l) : Thin r (l.take k ++ [a] ++ l.drop k) := by
  obtain ⟨hlt, e⟩ := List.getElem?_eq_some_iff.mp hk
  have ed : l.drop k = a :: l.drop (k + 1) := by rw [List.drop_eq_getElem_cons hlt, e]
  have el : l = l.take k ++ a :: l.drop (k + 1) := by rw [← ed, List.take_append_drop]
  show (wordL _).Sublist r
  rw [ed, List.append_assoc]
  show (wordL (l.take k ++ a :: a :: l.drop (k + 1))).Sublist r
  rw [wordL_double, ← el]
  exact h
theorem thin_strike {r l : List Int} {k : Nat} (h : Thin r l) : Thin r (l.eraseIdx k) := Thin.trans h (Thin.ofSub (List.eraseIdx_sublist _ _))
/-! the law's own walk -/
def stripL : List Int → List Int → List Int
  | [], w => w
  | _ :: _, [] => []
  | a :: r, b :: w => if a = b then stripL r w else stripL r (b :: w)
/-- one turn of it -/
def stripT (w : List Int) (a : Int) : List Int := match w with
  | [] => []
  | b :: t => if a = b then t else b :: t
theorem stripL_nil : ∀ r, stripL r [] = []
  | [] => rfl
  | _ :: _ => rfl
theorem stripL_fold : ∀ (r w : List Int), stripL r w = r.foldl stripT w
  | [], w => rfl
  | a :: r, [] => by
    show ([] : List Int) = r.foldl stripT []
    rw [← stripL_fold r []]
    exact (stripL_nil r).symm
  | a :: r, b :: w => by
    rw [List.foldl_cons]
    show (if a = b then stripL r w else stripL r (b :: w)) = r.foldl stripT (if a = b then w else b :: w)
    by_cases h : a = b
    · rw [if_pos h, if_pos h]
      exact stripL_fold r w
    · rw [if_neg h, if_neg h]
      exact stripL_fold r (b :: w)
theorem stripL_iff : ∀ (r w : List Int), stripL r w = [] ↔ w.Sublist r
  | [], w => by
    show w = [] ↔ _
    exact List.sublist_nil.symm
  | a :: r, [] => ⟨fun _ => List.nil_sublist _, fun _ => rfl⟩
  | a :: r, b :: w => by
    show (if a = b then stripL r w else stripL r (b :: w)) = [] ↔ _
    by_cases h : a = b
    · subst h
      rw [if_pos rfl, stripL_iff r w]
      exact List.cons_sublist_cons.symm
    · rw [if_neg h, stripL_iff r (b :: w)]
      constructor
      · intro k
        exact k.cons a
      · intro k
        cases k with
        | cons _ k => exact k
        | cons_cons _ k => exact absurd rfl h
/-- the law's verdict -/
def thins (row out : List Int) : Bool := (stripL row (wordL out)).isEmpty
theorem thins_iff (row out : List Int) : thins row out = true ↔ Thin row out := by
  unfold thins
  rw [List.isEmpty_iff]
  exact stripL_iff row (wordL out)
/-! the program's walk -/
/-- the least index from k on where c stands -/
def nextGo (c : Int) : List Int → Nat → Option Nat
  | [], _ => none
  | a :: r, k => if a = c then some k else nextGo c r (k + 1)
def nextPlace (row : List Int) (k : Nat) (c : Int) : Option Nat := nextGo c (row.drop k) k
def wayGo (row : List Int) : Nat → List Int → Option (List Nat)
  | _, [] => some []
  | p, c :: o => match nextPlace row p c with
    | none => none
    | some q => (wayGo row q o).map (q :: ·)
theorem wayGo_nil (row : List Int) (p : Nat) : wayGo row p [] = some [] := rfl
theorem wayGo_cons (row : List Int) (p : Nat) (c : Int) (o : List Int) : wayGo row p (c :: o) = match nextPlace row p c with
    | none => none
    | some q => (wayGo row q o).map (q :: ·) := rfl
def wayL (row out : List Int) : Option (List Nat) := wayGo row 0 out
theorem nextGo_some {c : Int} : ∀ {r : List Int} {k q : Nat}, nextGo c r k = some q → k ≤ q ∧ q - k < r.length ∧ r[q - k]? = some c
  | [], _, _, h => by cases h
  | a :: r, k, q, h => by
    unfold nextGo at h
    by_cases e : a = c
    · rw [if_pos e] at h
      have h : k = q := Option.some.inj h
      subst h
      simp [e]
    · rw [if_neg e] at h
      obtain ⟨h1, h2, h3⟩ := nextGo_some h
      have e1 : q - k = (q - (k + 1)) + 1 := by omega
      refine ⟨by omega, by rw [List.length_cons]; omega, ?_⟩
      rw [e1, List.getElem?_cons_succ]
      exact h3
theorem nextPlace_some {row : List Int} {k q : Nat} {c : Int} (h : nextPlace row k c = some q) : k ≤ q ∧ q < row.length ∧ row[q]? = some c := by
  obtain ⟨h1, h2, h3⟩ := nextGo_some h
  rw [List.length_drop] at h2
  rw [List.getElem?_drop] at h3
  have e : k + (q - k) = q := by omega
  rw [e] at h3
  exact ⟨h1, by omega, h3⟩
theorem way_facts {row : List Int} : ∀ {out : List Int} {p : Nat} {qs : List Nat}, wayGo row p out = some qs →
    qs.length = out.length ∧ (∀ q ∈ qs, p ≤ q ∧ q < row.length) ∧ qs.Pairwise (· ≤ ·) ∧ ∀ (i q : Nat), qs[i]? = some q → row[q]? = out[i]?
  | [], p, qs, h => by
    have h : [] = qs := Option.some.inj h
    subst h
    exact ⟨rfl, fun q hq => (nomatch hq), List.Pairwise.nil, fun i q hq => by simp at hq⟩
  | c :: o, p, qs, h => by
    unfold wayGo at h
    cases e : nextPlace row p c with
    | none =>
      rw [e] at h
      cases h
    | some q =>
      rw [e] at h
      cases e2 : wayGo row q o with
      | none =>
        have h : (wayGo row q o).map (q :: ·) = some qs := h
        rw [e2] at h
        cases h
      | some ts =>
        have h : (wayGo row q o).map (q :: ·) = some qs := h
        rw [e2] at h
        have h : q :: ts = qs := Option.some.inj h
        subst h
        obtain ⟨a1, a2, a3⟩ := nextPlace_some e
        obtain ⟨b1, b2, b3, b4⟩ := way_facts e2
        refine ⟨by simp [b1], fun x hx => ?_, List.pairwise_cons.mpr ⟨fun x hx => (b2 x hx).1, b3⟩, fun i x hx => ?_⟩
        · rcases List.mem_cons.mp hx with rfl | hx
          · exact ⟨a1, a2⟩
          · exact ⟨Nat.le_trans a1 (b2 x hx).1, (b2 x hx).2⟩
        · cases i with
          | zero =>
            have hx : q = x := by simpa using hx
            subst hx
            rw [a3]
            rfl
          | succ i =>
            rw [List.getElem?_cons_succ] at hx
            rw [List.getElem?_cons_succ]
            exact b4 i x hx
/-- what is asked of a way's first step -/
theorem word_cons {a : Int} {l r : List Int} (h : (wordL l).Sublist (a :: r)) : (wordL (a :: l)).Sublist (a :: r) := by
  cases l with
  | nil => exact List.cons_sublist_cons.mpr (List.nil_sublist _)
  | cons b l =>
    rw [wordL_cons_cons]
    by_cases e : a = b
    · rw [if_pos e]
      exact h
    · rw [if_neg e]
      refine List.cons_sublist_cons.mpr ?_
      have h : (b :: wordFrom b l).Sublist (a :: r) := h
      cases h with
      | cons _ h => exact h
      | cons_cons _ h => exact absurd rfl e
theorem thin_of_places {row : List Int} : ∀ {out : List Int} {ps : List Nat} {k : Nat}, ps.length = out.length → (∀ q ∈ ps, k ≤ q) → ps.Pairwise (· ≤ ·) → (∀ (i q : Nat), ps[i]? = some q → ∃ c, row[q]? = some c ∧ out[i]? = some c) →
    (wordL out).Sublist (row.drop k)
  | [], ps, k, _, _, _, _ => List.nil_sublist _
  | c :: o, [], k, h, _, _, _ => by cases h
  | c :: o, p :: ps, k, h, hk, hp, hi => by
    have hp' := List.pairwise_cons.mp hp
    have ih := thin_of_places (row := row) (out := o) (ps := ps) (k := p) (by simpa using h) hp'.1 hp'.2 (fun i q hq => by
      have := hi (i + 1) q (by rw [List.getElem?_cons_succ]; exact hq)
      simpa using this)
    obtain ⟨d, h1, h2⟩ := hi 0 p (by simp)
    have h2 : c = d := by simpa using h2
    subst h2
    obtain ⟨hlt, e⟩ := List.getElem?_eq_some_iff.mp h1
    have ed : row.drop p = c :: row.drop (p + 1) := by rw [List.drop_eq_getElem_cons hlt, e]
    rw [ed] at ih
    have h3 := word_cons ih
    rw [← ed] at h3
    have h4 : k ≤ p := hk p (by simp)
    refine h3.trans ?_
    have e4 : row.drop p = (row.drop k).drop (p - k) := by
      rw [List.drop_drop]
      congr 1
      omega
    rw [e4]
    exact List.drop_sublist _ _
theorem thin_way {row out : List Int} {qs : List Nat} (h : wayL row out = some qs) : Thin row out := by
  obtain ⟨h1, h2, h3, h4⟩ := way_facts h
  have := thin_of_places (row := row) (out := out) (ps := qs) (k := 0) h1 (fun _ _ => Nat.zero_le _) h3 (fun i q hq => by
    have hm := List.mem_of_getElem? hq
    have e := List.getElem?_eq_getElem (h2 q hm).2
    exact ⟨_, e, by rw [← h4 i q hq]; exact e⟩)
  rw [List.drop_zero] at this
  exact this
theorem nextGo_none {c : Int} : ∀ {r : List Int} {k : Nat}, nextGo c r k = none → c ∉ r
  | [], _, _ => by simp
  | a :: r, k, h => by
    unfold nextGo at h
    by_cases e : a = c
    · rw [if_pos e] at h
      cases h
    · rw [if_neg e] at h
      have := nextGo_none h
      intro hm
      rcases List.mem_cons.mp hm with z | z
      · exact e z.symm
      · exact this z
/-- what stands ahead of the place found can be left out -/
theorem nextGo_cut {c : Int} {w : List Int} : ∀ {r : List Int} {k q : Nat}, nextGo c r k = some q → (c :: w).Sublist r → (c :: w).Sublist (r.drop (q - k))
  | [], _, _, h, _ => by cases h
  | a :: r, k, q, h, hs => by
    have hf := nextGo_some h
    unfold nextGo at h
    by_cases e : a = c
    · rw [if_pos e] at h
      have h : k = q := Option.some.inj h
      subst h
      simpa using hs
    · rw [if_neg e] at h
      obtain ⟨h1, _, _⟩ := nextGo_some h
      have e1 : q - k = (q - (k + 1)) + 1 := by omega
      rw [e1, List.drop_succ_cons]
      refine nextGo_cut h ?_
      cases hs with
      | cons _ hs => exact hs
      | cons_cons _ hs => exact absurd rfl e
theorem way_of_thin {row : List Int} : ∀ {out : List Int} {p : Nat}, (wordL out).Sublist (row.drop p) → ∃ qs, wayGo row p out = some qs
  | [], p, _ => ⟨[], rfl⟩
  | c :: o, p, h => by
    have h : (c :: wordFrom c o).Sublist (row.drop p) := h
    cases e : nextPlace row p c with
    | none => exact absurd (h.subset List.mem_cons_self) (nextGo_none e)
    | some q =>
      obtain ⟨h1, h2, h3⟩ := nextPlace_some e
      have hc := nextGo_cut e h
      rw [List.drop_drop] at hc
      have eq : p + (q - p) = q := by omega
      rw [eq] at hc
      have ho : (wordL o).Sublist (row.drop q) := by
        cases o with
        | nil => exact List.nil_sublist _
        | cons d o =>
          have hw : (wordL (c :: d :: o)).Sublist (row.drop q) := hc
          rw [wordL_cons_cons] at hw
          by_cases z : c = d
          · rw [if_pos z] at hw
            exact hw
          · rw [if_neg z] at hw
            exact (List.sublist_cons_self _ _).trans hw
      obtain ⟨ts, ht⟩ := way_of_thin ho
      refine ⟨q :: ts, ?_⟩
      unfold wayGo
      rw [e]
      show (wayGo row q o).map (q :: ·) = _
      rw [ht]
      rfl
/-- the program's verdict -/
def thinB (row out : List Int) : Bool := (wayL row out).isSome
theorem thinB_iff (row out : List Int) : thinB row out = true ↔ Thin row out := by
  unfold thinB
  constructor
  · intro h
    obtain ⟨qs, e⟩ := Option.isSome_iff_exists.mp h
    exact thin_way e
  · intro h
    obtain ⟨qs, e⟩ := way_of_thin (row := row) (out := out) (p := 0) (by simpa [Thin] using h)
    exact Option.isSome_iff_exists.mpr ⟨qs, e⟩
theorem bool_iff {a b : Bool} (h : a = true ↔ b = true) : a = b := by
  cases a <;> cases b <;> simp_all
theorem thinB_thins (row out : List Int) : thinB row out = thins row out := bool_iff ((thinB_iff row out).trans (thins_iff row out).symm)
theorem thinB_reverse (row out : List Int) : thinB row.reverse out.reverse = thinB row out :=
  bool_iff ((thinB_iff _ _).trans ((thin_reverse row out).trans (thinB_iff row out).symm))
theorem thinB_both (row out : List Int) : (thinB row out && thinB out row) = decide (wordL row = wordL out) := by
  refine bool_iff ?_
  rw [Bool.and_eq_true, thinB_iff, thinB_iff, decide_eq_true_iff]
  exact thin_both row out
theorem thinB_of {row out : List Int} (h : Thin row out) : thinB row out = true := (thinB_iff row out).mpr h
/-! rows -/
/-- letters at places -/
theorem thin_at {row : List Int} {ps : List Nat} (hp : ps.Pairwise (· ≤ ·)) (hl : ∀ q ∈ ps, q < row.length) : Thin row (ps.map fun q => row.getD q 0) := by
  have := thin_of_places (row := row) (out := ps.map fun q => row.getD q 0) (ps := ps) (k := 0) (by simp) (fun _ _ => Nat.zero_le _) hp (fun i q hq => by
    have hm := List.mem_of_getElem? hq
    have e := List.getElem?_eq_getElem (hl q hm)
    refine ⟨_, e, ?_⟩
    rw [List.getElem?_map, hq]
    simp [List.getD_eq_getElem?_getD, e])
  rw [List.drop_zero] at this
  exact this
/-- a way over two ways -/
theorem way_over {row one far : List Int} {qs ts : List Nat} (h1 : wayL row one = some qs) (h2 : wayL one far = some ts) :
    (ts.map fun t => qs.getD t 0).length = far.length ∧ (ts.map fun t => qs.getD t 0).Pairwise (· ≤ ·) ∧ (∀ q ∈ ts.map fun t => qs.getD t 0, q < row.length) ∧
      ∀ (i q : Nat), (ts.map fun t => qs.getD t 0)[i]? = some q → row[q]? = far[i]? := by
  obtain ⟨a1, a2, a3, a4⟩ := way_facts h1
  obtain ⟨b1, b2, b3, b4⟩ := way_facts h2
  have at_ : ∀ t ∈ ts, ∃ q, qs[t]? = some q ∧ qs.getD t 0 = q ∧ q ∈ qs := fun t ht => by
    have hl : t < qs.length := by
      rw [a1]
      exact (b2 t ht).2
    have e := List.getElem?_eq_getElem hl
    exact ⟨_, e, by simp [List.getD_eq_getElem?_getD, e], List.mem_of_getElem? e⟩
  refine ⟨by simp [b1], ?_, ?_, ?_⟩
  · rw [List.pairwise_map]
    refine b3.imp_of_mem fun {x y} hx hy hxy => ?_
    obtain ⟨q1, e1, g1, m1⟩ := at_ x hx
    obtain ⟨q2, e2, g2, m2⟩ := at_ y hy
    rw [g1, g2]
    obtain ⟨l1, e1⟩ := List.getElem?_eq_some_iff.mp e1
    obtain ⟨l2, e2⟩ := List.getElem?_eq_some_iff.mp e2
    rcases Nat.lt_or_eq_of_le hxy with hlt | he
    · rw [← e1, ← e2]
      exact List.pairwise_iff_getElem.mp a3 x y l1 l2 hlt
    · subst he
      rw [← e1, ← e2]
      exact Nat.le_refl _
  · intro q hq
    obtain ⟨t, ht, e⟩ := List.mem_map.mp hq
    obtain ⟨q1, e1, g1, m1⟩ := at_ t ht
    rw [← e, g1]
    exact (a2 q1 m1).2
  · intro i q hq
    rw [List.getElem?_map] at hq
    cases et : ts[i]? with
    | none =>
      rw [et] at hq
      cases hq
    | some t =>
      rw [et] at hq
      have hq : qs.getD t 0 = q := Option.some.inj hq
      obtain ⟨q1, e1, g1, m1⟩ := at_ t (List.mem_of_getElem? et)
      have e : q1 = q := g1.symm.trans hq
      subst e
      rw [a4 t q1 e1]
      exact b4 i t et
end Fly

set_option Elab.async false
set_option linter.all false
set_option maxRecDepth 100000
set_option maxHeartbeats 4000000
namespace Fly
open PySem PySem.Spec PyProof.Rows L2
/-! ### the text by places -/
def topS (i : Nat) : Stmt := PySem.Challenge.pw_flyovers_k05_whole_thinnings_of_thinning.main.body.getD i (.Pass ⟨0, 0, 0, 0⟩)
abbrev sInteger : Stmt := topS 5
abbrev sBetween : Stmt := topS 6
abbrev sIndex : Stmt := topS 7
abbrev sIntegers : Stmt := topS 8
abbrev sIsRow : Stmt := topS 11
abbrev sCheckRow : Stmt := topS 12
abbrev sWordOf : Stmt := topS 13
abbrev sWord : Stmt := topS 14
abbrev sNext : Stmt := topS 16
abbrev sWayOf : Stmt := topS 17
abbrev sCheckBoth : Stmt := topS 18
abbrev sIsThin : Stmt := topS 19
abbrev sWay : Stmt := topS 20
abbrev sFault : Stmt := topS 21
abbrev sHand : Stmt := topS 23
abbrev sDraw : Stmt := topS 24
abbrev sIs : Stmt := topS 25
abbrev sRow : Stmt := topS 26
abbrev sThinned : Stmt := topS 27
abbrev sLWord : Stmt := topS 28
abbrev sThins : Stmt := topS 29
abbrev sChanged : Stmt := topS 30
abbrev sLaw : Stmt := topS 31
/-- what is known of a def of the text behind the top -/
structure Df (K : PySem.W.Frag) (mg : Str → Option Value) (x : Str) (st : Stmt) (ps : List Str) (f : Addr) (fd : FuncData) : Prop where
  fn : Fun K x x st f fd
  bd : Binds K fd ps []
  at_ : mg x = some (.ref f)
/-- built-in names are still the built-ins; the two constants -/
structure Txt (mg : Str → Option Value) : Prop where
  len : mg "len" = none
  range : mg "range" = none
  isi : mg "isinstance" = none
  all : mg "all" = none
  tuple : mg "tuple" = none
  list : mg "list" = none
  int : mg "int" = none
  bool : mg "bool" = none
  abs : mg "abs" = none
  sorted : mg "sorted" = none
  enum : mg "enumerate" = none
  letters : ∃ t, mg "MOST_LETTERS" = some (.int 4 t)
  lanes : ∃ t, mg "MOST_LANES" = some (.int 1000 t)
section
variable {X : Cx}
/-- a call of a def of the text -/
theorem pcall {k : Nat} {f : Addr} {fd : FuncData} {ps : List Str} {sp : Sp} {x : Str} {st : Stmt} {p pos : Pos} {e : Expr} {es : List Expr} {t : TA} (D : Df X.K X.mg x st ps f fd) (G : FnOk X.prog X.w X.K X.mg X.base CX0 k f fd ps sp) (hr : Room k X.A) (ha : PA X (e :: es) t)
    (hg : Gl X x := by rfl) (hdb : (x == ("__debug__" : Str)) = false := by decide) (he : starEach (e :: es) X.env = (false, eval e X.env) :: starEach es X.env := by rfl) (hpl : (backTo pos (starEach es X.env)).any (·.1) = false := by rfl) :
    PE X (.Call (.Name x p) (e :: es) [] pos) (tCall sp [] E0 t) := pe_call G hr hg D.at_ D.fn.kp D.bd .nil pass0 ha hdb he hpl
end
/-! ### heaps, rows -/
theorem same_upd {H : Hp} {p : Addr} {u : HO} (new : H p = none) : Same H (upd H p u) := by
  intro b x e
  exact (upd_ne (ne_of_none e new)).trans e
/-- a tuple of ints stands at a -/
def Tp (H : Hp) (a : Addr) (r : List Int) : Prop := H a = some (.tup (r.map V.int))
theorem Tp.seq {K : PySem.W.Frag} {H : Hp} {a : Addr} {r : List Int} (h : Tp H a r) : SqT K H a (r.map V.int) := SqT.of h
theorem Tp.same {H H' : Hp} {a : Addr} {r : List Int} (h : Tp H a r) (s : Same H H') : Tp H' a r := s _ _ h
/-- a row of letters -/
def IsRow (r : List Int) : Prop := 1 ≤ r.length ∧ r.length ≤ 1000 ∧ ∀ x ∈ r, 0 ≤ x ∧ x < 4
theorem at_map {r : List Int} {i : Nat} {y : V} (h : (r.map V.int)[i]? = some y) : ∃ x, r[i]? = some x ∧ y = .int x := by
  rw [List.getElem?_map] at h
  cases e : r[i]? with
  | none =>
    rw [e] at h
    cases h
  | some x =>
    rw [e] at h
    exact ⟨x, rfl, (Option.some.inj h).symm⟩
theorem atI_map {r : List Int} {j : Nat} {x : Int} (h : r[j]? = some x) : atI (r.map V.int) (j : Int) = some (.int x) := by
  refine atI_nat ?_
  rw [List.getElem?_map, h]
  rfl
theorem small1001 {n : Nat} (h : n ≤ 1000) : n ≤ sizeLine := Nat.le_of_lt (small1000 h)
end Fly

set_option Elab.async false
set_option linter.all false
set_option maxRecDepth 100000
set_option maxHeartbeats 4000000
namespace Fly
open PySem PySem.Spec PyProof.Rows L2
/-! ### the promises -/
def spInteger : Sp := fun vs H Q _ => ∃ x : Int, vs = [.int x] ∧ Q (.bl true) H
def spBetween : Sp := fun vs H Q _ => ∃ x lo hi : Int, vs = [.int x, .int lo, .int hi] ∧ Q (.bl (decide (lo ≤ x ∧ x ≤ hi))) H
def spIndex : Sp := fun vs H Q _ => ∃ x m : Int, vs = [.int x, .int m] ∧ Q (.bl (decide (0 ≤ x ∧ x ≤ m - 1))) H
def spIntegers : Sp := fun vs H Q _ => ∃ (a : Addr) (xs : List Int), vs = [.ref a, .int xs.length] ∧ Tp H a xs ∧ xs.length ≤ 1000 ∧ ∀ H', Same H H' → Q (.bl true) H'
def spIsRow : Sp := fun vs H Q _ => ∃ (a : Addr) (r : List Int), vs = [.ref a] ∧ Tp H a r ∧ IsRow r ∧ ∀ H', Same H H' → Q (.bl true) H'
def spCheckRow : Sp := fun vs H Q _ => ∃ (a : Addr) (r : List Int), vs = [.ref a] ∧ Tp H a r ∧ IsRow r ∧ ∀ H', Same H H' → Q .non H'
def spWordOf : Sp := fun vs H Q _ => ∃ (a : Addr) (r : List Int), vs = [.ref a] ∧ Tp H a r ∧ IsRow r ∧ ∀ p H', Same H H' → Tp H' p (wordL r) → Q (.ref p) H'
section
variable {P : Program} {w : World} {K : PySem.W.Frag} {mg : Str → Option Value} {base : Heap} {f : Addr} {fd : FuncData}
theorem scInteger : FnScope ["thing"] ["thing"] (defScope sInteger) := ⟨rfl, rfl, rfl, by decide +kernel, rfl, by decide +kernel, by decide +kernel⟩
theorem ok_integer (D : Df K mg "is_integer" sInteger ["thing"] f fd) (T : Txt mg) : FnOk P w K mg base CX0 1 f fd ["thing"] spInteger := by
  refine D.fn.ok scInteger (fun vs H Q E h => ?_) (fun cdv A outer s H vs Q E hr h => ?_)
  · obtain ⟨x, rfl, _⟩ := h
    rfl
  · obtain ⟨x, rfl, q⟩ := h
    refine ⟨_, pss_one (ps_ret (pe_and (pe_callB call_isi (by rfl) T.isi (by decide +kernel) (pa_cons (pv 0) (pa_cons (pe_bltn (v := .ty "int") (by rfl) T.int (by decide +kernel) rfl) pa_nil)))
      (pe_one (pe_not (pe_callB call_isi (by rfl) T.isi (by decide +kernel) (pa_cons (pv 0) (pa_cons (pe_bltn (v := .ty "bool") (by rfl) T.bool (by decide +kernel) rfl) pa_nil))))))), ?_⟩
    refine ⟨_, rfl, _, _, _, _, true, rfl, .ty "int", .base (.int x), kit_ty (by decide +kernel), true, rfl, iteT ?_⟩
    exact ⟨_, rfl, _, _, _, _, false, rfl, .ty "bool", .base (.int x), kit_ty (by decide +kernel), false, rfl, q⟩
theorem scBetween : FnScope ["thing", "least", "most"] ["thing", "least", "most"] (defScope sBetween) := ⟨rfl, rfl, rfl, by decide +kernel, rfl, by decide +kernel, by decide +kernel⟩
theorem ok_between {f1 : Addr} {fd1 : FuncData} (D : Df K mg "is_between" sBetween ["thing", "least", "most"] f fd) (D1 : Df K mg "is_integer" sInteger ["thing"] f1 fd1) (T : Txt mg) : FnOk P w K mg base CX0 2 f fd ["thing", "least", "most"] spBetween := by
  have G1 : FnOk P w K mg base CX0 1 f1 fd1 ["thing"] spInteger := ok_integer D1 T
  refine D.fn.ok scBetween (fun vs H Q E h => ?_) (fun cdv A outer s H vs Q E hr h => ?_)
  · obtain ⟨x, lo, hi, rfl, _⟩ := h
    rfl
  · obtain ⟨x, lo, hi, rfl, q⟩ := h
    refine ⟨_, pss_one (ps_ret (pe_and (pcall D1 G1 hr (pa_cons (pv 0) pa_nil)) (pe_one (pe_chain op_le op_le (pv 1) (pv 0) (pv 2))))), ?_⟩
    refine ⟨_, rfl, x, rfl, true, rfl, iteT ?_⟩
    refine ⟨_, rfl, _, rfl, lo, x, rfl, rfl, _, rfl, ?_⟩
    refine ite2 (fun h1 => ?_) (fun h1 => ?_)
    · have h1' := of_decide_eq_true h1
      refine ⟨_, rfl, x, hi, rfl, rfl, ?_⟩
      have e : decide (x ≤ hi) = decide (lo ≤ x ∧ x ≤ hi) := by
        rw [Bool.eq_iff_iff, decide_eq_true_iff, decide_eq_true_iff]
        exact ⟨fun z => ⟨h1', z⟩, fun z => z.2⟩
      show Q (.bl (decide (x ≤ hi))) H
      rw [e]
      exact q
    · have h1' : ¬ lo ≤ x := fun z => h1 (decide_eq_true z)
      have e : decide (lo ≤ x ∧ x ≤ hi) = false := decide_eq_false fun z => h1' z.1
      rw [e] at q
      exact q
theorem scIndex : FnScope ["thing", "many"] ["thing", "many"] (defScope sIndex) := ⟨rfl, rfl, rfl, by decide +kernel, rfl, by decide +kernel, by decide +kernel⟩
theorem ok_index {f2 : Addr} {fd2 : FuncData} (D : Df K mg "is_index" sIndex ["thing", "many"] f fd) (D2 : Df K mg "is_between" sBetween ["thing", "least", "most"] f2 fd2) (G2 : FnOk P w K mg base CX0 2 f2 fd2 ["thing", "least", "most"] spBetween) (T : Txt mg) : FnOk P w K mg base CX0 3 f fd ["thing", "many"] spIndex := by
  refine D.fn.ok scIndex (fun vs H Q E h => ?_) (fun cdv A outer s H vs Q E hr h => ?_)
  · obtain ⟨x, m, rfl, _⟩ := h
    rfl
  · obtain ⟨x, m, rfl, q⟩ := h
    refine ⟨_, pss_one (ps_ret (pcall D2 G2 hr (pa_cons (pv 0) (pa_cons pe_int (pa_cons (pe_op op_sub (pv 1) pe_int) pa_nil))))), ?_⟩
    exact ⟨_, rfl, _, rfl, _, _, rfl, rfl, x, 0, m - 1, rfl, q⟩
theorem scIntegers : FnScope ["thing", "many", "one"] ["thing", "many"] (defScope sIntegers) := ⟨rfl, rfl, rfl, by decide +kernel, rfl, by decide +kernel, by decide +kernel⟩
theorem ok_integers {f1 : Addr} {fd1 : FuncData} (D : Df K mg "is_integers" sIntegers ["thing", "many"] f fd) (D1 : Df K mg "is_integer" sInteger ["thing"] f1 fd1) (T : Txt mg) : FnOk P w K mg base CX0 2 f fd ["thing", "many"] spIntegers := by
  have G1 : FnOk P w K mg base CX0 1 f1 fd1 ["thing"] spInteger := ok_integer D1 T
  refine D.fn.ok scIntegers (fun vs H Q E h => ?_) (fun cdv A outer s H vs Q E hr h => ?_)
  · obtain ⟨a, xs, rfl, _⟩ := h
    rfl
  · obtain ⟨a, xs, rfl, hT, hl, q⟩ := h
    refine ⟨_, pss_one (ps_ret (pe_and (pe_callB call_isi (by rfl) T.isi (by decide +kernel) (pa_cons (pv 0) (pa_cons (pe_bltn (v := .ty "tuple") (by rfl) T.tuple (by decide +kernel) rfl) pa_nil)))
      (pe_and (pe_cmpR op_eq (pe_callB call_len_seq (by rfl) T.len PySem.boot_len (pa_cons (pv 0) pa_nil)) (pv 1) (nomark _))
      (pe_one (pe_callB (cr_all rfl) (by rfl) T.all (by decide +kernel) (pa_cons (pe_lc (own := [("one", 2)]) (g := gName 2) (tt := tYes) rfl scIntegers.nd (pi_tup (pv 0)) (blkOk_by (N := ["thing", "many", "one"]) (sc := defScope sIntegers) (by decide +kernel)) (fun _ _ _ _ _ => pg_name (i := 2) scIntegers.nd rfl (Or.inl rfl)) (fun _ _ _ _ _ => pts_nil) (fun _ _ _ _ _ => pcall D1 G1 hr (pa_cons (pv 2) pa_nil))) pa_nil)))))), ?_⟩
    refine ⟨_, rfl, _, _, _, _, true, rfl, .ty "tuple", .base (.tup hT), kit_ty (by decide +kernel), true, rfl, iteT ?_⟩
    refine ⟨_, rfl, a, _, rfl, .inr hT.seq, _, rfl, rfl, _, rfl, ?_⟩
    have e : decide (V.int ((xs.map V.int).length : Nat) = V.int (xs.length : Nat)) = true := decide_eq_true (by rw [List.length_map])
    show if decide (V.int ((xs.map V.int).length : Nat) = V.int (xs.length : Nat)) = true then _ else _
    rw [e]
    refine iteT ?_
    refine ⟨_, rfl, a, rfl, ⟨_, hT.seq⟩, fun L nL => ?_⟩
    refine lc_tup (K := K) (a := a) (xs := xs.map V.int) (fun i H' => Same H H' ∧ H' L = some (.lst ((List.replicate i true).map V.bl))) ⟨same_upd nL, upd_same⟩ (fun i H' _ h => (hT.same h.1).seq) ?_ ?_
    · rintro i x H1 hi ⟨s1, e1⟩
      obtain ⟨z, hz, rfl⟩ := at_map hi
      have hlt : i < xs.length := (List.getElem?_eq_some_iff.mp hz).1
      refine ⟨rfl, _, rfl, z, rfl, _, e1, ?_, ?_, ?_⟩
      · simp only [List.length_map, List.length_replicate]
        exact small1000 (by omega)
      · intro b o hb
        have hn : b ≠ L := ne_of_none hb nL
        rw [upd_ne hn]
        exact s1 _ _ hb
      · rw [upd_same, List.replicate_succ', List.map_append]
        rfl
    · rintro H1 ⟨s1, e1⟩
      refine ⟨L, List.replicate (xs.map V.int).length true, rfl, .of e1, ?_⟩
      have e : (List.replicate (xs.map V.int).length true).all id = true := by
        rw [List.all_eq_true]
        intro b hb
        exact (List.mem_replicate.mp hb).2
      rw [e]
      exact q H1 s1
theorem scIsRow : FnScope ["thing", "letter"] ["thing"] (defScope sIsRow) := ⟨rfl, rfl, rfl, by decide +kernel, rfl, by decide +kernel, by decide +kernel⟩
theorem ok_isrow {f3 : Addr} {fd3 : FuncData} (D : Df K mg "is_row" sIsRow ["thing"] f fd) (D3 : Df K mg "is_index" sIndex ["thing", "many"] f3 fd3) (G3 : FnOk P w K mg base CX0 3 f3 fd3 ["thing", "many"] spIndex) (T : Txt mg) : FnOk P w K mg base CX0 4 f fd ["thing"] spIsRow := by
  obtain ⟨tL, hL⟩ := T.lanes
  obtain ⟨tM, hM⟩ := T.letters
  refine D.fn.ok scIsRow (fun vs H Q E h => ?_) (fun cdv A outer s H vs Q E hr h => ?_)
  · obtain ⟨a, xs, rfl, _⟩ := h
    rfl
  · obtain ⟨a, r, rfl, hT, ⟨hl1, hl2, hx⟩, q⟩ := h
    refine ⟨_, pss_cons (ps_if (PW.pt (pw_or (pt_not (pt_val (pe_callB call_isi (by rfl) T.isi (by decide +kernel) (pa_cons (pv 0) (pa_cons (pe_bltn (v := .ty "tuple") (by rfl) T.tuple (by decide +kernel) rfl) pa_nil)))))
        (pw_or1 (pt_not (pt_chain op_le op_le pe_int (pe_callB call_len_seq (by rfl) T.len PySem.boot_len (pa_cons (pv 0) pa_nil)) (pe_glob (v := .int 1000) rfl hL ⟨_, rfl⟩))))))
        pss_never pss_nil)
      (pss_one (ps_ret (pe_callB (cr_all rfl) (by rfl) T.all (by decide +kernel) (pa_cons (pe_lc (own := [("letter", 1)]) (g := gName 1) (tt := tYes) rfl scIsRow.nd (pi_tup (pv 0)) (blkOk_by (N := ["thing", "letter"]) (sc := defScope sIsRow) (by decide +kernel)) (fun _ _ _ _ _ => pg_name (i := 1) scIsRow.nd rfl (Or.inl rfl)) (fun _ _ _ _ _ => pts_nil)
        (fun _ _ _ _ _ => pcall D3 G3 hr (pa_cons (pv 1) (pa_cons (pe_glob (v := .int 4) rfl hM ⟨_, rfl⟩) pa_nil)))) pa_nil)))), ?_⟩
    refine ⟨_, rfl, _, _, _, _, true, rfl, .ty "tuple", .base (.tup hT), kit_ty (by decide +kernel), true, rfl, iteF ?_⟩
    have e1 : decide ((1 : Int) ≤ ((r.map V.int).length : Nat)) = true := decide_eq_true (by rw [List.length_map]; omega)
    have e2 : decide ((((r.map V.int).length : Nat) : Int) ≤ 1000) = true := decide_eq_true (by rw [List.length_map]; omega)
    refine ⟨_, rfl, a, _, rfl, .inr hT.seq, _, _, rfl, rfl, _, rfl, ?_⟩
    rw [e1]
    refine iteT ⟨_, _, rfl, rfl, true, congrArg V.bl e2, iteF ?_⟩
    refine ⟨_, rfl, a, rfl, ⟨_, hT.seq⟩, fun L nL => ?_⟩
    refine lc_tup (K := K) (a := a) (xs := r.map V.int) (fun i H' => Same H H' ∧ H' L = some (.lst ((List.replicate i true).map V.bl))) ⟨same_upd nL, upd_same⟩ (fun i H' _ h => (hT.same h.1).seq) ?_ ?_
    · rintro i x H1 hi ⟨s1, e1⟩
      obtain ⟨z, hz, rfl⟩ := at_map hi
      have hlt : i < r.length := (List.getElem?_eq_some_iff.mp hz).1
      have hzz := hx z (List.mem_of_getElem? hz)
      refine ⟨rfl, _, rfl, z, 4, rfl, _, e1, ?_, ?_, ?_⟩
      · simp only [List.length_map, List.length_replicate]
        exact small1000 (by omega)
      · intro b o hb
        have hn : b ≠ L := ne_of_none hb nL
        rw [upd_ne hn]
        exact s1 _ _ hb
      · rw [upd_same, List.replicate_succ', List.map_append, decide_eq_true (show 0 ≤ z ∧ z ≤ 4 - 1 by omega)]
        rfl
    · rintro H1 ⟨s1, e1⟩
      refine ⟨L, List.replicate (r.map V.int).length true, rfl, .of e1, ?_⟩
      have e : (List.replicate (r.map V.int).length true).all id = true := by
        rw [List.all_eq_true]
        intro b hb
        exact (List.mem_replicate.mp hb).2
      rw [e]
      exact q H1 s1
theorem scCheckRow : FnScope ["thing"] ["thing"] (defScope sCheckRow) := ⟨rfl, rfl, rfl, by decide +kernel, rfl, by decide +kernel, by decide +kernel⟩
theorem ok_checkrow {f4 : Addr} {fd4 : FuncData} (D : Df K mg "check_row" sCheckRow ["thing"] f fd) (D4 : Df K mg "is_row" sIsRow ["thing"] f4 fd4) (G4 : FnOk P w K mg base CX0 4 f4 fd4 ["thing"] spIsRow) : FnOk P w K mg base CX0 5 f fd ["thing"] spCheckRow := by
  refine D.fn.ok scCheckRow (fun vs H Q E h => ?_) (fun cdv A outer s H vs Q E hr h => ?_)
  · obtain ⟨a, xs, rfl, _⟩ := h
    rfl
  · obtain ⟨a, r, rfl, hT, hR, q⟩ := h
    refine ⟨_, pss_one (ps_if (pt_not (pt_val (pcall D4 G4 hr (pa_cons (pv 0) pa_nil)))) pss_never pss_nil), ?_⟩
    exact ⟨_, rfl, a, r, rfl, hT, hR, fun H1 s1 => ⟨true, rfl, iteF (q H1 s1)⟩⟩
theorem wordL_len (r : List Int) : (wordL r).length ≤ r.length := (wordL_sub r).length_le
theorem word_take {r : List Int} {i : Nat} {x : Int} (h : r[i]? = some x) : wordL (r.take (i + 1)) = pushW (wordL (r.take i)) x := by
  rw [List.take_add_one, h, Option.toList_some, wordL_snoc]
theorem scWordOf : FnScope ["row", "lane"] ["row"] (defScope sWordOf) := ⟨rfl, rfl, rfl, by decide +kernel, rfl, by decide +kernel, by decide +kernel⟩
theorem ok_wordof (D : Df K mg "word_of" sWordOf ["row"] f fd) (T : Txt mg) : FnOk P w K mg base CX0 1 f fd ["row"] spWordOf := by
  refine D.fn.ok scWordOf (fun vs H Q E h => ?_) (fun cdv A outer s H vs Q E hr h => ?_)
  · obtain ⟨a, xs, rfl, _⟩ := h
    rfl
  · obtain ⟨a, r, rfl, hT, ⟨hl1, hl2, hx⟩, q⟩ := h
    refine ⟨_, pss_one (ps_ret (pe_callTy call_tuple_of (by rfl) T.tuple (by decide +kernel) (pa_cons (pe_lc (own := [("lane", 1)]) (g := gName 1) rfl scWordOf.nd (pi_range1 rfl T.range (pa_cons (pe_callB call_len_seq (by rfl) T.len PySem.boot_len (pa_cons (pv 0) pa_nil)) pa_nil))
      (blkOk_by (N := ["row", "lane"]) (sc := defScope sWordOf) (by decide +kernel)) (fun _ _ _ _ _ => pg_name (i := 1) scWordOf.nd rfl (Or.inl rfl))
      (fun _ _ _ _ _ => pts_one (PW.pt (pw_or (pt_cmpR op_eq (pv 1) pe_int (nomark _)) (pw_or1 (pt_cmpR op_ne (pe_ix (r := rIxT K) ix_tup (pv 0) (pv 1) (fun _ _ => rfl)) (pe_ix (r := rIxT K) ix_tup (pv 0) (pe_op op_sub (pv 1) pe_int) (fun _ _ => rfl)) (nomark _))))))
      (fun _ _ _ _ _ => pe_ix (r := rIxT K) ix_tup (pv 0) (pv 1) (fun _ _ => rfl))) pa_nil))), ?_⟩
    have el : (((r.map V.int).length : Nat) : Int).toNat = r.length := by simp
    refine ⟨_, rfl, a, _, rfl, .inr hT.seq, _, rfl, by omega, by rw [List.length_map]; omega, fun L nL => ?_⟩
    refine lc_range (lo := 0) (n := (((r.map V.int).length : Nat) : Int).toNat) (fun i H' => Same H H' ∧ H' L = some (.lst ((wordL (r.take i)).map V.int))) ⟨same_upd nL, upd_same⟩ ?_ ?_
    · rintro i H1 hi ⟨s1, e1⟩
      rw [el] at hi
      have hz : r[i]? = some r[i] := List.getElem?_eq_getElem hi
      have ei : ((0 : Int) + (i : Nat)) = (i : Nat) := by omega
      rw [ei]
      have hT1 := hT.same s1
      have hat : atI (r.map V.int) ((i : Nat) : Int) = some (.int r[i]) := atI_map hz
      have hlen : ((wordL (r.take i)).map V.int).length < sizeLine := by
        rw [List.length_map]
        have h1 := wordL_len (r.take i)
        rw [List.length_take] at h1
        exact small1000 (by omega)
      have hsame : ∀ ys, Same H (upd H1 L (.lst ys)) := fun ys b o hb => by
        rw [upd_ne (ne_of_none hb nL)]
        exact s1 _ _ hb
      refine ⟨rfl, ?_⟩
      refine ⟨_, rfl, rfl, _, rfl, ?_⟩
      refine ite2 (fun h0 => ?_) (fun h0 => ?_)
      · have h0 : i = 0 := by
          have := V.int.inj (of_decide_eq_true h0)
          omega
        subst h0
        refine iteT ?_
        refine ⟨_, rfl, _, rfl, a, _, _, _, rfl, rfl, hT1.seq, hat, _, e1, hlen, hsame _, ?_⟩
        rw [upd_same, word_take hz]
        rfl
      · have h0 : i ≠ 0 := fun z => h0 (decide_eq_true (by rw [z]; rfl))
        have hlt : i - 1 < r.length := by omega
        have hz1 : r[i - 1]? = some r[i - 1] := List.getElem?_eq_getElem hlt
        have hat1 : atI (r.map V.int) (((i : Nat) : Int) - 1) = some (.int r[i - 1]) := by
          have e : (((i : Nat) : Int) - 1) = ((i - 1 : Nat) : Int) := by omega
          rw [e]
          exact atI_map hz1
        have hlast : (wordL (r.take i)).getLast? = some r[i - 1] := by
          rw [getLast_wordL, List.getLast?_take, if_neg h0, hz1]
          rfl
        refine ⟨_, rfl, _, rfl, a, _, _, _, rfl, rfl, hT1.seq, hat, _, rfl, _, rfl, _, _, rfl, rfl, a, _, _, _, rfl, rfl, hT1.seq, hat1, rfl, _, rfl, ?_⟩
        refine ite2 (fun h2 => ?_) (fun h2 => ?_)
        · have h2 : ¬ r[i - 1] = r[i] := fun z => by
            rw [z] at h2
            simp at h2
          refine ⟨_, rfl, _, rfl, a, _, _, _, rfl, rfl, hT1.seq, hat, _, e1, hlen, hsame _, ?_⟩
          rw [upd_same, word_take hz]
          unfold pushW
          rw [hlast, if_neg (fun z => h2 (Option.some.inj z)), List.map_append]
          rfl
        · have h2 : r[i - 1] = r[i] := by
            by_cases z : r[i - 1] = r[i]
            · exact z
            · exact absurd (by simp; exact fun y => z y.symm) h2
          refine ⟨s1, ?_⟩
          rw [e1, word_take hz]
          unfold pushW
          rw [hlast, if_pos (by rw [h2])]
    · rintro H1 ⟨s1, e1⟩
      rw [el, List.take_length] at e1
      refine ⟨L, _, rfl, .inl ⟨.of e1, fun p np => ?_⟩⟩
      exact q p _ (s1.trans (same_upd np)) upd_same
theorem scWord : FnScope ["row"] ["row"] (defScope sWord) := ⟨rfl, rfl, rfl, by decide +kernel, rfl, by decide +kernel, by decide +kernel⟩
theorem ok_word {f5 f1 : Addr} {fd5 fd1 : FuncData} (D : Df K mg "word" sWord ["row"] f fd) (D5 : Df K mg "check_row" sCheckRow ["thing"] f5 fd5) (G5 : FnOk P w K mg base CX0 5 f5 fd5 ["thing"] spCheckRow) (D1 : Df K mg "word_of" sWordOf ["row"] f1 fd1) (G1 : FnOk P w K mg base CX0 1 f1 fd1 ["row"] spWordOf) :
    FnOk P w K mg base CX0 6 f fd ["row"] spWordOf := by
  refine D.fn.ok scWord (fun vs H Q E h => ?_) (fun cdv A outer s H vs Q E hr h => ?_)
  · obtain ⟨a, xs, rfl, _⟩ := h
    rfl
  · obtain ⟨a, r, rfl, hT, hR, q⟩ := h
    refine ⟨_, pss_cons (ps_expr (pcall D5 G5 hr (pa_cons (pv 0) pa_nil))) (pss_one (ps_ret (pcall D1 G1 (hr.mono (by decide)) (pa_cons (pv 0) pa_nil)))), ?_⟩
    refine ⟨_, rfl, a, r, rfl, hT, hR, fun H1 s1 => ?_⟩
    exact ⟨_, rfl, a, r, rfl, hT.same s1, hR, fun p H2 s2 h2 => q p H2 (s1.trans s2) h2⟩
end
end Fly

set_option Elab.async false
set_option linter.all false
set_option maxRecDepth 100000
set_option maxHeartbeats 4000000
/-! for i, x in enumerate(t), t a tuple -/
namespace Fly
open PySem PySem.Spec PyProof.Rows L2
theorem enum_new1 {v : Value} {ob : Obj} {HP : Heap → Prop} (B : Begins v ob HP) :
    Meets (Builtin.«enumerate.__new__» ⟨[.type "enumerate", v], []⟩) (fun _ R z => HP z.heap ∧
      R (.ok (.ret (.ref (z.heap.push ob).objs.size))) { z with heap := (z.heap.push ob).push { cls := .type "enumerate", data := .fields #[.none, .bool false, .ref z.heap.objs.size, rawInt 0, .none, .none] } }) :=
  .of_wp fun prog w A R z hz => by
    obtain ⟨hp, gg, dr, tk, os⟩ := z
    obtain ⟨hz1, hz2⟩ := hz
    have sub0 := sub_enumerate
    have step1 : ∀ {A2 : Around} {E2 : Value → Shared → Prop} {Q2 : Value → Shared → Prop}, Q2 (.ref hp.objs.size) ⟨hp.push ob, gg, dr, tk, os⟩ → wpAny (model prog w) A2 (pyIter v) Q2 E2 ⟨hp, gg, dr, tk, os⟩ :=
      fun qq => B.iter prog w _ _ ⟨hp, gg, dr, tk, os⟩ _ hz1 qq
    wp_walk using step1
    refine wpAny_stack_any fun stk => wpAny_pure ?_
    split
    · rename_i cc _ _ _ _ _
      cases (cc == Value.type "enumerate")
      · wp_walk using step1
        exact ⟨_, rfl, hz2⟩
      · wp_walk using step1
        exact ⟨_, rfl, hz2⟩
    · wp_walk using step1
      exact ⟨_, rfl, hz2⟩
section
variable {prog : Program} {w : World} {A : Around} {E : Value → Shared → Prop} {s : Shared}
theorem enum_begins1 {v : Value} {ob : Obj} {HP : Heap → Prop} {Q : Value → Shared → Prop} (B : Begins v ob HP) (h1 : HP s.heap)
    (h : ∀ g, IsEnum g (s.heap.objs.size + 1) s.heap.objs.size 0 .none → g.get? s.heap.objs.size = some ob → g.objs.size = s.heap.objs.size + 2 →
      (∀ b o, s.heap.get? b = some o → g.get? b = some o) → Q (.ref (s.heap.objs.size + 1)) { s with heap := g }) :
    wpAny (model prog w) A (call (.type "enumerate") [v]) Q E s := by
  refine callType_new F.called_enumerate (by decide) (F.typeCall_enumerate_1 _) (F.newCall_enumerate_1 _) (fun obj => F.args_object_init_2 obj _) F.entry_enumerate_new (enum_new1 B) ⟨h1, ?_⟩
  have size1 : (s.heap.push ob).objs.size = s.heap.objs.size + 1 := Heap.size_push ..
  show _ ∧ _
  rw [size1]
  have en : IsEnum ((s.heap.push ob).push { cls := .type "enumerate", data := .fields #[.none, .bool false, .ref s.heap.objs.size, rawInt 0, .none, .none] }) (s.heap.objs.size + 1) s.heap.objs.size 0 .none := by
    have e0 := Heap.get?_push_size (s.heap.push ob) (o := { cls := .type "enumerate", data := .fields #[.none, .bool false, .ref s.heap.objs.size, rawInt 0, .none, .none] }) rfl
    rw [size1] at e0
    exact e0
  exact ⟨⟨_, en, rfl⟩, h _ en (Heap.get?_push_of_some _ (Heap.get?_push_size _ B.free)) (by rw [Heap.size_push, size1]) fun b o y => Heap.get?_push_of_some _ (Heap.get?_push_of_some _ y)⟩
end
/-- the tuple at a, each item in a new pair with its place -/
def IteT (K : PySem.W.Frag) (a : Addr) : It :=
  ⟨fun j H => ∃ (items : List V) (y : V), SqT K H a items ∧ items[j]? = some y,
    fun j H v H2 => ∃ pr y, v = .ref pr ∧ H pr = none ∧ H2 = upd H pr (.tup [.int (j : Nat), y]) ∧ ∀ items, SqT K H a items → items[j]? = some y,
    fun j H => ∃ items : List V, SqT K H a items ∧ items.length = j⟩
/-- what the two cells of the iterator hold ahead of turn j -/
def EnSt (a e it : Addr) (j : Nat) (g : Heap) : Prop := (∃ last, IsEnum g e it ((j : Nat) : Int) last) ∧ g.IsTupleIter it a j ∧ e ≠ it ∧ e ≠ a
theorem two_cells {b e it : Addr} {p : Addr → Prop} (hb : b ∈ [e, it]) (h1 : p e) (h2 : p it) : p b := by
  rcases List.mem_cons.mp hb with z | hb
  · rw [z]
    exact h1
  · rw [List.mem_singleton.mp hb]
    exact h2
theorem turn_enumT {P : Program} {w : World} {K : PySem.W.Frag} {elts : List Expr} {kk : Nat} {tpos : Pos} (a e it : Addr) (hat : a ≠ it) :
    Turn P w K (.Tuple elts kk tpos) (IteT K a) [e, it] e (EnSt a e it) where
  mem := List.mem_cons_self
  obj := fun j g st b hb => two_cells (p := fun b => ∃ o, g.get? b = some o ∧ ∀ v, o.data ≠ .cell v) hb
    (let ⟨⟨_, he⟩, _⟩ := st; ⟨_, he, fun v z => nomatch z⟩)
    (let ⟨_, ⟨o, ho, _, hd⟩, _⟩ := st; ⟨o, ho, fun v z => nomatch hd.symm.trans z⟩)
  keep := fun j g g2 st k => by
    obtain ⟨⟨last, he⟩, hi, apart⟩ := st
    exact ⟨⟨last, k e List.mem_cons_self _ he⟩, hi.at fun o z => k it (List.mem_cons_of_mem _ List.mem_cons_self) o z, apart⟩
  item := by
    intro X hP hw hK calm j pins s σ H E inv fresh st goes
    cases hP
    cases hw
    cases hK
    obtain ⟨⟨last, he⟩, hit, apart, ea⟩ := st
    obtain ⟨items, y, isT, aty⟩ := goes
    obtain ⟨vals, rels, tupA, _⟩ := inv.tuple isT
    obtain ⟨u, atu, rel⟩ := rels.get aty
    have tupB : s.heap.IsTuple a vals.toArray := tupA
    have le : e < s.heap.objs.size := Heap.lt_size he
    have li : it < s.heap.objs.size := let ⟨_, z, _⟩ := hit; Heap.lt_size z
    have lj : j < vals.toArray.size := by
      rw [List.size_toArray]
      exact (List.getElem?_eq_some_iff.mp atu).1
    refine wpAny_pyNext_enum_itemD (Draws.tuple (prog := X.prog) (w := X.w) (A := X.A.in1) (inv.ok.hd calm) it a hat vals.toArray) he ⟨hit, tupB⟩ lj apart (by simp [apart, ea]) fun got g tk atg out stT pairT sizeT keepT => ?_
    have eg : got = u := by
      rw [List.getElem?_toArray, atu] at atg
      exact (Option.some.inj atg).symm
    subst eg
    refine ⟨_, rfl, wpAny_letOwnedTupleGo_enum (s := { s with heap := g, toks := tk + 1 }) out fun g2 en2 but => ?_⟩
    have pair2 : g2.get? s.heap.objs.size = some { cls := .type "tuple", data := .seq #[.int j tk, got] } := (but.2 _ (Nat.ne_of_gt le)).trans pairT
    have laid : ObjOk X.prog X.w (upd H s.heap.objs.size (.tup [.int (j : Nat), y])) g2 s.heap.objs.size (.tup [.int (j : Nat), y]) :=
      ⟨small1001 (n := 2) (by decide), [.int j tk, got], .cons ⟨_, rfl⟩ (.cons rel .nil), ⟨_, pair2, rfl, _, rfl⟩⟩
    have inv2 : L2.Inv X pins σ (upd H s.heap.objs.size (.tup [.int (j : Nat), y])) { s with heap := g2, toks := tk + 1 } := by
      refine inv.turnedNew (ch := [e, it]) (fun b ob nb z => ?_) fresh (Nat.le_refl _) laid
      have be : b ≠ e := fun z => nb (z ▸ List.mem_cons_self)
      have bi : b ≠ it := fun z => nb (z ▸ List.mem_cons_of_mem _ List.mem_cons_self)
      exact (but.2 b be).trans (keepT b ob be bi z)
    refine ⟨.ref s.heap.objs.size, _, inv2, rfl, ⟨_, y, rfl, inv.hok.fresh (Nat.le_refl _), rfl, fun items2 is2 => ?_⟩, ⟨⟨got, ?_⟩, stT.1.at fun o z => (but.2 it (Ne.symm apart)).trans z, apart, ea⟩, fun b hb => ?_⟩
    · rw [inv.tuple_inj is2 isT]
      exact aty
    · rw [show ((j + 1 : Nat) : Int) = (j : Int) + 1 by omega]
      exact en2
    · have small : b < s.heap.objs.size := two_cells (p := fun b => b < s.heap.objs.size) hb le li
      rw [upd_ne (Nat.ne_of_lt small)]
      exact (fresh b hb).1
  done := by
    intro X hP hw hK calm j pins s σ H E inv fresh st goes
    cases hP
    cases hw
    cases hK
    obtain ⟨⟨last, he⟩, hit, apart, ea⟩ := st
    obtain ⟨items, isT, full⟩ := goes
    obtain ⟨vals, rels, tupA, _⟩ := inv.tuple isT
    have tupB : s.heap.IsTuple a vals.toArray := tupA
    have fr := fresh it (List.mem_cons_of_mem _ List.mem_cons_self)
    have ej : vals.toArray.size = j := by
      have := rels.length
      rw [List.size_toArray]
      omega
    refine wpAny_pyNext_enum_endD (Draws.tuple (prog := X.prog) (w := X.w) (A := X.A.in1) (inv.ok.hd calm) it a hat vals.toArray) he (by rw [ej]; exact ⟨hit, tupB⟩) fun g ext => ?_
    exact ⟨rfl, inv.turned (t' := s.toks) (fun b o nb z => ext b o nb z) fr.1 fr.2.1 fr.2.2.2.1 fr.2.2.2.2.1 fr.2.2.2.2.2⟩
  self := fun _ _ _ _ _ st fin => let ⟨⟨_, he⟩, _⟩ := st; wpAny_pyIter_enum he fin
def iEnumT (K : PySem.W.Frag) (ta : TA) : TI := fun σ H R => ta σ H fun vs G => ∃ a items, vs = [.ref a] ∧ SqT K G a items ∧ R (IteT K a) G
theorem pi_enumT {X : Cx} {e : Expr} {ta : TA} {p pos tpos : Pos} {elts : List Expr} {kk : Nat} (hg : Gl X "enumerate") (hm : X.mg "enumerate" = none) (ha : PA X [e] ta) (hs : starEach [e] X.env = [(false, eval e X.env)] := by rfl) :
    PI X (.Tuple elts kk tpos) (.Call (.Name "enumerate" p) [e] [] pos) (iEnumT X.K ta) := by
  constructor
  intro pins s σ H R inv hw
  refine Call_ (ld_blt inv hg hm boot_enumerate (PyProof.Rows.callWith_type1 (thn (ha.run pos pins s σ H _ inv hw) fun us z ⟨vs, G, inv1, rels, want⟩ => ?_) hs rfl))
  obtain ⟨a, items, ev, isT, want⟩ := want
  subst ev
  obtain ⟨u, eu, rel⟩ := rels.one
  subst eu
  cases rel
  obtain ⟨vals, _, tupA, _⟩ := inv1.tuple isT
  have tupB : z.heap.IsTuple a vals.toArray := tupA
  have la : a < z.heap.objs.size := let ⟨_, q, _⟩ := tupB; Heap.lt_size q
  refine enum_begins1 (begins_tuple a vals.toArray) tupB fun g he hit hsz hk => wpAny_pyIter_enum he ?_
  have inv2 : L2.Inv X pins σ G { z with heap := g } := inv1.kept (t' := z.toks) hk
  have turn := turn_enumT (P := X.prog) (w := X.w) (K := X.K) (elts := elts) (kk := kk) (tpos := tpos) a (z.heap.objs.size + 1) z.heap.objs.size (Nat.ne_of_lt la)
  refine ⟨z.heap.objs.size + 1, [z.heap.objs.size + 1, z.heap.objs.size], _, _, G, rfl, inv2, turn, ⟨⟨.none, he⟩, ⟨_, hit, rfl, rfl⟩, Nat.succ_ne_self _, Nat.ne_of_gt (Nat.lt_succ_of_lt la)⟩, fun b hb => ?_, want⟩
  have hle : z.heap.objs.size ≤ b := two_cells (p := fun b => z.heap.objs.size ≤ b) hb (Nat.le_succ _) (Nat.le_refl _)
  exact inv1.fpOk hle (inv1.hok.fresh hle)
theorem walk_enumT {K : PySem.W.Frag} {a : Addr} {xs : List V} : Walk (IteT K a) xs.length (fun H => SqT K H a xs) (YPair (fun j => some (.int (j : Nat))) (fun j => xs[j]?)) where
  goes := fun j _ hj is => ⟨xs, xs[j], is, List.getElem?_eq_getElem hj⟩
  stops := fun _ is => ⟨xs, is, rfl⟩
  yields := fun j H v H2 _ is made => by
    obtain ⟨pr, y, r1, r2, r3, r4⟩ := made
    exact ⟨pr, .int (j : Nat), y, r1, r2, r3, rfl, r4 xs is⟩
end Fly

set_option Elab.async false
set_option linter.all false
set_option maxRecDepth 100000
set_option maxHeartbeats 4000000
/-! t[::-1], t a tuple -/
namespace Fly
open PySem PySem.Spec PyProof.Rows L2
theorem adjust_rev (n : Nat) : Builtin.Slice.sliceAdjust none none (-1) (n : Int) = ((n : Int) - 1, -1) := by
  simp [Builtin.Slice.sliceAdjust]
theorem places_rev (n : Nat) : Builtin.Slice.slicePlaces ((n : Int) - 1) (-1) (-1) = n := by
  have down : ¬ ((-1 : Int) > 0) := by omega
  show (if (-1 : Int) > 0 then (if (n : Int) - 1 < -1 then (-1 - ((n : Int) - 1) - 1) / -1 + 1 else 0) else (if (n : Int) - 1 > -1 then ((n : Int) - 1 - -1 - 1) / (-(-1 : Int)) + 1 else 0)).toNat = n
  rw [if_neg down, show (-(-1 : Int)) = 1 from rfl, Int.ediv_one]
  split <;> omega
theorem fm_congr {α β : Type} {f g : α → Option β} : ∀ {l : List α}, (∀ m ∈ l, f m = g m) → l.filterMap f = l.filterMap g
  | [], _ => rfl
  | a :: l, h => by
    rw [List.filterMap_cons, List.filterMap_cons, h a (by simp), fm_congr (l := l) fun m hm => h m (by simp [hm])]
theorem part_int {v : Value} {i : Int} (h : IsPart v (some i)) : ∃ t, v = .int i t := by
  cases h
  exact ⟨_, rfl⟩
theorem part_none {v : Value} (h : IsPart v none) : v = .none := by
  cases h
  rfl
theorem pick_rev (xs : Array Value) : ((List.range xs.size).filterMap fun (m : Nat) => xs[(((xs.size : Nat) : Int) - 1 + (m : Int) * (-1)).toNat]?).toArray = xs.toList.reverse.toArray := by
  have e : ∀ m ∈ List.range xs.size, xs[(((xs.size : Nat) : Int) - 1 + (m : Int) * (-1)).toNat]? = xs[xs.size - 1 - m]? := fun m hm => by
    have := List.mem_range.mp hm
    have e2 : (((xs.size : Nat) : Int) - 1 + (m : Int) * (-1)).toNat = xs.size - 1 - m := by omega
    rw [e2]
  have e3 : ((List.range xs.size).filterMap fun (m : Nat) => xs[(((xs.size : Nat) : Int) - 1 + (m : Int) * (-1)).toNat]?) = (List.range xs.size).filterMap fun m => xs[xs.size - 1 - m]? := fm_congr e
  rw [e3]
  have e4 : ((List.range xs.size).filterMap fun m => xs[xs.size - 1 - m]?) = ((List.range xs.size).map fun m => xs.size - 1 - m).filterMap (xs[·]?) := by
    rw [List.filterMap_map]
    rfl
  rw [e4, PySem.W.krv_range, List.filterMap_reverse, PySem.W.krv_all]
section
variable {prog : Program} {w : World} {A : Around} {E : Value → Shared → Prop} {s : Shared}
theorem applied_rev {sl : Addr} {u : Tok} {n : Nat} {R : Int × Int × Nat → Shared → Prop} (part : s.heap.IsSliceOf sl .none .none (.int (-1) u)) (fin : R ((n : Int) - 1, -1, n) s) :
    wpAny (model prog w) A (Builtin.Slice.sliceApplied (.ref sl) (pure ((n : Nat) : Int))) R E s := by
  obtain ⟨cell, atC, _, dat⟩ := id part
  unfold Builtin.Slice.sliceApplied
  unfold Builtin.Slice.sliceFields
  have go0 : ∀ {R1 : Value → Shared → Prop}, R1 .none s → wpAny (model prog w) A (field (.ref sl) 0) R1 E s := fun z => wpAny_field atC dat (x := .none) rfl z
  have go1 : ∀ {R1 : Value → Shared → Prop}, R1 .none s → wpAny (model prog w) A (field (.ref sl) 1) R1 E s := fun z => wpAny_field atC dat (x := .none) rfl z
  have go2 : ∀ {R1 : Value → Shared → Prop}, R1 (.int (-1) u) s → wpAny (model prog w) A (field (.ref sl) 2) R1 E s := fun z => wpAny_field atC dat (x := .int (-1) u) rfl z
  refine wpAny_bind (wpAny_bind (go0 (wpAny_bind (go1 (wpAny_bind (go2 (wpAny_pure ?_)))))))
  refine wpAny_bind (slicePart_int ?_)
  show wpAny _ _ (if ((-1 : Int) == 0) = true then _ else _) _ _ s
  rw [if_neg (by decide)]
  refine wpAny_bind (slicePart_none (wpAny_bind (slicePart_none (wpAny_bind (wpAny_pure ?_)))))
  have pl : Builtin.Slice.slicePlaces ((n : Int) - 1) (-1) (-1) = n := places_rev n
  show wpAny _ _ (match Builtin.Slice.sliceAdjust none none (-1) (n : Int) with | (x, y) => pure (x, (-1 : Int), Builtin.Slice.slicePlaces x y (-1))) _ _ s
  rw [adjust_rev]
  show wpAny _ _ (pure ((n : Int) - 1, (-1 : Int), Builtin.Slice.slicePlaces ((n : Int) - 1) (-1) (-1))) _ _ s
  rw [pl]
  exact wpAny_pure fin
theorem getItem_rev {tp sl : Addr} {vals : Array Value} {u : Tok} {R : Value → Shared → Prop} (isT : IsTup s.heap tp vals) (part : s.heap.IsSliceOf sl .none .none (.int (-1) u))
    (fin : R (.ref s.heap.objs.size) { s with heap := s.heap.push { cls := .type "tuple", data := .seq vals.toList.reverse.toArray } }) (room : vals.size ≤ sizeLine) :
    wpAny (model prog w) A (getItem (.ref tp) (.ref sl)) R E s := by
  have fits : sizeOk (.seq vals.toList.reverse.toArray) := by
    show vals.toList.reverse.toArray.size ≤ sizeLine
    rw [List.size_toArray, List.length_reverse, Array.length_toList]
    exact room
  have isSl : s.TypeIs (.ref sl) "slice" := by
    obtain ⟨cell, atC, cl, _⟩ := id part
    exact ⟨cell, atC, cl⟩
  have slot := PyProof.Rows.slot_tuple_getitem
  unfold getItem
  try (with_reducible (refine wpAny_holding ?_))
  try (refine wpAny_bind (wpAny_pure ?_))
  refine wpAny_bind (wpAny_sequenceKey isT.typeIs (by decide) ?_)
  refine wpAny_bind (wpAny_callSpecial?_slot (name := Str.ofString "__getitem__") isT.typeIs slot (wpAny_call_entry slot isT.typeIs entry_tuple_getitem ?_ (args_tuple_getitem _ _)))
  show wpAny _ _ (Builtin.Tuple.tupleItemsOf (.ref tp) >>= _) _ _ s
  refine wpAny_bind (tupleItemsOf_ isT ?_)
  refine wpAny_bind (wpAny_typeOf isSl ?_)
  rw [if_pos (by decide)]
  refine wpAny_bind (applied_rev part ?_)
  have other : ((((vals.size : Nat) : Int) - 1) == 0 && (-1 : Int) == 1 && vals.size == vals.size) = false := by
    rw [show ((-1 : Int) == 1) = false by decide, Bool.and_false, Bool.false_and]
  show wpAny _ _ (if ((((vals.size : Nat) : Int) - 1) == 0 && (-1 : Int) == 1 && vals.size == vals.size) = true then _ else _) _ _ s
  rw [other, if_neg Bool.false_ne_true, pick_rev]
  first
    | exact wpAny_bind (m := Builtin.Tuple.tupleExact _) (wpAny_newObj_type (wpAny_pure ⟨_, rfl, wpAny_pure fin⟩) fits)
    | exact wpAny_bind (m := Builtin.Tuple.tupleExact _) (wpAny_newObj_type (wpAny_bind (wpAny_pure (wpAny_pure ⟨_, rfl, wpAny_pure fin⟩))) fits)
    | exact wpAny_bind (wpAny_bind (m := Builtin.Tuple.tupleExact _) (wpAny_newObj_type (wpAny_pure (wpAny_pure ⟨_, rfl, wpAny_pure fin⟩)) fits))
    | exact wpAny_bind (wpAny_bind (m := Builtin.Tuple.tupleExact _) (wpAny_newObj_type (wpAny_pure ⟨_, rfl, wpAny_pure fin⟩) fits))
end
def tRevT (K : PySem.W.Frag) (te : TE) : TE := fun σ H Q => te σ H fun x G => ∃ a xs, x = .ref a ∧ SqT K G a xs ∧ ∀ p, G p = none → Q (.ref p) (upd G p (.tup xs.reverse))
theorem pe_revT {X : Cx} {e : Expr} {te : TE} {k : Nat} {p1 p2 p3 pos : Pos} (he : PE X e te) : PE X (.Subscript e (.Slice none none (some (.UnaryOp .USub (.Constant (.int 1) k p1) p2)) p3) pos) (tRevT X.K te) := by
  constructor
  intro pins s σ H Q inv hw
  refine Subscript_ (thn (he.run pins s σ H _ inv hw) fun v za ⟨x, G, inva, rel, want⟩ => ?_)
  obtain ⟨a, xs, rfl, isX, want⟩ := want
  cases rel
  have back : PO X (some (.UnaryOp .USub (.Constant (.int 1) k p1) p2)) (tPart (tUn (rU fun i => .int (-i)) (tC (.int 1)))) :=
    po_some (pe_un un_neg pe_int)
  have left := fun (z : Shared) (G' : Hp) (J : L2.Inv X pins σ G' z) => po_none.run pins z σ G' (fun o G2 => o = none ∧ G2 = G') J ⟨rfl, rfl⟩
  refine wpAny_Slice (thn (left za G inva) fun vl zb ⟨l, Gb, invb, pl, el, eb⟩ => ?_)
  subst el eb
  refine thn (left zb Gb invb) fun vu zc ⟨u, Gc, invc, pu, eu, ec⟩ => ?_
  subst eu ec
  refine thn (back.run pins zc σ Gc (fun o G2 => o = some (-1) ∧ G2 = Gc) invc ⟨1, rfl, -1, rfl, rfl, rfl⟩) fun vs zd ⟨o, Gd, invd, ps, eo, ed⟩ => ?_
  subst eo ed
  have el := part_none pl
  have eu := part_none pu
  obtain ⟨tk, et⟩ := part_int ps
  subst el eu et
  have inve : L2.Inv X pins σ Gd { zd with heap := zd.heap.push { cls := .type "slice", data := .fields #[.none, .none, .int (-1) tk] } } := invd.kept (t' := zd.toks) fun b ob q => Heap.get?_push_of_some _ q
  obtain ⟨vals, rels, isT, room⟩ := inve.tuple isX
  show wpAny (model X.prog X.w) X.A (subscriptTail e (.Slice none none (some (.UnaryOp .USub (.Constant (.int 1) k p1) p2)) p3) (.ref a) (.ref zd.heap.objs.size)) (EP X pins σ Q) X.xe { zd with heap := zd.heap.push { cls := .type "slice", data := .fields #[.none, .none, .int (-1) tk] } }
  refine tail_any (ops := [.ref a, .ref zd.heap.objs.size]) isT.typeIs PyProof.Rows.slot_tuple_getitem.lookup ?_ (by with_unfolding_all rfl)
  refine getItem_rev isT (Heap.IsSliceOf.new _ .none .none (.int (-1) tk)) ?_ (by
    have := rels.length
    rw [List.size_toArray]
    omega)
  refine ⟨.ref _, _, inve.laid (t' := zd.toks) (o := .tup xs.reverse) (fun b ob q => Heap.get?_push_of_some _ q) (Nat.le_refl _) ?_, rfl, want _ (inve.hok.fresh (Nat.le_refl _))⟩
  exact ⟨by rw [List.length_reverse]; exact room, _, rels.reverse, IsTup.new _ _⟩
end Fly

set_option Elab.async false
set_option linter.all false
set_option maxRecDepth 100000
set_option maxHeartbeats 4000000
namespace Fly
open PySem PySem.Spec PyProof.Rows L2
/-! ### next_place, in plain words -/
theorem nextPlace_hit {row : List Int} {k : Nat} {c : Int} (h : row[k]? = some c) : nextPlace row k c = some k := by
  obtain ⟨hlt, e⟩ := List.getElem?_eq_some_iff.mp h
  unfold nextPlace
  rw [List.drop_eq_getElem_cons hlt, e]
  unfold nextGo
  rw [if_pos rfl]
theorem nextPlace_miss {row : List Int} {k : Nat} {c x : Int} (h : row[k]? = some x) (hx : x ≠ c) : nextPlace row k c = nextPlace row (k + 1) c := by
  obtain ⟨hlt, e⟩ := List.getElem?_eq_some_iff.mp h
  unfold nextPlace
  rw [List.drop_eq_getElem_cons hlt, e]
  show (if x = c then _ else _) = _
  rw [if_neg hx]
theorem nextPlace_end {row : List Int} {k : Nat} {c : Int} (h : row.length ≤ k) : nextPlace row k c = none := by
  unfold nextPlace
  rw [List.drop_eq_nil_of_le h]
  rfl
def plV : Option Nat → V
  | none => .non
  | some q => .int (q : Int)
def ofN (qs : List Nat) : List Int := qs.map fun (q : Nat) => (q : Int)
/-! ### the promises -/
def spNext : Sp := fun vs H Q _ => ∃ (a : Addr) (row : List Int) (k : Nat) (c : Int), vs = [.ref a, .int k, .int c] ∧ Tp H a row ∧ row.length ≤ 1000 ∧ k ≤ 1000 ∧ Q (plV (nextPlace row k c)) H
def spWayOf : Sp := fun vs H Q _ => ∃ (a b : Addr) (row out : List Int), vs = [.ref a, .ref b] ∧ Tp H a row ∧ Tp H b out ∧ row.length ≤ 1000 ∧ out.length ≤ 1000 ∧
  (∀ H', Same H H' → wayL row out = none → Q .non H') ∧ (∀ H' p qs, Same H H' → wayL row out = some qs → Tp H' p (ofN qs) → Q (.ref p) H')
def spCheckBoth : Sp := fun vs H Q _ => ∃ (a b : Addr) (row out : List Int), vs = [.ref a, .ref b] ∧ Tp H a row ∧ Tp H b out ∧ IsRow row ∧ IsRow out ∧ ∀ H', Same H H' → Q .non H'
def spIsThin : Sp := fun vs H Q _ => ∃ (a b : Addr) (row out : List Int), vs = [.ref a, .ref b] ∧ Tp H a row ∧ Tp H b out ∧ IsRow row ∧ IsRow out ∧ ∀ H', Same H H' → Q (.bl (thinB row out)) H'
def spWay : Sp := fun vs H Q _ => ∃ (a b : Addr) (row out : List Int), vs = [.ref a, .ref b] ∧ Tp H a row ∧ Tp H b out ∧ IsRow row ∧ IsRow out ∧
  (∀ H', Same H H' → wayL row out = none → Q .non H') ∧ (∀ H' p qs, Same H H' → wayL row out = some qs → Tp H' p (ofN qs) → Q (.ref p) H')
def spFault : Sp := fun vs H Q _ => ∃ (a b c : Addr) (row out : List Int) (qs : List Nat), vs = [.ref a, .ref b, .ref c] ∧ Tp H a row ∧ Tp H b out ∧ Tp H c (ofN qs) ∧ IsRow row ∧ IsRow out ∧
  qs.length = out.length ∧ qs.Pairwise (· ≤ ·) ∧ (∀ q ∈ qs, q < row.length) ∧ (∀ (i q : Nat), qs[i]? = some q → row[q]? = out[i]?) ∧ ∀ H', Same H H' → Q .non H'
section
variable {P : Program} {w : World} {K : PySem.W.Frag} {mg : Str → Option Value} {base : Heap} {f : Addr} {fd : FuncData}
theorem scNext : FnScope ["row", "first", "letter", "place"] ["row", "first", "letter"] (defScope sNext) := ⟨rfl, rfl, rfl, by decide +kernel, rfl, by decide +kernel, by decide +kernel⟩
theorem ok_next (D : Df K mg "next_place" sNext ["row", "first", "letter"] f fd) (T : Txt mg) : FnOk P w K mg base CX0 1 f fd ["row", "first", "letter"] spNext := by
  refine D.fn.ok scNext (fun vs H Q E h => ?_) (fun cdv A outer s H vs Q E hr h => ?_)
  · obtain ⟨a, row, k, c, rfl, _⟩ := h
    rfl
  · obtain ⟨a, row, k, c, rfl, hT, hl, hk, q⟩ := h
    refine ⟨_, pss_cons (ps_for PassesOwn.never rfl (pi_range2 (by rfl) T.range (pa_cons (pv 1) (pa_cons (pe_callB call_len_seq (by rfl) T.len PySem.boot_len (pa_cons (pv 0) pa_nil)) pa_nil))) (pg_name (i := 3) scNext.nd rfl (.inl rfl))
        (pss_one (ps_if (pt_cmpR op_eq (pe_ix ix_tup (pv 0) (pv 3) (fun _ _ => rfl)) (pv 2) (nomark _)) (pss_one (ps_ret (pv 3))) pss_nil)))
      (pss_one (ps_ret pe_non)), ?_⟩
    refine ⟨_, rfl, _, rfl, a, _, rfl, .inr hT.seq, _, _, rfl, (by rw [List.length_map]; omega), ?_⟩
    refine for_range (lo := (k : Int)) (n := (((row.map V.int).length : Int) - (k : Int)).toNat) (fun i σ H' => ∃ v, σ = [some (.ref a), some (.int k), some (.int c), v] ∧ H' = H ∧ nextPlace row k c = nextPlace row (k + i) c) ⟨none, rfl, rfl, rfl⟩ ?_ ?_
    · rintro i σ H1 hi ⟨v, rfl, rfl, e⟩
      rw [List.length_map] at hi
      have hlt : k + i < row.length := by omega
      have hz : row[k + i]? = some row[k + i] := List.getElem?_eq_getElem hlt
      have ek : (k : Int) + (i : Nat) = ((k + i : Nat) : Int) := by omega
      rw [ek]
      refine ⟨_, rfl, _, rfl, a, _, _, _, rfl, rfl, hT.seq, atI_map hz, _, rfl, rfl, _, rfl, ?_⟩
      refine ite2 (fun h => ?_) (fun h => ?_)
      · have h := V.int.inj (of_decide_eq_true h)
        rw [h] at hz
        rw [nextPlace_hit hz] at e
        rw [e] at q
        exact ⟨_, rfl, q⟩
      · have h : row[k + i] ≠ c := fun z => h (decide_eq_true (by rw [z]))
        exact ⟨_, rfl, rfl, e.trans (nextPlace_miss hz h)⟩
    · rintro σ H1 ⟨v, rfl, rfl, e⟩
      have en : nextPlace row (k + (((row.map V.int).length : Int) - (k : Int)).toNat) c = none := nextPlace_end (by rw [List.length_map]; omega)
      rw [en] at e
      rw [e] at q
      exact q
theorem scWayOf : FnScope ["row", "out", "found", "place", "letter"] ["row", "out"] (defScope sWayOf) := ⟨rfl, rfl, rfl, by decide +kernel, rfl, by decide +kernel, by decide +kernel⟩
theorem ok_wayof {f1 : Addr} {fd1 : FuncData} (D : Df K mg "way_of" sWayOf ["row", "out"] f fd) (D1 : Df K mg "next_place" sNext ["row", "first", "letter"] f1 fd1) (G1 : FnOk P w K mg base CX0 1 f1 fd1 ["row", "first", "letter"] spNext) (T : Txt mg) :
    FnOk P w K mg base CX0 2 f fd ["row", "out"] spWayOf := by
  refine D.fn.ok scWayOf (fun vs H Q E h => ?_) (fun cdv A outer s H vs Q E hr h => ?_)
  · obtain ⟨a, b, row, out, rfl, _⟩ := h
    rfl
  · obtain ⟨a, b, row, out, rfl, hA, hB, hl1, hl2, q1, q2⟩ := h
    refine ⟨_, pss_cons (ps_set (i := 2) scWayOf.nd rfl (.inl rfl) (pe_lst pa_nil))
      (pss_cons (ps_set (i := 3) scWayOf.nd rfl (.inl rfl) pe_int)
      (pss_cons (ps_for PassesOwn.never rfl (pi_tup (pv 1)) (pg_name (i := 4) scWayOf.nd rfl (.inl rfl))
        (pss_cons (ps_set (i := 3) scWayOf.nd rfl (.inl rfl) (pcall D1 G1 hr (pa_cons (pv 0) (pa_cons (pv 3) (pa_cons (pv 4) pa_nil)))))
        (pss_cons (ps_if (pt_cmp (pc_isN (pv 3))) (pss_one (ps_ret pe_non)) pss_nil)
        (pss_one (ps_expr (pe_bm PySem.F.plainAttrs_list PySem.F.slot_list_append PySem.F.type_list_append mt_append (pv 2) (pa_cons (pv 3) pa_nil)))))))
      (pss_one (ps_ret (pe_callTy call_tuple_of (by rfl) T.tuple (by decide +kernel) (pa_cons (pv 2) pa_nil)))))), ?_⟩
    refine ⟨Nat.zero_le _, fun L nL => ?_⟩
    have hB0 : Tp (upd H L (.lst [])) b out := hB.same (same_upd nL)
    refine ⟨.ref b, rfl, b, rfl, ⟨_, hB0.seq⟩, ?_⟩
    refine for_tup (K := K) (a := b) (xs := out.map V.int) (fun i σ H' => ∃ (F : List Nat) (p : Nat) (v : Option V), σ = [some (.ref a), some (.ref b), some (.ref L), some (.int p), v] ∧ Same H H' ∧ H' L = some (.lst ((ofN F).map V.int)) ∧ F.length = i ∧ p ≤ 1000 ∧
      wayL row out = (wayGo row p (out.drop i)).map (F ++ ·)) ⟨[], 0, none, rfl, same_upd nL, upd_same, rfl, Nat.zero_le _, ?_⟩ (fun i σ H' _ h => ?_) ?_ ?_
    · unfold wayL
      rw [List.drop_zero]
      cases wayGo row 0 out <;> rfl
    · obtain ⟨F, p, v, _, s1, _⟩ := h
      exact (hB.same s1).seq
    · rintro i x σ H1 hi ⟨F, p, v, rfl, s1, e1, hF, hp, e⟩
      obtain ⟨c, hc, rfl⟩ := at_map hi
      obtain ⟨hlt, ec⟩ := List.getElem?_eq_some_iff.mp hc
      rw [List.drop_eq_getElem_cons hlt, ec, wayGo_cons] at e
      refine ⟨_, rfl, _, rfl, _, rfl, a, row, p, c, rfl, hA.same s1, hl1, hp, ?_⟩
      cases en : nextPlace row p c with
      | none =>
        rw [en] at e
        exact ⟨_, rfl, true, rfl, q1 _ s1 e⟩
      | some r =>
        rw [en] at e
        have e : wayL row out = ((wayGo row r (out.drop (i + 1))).map (r :: ·)).map (F ++ ·) := e
        have hr1 := nextPlace_some en
        refine ⟨_, rfl, false, rfl, ?_⟩
        refine ⟨_, rfl, .inl ⟨rfl, _, SqL.of e1⟩, _, rfl, L, _, _, rfl, rfl, e1, ?_, ?_⟩
        · simp only [ofN, List.length_map]
          exact small1000 (by omega)
        · refine ⟨F ++ [r], r, _, rfl, fun y o hb => ?_, ?_, ?_, by omega, ?_⟩
          · rw [upd_ne (ne_of_none hb nL)]
            exact s1 _ _ hb
          · rw [upd_same]
            simp [ofN, plV]
          · simp [hF]
          · rw [e]
            cases wayGo row r (out.drop (i + 1)) <;> simp
    · rintro σ H1 ⟨F, p, v, rfl, s1, e1, hF, hp, e⟩
      rw [List.length_map, List.drop_length, wayGo_nil] at e
      have e : wayL row out = some F := by rw [e]; simp
      refine ⟨_, rfl, L, _, rfl, .inl ⟨.of e1, fun p' np => ?_⟩⟩
      exact q2 _ p' F (s1.trans (same_upd np)) e upd_same
theorem scCheckBoth : FnScope ["row", "out"] ["row", "out"] (defScope sCheckBoth) := ⟨rfl, rfl, rfl, by decide +kernel, rfl, by decide +kernel, by decide +kernel⟩
theorem ok_checkboth {f5 : Addr} {fd5 : FuncData} (D : Df K mg "check_both" sCheckBoth ["row", "out"] f fd) (D5 : Df K mg "check_row" sCheckRow ["thing"] f5 fd5) (G5 : FnOk P w K mg base CX0 5 f5 fd5 ["thing"] spCheckRow) : FnOk P w K mg base CX0 6 f fd ["row", "out"] spCheckBoth := by
  refine D.fn.ok scCheckBoth (fun vs H Q E h => ?_) (fun cdv A outer s H vs Q E hr h => ?_)
  · obtain ⟨a, b, row, out, rfl, _⟩ := h
    rfl
  · obtain ⟨a, b, row, out, rfl, hA, hB, r1, r2, q⟩ := h
    refine ⟨_, pss_cons (ps_expr (pcall D5 G5 hr (pa_cons (pv 0) pa_nil))) (pss_one (ps_expr (pcall D5 G5 hr (pa_cons (pv 1) pa_nil)))), ?_⟩
    refine ⟨_, rfl, a, row, rfl, hA, r1, fun H1 s1 => ?_⟩
    exact ⟨_, rfl, b, out, rfl, hB.same s1, r2, fun H2 s2 => q H2 (s1.trans s2)⟩
theorem scIsThin : FnScope ["row", "out"] ["row", "out"] (defScope sIsThin) := ⟨rfl, rfl, rfl, by decide +kernel, rfl, by decide +kernel, by decide +kernel⟩
theorem ok_isthin {f6 f2 : Addr} {fd6 fd2 : FuncData} (D : Df K mg "is_thinning" sIsThin ["row", "out"] f fd) (D6 : Df K mg "check_both" sCheckBoth ["row", "out"] f6 fd6) (G6 : FnOk P w K mg base CX0 6 f6 fd6 ["row", "out"] spCheckBoth)
    (D2 : Df K mg "way_of" sWayOf ["row", "out"] f2 fd2) (G2 : FnOk P w K mg base CX0 2 f2 fd2 ["row", "out"] spWayOf) : FnOk P w K mg base CX0 7 f fd ["row", "out"] spIsThin := by
  refine D.fn.ok scIsThin (fun vs H Q E h => ?_) (fun cdv A outer s H vs Q E hr h => ?_)
  · obtain ⟨a, b, row, out, rfl, _⟩ := h
    rfl
  · obtain ⟨a, b, row, out, rfl, hA, hB, r1, r2, q⟩ := h
    refine ⟨_, pss_cons (ps_expr (pcall D6 G6 hr (pa_cons (pv 0) (pa_cons (pv 1) pa_nil)))) (pss_one (ps_ret (pe_cmp (pc_notN (pcall D2 G2 (hr.mono (by decide)) (pa_cons (pv 0) (pa_cons (pv 1) pa_nil)))) rfl))), ?_⟩
    refine ⟨_, rfl, _, rfl, a, b, row, out, rfl, hA, hB, r1, r2, fun H1 s1 => ?_⟩
    refine ⟨_, rfl, _, rfl, a, b, row, out, rfl, hA.same s1, hB.same s1, r1.2.1, r2.2.1, fun H2 s2 e => ?_, fun H2 p qs s2 e hp => ?_⟩
    · have e3 : thinB row out = false := by
        unfold thinB
        rw [e]
        rfl
      have q := q H2 (s1.trans s2)
      rw [e3] at q
      exact q
    · have e3 : thinB row out = true := by
        unfold thinB
        rw [e]
        rfl
      have q := q H2 (s1.trans s2)
      rw [e3] at q
      exact q
theorem scWay : FnScope ["row", "out"] ["row", "out"] (defScope sWay) := ⟨rfl, rfl, rfl, by decide +kernel, rfl, by decide +kernel, by decide +kernel⟩
theorem ok_way {f6 f2 : Addr} {fd6 fd2 : FuncData} (D : Df K mg "way" sWay ["row", "out"] f fd) (D6 : Df K mg "check_both" sCheckBoth ["row", "out"] f6 fd6) (G6 : FnOk P w K mg base CX0 6 f6 fd6 ["row", "out"] spCheckBoth)
    (D2 : Df K mg "way_of" sWayOf ["row", "out"] f2 fd2) (G2 : FnOk P w K mg base CX0 2 f2 fd2 ["row", "out"] spWayOf) : FnOk P w K mg base CX0 7 f fd ["row", "out"] spWay := by
  refine D.fn.ok scWay (fun vs H Q E h => ?_) (fun cdv A outer s H vs Q E hr h => ?_)
  · obtain ⟨a, b, row, out, rfl, _⟩ := h
    rfl
  · obtain ⟨a, b, row, out, rfl, hA, hB, r1, r2, q1, q2⟩ := h
    refine ⟨_, pss_cons (ps_expr (pcall D6 G6 hr (pa_cons (pv 0) (pa_cons (pv 1) pa_nil)))) (pss_one (ps_ret (pcall D2 G2 (hr.mono (by decide)) (pa_cons (pv 0) (pa_cons (pv 1) pa_nil))))), ?_⟩
    refine ⟨_, rfl, _, rfl, a, b, row, out, rfl, hA, hB, r1, r2, fun H1 s1 => ?_⟩
    exact ⟨_, rfl, _, rfl, a, b, row, out, rfl, hA.same s1, hB.same s1, r1.2.1, r2.2.1, fun H2 s2 e => q1 H2 (s1.trans s2) e, fun H2 p qs s2 e hp => q2 H2 p qs (s1.trans s2) e hp⟩
theorem scFault : FnScope ["row", "out", "thing", "least", "lane", "place"] ["row", "out", "thing"] (defScope sFault) := ⟨rfl, rfl, rfl, by decide +kernel, rfl, by decide +kernel, by decide +kernel⟩
theorem ofN_at {qs : List Nat} {i : Nat} {y : V} (h : ((ofN qs).map V.int)[i]? = some y) : ∃ q : Nat, qs[i]? = some q ∧ y = .int (q : Int) := by
  obtain ⟨x, hx, rfl⟩ := at_map h
  unfold ofN at hx
  rw [List.getElem?_map] at hx
  cases e : qs[i]? with
  | none =>
    rw [e] at hx
    cases hx
  | some q =>
    rw [e] at hx
    exact ⟨q, rfl, by rw [← Option.some.inj hx]⟩
theorem ok_fault {f6 f2 f3 : Addr} {fd6 fd2 fd3 : FuncData} (D : Df K mg "way_fault" sFault ["row", "out", "thing"] f fd) (D6 : Df K mg "check_both" sCheckBoth ["row", "out"] f6 fd6) (G6 : FnOk P w K mg base CX0 6 f6 fd6 ["row", "out"] spCheckBoth)
    (D2 : Df K mg "is_integers" sIntegers ["thing", "many"] f2 fd2) (G2 : FnOk P w K mg base CX0 2 f2 fd2 ["thing", "many"] spIntegers) (D3 : Df K mg "is_between" sBetween ["thing", "least", "most"] f3 fd3) (G3 : FnOk P w K mg base CX0 2 f3 fd3 ["thing", "least", "most"] spBetween) (T : Txt mg) :
    FnOk P w K mg base CX0 7 f fd ["row", "out", "thing"] spFault := by
  refine D.fn.ok scFault (fun vs H Q E h => ?_) (fun cdv A outer s H vs Q E hr h => ?_)
  · obtain ⟨a, b, c, row, out, qs, rfl, _⟩ := h
    rfl
  · obtain ⟨a, b, c, row, out, qs, rfl, hA, hB, hC, r1, r2, l1, l2, l3, l4, q⟩ := h
    have hr2 := hr.mono (j := 2) (by decide)
    refine ⟨_, pss_cons (ps_expr (pcall D6 G6 hr (pa_cons (pv 0) (pa_cons (pv 1) pa_nil))))
      (pss_cons (ps_if (pt_not (pt_val (pcall D2 G2 hr2 (pa_cons (pv 2) (pa_cons (pe_callB call_len_seq (by rfl) T.len PySem.boot_len (pa_cons (pv 1) pa_nil)) pa_nil))))) pss_never pss_nil)
      (pss_cons (ps_set (i := 3) scFault.nd rfl (.inl rfl) pe_int)
      (pss_cons (ps_for PassesOwn.never rfl (pi_enumT (by rfl) T.enum (pa_cons (pv 2) pa_nil)) (pg_tup rfl (pgs_cons (pg_name (i := 4) scFault.nd rfl (.inl rfl)) (pgs_cons (pg_name (i := 5) scFault.nd rfl (.inl rfl)) pgs_nil)))
        (pss_cons (ps_if (pt_not (pt_val (pcall D3 G3 hr2 (pa_cons (pv 5) (pa_cons (pv 3) (pa_cons (pe_op op_sub (pe_callB call_len_seq (by rfl) T.len PySem.boot_len (pa_cons (pv 0) pa_nil)) pe_int) pa_nil)))))) pss_never pss_nil)
        (pss_one (ps_set (i := 3) scFault.nd rfl (.inl rfl) (pv 5)))))
      (pss_cons (ps_for PassesOwn.never rfl (pi_enumT (by rfl) T.enum (pa_cons (pv 2) pa_nil)) (pg_tup rfl (pgs_cons (pg_name (i := 4) scFault.nd rfl (.inl rfl)) (pgs_cons (pg_name (i := 5) scFault.nd rfl (.inl rfl)) pgs_nil)))
        (pss_one (ps_if (pt_cmpR op_ne (pe_ix ix_tup (pv 0) (pv 5) (fun _ _ => rfl)) (pe_ix ix_tup (pv 1) (pv 4) (fun _ _ => rfl)) (nomark _)) pss_never pss_nil)))
      (pss_one (ps_ret pe_non)))))), ?_⟩
    have lq : (ofN qs).length = out.length := by simp [ofN, l1]
    refine ⟨_, rfl, _, rfl, a, b, row, out, rfl, hA, hB, r1, r2, fun H1 s1 => ?_⟩
    have hB1 := hB.same s1
    refine ⟨_, rfl, _, rfl, b, _, rfl, .inr hB1.seq, c, ofN qs, ?_, hC.same s1, by rw [lq]; exact r2.2.1, fun H2 s2 => ⟨true, rfl, iteF ?_⟩⟩
    · rw [lq, List.length_map]
      rfl
    have s12 := s1.trans s2
    have hC2 := hC.same s12
    refine ⟨_, rfl, c, _, rfl, hC2.seq, ?_⟩
    refine for_it (walk_enumT (K := K) (a := c) (xs := (ofN qs).map V.int)) (fun i σ H' => ∃ (p : Nat) (u v : Option V), σ = [some (.ref a), some (.ref b), some (.ref c), some (.int p), u, v] ∧ Same H H' ∧ (∀ (j q : Nat), i ≤ j → qs[j]? = some q → p ≤ q)) ⟨0, none, none, rfl, s12, fun _ _ _ _ => Nat.zero_le _⟩ (fun i σ H' _ h => ?_) ?_ ?_
    · obtain ⟨p, u, v, _, s3, _⟩ := h
      exact (hC.same s3).seq
    · rintro i x σ H3 H4 hi ⟨p, u, v, rfl, s3, hp⟩ ⟨T1, x1, x2, rfl, nT, rfl, e1, e2⟩
      obtain ⟨q1, hq1, rfl⟩ := ofN_at e2
      have ex1 := (Option.some.inj e1).symm
      subst ex1
      have hm := l3 q1 (List.mem_of_getElem? hq1)
      have s4 : Same H (upd H3 T1 (.tup [.int (i : Nat), .int (q1 : Int)])) := s3.trans (same_upd nT)
      have hA4 := hA.same s4
      refine ⟨T1, _, rfl, .of upd_same, rfl, _, _, rfl, _, _, rfl, rfl, ?_⟩
      refine ⟨_, rfl, _, rfl, _, rfl, a, _, rfl, .inr hA4.seq, _, _, rfl, rfl, _, _, _, rfl, ?_⟩
      have hb : decide (((p : Nat) : Int) ≤ (q1 : Int) ∧ (q1 : Int) ≤ ((row.map V.int).length : Int) - 1) = true := decide_eq_true (by
        rw [List.length_map]
        have := hp i q1 (Nat.le_refl _) hq1
        omega)
      refine ⟨_, rfl, ?_⟩
      rw [hb]
      refine iteF ?_
      refine ⟨_, rfl, q1, _, _, rfl, s4, fun j q' hj hq' => ?_⟩
      obtain ⟨h1, e1'⟩ := List.getElem?_eq_some_iff.mp hq1
      obtain ⟨h2, e2'⟩ := List.getElem?_eq_some_iff.mp hq'
      rw [← e1', ← e2']
      exact List.pairwise_iff_getElem.mp l2 i j h1 h2 (by omega)
    · rintro σ H3 ⟨p, u, v, rfl, s3, _⟩
      have hC3 := hC.same s3
      refine ⟨_, rfl, c, _, rfl, hC3.seq, ?_⟩
      refine for_it (walk_enumT (K := K) (a := c) (xs := (ofN qs).map V.int)) (fun i σ H' => ∃ (u v : Option V), σ = [some (.ref a), some (.ref b), some (.ref c), some (.int p), u, v] ∧ Same H H') ⟨_, _, rfl, s3⟩ (fun i σ H' _ h => ?_) ?_ ?_
      · obtain ⟨u, v, _, s3⟩ := h
        exact (hC.same s3).seq
      · rintro i x σ H3 H4 hi ⟨u, v, rfl, s3⟩ ⟨T1, x1, x2, rfl, nT, rfl, e1, e2⟩
        obtain ⟨q1, hq1, rfl⟩ := ofN_at e2
        have ex1 := (Option.some.inj e1).symm
        subst ex1
        have hm := l3 q1 (List.mem_of_getElem? hq1)
        have hrow : row[q1]? = some row[q1] := List.getElem?_eq_getElem hm
        have hout : out[i]? = some row[q1] := by rw [← l4 i q1 hq1]; exact hrow
        have s4 : Same H (upd H3 T1 (.tup [.int (i : Nat), .int (q1 : Int)])) := s3.trans (same_upd nT)
        refine ⟨T1, _, rfl, .of upd_same, rfl, _, _, rfl, _, _, rfl, rfl, ?_⟩
        refine ⟨_, rfl, _, rfl, a, _, _, _, rfl, rfl, (hA.same s4).seq, atI_map hrow, _, rfl, _, rfl, b, _, _, _, rfl, rfl, (hB.same s4).seq, atI_map hout, rfl, _, rfl, iteNS rfl ?_⟩
        exact ⟨_, _, rfl, s4⟩
      · rintro σ H3 ⟨u, v, rfl, s3⟩
        exact q _ s3
end
end Fly

set_option Elab.async false
set_option linter.all false
set_option maxRecDepth 100000
set_option maxHeartbeats 4000000
namespace Fly
open PySem PySem.Spec PyProof.Rows L2
/-! ### the law's hand: a list of the cells, three numbers and a counter -/
/-- all but what stands at h is as it was -/
def Kp (h : Addr) (H H' : Hp) : Prop := ∀ b o, b ≠ h → H b = some o → H' b = some o
theorem Kp.refl (h : Addr) (H : Hp) : Kp h H H := fun _ _ _ e => e
theorem Kp.trans {h : Addr} {H H1 H2 : Hp} (a : Kp h H H1) (b : Kp h H1 H2) : Kp h H H2 := fun c o n e => b c o n (a c o n e)
theorem Kp.of {h : Addr} {H H' : Hp} (s : Same H H') : Kp h H H' := fun b o _ e => s b o e
theorem Kp.at_ {h : Addr} {H : Hp} {o : HO} : Kp h H (upd H h o) := fun b u n e => by rw [upd_ne n]; exact e
structure HandOk (H : Hp) (h c : Addr) : Prop where
  ex : ∃ (cells : List Int) (i n z k : Int), H h = some (.lst [.ref c, .int i, .int n, .int z, .int k]) ∧ H c = some (.lst (cells.map V.int)) ∧ c ≠ h ∧ (∀ x ∈ cells, 0 ≤ x) ∧ 0 ≤ i ∧ 0 ≤ n ∧ cells.length ≤ 63
theorem HandOk.same {H H' : Hp} {h c : Addr} (a : HandOk H h c) (s : Same H H') : HandOk H' h c := by
  obtain ⟨cells, i, n, z, k, e1, e2, r⟩ := a
  exact ⟨cells, i, n, z, k, s _ _ e1, s _ _ e2, r⟩
theorem HandOk.ne {H : Hp} {h c b : Addr} (a : HandOk H h c) (n : H b = none) : b ≠ h ∧ b ≠ c := by
  obtain ⟨cells, i, n', z, k, e1, e2, r⟩ := a
  exact ⟨(ne_of_none e1 n).symm, (ne_of_none e2 n).symm⟩
theorem HandOk.upd {H : Hp} {h c b : Addr} {o : HO} (a : HandOk H h c) (n : b ≠ h ∧ b ≠ c) : HandOk (L2.upd H b o) h c := by
  obtain ⟨cells, i, n', z, k, e1, e2, r⟩ := a
  exact ⟨cells, i, n', z, k, by rw [upd_ne n.1.symm]; exact e1, by rw [upd_ne n.2.symm]; exact e2, r⟩
theorem Kp.tup {H H' : Hp} {h c a : Addr} {r : List Int} (k : Kp h H H') (ok : HandOk H h c) (t : Tp H a r) : Tp H' a r := by
  obtain ⟨cells, i, n, z, k', e1, e2, q⟩ := ok
  exact k a _ (ne_of t e1 (by intro z; cases z)) t
/-- a thing that was new stays new in what was before -/
theorem Kp.free {h b : Addr} {H H' : Hp} (k : Kp h H H') (n : b ≠ h) (e : H' b = none) : H b = none := by
  cases q : H b with
  | none => rfl
  | some o =>
    rw [k b o n q] at e
    cases e
/-- an object made on the way is changed -/
theorem Kp.upd {h b : Addr} {H H' : Hp} {o : HO} (k : Kp h H H') (n : H b = none) : Kp h H (L2.upd H' b o) := fun y u ny e => by
  rw [upd_ne (ne_of_none e n)]
  exact k y u ny e
/-! ### the promises -/
def spHand (K : PySem.W.Frag) : Sp := fun vs H Q _ => ∃ (a : Addr) (ns : List Int), vs = [.ref a] ∧ SqL K H a (ns.map V.int) ∧ ns.length ≤ 63 ∧ ∀ h c H', Same H H' → HandOk H' h c → Q (.ref h) H'
def spDraw : Sp := fun vs H Q _ => ∃ (h c : Addr) (m : Int), vs = [.ref h, .int m] ∧ HandOk H h c ∧ 0 < m ∧ m ≤ 1000 ∧ ∀ H' d, Kp h H H' → HandOk H' h c → 0 ≤ d → d < m → Q (.int d) H'
def spIs : Sp := fun vs H Q _ => ∃ x y : Bool, vs = [.bl x, .bl y] ∧ ∀ H', Same H H' → Q (.bl (decide (x = y))) H'
section
variable {P : Program} {w : World} {K : PySem.W.Frag} {mg : Str → Option Value} {base : Heap} {f : Addr} {fd : FuncData}
def absI (x : Int) : Int := if x < 0 then -x else x
theorem absI_pos (x : Int) : 0 ≤ absI x := by
  unfold absI
  split <;> omega
theorem cut_ints (ns : List Int) (lo hi : Option Int) : ∃ ms : List Int, cutV (ns.map V.int) lo hi = ms.map V.int ∧ ms.length ≤ ns.length := by
  unfold cutV
  refine ⟨(ns.drop (HT.sIx (ns.map V.int).length 0 lo)).take (HT.sIx (ns.map V.int).length (ns.map V.int).length hi - HT.sIx (ns.map V.int).length 0 lo), ?_, ?_⟩
  · rw [← List.map_drop, ← List.map_take]
  · rw [List.length_take, List.length_drop]
    omega
theorem scHand : FnScope ["_law_script", "_law_cells", "_law_cell"] ["_law_script"] (defScope sHand) := ⟨rfl, rfl, rfl, by decide +kernel, rfl, by decide +kernel, by decide +kernel⟩
theorem ok_hand (D : Df K mg "_law_hand" sHand ["_law_script"] f fd) (T : Txt mg) : FnOk P w K mg base CX0 1 f fd ["_law_script"] (spHand K) := by
  refine D.fn.ok scHand (fun vs H Q E h => ?_) (fun cdv A outer s H vs Q E hr h => ?_)
  · obtain ⟨a, ns, rfl, _⟩ := h
    rfl
  · obtain ⟨a, ns, rfl, hS, hl, q⟩ := h
    refine ⟨_, pss_cons (ps_setLc (i := 1) (own := [("_law_cell", 2)]) (g := gName 2) (tt := tYes) rfl scHand.nd rfl rfl (sw_true rfl rfl rfl (by decide +kernel)) (pi_list (pe_slice sl_list (pv 0) po_none (po_some pe_int)))
        (blkOk_by (N := ["_law_script", "_law_cells", "_law_cell"]) (sc := defScope sHand) (by decide +kernel)) (fun _ _ _ _ _ => pg_name (i := 2) scHand.nd rfl (Or.inl rfl)) (fun _ _ _ _ _ => pts_nil)
        (fun _ _ _ _ _ => pe_callB call_abs (by rfl) T.abs (by decide +kernel) (pa_cons (pe_callTy call_int1 (by rfl) T.int (by decide +kernel) (pa_cons (pv 2) pa_nil)) pa_nil)))
      (pss_one (ps_ret (pe_lst (pa_cons (pv 1) (pa_cons pe_int (pa_cons pe_int (pa_cons (pe_op op_add pe_int (pe_callB call_len_seq (by rfl) T.len PySem.boot_len (pa_cons (pv 1) pa_nil))) (pa_cons pe_int pa_nil)))))))), ?_⟩
    refine ⟨_, rfl, 63, rfl, a, _, rfl, hS, fun S nS => ?_⟩
    obtain ⟨ms, em, hm⟩ := cut_ints ns none (some 63)
    rw [em]
    have s1 : Same H (upd H S (.lst (ms.map V.int))) := same_upd nS
    refine ⟨S, rfl, ⟨_, .of upd_same⟩, fun L nL => ?_⟩
    have hLS : S ≠ L := ne_of_none (o := .lst (ms.map V.int)) upd_same nL
    have nL0 : H L = none := s1.free nL
    refine lc_list (K := K) (a := S) (xs := ms.map V.int) (fun i H' => Same H H' ∧ H' S = some (.lst (ms.map V.int)) ∧ H' L = some (.lst (((ms.take i).map absI).map V.int))) ⟨s1.trans (same_upd nL), by rw [upd_ne hLS, upd_same], upd_same⟩ (fun i H' _ h => .of h.2.1) ?_ ?_
    · rintro i x H1 hi ⟨s2, e1, e2⟩
      obtain ⟨z, hz, rfl⟩ := at_map hi
      refine ⟨rfl, _, rfl, .inl ⟨z, rfl, z, rfl, ?_⟩⟩
      refine ⟨_, e2, ?_, ?_, ?_, ?_⟩
      · simp only [List.length_map, List.length_take]
        exact small1000 (by omega)
      · intro b o hb
        rw [upd_ne (ne_of_none hb nL0)]
        exact s2 _ _ hb
      · rw [upd_ne hLS]
        exact e1
      · rw [upd_same, List.take_add_one, hz, Option.toList_some, List.map_append, List.map_append]
        rfl
    · rintro H1 ⟨s2, e1, e2⟩
      rw [List.length_map, List.take_length] at e2
      refine ⟨_, rfl, _, rfl, L, _, rfl, .inl (.of e2), _, _, rfl, rfl, by show 5 ≤ sizeLine; decide, fun h nh => ?_⟩
      refine q h L _ (s2.trans (same_upd nh)) ⟨ms.map absI, 0, 0, _, 0, upd_same, ?_, ne_of_none e2 nh, ?_, Int.le_refl _, Int.le_refl _, ?_⟩
      · rw [upd_ne (ne_of_none e2 nh)]
        exact e2
      · intro x hx
        obtain ⟨y, _, rfl⟩ := List.mem_map.mp hx
        exact absI_pos y
      · rw [List.length_map]
        omega
theorem pos1 : (0 : Int) < 2147483629 := by decide
theorem pos2 : (0 : Int) < 2147483647 := by decide
theorem pos3 : (0 : Int) < 2147483399 := by decide
theorem scDraw : FnScope ["_law_hand_here", "_law_many", "_law_cell", "_law_digit", "_law_number"] ["_law_hand_here", "_law_many"] (defScope sDraw) := ⟨rfl, rfl, rfl, by decide +kernel, rfl, by decide +kernel, by decide +kernel⟩
theorem ok_draw (D : Df K mg "_law_draw" sDraw ["_law_hand_here", "_law_many"] f fd) (T : Txt mg) : FnOk P w K mg base CX0 1 f fd ["_law_hand_here", "_law_many"] spDraw := by
  refine D.fn.ok scDraw (fun vs H Q E h => ?_) (fun cdv A outer s H vs Q E hr h => ?_)
  · obtain ⟨h, c, m, rfl, _⟩ := h
    rfl
  · obtain ⟨h, c, m, rfl, ⟨cells, i, n, z, k, e1, e2, hc, hx, hi, hn, hl⟩, hm0, hm1, q⟩ := h
    refine ⟨_, Evl.pss_cut (ps_if (PW.pt (pw_and (pt_cmpR op_eq (pe_ix ix_list (pv 0) pe_int (fun _ _ => rfl)) pe_int (nomark _)) (pw_and1 (pt_cmpR op_lt (pe_ix ix_list (pv 0) pe_int (fun _ _ => rfl)) (pe_callB call_len_seq (by rfl) T.len PySem.boot_len (pa_cons (pe_ix ix_list (pv 0) pe_int (fun _ _ => rfl)) pa_nil)) (nomark _)))))
        (pss_cons (ps_set (i := 2) scDraw.nd rfl (.inl rfl) (pe_ix ix_list (pe_ix ix_list (pv 0) pe_int (fun _ _ => rfl)) (pe_ix ix_list (pv 0) pe_int (fun _ _ => rfl)) (fun _ _ => rfl)))
        (pss_cons (ps_asg (pe_op op_add (pe_ix ix_list (pv 0) pe_int (fun _ _ => rfl)) pe_int) (pg_sub (pv 0) pe_int set_list))
        (pss_cons (ps_asg (pe_op op_mod (pe_callTy call_int1 (by rfl) T.int (by decide +kernel) (pa_cons (pe_op op_add (pe_op op_add (pe_op op_mul (pe_ix ix_list (pv 0) pe_int (fun _ _ => rfl)) pe_int) (pv 2)) pe_int) pa_nil)) pe_int) (pg_sub (pv 0) pe_int set_list))
        (pss_one (ps_if (pt_cmpR op_ge (pv 2) (pe_op op_pow pe_int pe_int) (nomark _)) (pss_one (ps_asg (pv 2) (pg_sub (pv 0) pe_int set_list))) pss_nil))))) pss_nil)
      (pss_cons (ps_if (pt_cmpR op_gt (pe_ix ix_list (pv 0) pe_int (fun _ _ => rfl)) pe_int (nomark _))
        (pss_cons (ps_set (i := 3) scDraw.nd rfl (.inl rfl) (pe_op op_mod (pe_callTy call_int1 (by rfl) T.int (by decide +kernel) (pa_cons (pe_ix ix_list (pv 0) pe_int (fun _ _ => rfl)) pa_nil)) (pv 1)))
        (pss_cons (ps_asg (pe_op op_fdiv (pe_ix ix_list (pv 0) pe_int (fun _ _ => rfl)) (pv 1)) (pg_sub (pv 0) pe_int set_list))
        (pss_one (ps_ret (pv 3))))) pss_nil)
      (pss_cons (ps_asg (pe_op op_add (pe_ix ix_list (pv 0) pe_int (fun _ _ => rfl)) pe_int) (pg_sub (pv 0) pe_int set_list))
      (pss_cons (ps_set (i := 4) scDraw.nd rfl (.inl rfl) (pe_op op_mod (pe_callTy call_int1 (by rfl) T.int (by decide +kernel) (pa_cons (pe_op op_mul (pe_callTy call_int1 (by rfl) T.int (by decide +kernel) (pa_cons (pe_op op_add (pe_ix ix_list (pv 0) pe_int (fun _ _ => rfl)) (pe_op op_mul pe_int (pe_ix ix_list (pv 0) pe_int (fun _ _ => rfl)))) pa_nil)) pe_int) pa_nil)) pe_int))
      (pss_cons (ps_set (i := 4) scDraw.nd rfl (.inl rfl) (pe_op op_mod (pe_callTy call_int1 (by rfl) T.int (by decide +kernel) (pa_cons (pe_op op_mul (pv 4) (pe_op op_add (pe_op op_fdiv (pv 4) pe_int) pe_int)) pa_nil)) pe_int))
      (pss_cons (ps_set (i := 4) scDraw.nd rfl (.inl rfl) (pe_op op_mod (pe_callTy call_int1 (by rfl) T.int (by decide +kernel) (pa_cons (pe_op op_mul (pv 4) (pe_op op_add (pe_op op_fdiv (pv 4) pe_int) pe_int)) pa_nil)) pe_int))
      (pss_one (ps_ret (pe_op op_mod (pe_callTy call_int1 (by rfl) T.int (by decide +kernel) (pa_cons (pe_op op_fdiv (pv 4) pe_int) pa_nil)) (pv 1))))))))), ?_⟩
    refine ⟨fun σ' H' => ∃ (v : Option V) (i n z : Int), σ' = [some (.ref h), some (.int m), v, none, none] ∧ Kp h H H' ∧ H' h = some (.lst [.ref c, .int i, .int n, .int z, .int k]) ∧ H' c = some (.lst (cells.map V.int)) ∧ 0 ≤ i ∧ 0 ≤ n, ?_, ?_⟩
    · refine ⟨_, rfl, h, _, 2, .int n, rfl, rfl, .of e1, rfl, rfl, _, rfl, ?_⟩
      refine ite2 (fun h0 => ?_) (fun h0 => iteF ⟨_, _, _, _, rfl, Kp.refl _ _, e1, e2, hi, hn⟩)
      refine ⟨_, rfl, h, _, 1, .int i, rfl, rfl, .of e1, rfl, _, rfl, h, _, 0, .ref c, rfl, rfl, .of e1, rfl, c, _, rfl, .inl (.of e2), _, _, rfl, rfl, _, rfl, ?_⟩
      refine ite2 (fun h1 => ?_) (fun h1 => ⟨_, _, _, _, rfl, Kp.refl _ _, e1, e2, hi, hn⟩)
      have h1 := of_decide_eq_true h1
      rw [List.length_map] at h1
      have hlt : i.toNat < cells.length := by omega
      have hz : cells[i.toNat]? = some cells[i.toNat] := List.getElem?_eq_getElem hlt
      have hat : atI (cells.map V.int) i = some (.int cells[i.toNat]) := by
        have e : ((i.toNat : Nat) : Int) = i := by omega
        have := atI_map hz
        rw [e] at this
        exact this
      have hpos := hx _ (List.mem_of_getElem? hz)
      generalize cells[i.toNat] = x at hat hpos
      refine ⟨_, rfl, h, _, 0, .ref c, rfl, rfl, .of e1, rfl, _, rfl, h, _, 1, .int i, rfl, rfl, .of e1, rfl, c, _, _, _, rfl, rfl, .of e2, hat, ?_⟩
      refine ⟨_, rfl, h, _, 1, .int i, rfl, rfl, .of e1, rfl, _, _, rfl, rfl, _, rfl, h, _, 1, 1, rfl, rfl, e1, rfl, ?_⟩
      refine ⟨_, rfl, h, _, 3, .int z, rfl, rfl, .of upd_same, rfl, _, _, rfl, rfl, .inr ⟨by decide, by decide⟩, _, rfl, _, _, rfl, rfl, _, _, rfl, rfl, .inl ⟨_, rfl, _, _, rfl, rfl, pos1, _, rfl, h, _, 3, 3, rfl, rfl, upd_same, rfl, ?_⟩⟩
      refine ⟨_, rfl, _, _, rfl, rfl, ⟨by decide, by decide, by decide⟩, _, _, rfl, rfl, _, rfl, ?_⟩
      refine ite2 (fun h2 => ?_) (fun h2 => ?_)
      · refine ⟨_, rfl, _, rfl, h, _, 2, 2, rfl, rfl, upd_same, rfl, ?_⟩
        exact ⟨_, i + 1, x, _, rfl, (Kp.at_.trans Kp.at_).trans Kp.at_, upd_same, by rw [upd_ne hc, upd_ne hc, upd_ne hc]; exact e2, by omega, hpos⟩
      · exact ⟨_, i + 1, n, _, rfl, Kp.at_.trans Kp.at_, upd_same, by rw [upd_ne hc, upd_ne hc]; exact e2, by omega, hn⟩
    · rintro σ' H' ⟨v, i, n, z, rfl, kp, e1, e2, hi, hn⟩
      refine ⟨_, rfl, h, _, 2, .int n, rfl, rfl, .of e1, rfl, _, _, rfl, rfl, _, rfl, ?_⟩
      refine ite2 (fun h1 => ?_) (fun h1 => ?_)
      · refine ⟨_, rfl, h, _, 2, .int n, rfl, rfl, .of e1, rfl, .inl ⟨_, rfl, _, rfl, _, _, rfl, rfl, hm0, ?_⟩⟩
        refine ⟨_, rfl, h, _, 2, .int n, rfl, rfl, .of e1, rfl, _, rfl, _, _, rfl, rfl, ⟨hm0, by omega⟩, _, rfl, h, _, 2, 2, rfl, rfl, e1, rfl, _, rfl, ?_⟩
        refine q _ _ (kp.trans Kp.at_) ⟨cells, i, n / m, z, k, upd_same, by rw [upd_ne hc]; exact e2, hc, hx, hi, Int.ediv_nonneg hn (by omega), hl⟩ (Int.emod_nonneg _ (by omega)) (Int.emod_lt_of_pos _ hm0)
      · refine ⟨_, rfl, h, _, 4, .int k, rfl, rfl, .of e1, rfl, _, _, rfl, rfl, _, rfl, h, _, 4, 4, rfl, rfl, e1, rfl, ?_⟩
        refine ⟨_, rfl, h, _, 3, .int z, rfl, rfl, .of upd_same, rfl, _, rfl, h, _, 4, .int (k + 1), rfl, rfl, .of upd_same, rfl, _, _, rfl, rfl, .inl ⟨by decide, by decide⟩, _, _, rfl, rfl, .inl ⟨_, rfl, _, _, rfl, rfl, .inr ⟨by decide, by decide⟩, .inl ⟨_, rfl, _, _, rfl, rfl, pos2, ?_⟩⟩⟩
        have b1 : ∀ y : Int, -(2 ^ 64) < y % 2147483647 ∧ y % 2147483647 < 2 ^ 64 := fun y => by omega
        refine ⟨_, rfl, _, rfl, _, _, rfl, rfl, ⟨by decide, by decide⟩, _, _, rfl, rfl, _, _, rfl, rfl, .inl (b1 _), .inl ⟨_, rfl, _, _, rfl, rfl, pos2, ?_⟩⟩
        refine ⟨_, rfl, _, rfl, _, _, rfl, rfl, ⟨by decide, by decide⟩, _, _, rfl, rfl, _, _, rfl, rfl, .inl (b1 _), .inl ⟨_, rfl, _, _, rfl, rfl, pos3, ?_⟩⟩
        refine ⟨_, rfl, _, _, rfl, rfl, ⟨by decide, by decide⟩, .inl ⟨_, rfl, _, rfl, _, _, rfl, rfl, hm0, ?_⟩⟩
        exact q _ _ (kp.trans Kp.at_) ⟨cells, i, n, z, k + 1, upd_same, by rw [upd_ne hc]; exact e2, hc, hx, hi, hn, hl⟩ (Int.emod_nonneg _ (by omega)) (Int.emod_lt_of_pos _ hm0)
end
end Fly

set_option Elab.async false
set_option linter.all false
set_option maxRecDepth 100000
set_option maxHeartbeats 4000000
namespace Fly
open PySem PySem.Spec PyProof.Rows L2
/-! ### the promises -/
def spLWord : Sp := fun vs H Q _ => ∃ (a : Addr) (r : List Int), vs = [.ref a] ∧ Tp H a r ∧ IsRow r ∧ ∀ p H', Same H H' → Tp H' p (wordL r) → Q (.ref p) H'
def spThins : Sp := fun vs H Q _ => ∃ (a b : Addr) (row out : List Int), vs = [.ref a, .ref b] ∧ Tp H a row ∧ Tp H b out ∧ IsRow row ∧ IsRow out ∧ ∀ H', Same H H' → Q (.bl (thins row out)) H'
def spRow : Sp := fun vs H Q _ => ∃ (h c : Addr) (l m : Int), vs = [.ref h, .int l, .int m] ∧ HandOk H h c ∧ 1 ≤ l ∧ l ≤ 4 ∧ 1 ≤ m ∧ m ≤ 40 ∧ ∀ H' p r, Kp h H H' → HandOk H' h c → Tp H' p r → IsRow r → r.length ≤ 40 → Q (.ref p) H'
def spThinned : Sp := fun vs H Q _ => ∃ (h c a : Addr) (r : List Int) (m : Int), vs = [.ref h, .ref a, .int m] ∧ HandOk H h c ∧ Tp H a r ∧ IsRow r ∧ 1 ≤ m ∧ m ≤ 20 ∧ ∀ H' p o, Kp h H H' → HandOk H' h c → Tp H' p o → IsRow o → Thin r o → Q (.ref p) H'
def spChanged : Sp := fun vs H Q _ => ∃ (h c a : Addr) (r : List Int), vs = [.ref h, .ref a] ∧ HandOk H h c ∧ Tp H a r ∧ IsRow r ∧ r.length ≤ 40 ∧ ∀ H' p o, Kp h H H' → HandOk H' h c → Tp H' p o → IsRow o → Thin r o → Q (.ref p) H'
section
variable {P : Program} {w : World} {K : PySem.W.Frag} {mg : Str → Option Value} {base : Heap} {f : Addr} {fd : FuncData}
/-! ### == of two flags -/
theorem scIs : FnScope ["_law_told", "_law_due"] ["_law_told", "_law_due"] (defScope sIs) := ⟨rfl, rfl, rfl, by decide +kernel, rfl, by decide +kernel, by decide +kernel⟩
theorem no_seq (K : PySem.W.Frag) : PySem.W.kitAny K (.type "bool") [.type "tuple", .type "list"] = some false :=
  kitAny_cons (b := false) (kit_ty (by decide +kernel)) (fun _ => kitAny_cons (b := false) (kit_ty (by decide +kernel)) (fun _ => kitAny_nil) (fun z => nomatch z)) (fun z => nomatch z)
theorem seq_cls : Paired ClsV [.ty "tuple", .ty "list"] [.type "tuple", .type "list"] := .cons (.ty _) (.cons (.ty _) .nil)
theorem ok_is (D : Df K mg "_law_is" sIs ["_law_told", "_law_due"] f fd) (T : Txt mg) : FnOk P w K mg base CX0 1 f fd ["_law_told", "_law_due"] spIs := by
  refine D.fn.ok scIs (fun vs H Q E h => ?_) (fun cdv A outer s H vs Q E hr h => ?_)
  · obtain ⟨x, y, rfl, _⟩ := h
    rfl
  · obtain ⟨x, y, rfl, q⟩ := h
    refine ⟨_, pss_cons (ps_if (pt_val (pe_callB call_isiT (by rfl) T.isi (by decide +kernel) (pa_cons (pv 1) (pa_cons (pe_tup (pa_cons (pe_bltn (v := .ty "tuple") (by rfl) T.tuple (by decide +kernel) rfl) (pa_cons (pe_bltn (v := .ty "list") (by rfl) T.list (by decide +kernel) rfl) pa_nil))) pa_nil)))) pss_never pss_nil)
      (pss_cons (ps_if (pt_val (pe_callB call_isiT (by rfl) T.isi (by decide +kernel) (pa_cons (pv 0) (pa_cons (pe_tup (pa_cons (pe_bltn (v := .ty "tuple") (by rfl) T.tuple (by decide +kernel) rfl) (pa_cons (pe_bltn (v := .ty "list") (by rfl) T.list (by decide +kernel) rfl) pa_nil))) pa_nil)))) pss_never pss_nil)
      (pss_one (ps_ret (pe_and (pe_cmpR op_eq (pe_callB call_isi (by rfl) T.isi (by decide +kernel) (pa_cons (pv 0) (pa_cons (pe_bltn (v := .ty "bool") (by rfl) T.bool (by decide +kernel) rfl) pa_nil))) (pe_callB call_isi (by rfl) T.isi (by decide +kernel) (pa_cons (pv 1) (pa_cons (pe_bltn (v := .ty "bool") (by rfl) T.bool (by decide +kernel) rfl) pa_nil))) (nomark _))
        (pe_one (pe_cmpR op_eq (pv 0) (pv 1) (nomark _))))))), ?_⟩
    refine ⟨_, rfl, by show 2 ≤ sizeLine; decide, fun t1 n1 => ?_⟩
    refine ⟨_, t1, _, _, _, false, rfl, upd_same, seq_cls, .base (.bl y), no_seq K, false, rfl, iteF ?_⟩
    refine ⟨_, rfl, by show 2 ≤ sizeLine; decide, fun t2 n2 => ?_⟩
    refine ⟨_, t2, _, _, _, false, rfl, upd_same, seq_cls, .base (.bl x), no_seq K, false, rfl, iteF ?_⟩
    refine ⟨_, rfl, _, _, _, _, true, rfl, .ty "bool", .base (.bl x), kit_ty (by decide +kernel), _, rfl, _, _, _, _, true, rfl, .ty "bool", .base (.bl y), kit_ty (by decide +kernel), rfl, _, rfl, iteT ?_⟩
    refine ⟨_, rfl, _, rfl, rfl, ?_⟩
    have e : decide (V.bl x = V.bl y) = decide (x = y) := by
      cases x <;> cases y <;> rfl
    rw [e]
    exact q _ ((same_upd n1).trans (same_upd n2))
/-! ### the law's word of a row -/
theorem lword_step {r : List Int} {i : Nat} {x : Int} (h : r[i]? = some x) : wordL (r.take (max (i + 1) 1)) = pushW (wordL (r.take (max i 1))) x := by
  cases i with
  | zero =>
    obtain ⟨hlt, e⟩ := List.getElem?_eq_some_iff.mp h
    cases r with
    | nil => simp at hlt
    | cons a r =>
      have e : a = x := by simpa using e
      subst e
      simp [wordL, wordFrom, pushW]
  | succ i =>
    have e1 : max (i + 1 + 1) 1 = i + 1 + 1 := by omega
    have e2 : max (i + 1) 1 = i + 1 := by omega
    rw [e1, e2, word_take h]
theorem scLWord : FnScope ["_law_row_here", "_law_found", "_law_letter"] ["_law_row_here"] (defScope sLWord) := ⟨rfl, rfl, rfl, by decide +kernel, rfl, by decide +kernel, by decide +kernel⟩
theorem ok_lword (D : Df K mg "_law_word" sLWord ["_law_row_here"] f fd) (T : Txt mg) : FnOk P w K mg base CX0 1 f fd ["_law_row_here"] spLWord := by
  refine D.fn.ok scLWord (fun vs H Q E h => ?_) (fun cdv A outer s H vs Q E hr h => ?_)
  · obtain ⟨a, r, rfl, _⟩ := h
    rfl
  · obtain ⟨a, r, rfl, hA, ⟨hl1, hl2, hx⟩, q⟩ := h
    refine ⟨_, pss_cons (ps_set (i := 1) scLWord.nd rfl (.inl rfl) (pe_lst (pa_cons (pe_ix ix_tup (pv 0) pe_int (fun _ _ => rfl)) pa_nil)))
      (pss_cons (ps_for PassesOwn.never rfl (pi_tup (pv 0)) (pg_name (i := 2) scLWord.nd rfl (.inl rfl))
        (pss_one (ps_if (pt_cmpR op_ne (pv 2) (pe_ix ix_list (pv 1) (pe_un un_neg pe_int) (fun _ _ => rfl)) (nomark _))
          (pss_one (ps_expr (pe_bm PySem.F.plainAttrs_list PySem.F.slot_list_append PySem.F.type_list_append mt_append (pv 1) (pa_cons (pv 2) pa_nil)))) pss_nil)))
      (pss_one (ps_ret (pe_callTy call_tuple_of (by rfl) T.tuple (by decide +kernel) (pa_cons (pv 1) pa_nil))))), ?_⟩
    obtain ⟨r0, rs, rfl⟩ : ∃ r0 rs, r = r0 :: rs := by
      cases r with
      | nil => simp at hl1
      | cons r0 rs => exact ⟨r0, rs, rfl⟩
    refine ⟨_, rfl, a, _, 0, .int r0, rfl, rfl, hA.seq, atI_nat (j := 0) rfl, by show 1 ≤ sizeLine; decide, fun L nL => ?_⟩
    have hA0 := hA.same (same_upd (u := .lst [.int r0]) nL)
    refine ⟨_, rfl, a, rfl, ⟨_, hA0.seq⟩, ?_⟩
    refine for_tup (K := K) (a := a) (xs := (r0 :: rs).map V.int) (fun i σ H' => ∃ v : Option V, σ = [some (.ref a), some (.ref L), v] ∧ Same H H' ∧ H' L = some (.lst ((wordL ((r0 :: rs).take (max i 1))).map V.int))) ⟨none, rfl, same_upd nL, ?_⟩ (fun i σ H' _ h => ?_) ?_ ?_
    · rw [upd_same]
      rfl
    · obtain ⟨v, _, s1, _⟩ := h
      exact (hA.same s1).seq
    · rintro i x σ H1 hi ⟨v, rfl, s1, e1⟩
      obtain ⟨z, hz, rfl⟩ := at_map hi
      have hlt : i < (r0 :: rs).length := (List.getElem?_eq_some_iff.mp hz).1
      have hne : wordL ((r0 :: rs).take (max i 1)) ≠ [] := wordL_ne (by
        intro z0
        have := congrArg List.length z0
        rw [List.length_take, List.length_cons] at this
        simp at this)
      have hlen := wordL_len ((r0 :: rs).take (max i 1))
      rw [List.length_take] at hlen
      have hst := lword_step hz
      generalize wordL ((r0 :: rs).take (max i 1)) = W at e1 hne hlen hst
      obtain ⟨W0, y, rfl⟩ : ∃ W0 y, W = W0 ++ [y] := ⟨W.dropLast, W.getLast hne, (List.dropLast_concat_getLast hne).symm⟩
      have hat : atI ((W0 ++ [y]).map V.int) (-1) = some (.int y) := by
        rw [List.map_append]
        exact atI_last _ _
      refine ⟨_, rfl, _, rfl, 1, rfl, L, _, _, _, rfl, rfl, .of e1, hat, rfl, _, rfl, ?_⟩
      refine ite2 (fun h => ?_) (fun h => ?_)
      · have h : ¬ z = y := fun e => by
          rw [e] at h
          simp at h
        refine ⟨_, rfl, .inl ⟨rfl, _, SqL.of e1⟩, _, rfl, L, _, _, rfl, rfl, e1, ?_, ?_⟩
        · rw [List.length_map]
          exact small1000 (by omega)
        · refine ⟨_, rfl, fun b o hb => ?_, ?_⟩
          · rw [upd_ne (ne_of_none hb nL)]
            exact s1 _ _ hb
          · rw [upd_same, hst]
            have h' : ¬ y = z := fun e => h e.symm
            simp [pushW, h']
      · have h : z = y := by
          by_cases e : z = y
          · exact e
          · exact absurd (by simp [e]) h
        refine ⟨_, rfl, s1, ?_⟩
        rw [e1, hst, h]
        simp [pushW]
    · rintro σ H1 ⟨v, rfl, s1, e1⟩
      have em : max ((r0 :: rs).map V.int).length 1 = (r0 :: rs).length := by
        rw [List.length_map, List.length_cons]
        omega
      rw [em, List.take_length] at e1
      refine ⟨_, rfl, L, _, rfl, .inl ⟨.of e1, fun p np => ?_⟩⟩
      exact q p _ (s1.trans (same_upd np)) upd_same
/-! ### the law's own verdict -/
theorem scThins : FnScope ["_law_row_here", "_law_out", "_law_left", "_law_letter"] ["_law_row_here", "_law_out"] (defScope sThins) := ⟨rfl, rfl, rfl, by decide +kernel, rfl, by decide +kernel, by decide +kernel⟩
theorem ok_thins {f1 : Addr} {fd1 : FuncData} (D : Df K mg "_law_thins" sThins ["_law_row_here", "_law_out"] f fd) (D1 : Df K mg "_law_word" sLWord ["_law_row_here"] f1 fd1) (G1 : FnOk P w K mg base CX0 1 f1 fd1 ["_law_row_here"] spLWord) (T : Txt mg) :
    FnOk P w K mg base CX0 2 f fd ["_law_row_here", "_law_out"] spThins := by
  refine D.fn.ok scThins (fun vs H Q E h => ?_) (fun cdv A outer s H vs Q E hr h => ?_)
  · obtain ⟨a, b, row, out, rfl, _⟩ := h
    rfl
  · obtain ⟨a, b, row, out, rfl, hA, hB, r1, r2, q⟩ := h
    refine ⟨_, pss_cons (ps_set (i := 2) scThins.nd rfl (.inl rfl) (pe_callTy call_list_of (by rfl) T.list (by decide +kernel) (pa_cons (pcall D1 G1 hr (pa_cons (pv 1) pa_nil)) pa_nil)))
      (pss_cons (ps_for PassesOwn.never rfl (pi_tup (pv 0)) (pg_name (i := 3) scThins.nd rfl (.inl rfl))
        (pss_one (ps_if (PW.pt (pw_and (pt_cmpR op_gt (pe_callB call_len_seq (by rfl) T.len PySem.boot_len (pa_cons (pv 2) pa_nil)) pe_int (nomark _)) (pw_and1 (pt_cmpR op_eq (pv 3) (pe_ix ix_list (pv 2) pe_int (fun _ _ => rfl)) (nomark _)))))
          (pss_one (ps_expr (pe_bm PySem.F.plainAttrs_list PySem.F.slot_list_pop PySem.F.type_list_pop mt_popAt (pv 2) (pa_cons pe_int pa_nil)))) pss_nil)))
      (pss_one (ps_ret (pe_cmpR op_eq (pe_callB call_len_seq (by rfl) T.len PySem.boot_len (pa_cons (pv 2) pa_nil)) pe_int (nomark _))))), ?_⟩
    refine ⟨_, rfl, b, out, rfl, hB, r2, fun p H1 s1 e1 => ?_⟩
    refine ⟨p, _, rfl, .inr e1.seq, fun L nL => ?_⟩
    have nL0 : H L = none := s1.free nL
    have s2 : Same H (upd H1 L (.lst ((wordL out).map V.int))) := s1.trans (same_upd nL)
    refine ⟨_, rfl, a, rfl, ⟨_, (hA.same s2).seq⟩, ?_⟩
    refine for_tup (K := K) (a := a) (xs := row.map V.int) (fun i σ H' => ∃ v : Option V, σ = [some (.ref a), some (.ref b), some (.ref L), v] ∧ Same H H' ∧ H' L = some (.lst (((row.take i).foldl stripT (wordL out)).map V.int))) ⟨none, rfl, s2, upd_same⟩ (fun i σ H' _ h => ?_) ?_ ?_
    · obtain ⟨v, _, s1, _⟩ := h
      exact (hA.same s1).seq
    · rintro i x σ H2 hi ⟨v, rfl, s3, e3⟩
      obtain ⟨z, hz, rfl⟩ := at_map hi
      have hst : (row.take (i + 1)).foldl stripT (wordL out) = stripT ((row.take i).foldl stripT (wordL out)) z := by
        rw [List.take_add_one, hz, Option.toList_some, List.foldl_append]
        rfl
      generalize (row.take i).foldl stripT (wordL out) = W at e3 hst
      refine ⟨_, rfl, L, _, rfl, .inl (.of e3), _, _, rfl, rfl, _, rfl, ?_⟩
      cases W with
      | nil => exact ⟨_, rfl, s3, by rw [e3, hst]; rfl⟩
      | cons y W =>
        have eg : decide ((0 : Int) < (((y :: W).map V.int).length : Nat)) = true := decide_eq_true (by rw [List.length_map, List.length_cons]; omega)
        rw [eg]
        refine iteT ?_
        refine ⟨_, rfl, _, rfl, L, _, 0, .int y, rfl, rfl, .of e3, atI_nat (j := 0) rfl, rfl, _, rfl, ?_⟩
        refine ite2 (fun h => ?_) (fun h => ?_)
        · have h := V.int.inj (of_decide_eq_true h)
          refine ⟨_, rfl, .inl ⟨rfl, _, SqL.of e3⟩, L, _, 0, 0, .int y, rfl, rfl, e3, by decide, by decide, ?_, rfl, ?_⟩
          · rw [List.length_map, List.length_cons]
            exact seqIndex_of (by decide) (by omega)
          · refine ⟨_, rfl, fun b o hb => ?_, ?_⟩
            · rw [upd_ne (ne_of_none hb nL0)]
              exact s3 _ _ hb
            · rw [upd_same, hst]
              show some (HO.lst (W.map V.int)) = some (HO.lst ((if z = y then W else y :: W).map V.int))
              rw [if_pos h]
        · have h : ¬ z = y := fun e => h (decide_eq_true (by rw [e]))
          refine ⟨_, rfl, s3, ?_⟩
          rw [e3, hst]
          show some (HO.lst ((y :: W).map V.int)) = some (HO.lst ((if z = y then W else y :: W).map V.int))
          rw [if_neg h]
    · rintro σ H2 ⟨v, rfl, s3, e3⟩
      rw [List.length_map, List.take_length, ← stripL_fold] at e3
      refine ⟨_, rfl, L, _, rfl, .inl (.of e3), rfl, ?_⟩
      have e : decide (V.int (((stripL row (wordL out)).map V.int).length : Nat) = V.int 0) = thins row out := by
        unfold thins
        cases stripL row (wordL out) with
        | nil => rfl
        | cons y W => rfl
      show Q (.bl (decide (V.int (((stripL row (wordL out)).map V.int).length : Nat) = V.int 0))) H2
      rw [e]
      exact q _ s3
/-! ### a drawn row -/
theorem scRow : FnScope ["_law_hand_here", "_law_letters", "_law_most", "_law_many", "_law_k", "_law_found"] ["_law_hand_here", "_law_letters", "_law_most"] (defScope sRow) := ⟨rfl, rfl, rfl, by decide +kernel, rfl, by decide +kernel, by decide +kernel⟩
theorem rep_one (x : V) : ∀ n : Nat, (List.replicate n [x]).flatten = List.replicate n x
  | 0 => rfl
  | n + 1 => by
    rw [List.replicate_succ, List.flatten_cons, rep_one x n]
    rfl
theorem ok_row {f1 : Addr} {fd1 : FuncData} (D : Df K mg "_law_row" sRow ["_law_hand_here", "_law_letters", "_law_most"] f fd) (D1 : Df K mg "_law_draw" sDraw ["_law_hand_here", "_law_many"] f1 fd1) (G1 : FnOk P w K mg base CX0 1 f1 fd1 ["_law_hand_here", "_law_many"] spDraw) (T : Txt mg) :
    FnOk P w K mg base CX0 2 f fd ["_law_hand_here", "_law_letters", "_law_most"] spRow := by
  refine D.fn.ok scRow (fun vs H Q E h => ?_) (fun cdv A outer s H vs Q E hr h => ?_)
  · obtain ⟨h, c, l, m, rfl, _⟩ := h
    rfl
  · obtain ⟨h, c, l, m, rfl, ok, l1, l2, m1, m2, q⟩ := h
    refine ⟨_, pss_cons (ps_set (i := 3) scRow.nd rfl (.inl rfl) (pe_op op_add pe_int (pcall D1 G1 hr (pa_cons (pv 0) (pa_cons (pv 2) pa_nil)))))
      (pss_cons (ps_if (pt_cmpR op_eq (pcall D1 G1 hr (pa_cons (pv 0) (pa_cons pe_int pa_nil))) pe_int (nomark _))
        (pss_one (ps_ret (pe_callTy call_tuple_of (by rfl) T.tuple (by decide +kernel) (pa_cons (pe_lc (own := [("_law_k", 4)]) (g := gName 4) (tt := tYes) rfl scRow.nd (pi_range1 rfl T.range (pa_cons (pv 3) pa_nil))
          (blkOk_by (N := ["_law_hand_here", "_law_letters", "_law_most", "_law_many", "_law_k", "_law_found"]) (sc := defScope sRow) (by decide +kernel)) (fun _ _ _ _ _ => pg_name (i := 4) scRow.nd rfl (Or.inl rfl)) (fun _ _ _ _ _ => pts_nil)
          (fun _ _ _ _ _ => pcall D1 G1 hr (pa_cons (pv 0) (pa_cons (pv 1) pa_nil)))) pa_nil)))) pss_nil)
      (pss_cons (ps_set (i := 5) scRow.nd rfl (.inl rfl) (pe_lst pa_nil))
      (pss_cons (ps_for PassesOwn.never rfl (pi_range1 rfl T.range (pa_cons (pv 3) pa_nil)) (pg_name (i := 4) scRow.nd rfl (.inl rfl))
        (pss_one (ps_if (pt_cmpR op_lt (pe_callB call_len_seq (by rfl) T.len PySem.boot_len (pa_cons (pv 5) pa_nil)) (pv 3) (nomark _))
          (pss_one (ps_expr (pe_bm PySem.F.plainAttrs_list PySem.F.slot_list_extend PySem.F.type_list_extend mt_extend (pv 5)
            (pa_cons (pe_op op_rep (pe_lst (pa_cons (pcall D1 G1 hr (pa_cons (pv 0) (pa_cons (pv 1) pa_nil))) pa_nil)) (pe_op op_add pe_int (pcall D1 G1 hr (pa_cons (pv 0) (pa_cons pe_int pa_nil))))) pa_nil)))) pss_nil)))
      (pss_one (ps_ret (pe_callTy call_tuple_of (by rfl) T.tuple (by decide +kernel) (pa_cons (pe_slice sl_list (pv 5) po_none (po_some (pv 3))) pa_nil))))))), ?_⟩
    refine ⟨_, rfl, _, rfl, h, c, m, rfl, ok, by omega, by omega, fun H1 d kp1 ok1 d0 d1 => ?_⟩
    refine ⟨_, _, rfl, rfl, ?_⟩
    refine ⟨_, rfl, h, c, 2, rfl, ok1, by omega, by omega, fun H2 d2 kp2 ok2 _ _ => ?_⟩
    have kp12 := kp1.trans kp2
    refine ⟨rfl, _, rfl, ite2 (fun _ => ?_) (fun _ => ?_)⟩
    · refine ⟨_, rfl, _, rfl, by omega, by omega, fun L nL => ?_⟩
      have nLh := ok2.ne nL
      have nL0 := kp12.free nLh.1 nL
      refine lc_range (lo := 0) (n := (1 + d).toNat) (fun i H' => ∃ r : List Int, Kp h H H' ∧ HandOk H' h c ∧ H' L = some (.lst (r.map V.int)) ∧ r.length = i ∧ ∀ x ∈ r, 0 ≤ x ∧ x < 4) ⟨[], kp12.upd nL0, ok2.upd nLh, upd_same, rfl, fun x hx => nomatch hx⟩ ?_ ?_
      · rintro i H3 hi ⟨r, kp3, ok3, e3, hr3, hx3⟩
        refine ⟨rfl, _, rfl, _, rfl, h, c, l, rfl, ok3, by omega, by omega, fun H4 d4 kp4 ok4 d40 d41 => ?_⟩
        have e4 := kp4 L _ nLh.1 e3
        refine ⟨_, e4, ?_, r ++ [d4], (kp3.trans kp4).upd nL0, ok4.upd nLh, ?_, ?_, ?_⟩
        · rw [List.length_map]
          exact small1000 (by omega)
        · rw [upd_same, List.map_append]
          rfl
        · rw [List.length_append, hr3]
          rfl
        · intro x hx
          rcases List.mem_append.mp hx with hx | hx
          · exact hx3 x hx
          · rw [List.mem_singleton.mp hx]
            omega
      · rintro H3 ⟨r, kp3, ok3, e3, hr3, hx3⟩
        refine ⟨L, _, rfl, .inl ⟨.of e3, fun p np => ?_⟩⟩
        refine q _ p r (kp3.trans (.of (same_upd np))) (ok3.same (same_upd np)) upd_same ⟨by omega, by omega, hx3⟩ (by omega)
    · refine ⟨Nat.zero_le _, fun L nL => ?_⟩
      have nLh := ok2.ne nL
      have nL0 := kp12.free nLh.1 nL
      refine ⟨_, rfl, _, rfl, by omega, by omega, ?_⟩
      refine for_range (lo := 0) (n := (1 + d).toNat) (fun i σ H' => ∃ (r : List Int) (v : Option V), σ = [some (.ref h), some (.int l), some (.int m), some (.int (1 + d)), v, some (.ref L)] ∧ Kp h H H' ∧ HandOk H' h c ∧ H' L = some (.lst (r.map V.int)) ∧ (∀ x ∈ r, 0 ≤ x ∧ x < 4) ∧ min i (1 + d).toNat ≤ r.length ∧ r.length ≤ 100)
        ⟨[], none, rfl, kp12.upd nL0, ok2.upd nLh, upd_same, (by intro x hx; cases hx), (by rw [List.length_nil]; omega), (by rw [List.length_nil]; omega)⟩ ?_ ?_
      · rintro i σ H3 hi ⟨r, v, rfl, kp3, ok3, e3, hx3, hr3, hr4⟩
        refine ⟨_, rfl, L, _, rfl, .inl (.of e3), _, rfl, _, _, rfl, rfl, _, rfl, ?_⟩
        refine ite2 (fun hc => ?_) (fun hc => ?_)
        · have hc := of_decide_eq_true hc
          rw [List.length_map] at hc
          refine ⟨_, rfl, .inl ⟨rfl, _, SqL.of e3⟩, ?_⟩
          refine ⟨_, rfl, _, rfl, h, c, l, rfl, ok3, by omega, by omega, fun H4 d4 kp4 ok4 d40 d41 => ?_⟩
          refine ⟨by show 1 ≤ sizeLine; decide, fun M nM => ?_⟩
          have e4 := kp4 L _ nLh.1 e3
          have nMh := ok4.ne nM
          have nML : L ≠ M := ne_of_none e4 nM
          have nM0 : H M = none := (kp3.trans kp4).free nMh.1 nM
          refine ⟨_, rfl, h, c, 3, rfl, ok4.upd nMh, by omega, by omega, fun H5 d5 kp5 ok5 d50 d51 => ?_⟩
          have eM : H5 M = some (.lst [.int d4]) := kp5 M _ nMh.1 upd_same
          have eL : H5 L = some (.lst (r.map V.int)) := kp5 L _ nLh.1 (by rw [upd_ne nML]; exact e4)
          have kp35 : Kp h H H5 := ((kp3.trans kp4).upd nM0).trans kp5
          refine ⟨_, _, rfl, rfl, M, 1 + d5, _, rfl, rfl, eM, by omega, by omega, ?_, fun N nN => ?_⟩
          · have : (1 + d5).toNat ≤ 3 := by omega
            show 1 * (1 + d5).toNat ≤ sizeLine
            exact Nat.le_trans (by omega) (small1001 (n := 3) (by omega))
          have nNh := ok5.ne nN
          have nNL : L ≠ N := ne_of_none eL nN
          have nN0 : H N = none := kp35.free nNh.1 nN
          have er : (List.replicate (1 + d5).toNat [V.int d4]).flatten = (List.replicate (1 + d5).toNat d4).map V.int := by
            rw [rep_one, List.map_replicate]
          refine ⟨L, N, _, _, rfl, rfl, by rw [upd_ne nNL]; exact eL, upd_same, ?_, ?_⟩
          · rw [er, List.length_map, List.length_map, List.length_replicate]
            exact small1001 (by omega)
          · refine ⟨r ++ List.replicate (1 + d5).toNat d4, _, rfl, (kp35.upd nN0).upd nL0, (ok5.upd nNh).upd nLh, ?_, ?_, ?_, ?_⟩
            · rw [upd_same, er, List.map_append]
            · intro x hx
              rcases List.mem_append.mp hx with hx | hx
              · exact hx3 x hx
              · rw [(List.mem_replicate.mp hx).2]
                omega
            · rw [List.length_append, List.length_replicate]
              omega
            · rw [List.length_append, List.length_replicate]
              omega
        · have hc : ¬ (r.length : Int) < 1 + d := fun z => hc (decide_eq_true (by rw [List.length_map]; exact z))
          exact ⟨r, _, rfl, kp3, ok3, e3, hx3, by omega, hr4⟩
      · rintro σ H3 ⟨r, v, rfl, kp3, ok3, e3, hx3, hr3, hr4⟩
        have ec : cutV (r.map V.int) none (some (1 + d)) = (r.take (1 + d).toNat).map V.int := by
          unfold cutV
          have e1 : (1 + d) = (((1 + d).toNat : Nat) : Int) := by omega
          rw [HT.sIx_none, List.drop_zero, e1, HT.sIx_nat, Nat.sub_zero, List.map_take, List.length_map, Int.toNat_natCast]
          rw [Nat.min_eq_left (by omega)]
        refine ⟨_, rfl, _, rfl, _, rfl, L, _, rfl, .of e3, fun M nM => ?_⟩
        rw [ec]
        refine ⟨M, _, rfl, .inl ⟨.of upd_same, fun p np => ?_⟩⟩
        have s4 : Same H3 (upd (upd H3 M (.lst ((r.take (1 + d).toNat).map V.int))) p (.tup ((r.take (1 + d).toNat).map V.int))) := (same_upd nM).trans (same_upd np)
        refine q _ p (r.take (1 + d).toNat) (kp3.trans (.of s4)) (ok3.same s4) upd_same ⟨?_, ?_, fun x hx => hx3 x (List.mem_of_mem_take hx)⟩ ?_
        · rw [List.length_take]
          omega
        · rw [List.length_take]
          omega
        · rw [List.length_take]
          omega
end
end Fly

set_option Elab.async false
set_option linter.all false
set_option maxRecDepth 100000
set_option maxHeartbeats 4000000
namespace Fly
open PySem PySem.Spec PyProof.Rows L2
theorem mem_getD {r : List Int} {q : Nat} (h : q < r.length) : r.getD q 0 ∈ r := by
  rw [List.getD_eq_getElem?_getD, List.getElem?_eq_getElem h]
  exact List.getElem_mem h
theorem getD_at {r : List Int} {q : Nat} (h : q < r.length) : r[q]? = some (r.getD q 0) := by
  rw [List.getD_eq_getElem?_getD, List.getElem?_eq_getElem h]
  rfl
theorem erase_map : ∀ (l : List Int) (k : Nat), (l.map V.int).eraseIdx k = (l.eraseIdx k).map V.int
  | [], _ => rfl
  | _ :: _, 0 => rfl
  | a :: l, k + 1 => by
    show V.int a :: (l.map V.int).eraseIdx k = V.int a :: (l.eraseIdx k).map V.int
    rw [erase_map l k]
section
variable {P : Program} {w : World} {K : PySem.W.Frag} {mg : Str → Option Value} {base : Heap} {f : Addr} {fd : FuncData}
theorem scThinned : FnScope ["_law_hand_here", "_law_row_here", "_law_most", "_law_places", "_law_k", "_law_place"] ["_law_hand_here", "_law_row_here", "_law_most"] (defScope sThinned) := ⟨rfl, rfl, rfl, by decide +kernel, rfl, by decide +kernel, by decide +kernel⟩
theorem ok_thinned {f1 : Addr} {fd1 : FuncData} (D : Df K mg "_law_thinned" sThinned ["_law_hand_here", "_law_row_here", "_law_most"] f fd) (D1 : Df K mg "_law_draw" sDraw ["_law_hand_here", "_law_many"] f1 fd1) (G1 : FnOk P w K mg base CX0 1 f1 fd1 ["_law_hand_here", "_law_many"] spDraw) (T : Txt mg) :
    FnOk P w K mg base CX0 2 f fd ["_law_hand_here", "_law_row_here", "_law_most"] spThinned := by
  refine D.fn.ok scThinned (fun vs H Q E h => ?_) (fun cdv A outer s H vs Q E hr h => ?_)
  · obtain ⟨h, c, a, r, m, rfl, _⟩ := h
    rfl
  · obtain ⟨h, c, a, r, m, rfl, ok, hA, ⟨hl1, hl2, hx⟩, m1, m2, q⟩ := h
    refine ⟨_, pss_cons (ps_set (i := 3) scThinned.nd rfl (.inl rfl) (pe_callB cr_sorted (by rfl) T.sorted (by decide +kernel) (pa_cons (pe_lc (own := [("_law_k", 4)]) (g := gName 4) (tt := tYes) rfl scThinned.nd (pi_range1 rfl T.range (pa_cons (pe_op op_add pe_int (pcall D1 G1 hr (pa_cons (pv 0) (pa_cons (pv 2) pa_nil)))) pa_nil))
          (blkOk_by (N := ["_law_hand_here", "_law_row_here", "_law_most", "_law_places", "_law_k", "_law_place"]) (sc := defScope sThinned) (by decide +kernel)) (fun _ _ _ _ _ => pg_name (i := 4) scThinned.nd rfl (Or.inl rfl)) (fun _ _ _ _ _ => pts_nil)
          (fun _ _ _ _ _ => pcall D1 G1 hr (pa_cons (pv 0) (pa_cons (pe_callB (r := fun xs H Q => ∃ p ys, xs = [V.ref p] ∧ (SqL K H p ys ∨ SqT K H p ys) ∧ Q (V.int ys.length) H) call_len_seq (by rfl) T.len PySem.boot_len (pa_cons (pv 1) pa_nil)) pa_nil)))) pa_nil)))
      (pss_one (ps_ret (pe_callTy call_tuple_of (by rfl) T.tuple (by decide +kernel) (pa_cons (pe_lc (own := [("_law_place", 5)]) (g := gName 5) (tt := tYes) rfl scThinned.nd (pi_list (pv 3))
          (blkOk_by (N := ["_law_hand_here", "_law_row_here", "_law_most", "_law_places", "_law_k", "_law_place"]) (sc := defScope sThinned) (by decide +kernel)) (fun _ _ _ _ _ => pg_name (i := 5) scThinned.nd rfl (Or.inl rfl)) (fun _ _ _ _ _ => pts_nil)
          (fun _ _ _ _ _ => pe_ix (r := rIxT K) ix_tup (pv 1) (pv 5) (fun _ _ => rfl))) pa_nil)))), ?_⟩
    refine ⟨_, rfl, _, rfl, h, c, m, rfl, ok, by omega, by omega, fun H1 d kp1 ok1 d0 d1 => ?_⟩
    refine ⟨_, _, rfl, rfl, _, rfl, by omega, by omega, fun L nL => ?_⟩
    have nLh := ok1.ne nL
    have nL0 := kp1.free nLh.1 nL
    refine lc_range (lo := 0) (n := (1 + d).toNat) (fun i H' => ∃ ns : List Int, Kp h H H' ∧ HandOk H' h c ∧ H' L = some (.lst (ns.map V.int)) ∧ ns.length = i ∧ ∀ x ∈ ns, 0 ≤ x ∧ x < r.length) ⟨[], kp1.upd nL0, ok1.upd nLh, upd_same, rfl, (by intro x hx; cases hx)⟩ ?_ ?_
    · rintro i H3 hi ⟨ns, kp3, ok3, e3, hn3, hx3⟩
      have hA3 := kp3.tup ok hA
      refine ⟨rfl, _, rfl, _, rfl, a, _, rfl, .inr hA3.seq, h, c, _, rfl, ok3, by rw [List.length_map]; omega, by rw [List.length_map]; omega, fun H4 d4 kp4 ok4 d40 d41 => ?_⟩
      rw [List.length_map] at d41
      have e4 := kp4 L _ nLh.1 e3
      refine ⟨_, e4, ?_, ns ++ [d4], (kp3.trans kp4).upd nL0, ok4.upd nLh, ?_, ?_, ?_⟩
      · rw [List.length_map]
        exact small1000 (by omega)
      · rw [upd_same, List.map_append]
        rfl
      · rw [List.length_append, hn3]
        rfl
      · intro x hx
        rcases List.mem_append.mp hx with hx | hx
        · exact hx3 x hx
        · rw [List.mem_singleton.mp hx]
          omega
    · rintro H3 ⟨ns, kp3, ok3, e3, hn3, hx3⟩
      refine ⟨L, ns, rfl, .of e3, by omega, fun ns' p perm up np => ?_⟩
      have nph := ok3.ne np
      have np0 := kp3.free nph.1 np
      have kp4 : Kp h H (upd H3 p (.lst (ns'.map V.int))) := kp3.upd np0
      have hA4 := kp4.tup ok hA
      have lp : ns'.length = (1 + d).toNat := by rw [perm.length_eq, hn3]
      have hx4 : ∀ x ∈ ns', 0 ≤ x ∧ x < r.length := fun x hx => hx3 x (perm.mem_iff.mp hx)
      refine ⟨_, rfl, p, rfl, ⟨_, .of upd_same⟩, fun M nM => ?_⟩
      have npM : p ≠ M := ne_of_none (o := .lst (ns'.map V.int)) upd_same nM
      have nMh := (ok3.upd (o := .lst (ns'.map V.int)) nph).ne nM
      have nM0 := kp4.free nMh.1 nM
      refine lc_list (K := K) (a := p) (xs := ns'.map V.int) (fun i H' => Same (upd H3 p (.lst (ns'.map V.int))) H' ∧ H' M = some (.lst (((ns'.take i).map fun (x : Int) => r.getD x.toNat 0).map V.int))) ⟨same_upd nM, upd_same⟩ (fun i H' _ h => .of (h.1 _ _ upd_same)) ?_ ?_
      · rintro i x H5 hi ⟨s5, e5⟩
        obtain ⟨z, hz, rfl⟩ := at_map hi
        have hzz := hx4 z (List.mem_of_getElem? hz)
        have hat : atI (r.map V.int) z = some (.int (r.getD z.toNat 0)) := by
          have e : ((z.toNat : Nat) : Int) = z := by omega
          have := atI_map (getD_at (r := r) (q := z.toNat) (by omega))
          rw [e] at this
          exact this
        refine ⟨rfl, _, rfl, _, rfl, a, _, _, _, rfl, rfl, (hA4.same s5).seq, hat, _, e5, ?_, ?_, ?_⟩
        · simp only [List.length_map, List.length_take]
          exact small1000 (by omega)
        · intro b o hb
          rw [upd_ne (ne_of_none hb nM)]
          exact s5 _ _ hb
        · rw [upd_same, List.take_add_one, hz, Option.toList_some, List.map_append, List.map_append]
          rfl
      · rintro H5 ⟨s5, e5⟩
        rw [List.length_map, List.take_length] at e5
        refine ⟨M, _, rfl, .inl ⟨.of e5, fun t nt => ?_⟩⟩
        have s6 := s5.trans (same_upd (u := .tup ((ns'.map fun (x : Int) => r.getD x.toNat 0).map V.int)) nt)
        have eo : (ns'.map fun (x : Int) => r.getD x.toNat 0) = (ns'.map Int.toNat).map fun y => r.getD y 0 := by
          rw [List.map_map]
          rfl
        refine q _ t (ns'.map fun (x : Int) => r.getD x.toNat 0) (kp4.trans (.of s6)) ((ok3.upd nph).same s6) upd_same ⟨?_, ?_, ?_⟩ ?_
        · rw [List.length_map]
          omega
        · rw [List.length_map]
          omega
        · intro y hy
          obtain ⟨z, hz, rfl⟩ := List.mem_map.mp hy
          have := hx4 z hz
          exact hx _ (mem_getD (by omega))
        · rw [eo]
          refine thin_at ?_ ?_
          · rw [List.pairwise_map]
            exact up.imp fun {x y} hxy => by omega
          · intro y hy
            obtain ⟨z, hz, rfl⟩ := List.mem_map.mp hy
            have := hx4 z hz
            omega
/-! ### lanes doubled and struck -/
theorem scChanged : FnScope ["_law_hand_here", "_law_row_here", "_law_found", "_law_turn", "_law_at"] ["_law_hand_here", "_law_row_here"] (defScope sChanged) := ⟨rfl, rfl, rfl, by decide +kernel, rfl, by decide +kernel, by decide +kernel⟩
theorem ok_changed {f1 : Addr} {fd1 : FuncData} (D : Df K mg "_law_changed" sChanged ["_law_hand_here", "_law_row_here"] f fd) (D1 : Df K mg "_law_draw" sDraw ["_law_hand_here", "_law_many"] f1 fd1) (G1 : FnOk P w K mg base CX0 1 f1 fd1 ["_law_hand_here", "_law_many"] spDraw) (T : Txt mg) :
    FnOk P w K mg base CX0 2 f fd ["_law_hand_here", "_law_row_here"] spChanged := by
  refine D.fn.ok scChanged (fun vs H Q E h => ?_) (fun cdv A outer s H vs Q E hr h => ?_)
  · obtain ⟨h, c, a, r, rfl, _⟩ := h
    rfl
  · obtain ⟨h, c, a, r, rfl, ok, hA, ⟨hl1, hl2, hx⟩, hl3, q⟩ := h
    refine ⟨_, pss_cons (ps_set (i := 2) scChanged.nd rfl (.inl rfl) (pe_callTy call_list_of (by rfl) T.list (by decide +kernel) (pa_cons (pv 1) pa_nil)))
      (pss_cons (ps_for PassesOwn.never rfl (pi_range1 rfl T.range (pa_cons (pcall D1 G1 hr (pa_cons (pv 0) (pa_cons pe_int pa_nil))) pa_nil)) (pg_name (i := 3) scChanged.nd rfl (.inl rfl))
        (pss_cons (ps_set (i := 4) scChanged.nd rfl (.inl rfl) (pcall D1 G1 hr (pa_cons (pv 0) (pa_cons (pe_callB call_len_seq (by rfl) T.len PySem.boot_len (pa_cons (pv 2) pa_nil)) pa_nil))))
        (pss_one (ps_if (pt_cmpR op_eq (pcall D1 G1 hr (pa_cons (pv 0) (pa_cons pe_int pa_nil))) pe_int (nomark _))
          (pss_one (ps_expr (pe_bm PySem.F.plainAttrs_list PySem.F.slot_list_insert PySem.F.type_list_insert mt_insert (pv 2) (pa_cons (pv 4) (pa_cons (pe_ix ix_list (pv 2) (pv 4) (fun _ _ => rfl)) pa_nil)))))
          (pss_one (ps_if (pt_cmpR op_gt (pe_callB call_len_seq (by rfl) T.len PySem.boot_len (pa_cons (pv 2) pa_nil)) pe_int (nomark _))
            (pss_one (ps_expr (pe_bm PySem.F.plainAttrs_list PySem.F.slot_list_pop PySem.F.type_list_pop mt_popAt (pv 2) (pa_cons (pv 4) pa_nil)))) pss_nil))))))
      (pss_one (ps_ret (pe_callTy call_tuple_of (by rfl) T.tuple (by decide +kernel) (pa_cons (pv 2) pa_nil))))), ?_⟩
    refine ⟨_, rfl, a, _, rfl, .inr hA.seq, fun L nL => ?_⟩
    have nLh := ok.ne nL
    refine ⟨_, rfl, h, c, 12, rfl, ok.upd nLh, by omega, by omega, fun H1 d kp1 ok1 d0 d1 => ?_⟩
    have kp1' : Kp h H H1 := ((Kp.refl h H).upd nL).trans kp1
    refine ⟨_, rfl, by omega, by omega, ?_⟩
    refine for_range (lo := 0) (n := d.toNat) (fun i σ H' => ∃ (o : List Int) (u v : Option V), σ = [some (.ref h), some (.ref a), some (.ref L), u, v] ∧ Kp h H H' ∧ HandOk H' h c ∧ H' L = some (.lst (o.map V.int)) ∧ Thin r o ∧ 1 ≤ o.length ∧ o.length ≤ 40 + i ∧ ∀ x ∈ o, 0 ≤ x ∧ x < 4)
      ⟨r, none, none, rfl, kp1', ok1, kp1 L _ nLh.1 upd_same, Thin.refl r, hl1, by omega, hx⟩ ?_ ?_
    · rintro i σ H3 hi ⟨o, u, v, rfl, kp3, ok3, e3, th, o1, o2, hx3⟩
      refine ⟨_, rfl, _, rfl, L, _, rfl, .inl (.of e3), h, c, _, rfl, ok3, by rw [List.length_map]; omega, by rw [List.length_map]; omega, fun H4 k kp4 ok4 k0 k1 => ?_⟩
      rw [List.length_map] at k1
      have hk : k.toNat < o.length := by omega
      have ek : ((k.toNat : Nat) : Int) = k := by omega
      have hz : o[k.toNat]? = some o[k.toNat] := List.getElem?_eq_getElem hk
      have hzz := hx3 _ (List.mem_of_getElem? hz)
      refine ⟨_, rfl, h, c, 2, rfl, ok4, by omega, by omega, fun H5 d5 kp5 ok5 _ _ => ?_⟩
      have kp35 := (kp3.trans kp4).trans kp5
      have e5 := kp5 L _ nLh.1 (kp4 L _ nLh.1 e3)
      have nL0 : H L = none := nL
      refine ⟨rfl, _, rfl, ite2 (fun _ => ?_) (fun _ => ?_)⟩
      · have hat : atI (o.map V.int) k = some (.int o[k.toNat]) := by
          have := atI_map hz
          rw [ek] at this
          exact this
        generalize o[k.toNat] = x at hz hzz hat
        refine ⟨_, rfl, .inl ⟨rfl, _, SqL.of e5⟩, _, rfl, _, rfl, _, rfl, L, _, _, _, rfl, rfl, .of e5, hat, L, _, k, _, rfl, rfl, e5, ?_, k0, by omega, ?_⟩
        · rw [List.length_map]
          exact small1000 (by omega)
        · refine ⟨o.take k.toNat ++ [x] ++ o.drop k.toNat, _, _, rfl, kp35.upd nL0, ok5.upd nLh, ?_, thin_double hz th, ?_, ?_, ?_⟩
          · rw [upd_same, List.map_append, List.map_append, List.map_take, List.map_drop]
            rfl
          · simp only [List.length_append, List.length_take, List.length_drop, List.length_singleton]
            omega
          · simp only [List.length_append, List.length_take, List.length_drop, List.length_singleton]
            omega
          · intro y hy
            rcases List.mem_append.mp hy with hy | hy
            · rcases List.mem_append.mp hy with hy | hy
              · exact hx3 y (List.mem_of_mem_take hy)
              · rw [List.mem_singleton.mp hy]
                exact hzz
            · exact hx3 y (List.mem_of_mem_drop hy)
      · refine ⟨_, rfl, L, _, rfl, .inl (.of e5), _, _, rfl, rfl, _, rfl, ?_⟩
        refine ite2 (fun hg => ?_) (fun hg => ⟨o, _, _, rfl, kp35, ok5, e5, th, o1, by omega, hx3⟩)
        have hg := of_decide_eq_true hg
        rw [List.length_map] at hg
        refine ⟨_, rfl, .inl ⟨rfl, _, SqL.of e5⟩, _, rfl, L, _, k, k.toNat, .int o[k.toNat], rfl, rfl, e5, by omega, by omega, ?_, ?_, ?_⟩
        · rw [List.length_map]
          exact seqIndex_of k0 k1
        · rw [List.getElem?_map, hz]
          rfl
        · refine ⟨o.eraseIdx k.toNat, _, _, rfl, kp35.upd nL0, ok5.upd nLh, ?_, thin_strike th, ?_, ?_, fun y hy => hx3 y (List.mem_of_mem_eraseIdx hy)⟩
          · rw [upd_same, erase_map]
          · rw [List.length_eraseIdx_of_lt hk]
            omega
          · rw [List.length_eraseIdx_of_lt hk]
            omega
    · rintro σ H3 ⟨o, u, v, rfl, kp3, ok3, e3, th, o1, o2, hx3⟩
      refine ⟨_, rfl, L, _, rfl, .inl ⟨.of e3, fun p np => ?_⟩⟩
      exact q _ p o (kp3.trans (.of (same_upd np))) (ok3.same (same_upd np)) upd_same ⟨o1, by omega, hx3⟩ th
end
end Fly

set_option Elab.async false
set_option linter.all false
set_option maxRecDepth 100000
set_option maxHeartbeats 8000000
namespace Fly
open PySem PySem.Spec PyProof.Rows L2
/-! ### tuples of ints as data -/
def tupD (l : List Int) : PyData := .tuple (l.map PyData.int)
theorem all_eqv : ∀ l m : List Int, PyData.eqvAll (l.map PyData.int) (m.map PyData.int) = decide (l = m)
  | [], [] => rfl
  | [], _ :: _ => rfl
  | _ :: _, [] => rfl
  | a :: l, b :: m => by
    show (a == b && PyData.eqvAll (l.map PyData.int) (m.map PyData.int)) = _
    rw [all_eqv l m]
    by_cases h : a = b <;> by_cases h2 : l = m <;> simp [h, h2]
theorem tupD_eqv (l m : List Int) : PyData.eqv (tupD l) (tupD m) = decide (l = m) := by
  show PyData.eqvAll (l.map PyData.int) (m.map PyData.int) = _
  exact all_eqv l m
theorem all_lay : ∀ l : List Int, PyData.canLayAll0 (l.map PyData.int) = true
  | [] => rfl
  | a :: l => by
    show (true && PyData.canLayAll0 (l.map PyData.int)) = true
    rw [all_lay l]
    rfl
theorem all_depth : ∀ l : List Int, PyData.depthAll (l.map PyData.int) = 0
  | [] => rfl
  | a :: l => by
    show max 0 (PyData.depthAll (l.map PyData.int)) = 0
    rw [all_depth l]
    rfl
theorem tupD_shaped (l : List Int) : SeqAt.shaped (tupD l) = true := by
  unfold SeqAt.shaped
  have h1 : (tupD l).canLay0 = true := all_lay l
  have h2 : (tupD l).depth ≤ 64 := by
    show PyData.depthAll (l.map PyData.int) + 1 ≤ 64
    rw [all_depth l]
    decide
  rw [h1, decide_eq_true h2]
  rfl
theorem dp_all {K : PySem.W.Frag} {H : Hp} : ∀ l : List Int, DpAll K H (l.map V.int) (l.map PyData.int)
  | [] => .nil
  | a :: l => .cons (.int a) (dp_all l)
theorem dp_tup {K : PySem.W.Frag} {H : Hp} {a : Addr} {l : List Int} (h : Tp H a l) : Dp K H (.ref a) (tupD l) := .tup h.seq (dp_all l)
theorem row_rev {r : List Int} (h : IsRow r) : IsRow r.reverse := by
  obtain ⟨h1, h2, h3⟩ := h
  exact ⟨by rw [List.length_reverse]; exact h1, by rw [List.length_reverse]; exact h2, fun x hx => h3 x (List.mem_reverse.mp hx)⟩
theorem row_word {r : List Int} (h : IsRow r) : IsRow (wordL r) := by
  obtain ⟨h1, h2, h3⟩ := h
  refine ⟨?_, Nat.le_trans (wordL_len r) h2, fun x hx => h3 x ((wordL_sub r).subset hx)⟩
  have hn : wordL r ≠ [] := wordL_ne (by
    intro e
    rw [e] at h1
    simp at h1)
  exact List.length_pos_iff.mpr hn
def spLaw (K : PySem.W.Frag) : Sp := fun vs H Q _ => ∃ (a : Addr) (ns : List Int), vs = [.ref a] ∧ SqL K H a (ns.map V.int) ∧ ns.length ≤ 63 ∧ ∀ H', Q (.bl true) H'
theorem way_some {row out : List Int} (h : Thin row out) : wayL row out ≠ none := fun e => by
  have := thinB_of h
  unfold thinB at this
  rw [e] at this
  cases this
theorem rev_at {H : Hp} {x : Addr} {r : List Int} (h : H x = some (.tup (r.map V.int).reverse)) : Tp H x r.reverse := by
  unfold Tp
  rw [List.map_reverse]
  exact h
theorem ofN_get {qs : List Nat} {k : Nat} (h : k < qs.length) : (ofN qs)[k]? = some ((qs.getD k 0 : Nat) : Int) := by
  unfold ofN
  rw [List.getElem?_map, List.getD_eq_getElem?_getD, List.getElem?_eq_getElem h]
  rfl
/-- the defs that the law calls -/
structure Env1 (P : Program) (w : World) (K : PySem.W.Frag) (mg : Str → Option Value) (base : Heap) where
  fHand : Addr
  dHand : FuncData
  DHand : Df K mg "_law_hand" sHand ["_law_script"] fHand dHand
  GHand : FnOk P w K mg base CX0 1 fHand dHand ["_law_script"] (spHand K)
  fDraw : Addr
  dDraw : FuncData
  DDraw : Df K mg "_law_draw" sDraw ["_law_hand_here", "_law_many"] fDraw dDraw
  GDraw : FnOk P w K mg base CX0 1 fDraw dDraw ["_law_hand_here", "_law_many"] spDraw
  fIs : Addr
  dIs : FuncData
  DIs : Df K mg "_law_is" sIs ["_law_told", "_law_due"] fIs dIs
  GIs : FnOk P w K mg base CX0 1 fIs dIs ["_law_told", "_law_due"] spIs
  fRow : Addr
  dRow : FuncData
  DRow : Df K mg "_law_row" sRow ["_law_hand_here", "_law_letters", "_law_most"] fRow dRow
  GRow : FnOk P w K mg base CX0 2 fRow dRow ["_law_hand_here", "_law_letters", "_law_most"] spRow
  fThd : Addr
  dThd : FuncData
  DThd : Df K mg "_law_thinned" sThinned ["_law_hand_here", "_law_row_here", "_law_most"] fThd dThd
  GThd : FnOk P w K mg base CX0 2 fThd dThd ["_law_hand_here", "_law_row_here", "_law_most"] spThinned
  fThs : Addr
  dThs : FuncData
  DThs : Df K mg "_law_thins" sThins ["_law_row_here", "_law_out"] fThs dThs
  GThs : FnOk P w K mg base CX0 2 fThs dThs ["_law_row_here", "_law_out"] spThins
  fChg : Addr
  dChg : FuncData
  DChg : Df K mg "_law_changed" sChanged ["_law_hand_here", "_law_row_here"] fChg dChg
  GChg : FnOk P w K mg base CX0 2 fChg dChg ["_law_hand_here", "_law_row_here"] spChanged
  fThin : Addr
  dThin : FuncData
  DThin : Df K mg "is_thinning" sIsThin ["row", "out"] fThin dThin
  GThin : FnOk P w K mg base CX0 7 fThin dThin ["row", "out"] spIsThin
  fWay : Addr
  dWay : FuncData
  DWay : Df K mg "way" sWay ["row", "out"] fWay dWay
  GWay : FnOk P w K mg base CX0 7 fWay dWay ["row", "out"] spWay
  fFlt : Addr
  dFlt : FuncData
  DFlt : Df K mg "way_fault" sFault ["row", "out", "thing"] fFlt dFlt
  GFlt : FnOk P w K mg base CX0 7 fFlt dFlt ["row", "out", "thing"] spFault
  fWord : Addr
  dWord : FuncData
  DWord : Df K mg "word" sWord ["row"] fWord dWord
  GWord : FnOk P w K mg base CX0 6 fWord dWord ["row"] spWordOf
section
variable {P : Program} {w : World} {K : PySem.W.Frag} {mg : Str → Option Value} {base : Heap} {f : Addr} {fd : FuncData}
theorem scLaw : FnScope ["_law_script", "_law_hand_here", "_law_turn", "_law_letters", "_law_row_here", "_law_one", "_law_two", "_law_other", "_law_out", "_law_further", "_law_first", "_law_second", "_law_place"] ["_law_script"] (defScope sLaw) := ⟨rfl, rfl, rfl, by decide +kernel, rfl, by decide +kernel, by decide +kernel⟩
theorem ok_law (D : Df K mg "law" sLaw ["_law_script"] f fd) (B : Env1 P w K mg base) (T : Txt mg) : FnOk P w K mg base CX0 8 f fd ["_law_script"] (spLaw K) := by
  refine D.fn.ok scLaw (fun vs H Q E h => ?_) (fun cdv A outer s H vs Q E hr h => ?_)
  · obtain ⟨a, ns, rfl, _⟩ := h
    rfl
  · obtain ⟨a, ns, rfl, hS, hl, q⟩ := h
    have hr1 := hr.mono (j := 1) (by decide)
    have hr2 := hr.mono (j := 2) (by decide)
    have hr6 := hr.mono (j := 6) (by decide)
    refine ⟨_, pss_cons (ps_set (i := 1) scLaw.nd rfl (.inl rfl) (pcall B.DHand B.GHand hr1 (pa_cons (pv 0) pa_nil)))
      (pss_cons (ps_for PassesOwn.never rfl (pi_range1 rfl T.range (pa_cons pe_int pa_nil)) (pg_name (i := 2) scLaw.nd rfl (.inl rfl))
        (pss_cons (ps_set (i := 3) scLaw.nd rfl (.inl rfl) (pe_op op_add pe_int (pcall B.DDraw B.GDraw hr1 (pa_cons (pv 1) (pa_cons pe_int pa_nil)))))
        (pss_cons (ps_set (i := 4) scLaw.nd rfl (.inl rfl) (pcall B.DRow B.GRow hr2 (pa_cons (pv 1) (pa_cons (pv 3) (pa_cons pe_int pa_nil)))))
        (pss_cons (ps_par3 (i := 5) (j := 6) (l := 7) rfl scLaw.nd rfl rfl rfl (by decide) (by decide) (by decide) rfl rfl rfl
          (pa_cons (pcall B.DChg B.GChg hr2 (pa_cons (pv 1) (pa_cons (pv 4) pa_nil))) (pa_cons (pcall B.DThd B.GThd hr2 (pa_cons (pv 1) (pa_cons (pv 4) (pa_cons pe_int pa_nil)))) (pa_cons (pcall B.DRow B.GRow hr2 (pa_cons (pv 1) (pa_cons (pv 3) (pa_cons pe_int pa_nil)))) pa_nil))) (by rfl))
        (pss_cons (ps_if (PW.pt (pw_or (pt_cmpR op_notBl (pcall B.DThin B.GThin hr (pa_cons (pv 4) (pa_cons (pv 5) pa_nil))) pe_bl (nomark _)) (pw_or1 (pt_cmpR op_notBl (pcall B.DThin B.GThin hr (pa_cons (pv 4) (pa_cons (pv 6) pa_nil))) pe_bl (nomark _))))) pss_never pss_nil)
        (pss_cons (ps_for PassesOwn.never rfl (pi_list (pe_lst (pa_cons (pv 5) (pa_cons (pv 6) (pa_cons (pv 7) (pa_cons (pv 4) pa_nil)))))) (pg_name (i := 8) scLaw.nd rfl (.inl rfl))
          (pss_cons (ps_if (pt_not (pt_val (pcall B.DIs B.GIs hr1 (pa_cons (pcall B.DThin B.GThin hr (pa_cons (pv 4) (pa_cons (pv 8) pa_nil))) (pa_cons (pcall B.DThs B.GThs hr2 (pa_cons (pv 4) (pa_cons (pv 8) pa_nil))) pa_nil))))) pss_never pss_nil)
          (pss_cons (ps_if (pt_not (pt_val (pcall B.DIs B.GIs hr1 (pa_cons (pcall B.DThin B.GThin hr (pa_cons (pv 8) (pa_cons (pv 4) pa_nil))) (pa_cons (pcall B.DThs B.GThs hr2 (pa_cons (pv 8) (pa_cons (pv 4) pa_nil))) pa_nil))))) pss_never pss_nil)
          (pss_cons (ps_if (pt_cmpR op_ne (pcall B.DThin B.GThin hr (pa_cons (pe_revT (pv 4)) (pa_cons (pe_revT (pv 8)) pa_nil))) (pcall B.DThin B.GThin hr (pa_cons (pv 4) (pa_cons (pv 8) pa_nil))) (nomark _)) pss_never pss_nil)
          (pss_one (ps_if (pt_cmpR op_ne (pe_and (pcall B.DThin B.GThin hr (pa_cons (pv 4) (pa_cons (pv 8) pa_nil))) (pe_one (pcall B.DThin B.GThin hr (pa_cons (pv 8) (pa_cons (pv 4) pa_nil))))) (pe_cmpR (op_eqD hr.units) (pcall B.DWord B.GWord hr6 (pa_cons (pv 4) pa_nil)) (pcall B.DWord B.GWord hr6 (pa_cons (pv 8) pa_nil)) (nomark _)) (nomark _)) pss_never pss_nil))))))
        (pss_cons (ps_set (i := 9) scLaw.nd rfl (.inl rfl) (pcall B.DThd B.GThd hr2 (pa_cons (pv 1) (pa_cons (pv 5) (pa_cons pe_int pa_nil)))))
        (pss_cons (ps_asg (pe_tup (pa_cons (pcall B.DWay B.GWay hr (pa_cons (pv 4) (pa_cons (pv 5) pa_nil))) (pa_cons (pcall B.DWay B.GWay hr (pa_cons (pv 5) (pa_cons (pv 9) pa_nil))) pa_nil))) (pg_tup rfl (pgs_cons (pg_name (i := 10) scLaw.nd rfl (.inr rfl)) (pgs_cons (pg_name (i := 11) scLaw.nd rfl (.inl rfl)) pgs_nil))))
        (pss_cons (ps_if (pt_cmp (pc_notN (pcall B.DFlt B.GFlt hr (pa_cons (pv 4) (pa_cons (pv 9) (pa_cons (pe_callTy call_tuple_of (by rfl) T.tuple (by decide +kernel) (pa_cons (pe_lc (own := [("_law_place", 12)]) (g := gName 12) (tt := tYes) rfl scLaw.nd (pi_tup (pv 11))
          (blkOk_by (N := ["_law_script", "_law_hand_here", "_law_turn", "_law_letters", "_law_row_here", "_law_one", "_law_two", "_law_other", "_law_out", "_law_further", "_law_first", "_law_second", "_law_place"]) (sc := defScope sLaw) (by decide +kernel)) (fun _ _ _ _ _ => pg_name (i := 12) scLaw.nd rfl (Or.inl rfl)) (fun _ _ _ _ _ => pts_nil)
          (fun _ _ _ _ _ => pe_ix (r := rIxT K) ix_tup (pv 10) (pv 12) (fun _ _ => rfl))) pa_nil)) pa_nil)))))) pss_never pss_nil)
        (pss_cons (ps_if (PW.pt (pw_or (pt_cmpR op_notBl (pcall B.DThin B.GThin hr (pa_cons (pv 4) (pa_cons (pv 9) pa_nil))) pe_bl (nomark _)) (pw_or1 (pt_cmpR op_notBl (pcall B.DThin B.GThin hr (pa_cons (pv 4) (pa_cons (pcall B.DWord B.GWord hr6 (pa_cons (pv 4) pa_nil)) pa_nil))) pe_bl (nomark _))))) pss_never pss_nil)
        (pss_one (ps_if (pt_cmpR op_notBl (pcall B.DThin B.GThin hr (pa_cons (pcall B.DWord B.GWord hr6 (pa_cons (pv 4) pa_nil)) (pa_cons (pv 4) pa_nil))) pe_bl (nomark _)) pss_never pss_nil))))))))))))
      (pss_one (ps_ret pe_bl))), ?_⟩
    refine ⟨_, rfl, a, ns, rfl, hS, hl, fun h c H0 s0 ok0 => ?_⟩
    refine ⟨6, rfl, by decide, by decide, ?_⟩
    refine for_range (lo := 0) (n := 6) (fun i σ H' => ∃ v2 v3 v4 v5 v6 v7 v8 v9 v10 v11 v12 : Option V, σ = [some (.ref a), some (.ref h), v2, v3, v4, v5, v6, v7, v8, v9, v10, v11, v12] ∧ HandOk H' h c)
      ⟨_, _, _, _, _, _, _, _, _, _, _, rfl, ok0⟩ ?_ (fun σ H1 _ => q H1)
    rintro i σ H1 hi ⟨v2, v3, v4, v5, v6, v7, v8, v9, v10, v11, v12, rfl, ok1⟩
    -- letters, the row
    refine ⟨_, rfl, h, c, 4, rfl, ok1, by omega, by omega, fun H2 d kp2 ok2 d0 d1 => ⟨_, _, rfl, rfl, ?_⟩⟩
    refine ⟨_, rfl, _, rfl, h, c, 1 + d, 40, rfl, ok2, by omega, by omega, by omega, by omega, fun H3 p r kp3 ok3 tr3 ir il => ?_⟩
    -- three more rows
    refine ⟨_, rfl, _, rfl, h, c, p, r, rfl, ok3, tr3, ir, il, fun H4 p1 o1 kp4 ok4 t14 i1 th1 => ?_⟩
    have tr4 := kp4.tup ok3 tr3
    refine ⟨_, rfl, _, rfl, h, c, p, r, 12, rfl, ok4, tr4, ir, by omega, by omega, fun H5 p2 o2 kp5 ok5 t25 i2 th2 => ?_⟩
    have tr5 := kp5.tup ok4 tr4
    have t15 := kp5.tup ok4 t14
    refine ⟨_, rfl, _, rfl, h, c, 1 + d, 6, rfl, ok5, by omega, by omega, by omega, by omega, fun H6 p3 o3 kp6 ok6 t36 i3 _ => ?_⟩
    have tr6 := kp6.tup ok5 tr5
    have t16 := kp6.tup ok5 t15
    have t26 := kp6.tup ok5 t25
    refine ⟨_, _, _, rfl, ?_⟩
    -- both are thinnings
    refine ⟨_, rfl, _, rfl, p, p1, r, o1, rfl, tr6, t16, ir, i1, fun H7 s7 => ⟨_, _, rfl, rfl, _, rfl, ?_⟩⟩
    rw [thinB_of th1]
    refine iteF ?_
    refine ⟨_, rfl, _, rfl, p, p2, r, o2, rfl, tr6.same s7, t26.same s7, ir, i2, fun H8 s8 => ⟨_, _, rfl, rfl, _, rfl, ?_⟩⟩
    rw [thinB_of th2]
    refine iteF ?_
    have s68 := s7.trans s8
    refine ⟨_, rfl, _, rfl, _, rfl, _, rfl, by show 4 ≤ sizeLine; decide, fun L nL => ?_⟩
    have s69 : Same H6 (upd H8 L (.lst [.ref p1, .ref p2, .ref p3, .ref p])) := s68.trans (same_upd nL)
    refine ⟨L, rfl, ⟨_, .of upd_same⟩, ?_⟩
    refine for_list (K := K) (a := L) (xs := [.ref p1, .ref p2, .ref p3, .ref p]) (fun j σ H' => ∃ v8 : Option V, σ = [some (.ref a), some (.ref h), some (.int (0 + (i : Nat))), some (.int (1 + d)), some (.ref p), some (.ref p1), some (.ref p2), some (.ref p3), v8, v9, v10, v11, v12] ∧ Same H6 H' ∧ H' L = some (.lst [.ref p1, .ref p2, .ref p3, .ref p]))
      ⟨v8, rfl, s69, upd_same⟩ (fun j σ H' _ hp => ?_) ?_ ?_
    · obtain ⟨_, _, _, eL⟩ := hp
      exact .of eL
    · rintro j x σ Ha hj ⟨u8, rfl, sa, eL⟩
      obtain ⟨b, o, rfl, tb, io⟩ : ∃ b o, x = .ref b ∧ Tp H6 b o ∧ IsRow o := by
        match j, hj with
        | 0, hj => exact ⟨p1, o1, (Option.some.inj hj).symm, t16, i1⟩
        | 1, hj => exact ⟨p2, o2, (Option.some.inj hj).symm, t26, i2⟩
        | 2, hj => exact ⟨p3, o3, (Option.some.inj hj).symm, t36, i3⟩
        | 3, hj => exact ⟨p, r, (Option.some.inj hj).symm, tr6, ir⟩
      -- the row's verdict
      refine ⟨_, rfl, _, rfl, p, b, r, o, rfl, tr6.same sa, tb.same sa, ir, io, fun Hb sb => ?_⟩
      have sab := sa.trans sb
      refine ⟨_, rfl, _, rfl, p, b, r, o, rfl, tr6.same sab, tb.same sab, ir, io, fun Hc sc => ⟨_, _, rfl, fun Hd sd => ⟨_, rfl, ?_⟩⟩⟩
      have sad := (sab.trans sc).trans sd
      have eLd := sd _ _ (sc _ _ (sb _ _ eL))
      rw [decide_eq_true (thinB_thins r o)]
      refine iteF ?_
      -- the other way round
      refine ⟨_, rfl, _, rfl, b, p, o, r, rfl, tb.same sad, tr6.same sad, io, ir, fun He se => ?_⟩
      have sae := sad.trans se
      refine ⟨_, rfl, _, rfl, b, p, o, r, rfl, tb.same sae, tr6.same sae, io, ir, fun Hf sf => ⟨_, _, rfl, fun Hg sg => ⟨_, rfl, ?_⟩⟩⟩
      have sag := (sae.trans sf).trans sg
      have eLg := sg _ _ (sf _ _ (se _ _ eLd))
      rw [decide_eq_true (thinB_thins o r)]
      refine iteF ?_
      -- read from behind
      refine ⟨_, rfl, p, _, rfl, (tr6.same sag).seq, fun x1 n1 => ⟨_, rfl, b, _, rfl, ((tb.same sag).same (same_upd n1)).seq, fun x2 n2 => ?_⟩⟩
      have s12 : Same Hg (upd (upd Hg x1 (.tup (r.map V.int).reverse)) x2 (.tup (o.map V.int).reverse)) := (same_upd n1).trans (same_upd n2)
      refine ⟨x1, x2, r.reverse, o.reverse, rfl, rev_at (same_upd n2 _ _ upd_same), rev_at upd_same, row_rev ir, row_rev io, fun Hh sh => ?_⟩
      have sah := (sag.trans s12).trans sh
      refine ⟨_, rfl, _, rfl, p, b, r, o, rfl, tr6.same sah, tb.same sah, ir, io, fun Hi si => ⟨rfl, _, rfl, ?_⟩⟩
      have sai := sah.trans si
      have eLi := si _ _ (sh _ _ (s12 _ _ eLg))
      rw [thinB_reverse]
      refine iteNS rfl ?_
      -- one word
      refine ⟨_, rfl, _, rfl, p, b, r, o, rfl, tr6.same sai, tb.same sai, ir, io, fun Hj sj => ⟨_, rfl, ?_⟩⟩
      have saj := sai.trans sj
      have eLj := sj _ _ eLi
      have both := thinB_both r o
      refine ite2 (fun ht => ?_) (fun ht => ?_)
      · refine ⟨_, rfl, _, rfl, b, p, o, r, rfl, tb.same saj, tr6.same saj, io, ir, fun Hk sk => ?_⟩
        have sak := saj.trans sk
        refine ⟨_, rfl, p, r, rfl, tr6.same sak, ir, fun w1 Hl sl tw1 => ?_⟩
        have sal := sak.trans sl
        refine ⟨_, rfl, b, o, rfl, tb.same sal, io, fun w2 Hm sm tw2 => ?_⟩
        refine ⟨_, _, dp_tup (tw1.same sm), dp_tup tw2, tupD_shaped _, tupD_shaped _, rfl, _, rfl, ?_⟩
        have ev : V.bl (thinB o r) = V.bl (PyData.eqv (tupD (wordL r)) (tupD (wordL o))) := by
          rw [tupD_eqv, ← both, ht]
          rfl
        exact iteNS ev ⟨_, rfl, sal.trans sm, sm _ _ (sl _ _ (sk _ _ eLj))⟩
      · refine ⟨_, rfl, p, r, rfl, tr6.same saj, ir, fun w1 Hl sl tw1 => ?_⟩
        have sal := saj.trans sl
        refine ⟨_, rfl, b, o, rfl, tb.same sal, io, fun w2 Hm sm tw2 => ?_⟩
        refine ⟨_, _, dp_tup (tw1.same sm), dp_tup tw2, tupD_shaped _, tupD_shaped _, rfl, _, rfl, ?_⟩
        have ev : V.bl false = V.bl (PyData.eqv (tupD (wordL r)) (tupD (wordL o))) := by
          rw [tupD_eqv, ← both, Bool.eq_false_iff.mpr ht]
          rfl
        exact iteNS ev ⟨_, rfl, sal.trans sm, sm _ _ (sl _ _ eLj)⟩
    · rintro σ Ha ⟨u8, rfl, sa, eL⟩
      -- a thinning of a thinning
      refine ⟨_, rfl, _, rfl, h, c, p1, o1, 20, rfl, ok6.same sa, t16.same sa, i1, by omega, by omega, fun Hb p4 o4 kpb okb t4 i4 th4 => ?_⟩
      have oka := ok6.same sa
      have trb := kpb.tup oka (tr6.same sa)
      have t1b := kpb.tup oka (t16.same sa)
      refine ⟨_, rfl, _, rfl, p, p1, r, o1, rfl, trb, t1b, ir, i1, (fun Hc sc e => absurd e (way_some th1)), fun Hc q1 qs1 sc e1 tq1 => ?_⟩
      refine ⟨_, rfl, _, rfl, p1, p4, o1, o4, rfl, t1b.same sc, t4.same sc, i1, i4, (fun Hd sd e => absurd e (way_some th4)), fun Hd q2 qs2 sd e2 tq2 => ?_⟩
      refine ⟨by show 2 ≤ sizeLine; decide, fun t nt => ?_⟩
      refine ⟨t, _, rfl, .of upd_same, rfl, _, _, rfl, _, _, rfl, rfl, ?_⟩
      have sbe : Same Hb (upd Hd t (.tup [.ref q1, .ref q2])) := (sc.trans sd).trans (same_upd nt)
      have tq1e : Tp (upd Hd t (.tup [.ref q1, .ref q2])) q1 (ofN qs1) := (tq1.same sd).same (same_upd nt)
      have tq2e : Tp (upd Hd t (.tup [.ref q1, .ref q2])) q2 (ofN qs2) := tq2.same (same_upd nt)
      generalize upd Hd t (.tup [.ref q1, .ref q2]) = He at sbe tq1e tq2e
      obtain ⟨w1, w2, w3, w4⟩ := way_over e1 e2
      have f1 := way_facts e1
      have f2 := way_facts e2
      -- the way over both
      refine ⟨_, rfl, _, rfl, _, rfl, q2, rfl, ⟨_, tq2e.seq⟩, fun M nM => ?_⟩
      refine lc_tup (K := K) (a := q2) (xs := (ofN qs2).map V.int) (fun k H' => Same He H' ∧ H' M = some (.lst ((ofN ((qs2.take k).map fun y => qs1.getD y 0)).map V.int))) ⟨same_upd nM, upd_same⟩ (fun k H' _ hp => (tq2e.same hp.1).seq) ?_ ?_
      · rintro k x Hf hk ⟨sf, ef⟩
        obtain ⟨y, hy, rfl⟩ := ofN_at hk
        have hlt : y < qs1.length := by
          rw [f1.1]
          exact (f2.2.1 y (List.mem_of_getElem? hy)).2
        have hkl : k < qs2.length := (List.getElem?_eq_some_iff.mp hy).1
        refine ⟨rfl, _, rfl, _, rfl, q1, _, _, _, rfl, rfl, (tq1e.same sf).seq, atI_map (ofN_get hlt), _, ef, ?_, ?_, ?_⟩
        · simp only [ofN, List.length_map, List.length_take]
          have := i4.2.1
          have := f2.1
          exact small1000 (by omega)
        · intro b' o' hb
          rw [upd_ne (ne_of_none hb nM)]
          exact sf _ _ hb
        · rw [upd_same, List.take_add_one, hy, Option.toList_some, List.map_append]
          simp [ofN]
      · rintro Hf ⟨sf, ef⟩
        have el : ((ofN qs2).map V.int).length = qs2.length := by simp [ofN]
        rw [el, List.take_length] at ef
        refine ⟨M, _, rfl, .inl ⟨.of ef, fun u nu => ?_⟩⟩
        have sbu := (sbe.trans sf).trans (same_upd (u := .tup ((ofN (qs2.map fun y => qs1.getD y 0)).map V.int)) nu)
        refine ⟨p, p4, u, r, o4, qs2.map fun y => qs1.getD y 0, rfl, trb.same sbu, t4.same sbu, upd_same, ir, i4, w1, w2, w3, w4, fun Hg sg => ⟨false, rfl, iteF ?_⟩⟩
        have sbg := sbu.trans sg
        -- the last three
        refine ⟨_, rfl, _, rfl, p, p4, r, o4, rfl, trb.same sbg, t4.same sbg, ir, i4, fun Hh sh => ⟨_, _, rfl, rfl, _, rfl, ?_⟩⟩
        rw [thinB_of (th1.trans th4)]
        refine iteF ?_
        have sbh := sbg.trans sh
        refine ⟨_, rfl, _, rfl, p, r, rfl, trb.same sbh, ir, fun x1 Hi si tx1 => ?_⟩
        have sbi := sbh.trans si
        refine ⟨p, x1, r, wordL r, rfl, trb.same sbi, tx1, ir, row_word ir, fun Hj sj => ⟨_, _, rfl, rfl, _, rfl, ?_⟩⟩
        rw [thinB_of (Thin.word r)]
        refine iteF ?_
        have sbj := sbi.trans sj
        refine ⟨_, rfl, p, r, rfl, trb.same sbj, ir, fun x2 Hk sk tx2 => ?_⟩
        have sbk := sbj.trans sk
        refine ⟨_, rfl, x2, p, wordL r, r, rfl, tx2, trb.same sbk, row_word ir, ir, fun Hl sl => ⟨_, _, rfl, rfl, _, rfl, ?_⟩⟩
        rw [thinB_of (Thin.ofWord r)]
        refine iteF ?_
        exact ⟨_, _, _, _, _, _, _, _, _, _, _, rfl, okb.same (sbk.trans sl)⟩
end
end Fly

set_option Elab.async false
set_option linter.all false
set_option maxRecDepth 100000
set_option maxHeartbeats 8000000
namespace Fly
open PySem PySem.Spec PyProof.Rows L2
/-! ### what the top has left -/
theorem all_mk {l : PySem.W.OpenLaw} {w : World} {K : PySem.W.Frag} {h : Heap} {mg : Str → Option Value} {fa f1 f2 f3 f4 f5 f6 f7 f8 f9 f10 f11 f12 f13 f14 f15 f16 f17 f18 f19 f20 f21 f22 f23 : Addr} (X : K.In h) (G : h.Ns mainGlobals mg) (hfa : mg "law" = some (.ref fa))
    {od1 an1 od2 an2 od3 an3 od4 an4 od5 an5 od6 an6 od7 an7 od8 an8 od9 an9 od10 an10 od11 an11 od12 an12 od13 an13 od14 an14 od15 an15 od16 an16 od17 an17 od18 an18 od19 an19 od20 an20 od21 an21 od22 an22 od23 an23 : Option Addr} {sl1 sl2 sl3 sl4 sl5 sl6 sl7 sl8 sl9 sl10 sl11 sl12 sl13 sl14 sl15 sl16 sl17 sl18 sl19 sl20 sl21 sl22 sl23 : Array (Option Value)} {oc1 kV1 dc1 pm1 cd1 ct1 oc2 kV2 dc2 pm2 cd2 ct2 oc3 kV3 dc3 pm3 cd3 ct3 oc4 kV4 dc4 pm4 cd4 ct4 oc5 kV5 dc5 pm5 cd5 ct5 oc6 kV6 dc6 pm6 cd6 ct6 oc7 kV7 dc7 pm7 cd7 ct7 oc8 kV8 dc8 pm8 cd8 ct8 oc9 kV9 dc9 pm9 cd9 ct9 oc10 kV10 dc10 pm10 cd10 ct10 oc11 kV11 dc11 pm11 cd11 ct11 oc12 kV12 dc12 pm12 cd12 ct12 oc13 kV13 dc13 pm13 cd13 ct13 oc14 kV14 dc14 pm14 cd14 ct14 oc15 kV15 dc15 pm15 cd15 ct15 oc16 kV16 dc16 pm16 cd16 ct16 oc17 kV17 dc17 pm17 cd17 ct17 oc18 kV18 dc18 pm18 cd18 ct18 oc19 kV19 dc19 pm19 cd19 ct19 oc20 kV20 dc20 pm20 cd20 ct20 oc21 kV21 dc21 pm21 cd21 ct21 oc22 kV22 dc22 pm22 cd22 ct22 oc23 kV23 dc23 pm23 cd23 ct23 : Value} {tL tM : Tok}
    (a1 : PySem.W.nsIn K mainGlobals "is_integer" = some (some (.ref f1))) (l1 : K.lookup f1 = some ⟨oc1, od1, .func (PySem.W.fnOf "is_integer" "is_integer" (defArgs sInteger) (defBody sInteger) (defScope sInteger) .none kV1 dc1 pm1 an1 cd1 ct1), sl1⟩) (c1 : PySem.W.codeIn K cd1 "is_integer" = true) (k1 : PySem.W.keepIn K (.ref f1) = true)
    (a2 : PySem.W.nsIn K mainGlobals "is_between" = some (some (.ref f2))) (l2 : K.lookup f2 = some ⟨oc2, od2, .func (PySem.W.fnOf "is_between" "is_between" (defArgs sBetween) (defBody sBetween) (defScope sBetween) .none kV2 dc2 pm2 an2 cd2 ct2), sl2⟩) (c2 : PySem.W.codeIn K cd2 "is_between" = true) (k2 : PySem.W.keepIn K (.ref f2) = true)
    (a3 : PySem.W.nsIn K mainGlobals "is_index" = some (some (.ref f3))) (l3 : K.lookup f3 = some ⟨oc3, od3, .func (PySem.W.fnOf "is_index" "is_index" (defArgs sIndex) (defBody sIndex) (defScope sIndex) .none kV3 dc3 pm3 an3 cd3 ct3), sl3⟩) (c3 : PySem.W.codeIn K cd3 "is_index" = true) (k3 : PySem.W.keepIn K (.ref f3) = true)
    (a4 : PySem.W.nsIn K mainGlobals "is_integers" = some (some (.ref f4))) (l4 : K.lookup f4 = some ⟨oc4, od4, .func (PySem.W.fnOf "is_integers" "is_integers" (defArgs sIntegers) (defBody sIntegers) (defScope sIntegers) .none kV4 dc4 pm4 an4 cd4 ct4), sl4⟩) (c4 : PySem.W.codeIn K cd4 "is_integers" = true) (k4 : PySem.W.keepIn K (.ref f4) = true)
    (a5 : PySem.W.nsIn K mainGlobals "is_row" = some (some (.ref f5))) (l5 : K.lookup f5 = some ⟨oc5, od5, .func (PySem.W.fnOf "is_row" "is_row" (defArgs sIsRow) (defBody sIsRow) (defScope sIsRow) .none kV5 dc5 pm5 an5 cd5 ct5), sl5⟩) (c5 : PySem.W.codeIn K cd5 "is_row" = true) (k5 : PySem.W.keepIn K (.ref f5) = true)
    (a6 : PySem.W.nsIn K mainGlobals "check_row" = some (some (.ref f6))) (l6 : K.lookup f6 = some ⟨oc6, od6, .func (PySem.W.fnOf "check_row" "check_row" (defArgs sCheckRow) (defBody sCheckRow) (defScope sCheckRow) .none kV6 dc6 pm6 an6 cd6 ct6), sl6⟩) (c6 : PySem.W.codeIn K cd6 "check_row" = true) (k6 : PySem.W.keepIn K (.ref f6) = true)
    (a7 : PySem.W.nsIn K mainGlobals "word_of" = some (some (.ref f7))) (l7 : K.lookup f7 = some ⟨oc7, od7, .func (PySem.W.fnOf "word_of" "word_of" (defArgs sWordOf) (defBody sWordOf) (defScope sWordOf) .none kV7 dc7 pm7 an7 cd7 ct7), sl7⟩) (c7 : PySem.W.codeIn K cd7 "word_of" = true) (k7 : PySem.W.keepIn K (.ref f7) = true)
    (a8 : PySem.W.nsIn K mainGlobals "word" = some (some (.ref f8))) (l8 : K.lookup f8 = some ⟨oc8, od8, .func (PySem.W.fnOf "word" "word" (defArgs sWord) (defBody sWord) (defScope sWord) .none kV8 dc8 pm8 an8 cd8 ct8), sl8⟩) (c8 : PySem.W.codeIn K cd8 "word" = true) (k8 : PySem.W.keepIn K (.ref f8) = true)
    (a9 : PySem.W.nsIn K mainGlobals "next_place" = some (some (.ref f9))) (l9 : K.lookup f9 = some ⟨oc9, od9, .func (PySem.W.fnOf "next_place" "next_place" (defArgs sNext) (defBody sNext) (defScope sNext) .none kV9 dc9 pm9 an9 cd9 ct9), sl9⟩) (c9 : PySem.W.codeIn K cd9 "next_place" = true) (k9 : PySem.W.keepIn K (.ref f9) = true)
    (a10 : PySem.W.nsIn K mainGlobals "way_of" = some (some (.ref f10))) (l10 : K.lookup f10 = some ⟨oc10, od10, .func (PySem.W.fnOf "way_of" "way_of" (defArgs sWayOf) (defBody sWayOf) (defScope sWayOf) .none kV10 dc10 pm10 an10 cd10 ct10), sl10⟩) (c10 : PySem.W.codeIn K cd10 "way_of" = true) (k10 : PySem.W.keepIn K (.ref f10) = true)
    (a11 : PySem.W.nsIn K mainGlobals "check_both" = some (some (.ref f11))) (l11 : K.lookup f11 = some ⟨oc11, od11, .func (PySem.W.fnOf "check_both" "check_both" (defArgs sCheckBoth) (defBody sCheckBoth) (defScope sCheckBoth) .none kV11 dc11 pm11 an11 cd11 ct11), sl11⟩) (c11 : PySem.W.codeIn K cd11 "check_both" = true) (k11 : PySem.W.keepIn K (.ref f11) = true)
    (a12 : PySem.W.nsIn K mainGlobals "is_thinning" = some (some (.ref f12))) (l12 : K.lookup f12 = some ⟨oc12, od12, .func (PySem.W.fnOf "is_thinning" "is_thinning" (defArgs sIsThin) (defBody sIsThin) (defScope sIsThin) .none kV12 dc12 pm12 an12 cd12 ct12), sl12⟩) (c12 : PySem.W.codeIn K cd12 "is_thinning" = true) (k12 : PySem.W.keepIn K (.ref f12) = true)
    (a13 : PySem.W.nsIn K mainGlobals "way" = some (some (.ref f13))) (l13 : K.lookup f13 = some ⟨oc13, od13, .func (PySem.W.fnOf "way" "way" (defArgs sWay) (defBody sWay) (defScope sWay) .none kV13 dc13 pm13 an13 cd13 ct13), sl13⟩) (c13 : PySem.W.codeIn K cd13 "way" = true) (k13 : PySem.W.keepIn K (.ref f13) = true)
    (a14 : PySem.W.nsIn K mainGlobals "way_fault" = some (some (.ref f14))) (l14 : K.lookup f14 = some ⟨oc14, od14, .func (PySem.W.fnOf "way_fault" "way_fault" (defArgs sFault) (defBody sFault) (defScope sFault) .none kV14 dc14 pm14 an14 cd14 ct14), sl14⟩) (c14 : PySem.W.codeIn K cd14 "way_fault" = true) (k14 : PySem.W.keepIn K (.ref f14) = true)
    (a15 : PySem.W.nsIn K mainGlobals "_law_hand" = some (some (.ref f15))) (l15 : K.lookup f15 = some ⟨oc15, od15, .func (PySem.W.fnOf "_law_hand" "_law_hand" (defArgs sHand) (defBody sHand) (defScope sHand) .none kV15 dc15 pm15 an15 cd15 ct15), sl15⟩) (c15 : PySem.W.codeIn K cd15 "_law_hand" = true) (k15 : PySem.W.keepIn K (.ref f15) = true)
    (a16 : PySem.W.nsIn K mainGlobals "_law_draw" = some (some (.ref f16))) (l16 : K.lookup f16 = some ⟨oc16, od16, .func (PySem.W.fnOf "_law_draw" "_law_draw" (defArgs sDraw) (defBody sDraw) (defScope sDraw) .none kV16 dc16 pm16 an16 cd16 ct16), sl16⟩) (c16 : PySem.W.codeIn K cd16 "_law_draw" = true) (k16 : PySem.W.keepIn K (.ref f16) = true)
    (a17 : PySem.W.nsIn K mainGlobals "_law_is" = some (some (.ref f17))) (l17 : K.lookup f17 = some ⟨oc17, od17, .func (PySem.W.fnOf "_law_is" "_law_is" (defArgs sIs) (defBody sIs) (defScope sIs) .none kV17 dc17 pm17 an17 cd17 ct17), sl17⟩) (c17 : PySem.W.codeIn K cd17 "_law_is" = true) (k17 : PySem.W.keepIn K (.ref f17) = true)
    (a18 : PySem.W.nsIn K mainGlobals "_law_row" = some (some (.ref f18))) (l18 : K.lookup f18 = some ⟨oc18, od18, .func (PySem.W.fnOf "_law_row" "_law_row" (defArgs sRow) (defBody sRow) (defScope sRow) .none kV18 dc18 pm18 an18 cd18 ct18), sl18⟩) (c18 : PySem.W.codeIn K cd18 "_law_row" = true) (k18 : PySem.W.keepIn K (.ref f18) = true)
    (a19 : PySem.W.nsIn K mainGlobals "_law_thinned" = some (some (.ref f19))) (l19 : K.lookup f19 = some ⟨oc19, od19, .func (PySem.W.fnOf "_law_thinned" "_law_thinned" (defArgs sThinned) (defBody sThinned) (defScope sThinned) .none kV19 dc19 pm19 an19 cd19 ct19), sl19⟩) (c19 : PySem.W.codeIn K cd19 "_law_thinned" = true) (k19 : PySem.W.keepIn K (.ref f19) = true)
    (a20 : PySem.W.nsIn K mainGlobals "_law_word" = some (some (.ref f20))) (l20 : K.lookup f20 = some ⟨oc20, od20, .func (PySem.W.fnOf "_law_word" "_law_word" (defArgs sLWord) (defBody sLWord) (defScope sLWord) .none kV20 dc20 pm20 an20 cd20 ct20), sl20⟩) (c20 : PySem.W.codeIn K cd20 "_law_word" = true) (k20 : PySem.W.keepIn K (.ref f20) = true)
    (a21 : PySem.W.nsIn K mainGlobals "_law_thins" = some (some (.ref f21))) (l21 : K.lookup f21 = some ⟨oc21, od21, .func (PySem.W.fnOf "_law_thins" "_law_thins" (defArgs sThins) (defBody sThins) (defScope sThins) .none kV21 dc21 pm21 an21 cd21 ct21), sl21⟩) (c21 : PySem.W.codeIn K cd21 "_law_thins" = true) (k21 : PySem.W.keepIn K (.ref f21) = true)
    (a22 : PySem.W.nsIn K mainGlobals "_law_changed" = some (some (.ref f22))) (l22 : K.lookup f22 = some ⟨oc22, od22, .func (PySem.W.fnOf "_law_changed" "_law_changed" (defArgs sChanged) (defBody sChanged) (defScope sChanged) .none kV22 dc22 pm22 an22 cd22 ct22), sl22⟩) (c22 : PySem.W.codeIn K cd22 "_law_changed" = true) (k22 : PySem.W.keepIn K (.ref f22) = true)
    (a23 : PySem.W.nsIn K mainGlobals "law" = some (some (.ref f23))) (l23 : K.lookup f23 = some ⟨oc23, od23, .func (PySem.W.fnOf "law" "law" (defArgs sLaw) (defBody sLaw) (defScope sLaw) .none kV23 dc23 pm23 an23 cd23 ct23), sl23⟩) (c23 : PySem.W.codeIn K cd23 "law" = true) (k23 : PySem.W.keepIn K (.ref f23) = true)
    (z1 : PySem.W.nsIn K mainGlobals "len" = some none) (z2 : PySem.W.nsIn K mainGlobals "range" = some none) (z3 : PySem.W.nsIn K mainGlobals "isinstance" = some none) (z4 : PySem.W.nsIn K mainGlobals "all" = some none) (z5 : PySem.W.nsIn K mainGlobals "tuple" = some none) (z6 : PySem.W.nsIn K mainGlobals "list" = some none) (z7 : PySem.W.nsIn K mainGlobals "int" = some none) (z8 : PySem.W.nsIn K mainGlobals "bool" = some none) (z9 : PySem.W.nsIn K mainGlobals "abs" = some none) (z10 : PySem.W.nsIn K mainGlobals "sorted" = some none) (z11 : PySem.W.nsIn K mainGlobals "enumerate" = some none)
    (zL : PySem.W.nsIn K mainGlobals "MOST_LETTERS" = some (some (.int 4 tL))) (zM : PySem.W.nsIn K mainGlobals "MOST_LANES" = some (some (.int 1000 tM))) :
    ∃ fd : FuncData, (∀ (s : Shared) (v : Value), BindsTo s fd ⟨[v], []⟩ [("_law_script", v)]) ∧ ∀ base : Heap, K.In base → base.Ns mainGlobals mg → FnOk l.prog w K mg base CX0 8 fa fd ["_law_script"] (spLaw K) := by
  have e := hfa.symm.trans (PySem.W.mg_of X G a23)
  cases e
  have T : Txt mg := ⟨PySem.W.mg_none_of X G z1, PySem.W.mg_none_of X G z2, PySem.W.mg_none_of X G z3, PySem.W.mg_none_of X G z4, PySem.W.mg_none_of X G z5, PySem.W.mg_none_of X G z6, PySem.W.mg_none_of X G z7, PySem.W.mg_none_of X G z8, PySem.W.mg_none_of X G z9, PySem.W.mg_none_of X G z10, PySem.W.mg_none_of X G z11, ⟨tL, PySem.W.mg_of X G zL⟩, ⟨tM, PySem.W.mg_of X G zM⟩⟩
  have F1 := fun_mk (st := sInteger) l1 c1 k1
  have D1 : Df K mg "is_integer" sInteger ["thing"] f1 _ := ⟨F1, F1.binds (ps := ["thing"]) fun _ _ _ _ _ _ us hl => match us, hl with | [_], _ => rfl, PySem.W.mg_of X G a1⟩
  have F2 := fun_mk (st := sBetween) l2 c2 k2
  have D2 : Df K mg "is_between" sBetween ["thing", "least", "most"] f2 _ := ⟨F2, F2.binds (ps := ["thing", "least", "most"]) fun _ _ _ _ _ _ us hl => match us, hl with | [_, _, _], _ => rfl, PySem.W.mg_of X G a2⟩
  have F3 := fun_mk (st := sIndex) l3 c3 k3
  have D3 : Df K mg "is_index" sIndex ["thing", "many"] f3 _ := ⟨F3, F3.binds (ps := ["thing", "many"]) fun _ _ _ _ _ _ us hl => match us, hl with | [_, _], _ => rfl, PySem.W.mg_of X G a3⟩
  have F4 := fun_mk (st := sIntegers) l4 c4 k4
  have D4 : Df K mg "is_integers" sIntegers ["thing", "many"] f4 _ := ⟨F4, F4.binds (ps := ["thing", "many"]) fun _ _ _ _ _ _ us hl => match us, hl with | [_, _], _ => rfl, PySem.W.mg_of X G a4⟩
  have F5 := fun_mk (st := sIsRow) l5 c5 k5
  have D5 : Df K mg "is_row" sIsRow ["thing"] f5 _ := ⟨F5, F5.binds (ps := ["thing"]) fun _ _ _ _ _ _ us hl => match us, hl with | [_], _ => rfl, PySem.W.mg_of X G a5⟩
  have F6 := fun_mk (st := sCheckRow) l6 c6 k6
  have D6 : Df K mg "check_row" sCheckRow ["thing"] f6 _ := ⟨F6, F6.binds (ps := ["thing"]) fun _ _ _ _ _ _ us hl => match us, hl with | [_], _ => rfl, PySem.W.mg_of X G a6⟩
  have F7 := fun_mk (st := sWordOf) l7 c7 k7
  have D7 : Df K mg "word_of" sWordOf ["row"] f7 _ := ⟨F7, F7.binds (ps := ["row"]) fun _ _ _ _ _ _ us hl => match us, hl with | [_], _ => rfl, PySem.W.mg_of X G a7⟩
  have F8 := fun_mk (st := sWord) l8 c8 k8
  have D8 : Df K mg "word" sWord ["row"] f8 _ := ⟨F8, F8.binds (ps := ["row"]) fun _ _ _ _ _ _ us hl => match us, hl with | [_], _ => rfl, PySem.W.mg_of X G a8⟩
  have F9 := fun_mk (st := sNext) l9 c9 k9
  have D9 : Df K mg "next_place" sNext ["row", "first", "letter"] f9 _ := ⟨F9, F9.binds (ps := ["row", "first", "letter"]) fun _ _ _ _ _ _ us hl => match us, hl with | [_, _, _], _ => rfl, PySem.W.mg_of X G a9⟩
  have F10 := fun_mk (st := sWayOf) l10 c10 k10
  have D10 : Df K mg "way_of" sWayOf ["row", "out"] f10 _ := ⟨F10, F10.binds (ps := ["row", "out"]) fun _ _ _ _ _ _ us hl => match us, hl with | [_, _], _ => rfl, PySem.W.mg_of X G a10⟩
  have F11 := fun_mk (st := sCheckBoth) l11 c11 k11
  have D11 : Df K mg "check_both" sCheckBoth ["row", "out"] f11 _ := ⟨F11, F11.binds (ps := ["row", "out"]) fun _ _ _ _ _ _ us hl => match us, hl with | [_, _], _ => rfl, PySem.W.mg_of X G a11⟩
  have F12 := fun_mk (st := sIsThin) l12 c12 k12
  have D12 : Df K mg "is_thinning" sIsThin ["row", "out"] f12 _ := ⟨F12, F12.binds (ps := ["row", "out"]) fun _ _ _ _ _ _ us hl => match us, hl with | [_, _], _ => rfl, PySem.W.mg_of X G a12⟩
  have F13 := fun_mk (st := sWay) l13 c13 k13
  have D13 : Df K mg "way" sWay ["row", "out"] f13 _ := ⟨F13, F13.binds (ps := ["row", "out"]) fun _ _ _ _ _ _ us hl => match us, hl with | [_, _], _ => rfl, PySem.W.mg_of X G a13⟩
  have F14 := fun_mk (st := sFault) l14 c14 k14
  have D14 : Df K mg "way_fault" sFault ["row", "out", "thing"] f14 _ := ⟨F14, F14.binds (ps := ["row", "out", "thing"]) fun _ _ _ _ _ _ us hl => match us, hl with | [_, _, _], _ => rfl, PySem.W.mg_of X G a14⟩
  have F15 := fun_mk (st := sHand) l15 c15 k15
  have D15 : Df K mg "_law_hand" sHand ["_law_script"] f15 _ := ⟨F15, F15.binds (ps := ["_law_script"]) fun _ _ _ _ _ _ us hl => match us, hl with | [_], _ => rfl, PySem.W.mg_of X G a15⟩
  have F16 := fun_mk (st := sDraw) l16 c16 k16
  have D16 : Df K mg "_law_draw" sDraw ["_law_hand_here", "_law_many"] f16 _ := ⟨F16, F16.binds (ps := ["_law_hand_here", "_law_many"]) fun _ _ _ _ _ _ us hl => match us, hl with | [_, _], _ => rfl, PySem.W.mg_of X G a16⟩
  have F17 := fun_mk (st := sIs) l17 c17 k17
  have D17 : Df K mg "_law_is" sIs ["_law_told", "_law_due"] f17 _ := ⟨F17, F17.binds (ps := ["_law_told", "_law_due"]) fun _ _ _ _ _ _ us hl => match us, hl with | [_, _], _ => rfl, PySem.W.mg_of X G a17⟩
  have F18 := fun_mk (st := sRow) l18 c18 k18
  have D18 : Df K mg "_law_row" sRow ["_law_hand_here", "_law_letters", "_law_most"] f18 _ := ⟨F18, F18.binds (ps := ["_law_hand_here", "_law_letters", "_law_most"]) fun _ _ _ _ _ _ us hl => match us, hl with | [_, _, _], _ => rfl, PySem.W.mg_of X G a18⟩
  have F19 := fun_mk (st := sThinned) l19 c19 k19
  have D19 : Df K mg "_law_thinned" sThinned ["_law_hand_here", "_law_row_here", "_law_most"] f19 _ := ⟨F19, F19.binds (ps := ["_law_hand_here", "_law_row_here", "_law_most"]) fun _ _ _ _ _ _ us hl => match us, hl with | [_, _, _], _ => rfl, PySem.W.mg_of X G a19⟩
  have F20 := fun_mk (st := sLWord) l20 c20 k20
  have D20 : Df K mg "_law_word" sLWord ["_law_row_here"] f20 _ := ⟨F20, F20.binds (ps := ["_law_row_here"]) fun _ _ _ _ _ _ us hl => match us, hl with | [_], _ => rfl, PySem.W.mg_of X G a20⟩
  have F21 := fun_mk (st := sThins) l21 c21 k21
  have D21 : Df K mg "_law_thins" sThins ["_law_row_here", "_law_out"] f21 _ := ⟨F21, F21.binds (ps := ["_law_row_here", "_law_out"]) fun _ _ _ _ _ _ us hl => match us, hl with | [_, _], _ => rfl, PySem.W.mg_of X G a21⟩
  have F22 := fun_mk (st := sChanged) l22 c22 k22
  have D22 : Df K mg "_law_changed" sChanged ["_law_hand_here", "_law_row_here"] f22 _ := ⟨F22, F22.binds (ps := ["_law_hand_here", "_law_row_here"]) fun _ _ _ _ _ _ us hl => match us, hl with | [_, _], _ => rfl, PySem.W.mg_of X G a22⟩
  have F23 := fun_mk (st := sLaw) l23 c23 k23
  have D23 : Df K mg "law" sLaw ["_law_script"] fa _ := ⟨F23, F23.binds (ps := ["_law_script"]) fun _ _ _ _ _ _ us hl => match us, hl with | [_], _ => rfl, PySem.W.mg_of X G a23⟩
  refine ⟨PySem.W.fnOf "law" "law" (defArgs sLaw) (defBody sLaw) (defScope sLaw) .none kV23 dc23 pm23 an23 cd23 ct23, fun s v => .of_eq rfl, fun base _ _ => ?_⟩
  have G1 : FnOk l.prog w K mg base CX0 1 f1 _ ["thing"] spInteger := ok_integer D1 T
  have G2 : FnOk l.prog w K mg base CX0 2 f2 _ ["thing", "least", "most"] spBetween := ok_between D2 D1 T
  have G3 : FnOk l.prog w K mg base CX0 3 f3 _ ["thing", "many"] spIndex := ok_index D3 D2 G2 T
  have G4 : FnOk l.prog w K mg base CX0 2 f4 _ ["thing", "many"] spIntegers := ok_integers D4 D1 T
  have G5 : FnOk l.prog w K mg base CX0 4 f5 _ ["thing"] spIsRow := ok_isrow D5 D3 G3 T
  have G6 : FnOk l.prog w K mg base CX0 5 f6 _ ["thing"] spCheckRow := ok_checkrow D6 D5 G5
  have G7 : FnOk l.prog w K mg base CX0 1 f7 _ ["row"] spWordOf := ok_wordof D7 T
  have G8 : FnOk l.prog w K mg base CX0 6 f8 _ ["row"] spWordOf := ok_word D8 D6 G6 D7 G7
  have G9 : FnOk l.prog w K mg base CX0 1 f9 _ ["row", "first", "letter"] spNext := ok_next D9 T
  have G10 : FnOk l.prog w K mg base CX0 2 f10 _ ["row", "out"] spWayOf := ok_wayof D10 D9 G9 T
  have G11 : FnOk l.prog w K mg base CX0 6 f11 _ ["row", "out"] spCheckBoth := ok_checkboth D11 D6 G6
  have G12 : FnOk l.prog w K mg base CX0 7 f12 _ ["row", "out"] spIsThin := ok_isthin D12 D11 G11 D10 G10
  have G13 : FnOk l.prog w K mg base CX0 7 f13 _ ["row", "out"] spWay := ok_way D13 D11 G11 D10 G10
  have G14 : FnOk l.prog w K mg base CX0 7 f14 _ ["row", "out", "thing"] spFault := ok_fault D14 D11 G11 D4 G4 D2 G2 T
  have G15 : FnOk l.prog w K mg base CX0 1 f15 _ ["_law_script"] (spHand K) := ok_hand D15 T
  have G16 : FnOk l.prog w K mg base CX0 1 f16 _ ["_law_hand_here", "_law_many"] spDraw := ok_draw D16 T
  have G17 : FnOk l.prog w K mg base CX0 1 f17 _ ["_law_told", "_law_due"] spIs := ok_is D17 T
  have G18 : FnOk l.prog w K mg base CX0 2 f18 _ ["_law_hand_here", "_law_letters", "_law_most"] spRow := ok_row D18 D16 G16 T
  have G19 : FnOk l.prog w K mg base CX0 2 f19 _ ["_law_hand_here", "_law_row_here", "_law_most"] spThinned := ok_thinned D19 D16 G16 T
  have G20 : FnOk l.prog w K mg base CX0 1 f20 _ ["_law_row_here"] spLWord := ok_lword D20 T
  have G21 : FnOk l.prog w K mg base CX0 2 f21 _ ["_law_row_here", "_law_out"] spThins := ok_thins D21 D20 G20 T
  have G22 : FnOk l.prog w K mg base CX0 2 f22 _ ["_law_hand_here", "_law_row_here"] spChanged := ok_changed D22 D16 G16 T
  exact ok_law D23 ⟨f15, _, D15, G15, f16, _, D16, G16, f17, _, D17, G17, f18, _, D18, G18, f19, _, D19, G19, f21, _, D21, G21, f22, _, D22, G22, f12, _, D12, G12, f13, _, D13, G13, f14, _, D14, G14, f8, _, D8, G8⟩ T
end Fly
open PySem PySem.W PyProof.Rows
set_option maxRecDepth 100000 in
set_option maxHeartbeats 0 in
theorem PySem.Challenge.cw_flyovers_k05_whole_thinnings_of_thinning_holds : PySem.Challenge.rw_flyovers_k05_whole_thinnings_of_thinning.Holds := by
  w_on; o_law; k_head; (case hw => w_witness2)
  k_fill
  refine L2.walk_of (l := PySem.Challenge.rw_flyovers_k05_whole_thinnings_of_thinning) (n := 63) (k := 8) (x := "_law_script") (CX := fun _ => L2.CX0) (sp := fun w => Fly.spLaw _) rfl (by decide) rfl ⟨rfl, by decide, by decide⟩ (fun w h Y => PySem.W.kIn_of Y) ?F (fun _ _ a ns hl _ hS => ⟨a, ns, rfl, hS, hl, fun _ => rfl⟩) (fun _ _ _ _ _ h => h)
  case F =>
    intro w mg fa h KX G hmg
    refine' Fly.all_mk KX G hmg ?a1 ?l1 ?c1 ?k1 ?a2 ?l2 ?c2 ?k2 ?a3 ?l3 ?c3 ?k3 ?a4 ?l4 ?c4 ?k4 ?a5 ?l5 ?c5 ?k5 ?a6 ?l6 ?c6 ?k6 ?a7 ?l7 ?c7 ?k7 ?a8 ?l8 ?c8 ?k8 ?a9 ?l9 ?c9 ?k9 ?a10 ?l10 ?c10 ?k10 ?a11 ?l11 ?c11 ?k11 ?a12 ?l12 ?c12 ?k12 ?a13 ?l13 ?c13 ?k13 ?a14 ?l14 ?c14 ?k14 ?a15 ?l15 ?c15 ?k15 ?a16 ?l16 ?c16 ?k16 ?a17 ?l17 ?c17 ?k17 ?a18 ?l18 ?c18 ?k18 ?a19 ?l19 ?c19 ?k19 ?a20 ?l20 ?c20 ?k20 ?a21 ?l21 ?c21 ?k21 ?a22 ?l22 ?c22 ?k22 ?a23 ?l23 ?c23 ?k23 ?z1 ?z2 ?z3 ?z4 ?z5 ?z6 ?z7 ?z8 ?z9 ?z10 ?z11 ?zL ?zM
    (case a1 => k_is)
    (case l1 => k_is)
    (case c1 => k_is)
    (case k1 => k_is)
    (case a2 => k_is)
    (case l2 => k_is)
    (case c2 => k_is)
    (case k2 => k_is)
    (case a3 => k_is)
    (case l3 => k_is)
    (case c3 => k_is)
    (case k3 => k_is)
    (case a4 => k_is)
    (case l4 => k_is)
    (case c4 => k_is)
    (case k4 => k_is)
    (case a5 => k_is)
    (case l5 => k_is)
    (case c5 => k_is)
    (case k5 => k_is)
    (case a6 => k_is)
    (case l6 => k_is)
    (case c6 => k_is)
    (case k6 => k_is)
    (case a7 => k_is)
    (case l7 => k_is)
    (case c7 => k_is)
    (case k7 => k_is)
    (case a8 => k_is)
    (case l8 => k_is)
    (case c8 => k_is)
    (case k8 => k_is)
    (case a9 => k_is)
    (case l9 => k_is)
    (case c9 => k_is)
    (case k9 => k_is)
    (case a10 => k_is)
    (case l10 => k_is)
    (case c10 => k_is)
    (case k10 => k_is)
    (case a11 => k_is)
    (case l11 => k_is)
    (case c11 => k_is)
    (case k11 => k_is)
    (case a12 => k_is)
    (case l12 => k_is)
    (case c12 => k_is)
    (case k12 => k_is)
    (case a13 => k_is)
    (case l13 => k_is)
    (case c13 => k_is)
    (case k13 => k_is)
    (case a14 => k_is)
    (case l14 => k_is)
    (case c14 => k_is)
    (case k14 => k_is)
    (case a15 => k_is)
    (case l15 => k_is)
    (case c15 => k_is)
    (case k15 => k_is)
    (case a16 => k_is)
    (case l16 => k_is)
    (case c16 => k_is)
    (case k16 => k_is)
    (case a17 => k_is)
    (case l17 => k_is)
    (case c17 => k_is)
    (case k17 => k_is)
    (case a18 => k_is)
    (case l18 => k_is)
    (case c18 => k_is)
    (case k18 => k_is)
    (case a19 => k_is)
    (case l19 => k_is)
    (case c19 => k_is)
    (case k19 => k_is)
    (case a20 => k_is)
    (case l20 => k_is)
    (case c20 => k_is)
    (case k20 => k_is)
    (case a21 => k_is)
    (case l21 => k_is)
    (case c21 => k_is)
    (case k21 => k_is)
    (case a22 => k_is)
    (case l22 => k_is)
    (case c22 => k_is)
    (case k22 => k_is)
    (case a23 => k_is)
    (case l23 => k_is)
    (case c23 => k_is)
    (case k23 => k_is)
    (case z1 => k_is)
    (case z2 => k_is)
    (case z3 => k_is)
    (case z4 => k_is)
    (case z5 => k_is)
    (case z6 => k_is)
    (case z7 => k_is)
    (case z8 => k_is)
    (case z9 => k_is)
    (case z10 => k_is)
    (case z11 => k_is)
    (case zL => k_is)
    (case zM => k_is)
