import PyProof.Rows.All
import Wide.All
import OpenK.AllK
import Wide.FinOn
import KE.KStateDown
import KE.KNest
import KE.KNestM
import Lean
import HandS.ForMost
import HandS.Exc
import HandS.Defaults
import HandS.Codes
import HandS.ClsMeth
import HandS.ExcField
import HandS.ExcIs
import HandS.ExcInit
import HandS.Head0
import HandS.Head1
import HandS.Head2
import HandS.HeadEnd
import HandS.HeadHook1
import HandS.HeadHook2
import HandS.HeadHook3
import HandS.HeadHook4
import PySem.Challenge.RW_quorumdrift_k38_whole_silent_edits
import HandS.Iter
import HandS.Rev
import HandS.OwnEq
import KE.KDictList
import KE.KRevIter
import OpenK.KOps
import PyProof.EnumMake
import PyProof.Draws
import KE.GoesMore
import HandS.DictComp
import HandS.SortRule
import HandS.SortOrd
import HandS.Conv
import KE.KDictSum
import HandS.TryMany
import HandS.ExcSuper
import HandS.FStr
import KE.KExcSuper
import KE.KExcIs
import KE.KSuper
import PyProof.RulesAs
import HandS.Words
import HandS.Evl
import HandS.Walk
import HandS.ExcOwn
import HandS.NoneIn
import HandS.IsInst
import HandS.DictTup
import HandS.Style
import HandS.Strs
import HandS.Deep
import HandS.HeadWalk
section
set_option linter.all false
/-! Plain laws: places in a list, the majority of three lists, the settled list, silent exchanges. -/
namespace K38
/-! ### places -/
/-- x stands before y -/
def bf (l : List Int) (x y : Int) : Bool := decide (l.idxOf x < l.idxOf y)
theorem bf_irr (l : List Int) (x : Int) : bf l x x = false := decide_eq_false (Nat.lt_irrefl _)
theorem bf_asy {l : List Int} {x y : Int} (h : bf l x y = true) : bf l y x = false := by
  have h1 : l.idxOf x < l.idxOf y := of_decide_eq_true h
  exact decide_eq_false (by omega)
theorem bf_trans {l : List Int} {x y z : Int} (h : bf l x y = true) (h2 : bf l y z = true) : bf l x z = true := by
  have h1 : l.idxOf x < l.idxOf y := of_decide_eq_true h
  have h3 : l.idxOf y < l.idxOf z := of_decide_eq_true h2
  exact decide_eq_true (by omega)
theorem idx_inj {l : List Int} {x y : Int} (hx : x ∈ l) (hy : y ∈ l) (e : l.idxOf x = l.idxOf y) : x = y := by
  have h1 := List.getElem_idxOf (List.idxOf_lt_length_of_mem hx)
  have h2 := List.getElem_idxOf (List.idxOf_lt_length_of_mem hy)
  rw [← h1, ← h2]
  congr 1
theorem bf_tot {l : List Int} {x y : Int} (hx : x ∈ l) (hy : y ∈ l) (ne : x ≠ y) : bf l y x = !bf l x y := by
  have h : ¬ l.idxOf x = l.idxOf y := fun e => ne (idx_inj hx hy e)
  unfold bf
  by_cases h1 : l.idxOf x < l.idxOf y
  · rw [decide_eq_true h1, decide_eq_false (by omega)]
    rfl
  · rw [decide_eq_false h1, decide_eq_true (by omega)]
    rfl
theorem idx_of_get {l : List Int} (nd : l.Nodup) {i : Nat} {x : Int} (h : l[i]? = some x) : l.idxOf x = i := by
  obtain ⟨hi, e⟩ := List.getElem?_eq_some_iff.mp h
  subst e
  exact nd.idxOf_getElem i hi
theorem bf_cons_tail {a : Int} {l : List Int} {x y : Int} (hx : x ≠ a) (hy : y ≠ a) : bf (a :: l) x y = bf l x y := by
  unfold bf
  rw [List.idxOf_cons, List.idxOf_cons]
  have h1 : (a == x) = false := by simpa using fun e => hx e.symm
  have h2 : (a == y) = false := by simpa using fun e => hy e.symm
  rw [h1, h2]
  simp
theorem bf_cons_head {a : Int} {l : List Int} {y : Int} (hy : y ≠ a) : bf (a :: l) a y = true := by
  unfold bf
  rw [List.idxOf_cons, List.idxOf_cons]
  have h2 : (a == y) = false := by simpa using fun e => hy e.symm
  rw [h2]
  simp
/-- the reversed list says the contrary -/
theorem idx_rev {l : List Int} (nd : l.Nodup) {x : Int} (hx : x ∈ l) : l.reverse.idxOf x = l.length - 1 - l.idxOf x := by
  have h := List.idxOf_lt_length_of_mem hx
  have nr : l.reverse.Nodup := (List.reverse_perm l).nodup_iff.mpr nd
  apply idx_of_get nr
  rw [List.getElem?_reverse (by omega)]
  have e : l.length - 1 - (l.length - 1 - l.idxOf x) = l.idxOf x := by omega
  rw [e, List.getElem?_eq_getElem h, List.getElem_idxOf]
theorem bf_rev {l : List Int} (nd : l.Nodup) {x y : Int} (hx : x ∈ l) (hy : y ∈ l) : bf l.reverse x y = bf l y x := by
  have h1 := List.idxOf_lt_length_of_mem hx
  have h2 := List.idxOf_lt_length_of_mem hy
  unfold bf
  rw [idx_rev nd hx, idx_rev nd hy]
  by_cases h : l.idxOf y < l.idxOf x
  · rw [decide_eq_true h, decide_eq_true (by omega)]
  · rw [decide_eq_false h, decide_eq_false (by omega)]
/-! ### an exchange of neighbours -/
def exch (l : List Int) (i : Nat) : List Int := l.take i ++ (l.getD (i + 1) 0 :: l.getD i 0 :: l.drop (i + 2))
theorem exch_app (p s : List Int) (a b : Int) : exch (p ++ a :: b :: s) p.length = p ++ b :: a :: s := by
  unfold exch
  have h1 : (p ++ a :: b :: s).take p.length = p := List.take_left
  have h2 : (p ++ a :: b :: s).getD (p.length + 1) 0 = b := by simp [List.getD_eq_getElem?_getD, List.getElem?_append_right]
  have h3 : (p ++ a :: b :: s).getD p.length 0 = a := by simp [List.getD_eq_getElem?_getD, List.getElem?_append_right]
  have h4 : (p ++ a :: b :: s).drop (p.length + 2) = s := by
    rw [show p ++ a :: b :: s = (p ++ [a, b]) ++ s by simp]
    rw [show p.length + 2 = (p ++ [a, b]).length by simp]
    exact List.drop_left
  rw [h1, h2, h3, h4]
/-- a list around a place -/
theorem split_at {l : List Int} {i : Nat} (h : i + 1 < l.length) : ∃ p a b s, l = p ++ a :: b :: s ∧ p.length = i ∧ l[i]? = some a ∧ l[i + 1]? = some b := by
  refine ⟨l.take i, l[i], l[i + 1], l.drop (i + 2), ?_, by simp; omega, List.getElem?_eq_getElem _, List.getElem?_eq_getElem _⟩
  rw [← List.drop_eq_getElem_cons (by omega), ← List.drop_eq_getElem_cons (by omega), List.take_append_drop]
theorem exch_perm {l : List Int} {i : Nat} (h : i + 1 < l.length) : (exch l i).Perm l := by
  obtain ⟨p, a, b, s, e, hp, _, _⟩ := split_at h
  subst hp
  rw [e, exch_app]
  exact List.Perm.append_left p (List.Perm.swap a b s)
theorem exch_exch {l : List Int} {i : Nat} (h : i + 1 < l.length) : exch (exch l i) i = l := by
  obtain ⟨p, a, b, s, e, hp, _, _⟩ := split_at h
  subst hp
  rw [e, exch_app, exch_app]
theorem exch_len {l : List Int} {i : Nat} (h : i + 1 < l.length) : (exch l i).length = l.length := (exch_perm h).length_eq
theorem exch_at {l : List Int} {i : Nat} (h : i + 1 < l.length) : (exch l i)[i]? = l[i + 1]? ∧ (exch l i)[i + 1]? = l[i]? := by
  obtain ⟨p, a, b, s, e, hp, h1, h2⟩ := split_at h
  subst hp
  rw [h1, h2]
  rw [e, exch_app]
  constructor
  · simp [List.getElem?_append_right]
  · simp [List.getElem?_append_right]
theorem idx_app_in {p l : List Int} {x : Int} (h : x ∈ p) : (p ++ l).idxOf x = p.idxOf x := by rw [List.idxOf_append, if_pos h]
theorem idx_app_out {p l : List Int} {x : Int} (h : x ∉ p) : (p ++ l).idxOf x = p.length + l.idxOf x := by
  rw [List.idxOf_append, if_neg h]
  omega
/-- what the exchange does to the words: the pair's alone turns -/
theorem bf_swap {p s : List Int} {a b : Int} (nd : (p ++ a :: b :: s).Nodup) (x y : Int) :
    bf (p ++ b :: a :: s) x y = if x = a ∧ y = b then false else if x = b ∧ y = a then true else bf (p ++ a :: b :: s) x y := by
  have nd2 := (List.nodup_append.mp nd).2.1
  have hab : a ≠ b := fun e => by
    rw [e] at nd2
    exact (List.nodup_cons.mp nd2).1 List.mem_cons_self
  have hap : a ∉ p := fun hm => (List.nodup_append.mp nd).2.2 a hm a List.mem_cons_self rfl
  have hbp : b ∉ p := fun hm => (List.nodup_append.mp nd).2.2 b hm b (List.mem_cons_of_mem _ List.mem_cons_self) rfl
  have hbs : b ∉ s := (List.nodup_cons.mp (List.nodup_cons.mp nd2).2).1
  have has : a ∉ s := fun hm => (List.nodup_cons.mp nd2).1 (List.mem_cons_of_mem _ hm)
  have ia : (p ++ a :: b :: s).idxOf a = p.length := by rw [idx_app_out hap]; simp
  have ib : (p ++ a :: b :: s).idxOf b = p.length + 1 := by
    rw [idx_app_out hbp, List.idxOf_cons, beq_eq_false_iff_ne.mpr hab]
    simp
  have ja : (p ++ b :: a :: s).idxOf a = p.length + 1 := by
    rw [idx_app_out hap, List.idxOf_cons, beq_eq_false_iff_ne.mpr (Ne.symm hab)]
    simp
  have jb : (p ++ b :: a :: s).idxOf b = p.length := by rw [idx_app_out hbp]; simp
  have oth : ∀ z, z ≠ a → z ≠ b → (p ++ b :: a :: s).idxOf z = (p ++ a :: b :: s).idxOf z ∧ ((p ++ a :: b :: s).idxOf z < p.length ∨ p.length + 1 < (p ++ a :: b :: s).idxOf z) := fun z za zb => by
    by_cases hz : z ∈ p
    · rw [idx_app_in hz, idx_app_in hz]
      exact ⟨rfl, .inl (List.idxOf_lt_length_of_mem hz)⟩
    · rw [idx_app_out hz, idx_app_out hz]
      have e1 : (b == z) = false := by simpa using fun e => zb e.symm
      have e2 : (a == z) = false := by simpa using fun e => za e.symm
      rw [List.idxOf_cons, List.idxOf_cons, List.idxOf_cons, List.idxOf_cons, e1, e2]
      exact ⟨by simp, .inr (by simp)⟩
  unfold bf
  by_cases xa : x = a
  · subst xa
    by_cases yb : y = b
    · subst yb
      rw [if_pos ⟨rfl, rfl⟩, ja, jb]
      simp
    · rw [if_neg fun h => yb h.2, if_neg fun h => hab h.1]
      by_cases ya : y = x
      · subst ya
        simp
      · obtain ⟨e, h⟩ := oth y ya yb
        rw [e, ja, ia]
        have q : (p.length + 1 < List.idxOf y (p ++ x :: b :: s)) ↔ (p.length < List.idxOf y (p ++ x :: b :: s)) := by omega
        simp only [q]
  · by_cases xb : x = b
    · subst xb
      rw [if_neg fun h => xa h.1]
      by_cases ya : y = a
      · subst ya
        rw [if_pos ⟨rfl, rfl⟩, ja, jb]
        simp
      · rw [if_neg fun h => ya h.2]
        by_cases yb : y = x
        · subst yb
          simp
        · obtain ⟨e, h⟩ := oth y ya yb
          rw [e, jb, ib]
          have q : (p.length < List.idxOf y (p ++ a :: x :: s)) ↔ (p.length + 1 < List.idxOf y (p ++ a :: x :: s)) := by omega
          simp only [q]
    · rw [if_neg fun h => xa h.1, if_neg fun h => xb h.1]
      obtain ⟨e, h⟩ := oth x xa xb
      rw [e]
      by_cases ya : y = a
      · subst ya
        rw [ja, ia]
        have q : (List.idxOf x (p ++ y :: b :: s) < p.length + 1) ↔ (List.idxOf x (p ++ y :: b :: s) < p.length) := by omega
        simp only [q]
      · by_cases yb : y = b
        · subst yb
          rw [jb, ib]
          have q : (List.idxOf x (p ++ a :: y :: s) < p.length) ↔ (List.idxOf x (p ++ a :: y :: s) < p.length + 1) := by omega
          simp only [q]
        · rw [(oth y ya yb).1]

/-! ### the settled list -/
def ins (T : Int → Int → Bool) (a : Int) : List Int → List Int
  | [] => [a]
  | b :: r => if T b a = true then b :: ins T a r else a :: b :: r
def hm (T : Int → Int → Bool) : List Int → List Int
  | [] => []
  | a :: s => ins T a (hm T s)
theorem ins_perm (T : Int → Int → Bool) (a : Int) : ∀ m : List Int, (ins T a m).Perm (a :: m)
  | [] => List.Perm.refl _
  | b :: r => by
    unfold ins
    by_cases h : T b a = true
    · rw [if_pos h]
      exact ((ins_perm T a r).cons b).trans (List.Perm.swap a b r)
    · rw [if_neg h]
theorem hm_perm (T : Int → Int → Bool) : ∀ l : List Int, (hm T l).Perm l
  | [] => List.Perm.refl _
  | a :: s => (ins_perm T a (hm T s)).trans ((hm_perm T s).cons a)
theorem hm_mem {T : Int → Int → Bool} {l : List Int} {x : Int} : x ∈ hm T l ↔ x ∈ l := (hm_perm T l).mem_iff
theorem ins_comm {T : Int → Int → Bool} {a b : Int} (hab : T b a = true) (hba : T a b = false) : ∀ m : List Int, (∀ c ∈ m, T c b = true → T c a = true) → ins T a (ins T b m) = ins T b (ins T a m)
  | [], _ => by
    show (if T b a = true then b :: ins T a [] else a :: [b]) = (if T a b = true then a :: ins T b [] else b :: [a])
    rw [if_pos hab, if_neg (by rw [hba]; decide)]
    rfl
  | c :: r, h => by
    have ih := ins_comm hab hba r fun d hd => h d (List.mem_cons_of_mem _ hd)
    have hc := h c List.mem_cons_self
    by_cases h1 : T c b = true
    · have h2 := hc h1
      show ins T a (if T c b = true then c :: ins T b r else b :: c :: r) = ins T b (if T c a = true then c :: ins T a r else a :: c :: r)
      rw [if_pos h1, if_pos h2]
      show (if T c a = true then c :: ins T a (ins T b r) else a :: c :: ins T b r) = (if T c b = true then c :: ins T b (ins T a r) else b :: c :: ins T a r)
      rw [if_pos h1, if_pos h2, ih]
    · by_cases h2 : T c a = true
      · show ins T a (if T c b = true then c :: ins T b r else b :: c :: r) = ins T b (if T c a = true then c :: ins T a r else a :: c :: r)
        rw [if_neg h1, if_pos h2]
        show (if T b a = true then b :: ins T a (c :: r) else a :: b :: c :: r) = (if T c b = true then c :: ins T b (ins T a r) else b :: c :: ins T a r)
        rw [if_pos hab, if_neg h1]
        show b :: (if T c a = true then c :: ins T a r else a :: c :: r) = _
        rw [if_pos h2]
      · show ins T a (if T c b = true then c :: ins T b r else b :: c :: r) = ins T b (if T c a = true then c :: ins T a r else a :: c :: r)
        rw [if_neg h1, if_neg h2]
        show (if T b a = true then b :: ins T a (c :: r) else a :: b :: c :: r) = (if T a b = true then a :: ins T b (c :: r) else b :: a :: c :: r)
        rw [if_pos hab, if_neg (by rw [hba]; decide)]
        show b :: (if T c a = true then c :: ins T a r else a :: c :: r) = _
        rw [if_neg h2]
/-- a homeward exchange does not change where it all leads -/
theorem hm_swap {T : Int → Int → Bool} {a b : Int} {s : List Int} (hab : T b a = true) (hba : T a b = false) (h : ∀ c ∈ s, T c b = true → T c a = true) : ∀ p : List Int, hm T (p ++ a :: b :: s) = hm T (p ++ b :: a :: s)
  | [] => by
    show ins T a (ins T b (hm T s)) = ins T b (ins T a (hm T s))
    exact ins_comm hab hba _ fun c hc => h c (hm_mem.mp hc)
  | x :: p => by
    show ins T x (hm T (p ++ a :: b :: s)) = ins T x (hm T (p ++ b :: a :: s))
    rw [hm_swap hab hba h p]
/-- no neighbours stand otherwise than they are read -/
def stl (T : Int → Int → Bool) : List Int → Prop
  | a :: b :: r => T b a = false ∧ stl T (b :: r)
  | _ => True
theorem stl_hm {T : Int → Int → Bool} : ∀ {l : List Int}, stl T l → hm T l = l
  | [], _ => rfl
  | [a], _ => rfl
  | a :: b :: r, h => by
    have e := stl_hm h.2
    show ins T a (hm T (b :: r)) = _
    rw [e]
    show (if T b a = true then b :: ins T a r else a :: b :: r) = _
    rw [if_neg (by rw [h.1]; decide)]
theorem ins_stl {T : Int → Int → Bool} (asy : ∀ x y, T x y = true → T y x = false) (a : Int) : ∀ m : List Int, stl T m → stl T (ins T a m)
  | [], _ => True.intro
  | [b], _ => by
    show stl T (if T b a = true then b :: ins T a [] else a :: [b])
    by_cases h : T b a = true
    · rw [if_pos h]
      exact ⟨asy _ _ h, True.intro⟩
    · rw [if_neg h]
      exact ⟨by simpa using h, True.intro⟩
  | b :: c :: r, hm => by
    have ih := ins_stl asy a (c :: r) hm.2
    show stl T (if T b a = true then b :: ins T a (c :: r) else a :: b :: c :: r)
    by_cases h : T b a = true
    · rw [if_pos h]
      show stl T (b :: (if T c a = true then c :: ins T a r else a :: c :: r))
      have ih2 : stl T (if T c a = true then c :: ins T a r else a :: c :: r) := ih
      by_cases h2 : T c a = true
      · rw [if_pos h2] at ih2 ⊢
        exact ⟨hm.1, ih2⟩
      · rw [if_neg h2] at ih2 ⊢
        exact ⟨asy _ _ h, ih2⟩
    · rw [if_neg h]
      exact ⟨by simpa using h, hm⟩
theorem hm_stl {T : Int → Int → Bool} (asy : ∀ x y, T x y = true → T y x = false) : ∀ l : List Int, stl T (hm T l)
  | [] => True.intro
  | a :: s => ins_stl asy a _ (hm_stl asy s)
theorem stl_at {T : Int → Int → Bool} : ∀ {l : List Int}, stl T l → ∀ {i : Nat} {x y : Int}, l[i]? = some x → l[i + 1]? = some y → T y x = false
  | [], _, i, x, y, h, _ => by simp at h
  | [a], _, i, x, y, _, h => by simp at h
  | a :: b :: r, h, 0, x, y, h1, h2 => by
    have e1 : a = x := Option.some.inj h1
    have e2 : b = y := Option.some.inj h2
    rw [← e1, ← e2]
    exact h.1
  | a :: b :: r, h, i + 1, x, y, h1, h2 => stl_at (l := b :: r) h.2 (i := i) h1 h2
theorem stl_of : ∀ {T : Int → Int → Bool} {l : List Int}, (∀ (i : Nat) (x y : Int), l[i]? = some x → l[i + 1]? = some y → T y x = false) → stl T l
  | _, [], _ => True.intro
  | _, [a], _ => True.intro
  | T, a :: b :: r, h => ⟨h 0 a b rfl rfl, stl_of (l := b :: r) fun i x y h1 h2 => h (i + 1) x y h1 h2⟩
theorem ins_congr {T U : Int → Int → Bool} {a : Int} : ∀ {m : List Int}, (∀ c ∈ m, T c a = U c a) → ins T a m = ins U a m
  | [], _ => rfl
  | b :: r, h => by
    show (if T b a = true then b :: ins T a r else a :: b :: r) = (if U b a = true then b :: ins U a r else a :: b :: r)
    rw [h b List.mem_cons_self, ins_congr fun c hc => h c (List.mem_cons_of_mem _ hc)]
theorem hm_congr {T U : Int → Int → Bool} : ∀ {l : List Int}, (∀ x ∈ l, ∀ y ∈ l, T x y = U x y) → hm T l = hm U l
  | [], _ => rfl
  | a :: s, h => by
    show ins T a (hm T s) = ins U a (hm U s)
    rw [hm_congr (T := T) (U := U) (l := s) fun x hx y hy => h x (List.mem_cons_of_mem _ hx) y (List.mem_cons_of_mem _ hy)]
    exact ins_congr fun c hc => h c (List.mem_cons_of_mem _ (hm_mem.mp hc)) a List.mem_cons_self
/-- what stands as it is read goes on standing so -/
theorem ins_bf_self {T : Int → Int → Bool} {a y : Int} (hy : T y a = false) : ∀ {m : List Int}, y ∈ m → y ≠ a → bf (ins T a m) a y = true
  | [], h, _ => by cases h
  | b :: r, h, ne => by
    show bf (if T b a = true then b :: ins T a r else a :: b :: r) a y = true
    by_cases hb : T b a = true
    · rw [if_pos hb]
      have yb : y ≠ b := fun e => by
        rw [e, hb] at hy
        cases hy
      have yr : y ∈ r := (List.mem_cons.mp h).resolve_left yb
      by_cases ab : a = b
      · rw [← ab]
        exact bf_cons_head ne
      · rw [bf_cons_tail ab yb]
        exact ins_bf_self hy yr ne
    · rw [if_neg hb]
      exact bf_cons_head ne
theorem ins_bf_oth {T : Int → Int → Bool} {a x y : Int} (hx : x ≠ a) (hy : y ≠ a) : ∀ {m : List Int}, bf (ins T a m) x y = bf m x y
  | [] => by
    show bf [a] x y = bf [] x y
    exact bf_cons_tail hx hy
  | b :: r => by
    show bf (if T b a = true then b :: ins T a r else a :: b :: r) x y = bf (b :: r) x y
    by_cases hb : T b a = true
    · rw [if_pos hb]
      have ih := ins_bf_oth (T := T) hx hy (m := r)
      by_cases xb : x = b
      · subst xb
        by_cases yb : y = x
        · rw [yb, bf_irr, bf_irr]
        · rw [bf_cons_head yb, bf_cons_head yb]
      · by_cases yb : y = b
        · subst yb
          unfold bf
          rw [List.idxOf_cons, List.idxOf_cons, List.idxOf_cons, List.idxOf_cons]
          simp
        · rw [bf_cons_tail xb yb, bf_cons_tail xb yb, ih]
    · rw [if_neg hb, bf_cons_tail hx hy]
theorem hm_bf {T : Int → Int → Bool} (asy : ∀ x y, T x y = true → T y x = false) : ∀ {l : List Int}, l.Nodup → ∀ {x y : Int}, x ∈ l → y ∈ l → T x y = true → bf l x y = true → bf (hm T l) x y = true
  | [], _, x, y, h, _, _, _ => by cases h
  | a :: s, nd, x, y, hx, hy, t, h => by
    have nd2 := List.nodup_cons.mp nd
    show bf (ins T a (hm T s)) x y = true
    by_cases ya : y = a
    · subst ya
      by_cases xy : x = y
      · rw [xy, bf_irr] at h
        cases h
      · have := bf_asy (bf_cons_head (a := y) (l := s) xy)
        rw [this] at h
        cases h
    · have ys : y ∈ s := (List.mem_cons.mp hy).resolve_left ya
      by_cases xa : x = a
      · subst xa
        exact ins_bf_self (asy _ _ t) (hm_mem.mpr ys) ya
      · have xs : x ∈ s := (List.mem_cons.mp hx).resolve_left xa
        rw [bf_cons_tail xa ya] at h
        rw [ins_bf_oth xa ya]
        exact hm_bf asy nd2.2 xs ys t h
/-! ### the majority of three lists -/
structure S3 where
  a : List Int
  b : List Int
  c : List Int
  deriving DecidableEq
namespace S3
def get (S : S3) : Nat → List Int
  | 0 => S.a
  | 1 => S.b
  | _ => S.c
def set (S : S3) (k : Nat) (l : List Int) : S3 := match k with
  | 0 => ⟨l, S.b, S.c⟩
  | 1 => ⟨S.a, l, S.c⟩
  | _ => ⟨S.a, S.b, l⟩
/-- the two others, the lesser first -/
def oth (S : S3) : Nat → List Int × List Int
  | 0 => (S.b, S.c)
  | 1 => (S.a, S.c)
  | _ => (S.a, S.b)
def rd (S : S3) (x y : Int) : Bool := (bf S.a x y && bf S.b x y) || (bf S.a x y && bf S.c x y) || (bf S.b x y && bf S.c x y)
/-- three lists of the same keys, no key twice -/
structure ok (S : S3) : Prop where
  nd : S.a.Nodup
  pb : S.b.Perm S.a
  pc : S.c.Perm S.a
theorem ok.get {S : S3} (h : S.ok) (k : Nat) : (S.get k).Perm S.a := by
  rcases k with _ | _ | k
  · exact List.Perm.refl _
  · exact h.pb
  · exact h.pc
theorem ok.ndk {S : S3} (h : S.ok) (k : Nat) : (S.get k).Nodup := (h.get k).nodup_iff.mpr h.nd
theorem ok.mem {S : S3} (h : S.ok) (k : Nat) {x : Int} : x ∈ S.get k ↔ x ∈ S.a := (h.get k).mem_iff
theorem ok.len {S : S3} (h : S.ok) (k : Nat) : (S.get k).length = S.a.length := (h.get k).length_eq
theorem ok.set {S : S3} (h : S.ok) {k : Nat} {l : List Int} (p : l.Perm (S.get k)) : (S.set k l).ok := by
  rcases k with _ | _ | k
  · have p' : l.Perm S.a := p
    exact ⟨p'.nodup_iff.mpr h.nd, h.pb.trans p'.symm, h.pc.trans p'.symm⟩
  · exact ⟨h.nd, (show l.Perm S.b from p).trans h.pb, h.pc⟩
  · exact ⟨h.nd, h.pb, (show l.Perm S.c from p).trans h.pc⟩
theorem set_mem {S : S3} {k : Nat} {l : List Int} (p : l.Perm (S.get k)) {x : Int} : x ∈ (S.set k l).a ↔ x ∈ S.a := by
  rcases k with _ | _ | k
  · exact (show l.Perm S.a from p).mem_iff
  · exact Iff.rfl
  · exact Iff.rfl
theorem rd_asy (S : S3) (x y : Int) (h : S.rd x y = true) : S.rd y x = false := by
  unfold rd at h ⊢
  have h1 : bf S.a x y = true → bf S.a y x = false := bf_asy
  have h2 : bf S.b x y = true → bf S.b y x = false := bf_asy
  have h3 : bf S.c x y = true → bf S.c y x = false := bf_asy
  cases ea : bf S.a x y <;> cases eb : bf S.b x y <;> cases ec : bf S.c x y <;> simp_all
theorem rd_irr (S : S3) (x : Int) : S.rd x x = false := by
  unfold rd
  rw [bf_irr, bf_irr, bf_irr]
  rfl
theorem rd_tot {S : S3} (h : S.ok) {x y : Int} (hx : x ∈ S.a) (hy : y ∈ S.a) (ne : x ≠ y) : S.rd y x = !S.rd x y := by
  unfold rd
  rw [bf_tot hx hy ne, bf_tot (h.pb.mem_iff.mpr hx) (h.pb.mem_iff.mpr hy) ne, bf_tot (h.pc.mem_iff.mpr hx) (h.pc.mem_iff.mpr hy) ne]
  cases bf S.a x y <;> cases bf S.b x y <;> cases bf S.c x y <;> rfl
/-- no list dissents twice in a cycle -/
theorem good {S : S3} (k : Nat) {x y z : Int} (h1 : bf (S.get k) x y = true) (h2 : bf (S.get k) y z = true) (t1 : S.rd y x = true) (t2 : S.rd z y = true) (t3 : S.rd x z = true) : False := by
  have a1 := bf_asy h1
  have a2 := bf_asy h2
  have t4 := rd_asy S _ _ t3
  rcases k with _ | _ | k
  · have a1 : bf S.a y x = false := a1
    have a2 : bf S.a z y = false := a2
    unfold rd at t1 t2 t4
    rw [a1] at t1
    rw [a2] at t2
    have b1 : bf S.b y x = true ∧ bf S.c y x = true := by simpa using t1
    have b2 : bf S.b z y = true ∧ bf S.c z y = true := by simpa using t2
    rw [bf_trans b2.1 b1.1, bf_trans b2.2 b1.2] at t4
    simp at t4
  · have a1 : bf S.b y x = false := a1
    have a2 : bf S.b z y = false := a2
    unfold rd at t1 t2 t4
    rw [a1] at t1
    rw [a2] at t2
    have b1 : bf S.a y x = true ∧ bf S.c y x = true := by simpa using t1
    have b2 : bf S.a z y = true ∧ bf S.c z y = true := by simpa using t2
    rw [bf_trans b2.1 b1.1, bf_trans b2.2 b1.2] at t4
    simp at t4
  · have a1 : bf S.c y x = false := a1
    have a2 : bf S.c z y = false := a2
    unfold rd at t1 t2 t4
    rw [a1] at t1
    rw [a2] at t2
    have b1 : bf S.a y x = true ∧ bf S.b y x = true := by simpa using t1
    have b2 : bf S.a z y = true ∧ bf S.b z y = true := by simpa using t2
    rw [bf_trans b2.1 b1.1, bf_trans b2.2 b1.2] at t4
    simp at t4
/-- a homeward exchange of any of the three leads where the list leads -/
theorem hm_step {S : S3} (h : S.ok) {k : Nat} {p s : List Int} {a b : Int} (e : S.get k = p ++ a :: b :: s) (t : S.rd b a = true) : hm S.rd (p ++ a :: b :: s) = hm S.rd (p ++ b :: a :: s) := by
  have nd : (p ++ a :: b :: s).Nodup := by rw [← e]; exact h.ndk k
  have nd2 := (List.nodup_append.mp nd).2.1
  have hab : a ≠ b := fun z => (List.nodup_cons.mp nd2).1 (by rw [z]; exact List.mem_cons_self)
  refine hm_swap t (rd_asy S _ _ t) (fun c hc tc => ?_) p
  have hbs : b ∉ s := (List.nodup_cons.mp (List.nodup_cons.mp nd2).2).1
  have has : a ∉ s := fun z => (List.nodup_cons.mp nd2).1 (List.mem_cons_of_mem _ z)
  have ca : c ≠ a := fun z => has (by rw [← z]; exact hc)
  have cb : c ≠ b := fun z => hbs (by rw [← z]; exact hc)
  have mem : ∀ z, z ∈ p ++ a :: b :: s → z ∈ S.a := fun z hz => (h.mem k).mp (by rw [e]; exact hz)
  have pa : a ∉ p := fun z => (List.nodup_append.mp nd).2.2 a z a List.mem_cons_self rfl
  have pb : b ∉ p := fun z => (List.nodup_append.mp nd).2.2 b z b (List.mem_cons_of_mem _ List.mem_cons_self) rfl
  have pc : c ∉ p := fun z => (List.nodup_append.mp nd).2.2 c z c (List.mem_cons_of_mem _ (List.mem_cons_of_mem _ hc)) rfl
  cases q : S.rd c a with
  | true => rfl
  | false =>
    exfalso
    have t3 : S.rd a c = true := by rw [rd_tot h (mem c (by simp [hc])) (mem a (by simp)) ca, q]; rfl
    have i1 : (p ++ a :: b :: s).idxOf a = p.length := by rw [idx_app_out pa]; simp
    have i2 : (p ++ a :: b :: s).idxOf b = p.length + 1 := by
      rw [idx_app_out pb, List.idxOf_cons, beq_eq_false_iff_ne.mpr hab]
      simp
    have i3 : p.length + 1 < (p ++ a :: b :: s).idxOf c := by
      rw [idx_app_out pc, List.idxOf_cons, beq_eq_false_iff_ne.mpr (Ne.symm ca), List.idxOf_cons, beq_eq_false_iff_ne.mpr (Ne.symm cb)]
      simp
    refine good (S := S) k (x := a) (y := b) (z := c) ?_ ?_ t tc t3
    · rw [e]
      exact decide_eq_true (by omega)
    · rw [e]
      exact decide_eq_true (by omega)
/-! ### silent exchanges -/
/-- the two others agree about the neighbours at i of list k -/
def sil (S : S3) (k i : Nat) : Bool := let x := (S.get k).getD i 0; let y := (S.get k).getD (i + 1) 0; bf (S.oth k).1 x y == bf (S.oth k).2 x y
theorem rd_set_other {S : S3} {k : Nat} {p s : List Int} {a b : Int} (nd : (p ++ a :: b :: s).Nodup) (e : S.get k = p ++ a :: b :: s) {x y : Int} (h1 : ¬ (x = a ∧ y = b)) (h2 : ¬ (x = b ∧ y = a)) :
    (S.set k (p ++ b :: a :: s)).rd x y = S.rd x y := by
  have q := bf_swap nd x y
  rw [if_neg h1, if_neg h2] at q
  rcases k with _ | _ | k
  · have e : S.a = p ++ a :: b :: s := e
    show rd ⟨p ++ b :: a :: s, S.b, S.c⟩ x y = S.rd x y
    unfold rd
    rw [e, q]
  · have e : S.b = p ++ a :: b :: s := e
    show rd ⟨S.a, p ++ b :: a :: s, S.c⟩ x y = S.rd x y
    unfold rd
    rw [e, q]
  · have e : S.c = p ++ a :: b :: s := e
    show rd ⟨S.a, S.b, p ++ b :: a :: s⟩ x y = S.rd x y
    unfold rd
    rw [e, q]
theorem rd_set_pair {S : S3} {k : Nat} {p s : List Int} {a b : Int} (nd : (p ++ a :: b :: s).Nodup) (e : S.get k = p ++ a :: b :: s) :
    (S.set k (p ++ b :: a :: s)).rd a b = (bf (S.oth k).1 a b && bf (S.oth k).2 a b) ∧ S.rd a b = (bf (S.oth k).1 a b || bf (S.oth k).2 a b) := by
  have q := bf_swap nd a b
  rw [if_pos ⟨rfl, rfl⟩] at q
  have nd2 := (List.nodup_append.mp nd).2.1
  have hab : a ≠ b := fun z => (List.nodup_cons.mp nd2).1 (by rw [z]; exact List.mem_cons_self)
  have pa : a ∉ p := fun z => (List.nodup_append.mp nd).2.2 a z a List.mem_cons_self rfl
  have pb : b ∉ p := fun z => (List.nodup_append.mp nd).2.2 b z b (List.mem_cons_of_mem _ List.mem_cons_self) rfl
  have q2 : bf (p ++ a :: b :: s) a b = true := by
    have i1 : (p ++ a :: b :: s).idxOf a = p.length := by rw [idx_app_out pa]; simp
    have i2 : (p ++ a :: b :: s).idxOf b = p.length + 1 := by
      rw [idx_app_out pb, List.idxOf_cons, beq_eq_false_iff_ne.mpr hab]
      simp
    exact decide_eq_true (by omega)
  rcases k with _ | _ | k
  · have e : S.a = p ++ a :: b :: s := e
    show rd ⟨p ++ b :: a :: s, S.b, S.c⟩ a b = (bf S.b a b && bf S.c a b) ∧ S.rd a b = (bf S.b a b || bf S.c a b)
    unfold rd
    rw [e, q, q2]
    cases bf S.b a b <;> cases bf S.c a b <;> exact ⟨rfl, rfl⟩
  · have e : S.b = p ++ a :: b :: s := e
    show rd ⟨S.a, p ++ b :: a :: s, S.c⟩ a b = (bf S.a a b && bf S.c a b) ∧ S.rd a b = (bf S.a a b || bf S.c a b)
    unfold rd
    rw [e, q, q2]
    cases bf S.a a b <;> cases bf S.c a b <;> exact ⟨rfl, rfl⟩
  · have e : S.c = p ++ a :: b :: s := e
    show rd ⟨S.a, S.b, p ++ b :: a :: s⟩ a b = (bf S.a a b && bf S.b a b) ∧ S.rd a b = (bf S.a a b || bf S.b a b)
    unfold rd
    rw [e, q, q2]
    cases bf S.a a b <;> cases bf S.b a b <;> exact ⟨rfl, rfl⟩
theorem get_set {S : S3} (k : Nat) (l : List Int) : (S.set k l).get k = l := by
  rcases k with _ | _ | k <;> rfl
theorem oth_set {S : S3} (k : Nat) (l : List Int) : (S.set k l).oth k = S.oth k := by
  rcases k with _ | _ | k <;> rfl
theorem set_set {S : S3} (k : Nat) (l m : List Int) : (S.set k l).set k m = S.set k m := by
  rcases k with _ | _ | k <;> rfl
theorem set_get (S : S3) (k : Nat) : S.set k (S.get k) = S := by
  rcases k with _ | _ | k <;> rfl
theorem oth_perm {S : S3} (h : S.ok) (k : Nat) : (S.oth k).1.Perm S.a ∧ (S.oth k).2.Perm S.a := by
  rcases k with _ | _ | k
  · exact ⟨h.pb, h.pc⟩
  · exact ⟨List.Perm.refl _, h.pc⟩
  · exact ⟨List.Perm.refl _, h.pb⟩
theorem sil_at {S : S3} {k : Nat} {p s : List Int} {a b : Int} (e : S.get k = p ++ a :: b :: s) : S.sil k p.length = (bf (S.oth k).1 a b == bf (S.oth k).2 a b) := by
  unfold sil
  rw [e]
  have h2 : (p ++ a :: b :: s).getD (p.length + 1) 0 = b := by simp [List.getD_eq_getElem?_getD, List.getElem?_append_right]
  have h3 : (p ++ a :: b :: s).getD p.length 0 = a := by simp [List.getD_eq_getElem?_getD, List.getElem?_append_right]
  rw [h2, h3]
theorem sil_rd {S : S3} (h : S.ok) {k i : Nat} (hi : i + 1 < (S.get k).length) :
    (∀ x ∈ S.a, ∀ y ∈ S.a, (S.set k (exch (S.get k) i)).rd x y = S.rd x y) ↔ S.sil k i = true := by
  obtain ⟨p, a, b, s, e, hp, _, _⟩ := split_at hi
  subst hp
  have nd : (p ++ a :: b :: s).Nodup := by rw [← e]; exact h.ndk k
  have ma : a ∈ S.a := (h.mem k).mp (by rw [e]; simp)
  have mb : b ∈ S.a := (h.mem k).mp (by rw [e]; simp)
  have nd2 := (List.nodup_append.mp nd).2.1
  have hab : a ≠ b := fun z => (List.nodup_cons.mp nd2).1 (by rw [z]; exact List.mem_cons_self)
  obtain ⟨q1, q2⟩ := rd_set_pair nd e
  have e2 : exch (S.get k) p.length = p ++ b :: a :: s := by rw [e, exch_app]
  have ok2 : (S.set k (p ++ b :: a :: s)).ok := by rw [← e2]; exact h.set (exch_perm hi)
  have hm2 : ∀ x, x ∈ (S.set k (p ++ b :: a :: s)).a ↔ x ∈ S.a := fun x => by rw [← e2]; exact set_mem (exch_perm hi)
  rw [sil_at e, e2]
  constructor
  · intro H
    have z := H a ma b mb
    rw [q1, q2] at z
    revert z
    cases bf (S.oth k).1 a b <;> cases bf (S.oth k).2 a b <;> decide
  · intro H x hx y hy
    have z : (bf (S.oth k).1 a b && bf (S.oth k).2 a b) = (bf (S.oth k).1 a b || bf (S.oth k).2 a b) := by
      revert H
      cases bf (S.oth k).1 a b <;> cases bf (S.oth k).2 a b <;> decide
    have zab : (S.set k (p ++ b :: a :: s)).rd a b = S.rd a b := by rw [q1, q2, z]
    by_cases h1 : x = a ∧ y = b
    · rw [h1.1, h1.2, zab]
    · by_cases h2 : x = b ∧ y = a
      · rw [h2.1, h2.2, rd_tot ok2 ((hm2 _).mpr ma) ((hm2 _).mpr mb) hab, rd_tot h ma mb hab, zab]
      · exact rd_set_other nd e h1 h2
/-- the exchange taken back is silent too -/
theorem sil_back {S : S3} (h : S.ok) {k i : Nat} (hi : i + 1 < (S.get k).length) : (S.set k (exch (S.get k) i)).sil k i = S.sil k i := by
  obtain ⟨p, a, b, s, e, hp, _, _⟩ := split_at hi
  subst hp
  have e2 : exch (S.get k) p.length = p ++ b :: a :: s := by rw [e, exch_app]
  have nd : (p ++ a :: b :: s).Nodup := by rw [← e]; exact h.ndk k
  have nd2 := (List.nodup_append.mp nd).2.1
  have hab : a ≠ b := fun z => (List.nodup_cons.mp nd2).1 (by rw [z]; exact List.mem_cons_self)
  have ma : a ∈ S.a := (h.mem k).mp (by rw [e]; simp)
  have mb : b ∈ S.a := (h.mem k).mp (by rw [e]; simp)
  obtain ⟨o1, o2⟩ := oth_perm h k
  rw [sil_at e, e2, sil_at (get_set k _), oth_set]
  rw [bf_tot (o1.mem_iff.mpr ma) (o1.mem_iff.mpr mb) hab, bf_tot (o2.mem_iff.mpr ma) (o2.mem_iff.mpr mb) hab]
  cases bf (S.oth k).1 a b <;> cases bf (S.oth k).2 a b <;> rfl
/-- the settled state -/
def homes (S : S3) : S3 := ⟨hm S.rd S.a, hm S.rd S.b, hm S.rd S.c⟩
theorem homes_ok {S : S3} (h : S.ok) : S.homes.ok :=
  ⟨(hm_perm _ _).nodup_iff.mpr h.nd, ((hm_perm _ _).trans h.pb).trans (hm_perm _ _).symm, ((hm_perm _ _).trans h.pc).trans (hm_perm _ _).symm⟩
theorem homes_mem {S : S3} {x : Int} : x ∈ S.homes.a ↔ x ∈ S.a := hm_mem
/-- homing any of the three keeps the reading -/
theorem rd_keep {S U : S3} (h : S.ok) (u : U.ok) (hk : ∀ x, x ∈ U.a ↔ x ∈ S.a) (q : ∀ k, ∀ x ∈ S.a, ∀ y ∈ S.a, S.rd x y = true → bf (S.get k) x y = true → bf (U.get k) x y = true) :
    ∀ x ∈ S.a, ∀ y ∈ S.a, U.rd x y = S.rd x y := by
  have pos : ∀ x ∈ S.a, ∀ y ∈ S.a, S.rd x y = true → U.rd x y = true := fun x hx y hy t => by
    have q0 := q 0 x hx y hy t
    have q1 := q 1 x hx y hy t
    have q2 := q 2 x hx y hy t
    have q0 : bf S.a x y = true → bf U.a x y = true := q0
    have q1 : bf S.b x y = true → bf U.b x y = true := q1
    have q2 : bf S.c x y = true → bf U.c x y = true := q2
    unfold rd at t ⊢
    cases ea : bf S.a x y <;> cases eb : bf S.b x y <;> cases ec : bf S.c x y <;> simp_all
  intro x hx y hy
  cases t : S.rd x y with
  | true => exact pos x hx y hy t
  | false =>
    by_cases e : x = y
    · rw [e, rd_irr]
    · have t2 : S.rd y x = true := by rw [rd_tot h hx hy e, t]; rfl
      exact rd_asy U _ _ (pos y hy x hx t2)
theorem homes_rd {S : S3} (h : S.ok) : ∀ x ∈ S.a, ∀ y ∈ S.a, S.homes.rd x y = S.rd x y := by
  refine rd_keep h (homes_ok h) (fun x => homes_mem) fun k x hx y hy t b => ?_
  have e : S.homes.get k = hm S.rd (S.get k) := by rcases k with _ | _ | k <;> rfl
  rw [e]
  exact hm_bf (rd_asy S) (h.ndk k) ((h.mem k).mpr hx) ((h.mem k).mpr hy) t b
theorem homes_eq {S U : S3} (h : S.ok) (u : U.ok) (hk : ∀ x, x ∈ U.a ↔ x ∈ S.a) (r : ∀ x ∈ S.a, ∀ y ∈ S.a, U.rd x y = S.rd x y) (e : ∀ k, hm S.rd (U.get k) = hm S.rd (S.get k)) : U.homes = S.homes := by
  have c : ∀ k, hm U.rd (U.get k) = hm S.rd (S.get k) := fun k => by
    rw [← e k]
    exact hm_congr fun x hx y hy => r x ((hk x).mp ((u.mem k).mp hx)) y ((hk y).mp ((u.mem k).mp hy))
  have c0 := c 0
  have c1 := c 1
  have c2 := c 2
  unfold homes
  rw [show hm U.rd U.a = hm S.rd S.a from c0, show hm U.rd U.b = hm S.rd S.b from c1, show hm U.rd U.c = hm S.rd S.c from c2]
theorem homes_homes {S : S3} (h : S.ok) : S.homes.homes = S.homes := by
  refine homes_eq h (homes_ok h) (fun x => homes_mem) (homes_rd h) fun k => ?_
  have e : S.homes.get k = hm S.rd (S.get k) := by rcases k with _ | _ | k <;> rfl
  rw [e]
  exact stl_hm (hm_stl (rd_asy S) _)
theorem get_set_ne {S : S3} {k j : Nat} (l : List Int) (hk : k < 3) (hj : j < 3) (ne : j ≠ k) : (S.set k l).get j = S.get j := by
  match k, j, hk, hj, ne with
  | 0, 0, _, _, h => exact absurd rfl h
  | 0, 1, _, _, _ => rfl
  | 0, 2, _, _, _ => rfl
  | 1, 0, _, _, _ => rfl
  | 1, 1, _, _, h => exact absurd rfl h
  | 1, 2, _, _, _ => rfl
  | 2, 0, _, _, _ => rfl
  | 2, 1, _, _, _ => rfl
  | 2, 2, _, _, h => exact absurd rfl h
/-- a silent exchange leads to the same settled state -/
theorem sil_homes {S : S3} (h : S.ok) {k i : Nat} (hi : i + 1 < (S.get k).length) (hs : S.sil k i = true) : (S.set k (exch (S.get k) i)).homes = S.homes := by
  have r := (sil_rd h hi).mpr hs
  have p := exch_perm hi
  have u := h.set p
  have hk : ∀ x, x ∈ (S.set k (exch (S.get k) i)).a ↔ x ∈ S.a := fun x => set_mem p
  obtain ⟨p1, a, b, s, e, hp, _, _⟩ := split_at hi
  subst hp
  have e2 : exch (S.get k) p1.length = p1 ++ b :: a :: s := by rw [e, exch_app]
  have nd : (p1 ++ a :: b :: s).Nodup := by rw [← e]; exact h.ndk k
  have nd2 := (List.nodup_append.mp nd).2.1
  have hab : a ≠ b := fun z => (List.nodup_cons.mp nd2).1 (by rw [z]; exact List.mem_cons_self)
  have ma : a ∈ S.a := (h.mem k).mp (by rw [e]; simp)
  have mb : b ∈ S.a := (h.mem k).mp (by rw [e]; simp)
  have main : hm S.rd (p1 ++ b :: a :: s) = hm S.rd (p1 ++ a :: b :: s) := by
    cases t : S.rd b a with
    | true => exact (hm_step h e t).symm
    | false =>
      have t2 : S.rd a b = true := by rw [rd_tot h mb ma (Ne.symm hab), t]; rfl
      have t3 : (S.set k (exch (S.get k) p1.length)).rd a b = true := by rw [r a ma b mb]; exact t2
      have z := hm_step (S := S.set k (exch (S.get k) p1.length)) u (k := k) (p := p1) (s := s) (a := b) (b := a) (by rw [get_set, e2]) t3
      have cg : ∀ l : List Int, (∀ x ∈ l, x ∈ S.a) → hm (S.set k (exch (S.get k) p1.length)).rd l = hm S.rd l := fun l hl => hm_congr fun x hx y hy => r x (hl x hx) y (hl y hy)
      rw [cg _ (fun x hx => ?_), cg _ (fun x hx => ?_)] at z
      · exact z
      · exact (h.mem k).mp (by rw [e]; exact hx)
      · exact (h.mem k).mp (p.mem_iff.mp (by rw [e2]; exact hx))
  refine homes_eq h u hk r fun j => ?_
  by_cases jk : (S.set k (exch (S.get k) p1.length)).get j = S.get j
  · rw [jk]
  · have ej : (S.set k (exch (S.get k) p1.length)).get j = exch (S.get k) p1.length ∧ S.get j = S.get k := by
      rcases k with _ | _ | k <;> rcases j with _ | _ | j
      · exact ⟨rfl, rfl⟩
      · exact absurd rfl jk
      · exact absurd rfl jk
      · exact absurd rfl jk
      · exact ⟨rfl, rfl⟩
      · exact absurd rfl jk
      · exact absurd rfl jk
      · exact absurd rfl jk
      · exact ⟨rfl, rfl⟩
    rw [ej.1, ej.2, e2, main, e]
end S3
/-! ### going home step by step -/
/-- a list of a state that is read by T -/
def Gd (T : Int → Int → Bool) (l : List Int) : Prop := ∃ (S : S3) (k : Nat), S.ok ∧ S.get k = l ∧ ∀ x ∈ l, ∀ y ∈ l, S.rd x y = T x y
theorem Gd.of {S : S3} (h : S.ok) (k : Nat) {T : Int → Int → Bool} (r : ∀ x ∈ S.a, ∀ y ∈ S.a, S.rd x y = T x y) : Gd T (S.get k) :=
  ⟨S, k, h, rfl, fun x hx y hy => r x ((h.mem k).mp hx) y ((h.mem k).mp hy)⟩
theorem Gd.nd {T : Int → Int → Bool} {l : List Int} (g : Gd T l) : l.Nodup := by
  obtain ⟨S, k, h, e, _⟩ := g
  rw [← e]
  exact h.ndk k
theorem Gd.asy {T : Int → Int → Bool} {l : List Int} (g : Gd T l) {x y : Int} (hx : x ∈ l) (hy : y ∈ l) (t : T x y = true) : T y x = false := by
  obtain ⟨S, k, h, e, r⟩ := g
  rw [← r x hx y hy] at t
  rw [← r y hy x hx]
  exact S3.rd_asy S _ _ t
theorem Gd.tot {T : Int → Int → Bool} {l : List Int} (g : Gd T l) {x y : Int} (hx : x ∈ l) (hy : y ∈ l) (ne : x ≠ y) : T y x = !T x y := by
  obtain ⟨S, k, h, e, r⟩ := g
  rw [← r x hx y hy, ← r y hy x hx]
  exact S3.rd_tot h ((h.mem k).mp (by rw [e]; exact hx)) ((h.mem k).mp (by rw [e]; exact hy)) ne
theorem Gd.step {T : Int → Int → Bool} {l : List Int} (g : Gd T l) {i : Nat} (hi : i + 1 < l.length) (t : ∀ a b, l[i]? = some a → l[i + 1]? = some b → T b a = true) : Gd T (exch l i) ∧ hm T (exch l i) = hm T l := by
  obtain ⟨S, k, h, e, r⟩ := g
  obtain ⟨p, a, b, s, e1, hp, g1, g2⟩ := split_at hi
  subst hp
  have t1 := t a b g1 g2
  have e2 : exch l p.length = p ++ b :: a :: s := by rw [e1, exch_app]
  have ma : a ∈ l := by rw [e1]; simp
  have mb : b ∈ l := by rw [e1]; simp
  have ek : S.get k = p ++ a :: b :: s := by rw [e, e1]
  have nd : (p ++ a :: b :: s).Nodup := by rw [← ek]; exact h.ndk k
  have t2 : S.rd b a = true := by rw [r b mb a ma]; exact t1
  have cg : ∀ m : List Int, (∀ x ∈ m, x ∈ l) → hm S.rd m = hm T m := fun m hl => hm_congr fun x hx y hy => r x (hl x hx) y (hl y hy)
  have pm := exch_perm hi
  have z := S3.hm_step h ek t2
  rw [← e1, ← e2, cg l (fun _ hx => hx), cg _ (fun x hx => pm.mem_iff.mp hx)] at z
  have hik : p.length + 1 < (S.get k).length := by rw [e]; exact hi
  have sl : S.sil k p.length = true := by
    rw [S3.sil_at ek]
    obtain ⟨_, q2⟩ := S3.rd_set_pair nd ek
    have q3 := S3.rd_asy S _ _ t2
    rw [q2] at q3
    revert q3
    cases bf (S.oth k).1 a b <;> cases bf (S.oth k).2 a b <;> decide
  have r2 := (S3.sil_rd h hik).mpr sl
  refine ⟨⟨S.set k (exch l p.length), k, ?_, S3.get_set k _, fun x hx y hy => ?_⟩, z.symm⟩
  · rw [← e]
    exact h.set (exch_perm hik)
  · have hx2 := pm.mem_iff.mp hx
    have hy2 := pm.mem_iff.mp hy
    rw [← r x hx2 y hy2, ← e]
    exact r2 x ((h.mem k).mp (by rw [e]; exact hx2)) y ((h.mem k).mp (by rw [e]; exact hy2))
/-- the number of neighbours and others that stand otherwise than they are read -/
def ds (T : Int → Int → Bool) : List Int → Nat
  | [] => 0
  | a :: s => s.countP (fun y => T y a) + ds T s
theorem ds_swap {T : Int → Int → Bool} {a b : Int} {s : List Int} (t : T b a = true) (u : T a b = false) : ∀ p : List Int, ds T (p ++ b :: a :: s) + 1 = ds T (p ++ a :: b :: s)
  | [] => by
    show (a :: s).countP (fun y => T y b) + (s.countP (fun y => T y a) + ds T s) + 1 = (b :: s).countP (fun y => T y a) + (s.countP (fun y => T y b) + ds T s)
    rw [List.countP_cons_of_neg (p := fun y => T y b) (by rw [u]; decide), List.countP_cons_of_pos (p := fun y => T y a) t]
    omega
  | x :: p => by
    have ih := ds_swap t u p (s := s)
    show (p ++ b :: a :: s).countP (fun y => T y x) + ds T (p ++ b :: a :: s) + 1 = (p ++ a :: b :: s).countP (fun y => T y x) + ds T (p ++ a :: b :: s)
    have e : (p ++ b :: a :: s).countP (fun y => T y x) = (p ++ a :: b :: s).countP (fun y => T y x) := (List.Perm.append_left p (List.Perm.swap a b s)).countP_eq _
    omega
theorem ds_step {T : Int → Int → Bool} {l : List Int} (g : Gd T l) {i : Nat} (hi : i + 1 < l.length) (t : ∀ a b, l[i]? = some a → l[i + 1]? = some b → T b a = true) : ds T (exch l i) + 1 = ds T l := by
  obtain ⟨p, a, b, s, e1, hp, g1, g2⟩ := split_at hi
  subst hp
  have t1 := t a b g1 g2
  have ma : a ∈ l := by rw [e1]; simp
  have mb : b ∈ l := by rw [e1]; simp
  have u := g.asy mb ma t1
  rw [e1, exch_app]
  exact ds_swap t1 u p
theorem ds_le (T : Int → Int → Bool) : ∀ l : List Int, 2 * ds T l + l.length ≤ l.length * l.length
  | [] => Nat.le_refl _
  | a :: s => by
    have ih := ds_le T s
    have h : s.countP (fun y => T y a) ≤ s.length := List.countP_le_length
    show 2 * (s.countP (fun y => T y a) + ds T s) + (s.length + 1) ≤ (s.length + 1) * (s.length + 1)
    have e : (s.length + 1) * (s.length + 1) = s.length * s.length + s.length + (s.length + 1) := by rw [Nat.add_mul, Nat.mul_add, Nat.mul_one, Nat.one_mul]
    omega
/-! ### sorted keys, the merge as a list of pairs -/
def srt (l : List Int) : List Int := l.mergeSort fun a b => decide (a ≤ b)
theorem srt_perm (l : List Int) : (srt l).Perm l := List.mergeSort_perm l _
theorem srt_sorted (l : List Int) : (srt l).Pairwise (· ≤ ·) := by
  have h := List.pairwise_mergeSort (le := fun a b : Int => decide (a ≤ b)) (fun a b c h1 h2 => by
    have h1 := of_decide_eq_true h1
    have h2 := of_decide_eq_true h2
    exact decide_eq_true (by omega)) (fun a b => by
    by_cases h : a ≤ b
    · simp [h]
    · have h2 : b ≤ a := by omega
      simp [h2]) l
  exact h.imp fun z => of_decide_eq_true z
theorem sorted_uniq {l m : List Int} (p : l.Perm m) (h1 : l.Pairwise (· ≤ ·)) (h2 : m.Pairwise (· ≤ ·)) : l = m :=
  List.Perm.eq_of_pairwise (le := (· ≤ ·)) (fun a b _ _ x y => Int.le_antisymm x y) h1 h2 p
theorem srt_of {l m : List Int} (p : m.Perm l) (h : m.Pairwise (· ≤ ·)) : m = srt l := sorted_uniq (p.trans (srt_perm l).symm) h (srt_sorted l)
theorem srt_congr {l m : List Int} (p : l.Perm m) : srt l = srt m := srt_of ((srt_perm l).trans p) (srt_sorted l)
theorem srt_mem {l : List Int} {x : Int} : x ∈ srt l ↔ x ∈ l := (srt_perm l).mem_iff
theorem srt_nodup {l : List Int} (h : l.Nodup) : (srt l).Nodup := (srt_perm l).nodup_iff.mpr h
/-- all pairs of the keys that T says, by the first, then by the second -/
def prs (T : Int → Int → Bool) (ks : List Int) : List (Int × Int) := ks.flatMap fun x => (ks.filter (T x)).map fun y => (x, y)
theorem mem_prs {T : Int → Int → Bool} {ks : List Int} {x y : Int} : (x, y) ∈ prs T ks ↔ x ∈ ks ∧ y ∈ ks ∧ T x y = true := by
  unfold prs
  rw [List.mem_flatMap]
  constructor
  · rintro ⟨a, ha, h⟩
    rw [List.mem_map] at h
    obtain ⟨b, hb, e⟩ := h
    rw [List.mem_filter] at hb
    have e1 : a = x := congrArg Prod.fst e
    have e2 : b = y := congrArg Prod.snd e
    rw [← e1, ← e2]
    exact ⟨ha, hb.1, hb.2⟩
  · rintro ⟨h1, h2, h3⟩
    exact ⟨x, h1, List.mem_map.mpr ⟨y, List.mem_filter.mpr ⟨h2, h3⟩, rfl⟩⟩
theorem prs_congr {T U : Int → Int → Bool} {ks : List Int} (h : ∀ x ∈ ks, ∀ y ∈ ks, T x y = U x y) : prs T ks = prs U ks := by
  unfold prs
  have go : ∀ l : List Int, (∀ x ∈ l, x ∈ ks) → (l.flatMap fun x => (ks.filter (T x)).map fun y => (x, y)) = l.flatMap fun x => (ks.filter (U x)).map fun y => (x, y) := by
    intro l
    induction l with
    | nil => intro _; rfl
    | cons a r ih =>
      intro hl
      rw [List.flatMap_cons, List.flatMap_cons, ih fun x hx => hl x (List.mem_cons_of_mem _ hx), List.filter_congr fun y hy => h a (hl a List.mem_cons_self) y hy]
  exact go ks fun _ hx => hx
theorem prs_iff {T U : Int → Int → Bool} {ks : List Int} : prs T ks = prs U ks ↔ ∀ x ∈ ks, ∀ y ∈ ks, T x y = U x y := by
  constructor
  · intro h x hx y hy
    have q : (x, y) ∈ prs T ks ↔ (x, y) ∈ prs U ks := by rw [h]
    rw [mem_prs, mem_prs] at q
    cases e1 : T x y <;> cases e2 : U x y
    · rfl
    · have z := (q.mpr ⟨hx, hy, e2⟩).2.2
      rw [e1] at z
      cases z
    · have z := (q.mp ⟨hx, hy, e1⟩).2.2
      rw [e2] at z
      cases z
    · rfl
  · exact prs_congr
theorem prs_len (T : Int → Int → Bool) (ks : List Int) : (prs T ks).length ≤ ks.length * ks.length := by
  unfold prs
  rw [List.length_flatMap]
  have h : ∀ l : List Int, (l.map fun x => ((ks.filter (T x)).map fun y => (x, y)).length).sum ≤ l.length * ks.length := by
    intro l
    induction l with
    | nil => simp
    | cons a r ih =>
      rw [List.map_cons, List.sum_cons, List.length_cons, Nat.add_mul, Nat.one_mul]
      have h1 : ((ks.filter (T a)).map fun y => (a, y)).length ≤ ks.length := by
        rw [List.length_map]
        exact List.length_filter_le _ _
      omega
  exact h ks
theorem prs_nodup {T : Int → Int → Bool} {ks : List Int} (h : ks.Nodup) : (prs T ks).Nodup := by
  unfold prs
  have go : ∀ l : List Int, l.Nodup → (l.flatMap fun x => (ks.filter (T x)).map fun y => (x, y)).Nodup := by
    intro l
    induction l with
    | nil => intro _; exact List.nodup_nil
    | cons a r ih =>
      intro nd
      have nd := List.nodup_cons.mp nd
      rw [List.flatMap_cons]
      refine List.nodup_append.mpr ⟨?_, ih nd.2, ?_⟩
      · have n2 : (ks.filter (T a)).Nodup := h.filter _
        generalize ks.filter (T a) = m at n2
        induction m with
        | nil => exact List.nodup_nil
        | cons b m ih2 =>
          have n3 := List.nodup_cons.mp n2
          rw [List.map_cons]
          refine List.nodup_cons.mpr ⟨fun hm => ?_, ih2 n3.2⟩
          obtain ⟨c, hc, e⟩ := List.mem_map.mp hm
          have e2 : c = b := congrArg Prod.snd e
          rw [e2] at hc
          exact n3.1 hc
      · intro p hp q hq e
        obtain ⟨b, _, e1⟩ := List.mem_map.mp hp
        obtain ⟨c, hc, h2⟩ := List.mem_flatMap.mp hq
        obtain ⟨d, _, e3⟩ := List.mem_map.mp h2
        have e4 : a = c := by
          have z := congrArg Prod.fst ((e1.trans e).trans e3.symm)
          exact z
        rw [← e4] at hc
        exact nd.1 hc
  exact go ks h
/-! ### the law's rows: old, mine, yours -/
namespace S3
/-- the state of the rows -/
def inn (R : S3) : S3 := ⟨R.a.reverse, R.b, R.c⟩
theorem inn_inn (R : S3) : R.inn.inn = R := by
  unfold inn
  rw [List.reverse_reverse]
theorem inn_ok {R : S3} (h : R.ok) : R.inn.ok :=
  ⟨(List.reverse_perm _).nodup_iff.mpr h.nd, h.pb.trans (List.reverse_perm _).symm, h.pc.trans (List.reverse_perm _).symm⟩
theorem inn_mem {R : S3} {x : Int} : x ∈ R.inn.a ↔ x ∈ R.a := List.mem_reverse
/-- the law's merge of two keys -/
def wins (R : S3) (x y : Int) : Bool := if bf R.a x y = true then bf R.b x y && bf R.c x y else bf R.b x y || bf R.c x y
theorem wins_rd {R : S3} (h : R.ok) {x y : Int} (hx : x ∈ R.a) (hy : y ∈ R.a) : R.wins x y = R.inn.rd x y := by
  unfold wins rd
  show _ = ((bf R.a.reverse x y && bf R.b x y) || (bf R.a.reverse x y && bf R.c x y) || (bf R.b x y && bf R.c x y))
  rw [bf_rev h.nd hx hy]
  by_cases e : x = y
  · rw [e, bf_irr, bf_irr, bf_irr]
    rfl
  · rw [bf_tot hx hy e]
    cases bf R.a x y <;> cases bf R.b x y <;> cases bf R.c x y <;> rfl
def mrg (R : S3) : List (Int × Int) := prs R.wins (srt R.a)
def mrgS (S : S3) : List (Int × Int) := prs S.rd (srt S.a)
theorem mrg_inn {R : S3} (h : R.ok) : R.mrg = R.inn.mrgS := by
  unfold mrg mrgS
  have e : srt R.inn.a = srt R.a := srt_congr (List.reverse_perm _)
  rw [e]
  exact prs_congr fun x hx y hy => wins_rd h (srt_mem.mp hx) (srt_mem.mp hy)
/-- the rows behind an exchange -/
def aft (R : S3) (k i : Nat) : S3 := R.set k (exch (R.get k) i)
/-- the index in the state -/
def mir (R : S3) (k i : Nat) : Nat := if k = 0 then R.a.length - 2 - i else i
theorem aft_ok {R : S3} (h : R.ok) {k i : Nat} (hi : i + 1 < R.a.length) : (R.aft k i).ok := h.set (exch_perm (by rw [h.len k]; exact hi))
theorem aft_len {R : S3} (h : R.ok) {k i : Nat} (hi : i + 1 < R.a.length) : (R.aft k i).a.length = R.a.length := by
  rcases k with _ | _ | k
  · exact exch_len hi
  · rfl
  · rfl
theorem exch_rev {l : List Int} {i : Nat} (hi : i + 1 < l.length) : (exch l i).reverse = exch l.reverse (l.length - 2 - i) := by
  obtain ⟨p, a, b, s, e, hp, _, _⟩ := split_at hi
  subst hp
  rw [e, exch_app]
  have e1 : (p ++ a :: b :: s).reverse = s.reverse ++ b :: a :: p.reverse := by simp
  have e2 : (p ++ b :: a :: s).reverse = s.reverse ++ a :: b :: p.reverse := by simp
  have e3 : (p ++ a :: b :: s).length - 2 - p.length = s.reverse.length := by
    simp
    omega
  rw [e1, e2, e3, exch_app]
theorem mir_lt {R : S3} (h : R.ok) {k i : Nat} (hi : i + 1 < R.a.length) : R.mir k i + 1 < (R.inn.get k).length := by
  rw [(inn_ok h).len k]
  show R.mir k i + 1 < R.a.reverse.length
  rw [List.length_reverse]
  unfold mir
  split <;> omega
theorem inn_aft {R : S3} {k i : Nat} (hi : i + 1 < R.a.length) : (R.aft k i).inn = R.inn.set k (exch (R.inn.get k) (R.mir k i)) := by
  rcases k with _ | _ | k
  · show (⟨(exch R.a i).reverse, R.b, R.c⟩ : S3) = ⟨exch R.a.reverse (R.a.length - 2 - i), R.b, R.c⟩
    rw [exch_rev hi]
  · rfl
  · rfl
/-- the law's own test is the program's -/
def silR (R : S3) (k i : Nat) : Bool := R.inn.sil k (R.mir k i)
theorem law_sil {R : S3} (h : R.ok) {k i : Nat} (hi : i + 1 < R.a.length) : ((R.aft k i).mrg = R.mrg) ↔ R.silR k i = true := by
  rw [mrg_inn h, mrg_inn (aft_ok h hi), inn_aft hi]
  unfold mrgS silR
  have hl := mir_lt h (k := k) hi
  have hs : srt (R.inn.set k (exch (R.inn.get k) (R.mir k i))).a = srt R.inn.a := by
    have pk := exch_perm hl
    have ok2 := (inn_ok h).set pk
    rcases k with _ | _ | k
    · exact srt_congr pk
    · rfl
    · rfl
  rw [hs, prs_iff, ← sil_rd (inn_ok h) hl]
  constructor
  · intro q x hx y hy
    exact q x (srt_mem.mpr hx) y (srt_mem.mpr hy)
  · intro q x hx y hy
    exact q x (srt_mem.mp hx) y (srt_mem.mp hy)
/-- the silent edits, by side, then by index -/
def silL (R : S3) : List (Nat × Nat) := (List.range 3).flatMap fun k => ((List.range (R.a.length - 1)).filter fun i => R.silR k i).map fun i => (k, i)
theorem mem_silL {R : S3} {k i : Nat} : (k, i) ∈ R.silL ↔ k < 3 ∧ i + 1 < R.a.length ∧ R.silR k i = true := by
  unfold silL
  rw [List.mem_flatMap]
  constructor
  · rintro ⟨a, ha, h⟩
    obtain ⟨b, hb, e⟩ := List.mem_map.mp h
    have e1 : a = k := congrArg Prod.fst e
    have e2 : b = i := congrArg Prod.snd e
    rw [e1] at ha hb
    rw [e2] at hb
    obtain ⟨h1, h2⟩ := List.mem_filter.mp hb
    exact ⟨List.mem_range.mp ha, by have := List.mem_range.mp h1; omega, h2⟩
  · rintro ⟨h1, h2, h3⟩
    exact ⟨k, List.mem_range.mpr h1, List.mem_map.mpr ⟨i, List.mem_filter.mpr ⟨List.mem_range.mpr (by omega), h3⟩, rfl⟩⟩
/-- the settled rows -/
def hms (R : S3) : S3 := R.inn.homes.inn
theorem hms_inn (R : S3) : R.hms.inn = R.inn.homes := inn_inn _
theorem hms_ok {R : S3} (h : R.ok) : R.hms.ok := inn_ok (homes_ok (inn_ok h))
theorem hms_perm {R : S3} : R.hms.a.Perm R.a := (List.reverse_perm _).trans ((hm_perm _ _).trans (List.reverse_perm _))
theorem hms_hms {R : S3} (h : R.ok) : R.hms.hms = R.hms := by
  show R.hms.inn.homes.inn = R.inn.homes.inn
  rw [hms_inn, homes_homes (inn_ok h)]
theorem hms_mrg {R : S3} (h : R.ok) : R.hms.inn.mrgS = R.mrg := by
  rw [mrg_inn h, hms_inn]
  unfold mrgS
  have e : srt R.inn.homes.a = srt R.inn.a := srt_congr (hm_perm _ _)
  rw [e]
  exact prs_congr fun x hx y hy => homes_rd (inn_ok h) x (srt_mem.mp hx) y (srt_mem.mp hy)
/-- a silent edit, taken, keeps the settled rows; taken back it is silent and leads back -/
theorem aft_hms {R : S3} (h : R.ok) {k i : Nat} (hi : i + 1 < R.a.length) (hs : R.silR k i = true) : (R.aft k i).hms = R.hms := by
  show (R.aft k i).inn.homes.inn = R.inn.homes.inn
  rw [inn_aft hi, sil_homes (inn_ok h) (mir_lt h hi) hs]
theorem aft_mir {R : S3} (h : R.ok) {k i : Nat} (hi : i + 1 < R.a.length) : (R.aft k i).mir k i = R.mir k i := by
  unfold mir
  rw [aft_len h hi]
theorem aft_sil {R : S3} (h : R.ok) {k i : Nat} (hi : i + 1 < R.a.length) : (R.aft k i).silR k i = R.silR k i := by
  unfold silR
  rw [aft_mir h hi, inn_aft hi, sil_back (inn_ok h) (mir_lt h hi)]
theorem aft_aft {R : S3} (h : R.ok) {k i : Nat} (hi : i + 1 < R.a.length) : (R.aft k i).aft k i = R := by
  unfold aft
  rw [get_set, set_set, exch_exch (by rw [h.len k]; exact hi), set_get]
/-- neighbours of the settled lists stand as they are merged -/
theorem hms_nb {R : S3} (h : R.ok) {k i : Nat} {x y : Int} (h1 : (R.inn.homes.get k)[i]? = some x) (h2 : (R.inn.homes.get k)[i + 1]? = some y) : R.wins x y = true := by
  have hk := (homes_ok (inn_ok h)).ndk k
  have e : R.inn.homes.get k = hm R.inn.rd (R.inn.get k) := by rcases k with _ | _ | k <;> rfl
  have mx : x ∈ R.inn.a := by
    have := List.mem_of_getElem? h1
    rw [e] at this
    exact ((inn_ok h).mem k).mp (hm_mem.mp this)
  have my : y ∈ R.inn.a := by
    have := List.mem_of_getElem? h2
    rw [e] at this
    exact ((inn_ok h).mem k).mp (hm_mem.mp this)
  have ne : x ≠ y := fun z => by
    have i1 := idx_of_get hk h1
    have i2 := idx_of_get hk h2
    rw [z] at i1
    omega
  have t : R.inn.rd y x = false := by
    rw [e] at h1 h2
    exact stl_at (hm_stl (rd_asy _) _) h1 h2
  rw [wins_rd h (inn_mem.mp mx) (inn_mem.mp my)]
  rw [rd_tot (inn_ok h) mx my ne] at t
  simpa using t
end S3
end K38
end
section
set_option Elab.async false
set_option linter.all false
set_option maxRecDepth 100000
set_option maxHeartbeats 0
/-! The text's defs, by places; their facts behind the top; the head's run. Printed by gen_top.py. -/
namespace K38
open PySem PySem.Spec PyProof.Rows L2
/-! ### the text by places -/
def topS (i : Nat) : Stmt := PySem.Challenge.pw_quorumdrift_k38_whole_silent_edits.main.body.getD i (.Pass ⟨0, 0, 0, 0⟩)
abbrev s_check_replica : Stmt := topS 16
abbrev s_check_replicas : Stmt := topS 17
abbrev s_first_wrong_place : Stmt := topS 18
abbrev s_check_list : Stmt := topS 19
abbrev s_index_of : Stmt := topS 20
abbrev s_swap_at : Stmt := topS 21
abbrev s_require_key : Stmt := topS 25
abbrev s_wrong_replica : Stmt := topS 26
abbrev s_State_init : Stmt := inClass (topS 28) 1
abbrev s_State_list_of : Stmt := inClass (topS 28) 5
abbrev s_State_lists : Stmt := inClass (topS 28) 6
abbrev s_State_all_keys : Stmt := inClass (topS 28) 7
abbrev s_State_says : Stmt := inClass (topS 28) 8
abbrev s_State_with_list : Stmt := inClass (topS 28) 10
abbrev s_State_eq : Stmt := inClass (topS 28) 12
abbrev s_State_len : Stmt := inClass (topS 28) 13
abbrev s_first_wrong_pair : Stmt := topS 30
abbrev s_Reading_init : Stmt := inClass (topS 31) 0
abbrev s_Reading_pairs : Stmt := inClass (topS 31) 3
abbrev s_read : Stmt := topS 32
abbrev s_before_dict : Stmt := topS 33
abbrev s_is_swap : Stmt := topS 35
abbrev s_swap_pair : Stmt := topS 36
abbrev s_is_silent : Stmt := topS 37
abbrev s_other_replicas : Stmt := topS 38
abbrev s_swapped_state : Stmt := topS 39
abbrev s_apply_swap : Stmt := topS 40
abbrev s_home_list : Stmt := topS 42
abbrev s_settle : Stmt := topS 43
abbrev s_check_side : Stmt := topS 46
abbrev s_three_of : Stmt := topS 47
abbrev s_ThreeWay_init : Stmt := inClass (topS 48) 0
abbrev s_ThreeWay_eq : Stmt := inClass (topS 48) 1
abbrev s_ThreeWay_side : Stmt := inClass (topS 48) 2
abbrev s_ThreeWay_state : Stmt := inClass (topS 48) 3
abbrev s_ThreeWay_merged : Stmt := inClass (topS 48) 4
abbrev s_ThreeWay_mirrored : Stmt := inClass (topS 48) 8
abbrev s_ThreeWay_silent_edits : Stmt := inClass (topS 48) 9
abbrev s_ThreeWay_edit : Stmt := inClass (topS 48) 10
abbrev s_ThreeWay_settled : Stmt := inClass (topS 48) 11
abbrev s_law_box : Stmt := topS 50
abbrev s_law_take : Stmt := topS 51
abbrev s_law_keys : Stmt := topS 52
abbrev s_law_order : Stmt := topS 53
abbrev s_law_exchanged : Stmt := topS 54
abbrev s_law_after : Stmt := topS 55
abbrev s_law_places : Stmt := topS 56
abbrev s_law_wins : Stmt := topS 57
abbrev s_law_merge : Stmt := topS 58
abbrev s_law_walked : Stmt := topS 59
abbrev s_law_put : Stmt := topS 60
abbrev s_law_ring : Stmt := topS 61
abbrev s_law_parties : Stmt := topS 62
abbrev s_law_blocks : Stmt := topS 63
abbrev s_law_three : Stmt := topS 64
abbrev s_law_build : Stmt := topS 65
abbrev s_law_is : Stmt := topS 66
abbrev s_law_shown : Stmt := topS 67
abbrev s_law_silent : Stmt := topS 68
abbrev s_law_home : Stmt := topS 69
abbrev s_law_homes : Stmt := topS 70
abbrev s_law_edited : Stmt := topS 71
abbrev s_law_edits_hold : Stmt := topS 72
abbrev s_law_told_hold : Stmt := topS 73
abbrev s_law_sides_refused : Stmt := topS 74
abbrev s_law_settled_holds : Stmt := topS 75
abbrev s_law_walk_holds : Stmt := topS 76
abbrev s_law : Stmt := topS 77
/-! ### the scopes: names by slot, the parameters first -/
abbrev n_check_replica : List Str := ["replica"]
theorem c_check_replica : FnScope n_check_replica ["replica"] (defScope s_check_replica) := ⟨rfl, rfl, rfl, by decide +kernel, rfl, by decide +kernel, by decide +kernel⟩
abbrev n_check_replicas : List Str := ["replicas", "replica"]
theorem c_check_replicas : FnScope n_check_replicas ["replicas"] (defScope s_check_replicas) := ⟨rfl, rfl, rfl, by decide +kernel, rfl, by decide +kernel, by decide +kernel⟩
abbrev n_first_wrong_place : List Str := ["order", "seen", "place", "key"]
theorem c_first_wrong_place : FnScope n_first_wrong_place ["order"] (defScope s_first_wrong_place) := ⟨rfl, rfl, rfl, by decide +kernel, rfl, by decide +kernel, by decide +kernel⟩
abbrev n_check_list : List Str := ["order", "place"]
theorem c_check_list : FnScope n_check_list ["order"] (defScope s_check_list) := ⟨rfl, rfl, rfl, by decide +kernel, rfl, by decide +kernel, by decide +kernel⟩
abbrev n_index_of : List Str := ["order", "place", "key"]
theorem c_index_of : FnScope n_index_of ["order"] (defScope s_index_of) := ⟨rfl, rfl, rfl, by decide +kernel, rfl, by decide +kernel, by decide +kernel⟩
abbrev n_swap_at : List Str := ["order", "index", "swapped"]
theorem c_swap_at : FnScope n_swap_at ["order", "index"] (defScope s_swap_at) := ⟨rfl, rfl, rfl, by decide +kernel, rfl, by decide +kernel, by decide +kernel⟩
abbrev n_require_key : List Str := ["keys", "key"]
theorem c_require_key : FnScope n_require_key ["keys", "key"] (defScope s_require_key) := ⟨rfl, rfl, rfl, by decide +kernel, rfl, by decide +kernel, by decide +kernel⟩
abbrev n_wrong_replica : List Str := ["orders", "keys", "replica", "order"]
theorem c_wrong_replica : FnScope n_wrong_replica ["orders"] (defScope s_wrong_replica) := ⟨rfl, rfl, rfl, by decide +kernel, rfl, by decide +kernel, by decide +kernel⟩
abbrev n_State_init : List Str := ["self", "first", "second", "third", "orders", "wrong", "order"]
theorem c_State_init : FnScope n_State_init ["self", "first", "second", "third"] (defScope s_State_init) := ⟨rfl, rfl, rfl, by decide +kernel, rfl, by decide +kernel, by decide +kernel⟩
abbrev n_State_list_of : List Str := ["self", "replica"]
theorem c_State_list_of : FnScope n_State_list_of ["self", "replica"] (defScope s_State_list_of) := ⟨rfl, rfl, rfl, by decide +kernel, rfl, by decide +kernel, by decide +kernel⟩
abbrev n_State_lists : List Str := ["self", "order"]
theorem c_State_lists : FnScope n_State_lists ["self"] (defScope s_State_lists) := ⟨rfl, rfl, rfl, by decide +kernel, rfl, by decide +kernel, by decide +kernel⟩
abbrev n_State_all_keys : List Str := ["self"]
theorem c_State_all_keys : FnScope n_State_all_keys ["self"] (defScope s_State_all_keys) := ⟨rfl, rfl, rfl, by decide +kernel, rfl, by decide +kernel, by decide +kernel⟩
abbrev n_State_says : List Str := ["self", "replica", "x", "y", "place"]
theorem c_State_says : FnScope n_State_says ["self", "replica", "x", "y"] (defScope s_State_says) := ⟨rfl, rfl, rfl, by decide +kernel, rfl, by decide +kernel, by decide +kernel⟩
abbrev n_State_with_list : List Str := ["self", "replica", "order", "orders", "first", "second", "third"]
theorem c_State_with_list : FnScope n_State_with_list ["self", "replica", "order"] (defScope s_State_with_list) := ⟨rfl, rfl, rfl, by decide +kernel, rfl, by decide +kernel, by decide +kernel⟩
abbrev n_State_eq : List Str := ["self", "other"]
theorem c_State_eq : FnScope n_State_eq ["self", "other"] (defScope s_State_eq) := ⟨rfl, rfl, rfl, by decide +kernel, rfl, by decide +kernel, by decide +kernel⟩
abbrev n_State_len : List Str := ["self"]
theorem c_State_len : FnScope n_State_len ["self"] (defScope s_State_len) := ⟨rfl, rfl, rfl, by decide +kernel, rfl, by decide +kernel, by decide +kernel⟩
abbrev n_first_wrong_pair : List Str := ["keys", "pairs", "at", "x", "y"]
theorem c_first_wrong_pair : FnScope n_first_wrong_pair ["keys", "pairs"] (defScope s_first_wrong_pair) := ⟨rfl, rfl, rfl, by decide +kernel, rfl, by decide +kernel, by decide +kernel⟩
abbrev n_Reading_init : List Str := ["self", "all_keys", "pairs", "x", "y", "keys", "before", "wrong"]
theorem c_Reading_init : FnScope n_Reading_init ["self", "all_keys", "pairs"] (defScope s_Reading_init) := ⟨rfl, rfl, rfl, by decide +kernel, rfl, by decide +kernel, by decide +kernel⟩
abbrev n_Reading_pairs : List Str := ["self"]
theorem c_Reading_pairs : FnScope n_Reading_pairs ["self"] (defScope s_Reading_pairs) := ⟨rfl, rfl, rfl, by decide +kernel, rfl, by decide +kernel, by decide +kernel⟩
abbrev n_read : List Str := ["state", "places", "keys", "pairs", "order", "x", "y", "place"]
theorem c_read : FnScope n_read ["state"] (defScope s_read) := ⟨rfl, rfl, rfl, by decide +kernel, rfl, by decide +kernel, by decide +kernel⟩
abbrev n_before_dict : List Str := ["reading", "pair"]
theorem c_before_dict : FnScope n_before_dict ["reading"] (defScope s_before_dict) := ⟨rfl, rfl, rfl, by decide +kernel, rfl, by decide +kernel, by decide +kernel⟩
abbrev n_is_swap : List Str := ["state", "swap", "replica", "index", "last"]
theorem c_is_swap : FnScope n_is_swap ["state", "swap"] (defScope s_is_swap) := ⟨rfl, rfl, rfl, by decide +kernel, rfl, by decide +kernel, by decide +kernel⟩
abbrev n_swap_pair : List Str := ["state", "swap", "replica", "index", "order"]
theorem c_swap_pair : FnScope n_swap_pair ["state", "swap"] (defScope s_swap_pair) := ⟨rfl, rfl, rfl, by decide +kernel, rfl, by decide +kernel, by decide +kernel⟩
abbrev n_is_silent : List Str := ["state", "swap", "x", "y", "first", "second"]
theorem c_is_silent : FnScope n_is_silent ["state", "swap"] (defScope s_is_silent) := ⟨rfl, rfl, rfl, by decide +kernel, rfl, by decide +kernel, by decide +kernel⟩
abbrev n_other_replicas : List Str := ["replica", "other"]
theorem c_other_replicas : FnScope n_other_replicas ["replica"] (defScope s_other_replicas) := ⟨rfl, rfl, rfl, by decide +kernel, rfl, by decide +kernel, by decide +kernel⟩
abbrev n_swapped_state : List Str := ["state", "swap", "replica", "index"]
theorem c_swapped_state : FnScope n_swapped_state ["state", "swap"] (defScope s_swapped_state) := ⟨rfl, rfl, rfl, by decide +kernel, rfl, by decide +kernel, by decide +kernel⟩
abbrev n_apply_swap : List Str := ["state", "swap"]
theorem c_apply_swap : FnScope n_apply_swap ["state", "swap"] (defScope s_apply_swap) := ⟨rfl, rfl, rfl, by decide +kernel, rfl, by decide +kernel, by decide +kernel⟩
abbrev n_home_list : List Str := ["reading", "order", "before", "home", "index"]
theorem c_home_list : FnScope n_home_list ["reading", "order"] (defScope s_home_list) := ⟨rfl, rfl, rfl, by decide +kernel, rfl, by decide +kernel, by decide +kernel⟩
abbrev n_settle : List Str := ["state", "replicas", "chosen", "reading", "settled", "replica", "home"]
theorem c_settle : FnScope n_settle ["state", "replicas"] (defScope s_settle) := ⟨rfl, rfl, rfl, by decide +kernel, rfl, by decide +kernel, by decide +kernel⟩
abbrev n_check_side : List Str := ["name"]
theorem c_check_side : FnScope n_check_side ["name"] (defScope s_check_side) := ⟨rfl, rfl, rfl, by decide +kernel, rfl, by decide +kernel, by decide +kernel⟩
abbrev n_three_of : List Str := ["state"]
theorem c_three_of : FnScope n_three_of ["state"] (defScope s_three_of) := ⟨rfl, rfl, rfl, by decide +kernel, rfl, by decide +kernel, by decide +kernel⟩
abbrev n_ThreeWay_init : List Str := ["self", "old", "mine", "yours"]
theorem c_ThreeWay_init : FnScope n_ThreeWay_init ["self", "old", "mine", "yours"] (defScope s_ThreeWay_init) := ⟨rfl, rfl, rfl, by decide +kernel, rfl, by decide +kernel, by decide +kernel⟩
abbrev n_ThreeWay_eq : List Str := ["self", "other"]
theorem c_ThreeWay_eq : FnScope n_ThreeWay_eq ["self", "other"] (defScope s_ThreeWay_eq) := ⟨rfl, rfl, rfl, by decide +kernel, rfl, by decide +kernel, by decide +kernel⟩
abbrev n_ThreeWay_side : List Str := ["self", "name", "order"]
theorem c_ThreeWay_side : FnScope n_ThreeWay_side ["self", "name"] (defScope s_ThreeWay_side) := ⟨rfl, rfl, rfl, by decide +kernel, rfl, by decide +kernel, by decide +kernel⟩
abbrev n_ThreeWay_state : List Str := ["self"]
theorem c_ThreeWay_state : FnScope n_ThreeWay_state ["self"] (defScope s_ThreeWay_state) := ⟨rfl, rfl, rfl, by decide +kernel, rfl, by decide +kernel, by decide +kernel⟩
abbrev n_ThreeWay_merged : List Str := ["self"]
theorem c_ThreeWay_merged : FnScope n_ThreeWay_merged ["self"] (defScope s_ThreeWay_merged) := ⟨rfl, rfl, rfl, by decide +kernel, rfl, by decide +kernel, by decide +kernel⟩
abbrev n_ThreeWay_mirrored : List Str := ["self", "replica", "index"]
theorem c_ThreeWay_mirrored : FnScope n_ThreeWay_mirrored ["self", "replica", "index"] (defScope s_ThreeWay_mirrored) := ⟨rfl, rfl, rfl, by decide +kernel, rfl, by decide +kernel, by decide +kernel⟩
abbrev n_ThreeWay_silent_edits : List Str := ["self", "found", "replica", "side", "index"]
theorem c_ThreeWay_silent_edits : FnScope n_ThreeWay_silent_edits ["self"] (defScope s_ThreeWay_silent_edits) := ⟨rfl, rfl, rfl, by decide +kernel, rfl, by decide +kernel, by decide +kernel⟩
abbrev n_ThreeWay_edit : List Str := ["self", "side", "index", "replica"]
theorem c_ThreeWay_edit : FnScope n_ThreeWay_edit ["self", "side", "index"] (defScope s_ThreeWay_edit) := ⟨rfl, rfl, rfl, by decide +kernel, rfl, by decide +kernel, by decide +kernel⟩
abbrev n_ThreeWay_settled : List Str := ["self"]
theorem c_ThreeWay_settled : FnScope n_ThreeWay_settled ["self"] (defScope s_ThreeWay_settled) := ⟨rfl, rfl, rfl, by decide +kernel, rfl, by decide +kernel, by decide +kernel⟩
abbrev n_law_box : List Str := ["_law_script"]
theorem c_law_box : FnScope n_law_box ["_law_script"] (defScope s_law_box) := ⟨rfl, rfl, rfl, by decide +kernel, rfl, by decide +kernel, by decide +kernel⟩
abbrev n_law_take : List Str := ["_law_box_here", "_law_size", "_law_rest", "_law_turn", "_law_cells", "_law_cell", "_law_mixed"]
theorem c_law_take : FnScope n_law_take ["_law_box_here", "_law_size"] (defScope s_law_take) := ⟨rfl, rfl, rfl, by decide +kernel, rfl, by decide +kernel, by decide +kernel⟩
abbrev n_law_keys : List Str := ["_law_box_here", "_law_count", "_law_keys_here", "_law_last", "_law_k"]
theorem c_law_keys : FnScope n_law_keys ["_law_box_here", "_law_count"] (defScope s_law_keys) := ⟨rfl, rfl, rfl, by decide +kernel, rfl, by decide +kernel, by decide +kernel⟩
abbrev n_law_order : List Str := ["_law_box_here", "_law_keys_here", "_law_left", "_law_order_here", "_law_k"]
theorem c_law_order : FnScope n_law_order ["_law_box_here", "_law_keys_here"] (defScope s_law_order) := ⟨rfl, rfl, rfl, by decide +kernel, rfl, by decide +kernel, by decide +kernel⟩
abbrev n_law_exchanged : List Str := ["_law_row", "_law_spot"]
theorem c_law_exchanged : FnScope n_law_exchanged ["_law_row", "_law_spot"] (defScope s_law_exchanged) := ⟨rfl, rfl, rfl, by decide +kernel, rfl, by decide +kernel, by decide +kernel⟩
abbrev n_law_after : List Str := ["_law_rows", "_law_which", "_law_spot", "_law_after_here", "_law_row"]
theorem c_law_after : FnScope n_law_after ["_law_rows", "_law_which", "_law_spot"] (defScope s_law_after) := ⟨rfl, rfl, rfl, by decide +kernel, rfl, by decide +kernel, by decide +kernel⟩
abbrev n_law_places : List Str := ["_law_row", "_law_places_here", "_law_k"]
theorem c_law_places : FnScope n_law_places ["_law_row"] (defScope s_law_places) := ⟨rfl, rfl, rfl, by decide +kernel, rfl, by decide +kernel, by decide +kernel⟩
abbrev n_law_wins : List Str := ["_law_maps", "_law_x", "_law_y", "_law_mine", "_law_yours"]
theorem c_law_wins : FnScope n_law_wins ["_law_maps", "_law_x", "_law_y"] (defScope s_law_wins) := ⟨rfl, rfl, rfl, by decide +kernel, rfl, by decide +kernel, by decide +kernel⟩
abbrev n_law_merge : List Str := ["_law_rows", "_law_maps", "_law_keys_here", "_law_pairs", "_law_x", "_law_row", "_law_y"]
theorem c_law_merge : FnScope n_law_merge ["_law_rows"] (defScope s_law_merge) := ⟨rfl, rfl, rfl, by decide +kernel, rfl, by decide +kernel, by decide +kernel⟩
abbrev n_law_walked : List Str := ["_law_box_here", "_law_rows", "_law_steps", "_law_count", "_law_now", "_law_k", "_law_which", "_law_after_here"]
theorem c_law_walked : FnScope n_law_walked ["_law_box_here", "_law_rows", "_law_steps"] (defScope s_law_walked) := ⟨rfl, rfl, rfl, by decide +kernel, rfl, by decide +kernel, by decide +kernel⟩
abbrev n_law_put : List Str := ["_law_box_here", "_law_row", "_law_one", "_law_spot"]
theorem c_law_put : FnScope n_law_put ["_law_box_here", "_law_row", "_law_one"] (defScope s_law_put) := ⟨rfl, rfl, rfl, by decide +kernel, rfl, by decide +kernel, by decide +kernel⟩
abbrev n_law_ring : List Str := ["_law_box_here", "_law_keys_here", "_law_rows", "_law_one", "_law_row"]
theorem c_law_ring : FnScope n_law_ring ["_law_box_here", "_law_keys_here"] (defScope s_law_ring) := ⟨rfl, rfl, rfl, by decide +kernel, rfl, by decide +kernel, by decide +kernel⟩
abbrev n_law_parties : List Str := ["_law_box_here", "_law_keys_here", "_law_rows", "_law_which", "_law_k"]
theorem c_law_parties : FnScope n_law_parties ["_law_box_here", "_law_keys_here"] (defScope s_law_parties) := ⟨rfl, rfl, rfl, by decide +kernel, rfl, by decide +kernel, by decide +kernel⟩
abbrev n_law_blocks : List Str := ["_law_box_here", "_law_keys_here", "_law_cut", "_law_rows", "_law_piece", "_law_made", "_law_k"]
theorem c_law_blocks : FnScope n_law_blocks ["_law_box_here", "_law_keys_here"] (defScope s_law_blocks) := ⟨rfl, rfl, rfl, by decide +kernel, rfl, by decide +kernel, by decide +kernel⟩
abbrev n_law_three : List Str := ["_law_box_here", "_law_ways", "_law_pick", "_law_count", "_law_keys_here", "_law_way", "_law_rows"]
theorem c_law_three : FnScope n_law_three ["_law_box_here", "_law_ways"] (defScope s_law_three) := ⟨rfl, rfl, rfl, by decide +kernel, rfl, by decide +kernel, by decide +kernel⟩
abbrev n_law_build : List Str := ["_law_rows"]
theorem c_law_build : FnScope n_law_build ["_law_rows"] (defScope s_law_build) := ⟨rfl, rfl, rfl, by decide +kernel, rfl, by decide +kernel, by decide +kernel⟩
abbrev n_law_is : List Str := ["_law_got", "_law_due", "_law_k"]
theorem c_law_is : FnScope n_law_is ["_law_got", "_law_due"] (defScope s_law_is) := ⟨rfl, rfl, rfl, by decide +kernel, rfl, by decide +kernel, by decide +kernel⟩
abbrev n_law_shown : List Str := ["_law_three_here"]
theorem c_law_shown : FnScope n_law_shown ["_law_three_here"] (defScope s_law_shown) := ⟨rfl, rfl, rfl, by decide +kernel, rfl, by decide +kernel, by decide +kernel⟩
abbrev n_law_silent : List Str := ["_law_rows", "_law_now", "_law_names", "_law_found", "_law_which", "_law_spot"]
theorem c_law_silent : FnScope n_law_silent ["_law_rows"] (defScope s_law_silent) := ⟨rfl, rfl, rfl, by decide +kernel, rfl, by decide +kernel, by decide +kernel⟩
abbrev n_law_home : List Str := ["_law_maps", "_law_row", "_law_left", "_law_turn", "_law_spots", "_law_k"]
theorem c_law_home : FnScope n_law_home ["_law_maps", "_law_row"] (defScope s_law_home) := ⟨rfl, rfl, rfl, by decide +kernel, rfl, by decide +kernel, by decide +kernel⟩
abbrev n_law_homes : List Str := ["_law_rows", "_law_maps", "_law_first", "_law_row"]
theorem c_law_homes : FnScope n_law_homes ["_law_rows"] (defScope s_law_homes) := ⟨rfl, rfl, rfl, by decide +kernel, rfl, by decide +kernel, by decide +kernel⟩
abbrev n_law_edited : List Str := ["_law_three_here", "_law_party", "_law_spot", "_law_made", "raised", "_law_plain"]
theorem c_law_edited : FnScope n_law_edited ["_law_three_here", "_law_party", "_law_spot"] (defScope s_law_edited) := ⟨rfl, rfl, rfl, by decide +kernel, rfl, by decide +kernel, by decide +kernel⟩
abbrev n_law_edits_hold : List Str := ["_law_three_here", "_law_rows", "_law_silent_here", "_law_names", "_law_which", "_law_spot", "_law_due"]
theorem c_law_edits_hold : FnScope n_law_edits_hold ["_law_three_here", "_law_rows", "_law_silent_here"] (defScope s_law_edits_hold) := ⟨rfl, rfl, rfl, by decide +kernel, rfl, by decide +kernel, by decide +kernel⟩
abbrev n_law_told_hold : List Str := ["_law_three_here", "_law_rows", "_law_silent_here", "_law_told"]
theorem c_law_told_hold : FnScope n_law_told_hold ["_law_three_here", "_law_rows"] (defScope s_law_told_hold) := ⟨rfl, rfl, rfl, by decide +kernel, rfl, by decide +kernel, by decide +kernel⟩
abbrev n_law_sides_refused : List Str := ["_law_box_here", "_law_three_here", "_law_rows", "_law_party", "_law_spot"]
theorem c_law_sides_refused : FnScope n_law_sides_refused ["_law_box_here", "_law_three_here", "_law_rows"] (defScope s_law_sides_refused) := ⟨rfl, rfl, rfl, by decide +kernel, rfl, by decide +kernel, by decide +kernel⟩
abbrev n_law_settled_holds : List Str := ["_law_three_here", "_law_rows", "_law_homes_here", "_law_calm", "_law_inner", "_law_row", "_law_maps", "_law_k"]
theorem c_law_settled_holds : FnScope n_law_settled_holds ["_law_three_here", "_law_rows", "_law_homes_here"] (defScope s_law_settled_holds) := ⟨rfl, rfl, rfl, by decide +kernel, rfl, by decide +kernel, by decide +kernel⟩
abbrev n_law_walk_holds : List Str := ["_law_box_here", "_law_three_here", "_law_rows", "_law_homes_here", "_law_names", "_law_now", "_law_at", "_law_k", "_law_silent_here", "_law_party", "_law_spot", "_law_done"]
theorem c_law_walk_holds : FnScope n_law_walk_holds ["_law_box_here", "_law_three_here", "_law_rows", "_law_homes_here"] (defScope s_law_walk_holds) := ⟨rfl, rfl, rfl, by decide +kernel, rfl, by decide +kernel, by decide +kernel⟩
abbrev n_law : List Str := ["_law_script", "_law_box_here", "_law_rows", "_law_others", "_law_three_here", "_law_beside", "_law_homes_here"]
theorem c_law : FnScope n_law ["_law_script"] (defScope s_law) := ⟨rfl, rfl, rfl, by decide +kernel, rfl, by decide +kernel, by decide +kernel⟩
/-! ### the defs as data -/
/-- the address of a keyword default of the def at p -/
def kwAt (p : Str × Option Str) (x : Str) (K : PySem.W.Frag) : Addr := match K.lookup (He.fAd K p) with
  | some ⟨_, _, .func fd, _⟩ => (match fd.kwdefaults with
    | .ref D => (match PySem.W.nsIn K D x with
      | some (some (.ref a)) => a
      | _ => 0)
    | _ => 0)
  | _ => 0
def d_check_replica : He.DefD := ⟨("check_replica", none), "check_replica", "check_replica", defArgs s_check_replica, defBody s_check_replica, defScope s_check_replica, [], []⟩
def d_check_replicas : He.DefD := ⟨("check_replicas", none), "check_replicas", "check_replicas", defArgs s_check_replicas, defBody s_check_replicas, defScope s_check_replicas, [], []⟩
def d_first_wrong_place : He.DefD := ⟨("first_wrong_place", none), "first_wrong_place", "first_wrong_place", defArgs s_first_wrong_place, defBody s_first_wrong_place, defScope s_first_wrong_place, [], []⟩
def d_check_list : He.DefD := ⟨("check_list", none), "check_list", "check_list", defArgs s_check_list, defBody s_check_list, defScope s_check_list, [], []⟩
def d_index_of : He.DefD := ⟨("index_of", none), "index_of", "index_of", defArgs s_index_of, defBody s_index_of, defScope s_index_of, [], []⟩
def d_swap_at : He.DefD := ⟨("swap_at", none), "swap_at", "swap_at", defArgs s_swap_at, defBody s_swap_at, defScope s_swap_at, [], []⟩
def d_require_key : He.DefD := ⟨("require_key", none), "require_key", "require_key", defArgs s_require_key, defBody s_require_key, defScope s_require_key, [], []⟩
def d_wrong_replica : He.DefD := ⟨("_wrong_replica", none), "_wrong_replica", "_wrong_replica", defArgs s_wrong_replica, defBody s_wrong_replica, defScope s_wrong_replica, [], []⟩
def d_State_init : He.DefD := ⟨("State", some "__init__"), "__init__", "State.__init__", defArgs s_State_init, defBody s_State_init, defScope s_State_init, [], []⟩
def d_State_list_of : He.DefD := ⟨("State", some "list_of"), "list_of", "State.list_of", defArgs s_State_list_of, defBody s_State_list_of, defScope s_State_list_of, [], []⟩
def d_State_lists : He.DefD := ⟨("State", some "lists"), "lists", "State.lists", defArgs s_State_lists, defBody s_State_lists, defScope s_State_lists, [], []⟩
def d_State_all_keys : He.DefD := ⟨("State", some "all_keys"), "all_keys", "State.all_keys", defArgs s_State_all_keys, defBody s_State_all_keys, defScope s_State_all_keys, [], []⟩
def d_State_says : He.DefD := ⟨("State", some "says"), "says", "State.says", defArgs s_State_says, defBody s_State_says, defScope s_State_says, [], []⟩
def d_State_with_list : He.DefD := ⟨("State", some "with_list"), "with_list", "State.with_list", defArgs s_State_with_list, defBody s_State_with_list, defScope s_State_with_list, [], []⟩
def d_State_eq : He.DefD := ⟨("State", some "__eq__"), "__eq__", "State.__eq__", defArgs s_State_eq, defBody s_State_eq, defScope s_State_eq, [], []⟩
def d_State_len : He.DefD := ⟨("State", some "__len__"), "__len__", "State.__len__", defArgs s_State_len, defBody s_State_len, defScope s_State_len, [], []⟩
def d_first_wrong_pair : He.DefD := ⟨("_first_wrong_pair", none), "_first_wrong_pair", "_first_wrong_pair", defArgs s_first_wrong_pair, defBody s_first_wrong_pair, defScope s_first_wrong_pair, [], []⟩
def d_Reading_init : He.DefD := ⟨("Reading", some "__init__"), "__init__", "Reading.__init__", defArgs s_Reading_init, defBody s_Reading_init, defScope s_Reading_init, [], []⟩
def d_Reading_pairs : He.DefD := ⟨("Reading", some "pairs"), "pairs", "Reading.pairs", defArgs s_Reading_pairs, defBody s_Reading_pairs, defScope s_Reading_pairs, [], []⟩
def d_read : He.DefD := ⟨("read", none), "read", "read", defArgs s_read, defBody s_read, defScope s_read, [], []⟩
def d_before_dict : He.DefD := ⟨("before_dict", none), "before_dict", "before_dict", defArgs s_before_dict, defBody s_before_dict, defScope s_before_dict, [], []⟩
def d_is_swap : He.DefD := ⟨("is_swap", none), "is_swap", "is_swap", defArgs s_is_swap, defBody s_is_swap, defScope s_is_swap, [], []⟩
def d_swap_pair : He.DefD := ⟨("swap_pair", none), "swap_pair", "swap_pair", defArgs s_swap_pair, defBody s_swap_pair, defScope s_swap_pair, [], []⟩
def d_is_silent : He.DefD := ⟨("is_silent", none), "is_silent", "is_silent", defArgs s_is_silent, defBody s_is_silent, defScope s_is_silent, [], []⟩
def d_other_replicas : He.DefD := ⟨("_other_replicas", none), "_other_replicas", "_other_replicas", defArgs s_other_replicas, defBody s_other_replicas, defScope s_other_replicas, [], []⟩
def d_swapped_state : He.DefD := ⟨("swapped_state", none), "swapped_state", "swapped_state", defArgs s_swapped_state, defBody s_swapped_state, defScope s_swapped_state, [], []⟩
def d_apply_swap : He.DefD := ⟨("apply_swap", none), "apply_swap", "apply_swap", defArgs s_apply_swap, defBody s_apply_swap, defScope s_apply_swap, [], []⟩
def d_home_list : He.DefD := ⟨("home_list", none), "home_list", "home_list", defArgs s_home_list, defBody s_home_list, defScope s_home_list, [], []⟩
def d_settle : He.DefD := ⟨("settle", none), "settle", "settle", defArgs s_settle, defBody s_settle, defScope s_settle, [], [("replicas", .adr (kwAt ("settle", none) "replicas"))]⟩
def d_check_side : He.DefD := ⟨("check_side", none), "check_side", "check_side", defArgs s_check_side, defBody s_check_side, defScope s_check_side, [], []⟩
def d_three_of : He.DefD := ⟨("_three_of", none), "_three_of", "_three_of", defArgs s_three_of, defBody s_three_of, defScope s_three_of, [], []⟩
def d_ThreeWay_init : He.DefD := ⟨("ThreeWay", some "__init__"), "__init__", "ThreeWay.__init__", defArgs s_ThreeWay_init, defBody s_ThreeWay_init, defScope s_ThreeWay_init, [], []⟩
def d_ThreeWay_eq : He.DefD := ⟨("ThreeWay", some "__eq__"), "__eq__", "ThreeWay.__eq__", defArgs s_ThreeWay_eq, defBody s_ThreeWay_eq, defScope s_ThreeWay_eq, [], []⟩
def d_ThreeWay_side : He.DefD := ⟨("ThreeWay", some "side"), "side", "ThreeWay.side", defArgs s_ThreeWay_side, defBody s_ThreeWay_side, defScope s_ThreeWay_side, [], []⟩
def d_ThreeWay_state : He.DefD := ⟨("ThreeWay", some "state"), "state", "ThreeWay.state", defArgs s_ThreeWay_state, defBody s_ThreeWay_state, defScope s_ThreeWay_state, [], []⟩
def d_ThreeWay_merged : He.DefD := ⟨("ThreeWay", some "merged"), "merged", "ThreeWay.merged", defArgs s_ThreeWay_merged, defBody s_ThreeWay_merged, defScope s_ThreeWay_merged, [], []⟩
def d_ThreeWay_mirrored : He.DefD := ⟨("ThreeWay", some "_mirrored"), "_mirrored", "ThreeWay._mirrored", defArgs s_ThreeWay_mirrored, defBody s_ThreeWay_mirrored, defScope s_ThreeWay_mirrored, [], []⟩
def d_ThreeWay_silent_edits : He.DefD := ⟨("ThreeWay", some "silent_edits"), "silent_edits", "ThreeWay.silent_edits", defArgs s_ThreeWay_silent_edits, defBody s_ThreeWay_silent_edits, defScope s_ThreeWay_silent_edits, [], []⟩
def d_ThreeWay_edit : He.DefD := ⟨("ThreeWay", some "edit"), "edit", "ThreeWay.edit", defArgs s_ThreeWay_edit, defBody s_ThreeWay_edit, defScope s_ThreeWay_edit, [], []⟩
def d_ThreeWay_settled : He.DefD := ⟨("ThreeWay", some "settled"), "settled", "ThreeWay.settled", defArgs s_ThreeWay_settled, defBody s_ThreeWay_settled, defScope s_ThreeWay_settled, [], []⟩
def d_law_box : He.DefD := ⟨("_law_box", none), "_law_box", "_law_box", defArgs s_law_box, defBody s_law_box, defScope s_law_box, [], []⟩
def d_law_take : He.DefD := ⟨("_law_take", none), "_law_take", "_law_take", defArgs s_law_take, defBody s_law_take, defScope s_law_take, [], []⟩
def d_law_keys : He.DefD := ⟨("_law_keys", none), "_law_keys", "_law_keys", defArgs s_law_keys, defBody s_law_keys, defScope s_law_keys, [], []⟩
def d_law_order : He.DefD := ⟨("_law_order", none), "_law_order", "_law_order", defArgs s_law_order, defBody s_law_order, defScope s_law_order, [], []⟩
def d_law_exchanged : He.DefD := ⟨("_law_exchanged", none), "_law_exchanged", "_law_exchanged", defArgs s_law_exchanged, defBody s_law_exchanged, defScope s_law_exchanged, [], []⟩
def d_law_after : He.DefD := ⟨("_law_after", none), "_law_after", "_law_after", defArgs s_law_after, defBody s_law_after, defScope s_law_after, [], []⟩
def d_law_places : He.DefD := ⟨("_law_places", none), "_law_places", "_law_places", defArgs s_law_places, defBody s_law_places, defScope s_law_places, [], []⟩
def d_law_wins : He.DefD := ⟨("_law_wins", none), "_law_wins", "_law_wins", defArgs s_law_wins, defBody s_law_wins, defScope s_law_wins, [], []⟩
def d_law_merge : He.DefD := ⟨("_law_merge", none), "_law_merge", "_law_merge", defArgs s_law_merge, defBody s_law_merge, defScope s_law_merge, [], []⟩
def d_law_walked : He.DefD := ⟨("_law_walked", none), "_law_walked", "_law_walked", defArgs s_law_walked, defBody s_law_walked, defScope s_law_walked, [], []⟩
def d_law_put : He.DefD := ⟨("_law_put", none), "_law_put", "_law_put", defArgs s_law_put, defBody s_law_put, defScope s_law_put, [], []⟩
def d_law_ring : He.DefD := ⟨("_law_ring", none), "_law_ring", "_law_ring", defArgs s_law_ring, defBody s_law_ring, defScope s_law_ring, [], []⟩
def d_law_parties : He.DefD := ⟨("_law_parties", none), "_law_parties", "_law_parties", defArgs s_law_parties, defBody s_law_parties, defScope s_law_parties, [], []⟩
def d_law_blocks : He.DefD := ⟨("_law_blocks", none), "_law_blocks", "_law_blocks", defArgs s_law_blocks, defBody s_law_blocks, defScope s_law_blocks, [], []⟩
def d_law_three : He.DefD := ⟨("_law_three", none), "_law_three", "_law_three", defArgs s_law_three, defBody s_law_three, defScope s_law_three, [], []⟩
def d_law_build : He.DefD := ⟨("_law_build", none), "_law_build", "_law_build", defArgs s_law_build, defBody s_law_build, defScope s_law_build, [], []⟩
def d_law_is : He.DefD := ⟨("_law_is", none), "_law_is", "_law_is", defArgs s_law_is, defBody s_law_is, defScope s_law_is, [], []⟩
def d_law_shown : He.DefD := ⟨("_law_shown", none), "_law_shown", "_law_shown", defArgs s_law_shown, defBody s_law_shown, defScope s_law_shown, [], []⟩
def d_law_silent : He.DefD := ⟨("_law_silent", none), "_law_silent", "_law_silent", defArgs s_law_silent, defBody s_law_silent, defScope s_law_silent, [], []⟩
def d_law_home : He.DefD := ⟨("_law_home", none), "_law_home", "_law_home", defArgs s_law_home, defBody s_law_home, defScope s_law_home, [], []⟩
def d_law_homes : He.DefD := ⟨("_law_homes", none), "_law_homes", "_law_homes", defArgs s_law_homes, defBody s_law_homes, defScope s_law_homes, [], []⟩
def d_law_edited : He.DefD := ⟨("_law_edited", none), "_law_edited", "_law_edited", defArgs s_law_edited, defBody s_law_edited, defScope s_law_edited, [], []⟩
def d_law_edits_hold : He.DefD := ⟨("_law_edits_hold", none), "_law_edits_hold", "_law_edits_hold", defArgs s_law_edits_hold, defBody s_law_edits_hold, defScope s_law_edits_hold, [], []⟩
def d_law_told_hold : He.DefD := ⟨("_law_told_hold", none), "_law_told_hold", "_law_told_hold", defArgs s_law_told_hold, defBody s_law_told_hold, defScope s_law_told_hold, [], []⟩
def d_law_sides_refused : He.DefD := ⟨("_law_sides_refused", none), "_law_sides_refused", "_law_sides_refused", defArgs s_law_sides_refused, defBody s_law_sides_refused, defScope s_law_sides_refused, [], []⟩
def d_law_settled_holds : He.DefD := ⟨("_law_settled_holds", none), "_law_settled_holds", "_law_settled_holds", defArgs s_law_settled_holds, defBody s_law_settled_holds, defScope s_law_settled_holds, [], []⟩
def d_law_walk_holds : He.DefD := ⟨("_law_walk_holds", none), "_law_walk_holds", "_law_walk_holds", defArgs s_law_walk_holds, defBody s_law_walk_holds, defScope s_law_walk_holds, [], []⟩
def d_law : He.DefD := ⟨("law", none), "law", "law", defArgs s_law, defBody s_law, defScope s_law, [], []⟩
def fn : List He.DefD := [d_check_replica, d_check_replicas, d_first_wrong_place, d_check_list, d_index_of, d_swap_at, d_require_key, d_wrong_replica, d_State_init, d_State_list_of, d_State_lists, d_State_all_keys, d_State_says, d_State_with_list, d_State_eq, d_State_len, d_first_wrong_pair, d_Reading_init, d_Reading_pairs, d_read, d_before_dict, d_is_swap, d_swap_pair, d_is_silent, d_other_replicas, d_swapped_state, d_apply_swap, d_home_list, d_settle, d_check_side, d_three_of, d_ThreeWay_init, d_ThreeWay_eq, d_ThreeWay_side, d_ThreeWay_state, d_ThreeWay_merged, d_ThreeWay_mirrored, d_ThreeWay_silent_edits, d_ThreeWay_edit, d_ThreeWay_settled, d_law_box, d_law_take, d_law_keys, d_law_order, d_law_exchanged, d_law_after, d_law_places, d_law_wins, d_law_merge, d_law_walked, d_law_put, d_law_ring, d_law_parties, d_law_blocks, d_law_three, d_law_build, d_law_is, d_law_shown, d_law_silent, d_law_home, d_law_homes, d_law_edited, d_law_edits_hold, d_law_told_hold, d_law_sides_refused, d_law_settled_holds, d_law_walk_holds, d_law]
def fa0 : List He.Fa := [He.Fa.glo "check_replica", He.Fa.glo "check_replicas", He.Fa.glo "first_wrong_place", He.Fa.glo "check_list", He.Fa.glo "index_of", He.Fa.glo "swap_at", He.Fa.glo "require_key", He.Fa.glo "_wrong_replica", He.Fa.glo "_first_wrong_pair", He.Fa.glo "read", He.Fa.glo "before_dict", He.Fa.glo "is_swap", He.Fa.glo "swap_pair", He.Fa.glo "is_silent", He.Fa.glo "_other_replicas", He.Fa.glo "swapped_state", He.Fa.glo "apply_swap", He.Fa.glo "home_list", He.Fa.glo "settle", He.Fa.glo "check_side", He.Fa.glo "_three_of", He.Fa.glo "_law_box", He.Fa.glo "_law_take", He.Fa.glo "_law_keys", He.Fa.glo "_law_order", He.Fa.glo "_law_exchanged", He.Fa.glo "_law_after", He.Fa.glo "_law_places", He.Fa.glo "_law_wins", He.Fa.glo "_law_merge"]
def fa1 : List He.Fa := [He.Fa.glo "_law_walked", He.Fa.glo "_law_put", He.Fa.glo "_law_ring", He.Fa.glo "_law_parties", He.Fa.glo "_law_blocks", He.Fa.glo "_law_three", He.Fa.glo "_law_build", He.Fa.glo "_law_is", He.Fa.glo "_law_shown", He.Fa.glo "_law_silent", He.Fa.glo "_law_home", He.Fa.glo "_law_homes", He.Fa.glo "_law_edited", He.Fa.glo "_law_edits_hold", He.Fa.glo "_law_told_hold", He.Fa.glo "_law_sides_refused", He.Fa.glo "_law_settled_holds", He.Fa.glo "_law_walk_holds", He.Fa.glo "law", He.Fa.glo "State", He.Fa.glo "Reading", He.Fa.glo "ThreeWay", He.Fa.glo "InvalidSide", He.Fa.glo "InvalidSwap", He.Fa.glo "AudibleSwap", He.Fa.glo "DriftError", He.Fa.glo "SIDES", He.Fa.free "len", He.Fa.free "range", He.Fa.free "list"]
def fa2 : List He.Fa := [He.Fa.free "tuple", He.Fa.free "sorted", He.Fa.free "enumerate", He.Fa.free "max", He.Fa.free "reversed", He.Fa.free "abs", He.Fa.free "int", He.Fa.free "isinstance", He.Fa.free "all", He.Fa.free "bool", He.Fa.free "str", He.Fa.free "super", He.Fa.free "ValueError", He.Fa.int "MAX_KEYS" 12, He.Fa.int "MAX_KEY" 9999, He.Fa.cls "State", He.Fa.cls "Reading", He.Fa.cls "ThreeWay", He.Fa.noat "State" "_lists", He.Fa.noat "State" "_places", He.Fa.noat "Reading" "_keys", He.Fa.noat "Reading" "_before", He.Fa.noat "ThreeWay" "_state", He.Fa.meth "State" "__init__", He.Fa.meth "State" "list_of", He.Fa.meth "State" "lists", He.Fa.meth "State" "all_keys", He.Fa.meth "State" "says", He.Fa.meth "State" "with_list", He.Fa.meth "State" "__eq__"]
def fa3 : List He.Fa := [He.Fa.meth "State" "__len__", He.Fa.meth "Reading" "__init__", He.Fa.meth "Reading" "pairs", He.Fa.meth "ThreeWay" "__init__", He.Fa.meth "ThreeWay" "__eq__", He.Fa.meth "ThreeWay" "side", He.Fa.meth "ThreeWay" "state", He.Fa.meth "ThreeWay" "merged", He.Fa.meth "ThreeWay" "_mirrored", He.Fa.meth "ThreeWay" "silent_edits", He.Fa.meth "ThreeWay" "edit", He.Fa.meth "ThreeWay" "settled", He.Fa.mkr "State", He.Fa.mkr "Reading", He.Fa.mkr "ThreeWay"]
def fa : List He.Fa := fa0 ++ fa1 ++ fa2 ++ fa3
/-! ### further facts of the written part -/
/-- what isinstance asks of an own class -/
def insB (K : PySem.W.Frag) (C : Addr) : Bool := decide (PySem.W.findIn K (.ref C) "__class__" = some (some (.builtin "object.__class__"))) && (decide (PySem.W.mroIn K C (.type "object") = some true) && decide (PySem.W.kitOne K (.ref C) (.ref C) = some true))
/-- C.f is a constant of the class C -/
def cvB (K : PySem.W.Frag) (C : Addr) (f : Str) (v : V) : Bool := PySem.W.readsIn K C (.type "type") && (decide (PySem.W.specialIn K (.ref C) "__getattribute__" = some (some (.builtin "type.__getattribute__"))) && (match PySem.W.findCls K (.ref C) (.type "type") f with
  | some (.val u) => He.relB v u
  | _ => false))
/-- the def of __init__ and its cell -/
def iniA (K : PySem.W.Frag) (C : Addr) : Addr := He.ma K C "__init__"
def celA (K : PySem.W.Frag) (C : Addr) : Addr := match K.lookup (iniA K C) with
  | some ⟨_, _, .func fd, _⟩ => (match fd.closure with
    | [(_, c)] => c
    | _ => 0)
  | _ => 0
def codA (K : PySem.W.Frag) (C : Addr) : Addr := match K.lookup (iniA K C) with
  | some ⟨_, _, .func fd, _⟩ => (match fd.code with
    | .ref c => c
    | _ => 0)
  | _ => 0
/-- an own error: its class object, its __init__, the cell of its __class__, the file of its code -/
def clsB (K : PySem.W.Frag) (C : Addr) : Bool := match K.lookup C with
  | some ⟨.type t, _, .cls cd, sl⟩ => (match cd.mro, sl.toList with
    | .ref C' :: bm, [_, _, _, _, some (.builtin n), _] => decide (t = "type") && (decide (C' = C) && (decide (n = "ValueError.__new__") && (!cd.hasDel && (cd.hasDict && PySem.HandSPX.refsVE bm))))
    | _, _ => false)
  | _ => false
def fnB (K : PySem.W.Frag) (C : Addr) (qual : Str) : Bool := match K.lookup (iniA K C) with
  | some ⟨_, _, .func fd, _⟩ => PySem.W.codeIn K fd.code qual && decide (fd.closure = [(PySem.Str.ofString "__class__", celA K C)])
  | _ => false
def celB (K : PySem.W.Frag) (C : Addr) : Bool := match K.lookup (celA K C) with
  | some ⟨_, _, .cell (some (.ref D)), _⟩ => decide (D = C)
  | _ => false
def filB (K : PySem.W.Frag) (C : Addr) (file : Str) : Bool := match K.lookup (codA K C) with
  | some ⟨_, _, .fields vs, _⟩ => (match (vs[2]? : Option Value) with
    | some (Value.str f _) => decide (f = file)
    | _ => false)
  | _ => false
def errB (K : PySem.W.Frag) (C : Addr) (fld : Str) : Bool := [clsB K C, celB K C, filB K C "/claim/cut.py",
  decide (PySem.W.findIn K (.ref C) "__setattr__" = some (some (.builtin "object.__setattr__"))),
  L2.xfB K C, decide (PySem.W.findIn K (.ref C) fld = some none), decide (PySem.W.findIn K (.ref C) "__init__" = some (some (.ref (iniA K C)))),
  decide (PySem.W.typeIn K (.ref (iniA K C)) = some (.type "function")), PySem.W.keepIn K (.ref C), decide (PySem.W.typeIn K (.ref C) = some (.type "type")),
  decide (PySem.W.findIn K (.ref C) "__class__" = some (some (.builtin "object.__class__"))), decide (PySem.W.mroIn K C (.type "object") = some true), decide (PySem.W.mroIn K C (.ref C) = some true),
  decide (PySem.W.ks_superIn K C C "__init__" = some (some (.builtin "ValueError.__init__"))), decide (PySem.W.subIn K (.ref C) (.type "ValueError") = some true)].all id
/-- of a caught error of the class C: which clauses take it, what isinstance says -/
def tstB (K : PySem.W.Frag) : Bool := [decide (PySem.W.exmOne K (.ref (He.ga K "InvalidSide")) (.ref (He.ga K "InvalidSide")) = some true),
  decide (PySem.W.exmOne K (.ref (He.ga K "InvalidSide")) (.ref (He.ga K "InvalidSwap")) = some false),
  decide (PySem.W.exmOne K (.ref (He.ga K "InvalidSide")) (.ref (He.ga K "AudibleSwap")) = some false),
  decide (PySem.W.exmOne K (.ref (He.ga K "InvalidSide")) (.ref (He.ga K "DriftError")) = some true),
  decide (PySem.W.kitOne K (.ref (He.ga K "InvalidSide")) (.ref (He.ga K "InvalidSide")) = some true),
  decide (PySem.W.kitOne K (.ref (He.ga K "InvalidSide")) (.ref (He.ga K "InvalidSwap")) = some false),
  decide (PySem.W.kitOne K (.ref (He.ga K "InvalidSide")) (.ref (He.ga K "AudibleSwap")) = some false),
  decide (PySem.W.kitOne K (.ref (He.ga K "InvalidSide")) (.ref (He.ga K "DriftError")) = some true),
  decide (PySem.W.kitOne K (.ref (He.ga K "InvalidSide")) (.type "ValueError") = some true),
  decide (PySem.W.exmOne K (.ref (He.ga K "InvalidSwap")) (.ref (He.ga K "InvalidSide")) = some false),
  decide (PySem.W.exmOne K (.ref (He.ga K "InvalidSwap")) (.ref (He.ga K "InvalidSwap")) = some true),
  decide (PySem.W.exmOne K (.ref (He.ga K "InvalidSwap")) (.ref (He.ga K "AudibleSwap")) = some false),
  decide (PySem.W.exmOne K (.ref (He.ga K "InvalidSwap")) (.ref (He.ga K "DriftError")) = some true),
  decide (PySem.W.kitOne K (.ref (He.ga K "InvalidSwap")) (.ref (He.ga K "InvalidSide")) = some false),
  decide (PySem.W.kitOne K (.ref (He.ga K "InvalidSwap")) (.ref (He.ga K "InvalidSwap")) = some true),
  decide (PySem.W.kitOne K (.ref (He.ga K "InvalidSwap")) (.ref (He.ga K "AudibleSwap")) = some false),
  decide (PySem.W.kitOne K (.ref (He.ga K "InvalidSwap")) (.ref (He.ga K "DriftError")) = some true),
  decide (PySem.W.kitOne K (.ref (He.ga K "InvalidSwap")) (.type "ValueError") = some true),
  decide (PySem.W.exmOne K (.ref (He.ga K "AudibleSwap")) (.ref (He.ga K "InvalidSide")) = some false),
  decide (PySem.W.exmOne K (.ref (He.ga K "AudibleSwap")) (.ref (He.ga K "InvalidSwap")) = some false),
  decide (PySem.W.exmOne K (.ref (He.ga K "AudibleSwap")) (.ref (He.ga K "AudibleSwap")) = some true),
  decide (PySem.W.exmOne K (.ref (He.ga K "AudibleSwap")) (.ref (He.ga K "DriftError")) = some true),
  decide (PySem.W.kitOne K (.ref (He.ga K "AudibleSwap")) (.ref (He.ga K "InvalidSide")) = some false),
  decide (PySem.W.kitOne K (.ref (He.ga K "AudibleSwap")) (.ref (He.ga K "InvalidSwap")) = some false),
  decide (PySem.W.kitOne K (.ref (He.ga K "AudibleSwap")) (.ref (He.ga K "AudibleSwap")) = some true),
  decide (PySem.W.kitOne K (.ref (He.ga K "AudibleSwap")) (.ref (He.ga K "DriftError")) = some true),
  decide (PySem.W.kitOne K (.ref (He.ga K "AudibleSwap")) (.type "ValueError") = some true)].all id
/-- an error's def stands as the text has it -/
def obsI (K : PySem.W.Frag) (C : Str) : Option (Str × Str × Arguments × FuncBody × Scope × Addr × Value × Addr) := match K.lookup (iniA K (He.ga K C)) with
  | some ⟨_, _, .func fd, _⟩ => some (fd.name, fd.qualname, fd.params, fd.body, fd.scope, fd.globals, fd.defaults, fd.builtins)
  | _ => none
abbrev s_InvalidSide_init : Stmt := inClass (topS 12) 0
abbrev s_InvalidSwap_init : Stmt := inClass (topS 10) 0
abbrev s_AudibleSwap_init : Stmt := inClass (topS 11) 0
/-- two or more keyword defaults are told by their address -/
def exB (K : PySem.W.Frag) : Bool := [He.tupB K "SIDES" [.str "old", .str "mine", .str "yours"], (match K.lookup (kwAt ("settle", none) "replicas" K) with
    | some ⟨.type c, _, .seq its _, _⟩ => decide (c = "tuple") && (decide (its.size ≤ sizeLine) && He.relAll [.int 0, .int 1, .int 2] its.toList)
    | _ => false),
  cvB K (He.ga K "State") "REPLICAS" (.int 3), insB K (He.ga K "State"), insB K (He.ga K "ThreeWay"),
  decide (PySem.W.specialIn K (.builtin "object.__class__") "__get__" = some (some (.builtin "getset_descriptor.__get__"))), decide (PySem.W.takesIn K (.builtin "object.__class__") = some true),
  decide (PySem.W.nsIn K cStatics "thirdparty.any" = some none),
  errB K (He.ga K "InvalidSide") "side", errB K (He.ga K "InvalidSwap") "step", errB K (He.ga K "AudibleSwap") "step",
  fnB K (He.ga K "InvalidSide") "InvalidSide.__init__", fnB K (He.ga K "InvalidSwap") "InvalidSwap.__init__", fnB K (He.ga K "AudibleSwap") "AudibleSwap.__init__", tstB K, (match K.lookup (He.ga K "SIDES") with
    | some ⟨.type c, none, .seq _ _, _⟩ => decide (c = "tuple")
    | _ => false)].all id
abbrev ErD : Type := Option (Str × Str × Arguments × FuncBody × Scope × Addr × Value × Addr)
def obsL (K : PySem.W.Frag) : List ErD := [obsI K "InvalidSide", obsI K "InvalidSwap", obsI K "AudibleSwap"]
def valI (q : Str) (st : Stmt) : ErD := some ("__init__", q, defArgs st, .stmts (defBody st), defScope st, mainGlobals, .none, builtinsNs)
def valL : List ErD := [valI "InvalidSide.__init__" s_InvalidSide_init, valI "InvalidSwap.__init__" s_InvalidSwap_init, valI "AudibleSwap.__init__" s_AudibleSwap_init]
/-- what is known of the written part K, over a heap where it stands, the module's names told by mg -/
structure Top (K : PySem.W.Frag) (mg : Str → Option Value) : Prop where
  hp : ∃ h : Heap, K.In h ∧ h.Ns mainGlobals mg
  c : He.SaysD fa fn K
  ex : exB K = true
  ob : obsL K = valL
section
variable {K : PySem.W.Frag} {mg : Str → Option Value}
theorem Top.fact (T : Top K mg) (i : Nat) {f : He.Fa} (h : fa[i]? = some f) : f.ok K = true := T.c.fact i h
theorem Top.g_check_replica (T : Top K mg) : mg "check_replica" = some (.ref (He.ga K "check_replica")) := let ⟨_, X, G⟩ := T.hp; He.glo_ok X G (T.fact 0 rfl)
theorem Top.g_check_replicas (T : Top K mg) : mg "check_replicas" = some (.ref (He.ga K "check_replicas")) := let ⟨_, X, G⟩ := T.hp; He.glo_ok X G (T.fact 1 rfl)
theorem Top.g_first_wrong_place (T : Top K mg) : mg "first_wrong_place" = some (.ref (He.ga K "first_wrong_place")) := let ⟨_, X, G⟩ := T.hp; He.glo_ok X G (T.fact 2 rfl)
theorem Top.g_check_list (T : Top K mg) : mg "check_list" = some (.ref (He.ga K "check_list")) := let ⟨_, X, G⟩ := T.hp; He.glo_ok X G (T.fact 3 rfl)
theorem Top.g_index_of (T : Top K mg) : mg "index_of" = some (.ref (He.ga K "index_of")) := let ⟨_, X, G⟩ := T.hp; He.glo_ok X G (T.fact 4 rfl)
theorem Top.g_swap_at (T : Top K mg) : mg "swap_at" = some (.ref (He.ga K "swap_at")) := let ⟨_, X, G⟩ := T.hp; He.glo_ok X G (T.fact 5 rfl)
theorem Top.g_require_key (T : Top K mg) : mg "require_key" = some (.ref (He.ga K "require_key")) := let ⟨_, X, G⟩ := T.hp; He.glo_ok X G (T.fact 6 rfl)
theorem Top.g_wrong_replica (T : Top K mg) : mg "_wrong_replica" = some (.ref (He.ga K "_wrong_replica")) := let ⟨_, X, G⟩ := T.hp; He.glo_ok X G (T.fact 7 rfl)
theorem Top.g_first_wrong_pair (T : Top K mg) : mg "_first_wrong_pair" = some (.ref (He.ga K "_first_wrong_pair")) := let ⟨_, X, G⟩ := T.hp; He.glo_ok X G (T.fact 8 rfl)
theorem Top.g_read (T : Top K mg) : mg "read" = some (.ref (He.ga K "read")) := let ⟨_, X, G⟩ := T.hp; He.glo_ok X G (T.fact 9 rfl)
theorem Top.g_before_dict (T : Top K mg) : mg "before_dict" = some (.ref (He.ga K "before_dict")) := let ⟨_, X, G⟩ := T.hp; He.glo_ok X G (T.fact 10 rfl)
theorem Top.g_is_swap (T : Top K mg) : mg "is_swap" = some (.ref (He.ga K "is_swap")) := let ⟨_, X, G⟩ := T.hp; He.glo_ok X G (T.fact 11 rfl)
theorem Top.g_swap_pair (T : Top K mg) : mg "swap_pair" = some (.ref (He.ga K "swap_pair")) := let ⟨_, X, G⟩ := T.hp; He.glo_ok X G (T.fact 12 rfl)
theorem Top.g_is_silent (T : Top K mg) : mg "is_silent" = some (.ref (He.ga K "is_silent")) := let ⟨_, X, G⟩ := T.hp; He.glo_ok X G (T.fact 13 rfl)
theorem Top.g_other_replicas (T : Top K mg) : mg "_other_replicas" = some (.ref (He.ga K "_other_replicas")) := let ⟨_, X, G⟩ := T.hp; He.glo_ok X G (T.fact 14 rfl)
theorem Top.g_swapped_state (T : Top K mg) : mg "swapped_state" = some (.ref (He.ga K "swapped_state")) := let ⟨_, X, G⟩ := T.hp; He.glo_ok X G (T.fact 15 rfl)
theorem Top.g_apply_swap (T : Top K mg) : mg "apply_swap" = some (.ref (He.ga K "apply_swap")) := let ⟨_, X, G⟩ := T.hp; He.glo_ok X G (T.fact 16 rfl)
theorem Top.g_home_list (T : Top K mg) : mg "home_list" = some (.ref (He.ga K "home_list")) := let ⟨_, X, G⟩ := T.hp; He.glo_ok X G (T.fact 17 rfl)
theorem Top.g_settle (T : Top K mg) : mg "settle" = some (.ref (He.ga K "settle")) := let ⟨_, X, G⟩ := T.hp; He.glo_ok X G (T.fact 18 rfl)
theorem Top.g_check_side (T : Top K mg) : mg "check_side" = some (.ref (He.ga K "check_side")) := let ⟨_, X, G⟩ := T.hp; He.glo_ok X G (T.fact 19 rfl)
theorem Top.g_three_of (T : Top K mg) : mg "_three_of" = some (.ref (He.ga K "_three_of")) := let ⟨_, X, G⟩ := T.hp; He.glo_ok X G (T.fact 20 rfl)
theorem Top.g_law_box (T : Top K mg) : mg "_law_box" = some (.ref (He.ga K "_law_box")) := let ⟨_, X, G⟩ := T.hp; He.glo_ok X G (T.fact 21 rfl)
theorem Top.g_law_take (T : Top K mg) : mg "_law_take" = some (.ref (He.ga K "_law_take")) := let ⟨_, X, G⟩ := T.hp; He.glo_ok X G (T.fact 22 rfl)
theorem Top.g_law_keys (T : Top K mg) : mg "_law_keys" = some (.ref (He.ga K "_law_keys")) := let ⟨_, X, G⟩ := T.hp; He.glo_ok X G (T.fact 23 rfl)
theorem Top.g_law_order (T : Top K mg) : mg "_law_order" = some (.ref (He.ga K "_law_order")) := let ⟨_, X, G⟩ := T.hp; He.glo_ok X G (T.fact 24 rfl)
theorem Top.g_law_exchanged (T : Top K mg) : mg "_law_exchanged" = some (.ref (He.ga K "_law_exchanged")) := let ⟨_, X, G⟩ := T.hp; He.glo_ok X G (T.fact 25 rfl)
theorem Top.g_law_after (T : Top K mg) : mg "_law_after" = some (.ref (He.ga K "_law_after")) := let ⟨_, X, G⟩ := T.hp; He.glo_ok X G (T.fact 26 rfl)
theorem Top.g_law_places (T : Top K mg) : mg "_law_places" = some (.ref (He.ga K "_law_places")) := let ⟨_, X, G⟩ := T.hp; He.glo_ok X G (T.fact 27 rfl)
theorem Top.g_law_wins (T : Top K mg) : mg "_law_wins" = some (.ref (He.ga K "_law_wins")) := let ⟨_, X, G⟩ := T.hp; He.glo_ok X G (T.fact 28 rfl)
theorem Top.g_law_merge (T : Top K mg) : mg "_law_merge" = some (.ref (He.ga K "_law_merge")) := let ⟨_, X, G⟩ := T.hp; He.glo_ok X G (T.fact 29 rfl)
theorem Top.g_law_walked (T : Top K mg) : mg "_law_walked" = some (.ref (He.ga K "_law_walked")) := let ⟨_, X, G⟩ := T.hp; He.glo_ok X G (T.fact 30 rfl)
theorem Top.g_law_put (T : Top K mg) : mg "_law_put" = some (.ref (He.ga K "_law_put")) := let ⟨_, X, G⟩ := T.hp; He.glo_ok X G (T.fact 31 rfl)
theorem Top.g_law_ring (T : Top K mg) : mg "_law_ring" = some (.ref (He.ga K "_law_ring")) := let ⟨_, X, G⟩ := T.hp; He.glo_ok X G (T.fact 32 rfl)
theorem Top.g_law_parties (T : Top K mg) : mg "_law_parties" = some (.ref (He.ga K "_law_parties")) := let ⟨_, X, G⟩ := T.hp; He.glo_ok X G (T.fact 33 rfl)
theorem Top.g_law_blocks (T : Top K mg) : mg "_law_blocks" = some (.ref (He.ga K "_law_blocks")) := let ⟨_, X, G⟩ := T.hp; He.glo_ok X G (T.fact 34 rfl)
theorem Top.g_law_three (T : Top K mg) : mg "_law_three" = some (.ref (He.ga K "_law_three")) := let ⟨_, X, G⟩ := T.hp; He.glo_ok X G (T.fact 35 rfl)
theorem Top.g_law_build (T : Top K mg) : mg "_law_build" = some (.ref (He.ga K "_law_build")) := let ⟨_, X, G⟩ := T.hp; He.glo_ok X G (T.fact 36 rfl)
theorem Top.g_law_is (T : Top K mg) : mg "_law_is" = some (.ref (He.ga K "_law_is")) := let ⟨_, X, G⟩ := T.hp; He.glo_ok X G (T.fact 37 rfl)
theorem Top.g_law_shown (T : Top K mg) : mg "_law_shown" = some (.ref (He.ga K "_law_shown")) := let ⟨_, X, G⟩ := T.hp; He.glo_ok X G (T.fact 38 rfl)
theorem Top.g_law_silent (T : Top K mg) : mg "_law_silent" = some (.ref (He.ga K "_law_silent")) := let ⟨_, X, G⟩ := T.hp; He.glo_ok X G (T.fact 39 rfl)
theorem Top.g_law_home (T : Top K mg) : mg "_law_home" = some (.ref (He.ga K "_law_home")) := let ⟨_, X, G⟩ := T.hp; He.glo_ok X G (T.fact 40 rfl)
theorem Top.g_law_homes (T : Top K mg) : mg "_law_homes" = some (.ref (He.ga K "_law_homes")) := let ⟨_, X, G⟩ := T.hp; He.glo_ok X G (T.fact 41 rfl)
theorem Top.g_law_edited (T : Top K mg) : mg "_law_edited" = some (.ref (He.ga K "_law_edited")) := let ⟨_, X, G⟩ := T.hp; He.glo_ok X G (T.fact 42 rfl)
theorem Top.g_law_edits_hold (T : Top K mg) : mg "_law_edits_hold" = some (.ref (He.ga K "_law_edits_hold")) := let ⟨_, X, G⟩ := T.hp; He.glo_ok X G (T.fact 43 rfl)
theorem Top.g_law_told_hold (T : Top K mg) : mg "_law_told_hold" = some (.ref (He.ga K "_law_told_hold")) := let ⟨_, X, G⟩ := T.hp; He.glo_ok X G (T.fact 44 rfl)
theorem Top.g_law_sides_refused (T : Top K mg) : mg "_law_sides_refused" = some (.ref (He.ga K "_law_sides_refused")) := let ⟨_, X, G⟩ := T.hp; He.glo_ok X G (T.fact 45 rfl)
theorem Top.g_law_settled_holds (T : Top K mg) : mg "_law_settled_holds" = some (.ref (He.ga K "_law_settled_holds")) := let ⟨_, X, G⟩ := T.hp; He.glo_ok X G (T.fact 46 rfl)
theorem Top.g_law_walk_holds (T : Top K mg) : mg "_law_walk_holds" = some (.ref (He.ga K "_law_walk_holds")) := let ⟨_, X, G⟩ := T.hp; He.glo_ok X G (T.fact 47 rfl)
theorem Top.g_law (T : Top K mg) : mg "law" = some (.ref (He.ga K "law")) := let ⟨_, X, G⟩ := T.hp; He.glo_ok X G (T.fact 48 rfl)
theorem Top.g_State (T : Top K mg) : mg "State" = some (.ref (He.ga K "State")) := let ⟨_, X, G⟩ := T.hp; He.glo_ok X G (T.fact 49 rfl)
theorem Top.g_Reading (T : Top K mg) : mg "Reading" = some (.ref (He.ga K "Reading")) := let ⟨_, X, G⟩ := T.hp; He.glo_ok X G (T.fact 50 rfl)
theorem Top.g_ThreeWay (T : Top K mg) : mg "ThreeWay" = some (.ref (He.ga K "ThreeWay")) := let ⟨_, X, G⟩ := T.hp; He.glo_ok X G (T.fact 51 rfl)
theorem Top.g_InvalidSide (T : Top K mg) : mg "InvalidSide" = some (.ref (He.ga K "InvalidSide")) := let ⟨_, X, G⟩ := T.hp; He.glo_ok X G (T.fact 52 rfl)
theorem Top.g_InvalidSwap (T : Top K mg) : mg "InvalidSwap" = some (.ref (He.ga K "InvalidSwap")) := let ⟨_, X, G⟩ := T.hp; He.glo_ok X G (T.fact 53 rfl)
theorem Top.g_AudibleSwap (T : Top K mg) : mg "AudibleSwap" = some (.ref (He.ga K "AudibleSwap")) := let ⟨_, X, G⟩ := T.hp; He.glo_ok X G (T.fact 54 rfl)
theorem Top.g_DriftError (T : Top K mg) : mg "DriftError" = some (.ref (He.ga K "DriftError")) := let ⟨_, X, G⟩ := T.hp; He.glo_ok X G (T.fact 55 rfl)
theorem Top.g_SIDES (T : Top K mg) : mg "SIDES" = some (.ref (He.ga K "SIDES")) := let ⟨_, X, G⟩ := T.hp; He.glo_ok X G (T.fact 56 rfl)
theorem Top.z_len (T : Top K mg) : mg "len" = none := let ⟨_, X, G⟩ := T.hp; He.free_ok X G (T.fact 57 rfl)
theorem Top.z_range (T : Top K mg) : mg "range" = none := let ⟨_, X, G⟩ := T.hp; He.free_ok X G (T.fact 58 rfl)
theorem Top.z_list (T : Top K mg) : mg "list" = none := let ⟨_, X, G⟩ := T.hp; He.free_ok X G (T.fact 59 rfl)
theorem Top.z_tuple (T : Top K mg) : mg "tuple" = none := let ⟨_, X, G⟩ := T.hp; He.free_ok X G (T.fact 60 rfl)
theorem Top.z_sorted (T : Top K mg) : mg "sorted" = none := let ⟨_, X, G⟩ := T.hp; He.free_ok X G (T.fact 61 rfl)
theorem Top.z_enumerate (T : Top K mg) : mg "enumerate" = none := let ⟨_, X, G⟩ := T.hp; He.free_ok X G (T.fact 62 rfl)
theorem Top.z_max (T : Top K mg) : mg "max" = none := let ⟨_, X, G⟩ := T.hp; He.free_ok X G (T.fact 63 rfl)
theorem Top.z_reversed (T : Top K mg) : mg "reversed" = none := let ⟨_, X, G⟩ := T.hp; He.free_ok X G (T.fact 64 rfl)
theorem Top.z_abs (T : Top K mg) : mg "abs" = none := let ⟨_, X, G⟩ := T.hp; He.free_ok X G (T.fact 65 rfl)
theorem Top.z_int (T : Top K mg) : mg "int" = none := let ⟨_, X, G⟩ := T.hp; He.free_ok X G (T.fact 66 rfl)
theorem Top.z_isinstance (T : Top K mg) : mg "isinstance" = none := let ⟨_, X, G⟩ := T.hp; He.free_ok X G (T.fact 67 rfl)
theorem Top.z_all (T : Top K mg) : mg "all" = none := let ⟨_, X, G⟩ := T.hp; He.free_ok X G (T.fact 68 rfl)
theorem Top.z_bool (T : Top K mg) : mg "bool" = none := let ⟨_, X, G⟩ := T.hp; He.free_ok X G (T.fact 69 rfl)
theorem Top.z_str (T : Top K mg) : mg "str" = none := let ⟨_, X, G⟩ := T.hp; He.free_ok X G (T.fact 70 rfl)
theorem Top.z_super (T : Top K mg) : mg "super" = none := let ⟨_, X, G⟩ := T.hp; He.free_ok X G (T.fact 71 rfl)
theorem Top.z_ValueError (T : Top K mg) : mg "ValueError" = none := let ⟨_, X, G⟩ := T.hp; He.free_ok X G (T.fact 72 rfl)
theorem Top.i_MAX_KEYS (T : Top K mg) : ∃ t, mg "MAX_KEYS" = some (.int 12 t) := let ⟨_, X, G⟩ := T.hp; He.int_ok X G (T.fact 73 rfl)
theorem Top.i_MAX_KEY (T : Top K mg) : ∃ t, mg "MAX_KEY" = some (.int 9999 t) := let ⟨_, X, G⟩ := T.hp; He.int_ok X G (T.fact 74 rfl)
theorem Top.cl_State (T : Top K mg) : Cls K (He.ga K "State") := He.cls_ok (T.fact 75 rfl)
theorem Top.cl_Reading (T : Top K mg) : Cls K (He.ga K "Reading") := He.cls_ok (T.fact 76 rfl)
theorem Top.cl_ThreeWay (T : Top K mg) : Cls K (He.ga K "ThreeWay") := He.cls_ok (T.fact 77 rfl)
theorem Top.n_State_lists (T : Top K mg) : NoAttr K (He.ga K "State") "_lists" := He.noat_ok (T.fact 78 rfl)
theorem Top.n_State_places (T : Top K mg) : NoAttr K (He.ga K "State") "_places" := He.noat_ok (T.fact 79 rfl)
theorem Top.n_Reading_keys (T : Top K mg) : NoAttr K (He.ga K "Reading") "_keys" := He.noat_ok (T.fact 80 rfl)
theorem Top.n_Reading_before (T : Top K mg) : NoAttr K (He.ga K "Reading") "_before" := He.noat_ok (T.fact 81 rfl)
theorem Top.n_ThreeWay_state (T : Top K mg) : NoAttr K (He.ga K "ThreeWay") "_state" := He.noat_ok (T.fact 82 rfl)
theorem Top.m_State_init (T : Top K mg) : Meth K (He.ga K "State") "__init__" (He.ma K (He.ga K "State") "__init__") := He.meth_ok (T.fact 83 rfl)
theorem Top.m_State_list_of (T : Top K mg) : Meth K (He.ga K "State") "list_of" (He.ma K (He.ga K "State") "list_of") := He.meth_ok (T.fact 84 rfl)
theorem Top.m_State_lists (T : Top K mg) : Meth K (He.ga K "State") "lists" (He.ma K (He.ga K "State") "lists") := He.meth_ok (T.fact 85 rfl)
theorem Top.m_State_all_keys (T : Top K mg) : Meth K (He.ga K "State") "all_keys" (He.ma K (He.ga K "State") "all_keys") := He.meth_ok (T.fact 86 rfl)
theorem Top.m_State_says (T : Top K mg) : Meth K (He.ga K "State") "says" (He.ma K (He.ga K "State") "says") := He.meth_ok (T.fact 87 rfl)
theorem Top.m_State_with_list (T : Top K mg) : Meth K (He.ga K "State") "with_list" (He.ma K (He.ga K "State") "with_list") := He.meth_ok (T.fact 88 rfl)
theorem Top.m_State_eq (T : Top K mg) : Meth K (He.ga K "State") "__eq__" (He.ma K (He.ga K "State") "__eq__") := He.meth_ok (T.fact 89 rfl)
theorem Top.m_State_len (T : Top K mg) : Meth K (He.ga K "State") "__len__" (He.ma K (He.ga K "State") "__len__") := He.meth_ok (T.fact 90 rfl)
theorem Top.m_Reading_init (T : Top K mg) : Meth K (He.ga K "Reading") "__init__" (He.ma K (He.ga K "Reading") "__init__") := He.meth_ok (T.fact 91 rfl)
theorem Top.m_Reading_pairs (T : Top K mg) : Meth K (He.ga K "Reading") "pairs" (He.ma K (He.ga K "Reading") "pairs") := He.meth_ok (T.fact 92 rfl)
theorem Top.m_ThreeWay_init (T : Top K mg) : Meth K (He.ga K "ThreeWay") "__init__" (He.ma K (He.ga K "ThreeWay") "__init__") := He.meth_ok (T.fact 93 rfl)
theorem Top.m_ThreeWay_eq (T : Top K mg) : Meth K (He.ga K "ThreeWay") "__eq__" (He.ma K (He.ga K "ThreeWay") "__eq__") := He.meth_ok (T.fact 94 rfl)
theorem Top.m_ThreeWay_side (T : Top K mg) : Meth K (He.ga K "ThreeWay") "side" (He.ma K (He.ga K "ThreeWay") "side") := He.meth_ok (T.fact 95 rfl)
theorem Top.m_ThreeWay_state (T : Top K mg) : Meth K (He.ga K "ThreeWay") "state" (He.ma K (He.ga K "ThreeWay") "state") := He.meth_ok (T.fact 96 rfl)
theorem Top.m_ThreeWay_merged (T : Top K mg) : Meth K (He.ga K "ThreeWay") "merged" (He.ma K (He.ga K "ThreeWay") "merged") := He.meth_ok (T.fact 97 rfl)
theorem Top.m_ThreeWay_mirrored (T : Top K mg) : Meth K (He.ga K "ThreeWay") "_mirrored" (He.ma K (He.ga K "ThreeWay") "_mirrored") := He.meth_ok (T.fact 98 rfl)
theorem Top.m_ThreeWay_silent_edits (T : Top K mg) : Meth K (He.ga K "ThreeWay") "silent_edits" (He.ma K (He.ga K "ThreeWay") "silent_edits") := He.meth_ok (T.fact 99 rfl)
theorem Top.m_ThreeWay_edit (T : Top K mg) : Meth K (He.ga K "ThreeWay") "edit" (He.ma K (He.ga K "ThreeWay") "edit") := He.meth_ok (T.fact 100 rfl)
theorem Top.m_ThreeWay_settled (T : Top K mg) : Meth K (He.ga K "ThreeWay") "settled" (He.ma K (He.ga K "ThreeWay") "settled") := He.meth_ok (T.fact 101 rfl)
theorem Top.mk_State (T : Top K mg) : Mk K (He.ga K "State") (He.ma K (He.ga K "State") "__init__") := He.mkr_ok (T.fact 102 rfl)
theorem Top.mk_Reading (T : Top K mg) : Mk K (He.ga K "Reading") (He.ma K (He.ga K "Reading") "__init__") := He.mkr_ok (T.fact 103 rfl)
theorem Top.mk_ThreeWay (T : Top K mg) : Mk K (He.ga K "ThreeWay") (He.ma K (He.ga K "ThreeWay") "__init__") := He.mkr_ok (T.fact 104 rfl)
theorem Top.f_check_replica (T : Top K mg) : ∃ fd, FunD K "check_replica" "check_replica" (defArgs s_check_replica) (defBody s_check_replica) (defScope s_check_replica) [] [] (He.ga K "check_replica") fd := T.c.def_ 0 (d := d_check_replica) rfl
theorem Top.f_check_replicas (T : Top K mg) : ∃ fd, FunD K "check_replicas" "check_replicas" (defArgs s_check_replicas) (defBody s_check_replicas) (defScope s_check_replicas) [] [] (He.ga K "check_replicas") fd := T.c.def_ 1 (d := d_check_replicas) rfl
theorem Top.f_first_wrong_place (T : Top K mg) : ∃ fd, FunD K "first_wrong_place" "first_wrong_place" (defArgs s_first_wrong_place) (defBody s_first_wrong_place) (defScope s_first_wrong_place) [] [] (He.ga K "first_wrong_place") fd := T.c.def_ 2 (d := d_first_wrong_place) rfl
theorem Top.f_check_list (T : Top K mg) : ∃ fd, FunD K "check_list" "check_list" (defArgs s_check_list) (defBody s_check_list) (defScope s_check_list) [] [] (He.ga K "check_list") fd := T.c.def_ 3 (d := d_check_list) rfl
theorem Top.f_index_of (T : Top K mg) : ∃ fd, FunD K "index_of" "index_of" (defArgs s_index_of) (defBody s_index_of) (defScope s_index_of) [] [] (He.ga K "index_of") fd := T.c.def_ 4 (d := d_index_of) rfl
theorem Top.f_swap_at (T : Top K mg) : ∃ fd, FunD K "swap_at" "swap_at" (defArgs s_swap_at) (defBody s_swap_at) (defScope s_swap_at) [] [] (He.ga K "swap_at") fd := T.c.def_ 5 (d := d_swap_at) rfl
theorem Top.f_require_key (T : Top K mg) : ∃ fd, FunD K "require_key" "require_key" (defArgs s_require_key) (defBody s_require_key) (defScope s_require_key) [] [] (He.ga K "require_key") fd := T.c.def_ 6 (d := d_require_key) rfl
theorem Top.f_wrong_replica (T : Top K mg) : ∃ fd, FunD K "_wrong_replica" "_wrong_replica" (defArgs s_wrong_replica) (defBody s_wrong_replica) (defScope s_wrong_replica) [] [] (He.ga K "_wrong_replica") fd := T.c.def_ 7 (d := d_wrong_replica) rfl
theorem Top.f_State_init (T : Top K mg) : ∃ fd, FunD K "__init__" "State.__init__" (defArgs s_State_init) (defBody s_State_init) (defScope s_State_init) [] [] (He.ma K (He.ga K "State") "__init__") fd := T.c.def_ 8 (d := d_State_init) rfl
theorem Top.f_State_list_of (T : Top K mg) : ∃ fd, FunD K "list_of" "State.list_of" (defArgs s_State_list_of) (defBody s_State_list_of) (defScope s_State_list_of) [] [] (He.ma K (He.ga K "State") "list_of") fd := T.c.def_ 9 (d := d_State_list_of) rfl
theorem Top.f_State_lists (T : Top K mg) : ∃ fd, FunD K "lists" "State.lists" (defArgs s_State_lists) (defBody s_State_lists) (defScope s_State_lists) [] [] (He.ma K (He.ga K "State") "lists") fd := T.c.def_ 10 (d := d_State_lists) rfl
theorem Top.f_State_all_keys (T : Top K mg) : ∃ fd, FunD K "all_keys" "State.all_keys" (defArgs s_State_all_keys) (defBody s_State_all_keys) (defScope s_State_all_keys) [] [] (He.ma K (He.ga K "State") "all_keys") fd := T.c.def_ 11 (d := d_State_all_keys) rfl
theorem Top.f_State_says (T : Top K mg) : ∃ fd, FunD K "says" "State.says" (defArgs s_State_says) (defBody s_State_says) (defScope s_State_says) [] [] (He.ma K (He.ga K "State") "says") fd := T.c.def_ 12 (d := d_State_says) rfl
theorem Top.f_State_with_list (T : Top K mg) : ∃ fd, FunD K "with_list" "State.with_list" (defArgs s_State_with_list) (defBody s_State_with_list) (defScope s_State_with_list) [] [] (He.ma K (He.ga K "State") "with_list") fd := T.c.def_ 13 (d := d_State_with_list) rfl
theorem Top.f_State_eq (T : Top K mg) : ∃ fd, FunD K "__eq__" "State.__eq__" (defArgs s_State_eq) (defBody s_State_eq) (defScope s_State_eq) [] [] (He.ma K (He.ga K "State") "__eq__") fd := T.c.def_ 14 (d := d_State_eq) rfl
theorem Top.f_State_len (T : Top K mg) : ∃ fd, FunD K "__len__" "State.__len__" (defArgs s_State_len) (defBody s_State_len) (defScope s_State_len) [] [] (He.ma K (He.ga K "State") "__len__") fd := T.c.def_ 15 (d := d_State_len) rfl
theorem Top.f_first_wrong_pair (T : Top K mg) : ∃ fd, FunD K "_first_wrong_pair" "_first_wrong_pair" (defArgs s_first_wrong_pair) (defBody s_first_wrong_pair) (defScope s_first_wrong_pair) [] [] (He.ga K "_first_wrong_pair") fd := T.c.def_ 16 (d := d_first_wrong_pair) rfl
theorem Top.f_Reading_init (T : Top K mg) : ∃ fd, FunD K "__init__" "Reading.__init__" (defArgs s_Reading_init) (defBody s_Reading_init) (defScope s_Reading_init) [] [] (He.ma K (He.ga K "Reading") "__init__") fd := T.c.def_ 17 (d := d_Reading_init) rfl
theorem Top.f_Reading_pairs (T : Top K mg) : ∃ fd, FunD K "pairs" "Reading.pairs" (defArgs s_Reading_pairs) (defBody s_Reading_pairs) (defScope s_Reading_pairs) [] [] (He.ma K (He.ga K "Reading") "pairs") fd := T.c.def_ 18 (d := d_Reading_pairs) rfl
theorem Top.f_read (T : Top K mg) : ∃ fd, FunD K "read" "read" (defArgs s_read) (defBody s_read) (defScope s_read) [] [] (He.ga K "read") fd := T.c.def_ 19 (d := d_read) rfl
theorem Top.f_before_dict (T : Top K mg) : ∃ fd, FunD K "before_dict" "before_dict" (defArgs s_before_dict) (defBody s_before_dict) (defScope s_before_dict) [] [] (He.ga K "before_dict") fd := T.c.def_ 20 (d := d_before_dict) rfl
theorem Top.f_is_swap (T : Top K mg) : ∃ fd, FunD K "is_swap" "is_swap" (defArgs s_is_swap) (defBody s_is_swap) (defScope s_is_swap) [] [] (He.ga K "is_swap") fd := T.c.def_ 21 (d := d_is_swap) rfl
theorem Top.f_swap_pair (T : Top K mg) : ∃ fd, FunD K "swap_pair" "swap_pair" (defArgs s_swap_pair) (defBody s_swap_pair) (defScope s_swap_pair) [] [] (He.ga K "swap_pair") fd := T.c.def_ 22 (d := d_swap_pair) rfl
theorem Top.f_is_silent (T : Top K mg) : ∃ fd, FunD K "is_silent" "is_silent" (defArgs s_is_silent) (defBody s_is_silent) (defScope s_is_silent) [] [] (He.ga K "is_silent") fd := T.c.def_ 23 (d := d_is_silent) rfl
theorem Top.f_other_replicas (T : Top K mg) : ∃ fd, FunD K "_other_replicas" "_other_replicas" (defArgs s_other_replicas) (defBody s_other_replicas) (defScope s_other_replicas) [] [] (He.ga K "_other_replicas") fd := T.c.def_ 24 (d := d_other_replicas) rfl
theorem Top.f_swapped_state (T : Top K mg) : ∃ fd, FunD K "swapped_state" "swapped_state" (defArgs s_swapped_state) (defBody s_swapped_state) (defScope s_swapped_state) [] [] (He.ga K "swapped_state") fd := T.c.def_ 25 (d := d_swapped_state) rfl
theorem Top.f_apply_swap (T : Top K mg) : ∃ fd, FunD K "apply_swap" "apply_swap" (defArgs s_apply_swap) (defBody s_apply_swap) (defScope s_apply_swap) [] [] (He.ga K "apply_swap") fd := T.c.def_ 26 (d := d_apply_swap) rfl
theorem Top.f_home_list (T : Top K mg) : ∃ fd, FunD K "home_list" "home_list" (defArgs s_home_list) (defBody s_home_list) (defScope s_home_list) [] [] (He.ga K "home_list") fd := T.c.def_ 27 (d := d_home_list) rfl
theorem Top.f_settle (T : Top K mg) : ∃ fd, FunD K "settle" "settle" (defArgs s_settle) (defBody s_settle) (defScope s_settle) [] [(PySem.Str.ofString "replicas", V.ref (kwAt ("settle", none) "replicas" K))] (He.ga K "settle") fd := T.c.def_ 28 (d := d_settle) rfl
theorem Top.f_check_side (T : Top K mg) : ∃ fd, FunD K "check_side" "check_side" (defArgs s_check_side) (defBody s_check_side) (defScope s_check_side) [] [] (He.ga K "check_side") fd := T.c.def_ 29 (d := d_check_side) rfl
theorem Top.f_three_of (T : Top K mg) : ∃ fd, FunD K "_three_of" "_three_of" (defArgs s_three_of) (defBody s_three_of) (defScope s_three_of) [] [] (He.ga K "_three_of") fd := T.c.def_ 30 (d := d_three_of) rfl
theorem Top.f_ThreeWay_init (T : Top K mg) : ∃ fd, FunD K "__init__" "ThreeWay.__init__" (defArgs s_ThreeWay_init) (defBody s_ThreeWay_init) (defScope s_ThreeWay_init) [] [] (He.ma K (He.ga K "ThreeWay") "__init__") fd := T.c.def_ 31 (d := d_ThreeWay_init) rfl
theorem Top.f_ThreeWay_eq (T : Top K mg) : ∃ fd, FunD K "__eq__" "ThreeWay.__eq__" (defArgs s_ThreeWay_eq) (defBody s_ThreeWay_eq) (defScope s_ThreeWay_eq) [] [] (He.ma K (He.ga K "ThreeWay") "__eq__") fd := T.c.def_ 32 (d := d_ThreeWay_eq) rfl
theorem Top.f_ThreeWay_side (T : Top K mg) : ∃ fd, FunD K "side" "ThreeWay.side" (defArgs s_ThreeWay_side) (defBody s_ThreeWay_side) (defScope s_ThreeWay_side) [] [] (He.ma K (He.ga K "ThreeWay") "side") fd := T.c.def_ 33 (d := d_ThreeWay_side) rfl
theorem Top.f_ThreeWay_state (T : Top K mg) : ∃ fd, FunD K "state" "ThreeWay.state" (defArgs s_ThreeWay_state) (defBody s_ThreeWay_state) (defScope s_ThreeWay_state) [] [] (He.ma K (He.ga K "ThreeWay") "state") fd := T.c.def_ 34 (d := d_ThreeWay_state) rfl
theorem Top.f_ThreeWay_merged (T : Top K mg) : ∃ fd, FunD K "merged" "ThreeWay.merged" (defArgs s_ThreeWay_merged) (defBody s_ThreeWay_merged) (defScope s_ThreeWay_merged) [] [] (He.ma K (He.ga K "ThreeWay") "merged") fd := T.c.def_ 35 (d := d_ThreeWay_merged) rfl
theorem Top.f_ThreeWay_mirrored (T : Top K mg) : ∃ fd, FunD K "_mirrored" "ThreeWay._mirrored" (defArgs s_ThreeWay_mirrored) (defBody s_ThreeWay_mirrored) (defScope s_ThreeWay_mirrored) [] [] (He.ma K (He.ga K "ThreeWay") "_mirrored") fd := T.c.def_ 36 (d := d_ThreeWay_mirrored) rfl
theorem Top.f_ThreeWay_silent_edits (T : Top K mg) : ∃ fd, FunD K "silent_edits" "ThreeWay.silent_edits" (defArgs s_ThreeWay_silent_edits) (defBody s_ThreeWay_silent_edits) (defScope s_ThreeWay_silent_edits) [] [] (He.ma K (He.ga K "ThreeWay") "silent_edits") fd := T.c.def_ 37 (d := d_ThreeWay_silent_edits) rfl
theorem Top.f_ThreeWay_edit (T : Top K mg) : ∃ fd, FunD K "edit" "ThreeWay.edit" (defArgs s_ThreeWay_edit) (defBody s_ThreeWay_edit) (defScope s_ThreeWay_edit) [] [] (He.ma K (He.ga K "ThreeWay") "edit") fd := T.c.def_ 38 (d := d_ThreeWay_edit) rfl
theorem Top.f_ThreeWay_settled (T : Top K mg) : ∃ fd, FunD K "settled" "ThreeWay.settled" (defArgs s_ThreeWay_settled) (defBody s_ThreeWay_settled) (defScope s_ThreeWay_settled) [] [] (He.ma K (He.ga K "ThreeWay") "settled") fd := T.c.def_ 39 (d := d_ThreeWay_settled) rfl
theorem Top.f_law_box (T : Top K mg) : ∃ fd, FunD K "_law_box" "_law_box" (defArgs s_law_box) (defBody s_law_box) (defScope s_law_box) [] [] (He.ga K "_law_box") fd := T.c.def_ 40 (d := d_law_box) rfl
theorem Top.f_law_take (T : Top K mg) : ∃ fd, FunD K "_law_take" "_law_take" (defArgs s_law_take) (defBody s_law_take) (defScope s_law_take) [] [] (He.ga K "_law_take") fd := T.c.def_ 41 (d := d_law_take) rfl
theorem Top.f_law_keys (T : Top K mg) : ∃ fd, FunD K "_law_keys" "_law_keys" (defArgs s_law_keys) (defBody s_law_keys) (defScope s_law_keys) [] [] (He.ga K "_law_keys") fd := T.c.def_ 42 (d := d_law_keys) rfl
theorem Top.f_law_order (T : Top K mg) : ∃ fd, FunD K "_law_order" "_law_order" (defArgs s_law_order) (defBody s_law_order) (defScope s_law_order) [] [] (He.ga K "_law_order") fd := T.c.def_ 43 (d := d_law_order) rfl
theorem Top.f_law_exchanged (T : Top K mg) : ∃ fd, FunD K "_law_exchanged" "_law_exchanged" (defArgs s_law_exchanged) (defBody s_law_exchanged) (defScope s_law_exchanged) [] [] (He.ga K "_law_exchanged") fd := T.c.def_ 44 (d := d_law_exchanged) rfl
theorem Top.f_law_after (T : Top K mg) : ∃ fd, FunD K "_law_after" "_law_after" (defArgs s_law_after) (defBody s_law_after) (defScope s_law_after) [] [] (He.ga K "_law_after") fd := T.c.def_ 45 (d := d_law_after) rfl
theorem Top.f_law_places (T : Top K mg) : ∃ fd, FunD K "_law_places" "_law_places" (defArgs s_law_places) (defBody s_law_places) (defScope s_law_places) [] [] (He.ga K "_law_places") fd := T.c.def_ 46 (d := d_law_places) rfl
theorem Top.f_law_wins (T : Top K mg) : ∃ fd, FunD K "_law_wins" "_law_wins" (defArgs s_law_wins) (defBody s_law_wins) (defScope s_law_wins) [] [] (He.ga K "_law_wins") fd := T.c.def_ 47 (d := d_law_wins) rfl
theorem Top.f_law_merge (T : Top K mg) : ∃ fd, FunD K "_law_merge" "_law_merge" (defArgs s_law_merge) (defBody s_law_merge) (defScope s_law_merge) [] [] (He.ga K "_law_merge") fd := T.c.def_ 48 (d := d_law_merge) rfl
theorem Top.f_law_walked (T : Top K mg) : ∃ fd, FunD K "_law_walked" "_law_walked" (defArgs s_law_walked) (defBody s_law_walked) (defScope s_law_walked) [] [] (He.ga K "_law_walked") fd := T.c.def_ 49 (d := d_law_walked) rfl
theorem Top.f_law_put (T : Top K mg) : ∃ fd, FunD K "_law_put" "_law_put" (defArgs s_law_put) (defBody s_law_put) (defScope s_law_put) [] [] (He.ga K "_law_put") fd := T.c.def_ 50 (d := d_law_put) rfl
theorem Top.f_law_ring (T : Top K mg) : ∃ fd, FunD K "_law_ring" "_law_ring" (defArgs s_law_ring) (defBody s_law_ring) (defScope s_law_ring) [] [] (He.ga K "_law_ring") fd := T.c.def_ 51 (d := d_law_ring) rfl
theorem Top.f_law_parties (T : Top K mg) : ∃ fd, FunD K "_law_parties" "_law_parties" (defArgs s_law_parties) (defBody s_law_parties) (defScope s_law_parties) [] [] (He.ga K "_law_parties") fd := T.c.def_ 52 (d := d_law_parties) rfl
theorem Top.f_law_blocks (T : Top K mg) : ∃ fd, FunD K "_law_blocks" "_law_blocks" (defArgs s_law_blocks) (defBody s_law_blocks) (defScope s_law_blocks) [] [] (He.ga K "_law_blocks") fd := T.c.def_ 53 (d := d_law_blocks) rfl
theorem Top.f_law_three (T : Top K mg) : ∃ fd, FunD K "_law_three" "_law_three" (defArgs s_law_three) (defBody s_law_three) (defScope s_law_three) [] [] (He.ga K "_law_three") fd := T.c.def_ 54 (d := d_law_three) rfl
theorem Top.f_law_build (T : Top K mg) : ∃ fd, FunD K "_law_build" "_law_build" (defArgs s_law_build) (defBody s_law_build) (defScope s_law_build) [] [] (He.ga K "_law_build") fd := T.c.def_ 55 (d := d_law_build) rfl
theorem Top.f_law_is (T : Top K mg) : ∃ fd, FunD K "_law_is" "_law_is" (defArgs s_law_is) (defBody s_law_is) (defScope s_law_is) [] [] (He.ga K "_law_is") fd := T.c.def_ 56 (d := d_law_is) rfl
theorem Top.f_law_shown (T : Top K mg) : ∃ fd, FunD K "_law_shown" "_law_shown" (defArgs s_law_shown) (defBody s_law_shown) (defScope s_law_shown) [] [] (He.ga K "_law_shown") fd := T.c.def_ 57 (d := d_law_shown) rfl
theorem Top.f_law_silent (T : Top K mg) : ∃ fd, FunD K "_law_silent" "_law_silent" (defArgs s_law_silent) (defBody s_law_silent) (defScope s_law_silent) [] [] (He.ga K "_law_silent") fd := T.c.def_ 58 (d := d_law_silent) rfl
theorem Top.f_law_home (T : Top K mg) : ∃ fd, FunD K "_law_home" "_law_home" (defArgs s_law_home) (defBody s_law_home) (defScope s_law_home) [] [] (He.ga K "_law_home") fd := T.c.def_ 59 (d := d_law_home) rfl
theorem Top.f_law_homes (T : Top K mg) : ∃ fd, FunD K "_law_homes" "_law_homes" (defArgs s_law_homes) (defBody s_law_homes) (defScope s_law_homes) [] [] (He.ga K "_law_homes") fd := T.c.def_ 60 (d := d_law_homes) rfl
theorem Top.f_law_edited (T : Top K mg) : ∃ fd, FunD K "_law_edited" "_law_edited" (defArgs s_law_edited) (defBody s_law_edited) (defScope s_law_edited) [] [] (He.ga K "_law_edited") fd := T.c.def_ 61 (d := d_law_edited) rfl
theorem Top.f_law_edits_hold (T : Top K mg) : ∃ fd, FunD K "_law_edits_hold" "_law_edits_hold" (defArgs s_law_edits_hold) (defBody s_law_edits_hold) (defScope s_law_edits_hold) [] [] (He.ga K "_law_edits_hold") fd := T.c.def_ 62 (d := d_law_edits_hold) rfl
theorem Top.f_law_told_hold (T : Top K mg) : ∃ fd, FunD K "_law_told_hold" "_law_told_hold" (defArgs s_law_told_hold) (defBody s_law_told_hold) (defScope s_law_told_hold) [] [] (He.ga K "_law_told_hold") fd := T.c.def_ 63 (d := d_law_told_hold) rfl
theorem Top.f_law_sides_refused (T : Top K mg) : ∃ fd, FunD K "_law_sides_refused" "_law_sides_refused" (defArgs s_law_sides_refused) (defBody s_law_sides_refused) (defScope s_law_sides_refused) [] [] (He.ga K "_law_sides_refused") fd := T.c.def_ 64 (d := d_law_sides_refused) rfl
theorem Top.f_law_settled_holds (T : Top K mg) : ∃ fd, FunD K "_law_settled_holds" "_law_settled_holds" (defArgs s_law_settled_holds) (defBody s_law_settled_holds) (defScope s_law_settled_holds) [] [] (He.ga K "_law_settled_holds") fd := T.c.def_ 65 (d := d_law_settled_holds) rfl
theorem Top.f_law_walk_holds (T : Top K mg) : ∃ fd, FunD K "_law_walk_holds" "_law_walk_holds" (defArgs s_law_walk_holds) (defBody s_law_walk_holds) (defScope s_law_walk_holds) [] [] (He.ga K "_law_walk_holds") fd := T.c.def_ 66 (d := d_law_walk_holds) rfl
theorem Top.f_law (T : Top K mg) : ∃ fd, FunD K "law" "law" (defArgs s_law) (defBody s_law) (defScope s_law) [] [] (He.ga K "law") fd := T.c.def_ 67 (d := d_law) rfl
end
/-! ### the run: K is what stands at these places behind the top -/
def ad0 : List Nat := [3, 6, 4, 21, 31, 53, 74, 95, 116, 137, 158, 179, 200, 221, 242, 251, 256, 263, 270, 275, 282, 289, 296, 301, 425, 436, 590, 599, 604, 611, 618, 625, 630, 637, 644, 651, 660, 661, 668, 675, 790, 801, 808, 815, 822, 829, 834, 841, 848, 853, 860, 867, 872, 879, 884, 891, 898, 903, 910, 917]
def ad1 : List Nat := [922, 927, 934, 941, 948, 955, 960, 967, 974, 0, 20, 30, 52, 73, 94, 115, 136, 157, 178, 199, 220, 241, 250, 255, 262, 269, 274, 281, 288, 295, 300, 424, 435, 589, 598, 603, 610, 617, 624, 629, 636, 643, 650, 659, 653, 667, 674, 789, 800, 807, 814, 821, 828, 833, 840, 847, 852, 859, 866, 871]
def ad2 : List Nat := [878, 883, 890, 897, 902, 909, 916, 921, 926, 933, 940, 947, 954, 959, 966, 973, 15, 16, 17, 18, 19, 29, 32, 50, 51, 71, 72, 92, 93, 113, 114, 134, 135, 155, 156, 176, 177, 197, 198, 218, 219, 239, 240, 245, 246, 247, 248, 249, 252, 253, 254, 257, 258, 259, 260, 261, 264, 265, 266, 267]
def ad3 : List Nat := [268, 271, 272, 273, 276, 277, 278, 279, 280, 283, 284, 285, 286, 287, 290, 291, 292, 293, 294, 297, 298, 299, 313, 322, 332, 340, 348, 353, 360, 367, 374, 381, 386, 393, 400, 407, 412, 417, 422, 423, 426, 427, 430, 431, 432, 433, 434, 448, 455, 462, 469, 474, 479, 486, 493, 500, 507, 514, 521, 528]
def ad4 : List Nat := [535, 542, 549, 556, 563, 570, 577, 582, 587, 588, 591, 592, 595, 596, 597, 600, 601, 602, 605, 606, 607, 608, 609, 612, 613, 614, 615, 616, 619, 620, 621, 622, 623, 626, 627, 628, 631, 632, 633, 634, 635, 638, 639, 640, 641, 642, 645, 646, 647, 648, 649, 654, 655, 656, 657, 658, 652, 662, 663, 664]
def ad5 : List Nat := [665, 666, 669, 670, 671, 672, 673, 689, 696, 703, 710, 717, 724, 731, 738, 745, 752, 759, 766, 773, 780, 787, 788, 791, 792, 795, 796, 797, 798, 799, 802, 803, 804, 805, 806, 809, 810, 811, 812, 813, 816, 817, 818, 819, 820, 823, 824, 825, 826, 827, 830, 831, 832, 835, 836, 837, 838, 839, 842, 843]
def ad6 : List Nat := [844, 845, 846, 849, 850, 851, 854, 855, 856, 857, 858, 861, 862, 863, 864, 865, 868, 869, 870, 873, 874, 875, 876, 877, 880, 881, 882, 885, 886, 887, 888, 889, 892, 893, 894, 895, 896, 899, 900, 901, 904, 905, 906, 907, 908, 911, 912, 913, 914, 915, 918, 919, 920, 923, 924, 925, 928, 929, 930, 931]
def ad7 : List Nat := [932, 935, 936, 937, 938, 939, 942, 943, 944, 945, 946, 949, 950, 951, 952, 953, 956, 957, 958, 961, 962, 963, 964, 965, 968, 969, 970, 971, 972, 49, 38, 70, 59, 91, 80, 112, 101, 133, 122, 154, 143, 175, 164, 196, 185, 217, 206, 238, 227, 312, 320, 321, 330, 331, 338, 339, 347, 352, 359, 366]
def ad8 : List Nat := [373, 380, 385, 392, 399, 406, 411, 416, 421, 447, 454, 461, 468, 473, 478, 485, 492, 499, 506, 513, 520, 527, 534, 541, 548, 555, 562, 569, 576, 581, 586, 688, 695, 702, 709, 716, 723, 730, 737, 744, 751, 758, 765, 772, 779, 786]
def ads : List Nat := cStatics :: (ad0 ++ (ad1 ++ (ad2 ++ (ad3 ++ (ad4 ++ (ad5 ++ (ad6 ++ (ad7 ++ (ad8)))))))))
/-- the part of the heap, laid out once -/
def layK {α : Type} (g : Addr → Option Obj) : List Nat → (PySem.W.Frag → α) → α
  | [], k => k []
  | a :: r, k => match g a with
    | some o => HandSHeadRun.frNat a fun a => layK g r fun K => k ((a, o) :: K)
    | none => layK g r k
theorem layK_eq {α : Type} (g : Addr → Option Obj) : ∀ (l : List Nat) (k : PySem.W.Frag → α), layK g l k = k (He.frG g l)
  | [], k => rfl
  | a :: r, k => by
    show (match g a with
      | some o => HandSHeadRun.frNat a fun a => layK g r fun K => k ((a, o) :: K)
      | none => layK g r k) = k ((a :: r).filterMap fun a => (g a).map fun o => (a, o))
    rw [List.filterMap_cons]
    cases e : g a with
    | none => exact layK_eq g r k
    | some o =>
      show HandSHeadRun.frNat a (fun a => layK g r fun K => k ((a, o) :: K)) = _
      rw [HandSHeadRun.frNat_eq]
      exact layK_eq g r fun K => k ((a, o) :: K)
abbrev AlK : Type := He.AlD × Bool × List ErD
def obsA (K : PySem.W.Frag) : AlK := (He.obsD fa fn K, exB K, obsL K)
def obsK (g : Addr → Option Obj) : AlK := layK g ads obsA
def valK : AlK := (He.valD fn, true, valL)
structure SaysK (K : PySem.W.Frag) : Prop where
  c : He.SaysD fa fn K
  ex : exB K = true
  ob : obsL K = valL
theorem saysK_of {g : Addr → Option Obj} (e : obsK g = valK) : SaysK (He.frG g ads) := by
  unfold obsK at e
  rw [layK_eq] at e
  exact ⟨congrArg (fun z : AlK => z.1) e, congrArg (fun z : AlK => z.2.1) e, congrArg (fun z : AlK => z.2.2) e⟩
def hookK : PySem.W.Hook where
  α := AlK
  obs := fun s => obsK s.heap.get?
  val := fun _ => valK
  says := fun _ h => ∃ K : PySem.W.Frag, K.In h ∧ SaysK K
  of := fun _ _ e => ⟨_, He.frG_in, saysK_of e⟩
  keeps := fun _ _ _ ⟨K, hK, c⟩ k => ⟨K, PySem.W.Frag.In.keeps hK k, c⟩
theorem obsK_at {g : Addr → Option Obj} {s : Shared} (h : ∀ a, g a = s.heap.get? a) : obsK g = hookK.obs s := by
  have e : g = s.heap.get? := funext h
  rw [e] <;> rfl
end K38
end
section
set_option Elab.async false
set_option linter.all false
set_option maxRecDepth 100000
set_option maxHeartbeats 0
namespace K38
open PySem PySem.W PySem.Calls PyProof.Rows
abbrev RR : OpenRow := OpenLaw.row PySem.Challenge.rw_quorumdrift_k38_whole_silent_edits
def namesA : List PySem.Str := [PySem.Str.ofString "_wall", PySem.Str.ofString "DriftError", PySem.Str.ofString "InvalidList", PySem.Str.ofString "UnknownKey", PySem.Str.ofString "UnknownReplica", PySem.Str.ofString "InvalidState", PySem.Str.ofString "SharedKey", PySem.Str.ofString "InvalidReading", PySem.Str.ofString "InvalidLine", PySem.Str.ofString "InvalidSwap", PySem.Str.ofString "AudibleSwap", PySem.Str.ofString "InvalidSide", PySem.Str.ofString "MAX_KEYS", PySem.Str.ofString "MAX_KEY", PySem.Str.ofString "check_replica", PySem.Str.ofString "check_replicas", PySem.Str.ofString "first_wrong_place", PySem.Str.ofString "check_list", PySem.Str.ofString "index_of", PySem.Str.ofString "swap_at", PySem.Str.ofString "DIGITS", PySem.Str.ofString "SEPARATOR", PySem.Str.ofString "require_key", PySem.Str.ofString "_wrong_replica", PySem.Str.ofString "_is_key_text", PySem.Str.ofString "State", PySem.Str.ofString "_first_wrong_pair", PySem.Str.ofString "Reading", PySem.Str.ofString "read", PySem.Str.ofString "before_dict", PySem.Str.ofString "is_swap", PySem.Str.ofString "swap_pair", PySem.Str.ofString "is_silent", PySem.Str.ofString "_other_replicas", PySem.Str.ofString "swapped_state"]
def namesB : List PySem.Str := [PySem.Str.ofString "apply_swap", PySem.Str.ofString "home_list", PySem.Str.ofString "settle", PySem.Str.ofString "SIDES", PySem.Str.ofString "check_side", PySem.Str.ofString "_three_of", PySem.Str.ofString "ThreeWay", PySem.Str.ofString "_law_box", PySem.Str.ofString "_law_take", PySem.Str.ofString "_law_keys", PySem.Str.ofString "_law_order", PySem.Str.ofString "_law_exchanged", PySem.Str.ofString "_law_after", PySem.Str.ofString "_law_places", PySem.Str.ofString "_law_wins", PySem.Str.ofString "_law_merge", PySem.Str.ofString "_law_walked", PySem.Str.ofString "_law_put", PySem.Str.ofString "_law_ring", PySem.Str.ofString "_law_parties", PySem.Str.ofString "_law_blocks", PySem.Str.ofString "_law_three", PySem.Str.ofString "_law_build", PySem.Str.ofString "_law_is", PySem.Str.ofString "_law_shown", PySem.Str.ofString "_law_silent", PySem.Str.ofString "_law_home", PySem.Str.ofString "_law_homes", PySem.Str.ofString "_law_edited", PySem.Str.ofString "_law_edits_hold", PySem.Str.ofString "_law_told_hold", PySem.Str.ofString "_law_sides_refused", PySem.Str.ofString "_law_settled_holds", PySem.Str.ofString "_law_walk_holds"]
def names : List PySem.Str := namesA ++ namesB
def obT (s : PySem.W.SharedT) : AlK := obsK (HandSHeadRun.getT s)
theorem obT_eq (s : PySem.W.SharedT) : obT s = hookK.obs s.abs := obsK_at (HandSHeadRun.getT_eq s)
theorem run (w : World) : HandSHeadRun.RunEq RR (PySem.W.view RR.prog [77]) hookK obT 40000 names w := by
  intro os
  kernel_rfl
end K38
end
section
set_option Elab.async false
set_option linter.all false
set_option maxRecDepth 100000
set_option maxHeartbeats 4000000
/-! Rules that the layer lacks: len of an own instance, == by an own __eq__ with either answer, enumerate of a tuple, list(reversed(a list)). -/
namespace K38
open PySem PySem.Spec PyProof.Rows L2
section
variable {X : Cx}
/-! ### len(o), by the class's own __len__ -/
/-- the promise of such a __len__: some number in bounds -/
def rLenO (C : Addr) (sp : Sp) : List V → Hp → VK → Prop := fun xs H Q =>
  ∃ a dx fs, xs = [.ref a] ∧ H a = some (.ins C dx fs) ∧ sp [.ref a] H (fun v H' => ∃ n : Int, v = .int n ∧ (0 ≤ n ∧ n < 2 ^ 63) ∧ Q (.int n) H') (fun _ _ _ => False)
theorem call_lenO {k : Nat} {C f : Addr} {fd : FuncData} {ps : List Str} {sp : Sp} (F : FnOk X.prog X.w X.K X.mg X.base (L2.CX X.prog X.w) k f fd ps sp) (hr : Room (k + 1) X.A)
    (hs : PySem.W.findIn X.K (.ref C) "__len__" = some (some (.ref f))) (hf : PySem.W.isFn X.K (.ref f) = true) (hb : Binds X.K fd ps []) : CallR X (.builtin "len") (rLenO C sp) := by
  intro pins s σ H xs us Q I r h
  obtain ⟨a, dx, fs, rfl, ha, q⟩ := h
  have eus : us = [.ref a] := Vals.ref1 r
  subst eus
  obtain ⟨mA, J, _⟩ := ins_get I.hok ha
  obtain ⟨od, J, _⟩ := J.look
  obtain ⟨m, hF⟩ := I.fr
  refine PySem.W.len_K hF I.ok.mod.kin J hs hf ?_
  have hl := F.len _ _ _ _ q
  have r2 : Vals [V.ref a] [Value.ref a] := .cons rfl .nil
  have bt : BindsTo s fd ⟨[.ref a], []⟩ (ps.zip [.ref a]) := by
    have z := hb s [.ref a] I.kIn (by simpa using hl)
    simpa using z
  refine wpAny_call (codeAny_mono (F.run X.A.in1 X.stack s H ⟨[.ref a], []⟩ [.ref a] [.ref a] _ E0 hr.in1 I.env0.in1 bt r2 q) fun r s' hq => ?_)
  cases r with
  | error e =>
    obtain ⟨_, _, _, _, _, _, _, _, _, _, _, _, z⟩ := hq
    exact z.elim
  | ok fl =>
    cases fl with
    | ret u =>
      obtain ⟨v, H', I', rv, n, ev, hn, q'⟩ := I.after hq
      subst ev
      obtain ⟨t, rfl⟩ := rv
      refine ⟨hn, ?_⟩
      exact ⟨.int n, H', I'.tok _, ⟨_, rfl⟩, q'⟩
    | next => exact hq.elim
    | brk => exact hq.elim
    | cont => exact hq.elim
/-! ### a == b of two instances of one class with an own __eq__ -/
def rEqO (C : Addr) (sp : Sp) : R2 := fun x y H Q =>
  ∃ a b dx dy fs gs, x = .ref a ∧ y = .ref b ∧ H a = some (.ins C dx fs) ∧ H b = some (.ins C dy gs) ∧ sp [.ref a, .ref b] H (fun v H' => ∃ t : Bool, v = .bl t ∧ Q (.bl t) H') (fun _ _ _ => False)
theorem op_eqO {k : Nat} {C f : Addr} {fd : FuncData} {ps : List Str} {sp : Sp} (F : FnOk X.prog X.w X.K X.mg X.base (L2.CX X.prog X.w) k f fd ps sp) (hr : Room k X.A)
    (hs : PySem.W.findIn X.K (.ref C) "__eq__" = some (some (.ref f))) (hf : PySem.W.isFn X.K (.ref f) = true) (hb : Binds X.K fd ps []) : OpR X (compareOp .Eq) (rEqO C sp) := by
  intro pins s σ H x y v u Q I rx ry h
  obtain ⟨a, b, dx, dy, fs, gs, rfl, rfl, ha, hb', q⟩ := h
  cases rx
  cases ry
  obtain ⟨mA, J, _⟩ := ins_get I.hok ha
  obtain ⟨mB, J', _⟩ := ins_get I.hok hb'
  obtain ⟨od, J, _⟩ := J.look
  obtain ⟨od', J', _⟩ := J'.look
  obtain ⟨m, hF⟩ := I.fr
  have same : PySem.W.notFirst X.K C (.ref C) = true := by simp [PySem.W.notFirst]
  show wpAny (model X.prog X.w) X.A (richCompare .Eq (.ref a) (.ref b)) (EP X pins σ Q) X.xe s
  refine PySem.W.cmp_K (op := .Eq) (tb := .ref C) hr.units0 hF I.ok.mod.kin J J'.type same hs hf ?_
  have hl := F.len _ _ _ _ q
  have r2 : Vals [V.ref a, V.ref b] [Value.ref a, Value.ref b] := .cons rfl (.cons rfl .nil)
  have bt : BindsTo s fd ⟨[.ref a, .ref b], []⟩ (ps.zip [.ref a, .ref b]) := by
    have z := hb s [.ref a, .ref b] I.kIn (by simpa using hl)
    simpa using z
  refine wpAny_call (codeAny_mono (F.run X.A X.stack s H ⟨[.ref a, .ref b], []⟩ [.ref a, .ref b] [.ref a, .ref b] _ E0 hr I.env0 bt r2 q) fun r s' hq => ?_)
  cases r with
  | error e =>
    obtain ⟨_, _, _, _, _, _, _, _, _, _, _, _, z⟩ := hq
    exact z.elim
  | ok fl =>
    cases fl with
    | ret u =>
      obtain ⟨v, H', I', rv, t, ev, q'⟩ := I.after hq
      subst ev
      obtain rfl : u = Value.bool t := rv
      exact ⟨.bl t, H', I', rfl, q'⟩
    | next => exact hq.elim
    | brk => exact hq.elim
    | cont => exact hq.elim
end
/-! ### for i, x in enumerate(t), t a tuple -/
abbrev tupIt (l : Addr) : Obj := { cls := .type "tuple_iterator", data := .fields #[.ref l, .int 0 0] }
abbrev enumO (i : Addr) : Obj := { cls := .type "enumerate", data := .fields #[.none, .bool false, .ref i, rawInt 0, .none, .none] }
theorem enumT_new (l : Addr) (items : Array Value) (n : Nat) (dct : Option Addr) (sl : Array (Option Value)) :
    Meets (Builtin.«enumerate.__new__» ⟨[.type "enumerate", .ref l], []⟩)
      (fun _ R s => s.heap.get? l = some { cls := .type "tuple", dict := dct, data := .seq items n, slots := sl } ∧
        R (.ok (.ret (.ref (s.heap.objs.size + 1))))
          { s with heap := (s.heap.push (tupIt l)).push (enumO s.heap.objs.size) }) :=
  .of_wp fun prog w A R s h => by
    obtain ⟨hp, g, d, tk, os⟩ := s
    obtain ⟨hl, h⟩ := h
    have hsub := sub_enumerate
    have hL : Heap.IsTuple (Shared.heap ⟨hp, g, d, tk, os⟩) l items := ⟨_, hl, rfl, n, rfl⟩
    have hz : (hp.push (tupIt l)).objs.size = hp.objs.size + 1 := Heap.size_push ..
    rw [← hz] at h
    wp_walk using AutoSeq1.wpAny_loadPart' hl
    refine wpAny_stack_any fun st => wpAny_pure ?_
    split
    · rename_i c _ _ _ _ _
      cases (c == Value.type "enumerate")
      · wp_walk using AutoSeq1.wpAny_loadPart' hl, wpAny_pyIter_tuple hL
        exact ⟨_, rfl, h⟩
      · wp_walk using AutoSeq1.wpAny_loadPart' hl, wpAny_pyIter_tuple hL
        exact ⟨_, rfl, h⟩
    · wp_walk using AutoSeq1.wpAny_loadPart' hl, wpAny_pyIter_tuple hL
      exact ⟨_, rfl, h⟩
section
variable {prog : Program} {w : World} {A : Around} {E : Value → Shared → Prop} {s : Shared}
theorem call_enumT {l : Addr} {items : Array Value} {Q : Value → Shared → Prop} (hL : s.heap.IsTuple l items)
    (h : ∀ h', IsEnum h' (s.heap.objs.size + 1) s.heap.objs.size 0 .none → h'.IsTupleIter s.heap.objs.size l 0 → (∀ b o, s.heap.get? b = some o → h'.get? b = some o) →
      Q (.ref (s.heap.objs.size + 1)) { s with heap := h' }) : wpAny (model prog w) A (call (.type "enumerate") [.ref l]) Q E s := by
  obtain ⟨⟨c, dct, dt, sl⟩, hl, hc, n, hd⟩ := hL
  have hc : c = .type "tuple" := hc
  have hd : dt = .seq items n := hd
  subst hc hd
  have e1 : ((s.heap.push (tupIt l)).push (enumO s.heap.objs.size)).get? (s.heap.objs.size + 1) = some (enumO s.heap.objs.size) := by
    have z := Heap.get?_push_size (s.heap.push (tupIt l)) (o := enumO s.heap.objs.size) rfl
    rw [Heap.size_push] at z
    exact z
  refine callType_new F.called_enumerate (by decide) (F.typeCall_enumerate_1 _) (F.newCall_enumerate_1 _)
    (fun obj => F.args_object_init_2 obj _) F.entry_enumerate_new (enumT_new l items n dct sl) ⟨hl, ?_⟩
  refine ⟨⟨_, e1, rfl⟩, h _ e1 ⟨_, Heap.get?_push_of_some _ (Heap.get?_push_size _ rfl), rfl, rfl⟩ fun b o x => ?_⟩
  exact Heap.get?_push_of_some _ (Heap.get?_push_of_some _ x)
end
/-- the tuple at a, each item in a new pair with its place -/
def IteT (K : PySem.W.Frag) (a : Addr) : It where
  go i H := ∃ (xs : List V) (x : V), SqT K H a xs ∧ xs[i]? = some x
  yld i H v H' := ∃ T x, v = .ref T ∧ H T = none ∧ H' = upd H T (.tup [.int (i : Nat), x]) ∧ ∀ xs, SqT K H a xs → xs[i]? = some x
  stop i H := ∃ xs : List V, SqT K H a xs ∧ xs.length = i
theorem turn_enumT {P : Program} {w : World} {K : PySem.W.Frag} {elts : List Expr} {kk : Nat} {tpos : Pos} (a e it : Addr) :
    Turn P w K (.Tuple elts kk tpos) (IteT K a) [e, it] e (fun i h => (∃ old, IsEnum h e it ((i : Nat) : Int) old) ∧ h.IsTupleIter it a i ∧ e ≠ it ∧ e ≠ a ∧ a ≠ it) where
  mem := by simp
  obj := fun i h st b hb => by
    obtain ⟨⟨old, he⟩, ⟨o, ho, hc, hd⟩, _⟩ := st
    rcases (show b = e ∨ b = it by simpa using hb) with z | z
    · rw [z]
      exact ⟨_, he, fun v q => nomatch q⟩
    · rw [z]
      exact ⟨o, ho, fun v q => by rw [hd] at q; cases q⟩
  keep := fun i h h' st k => by
    obtain ⟨⟨old, he⟩, hi, hne⟩ := st
    exact ⟨⟨old, k e (by simp) _ he⟩, hi.at fun o q => k it (by simp) o q, hne⟩
  item := by
    intro X hP hw hK hc i pins s σ H E I hf st hg
    subst hP hw hK
    obtain ⟨⟨old, he⟩, hit, hne, hea, hai⟩ := st
    obtain ⟨xs, x, hq, hx⟩ := hg
    obtain ⟨its, rv, p, hz⟩ := I.tuple hq
    have pT : s.heap.IsTuple a its.toArray := p
    have he1 : e < s.heap.objs.size := Heap.lt_size he
    have hi1 : it < s.heap.objs.size := by
      obtain ⟨_, q, _⟩ := hit
      exact Heap.lt_size q
    have D := Draws.tuple (prog := X.prog) (w := X.w) (A := X.A.in1) (I.ok.hd hc) it a hai its.toArray
    have hlt : i < its.toArray.size := by
      have z := (List.getElem?_eq_some_iff.mp hx).1
      rw [List.size_toArray, ← rv.length]
      exact z
    have hef : e ∉ [it, a] := by simp [hne, hea]
    refine wpAny_pyNext_enum_itemD D he ⟨hit, pT⟩ hlt hne hef fun y h' tk hy ho st' hT hsz hk => ?_
    obtain ⟨u, hu, ru⟩ := rv.get hx
    have ey : y = u := by
      have z : its.toArray[i]? = some y := hy
      have z2 : its.toArray[i]? = some u := by simpa using hu
      exact Option.some.inj (z.symm.trans z2)
    subst ey
    refine ⟨_, rfl, wpAny_letOwnedTupleGo_enum (s := { s with heap := h', toks := tk + 1 }) ho fun h'' he' sb => ?_⟩
    have hT2 := (sb.2 _ (Nat.ne_of_gt he1)).trans hT
    have new : ObjOk X.prog X.w (upd H s.heap.objs.size (.tup [.int (i : Nat), x])) h'' s.heap.objs.size (.tup [.int (i : Nat), x]) := by
      refine ⟨?_, [.int i tk, y], .cons ⟨_, rfl⟩ (.cons ru .nil), ⟨_, hT2, rfl, _, rfl⟩⟩
      show 2 ≤ sizeLine
      decide
    have kk2 : ∀ b ob, b ∉ [e, it] → s.heap.get? b = some ob → h''.get? b = some ob := fun b ob hb q => by
      have b1 : b ≠ e := fun z => hb (by simp [z])
      have b2 : b ≠ it := fun z => hb (by simp [z])
      exact (sb.2 b b1).trans (hk b ob b1 b2 q)
    have I1 := I.turnedNew (t' := tk + 1) (ch := [e, it]) kk2 hf (Nat.le_refl _) new
    refine ⟨.ref s.heap.objs.size, _, I1, rfl, ⟨_, x, rfl, I.hok.fresh (Nat.le_refl _), rfl, fun ys hy => ?_⟩, ⟨⟨y, ?_⟩, ?_, hne, hea, hai⟩, fun b hb => ?_⟩
    · rw [I.tuple_inj hy hq]
      exact hx
    · rw [show ((i + 1 : Nat) : Int) = (i : Int) + 1 by omega]
      exact he'
    · exact st'.1.at fun o q => (sb.2 it (Ne.symm hne)).trans q
    · have hb' : b < s.heap.objs.size := by
        rcases (show b = e ∨ b = it by simpa using hb) with z | z
        · rw [z]
          exact he1
        · rw [z]
          exact hi1
      rw [upd_ne (Nat.ne_of_lt hb')]
      exact (hf b hb).1
  done := by
    intro X hP hw hK hc i pins s σ H E I hf st hg
    subst hP hw hK
    obtain ⟨⟨old, he⟩, hit, hne, hea, hai⟩ := st
    obtain ⟨xs, hq, hx⟩ := hg
    obtain ⟨its, rv, p, hz⟩ := I.tuple hq
    have pT : s.heap.IsTuple a its.toArray := p
    obtain ⟨f0, f1, f2, f3, f4, f5⟩ := hf it (by simp)
    have D := Draws.tuple (prog := X.prog) (w := X.w) (A := X.A.in1) (I.ok.hd hc) it a hai its.toArray
    have en : its.toArray.size = i := by rw [List.size_toArray, ← rv.length]; exact hx
    refine wpAny_pyNext_enum_endD D he ⟨by rw [en]; exact hit, pT⟩ fun h' eb => ⟨rfl, ?_⟩
    exact I.turned (t' := s.toks) (fun b o hb q => eb b o hb q) f0 f1 f3 f4 f5
  self := fun A i s Q E st h => by
    obtain ⟨⟨_, he⟩, _⟩ := st
    exact wpAny_pyIter_enum he h
def iEnumT (K : PySem.W.Frag) (ta : TA) : TI := fun σ H R => ta σ H fun vs H1 => ∃ a xs, vs = [.ref a] ∧ SqT K H1 a xs ∧ R (IteT K a) H1
theorem pi_enumT {X : Cx} {e : Expr} {ta : TA} {p pos tpos : Pos} {elts : List Expr} {kk : Nat} (hg : Gl X "enumerate") (hm : X.mg "enumerate" = none) (ha : PA X [e] ta)
    (hs : starEach [e] X.env = [(false, eval e X.env)] := by rfl) : PI X (.Tuple elts kk tpos) (.Call (.Name "enumerate" p) [e] [] pos) (iEnumT X.K ta) := by
  refine ⟨fun pins s σ H R I h => ?_⟩
  refine Call_ (ld_blt I hg hm boot_enumerate (PyProof.Rows.callWith_type1 (thn (ha.run pos pins s σ H _ I h) fun us s1 hh => ?_) hs rfl))
  obtain ⟨vs, H1, I1, r1, a, xs, ex, hq, q⟩ := hh
  subst ex
  have eus : us = [.ref a] := Vals.ref1 r1
  subst eus
  obtain ⟨its, rv, p', hz⟩ := I1.tuple hq
  have pT : s1.heap.IsTuple a its.toArray := p'
  have hla : a < s1.heap.objs.size := by
    obtain ⟨o, ho, _⟩ := pT
    exact Heap.lt_size ho
  refine call_enumT pT fun h' he hit hk => wpAny_pyIter_enum he ?_
  have I2 : Inv X pins σ H1 { s1 with heap := h' } := I1.kept (t' := s1.toks) hk
  refine ⟨s1.heap.objs.size + 1, [s1.heap.objs.size + 1, s1.heap.objs.size], _, _, H1, rfl, I2, turn_enumT a (s1.heap.objs.size + 1) s1.heap.objs.size,
    ⟨⟨.none, he⟩, hit, Nat.succ_ne_self _, Nat.ne_of_gt (Nat.lt_succ_of_lt hla), Nat.ne_of_lt hla⟩, fun b hb => ?_, q⟩
  have hle : s1.heap.objs.size ≤ b := by
    rcases (show b = s1.heap.objs.size + 1 ∨ b = s1.heap.objs.size by simpa using hb) with z | z
    · rw [z]
      exact Nat.le_succ _
    · rw [z]
      exact Nat.le_refl _
  exact I1.fpOk hle (I1.hok.fresh hle)
/-- a loop over it, unrolled by the place -/
theorem for_enumT {K : PySem.W.Frag} {a : Addr} {xs : List V} {g : TG} {tb : TS} {D : Ends} {σ : L2.St} {H : Hp} (Pv : Nat → L2.St → Hp → Prop) (h0 : Pv 0 σ H) (hl : ∀ i σ H, Pv i σ H → SqT K H a xs)
    (hs : ∀ i x T σ H, xs[i]? = some x → Pv i σ H → H T = none → g (.ref T) σ (upd H T (.tup [.int (i : Nat), x])) fun σ2 H2 => tb { D with nx := Pv (i + 1), ct := Pv (i + 1), bk := D.nx } σ2 H2)
    (hd : ∀ σ H, Pv xs.length σ H → D.nx σ H) : ∃ W : Nat → Nat → L2.St → Hp → Prop, (∃ m, W 0 m σ H) ∧ ∀ i m σ H, W i m σ H →
      ((IteT K a).stop i H ∧ D.nx σ H) ∨ ((IteT K a).go i H ∧ ∃ N : L2.St → Hp → Prop, (∀ σ' H', N σ' H' → ∃ m', m' < m ∧ W (i + 1) m' σ' H') ∧
        ∀ x H', (IteT K a).yld i H x H' → g x σ H' fun σ2 H2 => tb { D with nx := N, ct := N, bk := D.nx } σ2 H2) := by
  refine ⟨fun i m σ H => i + m = xs.length ∧ Pv i σ H, ⟨xs.length, by omega, h0⟩, fun i m σ H hw => ?_⟩
  obtain ⟨em, hp⟩ := hw
  have hq := hl i σ H hp
  by_cases hi : i < xs.length
  · refine .inr ⟨⟨xs, xs[i], hq, List.getElem?_eq_getElem hi⟩, Pv (i + 1), fun σ' H' z => ⟨m - 1, by omega, by omega, z⟩, fun x H' hy => ?_⟩
    obtain ⟨T, y, rfl, nT, rfl, f⟩ := hy
    exact hs i y T σ H (f xs hq) hp nT
  · have e : i = xs.length := by omega
    subst e
    exact .inl ⟨⟨xs, hq, rfl⟩, hd σ H hp⟩
/-! ### list(reversed(xs)) -/
section
open PySem.W
variable {prog : Program} {w : World} {A : Around} {E : Value → Shared → Prop} {s : Shared}
/-- the empty list at S is filled from the back of l -/
theorem ext_rev {it l S : Addr} {items : Array Value} {res : Value} {c : Nat} {R : Result → Shared → Prop} (hh : A.handled = none) (hit : s.heap.IsRevIter it l ((items.size : Int) - 1)) (hl : s.heap.IsList l items) (hne : l ≠ it)
    (hn : items.size ≤ sizeLine) (hSi : S ≠ it) (hSl : S ≠ l) (hS : s.heap.get? S = some { cls := .type "list", data := .seq #[] c })
    (hR : ∀ h' tk acc c', (∀ b o, b ≠ S → b ≠ it → s.heap.get? b = some o → h'.get? b = some o) → h'.get? S = some { cls := .type "list", dict := none, data := .seq acc c', slots := #[] } →
      ItemsOf (fun i v => items[items.size - 1 - i]? = some v) acc items.size → R (.ok (.ret res)) { s with heap := h', toks := tk }) :
    wpAny (model prog w) A.in1 (Builtin.List.listExtendWith (.ref S) (.ref it) res)
      (fun fin s' => match fin with | .done f => R (.ok f) s' | .again c' => c'.quiet = true ∧ codeAny (model prog w) A c' R s') (fun e s' => R (.error e) s') s := by
  have W := (Walks.listRev (prog := prog) (w := w) (A := A.in1) hh it l hne items).toS
  have hSf : S ∉ [it, l] := by simp [hSi, hSl]
  have hT : s.TypeIs (.ref it) "list_reverseiterator" := hit.typeIs
  have h1 : Builtin.List.listSameRef (.ref S) (.ref it) = false := by simp [Builtin.List.listSameRef, hSi]
  unfold Builtin.List.listExtendWith
  refine wpAny_bind (wpAny_typeOf hT ?_)
  rw [if_neg (by rw [h1]; decide)]
  refine wpAny_bind (wpAny_pyIter_revIter hit (wpAny_bind (wpAny_holding ?_)))
  unfold Builtin.List.listLengthHint
  refine wpAny_bind (wpAny_specialOf hT RT.nolen_lri (wpAny_bind (m := specialOf (Value.ref it) (PySem.Str.ofString "__length_hint__")) (wpAny_specialOf hT RT.hint_lri ?_)))
  generalize hid : ("list_reverseiterator.__length_hint__" : String) = id0
  wp_delta
  rw [show splitId id0 = some ("list_reverseiterator", "__length_hint__") from by rw [← hid]; decide +kernel]
  subst hid
  refine wpAny_bind (wpAny_isInstance (b := true) hT (by rw [isSubtype_type]; kernel_rfl) (wpAny_pure ?_))
  rw [if_neg (by decide)]
  have e0 : ((items.size : Nat) : Int) - 1 - ((0 : Nat) : Int) = (items.size : Int) - 1 := by omega
  refine wpAny_pure ⟨plainId_quiet F.plain_extend_loop _, ?_⟩
  refine codeAny_extend_loopS W hn S hSf res items.size 0 _ #[] c rfl (Nat.zero_le _) ⟨Nat.zero_le _, by rw [e0]; exact hit, hl⟩ hS (ItemsOf.nil _) fun s' acc c' hm hS' hacc => ?_
  rw [Moved.eq_with hm]
  refine hR s'.heap s'.toks acc c' (fun b o hb hb2 e => hm.heap b o (fun z => ?_) e) hS' hacc
  rcases List.mem_cons.mp z with z | z
  · exact hb z
  · exact hb2 (List.mem_singleton.mp z)
theorem call_list_rev {it l : Addr} {items : Array Value} {Q : Value → Shared → Prop} (hh : A.handled = none) (hit : s.heap.IsRevIter it l ((items.size : Int) - 1)) (hl : s.heap.IsList l items) (hne : l ≠ it)
    (hn : items.size ≤ sizeLine) (hQ : ∀ h' tk acc c', (∀ b o, b ≠ it → s.heap.get? b = some o → h'.get? b = some o) →
      h'.get? s.heap.objs.size = some { cls := .type "list", dict := none, data := .seq acc c', slots := #[] } → ItemsOf (fun i v => items[items.size - 1 - i]? = some v) acc items.size →
      Q (.ref s.heap.objs.size) { s with heap := h', toks := tk }) : wpAny (model prog w) A (call (.type "list") [.ref it]) Q E s := by
  refine callType_codes (Q₁ := fun obj s₁ => obj = .ref s.heap.objs.size ∧ s₁ = { s with heap := s.heap.push { cls := .type "list", data := .seq #[] } })
    PySem.F.called_list (PySem.F.typeCall_list_1 _) PySem.F.entry_list_init (code_list_new _ ⟨rfl, rfl⟩) fun obj s₁ h₁ => ?_
  obtain ⟨rfl, rfl⟩ := h₁
  have hS : (s.heap.push { cls := .type "list", data := .seq #[] }).get? s.heap.objs.size = some { cls := .type "list", data := .seq #[] } := Heap.get?_push_size _ rfl
  have lti : it < s.heap.objs.size := by
    obtain ⟨o, ho, _⟩ := id hit
    exact Heap.lt_size ho
  have ltl : l < s.heap.objs.size := by
    obtain ⟨o, ho, _⟩ := id hl
    exact Heap.lt_size ho
  refine ⟨⟨_, hS, rfl⟩, PySem.F.args_list_init_2 _ _, ?_⟩
  show wpAny _ _ (Builtin.List.listItems (.ref s.heap.objs.size) >>= fun old => Builtin.List.listUpdate (.ref s.heap.objs.size) (fun _ => #[]) >>= fun _ => letGo old.toList.reverse >>= fun _ =>
    Builtin.List.listExtendWith (.ref s.heap.objs.size) (.ref it) .none) _ _ _
  unfold Builtin.List.listItems
  refine wpAny_bind (wpAny_bind (wpAny_seqItems hS rfl (wpAny_pure ?_)))
  show wpAny _ _ (updateSeq s.heap.objs.size (fun _ => #[]) >>= fun _ => letGo (#[] : Array Value).toList.reverse >>= fun _ => Builtin.List.listExtendWith (.ref s.heap.objs.size) (.ref it) .none) _ _ _
  refine wpAny_bind (wpAny_updateSeq hS rfl (wpAny_bind (wpAny_letGo ?_)))
  have hS₂ := Heap.get?_update_self (Obj.mapSeq (fun _ => (#[] : Array Value))) hS rfl
  have oth : ∀ b o, b ≠ s.heap.objs.size → s.heap.get? b = some o → ((s.heap.push { cls := .type "list", data := .seq #[] }).update s.heap.objs.size (Obj.mapSeq (fun _ => (#[] : Array Value)))).get? b = some o :=
    fun b o hb e => (Heap.get?_update_other _ _ (Ne.symm hb)).trans (Heap.get?_push_of_some _ e)
  refine ext_rev (A := A.in1) hh (hit.at fun o e => oth it o (Nat.ne_of_lt lti) e) ?_ hne hn (Nat.ne_of_gt lti) (Nat.ne_of_gt ltl) hS₂ fun h' tk acc c' hk hS' hacc => ⟨rfl, ?_⟩
  · obtain ⟨o, ho, z⟩ := id hl
    exact ⟨o, oth l o (Nat.ne_of_lt ltl) ho, z⟩
  · exact hQ h' tk acc c' (fun b o hb e => hk b o (Nat.ne_of_lt (Heap.lt_size e)) hb (oth b o (Nat.ne_of_lt (Heap.lt_size e)) e)) hS' hacc
end
def tListRev (K : PySem.W.Frag) (te : TE) : TE := fun σ H Q => te σ H fun v H1 => ∃ (a : Addr) (xs : List V), v = .ref a ∧ SqL K H1 a xs ∧ ∀ q, H1 q = none → Q (.ref q) (upd H1 q (.lst xs.reverse))
theorem pe_listRev {X : Cx} {e : Expr} {te : TE} {p p2 pos pos2 : Pos} (hc : X.calm = true) (hg : Gl X "list") (hm : X.mg "list" = none) (hg2 : Gl X "reversed") (hm2 : X.mg "reversed" = none) (he : PE X e te)
    (hs : starEach [e] X.env = (false, eval e X.env) :: starEach [] X.env := by rfl)
    (hs2 : starEach [.Call (.Name "reversed" p2) [e] [] pos2] X.env = (false, eval (.Call (.Name "reversed" p2) [e] [] pos2) X.env) :: starEach [] X.env := by rfl) :
    PE X (.Call (.Name "list" p) [.Call (.Name "reversed" p2) [e] [] pos2] [] pos) (tListRev X.K te) := by
  refine ⟨fun pins s σ H Q I h => ?_⟩
  refine Call_ (ld_blt I hg hm boot_list (PyProof.Rows.callWith_type1 (args_cons ?_ hs2) hs2 rfl))
  refine Call_ (ld_blt I hg2 hm2 PyProof.Rows.boot_reversed (PyProof.Rows.callWith_type1 (args_cons (thn (he.run pins s σ H _ I h) fun u s1 hh => args_nil ?_) hs) hs rfl))
  obtain ⟨v, H1, I1, r1, a, xs, ev, hq, q⟩ := hh
  subst ev
  obtain rfl : u = Value.ref a := r1
  obtain ⟨its, rv, p', hz⟩ := I1.list hq
  have hl := p'.isList
  have ltl : a < s1.heap.objs.size := by
    obtain ⟨o, ho, _⟩ := id hl
    exact Heap.lt_size ho
  refine call_reversed_list hl (args_nil ?_)
  have I2 : Inv X pins σ H1 { s1 with heap := s1.heap.push (revObj a ((its.toArray.size : Int) - 1)) } := I1.kept (t' := s1.toks) fun b o e => Heap.get?_push_of_some _ e
  obtain ⟨f0, f1, f2, f3, f4, f5⟩ := I1.fpOk (H' := H1) (b := s1.heap.objs.size) (Nat.le_refl _) (I1.hok.fresh (Nat.le_refl _))
  have hn : its.toArray.size ≤ sizeLine := by rw [List.size_toArray, ← rv.length]; exact hz
  refine call_list_rev (s := { s1 with heap := s1.heap.push (revObj a ((its.toArray.size : Int) - 1)) }) (I1.ok.hd hc) ⟨_, Heap.get?_push_size _ rfl, rfl, rfl⟩ (hl.push _) (Nat.ne_of_lt ltl) hn fun h' tk acc c' hk hS hi => ?_
  have hf : ∀ b ∈ [s1.heap.objs.size], FpOk X pins H1 b := fun b hb => by
    rw [List.mem_singleton.mp hb]
    exact ⟨f0, f1, f2, f3, f4, f5⟩
  have new : ObjOk X.prog X.w (upd H1 (s1.heap.push (revObj a ((its.toArray.size : Int) - 1))).objs.size (.lst xs.reverse)) h' (s1.heap.push (revObj a ((its.toArray.size : Int) - 1))).objs.size (.lst xs.reverse) :=
    ⟨by rw [List.length_reverse]; exact hz, acc.toList, c', RT.vals_rev rv hi, by rw [Array.toArray_toList]; exact hS⟩
  have I3 := I2.turnedNew (t' := tk) (ch := [s1.heap.objs.size]) (fun b o hb e => hk b o (fun z => hb (by rw [z]; exact List.mem_singleton.mpr rfl)) e) hf (Nat.le_refl _) new
  exact ⟨.ref _, _, I3, rfl, q _ (I2.hok.fresh (Nat.le_refl _))⟩
end K38
end
section
set_option Elab.async false
set_option linter.all false
set_option maxRecDepth 100000
set_option maxHeartbeats 4000000
/-! Rules that the layer lacks, second part: dict comprehension with tuples of ints and texts as keys, sorted of such a dict. -/
namespace L2
open PySem PySem.Spec PyProof.Rows
/-- the comprehension's store, the key a tracked tuple -/
theorem setT_ok {X : Cx} {pns : List (Addr × Obj)} {σ : St} {H : Hp} {s : Shared} {E : Value → Shared → Prop} {D b : Addr} {kvs : List (List Key × V)} {k : List Key} {v : V} {u r : Value} {Q : Unit → Shared → Prop}
    (hu : X.A.units + 1 < cLine) (I : Inv X pns σ H s) (eD : H D = some (.dT kvs)) (eb : H b = some (.tup (k.map kV))) (hz : kvs.length < sizeLine) (ry : RelV (.ref b) u) (rv : RelV v r)
    (h : ∀ s', Inv X pns σ (upd H D (.dT (putK kvs k v))) s' → Q () s') : wpAny (model X.prog X.w) X.A (dictSet D u r) Q E s := by
  obtain rfl : u = Value.ref b := ry
  obtain ⟨z, hd, ents, rel, dd⟩ := dt_of I.hok eD
  have hzv : ents.length ≤ sizeLine := by rw [← Paired.length rel]; exact z
  have room : (tupleKind (mixKind X.prog X.w)).room X.A := by
    first
    | exact tupleKind_room_in1 (A := X.A) hu
    | exact Nat.lt_of_succ_lt hu
    | (show X.A.units < cLine; omega)
  refine wpAny_dictSet_heap (hsz := hzv) room (key_of I.hok eb) dd fun h' dd' same => h _ ?_
  obtain ⟨ob, es, ep, hq, h2, h3, h4, _, h5⟩ := dd'
  refine d_write I (by rw [eD]; exact True.intro) same ⟨ob, hq⟩ ⟨by have := length_putK kvs k v; omega, hd, _, (rel.put k eb rv).keeps fun c ys ec => ?_, ob, es, ep, hq, h2, h3, h4, h5⟩
  rw [upd_ne (ne_of ec eD (fun z => nomatch z))]
  exact ec
section
variable {X : Cx}
/-- {k: v for target in iter if ..}, the keys tuples -/
def tDcT (src : TI) (g : TG) (tst : TT) (tk tv : TE) (vs : List Nat) : TE := fun σ H Q => src σ H fun J H1 => ∀ D, H1 D = none → ∃ Wd : Nat → Nat → Hp → Prop, (∃ m, Wd 0 m (upd H1 D (.dT []))) ∧ ∀ i m H, Wd i m H →
  (J.stop i H ∧ Q (.ref D) H) ∨ (J.go i H ∧ ∃ Nx : Hp → Prop, (∀ H', Nx H' → ∃ m', m' < m ∧ Wd (i + 1) m' H') ∧ ∀ x H', J.yld i H x H' → g x (wipe σ vs) H' fun σ2 G2 => wipe σ2 vs = wipe σ vs ∧ tst σ2 G2 fun b G3 =>
    if b = true then tk σ2 G3 fun y G4 => tv σ2 G4 fun z G5 => ∃ c kvs k, y = .ref c ∧ G5 c = some (.tup (k.map kV)) ∧ G5 D = some (.dT kvs) ∧ kvs.length < sizeLine ∧ Nx (upd G5 D (.dT (putK kvs k z))) else Nx G3)
theorem dcT_core {pns : List (Addr × Obj)} {s : Shared} {σ : St} {H : Hp} {Q : VK} {kex vex tg itr : Expr} {cnd : List Expr} {scp : Scope} {ows : List (Str × Nat)} {pos pos' : Pos} {src : TI} {g : TG} {tst : TT} {tk tv : TE} {use : Option (Value → Sem Unit)} {Qf : Value → Shared → Prop}
    (hu : X.A.units + 1 < cLine) (hc : X.calm = true) (hN : X.N.Nodup) (I : Inv X pns σ H s) (hi : PI X tg itr src) (ok : BlkOk X.N X.env.scope scp ows)
    (hg : ∀ (s : Shared) (H : Hp) (C : Addr) (cl : List (Str × Addr)) (fps : List Addr), PG (X.blk s H scp (compEnvC scp cl C X.env) fps) tg g) (ht : ∀ (s : Shared) (H : Hp) (C : Addr) (cl : List (Str × Addr)) (fps : List Addr), PTs (X.blk s H scp (compEnvC scp cl C X.env) fps) cnd tst)
    (hk : ∀ (s : Shared) (H : Hp) (C : Addr) (cl : List (Str × Addr)) (fps : List Addr), PE (X.blk s H scp (compEnvC scp cl C X.env) fps) kex tk)
    (he : ∀ (s : Shared) (H : Hp) (C : Addr) (cl : List (Str × Addr)) (fps : List Addr), PE (X.blk s H scp (compEnvC scp cl C X.env) fps) vex tv) (hs : ∀ x, foldedSetIterable itr X.env x = pure x)
    (h : tDcT src g tst tk tv (ows.map (·.2)) σ H Q)
    (hRR : ∀ D C s' m H', Inv X pns σ H' s' → Q (.ref D) H' → s'.heap.Ns C m → FpOk X pns H' C → compPost (model X.prog X.w) X.A X.xe use Qf (.ref D) C (.ok .next) s') :
    wpAny (model X.prog X.w) X.A (comprehension (.DictComp kex vex [⟨tg, itr, cnd, 0⟩] scp pos) scp X.env pos' newDict false (eval itr X.env) use) Qf X.xe s := by
  have capt : ∀ y ∈ scp.names, y.2 = .free → ∃ c, X.env.cells.lookup y.1 = some c := fun y hy e => by
    rcases ok.free y hy e with k | k
    · exact I.ok.has _ (.inl k)
    · exact I.ok.has _ (.inr k)
  refine wpAny_comprehension_free (use := use) rfl hs (closure_ok capt) ok.kind (fun y hy e => by rw [ok.uniq y hy, e])
    (thn (hi.run pns s σ H _ I h) fun xv q1 hx => thn hx fun itv q2 hit => ?_)
  obtain ⟨it, fps, stn, J, G2, e, J2, T, sta2, fok2, q⟩ := hit
  subst e
  refine wpAny_newObj_type (newEnv_comp ?_)
  generalize eD : q2.heap.objs.size = D
  have nD : G2 D = none := J2.hok.fresh (Nat.le_of_eq eD)
  obtain ⟨Wd, ⟨mst, wst⟩, turn⟩ := q D nD
  -- the new list
  generalize es3 : ({ q2 with heap := q2.heap.push { cls := .type "dict", data := .dict #[] } } : Shared) = q3
  have J3 : Inv X pns σ (upd G2 D (.dT [])) q3 := by
    rw [← es3]
    refine J2.laid (t' := q2.toks) (fun b o e => Heap.get?_push_of_some _ e) (Nat.le_of_eq eD) ?_
    rw [← eD]
    exact dt_empty q2.heap J2.big
  have h3 : q3.heap = q2.heap.push { cls := .type "dict", data := .dict #[] } := by rw [← es3]
  have szs : ∀ b ∈ fps, b < q2.heap.objs.size := fun b hb => by
    obtain ⟨o, e, _⟩ := T.obj _ _ sta2 b hb
    exact Heap.lt_size e
  have fok3 : ∀ b ∈ fps, FpOk X pns (upd G2 D (.dT [])) b ∧ b < q3.heap.objs.size := fun b hb => by
    have hlt := szs b hb
    refine ⟨⟨?_, (fok2 b hb).2⟩, by rw [h3, Heap.size_push]; exact Nat.lt_succ_of_lt hlt⟩
    rw [upd_ne (by rw [← eD]; exact Nat.ne_of_lt hlt)]
    exact (fok2 b hb).1
  have sta3 : stn 0 q3.heap := T.keep _ _ _ sta2 fun b _ o e => by rw [h3]; exact Heap.get?_push_of_some _ e
  have J4 := block_start J3 ok hN fok3
  have pgt := hg q3 (upd G2 D (.dT [])) q3.heap.objs.size (cellsFrom (q3.heap.objs.size + 1) scp.names (cloFrom X.env.cells scp.names [])) fps
  have ptt := ht q3 (upd G2 D (.dT [])) q3.heap.objs.size (cellsFrom (q3.heap.objs.size + 1) scp.names (cloFrom X.env.cells scp.names [])) fps
  have pkk := hk q3 (upd G2 D (.dT [])) q3.heap.objs.size (cellsFrom (q3.heap.objs.size + 1) scp.names (cloFrom X.env.cells scp.names [])) fps
  have pvv := he q3 (upd G2 D (.dT [])) q3.heap.objs.size (cellsFrom (q3.heap.objs.size + 1) scp.names (cloFrom X.env.cells scp.names [])) fps
  show codeAny _ _ (.compStart (.DictComp kex vex [⟨tg, itr, cnd, 0⟩] scp pos) 0 (.ref it) (.ref D) (compEnvC scp (cellsFrom (q3.heap.objs.size + 1) scp.names (cloFrom X.env.cells scp.names [])) q3.heap.objs.size X.env)) (compPost (model X.prog X.w) X.A X.xe use Qf (.ref D) q3.heap.objs.size) { q3 with heap := pushCells (q3.heap.push { cls := .type "dict", data := .dict #[] }) scp.names }
  have fno : ∀ b ∈ fps, (upd G2 D (.dT [])) b = none := fun b hb => (fok3 b hb).1.1
  generalize ecv : compEnvC scp (cellsFrom (q3.heap.objs.size + 1) scp.names (cloFrom X.env.cells scp.names [])) q3.heap.objs.size X.env = cenv at J4 pgt ptt pkk pvv ⊢
  have lcv : cenv.locals = q3.heap.objs.size := by subst ecv; rfl
  generalize eG3 : upd G2 D (.dT []) = G3 at J3 J4 pgt ptt pkk pvv wst fno fok3
  generalize es4 : ({ q3 with heap := pushCells (q3.heap.push { cls := .type "dict", data := .dict #[] }) scp.names } : Shared) = q4 at J4 ⊢
  have sta4 : stn 0 q4.heap := T.keep _ _ _ sta3 fun b _ o e => by rw [← es4]; exact pushCells_keeps _ _ _ _ (Heap.get?_push_of_some _ e)
  have stt : ∀ {σ' : St} {H' : Hp} {s' : Shared}, Inv (X.blk q3 G3 scp cenv fps) [] σ' H' s' → (∀ b ∈ fps, H' b = none) → ∀ b ∈ fps, FpOk (X.blk q3 G3 scp cenv fps) [] H' b := fun {σ' H' s'} I' hn b hb =>
    ⟨hn b hb, (I'.ok.exf b hb).1, I'.ok.exfs b hb, .inl hb, fun x c e => (I'.ok.exf b hb).2 x c e, fun p hp => absurd (show p ∈ ([] : List (Addr × Obj)) ++ [] from hp) (by simp)⟩
  have loop : codeAny (model X.prog X.w) X.A (.compLoop (.DictComp kex vex [⟨tg, itr, cnd, 0⟩] scp pos) 0 (.ref it) (.ref D) cenv) (compPost (model X.prog X.w) X.A X.xe use Qf (.ref D) q3.heap.objs.size) q4 := by
    refine compLoop_anyD (fun n s' => ∃ i H', Inv (X.blk q3 G3 scp cenv fps) [] (wipe σ (ows.map (·.2))) H' s' ∧ stn i s'.heap ∧ (∀ b ∈ fps, H' b = none) ∧ Wd i n H') ?_ mst ⟨0, G3, J4, sta4, fno, wst⟩
    rintro n q5 ⟨i, G5, J5, sta5, nn5, wcur⟩
    rcases turn i n G5 wcur with ⟨stop, qq⟩ | ⟨go, Nx, hNx, step⟩
    · have td := T.done (X.blk q3 G3 scp cenv fps) rfl rfl rfl hc i [] q5 _ G5 (fun _ _ => False) J5 (stt J5 nn5) sta5 stop
      refine thnF td fun r q6 ⟨hr, J6⟩ => ?_
      subst hr
      -- back in the def's context
      have J7 : Inv X pns σ G5 q6 := J3.call' (ch := fps) J6.os J6.base J6.hok J6.bare fun b hb => ⟨(fok3 b hb).1.2.2.2.1, (fok3 b hb).1.2.1, (fok3 b hb).1.2.2.2.2.1, (fok3 b hb).1.2.2.2.2.2⟩
      have nC : G5 q3.heap.objs.size = none := by
        have z : G5 cenv.locals = none := J6.free
        rw [lcv] at z
        exact z
      obtain ⟨m, hn, _⟩ := J6.loc
      have hn : q6.heap.Ns cenv.locals m := hn
      rw [lcv] at hn
      exact hRR D q3.heap.objs.size q6 m G5 J7 qq hn (J3.fpOk (Nat.le_refl _) nC)
    · have ti := T.item (X.blk q3 G3 scp cenv fps) rfl rfl rfl hc i [] q5 _ G5 (fun _ _ => False) J5 (stt J5 nn5) sta5 go
      refine thnF ti fun r q6 ⟨u, hr, h6⟩ => ?_
      subst hr
      refine thnF h6 fun _ q7 ⟨x, G7, J7, r7, y7, sta7, n7⟩ => ?_
      have J7p := J7.pinned (stt J7 n7) (T.obj _ _ sta7)
      refine thnF (pgt.run _ q7 _ G7 x u _ J7p r7 (step x G7 y7)) fun _ q8 ⟨σ8, G8, J8, hw8, qq8⟩ => ?_
      refine thnF (ptt.run _ q8 σ8 G8 _ J8 qq8) fun b q9s ⟨G9, J9, qq9⟩ => ?_
      -- the turn's end
      have fin : ∀ {s' : Shared} {H' : Hp}, Inv (X.blk q3 G3 scp cenv fps) ([] ++ pinsAt fps q7.heap) σ8 H' s' → Nx H' → ∃ m, m < n ∧ ∃ i H', Inv (X.blk q3 G3 scp cenv fps) [] (wipe σ (ows.map (·.2))) H' s' ∧ stn i s'.heap ∧ (∀ b ∈ fps, H' b = none) ∧ Wd i m H' := fun {s' H'} I' nx => by
        obtain ⟨m', hm, w'⟩ := hNx H' nx
        have pin' : ∀ b ∈ fps, ∀ o, q7.heap.get? b = some o → s'.heap.get? b = some o ∧ H' b = none := fun b hb o e =>
          let z := I'.pin (b, o) (List.mem_append_right _ (List.mem_append_right _ (mem_pinsAt hb e)))
          ⟨z.1, z.2.1⟩
        have hl : (wipe σ (ows.map (·.2))).length = σ8.length := by rw [← hw8, wipe_length]
        refine ⟨m', hm, i + 1, H', (I'.unpinned (pins := [])).weak hl (fun j v e => ?_), T.keep _ _ _ sta7 fun b hb o e => (pin' b hb o e).1, fun b hb => ?_, w'⟩
        · rw [← hw8] at e
          exact (wipe_some e).1
        · obtain ⟨o, e, _⟩ := T.obj _ _ sta7 b hb
          exact (pin' b hb o e).2
      cases b with
      | false =>
        simp only [Bool.false_eq_true, if_false] at qq9 ⊢
        exact fin J9 qq9
      | true =>
        simp only [if_true] at qq9 ⊢
        refine thnF (pkk.run _ q9s σ8 G9 _ J9 qq9) fun z q10s ⟨yk, G10, J10, r10, qq10⟩ => ?_
        refine thnF (pvv.run _ q10s σ8 G10 _ J10 qq10) fun z2 q11 ⟨yv, G11, J11, r11, b, kvs, k, ek, eb, hD11, hz11, nx⟩ => ?_
        subst ek
        exact setT_ok (X := X.blk q3 G3 scp cenv fps) hu J11 hD11 eb hz11 r10 r11 fun q12 J12 => fin J12 nx
  exact codeAny_compStart_dict loop (T.self X.A 0 _ _ _ sta4 loop)
/-- as a value -/
theorem pe_dcT {kex vex tg itr : Expr} {cnd : List Expr} {scp : Scope} {ows : List (Str × Nat)} {pos : Pos} {src : TI} {g : TG} {tst : TT} {tk tv : TE} (hu : X.A.units + 1 < cLine) (hc : X.calm = true) (hN : X.N.Nodup) (hi : PI X tg itr src) (ok : BlkOk X.N X.env.scope scp ows)
    (hg : ∀ (s : Shared) (H : Hp) (C : Addr) (cl : List (Str × Addr)) (fps : List Addr), PG (X.blk s H scp (compEnvC scp cl C X.env) fps) tg g) (ht : ∀ (s : Shared) (H : Hp) (C : Addr) (cl : List (Str × Addr)) (fps : List Addr), PTs (X.blk s H scp (compEnvC scp cl C X.env) fps) cnd tst)
    (hk : ∀ (s : Shared) (H : Hp) (C : Addr) (cl : List (Str × Addr)) (fps : List Addr), PE (X.blk s H scp (compEnvC scp cl C X.env) fps) kex tk)
    (he : ∀ (s : Shared) (H : Hp) (C : Addr) (cl : List (Str × Addr)) (fps : List Addr), PE (X.blk s H scp (compEnvC scp cl C X.env) fps) vex tv) (hs : ∀ x, foldedSetIterable itr X.env x = pure x := by intro _; rfl) :
    PE X (.DictComp kex vex [⟨tg, itr, cnd, 0⟩] scp pos) (tDcT src g tst tk tv (ows.map (·.2))) := by
  refine ⟨fun pns s σ H Q I h => ?_⟩
  rw [arm_eval_DictComp]
  refine dcT_core hu hc hN I hi ok hg ht hk he hs h fun D C s' m H' I' q hn f => ⟨m, hn, fun h'' sb => ?_⟩
  obtain ⟨f0, f1, fok2, fok3, f4, f5⟩ := f
  exact ⟨.ref D, H', I'.turned (t' := s'.toks) (fun b o hb e => (sb.2 b hb).trans e) f0 f1 fok3 f4 f5, rfl, q⟩
/-- over a list that the block leaves as it is -/
theorem dcT_list {K : PySem.W.Frag} {a : Addr} {xs : List V} {g : TG} {tst : TT} {tk tv : TE} {vs : List Nat} {σ : St} {H1 : Hp} {D : Addr} {Qd : Hp → Prop} (Pv : Nat → Hp → Prop) (h0 : Pv 0 (upd H1 D (.dT []))) (hl : ∀ i H, i ≤ xs.length → Pv i H → SqL K H a xs)
    (hs : ∀ i x H, xs[i]? = some x → Pv i H → g x (wipe σ vs) H fun σ2 G2 => wipe σ2 vs = wipe σ vs ∧ tst σ2 G2 fun b G3 =>
      if b = true then tk σ2 G3 fun y G4 => tv σ2 G4 fun z G5 => ∃ c kvs k, y = .ref c ∧ G5 c = some (.tup (k.map kV)) ∧ G5 D = some (.dT kvs) ∧ kvs.length < sizeLine ∧ Pv (i + 1) (upd G5 D (.dT (putK kvs k z))) else Pv (i + 1) G3) (hd : ∀ H, Pv xs.length H → Qd H) :
    ∃ Wd : Nat → Nat → Hp → Prop, (∃ m, Wd 0 m (upd H1 D (.dT []))) ∧ ∀ i m H, Wd i m H →
      ((Itl K a).stop i H ∧ Qd H) ∨ ((Itl K a).go i H ∧ ∃ Nx : Hp → Prop, (∀ H', Nx H' → ∃ m', m' < m ∧ Wd (i + 1) m' H') ∧ ∀ x H', (Itl K a).yld i H x H' → g x (wipe σ vs) H' fun σ2 G2 => wipe σ2 vs = wipe σ vs ∧ tst σ2 G2 fun b G3 =>
        if b = true then tk σ2 G3 fun y G4 => tv σ2 G4 fun z G5 => ∃ c kvs k, y = .ref c ∧ G5 c = some (.tup (k.map kV)) ∧ G5 D = some (.dT kvs) ∧ kvs.length < sizeLine ∧ Nx (upd G5 D (.dT (putK kvs k z))) else Nx G3) := by
  refine ⟨fun i m H => i + m = xs.length ∧ Pv i H, ⟨xs.length, by omega, h0⟩, ?_⟩
  rintro i m H ⟨em, p⟩
  have q := hl i H (by omega) p
  by_cases hlt : i < xs.length
  · refine .inr ⟨⟨xs, xs[i], q, List.getElem?_eq_getElem hlt⟩, Pv (i + 1), fun H' p' => ⟨m - 1, by omega, by omega, p'⟩, fun x H' y => ?_⟩
    obtain ⟨e, y⟩ := y
    subst e
    exact hs i x _ (y xs q) p
  · have e : i = xs.length := by omega
    subst e
    exact .inl ⟨⟨xs, q, Nat.le_refl _⟩, hd H p⟩
/-! ### sorted(d), d's keys pairs of ints -/
/-- the pair that a tracked tuple is -/
def pairAt (H : Hp) (a : Addr) : Int × Int := match H a with
  | some (.tup [.int x, .int y]) => (x, y)
  | _ => (0, 0)
theorem pairAt_of {H : Hp} {a : Addr} {p : Int × Int} (h : H a = some (.tup [.int p.1, .int p.2])) : pairAt H a = p := by
  unfold pairAt
  rw [h]
def pairU (H : Hp) : Value → Int × Int
  | .ref a => pairAt H a
  | _ => (0, 0)
abbrev keyP (p : Int × Int) : List Key := [Sum.inl p.1, Sum.inl p.2]
def rSortedDT : List V → Hp → VK → Prop := fun vs H Q => ∃ (d : Addr) (kvs : List (List Key × V)) (ps : List (Int × Int)), vs = [.ref d] ∧ Rd H d (.dT kvs) ∧ kvs.map (·.1) = ps.map keyP ∧
  ∀ (qs : List (Int × Int)) (cs : List Addr) (p : Addr), qs.Perm ps → qs.Pairwise (fun x y => SrtO.lexB y x = false) → Paired (fun q c => H c = some (.tup [.int q.1, .int q.2])) qs cs → H p = none → Q (.ref p) (upd H p (.lst (cs.map V.ref)))
def adrU : Value → Addr
  | .ref a => a
  | _ => 0
theorem refs_all : ∀ out : List Value, (∀ u ∈ out, ∃ a, u = Value.ref a) → ∃ cs : List Addr, out = cs.map Value.ref
  | [], _ => ⟨[], rfl⟩
  | u :: r, h => by
    obtain ⟨a, rfl⟩ := h u (List.mem_cons_self ..)
    obtain ⟨cs, e⟩ := refs_all r fun x hx => h x (List.mem_cons_of_mem _ hx)
    exact ⟨a :: cs, by rw [e]; rfl⟩
theorem refs_of_perm {bs : List Addr} {out : List Value} (h : out.Perm (bs.map Value.ref)) : ∃ cs : List Addr, out = cs.map Value.ref ∧ cs.Perm bs := by
  obtain ⟨cs, rfl⟩ := refs_all out fun u hu => by
    obtain ⟨a, _, e⟩ := List.mem_map.mp (h.mem_iff.mp hu)
    exact ⟨a, e.symm⟩
  refine ⟨cs, rfl, ?_⟩
  have z := h.map adrU
  rw [List.map_map, List.map_map] at z
  have e : ∀ l : List Addr, l.map (adrU ∘ Value.ref) = l := fun l => List.map_id l
  rw [e, e] at z
  exact z
theorem keyP_map : ∀ {kvs : List (List Key × V)} {ps : List (Int × Int)} {bs : List Addr} {H : Hp}, kvs.map (·.1) = ps.map keyP → IsKeys H kvs bs → Paired (fun p c => H c = some (.tup [.int p.1, .int p.2])) ps bs
  | [], [], _, _, _, r => by
    cases r
    exact .nil
  | [], _ :: _, _, _, e, _ => nomatch e
  | _ :: _, [], _, _, e, _ => nomatch e
  | kv :: kvs, p :: ps, _, H, e, r => by
    cases r with
    | cons h1 h2 =>
      have e1 : kv.1 = keyP p := (List.cons.inj e).1
      rw [e1] at h1
      exact .cons h1 (keyP_map (List.cons.inj e).2 h2)
theorem paired_pairAt : ∀ {ps : List (Int × Int)} {bs : List Addr} {H : Hp}, Paired (fun p c => H c = some (.tup [.int p.1, .int p.2])) ps bs → bs.map (pairAt H) = ps
  | [], _, _, r => by
    cases r
    rfl
  | p :: ps, _, H, r => by
    cases r with
    | cons h1 h2 => rw [List.map_cons, pairAt_of h1, paired_pairAt h2]
theorem pairAt_paired {H : Hp} : ∀ {cs : List Addr}, (∀ c ∈ cs, ∃ p : Int × Int, H c = some (.tup [.int p.1, .int p.2])) → Paired (fun q c => H c = some (.tup [.int q.1, .int q.2])) (cs.map (pairAt H)) cs
  | [], _ => .nil
  | c :: cs, h => by
    obtain ⟨p, e⟩ := h c (List.mem_cons_self ..)
    refine .cons ?_ (pairAt_paired fun x hx => h x (List.mem_cons_of_mem _ hx))
    rw [pairAt_of e]
    exact e
theorem paired_mem {ps : List (Int × Int)} {bs : List Addr} {H : Hp} (r : Paired (fun p c => H c = some (.tup [.int p.1, .int p.2])) ps bs) : ∀ c ∈ bs, ∃ p : Int × Int, H c = some (.tup [.int p.1, .int p.2]) := by
  induction r with
  | nil => exact fun c hc => nomatch hc
  | cons h1 _ ih =>
    intro c hc
    rcases List.mem_cons.mp hc with e | hc
    · exact ⟨_, e ▸ h1⟩
    · exact ih c hc
theorem cr_sortedDT (hcalm : X.calm = true) : CallR X (.builtin "sorted") rSortedDT := by
  intro pins s σ H xs us Q I r q
  obtain ⟨d, kvs, ps, rfl, hd, hks, q⟩ := q
  obtain ⟨u, rfl, rx⟩ := vals1 r
  obtain rfl : u = Value.ref d := rx
  obtain ⟨z, lo, ents, pr, o, es, ep, ho, hx, hdt, he, hn⟩ := (show ObjOk X.prog X.w H s.heap d (.dT kvs) from hd.ok I.hok)
  have l1 : es.size = ents.length := size_of_entries he
  have l2 : kvs.length = ents.length := Paired.length pr
  have pk := keyP_map hks (isKeys_of pr)
  refine Calls.call_function_entry PyProof.Rows.kind_sorted PyProof.Rows.plain_sorted PyProof.Rows.entry_sorted (PyProof.Rows.args_sorted1 _) ?_
  unfold Builtin.«sorted»
  refine wpAny_bind (m := checkCount "sorted" 1 1 _) (wpAny_pure ?_)
  refine wpAny_bind (PySem.W.kdu_collect (A := X.A.in1) (kdl_raw lo hx hdt) (I.ok.hd hcalm) ho (by omega) fun h' tk acc hk hacc => ?_)
  have ea : acc.toList = (ents.map fun x => x.2.1).map Value.ref := by
    rw [List.map_map]
    have hl : acc.toList.length = ents.length := by rw [Array.length_toList, hacc.1]; exact l1
    apply List.ext_getElem?
    intro j
    rw [List.getElem?_map]
    cases hj : acc.toList[j]? with
    | none =>
      have h1 := List.getElem?_eq_none_iff.mp hj
      rw [List.getElem?_eq_none (by omega)]
      rfl
    | some v =>
      obtain ⟨en, hen, hv⟩ := hacc.2 j v (by rw [← Array.getElem?_toList]; exact hj)
      have qe := entry_at he j
      rw [hen] at qe
      cases hb : ents[j]? with
      | none =>
        rw [hb] at qe
        exact nomatch (show some en = none from qe)
      | some b =>
        rw [hb] at qe
        have e2 : en = entryOfKey (tupleKind (mixKind X.prog X.w)) b := Option.some.inj qe
        rw [hv, e2]
        rfl
  generalize hbs : (ents.map fun x => x.2.1) = bs at ea pk
  have hbl : bs.length = ents.length := by rw [← hbs, List.length_map]
  have I1 : Inv X pins σ H { s with heap := h', toks := tk } := I.kept hk
  rw [ea]
  have hz : (bs.map Value.ref).length ≤ sizeLine := by rw [List.length_map, hbl]; omega
  refine wpAny_bind (wpAny_newList ?_ hz)
  have hoL : (h'.push (seqObj "list" (bs.map Value.ref).toArray 0)).get? h'.objs.size = some (seqObj "list" (bs.map Value.ref).toArray 0) := Heap.get?_push_size _ rfl
  show wpAny _ _ _ _ _ { s with heap := h'.push (seqObj "list" (bs.map Value.ref).toArray 0), toks := tk }
  refine wpAny_bind (wpAny_holding (wpAny_call_entry PyProof.Rows.slot_list_sort ⟨_, hoL, rfl⟩ PyProof.Rows.entry_list_sort
    (SrtO.list_sort_ord (SrtO.swo_lex (pairU H)) hoL hz (fun h2 => ?_) fun out hs hb => ⟨_, rfl, ?_⟩) (PyProof.Rows.args_list_sort _)))
  · refine SrtO.pairs_sortableO (by omega) (fun v hv => ?_) fun o e => ?_
    · obtain ⟨c, hc, rfl⟩ := List.mem_map.mp hv
      obtain ⟨p, hp⟩ := paired_mem pk c hc
      obtain ⟨_, its2, r2, o2, ho2, hc2, n2, hd2⟩ := I1.hok _ _ hp
      obtain ⟨u1, u2, rfl, ri, rj⟩ := vals2 r2
      obtain ⟨t1, rfl⟩ := ri
      obtain ⟨t2, rfl⟩ := rj
      have ep2 : pairU H (Value.ref c) = p := pairAt_of hp
      rw [ep2]
      exact ⟨c, o2, t1, t2, n2, rfl, Heap.get?_push_of_some _ ho2, hc2, hd2⟩
    · have e' : some o = some (seqObj "list" (bs.map Value.ref).toArray 0) := e.symm.trans hoL
      cases e'
      intro c
      exact absurd (Value.type.inj c) (by decide)
  · obtain ⟨cs, rfl, pc⟩ := refs_of_perm hb.perm
    obtain ⟨e', he'⟩ := PyProof.Rows.sortedHeap_at (vs := bs.map Value.ref) (out := (cs.map Value.ref).toArray) hoL
    have pq : (cs.map (pairAt H)).Perm ps := by
      have z := pc.map (pairAt H)
      rw [paired_pairAt pk] at z
      exact z
    have hlen : (cs.map V.ref).length ≤ sizeLine := by
      rw [List.length_map, pc.length_eq]
      rw [List.length_map] at hz
      exact hz
    refine wpAny_pure ⟨_, rfl, .ref h'.objs.size, upd H h'.objs.size (.lst (cs.map V.ref)), I1.laid (t' := tk) (fun b u e => ?_) (Nat.le_refl _)
      (show ObjOk X.prog X.w _ _ _ (.lst (cs.map V.ref)) from ⟨hlen, cs.map Value.ref, e', vals_refs _, he'⟩), rfl, q _ cs _ pq ?_ (pairAt_paired fun c hc => paired_mem pk c (pc.mem_iff.mp hc)) (I1.hok.fresh (Nat.le_refl _))⟩
    · have hb2 : b < h'.objs.size := Heap.lt_size e
      rw [PyProof.Rows.sortedHeap_old (Nat.ne_of_lt hb2) (by rw [size_push']; exact Nat.lt_succ_of_lt hb2)]
      exact Heap.get?_push_of_some _ e
    · have z := List.pairwise_map.mp hs
      exact List.pairwise_map.mpr z
end
end L2
end
section
set_option Elab.async false
set_option linter.all false
set_option maxRecDepth 100000
set_option maxHeartbeats 4000000
/-! Rules that the layer lacks, third part: an own error (over an own error over ValueError) whose __init__ calls super().__init__(f'..') and keeps one field: made, raised. -/
namespace PySem
namespace XiX
open PySem.W PySem.Calls PyProof.Rows PySem.HandSPX
abbrev mwV (x : Addr) : Obj := kxs_mw "ValueError.__init__" x
section
variable {prog : Program} {w : World} {A : Around} {E : Value → Shared → Prop} {h : Heap} {g : Array GenState} {d : Drawn} {t : Nat} {os : OsState}
variable {nm q : Str} {C N : Addr} {bs bm : List Value} {hdct : Bool} {sn : List Str} {sub : List Value} {ab : Bool} {col : Option Bool} {dd : Option Addr} {k0 k1 k2 k3 k5 : Option Value}
/-- the bound ValueError.__init__ is called -/
theorem callV {u x t0 : Addr} {vs : List Value} {Q : Value → Shared → Prop} (oC : h.get? C = some (excClassObj nm q C N bs bm hdct sn sub ab col dd k0 k1 k2 k3 k5 "ValueError.__new__")) (ox : h.get? x = some (excO C t0)) (ou : h.get? u = some (mwV x))
    (few : vs.length ≤ sizeLine) (hq : ∀ h' t1, (∀ b o, b ≠ x → h.get? b = some o → h'.get? b = some o) → h'.get? x = some (excO C t1) → Q .none ⟨h', g, d, t, os⟩) : wpAny (model prog w) A (call (.ref u) vs) Q E ⟨h, g, d, t, os⟩ := by
  refine wpAny_call (codeAny_of_tree ?_)
  show wpAny _ A.in1 (callAny (.ref u) ⟨vs, []⟩) _ _ _
  simp only [callAny]
  refine wpAny_bind (wpAny_load ou ?_)
  simp only [mwV, kxs_mw, show (Value.type "method-wrapper" == Value.type "method" || Value.type "method-wrapper" == Value.type "builtin_function_or_method" || Value.type "method-wrapper" == Value.type "method-wrapper") = true by decide, if_true]
  refine W.KFB.if_so (by decide) ?_
  refine wpAny_bind (ESX.check_bound F.excBase_ValueError oC ox rfl ?_)
  refine wpAny_bind (wpAny_pure (wpAny_pure ?_))
  refine ⟨plainId_quiet F.excBase_ValueError.init.plain _, codeAny_builtin F.excBase_ValueError.initEntry ?_⟩
  rw [Around.under_plainId F.excBase_ValueError.init.plain _]
  wp_walk
  refine hq _ h.objs.size (fun b o hb ho => ?_) ?_
  · rw [Heap.get?_update_other _ _ (Ne.symm hb)]
    exact Heap.get?_push_of_some _ ho
  · rw [Heap.get?_update_self _ (Heap.get?_push_of_some _ ox) rfl]
    rfl
end
/-- what __init__ leaves of a fresh exception at x -/
structure XiEnd (h h' : Heap) (x C dx t1 : Addr) (f : Str) (v : Value) : Prop where
  keep : ∀ b o, b ≠ x → h.get? b = some o → h'.get? b = some o
  obj : h'.get? x = some { cls := .ref C, dict := some dx, data := .fields #[.ref t1, .none, .none, .none, .bool false, .none] }
  dbig : h.objs.size ≤ dx
  dne : dx ≠ x
  ns : h'.Ns1 dx (fun y => if y = f then some v else none)
/-- the __init__'s text -/
abbrev xiBody (p0 p1 ap cp ep q1 q2 q3 q4 : Pos) (me : Expr) (f : Str) : List Stmt :=
  [.Expr (.Call (.Attribute (.Call (.Name "super" p0) [] [] p1) "__init__" ap) [me] [] cp) ep, .Assign [.Attribute (.Name "self" q1) f q2] (.Name f q3) q4]
/-- what the written part says of the class at C and of its __init__ at fI -/
structure XiTxt (P : Program) (K : Frag) (mg : Str → Option Value) (nm : Str) (C fI : Addr) (f : Str) (me : Expr) : Prop where
  gC : mg nm = some (.ref C)
  gS : mg "super" = none
  cls : ∃ nm q N bs bm sn sub ab col dd k0 k1 k2 k3 k5, K.lookup C = some (excClassObj nm q C N bs bm true sn sub ab col dd k0 k1 k2 k3 k5 "ValueError.__new__") ∧ refsVE bm = true
  sa : findIn K (.ref C) "__setattr__" = some (some (.builtin "object.__setattr__"))
  noN : findIn K (.ref C) f = some none
  iC : findIn K (.ref C) "__init__" = some (some (.ref fI))
  tC : typeIn K (.ref fI) = some (.type "function")
  kC : keepIn K (.ref C) = true
  exC : subIn K (.ref C) (.type "BaseException") = some true
  vC : subIn K (.ref C) (.type "ValueError") = some true
  tyC : typeIn K (.ref C) = some (.type "type")
  mC : mroIn K C (.ref C) = some true
  sC : ks_superIn K C C "__init__" = some (some (.builtin "ValueError.__init__"))
  oq : nsIn K cStatics "thirdparty.any" = some none
  fs : (f == ("self" : Str)) = false
  fdb : (f == ("__debug__" : Str)) = false
  fn : ∃ (oc ccl cl : Value) (od cdd cld : Option Addr) (kV doc pm ct : Value) (an : Option Addr) (cda cc : Addr) (osl ccs csl : Array (Option Value)) (vs : Array Value) (file : Str) (tf : Tok) (qual : Str) (params : Arguments) (scope : Scope) (p0 p1 ap cp ep q1 q2 q3 q4 : Pos),
    K.lookup fI = some ⟨oc, od, .func (ksFn "__init__" qual params (xiBody p0 p1 ap cp ep q1 q2 q3 q4 me f) scope .none kV doc pm an (.ref cda) ct cc), osl⟩ ∧ codeIn K (.ref cda) qual = true ∧
    K.lookup cda = some ⟨ccl, cdd, .fields vs, ccs⟩ ∧ vs[2]? = some (.str file tf) ∧ ((P.main.file : Str) == file) = true ∧ K.lookup cc = some ⟨cl, cld, .cell (some (.ref C)), csl⟩ ∧
    (∃ ar, (params.posonlyargs ++ params.args).head? = some ar ∧ ar.arg = "self") ∧
    (∀ x v : Value, bindArgs (ksFn "__init__" qual params (xiBody p0 p1 ap cp ep q1 q2 q3 q4 me f) scope .none kV doc pm an (.ref cda) ct cc) ⟨[x, v], []⟩ = pure [(("self" : Str), x), (f, v)]) ∧
    scope.kind = .function ∧ scope.isCoroutine = false ∧ scope.isGenerator = false ∧ (∀ x ∈ scope.names, x.2 ≠ .cell) ∧ scope.names.lookup ("self" : Str) = some .local ∧ scope.names.lookup f = some .local ∧ scope.names.lookup ("super" : Str) = some .globalImplicit ∧ scope.names.lookup ("__class__" : Str) = some .free ∧
    (∃ pl : Env → Sem Bool, ∀ env, eval (.Call (.Attribute (.Call (.Name "super" p0) [] [] p1) "__init__" ap) [me] [] cp) env = (do
      let ov ← attributeBase (.Call (.Name "super" p0) [] [] p1) "__init__" env (eval (.Call (.Name "super" p0) [] [] p1) env)
      standAt ap.atName
      let (fx, first) ← holding [ov] (getMethod ov "__init__" (pl env))
      callWith cp fx first (backTo cp (starEach [me] env)) [])) ∧ (∀ env, starEach [me] env = (false, eval me env) :: starEach [] env) ∧
    (∀ env, swapsWith (.Name f q3) (some (.Attribute (.Name "self" q1) f q2)) q4.line env = pure false)
  htop : (P.main.scope.names.lookup ("super" : Str)).isSome = false
/-- the message can be made, whatever it is -/
def MsgOk (P : Program) (w : World) (f : Str) (me : Expr) (v : Value) : Prop :=
  ∀ (A : Around) (E Q : Value → Shared → Prop) (s : Shared) (env : Env) (m : Str → Option Value), env.scope.kind = .function → env.kindOf f = some .local → s.heap.Ns env.locals m → m f = some v → (∀ u tk, Q u { s with toks := tk }) → wpAny (model P w) A (eval me env) Q E s
section
variable {prog : Program} {w : World} {A : Around} {E : Value → Shared → Prop} {R : Result → Shared → Prop} {s : Shared} {K : Frag} {mg mb : Str → Option Value} {C fI : Addr} {nm f : Str} {me : Expr}
theorem xi_init (T : XiTxt prog K mg nm C fI f me) {x t0 : Addr} {v : Value} (hm : MsgOk prog w f me v) (X : K.In s.heap) (G : s.heap.Ns mainGlobals mg) (B : s.heap.Ns builtinsNs mb) (hb : mb "super" = some (.type "super")) (hlim : s.heap.NoLimit) (ox : s.heap.get? x = some (excO C t0)) (hnx : K.lookup x = none)
    (hroom : A.depth < recursionLimit) (hq : ∀ h' tk dx t1, XiEnd s.heap h' x C dx t1 f v → R (.ok (.ret .none)) { s with heap := h', toks := tk }) : codeAny (model prog w) A (.call (.ref fI) ⟨[.ref x, v], []⟩) R s := by
  obtain ⟨oc, ccl, cl, od, cdd, cld, kV, doc, pm, ct, an, cda, cc, osl, ccs, csl, vs, file, tf, qual, params, scope, p0, p1, ap, cp, ep, q1, q2, q3, q4, ho, hcd, hcode, hvs, hfile, hcell, ⟨ar, har, ear⟩, hbind, sk, sco, sg, scl, sself, sf, ssup, sclass, ⟨pl, hcall⟩, hstar, hsw⟩ := T.fn
  obtain ⟨nmC, qn, N, bs, bm, sn, sub, ab, col, dd, k0, k1, k2, k3, k5, hC, hbm⟩ := T.cls
  have hcl : clsIn K C = some { name := nmC, bases := bs, mro := .ref C :: bm, ns := N, qualname := qn, hasDict := true, slotNames := sn, subclasses := sub, abstract := ab, collection := col, hasDel := false } := by unfold clsIn; rw [hC] <;> rfl
  refine ks_codeAny_call_defAt (binds := [(("self" : Str), .ref x), (f, v)]) hroom (X _ _ ho) rfl hlim (codeRec_of X hcd) rfl (BindsTo.of_eq (hbind _ _)) scl (fun y hy => ?_) (fun h1 hns k => ?_) sco sg sk
  · rcases List.mem_cons.mp hy with e | hy
    · rw [e]; exact sself
    · rw [List.mem_singleton.mp hy]; exact sf
  generalize hL : s.heap.objs.size = L at hns
  show _root_.PySem.wpAt (model prog w) (A.deeper (ksEnv qual scope L fI (.ref cda) cc)) (.func _ (ksEnv qual scope L fI (.ref cda) cc)) (execs _ (ksEnv qual scope L fI (.ref cda) cc)) _ _ _
  have mself : ([(("self" : Str), Value.ref x), (f, v)] : List (Str × Value)).reverse.lookup ("self" : Str) = some (.ref x) := by
    show List.lookup ("self" : Str) [(f, v), (("self" : Str), Value.ref x)] = some (.ref x)
    have e : (("self" : Str) == f) = false := by
      have := T.fs
      rw [beq_eq_false_iff_ne] at this ⊢
      exact fun z => this z.symm
    simp [List.lookup, e]
  have mf : ([(("self" : Str), Value.ref x), (f, v)] : List (Str × Value)).reverse.lookup f = some v := by
    show List.lookup f [(f, v), (("self" : Str), Value.ref x)] = some v
    simp [List.lookup]
  generalize hmm : (fun y : Str => ([(("self" : Str), Value.ref x), (f, v)] : List (Str × Value)).reverse.lookup y) = mm at hns
  have ms : mm "self" = some (.ref x) := by rw [← hmm]; exact mself
  have mf' : mm f = some v := by rw [← hmm]; exact mf
  obtain ⟨hp, g, dr, tk, os⟩ := s
  have hxL : x ≠ L := by rw [← hL]; exact Nat.ne_of_lt (Heap.lt_size ox)
  have CL : C ≠ L := by rw [← hL]; exact Nat.ne_of_lt (Heap.lt_size (X _ _ hC))
  have xC : x ≠ C := fun z => by
    have := X _ _ hC
    rw [← z, ox] at this
    cases this
  have X1 : K.In h1 := X.keeps k
  have ox1 := k _ _ ox
  have lt1 : L < h1.objs.size := hns.lt
  -- super().__init__(..)
  refine ks_wpAt_execs_cons (ks_wpAt_Expr_any (hi := by unfold interactive; rw [show (ksEnv qual scope L fI (.ref cda) cc).scope.kind = .function from sk]; rfl) (ks_wpAt_MethodCall (pl := pl _) ?_ (hcall _)))
  have oC1 := X1 _ _ hC
  refine ks_wpAt_super_base (env := ksEnv qual scope L fI (.ref cda) cc) (ar := ar) ssup sclass rfl rfl (X1 _ _ ho) rfl har rfl (X1 _ _ hcode) rfl hvs hfile T.htop ?_
  refine ks_loadName_global sk ssup (loadGlobal_builtin (env := ksEnv qual scope L fI (.ref cda) cc) (G.keeps k) T.gS (B.keeps k) hb ⟨rfl, ?_⟩)
  refine wpAny_loadName_free sk sclass rfl ⟨_, X1 _ _ hcell, rfl⟩ ?_
  rw [ear]
  refine wpAny_loadName_local sk sself hns ms ?_
  refine ks_wpAny_isType_cls oC1 rfl ⟨rfl, ?_⟩
  refine ks_wpAny_call_super oC1 rfl ox1 rfl (fun c e => by cases e) (looks_mroIn X1 T.mC) fun h2 os2 k2 => ?_
  have X2 : K.In h2 := X1.keeps k2
  have ox2 := k2 _ _ ox1
  have I2 : InstAt h2 x (excO C t0) C none := ⟨ox2, rfl, rfl, trivial⟩
  have hI : Looks (model prog w) h2 (isInstance (.ref x) (.type "ValueError")) true := I2.type.andThen (looks_subIn X2 T.vC)
  have hsi : alongIn K "__init__" ((((Value.ref C :: bm)).dropWhile (· != .ref C)).drop 1) = some (some (.builtin "ValueError.__init__")) := by
    have z := T.sC
    unfold ks_superIn at z
    rw [hcl] at z
    exact z
  refine kxs_getMethod kxs_ValueError os2 (looks_opaque X2 T.oq) (l₀ := Value.ref C :: bm) (fun A' Q' E' s' kk qq => wpAny_bind ((looks_clsIn X2 hcl) A' _ E' s' kk (wpAny_pure qq))) rfl X2 hsi hI xC rfl ?_
  have h2L : h2.objs.size ≠ L := fun z => by
    have y := Heap.lt_size (show h1.get? x = some (excO C t0) from ox1)
    have y2 : L < h2.objs.size := by
      obtain ⟨oL, es, ep, hoL, _⟩ := hns
      exact Heap.lt_size (k2 _ _ hoL)
    omega
  have ns2 : (h2.push (mwV x)).Ns L mm := (hns.keeps k2).keeps fun _ _ z => Heap.get?_push_of_some _ z
  have ou : (h2.push (mwV x)).get? h2.objs.size = some (mwV x) := Heap.get?_push_size _ rfl
  suffices key : wpAny (model prog w) (A.deeper (ksEnv qual scope L fI (.ref cda) cc)) (spliced (backTo cp (starEach [me] (ksEnv qual scope L fI (.ref cda) cc))))
      (fun us s1 => KxsAt "ValueError.__init__" h2.objs.size x s1.heap ∧ wpAny (model prog w) (A.deeper (ksEnv qual scope L fI (.ref cda) cc)) (call (.ref h2.objs.size) us) _ _ s1) _ _ by
    rw [hstar] at key ⊢
    exact kxs_callWith (i := "ValueError.__init__") (x := x) rfl (evalArgs_plain key)
  refine args_cons (hm _ _ _ _ (ksEnv qual scope L fI (.ref cda) cc) mm sk sf ns2 mf' fun u tk2 => args_nil ⟨ou, ?_⟩) (hstar _)
  have X3 : K.In (h2.push (mwV x)) := X2.keeps fun _ _ z => Heap.get?_push_of_some _ z
  refine callV (X3 _ _ hC) (Heap.get?_push_of_some _ ox2) ou (by rw [sizeLine_eq]; exact (by decide : 1 ≤ 16777216)) fun h3 t1 k3 ox3 => ?_
  -- self.f = f
  have kx : ∀ b o, b ≠ x → hp.get? b = some o → h3.get? b = some o := fun b o hb e => k3 b o hb (Heap.get?_push_of_some _ (k2 _ _ (k _ _ e)))
  have ns3 : h3.Ns L mm := by
    obtain ⟨oL, es, ep, hoL, r⟩ := ns2
    exact ⟨oL, es, ep, k3 _ _ (Ne.symm hxL) hoL, r⟩
  have X4 : K.In h3 := fun a o e => k3 a o (fun z => by rw [z, hnx] at e; cases e) (X3 a o e)
  refine ks_wpAt_execs_cons (wpAt_of_wpAny (plainObj_wpAny_Assign_Attribute ?_ (hsw _)))
  refine wpAny_Name (wpAny_loadName_local (env := ksEnv qual scope L fI (.ref cda) cc) sk sf ns3 mf' ?_) T.fdb
  refine wpAny_Name (wpAny_loadName_local (env := ksEnv qual scope L fI (.ref cda) cc) sk sself ns3 ms ?_) (by decide)
  refine set_plain X4 (ox := excO C t1) (od := none) ⟨ox3, rfl, rfl, trivial⟩ T.sa ?_
  refine exc_osa X4 ox3 hcl (show refsVE (.ref C :: bm) = true from hbm) rfl T.noN fun h4 tk4 dx k4 dn dne hx4 hn4 => ?_
  refine wpAt_of_wpAny (wpAny_execs_nil ?_)
  refine hq h4 tk4 dx t1 ⟨fun b o hb e => k4 b o hb (kx b o hb e), hx4, ?_, dne, hn4⟩
  have y : L < h3.objs.size := ns3.lt
  show hp.objs.size ≤ dx
  exact Nat.le_trans (Nat.le_of_eq hL) (Nat.le_trans (Nat.le_of_lt y) dn)
/-- the whole of C(v) -/
structure XiMade (h h' : Heap) (e C d : Addr) (f : Str) (v : Value) : Prop where
  keep : ∀ b o, h.get? b = some o → h'.get? b = some o
  new : h.objs.size ≤ e
  obj : ∃ oe vs, h'.get? e = some oe ∧ oe.cls = .ref C ∧ oe.dict = some d ∧ oe.data = .fields vs ∧ vs[1]? = some .none
  dbig : h.objs.size ≤ d
  dne : d ≠ e
  ns : h'.Ns1 d (fun y => if y = f then some v else none)
theorem xi_made (T : XiTxt prog K mg nm C fI f me) {v : Value} (hm : MsgOk prog w f me v) (X : K.In s.heap) (G : s.heap.Ns mainGlobals mg) (B : s.heap.Ns builtinsNs mb) (hb : mb "super" = some (.type "super")) (hlim : s.heap.NoLimit)
    (hroom : A.depth + 1 < recursionLimit) (hq : ∀ h' tk e d, XiMade s.heap h' e C d f v → R (.ok (.ret (.ref e))) { s with heap := h', toks := tk }) : codeAny (model prog w) A (.call (.ref C) ⟨[v], []⟩) R s := by
  obtain ⟨nmC, qn, N, bs, bm, sn, sub, ab, col, dd, k0, k1, k2, k3, k5, hC, hbm⟩ := T.cls
  obtain ⟨hp, g, dr, tk, os⟩ := s
  have few : [v].length ≤ sizeLine := by rw [sizeLine_eq]; exact (by decide : 1 ≤ 16777216)
  have k : ∀ b o, hp.get? b = some o → ((hp.push (kdv_tup [v])).push (excO C hp.objs.size)).get? b = some o := fun b o e => Heap.get?_push_of_some _ (Heap.get?_push_of_some _ e)
  have new : ((hp.push (kdv_tup [v])).push (excO C hp.objs.size)).get? (hp.objs.size + 1) = some (excO C hp.objs.size) := by heap_get
  have hnx : K.lookup (hp.objs.size + 1) = none := by
    cases e : K.lookup (hp.objs.size + 1) with
    | none => rfl
    | some o =>
      have z : hp.get? (hp.objs.size + 1) = some o := X _ _ e
      exact absurd (Nat.lt_of_succ_lt (Heap.lt_size z)) (Nat.lt_irrefl _)
  refine call_own F.excBase_ValueError (fun Y => refsVE_contains Y bm hbm) (X _ _ hC) (looks_findIn X T.iC) (fun self => bind_fn X self T.tC) few ?_
  refine xi_init (s := ⟨(hp.push (kdv_tup [v])).push (excO C hp.objs.size), g, dr, tk, os⟩) T hm (X.keeps k) (G.keeps k) (B.keeps k) hb (hlim.keeps k) new hnx ?_ fun h' tk' dx t1 M => ?_
  · show A.depth + 1 < recursionLimit
    exact hroom
  · have old : ∀ b o, hp.get? b = some o → h'.get? b = some o := fun b o e => M.keep b o (Nat.ne_of_lt (Nat.lt_succ_of_lt (Heap.lt_size e))) (k b o e)
    have z := M.dbig
    rw [Heap.size_push, Heap.size_push] at z
    exact ⟨rfl, hq h' tk' (hp.objs.size + 1) dx ⟨old, Nat.le_succ _, ⟨_, _, M.obj, rfl, rfl, rfl, rfl⟩, Nat.le_trans (Nat.le_trans (Nat.le_succ _) (Nat.le_succ _)) z, M.dne, M.ns⟩⟩
end
end XiX
end PySem
namespace L2
open PySem PySem.Spec PyProof.Rows
theorem relO_xi {v : V} {v' : Value} {g : Str} (r : RelV v v') (f : Str) : RelO (List.lookup f [(g, v)]) (if f = g then some v' else none) := by
  by_cases hw : f = g
  · subst hw
    rw [if_pos rfl, show List.lookup f [(f, v)] = some v by simp [List.lookup]]
    exact r
  · have qw : (f == g) = false := by simpa using hw
    rw [if_neg hw, show List.lookup f [(g, v)] = none by simp [List.lookup, qw]]
    trivial
section
variable {X : Cx} {C fI : Addr} {nm f : Str} {me : Expr}
/-- C(e) -/
def tMkXi (C : Addr) (f : Str) (ok : V → Prop) (ta : TA) : St → Hp → XK → Prop := fun σ H Q => ta σ H fun vs H1 => ∃ v, vs = [v] ∧ ok v ∧ ∀ d, H1 d = none → Q (.ref C) (some d) (upd H1 d (.xd [(f, v)]))
theorem pmk_xi {a : Expr} {ta : TA} {p pos : Pos} {k : Nat} {ok : V → Prop} (T : PySem.XiX.XiTxt X.prog X.K X.mg nm C fI f me) (hm : ∀ v u, ok v → RelV v u → PySem.XiX.MsgOk X.prog X.w f me u) (hr : Room k X.A) (ha : PA X [a] ta) (hg : Gl X nm) (hdb : (nm == ("__debug__" : Str)) = false := by decide)
    (he : starEach (a :: []) X.env = (false, eval a X.env) :: starEach [] X.env := by rfl) (hpl : (backTo pos (starEach [] X.env)).any (·.1) = false := by rfl) :
    PMk X (.Call (.Name nm p) [a] [] pos) (tMkXi C f ok ta) := by
  intro pins s σ H Q I h
  refine wpAny_Call_Name_kw (ld_glob I hg T.gC ?_ hdb)
  refine PySem.W.callWith_K (h₀ := X.base) I.ok.mod.kin T.kC (thn (ha.run pos pins s σ H _ I h) fun us s1 hh => ?_) he hpl
  obtain ⟨vs, H1, I1, r1, v, ev, hok, q1⟩ := hh
  subst ev
  refine ⟨I1.kIn, ?_⟩
  cases r1 with
  | cons rv rn =>
    rename_i v' us'
    cases rn
    show wpAny _ _ (call (.ref C) [v']) _ _ _
    have hlim := I1.nolimit
    obtain ⟨mb, hB, hbl⟩ := I1.ok.mod.blt
    have kIn := I1.kIn
    have bk := I1.bk
    have G := I1.ok.mod.glob.keeps bk
    have B := hB.keeps bk
    obtain ⟨hp, g, dr, tk, os⟩ := s1
    refine wpAny_call (PySem.XiX.xi_made T (hm v v' hok rv) kIn G B ((hbl "super" (by decide)).trans (by rfl)) hlim (by have := hr.dp; omega) fun h' tk' e d M => ?_)
    show MkP X pins σ Q (.ref e) ⟨h', g, dr, tk', os⟩
    obtain ⟨oe, fv, hoe, hc, hd, hdat, h1⟩ := M.obj
    have hns := M.ns
    obtain ⟨G', g1, g2⟩ := restrict h' fun b => decide (b ≠ e)
    have gk : ∀ b, b ≠ e → G'.get? b = h'.get? b := fun b hb => g1 b (decide_eq_true hb)
    have ge : G'.get? e = none := g2 e (by simp)
    have old : ∀ b o, hp.get? b = some o → G'.get? b = some o := fun b o q => (gk b (Nat.ne_of_lt (Nat.lt_of_lt_of_le (Heap.lt_size q) M.new))).trans (M.keep b o q)
    have ob : ObjOk X.prog X.w (upd H1 d (.xd [(f, v)])) G' d (.xd [(f, v)]) :=
      ⟨_, hns.at (fun o q => (gk d M.dne).trans q), fun y => relO_xi rv y⟩
    have J : Inv X pins σ (upd H1 d (.xd [(f, v)])) ⟨G', g, dr, tk', os⟩ := I1.laid (t' := tk') old M.dbig ob
    refine ⟨e, oe, fv, ⟨G', g, dr, tk', os⟩, _, .ref C, some d, rfl, J, fun b o q => ?_, ge, hoe, ⟨hc, hd⟩, hdat, h1, ?_, rfl, I1.bare, raises_own T.exC T.tyC, q1 d (I1.hok.fresh M.dbig)⟩
    · by_cases hb : b = e
      · have q' : G'.get? b = some o := q
        rw [hb, ge] at q'; cases q'
      · exact (gk b hb).symm.trans q
    · rw [upd_ne (Ne.symm M.dne)]
      exact I1.hok.fresh M.new
end
end L2
end
section
set_option Elab.async false
set_option linter.all false
set_option maxRecDepth 100000
set_option maxHeartbeats 4000000
/-! Rules that the layer lacks, fourth part: try with several clauses, some with a name; isinstance of a caught error that has a dict. -/
namespace L2
open PySem PySem.Spec PyProof.Rows
/-- a clause: the class, the slot of its name, its suite -/
structure ClA where
  c : Value
  i : Option Nat
  ts : Addr → Value → Option Addr → TS
/-- the ends of a suite: its name goes -/
def ClA.ends (i : Option Nat) (D : Ends) : Ends := match i with
  | none => D
  | some i => { nx := fun σ H => D.nx (σ.set i none) H, rt := D.rt, bk := fun σ H => D.bk (σ.set i none) H, ct := fun σ H => D.ct (σ.set i none) H }
def ClA.slots (i : Option Nat) (a : Addr) (σ : St) : St := match i with
  | none => σ
  | some i => σ.set i (some (.ref a))
/-- what the clauses wish, one after the other -/
def wAsm (K : PySem.W.Frag) (Wout : WX) (D : Ends) : List ClA → WX
  | [] => Wout
  | q :: r => fun cls d σ H => ∃ b, PySem.W.exmOne K cls q.c = some b ∧ (b = true → ∀ a, H a = none → q.ts a cls d (ClA.ends q.i D) (ClA.slots q.i a σ) H) ∧ (b = false → wAsm K Wout D r cls d σ H)
inductive HdsA (X : Cx) : List ExceptHandler → List ClA → Prop
  | nil : HdsA X [] []
  | plain {x : Str} {c : Value} {ts : Addr → Value → Option Addr → TS} {st0 : Stmt} {ste : List Stmt} {npn psn : Pos} {hdl : List ExceptHandler} {l : List ClA} (hcn : Names X x c)
      (sui : ∀ (a : Addr) (oe : Obj) (cls : Value) (d : Option Addr) (pn : List (Addr × Obj)), Zc cls d oe → (∃ vs, oe.data = .fields vs) → PSs (X.suite a ((a, oe) :: pn)) (st0 :: ste) (ts a cls d)) (r : HdsA X hdl l) :
      HdsA X (.ExceptHandler (some (.Name x npn)) none (st0 :: ste) psn :: hdl) (⟨c, none, ts⟩ :: l)
  | named {x n : Str} {c : Value} {i : Nat} {ts : Addr → Value → Option Addr → TS} {st0 : Stmt} {ste : List Stmt} {npn psn : Pos} {hdl : List ExceptHandler} {l : List ClA} (hi : X.N[i]? = some n) (hln : X.env.kindOf n = some .local) (hcn : Names X x c)
      (sui : ∀ (a : Addr) (oe : Obj) (cls : Value) (d : Option Addr) (pn : List (Addr × Obj)), Zc cls d oe → (∃ vs, oe.data = .fields vs) → PSs (X.suite a ((a, oe) :: pn)) (st0 :: ste) (ts a cls d)) (r : HdsA X hdl l) :
      HdsA X (.ExceptHandler (some (.Name x npn)) (some n) (st0 :: ste) psn :: hdl) (⟨c, some i, ts⟩ :: l)
section
variable {X : Cx} {body : List Stmt} {h₀ : ExceptHandler} {hdl : List ExceptHandler} {l : List ClA} {pos : Pos} {tb : WX → TS} {Wout : WX}
theorem ps_try_asm (hs : X.stack = X.env :: X.outer) (hf : X.env.frame = some X.env.locals) (hN : X.N.Nodup) (tk : Takes X Wout)
    (hb : ∀ (W : WX) (pn : List (Addr × Obj)) (xe : Value → Shared → Prop), Takes (X.tr pn xe) W → PassesOwn (model X.prog X.w) X.A X.env xe → PSs (X.tr pn xe) body (tb W))
    (hds0 : HdsA X (h₀ :: hdl) l) : PS X (.Try body (h₀ :: hdl) [] [] pos) (fun D σ H => tb (wAsm X.K Wout D l) D σ H) := by
  refine ⟨fun pns s σ H D I h => ?_⟩
  have ok := I.ok
  have efr : X.A.frames = some (X.env :: X.outer) := by rw [ok.frames, hs]
  refine wpAny_Try_except ?_
  refine wpAny_mono ((hb (wAsm X.K Wout D l) (X.pn ++ pns) (fun e s₁ => wpAny (model X.prog X.w) X.A (noteFrame e X.env) (fun _ s₂ => wpAny (model X.prog X.w) X.A (setFlight e none) (fun _ s₃ =>
    wpAny (model X.prog X.w) X.A (handleBy e X.env (h₀ :: hdl)) (SP X pns D) X.xe s₃) X.xe s₂) X.xe s₁) (fun u s' inair => ?_) PassesOwn.looking).run [] s σ H D (I.toTry _) h) (fun f t1s spc => ?_) (fun e t1s he => he)
  · -- the catch
    obtain ⟨a, B, sIn, pnt, τc, Gc, cls, d, rfl, Jt, nbx, upc, skc, nax, os, agx, w⟩ := inair
    have Jc : Inv X pns τc Gc sIn := Jt.ofTry ok
    have skd : Sky B (X.env :: X.outer) a (Zc cls d) X.env.locals s'.heap := by rw [← hs]; exact skc
    show wpAny (model X.prog X.w) X.A (noteFrame (.ref a) X.env) _ _ _
    refine Sky.land Zc.steady efr hf skd fun hp3 fly3 upc3 => ?_
    have Jc3 : Inv X pns τc Gc { s' with heap := hp3 } := Jc.landed nbx fly3.1 (upc.trans upc3) os agx
    obtain ⟨ox3, ws3, ge3, gz3, gd3⟩ := fly3.there
    have noFrm : ∀ {h : Heap} {o : Obj} {vs : Array Value}, h.FunFrames B (X.env :: X.outer) → h.get? a = some o → o.data = .fields vs → a ∉ frs (X.env :: X.outer) := fun {h o vs} ff e dd mm => by
      obtain ⟨_, o', e', hnf⟩ := ff.mem mm
      rw [e] at e'; cases e'
      exact hnf _ dd
    have nfrm := noFrm fly3.2.2.1 ge3 gd3
    have nLc : a ≠ X.env.locals := fun z => nfrm (List.mem_filterMap.mpr ⟨X.env, List.mem_cons_self, by rw [hf, z]⟩)
    have nFr : a ∉ X.fs := fun mm => by
      obtain ⟨e, he, q⟩ := List.mem_filterMap.mp mm
      exact nfrm (List.mem_filterMap.mpr ⟨e, List.mem_cons_of_mem _ he, q⟩)
    have Sc3 := Jc3.suite ge3 gd3 nax nLc nFr
    have clz : ∀ {hdr : List ExceptHandler} {lt1 : List ClA}, HdsA X hdr lt1 → wAsm X.K Wout D lt1 cls d τc Gc →
        wpAny (model X.prog X.w) X.A (handleBy (.ref a) X.env hdr) (SP X pns D) X.xe { s' with heap := hp3 } := by
      intro hdr lt1 hk
      induction hk with
      | nil =>
        intro w
        refine wpAny_handleBy_nil ?_
        obtain ⟨c1, c2, c3, oe, vs, T, obT0, ts', he, hz, hd, h1, hr⟩ := id fly3
        unfold PySem.passOn
        refine wpAny_bind (wpAny_field he hd h1 ?_)
        rw [if_neg (show ¬ ((Value.ref T == Value.none) = true) from by simp)]
        have fnl : wpAny (model X.prog X.w) X.A (setFlight (.ref a) X.env.frame) (fun _ t4s => wpAny (model X.prog X.w) X.A (throw (.ref a) : Sem Flow) (SP X pns D) X.xe t4s) X.xe { s' with heap := hp3 } := by
          rw [hf]
          refine HandSPX.setFlight_upZ fly3 fun hp4 hhp4 upc4 => wpAny_throw (tk _ _ ?_)
          exact ⟨a, B, sIn, pns, τc, Gc, cls, d, rfl, Jc, nbx, (upc.trans upc3).trans upc4, .inr (.inr (by rw [hs]; exact hhp4)), nax, os, agx, w⟩
        first
          | exact wpAny_bind (wpAny_pure (wpAny_bind fnl))
          | exact wpAny_bind fnl
      | @plain x c ts st0 ste npn psn hdt lt2 hcn sui r ih =>
        intro w
        obtain ⟨b, hbt, yes, nay⟩ := w
        refine wpAny_handleBy_cons (codeAny_handlers_test ?_) (by intro q; cases q)
        have lookT : PySem.W.Looks (model X.prog X.w) hp3 (typeOf (.ref a)) cls := fun A Q E s k q => wpAny_typeOf_ref (k _ _ ge3) (by rw [gz3.1]; exact q)
        have lookM := PySem.W.exm_one (M := model X.prog X.w) (Jc3.kIn) lookT hbt
        have tstN : ∀ {Q : Value → Shared → Prop} {E : Value → Shared → Prop}, Q c { s' with heap := hp3 } → wpAny (model X.prog X.w) (X.A.mark (some (.ref a))) (eval (.Name x npn) X.env) Q E { s' with heap := hp3 } := fun {Q E} q => by
          obtain ⟨hg, hdbg, mm | ⟨mm, hv, hnn⟩⟩ := hcn
          · exact ld_glob (X := X.suite a ((a, ox3) :: (X.pn ++ pns))) Sc3 hg mm q hdbg
          · exact ld_blt (X := X.suite a ((a, ox3) :: (X.pn ++ pns))) Sc3 hg mm hv q hnn hdbg
        refine tstN (lookM.here ?_)
        cases b with
        | true =>
          refine codeAny_handlers_suite ?_
          refine HandSPX.lands_againZ fly3 fun hp4 fly4 upc4 => ?_
          have Jc4 : Inv X pns τc Gc { s' with heap := hp4 } := Jc.landed nbx fly4.1 ((upc.trans upc3).trans upc4) os agx
          obtain ⟨ox4, ws4, ge4, gz4, gd4⟩ := fly4.there
          have Sc4 := Jc4.suite ge4 gd4 nax nLc nFr
          refine wpAny_mono ((sui a ox4 cls d (X.pn ++ pns) gz4 ⟨_, gd4⟩).run [] _ _ Gc _ Sc4 (yes rfl a nax)) (fun f t6s spc => ?_) (fun _ _ z => False.elim z)
          cases f with
          | next =>
            obtain ⟨τ6, G6, Sc6, qc6⟩ := spc
            exact ⟨_, _, Sc6.unsuite ok, qc6⟩
          | brk =>
            obtain ⟨τ6, G6, Sc6, qc6⟩ := spc
            exact ⟨_, _, Sc6.unsuite ok, qc6⟩
          | cont =>
            obtain ⟨τ6, G6, Sc6, qc6⟩ := spc
            exact ⟨_, _, Sc6.unsuite ok, qc6⟩
          | ret u =>
            obtain ⟨vc6, τ6, G6, Sc6, rc6, qc6⟩ := spc
            exact ⟨_, _, _, Sc6.unsuite ok, rc6, qc6⟩
        | false =>
          show wpAny _ X.A (handleBy (.ref a) X.env hdt) _ _ _
          exact ih (nay rfl)
      | @named x n c i ts st0 ste npn psn hdt lt2 hi hln hcn sui r ih =>
        intro w
        obtain ⟨b, hbt, yes, nay⟩ := w
        refine wpAny_handleBy_cons (codeAny_handlers_test ?_) (by intro q; cases q)
        have lookT : PySem.W.Looks (model X.prog X.w) hp3 (typeOf (.ref a)) cls := fun A Q E s k q => wpAny_typeOf_ref (k _ _ ge3) (by rw [gz3.1]; exact q)
        have lookM := PySem.W.exm_one (M := model X.prog X.w) (Jc3.kIn) lookT hbt
        have tstN : ∀ {Q : Value → Shared → Prop} {E : Value → Shared → Prop}, Q c { s' with heap := hp3 } → wpAny (model X.prog X.w) (X.A.mark (some (.ref a))) (eval (.Name x npn) X.env) Q E { s' with heap := hp3 } := fun {Q E} q => by
          obtain ⟨hg, hdbg, mm | ⟨mm, hv, hnn⟩⟩ := hcn
          · exact ld_glob (X := X.suite a ((a, ox3) :: (X.pn ++ pns))) Sc3 hg mm q hdbg
          · exact ld_blt (X := X.suite a ((a, ox3) :: (X.pn ++ pns))) Sc3 hg mm hv q hnn hdbg
        refine tstN (lookM.here ?_)
        cases b with
        | true =>
          refine codeAny_handlers_suite_as ?_
          refine HandSPX.lands_againZ fly3 fun hp4 fly4 upc4 => ?_
          have Jc4 : Inv X pns τc Gc { s' with heap := hp4 } := Jc.landed nbx fly4.1 ((upc.trans upc3).trans upc4) os agx
          obtain ⟨ox4, ws4, ge4, gz4, gd4⟩ := fly4.there
          have Sc4 := Jc4.suite ge4 gd4 nax nLc nFr
          refine store_ok (X := X.suite a ((a, ox4) :: (X.pn ++ pns))) (v := .ref a) Sc4 hN hi (.inl hln) rfl (fun t5s Sc5 => ?_) (.inr hln)
          have fin_ : ∀ {τ6 : St} {G6 : Hp} {t6s : Shared} {Q : Shared → Prop}, Inv (X.suite a ((a, ox4) :: (X.pn ++ pns))) [] τ6 G6 t6s → (∀ t7s, Inv X pns (τ6.set i none) G6 t7s → Q t7s) →
              wpAny (model X.prog X.w) X.A (do bindName X.env n .none; unbindBehindTheSuite X.env n psn) (fun _ t7s => Q t7s) X.xe t6s := fun {τ6 G6 t6s Q} Sc6 hq => gone_ok (Sc6.unsuite ok) hN hi hln hq
          refine wpAny_mono ((sui a ox4 cls d (X.pn ++ pns) gz4 ⟨_, gd4⟩).run [] t5s _ Gc _ Sc5 (yes rfl a nax)) (fun f t6s spc => ?_) (fun _ _ z => False.elim z)
          cases f with
          | next =>
            obtain ⟨τ6, G6, Sc6, qc6⟩ := spc
            exact fin_ Sc6 fun t7s Jc7 => ⟨_, _, Jc7, qc6⟩
          | brk =>
            obtain ⟨τ6, G6, Sc6, qc6⟩ := spc
            exact fin_ Sc6 fun t7s Jc7 => ⟨_, _, Jc7, qc6⟩
          | cont =>
            obtain ⟨τ6, G6, Sc6, qc6⟩ := spc
            exact fin_ Sc6 fun t7s Jc7 => ⟨_, _, Jc7, qc6⟩
          | ret u =>
            obtain ⟨vc6, τ6, G6, Sc6, rc6, qc6⟩ := spc
            exact fin_ Sc6 fun t7s Jc7 => ⟨_, _, _, Jc7, rc6, qc6⟩
        | false =>
          show wpAny _ X.A (handleBy (.ref a) X.env hdt) _ _ _
          exact ih (nay rfl)
    exact clz hds0 w
  · cases f with
    | next =>
      obtain ⟨τc, Gc, Jt, q⟩ := spc
      exact wpAny_execs_nil ⟨τc, Gc, Jt.ofTry ok, q⟩
    | brk =>
      obtain ⟨τc, Gc, Jt, q⟩ := spc
      exact ⟨τc, Gc, Jt.ofTry ok, q⟩
    | cont =>
      obtain ⟨τc, Gc, Jt, q⟩ := spc
      exact ⟨τc, Gc, Jt.ofTry ok, q⟩
    | ret u =>
      obtain ⟨v, τc, Gc, Jt, r, q⟩ := spc
      exact ⟨v, τc, Gc, Jt.ofTry ok, r, q⟩
end
/-! ### isinstance(e, c), e the caught error at a -/
section
variable {X : Cx} {a D : Addr} {oe : Obj} {pn : List (Addr × Obj)} {cls : Value} {d : Option Addr}
theorem xiIn {pns : List (Addr × Obj)} {σ : St} {H : Hp} {s : Shared} {dd : Addr} {fs : List (Str × V)} (hz : Zc (.ref D) (some dd) oe) (hf : ∃ vs, oe.data = .fields vs) (I : Inv (X.suite a ((a, oe) :: pn)) pns σ H s) (hd : H dd = some (.xd fs)) :
    ∃ od, PySem.W.InstAt s.heap a oe D (some od) := by
  obtain ⟨hget, _⟩ := I.pin (a, oe) (List.mem_append_left _ List.mem_cons_self)
  have ho : ObjOk X.prog X.w H s.heap dd (.xd fs) := I.hok dd _ hd
  obtain ⟨mA, hns, _⟩ := ho
  obtain ⟨od, eo, _⟩ := lookIn_ns hns
  obtain ⟨vs, hv⟩ := hf
  exact ⟨od, hget, hz.1, by unfold PySem.W.notCls; rw [hv] <;> rfl, by rw [hz.2]; exact eo⟩
/-- with one class -/
def rIsX (K : PySem.W.Frag) (D a dd : Addr) : List V → Hp → VK → Prop := fun xs H Q => ∃ (c : V) (cv : Value) (b : Bool) (fs : List (Str × V)), xs = [.ref a, c] ∧ H dd = some (.xd fs) ∧ (∀ u, RelV c u → u = cv) ∧ PySem.W.kitOne K (.ref D) cv = some b ∧ Q (.bl b) H
/-- with a tuple of classes -/
def rIsXT (K : PySem.W.Frag) (D a dd : Addr) : List V → Hp → VK → Prop := fun xs H Q => ∃ (t : Addr) (cs : List Addr) (b : Bool) (fs : List (Str × V)), xs = [.ref a, .ref t] ∧ H dd = some (.xd fs) ∧ H t = some (.tup (cs.map V.ref)) ∧ PySem.W.kitAny K (.ref D) (cs.map Value.ref) = some b ∧ Q (.bl b) H
theorem xiKit (C : ExcC X.K D) {od : Option Obj} : PySem.W.KitX X.K (.ref a) (.ref D) (fun h => PySem.W.InstAt h a oe D od) :=
  PySem.W.kitx_exc (by obtain ⟨cd, e, _⟩ := PySem.W.any_some C.hd; rw [e]; rfl) C.hg C.hk C.hs C.ha C.hn C.ht C.hm
theorem call_isX {dd : Addr} (C : ExcC X.K D) (hz : Zc (.ref D) (some dd) oe) (hf : ∃ vs, oe.data = .fields vs) : CallR (X.suite a ((a, oe) :: pn)) (.builtin "isinstance") (rIsX X.K D a dd) := by
  intro pins s σ H xs us Q I r h
  obtain ⟨c, cv, b, fs, rfl, hd, hcv, e, q⟩ := h
  obtain ⟨u1, u2, rfl, r1, r2⟩ := vals2 r
  obtain rfl : u1 = Value.ref a := r1
  obtain rfl := hcv _ r2
  obtain ⟨od, J⟩ := xiIn hz hf I hd
  exact PySem.W.kia_one (xiKit C) I.kIn J e (fun z => nomatch z) fun tk => ⟨.bl b, H, I.kept (t' := tk) fun _ _ z => z, rfl, q⟩
theorem refs_vals : ∀ {cs : List Addr} {us : List Value}, Vals (cs.map V.ref) us → us = cs.map Value.ref
  | [], _, r => by cases r; rfl
  | c :: cs, _, r => by
    cases r with
    | cons h1 h2 => rw [refs_vals h2, show _ = Value.ref c from h1]; rfl
theorem call_isXT {dd : Addr} (C : ExcC X.K D) (hz : Zc (.ref D) (some dd) oe) (hf : ∃ vs, oe.data = .fields vs) : CallR (X.suite a ((a, oe) :: pn)) (.builtin "isinstance") (rIsXT X.K D a dd) := by
  intro pins s σ H xs us Q I r h
  obtain ⟨t, cs, b, fs, rfl, hd, ht, e, q⟩ := h
  obtain ⟨u1, u2, rfl, r1, r2⟩ := vals2 r
  obtain rfl : u1 = Value.ref a := r1
  obtain rfl : u2 = Value.ref t := r2
  obtain ⟨od, J⟩ := xiIn hz hf I hd
  have ho : ObjOk X.prog X.w H s.heap t (.tup (cs.map V.ref)) := I.hok t _ ht
  obtain ⟨_, its, rv, ot, ho, hc, n, hdt⟩ := ho
  obtain rfl := refs_vals rv
  obtain ⟨oc, odc, oda, osl⟩ := ot
  dsimp only at hc hdt
  subst hc hdt
  exact PySem.W.kia_tup (xiKit C) I.kIn J ho e (fun z => nomatch z) fun tk => ⟨.bl b, H, I.kept (t' := tk) fun _ _ z => z, rfl, q⟩
end
/-! ### the messages -/
theorem msg3 {P : Program} {w : World} {f a b : Str} {k1 k2 : Nat} {p1 p2 p3 p4 p5 : Pos} {i : Int} {tk : Tok} (hdb : (f == ("__debug__" : Str)) = false) (hi : i.natAbs.log2 < 1920) (h1 : (Str.empty ++ a).length ≤ sizeLine) (h2 : (Str.empty ++ a ++ toString i).length ≤ sizeLine) (h3 : (Str.empty ++ a ++ toString i ++ b).length ≤ sizeLine) :
    PySem.XiX.MsgOk P w f (.JoinedStr [.Constant (.str a) k1 p1, .FormattedValue (.Name f p2) (-1) none p3, .Constant (.str b) k2 p4] p5) (.int i tk) := by
  intro A E Q s env m hk hl hn hm hq
  refine wpAny_JoinedStr ?_
  show Joins _ _ _ [eval _ env, eval _ env, eval _ env] _ _ _
  refine Calls.Constant_str ⟨_, _, rfl, h1, ?_⟩
  refine wpAny_FormattedValue_plain (wpAny_Name (wpAny_loadName_local hk hl hn hm ?_) hdb)
  refine wpAny_formatField_int hi ⟨_, _, rfl, h2, ?_⟩
  refine Calls.Constant_str ⟨_, _, rfl, h3, ?_⟩
  exact ⟨h3, hq _ _⟩
theorem msg2 {P : Program} {w : World} {f a : Str} {k1 : Nat} {p1 p2 p3 p5 : Pos} {x : Str} {tk : Tok} (hdb : (f == ("__debug__" : Str)) = false) (hx : (reprText x).length ≤ sizeLine) (h1 : (Str.empty ++ a).length ≤ sizeLine) (h2 : (Str.empty ++ a ++ reprText x).length ≤ sizeLine) :
    PySem.XiX.MsgOk P w f (.JoinedStr [.Constant (.str a) k1 p1, .FormattedValue (.Name f p2) 114 none p3] p5) (.str x tk) := by
  intro A E Q s env m hk hl hn hm hq
  refine wpAny_JoinedStr ?_
  show Joins _ _ _ [eval _ env, eval _ env] _ _ _
  refine Calls.Constant_str ⟨_, _, rfl, h1, ?_⟩
  refine wpAny_FormattedValue_repr (wpAny_Name (wpAny_loadName_local hk hl hn hm ?_) hdb)
  exact pyReprObj_str (wpAny_formatField_str ⟨_, _, rfl, h2, h2, hq _ _⟩ ⟨_, _, rfl, h2, h2, hq _ _⟩ hx) hx
end L2
end
section
set_option Elab.async false
set_option linter.all false
set_option maxRecDepth 100000
set_option maxHeartbeats 4000000
/-! Rules that the layer lacks, fifth part: a dict comprehension (tuples as keys) bound to a name; an inner loop of a comprehension. -/
namespace L2
open PySem PySem.Spec PyProof.Rows
theorem swD_true {kx vx : Expr} {gs : List Comprehension} {scope : Scope} {pos py : Pos} {y : Str} {l : Nat} {env : Env} (hk : env.scope.kind = .function) (hy : env.scope.names.lookup y = some .local) (hl : (py.line == pos.line) = true)
    (ha : (scope.names.any fun (n, k) => n == y && (k == .local || k == .cell)) = false) : swapsWith (.DictComp kx vx gs scope pos) (some (.Name y py)) l env = pure true := by
  have ky : env.kindOf y = some .local := hy
  have kb : env.blockKind = .function := by
    unfold Env.blockKind
    simp [hk, ScopeKind.isAnnotationScope]
  have e : (env.blockKind == ScopeKind.function && env.kindOf y == some NameKind.local && py.line == (Expr.DictComp kx vx gs scope pos).pos.line && !(scope.names.any fun (n, k) => n == y && (k == .local || k == .cell))) = true := by
    rw [kb, ky, show (py.line == (Expr.DictComp kx vx gs scope pos).pos.line) = true from hl, ha]
    rfl
  show (pure (env.blockKind == ScopeKind.function && env.kindOf y == some NameKind.local && py.line == (Expr.DictComp kx vx gs scope pos).pos.line && !(scope.names.any fun (n, k) => n == y && (k == .local || k == .cell))) : Sem Bool) = pure true
  rw [e]
section
variable {X : Cx}
theorem ps_setDcT {i : Nat} {y : Str} {py : Pos} {kx vx tg iter : Expr} {ifs : List Expr} {scope : Scope} {own : List (Str × Nat)} {pos spos : Pos} {wi : TI} {g : TG} {tt : TT} {tk tv : TE} (hu : X.A.units + 1 < cLine) (hc : X.calm = true) (hN : X.N.Nodup) (hy : X.N[i]? = some y)
    (hyl : X.env.scope.names.lookup y = some .local) (hsw : swapsWith (.DictComp kx vx [⟨tg, iter, ifs, 0⟩] scope pos) (some (.Name y py)) spos.line X.env = pure true) (hi : PI X tg iter wi) (ok : BlkOk X.N X.env.scope scope own)
    (hg : ∀ (s : Shared) (H : Hp) (C : Addr) (cl : List (Str × Addr)) (fp : List Addr), PG (X.blk s H scope (compEnvC scope cl C X.env) fp) tg g)
    (ht : ∀ (s : Shared) (H : Hp) (C : Addr) (cl : List (Str × Addr)) (fp : List Addr), PTs (X.blk s H scope (compEnvC scope cl C X.env) fp) ifs tt)
    (hk : ∀ (s : Shared) (H : Hp) (C : Addr) (cl : List (Str × Addr)) (fp : List Addr), PE (X.blk s H scope (compEnvC scope cl C X.env) fp) kx tk)
    (he : ∀ (s : Shared) (H : Hp) (C : Addr) (cl : List (Str × Addr)) (fp : List Addr), PE (X.blk s H scope (compEnvC scope cl C X.env) fp) vx tv) (hs : ∀ x, foldedSetIterable iter X.env x = pure x := by intro _; rfl) :
    PS X (.Assign [.Name y py] (.DictComp kx vx [⟨tg, iter, ifs, 0⟩] scope pos) spos) (tAsg (tDcT wi g tt tk tv (own.map (·.2))) (gName i)) := by
  refine ⟨fun pns s σ H D I h => ?_⟩
  rw [exec_Assign_Name_used _ _ _ _ hsw]
  refine wpAny_bind (wpAny_standAt (wpAny_bind ?_))
  show wpAny _ X.A (do let _ ← comprehension (.DictComp kx vx [⟨tg, iter, ifs, 0⟩] scope pos) scope X.env (firstIterPos [⟨tg, iter, ifs, 0⟩] pos) newDict false (eval iter X.env) (some (assign (.Name y py) X.env))) _ _ s
  have h : tDcT wi g tt tk tv (own.map (·.2)) σ H (fun x H1 => gName i x σ H1 D.nx) := h
  refine wpAny_bind (thn (dcT_core (Qf := fun _ s' => SP X pns D .next s') hu hc hN I hi ok hg ht hk he hs h fun Dn C s' m H' I' q hn f => ?_) fun _ s' hq => wpAny_pure (wpAny_pure hq))
  show wpAny _ _ (assign (.Name y py) X.env (.ref Dn)) _ _ _
  refine wpAny_assign_Name (store_ok2 (v := V.ref Dn) I' hN hy (.inl hyl) rfl (fun s2 I2 hh => ?_) (.inr hyl))
  obtain ⟨a, sb, ha⟩ := hh
  obtain ⟨f0, f1, f2, f3, f4, f5⟩ := f
  have hCa : C ≠ a := by
    rcases ha with z | z
    · rw [z]
      exact f1
    · exact fun e => f4 y a z e.symm
  refine ⟨m, hn.sameBut sb hCa, fun h3 sb3 => ?_⟩
  exact ⟨_, H', I2.turned (t' := s2.toks) (fun b o hb e => (sb3.2 b hb).trans e) f0 f1 f3 f4 f5, q⟩
end
end L2
end
section
set_option Elab.async false
set_option linter.all false
set_option maxRecDepth 100000
set_option maxHeartbeats 4000000
/-! What the walks share: calls by name, what stands in the heap. -/
namespace K38
open PySem PySem.Spec PyProof.Rows L2
/-- the written part, within a program whose super is plain -/
structure Wd (P : Program) (K : PySem.W.Frag) (mg : Str → Option Value) : Prop extends Top K mg where
  pf : ((P.main.file : Str) == ("/claim/cut.py" : Str)) = true
  ps : (P.main.scope.names.lookup ("super" : Str)).isSome = false
abbrev E0 : XK := fun _ _ _ => False
section
variable (P : Program) (w : World) (K : PySem.W.Frag) (mg : Str → Option Value) (base : Heap)
/-- a def of the text keeps the promise sp -/
structure Fn (k : Nat) (x : Str) (sp : Sp) : Prop where
  ex : ∃ (f : Addr) (fd : FuncData) (ps : List Str), FnOk P w K mg base (L2.CX P w) k f fd ps sp ∧ mg x = some (.ref f) ∧ PySem.W.keepIn K (.ref f) = true ∧ Binds K fd ps []
/-- a method of the class at C -/
structure Mt (k : Nat) (C : Addr) (m : Str) (sp : Sp) : Prop where
  ex : ∃ (f : Addr) (fd : FuncData) (ps : List Str), Cls K C ∧ Meth K C m f ∧ FnOk P w K mg base (L2.CX P w) k f fd ps sp ∧ Binds K fd ps []
/-- a class, made by its __init__ -/
structure Mkr (k : Nat) (x : Str) (C : Addr) (sp : Sp) : Prop where
  ex : ∃ (f : Addr) (fd : FuncData) (ps : List Str), Mk K C f ∧ FnOk P w K mg base (L2.CX P w) k f fd ps sp ∧ mg x = some (.ref C) ∧ Binds K fd ps []
end
section
variable {P : Program} {w : World} {K : PySem.W.Frag} {mg : Str → Option Value} {base : Heap} {x qual : Str} {params : Arguments} {body : List Stmt} {scope : Scope} {f C : Addr} {N ps : List Str} {k : Nat} {sp : Sp}
/-- .. by its body; Fx: where nothing leaves it -/
theorem fnOk_of {fd : FuncData} (F : FunD K x qual params body scope [] [] f fd) (S : FnScope N ps scope) (len : ∀ vs H Q E, sp vs H Q E → vs.length = ps.length)
    (hb : ∀ (cdv : Value) (A : Around) (outer : List Env) (s : Shared) (H : Hp) (vs : List V) (Q : VK) (E : XK), Room k (A.deeper (envOfC qual scope s.heap.objs.size f cdv)) → sp vs H Q E →
      ∃ t, PSs (cxOf (L2.CX P w) P w K mg base N qual scope f cdv A outer s H E).nox body t ∧ t { nx := fun _ H' => Q .non H', rt := Q } (start N vs) H) : FnOk P w K mg base (L2.CX P w) (k + 1) f fd ps sp :=
  F.ok S len fun cdv A outer s H vs Q E hr h => let ⟨t, p, q⟩ := hb cdv A outer s H vs Q E hr h; ⟨t, p.nox, q⟩
theorem Fn.of (g : mg x = some (.ref f)) (F : ∃ fd, FunD K x x params body scope [] [] f fd) (S : FnScope N ps scope)
    (b : ∀ (kV doc pm : Value) (an : Option Addr) (cdv ct : Value) (us : List Value), us.length = ps.length → bindArgs (PySem.W.fnOf x x params body scope .none kV doc pm an cdv ct) ⟨us, []⟩ = pure (ps.zip us))
    (len : ∀ vs H Q E, sp vs H Q E → vs.length = ps.length)
    (hb : ∀ (cdv : Value) (A : Around) (outer : List Env) (s : Shared) (H : Hp) (vs : List V) (Q : VK) (E : XK), Room k (A.deeper (envOfC x scope s.heap.objs.size f cdv)) → sp vs H Q E →
      ∃ t, PSs (cxOf (L2.CX P w) P w K mg base N x scope f cdv A outer s H E).nox body t ∧ t { nx := fun _ H' => Q .non H', rt := Q } (start N vs) H) : Fn P w K mg base (k + 1) x sp :=
  let ⟨fd, F⟩ := F
  ⟨f, fd, ps, fnOk_of F S len hb, g, F.kp, F.bindsN b⟩
/-- .. which may let an error out -/
theorem Fn.ofX (g : mg x = some (.ref f)) (F : ∃ fd, FunD K x x params body scope [] [] f fd) (S : FnScope N ps scope)
    (b : ∀ (kV doc pm : Value) (an : Option Addr) (cdv ct : Value) (us : List Value), us.length = ps.length → bindArgs (PySem.W.fnOf x x params body scope .none kV doc pm an cdv ct) ⟨us, []⟩ = pure (ps.zip us))
    (len : ∀ vs H Q E, sp vs H Q E → vs.length = ps.length)
    (hb : ∀ (cdv : Value) (A : Around) (outer : List Env) (s : Shared) (H : Hp) (vs : List V) (Q : VK) (E : XK), Room k (A.deeper (envOfC x scope s.heap.objs.size f cdv)) → sp vs H Q E →
      ∃ t, PSs (cxOf (L2.CX P w) P w K mg base N x scope f cdv A outer s H E) body t ∧ t { nx := fun _ H' => Q .non H', rt := Q } (start N vs) H) : Fn P w K mg base (k + 1) x sp :=
  let ⟨fd, F⟩ := F
  ⟨f, fd, ps, F.ok S len hb, g, F.kp, F.bindsN b⟩
theorem Mt.of {m : Str} (c : Cls K C) (me : Meth K C m f) (F : ∃ fd, FunD K x qual params body scope [] [] f fd) (S : FnScope N ps scope)
    (b : ∀ (kV doc pm : Value) (an : Option Addr) (cdv ct : Value) (us : List Value), us.length = ps.length → bindArgs (PySem.W.fnOf x qual params body scope .none kV doc pm an cdv ct) ⟨us, []⟩ = pure (ps.zip us))
    (len : ∀ vs H Q E, sp vs H Q E → vs.length = ps.length)
    (hb : ∀ (cdv : Value) (A : Around) (outer : List Env) (s : Shared) (H : Hp) (vs : List V) (Q : VK) (E : XK), Room k (A.deeper (envOfC qual scope s.heap.objs.size f cdv)) → sp vs H Q E →
      ∃ t, PSs (cxOf (L2.CX P w) P w K mg base N qual scope f cdv A outer s H E).nox body t ∧ t { nx := fun _ H' => Q .non H', rt := Q } (start N vs) H) : Mt P w K mg base (k + 1) C m sp :=
  let ⟨fd, F⟩ := F
  ⟨f, fd, ps, c, me, fnOk_of F S len hb, F.bindsN b⟩
theorem Mt.ofX {m : Str} (c : Cls K C) (me : Meth K C m f) (F : ∃ fd, FunD K x qual params body scope [] [] f fd) (S : FnScope N ps scope)
    (b : ∀ (kV doc pm : Value) (an : Option Addr) (cdv ct : Value) (us : List Value), us.length = ps.length → bindArgs (PySem.W.fnOf x qual params body scope .none kV doc pm an cdv ct) ⟨us, []⟩ = pure (ps.zip us))
    (len : ∀ vs H Q E, sp vs H Q E → vs.length = ps.length)
    (hb : ∀ (cdv : Value) (A : Around) (outer : List Env) (s : Shared) (H : Hp) (vs : List V) (Q : VK) (E : XK), Room k (A.deeper (envOfC qual scope s.heap.objs.size f cdv)) → sp vs H Q E →
      ∃ t, PSs (cxOf (L2.CX P w) P w K mg base N qual scope f cdv A outer s H E) body t ∧ t { nx := fun _ H' => Q .non H', rt := Q } (start N vs) H) : Mt P w K mg base (k + 1) C m sp :=
  let ⟨fd, F⟩ := F
  ⟨f, fd, ps, c, me, F.ok S len hb, F.bindsN b⟩
theorem Mkr.of {y : Str} (M : Mk K C f) (g : mg y = some (.ref C)) (F : ∃ fd, FunD K x qual params body scope [] [] f fd) (S : FnScope N ps scope)
    (b : ∀ (kV doc pm : Value) (an : Option Addr) (cdv ct : Value) (us : List Value), us.length = ps.length → bindArgs (PySem.W.fnOf x qual params body scope .none kV doc pm an cdv ct) ⟨us, []⟩ = pure (ps.zip us))
    (len : ∀ vs H Q E, sp vs H Q E → vs.length = ps.length)
    (hb : ∀ (cdv : Value) (A : Around) (outer : List Env) (s : Shared) (H : Hp) (vs : List V) (Q : VK) (E : XK), Room k (A.deeper (envOfC qual scope s.heap.objs.size f cdv)) → sp vs H Q E →
      ∃ t, PSs (cxOf (L2.CX P w) P w K mg base N qual scope f cdv A outer s H E).nox body t ∧ t { nx := fun _ H' => Q .non H', rt := Q } (start N vs) H) : Mkr P w K mg base (k + 1) y C sp :=
  let ⟨fd, F⟩ := F
  ⟨f, fd, ps, M, fnOk_of F S len hb, g, F.bindsN b⟩
end
/-! ### calls -/
theorem pass00 {X : Cx} {P : Program} {w : World} : Passes (L2.CX P w) X E0 := fun _ _ _ _ _ _ _ h => by
  obtain ⟨a, B, H', cls, d, _, _, _, _, _, _, _, z⟩ := h
  exact z.elim
/-- the wish of a def that lets errors out -/
abbrev wE (E : XK) : WX := fun cls d _ H => E cls d H
theorem passE {X : Cx} {E : XK} (tk : Takes X (wE E)) : Passes (L2.CX X.prog X.w) X E := passes_call tk fun _ _ _ _ h => h
section
variable {X : Cx} {k j : Nat} {C : Addr} {x m : Str} {sp : Sp} {p pos apos : Pos} {e o : Expr} {es : List Expr} {ta : TE} {t : TA} {E : XK}
theorem pf (c : Fn X.prog X.w X.K X.mg X.base k x sp) (hr : Room j X.A) (hk : k ≤ j) (ha : PA X (e :: es) t) (hg : Gl X x := by rfl)
    (hdb : (x == ("__debug__" : Str)) = false := by decide) (he : starEach (e :: es) X.env = (false, eval e X.env) :: starEach es X.env := by rfl) (hpl : (backTo pos (starEach es X.env)).any (·.1) = false := by rfl) :
    PE X (.Call (.Name x p) (e :: es) [] pos) (tCall sp [] E0 t) := by
  obtain ⟨f, fd, ps, F, hm, kp, b⟩ := c.ex
  exact pe_call F (hr.mono hk) hg hm kp b .nil pass00 ha hdb he hpl
theorem pfE (c : Fn X.prog X.w X.K X.mg X.base k x sp) (hr : Room j X.A) (hk : k ≤ j) (tk : Takes X (wE E)) (ha : PA X (e :: es) t) (hg : Gl X x := by rfl)
    (hdb : (x == ("__debug__" : Str)) = false := by decide) (he : starEach (e :: es) X.env = (false, eval e X.env) :: starEach es X.env := by rfl) (hpl : (backTo pos (starEach es X.env)).any (·.1) = false := by rfl) :
    PE X (.Call (.Name x p) (e :: es) [] pos) (tCall sp [] E t) := by
  obtain ⟨f, fd, ps, F, hm, kp, b⟩ := c.ex
  exact pe_call F (hr.mono hk) hg hm kp b .nil (passE tk) ha hdb he hpl
theorem pk (c : Mkr X.prog X.w X.K X.mg X.base k x C sp) (hr : Room j X.A) (hk : k + 1 ≤ j) (ha : PA X (e :: es) t) (hg : Gl X x := by rfl)
    (hdb : (x == ("__debug__" : Str)) = false := by decide) (he : starEach (e :: es) X.env = (false, eval e X.env) :: starEach es X.env := by rfl) (hpl : (backTo pos (starEach es X.env)).any (·.1) = false := by rfl) :
    PE X (.Call (.Name x p) (e :: es) [] pos) (tMake C sp [] E0 t) := by
  obtain ⟨f, fd, ps, M, F, hm, b⟩ := c.ex
  exact pe_make M F (hr.mono hk) hg hm b .nil pass00 ha hdb he hpl
theorem pm {pl : Sem Bool} (c : Mt X.prog X.w X.K X.mg X.base k C m sp) (hr : Room j X.A) (hk : k ≤ j) (he : PE X o ta) (ha : PA X (e :: es) t)
    (hst : starEach (e :: es) X.env = (false, eval e X.env) :: starEach es X.env := by rfl) (hpl : (backTo pos (starEach es X.env)).any (·.1) = false := by rfl)
    (ht : eval (.Call (.Attribute o m apos) (e :: es) [] pos) X.env = (do
      let ov ← eval o X.env
      standAt apos.atName
      let (f, first) ← holding [ov] (getMethod ov m pl)
      callWith pos f first (backTo pos (starEach (e :: es) X.env)) (backToKw pos (keywordEach [] X.env))) := by rfl) :
    PE X (.Call (.Attribute o m apos) (e :: es) [] pos) (tMeth C m sp [] E0 ta t) := by
  obtain ⟨f, fd, ps, hc, hm, F, b⟩ := c.ex
  exact pe_meth (pl := pl) he hc hm F (hr.mono hk) b .nil pass00 ha hst hpl ht
theorem pmE {pl : Sem Bool} (c : Mt X.prog X.w X.K X.mg X.base k C m sp) (hr : Room j X.A) (hk : k ≤ j) (tk : Takes X (wE E)) (he : PE X o ta) (ha : PA X (e :: es) t)
    (hst : starEach (e :: es) X.env = (false, eval e X.env) :: starEach es X.env := by rfl) (hpl : (backTo pos (starEach es X.env)).any (·.1) = false := by rfl)
    (ht : eval (.Call (.Attribute o m apos) (e :: es) [] pos) X.env = (do
      let ov ← eval o X.env
      standAt apos.atName
      let (f, first) ← holding [ov] (getMethod ov m pl)
      callWith pos f first (backTo pos (starEach (e :: es) X.env)) (backToKw pos (keywordEach [] X.env))) := by rfl) :
    PE X (.Call (.Attribute o m apos) (e :: es) [] pos) (tMeth C m sp [] E ta t) := by
  obtain ⟨f, fd, ps, hc, hm, F, b⟩ := c.ex
  exact pe_meth (pl := pl) he hc hm F (hr.mono hk) b .nil (passE tk) ha hst hpl ht
theorem pm0 {pl : Sem Bool} (c : Mt X.prog X.w X.K X.mg X.base k C m sp) (hr : Room j X.A) (hk : k ≤ j) (he : PE X o ta)
    (ht : eval (.Call (.Attribute o m apos) [] [] pos) X.env = (do
      let ov ← eval o X.env
      standAt apos.atName
      let (f, first) ← holding [ov] (getMethod ov m pl)
      callWith pos f first (backTo pos (starEach [] X.env)) (backToKw pos (keywordEach [] X.env))) := by rfl) :
    PE X (.Call (.Attribute o m apos) [] [] pos) (tMeth C m sp [] E0 ta tNil) := by
  obtain ⟨f, fd, ps, hc, hm, F, b⟩ := c.ex
  exact pe_meth0 (pl := pl) he hc hm F (hr.mono hk) b .nil pass00 ht
/-- o.m(e, ..) in a try: the wish leans on the slots -/
def tMethW (C : Addr) (m : Str) (sp : Sp) (W : WX) (ta : TE) (t : TA) : TE := fun σ H Q => ta σ H fun x H1 => ∃ a dx fs, x = .ref a ∧ H1 a = some (.ins C dx fs) ∧ fs.lookup m = none ∧ t σ H1 fun vs H2 => sp (x :: vs) H2 Q fun cls d H' => W cls d σ H'
theorem pmW {pl : Sem Bool} {W : WX} (c : Mt X.prog X.w X.K X.mg X.base k C m sp) (hr : Room j X.A) (hk : k ≤ j) (tk : Takes X W) (he : PE X o ta) (ha : PA X (e :: es) t)
    (hst : starEach (e :: es) X.env = (false, eval e X.env) :: starEach es X.env := by rfl) (hpl : (backTo pos (starEach es X.env)).any (·.1) = false := by rfl)
    (ht : eval (.Call (.Attribute o m apos) (e :: es) [] pos) X.env = (do
      let ov ← eval o X.env
      standAt apos.atName
      let (f, first) ← holding [ov] (getMethod ov m pl)
      callWith pos f first (backTo pos (starEach (e :: es) X.env)) (backToKw pos (keywordEach [] X.env))) := by rfl) :
    PE X (.Call (.Attribute o m apos) (e :: es) [] pos) (tMethW C m sp W ta t) := by
  obtain ⟨f, fd, ps, hc, hm, F, b⟩ := c.ex
  refine ⟨fun pns s σ H Q I h => ?_⟩
  refine PySem.W.methodCall_KW (pl := pl) (thn (he.run pns s σ H _ I h) fun u s1 hh => ?_) ht
  obtain ⟨xv, H1, I1, rx, a, dx, fs, ex, ea, l, q⟩ := hh
  subst ex
  obtain rfl : u = Value.ref a := rx
  refine getmeth_ok I1 ea hc hm l ?_
  refine PySem.W.callWith_K (first := [.ref a]) (h₀ := X.base) I.ok.mod.kin hm.kp (thn (ha.run pos pns s1 σ H1 _ I1 q) fun us s2 hh => ?_) hst hpl
  obtain ⟨vs, H2, I2, r, q2⟩ := hh
  exact ⟨I2.kIn, run_fnS (E := fun σ cls d H' => W cls d σ H') (us := .ref a :: us) (vs := .ref a :: vs) F (hr.mono hk) b (passAt tk σ) I2 (.cons rfl r) q2⟩
end
/-! ### the rules that name X.K, K told -/
section
variable {X : Cx} {K : PySem.W.Frag}
theorem opInK (h : X.K = K := by rfl) : OpR X (compareOp .In) (rIn K false) := h ▸ op_in_seq
theorem opNiK (h : X.K = K := by rfl) : OpR X (compareOp .NotIn) (rIn K true) := h ▸ op_notIn_seq
theorem ixLK (h : X.K = K := by rfl) : IxR X (rIxL K) := h ▸ ix_list
theorem ixTK (h : X.K = K := by rfl) : IxR X (rIxT K) := h ▸ ix_tup
theorem ixSK (h : X.K = K := by rfl) : IxR X (rIx K) := h ▸ ix_seq
theorem slLK (h : X.K = K := by rfl) : SlR X (rSlL K) := h ▸ sl_list
def rLenK (K : PySem.W.Frag) : List V → Hp → VK → Prop := fun xs H Q => ∃ p ys, xs = [.ref p] ∧ (SqL K H p ys ∨ SqT K H p ys) ∧ Q (.int ys.length) H
theorem lenK (h : X.K = K := by rfl) : CallR X (.builtin "len") (rLenK K) := h ▸ call_len_seq
def rListK (K : PySem.W.Frag) : List V → Hp → VK → Prop := fun xs H Q => ∃ p ys, xs = [.ref p] ∧ (SqL K H p ys ∨ SqT K H p ys) ∧ ∀ l, H l = none → Q (.ref l) (upd H l (.lst ys))
theorem listK (h : X.K = K := by rfl) : CallR X (.type "list") (rListK K) := h ▸ call_list_of
theorem pgTK {es : List Expr} {k : Nat} {pos : Pos} {t : TGs} {n : Nat} (hc : X.calm = true) (hp : PGs X es t) (hn : (assignEach es X.env).length = n := by rfl) (hst : (assignEach es X.env).findIdx? (·.1) = none := by rfl) (h : X.K = K := by rfl) : PG X (.Tuple es k pos) (gTup K n t) := h ▸ pg_tup hc hp hn hst
theorem pgLK {es : List Expr} {k : Nat} {pos : Pos} {t : TGs} {n : Nat} (hc : X.calm = true) (hp : PGs X es t) (hn : (assignEach es X.env).length = n := by rfl) (hst : (assignEach es X.env).findIdx? (·.1) = none := by rfl) (h : X.K = K := by rfl) : PG X (.Tuple es k pos) (gUnl K n t) := h ▸ pg_unl hc hp hn hst
theorem piLK {tg l : Expr} {tl : TE} (hl : PE X l tl) (h : X.K = K := by rfl) : PI X tg l (iList K tl) := h ▸ pi_list hl
end
/-! ### what stands in the heap -/
abbrev Ex := Evl.Ex
/-- a list of ints -/
def LI (H : Hp) (v : V) (l : List Int) : Prop := ∃ a, v = .ref a ∧ H a = some (.lst (l.map V.int))
/-- a list of three lists of ints -/
def LR (H : Hp) (v : V) (R : S3) : Prop := ∃ a x y z, v = .ref a ∧ H a = some (.lst [x, y, z]) ∧ LI H x R.a ∧ LI H y R.b ∧ LI H z R.c
/-- the places of l's keys -/
def PL (H : Hp) (v : V) (l : List Int) : Prop := ∃ d kvs, v = .ref d ∧ H d = some (.dK kvs) ∧ ∀ x : Int, valV kvs (Sum.inl x) = if x ∈ l then some (.int (l.idxOf x : Nat)) else none
def LP (H : Hp) (v : V) (R : S3) : Prop := ∃ a x y z, v = .ref a ∧ H a = some (.lst [x, y, z]) ∧ PL H x R.a ∧ PL H y R.b ∧ PL H z R.c
abbrev cS (K : PySem.W.Frag) : Addr := He.ga K "State"
abbrev cR (K : PySem.W.Frag) : Addr := He.ga K "Reading"
abbrev cT (K : PySem.W.Frag) : Addr := He.ga K "ThreeWay"
/-- a State of these lists -/
def ST (K : PySem.W.Frag) (H : Hp) (v : V) (S : S3) : Prop := ∃ a dx l p, v = .ref a ∧ H a = some (.ins (cS K) dx [("_lists", l), ("_places", p)]) ∧ LR H l S ∧ LP H p S
/-- a Reading: its keys, its pairs in their order -/
def RD (K : PySem.W.Frag) (H : Hp) (v : V) (ks : List Int) (ps : List (Int × Int)) : Prop :=
  ∃ a dx l d kvs, v = .ref a ∧ H a = some (.ins (cR K) dx [("_keys", l), ("_before", .ref d)]) ∧ LI H l ks ∧ H d = some (.dT kvs) ∧ kvs.map (·.1) = ps.map keyP
/-- a ThreeWay of these rows -/
def TW (K : PySem.W.Frag) (H : Hp) (v : V) (R : S3) : Prop := ∃ a dx s, v = .ref a ∧ H a = some (.ins (cT K) dx [("_state", s)]) ∧ ST K H s R.inn
/-- a list of pairs of ints (new tuples) -/
def LQ (H : Hp) (v : V) (ps : List (Int × Int)) : Prop := ∃ a cs, v = .ref a ∧ H a = some (.lst (cs.map V.ref)) ∧ Paired (fun (q : Int × Int) (c : Addr) => H c = some (.tup [.int q.1, .int q.2])) ps cs
section
variable {K : PySem.W.Frag} {H H' : Hp} {v : V} {l : List Int} {R : S3} {ps : List (Int × Int)}
theorem LI.mono (e : Ex H H') : LI H v l → LI H' v l := fun ⟨a, h1, h2⟩ => ⟨a, h1, e _ _ h2⟩
theorem LR.mono (e : Ex H H') : LR H v R → LR H' v R := fun ⟨a, x, y, z, h1, h2, h3, h4, h5⟩ => ⟨a, x, y, z, h1, e _ _ h2, h3.mono e, h4.mono e, h5.mono e⟩
theorem PL.mono (e : Ex H H') : PL H v l → PL H' v l := fun ⟨a, k, h1, h2, h3⟩ => ⟨a, k, h1, e _ _ h2, h3⟩
theorem LP.mono (e : Ex H H') : LP H v R → LP H' v R := fun ⟨a, x, y, z, h1, h2, h3, h4, h5⟩ => ⟨a, x, y, z, h1, e _ _ h2, h3.mono e, h4.mono e, h5.mono e⟩
theorem ST.mono (e : Ex H H') : ST K H v R → ST K H' v R := fun ⟨a, dx, l, p, h1, h2, h3, h4⟩ => ⟨a, dx, l, p, h1, e _ _ h2, h3.mono e, h4.mono e⟩
theorem TW.mono (e : Ex H H') : TW K H v R → TW K H' v R := fun ⟨a, dx, s, h1, h2, h3⟩ => ⟨a, dx, s, h1, e _ _ h2, h3.mono e⟩
theorem RD.mono {ks : List Int} (e : Ex H H') : RD K H v ks ps → RD K H' v ks ps := fun ⟨a, dx, l, d, kvs, h1, h2, h3, h4, h5⟩ => ⟨a, dx, l, d, kvs, h1, e _ _ h2, h3.mono e, e _ _ h4, h5⟩
theorem LQ.mono (e : Ex H H') : LQ H v ps → LQ H' v ps := fun ⟨a, cs, h1, h2, h3⟩ => ⟨a, cs, h1, e _ _ h2, Paired.mapP h3 fun _ _ z => e _ _ z⟩
/-- the k-th list -/
theorem LR.get (h : LR H v R) : ∃ a x y z, v = .ref a ∧ H a = some (.lst [x, y, z]) ∧ ∀ k : Nat, k < 3 → ∃ u, [x, y, z][k]? = some u ∧ LI H u (R.get k) := by
  obtain ⟨a, x, y, z, h1, h2, h3, h4, h5⟩ := h
  refine ⟨a, x, y, z, h1, h2, fun k hk => ?_⟩
  match k, hk with
  | 0, _ => exact ⟨x, rfl, h3⟩
  | 1, _ => exact ⟨y, rfl, h4⟩
  | 2, _ => exact ⟨z, rfl, h5⟩
theorem LP.get (h : LP H v R) : ∃ a x y z, v = .ref a ∧ H a = some (.lst [x, y, z]) ∧ ∀ k : Nat, k < 3 → ∃ u, [x, y, z][k]? = some u ∧ PL H u (R.get k) := by
  obtain ⟨a, x, y, z, h1, h2, h3, h4, h5⟩ := h
  refine ⟨a, x, y, z, h1, h2, fun k hk => ?_⟩
  match k, hk with
  | 0, _ => exact ⟨x, rfl, h3⟩
  | 1, _ => exact ⟨y, rfl, h4⟩
  | 2, _ => exact ⟨z, rfl, h5⟩
theorem map_get {l : List Int} {i : Nat} {x : V} (h : (l.map V.int)[i]? = some x) : ∃ n, l[i]? = some n ∧ x = .int n := by
  rw [List.getElem?_map] at h
  cases e : l[i]? with
  | none => rw [e] at h; cases h
  | some n => rw [e] at h; exact ⟨n, rfl, (Option.some.inj h).symm⟩
theorem get_map {l : List Int} {i : Nat} {n : Int} (h : l[i]? = some n) : (l.map V.int)[i]? = some (.int n) := by rw [List.getElem?_map, h]; rfl
/-- new things -/
theorem Ex.lay {p : Addr} {o : HO} (e : Ex H H') (h : H' p = none) : Ex H (upd H' p o) := fun a u z => by
  by_cases hp : a = p
  · subst hp
    rw [e a u z] at h
    cases h
  · rw [upd_ne hp]
    exact e a u z
theorem ne_new {a p : Addr} {o : HO} (h : H a = some o) (hp : H p = none) : a ≠ p := fun z => by
  rw [z, hp] at h
  cases h
theorem sz20 {n : Nat} (h : n ≤ 1000000) : n ≤ sizeLine := Nat.le_trans h (by decide)
theorem sz20' {n : Nat} (h : n ≤ 1000000) : n < sizeLine := Nat.lt_of_le_of_lt h (by decide)
end
/-! ### comprehensions whose turns only lay new things -/
/-- ys holds, in their order, the values of the turns that f lets through -/
def Got (f : Nat → Bool) (n : Nat) (Rel : Nat → V → Hp → Prop) (ys : List V) (H : Hp) : Prop := ys.length = ((List.range n).filter f).length ∧ ∀ (k i : Nat), ((List.range n).filter f)[k]? = some i → ∃ y : V, ys[k]? = some y ∧ Rel i y H
theorem range_yes {n : Nat} {f : Nat → Bool} (h : f n = true) : (List.range (n + 1)).filter f = (List.range n).filter f ++ [n] := by rw [List.range_succ, List.filter_append]; simp [h]
theorem range_no {n : Nat} {f : Nat → Bool} (h : f n = false) : (List.range (n + 1)).filter f = (List.range n).filter f := by rw [List.range_succ, List.filter_append]; simp [h]
theorem Got.le {f : Nat → Bool} {n : Nat} {Rel : Nat → V → Hp → Prop} {ys : List V} {H : Hp} (g : Got f n Rel ys H) : ys.length ≤ n := by
  rw [g.1]
  exact Nat.le_trans (List.length_filter_le ..) (Nat.le_of_eq List.length_range)
theorem Got.snoc {f : Nat → Bool} {n : Nat} {Rel : Nat → V → Hp → Prop} {ys : List V} {H : Hp} {y : V} (h : f n = true) (g : Got f n Rel ys H) (r : Rel n y H) : Got f (n + 1) Rel (ys ++ [y]) H := by
  rw [Got, range_yes h]
  refine ⟨by rw [List.length_append, List.length_append, g.1]; rfl, fun k i hk => ?_⟩
  by_cases hlt : k < ((List.range n).filter f).length
  · rw [List.getElem?_append_left hlt] at hk
    rw [List.getElem?_append_left (by rw [g.1]; exact hlt)]
    exact g.2 k i hk
  · have e : k = ((List.range n).filter f).length := by
      have z := (List.getElem?_eq_some_iff.mp hk).1
      rw [List.length_append, List.length_singleton] at z
      omega
    subst e
    rw [List.getElem?_append_right (Nat.le_refl _), Nat.sub_self] at hk
    rw [List.getElem?_append_right (by rw [g.1]; exact Nat.le_refl _), g.1, Nat.sub_self]
    have e : n = i := Option.some.inj hk
    subst e
    exact ⟨y, rfl, r⟩
theorem Got.skip {f : Nat → Bool} {n : Nat} {Rel : Nat → V → Hp → Prop} {ys : List V} {H : Hp} (h : f n = false) (g : Got f n Rel ys H) : Got f (n + 1) Rel ys H := by
  rw [Got, range_no h]
  exact g
theorem Got.mono {f : Nat → Bool} {n : Nat} {Rel : Nat → V → Hp → Prop} {ys : List V} {H H' : Hp} (g : Got f n Rel ys H) (h : ∀ i y, Rel i y H → Rel i y H') : Got f n Rel ys H' :=
  ⟨g.1, fun k i hk => let ⟨y, e, r⟩ := g.2 k i hk; ⟨y, e, h i y r⟩⟩
theorem got_all {n : Nat} {Rel : Nat → V → Hp → Prop} {ys : List V} {H : Hp} (g : Got (fun _ => true) n Rel ys H) : ys.length = n ∧ ∀ i y, ys[i]? = some y → Rel i y H := by
  have e : (List.range n).filter (fun _ => true) = List.range n := List.filter_eq_self.mpr fun _ _ => rfl
  rw [Got, e, List.length_range] at g
  refine ⟨g.1, fun i y hy => ?_⟩
  have hi : i < n := by rw [← g.1]; exact (List.getElem?_eq_some_iff.mp hy).1
  obtain ⟨z, hz, r⟩ := g.2 i i (by rw [List.getElem?_range hi])
  rw [hy] at hz
  cases hz
  exact r
theorem got_val {f : Nat → Bool} {n : Nat} {v : Nat → V} {ys : List V} {H : Hp} (g : Got f n (fun i y _ => y = v i) ys H) : ys = ((List.range n).filter f).map v := by
  apply List.ext_getElem?
  intro k
  rw [List.getElem?_map]
  cases e : ((List.range n).filter f)[k]? with
  | none =>
    have z := List.getElem?_eq_none_iff.mp e
    rw [List.getElem?_eq_none (Nat.le_trans (Nat.le_of_eq g.1) z)]
    rfl
  | some i =>
    obtain ⟨y, hy, r⟩ := g.2 k i e
    rw [hy, r]
    rfl
section
variable {J : It} {n : Nat} {G : Hp → Prop} {Y : Nat → Hp → V → Hp → Prop} {g : TG} {tt : TT} {te tk tv : TE} {vs : List Nat} {σ : L2.St} {H : Hp} {D : Addr} {Qd : Hp → Prop}
/-- over any walk; the values never lean on the new list -/
theorem lcG (wk : Walk J n G Y) (f : Nat → Bool) (Rel : Nat → V → Hp → Prop) (mono : ∀ i y H1 H2, Ex H1 H2 → Rel i y H1 → Rel i y H2) (stab : ∀ i y H1 ys ys', H1 D = some (.lst ys) → Rel i y H1 → Rel i y (upd H1 D (.lst ys'))) (hG : ∀ H1, Ex H H1 → G H1) (hn : n ≤ 1000000) (nD : H D = none)
    (turn : ∀ i x H1 H1' (Pn : V → Hp → Prop) (Pf : Hp → Prop), i < n → Y i H1 x H1' → Ex H H1 → (∃ ys, H1 D = some (.lst ys)) → (f i = true → ∀ y H4, Ex H1 H4 → Rel i y H4 → Pn y H4) → (f i = false → ∀ H3, Ex H1 H3 → Pf H3) →
      g x (wipe σ vs) H1' fun σ2 H2 => wipe σ2 vs = wipe σ vs ∧ tt σ2 H2 fun b H3 => if b = true then te σ2 H3 Pn else Pf H3)
    (done : ∀ ys H', Ex H H' → H' D = some (.lst ys) → Got f n Rel ys H' → Qd H') :
    ∃ W : Nat → Nat → Hp → Prop, (∃ m, W 0 m (upd H D (.lst []))) ∧ ∀ i m H, W i m H →
      (J.stop i H ∧ Qd H) ∨ (J.go i H ∧ ∃ Nx : Hp → Prop, (∀ H', Nx H' → ∃ m', m' < m ∧ W (i + 1) m' H') ∧ ∀ x H', J.yld i H x H' → g x (wipe σ vs) H' fun σ2 H2 => wipe σ2 vs = wipe σ vs ∧ tt σ2 H2 fun b H3 =>
        if b = true then te σ2 H3 fun y H4 => ∃ acc, H4 D = some (.lst acc) ∧ acc.length < sizeLine ∧ Nx (upd H4 D (.lst (acc ++ [y]))) else Nx H3) := by
  refine lc_it wk (fun i H2 => ∃ ys, Ex H H2 ∧ H2 D = some (.lst ys) ∧ Got f i Rel ys H2) ⟨[], Ex.lay (Evl.Ex.refl _) nD, upd_same, rfl, fun k i hk => by cases hk⟩ (fun i H2 _ h => hG _ h.choose_spec.1) (fun i x H2 H2' hi h hy => ?_) fun H2 h => ?_
  · obtain ⟨ys, e, hD, gt⟩ := h
    refine turn i x H2 H2' _ _ hi hy e ⟨ys, hD⟩ (fun hf y H4 e4 r => ?_) fun hf H3 e3 => ?_
    · have hD4 := e4 _ _ hD
      have hl := gt.le
      refine ⟨ys, hD4, sz20' (by omega), ys ++ [y], Evl.Ex.mut (e.trans e4) nD, upd_same, ?_⟩
      exact Got.snoc hf (gt.mono fun i y q => stab _ _ _ _ _ hD4 (mono _ _ _ _ e4 q)) (stab _ _ _ _ _ hD4 r)
    · exact ⟨ys, e.trans e3, e3 _ _ hD, Got.skip hf (gt.mono fun i y q => mono _ _ _ _ e3 q)⟩
  · obtain ⟨ys, e, hD, gt⟩ := h
    exact done ys H2 e hD gt
/-- a dict comprehension over any walk -/
theorem dcG (wk : Walk J n G Y) (Pv : Nat → Hp → Prop) (h0 : Pv 0 (upd H D (.dK []))) (hG : ∀ i H1, i ≤ n → Pv i H1 → G H1)
    (hs : ∀ i x H H', i < n → Pv i H → Y i H x H' → g x (wipe σ vs) H' fun σ2 H2 => wipe σ2 vs = wipe σ vs ∧ tt σ2 H2 fun b H3 =>
      if b = true then tk σ2 H3 fun y H4 => tv σ2 H4 fun z H5 => ∃ kvs k, y = kV k ∧ H5 D = some (.dK kvs) ∧ kvs.length < sizeLine ∧ Pv (i + 1) (upd H5 D (.dK (putK kvs k z))) else Pv (i + 1) H3) (hd : ∀ H, Pv n H → Qd H) :
    ∃ W : Nat → Nat → Hp → Prop, (∃ m, W 0 m (upd H D (.dK []))) ∧ ∀ i m H, W i m H →
      (J.stop i H ∧ Qd H) ∨ (J.go i H ∧ ∃ Nx : Hp → Prop, (∀ H', Nx H' → ∃ m', m' < m ∧ W (i + 1) m' H') ∧ ∀ x H', J.yld i H x H' → g x (wipe σ vs) H' fun σ2 H2 => wipe σ2 vs = wipe σ vs ∧ tt σ2 H2 fun b H3 =>
        if b = true then tk σ2 H3 fun y H4 => tv σ2 H4 fun z H5 => ∃ kvs k, y = kV k ∧ H5 D = some (.dK kvs) ∧ kvs.length < sizeLine ∧ Nx (upd H5 D (.dK (putK kvs k z))) else Nx H3) := by
  refine ⟨fun i m H => i + m = n ∧ Pv i H, ⟨n, by omega, h0⟩, ?_⟩
  rintro i m H ⟨em, p⟩
  have q := hG i H (by omega) p
  by_cases hlt : i < n
  · exact .inr ⟨wk.goes i H hlt q, Pv (i + 1), fun H' p' => ⟨m - 1, by omega, by omega, p'⟩, fun x H' y => hs i x H H' hlt p (wk.yields i H x H' hlt q y)⟩
  · have e : i = n := by omega
    subst e
    exact .inl ⟨wk.stops H q, hd H p⟩
end
end K38
end
section
set_option Elab.async false
set_option linter.all false
set_option maxRecDepth 100000
set_option maxHeartbeats 4000000
/-! The walk, first part: lists, states. -/
namespace K38
open PySem PySem.Spec PyProof.Rows L2
theorem ifT {c : Bool} {A B : Prop} (hc : c = true) (h : A) : if c = true then A else B := by rw [if_pos hc]; exact h
theorem ifF {c : Bool} {A B : Prop} (hc : c = false) (h : B) : if c = true then A else B := by rw [hc, if_neg Bool.false_ne_true]; exact h
theorem hu65_of {A : Around} {k : Nat} (hr : Room k A) : A.units + 65 < cLine := by have := hr.un; omega
abbrev ex0 {H : Hp} : Ex H H := Evl.Ex.refl H
section
variable {P : Program} {w : World} {K : PySem.W.Frag} {mg : Str → Option Value} {base : Heap}
def sp_check_replica (K : PySem.W.Frag) : Sp := fun vs H Q E => ∃ r : Int, vs = [.int r] ∧ (0 ≤ r ∧ r < 3) ∧ ∀ H', Ex H H' → Q .non H'
theorem ok_check_replica (T : Wd P K mg) : Fn P w K mg base 1 "check_replica" (sp_check_replica K) := by
  refine Fn.of T.g_check_replica T.f_check_replica c_check_replica (fun _ _ _ _ _ _ us hl => match us, hl with | [_], _ => rfl) (fun vs H Q E h => ?_) fun cdv A outer s H vs Q E hr h => ?_
  · obtain ⟨_, rfl, _⟩ := h
    rfl
  have nd := c_check_replica.nd
  obtain ⟨r, rfl, hr3, q⟩ := h
  refine ⟨_, pss_one (ps_if (pt_cmpR (opNiK (K := K)) (pv 0) (pe_tup (pa_cons (pe_int) (pa_cons (pe_int) (pa_cons (pe_int) pa_nil)))) (by first | rfl | with_unfolding_all rfl)) (pss_one (ps_never)) (pss_nil)), ?_⟩
  refine ⟨_, rfl, sz20 (by decide), fun p hp => ⟨p, _, rfl, .inr (SqT.of upd_same), rfl, rfl, _, rfl, ?_⟩⟩
  have h3 : r = 0 ∨ r = 1 ∨ r = 2 := by omega
  rcases h3 with rfl | rfl | rfl <;> exact ifF rfl (q _ (Ex.lay ex0 hp))
theorem rep3 {i : Nat} {x : V} (h : [V.int 0, V.int 1, V.int 2][i]? = some x) : ∃ r : Int, x = .int r ∧ (0 ≤ r ∧ r < 3) ∧ i < 3 ∧ [V.int 0, V.int 1, V.int 2].take (i + 1) = [V.int 0, V.int 1, V.int 2].take i ++ [.int r] := by
  match i, h with
  | 0, h => exact ⟨0, (Option.some.inj h).symm, by decide, by decide, rfl⟩
  | 1, h => exact ⟨1, (Option.some.inj h).symm, by decide, by decide, rfl⟩
  | 2, h => exact ⟨2, (Option.some.inj h).symm, by decide, by decide, rfl⟩
  | n + 3, h => cases h
theorem in3 {r : Int} (h : 0 ≤ r ∧ r < 3) : inV (.int r) [V.int 0, V.int 1, V.int 2] = true := by
  have h3 : r = 0 ∨ r = 1 ∨ r = 2 := by omega
  rcases h3 with rfl | rfl | rfl <;> rfl
def sp_check_replicas (K : PySem.W.Frag) : Sp := fun vs H Q E => ∃ t, vs = [.ref t] ∧ SqT K H t [.int 0, .int 1, .int 2] ∧ ∀ H' t', Ex H H' → H' t' = some (.tup [.int 0, .int 1, .int 2]) → Q (.ref t') H'
theorem ok_check_replicas (T : Wd P K mg) : Fn P w K mg base 2 "check_replicas" (sp_check_replicas K) := by
  have F_check_replica := ok_check_replica (P := P) (w := w) (base := base) T
  refine Fn.of T.g_check_replicas T.f_check_replicas c_check_replicas (fun _ _ _ _ _ _ us hl => match us, hl with | [_], _ => rfl) (fun vs H Q E h => ?_) fun cdv A outer s H vs Q E hr h => ?_
  · obtain ⟨_, rfl, _⟩ := h
    rfl
  have nd := c_check_replicas.nd
  obtain ⟨t, rfl, ht, q⟩ := h
  refine ⟨_, pss_cons (ps_for PassesOwn.never rfl (pi_tup (pv 0)) (pg_name (i := 1) nd rfl (by first | exact .inl rfl | exact .inr rfl)) (pss_one (ps_expr (pf F_check_replica hr (by decide) (pa_cons (pv 1) pa_nil))))) (pss_one (ps_ret (pe_callTy call_tuple_of rfl T.z_tuple (by decide +kernel) (pa_cons (pe_lc (own := [("replica", 1)]) rfl nd (pi_tup (pe_tup (pa_cons (pe_int) (pa_cons (pe_int) (pa_cons (pe_int) pa_nil))))) (blkOk_by (N := n_check_replicas) (sc := defScope s_check_replicas) (by decide +kernel)) (fun _ _ _ _ _ => pg_name (i := 1) nd rfl (by first | exact .inl rfl | exact .inr rfl)) (fun _ _ _ _ _ => pts_one (pt_cmpR (opInK (K := K)) (pv 1) (pv 0) (by first | rfl | with_unfolding_all rfl))) (fun _ _ _ _ _ => pv 1)) pa_nil)))), ?_⟩
  refine ⟨_, rfl, t, rfl, ⟨_, ht⟩, for_tup (fun i σ H' => ∃ o, σ = [some (.ref t), o] ∧ Ex H H') ⟨none, rfl, ex0⟩ (fun i σ H' _ ⟨_, _, e⟩ => Evl.ex_t e ht) ?_ ?_⟩
  · rintro i x σ H' hi ⟨o, rfl, e⟩
    obtain ⟨r, rfl, h1, _⟩ := rep3 hi
    exact ⟨_, rfl, r, rfl, h1, fun H2 e2 => ⟨_, rfl, e.trans e2⟩⟩
  · rintro σ H' ⟨o, rfl, e⟩
    refine ⟨sz20 (by decide), fun p hp => ⟨p, rfl, ⟨_, SqT.of upd_same⟩, fun D hD => lc_tup (xs := [.int 0, .int 1, .int 2]) (fun i H2 => Ex H H2 ∧ H2 D = some (.lst ([.int 0, .int 1, .int 2].take i)) ∧ H2 p = some (.tup [.int 0, .int 1, .int 2])) ?_ (fun i H2 _ h => SqT.of h.2.2) ?_ ?_⟩⟩
    · exact ⟨Ex.lay (Ex.lay e hp) hD, upd_same, (upd_ne (ne_new upd_same hD)).trans upd_same⟩
    · rintro i x H2 hi ⟨e2, hD2, hp2⟩
      obtain ⟨r, rfl, h1, h3, ht3⟩ := rep3 hi
      refine ⟨rfl, _, rfl, _, rfl, t, _, rfl, .inr (Evl.ex_t e2 ht), rfl, rfl, _, rfl, ifT (in3 h1) ⟨_, rfl, _, hD2, sz20' (by simp; omega), ?_⟩⟩
      exact ⟨Evl.Ex.mut e2 (Evl.fresh_back (Ex.lay e hp) hD), by rw [upd_same, ht3], (upd_ne (ne_of hp2 hD2 (by intro z; cases z))).trans hp2⟩
    · rintro H2 ⟨e2, hD2, hp2⟩
      refine ⟨D, _, rfl, .inl ⟨SqL.of hD2, fun l hl => q _ l (Ex.lay e2 hl) upd_same⟩⟩
/-- such lists the program takes -/
structure Wf (l : List Int) : Prop where
  len : l.length ≤ 12
  nd : l.Nodup
  rng : ∀ x ∈ l, 0 ≤ x ∧ x ≤ 9999
theorem Wf.perm {l m : List Int} (h : Wf l) (p : m.Perm l) : Wf m := ⟨by rw [p.length_eq]; exact h.len, p.nodup_iff.mpr h.nd, fun x hx => h.rng x (p.mem_iff.mp hx)⟩
structure Okw (S : S3) : Prop where
  ok : S.ok
  wf : Wf S.a
theorem Okw.get {S : S3} (h : Okw S) (k : Nat) : Wf (S.get k) := h.wf.perm (h.ok.get k)
theorem Okw.set {S : S3} (h : Okw S) {k : Nat} {l : List Int} (p : l.Perm (S.get k)) : Okw (S.set k l) := by
  refine ⟨h.ok.set p, ?_⟩
  have z := (h.ok.set p).get 0
  match k, p with
  | 0, p => exact (h.get 0).perm p
  | 1, _ => exact h.wf
  | n + 2, _ => exact h.wf
/-- the table of the first i keys -/
def Plc (l : List Int) (i : Nat) (kvs : List (Key × V)) : Prop := (∀ y : Int, valV kvs (Sum.inl y) = if y ∈ l.take i then some (.int (l.idxOf y : Nat)) else none) ∧ kvs.length ≤ i
theorem plc_nil (l : List Int) : Plc l 0 [] := ⟨fun y => by simp [valV_nil], Nat.le_refl _⟩
theorem take_snoc {α : Type} {l : List α} {i : Nat} {x : α} (h : l[i]? = some x) : l.take (i + 1) = l.take i ++ [x] := by
  rw [List.take_add_one, h]
  rfl
theorem plc_step {l : List Int} (nd : l.Nodup) {i : Nat} {x : Int} (h : l[i]? = some x) {kvs : List (Key × V)} (hk : Plc l i kvs) : Plc l (i + 1) (putK kvs (Sum.inl x) (.int (i : Nat))) := by
  refine ⟨fun y => ?_, ?_⟩
  · rw [valV_put, take_snoc h]
    by_cases e : y = x
    · subst e
      rw [if_pos rfl, if_pos (by simp), idx_of_get nd h]
    · rw [if_neg (fun z => e (Sum.inl.inj z)), hk.1 y]
      by_cases m : y ∈ l.take i
      · rw [if_pos m, if_pos (by simp [m])]
      · rw [if_neg m, if_neg (by simp [m, e])]
  · have := length_putK kvs (Sum.inl x) (V.int (i : Nat))
    have := hk.2
    omega
theorem plc_end {l : List Int} {kvs : List (Key × V)} (h : Plc l l.length kvs) (y : Int) : valV kvs (Sum.inl y) = if y ∈ l then some (.int (l.idxOf y : Nat)) else none := by
  rw [h.1 y, List.take_length]
theorem nd_take {l : List Int} (nd : l.Nodup) {i : Nat} {x : Int} (h : l[i]? = some x) : x ∉ l.take i := fun m => by
  obtain ⟨j, hj⟩ := List.getElem?_of_mem m
  have hlt : j < i := by
    have z := (List.getElem?_eq_some_iff.mp hj).1
    rw [List.length_take] at z
    omega
  rw [List.getElem?_take_of_lt hlt] at hj
  have e1 := idx_of_get nd hj
  have e2 := idx_of_get nd h
  omega
def sp_first_wrong_place (K : PySem.W.Frag) : Sp := fun vs H Q E => ∃ v l, vs = [v] ∧ LI H v l ∧ Wf l ∧ ∀ H', Ex H H' → Q .non H'
theorem ok_first_wrong_place (T : Wd P K mg) : Fn P w K mg base 1 "first_wrong_place" (sp_first_wrong_place K) := by
  refine Fn.of T.g_first_wrong_place T.f_first_wrong_place c_first_wrong_place (fun _ _ _ _ _ _ us hl => match us, hl with | [_], _ => rfl) (fun vs H Q E h => ?_) fun cdv A outer s H vs Q E hr h => ?_
  · obtain ⟨_, _, rfl, _⟩ := h
    rfl
  have nd := c_first_wrong_place.nd
  have hu := hu_of hr
  obtain ⟨_, l, rfl, ⟨a, rfl, ha⟩, wf, q⟩ := h
  refine ⟨_, pss_cons (ps_set (i := 1) nd rfl (by first | exact .inl rfl | exact .inr rfl) (pe_dnewK)) (pss_cons (ps_for PassesOwn.never rfl (pi_enum rfl T.z_enumerate (pa_cons (pv 0) pa_nil)) (pgTK (K := K) (n := 2) rfl (pgs_cons (pg_name (i := 2) nd rfl (by first | exact .inl rfl | exact .inr rfl)) (pgs_cons (pg_name (i := 3) nd rfl (by first | exact .inl rfl | exact .inr rfl)) (pgs_nil)))) (pss_cons (ps_if (PW.pt (pw_or (pt_cmpR op_ge (pv 2) ((let ⟨_, g⟩ := T.i_MAX_KEYS; pe_glob (v := .int 12) rfl g ⟨_, rfl⟩)) (nomark _)) (pw_or (pt_cmpR op_lt (pv 3) (pe_int) (nomark _)) (pw_or (pt_cmpR op_gt (pv 3) ((let ⟨_, g⟩ := T.i_MAX_KEY; pe_glob (v := .int 9999) rfl g ⟨_, rfl⟩)) (nomark _)) (pw_or1 (pt_cmp (pc_din hu (pv 3) (pv 1)))))))) (pss_one (ps_ret (pv 2))) (pss_nil)) (pss_one (ps_dput hu (pv 1) (pv 3) (pe_bl) rfl)))) (pss_one (ps_ret (pe_non)))), ?_⟩
  refine fun d hd => ⟨_, rfl, a, l.map V.int, rfl, SqL.of ((upd_ne (ne_new ha hd)).trans ha), for_it walk_enum (fun i σ H' => ∃ o1 o2, σ = [some (.ref a), some (.ref d), o1, o2] ∧ Ex H H' ∧ ∃ kvs, H' d = some (.dK kvs) ∧ kvs.length ≤ i ∧ ∀ y : Int, valV kvs (Sum.inl y) = if y ∈ l.take i then some (.bl true) else none) ⟨none, none, rfl, Ex.lay ex0 hd, [], upd_same, Nat.le_refl _, fun y => by simp [valV_nil]⟩ (fun i σ H' _ h => SqL.of (h.choose_spec.choose_spec.2.1 _ _ ha)) ?_ ?_⟩
  · rintro i x σ H1 H2 hi ⟨o1, o2, rfl, e, kvs, hd1, hl, hk⟩ ⟨T1, x1, y1, rfl, nT, rfl, h1, h2⟩
    cases h1
    obtain ⟨n, hn, rfl⟩ := map_get h2
    have hr := wf.rng n (List.mem_of_getElem? hn)
    have hi12 : i < 12 := by
      have := (List.getElem?_eq_some_iff.mp hn).1
      have := wf.len
      omega
    have hd2 : upd H1 T1 (.tup [.int (i : Nat), .int n]) d = some (.dK kvs) := (upd_ne (ne_new hd1 nT)).trans hd1
    have hno : valV kvs (Sum.inl n) = none := by rw [hk n, if_neg (nd_take wf.nd hn)]
    refine ⟨T1, _, rfl, SqT.of upd_same, rfl, _, _, rfl, _, _, rfl, rfl, ?_⟩
    refine ⟨_, rfl, _, _, rfl, rfl, _, rfl, ifF (decide_eq_false (by omega)) ?_⟩
    refine ⟨_, rfl, _, _, rfl, rfl, _, rfl, ifF (decide_eq_false (by omega)) ?_⟩
    refine ⟨_, rfl, _, _, rfl, rfl, _, rfl, ifF (decide_eq_false (by omega)) ?_⟩
    refine ⟨_, rfl, _, rfl, d, _, rfl, DGet.k (k := Sum.inl n) hd2, _, rfl, ifF (by rw [hno]; rfl) ?_⟩
    refine ⟨_, rfl, _, rfl, d, _, rfl, DPut.k (k := Sum.inl n) hd2 (sz20' (by omega)), ?_⟩
    refine ⟨_, _, rfl, Evl.Ex.mut (Ex.lay e nT) hd, _, upd_same, ?_, fun y => ?_⟩
    · have := length_putK kvs (Sum.inl n) (V.bl true)
      omega
    · rw [valV_put, take_snoc hn]
      by_cases ey : y = n
      · rw [if_pos (by rw [ey]), if_pos (by simp [ey])]
      · rw [if_neg (fun z => ey (Sum.inl.inj z)), hk y]
        by_cases m : y ∈ l.take i
        · rw [if_pos m, if_pos (by simp [m])]
        · rw [if_neg m, if_neg (by simp [m, ey])]
  · rintro σ H' ⟨o1, o2, rfl, e, _⟩
    exact q _ e
def sp_check_list (K : PySem.W.Frag) : Sp := fun vs H Q E => ∃ v l, vs = [v] ∧ LI H v l ∧ Wf l ∧ ∀ H', Ex H H' → Q .non H'
theorem ok_check_list (T : Wd P K mg) : Fn P w K mg base 2 "check_list" (sp_check_list K) := by
  have F_first_wrong_place := ok_first_wrong_place (P := P) (w := w) (base := base) T
  refine Fn.of T.g_check_list T.f_check_list c_check_list (fun _ _ _ _ _ _ us hl => match us, hl with | [_], _ => rfl) (fun vs H Q E h => ?_) fun cdv A outer s H vs Q E hr h => ?_
  · obtain ⟨_, _, rfl, _⟩ := h
    rfl
  have nd := c_check_list.nd
  obtain ⟨_, l, rfl, hl, wf, q⟩ := h
  refine ⟨_, pss_cons (ps_set (i := 1) nd rfl (by first | exact .inl rfl | exact .inr rfl) (pf F_first_wrong_place hr (by decide) (pa_cons (pv 0) pa_nil))) (pss_one (ps_if (pt_cmp (pc_notN (pv 1))) (pss_one (ps_never)) (pss_nil))), ?_⟩
  refine ⟨_, rfl, _, l, rfl, hl, wf, fun H' e => ⟨_, rfl, _, rfl, ifF rfl (q _ e)⟩⟩
def sp_index_of (K : PySem.W.Frag) : Sp := fun vs H Q E => ∃ v l, vs = [v] ∧ LI H v l ∧ Wf l ∧ ∀ p H', H p = none → Ex H H' → PL H' (.ref p) l → Q (.ref p) H'
theorem ok_index_of (T : Wd P K mg) : Fn P w K mg base 1 "index_of" (sp_index_of K) := by
  refine Fn.of T.g_index_of T.f_index_of c_index_of (fun _ _ _ _ _ _ us hl => match us, hl with | [_], _ => rfl) (fun vs H Q E h => ?_) fun cdv A outer s H vs Q E hr h => ?_
  · obtain ⟨_, _, rfl, _⟩ := h
    rfl
  have nd := c_index_of.nd
  obtain ⟨_, l, rfl, ⟨a, rfl, ha⟩, wf, q⟩ := h
  refine ⟨_, pss_one (ps_ret (pe_dc (own := [("place", 1), ("key", 2)]) rfl nd (pi_enum rfl T.z_enumerate (pa_cons (pv 0) pa_nil)) (blkOk_by (N := n_index_of) (sc := defScope s_index_of) (by decide +kernel)) (fun _ _ _ _ _ => pgTK (K := K) (n := 2) rfl (pgs_cons (pg_name (i := 1) nd rfl (by first | exact .inl rfl | exact .inr rfl)) (pgs_cons (pg_name (i := 2) nd rfl (by first | exact .inl rfl | exact .inr rfl)) (pgs_nil)))) (fun _ _ _ _ _ => pts_nil) (fun _ _ _ _ _ => pv 2) (fun _ _ _ _ _ => pv 1))), ?_⟩
  refine ⟨_, rfl, a, l.map V.int, rfl, SqL.of ha, fun d hd => dcG walk_enum (fun i H' => Ex H H' ∧ ∃ kvs, H' d = some (.dK kvs) ∧ Plc l i kvs) ⟨Ex.lay ex0 hd, [], upd_same, plc_nil l⟩ (fun i H' _ h => SqL.of (h.1 _ _ ha)) ?_ ?_⟩
  · rintro i x H1 H2 hi ⟨e, kvs, hd1, hk⟩ ⟨T1, x1, y1, rfl, nT, rfl, h1, h2⟩
    cases h1
    obtain ⟨n, hn, rfl⟩ := map_get h2
    have hi12 : i < 12 := by
      have := (List.getElem?_eq_some_iff.mp hn).1
      have := wf.len
      omega
    have hd2 : upd H1 T1 (.tup [.int (i : Nat), .int n]) d = some (.dK kvs) := (upd_ne (ne_new hd1 nT)).trans hd1
    have hl2 := hk.2
    refine ⟨T1, _, rfl, SqT.of upd_same, rfl, _, _, rfl, _, _, rfl, rfl, rfl, _, rfl, _, rfl, kvs, Sum.inl n, rfl, hd2, sz20' (by omega), ?_⟩
    exact ⟨Evl.Ex.mut (Ex.lay e nT) hd, _, upd_same, plc_step wf.nd hn hk⟩
  · rintro H' ⟨e, kvs, hd1, hk⟩
    rw [List.length_map] at hk
    exact q d H' hd e ⟨d, kvs, rfl, hd1, plc_end hk⟩
theorem exch_set {l : List Int} {i : Nat} (h : i + 1 < l.length) : (l.set i (l.getD (i + 1) 0)).set (i + 1) (l.getD i 0) = exch l i := by
  obtain ⟨p, a, b, s, rfl, rfl, h1, h2⟩ := split_at h
  rw [exch_app]
  have e1 : (p ++ a :: b :: s).getD p.length 0 = a := by rw [List.getD_eq_getElem?_getD, h1]; rfl
  have e2 : (p ++ a :: b :: s).getD (p.length + 1) 0 = b := by rw [List.getD_eq_getElem?_getD, h2]; rfl
  rw [e1, e2, List.set_append_right _ _ (Nat.le_refl _), Nat.sub_self, List.set_append_right _ _ (Nat.le_succ _), Nat.succ_sub (Nat.le_refl _), Nat.sub_self]
  rfl
theorem getD_at {l : List Int} {i : Nat} (h : i < l.length) : l[i]? = some (l.getD i 0) := by
  rw [List.getD_eq_getElem?_getD, List.getElem?_eq_getElem h]
  rfl
theorem ixN_nat {n j : Nat} (hj : j < n) : ixN n (j : Int) = some j := Evl.ixN_nat hj
theorem map_set (l : List Int) (i : Nat) (x : Int) : (l.map V.int).set i (.int x) = (l.set i x).map V.int := by
  rw [List.map_set]
/-- x not in a list of ints | in a dict -/
theorem op_dniD {X : Cx} (hu : X.A.units + 1 < cLine) : OpR X (compareOp .NotIn) (fun x y H Q => ∃ a o, y = .ref a ∧ DGet H a x o ∧ Q (.bl (!o.isSome)) H) := by
  intro pins s σ H x y v u Q I rx ry h
  obtain ⟨a, o, rfl, g, q⟩ := h
  obtain rfl : u = Value.ref a := ry
  exact d_notIn hu I g rx fun s' I' => ⟨.bl _, H, I', rfl, q⟩
theorem inV_int {x : Int} : ∀ {l : List Int}, inV (.int x) (l.map V.int) = decide (x ∈ l)
  | [] => rfl
  | y :: l => by
    show (eqV (.int y) (.int x) || inV (.int x) (l.map V.int)) = _
    rw [inV_int]
    by_cases e : x = y
    · subst e
      simp [eqV]
    · have e2 : (y == x) = false := by simpa using fun z : y = x => e z.symm
      simp [eqV, e, e2]
theorem flat_ints : ∀ l : List Int, (l.map V.int).all flatV = true := fun l => List.all_eq_true.mpr fun x hx => by
  obtain ⟨n, _, rfl⟩ := List.mem_map.mp hx
  rfl
def sp_swap_at (K : PySem.W.Frag) : Sp := fun vs H Q E => ∃ v l i, vs = [v, .int (i : Nat)] ∧ LI H v l ∧ Wf l ∧ i + 1 < l.length ∧ ∀ p H', H p = none → Ex H H' → H' p = some (.lst ((exch l i).map V.int)) → Q (.ref p) H'
theorem ok_swap_at (T : Wd P K mg) : Fn P w K mg base 3 "swap_at" (sp_swap_at K) := by
  have F_check_list := ok_check_list (P := P) (w := w) (base := base) T
  refine Fn.of T.g_swap_at T.f_swap_at c_swap_at (fun _ _ _ _ _ _ us hl => match us, hl with | [_, _], _ => rfl) (fun vs H Q E h => ?_) fun cdv A outer s H vs Q E hr h => ?_
  · obtain ⟨_, _, _, rfl, _⟩ := h
    rfl
  have nd := c_swap_at.nd
  obtain ⟨_, l, i, rfl, ⟨a, rfl, ha⟩, wf, hi, q⟩ := h
  refine ⟨_, pss_cons (ps_expr (pf F_check_list hr (by decide) (pa_cons (pv 0) pa_nil))) (pss_cons (ps_if (PW.pt (pw_or (pt_cmpR op_lt (pv 1) (pe_int) (nomark _)) (pw_or1 (pt_cmpR op_gt (pv 1) (pe_op op_sub (pe_callB (lenK (K := K)) rfl T.z_len (by decide +kernel) (pa_cons (pv 0) pa_nil)) (pe_int)) (nomark _))))) (pss_one (ps_never)) (pss_nil)) (pss_cons (ps_set (i := 2) nd rfl (by first | exact .inl rfl | exact .inr rfl) (pe_callTy (listK (K := K)) rfl T.z_list (by decide +kernel) (pa_cons (pv 0) pa_nil))) (pss_cons (ps_asg (pe_ix (ixLK (K := K)) (pv 0) (pe_op op_add (pv 1) (pe_int)) (fun _ _ => rfl)) (pg_sub (pv 2) (pv 1) set_list)) (pss_cons (ps_asg (pe_ix (ixLK (K := K)) (pv 0) (pv 1) (fun _ _ => rfl)) (pg_sub (pv 2) (pe_op op_add (pv 1) (pe_int)) set_list)) (pss_one (ps_ret (pv 2))))))), ?_⟩
  refine ⟨_, rfl, _, l, rfl, ⟨a, rfl, ha⟩, wf, fun H1 e1 => ?_⟩
  have ha1 := e1 _ _ ha
  have hl : (((l.map V.int).length : Nat) : Int) = (l.length : Int) := by rw [List.length_map]
  refine ⟨_, rfl, _, _, rfl, rfl, _, rfl, ifF (decide_eq_false (by omega)) ?_⟩
  refine ⟨_, rfl, _, rfl, a, _, rfl, .inl (SqL.of ha1), _, _, rfl, rfl, _, _, rfl, rfl, _, rfl, ifF (decide_eq_false (by omega)) ?_⟩
  refine ⟨_, rfl, a, _, rfl, .inl (SqL.of ha1), fun p hp => ?_⟩
  have hap := ne_new ha1 hp
  have ha2 : upd H1 p (.lst (l.map V.int)) a = some (.lst (l.map V.int)) := (upd_ne hap).trans ha1
  refine ⟨_, rfl, _, rfl, _, _, rfl, rfl, a, _, _, _, rfl, rfl, SqL.of ha2, atI_nat (j := i + 1) (get_map (getD_at hi)), ?_⟩
  refine ⟨_, rfl, _, rfl, p, _, _, i, rfl, rfl, upd_same, ixN_nat (by rw [List.length_map]; omega), ?_⟩
  rw [upd_upd, map_set]
  have ha3 : upd H1 p (.lst ((l.set i (l.getD (i + 1) 0)).map V.int)) a = some (.lst (l.map V.int)) := (upd_ne hap).trans ha1
  refine ⟨_, rfl, _, rfl, a, _, _, _, rfl, rfl, SqL.of ha3, atI_nat (j := i) (get_map (getD_at (Nat.lt_of_succ_lt hi))), ?_⟩
  refine ⟨_, rfl, _, rfl, _, _, rfl, rfl, p, _, _, i + 1, rfl, rfl, upd_same, ixN_nat (by rw [List.length_map, List.length_set]; exact hi), ?_⟩
  rw [upd_upd, map_set, exch_set hi]
  exact ⟨_, rfl, q p _ (Evl.fresh_back e1 hp) (Ex.lay e1 hp) upd_same⟩
def sp_require_key (K : PySem.W.Frag) : Sp := fun vs H Q E => ∃ v x, vs = [v, .int x] ∧ ((∃ l, LI H v l ∧ x ∈ l) ∨ ∃ l, PL H v l ∧ x ∈ l) ∧ ∀ H', Ex H H' → Q .non H'
theorem ok_require_key (T : Wd P K mg) : Fn P w K mg base 1 "require_key" (sp_require_key K) := by
  refine Fn.of T.g_require_key T.f_require_key c_require_key (fun _ _ _ _ _ _ us hl => match us, hl with | [_, _], _ => rfl) (fun vs H Q E h => ?_) fun cdv A outer s H vs Q E hr h => ?_
  · obtain ⟨_, _, rfl, _⟩ := h
    rfl
  have nd := c_require_key.nd
  have hu := hu_of hr
  obtain ⟨v, x, rfl, hv, q⟩ := h
  refine ⟨_, pss_one (ps_if (pt_cmpR (OpR.or (opNiK (K := K)) (op_dniD hu)) (pv 1) (pv 0) (by first | rfl | with_unfolding_all rfl)) (pss_one (ps_never)) (pss_nil)), ?_⟩
  refine ⟨_, rfl, _, rfl, ?_⟩
  rcases hv with ⟨l, ⟨a, rfl, ha⟩, hx⟩ | ⟨l, ⟨d, kvs, rfl, hd, hk⟩, hx⟩
  · refine .inl ⟨a, _, rfl, .inl (SqL.of ha), rfl, flat_ints l, _, rfl, ifF ?_ (q _ ex0)⟩
    rw [inV_int]
    simp [hx]
  · refine .inr ⟨d, _, rfl, DGet.k (k := Sum.inl x) hd, _, rfl, ifF ?_ (q _ ex0)⟩
    rw [hk x, if_pos hx]
    rfl
/-! ### data, for == of lists -/
theorem eqvAll_map {α : Type} [DecidableEq α] {f : α → PyData} (h : ∀ x y, PyData.eqv (f x) (f y) = decide (x = y)) : ∀ l m : List α, PyData.eqvAll (l.map f) (m.map f) = decide (l = m)
  | [], [] => by simp [PyData.eqvAll]
  | [], y :: m => by simp [PyData.eqvAll]
  | x :: l, [] => by simp [PyData.eqvAll]
  | x :: l, y :: m => by
    rw [List.map_cons, List.map_cons, PyData.eqvAll, h, eqvAll_map h l m]
    by_cases e1 : x = y <;> by_cases e2 : l = m <;> simp [e1, e2]
theorem lay_map {α : Type} {f : α → PyData} (h : ∀ x, (f x).canLay0 = true) : ∀ l : List α, PyData.canLayAll0 (l.map f) = true
  | [] => by simp [PyData.canLayAll0]
  | x :: l => by rw [List.map_cons, PyData.canLayAll0, h, lay_map h l]; rfl
theorem depth_map {α : Type} {f : α → PyData} {n : Nat} (h : ∀ x, (f x).depth ≤ n) : ∀ l : List α, PyData.depthAll (l.map f) ≤ n
  | [] => by simp [PyData.depthAll]
  | x :: l => by
    rw [List.map_cons, PyData.depthAll]
    exact Nat.max_le.mpr ⟨h x, depth_map h l⟩
abbrev dI (l : List Int) : PyData := .list (l.map .int)
theorem eqv_int (x y : Int) : PyData.eqv (.int x) (.int y) = decide (x = y) := by
  rw [PyData.eqv]
  by_cases h : x = y <;> simp [h]
theorem eqv_dI (l m : List Int) : PyData.eqv (dI l) (dI m) = decide (l = m) := by
  show PyData.eqv (.list _) (.list _) = _
  rw [PyData.eqv]
  exact eqvAll_map eqv_int l m
theorem lay_dI (l : List Int) : (dI l).canLay0 = true := by
  show PyData.canLay0 (.list _) = true
  rw [PyData.canLay0]
  exact lay_map (fun x => by rw [PyData.canLay0]) l
theorem depth_dI (l : List Int) : (dI l).depth ≤ 1 := by
  show PyData.depth (.list _) ≤ 1
  rw [PyData.depth]
  exact Nat.succ_le_succ (depth_map (n := 0) (fun x => by rw [PyData.depth]; exact Nat.le_refl _) l)
theorem shaped_of {d : PyData} (h1 : d.canLay0 = true) (h2 : d.depth ≤ 60) : SeqAt.shaped d = true := by
  unfold SeqAt.shaped
  rw [h1, decide_eq_true (Nat.le_trans h2 (by decide))]
  rfl
theorem dp_ints {H : Hp} : ∀ l : List Int, DpAll K H (l.map V.int) (l.map PyData.int)
  | [] => .nil
  | x :: l => .cons (.int x) (dp_ints l)
theorem dp_LI {H : Hp} {v : V} {l : List Int} (h : LI H v l) : Dp K H v (dI l) := by
  obtain ⟨a, rfl, ha⟩ := h
  exact .lst (SqL.of ha) (dp_ints l)
def sp_wrong_replica (K : PySem.W.Frag) : Sp := fun vs H Q E => ∃ v R, vs = [v] ∧ LR H v R ∧ Okw R ∧ ∀ H', Ex H H' → Q .non H'
theorem ok_wrong_replica (T : Wd P K mg) : Fn P w K mg base 2 "_wrong_replica" (sp_wrong_replica K) := by
  have F_first_wrong_place := ok_first_wrong_place (P := P) (w := w) (base := base) T
  refine Fn.of T.g_wrong_replica T.f_wrong_replica c_wrong_replica (fun _ _ _ _ _ _ us hl => match us, hl with | [_], _ => rfl) (fun vs H Q E h => ?_) fun cdv A outer s H vs Q E hr h => ?_
  · obtain ⟨_, _, rfl, _⟩ := h
    rfl
  have nd := c_wrong_replica.nd
  have hu64 := hr.units
  obtain ⟨_, R, rfl, hR, ok, q⟩ := h
  refine ⟨_, pss_cons (ps_set (i := 1) nd rfl (by first | exact .inl rfl | exact .inr rfl) (pe_callB cr_sorted rfl T.z_sorted (by decide +kernel) (pa_cons (pe_ix (ixLK (K := K)) (pv 0) (pe_int) (fun _ _ => rfl)) pa_nil))) (pss_cons (ps_for PassesOwn.never rfl (pi_enum rfl T.z_enumerate (pa_cons (pv 0) pa_nil)) (pgTK (K := K) (n := 2) rfl (pgs_cons (pg_name (i := 2) nd rfl (by first | exact .inl rfl | exact .inr rfl)) (pgs_cons (pg_name (i := 3) nd rfl (by first | exact .inl rfl | exact .inr rfl)) (pgs_nil)))) (pss_one (ps_if (PW.pt (pw_or (pt_cmp (pc_notN (pf F_first_wrong_place hr (by decide) (pa_cons (pv 3) pa_nil)))) (pw_or1 (pt_cmpR (op_neD hu64) (pe_callB cr_sorted rfl T.z_sorted (by decide +kernel) (pa_cons (pv 3) pa_nil)) (pv 1) (nomark _))))) (pss_one (ps_ret (pv 2))) (pss_nil)))) (pss_one (ps_ret (pe_non)))), ?_⟩
  obtain ⟨a, x, y, z, rfl, ha, hx, hy, hz⟩ := hR
  obtain ⟨b, rfl, hb⟩ := hx
  refine ⟨_, rfl, a, _, _, _, rfl, rfl, SqL.of ha, atI_nat (j := 0) rfl, b, R.a, rfl, SqL.of hb, Nat.lt_of_le_of_lt ok.wf.len (by decide), fun ns p hperm hs hp => ?_⟩
  obtain rfl : ns = srt R.a := srt_of hperm hs
  have ha1 : upd H p (.lst ((srt R.a).map V.int)) a = some (.lst [.ref b, y, z]) := (upd_ne (ne_new ha hp)).trans ha
  have eP : Ex H (upd H p (.lst ((srt R.a).map V.int))) := Ex.lay ex0 hp
  have hpP : upd H p (.lst ((srt R.a).map V.int)) p = some (.lst ((srt R.a).map V.int)) := upd_same
  generalize upd H p (.lst ((srt R.a).map V.int)) = H1 at ha1 eP hpP
  refine ⟨_, rfl, a, _, rfl, SqL.of ha1, for_it walk_enum (fun i σ H' => ∃ o1 o2, σ = [some (.ref a), some (.ref p), o1, o2] ∧ Ex H1 H') ⟨none, none, rfl, ex0⟩ (fun i σ H' _ h => SqL.of (h.choose_spec.choose_spec.2 _ _ ha1)) ?_ ?_⟩
  · rintro i x2 σ H2 H2' hi ⟨o1, o2, rfl, e⟩ ⟨T1, x1, y1, rfl, nT, rfl, h1, h2⟩
    cases h1
    have hl : ∃ l, LI H y1 l ∧ l.Perm R.a := by
      match i, h2 with
      | 0, h2 => cases h2; exact ⟨R.a, ⟨b, rfl, hb⟩, List.Perm.refl _⟩
      | 1, h2 => cases h2; exact ⟨R.b, hy, ok.ok.pb⟩
      | 2, h2 => cases h2; exact ⟨R.c, hz, ok.ok.pc⟩
    obtain ⟨l, hl, perm⟩ := hl
    have wf := ok.wf.perm perm
    have e2 : Ex H1 (upd H2 T1 (.tup [.int (i : Nat), y1])) := Ex.lay e nT
    have hlT := hl.mono (eP.trans e2)
    refine ⟨T1, _, rfl, SqT.of upd_same, rfl, _, _, rfl, _, _, rfl, rfl, ?_⟩
    refine ⟨_, rfl, _, l, rfl, hlT, wf, fun H3 e3 => ⟨_, rfl, ifF rfl ?_⟩⟩
    obtain ⟨c, rfl, hc⟩ := hlT.mono e3
    refine ⟨_, rfl, c, l, rfl, SqL.of hc, Nat.lt_of_le_of_lt wf.len (by decide), fun ms p2 hperm2 hs2 hp2 => ?_⟩
    obtain rfl : ms = srt l := srt_of hperm2 hs2
    rw [srt_congr perm]
    have e4 : Ex H1 (upd H3 p2 (.lst ((srt R.a).map V.int))) := Ex.lay (e2.trans e3) hp2
    refine ⟨_, rfl, dI (srt R.a), dI (srt R.a), dp_LI ⟨p2, rfl, upd_same⟩, dp_LI ⟨p, rfl, e4 _ _ hpP⟩, shaped_of (lay_dI _) (Nat.le_trans (depth_dI _) (by decide)), shaped_of (lay_dI _) (Nat.le_trans (depth_dI _) (by decide)), _, rfl, ifF (by rw [eqv_dI]; simp) ?_⟩
    exact ⟨_, _, rfl, e4⟩
  · rintro σ H' ⟨o1, o2, rfl, e⟩
    exact q _ (eP.trans e)
section
variable {H : Hp} {x C dx : Addr} {fs : List (Str × V)} {o : HO} {v : V} {l : List Int} {R : S3}
theorem LI.ups (h : LI H v l) (hx : H x = some (.ins C dx fs)) : LI (upd H x o) v l := let ⟨a, e, ha⟩ := h; ⟨a, e, (upd_ne (ne_of ha hx (by intro z; cases z))).trans ha⟩
theorem PL.ups (h : PL H v l) (hx : H x = some (.ins C dx fs)) : PL (upd H x o) v l := let ⟨a, k, e, ha, r⟩ := h; ⟨a, k, e, (upd_ne (ne_of ha hx (by intro z; cases z))).trans ha, r⟩
theorem LR.ups (h : LR H v R) (hx : H x = some (.ins C dx fs)) : LR (upd H x o) v R := let ⟨a, p, q, r, e, ha, h1, h2, h3⟩ := h; ⟨a, p, q, r, e, (upd_ne (ne_of ha hx (by intro z; cases z))).trans ha, h1.ups hx, h2.ups hx, h3.ups hx⟩
theorem LP.ups (h : LP H v R) (hx : H x = some (.ins C dx fs)) : LP (upd H x o) v R := let ⟨a, p, q, r, e, ha, h1, h2, h3⟩ := h; ⟨a, p, q, r, e, (upd_ne (ne_of ha hx (by intro z; cases z))).trans ha, h1.ups hx, h2.ups hx, h3.ups hx⟩
end
theorem putF2 {f g : Str} {u v : V} (h : ¬ f = g) : putF g v [(f, u)] = [(f, u), (g, v)] := by
  show (if f = g then _ else _) = _
  rw [if_neg h]
  rfl
theorem three_get {x y z : V} {P : Nat → V → Prop} (h0 : P 0 x) (h1 : P 1 y) (h2 : P 2 z) : ∀ i u, [x, y, z][i]? = some u → P i u
  | 0, _, h => Option.some.inj h ▸ h0
  | 1, _, h => Option.some.inj h ▸ h1
  | 2, _, h => Option.some.inj h ▸ h2
  | n + 3, _, h => nomatch h
theorem three_of {ys : List V} (h : ys.length = 3) : ∃ x y z, ys = [x, y, z] := by
  match ys, h with
  | [x, y, z], _ => exact ⟨x, y, z, rfl⟩
/-- all of the heap but the object at x stands -/
def ExB (x : Addr) (H H' : Hp) : Prop := ∀ a o, a ≠ x → H a = some o → H' a = some o
theorem ExB.of {x : Addr} {H H' : Hp} (e : Ex H H') : ExB x H H' := fun a o _ h => e a o h
theorem ExB.trans {x : Addr} {H H1 H2 : Hp} (e : ExB x H H1) (e2 : ExB x H1 H2) : ExB x H H2 := fun a o n h => e2 a o n (e a o n h)
theorem ExB.upd {x : Addr} {H H' : Hp} {o : HO} (e : ExB x H H') : ExB x H (upd H' x o) := fun a u n h => (upd_ne n).trans (e a u n h)
def sp_State_init (K : PySem.W.Frag) : Sp := fun vs H Q E => ∃ x dx f g h R, vs = [.ref x, f, g, h] ∧ H x = some (.ins (cS K) dx []) ∧ LI H f R.a ∧ LI H g R.b ∧ LI H h R.c ∧ Okw R ∧ ∀ H', ExB x H H' → ST K H' (.ref x) R → Q .non H'
theorem ok_State_init (T : Wd P K mg) : Mkr P w K mg base 3 "State" (He.ga K "State") (sp_State_init K) := by
  have F_index_of := ok_index_of (P := P) (w := w) (base := base) T
  have F_wrong_replica := ok_wrong_replica (P := P) (w := w) (base := base) T
  refine Mkr.of T.mk_State T.g_State T.f_State_init c_State_init (fun _ _ _ _ _ _ us hl => match us, hl with | [_, _, _, _], _ => rfl) (fun vs H Q E h => ?_) fun cdv A outer s H vs Q E hr h => ?_
  · obtain ⟨_, _, _, _, _, _, rfl, _⟩ := h
    rfl
  have nd := c_State_init.nd
  obtain ⟨x, dx, f, g, h, R, rfl, hx, ⟨a1, rfl, h1⟩, ⟨a2, rfl, h2⟩, ⟨a3, rfl, h3⟩, ok, q⟩ := h
  refine ⟨_, pss_cons (ps_set (i := 4) nd rfl (by first | exact .inl rfl | exact .inr rfl) (pe_lst (pa_cons (pe_callTy (listK (K := K)) rfl T.z_list (by decide +kernel) (pa_cons (pv 1) pa_nil)) (pa_cons (pe_callTy (listK (K := K)) rfl T.z_list (by decide +kernel) (pa_cons (pv 2) pa_nil)) (pa_cons (pe_callTy (listK (K := K)) rfl T.z_list (by decide +kernel) (pa_cons (pv 3) pa_nil)) pa_nil))))) (pss_cons (ps_set (i := 5) nd rfl (by first | exact .inl rfl | exact .inr rfl) (pf F_wrong_replica hr (by decide) (pa_cons (pv 4) pa_nil))) (pss_cons (ps_if (pt_cmp (pc_notN (pv 5))) (pss_one (ps_never)) (pss_nil)) (pss_cons (ps_fld (pv 0) (pv 4) rfl) (pss_one (ps_fld (pv 0) (pe_lc (own := [("order", 6)]) rfl nd (piLK (K := K) (pv 4)) (blkOk_by (N := n_State_init) (sc := defScope s_State_init) (by decide +kernel)) (fun _ _ _ _ _ => pg_name (i := 6) nd rfl (by first | exact .inl rfl | exact .inr rfl)) (fun _ _ _ _ _ => pts_nil) (fun _ _ _ _ _ => pf F_index_of hr (by decide) (pa_cons (pv 6) pa_nil))) rfl))))), ?_⟩
  refine ⟨_, rfl, a1, _, rfl, .inl (SqL.of h1), fun l1 n1 => ?_⟩
  have e1 : Ex H (upd H l1 (.lst (R.a.map V.int))) := Ex.lay ex0 n1
  have g1 : upd H l1 (.lst (R.a.map V.int)) l1 = some (.lst (R.a.map V.int)) := upd_same
  generalize upd H l1 (.lst (R.a.map V.int)) = H1 at e1 g1
  refine ⟨_, rfl, a2, _, rfl, .inl (SqL.of (e1 _ _ h2)), fun l2 n2 => ?_⟩
  have e2 : Ex H1 (upd H1 l2 (.lst (R.b.map V.int))) := Ex.lay ex0 n2
  have g2 : upd H1 l2 (.lst (R.b.map V.int)) l2 = some (.lst (R.b.map V.int)) := upd_same
  generalize upd H1 l2 (.lst (R.b.map V.int)) = H2 at e2 g2
  refine ⟨_, rfl, a3, _, rfl, .inl (SqL.of (e2 _ _ (e1 _ _ h3))), fun l3 n3 => ?_⟩
  have e3 : Ex H2 (upd H2 l3 (.lst (R.c.map V.int))) := Ex.lay ex0 n3
  have g3 : upd H2 l3 (.lst (R.c.map V.int)) l3 = some (.lst (R.c.map V.int)) := upd_same
  generalize upd H2 l3 (.lst (R.c.map V.int)) = H3 at e3 g3
  refine ⟨sz20 (show 3 ≤ 1000000 by decide), fun p np => ?_⟩
  have e4 : Ex H3 (upd H3 p (.lst [.ref l1, .ref l2, .ref l3])) := Ex.lay ex0 np
  have g4 : upd H3 p (.lst [.ref l1, .ref l2, .ref l3]) p = some (.lst [.ref l1, .ref l2, .ref l3]) := upd_same
  generalize upd H3 p (.lst [.ref l1, .ref l2, .ref l3]) = H4 at e4 g4
  have hR : LR H4 (.ref p) R := ⟨p, _, _, _, rfl, g4, ⟨l1, rfl, e4 _ _ (e3 _ _ (e2 _ _ g1))⟩, ⟨l2, rfl, e4 _ _ (e3 _ _ g2)⟩, ⟨l3, rfl, e4 _ _ g3⟩⟩
  have eH4 : Ex H H4 := e1.trans (e2.trans (e3.trans e4))
  refine ⟨_, rfl, _, R, rfl, hR, ok, fun H5 e5 => ⟨_, rfl, _, rfl, ifF rfl ?_⟩⟩
  have hx5 := e5 _ _ (eH4 _ _ hx)
  have hR5 := hR.mono e5
  refine ⟨_, rfl, _, rfl, x, _, dx, _, rfl, hx5, T.cl_State, T.n_State_lists, by decide, ?_⟩
  have hR6 : LR (upd H5 x (.ins (cS K) dx (putF "_lists" (.ref p) []))) (.ref p) R := hR5.ups hx5
  have hx6 : upd H5 x (.ins (cS K) dx (putF "_lists" (.ref p) [])) x = some (.ins (cS K) dx [("_lists", .ref p)]) := upd_same
  have eB : ExB x H (upd H5 x (.ins (cS K) dx (putF "_lists" (.ref p) []))) := (ExB.of (eH4.trans e5)).upd
  generalize upd H5 x (.ins (cS K) dx (putF "_lists" (.ref p) [])) = H6 at hR6 hx6 eB
  obtain ⟨p', u0, u1, u2, hp', hpl, hu0, hu1, hu2⟩ := hR6
  cases hp'
  refine ⟨_, rfl, p, rfl, ⟨_, SqL.of hpl⟩, fun D nD => lcG walk_list (fun _ => true) (fun i y H' => PL H' y (R.get i)) (fun i y _ _ e r => r.mono e) (fun i y H' ys ys' hD r => ?_) (fun H' e => SqL.of (e _ _ hpl)) (show 3 ≤ 1000000 by decide) nD (fun i y H' H'' Pn Pf hi hy e hD hp hf => ?_) fun ys H7 e7 hD gt => ?_⟩
  · obtain ⟨d, kvs, rfl, hd, hk⟩ := r
    exact ⟨d, kvs, rfl, (upd_ne (ne_of hd hD (by intro z; cases z))).trans hd, hk⟩
  · obtain ⟨rfl, hy⟩ := hy
    refine ⟨rfl, ?_⟩
    have hl : LI H'' y (R.get i) := three_get (P := fun i y => LI H'' y (R.get i)) (hu0.mono e) (hu1.mono e) (hu2.mono e) i y hy
    exact ⟨_, rfl, y, R.get i, rfl, hl, ok.get i, fun p2 H8 _ e8 hP => hp rfl _ _ e8 hP⟩
  · obtain ⟨hl, hg⟩ := got_all gt
    obtain ⟨y0, y1, y2, rfl⟩ := three_of (hl.trans (by rfl))
    have hx7 := e7 _ _ hx6
    refine ⟨_, rfl, x, _, dx, _, rfl, hx7, T.cl_State, T.n_State_places, by simp, ?_⟩
    refine q _ (eB.trans (ExB.of e7)).upd ?_
    have hP : LP H7 (.ref D) R := ⟨D, y0, y1, y2, rfl, hD, hg 0 y0 rfl, hg 1 y1 rfl, hg 2 y2 rfl⟩
    have hRR : LR H7 (.ref p) R := ⟨p, u0, u1, u2, rfl, e7 _ _ hpl, hu0.mono e7, hu1.mono e7, hu2.mono e7⟩
    refine ⟨x, dx, .ref p, .ref D, rfl, ?_, hRR.ups hx7, hP.ups hx7⟩
    rw [upd_same, putF2 (by decide)]
def sp_State_list_of (K : PySem.W.Frag) : Sp := fun vs H Q E => ∃ v S k, vs = [v, .int (k : Nat)] ∧ ST K H v S ∧ k < 3 ∧ ∀ p H', H p = none → Ex H H' → H' p = some (.lst ((S.get k).map V.int)) → Q (.ref p) H'
theorem ok_State_list_of (T : Wd P K mg) : Mt P w K mg base 2 (He.ga K "State") "list_of" (sp_State_list_of K) := by
  have F_check_replica := ok_check_replica (P := P) (w := w) (base := base) T
  refine Mt.of T.cl_State T.m_State_list_of T.f_State_list_of c_State_list_of (fun _ _ _ _ _ _ us hl => match us, hl with | [_, _], _ => rfl) (fun vs H Q E h => ?_) fun cdv A outer s H vs Q E hr h => ?_
  · obtain ⟨_, _, _, rfl, _⟩ := h
    rfl
  have nd := c_State_list_of.nd
  obtain ⟨_, S, k, rfl, ⟨a, dx, l, pl, rfl, ha, hl, hp⟩, hk, q⟩ := h
  refine ⟨_, pss_cons (ps_expr (pf F_check_replica hr (by decide) (pa_cons (pv 1) pa_nil))) (pss_one (ps_ret (pe_callTy (listK (K := K)) rfl T.z_list (by decide +kernel) (pa_cons (pe_ix (ixLK (K := K)) (pe_fld (pv 0) rfl) (pv 1) (fun _ _ => rfl)) pa_nil)))), ?_⟩
  refine ⟨_, rfl, k, rfl, by omega, fun H1 e1 => ?_⟩
  obtain ⟨b, x, y, z, rfl, hb, hg⟩ := (hl.mono e1).get
  obtain ⟨u, hu, c, rfl, hc⟩ := hg k hk
  refine ⟨_, rfl, a, _, dx, _, _, rfl, e1 _ _ ha, T.cl_State, T.n_State_lists, rfl, _, rfl, b, _, _, _, rfl, rfl, SqL.of hb, atI_nat hu, c, _, rfl, .inl (SqL.of hc), fun p np => ?_⟩
  exact q p _ (Evl.fresh_back e1 np) (Ex.lay e1 np) upd_same
def sp_State_lists (K : PySem.W.Frag) : Sp := fun vs H Q E => ∃ v S, vs = [v] ∧ ST K H v S ∧ ∀ p x y z H', H p = none → Ex H H' → H' p = some (.lst [x, y, z]) → LI H' x S.a → LI H' y S.b → LI H' z S.c → Q (.ref p) H'
theorem ok_State_lists (T : Wd P K mg) : Mt P w K mg base 1 (He.ga K "State") "lists" (sp_State_lists K) := by
  refine Mt.of T.cl_State T.m_State_lists T.f_State_lists c_State_lists (fun _ _ _ _ _ _ us hl => match us, hl with | [_], _ => rfl) (fun vs H Q E h => ?_) fun cdv A outer s H vs Q E hr h => ?_
  · obtain ⟨_, _, rfl, _⟩ := h
    rfl
  have nd := c_State_lists.nd
  obtain ⟨_, S, rfl, ⟨a, dx, l, pl, rfl, ha, hl, hp⟩, q⟩ := h
  refine ⟨_, pss_one (ps_ret (pe_lc (own := [("order", 1)]) rfl nd (piLK (K := K) (pe_fld (pv 0) rfl)) (blkOk_by (N := n_State_lists) (sc := defScope s_State_lists) (by decide +kernel)) (fun _ _ _ _ _ => pg_name (i := 1) nd rfl (by first | exact .inl rfl | exact .inr rfl)) (fun _ _ _ _ _ => pts_nil) (fun _ _ _ _ _ => pe_callTy (listK (K := K)) rfl T.z_list (by decide +kernel) (pa_cons (pv 1) pa_nil)))), ?_⟩
  obtain ⟨b, u0, u1, u2, rfl, hb, hu0, hu1, hu2⟩ := hl
  refine ⟨_, rfl, a, _, dx, _, _, rfl, ha, T.cl_State, T.n_State_lists, rfl, b, rfl, ⟨_, SqL.of hb⟩, fun D nD => lcG walk_list (fun _ => true) (fun i y H' => ∃ c, y = .ref c ∧ c ≠ D ∧ H' c = some (.lst ((S.get i).map V.int))) (fun i y _ _ e ⟨c, h1, h2, h3⟩ => ⟨c, h1, h2, e _ _ h3⟩) (fun i y H' ys ys' hD ⟨c, h1, h2, h3⟩ => ⟨c, h1, h2, (upd_ne h2).trans h3⟩) (fun H' e => SqL.of (e _ _ hb)) (show 3 ≤ 1000000 by decide) nD (fun i y H' H'' Pn Pf hi hy e hD hp hf => ?_) fun ys H7 e7 hD gt => ?_⟩
  · obtain ⟨rfl, hy⟩ := hy
    refine ⟨rfl, ?_⟩
    obtain ⟨c, rfl, hc⟩ : LI H'' y (S.get i) := three_get (P := fun i y => LI H'' y (S.get i)) (hu0.mono e) (hu1.mono e) (hu2.mono e) i y hy
    obtain ⟨ys, hD⟩ := hD
    exact ⟨_, rfl, c, _, rfl, .inl (SqL.of hc), fun p np => hp rfl _ _ (Ex.lay ex0 np) ⟨p, rfl, (ne_new hD np).symm, upd_same⟩⟩
  · obtain ⟨hl, hg⟩ := got_all gt
    obtain ⟨y0, y1, y2, rfl⟩ := three_of (hl.trans (by rfl))
    obtain ⟨c0, rfl, _, h0⟩ := hg 0 y0 rfl
    obtain ⟨c1, rfl, _, h1⟩ := hg 1 y1 rfl
    obtain ⟨c2, rfl, _, h2⟩ := hg 2 y2 rfl
    exact q D _ _ _ H7 nD e7 hD ⟨c0, rfl, h0⟩ ⟨c1, rfl, h1⟩ ⟨c2, rfl, h2⟩
def sp_State_all_keys (K : PySem.W.Frag) : Sp := fun vs H Q E => ∃ v S, vs = [v] ∧ ST K H v S ∧ Okw S ∧ ∀ p H', H p = none → Ex H H' → H' p = some (.lst ((srt S.a).map V.int)) → Q (.ref p) H'
theorem ok_State_all_keys (T : Wd P K mg) : Mt P w K mg base 1 (He.ga K "State") "all_keys" (sp_State_all_keys K) := by
  refine Mt.of T.cl_State T.m_State_all_keys T.f_State_all_keys c_State_all_keys (fun _ _ _ _ _ _ us hl => match us, hl with | [_], _ => rfl) (fun vs H Q E h => ?_) fun cdv A outer s H vs Q E hr h => ?_
  · obtain ⟨_, _, rfl, _⟩ := h
    rfl
  have nd := c_State_all_keys.nd
  obtain ⟨_, S, rfl, ⟨a, dx, l, pl, rfl, ha, hl, hp⟩, ok, q⟩ := h
  refine ⟨_, pss_one (ps_ret (pe_callB cr_sorted rfl T.z_sorted (by decide +kernel) (pa_cons (pe_ix (ixLK (K := K)) (pe_fld (pv 0) rfl) (pe_int) (fun _ _ => rfl)) pa_nil))), ?_⟩
  obtain ⟨b, u0, u1, u2, rfl, hb, ⟨c, rfl, hc⟩, hu1, hu2⟩ := hl
  refine ⟨_, rfl, a, _, dx, _, _, rfl, ha, T.cl_State, T.n_State_lists, rfl, b, _, _, _, rfl, rfl, SqL.of hb, atI_nat (j := 0) rfl, c, S.a, rfl, SqL.of hc, Nat.lt_of_le_of_lt ok.wf.len (by decide), fun ns p hperm hs np => ?_⟩
  obtain rfl : ns = srt S.a := srt_of hperm hs
  exact q p _ np (Ex.lay ex0 np) upd_same
def sp_State_says (K : PySem.W.Frag) : Sp := fun vs H Q E => ∃ v S k x y, vs = [v, .int (k : Nat), .int x, .int y] ∧ ST K H v S ∧ S.ok ∧ k < 3 ∧ x ∈ S.a ∧ y ∈ S.a ∧ ∀ H', Ex H H' → Q (.bl (bf (S.get k) x y)) H'
theorem ok_State_says (T : Wd P K mg) : Mt P w K mg base 2 (He.ga K "State") "says" (sp_State_says K) := by
  have F_check_replica := ok_check_replica (P := P) (w := w) (base := base) T
  have F_require_key := ok_require_key (P := P) (w := w) (base := base) T
  refine Mt.of T.cl_State T.m_State_says T.f_State_says c_State_says (fun _ _ _ _ _ _ us hl => match us, hl with | [_, _, _, _], _ => rfl) (fun vs H Q E h => ?_) fun cdv A outer s H vs Q E hr h => ?_
  · obtain ⟨_, _, _, _, _, rfl, _⟩ := h
    rfl
  have nd := c_State_says.nd
  have hu := hu_of hr
  obtain ⟨_, S, k, x, y, rfl, ⟨a, dx, l, pl, rfl, ha, hl, hp⟩, ok, hk, hx, hy, q⟩ := h
  refine ⟨_, pss_cons (ps_expr (pf F_check_replica hr (by decide) (pa_cons (pv 1) pa_nil))) (pss_cons (ps_set (i := 4) nd rfl (by first | exact .inl rfl | exact .inr rfl) (pe_ix (ixLK (K := K)) (pe_fld (pv 0) rfl) (pv 1) (fun _ _ => rfl))) (pss_cons (ps_expr (pf F_require_key hr (by decide) (pa_cons (pv 4) (pa_cons (pv 2) pa_nil)))) (pss_cons (ps_expr (pf F_require_key hr (by decide) (pa_cons (pv 4) (pa_cons (pv 3) pa_nil)))) (pss_one (ps_ret (pe_cmpR op_lt (pe_dget hu (pv 4) (pv 2) (fun _ _ => rfl)) (pe_dget hu (pv 4) (pv 3) (fun _ _ => rfl)) (nomark _))))))), ?_⟩
  refine ⟨_, rfl, k, rfl, by omega, fun H1 e1 => ?_⟩
  obtain ⟨b, u0, u1, u2, rfl, hb, hg⟩ := (hp.mono e1).get
  obtain ⟨u, hu, d, kvs, rfl, hd, hkv⟩ := hg k hk
  refine ⟨_, rfl, a, _, dx, _, _, rfl, e1 _ _ ha, T.cl_State, T.n_State_places, rfl, _, rfl, b, _, _, _, rfl, rfl, SqL.of hb, atI_nat hu, ?_⟩
  have mx : x ∈ S.get k := (ok.mem k).mpr hx
  have my : y ∈ S.get k := (ok.mem k).mpr hy
  refine ⟨_, rfl, _, rfl, _, x, rfl, .inr ⟨S.get k, ⟨d, kvs, rfl, hd, hkv⟩, mx⟩, fun H2 e2 => ?_⟩
  refine ⟨_, rfl, _, rfl, _, y, rfl, .inr ⟨S.get k, ⟨d, kvs, rfl, e2 _ _ hd, hkv⟩, my⟩, fun H3 e3 => ?_⟩
  have hd3 := e3 _ _ (e2 _ _ hd)
  refine ⟨_, rfl, _, rfl, d, .int ((S.get k).idxOf x : Nat), rfl, ?_, _, rfl, _, rfl, d, .int ((S.get k).idxOf y : Nat), rfl, ?_, _, _, rfl, rfl, ?_⟩
  · have z := DGet.k (k := Sum.inl x) hd3
    rw [hkv x, if_pos mx] at z
    exact z
  · have z := DGet.k (k := Sum.inl y) hd3
    rw [hkv y, if_pos my] at z
    exact z
  · have z := q H3 (e1.trans (e2.trans e3))
    unfold bf at z
    simpa using z
theorem Ex.made {H : Hp} {x dx : Addr} {o1 o2 : HO} (nx : H x = none) (ndx : H dx = none) (ne : dx ≠ x) : Ex H (upd (upd H dx o1) x o2) := Ex.lay (Ex.lay ex0 ndx) ((upd_ne (Ne.symm ne)).trans nx)
theorem ExB.back {H H1 H2 : Hp} {x : Addr} (e : Ex H H1) (n : H x = none) (eb : ExB x H1 H2) : Ex H H2 := fun a o h => eb a o (ne_new h n) (e a o h)
def sp_State_with_list (K : PySem.W.Frag) : Sp := fun vs H Q E => ∃ v S k ov l, vs = [v, .int (k : Nat), ov] ∧ ST K H v S ∧ Okw S ∧ k < 3 ∧ LI H ov l ∧ l.Perm (S.get k) ∧ ∀ v' H', Ex H H' → ST K H' v' (S.set k l) → Q v' H'
theorem ok_State_with_list (T : Wd P K mg) : Mt P w K mg base 5 (He.ga K "State") "with_list" (sp_State_with_list K) := by
  have F_State_all_keys := ok_State_all_keys (P := P) (w := w) (base := base) T
  have F_State_init := ok_State_init (P := P) (w := w) (base := base) T
  have F_State_lists := ok_State_lists (P := P) (w := w) (base := base) T
  have F_check_replica := ok_check_replica (P := P) (w := w) (base := base) T
  have F_first_wrong_place := ok_first_wrong_place (P := P) (w := w) (base := base) T
  refine Mt.of T.cl_State T.m_State_with_list T.f_State_with_list c_State_with_list (fun _ _ _ _ _ _ us hl => match us, hl with | [_, _, _], _ => rfl) (fun vs H Q E h => ?_) fun cdv A outer s H vs Q E hr h => ?_
  · obtain ⟨_, _, _, _, _, rfl, _⟩ := h
    rfl
  have nd := c_State_with_list.nd
  have hu64 := hr.units
  obtain ⟨_, S, k, ov, l, rfl, hS, ok, hk, hl, perm, q⟩ := h
  refine ⟨_, pss_cons (ps_expr (pf F_check_replica hr (by decide) (pa_cons (pv 1) pa_nil))) (pss_cons (ps_if (PW.pt (pw_or (pt_cmp (pc_notN (pf F_first_wrong_place hr (by decide) (pa_cons (pv 2) pa_nil)))) (pw_or1 (pt_cmpR (op_neD hu64) (pe_callB cr_sorted rfl T.z_sorted (by decide +kernel) (pa_cons (pv 2) pa_nil)) (pm0 F_State_all_keys hr (by decide) (pv 0)) (nomark _))))) (pss_one (ps_never)) (pss_nil)) (pss_cons (ps_set (i := 3) nd rfl (by first | exact .inl rfl | exact .inr rfl) (pm0 F_State_lists hr (by decide) (pv 0))) (pss_cons (ps_asg (pv 2) (pg_sub (pv 3) (pv 1) set_list)) (pss_cons (ps_asg (pv 3) (pgLK (K := K) (n := 3) rfl (pgs_cons (pg_name (i := 4) nd rfl (by first | exact .inl rfl | exact .inr rfl)) (pgs_cons (pg_name (i := 5) nd rfl (by first | exact .inl rfl | exact .inr rfl)) (pgs_cons (pg_name (i := 6) nd rfl (by first | exact .inl rfl | exact .inr rfl)) (pgs_nil)))))) (pss_one (ps_ret (pk F_State_init hr (by decide) (pa_cons (pv 4) (pa_cons (pv 5) (pa_cons (pv 6) pa_nil)))))))))), ?_⟩
  obtain ⟨a, dx, lv, pv', rfl, ha, hlv, hpv⟩ := id hS
  have wf := (ok.get k).perm perm
  have seq : srt l = srt S.a := srt_congr (perm.trans (ok.ok.get k))
  refine ⟨_, rfl, k, rfl, by omega, fun H1 e1 => ?_⟩
  refine ⟨_, rfl, _, l, rfl, hl.mono e1, wf, fun H2 e2 => ⟨_, rfl, ifF rfl ?_⟩⟩
  obtain ⟨c, rfl, hc⟩ := hl
  have hc2 := e2 _ _ (e1 _ _ hc)
  refine ⟨_, rfl, c, l, rfl, SqL.of hc2, Nat.lt_of_le_of_lt wf.len (by decide), fun ns p hperm hs np => ?_⟩
  obtain rfl : ns = srt l := srt_of hperm hs
  have e3 : Ex H2 (upd H2 p (.lst ((srt l).map V.int))) := Ex.lay ex0 np
  have g3 : upd H2 p (.lst ((srt l).map V.int)) p = some (.lst ((srt l).map V.int)) := upd_same
  generalize upd H2 p (.lst ((srt l).map V.int)) = H3 at e3 g3
  have e03 : Ex H H3 := e1.trans (e2.trans e3)
  refine ⟨_, rfl, a, dx, _, rfl, e03 _ _ ha, rfl, _, S, rfl, hS.mono e03, ok, fun p4 H4 _ e4 g4 => ?_⟩
  refine ⟨dI (srt l), dI (srt S.a), dp_LI ⟨p, rfl, e4 _ _ g3⟩, dp_LI ⟨p4, rfl, g4⟩, shaped_of (lay_dI _) (Nat.le_trans (depth_dI _) (by decide)), shaped_of (lay_dI _) (Nat.le_trans (depth_dI _) (by decide)), _, rfl, ifF (by rw [eqv_dI, seq]; simp) ?_⟩
  have e04 := e03.trans e4
  refine ⟨_, rfl, a, dx, _, rfl, e04 _ _ ha, rfl, _, S, rfl, hS.mono e04, fun o u0 u1 u2 H5 no e5 ho h0 h1 h2 => ?_⟩
  have e05 := e04.trans e5
  have hc5 := e05 _ _ hc
  refine ⟨_, rfl, _, rfl, _, rfl, o, _, k, k, rfl, rfl, ho, ixN_nat hk, ?_⟩
  have nco : c ≠ o := fun z => by
    rw [z, ho] at hc5
    obtain ⟨b, rfl, _⟩ := h0
    match l, hc5 with
    | x :: l, hc5 => cases hc5
  have e06 : Ex H (upd H5 o (.lst ([u0, u1, u2].set k (.ref c)))) := Evl.Ex.mut e05 (Evl.fresh_back e04 no)
  have hS5 : ∀ {u m}, LI H5 u m → (∃ b, H5 o = some (.lst [V.ref b, u1, u2])) → LI (upd H5 o (.lst ([u0, u1, u2].set k (.ref c)))) u m := fun {u m} ⟨d, e, hd⟩ ⟨b, hb⟩ => ⟨d, e, (upd_ne (fun z => by
    rw [z, hb] at hd
    match m, hd with
    | x :: m, hd => cases hd)).trans hd⟩
  have hb : ∃ b, H5 o = some (.lst [V.ref b, u1, u2]) := by
    obtain ⟨b, rfl, _⟩ := h0
    exact ⟨b, ho⟩
  have g0 := hS5 h0 hb
  have g1 := hS5 h1 hb
  have g2 := hS5 h2 hb
  have gc := hS5 (u := .ref c) ⟨c, rfl, hc5⟩ hb
  have ho6 : upd H5 o (.lst ([u0, u1, u2].set k (.ref c))) o = some (.lst ([u0, u1, u2].set k (.ref c))) := upd_same
  generalize upd H5 o (.lst ([u0, u1, u2].set k (.ref c))) = H6 at e06 g0 g1 g2 gc ho6
  obtain ⟨w0, w1, w2, hw, k0, k1, k2⟩ : ∃ w0 w1 w2, [u0, u1, u2].set k (.ref c) = [w0, w1, w2] ∧ LI H6 w0 (S.set k l).a ∧ LI H6 w1 (S.set k l).b ∧ LI H6 w2 (S.set k l).c := by
    match k, hk with
    | 0, _ => exact ⟨_, _, _, rfl, gc, g1, g2⟩
    | 1, _ => exact ⟨_, _, _, rfl, g0, gc, g2⟩
    | 2, _ => exact ⟨_, _, _, rfl, g0, g1, gc⟩
  rw [hw] at ho6
  refine ⟨_, rfl, o, _, rfl, SqL.of ho6, rfl, _, _, rfl, _, _, rfl, _, _, rfl, rfl, _, rfl, _, rfl, _, rfl, fun x dx2 nx ndx ne => ?_⟩
  have eM : Ex H6 (upd (upd H6 dx2 (.own x)) x (.ins (cS K) dx2 [])) := Ex.made nx ndx ne
  refine ⟨x, dx2, w0, w1, w2, S.set k l, rfl, upd_same, k0.mono eM, k1.mono eM, k2.mono eM, ok.set perm, fun H7 e7 hS7 => ⟨rfl, ?_⟩⟩
  exact q _ _ (e06.trans (ExB.back eM nx e7)) hS7
theorem insB_ok {C : Addr} (h : insB K C = true) : PySem.W.findIn K (.ref C) "__class__" = some (some (.builtin "object.__class__")) ∧ PySem.W.mroIn K C (.type "object") = some true ∧ PySem.W.kitOne K (.ref C) (.ref C) = some true := by
  unfold insB at h
  simp only [Bool.and_eq_true, decide_eq_true_eq] at h
  exact ⟨h.1, h.2.1, h.2.2⟩
theorem Top.exAll (T : Top K mg) {b : Bool} (i : Nat) (h : ([He.tupB K "SIDES" [.str "old", .str "mine", .str "yours"], (match K.lookup (kwAt ("settle", none) "replicas" K) with
    | some ⟨.type c, _, .seq its _, _⟩ => decide (c = "tuple") && (decide (its.size ≤ sizeLine) && He.relAll [.int 0, .int 1, .int 2] its.toList)
    | _ => false),
  cvB K (He.ga K "State") "REPLICAS" (.int 3), insB K (He.ga K "State"), insB K (He.ga K "ThreeWay"),
  decide (PySem.W.specialIn K (.builtin "object.__class__") "__get__" = some (some (.builtin "getset_descriptor.__get__"))), decide (PySem.W.takesIn K (.builtin "object.__class__") = some true),
  decide (PySem.W.nsIn K cStatics "thirdparty.any" = some none),
  errB K (He.ga K "InvalidSide") "side", errB K (He.ga K "InvalidSwap") "step", errB K (He.ga K "AudibleSwap") "step",
  fnB K (He.ga K "InvalidSide") "InvalidSide.__init__", fnB K (He.ga K "InvalidSwap") "InvalidSwap.__init__", fnB K (He.ga K "AudibleSwap") "AudibleSwap.__init__", tstB K, (match K.lookup (He.ga K "SIDES") with
    | some ⟨.type c, none, .seq _ _, _⟩ => decide (c = "tuple")
    | _ => false)] : List Bool)[i]? = some b) : b = true := by
  have z := T.ex
  unfold exB at z
  have y := List.all_eq_true.mp z b (List.mem_of_getElem? h)
  exact y
theorem Top.gtC (T : Top K mg) : PySem.W.specialIn K (.builtin "object.__class__") "__get__" = some (some (.builtin "getset_descriptor.__get__")) := of_decide_eq_true (T.exAll 5 rfl)
theorem Top.tkC (T : Top K mg) : PySem.W.takesIn K (.builtin "object.__class__") = some true := of_decide_eq_true (T.exAll 6 rfl)
theorem Top.isS (T : Top K mg) {H : Hp} {a dx : Addr} {fs : List (Str × V)} (h : H a = some (.ins (cS K) dx fs)) : TyX K H (.ref a) (.ref (cS K)) :=
  let ⟨h1, h2, _⟩ := insB_ok (T.exAll 3 rfl)
  .base (.ins h T.cl_State h1 T.gtC T.tkC h2)
theorem Top.isT (T : Top K mg) {H : Hp} {a dx : Addr} {fs : List (Str × V)} (h : H a = some (.ins (cT K) dx fs)) : TyX K H (.ref a) (.ref (cT K)) :=
  let ⟨h1, h2, _⟩ := insB_ok (T.exAll 4 rfl)
  .base (.ins h T.cl_ThreeWay h1 T.gtC T.tkC h2)
abbrev dR (R : S3) : PyData := .list [dI R.a, dI R.b, dI R.c]
theorem eqv_dR (R U : S3) : PyData.eqv (dR R) (dR U) = decide (R = U) := by
  show PyData.eqv (.list _) (.list _) = _
  rw [PyData.eqv, PyData.eqvAll, PyData.eqvAll, PyData.eqvAll, PyData.eqvAll, eqv_dI, eqv_dI, eqv_dI]
  obtain ⟨a, b, c⟩ := R
  obtain ⟨d, e, f⟩ := U
  by_cases h1 : a = d <;> by_cases h2 : b = e <;> by_cases h3 : c = f <;> simp [h1, h2, h3]
theorem lay_dR (R : S3) : (dR R).canLay0 = true := by
  show PyData.canLay0 (.list _) = true
  rw [PyData.canLay0, PyData.canLayAll0, PyData.canLayAll0, PyData.canLayAll0, PyData.canLayAll0, lay_dI, lay_dI, lay_dI]
  rfl
theorem depth_dR (R : S3) : (dR R).depth ≤ 2 := by
  show PyData.depth (.list _) ≤ 2
  rw [PyData.depth, PyData.depthAll, PyData.depthAll, PyData.depthAll, PyData.depthAll]
  have h1 := depth_dI R.a
  have h2 := depth_dI R.b
  have h3 := depth_dI R.c
  omega
theorem dp_LR {H : Hp} {v : V} {R : S3} (h : LR H v R) : Dp K H v (dR R) := by
  obtain ⟨a, x, y, z, rfl, ha, h1, h2, h3⟩ := h
  exact .lst (SqL.of ha) (.cons (dp_LI h1) (.cons (dp_LI h2) (.cons (dp_LI h3) .nil)))
def sp_State_eq (K : PySem.W.Frag) : Sp := fun vs H Q E => ∃ v u S U, vs = [v, u] ∧ ST K H v S ∧ ST K H u U ∧ ∀ H', Ex H H' → Q (.bl (decide (S = U))) H'
theorem ok_State_eq (T : Wd P K mg) : Mt P w K mg base 1 (He.ga K "State") "__eq__" (sp_State_eq K) := by
  refine Mt.of T.cl_State T.m_State_eq T.f_State_eq c_State_eq (fun _ _ _ _ _ _ us hl => match us, hl with | [_, _], _ => rfl) (fun vs H Q E h => ?_) fun cdv A outer s H vs Q E hr h => ?_
  · obtain ⟨_, _, _, _, rfl, _⟩ := h
    rfl
  have nd := c_State_eq.nd
  have hu64 := hr.units
  obtain ⟨_, _, S, U, rfl, ⟨a, dx, l, p, rfl, ha, hl, _⟩, ⟨b, dy, m, r, rfl, hb, hm, _⟩, q⟩ := h
  refine ⟨_, pss_one (ps_ret (pe_and (pe_callB call_isi rfl T.z_isinstance (by decide +kernel) (pa_cons (pv 1) (pa_cons (pe_glob (v := .ref (He.ga K "State")) rfl T.g_State rfl) pa_nil))) (pe_one (pe_cmpR (op_eqD hu64) (pe_fld (pv 0) rfl) (pe_fld (pv 1) rfl) (nomark _))))), ?_⟩
  refine ⟨_, rfl, .ref b, .ref (cS K), .ref (cS K), .ref (cS K), true, rfl, .own _, T.isS hb, (insB_ok (T.exAll 3 rfl)).2.2, _, rfl, ?_⟩
  refine ifT rfl ?_
  refine ⟨_, rfl, a, _, dx, _, _, rfl, ha, T.cl_State, T.n_State_lists, rfl, _, rfl, b, _, dy, _, _, rfl, hb, T.cl_State, T.n_State_lists, rfl, dR S, dR U, dp_LR hl, dp_LR hm, shaped_of (lay_dR _) (Nat.le_trans (depth_dR _) (by decide)), shaped_of (lay_dR _) (Nat.le_trans (depth_dR _) (by decide)), ?_⟩
  rw [eqv_dR]
  exact q _ ex0
def sp_State_len (K : PySem.W.Frag) : Sp := fun vs H Q E => ∃ v S, vs = [v] ∧ ST K H v S ∧ ∀ H', Ex H H' → Q (.int (S.a.length : Nat)) H'
theorem ok_State_len (T : Wd P K mg) : Mt P w K mg base 1 (He.ga K "State") "__len__" (sp_State_len K) := by
  refine Mt.of T.cl_State T.m_State_len T.f_State_len c_State_len (fun _ _ _ _ _ _ us hl => match us, hl with | [_], _ => rfl) (fun vs H Q E h => ?_) fun cdv A outer s H vs Q E hr h => ?_
  · obtain ⟨_, _, rfl, _⟩ := h
    rfl
  have nd := c_State_len.nd
  obtain ⟨_, S, rfl, ⟨a, dx, l, pl, rfl, ha, hl, hp⟩, q⟩ := h
  refine ⟨_, pss_one (ps_ret (pe_callB (lenK (K := K)) rfl T.z_len (by decide +kernel) (pa_cons (pe_ix (ixLK (K := K)) (pe_fld (pv 0) rfl) (pe_int) (fun _ _ => rfl)) pa_nil))), ?_⟩
  obtain ⟨b, u0, u1, u2, rfl, hb, ⟨c, rfl, hc⟩, hu1, hu2⟩ := hl
  have z := q H ex0
  rw [show S.a.length = (S.a.map V.int).length by rw [List.length_map]] at z
  exact ⟨_, rfl, a, _, dx, _, _, rfl, ha, T.cl_State, T.n_State_lists, rfl, b, _, _, _, rfl, rfl, SqL.of hb, atI_nat (j := 0) rfl, c, _, rfl, .inl (SqL.of hc), z⟩
end
end K38
end
section
set_option Elab.async false
set_option linter.all false
set_option maxRecDepth 100000
set_option maxHeartbeats 4000000
/-! The walk, second part: readings, swaps. -/
namespace K38
open PySem PySem.Spec PyProof.Rows L2
section
variable {P : Program} {w : World} {K : PySem.W.Frag} {mg : Str → Option Value} {base : Heap}
/-! ### a dict of pairs -/
theorem has_pair {kvs : List (List Key × V)} {ps : List (Int × Int)} (h : kvs.map (·.1) = ps.map keyP) (p : Int × Int) : (valV kvs (keyP p)).isSome = decide (p ∈ ps) := by
  rw [← valV_any]
  have e : (kvs.any fun kv => decide (kv.1 = keyP p)) = (kvs.map (·.1)).any fun k => decide (k = keyP p) := by rw [List.any_map]; rfl
  rw [e, h, List.any_map]
  by_cases m : p ∈ ps
  · rw [decide_eq_true m, List.any_eq_true]
    exact ⟨p, m, decide_eq_true rfl⟩
  · rw [decide_eq_false m, List.any_eq_false]
    intro q hq z
    have z := of_decide_eq_true z
    obtain ⟨a, b⟩ := p
    obtain ⟨c, d⟩ := q
    injection z with z1 z2
    injection z2 with z2 _
    cases z1
    cases z2
    exact m hq
theorem keyV (p : Int × Int) : (keyP p).map kV = [.int p.1, .int p.2] := rfl
/-- the pairs of the keys ks, as a reading must have them -/
structure Pw (ks : List Int) (ps : List (Int × Int)) : Prop where
  irr : ∀ x ∈ ks, (x, x) ∉ ps
  tot : ∀ x ∈ ks, ∀ y ∈ ks, x ≠ y → decide ((y, x) ∈ ps) = !decide ((x, y) ∈ ps)
theorem cut_from {l : List Int} {i : Nat} : cutV (l.map V.int) (some ((i : Int) + 1)) none = (l.drop (i + 1)).map V.int := by
  have e : ((i : Int) + 1) = ((i + 1 : Nat) : Int) := by omega
  unfold cutV
  rw [e, HT.sIx_nat, HT.sIx_none, List.map_drop]
  by_cases h : i + 1 ≤ (l.map V.int).length
  · rw [Nat.min_eq_left h, List.take_of_length_le (by rw [List.length_drop]; exact Nat.le_refl _)]
  · rw [Nat.min_eq_right (by omega), List.drop_eq_nil_of_le (Nat.le_refl _), List.drop_eq_nil_of_le (by omega)]
    simp
def sp_first_wrong_pair (K : PySem.W.Frag) : Sp := fun vs H Q E => ∃ v d ks ps kvs, vs = [v, .ref d] ∧ LI H v ks ∧ ks.Nodup ∧ ks.length ≤ 12 ∧ H d = some (.dT kvs) ∧ kvs.map (·.1) = ps.map keyP ∧ Pw ks ps ∧ ∀ H', Ex H H' → Q .non H'
theorem ok_first_wrong_pair (T : Wd P K mg) : Fn P w K mg base 1 "_first_wrong_pair" (sp_first_wrong_pair K) := by
  refine Fn.of T.g_first_wrong_pair T.f_first_wrong_pair c_first_wrong_pair (fun _ _ _ _ _ _ us hl => match us, hl with | [_, _], _ => rfl) (fun vs H Q E h => ?_) fun cdv A outer s H vs Q E hr h => ?_
  · obtain ⟨_, _, _, _, _, rfl, _⟩ := h
    rfl
  have nd := c_first_wrong_pair.nd
  have hu := hu_of hr
  obtain ⟨_, d, ks, ps, kvs, rfl, ⟨a, rfl, ha⟩, knd, klen, hd, hk, pw, q⟩ := h
  refine ⟨_, pss_cons (ps_for PassesOwn.never rfl (pi_enum rfl T.z_enumerate (pa_cons (pv 0) pa_nil)) (pgTK (K := K) (n := 2) rfl (pgs_cons (pg_name (i := 2) nd rfl (by first | exact .inl rfl | exact .inr rfl)) (pgs_cons (pg_name (i := 3) nd rfl (by first | exact .inl rfl | exact .inr rfl)) (pgs_nil)))) (pss_cons (ps_if (pt_cmp (pc_din hu (pe_tup (pa_cons (pv 3) (pa_cons (pv 3) pa_nil))) (pv 1))) (pss_one (ps_ret (pe_tup (pa_cons (pv 3) (pa_cons (pv 3) pa_nil))))) (pss_nil)) (pss_one (ps_for PassesOwn.never rfl (piLK (K := K) (pe_slice (slLK (K := K)) (pv 0) (po_some (pe_op op_add (pv 2) (pe_int))) (po_none))) (pg_name (i := 4) nd rfl (by first | exact .inl rfl | exact .inr rfl)) (pss_one (ps_if (pt_cmpR op_eq (pe_cmp (pc_din hu (pe_tup (pa_cons (pv 3) (pa_cons (pv 4) pa_nil))) (pv 1))) (pe_cmp (pc_din hu (pe_tup (pa_cons (pv 4) (pa_cons (pv 3) pa_nil))) (pv 1))) (nomark _)) (pss_one (ps_ret (pe_tup (pa_cons (pv 3) (pa_cons (pv 4) pa_nil))))) (pss_nil))))))) (pss_one (ps_ret (pe_non))), ?_⟩
  refine ⟨_, rfl, a, _, rfl, SqL.of ha, for_it walk_enum (fun i σ H' => ∃ o1 o2 o3, σ = [some (.ref a), some (.ref d), o1, o2, o3] ∧ Ex H H') ⟨none, none, none, rfl, ex0⟩ (fun i σ H' _ h => SqL.of (h.choose_spec.choose_spec.choose_spec.2 _ _ ha)) ?_ ?_⟩
  · rintro i x2 σ H1 H1' hi ⟨o1, o2, o3, rfl, e⟩ ⟨T1, x1, y1, rfl, nT, rfl, h1, h2⟩
    cases h1
    obtain ⟨x, hx, rfl⟩ := map_get h2
    have mx := List.mem_of_getElem? hx
    have e1 : Ex H (upd H1 T1 (.tup [.int (i : Nat), .int x])) := Ex.lay e nT
    refine ⟨T1, _, rfl, SqT.of upd_same, rfl, _, _, rfl, _, _, rfl, rfl, ?_⟩
    refine ⟨_, rfl, _, rfl, sz20 (show 2 ≤ 1000000 by decide), fun t nt => ?_⟩
    have e2 := Ex.lay (o := .tup [.int x, .int x]) e1 nt
    have ht : upd (upd H1 T1 (.tup [.int (i : Nat), .int x])) t (.tup [.int x, .int x]) t = some (.tup [.int x, .int x]) := upd_same
    generalize upd (upd H1 T1 (.tup [.int (i : Nat), .int x])) t (.tup [.int x, .int x]) = H2 at e2 ht
    refine ⟨_, rfl, d, _, rfl, DGet.t (k := keyP (x, x)) (e2 _ _ hd) ht, _, rfl, ifF (by rw [has_pair hk]; exact decide_eq_false (pw.irr x mx)) ?_⟩
    refine ⟨_, rfl, _, rfl, _, _, rfl, rfl, ?_⟩
    refine ⟨_, rfl, a, _, rfl, SqL.of (e2 _ _ ha), fun p np => ?_⟩
    rw [cut_from]
    have e3 := Ex.lay (o := .lst ((ks.drop (i + 1)).map V.int)) e2 np
    have hp : upd H2 p (.lst ((ks.drop (i + 1)).map V.int)) p = some (.lst ((ks.drop (i + 1)).map V.int)) := upd_same
    generalize upd H2 p (.lst ((ks.drop (i + 1)).map V.int)) = H3 at e3 hp
    refine ⟨p, rfl, ⟨_, SqL.of hp⟩, for_list (fun j σ H' => ∃ o3, σ = [some (.ref a), some (.ref d), some (.int (i : Nat)), some (.int x), o3] ∧ Ex H3 H') ⟨o3, rfl, ex0⟩ (fun j σ H' _ h => SqL.of (h.choose_spec.2 _ _ hp)) ?_ ?_⟩
    · rintro j y2 σ H4 hj ⟨o4, rfl, e4⟩
      obtain ⟨y, hy, rfl⟩ := map_get hj
      rw [List.getElem?_drop] at hy
      have my := List.mem_of_getElem? hy
      have ne : x ≠ y := fun z => by
        subst z
        have z1 := idx_of_get knd hx
        have z2 := idx_of_get knd hy
        omega
      refine ⟨_, rfl, _, rfl, sz20 (show 2 ≤ 1000000 by decide), fun t1 nt1 => ?_⟩
      have e5 := Ex.lay (o := .tup [.int x, .int y]) (e3.trans e4) nt1
      have e5' := Ex.lay (o := .tup [.int x, .int y]) e4 nt1
      have ht1 : upd H4 t1 (.tup [.int x, .int y]) t1 = some (.tup [.int x, .int y]) := upd_same
      generalize upd H4 t1 (.tup [.int x, .int y]) = H5 at e5 e5' ht1
      refine ⟨_, rfl, d, _, rfl, DGet.t (k := keyP (x, y)) (e5 _ _ hd) ht1, ?_⟩
      refine ⟨_, rfl, _, rfl, sz20 (show 2 ≤ 1000000 by decide), fun t2 nt2 => ?_⟩
      have e6 := Ex.lay (o := .tup [.int y, .int x]) e5 nt2
      have e6' := Ex.lay (o := .tup [.int y, .int x]) e5' nt2
      have ht2 : upd H5 t2 (.tup [.int y, .int x]) t2 = some (.tup [.int y, .int x]) := upd_same
      generalize upd H5 t2 (.tup [.int y, .int x]) = H6 at e6 e6' ht2
      refine ⟨_, rfl, d, _, rfl, DGet.t (k := keyP (y, x)) (e6 _ _ hd) ht2, rfl, _, rfl, ifF ?_ ⟨_, rfl, e6'⟩⟩
      rw [has_pair hk, has_pair hk, pw.tot x mx y my ne]
      cases decide ((x, y) ∈ ps) <;> rfl
    · rintro σ H4 ⟨o4, rfl, e4⟩
      exact ⟨_, _, _, rfl, e3.trans e4⟩
  · rintro σ H' ⟨o1, o2, o3, rfl, e⟩
    exact q _ e
theorem pair_get {ps : List (Int × Int)} {cs : List Addr} {H : Hp} (r : Paired (fun (q : Int × Int) (c : Addr) => H c = some (.tup [.int q.1, .int q.2])) ps cs) {i : Nat} {v : V} (h : (cs.map V.ref)[i]? = some v) : ∃ c p, v = .ref c ∧ cs[i]? = some c ∧ ps[i]? = some p ∧ H c = some (.tup [.int p.1, .int p.2]) := by
  rw [List.getElem?_map] at h
  cases e : cs[i]? with
  | none => rw [e] at h; cases h
  | some c =>
    rw [e] at h
    obtain ⟨p, hp, hc⟩ := DX.pget r e
    exact ⟨c, p, (Option.some.inj h).symm, rfl, hp, hc⟩
theorem nd_takeP {l : List (Int × Int)} (nd : l.Nodup) {i : Nat} {x : Int × Int} (h : l[i]? = some x) : x ∉ l.take i := fun m => by
  obtain ⟨j, hj⟩ := List.getElem?_of_mem m
  have hlt : j < i := by
    have z := (List.getElem?_eq_some_iff.mp hj).1
    rw [List.length_take] at z
    omega
  rw [List.getElem?_take_of_lt hlt] at hj
  obtain ⟨h1, e1⟩ := List.getElem?_eq_some_iff.mp hj
  obtain ⟨h2, e2⟩ := List.getElem?_eq_some_iff.mp h
  exact List.pairwise_iff_getElem.mp nd j i h1 h2 hlt (e1.trans e2.symm)
theorem put_pair {kvs : List (List Key × V)} {ps : List (Int × Int)} {p : Int × Int} {v : V} (h : kvs.map (·.1) = ps.map keyP) (n : p ∉ ps) : (putK kvs (keyP p) v).map (·.1) = (ps ++ [p]).map keyP := by
  have z : valV kvs (keyP p) = none := by
    have y := has_pair h p
    rw [decide_eq_false n] at y
    exact Option.not_isSome_iff_eq_none.mp (by rw [y]; decide)
  rw [putK_new _ z, List.map_append, List.map_append, h]
  rfl
theorem paired_len {ps : List (Int × Int)} {cs : List Addr} {H : Hp} (r : Paired (fun (q : Int × Int) (c : Addr) => H c = some (.tup [.int q.1, .int q.2])) ps cs) : ps.length = cs.length := Paired.length r
def sp_Reading_init (K : PySem.W.Frag) : Sp := fun vs H Q E => ∃ x dx v u l ps, vs = [.ref x, v, u] ∧ H x = some (.ins (cR K) dx []) ∧ LI H v l ∧ Wf l ∧ LQ H u ps ∧ ps.Nodup ∧ ps.length ≤ 1000 ∧ (∀ p ∈ ps, p.1 ∈ l ∧ p.2 ∈ l) ∧ Pw (srt l) ps ∧ ∀ H', ExB x H H' → RD K H' (.ref x) (srt l) ps → Q .non H'
theorem ok_Reading_init (T : Wd P K mg) : Mkr P w K mg base 3 "Reading" (He.ga K "Reading") (sp_Reading_init K) := by
  have F_check_list := ok_check_list (P := P) (w := w) (base := base) T
  have F_first_wrong_pair := ok_first_wrong_pair (P := P) (w := w) (base := base) T
  have F_require_key := ok_require_key (P := P) (w := w) (base := base) T
  refine Mkr.of T.mk_Reading T.g_Reading T.f_Reading_init c_Reading_init (fun _ _ _ _ _ _ us hl => match us, hl with | [_, _, _], _ => rfl) (fun vs H Q E h => ?_) fun cdv A outer s H vs Q E hr h => ?_
  · obtain ⟨_, _, _, _, _, _, rfl, _⟩ := h
    rfl
  have nd := c_Reading_init.nd
  have hu := hu_of hr
  obtain ⟨x, dx, _, _, l, ps, rfl, hx, ⟨a, rfl, ha⟩, wf, ⟨b, cs, rfl, hb, hcs⟩, pnd, plen, pin, pw, q⟩ := h
  refine ⟨_, pss_cons (ps_expr (pf F_check_list hr (by decide) (pa_cons (pv 1) pa_nil))) (pss_cons (ps_for PassesOwn.never rfl (piLK (K := K) (pv 2)) (pgTK (K := K) (n := 2) rfl (pgs_cons (pg_name (i := 3) nd rfl (by first | exact .inl rfl | exact .inr rfl)) (pgs_cons (pg_name (i := 4) nd rfl (by first | exact .inl rfl | exact .inr rfl)) (pgs_nil)))) (pss_cons (ps_expr (pf F_require_key hr (by decide) (pa_cons (pv 1) (pa_cons (pv 3) pa_nil)))) (pss_one (ps_expr (pf F_require_key hr (by decide) (pa_cons (pv 1) (pa_cons (pv 4) pa_nil))))))) (pss_cons (ps_set (i := 5) nd rfl (by first | exact .inl rfl | exact .inr rfl) (pe_callB cr_sorted rfl T.z_sorted (by decide +kernel) (pa_cons (pv 1) pa_nil))) (pss_cons (ps_setDcT (i := 6) (own := [("x", 3), ("y", 4)]) hu rfl nd rfl rfl (swD_true rfl rfl rfl (by decide +kernel)) (piLK (K := K) (pv 2)) (blkOk_by (N := n_Reading_init) (sc := defScope s_Reading_init) (by decide +kernel)) (fun _ _ _ _ _ => pgTK (K := K) (n := 2) rfl (pgs_cons (pg_name (i := 3) nd rfl (by first | exact .inl rfl | exact .inr rfl)) (pgs_cons (pg_name (i := 4) nd rfl (by first | exact .inl rfl | exact .inr rfl)) (pgs_nil)))) (fun _ _ _ _ _ => pts_nil) (fun _ _ _ _ _ => pe_tup (pa_cons (pv 3) (pa_cons (pv 4) pa_nil))) (fun _ _ _ _ _ => pe_bl)) (pss_cons (ps_set (i := 7) nd rfl (by first | exact .inl rfl | exact .inr rfl) (pf F_first_wrong_pair hr (by decide) (pa_cons (pv 5) (pa_cons (pv 6) pa_nil)))) (pss_cons (ps_if (pt_cmp (pc_notN (pv 7))) (pss_one (ps_never)) (pss_nil)) (pss_cons (ps_fld (pv 0) (pv 5) rfl) (pss_one (ps_fld (pv 0) (pv 6) rfl)))))))), ?_⟩
  have hlen : cs.length ≤ 1000 := by rw [← paired_len hcs]; exact plen
  refine ⟨_, rfl, _, l, rfl, ⟨a, rfl, ha⟩, wf, fun H1 e1 => ?_⟩
  refine ⟨_, rfl, b, rfl, ⟨_, SqL.of (e1 _ _ hb)⟩, for_list (fun i σ H' => ∃ o1 o2, σ = [some (.ref x), some (.ref a), some (.ref b), o1, o2, none, none, none] ∧ Ex H H') ⟨none, none, rfl, e1⟩ (fun i σ H' _ h => SqL.of (h.choose_spec.choose_spec.2 _ _ hb)) ?_ ?_⟩
  · rintro i v2 σ H2 hi ⟨o1, o2, rfl, e2⟩
    obtain ⟨c, p, rfl, hc, hp, hcp⟩ := pair_get hcs hi
    obtain ⟨m1, m2⟩ := pin p (List.mem_of_getElem? hp)
    refine ⟨c, _, rfl, SqT.of (e2 _ _ hcp), rfl, _, _, rfl, _, _, rfl, rfl, ?_⟩
    refine ⟨_, rfl, _, rfl, _, _, rfl, .inl ⟨l, ⟨a, rfl, e2 _ _ ha⟩, m1⟩, fun H3 e3 => ?_⟩
    exact ⟨_, rfl, _, rfl, _, _, rfl, .inl ⟨l, ⟨a, rfl, e3 _ _ (e2 _ _ ha)⟩, m2⟩, fun H4 e4 => ⟨_, _, rfl, e2.trans (e3.trans e4)⟩⟩
  rintro σ H2 ⟨o1, o2, rfl, e2⟩
  refine ⟨_, rfl, a, l, rfl, SqL.of (e2 _ _ ha), Nat.lt_of_le_of_lt wf.len (by decide), fun ns p hperm hs np => ?_⟩
  obtain rfl : ns = srt l := srt_of hperm hs
  have e3 : Ex H (upd H2 p (.lst ((srt l).map V.int))) := Ex.lay e2 np
  have hp : upd H2 p (.lst ((srt l).map V.int)) p = some (.lst ((srt l).map V.int)) := upd_same
  generalize upd H2 p (.lst ((srt l).map V.int)) = H3 at e3 hp
  refine ⟨_, rfl, b, rfl, ⟨_, SqL.of (e3 _ _ hb)⟩, fun D nD => dcT_list (fun i H' => Ex H3 H' ∧ ∃ kvs, H' D = some (.dT kvs) ∧ kvs.map (·.1) = (ps.take i).map keyP) ⟨Ex.lay ex0 nD, [], upd_same, rfl⟩ (fun i H' _ h => SqL.of (h.1 _ _ (e3 _ _ hb))) ?_ ?_⟩
  · rintro i v2 H4 hi ⟨e4, kvs, hD, hk⟩
    obtain ⟨c, p2, rfl, hc, hp2, hcp⟩ := pair_get hcs hi
    refine ⟨c, _, rfl, SqT.of (e4 _ _ (e3 _ _ hcp)), rfl, _, _, rfl, _, _, rfl, rfl, rfl, ?_⟩
    refine ⟨_, rfl, _, rfl, sz20 (show 2 ≤ 1000000 by decide), fun t nt => ⟨t, kvs, keyP p2, rfl, upd_same, (upd_ne (ne_new hD nt)).trans hD, sz20' ?_, ?_⟩⟩
    · have z := congrArg List.length hk
      rw [List.length_map, List.length_map, List.length_take] at z
      omega
    · refine ⟨Evl.Ex.mut (Ex.lay e4 nt) nD, _, upd_same, ?_⟩
      rw [take_snoc hp2]
      exact put_pair hk (nd_takeP pnd hp2)
  · rintro H4 ⟨e4, kvs, hD, hk⟩
    rw [List.length_map, ← paired_len hcs, List.take_length] at hk
    refine ⟨_, rfl, _, rfl, _, D, srt l, ps, kvs, rfl, ⟨p, rfl, e4 _ _ hp⟩, srt_nodup wf.nd, ?_, hD, hk, pw, fun H5 e5 => ?_⟩
    · rw [(srt_perm l).length_eq]
      exact wf.len
    refine ⟨_, rfl, _, rfl, ifF rfl ?_⟩
    have hx5 := e5 _ _ (e4 _ _ (e3 _ _ hx))
    refine ⟨_, rfl, _, rfl, x, _, dx, _, rfl, hx5, T.cl_Reading, T.n_Reading_keys, by decide, ?_⟩
    refine ⟨_, rfl, _, rfl, x, _, dx, _, rfl, upd_same, T.cl_Reading, T.n_Reading_before, (show 1 < 1000 by decide), ?_⟩
    refine q _ ((ExB.of (e3.trans (e4.trans e5))).upd).upd ⟨x, dx, .ref p, D, kvs, rfl, ?_, ⟨p, rfl, ?_⟩, ?_, hk⟩
    · rw [upd_same, show putF "_keys" (V.ref p) [] = [(("_keys" : Str), V.ref p)] from rfl, putF2 (by decide)]
    · have z := e5 _ _ (e4 _ _ hp)
      have ne : p ≠ x := ne_of z hx5 (by intro y; cases y)
      rw [upd_ne ne, upd_ne ne]
      exact z
    · have z := e5 _ _ hD
      have ne : D ≠ x := ne_of z hx5 (by intro y; cases y)
      rw [upd_ne ne, upd_ne ne]
      exact z
theorem lex_anti {p q : Int × Int} (h1 : SrtO.lexB q p = false) (h2 : SrtO.lexB p q = false) : p = q := by
  have a := SrtO.lexB_no.mp h1
  have b := SrtO.lexB_no.mp h2
  obtain ⟨x, y⟩ := p
  obtain ⟨z, w⟩ := q
  simp only at a b
  have e1 : x = z := by omega
  have e2 : y = w := by omega
  rw [e1, e2]
/-- pairs in their order -/
def Asc (ps : List (Int × Int)) : Prop := ps.Pairwise fun x y => SrtO.lexB y x = false
theorem asc_uniq {ps qs : List (Int × Int)} (p : qs.Perm ps) (h1 : Asc qs) (h2 : Asc ps) : qs = ps := by
  induction qs generalizing ps with
  | nil => exact (List.Perm.eq_nil p.symm).symm
  | cons x qs ih =>
    cases ps with
    | nil => exact absurd (List.Perm.eq_nil p) (by simp)
    | cons y ps =>
      have e : x = y := by
        rcases List.mem_cons.mp (p.mem_iff.mp (List.mem_cons_self (a := x))) with e | m
        · exact e
        rcases List.mem_cons.mp (p.mem_iff.mpr (List.mem_cons_self (a := y))) with e | m2
        · exact e.symm
        exact lex_anti ((List.pairwise_cons.mp h1).1 y m2) ((List.pairwise_cons.mp h2).1 x m)
      subst e
      rw [ih p.cons_inv (List.pairwise_cons.mp h1).2 (List.pairwise_cons.mp h2).2]
theorem asc_prs {T : Int → Int → Bool} {ks : List Int} (nd : ks.Nodup) (h : ks.Pairwise (· ≤ ·)) : Asc (prs T ks) := by
  have hs : ks.Pairwise (· < ·) := by
    have z := List.Pairwise.and h nd
    exact z.imp fun {a b} ⟨h1, h2⟩ => by omega
  unfold Asc prs
  rw [List.pairwise_flatMap]
  refine ⟨fun x _ => List.pairwise_map.mpr ((hs.filter _).imp fun {a b} hab => SrtO.lexB_no.mpr (by simp only; omega)), hs.imp fun {a b} hab x hx y hy => ?_⟩
  obtain ⟨c, _, rfl⟩ := List.mem_map.mp hx
  obtain ⟨d, _, rfl⟩ := List.mem_map.mp hy
  exact SrtO.lexB_no.mpr (by simp only; omega)
def sp_Reading_pairs (K : PySem.W.Frag) : Sp := fun vs H Q E => ∃ v ks ps, vs = [v] ∧ RD K H v ks ps ∧ Asc ps ∧ ∀ p cs H', H p = none → Ex H H' → H' p = some (.lst (cs.map V.ref)) → Paired (fun (q : Int × Int) (c : Addr) => H' c = some (.tup [.int q.1, .int q.2])) ps cs → Q (.ref p) H'
theorem ok_Reading_pairs (T : Wd P K mg) : Mt P w K mg base 1 (He.ga K "Reading") "pairs" (sp_Reading_pairs K) := by
  refine Mt.of T.cl_Reading T.m_Reading_pairs T.f_Reading_pairs c_Reading_pairs (fun _ _ _ _ _ _ us hl => match us, hl with | [_], _ => rfl) (fun vs H Q E h => ?_) fun cdv A outer s H vs Q E hr h => ?_
  · obtain ⟨_, _, _, rfl, _⟩ := h
    rfl
  have nd := c_Reading_pairs.nd
  obtain ⟨_, ks, ps, rfl, ⟨a, dx, l, d, kvs, rfl, ha, hl, hd, hk⟩, asc, q⟩ := h
  refine ⟨_, pss_one (ps_ret (pe_callB (cr_sortedDT rfl) rfl T.z_sorted (by decide +kernel) (pa_cons (pe_fld (pv 0) rfl) pa_nil))), ?_⟩
  refine ⟨_, rfl, a, _, dx, _, _, rfl, ha, T.cl_Reading, T.n_Reading_before, rfl, d, kvs, ps, rfl, .inl hd, hk, fun qs cs p hperm hs hc np => ?_⟩
  obtain rfl : qs = ps := asc_uniq hperm hs asc
  exact q p cs _ np (Ex.lay ex0 np) upd_same (Paired.mapP hc fun q c z => (upd_ne (ne_new z np)).trans z)
def sp_before_dict (K : PySem.W.Frag) : Sp := fun vs H Q E => ∃ v ks ps, vs = [v] ∧ RD K H v ks ps ∧ Asc ps ∧ ps.Nodup ∧ ps.length ≤ 1000 ∧ ∀ p kvs H', H p = none → Ex H H' → H' p = some (.dT kvs) → kvs.map (·.1) = ps.map keyP → Q (.ref p) H'
theorem ok_before_dict (T : Wd P K mg) : Fn P w K mg base 2 "before_dict" (sp_before_dict K) := by
  have F_Reading_pairs := ok_Reading_pairs (P := P) (w := w) (base := base) T
  refine Fn.of T.g_before_dict T.f_before_dict c_before_dict (fun _ _ _ _ _ _ us hl => match us, hl with | [_], _ => rfl) (fun vs H Q E h => ?_) fun cdv A outer s H vs Q E hr h => ?_
  · obtain ⟨_, _, _, rfl, _⟩ := h
    rfl
  have nd := c_before_dict.nd
  have hu := hu_of hr
  obtain ⟨_, ks, ps, rfl, hR, asc, pnd, plen, q⟩ := h
  refine ⟨_, pss_one (ps_ret (pe_dcT (ows := [("pair", 1)]) hu rfl nd (piLK (K := K) (pm0 F_Reading_pairs hr (by decide) (pv 0))) (blkOk_by (N := n_before_dict) (sc := defScope s_before_dict) (by decide +kernel)) (fun _ _ _ _ _ => pg_name (i := 1) nd rfl (by first | exact .inl rfl | exact .inr rfl)) (fun _ _ _ _ _ => pts_nil) (fun _ _ _ _ _ => pv 1) (fun _ _ _ _ _ => pe_bl))), ?_⟩
  obtain ⟨a, dx, l, d, kvs0, rfl, ha, hl, hd, hk0⟩ := id hR
  refine ⟨_, rfl, a, dx, _, rfl, ha, rfl, _, ks, ps, rfl, hR, asc, fun b cs H1 _ e1 hb hcs => ?_⟩
  refine ⟨b, rfl, ⟨_, SqL.of hb⟩, fun D nD => dcT_list (fun i H' => Ex H1 H' ∧ ∃ kvs, H' D = some (.dT kvs) ∧ kvs.map (·.1) = (ps.take i).map keyP) ⟨Ex.lay ex0 nD, [], upd_same, rfl⟩ (fun i H' _ h => SqL.of (h.1 _ _ hb)) ?_ ?_⟩
  · rintro i v2 H4 hi ⟨e4, kvs, hD, hk⟩
    obtain ⟨c, p2, rfl, hc, hp2, hcp⟩ := pair_get hcs hi
    refine ⟨rfl, _, rfl, c, kvs, keyP p2, rfl, e4 _ _ hcp, hD, sz20' ?_, ?_⟩
    · have z := congrArg List.length hk
      rw [List.length_map, List.length_map, List.length_take] at z
      omega
    · refine ⟨Evl.Ex.mut e4 nD, _, upd_same, ?_⟩
      rw [take_snoc hp2]
      exact put_pair hk (nd_takeP pnd hp2)
  · rintro H4 ⟨e4, kvs, hD, hk⟩
    rw [List.length_map, ← paired_len hcs, List.take_length] at hk
    exact q D kvs H4 (Evl.fresh_back e1 nD) (e1.trans e4) hD hk
/-- turns over any walk -/
theorem wkG {J : It} {n : Nat} {G : Hp → Prop} {Y : Nat → Hp → V → Hp → Prop} {body : V → Hp → (Hp → Prop) → Prop} {H0 : Hp} {Qd : Hp → Prop} (wk : Walk J n G Y) (Pv : Nat → Hp → Prop) (h0 : Pv 0 H0) (hG : ∀ i H, i ≤ n → Pv i H → G H)
    (hs : ∀ i x H H', i < n → Pv i H → Y i H x H' → body x H' (Pv (i + 1))) (hd : ∀ H, Pv n H → Qd H) :
    ∃ W : Nat → Nat → Hp → Prop, (∃ m, W 0 m H0) ∧ ∀ i m H, W i m H → (J.stop i H ∧ Qd H) ∨ (J.go i H ∧ ∃ Nx : Hp → Prop, (∀ H', Nx H' → ∃ m', m' < m ∧ W (i + 1) m' H') ∧ ∀ x H', J.yld i H x H' → body x H' Nx) := by
  refine ⟨fun i m H => i + m = n ∧ Pv i H, ⟨n, by omega, h0⟩, ?_⟩
  rintro i m H ⟨em, p⟩
  have q := hG i H (by omega) p
  by_cases hlt : i < n
  · exact .inr ⟨wk.goes i H hlt q, Pv (i + 1), fun H' p' => ⟨m - 1, by omega, by omega, p'⟩, fun x H' y => hs i x H H' hlt p (wk.yields i H x H' hlt q y)⟩
  · have e : i = n := by omega
    subst e
    exact .inl ⟨wk.stops H q, hd H p⟩
theorem two_of {f : Nat → Bool} : decide ((2 : Int) ≤ (((List.range 3).filter f).length : Nat)) = ((f 0 && f 1) || (f 0 && f 2) || (f 1 && f 2)) := by
  have e : List.range 3 = [0, 1, 2] := rfl
  rw [e]
  cases h0 : f 0 <;> cases h1 : f 1 <;> cases h2 : f 2 <;> simp [List.filter, h0, h1, h2]
theorem paired_snoc {α β : Type} {F : α → β → Prop} {x : α} {y : β} (r : F x y) : ∀ {l : List α} {m : List β}, Paired F l m → Paired F (l ++ [x]) (m ++ [y])
  | _, _, .nil => .cons r .nil
  | _, _, .cons h t => .cons h (paired_snoc r t)
theorem wf_srt {l : List Int} (h : Wf l) : Wf (srt l) := h.perm (srt_perm l)
theorem srt_srt (l : List Int) : srt (srt l) = srt l := srt_congr (srt_perm l)
theorem pw_rd {S : S3} (ok : S.ok) : Pw (srt S.a) (prs S.rd (srt S.a)) := by
  refine ⟨fun x hx h => ?_, fun x hx y hy ne => ?_⟩
  · have z := (mem_prs.mp h).2.2
    rw [S3.rd_irr] at z
    cases z
  · have z := S3.rd_tot ok (srt_mem.mp hx) (srt_mem.mp hy) ne
    have e1 : decide ((y, x) ∈ prs S.rd (srt S.a)) = S.rd y x := by
      cases h : S.rd y x
      · exact decide_eq_false fun m => by
          have := (mem_prs.mp m).2.2
          rw [h] at this
          cases this
      · exact decide_eq_true (mem_prs.mpr ⟨hy, hx, h⟩)
    have e2 : decide ((x, y) ∈ prs S.rd (srt S.a)) = S.rd x y := by
      cases h : S.rd x y
      · exact decide_eq_false fun m => by
          have := (mem_prs.mp m).2.2
          rw [h] at this
          cases this
      · exact decide_eq_true (mem_prs.mpr ⟨hx, hy, h⟩)
    rw [e1, e2, z]
theorem len144 {n : Nat} (h : n ≤ 12) : n * n ≤ 1000 := Nat.le_trans (Nat.mul_le_mul h h) (by decide)
def sp_read (K : PySem.W.Frag) : Sp := fun vs H Q E => ∃ v S, vs = [v] ∧ ST K H v S ∧ Okw S ∧ ∀ v' H', Ex H H' → RD K H' v' (srt S.a) (prs S.rd (srt S.a)) → Q v' H'
theorem ok_read (T : Wd P K mg) : Fn P w K mg base 5 "read" (sp_read K) := by
  have F_Reading_init := ok_Reading_init (P := P) (w := w) (base := base) T
  have F_State_all_keys := ok_State_all_keys (P := P) (w := w) (base := base) T
  have F_State_lists := ok_State_lists (P := P) (w := w) (base := base) T
  have F_index_of := ok_index_of (P := P) (w := w) (base := base) T
  refine Fn.of T.g_read T.f_read c_read (fun _ _ _ _ _ _ us hl => match us, hl with | [_], _ => rfl) (fun vs H Q E h => ?_) fun cdv A outer s H vs Q E hr h => ?_
  · obtain ⟨_, _, rfl, _⟩ := h
    rfl
  have nd := c_read.nd
  have hu := hu_of hr
  obtain ⟨_, S, rfl, hS, ok, q⟩ := h
  refine ⟨_, pss_cons (ps_set (i := 1) nd rfl (by first | exact .inl rfl | exact .inr rfl) (pe_lc (own := [("order", 4)]) rfl nd (piLK (K := K) (pm0 F_State_lists hr (by decide) (pv 0))) (blkOk_by (N := n_read) (sc := defScope s_read) (by decide +kernel)) (fun _ _ _ _ _ => pg_name (i := 4) nd rfl (by first | exact .inl rfl | exact .inr rfl)) (fun _ _ _ _ _ => pts_nil) (fun _ _ _ _ _ => pf F_index_of hr (by decide) (pa_cons (pv 4) pa_nil)))) (pss_cons (ps_set (i := 2) nd rfl (by first | exact .inl rfl | exact .inr rfl) (pm0 F_State_all_keys hr (by decide) (pv 0))) (pss_cons (ps_setLc2 (i := 3) (own := [("x", 5), ("y", 6)]) (vs1 := [6]) rfl nd rfl rfl (sw_true rfl rfl rfl (by decide +kernel)) (piLK (K := K) (pv 2)) (blkOk_by (N := n_read) (sc := defScope s_read) (by decide +kernel)) (by decide) (fun _ _ _ _ _ => pg_name (i := 5) nd rfl (by first | exact .inl rfl | exact .inr rfl)) (fun _ _ _ _ _ => pts_nil) (fun _ _ _ _ _ => piLK (K := K) (pv 2)) (fun _ _ _ _ _ => pg_name (i := 6) nd rfl (by first | exact .inl rfl | exact .inr rfl)) (fun _ _ _ _ _ => pts_one (pt_cmpR op_ge (pe_callB (lenK (K := K)) rfl T.z_len (by decide +kernel) (pa_cons (pe_lc (own := [("place", 7)]) rfl nd (piLK (K := K) (pv 1)) (blkOk_by (by rfl)) (fun _ _ _ _ _ => pg_name (i := 7) nd rfl (by first | exact .inl rfl | exact .inr rfl)) (fun _ _ _ _ _ => pts_one (pt_cmpR op_lt (pe_dget hu (pv 7) (pv 5) (fun _ _ => rfl)) (pe_dget hu (pv 7) (pv 6) (fun _ _ => rfl)) (nomark _))) (fun _ _ _ _ _ => pv 7)) pa_nil)) (pe_int) (nomark _))) (fun _ _ _ _ _ => pe_tup (pa_cons (pv 5) (pa_cons (pv 6) pa_nil)))) (pss_one (ps_ret (pk F_Reading_init hr (by decide) (pa_cons (pv 2) (pa_cons (pv 3) pa_nil))))))), ?_⟩
  obtain ⟨a, dx, lv, pv', rfl, ha, hlv, hpv⟩ := id hS
  refine ⟨_, rfl, a, dx, _, rfl, ha, rfl, _, S, rfl, hS, fun p x0 y0 z0 H1 _ e1 hp hx hy hz => ?_⟩
  refine ⟨p, rfl, ⟨_, SqL.of hp⟩, fun D nD => lcG walk_list (fun _ => true) (fun i y H' => PL H' y (S.get i)) (fun i y _ _ e r => r.mono e) (fun i y H' ys ys' hD r => ?_) (fun H' e => SqL.of (e _ _ hp)) (show 3 ≤ 1000000 by decide) nD (fun i y H' H'' Pn Pf hi hy2 e hD hp2 hf => ?_) fun ys H2 e2 hD gt => ?_⟩
  · obtain ⟨d, kvs, rfl, hd, hk⟩ := r
    exact ⟨d, kvs, rfl, (upd_ne (ne_of hd hD (by intro z; cases z))).trans hd, hk⟩
  · obtain ⟨rfl, hy2⟩ := hy2
    refine ⟨rfl, ?_⟩
    have hl : LI H'' y (S.get i) := three_get (P := fun i y => LI H'' y (S.get i)) (hx.mono e) (hy.mono e) (hz.mono e) i y hy2
    exact ⟨_, rfl, y, S.get i, rfl, hl, ok.get i, fun p2 H8 _ e8 hP => hp2 rfl _ _ e8 hP⟩
  obtain ⟨hl, hg⟩ := got_all gt
  obtain ⟨d0, d1, d2, rfl⟩ := three_of (hl.trans (by rfl))
  have hP : ∀ i u, [d0, d1, d2][i]? = some u → PL H2 u (S.get i) := fun i u h => hg i u h
  have e02 := e1.trans e2
  refine ⟨_, rfl, a, dx, _, rfl, e02 _ _ ha, rfl, _, S, rfl, hS.mono e02, ok, fun kq H3 _ e3 hkq => ?_⟩
  have e03 := e02.trans e3
  have hD3 := e3 _ _ hD
  have hP3 : ∀ i u, [d0, d1, d2][i]? = some u → PL H3 u (S.get i) := fun i u h => (hP i u h).mono e3
  have kmem : ∀ i x, (srt S.a)[i]? = some x → x ∈ S.a := fun i x h => srt_mem.mp (List.mem_of_getElem? h)
  refine ⟨_, rfl, kq, rfl, ⟨_, SqL.of hkq⟩, fun E1 nE => ?_⟩
  refine wkG walk_list (fun i H' => Ex H3 H' ∧ ∃ cs, H' E1 = some (.lst (cs.map V.ref)) ∧ Paired (fun (q : Int × Int) (c : Addr) => H' c = some (.tup [.int q.1, .int q.2])) (((srt S.a).take i).flatMap fun x => ((srt S.a).filter (S.rd x)).map fun y => (x, y)) cs) ⟨Ex.lay ex0 nE, [], upd_same, .nil⟩ (fun i H' _ h => SqL.of (h.1 _ _ hkq)) ?_ ?_
  · rintro i x2 H4 H4' hi ⟨e4, cs, hE, hcs⟩ ⟨rfl, hx2⟩
    obtain ⟨x, hx3, rfl⟩ := map_get hx2
    refine ⟨rfl, _, rfl, kq, rfl, ⟨_, SqL.of (e4 _ _ hkq)⟩, ?_⟩
    refine wkG walk_list (fun j H' => Ex H3 H' ∧ ∃ cs, H' E1 = some (.lst (cs.map V.ref)) ∧ Paired (fun (q : Int × Int) (c : Addr) => H' c = some (.tup [.int q.1, .int q.2])) ((((srt S.a).take i).flatMap fun x => ((srt S.a).filter (S.rd x)).map fun y => (x, y)) ++ (((srt S.a).take j).filter (S.rd x)).map fun y => (x, y)) cs) ⟨e4, cs, hE, by simpa using hcs⟩ (fun j H' _ h => SqL.of (h.1 _ _ hkq)) ?_ ?_
    · rintro j y2 H5 H5' hj ⟨e5, cs5, hE5, hcs5⟩ ⟨rfl, hy2⟩
      obtain ⟨y, hy3, rfl⟩ := map_get hy2
      have mx := kmem _ _ hx3
      have my := kmem _ _ hy3
      refine ⟨rfl, ?_⟩
      refine ⟨_, rfl, D, rfl, ⟨_, SqL.of (e5 _ _ hD3)⟩, fun F nF => lcG walk_list (fun k => bf (S.get k) x y) (fun k u H' => True) (fun _ _ _ _ _ _ => trivial) (fun _ _ _ _ _ _ _ => trivial) (fun H' e => SqL.of (e _ _ (e5 _ _ hD3))) (show 3 ≤ 1000000 by decide) nF (fun k u H' H'' Pn Pf hk hu e hF hp2 hf => ?_) fun ys H6 e6 hF gt2 => ?_⟩
      · obtain ⟨rfl, hu⟩ := hu
        obtain ⟨d, kvs, rfl, hd, hkv⟩ := (hP3 k u hu).mono (e5.trans e)
        have mx' : x ∈ S.get k := (ok.ok.mem k).mpr mx
        have my' : y ∈ S.get k := (ok.ok.mem k).mpr my
        refine ⟨rfl, _, rfl, _, rfl, d, .int ((S.get k).idxOf x : Nat), rfl, ?_, _, rfl, _, rfl, d, .int ((S.get k).idxOf y : Nat), rfl, ?_, _, _, rfl, rfl, _, rfl, ?_⟩
        · have z := DGet.k (k := Sum.inl x) hd
          rw [hkv x, if_pos mx'] at z
          exact z
        · have z := DGet.k (k := Sum.inl y) hd
          rw [hkv y, if_pos my'] at z
          exact z
        · have eb : decide (((S.get k).idxOf x : Nat) < (((S.get k).idxOf y : Nat) : Int)) = bf (S.get k) x y := by
            unfold bf
            simp
          cases hb : bf (S.get k) x y
          · exact ifF (eb.trans hb) (hf hb _ ex0)
          · exact ifT (eb.trans hb) ⟨_, rfl, hp2 hb _ _ ex0 trivial⟩
      · have cnt : decide ((2 : Int) ≤ (ys.length : Nat)) = S.rd x y := by
          rw [gt2.1]
          exact two_of
        refine ⟨F, ys, rfl, .inl (SqL.of hF), _, _, rfl, rfl, _, rfl, ?_⟩
        have e36 := e5.trans e6
        have hE6 := e6 _ _ hE5
        have hcs6 : Paired (fun (q : Int × Int) (c : Addr) => H6 c = some (.tup [.int q.1, .int q.2])) _ cs5 := Paired.mapP hcs5 fun _ _ z => e6 _ _ z
        cases hr2 : S.rd x y
        · refine ifF (cnt.trans hr2) ⟨e36, cs5, hE6, ?_⟩
          rw [take_snoc hy3, List.filter_append, show [y].filter (S.rd x) = [] by simp [hr2], List.append_nil]
          exact hcs6
        · refine ifT (cnt.trans hr2) ⟨_, rfl, _, rfl, sz20 (show 2 ≤ 1000000 by decide), fun t nt => ?_⟩
          have hEt : upd H6 t (.tup [.int x, .int y]) E1 = some (.lst (cs5.map V.ref)) := (upd_ne (ne_new hE6 nt)).trans hE6
          have ntE : t ≠ E1 := fun z => by rw [z, hE6] at nt; cases nt
          refine ⟨cs5.map V.ref, hEt, ?_, Evl.Ex.mut (Ex.lay e36 nt) nE, cs5 ++ [t], ?_, ?_⟩
          · have z := paired_len hcs6
            rw [List.length_map, ← z]
            have z2 := prs_len S.rd (srt S.a)
            have hw := (wf_srt ok.wf).len
            have z3 : ((((srt S.a).take i).flatMap fun x => ((srt S.a).filter (S.rd x)).map fun y => (x, y)) ++ (((srt S.a).take j).filter (S.rd x)).map fun y => (x, y)).length ≤ 1000 := by
              rw [List.length_append, List.length_map, List.length_flatMap]
              have h1 : ((((srt S.a).take i).map fun x => (((srt S.a).filter (S.rd x)).map fun y => (x, y)).length).sum) ≤ 12 * 12 := by
                have : ∀ m : List Int, m.length ≤ 12 → (m.map fun x => (((srt S.a).filter (S.rd x)).map fun y => (x, y)).length).sum ≤ m.length * 12 := by
                  intro m
                  induction m with
                  | nil => intro _; simp
                  | cons c m ih =>
                    intro hm
                    have hm' : m.length ≤ 12 := by rw [List.length_cons] at hm; omega
                    have := ih hm'
                    have h3 : (((srt S.a).filter (S.rd c)).map fun y => (c, y)).length ≤ 12 := by
                      rw [List.length_map]
                      exact Nat.le_trans (List.length_filter_le ..) hw
                    rw [List.map_cons, List.sum_cons, List.length_cons]
                    omega
                have hl : ((srt S.a).take i).length ≤ 12 := by rw [List.length_take]; omega
                have := this _ hl
                omega
              have h2 : (((srt S.a).take j).filter (S.rd x)).length ≤ 12 := by
                refine Nat.le_trans (List.length_filter_le ..) ?_
                rw [List.length_take]
                omega
              omega
            exact sz20' (by omega)
          · rw [upd_same, List.map_append]
            rfl
          · rw [take_snoc hy3, List.filter_append, show [y].filter (S.rd x) = [y] by simp [hr2], List.map_append, ← List.append_assoc]
            refine paired_snoc ?_ (Paired.mapP hcs6 fun q c z => ?_)
            · rw [upd_ne ntE]
              exact upd_same
            · rw [upd_ne (ne_of z hE6 (by intro y; cases y)), upd_ne (ne_new z nt)]
              exact z
    · rintro H5 ⟨e5, cs5, hE5, hcs5⟩
      refine ⟨e5, cs5, hE5, ?_⟩
      rw [List.length_map, List.take_length] at hcs5
      rw [take_snoc hx3, List.flatMap_append]
      simpa using hcs5
  · rintro H5 ⟨e5, cs5, hE5, hcs5⟩
    rw [List.length_map, List.take_length] at hcs5
    refine ⟨_, rfl, _, rfl, fun x dx2 nx ndx ne => ?_⟩
    have eM : Ex H5 (upd (upd H5 dx2 (.own x)) x (.ins (cR K) dx2 [])) := Ex.made nx ndx ne
    refine ⟨x, dx2, _, _, srt S.a, prs S.rd (srt S.a), rfl, upd_same, ⟨kq, rfl, eM _ _ (e5 _ _ hkq)⟩, wf_srt ok.wf, ⟨E1, cs5, rfl, eM _ _ hE5, Paired.mapP hcs5 fun _ _ z => eM _ _ z⟩, prs_nodup (srt_nodup ok.wf.nd), Nat.le_trans (prs_len _ _) (len144 (wf_srt ok.wf).len), fun p hp => ?_, ?_, fun H7 e7 hR => ⟨rfl, ?_⟩⟩
    · obtain ⟨u, v⟩ := p
      exact ⟨(mem_prs.mp hp).1, (mem_prs.mp hp).2.1⟩
    · rw [srt_srt]
      exact pw_rd ok.ok
    · rw [srt_srt] at hR
      exact q _ _ (e03.trans (e5.trans (ExB.back eM nx e7))) hR
end
end K38
end
section
set_option Elab.async false
set_option linter.all false
set_option maxRecDepth 100000
set_option maxHeartbeats 4000000
/-! The text's own errors: made, told apart. -/
namespace K38
open PySem PySem.Spec PyProof.Rows L2
section
variable {P : Program} {w : World} {K : PySem.W.Frag} {mg : Str → Option Value} {C : Addr}
theorem cls_of (h : clsB K C = true) : ∃ nm q N bs bm sn sub ab col dd k0 k1 k2 k3 k5, K.lookup C = some (excClassObj nm q C N bs bm true sn sub ab col dd k0 k1 k2 k3 k5 "ValueError.__new__") ∧ PySem.HandSPX.refsVE bm = true := by
  unfold clsB at h
  split at h
  · rename_i t d cd sl e
    split at h
    · rename_i x C' bm k0 k1 k2 k3 n k5 hm hs
      simp only [Bool.and_eq_true, decide_eq_true_eq, Bool.not_eq_true'] at h
      obtain ⟨rfl, rfl, rfl, hdel, hdict, href⟩ := h
      obtain ⟨nm, bs, mro, ns, qn, hd, sn, sb, ab, col, del⟩ := cd
      obtain ⟨sl⟩ := sl
      simp only at hm hs hdel hdict
      subst hm hs hdel hdict
      exact ⟨_, _, _, _, _, _, _, _, _, _, _, _, _, _, _, e, href⟩
    · cases h
  · cases h
/-- the message that an error's __init__ makes -/
def msgE (st : Stmt) : Expr := match defBody st with
  | .Expr (.Call _ [e] _ _) _ :: _ => e
  | _ => .Constant .none 0 ⟨0, 0, 0, 0⟩
/-- the shape of the text of such an __init__ -/
structure XiShape (qual f : Str) (st : Stmt) : Prop where
  sh : ∃ p0 p1 ap cp ep q1 q2 q3 q4 : Pos, defBody st = PySem.XiX.xiBody p0 p1 ap cp ep q1 q2 q3 q4 (msgE st) f ∧
    (∀ (kV doc pm cdv ct : Value) (an : Option Addr) (cc : Addr) (x v : Value), bindArgs (PySem.W.ksFn "__init__" qual (defArgs st) (PySem.XiX.xiBody p0 p1 ap cp ep q1 q2 q3 q4 (msgE st) f) (defScope st) .none kV doc pm an cdv ct cc) ⟨[x, v], []⟩ = pure [(("self" : Str), x), (f, v)]) ∧
    (∃ pl : Env → Sem Bool, ∀ env, eval (.Call (.Attribute (.Call (.Name "super" p0) [] [] p1) "__init__" ap) [msgE st] [] cp) env = (do
      let ov ← attributeBase (.Call (.Name "super" p0) [] [] p1) "__init__" env (eval (.Call (.Name "super" p0) [] [] p1) env)
      standAt ap.atName
      let (fx, first) ← holding [ov] (getMethod ov "__init__" (pl env))
      callWith cp fx first (backTo cp (starEach [msgE st] env)) [])) ∧ (∀ env, starEach [msgE st] env = (false, eval (msgE st) env) :: starEach [] env) ∧
    (∀ env, swapsWith (.Name f q3) (some (.Attribute (.Name "self" q1) f q2)) q4.line env = pure false)
  ar : ∃ ar, ((defArgs st).posonlyargs ++ (defArgs st).args).head? = some ar ∧ ar.arg = "self"
  k : (defScope st).kind = .function
  co : (defScope st).isCoroutine = false
  g : (defScope st).isGenerator = false
  cl : ∀ x ∈ (defScope st).names, x.2 ≠ .cell
  s1 : (defScope st).names.lookup ("self" : Str) = some .local
  s2 : (defScope st).names.lookup f = some .local
  s3 : (defScope st).names.lookup ("super" : Str) = some .globalImplicit
  s4 : (defScope st).names.lookup ("__class__" : Str) = some .free
  fs : (f == ("self" : Str)) = false
  fdb : (f == ("__debug__" : Str)) = false
theorem shSide : XiShape "InvalidSide.__init__" "side" s_InvalidSide_init := ⟨⟨_, _, _, _, _, _, _, _, _, rfl, fun _ _ _ _ _ _ _ _ _ => rfl, ⟨_, fun _ => rfl⟩, fun _ => rfl, fun _ => rfl⟩, ⟨_, rfl, rfl⟩, rfl, rfl, rfl, by decide +kernel, by decide +kernel, by decide +kernel, by decide +kernel, by decide +kernel, by decide, by decide⟩
theorem shSwap : XiShape "InvalidSwap.__init__" "step" s_InvalidSwap_init := ⟨⟨_, _, _, _, _, _, _, _, _, rfl, fun _ _ _ _ _ _ _ _ _ => rfl, ⟨_, fun _ => rfl⟩, fun _ => rfl, fun _ => rfl⟩, ⟨_, rfl, rfl⟩, rfl, rfl, rfl, by decide +kernel, by decide +kernel, by decide +kernel, by decide +kernel, by decide +kernel, by decide, by decide⟩
theorem shAud : XiShape "AudibleSwap.__init__" "step" s_AudibleSwap_init := ⟨⟨_, _, _, _, _, _, _, _, _, rfl, fun _ _ _ _ _ _ _ _ _ => rfl, ⟨_, fun _ => rfl⟩, fun _ => rfl, fun _ => rfl⟩, ⟨_, rfl, rfl⟩, rfl, rfl, rfl, by decide +kernel, by decide +kernel, by decide +kernel, by decide +kernel, by decide +kernel, by decide, by decide⟩
/-- what errB says -/
structure ErrF (K : PySem.W.Frag) (C : Addr) (f : Str) : Prop where
  cls : clsB K C = true
  cel : celB K C = true
  fil : filB K C "/claim/cut.py" = true
  sa : PySem.W.findIn K (.ref C) "__setattr__" = some (some (.builtin "object.__setattr__"))
  xf : L2.xfB K C = true
  noN : PySem.W.findIn K (.ref C) f = some none
  iC : PySem.W.findIn K (.ref C) "__init__" = some (some (.ref (iniA K C)))
  tC : PySem.W.typeIn K (.ref (iniA K C)) = some (.type "function")
  kC : PySem.W.keepIn K (.ref C) = true
  tyC : PySem.W.typeIn K (.ref C) = some (.type "type")
  ca : PySem.W.findIn K (.ref C) "__class__" = some (some (.builtin "object.__class__"))
  mO : PySem.W.mroIn K C (.type "object") = some true
  mC : PySem.W.mroIn K C (.ref C) = some true
  sC : PySem.W.ks_superIn K C C "__init__" = some (some (.builtin "ValueError.__init__"))
  vC : PySem.W.subIn K (.ref C) (.type "ValueError") = some true
theorem errF_of {f : Str} (h : errB K C f = true) : ErrF K C f := by
  unfold errB at h
  simp only [List.all_cons, List.all_nil, id, Bool.and_eq_true, decide_eq_true_eq, Bool.and_true] at h
  obtain ⟨h1, h2, h3, h4, h5, h6, h7, h8, h9, h10, h11, h12, h13, h14, h15⟩ := h
  exact ⟨h1, h2, h3, h4, h5, h6, h7, h8, h9, h10, h11, h12, h13, h14, h15⟩
theorem ErrF.exC {f : Str} (F : ErrF K C f) (T : Top K mg) : ExcC K C :=
  let x := xfB_ok F.xf
  ⟨x.ga, x.gg, x.exC, x.hdC, F.ca, T.gtC, T.tkC, F.mO⟩
theorem xi_of {nm f qual : Str} {st : Stmt} (T : Wd P K mg) (F : ErrF K (He.ga K nm) f) (hF : fnB K (He.ga K nm) qual = true) (hO : obsI K nm = valI qual st) (gC : mg nm = some (.ref (He.ga K nm))) (sh : XiShape qual f st) :
    PySem.XiX.XiTxt P K mg nm (He.ga K nm) (iniA K (He.ga K nm)) f (msgE st) := by
  refine ⟨gC, T.z_super, cls_of F.cls, F.sa, F.noN, F.iC, F.tC, F.kC, (xfB_ok F.xf).exC, F.vC, F.tyC, F.mC, F.sC, of_decide_eq_true (T.exAll 7 rfl), sh.fs, sh.fdb, ?_, T.ps⟩
  unfold obsI valI at hO
  unfold fnB at hF
  have hcel := F.cel
  have hfil := F.fil
  unfold celB at hcel
  unfold filB at hfil
  generalize hc : celA K (He.ga K nm) = cc at hF hcel
  generalize hd : codA K (He.ga K nm) = cda at hfil
  unfold celA at hc
  unfold codA at hd
  split at hO
  · rename_i oc od fd osl e
    rw [e] at hF hc hd
    obtain ⟨fn, fq, fp, fb, fsc, fg, fcl, fdv, fkv, fdoc, fpm, fan, fcode, fct, fbl⟩ := fd
    simp only [Option.some.injEq, Prod.mk.injEq] at hO
    obtain ⟨rfl, rfl, rfl, rfl, rfl, rfl, rfl, rfl⟩ := hO
    simp only [Bool.and_eq_true, decide_eq_true_eq] at hF
    obtain ⟨hcode, rfl⟩ := hF
    obtain ⟨p0, p1, ap, cp, ep, q1, q2, q3, q4, hb, hbind, hcall, hstar, hsw⟩ := sh.sh
    split at hcel
    · rename_i cl cld D csl e2
      obtain rfl := of_decide_eq_true hcel
      split at hfil
      · rename_i ccl cdd vs ccs e3
        split at hfil
        · rename_i file tf e4
          obtain rfl := of_decide_eq_true hfil
          have hcd : fcode = .ref cda := by
            cases fcode with
            | ref c => exact congrArg Value.ref hd
            | _ =>
              exfalso
              simp [PySem.W.codeIn] at hcode
          subst hcd
          rw [hb] at e
          exact ⟨oc, ccl, cl, od, cdd, cld, fkv, fdoc, fpm, fct, fan, cda, cc, osl, ccs, csl, vs, _, tf, _, _, _, p0, p1, ap, cp, ep, q1, q2, q3, q4, e, hcode, e3, e4, T.pf, e2, sh.ar, fun x v => hbind _ _ _ _ _ _ _ x v, sh.k, sh.co, sh.g, sh.cl, sh.s1, sh.s2, sh.s3, sh.s4, hcall, hstar, hsw⟩
        · cases hfil
      · cases hfil
    · cases hcel
  · cases hO
/-- what the tests say of the three errors -/
structure Tst (K : PySem.W.Frag) : Prop where
  x_InvalidSide_InvalidSide : PySem.W.exmOne K (.ref (He.ga K "InvalidSide")) (.ref (He.ga K "InvalidSide")) = some true
  x_InvalidSide_InvalidSwap : PySem.W.exmOne K (.ref (He.ga K "InvalidSide")) (.ref (He.ga K "InvalidSwap")) = some false
  x_InvalidSide_AudibleSwap : PySem.W.exmOne K (.ref (He.ga K "InvalidSide")) (.ref (He.ga K "AudibleSwap")) = some false
  x_InvalidSide_DriftError : PySem.W.exmOne K (.ref (He.ga K "InvalidSide")) (.ref (He.ga K "DriftError")) = some true
  k_InvalidSide_InvalidSide : PySem.W.kitOne K (.ref (He.ga K "InvalidSide")) (.ref (He.ga K "InvalidSide")) = some true
  k_InvalidSide_InvalidSwap : PySem.W.kitOne K (.ref (He.ga K "InvalidSide")) (.ref (He.ga K "InvalidSwap")) = some false
  k_InvalidSide_AudibleSwap : PySem.W.kitOne K (.ref (He.ga K "InvalidSide")) (.ref (He.ga K "AudibleSwap")) = some false
  k_InvalidSide_DriftError : PySem.W.kitOne K (.ref (He.ga K "InvalidSide")) (.ref (He.ga K "DriftError")) = some true
  k_InvalidSide_ValueError : PySem.W.kitOne K (.ref (He.ga K "InvalidSide")) (.type "ValueError") = some true
  x_InvalidSwap_InvalidSide : PySem.W.exmOne K (.ref (He.ga K "InvalidSwap")) (.ref (He.ga K "InvalidSide")) = some false
  x_InvalidSwap_InvalidSwap : PySem.W.exmOne K (.ref (He.ga K "InvalidSwap")) (.ref (He.ga K "InvalidSwap")) = some true
  x_InvalidSwap_AudibleSwap : PySem.W.exmOne K (.ref (He.ga K "InvalidSwap")) (.ref (He.ga K "AudibleSwap")) = some false
  x_InvalidSwap_DriftError : PySem.W.exmOne K (.ref (He.ga K "InvalidSwap")) (.ref (He.ga K "DriftError")) = some true
  k_InvalidSwap_InvalidSide : PySem.W.kitOne K (.ref (He.ga K "InvalidSwap")) (.ref (He.ga K "InvalidSide")) = some false
  k_InvalidSwap_InvalidSwap : PySem.W.kitOne K (.ref (He.ga K "InvalidSwap")) (.ref (He.ga K "InvalidSwap")) = some true
  k_InvalidSwap_AudibleSwap : PySem.W.kitOne K (.ref (He.ga K "InvalidSwap")) (.ref (He.ga K "AudibleSwap")) = some false
  k_InvalidSwap_DriftError : PySem.W.kitOne K (.ref (He.ga K "InvalidSwap")) (.ref (He.ga K "DriftError")) = some true
  k_InvalidSwap_ValueError : PySem.W.kitOne K (.ref (He.ga K "InvalidSwap")) (.type "ValueError") = some true
  x_AudibleSwap_InvalidSide : PySem.W.exmOne K (.ref (He.ga K "AudibleSwap")) (.ref (He.ga K "InvalidSide")) = some false
  x_AudibleSwap_InvalidSwap : PySem.W.exmOne K (.ref (He.ga K "AudibleSwap")) (.ref (He.ga K "InvalidSwap")) = some false
  x_AudibleSwap_AudibleSwap : PySem.W.exmOne K (.ref (He.ga K "AudibleSwap")) (.ref (He.ga K "AudibleSwap")) = some true
  x_AudibleSwap_DriftError : PySem.W.exmOne K (.ref (He.ga K "AudibleSwap")) (.ref (He.ga K "DriftError")) = some true
  k_AudibleSwap_InvalidSide : PySem.W.kitOne K (.ref (He.ga K "AudibleSwap")) (.ref (He.ga K "InvalidSide")) = some false
  k_AudibleSwap_InvalidSwap : PySem.W.kitOne K (.ref (He.ga K "AudibleSwap")) (.ref (He.ga K "InvalidSwap")) = some false
  k_AudibleSwap_AudibleSwap : PySem.W.kitOne K (.ref (He.ga K "AudibleSwap")) (.ref (He.ga K "AudibleSwap")) = some true
  k_AudibleSwap_DriftError : PySem.W.kitOne K (.ref (He.ga K "AudibleSwap")) (.ref (He.ga K "DriftError")) = some true
  k_AudibleSwap_ValueError : PySem.W.kitOne K (.ref (He.ga K "AudibleSwap")) (.type "ValueError") = some true
theorem Top.tst (T : Top K mg) : Tst K := by
  have h := T.exAll 14 rfl
  unfold tstB at h
  simp only [List.all_cons, List.all_nil, id, Bool.and_eq_true, decide_eq_true_eq, Bool.and_true] at h
  obtain ⟨h0, h1, h2, h3, h4, h5, h6, h7, h8, h9, h10, h11, h12, h13, h14, h15, h16, h17, h18, h19, h20, h21, h22, h23, h24, h25, h26⟩ := h
  exact ⟨h0, h1, h2, h3, h4, h5, h6, h7, h8, h9, h10, h11, h12, h13, h14, h15, h16, h17, h18, h19, h20, h21, h22, h23, h24, h25, h26⟩
theorem xiSide (T : Wd P K mg) : PySem.XiX.XiTxt P K mg "InvalidSide" (He.ga K "InvalidSide") (iniA K (He.ga K "InvalidSide")) "side" (msgE s_InvalidSide_init) :=
  xi_of T (errF_of (T.exAll 8 rfl)) (T.exAll 11 rfl) (List.cons.inj T.ob).1 T.g_InvalidSide shSide
theorem xiSwap (T : Wd P K mg) : PySem.XiX.XiTxt P K mg "InvalidSwap" (He.ga K "InvalidSwap") (iniA K (He.ga K "InvalidSwap")) "step" (msgE s_InvalidSwap_init) :=
  xi_of T (errF_of (T.exAll 9 rfl)) (T.exAll 12 rfl) (List.cons.inj (List.cons.inj T.ob).2).1 T.g_InvalidSwap shSwap
theorem xiAud (T : Wd P K mg) : PySem.XiX.XiTxt P K mg "AudibleSwap" (He.ga K "AudibleSwap") (iniA K (He.ga K "AudibleSwap")) "step" (msgE s_AudibleSwap_init) :=
  xi_of T (errF_of (T.exAll 10 rfl)) (T.exAll 13 rfl) (List.cons.inj (List.cons.inj (List.cons.inj T.ob).2).2).1 T.g_AudibleSwap shAud
abbrev ok0 : V → Prop := fun v => v = .int 0
/-- a side's name whose message can be made -/
def okN (x : Str) : Prop := (reprText x).length ≤ 1000 ∧ (Str.empty ++ ("there is no side " : Str) ++ reprText x).length ≤ 1000
abbrev okS : V → Prop := fun v => ∃ x : Str, v = .str x ∧ okN x
theorem msgSwap (v : V) (u : Value) (h : ok0 v) (r : RelV v u) : PySem.XiX.MsgOk P w "step" (msgE s_InvalidSwap_init) u := by
  subst h
  obtain ⟨t, rfl⟩ := r
  exact msg3 (by decide) (by decide) (sz20 (by decide +kernel)) (sz20 (by decide +kernel)) (sz20 (by decide +kernel))
theorem msgAud (v : V) (u : Value) (h : ok0 v) (r : RelV v u) : PySem.XiX.MsgOk P w "step" (msgE s_AudibleSwap_init) u := by
  subst h
  obtain ⟨t, rfl⟩ := r
  exact msg3 (by decide) (by decide) (sz20 (by decide +kernel)) (sz20 (by decide +kernel)) (sz20 (by decide +kernel))
theorem msgSide (v : V) (u : Value) (h : okS v) (r : RelV v u) : PySem.XiX.MsgOk P w "side" (msgE s_InvalidSide_init) u := by
  obtain ⟨x, rfl, h1, h2⟩ := h
  obtain ⟨t, rfl⟩ := r
  exact msg2 (by decide) (sz20 (by omega)) (sz20 (by decide +kernel)) (sz20 (by omega))
/-- the wish of a caller that hears of the error nm, which keeps v as f -/
def Er (K : PySem.W.Frag) (nm f : Str) (v : V) (H : Hp) (E : XK) : Prop := ∀ d H', Ex H H' → H d = none → H' d = some (.xd [(f, v)]) → E (.ref (He.ga K nm)) (some d) H'
theorem Er.mono {nm f : Str} {v : V} {H H' : Hp} {E : XK} (e : Ex H H') (h : Er K nm f v H E) : Er K nm f v H' E := fun d H2 e2 nd hd => h d H2 (e.trans e2) (Evl.fresh_back e nd) hd
end
end K38
end
section
set_option Elab.async false
set_option linter.all false
set_option maxRecDepth 100000
set_option maxHeartbeats 4000000
/-! The walk, third part: swaps, settling. -/
namespace K38
open PySem PySem.Spec PyProof.Rows L2
section
variable {P : Program} {w : World} {K : PySem.W.Frag} {mg : Str → Option Value} {base : Heap}
def rLenS (K : PySem.W.Frag) : List V → Hp → VK → Prop := fun xs H Q => ∃ v S, xs = [v] ∧ ST K H v S ∧ S.a.length ≤ 12 ∧ ∀ H', Ex H H' → Q (.int (S.a.length : Nat)) H'
/-- len(state) -/
theorem lenS {X : Cx} {k j : Nat} (F : Mt X.prog X.w X.K X.mg X.base k (cS K) "__len__" (sp_State_len K)) (hr : Room j X.A) (hk : k + 1 ≤ j) : CallR X (.builtin "len") (rLenS K) := by
  obtain ⟨f, fd, ps, hc, hm, F, b⟩ := F.ex
  intro pins s σ H xs us Q I r h
  obtain ⟨v, S, rfl, hS, hl, q⟩ := h
  obtain ⟨a, dx, l, p, rfl, ha, _⟩ := id hS
  exact call_lenO F (hr.mono hk) hm.at_ hm.fn b pins s σ H _ us Q I r ⟨a, dx, _, rfl, ha, _, S, rfl, hS, fun H' e => ⟨_, rfl, by omega, q H' e⟩⟩
theorem Top.repl (T : Top K mg) : ∃ u, ClX.CRead K (cS K) (.type "type") ∧ ClX.CVal K (cS K) (.type "type") "REPLICAS" (.int 3) u := by
  have h := T.exAll 2 rfl
  unfold cvB at h
  simp only [Bool.and_eq_true, decide_eq_true_eq] at h
  obtain ⟨h1, h2, h3⟩ := h
  split at h3
  · rename_i u e
    exact ⟨u, ⟨h1, h2⟩, ⟨e, He.relB_ok h3⟩⟩
  · cases h3
def oths : Nat → Nat × Nat
  | 0 => (1, 2)
  | 1 => (0, 2)
  | _ => (0, 1)
theorem oths_lt (k : Nat) : (oths k).1 < 3 ∧ (oths k).2 < 3 := by
  match k with
  | 0 => decide
  | 1 => decide
  | n + 2 => exact ⟨(by decide : 0 < 3), (by decide : 1 < 3)⟩
theorem oths_get (S : S3) (k : Nat) : (S.get (oths k).1, S.get (oths k).2) = S.oth k := by
  match k with
  | 0 => rfl
  | 1 => rfl
  | n + 2 => rfl
def sp_is_swap (K : PySem.W.Frag) : Sp := fun vs H Q E => ∃ v t S k i, vs = [v, .ref t] ∧ ST K H v S ∧ Okw S ∧ SqT K H t [.int (k : Nat), .int i] ∧ k < 3 ∧ ∀ H', Ex H H' → Q (.bl (decide (0 ≤ i ∧ i + 2 ≤ (S.a.length : Nat)))) H'
theorem ok_is_swap (T : Wd P K mg) : Fn P w K mg base 3 "is_swap" (sp_is_swap K) := by
  have F_State_len := ok_State_len (P := P) (w := w) (base := base) T
  refine Fn.of T.g_is_swap T.f_is_swap c_is_swap (fun _ _ _ _ _ _ us hl => match us, hl with | [_, _], _ => rfl) (fun vs H Q E h => ?_) fun cdv A outer s H vs Q E hr h => ?_
  · obtain ⟨_, _, _, _, _, rfl, _⟩ := h
    rfl
  have nd := c_is_swap.nd
  obtain ⟨_, t, S, k, i, rfl, hS, ok, ht, hk, q⟩ := h
  refine ⟨_, pss_cons (ps_asg (pv 1) (pgTK (K := K) (n := 2) rfl (pgs_cons (pg_name (i := 2) nd rfl (by first | exact .inl rfl | exact .inr rfl)) (pgs_cons (pg_name (i := 3) nd rfl (by first | exact .inl rfl | exact .inr rfl)) (pgs_nil))))) (pss_cons (ps_set (i := 4) nd rfl (by first | exact .inl rfl | exact .inr rfl) (pe_op op_sub (pe_callB (lenS F_State_len hr (by decide)) rfl T.z_len (by decide +kernel) (pa_cons (pv 0) pa_nil)) (pe_int))) (pss_one (ps_ret (pe_and (pe_chain op_le op_lt (pe_int) (pv 2) (ClX.pe_cval (pe_glob (v := .ref (He.ga K "State")) rfl T.g_State rfl))) (pe_one (pe_chain op_le op_le (pe_int) (pv 3) (pv 4))))))), ?_⟩
  refine ⟨_, rfl, t, _, rfl, ht, rfl, _, _, rfl, _, _, rfl, rfl, ?_⟩
  refine ⟨_, rfl, _, S, rfl, hS, ok.wf.len, fun H1 e1 => ⟨_, _, rfl, rfl, ?_⟩⟩
  obtain ⟨u, cr, cv⟩ := T.repl
  have z := q H1 e1
  refine ⟨_, rfl, _, _, rfl, rfl, _, rfl, ifT (decide_eq_true (by omega)) ⟨cS K, _, _, u, rfl, cr, cv, _, _, rfl, rfl, _, rfl, ifT (decide_eq_true (by omega)) ?_⟩⟩
  refine ⟨_, rfl, _, _, rfl, rfl, _, rfl, ?_⟩
  by_cases h0 : 0 ≤ i
  · refine ifT (decide_eq_true h0) ⟨_, rfl, _, _, rfl, rfl, ?_⟩
    have e : decide (i ≤ ((S.a.length : Nat) : Int) - 2) = decide (0 ≤ i ∧ i + 2 ≤ ((S.a.length : Nat) : Int)) := decide_eq_decide.mpr ⟨fun h => ⟨h0, by omega⟩, fun h => by omega⟩
    rw [← e] at z
    exact z
  · refine ifF (decide_eq_false h0) ?_
    rw [decide_eq_false (fun h => h0 h.1)] at z
    exact z
def sp_swap_pair (K : PySem.W.Frag) : Sp := fun vs H Q E => ∃ v t S k i, vs = [v, .ref t] ∧ ST K H v S ∧ Okw S ∧ SqT K H t [.int (k : Nat), .int i] ∧ k < 3 ∧ (¬ (0 ≤ i ∧ i + 2 ≤ (S.a.length : Nat)) → Er K "InvalidSwap" "step" (.int 0) H E) ∧ ∀ n : Nat, i = n → n + 1 < S.a.length → ∀ p H', Ex H H' → H' p = some (.tup [.int ((S.get k).getD n 0), .int ((S.get k).getD (n + 1) 0)]) → Q (.ref p) H'
theorem ok_swap_pair (T : Wd P K mg) : Fn P w K mg base 4 "swap_pair" (sp_swap_pair K) := by
  have F_State_list_of := ok_State_list_of (P := P) (w := w) (base := base) T
  have F_is_swap := ok_is_swap (P := P) (w := w) (base := base) T
  refine Fn.ofX T.g_swap_pair T.f_swap_pair c_swap_pair (fun _ _ _ _ _ _ us hl => match us, hl with | [_, _], _ => rfl) (fun vs H Q E h => ?_) fun cdv A outer s H vs Q E hr h => ?_
  · obtain ⟨_, _, _, _, _, rfl, _⟩ := h
    rfl
  have nd := c_swap_pair.nd
  have tk : Takes (cxOf (L2.CX P w) P w K mg base n_swap_pair "swap_pair" (defScope s_swap_pair) (He.ga K "swap_pair") cdv A outer s H E) (wE E) := takes_of rfl rfl rfl rfl
  obtain ⟨_, t, S, k, i, rfl, hS, ok, ht, hk, qe, q⟩ := h
  refine ⟨_, pss_cons (ps_if (pt_not (pt_val (pf F_is_swap hr (by decide) (pa_cons (pv 0) (pa_cons (pv 1) pa_nil))))) (pss_one (ps_raise rfl tk (pmk_xi (xiSwap T) msgSwap hr (pa_cons pe_int pa_nil) rfl))) (pss_nil)) (pss_cons (ps_asg (pv 1) (pgTK (K := K) (n := 2) rfl (pgs_cons (pg_name (i := 2) nd rfl (by first | exact .inl rfl | exact .inr rfl)) (pgs_cons (pg_name (i := 3) nd rfl (by first | exact .inl rfl | exact .inr rfl)) (pgs_nil))))) (pss_cons (ps_set (i := 4) nd rfl (by first | exact .inl rfl | exact .inr rfl) (pm F_State_list_of hr (by decide) (pv 0) (pa_cons (pv 2) pa_nil))) (pss_one (ps_ret (pe_tup (pa_cons (pe_ix (ixLK (K := K)) (pv 4) (pv 3) (fun _ _ => rfl)) (pa_cons (pe_ix (ixLK (K := K)) (pv 4) (pe_op op_add (pv 3) (pe_int)) (fun _ _ => rfl)) pa_nil))))))), ?_⟩
  refine ⟨_, rfl, _, rfl, _, t, S, k, i, rfl, hS, ok, ht, hk, fun H1 e1 => ⟨_, rfl, ?_⟩⟩
  by_cases h : 0 ≤ i ∧ i + 2 ≤ ((S.a.length : Nat) : Int)
  · rw [decide_eq_true h]
    obtain ⟨n, rfl⟩ := Int.eq_ofNat_of_zero_le h.1
    have hn : n + 1 < S.a.length := by omega
    refine ifF rfl ⟨_, rfl, t, _, rfl, Evl.ex_t e1 ht, rfl, _, _, rfl, _, _, rfl, rfl, ?_⟩
    obtain ⟨a, dx, l, p, rfl, ha, _⟩ := id hS
    refine ⟨_, rfl, a, dx, _, rfl, e1 _ _ ha, rfl, _, rfl, _, S, k, rfl, hS.mono e1, hk, fun o H2 _ e2 ho => ?_⟩
    have hl := ok.ok.len k
    refine ⟨_, rfl, _, rfl, o, _, _, _, rfl, rfl, SqL.of ho, atI_nat (j := n) (get_map (getD_at (by omega))), ?_⟩
    refine ⟨_, rfl, _, rfl, _, _, rfl, rfl, o, _, _, _, rfl, rfl, SqL.of ho, atI_nat (j := n + 1) (get_map (getD_at (by omega))), sz20 (show 2 ≤ 1000000 by decide), fun p np => ?_⟩
    exact q n rfl hn p _ (e1.trans (Ex.lay e2 np)) upd_same
  · rw [decide_eq_false h]
    refine ifT rfl ⟨_, rfl, rfl, fun d nd => ?_⟩
    exact (qe h).mono e1 d _ (Ex.lay ex0 nd) nd upd_same
def sp_other_replicas (K : PySem.W.Frag) : Sp := fun vs H Q E => ∃ k : Nat, vs = [.int k] ∧ k < 3 ∧ ∀ p H', H p = none → Ex H H' → H' p = some (.lst [.int ((oths k).1 : Nat), .int ((oths k).2 : Nat)]) → Q (.ref p) H'
theorem ok_other_replicas (T : Wd P K mg) : Fn P w K mg base 1 "_other_replicas" (sp_other_replicas K) := by
  refine Fn.of T.g_other_replicas T.f_other_replicas c_other_replicas (fun _ _ _ _ _ _ us hl => match us, hl with | [_], _ => rfl) (fun vs H Q E h => ?_) fun cdv A outer s H vs Q E hr h => ?_
  · obtain ⟨_, rfl, _⟩ := h
    rfl
  have nd := c_other_replicas.nd
  obtain ⟨k, rfl, hk, q⟩ := h
  refine ⟨_, pss_one (ps_ret (pe_lc (own := [("other", 1)]) rfl nd (pi_range1 rfl T.z_range (pa_cons (ClX.pe_cval (pe_glob (v := .ref (He.ga K "State")) rfl T.g_State rfl)) pa_nil)) (blkOk_by (N := n_other_replicas) (sc := defScope s_other_replicas) (by decide +kernel)) (fun _ _ _ _ _ => pg_name (i := 1) nd rfl (by first | exact .inl rfl | exact .inr rfl)) (fun _ _ _ _ _ => pts_one (pt_cmpR op_ne (pv 1) (pv 0) (nomark _))) (fun _ _ _ _ _ => pv 1))), ?_⟩
  obtain ⟨u, cr, cv⟩ := T.repl
  refine ⟨cS K, _, _, u, rfl, cr, cv, 3, rfl, by decide, by decide, fun D nD => lcG walk_range (fun i => decide (i ≠ k)) (fun i y _ => y = .int ((i : Nat) : Int)) (fun _ _ _ _ _ r => r) (fun _ _ _ _ _ _ r => r) (fun _ _ => trivial) (show 3 ≤ 1000000 by decide) nD (fun i y H' H'' Pn Pf hi hy e hD hp hf => ?_) fun ys H2 e2 hD gt => ?_⟩
  · obtain ⟨rfl, rfl⟩ := hy
    refine ⟨rfl, _, rfl, _, rfl, rfl, _, rfl, ?_⟩
    by_cases h : i = k
    · refine ifF ?_ (hf (by simp [h]) _ ex0)
      have e : V.int (0 + (i : Int)) = V.int (k : Int) := by rw [h, Int.zero_add]
      rw [decide_eq_true e]
      rfl
    · refine ifT ?_ ⟨_, rfl, hp (by simp [h]) _ _ ex0 (by show V.int (0 + (i : Int)) = V.int (i : Int); rw [Int.zero_add])⟩
      have e : ¬ V.int (0 + (i : Int)) = V.int (k : Int) := fun z => by
        have := V.int.inj z
        omega
      rw [decide_eq_false e]
      rfl
  · have e := got_val gt
    subst e
    refine q D H2 nD e2 ?_
    rw [hD]
    match k, hk with
    | 0, _ => rfl
    | 1, _ => rfl
    | 2, _ => rfl
def sp_is_silent (K : PySem.W.Frag) : Sp := fun vs H Q E => ∃ v t S k i, vs = [v, .ref t] ∧ ST K H v S ∧ Okw S ∧ SqT K H t [.int (k : Nat), .int i] ∧ k < 3 ∧ (¬ (0 ≤ i ∧ i + 2 ≤ (S.a.length : Nat)) → Er K "InvalidSwap" "step" (.int 0) H E) ∧ ∀ n : Nat, i = n → n + 1 < S.a.length → ∀ H', Ex H H' → Q (.bl (S.sil k n)) H'
theorem ok_is_silent (T : Wd P K mg) : Fn P w K mg base 5 "is_silent" (sp_is_silent K) := by
  have F_State_says := ok_State_says (P := P) (w := w) (base := base) T
  have F_other_replicas := ok_other_replicas (P := P) (w := w) (base := base) T
  have F_swap_pair := ok_swap_pair (P := P) (w := w) (base := base) T
  refine Fn.ofX T.g_is_silent T.f_is_silent c_is_silent (fun _ _ _ _ _ _ us hl => match us, hl with | [_, _], _ => rfl) (fun vs H Q E h => ?_) fun cdv A outer s H vs Q E hr h => ?_
  · obtain ⟨_, _, _, _, _, rfl, _⟩ := h
    rfl
  have nd := c_is_silent.nd
  have tk : Takes (cxOf (L2.CX P w) P w K mg base n_is_silent "is_silent" (defScope s_is_silent) (He.ga K "is_silent") cdv A outer s H E) (wE E) := takes_of rfl rfl rfl rfl
  obtain ⟨_, t, S, k, i, rfl, hS, ok, ht, hk, qe, q⟩ := h
  refine ⟨_, pss_cons (ps_asg (pfE F_swap_pair hr (by decide) tk (pa_cons (pv 0) (pa_cons (pv 1) pa_nil))) (pgTK (K := K) (n := 2) rfl (pgs_cons (pg_name (i := 2) nd rfl (by first | exact .inl rfl | exact .inr rfl)) (pgs_cons (pg_name (i := 3) nd rfl (by first | exact .inl rfl | exact .inr rfl)) (pgs_nil))))) (pss_cons (ps_asg (pf F_other_replicas hr (by decide) (pa_cons (pe_ix (ixTK (K := K)) (pv 1) (pe_int) (fun _ _ => rfl)) pa_nil)) (pgLK (K := K) (n := 2) rfl (pgs_cons (pg_name (i := 4) nd rfl (by first | exact .inl rfl | exact .inr rfl)) (pgs_cons (pg_name (i := 5) nd rfl (by first | exact .inl rfl | exact .inr rfl)) (pgs_nil))))) (pss_one (ps_ret (pe_cmpR op_eq (pm F_State_says hr (by decide) (pv 0) (pa_cons (pv 4) (pa_cons (pv 2) (pa_cons (pv 3) pa_nil)))) (pm F_State_says hr (by decide) (pv 0) (pa_cons (pv 5) (pa_cons (pv 2) (pa_cons (pv 3) pa_nil)))) (nomark _))))), ?_⟩
  refine ⟨_, rfl, _, rfl, _, t, S, k, i, rfl, hS, ok, ht, hk, qe, fun n hn hlt p H1 e1 hp => ?_⟩
  have hl := ok.ok.len k
  have mx : (S.get k).getD n 0 ∈ S.a := (ok.ok.mem k).mp (List.mem_of_getElem? (getD_at (by omega)))
  have my : (S.get k).getD (n + 1) 0 ∈ S.a := (ok.ok.mem k).mp (List.mem_of_getElem? (getD_at (by omega)))
  refine ⟨p, _, rfl, SqT.of hp, rfl, _, _, rfl, _, _, rfl, rfl, ?_⟩
  refine ⟨_, rfl, t, _, _, _, rfl, rfl, Evl.ex_t e1 ht, atI_nat (j := 0) rfl, k, rfl, hk, fun o H2 _ e2 ho => ?_⟩
  refine ⟨o, _, rfl, SqL.of ho, rfl, _, _, rfl, _, _, rfl, rfl, ?_⟩
  obtain ⟨a, dx, l, pv', rfl, ha, _⟩ := id hS
  have e12 := e1.trans e2
  refine ⟨_, rfl, a, dx, _, rfl, e12 _ _ ha, rfl, _, rfl, _, rfl, _, rfl, _, S, (oths k).1, _, _, rfl, hS.mono e12, ok.ok, (oths_lt k).1, mx, my, fun H3 e3 => ?_⟩
  have e13 := e12.trans e3
  refine ⟨_, rfl, a, dx, _, rfl, e13 _ _ ha, rfl, _, rfl, _, rfl, _, rfl, _, S, (oths k).2, _, _, rfl, hS.mono e13, ok.ok, (oths_lt k).2, mx, my, fun H4 e4 => ?_⟩
  refine ⟨rfl, ?_⟩
  have z := q n hn hlt H4 (e13.trans e4)
  unfold S3.sil at z
  rw [← oths_get S k] at z
  have eb : ∀ a b : Bool, decide (V.bl a = V.bl b) = (a == b) := by decide
  rw [← eb] at z
  exact z
def sp_swapped_state (K : PySem.W.Frag) : Sp := fun vs H Q E => ∃ v t S k n, vs = [v, .ref t] ∧ ST K H v S ∧ Okw S ∧ SqT K H t [.int (k : Nat), .int (n : Nat)] ∧ k < 3 ∧ n + 1 < S.a.length ∧ ∀ v' H', Ex H H' → ST K H' v' (S.set k (exch (S.get k) n)) → Q v' H'
theorem ok_swapped_state (T : Wd P K mg) : Fn P w K mg base 6 "swapped_state" (sp_swapped_state K) := by
  have F_State_list_of := ok_State_list_of (P := P) (w := w) (base := base) T
  have F_State_with_list := ok_State_with_list (P := P) (w := w) (base := base) T
  have F_swap_at := ok_swap_at (P := P) (w := w) (base := base) T
  refine Fn.of T.g_swapped_state T.f_swapped_state c_swapped_state (fun _ _ _ _ _ _ us hl => match us, hl with | [_, _], _ => rfl) (fun vs H Q E h => ?_) fun cdv A outer s H vs Q E hr h => ?_
  · obtain ⟨_, _, _, _, _, rfl, _⟩ := h
    rfl
  have nd := c_swapped_state.nd
  obtain ⟨_, t, S, k, n, rfl, hS, ok, ht, hk, hn, q⟩ := h
  refine ⟨_, pss_cons (ps_asg (pv 1) (pgTK (K := K) (n := 2) rfl (pgs_cons (pg_name (i := 2) nd rfl (by first | exact .inl rfl | exact .inr rfl)) (pgs_cons (pg_name (i := 3) nd rfl (by first | exact .inl rfl | exact .inr rfl)) (pgs_nil))))) (pss_one (ps_ret (pm F_State_with_list hr (by decide) (pv 0) (pa_cons (pv 2) (pa_cons (pf F_swap_at hr (by decide) (pa_cons (pm F_State_list_of hr (by decide) (pv 0) (pa_cons (pv 2) pa_nil)) (pa_cons (pv 3) pa_nil))) pa_nil))))), ?_⟩
  refine ⟨_, rfl, t, _, rfl, ht, rfl, _, _, rfl, _, _, rfl, rfl, ?_⟩
  obtain ⟨a, dx, l, pv', rfl, ha, _⟩ := id hS
  have hl := ok.ok.len k
  refine ⟨_, rfl, a, dx, _, rfl, ha, rfl, _, rfl, _, rfl, a, dx, _, rfl, ha, rfl, _, rfl, _, S, k, rfl, hS, hk, fun o H1 _ e1 ho => ?_⟩
  refine ⟨_, rfl, _, _, n, rfl, ⟨o, rfl, ho⟩, ok.get k, by omega, fun p H2 _ e2 hp => ?_⟩
  have e12 := e1.trans e2
  exact ⟨_, S, k, _, _, rfl, hS.mono e12, ok, hk, ⟨p, rfl, hp⟩, exch_perm (by omega), fun v' H3 e3 h3 => q v' H3 (e12.trans e3) h3⟩
def sp_apply_swap (K : PySem.W.Frag) : Sp := fun vs H Q E => ∃ v t S k i, vs = [v, .ref t] ∧ ST K H v S ∧ Okw S ∧ SqT K H t [.int (k : Nat), .int i] ∧ k < 3 ∧ (¬ (0 ≤ i ∧ i + 2 ≤ (S.a.length : Nat)) → Er K "InvalidSwap" "step" (.int 0) H E) ∧ ∀ n : Nat, i = n → n + 1 < S.a.length → (S.sil k n = false → Er K "AudibleSwap" "step" (.int 0) H E) ∧ (S.sil k n = true → ∀ v' H', Ex H H' → ST K H' v' (S.set k (exch (S.get k) n)) → Q v' H')
theorem ok_apply_swap (T : Wd P K mg) : Fn P w K mg base 7 "apply_swap" (sp_apply_swap K) := by
  have F_is_silent := ok_is_silent (P := P) (w := w) (base := base) T
  have F_swapped_state := ok_swapped_state (P := P) (w := w) (base := base) T
  refine Fn.ofX T.g_apply_swap T.f_apply_swap c_apply_swap (fun _ _ _ _ _ _ us hl => match us, hl with | [_, _], _ => rfl) (fun vs H Q E h => ?_) fun cdv A outer s H vs Q E hr h => ?_
  · obtain ⟨_, _, _, _, _, rfl, _⟩ := h
    rfl
  have nd := c_apply_swap.nd
  have tk : Takes (cxOf (L2.CX P w) P w K mg base n_apply_swap "apply_swap" (defScope s_apply_swap) (He.ga K "apply_swap") cdv A outer s H E) (wE E) := takes_of rfl rfl rfl rfl
  obtain ⟨_, t, S, k, i, rfl, hS, ok, ht, hk, qe, q⟩ := h
  refine ⟨_, pss_cons (ps_if (pt_not (pt_val (pfE F_is_silent hr (by decide) tk (pa_cons (pv 0) (pa_cons (pv 1) pa_nil))))) (pss_one (ps_raise rfl tk (pmk_xi (xiAud T) msgAud hr (pa_cons pe_int pa_nil) rfl))) (pss_nil)) (pss_one (ps_ret (pf F_swapped_state hr (by decide) (pa_cons (pv 0) (pa_cons (pv 1) pa_nil))))), ?_⟩
  refine ⟨_, rfl, _, rfl, _, t, S, k, i, rfl, hS, ok, ht, hk, qe, fun n hn hlt H1 e1 => ⟨_, rfl, ?_⟩⟩
  obtain ⟨qa, qs⟩ := q n hn hlt
  cases h : S.sil k n
  · refine ifT rfl ⟨_, rfl, rfl, fun d nd => ?_⟩
    exact (qa h).mono e1 d _ (Ex.lay ex0 nd) nd upd_same
  · refine ifF rfl ⟨_, rfl, _, rfl, _, t, S, k, n, rfl, hS.mono e1, ok, by rw [← hn]; exact Evl.ex_t e1 ht, hk, hlt, fun v' H2 e2 h2 => qs h v' H2 (e1.trans e2) h2⟩
theorem exch_lt {l : List Int} {i j : Nat} (hi : i ≤ l.length) (h : j < i) : (exch l i)[j]? = l[j]? := by
  unfold exch
  rw [List.getElem?_append_left (by rw [List.length_take]; omega), List.getElem?_take_of_lt h]
def sp_home_list (K : PySem.W.Frag) : Sp := fun vs H Q E => ∃ v u ks ps Tr l, vs = [v, u] ∧ RD K H v ks ps ∧ Asc ps ∧ ps.Nodup ∧ ps.length ≤ 1000 ∧ LI H u l ∧ Gd Tr l ∧ l.length ≤ 12 ∧ (∀ x ∈ l, ∀ y ∈ l, decide ((x, y) ∈ ps) = Tr x y) ∧ ∀ p H', H p = none → Ex H H' → H' p = some (.lst ((hm Tr l).map V.int)) → Q (.ref p) H'
theorem ok_home_list (T : Wd P K mg) : Fn P w K mg base 3 "home_list" (sp_home_list K) := by
  have F_before_dict := ok_before_dict (P := P) (w := w) (base := base) T
  refine Fn.of T.g_home_list T.f_home_list c_home_list (fun _ _ _ _ _ _ us hl => match us, hl with | [_, _], _ => rfl) (fun vs H Q E h => ?_) fun cdv A outer s H vs Q E hr h => ?_
  · obtain ⟨_, _, _, _, _, _, rfl, _⟩ := h
    rfl
  have nd := c_home_list.nd
  have hu := hu_of hr
  obtain ⟨v, _, ks, ps, Tr, l, rfl, hR, asc, pnd, plen, ⟨u0, rfl, hu0⟩, gd, llen, hT, q⟩ := h
  refine ⟨_, pss_cons (ps_set (i := 2) nd rfl (by first | exact .inl rfl | exact .inr rfl) (pf F_before_dict hr (by decide) (pa_cons (pv 0) pa_nil))) (pss_cons (ps_set (i := 3) nd rfl (by first | exact .inl rfl | exact .inr rfl) (pe_callTy (listK (K := K)) rfl T.z_list (by decide +kernel) (pa_cons (pv 1) pa_nil))) (pss_cons (ps_set (i := 4) nd rfl (by first | exact .inl rfl | exact .inr rfl) (pe_int)) (pss_cons (ps_while PassesOwn.never (pt_cmpR op_lt (pv 4) (pe_op op_sub (pe_callB (lenK (K := K)) rfl T.z_len (by decide +kernel) (pa_cons (pv 3) pa_nil)) (pe_int)) (nomark _)) (pss_one (ps_if (pt_cmp (pc_din hu (pe_tup (pa_cons (pe_ix (ixLK (K := K)) (pv 3) (pe_op op_add (pv 4) (pe_int)) (fun _ _ => rfl)) (pa_cons (pe_ix (ixLK (K := K)) (pv 3) (pv 4) (fun _ _ => rfl)) pa_nil))) (pv 2))) (pss_cons (ps_asg (pe_tup (pa_cons (pe_ix (ixLK (K := K)) (pv 3) (pe_op op_add (pv 4) (pe_int)) (fun _ _ => rfl)) (pa_cons (pe_ix (ixLK (K := K)) (pv 3) (pv 4) (fun _ _ => rfl)) pa_nil))) (pgTK (K := K) (n := 2) rfl (pgs_cons (pg_sub (pv 3) (pv 4) set_list) (pgs_cons (pg_sub (pv 3) (pe_op op_add (pv 4) (pe_int)) set_list) (pgs_nil))))) (pss_one (ps_set (i := 4) nd rfl (by first | exact .inl rfl | exact .inr rfl) (pe_callB (call_max2 rfl) rfl T.z_max (by decide +kernel) (pa_cons (pe_op op_sub (pv 4) (pe_int)) (pa_cons (pe_int) pa_nil)))))) (pss_one (ps_set (i := 4) nd rfl (by first | exact .inl rfl | exact .inr rfl) (pe_op op_add (pv 4) (pe_int))))))) (pss_one (ps_ret (pv 3)))))), ?_⟩
  refine ⟨_, rfl, _, ks, ps, rfl, hR, asc, pnd, plen, fun b kvs H1 _ e1 hb hk => ?_⟩
  refine ⟨_, rfl, u0, _, rfl, .inl (SqL.of (e1 _ _ hu0)), fun h nh => ?_⟩
  refine ⟨fun m σ H' => ∃ (cur : List Int) (i : Nat), m = 2 * ds Tr cur + (l.length - i) ∧ σ = [some v, some (.ref u0), some (.ref b), some (.ref h), some (.int (i : Nat))] ∧ Ex H1 H' ∧ H' h = some (.lst (cur.map V.int)) ∧ Gd Tr cur ∧ hm Tr cur = hm Tr l ∧ cur.length = l.length ∧ (∀ x ∈ cur, x ∈ l) ∧ (i = 0 ∨ i + 1 ≤ l.length) ∧ ∀ j, j < i → ∀ x y, cur[j]? = some x → cur[j + 1]? = some y → Tr y x = false, ⟨_, l, 0, rfl, rfl, Ex.lay ex0 nh, upd_same, gd, rfl, rfl, fun _ h => h, .inl rfl, fun j hj => absurd hj (Nat.not_lt_zero _)⟩, ?_⟩
  rintro m σ H2 ⟨cur, i, rfl, rfl, e2, hh, gc, hmc, hlen, hmem, hi, hpre⟩
  refine ⟨_, rfl, _, rfl, h, _, rfl, .inl (SqL.of hh), _, _, rfl, rfl, _, _, rfl, rfl, _, rfl, ?_⟩
  have hlm : (((cur.map V.int).length : Nat) : Int) = (l.length : Int) := by rw [List.length_map, hlen]
  by_cases c : i + 1 < cur.length
  · refine ifT (decide_eq_true (by omega)) ⟨fun σ' H' => ∃ m', m' < 2 * ds Tr cur + (l.length - i) ∧ ∃ (cur : List Int) (i : Nat), m' = 2 * ds Tr cur + (l.length - i) ∧ σ' = [some v, some (.ref u0), some (.ref b), some (.ref h), some (.int (i : Nat))] ∧ Ex H1 H' ∧ H' h = some (.lst (cur.map V.int)) ∧ Gd Tr cur ∧ hm Tr cur = hm Tr l ∧ cur.length = l.length ∧ (∀ x ∈ cur, x ∈ l) ∧ (i = 0 ∨ i + 1 ≤ l.length) ∧ ∀ j, j < i → ∀ x y, cur[j]? = some x → cur[j + 1]? = some y → Tr y x = false, fun _ _ h => h, ?_⟩
    have ga := getD_at (l := cur) (i := i) (by omega)
    have gb := getD_at (l := cur) (i := i + 1) c
    generalize hxa : cur.getD i 0 = xa at ga
    generalize hxb : cur.getD (i + 1) 0 = xb at gb
    have ma := hmem _ (List.mem_of_getElem? ga)
    have mb := hmem _ (List.mem_of_getElem? gb)
    refine ⟨_, rfl, _, rfl, _, _, rfl, rfl, h, _, _, _, rfl, rfl, SqL.of hh, atI_nat (j := i + 1) (get_map gb), _, rfl, _, rfl, h, _, _, _, rfl, rfl, SqL.of hh, atI_nat (j := i) (get_map ga), sz20 (show 2 ≤ 1000000 by decide), fun t nt => ?_⟩
    have e3 : Ex H1 (upd H2 t (.tup [.int xb, .int xa])) := Ex.lay e2 nt
    have hh3 : upd H2 t (.tup [.int xb, .int xa]) h = some (.lst (cur.map V.int)) := (upd_ne (ne_new hh nt)).trans hh
    have ht3 : upd H2 t (.tup [.int xb, .int xa]) t = some (.tup [.int xb, .int xa]) := upd_same
    generalize upd H2 t (.tup [.int xb, .int xa]) = H3 at e3 hh3 ht3
    refine ⟨_, rfl, b, _, rfl, DGet.t (k := keyP (xb, xa)) (e3 _ _ hb) ht3, _, rfl, ?_⟩
    rw [has_pair hk, hT _ mb _ ma]
    cases hr2 : Tr xb xa
    · refine ifF rfl ⟨_, rfl, _, _, rfl, rfl, ?_⟩
      refine ⟨2 * ds Tr cur + (l.length - (i + 1)), by omega, cur, i + 1, rfl, rfl, e3, hh3, gc, hmc, hlen, hmem, .inr (by omega), fun j hj x y hx hy => ?_⟩
      by_cases ej : j = i
      · subst ej
        rw [ga] at hx
        rw [gb] at hy
        cases hx
        cases hy
        exact hr2
      · exact hpre j (by omega) x y hx hy
    · refine ifT rfl ⟨_, rfl, _, rfl, _, _, rfl, rfl, h, _, _, _, rfl, rfl, SqL.of hh3, atI_nat (j := i + 1) (get_map gb), _, rfl, _, rfl, h, _, _, _, rfl, rfl, SqL.of hh3, atI_nat (j := i) (get_map ga), sz20 (show 2 ≤ 1000000 by decide), fun t2 nt2 => ?_⟩
      have hh4 : upd H3 t2 (.tup [.int xb, .int xa]) h = some (.lst (cur.map V.int)) := (upd_ne (ne_new hh3 nt2)).trans hh3
      have e4 : Ex H1 (upd H3 t2 (.tup [.int xb, .int xa])) := Ex.lay e3 nt2
      have ht4 : upd H3 t2 (.tup [.int xb, .int xa]) t2 = some (.tup [.int xb, .int xa]) := upd_same
      generalize upd H3 t2 (.tup [.int xb, .int xa]) = H4 at e4 hh4 ht4
      refine ⟨t2, _, rfl, SqT.of ht4, rfl, _, _, rfl, _, rfl, _, rfl, h, _, _, i, rfl, rfl, hh4, ixN_nat (by rw [List.length_map]; omega), ?_⟩
      rw [map_set]
      refine ⟨_, _, rfl, _, rfl, _, rfl, _, _, rfl, rfl, h, _, _, i + 1, rfl, rfl, upd_same, ixN_nat (by rw [List.length_map, List.length_set]; exact c), rfl, ?_⟩
      rw [upd_upd, map_set, ← hxa, ← hxb, exch_set c]
      have hT2 : ∀ a b, cur[i]? = some a → cur[i + 1]? = some b → Tr b a = true := fun a b h1 h2 => by
        rw [ga] at h1
        rw [gb] at h2
        cases h1
        cases h2
        exact hr2
      obtain ⟨g2, hm2⟩ := gc.step c hT2
      have hds := ds_step gc c hT2
      refine ⟨_, rfl, _, _, rfl, rfl, _, _, rfl, ?_⟩
      have ei : (if (0 : Int) > (i : Int) - 1 then (0 : Int) else (i : Int) - 1) = ((i - 1 : Nat) : Int) := by
        by_cases h0 : i = 0
        · subst h0
          rfl
        · rw [if_neg (by omega)]
          omega
      rw [ei]
      refine ⟨2 * ds Tr (exch cur i) + (l.length - (i - 1)), by omega, exch cur i, i - 1, rfl, rfl, Evl.Ex.mut e4 nh, upd_same, g2, hm2.trans hmc, (exch_len c).trans hlen, fun x hx => hmem x ((exch_perm c).mem_iff.mp hx), ?_, fun j hj x y hx hy => ?_⟩
      · omega
      · rw [exch_lt (by omega) (by omega)] at hx hy
        exact hpre j (by omega) x y hx hy
  · refine ifF (decide_eq_false (by omega)) ⟨_, rfl, ?_⟩
    have hs : stl Tr cur := stl_of fun j x y hx hy => hpre j (by
      have := (List.getElem?_eq_some_iff.mp hy).1
      omega) x y hx hy
    have ec : cur = hm Tr l := (stl_hm hs).symm.trans hmc
    rw [ec] at hh
    exact q h H2 (Evl.fresh_back e1 nh) (e1.trans e2) hh
/-- a def with a keyword default -/
structure FnD (P : Program) (w : World) (K : PySem.W.Frag) (mg : Str → Option Value) (base : Heap) (k : Nat) (x : Str) (dvs : List V) (sp : Sp) : Prop where
  ex : ∃ (f : Addr) (fd : FuncData) (ps : List Str) (ds : List Value), FnOk P w K mg base (L2.CX P w) k f fd ps sp ∧ mg x = some (.ref f) ∧ PySem.W.keepIn K (.ref f) = true ∧ Binds K fd ps ds ∧ Vals dvs ds
theorem FnD.of {x : Str} {params : Arguments} {body : List Stmt} {scope : Scope} {f : Addr} {N ps : List Str} {k : Nat} {sp : Sp} {dvs : List V} {kws : List (Str × V)} (g : mg x = some (.ref f)) (F : ∃ fd, FunD K x x params body scope [] kws f fd) (S : FnScope N ps scope)
    (b : ∀ fd, FunD K x x params body scope [] kws f fd → ∃ ds, Vals dvs ds ∧ Binds K fd ps ds) (len : ∀ vs H Q E, sp vs H Q E → vs.length = ps.length)
    (hb : ∀ (cdv : Value) (A : Around) (outer : List Env) (s : Shared) (H : Hp) (vs : List V) (Q : VK) (E : XK), Room k (A.deeper (envOfC x scope s.heap.objs.size f cdv)) → sp vs H Q E →
      ∃ t, PSs (cxOf (L2.CX P w) P w K mg base N x scope f cdv A outer s H E).nox body t ∧ t { nx := fun _ H' => Q .non H', rt := Q } (start N vs) H) : FnD P w K mg base (k + 1) x dvs sp := by
  obtain ⟨fd, F⟩ := F
  obtain ⟨ds, h1, h2⟩ := b fd F
  exact ⟨f, fd, ps, ds, F.ok S len fun cdv A outer s H vs Q E hr h => let ⟨t, p, q⟩ := hb cdv A outer s H vs Q E hr h; ⟨t, p.nox, q⟩, g, F.kp, h2, h1⟩
theorem pfD {X : Cx} {k j : Nat} {x : Str} {sp : Sp} {dvs : List V} {p pos : Pos} {e : Expr} {es : List Expr} {t : TA} (c : FnD X.prog X.w X.K X.mg X.base k x dvs sp) (hr : Room j X.A) (hk : k ≤ j) (ha : PA X (e :: es) t) (hg : Gl X x := by rfl)
    (hdb : (x == ("__debug__" : Str)) = false := by decide) (he : starEach (e :: es) X.env = (false, eval e X.env) :: starEach es X.env := by rfl) (hpl : (backTo pos (starEach es X.env)).any (·.1) = false := by rfl) :
    PE X (.Call (.Name x p) (e :: es) [] pos) (tCall sp dvs E0 t) := by
  obtain ⟨f, fd, ps, ds, F, hm, kp, b, hd⟩ := c.ex
  exact pe_call F (hr.mono hk) hg hm kp b hd pass00 ha hdb he hpl
theorem settle_binds {f : Addr} {fd : FuncData} {v : V} (F : FunD K "settle" "settle" (defArgs s_settle) (defBody s_settle) (defScope s_settle) [] [(PySem.Str.ofString "replicas", v)] f fd) : ∃ ds, Vals [v] ds ∧ Binds K fd ["state", "replicas"] ds :=
  F.binds0 1 (by simp) rfl fun D doc pm an cdv ct us ks hu hk => match us, ks, hu, hk with
    | [_], [_], _, _ => ⟨_, _, _, _, _, _, rfl, rfl, rfl⟩
theorem Top.dflt (T : Top K mg) (H : Hp) : SqT K H (kwAt ("settle", none) "replicas" K) [.int 0, .int 1, .int 2] := by
  have h := T.exAll 1 rfl
  split at h
  · rename_i c d its n sl e
    simp only [Bool.and_eq_true, decide_eq_true_eq] at h
    obtain ⟨rfl, h2, h3⟩ := h
    exact .inr ⟨_, its, n, e, rfl, rfl, h2, He.relAll_ok h3⟩
  · cases h
/-- the state while it is settled -/
def upTo (S : S3) : Nat → S3
  | 0 => S
  | 1 => ⟨hm S.rd S.a, S.b, S.c⟩
  | 2 => ⟨hm S.rd S.a, hm S.rd S.b, S.c⟩
  | _ => S.homes
theorem upTo_step (S : S3) {i : Nat} (h : i < 3) : (upTo S i).get i = S.get i ∧ (upTo S i).set i (hm S.rd (S.get i)) = upTo S (i + 1) := by
  match i, h with
  | 0, _ => exact ⟨rfl, rfl⟩
  | 1, _ => exact ⟨rfl, rfl⟩
  | 2, _ => exact ⟨rfl, rfl⟩
theorem upTo_ok {S : S3} (ok : Okw S) {i : Nat} (h : i < 3) : Okw (upTo S i) := by
  have k0 : Okw (upTo S 1) := (upTo_step S (i := 0) (by decide)).2 ▸ ok.set (k := 0) (hm_perm ..)
  match i, h with
  | 0, _ => exact ok
  | 1, _ => exact k0
  | 2, _ => exact (upTo_step S (i := 1) (by decide)).2 ▸ k0.set (k := 1) (hm_perm ..)
theorem dec_prs {T : Int → Int → Bool} {ks : List Int} {x y : Int} (hx : x ∈ ks) (hy : y ∈ ks) : decide ((x, y) ∈ prs T ks) = T x y := by
  cases h : T x y
  · exact decide_eq_false fun m => by
      have := (mem_prs.mp m).2.2
      rw [h] at this
      cases this
  · exact decide_eq_true (mem_prs.mpr ⟨hx, hy, h⟩)
theorem rep3i {i : Nat} {x : V} (h : [V.int 0, V.int 1, V.int 2][i]? = some x) : i < 3 ∧ x = .int (i : Nat) := by
  match i, h with
  | 0, h => exact ⟨by decide, (Option.some.inj h).symm⟩
  | 1, h => exact ⟨by decide, (Option.some.inj h).symm⟩
  | 2, h => exact ⟨by decide, (Option.some.inj h).symm⟩
  | n + 3, h => cases h
def sp_settle (K : PySem.W.Frag) : Sp := fun vs H Q E => ∃ v t S, vs = [v, .ref t] ∧ SqT K H t [.int 0, .int 1, .int 2] ∧ ST K H v S ∧ Okw S ∧ ∀ v' H', Ex H H' → ST K H' v' S.homes → Q v' H'
theorem ok_settle (T : Wd P K mg) : FnD P w K mg base 6 "settle" [.ref (kwAt ("settle", none) "replicas" K)] (sp_settle K) := by
  have F_State_list_of := ok_State_list_of (P := P) (w := w) (base := base) T
  have F_State_with_list := ok_State_with_list (P := P) (w := w) (base := base) T
  have F_check_replicas := ok_check_replicas (P := P) (w := w) (base := base) T
  have F_home_list := ok_home_list (P := P) (w := w) (base := base) T
  have F_read := ok_read (P := P) (w := w) (base := base) T
  refine FnD.of T.g_settle T.f_settle c_settle (fun fd F => settle_binds F) (fun vs H Q E h => ?_) fun cdv A outer s H vs Q E hr h => ?_
  · obtain ⟨_, _, _, rfl, _⟩ := h
    rfl
  have nd := c_settle.nd
  obtain ⟨_, t, S, rfl, ht, hS, ok, q⟩ := h
  refine ⟨_, pss_cons (ps_set (i := 2) nd rfl (by first | exact .inl rfl | exact .inr rfl) (pf F_check_replicas hr (by decide) (pa_cons (pv 1) pa_nil))) (pss_cons (ps_set (i := 3) nd rfl (by first | exact .inl rfl | exact .inr rfl) (pf F_read hr (by decide) (pa_cons (pv 0) pa_nil))) (pss_cons (ps_set (i := 4) nd rfl (by first | exact .inl rfl | exact .inr rfl) (pv 0)) (pss_cons (ps_for PassesOwn.never rfl (pi_tup (pv 2)) (pg_name (i := 5) nd rfl (by first | exact .inl rfl | exact .inr rfl)) (pss_cons (ps_set (i := 6) nd rfl (by first | exact .inl rfl | exact .inr rfl) (pf F_home_list hr (by decide) (pa_cons (pv 3) (pa_cons (pm F_State_list_of hr (by decide) (pv 0) (pa_cons (pv 5) pa_nil)) pa_nil)))) (pss_one (ps_set (i := 4) nd rfl (by first | exact .inl rfl | exact .inr rfl) (pm F_State_with_list hr (by decide) (pv 4) (pa_cons (pv 5) (pa_cons (pv 6) pa_nil))))))) (pss_one (ps_ret (pv 4)))))), ?_⟩
  obtain ⟨a, dx, lv, pv', rfl, ha, hlv, hpv⟩ := id hS
  refine ⟨_, rfl, t, rfl, ht, fun H1 t1 e1 ht1 => ?_⟩
  refine ⟨_, rfl, _, S, rfl, hS.mono e1, ok, fun r H2 e2 hR => ?_⟩
  have ht2 := e2 _ _ ht1
  have e02 := e1.trans e2
  refine ⟨_, rfl, _, rfl, t1, rfl, ⟨_, SqT.of ht2⟩, for_tup (fun i σ H' => ∃ o5 o6 sv, σ = [some (.ref a), some (.ref t), some (.ref t1), some r, some sv, o5, o6] ∧ Ex H2 H' ∧ ST K H' sv (upTo S i)) ⟨none, none, .ref a, rfl, ex0, hS.mono e02⟩ (fun i σ H' _ h => SqT.of (h.choose_spec.choose_spec.choose_spec.2.1 _ _ ht2)) ?_ ?_⟩
  · rintro i x σ H3 hi ⟨o5, o6, sv, rfl, e3, hsv⟩
    obtain ⟨hi3, rfl⟩ := rep3i hi
    have e03 := e02.trans e3
    obtain ⟨hget, hset⟩ := upTo_step S hi3
    have hl := ok.ok.len i
    refine ⟨_, rfl, _, rfl, a, dx, _, rfl, e03 _ _ ha, rfl, _, rfl, _, S, i, rfl, hS.mono e03, hi3, fun o H4 _ e4 ho => ?_⟩
    refine ⟨_, _, srt S.a, prs S.rd (srt S.a), S.rd, S.get i, rfl, hR.mono (e3.trans e4), asc_prs (srt_nodup ok.wf.nd) (srt_sorted _), prs_nodup (srt_nodup ok.wf.nd), Nat.le_trans (prs_len _ _) (len144 (wf_srt ok.wf).len), ⟨o, rfl, ho⟩, Gd.of ok.ok i (fun _ _ _ _ => rfl), (ok.get i).len, fun x hx y hy => dec_prs (srt_mem.mpr ((ok.ok.mem i).mp hx)) (srt_mem.mpr ((ok.ok.mem i).mp hy)), fun p H5 _ e5 hp => ?_⟩
    have e25 := e3.trans (e4.trans e5)
    obtain ⟨a2, dx2, lv2, pv2, rfl, ha2, _⟩ := id hsv
    refine ⟨_, rfl, a2, dx2, _, rfl, (e4.trans e5) _ _ ha2, rfl, _, rfl, _, rfl, _, upTo S i, i, _, hm S.rd (S.get i), rfl, hsv.mono (e4.trans e5), upTo_ok ok hi3, hi3, ⟨p, rfl, hp⟩, by rw [hget]; exact hm_perm .., fun v' H6 e6 h6 => ?_⟩
    rw [hset] at h6
    exact ⟨_, _, _, rfl, e25.trans e6, h6⟩
  · rintro σ H3 ⟨o5, o6, sv, rfl, e3, hsv⟩
    exact ⟨_, rfl, q sv H3 (e02.trans e3) hsv⟩
abbrev sides : List Str := ["old", "mine", "yours"]
def sideN : Nat → Str
  | 0 => "old"
  | 1 => "mine"
  | _ => "yours"
theorem Top.sidesT (T : Top K mg) (H : Hp) : SqT K H (He.ga K "SIDES") (sides.map V.str) := He.tupB_ok (T.exAll 0 rfl) H
theorem Top.sidesY (T : Top K mg) (H : Hp) : tyV K "tuple" (.ref (He.ga K "SIDES")) H := by
  have h := T.exAll 15 rfl
  split at h
  · rename_i c its n sl e
    obtain rfl := of_decide_eq_true h
    exact .inr (.inl ⟨rfl, _, e, rfl, rfl⟩)
  · cases h
theorem inV_str {x : Str} : ∀ {l : List Str}, inV (.str x) (l.map V.str) = decide (x ∈ l)
  | [] => rfl
  | y :: l => by
    show (eqV (.str y) (.str x) || inV (.str x) (l.map V.str)) = _
    rw [inV_str]
    by_cases e : x = y
    · subst e
      simp [eqV]
    · have e2 : (y == x) = false := by simpa using fun z : y = x => e z.symm
      simp [eqV, e, e2]
theorem flat_strs : ∀ l : List Str, (l.map V.str).all flatV = true := fun l => List.all_eq_true.mpr fun x hx => by
  obtain ⟨n, _, rfl⟩ := List.mem_map.mp hx
  rfl
theorem side_at {k : Nat} (h : k < 3) : sides[k]? = some (sideN k) ∧ (∀ m, m < k → sides[m]? ≠ some (sideN k)) ∧ sideN k ∈ sides := by
  match k, h with
  | 0, _ => exact ⟨rfl, fun m hm => absurd hm (Nat.not_lt_zero _), by decide⟩
  | 1, _ => exact ⟨rfl, fun m hm => by
      match m, hm with
      | 0, _ => decide, by decide⟩
  | 2, _ => exact ⟨rfl, fun m hm => by
      match m, hm with
      | 0, _ => decide
      | 1, _ => decide, by decide⟩
theorem okw_inn {R : S3} (h : Okw R) : Okw R.inn := ⟨S3.inn_ok h.ok, h.wf.perm (List.reverse_perm _)⟩
def sp_check_side (K : PySem.W.Frag) : Sp := fun vs H Q E => ∃ x, vs = [.str x] ∧ (x ∈ sides → ∀ H', Ex H H' → Q .non H') ∧ (x ∉ sides → okN x ∧ Er K "InvalidSide" "side" (.str x) H E)
theorem ok_check_side (T : Wd P K mg) : Fn P w K mg base 1 "check_side" (sp_check_side K) := by
  refine Fn.ofX T.g_check_side T.f_check_side c_check_side (fun _ _ _ _ _ _ us hl => match us, hl with | [_], _ => rfl) (fun vs H Q E h => ?_) fun cdv A outer s H vs Q E hr h => ?_
  · obtain ⟨_, rfl, _⟩ := h
    rfl
  have nd := c_check_side.nd
  have tk : Takes (cxOf (L2.CX P w) P w K mg base n_check_side "check_side" (defScope s_check_side) (He.ga K "check_side") cdv A outer s H E) (wE E) := takes_of rfl rfl rfl rfl
  obtain ⟨x, rfl, q, qe⟩ := h
  refine ⟨_, pss_one (ps_if (pt_cmpR (opNiK (K := K)) (pv 0) (pe_glob (v := .ref (He.ga K "SIDES")) rfl T.g_SIDES rfl) (by first | rfl | with_unfolding_all rfl)) (pss_one (ps_raise rfl tk (pmk_xi (xiSide T) msgSide hr (pa_cons (pv 0) pa_nil) rfl))) (pss_nil)), ?_⟩
  refine ⟨_, rfl, He.ga K "SIDES", sides.map V.str, rfl, .inr (T.sidesT _), rfl, flat_strs _, _, rfl, ?_⟩
  rw [inV_str]
  by_cases h : x ∈ sides
  · exact ifF (by rw [decide_eq_true h]; rfl) (q h _ ex0)
  · obtain ⟨ok, e⟩ := qe h
    exact ifT (by rw [decide_eq_false h]; rfl) ⟨_, rfl, _, rfl, ⟨x, rfl, ok⟩, fun d nd => e d _ (Ex.lay ex0 nd) nd upd_same⟩
def sp_ThreeWay_init (K : PySem.W.Frag) : Sp := fun vs H Q E => ∃ x dx f g h R, vs = [.ref x, f, g, h] ∧ H x = some (.ins (cT K) dx []) ∧ LI H f R.a ∧ LI H g R.b ∧ LI H h R.c ∧ Okw R ∧ ∀ H', ExB x H H' → TW K H' (.ref x) R → Q .non H'
theorem ok_ThreeWay_init (T : Wd P K mg) : Mkr P w K mg base 5 "ThreeWay" (He.ga K "ThreeWay") (sp_ThreeWay_init K) := by
  have F_State_init := ok_State_init (P := P) (w := w) (base := base) T
  refine Mkr.of T.mk_ThreeWay T.g_ThreeWay T.f_ThreeWay_init c_ThreeWay_init (fun _ _ _ _ _ _ us hl => match us, hl with | [_, _, _, _], _ => rfl) (fun vs H Q E h => ?_) fun cdv A outer s H vs Q E hr h => ?_
  · obtain ⟨_, _, _, _, _, _, rfl, _⟩ := h
    rfl
  have nd := c_ThreeWay_init.nd
  obtain ⟨x, dx, _, g, h, R, rfl, hx, ⟨a1, rfl, h1⟩, hg, hh, ok, q⟩ := h
  refine ⟨_, pss_one (ps_fld (pv 0) (pk F_State_init hr (by decide) (pa_cons (pe_revL (pv 1)) (pa_cons (pv 2) (pa_cons (pv 3) pa_nil)))) rfl), ?_⟩
  refine ⟨_, rfl, a1, _, rfl, SqL.of h1, fun l1 n1 => ?_⟩
  have e1 : Ex H (upd H l1 (.lst (R.a.map V.int).reverse)) := Ex.lay ex0 n1
  have g1 : upd H l1 (.lst (R.a.map V.int).reverse) l1 = some (.lst (R.a.reverse.map V.int)) := by rw [upd_same, List.map_reverse]
  generalize upd H l1 (.lst (R.a.map V.int).reverse) = H1 at e1 g1
  refine ⟨_, rfl, _, rfl, fun y dy ny ndy ne => ?_⟩
  have eM : Ex H1 (upd (upd H1 dy (.own y)) y (.ins (cS K) dy [])) := Ex.made ny ndy ne
  refine ⟨y, dy, _, _, _, R.inn, rfl, upd_same, ⟨l1, rfl, eM _ _ g1⟩, hg.mono (e1.trans eM), hh.mono (e1.trans eM), okw_inn ok, fun H2 e2 hS => ⟨rfl, ?_⟩⟩
  have e02 := e1.trans (ExB.back eM ny e2)
  have hx2 := e02 _ _ hx
  refine ⟨_, rfl, x, _, dx, _, rfl, hx2, T.cl_ThreeWay, T.n_ThreeWay_state, (show 0 < 1000 by decide), ?_⟩
  refine q _ (ExB.of e02).upd ⟨x, dx, .ref y, rfl, upd_same, ?_⟩
  obtain ⟨a, dz, l, p, e, ha, hl, hp⟩ := hS
  cases e
  refine ⟨y, dz, l, p, rfl, ?_, hl.ups hx2, hp.ups hx2⟩
  rw [upd_ne (fun z => ?_)]
  · exact ha
  · subst z
    have := e1 _ _ hx
    rw [ny] at this
    cases this
def sp_three_of (K : PySem.W.Frag) : Sp := fun vs H Q E => ∃ v S, vs = [v] ∧ ST K H v S ∧ Okw S ∧ ∀ v' H', Ex H H' → TW K H' v' S.inn → Q v' H'
theorem ok_three_of (T : Wd P K mg) : Fn P w K mg base 7 "_three_of" (sp_three_of K) := by
  have F_State_list_of := ok_State_list_of (P := P) (w := w) (base := base) T
  have F_ThreeWay_init := ok_ThreeWay_init (P := P) (w := w) (base := base) T
  refine Fn.of T.g_three_of T.f_three_of c_three_of (fun _ _ _ _ _ _ us hl => match us, hl with | [_], _ => rfl) (fun vs H Q E h => ?_) fun cdv A outer s H vs Q E hr h => ?_
  · obtain ⟨_, _, rfl, _⟩ := h
    rfl
  have nd := c_three_of.nd
  obtain ⟨_, S, rfl, hS, ok, q⟩ := h
  refine ⟨_, pss_one (ps_ret (pk F_ThreeWay_init hr (by decide) (pa_cons (pe_revL (pm F_State_list_of hr (by decide) (pv 0) (pa_cons (pe_int) pa_nil))) (pa_cons (pm F_State_list_of hr (by decide) (pv 0) (pa_cons (pe_int) pa_nil)) (pa_cons (pm F_State_list_of hr (by decide) (pv 0) (pa_cons (pe_int) pa_nil)) pa_nil))))), ?_⟩
  obtain ⟨a, dx, lv, pv', rfl, ha, hlv, hpv⟩ := id hS
  refine ⟨_, rfl, a, dx, _, rfl, ha, rfl, _, S, 0, rfl, hS, by decide, fun o1 H1 _ e1 h1 => ?_⟩
  refine ⟨o1, _, rfl, SqL.of h1, fun l1 n1 => ?_⟩
  have e1' : Ex H (upd H1 l1 (.lst ((S.get 0).map V.int).reverse)) := Ex.lay e1 n1
  have g1 : upd H1 l1 (.lst ((S.get 0).map V.int).reverse) l1 = some (.lst (S.a.reverse.map V.int)) := by rw [upd_same, List.map_reverse]; rfl
  generalize upd H1 l1 (.lst ((S.get 0).map V.int).reverse) = H2 at e1' g1
  refine ⟨_, rfl, a, dx, _, rfl, e1' _ _ ha, rfl, _, S, 1, rfl, hS.mono e1', by decide, fun o2 H3 _ e3 h2 => ?_⟩
  have e13 := e1'.trans e3
  refine ⟨_, rfl, a, dx, _, rfl, e13 _ _ ha, rfl, _, S, 2, rfl, hS.mono e13, by decide, fun o3 H4 _ e4 h3 => ?_⟩
  have e14 := e13.trans e4
  refine fun x dy nx ndy ne => ?_
  have eM : Ex H4 (upd (upd H4 dy (.own x)) x (.ins (cT K) dy [])) := Ex.made nx ndy ne
  exact ⟨x, dy, _, _, _, S.inn, rfl, upd_same, ⟨l1, rfl, eM _ _ (e4 _ _ (e3 _ _ g1))⟩, ⟨o2, rfl, eM _ _ (e4 _ _ h2)⟩, ⟨o3, rfl, eM _ _ h3⟩, okw_inn ok, fun H5 e5 hT => ⟨rfl, q _ _ (e14.trans (ExB.back eM nx e5)) hT⟩⟩
def rEqS (K : PySem.W.Frag) : R2 := fun x y H Q => ∃ S U, ST K H x S ∧ ST K H y U ∧ ∀ H', Ex H H' → Q (.bl (decide (S = U))) H'
theorem eqS {X : Cx} {k j : Nat} (F : Mt X.prog X.w X.K X.mg X.base k (cS K) "__eq__" (sp_State_eq K)) (hr : Room j X.A) (hk : k ≤ j) : OpR X (compareOp .Eq) (rEqS K) := by
  obtain ⟨f, fd, ps, hc, hm, F, b⟩ := F.ex
  intro pins s σ H x y v u Q I rx ry h
  obtain ⟨S, U, h1, h2, q⟩ := h
  obtain ⟨a, dx, l, p, rfl, ha, _⟩ := id h1
  obtain ⟨a2, dx2, l2, p2, rfl, ha2, _⟩ := id h2
  exact op_eqO F (hr.mono hk) hm.at_ hm.fn b pins s σ H _ _ v u Q I rx ry ⟨a, a2, dx, dx2, _, _, rfl, rfl, ha, ha2, _, _, S, U, rfl, h1, h2, fun H' e => ⟨_, rfl, q H' e⟩⟩
theorem inn_inj {R U : S3} (h : R.inn = U.inn) : R = U := by rw [← S3.inn_inn R, h, S3.inn_inn]
def sp_ThreeWay_eq (K : PySem.W.Frag) : Sp := fun vs H Q E => ∃ v u R U, vs = [v, u] ∧ TW K H v R ∧ TW K H u U ∧ ∀ H', Ex H H' → Q (.bl (decide (R = U))) H'
theorem ok_ThreeWay_eq (T : Wd P K mg) : Mt P w K mg base 2 (He.ga K "ThreeWay") "__eq__" (sp_ThreeWay_eq K) := by
  have F_State_eq := ok_State_eq (P := P) (w := w) (base := base) T
  refine Mt.of T.cl_ThreeWay T.m_ThreeWay_eq T.f_ThreeWay_eq c_ThreeWay_eq (fun _ _ _ _ _ _ us hl => match us, hl with | [_, _], _ => rfl) (fun vs H Q E h => ?_) fun cdv A outer s H vs Q E hr h => ?_
  · obtain ⟨_, _, _, _, rfl, _⟩ := h
    rfl
  have nd := c_ThreeWay_eq.nd
  obtain ⟨_, _, R, U, rfl, ⟨a, dx, s1, rfl, ha, hs⟩, ⟨b, dy, s2, rfl, hb, hs2⟩, q⟩ := h
  refine ⟨_, pss_one (ps_ret (pe_and (pe_callB call_isi rfl T.z_isinstance (by decide +kernel) (pa_cons (pv 1) (pa_cons (pe_glob (v := .ref (He.ga K "ThreeWay")) rfl T.g_ThreeWay rfl) pa_nil))) (pe_one (pe_cmpR (eqS F_State_eq hr (by decide)) (pe_fld (pv 0) rfl) (pe_fld (pv 1) rfl) (nomark _))))), ?_⟩
  refine ⟨_, rfl, .ref b, .ref (cT K), .ref (cT K), .ref (cT K), true, rfl, .own _, T.isT hb, (insB_ok (T.exAll 4 rfl)).2.2, _, rfl, ?_⟩
  refine ifT rfl ?_
  refine ⟨_, rfl, a, _, dx, _, _, rfl, ha, T.cl_ThreeWay, T.n_ThreeWay_state, rfl, _, rfl, b, _, dy, _, _, rfl, hb, T.cl_ThreeWay, T.n_ThreeWay_state, rfl, R.inn, U.inn, hs, hs2, fun H' e => ?_⟩
  have z := q H' e
  rw [show decide (R = U) = decide (R.inn = U.inn) from decide_eq_decide.mpr ⟨fun h => by rw [h], inn_inj⟩] at z
  exact z
def sp_ThreeWay_side (K : PySem.W.Frag) : Sp := fun vs H Q E => ∃ v R k, vs = [v, .str (sideN k)] ∧ TW K H v R ∧ k < 3 ∧ ∀ p H', H p = none → Ex H H' → H' p = some (.lst ((R.get k).map V.int)) → Q (.ref p) H'
theorem ok_ThreeWay_side (T : Wd P K mg) : Mt P w K mg base 3 (He.ga K "ThreeWay") "side" (sp_ThreeWay_side K) := by
  have F_State_list_of := ok_State_list_of (P := P) (w := w) (base := base) T
  have F_check_side := ok_check_side (P := P) (w := w) (base := base) T
  refine Mt.of T.cl_ThreeWay T.m_ThreeWay_side T.f_ThreeWay_side c_ThreeWay_side (fun _ _ _ _ _ _ us hl => match us, hl with | [_, _], _ => rfl) (fun vs H Q E h => ?_) fun cdv A outer s H vs Q E hr h => ?_
  · obtain ⟨_, _, _, rfl, _⟩ := h
    rfl
  have nd := c_ThreeWay_side.nd
  obtain ⟨_, R, k, rfl, ⟨a, dx, sv, rfl, ha, hs⟩, hk, q⟩ := h
  refine ⟨_, pss_cons (ps_expr (pf F_check_side hr (by decide) (pa_cons (pv 1) pa_nil))) (pss_cons (ps_set (i := 2) nd rfl (by first | exact .inl rfl | exact .inr rfl) (pm F_State_list_of hr (by decide) (pe_fld (pv 0) rfl) (pa_cons (pe_bm PySem.F.plainAttrs_tuple PySem.F.slot_tuple_index PySem.F.type_tuple_index mt_tup_index (pe_glob (v := .ref (He.ga K "SIDES")) rfl T.g_SIDES rfl) (pa_cons (pv 1) pa_nil)) pa_nil))) (pss_cons (ps_if (pt_cmpR op_eq (pv 1) (pe_str) (nomark _)) (pss_one (ps_ret (pe_revL (pv 2)))) (pss_nil)) (pss_one (ps_ret (pv 2))))), ?_⟩
  obtain ⟨h1, h2, h3⟩ := side_at hk
  refine ⟨_, rfl, _, rfl, fun _ H1 e1 => ?_, fun h => absurd h3 h⟩
  obtain ⟨b, dy, l, pl, rfl, hb, _⟩ := id hs
  refine ⟨_, rfl, a, _, dx, _, _, rfl, e1 _ _ ha, T.cl_ThreeWay, T.n_ThreeWay_state, rfl, b, dy, _, rfl, e1 _ _ hb, rfl, ?_⟩
  refine ⟨T.sidesY _, _, rfl, He.ga K "SIDES", sides, _, k, rfl, rfl, T.sidesT _, h1, h2, _, R.inn, k, rfl, hs.mono e1, hk, fun o H2 no e2 ho => ?_⟩
  refine ⟨_, rfl, rfl, _, rfl, ?_⟩
  match k, hk with
  | 0, _ =>
    refine ifT rfl ⟨_, rfl, o, _, rfl, SqL.of ho, fun p np => ?_⟩
    refine q p _ (Evl.fresh_back (e1.trans e2) np) (Ex.lay (e1.trans e2) np) ?_
    rw [upd_same, ← List.map_reverse]
    show some (HO.lst (R.a.reverse.reverse.map V.int)) = _
    rw [List.reverse_reverse]
    rfl
  | 1, _ => exact ifF (by decide) ⟨_, rfl, q o _ (Evl.fresh_back e1 no) (e1.trans e2) ho⟩
  | 2, _ => exact ifF (by decide) ⟨_, rfl, q o _ (Evl.fresh_back e1 no) (e1.trans e2) ho⟩
/-- a list of edits: side, index -/
def LE (H : Hp) (v : V) (es : List (Nat × Nat)) : Prop := ∃ a cs, v = .ref a ∧ H a = some (.lst (cs.map V.ref)) ∧ Paired (fun (e : Nat × Nat) (c : Addr) => H c = some (.tup [.str (sideN e.1), .int (e.2 : Nat)])) es cs
theorem LE.mono {H H' : Hp} {v : V} {es : List (Nat × Nat)} (e : Ex H H') : LE H v es → LE H' v es := fun ⟨a, cs, h1, h2, h3⟩ => ⟨a, cs, h1, e _ _ h2, Paired.mapP h3 fun _ _ z => e _ _ z⟩
def mirI (R : S3) (k : Nat) (i : Int) : Int := if k = 0 then (R.a.length : Int) - 2 - i else i
theorem mirI_nat {R : S3} {k j : Nat} (h : j + 1 < R.a.length) : mirI R k (j : Int) = ((R.mir k j : Nat) : Int) := by
  unfold mirI S3.mir
  by_cases h0 : k = 0
  · rw [if_pos h0, if_pos h0]
    omega
  · rw [if_neg h0, if_neg h0]
theorem mirI_ok {R : S3} {k : Nat} {i : Int} : (0 ≤ mirI R k i ∧ mirI R k i + 2 ≤ (R.inn.a.length : Nat)) ↔ (0 ≤ i ∧ i + 2 ≤ (R.a.length : Nat)) := by
  have e : R.inn.a.length = R.a.length := List.length_reverse
  rw [e]
  unfold mirI
  by_cases h0 : k = 0
  · rw [if_pos h0]
    omega
  · rw [if_neg h0]
theorem side_ex {x : Str} (h : x ∈ sides) : ∃ k, k < 3 ∧ x = sideN k := by
  rcases List.mem_cons.mp h with e | h
  · exact ⟨0, by decide, e⟩
  rcases List.mem_cons.mp h with e | h
  · exact ⟨1, by decide, e⟩
  rcases List.mem_cons.mp h with e | h
  · exact ⟨2, by decide, e⟩
  · cases h
theorem inn_len (R : S3) : R.inn.a.length = R.a.length := List.length_reverse
def silU (R : S3) (i : Nat) : List (Nat × Nat) := (List.range i).flatMap fun k => ((List.range (R.a.length - 1)).filter fun j => R.silR k j).map fun j => (k, j)
theorem silU_succ (R : S3) (i : Nat) : silU R (i + 1) = silU R i ++ ((List.range (R.a.length - 1)).filter fun j => R.silR i j).map fun j => (i, j) := by
  unfold silU
  rw [List.range_succ, List.flatMap_append]
  simp
theorem silU_len (R : S3) (h : R.a.length ≤ 12) : ∀ i, (silU R i).length ≤ i * 12
  | 0 => by simp [silU]
  | i + 1 => by
    have := silU_len R h i
    have h2 : (((List.range (R.a.length - 1)).filter fun j => R.silR i j).map fun j => (i, j)).length ≤ 12 := by
      rw [List.length_map]
      refine Nat.le_trans (List.length_filter_le ..) ?_
      rw [List.length_range]
      omega
    rw [silU_succ, List.length_append]
    omega
def sp_ThreeWay_state (K : PySem.W.Frag) : Sp := fun vs H Q E => ∃ v R, vs = [v] ∧ TW K H v R ∧ ∀ v' H', Ex H H' → ST K H' v' R.inn → Q v' H'
theorem ok_ThreeWay_state (T : Wd P K mg) : Mt P w K mg base 1 (He.ga K "ThreeWay") "state" (sp_ThreeWay_state K) := by
  refine Mt.of T.cl_ThreeWay T.m_ThreeWay_state T.f_ThreeWay_state c_ThreeWay_state (fun _ _ _ _ _ _ us hl => match us, hl with | [_], _ => rfl) (fun vs H Q E h => ?_) fun cdv A outer s H vs Q E hr h => ?_
  · obtain ⟨_, _, rfl, _⟩ := h
    rfl
  have nd := c_ThreeWay_state.nd
  obtain ⟨_, R, rfl, ⟨a, dx, sv, rfl, ha, hs⟩, q⟩ := h
  refine ⟨_, pss_one (ps_ret (pe_fld (pv 0) rfl)), ?_⟩
  exact ⟨_, rfl, a, _, dx, _, _, rfl, ha, T.cl_ThreeWay, T.n_ThreeWay_state, rfl, q _ _ ex0 hs⟩
def sp_ThreeWay_merged (K : PySem.W.Frag) : Sp := fun vs H Q E => ∃ v R, vs = [v] ∧ TW K H v R ∧ Okw R ∧ ∀ v' H', Ex H H' → RD K H' v' (srt R.a) R.mrg → Q v' H'
theorem ok_ThreeWay_merged (T : Wd P K mg) : Mt P w K mg base 6 (He.ga K "ThreeWay") "merged" (sp_ThreeWay_merged K) := by
  have F_read := ok_read (P := P) (w := w) (base := base) T
  refine Mt.of T.cl_ThreeWay T.m_ThreeWay_merged T.f_ThreeWay_merged c_ThreeWay_merged (fun _ _ _ _ _ _ us hl => match us, hl with | [_], _ => rfl) (fun vs H Q E h => ?_) fun cdv A outer s H vs Q E hr h => ?_
  · obtain ⟨_, _, rfl, _⟩ := h
    rfl
  have nd := c_ThreeWay_merged.nd
  obtain ⟨_, R, rfl, ⟨a, dx, sv, rfl, ha, hs⟩, ok, q⟩ := h
  refine ⟨_, pss_one (ps_ret (pf F_read hr (by decide) (pa_cons (pe_fld (pv 0) rfl) pa_nil))), ?_⟩
  refine ⟨_, rfl, a, _, dx, _, _, rfl, ha, T.cl_ThreeWay, T.n_ThreeWay_state, rfl, sv, R.inn, rfl, hs, okw_inn ok, fun v' H' e hR => q v' H' e ?_⟩
  rw [S3.mrg_inn ok.ok]
  rw [show srt R.inn.a = srt R.a from srt_congr (List.reverse_perm _)] at hR
  unfold S3.mrgS
  rw [show srt R.inn.a = srt R.a from srt_congr (List.reverse_perm _)]
  exact hR
def sp_ThreeWay_mirrored (K : PySem.W.Frag) : Sp := fun vs H Q E => ∃ v R k i, vs = [v, .int (k : Nat), .int i] ∧ TW K H v R ∧ Okw R ∧ ∀ H', Ex H H' → Q (.int (mirI R k i)) H'
theorem ok_ThreeWay_mirrored (T : Wd P K mg) : Mt P w K mg base 3 (He.ga K "ThreeWay") "_mirrored" (sp_ThreeWay_mirrored K) := by
  have F_State_len := ok_State_len (P := P) (w := w) (base := base) T
  refine Mt.of T.cl_ThreeWay T.m_ThreeWay_mirrored T.f_ThreeWay_mirrored c_ThreeWay_mirrored (fun _ _ _ _ _ _ us hl => match us, hl with | [_, _, _], _ => rfl) (fun vs H Q E h => ?_) fun cdv A outer s H vs Q E hr h => ?_
  · obtain ⟨_, _, _, _, rfl, _⟩ := h
    rfl
  have nd := c_ThreeWay_mirrored.nd
  obtain ⟨_, R, k, i, rfl, ⟨a, dx, sv, rfl, ha, hs⟩, ok, q⟩ := h
  refine ⟨_, pss_cons (ps_if (pt_cmpR op_eq (pv 1) (pe_int) (nomark _)) (pss_one (ps_ret (pe_op op_sub (pe_op op_sub (pe_callB (lenS F_State_len hr (by decide)) rfl T.z_len (by decide +kernel) (pa_cons (pe_fld (pv 0) rfl) pa_nil)) (pe_int)) (pv 2)))) (pss_nil)) (pss_one (ps_ret (pv 2))), ?_⟩
  refine ⟨_, rfl, rfl, _, rfl, ?_⟩
  by_cases h0 : k = 0
  · refine ifT (decide_eq_true (by rw [h0]; rfl)) ⟨_, rfl, a, _, dx, _, _, rfl, ha, T.cl_ThreeWay, T.n_ThreeWay_state, rfl, sv, R.inn, rfl, hs, (okw_inn ok).wf.len, fun H1 e1 => ⟨_, _, rfl, rfl, _, rfl, _, _, rfl, rfl, ?_⟩⟩
    have z := q H1 e1
    unfold mirI at z
    rw [if_pos h0, ← inn_len] at z
    exact z
  · refine ifF (decide_eq_false (fun z => h0 ?_)) ⟨_, rfl, ?_⟩
    · have y : (k : Int) = 0 := V.int.inj z
      omega
    · have z := q H ex0
      unfold mirI at z
      rw [if_neg h0] at z
      exact z
def sp_ThreeWay_silent_edits (K : PySem.W.Frag) : Sp := fun vs H Q E => ∃ v R, vs = [v] ∧ TW K H v R ∧ Okw R ∧ ∀ p cs H', H p = none → Ex H H' → H' p = some (.lst (cs.map V.ref)) → Paired (fun (e : Nat × Nat) (c : Addr) => H' c = some (.tup [.str (sideN e.1), .int (e.2 : Nat)])) R.silL cs → Q (.ref p) H'
theorem ok_ThreeWay_silent_edits (T : Wd P K mg) : Mt P w K mg base 6 (He.ga K "ThreeWay") "silent_edits" (sp_ThreeWay_silent_edits K) := by
  have F_State_len := ok_State_len (P := P) (w := w) (base := base) T
  have F_ThreeWay_mirrored := ok_ThreeWay_mirrored (P := P) (w := w) (base := base) T
  have F_is_silent := ok_is_silent (P := P) (w := w) (base := base) T
  refine Mt.of T.cl_ThreeWay T.m_ThreeWay_silent_edits T.f_ThreeWay_silent_edits c_ThreeWay_silent_edits (fun _ _ _ _ _ _ us hl => match us, hl with | [_], _ => rfl) (fun vs H Q E h => ?_) fun cdv A outer s H vs Q E hr h => ?_
  · obtain ⟨_, _, rfl, _⟩ := h
    rfl
  have nd := c_ThreeWay_silent_edits.nd
  obtain ⟨_, R, rfl, hT, ok, q⟩ := h
  refine ⟨_, pss_cons (ps_set (i := 1) nd rfl (by first | exact .inl rfl | exact .inr rfl) (pe_lst (pa_nil))) (pss_cons (ps_for PassesOwn.never rfl (pi_enumT rfl T.z_enumerate (pa_cons (pe_glob (v := .ref (He.ga K "SIDES")) rfl T.g_SIDES rfl) pa_nil)) (pgTK (K := K) (n := 2) rfl (pgs_cons (pg_name (i := 2) nd rfl (by first | exact .inl rfl | exact .inr rfl)) (pgs_cons (pg_name (i := 3) nd rfl (by first | exact .inl rfl | exact .inr rfl)) (pgs_nil)))) (pss_one (ps_for PassesOwn.never rfl (pi_range1 rfl T.z_range (pa_cons (pe_op op_sub (pe_callB (lenS F_State_len hr (by decide)) rfl T.z_len (by decide +kernel) (pa_cons (pe_fld (pv 0) rfl) pa_nil)) (pe_int)) pa_nil)) (pg_name (i := 4) nd rfl (by first | exact .inl rfl | exact .inr rfl)) (pss_one (ps_if (pt_val (pf F_is_silent hr (by decide) (pa_cons (pe_fld (pv 0) rfl) (pa_cons (pe_tup (pa_cons (pv 2) (pa_cons (pm F_ThreeWay_mirrored hr (by decide) (pv 0) (pa_cons (pv 2) (pa_cons (pv 4) pa_nil))) pa_nil))) pa_nil)))) (pss_one (ps_expr (pe_bm PySem.F.plainAttrs_list PySem.F.slot_list_append PySem.F.type_list_append mt_append (pv 1) (pa_cons (pe_tup (pa_cons (pv 3) (pa_cons (pv 4) pa_nil))) pa_nil)))) (pss_nil)))))) (pss_one (ps_ret (pv 1)))), ?_⟩
  obtain ⟨a, dx, sv, rfl, ha, hs⟩ := id hT
  refine ⟨sz20 (show 0 ≤ 1000000 by decide), fun f nf => ?_⟩
  refine ⟨He.ga K "SIDES", sides.map V.str, rfl, T.sidesT _, for_enumT (fun i σ H' => ∃ o2 o3 o4, σ = [some (.ref a), some (.ref f), o2, o3, o4] ∧ Ex H H' ∧ ∃ cs, H' f = some (.lst (cs.map V.ref)) ∧ Paired (fun (e : Nat × Nat) (c : Addr) => H' c = some (.tup [.str (sideN e.1), .int (e.2 : Nat)])) (silU R i) cs) ⟨none, none, none, rfl, Ex.lay ex0 nf, [], upd_same, .nil⟩ (fun i σ H' _ => T.sidesT _) ?_ ?_⟩
  · rintro i x T1 σ H1 hi ⟨o2, o3, o4, rfl, e1, cs, hf, hcs⟩ nT
    have hi3 : i < 3 := by
      have := (List.getElem?_eq_some_iff.mp hi).1
      exact this
    have hx : x = .str (sideN i) := by
      rw [List.getElem?_map, (side_at hi3).1] at hi
      exact (Option.some.inj hi).symm
    subst hx
    have e2 : Ex H (upd H1 T1 (.tup [.int (i : Nat), .str (sideN i)])) := Ex.lay e1 nT
    have hf2 : upd H1 T1 (.tup [.int (i : Nat), .str (sideN i)]) f = some (.lst (cs.map V.ref)) := (upd_ne (ne_new hf nT)).trans hf
    have hcs2 : Paired (fun (e : Nat × Nat) (c : Addr) => upd H1 T1 (.tup [.int (i : Nat), .str (sideN i)]) c = some (.tup [.str (sideN e.1), .int (e.2 : Nat)])) (silU R i) cs := Paired.mapP hcs fun _ _ z => (upd_ne (ne_new z nT)).trans z
    have hT1 : upd H1 T1 (.tup [.int (i : Nat), .str (sideN i)]) T1 = some (.tup [.int (i : Nat), .str (sideN i)]) := upd_same
    generalize upd H1 T1 (.tup [.int (i : Nat), .str (sideN i)]) = H2 at e2 hf2 hcs2 hT1
    refine ⟨T1, _, rfl, SqT.of hT1, rfl, _, _, rfl, _, _, rfl, rfl, ?_⟩
    refine ⟨_, rfl, a, _, dx, _, _, rfl, e2 _ _ ha, T.cl_ThreeWay, T.n_ThreeWay_state, rfl, sv, R.inn, rfl, hs.mono e2, (okw_inn ok).wf.len, fun H3 e3 => ⟨_, _, rfl, rfl, _, rfl, by omega, by have := (okw_inn ok).wf.len; omega, ?_⟩⟩
    have eN : (((R.inn.a.length : Nat) : Int) - 1).toNat = R.a.length - 1 := by rw [inn_len]; omega
    rw [eN]
    refine for_range (fun j σ H' => ∃ o4, σ = [some (.ref a), some (.ref f), some (.int (i : Nat)), some (.str (sideN i)), o4] ∧ Ex H H' ∧ ∃ cs, H' f = some (.lst (cs.map V.ref)) ∧ Paired (fun (e : Nat × Nat) (c : Addr) => H' c = some (.tup [.str (sideN e.1), .int (e.2 : Nat)])) (silU R i ++ ((List.range j).filter fun j => R.silR i j).map fun j => (i, j)) cs) ⟨o4, rfl, e2.trans e3, cs, e3 _ _ hf2, by simpa using Paired.mapP hcs2 fun _ _ z => e3 _ _ z⟩ ?_ ?_
    · rintro j σ H4 hj ⟨o4, rfl, e4, cs4, hf4, hcs4⟩
      have hj1 : j + 1 < R.a.length := by omega
      have ej : ((0 : Int) + (j : Nat)) = (j : Int) := Int.zero_add _
      rw [ej]
      refine ⟨_, rfl, a, _, dx, _, _, rfl, e4 _ _ ha, T.cl_ThreeWay, T.n_ThreeWay_state, rfl, _, rfl, _, rfl, a, dx, _, rfl, e4 _ _ ha, rfl, _, rfl, _, rfl, _, R, i, (j : Int), rfl, hT.mono e4, ok, fun H5 e5 => ⟨sz20 (show 2 ≤ 1000000 by decide), fun t nt => ?_⟩⟩
      rw [mirI_nat hj1]
      have e6 : Ex H4 (upd H5 t (.tup [.int (i : Nat), .int (R.mir i j : Nat)])) := Ex.lay e5 nt
      have ht : upd H5 t (.tup [.int (i : Nat), .int (R.mir i j : Nat)]) t = some (.tup [.int (i : Nat), .int (R.mir i j : Nat)]) := upd_same
      generalize upd H5 t (.tup [.int (i : Nat), .int (R.mir i j : Nat)]) = H6 at e6 ht
      have hml : R.mir i j + 1 < R.inn.a.length := by
        have := S3.mir_lt ok.ok (k := i) hj1
        rw [(okw_inn ok).ok.len i] at this
        exact this
      refine ⟨sv, t, R.inn, i, _, rfl, hs.mono (e4.trans e6), okw_inn ok, SqT.of ht, hi3, fun h => absurd ⟨by omega, by omega⟩ h, fun n hn hlt H7 e7 => ⟨_, rfl, ?_⟩⟩
      obtain rfl : R.mir i j = n := by omega
      have e47 := e6.trans e7
      have hf7 := e47 _ _ hf4
      have hcs7 : Paired (fun (e : Nat × Nat) (c : Addr) => H7 c = some (.tup [.str (sideN e.1), .int (e.2 : Nat)])) _ cs4 := Paired.mapP hcs4 fun _ _ z => e47 _ _ z
      show (if R.silR i j = true then _ else _)
      cases hb : R.silR i j
      · refine ifF rfl ⟨_, rfl, e4.trans e47, cs4, hf7, ?_⟩
        rw [range_no (f := fun j => R.silR i j) hb]
        exact hcs7
      · refine ifT rfl ⟨_, rfl, .inl ⟨rfl, _, SqL.of hf7⟩, _, rfl, _, rfl, sz20 (show 2 ≤ 1000000 by decide), fun u nu => ⟨f, cs4.map V.ref, .ref u, rfl, rfl, (upd_ne (ne_new hf7 nu)).trans hf7, ?_, ?_⟩⟩
        · have z := Paired.length hcs7
          have z1 := silU_len R ok.wf.len i
          have z2 : (((List.range j).filter fun j => R.silR i j).map fun j => (i, j)).length ≤ 12 := by
            rw [List.length_map]
            refine Nat.le_trans (List.length_filter_le ..) ?_
            rw [List.length_range]
            have := ok.wf.len
            omega
          rw [List.length_append] at z
          rw [List.length_map]
          exact sz20' (by omega)
        · refine ⟨_, rfl, Evl.Ex.mut (Ex.lay (e4.trans e47) nu) nf, cs4 ++ [u], by rw [upd_same, List.map_append]; rfl, ?_⟩
          rw [range_yes (f := fun j => R.silR i j) hb, List.map_append, ← List.append_assoc]
          have nuf : u ≠ f := fun z => by rw [z, hf7] at nu; cases nu
          refine paired_snoc ?_ (Paired.mapP hcs7 fun q c z => ?_)
          · rw [upd_ne nuf]
            exact upd_same
          · rw [upd_ne (ne_of z hf7 (by intro y; cases y)), upd_ne (ne_new z nu)]
            exact z
    · rintro σ H4 ⟨o4, rfl, e4, cs4, hf4, hcs4⟩
      exact ⟨_, _, _, rfl, e4, cs4, hf4, by rw [silU_succ]; exact hcs4⟩
  · rintro σ H1 ⟨o2, o3, o4, rfl, e1, cs, hf, hcs⟩
    exact ⟨_, rfl, q f cs H1 nf e1 hf hcs⟩
def sp_ThreeWay_edit (K : PySem.W.Frag) : Sp := fun vs H Q E => ∃ v R x i, vs = [v, .str x, .int i] ∧ TW K H v R ∧ Okw R ∧ (x ∉ sides → okN x ∧ Er K "InvalidSide" "side" (.str x) H E) ∧ ∀ k, k < 3 → x = sideN k → (¬ (0 ≤ i ∧ i + 2 ≤ (R.a.length : Nat)) → Er K "InvalidSwap" "step" (.int 0) H E) ∧ ∀ n : Nat, i = n → n + 1 < R.a.length → (R.silR k n = false → Er K "AudibleSwap" "step" (.int 0) H E) ∧ (R.silR k n = true → ∀ v' H', Ex H H' → TW K H' v' (R.aft k n) → Q v' H')
theorem ok_ThreeWay_edit (T : Wd P K mg) : Mt P w K mg base 8 (He.ga K "ThreeWay") "edit" (sp_ThreeWay_edit K) := by
  have F_ThreeWay_mirrored := ok_ThreeWay_mirrored (P := P) (w := w) (base := base) T
  have F_apply_swap := ok_apply_swap (P := P) (w := w) (base := base) T
  have F_check_side := ok_check_side (P := P) (w := w) (base := base) T
  have F_three_of := ok_three_of (P := P) (w := w) (base := base) T
  refine Mt.ofX T.cl_ThreeWay T.m_ThreeWay_edit T.f_ThreeWay_edit c_ThreeWay_edit (fun _ _ _ _ _ _ us hl => match us, hl with | [_, _, _], _ => rfl) (fun vs H Q E h => ?_) fun cdv A outer s H vs Q E hr h => ?_
  · obtain ⟨_, _, _, _, rfl, _⟩ := h
    rfl
  have nd := c_ThreeWay_edit.nd
  have tk : Takes (cxOf (L2.CX P w) P w K mg base n_ThreeWay_edit "ThreeWay.edit" (defScope s_ThreeWay_edit) (He.ma K (He.ga K "ThreeWay") "edit") cdv A outer s H E) (wE E) := takes_of rfl rfl rfl rfl
  obtain ⟨_, R, x, i, rfl, hT, ok, qx, q⟩ := h
  refine ⟨_, pss_cons (ps_expr (pfE F_check_side hr (by decide) tk (pa_cons (pv 1) pa_nil))) (pss_cons (ps_set (i := 3) nd rfl (by first | exact .inl rfl | exact .inr rfl) (pe_bm PySem.F.plainAttrs_tuple PySem.F.slot_tuple_index PySem.F.type_tuple_index mt_tup_index (pe_glob (v := .ref (He.ga K "SIDES")) rfl T.g_SIDES rfl) (pa_cons (pv 1) pa_nil))) (pss_one (ps_ret (pf F_three_of hr (by decide) (pa_cons (pfE F_apply_swap hr (by decide) tk (pa_cons (pe_fld (pv 0) rfl) (pa_cons (pe_tup (pa_cons (pv 3) (pa_cons (pm F_ThreeWay_mirrored hr (by decide) (pv 0) (pa_cons (pv 3) (pa_cons (pv 2) pa_nil))) pa_nil))) pa_nil))) pa_nil))))), ?_⟩
  obtain ⟨a, dx, sv, rfl, ha, hs⟩ := id hT
  refine ⟨_, rfl, x, rfl, fun hx H1 e1 => ?_, qx⟩
  obtain ⟨k, hk, rfl⟩ := side_ex hx
  obtain ⟨qi, qv⟩ := q k hk rfl
  obtain ⟨h1, h2, h3⟩ := side_at hk
  refine ⟨T.sidesY _, _, rfl, He.ga K "SIDES", sides, _, k, rfl, rfl, T.sidesT _, h1, h2, ?_⟩
  refine ⟨_, rfl, a, _, dx, _, _, rfl, e1 _ _ ha, T.cl_ThreeWay, T.n_ThreeWay_state, rfl, _, rfl, _, rfl, a, dx, _, rfl, e1 _ _ ha, rfl, _, rfl, _, rfl, _, R, k, i, rfl, hT.mono e1, ok, fun H2 e2 => ⟨sz20 (show 2 ≤ 1000000 by decide), fun t nt => ?_⟩⟩
  have e3 : Ex H (upd H2 t (.tup [.int (k : Nat), .int (mirI R k i)])) := Ex.lay (e1.trans e2) nt
  have ht : upd H2 t (.tup [.int (k : Nat), .int (mirI R k i)]) t = some (.tup [.int (k : Nat), .int (mirI R k i)]) := upd_same
  generalize upd H2 t (.tup [.int (k : Nat), .int (mirI R k i)]) = H3 at e3 ht
  refine ⟨sv, t, R.inn, k, _, rfl, hs.mono e3, okw_inn ok, SqT.of ht, hk, fun h => (qi fun z => h (mirI_ok.mpr z)).mono e3, fun n hn hlt => ?_⟩
  have hv : 0 ≤ i ∧ i + 2 ≤ ((R.a.length : Nat) : Int) := (mirI_ok (R := R) (k := k) (i := i)).mp ⟨by omega, by omega⟩
  obtain ⟨m, rfl⟩ := Int.eq_ofNat_of_zero_le hv.1
  have hm : m + 1 < R.a.length := by omega
  rw [show mirI R k (m : Int) = ((R.mir k m : Nat) : Int) from mirI_nat hm] at hn
  obtain rfl : R.mir k m = n := by omega
  obtain ⟨qa, qs⟩ := qv m rfl hm
  refine ⟨fun h => (qa h).mono e3, fun h v' H4 e4 h4 => ?_⟩
  rw [← S3.inn_aft hm] at h4
  refine ⟨v', (R.aft k m).inn, rfl, h4, okw_inn ⟨S3.aft_ok ok.ok hm, ?_⟩, fun v2 H5 e5 h5 => ?_⟩
  · have z := (okw_inn ok).set (k := k) (l := exch (R.inn.get k) (R.mir k m)) (exch_perm (S3.mir_lt ok.ok hm))
    rw [← S3.inn_aft hm] at z
    have y := (okw_inn z).wf
    rw [S3.inn_inn] at y
    exact y
  · rw [S3.inn_inn] at h5
    exact qs h v2 H5 (e3.trans (e4.trans e5)) h5
def sp_ThreeWay_settled (K : PySem.W.Frag) : Sp := fun vs H Q E => ∃ v R, vs = [v] ∧ TW K H v R ∧ Okw R ∧ ∀ v' H', Ex H H' → TW K H' v' R.hms → Q v' H'
theorem ok_ThreeWay_settled (T : Wd P K mg) : Mt P w K mg base 8 (He.ga K "ThreeWay") "settled" (sp_ThreeWay_settled K) := by
  have F_settle := ok_settle (P := P) (w := w) (base := base) T
  have F_three_of := ok_three_of (P := P) (w := w) (base := base) T
  refine Mt.of T.cl_ThreeWay T.m_ThreeWay_settled T.f_ThreeWay_settled c_ThreeWay_settled (fun _ _ _ _ _ _ us hl => match us, hl with | [_], _ => rfl) (fun vs H Q E h => ?_) fun cdv A outer s H vs Q E hr h => ?_
  · obtain ⟨_, _, rfl, _⟩ := h
    rfl
  have nd := c_ThreeWay_settled.nd
  obtain ⟨_, R, rfl, ⟨a, dx, sv, rfl, ha, hs⟩, ok, q⟩ := h
  refine ⟨_, pss_one (ps_ret (pf F_three_of hr (by decide) (pa_cons (pfD F_settle hr (by decide) (pa_cons (pe_fld (pv 0) rfl) pa_nil)) pa_nil))), ?_⟩
  refine ⟨_, rfl, a, _, dx, _, _, rfl, ha, T.cl_ThreeWay, T.n_ThreeWay_state, rfl, sv, _, R.inn, rfl, T.dflt _, hs, okw_inn ok, fun v' H1 e1 h1 => ?_⟩
  refine ⟨v', R.inn.homes, rfl, h1, ⟨S3.homes_ok (S3.inn_ok ok.ok), (okw_inn ok).wf.perm (hm_perm ..)⟩, fun v2 H2 e2 h2 => q v2 H2 (e1.trans e2) h2⟩
end
end K38
end
section
set_option Elab.async false
set_option linter.all false
set_option maxRecDepth 100000
set_option maxHeartbeats 4000000
/-! The walk, fourth part: the law's own functions that draw nothing. -/
namespace K38
open PySem PySem.Spec PyProof.Rows L2
section
variable {P : Program} {w : World} {K : PySem.W.Frag} {mg : Str → Option Value} {base : Heap}
theorem cut_to {l : List Int} {i : Nat} : cutV (l.map V.int) none (some (i : Int)) = (l.take i).map V.int := by
  unfold cutV
  rw [HT.sIx_nat, HT.sIx_none, List.drop_zero, Nat.sub_zero, List.map_take, List.length_map]
  by_cases h : i ≤ l.length
  · rw [Nat.min_eq_left h]
  · rw [Nat.min_eq_right (by omega), List.take_of_length_le (by simp), List.take_of_length_le (by simp; omega)]
theorem cut_of {l : List Int} {i : Nat} : cutV (l.map V.int) (some (i : Int)) none = (l.drop i).map V.int := by
  unfold cutV
  rw [HT.sIx_nat, HT.sIx_none, List.map_drop]
  by_cases h : i ≤ (l.map V.int).length
  · rw [Nat.min_eq_left h, List.take_of_length_le (by rw [List.length_drop]; exact Nat.le_refl _)]
  · rw [Nat.min_eq_right (by omega), List.drop_eq_nil_of_le (Nat.le_refl _), List.drop_eq_nil_of_le (by omega)]
    simp
def sp_law_exchanged (K : PySem.W.Frag) : Sp := fun vs H Q E => ∃ v l i, vs = [v, .int (i : Nat)] ∧ LI H v l ∧ l.length ≤ 1000 ∧ i + 1 < l.length ∧ ∀ p H', H p = none → Ex H H' → H' p = some (.lst ((exch l i).map V.int)) → Q (.ref p) H'
theorem ok_law_exchanged (T : Wd P K mg) : Fn P w K mg base 1 "_law_exchanged" (sp_law_exchanged K) := by
  refine Fn.of T.g_law_exchanged T.f_law_exchanged c_law_exchanged (fun _ _ _ _ _ _ us hl => match us, hl with | [_, _], _ => rfl) (fun vs H Q E h => ?_) fun cdv A outer s H vs Q E hr h => ?_
  · obtain ⟨_, _, _, rfl, _⟩ := h
    rfl
  have nd := c_law_exchanged.nd
  obtain ⟨_, l, i, rfl, ⟨a, rfl, ha⟩, hl, hi, q⟩ := h
  refine ⟨_, pss_one (ps_ret (pe_op op_cat (pe_op op_cat (pe_slice (slLK (K := K)) (pv 0) (po_none) (po_some (pv 1))) (pe_lst (pa_cons (pe_ix (ixLK (K := K)) (pv 0) (pe_op op_add (pv 1) (pe_int)) (fun _ _ => rfl)) (pa_cons (pe_ix (ixLK (K := K)) (pv 0) (pv 1) (fun _ _ => rfl)) pa_nil)))) (pe_slice (slLK (K := K)) (pv 0) (po_some (pe_op op_add (pv 1) (pe_int))) (po_none)))), ?_⟩
  refine ⟨_, rfl, _, rfl, _, rfl, a, _, rfl, SqL.of ha, fun p1 n1 => ?_⟩
  rw [cut_to]
  have e1 : Ex H (upd H p1 (.lst ((l.take i).map V.int))) := Ex.lay ex0 n1
  have g1 : upd H p1 (.lst ((l.take i).map V.int)) p1 = some (.lst ((l.take i).map V.int)) := upd_same
  generalize upd H p1 (.lst ((l.take i).map V.int)) = H1 at e1 g1
  refine ⟨_, rfl, _, rfl, _, _, rfl, rfl, a, _, _, _, rfl, rfl, SqL.of (e1 _ _ ha), atI_nat (j := i + 1) (get_map (getD_at hi)), _, rfl, _, rfl, a, _, _, _, rfl, rfl, SqL.of (e1 _ _ ha), atI_nat (j := i) (get_map (getD_at (Nat.lt_of_succ_lt hi))), sz20 (show 2 ≤ 1000000 by decide), fun p2 n2 => ?_⟩
  have e2 : Ex H1 (upd H1 p2 (.lst [.int (l.getD (i + 1) 0), .int (l.getD i 0)])) := Ex.lay ex0 n2
  have g2 : upd H1 p2 (.lst [.int (l.getD (i + 1) 0), .int (l.getD i 0)]) p2 = some (.lst ([l.getD (i + 1) 0, l.getD i 0].map V.int)) := upd_same
  generalize upd H1 p2 (.lst [.int (l.getD (i + 1) 0), .int (l.getD i 0)]) = H2 at e2 g2
  refine ⟨p1, p2, _, _, rfl, rfl, e2 _ _ g1, g2, ?_, fun p3 n3 => ?_⟩
  · rw [List.length_map, List.length_map, List.length_take]
    exact sz20 (by simp; omega)
  rw [← List.map_append]
  have e3 : Ex H2 (upd H2 p3 (.lst ((l.take i ++ [l.getD (i + 1) 0, l.getD i 0]).map V.int))) := Ex.lay ex0 n3
  have g3 : upd H2 p3 (.lst ((l.take i ++ [l.getD (i + 1) 0, l.getD i 0]).map V.int)) p3 = some (.lst ((l.take i ++ [l.getD (i + 1) 0, l.getD i 0]).map V.int)) := upd_same
  generalize upd H2 p3 (.lst ((l.take i ++ [l.getD (i + 1) 0, l.getD i 0]).map V.int)) = H3 at e3 g3
  have e03 := e1.trans (e2.trans e3)
  refine ⟨_, rfl, _, rfl, _, _, rfl, rfl, _, rfl, a, _, rfl, SqL.of (e03 _ _ ha), fun p4 n4 => ?_⟩
  have ei : ((i : Int) + 2) = ((i + 2 : Nat) : Int) := rfl
  rw [ei, cut_of]
  have e4 : Ex H3 (upd H3 p4 (.lst ((l.drop (i + 2)).map V.int))) := Ex.lay ex0 n4
  have g4 : upd H3 p4 (.lst ((l.drop (i + 2)).map V.int)) p4 = some (.lst ((l.drop (i + 2)).map V.int)) := upd_same
  generalize upd H3 p4 (.lst ((l.drop (i + 2)).map V.int)) = H4 at e4 g4
  refine ⟨p3, p4, _, _, rfl, rfl, e4 _ _ g3, g4, ?_, fun p5 n5 => ?_⟩
  · rw [List.length_map, List.length_map, List.length_append, List.length_take, List.length_drop]
    exact sz20 (by simp; omega)
  rw [← List.map_append]
  refine q p5 _ (Evl.fresh_back (e03.trans e4) n5) (Ex.lay (e03.trans e4) n5) ?_
  rw [upd_same]
  unfold exch
  rw [List.append_assoc]
  rfl
def sp_law_after (K : PySem.W.Frag) : Sp := fun vs H Q E => ∃ v R k i, vs = [v, .int (k : Nat), .int (i : Nat)] ∧ LR H v R ∧ R.ok ∧ R.a.length ≤ 1000 ∧ k < 3 ∧ i + 1 < R.a.length ∧ ∀ p H', H p = none → Ex H H' → LR H' (.ref p) (R.aft k i) → Q (.ref p) H'
theorem ok_law_after (T : Wd P K mg) : Fn P w K mg base 2 "_law_after" (sp_law_after K) := by
  have F_law_exchanged := ok_law_exchanged (P := P) (w := w) (base := base) T
  refine Fn.of T.g_law_after T.f_law_after c_law_after (fun _ _ _ _ _ _ us hl => match us, hl with | [_, _, _], _ => rfl) (fun vs H Q E h => ?_) fun cdv A outer s H vs Q E hr h => ?_
  · obtain ⟨_, _, _, _, rfl, _⟩ := h
    rfl
  have nd := c_law_after.nd
  obtain ⟨_, R, k, i, rfl, ⟨a, u0, u1, u2, rfl, ha, h0, h1, h2⟩, ok, hlen, hk, hi, q⟩ := h
  refine ⟨_, pss_cons (ps_setLc (i := 3) (own := [("_law_row", 4)]) rfl nd rfl rfl (sw_true rfl rfl rfl (by decide +kernel)) (piLK (K := K) (pv 0)) (blkOk_by (N := n_law_after) (sc := defScope s_law_after) (by decide +kernel)) (fun _ _ _ _ _ => pg_name (i := 4) nd rfl (by first | exact .inl rfl | exact .inr rfl)) (fun _ _ _ _ _ => pts_nil) (fun _ _ _ _ _ => pe_callTy (listK (K := K)) rfl T.z_list (by decide +kernel) (pa_cons (pv 4) pa_nil))) (pss_cons (ps_asg (pf F_law_exchanged hr (by decide) (pa_cons (pe_ix (ixLK (K := K)) (pv 0) (pv 1) (fun _ _ => rfl)) (pa_cons (pv 2) pa_nil))) (pg_sub (pv 3) (pv 1) set_list)) (pss_one (ps_ret (pv 3)))), ?_⟩
  have hl := ok.len k
  refine ⟨_, rfl, a, rfl, ⟨_, SqL.of ha⟩, fun D nD => lcG walk_list (fun _ => true) (fun i y H' => ∃ c, y = .ref c ∧ c ≠ D ∧ H' c = some (.lst ((R.get i).map V.int))) (fun i y _ _ e ⟨c, h1, h2, h3⟩ => ⟨c, h1, h2, e _ _ h3⟩) (fun i y H' ys ys' hD ⟨c, h1, h2, h3⟩ => ⟨c, h1, h2, (upd_ne h2).trans h3⟩) (fun H' e => SqL.of (e _ _ ha)) (show 3 ≤ 1000000 by decide) nD (fun i y H' H'' Pn Pf hi hy e hD hp hf => ?_) fun ys H2 e2 hD gt => ?_⟩
  · obtain ⟨rfl, hy⟩ := hy
    refine ⟨rfl, ?_⟩
    obtain ⟨c, rfl, hc⟩ : LI H'' y (R.get i) := three_get (P := fun i y => LI H'' y (R.get i)) (h0.mono e) (h1.mono e) (h2.mono e) i y hy
    obtain ⟨ys, hD⟩ := hD
    exact ⟨_, rfl, c, _, rfl, .inl (SqL.of hc), fun p np => hp rfl _ _ (Ex.lay ex0 np) ⟨p, rfl, (ne_new hD np).symm, upd_same⟩⟩
  obtain ⟨hyl, hg⟩ := got_all gt
  obtain ⟨y0, y1, y2, rfl⟩ := three_of (hyl.trans (by rfl))
  have hu : ∃ u, [u0, u1, u2][k]? = some u ∧ LI H u (R.get k) := by
    match k, hk with
    | 0, _ => exact ⟨_, rfl, h0⟩
    | 1, _ => exact ⟨_, rfl, h1⟩
    | 2, _ => exact ⟨_, rfl, h2⟩
  obtain ⟨u, hu, hLu⟩ := hu
  refine ⟨_, rfl, _, rfl, a, _, _, _, rfl, rfl, SqL.of (e2 _ _ ha), atI_nat hu, _, rfl, u, R.get k, i, rfl, hLu.mono e2, by omega, by omega, fun p H3 _ e3 hp => ?_⟩
  have hD3 := e3 _ _ hD
  refine ⟨_, rfl, _, rfl, D, _, k, k, rfl, rfl, hD3, ixN_nat hk, ?_⟩
  have nu : ∀ c (l : List Int), H3 c = some (.lst (l.map V.int)) → l ≠ [] → c ≠ D := fun c l hc ne z => by
    rw [z, hD3] at hc
    obtain ⟨c0, rfl, _, _⟩ := hg 0 y0 rfl
    match l, hc with
    | x :: l, hc => cases hc
  have hrow : ∀ j y, [y0, y1, y2][j]? = some y → LI (upd H3 D (.lst ([y0, y1, y2].set k (.ref p)))) y (R.get j) := fun j y hy => by
    obtain ⟨c, rfl, hne, hc⟩ := hg j y hy
    exact ⟨c, rfl, (upd_ne hne).trans (e3 _ _ hc)⟩
  have hpR : LI (upd H3 D (.lst ([y0, y1, y2].set k (.ref p)))) (.ref p) (exch (R.get k) i) := by
    refine ⟨p, rfl, (upd_ne (nu p _ hp fun z => ?_)).trans hp⟩
    have := exch_len (l := R.get k) (i := i) (by omega)
    rw [z] at this
    simp at this
    omega
  refine ⟨_, rfl, q D _ nD (Evl.Ex.mut (e2.trans e3) nD) ?_⟩
  have hDD : upd H3 D (.lst ([y0, y1, y2].set k (.ref p))) D = some (.lst ([y0, y1, y2].set k (.ref p))) := upd_same
  match k, hk with
  | 0, _ => exact ⟨D, _, _, _, rfl, hDD, hpR, hrow 1 _ rfl, hrow 2 _ rfl⟩
  | 1, _ => exact ⟨D, _, _, _, rfl, hDD, hrow 0 _ rfl, hpR, hrow 2 _ rfl⟩
  | 2, _ => exact ⟨D, _, _, _, rfl, hDD, hrow 0 _ rfl, hrow 1 _ rfl, hpR⟩
def sp_law_places (K : PySem.W.Frag) : Sp := fun vs H Q E => ∃ v l, vs = [v] ∧ LI H v l ∧ Wf l ∧ ∀ p H', H p = none → Ex H H' → PL H' (.ref p) l → Q (.ref p) H'
theorem ok_law_places (T : Wd P K mg) : Fn P w K mg base 1 "_law_places" (sp_law_places K) := by
  refine Fn.of T.g_law_places T.f_law_places c_law_places (fun _ _ _ _ _ _ us hl => match us, hl with | [_], _ => rfl) (fun vs H Q E h => ?_) fun cdv A outer s H vs Q E hr h => ?_
  · obtain ⟨_, _, rfl, _⟩ := h
    rfl
  have nd := c_law_places.nd
  have hu := hu_of hr
  obtain ⟨_, l, rfl, ⟨a, rfl, ha⟩, wf, q⟩ := h
  refine ⟨_, pss_cons (ps_set (i := 1) nd rfl (by first | exact .inl rfl | exact .inr rfl) (pe_dnewK)) (pss_cons (ps_for PassesOwn.never rfl (pi_range1 rfl T.z_range (pa_cons (pe_callB (lenK (K := K)) rfl T.z_len (by decide +kernel) (pa_cons (pv 0) pa_nil)) pa_nil)) (pg_name (i := 2) nd rfl (by first | exact .inl rfl | exact .inr rfl)) (pss_one (ps_dput hu (pv 1) (pe_ix (ixLK (K := K)) (pv 0) (pv 2) (fun _ _ => rfl)) (pv 2) rfl))) (pss_one (ps_ret (pv 1)))), ?_⟩
  refine fun d hd => ?_
  have ha1 : upd H d (.dK []) a = some (.lst (l.map V.int)) := (upd_ne (ne_new ha hd)).trans ha
  have hl := wf.len
  refine ⟨_, rfl, a, _, rfl, .inl (SqL.of ha1), _, rfl, by rw [List.length_map]; omega, by rw [List.length_map]; omega, ?_⟩
  rw [Int.toNat_natCast, List.length_map]
  refine for_range (fun i σ H' => ∃ o, σ = [some (.ref a), some (.ref d), o] ∧ Ex H H' ∧ ∃ kvs, H' d = some (.dK kvs) ∧ Plc l i kvs) ⟨none, rfl, Ex.lay ex0 hd, [], upd_same, plc_nil l⟩ ?_ ?_
  · rintro i σ H1 hi ⟨o, rfl, e, kvs, hd1, hk⟩
    have hx := getD_at hi
    have ei : ((0 : Int) + (i : Nat)) = (i : Int) := Int.zero_add _
    rw [ei]
    have hl2 := hk.2
    refine ⟨_, rfl, _, rfl, _, rfl, _, rfl, a, _, _, _, rfl, rfl, SqL.of (e _ _ ha), atI_nat (j := i) (get_map hx), d, _, rfl, DPut.k (k := Sum.inl (l.getD i 0)) hd1 (sz20' (by omega)), ?_⟩
    exact ⟨_, rfl, Evl.Ex.mut e hd, _, upd_same, plc_step wf.nd hx hk⟩
  · rintro σ H1 ⟨o, rfl, e, kvs, hd1, hk⟩
    exact ⟨_, rfl, q d H1 hd e ⟨d, kvs, rfl, hd1, plc_end hk⟩⟩
def sp_law_wins (K : PySem.W.Frag) : Sp := fun vs H Q E => ∃ v R x y, vs = [v, .int x, .int y] ∧ LP H v R ∧ R.ok ∧ x ∈ R.a ∧ y ∈ R.a ∧ ∀ H', Ex H H' → Q (.bl (R.wins x y)) H'
theorem ok_law_wins (T : Wd P K mg) : Fn P w K mg base 1 "_law_wins" (sp_law_wins K) := by
  refine Fn.of T.g_law_wins T.f_law_wins c_law_wins (fun _ _ _ _ _ _ us hl => match us, hl with | [_, _, _], _ => rfl) (fun vs H Q E h => ?_) fun cdv A outer s H vs Q E hr h => ?_
  · obtain ⟨_, _, _, _, rfl, _⟩ := h
    rfl
  have nd := c_law_wins.nd
  have hu := hu_of hr
  obtain ⟨_, R, x, y, rfl, ⟨a, u0, u1, u2, rfl, ha, h0, h1, h2⟩, ok, hx, hy, q⟩ := h
  refine ⟨_, pss_cons (ps_set (i := 3) nd rfl (by first | exact .inl rfl | exact .inr rfl) (pe_cmpR op_lt (pe_dget hu (pe_ix (ixLK (K := K)) (pv 0) (pe_int) (fun _ _ => rfl)) (pv 1) (fun _ _ => rfl)) (pe_dget hu (pe_ix (ixLK (K := K)) (pv 0) (pe_int) (fun _ _ => rfl)) (pv 2) (fun _ _ => rfl)) (nomark _))) (pss_cons (ps_set (i := 4) nd rfl (by first | exact .inl rfl | exact .inr rfl) (pe_cmpR op_lt (pe_dget hu (pe_ix (ixLK (K := K)) (pv 0) (pe_int) (fun _ _ => rfl)) (pv 1) (fun _ _ => rfl)) (pe_dget hu (pe_ix (ixLK (K := K)) (pv 0) (pe_int) (fun _ _ => rfl)) (pv 2) (fun _ _ => rfl)) (nomark _))) (pss_cons (ps_if (pt_cmpR op_lt (pe_dget hu (pe_ix (ixLK (K := K)) (pv 0) (pe_int) (fun _ _ => rfl)) (pv 1) (fun _ _ => rfl)) (pe_dget hu (pe_ix (ixLK (K := K)) (pv 0) (pe_int) (fun _ _ => rfl)) (pv 2) (fun _ _ => rfl)) (nomark _)) (pss_one (ps_ret (pe_and (pv 3) (pe_one (pv 4))))) (pss_nil)) (pss_one (ps_ret (pe_or (pv 3) (pe_one (pv 4))))))), ?_⟩
  obtain ⟨d0, k0, rfl, hd0, hk0⟩ := h0
  obtain ⟨d1, k1, rfl, hd1, hk1⟩ := h1
  obtain ⟨d2, k2, rfl, hd2, hk2⟩ := h2
  have g : ∀ {d : Addr} {kvs : List (Key × V)} {l : List Int} {z : Int}, H d = some (.dK kvs) → (∀ x : Int, valV kvs (Sum.inl x) = if x ∈ l then some (.int (l.idxOf x : Nat)) else none) → z ∈ l → DGet H d (.int z) (some (.int (l.idxOf z : Nat))) := fun {d kvs l z} hd hk hz => by
    have y := DGet.k (k := Sum.inl z) hd
    rw [hk z, if_pos hz] at y
    exact y
  have x1 := ok.pb.mem_iff.mpr hx
  have y1 := ok.pb.mem_iff.mpr hy
  have x2 := ok.pc.mem_iff.mpr hx
  have y2 := ok.pc.mem_iff.mpr hy
  have eb : ∀ l : List Int, decide ((l.idxOf x : Nat) < ((l.idxOf y : Nat) : Int)) = bf l x y := fun l => by
    unfold bf
    simp
  have z := q H ex0
  unfold S3.wins at z
  refine ⟨_, rfl, _, _, _, _, rfl, rfl, SqL.of ha, atI_nat (j := 1) rfl, _, rfl, d1, _, rfl, g hd1 hk1 x1, _, rfl, _, _, _, _, rfl, rfl, SqL.of ha, atI_nat (j := 1) rfl, _, rfl, d1, _, rfl, g hd1 hk1 y1, _, _, rfl, rfl, ?_⟩
  refine ⟨_, rfl, _, _, _, _, rfl, rfl, SqL.of ha, atI_nat (j := 2) rfl, _, rfl, d2, _, rfl, g hd2 hk2 x2, _, rfl, _, _, _, _, rfl, rfl, SqL.of ha, atI_nat (j := 2) rfl, _, rfl, d2, _, rfl, g hd2 hk2 y2, _, _, rfl, rfl, ?_⟩
  refine ⟨_, rfl, _, _, _, _, rfl, rfl, SqL.of ha, atI_nat (j := 0) rfl, _, rfl, d0, _, rfl, g hd0 hk0 hx, _, rfl, _, _, _, _, rfl, rfl, SqL.of ha, atI_nat (j := 0) rfl, _, rfl, d0, _, rfl, g hd0 hk0 hy, _, _, rfl, rfl, _, rfl, ?_⟩
  simp only [eb]
  cases c0 : bf R.a x y <;> cases c1 : bf R.b x y <;> cases c2 : bf R.c x y
  all_goals (rw [c0, c1, c2] at z; first | exact ifF rfl ⟨_, rfl, _, rfl, ifF rfl ⟨_, rfl, z⟩⟩ | exact ifF rfl ⟨_, rfl, _, rfl, ifT rfl z⟩ | exact ifT rfl ⟨_, rfl, _, rfl, ifF rfl z⟩ | exact ifT rfl ⟨_, rfl, _, rfl, ifT rfl ⟨_, rfl, z⟩⟩)
/-- [_law_places(row) for row in rows] -/
theorem maps_rd {σ : L2.St} {H : Hp} {i j : Nat} {v : V} {R : S3} {Q : VK} (hv : σ[i]? = some (some v)) (hj : j < σ.length) (hR : LR H v R) (ok : Okw R) (q : ∀ D H', H D = none → Ex H H' → LP H' (.ref D) R → Q (.ref D) H') :
    tLc (iList K (tVar i)) (gName j) tYes (tCall (sp_law_places K) [] E0 (tCons (tVar j) tNil)) [j] σ H Q := by
  obtain ⟨a, u0, u1, u2, rfl, ha, h0, h1, h2⟩ := hR
  refine ⟨_, hv, a, rfl, ⟨_, SqL.of ha⟩, fun D nD => lcG walk_list (fun _ => true) (fun i y H' => PL H' y (R.get i)) (fun i y _ _ e r => r.mono e) (fun i y H' ys ys' hD r => ?_) (fun H' e => SqL.of (e _ _ ha)) (show 3 ≤ 1000000 by decide) nD (fun i y H' H'' Pn Pf hi hy e hD hp hf => ?_) fun ys H2 e2 hD gt => ?_⟩
  · obtain ⟨d, kvs, rfl, hd, hk⟩ := r
    exact ⟨d, kvs, rfl, (upd_ne (ne_of hd hD (by intro z; cases z))).trans hd, hk⟩
  · obtain ⟨rfl, hy⟩ := hy
    have hl : LI H'' y (R.get i) := three_get (P := fun i y => LI H'' y (R.get i)) (h0.mono e) (h1.mono e) (h2.mono e) i y hy
    refine ⟨?_, y, ?_, y, R.get i, rfl, hl, ok.get i, fun p2 H8 _ e8 hP => hp rfl _ _ e8 hP⟩
    · show (((σ.set j none).set j (some y)).set j none) = σ.set j none
      rw [List.set_set, List.set_set]
    · exact List.getElem?_set_self (by rw [wipe_length]; exact hj)
  · obtain ⟨hl, hg⟩ := got_all gt
    obtain ⟨y0, y1, y2, rfl⟩ := three_of (hl.trans (by rfl))
    exact q D H2 nD e2 ⟨D, y0, y1, y2, rfl, hD, hg 0 _ rfl, hg 1 _ rfl, hg 2 _ rfl⟩
theorem maps_seq {σ : L2.St} {H : Hp} {i j m : Nat} {nm : Str} {v : V} {R : S3} {D : Ends} {rest : TS} (hv : σ[i]? = some (some v)) (hj : j < σ.length) (hR : LR H v R) (ok : Okw R) (q : ∀ d H', H d = none → Ex H H' → LP H' (.ref d) R → rest D (σ.set m (some (.ref d))) H') :
    tSeq (tAsg (tLc (iList K (tVar i)) (gName j) tYes (tCall (sp_law_places K) [] E0 (tCons (tVar j) tNil)) (List.map (fun x => x.2) [(nm, j)])) (gName m)) rest D σ H := maps_rd (Q := fun x H1 => gName m x σ H1 (rest D)) hv hj hR ok q
theorem range_getD {α : Type} (ks : List Int) (p : Int → Bool) (h : Int → α) : ((List.range ks.length).filter fun i => p (ks.getD i 0)).map (fun i => h (ks.getD i 0)) = (ks.filter p).map h := by
  have e : ks = (List.range ks.length).map fun i => ks.getD i 0 := by
    apply List.ext_getElem?
    intro i
    rw [List.getElem?_map]
    by_cases hi : i < ks.length
    · rw [List.getElem?_range hi, getD_at hi]
      rfl
    · rw [List.getElem?_eq_none (by omega), List.getElem?_eq_none (by rw [List.length_range]; omega)]
      rfl
  conv => rhs; rw [e, List.filter_map, List.map_map]
  rfl
theorem got_refs {β : Type} {F : β → Addr → Prop} {f : Nat → Bool} {n : Nat} {g : Nat → β} {ys : List V} {H : Hp} {Rel : Nat → V → Hp → Prop} (gt : Got f n Rel ys H) (hr : ∀ i y, Rel i y H → ∃ c, y = .ref c ∧ F (g i) c) : ∃ cs : List Addr, ys = cs.map V.ref ∧ Paired F (((List.range n).filter f).map g) cs := by
  obtain ⟨hl, hg⟩ := gt
  generalize (List.range n).filter f = ix at hl hg
  induction ix generalizing ys with
  | nil =>
    cases ys with
    | nil => exact ⟨[], rfl, .nil⟩
    | cons y ys => cases hl
  | cons i ix ih =>
    cases ys with
    | nil => cases hl
    | cons y ys =>
      obtain ⟨y', e, r⟩ := hg 0 i rfl
      cases e
      obtain ⟨c, rfl, fc⟩ := hr i _ r
      obtain ⟨cs, rfl, pc⟩ := ih (Nat.succ.inj hl) fun k j hk => hg (k + 1) j hk
      exact ⟨c :: cs, rfl, .cons fc pc⟩
theorem paired_app {α β : Type} {F : α → β → Prop} : ∀ {l1 l2 : List α} {m1 m2 : List β}, Paired F l1 m1 → Paired F l2 m2 → Paired F (l1 ++ l2) (m1 ++ m2)
  | _, _, _, _, .nil, h => h
  | _, _, _, _, .cons r t, h => .cons r (paired_app t h)
abbrev dP (ps : List (Int × Int)) : PyData := .list (ps.map fun p => .tuple [.int p.1, .int p.2])
theorem eqv_pair (p q : Int × Int) : PyData.eqv (.tuple [.int p.1, .int p.2]) (.tuple [.int q.1, .int q.2]) = decide (p = q) := by
  rw [PyData.eqv, PyData.eqvAll, PyData.eqvAll, PyData.eqvAll, eqv_int, eqv_int]
  obtain ⟨a, b⟩ := p
  obtain ⟨c, d⟩ := q
  by_cases h1 : a = c <;> by_cases h2 : b = d <;> simp [h1, h2]
theorem eqv_dP (p q : List (Int × Int)) : PyData.eqv (dP p) (dP q) = decide (p = q) := by
  show PyData.eqv (.list _) (.list _) = _
  rw [PyData.eqv]
  exact eqvAll_map eqv_pair p q
theorem lay_dP (l : List (Int × Int)) : (dP l).canLay0 = true := by
  show PyData.canLay0 (.list _) = true
  rw [PyData.canLay0]
  exact lay_map (fun x => by simp [PyData.canLay0, PyData.canLayAll0]) l
theorem depth_dP (l : List (Int × Int)) : (dP l).depth ≤ 2 := by
  show PyData.depth (.list _) ≤ 2
  rw [PyData.depth]
  exact Nat.succ_le_succ (depth_map (n := 1) (fun x => by simp [PyData.depth, PyData.depthAll]) l)
theorem dp_pairs {H : Hp} {ps : List (Int × Int)} {cs : List Addr} (h : Paired (fun (q : Int × Int) (c : Addr) => H c = some (.tup [.int q.1, .int q.2])) ps cs) : DpAll K H (cs.map V.ref) (ps.map fun p => .tuple [.int p.1, .int p.2]) := by
  induction h with
  | nil => exact .nil
  | cons r _ ih => exact .cons (.tup (SqT.of r) (.cons (.int _) (.cons (.int _) .nil))) ih
theorem dp_LQ {H : Hp} {v : V} {ps : List (Int × Int)} (h : LQ H v ps) : Dp K H v (dP ps) := by
  obtain ⟨a, cs, rfl, ha, hc⟩ := h
  exact .lst (SqL.of ha) (dp_pairs hc)
theorem okw_aft {R : S3} (ok : Okw R) {k i : Nat} (hi : i + 1 < R.a.length) : Okw (R.aft k i) := by
  have hl := ok.ok.len k
  exact ok.set (exch_perm (by omega))
def sp_law_merge (K : PySem.W.Frag) : Sp := fun vs H Q E => ∃ v R, vs = [v] ∧ LR H v R ∧ Okw R ∧ ∀ v' H', Ex H H' → LQ H' v' R.mrg → Q v' H'
theorem ok_law_merge (T : Wd P K mg) : Fn P w K mg base 2 "_law_merge" (sp_law_merge K) := by
  have F_law_places := ok_law_places (P := P) (w := w) (base := base) T
  have F_law_wins := ok_law_wins (P := P) (w := w) (base := base) T
  refine Fn.of T.g_law_merge T.f_law_merge c_law_merge (fun _ _ _ _ _ _ us hl => match us, hl with | [_], _ => rfl) (fun vs H Q E h => ?_) fun cdv A outer s H vs Q E hr h => ?_
  · obtain ⟨_, _, rfl, _⟩ := h
    rfl
  have nd := c_law_merge.nd
  obtain ⟨v, R, rfl, hR, ok, q⟩ := h
  refine ⟨_, pss_cons (ps_set (i := 1) nd rfl (by first | exact .inl rfl | exact .inr rfl) (pe_lc (own := [("_law_row", 5)]) rfl nd (piLK (K := K) (pv 0)) (blkOk_by (N := n_law_merge) (sc := defScope s_law_merge) (by decide +kernel)) (fun _ _ _ _ _ => pg_name (i := 5) nd rfl (by first | exact .inl rfl | exact .inr rfl)) (fun _ _ _ _ _ => pts_nil) (fun _ _ _ _ _ => pf F_law_places hr (by decide) (pa_cons (pv 5) pa_nil)))) (pss_cons (ps_set (i := 2) nd rfl (by first | exact .inl rfl | exact .inr rfl) (pe_callB cr_sorted rfl T.z_sorted (by decide +kernel) (pa_cons (pe_ix (ixLK (K := K)) (pv 0) (pe_int) (fun _ _ => rfl)) pa_nil))) (pss_cons (ps_set (i := 3) nd rfl (by first | exact .inl rfl | exact .inr rfl) (pe_lst (pa_nil))) (pss_cons (ps_for PassesOwn.never rfl (piLK (K := K) (pv 2)) (pg_name (i := 4) nd rfl (by first | exact .inl rfl | exact .inr rfl)) (pss_one (ps_set (i := 3) nd rfl (by first | exact .inl rfl | exact .inr rfl) (pe_op op_cat (pv 3) (pe_lc (own := [("_law_y", 6)]) rfl nd (piLK (K := K) (pv 2)) (blkOk_by (N := n_law_merge) (sc := defScope s_law_merge) (by decide +kernel)) (fun _ _ _ _ _ => pg_name (i := 6) nd rfl (by first | exact .inl rfl | exact .inr rfl)) (fun _ _ _ _ _ => pts_one (pt_val (pf F_law_wins hr (by decide) (pa_cons (pv 1) (pa_cons (pv 4) (pa_cons (pv 6) pa_nil)))))) (fun _ _ _ _ _ => pe_tup (pa_cons (pv 4) (pa_cons (pv 6) pa_nil)))))))) (pss_one (ps_ret (pv 3)))))), ?_⟩
  obtain ⟨a, u0, u1, u2, rfl, ha, h0, h1, h2⟩ := id hR
  refine maps_seq (v := .ref a) rfl (show 5 < 7 by decide) hR ok fun D H1 _ e1 hP => ?_
  obtain ⟨c, rfl, hc⟩ := h0
  refine ⟨_, rfl, a, _, _, _, rfl, rfl, SqL.of (e1 _ _ ha), atI_nat (j := 0) rfl, c, R.a, rfl, SqL.of (e1 _ _ hc), Nat.lt_of_le_of_lt ok.wf.len (by decide), fun ns kq hperm hs np => ?_⟩
  obtain rfl : ns = srt R.a := srt_of hperm hs
  have e2 : Ex H (upd H1 kq (.lst ((srt R.a).map V.int))) := Ex.lay e1 np
  have hP2 : LP (upd H1 kq (.lst ((srt R.a).map V.int))) (.ref D) R := hP.mono (Ex.lay ex0 np)
  have hq : upd H1 kq (.lst ((srt R.a).map V.int)) kq = some (.lst ((srt R.a).map V.int)) := upd_same
  generalize upd H1 kq (.lst ((srt R.a).map V.int)) = H2 at e2 hP2 hq
  refine ⟨sz20 (show 0 ≤ 1000000 by decide), fun p0 n0 => ?_⟩
  have wk := wf_srt ok.wf
  refine ⟨_, rfl, kq, rfl, ⟨_, SqL.of (Ex.lay ex0 n0 _ _ hq)⟩, for_list (fun i σ H' => ∃ o4 p, σ = [some (.ref a), some (.ref D), some (.ref kq), some (.ref p), o4, none, none] ∧ Ex H2 H' ∧ ∃ cs, H' p = some (.lst (cs.map V.ref)) ∧ Paired (fun (q : Int × Int) (c : Addr) => H' c = some (.tup [.int q.1, .int q.2])) (((srt R.a).take i).flatMap fun x => ((srt R.a).filter (R.wins x)).map fun y => (x, y)) cs) ⟨none, p0, rfl, Ex.lay ex0 n0, [], upd_same, .nil⟩ (fun i σ H' _ h => SqL.of (h.choose_spec.choose_spec.2.1 _ _ hq)) ?_ ?_⟩
  · rintro i x2 σ H3 hi ⟨o4, p, rfl, e3, cs, hp, hcs⟩
    obtain ⟨x, hx, rfl⟩ := map_get hi
    have mx := srt_mem.mp (List.mem_of_getElem? hx)
    refine ⟨_, rfl, _, rfl, kq, rfl, ⟨_, SqL.of (e3 _ _ hq)⟩, fun E1 nE => lcG walk_list (fun j => R.wins x ((srt R.a).getD j 0)) (fun j y H' => ∃ c, y = .ref c ∧ H' c = some (.tup [.int x, .int ((srt R.a).getD j 0)])) (fun j y _ _ e ⟨c, h1, h2⟩ => ⟨c, h1, e _ _ h2⟩) (fun j y H' ys ys' hD ⟨c, h1, h2⟩ => ⟨c, h1, (upd_ne (ne_of h2 hD (by intro z; cases z))).trans h2⟩) (fun H' e => SqL.of (e _ _ (e3 _ _ hq))) ?_ nE (fun j y2 H' H'' Pn Pf hj hy e hD hpn hpf => ?_) fun ys H4 e4 hE gt => ?_⟩
    · rw [List.length_map]
      have := wk.len
      omega
    · obtain ⟨rfl, hy⟩ := hy
      obtain ⟨y, hy3, rfl⟩ := map_get hy
      have my := srt_mem.mp (List.mem_of_getElem? hy3)
      have ey : (srt R.a).getD j 0 = y := by rw [List.getD_eq_getElem?_getD, hy3]; rfl
      rw [ey] at hpn hpf
      refine ⟨rfl, _, rfl, _, rfl, _, rfl, _, R, x, y, rfl, hP2.mono (e3.trans e), ok.ok, mx, my, fun H5 e5 => ⟨_, rfl, ?_⟩⟩
      cases hb : R.wins x y
      · exact ifF rfl (hpf hb _ e5)
      · exact ifT rfl ⟨_, rfl, _, rfl, sz20 (show 2 ≤ 1000000 by decide), fun t nt => hpn hb _ _ (Ex.lay e5 nt) ⟨t, rfl, upd_same⟩⟩
    · obtain ⟨ds, rfl, hds⟩ := got_refs (F := fun (q : Int × Int) (c : Addr) => H4 c = some (.tup [.int q.1, .int q.2])) (g := fun j => (x, (srt R.a).getD j 0)) gt fun j y ⟨c, h1, h2⟩ => ⟨c, h1, h2⟩
      rw [List.length_map, range_getD (srt R.a) (R.wins x) fun y => (x, y)] at hds
      have hcs4 : Paired (fun (q : Int × Int) (c : Addr) => H4 c = some (.tup [.int q.1, .int q.2])) _ cs := Paired.mapP hcs fun _ _ z => e4 _ _ z
      have hall := paired_app hcs4 hds
      have hfin : (((srt R.a).take i).flatMap fun x => ((srt R.a).filter (R.wins x)).map fun y => (x, y)) ++ ((srt R.a).filter (R.wins x)).map (fun y => (x, y)) = ((srt R.a).take (i + 1)).flatMap fun x => ((srt R.a).filter (R.wins x)).map fun y => (x, y) := by
        rw [take_snoc hx, List.flatMap_append]
        simp
      refine ⟨p, E1, _, _, rfl, rfl, e4 _ _ hp, hE, ?_, fun p2 np2 => ?_⟩
      · have z := Paired.length hall
        rw [hfin] at z
        have z3 : (((srt R.a).take (i + 1)).flatMap fun x => ((srt R.a).filter (R.wins x)).map fun y => (x, y)).length ≤ 144 := by
          rw [List.length_flatMap]
          have : ∀ m : List Int, (m.map fun x => (((srt R.a).filter (R.wins x)).map fun y => (x, y)).length).sum ≤ m.length * 12 := by
            intro m
            induction m with
            | nil => simp
            | cons c m ih =>
              have h3 : (((srt R.a).filter (R.wins c)).map fun y => (c, y)).length ≤ 12 := by
                rw [List.length_map]
                exact Nat.le_trans (List.length_filter_le ..) wk.len
              rw [List.map_cons, List.sum_cons, List.length_cons]
              omega
          have hl : ((srt R.a).take (i + 1)).length ≤ 12 := by
            rw [List.length_take]
            have := wk.len
            omega
          have := this ((srt R.a).take (i + 1))
          omega
        rw [List.length_append] at z
        rw [List.length_map, List.length_map]
        exact sz20 (by omega)
      · refine ⟨_, p2, rfl, Ex.lay (e3.trans e4) np2, cs ++ ds, by rw [upd_same, List.map_append], ?_⟩
        rw [← hfin]
        exact Paired.mapP hall fun q c z => (upd_ne (ne_new z np2)).trans z
  · rintro σ H3 ⟨o4, p, rfl, e3, cs, hp, hcs⟩
    rw [List.length_map, List.take_length] at hcs
    exact ⟨_, rfl, q _ H3 (e2.trans e3) ⟨p, cs, rfl, hp, hcs⟩⟩
def sp_law_build (K : PySem.W.Frag) : Sp := fun vs H Q E => ∃ v R, vs = [v] ∧ LR H v R ∧ Okw R ∧ ∀ v' H', Ex H H' → TW K H' v' R → Q v' H'
theorem ok_law_build (T : Wd P K mg) : Fn P w K mg base 7 "_law_build" (sp_law_build K) := by
  have F_ThreeWay_init := ok_ThreeWay_init (P := P) (w := w) (base := base) T
  refine Fn.of T.g_law_build T.f_law_build c_law_build (fun _ _ _ _ _ _ us hl => match us, hl with | [_], _ => rfl) (fun vs H Q E h => ?_) fun cdv A outer s H vs Q E hr h => ?_
  · obtain ⟨_, _, rfl, _⟩ := h
    rfl
  have nd := c_law_build.nd
  obtain ⟨_, R, rfl, ⟨a, u0, u1, u2, rfl, ha, ⟨c0, rfl, h0⟩, ⟨c1, rfl, h1⟩, ⟨c2, rfl, h2⟩⟩, ok, q⟩ := h
  refine ⟨_, pss_one (ps_ret (pk F_ThreeWay_init hr (by decide) (pa_cons (pe_callTy (listK (K := K)) rfl T.z_list (by decide +kernel) (pa_cons (pe_ix (ixLK (K := K)) (pv 0) (pe_int) (fun _ _ => rfl)) pa_nil)) (pa_cons (pe_callTy (listK (K := K)) rfl T.z_list (by decide +kernel) (pa_cons (pe_ix (ixLK (K := K)) (pv 0) (pe_int) (fun _ _ => rfl)) pa_nil)) (pa_cons (pe_callTy (listK (K := K)) rfl T.z_list (by decide +kernel) (pa_cons (pe_ix (ixLK (K := K)) (pv 0) (pe_int) (fun _ _ => rfl)) pa_nil)) pa_nil))))), ?_⟩
  refine ⟨_, rfl, a, _, _, _, rfl, rfl, SqL.of ha, atI_nat (j := 0) rfl, c0, _, rfl, .inl (SqL.of h0), fun l1 n1 => ?_⟩
  have e1 : Ex H (upd H l1 (.lst (R.a.map V.int))) := Ex.lay ex0 n1
  have g1 : upd H l1 (.lst (R.a.map V.int)) l1 = some (.lst (R.a.map V.int)) := upd_same
  generalize upd H l1 (.lst (R.a.map V.int)) = H1 at e1 g1
  refine ⟨_, rfl, a, _, _, _, rfl, rfl, SqL.of (e1 _ _ ha), atI_nat (j := 1) rfl, c1, _, rfl, .inl (SqL.of (e1 _ _ h1)), fun l2 n2 => ?_⟩
  have e2 : Ex H1 (upd H1 l2 (.lst (R.b.map V.int))) := Ex.lay ex0 n2
  have g2 : upd H1 l2 (.lst (R.b.map V.int)) l2 = some (.lst (R.b.map V.int)) := upd_same
  generalize upd H1 l2 (.lst (R.b.map V.int)) = H2 at e2 g2
  have e12 := e1.trans e2
  refine ⟨_, rfl, a, _, _, _, rfl, rfl, SqL.of (e12 _ _ ha), atI_nat (j := 2) rfl, c2, _, rfl, .inl (SqL.of (e12 _ _ h2)), fun l3 n3 => ?_⟩
  have e3 : Ex H2 (upd H2 l3 (.lst (R.c.map V.int))) := Ex.lay ex0 n3
  have g3 : upd H2 l3 (.lst (R.c.map V.int)) l3 = some (.lst (R.c.map V.int)) := upd_same
  generalize upd H2 l3 (.lst (R.c.map V.int)) = H3 at e3 g3
  refine fun x dx nx ndx ne => ?_
  have eM : Ex H3 (upd (upd H3 dx (.own x)) x (.ins (cT K) dx [])) := Ex.made nx ndx ne
  exact ⟨x, dx, _, _, _, R, rfl, upd_same, ⟨l1, rfl, eM _ _ (e3 _ _ (e2 _ _ g1))⟩, ⟨l2, rfl, eM _ _ (e3 _ _ g2)⟩, ⟨l3, rfl, eM _ _ g3⟩, ok, fun H4 e4 hT => ⟨rfl, q _ _ (e12.trans (e3.trans (ExB.back eM nx e4))) hT⟩⟩
def sp_law_shown (K : PySem.W.Frag) : Sp := fun vs H Q E => ∃ v R, vs = [v] ∧ TW K H v R ∧ ∀ p H', H p = none → Ex H H' → LR H' (.ref p) R → Q (.ref p) H'
theorem ok_law_shown (T : Wd P K mg) : Fn P w K mg base 4 "_law_shown" (sp_law_shown K) := by
  have F_ThreeWay_side := ok_ThreeWay_side (P := P) (w := w) (base := base) T
  refine Fn.of T.g_law_shown T.f_law_shown c_law_shown (fun _ _ _ _ _ _ us hl => match us, hl with | [_], _ => rfl) (fun vs H Q E h => ?_) fun cdv A outer s H vs Q E hr h => ?_
  · obtain ⟨_, _, rfl, _⟩ := h
    rfl
  have nd := c_law_shown.nd
  obtain ⟨_, R, rfl, hT, q⟩ := h
  refine ⟨_, pss_one (ps_ret (pe_lst (pa_cons (pm F_ThreeWay_side hr (by decide) (pv 0) (pa_cons (pe_str) pa_nil)) (pa_cons (pm F_ThreeWay_side hr (by decide) (pv 0) (pa_cons (pe_str) pa_nil)) (pa_cons (pm F_ThreeWay_side hr (by decide) (pv 0) (pa_cons (pe_str) pa_nil)) pa_nil))))), ?_⟩
  obtain ⟨a, dx, sv, rfl, ha, hs⟩ := id hT
  refine ⟨_, rfl, a, dx, _, rfl, ha, rfl, _, R, 0, rfl, hT, by decide, fun p1 H1 _ e1 h1 => ?_⟩
  refine ⟨_, rfl, a, dx, _, rfl, e1 _ _ ha, rfl, _, R, 1, rfl, hT.mono e1, by decide, fun p2 H2 _ e2 h2 => ?_⟩
  have e12 := e1.trans e2
  refine ⟨_, rfl, a, dx, _, rfl, e12 _ _ ha, rfl, _, R, 2, rfl, hT.mono e12, by decide, fun p3 H3 _ e3 h3 => ?_⟩
  have e13 := e12.trans e3
  refine ⟨sz20 (show 3 ≤ 1000000 by decide), fun p np => ?_⟩
  have e4 : Ex H3 (upd H3 p (.lst [.ref p1, .ref p2, .ref p3])) := Ex.lay ex0 np
  exact q p _ (Evl.fresh_back e13 np) (e13.trans e4) ⟨p, _, _, _, rfl, upd_same, ⟨p1, rfl, e4 _ _ (e3 _ _ (e2 _ _ h1))⟩, ⟨p2, rfl, e4 _ _ (e3 _ _ h2)⟩, ⟨p3, rfl, e4 _ _ h3⟩⟩
def sp_law_silent (K : PySem.W.Frag) : Sp := fun vs H Q E => ∃ v R, vs = [v] ∧ LR H v R ∧ Okw R ∧ ∀ p cs H', H p = none → Ex H H' → H' p = some (.lst (cs.map V.ref)) → Paired (fun (e : Nat × Nat) (c : Addr) => H' c = some (.tup [.str (sideN e.1), .int (e.2 : Nat)])) R.silL cs → Q (.ref p) H'
theorem ok_law_silent (T : Wd P K mg) : Fn P w K mg base 3 "_law_silent" (sp_law_silent K) := by
  have F_law_after := ok_law_after (P := P) (w := w) (base := base) T
  have F_law_merge := ok_law_merge (P := P) (w := w) (base := base) T
  refine Fn.of T.g_law_silent T.f_law_silent c_law_silent (fun _ _ _ _ _ _ us hl => match us, hl with | [_], _ => rfl) (fun vs H Q E h => ?_) fun cdv A outer s H vs Q E hr h => ?_
  · obtain ⟨_, _, rfl, _⟩ := h
    rfl
  have nd := c_law_silent.nd
  have hu64 := hr.units
  obtain ⟨_, R, rfl, hR, ok, q⟩ := h
  refine ⟨_, pss_cons (ps_set (i := 1) nd rfl (by first | exact .inl rfl | exact .inr rfl) (pf F_law_merge hr (by decide) (pa_cons (pv 0) pa_nil))) (pss_cons (ps_set (i := 2) nd rfl (by first | exact .inl rfl | exact .inr rfl) (pe_lst (pa_cons (pe_str) (pa_cons (pe_str) (pa_cons (pe_str) pa_nil))))) (pss_cons (ps_set (i := 3) nd rfl (by first | exact .inl rfl | exact .inr rfl) (pe_lst (pa_nil))) (pss_cons (ps_for PassesOwn.never rfl (pi_range1 rfl T.z_range (pa_cons (pe_int) pa_nil)) (pg_name (i := 4) nd rfl (by first | exact .inl rfl | exact .inr rfl)) (pss_one (ps_for PassesOwn.never rfl (pi_range1 rfl T.z_range (pa_cons (pe_op op_sub (pe_callB (lenK (K := K)) rfl T.z_len (by decide +kernel) (pa_cons (pe_ix (ixLK (K := K)) (pv 0) (pe_int) (fun _ _ => rfl)) pa_nil)) (pe_int)) pa_nil)) (pg_name (i := 5) nd rfl (by first | exact .inl rfl | exact .inr rfl)) (pss_one (ps_if (pt_cmpR (op_eqD hu64) (pf F_law_merge hr (by decide) (pa_cons (pf F_law_after hr (by decide) (pa_cons (pv 0) (pa_cons (pv 4) (pa_cons (pv 5) pa_nil)))) pa_nil)) (pv 1) (nomark _)) (pss_one (ps_expr (pe_bm PySem.F.plainAttrs_list PySem.F.slot_list_append PySem.F.type_list_append mt_append (pv 3) (pa_cons (pe_tup (pa_cons (pe_ix (ixLK (K := K)) (pv 2) (pv 4) (fun _ _ => rfl)) (pa_cons (pv 5) pa_nil))) pa_nil)))) (pss_nil)))))) (pss_one (ps_ret (pv 3)))))), ?_⟩
  obtain ⟨a, u0, u1, u2, rfl, ha, ⟨b, rfl, hb⟩, h1, h2⟩ := id hR
  refine ⟨_, rfl, _, R, rfl, hR, ok, fun nowv H1 e1 hN => ?_⟩
  refine ⟨sz20 (show 3 ≤ 1000000 by decide), fun nm nn => ?_⟩
  have e2 : Ex H (upd H1 nm (.lst (sides.map V.str))) := Ex.lay e1 nn
  have hN2 : LQ (upd H1 nm (.lst (sides.map V.str))) nowv R.mrg := hN.mono (Ex.lay ex0 nn)
  have hnm : upd H1 nm (.lst (sides.map V.str)) nm = some (.lst (sides.map V.str)) := upd_same
  show tSeq _ _ _ _ (upd H1 nm (.lst (sides.map V.str)))
  generalize upd H1 nm (.lst (sides.map V.str)) = H2 at e2 hN2 hnm
  refine ⟨sz20 (show 0 ≤ 1000000 by decide), fun f nf => ?_⟩
  refine ⟨3, rfl, by decide, by decide, for_range (fun i σ H' => ∃ o4 o5, σ = [some (.ref a), some nowv, some (.ref nm), some (.ref f), o4, o5] ∧ Ex H2 H' ∧ ∃ cs, H' f = some (.lst (cs.map V.ref)) ∧ Paired (fun (e : Nat × Nat) (c : Addr) => H' c = some (.tup [.str (sideN e.1), .int (e.2 : Nat)])) (silU R i) cs) ⟨none, none, rfl, Ex.lay ex0 nf, [], upd_same, .nil⟩ ?_ ?_⟩
  · rintro i σ H3 hi ⟨o4, o5, rfl, e3, cs, hf, hcs⟩
    have hi3 : i < 3 := hi
    have ei : ((0 : Int) + (i : Nat)) = (i : Int) := Int.zero_add _
    rw [ei]
    have e03 := e2.trans e3
    refine ⟨_, rfl, a, _, _, _, rfl, rfl, SqL.of (e03 _ _ ha), atI_nat (j := 0) rfl, b, _, rfl, .inl (SqL.of (e03 _ _ hb)), _, _, rfl, rfl, _, rfl, by omega, by rw [List.length_map]; have := ok.wf.len; omega, ?_⟩
    have eN : ((((R.a.map V.int).length : Nat) : Int) - 1).toNat = R.a.length - 1 := by rw [List.length_map]; omega
    rw [eN]
    refine for_range (fun j σ H' => ∃ o5, σ = [some (.ref a), some nowv, some (.ref nm), some (.ref f), some (.int (i : Nat)), o5] ∧ Ex H2 H' ∧ ∃ cs, H' f = some (.lst (cs.map V.ref)) ∧ Paired (fun (e : Nat × Nat) (c : Addr) => H' c = some (.tup [.str (sideN e.1), .int (e.2 : Nat)])) (silU R i ++ ((List.range j).filter fun j => R.silR i j).map fun j => (i, j)) cs) ⟨o5, rfl, e3, cs, hf, by simpa using hcs⟩ ?_ ?_
    · rintro j σ H4 hj ⟨o5, rfl, e4, cs4, hf4, hcs4⟩
      have hj1 : j + 1 < R.a.length := by omega
      have ej : ((0 : Int) + (j : Nat)) = (j : Int) := Int.zero_add _
      rw [ej]
      have e04 := e2.trans e4
      refine ⟨_, rfl, _, rfl, _, rfl, _, R, i, j, rfl, hR.mono e04, ok.ok, by have := ok.wf.len; omega, hi3, hj1, fun p H5 _ e5 hp => ?_⟩
      refine ⟨_, _, rfl, hp, okw_aft ok hj1, fun mv H6 e6 hm => ?_⟩
      have e46 := e5.trans e6
      refine ⟨_, rfl, dP (R.aft i j).mrg, dP R.mrg, dp_LQ hm, dp_LQ (hN2.mono (e4.trans e46)), shaped_of (lay_dP _) (Nat.le_trans (depth_dP _) (by decide)), shaped_of (lay_dP _) (Nat.le_trans (depth_dP _) (by decide)), _, rfl, ?_⟩
      rw [eqv_dP]
      have hf6 := e46 _ _ hf4
      have hcs6 : Paired (fun (e : Nat × Nat) (c : Addr) => H6 c = some (.tup [.str (sideN e.1), .int (e.2 : Nat)])) _ cs4 := Paired.mapP hcs4 fun _ _ z => e46 _ _ z
      cases hb2 : R.silR i j
      · refine ifF (decide_eq_false fun z => ?_) ⟨_, rfl, e4.trans e46, cs4, hf6, ?_⟩
        · rw [(S3.law_sil ok.ok hj1).mp z] at hb2
          cases hb2
        · rw [range_no (f := fun j => R.silR i j) hb2]
          exact hcs6
      · refine ifT (decide_eq_true ((S3.law_sil ok.ok hj1).mpr hb2)) ?_
        refine ⟨_, rfl, .inl ⟨rfl, _, SqL.of hf6⟩, _, rfl, _, rfl, nm, _, _, _, rfl, rfl, SqL.of ((e4.trans e46) _ _ hnm), atI_nat (j := i) (by rw [List.getElem?_map, (side_at hi3).1]; rfl), _, rfl, sz20 (show 2 ≤ 1000000 by decide), fun u nu => ⟨f, cs4.map V.ref, .ref u, rfl, rfl, (upd_ne (ne_new hf6 nu)).trans hf6, ?_, ?_⟩⟩
        · have z := Paired.length hcs6
          have z1 := silU_len R ok.wf.len i
          have z2 : (((List.range j).filter fun j => R.silR i j).map fun j => (i, j)).length ≤ 12 := by
            rw [List.length_map]
            refine Nat.le_trans (List.length_filter_le ..) ?_
            rw [List.length_range]
            have := ok.wf.len
            omega
          rw [List.length_append] at z
          rw [List.length_map]
          exact sz20' (by omega)
        · refine ⟨_, rfl, Evl.Ex.mut (Ex.lay (e4.trans e46) nu) nf, cs4 ++ [u], by rw [upd_same, List.map_append]; rfl, ?_⟩
          rw [range_yes (f := fun j => R.silR i j) hb2, List.map_append, ← List.append_assoc]
          have nuf : u ≠ f := fun z => by rw [z, hf6] at nu; cases nu
          refine paired_snoc ?_ (Paired.mapP hcs6 fun q c z => ?_)
          · rw [upd_ne nuf]
            exact upd_same
          · rw [upd_ne (ne_of z hf6 (by intro y; cases y)), upd_ne (ne_new z nu)]
            exact z
    · rintro σ H4 ⟨o5, rfl, e4, cs4, hf4, hcs4⟩
      exact ⟨_, _, rfl, e4, cs4, hf4, by rw [silU_succ]; exact hcs4⟩
  · rintro σ H3 ⟨o4, o5, rfl, e3, cs, hf, hcs⟩
    exact ⟨_, rfl, q f cs H3 (Evl.fresh_back e2 nf) (e2.trans e3) hf hcs⟩
/-- what the law's wins read is what the state reads -/
theorem wins_at {R : S3} (ok : R.ok) {x y : Int} (hx : x ∈ R.a) (hy : y ∈ R.a) : R.wins x y = R.inn.rd x y := S3.wins_rd ok hx hy
theorem dI_nil : dI [] = .list [] := rfl
def sp_law_home (K : PySem.W.Frag) : Sp := fun vs H Q E => ∃ v u R l, vs = [v, u] ∧ LP H v R ∧ Okw R ∧ LI H u l ∧ Gd R.inn.rd l ∧ l.length ≤ 12 ∧ (∀ x ∈ l, x ∈ R.a) ∧ ∀ p H', H p = none → Ex H H' → H' p = some (.lst ((hm R.inn.rd l).map V.int)) → Q (.ref p) H'
theorem ok_law_home (T : Wd P K mg) : Fn P w K mg base 2 "_law_home" (sp_law_home K) := by
  have F_law_exchanged := ok_law_exchanged (P := P) (w := w) (base := base) T
  have F_law_wins := ok_law_wins (P := P) (w := w) (base := base) T
  refine Fn.of T.g_law_home T.f_law_home c_law_home (fun _ _ _ _ _ _ us hl => match us, hl with | [_, _], _ => rfl) (fun vs H Q E h => ?_) fun cdv A outer s H vs Q E hr h => ?_
  · obtain ⟨_, _, _, _, rfl, _⟩ := h
    rfl
  have nd := c_law_home.nd
  have hu64 := hr.units
  obtain ⟨mv, _, R, l, rfl, hP, ok, ⟨u0, rfl, hu0⟩, gd, llen, lmem, q⟩ := h
  refine ⟨_, pss_cons (ps_set (i := 2) nd rfl (by first | exact .inl rfl | exact .inr rfl) (pe_callTy (listK (K := K)) rfl T.z_list (by decide +kernel) (pa_cons (pv 1) pa_nil))) (pss_cons (ps_for PassesOwn.never rfl (pi_range1 rfl T.z_range (pa_cons (pe_op op_mul (pe_callB (lenK (K := K)) rfl T.z_len (by decide +kernel) (pa_cons (pv 1) pa_nil)) (pe_callB (lenK (K := K)) rfl T.z_len (by decide +kernel) (pa_cons (pv 1) pa_nil))) pa_nil)) (pg_name (i := 3) nd rfl (by first | exact .inl rfl | exact .inr rfl)) (pss_cons (ps_setLc (i := 4) (own := [("_law_k", 5)]) rfl nd rfl rfl (sw_true rfl rfl rfl (by decide +kernel)) (pi_range1 rfl T.z_range (pa_cons (pe_op op_sub (pe_callB (lenK (K := K)) rfl T.z_len (by decide +kernel) (pa_cons (pv 2) pa_nil)) (pe_int)) pa_nil)) (blkOk_by (N := n_law_home) (sc := defScope s_law_home) (by decide +kernel)) (fun _ _ _ _ _ => pg_name (i := 5) nd rfl (by first | exact .inl rfl | exact .inr rfl)) (fun _ _ _ _ _ => pts_one (pt_val (pf F_law_wins hr (by decide) (pa_cons (pv 0) (pa_cons (pe_ix (ixLK (K := K)) (pv 2) (pe_op op_add (pv 5) (pe_int)) (fun _ _ => rfl)) (pa_cons (pe_ix (ixLK (K := K)) (pv 2) (pv 5) (fun _ _ => rfl)) pa_nil)))))) (fun _ _ _ _ _ => pv 5)) (pss_cons (ps_if (pt_cmpR (op_eqD hu64) (pv 4) (pe_lst (pa_nil)) (nomark _)) (pss_one (ps_ret (pv 2))) (pss_nil)) (pss_one (ps_set (i := 2) nd rfl (by first | exact .inl rfl | exact .inr rfl) (pf F_law_exchanged hr (by decide) (pa_cons (pv 2) (pa_cons (pe_ix (ixLK (K := K)) (pv 4) (pe_int) (fun _ _ => rfl)) pa_nil)))))))) (pss_one (ps_ret (pv 2)))), ?_⟩
  refine ⟨_, rfl, u0, _, rfl, .inl (SqL.of hu0), fun h0 nh => ?_⟩
  have e1 : Ex H (upd H h0 (.lst (l.map V.int))) := Ex.lay ex0 nh
  have g1 : upd H h0 (.lst (l.map V.int)) h0 = some (.lst (l.map V.int)) := upd_same
  generalize hH1 : upd H h0 (.lst (l.map V.int)) = H1 at e1 g1
  have hu1 := e1 _ _ hu0
  have ell : ((((l.map V.int).length : Nat) : Int) * (((l.map V.int).length : Nat) : Int)).toNat = l.length * l.length := by
    rw [List.length_map, ← Int.natCast_mul, Int.toNat_natCast]
  have hbig : l.length * l.length ≤ 1000 := len144 llen
  refine ⟨_, rfl, u0, _, rfl, .inl (SqL.of hu1), _, rfl, u0, _, rfl, .inl (SqL.of hu1), _, _, rfl, rfl, .inl ⟨by rw [List.length_map]; omega, by rw [List.length_map]; omega⟩, _, rfl, ?_, ?_, ?_⟩
  · rw [List.length_map, ← Int.natCast_mul]
    omega
  · rw [List.length_map, ← Int.natCast_mul]
    omega
  rw [ell]
  refine for_range (fun t σ H' => ∃ (cur : List Int) (p : Addr) (o3 o4 : Option V), σ = [some mv, some (.ref u0), some (.ref p), o3, o4, none] ∧ Ex H1 H' ∧ H p = none ∧ H' p = some (.lst (cur.map V.int)) ∧ Gd R.inn.rd cur ∧ hm R.inn.rd cur = hm R.inn.rd l ∧ cur.length = l.length ∧ (∀ x ∈ cur, x ∈ l) ∧ ds R.inn.rd cur + t ≤ ds R.inn.rd l) ⟨l, h0, none, none, rfl, ex0, nh, g1, gd, rfl, rfl, fun _ h => h, Nat.le_refl _⟩ ?_ ?_
  · rintro t σ H2 ht ⟨cur, p, o3, o4, rfl, e2, np, hp, gc, hmc, hlen, hmem, hds⟩
    have e02 := e1.trans e2
    have hlm : (((cur.map V.int).length : Nat) : Int) = (l.length : Int) := by rw [List.length_map, hlen]
    refine ⟨_, rfl, p, _, rfl, .inl (SqL.of hp), _, _, rfl, rfl, _, rfl, by omega, by omega, fun D nD => lcG walk_range (fun k => R.inn.rd (cur.getD (k + 1) 0) (cur.getD k 0)) (fun k y _ => y = .int (k : Nat)) (fun _ _ _ _ _ r => r) (fun _ _ _ _ _ _ r => r) (fun _ _ => trivial) (by omega) nD (fun k y H' H'' Pn Pf hk hy e hD hpn hpf => ?_) fun ys H3 e3 hD gt => ?_⟩
    · obtain ⟨rfl, rfl⟩ := hy
      have hk1 : k + 1 < cur.length := by omega
      have ek : ((0 : Int) + (k : Nat)) = (k : Int) := Int.zero_add _
      have ga := getD_at (l := cur) (i := k) (by omega)
      have gb := getD_at (l := cur) (i := k + 1) hk1
      have ma := lmem _ (hmem _ (List.mem_of_getElem? ga))
      have mb := lmem _ (hmem _ (List.mem_of_getElem? gb))
      refine ⟨rfl, ?_⟩
      simp only [ek]
      refine ⟨_, rfl, _, rfl, _, rfl, _, _, rfl, rfl, p, _, _, _, rfl, rfl, SqL.of (e _ _ hp), atI_nat (j := k + 1) (get_map gb), _, rfl, _, rfl, p, _, _, _, rfl, rfl, SqL.of (e _ _ hp), atI_nat (j := k) (get_map ga), _, R, _, _, rfl, hP.mono (e02.trans e), ok.ok, mb, ma, fun H5 e5 => ⟨_, rfl, ?_⟩⟩
      rw [wins_at ok.ok mb ma]
      cases hb : R.inn.rd (cur.getD (k + 1) 0) (cur.getD k 0)
      · exact ifF rfl (hpf hb _ e5)
      · exact ifT rfl ⟨_, rfl, hpn hb _ _ e5 rfl⟩
    · have ey := got_val gt
      have en : ((((cur.map V.int).length : Nat) : Int) - 1).toNat = l.length - 1 := by omega
      rw [show (Int.toNat (((cur.map V.int).length : Nat) - 1 : Int)) = l.length - 1 from en] at ey
      have e03 := e02.trans e3
      have hp3 := e3 _ _ hp
      generalize hix : (List.range (l.length - 1)).filter (fun k => R.inn.rd (cur.getD (k + 1) 0) (cur.getD k 0)) = ix at ey
      have hysI : ys = (ix.map fun k => ((k : Nat) : Int)).map V.int := by rw [ey, List.map_map]; rfl
      rw [hysI] at hD
      refine ⟨_, rfl, sz20 (show 0 ≤ 1000000 by decide), fun z nz => ?_⟩
      have e4 : Ex H3 (upd H3 z (.lst [])) := Ex.lay ex0 nz
      have hz : upd H3 z (.lst []) z = some (.lst (([] : List Int).map V.int)) := upd_same
      generalize upd H3 z (.lst []) = H4 at e4 hz
      refine ⟨dI (ix.map fun k => ((k : Nat) : Int)), dI [], dp_LI ⟨D, rfl, e4 _ _ hD⟩, dp_LI ⟨z, rfl, hz⟩, shaped_of (lay_dI _) (Nat.le_trans (depth_dI _) (by decide)), shaped_of (lay_dI _) (Nat.le_trans (depth_dI _) (by decide)), _, rfl, ?_⟩
      rw [eqv_dI]
      cases ix with
      | nil =>
        refine ifT (decide_eq_true rfl) ⟨_, rfl, ?_⟩
        have hs : stl R.inn.rd cur := stl_of fun j x y hx hy => by
          have hj := (List.getElem?_eq_some_iff.mp hy).1
          have hn : j ∉ (List.range (l.length - 1)).filter (fun k => R.inn.rd (cur.getD (k + 1) 0) (cur.getD k 0)) := by rw [hix]; simp
          have e1 : cur.getD j 0 = x := by rw [List.getD_eq_getElem?_getD, hx]; rfl
          have e2 : cur.getD (j + 1) 0 = y := by rw [List.getD_eq_getElem?_getD, hy]; rfl
          cases hr2 : R.inn.rd y x
          · rfl
          · exact absurd (List.mem_filter.mpr ⟨List.mem_range.mpr (by omega), by rw [e1, e2]; exact hr2⟩) hn
        have ec : cur = hm R.inn.rd l := (stl_hm hs).symm.trans hmc
        have z := e4 _ _ hp3
        rw [ec] at z
        exact q p H4 np (e03.trans e4) z
      | cons k ix =>
        refine ifF (decide_eq_false (by simp)) ?_
        have hk : k ∈ (List.range (l.length - 1)).filter (fun k => R.inn.rd (cur.getD (k + 1) 0) (cur.getD k 0)) := by rw [hix]; exact List.mem_cons_self
        obtain ⟨hk1, hk2⟩ := List.mem_filter.mp hk
        have hk1 := List.mem_range.mp hk1
        have hkc : k + 1 < cur.length := by omega
        refine ⟨_, rfl, _, rfl, D, _, _, _, rfl, rfl, SqL.of (e4 _ _ hD), atI_nat (j := 0) rfl, _, cur, k, rfl, ⟨p, rfl, e4 _ _ hp3⟩, by omega, hkc, fun p2 H5 np2 e5 hp5 => ?_⟩
        have hT2 : ∀ a b, cur[k]? = some a → cur[k + 1]? = some b → R.inn.rd b a = true := fun a b h1 h2 => by
          have e1 : cur.getD k 0 = a := by rw [List.getD_eq_getElem?_getD, h1]; rfl
          have e2 : cur.getD (k + 1) 0 = b := by rw [List.getD_eq_getElem?_getD, h2]; rfl
          rw [← e1, ← e2]
          exact hk2
        obtain ⟨g2, hm2⟩ := gc.step hkc hT2
        have hd2 := ds_step gc hkc hT2
        exact ⟨exch cur k, p2, _, _, rfl, e2.trans (e3.trans (e4.trans e5)), Evl.fresh_back (e03.trans e4) np2, hp5, g2, hm2.trans hmc, (exch_len hkc).trans hlen, fun x hx => hmem x ((exch_perm hkc).mem_iff.mp hx), by omega⟩
  · rintro σ H2 ⟨cur, p, o3, o4, rfl, e2, np, hp, gc, hmc, hlen, hmem, hds⟩
    have hle := ds_le R.inn.rd l
    have h0 : l.length = 0 := by
      cases hl : l.length with
      | zero => rfl
      | succ n =>
        rw [hl] at hle hds
        have : (n + 1) * (n + 1) ≥ n + 1 := Nat.le_mul_of_pos_left _ (Nat.succ_pos _)
        omega
    have hc : cur = [] := List.eq_nil_of_length_eq_zero (hlen.trans h0)
    have ll : l = [] := List.eq_nil_of_length_eq_zero h0
    refine ⟨_, rfl, q p H2 np (e1.trans e2) ?_⟩
    rw [hp, hc, ll]
    rfl
def sp_law_homes (K : PySem.W.Frag) : Sp := fun vs H Q E => ∃ v R, vs = [v] ∧ LR H v R ∧ Okw R ∧ ∀ p H', H p = none → Ex H H' → LR H' (.ref p) R.hms → Q (.ref p) H'
theorem ok_law_homes (T : Wd P K mg) : Fn P w K mg base 3 "_law_homes" (sp_law_homes K) := by
  have F_law_home := ok_law_home (P := P) (w := w) (base := base) T
  have F_law_places := ok_law_places (P := P) (w := w) (base := base) T
  refine Fn.of T.g_law_homes T.f_law_homes c_law_homes (fun _ _ _ _ _ _ us hl => match us, hl with | [_], _ => rfl) (fun vs H Q E h => ?_) fun cdv A outer s H vs Q E hr h => ?_
  · obtain ⟨_, _, rfl, _⟩ := h
    rfl
  have nd := c_law_homes.nd
  obtain ⟨_, R, rfl, hR, ok, q⟩ := h
  refine ⟨_, pss_cons (ps_setLc (i := 1) (own := [("_law_row", 3)]) rfl nd rfl rfl (sw_true rfl rfl rfl (by decide +kernel)) (piLK (K := K) (pv 0)) (blkOk_by (N := n_law_homes) (sc := defScope s_law_homes) (by decide +kernel)) (fun _ _ _ _ _ => pg_name (i := 3) nd rfl (by first | exact .inl rfl | exact .inr rfl)) (fun _ _ _ _ _ => pts_nil) (fun _ _ _ _ _ => pf F_law_places hr (by decide) (pa_cons (pv 3) pa_nil))) (pss_cons (ps_set (i := 2) nd rfl (by first | exact .inl rfl | exact .inr rfl) (pf F_law_home hr (by decide) (pa_cons (pv 1) (pa_cons (pe_listRev rfl rfl T.z_list rfl T.z_reversed (pe_ix (ixLK (K := K)) (pv 0) (pe_int) (fun _ _ => rfl))) pa_nil)))) (pss_one (ps_ret (pe_lst (pa_cons (pe_listRev rfl rfl T.z_list rfl T.z_reversed (pv 2)) (pa_cons (pf F_law_home hr (by decide) (pa_cons (pv 1) (pa_cons (pe_ix (ixLK (K := K)) (pv 0) (pe_int) (fun _ _ => rfl)) pa_nil))) (pa_cons (pf F_law_home hr (by decide) (pa_cons (pv 1) (pa_cons (pe_ix (ixLK (K := K)) (pv 0) (pe_int) (fun _ _ => rfl)) pa_nil))) pa_nil))))))), ?_⟩
  obtain ⟨a, u0, u1, u2, rfl, ha, ⟨c0, rfl, h0⟩, h1, h2⟩ := id hR
  have iok := S3.inn_ok ok.ok
  have gdk : ∀ k, Gd R.inn.rd (R.inn.get k) := fun k => Gd.of iok k fun _ _ _ _ => rfl
  have lk : ∀ k, (R.inn.get k).length ≤ 12 := fun k => ((okw_inn ok).get k).len
  have mk : ∀ k, ∀ x ∈ R.inn.get k, x ∈ R.a := fun k x hx => S3.inn_mem.mp ((iok.mem k).mp hx)
  refine maps_seq (v := .ref a) rfl (show 3 < 4 by decide) hR ok fun D H1 _ e1 hP => ?_
  refine ⟨_, rfl, _, rfl, a, _, _, _, rfl, rfl, SqL.of (e1 _ _ ha), atI_nat (j := 0) rfl, c0, _, rfl, SqL.of (e1 _ _ h0), fun r nr => ?_⟩
  have e2 : Ex H1 (upd H1 r (.lst (R.a.map V.int).reverse)) := Ex.lay ex0 nr
  have hr2 : upd H1 r (.lst (R.a.map V.int).reverse) r = some (.lst ((R.inn.get 0).map V.int)) := by rw [upd_same, ← List.map_reverse]; rfl
  generalize upd H1 r (.lst (R.a.map V.int).reverse) = H2 at e2 hr2
  refine ⟨_, _, R, R.inn.get 0, rfl, hP.mono e2, ok, ⟨r, rfl, hr2⟩, gdk 0, lk 0, mk 0, fun p0 H3 _ e3 hp0 => ?_⟩
  have e13 := e2.trans e3
  have e03 := e1.trans e13
  refine ⟨_, rfl, p0, _, rfl, SqL.of hp0, fun l0 n0 => ?_⟩
  have e4 : Ex H3 (upd H3 l0 (.lst ((hm R.inn.rd (R.inn.get 0)).map V.int).reverse)) := Ex.lay ex0 n0
  have g4 : upd H3 l0 (.lst ((hm R.inn.rd (R.inn.get 0)).map V.int).reverse) l0 = some (.lst (R.hms.a.map V.int)) := by rw [upd_same, ← List.map_reverse]; rfl
  generalize upd H3 l0 (.lst ((hm R.inn.rd (R.inn.get 0)).map V.int).reverse) = H4 at e4 g4
  have e04 := e03.trans e4
  refine ⟨_, rfl, _, rfl, a, _, _, _, rfl, rfl, SqL.of (e04 _ _ ha), atI_nat (j := 1) rfl, _, _, R, R.inn.get 1, rfl, hP.mono (e13.trans e4), ok, h1.mono e04, gdk 1, lk 1, mk 1, fun p1 H5 _ e5 hp1 => ?_⟩
  have e05 := e04.trans e5
  refine ⟨_, rfl, _, rfl, a, _, _, _, rfl, rfl, SqL.of (e05 _ _ ha), atI_nat (j := 2) rfl, _, _, R, R.inn.get 2, rfl, hP.mono (e13.trans (e4.trans e5)), ok, h2.mono e05, gdk 2, lk 2, mk 2, fun p2 H6 _ e6 hp2 => ?_⟩
  have e06 := e05.trans e6
  refine ⟨sz20 (show 3 ≤ 1000000 by decide), fun p np => ?_⟩
  have e7 : Ex H6 (upd H6 p (.lst [.ref l0, .ref p1, .ref p2])) := Ex.lay ex0 np
  exact q p _ (Evl.fresh_back e06 np) (e06.trans e7) ⟨p, _, _, _, rfl, upd_same, ⟨l0, rfl, e7 _ _ (e6 _ _ (e5 _ _ g4))⟩, ⟨p1, rfl, e7 _ _ (e6 _ _ hp1)⟩, ⟨p2, rfl, e7 _ _ hp2⟩⟩
/-! ### _law_is of equal data -/
mutual
theorem dp_mono {H H' : Hp} (e : Ex H H') : ∀ {v : V} {d : PyData}, Dp K H v d → Dp K H' v d
  | _, _, .non => .non
  | _, _, .bl b => .bl b
  | _, _, .int i => .int i
  | _, _, .str x => .str x
  | _, _, .lst h a => .lst (Evl.ex_l e h) (dpAll_mono e a)
  | _, _, .tup h a => .tup (Evl.ex_t e h) (dpAll_mono e a)
theorem dpAll_mono {H H' : Hp} (e : Ex H H') : ∀ {vs : List V} {ds : List PyData}, DpAll K H vs ds → DpAll K H' vs ds
  | _, _, .nil => .nil
  | _, _, .cons h t => .cons (dp_mono e h) (dpAll_mono e t)
end
theorem dpAll_len {H : Hp} : ∀ {vs : List V} {ds : List PyData}, DpAll K H vs ds → vs.length = ds.length
  | _, _, .nil => rfl
  | _, _, .cons _ t => congrArg Nat.succ (dpAll_len t)
theorem dpAll_at {H : Hp} : ∀ {vs : List V} {ds : List PyData}, DpAll K H vs ds → ∀ i, i < ds.length → ∃ v d, vs[i]? = some v ∧ ds[i]? = some d ∧ Dp K H v d
  | _, _, .nil, i, hi => absurd hi (Nat.not_lt_zero _)
  | _, _, .cons h t, 0, _ => ⟨_, _, rfl, rfl, h⟩
  | _, _, .cons h t, i + 1, hi => dpAll_at t i (Nat.lt_of_succ_lt_succ hi)
/-- small data, its depth within n -/
inductive Sm : Nat → PyData → Prop where
  | bl {n : Nat} (b : Bool) : Sm n (.bool b)
  | int {n : Nat} (i : Int) : Sm n (.int i)
  | str {n : Nat} (x : Str) : Sm n (.str x)
  | lst {n : Nat} {ds : List PyData} (h : ds.length ≤ 1000) (a : ∀ d ∈ ds, Sm n d) : Sm (n + 1) (.list ds)
  | tup {n : Nat} {ds : List PyData} (h : ds.length ≤ 1000) (a : ∀ d ∈ ds, Sm n d) : Sm (n + 1) (.tuple ds)
theorem tyxL {H : Hp} {a : Addr} {xs : List V} (h : SqL K H a xs) : TyX K H (.ref a) (.type "list") := by
  rcases h with (h | ⟨o, h⟩) | ⟨o, its, n, h1, h2, _⟩
  · exact .base (.lst h)
  · exact .base (.frz h)
  · exact .kList h1 h2
theorem tyxT {H : Hp} {a : Addr} {xs : List V} (h : SqT K H a xs) : TyX K H (.ref a) (.type "tuple") := by
  rcases h with (h | ⟨o, h⟩) | ⟨o, its, n, h1, h2, _⟩
  · exact .base (.tup h)
  · exact .fTuple h
  · exact .kTuple h1 h2
def sp_law_is (K : PySem.W.Frag) (n : Nat) : Sp := fun vs H Q E => ∃ g d D, vs = [g, d] ∧ Dp K H g D ∧ Dp K H d D ∧ Sm n D ∧ ∀ H', Ex H H' → Q (.bl true) H'
theorem ok_law_is0 (T : Wd P K mg) : Fn P w K mg base (0 + 1) "_law_is" (sp_law_is K 0) := by
  refine Fn.of T.g_law_is T.f_law_is c_law_is (fun _ _ _ _ _ _ us hl => match us, hl with | [_, _], _ => rfl) (fun vs H Q E h => ?_) fun cdv A outer s H vs Q E hr h => ?_
  · obtain ⟨_, _, _, rfl, _⟩ := h
    rfl
  have nd := c_law_is.nd
  obtain ⟨g, d, D, rfl, hg, hd, sm, q⟩ := h
  refine ⟨_, pss_cons (ps_if (pt_cmp (pc_isN (pv 1))) (pss_one (ps_ret (pe_cmp (pc_isN (pv 0))))) (pss_nil)) (pss_cons (ps_if (pt_val (pe_callB call_isi rfl T.z_isinstance (by decide +kernel) (pa_cons (pv 1) (pa_cons (pe_bltn (v := .ty "bool") rfl T.z_bool (by decide +kernel) rfl) pa_nil)))) (pss_one (ps_ret (pe_and (pe_callB call_isi rfl T.z_isinstance (by decide +kernel) (pa_cons (pv 0) (pa_cons (pe_bltn (v := .ty "bool") rfl T.z_bool (by decide +kernel) rfl) pa_nil))) (pe_one (pe_cmpR op_eq (pv 0) (pv 1) (nomark _)))))) (pss_nil)) (pss_cons (ps_if (pt_val (pe_callB call_isi rfl T.z_isinstance (by decide +kernel) (pa_cons (pv 1) (pa_cons (pe_bltn (v := .ty "int") rfl T.z_int (by decide +kernel) rfl) pa_nil)))) (pss_one (ps_ret (pe_and (pe_callB call_isi rfl T.z_isinstance (by decide +kernel) (pa_cons (pv 0) (pa_cons (pe_bltn (v := .ty "int") rfl T.z_int (by decide +kernel) rfl) pa_nil))) (pe_and (pe_not (pe_callB call_isi rfl T.z_isinstance (by decide +kernel) (pa_cons (pv 0) (pa_cons (pe_bltn (v := .ty "bool") rfl T.z_bool (by decide +kernel) rfl) pa_nil)))) (pe_one (pe_cmpR op_eq (pv 0) (pv 1) (nomark _))))))) (pss_nil)) (pss_cons (ps_if (pt_val (pe_callB call_isi rfl T.z_isinstance (by decide +kernel) (pa_cons (pv 1) (pa_cons (pe_bltn (v := .ty "str") rfl T.z_str (by decide +kernel) rfl) pa_nil)))) (pss_one (ps_ret (pe_and (pe_callB call_isi rfl T.z_isinstance (by decide +kernel) (pa_cons (pv 0) (pa_cons (pe_bltn (v := .ty "str") rfl T.z_str (by decide +kernel) rfl) pa_nil))) (pe_one (pe_cmpR op_eq (pv 0) (pv 1) (nomark _)))))) (pss_nil)) pss_never))), ?_⟩
  cases sm with
  | bl b =>
    cases hg
    cases hd
    refine ⟨_, rfl, _, rfl, ifF (decide_eq_false (by intro z; cases z)) ?_⟩
    refine ⟨_, rfl, _, _, _, _, true, rfl, .ty _, .base (.bl _), kit_ty (by decide +kernel), _, rfl, ifT rfl ?_⟩
    refine ⟨_, rfl, _, _, _, _, true, rfl, .ty _, .base (.bl _), kit_ty (by decide +kernel), _, rfl, ifT rfl ⟨_, rfl, _, rfl, rfl, ?_⟩⟩
    rw [decide_eq_true rfl]
    exact q _ ex0
  | int i =>
    cases hg
    cases hd
    refine ⟨_, rfl, _, rfl, ifF (decide_eq_false (by intro z; cases z)) ?_⟩
    refine ⟨_, rfl, _, _, _, _, false, rfl, .ty _, .base (.int _), kit_ty (by decide +kernel), _, rfl, ifF rfl ?_⟩
    refine ⟨_, rfl, _, _, _, _, true, rfl, .ty _, .base (.int _), kit_ty (by decide +kernel), _, rfl, ifT rfl ?_⟩
    refine ⟨_, rfl, _, _, _, _, true, rfl, .ty _, .base (.int _), kit_ty (by decide +kernel), _, rfl, ifT rfl ?_⟩
    refine ⟨_, rfl, _, _, _, _, false, rfl, .ty _, .base (.int _), kit_ty (by decide +kernel), _, rfl, _, rfl, ifT rfl ⟨_, rfl, _, rfl, rfl, ?_⟩⟩
    rw [decide_eq_true rfl]
    exact q _ ex0
  | str x =>
    cases hg
    cases hd
    refine ⟨_, rfl, _, rfl, ifF (decide_eq_false (by intro z; cases z)) ?_⟩
    refine ⟨_, rfl, _, _, _, _, false, rfl, .ty _, .base (.str _), kit_ty (by decide +kernel), _, rfl, ifF rfl ?_⟩
    refine ⟨_, rfl, _, _, _, _, false, rfl, .ty _, .base (.str _), kit_ty (by decide +kernel), _, rfl, ifF rfl ?_⟩
    refine ⟨_, rfl, _, _, _, _, true, rfl, .ty _, .base (.str _), kit_ty (by decide +kernel), _, rfl, ifT rfl ?_⟩
    refine ⟨_, rfl, _, _, _, _, true, rfl, .ty _, .base (.str _), kit_ty (by decide +kernel), _, rfl, ifT rfl ⟨_, rfl, _, rfl, rfl, ?_⟩⟩
    rw [decide_eq_true rfl]
    exact q _ ex0
theorem ok_law_isS (T : Wd P K mg) {n : Nat} (F_law_is : Fn P w K mg base (n + 1) "_law_is" (sp_law_is K n)) : Fn P w K mg base ((n + 1) + 1) "_law_is" (sp_law_is K (n + 1)) := by
  refine Fn.of T.g_law_is T.f_law_is c_law_is (fun _ _ _ _ _ _ us hl => match us, hl with | [_, _], _ => rfl) (fun vs H Q E h => ?_) fun cdv A outer s H vs Q E hr h => ?_
  · obtain ⟨_, _, _, rfl, _⟩ := h
    rfl
  have nd := c_law_is.nd
  obtain ⟨g, d, D, rfl, hg, hd, sm, q⟩ := h
  refine ⟨_, pss_cons (ps_if (pt_cmp (pc_isN (pv 1))) (pss_one (ps_ret (pe_cmp (pc_isN (pv 0))))) (pss_nil)) (pss_cons (ps_if (pt_val (pe_callB call_isi rfl T.z_isinstance (by decide +kernel) (pa_cons (pv 1) (pa_cons (pe_bltn (v := .ty "bool") rfl T.z_bool (by decide +kernel) rfl) pa_nil)))) (pss_one (ps_ret (pe_and (pe_callB call_isi rfl T.z_isinstance (by decide +kernel) (pa_cons (pv 0) (pa_cons (pe_bltn (v := .ty "bool") rfl T.z_bool (by decide +kernel) rfl) pa_nil))) (pe_one (pe_cmpR op_eq (pv 0) (pv 1) (nomark _)))))) (pss_nil)) (pss_cons (ps_if (pt_val (pe_callB call_isi rfl T.z_isinstance (by decide +kernel) (pa_cons (pv 1) (pa_cons (pe_bltn (v := .ty "int") rfl T.z_int (by decide +kernel) rfl) pa_nil)))) (pss_one (ps_ret (pe_and (pe_callB call_isi rfl T.z_isinstance (by decide +kernel) (pa_cons (pv 0) (pa_cons (pe_bltn (v := .ty "int") rfl T.z_int (by decide +kernel) rfl) pa_nil))) (pe_and (pe_not (pe_callB call_isi rfl T.z_isinstance (by decide +kernel) (pa_cons (pv 0) (pa_cons (pe_bltn (v := .ty "bool") rfl T.z_bool (by decide +kernel) rfl) pa_nil)))) (pe_one (pe_cmpR op_eq (pv 0) (pv 1) (nomark _))))))) (pss_nil)) (pss_cons (ps_if (pt_val (pe_callB call_isi rfl T.z_isinstance (by decide +kernel) (pa_cons (pv 1) (pa_cons (pe_bltn (v := .ty "str") rfl T.z_str (by decide +kernel) rfl) pa_nil)))) (pss_one (ps_ret (pe_and (pe_callB call_isi rfl T.z_isinstance (by decide +kernel) (pa_cons (pv 0) (pa_cons (pe_bltn (v := .ty "str") rfl T.z_str (by decide +kernel) rfl) pa_nil))) (pe_one (pe_cmpR op_eq (pv 0) (pv 1) (nomark _)))))) (pss_nil)) (pss_cons (ps_if (PW.pt (pw_or (pt_cmpR op_ne (pe_callB call_isi rfl T.z_isinstance (by decide +kernel) (pa_cons (pv 1) (pa_cons (pe_bltn (v := .ty "list") rfl T.z_list (by decide +kernel) rfl) pa_nil))) (pe_callB call_isi rfl T.z_isinstance (by decide +kernel) (pa_cons (pv 0) (pa_cons (pe_bltn (v := .ty "list") rfl T.z_list (by decide +kernel) rfl) pa_nil))) (nomark _)) (pw_or1 (pt_cmpR op_ne (pe_callB call_isi rfl T.z_isinstance (by decide +kernel) (pa_cons (pv 1) (pa_cons (pe_bltn (v := .ty "tuple") rfl T.z_tuple (by decide +kernel) rfl) pa_nil))) (pe_callB call_isi rfl T.z_isinstance (by decide +kernel) (pa_cons (pv 0) (pa_cons (pe_bltn (v := .ty "tuple") rfl T.z_tuple (by decide +kernel) rfl) pa_nil))) (nomark _))))) (pss_one (ps_ret (pe_bl))) (pss_nil)) (pss_one (ps_ret (pe_and (pe_cmpR op_eq (pe_callB (lenK (K := K)) rfl T.z_len (by decide +kernel) (pa_cons (pv 0) pa_nil)) (pe_callB (lenK (K := K)) rfl T.z_len (by decide +kernel) (pa_cons (pv 1) pa_nil)) (nomark _)) (pe_one (pe_callB (cr_all rfl) rfl T.z_all (by decide +kernel) (pa_cons (pe_lc (own := [("_law_k", 2)]) rfl nd (pi_range1 rfl T.z_range (pa_cons (pe_callB (lenK (K := K)) rfl T.z_len (by decide +kernel) (pa_cons (pv 1) pa_nil)) pa_nil)) (blkOk_by (N := n_law_is) (sc := defScope s_law_is) (by decide +kernel)) (fun _ _ _ _ _ => pg_name (i := 2) nd rfl (by first | exact .inl rfl | exact .inr rfl)) (fun _ _ _ _ _ => pts_nil) (fun _ _ _ _ _ => pf F_law_is hr (Nat.le_refl _) (pa_cons (pe_ix (ixSK (K := K)) (pv 0) (pv 2) (fun _ _ => rfl)) (pa_cons (pe_ix (ixSK (K := K)) (pv 1) (pv 2) (fun _ _ => rfl)) pa_nil)))) pa_nil)))))))))), ?_⟩
  cases sm with
  | bl b =>
    cases hg
    cases hd
    refine ⟨_, rfl, _, rfl, ifF (decide_eq_false (by intro z; cases z)) ?_⟩
    refine ⟨_, rfl, _, _, _, _, true, rfl, .ty _, .base (.bl _), kit_ty (by decide +kernel), _, rfl, ifT rfl ?_⟩
    refine ⟨_, rfl, _, _, _, _, true, rfl, .ty _, .base (.bl _), kit_ty (by decide +kernel), _, rfl, ifT rfl ⟨_, rfl, _, rfl, rfl, ?_⟩⟩
    rw [decide_eq_true rfl]
    exact q _ ex0
  | int i =>
    cases hg
    cases hd
    refine ⟨_, rfl, _, rfl, ifF (decide_eq_false (by intro z; cases z)) ?_⟩
    refine ⟨_, rfl, _, _, _, _, false, rfl, .ty _, .base (.int _), kit_ty (by decide +kernel), _, rfl, ifF rfl ?_⟩
    refine ⟨_, rfl, _, _, _, _, true, rfl, .ty _, .base (.int _), kit_ty (by decide +kernel), _, rfl, ifT rfl ?_⟩
    refine ⟨_, rfl, _, _, _, _, true, rfl, .ty _, .base (.int _), kit_ty (by decide +kernel), _, rfl, ifT rfl ?_⟩
    refine ⟨_, rfl, _, _, _, _, false, rfl, .ty _, .base (.int _), kit_ty (by decide +kernel), _, rfl, _, rfl, ifT rfl ⟨_, rfl, _, rfl, rfl, ?_⟩⟩
    rw [decide_eq_true rfl]
    exact q _ ex0
  | str x =>
    cases hg
    cases hd
    refine ⟨_, rfl, _, rfl, ifF (decide_eq_false (by intro z; cases z)) ?_⟩
    refine ⟨_, rfl, _, _, _, _, false, rfl, .ty _, .base (.str _), kit_ty (by decide +kernel), _, rfl, ifF rfl ?_⟩
    refine ⟨_, rfl, _, _, _, _, false, rfl, .ty _, .base (.str _), kit_ty (by decide +kernel), _, rfl, ifF rfl ?_⟩
    refine ⟨_, rfl, _, _, _, _, true, rfl, .ty _, .base (.str _), kit_ty (by decide +kernel), _, rfl, ifT rfl ?_⟩
    refine ⟨_, rfl, _, _, _, _, true, rfl, .ty _, .base (.str _), kit_ty (by decide +kernel), _, rfl, ifT rfl ⟨_, rfl, _, rfl, rfl, ?_⟩⟩
    rw [decide_eq_true rfl]
    exact q _ ex0
  | lst hlen hall =>
    cases hg with
    | lst hga hgs =>
      rename_i a xs
      cases hd with
      | lst hda hds =>
        rename_i b ys
        have l1 := dpAll_len hgs
        have l2 := dpAll_len hds
        refine ⟨_, rfl, _, rfl, ifF (decide_eq_false (by intro z; cases z)) ?_⟩
        refine ⟨_, rfl, _, _, _, _, false, rfl, .ty _, tyxL hda, kit_ty (by decide +kernel), _, rfl, ifF rfl ?_⟩
        refine ⟨_, rfl, _, _, _, _, false, rfl, .ty _, tyxL hda, kit_ty (by decide +kernel), _, rfl, ifF rfl ?_⟩
        refine ⟨_, rfl, _, _, _, _, false, rfl, .ty _, tyxL hda, kit_ty (by decide +kernel), _, rfl, ifF rfl ?_⟩
        refine ⟨_, rfl, _, _, _, _, true, rfl, .ty _, tyxL hda, kit_ty (by decide +kernel), _, rfl, _, _, _, _, true, rfl, .ty _, tyxL hga, kit_ty (by decide +kernel), rfl, _, rfl, ifF rfl ?_⟩
        refine ⟨_, rfl, _, _, _, _, false, rfl, .ty _, tyxL hda, kit_ty (by decide +kernel), _, rfl, _, _, _, _, false, rfl, .ty _, tyxL hga, kit_ty (by decide +kernel), rfl, _, rfl, ifF rfl ?_⟩
        refine ⟨_, rfl, a, xs, rfl, .inl hga, _, rfl, b, ys, rfl, .inl hda, rfl, _, rfl, ifT (decide_eq_true (by rw [l1, l2])) ?_⟩
        refine ⟨_, rfl, b, ys, rfl, .inl hda, _, rfl, by omega, by omega, fun L nL => ?_⟩
        rw [Int.toNat_natCast, l2]
        refine lcG walk_range (fun _ => true) (fun i y _ => y = .bl true) (fun _ _ _ _ _ r => r) (fun _ _ _ _ _ _ r => r) (fun _ _ => trivial) (by omega) nL (fun k y H' H'' Pn Pf hk hy e hD hpn hpf => ?_) fun zs H2 e2 hL gt => ?_
        · obtain ⟨rfl, rfl⟩ := hy
          have ek : ((0 : Int) + (k : Nat)) = (k : Int) := Int.zero_add _
          simp only [ek]
          obtain ⟨v1, d1, hv1, hd1, p1⟩ := dpAll_at hgs k hk
          obtain ⟨v2, d2, hv2, hd2, p2⟩ := dpAll_at hds k hk
          rw [hd1] at hd2
          cases hd2
          refine ⟨rfl, ?_⟩
          exact ⟨_, rfl, _, rfl, .inl ⟨a, xs, _, _, rfl, rfl, Evl.ex_l e hga, atI_nat hv1, _, rfl, _, rfl, .inl ⟨b, ys, _, _, rfl, rfl, Evl.ex_l e hda, atI_nat hv2, _, _, d1, rfl, dp_mono e p1, dp_mono e p2, hall _ (List.mem_of_getElem? hd1), fun H3 e3 => hpn rfl _ _ e3 rfl⟩⟩⟩
        · have ez := got_val gt
          refine ⟨L, zs.map fun _ => true, rfl, SqL.of (hL.trans ?_), ?_⟩
          · rw [ez]
            simp
          · have z := q H2 e2
            have eb : (zs.map fun _ => true).all id = true := List.all_eq_true.mpr fun x hx => by
              obtain ⟨_, _, rfl⟩ := List.mem_map.mp hx
              rfl
            first
            | (rw [eb]; exact z)
            | (simp only [eb]; exact z)
            | exact z
  | tup hlen hall =>
    cases hg with
    | tup hga hgs =>
      rename_i a xs
      cases hd with
      | tup hda hds =>
        rename_i b ys
        have l1 := dpAll_len hgs
        have l2 := dpAll_len hds
        refine ⟨_, rfl, _, rfl, ifF (decide_eq_false (by intro z; cases z)) ?_⟩
        refine ⟨_, rfl, _, _, _, _, false, rfl, .ty _, tyxT hda, kit_ty (by decide +kernel), _, rfl, ifF rfl ?_⟩
        refine ⟨_, rfl, _, _, _, _, false, rfl, .ty _, tyxT hda, kit_ty (by decide +kernel), _, rfl, ifF rfl ?_⟩
        refine ⟨_, rfl, _, _, _, _, false, rfl, .ty _, tyxT hda, kit_ty (by decide +kernel), _, rfl, ifF rfl ?_⟩
        refine ⟨_, rfl, _, _, _, _, false, rfl, .ty _, tyxT hda, kit_ty (by decide +kernel), _, rfl, _, _, _, _, false, rfl, .ty _, tyxT hga, kit_ty (by decide +kernel), rfl, _, rfl, ifF rfl ?_⟩
        refine ⟨_, rfl, _, _, _, _, true, rfl, .ty _, tyxT hda, kit_ty (by decide +kernel), _, rfl, _, _, _, _, true, rfl, .ty _, tyxT hga, kit_ty (by decide +kernel), rfl, _, rfl, ifF rfl ?_⟩
        refine ⟨_, rfl, a, xs, rfl, .inr hga, _, rfl, b, ys, rfl, .inr hda, rfl, _, rfl, ifT (decide_eq_true (by rw [l1, l2])) ?_⟩
        refine ⟨_, rfl, b, ys, rfl, .inr hda, _, rfl, by omega, by omega, fun L nL => ?_⟩
        rw [Int.toNat_natCast, l2]
        refine lcG walk_range (fun _ => true) (fun i y _ => y = .bl true) (fun _ _ _ _ _ r => r) (fun _ _ _ _ _ _ r => r) (fun _ _ => trivial) (by omega) nL (fun k y H' H'' Pn Pf hk hy e hD hpn hpf => ?_) fun zs H2 e2 hL gt => ?_
        · obtain ⟨rfl, rfl⟩ := hy
          have ek : ((0 : Int) + (k : Nat)) = (k : Int) := Int.zero_add _
          simp only [ek]
          obtain ⟨v1, d1, hv1, hd1, p1⟩ := dpAll_at hgs k hk
          obtain ⟨v2, d2, hv2, hd2, p2⟩ := dpAll_at hds k hk
          rw [hd1] at hd2
          cases hd2
          refine ⟨rfl, ?_⟩
          exact ⟨_, rfl, _, rfl, .inr <| .inl ⟨a, xs, _, _, rfl, rfl, Evl.ex_t e hga, atI_nat hv1, _, rfl, _, rfl, .inr <| .inl ⟨b, ys, _, _, rfl, rfl, Evl.ex_t e hda, atI_nat hv2, _, _, d1, rfl, dp_mono e p1, dp_mono e p2, hall _ (List.mem_of_getElem? hd1), fun H3 e3 => hpn rfl _ _ e3 rfl⟩⟩⟩
        · have ez := got_val gt
          refine ⟨L, zs.map fun _ => true, rfl, SqL.of (hL.trans ?_), ?_⟩
          · rw [ez]
            simp
          · have z := q H2 e2
            have eb : (zs.map fun _ => true).all id = true := List.all_eq_true.mpr fun x hx => by
              obtain ⟨_, _, rfl⟩ := List.mem_map.mp hx
              rfl
            first
            | (rw [eb]; exact z)
            | (simp only [eb]; exact z)
            | exact z
theorem ok_law_is (T : Wd P K mg) : Fn P w K mg base 4 "_law_is" (sp_law_is K 3) := ok_law_isS T (ok_law_isS T (ok_law_isS T (ok_law_is0 T)))
end
end K38
end
section
set_option Elab.async false
set_option linter.all false
set_option maxRecDepth 100000
set_option maxHeartbeats 4000000
/-! The walk, fifth part: what the law draws from its box. -/
namespace K38
open PySem PySem.Spec PyProof.Rows L2
section
variable {P : Program} {w : World} {K : PySem.W.Frag} {mg : Str → Option Value} {base : Heap}
/-- the law's box: its cells, what is left of one, its turn -/
def BX (H : Hp) (b : Addr) (z : Addr × List Int) : Prop := ∃ rest turn, H b = some (.lst [.ref z.1, .int rest, .int ((turn : Nat) : Int)]) ∧ H z.1 = some (.lst (z.2.map V.int))
theorem BX.mono {H H' : Hp} {b : Addr} {z : Addr × List Int} (e : Ex H H') : BX H b z → BX H' b z := fun ⟨r, t, h1, h2⟩ => ⟨r, t, e _ _ h1, e _ _ h2⟩
theorem BX.mut {H0 H : Hp} {b a : Addr} {z : Addr × List Int} {o : HO} (B0 : BX H0 b z) (n : H0 a = none) : BX H b z → BX (upd H a o) b z := fun ⟨r, t, h1, h2⟩ => by
  obtain ⟨_, _, g1, g2⟩ := B0
  exact ⟨r, t, (upd_ne (ne_new g1 n)).trans h1, (upd_ne (ne_new g2 n)).trans h2⟩
theorem BX.put {H : Hp} {b c : Addr} {xs : List V} {cells : List Int} (hb : H b = some (.lst (.ref c :: xs))) (hc : H c = some (.lst (cells.map V.int))) (r : Int) (t : Nat) : BX (upd H b (.lst [.ref c, .int r, .int (t : Int)])) b (c, cells) := by
  refine ⟨r, t, upd_same, (upd_ne fun z => ?_).trans hc⟩
  have hc2 : H c = some (.lst (cells.map V.int)) := hc
  rw [show c = b from z, hb] at hc2
  cases cells <;> cases hc2
theorem BX.nb {H : Hp} {b a : Addr} {z : Addr × List Int} (B : BX H b z) (n : H a = none) : a ≠ b := by
  obtain ⟨_, _, g1, _⟩ := B
  exact (ne_new g1 n).symm
theorem map_erase (l : List Int) (r : Nat) : (l.map V.int).eraseIdx r = (l.eraseIdx r).map V.int := by
  induction l generalizing r with
  | nil => rfl
  | cons x l ih =>
    cases r with
    | zero => rfl
    | succ r => exact congrArg (V.int x :: ·) (ih r)
theorem erase_perm {l : List Int} {r : Nat} {x : Int} (h : l[r]? = some x) : List.Perm ([x] ++ l.eraseIdx r) l := by
  induction l generalizing r with
  | nil => cases h
  | cons y l ih =>
    cases r with
    | zero => cases h; exact List.Perm.refl _
    | succ r => exact (List.Perm.swap y x _).trans (List.Perm.cons y (ih h))
theorem ExB.refl {b : Addr} {H : Hp} : ExB b H H := fun _ _ _ h => h
theorem ExB.mut {b a : Addr} {H H1 : Hp} {o : HO} (e : ExB b H H1) (n : H a = none) : ExB b H (L2.upd H1 a o) := fun d u ne h => (upd_ne (ne_new h n)).trans (e d u ne h)
theorem ExB.lay {b a : Addr} {H H1 : Hp} {o : HO} (e : ExB b H H1) (n : H1 a = none) : ExB b H (L2.upd H1 a o) := e.trans (ExB.of (Ex.lay ex0 n))
section
variable {H H' : Hp} {b : Addr} {zb : Addr × List Int} {v : V} {R : S3} {l : List Int}
theorem BX.ne {a : Addr} {o : HO} (B : BX H b zb) (h : H a = some o) (no : ∀ c r t, o ≠ .lst [.ref c, .int r, .int t]) : a ≠ b := fun z => by
  obtain ⟨r, t, h1, _⟩ := B
  rw [z, h1] at h
  cases h
  exact no _ _ _ rfl
theorem LI.exB (B : BX H b zb) (e : ExB b H H') : LI H v l → LI H' v l := fun ⟨a, h1, h2⟩ => ⟨a, h1, e _ _ (B.ne h2 fun c r t z => by
  match l, z with
  | [], z => cases z
  | x :: l, z => cases z) h2⟩
theorem LR.exB (B : BX H b zb) (e : ExB b H H') : LR H v R → LR H' v R := fun ⟨a, x, y, z, h1, h2, h3, h4, h5⟩ => ⟨a, x, y, z, h1, e _ _ (B.ne h2 fun c r t u => by
  obtain ⟨_, rfl, _⟩ := h4
  cases u) h2, h3.exB B e, h4.exB B e, h5.exB B e⟩
theorem PL.exB (B : BX H b zb) (e : ExB b H H') : PL H v l → PL H' v l := fun ⟨a, k, h1, h2, h3⟩ => ⟨a, k, h1, e _ _ (B.ne h2 fun _ _ _ u => by cases u) h2, h3⟩
theorem LP.exB (B : BX H b zb) (e : ExB b H H') : LP H v R → LP H' v R := fun ⟨a, x, y, z, h1, h2, h3, h4, h5⟩ => ⟨a, x, y, z, h1, e _ _ (B.ne h2 fun c r t u => by
  obtain ⟨_, _, rfl, _⟩ := h4
  cases u) h2, h3.exB B e, h4.exB B e, h5.exB B e⟩
theorem ST.exB (B : BX H b zb) (e : ExB b H H') : ST K H v R → ST K H' v R := fun ⟨a, dx, l, p, h1, h2, h3, h4⟩ => ⟨a, dx, l, p, h1, e _ _ (B.ne h2 fun _ _ _ u => by cases u) h2, h3.exB B e, h4.exB B e⟩
theorem TW.exB (B : BX H b zb) (e : ExB b H H') : TW K H v R → TW K H' v R := fun ⟨a, dx, s, h1, h2, h3⟩ => ⟨a, dx, s, h1, e _ _ (B.ne h2 fun _ _ _ u => by cases u) h2, h3.exB B e⟩
theorem refs_ne {cs : List Addr} {c : Addr} {r t : Int} : HO.lst (cs.map V.ref) ≠ .lst [.ref c, .int r, .int t] := fun z => by
  match cs, z with
  | [], z => cases z
  | [x], z => cases z
  | x :: y :: cs, z => cases z
theorem LQ.exB {ps : List (Int × Int)} (B : BX H b zb) (e : ExB b H H') : LQ H v ps → LQ H' v ps := fun ⟨a, cs, h1, h2, h3⟩ => ⟨a, cs, h1, e _ _ (B.ne h2 fun _ _ _ => refs_ne) h2, Paired.mapP h3 fun _ _ z => e _ _ (B.ne z fun _ _ _ u => by cases u) z⟩
theorem LE.exB {es : List (Nat × Nat)} (B : BX H b zb) (e : ExB b H H') : LE H v es → LE H' v es := fun ⟨a, cs, h1, h2, h3⟩ => ⟨a, cs, h1, e _ _ (B.ne h2 fun _ _ _ => refs_ne) h2, Paired.mapP h3 fun _ _ z => e _ _ (B.ne z fun _ _ _ u => by cases u) z⟩
end
def sp_law_box (K : PySem.W.Frag) : Sp := fun vs H Q E => ∃ a l, vs = [.ref a] ∧ SqL K H a ((l : List Int).map V.int) ∧ ∀ b z H', Ex H H' → H b = none → BX H' b z → Q (.ref b) H'
theorem ok_law_box (T : Wd P K mg) : Fn P w K mg base 1 "_law_box" (sp_law_box K) := by
  refine Fn.of T.g_law_box T.f_law_box c_law_box (fun _ _ _ _ _ _ us hl => match us, hl with | [_], _ => rfl) (fun vs H Q E h => ?_) fun cdv A outer s H vs Q E hr h => ?_
  · obtain ⟨_, _, rfl, _⟩ := h
    rfl
  have nd := c_law_box.nd
  obtain ⟨a, l, rfl, ha, q⟩ := h
  refine ⟨_, pss_one (ps_ret (pe_lst (pa_cons (pe_callTy (listK (K := K)) rfl T.z_list (by decide +kernel) (pa_cons (pe_slice (slLK (K := K)) (pv 0) (po_none) (po_some (pe_int))) pa_nil)) (pa_cons (pe_int) (pa_cons (pe_int) pa_nil))))), ?_⟩
  refine ⟨_, rfl, _, rfl, a, _, rfl, ha, fun p1 n1 => ?_⟩
  have ei : (63 : Int) = ((63 : Nat) : Int) := rfl
  rw [ei, cut_to]
  have e1 : Ex H (upd H p1 (.lst ((l.take 63).map V.int))) := Ex.lay ex0 n1
  have g1 : upd H p1 (.lst ((l.take 63).map V.int)) p1 = some (.lst ((l.take 63).map V.int)) := upd_same
  generalize upd H p1 (.lst ((l.take 63).map V.int)) = H1 at e1 g1
  refine ⟨p1, _, rfl, .inl (SqL.of g1), fun p2 n2 => ?_⟩
  have e2 : Ex H1 (upd H1 p2 (.lst ((l.take 63).map V.int))) := Ex.lay ex0 n2
  have g2 : upd H1 p2 (.lst ((l.take 63).map V.int)) p2 = some (.lst ((l.take 63).map V.int)) := upd_same
  generalize upd H1 p2 (.lst ((l.take 63).map V.int)) = H2 at e2 g2
  refine ⟨sz20 (show 3 ≤ 1000000 by decide), fun p np => ?_⟩
  exact q p (p2, _) _ (Ex.lay (e1.trans e2) np) (Evl.fresh_back (e1.trans e2) np) ⟨0, 0, upd_same, (upd_ne (ne_new g2 np)).trans g2⟩
def sp_law_take (K : PySem.W.Frag) : Sp := fun vs H Q E => ∃ b z i n, vs = [.ref b, .int i] ∧ BX H b z ∧ i = ((n : Nat) : Int) ∧ 0 < n ∧ n ≤ 1000 ∧ ∀ r H', r < n → ExB b H H' → BX H' b z → Q (.int ((r : Nat) : Int)) H'
theorem ok_law_take (T : Wd P K mg) : Fn P w K mg base 1 "_law_take" (sp_law_take K) := by
  refine Fn.of T.g_law_take T.f_law_take c_law_take (fun _ _ _ _ _ _ us hl => match us, hl with | [_, _], _ => rfl) (fun vs H Q E h => ?_) fun cdv A outer s H vs Q E hr h => ?_
  · obtain ⟨_, _, _, _, rfl, _⟩ := h
    rfl
  have nd := c_law_take.nd
  obtain ⟨b, ⟨c, cells⟩, _, n, rfl, ⟨rest, turn, hb, hc⟩, rfl, hn, hn2, q⟩ := h
  refine ⟨_, pss_cons (ps_set (i := 2) nd rfl (by first | exact .inl rfl | exact .inr rfl) (pe_ix (ixLK (K := K)) (pv 0) (pe_int) (fun _ _ => rfl))) (pss_cons (ps_if (pt_cmpR op_gt (pv 2) (pe_int) (nomark _)) (pss_cons (ps_asg (pe_op op_fdiv (pv 2) (pv 1)) (pg_sub (pv 0) (pe_int) set_list)) (pss_one (ps_ret (pe_op op_mod (pe_callTy call_int1 rfl T.z_int (by decide +kernel) (pa_cons (pv 2) pa_nil)) (pv 1))))) (pss_nil)) (pss_cons (ps_asg (pe_op op_add (pe_ix (ixLK (K := K)) (pv 0) (pe_int) (fun _ _ => rfl)) (pe_int)) (pg_sub (pv 0) (pe_int) set_list)) (pss_cons (ps_set (i := 3) nd rfl (by first | exact .inl rfl | exact .inr rfl) (pe_ix (ixLK (K := K)) (pv 0) (pe_int) (fun _ _ => rfl))) (pss_cons (ps_set (i := 4) nd rfl (by first | exact .inl rfl | exact .inr rfl) (pe_ix (ixLK (K := K)) (pv 0) (pe_int) (fun _ _ => rfl))) (pss_cons (ps_set (i := 5) nd rfl (by first | exact .inl rfl | exact .inr rfl) (pe_int)) (pss_cons (ps_if (pt_cmpR op_le (pv 3) (pe_callB (lenK (K := K)) rfl T.z_len (by decide +kernel) (pa_cons (pv 4) pa_nil)) (nomark _)) (pss_cons (ps_set (i := 5) nd rfl (by first | exact .inl rfl | exact .inr rfl) (pe_callB call_abs rfl T.z_abs (by decide +kernel) (pa_cons (pe_ix (ixLK (K := K)) (pv 4) (pe_op op_sub (pv 3) (pe_int)) (fun _ _ => rfl)) pa_nil))) (pss_one (ps_if (pt_cmpR op_ge (pv 5) (pe_op op_pow (pe_int) (pe_int)) (nomark _)) (pss_cons (ps_asg (pe_op op_fdiv (pv 5) (pv 1)) (pg_sub (pv 0) (pe_int) set_list)) (pss_one (ps_ret (pe_op op_mod (pe_callTy call_int1 rfl T.z_int (by decide +kernel) (pa_cons (pv 5) pa_nil)) (pv 1))))) (pss_nil)))) (pss_one (ps_if (pt_truth (pv 4) (fun _ => rfl)) (pss_one (ps_set (i := 5) nd rfl (by first | exact .inl rfl | exact .inr rfl) (pe_callB call_abs rfl T.z_abs (by decide +kernel) (pa_cons (pe_ix (ixLK (K := K)) (pv 4) (pe_op op_mod (pv 3) (pe_callB (lenK (K := K)) rfl T.z_len (by decide +kernel) (pa_cons (pv 4) pa_nil))) (fun _ _ => rfl)) pa_nil)))) (pss_nil)))) (pss_cons (ps_set (i := 6) nd rfl (by first | exact .inl rfl | exact .inr rfl) (pe_op op_mod (pe_callTy call_int1 rfl T.z_int (by decide +kernel) (pa_cons (pe_op op_add (pe_op op_mul (pe_op op_add (pv 5) (pe_op op_mul (pv 3) (pe_int))) (pe_int)) (pe_int)) pa_nil)) (pe_int))) (pss_cons (ps_set (i := 6) nd rfl (by first | exact .inl rfl | exact .inr rfl) (pe_op op_mod (pe_callTy call_int1 rfl T.z_int (by decide +kernel) (pa_cons (pe_op op_add (pe_op op_mul (pv 6) (pe_op op_add (pe_op op_fdiv (pv 6) (pe_int)) (pe_int))) (pv 3)) pa_nil)) (pe_int))) (pss_one (ps_ret (pe_op op_mod (pe_callTy call_int1 rfl T.z_int (by decide +kernel) (pa_cons (pe_op op_fdiv (pv 6) (pe_int)) pa_nil)) (pv 1)))))))))))), ?_⟩
  have fr : ∀ (z : Int) H', ExB b H H' → BX H' b (c, cells) → Q (.int (z % (n : Int))) H' := fun z H' e1 e2 => by
    have h1 := Int.emod_nonneg z (show (n : Int) ≠ 0 by omega)
    have h2 := Int.emod_lt_of_pos z (show (0 : Int) < n by omega)
    have h3 := q (z % (n : Int)).toNat H' (by omega) e1 e2
    rw [Int.toNat_of_nonneg h1] at h3
    exact h3
  have cd : ∀ z : Int, CDiv z n := fun z => ⟨by omega, by omega⟩
  refine ⟨_, rfl, b, _, _, _, rfl, rfl, SqL.of hb, atI_nat (j := 1) rfl, ?_⟩
  refine ⟨_, rfl, _, _, rfl, rfl, _, rfl, ?_⟩
  by_cases h0 : 0 < rest
  · refine ifT (decide_eq_true h0) ?_
    refine ⟨_, rfl, _, rfl, _, _, rfl, rfl, cd _, _, rfl, b, _, _, _, rfl, rfl, hb, ixN_nat (j := 1) (show 1 < 3 by decide), ?_⟩
    refine ⟨_, rfl, .inl ⟨_, rfl, _, rfl, _, _, rfl, rfl, by omega, ?_⟩⟩
    exact fr _ _ ExB.refl.upd (BX.put hb hc _ _)
  refine ifF (decide_eq_false h0) ?_
  refine ⟨_, rfl, b, _, _, _, rfl, rfl, SqL.of hb, atI_nat (j := 2) rfl, _, _, rfl, rfl, _, rfl, b, _, _, _, rfl, rfl, hb, ixN_nat (j := 2) (show 2 < 3 by decide), ?_⟩
  have hB : BX _ b (c, cells) := BX.put hb hc rest (turn + 1)
  replace hc : H c = some (.lst (cells.map V.int)) := hc
  have eB : ExB b H (upd H b (.lst [.ref c, .int rest, .int ((turn + 1 : Nat) : Int)])) := ExB.refl.upd
  have hb1 : upd H b (.lst [.ref c, .int rest, .int ((turn + 1 : Nat) : Int)]) b = some (.lst [.ref c, .int rest, .int ((turn + 1 : Nat) : Int)]) := upd_same
  have hc1 : upd H b (.lst [.ref c, .int rest, .int ((turn + 1 : Nat) : Int)]) c = some (.lst (cells.map V.int)) := (upd_ne fun z => by
    rw [z, hb] at hc
    cases cells <;> cases hc).trans hc
  show tSeq _ _ _ _ (upd H b (.lst [.ref c, .int rest, .int ((turn + 1 : Nat) : Int)]))
  generalize upd H b (.lst [.ref c, .int rest, .int ((turn + 1 : Nat) : Int)]) = H1 at hB eB hb1 hc1
  refine ⟨_, rfl, b, _, _, _, rfl, rfl, SqL.of hb1, atI_nat (j := 2) rfl, ?_⟩
  refine ⟨_, rfl, b, _, _, _, rfl, rfl, SqL.of hb1, atI_nat (j := 0) rfl, ?_⟩
  refine ⟨_, rfl, _, rfl, c, _, rfl, .inl (SqL.of hc1), _, _, rfl, rfl, _, rfl, ?_⟩
  by_cases ht : ((turn + 1 : Nat) : Int) ≤ ((cells.map V.int).length : Nat)
  · refine ifT (decide_eq_true ht) ?_
    have hx : cells[turn]? = some (cells.getD turn 0) := getD_at (by rw [List.length_map] at ht; omega)
    refine ⟨_, rfl, _, rfl, _, _, rfl, rfl, c, _, _, .int (cells.getD turn 0), rfl, rfl, SqL.of hc1, (by rw [show ((turn + 1 : Nat) : Int) - 1 = (turn : Int) by omega]; exact atI_nat (get_map hx)), _, rfl, ?_⟩
    generalize (if cells.getD turn 0 < 0 then -cells.getD turn 0 else cells.getD turn 0) = cell
    refine ⟨_, rfl, _, _, rfl, rfl, ⟨by decide, by decide, by decide⟩, _, _, rfl, rfl, _, rfl, ?_⟩
    by_cases hg : (10 : Int) ^ (18 : Int).toNat ≤ cell
    · refine ifT (decide_eq_true hg) ?_
      refine ⟨_, rfl, _, rfl, _, _, rfl, rfl, cd _, _, rfl, b, _, _, _, rfl, rfl, hb1, ixN_nat (j := 1) (show 1 < 3 by decide), ?_⟩
      refine ⟨_, rfl, .inl ⟨_, rfl, _, rfl, _, _, rfl, rfl, by omega, ?_⟩⟩
      exact fr _ _ eB.upd (BX.put hb1 hc1 _ _)
    refine ifF (decide_eq_false hg) ?_
    refine ⟨_, rfl, _, rfl, _, _, rfl, rfl, .inr ⟨by omega, by omega⟩, _, _, rfl, rfl, _, _, rfl, rfl, .inr ⟨by omega, by omega⟩, _, _, rfl, rfl, .inl ⟨_, rfl, _, _, rfl, rfl, by omega, ?_⟩⟩
    have m1 := Int.emod_nonneg ((cell + ((turn + 1 : Nat) : Int) * 7919) * 48271 + 11) (show (2147483647 : Int) ≠ 0 by decide)
    have m2 := Int.emod_lt_of_pos ((cell + ((turn + 1 : Nat) : Int) * 7919) * 48271 + 11) (show (0 : Int) < 2147483647 by decide)
    generalize ((cell + ((turn + 1 : Nat) : Int) * 7919) * 48271 + 11) % 2147483647 = mix at m1 m2
    refine ⟨_, rfl, _, rfl, _, _, rfl, rfl, ⟨by decide, by decide⟩, _, _, rfl, rfl, _, _, rfl, rfl, .inl ⟨by omega, by omega⟩, _, rfl, _, _, rfl, rfl, .inl ⟨_, rfl, _, _, rfl, rfl, (show (0 : Int) < 2147483629 by decide), ?_⟩⟩
    generalize (mix * (mix / 4096 + 69621) + ((turn + 1 : Nat) : Int)) % 2147483629 = mix2
    exact ⟨_, rfl, _, _, rfl, rfl, ⟨by decide, by decide⟩, .inl ⟨_, rfl, _, rfl, _, _, rfl, rfl, by omega, fr _ _ eB hB⟩⟩
  refine ifF (decide_eq_false ht) ?_
  refine ⟨_, rfl, _, .inl ⟨_, SqL.of hc1, rfl⟩, ?_⟩
  cases cells with
  | nil =>
    refine ifF rfl ?_
    refine ⟨_, rfl, _, rfl, _, _, rfl, rfl, .inr ⟨by omega, by omega⟩, _, _, rfl, rfl, _, _, rfl, rfl, .inr ⟨by omega, by omega⟩, _, _, rfl, rfl, .inl ⟨_, rfl, _, _, rfl, rfl, by omega, ?_⟩⟩
    have m1 := Int.emod_nonneg (((0 : Int) + ((turn + 1 : Nat) : Int) * 7919) * 48271 + 11) (show (2147483647 : Int) ≠ 0 by decide)
    have m2 := Int.emod_lt_of_pos (((0 : Int) + ((turn + 1 : Nat) : Int) * 7919) * 48271 + 11) (show (0 : Int) < 2147483647 by decide)
    generalize (((0 : Int) + ((turn + 1 : Nat) : Int) * 7919) * 48271 + 11) % 2147483647 = mix at m1 m2
    refine ⟨_, rfl, _, rfl, _, _, rfl, rfl, ⟨by decide, by decide⟩, _, _, rfl, rfl, _, _, rfl, rfl, .inl ⟨by omega, by omega⟩, _, rfl, _, _, rfl, rfl, .inl ⟨_, rfl, _, _, rfl, rfl, (show (0 : Int) < 2147483629 by decide), ?_⟩⟩
    generalize (mix * (mix / 4096 + 69621) + ((turn + 1 : Nat) : Int)) % 2147483629 = mix2
    exact ⟨_, rfl, _, _, rfl, rfl, ⟨by decide, by decide⟩, .inl ⟨_, rfl, _, rfl, _, _, rfl, rfl, by omega, fr _ _ eB hB⟩⟩
  | cons c0 cs =>
    refine ifT rfl ?_
    obtain ⟨j, hj, ej⟩ : ∃ j, j < (c0 :: cs).length ∧ ((turn + 1 : Nat) : Int) % ((((c0 :: cs).map V.int).length : Nat) : Int) = ((j : Nat) : Int) := ⟨(turn + 1) % (c0 :: cs).length, Nat.mod_lt _ (by simp), by rw [List.length_map]; rfl⟩
    refine ⟨_, rfl, _, rfl, _, rfl, c, _, rfl, .inl (SqL.of hc1), _, _, rfl, rfl, by simp only [List.length_map, List.length_cons]; omega, c, _, _, .int ((c0 :: cs).getD j 0), rfl, rfl, SqL.of hc1, (by rw [ej]; exact atI_nat (get_map (getD_at hj))), _, rfl, ?_⟩
    generalize (if (c0 :: cs).getD j 0 < 0 then -(c0 :: cs).getD j 0 else (c0 :: cs).getD j 0) = cell
    refine ⟨_, rfl, _, rfl, _, _, rfl, rfl, .inr ⟨by omega, by omega⟩, _, _, rfl, rfl, _, _, rfl, rfl, .inr ⟨by omega, by omega⟩, _, _, rfl, rfl, .inl ⟨_, rfl, _, _, rfl, rfl, by omega, ?_⟩⟩
    have m1 := Int.emod_nonneg ((cell + ((turn + 1 : Nat) : Int) * 7919) * 48271 + 11) (show (2147483647 : Int) ≠ 0 by decide)
    have m2 := Int.emod_lt_of_pos ((cell + ((turn + 1 : Nat) : Int) * 7919) * 48271 + 11) (show (0 : Int) < 2147483647 by decide)
    generalize ((cell + ((turn + 1 : Nat) : Int) * 7919) * 48271 + 11) % 2147483647 = mix at m1 m2
    refine ⟨_, rfl, _, rfl, _, _, rfl, rfl, ⟨by decide, by decide⟩, _, _, rfl, rfl, _, _, rfl, rfl, .inl ⟨by omega, by omega⟩, _, rfl, _, _, rfl, rfl, .inl ⟨_, rfl, _, _, rfl, rfl, (show (0 : Int) < 2147483629 by decide), ?_⟩⟩
    generalize (mix * (mix / 4096 + 69621) + ((turn + 1 : Nat) : Int)) % 2147483629 = mix2
    exact ⟨_, rfl, _, _, rfl, rfl, ⟨by decide, by decide⟩, .inl ⟨_, rfl, _, rfl, _, _, rfl, rfl, by omega, fr _ _ eB hB⟩⟩
def sp_law_order (K : PySem.W.Frag) : Sp := fun vs H Q E => ∃ b z v l, vs = [.ref b, v] ∧ BX H b z ∧ LI H v l ∧ l.length ≤ 1000 ∧ ∀ v' m H', List.Perm m l → ExB b H H' → BX H' b z → LI H' v' m → Q v' H'
theorem ok_law_order (T : Wd P K mg) : Fn P w K mg base 2 "_law_order" (sp_law_order K) := by
  have F_law_take := ok_law_take (P := P) (w := w) (base := base) T
  refine Fn.of T.g_law_order T.f_law_order c_law_order (fun _ _ _ _ _ _ us hl => match us, hl with | [_, _], _ => rfl) (fun vs H Q E h => ?_) fun cdv A outer s H vs Q E hr h => ?_
  · obtain ⟨_, _, _, _, rfl, _⟩ := h
    rfl
  have nd := c_law_order.nd
  obtain ⟨b, z, _, l, rfl, B0, ⟨a, rfl, ha⟩, hl, q⟩ := h
  refine ⟨_, pss_cons (ps_set (i := 2) nd rfl (by first | exact .inl rfl | exact .inr rfl) (pe_callTy (listK (K := K)) rfl T.z_list (by decide +kernel) (pa_cons (pv 1) pa_nil))) (pss_cons (ps_set (i := 3) nd rfl (by first | exact .inl rfl | exact .inr rfl) (pe_lst (pa_nil))) (pss_cons (ps_for PassesOwn.never rfl (pi_range1 rfl T.z_range (pa_cons (pe_callB (lenK (K := K)) rfl T.z_len (by decide +kernel) (pa_cons (pv 1) pa_nil)) pa_nil)) (pg_name (i := 4) nd rfl (by first | exact .inl rfl | exact .inr rfl)) (pss_one (ps_expr (pe_bm PySem.F.plainAttrs_list PySem.F.slot_list_append PySem.F.type_list_append mt_append (pv 3) (pa_cons (pe_bm PySem.F.plainAttrs_list PySem.F.slot_list_pop PySem.F.type_list_pop mt_popAt (pv 2) (pa_cons (pf F_law_take hr (by decide) (pa_cons (pv 0) (pa_cons (pe_callB (lenK (K := K)) rfl T.z_len (by decide +kernel) (pa_cons (pv 2) pa_nil)) pa_nil))) pa_nil)) pa_nil))))) (pss_one (ps_ret (pv 3))))), ?_⟩
  refine ⟨_, rfl, a, _, rfl, .inl (SqL.of ha), fun lf nl => ?_⟩
  have e1 : Ex H (upd H lf (.lst (l.map V.int))) := Ex.lay ex0 nl
  have g1 : upd H lf (.lst (l.map V.int)) lf = some (.lst (l.map V.int)) := upd_same
  generalize upd H lf (.lst (l.map V.int)) = H1 at e1 g1
  refine ⟨sz20 (show 0 ≤ 1000000 by decide), fun od no => ?_⟩
  have no0 : H od = none := Evl.fresh_back e1 no
  have nlo : od ≠ lf := fun z => by rw [z, g1] at no; cases no
  have e2 : Ex H (upd H1 od (.lst [])) := Ex.lay e1 no
  have g2 : upd H1 od (.lst []) od = some (.lst (([] : List Int).map V.int)) := upd_same
  have g3 : upd H1 od (.lst []) lf = some (.lst (l.map V.int)) := (upd_ne nlo.symm).trans g1
  show tSeq _ _ _ _ (upd H1 od (.lst []))
  generalize upd H1 od (.lst []) = H2 at e2 g2 g3
  refine ⟨_, rfl, a, _, rfl, .inl (SqL.of (e2 _ _ ha)), _, rfl, by rw [List.length_map]; omega, by rw [List.length_map]; omega, ?_⟩
  rw [Int.toNat_natCast, List.length_map]
  refine for_range (fun i σ H' => ∃ o4, σ = [some (.ref b), some (.ref a), some (.ref lf), some (.ref od), o4] ∧ ExB b H H' ∧ BX H' b z ∧ ∃ left ord : List Int, H' lf = some (.lst (left.map V.int)) ∧ H' od = some (.lst (ord.map V.int)) ∧ (ord ++ left).Perm l ∧ ord.length = i) ⟨none, rfl, ExB.of e2, B0.mono e2, l, [], g3, g2, List.Perm.refl _, rfl⟩ ?_ ?_
  · rintro i σ H3 hi ⟨o4, rfl, e3, B3, left, ord, hlf, hod, hp, hlen⟩
    have hll : left.length + i = l.length := by
      have z := hp.length_eq
      rw [List.length_append] at z
      omega
    refine ⟨_, rfl, .inl ⟨rfl, _, SqL.of hod⟩, _, rfl, .inl ⟨rfl, _, SqL.of hlf⟩, _, rfl, _, rfl, lf, _, rfl, .inl (SqL.of hlf), b, z, _, left.length, rfl, B3, by rw [List.length_map], by omega, by omega, fun r H4 hr4 e4 B4 => ?_⟩
    have hlf4 := e4 _ _ (B0.nb nl) hlf
    have hod4 := e4 _ _ (B0.nb no0) hod
    have hx := getD_at hr4
    refine ⟨lf, _, _, r, _, rfl, rfl, hlf4, by omega, by omega, (ixN_seq (ixN_nat (by rw [List.length_map]; exact hr4))).1, get_map hx, ?_⟩
    rw [map_erase]
    have B5 : BX (upd H4 lf (.lst ((left.eraseIdx r).map V.int))) b z := B0.mut nl B4
    have e5 : ExB b H (upd H4 lf (.lst ((left.eraseIdx r).map V.int))) := (e3.trans e4).mut nl
    have g5 : upd H4 lf (.lst ((left.eraseIdx r).map V.int)) lf = some (.lst ((left.eraseIdx r).map V.int)) := upd_same
    have h5 : upd H4 lf (.lst ((left.eraseIdx r).map V.int)) od = some (.lst (ord.map V.int)) := (upd_ne nlo).trans hod4
    generalize upd H4 lf (.lst ((left.eraseIdx r).map V.int)) = H5 at B5 e5 g5 h5
    refine ⟨od, _, _, rfl, rfl, h5, by rw [List.length_map]; exact sz20' (by omega), ?_⟩
    refine ⟨_, rfl, e5.mut no0, B0.mut no0 B5, left.eraseIdx r, ord ++ [left.getD r 0], (upd_ne nlo.symm).trans g5, by rw [upd_same, List.map_append]; rfl, ?_, by rw [List.length_append, hlen]; rfl⟩
    rw [List.append_assoc]
    exact (List.Perm.append_left ord (erase_perm hx)).trans hp
  · rintro σ H3 ⟨o4, rfl, e3, B3, left, ord, hlf, hod, hp, hlen⟩
    have hl0 : left = [] := by
      have z := hp.length_eq
      rw [List.length_append] at z
      exact List.eq_nil_of_length_eq_zero (by omega)
    subst hl0
    rw [List.append_nil] at hp
    exact ⟨_, rfl, q _ ord H3 hp e3 B3 ⟨od, rfl, hod⟩⟩
/-- keys in growing order, so far -/
structure Kso (i : Nat) (ks : List Int) (last : Int) : Prop where
  len : ks.length = i
  nd : ks.Nodup
  lt : ∀ x ∈ ks, 0 ≤ x ∧ x < last
  top : 0 ≤ last ∧ last ≤ 599 + 479 * (i : Int)
theorem Kso.step {i : Nat} {ks : List Int} {last : Int} (h : Kso i ks last) {c d : Nat} (hc : c < 3) (hd : d < 240) : Kso (i + 1) (ks ++ [last]) (last + 1 + (c : Int) * (d : Int)) := by
  have hm : (c : Int) * (d : Int) ≤ 2 * 239 := by
    have z : c * d ≤ 2 * 239 := Nat.mul_le_mul (by omega) (by omega)
    exact_mod_cast z
  have hm0 : 0 ≤ (c : Int) * (d : Int) := by exact_mod_cast Nat.zero_le (c * d)
  obtain ⟨t1, t2⟩ := h.top
  refine ⟨by rw [List.length_append, h.len]; rfl, ?_, fun x hx => ?_, by omega⟩
  · rw [List.nodup_append]
    exact ⟨h.nd, by simp, fun x hx y hy => by
      obtain rfl := List.mem_singleton.mp hy
      have := (h.lt x hx).2
      omega⟩
  · rcases List.mem_append.mp hx with h1 | h1
    · have := h.lt x h1
      omega
    · obtain rfl := List.mem_singleton.mp h1
      omega
theorem Kso.wf {i : Nat} {ks : List Int} {last : Int} (h : Kso i ks last) (hi : i ≤ 12) : Wf ks := ⟨by rw [h.len]; exact hi, h.nd, fun x hx => by
  have := h.lt x hx
  have := h.top
  omega⟩
def sp_law_keys (K : PySem.W.Frag) : Sp := fun vs H Q E => ∃ b z i n, vs = [.ref b, .int i] ∧ BX H b z ∧ i = ((n : Nat) : Int) ∧ n ≤ 12 ∧ ∀ v' m H', Wf m → m.length = n → ExB b H H' → BX H' b z → LI H' v' m → Q v' H'
theorem ok_law_keys (T : Wd P K mg) : Fn P w K mg base 3 "_law_keys" (sp_law_keys K) := by
  have F_law_order := ok_law_order (P := P) (w := w) (base := base) T
  have F_law_take := ok_law_take (P := P) (w := w) (base := base) T
  refine Fn.of T.g_law_keys T.f_law_keys c_law_keys (fun _ _ _ _ _ _ us hl => match us, hl with | [_, _], _ => rfl) (fun vs H Q E h => ?_) fun cdv A outer s H vs Q E hr h => ?_
  · obtain ⟨_, _, _, _, rfl, _⟩ := h
    rfl
  have nd := c_law_keys.nd
  obtain ⟨b, z, _, n, rfl, B0, rfl, hn, q⟩ := h
  refine ⟨_, pss_cons (ps_set (i := 2) nd rfl (by first | exact .inl rfl | exact .inr rfl) (pe_lst (pa_nil))) (pss_cons (ps_set (i := 3) nd rfl (by first | exact .inl rfl | exact .inr rfl) (pf F_law_take hr (by decide) (pa_cons (pv 0) (pa_cons (pe_int) pa_nil)))) (pss_cons (ps_for PassesOwn.never rfl (pi_range1 rfl T.z_range (pa_cons (pv 1) pa_nil)) (pg_name (i := 4) nd rfl (by first | exact .inl rfl | exact .inr rfl)) (pss_cons (ps_expr (pe_bm PySem.F.plainAttrs_list PySem.F.slot_list_append PySem.F.type_list_append mt_append (pv 2) (pa_cons (pv 3) pa_nil))) (pss_one (ps_set (i := 3) nd rfl (by first | exact .inl rfl | exact .inr rfl) (pe_op op_add (pe_op op_add (pv 3) (pe_int)) (pe_op op_mul (pf F_law_take hr (by decide) (pa_cons (pv 0) (pa_cons (pe_int) pa_nil))) (pf F_law_take hr (by decide) (pa_cons (pv 0) (pa_cons (pe_int) pa_nil))))))))) (pss_one (ps_ret (pf F_law_order hr (by decide) (pa_cons (pv 0) (pa_cons (pv 2) pa_nil))))))), ?_⟩
  refine ⟨sz20 (show 0 ≤ 1000000 by decide), fun kp np => ?_⟩
  have e1 : Ex H (upd H kp (.lst [])) := Ex.lay ex0 np
  have g1 : upd H kp (.lst []) kp = some (.lst (([] : List Int).map V.int)) := upd_same
  show tSeq _ _ _ _ (upd H kp (.lst []))
  generalize upd H kp (.lst []) = H1 at e1 g1
  refine ⟨_, rfl, b, z, _, 600, rfl, B0.mono e1, rfl, by decide, by decide, fun r H2 hr2 e2 B2 => ?_⟩
  have e02 := (ExB.of (x := b) e1).trans e2
  refine ⟨_, rfl, _, rfl, by omega, by omega, ?_⟩
  rw [Int.toNat_natCast]
  refine for_range (fun i σ H' => ∃ o4 ks last, σ = [some (.ref b), some (.int (n : Int)), some (.ref kp), some (.int last), o4] ∧ ExB b H H' ∧ BX H' b z ∧ H' kp = some (.lst (ks.map V.int)) ∧ Kso i ks last) ⟨none, [], r, rfl, e02, B2, e2 _ _ (B0.nb np) g1, rfl, List.nodup_nil, (fun x hx => by cases hx), by omega, by omega⟩ ?_ ?_
  · rintro i σ H3 hi ⟨o4, ks, last, rfl, e3, B3, hk, hs⟩
    refine ⟨_, rfl, .inl ⟨rfl, _, SqL.of hk⟩, _, rfl, kp, _, _, rfl, rfl, hk, by rw [List.length_map, hs.len]; exact sz20' (by omega), ?_⟩
    have hk4 : upd H3 kp (.lst (ks.map V.int ++ [.int last])) kp = some (.lst ((ks ++ [last]).map V.int)) := by rw [upd_same, List.map_append]; rfl
    have B4 : BX (upd H3 kp (.lst (ks.map V.int ++ [.int last]))) b z := B0.mut np B3
    have e4 : ExB b H (upd H3 kp (.lst (ks.map V.int ++ [.int last]))) := e3.mut np
    generalize upd H3 kp (.lst (ks.map V.int ++ [.int last])) = H4 at hk4 B4 e4
    refine ⟨_, rfl, _, _, rfl, rfl, _, rfl, b, z, _, 3, rfl, B4, rfl, by decide, by decide, fun c H5 hc e5 B5 => ?_⟩
    refine ⟨_, rfl, b, z, _, 240, rfl, B5, rfl, by decide, by decide, fun d H6 hd e6 B6 => ?_⟩
    refine ⟨_, _, rfl, rfl, .inl ⟨by omega, by omega⟩, _, _, rfl, rfl, ?_⟩
    exact ⟨_, _, _, rfl, e4.trans (e5.trans e6), B6, (e5.trans e6) _ _ (B0.nb np) hk4, hs.step hc hd⟩
  · rintro σ H3 ⟨o4, ks, last, rfl, e3, B3, hk, hs⟩
    have wf := hs.wf hn
    refine ⟨_, rfl, _, rfl, b, z, _, ks, rfl, B3, ⟨kp, rfl, hk⟩, by have := wf.len; omega, fun v' m H4 hp e4 B4 hL => ?_⟩
    exact q v' m H4 (wf.perm hp) (hp.length_eq.trans hs.len) (e3.trans e4) B4 hL
def sp_law_put (K : PySem.W.Frag) : Sp := fun vs H Q E => ∃ b z v l i, vs = [.ref b, v, .int i] ∧ BX H b z ∧ LI H v l ∧ l.length ≤ 900 ∧ ∀ v' m H', List.Perm m (i :: l) → ExB b H H' → BX H' b z → LI H' v' m → Q v' H'
theorem ok_law_put (T : Wd P K mg) : Fn P w K mg base 2 "_law_put" (sp_law_put K) := by
  have F_law_take := ok_law_take (P := P) (w := w) (base := base) T
  refine Fn.of T.g_law_put T.f_law_put c_law_put (fun _ _ _ _ _ _ us hl => match us, hl with | [_, _, _], _ => rfl) (fun vs H Q E h => ?_) fun cdv A outer s H vs Q E hr h => ?_
  · obtain ⟨_, _, _, _, _, rfl, _⟩ := h
    rfl
  have nd := c_law_put.nd
  obtain ⟨b, z, _, l, i, rfl, B0, ⟨a, rfl, ha⟩, hl, q⟩ := h
  refine ⟨_, pss_cons (ps_set (i := 3) nd rfl (by first | exact .inl rfl | exact .inr rfl) (pf F_law_take hr (by decide) (pa_cons (pv 0) (pa_cons (pe_op op_add (pe_callB (lenK (K := K)) rfl T.z_len (by decide +kernel) (pa_cons (pv 1) pa_nil)) (pe_int)) pa_nil)))) (pss_one (ps_ret (pe_op op_cat (pe_op op_cat (pe_slice (slLK (K := K)) (pv 1) (po_none) (po_some (pv 3))) (pe_lst (pa_cons (pv 2) pa_nil))) (pe_slice (slLK (K := K)) (pv 1) (po_some (pv 3)) (po_none))))), ?_⟩
  refine ⟨_, rfl, _, rfl, a, _, rfl, .inl (SqL.of ha), _, _, rfl, rfl, b, z, _, l.length + 1, rfl, B0, by rw [List.length_map]; rfl, by omega, by omega, fun r H1 hr1 e1 B1 => ?_⟩
  obtain ⟨a1, ea, ha1⟩ := LI.exB (l := l) B0 e1 ⟨a, rfl, ha⟩
  cases ea
  refine ⟨_, rfl, _, rfl, _, rfl, a, _, rfl, SqL.of ha1, fun p2 n2 => ?_⟩
  rw [cut_to]
  have e2 : Ex H1 (upd H1 p2 (.lst ((l.take r).map V.int))) := Ex.lay ex0 n2
  have g2 : upd H1 p2 (.lst ((l.take r).map V.int)) p2 = some (.lst ((l.take r).map V.int)) := upd_same
  generalize upd H1 p2 (.lst ((l.take r).map V.int)) = H2 at e2 g2
  refine ⟨_, rfl, sz20 (show 1 ≤ 1000000 by decide), fun p3 n3 => ?_⟩
  have e3 : Ex H2 (upd H2 p3 (.lst [.int i])) := Ex.lay ex0 n3
  have g3 : upd H2 p3 (.lst [.int i]) p3 = some (.lst ([i].map V.int)) := upd_same
  generalize upd H2 p3 (.lst [.int i]) = H3 at e3 g3
  refine ⟨p2, p3, _, _, rfl, rfl, e3 _ _ g2, g3, ?_, fun p4 n4 => ?_⟩
  · rw [List.length_map, List.length_map, List.length_take]
    exact sz20 (by simp; omega)
  rw [← List.map_append]
  have e4 : Ex H3 (upd H3 p4 (.lst ((l.take r ++ [i]).map V.int))) := Ex.lay ex0 n4
  have g4 : upd H3 p4 (.lst ((l.take r ++ [i]).map V.int)) p4 = some (.lst ((l.take r ++ [i]).map V.int)) := upd_same
  generalize upd H3 p4 (.lst ((l.take r ++ [i]).map V.int)) = H4 at e4 g4
  have e14 := e2.trans (e3.trans e4)
  refine ⟨_, rfl, _, rfl, _, rfl, a, _, rfl, SqL.of (e14 _ _ ha1), fun p5 n5 => ?_⟩
  rw [cut_of]
  have e5 : Ex H4 (upd H4 p5 (.lst ((l.drop r).map V.int))) := Ex.lay ex0 n5
  have g5 : upd H4 p5 (.lst ((l.drop r).map V.int)) p5 = some (.lst ((l.drop r).map V.int)) := upd_same
  generalize upd H4 p5 (.lst ((l.drop r).map V.int)) = H5 at e5 g5
  refine ⟨p4, p5, _, _, rfl, rfl, e5 _ _ g4, g5, ?_, fun p6 n6 => ?_⟩
  · rw [List.length_map, List.length_map, List.length_append, List.length_take, List.length_drop]
    exact sz20 (by simp; omega)
  rw [← List.map_append]
  have eA := Ex.lay (o := .lst ((l.take r ++ [i] ++ l.drop r).map V.int)) (e14.trans e5) n6
  refine q _ (l.take r ++ [i] ++ l.drop r) _ ?_ (e1.trans (ExB.of eA)) (B1.mono eA) ⟨p6, rfl, upd_same⟩
  have z := List.perm_middle (a := i) (l₁ := l.take r) (l₂ := l.drop r)
  rw [List.take_append_drop] at z
  rw [List.append_assoc]
  exact z
/-- three rows of the keys of l -/
structure Prm (R : S3) (l : List Int) : Prop where
  a : R.a.Perm l
  b : R.b.Perm l
  c : R.c.Perm l
theorem Prm.okw {R : S3} {l : List Int} (h : Prm R l) (wf : Wf l) : Okw R := ⟨⟨(wf.perm h.a).nd, h.b.trans h.a.symm, h.c.trans h.a.symm⟩, wf.perm h.a⟩
theorem Prm.get {R : S3} {l : List Int} (h : Prm R l) (k : Nat) : (R.get k).Perm l := by
  match k with
  | 0 => exact h.a
  | 1 => exact h.b
  | k + 2 => exact h.c
theorem Prm.set {R : S3} {l m : List Int} (h : Prm R l) (k : Nat) (p : m.Perm l) : Prm (R.set k m) l := by
  match k with
  | 0 => exact ⟨p, h.b, h.c⟩
  | 1 => exact ⟨h.a, p, h.c⟩
  | k + 2 => exact ⟨h.a, h.b, p⟩
theorem LR.at_ {H : Hp} {p : Addr} {R : S3} {k : Nat} (h : LR H (.ref p) R) (hk : k < 3) : ∃ xs u, H p = some (.lst xs) ∧ xs.length = 3 ∧ xs[k]? = some u ∧ LI H u (R.get k) := by
  obtain ⟨a, x, y, z, e, h1, h2, h3, h4⟩ := h
  cases e
  match k, hk with
  | 0, _ => exact ⟨_, _, h1, rfl, rfl, h2⟩
  | 1, _ => exact ⟨_, _, h1, rfl, rfl, h3⟩
  | 2, _ => exact ⟨_, _, h1, rfl, rfl, h4⟩
theorem LR.put {H : Hp} {p : Addr} {R : S3} {k : Nat} {v : V} {m : List Int} {xs : List V} (h : LR H (.ref p) R) (hk : k < 3) (hp : H p = some (.lst xs)) (hv : LI H v m) : LR (upd H p (.lst (xs.set k v))) (.ref p) (R.set k m) := by
  obtain ⟨a, x, y, z, e, h1, ⟨c0, rfl, h2⟩, ⟨c1, rfl, h3⟩, ⟨c2, rfl, h4⟩⟩ := h
  cases e
  obtain ⟨cv, rfl, hv⟩ := hv
  rw [h1] at hp
  cases hp
  have nu : ∀ c (l : List Int), H c = some (.lst (l.map V.int)) → c ≠ p := fun c l hc z => by
    rw [z, h1] at hc
    match l, hc with
    | [], hc => cases hc
    | x :: l, hc => cases hc
  have g : ∀ c (l : List Int) (o : HO), H c = some (.lst (l.map V.int)) → LI (upd H p o) (.ref c) l := fun c l o hc => ⟨c, rfl, (upd_ne (nu c l hc)).trans hc⟩
  match k, hk with
  | 0, _ => exact ⟨p, _, _, _, rfl, upd_same, g _ _ _ hv, g _ _ _ h3, g _ _ _ h4⟩
  | 1, _ => exact ⟨p, _, _, _, rfl, upd_same, g _ _ _ h2, g _ _ _ hv, g _ _ _ h4⟩
  | 2, _ => exact ⟨p, _, _, _, rfl, upd_same, g _ _ _ h2, g _ _ _ h3, g _ _ _ hv⟩
def sp_law_parties (K : PySem.W.Frag) : Sp := fun vs H Q E => ∃ b z v l, vs = [.ref b, v] ∧ BX H b z ∧ LI H v l ∧ l.length ≤ 900 ∧ ∀ v' R H', Prm R l → ExB b H H' → BX H' b z → LR H' v' R → Q v' H'
theorem ok_law_parties (T : Wd P K mg) : Fn P w K mg base 2 "_law_parties" (sp_law_parties K) := by
  have F_law_exchanged := ok_law_exchanged (P := P) (w := w) (base := base) T
  have F_law_take := ok_law_take (P := P) (w := w) (base := base) T
  refine Fn.of T.g_law_parties T.f_law_parties c_law_parties (fun _ _ _ _ _ _ us hl => match us, hl with | [_, _], _ => rfl) (fun vs H Q E h => ?_) fun cdv A outer s H vs Q E hr h => ?_
  · obtain ⟨_, _, _, _, rfl, _⟩ := h
    rfl
  have nd := c_law_parties.nd
  obtain ⟨b, z, _, l, rfl, B0, ⟨a, rfl, ha⟩, hl, q⟩ := h
  refine ⟨_, pss_cons (ps_set (i := 2) nd rfl (by first | exact .inl rfl | exact .inr rfl) (pe_lst (pa_cons (pe_callTy (listK (K := K)) rfl T.z_list (by decide +kernel) (pa_cons (pv 1) pa_nil)) (pa_cons (pe_callTy (listK (K := K)) rfl T.z_list (by decide +kernel) (pa_cons (pv 1) pa_nil)) (pa_cons (pe_callTy (listK (K := K)) rfl T.z_list (by decide +kernel) (pa_cons (pv 1) pa_nil)) pa_nil))))) (pss_cons (ps_for PassesOwn.never rfl (pi_range2 rfl T.z_range (pa_cons (pe_int) (pa_cons (pe_int) pa_nil))) (pg_name (i := 3) nd rfl (by first | exact .inl rfl | exact .inr rfl)) (pss_one (ps_for PassesOwn.never rfl (pi_range1 rfl T.z_range (pa_cons (pf F_law_take hr (by decide) (pa_cons (pv 0) (pa_cons (pe_int) pa_nil))) pa_nil)) (pg_name (i := 4) nd rfl (by first | exact .inl rfl | exact .inr rfl)) (pss_one (ps_if (pt_cmpR op_gt (pe_callB (lenK (K := K)) rfl T.z_len (by decide +kernel) (pa_cons (pv 1) pa_nil)) (pe_int) (nomark _)) (pss_one (ps_asg (pf F_law_exchanged hr (by decide) (pa_cons (pe_ix (ixLK (K := K)) (pv 2) (pv 3) (fun _ _ => rfl)) (pa_cons (pf F_law_take hr (by decide) (pa_cons (pv 0) (pa_cons (pe_op op_sub (pe_callB (lenK (K := K)) rfl T.z_len (by decide +kernel) (pa_cons (pv 1) pa_nil)) (pe_int)) pa_nil))) pa_nil))) (pg_sub (pv 2) (pv 3) set_list))) (pss_nil)))))) (pss_cons (ps_if (pt_cmpR op_eq (pf F_law_take hr (by decide) (pa_cons (pv 0) (pa_cons (pe_int) pa_nil))) (pe_int) (nomark _)) (pss_one (ps_asg (pe_callTy (listK (K := K)) rfl T.z_list (by decide +kernel) (pa_cons (pe_ix (ixLK (K := K)) (pv 2) (pe_int) (fun _ _ => rfl)) pa_nil)) (pg_sub (pv 2) (pe_int) set_list))) (pss_nil)) (pss_one (ps_ret (pv 2))))), ?_⟩
  refine ⟨_, rfl, a, _, rfl, .inl (SqL.of ha), fun l1 n1 => ?_⟩
  have e1 : Ex H (upd H l1 (.lst (l.map V.int))) := Ex.lay ex0 n1
  have g1 : upd H l1 (.lst (l.map V.int)) l1 = some (.lst (l.map V.int)) := upd_same
  generalize upd H l1 (.lst (l.map V.int)) = H1 at e1 g1
  refine ⟨_, rfl, a, _, rfl, .inl (SqL.of (e1 _ _ ha)), fun l2 n2 => ?_⟩
  have e2 : Ex H1 (upd H1 l2 (.lst (l.map V.int))) := Ex.lay ex0 n2
  have g2 : upd H1 l2 (.lst (l.map V.int)) l2 = some (.lst (l.map V.int)) := upd_same
  generalize upd H1 l2 (.lst (l.map V.int)) = H2 at e2 g2
  have e12 := e1.trans e2
  refine ⟨_, rfl, a, _, rfl, .inl (SqL.of (e12 _ _ ha)), fun l3 n3 => ?_⟩
  have e3 : Ex H2 (upd H2 l3 (.lst (l.map V.int))) := Ex.lay ex0 n3
  have g3 : upd H2 l3 (.lst (l.map V.int)) l3 = some (.lst (l.map V.int)) := upd_same
  generalize upd H2 l3 (.lst (l.map V.int)) = H3 at e3 g3
  refine ⟨sz20 (show 3 ≤ 1000000 by decide), fun p np => ?_⟩
  have e13 := e12.trans e3
  have np0 : H p = none := Evl.fresh_back e13 np
  have eA : Ex H3 (upd H3 p (.lst [.ref l1, .ref l2, .ref l3])) := Ex.lay ex0 np
  have hR : LR (upd H3 p (.lst [.ref l1, .ref l2, .ref l3])) (.ref p) ⟨l, l, l⟩ := ⟨p, _, _, _, rfl, upd_same, ⟨l1, rfl, eA _ _ (e3 _ _ (e2 _ _ g1))⟩, ⟨l2, rfl, eA _ _ (e3 _ _ g2)⟩, ⟨l3, rfl, eA _ _ g3⟩⟩
  have e0 := e13.trans eA
  generalize upd H3 p (.lst [.ref l1, .ref l2, .ref l3]) = H4 at eA hR e0
  clear g1 g2 g3
  have lcopy : List.Perm l l := List.Perm.refl l
  refine ⟨1, 3, rfl, ⟨by decide, by decide, by decide, by decide⟩, ?_⟩
  refine for_range (fun i σ H' => ∃ o3 o4 R, σ = [some (.ref b), some (.ref a), some (.ref p), o3, o4] ∧ ExB b H H' ∧ BX H' b z ∧ LR H' (.ref p) R ∧ Prm R l) ⟨none, none, _, rfl, ExB.of e0, B0.mono e0, hR, lcopy, lcopy, lcopy⟩ ?_ ?_
  · rintro i σ H5 hi ⟨o3, o4, R, rfl, e5, B5, hR5, hp5⟩
    have hi2 : i < 2 := hi
    have ei : ((1 : Int) + (i : Nat)) = ((1 + i : Nat) : Int) := rfl
    rw [ei]
    refine ⟨_, rfl, b, z, _, 6, rfl, B5, rfl, by decide, by decide, fun r H6 hr6 e6 B6 => ⟨_, rfl, by omega, by omega, ?_⟩⟩
    rw [Int.toNat_natCast]
    refine for_range (fun j σ H' => ∃ o4 R, σ = [some (.ref b), some (.ref a), some (.ref p), some (.int ((1 + i : Nat) : Int)), o4] ∧ ExB b H H' ∧ BX H' b z ∧ LR H' (.ref p) R ∧ Prm R l) ⟨o4, R, rfl, e5.trans e6, B6, hR5.exB B5 e6, hp5⟩ ?_ ?_
    · rintro j σ H7 hj ⟨o4, R, rfl, e7, B7, hR7, hp7⟩
      have hl7 : LI H7 (.ref a) l := LI.exB B0 e7 ⟨a, rfl, ha⟩
      obtain ⟨_, ea, ha7⟩ := id hl7
      cases ea
      refine ⟨_, rfl, a, _, rfl, .inl (SqL.of ha7), _, _, rfl, rfl, _, rfl, ?_⟩
      by_cases h1 : (1 : Int) < (((l.map V.int).length : Nat) : Int)
      · refine ifT (decide_eq_true h1) ?_
        rw [List.length_map] at h1
        obtain ⟨xs, u, hxs, hxl, hu, hLu⟩ := hR7.at_ (k := 1 + i) (by omega)
        refine ⟨_, rfl, _, rfl, p, _, _, _, rfl, rfl, SqL.of hxs, atI_nat hu, _, rfl, _, rfl, a, _, rfl, .inl (SqL.of ha7), _, _, rfl, rfl, b, z, _, l.length - 1, rfl, B7, by rw [List.length_map]; omega, by omega, by omega, fun r H8 hr8 e8 B8 => ?_⟩
        have hgl : (R.get (1 + i)).length = l.length := (hp7.get (1 + i)).length_eq
        refine ⟨u, R.get (1 + i), r, rfl, hLu.exB B7 e8, by omega, by omega, fun q1 H9 nq1 e9 hq1 => ?_⟩
        have hR9 : LR H9 (.ref p) R := (hR7.exB B7 e8).mono e9
        have hp9 : H9 p = some (.lst xs) := e9 _ _ (e8 _ _ (B0.nb np0) hxs)
        refine ⟨_, rfl, _, rfl, p, _, _, _, rfl, rfl, hp9, ixN_nat (by rw [hxl]; omega), ?_⟩
        refine ⟨_, _, rfl, (e7.trans (e8.trans (ExB.of e9))).mut np0, B0.mut np0 (B8.mono e9), hR9.put (k := 1 + i) (by omega) hp9 ⟨q1, rfl, hq1⟩, hp7.set _ ((exch_perm (by omega)).trans (hp7.get _))⟩
      · refine ifF (decide_eq_false h1) ?_
        exact ⟨_, R, rfl, e7, B7, hR7, hp7⟩
    · rintro σ H7 ⟨o4, R, rfl, e7, B7, hR7, hp7⟩
      exact ⟨_, _, R, rfl, e7, B7, hR7, hp7⟩
  · rintro σ H5 ⟨o3, o4, R, rfl, e5, B5, hR5, hp5⟩
    refine ⟨_, rfl, b, z, _, 4, rfl, B5, rfl, by decide, by decide, fun r H6 hr6 e6 B6 => ?_⟩
    have hR6 := hR5.exB B5 e6
    refine ⟨rfl, _, rfl, ?_⟩
    rw [dec_int]
    by_cases h0 : (r : Int) = 0
    · refine ifT (beq_iff_eq.mpr h0) ?_
      obtain ⟨xs, u, hxs, hxl, hu, c1, rfl, hc1⟩ := hR6.at_ (k := 1) (by omega)
      refine ⟨_, rfl, p, _, _, _, rfl, rfl, SqL.of hxs, atI_nat (j := 1) hu, c1, _, rfl, .inl (SqL.of hc1), fun q1 nq1 => ?_⟩
      have e7 : Ex H6 (upd H6 q1 (.lst ((R.get 1).map V.int))) := Ex.lay ex0 nq1
      have g7 : upd H6 q1 (.lst ((R.get 1).map V.int)) q1 = some (.lst ((R.get 1).map V.int)) := upd_same
      generalize upd H6 q1 (.lst ((R.get 1).map V.int)) = H7 at e7 g7
      refine ⟨_, rfl, p, _, _, _, rfl, rfl, e7 _ _ hxs, ixN_nat (j := 2) (by rw [hxl]; decide), ?_⟩
      exact ⟨_, rfl, q _ _ _ (hp5.set 2 (hp5.get 1)) ((e5.trans (e6.trans (ExB.of e7))).mut np0) (B0.mut np0 (B6.mono e7)) ((hR6.mono e7).put (k := 2) (by decide) (e7 _ _ hxs) ⟨q1, rfl, g7⟩)⟩
    · refine ifF (beq_eq_false_iff_ne.mpr h0) ?_
      exact ⟨_, rfl, q _ R _ hp5 (e5.trans e6) B6 hR6⟩
def sp_law_walked (K : PySem.W.Frag) : Sp := fun vs H Q E => ∃ b z v R i n, vs = [.ref b, v, .int i] ∧ BX H b z ∧ LR H v R ∧ Okw R ∧ i = ((n : Nat) : Int) ∧ n ≤ 1000 ∧ ∀ v' R' H', Okw R' → ExB b H H' → BX H' b z → LR H' v' R' → Q v' H'
theorem ok_law_walked (T : Wd P K mg) : Fn P w K mg base 3 "_law_walked" (sp_law_walked K) := by
  have F_law_after := ok_law_after (P := P) (w := w) (base := base) T
  have F_law_merge := ok_law_merge (P := P) (w := w) (base := base) T
  have F_law_take := ok_law_take (P := P) (w := w) (base := base) T
  refine Fn.of T.g_law_walked T.f_law_walked c_law_walked (fun _ _ _ _ _ _ us hl => match us, hl with | [_, _, _], _ => rfl) (fun vs H Q E h => ?_) fun cdv A outer s H vs Q E hr h => ?_
  · obtain ⟨_, _, _, _, _, _, rfl, _⟩ := h
    rfl
  have nd := c_law_walked.nd
  have hu64 := hr.units
  obtain ⟨b, z, _, R, _, n, rfl, B0, hR, ok, rfl, hn, q⟩ := h
  refine ⟨_, pss_cons (ps_set (i := 3) nd rfl (by first | exact .inl rfl | exact .inr rfl) (pe_callB (lenK (K := K)) rfl T.z_len (by decide +kernel) (pa_cons (pe_ix (ixLK (K := K)) (pv 1) (pe_int) (fun _ _ => rfl)) pa_nil))) (pss_cons (ps_set (i := 4) nd rfl (by first | exact .inl rfl | exact .inr rfl) (pf F_law_merge hr (by decide) (pa_cons (pv 1) pa_nil))) (pss_cons (ps_for PassesOwn.never rfl (pi_range1 rfl T.z_range (pa_cons (pv 2) pa_nil)) (pg_name (i := 5) nd rfl (by first | exact .inl rfl | exact .inr rfl)) (pss_one (ps_if (pt_cmpR op_gt (pv 3) (pe_int) (nomark _)) (pss_cons (ps_set (i := 6) nd rfl (by first | exact .inl rfl | exact .inr rfl) (pf F_law_take hr (by decide) (pa_cons (pv 0) (pa_cons (pe_int) pa_nil)))) (pss_cons (ps_set (i := 7) nd rfl (by first | exact .inl rfl | exact .inr rfl) (pf F_law_after hr (by decide) (pa_cons (pv 1) (pa_cons (pv 6) (pa_cons (pf F_law_take hr (by decide) (pa_cons (pv 0) (pa_cons (pe_op op_sub (pv 3) (pe_int)) pa_nil))) pa_nil))))) (pss_one (ps_if (pt_cmpR (op_eqD hu64) (pf F_law_merge hr (by decide) (pa_cons (pv 7) pa_nil)) (pv 4) (nomark _)) (pss_one (ps_set (i := 1) nd rfl (by first | exact .inl rfl | exact .inr rfl) (pv 7))) (pss_nil))))) (pss_nil)))) (pss_one (ps_ret (pv 1))))), ?_⟩
  obtain ⟨a, u0, u1, u2, rfl, ha, ⟨c0, rfl, h0⟩, h1, h2⟩ := id hR
  refine ⟨_, rfl, a, _, _, _, rfl, rfl, SqL.of ha, atI_nat (j := 0) rfl, c0, _, rfl, .inl (SqL.of h0), ?_⟩
  rw [List.length_map]
  refine ⟨_, rfl, _, R, rfl, hR, ok, fun nowv H1 e1 hN => ?_⟩
  refine ⟨_, rfl, _, rfl, by omega, by omega, ?_⟩
  rw [Int.toNat_natCast]
  refine for_range (fun i σ H' => ∃ v o5 o6 o7 R', σ = [some (.ref b), some v, some (.int (n : Int)), some (.int ((R.a.length : Nat) : Int)), some nowv, o5, o6, o7] ∧ ExB b H H' ∧ BX H' b z ∧ LR H' v R' ∧ Okw R' ∧ R'.a.length = R.a.length ∧ LQ H' nowv R.mrg) ⟨_, none, none, none, R, rfl, ExB.of e1, B0.mono e1, hR.mono e1, ok, rfl, hN⟩ ?_ ?_
  · rintro i σ H2 hi ⟨v, o5, o6, o7, R', rfl, e2, B2, hR2, ok2, hl2, hN2⟩
    refine ⟨_, rfl, _, _, rfl, rfl, _, rfl, ?_⟩
    by_cases h1 : (1 : Int) < ((R.a.length : Nat) : Int)
    · refine ifT (decide_eq_true h1) ?_
      have wl := ok2.wf.len
      refine ⟨_, rfl, b, z, _, 3, rfl, B2, rfl, by decide, by decide, fun k H3 hk e3 B3 => ?_⟩
      refine ⟨_, rfl, _, rfl, _, rfl, _, rfl, _, _, rfl, rfl, b, z, _, R.a.length - 1, rfl, B3, by omega, by omega, by omega, fun r H4 hr4 e4 B4 => ?_⟩
      have hR4 := (hR2.exB B2 e3).exB B3 e4
      have hN4 := (hN2.exB B2 e3).exB B3 e4
      refine ⟨_, R', k, r, rfl, hR4, ok2.ok, by omega, hk, by omega, fun p H5 _ e5 hp => ?_⟩
      have ok5 := okw_aft ok2 (k := k) (i := r) (by omega)
      refine ⟨_, rfl, _, _, rfl, hp, ok5, fun mv H6 e6 hm => ?_⟩
      have e56 := e5.trans e6
      have eX := e2.trans (e3.trans (e4.trans (ExB.of e56)))
      refine ⟨_, rfl, dP (R'.aft k r).mrg, dP R.mrg, dp_LQ hm, dp_LQ (hN4.mono e56), shaped_of (lay_dP _) (Nat.le_trans (depth_dP _) (by decide)), shaped_of (lay_dP _) (Nat.le_trans (depth_dP _) (by decide)), _, rfl, ?_⟩
      cases hb2 : PyData.eqv (dP (R'.aft k r).mrg) (dP R.mrg)
      · exact ifF rfl ⟨_, _, _, _, R', rfl, eX, B4.mono e56, hR4.mono e56, ok2, hl2, hN4.mono e56⟩
      · exact ifT rfl ⟨_, rfl, _, _, _, _, _, rfl, eX, B4.mono e56, hp.mono e6, ok5, (S3.aft_len ok2.ok (by omega)).trans hl2, hN4.mono e56⟩
    · refine ifF (decide_eq_false h1) ?_
      exact ⟨v, _, _, _, R', rfl, e2, B2, hR2, ok2, hl2, hN2⟩
  · rintro σ H2 ⟨v, o5, o6, o7, R', rfl, e2, B2, hR2, ok2, hl2, hN2⟩
    exact ⟨_, rfl, q _ R' _ ok2 e2 B2 hR2⟩
theorem Prm.grow {R R' : S3} {l : List Int} {one : Int} (P : Prm R l) (h : ∀ k, (R'.get k).Perm (one :: R.get k)) : Prm R' (l ++ [one]) :=
  have g : ∀ k, (R'.get k).Perm (l ++ [one]) := fun k => (h k).trans ((List.Perm.cons one (P.get k)).trans (List.perm_append_singleton one l).symm)
  ⟨g 0, g 1, g 2⟩
/-- [_law_put(box, row, one) for row in rows] -/
theorem puts_rd {H : Hp} {b : Addr} {z : Addr × List Int} {x1 o4 : Option V} {v : V} {one : Int} {R : S3} {Q : VK} (B : BX H b z) (hR : LR H v R) (len : ∀ k, (R.get k).length ≤ 900)
    (q : ∀ v' R' H', (∀ k, (R'.get k).Perm (one :: R.get k)) → ExB b H H' → BX H' b z → LR H' v' R' → Q v' H') :
    tLc (iList K (tVar 2)) (gName 4) tYes (tCall (sp_law_put K) [] E0 (tCons (tVar 0) (tCons (tVar 4) (tCons (tVar 3) tNil)))) [4] [some (.ref b), x1, some v, some (.int one), o4] H Q := by
  obtain ⟨a, u0, u1, u2, rfl, ha, h0, h1, h2⟩ := id hR
  refine ⟨_, rfl, a, rfl, ⟨_, SqL.of ha⟩, fun D nD => lc_it (walk_list (xs := [u0, u1, u2])) (fun i H' => ∃ cs : List Addr, H' D = some (.lst (cs.map V.ref)) ∧ ExB b H H' ∧ BX H' b z ∧ cs.length = i ∧ ∀ k c, cs[k]? = some c → ∃ m : List Int, H' c = some (.lst (m.map V.int)) ∧ m.Perm (one :: R.get k)) ⟨[], upd_same, ExB.refl.mut nD, B.mut nD B, rfl, fun k c hk => by cases hk⟩ (fun i H2 _ ⟨cs, hD, e, B2, hcs⟩ => ?_) (fun i x H1 H1' hi ⟨cs, hD, e, B1, hl, hcs⟩ hy => ?_) fun H2 ⟨cs, hD, e, B2, hl, hcs⟩ => ?_⟩
  · exact SqL.of (e _ _ (B.ne ha fun c r t y => by
      obtain ⟨_, rfl, _⟩ := h1
      cases y) ha)
  · obtain ⟨rfl, hy⟩ := hy
    have hLx : LI H1' x (R.get i) := three_get (P := fun i y => LI H1' y (R.get i)) (h0.exB B e) (h1.exB B e) (h2.exB B e) i x hy
    refine ⟨rfl, _, rfl, _, rfl, _, rfl, b, z, x, R.get i, one, rfl, B1, hLx, len i, fun v' m H5 hp e5 B5 hL => ?_⟩
    have hD5 := e5 _ _ (B.nb nD) hD
    obtain ⟨c, rfl, hc⟩ := hL
    have hne : ∀ (d : Addr) (m : List Int) (k : Nat), H5 d = some (.lst (m.map V.int)) → m.Perm (one :: R.get k) → d ≠ D := fun d m k hd hp w => by
      rw [w, hD5] at hd
      match m, cs, hp, hd with
      | [], _, hp, _ => exact absurd hp.length_eq (by simp)
      | x :: m, [], _, hd => cases hd
      | x :: m, y :: cs, _, hd => cases hd
    have hi3 : i < 3 := hi
    refine ⟨cs.map V.ref, hD5, by rw [List.length_map, hl]; exact sz20' (by omega), cs ++ [c], by rw [upd_same, List.map_append]; rfl, (e.trans e5).mut nD, B.mut nD B5, by rw [List.length_append, hl]; rfl, fun k d hk => ?_⟩
    by_cases hk2 : k < cs.length
    · rw [List.getElem?_append_left hk2] at hk
      obtain ⟨m', h3, h4⟩ := hcs k d hk
      obtain ⟨_, ed, h5⟩ := LI.exB (l := m') B1 e5 ⟨d, rfl, h3⟩
      cases ed
      exact ⟨m', (upd_ne (hne _ _ _ h5 h4)).trans h5, h4⟩
    · rw [List.getElem?_append_right (by omega)] at hk
      have hk0 : k = cs.length := by
        by_cases w : k = cs.length
        · exact w
        · rw [List.getElem?_eq_none (by simp; omega)] at hk
          cases hk
      subst hk0
      rw [Nat.sub_self] at hk
      cases hk
      rw [hl]
      exact ⟨m, (upd_ne (hne _ _ _ hc hp)).trans hc, hp⟩
  · have hl3 : cs.length = 3 := hl
    match cs, hl3 with
    | [c0, c1, c2], _ =>
      obtain ⟨m0, g0, p0⟩ := hcs 0 c0 rfl
      obtain ⟨m1, g1, p1⟩ := hcs 1 c1 rfl
      obtain ⟨m2, g2, p2⟩ := hcs 2 c2 rfl
      exact q _ ⟨m0, m1, m2⟩ _ (fun k => match k with
        | 0 => p0
        | 1 => p1
        | k + 2 => p2) e B2 ⟨D, _, _, _, rfl, hD, ⟨c0, rfl, g0⟩, ⟨c1, rfl, g1⟩, ⟨c2, rfl, g2⟩⟩
theorem puts_seq {H : Hp} {b : Addr} {z : Addr × List Int} {x1 o3 o4 : Option V} {v : V} {one : Int} {R : S3} {D : Ends} {nm : Str} (B : BX H b z) (hR : LR H v R) (len : ∀ k, (R.get k).length ≤ 900)
    (q : ∀ v' R' H', (∀ k, (R'.get k).Perm (one :: R.get k)) → ExB b H H' → BX H' b z → LR H' v' R' → D.nx [some (.ref b), x1, some v', some (.int one), o4] H') :
    gName 3 (.int one) [some (.ref b), x1, some v, o3, o4] H fun σ2 H2 => tAsg (tLc (iList K (tVar 2)) (gName 4) tYes (tCall (sp_law_put K) [] E0 (tCons (tVar 0) (tCons (tVar 4) (tCons (tVar 3) tNil)))) (List.map (fun x => x.2) [(nm, 4)])) (gName 2) D σ2 H2 :=
  puts_rd (Q := fun x H1 => gName 2 x [some (.ref b), x1, some v, some (.int one), o4] H1 D.nx) B hR len q
def sp_law_ring (K : PySem.W.Frag) : Sp := fun vs H Q E => ∃ b z v l, vs = [.ref b, v] ∧ BX H b z ∧ LI H v l ∧ 3 ≤ l.length ∧ l.length ≤ 900 ∧ ∀ v' R H', Prm R l → ExB b H H' → BX H' b z → LR H' v' R → Q v' H'
theorem ok_law_ring (T : Wd P K mg) : Fn P w K mg base 3 "_law_ring" (sp_law_ring K) := by
  have F_law_put := ok_law_put (P := P) (w := w) (base := base) T
  have F_law_take := ok_law_take (P := P) (w := w) (base := base) T
  refine Fn.of T.g_law_ring T.f_law_ring c_law_ring (fun _ _ _ _ _ _ us hl => match us, hl with | [_, _], _ => rfl) (fun vs H Q E h => ?_) fun cdv A outer s H vs Q E hr h => ?_
  · obtain ⟨_, _, _, _, rfl, _⟩ := h
    rfl
  have nd := c_law_ring.nd
  obtain ⟨b, z, _, l, rfl, B0, ⟨a, rfl, ha⟩, hl3, hl, q⟩ := h
  refine ⟨_, pss_cons (ps_set (i := 2) nd rfl (by first | exact .inl rfl | exact .inr rfl) (pe_lst (pa_cons (pe_lst (pa_cons (pe_ix (ixLK (K := K)) (pv 1) (pe_int) (fun _ _ => rfl)) (pa_cons (pe_ix (ixLK (K := K)) (pv 1) (pe_int) (fun _ _ => rfl)) (pa_cons (pe_ix (ixLK (K := K)) (pv 1) (pe_int) (fun _ _ => rfl)) pa_nil)))) (pa_cons (pe_lst (pa_cons (pe_ix (ixLK (K := K)) (pv 1) (pe_int) (fun _ _ => rfl)) (pa_cons (pe_ix (ixLK (K := K)) (pv 1) (pe_int) (fun _ _ => rfl)) (pa_cons (pe_ix (ixLK (K := K)) (pv 1) (pe_int) (fun _ _ => rfl)) pa_nil)))) (pa_cons (pe_lst (pa_cons (pe_ix (ixLK (K := K)) (pv 1) (pe_int) (fun _ _ => rfl)) (pa_cons (pe_ix (ixLK (K := K)) (pv 1) (pe_int) (fun _ _ => rfl)) (pa_cons (pe_ix (ixLK (K := K)) (pv 1) (pe_int) (fun _ _ => rfl)) pa_nil)))) pa_nil))))) (pss_cons (ps_if (pt_cmpR op_eq (pf F_law_take hr (by decide) (pa_cons (pv 0) (pa_cons (pe_int) pa_nil))) (pe_int) (nomark _)) (pss_one (ps_set (i := 2) nd rfl (by first | exact .inl rfl | exact .inr rfl) (pe_lst (pa_cons (pe_ix (ixLK (K := K)) (pv 2) (pe_int) (fun _ _ => rfl)) (pa_cons (pe_ix (ixLK (K := K)) (pv 2) (pe_int) (fun _ _ => rfl)) (pa_cons (pe_ix (ixLK (K := K)) (pv 2) (pe_int) (fun _ _ => rfl)) pa_nil)))))) (pss_nil)) (pss_cons (ps_for PassesOwn.never rfl (piLK (K := K) (pe_slice (slLK (K := K)) (pv 1) (po_some (pe_int)) (po_none))) (pg_name (i := 3) nd rfl (by first | exact .inl rfl | exact .inr rfl)) (pss_one (ps_setLc (i := 2) (own := [("_law_row", 4)]) rfl nd rfl rfl (sw_true rfl rfl rfl (by decide +kernel)) (piLK (K := K) (pv 2)) (blkOk_by (N := n_law_ring) (sc := defScope s_law_ring) (by decide +kernel)) (fun _ _ _ _ _ => pg_name (i := 4) nd rfl (by first | exact .inl rfl | exact .inr rfl)) (fun _ _ _ _ _ => pts_nil) (fun _ _ _ _ _ => pf F_law_put hr (by decide) (pa_cons (pv 0) (pa_cons (pv 4) (pa_cons (pv 3) pa_nil))))))) (pss_one (ps_ret (pv 2))))), ?_⟩
  obtain ⟨x0, x1, x2, lt, rfl⟩ : ∃ x0 x1 x2 lt, l = x0 :: x1 :: x2 :: lt := by
    match l, hl3 with
    | x0 :: x1 :: x2 :: lt, _ => exact ⟨_, _, _, _, rfl⟩
  have g0 : ((x0 :: x1 :: x2 :: lt).map V.int)[0]? = some (.int x0) := rfl
  have g1 : ((x0 :: x1 :: x2 :: lt).map V.int)[1]? = some (.int x1) := rfl
  have g2 : ((x0 :: x1 :: x2 :: lt).map V.int)[2]? = some (.int x2) := rfl
  refine ⟨_, rfl, a, _, _, _, rfl, rfl, SqL.of ha, atI_nat (j := 2) g2, _, rfl, a, _, _, _, rfl, rfl, SqL.of ha, atI_nat (j := 1) g1, _, rfl, a, _, _, _, rfl, rfl, SqL.of ha, atI_nat (j := 0) g0, sz20 (show 3 ≤ 1000000 by decide), fun p1 n1 => ?_⟩
  have e1 : Ex H (upd H p1 (.lst [.int x2, .int x1, .int x0])) := Ex.lay ex0 n1
  have h1 : upd H p1 (.lst [.int x2, .int x1, .int x0]) p1 = some (.lst ([x2, x1, x0].map V.int)) := upd_same
  generalize upd H p1 (.lst [.int x2, .int x1, .int x0]) = H1 at e1 h1
  replace ha := e1 _ _ ha
  refine ⟨_, rfl, a, _, _, _, rfl, rfl, SqL.of ha, atI_nat (j := 1) g1, _, rfl, a, _, _, _, rfl, rfl, SqL.of ha, atI_nat (j := 2) g2, _, rfl, a, _, _, _, rfl, rfl, SqL.of ha, atI_nat (j := 0) g0, sz20 (show 3 ≤ 1000000 by decide), fun p2 n2 => ?_⟩
  have e2 : Ex H1 (upd H1 p2 (.lst [.int x1, .int x2, .int x0])) := Ex.lay ex0 n2
  have h2 : upd H1 p2 (.lst [.int x1, .int x2, .int x0]) p2 = some (.lst ([x1, x2, x0].map V.int)) := upd_same
  generalize upd H1 p2 (.lst [.int x1, .int x2, .int x0]) = H2 at e2 h2
  replace ha := e2 _ _ ha
  refine ⟨_, rfl, a, _, _, _, rfl, rfl, SqL.of ha, atI_nat (j := 2) g2, _, rfl, a, _, _, _, rfl, rfl, SqL.of ha, atI_nat (j := 0) g0, _, rfl, a, _, _, _, rfl, rfl, SqL.of ha, atI_nat (j := 1) g1, sz20 (show 3 ≤ 1000000 by decide), fun p3 n3 => ?_⟩
  have e3 : Ex H2 (upd H2 p3 (.lst [.int x2, .int x0, .int x1])) := Ex.lay ex0 n3
  have h3 : upd H2 p3 (.lst [.int x2, .int x0, .int x1]) p3 = some (.lst ([x2, x0, x1].map V.int)) := upd_same
  generalize upd H2 p3 (.lst [.int x2, .int x0, .int x1]) = H3 at e3 h3
  replace ha := e3 _ _ ha
  refine ⟨sz20 (show 3 ≤ 1000000 by decide), fun p np => ?_⟩
  have e4 : Ex H3 (upd H3 p (.lst [.ref p1, .ref p2, .ref p3])) := Ex.lay ex0 np
  have h4 : upd H3 p (.lst [.ref p1, .ref p2, .ref p3]) p = some (.lst [.ref p1, .ref p2, .ref p3]) := upd_same
  generalize upd H3 p (.lst [.ref p1, .ref p2, .ref p3]) = H4 at e4 h4
  replace ha := e4 _ _ ha
  replace h3 := e4 _ _ h3
  replace h2 := e4 _ _ (e3 _ _ h2)
  replace h1 := e4 _ _ (e3 _ _ (e2 _ _ h1))
  have e04 := e1.trans (e2.trans (e3.trans e4))
  have B4 := B0.mono e04
  have P0 : Prm ⟨[x2, x1, x0], [x1, x2, x0], [x2, x0, x1]⟩ [x0, x1, x2] := ⟨(List.Perm.cons x2 (List.Perm.swap _ _ _)).trans ((List.Perm.swap _ _ _).trans (List.Perm.cons x0 (List.Perm.swap _ _ _))), (List.Perm.cons x1 (List.Perm.swap _ _ _)).trans (List.Perm.swap _ _ _), (List.Perm.swap _ _ _).trans (List.Perm.cons x0 (List.Perm.swap _ _ _))⟩
  have P1 : Prm ⟨[x2, x1, x0], [x2, x0, x1], [x1, x2, x0]⟩ [x0, x1, x2] := ⟨P0.a, P0.c, P0.b⟩
  refine ⟨_, rfl, b, z, _, 2, rfl, B4, rfl, by decide, by decide, fun r H5 hr5 e5 B5 => ?_⟩
  have eX := (ExB.of (x := b) e04).trans e5
  have hL : ∀ {y : Addr} {l : List Int}, H4 y = some (.lst (l.map V.int)) → LI H5 (.ref y) l := fun {y l} hy => LI.exB B4 e5 ⟨y, rfl, hy⟩
  have hp5 : H5 p = some (.lst [.ref p1, .ref p2, .ref p3]) := e5 _ _ (B0.nb (Evl.fresh_back (e1.trans (e2.trans e3)) np)) h4
  have ha5 : LI H5 (.ref a) (x0 :: x1 :: x2 :: lt) := hL ha
  refine ⟨rfl, _, rfl, ?_⟩
  rw [dec_int]
  cases hr1 : ((r : Int) == 1)
  · refine ifF rfl ?_
    have hR : LR H5 (.ref p) ⟨[x2, x1, x0], [x1, x2, x0], [x2, x0, x1]⟩ := ⟨p, _, _, _, rfl, hp5, hL h1, hL h2, hL h3⟩
    generalize (S3.mk [x2, x1, x0] [x1, x2, x0] [x2, x0, x1]) = R at P0 hR
    obtain ⟨_, ea, ha6⟩ := ha5
    cases ea
    refine ⟨_, rfl, _, rfl, a, _, rfl, SqL.of ha6, fun pk nk => ?_⟩
    rw [show (3 : Int) = ((3 : Nat) : Int) from rfl, cut_of]
    have e7 : Ex H5 (upd H5 pk (.lst (lt.map V.int))) := Ex.lay ex0 nk
    have g7 : upd H5 pk (.lst (lt.map V.int)) pk = some (.lst (lt.map V.int)) := upd_same
    refine ⟨pk, rfl, ⟨_, SqL.of upd_same⟩, for_list (xs := lt.map V.int) (fun i σ H' => ∃ v o3 R', σ = [some (.ref b), some (.ref a), some v, o3, none] ∧ ExB b H H' ∧ BX H' b z ∧ LR H' v R' ∧ Prm R' (x0 :: x1 :: x2 :: lt.take i) ∧ LI H' (.ref pk) lt) ⟨_, none, R, rfl, eX.trans (ExB.of e7), B5.mono e7, hR.mono e7, P0, ⟨pk, rfl, g7⟩⟩ (fun i σ H' _ h => ?_) ?_ ?_⟩
    · obtain ⟨_, _, _, _, _, _, _, _, pk', e, h⟩ := h
      cases e
      exact SqL.of h
    · rintro i x σ H8 hi ⟨v, o3, R', rfl, e8, B8, hR8, P8, hpk⟩
      obtain ⟨one, ho, rfl⟩ := map_get hi
      refine puts_seq B8 hR8 (fun k => ?_) fun v' R'' H9 hp e9 B9 hL => ⟨v', _, R'', rfl, e8.trans e9, B9, hL, ?_, hpk.exB B8 e9⟩
      · rw [(P8.get k).length_eq]
        have w : (lt.take i).length ≤ lt.length := by rw [List.length_take]; omega
        simp only [List.length_cons] at hl ⊢
        omega
      · rw [take_snoc ho]
        exact P8.grow hp
    · rintro σ H8 ⟨v, o3, R', rfl, e8, B8, hR8, P8, hpk⟩
      rw [List.length_map, List.take_length] at P8
      exact ⟨_, rfl, q _ R' _ P8 e8 B8 hR8⟩
  · refine ifT rfl ?_
    refine ⟨_, rfl, p, _, _, _, rfl, rfl, SqL.of hp5, atI_nat (j := 0) rfl, _, rfl, p, _, _, _, rfl, rfl, SqL.of hp5, atI_nat (j := 2) rfl, _, rfl, p, _, _, _, rfl, rfl, SqL.of hp5, atI_nat (j := 1) rfl, sz20 (show 3 ≤ 1000000 by decide), fun t nt => ?_⟩
    have eT : Ex H5 (upd H5 t (.lst [.ref p1, .ref p3, .ref p2])) := Ex.lay ex0 nt
    have hT : upd H5 t (.lst [.ref p1, .ref p3, .ref p2]) t = some (.lst [.ref p1, .ref p3, .ref p2]) := upd_same
    generalize upd H5 t (.lst [.ref p1, .ref p3, .ref p2]) = H6 at eT hT
    have hR : LR H6 (.ref t) ⟨[x2, x1, x0], [x2, x0, x1], [x1, x2, x0]⟩ := ⟨t, _, _, _, rfl, hT, (hL h1).mono eT, (hL h3).mono eT, (hL h2).mono eT⟩
    replace eX := eX.trans (ExB.of eT)
    replace B5 := B5.mono eT
    replace ha5 := ha5.mono eT
    generalize (S3.mk [x2, x1, x0] [x2, x0, x1] [x1, x2, x0]) = R at P1 hR
    obtain ⟨_, ea, ha6⟩ := ha5
    cases ea
    refine ⟨_, rfl, _, rfl, a, _, rfl, SqL.of ha6, fun pk nk => ?_⟩
    rw [show (3 : Int) = ((3 : Nat) : Int) from rfl, cut_of]
    have e7 : Ex H6 (upd H6 pk (.lst (lt.map V.int))) := Ex.lay ex0 nk
    have g7 : upd H6 pk (.lst (lt.map V.int)) pk = some (.lst (lt.map V.int)) := upd_same
    refine ⟨pk, rfl, ⟨_, SqL.of upd_same⟩, for_list (xs := lt.map V.int) (fun i σ H' => ∃ v o3 R', σ = [some (.ref b), some (.ref a), some v, o3, none] ∧ ExB b H H' ∧ BX H' b z ∧ LR H' v R' ∧ Prm R' (x0 :: x1 :: x2 :: lt.take i) ∧ LI H' (.ref pk) lt) ⟨_, none, R, rfl, eX.trans (ExB.of e7), B5.mono e7, hR.mono e7, P1, ⟨pk, rfl, g7⟩⟩ (fun i σ H' _ h => ?_) ?_ ?_⟩
    · obtain ⟨_, _, _, _, _, _, _, _, pk', e, h⟩ := h
      cases e
      exact SqL.of h
    · rintro i x σ H8 hi ⟨v, o3, R', rfl, e8, B8, hR8, P8, hpk⟩
      obtain ⟨one, ho, rfl⟩ := map_get hi
      refine puts_seq B8 hR8 (fun k => ?_) fun v' R'' H9 hp e9 B9 hL => ⟨v', _, R'', rfl, e8.trans e9, B9, hL, ?_, hpk.exB B8 e9⟩
      · rw [(P8.get k).length_eq]
        have w : (lt.take i).length ≤ lt.length := by rw [List.length_take]; omega
        simp only [List.length_cons] at hl ⊢
        omega
      · rw [take_snoc ho]
        exact P8.grow hp
    · rintro σ H8 ⟨v, o3, R', rfl, e8, B8, hR8, P8, hpk⟩
      rw [List.length_map, List.take_length] at P8
      exact ⟨_, rfl, q _ R' _ P8 e8 B8 hR8⟩
def S3.cat (R U : S3) : S3 := ⟨R.a ++ U.a, R.b ++ U.b, R.c ++ U.c⟩
theorem S3.cat_get (R U : S3) (k : Nat) : (S3.cat R U).get k = R.get k ++ U.get k := by
  match k with
  | 0 => rfl
  | 1 => rfl
  | k + 2 => rfl
theorem Prm.cat {R U : S3} {l m : List Int} (h : Prm R l) (g : Prm U m) : Prm (S3.cat R U) (l ++ m) := ⟨h.a.append g.a, h.b.append g.b, h.c.append g.c⟩
/-- rows = [rows[k] + made[k] for k in range(3)] -/
theorem cat_seq {H : Hp} {x0 x1 x2 x4 o6 : Option V} {v3 v5 : V} {R U : S3} {D : Ends} {nm : Str} (hR : LR H v3 R) (hU : LR H v5 U) (len : ∀ k, (R.get k).length + (U.get k).length ≤ 1000)
    (q : ∀ v' H', Ex H H' → LR H' v' (S3.cat R U) → D.nx [x0, x1, x2, some v', x4, some v5, o6] H') :
    tAsg (tLc (iRng1 (tCons (tC (V.int 3)) tNil)) (gName 6) tYes (tOp rCat (tOp (rIxL K) (tVar 3) (tVar 6)) (tOp (rIxL K) (tVar 5) (tVar 6))) (List.map (fun x => x.2) [(nm, 6)])) (gName 3) D [x0, x1, x2, some v3, x4, some v5, o6] H := by
  obtain ⟨p3, _, _, _, rfl, _⟩ := id hR
  obtain ⟨p5, _, _, _, rfl, _⟩ := id hU
  refine ⟨3, rfl, by decide, by decide, fun E nE => lcG (n := 3) walk_range (fun _ => true) (fun i y H' => ∃ c, y = .ref c ∧ H' c = some (.lst ((R.get i ++ U.get i).map V.int)) ∧ c ≠ E) (fun i y _ _ e ⟨c, h1, h2, h3⟩ => ⟨c, h1, e _ _ h2, h3⟩) (fun i y H' ys ys' hD ⟨c, h1, h2, h3⟩ => ⟨c, h1, (upd_ne h3).trans h2, h3⟩) (fun _ _ => trivial) (by decide) nE (fun i y H' H'' Pn Pf hi hy e hD hp hf => ?_) fun ys H2 e2 hE gt => ?_⟩
  · obtain ⟨rfl, rfl⟩ := hy
    have ei : ((0 : Int) + (i : Nat)) = (i : Int) := Int.zero_add _
    simp only [ei]
    obtain ⟨ys, hD⟩ := hD
    obtain ⟨xs, u, hxs, hxl, hu, c, rfl, hc⟩ := (hR.mono e).at_ (k := i) hi
    obtain ⟨xs5, u5, hxs5, hxl5, hu5, c5, rfl, hc5⟩ := (hU.mono e).at_ (k := i) hi
    refine ⟨rfl, _, rfl, _, rfl, p3, _, _, _, rfl, rfl, SqL.of hxs, atI_nat hu, _, rfl, _, rfl, p5, _, _, _, rfl, rfl, SqL.of hxs5, atI_nat hu5, c, c5, _, _, rfl, rfl, hc, hc5, ?_, fun t nt => ?_⟩
    · rw [List.length_map, List.length_map]
      exact sz20 (Nat.le_trans (len i) (by decide))
    · rw [← List.map_append]
      exact hp rfl _ _ (Ex.lay ex0 nt) ⟨t, rfl, upd_same, (ne_new hD nt).symm⟩
  · obtain ⟨hl, hg⟩ := got_all gt
    obtain ⟨y0, y1, y2, rfl⟩ := three_of (hl.trans (by rfl))
    have h3 : ∀ i y, [y0, y1, y2][i]? = some y → LI H2 y (R.get i ++ U.get i) := fun i y hi => by
      obtain ⟨c, h1, h2, _⟩ := hg i y hi
      exact ⟨c, h1, h2⟩
    exact q _ H2 e2 ⟨E, y0, y1, y2, rfl, hE, h3 0 _ rfl, h3 1 _ rfl, h3 2 _ rfl⟩
def sp_law_blocks (K : PySem.W.Frag) : Sp := fun vs H Q E => ∃ b z v l, vs = [.ref b, v] ∧ BX H b z ∧ LI H v l ∧ l.length ≤ 900 ∧ ∀ v' R H', Prm R l → ExB b H H' → BX H' b z → LR H' v' R → Q v' H'
theorem ok_law_blocks (T : Wd P K mg) : Fn P w K mg base 4 "_law_blocks" (sp_law_blocks K) := by
  have F_law_order := ok_law_order (P := P) (w := w) (base := base) T
  have F_law_ring := ok_law_ring (P := P) (w := w) (base := base) T
  have F_law_take := ok_law_take (P := P) (w := w) (base := base) T
  refine Fn.of T.g_law_blocks T.f_law_blocks c_law_blocks (fun _ _ _ _ _ _ us hl => match us, hl with | [_, _], _ => rfl) (fun vs H Q E h => ?_) fun cdv A outer s H vs Q E hr h => ?_
  · obtain ⟨_, _, _, _, rfl, _⟩ := h
    rfl
  have nd := c_law_blocks.nd
  obtain ⟨b, z, _, l, rfl, B0, ⟨a, rfl, ha⟩, hl, q⟩ := h
  refine ⟨_, pss_cons (ps_set (i := 2) nd rfl (by first | exact .inl rfl | exact .inr rfl) (pf F_law_take hr (by decide) (pa_cons (pv 0) (pa_cons (pe_op op_add (pe_callB (lenK (K := K)) rfl T.z_len (by decide +kernel) (pa_cons (pv 1) pa_nil)) (pe_int)) pa_nil)))) (pss_cons (ps_if (PW.pt (pw_and (pt_cmpR op_eq (pf F_law_take hr (by decide) (pa_cons (pv 0) (pa_cons (pe_int) pa_nil))) (pe_int) (nomark _)) (pw_and1 (pt_cmpR op_gt (pe_callB (lenK (K := K)) rfl T.z_len (by decide +kernel) (pa_cons (pv 1) pa_nil)) (pe_int) (nomark _))))) (pss_one (ps_set (i := 2) nd rfl (by first | exact .inl rfl | exact .inr rfl) (pe_int))) (pss_nil)) (pss_cons (ps_set (i := 3) nd rfl (by first | exact .inl rfl | exact .inr rfl) (pe_lst (pa_cons (pe_lst (pa_nil)) (pa_cons (pe_lst (pa_nil)) (pa_cons (pe_lst (pa_nil)) pa_nil))))) (pss_cons (ps_for PassesOwn.never rfl (piLK (K := K) (pe_lst (pa_cons (pe_slice (slLK (K := K)) (pv 1) (po_none) (po_some (pv 2))) (pa_cons (pe_slice (slLK (K := K)) (pv 1) (po_some (pv 2)) (po_none)) pa_nil)))) (pg_name (i := 4) nd rfl (by first | exact .inl rfl | exact .inr rfl)) (pss_cons (ps_if (pt_cmpR op_gt (pe_callB (lenK (K := K)) rfl T.z_len (by decide +kernel) (pa_cons (pv 4) pa_nil)) (pe_int) (nomark _)) (pss_one (ps_set (i := 5) nd rfl (by first | exact .inl rfl | exact .inr rfl) (pf F_law_ring hr (by decide) (pa_cons (pv 0) (pa_cons (pv 4) pa_nil))))) (pss_one (ps_set (i := 5) nd rfl (by first | exact .inl rfl | exact .inr rfl) (pe_lst (pa_cons (pv 4) (pa_cons (pf F_law_order hr (by decide) (pa_cons (pv 0) (pa_cons (pv 4) pa_nil))) (pa_cons (pf F_law_order hr (by decide) (pa_cons (pv 0) (pa_cons (pv 4) pa_nil))) pa_nil))))))) (pss_one (ps_set (i := 3) nd rfl (by first | exact .inl rfl | exact .inr rfl) (pe_lc (own := [("_law_k", 6)]) rfl nd (pi_range1 rfl T.z_range (pa_cons (pe_int) pa_nil)) (blkOk_by (N := n_law_blocks) (sc := defScope s_law_blocks) (by decide +kernel)) (fun _ _ _ _ _ => pg_name (i := 6) nd rfl (by first | exact .inl rfl | exact .inr rfl)) (fun _ _ _ _ _ => pts_nil) (fun _ _ _ _ _ => pe_op op_cat (pe_ix (ixLK (K := K)) (pv 3) (pv 6) (fun _ _ => rfl)) (pe_ix (ixLK (K := K)) (pv 5) (pv 6) (fun _ _ => rfl)))))))) (pss_one (ps_ret (pv 3)))))), ?_⟩
  refine ⟨_, rfl, _, rfl, a, _, rfl, .inl (SqL.of ha), _, _, rfl, rfl, b, z, _, l.length + 1, rfl, B0, by rw [List.length_map]; rfl, by omega, by omega, fun r H1 hr1 e1 B1 => ?_⟩
  refine ⟨_, rfl, b, z, _, 2, rfl, B1, rfl, by decide, by decide, fun r2 H2 hr2 e2 B2 => ?_⟩
  have e02 := e1.trans e2
  obtain ⟨_, ea, ha2⟩ := LI.exB (l := l) B0 e02 ⟨a, rfl, ha⟩
  cases ea
  refine ⟨rfl, _, rfl, ?_⟩
  rw [dec_int]
  have fin : ∀ c : Nat, tSeq (tAsg (tLst (tCons (tLst tNil) (tCons (tLst tNil) (tCons (tLst tNil) tNil)))) (gName 3)) (tSeq (tFor (iList K (tLst (tCons (tSl (rSlL K) (tVar 1) tNoPart (tPart (tVar 2))) (tCons (tSl (rSlL K) (tVar 1) (tPart (tVar 2)) tNoPart) tNil)))) (gName 4) (tSeq (tIfS (tTest (tOp (rI0 fun i j => V.bl (decide (j < i))) (tCB (rLenK K) (tCons (tVar 4) tNil)) (tC (V.int 2)))) (tAsg (tCall (sp_law_ring K) [] E0 (tCons (tVar 0) (tCons (tVar 4) tNil))) (gName 5)) (tAsg (tLst (tCons (tVar 4) (tCons (tCall (sp_law_order K) [] E0 (tCons (tVar 0) (tCons (tVar 4) tNil))) (tCons (tCall (sp_law_order K) [] E0 (tCons (tVar 0) (tCons (tVar 4) tNil))) tNil)))) (gName 5))) (tAsg (tLc (iRng1 (tCons (tC (V.int 3)) tNil)) (gName 6) tYes (tOp rCat (tOp (rIxL K) (tVar 3) (tVar 6)) (tOp (rIxL K) (tVar 5) (tVar 6))) (List.map (fun x => x.2) [(Str.ofString "_law_k", 6)])) (gName 3)))) (tRet (tVar 3))) { nx := fun x H' => Q V.non H', rt := Q } [some (.ref b), some (.ref a), some (.int (c : Int)), none, none, none, none] H2 := by
    intro c
    refine ⟨sz20 (show 0 ≤ 1000000 by decide), fun p1 n1 => ?_⟩
    have e3 : Ex H2 (upd H2 p1 (.lst [])) := Ex.lay ex0 n1
    have g1 : upd H2 p1 (.lst []) p1 = some (.lst (([] : List Int).map V.int)) := upd_same
    generalize upd H2 p1 (.lst []) = H3 at e3 g1
    refine ⟨sz20 (show 0 ≤ 1000000 by decide), fun p2 n2 => ?_⟩
    have e4 : Ex H3 (upd H3 p2 (.lst [])) := Ex.lay ex0 n2
    have g2 : upd H3 p2 (.lst []) p2 = some (.lst (([] : List Int).map V.int)) := upd_same
    generalize upd H3 p2 (.lst []) = H4 at e4 g2
    refine ⟨sz20 (show 0 ≤ 1000000 by decide), fun p3 n3 => ?_⟩
    have e5 : Ex H4 (upd H4 p3 (.lst [])) := Ex.lay ex0 n3
    have g3 : upd H4 p3 (.lst []) p3 = some (.lst (([] : List Int).map V.int)) := upd_same
    generalize upd H4 p3 (.lst []) = H5 at e5 g3
    refine ⟨sz20 (show 3 ≤ 1000000 by decide), fun p np => ?_⟩
    have e6 : Ex H5 (upd H5 p (.lst [.ref p1, .ref p2, .ref p3])) := Ex.lay ex0 np
    have hR : LR (upd H5 p (.lst [.ref p1, .ref p2, .ref p3])) (.ref p) ⟨[], [], []⟩ := ⟨p, _, _, _, rfl, upd_same, ⟨p1, rfl, e6 _ _ (e5 _ _ (e4 _ _ g1))⟩, ⟨p2, rfl, e6 _ _ (e5 _ _ g2)⟩, ⟨p3, rfl, e6 _ _ g3⟩⟩
    generalize upd H5 p (.lst [.ref p1, .ref p2, .ref p3]) = H6 at e6 hR
    have e26 := e3.trans (e4.trans (e5.trans e6))
    have ha6 := e26 _ _ ha2
    refine ⟨_, rfl, _, rfl, _, rfl, a, _, rfl, SqL.of ha6, fun q1 nq1 => ?_⟩
    rw [cut_to]
    have e7 : Ex H6 (upd H6 q1 (.lst ((l.take c).map V.int))) := Ex.lay ex0 nq1
    have k1 : upd H6 q1 (.lst ((l.take c).map V.int)) q1 = some (.lst ((l.take c).map V.int)) := upd_same
    generalize upd H6 q1 (.lst ((l.take c).map V.int)) = H7 at e7 k1
    refine ⟨_, rfl, _, rfl, _, rfl, a, _, rfl, SqL.of (e7 _ _ ha6), fun q2 nq2 => ?_⟩
    rw [cut_of]
    have e8 : Ex H7 (upd H7 q2 (.lst ((l.drop c).map V.int))) := Ex.lay ex0 nq2
    have k2 : upd H7 q2 (.lst ((l.drop c).map V.int)) q2 = some (.lst ((l.drop c).map V.int)) := upd_same
    generalize upd H7 q2 (.lst ((l.drop c).map V.int)) = H8 at e8 k2
    refine ⟨sz20 (show 2 ≤ 1000000 by decide), fun qq nqq => ?_⟩
    have e9 : Ex H8 (upd H8 qq (.lst [.ref q1, .ref q2])) := Ex.lay ex0 nqq
    have k3 : upd H8 qq (.lst [.ref q1, .ref q2]) qq = some (.lst [.ref q1, .ref q2]) := upd_same
    generalize upd H8 qq (.lst [.ref q1, .ref q2]) = H9 at e9 k3
    have e69 := e7.trans (e8.trans e9)
    have e29 := e26.trans e69
    have B9 : BX H9 b z := B2.mono e29
    have nqb : qq ≠ b := B9.ne k3 fun c r t y => by cases y
    obtain ⟨pre, hp0, hp1, hp2⟩ : ∃ pre : Nat → List Int, pre 0 = [] ∧ pre 1 = l.take c ∧ pre 2 = l.take c ++ l.drop c := ⟨fun i => match i with
      | 0 => []
      | 1 => l.take c
      | _ => l.take c ++ l.drop c, rfl, rfl, rfl⟩
    refine ⟨qq, rfl, ⟨_, SqL.of k3⟩, for_list (xs := [.ref q1, .ref q2]) (fun i σ H' => ∃ v o4 o5 R', σ = [some (.ref b), some (.ref a), some (.int (c : Int)), some v, o4, o5, none] ∧ ExB b H H' ∧ BX H' b z ∧ LR H' v R' ∧ Prm R' (pre i) ∧ LI H' (.ref q1) (l.take c) ∧ LI H' (.ref q2) (l.drop c) ∧ H' qq = some (.lst [.ref q1, .ref q2])) ⟨_, none, none, _, rfl, e02.trans (ExB.of e29), B9, hR.mono e69, by rw [hp0]; exact ⟨List.Perm.refl _, List.Perm.refl _, List.Perm.refl _⟩, ⟨q1, rfl, e9 _ _ (e8 _ _ k1)⟩, ⟨q2, rfl, e9 _ _ k2⟩, k3⟩ (fun i σ H' _ h => ?_) ?_ ?_⟩
    · obtain ⟨_, _, _, _, _, _, _, _, _, _, _, h⟩ := h
      exact SqL.of h
    · rintro i x σ HA hi ⟨v, o4, o5, R', rfl, eA, BA, hRA, PA, hq1, hq2, hqq⟩
      obtain ⟨m, hm, hmp, hml⟩ : ∃ m : List Int, LI HA x m ∧ pre (i + 1) = pre i ++ m ∧ m.length + (pre i).length ≤ 900 := by
        match i, hi with
        | 0, hi => exact ⟨_, by cases hi; exact hq1, by rw [hp1, hp0]; rfl, by rw [hp0, List.length_take, List.length_nil]; omega⟩
        | 1, hi => exact ⟨_, by cases hi; exact hq2, by rw [hp2, hp1], by rw [hp1, List.length_take, List.length_drop]; omega⟩
      obtain ⟨xa, rfl, hxa⟩ := id hm
      refine ⟨_, rfl, xa, _, rfl, .inl (SqL.of hxa), _, _, rfl, rfl, _, rfl, ?_⟩
      have len5 : ∀ U : S3, Prm U m → ∀ k, (R'.get k).length + (U.get k).length ≤ 1000 := fun U hU k => by rw [(PA.get k).length_eq, (hU.get k).length_eq]; omega
      have step : ∀ v5 U HB, Prm U m → ExB b HA HB → BX HB b z → ∀ v' HC, Ex HB HC → LR HC v' (S3.cat R' U) → ∃ v o4 o5 R', [some (.ref b), some (.ref a), some (.int (c : Int)), some v', some (.ref xa), some v5, none] = [some (.ref b), some (.ref a), some (.int (c : Int)), some v, o4, o5, none] ∧ ExB b H HC ∧ BX HC b z ∧ LR HC v R' ∧ Prm R' (pre (i + 1)) ∧ LI HC (.ref q1) (l.take c) ∧ LI HC (.ref q2) (l.drop c) ∧ HC qq = some (.lst [.ref q1, .ref q2]) := fun v5 U HB hU eB BB v' HC eC hC => ⟨v', _, _, _, rfl, eA.trans (eB.trans (ExB.of eC)), BB.mono eC, hC, by rw [hmp]; exact PA.cat hU, (hq1.exB BA eB).mono eC, (hq2.exB BA eB).mono eC, eC _ _ (eB _ _ nqb hqq)⟩
      by_cases h2 : (2 : Int) < (((m.map V.int).length : Nat) : Int)
      · refine ifT (decide_eq_true h2) ?_
        rw [List.length_map] at h2
        refine ⟨_, rfl, _, rfl, b, z, _, m, rfl, BA, hm, by omega, by omega, fun v5 U HB hU eB BB hL => ?_⟩
        exact cat_seq (hRA.exB BA eB) hL (len5 U hU) (step v5 U HB hU eB BB)
      · refine ifF (decide_eq_false h2) ?_
        refine ⟨_, rfl, _, rfl, _, rfl, b, z, _, m, rfl, BA, hm, by omega, fun v1 m1 HB hm1 eB BB hL1 => ?_⟩
        refine ⟨_, rfl, _, rfl, b, z, _, m, rfl, BB, hm.exB BA eB, by omega, fun v2 m2 HC hm2 eC BC hL2 => ?_⟩
        refine ⟨sz20 (show 3 ≤ 1000000 by decide), fun t nt => ?_⟩
        have eD : Ex HC (upd HC t (.lst [.ref xa, v1, v2])) := Ex.lay ex0 nt
        have hU : Prm ⟨m, m1, m2⟩ m := ⟨List.Perm.refl _, hm1, hm2⟩
        have hLU : LR (upd HC t (.lst [.ref xa, v1, v2])) (.ref t) ⟨m, m1, m2⟩ := ⟨t, _, _, _, rfl, upd_same, ((hm.exB BA eB).exB BB eC).mono eD, (hL1.exB BB eC).mono eD, hL2.mono eD⟩
        have eBD := eB.trans (eC.trans (ExB.of eD))
        exact cat_seq (hRA.exB BA eBD) hLU (len5 _ hU) (step (.ref t) ⟨m, m1, m2⟩ _ hU eBD (BC.mono eD))
    · rintro σ HA ⟨v, o4, o5, R', rfl, eA, BA, hRA, PA, hq1, hq2, hqq⟩
      have hpl : Prm R' l := by
        have w : Prm R' (pre 2) := PA
        rw [hp2, List.take_append_drop] at w
        exact w
      exact ⟨_, rfl, q _ R' _ hpl eA BA hRA⟩
  cases hr1 : ((r2 : Int) == 1)
  · exact ifF rfl (ifF rfl (fin r))
  · refine ifT rfl ⟨_, rfl, a, _, rfl, .inl (SqL.of ha2), _, _, rfl, rfl, _, rfl, ?_⟩
    by_cases h3 : (3 : Int) < (((l.map V.int).length : Nat) : Int)
    · exact ifT (decide_eq_true h3) (fin 3)
    · exact ifF (decide_eq_false h3) (fin r)
def sp_law_three (K : PySem.W.Frag) : Sp := fun vs H Q E => ∃ b z v ws, vs = [.ref b, v] ∧ BX H b z ∧ LI H v ws ∧ 0 < ws.length ∧ ws.length ≤ 900 ∧ ∀ v' R H', Okw R → ExB b H H' → BX H' b z → LR H' v' R → Q v' H'
theorem ok_law_three (T : Wd P K mg) : Fn P w K mg base 5 "_law_three" (sp_law_three K) := by
  have F_law_blocks := ok_law_blocks (P := P) (w := w) (base := base) T
  have F_law_keys := ok_law_keys (P := P) (w := w) (base := base) T
  have F_law_order := ok_law_order (P := P) (w := w) (base := base) T
  have F_law_parties := ok_law_parties (P := P) (w := w) (base := base) T
  have F_law_ring := ok_law_ring (P := P) (w := w) (base := base) T
  have F_law_take := ok_law_take (P := P) (w := w) (base := base) T
  have F_law_walked := ok_law_walked (P := P) (w := w) (base := base) T
  refine Fn.of T.g_law_three T.f_law_three c_law_three (fun _ _ _ _ _ _ us hl => match us, hl with | [_, _], _ => rfl) (fun vs H Q E h => ?_) fun cdv A outer s H vs Q E hr h => ?_
  · obtain ⟨_, _, _, _, rfl, _⟩ := h
    rfl
  have nd := c_law_three.nd
  obtain ⟨b, z, _, ws, rfl, B0, ⟨a, rfl, ha⟩, hw0, hw, q⟩ := h
  refine ⟨_, pss_cons (ps_set (i := 2) nd rfl (by first | exact .inl rfl | exact .inr rfl) (pf F_law_take hr (by decide) (pa_cons (pv 0) (pa_cons (pe_int) pa_nil)))) (pss_cons (ps_set (i := 3) nd rfl (by first | exact .inl rfl | exact .inr rfl) (pe_op op_add (pe_int) (pe_op op_mod (pe_callTy call_int1 rfl T.z_int (by decide +kernel) (pa_cons (pv 2) pa_nil)) (pe_int)))) (pss_cons (ps_if (pt_cmpR op_eq (pv 2) (pe_int) (nomark _)) (pss_one (ps_set (i := 3) nd rfl (by first | exact .inl rfl | exact .inr rfl) (pf F_law_take hr (by decide) (pa_cons (pv 0) (pa_cons (pe_int) pa_nil))))) (pss_nil)) (pss_cons (ps_if (pt_cmpR op_eq (pv 2) (pe_int) (nomark _)) (pss_one (ps_set (i := 3) nd rfl (by first | exact .inl rfl | exact .inr rfl) (pe_op op_add (pe_int) (pf F_law_take hr (by decide) (pa_cons (pv 0) (pa_cons (pe_int) pa_nil)))))) (pss_nil)) (pss_cons (ps_set (i := 4) nd rfl (by first | exact .inl rfl | exact .inr rfl) (pf F_law_keys hr (by decide) (pa_cons (pv 0) (pa_cons (pv 3) pa_nil)))) (pss_cons (ps_set (i := 5) nd rfl (by first | exact .inl rfl | exact .inr rfl) (pe_ix (ixLK (K := K)) (pv 1) (pf F_law_take hr (by decide) (pa_cons (pv 0) (pa_cons (pe_callB (lenK (K := K)) rfl T.z_len (by decide +kernel) (pa_cons (pv 1) pa_nil)) pa_nil))) (fun _ _ => rfl))) (pss_cons (ps_if (pt_cmpR op_eq (pv 5) (pe_int) (nomark _)) (pss_one (ps_ret (pf F_law_parties hr (by decide) (pa_cons (pv 0) (pa_cons (pv 4) pa_nil))))) (pss_nil)) (pss_cons (ps_if (PW.pt (pw_or (pt_cmpR op_eq (pv 5) (pe_int) (nomark _)) (pw_or1 (PW.pt (pw_and (pt_cmpR op_eq (pv 5) (pe_int) (nomark _)) (pw_and1 (pt_cmpR op_lt (pv 3) (pe_int) (nomark _)))))))) (pss_one (ps_ret (pe_lst (pa_cons (pe_callTy (listK (K := K)) rfl T.z_list (by decide +kernel) (pa_cons (pv 4) pa_nil)) (pa_cons (pf F_law_order hr (by decide) (pa_cons (pv 0) (pa_cons (pv 4) pa_nil))) (pa_cons (pf F_law_order hr (by decide) (pa_cons (pv 0) (pa_cons (pv 4) pa_nil))) pa_nil)))))) (pss_nil)) (pss_cons (ps_if (pt_cmpR op_eq (pv 5) (pe_int) (nomark _)) (pss_one (ps_set (i := 6) nd rfl (by first | exact .inl rfl | exact .inr rfl) (pe_lst (pa_cons (pe_listRev rfl rfl T.z_list rfl T.z_reversed (pv 4)) (pa_cons (pe_callTy (listK (K := K)) rfl T.z_list (by decide +kernel) (pa_cons (pv 4) pa_nil)) (pa_cons (pe_callTy (listK (K := K)) rfl T.z_list (by decide +kernel) (pa_cons (pv 4) pa_nil)) pa_nil)))))) (pss_one (ps_if (pt_cmpR op_eq (pv 5) (pe_int) (nomark _)) (pss_one (ps_set (i := 6) nd rfl (by first | exact .inl rfl | exact .inr rfl) (pf F_law_ring hr (by decide) (pa_cons (pv 0) (pa_cons (pv 4) pa_nil))))) (pss_one (ps_set (i := 6) nd rfl (by first | exact .inl rfl | exact .inr rfl) (pf F_law_blocks hr (by decide) (pa_cons (pv 0) (pa_cons (pv 4) pa_nil)))))))) (pss_one (ps_ret (pf F_law_walked hr (by decide) (pa_cons (pv 0) (pa_cons (pv 6) (pa_cons (pf F_law_take hr (by decide) (pa_cons (pv 0) (pa_cons (pe_int) pa_nil))) pa_nil)))))))))))))), ?_⟩
  refine ⟨_, rfl, b, z, _, 16, rfl, B0, rfl, by decide, by decide, fun r H1 hr1 e1 B1 => ?_⟩
  refine ⟨_, rfl, .inl ⟨_, rfl, _, _, rfl, rfl, (show (0 : Int) < 4 by decide), _, _, rfl, rfl, ?_⟩⟩
  have fin : ∀ (n : Nat) H2, n ≤ 12 → ExB b H H2 → BX H2 b z → tSeq (tAsg (tCall (sp_law_keys K) [] E0 (tCons (tVar 0) (tCons (tVar 3) tNil))) (gName 4)) (tSeq (tAsg (tOp (rIxL K) (tVar 1) (tCall (sp_law_take K) [] E0 (tCons (tVar 0) (tCons (tCB (rLenK K) (tCons (tVar 1) tNil)) tNil)))) (gName 5))
      (tSeq (tIfS (tTest (tOp rEq (tVar 5) (tC (V.int 1)))) (tRet (tCall (sp_law_parties K) [] E0 (tCons (tVar 0) (tCons (tVar 4) tNil)))) tNext)
      (tSeq (tIfS (tOr (tTest (tOp rEq (tVar 5) (tC (V.int 0)))) (tAnd (tTest (tOp rEq (tVar 5) (tC (V.int 3)))) (tTest (tOp (rI0 fun i j => V.bl (decide (i < j))) (tVar 3) (tC (V.int 3))))))
        (tRet (tLst (tCons (tCB (rListK K) (tCons (tVar 4) tNil)) (tCons (tCall (sp_law_order K) [] E0 (tCons (tVar 0) (tCons (tVar 4) tNil))) (tCons (tCall (sp_law_order K) [] E0 (tCons (tVar 0) (tCons (tVar 4) tNil))) tNil))))) tNext)
      (tSeq (tIfS (tTest (tOp rEq (tVar 5) (tC (V.int 2)))) (tAsg (tLst (tCons (tListRev K (tVar 4)) (tCons (tCB (rListK K) (tCons (tVar 4) tNil)) (tCons (tCB (rListK K) (tCons (tVar 4) tNil)) tNil)))) (gName 6))
        (tIfS (tTest (tOp rEq (tVar 5) (tC (V.int 3)))) (tAsg (tCall (sp_law_ring K) [] E0 (tCons (tVar 0) (tCons (tVar 4) tNil))) (gName 6)) (tAsg (tCall (sp_law_blocks K) [] E0 (tCons (tVar 0) (tCons (tVar 4) tNil))) (gName 6))))
      (tRet (tCall (sp_law_walked K) [] E0 (tCons (tVar 0) (tCons (tVar 6) (tCons (tCall (sp_law_take K) [] E0 (tCons (tVar 0) (tCons (tC (V.int 25)) tNil))) tNil)))))))))
      { nx := fun x H' => Q V.non H', rt := Q } [some (.ref b), some (.ref a), some (.int (r : Int)), some (.int (n : Int)), none, none, none] H2 := by
    intro n H2 hn e2 B2
    refine ⟨_, rfl, _, rfl, b, z, _, n, rfl, B2, rfl, hn, fun v4 l H3 wf hl e3 B3 hL => ?_⟩
    have e03 := e2.trans e3
    obtain ⟨_, ea, ha3⟩ := LI.exB (l := ws) B0 e03 ⟨a, rfl, ha⟩
    cases ea
    refine ⟨_, rfl, _, rfl, _, rfl, a, _, rfl, .inl (SqL.of ha3), b, z, _, ws.length, rfl, B3, by rw [List.length_map], hw0, by omega, fun r2 H4 hr2 e4 B4 => ?_⟩
    have e04 := e03.trans e4
    obtain ⟨_, ea, ha4⟩ := LI.exB (l := ws) B0 e04 ⟨a, rfl, ha⟩
    cases ea
    refine ⟨a, _, _, _, rfl, rfl, SqL.of ha4, atI_nat (get_map (getD_at hr2)), ?_⟩
    generalize ws.getD r2 0 = way
    have hL4 := hL.exB B3 e4
    have wl := wf.len
    obtain ⟨c4, rfl, hc4⟩ := id hL4
    have walk : ∀ v R H5, Okw R → ExB b H H5 → BX H5 b z → LR H5 v R → tRet (tCall (sp_law_walked K) [] E0 (tCons (tVar 0) (tCons (tVar 6) (tCons (tCall (sp_law_take K) [] E0 (tCons (tVar 0) (tCons (tC (V.int 25)) tNil))) tNil)))) { nx := fun x H' => Q V.non H', rt := Q } [some (.ref b), some (.ref a), some (.int (r : Int)), some (.int (n : Int)), some (.ref c4), some (.int way), some v] H5 := by
      intro v R H5 ok e5 B5 hR
      refine ⟨_, rfl, _, rfl, _, rfl, b, z, _, 25, rfl, B5, rfl, by decide, by decide, fun k H6 hk e6 B6 => ?_⟩
      exact ⟨b, z, _, R, _, k, rfl, B6, hR.exB B5 e6, ok, rfl, by omega, fun v' R' H7 ok' e7 B7 hR' => q v' R' H7 ok' (e5.trans (e6.trans e7)) B7 hR'⟩
    refine ⟨_, rfl, rfl, _, rfl, ?_⟩
    rw [dec_int]
    cases w1 : (way == 1)
    case true =>
      exact ifT rfl ⟨_, rfl, _, rfl, b, z, _, l, rfl, B4, hL4, by omega, fun v' R H5 hP e5 B5 hR => q v' R H5 (hP.okw wf) (e04.trans e5) B5 hR⟩
    refine ifF rfl ?_
    have three : tRet (tLst (tCons (tCB (rListK K) (tCons (tVar 4) tNil)) (tCons (tCall (sp_law_order K) [] E0 (tCons (tVar 0) (tCons (tVar 4) tNil))) (tCons (tCall (sp_law_order K) [] E0 (tCons (tVar 0) (tCons (tVar 4) tNil))) tNil)))) { nx := fun x H' => Q V.non H', rt := Q } [some (.ref b), some (.ref a), some (.int (r : Int)), some (.int (n : Int)), some (.ref c4), some (.int way), none] H4 := by
      refine ⟨_, rfl, c4, _, rfl, .inl (SqL.of hc4), fun l1 n1 => ?_⟩
      have e5 : Ex H4 (upd H4 l1 (.lst (l.map V.int))) := Ex.lay ex0 n1
      have h1 : LI (upd H4 l1 (.lst (l.map V.int))) (.ref l1) l := ⟨l1, rfl, upd_same⟩
      have B5 := B4.mono e5
      generalize upd H4 l1 (.lst (l.map V.int)) = H5 at e5 h1 B5
      have hL5 : LI H5 (.ref c4) l := hL4.mono e5
      refine ⟨_, rfl, _, rfl, b, z, _, l, rfl, B5, hL5, by omega, fun v1 m1 H6 hm1 e6 B6 hM1 => ?_⟩
      refine ⟨_, rfl, _, rfl, b, z, _, l, rfl, B6, hL5.exB B5 e6, by omega, fun v2 m2 H7 hm2 e7 B7 hM2 => ?_⟩
      refine ⟨sz20 (show 3 ≤ 1000000 by decide), fun t nt => ?_⟩
      have e8 : Ex H7 (upd H7 t (.lst [.ref l1, v1, v2])) := Ex.lay ex0 nt
      have hP : Prm ⟨l, m1, m2⟩ l := ⟨List.Perm.refl _, hm1, hm2⟩
      exact q _ ⟨l, m1, m2⟩ _ (hP.okw wf) (e04.trans ((ExB.of e5).trans (e6.trans (e7.trans (ExB.of e8))))) (B7.mono e8) ⟨t, _, _, _, rfl, upd_same, ((h1.exB B5 e6).exB B6 e7).mono e8, (hM1.exB B6 e7).mono e8, hM2.mono e8⟩
    have rest : ((way == 3) = true → 3 ≤ n) → tSeq (tIfS (tTest (tOp rEq (tVar 5) (tC (V.int 2)))) (tAsg (tLst (tCons (tListRev K (tVar 4)) (tCons (tCB (rListK K) (tCons (tVar 4) tNil)) (tCons (tCB (rListK K) (tCons (tVar 4) tNil)) tNil)))) (gName 6))
        (tIfS (tTest (tOp rEq (tVar 5) (tC (V.int 3)))) (tAsg (tCall (sp_law_ring K) [] E0 (tCons (tVar 0) (tCons (tVar 4) tNil))) (gName 6)) (tAsg (tCall (sp_law_blocks K) [] E0 (tCons (tVar 0) (tCons (tVar 4) tNil))) (gName 6))))
      (tRet (tCall (sp_law_walked K) [] E0 (tCons (tVar 0) (tCons (tVar 6) (tCons (tCall (sp_law_take K) [] E0 (tCons (tVar 0) (tCons (tC (V.int 25)) tNil))) tNil))))) { nx := fun x H' => Q V.non H', rt := Q } [some (.ref b), some (.ref a), some (.int (r : Int)), some (.int (n : Int)), some (.ref c4), some (.int way), none] H4 := by
      intro h3n
      refine ⟨_, rfl, rfl, _, rfl, ?_⟩
      rw [dec_int]
      cases w2 : (way == 2)
      case true =>
        refine ifT rfl ⟨_, rfl, c4, _, rfl, SqL.of hc4, fun l1 n1 => ?_⟩
        rw [← List.map_reverse]
        have e5 : Ex H4 (upd H4 l1 (.lst (l.reverse.map V.int))) := Ex.lay ex0 n1
        have g1 : upd H4 l1 (.lst (l.reverse.map V.int)) l1 = some (.lst (l.reverse.map V.int)) := upd_same
        generalize upd H4 l1 (.lst (l.reverse.map V.int)) = H5 at e5 g1
        refine ⟨_, rfl, c4, _, rfl, .inl (SqL.of (e5 _ _ hc4)), fun l2 n2 => ?_⟩
        have e6 : Ex H5 (upd H5 l2 (.lst (l.map V.int))) := Ex.lay ex0 n2
        have g2 : upd H5 l2 (.lst (l.map V.int)) l2 = some (.lst (l.map V.int)) := upd_same
        generalize upd H5 l2 (.lst (l.map V.int)) = H6 at e6 g2
        refine ⟨_, rfl, c4, _, rfl, .inl (SqL.of (e6 _ _ (e5 _ _ hc4))), fun l3 n3 => ?_⟩
        have e7 : Ex H6 (upd H6 l3 (.lst (l.map V.int))) := Ex.lay ex0 n3
        have g3 : upd H6 l3 (.lst (l.map V.int)) l3 = some (.lst (l.map V.int)) := upd_same
        generalize upd H6 l3 (.lst (l.map V.int)) = H7 at e7 g3
        refine ⟨sz20 (show 3 ≤ 1000000 by decide), fun t nt => ?_⟩
        have e8 : Ex H7 (upd H7 t (.lst [.ref l1, .ref l2, .ref l3])) := Ex.lay ex0 nt
        have e48 := e5.trans (e6.trans (e7.trans e8))
        have hP : Prm ⟨l.reverse, l, l⟩ l := ⟨List.reverse_perm l, List.Perm.refl _, List.Perm.refl _⟩
        exact walk _ ⟨l.reverse, l, l⟩ _ (hP.okw wf) (e04.trans (ExB.of e48)) (B4.mono e48) ⟨t, _, _, _, rfl, upd_same, ⟨l1, rfl, e8 _ _ (e7 _ _ (e6 _ _ g1))⟩, ⟨l2, rfl, e8 _ _ (e7 _ _ g2)⟩, ⟨l3, rfl, e8 _ _ g3⟩⟩
      refine ifF rfl ⟨_, rfl, rfl, _, rfl, ?_⟩
      rw [dec_int]
      cases w3 : (way == 3)
      case true =>
        have hn3 := h3n w3
        exact ifT rfl ⟨_, rfl, _, rfl, b, z, _, l, rfl, B4, hL4, by omega, by omega, fun v R H5 hP e5 B5 hR => walk v R H5 (hP.okw wf) (e04.trans e5) B5 hR⟩
      exact ifF rfl ⟨_, rfl, _, rfl, b, z, _, l, rfl, B4, hL4, by omega, fun v R H5 hP e5 B5 hR => walk v R H5 (hP.okw wf) (e04.trans e5) B5 hR⟩
    refine ⟨_, rfl, rfl, _, rfl, ?_⟩
    rw [dec_int]
    cases w0 : (way == 0)
    case true => exact ifT rfl (ifT rfl three)
    refine ifF rfl ⟨_, rfl, rfl, _, rfl, ?_⟩
    rw [dec_int]
    cases w3 : (way == 3)
    case false => exact ifF rfl (ifF rfl (rest fun y => by rw [w3] at y; cases y))
    refine ifT rfl ⟨_, rfl, _, _, rfl, rfl, _, rfl, ?_⟩
    by_cases h3 : ((n : Nat) : Int) < 3
    · exact ifT (decide_eq_true h3) three
    · exact ifF (decide_eq_false h3) (rest fun _ => by omega)
  show gName 3 (.int ((3 + r % 4 : Nat) : Int)) _ _ _
  have hr4 : 3 + r % 4 ≤ 12 := by omega
  generalize 3 + r % 4 = n0 at hr4
  refine ⟨_, rfl, rfl, _, rfl, ?_⟩
  rw [dec_int]
  cases r14 : ((r : Int) == 14)
  case true =>
    refine ifT rfl ⟨_, rfl, b, z, _, 3, rfl, B1, rfl, by decide, by decide, fun n H2 hn e2 B2 => ⟨_, rfl, rfl, _, rfl, ?_⟩⟩
    rw [dec_int]
    refine ifF (beq_eq_false_iff_ne.mpr fun y => ?_) (fin n H2 (by omega) (e1.trans e2) B2)
    have := beq_iff_eq.mp r14
    omega
  refine ifF rfl ⟨_, rfl, rfl, _, rfl, ?_⟩
  rw [dec_int]
  cases r15 : ((r : Int) == 15)
  case true => exact ifT rfl ⟨_, rfl, b, z, _, 6, rfl, B1, rfl, by decide, by decide, fun n H2 hn e2 B2 => ⟨_, _, rfl, rfl, fin (7 + n) H2 (by omega) (e1.trans e2) B2⟩⟩
  exact ifF rfl (fin n0 H1 hr4 e1 B1)
end
end K38
end
section
set_option Elab.async false
set_option linter.all false
set_option maxRecDepth 100000
set_option maxHeartbeats 4000000
/-! The walk, sixth part: the law's checks. -/
namespace K38
open PySem PySem.Spec PyProof.Rows L2
section
variable {P : Program} {w : World} {K : PySem.W.Frag} {mg : Str → Option Value} {base : Heap}
theorem takes_no {X : Cx} : Takes X (fun _ _ _ _ => False) := fun u s' h => by
  obtain ⟨a, B, sIn, pnt, τc, Gc, cls, d, rfl, Jt, nbx, upc, skc, nax, os, agx, w⟩ := h
  exact w.elim
theorem xfK {K : PySem.W.Frag} {C : Addr} (h : XfC K C) : XfC K C := h
def rXC (K : PySem.W.Frag) (D a : Addr) (cls : Value) (d : Option Addr) : List V → Hp → VK → Prop := fun xs H Q => cls = .ref D ∧ ∃ dd, d = some dd ∧ rIsX K D a dd xs H Q
def rXT (K : PySem.W.Frag) (D a : Addr) (cls : Value) (d : Option Addr) : List V → Hp → VK → Prop := fun xs H Q => cls = .ref D ∧ ∃ dd, d = some dd ∧ rIsXT K D a dd xs H Q
section
variable {X : Cx} {a D : Addr} {oe : Obj} {pn : List (Addr × Obj)} {cls : Value} {d : Option Addr} {K : PySem.W.Frag}
theorem isxC (C : ExcC K D) (hz : Zc cls d oe) (hf : ∃ vs, oe.data = .fields vs) (hK : X.K = K := by rfl) : CallR (X.suite a ((a, oe) :: pn)) (.builtin "isinstance") (rXC K D a cls d) := by
  intro pins s σ H xs us Q I r h
  obtain ⟨rfl, dd, rfl, h⟩ := h
  subst hK
  exact call_isX C hz hf pins s σ H xs us Q I r h
theorem isxT (C : ExcC K D) (hz : Zc cls d oe) (hf : ∃ vs, oe.data = .fields vs) (hK : X.K = K := by rfl) : CallR (X.suite a ((a, oe) :: pn)) (.builtin "isinstance") (rXT K D a cls d) := by
  intro pins s σ H xs us Q I r h
  obtain ⟨rfl, dd, rfl, h⟩ := h
  subst hK
  exact call_isXT C hz hf pins s σ H xs us Q I r h
end
/-- a new tuple of the error's answer -/
abbrev tAns (n : Int) (x : V) : HO := .tup [.int n, x, .bl true, .bl false]
def sp_law_edited (K : PySem.W.Frag) : Sp := fun vs H Q E => ∃ v R x i, vs = [v, .str x, .int i] ∧ TW K H v R ∧ Okw R ∧ (x ∉ sides → okN x ∧ ∀ t H', Ex H H' → H' t = some (tAns 1 (.str x)) → Q (.ref t) H') ∧ ∀ k, k < 3 → x = sideN k → (¬ (0 ≤ i ∧ i + 2 ≤ (R.a.length : Nat)) → ∀ t H', Ex H H' → H' t = some (tAns 2 (.int 0)) → Q (.ref t) H') ∧ ∀ n : Nat, i = n → n + 1 < R.a.length → (R.silR k n = false → ∀ t H', Ex H H' → H' t = some (tAns 3 (.int 0)) → Q (.ref t) H') ∧ (R.silR k n = true → ∀ v' H', Ex H H' → LR H' v' (R.aft k n) → Q v' H')
theorem ok_law_edited (T : Wd P K mg) : Fn P w K mg base 9 "_law_edited" (sp_law_edited K) := by
  have F_ThreeWay_edit := ok_ThreeWay_edit (P := P) (w := w) (base := base) T
  have F_law_shown := ok_law_shown (P := P) (w := w) (base := base) T
  refine Fn.of T.g_law_edited T.f_law_edited c_law_edited (fun _ _ _ _ _ _ us hl => match us, hl with | [_, _, _], _ => rfl) (fun vs H Q E h => ?_) fun cdv A outer s H vs Q E hr h => ?_
  · obtain ⟨_, _, _, _, rfl, _⟩ := h
    rfl
  have nd := c_law_edited.nd
  obtain ⟨_, R, x, i, rfl, hT, ok, qx, q⟩ := h
  refine ⟨_, pss_cons (ps_try_asm rfl rfl nd takes_no (fun W pn xe tk pw => pss_one (ps_set (i := 3) nd rfl (by first | exact .inl rfl | exact .inr rfl) (pmW F_ThreeWay_edit hr (by decide) tk (pv 0) (pa_cons (pv 1) (pa_cons (pv 2) pa_nil))))) (HdsA.named (i := 4) rfl rfl ⟨rfl, by decide, .inl T.g_InvalidSide⟩ (fun a oe cls d pn hz hf => pss_cons (ps_set (i := 5) nd rfl (by first | exact .inl rfl | exact .inr rfl) (pe_and (pe_callB (isxC ((errF_of (T.exAll 8 rfl)).exC T.toTop) hz hf) rfl T.z_isinstance (by decide +kernel) (pa_cons (pv 4) (pa_cons (pe_glob (v := .ref (He.ga K "DriftError")) rfl T.g_DriftError rfl) pa_nil))) (pe_one (pe_callB (isxC ((errF_of (T.exAll 8 rfl)).exC T.toTop) hz hf) rfl T.z_isinstance (by decide +kernel) (pa_cons (pv 4) (pa_cons (pe_bltn (v := .ty "ValueError") rfl T.z_ValueError (by decide +kernel) rfl) pa_nil)))))) (pss_one (ps_ret (pe_tup (pa_cons (pe_int) (pa_cons (pe_xf (K38.xfK (xfB_ok (errF_of (T.exAll 8 rfl)).xf)) (errF_of (T.exAll 8 rfl)).noN hz hf (pv 4)) (pa_cons (pv 5) (pa_cons (pe_callB (isxT ((errF_of (T.exAll 8 rfl)).exC T.toTop) hz hf) rfl T.z_isinstance (by decide +kernel) (pa_cons (pv 4) (pa_cons (pe_tup (pa_cons (pe_glob (v := .ref (He.ga K "InvalidSwap")) rfl T.g_InvalidSwap rfl) (pa_cons (pe_glob (v := .ref (He.ga K "AudibleSwap")) rfl T.g_AudibleSwap rfl) pa_nil))) pa_nil))) pa_nil)))))))) (HdsA.named (i := 4) rfl rfl ⟨rfl, by decide, .inl T.g_InvalidSwap⟩ (fun a oe cls d pn hz hf => pss_cons (ps_set (i := 5) nd rfl (by first | exact .inl rfl | exact .inr rfl) (pe_and (pe_callB (isxC ((errF_of (T.exAll 9 rfl)).exC T.toTop) hz hf) rfl T.z_isinstance (by decide +kernel) (pa_cons (pv 4) (pa_cons (pe_glob (v := .ref (He.ga K "DriftError")) rfl T.g_DriftError rfl) pa_nil))) (pe_one (pe_callB (isxC ((errF_of (T.exAll 9 rfl)).exC T.toTop) hz hf) rfl T.z_isinstance (by decide +kernel) (pa_cons (pv 4) (pa_cons (pe_bltn (v := .ty "ValueError") rfl T.z_ValueError (by decide +kernel) rfl) pa_nil)))))) (pss_one (ps_ret (pe_tup (pa_cons (pe_int) (pa_cons (pe_xf (K38.xfK (xfB_ok (errF_of (T.exAll 9 rfl)).xf)) (errF_of (T.exAll 9 rfl)).noN hz hf (pv 4)) (pa_cons (pv 5) (pa_cons (pe_callB (isxC ((errF_of (T.exAll 9 rfl)).exC T.toTop) hz hf) rfl T.z_isinstance (by decide +kernel) (pa_cons (pv 4) (pa_cons (pe_glob (v := .ref (He.ga K "AudibleSwap")) rfl T.g_AudibleSwap rfl) pa_nil))) pa_nil)))))))) (HdsA.named (i := 4) rfl rfl ⟨rfl, by decide, .inl T.g_AudibleSwap⟩ (fun a oe cls d pn hz hf => pss_cons (ps_set (i := 5) nd rfl (by first | exact .inl rfl | exact .inr rfl) (pe_and (pe_callB (isxC ((errF_of (T.exAll 10 rfl)).exC T.toTop) hz hf) rfl T.z_isinstance (by decide +kernel) (pa_cons (pv 4) (pa_cons (pe_glob (v := .ref (He.ga K "DriftError")) rfl T.g_DriftError rfl) pa_nil))) (pe_one (pe_callB (isxC ((errF_of (T.exAll 10 rfl)).exC T.toTop) hz hf) rfl T.z_isinstance (by decide +kernel) (pa_cons (pv 4) (pa_cons (pe_bltn (v := .ty "ValueError") rfl T.z_ValueError (by decide +kernel) rfl) pa_nil)))))) (pss_one (ps_ret (pe_tup (pa_cons (pe_int) (pa_cons (pe_xf (K38.xfK (xfB_ok (errF_of (T.exAll 10 rfl)).xf)) (errF_of (T.exAll 10 rfl)).noN hz hf (pv 4)) (pa_cons (pv 5) (pa_cons (pe_bl) pa_nil)))))))) (HdsA.plain ⟨rfl, by decide, .inl T.g_DriftError⟩ (fun a oe cls d pn hz hf => pss_one (ps_ret (pe_tup pa_nil))) (HdsA.nil)))))) (pss_one (ps_ret (pf F_law_shown hr (by decide) (pa_cons (pv 3) pa_nil)))), ?_⟩
  obtain ⟨a, dx, sv, rfl, ha, hs⟩ := id hT
  refine ⟨_, rfl, a, dx, _, rfl, ha, rfl, _, rfl, _, rfl, _, R, x, i, rfl, hT, ok, fun hx => ⟨(qx hx).1, ?_⟩, fun k hk ek => ⟨fun hv => ?_, fun n en hn => ⟨fun hs => ?_, fun hs v' H' e' hT' => ?_⟩⟩⟩
  · intro d H' e nd hd
    refine ⟨true, T.tst.x_InvalidSide_InvalidSide, fun _ ea na => ?_, fun z => by cases z⟩
    refine ⟨_, rfl, rfl, d, rfl, _, _, _, _, rfl, hd, fun _ r => r, T.tst.k_InvalidSide_DriftError, _, rfl, ifT rfl ⟨_, rfl, rfl, d, rfl, _, _, _, _, rfl, hd, fun _ r => r, T.tst.k_InvalidSide_ValueError, ?_⟩⟩
    refine ⟨_, rfl, rfl, rfl, d, _, _, rfl, hd, rfl, _, rfl, _, rfl, sz20 (show 2 ≤ 1000000 by decide), fun t nt => ⟨rfl, d, rfl, t, [He.ga K "InvalidSwap", He.ga K "AudibleSwap"], false, _, rfl, (upd_ne (ne_new hd nt)).trans hd, upd_same, ?_, sz20 (show 4 ≤ 1000000 by decide), fun t2 nt2 => (qx hx).2 t2 _ (Ex.lay (Ex.lay e nt) nt2) upd_same⟩⟩
    show (match PySem.W.kitOne K _ _ with | some true => some true | some false => PySem.W.kitAny K _ _ | none => none) = _
    rw [T.tst.k_InvalidSide_InvalidSwap]
    show (match PySem.W.kitOne K _ _ with | some true => some true | some false => PySem.W.kitAny K _ _ | none => none) = _
    rw [T.tst.k_InvalidSide_AudibleSwap]
    rfl
  · intro d H' e nd hd
    refine ⟨false, T.tst.x_InvalidSwap_InvalidSide, (fun z => by cases z), fun _ => ⟨true, T.tst.x_InvalidSwap_InvalidSwap, fun _ ea na => ?_, fun z => by cases z⟩⟩
    refine ⟨_, rfl, rfl, d, rfl, _, _, _, _, rfl, hd, fun _ r => r, T.tst.k_InvalidSwap_DriftError, _, rfl, ifT rfl ⟨_, rfl, rfl, d, rfl, _, _, _, _, rfl, hd, fun _ r => r, T.tst.k_InvalidSwap_ValueError, ?_⟩⟩
    exact ⟨_, rfl, rfl, rfl, d, _, _, rfl, hd, rfl, _, rfl, _, rfl, rfl, d, rfl, _, _, _, _, rfl, hd, fun _ r => r, T.tst.k_InvalidSwap_AudibleSwap, sz20 (show 4 ≤ 1000000 by decide), fun t2 nt2 => (q k hk ek).1 hv t2 _ (Ex.lay e nt2) upd_same⟩
  · intro d H' e nd hd
    refine ⟨false, T.tst.x_AudibleSwap_InvalidSide, (fun z => by cases z), fun _ => ⟨false, T.tst.x_AudibleSwap_InvalidSwap, (fun z => by cases z), fun _ => ⟨true, T.tst.x_AudibleSwap_AudibleSwap, fun _ ea na => ?_, fun z => by cases z⟩⟩⟩
    refine ⟨_, rfl, rfl, d, rfl, _, _, _, _, rfl, hd, fun _ r => r, T.tst.k_AudibleSwap_DriftError, _, rfl, ifT rfl ⟨_, rfl, rfl, d, rfl, _, _, _, _, rfl, hd, fun _ r => r, T.tst.k_AudibleSwap_ValueError, ?_⟩⟩
    exact ⟨_, rfl, rfl, rfl, d, _, _, rfl, hd, rfl, _, rfl, sz20 (show 4 ≤ 1000000 by decide), fun t2 nt2 => ((q k hk ek).2 n en hn).1 hs t2 _ (Ex.lay e nt2) upd_same⟩
  · exact ⟨_, rfl, _, _, rfl, hT', fun p H2 np e2 h2 => ((q k hk ek).2 n en hn).2 hs _ _ (e'.trans e2) h2⟩
abbrev dE (es : List (Nat × Nat)) : PyData := .list (es.map fun e => .tuple [.str (sideN e.1), .int (e.2 : Nat)])
abbrev dA (n : Int) (x : PyData) : PyData := .tuple [.int n, x, .bool true, .bool false]
theorem dp_LE {H : Hp} {v : V} {es : List (Nat × Nat)} (h : LE H v es) : Dp K H v (dE es) := by
  obtain ⟨a, cs, rfl, ha, hc⟩ := h
  refine .lst (SqL.of ha) ?_
  clear ha
  induction hc with
  | nil => exact .nil
  | cons r _ ih => exact .cons (.tup (SqT.of r) (.cons (.str _) (.cons (.int _) .nil))) ih
theorem dp_ans {H : Hp} {t : Addr} {n : Int} {x : V} {d : PyData} (h : H t = some (tAns n x)) (hx : Dp K H x d) : Dp K H (.ref t) (dA n d) := .tup (SqT.of h) (.cons (.int _) (.cons hx (.cons (.bl _) (.cons (.bl _) .nil))))
theorem sm_ans {n : Int} {d : PyData} (h : Sm 2 d) : Sm 3 (dA n d) := .tup (by simp) fun z hz => by
  simp only [List.mem_cons, List.not_mem_nil, or_false] at hz
  rcases hz with rfl | rfl | rfl | rfl
  · exact .int _
  · exact h
  · exact .bl _
  · exact .bl _
theorem sm_dI {l : List Int} (h : l.length ≤ 1000) (n : Nat) : Sm (n + 1) (dI l) := .lst (by rw [List.length_map]; exact h) fun z hz => by
  obtain ⟨x, _, rfl⟩ := List.mem_map.mp hz
  exact .int _
theorem sm_dR {R : S3} (ok : Okw R) : Sm 3 (dR R) := .lst (by simp) fun z hz => by
  have h : ∀ k, (R.get k).length ≤ 1000 := fun k => by have := (ok.get k).len; omega
  simp only [List.mem_cons, List.not_mem_nil, or_false] at hz
  rcases hz with rfl | rfl | rfl
  · exact sm_dI (h 0) 1
  · exact sm_dI (h 1) 1
  · exact sm_dI (h 2) 1
theorem sm_dP {ps : List (Int × Int)} (h : ps.length ≤ 1000) : Sm 3 (dP ps) := .lst (by rw [List.length_map]; exact h) fun z hz => by
  obtain ⟨x, _, rfl⟩ := List.mem_map.mp hz
  refine .tup (by simp) fun z hz => ?_
  simp only [List.mem_cons, List.not_mem_nil, or_false] at hz
  rcases hz with rfl | rfl
  · exact .int _
  · exact .int _
theorem sm_dE {es : List (Nat × Nat)} (h : es.length ≤ 1000) : Sm 3 (dE es) := .lst (by rw [List.length_map]; exact h) fun z hz => by
  obtain ⟨x, _, rfl⟩ := List.mem_map.mp hz
  refine .tup (by simp) fun z hz => ?_
  simp only [List.mem_cons, List.not_mem_nil, or_false] at hz
  rcases hz with rfl | rfl
  · exact .str _
  · exact .int _
theorem silL_len {R : S3} (h : R.a.length ≤ 12) : R.silL.length ≤ 36 := silU_len R h 3
theorem sideN_inj {k j : Nat} (hk : k < 3) (hj : j < 3) (e : sideN k = sideN j) : k = j := by
  have h : ∀ k, k < 3 → ∀ j, j < 3 → sideN k = sideN j → k = j := by decide +kernel
  exact h k hk j hj e
theorem eqv_str (x y : Str) : PyData.eqv (.str x) (.str y) = decide (x = y) := by
  rw [PyData.eqv]
  by_cases h : x = y <;> simp [h]
theorem any_sil {R : S3} {k j : Nat} (hk : k < 3) (hj : j + 1 < R.a.length) : ((R.silL.map fun e => PyData.tuple [.str (sideN e.1), .int ((e.2 : Nat) : Int)]).any fun z => PyData.eqv z (.tuple [.str (sideN k), .int ((j : Nat) : Int)])) = R.silR k j := by
  rw [Bool.eq_iff_iff, List.any_eq_true]
  constructor
  · rintro ⟨z, hz, hq⟩
    obtain ⟨⟨k', j'⟩, he, rfl⟩ := List.mem_map.mp hz
    have hm := S3.mem_silL.mp he
    rw [PyData.eqv, PyData.eqvAll, PyData.eqvAll, PyData.eqvAll, eqv_str, eqv_int] at hq
    simp only [Bool.and_true, Bool.and_eq_true, decide_eq_true_eq] at hq
    have e1 := sideN_inj hm.1 hk hq.1
    have e2 : j' = j := Int.ofNat.inj hq.2
    rw [← e1, ← e2]
    exact hm.2.2
  · intro h
    refine ⟨_, List.mem_map.mpr ⟨(k, j), S3.mem_silL.mpr ⟨hk, hj, h⟩, rfl⟩, ?_⟩
    rw [PyData.eqv, PyData.eqvAll, PyData.eqvAll, PyData.eqvAll, eqv_str, eqv_int]
    simp
theorem lay_dE (es : List (Nat × Nat)) : (dE es).canLay0 = true := by
  show PyData.canLay0 (.list _) = true
  rw [PyData.canLay0]
  have h : ∀ k, PyData.strOk (sideN k) = true := fun k => match k with
    | 0 => by decide +kernel
    | 1 => by decide +kernel
    | n + 2 => show PyData.strOk "yours" = true by decide +kernel
  exact lay_map (fun x => by simp [PyData.canLay0, PyData.canLayAll0, h]) es
theorem depth_dE (es : List (Nat × Nat)) : (dE es).depth ≤ 2 := by
  show PyData.depth (.list _) ≤ 2
  rw [PyData.depth]
  exact Nat.succ_le_succ (depth_map (n := 1) (fun x => by simp [PyData.depth, PyData.depthAll]) es)
theorem rgV_ints (a b : Int) : ∃ l : List Int, rgV a b = l.map V.int ∧ l.length = (b - a).toNat := ⟨(List.range (b - a).toNat).map fun i => a + (i : Nat), by unfold rgV; rw [List.map_map]; rfl, by rw [List.length_map, List.length_range]⟩
def sp_law_edits_hold (K : PySem.W.Frag) : Sp := fun vs H Q E => ∃ v u s R, vs = [v, u, s] ∧ TW K H v R ∧ LR H u R ∧ LE H s R.silL ∧ Okw R ∧ ∀ H', Ex H H' → Q (.bl true) H'
theorem ok_law_edits_hold (T : Wd P K mg) : Fn P w K mg base 10 "_law_edits_hold" (sp_law_edits_hold K) := by
  have F_law_after := ok_law_after (P := P) (w := w) (base := base) T
  have F_law_edited := ok_law_edited (P := P) (w := w) (base := base) T
  have F_law_is := ok_law_is (P := P) (w := w) (base := base) T
  have F_law_shown := ok_law_shown (P := P) (w := w) (base := base) T
  refine Fn.of T.g_law_edits_hold T.f_law_edits_hold c_law_edits_hold (fun _ _ _ _ _ _ us hl => match us, hl with | [_, _, _], _ => rfl) (fun vs H Q E h => ?_) fun cdv A outer s H vs Q E hr h => ?_
  · obtain ⟨_, _, _, _, rfl, _⟩ := h
    rfl
  have nd := c_law_edits_hold.nd
  have hu65 := hu65_of hr
  obtain ⟨v, u, s1, R, rfl, hT, hR, hE, ok, q⟩ := h
  refine ⟨_, pss_cons (ps_set (i := 3) nd rfl (by first | exact .inl rfl | exact .inr rfl) (pe_lst (pa_cons (pe_str) (pa_cons (pe_str) (pa_cons (pe_str) pa_nil))))) (pss_cons (ps_for PassesOwn.never rfl (pi_range1 rfl T.z_range (pa_cons (pe_int) pa_nil)) (pg_name (i := 4) nd rfl (by first | exact .inl rfl | exact .inr rfl)) (pss_one (ps_for PassesOwn.never rfl (piLK (K := K) (pe_op op_cat (pe_listRg rfl rfl T.z_list (prg_2 rfl T.z_range (pe_un un_neg (pe_int)) (pe_op op_add (pe_callB (lenK (K := K)) rfl T.z_len (by decide +kernel) (pa_cons (pe_ix (ixLK (K := K)) (pv 1) (pe_int) (fun _ _ => rfl)) pa_nil)) (pe_int)))) (pe_lst (pa_cons (pe_op op_sub (pe_un un_neg (pe_callB (lenK (K := K)) rfl T.z_len (by decide +kernel) (pa_cons (pe_ix (ixLK (K := K)) (pv 1) (pe_int) (fun _ _ => rfl)) pa_nil))) (pe_int)) (pa_cons (pe_int) pa_nil))))) (pg_name (i := 5) nd rfl (by first | exact .inl rfl | exact .inr rfl)) (pss_cons (ps_set (i := 6) nd rfl (by first | exact .inl rfl | exact .inr rfl) (pe_tup (pa_cons (pe_int) (pa_cons (pe_int) (pa_cons (pe_bl) (pa_cons (pe_bl) pa_nil)))))) (pss_cons (ps_if (PW.pt (pw_or (pt_cmpR op_lt (pv 5) (pe_int) (nomark _)) (pw_or1 (pt_cmpR op_gt (pv 5) (pe_op op_sub (pe_callB (lenK (K := K)) rfl T.z_len (by decide +kernel) (pa_cons (pe_ix (ixLK (K := K)) (pv 1) (pe_int) (fun _ _ => rfl)) pa_nil)) (pe_int)) (nomark _))))) (pss_one (ps_set (i := 6) nd rfl (by first | exact .inl rfl | exact .inr rfl) (pe_tup (pa_cons (pe_int) (pa_cons (pe_int) (pa_cons (pe_bl) (pa_cons (pe_bl) pa_nil))))))) (pss_one (ps_if (pt_cmpR (op_inD hu65) (pe_tup (pa_cons (pe_ix (ixLK (K := K)) (pv 3) (pv 4) (fun _ _ => rfl)) (pa_cons (pv 5) pa_nil))) (pv 2) (by first | rfl | with_unfolding_all rfl)) (pss_one (ps_set (i := 6) nd rfl (by first | exact .inl rfl | exact .inr rfl) (pf F_law_after hr (by decide) (pa_cons (pv 1) (pa_cons (pv 4) (pa_cons (pv 5) pa_nil)))))) (pss_nil)))) (pss_one (ps_if (pt_not (pt_val (pf F_law_is hr (by decide) (pa_cons (pf F_law_edited hr (by decide) (pa_cons (pv 0) (pa_cons (pe_ix (ixLK (K := K)) (pv 3) (pv 4) (fun _ _ => rfl)) (pa_cons (pv 5) pa_nil)))) (pa_cons (pv 6) pa_nil))))) (pss_one (ps_ret (pe_bl))) (pss_nil)))))))) (pss_one (ps_ret (pf F_law_is hr (by decide) (pa_cons (pf F_law_shown hr (by decide) (pa_cons (pv 0) pa_nil)) (pa_cons (pv 1) pa_nil)))))), ?_⟩
  obtain ⟨a, u0, u1, u2, rfl, ha, ⟨c0, rfl, h0⟩, h1, h2⟩ := id hR
  have wl := ok.wf.len
  refine ⟨sz20 (show 3 ≤ 1000000 by decide), fun nm nn => ?_⟩
  have e1 : Ex H (upd H nm (.lst (sides.map V.str))) := Ex.lay ex0 nn
  have hnm : upd H nm (.lst (sides.map V.str)) nm = some (.lst (sides.map V.str)) := upd_same
  show tSeq _ _ _ _ (upd H nm (.lst (sides.map V.str)))
  generalize upd H nm (.lst (sides.map V.str)) = H1 at e1 hnm
  refine ⟨3, rfl, by decide, by decide, for_range (fun i σ H' => ∃ o4 o5 o6, σ = [some v, some (.ref a), some s1, some (.ref nm), o4, o5, o6] ∧ Ex H1 H') ⟨none, none, none, rfl, ex0⟩ ?_ ?_⟩
  · rintro k σ H2 hk ⟨o4, o5, o6, rfl, e2⟩
    have hk3 : k < 3 := hk
    have ek : ((0 : Int) + (k : Nat)) = (k : Int) := Int.zero_add _
    rw [ek]
    have e02 := e1.trans e2
    refine ⟨_, rfl, _, rfl, a, _, _, _, rfl, rfl, SqL.of (e02 _ _ ha), atI_nat (j := 0) rfl, c0, _, rfl, .inl (SqL.of (e02 _ _ h0)), _, _, rfl, rfl, _, _, rfl, rfl, ?_⟩
    refine ⟨by rw [List.length_map]; refine ⟨?_, ?_, ?_, ?_, ?_⟩ <;> omega, fun q1 nq1 => ?_⟩
    generalize hx1 : rgV _ _ = xs1
    obtain ⟨l1, rfl, hl1⟩ : ∃ l1 : List Int, xs1 = l1.map V.int ∧ l1.length ≤ 100 := by
      obtain ⟨l1, h3, h4⟩ := rgV_ints (-1) (((R.a.map V.int).length : Nat) + 1 : Int)
      exact ⟨l1, by rw [← hx1]; exact h3, by rw [h4, List.length_map]; omega⟩
    have e3 : Ex H2 (upd H2 q1 (.lst (l1.map V.int))) := Ex.lay ex0 nq1
    have g3 : upd H2 q1 (.lst (l1.map V.int)) q1 = some (.lst (l1.map V.int)) := upd_same
    generalize upd H2 q1 (.lst (l1.map V.int)) = H3 at e3 g3
    have e03 := e02.trans e3
    refine ⟨_, rfl, a, _, _, _, rfl, rfl, SqL.of (e03 _ _ ha), atI_nat (j := 0) rfl, c0, _, rfl, .inl (SqL.of (e03 _ _ h0)), _, rfl, _, _, rfl, rfl, sz20 (show 2 ≤ 1000000 by decide), fun q2 nq2 => ⟨q1, q2, _, _, rfl, rfl, (upd_ne (ne_new g3 nq2)).trans g3, upd_same, by rw [List.length_map]; exact sz20 (by simp; omega), fun q3 nq3 => ?_⟩⟩
    have e4 := Ex.lay (o := .lst [.int (-(((R.a.map V.int).length : Nat) : Int) - 1), .int 100]) ex0 nq2
    generalize hxs : (_ ++ _ : List V) = xs3
    have hall : ∀ x ∈ xs3, ∃ sp : Int, x = .int sp := by
      rw [← hxs]
      intro x hx
      rcases List.mem_append.mp hx with h | h
      · obtain ⟨y, _, rfl⟩ := List.mem_map.mp h
        exact ⟨_, rfl⟩
      · simp only [List.mem_cons, List.not_mem_nil, or_false] at h
        rcases h with rfl | rfl
        · exact ⟨_, rfl⟩
        · exact ⟨_, rfl⟩
    refine ⟨q3, rfl, ⟨_, SqL.of upd_same⟩, for_list (xs := xs3) (fun j σ H' => ∃ o5 o6, σ = [some v, some (.ref a), some s1, some (.ref nm), some (.int (k : Nat)), o5, o6] ∧ Ex H1 H' ∧ H' q3 = some (.lst xs3)) ⟨o5, o6, rfl, e2.trans (e3.trans (Ex.lay (Ex.lay ex0 nq2) nq3)), upd_same⟩ (fun j σ H' _ h => SqL.of h.choose_spec.choose_spec.2.2) ?_ ?_⟩
    · rintro j x σ H5 hj ⟨o5, o6, rfl, e5, hq3⟩
      obtain ⟨sp, rfl⟩ := hall x (List.mem_of_getElem? hj)
      refine ⟨sz20 (show 4 ≤ 1000000 by decide), fun t nt => ?_⟩
      have e6 : Ex H5 (upd H5 t (tAns 3 (.int 0))) := Ex.lay ex0 nt
      have ht : upd H5 t (tAns 3 (.int 0)) t = some (tAns 3 (.int 0)) := upd_same
      show tSeq _ _ _ _ (upd H5 t (tAns 3 (.int 0)))
      generalize upd H5 t (tAns 3 (.int 0)) = H6 at e6 ht
      replace hq3 := e6 _ _ hq3
      have e16 := e5.trans e6
      have e06 := e1.trans e16
      refine ⟨_, rfl, _, _, rfl, rfl, _, rfl, ?_⟩
      by_cases hs : sp < 0
      · refine ifT (decide_eq_true hs) (ifT rfl ?_)
        refine ⟨sz20 (show 4 ≤ 1000000 by decide), fun t2 nt2 => ?_⟩
        have e7 : Ex H6 (upd H6 t2 (tAns 2 (.int 0))) := Ex.lay ex0 nt2
        have ht2 : upd H6 t2 (tAns 2 (.int 0)) t2 = some (tAns 2 (.int 0)) := upd_same
        generalize upd H6 t2 (tAns 2 (.int 0)) = H7 at e7 ht2
        have e17 := e16.trans e7
        have e07 := e06.trans e7
        refine ⟨_, rfl, _, rfl, _, rfl, nm, _, _, _, rfl, rfl, SqL.of (e17 _ _ hnm), atI_nat (j := k) (by rw [List.getElem?_map, (side_at hk3).1]; rfl), _, rfl, v, R, sideN k, _, rfl, hT.mono e07, ok, fun hx => absurd (List.mem_of_getElem? (side_at hk3).1) hx, fun k' hk' ek => ⟨fun _ t3 H8 e8 h8 => ⟨_, rfl, _, _, dA 2 (.int 0), rfl, dp_ans h8 (.int 0), dp_ans (e8 _ _ ht2) (.int 0), sm_ans (.int 0), fun H9 e9 => ⟨_, rfl, ifF rfl ⟨_, _, rfl, e17.trans (e8.trans e9), e9 _ _ (e8 _ _ (e7 _ _ hq3))⟩⟩⟩, fun n en hn => by omega⟩⟩
      refine ifF (decide_eq_false hs) ⟨_, rfl, _, rfl, a, _, _, _, rfl, rfl, SqL.of (e06 _ _ ha), atI_nat (j := 0) rfl, c0, _, rfl, .inl (SqL.of (e06 _ _ h0)), _, _, rfl, rfl, _, _, rfl, rfl, _, rfl, ?_⟩
      by_cases hs2 : (((R.a.map V.int).length : Nat) : Int) - 2 < sp
      · refine ifT (decide_eq_true hs2) ?_
        rw [List.length_map] at hs2
        refine ⟨sz20 (show 4 ≤ 1000000 by decide), fun t2 nt2 => ?_⟩
        have e7 : Ex H6 (upd H6 t2 (tAns 2 (.int 0))) := Ex.lay ex0 nt2
        have ht2 : upd H6 t2 (tAns 2 (.int 0)) t2 = some (tAns 2 (.int 0)) := upd_same
        generalize upd H6 t2 (tAns 2 (.int 0)) = H7 at e7 ht2
        have e17 := e16.trans e7
        have e07 := e06.trans e7
        refine ⟨_, rfl, _, rfl, _, rfl, nm, _, _, _, rfl, rfl, SqL.of (e17 _ _ hnm), atI_nat (j := k) (by rw [List.getElem?_map, (side_at hk3).1]; rfl), _, rfl, v, R, sideN k, _, rfl, hT.mono e07, ok, fun hx => absurd (List.mem_of_getElem? (side_at hk3).1) hx, fun k' hk' ek => ⟨fun _ t3 H8 e8 h8 => ⟨_, rfl, _, _, dA 2 (.int 0), rfl, dp_ans h8 (.int 0), dp_ans (e8 _ _ ht2) (.int 0), sm_ans (.int 0), fun H9 e9 => ⟨_, rfl, ifF rfl ⟨_, _, rfl, e17.trans (e8.trans e9), e9 _ _ (e8 _ _ (e7 _ _ hq3))⟩⟩⟩, fun n en hn => by omega⟩⟩
      refine ifF (decide_eq_false hs2) ?_
      rw [List.length_map] at hs2
      obtain ⟨n, rfl⟩ := Int.eq_ofNat_of_zero_le (show 0 ≤ sp by omega)
      have hn : n + 1 < R.a.length := by omega
      refine ⟨_, rfl, _, rfl, nm, _, _, _, rfl, rfl, SqL.of (e16 _ _ hnm), atI_nat (j := k) (by rw [List.getElem?_map, (side_at hk3).1]; rfl), _, rfl, sz20 (show 2 ≤ 1000000 by decide), fun t2 nt2 => ?_⟩
      have e7 : Ex H6 (upd H6 t2 (.tup [.str (sideN k), .int (n : Int)])) := Ex.lay ex0 nt2
      have ht2 : upd H6 t2 (.tup [.str (sideN k), .int (n : Int)]) t2 = some (.tup [.str (sideN k), .int (n : Int)]) := upd_same
      generalize upd H6 t2 (.tup [.str (sideN k), .int (n : Int)]) = H7 at e7 ht2
      have e17 := e16.trans e7
      have e07 := e06.trans e7
      have ht7 := e7 _ _ ht
      replace hq3 := e7 _ _ hq3
      refine ⟨_, rfl, .tuple [.str (sideN k), .int (n : Int)], R.silL.map fun e => .tuple [.str (sideN e.1), .int (e.2 : Nat)], .tup (SqT.of ht2) (.cons (.str _) (.cons (.int _) .nil)), dp_LE (hE.mono e07), ?_, shaped_of (lay_dE _) (Nat.le_trans (depth_dE _) (by decide)), _, rfl, ?_⟩
      · have z : k = 0 ∨ k = 1 ∨ k = 2 := by omega
        rcases z with rfl | rfl | rfl <;> exact shaped_of (by simp [PyData.canLay0, PyData.canLayAll0, sideN]; decide +kernel) (by simp [PyData.depth, PyData.depthAll])
      rw [any_sil hk3 hn]
      cases hb : R.silR k n
      · refine ifF rfl ?_
        refine ⟨_, rfl, _, rfl, _, rfl, nm, _, _, _, rfl, rfl, SqL.of (e17 _ _ hnm), atI_nat (j := k) (by rw [List.getElem?_map, (side_at hk3).1]; rfl), _, rfl, v, R, sideN k, _, rfl, hT.mono e07, ok, fun hx => absurd (List.mem_of_getElem? (side_at hk3).1) hx, fun k' hk' ek => ?_⟩
        obtain rfl := sideN_inj hk3 hk' ek
        refine ⟨fun hv => absurd ⟨by omega, by omega⟩ hv, fun n' en hn' => ?_⟩
        obtain rfl : n = n' := Int.ofNat.inj en
        refine ⟨fun _ t3 H8 e8 h8 => ⟨_, rfl, _, _, dA 3 (.int 0), rfl, dp_ans h8 (.int 0), dp_ans (e8 _ _ ht7) (.int 0), sm_ans (.int 0), fun H9 e9 => ⟨_, rfl, ifF rfl ⟨_, _, rfl, e17.trans (e8.trans e9), e9 _ _ (e8 _ _ hq3)⟩⟩⟩, fun hs => by rw [hb] at hs; cases hs⟩
      · refine ifT rfl ⟨_, rfl, _, rfl, _, rfl, _, R, k, n, rfl, hR.mono e07, ok.ok, by omega, hk3, hn, fun p H8 np e8 hp => ?_⟩
        have e18 := e17.trans e8
        have e08 := e07.trans e8
        refine ⟨_, rfl, _, rfl, _, rfl, nm, _, _, _, rfl, rfl, SqL.of (e18 _ _ hnm), atI_nat (j := k) (by rw [List.getElem?_map, (side_at hk3).1]; rfl), _, rfl, v, R, sideN k, _, rfl, hT.mono e08, ok, fun hx => absurd (List.mem_of_getElem? (side_at hk3).1) hx, fun k' hk' ek => ?_⟩
        obtain rfl := sideN_inj hk3 hk' ek
        refine ⟨fun hv => absurd ⟨by omega, by omega⟩ hv, fun n' en hn' => ?_⟩
        obtain rfl : n = n' := Int.ofNat.inj en
        refine ⟨(fun hs => by rw [hb] at hs; cases hs), fun _ v' H9 e9 h9 => ⟨_, rfl, _, _, dR (R.aft k n), rfl, dp_LR h9, dp_LR (hp.mono e9), sm_dR (okw_aft ok hn), fun HA eA => ⟨_, rfl, ifF rfl ⟨_, _, rfl, e18.trans (e9.trans eA), eA _ _ (e9 _ _ (e8 _ _ hq3))⟩⟩⟩⟩
    · rintro σ H5 ⟨o5, o6, rfl, e5, _⟩
      exact ⟨_, _, _, rfl, e5⟩
  · rintro σ H2 ⟨o4, o5, o6, rfl, e2⟩
    have e02 := e1.trans e2
    refine ⟨_, rfl, v, R, rfl, hT.mono e02, fun p H3 np e3 hp => ?_⟩
    exact ⟨_, rfl, _, _, dR R, rfl, dp_LR hp, dp_LR (hR.mono (e02.trans e3)), sm_dR ok, fun H4 e4 => q H4 (e02.trans (e3.trans e4))⟩
def sp_law_told_hold (K : PySem.W.Frag) : Sp := fun vs H Q E => ∃ v u R, vs = [v, u] ∧ TW K H v R ∧ LR H u R ∧ Okw R ∧ ∀ H', Ex H H' → Q (.bl true) H'
theorem ok_law_told_hold (T : Wd P K mg) : Fn P w K mg base 11 "_law_told_hold" (sp_law_told_hold K) := by
  have F_ThreeWay_silent_edits := ok_ThreeWay_silent_edits (P := P) (w := w) (base := base) T
  have F_law_edits_hold := ok_law_edits_hold (P := P) (w := w) (base := base) T
  have F_law_is := ok_law_is (P := P) (w := w) (base := base) T
  have F_law_silent := ok_law_silent (P := P) (w := w) (base := base) T
  refine Fn.of T.g_law_told_hold T.f_law_told_hold c_law_told_hold (fun _ _ _ _ _ _ us hl => match us, hl with | [_, _], _ => rfl) (fun vs H Q E h => ?_) fun cdv A outer s H vs Q E hr h => ?_
  · obtain ⟨_, _, _, rfl, _⟩ := h
    rfl
  have nd := c_law_told_hold.nd
  obtain ⟨v, u, R, rfl, hT, hR, ok, q⟩ := h
  refine ⟨_, pss_cons (ps_set (i := 2) nd rfl (by first | exact .inl rfl | exact .inr rfl) (pf F_law_silent hr (by decide) (pa_cons (pv 1) pa_nil))) (pss_cons (ps_if (pt_not (pt_val (pf F_law_is hr (by decide) (pa_cons (pm0 F_ThreeWay_silent_edits hr (by decide) (pv 0)) (pa_cons (pv 2) pa_nil))))) (pss_one (ps_ret (pe_bl))) (pss_nil)) (pss_cons (ps_set (i := 3) nd rfl (by first | exact .inl rfl | exact .inr rfl) (pm0 F_ThreeWay_silent_edits hr (by decide) (pv 0))) (pss_cons (ps_expr (pe_bm PySem.F.plainAttrs_list PySem.F.slot_list_append PySem.F.type_list_append mt_append (pv 3) (pa_cons (pe_tup (pa_cons (pe_str) (pa_cons (pe_int) pa_nil))) pa_nil))) (pss_cons (ps_expr (pe_bm0 PySem.F.plainAttrs_list PySem.F.slot_list_reverse PySem.F.type_list_reverse mt_reverse (pv 3))) (pss_one (ps_ret (pe_and (pf F_law_is hr (by decide) (pa_cons (pm0 F_ThreeWay_silent_edits hr (by decide) (pv 0)) (pa_cons (pv 2) pa_nil))) (pe_one (pf F_law_edits_hold hr (by decide) (pa_cons (pv 0) (pa_cons (pv 1) (pa_cons (pv 2) pa_nil)))))))))))), ?_⟩
  have wl := ok.wf.len
  have sl := silL_len wl
  refine ⟨_, rfl, u, R, rfl, hR, ok, fun p cs H1 np e1 hp hc => ?_⟩
  have hE : LE H1 (.ref p) R.silL := ⟨p, cs, rfl, hp, hc⟩
  obtain ⟨a, dx, sv, rfl, ha, _⟩ := id hT
  refine ⟨_, rfl, a, dx, _, rfl, e1 _ _ ha, rfl, _, R, rfl, hT.mono e1, ok, fun p2 cs2 H2 np2 e2 hp2 hc2 => ⟨_, rfl, _, _, dE R.silL, rfl, dp_LE ⟨p2, cs2, rfl, hp2, hc2⟩, dp_LE (hE.mono e2), sm_dE (by omega), fun H3 e3 => ⟨_, rfl, ifF rfl ?_⟩⟩⟩
  have e13 := e2.trans e3
  have e03 := e1.trans e13
  refine ⟨_, rfl, a, dx, _, rfl, e03 _ _ ha, rfl, _, R, rfl, hT.mono e03, ok, fun p3 cs3 H4 np3 e4 hp3 hc3 => ?_⟩
  have hl3 := Paired.length hc3
  refine ⟨_, rfl, .inl ⟨rfl, _, SqL.of hp3⟩, sz20 (show 2 ≤ 1000000 by decide), fun t nt => ⟨p3, cs3.map V.ref, .ref t, rfl, rfl, (upd_ne (ne_new hp3 nt)).trans hp3, by rw [List.length_map]; exact sz20' (by omega), ?_⟩⟩
  refine ⟨_, rfl, .inl ⟨rfl, _, SqL.of upd_same⟩, p3, _, rfl, rfl, upd_same, ?_⟩
  have eM := Evl.Ex.mut (o := .lst (cs3.map V.ref ++ [V.ref t]).reverse) (Evl.Ex.mut (o := .lst (cs3.map V.ref ++ [V.ref t])) (Ex.lay (o := .tup [.str "old", .int 0]) e4 nt) np3) np3
  generalize upd _ p3 (.lst (cs3.map V.ref ++ [V.ref t]).reverse) = H5 at eM
  have e15 := e13.trans eM
  have e05 := e1.trans e15
  refine ⟨_, rfl, a, dx, _, rfl, e05 _ _ ha, rfl, _, R, rfl, hT.mono e05, ok, fun p6 cs6 H6 np6 e6 hp6 hc6 => ⟨_, rfl, _, _, dE R.silL, rfl, dp_LE ⟨p6, cs6, rfl, hp6, hc6⟩, dp_LE (hE.mono (e15.trans e6)), sm_dE (by omega), fun H7 e7 => ⟨_, rfl, ifT rfl ?_⟩⟩⟩
  have e17 := e15.trans (e6.trans e7)
  have e07 := e1.trans e17
  exact ⟨_, rfl, _, rfl, _, rfl, _, _, _, R, rfl, hT.mono e07, hR.mono e07, hE.mono e17, ok, fun H8 e8 => q H8 (e07.trans e8)⟩
def sixN : List Str := ["", "Mine", "old ", "both", "nobody", "theirs"]
theorem six_ok : ∀ x ∈ sixN, okN x ∧ x ∉ sides := by
  unfold okN
  decide +kernel
def sp_law_sides_refused (K : PySem.W.Frag) : Sp := fun vs H Q E => ∃ b z v u R, vs = [.ref b, v, u] ∧ BX H b z ∧ TW K H v R ∧ LR H u R ∧ Okw R ∧ ∀ H', ExB b H H' → BX H' b z → Q (.bl true) H'
theorem ok_law_sides_refused (T : Wd P K mg) : Fn P w K mg base 10 "_law_sides_refused" (sp_law_sides_refused K) := by
  have F_law_edited := ok_law_edited (P := P) (w := w) (base := base) T
  have F_law_is := ok_law_is (P := P) (w := w) (base := base) T
  have F_law_shown := ok_law_shown (P := P) (w := w) (base := base) T
  have F_law_take := ok_law_take (P := P) (w := w) (base := base) T
  refine Fn.of T.g_law_sides_refused T.f_law_sides_refused c_law_sides_refused (fun _ _ _ _ _ _ us hl => match us, hl with | [_, _, _], _ => rfl) (fun vs H Q E h => ?_) fun cdv A outer s H vs Q E hr h => ?_
  · obtain ⟨_, _, _, _, _, rfl, _⟩ := h
    rfl
  have nd := c_law_sides_refused.nd
  obtain ⟨b, z, v, u, R, rfl, B0, hT, hR, ok, q⟩ := h
  refine ⟨_, pss_cons (ps_for PassesOwn.never rfl (piLK (K := K) (pe_lst (pa_cons (pe_str) (pa_cons (pe_str) (pa_cons (pe_str) (pa_cons (pe_str) (pa_cons (pe_str) (pa_cons (pe_str) pa_nil)))))))) (pg_name (i := 3) nd rfl (by first | exact .inl rfl | exact .inr rfl)) (pss_one (ps_for PassesOwn.never rfl (piLK (K := K) (pe_lst (pa_cons (pe_un un_neg (pe_int)) (pa_cons (pe_int) (pa_cons (pf F_law_take hr (by decide) (pa_cons (pv 0) (pa_cons (pe_op op_add (pe_callB (lenK (K := K)) rfl T.z_len (by decide +kernel) (pa_cons (pe_ix (ixLK (K := K)) (pv 2) (pe_int) (fun _ _ => rfl)) pa_nil)) (pe_int)) pa_nil))) pa_nil))))) (pg_name (i := 4) nd rfl (by first | exact .inl rfl | exact .inr rfl)) (pss_one (ps_if (pt_not (pt_val (pf F_law_is hr (by decide) (pa_cons (pf F_law_edited hr (by decide) (pa_cons (pv 1) (pa_cons (pv 3) (pa_cons (pv 4) pa_nil)))) (pa_cons (pe_tup (pa_cons (pe_int) (pa_cons (pv 3) (pa_cons (pe_bl) (pa_cons (pe_bl) pa_nil))))) pa_nil))))) (pss_one (ps_ret (pe_bl))) (pss_nil)))))) (pss_one (ps_ret (pf F_law_is hr (by decide) (pa_cons (pf F_law_shown hr (by decide) (pa_cons (pv 1) pa_nil)) (pa_cons (pv 2) pa_nil))))), ?_⟩
  have wl := ok.wf.len
  refine ⟨sz20 (show 6 ≤ 1000000 by decide), fun nm nn => ?_⟩
  have e1 : Ex H (upd H nm (.lst (sixN.map V.str))) := Ex.lay ex0 nn
  have hnm : upd H nm (.lst (sixN.map V.str)) nm = some (.lst (sixN.map V.str)) := upd_same
  refine ⟨nm, rfl, ⟨_, SqL.of hnm⟩, for_list (xs := sixN.map V.str) (fun i σ H' => ∃ o3 o4, σ = [some (.ref b), some v, some u, o3, o4] ∧ ExB b H H' ∧ BX H' b z ∧ H' nm = some (.lst (sixN.map V.str))) ⟨none, none, rfl, ExB.of e1, B0.mono e1, hnm⟩ (fun j σ H' _ h => SqL.of h.choose_spec.choose_spec.2.2.2) ?_ ?_⟩
  · rintro i x σ H2 hi ⟨o3, o4, rfl, e2, B2, hn2⟩
    obtain ⟨nx, hx, rfl⟩ : ∃ y, sixN[i]? = some y ∧ x = .str y := by
      rw [List.getElem?_map] at hi
      cases h : sixN[i]? with
      | none => rw [h] at hi; cases hi
      | some y => rw [h] at hi; cases hi; exact ⟨y, rfl, rfl⟩
    obtain ⟨okx, nsx⟩ := six_ok nx (List.mem_of_getElem? hx)
    obtain ⟨a, _, _, _, rfl, ha, ⟨c0, rfl, h0⟩, _, _⟩ := hR.exB B0 e2
    refine ⟨_, rfl, _, rfl, _, rfl, a, _, _, _, rfl, rfl, SqL.of ha, atI_nat (j := 0) rfl, c0, _, rfl, .inl (SqL.of h0), _, _, rfl, rfl, b, z, _, R.a.length + 1, rfl, B2, by rw [List.length_map]; rfl, by omega, by omega, fun r H3 hr3 e3 B3 => ⟨sz20 (show 3 ≤ 1000000 by decide), fun q1 nq1 => ?_⟩⟩
    generalize hxs : ([_, _, _] : List V) = xs3
    have hall : ∀ x ∈ xs3, ∃ sp : Int, x = .int sp := by
      rw [← hxs]
      intro x hx
      simp only [List.mem_cons, List.not_mem_nil, or_false] at hx
      rcases hx with rfl | rfl | rfl
      · exact ⟨_, rfl⟩
      · exact ⟨_, rfl⟩
      · exact ⟨_, rfl⟩
    have e4 : Ex H3 (upd H3 q1 (.lst xs3)) := Ex.lay ex0 nq1
    have hq1 : upd H3 q1 (.lst xs3) q1 = some (.lst xs3) := upd_same
    have hn3 : upd H3 q1 (.lst xs3) nm = some (.lst (sixN.map V.str)) := e4 _ _ (e3 _ _ (B0.nb nn) hn2)
    have B4 := B3.mono e4
    have eb4 := e2.trans (e3.trans (ExB.of e4))
    generalize upd H3 q1 (.lst xs3) = H4 at hq1 hn3 B4 eb4 e4
    have hT4 := hT.exB B0 eb4
    refine ⟨q1, rfl, ⟨_, SqL.of hq1⟩, for_list (xs := xs3) (fun j σ H' => ∃ o4, σ = [some (.ref b), some v, some (.ref a), some (.str nx), o4] ∧ Ex H4 H') ⟨o4, rfl, ex0⟩ (fun j σ H' _ h => SqL.of (h.choose_spec.2 _ _ hq1)) ?_ ?_⟩
    · rintro j x σ H5 hj ⟨o4, rfl, e5⟩
      obtain ⟨sp, rfl⟩ := hall x (List.mem_of_getElem? hj)
      refine ⟨_, rfl, _, rfl, _, rfl, v, R, nx, sp, rfl, hT4.mono e5, ok, fun _ => ⟨okx, fun t2 H7 e7 h7 => ⟨_, rfl, sz20 (show 4 ≤ 1000000 by decide), fun t3 nt3 => ?_⟩⟩, fun k hk ek => absurd (by rw [ek]; exact List.mem_of_getElem? (side_at hk).1) nsx⟩
      have e8 : Ex H7 (upd H7 t3 (tAns 1 (.str nx))) := Ex.lay ex0 nt3
      exact ⟨_, _, dA 1 (.str nx), rfl, dp_ans (e8 _ _ h7) (.str _), dp_ans upd_same (.str _), sm_ans (.str _), fun H8 e9 => ⟨_, rfl, ifF rfl ⟨_, rfl, e5.trans (e7.trans (e8.trans e9))⟩⟩⟩
    · rintro σ H5 ⟨o4, rfl, e5⟩
      exact ⟨_, _, rfl, eb4.trans (ExB.of e5), B4.mono e5, e5 _ _ hn3⟩
  · rintro σ H2 ⟨o3, o4, rfl, e2, B2, hn2⟩
    refine ⟨_, rfl, v, R, rfl, hT.exB B0 e2, fun p H3 np e3 hp => ?_⟩
    exact ⟨_, rfl, _, _, dR R, rfl, dp_LR hp, dp_LR ((hR.exB B0 e2).mono e3), sm_dR ok, fun H4 e4 => q H4 (e2.trans (ExB.of (e3.trans e4))) (B2.mono (e3.trans e4))⟩
def rEqW (K : PySem.W.Frag) : R2 := fun x y H Q => ∃ S U, TW K H x S ∧ TW K H y U ∧ ∀ H', Ex H H' → Q (.bl (decide (S = U))) H'
theorem eqW {X : Cx} {k j : Nat} (F : Mt X.prog X.w X.K X.mg X.base k (cT K) "__eq__" (sp_ThreeWay_eq K)) (hr : Room j X.A) (hk : k ≤ j) : OpR X (compareOp .Eq) (rEqW K) := by
  obtain ⟨f, fd, ps, hc, hm, F, b⟩ := F.ex
  intro pins s σ H x y v u Q I rx ry h
  obtain ⟨S, U, h1, h2, q⟩ := h
  obtain ⟨a, dx, l, rfl, ha, _⟩ := id h1
  obtain ⟨a2, dx2, l2, rfl, ha2, _⟩ := id h2
  exact op_eqO F (hr.mono hk) hm.at_ hm.fn b pins s σ H _ _ v u Q I rx ry ⟨a, a2, dx, dx2, _, _, rfl, rfl, ha, ha2, _, _, S, U, rfl, h1, h2, fun H' e => ⟨_, rfl, q H' e⟩⟩
theorem mrg_hms {R : S3} (ok : R.ok) : R.hms.mrg = R.mrg := by rw [S3.mrg_inn (S3.hms_ok ok), S3.hms_mrg ok]
theorem asc_mrg {R : S3} (ok : R.ok) : Asc R.mrg := asc_prs (srt_nodup ok.nd) (srt_sorted _)
theorem mrg_len {R : S3} (ok : Okw R) : R.mrg.length ≤ 1000 := by
  have h := prs_len R.wins (srt R.a)
  have e := (srt_perm R.a).length_eq
  have l := ok.wf.len
  rw [e] at h
  exact Nat.le_trans h (Nat.le_trans (Nat.mul_le_mul l l) (by decide))
def sp_law_settled_holds (K : PySem.W.Frag) : Sp := fun vs H Q E => ∃ v u h R, vs = [v, u, h] ∧ TW K H v R ∧ LR H u R ∧ LR H h R.hms ∧ Okw R ∧ ∀ H', Ex H H' → Q (.bl true) H'
theorem ok_law_settled_holds (T : Wd P K mg) : Fn P w K mg base 9 "_law_settled_holds" (sp_law_settled_holds K) := by
  have F_Reading_pairs := ok_Reading_pairs (P := P) (w := w) (base := base) T
  have F_State_lists := ok_State_lists (P := P) (w := w) (base := base) T
  have F_ThreeWay_eq := ok_ThreeWay_eq (P := P) (w := w) (base := base) T
  have F_ThreeWay_merged := ok_ThreeWay_merged (P := P) (w := w) (base := base) T
  have F_ThreeWay_settled := ok_ThreeWay_settled (P := P) (w := w) (base := base) T
  have F_ThreeWay_silent_edits := ok_ThreeWay_silent_edits (P := P) (w := w) (base := base) T
  have F_ThreeWay_state := ok_ThreeWay_state (P := P) (w := w) (base := base) T
  have F_law_is := ok_law_is (P := P) (w := w) (base := base) T
  have F_law_merge := ok_law_merge (P := P) (w := w) (base := base) T
  have F_law_places := ok_law_places (P := P) (w := w) (base := base) T
  have F_law_shown := ok_law_shown (P := P) (w := w) (base := base) T
  have F_law_silent := ok_law_silent (P := P) (w := w) (base := base) T
  have F_law_wins := ok_law_wins (P := P) (w := w) (base := base) T
  refine Fn.of T.g_law_settled_holds T.f_law_settled_holds c_law_settled_holds (fun _ _ _ _ _ _ us hl => match us, hl with | [_, _, _], _ => rfl) (fun vs H Q E h => ?_) fun cdv A outer s H vs Q E hr h => ?_
  · obtain ⟨_, _, _, _, rfl, _⟩ := h
    rfl
  have nd := c_law_settled_holds.nd
  have hu64 := hr.units
  obtain ⟨v, u, g, R, rfl, hT, hR, hG, ok, q⟩ := h
  refine ⟨_, pss_cons (ps_set (i := 3) nd rfl (by first | exact .inl rfl | exact .inr rfl) (pm0 F_ThreeWay_settled hr (by decide) (pv 0))) (pss_cons (ps_set (i := 4) nd rfl (by first | exact .inl rfl | exact .inr rfl) (pe_lst (pa_cons (pe_listRev rfl rfl T.z_list rfl T.z_reversed (pe_ix (ixLK (K := K)) (pv 2) (pe_int) (fun _ _ => rfl))) (pa_cons (pe_ix (ixLK (K := K)) (pv 2) (pe_int) (fun _ _ => rfl)) (pa_cons (pe_ix (ixLK (K := K)) (pv 2) (pe_int) (fun _ _ => rfl)) pa_nil))))) (pss_cons (ps_if (PW.pt (pw_or (pt_not (pt_val (pf F_law_is hr (by decide) (pa_cons (pf F_law_shown hr (by decide) (pa_cons (pv 3) pa_nil)) (pa_cons (pv 2) pa_nil))))) (pw_or1 (pt_not (pt_val (pf F_law_is hr (by decide) (pa_cons (pm0 F_State_lists hr (by decide) (pm0 F_ThreeWay_state hr (by decide) (pv 3))) (pa_cons (pv 4) pa_nil)))))))) (pss_one (ps_ret (pe_bl))) (pss_nil)) (pss_cons (ps_setLc (i := 6) (own := [("_law_row", 5)]) rfl nd rfl rfl (sw_true rfl rfl rfl (by decide +kernel)) (piLK (K := K) (pv 1)) (blkOk_by (N := n_law_settled_holds) (sc := defScope s_law_settled_holds) (by decide +kernel)) (fun _ _ _ _ _ => pg_name (i := 5) nd rfl (by first | exact .inl rfl | exact .inr rfl)) (fun _ _ _ _ _ => pts_nil) (fun _ _ _ _ _ => pf F_law_places hr (by decide) (pa_cons (pv 5) pa_nil))) (pss_cons (ps_for PassesOwn.never rfl (piLK (K := K) (pm0 F_State_lists hr (by decide) (pm0 F_ThreeWay_state hr (by decide) (pv 3)))) (pg_name (i := 5) nd rfl (by first | exact .inl rfl | exact .inr rfl)) (pss_one (ps_for PassesOwn.never rfl (pi_range1 rfl T.z_range (pa_cons (pe_op op_sub (pe_callB (lenK (K := K)) rfl T.z_len (by decide +kernel) (pa_cons (pv 5) pa_nil)) (pe_int)) pa_nil)) (pg_name (i := 7) nd rfl (by first | exact .inl rfl | exact .inr rfl)) (pss_one (ps_if (pt_not (pt_val (pf F_law_wins hr (by decide) (pa_cons (pv 6) (pa_cons (pe_ix (ixLK (K := K)) (pv 5) (pv 7) (fun _ _ => rfl)) (pa_cons (pe_ix (ixLK (K := K)) (pv 5) (pe_op op_add (pv 7) (pe_int)) (fun _ _ => rfl)) pa_nil)))))) (pss_one (ps_ret (pe_bl))) (pss_nil)))))) (pss_cons (ps_if (pt_not (pt_val (pf F_law_is hr (by decide) (pa_cons (pm0 F_Reading_pairs hr (by decide) (pm0 F_ThreeWay_merged hr (by decide) (pv 3))) (pa_cons (pf F_law_merge hr (by decide) (pa_cons (pv 1) pa_nil)) pa_nil))))) (pss_one (ps_ret (pe_bl))) (pss_nil)) (pss_cons (ps_if (pt_not (pt_val (pf F_law_is hr (by decide) (pa_cons (pm0 F_ThreeWay_silent_edits hr (by decide) (pv 3)) (pa_cons (pf F_law_silent hr (by decide) (pa_cons (pv 2) pa_nil)) pa_nil))))) (pss_one (ps_ret (pe_bl))) (pss_nil)) (pss_cons (ps_if (pt_not (pt_val (pf F_law_is hr (by decide) (pa_cons (pf F_law_shown hr (by decide) (pa_cons (pm0 F_ThreeWay_settled hr (by decide) (pv 3)) pa_nil)) (pa_cons (pv 2) pa_nil))))) (pss_one (ps_ret (pe_bl))) (pss_nil)) (pss_one (ps_ret (pe_and (pf F_law_is hr (by decide) (pa_cons (pe_cmpR (eqW F_ThreeWay_eq hr (by decide)) (pv 3) (pv 0) (nomark _)) (pa_cons (pe_cmpR (op_eqD hu64) (pv 1) (pv 2) (nomark _)) pa_nil))) (pe_one (pf F_law_is hr (by decide) (pa_cons (pf F_law_shown hr (by decide) (pa_cons (pv 0) pa_nil)) (pa_cons (pv 1) pa_nil)))))))))))))), ?_⟩
  have wl := ok.wf.len
  have okh : Okw R.hms := ⟨S3.hms_ok ok.ok, ok.wf.perm S3.hms_perm⟩
  have wlh := okh.wf.len
  obtain ⟨a, dx, sv, rfl, ha, _⟩ := id hT
  obtain ⟨b, _, u1, u2, rfl, hb, ⟨c0, rfl, hc0⟩, hc1, hc2⟩ := id hG
  refine ⟨_, rfl, a, dx, _, rfl, ha, rfl, _, R, rfl, hT, ok, fun cv H1 e1 hC => ?_⟩
  refine ⟨_, rfl, b, _, _, _, rfl, rfl, SqL.of (e1 _ _ hb), atI_nat (j := 0) rfl, c0, _, rfl, SqL.of (e1 _ _ hc0), fun l1 n1 => ?_⟩
  rw [← List.map_reverse]
  have e2 : Ex H1 (upd H1 l1 (.lst (R.hms.a.reverse.map V.int))) := Ex.lay ex0 n1
  have g1 : upd H1 l1 (.lst (R.hms.a.reverse.map V.int)) l1 = some (.lst (R.hms.a.reverse.map V.int)) := upd_same
  generalize upd H1 l1 (.lst (R.hms.a.reverse.map V.int)) = H2 at e2 g1
  have e02 := e1.trans e2
  refine ⟨_, rfl, b, _, _, _, rfl, rfl, SqL.of (e02 _ _ hb), atI_nat (j := 1) rfl, _, rfl, b, _, _, _, rfl, rfl, SqL.of (e02 _ _ hb), atI_nat (j := 2) rfl, sz20 (show 3 ≤ 1000000 by decide), fun p np => ?_⟩
  have e3 : Ex H2 (upd H2 p (.lst [.ref l1, u1, u2])) := Ex.lay ex0 np
  have e03 := e02.trans e3
  have hI : LR (upd H2 p (.lst [.ref l1, u1, u2])) (.ref p) R.hms.inn := ⟨p, _, _, _, rfl, upd_same, ⟨l1, rfl, e3 _ _ g1⟩, hc1.mono e03, hc2.mono e03⟩
  show tSeq _ _ _ _ (upd H2 p (.lst [.ref l1, u1, u2]))
  generalize upd H2 p (.lst [.ref l1, u1, u2]) = H3 at e3 hI e03
  have e13 := e2.trans e3
  have hC3 := hC.mono e13
  have hG3 := hG.mono e03
  obtain ⟨ca, cdx, csv, rfl, hca, _⟩ := id hC3
  refine ⟨_, rfl, _, R.hms, rfl, hC3, fun p4 H4 np4 e4 h4 => ⟨_, rfl, _, _, dR R.hms, rfl, dp_LR h4, dp_LR (hG3.mono e4), sm_dR okh, fun H5 e5 => ⟨_, rfl, ifF rfl ?_⟩⟩⟩
  have e35 := e4.trans e5
  refine ⟨_, rfl, ca, cdx, _, rfl, e35 _ _ hca, rfl, _, R.hms, rfl, hC3.mono e35, fun sv6 H6 e6 hS => ?_⟩
  obtain ⟨sa, sdx, sl, sp, rfl, hsa, _⟩ := id hS
  refine ⟨sa, sdx, _, rfl, hsa, rfl, _, R.hms.inn, rfl, hS, fun pl x y z H7 npl e7 hpl hx hy hz => ⟨_, rfl, _, _, dR R.hms.inn, rfl, dp_LR ⟨pl, x, y, z, rfl, hpl, hx, hy, hz⟩, dp_LR (hI.mono (e35.trans (e6.trans e7))), sm_dR (okw_inn okh), fun H8 e8 => ⟨_, rfl, ifF rfl ?_⟩⟩⟩
  have e38 := e35.trans (e6.trans (e7.trans e8))
  have e08 := e03.trans e38
  refine maps_seq (v := u) rfl (show 5 < 8 by decide) (hR.mono e08) ok fun D H9 nD e9 hP => ?_
  have e39 := e38.trans e9
  have e09 := e08.trans e9
  refine ⟨_, rfl, ca, cdx, _, rfl, e39 _ _ hca, rfl, _, R.hms, rfl, hC3.mono e39, fun sv6 HA eA hSA => ?_⟩
  obtain ⟨sa2, sdx2, sl2, sp2, rfl, hsa2, _⟩ := id hSA
  refine ⟨sa2, sdx2, _, rfl, hsa2, rfl, _, R.hms.inn, rfl, hSA, fun pl x y z HB npl eB hpl hx hy hz => ⟨pl, rfl, ⟨_, SqL.of hpl⟩, for_list (xs := [x, y, z]) (fun i σ H' => ∃ o5 o7, σ = [some (.ref a), some u, some (.ref b), some (.ref ca), some (.ref p), o5, some (.ref D), o7] ∧ Ex HB H') ⟨none, none, rfl, ex0⟩ (fun j σ H' _ h => SqL.of (h.choose_spec.choose_spec.2 _ _ hpl)) ?_ ?_⟩⟩
  · rintro i row σ HC hi ⟨o5, o7, rfl, eC⟩
    have hi3 : i < 3 := (List.getElem?_eq_some_iff.mp hi).1
    obtain ⟨r, rfl, hr⟩ : LI HC row (R.hms.inn.get i) := three_get (P := fun i y => LI HC y (R.hms.inn.get i)) (hx.mono eC) (hy.mono eC) (hz.mono eC) i row hi
    have hpm : (R.hms.inn.get i).Perm R.a := ((S3.inn_ok (S3.hms_ok ok.ok)).get i).trans ((List.reverse_perm _).trans S3.hms_perm)
    have hrl := hpm.length_eq
    refine ⟨_, rfl, r, _, rfl, .inl (SqL.of hr), _, _, rfl, rfl, _, rfl, by omega, by rw [List.length_map]; omega, ?_⟩
    have eN : ((((R.hms.inn.get i).map V.int).length : Nat) - 1 : Int).toNat = (R.hms.inn.get i).length - 1 := by rw [List.length_map]; omega
    rw [eN]
    refine for_range (fun j σ H' => ∃ o7, σ = [some (.ref a), some u, some (.ref b), some (.ref ca), some (.ref p), some (.ref r), some (.ref D), o7] ∧ Ex HC H') ⟨o7, rfl, ex0⟩ ?_ ?_
    · rintro j σ HD hj ⟨o7, rfl, eD⟩
      have ej : ((0 : Int) + (j : Nat)) = (j : Int) := Int.zero_add _
      rw [ej]
      have h0 := getD_at (show j < (R.hms.inn.get i).length by omega)
      have h1 := getD_at (show j + 1 < (R.hms.inn.get i).length by omega)
      have hw : R.wins ((R.hms.inn.get i).getD j 0) ((R.hms.inn.get i).getD (j + 1) 0) = true := S3.hms_nb (k := i) (i := j) ok.ok (by rw [← S3.hms_inn]; exact h0) (by rw [← S3.hms_inn]; exact h1)
      refine ⟨_, rfl, _, rfl, _, rfl, r, _, _, _, rfl, rfl, SqL.of (eD _ _ hr), atI_nat (j := j) (get_map h0), _, rfl, _, rfl, _, _, rfl, rfl, r, _, _, _, rfl, rfl, SqL.of (eD _ _ hr), atI_nat (j := j + 1) (get_map h1), _, R, _, _, rfl, hP.mono (eA.trans (eB.trans (eC.trans eD))), ok.ok, hpm.mem_iff.mp (List.mem_of_getElem? h0), hpm.mem_iff.mp (List.mem_of_getElem? h1), fun HE eE => ⟨_, rfl, ?_⟩⟩
      rw [hw]
      exact ifF rfl ⟨_, rfl, eD.trans eE⟩
    · rintro σ HD ⟨o7, rfl, eD⟩
      exact ⟨_, _, rfl, eC.trans eD⟩
  · rintro σ HC ⟨o5, o7, rfl, eC⟩
    have e3C := e39.trans (eA.trans (eB.trans eC))
    have e0C := e03.trans e3C
    refine ⟨_, rfl, ca, cdx, _, rfl, e3C _ _ hca, rfl, _, R.hms, rfl, hC3.mono e3C, okh, fun rv HD eD hRD => ?_⟩
    obtain ⟨ra, rdx, rl, rd, kvs, rfl, hra, _⟩ := id hRD
    refine ⟨ra, rdx, _, rfl, hra, rfl, _, _, _, rfl, hRD, asc_mrg okh.ok, fun pp cs HE npp eE hpp hcs => ⟨_, rfl, u, R, rfl, hR.mono (e0C.trans (eD.trans eE)), ok, fun mv HF eF hM => ⟨_, _, dP R.mrg, rfl, ?_, dp_LQ hM, sm_dP (mrg_len ok), fun HG eG => ⟨_, rfl, ifF rfl ?_⟩⟩⟩⟩
    · have z : LQ HE (.ref pp) R.hms.mrg := ⟨pp, cs, rfl, hpp, hcs⟩
      rw [mrg_hms ok.ok] at z
      exact dp_LQ (z.mono eF)
    have e3G := e3C.trans (eD.trans (eE.trans (eF.trans eG)))
    have sl := silL_len wlh
    refine ⟨_, rfl, ca, cdx, _, rfl, e3G _ _ hca, rfl, _, R.hms, rfl, hC3.mono e3G, okh, fun p2 cs2 HI np2 eI hp2 hc2 => ⟨_, rfl, _, R.hms, rfl, hG3.mono (e3G.trans eI), okh, fun p5 cs5 HJ np5 eJ hp5 hc5 => ⟨_, _, dE R.hms.silL, rfl, dp_LE (LE.mono eJ ⟨p2, cs2, rfl, hp2, hc2⟩), dp_LE ⟨p5, cs5, rfl, hp5, hc5⟩, sm_dE (by omega), fun HK eK => ⟨_, rfl, ifF rfl ?_⟩⟩⟩⟩
    have e3K := e3G.trans (eI.trans (eJ.trans eK))
    refine ⟨_, rfl, ca, cdx, _, rfl, e3K _ _ hca, rfl, _, R.hms, rfl, hC3.mono e3K, okh, fun v7 HL eL hT7 => ⟨_, R.hms.hms, rfl, hT7, fun p8 HM np8 eM h8 => ⟨_, rfl, _, _, dR R.hms, rfl, ?_, dp_LR (hG3.mono (e3K.trans (eL.trans eM))), sm_dR okh, fun HN eN => ⟨_, rfl, ifF rfl ?_⟩⟩⟩⟩
    · rw [S3.hms_hms ok.ok] at h8
      exact dp_LR h8
    have e3N := e3K.trans (eL.trans (eM.trans eN))
    have e0N := e03.trans e3N
    refine ⟨_, rfl, _, rfl, R.hms, R, hC3.mono e3N, hT.mono e0N, fun HO eO => ⟨_, rfl, _, rfl, dR R, dR R.hms, dp_LR ((hR.mono e0N).mono eO), dp_LR ((hG3.mono e3N).mono eO), shaped_of (lay_dR _) (Nat.le_trans (depth_dR _) (by decide)), shaped_of (lay_dR _) (Nat.le_trans (depth_dR _) (by decide)), _, _, .bool (decide (R.hms = R)), rfl, .bl _, ?_, .bl _, fun HP eP => ⟨_, rfl, ifT rfl ?_⟩⟩⟩
    · rw [eqv_dR, show decide (R = R.hms) = decide (R.hms = R) from decide_eq_decide.mpr eq_comm]
      exact .bl _
    have e0P := e0N.trans (eO.trans eP)
    refine ⟨_, rfl, _, R, rfl, hT.mono e0P, fun p9 HQ np9 eQ h9 => ⟨_, rfl, _, _, dR R, rfl, dp_LR h9, dp_LR (hR.mono (e0P.trans eQ)), sm_dR ok, fun HR eR => q HR (e0P.trans (eQ.trans eR))⟩⟩
theorem side_first {k m : Nat} {y : V} (hk : k < 3) (hm : m < k) (h : (sides.map V.str)[m]? = some y) : eqV y (.str (sideN k)) = false := by
  rw [List.getElem?_map, (side_at (show m < 3 by omega)).1] at h
  cases h
  show (sideN m == sideN k) = false
  exact beq_eq_false_iff_ne.mpr fun e => by
    have := sideN_inj (by omega) hk e
    omega
def sp_law_walk_holds (K : PySem.W.Frag) : Sp := fun vs H Q E => ∃ b z v u h R, vs = [.ref b, v, u, h] ∧ BX H b z ∧ TW K H v R ∧ LR H u R ∧ LR H h R.hms ∧ Okw R ∧ ∀ H', ExB b H H' → BX H' b z → Q (.bl true) H'
theorem ok_law_walk_holds (T : Wd P K mg) : Fn P w K mg base 9 "_law_walk_holds" (sp_law_walk_holds K) := by
  have F_ThreeWay_edit := ok_ThreeWay_edit (P := P) (w := w) (base := base) T
  have F_ThreeWay_eq := ok_ThreeWay_eq (P := P) (w := w) (base := base) T
  have F_ThreeWay_settled := ok_ThreeWay_settled (P := P) (w := w) (base := base) T
  have F_ThreeWay_silent_edits := ok_ThreeWay_silent_edits (P := P) (w := w) (base := base) T
  have F_law_after := ok_law_after (P := P) (w := w) (base := base) T
  have F_law_is := ok_law_is (P := P) (w := w) (base := base) T
  have F_law_shown := ok_law_shown (P := P) (w := w) (base := base) T
  have F_law_silent := ok_law_silent (P := P) (w := w) (base := base) T
  have F_law_take := ok_law_take (P := P) (w := w) (base := base) T
  refine Fn.of T.g_law_walk_holds T.f_law_walk_holds c_law_walk_holds (fun _ _ _ _ _ _ us hl => match us, hl with | [_, _, _, _], _ => rfl) (fun vs H Q E h => ?_) fun cdv A outer s H vs Q E hr h => ?_
  · obtain ⟨_, _, _, _, _, _, rfl, _⟩ := h
    rfl
  have nd := c_law_walk_holds.nd
  have hu64 := hr.units
  obtain ⟨b, z, v, u, g, R, rfl, B0, hT, hR, hG, ok, q⟩ := h
  refine ⟨_, pss_cons (ps_set (i := 4) nd rfl (by first | exact .inl rfl | exact .inr rfl) (pe_lst (pa_cons (pe_str) (pa_cons (pe_str) (pa_cons (pe_str) pa_nil))))) (pss_cons (ps_set (i := 5) nd rfl (by first | exact .inl rfl | exact .inr rfl) (pv 1)) (pss_cons (ps_set (i := 6) nd rfl (by first | exact .inl rfl | exact .inr rfl) (pv 2)) (pss_cons (ps_for PassesOwn.never rfl (pi_range1 rfl T.z_range (pa_cons (pe_op op_add (pe_int) (pf F_law_take hr (by decide) (pa_cons (pv 0) (pa_cons (pe_int) pa_nil)))) pa_nil)) (pg_name (i := 7) nd rfl (by first | exact .inl rfl | exact .inr rfl)) (pss_cons (ps_set (i := 8) nd rfl (by first | exact .inl rfl | exact .inr rfl) (pf F_law_silent hr (by decide) (pa_cons (pv 6) pa_nil))) (pss_cons (ps_if (pt_not (pt_val (pf F_law_is hr (by decide) (pa_cons (pm0 F_ThreeWay_silent_edits hr (by decide) (pv 5)) (pa_cons (pv 8) pa_nil))))) (pss_one (ps_ret (pe_bl))) (pss_nil)) (pss_one (ps_if (pt_cmpR (op_neD hu64) (pv 8) (pe_lst (pa_nil)) (nomark _)) (pss_cons (ps_asg (pe_ix (ixLK (K := K)) (pv 8) (pf F_law_take hr (by decide) (pa_cons (pv 0) (pa_cons (pe_callB (lenK (K := K)) rfl T.z_len (by decide +kernel) (pa_cons (pv 8) pa_nil)) pa_nil))) (fun _ _ => rfl)) (pgTK (K := K) (n := 2) rfl (pgs_cons (pg_name (i := 9) nd rfl (by first | exact .inl rfl | exact .inr rfl)) (pgs_cons (pg_name (i := 10) nd rfl (by first | exact .inl rfl | exact .inr rfl)) (pgs_nil))))) (pss_cons (ps_set (i := 11) nd rfl (by first | exact .inl rfl | exact .inr rfl) (pm F_ThreeWay_edit hr (by decide) (pv 5) (pa_cons (pv 9) (pa_cons (pv 10) pa_nil)))) (pss_cons (ps_set (i := 6) nd rfl (by first | exact .inl rfl | exact .inr rfl) (pf F_law_after hr (by decide) (pa_cons (pv 6) (pa_cons (pe_bm PySem.F.plainAttrs_list PySem.F.slot_list_index PySem.F.type_list_index mt_index (pv 4) (pa_cons (pv 9) pa_nil)) (pa_cons (pv 10) pa_nil))))) (pss_cons (ps_if (PW.pt (pw_or (pt_not (pt_val (pf F_law_is hr (by decide) (pa_cons (pf F_law_shown hr (by decide) (pa_cons (pv 11) pa_nil)) (pa_cons (pv 6) pa_nil))))) (pw_or1 (pt_not (pt_val (pf F_law_is hr (by decide) (pa_cons (pe_cmpR (eqW F_ThreeWay_eq hr (by decide)) (pm F_ThreeWay_edit hr (by decide) (pv 11) (pa_cons (pv 9) (pa_cons (pv 10) pa_nil))) (pv 5) (nomark _)) (pa_cons (pe_bl) pa_nil)))))))) (pss_one (ps_ret (pe_bl))) (pss_nil)) (pss_one (ps_set (i := 5) nd rfl (by first | exact .inl rfl | exact .inr rfl) (pv 11))))))) (pss_nil)))))) (pss_one (ps_ret (pe_and (pf F_law_is hr (by decide) (pa_cons (pf F_law_shown hr (by decide) (pa_cons (pm0 F_ThreeWay_settled hr (by decide) (pv 5)) pa_nil)) (pa_cons (pv 3) pa_nil))) (pe_one (pf F_law_is hr (by decide) (pa_cons (pf F_law_shown hr (by decide) (pa_cons (pv 1) pa_nil)) (pa_cons (pv 2) pa_nil)))))))))), ?_⟩
  have okh : Okw R.hms := ⟨S3.hms_ok ok.ok, ok.wf.perm S3.hms_perm⟩
  refine ⟨sz20 (show 3 ≤ 1000000 by decide), fun nm nn => ?_⟩
  have e1 : Ex H (upd H nm (.lst (sides.map V.str))) := Ex.lay ex0 nn
  have hnm : upd H nm (.lst (sides.map V.str)) nm = some (.lst (sides.map V.str)) := upd_same
  show tSeq _ _ _ _ (upd H nm (.lst (sides.map V.str)))
  generalize upd H nm (.lst (sides.map V.str)) = H1 at e1 hnm
  have B1 := B0.mono e1
  refine ⟨_, rfl, _, rfl, _, rfl, b, z, _, 4, rfl, B1, rfl, by decide, by decide, fun r H2 hr2 e2 B2 => ?_⟩
  refine ⟨_, _, rfl, rfl, _, rfl, by omega, by omega, ?_⟩
  have eb2 := (ExB.of (x := b) e1).trans e2
  refine for_range (fun i σ H' => ∃ nv av o7 o8 o9 o10 o11 R', σ = [some (.ref b), some v, some u, some g, some (.ref nm), some nv, some av, o7, o8, o9, o10, o11] ∧ ExB b H H' ∧ BX H' b z ∧ H' nm = some (.lst (sides.map V.str)) ∧ TW K H' nv R' ∧ LR H' av R' ∧ Okw R' ∧ R'.hms = R.hms) ⟨v, u, none, none, none, none, none, R, rfl, eb2, B2, e2 _ _ (B0.nb nn) hnm, hT.exB B0 eb2, hR.exB B0 eb2, ok, rfl⟩ ?_ ?_
  · rintro i σ H3 hi ⟨nv, av, o7, o8, o9, o10, o11, R', rfl, e3, B3, hn3, hT3, hR3, ok3, hh⟩
    have wl3 := ok3.wf.len
    have sl3 := silL_len wl3
    obtain ⟨a, dx, sv, rfl, ha, _⟩ := id hT3
    refine ⟨_, rfl, av, R', rfl, hR3, ok3, fun p cs H4 np e4 hp hc => ?_⟩
    refine ⟨_, rfl, a, dx, _, rfl, e4 _ _ ha, rfl, _, R', rfl, hT3.mono e4, ok3, fun p5 cs5 H5 np5 e5 hp5 hc5 => ⟨_, rfl, _, _, dE R'.silL, rfl, dp_LE ⟨p5, cs5, rfl, hp5, hc5⟩, dp_LE (LE.mono e5 ⟨p, cs, rfl, hp, hc⟩), sm_dE (by omega), fun H6 e6 => ⟨_, rfl, ifF rfl ?_⟩⟩⟩
    have e46 := e5.trans e6
    have hp6 := e46 _ _ hp
    have hc6 : Paired (fun (e : Nat × Nat) (c : Addr) => H6 c = some (.tup [.str (sideN e.1), .int (e.2 : Nat)])) R'.silL cs := Paired.mapP hc fun _ _ z => e46 _ _ z
    have e36 := e4.trans e46
    refine ⟨_, rfl, sz20 (show 0 ≤ 1000000 by decide), fun em nem => ?_⟩
    have e7 : Ex H6 (upd H6 em (.lst [])) := Ex.lay ex0 nem
    have hem : upd H6 em (.lst []) em = some (.lst []) := upd_same
    generalize upd H6 em (.lst []) = H7 at e7 hem
    have e37 := e36.trans e7
    have hp7 := e7 _ _ hp6
    have hE7 : LE H7 (.ref p) R'.silL := ⟨p, cs, rfl, hp7, Paired.mapP hc6 fun _ _ z => e7 _ _ z⟩
    have B7 := B3.mono e37
    refine ⟨dE R'.silL, .list [], dp_LE hE7, .lst (SqL.of hem) .nil, shaped_of (lay_dE _) (Nat.le_trans (depth_dE _) (by decide)), by decide +kernel, _, rfl, ?_⟩
    by_cases hn0 : R'.silL.length = 0
    · have h0 : R'.silL = [] := List.eq_nil_of_length_eq_zero hn0
      refine ifF (by rw [h0]; rfl) ?_
      exact ⟨_, av, _, _, _, _, _, R', rfl, e3.trans (ExB.of e37), B7, e37 _ _ hn3, hT3.mono e37, hR3.mono e37, ok3, hh⟩
    · have hne : (!PyData.eqv (dE R'.silL) (.list [])) = true := by
        cases h : R'.silL with
        | nil => rw [h] at hn0; exact absurd rfl hn0
        | cons x l => rw [PyData.eqv]; rfl
      refine ifT hne ?_
      have hcl : cs.length = R'.silL.length := (Paired.length hc6).symm
      refine ⟨_, rfl, _, rfl, _, rfl, p, _, rfl, .inl (SqL.of hp7), b, z, _, R'.silL.length, rfl, B7, by rw [List.length_map, hcl], by omega, by omega, fun j H8 hj e8 B8 => ?_⟩
      obtain ⟨_, cs8, ep, hp8, hc8⟩ := hE7.exB B7 e8
      cases ep
      obtain ⟨⟨k, n⟩, hkn⟩ : ∃ e, R'.silL[j]? = some e := ⟨_, List.getElem?_eq_getElem hj⟩
      obtain ⟨c, hcj, hc⟩ := paired_get hc8 hkn
      obtain ⟨hk3, hn, hsil⟩ := S3.mem_silL.mp (List.mem_of_getElem? hkn)
      refine ⟨p, _, _, .ref c, rfl, rfl, SqL.of hp8, atI_nat (by rw [List.getElem?_map, hcj]; rfl), c, _, rfl, SqT.of hc, rfl, ?_⟩
      have eb8 := (ExB.of e37).trans e8
      have hT8 : TW K H8 (.ref a) R' := hT3.exB B3 eb8
      have hR8 := hR3.exB B3 eb8
      have hn8 := e8 _ _ (B0.nb nn) (e37 _ _ hn3)
      obtain ⟨_, dx8, sv8, ea, ha8, _⟩ := id hT8
      cases ea
      have okA := okw_aft ok3 (k := k) (i := n) hn
      have lenA := S3.aft_len ok3.ok (k := k) (i := n) hn
      refine ⟨_, _, rfl, _, _, rfl, rfl, ?_⟩
      refine ⟨_, rfl, a, dx8, _, rfl, ha8, rfl, _, rfl, _, rfl, _, R', sideN k, _, rfl, hT8, ok3, fun hx => absurd (List.mem_of_getElem? (side_at hk3).1) hx, fun k' hk' ek => ?_⟩
      obtain rfl := sideN_inj hk3 hk' ek
      refine ⟨fun hv => absurd ⟨by omega, by omega⟩ hv, fun n' en hn' => ?_⟩
      obtain rfl : n = n' := Int.ofNat.inj en
      refine ⟨(fun hs => by rw [hsil] at hs; cases hs), fun _ v' H9 e9 hT9 => ?_⟩
      refine ⟨_, rfl, _, rfl, .inl ⟨rfl, _, SqL.of (e9 _ _ hn8)⟩, _, rfl, nm, _, _, k, .str (sideN k), rfl, rfl, SqL.of (e9 _ _ hn8), rfl, rfl, by rw [List.getElem?_map, (side_at hk3).1]; rfl, beq_self_eq_true (sideN k), fun m y hm hy => side_first hk3 hm hy, _, rfl, av, R', k, n, rfl, hR8.mono e9, ok3.ok, by omega, hk3, hn, fun p2 HA _ eA hpA => ?_⟩
      have hT9A := hT9.mono eA
      refine ⟨_, rfl, _, _, rfl, hT9A, fun p3 HB _ eB hB => ⟨_, rfl, _, _, dR (R'.aft k n), rfl, dp_LR hB, dp_LR (hpA.mono eB), sm_dR okA, fun HC eC => ⟨_, rfl, ifF rfl ?_⟩⟩⟩
      have eAC := eB.trans eC
      have hTC := hT9A.mono eAC
      obtain ⟨a2, dx2, sv2, rfl, ha2, _⟩ := id hTC
      refine ⟨_, rfl, a2, dx2, _, rfl, ha2, rfl, _, rfl, _, rfl, _, R'.aft k n, sideN k, _, rfl, hTC, okA, fun hx => absurd (List.mem_of_getElem? (side_at hk3).1) hx, fun k' hk' ek => ?_⟩
      obtain rfl := sideN_inj hk3 hk' ek
      refine ⟨fun hv => absurd ⟨by omega, by omega⟩ hv, fun n' en hn' => ?_⟩
      obtain rfl : n = n' := Int.ofNat.inj en
      refine ⟨(fun hs => by rw [S3.aft_sil ok3.ok hn, hsil] at hs; cases hs), fun _ v2 HD eD hTD => ?_⟩
      have e8D := e9.trans (eA.trans (eAC.trans eD))
      refine ⟨_, rfl, _, R', hTD, hT8.mono e8D, fun HE eE => ⟨_, _, .bool true, rfl, ?_, .bl true, .bl true, fun HF eF => ⟨_, rfl, ifF rfl ?_⟩⟩⟩
      · rw [decide_eq_true (S3.aft_aft ok3.ok hn)]
        exact .bl true
      have eAF := eAC.trans (eD.trans (eE.trans eF))
      have e8F := e8D.trans (eE.trans eF)
      exact ⟨_, rfl, _, _, _, _, _, _, _, R'.aft k n, rfl, e3.trans (eb8.trans (ExB.of e8F)), B8.mono e8F, e8F _ _ hn8, hT9A.mono eAF, hpA.mono eAF, okA, (S3.aft_hms ok3.ok hn hsil).trans hh⟩
  · rintro σ H3 ⟨nv, av, o7, o8, o9, o10, o11, R', rfl, e3, B3, hn3, hT3, hR3, ok3, hh⟩
    obtain ⟨a, dx, sv, rfl, ha, _⟩ := id hT3
    refine ⟨_, rfl, a, dx, _, rfl, ha, rfl, _, R', rfl, hT3, ok3, fun v4 H4 e4 hT4 => ⟨_, R'.hms, rfl, hT4, fun p5 H5 np5 e5 h5 => ⟨_, rfl, _, _, dR R.hms, rfl, ?_, dp_LR ((hG.exB B0 e3).mono (e4.trans e5)), sm_dR okh, fun H6 e6 => ⟨_, rfl, ifT rfl ?_⟩⟩⟩⟩
    · rw [hh] at h5
      exact dp_LR h5
    have e36 := e4.trans (e5.trans e6)
    exact ⟨_, rfl, v, R, rfl, (hT.exB B0 e3).mono e36, fun p7 H7 np7 e7 h7 => ⟨_, rfl, _, _, dR R, rfl, dp_LR h7, dp_LR ((hR.exB B0 e3).mono (e36.trans e7)), sm_dR ok, fun H8 e8 => q H8 (e3.trans (ExB.of (e36.trans (e7.trans e8)))) (B3.mono (e36.trans (e7.trans e8)))⟩⟩
def sp_law (K : PySem.W.Frag) : Sp := fun vs H Q E => ∃ a l, vs = [.ref a] ∧ SqL K H a ((l : List Int).map V.int) ∧ ∀ H', Q (.bl true) H'
theorem ok_law (T : Wd P K mg) : ∀ fd : FuncData, FunD K "law" "law" (defArgs s_law) (defBody s_law) (defScope s_law) [] [] (He.ga K "law") fd → FnOk P w K mg base (L2.CX P w) 12 (He.ga K "law") fd ["_law_script"] (sp_law K) := by
  have F_ThreeWay_silent_edits := ok_ThreeWay_silent_edits (P := P) (w := w) (base := base) T
  have F_law_box := ok_law_box (P := P) (w := w) (base := base) T
  have F_law_build := ok_law_build (P := P) (w := w) (base := base) T
  have F_law_homes := ok_law_homes (P := P) (w := w) (base := base) T
  have F_law_is := ok_law_is (P := P) (w := w) (base := base) T
  have F_law_settled_holds := ok_law_settled_holds (P := P) (w := w) (base := base) T
  have F_law_sides_refused := ok_law_sides_refused (P := P) (w := w) (base := base) T
  have F_law_silent := ok_law_silent (P := P) (w := w) (base := base) T
  have F_law_three := ok_law_three (P := P) (w := w) (base := base) T
  have F_law_told_hold := ok_law_told_hold (P := P) (w := w) (base := base) T
  have F_law_walk_holds := ok_law_walk_holds (P := P) (w := w) (base := base) T
  intro fd F
  refine fnOk_of F c_law  (fun vs H Q E h => ?_) fun cdv A outer s H vs Q E hr h => ?_
  · obtain ⟨_, _, rfl, _⟩ := h
    rfl
  have nd := c_law.nd
  obtain ⟨a, l, rfl, hl, q⟩ := h
  refine ⟨_, pss_cons (ps_set (i := 1) nd rfl (by first | exact .inl rfl | exact .inr rfl) (pf F_law_box hr (by decide) (pa_cons (pv 0) pa_nil))) (pss_cons (ps_set (i := 2) nd rfl (by first | exact .inl rfl | exact .inr rfl) (pf F_law_three hr (by decide) (pa_cons (pv 1) (pa_cons (pe_lst (pa_cons (pe_int) (pa_cons (pe_int) (pa_cons (pe_int) (pa_cons (pe_int) (pa_cons (pe_int) pa_nil)))))) pa_nil)))) (pss_cons (ps_set (i := 3) nd rfl (by first | exact .inl rfl | exact .inr rfl) (pf F_law_three hr (by decide) (pa_cons (pv 1) (pa_cons (pe_lst (pa_cons (pe_int) (pa_cons (pe_int) (pa_cons (pe_int) (pa_cons (pe_int) (pa_cons (pe_int) pa_nil)))))) pa_nil)))) (pss_cons (ps_set (i := 4) nd rfl (by first | exact .inl rfl | exact .inr rfl) (pf F_law_build hr (by decide) (pa_cons (pv 2) pa_nil))) (pss_cons (ps_set (i := 5) nd rfl (by first | exact .inl rfl | exact .inr rfl) (pf F_law_build hr (by decide) (pa_cons (pv 3) pa_nil))) (pss_cons (ps_set (i := 6) nd rfl (by first | exact .inl rfl | exact .inr rfl) (pf F_law_homes hr (by decide) (pa_cons (pv 2) pa_nil))) (pss_cons (ps_if (PW.pt (pw_or (pt_not (pt_val (pf F_law_told_hold hr (by decide) (pa_cons (pv 4) (pa_cons (pv 2) pa_nil))))) (pw_or1 (pt_not (pt_val (pf F_law_told_hold hr (by decide) (pa_cons (pv 5) (pa_cons (pv 3) pa_nil)))))))) (pss_one (ps_ret (pe_bl))) (pss_nil)) (pss_cons (ps_if (PW.pt (pw_or (pt_not (pt_val (pf F_law_sides_refused hr (by decide) (pa_cons (pv 1) (pa_cons (pv 4) (pa_cons (pv 2) pa_nil)))))) (pw_or1 (pt_not (pt_val (pf F_law_settled_holds hr (by decide) (pa_cons (pv 4) (pa_cons (pv 2) (pa_cons (pv 6) pa_nil))))))))) (pss_one (ps_ret (pe_bl))) (pss_nil)) (pss_cons (ps_if (pt_not (pt_val (pf F_law_settled_holds hr (by decide) (pa_cons (pv 5) (pa_cons (pv 3) (pa_cons (pf F_law_homes hr (by decide) (pa_cons (pv 3) pa_nil)) pa_nil)))))) (pss_one (ps_ret (pe_bl))) (pss_nil)) (pss_cons (ps_if (pt_not (pt_val (pf F_law_walk_holds hr (by decide) (pa_cons (pv 1) (pa_cons (pv 4) (pa_cons (pv 2) (pa_cons (pv 6) pa_nil))))))) (pss_one (ps_ret (pe_bl))) (pss_nil)) (pss_one (ps_ret (pf F_law_is hr (by decide) (pa_cons (pm0 F_ThreeWay_silent_edits hr (by decide) (pv 4)) (pa_cons (pf F_law_silent hr (by decide) (pa_cons (pv 2) pa_nil)) pa_nil)))))))))))))), ?_⟩
  refine ⟨_, rfl, a, l, rfl, hl, fun b z H1 e1 nb B1 => ?_⟩
  refine ⟨_, rfl, sz20 (show 5 ≤ 1000000 by decide), fun w1 nw1 => ⟨b, z, _, [3, 0, 1, 2, 4], rfl, B1.mono (Ex.lay ex0 nw1), ⟨w1, rfl, upd_same⟩, by decide, by decide, fun rv R H2 ok e2 B2 hR => ?_⟩⟩
  refine ⟨_, rfl, sz20 (show 5 ≤ 1000000 by decide), fun w2 nw2 => ⟨b, z, _, [2, 4, 3, 1, 0], rfl, B2.mono (Ex.lay ex0 nw2), ⟨w2, rfl, upd_same⟩, by decide, by decide, fun ov U H3 okU e3 B3 hU => ?_⟩⟩
  replace hR := hR.exB B2 ((ExB.of (Ex.lay ex0 nw2)).trans e3)
  refine ⟨_, rfl, rv, R, rfl, hR, ok, fun tv H4 e4 hT => ?_⟩
  refine ⟨_, rfl, ov, U, rfl, hU.mono e4, okU, fun sv H5 e5 hS => ?_⟩
  have e35 := e4.trans e5
  refine ⟨_, rfl, rv, R, rfl, hR.mono e35, ok, fun p H6 np e6 hG => ?_⟩
  have e36 := e35.trans e6
  refine ⟨_, rfl, _, rfl, tv, rv, R, rfl, hT.mono (e5.trans e6), hR.mono e36, ok, fun H7 e7 => ⟨_, rfl, ifF rfl ?_⟩⟩
  have e37 := e36.trans e7
  refine ⟨_, rfl, _, rfl, sv, ov, U, rfl, hS.mono (e6.trans e7), hU.mono e37, okU, fun H8 e8 => ⟨_, rfl, ifF rfl ?_⟩⟩
  have e38 := e37.trans e8
  have B8 := B3.mono e38
  have hT8 := hT.mono (e5.trans (e6.trans (e7.trans e8)))
  have hS8 := hS.mono (e6.trans (e7.trans e8))
  have hG8 := hG.mono (e7.trans e8)
  have hR8 := hR.mono e38
  have hU8 := hU.mono e38
  refine ⟨_, rfl, _, rfl, _, rfl, b, z, tv, rv, R, rfl, B8, hT8, hR8, ok, fun H9 e9 B9 => ⟨_, rfl, ifF rfl ?_⟩⟩
  have hT9 := hT8.exB B8 e9
  have hS9 := hS8.exB B8 e9
  have hG9 := hG8.exB B8 e9
  have hR9 := hR8.exB B8 e9
  have hU9 := hU8.exB B8 e9
  refine ⟨_, rfl, _, rfl, _, rfl, tv, rv, _, R, rfl, hT9, hR9, hG9, ok, fun HA eA => ⟨_, rfl, ifF rfl ?_⟩⟩
  refine ⟨_, rfl, _, rfl, _, rfl, ov, U, rfl, hU9.mono eA, okU, fun p2 HB np2 eB hG2 => ⟨sv, ov, _, U, rfl, hS9.mono (eA.trans eB), hU9.mono (eA.trans eB), hG2, okU, fun HC eC => ⟨_, rfl, ifF rfl ?_⟩⟩⟩
  have e9C := eA.trans (eB.trans eC)
  have BC := B9.mono e9C
  refine ⟨_, rfl, _, rfl, _, rfl, _, rfl, b, z, tv, rv, _, R, rfl, BC, hT9.mono e9C, hR9.mono e9C, hG9.mono e9C, ok, fun HD eD BD => ⟨_, rfl, ifF rfl ?_⟩⟩
  have hTD := (hT9.mono e9C).exB BC eD
  have hRD := (hR9.mono e9C).exB BC eD
  have sl := silL_len ok.wf.len
  obtain ⟨ta, dx, st, rfl, ha, _⟩ := id hTD
  refine ⟨_, rfl, ta, dx, _, rfl, ha, rfl, _, R, rfl, hTD, ok, fun p3 cs HE np3 eE hp3 hc3 => ⟨_, rfl, rv, R, rfl, hRD.mono eE, ok, fun p4 cs4 HF np4 eF hp4 hc4 => ⟨_, _, dE R.silL, rfl, dp_LE (LE.mono eF ⟨p3, cs, rfl, hp3, hc3⟩), dp_LE ⟨p4, cs4, rfl, hp4, hc4⟩, sm_dE (by omega), fun HG eG => q HG⟩⟩⟩
end
end K38
end
section
set_option Elab.async false
set_option linter.all false
set_option maxRecDepth 100000
set_option maxHeartbeats 0
/-! The end: the head, the facts, the law. -/
namespace K38
open PySem PySem.Spec PyProof.Rows L2
theorem cx_no {P : Program} {w : World} (H : Hp) (s : Shared) (e : Value) (s' : Shared) (h : L2.CX P w [] H s (fun _ _ _ => False) e s') : False := by
  obtain ⟨_, _, _, _, _, _, _, _, _, _, _, _, z⟩ := h
  exact z
theorem law_at {P : Program} {w : World} {K : PySem.W.Frag} {h : Heap} {mg : Str → Option Value} {f : Addr} (X : K.In h) (G : h.Ns mainGlobals mg) (hf : mg ("law" : Str) = some (.ref f)) (c : SaysK K)
    (pf : ((P.main.file : Str) == ("/claim/cut.py" : Str)) = true) (ps : (P.main.scope.names.lookup ("super" : Str)).isSome = false) :
    ∃ fd : FuncData, (∀ (s : Shared) (u : Value), BindsTo s fd ⟨[u], []⟩ [("_law_script", u)]) ∧ ∀ base : Heap, K.In base → base.Ns mainGlobals mg → FnOk P w K mg base (L2.CX P w) 12 f fd ["_law_script"] (sp_law K) := by
  have T : Wd P K mg := ⟨⟨⟨h, X, G⟩, c.c, c.ex, c.ob⟩, pf, ps⟩
  obtain ⟨fd, F⟩ := T.toTop.f_law
  have e := hf.symm.trans T.toTop.g_law
  cases e
  have b := FunD.bindsA (ps := ["_law_script"]) F fun _ _ _ _ _ _ us hl => match us, hl with | [_], _ => rfl
  exact ⟨fd, fun s v => b s [v] rfl, fun base _ _ => ok_law T fd F⟩
theorem fileR : ((RR.prog.main.file : Str) == ("/claim/cut.py" : Str)) = true := by kernel_rfl
theorem superR : (RR.prog.main.scope.names.lookup ("super" : Str)).isSome = false := by kernel_rfl
end K38
open PySem PySem.W PySem.Calls PyProof.Rows
theorem PySem.Challenge.cw_quorumdrift_k38_whole_silent_edits_holds : PySem.Challenge.rw_quorumdrift_k38_whole_silent_edits.Holds := by
  w_on; o_law
  refine HandSHeadRun.head_any (r := K38.RR) (q := view K38.RR.prog [77]) (H := K38.hookK) (ob := K38.obT) (M := 40000) (loose := K38.names) (d := HandSHeadRun.topDef K38.RR.prog 77) (kwd := []) K38.obT_eq
    (by kernel_rfl) (fun s => by kernel_rfl) K38.run (by kernel_rfl) (by kernel_rfl) (by kernel_rfl) (by rfl) (by first | assumption | decide +kernel) (by decide +kernel) ⟨rfl, rfl, rfl, rfl, rfl, by decide +kernel⟩ ?hw ?hc
  case hw => w_witness2
  case hc =>
    refine LamX.walk_ofTsE (l := PySem.Challenge.rw_quorumdrift_k38_whole_silent_edits) (n := 63) (k := 12) (x := "_law_script") (CX := fun w => L2.CX K38.RR.prog w) rfl (by decide) (by kernel_rfl) ⟨rfl, by decide, by decide⟩ ?F (fun _ H s e s' z => K38.cx_no H s e s' z)
    intro w mg fa h Y G hmg0
    obtain ⟨K, KX, c⟩ := Y
    have hmg : mg ("law" : PySem.Str) = some (.ref fa) := by
      have e : (HandSHeadRun.topDef K38.RR.prog 77).name = ("law" : PySem.Str) := by kernel_rfl
      rw [← e]
      exact hmg0
    obtain ⟨fd, hb, hF⟩ := K38.law_at (P := K38.RR.prog) (w := w) KX G hmg c K38.fileR K38.superR
    exact ⟨K, KX, fd, [], K38.sp_law K, (fun _ z => by cases z), (fun _ z => by cases z), (fun _ z => by cases z), hb, fun H a ns hl _ _ hS => ⟨a, ns, rfl, hS, fun _ => rfl⟩, fun base h1 h2 _ => hF base h1 h2⟩
end
