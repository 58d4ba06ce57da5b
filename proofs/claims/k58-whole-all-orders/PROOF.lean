import PyProof.Rows.All
import Wide.All
import OpenK.AllK
import Wide.FinOn
import HandS.ForMost
import HandS.Evl
import HandS.IsInst
import HandS.DictComp
import HandS.Style
import HandS.TupAny
import HandS.TupSets
import HandS.Flow
import HandS.More
import KE.KeyNested
import KE.DataMinMax
import KE.GoesEnum
import KE.SortData
import PySem.Challenge.RW_buildroom_k58_whole_all_orders
section
set_option autoImplicit false
set_option linter.all false
namespace Mx
/-! ## Lists of numbers -/
def maxL : List Nat → Nat
  | [] => 0
  | x :: r => max x (maxL r)
def minL : List Nat → Nat
  | [] => 0
  | [x] => x
  | x :: y :: r => min x (minL (y :: r))
theorem le_maxL : ∀ {l : List Nat} {x : Nat}, x ∈ l → x ≤ maxL l
  | a :: r, x, h => by
    rcases List.mem_cons.mp h with rfl | h
    · exact Nat.le_max_left _ _
    · exact Nat.le_trans (le_maxL h) (Nat.le_max_right _ _)
theorem maxL_le : ∀ {l : List Nat} {m : Nat}, (∀ x ∈ l, x ≤ m) → maxL l ≤ m
  | [], _, _ => Nat.zero_le _
  | a :: r, m, h => Nat.max_le.mpr ⟨h a (by simp), maxL_le fun x hx => h x (List.mem_cons_of_mem _ hx)⟩
theorem maxL_mem : ∀ {l : List Nat}, l ≠ [] → maxL l ∈ l
  | [x], _ => by simp [maxL]
  | x :: y :: r, _ => by
    have ih := maxL_mem (l := y :: r) (by simp)
    show max x (maxL (y :: r)) ∈ x :: y :: r
    by_cases h : x ≤ maxL (y :: r)
    · rw [Nat.max_eq_right h]; exact List.mem_cons_of_mem _ ih
    · rw [Nat.max_eq_left (by omega)]; exact List.mem_cons_self
theorem maxL_eq {l : List Nat} {m : Nat} (hm : m ∈ l) (h : ∀ x ∈ l, x ≤ m) : m = maxL l := Nat.le_antisymm (le_maxL hm) (maxL_le h)
theorem minL_le : ∀ {l : List Nat} {x : Nat}, x ∈ l → minL l ≤ x
  | [a], x, h => by simp at h; subst h; exact Nat.le_refl _
  | a :: b :: r, x, h => by
    show min a (minL (b :: r)) ≤ x
    rcases List.mem_cons.mp h with rfl | h
    · exact Nat.min_le_left _ _
    · exact Nat.le_trans (Nat.min_le_right _ _) (minL_le h)
theorem minL_mem : ∀ {l : List Nat}, l ≠ [] → minL l ∈ l
  | [x], _ => by simp [minL]
  | x :: y :: r, _ => by
    have ih := minL_mem (l := y :: r) (by simp)
    show min x (minL (y :: r)) ∈ x :: y :: r
    by_cases h : x ≤ minL (y :: r)
    · rw [Nat.min_eq_left h]; exact List.mem_cons_self
    · rw [Nat.min_eq_right (by omega)]; exact List.mem_cons_of_mem _ ih
theorem minL_eq {l : List Nat} {m : Nat} (hm : m ∈ l) (h : ∀ x ∈ l, m ≤ x) : m = minL l :=
  Nat.le_antisymm (h _ (minL_mem (List.ne_nil_of_mem hm))) (minL_le hm)
/-- sums over lists: a part is no more than the whole -/
theorem sum_map_le {f g : Nat → Nat} : ∀ {l : List Nat}, (∀ x ∈ l, f x ≤ g x) → (l.map f).sum ≤ (l.map g).sum
  | [], _ => Nat.le_refl _
  | a :: r, h => by
    rw [List.map_cons, List.map_cons, List.sum_cons, List.sum_cons]
    exact Nat.add_le_add (h a (by simp)) (sum_map_le fun x hx => h x (List.mem_cons_of_mem _ hx))
theorem sum_erase (f : Nat → Nat) : ∀ {l : List Nat} {a : Nat}, a ∈ l → (l.map f).sum = f a + ((l.erase a).map f).sum
  | b :: r, a, h => by
    rw [List.map_cons, List.sum_cons, List.erase_cons]
    by_cases e : b = a
    · subst e; simp
    · have ha : a ∈ r := by
        rcases List.mem_cons.mp h with q | q
        · exact absurd q.symm e
        · exact q
      have eb : (b == a) = false := by simp [e]
      rw [eb, sum_erase f ha]
      simp only [Bool.false_eq_true, if_false, List.map_cons, List.sum_cons]
      omega
theorem sum_sub (f : Nat → Nat) : ∀ {A B : List Nat}, A.Nodup → (∀ x ∈ A, x ∈ B) → (A.map f).sum ≤ (B.map f).sum
  | [], _, _, _ => by simp
  | a :: A, B, hn, h => by
    obtain ⟨h1, h2⟩ := List.nodup_cons.mp hn
    have ha := h a (by simp)
    rw [List.map_cons, List.sum_cons, sum_erase f ha]
    refine Nat.add_le_add_left (sum_sub f h2 fun x hx => ?_) _
    have hne : x ≠ a := fun e => h1 (by rw [← e]; exact hx)
    exact (List.mem_erase_of_ne hne).mpr (h x (List.mem_cons_of_mem _ hx))
theorem sum_ones : ∀ l : List Nat, (l.map fun _ => 1).sum = l.length
  | [] => rfl
  | a :: r => by rw [List.map_cons, List.sum_cons, sum_ones r, List.length_cons]; omega
theorem len_sub {A B : List Nat} (hn : A.Nodup) (h : ∀ x ∈ A, x ∈ B) : A.length ≤ B.length := by
  have q := sum_sub (fun _ => 1) hn h
  rw [sum_ones, sum_ones] at q
  exact q
theorem len_lt {A B : List Nat} {b : Nat} (hn : A.Nodup) (h : ∀ x ∈ A, x ∈ B) (hb : b ∈ B) (hA : b ∉ A) : A.length < B.length := by
  have q := len_sub (A := b :: A) (List.nodup_cons.mpr ⟨hA, hn⟩) (B := B) fun x hx => by
    rcases List.mem_cons.mp hx with rfl | hx
    · exact hb
    · exact h x hx
  rw [List.length_cons] at q
  exact q
/-- a short list without doubles below n lacks one -/
theorem lacks {l : List Nat} {n : Nat} (h : l.length < n) : ∃ j, j < n ∧ j ∉ l := by
  apply Classical.byContradiction
  intro hc
  have all : ∀ j ∈ List.range n, j ∈ l := fun j hj => Classical.byContradiction fun q => hc ⟨j, List.mem_range.mp hj, q⟩
  have q := len_sub (A := List.range n) (B := l) List.nodup_range all
  rw [List.length_range] at q
  omega
theorem lacks_min {l : List Nat} {n : Nat} (g : Nat → Nat) (h : l.length < n) : ∃ j, j < n ∧ j ∉ l ∧ ∀ q, q < n → q ∉ l → g j ≤ g q := by
  obtain ⟨j0, hj0, hl0⟩ := lacks h
  have key : ∀ (k : Nat) (j : Nat), g j ≤ k → j < n → j ∉ l → ∃ j, j < n ∧ j ∉ l ∧ ∀ q, q < n → q ∉ l → g j ≤ g q := by
    intro k
    induction k with
    | zero => intro j hk hj hl; exact ⟨j, hj, hl, fun q _ _ => by omega⟩
    | succ k ih =>
      intro j hk hj hl
      by_cases c : ∃ q, q < n ∧ q ∉ l ∧ g q < g j
      · obtain ⟨q, h1, h2, h3⟩ := c
        exact ih q (by omega) h1 h2
      · exact ⟨j, hj, hl, fun q h1 h2 => Nat.le_of_not_lt fun h3 => c ⟨q, h1, h2, h3⟩⟩
  exact key (g j0) j0 (Nat.le_refl _) hj0 hl0

/-! ## Plans and begins -/
structure Job where
  len : Nat
  needs : List Nat
  room : Nat
  deriving DecidableEq
abbrev Plan := List Job
abbrev Beg := List (Nat × Nat)
def jb (p : Plan) (j : Nat) : Job := p.getD j ⟨0, [], 0⟩
abbrev ln (p : Plan) (j : Nat) : Nat := (jb p j).len
abbrev nd (p : Plan) (j : Nat) : List Nat := (jb p j).needs
abbrev rm (p : Plan) (j : Nat) : Nat := (jb p j).room
def look (b : Beg) (j : Nat) : Option Nat := (b.find? fun q => decide (q.1 = j)).map (·.2)
def T (b : Beg) (j : Nat) : Nat := (look b j).getD 0
def ks (b : Beg) : List Nat := b.map (·.1)
def has (b : Beg) (j : Nat) : Bool := (look b j).isSome
theorem look_none : ∀ {b : Beg} {j : Nat}, j ∉ ks b → look b j = none
  | [], _, _ => rfl
  | q :: r, j, h => by
    have h1 : ¬ q.1 = j := fun e => h (by simp [ks, e])
    have h2 : j ∉ ks r := fun m => h (List.mem_cons_of_mem _ m)
    have ih := look_none h2
    unfold look at ih ⊢
    rw [List.find?_cons, decide_eq_false h1]
    exact ih
theorem look_some : ∀ {b : Beg} {j : Nat}, j ∈ ks b → ∃ m, look b j = some m
  | q :: r, j, h => by
    by_cases e : q.1 = j
    · exact ⟨q.2, by unfold look; rw [List.find?_cons, decide_eq_true e]; rfl⟩
    · have h2 : j ∈ ks r := by
        rcases List.mem_cons.mp h with z | z
        · exact absurd z.symm e
        · exact z
      obtain ⟨m, hm⟩ := look_some h2
      refine ⟨m, ?_⟩
      unfold look at hm ⊢
      rw [List.find?_cons, decide_eq_false e]
      exact hm
theorem has_iff {b : Beg} {j : Nat} : has b j = true ↔ j ∈ ks b := by
  constructor
  · intro h
    apply Classical.byContradiction
    intro q
    unfold has at h
    rw [look_none q] at h
    cases h
  · intro h
    obtain ⟨m, hm⟩ := look_some h
    unfold has
    rw [hm]; rfl
theorem has_false {b : Beg} {j : Nat} : has b j = false ↔ j ∉ ks b := by
  rw [← has_iff]; cases has b j <;> simp
theorem look_T {b : Beg} {j : Nat} (h : j ∈ ks b) : look b j = some (T b j) := by
  obtain ⟨m, hm⟩ := look_some h
  unfold T
  rw [hm]; rfl
theorem look_app {b : Beg} {j m o : Nat} (h : j ∉ ks b) : look (b ++ [(j, m)]) o = if o = j then some m else look b o := by
  by_cases e : o = j
  · subst e
    rw [if_pos rfl]
    have h1 := look_none h
    unfold look at h1 ⊢
    rw [List.find?_append, Option.map_eq_none_iff.mp h1]
    simp
  · rw [if_neg e]
    unfold look
    rw [List.find?_append]
    cases hb : b.find? fun q => decide (q.1 = o) with
    | some q => rfl
    | none =>
      have e' : ¬ j = o := fun z => e z.symm
      simp [e']
theorem ks_app {b : Beg} {j m : Nat} : ks (b ++ [(j, m)]) = ks b ++ [j] := by simp [ks]
theorem T_app_ne {b : Beg} {j m o : Nat} (h : j ∉ ks b) (e : o ≠ j) : T (b ++ [(j, m)]) o = T b o := by
  unfold T; rw [look_app h, if_neg e]
theorem T_app_eq {b : Beg} {j m : Nat} (h : j ∉ ks b) : T (b ++ [(j, m)]) j = m := by
  unfold T; rw [look_app h, if_pos rfl]; rfl
theorem T_app_in {b : Beg} {j m o : Nat} (h : j ∉ ks b) (ho : o ∈ ks b) : T (b ++ [(j, m)]) o = T b o := T_app_ne h fun e => h (e ▸ ho)
theorem ks_len (b : Beg) : (ks b).length = b.length := by simp [ks]

/-! ## What the program tells of begins -/
def runs (p : Plan) (b : Beg) (m j : Nat) : Bool := decide (T b j ≤ m) && decide (m < T b j + ln p j)
def running (p : Plan) (b : Beg) (m : Nat) : Nat := ((ks b).filter (runs p b m)).length
def rooms (p : Plan) (b : Beg) (m : Nat) : Nat := (((ks b).filter (runs p b m)).map (rm p)).sum
def later (p : Plan) (b : Beg) (j m o : Nat) : Bool := decide (m < T b o) && decide (T b o < m + ln p j)
def spots (p : Plan) (b : Beg) (j m : Nat) : List Nat := m :: ((ks b).filter (later p b j m)).map (T b)
def spotOk (p : Plan) (b : Beg) (j M R s : Nat) : Bool := !(decide (M ≤ running p b s) || decide (R < rooms p b s + rm p j))
def canBegin (p : Plan) (b : Beg) (j m M R : Nat) : Bool := (spots p b j m).all (spotOk p b j M R)
def fin (p : Plan) (b : Beg) (o : Nat) : Nat := T b o + ln p o
def ready (p : Plan) (b : Beg) (j : Nat) : Nat := maxL (0 :: (nd p j).map (fin p b))
def moments (p : Plan) (b : Beg) (j : Nat) : List Nat := ready p b j :: ((ks b).filter fun o => decide (ready p b j < fin p b o)).map (fin p b)
def fits (p : Plan) (b : Beg) (j M R : Nat) : List Nat := (moments p b j).filter fun m => canBegin p b j m M R
def firstBegin (p : Plan) (b : Beg) (j M R : Nat) : Nat := minL (fits p b j M R)
def planEnd (p : Plan) (b : Beg) : Nat := maxL ((ks b).map (fin p b))
def planFits (p : Plan) (R : Nat) : Bool := p.all fun j => decide (j.room ≤ R)
theorem running_eq (p : Plan) (b : Beg) (m : Nat) : running p b m = (((ks b).filter (runs p b m)).map fun _ => 1).sum := (sum_ones _).symm
structure PlanOk (p : Plan) : Prop where
  lo : 1 ≤ p.length
  hi : p.length ≤ 6
  len : ∀ j, j < p.length → 1 ≤ ln p j ∧ ln p j ≤ 9
  needs : ∀ j, j < p.length → (nd p j).Pairwise (· < ·) ∧ ∀ o ∈ nd p j, o < j
  room : ∀ j, j < p.length → rm p j ≤ 9
theorem fits_room {p : Plan} {R : Nat} (h : planFits p R = true) {j : Nat} (hj : j < p.length) : rm p j ≤ R := by
  unfold planFits at h
  rw [List.all_eq_true] at h
  have e : jb p j = p[j] := by unfold jb; rw [List.getD_eq_getElem?_getD, List.getElem?_eq_getElem hj]; rfl
  have q := h p[j] (List.getElem_mem hj)
  show (jb p j).room ≤ R
  rw [e]
  exact of_decide_eq_true q
/-- nothing runs when all have ended -/
theorem idle {p : Plan} {b : Beg} {t : Nat} (h : ∀ o ∈ ks b, fin p b o ≤ t) : (ks b).filter (runs p b t) = [] := by
  rw [List.filter_eq_nil_iff]
  intro o ho hr
  have q := h o ho
  unfold runs at hr
  simp only [Bool.and_eq_true, decide_eq_true_eq] at hr
  unfold fin at q
  omega
theorem fits_ne {p : Plan} {b : Beg} {j M R : Nat} (hM : 1 ≤ M) (hR : rm p j ≤ R) : fits p b j M R ≠ [] := by
  have hm : maxL (moments p b j) ∈ moments p b j := maxL_mem (by simp [moments])
  have key : ∀ s, maxL (moments p b j) ≤ s → spotOk p b j M R s = true := fun s hs => by
    have e := idle (p := p) (b := b) (t := s) fun o ho => by
      by_cases c : ready p b j < fin p b o
      · refine Nat.le_trans (le_maxL (l := moments p b j) (List.mem_cons_of_mem _ ?_)) hs
        exact List.mem_map.mpr ⟨o, List.mem_filter.mpr ⟨ho, by simp [c]⟩, rfl⟩
      · have : ready p b j ≤ maxL (moments p b j) := le_maxL (by simp [moments])
        omega
    unfold spotOk running rooms
    rw [e]
    simp
    omega
  refine List.ne_nil_of_mem (a := maxL (moments p b j)) (List.mem_filter.mpr ⟨hm, ?_⟩)
  unfold canBegin
  rw [List.all_eq_true]
  intro s hs
  refine key s ?_
  rcases List.mem_cons.mp hs with rfl | hs
  · exact Nat.le_refl _
  · obtain ⟨o, ho, rfl⟩ := List.mem_map.mp hs
    have := (List.mem_filter.mp ho).2
    unfold later at this
    simp only [Bool.and_eq_true, decide_eq_true_eq] at this
    omega
theorem first_in {p : Plan} {b : Beg} {j M R : Nat} (hM : 1 ≤ M) (hR : rm p j ≤ R) : firstBegin p b j M R ∈ fits p b j M R := minL_mem (fits_ne hM hR)
end Mx
end

section
set_option autoImplicit false
set_option linter.all false
namespace Mx
/-! ## One moment of a list: the program's and the law's -/
def readyAt (p : Plan) (b : Beg) (j m : Nat) : Bool := (nd p j).all fun o => has b o && decide (fin p b o ≤ m)
def acc (p : Plan) (M R m : Nat) (b : Beg) (j : Nat) : Bool := readyAt p b j m && canBegin p b j m M R
def stepP (p : Plan) (M R m : Nat) (b : Beg) (j : Nat) : Beg := if has b j = true then b else if acc p M R m b j = true then b ++ [(j, m)] else b
def sweep (p : Plan) (M R m : Nat) (order : List Nat) (b : Beg) : Beg := order.foldl (stepP p M R m) b
/-- the law's: all that have begun can run -/
def fitAt (p : Plan) (b : Beg) (M R j : Nat) : Bool :=
  (nd p j).all (fun o => !(!(has b o) || decide (T b j < fin p b o))) && !(decide (M < running p b (T b j)) || decide (R < rooms p b (T b j)))
def fit (p : Plan) (b : Beg) (M R : Nat) : Bool := (ks b).all fun j => fitAt p b M R j
def stepL (p : Plan) (M R m : Nat) (b : Beg) (j : Nat) : Beg := if has b j = true then b else if fit p (b ++ [(j, m)]) M R = true then b ++ [(j, m)] else b
def sweepL (p : Plan) (M R m : Nat) (order : List Nat) (b : Beg) : Beg := order.foldl (stepL p M R m) b

structure LI (p : Plan) (M R m : Nat) (b : Beg) : Prop where
  nd : (ks b).Nodup
  lt : ∀ o ∈ ks b, o < p.length
  le : ∀ o ∈ ks b, T b o ≤ m
  ok : fit p b M R = true
theorem LI.nil {p : Plan} {M R m : Nat} : LI p M R m [] := ⟨List.nodup_nil, (fun _ h => nomatch h), (fun _ h => nomatch h), rfl⟩
theorem LI.mono {p : Plan} {M R m m' : Nat} {b : Beg} (h : LI p M R m b) (e : m ≤ m') : LI p M R m' b := ⟨h.nd, h.lt, fun o ho => Nat.le_trans (h.le o ho) e, h.ok⟩

theorem runs_app_in {p : Plan} {b : Beg} {j m t o : Nat} (hj : j ∉ ks b) (ho : o ∈ ks b) : runs p (b ++ [(j, m)]) t o = runs p b t o := by
  unfold runs; rw [T_app_in hj ho]
theorem runs_app_new {p : Plan} {b : Beg} {j m t : Nat} (hj : j ∉ ks b) : runs p (b ++ [(j, m)]) t j = (decide (m ≤ t) && decide (t < m + ln p j)) := by
  unfold runs; rw [T_app_eq hj]
theorem filter_app {p : Plan} {b : Beg} {j m t : Nat} (hj : j ∉ ks b) :
    (ks (b ++ [(j, m)])).filter (runs p (b ++ [(j, m)]) t) = (ks b).filter (runs p b t) ++ (if (decide (m ≤ t) && decide (t < m + ln p j)) = true then [j] else []) := by
  rw [ks_app, List.filter_append]
  congr 1
  · exact List.filter_congr fun o ho => runs_app_in hj ho
  · rw [List.filter_cons, runs_app_new hj]
    rfl
theorem running_app {p : Plan} {b : Beg} {j m t : Nat} (hj : j ∉ ks b) : running p (b ++ [(j, m)]) t = running p b t + (if (decide (m ≤ t) && decide (t < m + ln p j)) = true then 1 else 0) := by
  unfold running
  rw [filter_app hj, List.length_append]
  split <;> rfl
theorem rooms_app {p : Plan} {b : Beg} {j m t : Nat} (hj : j ∉ ks b) : rooms p (b ++ [(j, m)]) t = rooms p b t + (if (decide (m ≤ t) && decide (t < m + ln p j)) = true then rm p j else 0) := by
  unfold rooms
  rw [filter_app hj, List.map_append, List.sum_append]
  split <;> simp
theorem fin_app_in {p : Plan} {b : Beg} {j m o : Nat} (hj : j ∉ ks b) (ho : o ∈ ks b) : fin p (b ++ [(j, m)]) o = fin p b o := by unfold fin; rw [T_app_in hj ho]
theorem fin_app_new {p : Plan} {b : Beg} {j m : Nat} (hj : j ∉ ks b) : fin p (b ++ [(j, m)]) j = m + ln p j := by unfold fin; rw [T_app_eq hj]
theorem has_app_in {b : Beg} {j m o : Nat} (ho : o ∈ ks b) : has (b ++ [(j, m)]) o = true := has_iff.mpr (by rw [ks_app]; exact List.mem_append_left _ ho)
theorem has_app_ne {b : Beg} {j m o : Nat} (e : o ≠ j) : has (b ++ [(j, m)]) o = has b o := by
  cases h : has b o with
  | true => exact has_app_in (has_iff.mp h)
  | false =>
    rw [has_false] at h ⊢
    rw [ks_app]
    intro q
    rcases List.mem_append.mp q with q | q
    · exact h q
    · exact e (List.mem_singleton.mp q)

theorem fitAt_iff {p : Plan} {b : Beg} {M R j : Nat} : fitAt p b M R j = true ↔ (∀ o ∈ nd p j, o ∈ ks b ∧ fin p b o ≤ T b j) ∧ running p b (T b j) ≤ M ∧ rooms p b (T b j) ≤ R := by
  unfold fitAt
  simp only [Bool.and_eq_true, List.all_eq_true, Bool.not_eq_true', Bool.or_eq_false_iff, decide_eq_false_iff_not, Bool.not_eq_false', Nat.not_lt, has_iff]
theorem readyAt_iff {p : Plan} {b : Beg} {j m : Nat} : readyAt p b j m = true ↔ ∀ o ∈ nd p j, o ∈ ks b ∧ fin p b o ≤ m := by
  unfold readyAt
  simp only [Bool.and_eq_true, List.all_eq_true, decide_eq_true_eq, has_iff]
theorem spotOk_iff {p : Plan} {b : Beg} {j M R s : Nat} : spotOk p b j M R s = true ↔ running p b s < M ∧ rooms p b s + rm p j ≤ R := by
  unfold spotOk
  simp only [Bool.not_eq_true', Bool.or_eq_false_iff, decide_eq_false_iff_not, Nat.not_lt, Nat.not_le]
/-- no begin lies behind m: there is but one spot -/
theorem canBegin_last {p : Plan} {b : Beg} {j m M R : Nat} (h : ∀ o ∈ ks b, T b o ≤ m) : canBegin p b j m M R = spotOk p b j M R m := by
  have e : (ks b).filter (later p b j m) = [] := by
    rw [List.filter_eq_nil_iff]
    intro o ho hl
    have q := h o ho
    unfold later at hl
    simp only [Bool.and_eq_true, decide_eq_true_eq] at hl
    omega
  unfold canBegin spots
  rw [e]
  simp
section
variable {p : Plan} {M R m : Nat} {b : Beg}
theorem fit_step (hp : PlanOk p) (I : LI p M R m b) {j : Nat} (hj : j < p.length) (hb : j ∉ ks b) : fit p (b ++ [(j, m)]) M R = acc p M R m b j := by
  have hl := (hp.len j hj).1
  have old := I.ok
  unfold fit at old
  rw [List.all_eq_true] at old
  have selfr : (decide (m ≤ m) && decide (m < m + ln p j)) = true := by simp; omega
  rw [Bool.eq_iff_iff]
  unfold acc
  rw [Bool.and_eq_true, readyAt_iff, canBegin_last I.le, spotOk_iff]
  unfold fit
  rw [List.all_eq_true]
  constructor
  · intro h
    have hjj := fitAt_iff.mp (h j (by rw [ks_app]; simp))
    rw [T_app_eq hb, running_app hb, rooms_app hb, if_pos selfr, if_pos selfr] at hjj
    obtain ⟨h1, h2, h3⟩ := hjj
    refine ⟨fun o ho => ?_, by omega, h3⟩
    have hlt := (hp.needs j hj).2 o ho
    obtain ⟨q1, q2⟩ := h1 o ho
    have hoj : o ≠ j := by omega
    have ho2 : o ∈ ks b := by
      rw [ks_app] at q1
      rcases List.mem_append.mp q1 with q | q
      · exact q
      · exact absurd (List.mem_singleton.mp q) hoj
    rw [fin_app_in hb ho2] at q2
    exact ⟨ho2, q2⟩
  · rintro ⟨h1, h2, h3⟩ o ho
    rw [fitAt_iff]
    rw [ks_app] at ho
    rcases List.mem_append.mp ho with ho | ho
    · obtain ⟨g1, g2, g3⟩ := fitAt_iff.mp (old o ho)
      rw [T_app_in hb ho, running_app hb, rooms_app hb]
      refine ⟨fun q hq => ?_, ?_⟩
      · obtain ⟨z1, z2⟩ := g1 q hq
        exact ⟨by rw [ks_app]; exact List.mem_append_left _ z1, by rw [fin_app_in hb z1]; exact z2⟩
      · by_cases c : m ≤ T b o
        · have e : T b o = m := Nat.le_antisymm (I.le o ho) c
          rw [e, if_pos selfr, if_pos selfr]
          omega
        · rw [if_neg (by simp; omega), if_neg (by simp; omega)]
          exact ⟨by omega, by omega⟩
    · have e := List.mem_singleton.mp ho
      subst e
      rw [T_app_eq hb, running_app hb, rooms_app hb, if_pos selfr, if_pos selfr]
      refine ⟨fun q hq => ?_, by omega, h3⟩
      obtain ⟨z1, z2⟩ := h1 q hq
      exact ⟨by rw [ks_app]; exact List.mem_append_left _ z1, by rw [fin_app_in hb z1]; exact z2⟩
theorem step_eq (hp : PlanOk p) (I : LI p M R m b) {j : Nat} (hj : j < p.length) : stepL p M R m b j = stepP p M R m b j := by
  unfold stepL stepP
  cases h : has b j with
  | true => rfl
  | false =>
    simp only [Bool.false_eq_true, if_false]
    rw [fit_step hp I hj (has_false.mp h)]
theorem LI.app (hp : PlanOk p) (I : LI p M R m b) {j : Nat} (hj : j < p.length) (hb : j ∉ ks b) (ha : acc p M R m b j = true) : LI p M R m (b ++ [(j, m)]) := by
  refine ⟨?_, fun o ho => ?_, fun o ho => ?_, by rw [fit_step hp I hj hb]; exact ha⟩
  · rw [ks_app]
    refine List.nodup_append.mpr ⟨I.nd, by simp, fun a ha c hc => ?_⟩
    rw [List.mem_singleton.mp hc]
    exact fun e => hb (e ▸ ha)
  · rw [ks_app] at ho
    rcases List.mem_append.mp ho with ho | ho
    · exact I.lt o ho
    · rw [List.mem_singleton.mp ho]; exact hj
  · rw [ks_app] at ho
    rcases List.mem_append.mp ho with ho | ho
    · rw [T_app_in hb ho]; exact I.le o ho
    · rw [List.mem_singleton.mp ho, T_app_eq hb]; exact Nat.le_refl _
theorem LI.step (hp : PlanOk p) (I : LI p M R m b) {j : Nat} (hj : j < p.length) : LI p M R m (stepP p M R m b j) := by
  unfold stepP
  cases h : has b j with
  | true => exact I
  | false =>
    simp only [Bool.false_eq_true, if_false]
    split
    · exact I.app hp hj (has_false.mp h) (by assumption)
    · exact I
theorem LI.sweep (hp : PlanOk p) : ∀ {order : List Nat} {b : Beg}, (∀ j ∈ order, j < p.length) → LI p M R m b → LI p M R m (sweep p M R m order b)
  | [], _, _, I => I
  | j :: r, _, h, I => LI.sweep hp (order := r) (fun x hx => h x (List.mem_cons_of_mem _ hx)) (I.step hp (h j (by simp)))
theorem sweep_eq (hp : PlanOk p) : ∀ {order : List Nat} {b : Beg}, (∀ j ∈ order, j < p.length) → LI p M R m b → sweepL p M R m order b = sweep p M R m order b
  | [], _, _, _ => rfl
  | j :: r, b, h, I => by
    show sweepL p M R m r (stepL p M R m b j) = sweep p M R m r (stepP p M R m b j)
    rw [step_eq hp I (h j (by simp))]
    exact sweep_eq hp (fun x hx => h x (List.mem_cons_of_mem _ hx)) (I.step hp (h j (by simp)))
/-- refused stays refused -/
theorem acc_app (hp : PlanOk p) (I : LI p M R m b) {j o : Nat} (ho : o < p.length) (hb : o ∉ ks b) (hj : acc p M R m b j = false) : acc p M R m (b ++ [(o, m)]) j = false := by
  cases h : acc p M R m (b ++ [(o, m)]) j with
  | false => rfl
  | true =>
    exfalso
    unfold acc at h hj
    rw [Bool.and_eq_true, readyAt_iff] at h
    have le' : ∀ q ∈ ks (b ++ [(o, m)]), T (b ++ [(o, m)]) q ≤ m := fun q hq => by
      rw [ks_app] at hq
      rcases List.mem_append.mp hq with hq | hq
      · rw [T_app_in hb hq]; exact I.le q hq
      · rw [List.mem_singleton.mp hq, T_app_eq hb]; exact Nat.le_refl _
    rw [canBegin_last le', spotOk_iff, running_app hb, rooms_app hb] at h
    obtain ⟨h1, h2, h3⟩ := h
    have hl := (hp.len o ho).1
    have r1 : readyAt p b j m = true := readyAt_iff.mpr fun q hq => by
      obtain ⟨z1, z2⟩ := h1 q hq
      rw [ks_app] at z1
      rcases List.mem_append.mp z1 with z1 | z1
      · rw [fin_app_in hb z1] at z2
        exact ⟨z1, z2⟩
      · rw [List.mem_singleton.mp z1, fin_app_new hb] at z2
        have := (hp.len o ho).1
        omega
    rw [r1, Bool.true_and, canBegin_last I.le] at hj
    have r2 : spotOk p b j M R m = true := spotOk_iff.mpr ⟨by omega, by omega⟩
    rw [r2] at hj
    cases hj
/-- behind a sweep all that is not begun is refused -/
def Stuck (p : Plan) (M R m : Nat) (b : Beg) (l : List Nat) : Prop := ∀ j ∈ l, j ∉ ks b → acc p M R m b j = false
theorem Stuck.step (hp : PlanOk p) (I : LI p M R m b) {l : List Nat} {o : Nat} (ho : o < p.length) (s : Stuck p M R m b l) : Stuck p M R m (stepP p M R m b o) (l ++ [o]) := by
  unfold stepP
  cases h : has b o with
  | true =>
    simp only [if_true]
    intro j hj hb
    rcases List.mem_append.mp hj with hj | hj
    · exact s j hj hb
    · rw [List.mem_singleton.mp hj] at hb
      exact absurd (has_iff.mp h) hb
  | false =>
    simp only [Bool.false_eq_true, if_false]
    cases ha : acc p M R m b o with
    | true =>
      simp only [if_true]
      intro j hj hb
      rw [ks_app] at hb
      have hb1 : j ∉ ks b := fun q => hb (List.mem_append_left _ q)
      have hb2 : j ≠ o := fun q => hb (List.mem_append_right _ (by simp [q]))
      rcases List.mem_append.mp hj with hj | hj
      · exact acc_app hp I ho (has_false.mp h) (s j hj hb1)
      · exact absurd (List.mem_singleton.mp hj) hb2
    | false =>
      simp only [Bool.false_eq_true, if_false]
      intro j hj hb
      rcases List.mem_append.mp hj with hj | hj
      · exact s j hj hb
      · rw [List.mem_singleton.mp hj]; exact ha
theorem Stuck.sweep (hp : PlanOk p) : ∀ {order l : List Nat} {b : Beg}, (∀ j ∈ order, j < p.length) → LI p M R m b → Stuck p M R m b l → Stuck p M R m (sweep p M R m order b) (l ++ order)
  | [], l, b, _, _, s => by rw [List.append_nil]; exact s
  | o :: r, l, b, h, I, s => by
    have q := Stuck.sweep hp (order := r) (l := l ++ [o]) (fun x hx => h x (List.mem_cons_of_mem _ hx)) (I.step hp (h o (by simp))) (s.step hp I (h o (by simp)))
    rw [List.append_assoc] at q
    exact q
theorem stuck_sweep (hp : PlanOk p) {order : List Nat} (h : ∀ j ∈ order, j < p.length) (I : LI p M R m b) : Stuck p M R m (sweep p M R m order b) order := by
  have q := Stuck.sweep hp (l := []) h I (fun _ h => nomatch h)
  exact q
/-- nothing ends behind m up to t: what is refused at m is so at t -/
theorem stuck_later {t : Nat} {order : List Nat} (I : LI p M R m b) (hmt : m ≤ t) (he : ∀ o ∈ ks b, fin p b o ≤ m ∨ t < fin p b o) (s : Stuck p M R m b order) : Stuck p M R t b order := fun j hj hb => by
  have h := s j hj hb
  have hr : ∀ o ∈ ks b, runs p b t o = runs p b m o := fun o ho => by
    have h1 := I.le o ho
    have h2 := he o ho
    unfold fin at h2
    unfold runs
    rw [Bool.eq_iff_iff]
    simp only [Bool.and_eq_true, decide_eq_true_eq]
    omega
  have ef : (ks b).filter (runs p b t) = (ks b).filter (runs p b m) := List.filter_congr hr
  have er : readyAt p b j t = readyAt p b j m := by
    rw [Bool.eq_iff_iff, readyAt_iff, readyAt_iff]
    constructor
    · intro z o ho
      obtain ⟨z1, z2⟩ := z o ho
      exact ⟨z1, by have := he o z1; omega⟩
    · intro z o ho
      obtain ⟨z1, z2⟩ := z o ho
      exact ⟨z1, by omega⟩
  unfold acc at h ⊢
  rw [er, canBegin_last (fun o ho => Nat.le_trans (I.le o ho) hmt)]
  rw [canBegin_last I.le] at h
  unfold spotOk running rooms at h ⊢
  rw [ef]
  exact h
theorem sweep_none : ∀ {order : List Nat}, Stuck p M R m b order → sweep p M R m order b = b
  | [], _ => rfl
  | j :: r, s => by
    have e : stepP p M R m b j = b := by
      unfold stepP
      cases h : has b j with
      | true => rfl
      | false =>
        simp only [Bool.false_eq_true, if_false]
        rw [s j (by simp) (has_false.mp h)]
        rfl
    show sweep p M R m r (stepP p M R m b j) = b
    rw [e]
    exact sweep_none fun x hx => s x (List.mem_cons_of_mem _ hx)
/-- behind a sweep that does not end it, something runs -/
theorem stuck_runs (hp : PlanOk p) (hM : 1 ≤ M) (hR : planFits p R = true) {order : List Nat} (hall : ∀ j, j < p.length → j ∈ order) (I : LI p M R m b) (s : Stuck p M R m b order) (hs : b.length < p.length) : ∃ o ∈ ks b, m < fin p b o := by
  apply Classical.byContradiction
  intro hc
  have hc : ∀ o ∈ ks b, fin p b o ≤ m := fun o ho => Nat.le_of_not_lt fun q => hc ⟨o, ho, q⟩
  obtain ⟨j, hj, hb, hmin⟩ := lacks_min (l := ks b) (n := p.length) id (by rw [ks_len]; exact hs)
  have h := s j (hall j hj) hb
  unfold acc at h
  have r1 : readyAt p b j m = true := readyAt_iff.mpr fun o ho => by
    have hlt := (hp.needs j hj).2 o ho
    have hin : o ∈ ks b := Classical.byContradiction fun q => by
      have := hmin o (by omega) q
      simp at this
      omega
    exact ⟨hin, hc o hin⟩
  have r2 : spotOk p b j M R m = true := by
    unfold spotOk running rooms
    rw [idle hc]
    have := fits_room hR hj
    simp
    omega
  rw [r1, canBegin_last I.le, r2] at h
  cases h
end
/-! ## The whole list -/
def total (p : Plan) : Nat := ((List.range p.length).map (ln p)).sum
def sumLen (p : Plan) (b : Beg) : Nat := ((ks b).map (ln p)).sum
structure HI (p : Plan) (M R t : Nat) (b : Beg) : Prop extends LI p M R t b where
  top : planEnd p b ≤ sumLen p b
  soon : b.length < p.length → t ≤ sumLen p b
theorem planEnd_app {p : Plan} {b : Beg} {j m : Nat} (hb : j ∉ ks b) : planEnd p (b ++ [(j, m)]) ≤ max (planEnd p b) (m + ln p j) := by
  unfold planEnd
  refine maxL_le fun x hx => ?_
  obtain ⟨o, ho, rfl⟩ := List.mem_map.mp hx
  rw [ks_app] at ho
  rcases List.mem_append.mp ho with ho | ho
  · rw [fin_app_in hb ho]
    exact Nat.le_trans (le_maxL (List.mem_map.mpr ⟨o, ho, rfl⟩)) (Nat.le_max_left _ _)
  · rw [List.mem_singleton.mp ho, fin_app_new hb]
    exact Nat.le_max_right _ _
theorem sumLen_app {p : Plan} {b : Beg} {j m : Nat} : sumLen p (b ++ [(j, m)]) = sumLen p b + ln p j := by
  unfold sumLen
  rw [ks_app, List.map_append, List.sum_append]
  simp
theorem sumLen_le {p : Plan} {b : Beg} (hn : (ks b).Nodup) (hl : ∀ o ∈ ks b, o < p.length) : sumLen p b ≤ total p := sum_sub _ hn fun x hx => List.mem_range.mpr (hl x hx)
section
variable {p : Plan} {M R : Nat}
theorem top_step {m : Nat} {b : Beg} {j : Nat} (h1 : planEnd p b ≤ sumLen p b) (h2 : m ≤ sumLen p b) : planEnd p (stepP p M R m b j) ≤ sumLen p (stepP p M R m b j) ∧ m ≤ sumLen p (stepP p M R m b j) := by
  unfold stepP
  cases h : has b j with
  | true => exact ⟨h1, h2⟩
  | false =>
    simp only [Bool.false_eq_true, if_false]
    split
    · have := planEnd_app (p := p) (m := m) (has_false.mp h)
      rw [sumLen_app]
      omega
    · exact ⟨h1, h2⟩
theorem top_sweep {m : Nat} : ∀ {order : List Nat} {b : Beg}, planEnd p b ≤ sumLen p b → m ≤ sumLen p b → planEnd p (sweep p M R m order b) ≤ sumLen p (sweep p M R m order b)
  | [], _, h1, _ => h1
  | j :: r, _, h1, h2 => let q := top_step (M := M) (R := R) (j := j) h1 h2; top_sweep (order := r) q.1 q.2
theorem fin_le_end {b : Beg} {o : Nat} (ho : o ∈ ks b) : fin p b o ≤ planEnd p b := le_maxL (List.mem_map.mpr ⟨o, ho, rfl⟩)
def run (p : Plan) (M R : Nat) (order : List Nat) : Nat → Beg → Nat → Beg
  | 0, b, _ => b
  | k + 1, b, t => if b.length < p.length then run p M R order k (sweep p M R t order b) (t + 1) else b
structure Ord (p : Plan) (order : List Nat) : Prop where
  lt : ∀ j ∈ order, j < p.length
  all : ∀ j, j < p.length → j ∈ order
theorem HI.nil : HI p M R 0 [] := ⟨LI.nil, Nat.le_refl _, fun _ => Nat.zero_le _⟩
/-- one moment on (the law's step) -/
theorem HI.next (hp : PlanOk p) (hM : 1 ≤ M) (hR : planFits p R = true) {order : List Nat} (ho : Ord p order) {t : Nat} {b : Beg} (I : HI p M R t b) (hs : b.length < p.length) : HI p M R (t + 1) (sweep p M R t order b) := by
  have I1 := LI.sweep hp ho.lt I.toLI
  have h1 := top_sweep (M := M) (R := R) (order := order) I.top (I.soon hs)
  refine ⟨I1.mono (Nat.le_succ _), h1, fun hl => ?_⟩
  obtain ⟨o, hk, hf⟩ := stuck_runs hp hM hR ho.all I1 (stuck_sweep hp ho.lt I.toLI) hl
  have := fin_le_end (p := p) hk
  omega
theorem HI.tle {t : Nat} {b : Beg} (I : HI p M R t b) (hs : b.length < p.length) : t ≤ total p := Nat.le_trans (I.soon hs) (sumLen_le I.nd I.lt)
theorem run_done (hp : PlanOk p) (hM : 1 ≤ M) (hR : planFits p R = true) {order : List Nat} (ho : Ord p order) : ∀ (k t : Nat) (b : Beg), total p + 1 - t ≤ k → HI p M R t b → p.length ≤ (run p M R order k b t).length ∧ ∃ t', HI p M R t' (run p M R order k b t)
  | 0, t, b, hk, I => by
    refine ⟨Nat.le_of_not_lt fun hs => ?_, t, I⟩
    have := I.tle hs
    have hs : b.length < p.length := hs
    omega
  | k + 1, t, b, hk, I => by
    unfold run
    by_cases hs : b.length < p.length
    · rw [if_pos hs]
      exact run_done hp hM hR ho k (t + 1) _ (by omega) (I.next hp hM hR ho hs)
    · rw [if_neg hs]
      exact ⟨by omega, t, I⟩
/-- the begins by a list -/
def begins (p : Plan) (M R : Nat) (order : List Nat) : Beg := run p M R order (total p + 1) [] 0
def lend (p : Plan) (M R : Nat) (order : List Nat) : Nat := planEnd p (begins p M R order)
/-- THE LAW'S LOOP -/
structure LoopL (p : Plan) (M R : Nat) (order : List Nat) (t : Nat) (b : Beg) : Prop extends HI p M R t b where
  same : run p M R order (total p + 1 - t) b t = begins p M R order
theorem LoopL.nil {order : List Nat} : LoopL p M R order 0 [] := ⟨HI.nil, rfl⟩
theorem LoopL.next (hp : PlanOk p) (hM : 1 ≤ M) (hR : planFits p R = true) {order : List Nat} (ho : Ord p order) {t : Nat} {b : Beg} (I : LoopL p M R order t b) (hs : b.length < p.length) : LoopL p M R order (t + 1) (sweepL p M R t order b) := by
  rw [sweep_eq hp ho.lt I.toLI]
  refine ⟨I.toHI.next hp hM hR ho hs, ?_⟩
  have hle := I.toHI.tle hs
  have e : total p + 1 - t = (total p + 1 - (t + 1)) + 1 := by omega
  have q := I.same
  rw [e] at q
  unfold run at q
  rw [if_pos hs] at q
  exact q
theorem LoopL.done {order : List Nat} {t : Nat} {b : Beg} (I : LoopL p M R order t b) (hs : ¬ b.length < p.length) : b = begins p M R order := by
  have q := I.same
  cases e : total p + 1 - t with
  | zero => rw [e] at q; exact q
  | succ k =>
    rw [e] at q
    unfold run at q
    rw [if_neg hs] at q
    exact q
/-- nothing happens between two ends -/
theorem run_skip {order : List Nat} {m : Nat} {b : Beg} (I : LI p M R m b) (s : Stuck p M R m b order) (hs : b.length < p.length) : ∀ (d k t : Nat), m < t → (∀ o ∈ ks b, fin p b o ≤ m ∨ t + d ≤ fin p b o) → run p M R order (k + d) b t = run p M R order k b (t + d)
  | 0, k, t, _, _ => rfl
  | d + 1, k, t, hm, he => by
    have e : sweep p M R t order b = b := sweep_none (stuck_later I (Nat.le_of_lt hm) (fun o ho => by have := he o ho; omega) s)
    have ih := run_skip I s hs d k (t + 1) (by omega) (fun o ho => by have := he o ho; omega)
    have e2 : t + 1 + d = t + (d + 1) := by omega
    rw [e2] at ih
    have e3 : run p M R order (k + d + 1) b t = run p M R order (k + d) (sweep p M R t order b) (t + 1) := by
      show (if b.length < p.length then _ else _) = _
      rw [if_pos hs]
    rw [← Nat.add_assoc, e3, e]
    exact ih
def nextAt (p : Plan) (b : Beg) (m : Nat) : Nat := minL ((m + 1000) :: ((ks b).filter fun o => decide (m < fin p b o)).map (fin p b))
/-- THE PROGRAM'S LOOP -/
theorem LoopL.jump (hp : PlanOk p) (hM : 1 ≤ M) (hR : planFits p R = true) {order : List Nat} (ho : Ord p order) {t : Nat} {b : Beg} (I : LoopL p M R order t b) (hs : b.length < p.length) (hs2 : (sweep p M R t order b).length < p.length) :
    LoopL p M R order (nextAt p (sweep p M R t order b) t) (sweep p M R t order b) ∧ t < nextAt p (sweep p M R t order b) t := by
  have J := I.next hp hM hR ho hs
  rw [sweep_eq hp ho.lt I.toLI] at J
  have I1 := LI.sweep hp ho.lt I.toLI
  have s := stuck_sweep hp ho.lt I.toLI
  generalize sweep p M R t order b = b1 at *
  obtain ⟨o, hk, hf⟩ := stuck_runs hp hM hR ho.all I1 s hs2
  have hmem : nextAt p b1 t ∈ (t + 1000) :: ((ks b1).filter fun o => decide (t < fin p b1 o)).map (fin p b1) := minL_mem (by simp)
  have hmin : ∀ q ∈ ks b1, t < fin p b1 q → nextAt p b1 t ≤ fin p b1 q := fun q hq hl => minL_le (List.mem_cons_of_mem _ (List.mem_map.mpr ⟨q, List.mem_filter.mpr ⟨hq, by simp [hl]⟩, rfl⟩))
  have hgt : t < nextAt p b1 t := by
    rcases List.mem_cons.mp hmem with e | e
    · omega
    · obtain ⟨q, hq, e⟩ := List.mem_map.mp e
      have := (List.mem_filter.mp hq).2
      simp only [decide_eq_true_eq] at this
      omega
  have hle : nextAt p b1 t ≤ planEnd p b1 := Nat.le_trans (hmin o hk hf) (fin_le_end hk)
  have htop := J.top
  have hT := sumLen_le J.nd J.lt
  refine ⟨⟨⟨J.toLI.mono (by omega), htop, fun _ => by omega⟩, ?_⟩, hgt⟩
  have q := J.same
  obtain ⟨d, hd⟩ : ∃ d, nextAt p b1 t = (t + 1) + d := ⟨nextAt p b1 t - (t + 1), by omega⟩
  have sk := run_skip I1 s hs2 d (total p + 1 - (t + 1 + d)) (t + 1) (by omega) (fun q hq => by
    by_cases c : t < fin p b1 q
    · have := hmin q hq c
      exact .inr (by omega)
    · exact .inl (by omega))
  have e : total p + 1 - (t + 1) = (total p + 1 - (t + 1 + d)) + d := by omega
  rw [e, sk] at q
  rw [hd]
  exact q
theorem LoopL.last (hp : PlanOk p) (hM : 1 ≤ M) (hR : planFits p R = true) {order : List Nat} (ho : Ord p order) {t : Nat} {b : Beg} (I : LoopL p M R order t b) (hs : b.length < p.length) (hs2 : ¬ (sweep p M R t order b).length < p.length) : sweep p M R t order b = begins p M R order := by
  have J := I.next hp hM hR ho hs
  rw [sweep_eq hp ho.lt I.toLI] at J
  exact J.done hs2
theorem begins_ok (hp : PlanOk p) (hM : 1 ≤ M) (hR : planFits p R = true) {order : List Nat} (ho : Ord p order) : p.length ≤ (begins p M R order).length ∧ ∃ t, HI p M R t (begins p M R order) :=
  run_done hp hM hR ho _ 0 [] (by omega) HI.nil
end
end Mx
end

section
set_option autoImplicit false
set_option linter.all false
namespace Mx
/-! ## Areas -/
theorem sum_add (f g : Nat → Nat) : ∀ l : List Nat, (l.map fun t => f t + g t).sum = (l.map f).sum + (l.map g).sum
  | [] => rfl
  | a :: r => by rw [List.map_cons, List.sum_cons, List.map_cons, List.sum_cons, List.map_cons, List.sum_cons, sum_add f g r]; omega
theorem sum_ind (a L : Nat) : ∀ E : Nat, ((List.range E).map fun t => if (decide (a ≤ t) && decide (t < a + L)) = true then 1 else 0).sum = min E (a + L) - min E a
  | 0 => by simp
  | E + 1 => by
    rw [List.range_succ, List.map_append, List.sum_append, sum_ind a L E]
    simp only [List.map_cons, List.map_nil, List.sum_cons, List.sum_nil, Bool.and_eq_true, decide_eq_true_eq]
    split <;> omega
theorem sum_zero : ∀ l : List Nat, (l.map fun _ => 0).sum = 0
  | [] => rfl
  | a :: r => by rw [List.map_cons, List.sum_cons, sum_zero r]
theorem area (g len : Nat → Nat) (E : Nat) : ∀ l : List Nat, (∀ j ∈ l, g j + len j ≤ E) →
    (l.map len).sum = ((List.range E).map fun t => (l.filter fun j => decide (g j ≤ t) && decide (t < g j + len j)).length).sum
  | [], _ => (sum_zero _).symm
  | j :: r, h => by
    have ih := area g len E r fun x hx => h x (List.mem_cons_of_mem _ hx)
    have hj := h j (by simp)
    have e : ∀ t, ((j :: r).filter fun j => decide (g j ≤ t) && decide (t < g j + len j)).length = (if (decide (g j ≤ t) && decide (t < g j + len j)) = true then 1 else 0) + (r.filter fun j => decide (g j ≤ t) && decide (t < g j + len j)).length := fun t => by
      rw [List.filter_cons]
      split
      · rw [List.length_cons]; omega
      · omega
    rw [List.map_congr_left fun t _ => e t, sum_add, sum_ind, List.map_cons, List.sum_cons, ih]
    omega
theorem sum_le_mul {f : Nat → Nat} {M : Nat} (h : ∀ t, f t ≤ M) : ∀ l : List Nat, (l.map f).sum ≤ M * l.length
  | [] => Nat.zero_le _
  | a :: r => by
    rw [List.map_cons, List.sum_cons, List.length_cons, Nat.mul_succ]
    have := sum_le_mul h r
    have := h a
    omega
/-! ## Schedules of all jobs -/
def runsS (p : Plan) (S : Nat → Nat) (t j : Nat) : Bool := decide (S j ≤ t) && decide (t < S j + ln p j)
def onS (p : Plan) (S : Nat → Nat) (t : Nat) : List Nat := (List.range p.length).filter (runsS p S t)
structure Valid (p : Plan) (M R : Nat) (S : Nat → Nat) : Prop where
  prec : ∀ j, j < p.length → ∀ o ∈ nd p j, S o + ln p o ≤ S j
  cap : ∀ t, (onS p S t).length ≤ M
  room : ∀ t, ((onS p S t).map (rm p)).sum ≤ R
def Ends (p : Plan) (S : Nat → Nat) (E : Nat) : Prop := ∀ j, j < p.length → S j + ln p j ≤ E
def Feas (p : Plan) (M R E : Nat) : Prop := ∃ S, Valid p M R S ∧ Ends p S E
theorem onS_mem {p : Plan} {S : Nat → Nat} {t j : Nat} : j ∈ onS p S t ↔ j < p.length ∧ S j ≤ t ∧ t < S j + ln p j := by
  unfold onS runsS
  rw [List.mem_filter, List.mem_range, Bool.and_eq_true, decide_eq_true_eq, decide_eq_true_eq]
theorem onS_nodup {p : Plan} {S : Nat → Nat} {t : Nat} : (onS p S t).Nodup := List.nodup_range.filter _
theorem area_valid {p : Plan} {M R E : Nat} {S : Nat → Nat} (h : Valid p M R S) (he : Ends p S E) : total p ≤ M * E := by
  have q := area S (ln p) E (List.range p.length) fun j hj => he j (List.mem_range.mp hj)
  unfold total
  rw [q]
  have z := sum_le_mul (f := fun t => ((List.range p.length).filter fun j => decide (S j ≤ t) && decide (t < S j + ln p j)).length) (M := M) (fun t => h.cap t) (List.range E)
  rw [List.length_range] at z
  exact z

/-! ## A list makes a schedule -/
theorem complete_all {p : Plan} {b : Beg} (hn : (ks b).Nodup) (hl : ∀ o ∈ ks b, o < p.length) (hc : p.length ≤ b.length) : ∀ j, j < p.length → j ∈ ks b := fun j hj => by
  apply Classical.byContradiction
  intro q
  have := len_lt (A := ks b) (B := List.range p.length) hn (fun x hx => List.mem_range.mpr (hl x hx)) (List.mem_range.mpr hj) q
  rw [List.length_range, ks_len] at this
  omega
theorem mem_runs {p : Plan} {b : Beg} {t o : Nat} : o ∈ (ks b).filter (runs p b t) ↔ o ∈ ks b ∧ T b o ≤ t ∧ t < fin p b o := by
  unfold runs fin
  rw [List.mem_filter, Bool.and_eq_true, decide_eq_true_eq, decide_eq_true_eq]
/-- what holds at each begin holds at each moment -/
theorem fit_at {p : Plan} {M R : Nat} {b : Beg} (hn : (ks b).Nodup) (hf : fit p b M R = true) (t : Nat) : running p b t ≤ M ∧ rooms p b t ≤ R := by
  unfold fit at hf
  rw [List.all_eq_true] at hf
  by_cases e : (ks b).filter (runs p b t) = []
  · unfold running rooms
    rw [e]
    simp
  · have hmem : maxL (((ks b).filter (runs p b t)).map (T b)) ∈ ((ks b).filter (runs p b t)).map (T b) := maxL_mem (by simp only [ne_eq, List.map_eq_nil_iff]; exact e)
    obtain ⟨o, ho, eo⟩ := List.mem_map.mp hmem
    have hmax : ∀ q ∈ (ks b).filter (runs p b t), T b q ≤ T b o := fun q hq => by
      rw [eo]
      exact le_maxL (List.mem_map.mpr ⟨q, hq, rfl⟩)
    obtain ⟨o1, o2, o3⟩ := mem_runs.mp ho
    obtain ⟨_, g2, g3⟩ := fitAt_iff.mp (hf o o1)
    have sub : ∀ q ∈ (ks b).filter (runs p b t), q ∈ (ks b).filter (runs p b (T b o)) := fun q hq => by
      obtain ⟨q1, q2, q3⟩ := mem_runs.mp hq
      exact mem_runs.mpr ⟨q1, hmax q hq, by omega⟩
    have nd1 : ((ks b).filter (runs p b t)).Nodup := hn.filter _
    have z1 : running p b t ≤ running p b (T b o) := len_sub nd1 sub
    have z2 : rooms p b t ≤ rooms p b (T b o) := sum_sub _ nd1 sub
    omega
theorem valid_of {p : Plan} {M R : Nat} {b : Beg} (hp : PlanOk p) (hn : (ks b).Nodup) (hl : ∀ o ∈ ks b, o < p.length) (hc : p.length ≤ b.length) (hf : fit p b M R = true) : Valid p M R (T b) ∧ Ends p (T b) (planEnd p b) := by
  have all := complete_all hn hl hc
  have sub : ∀ t, ∀ x ∈ onS p (T b) t, x ∈ (ks b).filter (runs p b t) := fun t x hx => by
    obtain ⟨h1, h2, h3⟩ := onS_mem.mp hx
    exact mem_runs.mpr ⟨all x h1, h2, h3⟩
  refine ⟨⟨fun j hj o ho => ?_, fun t => ?_, fun t => ?_⟩, fun j hj => fin_le_end (all j hj)⟩
  · have hf' := hf
    unfold fit at hf'
    rw [List.all_eq_true] at hf'
    exact ((fitAt_iff.mp (hf' j (all j hj))).1 o ho).2
  · exact Nat.le_trans (len_sub onS_nodup (sub t)) (fit_at hn hf t).1
  · exact Nat.le_trans (sum_sub _ onS_nodup (sub t)) (fit_at hn hf t).2
theorem list_feas {p : Plan} {M R : Nat} (hp : PlanOk p) (hM : 1 ≤ M) (hR : planFits p R = true) {order : List Nat} (ho : Ord p order) : Feas p M R (lend p M R order) ∧ lend p M R order ≤ total p := by
  obtain ⟨hc, t, I⟩ := begins_ok (M := M) (R := R) hp hM hR ho
  obtain ⟨v, e⟩ := valid_of hp I.nd I.lt hc I.ok
  exact ⟨⟨_, v, e⟩, Nat.le_trans I.top (sumLen_le I.nd I.lt)⟩

/-! ## Tails -/
def users (p : Plan) (j : Nat) : List Nat := (List.range p.length).filter fun o => (nd p o).contains j
def tailStep (p : Plan) (found : List Nat) (j : Nat) : List Nat := found.set j (ln p j + maxL (0 :: (users p j).map fun o => found.getD o 0))
def tl (p : Plan) : Nat → List Nat
  | 0 => List.replicate p.length 0
  | i + 1 => tailStep p (tl p i) (p.length - 1 - i)
def tails (p : Plan) : List Nat := tl p p.length
def tail (p : Plan) (j : Nat) : Nat := (tails p).getD j 0
theorem tl_len (p : Plan) : ∀ i, (tl p i).length = p.length
  | 0 => by simp [tl]
  | i + 1 => by unfold tl tailStep; rw [List.length_set, tl_len p i]
theorem users_mem {p : Plan} {j o : Nat} : o ∈ users p j ↔ o < p.length ∧ j ∈ nd p o := by
  unfold users
  rw [List.mem_filter, List.mem_range, List.contains_iff_mem]
theorem getD_set_ne {l : List Nat} {i j v : Nat} (h : i ≠ j) : (l.set i v).getD j 0 = l.getD j 0 := by
  rw [List.getD_eq_getElem?_getD, List.getElem?_set_ne h, ← List.getD_eq_getElem?_getD]
theorem getD_set_eq {l : List Nat} {i v : Nat} (h : i < l.length) : (l.set i v).getD i 0 = v := by
  rw [List.getD_eq_getElem?_getD, List.getElem?_set_self h]; rfl
theorem tl_spec {p : Plan} (hp : PlanOk p) : ∀ i, i ≤ p.length → ∀ j, p.length - i ≤ j → j < p.length → (tl p i).getD j 0 = ln p j + maxL (0 :: (users p j).map fun o => (tl p i).getD o 0)
  | 0, _, j, h1, h2 => by omega
  | i + 1, hi, j, h1, h2 => by
    have ul : ∀ o ∈ users p j, j < o := fun o ho => by
      obtain ⟨u1, u2⟩ := users_mem.mp ho
      exact (hp.needs o u1).2 j u2
    have hn : (tl p i).length = p.length := tl_len p i
    have es : tl p (i + 1) = (tl p i).set (p.length - 1 - i) (ln p (p.length - 1 - i) + maxL (0 :: (users p (p.length - 1 - i)).map fun o => (tl p i).getD o 0)) := rfl
    have same : (users p j).map (fun o => (tl p (i + 1)).getD o 0) = (users p j).map fun o => (tl p i).getD o 0 := List.map_congr_left fun o ho => by
      have := ul o ho
      rw [es, getD_set_ne (by omega)]
    rw [same, es]
    by_cases e : j = p.length - 1 - i
    · subst e
      rw [getD_set_eq (by omega)]
    · have q : ((tl p i).set (p.length - 1 - i) (ln p (p.length - 1 - i) + maxL (0 :: (users p (p.length - 1 - i)).map fun o => (tl p i).getD o 0))).getD j 0 = (tl p i).getD j 0 := getD_set_ne (fun z => e z.symm)
      rw [q]
      exact tl_spec hp i (by omega) j (by omega) h2
theorem tail_eq {p : Plan} (hp : PlanOk p) {j : Nat} (hj : j < p.length) : tail p j = ln p j + maxL (0 :: (users p j).map (tail p)) := tl_spec hp p.length (Nat.le_refl _) j (by omega) hj
theorem tail_low {p : Plan} {M R E : Nat} {S : Nat → Nat} (hp : PlanOk p) (h : Valid p M R S) (he : Ends p S E) : ∀ (k j : Nat), p.length - j ≤ k → j < p.length → S j + tail p j ≤ E
  | 0, j, h1, h2 => by omega
  | k + 1, j, h1, h2 => by
    rw [tail_eq hp h2]
    have hm : maxL (0 :: (users p j).map (tail p)) ∈ 0 :: (users p j).map (tail p) := maxL_mem (by simp)
    rcases List.mem_cons.mp hm with e | e
    · rw [e]
      exact he j h2
    · obtain ⟨o, ho, eo⟩ := List.mem_map.mp e
      rw [← eo]
      obtain ⟨u1, u2⟩ := users_mem.mp ho
      have lt := (hp.needs o u1).2 j u2
      have pr := h.prec o u1 j u2
      have ih := tail_low hp h he k o (by omega) u1
      omega

/-! ## The search -/
abbrev Mark := Job × List Nat
def mark (p : Plan) (j : Nat) : Mark := (jb p j, users p j)
def openStep (p : Plan) (b : Beg) (found : List Nat) (j : Nat) : List Nat := if (!has b j && !((found.map (mark p)).contains (mark p j))) = true then found ++ [j] else found
def openTo (p : Plan) (b : Beg) (k : Nat) : List Nat := (List.range k).foldl (openStep p b) []
def openJobs (p : Plan) (b : Beg) : List Nat := openTo p b p.length
theorem openTo_succ (p : Plan) (b : Beg) (k : Nat) : openTo p b (k + 1) = openStep p b (openTo p b k) k := by
  unfold openTo
  rw [List.range_succ, List.foldl_append]
  rfl
theorem openTo_len (p : Plan) (b : Beg) : ∀ k, (openTo p b k).length ≤ k
  | 0 => Nat.le_refl _
  | k + 1 => by
    rw [openTo_succ]
    have ih := openTo_len p b k
    unfold openStep
    split
    · rw [List.length_append, List.length_singleton]; omega
    · omega
theorem openTo_mem {p : Plan} {b : Beg} : ∀ {k j : Nat}, j ∈ openTo p b k → j < k ∧ j ∉ ks b
  | 0, _, h => nomatch h
  | k + 1, j, h => by
    rw [openTo_succ] at h
    unfold openStep at h
    split at h
    · rename_i c
      rw [Bool.and_eq_true] at c
      have c1 : has b k = false := by have := c.1; simpa using this
      rcases List.mem_append.mp h with h | h
      · have := openTo_mem h
        exact ⟨by omega, this.2⟩
      · rw [List.mem_singleton.mp h]
        exact ⟨by omega, has_false.mp c1⟩
    · have := openTo_mem h
      exact ⟨by omega, this.2⟩
theorem openTo_cover {p : Plan} {b : Beg} : ∀ {k j : Nat}, j < k → j ∉ ks b → ∃ j0 ∈ openTo p b k, mark p j0 = mark p j
  | k + 1, j, hj, hb => by
    have keep : ∀ x ∈ openTo p b k, x ∈ openTo p b (k + 1) := fun x hx => by
      rw [openTo_succ]
      unfold openStep
      split
      · exact List.mem_append_left _ hx
      · exact hx
    by_cases e : j = k
    · subst e
      cases c : ((openTo p b j).map (mark p)).contains (mark p j) with
      | true =>
        rw [List.contains_iff_mem] at c
        obtain ⟨x, hx, ex⟩ := List.mem_map.mp c
        exact ⟨x, keep x hx, ex⟩
      | false =>
        refine ⟨j, ?_, rfl⟩
        rw [openTo_succ]
        unfold openStep
        rw [c, has_false.mpr hb]
        simp
    · obtain ⟨x, hx, ex⟩ := openTo_cover (k := k) (by omega) hb
      exact ⟨x, keep x hx, ex⟩

structure NI (p : Plan) (M : Nat) (b : Beg) : Prop where
  nd : (ks b).Nodup
  lt : ∀ o ∈ ks b, o < p.length
  cap : ∀ t, running p b t ≤ M
  top : planEnd p b ≤ sumLen p b
theorem NI.nil {p : Plan} {M : Nat} : NI p M [] := ⟨List.nodup_nil, (fun _ h => nomatch h), fun _ => Nat.zero_le _, Nat.le_refl _⟩
theorem first_small {p : Plan} {b : Beg} {j M R : Nat} (hM : 1 ≤ M) (hR : rm p j ≤ R) (hn : ∀ o ∈ nd p j, o ∈ ks b) : firstBegin p b j M R ≤ planEnd p b := by
  have h := (List.mem_filter.mp (first_in (p := p) (b := b) hM hR)).1
  rcases List.mem_cons.mp h with e | e
  · rw [e]
    refine maxL_le fun x hx => ?_
    rcases List.mem_cons.mp hx with q | q
    · rw [q]; exact Nat.zero_le _
    · obtain ⟨o, ho, rfl⟩ := List.mem_map.mp q
      exact fin_le_end (hn o ho)
  · obtain ⟨o, ho, e⟩ := List.mem_map.mp e
    rw [← e]
    exact fin_le_end (List.mem_filter.mp ho).1
theorem tail_total {p : Plan} (hp : PlanOk p) {M R : Nat} (hM : 1 ≤ M) (hR : planFits p R = true) {j : Nat} (hj : j < p.length) : tail p j ≤ total p := by
  have ho : Ord p (List.range p.length) := ⟨fun j hj => List.mem_range.mp hj, fun j hj => List.mem_range.mpr hj⟩
  obtain ⟨⟨S, v, e⟩, h⟩ := list_feas (M := M) hp hM hR ho
  have := tail_low hp v e _ j (Nat.le_refl _) hj
  omega
theorem total_small {p : Plan} (hp : PlanOk p) : total p ≤ 54 := by
  have h : ∀ l : List Nat, (∀ j ∈ l, j < p.length) → (l.map (ln p)).sum ≤ l.length * 9 := by
    intro l
    induction l with
    | nil => intro _; simp
    | cons a r ih =>
      intro h
      have h1 := (hp.len a (h a (by simp))).2
      have h2 := ih fun x hx => h x (List.mem_cons_of_mem _ hx)
      rw [List.map_cons, List.sum_cons, List.length_cons]
      omega
  have q := h (List.range p.length) fun j hj => List.mem_range.mp hj
  rw [List.length_range] at q
  have := hp.hi
  unfold total
  omega
/-- enough room at the spots is enough at each moment -/
theorem NI.app {p : Plan} {M R : Nat} {b : Beg} {j m : Nat} (I : NI p M b) (hj : j < p.length) (hb : j ∉ ks b) (hc : canBegin p b j m M R = true) (hm : m ≤ sumLen p b) : NI p M (b ++ [(j, m)]) := by
  refine ⟨?_, fun o ho => ?_, fun t => ?_, ?_⟩
  · rw [ks_app]
    refine List.nodup_append.mpr ⟨I.nd, by simp, fun a ha c hc => ?_⟩
    rw [List.mem_singleton.mp hc]
    exact fun e => hb (e ▸ ha)
  · rw [ks_app] at ho
    rcases List.mem_append.mp ho with ho | ho
    · exact I.lt o ho
    · rw [List.mem_singleton.mp ho]; exact hj
  · rw [running_app hb]
    split
    · rename_i c
      rw [Bool.and_eq_true, decide_eq_true_eq, decide_eq_true_eq] at c
      unfold canBegin at hc
      rw [List.all_eq_true] at hc
      -- the last spot up to t
      have hmem : maxL ((spots p b j m).filter fun s => decide (s ≤ t)) ∈ (spots p b j m).filter fun s => decide (s ≤ t) :=
        maxL_mem (List.ne_nil_of_mem (a := m) (List.mem_filter.mpr ⟨by simp [spots], by simp [c.1]⟩))
      generalize hs : maxL ((spots p b j m).filter fun s => decide (s ≤ t)) = s at hmem
      obtain ⟨s1, s2⟩ := List.mem_filter.mp hmem
      rw [decide_eq_true_eq] at s2
      have s3 : m ≤ s := by rw [← hs]; exact le_maxL (List.mem_filter.mpr ⟨by simp [spots], by simp [c.1]⟩)
      have ok := (spotOk_iff.mp (hc s s1)).1
      have sub : ∀ q ∈ (ks b).filter (runs p b t), q ∈ (ks b).filter (runs p b s) := fun q hq => by
        obtain ⟨q1, q2, q3⟩ := mem_runs.mp hq
        refine mem_runs.mpr ⟨q1, ?_, by omega⟩
        by_cases z : m < T b q
        · rw [← hs]
          refine le_maxL (List.mem_filter.mpr ⟨List.mem_cons_of_mem _ (List.mem_map.mpr ⟨q, List.mem_filter.mpr ⟨q1, ?_⟩, rfl⟩), by simp [q2]⟩)
          unfold later
          rw [Bool.and_eq_true, decide_eq_true_eq, decide_eq_true_eq]
          omega
        · omega
      have := len_sub (I.nd.filter (runs p b t)) sub
      have : running p b t ≤ running p b s := this
      omega
    · exact I.cap t
  · have := planEnd_app (p := p) (m := m) hb
    have := I.top
    rw [sumLen_app]
    omega
theorem NI.area {p : Plan} {M : Nat} {b : Beg} (I : NI p M b) (hc : p.length ≤ b.length) : total p ≤ M * planEnd p b := by
  have all := complete_all I.nd I.lt hc
  have q := Mx.area (T b) (ln p) (planEnd p b) (List.range p.length) fun j hj => fin_le_end (all j (List.mem_range.mp hj))
  unfold total
  rw [q]
  have z := sum_le_mul (f := fun t => ((List.range p.length).filter fun j => decide (T b j ≤ t) && decide (t < T b j + ln p j)).length) (M := M) (fun t => by
    refine Nat.le_trans (len_sub (B := (ks b).filter (runs p b t)) (List.nodup_range.filter _) fun x hx => ?_) (I.cap t)
    obtain ⟨h1, h2⟩ := List.mem_filter.mp hx
    exact List.mem_filter.mpr ⟨all x (List.mem_range.mp h1), h2⟩) (List.range (planEnd p b))
  rw [List.length_range] at z
  exact z

/-- a schedule that ends by E goes on from b -/
def Good (p : Plan) (M R E : Nat) (b : Beg) : Prop := ∃ S, Valid p M R S ∧ Ends p S E ∧ (∀ o ∈ ks b, T b o ≤ S o) ∧ ∀ o ∈ ks b, ∀ q, q < p.length → q ∉ ks b → S o ≤ S q
theorem Good.nil {p : Plan} {M R E : Nat} (h : Feas p M R E) : Good p M R E [] := let ⟨S, v, e⟩ := h; ⟨S, v, e, (fun _ h => nomatch h), fun _ h => nomatch h⟩
theorem first_le {p : Plan} {M R : Nat} {S : Nat → Nat} {b : Beg} {j : Nat} (hp : PlanOk p) (v : Valid p M R S) (hn : (ks b).Nodup) (hl : ∀ o ∈ ks b, o < p.length) (hj : j < p.length) (hb : j ∉ ks b)
    (h1 : ∀ o ∈ ks b, T b o ≤ S o) (h2 : ∀ o ∈ ks b, S o ≤ S j) (h3 : ∀ o ∈ nd p j, o ∈ ks b) : firstBegin p b j M R ≤ S j := by
  have lj := (hp.len j hj).1
  have feas : ∀ s, S j ≤ s → s < S j + ln p j → running p b s < M ∧ rooms p b s + rm p j ≤ R := fun s s1 s2 => by
    have nd1 : (j :: (ks b).filter (runs p b s)).Nodup := List.nodup_cons.mpr ⟨fun q => hb (List.mem_filter.mp q).1, hn.filter _⟩
    have sub : ∀ x ∈ j :: (ks b).filter (runs p b s), x ∈ onS p S s := fun x hx => by
      rcases List.mem_cons.mp hx with e | hx
      · subst e
        exact onS_mem.mpr ⟨hj, s1, s2⟩
      · obtain ⟨q1, q2, q3⟩ := mem_runs.mp hx
        refine onS_mem.mpr ⟨hl x q1, Nat.le_trans (h2 x q1) s1, ?_⟩
        have := h1 x q1
        unfold fin at q3
        omega
    have z1 := len_sub nd1 sub
    have z2 := sum_sub (rm p) nd1 sub
    have z3 := v.cap s
    have z4 := v.room s
    rw [List.length_cons] at z1
    rw [List.map_cons, List.sum_cons] at z2
    unfold running rooms
    omega
  have hr : ready p b j ≤ S j := maxL_le fun x hx => by
    rcases List.mem_cons.mp hx with e | hx
    · omega
    · obtain ⟨o, ho, eo⟩ := List.mem_map.mp hx
      have a := v.prec j hj o ho
      have c := h1 o (h3 o ho)
      unfold fin at eo
      omega
  have hm0 : ready p b j ∈ (moments p b j).filter fun s => decide (s ≤ S j) := List.mem_filter.mpr ⟨by simp [moments], by simp [hr]⟩
  have hmem : maxL ((moments p b j).filter fun s => decide (s ≤ S j)) ∈ (moments p b j).filter fun s => decide (s ≤ S j) := maxL_mem (List.ne_nil_of_mem hm0)
  generalize hm : maxL ((moments p b j).filter fun s => decide (s ≤ S j)) = m at hmem
  obtain ⟨m1, m2⟩ := List.mem_filter.mp hmem
  rw [decide_eq_true_eq] at m2
  have m3 : ready p b j ≤ m := by rw [← hm]; exact le_maxL hm0
  have spot : ∀ s, m ≤ s → s < m + ln p j → spotOk p b j M R s = true := fun s s1 s2 => by
    rw [spotOk_iff]
    by_cases c : S j ≤ s
    · exact feas s c (by omega)
    · have z := feas (S j) (Nat.le_refl _) (by omega)
      have sub : ∀ x ∈ (ks b).filter (runs p b s), x ∈ (ks b).filter (runs p b (S j)) := fun x hx => by
        obtain ⟨q1, q2, q3⟩ := mem_runs.mp hx
        refine mem_runs.mpr ⟨q1, by omega, ?_⟩
        apply Classical.byContradiction
        intro w
        have : fin p b x ∈ (moments p b j).filter fun s => decide (s ≤ S j) := List.mem_filter.mpr ⟨List.mem_cons_of_mem _ (List.mem_map.mpr ⟨x, List.mem_filter.mpr ⟨q1, by simp; omega⟩, rfl⟩), by simp; omega⟩
        have := le_maxL this
        rw [hm] at this
        omega
      have nd1 : ((ks b).filter (runs p b s)).Nodup := hn.filter _
      have z1 : running p b s ≤ running p b (S j) := len_sub nd1 sub
      have z2 : rooms p b s ≤ rooms p b (S j) := sum_sub _ nd1 sub
      omega
  refine Nat.le_trans (minL_le (l := fits p b j M R) (List.mem_filter.mpr ⟨m1, ?_⟩)) m2
  unfold canBegin
  rw [List.all_eq_true]
  intro s hs
  rcases List.mem_cons.mp hs with e | hs
  · subst e; exact spot s (Nat.le_refl _) (by omega)
  · obtain ⟨o, ho, eo⟩ := List.mem_map.mp hs
    have q := (List.mem_filter.mp ho).2
    unfold later at q
    rw [Bool.and_eq_true, decide_eq_true_eq, decide_eq_true_eq] at q
    exact spot s (by omega) (by omega)
/-- two jobs of one mark changed -/
def swapS (S : Nat → Nat) (a c : Nat) : Nat → Nat := fun x => if x = a then S c else if x = c then S a else S x
def swp (a c x : Nat) : Nat := if x = a then c else if x = c then a else x
theorem swapS_eq (S : Nat → Nat) (a c x : Nat) : swapS S a c x = S (swp a c x) := by
  unfold swapS swp; split
  · rfl
  · split <;> rfl
theorem swp_swp (a c x : Nat) : swp a c (swp a c x) = x := by
  unfold swp
  by_cases h1 : x = a
  · subst h1
    rw [if_pos rfl]
    by_cases h2 : c = x
    · rw [if_pos h2, h2]
    · rw [if_neg h2, if_pos rfl]
  · rw [if_neg h1]
    by_cases h2 : x = c
    · subst h2
      rw [if_pos rfl, if_pos rfl]
    · rw [if_neg h2, if_neg h1, if_neg h2]
theorem Valid.swap {p : Plan} {M R E : Nat} {S : Nat → Nat} (hp : PlanOk p) (v : Valid p M R S) (he : Ends p S E) {a c : Nat} (ha : a < p.length) (hc : c < p.length) (hm : mark p a = mark p c) : Valid p M R (swapS S a c) ∧ Ends p (swapS S a c) E := by
  have hj : jb p a = jb p c := congrArg Prod.fst hm
  have hu : users p a = users p c := congrArg Prod.snd hm
  have jbs : ∀ x, jb p (swp a c x) = jb p x := fun x => by
    unfold swp
    by_cases h1 : x = a
    · rw [if_pos h1, h1, hj]
    · rw [if_neg h1]
      by_cases h2 : x = c
      · rw [if_pos h2, h2, hj]
      · rw [if_neg h2]
  have lt : ∀ x, x < p.length → swp a c x < p.length := fun x hx => by
    unfold swp
    split
    · exact hc
    · split
      · exact ha
      · exact hx
  have need : ∀ x o, x < p.length → o ∈ nd p x → swp a c o ∈ nd p x := fun x o hx ho => by
    unfold swp
    by_cases h1 : o = a
    · rw [if_pos h1]
      subst h1
      have : x ∈ users p c := by rw [← hu]; exact users_mem.mpr ⟨hx, ho⟩
      exact (users_mem.mp this).2
    · rw [if_neg h1]
      by_cases h2 : o = c
      · rw [if_pos h2]
        subst h2
        have : x ∈ users p a := by rw [hu]; exact users_mem.mpr ⟨hx, ho⟩
        exact (users_mem.mp this).2
      · rw [if_neg h2]; exact ho
  have lns : ∀ x, ln p (swp a c x) = ln p x := fun x => by unfold ln; rw [jbs]
  have rms : ∀ x, rm p (swp a c x) = rm p x := fun x => by unfold rm; rw [jbs]
  have nds : ∀ x, nd p (swp a c x) = nd p x := fun x => by unfold nd; rw [jbs]
  have nodm : ∀ t, ((onS p (swapS S a c) t).map (swp a c)).Nodup := fun t => by
    refine (List.pairwise_map).mpr (List.Pairwise.imp (fun {x y} h e => h ?_) (onS_nodup (p := p) (S := swapS S a c) (t := t)))
    have := congrArg (swp a c) e
    rwa [swp_swp, swp_swp] at this
  have sub : ∀ t, ∀ y ∈ (onS p (swapS S a c) t).map (swp a c), y ∈ onS p S t := fun t y hy => by
    obtain ⟨x, hx, rfl⟩ := List.mem_map.mp hy
    obtain ⟨h1, h2, h3⟩ := onS_mem.mp hx
    rw [swapS_eq] at h2 h3
    exact onS_mem.mpr ⟨lt x h1, h2, by rw [lns]; exact h3⟩
  refine ⟨⟨fun j hj o ho => ?_, fun t => ?_, fun t => ?_⟩, fun j hj => ?_⟩
  · rw [swapS_eq, swapS_eq, ← lns o]
    refine v.prec _ (lt j hj) _ ?_
    rw [nds]
    exact need j o hj ho
  · have := len_sub (nodm t) (sub t)
    rw [List.length_map] at this
    exact Nat.le_trans this (v.cap t)
  · have := sum_sub (rm p) (nodm t) (sub t)
    rw [List.map_map] at this
    refine Nat.le_trans ?_ (Nat.le_trans this (v.room t))
    refine sum_map_le fun x _ => ?_
    show rm p x ≤ rm p (swp a c x)
    rw [rms]
    exact Nat.le_refl _
  · rw [swapS_eq, ← lns j]
    exact he _ (lt j hj)
/-- the step: from a good node that lacks jobs goes a good one, by an open job -/
theorem Good.step {p : Plan} {M R E : Nat} {b : Beg} (hp : PlanOk p) (I : NI p M b) (g : Good p M R E b) (hs : b.length < p.length) :
    ∃ j ∈ openJobs p b, (∀ o ∈ nd p j, o ∈ ks b) ∧ firstBegin p b j M R + tail p j ≤ E ∧ Good p M R E (b ++ [(j, firstBegin p b j M R)]) := by
  obtain ⟨S, v, he, h1, h2⟩ := g
  obtain ⟨j, hj, hb, hmin⟩ := lacks_min (l := ks b) (n := p.length) S (by rw [ks_len]; exact hs)
  obtain ⟨a, ha, hma⟩ := openTo_cover (p := p) (b := b) (k := p.length) hj hb
  obtain ⟨ha1, ha2⟩ := openTo_mem ha
  obtain ⟨v', he'⟩ := v.swap hp he ha1 hj hma
  -- the schedule with a at j's place
  have hin : ∀ o, o ∈ ks b → swapS S a j o = S o := fun o ho => by
    unfold swapS
    have n1 : ¬ o = a := fun e => ha2 (by rw [← e]; exact ho)
    have n2 : ¬ o = j := fun e => hb (by rw [← e]; exact ho)
    rw [if_neg n1, if_neg n2]
  have hSa : swapS S a j a = S j := by unfold swapS; rw [if_pos rfl]
  have hout : ∀ q, q < p.length → q ∉ ks b → S j ≤ swapS S a j q := fun q q1 q2 => by
    unfold swapS
    split
    · exact Nat.le_refl _
    · split
      · exact hmin a ha1 ha2
      · exact hmin q q1 q2
  have needs : ∀ o ∈ nd p a, o ∈ ks b := fun o ho => Classical.byContradiction fun q => by
    have lt := (hp.needs a ha1).2 o ho
    have pr := v'.prec a ha1 o ho
    have lo := (hp.len o (by omega)).1
    have := hout o (by omega) q
    rw [hSa] at pr
    omega
  have fl := first_le hp v' I.nd I.lt ha1 ha2 (fun o ho => by rw [hin o ho]; exact h1 o ho) (fun o ho => by rw [hin o ho, hSa]; exact h2 o ho j hj hb) needs
  have tlw := tail_low hp v' he' _ a (Nat.le_refl _) ha1
  refine ⟨a, ha, needs, by omega, swapS S a j, v', he', fun o ho => ?_, fun o ho q hq1 hq2 => ?_⟩
  · rw [ks_app] at ho
    rcases List.mem_append.mp ho with ho | ho
    · rw [T_app_in ha2 ho, hin o ho]; exact h1 o ho
    · rw [List.mem_singleton.mp ho, T_app_eq ha2]; exact fl
  · rw [ks_app] at ho hq2
    have hq3 : q ∉ ks b := fun z => hq2 (List.mem_append_left _ z)
    rcases List.mem_append.mp ho with ho | ho
    · rw [hin o ho]
      exact Nat.le_trans (h2 o ho j hj hb) (hout q hq1 hq3)
    · rw [List.mem_singleton.mp ho, hSa]
      exact hout q hq1 hq3
theorem Good.done {p : Plan} {M R E : Nat} {b : Beg} (I : NI p M b) (g : Good p M R E b) : planEnd p b ≤ E := by
  obtain ⟨S, v, he, h1, h2⟩ := g
  refine maxL_le fun x hx => ?_
  obtain ⟨o, ho, eo⟩ := List.mem_map.mp hx
  have a := h1 o ho
  have c := he o (I.lt o ho)
  unfold fin at eo
  omega

/-- less than the best so far -/
def better (best : Option Nat) (x : Nat) : Bool := match best with | none => true | some e => decide (x < e)
def best1 (p : Plan) (b : Beg) (best : Option Nat) : Option Nat := if b.length = p.length then (if better best (planEnd p b) = true then some (planEnd p b) else best) else best
def canGo (p : Plan) (b : Beg) (j : Nat) : Bool := (nd p j).all (has b)
/-- (moment, job) of the nodes that follow -/
def kid (p : Plan) (M R : Nat) (b : Beg) (best : Option Nat) (j : Nat) : Option (Nat × Nat) :=
  if canGo p b j = true then (if better best (firstBegin p b j M R + tail p j) = true then some (firstBegin p b j M R, j) else none) else none
def kids (p : Plan) (M R : Nat) (b : Beg) (best : Option Nat) : List (Nat × Nat) := (openJobs p b).filterMap (kid p M R b best)
def node (b : Beg) (k : Nat × Nat) : Beg := b ++ [(k.2, k.1)]
def lower (p : Plan) (M : Nat) : Nat := max (maxL (tails p)) ((total p + M - 1) / M)
structure SI (p : Plan) (M R : Nat) (best : Option Nat) (line : List Beg) : Prop where
  nodes : ∀ b ∈ line, NI p M b ∧ b.length ≤ p.length
  sound : ∀ e, best = some e → total p ≤ M * e
  all : ∀ E, Feas p M R E → (∃ e, best = some e ∧ e ≤ E) ∨ ∃ b ∈ line, Good p M R E b
theorem SI.first {p : Plan} {M R : Nat} : SI p M R none [[]] := by
  refine ⟨fun b hb => ?_, (fun _ h => nomatch h), fun E hE => .inr ⟨[], by simp, .nil hE⟩⟩
  rw [List.mem_singleton.mp hb]
  exact ⟨.nil, Nat.zero_le _⟩
theorem kids_mem {p : Plan} {M R : Nat} {b : Beg} {best : Option Nat} {k : Nat × Nat} (h : k ∈ kids p M R b best) : k.2 ∈ openJobs p b ∧ canGo p b k.2 = true ∧ k.1 = firstBegin p b k.2 M R := by
  unfold kids at h
  obtain ⟨j, hj, e⟩ := List.mem_filterMap.mp h
  unfold kid at e
  split at e
  · split at e
    · cases e; exact ⟨hj, by assumption, rfl⟩
    · cases e
  · cases e
theorem SI.step {p : Plan} {M R : Nat} (hp : PlanOk p) (hM : 1 ≤ M) (hR : planFits p R = true) {best : Option Nat} {rest : List Beg} {b : Beg} {line : List Beg} (I : SI p M R best (rest ++ [b]))
    (hl : ∀ x, x ∈ line ↔ x ∈ rest ∨ x ∈ (kids p M R b (best1 p b best)).map (node b)) : SI p M R (best1 p b best) line := by
  obtain ⟨Nb, Lb⟩ := I.nodes b (by simp)
  have keep : ∀ E e, best = some e → e ≤ E → ∃ e', best1 p b best = some e' ∧ e' ≤ E := fun E e h1 h2 => by
    unfold best1
    split
    · split
      · rename_i c
        rw [h1] at c
        unfold better at c
        simp only [decide_eq_true_eq] at c
        exact ⟨_, rfl, by omega⟩
      · exact ⟨e, h1, h2⟩
    · exact ⟨e, h1, h2⟩
  refine ⟨fun x hx => ?_, fun e he => ?_, fun E hE => ?_⟩
  · rcases (hl x).mp hx with h | h
    · exact I.nodes x (List.mem_append_left _ h)
    · obtain ⟨k, hk, rfl⟩ := List.mem_map.mp h
      obtain ⟨k1, k2, k3⟩ := kids_mem hk
      obtain ⟨k4, k5⟩ := openTo_mem k1
      have cb := (List.mem_filter.mp (first_in (p := p) (b := b) (j := k.2) (M := M) (R := R) hM (fits_room hR k4))).2
      rw [← k3] at cb
      have kn : ∀ o ∈ nd p k.2, o ∈ ks b := fun o ho => by
        unfold canGo at k2
        rw [List.all_eq_true] at k2
        exact has_iff.mp (k2 o ho)
      have kf := first_small (p := p) (b := b) (j := k.2) (M := M) (R := R) hM (fits_room hR k4) kn
      have kt := Nb.top
      refine ⟨Nb.app k4 k5 cb (by rw [k3]; omega), ?_⟩
      unfold node
      rw [List.length_append, List.length_singleton]
      have := len_lt (A := ks b) (B := List.range p.length) Nb.nd (fun x hx => List.mem_range.mpr (Nb.lt x hx)) (List.mem_range.mpr k4) k5
      rw [List.length_range, ks_len] at this
      omega
  · unfold best1 at he
    split at he
    · split at he
      · cases he
        exact Nb.area (by omega)
      · exact I.sound e he
    · exact I.sound e he
  · rcases I.all E hE with ⟨e, h1, h2⟩ | ⟨x, hx, g⟩
    · exact .inl (keep E e h1 h2)
    · rcases List.mem_append.mp hx with hx | hx
      · exact .inr ⟨x, (hl x).mpr (.inl hx), g⟩
      · have ex := List.mem_singleton.mp hx
        subst ex
        by_cases c : x.length = p.length
        · refine .inl ?_
          have pe := g.done Nb
          unfold best1
          rw [if_pos c]
          cases hb : better best (planEnd p x) with
          | true => exact ⟨_, rfl, pe⟩
          | false =>
            simp only [Bool.false_eq_true, if_false]
            cases best with
            | none => cases hb
            | some e =>
              unfold better at hb
              simp only [decide_eq_false_iff_not] at hb
              exact ⟨e, rfl, by omega⟩
        · obtain ⟨j, hj, hn, hE2, g2⟩ := g.step hp Nb (by omega)
          have cg : canGo p x j = true := by
            unfold canGo
            rw [List.all_eq_true]
            exact fun o ho => has_iff.mpr (hn o ho)
          cases hb : better (best1 p x best) (firstBegin p x j M R + tail p j) with
          | true =>
            refine .inr ⟨node x (firstBegin p x j M R, j), (hl _).mpr (.inr (List.mem_map.mpr ⟨_, List.mem_filterMap.mpr ⟨j, hj, ?_⟩, rfl⟩)), g2⟩
            unfold kid
            rw [if_pos cg, if_pos hb]
          | false =>
            refine .inl ?_
            cases h1 : best1 p x best with
            | none => rw [h1] at hb; cases hb
            | some e =>
              rw [h1] at hb
              unfold better at hb
              simp only [decide_eq_false_iff_not] at hb
              exact ⟨e, rfl, by omega⟩
theorem lower_le {p : Plan} {M R E : Nat} (hp : PlanOk p) (hM : 1 ≤ M) (h : Feas p M R E) : lower p M ≤ E := by
  obtain ⟨S, v, he⟩ := h
  unfold lower
  refine Nat.max_le.mpr ⟨maxL_le fun x hx => ?_, ?_⟩
  · obtain ⟨j, hj, e⟩ := List.getElem_of_mem hx
    have hj' : j < p.length := by rw [tails, tl_len] at hj; exact hj
    have q := tail_low hp v he _ j (Nat.le_refl _) hj'
    have e2 : tail p j = x := by
      unfold tail
      rw [List.getD_eq_getElem?_getD, List.getElem?_eq_getElem hj, e]; rfl
    omega
  · have a := area_valid v he
    have : (total p + M - 1) / M < E + 1 := by
      rw [Nat.div_lt_iff_lt_mul (by omega), Nat.add_mul, Nat.one_mul, Nat.mul_comm E M]
      omega
    omega
/-- the end of the search -/
theorem SI.last {p : Plan} {M R : Nat} (hp : PlanOk p) (hM : 1 ≤ M) {best : Option Nat} {line : List Beg} (I : SI p M R best line) {E0 : Nat} (h0 : Feas p M R E0)
    (hend : line = [] ∨ ∃ e, best = some e ∧ e ≤ lower p M) : ∃ e, best = some e ∧ total p ≤ M * e ∧ ∀ E, Feas p M R E → e ≤ E := by
  have key : ∃ e, best = some e ∧ ∀ E, Feas p M R E → e ≤ E := by
    rcases hend with h | ⟨e, h1, h2⟩
    · subst h
      have get : ∀ E, Feas p M R E → ∃ e, best = some e ∧ e ≤ E := fun E hE => by
        rcases I.all E hE with h | ⟨x, hx, _⟩
        · exact h
        · exact nomatch hx
      obtain ⟨e, h1, _⟩ := get E0 h0
      refine ⟨e, h1, fun E hE => ?_⟩
      obtain ⟨e', h2, h3⟩ := get E hE
      rw [h1] at h2
      cases h2
      exact h3
    · exact ⟨e, h1, fun E hE => Nat.le_trans h2 (lower_le hp hM hE)⟩
  obtain ⟨e, h1, h2⟩ := key
  exact ⟨e, h1, I.sound e h1, h2⟩
/-- how much work a node can make -/
def weight : Nat → Nat
  | 0 => 1
  | k + 1 => 1 + 6 * weight k
def load (p : Plan) (line : List Beg) : Nat := (line.map fun b => weight (p.length - b.length)).sum
theorem weight_pos : ∀ k, 1 ≤ weight k
  | 0 => Nat.le_refl _
  | k + 1 => by unfold weight; omega
theorem load_app (p : Plan) (a c : List Beg) : load p (a ++ c) = load p a + load p c := by
  unfold load; rw [List.map_append, List.sum_append]
theorem len_le_load (p : Plan) : ∀ line : List Beg, line.length ≤ load p line
  | [] => Nat.zero_le _
  | b :: r => by
    have := len_le_load p r
    have := weight_pos (p.length - b.length)
    unfold load at *
    rw [List.map_cons, List.sum_cons, List.length_cons]
    omega
theorem kids_len (p : Plan) (M R : Nat) (b : Beg) (best : Option Nat) : (kids p M R b best).length ≤ p.length := Nat.le_trans (List.length_filterMap_le _ _) (openTo_len p b p.length)
theorem load_nodes {p : Plan} {b : Beg} : ∀ (l : List (Nat × Nat)), load p (l.map (node b)) = l.length * weight (p.length - (b.length + 1))
  | [] => by simp [load]
  | k :: r => by
    have ih := load_nodes (p := p) (b := b) r
    unfold load at *
    rw [List.map_cons, List.map_cons, List.sum_cons, ih, List.length_cons, Nat.add_mul]
    have : (node b k).length = b.length + 1 := by unfold node; rw [List.length_append, List.length_singleton]
    rw [this]
    omega
theorem load_step {p : Plan} {M R : Nat} (hp : PlanOk p) {b : Beg} (Nb : NI p M b) (Lb : b.length ≤ p.length) {best : Option Nat} {cs : List (Nat × Nat)} (hc : cs.Perm (kids p M R b best)) (rest : List Beg) :
    load p (rest ++ cs.map (node b)) < load p (rest ++ [b]) := by
  rw [load_app, load_app, load_nodes]
  have h1 : load p [b] = weight (p.length - b.length) := by simp [load]
  rw [h1, hc.length_eq]
  by_cases c : b.length = p.length
  · have e : openJobs p b = [] := by
      cases h : openJobs p b with
      | nil => rfl
      | cons j r =>
        have hj := openTo_mem (p := p) (b := b) (k := p.length) (j := j) (by show j ∈ openJobs p b; rw [h]; simp)
        exact absurd (complete_all Nb.nd Nb.lt (by omega) j hj.1) hj.2
    unfold kids
    rw [e]
    have := weight_pos (p.length - b.length)
    simp
    omega
  · have hk := kids_len p M R b best
    have h6 := hp.hi
    obtain ⟨d, hd⟩ : ∃ d, p.length - b.length = d + 1 := ⟨p.length - b.length - 1, by omega⟩
    have hd2 : p.length - (b.length + 1) = d := by omega
    rw [hd, hd2]
    have : (kids p M R b best).length * weight d ≤ 6 * weight d := Nat.mul_le_mul_right _ (by omega)
    show load p rest + _ < load p rest + (1 + 6 * weight d)
    omega
end Mx
end

section
set_option autoImplicit false
set_option linter.all false
namespace Mx
/-! ## All orders of n jobs -/
def miss (n : Nat) (row : List Nat) : List Nat := (List.range n).filter fun j => !row.contains j
def grow (n : Nat) (row : List Nat) : List (List Nat) := (miss n row).map fun j => row ++ [j]
def ordsTo (n : Nat) : Nat → List (List Nat)
  | 0 => [[]]
  | k + 1 => (ordsTo n k).flatMap (grow n)
def ords (n : Nat) : List (List Nat) := ordsTo n n
structure RowOk (n k : Nat) (row : List Nat) : Prop where
  nd : row.Nodup
  lt : ∀ j ∈ row, j < n
  len : row.length = k
theorem ords_ok (n : Nat) : ∀ k, ∀ row ∈ ordsTo n k, RowOk n k row
  | 0, row, h => by
    rw [List.mem_singleton.mp h]
    exact ⟨List.nodup_nil, (fun _ h => nomatch h), rfl⟩
  | k + 1, row, h => by
    obtain ⟨r, hr, h2⟩ := List.mem_flatMap.mp h
    obtain ⟨j, hj, rfl⟩ := List.mem_map.mp h2
    have I := ords_ok n k r hr
    obtain ⟨h3, h4⟩ := List.mem_filter.mp hj
    have hn : j ∉ r := by simpa using h4
    refine ⟨List.nodup_append.mpr ⟨I.nd, by simp, fun a ha c hc => ?_⟩, fun x hx => ?_, by rw [List.length_append, I.len]; rfl⟩
    · rw [List.mem_singleton.mp hc]
      exact fun e => hn (e ▸ ha)
    · rcases List.mem_append.mp hx with hx | hx
      · exact I.lt x hx
      · rw [List.mem_singleton.mp hx]; exact List.mem_range.mp h3
theorem miss_len {n k : Nat} {row : List Nat} (I : RowOk n k row) : (miss n row).length ≤ n - k := by
  have q := len_sub (A := row ++ miss n row) (B := List.range n) (List.nodup_append.mpr ⟨I.nd, List.nodup_range.filter _, fun a ha c hc e => ?_⟩) fun x hx => ?_
  · rw [List.length_append, List.length_range, I.len] at q
    omega
  · subst e
    have := (List.mem_filter.mp hc).2
    simp at this
    exact this ha
  · rcases List.mem_append.mp hx with hx | hx
    · exact List.mem_range.mpr (I.lt x hx)
    · exact (List.mem_filter.mp hx).1
def cnt (n : Nat) : Nat → Nat
  | 0 => 1
  | k + 1 => cnt n k * (n - k)
theorem flat_len {n k : Nat} : ∀ {rows : List (List Nat)}, (∀ r ∈ rows, RowOk n k r) → (rows.flatMap (grow n)).length ≤ rows.length * (n - k)
  | [], _ => by simp
  | r :: rs, h => by
    have ih := flat_len (rows := rs) fun x hx => h x (List.mem_cons_of_mem _ hx)
    have := miss_len (h r (by simp))
    rw [List.flatMap_cons, List.length_append, List.length_cons, Nat.add_mul]
    unfold grow at *
    rw [List.length_map]
    omega
theorem ords_len (n : Nat) : ∀ k, (ordsTo n k).length ≤ cnt n k
  | 0 => Nat.le_refl _
  | k + 1 => Nat.le_trans (flat_len (ords_ok n k)) (Nat.mul_le_mul_right _ (ords_len n k))
theorem cnt_small : ∀ n, n ≤ 6 → ∀ k, k ≤ n → cnt n k ≤ 720 := by decide
theorem ords_small {n k : Nat} (hn : n ≤ 6) (hk : k ≤ n) : (ordsTo n k).length ≤ 720 := Nat.le_trans (ords_len n k) (cnt_small n hn k hk)
theorem ords_ord {p : Plan} {o : List Nat} (h : o ∈ ords p.length) : Ord p o := by
  have I := ords_ok p.length p.length o h
  refine ⟨I.lt, fun j hj => Classical.byContradiction fun q => ?_⟩
  have := len_lt (A := o) (B := List.range p.length) I.nd (fun x hx => List.mem_range.mpr (I.lt x hx)) (List.mem_range.mpr hj) q
  rw [List.length_range, I.len] at this
  omega
theorem ords_ne (n : Nat) : ∀ k, k ≤ n → ordsTo n k ≠ []
  | 0, _ => by simp [ordsTo]
  | k + 1, h => by
    obtain ⟨r, hr⟩ := List.exists_mem_of_ne_nil _ (ords_ne n k (by omega))
    have I := ords_ok n k r hr
    obtain ⟨j, hj, hn⟩ := lacks (l := r) (n := n) (by rw [I.len]; omega)
    refine List.ne_nil_of_mem (a := r ++ [j]) (List.mem_flatMap.mpr ⟨r, hr, List.mem_map.mpr ⟨j, List.mem_filter.mpr ⟨List.mem_range.mpr hj, ?_⟩, rfl⟩⟩)
    simpa using hn
end Mx
end

section
set_option Elab.async false
set_option linter.all false
set_option maxRecDepth 100000
set_option maxHeartbeats 4000000
namespace Wk
open PySem PySem.Spec PyProof.Rows L2 Evl
/-! ## for i, x in enumerate(a tuple) -/
set_option maxHeartbeats 1000000 in
theorem meets_enum1 {v : Value} {o : Obj} {H : Heap → Prop} (B : Begins v o H) :
    Meets (Builtin.«enumerate.__new__» ⟨[.type "enumerate", v], []⟩) (fun _ R s => H s.heap ∧
      R (.ok (.ret (.ref (s.heap.push o).objs.size))) { s with heap := (s.heap.push o).push { cls := .type "enumerate", data := .fields #[.none, .bool false, .ref s.heap.objs.size, rawInt 0, .none, .none] } }) :=
  .of_wp fun prog w A R s h => by
    obtain ⟨hp, g, d, tk, os⟩ := s; obtain ⟨h1, h⟩ := h
    have hsub := sub_enumerate
    have q1 : ∀ {A' : Around} {E : Value → Shared → Prop} {Q : Value → Shared → Prop}, Q (.ref hp.objs.size) ⟨hp.push o, g, d, tk, os⟩ → wpAny (model prog w) A' (pyIter v) Q E ⟨hp, g, d, tk, os⟩ :=
      fun q => B.iter prog w _ _ ⟨hp, g, d, tk, os⟩ _ h1 q
    wp_walk using q1
    refine wpAny_stack_any fun st => wpAny_pure ?_
    split
    · rename_i c _ _ _ _ _
      cases (c == Value.type "enumerate")
      · wp_walk using q1
        exact ⟨_, rfl, h⟩
      · wp_walk using q1
        exact ⟨_, rfl, h⟩
    · wp_walk using q1
      exact ⟨_, rfl, h⟩
theorem enum_begins1 {prog : Program} {w : World} {A : Around} {E : Value → Shared → Prop} {s : Shared} {v : Value} {o : Obj} {H : Heap → Prop} {Q : Value → Shared → Prop} (B : Begins v o H) (h1 : H s.heap)
    (h : ∀ h', IsEnum h' (s.heap.objs.size + 1) s.heap.objs.size 0 .none → h'.get? s.heap.objs.size = some o → h'.objs.size = s.heap.objs.size + 2 →
      (∀ b o, s.heap.get? b = some o → h'.get? b = some o) → Q (.ref (s.heap.objs.size + 1)) { s with heap := h' }) :
    wpAny (model prog w) A (call (.type "enumerate") [v]) Q E s := by
  refine callType_new F.called_enumerate (by decide) (F.typeCall_enumerate_1 _) (F.newCall_enumerate_1 _) (fun obj => F.args_object_init_2 obj _) F.entry_enumerate_new
    (meets_enum1 B) ⟨h1, ?_⟩
  have hz : (s.heap.push o).objs.size = s.heap.objs.size + 1 := Heap.size_push ..
  show _ ∧ _
  rw [hz]
  have he : IsEnum ((s.heap.push o).push { cls := .type "enumerate", data := .fields #[.none, .bool false, .ref s.heap.objs.size, rawInt 0, .none, .none] }) (s.heap.objs.size + 1) s.heap.objs.size 0 .none := by
    have := Heap.get?_push_size (s.heap.push o) (o := { cls := .type "enumerate", data := .fields #[.none, .bool false, .ref s.heap.objs.size, rawInt 0, .none, .none] }) rfl
    rw [hz] at this; exact this
  refine ⟨⟨_, he, rfl⟩, h _ he (Heap.get?_push_of_some _ (Heap.get?_push_size _ B.free)) (by rw [Heap.size_push, hz]) fun b o x => Heap.get?_push_of_some _ (Heap.get?_push_of_some _ x)⟩
def ItN (K : PySem.W.Frag) (a : Addr) : It :=
  ⟨fun i H => ∃ (xs : List V) (x : V), SqT K H a xs ∧ xs[i]? = some x, fun i H v H' => ∃ T x, v = .ref T ∧ H T = none ∧ H' = upd H T (.tup [.int (i : Nat), x]) ∧ ∀ xs, SqT K H a xs → xs[i]? = some x, fun i H => ∃ xs : List V, SqT K H a xs ∧ xs.length ≤ i⟩
theorem ne_iter {h : Heap} {a it : Addr} {items : Array Value} {i : Nat} (ht : h.IsTuple a items) (hi : h.IsTupleIter it a i) : a ≠ it := by
  obtain ⟨o, e, c, _⟩ := ht
  obtain ⟨o', e', c', _⟩ := hi
  rintro rfl
  rw [e] at e'
  cases e'
  rw [c] at c'
  exact absurd (Value.type.inj c') (by decide)
theorem turn_enumT {P : Program} {w : World} {K : PySem.W.Frag} {elts : List Expr} {kk : Nat} {tpos : Pos} (a e it : Addr) :
    Turn P w K (.Tuple elts kk tpos) (ItN K a) [e, it] e (fun i h => (∃ old, IsEnum h e it ((i : Nat) : Int) old) ∧ h.IsTupleIter it a i ∧ e ≠ it) where
  mem := by simp
  obj := fun i h st b hb => by
    obtain ⟨⟨old, he⟩, ⟨o, ho, hc, hd⟩, _⟩ := st
    have e' : b = e ∨ b = it := by simpa using hb
    rcases e' with z | z
    · rw [z]; exact ⟨_, he, fun v q => nomatch q⟩
    · rw [z]; exact ⟨o, ho, fun v q => by rw [hd] at q; cases q⟩
  keep := fun i h h' st k => let ⟨⟨old, he⟩, hi, hne⟩ := st; ⟨⟨old, k e (by simp) _ he⟩, hi.at fun o q => k it (by simp) o q, hne⟩
  item := by
    intro X hP hw hK hc i pins s σ H E I hf st hg
    subst hP hw hK
    obtain ⟨⟨old, he⟩, hit, hne⟩ := st
    obtain ⟨xs, x, hq, hx⟩ := hg
    obtain ⟨its, rv, p, hz⟩ := I.tuple hq
    obtain ⟨u, hu, ru⟩ := rv.get hx
    have hel : e < s.heap.objs.size := Heap.lt_size he
    have hil : it < s.heap.objs.size := by obtain ⟨_, q, _⟩ := hit; exact Heap.lt_size q
    have pt : s.heap.IsTuple a its.toArray := p
    have hai := ne_iter pt hit
    have hae : a ≠ e := by
      obtain ⟨o, e1, c, _⟩ := pt
      rintro rfl
      have he' : s.heap.get? a = some _ := he
      rw [e1] at he'
      cases he'
      exact absurd (Value.type.inj c) (by decide)
    have hlen : i < its.toArray.size := by
      have q := (List.getElem?_eq_some_iff.mp hu).1
      simpa using q
    refine wpAny_pyNext_enum_itemC (Draws.tuple (A := X.A.in1) (I.ok.hd hc) it a hai its.toArray) he ⟨hit, pt⟩ hlen hne (by simp [hne, Ne.symm hae]) fun x' h' tk hP ho hst' hT hsz hk => ?_
    have ex : x' = u := by
      have q : its.toArray[i]? = some x' := hP
      rw [List.getElem?_toArray, hu] at q
      exact (Option.some.inj q).symm
    subst ex
    refine ⟨_, rfl, wpAny_letOwnedTupleGo_enum (s := { s with heap := h', toks := tk + 1 }) ho fun h'' he' sb => ?_⟩
    have hT2 : h''.get? s.heap.objs.size = some { cls := .type "tuple", data := .seq #[.int i tk, x'] } := (sb.2 _ (Nat.ne_of_gt hel)).trans hT
    have new : ObjOk X.prog X.w (upd H s.heap.objs.size (.tup [.int (i : Nat), x])) h'' s.heap.objs.size (.tup [.int (i : Nat), x]) :=
      ⟨by show 2 ≤ sizeLine; decide, [.int i tk, x'], .cons ⟨_, rfl⟩ (.cons ru .nil), ⟨_, hT2, rfl, _, rfl⟩⟩
    have I1 : Inv X pins σ (upd H s.heap.objs.size (.tup [.int (i : Nat), x])) { s with heap := h'', toks := tk + 1 } :=
      I.turnedNew (ch := [e, it]) (fun b ob hb q => (sb.2 b (fun z => hb (by simp [z]))).trans (hk b ob (fun z => hb (by simp [z])) (fun z => hb (by simp [z])) q)) hf (Nat.le_refl _) new
    refine ⟨.ref s.heap.objs.size, _, I1, rfl, ⟨_, x, rfl, I.hok.fresh (Nat.le_refl _), rfl, fun ys hy => by rw [I.tuple_inj hy hq]; exact hx⟩, ⟨⟨x', ?_⟩, hst'.1.at fun o q => (sb.2 it (Ne.symm hne)).trans q, hne⟩, fun b hb => ?_⟩
    · have e1 : ((i + 1 : Nat) : Int) = (i : Int) + 1 := by omega
      rw [e1]; exact he'
    · have hb' : b < s.heap.objs.size := by
        have e' : b = e ∨ b = it := by simpa using hb
        rcases e' with z | z
        · rw [z]; exact hel
        · rw [z]; exact hil
      rw [upd_ne (Nat.ne_of_lt hb')]
      exact (hf b hb).1
  done := by
    intro X hP hw hK hc i pins s σ H E I hf st hg
    subst hP hw hK
    obtain ⟨⟨old, he⟩, hit, hne⟩ := st
    obtain ⟨xs, hq, hx⟩ := hg
    obtain ⟨its, rv, p, hz⟩ := I.tuple hq
    obtain ⟨f0, f1, f2, f3, f4, f5⟩ := hf it (by simp)
    have hl := rv.length
    have pt : s.heap.IsTuple a its.toArray := p
    have hai := ne_iter pt hit
    unfold pyNext
    have hTy : s.TypeIs (.ref e) "enumerate" := ⟨_, he, rfl⟩
    refine wpAny_bind (wpAny_attempt (wpAny_callSpecial?_slot (name := Str.ofString "__next__") hTy F.slot_enumerate_next
      (wpAny_call_entry F.slot_enumerate_next hTy F.entry_enumerate_next ?_ (F.args_enumerate_next_1 _))))
    show wpAny _ _ (field (.ref e) 2 >>= _) _ _ _
    refine wpAny_bind (wpAny_field he rfl (x := .ref it) rfl ?_)
    refine wpAny_bind (wpAny_nextOf_tuple_end (A := X.A.in1) (I.ok.hd hc) hit pt (by simp; omega) fun h' ex eb hex => ?_)
    obtain ⟨o, ho, hco⟩ := hex
    refine wpAny_bind (wpAny_isInstance (T := "StopIteration") (b := true) ⟨o, ho, hco⟩ isSubtype_stop ?_)
    exact wpAny_pure ⟨rfl, I.turned (t' := s.toks) (fun b o hb q => eb b o hb q) f0 f1 f3 f4 f5⟩
  self := fun A i s Q E st h => let ⟨⟨_, he⟩, _⟩ := st; wpAny_pyIter_enum he h
def iEnumT (K : PySem.W.Frag) (ta : TA) : TI := fun σ H R => ta σ H fun vs H1 => ∃ a xs, vs = [.ref a] ∧ SqT K H1 a xs ∧ R (ItN K a) H1
theorem pi_enumT {X : Cx} {e : Expr} {ta : TA} {p pos tpos : Pos} {elts : List Expr} {kk : Nat} (hg : Gl X "enumerate") (hm : X.mg "enumerate" = none) (ha : PA X [e] ta) (hs : starEach [e] X.env = [(false, eval e X.env)] := by rfl) :
    PI X (.Tuple elts kk tpos) (.Call (.Name "enumerate" p) [e] [] pos) (iEnumT X.K ta) := by
  refine ⟨fun pins s σ H R I h => ?_⟩
  refine Call_ (ld_blt I hg hm boot_enumerate (PyProof.Rows.callWith_type1 (thn (ha.run pos pins s σ H _ I h) fun us s1 ⟨vs, H1, I1, r1, q1⟩ => ?_) hs rfl))
  obtain ⟨a, xs, ex, hq, q⟩ := q1
  subst ex
  cases r1 with
  | cons r rr =>
    cases rr
    cases r
    obtain ⟨its, rv, p', hz⟩ := I1.tuple hq
    refine enum_begins1 (begins_tuple a its.toArray) p' fun h' he hit hsz hk => wpAny_pyIter_enum he ?_
    have I2 : Inv X pins σ H1 { s1 with heap := h' } := I1.kept (t' := s1.toks) hk
    refine ⟨s1.heap.objs.size + 1, [s1.heap.objs.size + 1, s1.heap.objs.size], _, _, H1, rfl, I2, turn_enumT a (s1.heap.objs.size + 1) s1.heap.objs.size, ⟨⟨.none, he⟩, ⟨_, hit, rfl, rfl⟩, Nat.succ_ne_self _⟩, fun b hb => ?_, q⟩
    have e' : b = s1.heap.objs.size + 1 ∨ b = s1.heap.objs.size := by simpa using hb
    have hle : s1.heap.objs.size ≤ b := by
      rcases e' with z | z
      · rw [z]; exact Nat.le_add_right _ _
      · rw [z]; exact Nat.le_refl _
    exact I1.fpOk hle (I1.hok.fresh hle)
/-! ## a list beside the empty one -/
def rEqL0 (K : PySem.W.Frag) (neg : Bool) : R2 := fun x y H Q => ∃ a b xs, x = .ref a ∧ y = .ref b ∧ SqL K H a xs ∧ SqL K H b [] ∧ Q (.bl (if neg then !xs.isEmpty else xs.isEmpty)) H
theorem op_eqL0 {X : Cx} (hu : X.A.units < cLine) : OpR X (compareOp .Eq) (rEqL0 X.K false) := by
  intro pins s σ H x y v u Q I rx ry h
  obtain ⟨a, b, xs, rfl, rfl, ha, hb, q⟩ := h
  cases rx
  cases ry
  obtain ⟨its, rv, p, _⟩ := I.list ha
  obtain ⟨its2, rv2, p2, _⟩ := I.list hb
  cases rv2
  cases xs with
  | nil =>
    cases rv
    exact SeqAt.eq_listAt (e := fun _ => true) p.isList p2.isList rfl hu (fun j h1 _ => absurd h1 (Nat.not_lt_zero _)) ⟨.bl true, H, I, rfl, q⟩
  | cons x r =>
    cases rv with
    | cons r1 r2 => exact SeqAt.eq_list_lengthsAt p.isList p2.isList (by simp) hu ⟨.bl false, H, I, rfl, q⟩
theorem op_neL0 {X : Cx} (hu : X.A.units < cLine) : OpR X (compareOp .NotEq) (rEqL0 X.K true) := by
  intro pins s σ H x y v u Q I rx ry h
  obtain ⟨a, b, xs, rfl, rfl, ha, hb, q⟩ := h
  cases rx
  cases ry
  obtain ⟨its, rv, p, _⟩ := I.list ha
  obtain ⟨its2, rv2, p2, _⟩ := I.list hb
  cases rv2
  cases xs with
  | nil =>
    cases rv
    exact SeqAt.RcNeAt.lists (e := fun _ => true) p.isList p2.isList rfl hu (fun j h1 _ => absurd h1 (Nat.not_lt_zero _)) _ _ _ _ ⟨.bl false, H, I, rfl, q⟩
  | cons x r =>
    cases rv with
    | cons r1 r2 => exact SeqAt.RcNeAt.lists_lengths p.isList p2.isList (by simp) hu _ _ _ _ ⟨.bl true, H, I, rfl, q⟩
/-! ## min of a list of alike data: the first of the least, by its place -/
def bestIx (ds : List PyData) : Nat := argBest (fun i j => PySem.W.dataLt (ds.getD i .none) (ds.getD j .none)) (ds.length - 1)
theorem bestIx_lt {ds : List PyData} (h : ds ≠ []) : bestIx ds < ds.length := by
  cases ds with
  | nil => exact absurd rfl h
  | cons x xs =>
    have q := (PySem.W.argBest_fold PySem.W.dataLt PyData.none x xs xs.length (Nat.le_refl _)).1
    exact Nat.lt_of_le_of_lt q (Nat.lt_succ_self _)
def rMinD (K : PySem.W.Frag) : List V → Hp → VK → Prop := fun vs H Q => ∃ (a : Addr) (xs : List V) (ds : List PyData), vs = [V.ref a] ∧ SqL K H a xs ∧ DpAll K H xs ds ∧ ds ≠ [] ∧ PySem.W.AlikeAll ds ∧ PyData.depthAll ds ≤ 32 ∧
  ∀ v, xs[bestIx ds]? = some v → Q v H
theorem cr_minD {X : Cx} (hc : X.calm = true) (hu : X.A.units + 64 < cLine) : CallR X (.builtin "min") (rMinD X.K) := by
  intro pins s σ H vs us Q I r h
  obtain ⟨a, xs, ds, rfl, hs, hd, hne, hal, hdp, q⟩ := h
  obtain ⟨its, rv, hl, _⟩ := I.list hs
  rw [Vals.ref1 r]
  obtain ⟨as, hr⟩ := Dp.readsAll I ds xs its hd rv
  have hr' : ReadsAll s.heap its.toArray.toList ds as := hr
  have hn : its.toArray.size = ds.length := by simpa using PySem.W.readsAll_len hr'
  have hpos : 0 < its.toArray.size := by rw [hn]; exact List.length_pos_iff.mpr hne
  refine PySem.call_min_walkH (PySem.W.iter_listW (A := X.A.in1) (I.ok.hd hc) hl.isList fun s₂ e W st hfp hw hk => ?_)
  refine ⟨_, _, _, _, _, _, _, s.heap, _, rfl, W, st, hfp, hpos, hw, hk, PySem.W.cmpIn_lt (A := X.A.in1) hr' hal (by show X.A.units + 1 + _ < _; omega), fun v s' hP m => ?_⟩
  obtain ⟨h', tk, rfl, hk'⟩ := PySem.W.moved_old e rfl m
  have hP2 : its[bestIx ds]? = some v := by
    have q : its.toArray[argBest (fun i j => PySem.W.dataLt (ds.getD i .none) (ds.getD j .none)) (its.toArray.size - 1)]? = some v := hP
    rw [hn, List.getElem?_toArray] at q
    exact q
  have hlt := bestIx_lt hne
  have hlen := rv.length
  have hx : xs[bestIx ds]? = some (xs[bestIx ds]'(by rw [hlen]; have := (List.getElem?_eq_some_iff.mp hP2).1; exact this)) := List.getElem?_eq_getElem _
  obtain ⟨u, hu2, ru⟩ := rv.get hx
  rw [hP2] at hu2
  cases hu2
  exact ⟨_, H, I.kept hk', ru, q _ hx⟩
/-! ## a dict whose keys are tuples of any depth -/
def NDo (P : Program) (w : World) (a : Addr) (ks : List (NestedKey × Addr)) : HO :=
  .ext fun h => (a == sysModules) = false ∧ ∃ o es ep, h.get? a = some o ∧ o.ExactDict ∧ o.data = .dict es ep ∧ es.toList = (ks.map fun k => (k.1, k.2, Value.bool true)).map (entryOfKey (nestedKind P w)) ∧ (ks.map (·.1)).Nodup
/-- the tuples that stand in H make the key -/
inductive KeyV (H : Hp) : NestedKey → V → Prop
  | int (i : Int) : KeyV H (.num i) (.int i)
  | tup {a : Addr} {ks : List NestedKey} {xs : List V} (h : H a = some (.tup xs)) (hl : xs.length = ks.length) (hk : ∀ (i : Nat) k x, ks[i]? = some k → xs[i]? = some x → KeyV H k x) : KeyV H (.tup ks) (.ref a)
theorem nested_all {h : Heap} : ∀ {ks : List NestedKey} {xs : List V} {us : List Value}, Vals xs us → xs.length = ks.length → (∀ (i : Nat) k x u, ks[i]? = some k → xs[i]? = some x → RelV x u → NestedIs h k u) → NestedAll h ks us
  | [], [], _, r, _, _ => by cases r; exact .nil
  | k :: ks, x :: xs, _, r, hl, f => by
    cases r with
    | cons r1 r2 => exact .cons (f 0 k x _ rfl rfl r1) (nested_all r2 (by simpa using hl) fun i k' x' u' h1 h2 h3 => f (i + 1) k' x' u' (by simpa using h1) (by simpa using h2) h3)
  | [], _ :: _, _, _, hl, _ => by simp at hl
  | _ :: _, [], _, _, hl, _ => by simp at hl
theorem KeyV.is {P : Program} {w : World} {H : Hp} {h : Heap} (ok : HOk P w H h) {k : NestedKey} {x : V} (kv : KeyV H k x) : ∀ u, RelV x u → NestedIs h k u := by
  induction kv with
  | int i =>
    intro u r
    obtain ⟨t, rfl⟩ := r
    exact .int i t
  | @tup a ks xs hH hl hk ih =>
    intro u r
    cases r
    obtain ⟨_, its, rv, o, h1, h2, n, h3⟩ := (show ObjOk P w H h a (.tup xs) from ok a _ hH)
    exact .tup h1 h2 h3 (by simpa using nested_all rv hl fun i k x u e1 e2 r => ih i k x e1 e2 u r)
/-- what the dict's keys are, in the abstract heap -/
def NKeys (H : Hp) (ks : List (NestedKey × Addr)) : Prop := ∀ k ∈ ks, KeyV H k.1 (.ref k.2) ∧ k.1.depth ≤ 8
section
variable {P : Program} {w : World} {H : Hp} {h : Heap} {a : Addr} {ks : List (NestedKey × Addr)}
theorem ndo_new {ob : Obj} {es : Array DictEntry} {ep : Nat} (hs : (a == sysModules) = false) (h1 : h.get? a = some ob) (h2 : ob.ExactDict) (h3 : ob.data = .dict es ep) (h4 : es.toList = (ks.map fun k => (k.1, k.2, Value.bool true)).map (entryOfKey (nestedKind P w))) (h5 : (ks.map (·.1)).Nodup) : ObjOk P w H h a (NDo P w a ks) :=
  ⟨⟨hs, ob, es, ep, h1, h2, h3, h4, h5⟩, ⟨ob, h1⟩, fun g1 g2 p k => by
    obtain ⟨q0, o, es, ep, q1, q2, q3, q4, q5⟩ := p
    exact ⟨q0, o, es, ep, k o q1, q2, q3, q4, q5⟩⟩
theorem ndo_of (ok : HOk P w H h) (e : H a = some (NDo P w a ks)) (hk : NKeys H ks) : (a == sysModules) = false ∧ h.DictOfH (nestedKind P w) a (ks.map fun k => (k.1, k.2, Value.bool true)) := by
  obtain ⟨⟨q0, o, es, ep, q1, q2, q3, q4, q5⟩, _⟩ := (show ObjOk P w H h a (NDo P w a ks) from ok a _ e)
  refine ⟨q0, o, es, ep, q1, q2, q3, q4, fun x hx => ?_, ?_⟩
  · obtain ⟨k, hk1, rfl⟩ := List.mem_map.mp hx
    exact ⟨(hk k hk1).1.is ok _ rfl, (hk k hk1).2⟩
  · rw [List.map_map]
    exact q5
theorem atKey_none {k : NestedKey} : ∀ {ks : List (NestedKey × Addr)}, ¬ k ∈ ks.map (·.1) → atKey (ks.map fun k => (k.1, k.2, Value.bool true)) k = none
  | [], _ => rfl
  | q :: r, h => by
    have h1 : ¬ q.1 = k := fun e => h (by simp [e])
    have ih := atKey_none (k := k) (ks := r) fun m => h (by rw [List.map_cons]; exact List.mem_cons_of_mem _ m)
    unfold atKey at ih ⊢
    rw [List.map_cons, List.find?_cons]
    simp only [h1, decide_false]
    exact ih
theorem atKey_some {k : NestedKey} : ∀ {ks : List (NestedKey × Addr)}, k ∈ ks.map (·.1) → (atKey (ks.map fun k => (k.1, k.2, Value.bool true)) k).isSome = true
  | q :: r, h => by
    by_cases e : q.1 = k
    · unfold atKey
      rw [List.map_cons, List.find?_cons]
      simp [e]
    · have ih := atKey_some (k := k) (ks := r) (by
        rw [List.map_cons] at h
        rcases List.mem_cons.mp h with z | z
        · exact absurd z.symm e
        · exact z)
      unfold atKey at ih ⊢
      rw [List.map_cons, List.find?_cons]
      simp only [e, decide_false]
      exact ih
end
section
variable {X : Cx} {pos : Pos}
def tDNewN (P : Program) (w : World) : TE := fun _ H Q => ∀ p, H p = none → Q (.ref p) (upd H p (NDo P w p []))
theorem pe_dnewN : PE X (.Dict [] [] pos) (tDNewN X.prog X.w) := ⟨fun pins s σ H Q I h =>
  wpAny_Dict_empty ⟨.ref s.heap.objs.size, _, I.laid (a := s.heap.objs.size) (o := NDo X.prog X.w s.heap.objs.size []) (t' := s.toks) (fun _ _ q => Heap.get?_push_of_some _ q) (Nat.le_refl _)
    (ndo_new (es := #[]) (ep := 0) (beq_eq_false_iff_ne.mpr (Ne.symm (Nat.ne_of_lt I.big))) (Heap.get?_push_size _ rfl) ⟨rfl, rfl, rfl⟩ rfl rfl List.nodup_nil), rfl, h _ (I.hok.fresh (Nat.le_refl _))⟩⟩
/-- key not in d -/
def rNotInN (P : Program) (w : World) : R2 := fun x y H Q => ∃ m d k ks, x = .ref m ∧ y = .ref d ∧ H d = some (NDo P w d ks) ∧ NKeys H ks ∧ KeyV H k (.ref m) ∧ k.depth ≤ 8 ∧ Q (.bl (!decide (k ∈ ks.map (·.1)))) H
theorem op_notInN (hu : X.A.units + 64 < cLine) : OpR X (compareOp .NotIn) (rNotInN X.prog X.w) := by
  intro pins s σ H x y v u Q I rx ry h
  obtain ⟨m, d, k, ks, rfl, rfl, hd, hk, kv, kd, q⟩ := h
  cases rx
  cases ry
  obtain ⟨q0, dd⟩ := ndo_of I.hok hd hk
  refine wpAny_notIn_heap (knd := nestedKind X.prog X.w) (show X.A.units + 1 + 8 < cLine by omega) ⟨kv.is I.hok _ rfl, kd⟩ q0 dd ?_
  refine ⟨.bl _, H, I.tok _, rfl, ?_⟩
  by_cases e : k ∈ ks.map (·.1)
  · rw [decide_eq_true e] at q
    rw [atKey_some e]
    exact q
  · rw [decide_eq_false e] at q
    rw [atKey_none e]
    exact q
/-- d[key] = True, the key a new one -/
def rSetN (P : Program) (w : World) : TSet := fun o i v H Q => ∃ d m k ks, o = .ref d ∧ i = .ref m ∧ v = .bl true ∧ H d = some (NDo P w d ks) ∧ NKeys H ks ∧ KeyV H k (.ref m) ∧ k.depth ≤ 8 ∧ ¬ k ∈ ks.map (·.1) ∧ ks.length < 1000 ∧ Q (upd H d (NDo P w d (ks ++ [(k, m)])))
theorem set_N (hu : X.A.units + 64 < cLine) : PSet X (rSetN X.prog X.w) := by
  intro pins s σ H o i v ov iv u Q I ro ri rv h
  obtain ⟨d, m, k, ks, rfl, rfl, rfl, hd, hk, kv, kd, hn, hl, q⟩ := h
  cases ro
  cases ri
  cases rv
  obtain ⟨q0, dd⟩ := ndo_of I.hok hd hk
  refine wpAny_setItem_heap (knd := nestedKind X.prog X.w) (hsz := by rw [List.length_map]; exact Nat.le_trans (Nat.le_of_lt hl) (by decide)) (show X.A.units + 1 + 8 < cLine by omega) ⟨kv.is I.hok _ rfl, kd⟩ dd fun h' dd' hs => ?_
  rw [storedH_new (atKey_none hn)] at dd'
  obtain ⟨ob, es, ep, w1, w2, w3, w4, _, w5⟩ := dd'
  have e1 : ((ks.map fun k => (k.1, k.2, Value.bool true)) ++ [(k, m, Value.bool true)]) = (ks ++ [(k, m)]).map fun k => (k.1, k.2, Value.bool true) := by simp
  rw [e1] at w4 w5
  refine ⟨_, d_write (a := d) (ob := NDo X.prog X.w d (ks ++ [(k, m)])) I (by rw [hd]; exact True.intro) hs ⟨ob, w1⟩ (ndo_new q0 w1 w2 w3 w4 (by rw [List.map_map] at w5; exact w5)), q⟩
end
end Wk
end

section
set_option Elab.async false
set_option linter.all false
set_option maxRecDepth 100000
set_option maxHeartbeats 4000000
namespace Wk
open PySem PySem.Spec PyProof.Rows L2 Evl
open Mx (Plan Beg Job jb ln nd rm ks look has T)
/-! ## numbers, plans and begins in the heap -/
abbrev iN (n : Nat) : V := .int (n : Int)
def Tk (H H' : Hp) : Prop := ∀ b xs, H b = some (.tup xs) → H' b = some (.tup xs)
theorem Tk.of {H H' : Hp} (e : Ex H H') : Tk H H' := fun b xs h => e b _ h
theorem Tk.refl (H : Hp) : Tk H H := fun _ _ h => h
theorem Tk.trans {H H1 H2 : Hp} (a : Tk H H1) (b : Tk H1 H2) : Tk H H2 := fun x xs h => b x xs (a x xs h)
theorem Tk.upd {H : Hp} {d : Addr} {u o : HO} (h : H d = some u) (hn : ∀ xs, u ≠ .tup xs) : Tk H (upd H d o) := fun b xs e => by
  rw [upd_ne (fun z => by rw [z, h] at e; exact hn xs (Option.some.inj e))]
  exact e
theorem Tk.new {H : Hp} {d : Addr} {o : HO} (h : H d = none) : Tk H (L2.upd H d o) := Tk.of (Ex.new h)
def PlanAt (H : Hp) (p : Addr) (plan : Plan) : Prop := ∃ ar nr : Nat → Addr, H p = some (.tup ((List.range plan.length).map fun j => V.ref (ar j))) ∧
  ∀ j, j < plan.length → H (ar j) = some (.tup [iN (ln plan j), .ref (nr j), iN (rm plan j)]) ∧ H (nr j) = some (.tup ((nd plan j).map iN))
theorem PlanAt.tk {H H' : Hp} {p : Addr} {plan : Plan} (t : Tk H H') (h : PlanAt H p plan) : PlanAt H' p plan := by
  obtain ⟨ar, nr, h1, h2⟩ := h
  exact ⟨ar, nr, t _ _ h1, fun j hj => ⟨t _ _ (h2 j hj).1, t _ _ (h2 j hj).2⟩⟩
theorem PlanAt.ex {H H' : Hp} {p : Addr} {plan : Plan} (e : Ex H H') (h : PlanAt H p plan) : PlanAt H' p plan := h.tk (.of e)
def kN (j : Nat) : Key := Sum.inl (j : Int)
def begV (b : Beg) : List (Key × V) := b.map fun q => (kN q.1, iN q.2)
def BegR (H : Hp) (d : Addr) (b : Beg) : Prop := Rd H d (.dK (begV b))
theorem BegR.of {H : Hp} {d : Addr} {b : Beg} (h : H d = some (.dK (begV b))) : BegR H d b := .inl h
theorem BegR.frz {H : Hp} {d : Addr} {o : Obj} {b : Beg} (h : H d = some (.frz o (.dK (begV b)))) : BegR H d b := .inr ⟨o, h⟩
theorem BegR.ex {H H' : Hp} {d : Addr} {b : Beg} (e : Ex H H') (h : BegR H d b) : BegR H' d b := ex_rd e h
theorem begV_len (b : Beg) : (begV b).length = b.length := by simp [begV]
theorem kN_inj {i j : Nat} : (kN i = kN j) ↔ i = j := by
  unfold kN
  constructor
  · intro h; have := Sum.inl.inj h; omega
  · rintro rfl; rfl
theorem begV_look (j : Nat) : ∀ b : Beg, valV (begV b) (kN j) = (look b j).map iN
  | [] => rfl
  | q :: r => by
    have ih := begV_look j r
    unfold begV look at *
    rw [List.map_cons, List.find?_cons]
    by_cases e : q.1 = j
    · rw [valV_pos (kN_inj.mpr e), decide_eq_true e]
      rfl
    · rw [valV_neg (fun z => e (kN_inj.mp z)), ih, decide_eq_false e]
theorem begV_app (b : Beg) (j m : Nat) (h : j ∉ ks b) : putK (begV b) (kN j) (iN m) = begV (b ++ [(j, m)]) := by
  rw [putK_new _ (by rw [begV_look, Mx.look_none h]; rfl)]
  simp [begV]
theorem begV_keys (b : Beg) : (begV b).map (fun q => kV q.1) = (ks b).map iN := by
  simp only [begV, ks, List.map_map]
  rfl
/-! ## what evaluates to what, by relation -/
def EvR (te : TE) (σ : L2.St) (H : Hp) (R : V → Hp → Prop) : Prop := ∀ H1, Ex H H1 → ∀ Q : VK, (∀ v H2, Ex H1 H2 → R v H2 → Q v H2) → te σ H1 Q
def EvLR (te : TE) (σ : L2.St) (H : Hp) (R : List V → Hp → Prop) : Prop := ∀ H1, Ex H H1 → ∀ Q : VK, (∀ p vs H2, H1 p = none → Ex H1 H2 → H2 p = some (.lst vs) → R vs H2 → Q (.ref p) H2) → te σ H1 Q
section
variable {K : PySem.W.Frag} {σ : L2.St} {H H' : Hp} {ta tb tc te tx tp tj td ty : TE} {t u : TT} {x y z v : V} {r r' : R2}
theorem EvR.of (h : Ev te σ H v) : EvR te σ H fun w _ => w = v := fun H1 e Q q => h H1 e Q fun H2 e2 => q v H2 e2 rfl
theorem EvR.mono {R : V → Hp → Prop} (e : Ex H H') (h : EvR te σ H R) : EvR te σ H' R := fun H1 a Q q => h H1 (e.trans a) Q q
theorem EvR.imp {R R' : V → Hp → Prop} (h : EvR te σ H R) (f : ∀ v H2, Ex H H2 → R v H2 → R' v H2) : EvR te σ H R' := fun H1 e Q q => h H1 e Q fun v H2 e2 r => q v H2 e2 (f v H2 (e.trans e2) r)
theorem EvLR.mono {R : List V → Hp → Prop} (e : Ex H H') (h : EvLR te σ H R) : EvLR te σ H' R := fun H1 a Q q => h H1 (e.trans a) Q q
theorem EvLR.of {xs : List V} (h : EvL te σ H xs) : EvLR te σ H fun ws _ => ws = xs := fun H1 e Q q => h H1 e Q fun p H2 hp e2 h2 => q p xs H2 hp e2 h2 rfl
theorem EvLR.toL {xs : List V} (h : EvLR te σ H fun ws _ => ws = xs) : EvL te σ H xs := fun H1 e Q q => h H1 e Q fun p ws H2 hp e2 h2 hw => q p H2 hp e2 (hw ▸ h2)
/-! numbers -/
theorem ev_intN (n : Nat) : Ev (tC (.int (n : Int))) σ H (iN n) := ev_c
theorem ev_addN {a b : Nat} (ha : Ev ta σ H (iN a)) (hb : Ev tb σ H (iN b)) : Ev (tOp (rI0 fun i j => V.int (i + j)) ta tb) σ H (iN (a + b)) := ev_is (ev_op ha hb rv_I0) (by simp [iN])
theorem ev_ltN {a b : Nat} (ha : Ev ta σ H (iN a)) (hb : Ev tb σ H (iN b)) : Ev (tOp (rI0 fun i j => V.bl (decide (i < j))) ta tb) σ H (.bl (decide (a < b))) := ev_is (ev_op ha hb rv_I0) (by simp [iN])
theorem ev_leN {a b : Nat} (ha : Ev ta σ H (iN a)) (hb : Ev tb σ H (iN b)) : Ev (tOp (rI0 fun i j => V.bl (decide (i ≤ j))) ta tb) σ H (.bl (decide (a ≤ b))) := ev_is (ev_op ha hb rv_I0) (by simp [iN])
theorem ev_gtN {a b : Nat} (ha : Ev ta σ H (iN a)) (hb : Ev tb σ H (iN b)) : Ev (tOp (rI0 fun i j => V.bl (decide (j < i))) ta tb) σ H (.bl (decide (b < a))) := ev_is (ev_op ha hb rv_I0) (by simp [iN])
theorem ev_geN {a b : Nat} (ha : Ev ta σ H (iN a)) (hb : Ev tb σ H (iN b)) : Ev (tOp (rI0 fun i j => V.bl (decide (j ≤ i))) ta tb) σ H (.bl (decide (b ≤ a))) := ev_is (ev_op ha hb rv_I0) (by simp [iN])
theorem ev_I {g : Int → Int → V} {i j : Int} (ha : Ev ta σ H (.int i)) (hb : Ev tb σ H (.int j)) : Ev (tOp (rI0 g) ta tb) σ H (g i j) := ev_op ha hb rv_I0
theorem ev_chain {k l : Bool} (ha : Ev ta σ H x) (hb : Ev tb σ H y) (hr : RV r x y H (.bl k)) (hc : k = true → Ev tc σ H z ∧ RV r' y z H (.bl l)) : Ev (tChain r r' ta tb tc) σ H (.bl (k && l)) := fun H1 e Q q =>
  ha H1 e _ fun H2 e2 => hb H2 (e.trans e2) _ fun H3 e3 => hr H3 ((e.trans e2).trans e3) _ fun H4 e4 => ⟨k, rfl, by
    cases k with
    | true =>
      obtain ⟨c1, c2⟩ := hc rfl
      show tc σ H4 fun w' H5 => r' y w' H5 Q
      exact c1 H4 (((e.trans e2).trans e3).trans e4) _ fun H5 e5 => c2 H5 ((((e.trans e2).trans e3).trans e4).trans e5) Q fun H6 e6 => q H6 ((((e2.trans e3).trans e4).trans e5).trans e6)
    | false =>
      show Q (.bl false) H4
      exact q H4 ((e2.trans e3).trans e4)⟩
/-! dicts -/
theorem ev_dget {d : Addr} {b : Beg} {j : Nat} (hd : Ev td σ H (.ref d)) (hy : Ev ty σ H (iN j)) (hb : BegR H d b) (hj : j ∈ ks b) : Ev (tDGet td ty) σ H (iN (T b j)) := fun H1 e Q q =>
  hd H1 e _ fun H2 e2 => hy H2 (e.trans e2) _ fun H3 e3 => ⟨d, iN (T b j), rfl, .inl ⟨begV b, kN j, ex_rd ((e.trans e2).trans e3) hb, rfl, by rw [begV_look, Mx.look_T hj]; rfl⟩, q H3 (e2.trans e3)⟩
theorem ev_din {d : Addr} {b : Beg} {j : Nat} (hd : Ev td σ H (.ref d)) (hy : Ev ty σ H (iN j)) (hb : BegR H d b) : Ev (tDIn ty td) σ H (.bl (has b j)) := fun H1 e Q q =>
  hy H1 e _ fun H2 e2 => hd H2 (e.trans e2) _ fun H3 e3 => ⟨d, (look b j).map iN, rfl, .inl ⟨begV b, kN j, ex_rd ((e.trans e2).trans e3) hb, rfl, by rw [begV_look]⟩, by
    rw [Option.isSome_map]
    exact q H3 (e2.trans e3)⟩
theorem ev_dnotin {d : Addr} {b : Beg} {j : Nat} (hd : Ev td σ H (.ref d)) (hy : Ev ty σ H (iN j)) (hb : BegR H d b) : Ev (tDNotIn ty td) σ H (.bl (!has b j)) := fun H1 e Q q =>
  hy H1 e _ fun H2 e2 => hd H2 (e.trans e2) _ fun H3 e3 => ⟨d, (look b j).map iN, rfl, .inl ⟨begV b, kN j, ex_rd ((e.trans e2).trans e3) hb, rfl, by rw [begV_look]⟩, by
    rw [Option.isSome_map]
    exact q H3 (e2.trans e3)⟩
/-! plans -/
theorem ev_job {p : Addr} {plan : Plan} {j : Nat} (hp : Ev tp σ H (.ref p)) (hj : Ev tj σ H (iN j)) (P : PlanAt H p plan) (h : j < plan.length) :
    ∃ a n, H a = some (.tup [iN (ln plan j), .ref n, iN (rm plan j)]) ∧ H n = some (.tup ((nd plan j).map iN)) ∧ Ev (tOp (rIxT K) tp tj) σ H (.ref a) := by
  obtain ⟨ar, nr, h1, h2⟩ := P
  obtain ⟨q2, q3⟩ := h2 j h
  exact ⟨ar j, nr j, q2, q3, ev_op hp hj (rv_ixT (st_of h1) (atI_nat (by rw [List.getElem?_map, List.getElem?_range h]; rfl)))⟩
theorem ev_len {p : Addr} {plan : Plan} {j : Nat} (hp : Ev tp σ H (.ref p)) (hj : Ev tj σ H (iN j)) (P : PlanAt H p plan) (h : j < plan.length) : Ev (tOp (rIxT K) (tOp (rIxT K) tp tj) (tC (.int 0))) σ H (iN (ln plan j)) := by
  obtain ⟨a, n, h1, h2, h3⟩ := ev_job (K := K) hp hj P h
  exact ev_op h3 (ev_c (v := .int ((0 : Nat) : Int))) (rv_ixT (st_of h1) (atI_nat rfl))
theorem ev_rm {p : Addr} {plan : Plan} {j : Nat} (hp : Ev tp σ H (.ref p)) (hj : Ev tj σ H (iN j)) (P : PlanAt H p plan) (h : j < plan.length) : Ev (tOp (rIxT K) (tOp (rIxT K) tp tj) (tC (.int 2))) σ H (iN (rm plan j)) := by
  obtain ⟨a, n, h1, h2, h3⟩ := ev_job (K := K) hp hj P h
  exact ev_op h3 (ev_c (v := .int ((2 : Nat) : Int))) (rv_ixT (st_of h1) (atI_nat rfl))
theorem ev_nd {p : Addr} {plan : Plan} {j : Nat} (hp : Ev tp σ H (.ref p)) (hj : Ev tj σ H (iN j)) (P : PlanAt H p plan) (h : j < plan.length) : ∃ n, H n = some (.tup ((nd plan j).map iN)) ∧ Ev (tOp (rIxT K) (tOp (rIxT K) tp tj) (tC (.int 1))) σ H (.ref n) := by
  obtain ⟨a, n, h1, h2, h3⟩ := ev_job (K := K) hp hj P h
  exact ⟨n, h2, ev_op h3 (ev_c (v := .int ((1 : Nat) : Int))) (rv_ixT (st_of h1) (atI_nat rfl))⟩
/-! ## what is walked -/
structure GoJ (J : It) (items : List V) (G : Hp → Prop) : Prop where
  go : ∀ i H, i < items.length → G H → J.go i H
  stop : ∀ i H, items.length ≤ i → G H → J.stop i H
  yld : ∀ i H x H', i < items.length → G H → J.yld i H x H' → H' = H ∧ items[i]? = some x
def EvI (wi : TI) (σ : L2.St) (H : Hp) (items : List V) : Prop := ∀ H1, Ex H H1 → ∀ R : It → Hp → Prop, (∀ J H2, Ex H1 H2 → GoJ J items (Ex H2) → R J H2) → wi σ H1 R
theorem go_list {a : Addr} {xs : List V} (h : SqL K H a xs) : GoJ (Itl K a) xs (Ex H) where
  go := fun i H' hi e => ⟨xs, xs[i], ex_l e h, List.getElem?_eq_getElem hi⟩
  stop := fun i H' hi e => ⟨xs, ex_l e h, hi⟩
  yld := fun i H' x H2 hi e y => ⟨y.1, y.2 xs (ex_l e h)⟩
theorem go_tup {a : Addr} {xs : List V} (h : SqT K H a xs) : GoJ (Itt K a) xs (Ex H) where
  go := fun i H' hi e => ⟨xs, xs[i], ex_t e h, List.getElem?_eq_getElem hi⟩
  stop := fun i H' hi e => ⟨xs, ex_t e h, hi⟩
  yld := fun i H' x H2 hi e y => ⟨y.1, y.2 xs (ex_t e h)⟩
theorem go_range {lo : Int} {n : Nat} : GoJ (Itr lo n) ((List.range n).map fun i : Nat => V.int (lo + (i : Int))) (Ex H) where
  go := fun i H' hi e => by
    rw [List.length_map, List.length_range] at hi
    exact hi
  stop := fun i H' hi e => by
    rw [List.length_map, List.length_range] at hi
    exact hi
  yld := fun i H' x H2 hi e y => by
    obtain ⟨e1, e2⟩ := y
    have hi' : i < n := by simpa using hi
    refine ⟨e1, ?_⟩
    rw [e2, List.getElem?_map, List.getElem?_range hi']
    rfl
theorem go_keys {d : Addr} {o : Obj} {kvs : List (Key × V)} (h : H d = some (.frz o (.dK kvs))) : GoJ (Itk d o kvs) (kvs.map fun q => kV q.1) (Ex H) where
  go := fun i H' hi e => ⟨e _ _ h, by simpa using hi⟩
  stop := fun i H' hi e => ⟨e _ _ h, by simpa using hi⟩
  yld := fun i H' x H2 hi e y => by
    obtain ⟨e1, k, v, e2, e3⟩ := y
    refine ⟨e1, ?_⟩
    rw [List.getElem?_map, e2, e3]
    rfl
theorem ei_list {tl : TE} {a : Addr} {xs : List V} (h : Ev tl σ H (.ref a)) (hx : SqL K H a xs) : EvI (iList K tl) σ H xs := fun H1 e R q =>
  h H1 e _ fun H2 e2 => ⟨a, rfl, ⟨xs, ex_l (e.trans e2) hx⟩, q _ H2 e2 (go_list (ex_l (e.trans e2) hx))⟩
theorem ei_listN {tl : TE} {xs : List V} (h : EvL tl σ H xs) : EvI (iList K tl) σ H xs := fun H1 e R q =>
  h H1 e _ fun a H2 _ e2 ha => ⟨a, rfl, ⟨xs, sq_of ha⟩, q _ H2 e2 (go_list (sq_of ha))⟩
theorem ei_tup {tl : TE} {a : Addr} {xs : List V} (h : Ev tl σ H (.ref a)) (hx : SqT K H a xs) : EvI (iTup K tl) σ H xs := fun H1 e R q =>
  h H1 e _ fun H2 e2 => ⟨a, rfl, ⟨xs, ex_t (e.trans e2) hx⟩, q _ H2 e2 (go_tup (ex_t (e.trans e2) hx))⟩
theorem ei_range1 {ta : TA} {n : Nat} (h : EvA ta σ H [iN n]) (hn : n ≤ 100000) : EvI (iRng1 ta) σ H ((List.range n).map iN) := fun H1 e R q =>
  h H1 e _ fun H2 e2 => ⟨(n : Int), rfl, by omega, by omega, by
    have g := go_range (H := H2) (lo := 0) (n := n)
    simp only [Int.zero_add] at g
    exact q _ H2 e2 g⟩
theorem ei_range2 {ta : TA} {lo n : Nat} (h : EvA ta σ H [iN lo, iN n]) (hl : lo ≤ 100000) (hn : n ≤ 100000) : EvI (iRng2 ta) σ H ((List.range (n - lo)).map fun i : Nat => iN (lo + i)) := fun H1 e R q =>
  h H1 e _ fun H2 e2 => ⟨(lo : Int), (n : Int), rfl, ⟨by omega, by omega, by omega, by omega⟩, by
    have e0 : ((n : Int) - (lo : Int)).toNat = n - lo := by omega
    have e3 : (fun i : Nat => V.int ((lo : Int) + (i : Int))) = fun i => iN (lo + i) := by funext i; simp [iN]
    have g := go_range (H := H2) (lo := (lo : Int)) (n := n - lo)
    rw [e3] at g
    rw [e0]
    exact q _ H2 e2 g⟩
theorem ei_keys {d : Addr} {o : Obj} {kvs : List (Key × V)} (h : Ev td σ H (.ref d)) (hd : H d = some (.frz o (.dK kvs))) : EvI (iKeys td) σ H (kvs.map fun q => kV q.1) := fun H1 e R q =>
  h H1 e _ fun H2 e2 => ⟨d, o, rfl, .inl ⟨kvs, e2 _ _ (e _ _ hd), q _ H2 e2 (go_keys (e2 _ _ (e _ _ hd)))⟩⟩
/-! ## comprehensions -/
def Cx2 {α : Type} (H : Hp) (xs : List α) (P : α → Bool) (Rl : α → V → Hp → Prop) (D : Addr) (i : Nat) (H' : Hp) : Prop := H D = none ∧ Ex H H' ∧ ∃ ws, H' D = some (.lst ws) ∧ Paired (fun x w => Rl x w H') ((xs.take i).filter P) ws
theorem take_succ_filter {α : Type} {xs : List α} {i : Nat} {x : α} (h : xs[i]? = some x) (P : α → Bool) : (xs.take (i + 1)).filter P = (xs.take i).filter P ++ (if P x = true then [x] else []) := by
  rw [List.take_add_one, h, List.filter_append]
  congr 1
  show List.filter P [x] = _
  rw [List.filter_cons]
  rfl
theorem lc_R {α : Type} {wi : TI} {g : TG} {vs : List Nat} (xs : List α) (enc : α → V) (P : α → Bool) (σx : α → L2.St) (Rl : α → V → Hp → Prop)
    (hRm : ∀ x v H H', Tk H H' → Rl x v H → Rl x v H') (hi : EvI wi σ H (xs.map enc)) (hz : xs.length ≤ 40000)
    (hg : ∀ x ∈ xs, ∀ H1, Ex H H1 → ∀ Q : L2.St → Hp → Prop, (∀ H2, Ex H1 H2 → Q (σx x) H2) → g (enc x) (wipe σ vs) H1 Q) (hw : ∀ x ∈ xs, wipe (σx x) vs = wipe σ vs)
    (ht : ∀ x ∈ xs, EvT t (σx x) H (P x)) (he : ∀ x ∈ xs, P x = true → EvR te (σx x) H (Rl x)) : EvLR (tLc wi g t te vs) σ H fun ws H' => Paired (fun x w => Rl x w H') (xs.filter P) ws := fun H0 e Q q =>
  hi H0 e _ fun J H1 e1 go D hD => by
    have lx : (xs.map enc).length = xs.length := List.length_map ..
    have e01 : Ex H H1 := e.trans e1
    have fresh0 : ∀ {H' : Hp}, Ex H1 H' → True := fun _ => True.intro
    refine ⟨fun i m H' => m = xs.length - i ∧ i ≤ xs.length ∧ Cx2 H1 xs P Rl D i H', ⟨_, rfl, Nat.zero_le _, hD, Ex.new hD, [], upd_same, by rw [List.take_zero]; exact .nil⟩, ?_⟩
    rintro i m H' ⟨rfl, hi', h0, h1, ws, h2, h3⟩
    by_cases hlt : i < xs.length
    · refine .inr ⟨go.go i H' (by rw [lx]; exact hlt) h1, Cx2 H1 xs P Rl D (i + 1), fun H'' c => ⟨xs.length - (i + 1), by omega, rfl, hlt, c⟩, fun x H'' y => ?_⟩
      obtain ⟨ey, gx⟩ := go.yld i H' x H'' (by rw [lx]; exact hlt) h1 y
      subst ey
      have hx : xs[i]? = some xs[i] := List.getElem?_eq_getElem hlt
      rw [List.getElem?_map, hx] at gx
      have gx' : enc xs[i] = x := Option.some.inj gx
      subst gx'
      have mem : xs[i] ∈ xs := List.getElem_mem hlt
      refine hg xs[i] mem H'' (e01.trans h1) _ fun H3 e3 => ⟨hw _ mem, ?_⟩
      refine ht xs[i] mem H3 ((e01.trans h1).trans e3) _ fun H4 e4 => ?_
      have h14 : Ex H1 H4 := (h1.trans e3).trans e4
      cases hP : P xs[i] with
      | true =>
        show te (σx xs[i]) H4 _
        refine he xs[i] mem hP H4 (e01.trans h14) _ fun w H5 e5 rw5 => ⟨ws, e5 _ _ (e4 _ _ (e3 _ _ h2)), ?_, h0, Ex.mut (h14.trans e5) h0, ws ++ [w], upd_same, ?_⟩
        · have l1 : ws.length = ((xs.take i).filter P).length := (Paired.length h3).symm
          have l2 := List.length_filter_le P (xs.take i)
          rw [List.length_take] at l2
          exact sz_lt (by omega)
        · have tk5 : Tk H5 (upd H5 D (.lst (ws ++ [w]))) := Tk.upd (e5 _ _ (e4 _ _ (e3 _ _ h2))) (fun _ z => nomatch z)
          rw [take_succ_filter hx, if_pos hP]
          exact Paired.snoc (Paired.mapP h3 fun a b r => hRm a b _ _ (((Tk.of e3).trans (Tk.of e4)).trans ((Tk.of e5).trans tk5)) r) (hRm _ _ _ _ tk5 rw5)
      | false =>
        show Cx2 H1 xs P Rl D (i + 1) H4
        refine ⟨h0, h14, ws, e4 _ _ (e3 _ _ h2), ?_⟩
        rw [take_succ_filter hx, if_neg (by rw [hP]; exact Bool.false_ne_true), List.append_nil]
        exact Paired.mapP h3 fun a b r => hRm a b _ _ ((Tk.of e3).trans (Tk.of e4)) r
    · have ei : i = xs.length := by omega
      subst ei
      refine .inl ⟨go.stop _ H' (by rw [lx]; exact Nat.le_refl _) h1, q D ws H' (fresh_back e1 h0) (e1.trans h1) h2 ?_⟩
      rw [List.take_length] at h3
      exact h3
theorem paired_eq {α : Type} {f : α → V} : ∀ {xs : List α} {ws : List V}, Paired (fun x w => w = f x) xs ws → ws = xs.map f
  | _, _, .nil => rfl
  | _, _, .cons h t => by rw [List.map_cons, ← paired_eq t, h]
/-- elements that are values -/
theorem lc_V {α : Type} {wi : TI} {g : TG} {vs : List Nat} (xs : List α) (enc : α → V) (P : α → Bool) (f : α → V) (σx : α → L2.St)
    (hi : EvI wi σ H (xs.map enc)) (hz : xs.length ≤ 40000)
    (hg : ∀ x ∈ xs, ∀ H1, Ex H H1 → ∀ Q : L2.St → Hp → Prop, (∀ H2, Ex H1 H2 → Q (σx x) H2) → g (enc x) (wipe σ vs) H1 Q) (hw : ∀ x ∈ xs, wipe (σx x) vs = wipe σ vs)
    (ht : ∀ x ∈ xs, EvT t (σx x) H (P x)) (he : ∀ x ∈ xs, P x = true → Ev te (σx x) H (f x)) : EvL (tLc wi g t te vs) σ H ((xs.filter P).map f) := fun H1 e Q q =>
  lc_R xs enc P σx (fun x w _ => w = f x) (fun _ _ _ _ _ h => h) hi hz hg hw ht (fun x hx hp => EvR.of (he x hx hp)) H1 e Q fun p ws H2 hp e2 h2 pr => q p H2 hp e2 (by rw [← paired_eq pr]; exact h2)
/-- the target a name, no test, one test -/
theorem lc_n {α : Type} {wi : TI} {vs : List Nat} {j : Nat} (xs : List α) (enc : α → V) (P : α → Bool) (f : α → V) (hi : EvI wi σ H (xs.map enc)) (hz : xs.length ≤ 40000) (hw : ∀ x, wipe ((wipe σ vs).set j (some x)) vs = wipe σ vs)
    (ht : ∀ x ∈ xs, EvT t ((wipe σ vs).set j (some (enc x))) H (P x)) (he : ∀ x ∈ xs, P x = true → Ev te ((wipe σ vs).set j (some (enc x))) H (f x)) : EvL (tLc wi (gName j) t te vs) σ H ((xs.filter P).map f) :=
  lc_V xs enc P f (fun x => (wipe σ vs).set j (some (enc x))) hi hz (fun x _ H1 _ Q q => q H1 (Ex.refl H1)) (fun x _ => hw _) ht he
theorem et_yes : EvT tYes σ H true := fun H1 _ Q q => q H1 (Ex.refl H1)
theorem filter_yes {α : Type} (xs : List α) : xs.filter (fun _ => true) = xs := List.filter_eq_self.mpr fun _ _ => rfl
theorem lc_0 {α : Type} {wi : TI} {vs : List Nat} {j : Nat} (xs : List α) (enc : α → V) (f : α → V) (hi : EvI wi σ H (xs.map enc)) (hz : xs.length ≤ 40000) (hw : ∀ x, wipe ((wipe σ vs).set j (some x)) vs = wipe σ vs)
    (he : ∀ x ∈ xs, Ev te ((wipe σ vs).set j (some (enc x))) H (f x)) : EvL (tLc wi (gName j) tYes te vs) σ H (xs.map f) := by
  have q := lc_n (t := tYes) xs enc (fun _ => true) f hi hz hw (fun _ _ => et_yes) (fun x hx _ => he x hx)
  rw [filter_yes] at q
  exact q
/-- over a dict that is locked meanwhile -/
theorem el_lock {d : Addr} {u : HO} {xs : List V} (hd : H d = some u) (mu : Mut (some u)) (h : ∀ od, EvL te σ (upd H d (.frz od u)) xs) : EvL (tLockE te) σ H xs := fun H1 e Q q => by
  refine ⟨d, u, e _ _ hd, mu, fun od => ?_⟩
  have e1 : Ex (upd H d (.frz od u)) (upd H1 d (.frz od u)) := fun b o hb => by
    by_cases z : b = d
    · subst z; rw [upd_same] at hb ⊢; exact hb
    · rw [upd_ne z] at hb ⊢; exact e _ _ hb
  refine h od _ e1 _ fun p H2 hp e2 h2 => ?_
  have npd : p ≠ d := fun z => by rw [z, upd_same] at hp; cases hp
  refine ⟨e2 _ _ upd_same, q p _ (by rw [upd_ne npd] at hp; exact hp) (fun b o hb => ?_) (by rw [upd_ne npd]; exact h2)⟩
  by_cases z : b = d
  · subst z
    rw [e _ _ hd] at hb
    cases hb
    exact upd_same
  · rw [upd_ne z]
    exact e2 _ _ (by rw [upd_ne z]; exact hb)
/-! ## calls of built-ins over new lists -/
theorem ev_callL {rr : List V → Hp → VK → Prop} {xs : List V} (h : EvL ta σ H xs) (hr : ∀ p H1, Ex H H1 → H1 p = some (.lst xs) → ∀ Q : VK, Q z H1 → rr [.ref p] H1 Q) : Ev (tCB rr (tCons ta tNil)) σ H z := fun H1 e Q q =>
  h H1 e _ fun p H2 hp e2 h2 => hr p H2 (e.trans e2) h2 Q (q H2 e2)
theorem map_int (l : List Nat) : l.map iN = (l.map fun n : Nat => (n : Int)).map V.int := by rw [List.map_map]; rfl
theorem sum_cast : ∀ l : List Nat, (l.map fun n : Nat => (n : Int)).sum = ((l.sum : Nat) : Int)
  | [] => rfl
  | a :: r => by rw [List.map_cons, List.sum_cons, List.sum_cons, sum_cast r]; simp
theorem ev_sum {l : List Nat} (h : EvL ta σ H (l.map iN)) : Ev (tCB (rSum K) (tCons ta tNil)) σ H (iN l.sum) := ev_callL h fun p H1 e h1 Q q => ⟨p, l.map fun n : Nat => (n : Int), rfl, by rw [← map_int]; exact sq_of h1, by rw [sum_cast]; exact q⟩
theorem ev_max {l : List Nat} (hne : l ≠ []) (h : EvL ta σ H (l.map iN)) : Ev (tCB (rMax K) (tCons ta tNil)) σ H (iN (Mx.maxL l)) := ev_callL h fun p H1 e h1 Q q => ⟨p, l.map fun n : Nat => (n : Int), rfl, by rw [← map_int]; exact sq_of h1, by rw [List.length_map]; exact List.length_pos_iff.mpr hne, fun m hm hle => by
  obtain ⟨n, hn, rfl⟩ := List.mem_map.mp hm
  rw [Mx.maxL_eq hn fun x hx => by have := hle (x : Int) (List.mem_map.mpr ⟨x, hx, rfl⟩); omega]
  exact q⟩
theorem ev_min {l : List Nat} (hne : l ≠ []) (h : EvL ta σ H (l.map iN)) : Ev (tCB (rMin K) (tCons ta tNil)) σ H (iN (Mx.minL l)) := ev_callL h fun p H1 e h1 Q q => ⟨p, l.map fun n : Nat => (n : Int), rfl, by rw [← map_int]; exact sq_of h1, by rw [List.length_map]; exact List.length_pos_iff.mpr hne, fun m hm hle => by
  obtain ⟨n, hn, rfl⟩ := List.mem_map.mp hm
  rw [Mx.minL_eq hn fun x hx => by have := hle (x : Int) (List.mem_map.mpr ⟨x, hx, rfl⟩); omega]
  exact q⟩
theorem ev_minK {a : Addr} {l : List Nat} (hne : l ≠ []) (h : Ev ta σ H (.ref a)) (ha : SqL K H a (l.map iN)) : Ev (tCB (rMin K) (tCons ta tNil)) σ H (iN (Mx.minL l)) := fun H1 e Q q => h H1 e _ fun H2 e2 => ⟨a, l.map fun n : Nat => (n : Int), rfl, by rw [← map_int]; exact ex_l (e.trans e2) ha, by rw [List.length_map]; exact List.length_pos_iff.mpr hne, fun m hm hle => by
  obtain ⟨n, hn, rfl⟩ := List.mem_map.mp hm
  rw [Mx.minL_eq hn fun x hx => by have := hle (x : Int) (List.mem_map.mpr ⟨x, hx, rfl⟩); omega]
  exact q H2 e2⟩
theorem ev_maxK {a : Addr} {l : List Nat} (hne : l ≠ []) (h : Ev ta σ H (.ref a)) (ha : SqL K H a (l.map iN)) : Ev (tCB (rMax K) (tCons ta tNil)) σ H (iN (Mx.maxL l)) := fun H1 e Q q => h H1 e _ fun H2 e2 => ⟨a, l.map fun n : Nat => (n : Int), rfl, by rw [← map_int]; exact ex_l (e.trans e2) ha, by rw [List.length_map]; exact List.length_pos_iff.mpr hne, fun m hm hle => by
  obtain ⟨n, hn, rfl⟩ := List.mem_map.mp hm
  rw [Mx.maxL_eq hn fun x hx => by have := hle (x : Int) (List.mem_map.mpr ⟨x, hx, rfl⟩); omega]
  exact q H2 e2⟩
theorem _root_.Evl.RV.is {z' : V} (h : RV r x y H z) (e : z = z') : RV r x y H z' := e ▸ h
theorem ev_all {l : List Bool} (h : EvL ta σ H (l.map V.bl)) : Ev (tCB (rAll K) (tCons ta tNil)) σ H (.bl (l.all id)) := ev_callL h fun p H1 e h1 Q q => ⟨p, l, rfl, sq_of h1, q⟩
theorem ev_allF {α : Type} {xs : List α} {f : α → Bool} (h : EvL ta σ H (xs.map fun x => V.bl (f x))) : Ev (tCB (rAll K) (tCons ta tNil)) σ H (.bl (xs.all f)) := by
  have q := ev_all (K := K) (l := xs.map f) (ta := ta) (σ := σ) (H := H) (by rw [List.map_map]; exact h)
  rw [List.all_map] at q
  exact q
theorem ev_sumF {α : Type} {xs : List α} {f : α → Nat} (h : EvL ta σ H (xs.map fun x => iN (f x))) : Ev (tCB (rSum K) (tCons ta tNil)) σ H (iN (xs.map f).sum) := ev_sum (by rw [List.map_map]; exact h)
theorem ev_isi {A B : String} {r : Bool} (ha : Ev ta σ H x) (ht : ∀ H1, Ex H H1 → TyX K H1 x (.type A)) (hk : kitB A B = some r) : Ev (tCB (rIsi K) (tCons ta (tCons (tC (.ty B)) tNil))) σ H (.bl r) :=
  ev_cb (ea_cons ha (ea_cons ev_c ea_nil)) fun H1 e Q q => ⟨_, _, _, _, _, rfl, .ty _, ht H1 e, kit_ty hk, q H1 (Ex.refl H1)⟩
theorem ty_int {H : Hp} {i : Int} : TyX K H (.int i) (.type "int") := .base (.int i)
theorem ty_tup {H H1 : Hp} {a : Addr} {xs : List V} (h : H a = some (.tup xs)) (e : Ex H H1) : TyX K H1 (.ref a) (.type "tuple") := .base (.tup (e _ _ h))
theorem ev_lenL {xs : List V} (h : EvL ta σ H xs) : Ev (tCB (rLenS K) (tCons ta tNil)) σ H (iN xs.length) := ev_lenN h
theorem ev_lenT {p : Addr} {xs : List V} (ha : Ev ta σ H (.ref p)) (h : SqT K H p xs) : Ev (tCB (rLenS K) (tCons ta tNil)) σ H (iN xs.length) := fun H1 e Q q =>
  ha H1 e _ fun H2 e2 => ⟨p, xs, rfl, Or.inr (ex_t (e.trans e2) h), q H2 e2⟩
theorem ev_lenP {p : Addr} {plan : Plan} (ha : Ev ta σ H (.ref p)) (h : PlanAt H p plan) : Ev (tCB (rLenS K) (tCons ta tNil)) σ H (iN plan.length) := by
  obtain ⟨ar, nr, h1, _⟩ := h
  exact ev_is (ev_lenT ha (st_of h1)) (by rw [List.length_map, List.length_range])
def rLenD : List V → Hp → VK → Prop := fun xs H Q => ∃ a kvs, xs = [V.ref a] ∧ H a = some (.dK kvs) ∧ Q (.int kvs.length) H
theorem ev_lenD {d : Addr} {b : Beg} (ha : Ev ta σ H (.ref d)) (h : H d = some (.dK (begV b))) : Ev (tCB rLenD (tCons ta tNil)) σ H (iN b.length) := fun H1 e Q q =>
  ha H1 e _ fun H2 e2 => ⟨d, begV b, rfl, e2 _ _ (e _ _ h), by rw [begV_len]; exact q H2 e2⟩
/-- list + list, both new or known -/
def EvK (te : TE) (σ : L2.St) (H : Hp) (xs : List V) : Prop := ∀ H1, Ex H H1 → ∀ Q : VK, (∀ p H2, Ex H1 H2 → H2 p = some (.lst xs) → Q (.ref p) H2) → te σ H1 Q
theorem EvK.of {xs : List V} (h : EvL te σ H xs) : EvK te σ H xs := fun H1 e Q q => h H1 e Q fun p H2 _ e2 h2 => q p H2 e2 h2
theorem EvK.at {xs : List V} {a : Addr} (h : Ev te σ H (.ref a)) (ha : H a = some (.lst xs)) : EvK te σ H xs := fun H1 e Q q => h H1 e Q fun H2 e2 => q a H2 e2 (e2 _ _ (e _ _ ha))
theorem el_cat {xs ys : List V} (ha : EvK ta σ H xs) (hb : EvK tb σ H ys) (hl : xs.length + ys.length ≤ 100000) : EvL (tOp rCat ta tb) σ H (xs ++ ys) := fun H1 e Q q =>
  ha H1 e _ fun p H2 e2 h2 => hb H2 (e.trans e2) _ fun p2 H3 e3 h3 => ⟨p, p2, xs, ys, rfl, rfl, e3 _ _ h2, h3, sz_of hl, fun l hn => q l _ (fresh_back (e2.trans e3) hn) ((e2.trans e3).trans (Ex.new hn)) upd_same⟩
theorem el_rep {xs : List V} {n : Nat} (ha : EvL ta σ H xs) (hb : Ev tb σ H (iN n)) (hl : xs.length * n ≤ 100000) (hn : n ≤ 100000) : EvL (tOp rRep ta tb) σ H (List.replicate n xs).flatten := fun H1 e Q q =>
  ha H1 e _ fun p H2 hp e2 h2 => hb H2 (e.trans e2) _ fun H3 e3 => ⟨p, (n : Int), xs, rfl, rfl, e3 _ _ h2, by omega, by omega, by
    have : ((n : Int)).toNat = n := by omega
    rw [this]; exact sz_of hl, fun l hn => by
    have e0 : ((n : Int)).toNat = n := by omega
    rw [e0]
    exact q l _ (fresh_back (e2.trans e3) hn) ((e2.trans e3).trans (Ex.new hn)) upd_same⟩
end
/-! ## defs that may be called -/
structure Cal (P : Program) (w : World) (K : PySem.W.Frag) (mg : Str → Option Value) (base : Heap) (k : Nat) (x : Str) (sp : Sp) : Prop where
  ex : ∃ (f : Addr) (fd : FuncData) (ps : List Str), FnOk P w K mg base CX0 k f fd ps sp ∧ mg x = some (.ref f) ∧ PySem.W.keepIn K (.ref f) = true ∧ Binds K fd ps []
structure DefAt (K : PySem.W.Frag) (mg : Str → Option Value) (x : Str) (st : Stmt) (ps : List Str) : Prop where
  ex : ∃ (f : Addr) (fd : FuncData), Fun K x x st f fd ∧ mg x = some (.ref f) ∧ Binds K fd ps []
theorem cal_of {P : Program} {w : World} {K : PySem.W.Frag} {mg : Str → Option Value} {base : Heap} {x : Str} {st : Stmt} {N ps : List Str} {k : Nat} {sp : Sp} (D : DefAt K mg x st ps) (S : FnScope N ps (defScope st)) (len : ∀ vs H Q E, sp vs H Q E → vs.length = ps.length)
    (hbody : ∀ (f : Addr) (cdv : Value) (A : Around) (outer : List Env) (s : Shared) (H : Hp) (vs : List V) (Q : VK) (E : XK), Room k (A.deeper (envOfC x (defScope st) s.heap.objs.size f cdv)) → sp vs H Q E →
      ∃ t, PSs (cxOf CX0 P w K mg base N x (defScope st) f cdv A outer s H E).nox (defBody st) t ∧ t { nx := fun _ H' => Q .non H', rt := Q } (start N vs) H) : Cal P w K mg base (k + 1) x sp := by
  obtain ⟨f, fd, F, hm, hb⟩ := D.ex
  exact ⟨f, fd, ps, F.ok S len fun cdv A outer s H vs Q E hr h => hbody f cdv A outer s H vs Q E hr h, hm, F.kp, hb⟩
theorem pe_c {X : Cx} {k j : Nat} {x : Str} {sp : Sp} {p pos : Pos} {e : Expr} {es : List Expr} {t : TA} (c : Cal X.prog X.w X.K X.mg X.base k x sp) (hr : Room j X.A) (hk : k ≤ j) (hg : Gl X x) (ha : PA X (e :: es) t)
    (hdb : (x == ("__debug__" : Str)) = false := by decide) (he : starEach (e :: es) X.env = (false, eval e X.env) :: starEach es X.env := by rfl) (hpl : (backTo pos (starEach es X.env)).any (·.1) = false := by rfl) :
    PE X (.Call (.Name x p) (e :: es) [] pos) (tCall sp [] E0 t) := by
  obtain ⟨f, fd, ps, F, hm, kp, b⟩ := c.ex
  exact pe_call F (hr.mono hk) hg hm kp b .nil pass0 ha hdb he hpl
/-- the promises' shapes -/
theorem for_enumT {K : PySem.W.Frag} {a : Addr} {xs : List V} {g : TG} {tb : TS} {D : L2.Ends} {σ : L2.St} {H : Hp} (Pv : Nat → L2.St → Hp → Prop) (h0 : Pv 0 σ H) (hl : ∀ i σ H, i ≤ xs.length → Pv i σ H → SqT K H a xs)
    (hs : ∀ i x σ H T, xs[i]? = some x → Pv i σ H → H T = none → g (.ref T) σ (L2.upd H T (.tup [iN i, x])) fun σ2 H2 => tb { D with nx := Pv (i + 1), ct := Pv (i + 1), bk := D.nx } σ2 H2) (hd : ∀ σ H, Pv xs.length σ H → D.nx σ H) :
    ∃ W : Nat → Nat → L2.St → Hp → Prop, (∃ m, W 0 m σ H) ∧ ∀ i m σ H, W i m σ H →
      ((ItN K a).stop i H ∧ D.nx σ H) ∨ ((ItN K a).go i H ∧ ∃ N : L2.St → Hp → Prop, (∀ σ' H', N σ' H' → ∃ m', m' < m ∧ W (i + 1) m' σ' H') ∧ ∀ x H', (ItN K a).yld i H x H' → g x σ H' fun σ2 H2 => tb { D with nx := N, ct := N, bk := D.nx } σ2 H2) := by
  refine ⟨fun i m σ H => m = xs.length - i ∧ i ≤ xs.length ∧ Pv i σ H, ⟨_, rfl, Nat.zero_le _, h0⟩, ?_⟩
  rintro i m σ H ⟨rfl, hi, p⟩
  have q := hl i σ H hi p
  by_cases hlt : i < xs.length
  · refine .inr ⟨⟨xs, xs[i], q, List.getElem?_eq_getElem hlt⟩, Pv (i + 1), fun σ' H' p' => ⟨xs.length - (i + 1), by omega, rfl, hlt, p'⟩, fun x H' y => ?_⟩
    obtain ⟨T, z, rfl, hT, rfl, hz⟩ := y
    exact hs i z σ H T (hz xs q) p hT
  · have e : i = xs.length := by omega
    subst e
    exact .inl ⟨⟨xs, q, Nat.le_refl _⟩, hd σ H p⟩
abbrev Ret (Q : VK) (H : Hp) (v : V) : Prop := ∀ H', Ex H H' → Q v H'
theorem ev_c1 {σ : L2.St} {H : Hp} {sp : Sp} {vs : List V} {z : V} {ta : TA} (h : EvA ta σ H vs) (hs : ∀ H1, Ex H H1 → ∀ Q : VK, Ret Q H1 z → ∀ E : XK, sp vs H1 Q E) : Ev (tCall sp [] E0 ta) σ H z :=
  ev_call h (by rw [List.append_nil]; exact fun H1 e Q q E => hs H1 e Q q E)
end Wk
end

section
set_option Elab.async false
set_option linter.all false
set_option maxRecDepth 100000
set_option maxHeartbeats 4000000
namespace Wk
open PySem PySem.Spec PyProof.Rows L2 Evl
open Mx (Plan Beg Job jb ln nd rm ks look has T)
/-! ## the text by places, what the top holds -/
def topS (i : Nat) : Stmt := PySem.Challenge.pw_buildroom_k58_whole_all_orders.main.body.getD i (.Pass ⟨0, 0, 0, 0⟩)
structure Txt (mg : Str → Option Value) : Prop where
  b_int : mg "int" = none
  b_bool : mg "bool" = none
  b_tuple : mg "tuple" = none
  b_list : mg "list" = none
  b_str : mg "str" = none
  b_dict : mg "dict" = none
  b_isinstance : mg "isinstance" = none
  b_all : mg "all" = none
  b_sum : mg "sum" = none
  b_len : mg "len" = none
  b_range : mg "range" = none
  b_max : mg "max" = none
  b_min : mg "min" = none
  b_sorted : mg "sorted" = none
  b_enumerate : mg "enumerate" = none
  c_jobs : ∃ t, mg "PLAN_MOST_JOBS" = some (.int 8 t)
  c_length : ∃ t, mg "PLAN_MOST_LENGTH" = some (.int 99 t)
  c_jroom : ∃ t, mg "PLAN_MOST_JOB_ROOM" = some (.int 9 t)
  c_machines : ∃ t, mg "PLAN_MOST_MACHINES" = some (.int 4 t)
  c_room : ∃ t, mg "PLAN_MOST_ROOM" = some (.int 99 t)
  c_end : ∃ t, mg "PLAN_MOST_END" = some (.int 1000 t)
  c_job : ∃ t, mg "PLAN_JOB" = some (.int 3 t)
  c_few : ∃ t, mg "LIST_MOST_JOBS" = some (.int 6 t)
theorem pe_num {X : Cx} {x : Str} {i : Int} {pos : Pos} (hg : Gl X x) (h : ∃ t, X.mg x = some (.int i t)) (hd : (x == ("__debug__" : Str)) = false := by decide) : PE X (.Name x pos) (tC (.int i)) := by
  obtain ⟨t, h⟩ := h
  exact pe_glob hg h ⟨t, rfl⟩ hd
theorem ix_tK {X : Cx} (K : PySem.W.Frag) (h : X.K = K) : IxR X (rIxT K) := by subst h; exact ix_tup
theorem ix_lK {X : Cx} (K : PySem.W.Frag) (h : X.K = K) : IxR X (rIxL K) := by subst h; exact ix_list
theorem op_inK {X : Cx} (K : PySem.W.Frag) (h : X.K = K) : OpR X (compareOp .In) (rIn K false) := by subst h; exact op_in_seq
theorem op_niK {X : Cx} (K : PySem.W.Frag) (h : X.K = K) : OpR X (compareOp .NotIn) (rIn K true) := by subst h; exact op_notIn_seq
theorem op_catK {X : Cx} (K : PySem.W.Frag) (h : X.K = K) : OpR X (binaryOp .Add) (rCatA K) := by subst h; exact op_catA
section
variable {P : Program} {w : World} {K : PySem.W.Frag} {mg : Str → Option Value} {base : Heap}
theorem one_le {x : V} : ([x] : List V).length ≤ 100000 := by show 1 ≤ 100000; decide
theorem rv_leN {H : Hp} {a b : Nat} : RV (rI0 fun i j => V.bl (decide (i ≤ j))) (iN a) (iN b) H (.bl (decide (a ≤ b))) := fun H1 _ Q q => ⟨a, b, rfl, rfl, by
  have e : decide ((a : Int) ≤ (b : Int)) = decide (a ≤ b) := by simp
  show Q (V.bl _) H1
  rw [e]; exact q H1 (Ex.refl H1)⟩
theorem rv_ltN {H : Hp} {a b : Nat} : RV (rI0 fun i j => V.bl (decide (i < j))) (iN a) (iN b) H (.bl (decide (a < b))) := fun H1 _ Q q => ⟨a, b, rfl, rfl, by
  have e : decide ((a : Int) < (b : Int)) = decide (a < b) := by simp
  show Q (V.bl _) H1
  rw [e]; exact q H1 (Ex.refl H1)⟩
/-! ### is_count: a whole number, between two -/
abbrev s_is_count : Stmt := topS 8
abbrev N_is_count : List Str := ["thing", "low", "high"]
theorem sc_is_count : FnScope N_is_count ["thing", "low", "high"] (defScope s_is_count) := ⟨rfl, rfl, rfl, by decide +kernel, rfl, by decide +kernel, by decide +kernel⟩
def sp_is_count : Sp := fun vs H Q _ => ∃ n a b : Nat, vs = [iN n, iN a, iN b] ∧ Ret Q H (.bl (decide (a ≤ n) && decide (n ≤ b)))
theorem cal_is_count (D : DefAt K mg "is_count" s_is_count ["thing", "low", "high"]) (TX : Txt mg) : Cal P w K mg base 1 "is_count" (sp_is_count) := by
  have hnd := sc_is_count.nd
  refine cal_of D sc_is_count (fun vs H Q E h => ?len) (fun f cdv A outer s H vs Q E hr h => ?body)
  case len => obtain ⟨n, a, b, rfl, _⟩ := h; rfl
  case body =>
    obtain ⟨n, a, b, rfl, k⟩ := h
    refine ⟨_, (pss_one (ps_ret (pe_and (pe_callB call_isi (by rfl) TX.b_isinstance (by decide +kernel) (pa_cons (pv 0) (pa_cons (pe_bltn (v := .ty "int") (by rfl) TX.b_int (by decide +kernel) rfl) pa_nil))) (pe_and (pe_not (pe_callB call_isi (by rfl) TX.b_isinstance (by decide +kernel) (pa_cons (pv 0) (pa_cons (pe_bltn (v := .ty "bool") (by rfl) TX.b_bool (by decide +kernel) rfl) pa_nil)))) (pe_one (pe_chain op_le op_le (pv 1) (pv 0) (pv 2))))))), ?_⟩
    refine s_ret (ev_is (ev_andV (a := true) (b := decide (a ≤ n) && decide (n ≤ b)) (ev_cb (ea_cons (ev_var rfl) (ea_cons ev_c ea_nil)) ?_) fun _ => ev_andV (a := true) (ev_notV (a := false) (ev_cb (ea_cons (ev_var rfl) (ea_cons ev_c ea_nil)) ?_)) fun _ => ev_chain (ev_var rfl) (ev_var rfl) rv_leN fun _ => ⟨ev_var rfl, rv_leN⟩) (by simp)) k
    · exact fun H1 _ Q q => ⟨_, _, _, _, _, rfl, .ty _, .base (.int _), kit_ty (by decide +kernel), q H1 (Ex.refl H1)⟩
    · exact fun H1 _ Q q => ⟨_, _, _, _, _, rfl, .ty _, .base (.int _), kit_ty (by decide +kernel), q H1 (Ex.refl H1)⟩
/-! ### the plan is one -/
abbrev s_plan_is_rising : Stmt := topS 17
abbrev N_plan_is_rising : List Str := ["thing", "many", "one", "at"]
theorem sc_plan_is_rising : FnScope N_plan_is_rising ["thing", "many"] (defScope s_plan_is_rising) := ⟨rfl, rfl, rfl, by decide +kernel, rfl, by decide +kernel, by decide +kernel⟩
def sp_plan_is_rising : Sp := fun vs H Q _ => ∃ (a : Addr) (l : List Nat) (n : Nat), vs = [.ref a, iN n] ∧ H a = some (.tup (l.map iN)) ∧ l.length ≤ 1000 ∧ l.Pairwise (· < ·) ∧ (∀ o ∈ l, o < n) ∧ Ret Q H (.bl true)
theorem cal_plan_is_rising (D : DefAt K mg "plan_is_rising" s_plan_is_rising ["thing", "many"]) (TX : Txt mg) (C_is_count : Cal P w K mg base 1 "is_count" (sp_is_count)) : Cal P w K mg base 2 "plan_is_rising" (sp_plan_is_rising) := by
  have hnd := sc_plan_is_rising.nd
  refine cal_of D sc_plan_is_rising (fun vs H Q E h => ?len) (fun f cdv A outer s H vs Q E hr h => ?body)
  case len => obtain ⟨a, l, n, rfl, _⟩ := h; rfl
  case body =>
    obtain ⟨a, l, n, rfl, ha, hz, hp, hlt, k⟩ := h
    refine ⟨_, (pss_cons (ps_if (PW.pt (pw_or (pt_not (pt_val (pe_callB call_isi (by rfl) TX.b_isinstance (by decide +kernel) (pa_cons (pv 0) (pa_cons (pe_bltn (v := .ty "tuple") (by rfl) TX.b_tuple (by decide +kernel) rfl) pa_nil))))) (pw_or1 (pt_not (pt_val (pe_callB (cr_all rfl) (by rfl) TX.b_all (by decide +kernel) (pa_cons (pe_lc (own := [("one", 2)]) rfl hnd (pi_tup (pv 0)) (blkOk_by (own := [("one", 2)]) (N := N_plan_is_rising) (sc := defScope s_plan_is_rising) (by decide +kernel)) (fun _ _ _ _ _ => (pg_name (i := 2) hnd rfl (Or.inl rfl))) (fun _ _ _ _ _ => pts_nil) (fun _ _ _ _ _ => (pe_c C_is_count hr (by decide) (by rfl) (pa_cons (pv 2) (pa_cons pe_int (pa_cons (pe_op op_sub (pv 1) pe_int) pa_nil)))))) pa_nil))))))) (pss_one (ps_ret pe_bl)) pss_nil)
      (pss_one (ps_ret (pe_callB (cr_all rfl) (by rfl) TX.b_all (by decide +kernel) (pa_cons (pe_lc (own := [("at", 3)]) rfl hnd (pi_range2 (by rfl) TX.b_range (pa_cons pe_int (pa_cons (pe_callB call_len_seq (by rfl) TX.b_len (by decide +kernel) (pa_cons (pv 0) pa_nil)) pa_nil))) (blkOk_by (own := [("at", 3)]) (N := N_plan_is_rising) (sc := defScope s_plan_is_rising) (by decide +kernel)) (fun _ _ _ _ _ => (pg_name (i := 3) hnd rfl (Or.inl rfl))) (fun _ _ _ _ _ => pts_nil) (fun _ _ _ _ _ => (pe_cmpR op_lt (pe_ix (ix_tK K rfl) (pv 0) (pe_op op_sub (pv 3) pe_int) (fun _ _ => rfl)) (pe_ix (ix_tK K rfl) (pv 0) (pv 3) (fun _ _ => rfl)) (nomark _)))) pa_nil))))), ?_⟩
    refine q_when (b := false) (et_is (et_or (a := false) (b := false) (et_not (a := true) (et_B (ev_isi (ev_var rfl) (fun H1 e => ty_tup ha e) (by decide +kernel)))) fun _ => et_not (a := true) (et_B (ev_is (ev_allF (xs := l) (f := fun _ => true) (lc_0 l iN _ (ei_tup (ev_var rfl) (st_of ha)) (by omega) (fun _ => rfl) fun o ho => ?_)) (by simp)))) rfl) (fun h => nomatch h) fun _ H1 e1 => ?_
    · have lt := hlt o ho
      refine ev_c1 (ea_cons (ev_var rfl) (ea_cons (ev_c (v := iN 0)) (ea_cons (ev_is (ev_I (ev_var rfl) ev_c) (show V.int ((n : Int) - 1) = iN (n - 1) from congrArg V.int (by omega))) ea_nil))) fun H1 e Q q E => ⟨o, 0, n - 1, rfl, ?_⟩
      have e0 : (decide (0 ≤ o) && decide (o ≤ n - 1)) = true := by simp; omega
      rw [e0]
      exact q
    · refine s_ret (ev_is (ev_allF (xs := List.range (l.length - 1)) (f := fun _ => true) (lc_0 (List.range (l.length - 1)) (fun i => iN (1 + i)) _ (ei_range2 (ea_cons (ev_c (v := iN 1)) (ea_cons (ev_is (ev_lenT (ev_var rfl) (st_of (e1 _ _ ha))) (by rw [List.length_map])) ea_nil)) (by decide) (by omega)) (by rw [List.length_range]; omega) (fun _ => rfl) fun i hi => ?_)) (by simp)) fun H2 e2 => k H2 (e1.trans e2)
      have hi' := List.mem_range.mp hi
      have g1 : (l.map iN)[i]? = some (iN l[i]) := by rw [List.getElem?_map, List.getElem?_eq_getElem (by omega)]; rfl
      have g2 : (l.map iN)[1 + i]? = some (iN l[1 + i]) := by rw [List.getElem?_map, List.getElem?_eq_getElem (by omega)]; rfl
      have lt : l[i] < l[1 + i] := List.pairwise_iff_getElem.mp hp i (1 + i) (by omega) (by omega) (by omega)
      have sa : SqT K H1 a (l.map iN) := st_of (e1 _ _ ha)
      refine ev_is (ev_ltN (ev_op (ev_var rfl) (ev_is (ev_I (ev_var rfl) ev_c) (show V.int (((1 + i : Nat) : Int) - 1) = V.int (i : Int) from congrArg V.int (by omega))) (rv_ixT sa (atI_nat g1))) (ev_op (ev_var rfl) (ev_var rfl) (rv_ixT sa (atI_nat g2)))) (by simp [lt])
abbrev s_need_plan : Stmt := topS 18
abbrev N_need_plan : List Str := ["thing", "index", "job"]
theorem sc_need_plan : FnScope N_need_plan ["thing"] (defScope s_need_plan) := ⟨rfl, rfl, rfl, by decide +kernel, rfl, by decide +kernel, by decide +kernel⟩
def sp_need_plan : Sp := fun vs H Q _ => ∃ (p : Addr) (plan : Plan), vs = [.ref p] ∧ PlanAt H p plan ∧ Mx.PlanOk plan ∧ Ret Q H .non
theorem cal_need_plan (D : DefAt K mg "need_plan" s_need_plan ["thing"]) (TX : Txt mg) (C_is_count : Cal P w K mg base 1 "is_count" (sp_is_count)) (C_plan_is_rising : Cal P w K mg base 2 "plan_is_rising" (sp_plan_is_rising)) : Cal P w K mg base 3 "need_plan" (sp_need_plan) := by
  have hnd := sc_need_plan.nd
  refine cal_of D sc_need_plan (fun vs H Q E h => ?len) (fun f cdv A outer s H vs Q E hr h => ?body)
  case len => obtain ⟨p, plan, rfl, _⟩ := h; rfl
  case body =>
    obtain ⟨p, plan, rfl, hP, ok, k⟩ := h
    refine ⟨_, (pss_cons (ps_if (PW.pt (pw_or (pt_not (pt_val (pe_callB call_isi (by rfl) TX.b_isinstance (by decide +kernel) (pa_cons (pv 0) (pa_cons (pe_bltn (v := .ty "tuple") (by rfl) TX.b_tuple (by decide +kernel) rfl) pa_nil))))) (pw_or1 (pt_not (pt_chain op_le op_le pe_int (pe_callB call_len_seq (by rfl) TX.b_len (by decide +kernel) (pa_cons (pv 0) pa_nil)) (pe_num (by rfl) TX.c_jobs)))))) (pss_one ps_never) pss_nil)
      (pss_one (ps_for PassesOwn.never rfl (pi_enumT (by rfl) TX.b_enumerate (pa_cons (pv 0) pa_nil)) (pg_tup rfl (pgs_cons (pg_name (i := 1) hnd rfl (Or.inl rfl)) (pgs_cons (pg_name (i := 2) hnd rfl (Or.inl rfl)) pgs_nil))) (pss_cons (ps_if (PW.pt (pw_or (pt_not (pt_val (pe_callB call_isi (by rfl) TX.b_isinstance (by decide +kernel) (pa_cons (pv 2) (pa_cons (pe_bltn (v := .ty "tuple") (by rfl) TX.b_tuple (by decide +kernel) rfl) pa_nil))))) (pw_or (pt_cmpR op_ne (pe_callB call_len_seq (by rfl) TX.b_len (by decide +kernel) (pa_cons (pv 2) pa_nil)) (pe_num (by rfl) TX.c_job) (nomark _)) (pw_or1 (pt_not (pt_val (pe_c C_is_count hr (by decide) (by rfl) (pa_cons (pe_ix (ix_tK K rfl) (pv 2) pe_int (fun _ _ => rfl)) (pa_cons pe_int (pa_cons (pe_num (by rfl) TX.c_length) pa_nil)))))))))) (pss_one ps_never) pss_nil)
      (pss_one (ps_if (PW.pt (pw_or (pt_not (pt_val (pe_c C_plan_is_rising hr (by decide) (by rfl) (pa_cons (pe_ix (ix_tK K rfl) (pv 2) pe_int (fun _ _ => rfl)) (pa_cons (pv 1) pa_nil))))) (pw_or1 (pt_not (pt_val (pe_c C_is_count hr (by decide) (by rfl) (pa_cons (pe_ix (ix_tK K rfl) (pv 2) pe_int (fun _ _ => rfl)) (pa_cons pe_int (pa_cons (pe_num (by rfl) TX.c_jroom) pa_nil))))))))) (pss_one ps_never) pss_nil)))))), ?_⟩
    obtain ⟨ar, nr, hp, hj⟩ := id hP
    have lo := ok.lo
    have hi := ok.hi
    refine q_when (b := false) (et_is (et_or (a := false) (b := false) (et_not (a := true) (et_B (ev_isi (ev_var rfl) (fun H1 e => ty_tup hp e) (by decide +kernel)))) fun _ => et_not (a := true) (et_test (ev_is (ev_chain (k := true) (l := true) (ev_c (v := iN 1)) (ev_lenP (ev_var rfl) hP) (rv_leN.is (by simp; omega)) fun _ => ⟨ev_c (v := iN 8), rv_leN.is (by simp; omega)⟩) rfl))) rfl) (fun h => nomatch h) fun _ H1 e1 => ?_
    refine ⟨.ref p, rfl, p, _, rfl, st_of (e1 _ _ hp), for_enumT (xs := (List.range plan.length).map fun j => V.ref (ar j)) (fun i σ H' => ∃ u v, σ = [some (.ref p), u, v] ∧ Ex H H') ⟨none, none, rfl, e1⟩ (fun i σ H' _ ⟨_, _, _, e⟩ => st_of (e _ _ hp)) ?_ ?_⟩
    · rintro i x σ H' T hx ⟨u, v, rfl, e⟩ hT
      have hin : i < plan.length := by
        have := (List.getElem?_eq_some_iff.mp hx).1
        simpa using this
      rw [List.getElem?_map, List.getElem?_range hin] at hx
      have hx' : V.ref (ar i) = x := Option.some.inj hx
      subst hx'
      obtain ⟨j1, j2⟩ := hj i hin
      have e2 : Ex H (L2.upd H' T (.tup [iN i, .ref (ar i)])) := e.trans (Ex.new hT)
      refine ⟨T, _, rfl, st_of upd_same, rfl, iN i, _, rfl, V.ref (ar i), _, rfl, rfl, ?_⟩
      generalize L2.upd H' T (.tup [iN i, .ref (ar i)]) = H2 at e2
      have t1 : SqT K H2 (ar i) [iN (ln plan i), .ref (nr i), iN (rm plan i)] := st_of (e2 _ _ j1)
      obtain ⟨l1, l9⟩ := ok.len i hin
      have r9 := ok.room i hin
      obtain ⟨n1, n2⟩ := ok.needs i hin
      refine q_when (b := false) (et_is (et_or (a := false) (b := false) (et_not (a := true) (et_B (ev_isi (ev_var rfl) (fun H1 e => ty_tup (e2 _ _ j1) e) (by decide +kernel)))) fun _ => et_or (a := false) (b := false) (et_test (ev_is (ev_op (ev_lenT (ev_var rfl) t1) (ev_c (v := iN 3)) (rv_ne rfl)) (by simp))) fun _ => et_not (a := true) (et_B (ev_c1 (ea_cons (ev_op (ev_var rfl) (ev_c (v := .int ((0 : Nat) : Int))) (rv_ixT t1 (atI_nat rfl))) (ea_cons (ev_c (v := iN 1)) (ea_cons (ev_c (v := iN 99)) ea_nil))) fun H1 e Q q E => ⟨ln plan i, 1, 99, rfl, ?_⟩))) rfl) (fun h => nomatch h) fun _ H3 e3 => ?_
      · have e0 : (decide (1 ≤ ln plan i) && decide (ln plan i ≤ 99)) = true := by simp; omega
        rw [e0]
        exact q
      · have t3 : SqT K H3 (ar i) [iN (ln plan i), .ref (nr i), iN (rm plan i)] := st_of ((e2.trans e3) _ _ j1)
        refine s_when (b := false) (et_is (et_or (a := false) (b := false) (et_not (a := true) (et_B (ev_c1 (ea_cons (ev_op (ev_var rfl) (ev_c (v := .int ((1 : Nat) : Int))) (rv_ixT t3 (atI_nat rfl))) (ea_cons (ev_var rfl) ea_nil)) fun H1 e Q q E => ⟨nr i, nd plan i, i, rfl, e _ _ ((e2.trans e3) _ _ j2), ?_, n1, n2, q⟩))) fun _ => et_not (a := true) (et_B (ev_c1 (ea_cons (ev_op (ev_var rfl) (ev_c (v := .int ((2 : Nat) : Int))) (rv_ixT t3 (atI_nat rfl))) (ea_cons (ev_c (v := iN 0)) (ea_cons (ev_c (v := iN 9)) ea_nil))) fun H1 e Q q E => ⟨rm plan i, 0, 9, rfl, ?_⟩))) rfl) (fun h => nomatch h) fun _ H4 e4 => ⟨_, _, rfl, (e2.trans e3).trans e4⟩
        · have := Mx.len_sub (A := nd plan i) (B := List.range plan.length) (List.Pairwise.imp (fun h => Nat.ne_of_lt h) n1) (fun x hx => List.mem_range.mpr (Nat.lt_trans (n2 x hx) hin))
          rw [List.length_range] at this
          omega
        · have e0 : (decide (0 ≤ rm plan i) && decide (rm plan i ≤ 9)) = true := by simp; omega
          rw [e0]
          exact q
    · rintro σ H' ⟨u, v, rfl, e⟩
      exact k H' e
abbrev s_need_machines : Stmt := topS 19
abbrev N_need_machines : List Str := ["thing"]
theorem sc_need_machines : FnScope N_need_machines ["thing"] (defScope s_need_machines) := ⟨rfl, rfl, rfl, by decide +kernel, rfl, by decide +kernel, by decide +kernel⟩
def sp_need_machines : Sp := fun vs H Q _ => ∃ n : Nat, vs = [iN n] ∧ 1 ≤ n ∧ n ≤ 4 ∧ Ret Q H .non
theorem cal_need_machines (D : DefAt K mg "need_machines" s_need_machines ["thing"]) (TX : Txt mg) (C_is_count : Cal P w K mg base 1 "is_count" (sp_is_count)) : Cal P w K mg base 2 "need_machines" (sp_need_machines) := by
  have hnd := sc_need_machines.nd
  refine cal_of D sc_need_machines (fun vs H Q E h => ?len) (fun f cdv A outer s H vs Q E hr h => ?body)
  case len => obtain ⟨n, rfl, _⟩ := h; rfl
  case body =>
    obtain ⟨n, rfl, h1, h2, k⟩ := h
    refine ⟨_, (pss_one (ps_if (pt_not (pt_val (pe_c C_is_count hr (by decide) (by rfl) (pa_cons (pv 0) (pa_cons pe_int (pa_cons (pe_num (by rfl) TX.c_machines) pa_nil)))))) (pss_one ps_never) pss_nil)), ?_⟩
    refine s_when (b := false) (et_not (a := true) (et_B (ev_c1 (ea_cons (ev_var rfl) (ea_cons (ev_c (v := iN 1)) (ea_cons (ev_c (v := iN 4)) ea_nil))) fun H1 e Q q E => ⟨n, 1, 4, rfl, ?_⟩))) (fun h => nomatch h) fun _ H1 e => k H1 e
    have e0 : (decide (1 ≤ n) && decide (n ≤ 4)) = true := by simp; omega
    rw [e0]
    exact q
abbrev s_need_plan_room : Stmt := topS 20
abbrev N_need_plan_room : List Str := ["thing"]
theorem sc_need_plan_room : FnScope N_need_plan_room ["thing"] (defScope s_need_plan_room) := ⟨rfl, rfl, rfl, by decide +kernel, rfl, by decide +kernel, by decide +kernel⟩
def sp_need_plan_room : Sp := fun vs H Q _ => ∃ n : Nat, vs = [iN n] ∧ n ≤ 99 ∧ Ret Q H .non
theorem cal_need_plan_room (D : DefAt K mg "need_plan_room" s_need_plan_room ["thing"]) (TX : Txt mg) (C_is_count : Cal P w K mg base 1 "is_count" (sp_is_count)) : Cal P w K mg base 2 "need_plan_room" (sp_need_plan_room) := by
  have hnd := sc_need_plan_room.nd
  refine cal_of D sc_need_plan_room (fun vs H Q E h => ?len) (fun f cdv A outer s H vs Q E hr h => ?body)
  case len => obtain ⟨n, rfl, _⟩ := h; rfl
  case body =>
    obtain ⟨n, rfl, h2, k⟩ := h
    refine ⟨_, (pss_one (ps_if (pt_not (pt_val (pe_c C_is_count hr (by decide) (by rfl) (pa_cons (pv 0) (pa_cons pe_int (pa_cons (pe_num (by rfl) TX.c_room) pa_nil)))))) (pss_one ps_never) pss_nil)), ?_⟩
    refine s_when (b := false) (et_not (a := true) (et_B (ev_c1 (ea_cons (ev_var rfl) (ea_cons (ev_c (v := iN 0)) (ea_cons (ev_c (v := iN 99)) ea_nil))) fun H1 e Q q E => ⟨n, 0, 99, rfl, ?_⟩))) (fun h => nomatch h) fun _ H1 e => k H1 e
    have e0 : (decide (0 ≤ n) && decide (n ≤ 99)) = true := by simp; omega
    rw [e0]
    exact q
abbrev s_need_plan_end : Stmt := topS 21
abbrev N_need_plan_end : List Str := ["thing"]
theorem sc_need_plan_end : FnScope N_need_plan_end ["thing"] (defScope s_need_plan_end) := ⟨rfl, rfl, rfl, by decide +kernel, rfl, by decide +kernel, by decide +kernel⟩
def sp_need_plan_end : Sp := fun vs H Q _ => ∃ n : Nat, vs = [iN n] ∧ n ≤ 1000 ∧ Ret Q H .non
theorem cal_need_plan_end (D : DefAt K mg "need_plan_end" s_need_plan_end ["thing"]) (TX : Txt mg) (C_is_count : Cal P w K mg base 1 "is_count" (sp_is_count)) : Cal P w K mg base 2 "need_plan_end" (sp_need_plan_end) := by
  have hnd := sc_need_plan_end.nd
  refine cal_of D sc_need_plan_end (fun vs H Q E h => ?len) (fun f cdv A outer s H vs Q E hr h => ?body)
  case len => obtain ⟨n, rfl, _⟩ := h; rfl
  case body =>
    obtain ⟨n, rfl, h2, k⟩ := h
    refine ⟨_, (pss_one (ps_if (pt_not (pt_val (pe_c C_is_count hr (by decide) (by rfl) (pa_cons (pv 0) (pa_cons pe_int (pa_cons (pe_num (by rfl) TX.c_end) pa_nil)))))) (pss_one ps_never) pss_nil)), ?_⟩
    refine s_when (b := false) (et_not (a := true) (et_B (ev_c1 (ea_cons (ev_var rfl) (ea_cons (ev_c (v := iN 0)) (ea_cons (ev_c (v := iN 1000)) ea_nil))) fun H1 e Q q E => ⟨n, 0, 1000, rfl, ?_⟩))) (fun h => nomatch h) fun _ H1 e => k H1 e
    have e0 : (decide (0 ≤ n) && decide (n ≤ 1000)) = true := by simp; omega
    rw [e0]
    exact q
abbrev s_need_plan_asked : Stmt := topS 22
abbrev N_need_plan_asked : List Str := ["plan", "machines", "room"]
theorem sc_need_plan_asked : FnScope N_need_plan_asked ["plan", "machines", "room"] (defScope s_need_plan_asked) := ⟨rfl, rfl, rfl, by decide +kernel, rfl, by decide +kernel, by decide +kernel⟩
structure Asked (H : Hp) (p : Addr) (plan : Plan) (M R : Nat) : Prop where
  pl : PlanAt H p plan
  ok : Mx.PlanOk plan
  m1 : 1 ≤ M
  m4 : M ≤ 4
  r : R ≤ 99
theorem Asked.ex {H H' : Hp} {p : Addr} {plan : Plan} {M R : Nat} (e : Ex H H') (h : Asked H p plan M R) : Asked H' p plan M R := ⟨h.pl.ex e, h.ok, h.m1, h.m4, h.r⟩
def sp_need_plan_asked : Sp := fun vs H Q _ => ∃ (p : Addr) (plan : Plan) (M R : Nat), vs = [.ref p, iN M, iN R] ∧ Asked H p plan M R ∧ Ret Q H .non
theorem cal_need_plan_asked (D : DefAt K mg "need_plan_asked" s_need_plan_asked ["plan", "machines", "room"]) (TX : Txt mg) (C_need_machines : Cal P w K mg base 2 "need_machines" (sp_need_machines)) (C_need_plan : Cal P w K mg base 3 "need_plan" (sp_need_plan)) (C_need_plan_room : Cal P w K mg base 2 "need_plan_room" (sp_need_plan_room)) : Cal P w K mg base 4 "need_plan_asked" (sp_need_plan_asked) := by
  have hnd := sc_need_plan_asked.nd
  refine cal_of D sc_need_plan_asked (fun vs H Q E h => ?len) (fun f cdv A outer s H vs Q E hr h => ?body)
  case len => obtain ⟨p, plan, M, R, rfl, _⟩ := h; rfl
  case body =>
    obtain ⟨p, plan, M, R, rfl, h, k⟩ := h
    refine ⟨_, (pss_cons (ps_expr (pe_c C_need_plan hr (by decide) (by rfl) (pa_cons (pv 0) pa_nil)))
      (pss_cons (ps_expr (pe_c C_need_machines hr (by decide) (by rfl) (pa_cons (pv 1) pa_nil)))
      (pss_one (ps_expr (pe_c C_need_plan_room hr (by decide) (by rfl) (pa_cons (pv 2) pa_nil)))))), ?_⟩
    refine q_drop (ev_c1 (ea_cons (ev_var rfl) ea_nil) fun H1 e Q q E => ⟨p, plan, rfl, h.pl.ex e, h.ok, q⟩) fun H1 e1 => ?_
    refine q_drop (ev_c1 (ea_cons (ev_var rfl) ea_nil) fun H1 e Q q E => ⟨M, rfl, h.m1, h.m4, q⟩) fun H2 e2 => ?_
    exact s_drop (ev_c1 (ea_cons (ev_var rfl) ea_nil) fun H1 e Q q E => ⟨R, rfl, h.r, q⟩) fun H3 e3 => k H3 ((e1.trans e2).trans e3)
abbrev s_plan_fits : Stmt := topS 23
abbrev N_plan_fits : List Str := ["plan", "room", "job"]
theorem sc_plan_fits : FnScope N_plan_fits ["plan", "room"] (defScope s_plan_fits) := ⟨rfl, rfl, rfl, by decide +kernel, rfl, by decide +kernel, by decide +kernel⟩
theorem fits_range (p : Plan) (R : Nat) : Mx.planFits p R = (List.range p.length).all fun j => decide (rm p j ≤ R) := by
  unfold Mx.planFits
  rw [Bool.eq_iff_iff, List.all_eq_true, List.all_eq_true]
  constructor
  · intro h j hj
    have hj := List.mem_range.mp hj
    have e : jb p j = p[j] := by unfold jb; rw [List.getD_eq_getElem?_getD, List.getElem?_eq_getElem hj]; rfl
    have q := h p[j] (List.getElem_mem hj)
    show decide ((jb p j).room ≤ R) = true
    rw [e]
    exact q
  · intro h x hx
    obtain ⟨j, hj, rfl⟩ := List.getElem_of_mem hx
    have e : jb p j = p[j] := by unfold jb; rw [List.getD_eq_getElem?_getD, List.getElem?_eq_getElem hj]; rfl
    have q := h j (List.mem_range.mpr hj)
    have q : decide ((jb p j).room ≤ R) = true := q
    rw [e] at q
    exact q
def sp_plan_fits : Sp := fun vs H Q _ => ∃ (p : Addr) (plan : Plan) (R : Nat), vs = [.ref p, iN R] ∧ PlanAt H p plan ∧ plan.length ≤ 1000 ∧ Ret Q H (.bl (Mx.planFits plan R))
theorem cal_plan_fits (D : DefAt K mg "plan_fits" s_plan_fits ["plan", "room"]) (TX : Txt mg) : Cal P w K mg base 1 "plan_fits" (sp_plan_fits) := by
  have hnd := sc_plan_fits.nd
  refine cal_of D sc_plan_fits (fun vs H Q E h => ?len) (fun f cdv A outer s H vs Q E hr h => ?body)
  case len => obtain ⟨p, plan, R, rfl, _⟩ := h; rfl
  case body =>
    obtain ⟨p, plan, R, rfl, hP, hz, k⟩ := h
    refine ⟨_, (pss_one (ps_ret (pe_callB (cr_all rfl) (by rfl) TX.b_all (by decide +kernel) (pa_cons (pe_lc (own := [("job", 2)]) rfl hnd (pi_tup (pv 0)) (blkOk_by (own := [("job", 2)]) (N := N_plan_fits) (sc := defScope s_plan_fits) (by decide +kernel)) (fun _ _ _ _ _ => (pg_name (i := 2) hnd rfl (Or.inl rfl))) (fun _ _ _ _ _ => pts_nil) (fun _ _ _ _ _ => (pe_cmpR op_le (pe_ix (ix_tK K rfl) (pv 2) pe_int (fun _ _ => rfl)) (pv 1) (nomark _)))) pa_nil)))), ?_⟩
    obtain ⟨ar, nr, hp, hj⟩ := id hP
    refine s_ret (ev_is (ev_allF (xs := List.range plan.length) (f := fun j => decide (rm plan j ≤ R)) (lc_0 (List.range plan.length) (fun j => V.ref (ar j)) _ (ei_tup (ev_var rfl) (st_of hp)) (by rw [List.length_range]; omega) (fun _ => rfl) fun j hj' => ?_)) (by rw [fits_range])) k
    exact ev_leN (ev_op (ev_var rfl) (ev_c (v := .int ((2 : Nat) : Int))) (rv_ixT (st_of (hj j (List.mem_range.mp hj')).1) (atI_nat rfl))) (ev_var rfl)
/-! ### plan_running_at -/
abbrev s_plan_running_at : Stmt := topS 25
abbrev N_plan_running_at : List Str := ["plan", "begins", "moment", "job"]
theorem sc_plan_running_at : FnScope N_plan_running_at ["plan", "begins", "moment"] (defScope s_plan_running_at) := ⟨rfl, rfl, rfl, by decide +kernel, rfl, by decide +kernel, by decide +kernel⟩
structure PB (H : Hp) (p d : Addr) (plan : Plan) (b : Beg) : Prop where
  pl : PlanAt H p plan
  bg : H d = some (.dK (begV b))
  lt : ∀ o ∈ ks b, o < plan.length
  sz : b.length ≤ 1000
theorem PB.ex {H H' : Hp} {p d : Addr} {plan : Plan} {b : Beg} (e : Ex H H') (h : PB H p d plan b) : PB H' p d plan b := ⟨h.pl.ex e, e _ _ h.bg, h.lt, h.sz⟩
/-- the same with the dict locked -/
theorem PB.lock {H : Hp} {p d : Addr} {plan : Plan} {b : Beg} (h : PB H p d plan b) (od : Obj) : PlanAt (L2.upd H d (.frz od (.dK (begV b)))) p plan ∧ BegR (L2.upd H d (.frz od (.dK (begV b)))) d b :=
  ⟨h.pl.tk (Tk.upd h.bg fun _ z => nomatch z), .frz upd_same⟩
theorem PB.kz {H : Hp} {p d : Addr} {plan : Plan} {b : Beg} (h : PB H p d plan b) : (ks b).length ≤ 40000 := by rw [Mx.ks_len]; have := h.sz; omega
theorem PB.keys {H : Hp} {p d : Addr} {plan : Plan} {b : Beg} (h : PB H p d plan b) {σ : L2.St} {td : TE} (od : Obj) (hd : Ev td σ (L2.upd H d (.frz od (.dK (begV b)))) (.ref d)) : EvI (iKeys td) σ (L2.upd H d (.frz od (.dK (begV b)))) ((ks b).map iN) := by
  have q := ei_keys (kvs := begV b) (o := od) hd upd_same
  rw [begV_keys] at q
  exact q
def sp_plan_running_at : Sp := fun vs H Q _ => ∃ (p d : Addr) (plan : Plan) (b : Beg) (m : Nat), vs = [.ref p, .ref d, iN m] ∧ PB H p d plan b ∧ Ret Q H (iN (Mx.running plan b m))
theorem cal_plan_running_at (D : DefAt K mg "plan_running_at" s_plan_running_at ["plan", "begins", "moment"]) (TX : Txt mg) : Cal P w K mg base 1 "plan_running_at" (sp_plan_running_at) := by
  have hnd := sc_plan_running_at.nd
  refine cal_of D sc_plan_running_at (fun vs H Q E h => ?len) (fun f cdv A outer s H vs Q E hr h => ?body)
  case len => obtain ⟨p, d, plan, b, m, rfl, _⟩ := h; rfl
  case body =>
    obtain ⟨p, d, plan, b, m, rfl, h, k⟩ := h
    refine ⟨_, (pss_one (ps_ret (pe_callB call_len_seq (by rfl) TX.b_len (by decide +kernel) (pa_cons (pe_lock (pe_lc (own := [("job", 3)]) rfl hnd (pi_keys (pv 1)) (blkOk_by (own := [("job", 3)]) (N := N_plan_running_at) (sc := defScope s_plan_running_at) (by decide +kernel)) (fun _ _ _ _ _ => (pg_name (i := 3) hnd rfl (Or.inl rfl))) (fun _ _ _ _ _ => (pts_one (pt_chain op_le op_lt (pe_dget (hu_of hr) (pv 1) (pv 3) (fun _ _ => rfl)) (pv 2) (pe_op op_add (pe_dget (hu_of hr) (pv 1) (pv 3) (fun _ _ => rfl)) (pe_ix (ix_tK K rfl) (pe_ix (ix_tK K rfl) (pv 0) (pv 3) (fun _ _ => rfl)) pe_int (fun _ _ => rfl)))))) (fun _ _ _ _ _ => (pv 3)))) pa_nil)))), ?_⟩
    refine s_ret (ev_is (ev_lenL (xs := ((ks b).filter (Mx.runs plan b m)).map iN) (el_lock h.bg True.intro fun od => lc_n (ks b) iN (Mx.runs plan b m) iN (h.keys od (ev_var rfl)) h.kz (fun _ => rfl) (fun o ho => et_test ?_) (fun o ho _ => ev_var rfl))) (by rw [List.length_map]; rfl)) k
    obtain ⟨PL, BR⟩ := h.lock od
    exact ev_chain (ev_dget (ev_var rfl) (ev_var rfl) BR ho) (ev_var rfl) rv_leN fun _ => ⟨ev_addN (ev_dget (ev_var rfl) (ev_var rfl) BR ho) (ev_len (ev_var rfl) (ev_var rfl) PL (h.lt o ho)), rv_ltN⟩
abbrev s_plan_room_at : Stmt := topS 24
abbrev N_plan_room_at : List Str := ["plan", "begins", "moment", "job"]
theorem sc_plan_room_at : FnScope N_plan_room_at ["plan", "begins", "moment"] (defScope s_plan_room_at) := ⟨rfl, rfl, rfl, by decide +kernel, rfl, by decide +kernel, by decide +kernel⟩
def sp_plan_room_at : Sp := fun vs H Q _ => ∃ (p d : Addr) (plan : Plan) (b : Beg) (m : Nat), vs = [.ref p, .ref d, iN m] ∧ PB H p d plan b ∧ Ret Q H (iN (Mx.rooms plan b m))
theorem cal_plan_room_at (D : DefAt K mg "plan_room_at" s_plan_room_at ["plan", "begins", "moment"]) (TX : Txt mg) : Cal P w K mg base 1 "plan_room_at" (sp_plan_room_at) := by
  have hnd := sc_plan_room_at.nd
  refine cal_of D sc_plan_room_at (fun vs H Q E h => ?len) (fun f cdv A outer s H vs Q E hr h => ?body)
  case len => obtain ⟨p, d, plan, b, m, rfl, _⟩ := h; rfl
  case body =>
    obtain ⟨p, d, plan, b, m, rfl, h, k⟩ := h
    refine ⟨_, (pss_one (ps_ret (pe_callB (cr_sum rfl) (by rfl) TX.b_sum (by decide +kernel) (pa_cons (pe_lock (pe_lc (own := [("job", 3)]) rfl hnd (pi_keys (pv 1)) (blkOk_by (own := [("job", 3)]) (N := N_plan_room_at) (sc := defScope s_plan_room_at) (by decide +kernel)) (fun _ _ _ _ _ => (pg_name (i := 3) hnd rfl (Or.inl rfl))) (fun _ _ _ _ _ => (pts_one (pt_chain op_le op_lt (pe_dget (hu_of hr) (pv 1) (pv 3) (fun _ _ => rfl)) (pv 2) (pe_op op_add (pe_dget (hu_of hr) (pv 1) (pv 3) (fun _ _ => rfl)) (pe_ix (ix_tK K rfl) (pe_ix (ix_tK K rfl) (pv 0) (pv 3) (fun _ _ => rfl)) pe_int (fun _ _ => rfl)))))) (fun _ _ _ _ _ => (pe_ix (ix_tK K rfl) (pe_ix (ix_tK K rfl) (pv 0) (pv 3) (fun _ _ => rfl)) pe_int (fun _ _ => rfl))))) pa_nil)))), ?_⟩
    refine s_ret (ev_sumF (xs := (ks b).filter (Mx.runs plan b m)) (f := rm plan) (el_lock h.bg True.intro fun od => lc_n (ks b) iN (Mx.runs plan b m) (fun j => iN (rm plan j)) (h.keys od (ev_var rfl)) h.kz (fun _ => rfl) (fun o ho => et_test ?_) (fun o ho _ => ?_))) k
    · obtain ⟨PL, BR⟩ := h.lock od
      exact ev_chain (ev_dget (ev_var rfl) (ev_var rfl) BR ho) (ev_var rfl) rv_leN fun _ => ⟨ev_addN (ev_dget (ev_var rfl) (ev_var rfl) BR ho) (ev_len (ev_var rfl) (ev_var rfl) PL (h.lt o ho)), rv_ltN⟩
    · obtain ⟨PL, BR⟩ := h.lock od
      exact ev_rm (ev_var rfl) (ev_var rfl) PL (h.lt o ho)
/-! ### plan_can_begin -/
abbrev s_plan_can_begin : Stmt := topS 26
abbrev N_plan_can_begin : List Str := ["plan", "begins", "job", "moment", "machines", "room", "spots", "spot", "one"]
theorem sc_plan_can_begin : FnScope N_plan_can_begin ["plan", "begins", "job", "moment", "machines", "room"] (defScope s_plan_can_begin) := ⟨rfl, rfl, rfl, by decide +kernel, rfl, by decide +kernel, by decide +kernel⟩
def sp_plan_can_begin : Sp := fun vs H Q _ => ∃ (p d : Addr) (plan : Plan) (b : Beg) (j m M R : Nat), vs = [.ref p, .ref d, iN j, iN m, iN M, iN R] ∧ PB H p d plan b ∧ j < plan.length ∧ Ret Q H (.bl (Mx.canBegin plan b j m M R))
theorem cal_plan_can_begin (D : DefAt K mg "plan_can_begin" s_plan_can_begin ["plan", "begins", "job", "moment", "machines", "room"]) (TX : Txt mg) (C_plan_room_at : Cal P w K mg base 1 "plan_room_at" (sp_plan_room_at)) (C_plan_running_at : Cal P w K mg base 1 "plan_running_at" (sp_plan_running_at)) : Cal P w K mg base 2 "plan_can_begin" (sp_plan_can_begin) := by
  have hnd := sc_plan_can_begin.nd
  refine cal_of D sc_plan_can_begin (fun vs H Q E h => ?len) (fun f cdv A outer s H vs Q E hr h => ?body)
  case len => obtain ⟨p, d, plan, b, j, m, M, R, rfl, _⟩ := h; rfl
  case body =>
    obtain ⟨p, d, plan, b, j, m, M, R, rfl, h, hj, k⟩ := h
    refine ⟨_, (pss_cons (ps_set (i := 6) hnd rfl (Or.inl rfl) (pe_op op_cat (pe_lst (pa_cons (pv 3) pa_nil)) (pe_lock (pe_lc (own := [("one", 8)]) rfl hnd (pi_keys (pv 1)) (blkOk_by (own := [("one", 8)]) (N := N_plan_can_begin) (sc := defScope s_plan_can_begin) (by decide +kernel)) (fun _ _ _ _ _ => (pg_name (i := 8) hnd rfl (Or.inl rfl))) (fun _ _ _ _ _ => (pts_one (pt_chain op_lt op_lt (pv 3) (pe_dget (hu_of hr) (pv 1) (pv 8) (fun _ _ => rfl)) (pe_op op_add (pv 3) (pe_ix (ix_tK K rfl) (pe_ix (ix_tK K rfl) (pv 0) (pv 2) (fun _ _ => rfl)) pe_int (fun _ _ => rfl)))))) (fun _ _ _ _ _ => (pe_dget (hu_of hr) (pv 1) (pv 8) (fun _ _ => rfl)))))))
      (pss_cons (ps_for PassesOwn.never rfl (pi_list (pv 6)) (pg_name (i := 7) hnd rfl (Or.inl rfl)) (pss_one (ps_if (PW.pt (pw_or (pt_cmpR op_ge (pe_c C_plan_running_at hr (by decide) (by rfl) (pa_cons (pv 0) (pa_cons (pv 1) (pa_cons (pv 7) pa_nil)))) (pv 4) (nomark _)) (pw_or1 (pt_cmpR op_gt (pe_op op_add (pe_c C_plan_room_at hr (by decide) (by rfl) (pa_cons (pv 0) (pa_cons (pv 1) (pa_cons (pv 7) pa_nil)))) (pe_ix (ix_tK K rfl) (pe_ix (ix_tK K rfl) (pv 0) (pv 2) (fun _ _ => rfl)) pe_int (fun _ _ => rfl))) (pv 5) (nomark _))))) (pss_one (ps_ret pe_bl)) pss_nil)))
      (pss_one (ps_ret pe_bl)))), ?_⟩
    have hz : (Mx.spots plan b j m).length ≤ 40001 := by
      unfold Mx.spots
      rw [List.length_cons, List.length_map]
      have := List.length_filter_le (Mx.later plan b j m) (ks b)
      have := h.kz
      omega
    refine q_asgL (xs := (Mx.spots plan b j m).map iN) (el_cat (xs := [iN m]) (ys := (((ks b).filter (Mx.later plan b j m)).map (T b)).map iN) (EvK.of (el_lst (ea_cons (ev_var rfl) ea_nil) one_le)) (EvK.of ?_) (by have := hz; unfold Mx.spots at this; rw [List.length_cons] at this; rw [List.length_map, List.length_singleton]; omega)) fun s H1 hs e1 h1 => ?_
    · rw [List.map_map]
      refine el_lock h.bg True.intro fun od => lc_n (ks b) iN (Mx.later plan b j m) (fun o => iN (T b o)) (h.keys od (ev_var rfl)) h.kz (fun _ => rfl) (fun o ho => et_test ?_) (fun o ho _ => ?_)
      · obtain ⟨PL, BR⟩ := h.lock od
        exact ev_chain (ev_var rfl) (ev_dget (ev_var rfl) (ev_var rfl) BR ho) rv_ltN fun _ => ⟨ev_addN (ev_var rfl) (ev_len (ev_var rfl) (ev_var rfl) PL hj), rv_ltN⟩
      · obtain ⟨PL, BR⟩ := h.lock od
        exact ev_dget (ev_var rfl) (ev_var rfl) BR ho
    · refine q_forLn (a := s) (xs := (Mx.spots plan b j m).map iN) (ev_var rfl) (sq_of h1) (fun i σ' H' => ∃ u, σ' = [some (.ref p), some (.ref d), some (iN j), some (iN m), some (iN M), some (iN R), some (.ref s), u, none] ∧ Ex H1 H' ∧ ∀ x ∈ (Mx.spots plan b j m).take i, Mx.spotOk plan b j M R x = true) (fun H2 e2 => ⟨none, rfl, e2, fun _ hx => nomatch hx⟩) (fun i σ' H' _ ⟨_, _, e, _⟩ => ex_l e (sq_of h1)) ?_ ?_
      · rintro i x σ' H' hx ⟨u, rfl, e, hall⟩
        rw [List.getElem?_map] at hx
        obtain ⟨sp, hsp, rfl⟩ := Option.map_eq_some_iff.mp hx
        have hB := h.ex (e1.trans e)
        refine s_when (b := !Mx.spotOk plan b j M R sp) (et_is (et_or (et_test (ev_geN (ev_c1 (ea_cons (ev_var rfl) (ea_cons (ev_var rfl) (ea_cons (ev_var rfl) ea_nil))) fun H1 e Q q E => ⟨p, d, plan, b, sp, rfl, hB.ex e, q⟩) (ev_var rfl))) fun _ => et_test (ev_gtN (ev_addN (ev_c1 (ea_cons (ev_var rfl) (ea_cons (ev_var rfl) (ea_cons (ev_var rfl) ea_nil))) fun H1 e Q q E => ⟨p, d, plan, b, sp, rfl, hB.ex e, q⟩) (ev_rm (ev_var rfl) (ev_var rfl) hB.pl hj)) (ev_var rfl))) (by unfold Mx.spotOk; rw [Bool.not_not])) (fun hb H2 e2 => ?_) fun hb H2 e2 => ?_
        · refine s_ret ev_c fun H3 e3 => ?_
          have e0 : Mx.canBegin plan b j m M R = false := by
            cases hc : Mx.canBegin plan b j m M R with
            | false => rfl
            | true =>
              unfold Mx.canBegin at hc
              rw [List.all_eq_true] at hc
              rw [hc sp (List.mem_of_getElem? hsp)] at hb
              cases hb
          rw [e0] at k
          exact k H3 (((e1.trans e).trans e2).trans e3)
        · refine ⟨_, rfl, e.trans e2, fun y hy => ?_⟩
          rw [List.take_add_one, hsp] at hy
          rcases List.mem_append.mp hy with hy | hy
          · exact hall y hy
          · have ey : y = sp := by simpa using hy
            rw [ey]
            simpa using hb
      · rintro σ' H' ⟨u, rfl, e, hall⟩
        refine s_ret ev_c fun H3 e3 => ?_
        have e0 : Mx.canBegin plan b j m M R = true := by
          unfold Mx.canBegin
          rw [List.all_eq_true]
          intro x hx
          refine hall x ?_
          rw [List.length_map, List.take_length]
          exact hx
        rw [e0] at k
        exact k H3 ((e1.trans e).trans e3)
/-! ### plan_first_begin, plan_end -/
abbrev s_plan_first_begin : Stmt := topS 27
abbrev N_plan_first_begin : List Str := ["plan", "begins", "job", "machines", "room", "ready", "moments", "fits", "one", "moment"]
theorem sc_plan_first_begin : FnScope N_plan_first_begin ["plan", "begins", "job", "machines", "room"] (defScope s_plan_first_begin) := ⟨rfl, rfl, rfl, by decide +kernel, rfl, by decide +kernel, by decide +kernel⟩
def sp_plan_first_begin : Sp := fun vs H Q _ => ∃ (p d : Addr) (plan : Plan) (b : Beg) (j M R : Nat), vs = [.ref p, .ref d, iN j, iN M, iN R] ∧ PB H p d plan b ∧ j < plan.length ∧ (∀ o ∈ nd plan j, o ∈ ks b) ∧ (nd plan j).length ≤ 1000 ∧ 1 ≤ M ∧ rm plan j ≤ R ∧ Ret Q H (iN (Mx.firstBegin plan b j M R))
theorem cal_plan_first_begin (D : DefAt K mg "plan_first_begin" s_plan_first_begin ["plan", "begins", "job", "machines", "room"]) (TX : Txt mg) (C_plan_can_begin : Cal P w K mg base 2 "plan_can_begin" (sp_plan_can_begin)) : Cal P w K mg base 3 "plan_first_begin" (sp_plan_first_begin) := by
  have hnd := sc_plan_first_begin.nd
  refine cal_of D sc_plan_first_begin (fun vs H Q E h => ?len) (fun f cdv A outer s H vs Q E hr h => ?body)
  case len => obtain ⟨p, d, plan, b, j, M, R, rfl, _⟩ := h; rfl
  case body =>
    obtain ⟨p, d, plan, b, j, M, R, rfl, h, hj, hn, hnz, hM, hR, k⟩ := h
    refine ⟨_, (pss_cons (ps_set (i := 5) hnd rfl (Or.inr rfl) (pe_callB (cr_max rfl) (by rfl) TX.b_max (by decide +kernel) (pa_cons (pe_op op_cat (pe_lst (pa_cons pe_int pa_nil)) (pe_lc (own := [("one", 8)]) rfl hnd (pi_tup (pe_ix (ix_tK K rfl) (pe_ix (ix_tK K rfl) (pv 0) (pv 2) (fun _ _ => rfl)) pe_int (fun _ _ => rfl))) (blkOk_by (own := [("one", 8)]) (N := N_plan_first_begin) (sc := defScope s_plan_first_begin) (by decide +kernel)) (fun _ _ _ _ _ => (pg_name (i := 8) hnd rfl (Or.inl rfl))) (fun _ _ _ _ _ => pts_nil) (fun _ _ _ _ _ => (pe_op op_add (pe_dget (hu_of hr) (pv 1) (pv 8) (fun _ _ => rfl)) (pe_ix (ix_tK K rfl) (pe_ix (ix_tK K rfl) (pv 0) (pv 8) (fun _ _ => rfl)) pe_int (fun _ _ => rfl)))))) pa_nil)))
      (pss_cons (ps_set (i := 6) hnd rfl (Or.inl rfl) (pe_op op_cat (pe_lst (pa_cons (pv 5) pa_nil)) (pe_lock (pe_lc (own := [("one", 8)]) rfl hnd (pi_keys (pv 1)) (blkOk_by (own := [("one", 8)]) (N := N_plan_first_begin) (sc := defScope s_plan_first_begin) (by decide +kernel)) (fun _ _ _ _ _ => (pg_name (i := 8) hnd rfl (Or.inl rfl))) (fun _ _ _ _ _ => (pts_one (pt_cmpR op_gt (pe_op op_add (pe_dget (hu_of hr) (pv 1) (pv 8) (fun _ _ => rfl)) (pe_ix (ix_tK K rfl) (pe_ix (ix_tK K rfl) (pv 0) (pv 8) (fun _ _ => rfl)) pe_int (fun _ _ => rfl))) (pv 5) (nomark _)))) (fun _ _ _ _ _ => (pe_op op_add (pe_dget (hu_of hr) (pv 1) (pv 8) (fun _ _ => rfl)) (pe_ix (ix_tK K rfl) (pe_ix (ix_tK K rfl) (pv 0) (pv 8) (fun _ _ => rfl)) pe_int (fun _ _ => rfl))))))))
      (pss_cons (ps_setLc (i := 7) (own := [("moment", 9)]) rfl hnd rfl rfl (sw_true rfl rfl rfl (by decide +kernel)) (pi_list (pv 6)) (blkOk_by (own := [("moment", 9)]) (N := N_plan_first_begin) (sc := defScope s_plan_first_begin) (by decide +kernel)) (fun _ _ _ _ _ => (pg_name (i := 9) hnd rfl (Or.inl rfl))) (fun _ _ _ _ _ => (pts_one (pt_val (pe_c C_plan_can_begin hr (by decide) (by rfl) (pa_cons (pv 0) (pa_cons (pv 1) (pa_cons (pv 2) (pa_cons (pv 9) (pa_cons (pv 3) (pa_cons (pv 4) pa_nil)))))))))) (fun _ _ _ _ _ => (pv 9)))
      (pss_one (ps_ret (pe_callB (cr_min rfl) (by rfl) TX.b_min (by decide +kernel) (pa_cons (pv 7) pa_nil))))))), ?_⟩
    refine q_asg (v := iN (Mx.ready plan b j)) (ev_max (l := 0 :: (nd plan j).map (Mx.fin plan b)) (by simp) (el_cat (xs := [iN 0]) (ys := ((nd plan j).map (Mx.fin plan b)).map iN) (EvK.of (el_lst (ea_cons (ev_c (v := iN 0)) ea_nil) one_le)) (EvK.of ?_) (by rw [List.length_map, List.length_map, List.length_singleton]; omega))) fun H1 e1 => ?_
    · rw [List.map_map]
      obtain ⟨n, n1, n2⟩ := ev_nd (K := K) (σ := start N_plan_first_begin [.ref p, .ref d, iN j, iN M, iN R]) (tp := tVar 0) (tj := tVar 2) (ev_var rfl) (ev_var rfl) h.pl hj
      refine lc_0 (nd plan j) iN _ (ei_tup n2 (st_of n1)) (by omega) (fun _ => rfl) fun o ho => ?_
      exact ev_addN (ev_dget (ev_var rfl) (ev_var rfl) (.of h.bg) (hn o ho)) (ev_len (ev_var rfl) (ev_var rfl) h.pl (h.lt o (hn o ho)))
    · have hB1 := h.ex e1
      have hz : (Mx.moments plan b j).length ≤ 39001 := by
        unfold Mx.moments
        rw [List.length_cons, List.length_map]
        have := List.length_filter_le (fun o => decide (Mx.ready plan b j < Mx.fin plan b o)) (ks b)
        have := h.sz
        have : (ks b).length = b.length := Mx.ks_len b
        omega
      refine q_asgL (xs := (Mx.moments plan b j).map iN) (el_cat (xs := [iN (Mx.ready plan b j)]) (ys := (((ks b).filter fun o => decide (Mx.ready plan b j < Mx.fin plan b o)).map (Mx.fin plan b)).map iN) (EvK.of (el_lst (ea_cons (ev_var rfl) ea_nil) one_le)) (EvK.of ?_) (by have := hz; unfold Mx.moments at this; rw [List.length_cons] at this; rw [List.length_map, List.length_singleton]; omega)) fun s H2 hs e2 h2 => ?_
      · rw [List.map_map]
        refine el_lock hB1.bg True.intro fun od => lc_n (ks b) iN (fun o => decide (Mx.ready plan b j < Mx.fin plan b o)) (fun o => iN (Mx.fin plan b o)) (hB1.keys od (ev_var rfl)) hB1.kz (fun _ => rfl) (fun o ho => et_test ?_) (fun o ho _ => ?_)
        · obtain ⟨PL, BR⟩ := hB1.lock od
          exact ev_gtN (ev_addN (ev_dget (ev_var rfl) (ev_var rfl) BR ho) (ev_len (ev_var rfl) (ev_var rfl) PL (h.lt o ho))) (ev_var rfl)
        · obtain ⟨PL, BR⟩ := hB1.lock od
          exact ev_addN (ev_dget (ev_var rfl) (ev_var rfl) BR ho) (ev_len (ev_var rfl) (ev_var rfl) PL (h.lt o ho))
      · have hB2 := hB1.ex e2
        refine q_asgL (xs := (Mx.fits plan b j M R).map iN) (lc_n (Mx.moments plan b j) iN (fun m => Mx.canBegin plan b j m M R) iN (ei_list (ev_var rfl) (sq_of h2)) (by omega) (fun _ => rfl) (fun m hm => et_B ?_) (fun m hm _ => ev_var rfl)) fun s3 H3 hs3 e3 h3 => ?_
        · exact ev_c1 (ea_cons (ev_var rfl) (ea_cons (ev_var rfl) (ea_cons (ev_var rfl) (ea_cons (ev_var rfl) (ea_cons (ev_var rfl) (ea_cons (ev_var rfl) ea_nil)))))) fun H1 e Q q E => ⟨p, d, plan, b, j, m, M, R, rfl, hB2.ex e, hj, q⟩
        · refine s_ret (v := iN (Mx.firstBegin plan b j M R)) (ev_minK (Mx.fits_ne hM hR) (ev_var rfl) (sq_of h3)) fun H4 e4 => k H4 (((e1.trans e2).trans e3).trans e4)
abbrev s_plan_end : Stmt := topS 28
abbrev N_plan_end : List Str := ["plan", "begins", "job"]
theorem sc_plan_end : FnScope N_plan_end ["plan", "begins"] (defScope s_plan_end) := ⟨rfl, rfl, rfl, by decide +kernel, rfl, by decide +kernel, by decide +kernel⟩
def sp_plan_end : Sp := fun vs H Q _ => ∃ (p d : Addr) (plan : Plan) (b : Beg), vs = [.ref p, .ref d] ∧ PB H p d plan b ∧ b ≠ [] ∧ Ret Q H (iN (Mx.planEnd plan b))
theorem cal_plan_end (D : DefAt K mg "plan_end" s_plan_end ["plan", "begins"]) (TX : Txt mg) : Cal P w K mg base 1 "plan_end" (sp_plan_end) := by
  have hnd := sc_plan_end.nd
  refine cal_of D sc_plan_end (fun vs H Q E h => ?len) (fun f cdv A outer s H vs Q E hr h => ?body)
  case len => obtain ⟨p, d, plan, b, rfl, _⟩ := h; rfl
  case body =>
    obtain ⟨p, d, plan, b, rfl, h, hne, k⟩ := h
    refine ⟨_, (pss_one (ps_ret (pe_callB (cr_max rfl) (by rfl) TX.b_max (by decide +kernel) (pa_cons (pe_lock (pe_lc (own := [("job", 2)]) rfl hnd (pi_keys (pv 1)) (blkOk_by (own := [("job", 2)]) (N := N_plan_end) (sc := defScope s_plan_end) (by decide +kernel)) (fun _ _ _ _ _ => (pg_name (i := 2) hnd rfl (Or.inl rfl))) (fun _ _ _ _ _ => pts_nil) (fun _ _ _ _ _ => (pe_op op_add (pe_dget (hu_of hr) (pv 1) (pv 2) (fun _ _ => rfl)) (pe_ix (ix_tK K rfl) (pe_ix (ix_tK K rfl) (pv 0) (pv 2) (fun _ _ => rfl)) pe_int (fun _ _ => rfl)))))) pa_nil)))), ?_⟩
    refine s_ret (v := iN (Mx.planEnd plan b)) (ev_max (l := (ks b).map (Mx.fin plan b)) (by cases b with | nil => exact absurd rfl hne | cons q r => simp [ks]) (el_lock h.bg True.intro fun od => ?_)) k
    rw [List.map_map]
    obtain ⟨PL, BR⟩ := h.lock od
    refine lc_0 (ks b) iN _ (h.keys od (ev_var rfl)) h.kz (fun _ => rfl) fun o ho => ?_
    exact ev_addN (ev_dget (ev_var rfl) (ev_var rfl) BR ho) (ev_len (ev_var rfl) (ev_var rfl) PL (h.lt o ho))
end
end Wk
end

section
set_option Elab.async false
set_option linter.all false
set_option maxRecDepth 100000
set_option maxHeartbeats 4000000
namespace Wk
open PySem PySem.Spec PyProof.Rows L2 Evl
open Mx (Plan Beg Job jb ln nd rm ks look has T)
/-! ## name = {k: v for ..} -/
section
variable {X : Cx}
theorem ps_setDc {i : Nat} {y : Str} {py : Pos} {kx vx tg iter : Expr} {ifs : List Expr} {scope : Scope} {own : List (Str × Nat)} {pos spos : Pos} {wi : TI} {g : TG} {tt : TT} {tk tv : TE} (hc : X.calm = true) (hN : X.N.Nodup) (hy : X.N[i]? = some y) (hyl : X.env.scope.names.lookup y = some .local)
    (hsw : swapsWith (.DictComp kx vx [⟨tg, iter, ifs, 0⟩] scope pos) (some (.Name y py)) spos.line X.env = pure true) (hi : PI X tg iter wi) (ok : BlkOk X.N X.env.scope scope own)
    (hg : ∀ (s : Shared) (H : Hp) (C : Addr) (cl : List (Str × Addr)) (fp : List Addr), PG (X.blk s H scope (compEnvC scope cl C X.env) fp) tg g) (ht : ∀ (s : Shared) (H : Hp) (C : Addr) (cl : List (Str × Addr)) (fp : List Addr), PTs (X.blk s H scope (compEnvC scope cl C X.env) fp) ifs tt)
    (hk : ∀ (s : Shared) (H : Hp) (C : Addr) (cl : List (Str × Addr)) (fp : List Addr), PE (X.blk s H scope (compEnvC scope cl C X.env) fp) kx tk)
    (he : ∀ (s : Shared) (H : Hp) (C : Addr) (cl : List (Str × Addr)) (fp : List Addr), PE (X.blk s H scope (compEnvC scope cl C X.env) fp) vx tv) (hs : ∀ x, foldedSetIterable iter X.env x = pure x := by intro _; rfl) :
    PS X (.Assign [.Name y py] (.DictComp kx vx [⟨tg, iter, ifs, 0⟩] scope pos) spos) (tAsg (tDc wi g tt tk tv (own.map (·.2))) (gName i)) := by
  refine ⟨fun pins s σ H D I h => ?_⟩
  rw [exec_Assign_Name_used _ _ _ _ hsw]
  refine wpAny_bind (wpAny_standAt (wpAny_bind ?_))
  show wpAny _ X.A (do let _ ← comprehension (.DictComp kx vx [⟨tg, iter, ifs, 0⟩] scope pos) scope X.env (firstIterPos [⟨tg, iter, ifs, 0⟩] pos) newDict false (eval iter X.env) (some (assign (.Name y py) X.env))) _ _ s
  have h : tDc wi g tt tk tv (own.map (·.2)) σ H (fun x H1 => gName i x σ H1 D.nx) := h
  refine wpAny_bind (thn (dc_core (Qf := fun _ s' => SP X pins D .next s') hc hN I hi ok hg ht hk he hs h fun L C s' m H' I' q hn f => ?_) fun _ s' hq => wpAny_pure (wpAny_pure hq))
  show wpAny _ _ (assign (.Name y py) X.env (.ref L)) _ _ _
  refine wpAny_assign_Name (store_ok2 (v := V.ref L) I' hN hy (.inl hyl) rfl (fun s2 I2 ⟨a, sb, ha⟩ => ?_) (.inr hyl))
  obtain ⟨f0, f1, f2, f3, f4, f5⟩ := f
  have haC : C ≠ a := by
    rcases ha with z | z
    · rw [z]; exact f1
    · exact fun e => f4 y a z e.symm
  refine ⟨m, hn.sameBut sb haC, fun h3 sb3 => ?_⟩
  exact ⟨_, H', I2.turned (t' := s2.toks) (fun b o hb e => (sb3.2 b hb).trans e) f0 f1 f3 f4 f5, q⟩
theorem sw_trueD {kx vx : Expr} {gs : List Comprehension} {scope : Scope} {pos py : Pos} {y : Str} {l : Nat} {env : Env} (hk : env.scope.kind = .function) (hy : env.scope.names.lookup y = some .local) (hl : (py.line == pos.line) = true)
    (ha : (scope.names.any fun (n, k) => n == y && (k == .local || k == .cell)) = false) : swapsWith (.DictComp kx vx gs scope pos) (some (.Name y py)) l env = pure true := by
  have ky : env.kindOf y = some .local := hy
  have hb : env.blockKind = .function := by unfold Env.blockKind; rw [hk]; rfl
  unfold swapsWith
  simp only [hb, ky, ha, Expr.pos, hl]
  rfl
end
/-! ## sorted of alike data: the same in another order -/
def rSortD (K : PySem.W.Frag) : List V → Hp → VK → Prop := fun vs H Q => ∃ (a : Addr) (xs : List V) (ds : List PyData), vs = [V.ref a] ∧ SqL K H a xs ∧ DpAll K H xs ds ∧ PySem.W.AllAlike ds ∧ PySem.W.Sortable ds ∧ (∀ d ∈ ds, d.depth ≤ 32) ∧ (∀ x ∈ xs, ∃ a, x = V.ref a) ∧
  ∀ (ys : List V) (p : Addr), ys.Perm xs → H p = none → Q (.ref p) (upd H p (.lst ys))
theorem each_zip {R : Value → PyData → Prop} : ∀ {vs : List Value} {ds : List PyData}, vs.length = ds.length → (∀ (i : Nat) v d, vs[i]? = some v → ds[i]? = some d → R v d) → PySem.W.EachIs (fun v (b : Value × PyData) => R v b.2) vs (vs.zip ds) ∧ PySem.W.EachIs (fun v (b : Value × PyData) => v = b.1) vs (vs.zip ds)
  | [], [], _, _ => ⟨.nil, .nil⟩
  | v :: vs, d :: ds, hl, h => by
    obtain ⟨h1, h2⟩ := each_zip (R := R) (vs := vs) (ds := ds) (by simpa using hl) fun i v d e1 e2 => h (i + 1) v d (by simpa using e1) (by simpa using e2)
    exact ⟨.cons (h 0 v d rfl rfl) h1, .cons rfl h2⟩
  | [], _ :: _, hl, _ => by simp at hl
  | _ :: _, [], hl, _ => by simp at hl
theorem each_fst : ∀ {vs : List Value} {bs : List (Value × PyData)}, PySem.W.EachIs (fun v (b : Value × PyData) => v = b.1) vs bs → vs = bs.map (·.1)
  | _, _, .nil => rfl
  | _, _, .cons h t => by rw [List.map_cons, ← each_fst t, h]
theorem reads_each {h : Heap} : ∀ {vs : List Value} {ds : List PyData} {as : List Addr}, ReadsAll h vs ds as → vs.length = ds.length ∧ ∀ (i : Nat) v d, vs[i]? = some v → ds[i]? = some d → ∃ as, Reads h v d as
  | _, _, _, .nil => ⟨rfl, fun i v d h => by simp at h⟩
  | _, _, _, .cons r rs => by
    obtain ⟨l, f⟩ := reads_each rs
    refine ⟨by simp [l], fun i v d h1 h2 => ?_⟩
    cases i with
    | zero =>
      have e1 := Option.some.inj (show some _ = some v from h1)
      have e2 := Option.some.inj (show some _ = some d from h2)
      subst e1 e2
      exact ⟨_, r⟩
    | succ i => exact f i v d (by simpa using h1) (by simpa using h2)
theorem zip_snd {vs : List Value} {ds : List PyData} (h : vs.length = ds.length) : (vs.zip ds).map (·.2) = ds := List.map_snd_zip (by omega)
theorem zip_fst {vs : List Value} {ds : List PyData} (h : vs.length = ds.length) : (vs.zip ds).map (·.1) = vs := List.map_fst_zip (by omega)
theorem cr_sortD {X : Cx} (hu : X.A.units + 64 < cLine) : CallR X (.builtin "sorted") (rSortD X.K) := by
  intro pins s σ H vs us Q I r h
  obtain ⟨a, xs, ds, rfl, hs, hd, hal, hso, hdp, hx, q⟩ := h
  obtain ⟨its, rv, hl, hz⟩ := I.list hs
  rw [Vals.ref1 r]
  obtain ⟨e1, e2⟩ := bkV_refs rv hx
  obtain ⟨as, hr⟩ := Dp.readsAll I ds xs its hd rv
  obtain ⟨hlen, hat⟩ := reads_each hr
  obtain ⟨z1, z2⟩ := each_zip (R := fun v d => ∃ as, Reads s.heap v d as) hlen hat
  refine PySem.W.sorted_data (enc := fun b : Value × PyData => b.2) hl.isList z2 z1 (by rw [zip_snd hlen]; exact hal) (by rw [zip_snd hlen]; exact hso) ?_ (fun b hb => ?_) fun out h1 h2 => ?_
  · rw [List.length_zip, ← hlen, Nat.min_self, ← rv.length]
    exact hz
  · have hb2 : b.2 ∈ ds := by
      rw [← zip_snd hlen]
      exact List.mem_map.mpr ⟨b, hb, rfl⟩
    have := hdp _ hb2
    show X.A.units + 2 + b.2.depth < cLine
    omega
  · have hp1 : out.Perm its := by
      rw [each_fst h2]
      refine ((List.mergeSort_perm _ _).map _).trans ?_
      rw [zip_fst hlen]
    obtain ⟨ep, he'⟩ := PyProof.Rows.sortedAll_at s.heap its out.toArray
    have h3 : ∀ u ∈ out, ∃ a, u = Value.ref a := fun u hu => e2 u (hp1.mem_iff.mp hu)
    have hp : (out.map bkV).Perm xs := by
      rw [e1]
      exact hp1.map bkV
    have hlen2 : (out.map bkV).length ≤ sizeLine := by
      rw [hp.length_eq]
      exact hz
    exact ⟨.ref _, upd H (s.heap.objs.size + 1) (.lst (out.map bkV)), I.laid (t' := s.toks) (fun _ _ => PyProof.Rows.sortedAll_old) (Nat.le_succ _) ⟨hlen2, out, ep, bkV_vals h3, he'⟩, rfl, q _ _ hp (I.hok.fresh (Nat.le_succ _))⟩
/-! ## new things of any kind -/
def EvN (te : TE) (σ : L2.St) (H : Hp) (o : HO) : Prop := ∀ H1, Ex H H1 → ∀ Q : VK, (∀ p H2, H1 p = none → Ex H1 H2 → H2 p = some o → Q (.ref p) H2) → te σ H1 Q
section
variable {K : PySem.W.Frag} {σ : L2.St} {H H' : Hp} {ta tb tc te tx tp tj td ty tv : TE} {t u : TT} {x y z v : V} {D : L2.Ends} {tu tw tz : TS} {g : TG}
theorem q_asgN {i : Nat} {o : HO} (h : EvN te σ H o) (k : ∀ p H1, H p = none → Ex H H1 → H1 p = some o → tz D (σ.set i (some (.ref p))) H1) : tSeq (tAsg te (gName i)) tz D σ H := h H (Ex.refl H) _ fun p H1 hp e h1 => k p H1 hp e h1
theorem en_dict : EvN tDNewK σ H (.dK []) := fun H1 e Q q p hp => q p _ hp (Ex.new hp) upd_same
/-- name = what is made while d is locked -/
theorem q_lockN {i : Nat} {d : Addr} {o u : HO} (hd : H d = some u) (mu : Mut (some u)) (h : ∀ od, EvN te σ (upd H d (.frz od u)) o) (k : ∀ p H1, H p = none → Ex H H1 → H1 p = some o → tz D (σ.set i (some (.ref p))) H1) :
    tSeq (tLock (tAsg te (gName i))) tz D σ H := by
  refine ⟨d, u, hd, mu, fun od => h od _ (Ex.refl _) _ fun p H2 hp e2 h2 => ?_⟩
  have npd : p ≠ d := fun z => by rw [z, upd_same] at hp; cases hp
  refine ⟨e2 _ _ upd_same, k p _ (by rw [upd_ne npd] at hp; exact hp) (fun b o hb => ?_) (by rw [upd_ne npd]; exact h2)⟩
  by_cases z : b = d
  · subst z
    rw [hd] at hb
    cases hb
    exact upd_same
  · rw [upd_ne z]
    exact e2 _ _ (by rw [upd_ne z]; exact hb)
theorem nodup_take {b : Beg} (hn : (ks b).Nodup) {i : Nat} {q : Nat × Nat} (h : b[i]? = some q) : q.1 ∉ ks (b.take i) := fun m => by
  obtain ⟨hi, e⟩ := List.getElem?_eq_some_iff.mp h
  obtain ⟨q2, hq, e2⟩ := List.mem_map.mp m
  obtain ⟨k, hk, ek⟩ := List.getElem_of_mem hq
  have hk' : k < i := by rw [List.length_take] at hk; omega
  have e3 : (ks b)[k]'(by rw [Mx.ks_len]; omega) = (ks b)[i]'(by rw [Mx.ks_len]; omega) := by
    simp only [ks, List.getElem_map]
    rw [e, ← e2, ← ek, List.getElem_take]
  have := (List.getElem_inj hn).mp e3
  omega
theorem T_at {b : Beg} (hn : (ks b).Nodup) {i : Nat} {q : Nat × Nat} (h : b[i]? = some q) : T b q.1 = q.2 := by
  have hs : b = b.take i ++ (q :: b.drop (i + 1)) := by
    obtain ⟨hi, e⟩ := List.getElem?_eq_some_iff.mp h
    rw [← e, ← List.drop_eq_getElem_cons hi, List.take_append_drop]
  have hno := nodup_take hn h
  have : look b q.1 = some q.2 := by
    rw [hs]
    have l0 := Mx.look_none hno
    unfold look at l0 ⊢
    rw [List.find?_append, Option.map_eq_none_iff.mp l0, List.find?_cons]
    simp
  unfold T
  rw [this]
  rfl
/-- {one: begins[one] for one in begins} -/
theorem dc_copy {vs : List Nat} {j : Nat} {b : Beg} (hn : (ks b).Nodup) (hz : b.length ≤ 1000) (hi : EvI (iKeys td) σ H ((ks b).map iN)) (hw : ∀ x, wipe ((wipe σ vs).set j (some x)) vs = wipe σ vs)
    (hk : ∀ o ∈ ks b, Ev tx ((wipe σ vs).set j (some (iN o))) H (iN o)) (hv : ∀ o ∈ ks b, Ev tv ((wipe σ vs).set j (some (iN o))) H (iN (T b o))) : EvN (tDc (iKeys td) (gName j) tYes tx tv vs) σ H (.dK (begV b)) := fun H0 e Q q =>
  hi H0 e _ fun J H1 e1 go D hD => by
    have lx : ((ks b).map iN).length = b.length := by rw [List.length_map, Mx.ks_len]
    refine ⟨fun i m H' => m = b.length - i ∧ i ≤ b.length ∧ Ex H1 H' ∧ H' D = some (.dK (begV (b.take i))), ⟨_, rfl, Nat.zero_le _, Ex.new hD, upd_same⟩, ?_⟩
    rintro i m H' ⟨rfl, hi', h1, h2⟩
    by_cases hlt : i < b.length
    · refine .inr ⟨go.go i H' (by rw [lx]; exact hlt) h1, fun H'' => Ex H1 H'' ∧ H'' D = some (.dK (begV (b.take (i + 1)))), fun H'' c => ⟨b.length - (i + 1), by omega, rfl, hlt, c.1, c.2⟩, fun x H'' y => ?_⟩
      obtain ⟨ey, gx⟩ := go.yld i H' x H'' (by rw [lx]; exact hlt) h1 y
      subst ey
      have hq : b[i]? = some b[i] := List.getElem?_eq_getElem hlt
      have gx' : iN (b[i]).1 = x := by
        rw [List.getElem?_map] at gx
        simp only [ks, List.getElem?_map, hq] at gx
        exact Option.some.inj gx
      subst gx'
      have mem : (b[i]).1 ∈ ks b := List.mem_map.mpr ⟨b[i], List.getElem_mem hlt, rfl⟩
      refine ⟨hw _, hk _ mem H'' ((e.trans e1).trans h1) _ fun H4 e4 => hv _ mem H4 (((e.trans e1).trans h1).trans e4) _ fun H5 e5 => ⟨begV (b.take i), kN (b[i]).1, rfl, e5 _ _ (e4 _ _ h2), ?_, Ex.mut ((h1.trans e4).trans e5) hD, ?_⟩⟩
      · rw [begV_len, List.length_take]
        exact sz_lt (by omega)
      · rw [upd_same, T_at hn hq, begV_app _ _ _ (nodup_take hn hq), List.take_add_one, hq]
        rfl
    · have ei : i = b.length := by omega
      subst ei
      refine .inl ⟨go.stop _ H' (by rw [lx]; exact Nat.le_refl _) h1, q D H' (fresh_back e1 hD) (e1.trans h1) ?_⟩
      rw [List.take_length] at h2
      exact h2
/-- d[k] = v, the key a new one -/
theorem s_dput {ta tb te : TE} {d : Addr} {b : Beg} {j m : Nat} (hd : H d = some (.dK (begV b))) (hj : j ∉ ks b) (hz : b.length ≤ 1000) (ho : Ev ta σ H (.ref d)) (hi : Ev tb σ H (iN j)) (hv : Ev te σ H (iN m)) (k : ∀ H1, Ex H H1 → D.nx σ (upd H1 d (.dK (begV (b ++ [(j, m)]))))) :
    sDPut ta tb te D σ H := hv H (Ex.refl H) _ fun H1 e1 => ho H1 e1 _ fun H2 e2 => hi H2 (e1.trans e2) _ fun H3 e3 =>
  ⟨d, _, rfl, DPut.k (k := kN j) (v := iN m) (((e1.trans e2).trans e3) _ _ hd) (by rw [begV_len]; exact sz_lt (by omega)), by
    rw [begV_app _ _ _ hj]
    exact k H3 ((e1.trans e2).trans e3)⟩
theorem q_dput {ta tb te : TE} {d : Addr} {b : Beg} {j m : Nat} (hd : H d = some (.dK (begV b))) (hj : j ∉ ks b) (hz : b.length ≤ 1000) (ho : Ev ta σ H (.ref d)) (hi : Ev tb σ H (iN j)) (hv : Ev te σ H (iN m)) (k : ∀ H1, Ex H H1 → tz D σ (upd H1 d (.dK (begV (b ++ [(j, m)]))))) :
    tSeq (sDPut ta tb te) tz D σ H := s_dput (D := { D with nx := tz D }) hd hj hz ho hi hv k
/-- for over a range with step -1 -/
theorem s_forR3 {ta : TA} {j : Nat} {lo : Int} {n : Nat} (h : EvA ta σ H [.int lo, .int (-1), .int (-1)]) (hn : lo = (n : Int) - 1) (hz : n ≤ 1000) (Pv : Nat → L2.St → Hp → Prop) (h0 : ∀ H1, Ex H H1 → Pv 0 σ H1)
    (hs : ∀ (i : Nat) σ' H', i < n → Pv i σ' H' → tu { D with nx := Pv (i + 1), ct := Pv (i + 1), bk := D.nx } (σ'.set j (some (iN (n - 1 - i)))) H') (hd : ∀ σ' H', Pv n σ' H' → D.nx σ' H') : tFor (iRng3 ta) (gName j) tu D σ H :=
  h H (Ex.refl H) _ fun H1 e => ⟨lo, -1, -1, (lo - -1).toNat, rfl, RgC.neg (by omega) (by omega) (by decide) (by decide), by
    have e1 : (lo - -1).toNat = n := by omega
    rw [e1]
    refine for_rangeC Pv (h0 H1 e) (fun i σ' H' hi p => ?_) hd
    have e0 : lo + (i : Int) * -1 = ((n - 1 - i : Nat) : Int) := by omega
    show tu { D with nx := Pv (i + 1), ct := Pv (i + 1), bk := D.nx } (σ'.set j (some (.int (lo + (i : Int) * -1)))) H'
    rw [e0]
    exact hs i σ' H' hi p⟩
theorem q_forR3 {ta : TA} {j : Nat} {lo : Int} {n : Nat} (h : EvA ta σ H [.int lo, .int (-1), .int (-1)]) (hn : lo = (n : Int) - 1) (hz : n ≤ 1000) (Pv : Nat → L2.St → Hp → Prop) (h0 : ∀ H1, Ex H H1 → Pv 0 σ H1)
    (hs : ∀ (i : Nat) σ' H', i < n → Pv i σ' H' → tu { D with nx := Pv (i + 1), ct := Pv (i + 1), bk := tz D } (σ'.set j (some (iN (n - 1 - i)))) H') (hd : ∀ σ' H', Pv n σ' H' → tz D σ' H') : tSeq (tFor (iRng3 ta) (gName j) tu) tz D σ H :=
  s_forR3 (D := { D with nx := tz D }) h hn hz Pv h0 hs hd
theorem inV_iN {j : Nat} {l : List Nat} : inV (iN j) (l.map iN) = l.contains j := by
  unfold inV
  rw [List.any_map]
  induction l with
  | nil => rfl
  | cons a r ih =>
    rw [List.any_cons, ih, List.contains_cons]
    congr 1
    show ((a : Int) == (j : Int)) = (j == a)
    rw [Bool.eq_iff_iff, beq_iff_eq, beq_iff_eq]
    omega
theorem flat_iN {l : List Nat} : (l.map iN).all flatV = true := by
  rw [List.all_map]
  exact List.all_eq_true.mpr fun _ _ => rfl
theorem ev_inN {j : Nat} {l : List Nat} {p : Addr} (ha : Ev ta σ H (iN j)) (hb : Ev tb σ H (.ref p)) (h : H p = some (.tup (l.map iN))) : Ev (tOp (rIn K false) ta tb) σ H (.bl (l.contains j)) :=
  ev_op ha hb ((rv_isT (st_of h) rfl flat_iN).is (by rw [inV_iN]))
theorem ev_niN {j : Nat} {l : List Nat} {p : Addr} (ha : Ev ta σ H (iN j)) (hb : Ev tb σ H (.ref p)) (h : H p = some (.tup (l.map iN))) : Ev (tOp (rIn K true) ta tb) σ H (.bl (!l.contains j)) :=
  ev_op ha hb ((rv_niT (st_of h) rfl flat_iN).is (by rw [inV_iN]))
end
/-! ## the promises' keys -/
theorem KeyV.tk {H H' : Hp} {k : NestedKey} {x : V} (t : Tk H H') (kv : KeyV H k x) : KeyV H' k x := by
  induction kv with
  | int i => exact .int i
  | @tup a ks xs hH hl hk ih => exact .tup (t _ _ hH) hl ih
theorem NKeys.tk {H H' : Hp} {ks : List (NestedKey × Addr)} (t : Tk H H') (h : NKeys H ks) : NKeys H' ks := fun k hk => ⟨(h k hk).1.tk t, (h k hk).2⟩
abbrev kNum (n : Nat) : NestedKey := .num (n : Int)
def markKey (m : Mx.Mark) : NestedKey := .tup [.tup [.num (m.1.len : Int), .tup (m.1.needs.map kNum), .num (m.1.room : Int)], .tup (m.2.map kNum)]
theorem num_inj : ∀ {l r : List Nat}, l.map (kNum) = r.map (kNum) → l = r
  | [], [], _ => rfl
  | a :: l, b :: r, h => by
    rw [List.map_cons, List.map_cons] at h
    injection h with h1 h2
    injection h1 with h1
    rw [num_inj h2, show a = b by omega]
  | [], _ :: _, h => by simp at h
  | _ :: _, [], h => by simp at h
theorem markKey_inj {m m' : Mx.Mark} (h : markKey m = markKey m') : m = m' := by
  obtain ⟨⟨l1, n1, r1⟩, u1⟩ := m
  obtain ⟨⟨l2, n2, r2⟩, u2⟩ := m'
  unfold markKey at h
  simp only [NestedKey.tup.injEq, List.cons.injEq, NestedKey.num.injEq, and_true] at h
  obtain ⟨⟨h1, h2, h3⟩, h4⟩ := h
  rw [num_inj h2, num_inj h4, show l1 = l2 by omega, show r1 = r2 by omega]
theorem depth_nums : ∀ l : List Nat, NestedKey.depthAll (l.map kNum) ≤ 1
  | [] => by simp [NestedKey.depthAll]
  | a :: r => by
    have ih := depth_nums r
    rw [List.map_cons]
    simp only [NestedKey.depthAll, NestedKey.depth]
    omega
theorem markKey_depth (m : Mx.Mark) : (markKey m).depth ≤ 8 := by
  have h1 := depth_nums m.1.needs
  have h2 := depth_nums m.2
  unfold markKey
  simp only [NestedKey.depth, NestedKey.depthAll]
  omega
theorem keyV_nums {H : Hp} {a : Addr} {l : List Nat} (h : H a = some (.tup (l.map iN))) : KeyV H (.tup (l.map kNum)) (.ref a) := by
  refine .tup h (by simp) fun i k x h1 h2 => ?_
  rw [List.getElem?_map] at h1 h2
  obtain ⟨n, hn, rfl⟩ := Option.map_eq_some_iff.mp h1
  rw [hn] at h2
  have e := Option.some.inj (show some (iN n) = some x from h2)
  subst e
  exact .int _
theorem keyV_mark {H : Hp} {m a n u : Addr} {j : Job} {us : List Nat} (hm : H m = some (.tup [.ref a, .ref u])) (ha : H a = some (.tup [iN j.len, .ref n, iN j.room])) (hn : H n = some (.tup (j.needs.map iN))) (hu : H u = some (.tup (us.map iN))) : KeyV H (markKey (j, us)) (.ref m) := by
  refine .tup hm rfl fun i k x h1 h2 => ?_
  match i, h1, h2 with
  | 0, h1, h2 =>
    have e1 := Option.some.inj h1
    have e2 := Option.some.inj h2
    subst e1 e2
    refine .tup ha rfl fun i k x h1 h2 => ?_
    match i, h1, h2 with
    | 0, h1, h2 => cases Option.some.inj h1; cases Option.some.inj h2; exact .int _
    | 1, h1, h2 => cases Option.some.inj h1; cases Option.some.inj h2; exact keyV_nums hn
    | 2, h1, h2 => cases Option.some.inj h1; cases Option.some.inj h2; exact .int _
    | i + 3, h1, h2 => simp at h1
  | 1, h1, h2 => cases Option.some.inj h1; cases Option.some.inj h2; exact keyV_nums hu
  | i + 2, h1, h2 => simp at h1
end Wk
end

section
set_option Elab.async false
set_option linter.all false
set_option maxRecDepth 100000
set_option maxHeartbeats 4000000
namespace Wk
open PySem PySem.Spec PyProof.Rows L2 Evl
open Mx (Plan Beg Job jb ln nd rm ks look has T)
section
variable {P : Program} {w : World} {K : PySem.W.Frag} {mg : Str → Option Value} {base : Heap}
theorem el_c1 {σ : L2.St} {H : Hp} {sp : Sp} {vs xs : List V} {ta : TA} (h : EvA ta σ H vs) (hs : ∀ H1, Ex H H1 → ∀ Q : VK, RetL xs H1 Q → ∀ E : XK, sp vs H1 Q E) : EvL (tCall sp [] E0 ta) σ H xs :=
  el_call h (by rw [List.append_nil]; exact fun H1 e Q q E => hs H1 e Q q E)
def rTupS (K : PySem.W.Frag) : List V → Hp → VK → Prop := fun xs H Q => ∃ p ys, xs = [.ref p] ∧ ((SqL K H p ys ∧ ∀ l, H l = none → Q (.ref l) (upd H l (.tup ys))) ∨ (SqT K H p ys ∧ Q (.ref p) H))
theorem eu_tupOf {σ : L2.St} {H : Hp} {xs : List V} {ta : TE} (h : EvL ta σ H xs) : EvU (tCB (rTupS K) (tCons ta tNil)) σ H xs := fun H1 e Q q =>
  h H1 e _ fun p H2 hp e2 h2 => ⟨p, xs, rfl, .inl ⟨sq_of h2, fun l hn => q l _ (fresh_back e2 hn) (e2.trans (Ex.new hn)) upd_same⟩⟩
theorem eu_pair {σ : L2.St} {H : Hp} {x : V} {ys : List V} {ta tb : TE} (ha : Ev ta σ H x) (hb : EvU tb σ H ys) : ∀ H1, Ex H H1 → ∀ Q : VK, (∀ p u H2, H1 p = none → Ex H1 H2 → H2 p = some (.tup [x, .ref u]) → H2 u = some (.tup ys) → Q (.ref p) H2) → tTup (tCons ta (tCons tb tNil)) σ H1 Q := fun H1 e Q q =>
  ha H1 e _ fun H2 e2 => hb H2 (e.trans e2) _ fun u H3 hu e3 h3 => ⟨sz_of (by show 2 ≤ 100000; decide), fun p hp => q p u _ (fresh_back (e2.trans e3) hp) ((e2.trans e3).trans (Ex.new hp)) upd_same (Ex.new hp _ _ h3)⟩
theorem q_asgPair {σ : L2.St} {H : Hp} {x : V} {ys : List V} {ta tb : TE} {tz : TS} {D : L2.Ends} {i : Nat} (ha : Ev ta σ H x) (hb : EvU tb σ H ys) (k : ∀ p u H2, H p = none → Ex H H2 → H2 p = some (.tup [x, .ref u]) → H2 u = some (.tup ys) → tz D (σ.set i (some (.ref p))) H2) : tSeq (tAsg (tTup (tCons ta (tCons tb tNil))) (gName i)) tz D σ H :=
  (eu_pair ha hb H (Ex.refl H) (fun v H1 => gName i v σ H1 (tz D)) fun p u H2 a b c d => k p u H2 a b c d : _)
theorem q_setN {σ : L2.St} {H : Hp} {ta tb : TE} {tz : TS} {D : L2.Ends} {d m : Addr} {k : NestedKey} {ks : List (NestedKey × Addr)} (hd : H d = some (NDo P w d ks)) (hk : NKeys H ks) (kv : KeyV H k (.ref m)) (kd : k.depth ≤ 8) (hn : ¬ k ∈ ks.map (·.1)) (hl : ks.length < 1000)
    (ho : Ev ta σ H (.ref d)) (hi : Ev tb σ H (.ref m)) (q : ∀ H1, Ex H H1 → tz D σ (L2.upd H1 d (NDo P w d (ks ++ [(k, m)])))) : tSeq (tAsg (tC (.bl true)) (gSub ta tb (rSetN P w))) tz D σ H :=
  ho H (Ex.refl H) _ fun H2 e2 => hi H2 e2 _ fun H3 e3 => ⟨d, m, k, ks, rfl, rfl, rfl, (e2.trans e3) _ _ hd, hk.tk (Tk.of (e2.trans e3)), kv.tk (Tk.of (e2.trans e3)), kd, hn, hl, q H3 (e2.trans e3)⟩
/-! ### plan_users -/
abbrev s_plan_users : Stmt := topS 30
abbrev N_plan_users : List Str := ["plan", "job", "one"]
theorem sc_plan_users : FnScope N_plan_users ["plan", "job"] (defScope s_plan_users) := ⟨rfl, rfl, rfl, by decide +kernel, rfl, by decide +kernel, by decide +kernel⟩
def sp_plan_users : Sp := fun vs H Q _ => ∃ (p : Addr) (plan : Plan) (j : Nat), vs = [.ref p, iN j] ∧ PlanAt H p plan ∧ plan.length ≤ 1000 ∧ RetL ((Mx.users plan j).map iN) H Q
theorem cal_plan_users (D : DefAt K mg "plan_users" s_plan_users ["plan", "job"]) (TX : Txt mg) : Cal P w K mg base 1 "plan_users" (sp_plan_users) := by
  have hnd := sc_plan_users.nd
  refine cal_of D sc_plan_users (fun vs H Q E h => ?len) (fun f cdv A outer s H vs Q E hr h => ?body)
  case len => obtain ⟨p, plan, j, rfl, _⟩ := h; rfl
  case body =>
    obtain ⟨p, plan, j, rfl, hP, hz, k⟩ := h
    refine ⟨_, (pss_one (ps_ret (pe_lc (own := [("one", 2)]) rfl hnd (pi_range1 (by rfl) TX.b_range (pa_cons (pe_callB call_len_seq (by rfl) TX.b_len (by decide +kernel) (pa_cons (pv 0) pa_nil)) pa_nil)) (blkOk_by (own := [("one", 2)]) (N := N_plan_users) (sc := defScope s_plan_users) (by decide +kernel)) (fun _ _ _ _ _ => (pg_name (i := 2) hnd rfl (Or.inl rfl))) (fun _ _ _ _ _ => (pts_one (pt_cmpR (op_inK K rfl) (pv 1) (pe_ix (ix_tK K rfl) (pe_ix (ix_tK K rfl) (pv 0) (pv 2) (fun _ _ => rfl)) pe_int (fun _ _ => rfl)) (by rfl)))) (fun _ _ _ _ _ => (pv 2))))), ?_⟩
    refine s_retL (lc_n (List.range plan.length) iN (fun o => (nd plan o).contains j) iN (ei_range1 (ea_cons (ev_lenP (ev_var rfl) hP) ea_nil) (by omega)) (by rw [List.length_range]; omega) (fun _ => rfl) (fun o ho => et_test ?_) (fun o ho _ => ev_var rfl)) fun q H1 hq e1 h1 => k q H1 hq e1 h1
    obtain ⟨n, n1, n2⟩ := ev_nd (K := K) (σ := (wipe (start N_plan_users [.ref p, iN j]) [2]).set 2 (some (iN o))) (tp := tVar 0) (tj := tVar 2) (ev_var rfl) (ev_var rfl) hP (List.mem_range.mp ho)
    exact ev_inN (ev_var rfl) n2 n1
/-! ### plan_tails -/
abbrev s_plan_tails : Stmt := topS 29
abbrev N_plan_tails : List Str := ["plan", "found", "job", "behind", "one"]
theorem sc_plan_tails : FnScope N_plan_tails ["plan"] (defScope s_plan_tails) := ⟨rfl, rfl, rfl, by decide +kernel, rfl, by decide +kernel, by decide +kernel⟩
def sp_plan_tails : Sp := fun vs H Q _ => ∃ (p : Addr) (plan : Plan), vs = [.ref p] ∧ PlanAt H p plan ∧ plan.length ≤ 1000 ∧ RetL ((Mx.tails plan).map iN) H Q
theorem cal_plan_tails (D : DefAt K mg "plan_tails" s_plan_tails ["plan"]) (TX : Txt mg) : Cal P w K mg base 1 "plan_tails" (sp_plan_tails) := by
  have hnd := sc_plan_tails.nd
  refine cal_of D sc_plan_tails (fun vs H Q E h => ?len) (fun f cdv A outer s H vs Q E hr h => ?body)
  case len => obtain ⟨p, plan, rfl, _⟩ := h; rfl
  case body =>
    obtain ⟨p, plan, rfl, hP, hz, k⟩ := h
    refine ⟨_, (pss_cons (ps_set (i := 1) hnd rfl (Or.inr rfl) (pe_op op_rep (pe_lst (pa_cons pe_int pa_nil)) (pe_callB call_len_seq (by rfl) TX.b_len (by decide +kernel) (pa_cons (pv 0) pa_nil))))
      (pss_cons (ps_for PassesOwn.never rfl (pi_range3 (by rfl) TX.b_range (pa_cons (pe_op op_sub (pe_callB call_len_seq (by rfl) TX.b_len (by decide +kernel) (pa_cons (pv 0) pa_nil)) pe_int) (pa_cons (pe_un un_neg pe_int) (pa_cons (pe_un un_neg pe_int) pa_nil)))) (pg_name (i := 2) hnd rfl (Or.inr rfl)) (pss_cons (ps_setLc (i := 3) (own := [("one", 4)]) rfl hnd rfl rfl (sw_true rfl rfl rfl (by decide +kernel)) (pi_range1 (by rfl) TX.b_range (pa_cons (pe_callB call_len_seq (by rfl) TX.b_len (by decide +kernel) (pa_cons (pv 0) pa_nil)) pa_nil)) (blkOk_by (own := [("one", 4)]) (N := N_plan_tails) (sc := defScope s_plan_tails) (by decide +kernel)) (fun _ _ _ _ _ => (pg_name (i := 4) hnd rfl (Or.inl rfl))) (fun _ _ _ _ _ => (pts_one (pt_cmpR (op_inK K rfl) (pv 2) (pe_ix (ix_tK K rfl) (pe_ix (ix_tK K rfl) (pv 0) (pv 4) (fun _ _ => rfl)) pe_int (fun _ _ => rfl)) (by rfl)))) (fun _ _ _ _ _ => (pe_ix (ix_lK K rfl) (pv 1) (pv 4) (fun _ _ => rfl))))
      (pss_one (ps_asg (pe_op op_add (pe_ix (ix_tK K rfl) (pe_ix (ix_tK K rfl) (pv 0) (pv 2) (fun _ _ => rfl)) pe_int (fun _ _ => rfl)) (pe_callB (cr_max rfl) (by rfl) TX.b_max (by decide +kernel) (pa_cons (pe_op op_cat (pe_lst (pa_cons pe_int pa_nil)) (pv 3)) pa_nil))) (pg_sub (pv 1) (pv 2) set_list)))))
      (pss_one (ps_ret (pv 1))))), ?_⟩
    refine q_asgL (xs := (Mx.tl plan 0).map iN) ?_ fun s H1 hs e1 h1 => ?_
    · have q := el_rep (σ := start N_plan_tails [.ref p]) (xs := [iN 0]) (n := plan.length) (el_lst (ea_cons (ev_c (v := iN 0)) ea_nil) one_le) (ev_lenP (K := K) (ta := tVar 0) (ev_var rfl) hP) (by rw [List.length_singleton]; omega) (by omega)
      have e0 : (List.replicate plan.length [iN 0]).flatten = (Mx.tl plan 0).map iN := by
        unfold Mx.tl
        rw [List.map_replicate, List.flatten_replicate_singleton]
      rw [e0] at q
      exact q
    · refine q_forR3 (n := plan.length) (ea_cons (ev_I (ev_lenP (ev_var rfl) (hP.ex e1)) ev_c) (ea_cons (ev_un ev_c ru_neg) (ea_cons (ev_un ev_c ru_neg) ea_nil))) rfl hz (fun i σ' H' => ∃ u v, σ' = [some (.ref p), some (.ref s), u, v, none] ∧ Ex H H' ∧ H' s = some (.lst ((Mx.tl plan i).map iN))) (fun H2 e2 => ⟨_, _, rfl, e1.trans e2, e2 _ _ h1⟩) ?_ ?_
      · rintro i σ' H' hi ⟨u, v, rfl, e, h2⟩
        have hj : plan.length - 1 - i < plan.length := by omega
        generalize ej : plan.length - 1 - i = j at hj
        have hP2 := hP.ex e
        refine q_asgL (xs := ((Mx.users plan j).map fun o => (Mx.tl plan i).getD o 0).map iN) ?_ fun s3 H3 hs3 e3 h3 => ?_
        · rw [List.map_map]
          refine lc_n (List.range plan.length) iN (fun o => (nd plan o).contains j) (fun o => iN ((Mx.tl plan i).getD o 0)) (ei_range1 (ea_cons (ev_lenP (ev_var rfl) hP2) ea_nil) (by omega)) (by rw [List.length_range]; omega) (fun _ => rfl) (fun o ho => et_test ?_) (fun o ho _ => ?_)
          · obtain ⟨n, n1, n2⟩ := ev_nd (K := K) (σ := [some (.ref p), some (.ref s), some (iN j), v, some (iN o)]) (tp := tVar 0) (tj := tVar 4) (ev_var rfl) (ev_var rfl) hP2 (List.mem_range.mp ho)
            exact ev_inN (ev_var rfl) n2 n1
          · have ho := List.mem_range.mp ho
            refine ev_op (ev_var rfl) (ev_var rfl) (rv_ixL (sq_of h2) (atI_nat ?_))
            rw [List.getElem?_map, List.getElem?_eq_getElem (by rw [Mx.tl_len]; exact ho), List.getD_eq_getElem?_getD, List.getElem?_eq_getElem (by rw [Mx.tl_len]; exact ho)]
            rfl
        · have h2' := e3 _ _ h2
          have hul : (Mx.users plan j).length ≤ 1000 := by
            have := List.length_filter_le (fun o => (nd plan o).contains j) (List.range plan.length)
            rw [List.length_range] at this
            unfold Mx.users
            omega
          refine s_setL (j := j) h2' (ev_addN (ev_len (ev_var rfl) (ev_var rfl) (hP2.ex e3) hj) (ev_max (l := 0 :: (Mx.users plan j).map fun o => (Mx.tl plan i).getD o 0) (by simp) (el_cat (xs := [iN 0]) (EvK.of (el_lst (ea_cons (ev_c (v := iN 0)) ea_nil) one_le)) (EvK.at (ev_var rfl) h3) (by rw [List.length_map, List.length_map, List.length_singleton]; omega)))) (ev_var rfl) (ev_var rfl) (by rw [List.length_map, Mx.tl_len]; exact hj) fun H4 e4 => ⟨_, _, rfl, Ex.mut ((e.trans e3).trans e4) hs, ?_⟩
          rw [upd_same]
          show some (HO.lst _) = some (HO.lst ((Mx.tailStep plan (Mx.tl plan i) (plan.length - 1 - i)).map iN))
          rw [ej]
          unfold Mx.tailStep
          rw [List.map_set]
      · rintro σ' H' ⟨u, v, rfl, e, h2⟩
        exact s_ret (ev_var rfl) fun H3 e3 => k s H3 hs (e.trans e3) (e3 _ _ h2)
/-! ### plan_whole -/
abbrev s_plan_whole : Stmt := topS 34
abbrev N_plan_whole : List Str := ["over", "under"]
theorem sc_plan_whole : FnScope N_plan_whole ["over", "under"] (defScope s_plan_whole) := ⟨rfl, rfl, rfl, by decide +kernel, rfl, by decide +kernel, by decide +kernel⟩
def sp_plan_whole : Sp := fun vs H Q _ => ∃ (a m : Nat), vs = [iN a, iN m] ∧ 1 ≤ m ∧ m ≤ 1000 ∧ Ret Q H (iN ((a + m - 1) / m))
theorem cal_plan_whole (D : DefAt K mg "plan_whole" s_plan_whole ["over", "under"]) (TX : Txt mg) : Cal P w K mg base 1 "plan_whole" (sp_plan_whole) := by
  have hnd := sc_plan_whole.nd
  refine cal_of D sc_plan_whole (fun vs H Q E h => ?len) (fun f cdv A outer s H vs Q E hr h => ?body)
  case len => obtain ⟨a, m, rfl, _⟩ := h; rfl
  case body =>
    obtain ⟨a, m, rfl, h1, h2, k⟩ := h
    refine ⟨_, (pss_one (ps_ret (pe_op op_fdiv (pe_op op_sub (pe_op op_add (pv 0) (pv 1)) pe_int) (pv 1)))), ?_⟩
    refine s_ret (ev_is (ev_op (ev_is (ev_I (ev_addN (ev_var rfl) (ev_var rfl)) ev_c) (show V.int (((a + m : Nat) : Int) - 1) = iN (a + m - 1) from congrArg V.int (by omega))) (ev_var rfl) (rv_I ⟨by omega, by omega⟩)) ?_) k
    show V.int (((a + m - 1 : Nat) : Int) / (m : Int)) = V.int (((a + m - 1) / m : Nat) : Int)
    rw [Int.natCast_ediv]
/-! ### plan_open -/
abbrev s_plan_open : Stmt := topS 31
abbrev N_plan_open : List Str := ["plan", "begins", "job", "found", "known", "mark"]
theorem sc_plan_open : FnScope N_plan_open ["plan", "begins"] (defScope s_plan_open) := ⟨rfl, rfl, rfl, by decide +kernel, rfl, by decide +kernel, by decide +kernel⟩
def sp_plan_open : Sp := fun vs H Q _ => ∃ (p d : Addr) (plan : Plan) (b : Beg), vs = [.ref p, .ref d] ∧ PB H p d plan b ∧ plan.length ≤ 900 ∧ RetL ((Mx.openJobs plan b).map iN) H Q
theorem seen_mark {plan : Plan} {l : List Nat} {j : Nat} : decide (markKey (Mx.mark plan j) ∈ l.map fun o => markKey (Mx.mark plan o)) = (l.map (Mx.mark plan)).contains (Mx.mark plan j) := by
  rw [Bool.eq_iff_iff, decide_eq_true_eq, List.contains_iff_mem]
  constructor
  · intro h
    obtain ⟨o, ho, e⟩ := List.mem_map.mp h
    rw [← markKey_inj e]
    exact List.mem_map.mpr ⟨o, ho, rfl⟩
  · intro h
    obtain ⟨o, ho, e⟩ := List.mem_map.mp h
    rw [← e]
    exact List.mem_map.mpr ⟨o, ho, rfl⟩
theorem cal_plan_open (D : DefAt K mg "plan_open" s_plan_open ["plan", "begins"]) (TX : Txt mg) (C_plan_users : Cal P w K mg base 1 "plan_users" (sp_plan_users)) : Cal P w K mg base 2 "plan_open" (sp_plan_open) := by
  have hnd := sc_plan_open.nd
  refine cal_of D sc_plan_open (fun vs H Q E h => ?len) (fun f cdv A outer s H vs Q E hr h => ?body)
  case len => obtain ⟨p, d, plan, b, rfl, _⟩ := h; rfl
  case body =>
    obtain ⟨p, d, plan, b, rfl, hB, hz, k⟩ := h
    refine ⟨_, (pss_cons (ps_par (i := 3) (j := 4) rfl hnd rfl rfl (by decide) rfl rfl (pa_cons (pe_lst pa_nil) (pa_cons pe_dnewN pa_nil)) (by rfl))
      (pss_cons (ps_for PassesOwn.never rfl (pi_range1 (by rfl) TX.b_range (pa_cons (pe_callB call_len_seq (by rfl) TX.b_len (by decide +kernel) (pa_cons (pv 0) pa_nil)) pa_nil)) (pg_name (i := 2) hnd rfl (Or.inl rfl)) (pss_cons (ps_set (i := 5) hnd rfl (Or.inl rfl) (pe_tup (pa_cons (pe_ix (ix_tK K rfl) (pv 0) (pv 2) (fun _ _ => rfl)) (pa_cons (pe_callTy call_tuple_of (by rfl) TX.b_tuple (by decide +kernel) (pa_cons (pe_c C_plan_users hr (by decide) (by rfl) (pa_cons (pv 0) (pa_cons (pv 2) pa_nil))) pa_nil)) pa_nil))))
      (pss_one (ps_if (PW.pt (pw_and (pt_cmp (pc_dnotin (hu_of hr) (pv 2) (pv 1))) (pw_and1 (pt_cmpR (op_notInN hr.units) (pv 5) (pv 4) (by rfl))))) (pss_cons (ps_asg pe_bl (pg_sub (pv 4) (pv 5) (set_N hr.units)))
      (pss_one (ps_expr (pe_bm PySem.F.plainAttrs_list PySem.F.slot_list_append PySem.F.type_list_append mt_append (pv 3) (pa_cons (pv 2) pa_nil))))) pss_nil))))
      (pss_one (ps_ret (pv 3))))), ?_⟩
    refine ⟨sz_of (by show 0 ≤ 100000; decide), fun fl hfl kd hkd => ⟨.ref fl, .ref kd, rfl, ?_⟩⟩
    have nkf : kd ≠ fl := fun z => by rw [z, upd_same] at hkd; cases hkd
    have hkd0 : H kd = none := by rw [upd_ne nkf] at hkd; exact hkd
    have e0 : Ex H (L2.upd (L2.upd H fl (.lst [])) kd (NDo P w kd [])) := (Ex.new hfl).trans (Ex.new hkd)
    refine q_forR1 (n := (plan.length : Int)) (ea_cons (ev_lenP (ev_var rfl) (hB.pl.ex e0)) ea_nil) (by omega) (fun i σ' H' => ∃ u v ks, σ' = [some (.ref p), some (.ref d), u, some (.ref fl), some (.ref kd), v] ∧ Ex H H' ∧ H' fl = some (.lst ((Mx.openTo plan b i).map iN)) ∧ H' kd = some (NDo P w kd ks) ∧ ks.map (·.1) = (Mx.openTo plan b i).map (fun j => markKey (Mx.mark plan j)) ∧ NKeys H' ks)
      (fun H1 e1 => ⟨none, none, [], rfl, e0.trans e1, e1 _ _ (by rw [upd_ne (Ne.symm nkf)]; exact upd_same), e1 _ _ upd_same, rfl, fun _ h => nomatch h⟩) ?_ ?_
    · rintro i σ' H' hi ⟨u, v, ks, rfl, e, h1, h2, h3, h4⟩
      have hi : i < plan.length := by omega
      have hB2 := hB.ex e
      obtain ⟨a, n, j1, j2, j3⟩ := ev_job (K := K) (σ := [some (.ref p), some (.ref d), some (iN i), some (.ref fl), some (.ref kd), v]) (tp := tVar 0) (tj := tVar 2) (ev_var rfl) (ev_var rfl) hB2.pl hi
      refine q_asgPair (ys := (Mx.users plan i).map iN) j3 (eu_tupOf (el_c1 (ea_cons (ev_var rfl) (ea_cons (ev_var rfl) ea_nil)) fun H1 e Q q E => ⟨p, plan, i, rfl, hB2.pl.ex e, by omega, q⟩)) fun m us H2 hm e2 g1 g2 => ?_
      have kv : KeyV H2 (markKey (Mx.mark plan i)) (.ref m) := keyV_mark g1 (e2 _ _ j1) (e2 _ _ j2) g2
      have h1' := e2 _ _ h1
      have h2' := e2 _ _ h2
      have h4' := h4.tk (Tk.of e2)
      have hlen := Mx.openTo_len plan b i
      have el : ks.length = (Mx.openTo plan b i).length := by
        have := congrArg List.length h3
        rw [List.length_map, List.length_map] at this
        exact this
      have step : (Mx.openTo plan b (i + 1)) = if (!has b i && !decide (markKey (Mx.mark plan i) ∈ ks.map (·.1))) = true then Mx.openTo plan b i ++ [i] else Mx.openTo plan b i := by
        rw [Mx.openTo_succ]
        unfold Mx.openStep
        rw [h3, seen_mark]
      refine s_when (b := !has b i && !decide (markKey (Mx.mark plan i) ∈ ks.map (·.1))) (et_and (et_test (ev_dnotin (ev_var rfl) (ev_var rfl) (.of (e2 _ _ hB2.bg)))) fun _ => et_test (ev_op (ev_var rfl) (ev_var rfl) (fun H3 e3 Q q => ⟨m, kd, markKey (Mx.mark plan i), ks, rfl, rfl, e3 _ _ h2', h4'.tk (Tk.of e3), kv.tk (Tk.of e3), markKey_depth _, q H3 (Ex.refl _)⟩))) (fun hb H3 e3 => ?_) fun hb H3 e3 => ?_
      · rw [if_pos hb] at step
        have hk : ¬ markKey (Mx.mark plan i) ∈ ks.map (·.1) := by
          rw [Bool.and_eq_true] at hb
          simpa using hb.2
        have e23 := e2.trans e3
        refine q_setN (e3 _ _ h2') (h4'.tk (Tk.of e3)) (kv.tk (Tk.of e3)) (markKey_depth _) hk (by omega) (ev_var rfl) (ev_var rfl) fun H4 e4 => ?_
        have g2' : H4 kd = some (NDo P w kd ks) := e4 _ _ (e3 _ _ h2')
        have tk1 : Tk H4 (L2.upd H4 kd (NDo P w kd (ks ++ [(markKey (Mx.mark plan i), m)]))) := Tk.upd g2' (fun _ z => nomatch z)
        have gl : (L2.upd H4 kd (NDo P w kd (ks ++ [(markKey (Mx.mark plan i), m)]))) fl = some (.lst ((Mx.openTo plan b i).map iN)) := by rw [upd_ne (Ne.symm nkf)]; exact e4 _ _ (e3 _ _ h1')
        refine s_app gl (ev_var rfl) (ev_var rfl) (by rw [List.length_map]; omega) fun H5 e5 => ⟨_, _, ks ++ [(markKey (Mx.mark plan i), m)], rfl, ?_, ?_, ?_, ?_, ?_⟩
        · exact Ex.mut ((Ex.mut (((e.trans e2).trans e3).trans e4) hkd0).trans e5) hfl
        · rw [upd_same, step, List.map_append]
          rfl
        · rw [upd_ne nkf]
          exact e5 _ _ upd_same
        · rw [step, List.map_append, List.map_append, h3]
          rfl
        · have tk2 : Tk H2 (L2.upd H5 fl (.lst ((Mx.openTo plan b i).map iN ++ [iN i]))) := ((Tk.of e3).trans (Tk.of e4)).trans (tk1.trans ((Tk.of e5).trans (Tk.upd (e5 _ _ gl) (fun _ z => nomatch z))))
          intro x hx
          rcases List.mem_append.mp hx with hx | hx
          · exact (h4'.tk tk2) x hx
          · rw [List.mem_singleton.mp hx]
            exact ⟨kv.tk tk2, markKey_depth _⟩
      · rw [if_neg (by rw [hb]; exact Bool.false_ne_true)] at step
        refine ⟨_, _, ks, rfl, (e.trans e2).trans e3, ?_, e3 _ _ h2', ?_, h4'.tk (Tk.of e3)⟩
        · rw [step]; exact e3 _ _ h1'
        · rw [step]; exact h3
    · rintro σ' H' ⟨u, v, ks, rfl, e, h1, h2, h3, h4⟩
      exact s_ret (ev_var rfl) fun H3 e3 => k fl H3 hfl (e.trans e3) (e3 _ _ h1)
end
end Wk
end

section
set_option Elab.async false
set_option linter.all false
set_option maxRecDepth 100000
set_option maxHeartbeats 4000000
namespace Wk
open PySem PySem.Spec PyProof.Rows L2 Evl
open Mx (Plan Beg Job jb ln nd rm ks look has T)
/-! ## the search's line -/
def BestV (H : Hp) (v : V) (best : Option Nat) : Prop := match best with | none => v = .non | some e => ∃ t d, v = .ref t ∧ H t = some (.tup [iN e, .ref d])
theorem BestV.ex {H H' : Hp} {v : V} {best : Option Nat} (e : Ex H H') (h : BestV H v best) : BestV H' v best := by
  cases best with
  | none => exact h
  | some x => obtain ⟨t, d, h1, h2⟩ := h; exact ⟨t, d, h1, e _ _ h2⟩
theorem BestV.upd {H : Hp} {v : V} {best : Option Nat} {a : Addr} {xs : List V} {o : HO} (ha : H a = some (.lst xs)) (h : BestV H v best) : BestV (L2.upd H a o) v best := by
  cases best with
  | none => exact h
  | some x => obtain ⟨t, d, h1, h2⟩ := h; exact ⟨t, d, h1, (Tk.upd (o := o) ha fun _ z => nomatch z) _ _ h2⟩
def DcR (H : Hp) (b : Beg) (x : V) : Prop := ∃ d, x = .ref d ∧ H d = some (.dK (begV b))
theorem DcR.ex {H H' : Hp} {b : Beg} {x : V} (e : Ex H H') (h : DcR H b x) : DcR H' b x := by
  obtain ⟨d, h1, h2⟩ := h
  exact ⟨d, h1, e _ _ h2⟩
theorem DcR.upd {H : Hp} {b : Beg} {x : V} {a : Addr} {xs : List V} {o : HO} (ha : H a = some (.lst xs)) (h : DcR H b x) : DcR (L2.upd H a o) b x := by
  obtain ⟨d, h1, h2⟩ := h
  refine ⟨d, h1, ?_⟩
  rw [upd_ne (fun z => by rw [z, ha] at h2; cases h2)]
  exact h2
def KdR (p : Plan) (H : Hp) (k : Nat × Nat) (x : V) : Prop := ∃ t, x = .ref t ∧ H t = some (.tup [iN k.1, .int (-(Mx.tail p k.2 : Int)), iN k.2])
theorem KdR.tk {p : Plan} {H H' : Hp} {k : Nat × Nat} {x : V} (e : Tk H H') (h : KdR p H k x) : KdR p H' k x := by
  obtain ⟨t, h1, h2⟩ := h
  exact ⟨t, h1, e _ _ h2⟩
theorem paired_snoc {α β : Type} {R : α → β → Prop} {xs : List α} {ys : List β} {x : α} {y : β} (h : Paired R xs ys) (r : R x y) : Paired R (xs ++ [x]) (ys ++ [y]) := Paired.snoc h r
theorem paired_last {α β : Type} {R : α → β → Prop} : ∀ {xs : List α} {x : α} {ys : List β}, Paired R (xs ++ [x]) ys → ∃ zs y, ys = zs ++ [y] ∧ Paired R xs zs ∧ R x y
  | [], x, _, .cons h .nil => ⟨[], _, rfl, .nil, h⟩
  | a :: r, x, _, .cons h t => by
    obtain ⟨zs, y, e, p, q⟩ := paired_last (xs := r) t
    exact ⟨_ :: zs, y, by rw [e]; rfl, .cons h p, q⟩
theorem paired_perm {α β : Type} {R : α → β → Prop} {ys zs : List β} (hp : zs.Perm ys) : ∀ {xs : List α}, Paired R xs ys → ∃ cs, cs.Perm xs ∧ Paired R cs zs := by
  induction hp with
  | nil => intro xs h; cases h; exact ⟨[], .refl _, .nil⟩
  | cons y hp ih =>
    intro xs h
    cases h with
    | cons h t =>
      obtain ⟨cs, p, q⟩ := ih t
      exact ⟨_ :: cs, p.cons _, .cons h q⟩
  | swap y z l =>
    intro xs h
    cases h with
    | cons h t =>
      cases t with
      | cons h2 t => exact ⟨_ :: _ :: _, .swap _ _ _, .cons h2 (.cons h t)⟩
  | trans h1 h2 ih1 ih2 =>
    intro xs h
    obtain ⟨cs, p, q⟩ := ih2 h
    obtain ⟨ds, p2, q2⟩ := ih1 q
    exact ⟨ds, p2.trans p, q2⟩
theorem paired_rev {α β : Type} {R : α → β → Prop} : ∀ {xs : List α} {ys : List β}, Paired R xs ys → Paired R xs.reverse ys.reverse
  | _, _, .nil => .nil
  | _, _, .cons h t => by rw [List.reverse_cons, List.reverse_cons]; exact Paired.snoc (paired_rev t) h
theorem paired_get {α β : Type} {R : α → β → Prop} : ∀ {xs : List α} {ys : List β}, Paired R xs ys → ∀ (i : Nat) y, ys[i]? = some y → ∃ x, xs[i]? = some x ∧ R x y
  | _, _, .nil, i, y, h => by simp at h
  | _, _, .cons h t, 0, y, e => ⟨_, rfl, by cases Option.some.inj e; exact h⟩
  | _, _, .cons h t, i + 1, y, e => by
    obtain ⟨x, e2, r⟩ := paired_get t i y (by simpa using e)
    exact ⟨x, by simpa using e2, r⟩
theorem paired_app {α β : Type} {R : α → β → Prop} : ∀ {xs xs2 : List α} {ys ys2 : List β}, Paired R xs ys → Paired R xs2 ys2 → Paired R (xs ++ xs2) (ys ++ ys2)
  | _, _, _, _, .nil, h => h
  | _, _, _, _, .cons h t, h2 => .cons h (paired_app t h2)
theorem dp_kids {K : PySem.W.Frag} {p : Plan} {H : Hp} : ∀ {cs : List (Nat × Nat)} {ys : List V}, Paired (fun k x => KdR p H k x) cs ys → DpAll K H ys (cs.map fun k => .tuple [.int (k.1 : Int), .int (-(Mx.tail p k.2 : Int)), .int (k.2 : Int)])
  | _, _, .nil => .nil
  | _, _, .cons h t => by
    obtain ⟨a, rfl, h2⟩ := h
    exact .cons (.tup (st_of h2) (.cons (.int _) (.cons (.int _) (.cons (.int _) .nil)))) (dp_kids t)
theorem filterMap_take {α β : Type} {xs : List α} {i : Nat} {x : α} (h : xs[i]? = some x) (f : α → Option β) : (xs.take (i + 1)).filterMap f = (xs.take i).filterMap f ++ (f x).toList := by
  rw [List.take_add_one, h, List.filterMap_append]
  cases hf : f x <;> simp [hf]
section
variable {P : Program} {w : World} {K : PySem.W.Frag} {mg : Str → Option Value} {base : Heap}
section
variable {σ : L2.St} {H : Hp} {ta tb tx tl : TE} {x y : V} {tz tu : TS} {D : L2.Ends} {g : TG}
theorem q_par {i j : Nat} (ha : Ev ta σ H x) (hb : Ev tb σ H y) (k : ∀ H1, Ex H H1 → tz D ((σ.set i (some x)).set j (some y)) H1) : tSeq (tPar i j (tCons ta (tCons tb tNil))) tz D σ H :=
  ha H (Ex.refl H) _ fun H1 e1 => hb H1 e1 _ fun H2 e2 => ⟨x, y, rfl, k H2 (e1.trans e2)⟩
/-- name = [a new thing] -/
theorem q_asgL1 {i : Nat} {o : HO} (h : EvN ta σ H o) (k : ∀ p a H1, H p = none → Ex H H1 → H1 p = some (.lst [.ref a]) → H1 a = some o → tz D (σ.set i (some (.ref p))) H1) : tSeq (tAsg (tLst (tCons ta tNil)) (gName i)) tz D σ H :=
  h H (Ex.refl H) _ fun a H1 ha e1 h1 => ⟨sz_of (by show 1 ≤ 100000; decide), fun p hp => k p a _ (fresh_back e1 hp) (e1.trans (Ex.new hp)) upd_same (Ex.new hp _ _ h1)⟩
theorem et_none {best : Option Nat} (hx : Ev ta σ H x) (h : BestV H x best) : EvT (tTest (tOp (fun x y H Q => y = .non ∧ Q (.bl (decide (x = .non))) H) ta (tC .non))) σ H best.isNone := by
  refine et_test (ev_op hx ev_c fun H1 e Q q => ⟨rfl, ?_⟩)
  cases best with
  | none =>
    have h : x = .non := h
    subst h
    exact q H1 (Ex.refl H1)
  | some v =>
    obtain ⟨t, d, rfl, _⟩ := h
    exact q H1 (Ex.refl H1)
theorem ev_best {e : Nat} (hx : Ev ta σ H x) (h : BestV H x (some e)) : Ev (tOp (rIxT K) ta (tC (.int 0))) σ H (iN e) := by
  obtain ⟨t, d, rfl, h2⟩ := h
  exact ev_op hx (ev_c (v := .int ((0 : Nat) : Int))) (rv_ixT (st_of h2) (atI_nat rfl))
/-- best is None or n < best[0] -/
theorem et_better {best : Option Nat} {n : Nat} (hx : Ev ta σ H x) (h : BestV H x best) (hn : Ev tx σ H (iN n)) : EvT (tOr (tTest (tOp (fun x y H Q => y = .non ∧ Q (.bl (decide (x = .non))) H) ta (tC .non))) (tTest (tOp (rI0 fun i j => V.bl (decide (i < j))) tx (tOp (rIxT K) ta (tC (.int 0)))))) σ H (Mx.better best n) := by
  cases best with
  | none => exact et_is (et_or (b := true) (et_none hx h) fun z => nomatch z) rfl
  | some e => exact et_is (et_or (b := decide (n < e)) (et_none hx h) fun _ => et_test (ev_ltN hn (ev_best hx h))) rfl
theorem et_more {best : Option Nat} {n : Nat} (hx : Ev ta σ H x) (h : BestV H x best) (hn : Ev tx σ H (iN n)) : EvT (tOr (tTest (tOp (fun x y H Q => y = .non ∧ Q (.bl (decide (x = .non))) H) ta (tC .non))) (tTest (tOp (rI0 fun i j => V.bl (decide (j < i))) (tOp (rIxT K) ta (tC (.int 0))) tx))) σ H (match best with | none => true | some e => decide (n < e)) := by
  cases best with
  | none => exact et_is (et_or (b := true) (et_none hx h) fun z => nomatch z) rfl
  | some e => exact et_is (et_or (b := decide (n < e)) (et_none hx h) fun _ => et_test (ev_gtN (ev_best hx h) hn)) rfl
theorem et_full {a : Addr} {xs : List V} (hx : Ev ta σ H (.ref a)) (h : H a = some (.lst xs)) : EvT (tTest (tOp (rEqL0 K true) ta (tLst tNil))) σ H (!xs.isEmpty) :=
  et_test (ev_opL hx (el_lst ea_nil (by show 0 ≤ 100000; decide)) fun p H1 hp e H2 e2 Q q => ⟨a, p, xs, rfl, rfl, sq_of (e2 _ _ (e _ _ h)), sq_of (e2 _ _ hp), q H2 (Ex.refl H2)⟩)
/-- name = line.pop() -/
theorem q_pop {i : Nat} {a : Addr} {xs : List V} {y : V} (hx : Ev ta σ H (.ref a)) (h : H a = some (.lst (xs ++ [y]))) (k : ∀ H1, Ex H H1 → tz D (σ.set i (some y)) (L2.upd H1 a (.lst xs))) : tSeq (tAsg (tBM0 K "list" rPop ta) (gName i)) tz D σ H :=
  hx H (Ex.refl H) _ fun H1 e1 => ⟨Or.inl ⟨rfl, xs ++ [y], sq_of (e1 _ _ h)⟩, a, xs ++ [y], y, rfl, rfl, e1 _ _ h, by simp, by
    rw [List.dropLast_concat]
    exact k H1 e1⟩
/-- for over a list told by a word -/
theorem s_forLR {R : List V → Hp → Prop} (h : EvLR tl σ H R) (Pv : Addr → List V → Nat → L2.St → Hp → Prop) (h0 : ∀ p xs H1, H p = none → Ex H H1 → H1 p = some (.lst xs) → R xs H1 → Pv p xs 0 σ H1) (hl : ∀ p xs i σ' H', i ≤ xs.length → Pv p xs i σ' H' → SqL K H' p xs)
    (hs : ∀ p xs i x σ' H', xs[i]? = some x → Pv p xs i σ' H' → g x σ' H' fun σ2 H2 => tu { D with nx := Pv p xs (i + 1), ct := Pv p xs (i + 1), bk := D.nx } σ2 H2) (hd : ∀ p xs σ' H', Pv p xs xs.length σ' H' → D.nx σ' H') : tFor (iList K tl) g tu D σ H :=
  h H (Ex.refl H) _ fun p xs H1 hp e h1 r => ⟨p, rfl, ⟨xs, sq_of h1⟩, for_list (Pv p xs) (h0 p xs H1 hp e h1 r) (hl p xs) (hs p xs) (hd p xs)⟩
/-- sorted(more)[::-1] -/
theorem el_sorted {p : Plan} {a : Addr} {cs : List (Nat × Nat)} {ys : List V} (hx : Ev ta σ H (.ref a)) (h : H a = some (.lst ys)) (hp : Paired (fun k x => KdR p H k x) cs ys) : EvLR (tRevL K (tCB (rSortD K) (tCons ta tNil))) σ H fun zs H' => ∃ cs', cs'.Perm cs ∧ Paired (fun k x => KdR p H' k x) cs' zs := fun H1 e Q q =>
  hx H1 e _ fun H2 e2 => by
    have hp2 : Paired (fun k x => KdR p H2 k x) cs ys := Paired.mapP hp fun k x r => r.tk (Tk.of (e.trans e2))
    refine ⟨a, ys, _, rfl, sq_of (e2 _ _ (e _ _ h)), dp_kids hp2, ?_, .inl fun d hd => ?_, fun d hd => ?_, fun x hx => ?_, fun zs s hz hs => ⟨s, zs, rfl, sq_of upd_same, fun r hr => ?_⟩⟩
    · intro d hd d' hd'
      obtain ⟨k, _, rfl⟩ := List.mem_map.mp hd
      obtain ⟨k', _, rfl⟩ := List.mem_map.mp hd'
      simp [PySem.W.alike, PySem.W.alikeAll]
    · obtain ⟨k, _, rfl⟩ := List.mem_map.mp hd
      exact ⟨_, _, rfl⟩
    · obtain ⟨k, _, rfl⟩ := List.mem_map.mp hd
      simp [PyData.depth, PyData.depthAll]
    · obtain ⟨i, hi, e3⟩ := List.getElem_of_mem hx
      obtain ⟨k, _, t, ht, _⟩ := paired_get hp i x (by rw [List.getElem?_eq_getElem hi, e3])
      exact ⟨t, ht⟩
    · have hs' : H2 s = none := hs
      obtain ⟨cs', c1, c2⟩ := paired_perm hz hp2
      have e3 : Ex H2 (L2.upd (L2.upd H2 s (.lst zs)) r (.lst zs.reverse)) := (Ex.new hs').trans (Ex.new hr)
      refine q r zs.reverse _ (fresh_back (e2.trans (Ex.new hs')) hr) (e2.trans e3) upd_same ⟨cs'.reverse, (List.reverse_perm _).trans c1, ?_⟩
      exact Paired.mapP (paired_rev c2) fun k x r => r.tk (Tk.of e3)
end
theorem dec_iN {a b : Nat} : decide (iN a = iN b) = decide (a = b) := by
  refine decide_eq_decide.mpr ⟨fun h => ?_, fun h => by rw [h]⟩
  have := V.int.inj h
  omega
/-! ### plan_best -/
abbrev s_plan_best : Stmt := topS 32
abbrev N_plan_best : List Str := ["plan", "machines", "room", "tails", "line", "best", "least", "begins", "more", "job", "told", "moment", "tail", "later", "one"]
theorem sc_plan_best : FnScope N_plan_best ["plan", "machines", "room"] (defScope s_plan_best) := ⟨rfl, rfl, rfl, by decide +kernel, rfl, by decide +kernel, by decide +kernel⟩
def BestOf (plan : Plan) (M R e : Nat) : Prop := Mx.total plan ≤ M * e ∧ ∀ E, Mx.Feas plan M R E → e ≤ E
def sp_plan_best : Sp := fun vs H Q _ => ∃ (p : Addr) (plan : Plan) (M R : Nat), vs = [.ref p, iN M, iN R] ∧ Asked H p plan M R ∧ Mx.planFits plan R = true ∧ ∀ t d e H', Ex H H' → H' t = some (.tup [iN e, .ref d]) → BestOf plan M R e → Q (.ref t) H'
theorem tails_at {plan : Plan} {j : Nat} (hj : j < plan.length) : ((Mx.tails plan).map iN)[j]? = some (iN (Mx.tail plan j)) := by
  have hl : j < (Mx.tails plan).length := by unfold Mx.tails; rw [Mx.tl_len]; exact hj
  rw [List.getElem?_map, List.getElem?_eq_getElem hl]
  unfold Mx.tail
  rw [List.getD_eq_getElem?_getD, List.getElem?_eq_getElem hl]
  rfl
theorem weight6 {k : Nat} (h : k ≤ 6) : Mx.weight k ≤ 55987 := by
  match k, h with
  | 0, _ => decide
  | 1, _ => decide
  | 2, _ => decide
  | 3, _ => decide
  | 4, _ => decide
  | 5, _ => decide
  | 6, _ => decide
theorem cal_plan_best (D : DefAt K mg "plan_best" s_plan_best ["plan", "machines", "room"]) (TX : Txt mg) (C_plan_end : Cal P w K mg base 1 "plan_end" (sp_plan_end)) (C_plan_first_begin : Cal P w K mg base 3 "plan_first_begin" (sp_plan_first_begin)) (C_plan_open : Cal P w K mg base 2 "plan_open" (sp_plan_open)) (C_plan_tails : Cal P w K mg base 1 "plan_tails" (sp_plan_tails)) (C_plan_whole : Cal P w K mg base 1 "plan_whole" (sp_plan_whole)) : Cal P w K mg base 4 "plan_best" (sp_plan_best) := by
  have hnd := sc_plan_best.nd
  refine cal_of D sc_plan_best (fun vs H Q E h => ?len) (fun f cdv A outer s H vs Q E hr h => ?body)
  case len => obtain ⟨p, plan, M, R, rfl, _⟩ := h; rfl
  case body =>
    obtain ⟨p, plan, M, R, rfl, hA, hF, k⟩ := h
    refine ⟨_, (pss_cons (ps_set (i := 3) hnd rfl (Or.inl rfl) (pe_c C_plan_tails hr (by decide) (by rfl) (pa_cons (pv 0) pa_nil)))
      (pss_cons (ps_par (i := 5) (j := 6) rfl hnd rfl rfl (by decide) rfl rfl (pa_cons pe_non (pa_cons (pe_callB (call_max2 rfl) (by rfl) TX.b_max (by decide +kernel) (pa_cons (pe_callB (cr_max rfl) (by rfl) TX.b_max (by decide +kernel) (pa_cons (pv 3) pa_nil)) (pa_cons (pe_c C_plan_whole hr (by decide) (by rfl) (pa_cons (pe_callB (cr_sum rfl) (by rfl) TX.b_sum (by decide +kernel) (pa_cons (pe_lc (own := [("job", 9)]) rfl hnd (pi_tup (pv 0)) (blkOk_by (own := [("job", 9)]) (N := N_plan_best) (sc := defScope s_plan_best) (by decide +kernel)) (fun _ _ _ _ _ => (pg_name (i := 9) hnd rfl (Or.inl rfl))) (fun _ _ _ _ _ => pts_nil) (fun _ _ _ _ _ => (pe_ix (ix_tK K rfl) (pv 9) pe_int (fun _ _ => rfl)))) pa_nil)) (pa_cons (pv 1) pa_nil))) pa_nil))) pa_nil)) (by rfl))
      (pss_cons (ps_set (i := 4) hnd rfl (Or.inl rfl) (pe_lst (pa_cons pe_dnewK pa_nil)))
      (pss_cons (ps_while PassesOwn.never (PW.pt (pw_and (pt_cmpR (op_neL0 hr.units0) (pv 4) (pe_lst pa_nil) (nomark _)) (pw_and1 (PW.pt (pw_or (pt_cmpR op_isN (pv 5) pe_non (nomark _)) (pw_or1 (pt_cmpR op_gt (pe_ix (ix_tK K rfl) (pv 5) pe_int (fun _ _ => rfl)) (pv 6) (nomark _)))))))) (pss_cons (ps_set (i := 7) hnd rfl (Or.inr rfl) (pe_bm0 PySem.F.plainAttrs_list PySem.F.slot_list_pop PySem.F.type_list_pop mt_pop (pv 4)))
      (pss_cut (ps_if (pt_cmpR op_eq (pe_callB call_lenD (by rfl) TX.b_len (by decide +kernel) (pa_cons (pv 7) pa_nil)) (pe_callB call_len_seq (by rfl) TX.b_len (by decide +kernel) (pa_cons (pv 0) pa_nil)) (nomark _)) (pss_cons (ps_set (i := 10) hnd rfl (Or.inl rfl) (pe_tup (pa_cons (pe_c C_plan_end hr (by decide) (by rfl) (pa_cons (pv 0) (pa_cons (pv 7) pa_nil))) (pa_cons (pv 7) pa_nil))))
      (pss_one (ps_set (i := 5) hnd rfl (Or.inl rfl) (pe_ifExp (PW.pt (pw_or (pt_cmpR op_isN (pv 5) pe_non (nomark _)) (pw_or1 (pt_cmpR op_lt (pe_ix (ix_tK K rfl) (pv 10) pe_int (fun _ _ => rfl)) (pe_ix (ix_tK K rfl) (pv 5) pe_int (fun _ _ => rfl)) (nomark _))))) (pv 10) (pv 5))))) pss_nil)
      (pss_cons (ps_set (i := 8) hnd rfl (Or.inl rfl) (pe_lst pa_nil))
      (pss_cons (ps_for PassesOwn.never rfl (pi_list (pe_c C_plan_open hr (by decide) (by rfl) (pa_cons (pv 0) (pa_cons (pv 7) pa_nil)))) (pg_name (i := 9) hnd rfl (Or.inl rfl)) (pss_one (ps_if (pt_val (pe_callB (cr_all rfl) (by rfl) TX.b_all (by decide +kernel) (pa_cons (pe_lc (own := [("one", 14)]) rfl hnd (pi_tup (pe_ix (ix_tK K rfl) (pe_ix (ix_tK K rfl) (pv 0) (pv 9) (fun _ _ => rfl)) pe_int (fun _ _ => rfl))) (blkOk_by (own := [("one", 14)]) (N := N_plan_best) (sc := defScope s_plan_best) (by decide +kernel)) (fun _ _ _ _ _ => (pg_name (i := 14) hnd rfl (Or.inl rfl))) (fun _ _ _ _ _ => pts_nil) (fun _ _ _ _ _ => (pe_cmp (pc_din (hu_of hr) (pv 14) (pv 7))))) pa_nil))) (pss_cons (ps_set (i := 11) hnd rfl (Or.inl rfl) (pe_c C_plan_first_begin hr (by decide) (by rfl) (pa_cons (pv 0) (pa_cons (pv 7) (pa_cons (pv 9) (pa_cons (pv 1) (pa_cons (pv 2) pa_nil)))))))
      (pss_one (ps_if (PW.pt (pw_or (pt_cmpR op_isN (pv 5) pe_non (nomark _)) (pw_or1 (pt_cmpR op_lt (pe_op op_add (pv 11) (pe_ix (ix_lK K rfl) (pv 3) (pv 9) (fun _ _ => rfl))) (pe_ix (ix_tK K rfl) (pv 5) pe_int (fun _ _ => rfl)) (nomark _))))) (pss_one (ps_expr (pe_bm PySem.F.plainAttrs_list PySem.F.slot_list_append PySem.F.type_list_append mt_append (pv 8) (pa_cons (pe_tup (pa_cons (pv 11) (pa_cons (pe_un un_neg (pe_ix (ix_lK K rfl) (pv 3) (pv 9) (fun _ _ => rfl))) (pa_cons (pv 9) pa_nil)))) pa_nil)))) pss_nil))) pss_nil)))
      (pss_one (ps_for PassesOwn.never rfl (pi_list (pe_revL (pe_callB (cr_sortD hr.units) (by rfl) TX.b_sorted (by decide +kernel) (pa_cons (pv 8) pa_nil)))) (pg_tup rfl (pgs_cons (pg_name (i := 11) hnd rfl (Or.inl rfl)) (pgs_cons (pg_name (i := 12) hnd rfl (Or.inl rfl)) (pgs_cons (pg_name (i := 9) hnd rfl (Or.inl rfl)) pgs_nil)))) (pss_cons (ps_lock (ps_setDc (i := 13) (own := [("one", 14)]) rfl hnd rfl rfl (sw_trueD rfl rfl rfl (by decide +kernel)) (pi_keys (pv 7)) (blkOk_by (own := [("one", 14)]) (N := N_plan_best) (sc := defScope s_plan_best) (by decide +kernel)) (fun _ _ _ _ _ => (pg_name (i := 14) hnd rfl (Or.inl rfl))) (fun _ _ _ _ _ => pts_nil) (fun _ _ _ _ _ => (pv 14)) (fun _ _ _ _ _ => (pe_dget (hu_of hr) (pv 7) (pv 14) (fun _ _ => rfl)))))
      (pss_cons (ps_dput (hu_of hr) (pv 13) (pv 9) (pv 11) rfl)
      (pss_one (ps_expr (pe_bm PySem.F.plainAttrs_list PySem.F.slot_list_append PySem.F.type_list_append mt_append (pv 4) (pa_cons (pv 13) pa_nil)))))))))))))
      (pss_one (ps_ret (pv 5))))))), ?_⟩
    have lo := hA.ok.lo
    have hi6 := hA.ok.hi
    refine q_asgL (xs := (Mx.tails plan).map iN) (el_c1 (ea_cons (ev_var rfl) ea_nil) fun H1 e Q q E => ⟨p, plan, rfl, hA.pl.ex e, by omega, q⟩) fun tls H1 htls e1 h1 => ?_
    have hA1 := hA.ex e1
    have htl : (Mx.tails plan).length = plan.length := by unfold Mx.tails; exact Mx.tl_len _ _
    refine q_par (x := .non) (y := iN (Mx.lower plan M)) ev_c (ev_is (ev_max2 (i := (Mx.maxL (Mx.tails plan) : Nat)) (j := ((Mx.total plan + M - 1) / M : Nat)) (ev_maxK (fun z => by rw [z] at htl; simp at htl; omega) (ev_var rfl) (sq_of h1)) (ev_c1 (ea_cons (ev_sumF (xs := List.range plan.length) (f := ln plan) ?_) (ea_cons (ev_var rfl) ea_nil)) fun H1 e Q q E => ⟨Mx.total plan, M, rfl, hA.m1, by have := hA.m4; omega, q⟩)) ?_) fun H2 e2 => ?_
    · obtain ⟨ar, nr, hp, hj⟩ := id hA1.pl
      exact lc_0 (List.range plan.length) (fun j => V.ref (ar j)) _ (ei_tup (ev_var rfl) (st_of hp)) (by rw [List.length_range]; omega) (fun _ => rfl) fun j hj' => ev_op (ev_var rfl) (ev_c (v := .int ((0 : Nat) : Int))) (rv_ixT (st_of (hj j (List.mem_range.mp hj')).1) (atI_nat rfl))
    · unfold Mx.lower
      by_cases c : ((Mx.total plan + M - 1) / M : Nat) > Mx.maxL (Mx.tails plan)
      · rw [if_pos (by omega), Nat.max_eq_right (by omega)]
      · rw [if_neg (by omega), Nat.max_eq_left (by omega)]
    have h2 := e2 _ _ h1
    have hA2 := hA1.ex e2
    refine q_asgL1 (en_dict) fun lnA d0 H3 hln e3 h3 h4 => ?_
    have e02 : Ex H H2 := e1.trans e2
    refine q_while (fun m σ' H' => ∃ (best : Option Nat) (bs : List Beg) (BV : V) (ws : List V) (u7 u8 u9 u10 u11 u12 u13 : Option V), m = Mx.load plan bs ∧ m ≤ 55987 ∧
      σ' = [some (.ref p), some (iN M), some (iN R), some (.ref tls), some (.ref lnA), some BV, some (iN (Mx.lower plan M)), u7, u8, u9, u10, u11, u12, u13, none] ∧ Ex H2 H' ∧ BestV H' BV best ∧ H' lnA = some (.lst ws) ∧ Paired (fun b x => DcR H' b x) bs ws ∧ Mx.SI plan M R best bs)
      (Mx.load plan [[]]) ⟨none, [[]], .non, [.ref d0], none, none, none, none, none, none, none, rfl, ?_, rfl, e3, rfl, h3, .cons ⟨d0, rfl, h4⟩ .nil, Mx.SI.first⟩ ?_
    · have := weight6 (k := plan.length) hi6
      simpa [Mx.load] using this
    rintro m σ' H4 ⟨best, bs, BV, ws, u7, u8, u9, u10, u11, u12, u13, rfl, hm, rfl, e4, hBV, hL, hP, I⟩
    refine ⟨_, et_and (et_full (ev_var rfl) hL) (fun _ => et_more (ev_var rfl) hBV (ev_var rfl)), fun hb H5 e5 => ?_, fun hb H5 e5 => ?_⟩
    · -- the turn
      rw [Bool.and_eq_true] at hb
      have hbs : bs ≠ [] := fun z => by
        subst z
        cases hP
        exact absurd hb.1 (by decide)
      obtain ⟨rest, b, rfl⟩ : ∃ rest b, bs = rest ++ [b] := ⟨bs.dropLast, bs.getLast hbs, (List.dropLast_concat_getLast hbs).symm⟩
      obtain ⟨wr, wl, rfl, hP1, d, rfl, hd⟩ := paired_last hP
      obtain ⟨Nb, Lb⟩ := I.nodes b (by simp)
      refine ⟨_, fun σ2 H2' h => h, ?_⟩
      have hL5 := e5 _ _ hL
      refine q_pop (ev_var rfl) hL5 fun H6 e6 => ?_
      have hL6 := e6 _ _ hL5
      have e26 : Ex H2 (L2.upd H6 lnA (.lst wr)) := Ex.mut ((e4.trans e5).trans e6) hln
      have hd6 : (L2.upd H6 lnA (.lst wr)) d = some (.dK (begV b)) := by
        obtain ⟨_, z, g⟩ := DcR.upd (o := .lst wr) hL6 (DcR.ex (e5.trans e6) ⟨d, rfl, hd⟩)
        cases z
        exact g
      have hP6 : Paired (fun b x => DcR (L2.upd H6 lnA (.lst wr)) b x) rest wr := Paired.mapP hP1 fun b x r => DcR.upd hL6 (DcR.ex (e5.trans e6) r)
      have hB6 : BestV (L2.upd H6 lnA (.lst wr)) BV best := BestV.upd hL6 (hBV.ex (e5.trans e6))
      have hL6' : (L2.upd H6 lnA (.lst wr)) lnA = some (.lst wr) := upd_same
      generalize L2.upd H6 lnA (.lst wr) = H7 at e26 hd6 hP6 hB6 hL6'
      have hA7 := hA2.ex e26
      have pb : PB H7 p d plan b := ⟨hA7.pl, hd6, Nb.lt, by omega⟩
      refine q_cut (M := fun σ' H' => ∃ BV' u10', σ' = [some (.ref p), some (iN M), some (iN R), some (.ref tls), some (.ref lnA), some BV', some (iN (Mx.lower plan M)), some (.ref d), u8, u9, u10', u11, u12, u13, none] ∧ Ex H7 H' ∧ BestV H' BV' (Mx.best1 plan b best)) ?_ ?_
      · refine s_when (b := decide (b.length = plan.length)) (et_test (ev_is (ev_op (ev_lenD (ev_var rfl) hd6) (ev_lenP (ev_var rfl) hA7.pl) (rv_eq rfl)) (by rw [dec_iN]))) (fun hb H8 e8 => ?_) fun hb H8 e8 => ?_
        · have hbl : b.length = plan.length := of_decide_eq_true hb
          refine q_asgU (xs := [iN (Mx.planEnd plan b), .ref d]) (eu_tup (ea_cons (ev_c1 (ea_cons (ev_var rfl) (ea_cons (ev_var rfl) ea_nil)) fun H1 e Q q E => ⟨p, d, plan, b, rfl, (pb.ex e8).ex e, fun z => by rw [z] at hbl; simp at hbl; omega, q⟩) (ea_cons (ev_var rfl) ea_nil)) (by show 2 ≤ 100000; decide)) fun tA H9 htA e9 h9 => ?_
          have hB9 := hB6.ex (e8.trans e9)
          have e79 := e8.trans e9
          cases hbt : Mx.better best (Mx.planEnd plan b) with
          | true =>
            refine s_asg (v := .ref tA) (ev_if (b := true) (et_is (et_better (ev_var rfl) hB9 (ev_op (ev_var rfl) (ev_c (v := .int ((0 : Nat) : Int))) (rv_ixT (st_of h9) (atI_nat rfl)))) hbt) (fun _ => ev_var rfl) fun z => nomatch z) fun H10 e10 => ⟨_, _, rfl, e79.trans e10, ?_⟩
            unfold Mx.best1
            rw [if_pos hbl, if_pos hbt]
            exact ⟨tA, d, rfl, e10 _ _ h9⟩
          | false =>
            refine s_asg (v := BV) (ev_if (b := false) (et_is (et_better (ev_var rfl) hB9 (ev_op (ev_var rfl) (ev_c (v := .int ((0 : Nat) : Int))) (rv_ixT (st_of h9) (atI_nat rfl)))) hbt) (fun z => nomatch z) fun _ => ev_var rfl) fun H10 e10 => ⟨_, _, rfl, e79.trans e10, ?_⟩
            unfold Mx.best1
            rw [if_pos hbl, if_neg (by rw [hbt]; exact Bool.false_ne_true)]
            exact hB9.ex e10
        · have hbl : ¬ b.length = plan.length := of_decide_eq_false hb
          refine ⟨_, _, rfl, e8, ?_⟩
          unfold Mx.best1
          rw [if_neg hbl]
          exact hB6.ex e8
      · rintro σ' H8 ⟨BV', u10', rfl, e8, hB8⟩
        generalize hbst : Mx.best1 plan b best = bst at hB8
        refine q_asgL (xs := []) (el_lst ea_nil (by show 0 ≤ 100000; decide)) fun mo H9 hmo e9 h9 => ?_
        have e79 := e8.trans e9
        refine q_forNLn (xs := (Mx.openJobs plan b).map iN) (el_c1 (ea_cons (ev_var rfl) (ea_cons (ev_var rfl) ea_nil)) fun H1 e Q q E => ⟨p, d, plan, b, rfl, (pb.ex e79).ex e, by omega, q⟩)
          (fun ol i σ' H' => ∃ u9 u11 mws, σ' = [some (.ref p), some (iN M), some (iN R), some (.ref tls), some (.ref lnA), some BV', some (iN (Mx.lower plan M)), some (.ref d), some (.ref mo), u9, u10', u11, u12, u13, none] ∧ Ex H8 H' ∧ H' mo = some (.lst mws) ∧ H' ol = some (.lst ((Mx.openJobs plan b).map iN)) ∧ ol ≠ mo ∧ Paired (fun k x => KdR plan H' k x) (((Mx.openJobs plan b).take i).filterMap (Mx.kid plan M R b bst)) mws)
          (fun ol H10 hol e10 h10 => ⟨u9, u11, [], rfl, e9.trans e10, e10 _ _ h9, h10, fun z => (by rw [z, h9] at hol; cases hol), .nil⟩) (fun ol i σ' H' _ ⟨_, _, _, _, _, _, h, _, _⟩ => sq_of h) ?_ ?_
        · rintro ol i x σ' H10 hx ⟨u9, u11, mws, rfl, e10, g1, g2, g3, g4⟩
          rw [List.getElem?_map] at hx
          obtain ⟨j, hj0, rfl⟩ := Option.map_eq_some_iff.mp hx
          obtain ⟨hj, hjb⟩ := Mx.openTo_mem (p := plan) (b := b) (k := plan.length) (j := j) (List.mem_of_getElem? hj0)
          have e710 := e8.trans e10
          have hA10 := hA7.ex e710
          have pb10 := pb.ex e710
          have hB10 := hB8.ex e10
          have hT10 : H10 tls = some (.lst ((Mx.tails plan).map iN)) := e710 _ _ (e26 _ _ h2)
          have fm := filterMap_take hj0 (Mx.kid plan M R b bst)
          have hml : mws.length ≤ 1000 := by
            have q1 := Paired.length g4
            have q2 := List.length_filterMap_le (Mx.kid plan M R b bst) ((Mx.openJobs plan b).take i)
            have q3 := Mx.openTo_len plan b plan.length
            rw [List.length_take] at q2
            have q4 : (Mx.openJobs plan b).length ≤ plan.length := q3
            omega
          obtain ⟨na, n1, n2⟩ := ev_nd (K := K) (σ := [some (.ref p), some (iN M), some (iN R), some (.ref tls), some (.ref lnA), some BV', some (iN (Mx.lower plan M)), some (.ref d), some (.ref mo), some (iN j), u10', u11, u12, u13, none]) (tp := tVar 0) (tj := tVar 9) (ev_var rfl) (ev_var rfl) hA10.pl hj
          refine s_when (b := Mx.canGo plan b j) (et_B (ev_allF (xs := nd plan j) (f := has b) (lc_0 (nd plan j) iN _ (ei_tup n2 (st_of n1)) ?_ (fun _ => rfl) fun o ho => ev_din (ev_var rfl) (ev_var rfl) (.of pb10.bg)))) (fun hg H11 e11 => ?_) fun hg H11 e11 => ?_
          · have := Mx.len_sub (A := nd plan j) (B := List.range j) (List.Pairwise.imp (fun h => Nat.ne_of_lt h) (hA.ok.needs j hj).1) (fun x hx => List.mem_range.mpr ((hA.ok.needs j hj).2 x hx))
            rw [List.length_range] at this
            omega
          · have hn : ∀ o ∈ nd plan j, o ∈ ks b := fun o ho => by
              unfold Mx.canGo at hg
              rw [List.all_eq_true] at hg
              exact Mx.has_iff.mp (hg o ho)
            have hnl : (nd plan j).length ≤ 1000 := by
              have := Mx.len_sub (A := nd plan j) (B := List.range j) (List.Pairwise.imp (fun h => Nat.ne_of_lt h) (hA.ok.needs j hj).1) (fun x hx => List.mem_range.mpr ((hA.ok.needs j hj).2 x hx))
              rw [List.length_range] at this
              omega
            refine q_asg (v := iN (Mx.firstBegin plan b j M R)) (ev_c1 (ea_cons (ev_var rfl) (ea_cons (ev_var rfl) (ea_cons (ev_var rfl) (ea_cons (ev_var rfl) (ea_cons (ev_var rfl) ea_nil))))) fun H1 e Q q E => ⟨p, d, plan, b, j, M, R, rfl, (pb10.ex e11).ex e, hj, hn, hnl, hA.m1, Mx.fits_room hF hj, q⟩) fun H12 e12 => ?_
            have e1012 := e11.trans e12
            have hT12 := e1012 _ _ hT10
            refine s_when (b := Mx.better bst (Mx.firstBegin plan b j M R + Mx.tail plan j)) (et_better (ev_var rfl) (hB10.ex e1012) (ev_addN (ev_var rfl) (ev_op (ev_var rfl) (ev_var rfl) (rv_ixL (sq_of hT12) (atI_nat (tails_at hj)))))) (fun hbt H13 e13 => ?_) fun hbt H13 e13 => ?_
            · have e1013 := e1012.trans e13
              refine s_appU (ys := [iN (Mx.firstBegin plan b j M R), .int (-(Mx.tail plan j : Int)), iN j]) (e1013 _ _ g1) (ev_var rfl) (eu_tup (ea_cons (ev_var rfl) (ea_cons (ev_un (ev_op (ev_var rfl) (ev_var rfl) (rv_ixL (sq_of (e13 _ _ hT12)) (atI_nat (tails_at hj)))) ru_neg) (ea_cons (ev_var rfl) ea_nil))) (by show 3 ≤ 100000; decide)) (by omega) fun tt H14 htt e14 h14 => ?_
              have e1014 := e1013.trans e14
              have gm := e1014 _ _ g1
              refine ⟨_, _, mws ++ [.ref tt], rfl, Ex.mut (e10.trans e1014) hmo, upd_same, by rw [upd_ne g3]; exact e1014 _ _ g2, g3, ?_⟩
              have tk : Tk H14 (L2.upd H14 mo (.lst (mws ++ [.ref tt]))) := Tk.upd gm fun _ z => nomatch z
              have ek : Mx.kid plan M R b bst j = some (Mx.firstBegin plan b j M R, j) := by
                unfold Mx.kid
                rw [if_pos hg, if_pos hbt]
              rw [fm, ek]
              exact Paired.snoc (Paired.mapP g4 fun k x r => r.tk ((Tk.of e1014).trans tk)) ⟨tt, rfl, tk _ _ h14⟩
            · have e1013 := e1012.trans e13
              refine ⟨_, _, mws, rfl, e10.trans e1013, e1013 _ _ g1, e1013 _ _ g2, g3, ?_⟩
              have ek : Mx.kid plan M R b bst j = none := by
                unfold Mx.kid
                rw [if_pos hg, if_neg (by rw [hbt]; exact Bool.false_ne_true)]
              rw [fm, ek]
              show Paired _ (_ ++ []) _
              rw [List.append_nil]
              exact Paired.mapP g4 fun k x r => r.tk (Tk.of e1013)
          · refine ⟨_, _, mws, rfl, e10.trans e11, e11 _ _ g1, e11 _ _ g2, g3, ?_⟩
            have ek : Mx.kid plan M R b bst j = none := by
              unfold Mx.kid
              rw [if_neg (by rw [hg]; exact Bool.false_ne_true)]
            rw [fm, ek]
            show Paired _ (_ ++ []) _
            rw [List.append_nil]
            exact Paired.mapP g4 fun k x r => r.tk (Tk.of e11)
        · rintro ol σ' H10 ⟨u9, u11, mws, rfl, e10, g1, g2, g3, g4⟩
          rw [List.length_map, List.take_length] at g4
          have g4 : Paired (fun k x => KdR plan H10 k x) (Mx.kids plan M R b bst) mws := g4
          have e710 := e8.trans e10
          have pb10 := pb.ex e710
          have hP10 : Paired (fun b x => DcR H10 b x) rest wr := Paired.mapP hP6 fun b x r => r.ex e710
          have hL10 := e710 _ _ hL6'
          refine s_forLR (el_sorted (ev_var rfl) g1 g4)
            (fun sl xs i σ' H' => ∃ u9 u11 u12 u13 cs ls, σ' = [some (.ref p), some (iN M), some (iN R), some (.ref tls), some (.ref lnA), some BV', some (iN (Mx.lower plan M)), some (.ref d), some (.ref mo), u9, u10', u11, u12, u13, none] ∧ Ex H2 H' ∧ H' d = some (.dK (begV b)) ∧ BestV H' BV' bst ∧ H' sl = some (.lst xs) ∧ sl ≠ lnA ∧ cs.Perm (Mx.kids plan M R b bst) ∧ Paired (fun k x => KdR plan H' k x) cs xs ∧ H' lnA = some (.lst ls) ∧ Paired (fun b x => DcR H' b x) (rest ++ (cs.take i).map (Mx.node b)) ls)
            (fun sl xs H11 hsl e11 h11 ⟨cs, c1, c2⟩ => ⟨u9, u11, u12, u13, cs, wr, rfl, (e26.trans e710).trans e11, e11 _ _ pb10.bg, (hB8.ex e10).ex e11, h11, fun z => (by rw [z, hL10] at hsl; cases hsl), c1, c2, e11 _ _ hL10, ?_⟩) (fun sl xs i σ' H' _ ⟨_, _, _, _, _, _, _, _, _, _, h, _⟩ => sq_of h) ?_ ?_
          · rw [List.take_zero, List.map_nil, List.append_nil]
            exact Paired.mapP hP10 fun b x r => r.ex e11
          · rintro sl xs i x σ' H11 hx ⟨u9, u11, u12, u13, cs, ls, rfl, e11, f1, f2, f3, f4, f5, f6, f7, f8⟩
            obtain ⟨kk, hk, tA, rfl, hkt⟩ := paired_get f6 i x hx
            obtain ⟨km, kj⟩ := kk
            have hkm : (km, kj) ∈ Mx.kids plan M R b bst := f5.mem_iff.mp (List.mem_of_getElem? hk)
            obtain ⟨k1, k2, k3⟩ := Mx.kids_mem hkm
            obtain ⟨k4, k5⟩ := Mx.openTo_mem k1
            have k5 : kj ∉ ks b := k5
            refine ⟨tA, _, rfl, st_of hkt, rfl, iN km, _, rfl, V.int (-(Mx.tail plan kj : Int)), _, rfl, iN kj, _, rfl, rfl, ?_⟩
            refine q_lockN f1 True.intro (fun od => dc_copy Nb.nd (by omega) ?_ (fun _ => rfl) (fun o ho => ev_var rfl) (fun o ho => ev_dget (ev_var rfl) (ev_var rfl) (.frz upd_same) ho)) fun la H12 hla e12 h12 => ?_
            · have q := ei_keys (σ := [some (.ref p), some (iN M), some (iN R), some (.ref tls), some (.ref lnA), some BV', some (iN (Mx.lower plan M)), some (.ref d), some (.ref mo), some (iN kj), u10', some (iN km), some (V.int (-(Mx.tail plan kj : Int))), u13, none]) (td := tVar 7) (kvs := begV b) (o := od) (H := L2.upd H11 d (.frz od (.dK (begV b)))) (ev_var rfl) upd_same
              rw [begV_keys] at q
              exact q
            · refine q_dput h12 k5 (by omega) (ev_var rfl) (ev_var rfl) (ev_var rfl) fun H13 e13 => ?_
              have e1113 : Ex H11 (L2.upd H13 la (.dK (begV (b ++ [(kj, km)])))) := Ex.mut (e12.trans e13) hla
              have hla2 : (L2.upd H13 la (.dK (begV (b ++ [(kj, km)])))) la = some (.dK (begV (b ++ [(kj, km)]))) := upd_same
              generalize L2.upd H13 la (.dK (begV (b ++ [(kj, km)]))) = H14 at e1113 hla2
              have hls : ls.length < 100000 := by
                have q1 := Paired.length f8
                have q2 := Mx.len_le_load plan (rest ++ cs.map (Mx.node b))
                have q3 := Mx.load_step (best := bst) hA.ok Nb Lb f5 rest
                rw [List.length_append, List.length_map, List.length_take] at q1
                rw [List.length_append, List.length_map] at q2
                omega
              refine s_app (e1113 _ _ f7) (ev_var rfl) (ev_var rfl) hls fun H15 e15 => ?_
              have e1115 := e1113.trans e15
              have hl15 := e1115 _ _ f7
              have tk : Tk H15 (L2.upd H15 lnA (.lst (ls ++ [.ref la]))) := Tk.upd hl15 fun _ z => nomatch z
              refine ⟨_, _, _, _, cs, ls ++ [.ref la], rfl, Ex.mut (e11.trans e1115) hln, ?_, BestV.upd hl15 (f2.ex e1115), ?_, f4, f5, Paired.mapP f6 fun k x r => r.tk ((Tk.of e1115).trans tk), upd_same, ?_⟩
              · obtain ⟨_, z, g⟩ := DcR.upd (o := .lst (ls ++ [.ref la])) hl15 ⟨d, rfl, e1115 _ _ f1⟩
                cases z
                exact g
              · rw [upd_ne f4]; exact e1115 _ _ f3
              · rw [List.take_add_one, hk, List.map_append, ← List.append_assoc]
                exact Paired.snoc (Paired.mapP f8 fun b x r => DcR.upd hl15 (r.ex e1115)) (DcR.upd hl15 ⟨la, rfl, e15 _ _ hla2⟩)
          · rintro sl xs σ' H11 ⟨u9, u11, u12, u13, cs, ls, rfl, e11, f1, f2, f3, f4, f5, f6, f7, f8⟩
            have hcl := Paired.length f6
            rw [← hcl, List.take_length] at f8
            have lt := Mx.load_step (best := bst) hA.ok Nb Lb f5 rest
            refine ⟨_, lt, bst, rest ++ cs.map (Mx.node b), BV', ls, _, _, _, _, _, _, _, rfl, by omega, rfl, e11, f2, f7, f8, ?_⟩
            rw [← hbst]
            refine Mx.SI.step hA.ok hA.m1 hF I fun x => ?_
            rw [List.mem_append, hbst]
            have : x ∈ cs.map (Mx.node b) ↔ x ∈ (Mx.kids plan M R b bst).map (Mx.node b) := (f5.map _).mem_iff
            rw [this]
    · -- the end
      have hend : bs = [] ∨ ∃ e, best = some e ∧ e ≤ Mx.lower plan M := by
        cases bs with
        | nil => exact .inl rfl
        | cons b r =>
          right
          cases best with
          | none =>
            cases hP
            exact absurd hb (by simp)
          | some e =>
            cases hP
            refine ⟨e, rfl, ?_⟩
            simp at hb
            exact hb
      have ho : Mx.Ord plan (List.range plan.length) := ⟨fun j hj => List.mem_range.mp hj, fun j hj => List.mem_range.mpr hj⟩
      obtain ⟨e, rfl, he1, he2⟩ := I.last hA.ok hA.m1 (Mx.list_feas hA.ok hA.m1 hF ho).1 hend
      obtain ⟨t, d, rfl, ht⟩ := hBV
      refine s_ret (ev_var rfl) fun H6 e6 => k t d e H6 ((e02.trans e4).trans (e5.trans e6)) (e6 _ _ (e5 _ _ ht)) ⟨he1, he2⟩
/-! ### least_end -/
theorem s_retR {σ : L2.St} {H : Hp} {te : TE} {D : L2.Ends} {R : V → Hp → Prop} (h : EvR te σ H R) (k : ∀ v H1, Ex H H1 → R v H1 → D.rt v H1) : tRet te D σ H := h H (Ex.refl H) _ k
theorem er_ifT {σ : L2.St} {H : Hp} {t : TT} {ta tb : TE} {R : V → Hp → Prop} (h : EvT t σ H true) (h1 : EvR ta σ H R) : EvR (tIf t ta tb) σ H R := fun H1 e Q q => h H1 e _ fun H2 e2 => by
  show ta σ H2 Q
  exact h1 H2 (e.trans e2) Q fun v H3 e3 r => q v H3 (e2.trans e3) r
theorem er_best {σ : L2.St} {H : Hp} {ta : TA} {p : Addr} {plan : Plan} {M R : Nat} (h : EvA ta σ H [.ref p, iN M, iN R]) (hA : Asked H p plan M R) (hF : Mx.planFits plan R = true) : EvR (tOp (rIxT K) (tCall sp_plan_best [] E0 ta) (tC (.int 0))) σ H fun v _ => ∃ e, v = iN e ∧ BestOf plan M R e := fun H1 e Q q =>
  h H1 e _ fun H2 e2 => ⟨p, plan, M, R, rfl, hA.ex (e.trans e2), hF, fun t d e' H3 e3 ht hb => ⟨t, _, 0, iN e', rfl, rfl, st_of ht, rfl, q _ H3 (e2.trans e3) ⟨e', rfl, hb⟩⟩⟩
abbrev s_least_end : Stmt := topS 33
abbrev N_least_end : List Str := ["plan", "machines", "room"]
theorem sc_least_end : FnScope N_least_end ["plan", "machines", "room"] (defScope s_least_end) := ⟨rfl, rfl, rfl, by decide +kernel, rfl, by decide +kernel, by decide +kernel⟩
def sp_least_end : Sp := fun vs H Q _ => ∃ (p : Addr) (plan : Plan) (M R : Nat), vs = [.ref p, iN M, iN R] ∧ Asked H p plan M R ∧ Mx.planFits plan R = true ∧ ∀ e H', Ex H H' → BestOf plan M R e → Q (iN e) H'
theorem cal_least_end (D : DefAt K mg "least_end" s_least_end ["plan", "machines", "room"]) (TX : Txt mg) (C_need_plan_asked : Cal P w K mg base 4 "need_plan_asked" (sp_need_plan_asked)) (C_plan_best : Cal P w K mg base 4 "plan_best" (sp_plan_best)) (C_plan_fits : Cal P w K mg base 1 "plan_fits" (sp_plan_fits)) : Cal P w K mg base 5 "least_end" (sp_least_end) := by
  have hnd := sc_least_end.nd
  refine cal_of D sc_least_end (fun vs H Q E h => ?len) (fun f cdv A outer s H vs Q E hr h => ?body)
  case len => obtain ⟨p, plan, M, R, rfl, _⟩ := h; rfl
  case body =>
    obtain ⟨p, plan, M, R, rfl, hA, hF, k⟩ := h
    refine ⟨_, (pss_cons (ps_expr (pe_c C_need_plan_asked hr (by decide) (by rfl) (pa_cons (pv 0) (pa_cons (pv 1) (pa_cons (pv 2) pa_nil)))))
      (pss_one (ps_ret (pe_ifExp (pt_val (pe_c C_plan_fits hr (by decide) (by rfl) (pa_cons (pv 0) (pa_cons (pv 2) pa_nil)))) (pe_ix (ix_tK K rfl) (pe_c C_plan_best hr (by decide) (by rfl) (pa_cons (pv 0) (pa_cons (pv 1) (pa_cons (pv 2) pa_nil)))) pe_int (fun _ _ => rfl)) pe_non)))), ?_⟩
    have hi6 := hA.ok.hi
    refine q_drop (ev_c1 (ea_cons (ev_var rfl) (ea_cons (ev_var rfl) (ea_cons (ev_var rfl) ea_nil))) fun H1 e Q q E => ⟨p, plan, M, R, rfl, hA.ex e, q⟩) fun H1 e1 => ?_
    have hA1 := hA.ex e1
    refine s_retR (er_ifT (et_is (et_B (ev_c1 (ea_cons (ev_var rfl) (ea_cons (ev_var rfl) ea_nil)) fun H1 e Q q E => ⟨p, plan, R, rfl, hA1.pl.ex e, by omega, q⟩)) hF) (er_best (ea_cons (ev_var rfl) (ea_cons (ev_var rfl) (ea_cons (ev_var rfl) ea_nil))) hA1 hF)) fun v H2 e2 hv => ?_
    obtain ⟨e, rfl, he⟩ := hv
    exact k e H2 (e1.trans e2) he
end
end Wk
end

section
set_option Elab.async false
set_option linter.all false
set_option maxRecDepth 100000
set_option maxHeartbeats 4000000
namespace Wk
open PySem PySem.Spec PyProof.Rows L2 Evl
open Mx (Plan Beg Job jb ln nd rm ks look has T)
/-! ## lists told by a word -/
theorem paired_zip {α β : Type} {R : α → β → Prop} : ∀ {xs : List α} {ys : List β}, Paired R xs ys → ∃ zs : List (α × β), zs.map (·.1) = xs ∧ zs.map (·.2) = ys ∧ ∀ z ∈ zs, R z.1 z.2
  | _, _, .nil => ⟨[], rfl, rfl, fun _ h => nomatch h⟩
  | _, _, .cons h t => by
    obtain ⟨zs, h1, h2, h3⟩ := paired_zip t
    refine ⟨(_, _) :: zs, by rw [List.map_cons, h1], by rw [List.map_cons, h2], fun z hz => ?_⟩
    rcases List.mem_cons.mp hz with rfl | hz
    · exact h
    · exact h3 z hz
theorem paired_map {α β γ : Type} {S : α → γ → Prop} {f : β → α} : ∀ {zs : List β} {ws : List γ}, Paired (fun z w => S (f z) w) zs ws → Paired S (zs.map f) ws
  | _, _, .nil => .nil
  | _, _, .cons h t => .cons h (paired_map t)
theorem paired_of {α β : Type} {R : α → β → Prop} : ∀ {zs : List (α × β)}, (∀ z ∈ zs, R z.1 z.2) → Paired R (zs.map (·.1)) (zs.map (·.2))
  | [], _ => .nil
  | z :: r, h => .cons (h z (by simp)) (paired_of fun x hx => h x (List.mem_cons_of_mem _ hx))
theorem filter_fst {α β : Type} (P : α → Bool) : ∀ zs : List (α × β), (zs.filter fun z => P z.1).map (·.1) = (zs.map (·.1)).filter P
  | [] => rfl
  | z :: r => by
    have ih := filter_fst P r
    rw [List.filter_cons, List.map_cons, List.filter_cons]
    cases h : P z.1 with
    | true => simp only [if_true]; rw [List.map_cons, ih]
    | false => simp only [Bool.false_eq_true, if_false]; exact ih
section
variable {K : PySem.W.Frag} {σ : L2.St} {H H' : Hp} {ta tb tl te : TE} {t : TT} {g : TG} {tz tu : TS} {D : L2.Ends}
theorem s_asgLR {i : Nat} {R : List V → Hp → Prop} (h : EvLR te σ H R) (k : ∀ p xs H1, H p = none → Ex H H1 → H1 p = some (.lst xs) → R xs H1 → D.nx (σ.set i (some (.ref p))) H1) : tAsg te (gName i) D σ H := h H (Ex.refl H) _ fun p xs H1 hp e h1 r => k p xs H1 hp e h1 r
theorem q_asgLR {i : Nat} {R : List V → Hp → Prop} (h : EvLR te σ H R) (k : ∀ p xs H1, H p = none → Ex H H1 → H1 p = some (.lst xs) → R xs H1 → tz D (σ.set i (some (.ref p))) H1) : tSeq (tAsg te (gName i)) tz D σ H := h H (Ex.refl H) _ fun p xs H1 hp e h1 r => k p xs H1 hp e h1 r
theorem s_retLR {R : List V → Hp → Prop} (h : EvLR te σ H R) (k : ∀ p xs H1, H p = none → Ex H H1 → H1 p = some (.lst xs) → R xs H1 → D.rt (.ref p) H1) : tRet te D σ H := h H (Ex.refl H) _ fun p xs H1 hp e h1 r => k p xs H1 hp e h1 r
theorem EvLR.imp {R R' : List V → Hp → Prop} (h : EvLR te σ H R) (f : ∀ xs H1, Ex H H1 → R xs H1 → R' xs H1) : EvLR te σ H R' := fun H1 e Q q => h H1 e Q fun p xs H2 hp e2 h2 r => q p xs H2 hp e2 h2 (f xs H2 (e.trans e2) r)
/-- a comprehension over a new list -/
theorem lc_over {vs : List Nat} {R0 R1 : List V → Hp → Prop} (h : EvLR tl σ H R0) (f : ∀ p ws H1, Ex H H1 → H1 p = some (.lst ws) → R0 ws H1 → EvLR (tLc (iList K (tC (.ref p))) g t te vs) σ H1 R1) : EvLR (tLc (iList K tl) g t te vs) σ H R1 := fun H1 e Q q =>
  h H1 e _ fun p ws H2 hp e2 h2 r => (f p ws H2 (e.trans e2) h2 r) H2 (Ex.refl H2) Q fun p' xs H3 hp' e3 h3 r3 => q p' xs H3 (fresh_back e2 hp') (e2.trans e3) h3 r3
/-- built-ins over a new list told by a word -/
theorem er_callL {rr : List V → Hp → VK → Prop} {R : List V → Hp → Prop} {R1 : V → Hp → Prop} (h : EvLR ta σ H R) (hr : ∀ p xs H1, Ex H H1 → H1 p = some (.lst xs) → R xs H1 → ∀ Q : VK, (∀ v H2, Ex H1 H2 → R1 v H2 → Q v H2) → rr [.ref p] H1 Q) : EvR (tCB rr (tCons ta tNil)) σ H R1 := fun H1 e Q q =>
  h H1 e _ fun p xs H2 hp e2 h2 r => hr p xs H2 (e.trans e2) h2 r Q fun v H3 e3 r3 => q v H3 (e2.trans e3) r3
theorem ev_lenLR {R : List V → Hp → Prop} {n : Nat} (h : EvLR ta σ H R) (hn : ∀ xs H1, Ex H H1 → R xs H1 → xs.length = n) : Ev (tCB (rLenS K) (tCons ta tNil)) σ H (iN n) := fun H1 e Q q =>
  h H1 e _ fun p xs H2 hp e2 h2 r => ⟨p, xs, rfl, Or.inl (sq_of h2), by rw [hn xs H2 (e.trans e2) r]; exact q H2 e2⟩
/-- [te for x in xs for y in range(n) if t] -/
theorem lc2_R {α : Type} {wi : TI} {tn : TA} {tt1 : TT} {vs vs1 : List Nat} {j0 j1 n : Nat} (xs : List α) (enc : α → V) (P : α → Nat → Bool) (Rl : α → Nat → V → Hp → Prop)
    (hRm : ∀ x y v H H', Tk H H' → Rl x y v H → Rl x y v H') (hi : EvI wi σ H (xs.map enc)) (hz : xs.length ≤ 1000) (hn : n ≤ 40)
    (hw : ∀ x, wipe ((wipe σ vs).set j0 (some x)) vs = wipe σ vs) (hw1 : ∀ x y, wipe ((wipe ((wipe σ vs).set j0 (some x)) vs1).set j1 (some y)) vs1 = wipe ((wipe σ vs).set j0 (some x)) vs1)
    (hr : ∀ x, EvA tn ((wipe σ vs).set j0 (some x)) H [iN n])
    (ht : ∀ x ∈ xs, ∀ y, y < n → EvT tt1 ((wipe ((wipe σ vs).set j0 (some (enc x))) vs1).set j1 (some (iN y))) H (P x y))
    (he : ∀ x ∈ xs, ∀ y, y < n → P x y = true → EvR te ((wipe ((wipe σ vs).set j0 (some (enc x))) vs1).set j1 (some (iN y))) H (Rl x y)) :
    EvLR (tLc2 wi (gName j0) tYes (iRng1 tn) (gName j1) tt1 te vs vs1) σ H fun ws H' => Paired (fun (z : α × Nat) w => Rl z.1 z.2 w H') (xs.flatMap fun x => ((List.range n).filter (P x)).map fun y => (x, y)) ws := fun H0 e Q q =>
  hi H0 e _ fun J H1 e1 go D hD => by
    have lx : (xs.map enc).length = xs.length := List.length_map ..
    have e01 : Ex H H1 := e.trans e1
    refine ⟨fun i m H' => m = xs.length - i ∧ i ≤ xs.length ∧ Ex H1 H' ∧ ∃ ws, H' D = some (.lst ws) ∧ ws.length ≤ i * n ∧ Paired (fun (z : α × Nat) w => Rl z.1 z.2 w H') ((xs.take i).flatMap fun x => ((List.range n).filter (P x)).map fun y => (x, y)) ws, ⟨_, rfl, Nat.zero_le _, Ex.new hD, [], upd_same, Nat.zero_le _, by rw [List.take_zero]; exact .nil⟩, ?_⟩
    rintro i m H' ⟨rfl, hi', h1, ws, h2, hwl, h3⟩
    by_cases hlt : i < xs.length
    · refine .inr ⟨go.go i H' (by rw [lx]; exact hlt) h1, fun H'' => Ex H1 H'' ∧ ∃ ws, H'' D = some (.lst ws) ∧ ws.length ≤ (i + 1) * n ∧ Paired (fun (z : α × Nat) w => Rl z.1 z.2 w H'') ((xs.take (i + 1)).flatMap fun x => ((List.range n).filter (P x)).map fun y => (x, y)) ws, fun H'' c => ⟨xs.length - (i + 1), by omega, rfl, hlt, c.1, c.2⟩, fun x H'' y => ?_⟩
      obtain ⟨ey, gx⟩ := go.yld i H' x H'' (by rw [lx]; exact hlt) h1 y
      subst ey
      have hx : xs[i]? = some xs[i] := List.getElem?_eq_getElem hlt
      rw [List.getElem?_map, hx] at gx
      have gx' : enc xs[i] = x := Option.some.inj gx
      subst gx'
      have mem : xs[i] ∈ xs := List.getElem_mem hlt
      have pre : (xs.take (i + 1)).flatMap (fun x => ((List.range n).filter (P x)).map fun y => (x, y)) = (xs.take i).flatMap (fun x => ((List.range n).filter (P x)).map fun y => (x, y)) ++ ((List.range n).filter (P xs[i])).map fun y => (xs[i], y) := by
        rw [List.take_add_one, hx, List.flatMap_append]
        simp
      generalize xs[i] = z at mem pre
      refine ⟨hw _, ?_⟩
      refine (et_yes (σ := (wipe σ vs).set j0 (some (enc z))) (H := H'')) H'' (Ex.refl _) _ fun H3 e3 => ?_
      dsimp only
      rw [if_pos rfl]
      replace h1 := h1.trans e3
      replace h2 := e3 _ _ h2
      replace h3 := Paired.mapP h3 fun a b r => hRm _ _ _ _ _ (Tk.of e3) r
      refine hr (enc z) H3 (e01.trans h1) _ fun H4 e4 => ⟨(n : Int), rfl, by omega, by omega, ?_⟩
      have en : ((n : Int)).toNat = n := by omega
      rw [en]
      have hwb : i * n ≤ 1000 * 40 := Nat.mul_le_mul (by omega) hn
      refine ⟨fun j k H' => k = n - j ∧ j ≤ n ∧ Ex H1 H' ∧ ∃ ws, H' D = some (.lst ws) ∧ ws.length ≤ i * n + j ∧ Paired (fun (z : α × Nat) w => Rl z.1 z.2 w H') ((xs.take i).flatMap (fun x => ((List.range n).filter (P x)).map fun y => (x, y)) ++ ((List.range j).filter (P z)).map fun y => (z, y)) ws,
        ⟨_, rfl, Nat.zero_le _, h1.trans e4, ws, e4 _ _ h2, by omega, by rw [List.range_zero, List.filter_nil, List.map_nil, List.append_nil]; exact Paired.mapP h3 fun a b r => hRm _ _ _ _ _ (Tk.of e4) r⟩, ?_⟩
      rintro j k H5 ⟨rfl, hj, f1, ws5, f2, f3, f4⟩
      by_cases hjn : j < n
      · have stp : (List.range (j + 1)).filter (P z) = (List.range j).filter (P z) ++ (if P z j = true then [j] else []) := by
          rw [List.range_succ, List.filter_append, List.filter_cons]
          rfl
        refine .inr ⟨hjn, fun H'' => Ex H1 H'' ∧ ∃ ws, H'' D = some (.lst ws) ∧ ws.length ≤ i * n + (j + 1) ∧ Paired (fun (z : α × Nat) w => Rl z.1 z.2 w H'') ((xs.take i).flatMap (fun x => ((List.range n).filter (P x)).map fun y => (x, y)) ++ ((List.range (j + 1)).filter (P z)).map fun y => (z, y)) ws, fun H'' c => ⟨n - (j + 1), by omega, rfl, hjn, c.1, c.2⟩, fun x H'' y => ?_⟩
        obtain ⟨ey, ex⟩ := y
        subst ey ex
        have e0 : (0 : Int) + ((j : Nat) : Int) = ((j : Nat) : Int) := Int.zero_add _
        rw [e0]
        refine ⟨hw1 _ _, ?_⟩
        refine ht z mem j hjn H'' (e01.trans f1) _ fun H6 e6 => ?_
        cases hP : P z j with
        | true =>
          show te _ H6 _
          refine he z mem j hjn hP H6 (e01.trans (f1.trans e6)) _ fun wv H7 e7 rw7 => ⟨ws5, e7 _ _ (e6 _ _ f2), sz_lt (by omega), Ex.mut ((f1.trans e6).trans e7) hD, ws5 ++ [wv], upd_same, by rw [List.length_append, List.length_singleton]; omega, ?_⟩
          have tk7 : Tk H7 (upd H7 D (.lst (ws5 ++ [wv]))) := Tk.upd (e7 _ _ (e6 _ _ f2)) (fun _ z => nomatch z)
          rw [stp, if_pos hP, List.map_append, ← List.append_assoc]
          exact Paired.snoc (Paired.mapP f4 fun a b r => hRm _ _ _ _ _ ((Tk.of (e6.trans e7)).trans tk7) r) (hRm _ _ _ _ _ tk7 rw7)
        | false =>
          show Ex H1 H6 ∧ _
          refine ⟨f1.trans e6, ws5, e6 _ _ f2, by omega, ?_⟩
          rw [stp, if_neg (by rw [hP]; exact Bool.false_ne_true), List.append_nil]
          exact Paired.mapP f4 fun a b r => hRm _ _ _ _ _ (Tk.of e6) r
      · have ej : j = n := by omega
        subst ej
        refine .inl ⟨Nat.le_refl _, f1, ws5, f2, by rw [Nat.add_mul, Nat.one_mul]; exact f3, ?_⟩
        rw [pre]
        exact f4
    · have ei : i = xs.length := by omega
      subst ei
      refine .inl ⟨go.stop _ H' (by rw [lx]; exact Nat.le_refl _) h1, q D ws H' (fresh_back e1 hD) (e1.trans h1) h2 ?_⟩
      rw [List.take_length] at h3
      exact h3
end
/-! ## orders, what is told of them -/
def OrdR (H : Hp) (o : List Nat) (x : V) : Prop := ∃ a, x = .ref a ∧ H a = some (.tup (o.map iN))
theorem OrdR.tk {H H' : Hp} {o : List Nat} {x : V} (t : Tk H H') (h : OrdR H o x) : OrdR H' o x := by
  obtain ⟨a, h1, h2⟩ := h
  exact ⟨a, h1, t _ _ h2⟩
def TldR (H : Hp) (e : Nat) (o : List Nat) (x : V) : Prop := ∃ t a, x = .ref t ∧ H t = some (.tup [iN e, .ref a]) ∧ H a = some (.tup (o.map iN))
theorem TldR.tk {H H' : Hp} {e : Nat} {o : List Nat} {x : V} (t : Tk H H') (h : TldR H e o x) : TldR H' e o x := by
  obtain ⟨u, a, h1, h2, h3⟩ := h
  exact ⟨u, a, h1, t _ _ h2, t _ _ h3⟩
def tdata (e : Nat) (o : List Nat) : PyData := .tuple [.int (e : Int), .tuple ((o.map fun n : Nat => (n : Int)).map .int)]
theorem dp_ints {K : PySem.W.Frag} {H : Hp} : ∀ o : List Nat, DpAll K H (o.map iN) ((o.map fun n : Nat => (n : Int)).map .int)
  | [] => .nil
  | n :: r => .cons (.int _) (dp_ints r)
theorem TldR.dp {K : PySem.W.Frag} {H : Hp} {e : Nat} {o : List Nat} {x : V} (h : TldR H e o x) : Dp K H x (tdata e o) := by
  obtain ⟨u, a, rfl, h2, h3⟩ := h
  exact .tup (st_of h2) (.cons (.int _) (.cons (.tup (st_of h3) (dp_ints o)) .nil))
theorem dp_told {K : PySem.W.Frag} {H : Hp} {f : List Nat → Nat} : ∀ {os : List (List Nat)} {ws : List V}, Paired (fun o x => TldR H (f o) o x) os ws → DpAll K H ws (os.map fun o => tdata (f o) o)
  | _, _, .nil => .nil
  | _, _, .cons h t => .cons h.dp (dp_told t)
theorem told_alike (f : List Nat → Nat) (os : List (List Nat)) : PySem.W.AlikeAll (os.map fun o => tdata (f o) o) := by
  refine ⟨fun x hx y hy => ?_, fun x hx => ?_⟩
  · obtain ⟨o, _, rfl⟩ := List.mem_map.mp hx
    obtain ⟨o', _, rfl⟩ := List.mem_map.mp hy
    unfold tdata
    simp only [PySem.W.alike, PySem.W.alikeAll, PySem.W.alike_ints, Bool.and_true]
  · obtain ⟨o, _, rfl⟩ := List.mem_map.mp hx
    exact fun z => nomatch z
theorem told_depth (f : List Nat → Nat) : ∀ os : List (List Nat), PyData.depthAll (os.map fun o => tdata (f o) o) ≤ 32
  | [] => by simp [PyData.depthAll]
  | o :: r => by
    have ih := told_depth f r
    rw [List.map_cons]
    unfold tdata at *
    simp only [PyData.depthAll, PyData.depth, PySem.W.depth_ints]
    omega
/-- the least of those told -/
def pickO (f : List Nat → Nat) (os : List (List Nat)) : List Nat := os.getD (bestIx (os.map fun o => tdata (f o) o)) []
section
variable {K : PySem.W.Frag} {σ : L2.St} {H H' : Hp} {ta tb tl te : TE} {t : TT} {g : TG} {tz tu : TS} {D : L2.Ends}
theorem min_told {f : List Nat → Nat} {os : List (List Nat)} {ws : List V} {p : Addr} {Q : VK} (hp : H p = some (.lst ws)) (hne : os ≠ []) (h : Paired (fun o x => TldR H (f o) o x) os ws) (q : ∀ v, TldR H (f (pickO f os)) (pickO f os) v → Q v H) : rMinD K [.ref p] H Q := by
  refine ⟨p, ws, _, rfl, sq_of hp, dp_told h, ?_, told_alike f os, told_depth f os, fun v hv => ?_⟩
  · intro z
    exact hne (List.map_eq_nil_iff.mp z)
  · obtain ⟨o, ho, r⟩ := paired_get h _ v hv
    have e : pickO f os = o := by
      unfold pickO
      rw [List.getD_eq_getElem?_getD, ho]
      rfl
    rw [← e] at r
    exact q v r
theorem er_minL {f : List Nat → Nat} {os : List (List Nat)} (hne : os ≠ []) (h : EvLR ta σ H fun ws H' => Paired (fun o x => TldR H' (f o) o x) os ws) : EvR (tCB (rMinD K) (tCons ta tNil)) σ H fun v H' => TldR H' (f (pickO f os)) (pickO f os) v :=
  er_callL h fun p xs H1 e h1 r Q q => min_told h1 hne r fun v hv => q v H1 (Ex.refl H1) hv
theorem er_min {f : List Nat → Nat} {os : List (List Nat)} {ws : List V} {p : Addr} (hne : os ≠ []) (hx : Ev ta σ H (.ref p)) (hp : H p = some (.lst ws)) (h : Paired (fun o x => TldR H (f o) o x) os ws) : EvR (tCB (rMinD K) (tCons ta tNil)) σ H fun v H' => TldR H' (f (pickO f os)) (pickO f os) v := fun H1 e Q q =>
  hx H1 e _ fun H2 e2 => min_told ((e.trans e2) _ _ hp) hne (Paired.mapP h fun o x r => r.tk (Tk.of (e.trans e2))) fun v hv => q v H2 e2 hv
/-- [told for told in found if ..] -/
theorem el_those {vs : List Nat} {j p : Nat} {f : List Nat → Nat} {os : List (List Nat)} {ws : List V} (P : List Nat → Bool) (hx : Ev tl σ H (.ref p)) (hp : H p = some (.lst ws)) (h : Paired (fun o x => TldR H (f o) o x) os ws) (hz : os.length ≤ 40000)
    (hw : ∀ x, wipe ((wipe σ vs).set j (some x)) vs = wipe σ vs) (ht : ∀ o x, TldR H (f o) o x → EvT t ((wipe σ vs).set j (some x)) H (P o)) (he : ∀ x, Ev te ((wipe σ vs).set j (some x)) H x) :
    EvLR (tLc (iList K tl) (gName j) t te vs) σ H fun ws' H' => Paired (fun o x => TldR H' (f o) o x) (os.filter P) ws' := by
  obtain ⟨zs, h1, h2, h3⟩ := paired_zip h
  subst h1 h2
  have q := lc_n (t := t) (te := te) (σ := σ) (H := H) (wi := iList K tl) (vs := vs) (j := j) zs (·.2) (fun z => P z.1) (·.2) (ei_list hx (sq_of hp)) (by rw [List.length_map] at hz; exact hz) hw (fun z hz => ht z.1 z.2 (h3 z hz)) (fun z hz _ => he z.2)
  refine EvLR.imp (.of q) fun xs H1 e e1 => ?_
  rw [e1, ← filter_fst]
  exact paired_of fun z hz => (h3 z (List.mem_filter.mp hz).1).tk (Tk.of e)
end
end Wk
end

section
set_option Elab.async false
set_option linter.all false
set_option maxRecDepth 100000
set_option maxHeartbeats 4000000
namespace Wk
open PySem PySem.Spec PyProof.Rows L2 Evl
open Mx (Plan Beg Job jb ln nd rm ks look has T)
section
variable {P : Program} {w : World} {K : PySem.W.Frag} {mg : Str → Option Value} {base : Heap}
section
variable {σ : L2.St} {H : Hp} {ta tb td tl te : TE} {ti : TA} {t : TT} {g : TG} {tz tu : TS} {D : L2.Ends}
theorem q_forTn {a : Addr} {xs : List V} {tl : TE} {j : Nat} (h : Ev tl σ H (.ref a)) (hx : SqT K H a xs) (Pv : Nat → L2.St → Hp → Prop) (h0 : ∀ H1, Ex H H1 → Pv 0 σ H1) (hl : ∀ i σ' H', i ≤ xs.length → Pv i σ' H' → SqT K H' a xs)
    (hs : ∀ i x σ' H', xs[i]? = some x → Pv i σ' H' → tu { D with nx := Pv (i + 1), ct := Pv (i + 1), bk := tz D } (σ'.set j (some x)) H') (hd : ∀ σ' H', Pv xs.length σ' H' → tz D σ' H') : tSeq (tFor (iTup K tl) (gName j) tu) tz D σ H :=
  q_forT h hx Pv h0 hl hs hd
def RetLR (R : List V → Hp → Prop) (H : Hp) (Q : VK) : Prop := ∀ p xs H2, H p = none → Ex H H2 → H2 p = some (.lst xs) → R xs H2 → Q (.ref p) H2
def RetN (o : HO) (H : Hp) (Q : VK) : Prop := ∀ p H2, H p = none → Ex H H2 → H2 p = some o → Q (.ref p) H2
def RetR (R : V → Hp → Prop) (H : Hp) (Q : VK) : Prop := ∀ v H2, Ex H H2 → R v H2 → Q v H2
theorem el_cR {sp : Sp} {vs : List V} {R : List V → Hp → Prop} (h : EvA ti σ H vs) (hs : ∀ H1, Ex H H1 → ∀ Q : VK, RetLR R H1 Q → ∀ E : XK, sp vs H1 Q E) : EvLR (tCall sp [] E0 ti) σ H R := fun H1 e Q q =>
  h H1 e _ fun H2 e2 => by
    show sp (vs ++ []) H2 Q E0
    rw [List.append_nil]
    exact hs H2 (e.trans e2) Q (fun p xs H3 hp e3 h3 r => q p xs H3 (fresh_back e2 hp) (e2.trans e3) h3 r) _
theorem en_c {sp : Sp} {vs : List V} {o : HO} (h : EvA ti σ H vs) (hs : ∀ H1, Ex H H1 → ∀ Q : VK, RetN o H1 Q → ∀ E : XK, sp vs H1 Q E) : EvN (tCall sp [] E0 ti) σ H o := fun H1 e Q q =>
  h H1 e _ fun H2 e2 => by
    show sp (vs ++ []) H2 Q E0
    rw [List.append_nil]
    exact hs H2 (e.trans e2) Q (fun p H3 hp e3 h3 => q p H3 (fresh_back e2 hp) (e2.trans e3) h3) _
theorem er_c {sp : Sp} {vs : List V} {R : V → Hp → Prop} (h : EvA ti σ H vs) (hs : ∀ H1, Ex H H1 → ∀ Q : VK, RetR R H1 Q → ∀ E : XK, sp vs H1 Q E) : EvR (tCall sp [] E0 ti) σ H R := fun H1 e Q q =>
  h H1 e _ fun H2 e2 => by
    show sp (vs ++ []) H2 Q E0
    rw [List.append_nil]
    exact hs H2 (e.trans e2) Q (fun v H3 e3 r => q v H3 (e2.trans e3) r) _
/-- f(x, a new thing) -/
theorem ev_cN {sp : Sp} {x z : V} {o : HO} (ha : Ev ta σ H x) (hb : EvN td σ H o) (hs : ∀ p H1, Ex H H1 → H1 p = some o → ∀ Q : VK, Ret Q H1 z → ∀ E : XK, sp [x, .ref p] H1 Q E) : Ev (tCall sp [] E0 (tCons ta (tCons td tNil))) σ H z := fun H1 e Q q =>
  ha H1 e _ fun H2 e2 => hb H2 (e.trans e2) _ fun p H3 hp e3 h3 => hs p H3 ((e.trans e2).trans e3) h3 Q (fun H4 e4 => q H4 ((e2.trans e3).trans e4)) _
theorem en_tup0 : EvN (tTup tNil) σ H (.tup []) := fun H1 e Q q => ⟨sz_of (by show 0 ≤ 100000; decide), fun p hp => q p _ hp (Ex.new hp) upd_same⟩
/-- row + (job,) -/
theorem er_row {a : Addr} {row : List Nat} {j : Nat} (ha : Ev ta σ H (.ref a)) (h : H a = some (.tup (row.map iN))) (hb : Ev tb σ H (iN j)) (hz : row.length ≤ 1000) : EvR (tOp (rCatA K) ta (tTup (tCons tb tNil))) σ H fun v H' => OrdR H' (row ++ [j]) v := fun H1 e Q q =>
  ha H1 e _ fun H2 e2 => hb H2 (e.trans e2) _ fun H3 e3 => ⟨sz_of (by show 1 ≤ 100000; decide), fun b hn => by
    have e13 := e2.trans e3
    have hA : (upd H3 b (.tup [iN j])) a = some (.tup (row.map iN)) := Ex.new hn _ _ ((e.trans e13) _ _ h)
    refine ⟨a, b, row.map iN, [iN j], rfl, rfl, st_of hA, st_of upd_same, sz_of (by rw [List.length_map, List.length_singleton]; omega), fun z => ?_, fun _ z => (nomatch z), fun _ _ p hp => ?_⟩
    · have : row = [] := List.map_eq_nil_iff.mp z
      subst this
      exact q _ _ (e13.trans (Ex.new hn)) ⟨b, rfl, upd_same⟩
    · refine q _ _ (e13.trans ((Ex.new hn).trans (Ex.new hp))) ⟨p, rfl, ?_⟩
      rw [upd_same, List.map_append]
      rfl⟩
theorem er_told {a : Addr} {o : List Nat} {n : Nat} (ha : Ev ta σ H (iN n)) (hb : Ev tb σ H (.ref a)) (h : H a = some (.tup (o.map iN))) : EvR (tTup (tCons ta (tCons tb tNil))) σ H fun v H' => TldR H' n o v := fun H1 e Q q =>
  ha H1 e _ fun H2 e2 => hb H2 (e.trans e2) _ fun H3 e3 => ⟨sz_of (by show 2 ≤ 100000; decide), fun p hp => q _ _ ((e2.trans e3).trans (Ex.new hp)) ⟨p, a, rfl, upd_same, Ex.new hp _ _ (((e.trans e2).trans e3) _ _ h)⟩⟩
theorem et_void {a : Addr} {xs : List V} {x : V} (hx : Ev ta σ H (.ref a)) (h : H a = some (.lst xs)) : EvT (tTest (tOp (rEqL0 K false) ta (tLst tNil))) σ H xs.isEmpty :=
  et_test (ev_opL hx (el_lst ea_nil (by show 0 ≤ 100000; decide)) fun p H1 hp e H2 e2 Q q => ⟨a, p, xs, rfl, rfl, sq_of (e2 _ _ (e _ _ h)), sq_of (e2 _ _ hp), q H2 (Ex.refl H2)⟩)
theorem er_if {b : Bool} {R : V → Hp → Prop} (h : EvT t σ H b) (h1 : b = true → EvR ta σ H R) (h2 : b = false → EvR tb σ H R) : EvR (tIf t ta tb) σ H R := fun H1 e Q q => h H1 e _ fun H2 e2 => by
  cases b with
  | true =>
    show ta σ H2 Q
    exact h1 rfl H2 (e.trans e2) Q fun v H3 e3 r => q v H3 (e2.trans e3) r
  | false =>
    show tb σ H2 Q
    exact h2 rfl H2 (e.trans e2) Q fun v H3 e3 r => q v H3 (e2.trans e3) r
end
theorem pg_tupK {X : Cx} {es : List Expr} {k : Nat} {t : TGs} {pos : Pos} (K : PySem.W.Frag) (n : Nat) (hK : X.K = K) (hc : X.calm = true) (h : PGs X es t)
    (hn : (assignEach es X.env).length = n := by rfl) (hst : (assignEach es X.env).findIdx? (·.1) = none := by rfl) : PG X (.Tuple es k pos) (gTup K n t) := by
  subst hK
  exact pg_tup hc h hn hst
/-! ### list_ready, list_left -/
abbrev s_list_ready : Stmt := topS 38
abbrev N_list_ready : List Str := ["plan", "begins", "job", "moment", "one"]
theorem sc_list_ready : FnScope N_list_ready ["plan", "begins", "job", "moment"] (defScope s_list_ready) := ⟨rfl, rfl, rfl, by decide +kernel, rfl, by decide +kernel, by decide +kernel⟩
def sp_list_ready : Sp := fun vs H Q _ => ∃ (p d : Addr) (plan : Plan) (b : Beg) (j m : Nat), vs = [.ref p, .ref d, iN j, iN m] ∧ PB H p d plan b ∧ j < plan.length ∧ (nd plan j).length ≤ 1000 ∧ Ret Q H (.bl (Mx.readyAt plan b j m))
theorem cal_list_ready (D : DefAt K mg "list_ready" s_list_ready ["plan", "begins", "job", "moment"]) (TX : Txt mg) : Cal P w K mg base 1 "list_ready" (sp_list_ready) := by
  have hnd := sc_list_ready.nd
  refine cal_of D sc_list_ready (fun vs H Q E h => ?len) (fun f cdv A outer s H vs Q E hr h => ?body)
  case len => obtain ⟨p, d, plan, b, j, m, rfl, _⟩ := h; rfl
  case body =>
    obtain ⟨p, d, plan, b, j, m, rfl, hB, hj, hz, k⟩ := h
    refine ⟨_, (pss_one (ps_ret (pe_callB (cr_all rfl) (by rfl) TX.b_all (by decide +kernel) (pa_cons (pe_lc (own := [("one", 4)]) rfl hnd (pi_tup (pe_ix (ix_tK K rfl) (pe_ix (ix_tK K rfl) (pv 0) (pv 2) (fun _ _ => rfl)) pe_int (fun _ _ => rfl))) (blkOk_by (own := [("one", 4)]) (N := N_list_ready) (sc := defScope s_list_ready) (by decide +kernel)) (fun _ _ _ _ _ => (pg_name (i := 4) hnd rfl (Or.inl rfl))) (fun _ _ _ _ _ => pts_nil) (fun _ _ _ _ _ => (pe_and (pe_cmp (pc_din (hu_of hr) (pv 4) (pv 1))) (pe_one (pe_cmpR op_le (pe_op op_add (pe_dget (hu_of hr) (pv 1) (pv 4) (fun _ _ => rfl)) (pe_ix (ix_tK K rfl) (pe_ix (ix_tK K rfl) (pv 0) (pv 4) (fun _ _ => rfl)) pe_int (fun _ _ => rfl))) (pv 3) (nomark _)))))) pa_nil)))), ?_⟩
    obtain ⟨na, n1, n2⟩ := ev_nd (K := K) (σ := start N_list_ready [.ref p, .ref d, iN j, iN m]) (tp := tVar 0) (tj := tVar 2) (ev_var rfl) (ev_var rfl) hB.pl hj
    refine s_ret (ev_allF (xs := nd plan j) (f := fun o => has b o && decide (Mx.fin plan b o ≤ m)) (lc_0 (nd plan j) iN _ (ei_tup n2 (st_of n1)) (by omega) (fun _ => rfl) fun o ho => ev_andV (ev_din (ev_var rfl) (ev_var rfl) (.of hB.bg)) fun hh => ?_)) k
    have hk := Mx.has_iff.mp hh
    exact ev_leN (ev_addN (ev_dget (ev_var rfl) (ev_var rfl) (.of hB.bg) hk) (ev_len (ev_var rfl) (ev_var rfl) hB.pl (hB.lt o hk))) (ev_var rfl)
abbrev s_list_left : Stmt := topS 40
abbrev N_list_left : List Str := ["plan", "begins", "moment", "one"]
theorem sc_list_left : FnScope N_list_left ["plan", "begins", "moment"] (defScope s_list_left) := ⟨rfl, rfl, rfl, by decide +kernel, rfl, by decide +kernel, by decide +kernel⟩
def sp_list_left : Sp := fun vs H Q _ => ∃ (p d : Addr) (plan : Plan) (b : Beg) (m : Nat), vs = [.ref p, .ref d, iN m] ∧ PB H p d plan b ∧ RetL (((ks b).filter fun o => decide (m < Mx.fin plan b o)).map iN) H Q
theorem cal_list_left (D : DefAt K mg "list_left" s_list_left ["plan", "begins", "moment"]) (TX : Txt mg) : Cal P w K mg base 1 "list_left" (sp_list_left) := by
  have hnd := sc_list_left.nd
  refine cal_of D sc_list_left (fun vs H Q E h => ?len) (fun f cdv A outer s H vs Q E hr h => ?body)
  case len => obtain ⟨p, d, plan, b, m, rfl, _⟩ := h; rfl
  case body =>
    obtain ⟨p, d, plan, b, m, rfl, hB, k⟩ := h
    refine ⟨_, (pss_one (ps_ret (pe_lock (pe_lc (own := [("one", 3)]) rfl hnd (pi_keys (pv 1)) (blkOk_by (own := [("one", 3)]) (N := N_list_left) (sc := defScope s_list_left) (by decide +kernel)) (fun _ _ _ _ _ => (pg_name (i := 3) hnd rfl (Or.inl rfl))) (fun _ _ _ _ _ => (pts_one (pt_cmpR op_gt (pe_op op_add (pe_dget (hu_of hr) (pv 1) (pv 3) (fun _ _ => rfl)) (pe_ix (ix_tK K rfl) (pe_ix (ix_tK K rfl) (pv 0) (pv 3) (fun _ _ => rfl)) pe_int (fun _ _ => rfl))) (pv 2) (nomark _)))) (fun _ _ _ _ _ => (pv 3)))))), ?_⟩
    refine s_retL (xs := ((ks b).filter fun o => decide (m < Mx.fin plan b o)).map iN) (el_lock hB.bg True.intro fun od => lc_n (ks b) iN (fun o => decide (m < Mx.fin plan b o)) iN (hB.keys od (ev_var rfl)) hB.kz (fun _ => rfl) (fun o ho => et_test ?_) (fun o ho _ => ev_var rfl)) k
    obtain ⟨PL, BR⟩ := hB.lock od
    exact ev_gtN (ev_addN (ev_dget (ev_var rfl) (ev_var rfl) BR ho) (ev_len (ev_var rfl) (ev_var rfl) PL (hB.lt o ho))) (ev_var rfl)
/-! ### list_begins -/
abbrev s_list_begins : Stmt := topS 39
abbrev N_list_begins : List Str := ["plan", "machines", "room", "order", "begins", "moment", "job", "one"]
theorem sc_list_begins : FnScope N_list_begins ["plan", "machines", "room", "order"] (defScope s_list_begins) := ⟨rfl, rfl, rfl, by decide +kernel, rfl, by decide +kernel, by decide +kernel⟩
structure Lst (H : Hp) (p o : Addr) (plan : Plan) (M R : Nat) (order : List Nat) : Prop where
  as : Asked H p plan M R
  ft : Mx.planFits plan R = true
  tu : H o = some (.tup (order.map iN))
  od : Mx.Ord plan order
  sz : order.length ≤ 1000
theorem Lst.ex {H H' : Hp} {p o : Addr} {plan : Plan} {M R : Nat} {order : List Nat} (e : Ex H H') (h : Lst H p o plan M R order) : Lst H' p o plan M R order := ⟨h.as.ex e, h.ft, e _ _ h.tu, h.od, h.sz⟩
theorem need_len {plan : Plan} (ok : Mx.PlanOk plan) {j : Nat} (hj : j < plan.length) : (nd plan j).length ≤ 1000 := by
  have := Mx.len_sub (A := nd plan j) (B := List.range j) (List.Pairwise.imp (fun h => Nat.ne_of_lt h) (ok.needs j hj).1) (fun x hx => List.mem_range.mpr ((ok.needs j hj).2 x hx))
  rw [List.length_range] at this
  have := ok.hi
  omega
theorem beg_small {plan : Plan} {b : Beg} (hn : (ks b).Nodup) (hl : ∀ o ∈ ks b, o < plan.length) : b.length ≤ plan.length := by
  have := Mx.len_sub hn (B := List.range plan.length) fun x hx => List.mem_range.mpr (hl x hx)
  rw [List.length_range, Mx.ks_len] at this
  exact this
def sp_list_begins : Sp := fun vs H Q _ => ∃ (p o : Addr) (plan : Plan) (M R : Nat) (order : List Nat), vs = [.ref p, iN M, iN R, .ref o] ∧ Lst H p o plan M R order ∧ RetN (.dK (begV (Mx.begins plan M R order))) H Q
theorem cal_list_begins (D : DefAt K mg "list_begins" s_list_begins ["plan", "machines", "room", "order"]) (TX : Txt mg) (C_list_left : Cal P w K mg base 1 "list_left" (sp_list_left)) (C_list_ready : Cal P w K mg base 1 "list_ready" (sp_list_ready)) (C_plan_can_begin : Cal P w K mg base 2 "plan_can_begin" (sp_plan_can_begin)) : Cal P w K mg base 3 "list_begins" (sp_list_begins) := by
  have hnd := sc_list_begins.nd
  refine cal_of D sc_list_begins (fun vs H Q E h => ?len) (fun f cdv A outer s H vs Q E hr h => ?body)
  case len => obtain ⟨p, o, plan, M, R, order, rfl, _⟩ := h; rfl
  case body =>
    obtain ⟨p, o, plan, M, R, order, rfl, hA, k⟩ := h
    refine ⟨_, (pss_cons (ps_asg (pe_tup (pa_cons pe_dnewK (pa_cons pe_int pa_nil))) (pg_tup rfl (pgs_cons (pg_name (i := 4) hnd rfl (Or.inr rfl)) (pgs_cons (pg_name (i := 5) hnd rfl (Or.inl rfl)) pgs_nil))))
      (pss_cons (ps_while PassesOwn.never (pt_cmpR op_lt (pe_callB call_lenD (by rfl) TX.b_len (by decide +kernel) (pa_cons (pv 4) pa_nil)) (pe_callB call_len_seq (by rfl) TX.b_len (by decide +kernel) (pa_cons (pv 0) pa_nil)) (nomark _)) (pss_cons (ps_for PassesOwn.never rfl (pi_tup (pv 3)) (pg_name (i := 6) hnd rfl (Or.inl rfl)) (pss_one (ps_if (PW.pt (pw_and (pt_cmp (pc_dnotin (hu_of hr) (pv 6) (pv 4))) (pw_and1 (pt_val (pe_c C_list_ready hr (by decide) (by rfl) (pa_cons (pv 0) (pa_cons (pv 4) (pa_cons (pv 6) (pa_cons (pv 5) pa_nil))))))))) (pss_one (ps_if (pt_val (pe_c C_plan_can_begin hr (by decide) (by rfl) (pa_cons (pv 0) (pa_cons (pv 4) (pa_cons (pv 6) (pa_cons (pv 5) (pa_cons (pv 1) (pa_cons (pv 2) pa_nil)))))))) (pss_one (ps_dput (hu_of hr) (pv 4) (pv 6) (pv 5) rfl)) pss_nil)) pss_nil)))
      (pss_one (ps_set (i := 5) hnd rfl (Or.inl rfl) (pe_callB (cr_min rfl) (by rfl) TX.b_min (by decide +kernel) (pa_cons (pe_op op_cat (pe_lst (pa_cons (pe_op op_add (pv 5) pe_int) pa_nil)) (pe_lc (own := [("one", 7)]) rfl hnd (pi_list (pe_c C_list_left hr (by decide) (by rfl) (pa_cons (pv 0) (pa_cons (pv 4) (pa_cons (pv 5) pa_nil))))) (blkOk_by (own := [("one", 7)]) (N := N_list_begins) (sc := defScope s_list_begins) (by decide +kernel)) (fun _ _ _ _ _ => (pg_name (i := 7) hnd rfl (Or.inl rfl))) (fun _ _ _ _ _ => pts_nil) (fun _ _ _ _ _ => (pe_op op_add (pe_dget (hu_of hr) (pv 4) (pv 7) (fun _ _ => rfl)) (pe_ix (ix_tK K rfl) (pe_ix (ix_tK K rfl) (pv 0) (pv 7) (fun _ _ => rfl)) pe_int (fun _ _ => rfl)))))) pa_nil))))))
      (pss_one (ps_ret (pv 4))))), ?_⟩
    have ok := hA.as.ok
    have m1 := hA.as.m1
    have hi6 := ok.hi
    refine fun d hd => ⟨sz_of (by show 2 ≤ 100000; decide), fun tA htA => ⟨tA, _, rfl, st_of upd_same, rfl, .ref d, _, rfl, iN 0, _, rfl, rfl, ?_⟩⟩
    have e0 : Ex H (L2.upd (L2.upd H d (.dK [])) tA (.tup [.ref d, iN 0])) := (Ex.new hd).trans (Ex.new htA)
    have hd0 : (L2.upd (L2.upd H d (.dK [])) tA (.tup [.ref d, iN 0])) d = some (.dK []) := Ex.new htA _ _ upd_same
    refine q_while (fun m σ' H' => ∃ (t : Nat) (b : Beg) (u6 : Option V), σ' = [some (.ref p), some (iN M), some (iN R), some (.ref o), some (.ref d), some (iN t), u6, none] ∧ Ex H H' ∧ H' d = some (.dK (begV b)) ∧ ((Mx.LoopL plan M R order t b ∧ m = Mx.total plan + 2 - t) ∨ (¬ b.length < plan.length ∧ b = Mx.begins plan M R order ∧ m = 0)))
      (Mx.total plan + 2) ⟨0, [], none, rfl, e0, hd0, .inl ⟨Mx.LoopL.nil, rfl⟩⟩ ?_
    rintro m σ' H1 ⟨t, b, u6, rfl, e1, hb, hI⟩
    have hA1 := hA.ex e1
    refine ⟨decide (b.length < plan.length), et_test (ev_ltN (ev_lenD (ev_var rfl) hb) (ev_lenP (ev_var rfl) hA1.as.pl)), fun hlt H2 e2 => ?_, fun hlt H2 e2 => ?_⟩
    · have hlt : b.length < plan.length := of_decide_eq_true hlt
      obtain ⟨I, rfl⟩ : Mx.LoopL plan M R order t b ∧ m = Mx.total plan + 2 - t := by
        rcases hI with h | ⟨h, _, _⟩
        · exact h
        · exact absurd hlt h
      refine ⟨_, fun σ2 H2' h => h, ?_⟩
      have e12 := e1.trans e2
      have hA2 := hA.ex e12
      refine q_forTn (ev_var rfl) (st_of hA2.tu) (fun i σ' H' => ∃ u6, σ' = [some (.ref p), some (iN M), some (iN R), some (.ref o), some (.ref d), some (iN t), u6, none] ∧ Ex H H' ∧ H' d = some (.dK (begV (Mx.sweep plan M R t (order.take i) b)))) (fun H3 e3 => ⟨u6, rfl, e12.trans e3, e3 _ _ (e2 _ _ hb)⟩) (fun i σ' H' _ ⟨_, _, e, _⟩ => st_of (e _ _ hA.tu)) ?_ ?_
      · rintro i x σ' H3 hx ⟨u6, rfl, e3, h3⟩
        rw [List.getElem?_map] at hx
        obtain ⟨j, hj0, rfl⟩ := Option.map_eq_some_iff.mp hx
        have hj : j < plan.length := hA.od.lt j (List.mem_of_getElem? hj0)
        have hA3 := hA.ex e3
        have I1 := Mx.LI.sweep (order := order.take i) ok (fun j hj => hA.od.lt j (List.mem_of_mem_take hj)) I.toLI
        have stp : Mx.sweep plan M R t (order.take (i + 1)) b = Mx.stepP plan M R t (Mx.sweep plan M R t (order.take i) b) j := by
          unfold Mx.sweep
          rw [List.take_add_one, hj0, List.foldl_append]
          rfl
        rw [stp]
        generalize Mx.sweep plan M R t (order.take i) b = b1 at h3 I1
        have bz := beg_small I1.nd I1.lt
        have pb : PB H3 p d plan b1 := ⟨hA3.as.pl, h3, I1.lt, by omega⟩
        refine s_when (b := !has b1 j && Mx.readyAt plan b1 j t) (et_and (et_test (ev_dnotin (ev_var rfl) (ev_var rfl) (.of h3))) fun _ => et_B (ev_c1 (ea_cons (ev_var rfl) (ea_cons (ev_var rfl) (ea_cons (ev_var rfl) (ea_cons (ev_var rfl) ea_nil)))) fun H1 e Q q E => ⟨p, d, plan, b1, j, t, rfl, pb.ex e, hj, need_len ok hj, q⟩)) (fun hc H4 e4 => ?_) fun hc H4 e4 => ?_
        · rw [Bool.and_eq_true] at hc
          obtain ⟨c1, c2⟩ := hc
          have c1 : has b1 j = false := by simpa using c1
          refine s_when (b := Mx.canBegin plan b1 j t M R) (et_B (ev_c1 (ea_cons (ev_var rfl) (ea_cons (ev_var rfl) (ea_cons (ev_var rfl) (ea_cons (ev_var rfl) (ea_cons (ev_var rfl) (ea_cons (ev_var rfl) ea_nil)))))) fun H1 e Q q E => ⟨p, d, plan, b1, j, t, M, R, rfl, (pb.ex e4).ex e, hj, q⟩)) (fun c3 H5 e5 => ?_) fun c3 H5 e5 => ?_
          · refine s_dput (e5 _ _ (e4 _ _ h3)) (Mx.has_false.mp c1) (by omega) (ev_var rfl) (ev_var rfl) (ev_var rfl) fun H6 e6 => ⟨_, rfl, Ex.mut (e3.trans ((e4.trans e5).trans e6)) hd, ?_⟩
            rw [upd_same]
            unfold Mx.stepP Mx.acc
            rw [c1, c2, c3]
            rfl
          · refine ⟨_, rfl, e3.trans (e4.trans e5), ?_⟩
            unfold Mx.stepP Mx.acc
            rw [c1, c2, c3]
            exact e5 _ _ (e4 _ _ h3)
        · refine ⟨_, rfl, e3.trans e4, ?_⟩
          have : Mx.stepP plan M R t b1 j = b1 := by
            unfold Mx.stepP Mx.acc
            cases c1 : has b1 j with
            | true => rfl
            | false =>
              rw [c1] at hc
              have c2 : Mx.readyAt plan b1 j t = false := by simpa using hc
              rw [c2]
              rfl
          rw [this]
          exact e4 _ _ h3
      · rintro σ' H3 ⟨u6, rfl, e3, h3⟩
        rw [List.length_map, List.take_length] at h3
        have hA3 := hA.ex e3
        have I1 := Mx.LI.sweep (order := order) ok hA.od.lt I.toLI
        have bz := beg_small I1.nd I1.lt
        have pb : PB H3 p d plan (Mx.sweep plan M R t order b) := ⟨hA3.as.pl, h3, I1.lt, by omega⟩
        have hle := I.toHI.tle hlt
        refine s_asg (v := iN (Mx.nextAt plan (Mx.sweep plan M R t order b) t)) (ev_min (l := (t + 1000) :: ((ks (Mx.sweep plan M R t order b)).filter fun o => decide (t < Mx.fin plan (Mx.sweep plan M R t order b) o)).map (Mx.fin plan (Mx.sweep plan M R t order b))) (by simp) (el_cat (xs := [iN (t + 1000)]) (ys := (((ks (Mx.sweep plan M R t order b)).filter fun o => decide (t < Mx.fin plan (Mx.sweep plan M R t order b) o)).map (Mx.fin plan (Mx.sweep plan M R t order b))).map iN) (EvK.of (el_lst (ea_cons (ev_addN (b := 1000) (ev_var rfl) ev_c) ea_nil) one_le)) (EvK.of ?_) ?_)) fun H4 e4 => ?_
        · rw [List.map_map]
          refine lc_0 _ iN _ (ei_listN (el_c1 (ea_cons (ev_var rfl) (ea_cons (ev_var rfl) (ea_cons (ev_var rfl) ea_nil))) fun H1 e Q q E => ⟨p, d, plan, _, t, rfl, pb.ex e, q⟩)) ?_ (fun _ => rfl) fun q hq => ?_
          · have := List.length_filter_le (fun o => decide (t < Mx.fin plan (Mx.sweep plan M R t order b) o)) (ks (Mx.sweep plan M R t order b))
            have := pb.kz
            omega
          · have hq := (List.mem_filter.mp hq).1
            exact ev_addN (ev_dget (ev_var rfl) (ev_var rfl) (.of h3) hq) (ev_len (ev_var rfl) (ev_var rfl) hA3.as.pl (I1.lt q hq))
        · have := List.length_filter_le (fun o => decide (t < Mx.fin plan (Mx.sweep plan M R t order b) o)) (ks (Mx.sweep plan M R t order b))
          have := pb.kz
          rw [List.length_map, List.length_map, List.length_singleton]
          omega
        · by_cases hs2 : (Mx.sweep plan M R t order b).length < plan.length
          · obtain ⟨J, hgt⟩ := I.jump ok m1 hA.ft hA.od hlt hs2
            exact ⟨Mx.total plan + 2 - Mx.nextAt plan (Mx.sweep plan M R t order b) t, by omega, _, _, _, rfl, e3.trans e4, e4 _ _ h3, .inl ⟨J, rfl⟩⟩
          · exact ⟨0, by omega, _, _, _, rfl, e3.trans e4, e4 _ _ h3, .inr ⟨hs2, I.last ok m1 hA.ft hA.od hlt hs2, rfl⟩⟩
    · have hlt : ¬ b.length < plan.length := of_decide_eq_false hlt
      have hbb : b = Mx.begins plan M R order := by
        rcases hI with ⟨h, _⟩ | ⟨_, h, _⟩
        · exact h.done hlt
        · exact h
      rw [hbb] at hb
      exact s_ret (ev_var rfl) fun H3 e3 => k d H3 hd (e1.trans (e2.trans e3)) (e3 _ _ (e2 _ _ hb))
/-! ### list_ends -/
abbrev s_list_ends : Stmt := topS 41
abbrev N_list_ends : List Str := ["plan", "machines", "room", "order"]
theorem sc_list_ends : FnScope N_list_ends ["plan", "machines", "room", "order"] (defScope s_list_ends) := ⟨rfl, rfl, rfl, by decide +kernel, rfl, by decide +kernel, by decide +kernel⟩
def sp_list_ends : Sp := fun vs H Q _ => ∃ (p o : Addr) (plan : Plan) (M R : Nat) (order : List Nat), vs = [.ref p, iN M, iN R, .ref o] ∧ Lst H p o plan M R order ∧ Ret Q H (iN (Mx.lend plan M R order))
theorem cal_list_ends (D : DefAt K mg "list_ends" s_list_ends ["plan", "machines", "room", "order"]) (TX : Txt mg) (C_list_begins : Cal P w K mg base 3 "list_begins" (sp_list_begins)) (C_plan_end : Cal P w K mg base 1 "plan_end" (sp_plan_end)) (C_plan_fits : Cal P w K mg base 1 "plan_fits" (sp_plan_fits)) : Cal P w K mg base 4 "list_ends" (sp_list_ends) := by
  have hnd := sc_list_ends.nd
  refine cal_of D sc_list_ends (fun vs H Q E h => ?len) (fun f cdv A outer s H vs Q E hr h => ?body)
  case len => obtain ⟨p, o, plan, M, R, order, rfl, _⟩ := h; rfl
  case body =>
    obtain ⟨p, o, plan, M, R, order, rfl, hA, k⟩ := h
    refine ⟨_, (pss_cons (ps_if (pt_not (pt_val (pe_c C_plan_fits hr (by decide) (by rfl) (pa_cons (pv 0) (pa_cons (pv 2) pa_nil))))) (pss_one (ps_ret pe_non)) pss_nil)
      (pss_one (ps_ret (pe_c C_plan_end hr (by decide) (by rfl) (pa_cons (pv 0) (pa_cons (pe_c C_list_begins hr (by decide) (by rfl) (pa_cons (pv 0) (pa_cons (pv 1) (pa_cons (pv 2) (pa_cons (pv 3) pa_nil))))) pa_nil)))))), ?_⟩
    have hi6 := hA.as.ok.hi
    have lo := hA.as.ok.lo
    refine q_when (b := false) (et_is (et_not (et_B (ev_c1 (ea_cons (ev_var rfl) (ea_cons (ev_var rfl) ea_nil)) fun H1 e Q q E => ⟨p, plan, R, rfl, hA.as.pl.ex e, by omega, q⟩))) (by rw [hA.ft]; rfl)) (fun z => nomatch z) fun _ H1 e1 => ?_
    have hA1 := hA.ex e1
    obtain ⟨c, t, I⟩ := Mx.begins_ok hA.as.ok hA.as.m1 hA.ft hA.od
    refine s_ret (ev_cN (ev_var rfl) (en_c (ea_cons (ev_var rfl) (ea_cons (ev_var rfl) (ea_cons (ev_var rfl) (ea_cons (ev_var rfl) ea_nil)))) fun H2 e Q q E => ⟨p, o, plan, M, R, order, rfl, hA1.ex e, q⟩) fun q H2 e2 h2 Q kq E => ⟨p, q, plan, Mx.begins plan M R order, rfl, ⟨hA1.as.pl.ex e2, h2, I.lt, ?_⟩, fun z => ?_, kq⟩) fun H2 e2 => k H2 (e1.trans e2)
    · have := beg_small I.nd I.lt
      omega
    · rw [z, List.length_nil] at c
      omega
/-! ### list_orders, need_few_jobs, list_all -/
abbrev s_list_orders : Stmt := topS 42
abbrev N_list_orders : List Str := ["many", "found", "again", "row", "job"]
theorem sc_list_orders : FnScope N_list_orders ["many"] (defScope s_list_orders) := ⟨rfl, rfl, rfl, by decide +kernel, rfl, by decide +kernel, by decide +kernel⟩
def sp_list_orders : Sp := fun vs H Q _ => ∃ n : Nat, vs = [iN n] ∧ n ≤ 6 ∧ RetLR (fun ws H' => Paired (fun o x => OrdR H' o x) (Mx.ords n) ws) H Q
theorem grow_flat (n : Nat) : ∀ rows : List (List Nat × V), ((rows.flatMap fun x => ((List.range n).filter fun j => !x.1.contains j).map fun y => (x, y)).map fun z => z.1.1 ++ [z.2]) = (rows.map (·.1)).flatMap (Mx.grow n)
  | [] => rfl
  | r :: rs => by
    rw [List.flatMap_cons, List.map_append, grow_flat n rs, List.map_cons, List.flatMap_cons, List.map_map]
    rfl
theorem cal_list_orders (D : DefAt K mg "list_orders" s_list_orders ["many"]) (TX : Txt mg) : Cal P w K mg base 1 "list_orders" (sp_list_orders) := by
  have hnd := sc_list_orders.nd
  refine cal_of D sc_list_orders (fun vs H Q E h => ?len) (fun f cdv A outer s H vs Q E hr h => ?body)
  case len => obtain ⟨n, rfl, _⟩ := h; rfl
  case body =>
    obtain ⟨n, rfl, hn, k⟩ := h
    refine ⟨_, (pss_cons (ps_set (i := 1) hnd rfl (Or.inl rfl) (pe_lst (pa_cons (pe_tup pa_nil) pa_nil)))
      (pss_cons (ps_for PassesOwn.never rfl (pi_range1 (by rfl) TX.b_range (pa_cons (pv 0) pa_nil)) (pg_name (i := 2) hnd rfl (Or.inl rfl)) (pss_one (ps_setLc2 (i := 1) (own := [("row", 3), ("job", 4)]) (vs1 := [4]) rfl hnd rfl rfl (sw_true rfl rfl rfl (by decide +kernel)) (pi_list (pv 1)) (blkOk_by (own := [("row", 3), ("job", 4)]) (N := N_list_orders) (sc := defScope s_list_orders) (by decide +kernel)) (by decide) (fun _ _ _ _ _ => (pg_name (i := 3) hnd rfl (Or.inl rfl))) (fun _ _ _ _ _ => pts_nil) (fun _ _ _ _ _ => (pi_range1 (by rfl) TX.b_range (pa_cons (pv 0) pa_nil))) (fun _ _ _ _ _ => (pg_name (i := 4) hnd rfl (Or.inl rfl))) (fun _ _ _ _ _ => (pts_one (pt_cmpR (op_niK K rfl) (pv 4) (pv 3) (by rfl)))) (fun _ _ _ _ _ => (pe_op (op_catK K rfl) (pv 3) (pe_tup (pa_cons (pv 4) pa_nil)))))))
      (pss_one (ps_ret (pv 1))))), ?_⟩
    refine q_asgL1 en_tup0 fun f0 a0 H1 hf0 e1 h1 h2 => ?_
    refine q_forR1 (n := (n : Int)) (ea_cons (ev_var rfl) ea_nil) (by omega) (fun i σ' H' => ∃ fd u2 ws, σ' = [some (iN n), some (.ref fd), u2, none, none] ∧ Ex H H' ∧ H fd = none ∧ H' fd = some (.lst ws) ∧ Paired (fun o x => OrdR H' o x) (Mx.ordsTo n i) ws)
      (fun H2 e2 => ⟨f0, none, [.ref a0], rfl, e1.trans e2, hf0, e2 _ _ h1, .cons ⟨a0, rfl, e2 _ _ h2⟩ .nil⟩) ?_ ?_
    · rintro i σ' H2 hi ⟨fd, u2, ws, rfl, e2, hfd, g1, g2⟩
      obtain ⟨zs, z1, z2, z3⟩ := paired_zip g2
      have hzl : zs.length = (Mx.ordsTo n i).length := by rw [← z1, List.length_map]
      have small := Mx.ords_small (k := i) hn (by omega)
      have rows : ∀ z ∈ zs, z.1.length ≤ 1000 := fun z hz => by
        have hm : z.1 ∈ Mx.ordsTo n i := by rw [← z1]; exact List.mem_map.mpr ⟨z, hz, rfl⟩
        have := (Mx.ords_ok n i _ hm).len
        omega
      refine s_asgLR (lc2_R zs (·.2) (fun z j => !z.1.contains j) (fun z j v H' => OrdR H' (z.1 ++ [j]) v) (fun _ _ _ _ _ t h => h.tk t) (ei_list (ev_var rfl) (sq_of (by rw [z2]; exact g1))) (by omega) (by omega) (fun _ => rfl) (fun _ _ => rfl) (fun x => ea_cons (ev_var rfl) ea_nil) (fun z hz y hy => ?_) (fun z hz y hy _ => ?_)) fun q xs H3 hq e3 h3 r => ⟨q, _, xs, rfl, e2.trans e3, fresh_back e2 hq, h3, ?_⟩
      · obtain ⟨a, ea, ha⟩ := z3 z hz
        refine et_test (ev_niN (p := a) (ev_var rfl) (ev_is (ev_var rfl) ea) ha)
      · obtain ⟨a, ea, ha⟩ := z3 z hz
        exact er_row (a := a) (ev_is (ev_var rfl) ea) ha (ev_var rfl) (rows z hz)
      · have q := paired_map (f := fun z : (List Nat × V) × Nat => z.1.1 ++ [z.2]) r
        rw [grow_flat, z1] at q
        exact q
    · rintro σ' H2 ⟨fd, u2, ws, rfl, e2, hfd, g1, g2⟩
      exact s_ret (ev_var rfl) fun H3 e3 => k fd ws H3 hfd (e2.trans e3) (e3 _ _ g1) (Paired.mapP g2 fun o x r => r.tk (Tk.of e3))
abbrev s_need_few_jobs : Stmt := topS 43
abbrev N_need_few_jobs : List Str := ["plan"]
theorem sc_need_few_jobs : FnScope N_need_few_jobs ["plan"] (defScope s_need_few_jobs) := ⟨rfl, rfl, rfl, by decide +kernel, rfl, by decide +kernel, by decide +kernel⟩
def sp_need_few_jobs : Sp := fun vs H Q _ => ∃ (p : Addr) (plan : Plan), vs = [.ref p] ∧ PlanAt H p plan ∧ plan.length ≤ 6 ∧ Ret Q H .non
theorem cal_need_few_jobs (D : DefAt K mg "need_few_jobs" s_need_few_jobs ["plan"]) (TX : Txt mg) : Cal P w K mg base 1 "need_few_jobs" (sp_need_few_jobs) := by
  have hnd := sc_need_few_jobs.nd
  refine cal_of D sc_need_few_jobs (fun vs H Q E h => ?len) (fun f cdv A outer s H vs Q E hr h => ?body)
  case len => obtain ⟨p, plan, rfl, _⟩ := h; rfl
  case body =>
    obtain ⟨p, plan, rfl, hP, h6, k⟩ := h
    refine ⟨_, (pss_one (ps_if (pt_cmpR op_gt (pe_callB call_len_seq (by rfl) TX.b_len (by decide +kernel) (pa_cons (pv 0) pa_nil)) (pe_num (by rfl) TX.c_few) (nomark _)) (pss_one ps_never) pss_nil)), ?_⟩
    exact s_when (b := false) (et_is (et_test (ev_gtN (b := 6) (ev_lenP (ev_var rfl) hP) ev_c)) (by simp; omega)) (fun z => nomatch z) fun _ H1 e1 => k H1 e1
abbrev s_list_all : Stmt := topS 44
abbrev N_list_all : List Str := ["plan", "machines", "room", "order"]
theorem sc_list_all : FnScope N_list_all ["plan", "machines", "room"] (defScope s_list_all) := ⟨rfl, rfl, rfl, by decide +kernel, rfl, by decide +kernel, by decide +kernel⟩
def LAll (plan : Plan) (R : Nat) : List (List Nat) := if Mx.planFits plan R = true then Mx.ords plan.length else []
def TldAll (plan : Plan) (M R : Nat) (os : List (List Nat)) (ws : List V) (H : Hp) : Prop := Paired (fun o x => TldR H (Mx.lend plan M R o) o x) os ws
def sp_list_all : Sp := fun vs H Q _ => ∃ (p : Addr) (plan : Plan) (M R : Nat), vs = [.ref p, iN M, iN R] ∧ Asked H p plan M R ∧ RetLR (TldAll plan M R (LAll plan R)) H Q
theorem cal_list_all (D : DefAt K mg "list_all" s_list_all ["plan", "machines", "room"]) (TX : Txt mg) (C_list_ends : Cal P w K mg base 4 "list_ends" (sp_list_ends)) (C_list_orders : Cal P w K mg base 1 "list_orders" (sp_list_orders)) (C_need_few_jobs : Cal P w K mg base 1 "need_few_jobs" (sp_need_few_jobs)) (C_need_plan_asked : Cal P w K mg base 4 "need_plan_asked" (sp_need_plan_asked)) (C_plan_fits : Cal P w K mg base 1 "plan_fits" (sp_plan_fits)) : Cal P w K mg base 5 "list_all" (sp_list_all) := by
  have hnd := sc_list_all.nd
  refine cal_of D sc_list_all (fun vs H Q E h => ?len) (fun f cdv A outer s H vs Q E hr h => ?body)
  case len => obtain ⟨p, plan, M, R, rfl, _⟩ := h; rfl
  case body =>
    obtain ⟨p, plan, M, R, rfl, hA, k⟩ := h
    refine ⟨_, (pss_cons (ps_expr (pe_c C_need_plan_asked hr (by decide) (by rfl) (pa_cons (pv 0) (pa_cons (pv 1) (pa_cons (pv 2) pa_nil)))))
      (pss_cons (ps_expr (pe_c C_need_few_jobs hr (by decide) (by rfl) (pa_cons (pv 0) pa_nil)))
      (pss_cons (ps_if (pt_not (pt_val (pe_c C_plan_fits hr (by decide) (by rfl) (pa_cons (pv 0) (pa_cons (pv 2) pa_nil))))) (pss_one (ps_ret (pe_lst pa_nil))) pss_nil)
      (pss_one (ps_ret (pe_lc (own := [("order", 3)]) rfl hnd (pi_list (pe_c C_list_orders hr (by decide) (by rfl) (pa_cons (pe_callB call_len_seq (by rfl) TX.b_len (by decide +kernel) (pa_cons (pv 0) pa_nil)) pa_nil))) (blkOk_by (own := [("order", 3)]) (N := N_list_all) (sc := defScope s_list_all) (by decide +kernel)) (fun _ _ _ _ _ => (pg_name (i := 3) hnd rfl (Or.inl rfl))) (fun _ _ _ _ _ => pts_nil) (fun _ _ _ _ _ => (pe_tup (pa_cons (pe_c C_list_ends hr (by decide) (by rfl) (pa_cons (pv 0) (pa_cons (pv 1) (pa_cons (pv 2) (pa_cons (pv 3) pa_nil))))) (pa_cons (pv 3) pa_nil)))))))))), ?_⟩
    have hi6 := hA.ok.hi
    refine q_drop (ev_c1 (ea_cons (ev_var rfl) (ea_cons (ev_var rfl) (ea_cons (ev_var rfl) ea_nil))) fun H1 e Q q E => ⟨p, plan, M, R, rfl, hA.ex e, q⟩) fun H1 e1 => ?_
    refine q_drop (ev_c1 (ea_cons (ev_var rfl) ea_nil) fun H2 e Q q E => ⟨p, plan, rfl, (hA.ex e1).pl.ex e, hi6, q⟩) fun H2 e2 => ?_
    have hA2 := hA.ex (e1.trans e2)
    refine q_when (et_not (et_B (ev_c1 (ea_cons (ev_var rfl) (ea_cons (ev_var rfl) ea_nil)) fun H3 e Q q E => ⟨p, plan, R, rfl, hA2.pl.ex e, by omega, q⟩))) (fun hb H3 e3 => ?_) fun hb H3 e3 => ?_
    · have hF : Mx.planFits plan R = false := by simpa using hb
      refine s_retL (xs := []) (el_lst ea_nil (by show 0 ≤ 100000; decide)) fun q H4 hq e4 h4 => k q [] H4 (fresh_back ((e1.trans e2).trans e3) hq) (((e1.trans e2).trans e3).trans e4) h4 ?_
      unfold TldAll LAll
      rw [hF]
      exact .nil
    · have hF : Mx.planFits plan R = true := by simpa using hb
      have e13 := (e1.trans e2).trans e3
      have hA3 := hA.ex e13
      refine s_retLR (R := TldAll plan M R (LAll plan R)) (lc_over (el_cR (ea_cons (ev_lenP (ev_var rfl) hA3.pl) ea_nil) fun H4 e Q q E => ⟨plan.length, rfl, hi6, q⟩) fun q ws H4 e4 h4 r => ?_) fun q xs H4 hq e4 h4 r => k q xs H4 (fresh_back e13 hq) (e13.trans e4) h4 r
      obtain ⟨zs, z1, z2, z3⟩ := paired_zip r
      have hzl : zs.length = (Mx.ords plan.length).length := by rw [← z1, List.length_map]
      have small := Mx.ords_small (k := plan.length) hi6 (Nat.le_refl _)
      have small : (Mx.ords plan.length).length ≤ 720 := small
      have hA4 := hA3.ex e4
      refine EvLR.imp (lc_R (te := _) zs (·.2) (fun _ => true) (fun z => (wipe (start N_list_all [.ref p, iN M, iN R]) [3]).set 3 (some z.2)) (fun z v H' => TldR H' (Mx.lend plan M R z.1) z.1 v) (fun _ _ _ _ t h => h.tk t) (ei_list ev_c (sq_of (by rw [z2]; exact h4))) (by omega) (fun z hz H1 _ Q q => q H1 (Ex.refl H1)) (fun z hz => rfl) (fun z hz => et_yes) (fun z hz _ => ?_)) fun xs H5 e5 pr => ?_
      · obtain ⟨a, ea, ha⟩ := z3 z hz
        have hm : z.1 ∈ Mx.ords plan.length := by rw [← z1]; exact List.mem_map.mpr ⟨z, hz, rfl⟩
        have hl := (Mx.ords_ok _ _ _ hm).len
        refine er_told (a := a) (ev_c1 (ea_cons (ev_var rfl) (ea_cons (ev_var rfl) (ea_cons (ev_var rfl) (ea_cons (ev_is (ev_var rfl) ea) ea_nil)))) fun H5 e Q q E => ⟨p, a, plan, M, R, z.1, rfl, ⟨hA4.ex e, hF, e _ _ ha, Mx.ords_ord hm, by omega⟩, q⟩) (ev_is (ev_var rfl) ea) ha
      · rw [filter_yes] at pr
        unfold TldAll LAll
        rw [if_pos hF, ← z1]
        exact paired_map pr
/-! ### worst_order, best_order, list_count -/
abbrev s_worst_order : Stmt := topS 45
abbrev N_worst_order : List Str := ["plan", "machines", "room", "found", "most", "end", "order", "told"]
theorem sc_worst_order : FnScope N_worst_order ["plan", "machines", "room"] (defScope s_worst_order) := ⟨rfl, rfl, rfl, by decide +kernel, rfl, by decide +kernel, by decide +kernel⟩
def worstO (plan : Plan) (M R : Nat) : List Nat := pickO (Mx.lend plan M R) ((Mx.ords plan.length).filter fun o => decide (Mx.lend plan M R o = Mx.maxL ((Mx.ords plan.length).map (Mx.lend plan M R))))
def bestO (plan : Plan) (M R : Nat) : List Nat := pickO (Mx.lend plan M R) (Mx.ords plan.length)
theorem ords_ne' (n : Nat) : Mx.ords n ≠ [] := Mx.ords_ne n n (Nat.le_refl _)
theorem worst_ne (plan : Plan) (M R : Nat) : ((Mx.ords plan.length).filter fun o => decide (Mx.lend plan M R o = Mx.maxL ((Mx.ords plan.length).map (Mx.lend plan M R)))) ≠ [] := by
  obtain ⟨o, ho, e⟩ := List.mem_map.mp (Mx.maxL_mem (l := (Mx.ords plan.length).map (Mx.lend plan M R)) (fun z => ords_ne' plan.length (List.map_eq_nil_iff.mp z)))
  exact List.ne_nil_of_mem (a := o) (List.mem_filter.mpr ⟨ho, by simp [e]⟩)
def sp_worst_order : Sp := fun vs H Q _ => ∃ (p : Addr) (plan : Plan) (M R : Nat), vs = [.ref p, iN M, iN R] ∧ Asked H p plan M R ∧ (Mx.planFits plan R = false → Ret Q H .non) ∧ (Mx.planFits plan R = true → RetR (fun v H' => TldR H' (Mx.lend plan M R (worstO plan M R)) (worstO plan M R) v) H Q)
theorem told_void {plan : Plan} {M R : Nat} {ws : List V} {H : Hp} (h : TldAll plan M R (LAll plan R) ws H) : ws.isEmpty = !Mx.planFits plan R := by
  have hl := Paired.length h
  cases hF : Mx.planFits plan R with
  | false =>
    unfold LAll at hl
    rw [hF] at hl
    simp at hl
    have : ws = [] := List.eq_nil_of_length_eq_zero hl.symm
    rw [this]
    rfl
  | true =>
    unfold LAll at hl
    rw [if_pos hF] at hl
    cases ws with
    | nil => exact absurd (List.eq_nil_of_length_eq_zero hl) (ords_ne' _)
    | cons x r => rfl
theorem told_yes {plan : Plan} {M R : Nat} {ws : List V} {H : Hp} (hF : Mx.planFits plan R = true) (h : TldAll plan M R (LAll plan R) ws H) : Paired (fun o x => TldR H (Mx.lend plan M R o) o x) (Mx.ords plan.length) ws := by
  unfold TldAll LAll at h
  rw [if_pos hF] at h
  exact h
/-- [end for end, order in found] -/
theorem el_ends {σ : L2.St} {H : Hp} {tl : TE} {i j p : Nat} {f : List Nat → Nat} {os : List (List Nat)} {ws : List V} (hx : Ev tl σ H (.ref p)) (hp : H p = some (.lst ws)) (h : Paired (fun o x => TldR H (f o) o x) os ws) (hz : os.length ≤ 40000)
    (hw : ∀ x y, wipe (((wipe σ [i, j]).set i (some x)).set j (some y)) [i, j] = wipe σ [i, j]) (hv : ∀ x y, (((wipe σ [i, j]).set i (some x)).set j (some y))[i]? = some (some x)) :
    EvL (tLc (iList K tl) (gTup K 2 (gCons (gName i) (gCons (gName j) gNil))) tYes (tVar i) [i, j]) σ H ((os.map f).map iN) := by
  obtain ⟨zs, h1, h2, h3⟩ := paired_zip h
  subst h1 h2
  obtain ⟨af, haf⟩ := Classical.skolem.mp (show ∀ z : List Nat × V, ∃ a : Addr, z ∈ zs → ∃ t, z.2 = .ref t ∧ H t = some (.tup [iN (f z.1), .ref a]) from fun z => by
    by_cases hz : z ∈ zs
    · obtain ⟨t, a, e1, e2, _⟩ := h3 z hz
      exact ⟨a, fun _ => ⟨t, e1, e2⟩⟩
    · exact ⟨0, fun q => absurd q hz⟩)
  have q := lc_V (t := tYes) (te := tVar i) (σ := σ) (H := H) (wi := iList K tl) (g := gTup K 2 (gCons (gName i) (gCons (gName j) gNil))) (vs := [i, j]) zs (·.2) (fun _ => true) (fun z => iN (f z.1)) (fun z => ((wipe σ [i, j]).set i (some (iN (f z.1)))).set j (some (.ref (af z)))) (ei_list hx (sq_of hp)) (by rw [List.length_map] at hz; exact hz)
    (fun z hz H1 e Q q => by
      obtain ⟨t, e1, e2⟩ := haf z hz
      refine ⟨t, _, e1, st_of (e _ _ e2), rfl, _, _, rfl, _, _, rfl, rfl, q H1 (Ex.refl H1)⟩)
    (fun z hz => hw _ _) (fun z hz => et_yes) (fun z hz _ => ev_var (hv _ _))
  rw [filter_yes] at q
  rw [List.map_map, List.map_map]
  exact q
theorem cal_worst_order (D : DefAt K mg "worst_order" s_worst_order ["plan", "machines", "room"]) (TX : Txt mg) (C_list_all : Cal P w K mg base 5 "list_all" (sp_list_all)) : Cal P w K mg base 6 "worst_order" (sp_worst_order) := by
  have hnd := sc_worst_order.nd
  refine cal_of D sc_worst_order (fun vs H Q E h => ?len) (fun f cdv A outer s H vs Q E hr h => ?body)
  case len => obtain ⟨p, plan, M, R, rfl, _⟩ := h; rfl
  case body =>
    obtain ⟨p, plan, M, R, rfl, hA, k1, k2⟩ := h
    refine ⟨_, (pss_cons (ps_set (i := 3) hnd rfl (Or.inl rfl) (pe_c C_list_all hr (by decide) (by rfl) (pa_cons (pv 0) (pa_cons (pv 1) (pa_cons (pv 2) pa_nil)))))
      (pss_cons (ps_if (pt_cmpR (op_eqL0 hr.units0) (pv 3) (pe_lst pa_nil) (nomark _)) (pss_one (ps_ret pe_non)) pss_nil)
      (pss_cons (ps_set (i := 4) hnd rfl (Or.inr rfl) (pe_callB (cr_max rfl) (by rfl) TX.b_max (by decide +kernel) (pa_cons (pe_lc (own := [("end", 5), ("order", 6)]) rfl hnd (pi_list (pv 3)) (blkOk_by (own := [("end", 5), ("order", 6)]) (N := N_worst_order) (sc := defScope s_worst_order) (by decide +kernel)) (fun _ _ _ _ _ => (pg_tupK K 2 rfl rfl (pgs_cons (pg_name (i := 5) hnd rfl (Or.inl rfl)) (pgs_cons (pg_name (i := 6) hnd rfl (Or.inl rfl)) pgs_nil)))) (fun _ _ _ _ _ => pts_nil) (fun _ _ _ _ _ => (pv 5))) pa_nil)))
      (pss_one (ps_ret (pe_callB (cr_minD rfl hr.units) (by rfl) TX.b_min (by decide +kernel) (pa_cons (pe_lc (own := [("told", 7)]) rfl hnd (pi_list (pv 3)) (blkOk_by (own := [("told", 7)]) (N := N_worst_order) (sc := defScope s_worst_order) (by decide +kernel)) (fun _ _ _ _ _ => (pg_name (i := 7) hnd rfl (Or.inl rfl))) (fun _ _ _ _ _ => (pts_one (pt_cmpR op_eq (pe_ix (ix_tK K rfl) (pv 7) pe_int (fun _ _ => rfl)) (pv 4) (nomark _)))) (fun _ _ _ _ _ => (pv 7))) pa_nil))))))), ?_⟩
    have hi6 := hA.ok.hi
    refine q_asgLR (el_cR (ea_cons (ev_var rfl) (ea_cons (ev_var rfl) (ea_cons (ev_var rfl) ea_nil))) fun H1 e Q q E => ⟨p, plan, M, R, rfl, hA.ex e, q⟩) fun q ws H1 hq e1 h1 r => ?_
    refine q_when (b := !Mx.planFits plan R) (et_is (et_void (x := .non) (ev_var rfl) h1) (told_void r)) (fun hb H2 e2 => ?_) fun hb H2 e2 => ?_
    · have hF : Mx.planFits plan R = false := by simpa using hb
      exact s_ret ev_c fun H3 e3 => k1 hF H3 ((e1.trans e2).trans e3)
    · have hF : Mx.planFits plan R = true := by simpa using hb
      have r2 := Paired.mapP (told_yes hF r) fun o x r => r.tk (Tk.of e2)
      have small : (Mx.ords plan.length).length ≤ 720 := Mx.ords_small (k := plan.length) hi6 (Nat.le_refl _)
      refine q_asg (v := iN (Mx.maxL ((Mx.ords plan.length).map (Mx.lend plan M R)))) (ev_max (fun z => ords_ne' plan.length (List.map_eq_nil_iff.mp z)) (el_ends (ev_var rfl) (e2 _ _ h1) r2 (by omega) (fun _ _ => rfl) (fun _ _ => rfl))) fun H3 e3 => ?_
      have r3 := Paired.mapP r2 fun o x r => r.tk (Tk.of e3)
      refine s_retR (er_minL (worst_ne plan M R) (el_those (fun o => decide (Mx.lend plan M R o = Mx.maxL ((Mx.ords plan.length).map (Mx.lend plan M R)))) (ev_var rfl) (e3 _ _ (e2 _ _ h1)) r3 (by omega) (fun _ => rfl) (fun o x h => ?_) (fun x => ev_var rfl))) fun v H4 e4 hv => k2 hF v H4 (((e1.trans e2).trans e3).trans e4) hv
      obtain ⟨t, a, rfl, g1, g2⟩ := h
      exact et_test (ev_is (ev_op (ev_op (ev_var rfl) (ev_c (v := .int ((0 : Nat) : Int))) (rv_ixT (st_of g1) (atI_nat rfl))) (ev_var rfl) (rv_eq rfl)) (by rw [dec_iN]))
abbrev s_best_order : Stmt := topS 46
abbrev N_best_order : List Str := ["plan", "machines", "room", "found"]
theorem sc_best_order : FnScope N_best_order ["plan", "machines", "room"] (defScope s_best_order) := ⟨rfl, rfl, rfl, by decide +kernel, rfl, by decide +kernel, by decide +kernel⟩
def sp_best_order : Sp := fun vs H Q _ => ∃ (p : Addr) (plan : Plan) (M R : Nat), vs = [.ref p, iN M, iN R] ∧ Asked H p plan M R ∧ (Mx.planFits plan R = false → Ret Q H .non) ∧ (Mx.planFits plan R = true → RetR (fun v H' => TldR H' (Mx.lend plan M R (bestO plan M R)) (bestO plan M R) v) H Q)
theorem cal_best_order (D : DefAt K mg "best_order" s_best_order ["plan", "machines", "room"]) (TX : Txt mg) (C_list_all : Cal P w K mg base 5 "list_all" (sp_list_all)) : Cal P w K mg base 6 "best_order" (sp_best_order) := by
  have hnd := sc_best_order.nd
  refine cal_of D sc_best_order (fun vs H Q E h => ?len) (fun f cdv A outer s H vs Q E hr h => ?body)
  case len => obtain ⟨p, plan, M, R, rfl, _⟩ := h; rfl
  case body =>
    obtain ⟨p, plan, M, R, rfl, hA, k1, k2⟩ := h
    refine ⟨_, (pss_cons (ps_set (i := 3) hnd rfl (Or.inl rfl) (pe_c C_list_all hr (by decide) (by rfl) (pa_cons (pv 0) (pa_cons (pv 1) (pa_cons (pv 2) pa_nil)))))
      (pss_one (ps_ret (pe_ifExp (pt_cmpR (op_neL0 hr.units0) (pv 3) (pe_lst pa_nil) (nomark _)) (pe_callB (cr_minD rfl hr.units) (by rfl) TX.b_min (by decide +kernel) (pa_cons (pv 3) pa_nil)) pe_non)))), ?_⟩
    refine q_asgLR (el_cR (ea_cons (ev_var rfl) (ea_cons (ev_var rfl) (ea_cons (ev_var rfl) ea_nil))) fun H1 e Q q E => ⟨p, plan, M, R, rfl, hA.ex e, q⟩) fun q ws H1 hq e1 h1 r => ?_
    cases hF : Mx.planFits plan R with
    | false =>
      refine s_ret (v := .non) (ev_if (b := false) (et_is (et_full (ev_var rfl) h1) (by rw [told_void r, hF]; rfl)) (fun z => nomatch z) fun _ => ev_c) fun H3 e3 => k1 hF H3 (e1.trans e3)
    | true =>
      refine s_retR (er_ifT (et_is (et_full (ev_var rfl) h1) (by rw [told_void r, hF]; rfl)) (er_min (ords_ne' plan.length) (ev_var rfl) h1 (told_yes hF r))) fun v H4 e4 hv => k2 hF v H4 (e1.trans e4) hv
abbrev s_list_count : Stmt := topS 47
abbrev N_list_count : List Str := ["plan", "machines", "room", "end", "told"]
theorem sc_list_count : FnScope N_list_count ["plan", "machines", "room", "end"] (defScope s_list_count) := ⟨rfl, rfl, rfl, by decide +kernel, rfl, by decide +kernel, by decide +kernel⟩
def countO (plan : Plan) (M R e : Nat) : Nat := ((LAll plan R).filter fun o => decide (Mx.lend plan M R o ≤ e)).length
def sp_list_count : Sp := fun vs H Q _ => ∃ (p : Addr) (plan : Plan) (M R e : Nat), vs = [.ref p, iN M, iN R, iN e] ∧ Asked H p plan M R ∧ e ≤ 1000 ∧ Ret Q H (iN (countO plan M R e))
theorem all_small {plan : Plan} {R : Nat} (h : plan.length ≤ 6) : (LAll plan R).length ≤ 720 := by
  unfold LAll
  split
  · exact Mx.ords_small (k := plan.length) h (Nat.le_refl _)
  · exact Nat.zero_le _
theorem cal_list_count (D : DefAt K mg "list_count" s_list_count ["plan", "machines", "room", "end"]) (TX : Txt mg) (C_list_all : Cal P w K mg base 5 "list_all" (sp_list_all)) (C_need_plan_asked : Cal P w K mg base 4 "need_plan_asked" (sp_need_plan_asked)) (C_need_plan_end : Cal P w K mg base 2 "need_plan_end" (sp_need_plan_end)) : Cal P w K mg base 6 "list_count" (sp_list_count) := by
  have hnd := sc_list_count.nd
  refine cal_of D sc_list_count (fun vs H Q E h => ?len) (fun f cdv A outer s H vs Q E hr h => ?body)
  case len => obtain ⟨p, plan, M, R, e, rfl, _⟩ := h; rfl
  case body =>
    obtain ⟨p, plan, M, R, en, rfl, hA, hen, k⟩ := h
    refine ⟨_, (pss_cons (ps_expr (pe_c C_need_plan_asked hr (by decide) (by rfl) (pa_cons (pv 0) (pa_cons (pv 1) (pa_cons (pv 2) pa_nil)))))
      (pss_cons (ps_expr (pe_c C_need_plan_end hr (by decide) (by rfl) (pa_cons (pv 3) pa_nil)))
      (pss_one (ps_ret (pe_callB call_len_seq (by rfl) TX.b_len (by decide +kernel) (pa_cons (pe_lc (own := [("told", 4)]) rfl hnd (pi_list (pe_c C_list_all hr (by decide) (by rfl) (pa_cons (pv 0) (pa_cons (pv 1) (pa_cons (pv 2) pa_nil))))) (blkOk_by (own := [("told", 4)]) (N := N_list_count) (sc := defScope s_list_count) (by decide +kernel)) (fun _ _ _ _ _ => (pg_name (i := 4) hnd rfl (Or.inl rfl))) (fun _ _ _ _ _ => (pts_one (pt_cmpR op_le (pe_ix (ix_tK K rfl) (pv 4) pe_int (fun _ _ => rfl)) (pv 3) (nomark _)))) (fun _ _ _ _ _ => (pv 4))) pa_nil)))))), ?_⟩
    have hi6 := hA.ok.hi
    refine q_drop (ev_c1 (ea_cons (ev_var rfl) (ea_cons (ev_var rfl) (ea_cons (ev_var rfl) ea_nil))) fun H1 e Q q E => ⟨p, plan, M, R, rfl, hA.ex e, q⟩) fun H1 e1 => ?_
    refine q_drop (ev_c1 (ea_cons (ev_var rfl) ea_nil) fun H2 e Q q E => ⟨en, rfl, hen, q⟩) fun H2 e2 => ?_
    have e12 := e1.trans e2
    have hA2 := hA.ex e12
    have small := all_small (R := R) hi6
    refine s_ret (ev_lenLR (R := fun ws' H' => Paired (fun o x => TldR H' (Mx.lend plan M R o) o x) ((LAll plan R).filter fun o => decide (Mx.lend plan M R o ≤ en)) ws') (lc_over (el_cR (ea_cons (ev_var rfl) (ea_cons (ev_var rfl) (ea_cons (ev_var rfl) ea_nil))) fun H3 e Q q E => ⟨p, plan, M, R, rfl, hA2.ex e, q⟩) fun q ws H3 e3 h3 r => ?_) fun xs H3 e3 r => (Paired.length r).symm) fun H3 e3 => k H3 (e12.trans e3)
    refine el_those (fun o => decide (Mx.lend plan M R o ≤ en)) ev_c h3 r (by omega) (fun _ => rfl) (fun o x h => ?_) (fun x => ev_var rfl)
    obtain ⟨t, a, rfl, g1, g2⟩ := h
    exact et_test (ev_leN (ev_op (ev_var rfl) (ev_c (v := .int ((0 : Nat) : Int))) (rv_ixT (st_of g1) (atI_nat rfl))) (ev_var rfl))
end
end Wk
end

section
set_option Elab.async false
set_option linter.all false
set_option maxRecDepth 100000
set_option maxHeartbeats 4000000
namespace Wk
open PySem PySem.Spec PyProof.Rows L2 Evl
open Mx (Plan Beg Job jb ln nd rm ks look has T)
/-! ## the source of numbers: a list with a list in it, which changes -/
structure HS (H : Hp) (a l : Addr) : Prop where
  ex : ∃ (s : Int) (cells : List Int) (i : Int), H a = some (.lst [.int s, .ref l, .int i]) ∧ 0 ≤ i ∧ H l = some (.lst (cells.map V.int)) ∧ cells.length ≤ 63
theorem HS.up {H H' : Hp} {a l : Addr} (e : Ex H H') (h : HS H a l) : HS H' a l := by
  obtain ⟨s, c, i, h1, h2, h3, h4⟩ := h.ex
  exact ⟨s, c, i, e _ _ h1, h2, e _ _ h3, h4⟩
def rst (H : Hp) (a l : Addr) : Hp := fun b => if b = a ∨ b = l then none else H b
def Sx (a l : Addr) (H H' : Hp) : Prop := Ex (rst H a l) H'
theorem rst_ex {H : Hp} {a l : Addr} : Ex (rst H a l) H := fun b o h => by
  unfold rst at h
  split at h
  · cases h
  · exact h
theorem rst_at {H : Hp} {a l b : Addr} {o : HO} (h : H b = some o) (h1 : b ≠ a) (h2 : b ≠ l) : rst H a l b = some o := by
  unfold rst
  rw [if_neg (by simp [h1, h2])]
  exact h
theorem rst_ne {H : Hp} {a l b : Addr} {o : HO} (h : rst H a l b = some o) : b ≠ a ∧ b ≠ l ∧ H b = some o := by
  unfold rst at h
  split at h
  · cases h
  · rename_i q
    exact ⟨fun z => q (.inl z), fun z => q (.inr z), h⟩
theorem Sx.refl (a l : Addr) (H : Hp) : Sx a l H H := rst_ex
theorem Sx.of {a l : Addr} {H H' : Hp} (e : Ex H H') : Sx a l H H' := rst_ex.trans e
theorem Sx.rs {a l : Addr} {H H' : Hp} (h : Sx a l H H') : Ex (rst H a l) (rst H' a l) := fun b o hb => by
  obtain ⟨h1, h2, _⟩ := rst_ne hb
  exact rst_at (h b o hb) h1 h2
theorem Sx.trans {a l : Addr} {H H1 H2 : Hp} (h : Sx a l H H1) (h2 : Sx a l H1 H2) : Sx a l H H2 := h.rs.trans h2
theorem Sx.mut {a l : Addr} {H H' : Hp} {p : Addr} {o : HO} (e : Sx a l H H') (h : H p = none) : Sx a l H (upd H' p o) := Ex.mut e (by
  unfold rst
  split
  · rfl
  · exact h)
theorem HS.ne {H : Hp} {a l p : Addr} (h : HS H a l) (hp : H p = none) : p ≠ a ∧ p ≠ l := by
  obtain ⟨s, c, i, h1, _, h3, _⟩ := h.ex
  exact ⟨fun z => (by rw [z, h1] at hp; cases hp), fun z => (by rw [z, h3] at hp; cases hp)⟩
theorem Sx.back {a l : Addr} {H H' : Hp} {p : Addr} (e : Sx a l H H') (hs : HS H' a l) (h : H' p = none) : H p = none := by
  obtain ⟨n1, n2⟩ := hs.ne h
  have q := fresh_back e h
  unfold rst at q
  rw [if_neg (by simp [n1, n2])] at q
  exact q
theorem HS.upd {H : Hp} {a l p : Addr} {o : HO} (h : HS H a l) (h1 : p ≠ a) (h2 : p ≠ l) : HS (L2.upd H p o) a l := by
  obtain ⟨s, c, i, g1, g2, g3, g4⟩ := h.ex
  exact ⟨s, c, i, by rw [upd_ne (Ne.symm h1)]; exact g1, g2, by rw [upd_ne (Ne.symm h2)]; exact g3, g4⟩
theorem HS.al {H : Hp} {a l : Addr} (h : HS H a l) : a ≠ l := fun z => by
  subst z
  obtain ⟨s, c, i, g1, g2, g3, g4⟩ := h.ex
  rw [g1] at g3
  injection g3 with g3
  injection g3 with g3
  match c, g3 with
  | [], g3 => simp at g3
  | [_], g3 => simp at g3
  | x :: y :: r, g3 => simp at g3
/-- what is a tuple is not the source -/
theorem HS.tup {H : Hp} {a l b : Addr} {xs : List V} (h : HS H a l) (hb : H b = some (.tup xs)) : rst H a l b = some (.tup xs) := by
  obtain ⟨s, c, i, g1, g2, g3, g4⟩ := h.ex
  exact rst_at hb (fun z => by rw [z, g1] at hb; cases hb) (fun z => by rw [z, g3] at hb; cases hb)
def EvS (a l : Addr) (te : TE) (σ : L2.St) (H : Hp) (R : V → Hp → Prop) : Prop := ∀ H1, Sx a l H H1 → HS H1 a l → ∀ Q : VK, (∀ v H2, Sx a l H1 H2 → HS H2 a l → R v H2 → Q v H2) → te σ H1 Q
abbrev EsN (a l : Addr) (te : TE) (σ : L2.St) (H : Hp) (P : Nat → Prop) : Prop := EvS a l te σ H fun v _ => ∃ n, P n ∧ v = iN n
section
variable {K : PySem.W.Frag} {σ : L2.St} {H H' : Hp} {a l : Addr} {ta tb tc te tx th tl t1 t2 t3 : TE} {ti : TA} {t : TT} {g : TG} {tz tu : TS} {D : L2.Ends}
theorem es_of {v : V} (h : Ev te σ (rst H a l) v) : EvS a l te σ H fun w _ => w = v := fun H1 e hs Q q => h H1 e Q fun H2 e2 => q v H2 (Sx.of e2) (hs.up e2) rfl
theorem es_N {n : Nat} {P : Nat → Prop} (h : Ev te σ (rst H a l) (iN n)) (hp : P n) : EsN a l te σ H P := fun H1 e hs Q q => h H1 e Q fun H2 e2 => q _ H2 (Sx.of e2) (hs.up e2) ⟨n, hp, rfl⟩
theorem EvS.imp {R R' : V → Hp → Prop} (h : EvS a l te σ H R) (f : ∀ v H1, Sx a l H H1 → HS H1 a l → R v H1 → R' v H1) : EvS a l te σ H R' := fun H1 e hs Q q => h H1 e hs Q fun v H2 e2 hs2 r => q v H2 e2 hs2 (f v H2 (e.trans e2) hs2 r)
theorem es_add {P : Nat → Prop} {k : Nat} (h : EsN a l tb σ H P) : EsN a l (tOp (rI0 fun i j => V.int (i + j)) (tC (iN k)) tb) σ H fun n => ∃ m, P m ∧ n = k + m := fun H1 e hs Q q =>
  h H1 e hs _ fun v H2 e2 hs2 ⟨m, hm, ev⟩ => ⟨(k : Int), (m : Int), rfl, ev, by
    have e0 : (k : Int) + (m : Int) = ((k + m : Nat) : Int) := by omega
    show Q (V.int ((k : Int) + (m : Int))) H2
    rw [e0]
    exact q _ H2 e2 hs2 ⟨k + m, ⟨m, hm, rfl⟩, rfl⟩⟩
theorem es_if {R : V → Hp → Prop} {b : Bool} (h : EvT t σ (rst H a l) b) (h1 : b = true → EvS a l ta σ H R) (h2 : b = false → EvS a l tb σ H R) : EvS a l (tIf t ta tb) σ H R := fun H1 e hs Q q => h H1 e _ fun H2 e2 => by
  cases b with
  | true =>
    show ta σ H2 Q
    exact h1 rfl H2 (e.trans (Sx.of e2)) (hs.up e2) Q fun v H3 e3 hs3 r => q v H3 ((Sx.of e2).trans e3) hs3 r
  | false =>
    show tb σ H2 Q
    exact h2 rfl H2 (e.trans (Sx.of e2)) (hs.up e2) Q fun v H3 e3 hs3 r => q v H3 ((Sx.of e2).trans e3) hs3 r
theorem q_asgS {i : Nat} {R : V → Hp → Prop} (hs : HS H a l) (h : EvS a l te σ H R) (k : ∀ v H1, Sx a l H H1 → HS H1 a l → R v H1 → tz D (σ.set i (some v)) H1) : tSeq (tAsg te (gName i)) tz D σ H := h H (Sx.refl a l H) hs _ k
/-- a call: the source, then a value read off it or not -/
theorem es_c {sp : Sp} {P : Nat → Prop} {R : V → Hp → Prop} (hh : Ev th σ (rst H a l) (.ref a)) (h : EsN a l tb σ H P) (hs : ∀ n H1, Sx a l H H1 → HS H1 a l → P n → ∀ Q : VK, (∀ v H2, Sx a l H1 H2 → HS H2 a l → R v H2 → Q v H2) → ∀ E : XK, sp [.ref a, iN n] H1 Q E) : EvS a l (tCall sp [] E0 (tCons th (tCons tb tNil))) σ H R := fun H1 e h1 Q q =>
  hh H1 e _ fun H2 e2 => h H2 (e.trans (Sx.of e2)) (h1.up e2) _ fun v H3 e3 h3 ⟨n, hn, ev⟩ => by
    subst ev
    exact hs n H3 ((e.trans (Sx.of e2)).trans e3) h3 hn Q (fun v H4 e4 h4 r => q v H4 (((Sx.of e2).trans e3).trans e4) h4 r) _
/-- a call: the source, a new list -/
theorem es_cL {sp : Sp} {xs : List V} {R : V → Hp → Prop} (hh : Ev th σ (rst H a l) (.ref a)) (h : EvL tl σ (rst H a l) xs) (hs : ∀ p H1, Sx a l H H1 → HS H1 a l → rst H1 a l p = some (.lst xs) → ∀ Q : VK, (∀ v H2, Sx a l H1 H2 → HS H2 a l → R v H2 → Q v H2) → ∀ E : XK, sp [.ref a, .ref p] H1 Q E) : EvS a l (tCall sp [] E0 (tCons th (tCons tl tNil))) σ H R := fun H1 e h1 Q q =>
  hh H1 e _ fun H2 e2 => h H2 (Ex.trans e e2) _ fun p H3 hp e3 h3 => by
    obtain ⟨n1, n2⟩ := (h1.up e2).ne hp
    exact hs p H3 ((e.trans (Sx.of e2)).trans (Sx.of e3)) ((h1.up e2).up e3) (rst_at h3 n1 n2) Q (fun v H4 e4 h4 r => q v H4 (((Sx.of e2).trans (Sx.of e3)).trans e4) h4 r) _
theorem q_par3S {i j k : Nat} {P2 P3 : Nat → Prop} (hs : HS H a l) (h1 : EvL t1 σ (rst H a l) []) (h2 : EsN a l t2 σ H P2) (h3 : EsN a l t3 σ H P3)
    (q : ∀ fl n2 n3 H1, H fl = none → Sx a l H H1 → HS H1 a l → H1 fl = some (.lst []) → P2 n2 → P3 n3 → tz D (((σ.set i (some (.ref fl))).set j (some (iN n2))).set k (some (iN n3))) H1) : tSeq (tPar3 i j k (tCons t1 (tCons t2 (tCons t3 tNil)))) tz D σ H :=
  h1 H rst_ex _ fun fl H1 hfl e1 g1 => by
    obtain ⟨n1, n2⟩ := hs.ne hfl
    refine h2 H1 (Sx.of e1) (hs.up e1) _ fun v H2 e2 hs2 ⟨m2, p2, ev2⟩ => h3 H2 ((Sx.of e1).trans e2) hs2 _ fun w H3 e3 hs3 ⟨m3, p3, ev3⟩ => ⟨.ref fl, v, w, rfl, ?_⟩
    subst ev2 ev3
    exact q fl m2 m3 H3 hfl ((Sx.of e1).trans (e2.trans e3)) hs3 ((e2.trans e3) _ _ (rst_at g1 n1 n2)) p2 p3
theorem q_pairS {i j : Nat} {P1 P2 : Nat → Prop} (hs : HS H a l) (h1 : EsN a l t1 σ H P1) (h2 : EsN a l t2 σ H P2)
    (q : ∀ n1 n2 H1, Sx a l H H1 → HS H1 a l → P1 n1 → P2 n2 → tz D ((σ.set i (some (iN n1))).set j (some (iN n2))) H1) : tSeq (tAsg (tTup (tCons t1 (tCons t2 tNil))) (gTup K 2 (gCons (gName i) (gCons (gName j) gNil)))) tz D σ H :=
  h1 H (Sx.refl a l H) hs _ fun v H1 e1 hs1 ⟨m1, p1, ev1⟩ => h2 H1 e1 hs1 _ fun w H2 e2 hs2 ⟨m2, p2, ev2⟩ => ⟨sz_of (by show 2 ≤ 100000; decide), fun p hp => by
    subst ev1 ev2
    have n := hs2.ne hp
    exact ⟨p, _, rfl, st_of upd_same, rfl, iN m1, _, rfl, iN m2, _, rfl, rfl, q m1 m2 _ (e1.trans (e2.trans (Sx.of (Ex.new hp)))) (hs2.upd n.1 n.2) p1 p2⟩⟩
/-- for j in range(a number from the source) -/
theorem q_forRS {P : Nat → Prop} {j : Nat} (hs : HS H a l) (h : EsN a l te σ H P) (hP : ∀ n, P n → n ≤ 1000) (Pv : Nat → Nat → L2.St → Hp → Prop) (h0 : ∀ n H1, P n → Sx a l H H1 → HS H1 a l → Pv n 0 σ H1)
    (hb : ∀ n i σ' H', P n → i < n → Pv n i σ' H' → tu { D with nx := Pv n (i + 1), ct := Pv n (i + 1), bk := tz D } (σ'.set j (some (iN i))) H') (hd : ∀ n σ' H', P n → Pv n n σ' H' → tz D σ' H') : tSeq (tFor (iRng1 (tCons te tNil)) (gName j) tu) tz D σ H :=
  h H (Sx.refl a l H) hs _ fun v H1 e1 hs1 ⟨n, hn, ev⟩ => by
    subst ev
    have hz := hP n hn
    refine ⟨(n : Int), rfl, by omega, by omega, ?_⟩
    have en : ((n : Int)).toNat = n := by omega
    rw [en]
    refine for_range (lo := 0) (n := n) (D := { D with nx := tz D }) (Pv n) (h0 n H1 hn e1 hs1) (fun i σ' H' hi p => ?_) fun σ' H' p => hd n σ' H' hn p
    have e0 : (0 : Int) + (i : Int) = (i : Int) := Int.zero_add _
    show tu { D with nx := Pv n (i + 1), ct := Pv n (i + 1), bk := tz D } (σ'.set j (some (.int ((0 : Int) + (i : Int))))) H'
    rw [e0]
    exact hb n i σ' H' hn hi p
/-- [x for x in range(n) if a test that reads off the source] -/
theorem lc_S {ti : TA} {vs : List Nat} {j n : Nat} (hn : EvA ti σ (rst H a l) [iN n]) (hz : n ≤ 1000) (hw : ∀ x, wipe ((wipe σ vs).set j (some x)) vs = wipe σ vs)
    (ht : ∀ o, o < n → ∀ H1, Sx a l H H1 → HS H1 a l → ∀ Q : Bool → Hp → Prop, (∀ b H2, Sx a l H1 H2 → HS H2 a l → Q b H2) → t ((wipe σ vs).set j (some (iN o))) H1 Q) (he : ∀ o, o < n → Ev te ((wipe σ vs).set j (some (iN o))) (rst H a l) (iN o)) :
    ∀ H1, Sx a l H H1 → HS H1 a l → ∀ Q : VK, (∀ p H2 (r : List Nat), H1 p = none → Sx a l H1 H2 → HS H2 a l → H2 p = some (.lst (r.map iN)) → r.Pairwise (· < ·) → (∀ o ∈ r, o < n) → r.length ≤ n → Q (.ref p) H2) → tLc (iRng1 ti) (gName j) t te vs σ H1 Q := fun H1 e hs Q q =>
  hn H1 e _ fun H2 e2 => ⟨(n : Int), rfl, by omega, by omega, fun D hD => by
    have en : ((n : Int)).toNat = n := by omega
    rw [en]
    have hs2 := hs.up e2
    have nD := hs2.ne hD
    have hD1 : H1 D = none := fresh_back e2 hD
    refine lc_range (lo := 0) (n := n) (Qd := fun H' => Q (.ref D) H') (fun i H' => Sx a l H1 H' ∧ HS H' a l ∧ ∃ r : List Nat, H' D = some (.lst (r.map iN)) ∧ r.Pairwise (· < ·) ∧ (∀ o ∈ r, o < i) ∧ r.length ≤ i) ⟨(Sx.of e2).mut hD1, hs2.upd nD.1 nD.2, [], upd_same, .nil, (fun _ h => nomatch h), Nat.le_refl _⟩ (fun i H' hi p => ?_) (fun H' p => ?_)
    · obtain ⟨p1, p2, r, p3, p4, p5, p6⟩ := p
      have e0 : (0 : Int) + (i : Int) = (i : Int) := Int.zero_add _
      rw [e0]
      refine ⟨hw _, ht i hi H' (e.trans p1) p2 _ fun b H3 e3 hs3 => ?_⟩
      have g3 := e3 _ _ (rst_at p3 nD.1 nD.2)
      cases b with
      | true =>
        show te _ H3 _
        refine he i hi H3 ((e.trans p1).trans e3) _ fun H4 e4 => ⟨r.map iN, e4 _ _ g3, sz_lt (by rw [List.length_map]; omega), ?_, (hs3.up e4).upd nD.1 nD.2, r ++ [i], ?_, ?_, ?_, ?_⟩
        · exact ((p1.trans e3).trans (Sx.of e4)).mut hD1
        · rw [upd_same, List.map_append]; rfl
        · rw [List.pairwise_append]
          exact ⟨p4, by simp, fun x hx y hy => by rw [List.mem_singleton.mp hy]; exact p5 x hx⟩
        · intro x hx
          rcases List.mem_append.mp hx with hx | hx
          · have := p5 x hx; omega
          · rw [List.mem_singleton.mp hx]; omega
        · rw [List.length_append, List.length_singleton]; omega
      | false =>
        show Sx a l H1 H3 ∧ _
        exact ⟨p1.trans e3, hs3, r, g3, p4, fun x hx => by have := p5 x hx; omega, by omega⟩
    · obtain ⟨p1, p2, r, p3, p4, p5, p6⟩ := p
      exact q D H' r hD1 p1 p2 p3 p4 p5 p6⟩
/-- append: something new that reads off the source -/
theorem s_appS {R : V → Hp → Prop} {fl : Addr} {xs : List V} (hs : HS H a l) (hl : rst H a l fl = some (.lst xs)) (ha : Ev ta σ (rst H a l) (.ref fl)) (h : EvS a l te σ H R) (hz : xs.length < 100000) (k : ∀ v H1, Sx a l H H1 → HS H1 a l → rst H1 a l fl = some (.lst xs) → R v H1 → D.nx σ (upd H1 fl (.lst (xs ++ [v])))) :
    tDrop (tBM K "list" rAppend ta (tCons te tNil)) D σ H := ha H rst_ex _ fun H1 e1 =>
  ⟨Or.inl ⟨rfl, xs, sq_of (e1 _ _ (rst_ex _ _ hl))⟩, h H1 (Sx.of e1) (hs.up e1) _ fun v H2 e2 hs2 r => ⟨fl, xs, v, rfl, rfl, ((Sx.of e1).trans e2) _ _ hl, sz_lt hz, k v H2 ((Sx.of e1).trans e2) hs2 (((Sx.of e1).trans e2).rs _ _ hl) r⟩⟩
/-- (a number, a tuple, a number) -/
theorem es_job {P1 P3 : Nat → Prop} {nn : Addr} {r : List Nat} (h1 : EsN a l t1 σ H P1) (h2 : Ev t2 σ (rst H a l) (.ref nn)) (hn : rst H a l nn = some (.tup (r.map iN))) (h3 : EsN a l t3 σ H P3) :
    EvS a l (tTup (tCons t1 (tCons t2 (tCons t3 tNil)))) σ H fun v H' => ∃ t n1 n3, v = .ref t ∧ rst H' a l t = some (.tup [iN n1, .ref nn, iN n3]) ∧ P1 n1 ∧ P3 n3 := fun H1 e hs Q q =>
  h1 H1 e hs _ fun v H2 e2 hs2 ⟨m1, p1, ev1⟩ => h2 H2 (e.trans e2) _ fun H3 e3 => h3 H3 ((e.trans e2).trans (Sx.of e3)) (hs2.up e3) _ fun w H4 e4 hs4 ⟨m3, p3, ev3⟩ => ⟨sz_of (by show 3 ≤ 100000; decide), fun p hp => by
    subst ev1 ev3
    have n := hs4.ne hp
    have hs5 := hs4.upd (o := .tup [iN m1, .ref nn, iN m3]) n.1 n.2
    exact q _ _ (((e2.trans (Sx.of e3)).trans e4).trans (Sx.of (Ex.new hp))) hs5 ⟨p, m1, m3, rfl, rst_at upd_same n.1 n.2, p1, p3⟩⟩
theorem eu_tupK {p : Addr} {xs : List V} (ha : Ev ta σ H (.ref p)) (h : H p = some (.lst xs)) : EvU (tCB (rTupS K) (tCons ta tNil)) σ H xs := fun H1 e Q q =>
  ha H1 e _ fun H2 e2 => ⟨p, xs, rfl, .inl ⟨sq_of (e2 _ _ (e _ _ h)), fun r hn => q r _ (fresh_back e2 hn) (e2.trans (Ex.new hn)) upd_same⟩⟩
/-! ## for over what is walked -/
theorem s_forI {wi : TI} {items : List V} {j : Nat} (h : EvI wi σ H items) (Pv : Hp → Nat → L2.St → Hp → Prop) (h0 : ∀ H2, Ex H H2 → Pv H2 0 σ H2) (hx : ∀ H2 i σ' H', Pv H2 i σ' H' → Ex H2 H')
    (hs : ∀ H2 i x σ' H', Ex H H2 → items[i]? = some x → Pv H2 i σ' H' → tu { D with nx := Pv H2 (i + 1), ct := Pv H2 (i + 1), bk := D.nx } (σ'.set j (some x)) H') (hd : ∀ H2 σ' H', Ex H H2 → Pv H2 items.length σ' H' → D.nx σ' H') : tFor wi (gName j) tu D σ H :=
  h H (Ex.refl H) _ fun J H2 e2 go => by
    refine ⟨fun i m σ' H' => m = items.length - i ∧ i ≤ items.length ∧ Pv H2 i σ' H', ⟨_, rfl, Nat.zero_le _, h0 H2 e2⟩, ?_⟩
    rintro i m σ' H' ⟨rfl, hi, p⟩
    by_cases hlt : i < items.length
    · refine .inr ⟨go.go i H' hlt (hx _ _ _ _ p), Pv H2 (i + 1), fun σ'' H'' p' => ⟨items.length - (i + 1), by omega, rfl, hlt, p'⟩, fun x H'' y => ?_⟩
      obtain ⟨ey, gx⟩ := go.yld i H' x H'' hlt (hx _ _ _ _ p) y
      subst ey
      exact hs H2 i x σ' H'' e2 gx p
    · have ei : i = items.length := by omega
      subst ei
      exact .inl ⟨go.stop _ H' (Nat.le_refl _) (hx _ _ _ _ p), hd H2 σ' H' e2 p⟩
theorem Ex.unlock {H H' : Hp} {d : Addr} {od : Obj} {u : HO} (hd : H d = some u) (e : Ex (upd H d (.frz od u)) H') : Ex H (upd H' d u) := fun b o hb => by
  by_cases z : b = d
  · subst z
    rw [hd] at hb
    cases hb
    exact upd_same
  · rw [upd_ne z]
    exact e _ _ (by rw [upd_ne z]; exact hb)
theorem en_dictOf {d : Addr} {b : Beg} (ha : Ev ta σ H (.ref d)) (h : H d = some (.dK (begV b))) : EvN (tCB (fun xs H Q => ∃ (a : Addr) (kvs : List (Key × V)), xs = [.ref a] ∧ Rd H a (.dK kvs) ∧ ∀ p, H p = none → Q (.ref p) (upd H p (.dK kvs))) (tCons ta tNil)) σ H (.dK (begV b)) := fun H1 e Q q =>
  ha H1 e _ fun H2 e2 => ⟨d, _, rfl, .inl (e2 _ _ (e _ _ h)), fun p hp => q p _ (fresh_back e2 hp) (e2.trans (Ex.new hp)) upd_same⟩
theorem et_fullL {xs : List V} (hx : EvL ta σ H xs) : EvT (tTest (tOp (rEqL0 K true) ta (tLst tNil))) σ H (!xs.isEmpty) :=
  et_test (fun H1 e Q q => hx H1 e _ fun p H2 _ e2 h2 => (el_lst (σ := σ) (H := H2) ea_nil (by show 0 ≤ 100000; decide)) H2 (Ex.refl H2) _ fun r H3 _ e3 h3 => ⟨p, r, xs, rfl, rfl, sq_of (e3 _ _ h2), sq_of h3, q H3 (e2.trans e3)⟩)
theorem ev_int1 {i : Int} (h : Ev ta σ H (.int i)) : Ev (tCB (fun xs H Q => (∃ i, xs = [.int i] ∧ Q (.int i) H) ∨ ∃ k, xs = [.bl k] ∧ Q (.int (if k then 1 else 0)) H) (tCons ta tNil)) σ H (.int i) := fun H1 e Q q =>
  h H1 e _ fun H2 e2 => .inl ⟨i, rfl, q H2 e2⟩
end
/-! ## what is alike -/
def AlikeV : Nat → Hp → V → V → Prop
  | 0, _, _, _ => False
  | d + 1, H, x, y => (∃ i : Int, x = .int i ∧ y = .int i) ∨ (x = .non ∧ y = .non) ∨ ∃ (a b : Addr) (xs ys : List V), x = .ref a ∧ y = .ref b ∧ ((H a = some (.tup xs) ∧ H b = some (.tup ys)) ∨ (H a = some (.lst xs) ∧ H b = some (.lst ys))) ∧ xs.length = ys.length ∧ xs.length ≤ 1000 ∧ ∀ (i : Nat) x y, xs[i]? = some x → ys[i]? = some y → AlikeV d H x y
theorem AlikeV.ex : ∀ {d : Nat} {H H' : Hp} {x y : V}, Ex H H' → AlikeV d H x y → AlikeV d H' x y
  | 0, _, _, _, _, _, h => h.elim
  | d + 1, H, H', x, y, e, h => by
    rcases h with h | h | ⟨a, b, xs, ys, h1, h2, h3, h4, h5, h6⟩
    · exact .inl h
    · exact .inr (.inl h)
    · refine .inr (.inr ⟨a, b, xs, ys, h1, h2, ?_, h4, h5, fun i x y g1 g2 => (h6 i x y g1 g2).ex e⟩)
      rcases h3 with ⟨g1, g2⟩ | ⟨g1, g2⟩
      · exact .inl ⟨e _ _ g1, e _ _ g2⟩
      · exact .inr ⟨e _ _ g1, e _ _ g2⟩
def spA (d : Nat) : Sp := fun vs H Q _ => ∃ x y, vs = [x, y] ∧ AlikeV d H x y ∧ Ret Q H (.bl true)
theorem alike_ints {d : Nat} {H : Hp} {l : List Nat} (i : Nat) (x y : V) (h1 : (l.map iN)[i]? = some x) (h2 : (l.map iN)[i]? = some y) : AlikeV (d + 1) H x y := by
  rw [h1] at h2
  cases h2
  rw [List.getElem?_map] at h1
  obtain ⟨n, _, rfl⟩ := Option.map_eq_some_iff.mp h1
  exact .inl ⟨n, rfl, rfl⟩
theorem alike_told {H : Hp} {e : Nat} {o : List Nat} {x y : V} (hz : o.length ≤ 1000) (h1 : TldR H e o x) (h2 : TldR H e o y) : AlikeV 3 H x y := by
  obtain ⟨t1, a1, rfl, g1, g2⟩ := h1
  obtain ⟨t2, a2, rfl, g3, g4⟩ := h2
  refine .inr (.inr ⟨t1, t2, _, _, rfl, rfl, .inl ⟨g1, g3⟩, rfl, by show 2 ≤ 1000; decide, fun i x y q1 q2 => ?_⟩)
  match i, q1, q2 with
  | 0, q1, q2 =>
    cases Option.some.inj q1
    cases Option.some.inj q2
    exact .inl ⟨e, rfl, rfl⟩
  | 1, q1, q2 =>
    cases Option.some.inj q1
    cases Option.some.inj q2
    exact .inr (.inr ⟨a1, a2, _, _, rfl, rfl, .inl ⟨g2, g4⟩, rfl, by rw [List.length_map]; exact hz, fun i x y z1 z2 => alike_ints i x y z1 z2⟩)
  | i + 2, q1, q2 => simp at q1
/-- an item of a list or of a tuple -/
def rIxA (K : PySem.W.Frag) : R2 := fun x y H Q => rIxL K x y H Q ∨ rIxT K x y H Q
theorem ix_aK {X : Cx} (K : PySem.W.Frag) (h : X.K = K) : IxR X (rIxA K) := by
  subst h
  intro value slice pins s σ H x y v u Q I rx ry h hs
  rcases h with h | h
  · exact ix_list value slice pins s σ H x y v u Q I rx ry h hs
  · exact ix_tup value slice pins s σ H x y v u Q I rx ry h hs
end Wk
end

section
set_option Elab.async false
set_option linter.all false
set_option maxRecDepth 100000
set_option maxHeartbeats 4000000
namespace Wk
open PySem PySem.Spec PyProof.Rows L2 Evl
open Mx (Plan Beg Job jb ln nd rm ks look has T)
section
variable {P : Program} {w : World} {K : PySem.W.Frag} {mg : Str → Option Value} {base : Heap}
section
variable {σ : L2.St} {H H' : Hp} {a l : Addr} {ta tb tc te tx th tl t1 t2 t3 : TE} {ti : TA} {t : TT} {g : TG} {tz tu : TS} {D : L2.Ends}
def RetS (a l : Addr) (R : V → Hp → Prop) (H : Hp) (Q : VK) : Prop := ∀ v H2, Sx a l H H2 → HS H2 a l → R v H2 → Q v H2
theorem s_retS {R : V → Hp → Prop} (hs : HS H a l) (h : EvS a l te σ H R) (k : ∀ v H1, Sx a l H H1 → HS H1 a l → R v H1 → D.rt v H1) : tRet te D σ H := h H (Sx.refl a l H) hs _ k
theorem s_retH {st : Int} {cells : List Int} (h1 : Ev t1 σ H (.int st)) (h2 : Ev t2 σ H (.ref a)) (h3 : SqL K H a (cells.map V.int)) (hz : cells.length ≤ 63) (k : ∀ h l H', HS H' h l → D.rt (.ref h) H') :
    tRet (tLst (tCons t1 (tCons (tCB (rListS K) (tCons t2 tNil)) (tCons (tC (.int 0)) tNil)))) D σ H :=
  h1 H (Ex.refl H) _ fun H2 e2 => (el_list (K := K) h2 h3) H2 e2 _ fun l H3 hl e3 g3 => ⟨sz_of (by show 3 ≤ 100000; decide), fun h hh => k h l _ ⟨st, cells, 0, upd_same, by decide, Ex.new hh _ _ g3, hz⟩⟩
theorem Sx.in1 {H1 : Hp} {o : HO} (e : Sx a l H H1) : Sx a l H (upd H1 a o) := Ex.mut e (by unfold rst; rw [if_pos (.inl rfl)])
theorem Sx.in2 {H1 : Hp} {o : HO} (e : Sx a l H H1) : Sx a l H (upd H1 l o) := Ex.mut e (by unfold rst; rw [if_pos (.inr rfl)])
end
/-! ### _law_mix -/
abbrev s__law_mix : Stmt := topS 49
abbrev N__law_mix : List Str := ["_law_script", "_law_seed", "_law_state", "_law_cell"]
theorem sc__law_mix : FnScope N__law_mix ["_law_script", "_law_seed"] (defScope s__law_mix) := ⟨rfl, rfl, rfl, by decide +kernel, rfl, by decide +kernel, by decide +kernel⟩
def sp_law_mix (K : PySem.W.Frag) : Sp := fun vs H Q _ => ∃ (a : Addr) (ns : List Int) (seed : Int), vs = [.ref a, .int seed] ∧ SqL K H a (ns.map V.int) ∧ ns.length ≤ 63 ∧ ∀ h l H', HS H' h l → Q (.ref h) H'
theorem cal_law_mix (D : DefAt K mg "_law_mix" s__law_mix ["_law_script", "_law_seed"]) (TX : Txt mg) : Cal P w K mg base 1 "_law_mix" (sp_law_mix K) := by
  have hnd := sc__law_mix.nd
  refine cal_of D sc__law_mix (fun vs H Q E h => ?len) (fun f cdv A outer s H vs Q E hr h => ?body)
  case len => obtain ⟨a, ns, seed, rfl, _⟩ := h; rfl
  case body =>
    obtain ⟨a, ns, seed, rfl, hA, hz, k⟩ := h
    refine ⟨_, (pss_cons (ps_set (i := 2) hnd rfl (Or.inl rfl) (pv 1))
      (pss_cons (ps_for PassesOwn.never rfl (pi_list (pv 0)) (pg_name (i := 3) hnd rfl (Or.inl rfl)) (pss_one (ps_set (i := 2) hnd rfl (Or.inl rfl) (pe_op op_mod (pe_callTy call_int1 (by rfl) TX.b_int (by decide +kernel) (pa_cons (pe_op op_add (pe_op op_add (pe_op op_mul (pv 2) pe_int) (pe_op op_mod (pe_callTy call_int1 (by rfl) TX.b_int (by decide +kernel) (pa_cons (pv 3) pa_nil)) pe_int)) pe_int) pa_nil)) pe_int))))
      (pss_one (ps_ret (pe_lst (pa_cons (pv 2) (pa_cons (pe_callTy call_list_of (by rfl) TX.b_list (by decide +kernel) (pa_cons (pv 0) pa_nil)) (pa_cons pe_int pa_nil)))))))), ?_⟩
    refine q_asg (v := .int seed) (ev_var rfl) fun H1 e1 => ?_
    refine q_forLn (ev_var rfl) (ex_l e1 hA) (fun i σ' H' => ∃ (st : Int) (u : Option V), σ' = [some (.ref a), some (.int seed), some (.int st), u] ∧ Ex H H') (fun H2 e2 => ⟨seed, none, rfl, e1.trans e2⟩) (fun i σ' H' _ ⟨_, _, _, e⟩ => ex_l e hA) ?_ ?_
    · rintro i x σ' H' hx ⟨st, u, rfl, e⟩
      rw [List.getElem?_map] at hx
      obtain ⟨c, _, rfl⟩ := Option.map_eq_some_iff.mp hx
      refine s_asg (v := .int ((st * 48271 + c % 2147483629 + 1) % 2147483647)) (ev_op (ev_int1 (ev_I (ev_I (ev_op (ev_var rfl) ev_c (rv_I (.inr ⟨by decide, by decide⟩))) (ev_op (ev_int1 (ev_var rfl)) ev_c (rv_I (by decide)))) ev_c)) ev_c (rv_I (by decide))) fun H2 e2 => ⟨_, _, rfl, e.trans e2⟩
    · rintro σ' H' ⟨st, u, rfl, e⟩
      exact s_retH (K := K) (ev_var rfl) (ev_var rfl) (ex_l e hA) hz fun h l H3 hs => k h l H3 hs
/-! ### _law_next, _law_pick -/
abbrev s__law_next : Stmt := topS 50
abbrev N__law_next : List Str := ["_law_h", "_law_cap", "_law_cell"]
theorem sc__law_next : FnScope N__law_next ["_law_h", "_law_cap"] (defScope s__law_next) := ⟨rfl, rfl, rfl, by decide +kernel, rfl, by decide +kernel, by decide +kernel⟩
def sp_law_next : Sp := fun vs H Q _ => ∃ (a l : Addr) (cap : Nat), vs = [.ref a, iN cap] ∧ 1 ≤ cap ∧ cap ≤ 100000 ∧ HS H a l ∧ RetS a l (fun v _ => ∃ n, n < cap ∧ v = iN n) H Q
theorem mod_nat {x : Int} {cap : Nat} (h : 1 ≤ cap) : ∃ n, n < cap ∧ V.int (x % (cap : Int)) = iN n := by
  have h1 := Int.emod_nonneg x (show (cap : Int) ≠ 0 by omega)
  have h2 := Int.emod_lt_of_pos x (show (0 : Int) < cap by omega)
  exact ⟨(x % (cap : Int)).toNat, by omega, congrArg V.int (by omega)⟩
theorem cal_law_next (D : DefAt K mg "_law_next" s__law_next ["_law_h", "_law_cap"]) (TX : Txt mg) : Cal P w K mg base 1 "_law_next" (sp_law_next) := by
  have hnd := sc__law_next.nd
  refine cal_of D sc__law_next (fun vs H Q E h => ?len) (fun f cdv A outer s H vs Q E hr h => ?body)
  case len => obtain ⟨a, l, cap, rfl, _⟩ := h; rfl
  case body =>
    obtain ⟨a, l, cap, rfl, c1, c2, hs, k⟩ := h
    refine ⟨_, (pss_cons (ps_set (i := 2) hnd rfl (Or.inl rfl) (pe_ix (ix_lK K rfl) (pe_op op_cat (pe_ix (ix_lK K rfl) (pv 0) pe_int (fun _ _ => rfl)) (pe_lst (pa_cons pe_int pa_nil))) (pe_op op_mod (pe_callTy call_int1 (by rfl) TX.b_int (by decide +kernel) (pa_cons (pe_ix (ix_lK K rfl) (pv 0) pe_int (fun _ _ => rfl)) pa_nil)) (pe_callB (call_max2 rfl) (by rfl) TX.b_max (by decide +kernel) (pa_cons pe_int (pa_cons (pe_callB call_len_seq (by rfl) TX.b_len (by decide +kernel) (pa_cons (pe_ix (ix_lK K rfl) (pv 0) pe_int (fun _ _ => rfl)) pa_nil)) pa_nil)))) (fun _ _ => rfl)))
      (pss_cons (ps_if (pt_cmpR op_ge (pv 2) (pe_op op_pow pe_int pe_int) (nomark _)) (pss_cons (ps_asg (pe_op op_fdiv (pv 2) (pv 1)) (pg_sub (pe_ix (ix_lK K rfl) (pv 0) pe_int (fun _ _ => rfl)) (pe_op op_mod (pe_callTy call_int1 (by rfl) TX.b_int (by decide +kernel) (pa_cons (pe_ix (ix_lK K rfl) (pv 0) pe_int (fun _ _ => rfl)) pa_nil)) (pe_callB call_len_seq (by rfl) TX.b_len (by decide +kernel) (pa_cons (pe_ix (ix_lK K rfl) (pv 0) pe_int (fun _ _ => rfl)) pa_nil))) set_list))
      (pss_one (ps_ret (pe_op op_mod (pe_callTy call_int1 (by rfl) TX.b_int (by decide +kernel) (pa_cons (pv 2) pa_nil)) (pv 1))))) pss_nil)
      (pss_cons (ps_asg (pe_op op_mod (pe_callTy call_int1 (by rfl) TX.b_int (by decide +kernel) (pa_cons (pe_op op_add (pe_op op_add (pe_op op_mul (pe_ix (ix_lK K rfl) (pv 0) pe_int (fun _ _ => rfl)) pe_int) (pe_op op_mul (pv 2) pe_int)) pe_int) pa_nil)) pe_int) (pg_sub (pv 0) pe_int set_list))
      (pss_cons (ps_asg (pe_op op_add (pe_ix (ix_lK K rfl) (pv 0) pe_int (fun _ _ => rfl)) pe_int) (pg_sub (pv 0) pe_int set_list))
      (pss_one (ps_ret (pe_op op_mod (pe_callTy call_int1 (by rfl) TX.b_int (by decide +kernel) (pa_cons (pe_op op_fdiv (pe_ix (ix_lK K rfl) (pv 0) pe_int (fun _ _ => rfl)) pe_int) pa_nil)) (pv 1)))))))), ?_⟩
    obtain ⟨s0, cells, i, g1, g2, g3, g4⟩ := hs.ex
    have nal := hs.al
    -- the cell's place
    have hm : ∃ m : Int, (if ((cells.map V.int).length : Int) > 1 then ((cells.map V.int).length : Int) else 1) = m ∧ 0 < m ∧ (m ≤ cells.length ∨ cells.length = 0 ∧ m = 1) := by
      rw [List.length_map]
      by_cases c : (cells.length : Int) > 1
      · exact ⟨_, if_pos c, by omega, .inl (Int.le_refl _)⟩
      · refine ⟨1, if_neg c, by omega, ?_⟩
        omega
    obtain ⟨m, em, m0, m1⟩ := hm
    have q1 := Int.emod_nonneg i (show m ≠ 0 by omega)
    have q2 := Int.emod_lt_of_pos i m0
    obtain ⟨ix, hix⟩ : ∃ ix : Nat, i % m = (ix : Int) := ⟨(i % m).toNat, by omega⟩
    have hlt : ix < (cells ++ [0]).length := by rw [List.length_append, List.length_singleton]; omega
    obtain ⟨c, hc⟩ : ∃ c, (cells ++ [0])[ix]? = some c := ⟨_, List.getElem?_eq_getElem hlt⟩
    have hc2 : (cells.map V.int ++ [V.int 0])[ix]? = some (.int c) := by
      have e0 : cells.map V.int ++ [V.int 0] = (cells ++ [0]).map V.int := by rw [List.map_append]; rfl
      rw [e0, List.getElem?_map, hc]; rfl
    have evl : ∀ (σ : L2.St) (H1 : Hp), σ[0]? = some (some (.ref a)) → Ex H H1 → Ev (tOp (rIxL K) (tVar 0) (tC (.int 1))) σ H1 (.ref l) := fun σ H1 h0 e => ev_op (ev_var h0) (ev_c (v := .int ((1 : Nat) : Int))) (rv_ixL (sq_of (e _ _ g1)) (atI_nat rfl))
    have evi : ∀ (σ : L2.St) (H1 : Hp), σ[0]? = some (some (.ref a)) → Ex H H1 → Ev (tOp (rIxL K) (tVar 0) (tC (.int 2))) σ H1 (.int i) := fun σ H1 h0 e => ev_op (ev_var h0) (ev_c (v := .int ((2 : Nat) : Int))) (rv_ixL (sq_of (e _ _ g1)) (atI_nat rfl))
    refine q_asg (v := .int c) (ev_opL1 (el_cat (xs := cells.map V.int) (ys := [.int 0]) (EvK.at (evl _ _ rfl (Ex.refl _)) g3) (EvK.of (el_lst (ea_cons ev_c ea_nil) one_le)) (by rw [List.length_map, List.length_singleton]; omega)) (fun H1 e => ev_is (ev_op (ev_int1 (evi _ _ rfl e)) (ev_is (ev_max2 (i := 1) (j := ((cells.map V.int).length : Int)) ev_c (Evl.ev_len (evl _ _ rfl e) (sq_of (e _ _ g3)))) (congrArg V.int em)) (rv_I m0)) (congrArg V.int hix)) fun p H1 hp e => rv_ixL (sq_of hp) (atI_nat hc2)) fun H1 e1 => ?_
    refine q_when (b := decide ((10 : Int) ^ (18 : Int).toNat ≤ c)) (et_test (ev_I (ev_var rfl) (ev_op ev_c ev_c (rv_I ⟨by decide, by decide, by decide⟩)))) (fun hb H2 e2 => ?_) fun hb H2 e2 => ?_
    · have hb := of_decide_eq_true hb
      have e12 := e1.trans e2
      have hcl : ix < cells.length := Classical.byContradiction fun z => by
        have e0 : ix = cells.length := by rw [List.length_append, List.length_singleton] at hlt; omega
        rw [e0, List.getElem?_append_right (Nat.le_refl _), Nat.sub_self] at hc
        have : (0 : Int) = c := Option.some.inj hc
        rw [← this] at hb
        exact absurd hb (by decide)
      have em2 : m = (cells.length : Int) := by
        rw [List.length_map] at em
        rw [← em]
        split <;> omega
      refine q_setL (l := l) (xs := cells.map V.int) (j := ix) (v := .int (c / (cap : Int))) (e12 _ _ g3) (ev_op (ev_var rfl) (ev_var rfl) (rv_I ⟨by omega, by omega⟩)) (evl _ _ rfl e12) (ev_is (ev_op (ev_int1 (evi _ _ rfl e12)) (Evl.ev_len (evl _ _ rfl e12) (sq_of (e12 _ _ g3))) (rv_I (by rw [List.length_map]; omega))) (congrArg V.int (by rw [List.length_map, ← em2]; exact hix))) (by rw [List.length_map]; exact hcl) fun H3 e3 => ?_
      obtain ⟨n, hn, en⟩ := mod_nat (x := c) c1
      refine s_ret (v := iN n) (ev_is (ev_op (ev_int1 (ev_var rfl)) (ev_var rfl) (rv_I (by omega))) en) fun H4 e4 => k _ H4 (((Sx.of (e12.trans e3)).in2).trans (Sx.of e4)) ?_ ⟨n, hn, rfl⟩
      refine HS.up e4 ⟨s0, cells.set ix (c / (cap : Int)), i, ?_, g2, ?_, by rw [List.length_set]; exact g4⟩
      · rw [upd_ne nal]; exact (e12.trans e3) _ _ g1
      · rw [upd_same, List.map_set]
    · have e12 := e1.trans e2
      refine q_setL (l := a) (xs := [.int s0, .ref l, .int i]) (j := 0) (v := .int ((s0 * 48271 + c * 69621 + 11) % 2147483647)) (e12 _ _ g1) (ev_op (ev_int1 (ev_I (ev_I (ev_op (ev_op (ev_var rfl) (ev_c (v := .int ((0 : Nat) : Int))) (rv_ixL (sq_of (e12 _ _ g1)) (atI_nat rfl))) ev_c (rv_I (.inr ⟨by decide, by decide⟩))) (ev_op (ev_var rfl) ev_c (rv_I (.inr ⟨by decide, by decide⟩)))) ev_c)) ev_c (rv_I (by decide))) (ev_var rfl) (ev_c (v := .int ((0 : Nat) : Int))) (by show 0 < 3; decide) fun H3 e3 => ?_
      have e13 := e12.trans e3
      generalize hs' : (s0 * 48271 + c * 69621 + 11) % 2147483647 = s1
      have h3 : (L2.upd H3 a (.lst ([V.int s0, .ref l, .int i].set 0 (.int s1)))) a = some (.lst [.int s1, .ref l, .int i]) := upd_same
      have h3l : (L2.upd H3 a (.lst ([V.int s0, .ref l, .int i].set 0 (.int s1)))) l = some (.lst (cells.map V.int)) := by rw [upd_ne (Ne.symm nal)]; exact e13 _ _ g3
      have sx3 : Sx a l H (L2.upd H3 a (.lst ([V.int s0, .ref l, .int i].set 0 (.int s1)))) := (Sx.of e13).in1
      generalize L2.upd H3 a (.lst ([V.int s0, .ref l, .int i].set 0 (.int s1))) = H4 at h3 h3l sx3
      refine q_setL (l := a) (xs := [.int s1, .ref l, .int i]) (j := 2) (v := .int (i + 1)) h3 (ev_I (ev_op (ev_var rfl) (ev_c (v := .int ((2 : Nat) : Int))) (rv_ixL (sq_of h3) (atI_nat rfl))) ev_c) (ev_var rfl) (ev_c (v := .int ((2 : Nat) : Int))) (by show 2 < 3; decide) fun H5 e5 => ?_
      have h5 : (L2.upd H5 a (.lst ([V.int s1, .ref l, .int i].set 2 (.int (i + 1))))) a = some (.lst [.int s1, .ref l, .int (i + 1)]) := upd_same
      have h5l : (L2.upd H5 a (.lst ([V.int s1, .ref l, .int i].set 2 (.int (i + 1))))) l = some (.lst (cells.map V.int)) := by rw [upd_ne (Ne.symm nal)]; exact e5 _ _ h3l
      have sx5 : Sx a l H (L2.upd H5 a (.lst ([V.int s1, .ref l, .int i].set 2 (.int (i + 1))))) := (sx3.trans (Sx.of e5)).in1
      generalize L2.upd H5 a (.lst ([V.int s1, .ref l, .int i].set 2 (.int (i + 1)))) = H6 at h5 h5l sx5
      obtain ⟨n, hn, en⟩ := mod_nat (x := s1 / 7) c1
      refine s_ret (v := iN n) (ev_is (ev_op (ev_int1 (ev_op (ev_op (ev_var rfl) (ev_c (v := .int ((0 : Nat) : Int))) (rv_ixL (sq_of h5) (atI_nat rfl))) ev_c (rv_I ⟨by decide, by decide⟩))) (ev_var rfl) (rv_I (by omega))) en) fun H7 e7 => k _ H7 (sx5.trans (Sx.of e7)) (HS.up e7 ⟨s1, cells, i + 1, h5, by omega, h5l, g4⟩) ⟨n, hn, rfl⟩
theorem es_next {σ : L2.St} {H : Hp} {a l : Addr} {th tc : TE} {cap : Nat} (h1 : Ev th σ (rst H a l) (.ref a)) (h2 : Ev tc σ (rst H a l) (iN cap)) (c1 : 1 ≤ cap) (c2 : cap ≤ 100000) : EsN a l (tCall sp_law_next [] E0 (tCons th (tCons tc tNil))) σ H fun n => n < cap :=
  es_c (P := fun n => n = cap) h1 (es_N h2 rfl) fun n H1 e hs hn Q q E => by
    subst hn
    exact ⟨a, l, n, rfl, c1, c2, hs, q⟩
abbrev s__law_pick : Stmt := topS 52
abbrev N__law_pick : List Str := ["_law_h", "_law_things"]
theorem sc__law_pick : FnScope N__law_pick ["_law_h", "_law_things"] (defScope s__law_pick) := ⟨rfl, rfl, rfl, by decide +kernel, rfl, by decide +kernel, by decide +kernel⟩
def sp_law_pick : Sp := fun vs H Q _ => ∃ (a l t : Addr) (xs : List Nat), vs = [.ref a, .ref t] ∧ HS H a l ∧ rst H a l t = some (.lst (xs.map iN)) ∧ 1 ≤ xs.length ∧ xs.length ≤ 1000 ∧ RetS a l (fun v _ => ∃ n, n ∈ xs ∧ v = iN n) H Q
theorem es_ixL {σ : L2.St} {H : Hp} {a l t : Addr} {ta tb : TE} {xs : List Nat} (ha : Ev ta σ (rst H a l) (.ref t)) (ht : rst H a l t = some (.lst (xs.map iN))) (hb : EsN a l tb σ H fun n => n < xs.length) : EsN a l (tOp (rIxL K) ta tb) σ H fun n => n ∈ xs := fun H1 e hs Q q =>
  ha H1 e _ fun H2 e2 => hb H2 (e.trans (Sx.of e2)) (hs.up e2) _ fun v H3 e3 hs3 ⟨n, hn, ev⟩ => ⟨t, xs.map iN, (n : Int), iN xs[n], rfl, ev, sq_of (((e.trans (Sx.of e2)).trans e3) _ _ ht), atI_nat (by rw [List.getElem?_map, List.getElem?_eq_getElem hn]; rfl), q _ H3 ((Sx.of e2).trans e3) hs3 ⟨_, List.getElem_mem hn, rfl⟩⟩
theorem cal_law_pick (D : DefAt K mg "_law_pick" s__law_pick ["_law_h", "_law_things"]) (TX : Txt mg) (C_law_next : Cal P w K mg base 1 "_law_next" (sp_law_next)) : Cal P w K mg base 2 "_law_pick" (sp_law_pick) := by
  have hnd := sc__law_pick.nd
  refine cal_of D sc__law_pick (fun vs H Q E h => ?len) (fun f cdv A outer s H vs Q E hr h => ?body)
  case len => obtain ⟨a, l, t, xs, rfl, _⟩ := h; rfl
  case body =>
    obtain ⟨a, l, t, xs, rfl, hs, ht, x1, x2, k⟩ := h
    refine ⟨_, (pss_one (ps_ret (pe_ix (ix_lK K rfl) (pv 1) (pe_c C_law_next hr (by decide) (by rfl) (pa_cons (pv 0) (pa_cons (pe_callB call_len_seq (by rfl) TX.b_len (by decide +kernel) (pa_cons (pv 1) pa_nil)) pa_nil))) (fun _ _ => rfl)))), ?_⟩
    exact s_retS hs (es_ixL (ev_var rfl) ht (es_next (ev_var rfl) (ev_is (Evl.ev_len (ev_var rfl) (sq_of ht)) (by rw [List.length_map])) x1 (by omega))) k
theorem es_pick {σ : L2.St} {H : Hp} {a l : Addr} {th tl : TE} {xs : List Nat} (h1 : Ev th σ (rst H a l) (.ref a)) (h2 : EvL tl σ (rst H a l) (xs.map iN)) (x1 : 1 ≤ xs.length) (x2 : xs.length ≤ 1000) : EsN a l (tCall sp_law_pick [] E0 (tCons th (tCons tl tNil))) σ H fun n => n ∈ xs :=
  es_cL h1 h2 fun p H1 e hs hp Q q E => ⟨a, l, p, xs, rfl, hs, hp, x1, x2, q⟩
/-! ### _law_plan -/
abbrev s__law_plan : Stmt := topS 53
abbrev N__law_plan : List Str := ["_law_h", "_law_most", "_law_share", "_law_job", "_law_found", "_law_cap", "_law_roomy", "_law_needs", "_law_one"]
theorem sc__law_plan : FnScope N__law_plan ["_law_h", "_law_most"] (defScope s__law_plan) := ⟨rfl, rfl, rfl, by decide +kernel, rfl, by decide +kernel, by decide +kernel⟩
def sp_law_plan : Sp := fun vs H Q _ => ∃ (a l : Addr) (most : Nat), vs = [.ref a, iN most] ∧ 1 ≤ most ∧ most ≤ 6 ∧ HS H a l ∧ RetS a l (fun v H' => ∃ p plan, v = .ref p ∧ PlanAt (rst H' a l) p plan ∧ Mx.PlanOk plan) H Q
structure JobsOk (plan : Plan) : Prop where
  len : ∀ j, j < plan.length → 1 ≤ ln plan j ∧ ln plan j ≤ 9
  needs : ∀ j, j < plan.length → (nd plan j).Pairwise (· < ·) ∧ ∀ o ∈ nd plan j, o < j
  room : ∀ j, j < plan.length → rm plan j ≤ 9
theorem jb_app {plan : Plan} {x : Job} {j : Nat} : jb (plan ++ [x]) j = if j < plan.length then jb plan j else if j = plan.length then x else ⟨0, [], 0⟩ := by
  unfold jb
  rw [List.getD_eq_getElem?_getD, List.getD_eq_getElem?_getD]
  by_cases h : j < plan.length
  · rw [if_pos h, List.getElem?_append_left h]
  · rw [if_neg h, List.getElem?_append_right (by omega)]
    by_cases e : j = plan.length
    · rw [if_pos e, e, Nat.sub_self]; rfl
    · rw [if_neg e, List.getElem?_eq_none (by simp; omega)]; rfl
theorem JobsOk.app {plan : Plan} {x : Job} (h : JobsOk plan) (h1 : 1 ≤ x.len ∧ x.len ≤ 9) (h2 : x.needs.Pairwise (· < ·) ∧ ∀ o ∈ x.needs, o < plan.length) (h3 : x.room ≤ 9) : JobsOk (plan ++ [x]) := by
  have key : ∀ j, j < (plan ++ [x]).length → (j < plan.length ∧ jb (plan ++ [x]) j = jb plan j) ∨ (j = plan.length ∧ jb (plan ++ [x]) j = x) := fun j hj => by
    rw [List.length_append, List.length_singleton] at hj
    rw [jb_app]
    by_cases c : j < plan.length
    · exact .inl ⟨c, if_pos c⟩
    · have e : j = plan.length := by omega
      exact .inr ⟨e, by rw [if_neg c, if_pos e]⟩
  refine ⟨fun j hj => ?_, fun j hj => ?_, fun j hj => ?_⟩
  · rcases key j hj with ⟨c, e⟩ | ⟨c, e⟩
    · unfold ln; rw [e]; exact h.len j c
    · unfold ln; rw [e]; exact h1
  · rcases key j hj with ⟨c, e⟩ | ⟨c, e⟩
    · unfold nd; rw [e]; exact h.needs j c
    · unfold nd; rw [e, c]; exact h2
  · rcases key j hj with ⟨c, e⟩ | ⟨c, e⟩
    · unfold rm; rw [e]; exact h.room j c
    · unfold rm; rw [e]; exact h3
/-- plan[..] as a list of places -/
def JobsAt (H : Hp) (plan : Plan) (ar nr : Nat → Addr) : Prop := ∀ j, j < plan.length → H (ar j) = some (.tup [iN (ln plan j), .ref (nr j), iN (rm plan j)]) ∧ H (nr j) = some (.tup ((nd plan j).map iN))
theorem JobsAt.app {H : Hp} {plan : Plan} {ar nr : Nat → Addr} (h : JobsAt H plan ar nr) {x : Job} {t n : Addr} (h1 : H t = some (.tup [iN x.len, .ref n, iN x.room])) (h2 : H n = some (.tup (x.needs.map iN))) :
    JobsAt H (plan ++ [x]) (fun j => if j = plan.length then t else ar j) (fun j => if j = plan.length then n else nr j) := fun j hj => by
  rw [List.length_append, List.length_singleton] at hj
  unfold ln nd rm
  rw [jb_app]
  by_cases c : j < plan.length
  · have n : j ≠ plan.length := by omega
    simp only [if_pos c, if_neg n]
    exact h j c
  · have e : j = plan.length := by omega
    simp only [if_neg c, if_pos e]
    exact ⟨h1, h2⟩
theorem ts_zero {σ : L2.St} {H : Hp} {a l : Addr} {tb : TE} {P : Nat → Prop} (h : EsN a l tb σ H P) : ∀ H1, Sx a l H H1 → HS H1 a l → ∀ Q : Bool → Hp → Prop, (∀ b H2, Sx a l H1 H2 → HS H2 a l → Q b H2) → tTest (tOp rEq tb (tC (.int 0))) σ H1 Q := fun H1 e hs Q q =>
  h H1 e hs _ fun v H2 e2 hs2 ⟨n, _, ev⟩ => by
    subst ev
    exact ⟨rfl, _, rfl, q _ H2 e2 hs2⟩
theorem q_needs {σ : L2.St} {H : Hp} {a l : Addr} {ti : TA} {t : TT} {te : TE} {tz : TS} {D : L2.Ends} {vs : List Nat} {i j n : Nat} (hs : HS H a l) (hn : EvA ti σ (rst H a l) [iN n]) (hz : n ≤ 1000) (hw : ∀ x, wipe ((wipe σ vs).set j (some x)) vs = wipe σ vs)
    (ht : ∀ o, o < n → ∀ H1, Sx a l H H1 → HS H1 a l → ∀ Q : Bool → Hp → Prop, (∀ b H2, Sx a l H1 H2 → HS H2 a l → Q b H2) → t ((wipe σ vs).set j (some (iN o))) H1 Q) (he : ∀ o, o < n → Ev te ((wipe σ vs).set j (some (iN o))) (rst H a l) (iN o))
    (k : ∀ p H1 (r : List Nat), Sx a l H H1 → HS H1 a l → rst H1 a l p = some (.tup (r.map iN)) → r.Pairwise (· < ·) → (∀ o ∈ r, o < n) → tz D (σ.set i (some (.ref p))) H1) : tSeq (tAsg (tCB (rTupS K) (tCons (tLc (iRng1 ti) (gName j) t te vs) tNil)) (gName i)) tz D σ H :=
  (lc_S hn hz hw ht he H (Sx.refl a l H) hs (fun v H' => rTupS K [v] H' fun v H1 => gName i v σ H1 (tz D)) fun q H2 r hq e2 hs2 h2 r1 r2 r3 => ⟨q, _, rfl, .inl ⟨sq_of h2, fun p hp => by
    have n := hs2.ne hp
    have hs3 := hs2.upd (o := .tup (r.map iN)) n.1 n.2
    exact k p _ r (e2.trans (Sx.of (Ex.new hp))) hs3 (hs3.tup upd_same) r1 r2⟩⟩ : _)
theorem cal_law_plan (D : DefAt K mg "_law_plan" s__law_plan ["_law_h", "_law_most"]) (TX : Txt mg) (C_law_next : Cal P w K mg base 1 "_law_next" (sp_law_next)) (C_law_pick : Cal P w K mg base 2 "_law_pick" (sp_law_pick)) : Cal P w K mg base 3 "_law_plan" (sp_law_plan) := by
  have hnd := sc__law_plan.nd
  refine cal_of D sc__law_plan (fun vs H Q E h => ?len) (fun f cdv A outer s H vs Q E hr h => ?body)
  case len => obtain ⟨a, l, most, rfl, _⟩ := h; rfl
  case body =>
    obtain ⟨a, l, most, rfl, m1, m2, hs, k⟩ := h
    refine ⟨_, (pss_cons (ps_par3 (i := 4) (j := 5) (l := 6) rfl hnd rfl rfl rfl (by decide) (by decide) (by decide) rfl rfl rfl (pa_cons (pe_lst pa_nil) (pa_cons (pe_c C_law_pick hr (by decide) (by rfl) (pa_cons (pv 0) (pa_cons (pe_lst (pa_cons pe_int (pa_cons pe_int (pa_cons pe_int pa_nil)))) pa_nil))) (pa_cons (pe_c C_law_next hr (by decide) (by rfl) (pa_cons (pv 0) (pa_cons pe_int pa_nil))) pa_nil))) (by rfl))
      (pss_cons (ps_set (i := 2) hnd rfl (Or.inr rfl) (pe_op op_add pe_int (pe_c C_law_next hr (by decide) (by rfl) (pa_cons (pv 0) (pa_cons pe_int pa_nil)))))
      (pss_cons (ps_for PassesOwn.never rfl (pi_range1 (by rfl) TX.b_range (pa_cons (pe_op op_add pe_int (pe_c C_law_next hr (by decide) (by rfl) (pa_cons (pv 0) (pa_cons (pv 1) pa_nil)))) pa_nil)) (pg_name (i := 3) hnd rfl (Or.inl rfl)) (pss_cons (ps_set (i := 7) hnd rfl (Or.inl rfl) (pe_callTy call_tuple_of (by rfl) TX.b_tuple (by decide +kernel) (pa_cons (pe_lc (own := [("_law_one", 8)]) rfl hnd (pi_range1 (by rfl) TX.b_range (pa_cons (pv 3) pa_nil)) (blkOk_by (own := [("_law_one", 8)]) (N := N__law_plan) (sc := defScope s__law_plan) (by decide +kernel)) (fun _ _ _ _ _ => (pg_name (i := 8) hnd rfl (Or.inl rfl))) (fun _ _ _ _ _ => (pts_one (pt_cmpR op_eq (pe_c C_law_next hr (by decide) (by rfl) (pa_cons (pv 0) (pa_cons (pv 2) pa_nil))) pe_int (nomark _)))) (fun _ _ _ _ _ => (pv 8))) pa_nil)))
      (pss_one (ps_expr (pe_bm PySem.F.plainAttrs_list PySem.F.slot_list_append PySem.F.type_list_append mt_append (pv 4) (pa_cons (pe_tup (pa_cons (pe_op op_add pe_int (pe_c C_law_next hr (by decide) (by rfl) (pa_cons (pv 0) (pa_cons (pv 5) pa_nil)))) (pa_cons (pv 7) (pa_cons (pe_ifExp (pt_cmpR op_gt (pv 6) pe_int (nomark _)) (pe_c C_law_next hr (by decide) (by rfl) (pa_cons (pv 0) (pa_cons pe_int pa_nil))) pe_int) pa_nil)))) pa_nil))))))
      (pss_one (ps_ret (pe_callTy call_tuple_of (by rfl) TX.b_tuple (by decide +kernel) (pa_cons (pv 4) pa_nil))))))), ?_⟩
    refine q_par3S hs (el_lst ea_nil (by show 0 ≤ 100000; decide)) (es_pick (xs := [2, 5, 9]) (ev_var rfl) (el_lst (ea_cons ev_c (ea_cons ev_c (ea_cons ev_c ea_nil))) (by show 3 ≤ 100000; decide)) (by decide) (by decide)) (es_next (cap := 3) (ev_var rfl) ev_c (by decide) (by decide)) fun fl cap ro H1 hfl e1 hs1 h1 hc hr => ?_
    refine q_asgS hs1 (es_add (k := 2) (es_next (cap := 3) (ev_var rfl) ev_c (by decide) (by decide))) fun v H2 e2 hs2 ⟨sh, ⟨m, hm, esh⟩, ev⟩ => ?_
    subst ev
    have nfl := hs.ne hfl
    have h2 : rst H2 a l fl = some (.lst []) := e2.rs _ _ (rst_at h1 nfl.1 nfl.2)
    have e02 := e1.trans e2
    have hcap : 1 ≤ cap ∧ cap ≤ 9 := by
      simp at hc
      omega
    refine q_forRS (P := fun n => ∃ m, m < most ∧ n = 1 + m) hs2 (es_add (k := 1) (es_next (ev_var rfl) (ev_var rfl) m1 (by omega))) (fun n ⟨m, h1, h2⟩ => by omega)
      (fun n i σ' H' => ∃ u3 u7 plan ar nr, σ' = [some (.ref a), some (iN most), some (iN sh), u3, some (.ref fl), some (iN cap), some (iN ro), u7, none] ∧ Sx a l H H' ∧ HS H' a l ∧ plan.length = i ∧ rst H' a l fl = some (.lst ((List.range i).map fun j => V.ref (ar j))) ∧ JobsAt (rst H' a l) plan ar nr ∧ JobsOk plan)
      (fun n H3 hn e3 hs3 => ⟨none, none, [], fun _ => 0, fun _ => 0, rfl, e02.trans e3, hs3, rfl, e3.rs _ _ h2, (fun j h => absurd h (Nat.not_lt_zero _)), ⟨fun j h => absurd h (Nat.not_lt_zero _), fun j h => absurd h (Nat.not_lt_zero _), fun j h => absurd h (Nat.not_lt_zero _)⟩⟩) ?_ ?_
    · rintro n i σ' H3 ⟨mn, hmn, rfl⟩ hi ⟨u3, u7, plan, ar, nr, rfl, e3, hs3, hpl, h3, hj, ok⟩
      refine q_needs (n := i) hs3 (ea_cons (ev_var rfl) ea_nil) (by omega) (fun _ => rfl) (fun o ho H4 e4 hs4 Q q => ?_) (fun o ho => ev_var rfl) fun nn H4 r e4 hs4 h4 r1 r2 => ?_
      · exact ts_zero (es_next (cap := sh) (ev_var rfl) (ev_var rfl) (by omega) (by omega)) H4 e4 hs4 Q q
      · refine s_appS hs4 (e4.rs _ _ h3) (ev_var rfl) (es_job (P1 := fun n => ∃ m, m < cap ∧ n = 1 + m) (P3 := fun n => n < 4) (es_add (k := 1) (es_next (ev_var rfl) (ev_var rfl) hcap.1 (by omega))) (ev_var rfl) h4 (es_if (b := decide (0 < ro)) (et_test (ev_gtN (b := 0) (ev_var rfl) ev_c)) (fun _ => es_next (cap := 4) (ev_var rfl) ev_c (by decide) (by decide)) fun _ => es_N (n := 0) ev_c (by decide))) (by rw [List.length_map, List.length_range]; omega) fun v H5 e5 hs5 h5 ⟨tj, n1, n3, ev, h6, ⟨m', hm', en1⟩, hn3⟩ => ?_
        subst ev
        have nf : fl ≠ a ∧ fl ≠ l := ⟨(rst_ne h5).1, (rst_ne h5).2.1⟩
        have h5' := (rst_ne h5).2.2
        have hs6 := hs5.upd (o := .lst ((List.range i).map (fun j => V.ref (ar j)) ++ [.ref tj])) nf.1 nf.2
        have rtk : Tk (rst H5 a l) (rst (L2.upd H5 fl (.lst ((List.range i).map (fun j => V.ref (ar j)) ++ [.ref tj]))) a l) := fun b xs hb => by
          obtain ⟨b1, b2, b3⟩ := rst_ne hb
          refine rst_at ?_ b1 b2
          rw [upd_ne (fun z => by rw [z, h5'] at b3; cases b3)]
          exact b3
        have rtk3 : Tk (rst H3 a l) (rst (L2.upd H5 fl (.lst ((List.range i).map (fun j => V.ref (ar j)) ++ [.ref tj]))) a l) := (Tk.of (e4.trans e5).rs).trans rtk
        refine ⟨_, _, plan ++ [⟨n1, r, n3⟩], fun j => if j = plan.length then tj else ar j, fun j => if j = plan.length then nn else nr j, rfl, (e3.trans (e4.trans e5)).mut hfl, hs6, by rw [List.length_append, List.length_singleton, hpl], ?_, ?_, ?_⟩
        · refine rst_at ?_ nf.1 nf.2
          rw [upd_same, List.range_succ, List.map_append, hpl]
          congr 2
          congr 1
          · refine List.map_congr_left fun j hj => ?_
            have := List.mem_range.mp hj
            show V.ref (ar j) = V.ref (if j = i then tj else ar j)
            rw [if_neg (by omega)]
          · simp
        · refine JobsAt.app (fun j hj' => ?_) (rtk _ _ h6) (rtk _ _ (e5.rs _ _ h4))
          exact ⟨rtk3 _ _ (hj j hj').1, rtk3 _ _ (hj j hj').2⟩
        · refine ok.app ?_ ⟨r1, by rw [hpl]; exact r2⟩ ?_
          · show 1 ≤ n1 ∧ n1 ≤ 9
            omega
          · show n3 ≤ 9
            omega
    · rintro n σ' H3 ⟨mn, hmn, rfl⟩ ⟨u3, u7, plan, ar, nr, rfl, e3, hs3, hpl, h3, hj, ok⟩
      refine s_retU (eu_tupK (ev_var rfl) (rst_ne h3).2.2) fun p H4 hp e4 h4 => ?_
      have hs4 := hs3.up e4
      refine k _ H4 (e3.trans (Sx.of e4)) hs4 ⟨p, plan, rfl, ⟨ar, nr, ?_, fun j hj' => ?_⟩, ⟨by omega, by omega, ok.len, ok.needs, ok.room⟩⟩
      · rw [hpl]; exact hs4.tup h4
      · obtain ⟨q1, q2⟩ := hj j hj'
        exact ⟨(Sx.of e4).rs _ _ q1, (Sx.of e4).rs _ _ q2⟩
end
end Wk
end

section
set_option Elab.async false
set_option linter.all false
set_option maxRecDepth 100000
set_option maxHeartbeats 4000000
namespace Wk
open PySem PySem.Spec PyProof.Rows L2 Evl
open Mx (Plan Beg Job jb ln nd rm ks look has T)
section
variable {P : Program} {w : World} {K : PySem.W.Frag} {mg : Str → Option Value} {base : Heap}
/-! ### _law_plan_fit -/
abbrev s__law_plan_fit : Stmt := topS 54
abbrev N__law_plan_fit : List Str := ["_law_plan_here", "_law_begins", "_law_machines", "_law_room", "_law_job", "_law_one", "_law_now"]
theorem sc__law_plan_fit : FnScope N__law_plan_fit ["_law_plan_here", "_law_begins", "_law_machines", "_law_room"] (defScope s__law_plan_fit) := ⟨rfl, rfl, rfl, by decide +kernel, rfl, by decide +kernel, by decide +kernel⟩
def sp_law_plan_fit : Sp := fun vs H Q _ => ∃ (p d : Addr) (plan : Plan) (b : Beg) (M R : Nat), vs = [.ref p, .ref d, iN M, iN R] ∧ PB H p d plan b ∧ (∀ j, j < plan.length → (nd plan j).length ≤ 1000) ∧ Ret Q H (.bl (Mx.fit plan b M R))
theorem fit_no {plan : Plan} {b : Beg} {M R j : Nat} (hj : j ∈ ks b) (h : Mx.fitAt plan b M R j = false) : Mx.fit plan b M R = false := by
  unfold Mx.fit
  rw [List.all_eq_false]
  exact ⟨j, hj, by rw [h]; exact Bool.false_ne_true⟩
theorem all_take {f : Nat → Bool} {xs : List Nat} {i x : Nat} (h : xs[i]? = some x) (h1 : (xs.take i).all f = true) (h2 : f x = true) : (xs.take (i + 1)).all f = true := by
  rw [List.take_add_one, h, List.all_append, h1]
  simp [h2]
theorem _root_.Wk.EvI.mono {wi : TI} {σ : L2.St} {H H' : Hp} {items : List V} (e : Ex H H') (h : EvI wi σ H items) : EvI wi σ H' items := fun H1 a R q => h H1 (e.trans a) R q
theorem cal_law_plan_fit (D : DefAt K mg "_law_plan_fit" s__law_plan_fit ["_law_plan_here", "_law_begins", "_law_machines", "_law_room"]) (TX : Txt mg) : Cal P w K mg base 1 "_law_plan_fit" (sp_law_plan_fit) := by
  have hnd := sc__law_plan_fit.nd
  refine cal_of D sc__law_plan_fit (fun vs H Q E h => ?len) (fun f cdv A outer s H vs Q E hr h => ?body)
  case len => obtain ⟨p, d, plan, b, M, R, rfl, _⟩ := h; rfl
  case body =>
    obtain ⟨p, d, plan, b, M, R, rfl, hB, hn, k⟩ := h
    refine ⟨_, (pss_cons (ps_lock (ps_for PassesOwn.never rfl (pi_keys (pv 1)) (pg_name (i := 4) hnd rfl (Or.inr rfl)) (pss_cons (ps_for PassesOwn.never rfl (pi_tup (pe_ix (ix_tK K rfl) (pe_ix (ix_tK K rfl) (pv 0) (pv 4) (fun _ _ => rfl)) pe_int (fun _ _ => rfl))) (pg_name (i := 5) hnd rfl (Or.inl rfl)) (pss_one (ps_if (PW.pt (pw_or (pt_cmp (pc_dnotin (hu_of hr) (pv 5) (pv 1))) (pw_or1 (pt_cmpR op_gt (pe_op op_add (pe_dget (hu_of hr) (pv 1) (pv 5) (fun _ _ => rfl)) (pe_ix (ix_tK K rfl) (pe_ix (ix_tK K rfl) (pv 0) (pv 5) (fun _ _ => rfl)) pe_int (fun _ _ => rfl))) (pe_dget (hu_of hr) (pv 1) (pv 4) (fun _ _ => rfl)) (nomark _))))) (pss_one (ps_ret pe_bl)) pss_nil)))
      (pss_cons (ps_setLc (i := 6) (own := [("_law_one", 5)]) rfl hnd rfl rfl (sw_true rfl rfl rfl (by decide +kernel)) (pi_keys (pv 1)) (blkOk_by (own := [("_law_one", 5)]) (N := N__law_plan_fit) (sc := defScope s__law_plan_fit) (by decide +kernel)) (fun _ _ _ _ _ => (pg_name (i := 5) hnd rfl (Or.inl rfl))) (fun _ _ _ _ _ => (pts_one (pt_chain op_le op_lt (pe_dget (hu_of hr) (pv 1) (pv 5) (fun _ _ => rfl)) (pe_dget (hu_of hr) (pv 1) (pv 4) (fun _ _ => rfl)) (pe_op op_add (pe_dget (hu_of hr) (pv 1) (pv 5) (fun _ _ => rfl)) (pe_ix (ix_tK K rfl) (pe_ix (ix_tK K rfl) (pv 0) (pv 5) (fun _ _ => rfl)) pe_int (fun _ _ => rfl)))))) (fun _ _ _ _ _ => (pv 5)))
      (pss_one (ps_if (PW.pt (pw_or (pt_cmpR op_gt (pe_callB call_len_seq (by rfl) TX.b_len (by decide +kernel) (pa_cons (pv 6) pa_nil)) (pv 2) (nomark _)) (pw_or1 (pt_cmpR op_gt (pe_callB (cr_sum rfl) (by rfl) TX.b_sum (by decide +kernel) (pa_cons (pe_lc (own := [("_law_one", 5)]) rfl hnd (pi_list (pv 6)) (blkOk_by (own := [("_law_one", 5)]) (N := N__law_plan_fit) (sc := defScope s__law_plan_fit) (by decide +kernel)) (fun _ _ _ _ _ => (pg_name (i := 5) hnd rfl (Or.inl rfl))) (fun _ _ _ _ _ => pts_nil) (fun _ _ _ _ _ => (pe_ix (ix_tK K rfl) (pe_ix (ix_tK K rfl) (pv 0) (pv 5) (fun _ _ => rfl)) pe_int (fun _ _ => rfl)))) pa_nil)) (pv 3) (nomark _))))) (pss_one (ps_ret pe_bl)) pss_nil))))))
      (pss_one (ps_ret pe_bl))), ?_⟩
    refine ⟨d, .dK (begV b), hB.bg, True.intro, fun od => ?_⟩
    obtain ⟨PL, BR⟩ := hB.lock od
    have un : ∀ H', Ex (L2.upd H d (.frz od (.dK (begV b)))) H' → H' d = some (.frz od (.dK (begV b))) ∧ Ex H (L2.upd H' d (.dK (begV b))) := fun H' e => ⟨e _ _ upd_same, Ex.unlock hB.bg e⟩
    have kys : ∀ (σ : L2.St), σ[1]? = some (some (.ref d)) → EvI (iKeys (tVar 1)) σ (L2.upd H d (.frz od (.dK (begV b)))) ((ks b).map iN) := fun σ h => hB.keys od (ev_var h)
    generalize L2.upd H d (.frz od (.dK (begV b))) = H0 at PL BR un kys
    refine s_forI (kys _ rfl) (fun H2 i σ' H' => ∃ u4 u5 u6, σ' = [some (.ref p), some (.ref d), some (iN M), some (iN R), u4, u5, u6] ∧ Ex H2 H' ∧ ((ks b).take i).all (Mx.fitAt plan b M R) = true) (fun H2 e2 => ⟨_, _, _, rfl, Ex.refl _, rfl⟩) (fun H2 i σ' H' ⟨_, _, _, _, e, _⟩ => e) ?_ ?_
    · rintro H2 i x σ' H3 e2 hx ⟨u4, u5, u6, rfl, e3, hI⟩
      rw [List.getElem?_map] at hx
      obtain ⟨j, hj0, rfl⟩ := Option.map_eq_some_iff.mp hx
      have hjk : j ∈ ks b := List.mem_of_getElem? hj0
      have hj := hB.lt j hjk
      have e03 := e2.trans e3
      obtain ⟨na, n1, n2⟩ := ev_nd (K := K) (σ := [some (.ref p), some (.ref d), some (iN M), some (iN R), some (iN j), u5, u6]) (tp := tVar 0) (tj := tVar 4) (ev_var rfl) (ev_var rfl) (PL.ex e03) hj
      refine q_forTn n2 (st_of n1) (fun m σ' H' => ∃ u5, σ' = [some (.ref p), some (.ref d), some (iN M), some (iN R), some (iN j), u5, u6] ∧ Ex H3 H' ∧ ((nd plan j).take m).all (fun o => !(!(has b o) || decide (T b j < Mx.fin plan b o))) = true) (fun H4 e4 => ⟨_, rfl, e4, rfl⟩) (fun m σ' H' _ ⟨_, _, e, _⟩ => st_of (e _ _ n1)) ?_ ?_
      · rintro m x σ' H4 hx ⟨u5, rfl, e4, hA⟩
        rw [List.getElem?_map] at hx
        obtain ⟨o, ho0, rfl⟩ := Option.map_eq_some_iff.mp hx
        have ho : o ∈ nd plan j := List.mem_of_getElem? ho0
        have e04 := e03.trans e4
        refine s_when (b := !(has b o) || decide (T b j < Mx.fin plan b o)) (et_or (et_test (ev_dnotin (ev_var rfl) (ev_var rfl) (BR.ex e04))) fun hh => et_test ?_) (fun hb H5 e5 => ?_) fun hb H5 e5 => ?_
        · have hk := Mx.has_iff.mp (show has b o = true by simpa using hh)
          exact ev_gtN (ev_addN (ev_dget (ev_var rfl) (ev_var rfl) (BR.ex e04) hk) (ev_len (ev_var rfl) (ev_var rfl) (PL.ex e04) (hB.lt o hk))) (ev_dget (ev_var rfl) (ev_var rfl) (BR.ex e04) hjk)
        · have hf : Mx.fit plan b M R = false := fit_no hjk (by
            unfold Mx.fitAt
            rw [Bool.and_eq_false_iff]
            left
            rw [List.all_eq_false]
            exact ⟨o, ho, by rw [hb]; decide⟩)
          rw [hf] at k
          exact s_ret ev_c fun H6 e6 => ⟨(un H6 ((e04.trans e5).trans e6)).1, k _ (un H6 ((e04.trans e5).trans e6)).2⟩
        · exact ⟨_, rfl, e4.trans e5, all_take ho0 hA (by rw [hb]; rfl)⟩
      · rintro σ' H4 ⟨u5, rfl, e4, hA⟩
        rw [List.length_map, List.take_length] at hA
        have e04 := e03.trans e4
        have PL4 := PL.ex e04
        have BR4 := BR.ex e04
        refine q_asgL (xs := ((ks b).filter (Mx.runs plan b (T b j))).map iN) (lc_n (ks b) iN (Mx.runs plan b (T b j)) iN ((kys _ rfl).mono e04) hB.kz (fun _ => rfl) (fun o ho => et_test (ev_chain (ev_dget (ev_var rfl) (ev_var rfl) BR4 ho) (ev_dget (ev_var rfl) (ev_var rfl) BR4 hjk) rv_leN fun _ => ⟨ev_addN (ev_dget (ev_var rfl) (ev_var rfl) BR4 ho) (ev_len (ev_var rfl) (ev_var rfl) PL4 (hB.lt o ho)), rv_ltN⟩)) (fun o ho _ => ev_var rfl)) fun nl H5 hnl e5 h5 => ?_
        have e05 := e04.trans e5
        have PL5 := PL.ex e05
        have hkz := hB.kz
        have hfl := List.length_filter_le (Mx.runs plan b (T b j)) (ks b)
        refine s_when (b := decide (M < Mx.running plan b (T b j)) || decide (R < Mx.rooms plan b (T b j))) (et_or (et_test (ev_gtN (ev_is (Evl.ev_len (ev_var rfl) (sq_of h5)) (by rw [List.length_map]; rfl)) (ev_var rfl))) fun _ => et_test (ev_gtN (ev_sumF (xs := (ks b).filter (Mx.runs plan b (T b j))) (f := rm plan) (lc_0 _ iN (fun o => iN (rm plan o)) (ei_list (ev_var rfl) (sq_of h5)) (by omega) (fun _ => rfl) fun o ho => ev_rm (ev_var rfl) (ev_var rfl) PL5 (hB.lt o (List.mem_filter.mp ho).1))) (ev_var rfl))) (fun hb H6 e6 => ?_) fun hb H6 e6 => ?_
        · have hf : Mx.fit plan b M R = false := fit_no hjk (by
            unfold Mx.fitAt
            rw [hb, Bool.not_true, Bool.and_false])
          rw [hf] at k
          exact s_ret ev_c fun H7 e7 => ⟨(un H7 ((e05.trans e6).trans e7)).1, k _ (un H7 ((e05.trans e6).trans e7)).2⟩
        · refine ⟨_, _, _, rfl, (e3.trans e4).trans (e5.trans e6), all_take hj0 hI ?_⟩
          unfold Mx.fitAt
          rw [hA, hb]
          rfl
    · rintro H2 σ' H3 e2 ⟨u4, u5, u6, rfl, e3, hI⟩
      rw [List.length_map, List.take_length] at hI
      have hf : Mx.fit plan b M R = true := hI
      rw [hf] at k
      have u := un H3 (e2.trans e3)
      exact ⟨u.1, k _ u.2⟩
/-! ### _law_plan_orders -/
section
variable {σ : L2.St} {H : Hp} {ta tb te : TE} {tz : TS} {D : L2.Ends}
theorem el_catR {xs : List V} {R : List V → Hp → Prop} (hRm : ∀ ys H H', Tk H H' → R ys H → R ys H') (ha : EvK ta σ H xs) (hb : EvLR tb σ H R) (hl : ∀ ys H', R ys H' → xs.length + ys.length ≤ 100000) : EvLR (tOp rCat ta tb) σ H fun zs H' => ∃ ys, zs = xs ++ ys ∧ R ys H' := fun H1 e Q q =>
  ha H1 e _ fun p H2 e2 h2 => hb H2 (e.trans e2) _ fun p2 ys H3 hp2 e3 h3 r => ⟨p, p2, xs, ys, rfl, rfl, e3 _ _ h2, h3, sz_of (hl ys H3 r), fun l hn => q l _ _ (fresh_back (e2.trans e3) hn) ((e2.trans e3).trans (Ex.new hn)) upd_same ⟨ys, rfl, hRm _ _ _ (Tk.of (Ex.new hn)) r⟩⟩
theorem q_parN {i j : Nat} {o : HO} {y : V} (ha : EvN ta σ H o) (hb : Ev tb σ H y) (k : ∀ p H1, H p = none → Ex H H1 → H1 p = some o → tz D ((σ.set i (some (.ref p))).set j (some y)) H1) : tSeq (tPar i j (tCons ta (tCons tb tNil))) tz D σ H :=
  ha H (Ex.refl H) _ fun p H1 hp e1 h1 => hb H1 e1 _ fun H2 e2 => ⟨.ref p, y, rfl, k p H2 hp (e1.trans e2) (e2 _ _ h1)⟩
end
abbrev s__law_plan_orders : Stmt := topS 55
abbrev N__law_plan_orders : List Str := ["_law_many", "_law_found", "_law_k", "_law_longer", "_law_row", "_law_job"]
theorem sc__law_plan_orders : FnScope N__law_plan_orders ["_law_many"] (defScope s__law_plan_orders) := ⟨rfl, rfl, rfl, by decide +kernel, rfl, by decide +kernel, by decide +kernel⟩
def sp_law_plan_orders : Sp := fun vs H Q _ => ∃ n : Nat, vs = [iN n] ∧ n ≤ 6 ∧ RetLR (fun ws H' => Paired (fun o x => OrdR H' o x) (Mx.ords n) ws) H Q
theorem cal_law_plan_orders (D : DefAt K mg "_law_plan_orders" s__law_plan_orders ["_law_many"]) (TX : Txt mg) : Cal P w K mg base 1 "_law_plan_orders" (sp_law_plan_orders) := by
  have hnd := sc__law_plan_orders.nd
  refine cal_of D sc__law_plan_orders (fun vs H Q E h => ?len) (fun f cdv A outer s H vs Q E hr h => ?body)
  case len => obtain ⟨n, rfl, _⟩ := h; rfl
  case body =>
    obtain ⟨n, rfl, hn, k⟩ := h
    refine ⟨_, (pss_cons (ps_set (i := 1) hnd rfl (Or.inl rfl) (pe_lst (pa_cons (pe_tup pa_nil) pa_nil)))
      (pss_cons (ps_for PassesOwn.never rfl (pi_range1 (by rfl) TX.b_range (pa_cons (pv 0) pa_nil)) (pg_name (i := 2) hnd rfl (Or.inl rfl)) (pss_cons (ps_set (i := 3) hnd rfl (Or.inl rfl) (pe_lst pa_nil))
      (pss_cons (ps_for PassesOwn.never rfl (pi_list (pv 1)) (pg_name (i := 4) hnd rfl (Or.inr rfl)) (pss_one (ps_set (i := 3) hnd rfl (Or.inl rfl) (pe_op op_cat (pv 3) (pe_lc (own := [("_law_job", 5)]) rfl hnd (pi_range1 (by rfl) TX.b_range (pa_cons (pv 0) pa_nil)) (blkOk_by (own := [("_law_job", 5)]) (N := N__law_plan_orders) (sc := defScope s__law_plan_orders) (by decide +kernel)) (fun _ _ _ _ _ => (pg_name (i := 5) hnd rfl (Or.inl rfl))) (fun _ _ _ _ _ => (pts_one (pt_cmpR (op_niK K rfl) (pv 5) (pv 4) (by rfl)))) (fun _ _ _ _ _ => (pe_op (op_catK K rfl) (pv 4) (pe_tup (pa_cons (pv 5) pa_nil)))))))))
      (pss_one (ps_set (i := 1) hnd rfl (Or.inl rfl) (pv 3))))))
      (pss_one (ps_ret (pv 1))))), ?_⟩
    refine q_asgL1 en_tup0 fun f0 a0 H1 hf0 e1 h1 h2 => ?_
    refine q_forR1 (n := (n : Int)) (ea_cons (ev_var rfl) ea_nil) (by omega) (fun i σ' H' => ∃ fd u2 u3 u4 ws, σ' = [some (iN n), some (.ref fd), u2, u3, u4, none] ∧ Ex H H' ∧ H fd = none ∧ H' fd = some (.lst ws) ∧ Paired (fun o x => OrdR H' o x) (Mx.ordsTo n i) ws)
      (fun H2 e2 => ⟨f0, none, none, none, [.ref a0], rfl, e1.trans e2, hf0, e2 _ _ h1, .cons ⟨a0, rfl, e2 _ _ h2⟩ .nil⟩) ?_ ?_
    · rintro i σ' H2 hi ⟨fd, u2, u3, u4, ws, rfl, e2, hfd, g1, g2⟩
      have hi : i < n := by omega
      have small := Mx.ords_small (k := i) hn (by omega)
      have hwl := Paired.length g2
      refine q_asgL (xs := []) (el_lst ea_nil (by show 0 ≤ 100000; decide)) fun l0 H3 hl0 e3 h3 => ?_
      refine q_forLn (ev_var rfl) (sq_of (e3 _ _ g1)) (fun m σ' H' => ∃ lo u4 ls, σ' = [some (iN n), some (.ref fd), some (iN i), some (.ref lo), u4, none] ∧ Ex H2 H' ∧ H2 lo = none ∧ H' lo = some (.lst ls) ∧ Paired (fun o x => OrdR H' o x) (((Mx.ordsTo n i).take m).flatMap (Mx.grow n)) ls)
        (fun H4 e4 => ⟨l0, u4, [], rfl, e3.trans e4, hl0, e4 _ _ h3, .nil⟩) (fun m σ' H' _ ⟨_, _, _, _, e, _⟩ => sq_of (e _ _ g1)) ?_ ?_
      · rintro m x σ' H4 hx ⟨lo, u4, ls, rfl, e4, hlo, g3, g4⟩
        obtain ⟨row, hrow, a, rfl, ha⟩ := paired_get g2 m x hx
        have ha4 := e4 _ _ ha
        have hm : row ∈ Mx.ordsTo n i := List.mem_of_getElem? hrow
        have I := Mx.ords_ok n i row hm
        have hrl := I.len
        have hll : ls.length ≤ 720 * 6 := by
          rw [← Paired.length g4]
          refine Nat.le_trans (Mx.flat_len fun r hr => Mx.ords_ok n i r (List.mem_of_mem_take hr)) (Nat.mul_le_mul ?_ (by omega))
          rw [List.length_take]
          omega
        refine s_asgLR (el_catR (R := fun ys H' => Paired (fun o x => OrdR H' o x) (Mx.grow n row) ys) (fun ys H H' t r => Paired.mapP r fun o x r => r.tk t) (EvK.at (ev_var rfl) g3) (EvLR.imp (lc_R (te := _) (List.range n) iN (fun j => !row.contains j) (fun j => [some (iN n), some (.ref fd), some (iN i), some (.ref lo), some (.ref a), some (iN j)]) (fun j v H' => OrdR H' (row ++ [j]) v) (fun _ _ _ _ t h => h.tk t) (ei_range1 (ea_cons (ev_var rfl) ea_nil) (by omega)) (by rw [List.length_range]; omega) (fun j hj H1 _ Q q => q H1 (Ex.refl H1)) (fun j hj => rfl) (fun j hj => et_test (ev_niN (ev_var rfl) (ev_var rfl) ha4)) (fun j hj _ => er_row (ev_var rfl) ha4 (ev_var rfl) (by omega))) fun ys H5 e5 r => ?_) fun ys H5 r => ?_) fun q zs H5 hq e5 h5 ⟨ys, ez, r⟩ => ?_
        · exact paired_map (f := fun j => row ++ [j]) r
        · have := Paired.length r
          have := Mx.miss_len I
          unfold Mx.grow at *
          rw [List.length_map] at *
          omega
        · refine ⟨q, _, zs, rfl, e4.trans e5, fresh_back e4 hq, h5, ?_⟩
          subst ez
          rw [List.take_add_one, hrow, List.flatMap_append]
          refine paired_app (Paired.mapP g4 fun o x r => r.tk (Tk.of e5)) ?_
          show Paired _ (List.flatMap (Mx.grow n) [row]) _
          rw [List.flatMap_cons, List.flatMap_nil, List.append_nil]
          exact r
      · rintro σ' H4 ⟨lo, u4, ls, rfl, e4, hlo, g3, g4⟩
        rw [← hwl, List.take_length] at g4
        exact s_asg (ev_var rfl) fun H5 e5 => ⟨lo, _, _, _, ls, rfl, (e2.trans e4).trans e5, fresh_back e2 hlo, e5 _ _ g3, Paired.mapP g4 fun o x r => r.tk (Tk.of e5)⟩
    · rintro σ' H2 ⟨fd, u2, u3, u4, ws, rfl, e2, hfd, g1, g2⟩
      exact s_ret (ev_var rfl) fun H3 e3 => k fd ws H3 hfd (e2.trans e3) (e3 _ _ g1) (Paired.mapP g2 fun o x r => r.tk (Tk.of e3))
/-! ### _law_list_told -/
abbrev s__law_list_told : Stmt := topS 56
abbrev N__law_list_told : List Str := ["_law_plan_here", "_law_machines", "_law_room", "_law_order", "_law_begins", "_law_moment", "_law_job", "_law_later"]
theorem sc__law_list_told : FnScope N__law_list_told ["_law_plan_here", "_law_machines", "_law_room", "_law_order"] (defScope s__law_list_told) := ⟨rfl, rfl, rfl, by decide +kernel, rfl, by decide +kernel, by decide +kernel⟩
structure Tol (H : Hp) (p o : Addr) (plan : Plan) (M R : Nat) (order : List Nat) : Prop where
  as : Asked H p plan M R
  tu : H o = some (.tup (order.map iN))
  od : Mx.Ord plan order
  sz : order.length ≤ 1000
theorem Tol.ex {H H' : Hp} {p o : Addr} {plan : Plan} {M R : Nat} {order : List Nat} (e : Ex H H') (h : Tol H p o plan M R order) : Tol H' p o plan M R order := ⟨h.as.ex e, e _ _ h.tu, h.od, h.sz⟩
def sp_law_list_told : Sp := fun vs H Q _ => ∃ (p o : Addr) (plan : Plan) (M R : Nat) (order : List Nat), vs = [.ref p, iN M, iN R, .ref o] ∧ Tol H p o plan M R order ∧ (Mx.planFits plan R = false → Ret Q H .non) ∧ (Mx.planFits plan R = true → RetN (.dK (begV (Mx.begins plan M R order))) H Q)
theorem big_void {plan : Plan} {R : Nat} (f : Nat → V) : (((List.range plan.length).filter fun j => decide (R < rm plan j)).map f).isEmpty = Mx.planFits plan R := by
  rw [Bool.eq_iff_iff, List.isEmpty_iff, List.map_eq_nil_iff, List.filter_eq_nil_iff]
  constructor
  · intro h
    unfold Mx.planFits
    rw [List.all_eq_true]
    intro x hx
    obtain ⟨i, hi, rfl⟩ := List.getElem_of_mem hx
    have := h i (List.mem_range.mpr hi)
    have e : jb plan i = plan[i] := by
      unfold jb
      rw [List.getD_eq_getElem?_getD, List.getElem?_eq_getElem hi]
      rfl
    unfold rm at this
    rw [e] at this
    simpa using this
  · intro h j hj
    have := Mx.fits_room h (List.mem_range.mp hj)
    simp
    omega
theorem cal_law_list_told (D : DefAt K mg "_law_list_told" s__law_list_told ["_law_plan_here", "_law_machines", "_law_room", "_law_order"]) (TX : Txt mg) (C_law_plan_fit : Cal P w K mg base 1 "_law_plan_fit" (sp_law_plan_fit)) : Cal P w K mg base 2 "_law_list_told" (sp_law_list_told) := by
  have hnd := sc__law_list_told.nd
  refine cal_of D sc__law_list_told (fun vs H Q E h => ?len) (fun f cdv A outer s H vs Q E hr h => ?body)
  case len => obtain ⟨p, o, plan, M, R, order, rfl, _⟩ := h; rfl
  case body =>
    obtain ⟨p, o, plan, M, R, order, rfl, hA, k1, k2⟩ := h
    refine ⟨_, (pss_cons (ps_if (pt_cmpR (op_neL0 hr.units0) (pe_lc (own := [("_law_job", 6)]) rfl hnd (pi_tup (pv 0)) (blkOk_by (own := [("_law_job", 6)]) (N := N__law_list_told) (sc := defScope s__law_list_told) (by decide +kernel)) (fun _ _ _ _ _ => (pg_name (i := 6) hnd rfl (Or.inl rfl))) (fun _ _ _ _ _ => (pts_one (pt_cmpR op_gt (pe_ix (ix_tK K rfl) (pv 6) pe_int (fun _ _ => rfl)) (pv 2) (nomark _)))) (fun _ _ _ _ _ => (pv 6))) (pe_lst pa_nil) (nomark _)) (pss_one (ps_ret pe_non)) pss_nil)
      (pss_cons (ps_par (i := 4) (j := 5) rfl hnd rfl rfl (by decide) rfl rfl (pa_cons pe_dnewK (pa_cons pe_int pa_nil)) (by rfl))
      (pss_cons (ps_while PassesOwn.never (pt_cmpR op_lt (pe_callB call_lenD (by rfl) TX.b_len (by decide +kernel) (pa_cons (pv 4) pa_nil)) (pe_callB call_len_seq (by rfl) TX.b_len (by decide +kernel) (pa_cons (pv 0) pa_nil)) (nomark _)) (pss_cons (ps_for PassesOwn.never rfl (pi_tup (pv 3)) (pg_name (i := 6) hnd rfl (Or.inl rfl)) (pss_one (ps_if (pt_cmp (pc_dnotin (hu_of hr) (pv 6) (pv 4))) (pss_cons (ps_set (i := 7) hnd rfl (Or.inl rfl) (pe_callTy call_dictD (by rfl) TX.b_dict (by decide +kernel) (pa_cons (pv 4) pa_nil)))
      (pss_cons (ps_dput (hu_of hr) (pv 7) (pv 6) (pv 5) rfl)
      (pss_one (ps_if (pt_val (pe_c C_law_plan_fit hr (by decide) (by rfl) (pa_cons (pv 0) (pa_cons (pv 7) (pa_cons (pv 1) (pa_cons (pv 2) pa_nil)))))) (pss_one (ps_set (i := 4) hnd rfl (Or.inl rfl) (pv 7))) pss_nil)))) pss_nil)))
      (pss_one (ps_set (i := 5) hnd rfl (Or.inl rfl) (pe_op op_add (pv 5) pe_int)))))
      (pss_one (ps_ret (pv 4)))))), ?_⟩
    have ok := hA.as.ok
    have m1 := hA.as.m1
    have hi6 := ok.hi
    obtain ⟨ar, nr, hp, hjb⟩ := id hA.as.pl
    refine q_when (b := !Mx.planFits plan R) (et_is (et_fullL (K := K) (xs := ((List.range plan.length).filter fun j => decide (R < rm plan j)).map fun j => V.ref (ar j)) (lc_n (List.range plan.length) (fun j => V.ref (ar j)) (fun j => decide (R < rm plan j)) (fun j => V.ref (ar j)) (ei_tup (ev_var rfl) (st_of hp)) (by rw [List.length_range]; omega) (fun _ => rfl) (fun j hj => et_test (ev_gtN (ev_op (ev_var rfl) (ev_c (v := .int ((2 : Nat) : Int))) (rv_ixT (st_of (hjb j (List.mem_range.mp hj)).1) (atI_nat rfl))) (ev_var rfl))) (fun j hj _ => ev_var rfl))) (by rw [big_void])) (fun hb H1 e1 => ?_) fun hb H1 e1 => ?_
    · have hF : Mx.planFits plan R = false := by simpa using hb
      exact s_ret ev_c fun H2 e2 => k1 hF H2 (e1.trans e2)
    · have hF : Mx.planFits plan R = true := by simpa using hb
      refine q_parN (y := iN 0) en_dict ev_c fun d0 H2 hd0 e2 h2 => ?_
      refine q_while (fun m σ' H' => ∃ (t : Nat) (d : Addr) (b : Beg) (u6 u7 : Option V), m = Mx.total plan + 2 - t ∧ σ' = [some (.ref p), some (iN M), some (iN R), some (.ref o), some (.ref d), some (iN t), u6, u7] ∧ Ex H H' ∧ H d = none ∧ H' d = some (.dK (begV b)) ∧ Mx.LoopL plan M R order t b)
        (Mx.total plan + 2) ⟨0, d0, [], none, none, rfl, rfl, e1.trans e2, fresh_back e1 hd0, h2, Mx.LoopL.nil⟩ ?_
      rintro m σ' H3 ⟨t, d, b, u6, u7, rfl, rfl, e3, hd, hb3, I⟩
      have hA3 := hA.ex e3
      refine ⟨decide (b.length < plan.length), et_test (ev_ltN (ev_lenD (ev_var rfl) hb3) (ev_lenP (ev_var rfl) hA3.as.pl)), fun hlt H4 e4 => ?_, fun hlt H4 e4 => ?_⟩
      · have hlt : b.length < plan.length := of_decide_eq_true hlt
        refine ⟨_, fun σ2 H2' h => h, ?_⟩
        have e34 := e3.trans e4
        have hA4 := hA.ex e34
        refine q_forTn (ev_var rfl) (st_of hA4.tu) (fun i σ' H' => ∃ d u6 u7, σ' = [some (.ref p), some (iN M), some (iN R), some (.ref o), some (.ref d), some (iN t), u6, u7] ∧ Ex H H' ∧ H d = none ∧ H' d = some (.dK (begV (Mx.sweepL plan M R t (order.take i) b)))) (fun H5 e5 => ⟨d, u6, u7, rfl, e34.trans e5, hd, e5 _ _ (e4 _ _ hb3)⟩) (fun i σ' H' _ ⟨_, _, _, _, e, _⟩ => st_of (e _ _ hA.tu)) ?_ ?_
        · rintro i x σ' H5 hx ⟨d, u6, u7, rfl, e5, hd, h5⟩
          rw [List.getElem?_map] at hx
          obtain ⟨j, hj0, rfl⟩ := Option.map_eq_some_iff.mp hx
          have hj : j < plan.length := hA.od.lt j (List.mem_of_getElem? hj0)
          have hlt' : ∀ j ∈ order.take i, j < plan.length := fun j hj => hA.od.lt j (List.mem_of_mem_take hj)
          have I1 : Mx.LI plan M R t (Mx.sweepL plan M R t (order.take i) b) := by
            rw [Mx.sweep_eq ok hlt' I.toLI]
            exact Mx.LI.sweep ok hlt' I.toLI
          have stp : Mx.sweepL plan M R t (order.take (i + 1)) b = Mx.stepL plan M R t (Mx.sweepL plan M R t (order.take i) b) j := by
            unfold Mx.sweepL
            rw [List.take_add_one, hj0, List.foldl_append]
            rfl
          rw [stp]
          generalize Mx.sweepL plan M R t (order.take i) b = b1 at h5 I1
          have bz := beg_small I1.nd I1.lt
          have hA5 := hA.ex e5
          refine s_when (b := !has b1 j) (et_test (ev_dnotin (ev_var rfl) (ev_var rfl) (.of h5))) (fun hc H6 e6 => ?_) fun hc H6 e6 => ?_
          · have c1 : has b1 j = false := by simpa using hc
            have hjn := Mx.has_false.mp c1
            refine q_asgN (en_dictOf (ev_var rfl) (e6 _ _ h5)) fun la H7 hla e7 h7 => ?_
            refine q_dput h7 hjn (by omega) (ev_var rfl) (ev_var rfl) (ev_var rfl) fun H8 e8 => ?_
            have e68 : Ex H6 (L2.upd H8 la (.dK (begV (b1 ++ [(j, t)])))) := Ex.mut (e7.trans e8) hla
            have h8 : (L2.upd H8 la (.dK (begV (b1 ++ [(j, t)])))) la = some (.dK (begV (b1 ++ [(j, t)]))) := upd_same
            generalize L2.upd H8 la (.dK (begV (b1 ++ [(j, t)]))) = H9 at e68 h8
            have e59 := e6.trans e68
            have pb : PB H9 p la plan (b1 ++ [(j, t)]) := ⟨(hA5.ex e59).as.pl, h8, fun o ho => by
              rw [Mx.ks_app] at ho
              rcases List.mem_append.mp ho with ho | ho
              · exact I1.lt o ho
              · rw [List.mem_singleton.mp ho]; exact hj, by rw [List.length_append, List.length_singleton]; omega⟩
            refine s_when (b := Mx.fit plan (b1 ++ [(j, t)]) M R) (et_B (ev_c1 (ea_cons (ev_var rfl) (ea_cons (ev_var rfl) (ea_cons (ev_var rfl) (ea_cons (ev_var rfl) ea_nil)))) fun H1 e Q q E => ⟨p, la, plan, _, M, R, rfl, pb.ex e, fun j hj => need_len ok hj, q⟩)) (fun hf H10 e10 => ?_) fun hf H10 e10 => ?_
            · refine s_asg (ev_var rfl) fun H11 e11 => ⟨la, _, _, rfl, e5.trans (e59.trans (e10.trans e11)), fresh_back (e5.trans e6) hla, ?_⟩
              unfold Mx.stepL
              rw [c1, hf]
              exact e11 _ _ (e10 _ _ h8)
            · refine ⟨d, _, _, rfl, e5.trans (e59.trans e10), hd, ?_⟩
              unfold Mx.stepL
              rw [c1, hf]
              exact e10 _ _ (e59 _ _ h5)
          · have c1 : has b1 j = true := by simpa using hc
            refine ⟨d, _, _, rfl, e5.trans e6, hd, ?_⟩
            unfold Mx.stepL
            rw [c1]
            exact e6 _ _ h5
        · rintro σ' H5 ⟨d, u6, u7, rfl, e5, hd, h5⟩
          rw [List.length_map, List.take_length] at h5
          have hle := I.toHI.tle hlt
          refine s_asg (v := iN (t + 1)) (ev_addN (b := 1) (ev_var rfl) ev_c) fun H6 e6 => ⟨Mx.total plan + 2 - (t + 1), by omega, t + 1, d, _, _, _, rfl, rfl, e5.trans e6, hd, e6 _ _ h5, I.next ok m1 hF hA.od hlt⟩
      · have hlt : ¬ b.length < plan.length := of_decide_eq_false hlt
        rw [I.done hlt] at hb3
        exact s_ret (ev_var rfl) fun H5 e5 => k2 hF d H5 hd (e3.trans (e4.trans e5)) (e5 _ _ (e4 _ _ hb3))
/-! ### _law_list_end -/
abbrev s__law_list_end : Stmt := topS 57
abbrev N__law_list_end : List Str := ["_law_plan_here", "_law_machines", "_law_room", "_law_order", "_law_begins", "_law_job"]
theorem sc__law_list_end : FnScope N__law_list_end ["_law_plan_here", "_law_machines", "_law_room", "_law_order"] (defScope s__law_list_end) := ⟨rfl, rfl, rfl, by decide +kernel, rfl, by decide +kernel, by decide +kernel⟩
def sp_law_list_end : Sp := fun vs H Q _ => ∃ (p o : Addr) (plan : Plan) (M R : Nat) (order : List Nat), vs = [.ref p, iN M, iN R, .ref o] ∧ Tol H p o plan M R order ∧ (Mx.planFits plan R = false → Ret Q H .non) ∧ (Mx.planFits plan R = true → Ret Q H (iN (Mx.lend plan M R order)))
theorem cal_law_list_end (D : DefAt K mg "_law_list_end" s__law_list_end ["_law_plan_here", "_law_machines", "_law_room", "_law_order"]) (TX : Txt mg) (C_law_list_told : Cal P w K mg base 2 "_law_list_told" (sp_law_list_told)) : Cal P w K mg base 3 "_law_list_end" (sp_law_list_end) := by
  have hnd := sc__law_list_end.nd
  refine cal_of D sc__law_list_end (fun vs H Q E h => ?len) (fun f cdv A outer s H vs Q E hr h => ?body)
  case len => obtain ⟨p, o, plan, M, R, order, rfl, _⟩ := h; rfl
  case body =>
    obtain ⟨p, o, plan, M, R, order, rfl, hA, k1, k2⟩ := h
    refine ⟨_, (pss_cons (ps_set (i := 4) hnd rfl (Or.inr rfl) (pe_c C_law_list_told hr (by decide) (by rfl) (pa_cons (pv 0) (pa_cons (pv 1) (pa_cons (pv 2) (pa_cons (pv 3) pa_nil))))))
      (pss_one (ps_ret (pe_ifExp (pt_cmpR op_notN (pv 4) pe_non (nomark _)) (pe_callB (cr_max rfl) (by rfl) TX.b_max (by decide +kernel) (pa_cons (pe_lock (pe_lc (own := [("_law_job", 5)]) rfl hnd (pi_keys (pv 4)) (blkOk_by (own := [("_law_job", 5)]) (N := N__law_list_end) (sc := defScope s__law_list_end) (by decide +kernel)) (fun _ _ _ _ _ => (pg_name (i := 5) hnd rfl (Or.inl rfl))) (fun _ _ _ _ _ => pts_nil) (fun _ _ _ _ _ => (pe_op op_add (pe_dget (hu_of hr) (pv 4) (pv 5) (fun _ _ => rfl)) (pe_ix (ix_tK K rfl) (pe_ix (ix_tK K rfl) (pv 0) (pv 5) (fun _ _ => rfl)) pe_int (fun _ _ => rfl)))))) pa_nil)) pe_non)))), ?_⟩
    have ok := hA.as.ok
    have hi6 := ok.hi
    have lo := ok.lo
    cases hF : Mx.planFits plan R with
    | false =>
      refine q_asg (v := .non) (ev_c1 (ea_cons (ev_var rfl) (ea_cons (ev_var rfl) (ea_cons (ev_var rfl) (ea_cons (ev_var rfl) ea_nil)))) fun H1 e Q q E => ⟨p, o, plan, M, R, order, rfl, hA.ex e, fun _ => q, fun z => by rw [hF] at z; cases z⟩) fun H1 e1 => ?_
      exact s_ret (v := .non) (ev_if (b := false) (et_test (ev_op (ev_var rfl) ev_c fun H2 e2 Q q => ⟨rfl, q H2 (Ex.refl H2)⟩)) (fun z => nomatch z) fun _ => ev_c) fun H2 e2 => k1 hF H2 (e1.trans e2)
    | true =>
      obtain ⟨c, t, I⟩ := Mx.begins_ok ok hA.as.m1 hF hA.od
      have bz := beg_small I.nd I.lt
      refine q_asgN (en_c (ea_cons (ev_var rfl) (ea_cons (ev_var rfl) (ea_cons (ev_var rfl) (ea_cons (ev_var rfl) ea_nil)))) fun H1 e Q q E => ⟨p, o, plan, M, R, order, rfl, hA.ex e, (fun z => by rw [hF] at z; cases z), fun _ => q⟩) fun d H1 hd e1 h1 => ?_
      have pb : PB H1 p d plan (Mx.begins plan M R order) := ⟨hA.as.pl.ex e1, h1, I.lt, by omega⟩
      refine s_ret (v := iN (Mx.lend plan M R order)) (ev_if (b := true) (et_test (ev_op (ev_var rfl) ev_c fun H2 e2 Q q => ⟨rfl, q H2 (Ex.refl H2)⟩)) (fun _ => ?_) fun z => nomatch z) fun H2 e2 => k2 hF H2 (e1.trans e2)
      refine ev_max (l := (ks (Mx.begins plan M R order)).map (Mx.fin plan (Mx.begins plan M R order))) (fun z => ?_) (el_lock pb.bg True.intro fun od => ?_)
      · have := congrArg List.length z
        rw [List.length_map, Mx.ks_len, List.length_nil] at this
        omega
      · rw [List.map_map]
        obtain ⟨PL, BR⟩ := pb.lock od
        exact lc_0 (ks _) iN _ (pb.keys od (ev_var rfl)) pb.kz (fun _ => rfl) fun o ho => ev_addN (ev_dget (ev_var rfl) (ev_var rfl) BR ho) (ev_len (ev_var rfl) (ev_var rfl) PL (pb.lt o ho))
end
end Wk
end

section
set_option Elab.async false
set_option linter.all false
set_option maxRecDepth 100000
set_option maxHeartbeats 4000000
namespace Wk
open PySem PySem.Spec PyProof.Rows L2 Evl
open Mx (Plan Beg Job jb ln nd rm ks look has T)
section
variable {P : Program} {w : World} {K : PySem.W.Frag} {mg : Str → Option Value} {base : Heap}
/-! ### _law_alike -/
section
variable {σ : L2.St} {H : Hp} {ta tb te : TE} {x y z : V} {tz : TS} {D : L2.Ends}
theorem ev_isiTL {A : String} {a1 a2 : Bool} (ha : Ev ta σ H x) (ht : ∀ H1, Ex H H1 → TyX K H1 x (.type A)) (h1 : kitB A "tuple" = some a1) (h2 : kitB A "list" = some a2) :
    Ev (tCB (rIsiT K) (tCons ta (tCons (tTup (tCons (tC (.ty "tuple")) (tCons (tC (.ty "list")) tNil))) tNil))) σ H (.bl (a1 || a2)) := fun H1 e Q q =>
  ha H1 e _ fun H2 e2 => ⟨sz_of (by show 2 ≤ 100000; decide), fun p hp => ⟨x, p, [.ty "tuple", .ty "list"], .type A, [.type "tuple", .type "list"], a1 || a2, rfl, upd_same, .cons (.ty _) (.cons (.ty _) .nil), ht _ (e.trans (e2.trans (Ex.new hp))), by
    refine kitAny_cons (kit_ty h1) (fun z => ?_) (fun z => by rw [z]; rfl)
    rw [z, Bool.false_or]
    exact kitAny_cons (kit_ty h2) (fun z => by rw [z]; exact kitAny_nil) (fun z => z), q _ (e2.trans (Ex.new hp))⟩⟩
def SeqA (K : PySem.W.Frag) (H : Hp) (a : Addr) (xs : List V) : Prop := SqL K H a xs ∨ SqT K H a xs
theorem SeqA.ex {H H' : Hp} {a : Addr} {xs : List V} (e : Ex H H') (h : SeqA K H a xs) : SeqA K H' a xs := h.imp (ex_l e) (ex_t e)
theorem rv_ixA {a : Addr} {xs : List V} {i : Int} {v : V} (h : SeqA K H a xs) (hi : atI xs i = some v) : RV (rIxA K) (.ref a) (.int i) H v := fun H1 e Q q => by
  rcases h with h | h
  · exact .inl (rv_ixL h hi H1 e Q q)
  · exact .inr (rv_ixT h hi H1 e Q q)
theorem ev_lenA {p : Addr} {xs : List V} (ha : Ev ta σ H (.ref p)) (h : SeqA K H p xs) : Ev (tCB (rLenS K) (tCons ta tNil)) σ H (iN xs.length) := fun H1 e Q q =>
  ha H1 e _ fun H2 e2 => ⟨p, xs, rfl, h.ex (e.trans e2), q H2 e2⟩
theorem ev_voidL {xs : List V} (hx : EvL ta σ H xs) : Ev (tOp (rEqL0 K false) ta (tLst tNil)) σ H (.bl xs.isEmpty) :=
  fun H1 e Q q => hx H1 e _ fun p H2 _ e2 h2 => (el_lst (σ := σ) (H := H2) ea_nil (by show 0 ≤ 100000; decide)) H2 (Ex.refl H2) _ fun r H3 _ e3 h3 => ⟨p, r, xs, rfl, rfl, sq_of (e3 _ _ h2), sq_of h3, q H3 (e2.trans e3)⟩
end
abbrev s__law_alike : Stmt := topS 51
abbrev N__law_alike : List Str := ["_law_found", "_law_due", "_law_k"]
theorem sc__law_alike : FnScope N__law_alike ["_law_found", "_law_due"] (defScope s__law_alike) := ⟨rfl, rfl, rfl, by decide +kernel, rfl, by decide +kernel, by decide +kernel⟩
theorem calA (D : DefAt K mg "_law_alike" s__law_alike ["_law_found", "_law_due"]) (TX : Txt mg) : ∀ d, Cal P w K mg base (d + 1) "_law_alike" (spA d)
  | 0 => cal_of D sc__law_alike (fun vs H Q E h => by obtain ⟨_, _, _, h, _⟩ := h; exact h.elim) (fun f cdv A outer s H vs Q E hr h => by obtain ⟨_, _, _, h, _⟩ := h; exact h.elim)
  | d + 1 => by
    have C_law_alike : Cal P w K mg base (d + 1) "_law_alike" (spA d) := calA D TX d
    have hnd := sc__law_alike.nd
    refine cal_of D sc__law_alike (fun vs H Q E h => ?len) (fun f cdv A outer s H vs Q E hr h => ?body)
    case len => obtain ⟨x, y, rfl, _⟩ := h; rfl
    case body =>
      obtain ⟨x, y, rfl, hA, k⟩ := h
      refine ⟨_, (pss_cons (ps_if (pt_val (pe_callB call_isiT (by rfl) TX.b_isinstance (by decide +kernel) (pa_cons (pv 1) (pa_cons (pe_tup (pa_cons (pe_bltn (v := .ty "tuple") (by rfl) TX.b_tuple (by decide +kernel) rfl) (pa_cons (pe_bltn (v := .ty "list") (by rfl) TX.b_list (by decide +kernel) rfl) pa_nil))) pa_nil)))) (pss_cons (ps_if (PW.pt (pw_or (pt_not (pt_val (pe_callB call_isiT (by rfl) TX.b_isinstance (by decide +kernel) (pa_cons (pv 0) (pa_cons (pe_tup (pa_cons (pe_bltn (v := .ty "tuple") (by rfl) TX.b_tuple (by decide +kernel) rfl) (pa_cons (pe_bltn (v := .ty "list") (by rfl) TX.b_list (by decide +kernel) rfl) pa_nil))) pa_nil))))) (pw_or1 (pt_cmpR op_ne (pe_callB call_isi (by rfl) TX.b_isinstance (by decide +kernel) (pa_cons (pv 0) (pa_cons (pe_bltn (v := .ty "list") (by rfl) TX.b_list (by decide +kernel) rfl) pa_nil))) (pe_callB call_isi (by rfl) TX.b_isinstance (by decide +kernel) (pa_cons (pv 1) (pa_cons (pe_bltn (v := .ty "list") (by rfl) TX.b_list (by decide +kernel) rfl) pa_nil))) (nomark _))))) (pss_one (ps_ret pe_bl)) pss_nil)
      (pss_cons (ps_if (pt_cmpR op_ne (pe_callB call_len_seq (by rfl) TX.b_len (by decide +kernel) (pa_cons (pv 0) pa_nil)) (pe_callB call_len_seq (by rfl) TX.b_len (by decide +kernel) (pa_cons (pv 1) pa_nil)) (nomark _)) (pss_one (ps_ret pe_bl)) pss_nil)
      (pss_one (ps_ret (pe_cmpR (op_eqL0 hr.units0) (pe_lc (own := [("_law_k", 2)]) rfl hnd (pi_range1 (by rfl) TX.b_range (pa_cons (pe_callB call_len_seq (by rfl) TX.b_len (by decide +kernel) (pa_cons (pv 1) pa_nil)) pa_nil)) (blkOk_by (own := [("_law_k", 2)]) (N := N__law_alike) (sc := defScope s__law_alike) (by decide +kernel)) (fun _ _ _ _ _ => (pg_name (i := 2) hnd rfl (Or.inl rfl))) (fun _ _ _ _ _ => (pts_one (pt_not (pt_val (pe_c C_law_alike hr (Nat.le_refl _) (by rfl) (pa_cons (pe_ix (ix_aK K rfl) (pv 0) (pv 2) (fun _ _ => rfl)) (pa_cons (pe_ix (ix_aK K rfl) (pv 1) (pv 2) (fun _ _ => rfl)) pa_nil))))))) (fun _ _ _ _ _ => (pv 2))) (pe_lst pa_nil) (nomark _)))))) pss_nil)
      (pss_cons (ps_if (PW.pt (pw_or (pt_cmpR op_isN (pv 1) pe_non (nomark _)) (pw_or1 (pt_val (pe_callB call_isi (by rfl) TX.b_isinstance (by decide +kernel) (pa_cons (pv 1) (pa_cons (pe_bltn (v := .ty "str") (by rfl) TX.b_str (by decide +kernel) rfl) pa_nil))))))) (pss_one (ps_ret (pe_and (pe_cmpR op_eq (pv 0) (pv 1) (nomark _)) (pe_one (pe_cmpR op_eq (pe_callB call_isi (by rfl) TX.b_isinstance (by decide +kernel) (pa_cons (pv 0) (pa_cons (pe_bltn (v := .ty "str") (by rfl) TX.b_str (by decide +kernel) rfl) pa_nil))) (pe_callB call_isi (by rfl) TX.b_isinstance (by decide +kernel) (pa_cons (pv 1) (pa_cons (pe_bltn (v := .ty "str") (by rfl) TX.b_str (by decide +kernel) rfl) pa_nil))) (nomark _)))))) pss_nil)
      (pss_one (ps_ret (pe_and (pe_callB call_isi (by rfl) TX.b_isinstance (by decide +kernel) (pa_cons (pv 0) (pa_cons (pe_bltn (v := .ty "int") (by rfl) TX.b_int (by decide +kernel) rfl) pa_nil))) (pe_and (pe_cmpR op_eq (pe_callB call_isi (by rfl) TX.b_isinstance (by decide +kernel) (pa_cons (pv 0) (pa_cons (pe_bltn (v := .ty "bool") (by rfl) TX.b_bool (by decide +kernel) rfl) pa_nil))) (pe_callB call_isi (by rfl) TX.b_isinstance (by decide +kernel) (pa_cons (pv 1) (pa_cons (pe_bltn (v := .ty "bool") (by rfl) TX.b_bool (by decide +kernel) rfl) pa_nil))) (nomark _)) (pe_one (pe_cmpR op_eq (pv 0) (pv 1) (nomark _))))))))), ?_⟩
      rcases hA with ⟨i, rfl, rfl⟩ | ⟨rfl, rfl⟩ | ⟨a, b, xs, ys, rfl, rfl, hk, hl, hz, hel⟩
      · refine q_when (b := false) (et_B (ev_isiTL (a1 := false) (a2 := false) (ev_var rfl) (fun _ _ => ty_int) (by decide +kernel) (by decide +kernel))) (fun z => nomatch z) fun _ H1 e1 => ?_
        refine q_when (b := false) (et_is (et_or (a := false) (b := false) (et_test (ev_op (ev_var rfl) ev_c fun H2 e2 Q q => ⟨rfl, q H2 (Ex.refl H2)⟩)) fun _ => et_B (ev_isi (ev_var rfl) (fun _ _ => ty_int) (by decide +kernel))) rfl) (fun z => nomatch z) fun _ H2 e2 => ?_
        exact s_ret (v := .bl true) (ev_andV (a := true) (b := true) (ev_isi (ev_var rfl) (fun _ _ => ty_int) (by decide +kernel)) fun _ => ev_andV (a := true) (b := true) (ev_op (ev_isi (r := false) (ev_var rfl) (fun _ _ => ty_int) (by decide +kernel)) (ev_isi (r := false) (ev_var rfl) (fun _ _ => ty_int) (by decide +kernel)) ((rv_eq rfl).is rfl)) fun _ => ev_op (ev_var rfl) (ev_var rfl) ((rv_eq rfl).is (by simp))) fun H3 e3 => k H3 (e1.trans (e2.trans e3))
      · refine q_when (b := false) (et_B (ev_isiTL (a1 := false) (a2 := false) (ev_var rfl) (fun _ _ => .base .non) (by decide +kernel) (by decide +kernel))) (fun z => nomatch z) fun _ H1 e1 => ?_
        refine q_when (b := true) (et_is (et_or (a := true) (b := true) (et_test (ev_op (ev_var rfl) ev_c fun H2 e2 Q q => ⟨rfl, q H2 (Ex.refl H2)⟩)) fun z => nomatch z) rfl) (fun _ H2 e2 => ?_) fun z => nomatch z
        exact s_ret (v := .bl true) (ev_andV (a := true) (b := true) (ev_op (ev_var rfl) (ev_var rfl) ((rv_eq rfl).is (by simp))) fun _ => ev_op (ev_isi (r := false) (ev_var rfl) (fun _ _ => .base .non) (by decide +kernel)) (ev_isi (r := false) (ev_var rfl) (fun _ _ => .base .non) (by decide +kernel)) ((rv_eq rfl).is rfl)) fun H3 e3 => k H3 (e1.trans (e2.trans e3))
      · obtain ⟨A, a1, a2, ty1, ty2, kA1, kA2, h12, sa, sb⟩ : ∃ (A : String) (a1 a2 : Bool), (∀ H1, Ex H H1 → TyX K H1 (.ref a) (.type A)) ∧ (∀ H1, Ex H H1 → TyX K H1 (.ref b) (.type A)) ∧ kitB A "tuple" = some a1 ∧ kitB A "list" = some a2 ∧ (a1 || a2) = true ∧ SeqA K H a xs ∧ SeqA K H b ys := by
          rcases hk with ⟨g1, g2⟩ | ⟨g1, g2⟩
          · exact ⟨"tuple", true, false, fun H1 e => .base (.tup (e _ _ g1)), fun H1 e => .base (.tup (e _ _ g2)), by decide +kernel, by decide +kernel, rfl, .inr (st_of g1), .inr (st_of g2)⟩
          · exact ⟨"list", false, true, fun H1 e => .base (.lst (e _ _ g1)), fun H1 e => .base (.lst (e _ _ g2)), by decide +kernel, by decide +kernel, rfl, .inl (sq_of g1), .inl (sq_of g2)⟩
        refine q_when (b := true) (et_is (et_B (ev_isiTL (ev_var rfl) ty2 kA1 kA2)) h12) (fun _ H1 e1 => ?_) fun z => nomatch z
        refine q_when (b := false) (et_is (et_or (a := false) (b := false) (et_is (et_not (et_B (ev_isiTL (ev_var rfl) (fun H2 e2 => ty1 H2 (e1.trans e2)) kA1 kA2))) (by rw [h12]; rfl)) fun _ => et_test (ev_op (ev_isi (ev_var rfl) (fun H2 e2 => ty1 H2 (e1.trans e2)) kA2) (ev_isi (ev_var rfl) (fun H2 e2 => ty2 H2 (e1.trans e2)) kA2) ((rv_ne rfl).is (by simp)))) rfl) (fun z => nomatch z) fun _ H2 e2 => ?_
        have e12 := e1.trans e2
        refine q_when (b := false) (et_test (ev_op (ev_lenA (ev_var rfl) (sa.ex e12)) (ev_lenA (ev_var rfl) (sb.ex e12)) ((rv_ne rfl).is (by rw [hl]; simp)))) (fun z => nomatch z) fun _ H3 e3 => ?_
        have e13 := e12.trans e3
        refine s_ret (v := .bl true) (ev_is (ev_voidL (K := K) (xs := ((List.range ys.length).filter fun _ => false).map iN) (lc_n (List.range ys.length) iN (fun _ => false) iN (ei_range1 (ea_cons (ev_lenA (ev_var rfl) (sb.ex e13)) ea_nil) (by omega)) (by rw [List.length_range]; omega) (fun _ => rfl) (fun j hj => ?_) (fun j hj z => nomatch z))) (by simp)) fun H4 e4 => k H4 (e13.trans e4)
        have hj := List.mem_range.mp hj
        have hy : ys[j]? = some ys[j] := List.getElem?_eq_getElem hj
        have hx : xs[j]? = some (xs[j]'(by omega)) := List.getElem?_eq_getElem (by omega)
        exact et_not (a := true) (et_B (ev_c1 (ea_cons (ev_op (ev_var rfl) (ev_var rfl) (rv_ixA (sa.ex e13) (atI_nat hx))) (ea_cons (ev_op (ev_var rfl) (ev_var rfl) (rv_ixA (sb.ex e13) (atI_nat hy))) ea_nil)) fun H4 e Q q E => ⟨_, _, rfl, (hel j _ _ hx hy).ex (e13.trans e), q⟩))
end
end Wk
end

section
set_option Elab.async false
set_option linter.all false
set_option maxRecDepth 100000
set_option maxHeartbeats 4000000
namespace Wk
open PySem PySem.Spec PyProof.Rows L2 Evl
open Mx (Plan Beg Job jb ln nd rm ks look has T)
section
variable {P : Program} {w : World} {K : PySem.W.Frag} {mg : Str → Option Value} {base : Heap}
/-! ## law -/
/-- (an end or None, an order) -/
def EndR (H : Hp) (x : V) (o : List Nat) (v : V) : Prop := ∃ t a, v = .ref t ∧ H t = some (.tup [x, .ref a]) ∧ H a = some (.tup (o.map iN))
theorem EndR.tk {H H' : Hp} {x : V} {o : List Nat} {v : V} (t : Tk H H') (h : EndR H x o v) : EndR H' x o v := by
  obtain ⟨u, a, h1, h2, h3⟩ := h
  exact ⟨u, a, h1, t _ _ h2, t _ _ h3⟩
def endV (plan : Plan) (M R : Nat) (o : List Nat) : V := if Mx.planFits plan R = true then iN (Mx.lend plan M R o) else .non
section
variable {σ : L2.St} {H H' : Hp} {ta tb tl te t1 t2 : TE} {x y z : V} {tz : TS} {D : L2.Ends}
theorem er_endv {a : Addr} {o : List Nat} (ha : Ev ta σ H x) (hb : Ev tb σ H (.ref a)) (h : H a = some (.tup (o.map iN))) : EvR (tTup (tCons ta (tCons tb tNil))) σ H fun v H' => EndR H' x o v := fun H1 e Q q =>
  ha H1 e _ fun H2 e2 => hb H2 (e.trans e2) _ fun H3 e3 => ⟨sz_of (by show 2 ≤ 100000; decide), fun p hp => q _ _ ((e2.trans e3).trans (Ex.new hp)) ⟨p, a, rfl, upd_same, Ex.new hp _ _ (((e.trans e2).trans e3) _ _ h)⟩⟩
theorem q_mix {i : Nat} {a : Addr} {ns : List Int} {sd : Int} (h1 : Ev t1 σ H (.ref a)) (h2 : Ev t2 σ H (.int sd)) (hA : SqL K H a (ns.map V.int)) (hz : ns.length ≤ 63) (k : ∀ h l H1, HS H1 h l → tz D (σ.set i (some (.ref h))) H1) :
    tSeq (tAsg (tCall (sp_law_mix K) [] E0 (tCons t1 (tCons t2 tNil))) (gName i)) tz D σ H :=
  h1 H (Ex.refl H) _ fun H1 e1 => h2 H1 e1 _ fun H2 e2 => ⟨a, ns, sd, rfl, ex_l (e1.trans e2) hA, hz, fun h l H3 hs => k h l H3 hs⟩
theorem q_asgR {i : Nat} {R : V → Hp → Prop} (h : EvR te σ H R) (k : ∀ v H1, Ex H H1 → R v H1 → tz D (σ.set i (some v)) H1) : tSeq (tAsg te (gName i)) tz D σ H := h H (Ex.refl H) _ k
theorem ev_cLL {sp : Sp} {xs ys : List V} (ha : EvL ta σ H xs) (hb : EvL tb σ H ys) (hs : ∀ p q H1, Ex H H1 → H1 p = some (.lst xs) → H1 q = some (.lst ys) → ∀ Q : VK, Ret Q H1 z → ∀ E : XK, sp [.ref p, .ref q] H1 Q E) : Ev (tCall sp [] E0 (tCons ta (tCons tb tNil))) σ H z := fun H1 e Q k =>
  ha H1 e _ fun p H2 _ e2 h2 => hb H2 (e.trans e2) _ fun q H3 _ e3 h3 => hs p q H3 ((e.trans e2).trans e3) (e3 _ _ h2) h3 Q (fun H4 e4 => k H4 ((e2.trans e3).trans e4)) _
theorem ev_cRR {sp : Sp} {R1 R2 : V → Hp → Prop} (hR : ∀ v H H', Tk H H' → R1 v H → R1 v H') (ha : EvR ta σ H R1) (hb : EvR tb σ H R2) (hs : ∀ x y H1, Ex H H1 → R1 x H1 → R2 y H1 → ∀ Q : VK, Ret Q H1 z → ∀ E : XK, sp [x, y] H1 Q E) : Ev (tCall sp [] E0 (tCons ta (tCons tb tNil))) σ H z := fun H1 e Q k =>
  ha H1 e _ fun x H2 e2 r1 => hb H2 (e.trans e2) _ fun y H3 e3 r2 => hs x y H3 ((e.trans e2).trans e3) (hR _ _ _ (Tk.of e3) r1) r2 Q (fun H4 e4 => k H4 ((e2.trans e3).trans e4)) _
theorem ev_ixR {n : Nat} {o : List Nat} (h : EvR ta σ H fun v H' => TldR H' n o v) : Ev (tOp (rIxT K) ta (tC (.int 0))) σ H (iN n) := fun H1 e Q q =>
  h H1 e _ fun v H2 e2 ⟨t, a, ev, ht, _⟩ => ⟨t, _, ((0 : Nat) : Int), iN n, ev, rfl, st_of ht, atI_nat rfl, q H2 e2⟩
theorem ev_mulN {C : Int → Int → Prop} {a b : Nat} (hc : C a b) (ha : Ev ta σ H (iN a)) (hb : Ev tb σ H (iN b)) : Ev (tOp (rI C fun i j => V.int (i * j)) ta tb) σ H (iN (a * b)) := ev_is (ev_op ha hb (rv_I hc)) (by simp [iN])
theorem et_isN {b : Bool} (ha : Ev ta σ H x) (hb : decide (x = V.non) = b) : EvT (tTest (tOp (fun x y H Q => y = .non ∧ Q (.bl (decide (x = .non))) H) ta (tC .non))) σ H b :=
  et_test (ev_op ha ev_c fun H1 e Q q => ⟨rfl, by rw [hb]; exact q H1 (Ex.refl H1)⟩)
/-- [told[0] for told in ends] -/
theorem el_firsts {vs : List Nat} {j p : Nat} {f : List Nat → Nat} {os : List (List Nat)} {ws : List V} (hx : Ev tl σ H (.ref p)) (hp : H p = some (.lst ws)) (h : Paired (fun o x => TldR H (f o) o x) os ws) (hz : os.length ≤ 40000)
    (hw : ∀ x, wipe ((wipe σ vs).set j (some x)) vs = wipe σ vs) (hv : ∀ x, ((wipe σ vs).set j (some x))[j]? = some (some x)) :
    EvL (tLc (iList K tl) (gName j) tYes (tOp (rIxT K) (tVar j) (tC (.int 0))) vs) σ H ((os.map f).map iN) := by
  obtain ⟨zs, h1, h2, h3⟩ := paired_zip h
  subst h1 h2
  have q := lc_0 (te := tOp (rIxT K) (tVar j) (tC (.int 0))) (σ := σ) (H := H) (wi := iList K tl) (vs := vs) (j := j) zs (·.2) (fun z => iN (f z.1)) (ei_list hx (sq_of hp)) (by rw [List.length_map] at hz; exact hz) hw (fun z hz => by
    obtain ⟨t, a, e1, g1, g2⟩ := h3 z hz
    exact ev_op (ev_is (ev_var (hv _)) e1) (ev_c (v := .int ((0 : Nat) : Int))) (rv_ixT (st_of g1) (atI_nat rfl)))
  rw [List.map_map, List.map_map]
  exact q
end
theorem pickO_len {f : List Nat → Nat} {os : List (List Nat)} {n : Nat} (h : ∀ o ∈ os, o.length ≤ n) : (pickO f os).length ≤ n := by
  unfold pickO
  rw [List.getD_eq_getElem?_getD]
  cases e : os[bestIx (os.map fun o => tdata (f o) o)]? with
  | none => exact Nat.zero_le _
  | some o => exact h o (List.mem_of_getElem? e)
theorem pickO_mem {f : List Nat → Nat} {os : List (List Nat)} (h : os ≠ []) : pickO f os ∈ os := by
  have hlt := bestIx_lt (ds := os.map fun o => tdata (f o) o) (fun z => h (List.map_eq_nil_iff.mp z))
  rw [List.length_map] at hlt
  unfold pickO
  rw [List.getD_eq_getElem?_getD, List.getElem?_eq_getElem hlt]
  exact List.getElem_mem hlt
abbrev s_law : Stmt := topS 58
abbrev N_law : List Str := ["_law_script", "_law_h", "_law_plan_here", "_law_ends", "_law_end", "_law_most", "_law_least", "_law_machines", "_law_room", "_law_told", "_law_order", "_law_job"]
theorem sc_law : FnScope N_law ["_law_script"] (defScope s_law) := ⟨rfl, rfl, rfl, by decide +kernel, rfl, by decide +kernel, by decide +kernel⟩
def sp_law (K : PySem.W.Frag) : Sp := fun vs H Q _ => ∃ (a : Addr) (ns : List Int), vs = [.ref a] ∧ SqL K H a (ns.map V.int) ∧ ns.length ≤ 63 ∧ ∀ H', Q (.bl true) H'
theorem ends_ints {plan : Plan} {M R : Nat} (hF : Mx.planFits plan R = true) {os : List (List Nat)} {ws : List V} {H : Hp} (h : Paired (fun o x => EndR H (endV plan M R o) o x) os ws) : Paired (fun o x => TldR H (Mx.lend plan M R o) o x) os ws :=
  Paired.mapP h fun o x r => by
    unfold endV at r
    rw [if_pos hF] at r
    exact r
theorem most_le {plan : Plan} {M R : Nat} (ok : Mx.PlanOk plan) (m1 : 1 ≤ M) (hF : Mx.planFits plan R = true) : Mx.maxL ((Mx.ords plan.length).map (Mx.lend plan M R)) ≤ Mx.total plan :=
  Mx.maxL_le fun x hx => by
    obtain ⟨o, ho, rfl⟩ := List.mem_map.mp hx
    exact (Mx.list_feas ok m1 hF (Mx.ords_ord ho)).2
theorem fok_law {f : Addr} {fd : FuncData} (F : Fun K "law" "law" s_law f fd) (TX : Txt mg) (C_law_alike : Cal P w K mg base 4 "_law_alike" (spA 3)) (C_law_list_end : Cal P w K mg base 3 "_law_list_end" (sp_law_list_end)) (C_law_mix : Cal P w K mg base 1 "_law_mix" (sp_law_mix K)) (C_law_next : Cal P w K mg base 1 "_law_next" (sp_law_next)) (C_law_pick : Cal P w K mg base 2 "_law_pick" (sp_law_pick)) (C_law_plan : Cal P w K mg base 3 "_law_plan" (sp_law_plan)) (C_law_plan_orders : Cal P w K mg base 1 "_law_plan_orders" (sp_law_plan_orders)) (C_best_order : Cal P w K mg base 6 "best_order" (sp_best_order)) (C_least_end : Cal P w K mg base 5 "least_end" (sp_least_end)) (C_list_count : Cal P w K mg base 6 "list_count" (sp_list_count)) (C_worst_order : Cal P w K mg base 6 "worst_order" (sp_worst_order)) : FnOk P w K mg base CX0 7 f fd ["_law_script"] (sp_law K) := by
  have hnd := sc_law.nd
  refine F.ok sc_law (fun vs H Q E h => ?len) (fun cdv A outer s H vs Q E hr h => ?body)
  case len => obtain ⟨a, ns, rfl, _⟩ := h; rfl
  case body =>
    obtain ⟨a, ns, rfl, hA0, hz, k⟩ := h
    refine ⟨_, (pss_cons (ps_set (i := 1) hnd rfl (Or.inl rfl) (pe_c C_law_mix hr (by decide) (by rfl) (pa_cons (pv 0) (pa_cons pe_int pa_nil))))
      (pss_cons (ps_set (i := 2) hnd rfl (Or.inr rfl) (pe_c C_law_plan hr (by decide) (by rfl) (pa_cons (pv 1) (pa_cons (pe_c C_law_pick hr (by decide) (by rfl) (pa_cons (pv 1) (pa_cons (pe_lst (pa_cons pe_int (pa_cons pe_int (pa_cons pe_int (pa_cons pe_int (pa_cons pe_int (pa_cons pe_int pa_nil))))))) pa_nil))) pa_nil))))
      (pss_cons (ps_asg (pe_tup (pa_cons (pe_op op_add pe_int (pe_c C_law_next hr (by decide) (by rfl) (pa_cons (pv 1) (pa_cons pe_int pa_nil)))) (pa_cons (pe_c C_law_pick hr (by decide) (by rfl) (pa_cons (pv 1) (pa_cons (pe_lst (pa_cons pe_int (pa_cons pe_int (pa_cons pe_int (pa_cons pe_int pa_nil))))) pa_nil))) pa_nil))) (pg_tup rfl (pgs_cons (pg_name (i := 7) hnd rfl (Or.inr rfl)) (pgs_cons (pg_name (i := 8) hnd rfl (Or.inr rfl)) pgs_nil))))
      (pss_cons (ps_setLc (i := 3) (own := [("_law_order", 10)]) rfl hnd rfl rfl (sw_true rfl rfl rfl (by decide +kernel)) (pi_list (pe_c C_law_plan_orders hr (by decide) (by rfl) (pa_cons (pe_callB call_len_seq (by rfl) TX.b_len (by decide +kernel) (pa_cons (pv 2) pa_nil)) pa_nil))) (blkOk_by (own := [("_law_order", 10)]) (N := N_law) (sc := defScope s_law) (by decide +kernel)) (fun _ _ _ _ _ => (pg_name (i := 10) hnd rfl (Or.inl rfl))) (fun _ _ _ _ _ => pts_nil) (fun _ _ _ _ _ => (pe_tup (pa_cons (pe_c C_law_list_end hr (by decide) (by rfl) (pa_cons (pv 2) (pa_cons (pv 7) (pa_cons (pv 8) (pa_cons (pv 10) pa_nil))))) (pa_cons (pv 10) pa_nil)))))
      (pss_cons (ps_set (i := 4) hnd rfl (Or.inr rfl) (pe_c C_law_next hr (by decide) (by rfl) (pa_cons (pv 1) (pa_cons (pe_op op_add pe_int (pe_callB (cr_sum rfl) (by rfl) TX.b_sum (by decide +kernel) (pa_cons (pe_lc (own := [("_law_job", 11)]) rfl hnd (pi_tup (pv 2)) (blkOk_by (own := [("_law_job", 11)]) (N := N_law) (sc := defScope s_law) (by decide +kernel)) (fun _ _ _ _ _ => (pg_name (i := 11) hnd rfl (Or.inl rfl))) (fun _ _ _ _ _ => pts_nil) (fun _ _ _ _ _ => (pe_ix (ix_tK K rfl) (pv 11) pe_int (fun _ _ => rfl)))) pa_nil))) pa_nil))))
      (pss_cons (ps_if (pt_cmpR op_isN (pe_ix (ix_tK K rfl) (pe_ix (ix_lK K rfl) (pv 3) pe_int (fun _ _ => rfl)) pe_int (fun _ _ => rfl)) pe_non (nomark _)) (pss_cons (ps_set (i := 9) hnd rfl (Or.inl rfl) (pe_lst (pa_cons (pe_c C_worst_order hr (by decide) (by rfl) (pa_cons (pv 2) (pa_cons (pv 7) (pa_cons (pv 8) pa_nil)))) (pa_cons (pe_c C_best_order hr (by decide) (by rfl) (pa_cons (pv 2) (pa_cons (pv 7) (pa_cons (pv 8) pa_nil)))) pa_nil))))
      (pss_one (ps_ret (pe_c C_law_alike hr (by decide) (by rfl) (pa_cons (pe_op op_cat (pv 9) (pe_lst (pa_cons (pe_c C_list_count hr (by decide) (by rfl) (pa_cons (pv 2) (pa_cons (pv 7) (pa_cons (pv 8) (pa_cons (pv 4) pa_nil))))) pa_nil))) (pa_cons (pe_lst (pa_cons pe_non (pa_cons pe_non (pa_cons pe_int pa_nil)))) pa_nil)))))) pss_nil)
      (pss_cons (ps_set (i := 5) hnd rfl (Or.inr rfl) (pe_callB (cr_max rfl) (by rfl) TX.b_max (by decide +kernel) (pa_cons (pe_lc (own := [("_law_told", 9)]) rfl hnd (pi_list (pv 3)) (blkOk_by (own := [("_law_told", 9)]) (N := N_law) (sc := defScope s_law) (by decide +kernel)) (fun _ _ _ _ _ => (pg_name (i := 9) hnd rfl (Or.inl rfl))) (fun _ _ _ _ _ => pts_nil) (fun _ _ _ _ _ => (pe_ix (ix_tK K rfl) (pv 9) pe_int (fun _ _ => rfl)))) pa_nil)))
      (pss_cons (ps_if (pt_not (pt_val (pe_c C_law_alike hr (by decide) (by rfl) (pa_cons (pe_c C_worst_order hr (by decide) (by rfl) (pa_cons (pv 2) (pa_cons (pv 7) (pa_cons (pv 8) pa_nil)))) (pa_cons (pe_callB (cr_minD rfl hr.units) (by rfl) TX.b_min (by decide +kernel) (pa_cons (pe_lc (own := [("_law_told", 9)]) rfl hnd (pi_list (pv 3)) (blkOk_by (own := [("_law_told", 9)]) (N := N_law) (sc := defScope s_law) (by decide +kernel)) (fun _ _ _ _ _ => (pg_name (i := 9) hnd rfl (Or.inl rfl))) (fun _ _ _ _ _ => (pts_one (pt_cmpR op_eq (pe_ix (ix_tK K rfl) (pv 9) pe_int (fun _ _ => rfl)) (pv 5) (nomark _)))) (fun _ _ _ _ _ => (pv 9))) pa_nil)) pa_nil))))) (pss_one (ps_ret pe_bl)) pss_nil)
      (pss_cons (ps_if (pt_not (pt_val (pe_c C_law_alike hr (by decide) (by rfl) (pa_cons (pe_c C_best_order hr (by decide) (by rfl) (pa_cons (pv 2) (pa_cons (pv 7) (pa_cons (pv 8) pa_nil)))) (pa_cons (pe_callB (cr_minD rfl hr.units) (by rfl) TX.b_min (by decide +kernel) (pa_cons (pv 3) pa_nil)) pa_nil))))) (pss_one (ps_ret pe_bl)) pss_nil)
      (pss_cons (ps_set (i := 6) hnd rfl (Or.inl rfl) (pe_c C_least_end hr (by decide) (by rfl) (pa_cons (pv 2) (pa_cons (pv 7) (pa_cons (pv 8) pa_nil)))))
      (pss_cons (ps_if (PW.pt (pw_or (pt_cmpR op_lt (pe_ix (ix_tK K rfl) (pe_callB (cr_minD rfl hr.units) (by rfl) TX.b_min (by decide +kernel) (pa_cons (pv 3) pa_nil)) pe_int (fun _ _ => rfl)) (pv 6) (nomark _)) (pw_or1 (pt_cmpR op_gt (pv 5) (pe_op op_mul (pv 7) (pv 6)) (nomark _))))) (pss_one (ps_ret pe_bl)) pss_nil)
      (pss_one (ps_ret (pe_c C_law_alike hr (by decide) (by rfl) (pa_cons (pe_c C_list_count hr (by decide) (by rfl) (pa_cons (pv 2) (pa_cons (pv 7) (pa_cons (pv 8) (pa_cons (pv 4) pa_nil))))) (pa_cons (pe_callB call_len_seq (by rfl) TX.b_len (by decide +kernel) (pa_cons (pe_lc (own := [("_law_told", 9)]) rfl hnd (pi_list (pv 3)) (blkOk_by (own := [("_law_told", 9)]) (N := N_law) (sc := defScope s_law) (by decide +kernel)) (fun _ _ _ _ _ => (pg_name (i := 9) hnd rfl (Or.inl rfl))) (fun _ _ _ _ _ => (pts_one (pt_cmpR op_le (pe_ix (ix_tK K rfl) (pv 9) pe_int (fun _ _ => rfl)) (pv 4) (nomark _)))) (fun _ _ _ _ _ => (pv 9))) pa_nil)) pa_nil)))))))))))))))), ?_⟩
    refine q_mix (ev_var rfl) ev_c hA0 hz fun h l H1 hs1 => ?_
    refine q_asgS hs1 (es_c (P := fun n => n ∈ [4, 4, 4, 4, 5, 6]) (ev_var rfl) (es_pick (xs := [4, 4, 4, 4, 5, 6]) (ev_var rfl) (el_lst (ea_cons ev_c (ea_cons ev_c (ea_cons ev_c (ea_cons ev_c (ea_cons ev_c (ea_cons ev_c ea_nil)))))) (by show 6 ≤ 100000; decide)) (by decide) (by decide)) fun n H2 e2 hs2 hn Q q E => ⟨h, l, n, rfl, by simp at hn; omega, by simp at hn; omega, hs2, q⟩) fun v H2 e2 hs2 ⟨p, plan, ev, hP2, ok⟩ => ?_
    subst ev
    refine q_pairS hs2 (es_add (k := 1) (es_next (cap := 3) (ev_var rfl) ev_c (by decide) (by decide))) (es_pick (xs := [0, 2, 3, 99]) (ev_var rfl) (el_lst (ea_cons ev_c (ea_cons ev_c (ea_cons ev_c (ea_cons ev_c ea_nil)))) (by show 4 ≤ 100000; decide)) (by decide) (by decide)) fun M R H3 e3 hs3 ⟨m, hm, hM⟩ hR => ?_
    have hi6 := ok.hi
    have lo := ok.lo
    have m1 : 1 ≤ M := by omega
    have m4 : M ≤ 4 := by omega
    have r99 : R ≤ 99 := by simp at hR; omega
    have hA3 : Asked H3 p plan M R := ⟨(hP2.ex e3), ok, m1, m4, r99⟩
    have small : (Mx.ords plan.length).length ≤ 720 := Mx.ords_small (k := plan.length) hi6 (Nat.le_refl _)
    refine q_asgLR (R := fun ws H' => Paired (fun o x => EndR H' (endV plan M R o) o x) (Mx.ords plan.length) ws) (lc_over (el_cR (ea_cons (ev_lenP (ev_var rfl) hA3.pl) ea_nil) fun H4 e Q q E => ⟨plan.length, rfl, hi6, q⟩) fun q ws H4 e4 h4 r => ?_) fun q ws H4 hq e4 h4 r => ?_
    · obtain ⟨zs, z1, z2, z3⟩ := paired_zip r
      have hzl : zs.length = (Mx.ords plan.length).length := by rw [← z1, List.length_map]
      have hA4 := hA3.ex e4
      refine EvLR.imp (lc_R (te := _) zs (·.2) (fun _ => true) (fun z => [some (.ref a), some (.ref h), some (.ref p), none, none, none, none, some (iN M), some (iN R), none, some z.2, none]) (fun z v H' => EndR H' (endV plan M R z.1) z.1 v) (fun _ _ _ _ t h => h.tk t) (ei_list ev_c (sq_of (by rw [z2]; exact h4))) (by omega) (fun z hz H1 _ Q q => q H1 (Ex.refl H1)) (fun z hz => rfl) (fun z hz => et_yes) (fun z hz _ => ?_)) fun xs H5 e5 pr => ?_
      · obtain ⟨o, eo, ho⟩ := z3 z hz
        have hm : z.1 ∈ Mx.ords plan.length := by rw [← z1]; exact List.mem_map.mpr ⟨z, hz, rfl⟩
        have hl := (Mx.ords_ok _ _ _ hm).len
        have hT : Tol H4 p o plan M R z.1 := ⟨hA4, ho, Mx.ords_ord hm, by omega⟩
        refine er_endv (a := o) (ev_c1 (ea_cons (ev_var rfl) (ea_cons (ev_var rfl) (ea_cons (ev_var rfl) (ea_cons (ev_is (ev_var rfl) eo) ea_nil)))) fun H5 e Q q E => ⟨p, o, plan, M, R, z.1, rfl, hT.ex e, fun hF => ?_, fun hF => ?_⟩) (ev_is (ev_var rfl) eo) ho
        · unfold endV at q
          rw [hF] at q
          exact q
        · unfold endV at q
          rw [if_pos hF] at q
          exact q
      · rw [filter_yes] at pr
        rw [← z1]
        exact paired_map pr
    have hs4 := hs3.up e4
    have nq := hs3.ne hq
    have hP4 : PlanAt (rst H4 h l) p plan := (hP2.ex e3.rs).ex (Sx.of e4).rs
    have q4 : rst H4 h l q = some (.lst ws) := rst_at h4 nq.1 nq.2
    have r4 : Paired (fun o x => EndR (rst H4 h l) (endV plan M R o) o x) (Mx.ords plan.length) ws := Paired.mapP r fun o x r => by
      obtain ⟨t, u, g1, g2, g3⟩ := r
      exact ⟨t, u, g1, hs4.tup g2, hs4.tup g3⟩
    have tot := Mx.total_small ok
    refine q_asgS hs4 (es_next (cap := 2 + Mx.total plan) (ev_var rfl) (ev_addN (a := 2) ev_c (ev_sumF (xs := List.range plan.length) (f := ln plan) ?_)) (by omega) (by omega)) fun v H5 e5 hs5 ⟨en, hen, ev⟩ => ?_
    · obtain ⟨ar, nr, hp, hj⟩ := id hP4
      exact lc_0 (List.range plan.length) (fun j => V.ref (ar j)) _ (ei_tup (ev_var rfl) (st_of hp)) (by rw [List.length_range]; omega) (fun _ => rfl) fun j hj' => ev_op (ev_var rfl) (ev_c (v := .int ((0 : Nat) : Int))) (rv_ixT (st_of (hj j (List.mem_range.mp hj')).1) (atI_nat rfl))
    subst ev
    have hA5 : Asked H5 p plan M R := ⟨hP4.ex e5, ok, m1, m4, r99⟩
    have h5 : H5 q = some (.lst ws) := e5 _ _ q4
    have r5 : Paired (fun o x => EndR H5 (endV plan M R o) o x) (Mx.ords plan.length) ws := Paired.mapP r4 fun o x r => r.tk (Tk.of e5)
    have ne := ords_ne' plan.length
    obtain ⟨o0, hox, x0, rx, hw0⟩ : ∃ o0, True ∧ ∃ x0, EndR H5 (endV plan M R o0) o0 x0 ∧ ws[0]? = some x0 := by
      cases hos : Mx.ords plan.length with
      | nil => exact absurd hos ne
      | cons o os =>
        rw [hos] at r5
        cases r5 with
        | cons r0 r1 => exact ⟨o, True.intro, _, r0, rfl⟩
    obtain ⟨t0, a0, rfl, g1, g2⟩ := rx
    refine q_when (b := !Mx.planFits plan R) (et_isN (x := endV plan M R o0) (ev_op (ev_op (ev_var rfl) (ev_c (v := .int ((0 : Nat) : Int))) (rv_ixL (sq_of h5) (atI_nat hw0))) (ev_c (v := .int ((0 : Nat) : Int))) (rv_ixT (st_of g1) (atI_nat rfl))) ?_) (fun hb H6 e6 => ?_) fun hb H6 e6 => ?_
    · unfold endV
      cases hF : Mx.planFits plan R with
      | true => rw [if_pos rfl]; rfl
      | false => rfl
    · have hF : Mx.planFits plan R = false := by simpa using hb
      have hA6 := hA5.ex e6
      refine q_asgL (xs := [.non, .non]) (el_lst (ea_cons (ev_c1 (ea_cons (ev_var rfl) (ea_cons (ev_var rfl) (ea_cons (ev_var rfl) ea_nil))) fun H7 e Q q E => ⟨p, plan, M, R, rfl, hA6.ex e, fun _ => q, fun z => by rw [hF] at z; cases z⟩) (ea_cons (ev_c1 (ea_cons (ev_var rfl) (ea_cons (ev_var rfl) (ea_cons (ev_var rfl) ea_nil))) fun H7 e Q q E => ⟨p, plan, M, R, rfl, hA6.ex e, fun _ => q, fun z => by rw [hF] at z; cases z⟩) ea_nil)) (by show 2 ≤ 100000; decide)) fun tl H7 htl e7 h7 => ?_
      have hA7 := hA6.ex e7
      have c0 : countO plan M R en = 0 := by
        unfold countO LAll
        rw [hF]
        rfl
      refine s_ret (v := .bl true) (ev_cLL (xs := [.non, .non] ++ [iN 0]) (ys := [.non, .non, .int 0]) (el_cat (EvK.at (ev_var rfl) h7) (EvK.of (el_lst (ea_cons (ev_c1 (ea_cons (ev_var rfl) (ea_cons (ev_var rfl) (ea_cons (ev_var rfl) (ea_cons (ev_var rfl) ea_nil)))) fun H8 e Q q E => ⟨p, plan, M, R, en, rfl, hA7.ex e, by omega, by rw [c0]; exact q⟩) ea_nil) one_le)) (by show 3 ≤ 100000; decide)) (el_lst (ea_cons ev_c (ea_cons ev_c (ea_cons ev_c ea_nil))) (by show 3 ≤ 100000; decide)) fun pa pb H8 e8 ha hb Q q E => ⟨_, _, rfl, .inr (.inr ⟨pa, pb, _, _, rfl, rfl, .inr ⟨ha, hb⟩, rfl, by show 3 ≤ 1000; decide, fun i x y q1 q2 => ?_⟩), q⟩) fun H8 e8 => k H8
      match i, q1, q2 with
      | 0, q1, q2 => cases Option.some.inj q1; cases Option.some.inj q2; exact .inr (.inl ⟨rfl, rfl⟩)
      | 1, q1, q2 => cases Option.some.inj q1; cases Option.some.inj q2; exact .inr (.inl ⟨rfl, rfl⟩)
      | 2, q1, q2 => cases Option.some.inj q1; cases Option.some.inj q2; exact .inl ⟨0, rfl, rfl⟩
      | i + 3, q1, q2 => simp at q1
    have hF : Mx.planFits plan R = true := by simpa using hb
    have hA6 := hA5.ex e6
    have h6 := e6 _ _ h5
    have r6 : Paired (fun o x => TldR H6 (Mx.lend plan M R o) o x) (Mx.ords plan.length) ws := Paired.mapP (ends_ints hF r5) fun o x r => r.tk (Tk.of e6)
    have olen : ∀ o ∈ Mx.ords plan.length, o.length ≤ 1000 := fun o ho => by
      have := (Mx.ords_ok _ _ _ ho).len
      omega
    have wlen : (worstO plan M R).length ≤ 1000 := pickO_len fun o ho => olen o (List.mem_filter.mp ho).1
    have blen : (bestO plan M R).length ≤ 1000 := pickO_len olen
    refine q_asg (v := iN (Mx.maxL ((Mx.ords plan.length).map (Mx.lend plan M R)))) (ev_max (fun z => ne (List.map_eq_nil_iff.mp z)) (el_firsts (ev_var rfl) h6 r6 (by omega) (fun _ => rfl) (fun _ => rfl))) fun H7 e7 => ?_
    have hA7 := hA6.ex e7
    have h7 := e7 _ _ h6
    have r7 := Paired.mapP r6 fun o x r => r.tk (Tk.of e7)
    refine q_when (b := false) (et_is (et_not (a := true) (et_B (ev_cRR (R1 := fun v H' => TldR H' (Mx.lend plan M R (worstO plan M R)) (worstO plan M R) v) (fun v H H' t r => r.tk t) (er_c (ea_cons (ev_var rfl) (ea_cons (ev_var rfl) (ea_cons (ev_var rfl) ea_nil))) fun H8 e Q q E => ⟨p, plan, M, R, rfl, hA7.ex e, (fun z => by rw [hF] at z; cases z), fun _ => q⟩) (er_minL (worst_ne plan M R) (el_those (fun o => decide (Mx.lend plan M R o = Mx.maxL ((Mx.ords plan.length).map (Mx.lend plan M R)))) (ev_var rfl) h7 r7 (by omega) (fun _ => rfl) (fun o x h => ?_) (fun x => ev_var rfl))) fun x y H8 e8 q1 q2 Q q E => ⟨x, y, rfl, alike_told wlen q1 q2, q⟩))) rfl) (fun z => nomatch z) fun _ H8 e8 => ?_
    · obtain ⟨t, a, rfl, g1, g2⟩ := h
      exact et_test (ev_is (ev_op (ev_op (ev_var rfl) (ev_c (v := .int ((0 : Nat) : Int))) (rv_ixT (st_of g1) (atI_nat rfl))) (ev_var rfl) (rv_eq rfl)) (by rw [dec_iN]))
    have hA8 := hA7.ex e8
    have h8 := e8 _ _ h7
    have r8 := Paired.mapP r7 fun o x r => r.tk (Tk.of e8)
    refine q_when (b := false) (et_is (et_not (a := true) (et_B (ev_cRR (R1 := fun v H' => TldR H' (Mx.lend plan M R (bestO plan M R)) (bestO plan M R) v) (fun v H H' t r => r.tk t) (er_c (ea_cons (ev_var rfl) (ea_cons (ev_var rfl) (ea_cons (ev_var rfl) ea_nil))) fun H9 e Q q E => ⟨p, plan, M, R, rfl, hA8.ex e, (fun z => by rw [hF] at z; cases z), fun _ => q⟩) (er_min ne (ev_var rfl) h8 r8) fun x y H9 e9 q1 q2 Q q E => ⟨x, y, rfl, alike_told blen q1 q2, q⟩))) rfl) (fun z => nomatch z) fun _ H9 e9 => ?_
    have hA9 := hA8.ex e9
    have h9 := e9 _ _ h8
    have r9 := Paired.mapP r8 fun o x r => r.tk (Tk.of e9)
    refine q_asgR (R := fun v _ => ∃ e, v = iN e ∧ BestOf plan M R e) (er_c (ea_cons (ev_var rfl) (ea_cons (ev_var rfl) (ea_cons (ev_var rfl) ea_nil))) fun H10 e Q q E => ⟨p, plan, M, R, rfl, hA9.ex e, hF, fun e H11 e11 hb => q _ H11 e11 ⟨e, rfl, hb⟩⟩) fun v H10 e10 ⟨le, ev, hbest⟩ => ?_
    subst ev
    have hA10 := hA9.ex e10
    have h10 := e10 _ _ h9
    have r10 := Paired.mapP r9 fun o x r => r.tk (Tk.of e10)
    have bmem : bestO plan M R ∈ Mx.ords plan.length := pickO_mem ne
    have l1 : le ≤ Mx.lend plan M R (bestO plan M R) := hbest.2 _ (Mx.list_feas ok m1 hF (Mx.ords_ord bmem)).1
    have l2 := Nat.le_trans (most_le ok m1 hF) hbest.1
    refine q_when (b := false) (et_is (et_or (a := false) (b := false) (et_is (et_test (ev_ltN (ev_ixR (er_min ne (ev_var rfl) h10 r10)) (ev_var rfl))) (decide_eq_false (show ¬ Mx.lend plan M R (bestO plan M R) < le by omega))) fun _ => et_is (et_test (ev_gtN (ev_var rfl) (ev_mulN (C := CMul) (a := M) (b := le) (.inl ⟨by omega, by omega⟩) (ev_var rfl) (ev_var rfl)))) (decide_eq_false (Nat.not_lt.mpr l2))) rfl) (fun z => nomatch z) fun _ H11 e11 => ?_
    have hA11 := hA10.ex e11
    have h11 := e11 _ _ h10
    have r11 := Paired.mapP r10 fun o x r => r.tk (Tk.of e11)
    refine s_ret (v := .bl true) (ev_c1 (ea_cons (ev_c1 (z := iN (countO plan M R en)) (ea_cons (ev_var rfl) (ea_cons (ev_var rfl) (ea_cons (ev_var rfl) (ea_cons (ev_var rfl) ea_nil)))) fun H12 e Q q E => ⟨p, plan, M, R, en, rfl, hA11.ex e, by omega, q⟩) (ea_cons (ev_lenLR (n := countO plan M R en) (R := fun ws' H' => Paired (fun o x => TldR H' (Mx.lend plan M R o) o x) ((Mx.ords plan.length).filter fun o => decide (Mx.lend plan M R o ≤ en)) ws') (el_those (fun o => decide (Mx.lend plan M R o ≤ en)) (ev_var rfl) h11 r11 (by omega) (fun _ => rfl) (fun o x h => ?_) (fun x => ev_var rfl)) fun xs H12 e12 r => ?_) ea_nil)) fun H12 e Q q E => ⟨_, _, rfl, .inl ⟨_, rfl, rfl⟩, q⟩) fun H12 e12 => k H12
    · obtain ⟨t, a, rfl, g1, g2⟩ := h
      exact et_test (ev_leN (ev_op (ev_var rfl) (ev_c (v := .int ((0 : Nat) : Int))) (rv_ixT (st_of g1) (atI_nat rfl))) (ev_var rfl))
    · unfold countO LAll
      rw [if_pos hF]
      exact (Paired.length r).symm
end
end Wk
end

section
set_option Elab.async false
set_option linter.all false
set_option maxRecDepth 100000
set_option maxHeartbeats 4000000
namespace Wk
open PySem PySem.Spec PyProof.Rows L2 Evl
section
variable {K : PySem.W.Frag} {h : Heap} {mg : Str → Option Value}
def isI (K : PySem.W.Frag) (x : Str) (i : Int) : Bool := match PySem.W.nsIn K mainGlobals x with
  | some (some (.int j _)) => decide (j = i)
  | _ => false
theorem num_of {x : Str} {i : Int} (X : K.In h) (G : h.Ns mainGlobals mg) (c : isI K x i = true) : ∃ t, mg x = some (.int i t) := by
  unfold isI at c
  split at c
  · rename_i j t e
    have ej : j = i := of_decide_eq_true c
    rw [ej] at e
    exact ⟨t, PySem.W.mg_of X G e⟩
  · cases c
theorem def_mk {x : Str} {st : Stmt} {ps : List Str} {f : Addr} {fd : FuncData} (X : K.In h) (G : h.Ns mainGlobals mg) (a : PySem.W.nsIn K mainGlobals x = some (some (.ref f))) (F : Fun K x x st f fd) (b : Binds K fd ps []) : DefAt K mg x st ps := ⟨f, fd, F, PySem.W.mg_of X G a, b⟩
theorem def_law_alike (X : K.In h) (G : h.Ns mainGlobals mg) {f1 : Addr} {od1 an1 : Option Addr} {sl1 : Array (Option Value)} {oc1 kV1 dc1 pm1 cd1 ct1 : Value} (a1 : PySem.W.nsIn K mainGlobals "_law_alike" = some (some (.ref f1))) (l1 : K.lookup f1 = some ⟨oc1, od1, .func (PySem.W.fnOf "_law_alike" "_law_alike" (defArgs s__law_alike) (defBody s__law_alike) (defScope s__law_alike) .none kV1 dc1 pm1 an1 cd1 ct1), sl1⟩) (c1 : PySem.W.codeIn K cd1 "_law_alike" = true) (k1 : PySem.W.keepIn K (.ref f1) = true) : DefAt K mg "_law_alike" s__law_alike ["_law_found", "_law_due"] := def_mk X G a1 (fun_mk (st := s__law_alike) l1 c1 k1) ((fun_mk (st := s__law_alike) l1 c1 k1).binds (ps := ["_law_found", "_law_due"]) fun _ _ _ _ _ _ us hl => match us, hl with | [_, _], _ => rfl)
theorem def_law_plan_fit (X : K.In h) (G : h.Ns mainGlobals mg) {f1 : Addr} {od1 an1 : Option Addr} {sl1 : Array (Option Value)} {oc1 kV1 dc1 pm1 cd1 ct1 : Value} (a1 : PySem.W.nsIn K mainGlobals "_law_plan_fit" = some (some (.ref f1))) (l1 : K.lookup f1 = some ⟨oc1, od1, .func (PySem.W.fnOf "_law_plan_fit" "_law_plan_fit" (defArgs s__law_plan_fit) (defBody s__law_plan_fit) (defScope s__law_plan_fit) .none kV1 dc1 pm1 an1 cd1 ct1), sl1⟩) (c1 : PySem.W.codeIn K cd1 "_law_plan_fit" = true) (k1 : PySem.W.keepIn K (.ref f1) = true) : DefAt K mg "_law_plan_fit" s__law_plan_fit ["_law_plan_here", "_law_begins", "_law_machines", "_law_room"] := def_mk X G a1 (fun_mk (st := s__law_plan_fit) l1 c1 k1) ((fun_mk (st := s__law_plan_fit) l1 c1 k1).binds (ps := ["_law_plan_here", "_law_begins", "_law_machines", "_law_room"]) fun _ _ _ _ _ _ us hl => match us, hl with | [_, _, _, _], _ => rfl)
theorem def_law_list_told (X : K.In h) (G : h.Ns mainGlobals mg) {f1 : Addr} {od1 an1 : Option Addr} {sl1 : Array (Option Value)} {oc1 kV1 dc1 pm1 cd1 ct1 : Value} (a1 : PySem.W.nsIn K mainGlobals "_law_list_told" = some (some (.ref f1))) (l1 : K.lookup f1 = some ⟨oc1, od1, .func (PySem.W.fnOf "_law_list_told" "_law_list_told" (defArgs s__law_list_told) (defBody s__law_list_told) (defScope s__law_list_told) .none kV1 dc1 pm1 an1 cd1 ct1), sl1⟩) (c1 : PySem.W.codeIn K cd1 "_law_list_told" = true) (k1 : PySem.W.keepIn K (.ref f1) = true) : DefAt K mg "_law_list_told" s__law_list_told ["_law_plan_here", "_law_machines", "_law_room", "_law_order"] := def_mk X G a1 (fun_mk (st := s__law_list_told) l1 c1 k1) ((fun_mk (st := s__law_list_told) l1 c1 k1).binds (ps := ["_law_plan_here", "_law_machines", "_law_room", "_law_order"]) fun _ _ _ _ _ _ us hl => match us, hl with | [_, _, _, _], _ => rfl)
theorem def_law_list_end (X : K.In h) (G : h.Ns mainGlobals mg) {f1 : Addr} {od1 an1 : Option Addr} {sl1 : Array (Option Value)} {oc1 kV1 dc1 pm1 cd1 ct1 : Value} (a1 : PySem.W.nsIn K mainGlobals "_law_list_end" = some (some (.ref f1))) (l1 : K.lookup f1 = some ⟨oc1, od1, .func (PySem.W.fnOf "_law_list_end" "_law_list_end" (defArgs s__law_list_end) (defBody s__law_list_end) (defScope s__law_list_end) .none kV1 dc1 pm1 an1 cd1 ct1), sl1⟩) (c1 : PySem.W.codeIn K cd1 "_law_list_end" = true) (k1 : PySem.W.keepIn K (.ref f1) = true) : DefAt K mg "_law_list_end" s__law_list_end ["_law_plan_here", "_law_machines", "_law_room", "_law_order"] := def_mk X G a1 (fun_mk (st := s__law_list_end) l1 c1 k1) ((fun_mk (st := s__law_list_end) l1 c1 k1).binds (ps := ["_law_plan_here", "_law_machines", "_law_room", "_law_order"]) fun _ _ _ _ _ _ us hl => match us, hl with | [_, _, _, _], _ => rfl)
theorem def_law_mix (X : K.In h) (G : h.Ns mainGlobals mg) {f1 : Addr} {od1 an1 : Option Addr} {sl1 : Array (Option Value)} {oc1 kV1 dc1 pm1 cd1 ct1 : Value} (a1 : PySem.W.nsIn K mainGlobals "_law_mix" = some (some (.ref f1))) (l1 : K.lookup f1 = some ⟨oc1, od1, .func (PySem.W.fnOf "_law_mix" "_law_mix" (defArgs s__law_mix) (defBody s__law_mix) (defScope s__law_mix) .none kV1 dc1 pm1 an1 cd1 ct1), sl1⟩) (c1 : PySem.W.codeIn K cd1 "_law_mix" = true) (k1 : PySem.W.keepIn K (.ref f1) = true) : DefAt K mg "_law_mix" s__law_mix ["_law_script", "_law_seed"] := def_mk X G a1 (fun_mk (st := s__law_mix) l1 c1 k1) ((fun_mk (st := s__law_mix) l1 c1 k1).binds (ps := ["_law_script", "_law_seed"]) fun _ _ _ _ _ _ us hl => match us, hl with | [_, _], _ => rfl)
theorem def_law_next (X : K.In h) (G : h.Ns mainGlobals mg) {f1 : Addr} {od1 an1 : Option Addr} {sl1 : Array (Option Value)} {oc1 kV1 dc1 pm1 cd1 ct1 : Value} (a1 : PySem.W.nsIn K mainGlobals "_law_next" = some (some (.ref f1))) (l1 : K.lookup f1 = some ⟨oc1, od1, .func (PySem.W.fnOf "_law_next" "_law_next" (defArgs s__law_next) (defBody s__law_next) (defScope s__law_next) .none kV1 dc1 pm1 an1 cd1 ct1), sl1⟩) (c1 : PySem.W.codeIn K cd1 "_law_next" = true) (k1 : PySem.W.keepIn K (.ref f1) = true) : DefAt K mg "_law_next" s__law_next ["_law_h", "_law_cap"] := def_mk X G a1 (fun_mk (st := s__law_next) l1 c1 k1) ((fun_mk (st := s__law_next) l1 c1 k1).binds (ps := ["_law_h", "_law_cap"]) fun _ _ _ _ _ _ us hl => match us, hl with | [_, _], _ => rfl)
theorem def_law_pick (X : K.In h) (G : h.Ns mainGlobals mg) {f1 : Addr} {od1 an1 : Option Addr} {sl1 : Array (Option Value)} {oc1 kV1 dc1 pm1 cd1 ct1 : Value} (a1 : PySem.W.nsIn K mainGlobals "_law_pick" = some (some (.ref f1))) (l1 : K.lookup f1 = some ⟨oc1, od1, .func (PySem.W.fnOf "_law_pick" "_law_pick" (defArgs s__law_pick) (defBody s__law_pick) (defScope s__law_pick) .none kV1 dc1 pm1 an1 cd1 ct1), sl1⟩) (c1 : PySem.W.codeIn K cd1 "_law_pick" = true) (k1 : PySem.W.keepIn K (.ref f1) = true) : DefAt K mg "_law_pick" s__law_pick ["_law_h", "_law_things"] := def_mk X G a1 (fun_mk (st := s__law_pick) l1 c1 k1) ((fun_mk (st := s__law_pick) l1 c1 k1).binds (ps := ["_law_h", "_law_things"]) fun _ _ _ _ _ _ us hl => match us, hl with | [_, _], _ => rfl)
theorem def_law_plan (X : K.In h) (G : h.Ns mainGlobals mg) {f1 : Addr} {od1 an1 : Option Addr} {sl1 : Array (Option Value)} {oc1 kV1 dc1 pm1 cd1 ct1 : Value} (a1 : PySem.W.nsIn K mainGlobals "_law_plan" = some (some (.ref f1))) (l1 : K.lookup f1 = some ⟨oc1, od1, .func (PySem.W.fnOf "_law_plan" "_law_plan" (defArgs s__law_plan) (defBody s__law_plan) (defScope s__law_plan) .none kV1 dc1 pm1 an1 cd1 ct1), sl1⟩) (c1 : PySem.W.codeIn K cd1 "_law_plan" = true) (k1 : PySem.W.keepIn K (.ref f1) = true) : DefAt K mg "_law_plan" s__law_plan ["_law_h", "_law_most"] := def_mk X G a1 (fun_mk (st := s__law_plan) l1 c1 k1) ((fun_mk (st := s__law_plan) l1 c1 k1).binds (ps := ["_law_h", "_law_most"]) fun _ _ _ _ _ _ us hl => match us, hl with | [_, _], _ => rfl)
theorem def_law_plan_orders (X : K.In h) (G : h.Ns mainGlobals mg) {f1 : Addr} {od1 an1 : Option Addr} {sl1 : Array (Option Value)} {oc1 kV1 dc1 pm1 cd1 ct1 : Value} (a1 : PySem.W.nsIn K mainGlobals "_law_plan_orders" = some (some (.ref f1))) (l1 : K.lookup f1 = some ⟨oc1, od1, .func (PySem.W.fnOf "_law_plan_orders" "_law_plan_orders" (defArgs s__law_plan_orders) (defBody s__law_plan_orders) (defScope s__law_plan_orders) .none kV1 dc1 pm1 an1 cd1 ct1), sl1⟩) (c1 : PySem.W.codeIn K cd1 "_law_plan_orders" = true) (k1 : PySem.W.keepIn K (.ref f1) = true) : DefAt K mg "_law_plan_orders" s__law_plan_orders ["_law_many"] := def_mk X G a1 (fun_mk (st := s__law_plan_orders) l1 c1 k1) ((fun_mk (st := s__law_plan_orders) l1 c1 k1).binds (ps := ["_law_many"]) fun _ _ _ _ _ _ us hl => match us, hl with | [_], _ => rfl)
theorem def_list_left (X : K.In h) (G : h.Ns mainGlobals mg) {f1 : Addr} {od1 an1 : Option Addr} {sl1 : Array (Option Value)} {oc1 kV1 dc1 pm1 cd1 ct1 : Value} (a1 : PySem.W.nsIn K mainGlobals "list_left" = some (some (.ref f1))) (l1 : K.lookup f1 = some ⟨oc1, od1, .func (PySem.W.fnOf "list_left" "list_left" (defArgs s_list_left) (defBody s_list_left) (defScope s_list_left) .none kV1 dc1 pm1 an1 cd1 ct1), sl1⟩) (c1 : PySem.W.codeIn K cd1 "list_left" = true) (k1 : PySem.W.keepIn K (.ref f1) = true) : DefAt K mg "list_left" s_list_left ["plan", "begins", "moment"] := def_mk X G a1 (fun_mk (st := s_list_left) l1 c1 k1) ((fun_mk (st := s_list_left) l1 c1 k1).binds (ps := ["plan", "begins", "moment"]) fun _ _ _ _ _ _ us hl => match us, hl with | [_, _, _], _ => rfl)
theorem def_list_ready (X : K.In h) (G : h.Ns mainGlobals mg) {f1 : Addr} {od1 an1 : Option Addr} {sl1 : Array (Option Value)} {oc1 kV1 dc1 pm1 cd1 ct1 : Value} (a1 : PySem.W.nsIn K mainGlobals "list_ready" = some (some (.ref f1))) (l1 : K.lookup f1 = some ⟨oc1, od1, .func (PySem.W.fnOf "list_ready" "list_ready" (defArgs s_list_ready) (defBody s_list_ready) (defScope s_list_ready) .none kV1 dc1 pm1 an1 cd1 ct1), sl1⟩) (c1 : PySem.W.codeIn K cd1 "list_ready" = true) (k1 : PySem.W.keepIn K (.ref f1) = true) : DefAt K mg "list_ready" s_list_ready ["plan", "begins", "job", "moment"] := def_mk X G a1 (fun_mk (st := s_list_ready) l1 c1 k1) ((fun_mk (st := s_list_ready) l1 c1 k1).binds (ps := ["plan", "begins", "job", "moment"]) fun _ _ _ _ _ _ us hl => match us, hl with | [_, _, _, _], _ => rfl)
theorem def_plan_room_at (X : K.In h) (G : h.Ns mainGlobals mg) {f1 : Addr} {od1 an1 : Option Addr} {sl1 : Array (Option Value)} {oc1 kV1 dc1 pm1 cd1 ct1 : Value} (a1 : PySem.W.nsIn K mainGlobals "plan_room_at" = some (some (.ref f1))) (l1 : K.lookup f1 = some ⟨oc1, od1, .func (PySem.W.fnOf "plan_room_at" "plan_room_at" (defArgs s_plan_room_at) (defBody s_plan_room_at) (defScope s_plan_room_at) .none kV1 dc1 pm1 an1 cd1 ct1), sl1⟩) (c1 : PySem.W.codeIn K cd1 "plan_room_at" = true) (k1 : PySem.W.keepIn K (.ref f1) = true) : DefAt K mg "plan_room_at" s_plan_room_at ["plan", "begins", "moment"] := def_mk X G a1 (fun_mk (st := s_plan_room_at) l1 c1 k1) ((fun_mk (st := s_plan_room_at) l1 c1 k1).binds (ps := ["plan", "begins", "moment"]) fun _ _ _ _ _ _ us hl => match us, hl with | [_, _, _], _ => rfl)
theorem def_plan_running_at (X : K.In h) (G : h.Ns mainGlobals mg) {f1 : Addr} {od1 an1 : Option Addr} {sl1 : Array (Option Value)} {oc1 kV1 dc1 pm1 cd1 ct1 : Value} (a1 : PySem.W.nsIn K mainGlobals "plan_running_at" = some (some (.ref f1))) (l1 : K.lookup f1 = some ⟨oc1, od1, .func (PySem.W.fnOf "plan_running_at" "plan_running_at" (defArgs s_plan_running_at) (defBody s_plan_running_at) (defScope s_plan_running_at) .none kV1 dc1 pm1 an1 cd1 ct1), sl1⟩) (c1 : PySem.W.codeIn K cd1 "plan_running_at" = true) (k1 : PySem.W.keepIn K (.ref f1) = true) : DefAt K mg "plan_running_at" s_plan_running_at ["plan", "begins", "moment"] := def_mk X G a1 (fun_mk (st := s_plan_running_at) l1 c1 k1) ((fun_mk (st := s_plan_running_at) l1 c1 k1).binds (ps := ["plan", "begins", "moment"]) fun _ _ _ _ _ _ us hl => match us, hl with | [_, _, _], _ => rfl)
theorem def_plan_can_begin (X : K.In h) (G : h.Ns mainGlobals mg) {f1 : Addr} {od1 an1 : Option Addr} {sl1 : Array (Option Value)} {oc1 kV1 dc1 pm1 cd1 ct1 : Value} (a1 : PySem.W.nsIn K mainGlobals "plan_can_begin" = some (some (.ref f1))) (l1 : K.lookup f1 = some ⟨oc1, od1, .func (PySem.W.fnOf "plan_can_begin" "plan_can_begin" (defArgs s_plan_can_begin) (defBody s_plan_can_begin) (defScope s_plan_can_begin) .none kV1 dc1 pm1 an1 cd1 ct1), sl1⟩) (c1 : PySem.W.codeIn K cd1 "plan_can_begin" = true) (k1 : PySem.W.keepIn K (.ref f1) = true) : DefAt K mg "plan_can_begin" s_plan_can_begin ["plan", "begins", "job", "moment", "machines", "room"] := def_mk X G a1 (fun_mk (st := s_plan_can_begin) l1 c1 k1) ((fun_mk (st := s_plan_can_begin) l1 c1 k1).binds (ps := ["plan", "begins", "job", "moment", "machines", "room"]) fun _ _ _ _ _ _ us hl => match us, hl with | [_, _, _, _, _, _], _ => rfl)
theorem def_list_begins (X : K.In h) (G : h.Ns mainGlobals mg) {f1 : Addr} {od1 an1 : Option Addr} {sl1 : Array (Option Value)} {oc1 kV1 dc1 pm1 cd1 ct1 : Value} (a1 : PySem.W.nsIn K mainGlobals "list_begins" = some (some (.ref f1))) (l1 : K.lookup f1 = some ⟨oc1, od1, .func (PySem.W.fnOf "list_begins" "list_begins" (defArgs s_list_begins) (defBody s_list_begins) (defScope s_list_begins) .none kV1 dc1 pm1 an1 cd1 ct1), sl1⟩) (c1 : PySem.W.codeIn K cd1 "list_begins" = true) (k1 : PySem.W.keepIn K (.ref f1) = true) : DefAt K mg "list_begins" s_list_begins ["plan", "machines", "room", "order"] := def_mk X G a1 (fun_mk (st := s_list_begins) l1 c1 k1) ((fun_mk (st := s_list_begins) l1 c1 k1).binds (ps := ["plan", "machines", "room", "order"]) fun _ _ _ _ _ _ us hl => match us, hl with | [_, _, _, _], _ => rfl)
theorem def_plan_end (X : K.In h) (G : h.Ns mainGlobals mg) {f1 : Addr} {od1 an1 : Option Addr} {sl1 : Array (Option Value)} {oc1 kV1 dc1 pm1 cd1 ct1 : Value} (a1 : PySem.W.nsIn K mainGlobals "plan_end" = some (some (.ref f1))) (l1 : K.lookup f1 = some ⟨oc1, od1, .func (PySem.W.fnOf "plan_end" "plan_end" (defArgs s_plan_end) (defBody s_plan_end) (defScope s_plan_end) .none kV1 dc1 pm1 an1 cd1 ct1), sl1⟩) (c1 : PySem.W.codeIn K cd1 "plan_end" = true) (k1 : PySem.W.keepIn K (.ref f1) = true) : DefAt K mg "plan_end" s_plan_end ["plan", "begins"] := def_mk X G a1 (fun_mk (st := s_plan_end) l1 c1 k1) ((fun_mk (st := s_plan_end) l1 c1 k1).binds (ps := ["plan", "begins"]) fun _ _ _ _ _ _ us hl => match us, hl with | [_, _], _ => rfl)
theorem def_plan_fits (X : K.In h) (G : h.Ns mainGlobals mg) {f1 : Addr} {od1 an1 : Option Addr} {sl1 : Array (Option Value)} {oc1 kV1 dc1 pm1 cd1 ct1 : Value} (a1 : PySem.W.nsIn K mainGlobals "plan_fits" = some (some (.ref f1))) (l1 : K.lookup f1 = some ⟨oc1, od1, .func (PySem.W.fnOf "plan_fits" "plan_fits" (defArgs s_plan_fits) (defBody s_plan_fits) (defScope s_plan_fits) .none kV1 dc1 pm1 an1 cd1 ct1), sl1⟩) (c1 : PySem.W.codeIn K cd1 "plan_fits" = true) (k1 : PySem.W.keepIn K (.ref f1) = true) : DefAt K mg "plan_fits" s_plan_fits ["plan", "room"] := def_mk X G a1 (fun_mk (st := s_plan_fits) l1 c1 k1) ((fun_mk (st := s_plan_fits) l1 c1 k1).binds (ps := ["plan", "room"]) fun _ _ _ _ _ _ us hl => match us, hl with | [_, _], _ => rfl)
theorem def_list_ends (X : K.In h) (G : h.Ns mainGlobals mg) {f1 : Addr} {od1 an1 : Option Addr} {sl1 : Array (Option Value)} {oc1 kV1 dc1 pm1 cd1 ct1 : Value} (a1 : PySem.W.nsIn K mainGlobals "list_ends" = some (some (.ref f1))) (l1 : K.lookup f1 = some ⟨oc1, od1, .func (PySem.W.fnOf "list_ends" "list_ends" (defArgs s_list_ends) (defBody s_list_ends) (defScope s_list_ends) .none kV1 dc1 pm1 an1 cd1 ct1), sl1⟩) (c1 : PySem.W.codeIn K cd1 "list_ends" = true) (k1 : PySem.W.keepIn K (.ref f1) = true) : DefAt K mg "list_ends" s_list_ends ["plan", "machines", "room", "order"] := def_mk X G a1 (fun_mk (st := s_list_ends) l1 c1 k1) ((fun_mk (st := s_list_ends) l1 c1 k1).binds (ps := ["plan", "machines", "room", "order"]) fun _ _ _ _ _ _ us hl => match us, hl with | [_, _, _, _], _ => rfl)
theorem def_list_orders (X : K.In h) (G : h.Ns mainGlobals mg) {f1 : Addr} {od1 an1 : Option Addr} {sl1 : Array (Option Value)} {oc1 kV1 dc1 pm1 cd1 ct1 : Value} (a1 : PySem.W.nsIn K mainGlobals "list_orders" = some (some (.ref f1))) (l1 : K.lookup f1 = some ⟨oc1, od1, .func (PySem.W.fnOf "list_orders" "list_orders" (defArgs s_list_orders) (defBody s_list_orders) (defScope s_list_orders) .none kV1 dc1 pm1 an1 cd1 ct1), sl1⟩) (c1 : PySem.W.codeIn K cd1 "list_orders" = true) (k1 : PySem.W.keepIn K (.ref f1) = true) : DefAt K mg "list_orders" s_list_orders ["many"] := def_mk X G a1 (fun_mk (st := s_list_orders) l1 c1 k1) ((fun_mk (st := s_list_orders) l1 c1 k1).binds (ps := ["many"]) fun _ _ _ _ _ _ us hl => match us, hl with | [_], _ => rfl)
theorem def_need_few_jobs (X : K.In h) (G : h.Ns mainGlobals mg) {f1 : Addr} {od1 an1 : Option Addr} {sl1 : Array (Option Value)} {oc1 kV1 dc1 pm1 cd1 ct1 : Value} (a1 : PySem.W.nsIn K mainGlobals "need_few_jobs" = some (some (.ref f1))) (l1 : K.lookup f1 = some ⟨oc1, od1, .func (PySem.W.fnOf "need_few_jobs" "need_few_jobs" (defArgs s_need_few_jobs) (defBody s_need_few_jobs) (defScope s_need_few_jobs) .none kV1 dc1 pm1 an1 cd1 ct1), sl1⟩) (c1 : PySem.W.codeIn K cd1 "need_few_jobs" = true) (k1 : PySem.W.keepIn K (.ref f1) = true) : DefAt K mg "need_few_jobs" s_need_few_jobs ["plan"] := def_mk X G a1 (fun_mk (st := s_need_few_jobs) l1 c1 k1) ((fun_mk (st := s_need_few_jobs) l1 c1 k1).binds (ps := ["plan"]) fun _ _ _ _ _ _ us hl => match us, hl with | [_], _ => rfl)
theorem def_is_count (X : K.In h) (G : h.Ns mainGlobals mg) {f1 : Addr} {od1 an1 : Option Addr} {sl1 : Array (Option Value)} {oc1 kV1 dc1 pm1 cd1 ct1 : Value} (a1 : PySem.W.nsIn K mainGlobals "is_count" = some (some (.ref f1))) (l1 : K.lookup f1 = some ⟨oc1, od1, .func (PySem.W.fnOf "is_count" "is_count" (defArgs s_is_count) (defBody s_is_count) (defScope s_is_count) .none kV1 dc1 pm1 an1 cd1 ct1), sl1⟩) (c1 : PySem.W.codeIn K cd1 "is_count" = true) (k1 : PySem.W.keepIn K (.ref f1) = true) : DefAt K mg "is_count" s_is_count ["thing", "low", "high"] := def_mk X G a1 (fun_mk (st := s_is_count) l1 c1 k1) ((fun_mk (st := s_is_count) l1 c1 k1).binds (ps := ["thing", "low", "high"]) fun _ _ _ _ _ _ us hl => match us, hl with | [_, _, _], _ => rfl)
theorem def_need_machines (X : K.In h) (G : h.Ns mainGlobals mg) {f1 : Addr} {od1 an1 : Option Addr} {sl1 : Array (Option Value)} {oc1 kV1 dc1 pm1 cd1 ct1 : Value} (a1 : PySem.W.nsIn K mainGlobals "need_machines" = some (some (.ref f1))) (l1 : K.lookup f1 = some ⟨oc1, od1, .func (PySem.W.fnOf "need_machines" "need_machines" (defArgs s_need_machines) (defBody s_need_machines) (defScope s_need_machines) .none kV1 dc1 pm1 an1 cd1 ct1), sl1⟩) (c1 : PySem.W.codeIn K cd1 "need_machines" = true) (k1 : PySem.W.keepIn K (.ref f1) = true) : DefAt K mg "need_machines" s_need_machines ["thing"] := def_mk X G a1 (fun_mk (st := s_need_machines) l1 c1 k1) ((fun_mk (st := s_need_machines) l1 c1 k1).binds (ps := ["thing"]) fun _ _ _ _ _ _ us hl => match us, hl with | [_], _ => rfl)
theorem def_plan_is_rising (X : K.In h) (G : h.Ns mainGlobals mg) {f1 : Addr} {od1 an1 : Option Addr} {sl1 : Array (Option Value)} {oc1 kV1 dc1 pm1 cd1 ct1 : Value} (a1 : PySem.W.nsIn K mainGlobals "plan_is_rising" = some (some (.ref f1))) (l1 : K.lookup f1 = some ⟨oc1, od1, .func (PySem.W.fnOf "plan_is_rising" "plan_is_rising" (defArgs s_plan_is_rising) (defBody s_plan_is_rising) (defScope s_plan_is_rising) .none kV1 dc1 pm1 an1 cd1 ct1), sl1⟩) (c1 : PySem.W.codeIn K cd1 "plan_is_rising" = true) (k1 : PySem.W.keepIn K (.ref f1) = true) : DefAt K mg "plan_is_rising" s_plan_is_rising ["thing", "many"] := def_mk X G a1 (fun_mk (st := s_plan_is_rising) l1 c1 k1) ((fun_mk (st := s_plan_is_rising) l1 c1 k1).binds (ps := ["thing", "many"]) fun _ _ _ _ _ _ us hl => match us, hl with | [_, _], _ => rfl)
theorem def_need_plan (X : K.In h) (G : h.Ns mainGlobals mg) {f1 : Addr} {od1 an1 : Option Addr} {sl1 : Array (Option Value)} {oc1 kV1 dc1 pm1 cd1 ct1 : Value} (a1 : PySem.W.nsIn K mainGlobals "need_plan" = some (some (.ref f1))) (l1 : K.lookup f1 = some ⟨oc1, od1, .func (PySem.W.fnOf "need_plan" "need_plan" (defArgs s_need_plan) (defBody s_need_plan) (defScope s_need_plan) .none kV1 dc1 pm1 an1 cd1 ct1), sl1⟩) (c1 : PySem.W.codeIn K cd1 "need_plan" = true) (k1 : PySem.W.keepIn K (.ref f1) = true) : DefAt K mg "need_plan" s_need_plan ["thing"] := def_mk X G a1 (fun_mk (st := s_need_plan) l1 c1 k1) ((fun_mk (st := s_need_plan) l1 c1 k1).binds (ps := ["thing"]) fun _ _ _ _ _ _ us hl => match us, hl with | [_], _ => rfl)
theorem def_need_plan_room (X : K.In h) (G : h.Ns mainGlobals mg) {f1 : Addr} {od1 an1 : Option Addr} {sl1 : Array (Option Value)} {oc1 kV1 dc1 pm1 cd1 ct1 : Value} (a1 : PySem.W.nsIn K mainGlobals "need_plan_room" = some (some (.ref f1))) (l1 : K.lookup f1 = some ⟨oc1, od1, .func (PySem.W.fnOf "need_plan_room" "need_plan_room" (defArgs s_need_plan_room) (defBody s_need_plan_room) (defScope s_need_plan_room) .none kV1 dc1 pm1 an1 cd1 ct1), sl1⟩) (c1 : PySem.W.codeIn K cd1 "need_plan_room" = true) (k1 : PySem.W.keepIn K (.ref f1) = true) : DefAt K mg "need_plan_room" s_need_plan_room ["thing"] := def_mk X G a1 (fun_mk (st := s_need_plan_room) l1 c1 k1) ((fun_mk (st := s_need_plan_room) l1 c1 k1).binds (ps := ["thing"]) fun _ _ _ _ _ _ us hl => match us, hl with | [_], _ => rfl)
theorem def_need_plan_asked (X : K.In h) (G : h.Ns mainGlobals mg) {f1 : Addr} {od1 an1 : Option Addr} {sl1 : Array (Option Value)} {oc1 kV1 dc1 pm1 cd1 ct1 : Value} (a1 : PySem.W.nsIn K mainGlobals "need_plan_asked" = some (some (.ref f1))) (l1 : K.lookup f1 = some ⟨oc1, od1, .func (PySem.W.fnOf "need_plan_asked" "need_plan_asked" (defArgs s_need_plan_asked) (defBody s_need_plan_asked) (defScope s_need_plan_asked) .none kV1 dc1 pm1 an1 cd1 ct1), sl1⟩) (c1 : PySem.W.codeIn K cd1 "need_plan_asked" = true) (k1 : PySem.W.keepIn K (.ref f1) = true) : DefAt K mg "need_plan_asked" s_need_plan_asked ["plan", "machines", "room"] := def_mk X G a1 (fun_mk (st := s_need_plan_asked) l1 c1 k1) ((fun_mk (st := s_need_plan_asked) l1 c1 k1).binds (ps := ["plan", "machines", "room"]) fun _ _ _ _ _ _ us hl => match us, hl with | [_, _, _], _ => rfl)
theorem def_list_all (X : K.In h) (G : h.Ns mainGlobals mg) {f1 : Addr} {od1 an1 : Option Addr} {sl1 : Array (Option Value)} {oc1 kV1 dc1 pm1 cd1 ct1 : Value} (a1 : PySem.W.nsIn K mainGlobals "list_all" = some (some (.ref f1))) (l1 : K.lookup f1 = some ⟨oc1, od1, .func (PySem.W.fnOf "list_all" "list_all" (defArgs s_list_all) (defBody s_list_all) (defScope s_list_all) .none kV1 dc1 pm1 an1 cd1 ct1), sl1⟩) (c1 : PySem.W.codeIn K cd1 "list_all" = true) (k1 : PySem.W.keepIn K (.ref f1) = true) : DefAt K mg "list_all" s_list_all ["plan", "machines", "room"] := def_mk X G a1 (fun_mk (st := s_list_all) l1 c1 k1) ((fun_mk (st := s_list_all) l1 c1 k1).binds (ps := ["plan", "machines", "room"]) fun _ _ _ _ _ _ us hl => match us, hl with | [_, _, _], _ => rfl)
theorem def_best_order (X : K.In h) (G : h.Ns mainGlobals mg) {f1 : Addr} {od1 an1 : Option Addr} {sl1 : Array (Option Value)} {oc1 kV1 dc1 pm1 cd1 ct1 : Value} (a1 : PySem.W.nsIn K mainGlobals "best_order" = some (some (.ref f1))) (l1 : K.lookup f1 = some ⟨oc1, od1, .func (PySem.W.fnOf "best_order" "best_order" (defArgs s_best_order) (defBody s_best_order) (defScope s_best_order) .none kV1 dc1 pm1 an1 cd1 ct1), sl1⟩) (c1 : PySem.W.codeIn K cd1 "best_order" = true) (k1 : PySem.W.keepIn K (.ref f1) = true) : DefAt K mg "best_order" s_best_order ["plan", "machines", "room"] := def_mk X G a1 (fun_mk (st := s_best_order) l1 c1 k1) ((fun_mk (st := s_best_order) l1 c1 k1).binds (ps := ["plan", "machines", "room"]) fun _ _ _ _ _ _ us hl => match us, hl with | [_, _, _], _ => rfl)
theorem def_plan_first_begin (X : K.In h) (G : h.Ns mainGlobals mg) {f1 : Addr} {od1 an1 : Option Addr} {sl1 : Array (Option Value)} {oc1 kV1 dc1 pm1 cd1 ct1 : Value} (a1 : PySem.W.nsIn K mainGlobals "plan_first_begin" = some (some (.ref f1))) (l1 : K.lookup f1 = some ⟨oc1, od1, .func (PySem.W.fnOf "plan_first_begin" "plan_first_begin" (defArgs s_plan_first_begin) (defBody s_plan_first_begin) (defScope s_plan_first_begin) .none kV1 dc1 pm1 an1 cd1 ct1), sl1⟩) (c1 : PySem.W.codeIn K cd1 "plan_first_begin" = true) (k1 : PySem.W.keepIn K (.ref f1) = true) : DefAt K mg "plan_first_begin" s_plan_first_begin ["plan", "begins", "job", "machines", "room"] := def_mk X G a1 (fun_mk (st := s_plan_first_begin) l1 c1 k1) ((fun_mk (st := s_plan_first_begin) l1 c1 k1).binds (ps := ["plan", "begins", "job", "machines", "room"]) fun _ _ _ _ _ _ us hl => match us, hl with | [_, _, _, _, _], _ => rfl)
theorem def_plan_users (X : K.In h) (G : h.Ns mainGlobals mg) {f1 : Addr} {od1 an1 : Option Addr} {sl1 : Array (Option Value)} {oc1 kV1 dc1 pm1 cd1 ct1 : Value} (a1 : PySem.W.nsIn K mainGlobals "plan_users" = some (some (.ref f1))) (l1 : K.lookup f1 = some ⟨oc1, od1, .func (PySem.W.fnOf "plan_users" "plan_users" (defArgs s_plan_users) (defBody s_plan_users) (defScope s_plan_users) .none kV1 dc1 pm1 an1 cd1 ct1), sl1⟩) (c1 : PySem.W.codeIn K cd1 "plan_users" = true) (k1 : PySem.W.keepIn K (.ref f1) = true) : DefAt K mg "plan_users" s_plan_users ["plan", "job"] := def_mk X G a1 (fun_mk (st := s_plan_users) l1 c1 k1) ((fun_mk (st := s_plan_users) l1 c1 k1).binds (ps := ["plan", "job"]) fun _ _ _ _ _ _ us hl => match us, hl with | [_, _], _ => rfl)
theorem def_plan_open (X : K.In h) (G : h.Ns mainGlobals mg) {f1 : Addr} {od1 an1 : Option Addr} {sl1 : Array (Option Value)} {oc1 kV1 dc1 pm1 cd1 ct1 : Value} (a1 : PySem.W.nsIn K mainGlobals "plan_open" = some (some (.ref f1))) (l1 : K.lookup f1 = some ⟨oc1, od1, .func (PySem.W.fnOf "plan_open" "plan_open" (defArgs s_plan_open) (defBody s_plan_open) (defScope s_plan_open) .none kV1 dc1 pm1 an1 cd1 ct1), sl1⟩) (c1 : PySem.W.codeIn K cd1 "plan_open" = true) (k1 : PySem.W.keepIn K (.ref f1) = true) : DefAt K mg "plan_open" s_plan_open ["plan", "begins"] := def_mk X G a1 (fun_mk (st := s_plan_open) l1 c1 k1) ((fun_mk (st := s_plan_open) l1 c1 k1).binds (ps := ["plan", "begins"]) fun _ _ _ _ _ _ us hl => match us, hl with | [_, _], _ => rfl)
theorem def_plan_tails (X : K.In h) (G : h.Ns mainGlobals mg) {f1 : Addr} {od1 an1 : Option Addr} {sl1 : Array (Option Value)} {oc1 kV1 dc1 pm1 cd1 ct1 : Value} (a1 : PySem.W.nsIn K mainGlobals "plan_tails" = some (some (.ref f1))) (l1 : K.lookup f1 = some ⟨oc1, od1, .func (PySem.W.fnOf "plan_tails" "plan_tails" (defArgs s_plan_tails) (defBody s_plan_tails) (defScope s_plan_tails) .none kV1 dc1 pm1 an1 cd1 ct1), sl1⟩) (c1 : PySem.W.codeIn K cd1 "plan_tails" = true) (k1 : PySem.W.keepIn K (.ref f1) = true) : DefAt K mg "plan_tails" s_plan_tails ["plan"] := def_mk X G a1 (fun_mk (st := s_plan_tails) l1 c1 k1) ((fun_mk (st := s_plan_tails) l1 c1 k1).binds (ps := ["plan"]) fun _ _ _ _ _ _ us hl => match us, hl with | [_], _ => rfl)
theorem def_plan_whole (X : K.In h) (G : h.Ns mainGlobals mg) {f1 : Addr} {od1 an1 : Option Addr} {sl1 : Array (Option Value)} {oc1 kV1 dc1 pm1 cd1 ct1 : Value} (a1 : PySem.W.nsIn K mainGlobals "plan_whole" = some (some (.ref f1))) (l1 : K.lookup f1 = some ⟨oc1, od1, .func (PySem.W.fnOf "plan_whole" "plan_whole" (defArgs s_plan_whole) (defBody s_plan_whole) (defScope s_plan_whole) .none kV1 dc1 pm1 an1 cd1 ct1), sl1⟩) (c1 : PySem.W.codeIn K cd1 "plan_whole" = true) (k1 : PySem.W.keepIn K (.ref f1) = true) : DefAt K mg "plan_whole" s_plan_whole ["over", "under"] := def_mk X G a1 (fun_mk (st := s_plan_whole) l1 c1 k1) ((fun_mk (st := s_plan_whole) l1 c1 k1).binds (ps := ["over", "under"]) fun _ _ _ _ _ _ us hl => match us, hl with | [_, _], _ => rfl)
theorem def_plan_best (X : K.In h) (G : h.Ns mainGlobals mg) {f1 : Addr} {od1 an1 : Option Addr} {sl1 : Array (Option Value)} {oc1 kV1 dc1 pm1 cd1 ct1 : Value} (a1 : PySem.W.nsIn K mainGlobals "plan_best" = some (some (.ref f1))) (l1 : K.lookup f1 = some ⟨oc1, od1, .func (PySem.W.fnOf "plan_best" "plan_best" (defArgs s_plan_best) (defBody s_plan_best) (defScope s_plan_best) .none kV1 dc1 pm1 an1 cd1 ct1), sl1⟩) (c1 : PySem.W.codeIn K cd1 "plan_best" = true) (k1 : PySem.W.keepIn K (.ref f1) = true) : DefAt K mg "plan_best" s_plan_best ["plan", "machines", "room"] := def_mk X G a1 (fun_mk (st := s_plan_best) l1 c1 k1) ((fun_mk (st := s_plan_best) l1 c1 k1).binds (ps := ["plan", "machines", "room"]) fun _ _ _ _ _ _ us hl => match us, hl with | [_, _, _], _ => rfl)
theorem def_least_end (X : K.In h) (G : h.Ns mainGlobals mg) {f1 : Addr} {od1 an1 : Option Addr} {sl1 : Array (Option Value)} {oc1 kV1 dc1 pm1 cd1 ct1 : Value} (a1 : PySem.W.nsIn K mainGlobals "least_end" = some (some (.ref f1))) (l1 : K.lookup f1 = some ⟨oc1, od1, .func (PySem.W.fnOf "least_end" "least_end" (defArgs s_least_end) (defBody s_least_end) (defScope s_least_end) .none kV1 dc1 pm1 an1 cd1 ct1), sl1⟩) (c1 : PySem.W.codeIn K cd1 "least_end" = true) (k1 : PySem.W.keepIn K (.ref f1) = true) : DefAt K mg "least_end" s_least_end ["plan", "machines", "room"] := def_mk X G a1 (fun_mk (st := s_least_end) l1 c1 k1) ((fun_mk (st := s_least_end) l1 c1 k1).binds (ps := ["plan", "machines", "room"]) fun _ _ _ _ _ _ us hl => match us, hl with | [_, _, _], _ => rfl)
theorem def_need_plan_end (X : K.In h) (G : h.Ns mainGlobals mg) {f1 : Addr} {od1 an1 : Option Addr} {sl1 : Array (Option Value)} {oc1 kV1 dc1 pm1 cd1 ct1 : Value} (a1 : PySem.W.nsIn K mainGlobals "need_plan_end" = some (some (.ref f1))) (l1 : K.lookup f1 = some ⟨oc1, od1, .func (PySem.W.fnOf "need_plan_end" "need_plan_end" (defArgs s_need_plan_end) (defBody s_need_plan_end) (defScope s_need_plan_end) .none kV1 dc1 pm1 an1 cd1 ct1), sl1⟩) (c1 : PySem.W.codeIn K cd1 "need_plan_end" = true) (k1 : PySem.W.keepIn K (.ref f1) = true) : DefAt K mg "need_plan_end" s_need_plan_end ["thing"] := def_mk X G a1 (fun_mk (st := s_need_plan_end) l1 c1 k1) ((fun_mk (st := s_need_plan_end) l1 c1 k1).binds (ps := ["thing"]) fun _ _ _ _ _ _ us hl => match us, hl with | [_], _ => rfl)
theorem def_list_count (X : K.In h) (G : h.Ns mainGlobals mg) {f1 : Addr} {od1 an1 : Option Addr} {sl1 : Array (Option Value)} {oc1 kV1 dc1 pm1 cd1 ct1 : Value} (a1 : PySem.W.nsIn K mainGlobals "list_count" = some (some (.ref f1))) (l1 : K.lookup f1 = some ⟨oc1, od1, .func (PySem.W.fnOf "list_count" "list_count" (defArgs s_list_count) (defBody s_list_count) (defScope s_list_count) .none kV1 dc1 pm1 an1 cd1 ct1), sl1⟩) (c1 : PySem.W.codeIn K cd1 "list_count" = true) (k1 : PySem.W.keepIn K (.ref f1) = true) : DefAt K mg "list_count" s_list_count ["plan", "machines", "room", "end"] := def_mk X G a1 (fun_mk (st := s_list_count) l1 c1 k1) ((fun_mk (st := s_list_count) l1 c1 k1).binds (ps := ["plan", "machines", "room", "end"]) fun _ _ _ _ _ _ us hl => match us, hl with | [_, _, _, _], _ => rfl)
theorem def_worst_order (X : K.In h) (G : h.Ns mainGlobals mg) {f1 : Addr} {od1 an1 : Option Addr} {sl1 : Array (Option Value)} {oc1 kV1 dc1 pm1 cd1 ct1 : Value} (a1 : PySem.W.nsIn K mainGlobals "worst_order" = some (some (.ref f1))) (l1 : K.lookup f1 = some ⟨oc1, od1, .func (PySem.W.fnOf "worst_order" "worst_order" (defArgs s_worst_order) (defBody s_worst_order) (defScope s_worst_order) .none kV1 dc1 pm1 an1 cd1 ct1), sl1⟩) (c1 : PySem.W.codeIn K cd1 "worst_order" = true) (k1 : PySem.W.keepIn K (.ref f1) = true) : DefAt K mg "worst_order" s_worst_order ["plan", "machines", "room"] := def_mk X G a1 (fun_mk (st := s_worst_order) l1 c1 k1) ((fun_mk (st := s_worst_order) l1 c1 k1).binds (ps := ["plan", "machines", "room"]) fun _ _ _ _ _ _ us hl => match us, hl with | [_, _, _], _ => rfl)
end
theorem all_mk {l : PySem.W.OpenLaw} {w : World} {K : PySem.W.Frag} {h : Heap} {mg : Str → Option Value} {fa : Addr} (X : K.In h) (G : h.Ns mainGlobals mg) (hfa : mg "law" = some (.ref fa))
    (D_law_alike : DefAt K mg "_law_alike" s__law_alike ["_law_found", "_law_due"])
    (D_law_plan_fit : DefAt K mg "_law_plan_fit" s__law_plan_fit ["_law_plan_here", "_law_begins", "_law_machines", "_law_room"])
    (D_law_list_told : DefAt K mg "_law_list_told" s__law_list_told ["_law_plan_here", "_law_machines", "_law_room", "_law_order"])
    (D_law_list_end : DefAt K mg "_law_list_end" s__law_list_end ["_law_plan_here", "_law_machines", "_law_room", "_law_order"])
    (D_law_mix : DefAt K mg "_law_mix" s__law_mix ["_law_script", "_law_seed"])
    (D_law_next : DefAt K mg "_law_next" s__law_next ["_law_h", "_law_cap"])
    (D_law_pick : DefAt K mg "_law_pick" s__law_pick ["_law_h", "_law_things"])
    (D_law_plan : DefAt K mg "_law_plan" s__law_plan ["_law_h", "_law_most"])
    (D_law_plan_orders : DefAt K mg "_law_plan_orders" s__law_plan_orders ["_law_many"])
    (D_list_left : DefAt K mg "list_left" s_list_left ["plan", "begins", "moment"])
    (D_list_ready : DefAt K mg "list_ready" s_list_ready ["plan", "begins", "job", "moment"])
    (D_plan_room_at : DefAt K mg "plan_room_at" s_plan_room_at ["plan", "begins", "moment"])
    (D_plan_running_at : DefAt K mg "plan_running_at" s_plan_running_at ["plan", "begins", "moment"])
    (D_plan_can_begin : DefAt K mg "plan_can_begin" s_plan_can_begin ["plan", "begins", "job", "moment", "machines", "room"])
    (D_list_begins : DefAt K mg "list_begins" s_list_begins ["plan", "machines", "room", "order"])
    (D_plan_end : DefAt K mg "plan_end" s_plan_end ["plan", "begins"])
    (D_plan_fits : DefAt K mg "plan_fits" s_plan_fits ["plan", "room"])
    (D_list_ends : DefAt K mg "list_ends" s_list_ends ["plan", "machines", "room", "order"])
    (D_list_orders : DefAt K mg "list_orders" s_list_orders ["many"])
    (D_need_few_jobs : DefAt K mg "need_few_jobs" s_need_few_jobs ["plan"])
    (D_is_count : DefAt K mg "is_count" s_is_count ["thing", "low", "high"])
    (D_need_machines : DefAt K mg "need_machines" s_need_machines ["thing"])
    (D_plan_is_rising : DefAt K mg "plan_is_rising" s_plan_is_rising ["thing", "many"])
    (D_need_plan : DefAt K mg "need_plan" s_need_plan ["thing"])
    (D_need_plan_room : DefAt K mg "need_plan_room" s_need_plan_room ["thing"])
    (D_need_plan_asked : DefAt K mg "need_plan_asked" s_need_plan_asked ["plan", "machines", "room"])
    (D_list_all : DefAt K mg "list_all" s_list_all ["plan", "machines", "room"])
    (D_best_order : DefAt K mg "best_order" s_best_order ["plan", "machines", "room"])
    (D_plan_first_begin : DefAt K mg "plan_first_begin" s_plan_first_begin ["plan", "begins", "job", "machines", "room"])
    (D_plan_users : DefAt K mg "plan_users" s_plan_users ["plan", "job"])
    (D_plan_open : DefAt K mg "plan_open" s_plan_open ["plan", "begins"])
    (D_plan_tails : DefAt K mg "plan_tails" s_plan_tails ["plan"])
    (D_plan_whole : DefAt K mg "plan_whole" s_plan_whole ["over", "under"])
    (D_plan_best : DefAt K mg "plan_best" s_plan_best ["plan", "machines", "room"])
    (D_least_end : DefAt K mg "least_end" s_least_end ["plan", "machines", "room"])
    (D_need_plan_end : DefAt K mg "need_plan_end" s_need_plan_end ["thing"])
    (D_list_count : DefAt K mg "list_count" s_list_count ["plan", "machines", "room", "end"])
    (D_worst_order : DefAt K mg "worst_order" s_worst_order ["plan", "machines", "room"])
    (TX : Txt mg)
    {f0 : Addr} {od0 an0 : Option Addr} {sl0 : Array (Option Value)} {oc0 kV0 dc0 pm0 cd0 ct0 : Value} (a0 : PySem.W.nsIn K mainGlobals "law" = some (some (.ref f0))) (l0 : K.lookup f0 = some ⟨oc0, od0, .func (PySem.W.fnOf "law" "law" (defArgs s_law) (defBody s_law) (defScope s_law) .none kV0 dc0 pm0 an0 cd0 ct0), sl0⟩) (c0 : PySem.W.codeIn K cd0 "law" = true) (k0 : PySem.W.keepIn K (.ref f0) = true) :
    ∃ fd : FuncData, (∀ (s : Shared) (v : Value), BindsTo s fd ⟨[v], []⟩ [("_law_script", v)]) ∧ ∀ base : Heap, K.In base → base.Ns mainGlobals mg → FnOk l.prog w K mg base CX0 7 fa fd ["_law_script"] (sp_law K) := by
  have e := hfa.symm.trans (PySem.W.mg_of X G a0)
  cases e
  refine ⟨PySem.W.fnOf "law" "law" (defArgs s_law) (defBody s_law) (defScope s_law) .none kV0 dc0 pm0 an0 cd0 ct0, fun s v => .of_eq rfl, fun base _ _ => ?_⟩
  have C_law_alike : Cal l.prog w K mg base 4 "_law_alike" (spA 3) := calA D_law_alike TX 3
  have C_law_plan_fit : Cal l.prog w K mg base 1 "_law_plan_fit" (sp_law_plan_fit) := cal_law_plan_fit D_law_plan_fit TX 
  have C_law_list_told : Cal l.prog w K mg base 2 "_law_list_told" (sp_law_list_told) := cal_law_list_told D_law_list_told TX C_law_plan_fit
  have C_law_list_end : Cal l.prog w K mg base 3 "_law_list_end" (sp_law_list_end) := cal_law_list_end D_law_list_end TX C_law_list_told
  have C_law_mix : Cal l.prog w K mg base 1 "_law_mix" (sp_law_mix K) := cal_law_mix D_law_mix TX 
  have C_law_next : Cal l.prog w K mg base 1 "_law_next" (sp_law_next) := cal_law_next D_law_next TX 
  have C_law_pick : Cal l.prog w K mg base 2 "_law_pick" (sp_law_pick) := cal_law_pick D_law_pick TX C_law_next
  have C_law_plan : Cal l.prog w K mg base 3 "_law_plan" (sp_law_plan) := cal_law_plan D_law_plan TX C_law_next C_law_pick
  have C_law_plan_orders : Cal l.prog w K mg base 1 "_law_plan_orders" (sp_law_plan_orders) := cal_law_plan_orders D_law_plan_orders TX 
  have C_list_left : Cal l.prog w K mg base 1 "list_left" (sp_list_left) := cal_list_left D_list_left TX 
  have C_list_ready : Cal l.prog w K mg base 1 "list_ready" (sp_list_ready) := cal_list_ready D_list_ready TX 
  have C_plan_room_at : Cal l.prog w K mg base 1 "plan_room_at" (sp_plan_room_at) := cal_plan_room_at D_plan_room_at TX 
  have C_plan_running_at : Cal l.prog w K mg base 1 "plan_running_at" (sp_plan_running_at) := cal_plan_running_at D_plan_running_at TX 
  have C_plan_can_begin : Cal l.prog w K mg base 2 "plan_can_begin" (sp_plan_can_begin) := cal_plan_can_begin D_plan_can_begin TX C_plan_room_at C_plan_running_at
  have C_list_begins : Cal l.prog w K mg base 3 "list_begins" (sp_list_begins) := cal_list_begins D_list_begins TX C_list_left C_list_ready C_plan_can_begin
  have C_plan_end : Cal l.prog w K mg base 1 "plan_end" (sp_plan_end) := cal_plan_end D_plan_end TX 
  have C_plan_fits : Cal l.prog w K mg base 1 "plan_fits" (sp_plan_fits) := cal_plan_fits D_plan_fits TX 
  have C_list_ends : Cal l.prog w K mg base 4 "list_ends" (sp_list_ends) := cal_list_ends D_list_ends TX C_list_begins C_plan_end C_plan_fits
  have C_list_orders : Cal l.prog w K mg base 1 "list_orders" (sp_list_orders) := cal_list_orders D_list_orders TX 
  have C_need_few_jobs : Cal l.prog w K mg base 1 "need_few_jobs" (sp_need_few_jobs) := cal_need_few_jobs D_need_few_jobs TX 
  have C_is_count : Cal l.prog w K mg base 1 "is_count" (sp_is_count) := cal_is_count D_is_count TX 
  have C_need_machines : Cal l.prog w K mg base 2 "need_machines" (sp_need_machines) := cal_need_machines D_need_machines TX C_is_count
  have C_plan_is_rising : Cal l.prog w K mg base 2 "plan_is_rising" (sp_plan_is_rising) := cal_plan_is_rising D_plan_is_rising TX C_is_count
  have C_need_plan : Cal l.prog w K mg base 3 "need_plan" (sp_need_plan) := cal_need_plan D_need_plan TX C_is_count C_plan_is_rising
  have C_need_plan_room : Cal l.prog w K mg base 2 "need_plan_room" (sp_need_plan_room) := cal_need_plan_room D_need_plan_room TX C_is_count
  have C_need_plan_asked : Cal l.prog w K mg base 4 "need_plan_asked" (sp_need_plan_asked) := cal_need_plan_asked D_need_plan_asked TX C_need_machines C_need_plan C_need_plan_room
  have C_list_all : Cal l.prog w K mg base 5 "list_all" (sp_list_all) := cal_list_all D_list_all TX C_list_ends C_list_orders C_need_few_jobs C_need_plan_asked C_plan_fits
  have C_best_order : Cal l.prog w K mg base 6 "best_order" (sp_best_order) := cal_best_order D_best_order TX C_list_all
  have C_plan_first_begin : Cal l.prog w K mg base 3 "plan_first_begin" (sp_plan_first_begin) := cal_plan_first_begin D_plan_first_begin TX C_plan_can_begin
  have C_plan_users : Cal l.prog w K mg base 1 "plan_users" (sp_plan_users) := cal_plan_users D_plan_users TX 
  have C_plan_open : Cal l.prog w K mg base 2 "plan_open" (sp_plan_open) := cal_plan_open D_plan_open TX C_plan_users
  have C_plan_tails : Cal l.prog w K mg base 1 "plan_tails" (sp_plan_tails) := cal_plan_tails D_plan_tails TX 
  have C_plan_whole : Cal l.prog w K mg base 1 "plan_whole" (sp_plan_whole) := cal_plan_whole D_plan_whole TX 
  have C_plan_best : Cal l.prog w K mg base 4 "plan_best" (sp_plan_best) := cal_plan_best D_plan_best TX C_plan_end C_plan_first_begin C_plan_open C_plan_tails C_plan_whole
  have C_least_end : Cal l.prog w K mg base 5 "least_end" (sp_least_end) := cal_least_end D_least_end TX C_need_plan_asked C_plan_best C_plan_fits
  have C_need_plan_end : Cal l.prog w K mg base 2 "need_plan_end" (sp_need_plan_end) := cal_need_plan_end D_need_plan_end TX C_is_count
  have C_list_count : Cal l.prog w K mg base 6 "list_count" (sp_list_count) := cal_list_count D_list_count TX C_list_all C_need_plan_asked C_need_plan_end
  have C_worst_order : Cal l.prog w K mg base 6 "worst_order" (sp_worst_order) := cal_worst_order D_worst_order TX C_list_all
  exact fok_law (fun_mk (st := s_law) l0 c0 k0) TX C_law_alike C_law_list_end C_law_mix C_law_next C_law_pick C_law_plan C_law_plan_orders C_best_order C_least_end C_list_count C_worst_order
end Wk
end

section
open PySem PySem.W PyProof.Rows
set_option Elab.async false
set_option linter.all false
set_option maxRecDepth 100000
set_option maxHeartbeats 0 in
theorem PySem.Challenge.cw_buildroom_k58_whole_all_orders_holds : PySem.Challenge.rw_buildroom_k58_whole_all_orders.Holds := by
  w_on; o_law; k_head; (case hw => w_witness2)
  k_fill
  refine L2.walk_of (l := PySem.Challenge.rw_buildroom_k58_whole_all_orders) (n := 63) (k := 7) (x := "_law_script") (CX := fun _ => L2.CX0) (sp := fun w => Wk.sp_law _) rfl (by decide) rfl ⟨rfl, by decide, by decide⟩ (fun w h Y => PySem.W.kIn_of Y) ?F (fun _ _ a ns hl _ hS => ⟨a, ns, rfl, hS, hl, fun _ => rfl⟩) (fun _ _ _ _ _ h => h)
  case F =>
    intro w mg fa h KX G hmg0
    have hmg : mg "law" = some (.ref fa) := hmg0
    clear hmg0
    refine' Wk.all_mk KX G hmg (Wk.def_law_alike KX G ?a1 ?l1 ?c1 ?k1)
      (Wk.def_law_plan_fit KX G ?a2 ?l2 ?c2 ?k2)
      (Wk.def_law_list_told KX G ?a3 ?l3 ?c3 ?k3)
      (Wk.def_law_list_end KX G ?a4 ?l4 ?c4 ?k4)
      (Wk.def_law_mix KX G ?a5 ?l5 ?c5 ?k5)
      (Wk.def_law_next KX G ?a6 ?l6 ?c6 ?k6)
      (Wk.def_law_pick KX G ?a7 ?l7 ?c7 ?k7)
      (Wk.def_law_plan KX G ?a8 ?l8 ?c8 ?k8)
      (Wk.def_law_plan_orders KX G ?a9 ?l9 ?c9 ?k9)
      (Wk.def_list_left KX G ?a10 ?l10 ?c10 ?k10)
      (Wk.def_list_ready KX G ?a11 ?l11 ?c11 ?k11)
      (Wk.def_plan_room_at KX G ?a12 ?l12 ?c12 ?k12)
      (Wk.def_plan_running_at KX G ?a13 ?l13 ?c13 ?k13)
      (Wk.def_plan_can_begin KX G ?a14 ?l14 ?c14 ?k14)
      (Wk.def_list_begins KX G ?a15 ?l15 ?c15 ?k15)
      (Wk.def_plan_end KX G ?a16 ?l16 ?c16 ?k16)
      (Wk.def_plan_fits KX G ?a17 ?l17 ?c17 ?k17)
      (Wk.def_list_ends KX G ?a18 ?l18 ?c18 ?k18)
      (Wk.def_list_orders KX G ?a19 ?l19 ?c19 ?k19)
      (Wk.def_need_few_jobs KX G ?a20 ?l20 ?c20 ?k20)
      (Wk.def_is_count KX G ?a21 ?l21 ?c21 ?k21)
      (Wk.def_need_machines KX G ?a22 ?l22 ?c22 ?k22)
      (Wk.def_plan_is_rising KX G ?a23 ?l23 ?c23 ?k23)
      (Wk.def_need_plan KX G ?a24 ?l24 ?c24 ?k24)
      (Wk.def_need_plan_room KX G ?a25 ?l25 ?c25 ?k25)
      (Wk.def_need_plan_asked KX G ?a26 ?l26 ?c26 ?k26)
      (Wk.def_list_all KX G ?a27 ?l27 ?c27 ?k27)
      (Wk.def_best_order KX G ?a28 ?l28 ?c28 ?k28)
      (Wk.def_plan_first_begin KX G ?a29 ?l29 ?c29 ?k29)
      (Wk.def_plan_users KX G ?a30 ?l30 ?c30 ?k30)
      (Wk.def_plan_open KX G ?a31 ?l31 ?c31 ?k31)
      (Wk.def_plan_tails KX G ?a32 ?l32 ?c32 ?k32)
      (Wk.def_plan_whole KX G ?a33 ?l33 ?c33 ?k33)
      (Wk.def_plan_best KX G ?a34 ?l34 ?c34 ?k34)
      (Wk.def_least_end KX G ?a35 ?l35 ?c35 ?k35)
      (Wk.def_need_plan_end KX G ?a36 ?l36 ?c36 ?k36)
      (Wk.def_list_count KX G ?a37 ?l37 ?c37 ?k37)
      (Wk.def_worst_order KX G ?a38 ?l38 ?c38 ?k38)
      ⟨PySem.W.mg_none_of KX G ?z0, PySem.W.mg_none_of KX G ?z1, PySem.W.mg_none_of KX G ?z2, PySem.W.mg_none_of KX G ?z3, PySem.W.mg_none_of KX G ?z4, PySem.W.mg_none_of KX G ?z5, PySem.W.mg_none_of KX G ?z6, PySem.W.mg_none_of KX G ?z7, PySem.W.mg_none_of KX G ?z8, PySem.W.mg_none_of KX G ?z9, PySem.W.mg_none_of KX G ?z10, PySem.W.mg_none_of KX G ?z11, PySem.W.mg_none_of KX G ?z12, PySem.W.mg_none_of KX G ?z13, PySem.W.mg_none_of KX G ?z14, Wk.num_of KX G ?y0, Wk.num_of KX G ?y1, Wk.num_of KX G ?y2, Wk.num_of KX G ?y3, Wk.num_of KX G ?y4, Wk.num_of KX G ?y5, Wk.num_of KX G ?y6, Wk.num_of KX G ?y7⟩
      ?a0
      ?l0
      ?c0
      ?k0
    (case a1 => k_is); (case l1 => k_is); (case c1 => k_is); (case k1 => k_is); (case a2 => k_is); (case l2 => k_is); (case c2 => k_is); (case k2 => k_is)
    (case a3 => k_is); (case l3 => k_is); (case c3 => k_is); (case k3 => k_is); (case a4 => k_is); (case l4 => k_is); (case c4 => k_is); (case k4 => k_is)
    (case a5 => k_is); (case l5 => k_is); (case c5 => k_is); (case k5 => k_is); (case a6 => k_is); (case l6 => k_is); (case c6 => k_is); (case k6 => k_is)
    (case a7 => k_is); (case l7 => k_is); (case c7 => k_is); (case k7 => k_is); (case a8 => k_is); (case l8 => k_is); (case c8 => k_is); (case k8 => k_is)
    (case a9 => k_is); (case l9 => k_is); (case c9 => k_is); (case k9 => k_is); (case a10 => k_is); (case l10 => k_is); (case c10 => k_is); (case k10 => k_is)
    (case a11 => k_is); (case l11 => k_is); (case c11 => k_is); (case k11 => k_is); (case a12 => k_is); (case l12 => k_is); (case c12 => k_is); (case k12 => k_is)
    (case a13 => k_is); (case l13 => k_is); (case c13 => k_is); (case k13 => k_is); (case a14 => k_is); (case l14 => k_is); (case c14 => k_is); (case k14 => k_is)
    (case a15 => k_is); (case l15 => k_is); (case c15 => k_is); (case k15 => k_is); (case a16 => k_is); (case l16 => k_is); (case c16 => k_is); (case k16 => k_is)
    (case a17 => k_is); (case l17 => k_is); (case c17 => k_is); (case k17 => k_is); (case a18 => k_is); (case l18 => k_is); (case c18 => k_is); (case k18 => k_is)
    (case a19 => k_is); (case l19 => k_is); (case c19 => k_is); (case k19 => k_is); (case a20 => k_is); (case l20 => k_is); (case c20 => k_is); (case k20 => k_is)
    (case a21 => k_is); (case l21 => k_is); (case c21 => k_is); (case k21 => k_is); (case a22 => k_is); (case l22 => k_is); (case c22 => k_is); (case k22 => k_is)
    (case a23 => k_is); (case l23 => k_is); (case c23 => k_is); (case k23 => k_is); (case a24 => k_is); (case l24 => k_is); (case c24 => k_is); (case k24 => k_is)
    (case a25 => k_is); (case l25 => k_is); (case c25 => k_is); (case k25 => k_is); (case a26 => k_is); (case l26 => k_is); (case c26 => k_is); (case k26 => k_is)
    (case a27 => k_is); (case l27 => k_is); (case c27 => k_is); (case k27 => k_is); (case a28 => k_is); (case l28 => k_is); (case c28 => k_is); (case k28 => k_is)
    (case a29 => k_is); (case l29 => k_is); (case c29 => k_is); (case k29 => k_is); (case a30 => k_is); (case l30 => k_is); (case c30 => k_is); (case k30 => k_is)
    (case a31 => k_is); (case l31 => k_is); (case c31 => k_is); (case k31 => k_is); (case a32 => k_is); (case l32 => k_is); (case c32 => k_is); (case k32 => k_is)
    (case a33 => k_is); (case l33 => k_is); (case c33 => k_is); (case k33 => k_is); (case a34 => k_is); (case l34 => k_is); (case c34 => k_is); (case k34 => k_is)
    (case a35 => k_is); (case l35 => k_is); (case c35 => k_is); (case k35 => k_is); (case a36 => k_is); (case l36 => k_is); (case c36 => k_is); (case k36 => k_is)
    (case a37 => k_is); (case l37 => k_is); (case c37 => k_is); (case k37 => k_is); (case a38 => k_is); (case l38 => k_is); (case c38 => k_is); (case k38 => k_is)
    (case z0 => k_is); (case z1 => k_is); (case z2 => k_is); (case z3 => k_is); (case z4 => k_is); (case z5 => k_is); (case z6 => k_is); (case z7 => k_is)
    (case z8 => k_is); (case z9 => k_is); (case z10 => k_is); (case z11 => k_is); (case z12 => k_is); (case z13 => k_is); (case z14 => k_is); (case y0 => kernel_rfl)
    (case y1 => kernel_rfl); (case y2 => kernel_rfl); (case y3 => kernel_rfl); (case y4 => kernel_rfl); (case y5 => kernel_rfl); (case y6 => kernel_rfl); (case y7 => kernel_rfl); (case a0 => k_is)
    (case l0 => k_is); (case c0 => k_is); (case k0 => k_is)
end
